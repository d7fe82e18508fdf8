import PyProof.Rows.All
import HandS.ForMost
import HandS.ForExc
import HandS.Flow
import HandS.IsInst
import HandS.Conv
import HandS.Wide
import HandS.WideBits
import HandS.Deep
import HandS.TupAny
import HandS.TupMul
import HandS.Style
import HandS.Text
import HandS.More
import HandS.Zip
import HandS.Ends
import HandS.Words
import PyProof.Rows.Range3
import PyProof.ReprLen
import PyProof.Rows.ReprOcc
import PySem.Challenge.RW_lonehall_k64_whole_neighbours_turned_in
set_option Elab.async false
set_option linter.all false
set_option maxRecDepth 100000
set_option maxHeartbeats 4000000
/-! A value layer over HandS: programs as functions on plain data. -/
namespace Lone
open PySem PySem.Spec PyProof.Rows L2
abbrev Txt := List Nat
/-- plain data -/
inductive D where
  | non | bl (b : Bool) | int (i : Int) | str (s : Txt) | tup (l : List D) | lst (l : List D)
  | dic (l : List (D × D)) | gen | scr (l : List Int) | fn (n : Nat) | exc (c : Nat) (d : D)
/-- the drawing object: a list of three ints that draws change -/
structure G3 where
  a : Int
  b : Int
  c : Int
inductive Res (α : Type) where
  | ok (x : α) (s : G3)
  | exn (c : Nat) (d : D) (s : G3)
  | bad
abbrev M (α : Type) := G3 → Res α
@[reducible] def ret {α : Type} (x : α) : M α := fun s => .ok x s
def bnd {α β : Type} (m : M α) (f : α → M β) : M β := fun s => match m s with
  | .ok x s' => f x s'
  | .exn c d s' => .exn c d s'
  | .bad => .bad
def fail {α : Type} : M α := fun _ => .bad
def wp {α : Type} (r : Res α) (P : α → G3 → Prop) (X : Nat → D → G3 → Prop) : Prop := match r with
  | .ok x s => P x s
  | .exn c d s => X c d s
  | .bad => False
theorem wp_bnd {α β : Type} {m : M α} {f : α → M β} {s : G3} {P : β → G3 → Prop} {X : Nat → D → G3 → Prop} (h : wp (bnd m f s) P X) : wp (m s) (fun x s' => wp (f x s') P X) X := by
  unfold bnd at h
  unfold wp at h ⊢
  cases e : m s with
  | ok x s' => rw [e] at h; exact h
  | exn c d s' => rw [e] at h; exact h
  | bad => rw [e] at h; exact h
theorem wp_mono {α : Type} {r : Res α} {P P' : α → G3 → Prop} {X X' : Nat → D → G3 → Prop} (h : wp r P X) (hp : ∀ x s, P x s → P' x s) (hx : ∀ c d s, X c d s → X' c d s) : wp r P' X' := by
  unfold wp at h ⊢
  cases r with
  | ok x s => exact hp _ _ h
  | exn c d s => exact hx _ _ _ h
  | bad => exact h
mutual
/-- a value that stands for data in a heap; g: where the drawing object is -/
inductive Rp (K : PySem.W.Frag) (g : Option Addr) (H : Hp) : V → D → Prop
  | non : Rp K g H .non .non
  | bl (b : Bool) : Rp K g H (.bl b) (.bl b)
  | int (i : Int) : Rp K g H (.int i) (.int i)
  | str (s : Txt) : Rp K g H (.str ⟨s.toArray⟩) (.str s)
  | tup {a : Addr} {vs : List V} {l : List D} : SqT K H a vs → Rps K g H vs l → Rp K g H (.ref a) (.tup l)
  | lst {a : Addr} {vs : List V} {l : List D} : H a = some (.lst vs) → g ≠ some a → Rps K g H vs l → Rp K g H (.ref a) (.lst l)
  | scr {a : Addr} {l : List Int} : SqL K H a (l.map V.int) → Rp K g H (.ref a) (.scr l)
  | gen {a : Addr} : g = some a → Rp K g H (.ref a) .gen
inductive Rps (K : PySem.W.Frag) (g : Option Addr) (H : Hp) : List V → List D → Prop
  | nil : Rps K g H [] []
  | cons {v : V} {d : D} {vs : List V} {l : List D} : Rp K g H v d → Rps K g H vs l → Rps K g H (v :: vs) (d :: l)
end
section
variable {K : PySem.W.Frag} {g : Option Addr} {H H' Hs Hs' : Hp}
theorem sqT_same {a : Addr} {xs : List V} (e : Same H H') (h : SqT K H a xs) : SqT K H' a xs := by
  rcases h with (h | ⟨o, h⟩) | h
  · exact .inl (.inl (e _ _ h))
  · exact .inl (.inr ⟨o, e _ _ h⟩)
  · exact .inr h
mutual
theorem Rp.up (e : Same H H') : ∀ {v : V} {d : D}, Rp K g H v d → Rp K g H' v d
  | _, _, .non => .non
  | _, _, .bl b => .bl b
  | _, _, .int i => .int i
  | _, _, .str s => .str s
  | _, _, .tup h t => .tup (sqT_same e h) (Rps.up e t)
  | _, _, .lst h n t => .lst (e _ _ h) n (Rps.up e t)
  | _, _, .scr h => .scr (e.seq h)
  | _, _, .gen h => .gen h
theorem Rps.up (e : Same H H') : ∀ {vs : List V} {l : List D}, Rps K g H vs l → Rps K g H' vs l
  | _, _, .nil => .nil
  | _, _, .cons h t => .cons (Rp.up e h) (Rps.up e t)
end
theorem Rps.len : ∀ {vs : List V} {l : List D}, Rps K g H vs l → vs.length = l.length
  | _, _, .nil => rfl
  | _, _, .cons _ t => by simp only [List.length_cons, Rps.len t]
theorem Rps.get : ∀ {vs : List V} {l : List D} {i : Nat} {d : D}, Rps K g H vs l → l[i]? = some d → ∃ v, vs[i]? = some v ∧ Rp K g H v d
  | _, _, _, _, .nil, e => by simp at e
  | _, _, 0, _, .cons h _, e => by simp at e; subst e; exact ⟨_, rfl, h⟩
  | _, _, i + 1, _, .cons _ t, e => by
    obtain ⟨v, h1, h2⟩ := Rps.get (i := i) t (by simpa using e)
    exact ⟨v, by simpa using h1, h2⟩
theorem Rps.getV : ∀ {vs : List V} {l : List D} {i : Nat} {v : V}, Rps K g H vs l → vs[i]? = some v → ∃ d, l[i]? = some d ∧ Rp K g H v d
  | _, _, _, _, .nil, e => by simp at e
  | _, _, 0, _, .cons h _, e => by simp at e; subst e; exact ⟨_, rfl, h⟩
  | _, _, i + 1, _, .cons _ t, e => by
    obtain ⟨v, h1, h2⟩ := Rps.getV (i := i) t (by simpa using e)
    exact ⟨v, by simpa using h1, h2⟩
theorem Rps.app : ∀ {vs ws : List V} {l m : List D}, Rps K g H vs l → Rps K g H ws m → Rps K g H (vs ++ ws) (l ++ m)
  | _, _, _, _, .nil, s => s
  | _, _, _, _, .cons h t, s => .cons h (Rps.app t s)
theorem Rps.take (n : Nat) : ∀ {vs : List V} {l : List D}, Rps K g H vs l → Rps K g H (vs.take n) (l.take n) := by
  induction n with
  | zero => intro vs l _; exact .nil
  | succ n ih => intro vs l h; cases h with
    | nil => exact .nil
    | cons h t => exact .cons h (ih t)
theorem Rps.drop (n : Nat) : ∀ {vs : List V} {l : List D}, Rps K g H vs l → Rps K g H (vs.drop n) (l.drop n) := by
  induction n with
  | zero => intro vs l h; exact h
  | succ n ih => intro vs l h; cases h with
    | nil => exact .nil
    | cons h t => exact ih t
theorem Rps.set {v : V} {d : D} (h : Rp K g H v d) : ∀ {vs : List V} {l : List D} (i : Nat), Rps K g H vs l → Rps K g H (vs.set i v) (l.set i d)
  | _, _, _, .nil => .nil
  | _, _, 0, .cons _ t => .cons h t
  | _, _, i + 1, .cons q t => .cons q (Rps.set h i t)
theorem Rps.rev : ∀ {vs : List V} {l : List D}, Rps K g H vs l → Rps K g H vs.reverse l.reverse
  | _, _, .nil => .nil
  | _, _, .cons h t => by
    rw [List.reverse_cons, List.reverse_cons]
    exact Rps.app (Rps.rev t) (.cons h .nil)
theorem Rps.ints {l : List Int} : Rps K g H (l.map V.int) (l.map D.int) := by
  induction l with
  | nil => exact .nil
  | cons x r ih => exact .cons (.int x) ih
theorem Rps.of_ints : ∀ {l : List Int} {vs : List V}, Rps K g H vs (l.map D.int) → vs = l.map V.int
  | [], _, .nil => rfl
  | x :: r, _, .cons (.int _) t => by rw [Rps.of_ints t]; rfl
theorem Rps.bls {l : List Bool} : Rps K g H (l.map V.bl) (l.map D.bl) := by
  induction l with
  | nil => exact .nil
  | cons x r ih => exact .cons (.bl x) ih
theorem Rps.of_bls : ∀ {l : List Bool} {vs : List V}, Rps K g H vs (l.map D.bl) → vs = l.map V.bl
  | [], _, .nil => rfl
  | x :: r, _, .cons (.bl _) t => by rw [Rps.of_bls t]; rfl
end
/-! ### owned data -/
inductive O where
  | sh (d : D) | lst (l : List O) | tup (l : List O)
mutual
def O.d : O → D
  | .sh d => d
  | .lst l => .lst (O.ds l)
  | .tup l => .tup (O.ds l)
def O.ds : List O → List D
  | [] => []
  | o :: r => O.d o :: O.ds r
end
theorem O.ds_sh (l : List D) : O.ds (l.map O.sh) = l := by
  induction l with
  | nil => rfl
  | cons x r ih => show O.d (.sh x) :: O.ds (r.map O.sh) = _; rw [ih]; rfl
theorem O.ds_len (l : List O) : (O.ds l).length = l.length := by
  induction l with
  | nil => rfl
  | cons x r ih => show (O.ds r).length + 1 = _; rw [ih]; rfl
mutual
inductive RO (K : PySem.W.Frag) (g : Option Addr) (Hs H : Hp) : V → O → List Addr → Prop
  | sh {v : V} {d : D} : Rp K g Hs v d → RO K g Hs H v (.sh d) []
  | lst {a : Addr} {vs : List V} {l : List O} {F : List Addr} : H a = some (.lst vs) → Hs a = none → g ≠ some a → ROs K g Hs H vs l F → a ∉ F → RO K g Hs H (.ref a) (.lst l) (a :: F)
  | tup {a : Addr} {vs : List V} {l : List O} {F : List Addr} : SqT K H a vs → ROs K g Hs H vs l F → RO K g Hs H (.ref a) (.tup l) F
inductive ROs (K : PySem.W.Frag) (g : Option Addr) (Hs H : Hp) : List V → List O → List Addr → Prop
  | nil : ROs K g Hs H [] [] []
  | cons {v : V} {o : O} {vs : List V} {l : List O} {F F' : List Addr} : RO K g Hs H v o F → ROs K g Hs H vs l F' → (∀ a ∈ F, a ∉ F') → ROs K g Hs H (v :: vs) (o :: l) (F ++ F')
end
/-- parts that are only read -/
inductive RBs (K : PySem.W.Frag) (g : Option Addr) (Hs H : Hp) : List V → List O → Prop
  | nil : RBs K g Hs H [] []
  | cons {v : V} {o : O} {vs : List V} {l : List O} {F : List Addr} : RO K g Hs H v o F → RBs K g Hs H vs l → RBs K g Hs H (v :: vs) (o :: l)
/-- what may change -/
def isMu : HO → Bool
  | .tup _ => false
  | .frz _ _ => false
  | .rng _ _ => false
  | .tbl _ => false
  | .met _ _ => false
  | .own _ => false
  | _ => true
def GenAt (g : Option Addr) (Hs H : Hp) (s : G3) : Prop := ∀ a, g = some a → Hs a = none ∧ H a = some (.lst [.int s.a, .int s.b, .int s.c])
/-- a step that leaves what is owned ahead of it -/
structure Nx (g : Option Addr) (Hs H Hs' H' : Hp) (s' : G3) : Prop where
  sub0 : Same Hs H
  gen0 : ∃ s, GenAt g Hs H s
  up : Same Hs Hs'
  sub : Same Hs' H'
  gen : GenAt g Hs' H' s'
  fr : ∀ a o, isMu o = true → H a = some o → Hs a = none → g ≠ some a → H' a = some o ∧ Hs' a = none
  im : ∀ a o, isMu o = false → H a = some o → H' a = some o
section
variable {K : PySem.W.Frag} {g : Option Addr} {H H' H'' Hs Hs' Hs'' : Hp} {s s' s'' : G3}
theorem Nx.refl (h : Same Hs H) (q : GenAt g Hs H s) : Nx g Hs H Hs H s := ⟨h, ⟨_, q⟩, Same.refl _, h, q, fun _ _ _ e n _ => ⟨e, n⟩, fun _ _ _ e => e⟩
theorem Nx.trans (a : Nx g Hs H Hs' H' s') (b : Nx g Hs' H' Hs'' H'' s'') : Nx g Hs H Hs'' H'' s'' :=
  ⟨a.sub0, a.gen0, a.up.trans b.up, b.sub, b.gen, fun c o m e n z => by
    obtain ⟨e1, n1⟩ := a.fr c o m e n z
    exact b.fr c o m e1 n1 z, fun c o m e => b.im c o m (a.im c o m e)⟩
theorem Nx.self (a : Nx g Hs H Hs' H' s') : Nx g Hs' H' Hs' H' s' := .refl a.sub a.gen
theorem Nx.self0 (a : Nx g Hs H Hs' H' s') : ∃ s, Nx g Hs H Hs H s := let ⟨s, q⟩ := a.gen0; ⟨s, .refl a.sub0 q⟩
/-- what is tracked, and is not the drawing object, stays -/
theorem Nx.stay (a : Nx g Hs H Hs' H' s') {c : Addr} {o : HO} (e : H c = some o) (n : g ≠ some c) : H' c = some o := by
  cases q : Hs c with
  | some u =>
    have e1 := a.sub0 _ _ q
    rw [e] at e1; cases e1
    exact a.sub _ _ (a.up _ _ q)
  | none =>
    cases m : isMu o with
    | true => exact (a.fr c o m e q n).1
    | false => exact a.im c o m e
theorem Nx.there (a : Nx g Hs H Hs' H' s') {c : Addr} (h : H' c = none) : H c = none := by
  cases e : H c with
  | none => rfl
  | some o =>
    by_cases z : g = some c
    · have := (a.gen c z).2
      rw [h] at this; cases this
    · have := a.stay e z
      rw [h] at this; cases this
theorem Nx.sqT (a : Nx g Hs H Hs' H' s') {p : Addr} {xs : List V} (h : SqT K H p xs) : SqT K H' p xs := by
  rcases h with (h | ⟨o, h⟩) | h
  · exact .inl (.inl (a.im _ _ rfl h))
  · exact .inl (.inr ⟨o, a.im _ _ rfl h⟩)
  · exact .inr h
mutual
theorem RO.next (n : Nx g Hs H Hs' H' s') : ∀ {v : V} {o : O} {F : List Addr}, RO K g Hs H v o F → RO K g Hs' H' v o F
  | _, _, _, .sh h => .sh (h.up n.up)
  | _, _, _, .lst h q z t w => .lst (n.fr _ _ rfl h q z).1 (n.fr _ _ rfl h q z).2 z (ROs.next n t) w
  | _, _, _, .tup h t => .tup (n.sqT h) (ROs.next n t)
theorem ROs.next (n : Nx g Hs H Hs' H' s') : ∀ {vs : List V} {os : List O} {F : List Addr}, ROs K g Hs H vs os F → ROs K g Hs' H' vs os F
  | _, _, _, .nil => .nil
  | _, _, _, .cons h t d => .cons (RO.next n h) (ROs.next n t) d
end
theorem RBs.next (n : Nx g Hs H Hs' H' s') : ∀ {vs : List V} {os : List O}, RBs K g Hs H vs os → RBs K g Hs' H' vs os
  | _, _, .nil => .nil
  | _, _, .cons h t => .cons (h.next n) (RBs.next n t)
theorem ROs.rbs : ∀ {vs : List V} {os : List O} {F : List Addr}, ROs K g Hs H vs os F → RBs K g Hs H vs os
  | _, _, _, .nil => .nil
  | _, _, _, .cons h t _ => .cons h t.rbs
mutual
/-- every owned address is tracked, and shared by none -/
theorem RO.own : ∀ {v : V} {o : O} {F : List Addr}, RO K g Hs H v o F → ∀ a ∈ F, (∃ vs, H a = some (.lst vs)) ∧ Hs a = none ∧ g ≠ some a
  | _, _, _, .sh _ => fun _ h => nomatch h
  | _, _, _, .lst h q z t _ => fun a m => by
    rcases List.mem_cons.mp m with e | m
    · subst e; exact ⟨⟨_, h⟩, q, z⟩
    · exact ROs.own t a m
  | _, _, _, .tup _ t => ROs.own t
theorem ROs.own : ∀ {vs : List V} {os : List O} {F : List Addr}, ROs K g Hs H vs os F → ∀ a ∈ F, (∃ vs, H a = some (.lst vs)) ∧ Hs a = none ∧ g ≠ some a
  | _, _, _, .nil => fun _ h => nomatch h
  | _, _, _, .cons h t _ => fun a m => by
    rcases List.mem_append.mp m with m | m
    · exact RO.own h a m
    · exact ROs.own t a m
end
mutual
/-- read as plain data of the whole heap -/
theorem RO.read (sb : Same Hs H) : ∀ {v : V} {o : O} {F : List Addr}, RO K g Hs H v o F → Rp K g H v o.d
  | _, _, _, .sh h => h.up sb
  | _, _, _, .lst h _ z t _ => .lst h z (ROs.read sb t)
  | _, _, _, .tup h t => .tup h (ROs.read sb t)
theorem ROs.read (sb : Same Hs H) : ∀ {vs : List V} {os : List O} {F : List Addr}, ROs K g Hs H vs os F → Rps K g H vs (O.ds os)
  | _, _, _, .nil => .nil
  | _, _, _, .cons h t _ => .cons (RO.read sb h) (ROs.read sb t)
end
theorem RBs.read (sb : Same Hs H) : ∀ {vs : List V} {os : List O}, RBs K g Hs H vs os → Rps K g H vs (O.ds os)
  | _, _, .nil => .nil
  | _, _, .cons h t => .cons (h.read sb) (RBs.read sb t)
end
/-! ### what is owned becomes shared -/
/-- the shared heap, more of it -/
def mix (Hs H : Hp) (A : Addr → Prop) [DecidablePred A] : Hp := fun a => if A a then H a else Hs a
section
variable {K : PySem.W.Frag} {g : Option Addr} {H Hs : Hp} {A : Addr → Prop} [DecidablePred A]
theorem mix_up (sb : Same Hs H) : Same Hs (mix Hs H A) := fun a o e => by
  unfold mix
  split
  · exact sb _ _ e
  · exact e
theorem mix_sub (sb : Same Hs H) : Same (mix Hs H A) H := fun a o e => by
  unfold mix at e
  split at e
  · exact e
  · exact sb _ _ e
theorem mix_in {a : Addr} (h : A a) : mix Hs H A a = H a := if_pos h
theorem mix_out {a : Addr} (h : ¬ A a) : mix Hs H A a = Hs a := if_neg h
end
section
variable {K : PySem.W.Frag} {g : Option Addr} {H Hs : Hp}
open Classical in
theorem mix_more {A B : List Addr} (sb : Same Hs H) (h : ∀ a ∈ A, a ∈ B) : Same (mix Hs H (fun a => a ∈ A)) (mix Hs H (fun a => a ∈ B)) := fun b o e => by
  by_cases m : b ∈ A
  · rw [mix_in m] at e
    exact (mix_in (h b m)).trans e
  · rw [mix_out m] at e
    exact mix_up sb _ _ e
open Classical in
theorem sqT_mix (sb : Same Hs H) {p : Addr} {xs : List V} (h : SqT K H p xs) : ∃ A : List Addr, (∀ a ∈ A, ∃ o, isMu o = false ∧ H a = some o) ∧ SqT K (mix Hs H (fun a => a ∈ A)) p xs := by
  rcases h with (h | ⟨o, h⟩) | h
  · exact ⟨[p], fun a m => ⟨_, rfl, List.mem_singleton.mp m ▸ h⟩, .inl (.inl ((mix_in (List.mem_singleton.mpr rfl)).trans h))⟩
  · exact ⟨[p], fun a m => ⟨_, rfl, List.mem_singleton.mp m ▸ h⟩, .inl (.inr ⟨o, (mix_in (List.mem_singleton.mpr rfl)).trans h⟩)⟩
  · exact ⟨[], fun _ m => (nomatch m), .inr h⟩
open Classical in
mutual
theorem RO.frozen (sb : Same Hs H) : ∀ {v : V} {o : O} {F : List Addr}, RO K g Hs H v o F → ∃ A : List Addr, (∀ a ∈ A, a ∈ F ∨ ∃ o, isMu o = false ∧ H a = some o) ∧ Rp K g (mix Hs H (fun a => a ∈ A)) v o.d
  | _, _, _, .sh h => ⟨[], fun _ h => (nomatch h), h.up (mix_up sb)⟩
  | _, _, _, .lst (a := a) h _ z t _ => by
    obtain ⟨A, hA, r⟩ := ROs.frozen sb t
    refine ⟨a :: A, fun b m => ?_, .lst ((mix_in (List.mem_cons_self ..)).trans h) z (r.up (mix_more sb fun b m => List.mem_cons_of_mem _ m))⟩
    rcases List.mem_cons.mp m with e | m
    · exact .inl (e ▸ List.mem_cons_self ..)
    · exact (hA b m).imp (List.mem_cons_of_mem _) id
  | _, _, _, .tup (a := a) h t => by
    obtain ⟨A, hA, r⟩ := ROs.frozen sb t
    obtain ⟨B, hB, q⟩ := sqT_mix sb h
    refine ⟨B ++ A, fun b m => ?_, .tup (sqT_same (mix_more sb fun b m => List.mem_append_left _ m) q) (r.up (mix_more sb fun b m => List.mem_append_right _ m))⟩
    rcases List.mem_append.mp m with m | m
    · exact .inr (hB b m)
    · exact hA b m
theorem ROs.frozen (sb : Same Hs H) : ∀ {vs : List V} {os : List O} {F : List Addr}, ROs K g Hs H vs os F → ∃ A : List Addr, (∀ a ∈ A, a ∈ F ∨ ∃ o, isMu o = false ∧ H a = some o) ∧ Rps K g (mix Hs H (fun a => a ∈ A)) vs (O.ds os)
  | _, _, _, .nil => ⟨[], fun _ h => (nomatch h), .nil⟩
  | _, _, _, .cons h t _ => by
    obtain ⟨A, hA, r⟩ := RO.frozen sb h
    obtain ⟨B, hB, q⟩ := ROs.frozen sb t
    refine ⟨A ++ B, fun b m => ?_, .cons (r.up (mix_more sb fun b m => List.mem_append_left _ m)) (q.up (mix_more sb fun b m => List.mem_append_right _ m))⟩
    rcases List.mem_append.mp m with m | m
    · exact (hA b m).imp (List.mem_append_left _) id
    · exact (hB b m).imp (List.mem_append_right _) id
end
open Classical in
theorem mix_nx {Hs0 H0 : Hp} {s : G3} (n : Nx g Hs0 H0 Hs H s) {A F : List Addr} (hA : ∀ a ∈ A, a ∈ F ∨ ∃ o, isMu o = false ∧ H a = some o) (fresh : ∀ a ∈ F, H0 a = none) (ng : ∀ a ∈ F, g ≠ some a) : Nx g Hs0 H0 (mix Hs H (fun a => a ∈ A)) H s := by
  refine ⟨n.sub0, n.gen0, n.up.trans (mix_up n.sub), mix_sub n.sub, fun p e => ?_, fun a o m e z y => ?_, n.im⟩
  · have q := n.gen p e
    refine ⟨(mix_out fun m => ?_).trans q.1, q.2⟩
    rcases hA p m with w | ⟨o, w, w2⟩
    · exact ng p w e
    · rw [q.2] at w2; cases w2; cases w
  · have q := n.fr a o m e z y
    refine ⟨q.1, (mix_out fun w => ?_).trans q.2⟩
    rcases hA a w with w | ⟨u, w, w2⟩
    · have := fresh a w; rw [e] at this; cases this
    · rw [q.1] at w2; cases w2; rw [m] at w; cases w
open Classical in
/-- what was made just now is shared from now on -/
theorem RO.share {Hs0 H0 : Hp} {v : V} {o : O} {F : List Addr} {s : G3} (n : Nx g Hs0 H0 Hs H s) (h : RO K g Hs H v o F) (fresh : ∀ a ∈ F, H0 a = none) : ∃ Hs', Nx g Hs0 H0 Hs' H s ∧ Same Hs Hs' ∧ Rp K g Hs' v o.d := by
  obtain ⟨A, hA, r⟩ := h.frozen n.sub
  exact ⟨_, mix_nx n hA fresh (fun a m => (h.own a m).2.2), mix_up n.sub, r⟩
open Classical in
theorem ROs.share {Hs0 H0 : Hp} {vs : List V} {os : List O} {F : List Addr} {s : G3} (n : Nx g Hs0 H0 Hs H s) (h : ROs K g Hs H vs os F) (fresh : ∀ a ∈ F, H0 a = none) : ∃ Hs', Nx g Hs0 H0 Hs' H s ∧ Same Hs Hs' ∧ Rps K g Hs' vs (O.ds os) := by
  obtain ⟨A, hA, r⟩ := h.frozen n.sub
  exact ⟨_, mix_nx n hA fresh (fun a m => (h.own a m).2.2), mix_up n.sub, r⟩
/-- a new object -/
theorem Nx.newO {Hs0 H0 : Hp} {s : G3} {p : Addr} {o : HO} (n : Nx g Hs0 H0 Hs H s) (h : H p = none) : Nx g Hs0 H0 Hs (upd H p o) s := by
  have ne : ∀ a u, H a = some u → a ≠ p := fun a u e z => by subst z; rw [h] at e; cases e
  refine ⟨n.sub0, n.gen0, n.up, fun a u e => ?_, fun a e => ?_, fun a u m e z y => ?_, fun a u m e => ?_⟩
  · rw [upd_ne (ne _ _ (n.sub _ _ e))]; exact n.sub _ _ e
  · rw [upd_ne (ne _ _ (n.gen a e).2)]; exact n.gen a e
  · have q := n.fr a u m e z y
    rw [upd_ne (ne _ _ q.1)]; exact q
  · rw [upd_ne (ne _ _ (n.im a u m e))]; exact n.im a u m e
theorem Nx.newS {Hs0 H0 : Hp} {s : G3} {p : Addr} {o : HO} (n : Nx g Hs0 H0 Hs H s) (h : H p = none) : Nx g Hs0 H0 (upd Hs p o) (upd H p o) s := by
  have ne : ∀ a u, H a = some u → a ≠ p := fun a u e z => by subst z; rw [h] at e; cases e
  have hs : Hs p = none := n.sub.free h
  have ne' : ∀ a u, Hs a = some u → a ≠ p := fun a u e => ne a u (n.sub _ _ e)
  refine ⟨n.sub0, n.gen0, fun a u e => ?_, fun a u e => ?_, fun a e => ?_, fun a u m e z y => ?_, fun a u m e => ?_⟩
  · rw [upd_ne (ne' _ _ (n.up _ _ e))]; exact n.up _ _ e
  · by_cases q : a = p
    · subst q; rw [upd_same] at e ⊢; exact e
    · rw [upd_ne q] at e ⊢; exact n.sub _ _ e
  · rw [upd_ne (ne _ _ (n.gen a e).2), upd_ne (ne _ _ (n.gen a e).2)]; exact n.gen a e
  · have q := n.fr a u m e z y
    rw [upd_ne (ne _ _ q.1), upd_ne (ne _ _ q.1)]; exact q
  · rw [upd_ne (ne _ _ (n.im a u m e))]; exact n.im a u m e
theorem same_new {H : Hp} {p : Addr} {o : HO} (h : H p = none) : Same H (upd H p o) := fun a u e => by
  rw [upd_ne (fun z => by subst z; rw [h] at e; cases e)]; exact e
end
end Lone
namespace Lone
open PySem PySem.Spec PyProof.Rows L2
/-! ### frames -/
inductive Sl where
  | un | ob (o : O)
abbrev En := List Sl
/-- the slots of a frame hold data; Hs₀, H₀: the heaps at the frame's entry -/
structure SR (K : PySem.W.Frag) (g : Option Addr) (Hs0 H0 : Hp) (r : En) (σ : L2.St) (Hs H : Hp) (s : G3) : Prop where
  nx : Nx g Hs0 H0 Hs H s
  len : r.length = σ.length
  ex : ∃ F : Nat → List Addr, (∀ i o, r[i]? = some (.ob o) → ∃ v, σ[i]? = some (some v) ∧ RO K g Hs H v o (F i)) ∧ (∀ i j a, a ∈ F i → a ∈ F j → i = j) ∧ ∀ i a, a ∈ F i → H0 a = none ∧ ∃ u, H a = some u
section
variable {K : PySem.W.Frag} {g : Option Addr} {Hs0 H0 Hs H Hs' H' : Hp} {r : En} {σ : L2.St} {s s' : G3}
theorem SR.next (h : SR K g Hs0 H0 r σ Hs H s) (n : Nx g Hs H Hs' H' s') : SR K g Hs0 H0 r σ Hs' H' s' := by
  obtain ⟨F, f1, f2, f3⟩ := h.ex
  refine ⟨h.nx.trans n, h.len, F, fun i o e => ?_, f2, fun i a m => ⟨(f3 i a m).1, ?_⟩⟩
  · obtain ⟨v, e1, e2⟩ := f1 i o e
    exact ⟨v, e1, e2.next n⟩
  · cases q : H' a with
    | some u => exact ⟨u, rfl⟩
    | none =>
      obtain ⟨u, e⟩ := (f3 i a m).2
      rw [n.there q] at e; cases e
theorem SR.start (h : SR K g Hs0 H0 r σ Hs H s) : Nx g Hs H Hs H s := h.nx.self
/-- a slot is stored -/
theorem SR.store {Hs1 H1 : Hp} {s1 : G3} {v : V} {o : O} {F0 : List Addr} {i : Nat} (h : SR K g Hs0 H0 r σ Hs1 H1 s1) (n : Nx g Hs1 H1 Hs H s) (q : RO K g Hs H v o F0) (fresh : ∀ a ∈ F0, H1 a = none) :
    SR K g Hs0 H0 (r.set i (.ob o)) (σ.set i (some v)) Hs H s := by
  have h' := h.next n
  obtain ⟨F, f1, f2, f3⟩ := h.ex
  refine ⟨h'.nx, by rw [List.length_set, List.length_set]; exact h.len, fun j => if j = i then F0 else F j, fun j u e => ?_, fun j k a m1 m2 => ?_, fun j a m => ?_⟩
  · show ∃ v_1, (List.set σ i (some v))[j]? = some (some v_1) ∧ RO K g Hs H v_1 u (if j = i then F0 else F j)
    by_cases z : j = i
    · subst z
      rw [if_pos rfl]
      have hl : j < r.length := by
        have := List.getElem?_eq_some_iff.mp e
        obtain ⟨hl, _⟩ := this
        rwa [List.length_set] at hl
      rw [List.getElem?_set_self hl] at e
      cases e
      exact ⟨v, List.getElem?_set_self (h.len ▸ hl), q⟩
    · rw [if_neg z]
      rw [List.getElem?_set_ne (Ne.symm z)] at e ⊢
      obtain ⟨v', e1, e2⟩ := f1 j u e
      exact ⟨v', e1, e2.next n⟩
  · replace m1 : a ∈ (if j = i then F0 else F j) := m1
    replace m2 : a ∈ (if k = i then F0 else F k) := m2
    have old : ∀ k, a ∈ F k → a ∈ F0 → False := fun k m m0 => by
      obtain ⟨_, u, e⟩ := f3 k a m
      rw [fresh a m0] at e; cases e
    split at m1 <;> split at m2
    · rename_i e1 e2; rw [e1, e2]
    · exact (old _ m2 m1).elim
    · exact (old _ m1 m2).elim
    · exact f2 _ _ _ m1 m2
  · replace m : a ∈ (if j = i then F0 else F j) := m
    split at m
    · refine ⟨h.nx.there (fresh a m), ?_⟩
      obtain ⟨⟨vs, e⟩, _⟩ := q.own a m
      exact ⟨_, e⟩
    · refine ⟨(f3 j a m).1, ?_⟩
      cases q' : H a with
      | some u => exact ⟨u, rfl⟩
      | none =>
        obtain ⟨u, e⟩ := (f3 j a m).2
        rw [n.there q'] at e; cases e
theorem SR.wipe1 {i : Nat} (h : SR K g Hs0 H0 r σ Hs H s) : SR K g Hs0 H0 (r.set i .un) (σ.set i none) Hs H s := by
  obtain ⟨F, f1, f2, f3⟩ := h.ex
  refine ⟨h.nx, by rw [List.length_set, List.length_set]; exact h.len, F, fun j u e => ?_, f2, f3⟩
  by_cases z : i = j
  · subst z
    by_cases hl : i < r.length
    · rw [List.getElem?_set_self hl] at e; cases e
    · rw [List.getElem?_eq_none (by rw [List.length_set]; omega)] at e; cases e
  · rw [List.getElem?_set_ne z] at e ⊢
    exact f1 j u e
def wipeE (r : En) : List Nat → En
  | [] => r
  | v :: vs => (wipeE r vs).set v .un
theorem SR.wipe (h : SR K g Hs0 H0 r σ Hs H s) : ∀ vs : List Nat, SR K g Hs0 H0 (wipeE r vs) (wipe σ vs) Hs H s
  | [] => h
  | _ :: vs => (SR.wipe h vs).wipe1
theorem SR.at (h : SR K g Hs0 H0 r σ Hs H s) {i : Nat} {o : O} (e : r[i]? = some (.ob o)) : ∃ v F, σ[i]? = some (some v) ∧ RO K g Hs H v o F ∧ ∀ a ∈ F, H0 a = none := by
  obtain ⟨F, f1, _, f3⟩ := h.ex
  obtain ⟨v, e1, e2⟩ := f1 i o e
  exact ⟨v, F i, e1, e2, fun a m => (f3 i a m).1⟩
end
/-! ### what a reading does with data -/
/-- the written part, and the classes of errors by number -/
structure Ct where
  K : PySem.W.Frag
  cl : Nat → Value
/-- what is wanted of an error -/
def XP (C : Ct) (E : XK) (g : Option Addr) (Hs H : Hp) (c : Nat) (d : D) (s' : G3) : Prop :=
  ∀ v x Hs' H', Nx g Hs H Hs' H' s' → Rp C.K g Hs' v d → H' x = some (.xd [("value", v)]) → E (C.cl c) (some x) H'
theorem XP.later {C : Ct} {E : XK} {g : Option Addr} {Hs H Hs' H' : Hp} {s : G3} {c : Nat} {d : D} {s' : G3} (n : Nx g Hs H Hs' H' s) (h : XP C E g Hs H c d s') : XP C E g Hs' H' c d s' :=
  fun v x Hs2 H2 n2 r e => h v x Hs2 H2 (n.trans n2) r e
/-- owned or shared: the value is the evaluation's own -/
def SimO (C : Ct) (E : XK) (t : TE) (m : En → M O) : Prop := ∀ g Hs0 H0 r σ Hs H s Q, SR C.K g Hs0 H0 r σ Hs H s →
  wp (m r s) (fun o s' => ∀ v F Hs' H', Nx g Hs H Hs' H' s' → RO C.K g Hs' H' v o F → (∀ a ∈ F, H a = none) → Q v H') (XP C E g Hs H) → t σ H Q
/-- the value is only looked at -/
def SimB (C : Ct) (E : XK) (t : TE) (m : En → M O) : Prop := ∀ g Hs0 H0 r σ Hs H s Q, SR C.K g Hs0 H0 r σ Hs H s →
  wp (m r s) (fun o s' => ∀ v F Hs' H', Nx g Hs H Hs' H' s' → RO C.K g Hs' H' v o F → Q v H') (XP C E g Hs H) → t σ H Q
/-- the value leaves the frame -/
def SimM (C : Ct) (E : XK) (t : TE) (m : En → M O) : Prop := ∀ g Hs0 H0 r σ Hs H s Q, SR C.K g Hs0 H0 r σ Hs H s →
  wp (m r s) (fun o s' => ∀ v F Hs' H', Nx g Hs H Hs' H' s' → RO C.K g Hs' H' v o F → (∀ a ∈ F, H0 a = none) → Q v H') (XP C E g Hs H) → t σ H Q
def SimT (C : Ct) (E : XK) (t : TT) (m : En → M Bool) : Prop := ∀ g Hs0 H0 r σ Hs H s Q, SR C.K g Hs0 H0 r σ Hs H s →
  wp (m r s) (fun b s' => ∀ Hs' H', Nx g Hs H Hs' H' s' → Q b H') (XP C E g Hs H) → t σ H Q
def SimAO (C : Ct) (E : XK) (t : TA) (m : En → M (List O)) : Prop := ∀ g Hs0 H0 r σ Hs H s Q, SR C.K g Hs0 H0 r σ Hs H s →
  wp (m r s) (fun os s' => ∀ vs F Hs' H', Nx g Hs H Hs' H' s' → ROs C.K g Hs' H' vs os F → (∀ a ∈ F, H a = none) → Q vs H') (XP C E g Hs H) → t σ H Q
def SimAB (C : Ct) (E : XK) (t : TA) (m : En → M (List O)) : Prop := ∀ g Hs0 H0 r σ Hs H s Q, SR C.K g Hs0 H0 r σ Hs H s →
  wp (m r s) (fun os s' => ∀ vs Hs' H', Nx g Hs H Hs' H' s' → RBs C.K g Hs' H' vs os → Q vs H') (XP C E g Hs H) → t σ H Q
theorem SimO.b {C : Ct} {E : XK} {t : TE} {m : En → M O} (h : SimO C E t m) : SimB C E t m := fun g Hs0 H0 r σ Hs H s Q R w =>
  h g Hs0 H0 r σ Hs H s Q R (wp_mono w (fun _ _ q v F Hs' H' n ro _ => q v F Hs' H' n ro) fun _ _ _ x => x)
theorem SimO.m {C : Ct} {E : XK} {t : TE} {m : En → M O} (h : SimO C E t m) : SimM C E t m := fun g Hs0 H0 r σ Hs H s Q R w =>
  h g Hs0 H0 r σ Hs H s Q R (wp_mono w (fun _ _ q v F Hs' H' n ro f => q v F Hs' H' n ro fun a m => R.nx.there (f a m)) fun _ _ _ x => x)
/-! ### judgements: a piece of syntax, what it does with data -/
def EO (X : Cx) (C : Ct) (E : XK) (e : Expr) (m : En → M O) : Prop := ∃ t, PE X e t ∧ SimO C E t m
def EB (X : Cx) (C : Ct) (E : XK) (e : Expr) (m : En → M O) : Prop := ∃ t, PE X e t ∧ SimB C E t m
def EM (X : Cx) (C : Ct) (E : XK) (e : Expr) (m : En → M O) : Prop := ∃ t, PE X e t ∧ SimM C E t m
def ET (X : Cx) (C : Ct) (E : XK) (e : Expr) (m : En → M Bool) : Prop := ∃ t, PT X e t ∧ SimT C E t m
def AO (X : Cx) (C : Ct) (E : XK) (e : List Expr) (m : En → M (List O)) : Prop := ∃ t, PA X e t ∧ SimAO C E t m
def AB (X : Cx) (C : Ct) (E : XK) (e : List Expr) (m : En → M (List O)) : Prop := ∃ t, PA X e t ∧ SimAB C E t m
section
variable {X : Cx} {C : Ct} {E : XK} {e : Expr} {m : En → M O}
theorem EO.b (h : EO X C E e m) : EB X C E e m := let ⟨t, p, q⟩ := h; ⟨t, p, q.b⟩
theorem EO.mov (h : EO X C E e m) : EM X C E e m := let ⟨t, p, q⟩ := h; ⟨t, p, q.m⟩
/-! ### constants, names -/
def mC (d : D) : En → M O := fun _ => ret (.sh d)
theorem sim_c {v : V} {d : D} (h : ∀ K g H, Rp K g H v d) : SimO C E (tC v) (mC d) := fun g Hs0 H0 r σ Hs H s Q R w =>
  w v [] Hs H R.start (.sh (h _ _ _)) fun _ m => nomatch m
theorem eo_int {i : Int} {j pos} : EO X C E (.Constant (.int i) j pos) (mC (.int i)) := ⟨_, pe_int, sim_c fun _ _ _ => .int i⟩
theorem eo_bl {b : Bool} {j pos} : EO X C E (.Constant (.bool b) j pos) (mC (.bl b)) := ⟨_, pe_bl, sim_c fun _ _ _ => .bl b⟩
theorem eo_non {j pos} : EO X C E (.Constant .none j pos) (mC .non) := ⟨_, pe_non, sim_c fun _ _ _ => .non⟩
theorem eo_str {x : Str} {l : Txt} {j pos} (h : x = ⟨l.toArray⟩) : EO X C E (.Constant (.str x) j pos) (mC (.str l)) := ⟨_, pe_str, sim_c fun _ _ _ => h ▸ .str l⟩
/-- a name, looked at -/
def mV (i : Nat) : En → M O := fun r s => match r[i]? with
  | some (.ob o) => .ok o s
  | _ => .bad
/-- a name whose thing is shared -/
def mS (i : Nat) : En → M O := fun r s => match r[i]? with
  | some (.ob (.sh d)) => .ok (.sh d) s
  | _ => .bad
theorem simB_v (i : Nat) : SimB C E (tVar i) (mV i) := fun g Hs0 H0 r σ Hs H s Q R w => by
  unfold mV at w
  split at w
  · rename_i o e
    obtain ⟨v, F, e1, e2, _⟩ := R.at e
    exact ⟨v, e1, w v F Hs H R.start e2⟩
  · exact w.elim
theorem simO_s (i : Nat) : SimO C E (tVar i) (mS i) := fun g Hs0 H0 r σ Hs H s Q R w => by
  unfold mS at w
  split at w
  · rename_i d e
    obtain ⟨v, F, e1, e2, _⟩ := R.at e
    refine ⟨v, e1, w v F Hs H R.start e2 ?_⟩
    cases e2
    exact fun _ m => nomatch m
  · exact w.elim
theorem simM_v (i : Nat) : SimM C E (tVar i) (mV i) := fun g Hs0 H0 r σ Hs H s Q R w => by
  unfold mV at w
  split at w
  · rename_i o e
    obtain ⟨v, F, e1, e2, e3⟩ := R.at e
    exact ⟨v, e1, w v F Hs H R.start e2 e3⟩
  · exact w.elim
theorem eb_v (i : Nat) {x : Str} {pos : Pos} (h : PE X (.Name x pos) (tVar i)) : EB X C E (.Name x pos) (mV i) := ⟨_, h, simB_v i⟩
theorem eo_v (i : Nat) {x : Str} {pos : Pos} (h : PE X (.Name x pos) (tVar i)) : EO X C E (.Name x pos) (mS i) := ⟨_, h, simO_s i⟩
theorem em_v (i : Nat) {x : Str} {pos : Pos} (h : PE X (.Name x pos) (tVar i)) : EM X C E (.Name x pos) (mV i) := ⟨_, h, simM_v i⟩
/-- a module's constant -/
theorem eo_glob {x : Str} {v : V} {d : D} {pos : Pos} (h : PE X (.Name x pos) (tC v)) (q : ∀ g H, Rp C.K g H v d) : EO X C E (.Name x pos) (mC d) :=
  ⟨_, h, fun g Hs0 H0 r σ Hs H s Q R w => w v [] Hs H R.start (.sh (q _ _)) fun _ m => nomatch m⟩
/-! ### argument lists -/
def mNil : En → M (List O) := fun _ => ret []
def mCons (m : En → M O) (ms : En → M (List O)) : En → M (List O) := fun r => bnd (m r) fun o => bnd (ms r) fun os => ret (o :: os)
theorem ao_nil : AO X C E [] mNil := ⟨_, pa_nil, fun g Hs0 H0 r σ Hs H s Q R w => w [] [] Hs H R.start .nil fun _ m => nomatch m⟩
theorem ab_nil : AB X C E [] mNil := ⟨_, pa_nil, fun g Hs0 H0 r σ Hs H s Q R w => w [] Hs H R.start .nil⟩
theorem ao_cons {es : List Expr} {ms : En → M (List O)} (h : EO X C E e m) (hs : AO X C E es ms) (st : starEach (e :: es) X.env = (false, eval e X.env) :: starEach es X.env := by rfl) : AO X C E (e :: es) (mCons m ms) := by
  obtain ⟨t, p, q⟩ := h
  obtain ⟨ts, ps, qs⟩ := hs
  refine ⟨_, pa_cons p ps st, fun g Hs0 H0 r σ Hs H s Q R w => ?_⟩
  refine q g Hs0 H0 r σ Hs H s _ R (wp_mono (wp_bnd w) (fun o s1 w1 v F Hs1 H1 n1 r1 f1 => ?_) fun _ _ _ x => x)
  refine qs g Hs0 H0 r σ Hs1 H1 s1 _ (R.next n1) (wp_mono (wp_bnd w1) (fun os s2 w2 vs F2 Hs2 H2 n2 r2 f2 => ?_) fun _ _ _ x => x.later n1)
  refine w2 (v :: vs) (F ++ F2) Hs2 H2 (n1.trans n2) (.cons (r1.next n2) r2 fun a m1 m2 => ?_) fun a m => ?_
  · obtain ⟨⟨_, e⟩, _⟩ := r1.own a m1
    rw [f2 a m2] at e; cases e
  · rcases List.mem_append.mp m with m | m
    · exact f1 a m
    · exact n1.there (f2 a m)
theorem ab_cons {es : List Expr} {ms : En → M (List O)} (h : EB X C E e m) (hs : AB X C E es ms) (st : starEach (e :: es) X.env = (false, eval e X.env) :: starEach es X.env := by rfl) : AB X C E (e :: es) (mCons m ms) := by
  obtain ⟨t, p, q⟩ := h
  obtain ⟨ts, ps, qs⟩ := hs
  refine ⟨_, pa_cons p ps st, fun g Hs0 H0 r σ Hs H s Q R w => ?_⟩
  refine q g Hs0 H0 r σ Hs H s _ R (wp_mono (wp_bnd w) (fun o s1 w1 v F Hs1 H1 n1 r1 => ?_) fun _ _ _ x => x)
  refine qs g Hs0 H0 r σ Hs1 H1 s1 _ (R.next n1) (wp_mono (wp_bnd w1) (fun os s2 w2 vs Hs2 H2 n2 r2 => ?_) fun _ _ _ x => x.later n1)
  exact w2 (v :: vs) Hs2 H2 (n1.trans n2) (.cons (r1.next n2) r2)
/-! ### displays -/
def lineN : Nat := 16777216
theorem lineN_eq : lineN = sizeLine := sizeLine_eq.symm
def mLst (ms : En → M (List O)) : En → M O := fun r => bnd (ms r) fun os s => if os.length ≤ lineN then .ok (.lst os) s else .bad
def mTup (ms : En → M (List O)) : En → M O := fun r => bnd (ms r) fun os s => if os.length ≤ lineN then .ok (.tup os) s else .bad
theorem ROs.len {K : PySem.W.Frag} {g : Option Addr} {Hs H : Hp} : ∀ {vs : List V} {os : List O} {F : List Addr}, ROs K g Hs H vs os F → vs.length = os.length
  | _, _, _, .nil => rfl
  | _, _, _, .cons _ t _ => by simp only [List.length_cons, ROs.len t]
theorem RBs.len {K : PySem.W.Frag} {g : Option Addr} {Hs H : Hp} : ∀ {vs : List V} {os : List O}, RBs K g Hs H vs os → vs.length = os.length
  | _, _, .nil => rfl
  | _, _, .cons _ t => by simp only [List.length_cons, RBs.len t]
theorem eo_lst {es : List Expr} {ms : En → M (List O)} {pos : Pos} (h : AO X C E es ms) : EO X C E (.List es pos) (mLst ms) := by
  obtain ⟨t, p, q⟩ := h
  refine ⟨_, pe_lst p, fun g Hs0 H0 r σ Hs H s Q R w => ?_⟩
  refine q g Hs0 H0 r σ Hs H s _ R (wp_mono (wp_bnd w) (fun os s1 w1 vs F Hs1 H1 n1 r1 f1 => ?_) fun _ _ _ x => x)
  split at w1
  · rename_i hl
    refine ⟨by rw [r1.len, ← lineN_eq]; exact hl, fun p hp => ?_⟩
    have n2 := n1.newO (o := .lst vs) hp
    have ngp : g ≠ some p := fun z => by
      have := (n1.gen p z).2; rw [hp] at this; cases this
    refine w1 (.ref p) (p :: F) Hs1 _ n2 (.lst upd_same (n1.sub.free hp) ngp (ROs.next (n1.self.newO hp) r1) fun m => ?_) fun a m => ?_
    · obtain ⟨⟨_, e⟩, _⟩ := r1.own p m
      rw [hp] at e; cases e
    · rcases List.mem_cons.mp m with e | m
      · subst e; exact n1.there hp
      · exact f1 a m
  · exact w1.elim
theorem eo_tup {es : List Expr} {ms : En → M (List O)} {x1} {pos : Pos} (h : AO X C E es ms) : EO X C E (.Tuple es x1 pos) (mTup ms) := by
  obtain ⟨t, p, q⟩ := h
  refine ⟨_, pe_tup p, fun g Hs0 H0 r σ Hs H s Q R w => ?_⟩
  refine q g Hs0 H0 r σ Hs H s _ R (wp_mono (wp_bnd w) (fun os s1 w1 vs F Hs1 H1 n1 r1 f1 => ?_) fun _ _ _ x => x)
  split at w1
  · rename_i hl
    refine ⟨by rw [r1.len, ← lineN_eq]; exact hl, fun p hp => ?_⟩
    have n2 := n1.newO (o := .tup vs) hp
    exact w1 (.ref p) F Hs1 _ n2 (.tup (SqT.of upd_same) (ROs.next (n1.self.newO hp) r1)) f1
  · exact w1.elim
end
end Lone
namespace Lone
open PySem PySem.Spec PyProof.Rows L2
/-! ### plain data as the library's data -/
mutual
def D.py : D → PyData
  | .non => .none
  | .bl b => .bool b
  | .int i => .int i
  | .str s => .str ⟨s.toArray⟩
  | .tup l => .tuple (D.pys l)
  | .lst l => .list (D.pys l)
  | .scr l => .list (l.map PyData.int)
  | .dic _ | .gen | .fn _ | .exc _ _ => .none
def D.pys : List D → List PyData
  | [] => []
  | d :: r => D.py d :: D.pys r
end
mutual
/-- None, Booleans, ints, plain texts, lists and tuples of such -/
def D.ok : D → Bool
  | .non => true
  | .bl _ => true
  | .int _ => true
  | .str s => s.all fun c => Nat.ble c 1114111
  | .tup l => D.oks l
  | .lst l => D.oks l
  | _ => false
def D.oks : List D → Bool
  | [] => true
  | d :: r => D.ok d && D.oks r
end
mutual
def D.dep : D → Nat
  | .tup l => D.deps l + 1
  | .lst l => D.deps l + 1
  | .scr _ => 1
  | _ => 0
def D.deps : List D → Nat
  | [] => 0
  | d :: r => max (D.dep d) (D.deps r)
end
mutual
def D.beq : D → D → Bool
  | .non, .non => true
  | .bl a, .bl b => a == b
  | .bl a, .int j => (if a then 1 else 0) == j
  | .int i, .bl b => i == (if b then 1 else 0)
  | .int i, .int j => i == j
  | .str x, .str y => x == y
  | .tup l, .tup m => D.beqs l m
  | .lst l, .lst m => D.beqs l m
  | _, _ => false
def D.beqs : List D → List D → Bool
  | [], [] => true
  | a :: l, b :: m => D.beq a b && D.beqs l m
  | _, _ => false
end
theorem D.pys_map (l : List D) : D.pys l = l.map D.py := by
  induction l with
  | nil => rfl
  | cons x r ih => show D.py x :: D.pys r = _; rw [ih]; rfl
theorem strOk_of {s : Txt} (h : s.all (fun c => Nat.ble c 1114111) = true) : PyData.strOk ⟨s.toArray⟩ = true := by
  unfold PyData.strOk
  rw [List.all_toArray]
  rw [List.all_eq_true] at h ⊢
  intro c hc
  have := Nat.le_of_ble_eq_true (h c hc)
  exact decide_eq_true (by omega)
mutual
theorem D.lay : ∀ d : D, d.ok = true → d.py.canLay0 = true
  | .non, _ => by simp only [D.py, PyData.canLay0]
  | .bl _, _ => by simp only [D.py, PyData.canLay0]
  | .int _, _ => by simp only [D.py, PyData.canLay0]
  | .str s, h => by
    simp only [D.py, PyData.canLay0]
    exact strOk_of (by simpa only [D.ok] using h)
  | .tup l, h => by
    simp only [D.py, PyData.canLay0]
    exact D.lays l (by simpa only [D.ok] using h)
  | .lst l, h => by
    simp only [D.py, PyData.canLay0]
    exact D.lays l (by simpa only [D.ok] using h)
  | .scr _, h => by simp only [D.ok] at h; cases h
  | .dic _, h => by simp only [D.ok] at h; cases h
  | .gen, h => by simp only [D.ok] at h; cases h
  | .fn _, h => by simp only [D.ok] at h; cases h
  | .exc _ _, h => by simp only [D.ok] at h; cases h
theorem D.lays : ∀ l : List D, D.oks l = true → PyData.canLayAll0 (D.pys l) = true
  | [], _ => by simp only [D.pys, PyData.canLayAll0]
  | d :: r, h => by
    simp only [D.oks, Bool.and_eq_true] at h
    simp only [D.pys, PyData.canLayAll0, D.lay d h.1, D.lays r h.2, Bool.and_self]
end
mutual
theorem D.dep_eq : ∀ d : D, d.ok = true → d.py.depth = d.dep
  | .non, _ => by simp only [D.py, PyData.depth, D.dep]
  | .bl _, _ => by simp only [D.py, PyData.depth, D.dep]
  | .int _, _ => by simp only [D.py, PyData.depth, D.dep]
  | .str s, h => by simp only [D.py, PyData.depth, D.dep]
  | .tup l, h => by
    simp only [D.py, PyData.depth, D.dep]
    rw [D.deps_eq l (by simpa only [D.ok] using h)]
  | .lst l, h => by
    simp only [D.py, PyData.depth, D.dep]
    rw [D.deps_eq l (by simpa only [D.ok] using h)]
  | .scr _, h => by simp only [D.ok] at h; cases h
  | .dic _, h => by simp only [D.ok] at h; cases h
  | .gen, h => by simp only [D.ok] at h; cases h
  | .fn _, h => by simp only [D.ok] at h; cases h
  | .exc _ _, h => by simp only [D.ok] at h; cases h
theorem D.deps_eq : ∀ l : List D, D.oks l = true → PyData.depthAll (D.pys l) = D.deps l
  | [], _ => by simp only [D.pys, PyData.depthAll, D.deps]
  | d :: r, h => by
    simp only [D.oks, Bool.and_eq_true] at h
    simp only [D.pys, PyData.depthAll, D.deps, D.dep_eq d h.1, D.deps_eq r h.2]
end
/-- what can be compared, and shown -/
def D.fit (d : D) : Bool := D.ok d && Nat.ble (D.dep d) 60
theorem D.fit_ok {d : D} (h : d.fit = true) : d.ok = true := (Bool.and_eq_true_iff.mp h).1
theorem D.fit_dep {d : D} (h : d.fit = true) : d.dep ≤ 60 := Nat.le_of_ble_eq_true (Bool.and_eq_true_iff.mp h).2
theorem D.shaped {d : D} (h : d.fit = true) : SeqAt.shaped d.py = true := by
  unfold SeqAt.shaped
  rw [D.lay d (D.fit_ok h), D.dep_eq d (D.fit_ok h), decide_eq_true (show d.dep ≤ 64 by have := D.fit_dep h; omega)]
  rfl
theorem str_beq (a b : Txt) : ((⟨a.toArray⟩ : Str) == ⟨b.toArray⟩) = (a == b) := by
  by_cases h : a = b
  · subst h; simp
  · rw [beq_eq_false_iff_ne.mpr h]
    refine beq_eq_false_iff_ne.mpr fun e => h ?_
    have := congrArg Str.cps e
    simpa using this
mutual
theorem D.eqv_eq : ∀ a b : D, a.ok = true → b.ok = true → PyData.eqv a.py b.py = D.beq a b
  | .non, b, _, hb => by cases b <;> simp only [D.ok, Bool.false_eq_true] at hb <;> simp only [D.py, PyData.eqv, D.beq]
  | .bl _, b, _, hb => by cases b <;> simp only [D.ok, Bool.false_eq_true] at hb <;> simp only [D.py, PyData.eqv, D.beq]
  | .int _, b, _, hb => by cases b <;> simp only [D.ok, Bool.false_eq_true] at hb <;> simp only [D.py, PyData.eqv, D.beq]
  | .str s, b, _, hb => by cases b <;> simp only [D.ok, Bool.false_eq_true] at hb <;> simp only [D.py, PyData.eqv, D.beq, str_beq]
  | .tup l, b, ha, hb => by
    cases b <;> simp only [D.ok, Bool.false_eq_true] at hb <;> simp only [D.py, PyData.eqv, D.beq]
    exact D.eqvs_eq _ _ (by simpa only [D.ok] using ha) hb
  | .lst l, b, ha, hb => by
    cases b <;> simp only [D.ok, Bool.false_eq_true] at hb <;> simp only [D.py, PyData.eqv, D.beq]
    exact D.eqvs_eq _ _ (by simpa only [D.ok] using ha) hb
  | .scr _, _, h, _ => by simp only [D.ok] at h; cases h
  | .dic _, _, h, _ => by simp only [D.ok] at h; cases h
  | .gen, _, h, _ => by simp only [D.ok] at h; cases h
  | .fn _, _, h, _ => by simp only [D.ok] at h; cases h
  | .exc _ _, _, h, _ => by simp only [D.ok] at h; cases h
theorem D.eqvs_eq : ∀ l m : List D, D.oks l = true → D.oks m = true → PyData.eqvAll (D.pys l) (D.pys m) = D.beqs l m
  | [], [], _, _ => by simp only [D.pys, PyData.eqvAll, D.beqs]
  | [], b :: m, _, _ => by simp only [D.pys, PyData.eqvAll, D.beqs]
  | a :: l, [], _, _ => by simp only [D.pys, PyData.eqvAll, D.beqs]
  | a :: l, b :: m, ha, hb => by
    simp only [D.oks, Bool.and_eq_true] at ha hb
    simp only [D.pys, PyData.eqvAll, D.beqs, D.eqv_eq a b ha.1 hb.1, D.eqvs_eq l m ha.2 hb.2]
end
section
variable {K : PySem.W.Frag} {g : Option Addr} {H : Hp}
mutual
theorem Rp.dp : ∀ {v : V} {d : D}, Rp K g H v d → d.ok = true → Dp K H v d.py
  | _, _, .non, _ => by simp only [D.py]; exact .non
  | _, _, .bl b, _ => by simp only [D.py]; exact .bl b
  | _, _, .int i, _ => by simp only [D.py]; exact .int i
  | _, _, .str s, _ => by simp only [D.py]; exact .str _
  | _, _, .tup h t, o => by simp only [D.py]; exact .tup h (Rps.dp t (by simpa only [D.ok] using o))
  | _, _, .lst h _ t, o => by simp only [D.py]; exact .lst (SqL.of h) (Rps.dp t (by simpa only [D.ok] using o))
  | _, _, .scr _, o => by simp only [D.ok] at o; cases o
  | _, _, .gen _, o => by simp only [D.ok] at o; cases o
theorem Rps.dp : ∀ {vs : List V} {l : List D}, Rps K g H vs l → D.oks l = true → DpAll K H vs (D.pys l)
  | _, _, .nil, _ => by simp only [D.pys]; exact .nil
  | _, _, .cons h t, o => by
    simp only [D.oks, Bool.and_eq_true] at o
    simp only [D.pys]
    exact .cons (Rp.dp h o.1) (Rps.dp t o.2)
end
end
end Lone
namespace Lone
open PySem PySem.Spec PyProof.Rows L2
/-! ### kinds -/
def O.int? : O → Option Int
  | .sh (.int i) => some i
  | _ => none
def O.bl? : O → Option Bool
  | .sh (.bl b) => some b
  | _ => none
def O.str? : O → Option Txt
  | .sh (.str s) => some s
  | _ => none
def O.shs : List O → Option (List D)
  | [] => some []
  | .sh d :: r => match O.shs r with
    | some l => some (d :: l)
    | none => none
  | _ :: _ => none
/-- a list's items, where they are shared -/
def O.items : O → Option (List D)
  | .sh (.lst l) => some l
  | .lst os => O.shs os
  | _ => none
def O.tits : O → Option (List D)
  | .sh (.tup l) => some l
  | .tup os => O.shs os
  | _ => none
theorem O.int?_eq {o : O} {i : Int} (h : o.int? = some i) : o = .sh (.int i) := by
  unfold O.int? at h; split at h <;> cases h; rfl
theorem O.bl?_eq {o : O} {i : Bool} (h : o.bl? = some i) : o = .sh (.bl i) := by
  unfold O.bl? at h; split at h <;> cases h; rfl
theorem O.str?_eq {o : O} {i : Txt} (h : o.str? = some i) : o = .sh (.str i) := by
  unfold O.str? at h; split at h <;> cases h; rfl
theorem O.shs_map (l : List D) : O.shs (l.map .sh) = some l := by
  induction l with
  | nil => rfl
  | cons x r ih => show (match O.shs (r.map .sh) with | some l => some (x :: l) | none => none) = _; rw [ih]
theorem O.shs_eq : ∀ {os : List O} {l : List D}, O.shs os = some l → os = l.map .sh
  | [], l, h => by cases h; rfl
  | .sh d :: r, l, h => by
    have h' : (match O.shs r with | some l => some (d :: l) | none => none) = some l := h
    split at h'
    · rename_i m e
      cases h'
      rw [O.shs_eq e]; rfl
    · cases h'
  | .lst _ :: _, _, h => nomatch h
  | .tup _ :: _, _, h => nomatch h
section
variable {K : PySem.W.Frag} {g : Option Addr} {Hs H : Hp}
theorem ROs.shs : ∀ {l : List D} {vs : List V} {F : List Addr}, ROs K g Hs H vs (l.map .sh) F → Rps K g Hs vs l ∧ F = []
  | [], _, _, .nil => ⟨.nil, rfl⟩
  | d :: l, _, _, .cons (.sh h) t _ => by
    obtain ⟨a, b⟩ := ROs.shs t
    subst b
    exact ⟨.cons h a, rfl⟩
theorem Rps.ros : ∀ {l : List D} {vs : List V}, Rps K g Hs vs l → ROs K g Hs H vs (l.map .sh) []
  | [], _, .nil => .nil
  | _ :: _, _, .cons h t => .cons (.sh h) (Rps.ros t) fun _ m => nomatch m
theorem RO.int {v : V} {o : O} {F : List Addr} {i : Int} (h : RO K g Hs H v o F) (e : o.int? = some i) : v = .int i := by
  cases O.int?_eq e
  cases h with | sh h => cases h; rfl
theorem RO.bl {v : V} {o : O} {F : List Addr} {i : Bool} (h : RO K g Hs H v o F) (e : o.bl? = some i) : v = .bl i := by
  cases O.bl?_eq e
  cases h with | sh h => cases h; rfl
theorem RO.str {v : V} {o : O} {F : List Addr} {i : Txt} (h : RO K g Hs H v o F) (e : o.str? = some i) : v = .str ⟨i.toArray⟩ := by
  cases O.str?_eq e
  cases h with | sh h => cases h; rfl
theorem RO.items {v : V} {o : O} {F : List Addr} {l : List D} (h : RO K g Hs H v o F) (sb : Same Hs H) (e : o.items = some l) : ∃ p vs, v = .ref p ∧ H p = some (.lst vs) ∧ g ≠ some p ∧ Rps K g Hs vs l := by
  unfold O.items at e
  split at e
  · cases e
    cases h with | sh h => cases h with | lst h1 h2 h3 => exact ⟨_, _, rfl, sb _ _ h1, h2, h3⟩
  · have e2 := O.shs_eq e
    subst e2
    cases h with | lst h1 _ h2 h3 _ => exact ⟨_, _, rfl, h1, h2, (ROs.shs h3).1⟩
  · cases e
theorem RO.tits {v : V} {o : O} {F : List Addr} {l : List D} (h : RO K g Hs H v o F) (sb : Same Hs H) (e : o.tits = some l) : ∃ p vs, v = .ref p ∧ SqT K H p vs ∧ Rps K g Hs vs l := by
  unfold O.tits at e
  split at e
  · cases e
    cases h with | sh h => cases h with | tup h1 h3 => exact ⟨_, _, rfl, sqT_same sb h1, h3⟩
  · have e2 := O.shs_eq e
    subst e2
    cases h with | tup h1 h3 => exact ⟨_, _, rfl, h1, (ROs.shs h3).1⟩
  · cases e
end
/-! ### operations of two things -/
structure OpS (K : PySem.W.Frag) (r : R2) (f : O → O → Option O) : Prop where
  run : ∀ {g : Option Addr} {Hs H : Hp} {s : G3} {x y : V} {o1 o2 : O} {F1 F2 : List Addr} {o : O} {Q : VK},
  Nx g Hs H Hs H s → RO K g Hs H x o1 F1 → RO K g Hs H y o2 F2 → f o1 o2 = some o →
  (∀ v F Hs' H', Nx g Hs H Hs' H' s → RO K g Hs' H' v o F → (∀ a ∈ F, H a = none) → Q v H') → r x y H Q
def alt (x y : Option O) : Option O := match x with
  | some o => some o
  | none => y
theorem OpS.or {K : PySem.W.Frag} {r r' : R2} {f f' : O → O → Option O} (h : OpS K r f) (h' : OpS K r' f') : OpS K (fun x y H Q => r x y H Q ∨ r' x y H Q) (fun a b => alt (f a b) (f' a b)) := by
  refine ⟨?_⟩
  intro g Hs H s x y o1 o2 F1 F2 o Q n r1 r2 e q
  dsimp only [alt] at e
  split at e
  · rename_i u eu
    cases e
    exact .inl (h.run n r1 r2 eu q)
  · exact .inr (h'.run n r1 r2 e q)
/-- of two ints, where c -/
def fI (c : Int → Int → Bool) (df : Int → Int → D) : O → O → Option O := fun a b => match a.int?, b.int? with
  | some i, some j => if c i j = true then some (.sh (df i j)) else none
  | _, _ => none
theorem opS_I {K : PySem.W.Frag} {C : Int → Int → Prop} {vf : Int → Int → V} {c : Int → Int → Bool} {df : Int → Int → D} (hc : ∀ i j, c i j = true → C i j) (hd : ∀ i j g H, Rp K g H (vf i j) (df i j)) : OpS K (rI C vf) (fI c df) := by
  refine ⟨?_⟩
  intro g Hs H s x y o1 o2 F1 F2 o Q n r1 r2 e q
  unfold fI at e
  split at e
  · rename_i i j e1 e2
    split at e
    · rename_i hb
      cases e
      exact ⟨i, j, r1.int e1, r2.int e2, hc _ _ hb, q _ [] Hs H n (.sh (hd ..)) fun _ m => nomatch m⟩
    · cases e
  · cases e
theorem opS_I0 {K : PySem.W.Frag} {vf : Int → Int → V} {df : Int → Int → D} (hd : ∀ i j g H, Rp K g H (vf i j) (df i j)) : OpS K (rI0 vf) (fI (fun _ _ => true) df) := by
  refine ⟨?_⟩
  intro g Hs H s x y o1 o2 F1 F2 o Q n r1 r2 e q
  unfold fI at e
  split at e
  · rename_i i j e1 e2
    rw [if_pos rfl] at e
    cases e
    exact ⟨i, j, r1.int e1, r2.int e2, q _ [] Hs H n (.sh (hd ..)) fun _ m => nomatch m⟩
  · cases e
def rCatS : R2 := fun x y H Q => ∃ i j, x = .str i ∧ y = .str j ∧ i.length + j.length ≤ sizeLine ∧ Q (.str (i ++ j)) H
def fCatS : O → O → Option O := fun a b => match a.str?, b.str? with
  | some i, some j => if i.length + j.length ≤ lineN then some (.sh (.str (i ++ j))) else none
  | _, _ => none
theorem str_len (s : Txt) : Str.length ⟨s.toArray⟩ = s.length := rfl
theorem str_app (a b : Txt) : ((⟨a.toArray⟩ : Str) ++ ⟨b.toArray⟩) = ⟨(a ++ b).toArray⟩ := by
  show Str.mk (a.toArray ++ b.toArray) = _
  simp
theorem opS_catS {K : PySem.W.Frag} : OpS K rCatS fCatS := by
  refine ⟨?_⟩
  intro g Hs H s x y o1 o2 F1 F2 o Q n r1 r2 e q
  unfold fCatS at e
  split at e
  · rename_i i j e1 e2
    split at e
    · rename_i hb
      cases e
      refine ⟨_, _, r1.str e1, r2.str e2, ?_, q _ [] Hs H n (.sh ?_) fun _ m => nomatch m⟩
      · rw [str_len, str_len, ← lineN_eq]; exact hb
      · rw [str_app]; exact .str _
    · cases e
  · cases e
def fCatL : O → O → Option O := fun a b => match a.items, b.items with
  | some l, some m => if l.length + m.length ≤ lineN then some (.lst ((l ++ m).map .sh)) else none
  | _, _ => none
/-- a new list of shared things -/
theorem new_lst {K : PySem.W.Frag} {g : Option Addr} {Hs H : Hp} {s : G3} {vs : List V} {l : List D} {Q : VK} {o : O} (n : Nx g Hs H Hs H s) (r : Rps K g Hs vs l) (eo : o = .lst (l.map .sh))
    (q : ∀ v F Hs' H', Nx g Hs H Hs' H' s → RO K g Hs' H' v o F → (∀ a ∈ F, H a = none) → Q v H') (p : Addr) (hp : H p = none) : Q (.ref p) (upd H p (.lst vs)) := by
  subst eo
  refine q (.ref p) [p] Hs _ (n.newO hp) (.lst upd_same (n.sub.free hp) (fun z => ?_) r.ros fun m => nomatch m) fun a m => ?_
  · have := (n.gen p z).2; rw [hp] at this; cases this
  · rw [List.mem_singleton.mp m]; exact hp
/-- a new tuple of shared things -/
theorem new_tup {K : PySem.W.Frag} {g : Option Addr} {Hs H : Hp} {s : G3} {vs : List V} {l : List D} {Q : VK} (n : Nx g Hs H Hs H s) (r : Rps K g Hs vs l)
    (q : ∀ v F Hs' H', Nx g Hs H Hs' H' s → RO K g Hs' H' v (.sh (.tup l)) F → (∀ a ∈ F, H a = none) → Q v H') (p : Addr) (hp : H p = none) : Q (.ref p) (upd H p (.tup vs)) :=
  q (.ref p) [] (upd Hs p (.tup vs)) _ (n.newS hp) (.sh (.tup (SqT.of upd_same) (r.up (same_new (n.sub.free hp))))) fun _ m => nomatch m
/-- a tuple that is there, shared -/
theorem old_tup {K : PySem.W.Frag} {g : Option Addr} {Hs H : Hp} {s : G3} {vs : List V} {l : List D} {Q : VK} {p : Addr} (n : Nx g Hs H Hs H s) (h : SqT K H p vs) (r : Rps K g Hs vs l)
    (q : ∀ v F Hs' H', Nx g Hs H Hs' H' s → RO K g Hs' H' v (.sh (.tup l)) F → (∀ a ∈ F, H a = none) → Q v H') : Q (.ref p) H := by
  obtain ⟨Hs', n', _, rp⟩ := RO.share n (RO.tup h (Rps.ros r)) fun _ m => nomatch m
  rw [show O.d (.tup (l.map .sh)) = .tup l by show D.tup (O.ds _) = _; rw [O.ds_sh]] at rp
  exact q _ [] Hs' H n' (.sh rp) fun _ m => nomatch m
theorem opS_catL {K : PySem.W.Frag} : OpS K rCat fCatL := by
  refine ⟨?_⟩
  intro g Hs H s x y o1 o2 F1 F2 o Q n r1 r2 e q
  unfold fCatL at e
  split at e
  · rename_i l m e1 e2
    split at e
    · rename_i hb
      obtain ⟨p, vs, rfl, hp, _, rp⟩ := r1.items n.sub e1
      obtain ⟨p', ws, rfl, hp', _, rp'⟩ := r2.items n.sub e2
      refine ⟨p, p', vs, ws, rfl, rfl, hp, hp', ?_, new_lst n (rp.app rp') (Option.some.inj e).symm q⟩
      rw [rp.len, rp'.len, ← lineN_eq]; exact hb
    · cases e
  · cases e
def fCatT : O → O → Option O := fun a b => match a.tits, b.tits with
  | some l, some m => if l.length + m.length ≤ lineN then some (.sh (.tup (l ++ m))) else none
  | _, _ => none
theorem opS_catT {K : PySem.W.Frag} : OpS K (rCatA K) fCatT := by
  refine ⟨?_⟩
  intro g Hs H s x y o1 o2 F1 F2 o Q n r1 r2 e q
  unfold fCatT at e
  split at e
  · rename_i l m e1 e2
    split at e
    · rename_i hb
      cases e
      obtain ⟨p, vs, rfl, hp, rp⟩ := r1.tits n.sub e1
      obtain ⟨p', ws, rfl, hp', rp'⟩ := r2.tits n.sub e2
      refine ⟨p, p', vs, ws, rfl, rfl, hp, hp', ?_, fun e => ?_, fun _ e => ?_, fun _ _ => new_tup n (rp.app rp') q⟩
      · rw [rp.len, rp'.len, ← lineN_eq]; exact hb
      · subst e; cases rp; exact old_tup n hp' rp' q
      · subst e; cases rp'; rw [List.append_nil] at q; exact old_tup n hp rp q
    · cases e
  · cases e
def oAdd : O → O → Option O := fun a b => alt (fI (fun _ _ => true) (fun i j => .int (i + j)) a b) (alt (fCatL a b) (alt (fCatS a b) (fCatT a b)))
def fRepL : O → O → Option O := fun a b => match a.items, b.int? with
  | some l, some k => if k < 2 ^ 62 ∧ -(2 ^ 62) < k ∧ l.length * k.toNat ≤ lineN then some (.lst ((List.replicate k.toNat l).flatten.map .sh)) else none
  | _, _ => none
theorem Rps.rep {K : PySem.W.Frag} {g : Option Addr} {H : Hp} {vs : List V} {l : List D} (r : Rps K g H vs l) : ∀ k : Nat, Rps K g H (List.replicate k vs).flatten (List.replicate k l).flatten
  | 0 => .nil
  | k + 1 => by
    rw [List.replicate_succ, List.replicate_succ, List.flatten_cons, List.flatten_cons]
    exact r.app (Rps.rep r k)
theorem opS_repL {K : PySem.W.Frag} : OpS K rRep fRepL := by
  refine ⟨?_⟩
  intro g Hs H s x y o1 o2 F1 F2 o Q n r1 r2 e q
  unfold fRepL at e
  split at e
  · rename_i l k e1 e2
    split at e
    · rename_i hb
      obtain ⟨p, vs, rfl, hp, _, rp⟩ := r1.items n.sub e1
      refine ⟨p, k, vs, rfl, r2.int e2, hp, by omega, by omega, ?_, new_lst n (rp.rep _) (Option.some.inj e).symm q⟩
      rw [rp.len, ← lineN_eq]; exact hb.2.2
    · cases e
  · cases e
def fRepT : O → O → Option O := fun a b => match a.tits, b.int? with
  | some l, some k => if l ≠ [] ∧ 2 ≤ k ∧ k ≤ 1000 ∧ l.length ≤ 1000 then some (.sh (.tup (List.replicate k.toNat l).flatten)) else none
  | _, _ => none
theorem opS_repT {K : PySem.W.Frag} : OpS K (rRepT K) fRepT := by
  refine ⟨?_⟩
  intro g Hs H s x y o1 o2 F1 F2 o Q n r1 r2 e q
  unfold fRepT at e
  split at e
  · rename_i l k e1 e2
    split at e
    · rename_i hb
      cases e
      obtain ⟨p, vs, rfl, hp, rp⟩ := r1.tits n.sub e1
      refine ⟨p, k, vs, rfl, r2.int e2, hp, fun z => hb.1 ?_, hb.2.1, hb.2.2.1, rp.len ▸ hb.2.2.2, new_tup n (rp.rep _) q⟩
      subst z; cases rp; rfl
    · cases e
  · cases e
def cMul (i j : Int) : Bool := (decide (-18446744073709551616 < i) && decide (i < 18446744073709551616)) || (decide (-18446744073709551616 < j) && decide (j < 18446744073709551616))
theorem cMul_ok {i j : Int} (h : cMul i j = true) : CMul i j := by
  unfold cMul at h
  simp only [Bool.or_eq_true, Bool.and_eq_true, decide_eq_true_eq] at h
  unfold CMul
  omega
def oMul : O → O → Option O := fun a b => alt (fI cMul (fun i j => .int (i * j)) a b) (alt (fRepL a b) (fRepT a b))
def cDiv (i j : Int) : Bool := decide (0 < j) && decide (j < 18446744073709551616)
theorem cDiv_ok {i j : Int} (h : cDiv i j = true) : CDivW i j := by
  unfold cDiv at h
  simp only [Bool.and_eq_true, decide_eq_true_eq] at h
  exact wide_div (b := 64) h.1 (by omega) (by omega) (by omega)
def oDiv : O → O → Option O := fI cDiv fun i j => .int (i / j)
def oMod : O → O → Option O := fI (fun _ j => decide (0 < j)) fun i j => .int (i % j)
def oSub : O → O → Option O := fI (fun _ _ => true) fun i j => .int (i - j)
def cPow (i j : Int) : Bool := decide (0 ≤ j) && decide (((i.natAbs.log2 + 1 : Nat) : Int) * j ≤ 134217728)
theorem bits_le (i : Int) : Builtin.Int.intBits i ≤ i.natAbs.log2 + 1 := by
  unfold Builtin.Int.intBits
  split <;> omega
def CPowW (i j : Int) : Prop := 0 ≤ j ∧ (Builtin.Int.intBits i : Int) * j ≤ 2 ^ 27
theorem cPow_ok {i j : Int} (h : cPow i j = true) : CPowW i j := by
  unfold cPow at h
  simp only [Bool.and_eq_true, decide_eq_true_eq] at h
  refine ⟨h.1, Int.le_trans (Int.mul_le_mul_of_nonneg_right ?_ h.1) (Int.le_trans h.2 (by decide))⟩
  exact Int.ofNat_le.mpr (bits_le i)
def oPow : O → O → Option O := fI cPow fun i j => .int (i ^ j.toNat)
section
variable {X : Cx}
theorem op_powW : OpR X (binaryOp .Pow) (rI CPowW fun i j => .int (i ^ j.toNat)) := opI fun _ _ _ _ _ _ _ hc q => pow_int hc.1 hc.2 q
end
def mOp (f : O → O → Option O) (ma mb : En → M O) : En → M O := fun r => bnd (ma r) fun a => bnd (mb r) fun b s => match f a b with
  | some o => .ok o s
  | none => .bad
section
variable {X : Cx} {C : Ct} {E : XK} {a b : Expr} {ma mb : En → M O} {pos : Pos}
theorem sim_op {r : R2} {f : O → O → Option O} {ta tb : TE} (hf : OpS C.K r f) (qa : SimB C E ta ma) (qb : SimB C E tb mb) : SimO C E (tOp r ta tb) (mOp f ma mb) := fun g Hs0 H0 e σ Hs H s Q R w => by
  refine qa g Hs0 H0 e σ Hs H s _ R (wp_mono (wp_bnd w) (fun o1 s1 w1 v F Hs1 H1 n1 r1 => ?_) fun _ _ _ x => x)
  refine qb g Hs0 H0 e σ Hs1 H1 s1 _ (R.next n1) (wp_mono (wp_bnd w1) (fun o2 s2 w2 u F2 Hs2 H2 n2 r2 => ?_) fun _ _ _ x => x.later n1)
  split at w2
  · rename_i o eo
    exact hf.run n2.self (r1.next n2) r2 eo fun v F Hs' H' n3 r3 f3 => w2 v F Hs' H' ((n1.trans n2).trans n3) r3 fun a m => (n1.trans n2).there (f3 a m)
  · exact w2.elim
theorem eo_op {op : Operator} {r : R2} {f : O → O → Option O} (ho : OpR X (binaryOp op) r) (hf : OpS C.K r f) (ha : EB X C E a ma) (hb : EB X C E b mb) : EO X C E (.BinOp a op b pos) (mOp f ma mb) := by
  obtain ⟨ta, pa, qa⟩ := ha
  obtain ⟨tb, pb, qb⟩ := hb
  exact ⟨_, pe_op ho pa pb, sim_op hf qa qb⟩
theorem eo_add (hk : X.K = C.K) (ha : EB X C E a ma) (hb : EB X C E b mb) : EO X C E (.BinOp a .Add b pos) (mOp oAdd ma mb) :=
  eo_op (op_add.or (op_cat.or (op_add_str.or op_catA))) ((opS_I0 fun _ _ _ _ => .int _).or (opS_catL.or (opS_catS.or (hk ▸ opS_catT)))) ha hb
theorem eo_sub (ha : EB X C E a ma) (hb : EB X C E b mb) : EO X C E (.BinOp a .Sub b pos) (mOp oSub ma mb) := eo_op op_sub (opS_I0 fun _ _ _ _ => .int _) ha hb
theorem eo_mul (hk : X.K = C.K) (ha : EB X C E a ma) (hb : EB X C E b mb) : EO X C E (.BinOp a .Mult b pos) (mOp oMul ma mb) :=
  eo_op (op_mul.or (op_rep.or op_repT)) ((opS_I (fun _ _ => cMul_ok) fun _ _ _ _ => .int _).or (opS_repL.or (hk ▸ opS_repT))) ha hb
theorem eo_div (ha : EB X C E a ma) (hb : EB X C E b mb) : EO X C E (.BinOp a .FloorDiv b pos) (mOp oDiv ma mb) := eo_op op_fdivW (opS_I (fun _ _ => cDiv_ok) fun _ _ _ _ => .int _) ha hb
theorem eo_mod (ha : EB X C E a ma) (hb : EB X C E b mb) : EO X C E (.BinOp a .Mod b pos) (mOp oMod ma mb) := eo_op op_mod (opS_I (fun _ _ h => of_decide_eq_true h) fun _ _ _ _ => .int _) ha hb
theorem eo_pow (ha : EB X C E a ma) (hb : EB X C E b mb) : EO X C E (.BinOp a .Pow b pos) (mOp oPow ma mb) := eo_op op_powW (opS_I (fun _ _ => cPow_ok) fun _ _ _ _ => .int _) ha hb
end
end Lone
namespace Lone
open PySem PySem.Spec PyProof.Rows L2
/-! ### comparisons -/
def bO (b : Bool) : O := .sh (.bl b)
theorem bl_cont {K : PySem.W.Frag} {g : Option Addr} {Hs H : Hp} {s : G3} {b : Bool} {o : O} {Q : VK} (n : Nx g Hs H Hs H s) (e : bO b = o)
    (q : ∀ v F Hs' H', Nx g Hs H Hs' H' s → RO K g Hs' H' v o F → (∀ a ∈ F, H a = none) → Q v H') : Q (.bl b) H := by
  subst e
  exact q _ [] Hs H n (.sh (.bl b)) fun _ m => nomatch m
def fEq (neg : Bool) : O → O → Option O := fun a b => if a.d.fit && b.d.fit then some (bO (neg != D.beq a.d b.d)) else none
section
variable {K : PySem.W.Frag} {g : Option Addr} {Hs H : Hp}
theorem RO.dp {v : V} {o : O} {F : List Addr} (h : RO K g Hs H v o F) (sb : Same Hs H) (f : o.d.fit = true) : Dp K H v o.d.py := (h.read sb).dp (D.fit_ok f)
end
theorem opS_eq {K : PySem.W.Frag} : OpS K (rEqD K) (fEq false) := by
  refine ⟨?_⟩
  intro g Hs H s x y o1 o2 F1 F2 o Q n r1 r2 e q
  unfold fEq at e
  split at e
  · rename_i hb
    rw [Bool.and_eq_true] at hb
    have hq := bl_cont n (Option.some.inj e) q
    refine ⟨_, _, r1.dp n.sub hb.1, r2.dp n.sub hb.2, D.shaped hb.1, D.shaped hb.2, ?_⟩
    rw [D.eqv_eq _ _ (D.fit_ok hb.1) (D.fit_ok hb.2)]
    simpa using hq
  · cases e
theorem opS_ne {K : PySem.W.Frag} : OpS K (rNeD K) (fEq true) := by
  refine ⟨?_⟩
  intro g Hs H s x y o1 o2 F1 F2 o Q n r1 r2 e q
  unfold fEq at e
  split at e
  · rename_i hb
    rw [Bool.and_eq_true] at hb
    have hq := bl_cont n (Option.some.inj e) q
    refine ⟨_, _, r1.dp n.sub hb.1, r2.dp n.sub hb.2, D.shaped hb.1, D.shaped hb.2, ?_⟩
    rw [D.eqv_eq _ _ (D.fit_ok hb.1) (D.fit_ok hb.2)]
    simpa using hq
  · cases e
/-! in -/
def D.inl (a : D) : List D → Bool
  | [] => false
  | z :: r => D.beq z a || D.inl a r
theorem D.any_eqv {a : D} (ha : a.ok = true) : ∀ {l : List D}, D.oks l = true → (D.pys l).any (fun z => PyData.eqv z a.py) = D.inl a l
  | [], _ => rfl
  | z :: r, h => by
    simp only [D.oks, Bool.and_eq_true] at h
    show (PyData.eqv z.py a.py || (D.pys r).any _) = (D.beq z a || D.inl a r)
    rw [D.eqv_eq _ _ h.1 ha, D.any_eqv ha h.2]
def rInT (K : PySem.W.Frag) (neg : Bool) : R2 := fun x y H Q => ∃ d ds, Dp K H x d ∧ Dp K H y (.tuple ds) ∧ SeqAt.shaped d = true ∧ SeqAt.shaped (.tuple ds) = true ∧ Q (.bl (neg != ds.any fun z => PyData.eqv z d)) H
section
variable {X : Cx}
theorem room_in {A : Around} {d : PyData} {ds : List PyData} (hd : SeqAt.shaped d = true) (hu : A.units + 65 < cLine) : A.units + 1 + min (PyData.depthAll ds) d.depth < cLine := by
  have h1 := SeqAt.depth_of_shaped hd
  have h2 : min (PyData.depthAll ds) d.depth ≤ d.depth := Nat.min_le_right _ _
  omega
theorem op_inT (hu : X.A.units + 65 < cLine) : OpR X (compareOp .In) (rInT X.K false) := fun pins s σ H x y v u Q I rx ry h => by
  obtain ⟨d, ds, h1, h2, s1, s2, q⟩ := h
  obtain ⟨_, w1⟩ := h1.reads I _ _ v rx
  obtain ⟨_, w2⟩ := h2.reads I _ _ u ry
  exact SeqAt.in_tuple_reads w2 w1 (SeqAt.canLay_of_shaped s2) (SeqAt.canLay_of_shaped s1) (room_in s1 hu) ⟨.bl _, H, I, rfl, by simpa using q⟩
theorem op_notInT (hu : X.A.units + 65 < cLine) : OpR X (compareOp .NotIn) (rInT X.K true) := fun pins s σ H x y v u Q I rx ry h => by
  obtain ⟨d, ds, h1, h2, s1, s2, q⟩ := h
  obtain ⟨_, w1⟩ := h1.reads I _ _ v rx
  obtain ⟨_, w2⟩ := h2.reads I _ _ u ry
  exact SeqAt.notIn_tuple_reads w2 w1 (SeqAt.canLay_of_shaped s2) (SeqAt.canLay_of_shaped s1) (room_in s1 hu) ⟨.bl _, H, I, rfl, by simpa using q⟩
end
def fInL (neg : Bool) : O → O → Option O := fun a b => match b.d with
  | .lst l => if a.d.fit && (D.lst l).fit then some (bO (neg != D.inl a.d l)) else none
  | _ => none
def fInT (neg : Bool) : O → O → Option O := fun a b => match b.d with
  | .tup l => if a.d.fit && (D.tup l).fit then some (bO (neg != D.inl a.d l)) else none
  | _ => none
def fInS (neg : Bool) : O → O → Option O := fun a b => match a.str?, b.str? with
  | some [c], some z => some (bO (neg != z.contains c))
  | _, _ => none
theorem D.dp_lst {K : PySem.W.Frag} {H : Hp} {v : V} {l : List D} (h : Dp K H v (D.lst l).py) : Dp K H v (.list (D.pys l)) := by simpa only [D.py] using h
theorem D.dp_tup {K : PySem.W.Frag} {H : Hp} {v : V} {l : List D} (h : Dp K H v (D.tup l).py) : Dp K H v (.tuple (D.pys l)) := by simpa only [D.py] using h
theorem D.oks_lst {l : List D} (h : (D.lst l).fit = true) : D.oks l = true := by have := D.fit_ok h; simpa only [D.ok] using this
theorem D.oks_tup {l : List D} (h : (D.tup l).fit = true) : D.oks l = true := by have := D.fit_ok h; simpa only [D.ok] using this
theorem opS_inL {K : PySem.W.Frag} : OpS K (rInD K) (fInL false) := by
  refine ⟨?_⟩
  intro g Hs H s x y o1 o2 F1 F2 o Q n r1 r2 e q
  unfold fInL at e
  split at e
  · rename_i l el
    split at e
    · rename_i hb
      rw [Bool.and_eq_true] at hb
      have hq := bl_cont n (Option.some.inj e) q
      have d2 := r2.dp n.sub (el ▸ hb.2)
      rw [el] at d2
      have sh := D.shaped hb.2
      simp only [D.py] at sh
      refine ⟨_, _, r1.dp n.sub hb.1, D.dp_lst d2, D.shaped hb.1, sh, ?_⟩
      rw [D.any_eqv (D.fit_ok hb.1) (D.oks_lst hb.2)]
      simpa using hq
    · cases e
  · cases e
theorem opS_notInL {K : PySem.W.Frag} : OpS K (rNotInD K) (fInL true) := by
  refine ⟨?_⟩
  intro g Hs H s x y o1 o2 F1 F2 o Q n r1 r2 e q
  unfold fInL at e
  split at e
  · rename_i l el
    split at e
    · rename_i hb
      rw [Bool.and_eq_true] at hb
      have hq := bl_cont n (Option.some.inj e) q
      have d2 := r2.dp n.sub (el ▸ hb.2)
      rw [el] at d2
      have sh := D.shaped hb.2
      simp only [D.py] at sh
      refine ⟨_, _, r1.dp n.sub hb.1, D.dp_lst d2, D.shaped hb.1, sh, ?_⟩
      rw [D.any_eqv (D.fit_ok hb.1) (D.oks_lst hb.2)]
      simpa using hq
    · cases e
  · cases e
theorem opS_inT {K : PySem.W.Frag} (neg : Bool) : OpS K (rInT K neg) (fInT neg) := by
  refine ⟨?_⟩
  intro g Hs H s x y o1 o2 F1 F2 o Q n r1 r2 e q
  unfold fInT at e
  split at e
  · rename_i l el
    split at e
    · rename_i hb
      rw [Bool.and_eq_true] at hb
      have hq := bl_cont n (Option.some.inj e) q
      have d2 := r2.dp n.sub (el ▸ hb.2)
      rw [el] at d2
      have sh := D.shaped hb.2
      simp only [D.py] at sh
      refine ⟨_, _, r1.dp n.sub hb.1, D.dp_tup d2, D.shaped hb.1, sh, ?_⟩
      rw [D.any_eqv (D.fit_ok hb.1) (D.oks_tup hb.2)]
      exact hq
    · cases e
  · cases e
def rInS (neg : Bool) : R2 := fun x y H Q => ∃ (c : Nat) (z : Str), x = .str ⟨#[c]⟩ ∧ y = .str z ∧ Q (.bl (neg != decide (c ∈ z.cps.toList))) H
theorem op_inS {X : Cx} : OpR X (compareOp .In) (rInS false) := fun pins s σ H x y v u Q I rx ry h => op_in_sign pins s σ H x y v u Q I rx ry (let ⟨c, z, a, b, q⟩ := h; ⟨c, z, a, b, by simpa using q⟩)
theorem op_notInS {X : Cx} : OpR X (compareOp .NotIn) (rInS true) := fun pins s σ H x y v u Q I rx ry h => op_notIn_sign pins s σ H x y v u Q I rx ry (let ⟨c, z, a, b, q⟩ := h; ⟨c, z, a, b, by simpa using q⟩)
theorem opS_inS {K : PySem.W.Frag} (neg : Bool) : OpS K (rInS neg) (fInS neg) := by
  refine ⟨?_⟩
  intro g Hs H s x y o1 o2 F1 F2 o Q n r1 r2 e q
  unfold fInS at e
  split at e
  · rename_i c z e1 e2
    have hq := bl_cont n (Option.some.inj e) q
    refine ⟨c, _, r1.str e1, r2.str e2, ?_⟩
    rw [show decide (c ∈ (⟨z.toArray⟩ : Str).cps.toList) = z.contains c by simp]
    exact hq
  · cases e
def oIn (neg : Bool) : O → O → Option O := fun a b => alt (fInL neg a b) (alt (fInT neg a b) (fInS neg a b))
/-! is None -/
def D.isNon : D → Bool
  | .non => true
  | _ => false
theorem Rp.isNon {K : PySem.W.Frag} {g : Option Addr} {H : Hp} {v : V} {d : D} (h : Rp K g H v d) : decide (v = .non) = d.isNon := by
  cases h <;> rfl
def fIsN (neg : Bool) : O → O → Option O := fun a b => if b.d.isNon then some (bO (neg != a.d.isNon)) else none
theorem non_of {K : PySem.W.Frag} {g : Option Addr} {H : Hp} {v : V} {d : D} (h : Rp K g H v d) (e : d.isNon = true) : v = .non := of_decide_eq_true (h.isNon.trans e)
def rIsN (neg : Bool) : R2 := fun x y H Q => y = .non ∧ Q (.bl (neg != decide (x = .non))) H
theorem op_is0 {X : Cx} : OpR X (compareOp .Is) (rIsN false) := fun pins s σ H x y v u Q I rx ry h => op_isN pins s σ H x y v u Q I rx ry ⟨h.1, by simpa using h.2⟩
theorem op_isnot0 {X : Cx} : OpR X (compareOp .IsNot) (rIsN true) := fun pins s σ H x y v u Q I rx ry h => op_notN pins s σ H x y v u Q I rx ry ⟨h.1, by simpa using h.2⟩
theorem opS_isN {K : PySem.W.Frag} (neg : Bool) : OpS K (rIsN neg) (fIsN neg) := by
  refine ⟨?_⟩
  intro g Hs H s x y o1 o2 F1 F2 o Q n r1 r2 e q
  unfold fIsN at e
  split at e
  · rename_i hb
    have hq := bl_cont n (Option.some.inj e) q
    refine ⟨non_of (r2.read n.sub) hb, ?_⟩
    rw [(r1.read n.sub).isNon]
    exact hq
  · cases e
def rIsB (neg : Bool) : R2 := fun x y H Q => ∃ a b : Bool, x = .bl a ∧ y = .bl b ∧ Q (.bl (neg != decide (a = b))) H
theorem op_isB {X : Cx} : OpR X (compareOp .Is) (rIsB false) := fun pins s σ H x y v u Q I rx ry h => op_isBl pins s σ H x y v u Q I rx ry (let ⟨c, z, a, b, q⟩ := h; ⟨c, z, a, b, by simpa using q⟩)
theorem op_isnotB {X : Cx} : OpR X (compareOp .IsNot) (rIsB true) := fun pins s σ H x y v u Q I rx ry h => op_notBl pins s σ H x y v u Q I rx ry (let ⟨c, z, a, b, q⟩ := h; ⟨c, z, a, b, by simpa using q⟩)
def fIsB (neg : Bool) : O → O → Option O := fun a b => match a.bl?, b.bl? with
  | some x, some y => some (bO (neg != decide (x = y)))
  | _, _ => none
theorem opS_isB {K : PySem.W.Frag} (neg : Bool) : OpS K (rIsB neg) (fIsB neg) := by
  refine ⟨?_⟩
  intro g Hs H s x y o1 o2 F1 F2 o Q n r1 r2 e q
  unfold fIsB at e
  split at e
  · rename_i c z e1 e2
    exact ⟨c, z, r1.bl e1, r2.bl e2, bl_cont n (Option.some.inj e) q⟩
  · cases e
def oIs (neg : Bool) : O → O → Option O := fun a b => alt (fIsN neg a b) (fIsB neg a b)
def cmpI (p : Int → Int → Bool) : O → O → Option O := fI (fun _ _ => true) fun i j => .bl (p i j)
section
variable {X : Cx} {C : Ct} {E : XK} {a b c : Expr} {ma mb mc : En → M O} {pos : Pos}
/-- a comparison as a value, as a test -/
def EC (X : Cx) (C : Ct) (E : XK) (op : CmpOp) (a b : Expr) (m : En → M O) : Prop := ∃ (t : TE), SimO C E t m ∧ (∀ pos, PE X (.Compare a [op] [b] pos) t) ∧ ∀ pos, PT X (.Compare a [op] [b] pos) (tTest t)
theorem ec_op {op : CmpOp} {r : R2} {f : O → O → Option O} (ho : OpR X (compareOp op) r) (hf : OpS C.K r f) (ha : EB X C E a ma) (hb : EB X C E b mb) (hm : behindInMarks op b = false) : EC X C E op a b (mOp f ma mb) := by
  obtain ⟨ta, pa, qa⟩ := ha
  obtain ⟨tb, pb, qb⟩ := hb
  exact ⟨_, sim_op hf qa qb, fun _ => pe_cmpR ho pa pb hm, fun _ => pt_cmpR ho pa pb hm⟩
/-- as a Boolean -/
def mBl (m : En → M O) : En → M Bool := fun r => bnd (m r) fun o s => match o.bl? with
  | some b => .ok b s
  | none => .bad
theorem simT_of {t : TE} {m : En → M O} (q : SimB C E t m) : SimT C E (tTest t) (mBl m) := fun g Hs0 H0 r σ Hs H s Q R w => by
  refine q g Hs0 H0 r σ Hs H s _ R (wp_mono (wp_bnd w) (fun o1 s1 w1 v F Hs1 H1 n1 r1 => ?_) fun _ _ _ x => x)
  split at w1
  · rename_i b e
    exact ⟨b, r1.bl e, w1 Hs1 H1 n1⟩
  · exact w1.elim
theorem EC.eo {op : CmpOp} {m : En → M O} (h : EC X C E op a b m) : EO X C E (.Compare a [op] [b] pos) m := let ⟨_, q, p, _⟩ := h; ⟨_, p _, q⟩
theorem EC.et {op : CmpOp} {m : En → M O} (h : EC X C E op a b m) : ET X C E (.Compare a [op] [b] pos) (mBl m) := let ⟨_, q, _, p⟩ := h; ⟨_, p _, simT_of q.b⟩
theorem ec_eq (hk : X.K = C.K) (hu : X.A.units + 65 < cLine) (ha : EB X C E a ma) (hb : EB X C E b mb) : EC X C E .Eq a b (mOp (fEq false) ma mb) := ec_op (op_eqD (by omega)) (hk ▸ opS_eq) ha hb (nomark _)
theorem ec_ne (hk : X.K = C.K) (hu : X.A.units + 65 < cLine) (ha : EB X C E a ma) (hb : EB X C E b mb) : EC X C E .NotEq a b (mOp (fEq true) ma mb) := ec_op (op_neD (by omega)) (hk ▸ opS_ne) ha hb (nomark _)
theorem ec_lt (ha : EB X C E a ma) (hb : EB X C E b mb) : EC X C E .Lt a b (mOp (cmpI fun i j => decide (i < j)) ma mb) := ec_op op_lt (opS_I0 fun _ _ _ _ => .bl _) ha hb (nomark _)
theorem ec_le (ha : EB X C E a ma) (hb : EB X C E b mb) : EC X C E .LtE a b (mOp (cmpI fun i j => decide (i ≤ j)) ma mb) := ec_op op_le (opS_I0 fun _ _ _ _ => .bl _) ha hb (nomark _)
theorem ec_gt (ha : EB X C E a ma) (hb : EB X C E b mb) : EC X C E .Gt a b (mOp (cmpI fun i j => decide (j < i)) ma mb) := ec_op op_gt (opS_I0 fun _ _ _ _ => .bl _) ha hb (nomark _)
theorem ec_ge (ha : EB X C E a ma) (hb : EB X C E b mb) : EC X C E .GtE a b (mOp (cmpI fun i j => decide (j ≤ i)) ma mb) := ec_op op_ge (opS_I0 fun _ _ _ _ => .bl _) ha hb (nomark _)
theorem ec_in (hk : X.K = C.K) (hu : X.A.units + 65 < cLine) (ha : EB X C E a ma) (hb : EB X C E b mb) (hm : behindInMarks .In b = false := by rfl) : EC X C E .In a b (mOp (oIn false) ma mb) :=
  ec_op ((op_inD hu).or ((op_inT hu).or op_inS)) ((show OpS C.K (rInD X.K) (fInL false) from hk.symm ▸ opS_inL).or ((show OpS C.K (rInT X.K false) (fInT false) from hk.symm ▸ opS_inT false).or (opS_inS false))) ha hb hm
theorem ec_notIn (hk : X.K = C.K) (hu : X.A.units + 65 < cLine) (ha : EB X C E a ma) (hb : EB X C E b mb) (hm : behindInMarks .NotIn b = false := by rfl) : EC X C E .NotIn a b (mOp (oIn true) ma mb) :=
  ec_op ((op_notInD hu).or ((op_notInT hu).or op_notInS)) ((show OpS C.K (rNotInD X.K) (fInL true) from hk.symm ▸ opS_notInL).or ((show OpS C.K (rInT X.K true) (fInT true) from hk.symm ▸ opS_inT true).or (opS_inS true))) ha hb hm
theorem ec_is (ha : EB X C E a ma) (hb : EB X C E b mb) : EC X C E .Is a b (mOp (oIs false) ma mb) := ec_op (op_is0.or op_isB) ((opS_isN false).or (opS_isB false)) ha hb (nomark _)
theorem ec_isnot (ha : EB X C E a ma) (hb : EB X C E b mb) : EC X C E .IsNot a b (mOp (oIs true) ma mb) := ec_op (op_isnot0.or op_isnotB) ((opS_isN true).or (opS_isB true)) ha hb (nomark _)
/-- a op b op' c, of ints -/
def mChain (p p' : Int → Int → Bool) (ma mb mc : En → M O) : En → M O := fun r => bnd (ma r) fun x => bnd (mb r) fun y s => match x.int?, y.int? with
  | some i, some j => if p i j = true then bnd (mc r) (fun z s => match z.int? with
      | some k => .ok (bO (p' j k)) s
      | none => .bad) s
    else .ok (bO false) s
  | _, _ => .bad
theorem sim_chain {p p' : Int → Int → Bool} {ta tb tc : TE} (qa : SimB C E ta ma) (qb : SimB C E tb mb) (qc : SimB C E tc mc) :
    SimO C E (tChain (rI0 fun i j => .bl (p i j)) (rI0 fun i j => .bl (p' i j)) ta tb tc) (mChain p p' ma mb mc) := fun g Hs0 H0 e σ Hs H s Q R w => by
  refine qa g Hs0 H0 e σ Hs H s _ R (wp_mono (wp_bnd w) (fun o1 s1 w1 v F Hs1 H1 n1 r1 => ?_) fun _ _ _ x => x)
  refine qb g Hs0 H0 e σ Hs1 H1 s1 _ (R.next n1) (wp_mono (wp_bnd w1) (fun o2 s2 w2 u F2 Hs2 H2 n2 r2 => ?_) fun _ _ _ x => x.later n1)
  have n12 := n1.trans n2
  split at w2
  · rename_i i j e1 e2
    refine ⟨i, j, r1.int e1, r2.int e2, _, rfl, ?_⟩
    split at w2
    · rename_i hp
      rw [hp, if_pos rfl]
      refine qc g Hs0 H0 e σ Hs2 H2 s2 _ (R.next n12) (wp_mono (wp_bnd w2) (fun o3 s3 w3 z F3 Hs3 H3 n3 r3 => ?_) fun _ _ _ x => x.later n12)
      split at w3
      · rename_i k e3
        exact ⟨j, k, r2.int e2, r3.int e3, w3 _ [] Hs3 H3 (n12.trans n3) (.sh (.bl _)) fun _ m => nomatch m⟩
      · exact w3.elim
    · rename_i hp
      rw [if_neg hp]
      exact w2 _ [] Hs2 H2 n12 (.sh (.bl _)) fun _ m => nomatch m
  · exact w2.elim
theorem eo_chain {op op' : CmpOp} {p p' : Int → Int → Bool} (ho : OpR X (compareOp op) (rI0 fun i j => .bl (p i j))) (ho' : OpR X (compareOp op') (rI0 fun i j => .bl (p' i j))) (ha : EB X C E a ma) (hb : EB X C E b mb) (hc : EB X C E c mc)
    (hm : lastMarks [op, op'] [b, c] = false := by with_unfolding_all rfl) : EO X C E (.Compare a [op, op'] [b, c] pos) (mChain p p' ma mb mc) := by
  obtain ⟨ta, pa, qa⟩ := ha
  obtain ⟨tb, pb, qb⟩ := hb
  obtain ⟨tc, pc, qc⟩ := hc
  exact ⟨_, pe_chain ho ho' pa pb pc hm, sim_chain qa qb qc⟩
theorem et_chain {op op' : CmpOp} {p p' : Int → Int → Bool} (ho : OpR X (compareOp op) (rI0 fun i j => .bl (p i j))) (ho' : OpR X (compareOp op') (rI0 fun i j => .bl (p' i j))) (ha : EB X C E a ma) (hb : EB X C E b mb) (hc : EB X C E c mc)
    (hm : lastMarks [op, op'] [b, c] = false := by with_unfolding_all rfl) : ET X C E (.Compare a [op, op'] [b, c] pos) (mBl (mChain p p' ma mb mc)) := by
  obtain ⟨ta, pa, qa⟩ := ha
  obtain ⟨tb, pb, qb⟩ := hb
  obtain ⟨tc, pc, qc⟩ := hc
  exact ⟨_, pt_chain ho ho' pa pb pc hm, simT_of (sim_chain qa qb qc).b⟩
/-! ### tests, and, or, not, if -/
theorem et_val {m : En → M O} (h : EB X C E a m) (he : ∀ whole, isTrue a X.env whole = (do let v ← whole; standAt a.pos; holding [v] (truthy v)) := by intro _; rfl) : ET X C E a (mBl m) := by
  obtain ⟨t, p, q⟩ := h
  exact ⟨_, pt_val p he, simT_of q⟩
def mNotT (m : En → M Bool) : En → M Bool := fun r => bnd (m r) fun b s => .ok (!b) s
theorem et_not {m : En → M Bool} (h : ET X C E a m) : ET X C E (.UnaryOp .Not a pos) (mNotT m) := by
  obtain ⟨t, p, q⟩ := h
  exact ⟨_, pt_not p, fun g Hs0 H0 r σ Hs H s Q R w => q g Hs0 H0 r σ Hs H s _ R (wp_mono (wp_bnd w) (fun b s1 w1 => w1) fun _ _ _ x => x)⟩
/-- a chain of and, or as a test -/
def EW (X : Cx) (C : Ct) (E : XK) (e : Expr) (m : En → M Bool) : Prop := ∃ t, PW X e t ∧ SimT C E t m
def mAndT (m n : En → M Bool) : En → M Bool := fun r => bnd (m r) fun b s => if b = true then n r s else .ok false s
def mOrT (m n : En → M Bool) : En → M Bool := fun r => bnd (m r) fun b s => if b = true then .ok true s else n r s
theorem simT_and {t u : TT} {m n : En → M Bool} (q : SimT C E t m) (q' : SimT C E u n) : SimT C E (tAnd t u) (mAndT m n) := fun g Hs0 H0 r σ Hs H s Q R w => by
  refine q g Hs0 H0 r σ Hs H s _ R (wp_mono (wp_bnd w) (fun b s1 w1 Hs1 H1 n1 => ?_) fun _ _ _ x => x)
  split at w1
  · rename_i hb
    rw [if_pos hb]
    exact q' g Hs0 H0 r σ Hs1 H1 s1 _ (R.next n1) (wp_mono w1 (fun b s2 w2 Hs2 H2 n2 => w2 Hs2 H2 (n1.trans n2)) fun _ _ _ x => x.later n1)
  · rename_i hb
    rw [if_neg hb]
    exact w1 Hs1 H1 n1
theorem simT_or {t u : TT} {m n : En → M Bool} (q : SimT C E t m) (q' : SimT C E u n) : SimT C E (tOr t u) (mOrT m n) := fun g Hs0 H0 r σ Hs H s Q R w => by
  refine q g Hs0 H0 r σ Hs H s _ R (wp_mono (wp_bnd w) (fun b s1 w1 Hs1 H1 n1 => ?_) fun _ _ _ x => x)
  split at w1
  · rename_i hb
    rw [if_pos hb]
    exact w1 Hs1 H1 n1
  · rename_i hb
    rw [if_neg hb]
    exact q' g Hs0 H0 r σ Hs1 H1 s1 _ (R.next n1) (wp_mono w1 (fun b s2 w2 Hs2 H2 n2 => w2 Hs2 H2 (n1.trans n2)) fun _ _ _ x => x.later n1)
theorem ew_and1 {m : En → M Bool} (h : ET X C E a m) : EW X C E (.BoolOp .And [a] pos) m := let ⟨t, p, q⟩ := h; ⟨_, pw_and1 p, q⟩
theorem ew_or1 {m : En → M Bool} (h : ET X C E a m) : EW X C E (.BoolOp .Or [a] pos) m := let ⟨t, p, q⟩ := h; ⟨_, pw_or1 p, q⟩
theorem ew_and {m n : En → M Bool} {rest : List Expr} (h : ET X C E a m) (h' : EW X C E (.BoolOp .And (b :: rest) pos) n) : EW X C E (.BoolOp .And (a :: b :: rest) pos) (mAndT m n) := by
  obtain ⟨t, p, q⟩ := h
  obtain ⟨u, p', q'⟩ := h'
  exact ⟨_, pw_and p p', simT_and q q'⟩
theorem ew_or {m n : En → M Bool} {rest : List Expr} (h : ET X C E a m) (h' : EW X C E (.BoolOp .Or (b :: rest) pos) n) : EW X C E (.BoolOp .Or (a :: b :: rest) pos) (mOrT m n) := by
  obtain ⟨t, p, q⟩ := h
  obtain ⟨u, p', q'⟩ := h'
  exact ⟨_, pw_or p p', simT_or q q'⟩
theorem EW.et {e : Expr} {m : En → M Bool} (h : EW X C E e m) : ET X C E e m := let ⟨t, p, q⟩ := h; ⟨t, p.pt, q⟩
/-- the same as values: all but the last are Booleans -/
def mAnd (m n : En → M O) : En → M O := fun r => bnd (m r) fun o s => match o.bl? with
  | some b => if b = true then n r s else .ok (bO false) s
  | none => .bad
def mOr (m n : En → M O) : En → M O := fun r => bnd (m r) fun o s => match o.bl? with
  | some b => if b = true then .ok (bO true) s else n r s
  | none => .bad
def mNot (m : En → M O) : En → M O := fun r => bnd (m r) fun o s => match o.bl? with
  | some b => .ok (bO (!b)) s
  | none => .bad
theorem eo_not {m : En → M O} (h : EB X C E a m) : EO X C E (.UnaryOp .Not a pos) (mNot m) := by
  obtain ⟨t, p, q⟩ := h
  refine ⟨_, pe_not p, fun g Hs0 H0 r σ Hs H s Q R w => q g Hs0 H0 r σ Hs H s _ R (wp_mono (wp_bnd w) (fun o s1 w1 v F Hs1 H1 n1 r1 => ?_) fun _ _ _ x => x)⟩
  split at w1
  · rename_i b e
    exact ⟨b, r1.bl e, w1 _ [] Hs1 H1 n1 (.sh (.bl _)) fun _ m => nomatch m⟩
  · exact w1.elim
theorem eo_one {op} {m : En → M O} (h : EO X C E a m) : EO X C E (.BoolOp op [a] pos) m := let ⟨t, p, q⟩ := h; ⟨_, pe_one p, q⟩
theorem eo_and {m n : En → M O} {rest : List Expr} (h : EB X C E a m) (h' : EO X C E (.BoolOp .And (b :: rest) pos) n) : EO X C E (.BoolOp .And (a :: b :: rest) pos) (mAnd m n) := by
  obtain ⟨t, p, q⟩ := h
  obtain ⟨u, p', q'⟩ := h'
  refine ⟨_, pe_and p p', fun g Hs0 H0 r σ Hs H s Q R w => q g Hs0 H0 r σ Hs H s _ R (wp_mono (wp_bnd w) (fun o s1 w1 v F Hs1 H1 n1 r1 => ?_) fun _ _ _ x => x)⟩
  split at w1
  · rename_i b e
    refine ⟨b, r1.bl e, ?_⟩
    split at w1
    · rename_i hb
      rw [if_pos hb]
      exact q' g Hs0 H0 r σ Hs1 H1 s1 _ (R.next n1) (wp_mono w1 (fun b s2 w2 v F Hs2 H2 n2 r2 f2 => w2 v F Hs2 H2 (n1.trans n2) r2 fun a m => n1.there (f2 a m)) fun _ _ _ x => x.later n1)
    · rename_i hb
      rw [if_neg hb]
      exact w1 _ [] Hs1 H1 n1 (.sh (.bl _)) fun _ m => nomatch m
  · exact w1.elim
theorem eo_or {m n : En → M O} {rest : List Expr} (h : EB X C E a m) (h' : EO X C E (.BoolOp .Or (b :: rest) pos) n) : EO X C E (.BoolOp .Or (a :: b :: rest) pos) (mOr m n) := by
  obtain ⟨t, p, q⟩ := h
  obtain ⟨u, p', q'⟩ := h'
  refine ⟨_, pe_or p p', fun g Hs0 H0 r σ Hs H s Q R w => q g Hs0 H0 r σ Hs H s _ R (wp_mono (wp_bnd w) (fun o s1 w1 v F Hs1 H1 n1 r1 => ?_) fun _ _ _ x => x)⟩
  split at w1
  · rename_i b e
    refine ⟨b, r1.bl e, ?_⟩
    split at w1
    · rename_i hb
      rw [if_pos hb]
      exact w1 _ [] Hs1 H1 n1 (.sh (.bl _)) fun _ m => nomatch m
    · rename_i hb
      rw [if_neg hb]
      exact q' g Hs0 H0 r σ Hs1 H1 s1 _ (R.next n1) (wp_mono w1 (fun b s2 w2 v F Hs2 H2 n2 r2 f2 => w2 v F Hs2 H2 (n1.trans n2) r2 fun a m => n1.there (f2 a m)) fun _ _ _ x => x.later n1)
  · exact w1.elim
/-- a if t else b -/
def mIf (t : En → M Bool) (m n : En → M O) : En → M O := fun r => bnd (t r) fun b s => if b = true then m r s else n r s
theorem eo_if {t : Expr} {mt : En → M Bool} (ht : ET X C E t mt) (ha : EO X C E a ma) (hb : EO X C E b mb) : EO X C E (.IfExp t a b pos) (mIf mt ma mb) := by
  obtain ⟨tt, p, q⟩ := ht
  obtain ⟨ta, p1, q1⟩ := ha
  obtain ⟨tb, p2, q2⟩ := hb
  refine ⟨_, pe_ifExp p p1 p2, fun g Hs0 H0 r σ Hs H s Q R w => q g Hs0 H0 r σ Hs H s _ R (wp_mono (wp_bnd w) (fun b s1 w1 Hs1 H1 n1 => ?_) fun _ _ _ x => x)⟩
  split at w1
  · rename_i hb
    rw [if_pos hb]
    exact q1 g Hs0 H0 r σ Hs1 H1 s1 _ (R.next n1) (wp_mono w1 (fun b s2 w2 v F Hs2 H2 n2 r2 f2 => w2 v F Hs2 H2 (n1.trans n2) r2 fun a m => n1.there (f2 a m)) fun _ _ _ x => x.later n1)
  · rename_i hb
    rw [if_neg hb]
    exact q2 g Hs0 H0 r σ Hs1 H1 s1 _ (R.next n1) (wp_mono w1 (fun b s2 w2 v F Hs2 H2 n2 r2 f2 => w2 v F Hs2 H2 (n1.trans n2) r2 fun a m => n1.there (f2 a m)) fun _ _ _ x => x.later n1)
theorem em_if {t : Expr} {mt : En → M Bool} (ht : ET X C E t mt) (ha : EM X C E a ma) (hb : EM X C E b mb) : EM X C E (.IfExp t a b pos) (mIf mt ma mb) := by
  obtain ⟨tt, p, q⟩ := ht
  obtain ⟨ta, p1, q1⟩ := ha
  obtain ⟨tb, p2, q2⟩ := hb
  refine ⟨_, pe_ifExp p p1 p2, fun g Hs0 H0 r σ Hs H s Q R w => q g Hs0 H0 r σ Hs H s _ R (wp_mono (wp_bnd w) (fun b s1 w1 Hs1 H1 n1 => ?_) fun _ _ _ x => x)⟩
  split at w1
  · rename_i hb
    rw [if_pos hb]
    exact q1 g Hs0 H0 r σ Hs1 H1 s1 _ (R.next n1) (wp_mono w1 (fun b s2 w2 v F Hs2 H2 n2 r2 f2 => w2 v F Hs2 H2 (n1.trans n2) r2 f2) fun _ _ _ x => x.later n1)
  · rename_i hb
    rw [if_neg hb]
    exact q2 g Hs0 H0 r σ Hs1 H1 s1 _ (R.next n1) (wp_mono w1 (fun b s2 w2 v F Hs2 H2 n2 r2 f2 => w2 v F Hs2 H2 (n1.trans n2) r2 f2) fun _ _ _ x => x.later n1)
theorem eb_if {t : Expr} {mt : En → M Bool} (ht : ET X C E t mt) (ha : EB X C E a ma) (hb : EB X C E b mb) : EB X C E (.IfExp t a b pos) (mIf mt ma mb) := by
  obtain ⟨tt, p, q⟩ := ht
  obtain ⟨ta, p1, q1⟩ := ha
  obtain ⟨tb, p2, q2⟩ := hb
  refine ⟨_, pe_ifExp p p1 p2, fun g Hs0 H0 r σ Hs H s Q R w => q g Hs0 H0 r σ Hs H s _ R (wp_mono (wp_bnd w) (fun b s1 w1 Hs1 H1 n1 => ?_) fun _ _ _ x => x)⟩
  split at w1
  · rename_i hb
    rw [if_pos hb]
    exact q1 g Hs0 H0 r σ Hs1 H1 s1 _ (R.next n1) (wp_mono w1 (fun b s2 w2 v F Hs2 H2 n2 r2 => w2 v F Hs2 H2 (n1.trans n2) r2) fun _ _ _ x => x.later n1)
  · rename_i hb
    rw [if_neg hb]
    exact q2 g Hs0 H0 r σ Hs1 H1 s1 _ (R.next n1) (wp_mono w1 (fun b s2 w2 v F Hs2 H2 n2 r2 => w2 v F Hs2 H2 (n1.trans n2) r2) fun _ _ _ x => x.later n1)
end
end Lone
namespace Lone
open PySem PySem.Spec PyProof.Rows L2
/-! ### items -/
section
variable {K : PySem.W.Frag} {g : Option Addr} {Hs H : Hp}
theorem atI_map {α β : Type} (f : α → β) (l : List α) (i : Int) : atI (l.map f) i = (atI l i).map f := by
  unfold atI
  rw [List.length_map]
  cases ixN l.length i with
  | none => rfl
  | some j => simp
theorem Rps.atI {vs : List V} {l : List D} {i : Int} {d : D} (r : Rps K g H vs l) (e : L2.atI l i = some d) : ∃ v, L2.atI vs i = some v ∧ Rp K g H v d := by
  unfold L2.atI at e ⊢
  rw [r.len]
  cases q : ixN l.length i with
  | none => rw [q] at e; cases e
  | some j =>
    rw [q] at e
    exact r.get e
theorem ROs.get : ∀ {vs : List V} {l : List O} {F : List Addr} {i : Nat} {o : O}, ROs K g Hs H vs l F → l[i]? = some o → ∃ v F', vs[i]? = some v ∧ RO K g Hs H v o F' ∧ ∀ a ∈ F', a ∈ F
  | _, _, _, _, _, .nil, e => by simp at e
  | _, _, _, 0, _, .cons h _ _, e => by simp at e; subst e; exact ⟨_, _, rfl, h, fun a m => List.mem_append_left _ m⟩
  | _, _, _, i + 1, _, .cons _ t _, e => by
    obtain ⟨v, F', h1, h2, h3⟩ := ROs.get (i := i) t (by simpa using e)
    exact ⟨v, F', by simpa using h1, h2, fun a m => List.mem_append_right _ (h3 a m)⟩
theorem ROs.atI {vs : List V} {l : List O} {F : List Addr} {i : Int} {o : O} (r : ROs K g Hs H vs l F) (e : L2.atI l i = some o) : ∃ v F', L2.atI vs i = some v ∧ RO K g Hs H v o F' ∧ ∀ a ∈ F', a ∈ F := by
  unfold L2.atI at e ⊢
  rw [r.len]
  cases q : ixN l.length i with
  | none => rw [q] at e; cases e
  | some j =>
    rw [q] at e
    exact r.get e
end
def oIx (s : G3) (a : O) (i : Int) : Option O := match a with
  | .lst os => atI os i
  | .tup os => atI os i
  | .sh (.lst l) => (atI l i).map .sh
  | .sh (.tup l) => (atI l i).map .sh
  | .sh (.str z) => if z.length ≤ lineN then (atI z i).map (fun c => .sh (.str [c])) else none
  | .sh (.scr l) => (atI l i).map (fun c => .sh (.int c))
  | .sh .gen => (atI [s.a, s.b, s.c] i).map (fun c => .sh (.int c))
  | _ => none
theorem ix_ok {K : PySem.W.Frag} {g : Option Addr} {Hs H : Hp} {s : G3} {x : V} {a o : O} {F : List Addr} {i : Int} {Q : VK} (n : Nx g Hs H Hs H s) (r : RO K g Hs H x a F) (e : oIx s a i = some o)
    (q : ∀ v F', RO K g Hs H v o F' → (∀ b ∈ F', b ∈ F) → Q v H) : rIx K x (.int i) H Q := by
  unfold oIx at e
  split at e
  · cases r with
    | lst h1 h2 h3 h4 h5 =>
      obtain ⟨v, F', e1, e2, e3⟩ := h4.atI e
      exact .inl ⟨_, _, _, _, rfl, rfl, SqL.of h1, e1, q v F' e2 fun b m => List.mem_cons_of_mem _ (e3 b m)⟩
  · cases r with
    | tup h1 h4 =>
      obtain ⟨v, F', e1, e2, e3⟩ := h4.atI e
      exact .inr (.inl ⟨_, _, _, _, rfl, rfl, h1, e1, q v F' e2 e3⟩)
  · cases r with
    | sh r => cases r with
      | lst h1 h2 h3 =>
        rename_i l _ _
        cases q' : L2.atI l i with
        | none => rw [q'] at e; cases e
        | some d =>
          rw [q'] at e; cases e
          obtain ⟨v, e1, e2⟩ := h3.atI q'
          exact .inl ⟨_, _, _, _, rfl, rfl, SqL.of (n.sub _ _ h1), e1, q v [] (.sh e2) fun _ m => nomatch m⟩
  · cases r with
    | sh r => cases r with
      | tup h1 h3 =>
        rename_i l _ _
        cases q' : L2.atI l i with
        | none => rw [q'] at e; cases e
        | some d =>
          rw [q'] at e; cases e
          obtain ⟨v, e1, e2⟩ := h3.atI q'
          exact .inr (.inl ⟨_, _, _, _, rfl, rfl, sqT_same n.sub h1, e1, q v [] (.sh e2) fun _ m => nomatch m⟩)
  · split at e
    · rename_i z hz
      cases r with
      | sh r => cases r with
        | str _ =>
          cases q' : L2.atI z i with
          | none => rw [q'] at e; cases e
          | some c =>
            rw [q'] at e; cases e
            refine .inr (.inr ⟨_, _, c, rfl, rfl, by rw [str_len, ← lineN_eq]; exact hz, by simpa using q', q _ [] (.sh ?_) fun _ m => nomatch m⟩)
            exact .str [c]
    · cases e
  · cases r with
    | sh r => cases r with
      | scr h1 =>
        rename_i l _
        cases q' : L2.atI l i with
        | none => rw [q'] at e; cases e
        | some c =>
          rw [q'] at e; cases e
          exact .inl ⟨_, _, _, .int c, rfl, rfl, n.sub.seq h1, by rw [atI_map, q']; rfl, q _ [] (.sh (.int c)) fun _ m => nomatch m⟩
  · cases r with
    | sh r => cases r with
      | gen h1 =>
        have h2 := (n.gen _ h1).2
        cases q' : L2.atI [s.a, s.b, s.c] i with
        | none => rw [q'] at e; cases e
        | some c =>
          rw [q'] at e; cases e
          exact .inl ⟨_, _, _, .int c, rfl, rfl, SqL.of h2, by rw [show [V.int s.a, .int s.b, .int s.c] = [s.a, s.b, s.c].map V.int from rfl, atI_map, q']; rfl, q _ [] (.sh (.int c)) fun _ m => nomatch m⟩
  · cases e
/-- a[i] -/
def mIx (ma mb : En → M O) : En → M O := fun r => bnd (ma r) fun a => bnd (mb r) fun b s => match b.int? with
  | some i => match oIx s a i with
    | some o => .ok o s
    | none => .bad
  | none => .bad
/-- a[i], a shared thing -/
def mIxS (ma mb : En → M O) : En → M O := fun r => bnd (ma r) fun a => bnd (mb r) fun b s => match b.int? with
  | some i => match oIx s a i with
    | some (.sh d) => .ok (.sh d) s
    | _ => .bad
  | none => .bad
section
variable {X : Cx} {C : Ct} {E : XK} {a b c : Expr} {ma mb mc : En → M O} {pos : Pos}
theorem eb_ix (hk : X.K = C.K) (ha : EB X C E a ma) (hb : EB X C E b mb) (hs : PlainIx b := by exact fun _ _ => rfl) : EB X C E (.Subscript a b pos) (mIx ma mb) := by
  obtain ⟨ta, pa, qa⟩ := ha
  obtain ⟨tb, pb, qb⟩ := hb
  refine ⟨_, pe_ix ix_seq pa pb hs, fun g Hs0 H0 e σ Hs H s Q R w => ?_⟩
  rw [hk]
  refine qa g Hs0 H0 e σ Hs H s _ R (wp_mono (wp_bnd w) (fun o1 s1 w1 v F Hs1 H1 n1 r1 => ?_) fun _ _ _ x => x)
  refine qb g Hs0 H0 e σ Hs1 H1 s1 _ (R.next n1) (wp_mono (wp_bnd w1) (fun o2 s2 w2 u F2 Hs2 H2 n2 r2 => ?_) fun _ _ _ x => x.later n1)
  split at w2
  · rename_i i ei
    split at w2
    · rename_i o eo
      cases r2.int ei
      exact ix_ok n2.self (r1.next n2) eo fun v F' r3 _ => w2 v F' Hs2 H2 (n1.trans n2) r3
    · exact w2.elim
  · exact w2.elim
theorem eo_ix (hk : X.K = C.K) (ha : EO X C E a ma) (hb : EB X C E b mb) (hs : PlainIx b := by exact fun _ _ => rfl) : EO X C E (.Subscript a b pos) (mIx ma mb) := by
  obtain ⟨ta, pa, qa⟩ := ha
  obtain ⟨tb, pb, qb⟩ := hb
  refine ⟨_, pe_ix ix_seq pa pb hs, fun g Hs0 H0 e σ Hs H s Q R w => ?_⟩
  rw [hk]
  refine qa g Hs0 H0 e σ Hs H s _ R (wp_mono (wp_bnd w) (fun o1 s1 w1 v F Hs1 H1 n1 r1 f1 => ?_) fun _ _ _ x => x)
  refine qb g Hs0 H0 e σ Hs1 H1 s1 _ (R.next n1) (wp_mono (wp_bnd w1) (fun o2 s2 w2 u F2 Hs2 H2 n2 r2 => ?_) fun _ _ _ x => x.later n1)
  split at w2
  · rename_i i ei
    split at w2
    · rename_i o eo
      cases r2.int ei
      exact ix_ok n2.self (r1.next n2) eo fun v F' r3 m => w2 v F' Hs2 H2 (n1.trans n2) r3 fun b mb => f1 b (m b mb)
    · exact w2.elim
  · exact w2.elim
theorem eo_ixS (hk : X.K = C.K) (ha : EB X C E a ma) (hb : EB X C E b mb) (hs : PlainIx b := by exact fun _ _ => rfl) : EO X C E (.Subscript a b pos) (mIxS ma mb) := by
  obtain ⟨ta, pa, qa⟩ := ha
  obtain ⟨tb, pb, qb⟩ := hb
  refine ⟨_, pe_ix ix_seq pa pb hs, fun g Hs0 H0 e σ Hs H s Q R w => ?_⟩
  rw [hk]
  refine qa g Hs0 H0 e σ Hs H s _ R (wp_mono (wp_bnd w) (fun o1 s1 w1 v F Hs1 H1 n1 r1 => ?_) fun _ _ _ x => x)
  refine qb g Hs0 H0 e σ Hs1 H1 s1 _ (R.next n1) (wp_mono (wp_bnd w1) (fun o2 s2 w2 u F2 Hs2 H2 n2 r2 => ?_) fun _ _ _ x => x.later n1)
  split at w2
  · rename_i i ei
    split at w2
    · rename_i o eo
      cases r2.int ei
      refine ix_ok n2.self (r1.next n2) eo fun v F' r3 _ => w2 v F' Hs2 H2 (n1.trans n2) r3 ?_
      cases r3
      exact fun _ m => nomatch m
    · exact w2.elim
  · exact w2.elim
/-! ### slices -/
def cutL {α : Type} (xs : List α) (lo hi : Option Int) : List α := (xs.drop (HT.sIx xs.length 0 lo)).take (HT.sIx xs.length xs.length hi - HT.sIx xs.length 0 lo)
theorem Rps.cut {K : PySem.W.Frag} {g : Option Addr} {H : Hp} {vs : List V} {l : List D} (r : Rps K g H vs l) (lo hi : Option Int) : Rps K g H (cutV vs lo hi) (cutL l lo hi) := by
  unfold cutV cutL
  rw [r.len]
  exact (r.drop _).take _
theorem cut_ints (l : List Int) (lo hi : Option Int) : cutV (l.map V.int) lo hi = (cutL l lo hi).map V.int := by
  unfold cutV cutL
  rw [List.length_map, List.map_take, List.map_drop]
/-- a slice's part -/
def SimP (C : Ct) (E : XK) (t : TO) (m : En → M (Option Int)) : Prop := ∀ g Hs0 H0 r σ Hs H s Q, SR C.K g Hs0 H0 r σ Hs H s →
  wp (m r s) (fun o s' => ∀ Hs' H', Nx g Hs H Hs' H' s' → Q o H') (XP C E g Hs H) → t σ H Q
def EP' (X : Cx) (C : Ct) (E : XK) (e : Option Expr) (m : En → M (Option Int)) : Prop := ∃ t, PO X e t ∧ SimP C E t m
def mNoP : En → M (Option Int) := fun _ => ret none
def mSoP (m : En → M O) : En → M (Option Int) := fun r => bnd (m r) fun o s => match o.int? with
  | some i => .ok (some i) s
  | none => .bad
theorem ep_none : EP' X C E none mNoP := ⟨_, po_none, fun g Hs0 H0 r σ Hs H s Q R w => w Hs H R.start⟩
theorem ep_some (h : EB X C E a ma) : EP' X C E (some a) (mSoP ma) := by
  obtain ⟨t, p, q⟩ := h
  refine ⟨_, po_some p, fun g Hs0 H0 r σ Hs H s Q R w => q g Hs0 H0 r σ Hs H s _ R (wp_mono (wp_bnd w) (fun o s1 w1 v F Hs1 H1 n1 r1 => ?_) fun _ _ _ x => x)⟩
  split at w1
  · rename_i i e
    exact ⟨i, r1.int e, w1 Hs1 H1 n1⟩
  · exact w1.elim
def oSl (a : O) (lo hi : Option Int) : Option O := match a.items with
  | some l => some (.lst ((cutL l lo hi).map .sh))
  | none => match a.tits with
    | some l => some (.sh (.tup (cutL l lo hi)))
    | none => match a with
      | .sh (.str z) => if z.length ≤ lineN then some (.sh (.str (cutL z lo hi))) else none
      | .sh (.scr l) => some (.lst ((cutL l lo hi).map fun i => .sh (.int i)))
      | _ => none
def mSl (ma : En → M O) (ml mh : En → M (Option Int)) : En → M O := fun r => bnd (ma r) fun a => bnd (ml r) fun lo => bnd (mh r) fun hi s => match oSl a lo hi with
  | some o => .ok o s
  | none => .bad
def rSl4 (K : PySem.W.Frag) : V → Option Int → Option Int → Hp → VK → Prop := fun x lo hi H Q => rSlL K x lo hi H Q ∨ rSlA K x lo hi H Q ∨ rSlS x lo hi H Q
theorem cut_whole {α : Type} (l : List α) (lo hi : Option Int) (h : HT.sIx l.length 0 lo = 0 ∧ HT.sIx l.length l.length hi = l.length) : cutL l lo hi = l := by
  unfold cutL
  rw [h.1, h.2]
  simp
theorem sl_ok {K : PySem.W.Frag} {g : Option Addr} {Hs H : Hp} {s : G3} {x : V} {a o : O} {F : List Addr} {lo hi : Option Int} {Q : VK} (n : Nx g Hs H Hs H s) (r : RO K g Hs H x a F) (e : oSl a lo hi = some o)
    (q : ∀ v F Hs' H', Nx g Hs H Hs' H' s → RO K g Hs' H' v o F → (∀ a ∈ F, H a = none) → Q v H') : rSl4 K x lo hi H Q := by
  unfold oSl at e
  split at e
  · rename_i l el
    obtain ⟨p, vs, rfl, hp, _, rp⟩ := r.items n.sub el
    exact .inl ⟨p, vs, rfl, SqL.of hp, new_lst n (rp.cut lo hi) (Option.some.inj e).symm q⟩
  · split at e
    · rename_i l el
      cases e
      obtain ⟨p, vs, rfl, hp, rp⟩ := r.tits n.sub el
      refine .inr (.inl ⟨p, vs, rfl, hp, fun h => ?_, fun _ => new_tup n (rp.cut lo hi) q⟩)
      rw [rp.len] at h
      rw [cut_whole l lo hi h] at q
      exact old_tup n hp rp q
    · split at e
      · split at e
        · rename_i z _ _ hz
          cases e
          cases r with
          | sh r => cases r with
            | str _ =>
              refine .inr (.inr ⟨_, rfl, by rw [str_len, ← lineN_eq]; exact hz, q _ [] Hs H n (.sh ?_) fun _ m => nomatch m⟩)
              rw [show cutS ⟨z.toArray⟩ lo hi = ⟨(cutL z lo hi).toArray⟩ from rfl]
              exact .str _
        · cases e
      · cases r with
        | sh r => cases r with
          | scr h1 =>
            rename_i l _ _ _
            refine .inl ⟨_, _, rfl, n.sub.seq h1, new_lst n (l := (cutL l lo hi).map D.int) ?_ ?_ q⟩
            · rw [cut_ints]; exact .ints
            · rw [← Option.some.inj e, List.map_map]; rfl
      · cases e
theorem eo_sl {lo hi : Option Expr} {ml mh : En → M (Option Int)} {p2 : Pos} (hk : X.K = C.K) (ha : EB X C E a ma) (hl : EP' X C E lo ml) (hh : EP' X C E hi mh) : EO X C E (.Subscript a (.Slice lo hi none p2) pos) (mSl ma ml mh) := by
  obtain ⟨ta, pa, qa⟩ := ha
  obtain ⟨tl, pl, ql⟩ := hl
  obtain ⟨th, ph, qh⟩ := hh
  refine ⟨_, pe_slice (sl_list.or (sl_tupA.or sl_str)) pa pl ph, fun g Hs0 H0 e σ Hs H s Q R w => ?_⟩
  rw [hk]
  refine qa g Hs0 H0 e σ Hs H s _ R (wp_mono (wp_bnd w) (fun o1 s1 w1 v F Hs1 H1 n1 r1 => ?_) fun _ _ _ x => x)
  refine ql g Hs0 H0 e σ Hs1 H1 s1 _ (R.next n1) (wp_mono (wp_bnd w1) (fun o2 s2 w2 Hs2 H2 n2 => ?_) fun _ _ _ x => x.later n1)
  have n12 := n1.trans n2
  refine qh g Hs0 H0 e σ Hs2 H2 s2 _ (R.next n12) (wp_mono (wp_bnd w2) (fun o3 s3 w3 Hs3 H3 n3 => ?_) fun _ _ _ x => x.later n12)
  have n13 := n12.trans n3
  split at w3
  · rename_i o eo
    exact sl_ok n3.self ((r1.next n2).next n3) eo fun v F Hs' H' n4 r4 f4 => w3 v F Hs' H' (n13.trans n4) r4 fun a m => n13.there (f4 a m)
  · exact w3.elim
/-! ### calls of what is built in -/
structure CaS (K : PySem.W.Frag) (r : List V → Hp → VK → Prop) (f : List O → Option O) : Prop where
  run : ∀ {g : Option Addr} {Hs H : Hp} {s : G3} {vs : List V} {os : List O} {o : O} {Q : VK},
    Nx g Hs H Hs H s → RBs K g Hs H vs os → f os = some o →
    (∀ v F Hs' H', Nx g Hs H Hs' H' s → RO K g Hs' H' v o F → (∀ a ∈ F, H a = none) → Q v H') → r vs H Q
theorem CaS.or {K : PySem.W.Frag} {r r' : List V → Hp → VK → Prop} {f f' : List O → Option O} (h : CaS K r f) (h' : CaS K r' f') : CaS K (fun x H Q => r x H Q ∨ r' x H Q) (fun a => alt (f a) (f' a)) := by
  refine ⟨?_⟩
  intro g Hs H s vs os o Q n r1 e q
  dsimp only [alt] at e
  split at e
  · rename_i u eu
    cases e
    exact .inl (h.run n r1 eu q)
  · exact .inr (h'.run n r1 e q)
def mCB (f : List O → Option O) (ms : En → M (List O)) : En → M O := fun r => bnd (ms r) fun os s => match f os with
  | some o => .ok o s
  | none => .bad
theorem sim_cb {r : List V → Hp → VK → Prop} {f : List O → Option O} {t : TA} {ms : En → M (List O)} (hf : CaS C.K r f) (q : SimAB C E t ms) : SimO C E (tCB r t) (mCB f ms) := fun g Hs0 H0 e σ Hs H s Q R w => by
  refine q g Hs0 H0 e σ Hs H s _ R (wp_mono (wp_bnd w) (fun o1 s1 w1 v Hs1 H1 n1 r1 => ?_) fun _ _ _ x => x)
  split at w1
  · rename_i o eo
    exact hf.run n1.self r1 eo fun v F Hs' H' n3 r3 f3 => w1 v F Hs' H' (n1.trans n3) r3 fun a m => n1.there (f3 a m)
  · exact w1.elim
theorem eo_cb {x : Str} {p : Pos} {id : String} {r : List V → Hp → VK → Prop} {f : List O → Option O} {es : List Expr} {ms : En → M (List O)} (hc : CallR X (.builtin id) r) (hf : CaS C.K r f) (hg : Gl X x) (hm : X.mg x = none) (hv : bootBuiltins x = some (.builtin id))
    (ha : AB X C E (a :: es) ms) (hn : x ≠ "__name__" := by decide) (hdb : (x == ("__debug__" : Str)) = false := by decide) (he : starEach (a :: es) X.env = (false, eval a X.env) :: starEach es X.env := by rfl) (hpl : (backTo pos (starEach es X.env)).any (·.1) = false := by rfl) :
    EO X C E (.Call (.Name x p) (a :: es) [] pos) (mCB f ms) := let ⟨_, pa, qa⟩ := ha; ⟨_, pe_callB hc hg hm hv pa hn hdb he hpl, sim_cb hf qa⟩
theorem eo_ct {x : Str} {p : Pos} {T : String} {r : List V → Hp → VK → Prop} {f : List O → Option O} {es : List Expr} {ms : En → M (List O)} (hc : CallR X (.type T) r) (hf : CaS C.K r f) (hg : Gl X x) (hm : X.mg x = none) (hv : bootBuiltins x = some (.type T))
    (ha : AB X C E (a :: es) ms) (hn : x ≠ "__name__" := by decide) (hdb : (x == ("__debug__" : Str)) = false := by decide) (he : starEach (a :: es) X.env = (false, eval a X.env) :: starEach es X.env := by rfl) (hpl : (backTo pos (starEach es X.env)).any (·.1) = false := by rfl) :
    EO X C E (.Call (.Name x p) (a :: es) [] pos) (mCB f ms) := let ⟨_, pa, qa⟩ := ha; ⟨_, pe_callTy hc hg hm hv pa hn hdb he hpl, sim_cb hf qa⟩
end
/-! len -/
def iO (i : Int) : O := .sh (.int i)
def oLen : List O → Option O
  | [o] => match o.d with
    | .lst l => some (iO l.length)
    | .tup l => some (iO l.length)
    | .str z => if z.length ≤ lineN then some (iO z.length) else none
    | .scr l => some (iO l.length)
    | _ => none
  | _ => none
theorem int_cont {K : PySem.W.Frag} {g : Option Addr} {Hs H : Hp} {s : G3} {i : Int} {o : O} {Q : VK} (n : Nx g Hs H Hs H s) (e : iO i = o)
    (q : ∀ v F Hs' H', Nx g Hs H Hs' H' s → RO K g Hs' H' v o F → (∀ a ∈ F, H a = none) → Q v H') : Q (.int i) H := by
  subst e
  exact q _ [] Hs H n (.sh (.int i)) fun _ m => nomatch m
theorem caS_len {K : PySem.W.Frag} : CaS K (fun xs H Q => ∃ x n, xs = [x] ∧ LenV K x H n ∧ Q (.int n) H) oLen := by
  refine ⟨?_⟩
  intro g Hs H s vs os o Q n r e q
  unfold oLen at e
  split at e
  · cases r with
    | cons r t =>
      cases t
      have rd := r.read n.sub
      split at e
      · rename_i l el
        rw [el] at rd
        cases rd with
        | lst h1 h2 h3 => exact ⟨_, _, rfl, .inl ⟨_, SqL.of h1, rfl⟩, h3.len ▸ int_cont n (Option.some.inj e) q⟩
      · rename_i l el
        rw [el] at rd
        cases rd with
        | tup h1 h3 => exact ⟨_, _, rfl, .inr ⟨_, h1, rfl⟩, h3.len ▸ int_cont n (Option.some.inj e) q⟩
      · split at e
        · rename_i z el hz
          rw [el] at rd
          cases rd with
          | str _ => exact ⟨_, _, rfl, ⟨by rw [str_len, ← lineN_eq]; exact hz, rfl⟩, int_cont n (Option.some.inj e) q⟩
        · cases e
      · rename_i l el
        rw [el] at rd
        cases rd with
        | scr h1 => exact ⟨_, _, rfl, .inl ⟨_, h1, rfl⟩, by rw [List.length_map]; exact int_cont n (Option.some.inj e) q⟩
      · cases e
  · cases e
/-! int, max, min, list, tuple, sum, all, any -/
def oInt : List O → Option O
  | [o] => match o with
    | .sh (.int i) => some (iO i)
    | .sh (.bl b) => some (iO (if b then 1 else 0))
    | _ => none
  | _ => none
theorem caS_int {K : PySem.W.Frag} : CaS K (fun xs H Q => (∃ i, xs = [.int i] ∧ Q (.int i) H) ∨ ∃ k, xs = [.bl k] ∧ Q (.int (if k then 1 else 0)) H) oInt := by
  refine ⟨?_⟩
  intro g Hs H s vs os o Q n r e q
  unfold oInt at e
  split at e
  · cases r with
    | cons r t =>
      cases t
      split at e
      · cases r with | sh r => cases r with | int _ => exact .inl ⟨_, rfl, int_cont n (Option.some.inj e) q⟩
      · cases r with | sh r => cases r with | bl _ => exact .inr ⟨_, rfl, int_cont n (Option.some.inj e) q⟩
      · cases e
  · cases e
def oII (f : Int → Int → Int) : List O → Option O
  | [a, b] => match a.int?, b.int? with
    | some i, some j => some (iO (f i j))
    | _, _ => none
  | _ => none
theorem caS_II {K : PySem.W.Frag} {f : Int → Int → Int} : CaS K (fun xs H Q => ∃ i j, xs = [.int i, .int j] ∧ Q (.int (f i j)) H) (oII f) := by
  refine ⟨?_⟩
  intro g Hs H s vs os o Q n r e q
  unfold oII at e
  split at e
  · cases r with
    | cons r t => cases t with
      | cons r' t' =>
        cases t'
        split at e
        · rename_i i j e1 e2
          cases r.int e1
          cases r'.int e2
          exact ⟨i, j, rfl, int_cont n (Option.some.inj e) q⟩
        · cases e
  · cases e
def oList : List O → Option O
  | [o] => match o.items with
    | some l => some (.lst (l.map .sh))
    | none => match o.tits with
      | some l => some (.lst (l.map .sh))
      | none => none
  | _ => none
theorem caS_list {K : PySem.W.Frag} : CaS K (fun xs H Q => ∃ p ys, xs = [.ref p] ∧ (SqL K H p ys ∨ SqT K H p ys) ∧ ∀ l, H l = none → Q (.ref l) (upd H l (.lst ys))) oList := by
  refine ⟨?_⟩
  intro g Hs H s vs os o Q n r e q
  unfold oList at e
  split at e
  · cases r with
    | cons r t =>
      cases t
      split at e
      · rename_i l el
        obtain ⟨p, vs, rfl, hp, _, rp⟩ := r.items n.sub el
        exact ⟨p, vs, rfl, .inl (SqL.of hp), new_lst n rp (Option.some.inj e).symm q⟩
      · split at e
        · rename_i l el
          obtain ⟨p, vs, rfl, hp, rp⟩ := r.tits n.sub el
          exact ⟨p, vs, rfl, .inr hp, new_lst n rp (Option.some.inj e).symm q⟩
        · cases e
  · cases e
def oTuple : List O → Option O
  | [o] => match o.items with
    | some l => some (.sh (.tup l))
    | none => match o.tits with
      | some l => some (.sh (.tup l))
      | none => none
  | _ => none
theorem caS_tuple {K : PySem.W.Frag} : CaS K (fun xs H Q => ∃ p ys, xs = [.ref p] ∧ ((SqL K H p ys ∧ ∀ l, H l = none → Q (.ref l) (upd H l (.tup ys))) ∨ (SqT K H p ys ∧ Q (.ref p) H))) oTuple := by
  refine ⟨?_⟩
  intro g Hs H s vs os o Q n r e q
  unfold oTuple at e
  split at e
  · cases r with
    | cons r t =>
      cases t
      split at e
      · rename_i l el
        cases e
        obtain ⟨p, vs, rfl, hp, _, rp⟩ := r.items n.sub el
        exact ⟨p, vs, rfl, .inl ⟨SqL.of hp, new_tup n rp q⟩⟩
      · split at e
        · rename_i l el
          cases e
          obtain ⟨p, vs, rfl, hp, rp⟩ := r.tits n.sub el
          exact ⟨p, vs, rfl, .inr ⟨hp, old_tup n hp rp q⟩⟩
        · cases e
  · cases e
def D.ints : List D → Option (List Int)
  | [] => some []
  | .int i :: r => match D.ints r with
    | some l => some (i :: l)
    | none => none
  | _ :: _ => none
def D.bls : List D → Option (List Bool)
  | [] => some []
  | .bl i :: r => match D.bls r with
    | some l => some (i :: l)
    | none => none
  | _ :: _ => none
theorem D.ints_eq : ∀ {ds : List D} {l : List Int}, D.ints ds = some l → ds = l.map .int
  | [], l, h => by cases h; rfl
  | .int d :: r, l, h => by
    have h' : (match D.ints r with | some l => some (d :: l) | none => none) = some l := h
    split at h'
    · rename_i m e
      cases h'
      rw [D.ints_eq e]; rfl
    · cases h'
  | .non :: _, _, h | .bl _ :: _, _, h | .str _ :: _, _, h | .tup _ :: _, _, h | .lst _ :: _, _, h | .dic _ :: _, _, h | .gen :: _, _, h | .scr _ :: _, _, h | .fn _ :: _, _, h | .exc _ _ :: _, _, h => nomatch h
theorem D.bls_eq : ∀ {ds : List D} {l : List Bool}, D.bls ds = some l → ds = l.map .bl
  | [], l, h => by cases h; rfl
  | .bl d :: r, l, h => by
    have h' : (match D.bls r with | some l => some (d :: l) | none => none) = some l := h
    split at h'
    · rename_i m e
      cases h'
      rw [D.bls_eq e]; rfl
    · cases h'
  | .non :: _, _, h | .int _ :: _, _, h | .str _ :: _, _, h | .tup _ :: _, _, h | .lst _ :: _, _, h | .dic _ :: _, _, h | .gen :: _, _, h | .scr _ :: _, _, h | .fn _ :: _, _, h | .exc _ _ :: _, _, h => nomatch h
theorem D.ints_map (l : List Int) : D.ints (l.map .int) = some l := by
  induction l with
  | nil => rfl
  | cons x r ih => show (match D.ints (r.map .int) with | some l => some (x :: l) | none => none) = _; rw [ih]
theorem D.bls_map (l : List Bool) : D.bls (l.map .bl) = some l := by
  induction l with
  | nil => rfl
  | cons x r ih => show (match D.bls (r.map .bl) with | some l => some (x :: l) | none => none) = _; rw [ih]
/-- a list of ints, made one thing -/
def oOfInts (f : List Int → Option O) : List O → Option O
  | [o] => match o.d with
    | .lst ds => match D.ints ds with
      | some l => f l
      | none => none
    | .scr l => f l
    | _ => none
  | _ => none
theorem RO.intsL {K : PySem.W.Frag} {g : Option Addr} {Hs H : Hp} {v : V} {o : O} {F : List Addr} {ds : List D} {l : List Int} (r : RO K g Hs H v o F) (sb : Same Hs H) (e : o.d = .lst ds) (e2 : D.ints ds = some l) : ∃ a, v = .ref a ∧ SqL K H a (l.map V.int) := by
  have rd := r.read sb
  rw [e] at rd
  cases rd with
  | lst h1 h2 h3 =>
    rw [D.ints_eq e2] at h3
    rw [← Rps.of_ints h3]
    exact ⟨_, rfl, SqL.of h1⟩
theorem caS_sum {K : PySem.W.Frag} : CaS K (rSum K) (oOfInts fun l => some (iO l.sum)) := by
  refine ⟨?_⟩
  intro g Hs H s vs os o Q n r e q
  unfold oOfInts at e
  split at e
  · cases r with
    | cons r t =>
      cases t
      split at e
      · rename_i ds ed
        split at e
        · rename_i l el
          obtain ⟨a, rfl, h⟩ := r.intsL n.sub ed el
          exact ⟨a, l, rfl, h, int_cont n (Option.some.inj e) q⟩
        · cases e
      · rename_i l el
        have rd := r.read n.sub
        rw [el] at rd
        cases rd with
        | scr h1 => exact ⟨_, l, rfl, h1, int_cont n (Option.some.inj e) q⟩
      · cases e
  · cases e
def oOfBls (f : List Bool → Bool) : List O → Option O
  | [o] => match o.d with
    | .lst ds => match D.bls ds with
      | some l => some (bO (f l))
      | none => none
    | _ => none
  | _ => none
theorem caS_all {K : PySem.W.Frag} : CaS K (rAll K) (oOfBls fun l => l.all id) := by
  refine ⟨?_⟩
  intro g Hs H s vs os o Q n r e q
  unfold oOfBls at e
  split at e
  · cases r with
    | cons r t =>
      cases t
      split at e
      · rename_i ds ed
        split at e
        · rename_i l el
          have rd := r.read n.sub
          rw [ed] at rd
          cases rd with
          | lst h1 h2 h3 =>
            rw [D.bls_eq el] at h3
            have := Rps.of_bls h3
            subst this
            exact ⟨_, l, rfl, SqL.of h1, bl_cont n (Option.some.inj e) q⟩
        · cases e
      · cases e
  · cases e
theorem caS_any {K : PySem.W.Frag} : CaS K (rAny K) (oOfBls fun l => l.any id) := by
  refine ⟨?_⟩
  intro g Hs H s vs os o Q n r e q
  unfold oOfBls at e
  split at e
  · cases r with
    | cons r t =>
      cases t
      split at e
      · rename_i ds ed
        split at e
        · rename_i l el
          have rd := r.read n.sub
          rw [ed] at rd
          cases rd with
          | lst h1 h2 h3 =>
            rw [D.bls_eq el] at h3
            have := Rps.of_bls h3
            subst this
            exact ⟨_, l, rfl, SqL.of h1, bl_cont n (Option.some.inj e) q⟩
        · cases e
      · cases e
  · cases e
/-! repr -/
def D.shw (d : D) : Txt := d.py.shown.cps.toList
def D.shb (d : D) : Bool := d.fit && d.py.showable && Nat.ble d.shw.length lineN
def oRepr : List O → Option O
  | [o] => if o.d.shb then some (.sh (.str o.d.shw)) else none
  | _ => none
def rRepr (K : PySem.W.Frag) : List V → Hp → VK → Prop := fun xs H Q => ∃ x d, xs = [x] ∧ Dp K H x d ∧ d.showable = true ∧ d.hasDict = false ∧ d.shown.length ≤ sizeLine ∧ d.depth ≤ 60 ∧ Q (.str d.shown) H
theorem call_reprD {X : Cx} (hg : X.A.guards = some []) (hu : X.A.units + 65 < cLine) : CallR X (.builtin "repr") (rRepr X.K) := fun pins s σ H xs us Q I r h => by
  obtain ⟨x, d, rfl, hd, h1, h2, h3, h4, q⟩ := h
  obtain ⟨u, rfl, ru⟩ := vals1 r
  cases hd with
  | non =>
    cases ru
    refine PySem.P.repr_of_none ⟨.str "None", H, I.tok _, ⟨_, rfl⟩, ?_⟩
    simpa only [PyData.shown] using q
  | bl b =>
    cases ru
    refine PySem.P.repr_of_bool ⟨.str (if b then "True" else "False"), H, I.tok _, ⟨s.toks, ?_⟩, ?_⟩
    · cases b <;> rfl
    · simp only [PyData.shown] at q
      cases b <;> exact q
  | int i =>
    obtain ⟨t, rfl⟩ := ru
    refine PySem.P.repr_of_int (by simpa [PyData.showable] using h1) ⟨.str (toString i), H, I.tok _, ⟨_, rfl⟩, ?_⟩
    simpa only [PyData.shown] using q
  | str z =>
    obtain ⟨t, rfl⟩ := ru
    refine PySem.P.repr_of_str ⟨.str (reprText z), H, I.tok _, ⟨_, rfl⟩, ?_⟩ (by simpa only [PyData.shown] using h3)
    simpa only [PyData.shown] using q
  | lst hs ha =>
    obtain ⟨as, w⟩ := Dp.reads I _ _ u (.lst hs ha) ru
    cases ru
    exact repr_of_reads' w h1 (PyData.noDict_hsm h2) hg (by omega) (fun _ _ e => e) (fun h' t tk hk => ⟨.str _, H, I.kept hk, ⟨_, rfl⟩, q⟩) h3
  | tup hs ha =>
    obtain ⟨as, w⟩ := Dp.reads I _ _ u (.tup hs ha) ru
    cases ru
    exact repr_of_reads' w h1 (PyData.noDict_hsm h2) hg (by omega) (fun _ _ e => e) (fun h' t tk hk => ⟨.str _, H, I.kept hk, ⟨_, rfl⟩, q⟩) h3
theorem caS_repr {K : PySem.W.Frag} : CaS K (rRepr K) oRepr := by
  refine ⟨?_⟩
  intro g Hs H s vs os o Q n r e q
  unfold oRepr at e
  split at e
  · cases r with
    | cons r t =>
      cases t
      split at e
      · rename_i hb
        cases e
        unfold D.shb at hb
        simp only [Bool.and_eq_true] at hb
        refine ⟨_, _, rfl, r.dp n.sub hb.1.1, hb.1.2, PyData.hasDict_of_canLay _ (D.lay _ (D.fit_ok hb.1.1)), ?_, ?_, q _ [] Hs H n (.sh ?_) fun _ m => nomatch m⟩
        · have := Nat.le_of_ble_eq_true hb.2
          rw [lineN_eq] at this
          unfold D.shw at this
          rw [Array.length_toList] at this
          exact this
        · rw [D.dep_eq _ (D.fit_ok hb.1.1)]; exact D.fit_dep hb.1.1
        · rename_i od _ _
          rw [show PyData.shown od.d.py = ⟨(D.shw od.d).toArray⟩ by unfold D.shw; simp]
          exact .str _
      · cases e
  · cases e
end Lone
namespace Lone
open PySem PySem.Spec PyProof.Rows L2
/-! ### frames, with what each slot owns -/
structure SRF (K : PySem.W.Frag) (g : Option Addr) (Hs0 H0 : Hp) (r : En) (σ : L2.St) (Hs H : Hp) (s : G3) (F : Nat → List Addr) : Prop where
  nx : Nx g Hs0 H0 Hs H s
  len : r.length = σ.length
  at_ : ∀ i o, r[i]? = some (.ob o) → ∃ v, σ[i]? = some (some v) ∧ RO K g Hs H v o (F i)
  di : ∀ i j a, a ∈ F i → a ∈ F j → i = j
  nw : ∀ i a, a ∈ F i → H0 a = none ∧ ∃ u, H a = some u
section
variable {K : PySem.W.Frag} {g : Option Addr} {Hs0 H0 Hs H Hs' H' : Hp} {r : En} {σ : L2.St} {s s' : G3} {F : Nat → List Addr}
theorem SRF.sr (h : SRF K g Hs0 H0 r σ Hs H s F) : SR K g Hs0 H0 r σ Hs H s := ⟨h.nx, h.len, F, h.at_, h.di, h.nw⟩
theorem SR.srf (h : SR K g Hs0 H0 r σ Hs H s) : ∃ F, SRF K g Hs0 H0 r σ Hs H s F := let ⟨F, a, b, c⟩ := h.ex; ⟨F, h.nx, h.len, a, b, c⟩
theorem SRF.next (h : SRF K g Hs0 H0 r σ Hs H s F) (n : Nx g Hs H Hs' H' s') : SRF K g Hs0 H0 r σ Hs' H' s' F := by
  refine ⟨h.nx.trans n, h.len, fun i o e => ?_, h.di, fun i a m => ⟨(h.nw i a m).1, ?_⟩⟩
  · obtain ⟨v, e1, e2⟩ := h.at_ i o e
    exact ⟨v, e1, e2.next n⟩
  · cases q : H' a with
    | some u => exact ⟨u, rfl⟩
    | none =>
      obtain ⟨u, e⟩ := (h.nw i a m).2
      rw [n.there q] at e; cases e
/-- a slot is stored -/
theorem SRF.put {v : V} {o : O} {F0 : List Addr} {i : Nat} (h : SRF K g Hs0 H0 r σ Hs H s F) (q : RO K g Hs H v o F0) (dj : ∀ j a, a ∈ F j → a ∉ F0) (nw : ∀ a ∈ F0, H0 a = none) :
    SRF K g Hs0 H0 (r.set i (.ob o)) (σ.set i (some v)) Hs H s (fun j => if j = i then F0 else F j) := by
  refine ⟨h.nx, by rw [List.length_set, List.length_set]; exact h.len, fun j u e => ?_, fun j k a m1 m2 => ?_, fun j a m => ?_⟩
  · show ∃ v_1, (List.set σ i (some v))[j]? = some (some v_1) ∧ RO K g Hs H v_1 u (if j = i then F0 else F j)
    by_cases z : j = i
    · subst z
      rw [if_pos rfl]
      have hl : j < r.length := by
        obtain ⟨hl, _⟩ := List.getElem?_eq_some_iff.mp e
        rwa [List.length_set] at hl
      rw [List.getElem?_set_self hl] at e
      cases e
      exact ⟨v, List.getElem?_set_self (h.len ▸ hl), q⟩
    · rw [if_neg z]
      rw [List.getElem?_set_ne (Ne.symm z)] at e ⊢
      exact h.at_ j u e
  · replace m1 : a ∈ (if j = i then F0 else F j) := m1
    replace m2 : a ∈ (if k = i then F0 else F k) := m2
    split at m1 <;> split at m2
    · rename_i e1 e2; rw [e1, e2]
    · exact (dj _ _ m2 m1).elim
    · exact (dj _ _ m1 m2).elim
    · exact h.di _ _ _ m1 m2
  · replace m : a ∈ (if j = i then F0 else F j) := m
    split at m
    · obtain ⟨⟨vs, e⟩, _⟩ := q.own a m
      exact ⟨nw a m, _, e⟩
    · exact h.nw j a m
/-- what the shared heap has become: more of it, but none of the others' own lists -/
def Gr (H Hs Hs' : Hp) (F0 : List Addr) : Prop := Same Hs Hs' ∧ ∀ a, a ∉ F0 → (∃ o, isMu o = true ∧ H a = some o) → Hs' a = Hs a
theorem Gr.refl (F0 : List Addr) : Gr H Hs Hs F0 := ⟨Same.refl _, fun _ _ _ => rfl⟩
mutual
theorem RO.grow {F0 : List Addr} (gr : Gr H Hs Hs' F0) : ∀ {v : V} {o : O} {F : List Addr}, RO K g Hs H v o F → (∀ a ∈ F, a ∉ F0) → RO K g Hs' H v o F
  | _, _, _, .sh h, _ => .sh (h.up gr.1)
  | _, _, _, .lst h q z t w, d => .lst h ((gr.2 _ (d _ (List.mem_cons_self ..)) ⟨_, rfl, h⟩).trans q) z (ROs.grow gr t fun a m => d a (List.mem_cons_of_mem _ m)) w
  | _, _, _, .tup h t, d => .tup h (ROs.grow gr t d)
theorem ROs.grow {F0 : List Addr} (gr : Gr H Hs Hs' F0) : ∀ {vs : List V} {os : List O} {F : List Addr}, ROs K g Hs H vs os F → (∀ a ∈ F, a ∉ F0) → ROs K g Hs' H vs os F
  | _, _, _, .nil, _ => .nil
  | _, _, _, .cons h t w, d => .cons (RO.grow gr h fun a m => d a (List.mem_append_left _ m)) (ROs.grow gr t fun a m => d a (List.mem_append_right _ m)) w
end
open Classical in
/-- a thing is shared beside a frame's slots -/
theorem SRF.share {v : V} {o : O} {F0 : List Addr} (h : SRF K g Hs0 H0 r σ Hs H s F) (q : RO K g Hs H v o F0) (dj : ∀ j a, a ∈ F j → a ∉ F0) (nw : ∀ a ∈ F0, H0 a = none) :
    ∃ Hs', Gr H Hs Hs' F0 ∧ SRF K g Hs0 H0 r σ Hs' H s F ∧ Rp K g Hs' v o.d := by
  obtain ⟨A, hA, rp⟩ := q.frozen h.nx.sub
  have gr : Gr H Hs (mix Hs H (fun a => a ∈ A)) F0 := ⟨mix_up h.nx.sub, fun a m ⟨l, el, e⟩ => mix_out fun w => by
    rcases hA a w with w | ⟨u, w, w2⟩
    · exact m w
    · rw [e] at w2; cases w2; rw [el] at w; cases w⟩
  refine ⟨_, gr, ⟨mix_nx h.nx hA nw fun a m => (q.own a m).2.2, h.len, fun i u e => ?_, h.di, h.nw⟩, rp⟩
  obtain ⟨v', e1, e2⟩ := h.at_ i u e
  exact ⟨v', e1, e2.grow gr fun a m => dj i a m⟩
end
/-! ### targets -/
inductive Bd where
  | sh (i : Nat) | ow (i : Nat) | tup (l : List Bd)
mutual
def bindB : Bd → O → En → Option En
  | .sh i, o, r => some (r.set i (.ob (.sh o.d)))
  | .ow i, o, r => some (r.set i (.ob o))
  | .tup bs, o, r => match o with
    | .tup os => bindBs bs os r
    | .sh (.tup ds) => bindBs bs (ds.map .sh) r
    | _ => none
def bindBs : List Bd → List O → En → Option En
  | [], [], r => some r
  | b :: bs, o :: os, r => match bindB b o r with
    | some r' => bindBs bs os r'
    | none => none
  | _, _, _ => none
end
mutual
def Bd.ixs : Bd → List Nat
  | .sh i => [i]
  | .ow i => [i]
  | .tup bs => Bd.ixss bs
def Bd.ixss : List Bd → List Nat
  | [] => []
  | b :: bs => Bd.ixs b ++ Bd.ixss bs
end
theorem wipe_set {σ : L2.St} {i : Nat} {x : Option V} : ∀ {vs : List Nat}, i ∈ vs → wipe (σ.set i x) vs = wipe σ vs
  | v :: vs, h => by
    show (wipe (σ.set i x) vs).set v none = (wipe σ vs).set v none
    by_cases m : i ∈ vs
    · rw [wipe_set m]
    · have e : i = v := by
        rcases List.mem_cons.mp h with e | e
        · exact e
        · exact absurd e m
      subst e
      have c : ∀ (ws : List Nat), i ∉ ws → wipe (σ.set i x) ws = (wipe σ ws).set i x := by
        intro ws
        induction ws with
        | nil => intro _; rfl
        | cons w ws ih =>
          intro hn
          show (wipe (σ.set i x) ws).set w none = ((wipe σ ws).set w none).set i x
          rw [ih (fun z => hn (List.mem_cons_of_mem _ z))]
          exact List.set_comm _ _ (fun z => hn (z ▸ List.mem_cons_self ..))
      rw [c vs m, List.set_set]
def SimG (C : Ct) (gt : TG) (b : Bd) : Prop := ∀ g Hs0 H0 r σ Hs H s F v o F0 r' Q, SRF C.K g Hs0 H0 r σ Hs H s F → RO C.K g Hs H v o F0 → (∀ j a, a ∈ F j → a ∉ F0) → (∀ a ∈ F0, H0 a = none) → bindB b o r = some r' →
  (∀ σ' Hs' F', SRF C.K g Hs0 H0 r' σ' Hs' H s F' → (∀ i a, a ∈ F' i → (∃ j, a ∈ F j) ∨ a ∈ F0) → Gr H Hs Hs' F0 → (∀ vs, (∀ i ∈ b.ixs, i ∈ vs) → wipe σ' vs = wipe σ vs) → Q σ' H) → gt v σ H Q
def SimGs (C : Ct) (gt : TGs) (b : List Bd) : Prop := ∀ g Hs0 H0 r σ Hs H s F vs os F0 r' Q, SRF C.K g Hs0 H0 r σ Hs H s F → ROs C.K g Hs H vs os F0 → (∀ j a, a ∈ F j → a ∉ F0) → (∀ a ∈ F0, H0 a = none) → bindBs b os r = some r' →
  (∀ σ' Hs' F', SRF C.K g Hs0 H0 r' σ' Hs' H s F' → (∀ i a, a ∈ F' i → (∃ j, a ∈ F j) ∨ a ∈ F0) → Gr H Hs Hs' F0 → (∀ ws, (∀ i ∈ Bd.ixss b, i ∈ ws) → wipe σ' ws = wipe σ ws) → Q σ' H) → gt vs σ H Q
def TGt (X : Cx) (C : Ct) (e : Expr) (b : Bd) : Prop := ∃ t, PG X e t ∧ SimG C t b
def TGs' (X : Cx) (C : Ct) (e : List Expr) (b : List Bd) : Prop := ∃ t, PGs X e t ∧ SimGs C t b
section
variable {X : Cx} {C : Ct} {E : XK} {e : Expr} {es : List Expr} {pos : Pos}
theorem tg_sh {i : Nat} (h : PG X e (gName i)) : TGt X C e (.sh i) := ⟨_, h, fun g Hs0 H0 r σ Hs H s F v o F0 r' Q R q dj nw eb k => by
  obtain ⟨Hs', gr, R', rp⟩ := R.share q dj nw
  have eb' : some (r.set i (.ob (.sh o.d))) = some r' := eb
  cases eb'
  refine k _ Hs' _ (R'.put (.sh rp) (fun _ _ _ m => nomatch m) fun _ m => nomatch m) (fun j a m => ?_) gr fun vs hv => wipe_set (hv i (List.mem_singleton.mpr rfl))
  replace m : a ∈ (if j = i then [] else F j) := m
  split at m
  · cases m
  · exact .inl ⟨j, m⟩⟩
theorem tg_ow {i : Nat} (h : PG X e (gName i)) : TGt X C e (.ow i) := ⟨_, h, fun g Hs0 H0 r σ Hs H s F v o F0 r' Q R q dj nw eb k => by
  have eb' : some (r.set i (.ob o)) = some r' := eb
  cases eb'
  refine k _ Hs _ (R.put q dj nw) (fun j a m => ?_) (Gr.refl _) fun vs hv => wipe_set (hv i (List.mem_singleton.mpr rfl))
  replace m : a ∈ (if j = i then F0 else F j) := m
  split at m
  · exact .inr m
  · exact .inl ⟨j, m⟩⟩
theorem tgs_nil : TGs' X C [] [] := ⟨_, pgs_nil, fun g Hs0 H0 r σ Hs H s F vs os F0 r' Q R q dj nw eb k => by
  cases os with
  | nil =>
    cases q
    have eb' : some r = some r' := eb
    cases eb'
    exact ⟨rfl, k σ Hs F R (fun i a m => .inl ⟨i, m⟩) (Gr.refl _) fun _ _ => rfl⟩
  | cons _ _ => cases eb⟩
theorem tgs_cons {b : Bd} {bs : List Bd} (h : TGt X C e b) (hs : TGs' X C es bs) (st : (assignEach (e :: es) X.env).map (·.2) = assign e X.env :: (assignEach es X.env).map (·.2) := by rfl) : TGs' X C (e :: es) (b :: bs) := by
  obtain ⟨t, p, q⟩ := h
  obtain ⟨ts, ps, qs⟩ := hs
  refine ⟨_, pgs_cons p ps st, fun g Hs0 H0 r σ Hs H s F vs os F0 r' Q R ro dj nw eb k => ?_⟩
  cases os with
  | nil => cases eb
  | cons o os =>
    replace eb : (match bindB b o r with | some r' => bindBs bs os r' | none => none) = some r' := eb
    cases ro with
    | cons ho hos hd =>
      rename_i v vs Fa Fb
      split at eb
      · rename_i r1 e1
        refine ⟨v, vs, rfl, q g Hs0 H0 r σ Hs H s F v o Fa r1 _ R ho (fun j a m w => dj j a m (List.mem_append_left _ w)) (fun a m => nw a (List.mem_append_left _ m)) e1 fun σ1 Hs1 F1 R1 f1 gr1 w1 => ?_⟩
        refine qs g Hs0 H0 r1 σ1 Hs1 H s F1 vs os Fb r' _ R1 (hos.grow gr1 fun a m w => hd a w m) (fun j a m w => ?_) (fun a m => nw a (List.mem_append_right _ m)) eb fun σ2 Hs2 F2 R2 f2 gr2 w2 => ?_
        · rcases f1 j a m with ⟨i, m⟩ | m
          · exact dj i a m (List.mem_append_right _ w)
          · exact hd a m w
        · refine k σ2 Hs2 F2 R2 (fun i a m => ?_) ⟨gr1.1.trans gr2.1, fun a m e => ?_⟩ fun ws hw => ?_
          · rcases f2 i a m with ⟨j, m⟩ | m
            · exact (f1 j a m).imp id (List.mem_append_left _)
            · exact .inr (List.mem_append_right _ m)
          · rw [gr2.2 a (fun z => m (List.mem_append_right _ z)) e, gr1.2 a (fun z => m (List.mem_append_left _ z)) e]
          · rw [w2 ws fun i m => hw i (List.mem_append_right _ m), w1 ws fun i m => hw i (List.mem_append_left _ m)]
      · cases eb
theorem tg_tup {bs : List Bd} {k n : Nat} (hk : X.K = C.K) (hc : X.calm = true) (h : TGs' X C es bs) (hb : bs.length = n := by rfl) (hn : (assignEach es X.env).length = n := by rfl) (hst : (assignEach es X.env).findIdx? (·.1) = none := by rfl) : TGt X C (.Tuple es k pos) (.tup bs) := by
  obtain ⟨t, p, q⟩ := h
  have lenB : ∀ {bs : List Bd} {os : List O} {r r' : En}, bindBs bs os r = some r' → os.length = bs.length := by
    intro bs
    induction bs with
    | nil => intro os r r' e; cases os with
      | nil => rfl
      | cons _ _ => cases e
    | cons b bs ih => intro os r r' e; cases os with
      | nil => cases e
      | cons o os =>
        replace e : (match bindB b o r with | some r' => bindBs bs os r' | none => none) = some r' := e
        split at e
        · rw [List.length_cons, List.length_cons, ih e]
        · cases e
  refine ⟨_, pg_tup hc p hn hst, fun g Hs0 H0 r σ Hs H s F v o F0 r' Q R ro dj nw eb kk => ?_⟩
  unfold bindB at eb
  split at eb
  · cases ro with
    | tup h1 h2 =>
      refine ⟨_, _, rfl, hk ▸ h1, ?_, q g Hs0 H0 r σ Hs H s F _ _ F0 r' Q R h2 dj nw eb fun σ' Hs' F' R' f' gr' w' => kk σ' Hs' F' R' f' gr' w'⟩
      rw [h2.len, lenB eb, hb]
  · cases ro with
    | sh ro => cases ro with
      | tup h1 h2 =>
        refine ⟨_, _, rfl, hk ▸ sqT_same R.nx.sub h1, ?_, q g Hs0 H0 r σ Hs H s F _ _ [] r' Q R h2.ros dj nw eb fun σ' Hs' F' R' f' gr' w' => kk σ' Hs' F' R' f' gr' w'⟩
        rw [h2.len, ← hb, ← lenB eb, List.length_map]
  · cases eb
end
/-! ### statements -/
inductive Fl where
  | nx (r : En) | rt (o : O) | bk (r : En) | ct (r : En)
def FlOk (K : PySem.W.Frag) (g : Option Addr) (Hs0 H0 Hs : Hp) (D : Ends) (f : Fl) (s' : G3) : Prop := match f with
  | .nx r' => ∀ σ' Hs' H', Same Hs Hs' → SR K g Hs0 H0 r' σ' Hs' H' s' → D.nx σ' H'
  | .rt o => ∀ v F Hs' H', Nx g Hs0 H0 Hs' H' s' → RO K g Hs' H' v o F → (∀ a ∈ F, H0 a = none) → D.rt v H'
  | .bk r' => ∀ σ' Hs' H', Same Hs Hs' → SR K g Hs0 H0 r' σ' Hs' H' s' → D.bk σ' H'
  | .ct r' => ∀ σ' Hs' H', Same Hs Hs' → SR K g Hs0 H0 r' σ' Hs' H' s' → D.ct σ' H'
def SimS (C : Ct) (E : XK) (t : TS) (m : En → M Fl) : Prop := ∀ g Hs0 H0 r σ Hs H s D, SR C.K g Hs0 H0 r σ Hs H s → wp (m r s) (FlOk C.K g Hs0 H0 Hs D) (XP C E g Hs0 H0) → t D σ H
def ST (X : Cx) (C : Ct) (E : XK) (st : Stmt) (m : En → M Fl) : Prop := ∃ t, PS X st t ∧ SimS C E t m
def SS (X : Cx) (C : Ct) (E : XK) (st : List Stmt) (m : En → M Fl) : Prop := ∃ t, PSs X st t ∧ SimS C E t m
theorem FlOk.later {K : PySem.W.Frag} {g : Option Addr} {Hs0 H0 Hs Hs' : Hp} {D : Ends} {f : Fl} {s' : G3} (h : FlOk K g Hs0 H0 Hs D f s') (u : Same Hs Hs') : FlOk K g Hs0 H0 Hs' D f s' := by
  cases f with
  | nx r => exact fun σ' Hs2 H2 u2 => h σ' Hs2 H2 (u.trans u2)
  | rt o => exact h
  | bk r => exact fun σ' Hs2 H2 u2 => h σ' Hs2 H2 (u.trans u2)
  | ct r => exact fun σ' Hs2 H2 u2 => h σ' Hs2 H2 (u.trans u2)
section
variable {X : Cx} {C : Ct} {E : XK} {e : Expr} {es : List Expr} {pos : Pos} {st : Stmt} {sts : List Stmt}
def mNil' : En → M Fl := fun r s => .ok (.nx r) s
def mSeq (m n : En → M Fl) : En → M Fl := fun r => bnd (m r) fun f s => match f with
  | .nx r' => n r' s
  | f => .ok f s
theorem ss_nil : SS X C E [] mNil' := ⟨_, pss_nil, fun g Hs0 H0 r σ Hs H s D R w => w σ Hs H (Same.refl _) R⟩
theorem ss_cons {m n : En → M Fl} (h : ST X C E st m) (hs : SS X C E sts n) : SS X C E (st :: sts) (mSeq m n) := by
  obtain ⟨t, p, q⟩ := h
  obtain ⟨ts, ps, qs⟩ := hs
  refine ⟨_, pss_cons p ps, fun g Hs0 H0 r σ Hs H s D R w => ?_⟩
  refine q g Hs0 H0 r σ Hs H s _ R (wp_mono (wp_bnd w) (fun f s1 w1 => ?_) fun _ _ _ x => x)
  cases f with
  | nx r1 =>
    refine fun σ1 Hs1 H1 u1 R1 => qs g Hs0 H0 r1 σ1 Hs1 H1 s1 D R1 (wp_mono w1 (fun f s2 w2 => w2.later u1) fun _ _ _ x => x)
  | rt o => exact w1
  | bk r1 => exact w1
  | ct r1 => exact w1
theorem ss_one {m : En → M Fl} (h : ST X C E st m) : SS X C E [st] m := let ⟨_, p, q⟩ := h; ⟨_, pss_one p, q⟩
/-- a statement that is not reached -/
theorem st_never : ST X C E st (fun _ _ => .bad) := ⟨_, ps_never, fun _ _ _ _ _ _ _ _ _ _ w => w.elim⟩
theorem ss_never : SS X C E sts (fun _ _ => .bad) := ⟨_, pss_never, fun _ _ _ _ _ _ _ _ _ _ w => w.elim⟩
def mBad : En → M Fl := fun _ _ => .bad
/-- x = e, by the target's binding -/
def mBind (b : Bd) (m : En → M O) : En → M Fl := fun r => bnd (m r) fun o s => match bindB b o r with
  | some r' => .ok (.nx r') s
  | none => .bad
theorem sr_bind {g : Option Addr} {Hs0 H0 Hs H Hs1 H1 : Hp} {r r' : En} {σ : L2.St} {s s1 : G3} {v : V} {o : O} {F0 : List Addr} {b : Bd} {gt : TG} {Q : L2.St → Hp → Prop} (hg : SimG C gt b) (R : SR C.K g Hs0 H0 r σ Hs H s) (n : Nx g Hs H Hs1 H1 s1)
    (ro : RO C.K g Hs1 H1 v o F0) (fr : ∀ a ∈ F0, H a = none) (eb : bindB b o r = some r') (k : ∀ σ' Hs', Same Hs Hs' → SR C.K g Hs0 H0 r' σ' Hs' H1 s1 → (∀ vs, (∀ i ∈ b.ixs, i ∈ vs) → wipe σ' vs = wipe σ vs) → Q σ' H1) : gt v σ H1 Q := by
  obtain ⟨F, RF⟩ := R.srf
  refine hg g Hs0 H0 r σ Hs1 H1 s1 F v o F0 r' Q (RF.next n) ro (fun j a m w => ?_) (fun a m => RF.nx.there (fr a m)) eb fun σ' Hs' F' R' _ gr w => k σ' Hs' (n.up.trans gr.1) R'.sr w
  obtain ⟨_, u, e⟩ := RF.nw j a m
  rw [fr a w] at e; cases e
theorem st_asg {tg : Expr} {m : En → M O} {b : Bd} (h : EO X C E e m) (hg : TGt X C tg b) (hs : swapsWithSole [tg] e pos.line X.env = pure false := by rfl) (hw : swappedStores [tg] e X.env = pure none := by rfl) (h1 : (assignEach [tg] X.env).map (·.2) = [assign tg X.env] := by rfl) : ST X C E (.Assign [tg] e pos) (mBind b m) := by
  obtain ⟨t, p, q⟩ := h
  obtain ⟨gt, pg, qg⟩ := hg
  refine ⟨_, ps_asg p pg hs hw h1, fun g Hs0 H0 r σ Hs H s D R w => ?_⟩
  refine q g Hs0 H0 r σ Hs H s _ R (wp_mono (wp_bnd w) (fun o s1 w1 v F Hs1 H1 n1 r1 f1 => ?_) fun _ _ _ x => x.later R.nx)
  split at w1
  · rename_i r' eb
    exact sr_bind qg R n1 r1 f1 eb fun σ' Hs' u R' _ => w1 σ' Hs' H1 u R'
  · exact w1.elim
theorem st_set {m : En → M O} {b : Bd} {i : Nat} {tg : Expr} (h : EO X C E e m) (hg : TGt X C tg b) (ps : ∀ te, PE X e te → ∃ gt, PS X (.Assign [tg] e pos) (tAsg te gt) ∧ SimG C gt b) : ST X C E (.Assign [tg] e pos) (mBind b m) := by
  obtain ⟨t, p, q⟩ := h
  obtain ⟨gt, pp, qg⟩ := ps t p
  refine ⟨_, pp, fun g Hs0 H0 r σ Hs H s D R w => ?_⟩
  refine q g Hs0 H0 r σ Hs H s _ R (wp_mono (wp_bnd w) (fun o s1 w1 v F Hs1 H1 n1 r1 f1 => ?_) fun _ _ _ x => x.later R.nx)
  split at w1
  · rename_i r' eb
    exact sr_bind qg R n1 r1 f1 eb fun σ' Hs' u R' _ => w1 σ' Hs' H1 u R'
  · exact w1.elim
/-- a, b = e, e' -/
def mPar (bs : List Bd) (ms : En → M (List O)) : En → M Fl := fun r => bnd (ms r) fun os s => match bindBs bs os r with
  | some r' => .ok (.nx r') s
  | none => .bad
theorem sim_name_sh {i : Nat} : SimG C (gName i) (.sh i) := fun g Hs0 H0 r σ Hs H s F v o F0 r' Q R q dj nw eb k => by
  obtain ⟨Hs', gr, R', rp⟩ := R.share q dj nw
  have eb' : some (r.set i (.ob (.sh o.d))) = some r' := eb
  cases eb'
  refine k _ Hs' _ (R'.put (.sh rp) (fun _ _ _ m => nomatch m) fun _ m => nomatch m) (fun j a m => ?_) gr fun vs hv => wipe_set (hv i (List.mem_singleton.mpr rfl))
  replace m : a ∈ (if j = i then [] else F j) := m
  split at m
  · cases m
  · exact .inl ⟨j, m⟩
theorem sim_name_ow {i : Nat} : SimG C (gName i) (.ow i) := fun g Hs0 H0 r σ Hs H s F v o F0 r' Q R q dj nw eb k => by
  have eb' : some (r.set i (.ob o)) = some r' := eb
  cases eb'
  refine k _ Hs _ (R.put q dj nw) (fun j a m => ?_) (Gr.refl _) fun vs hv => wipe_set (hv i (List.mem_singleton.mpr rfl))
  replace m : a ∈ (if j = i then F0 else F j) := m
  split at m
  · exact .inr m
  · exact .inl ⟨j, m⟩
/-- the binding of a plain name -/
inductive NameB (C : Ct) (i : Nat) : Bd → Prop
  | sh : NameB C i (.sh i)
  | ow : NameB C i (.ow i)
theorem NameB.sim {i : Nat} {b : Bd} (h : NameB C i b) : SimG C (gName i) b := by
  cases h with
  | sh => exact sim_name_sh
  | ow => exact sim_name_ow
theorem sims_nil : SimGs C gNil [] := fun g Hs0 H0 r σ Hs H s F vs os F0 r' Q R q dj nw eb k => by
  cases os with
  | nil =>
    cases q
    have eb' : some r = some r' := eb
    cases eb'
    exact ⟨rfl, k σ Hs F R (fun i a m => .inl ⟨i, m⟩) (Gr.refl _) fun _ _ => rfl⟩
  | cons _ _ => cases eb
theorem sims_cons {t : TG} {ts : TGs} {b : Bd} {bs : List Bd} (q : SimG C t b) (qs : SimGs C ts bs) : SimGs C (gCons t ts) (b :: bs) := fun g Hs0 H0 r σ Hs H s F vs os F0 r' Q R ro dj nw eb k => by
  cases os with
  | nil => cases eb
  | cons o os =>
    replace eb : (match bindB b o r with | some r' => bindBs bs os r' | none => none) = some r' := eb
    cases ro with
    | cons ho hos hd =>
      rename_i v vs Fa Fb
      split at eb
      · rename_i r1 e1
        refine ⟨v, vs, rfl, q g Hs0 H0 r σ Hs H s F v o Fa r1 _ R ho (fun j a m w => dj j a m (List.mem_append_left _ w)) (fun a m => nw a (List.mem_append_left _ m)) e1 fun σ1 Hs1 F1 R1 f1 gr1 w1 => ?_⟩
        refine qs g Hs0 H0 r1 σ1 Hs1 H s F1 vs os Fb r' _ R1 (hos.grow gr1 fun a m w => hd a w m) (fun j a m w => ?_) (fun a m => nw a (List.mem_append_right _ m)) eb fun σ2 Hs2 F2 R2 f2 gr2 w2 => ?_
        · rcases f1 j a m with ⟨i, m⟩ | m
          · exact dj i a m (List.mem_append_right _ w)
          · exact hd a m w
        · refine k σ2 Hs2 F2 R2 (fun i a m => ?_) ⟨gr1.1.trans gr2.1, fun a m e => ?_⟩ fun ws hw => ?_
          · rcases f2 i a m with ⟨j, m⟩ | m
            · exact (f1 j a m).imp id (List.mem_append_left _)
            · exact .inr (List.mem_append_right _ m)
          · rw [gr2.2 a (fun z => m (List.mem_append_right _ z)) e, gr1.2 a (fun z => m (List.mem_append_left _ z)) e]
          · rw [w2 ws fun i m => hw i (List.mem_append_right _ m), w1 ws fun i m => hw i (List.mem_append_left _ m)]
      · cases eb
theorem srs_bind {g : Option Addr} {Hs0 H0 Hs H Hs1 H1 : Hp} {r r' : En} {σ : L2.St} {s s1 : G3} {vs : List V} {os : List O} {F0 : List Addr} {bs : List Bd} {gt : TGs} {Q : L2.St → Hp → Prop} (hg : SimGs C gt bs) (R : SR C.K g Hs0 H0 r σ Hs H s) (n : Nx g Hs H Hs1 H1 s1)
    (ro : ROs C.K g Hs1 H1 vs os F0) (fr : ∀ a ∈ F0, H a = none) (eb : bindBs bs os r = some r') (k : ∀ σ' Hs', Same Hs Hs' → SR C.K g Hs0 H0 r' σ' Hs' H1 s1 → Q σ' H1) : gt vs σ H1 Q := by
  obtain ⟨F, RF⟩ := R.srf
  refine hg g Hs0 H0 r σ Hs1 H1 s1 F vs os F0 r' Q (RF.next n) ro (fun j a m w => ?_) (fun a m => RF.nx.there (fr a m)) eb fun σ' Hs' F' R' _ gr w => k σ' Hs' (n.up.trans gr.1) R'.sr
  obtain ⟨_, u, e⟩ := RF.nw j a m
  rw [fr a w] at e; cases e
theorem st_par2 {i j : Nat} {b1 b2 : Bd} {tgs : Expr} {ms : En → M (List O)} {es : List Expr} (h : AO X C E es ms) (n1 : NameB C i b1) (n2 : NameB C j b2) (ps : ∀ ta, PA X es ta → PS X st (tPar i j ta)) : ST X C E st (mPar [b1, b2] ms) := by
  obtain ⟨t, p, q⟩ := h
  refine ⟨_, ps t p, fun g Hs0 H0 r σ Hs H s D R w => ?_⟩
  refine q g Hs0 H0 r σ Hs H s _ R (wp_mono (wp_bnd w) (fun os s1 w1 vs F Hs1 H1 n1' r1 f1 => ?_) fun _ _ _ x => x.later R.nx)
  split at w1
  · rename_i r' eb
    have z := srs_bind (sims_cons n1.sim (sims_cons n2.sim sims_nil)) R n1' r1 f1 eb fun σ' Hs' u R' => w1 σ' Hs' H1 u R'
    obtain ⟨v, r2, e1, v2, r3, e2, e3, z⟩ := z
    subst e2 e3
    exact ⟨v, v2, e1, z⟩
  · exact w1.elim
theorem st_par3 {i j k : Nat} {b1 b2 b3 : Bd} {ms : En → M (List O)} {es : List Expr} (h : AO X C E es ms) (n1 : NameB C i b1) (n2 : NameB C j b2) (n3 : NameB C k b3) (ps : ∀ ta, PA X es ta → PS X st (tPar3 i j k ta)) : ST X C E st (mPar [b1, b2, b3] ms) := by
  obtain ⟨t, p, q⟩ := h
  refine ⟨_, ps t p, fun g Hs0 H0 r σ Hs H s D R w => ?_⟩
  refine q g Hs0 H0 r σ Hs H s _ R (wp_mono (wp_bnd w) (fun os s1 w1 vs F Hs1 H1 n1' r1 f1 => ?_) fun _ _ _ x => x.later R.nx)
  split at w1
  · rename_i r' eb
    have z := srs_bind (sims_cons n1.sim (sims_cons n2.sim (sims_cons n3.sim sims_nil))) R n1' r1 f1 eb fun σ' Hs' u R' => w1 σ' Hs' H1 u R'
    obtain ⟨v, r2, e1, v2, r3, e2, v3, r4, e3, e4, z⟩ := z
    subst e2 e3 e4
    exact ⟨v, v2, v3, e1, z⟩
  · exact w1.elim
/-! simple ones -/
def mPass : En → M Fl := fun r s => .ok (.nx r) s
def mBrk : En → M Fl := fun r s => .ok (.bk r) s
def mCnt : En → M Fl := fun r s => .ok (.ct r) s
theorem st_pass : ST X C E (.Pass pos) mPass := ⟨_, ps_pass, fun g Hs0 H0 r σ Hs H s D R w => w σ Hs H (Same.refl _) R⟩
theorem st_brk : ST X C E (.Break pos) mBrk := ⟨_, ps_break, fun g Hs0 H0 r σ Hs H s D R w => w σ Hs H (Same.refl _) R⟩
theorem st_cnt : ST X C E (.Continue pos) mCnt := ⟨_, ps_continue, fun g Hs0 H0 r σ Hs H s D R w => w σ Hs H (Same.refl _) R⟩
def mExpr (m : En → M O) : En → M Fl := fun r => bnd (m r) fun _ s => .ok (.nx r) s
theorem st_expr {m : En → M O} (h : EB X C E e m) (hs : swapsWith e none pos.line X.env = pure false := by rfl) : ST X C E (.Expr e pos) (mExpr m) := by
  obtain ⟨t, p, q⟩ := h
  exact ⟨_, ps_expr p hs, fun g Hs0 H0 r σ Hs H s D R w => q g Hs0 H0 r σ Hs H s _ R (wp_mono (wp_bnd w) (fun o s1 w1 v F Hs1 H1 n1 r1 => w1 σ Hs1 H1 n1.up (R.next n1)) fun _ _ _ x => x.later R.nx)⟩
def mRet (m : En → M O) : En → M Fl := fun r => bnd (m r) fun o s => .ok (.rt o) s
theorem st_ret {m : En → M O} (h : EM X C E e m) : ST X C E (.Return (some e) pos) (mRet m) := by
  obtain ⟨t, p, q⟩ := h
  exact ⟨_, ps_ret p, fun g Hs0 H0 r σ Hs H s D R w => q g Hs0 H0 r σ Hs H s _ R (wp_mono (wp_bnd w) (fun o s1 w1 v F Hs1 H1 n1 r1 f1 => w1 v F Hs1 H1 (R.nx.trans n1) r1 f1) fun _ _ _ x => x.later R.nx)⟩
def mIfS (t : En → M Bool) (m n : En → M Fl) : En → M Fl := fun r => bnd (t r) fun b s => if b = true then m r s else n r s
theorem st_if {c : Expr} {a b : List Stmt} {t : En → M Bool} {m n : En → M Fl} (hc : ET X C E c t) (ha : SS X C E a m) (hb : SS X C E b n) : ST X C E (.If c a b pos) (mIfS t m n) := by
  obtain ⟨tt, p, q⟩ := hc
  obtain ⟨ta, p1, q1⟩ := ha
  obtain ⟨tb, p2, q2⟩ := hb
  refine ⟨_, ps_if p p1 p2, fun g Hs0 H0 r σ Hs H s D R w => q g Hs0 H0 r σ Hs H s _ R (wp_mono (wp_bnd w) (fun b s1 w1 Hs1 H1 n1 => ?_) fun _ _ _ x => x.later R.nx)⟩
  split at w1
  · rename_i hb
    rw [if_pos hb]
    exact q1 g Hs0 H0 r σ Hs1 H1 s1 D (R.next n1) (wp_mono w1 (fun f s2 w2 => w2.later n1.up) fun _ _ _ x => x)
  · rename_i hb
    rw [if_neg hb]
    exact q2 g Hs0 H0 r σ Hs1 H1 s1 D (R.next n1) (wp_mono w1 (fun f s2 w2 => w2.later n1.up) fun _ _ _ x => x)
/-- what a slot owns becomes shared: no code stands for it -/
def mShare (i : Nat) (m : En → M Fl) : En → M Fl := fun r s => match r[i]? with
  | some (.ob o) => m (r.set i (.ob (.sh o.d))) s
  | _ => .bad
theorem sim_share {i : Nat} {t : TS} {m : En → M Fl} (q : SimS C E t m) : SimS C E t (mShare i m) := fun g Hs0 H0 r σ Hs H s D R w => by
  dsimp only [mShare] at w
  split at w
  · rename_i o eo
    obtain ⟨F, RF⟩ := R.srf
    obtain ⟨v, e1, e2⟩ := RF.at_ i o eo
    -- the slot is emptied, its thing shared, and stored again
    have R0 : SRF C.K g Hs0 H0 (r.set i .un) σ Hs H s (fun j => if j = i then [] else F j) := by
      refine ⟨RF.nx, by rw [List.length_set]; exact RF.len, fun j u e => ?_, fun j k a m1 m2 => ?_, fun j a m => ?_⟩
      · by_cases z : i = j
        · subst z
          by_cases hl : i < r.length
          · rw [List.getElem?_set_self hl] at e; cases e
          · rw [List.getElem?_eq_none (by rw [List.length_set]; omega)] at e; cases e
        · rw [List.getElem?_set_ne z] at e
          obtain ⟨v', a1, a2⟩ := RF.at_ j u e
          refine ⟨v', a1, ?_⟩
          show RO C.K g Hs H v' u (if j = i then [] else F j)
          rw [if_neg (Ne.symm z)]; exact a2
      · replace m1 : a ∈ (if j = i then [] else F j) := m1
        replace m2 : a ∈ (if k = i then [] else F k) := m2
        split at m1
        · cases m1
        · split at m2
          · cases m2
          · exact RF.di _ _ _ m1 m2
      · replace m : a ∈ (if j = i then [] else F j) := m
        split at m
        · cases m
        · exact RF.nw j a m
    obtain ⟨Hs', gr, R1, rp⟩ := R0.share e2 (fun j a m w => by
      replace m : a ∈ (if j = i then [] else F j) := m
      split at m
      · cases m
      · rename_i ne; exact ne (RF.di _ _ _ m w)) fun a m => (RF.nw i a m).1
    have R2 := (R1.put (i := i) (.sh rp) (fun _ _ _ m => nomatch m) fun _ m => nomatch m).sr
    rw [List.set_set] at R2
    have es : σ.set i (some v) = σ := by
      apply List.ext_getElem?
      intro j
      by_cases z : i = j
      · subst z
        rw [e1, List.getElem?_set_self (by rw [← RF.len]; obtain ⟨hl, _⟩ := List.getElem?_eq_some_iff.mp eo; exact hl)]
      · rw [List.getElem?_set_ne z]
    rw [es] at R2
    exact q g Hs0 H0 _ σ Hs' H s D R2 (wp_mono w (fun f s2 w2 => w2.later gr.1) fun _ _ _ x => x)
  · exact w.elim
theorem st_share {i : Nat} {m : En → M Fl} (h : ST X C E st m) : ST X C E st (mShare i m) := let ⟨t, p, q⟩ := h; ⟨t, p, sim_share q⟩
theorem ss_share {i : Nat} {m : En → M Fl} (h : SS X C E sts m) : SS X C E sts (mShare i m) := let ⟨t, p, q⟩ := h; ⟨t, p, sim_share q⟩
/-! ### what is walked -/
def YldOk (K : PySem.W.Frag) (g : Option Addr) (J : It) (ds : List D) (i : Nat) (Hs H : Hp) (s : G3) : Prop :=
  (∀ d, ds[i]? = some d → J.go i H ∧ ∀ x H', J.yld i H x H' → ∃ Hs', Nx g Hs H Hs' H' s ∧ Rp K g Hs' x d) ∧ (ds.length ≤ i → J.stop i H)
/-- whatever the body does -/
def ItOk (K : PySem.W.Frag) (g : Option Addr) (J : It) (Hs1 : Hp) (ds : List D) : Prop := ∀ i Hs H s, Same Hs1 Hs → Same Hs H → GenAt g Hs H s → YldOk K g J ds i Hs H s
/-- where nothing owned is changed -/
def ItOkB (K : PySem.W.Frag) (g : Option Addr) (J : It) (Hs1 H1 : Hp) (ds : List D) : Prop := ∀ i Hs H s, Nx g Hs1 H1 Hs H s → YldOk K g J ds i Hs H s
theorem ItOk.b {K : PySem.W.Frag} {g : Option Addr} {J : It} {Hs1 H1 : Hp} {ds : List D} (h : ItOk K g J Hs1 ds) : ItOkB K g J Hs1 H1 ds := fun i Hs H s n => h i Hs H s n.up n.sub n.gen
def SimI (C : Ct) (E : XK) (w : TI) (m : En → M (List D)) : Prop := ∀ g Hs0 H0 r σ Hs H s Q, SR C.K g Hs0 H0 r σ Hs H s →
  wp (m r s) (fun ds s' => ∀ J Hs' H', Nx g Hs H Hs' H' s' → ItOk C.K g J Hs' ds → Q J H') (XP C E g Hs H) → w σ H Q
def SimIB (C : Ct) (E : XK) (w : TI) (m : En → M (List D)) : Prop := ∀ g Hs0 H0 r σ Hs H s Q, SR C.K g Hs0 H0 r σ Hs H s →
  wp (m r s) (fun ds s' => ∀ J Hs' H', Nx g Hs H Hs' H' s' → ItOkB C.K g J Hs' H' ds → Q J H') (XP C E g Hs H) → w σ H Q
theorem SimI.b {w : TI} {m : En → M (List D)} (h : SimI C E w m) : SimIB C E w m := fun g Hs0 H0 r σ Hs H s Q R w' =>
  h g Hs0 H0 r σ Hs H s Q R (wp_mono w' (fun ds s1 q J Hs' H' n i => q J Hs' H' n i.b) fun _ _ _ x => x)
def IT (X : Cx) (C : Ct) (E : XK) (tg e : Expr) (m : En → M (List D)) : Prop := ∃ w, PI X tg e w ∧ SimI C E w m
def ITB (X : Cx) (C : Ct) (E : XK) (tg e : Expr) (m : En → M (List D)) : Prop := ∃ w, PI X tg e w ∧ SimIB C E w m
theorem IT.b {tg : Expr} {m : En → M (List D)} (h : IT X C E tg e m) : ITB X C E tg e m := let ⟨w, p, q⟩ := h; ⟨w, p, q.b⟩
def forL (b : Bd) (mb : En → M Fl) : List D → En → M Fl
  | [], r => fun s => .ok (.nx r) s
  | d :: ds, r => fun s => match bindB b (.sh d) r with
    | some r1 => bnd (mb r1) (fun f s => match f with
      | .nx r2 => forL b mb ds r2 s
      | .ct r2 => forL b mb ds r2 s
      | .bk r2 => .ok (.nx r2) s
      | .rt o => .ok (.rt o) s) s
    | none => .bad
def mFor (mi : En → M (List D)) (b : Bd) (mb : En → M Fl) : En → M Fl := fun r => bnd (mi r) fun ds s => forL b mb ds r s
theorem sim_for {wi : TI} {gt : TG} {tb : TS} {mi : En → M (List D)} {b : Bd} {mb : En → M Fl} (qi : SimI C E wi mi) (qg : SimG C gt b) (qb : SimS C E tb mb) : SimS C E (tFor wi gt tb) (mFor mi b mb) := fun g Hs0 H0 r σ Hs H s D R w => by
  refine qi g Hs0 H0 r σ Hs H s _ R (wp_mono (wp_bnd w) (fun ds s1 w1 J Hs1 H1 n1 it => ?_) fun _ _ _ x => x.later R.nx)
  refine ⟨fun i m σ' H' => m = ds.length - i ∧ i ≤ ds.length ∧ ∃ r' Hs' s', SR C.K g Hs0 H0 r' σ' Hs' H' s' ∧ Same Hs1 Hs' ∧ wp (forL b mb (ds.drop i) r' s') (FlOk C.K g Hs0 H0 Hs1 D) (XP C E g Hs0 H0),
    ⟨ds.length, rfl, Nat.zero_le _, r, Hs1, s1, R.next n1, Same.refl _, wp_mono w1 (fun f s2 w2 => w2.later n1.up) fun _ _ _ x => x⟩, fun i m σ' H' hW => ?_⟩
  obtain ⟨rfl, hi, r', Hs', s', R', u', w'⟩ := hW
  have y := it i Hs' H' s' u' R'.nx.sub R'.nx.gen
  by_cases hl : i < ds.length
  · refine .inr ?_
    obtain ⟨go, yl⟩ := y.1 ds[i] (List.getElem?_eq_getElem hl)
    refine ⟨go, fun σ2 H2 => ∃ r2 Hs2 s2, SR C.K g Hs0 H0 r2 σ2 Hs2 H2 s2 ∧ Same Hs1 Hs2 ∧ wp (forL b mb (ds.drop (i + 1)) r2 s2) (FlOk C.K g Hs0 H0 Hs1 D) (XP C E g Hs0 H0), fun σ2 H2 ⟨r2, Hs2, s2, a1, a2, a3⟩ => ⟨ds.length - (i + 1), by omega, rfl, hl, r2, Hs2, s2, a1, a2, a3⟩, fun x H2 hy => ?_⟩
    obtain ⟨Hs2, n2, rp⟩ := yl x H2 hy
    rw [List.drop_eq_getElem_cons hl] at w'
    dsimp only [forL] at w'
    split at w'
    · rename_i r1 eb
      refine sr_bind qg R' n2 (.sh rp) (fun _ m => nomatch m) eb fun σ3 Hs3 u3 R3 _ => ?_
      refine qb g Hs0 H0 r1 σ3 Hs3 H2 s' _ R3 (wp_mono (wp_bnd w') (fun f s4 w4 => ?_) fun _ _ _ x => x)
      cases f with
      | nx r2 => exact fun σ5 Hs5 H5 u5 R5 => ⟨r2, Hs5, s4, R5, (u'.trans u3).trans u5, w4⟩
      | ct r2 => exact fun σ5 Hs5 H5 u5 R5 => ⟨r2, Hs5, s4, R5, (u'.trans u3).trans u5, w4⟩
      | bk r2 => exact fun σ5 Hs5 H5 u5 R5 => w4 σ5 Hs5 H5 ((u'.trans u3).trans u5) R5
      | rt o => exact w4
    · exact w'.elim
  · refine .inl ⟨y.2 (by omega), ?_⟩
    rw [List.drop_eq_nil_of_le (by omega)] at w'
    exact w' σ' Hs' H' u' R'
theorem st_for {tg iter : Expr} {body : List Stmt} {mi : En → M (List D)} {b : Bd} {mb : En → M Fl} (hp : PassesOwn (model X.prog X.w) X.A X.env X.xe) (hc : X.calm = true) (hi : IT X C E tg iter mi) (hg : TGt X C tg b) (hb : SS X C E body mb)
    (hs : ∀ x, foldedSetIterable iter X.env x = pure x := by intro _; rfl) : ST X C E (.For tg iter body [] pos) (mFor mi b mb) := by
  obtain ⟨wi, p, q⟩ := hi
  obtain ⟨gt, pg, qg⟩ := hg
  obtain ⟨tb, pb, qb⟩ := hb
  exact ⟨_, ps_for hp hc p pg pb hs, sim_for q qg qb⟩
def whileL (t : En → M Bool) (mb : En → M Fl) : Nat → En → M Fl
  | 0, _ => fail
  | n + 1, r => bnd (t r) fun c s => if c = true then bnd (mb r) (fun f s => match f with
      | .nx r2 => whileL t mb n r2 s
      | .ct r2 => whileL t mb n r2 s
      | .bk r2 => .ok (.nx r2) s
      | .rt o => .ok (.rt o) s) s
    else .ok (.nx r) s
def mWhile (fuel : Nat) (t : En → M Bool) (mb : En → M Fl) : En → M Fl := fun r => whileL t mb fuel r
theorem sim_while {fuel : Nat} {tt : TT} {tb : TS} {t : En → M Bool} {mb : En → M Fl} (qt : SimT C E tt t) (qb : SimS C E tb mb) : SimS C E (tWhile tt tb) (mWhile fuel t mb) := fun g Hs0 H0 r σ Hs H s D R w => by
  refine ⟨fun m σ' H' => ∃ r' Hs' s', SR C.K g Hs0 H0 r' σ' Hs' H' s' ∧ Same Hs Hs' ∧ wp (whileL t mb m r' s') (FlOk C.K g Hs0 H0 Hs D) (XP C E g Hs0 H0), ⟨fuel, r, Hs, s, R, Same.refl _, w⟩, fun m σ' H' hW => ?_⟩
  obtain ⟨r', Hs', s', R', u', w'⟩ := hW
  cases m with
  | zero => exact w'.elim
  | succ m =>
    dsimp only [whileL] at w'
    refine qt g Hs0 H0 r' σ' Hs' H' s' _ R' (wp_mono (wp_bnd w') (fun c s2 w2 Hs2 H2 n2 => ?_) fun _ _ _ x => x.later R'.nx)
    split at w2
    · rename_i hc
      rw [if_pos hc]
      refine ⟨fun σ2 H2 => ∃ r2 Hs2 s2, SR C.K g Hs0 H0 r2 σ2 Hs2 H2 s2 ∧ Same Hs Hs2 ∧ wp (whileL t mb m r2 s2) (FlOk C.K g Hs0 H0 Hs D) (XP C E g Hs0 H0), fun σ2 H2 h => ⟨m, Nat.lt_succ_self _, h⟩, ?_⟩
      refine qb g Hs0 H0 r' σ' Hs2 H2 s2 _ (R'.next n2) (wp_mono (wp_bnd w2) (fun f s4 w4 => ?_) fun _ _ _ x => x)
      cases f with
      | nx r2 => exact fun σ5 Hs5 H5 u5 R5 => ⟨r2, Hs5, s4, R5, (u'.trans n2.up).trans u5, w4⟩
      | ct r2 => exact fun σ5 Hs5 H5 u5 R5 => ⟨r2, Hs5, s4, R5, (u'.trans n2.up).trans u5, w4⟩
      | bk r2 => exact fun σ5 Hs5 H5 u5 R5 => w4 σ5 Hs5 H5 ((u'.trans n2.up).trans u5) R5
      | rt o => exact w4
    · rename_i hc
      rw [if_neg hc]
      exact w2 σ' Hs2 H2 (u'.trans n2.up) (R'.next n2)
theorem st_while {c : Expr} {body : List Stmt} {fuel : Nat} {t : En → M Bool} {mb : En → M Fl} (hp : PassesOwn (model X.prog X.w) X.A X.env X.xe) (hc : ET X C E c t) (hb : SS X C E body mb) : ST X C E (.While c body [] pos) (mWhile fuel t mb) := by
  obtain ⟨tt, p, q⟩ := hc
  obtain ⟨tb, pb, qb⟩ := hb
  exact ⟨_, ps_while hp p pb, sim_while q qb⟩
end
end Lone
namespace Lone
open PySem PySem.Spec PyProof.Rows L2
/-! ### the walks -/
def rngF (lo : Int) : Nat → List D
  | 0 => []
  | n + 1 => .int lo :: rngF (lo + 1) n
theorem rngF_len (lo : Int) (n : Nat) : (rngF lo n).length = n := by
  induction n generalizing lo with
  | zero => rfl
  | succ n ih => show (rngF (lo + 1) n).length + 1 = _; rw [ih]
theorem rngF_get (lo : Int) (n i : Nat) (h : i < n) : (rngF lo n)[i]? = some (.int (lo + i)) := by
  induction n generalizing lo i with
  | zero => omega
  | succ n ih =>
    cases i with
    | zero => show some (D.int lo) = _; simp
    | succ i =>
      show (rngF (lo + 1) n)[i]? = _
      rw [ih (lo + 1) i (by omega)]
      congr 2
      push_cast
      omega
def enumL (n : Int) : List D → List D
  | [] => []
  | d :: r => .tup [.int n, d] :: enumL (n + 1) r
theorem enumL_len (n : Int) (l : List D) : (enumL n l).length = l.length := by
  induction l generalizing n with
  | nil => rfl
  | cons d r ih => show (enumL (n + 1) r).length + 1 = _; rw [ih]; rfl
theorem enumL_get (n : Int) (l : List D) (i : Nat) {d : D} (h : l[i]? = some d) : (enumL n l)[i]? = some (.tup [.int (n + i), d]) := by
  induction l generalizing n i with
  | nil => simp at h
  | cons e r ih =>
    cases i with
    | zero => simp at h; subst h; show some (D.tup [.int n, e]) = _; simp
    | succ i =>
      show (enumL (n + 1) r)[i]? = _
      rw [ih (n + 1) i (by simpa using h)]
      congr 4
      push_cast
      omega
def zipL : List D → List D → List D
  | a :: l, b :: m => .tup [a, b] :: zipL l m
  | _, _ => []
theorem zipL_get (l m : List D) (i : Nat) {a b : D} (h : l[i]? = some a) (h' : m[i]? = some b) : (zipL l m)[i]? = some (.tup [a, b]) := by
  induction l generalizing m i with
  | nil => simp at h
  | cons e r ih =>
    cases m with
    | nil => simp at h'
    | cons f m =>
      cases i with
      | zero => simp at h h'; subst h h'; rfl
      | succ i => exact ih m i (by simpa using h) (by simpa using h')
theorem zipL_some (l m : List D) (i : Nat) {d : D} (h : (zipL l m)[i]? = some d) : ∃ a b, l[i]? = some a ∧ m[i]? = some b ∧ d = .tup [a, b] := by
  induction l generalizing m i with
  | nil => simp [zipL] at h
  | cons e r ih =>
    cases m with
    | nil => simp [zipL] at h
    | cons f m =>
      cases i with
      | zero => have h' : some (D.tup [e, f]) = some d := h; cases h'; exact ⟨e, f, rfl, rfl, rfl⟩
      | succ i =>
        obtain ⟨a, b, h1, h2, h3⟩ := ih m i (by simpa [zipL] using h)
        exact ⟨a, b, by simpa using h1, by simpa using h2, h3⟩
theorem zipL_len (l m : List D) : (zipL l m).length = min l.length m.length := by
  induction l generalizing m with
  | nil => simp [zipL]
  | cons e r ih =>
    cases m with
    | nil => simp [zipL]
    | cons f m => show (zipL r m).length + 1 = _; rw [ih]; simp only [List.length_cons]; omega
def signsL : Txt → List D
  | [] => []
  | c :: r => .str [c] :: signsL r
theorem signsL_len (l : Txt) : (signsL l).length = l.length := by
  induction l with
  | nil => rfl
  | cons d r ih => show (signsL r).length + 1 = _; rw [ih]; rfl
theorem signsL_get (l : Txt) (i : Nat) {c : Nat} (h : l[i]? = some c) : (signsL l)[i]? = some (.str [c]) := by
  induction l generalizing i with
  | nil => simp at h
  | cons e r ih =>
    cases i with
    | zero => simp at h; subst h; rfl
    | succ i => exact ih i (by simpa using h)
section
variable {K : PySem.W.Frag} {g : Option Addr} {Hs1 H1 : Hp} {p q : Addr} {vs ws : List V} {l m : List D}
theorem yld_list {i : Nat} {Hs H : Hp} {s : G3} (n : Nx g Hs H Hs H s) (hp : SqL K H p vs) (r : Rps K g Hs vs l) : YldOk K g (Itl K p) l i Hs H s := by
  refine ⟨fun d e => ?_, fun h => ⟨vs, hp, by rw [r.len]; exact h⟩⟩
  obtain ⟨v, e1, e2⟩ := r.get e
  refine ⟨⟨vs, v, hp, e1⟩, fun x H' ⟨eh, hx⟩ => ?_⟩
  subst eh
  have := hx vs hp
  rw [e1] at this; cases this
  exact ⟨Hs, n, e2⟩
theorem itok_list (hp : SqL K Hs1 p vs) (r : Rps K g Hs1 vs l) : ItOk K g (Itl K p) Hs1 l := fun i Hs H s u sb gn =>
  yld_list (.refl sb gn) (sb.seq (u.seq hp)) (r.up u)
theorem itokB_list (hp : H1 p = some (.lst vs)) (ng : g ≠ some p) (r : Rps K g Hs1 vs l) : ItOkB K g (Itl K p) Hs1 H1 l := fun i Hs H s n =>
  yld_list n.self (SqL.of (n.stay hp ng)) (r.up n.up)
theorem itok_tup (hp : SqT K Hs1 p vs) (r : Rps K g Hs1 vs l) : ItOk K g (Itt K p) Hs1 l := fun i Hs H s u sb gn => by
  have hp' := sqT_same sb (sqT_same u hp)
  refine ⟨fun d e => ?_, fun h => ⟨vs, hp', by rw [r.len]; exact h⟩⟩
  obtain ⟨v, e1, e2⟩ := r.get e
  refine ⟨⟨vs, v, hp', e1⟩, fun x H' ⟨eh, hx⟩ => ?_⟩
  subst eh
  have := hx vs hp'
  rw [e1] at this; cases this
  exact ⟨Hs, .refl sb gn, e2.up u⟩
theorem itok_rng {lo : Int} {n : Nat} : ItOk K g (Itr lo n) Hs1 (rngF lo n) := fun i Hs H s u sb gn => by
  refine ⟨fun d e => ?_, fun h => by rw [rngF_len] at h; exact h⟩
  have hl : i < n := by
    obtain ⟨h, _⟩ := List.getElem?_eq_some_iff.mp e
    rwa [rngF_len] at h
  rw [rngF_get lo n i hl] at e
  cases e
  refine ⟨hl, fun x H' ⟨eh, hx⟩ => ?_⟩
  subst eh hx
  exact ⟨Hs, .refl sb gn, .int _⟩
theorem pair_new {Hs H : Hp} {s : G3} {T : Addr} {x y : V} {a b : D} (n : Nx g Hs H Hs H s) (h : H T = none) (ra : Rp K g Hs x a) (rb : Rp K g Hs y b) : ∃ Hs', Nx g Hs H Hs' (upd H T (.tup [x, y])) s ∧ Rp K g Hs' (.ref T) (.tup [a, b]) := by
  have u := same_new (o := .tup [x, y]) (n.sub.free h)
  exact ⟨_, n.newS h, .tup (SqT.of upd_same) (.cons (ra.up u) (.cons (rb.up u) .nil))⟩
theorem yld_enum {i : Nat} {Hs H : Hp} {s : G3} (n : Nx g Hs H Hs H s) (hp : SqL K H p vs) (r : Rps K g Hs vs l) : YldOk K g (Ite K p) (enumL 0 l) i Hs H s := by
  refine ⟨fun d e => ?_, fun h => ⟨vs, hp, by rw [enumL_len] at h; rw [r.len]; exact h⟩⟩
  have hl : i < l.length := by
    obtain ⟨h, _⟩ := List.getElem?_eq_some_iff.mp e
    rwa [enumL_len] at h
  obtain ⟨v, e1, e2⟩ := r.get (List.getElem?_eq_getElem hl)
  rw [enumL_get 0 l i (List.getElem?_eq_getElem hl)] at e
  cases e
  refine ⟨⟨vs, v, hp, e1⟩, fun x H' ⟨T, y, ex, hT, eh, hx⟩ => ?_⟩
  subst eh ex
  have := hx vs hp
  rw [e1] at this; cases this
  rw [show (0 : Int) + (i : Nat) = (i : Nat) by omega]
  exact pair_new n hT (.int _) e2
theorem itok_enum (hp : SqL K Hs1 p vs) (r : Rps K g Hs1 vs l) : ItOk K g (Ite K p) Hs1 (enumL 0 l) := fun i Hs H s u sb gn =>
  yld_enum (.refl sb gn) (sb.seq (u.seq hp)) (r.up u)
theorem itokB_enum (hp : H1 p = some (.lst vs)) (ng : g ≠ some p) (r : Rps K g Hs1 vs l) : ItOkB K g (Ite K p) Hs1 H1 (enumL 0 l) := fun i Hs H s n =>
  yld_enum n.self (SqL.of (n.stay hp ng)) (r.up n.up)
theorem yld_zip {i : Nat} {Hs H : Hp} {s : G3} (n : Nx g Hs H Hs H s) (hp : SqL K H p vs) (r : Rps K g Hs vs l) (hq : SqL K H q ws) (r' : Rps K g Hs ws m) : YldOk K g (Itz K p q) (zipL l m) i Hs H s := by
  refine ⟨fun d e => ?_, fun h => ⟨vs, ws, hp, hq, ?_⟩⟩
  · obtain ⟨a, b, ea, eb, ed⟩ := zipL_some l m i e
    subst ed
    obtain ⟨v, e1, e2⟩ := r.get ea
    obtain ⟨w, e3, e4⟩ := r'.get eb
    refine ⟨⟨vs, ws, v, w, hp, hq, e1, e3⟩, fun x H' ⟨T, y, z, ex, hT, eh, hx, hy⟩ => ?_⟩
    subst eh ex
    have := hx vs hp
    rw [e1] at this; cases this
    have := hy ws hq
    rw [e3] at this; cases this
    exact pair_new n hT e2 e4
  · rw [zipL_len] at h
    rw [r.len, r'.len]
    omega
theorem itok_zip (hp : SqL K Hs1 p vs) (r : Rps K g Hs1 vs l) (hq : SqL K Hs1 q ws) (r' : Rps K g Hs1 ws m) : ItOk K g (Itz K p q) Hs1 (zipL l m) := fun i Hs H s u sb gn =>
  yld_zip (.refl sb gn) (sb.seq (u.seq hp)) (r.up u) (sb.seq (u.seq hq)) (r'.up u)
theorem itokB_zip (hp : H1 p = some (.lst vs)) (ng : g ≠ some p) (r : Rps K g Hs1 vs l) (hq : H1 q = some (.lst ws)) (nq : g ≠ some q) (r' : Rps K g Hs1 ws m) : ItOkB K g (Itz K p q) Hs1 H1 (zipL l m) := fun i Hs H s n =>
  yld_zip n.self (SqL.of (n.stay hp ng)) (r.up n.up) (SqL.of (n.stay hq nq)) (r'.up n.up)
theorem itok_str {z : Txt} : ItOk K g (Its ⟨z.toArray⟩) Hs1 (signsL z) := fun i Hs H s u sb gn => by
  refine ⟨fun d e => ?_, fun h => by rw [signsL_len] at h; exact h⟩
  have hl : i < z.length := by
    obtain ⟨h, _⟩ := List.getElem?_eq_some_iff.mp e
    rwa [signsL_len] at h
  rw [signsL_get z i (List.getElem?_eq_getElem hl)] at e
  cases e
  refine ⟨show i < z.toArray.size by simpa using hl, fun x H' ⟨eh, c, ec, hx⟩ => ?_⟩
  subst eh hx
  have e2 : some c = some z[i] := by
    rw [← ec, List.getElem?_toArray]
    exact List.getElem?_eq_getElem hl
  cases e2
  exact ⟨Hs, .refl sb gn, .str [z[i]]⟩
end
section
variable {X : Cx} {C : Ct} {E : XK} {e e2 tg : Expr} {es : List Expr} {pos p : Pos}
/-- the items of a list that is the walk's own, or shared -/
def mIl (ma : En → M O) : En → M (List D) := fun r => bnd (ma r) fun o s => match o.d with
  | .lst l => .ok l s
  | _ => .bad
def mIt (ma : En → M O) : En → M (List D) := fun r => bnd (ma r) fun o s => match o.d with
  | .tup l => .ok l s
  | _ => .bad
def mIlB (ma : En → M O) : En → M (List D) := fun r => bnd (ma r) fun o s => match o.items with
  | some l => .ok l s
  | none => .bad
def mIs (ma : En → M O) : En → M (List D) := fun r => bnd (ma r) fun o s => match o.str? with
  | some z => .ok (signsL z) s
  | none => .bad
theorem it_list {m : En → M O} (hk : X.K = C.K) (h : EO X C E e m) : IT X C E tg e (mIl m) := by
  obtain ⟨t, pe, q⟩ := h
  refine ⟨_, pi_list pe, fun g Hs0 H0 r σ Hs H s Q R w => q g Hs0 H0 r σ Hs H s _ R (wp_mono (wp_bnd w) (fun o s1 w1 v F Hs1 H1 n1 r1 f1 => ?_) fun _ _ _ x => x)⟩
  split at w1
  · rename_i l el
    obtain ⟨Hs2, n2, _, rp⟩ := r1.share n1 f1
    rw [el] at rp
    cases rp with
    | lst h1 h2 h3 =>
      rw [hk]
      exact ⟨_, rfl, ⟨_, SqL.of (n2.sub _ _ h1)⟩, w1 _ Hs2 H1 n2 (itok_list (SqL.of h1) h3)⟩
  · exact w1.elim
theorem it_tup {m : En → M O} (hk : X.K = C.K) (h : EO X C E e m) : IT X C E tg e (mIt m) := by
  obtain ⟨t, pe, q⟩ := h
  refine ⟨_, pi_tup pe, fun g Hs0 H0 r σ Hs H s Q R w => q g Hs0 H0 r σ Hs H s _ R (wp_mono (wp_bnd w) (fun o s1 w1 v F Hs1 H1 n1 r1 f1 => ?_) fun _ _ _ x => x)⟩
  split at w1
  · rename_i l el
    obtain ⟨Hs2, n2, _, rp⟩ := r1.share n1 f1
    rw [el] at rp
    cases rp with
    | tup h1 h3 =>
      rw [hk]
      exact ⟨_, rfl, ⟨_, sqT_same n2.sub h1⟩, w1 _ Hs2 H1 n2 (itok_tup h1 h3)⟩
  · exact w1.elim
theorem itb_list {m : En → M O} (hk : X.K = C.K) (h : EB X C E e m) : ITB X C E tg e (mIlB m) := by
  obtain ⟨t, pe, q⟩ := h
  refine ⟨_, pi_list pe, fun g Hs0 H0 r σ Hs H s Q R w => q g Hs0 H0 r σ Hs H s _ R (wp_mono (wp_bnd w) (fun o s1 w1 v F Hs1 H1 n1 r1 => ?_) fun _ _ _ x => x)⟩
  split at w1
  · rename_i l el
    obtain ⟨a, vs, rfl, hp, ng, rp⟩ := r1.items n1.sub el
    rw [hk]
    exact ⟨_, rfl, ⟨_, SqL.of hp⟩, w1 _ Hs1 H1 n1 (itokB_list hp ng rp)⟩
  · exact w1.elim
theorem it_str {m : En → M O} (h : EB X C E e m) : IT X C E tg e (mIs m) := by
  obtain ⟨t, pe, q⟩ := h
  refine ⟨_, pi_str pe, fun g Hs0 H0 r σ Hs H s Q R w => q g Hs0 H0 r σ Hs H s _ R (wp_mono (wp_bnd w) (fun o s1 w1 v F Hs1 H1 n1 r1 => ?_) fun _ _ _ x => x)⟩
  split at w1
  · rename_i l el
    exact ⟨_, r1.str el, w1 _ Hs1 H1 n1 itok_str⟩
  · exact w1.elim
/-! range -/
def inR (i : Int) : Bool := decide (-4611686018427387904 ≤ i) && decide (i < 4611686018427387904)
theorem inR_ok {i : Int} (h : inR i = true) : -(2 ^ 62) ≤ i ∧ i < 2 ^ 62 := by
  unfold inR at h
  simp only [Bool.and_eq_true, decide_eq_true_eq] at h
  omega
def mIr1 (ms : En → M (List O)) : En → M (List D) := fun r => bnd (ms r) fun os s => match os with
  | [o] => match o.int? with
    | some j => if inR j = true then .ok (rngF 0 j.toNat) s else .bad
    | none => .bad
  | _ => .bad
def mIr2 (ms : En → M (List O)) : En → M (List D) := fun r => bnd (ms r) fun os s => match os with
  | [o, o'] => match o.int?, o'.int? with
    | some i, some j => if (inR i && inR j) = true then .ok (rngF i (j - i).toNat) s else .bad
    | _, _ => .bad
  | _ => .bad
theorem it_rng1 {ms : En → M (List O)} (hg : Gl X "range") (hm : X.mg "range" = none) (h : AB X C E [e] ms) (hs : starEach [e] X.env = [(false, eval e X.env)] := by rfl) : IT X C E tg (.Call (.Name "range" p) [e] [] pos) (mIr1 ms) := by
  obtain ⟨t, pe, q⟩ := h
  refine ⟨_, pi_range1 hg hm pe hs, fun g Hs0 H0 r σ Hs H s Q R w => q g Hs0 H0 r σ Hs H s _ R (wp_mono (wp_bnd w) (fun os s1 w1 vs Hs1 H1 n1 r1 => ?_) fun _ _ _ x => x)⟩
  split at w1
  · cases r1 with
    | cons r1 t => cases t
                   split at w1
                   · rename_i j ej
                     split at w1
                     · rename_i hj
                       cases r1.int ej
                       exact ⟨j, rfl, (inR_ok hj).1, (inR_ok hj).2, w1 _ Hs1 H1 n1 itok_rng⟩
                     · exact w1.elim
                   · exact w1.elim
  · exact w1.elim
theorem it_rng2 {ms : En → M (List O)} (hg : Gl X "range") (hm : X.mg "range" = none) (h : AB X C E [e, e2] ms) (hs : starEach [e, e2] X.env = [(false, eval e X.env), (false, eval e2 X.env)] := by rfl) (hs2 : starEach [e2] X.env = [(false, eval e2 X.env)] := by rfl) : IT X C E tg (.Call (.Name "range" p) [e, e2] [] pos) (mIr2 ms) := by
  obtain ⟨t, pe, q⟩ := h
  refine ⟨_, pi_range2 hg hm pe hs hs2, fun g Hs0 H0 r σ Hs H s Q R w => q g Hs0 H0 r σ Hs H s _ R (wp_mono (wp_bnd w) (fun os s1 w1 vs Hs1 H1 n1 r1 => ?_) fun _ _ _ x => x)⟩
  split at w1
  · cases r1 with
    | cons r1 t => cases t with
      | cons r2 t =>
        cases t
        split at w1
        · rename_i i j ei ej
          split at w1
          · rename_i hj
            rw [Bool.and_eq_true] at hj
            cases r1.int ei
            cases r2.int ej
            exact ⟨i, j, rfl, ⟨(inR_ok hj.1).1, (inR_ok hj.1).2, (inR_ok hj.2).1, (inR_ok hj.2).2⟩, w1 _ Hs1 H1 n1 itok_rng⟩
          · exact w1.elim
        · exact w1.elim
  · exact w1.elim
/-! enumerate, zip -/
def mIe (ms : En → M (List O)) : En → M (List D) := fun r => bnd (ms r) fun os s => match os with
  | [o] => match o.d with
    | .lst l => .ok (enumL 0 l) s
    | _ => .bad
  | _ => .bad
def mIeB (ms : En → M (List O)) : En → M (List D) := fun r => bnd (ms r) fun os s => match os with
  | [o] => match o.items with
    | some l => .ok (enumL 0 l) s
    | none => .bad
  | _ => .bad
def mIz (ms : En → M (List O)) : En → M (List D) := fun r => bnd (ms r) fun os s => match os with
  | [o, o'] => match o.d, o'.d with
    | .lst l, .lst m => .ok (zipL l m) s
    | _, _ => .bad
  | _ => .bad
def mIzB (ms : En → M (List O)) : En → M (List D) := fun r => bnd (ms r) fun os s => match os with
  | [o, o'] => match o.items, o'.items with
    | some l, some m => .ok (zipL l m) s
    | _, _ => .bad
  | _ => .bad
theorem it_enum {ms : En → M (List O)} {elts : List Expr} {kk : Nat} {tpos : Pos} (hk : X.K = C.K) (hg : Gl X "enumerate") (hm : X.mg "enumerate" = none) (h : AO X C E [e] ms) (hs : starEach [e] X.env = [(false, eval e X.env)] := by rfl) : IT X C E (.Tuple elts kk tpos) (.Call (.Name "enumerate" p) [e] [] pos) (mIe ms) := by
  obtain ⟨t, pe, q⟩ := h
  refine ⟨_, pi_enum hg hm pe hs, fun g Hs0 H0 r σ Hs H s Q R w => q g Hs0 H0 r σ Hs H s _ R (wp_mono (wp_bnd w) (fun os s1 w1 vs F Hs1 H1 n1 r1 f1 => ?_) fun _ _ _ x => x)⟩
  split at w1
  · split at w1
    · rename_i l el
      obtain ⟨Hs2, n2, _, rp⟩ := r1.share n1 f1
      cases rp with
      | cons rp t =>
        cases t
        rw [el] at rp
        cases rp with
        | lst h1 h2 h3 =>
          rw [hk]
          exact ⟨_, _, rfl, SqL.of (n2.sub _ _ h1), w1 _ Hs2 H1 n2 (itok_enum (SqL.of h1) h3)⟩
    · exact w1.elim
  · exact w1.elim
theorem itb_enum {ms : En → M (List O)} {elts : List Expr} {kk : Nat} {tpos : Pos} (hk : X.K = C.K) (hg : Gl X "enumerate") (hm : X.mg "enumerate" = none) (h : AB X C E [e] ms) (hs : starEach [e] X.env = [(false, eval e X.env)] := by rfl) : ITB X C E (.Tuple elts kk tpos) (.Call (.Name "enumerate" p) [e] [] pos) (mIeB ms) := by
  obtain ⟨t, pe, q⟩ := h
  refine ⟨_, pi_enum hg hm pe hs, fun g Hs0 H0 r σ Hs H s Q R w => q g Hs0 H0 r σ Hs H s _ R (wp_mono (wp_bnd w) (fun os s1 w1 vs Hs1 H1 n1 r1 => ?_) fun _ _ _ x => x)⟩
  split at w1
  · split at w1
    · rename_i l el
      cases r1 with
      | cons r1 t =>
        cases t
        obtain ⟨a, vs, rfl, hp, ng, rp⟩ := r1.items n1.sub el
        rw [hk]
        exact ⟨_, _, rfl, SqL.of hp, w1 _ Hs1 H1 n1 (itokB_enum hp ng rp)⟩
    · exact w1.elim
  · exact w1.elim
theorem it_zip {ms : En → M (List O)} {elts : List Expr} {kk : Nat} {tpos : Pos} (hk : X.K = C.K) (hg : Gl X "zip") (hm : X.mg "zip" = none) (h : AO X C E [e, e2] ms) (hs : starEach [e, e2] X.env = (false, eval e X.env) :: starEach [e2] X.env := by rfl) (hpl : (backTo pos (starEach [e2] X.env)).any (·.1) = false := by rfl) : IT X C E (.Tuple elts kk tpos) (.Call (.Name "zip" p) [e, e2] [] pos) (mIz ms) := by
  obtain ⟨t, pe, q⟩ := h
  refine ⟨_, pi_zip hg hm pe hs hpl, fun g Hs0 H0 r σ Hs H s Q R w => q g Hs0 H0 r σ Hs H s _ R (wp_mono (wp_bnd w) (fun os s1 w1 vs F Hs1 H1 n1 r1 f1 => ?_) fun _ _ _ x => x)⟩
  split at w1
  · split at w1
    · rename_i l m el em
      obtain ⟨Hs2, n2, _, rp⟩ := r1.share n1 f1
      cases rp with
      | cons rp t => cases t with
        | cons rq t =>
          cases t
          rw [el] at rp
          rw [em] at rq
          cases rp with
          | lst h1 h2 h3 => cases rq with
            | lst k1 k2 k3 =>
              rw [hk]
              exact ⟨_, _, _, _, rfl, SqL.of (n2.sub _ _ h1), SqL.of (n2.sub _ _ k1), w1 _ Hs2 H1 n2 (itok_zip (SqL.of h1) h3 (SqL.of k1) k3)⟩
    · exact w1.elim
  · exact w1.elim
theorem itb_zip {ms : En → M (List O)} {elts : List Expr} {kk : Nat} {tpos : Pos} (hk : X.K = C.K) (hg : Gl X "zip") (hm : X.mg "zip" = none) (h : AB X C E [e, e2] ms) (hs : starEach [e, e2] X.env = (false, eval e X.env) :: starEach [e2] X.env := by rfl) (hpl : (backTo pos (starEach [e2] X.env)).any (·.1) = false := by rfl) : ITB X C E (.Tuple elts kk tpos) (.Call (.Name "zip" p) [e, e2] [] pos) (mIzB ms) := by
  obtain ⟨t, pe, q⟩ := h
  refine ⟨_, pi_zip hg hm pe hs hpl, fun g Hs0 H0 r σ Hs H s Q R w => q g Hs0 H0 r σ Hs H s _ R (wp_mono (wp_bnd w) (fun os s1 w1 vs Hs1 H1 n1 r1 => ?_) fun _ _ _ x => x)⟩
  split at w1
  · split at w1
    · rename_i l m el em
      cases r1 with
      | cons r1 t => cases t with
        | cons r2 t =>
          cases t
          obtain ⟨a, vs, rfl, hp, ng, rp⟩ := r1.items n1.sub el
          obtain ⟨b, ws, rfl, hq, nq, rq⟩ := r2.items n1.sub em
          rw [hk]
          exact ⟨_, _, _, _, rfl, SqL.of hp, SqL.of hq, w1 _ Hs1 H1 n1 (itokB_zip hp ng rp hq nq rq)⟩
    · exact w1.elim
  · exact w1.elim
/-! list(range(..)) -/
def mLr (mi : En → M (List D)) : En → M O := fun r => bnd (mi r) fun l s => if l.length ≤ lineN then .ok (.lst (l.map .sh)) s else .bad
theorem rgV_rps {K : PySem.W.Frag} {g : Option Addr} {H : Hp} (n : Nat) (a : Int) : Rps K g H ((List.range n).map fun i => V.int (a + (i : Nat))) (rngF a n) := by
  induction n generalizing a with
  | zero => exact .nil
  | succ n ih =>
    rw [List.range_succ_eq_map, List.map_cons, List.map_map]
    refine .cons ?_ ?_
    · rw [show a + ((0 : Nat) : Int) = a by omega]; exact .int a
    · have := ih (a + 1)
      refine (show List.map ((fun i : Nat => V.int (a + (i : Nat))) ∘ Nat.succ) (List.range n) = List.map (fun i : Nat => V.int (a + 1 + (i : Nat))) (List.range n) from ?_) ▸ this
      refine List.map_congr_left fun i _ => ?_
      show V.int (a + ((i + 1 : Nat) : Int)) = _
      congr 1
      push_cast
      omega
def inR24 (a b : Int) : Bool := inR a && inR b && Nat.ble (b - a).toNat lineN
theorem inR24_ok {a b : Int} (h : inR24 a b = true) : RgOk a b := by
  unfold inR24 at h
  simp only [Bool.and_eq_true] at h
  obtain ⟨⟨h1, h2⟩, h3⟩ := h
  have := Nat.le_of_ble_eq_true h3
  unfold lineN at this
  exact ⟨(inR_ok h1).1, (inR_ok h1).2, (inR_ok h2).1, (inR_ok h2).2, by omega⟩
def mLr1 (m : En → M O) : En → M O := fun r => bnd (m r) fun o s => match o.int? with
  | some j => if inR24 0 j = true then .ok (.lst ((rngF 0 j.toNat).map .sh)) s else .bad
  | none => .bad
def mLr2 (m m' : En → M O) : En → M O := fun r => bnd (m r) fun o => bnd (m' r) fun o' s => match o.int?, o'.int? with
  | some i, some j => if inR24 i j = true then .ok (.lst ((rngF i (j - i).toNat).map .sh)) s else .bad
  | _, _ => .bad
theorem eo_listR1 {p2 pos2 : Pos} {m : En → M O} (hc : X.calm = true) (hg : Gl X "list") (hm : X.mg "list" = none) (hg2 : Gl X "range") (hm2 : X.mg "range" = none) (h : EB X C E e m)
    (na : starEach [.Call (.Name "range" p2) [e] [] pos2] X.env = (false, eval (.Call (.Name "range" p2) [e] [] pos2) X.env) :: starEach [] X.env := by rfl) (na2 : starEach [e] X.env = (false, eval e X.env) :: starEach [] X.env := by rfl) :
    EO X C E (.Call (.Name "list" p) [.Call (.Name "range" p2) [e] [] pos2] [] pos) (mLr1 m) := by
  obtain ⟨t, pe, q⟩ := h
  refine ⟨_, pe_listRg hc hg hm (prg_1 hg2 hm2 pe na2) na, fun g Hs0 H0 r σ Hs H s Q R w => q g Hs0 H0 r σ Hs H s _ R (wp_mono (wp_bnd w) (fun o s1 w1 v F Hs1 H1 n1 r1 => ?_) fun _ _ _ x => x)⟩
  split at w1
  · rename_i j ej
    split at w1
    · rename_i hj
      cases r1.int ej
      refine ⟨j, rfl, inR24_ok hj, new_lst n1.self ?_ rfl fun v F Hs' H' n2 r2 f2 => w1 v F Hs' H' (n1.trans n2) r2 fun a m => n1.there (f2 a m)⟩
      have := rgV_rps (K := C.K) (g := g) (H := Hs1) j.toNat 0
      unfold rgV
      rw [show j - 0 = j by omega]
      exact this
    · exact w1.elim
  · exact w1.elim
theorem eo_listR2 {p2 pos2 : Pos} {m m' : En → M O} (hc : X.calm = true) (hg : Gl X "list") (hm : X.mg "list" = none) (hg2 : Gl X "range") (hm2 : X.mg "range" = none) (h : EB X C E e m) (h' : EB X C E e2 m')
    (na : starEach [.Call (.Name "range" p2) [e, e2] [] pos2] X.env = (false, eval (.Call (.Name "range" p2) [e, e2] [] pos2) X.env) :: starEach [] X.env := by rfl) (na2 : starEach [e, e2] X.env = (false, eval e X.env) :: starEach [e2] X.env := by rfl)
    (na3 : starEach [e2] X.env = (false, eval e2 X.env) :: starEach [] X.env := by rfl) (hp : (backTo pos2 (starEach [e2] X.env)).any (·.1) = false := by rfl) :
    EO X C E (.Call (.Name "list" p) [.Call (.Name "range" p2) [e, e2] [] pos2] [] pos) (mLr2 m m') := by
  obtain ⟨t, pe, q⟩ := h
  obtain ⟨t', pe', q'⟩ := h'
  refine ⟨_, pe_listRg hc hg hm (prg_2 hg2 hm2 pe pe' na2 na3 hp) na, fun g Hs0 H0 r σ Hs H s Q R w => q g Hs0 H0 r σ Hs H s _ R (wp_mono (wp_bnd w) (fun o s1 w1 v F Hs1 H1 n1 r1 => ?_) fun _ _ _ x => x)⟩
  refine q' g Hs0 H0 r σ Hs1 H1 s1 _ (R.next n1) (wp_mono (wp_bnd w1) (fun o' s2 w2 v' F' Hs2 H2 n2 r2 => ?_) fun _ _ _ x => x.later n1)
  split at w2
  · rename_i i j ei ej
    split at w2
    · rename_i hj
      cases r1.int ei
      cases r2.int ej
      exact ⟨i, j, rfl, rfl, inR24_ok hj, new_lst n2.self (rgV_rps _ _) rfl fun v F Hs' H' n3 r3 f3 => w2 v F Hs' H' ((n1.trans n2).trans n3) r3 fun a m => n1.there (n2.there (f3 a m))⟩
    · exact w2.elim
  · exact w2.elim
/-! ### list comprehensions -/
def noX {α : Type} (m : M α) : M α := fun s => match m s with
  | .ok x s' => .ok x s'
  | _ => .bad
theorem noX_ok {α : Type} {m : M α} {s : G3} {P : α → G3 → Prop} {X : Nat → D → G3 → Prop} (h : wp (noX m s) P X) : ∃ x s', m s = .ok x s' ∧ P x s' := by
  unfold noX at h
  cases e : m s with
  | ok x s' => rw [e] at h; exact ⟨x, s', rfl, h⟩
  | exn c d s' => rw [e] at h; exact h.elim
  | bad => rw [e] at h; exact h.elim
def lcL (b : Bd) (mt : En → M Bool) (me : En → M O) (r0 : En) : List D → M (List D)
  | [] => fun s => .ok [] s
  | d :: ds => fun s => match bindB b (.sh d) r0 with
    | some r1 => bnd (mt r1) (fun c s => if c = true then bnd (me r1) (fun o => bnd (lcL b mt me r0 ds) fun out s => .ok (o.d :: out) s) s else lcL b mt me r0 ds s) s
    | none => .bad
def mLc (mi : En → M (List D)) (b : Bd) (mt : En → M Bool) (me : En → M O) (vs : List Nat) : En → M O := fun r => bnd (mi r) fun ds => bnd (noX (lcL b mt me (wipeE r vs) ds)) fun out s => if out.length ≤ lineN then .ok (.lst (out.map .sh)) s else .bad
theorem bnd_ok {α β : Type} {m : M α} {f : α → M β} {s : G3} {y : β} {s' : G3} (h : bnd m f s = .ok y s') : ∃ x s1, m s = .ok x s1 ∧ f x s1 = .ok y s' := by
  unfold bnd at h
  cases e : m s with
  | ok x s1 => rw [e] at h; exact ⟨x, s1, rfl, h⟩
  | exn c d s1 => rw [e] at h; cases h
  | bad => rw [e] at h; cases h
theorem wp_of {α : Type} {r : Res α} {x : α} {s : G3} {P : α → G3 → Prop} {X : Nat → D → G3 → Prop} (e : r = .ok x s) (h : P x s) : wp r P X := by
  rw [e]; exact h
theorem Nx.write {g : Option Addr} {Hs0 H0 Hs H : Hp} {s : G3} {p : Addr} {o : HO} (n : Nx g Hs0 H0 Hs H s) (h0 : H0 p = none) (hs : Hs p = none) (ng : g ≠ some p) : Nx g Hs0 H0 Hs (upd H p o) s := by
  refine ⟨n.sub0, n.gen0, n.up, fun a u e => ?_, fun a e => ?_, fun a u m e z y => ?_, fun a u m e => ?_⟩
  · rw [upd_ne (fun z => by subst z; rw [hs] at e; cases e)]; exact n.sub _ _ e
  · rw [upd_ne (fun z => by subst z; exact ng e)]; exact n.gen a e
  · rw [upd_ne (fun z => by subst z; rw [h0] at e; cases e)]; exact n.fr a u m e z y
  · rw [upd_ne (fun z => by subst z; rw [h0] at e; cases e)]; exact n.im a u m e
theorem sim_lc {wi : TI} {gt : TG} {tt : TT} {te : TE} {mi : En → M (List D)} {b : Bd} {mt : En → M Bool} {me : En → M O} {vs : List Nat} (qi : SimIB C E wi mi) (qg : SimG C gt b) (qt : SimT C E0 tt mt) (qe : SimO C E0 te me) (hb : ∀ i ∈ b.ixs, i ∈ vs) :
    SimO C E (tLc wi gt tt te vs) (mLc mi b mt me vs) := fun g Hs0 H0 r σ Hs H s Q R w => by
  refine qi g Hs0 H0 r σ Hs H s _ R (wp_mono (wp_bnd w) (fun ds s1 w1 J Hs1 H1 n1 it => ?_) fun _ _ _ x => x)
  obtain ⟨out, s2, ew, w2⟩ := noX_ok (wp_bnd w1)
  split at w2
  case isFalse => exact w2.elim
  rename_i hlen
  intro Da hD
  have R1 := R.next n1
  have ngD : g ≠ some Da := fun z => by
    have := (n1.gen Da z).2; rw [hD] at this; cases this
  refine ⟨fun i m H' => m = ds.length - i ∧ i ≤ ds.length ∧ ∃ (Hs' : Hp) (s' : G3) (acc : List D) (avs : List V) (rest : List D), Nx g Hs1 H1 Hs' H' s' ∧ H' Da = some (.lst avs) ∧ Hs' Da = none ∧ Rps C.K g Hs' avs acc ∧ lcL b mt me (wipeE r vs) (ds.drop i) s' = .ok rest s2 ∧ acc ++ rest = out,
    ⟨ds.length, rfl, Nat.zero_le _, Hs1, s1, [], [], out, n1.self.newO hD, upd_same, n1.sub.free hD, .nil, ew, rfl⟩, fun i m H' hW => ?_⟩
  obtain ⟨rfl, hi, Hs', s', acc, avs, rest, n', hDa, hsD, ra, el, eo⟩ := hW
  have y := it i Hs' H' s' n'
  by_cases hl : i < ds.length
  · refine .inr ?_
    obtain ⟨go, yl⟩ := y.1 ds[i] (List.getElem?_eq_getElem hl)
    refine ⟨go, fun H2 => ∃ (Hs2 : Hp) (s3 : G3) (acc : List D) (avs : List V) (rest : List D), Nx g Hs1 H1 Hs2 H2 s3 ∧ H2 Da = some (.lst avs) ∧ Hs2 Da = none ∧ Rps C.K g Hs2 avs acc ∧ lcL b mt me (wipeE r vs) (ds.drop (i + 1)) s3 = .ok rest s2 ∧ acc ++ rest = out, fun H2 h => ⟨ds.length - (i + 1), by omega, rfl, hl, h⟩, fun x H2 hy => ?_⟩
    obtain ⟨Hs2, n2, rp⟩ := yl x H2 hy
    obtain ⟨hDa2, hsD2⟩ := n2.fr Da _ rfl hDa hsD ngD
    rw [List.drop_eq_getElem_cons hl] at el
    dsimp only [lcL] at el
    split at el
    case h_2 => cases el
    rename_i r1 eb
    obtain ⟨F, RF⟩ := (((R1.next n').wipe vs).next n2).srf
    refine qg g Hs0 H0 (wipeE r vs) (wipe σ vs) Hs2 H2 s' F x _ [] r1 _ RF (.sh rp) (fun _ _ _ m => nomatch m) (fun _ m => nomatch m) eb fun σ3 Hs3 F3 R3 _ gr wq => ?_
    have hsD3 : Hs3 Da = none := (gr.2 Da (fun m => nomatch m) ⟨_, rfl, hDa2⟩).trans hsD2
    have n3 : Nx g Hs' H' Hs3 H2 s' := ⟨n2.sub0, n2.gen0, n2.up.trans gr.1, R3.nx.sub, R3.nx.gen, fun a o m e z q => by
      obtain ⟨e1, e2⟩ := n2.fr a o m e z q
      exact ⟨e1, (gr.2 a (fun m => nomatch m) ⟨_, m, e1⟩).trans e2⟩, n2.im⟩
    have ww : wipe (wipe σ vs) vs = wipe σ vs := by
      have key : ∀ (ws : List Nat) (τ : L2.St), (∀ i ∈ ws, i ∈ vs) → wipe (wipe τ ws) vs = wipe τ vs := by
        intro ws
        induction ws with
        | nil => intro τ _; rfl
        | cons v ws ih =>
          intro τ hv
          show wipe ((wipe τ ws).set v none) vs = _
          rw [wipe_set (hv v (List.mem_cons_self ..)), ih τ fun i m => hv i (List.mem_cons_of_mem _ m)]
      exact key vs σ fun _ m => m
    refine ⟨(wq vs hb).trans ww, ?_⟩
    obtain ⟨c, s3, e1, el⟩ := bnd_ok el
    refine qt g Hs0 H0 r1 σ3 Hs3 H2 s' _ R3.sr (wp_of e1 fun Hs4 H4 n4 => ?_)
    have n34 := n3.trans n4
    obtain ⟨hDa4, hsD4⟩ := n34.fr Da _ rfl hDa hsD ngD
    split at el
    · rename_i hc
      rw [if_pos hc]
      obtain ⟨o, s4, e2, el⟩ := bnd_ok el
      obtain ⟨out2, s5, e3, el⟩ := bnd_ok el
      cases el
      refine qe g Hs0 H0 r1 σ3 Hs4 H4 s3 _ (R3.sr.next n4) (wp_of e2 fun yv Fy Hs5 H5 n5 r5 f5 => ?_)
      obtain ⟨Hs6, n6, u6, rp6⟩ := r5.share n5 f5
      obtain ⟨hDa6, hsD6⟩ := n6.fr Da _ rfl hDa4 hsD4 ngD
      refine ⟨avs, hDa6, ?_, Hs6, s4, acc ++ [o.d], avs ++ [yv], out2, (n'.trans (n34.trans n6)).write hD hsD6 ngD, upd_same, hsD6, (ra.up ((n34.trans n6).up)).app (.cons rp6 .nil), e3, ?_⟩
      · rw [ra.len, ← lineN_eq]
        have : (acc ++ o.d :: out2).length = out.length := by rw [eo]
        rw [List.length_append, List.length_cons] at this
        omega
      · rw [List.append_assoc]; exact eo
    · rename_i hc
      rw [if_neg hc]
      exact ⟨Hs4, s3, acc, avs, rest, n'.trans n34, hDa4, hsD4, ra.up n34.up, el, eo⟩
  · refine .inl ⟨y.2 (by omega), ?_⟩
    rw [List.drop_eq_nil_of_le (by omega)] at el
    cases el
    rw [List.append_nil] at eo
    subst eo
    refine w2 (.ref Da) [Da] Hs' H' (n1.trans n') (.lst hDa hsD ngD ra.ros fun m => nomatch m) fun a m => ?_
    rw [List.mem_singleton.mp m]
    exact n1.there hD
def mYes : En → M Bool := fun _ s => .ok true s
/-- the tests of a comprehension -/
def ETs (X : Cx) (C : Ct) (E : XK) (ifs : List Expr) (m : En → M Bool) : Prop := ∃ t, PTs X ifs t ∧ SimT C E t m
theorem ets_nil : ETs X C E [] mYes := ⟨_, pts_nil, fun g Hs0 H0 r σ Hs H s Q R w => w Hs H R.start⟩
theorem ets_one {m : En → M Bool} (h : ET X C E e m) : ETs X C E [e] m := let ⟨_, p, q⟩ := h; ⟨_, pts_one p, q⟩
end
end Lone
namespace Lone
open PySem PySem.Spec PyProof.Rows L2
/-! ### readings as the data tell them: the same for every context -/
def tO (C : Ct) (E : XK) (m : En → M O) : TE := fun σ H Q => ∃ g Hs0 H0 r Hs s, SR C.K g Hs0 H0 r σ Hs H s ∧
  wp (m r s) (fun o s' => ∀ v F Hs' H', Nx g Hs H Hs' H' s' → RO C.K g Hs' H' v o F → (∀ a ∈ F, H a = none) → Q v H') (XP C E g Hs H)
def tT (C : Ct) (E : XK) (m : En → M Bool) : TT := fun σ H Q => ∃ g Hs0 H0 r Hs s, SR C.K g Hs0 H0 r σ Hs H s ∧
  wp (m r s) (fun b s' => ∀ Hs' H', Nx g Hs H Hs' H' s' → Q b H') (XP C E g Hs H)
def tG (C : Ct) (b : Bd) : TG := fun v σ H Q => ∃ g Hs0 H0 r Hs s F o F0 r', SRF C.K g Hs0 H0 r σ Hs H s F ∧ RO C.K g Hs H v o F0 ∧ (∀ j a, a ∈ F j → a ∉ F0) ∧ (∀ a ∈ F0, H0 a = none) ∧ bindB b o r = some r' ∧
  (∀ σ' Hs' F', SRF C.K g Hs0 H0 r' σ' Hs' H s F' → (∀ i a, a ∈ F' i → (∃ j, a ∈ F j) ∨ a ∈ F0) → Gr H Hs Hs' F0 → (∀ vs, (∀ i ∈ b.ixs, i ∈ vs) → wipe σ' vs = wipe σ vs) → Q σ' H)
section
variable {X : Cx} {C : Ct} {E : XK} {e elt iter tg : Expr} {es ifs : List Expr} {pos : Pos}
theorem EO.pe {m : En → M O} (h : EO X C E e m) : PE X e (tO C E m) := let ⟨_, p, q⟩ := h
  ⟨fun pins s σ H Q I ⟨g, Hs0, H0, r, Hs, s3, R, w⟩ => p.run pins s σ H Q I (q g Hs0 H0 r σ Hs H s3 Q R w)⟩
theorem ETs.pts {m : En → M Bool} (h : ETs X C E ifs m) : PTs X ifs (tT C E m) := let ⟨_, p, q⟩ := h
  ⟨fun pins s σ H Q I ⟨g, Hs0, H0, r, Hs, s3, R, w⟩ => p.run pins s σ H Q I (q g Hs0 H0 r σ Hs H s3 Q R w)⟩
theorem TGt.pg {b : Bd} (h : TGt X C tg b) : PG X tg (tG C b) := let ⟨_, p, q⟩ := h
  ⟨fun pins s σ H v u Q I r ⟨g, Hs0, H0, rr, Hs, s3, F, o, F0, r', a1, a2, a3, a4, a5, a6⟩ => p.run pins s σ H v u Q I r (q g Hs0 H0 rr σ Hs H s3 F v o F0 r' Q a1 a2 a3 a4 a5 a6)⟩
theorem sim_tO {m : En → M O} : SimO C E (tO C E m) m := fun g Hs0 H0 r σ Hs H s Q R w => ⟨g, Hs0, H0, r, Hs, s, R, w⟩
theorem sim_tT {m : En → M Bool} : SimT C E (tT C E m) m := fun g Hs0 H0 r σ Hs H s Q R w => ⟨g, Hs0, H0, r, Hs, s, R, w⟩
theorem sim_tG {b : Bd} : SimG C (tG C b) b := fun g Hs0 H0 r σ Hs H s F v o F0 r' Q a1 a2 a3 a4 a5 a6 => ⟨g, Hs0, H0, r, Hs, s, F, o, F0, r', a1, a2, a3, a4, a5, a6⟩
theorem eo_lc {scope : Scope} {own : List (Str × Nat)} {mi : En → M (List D)} {b : Bd} {mt : En → M Bool} {me : En → M O} (hc : X.calm = true) (hN : X.N.Nodup) (hi : ITB X C E tg iter mi) (ok : BlkOk X.N X.env.scope scope own)
    (hg : ∀ (s : Shared) (H : Hp) (A : Addr) (cl : List (Str × Addr)) (fp : List Addr), TGt (X.blk s H scope (compEnvC scope cl A X.env) fp) C tg b)
    (ht : ∀ (s : Shared) (H : Hp) (A : Addr) (cl : List (Str × Addr)) (fp : List Addr), ETs (X.blk s H scope (compEnvC scope cl A X.env) fp) C L2.E0 ifs mt)
    (he : ∀ (s : Shared) (H : Hp) (A : Addr) (cl : List (Str × Addr)) (fp : List Addr), EO (X.blk s H scope (compEnvC scope cl A X.env) fp) C L2.E0 elt me)
    (hb : ∀ i ∈ b.ixs, i ∈ own.map (·.2)) (hs : ∀ x, foldedSetIterable iter X.env x = pure x := by intro _; rfl) : EO X C E (.ListComp elt [⟨tg, iter, ifs, 0⟩] scope pos) (mLc mi b mt me (own.map (·.2))) := by
  obtain ⟨wi, pw, qw⟩ := hi
  exact ⟨_, pe_lc hc hN pw ok (fun s H A cl fp => (hg s H A cl fp).pg) (fun s H A cl fp => (ht s H A cl fp).pts) (fun s H A cl fp => (he s H A cl fp).pe) hs, sim_lc qw sim_tG sim_tT sim_tO hb⟩
theorem st_lc {i : Nat} {y : Str} {py spos : Pos} {scope : Scope} {own : List (Str × Nat)} {mi : En → M (List D)} {b b' : Bd} {mt : En → M Bool} {me : En → M O} (nb : NameB C i b') (hc : X.calm = true) (hN : X.N.Nodup) (hy : X.N[i]? = some y) (hyl : X.env.scope.names.lookup y = some .local)
    (hsw : swapsWith (.ListComp elt [⟨tg, iter, ifs, 0⟩] scope pos) (some (.Name y py)) spos.line X.env = pure true) (hi : ITB X C E tg iter mi) (ok : BlkOk X.N X.env.scope scope own)
    (hg : ∀ (s : Shared) (H : Hp) (A : Addr) (cl : List (Str × Addr)) (fp : List Addr), TGt (X.blk s H scope (compEnvC scope cl A X.env) fp) C tg b)
    (ht : ∀ (s : Shared) (H : Hp) (A : Addr) (cl : List (Str × Addr)) (fp : List Addr), ETs (X.blk s H scope (compEnvC scope cl A X.env) fp) C L2.E0 ifs mt)
    (he : ∀ (s : Shared) (H : Hp) (A : Addr) (cl : List (Str × Addr)) (fp : List Addr), EO (X.blk s H scope (compEnvC scope cl A X.env) fp) C L2.E0 elt me)
    (hb : ∀ i ∈ b.ixs, i ∈ own.map (·.2)) (hs : ∀ x, foldedSetIterable iter X.env x = pure x := by intro _; rfl) :
    ST X C E (.Assign [.Name y py] (.ListComp elt [⟨tg, iter, ifs, 0⟩] scope pos) spos) (mBind b' (mLc mi b mt me (own.map (·.2)))) := by
  obtain ⟨wi, pw, qw⟩ := hi
  refine ⟨_, ps_setLc hc hN hy hyl hsw pw ok (fun s H A cl fp => (hg s H A cl fp).pg) (fun s H A cl fp => (ht s H A cl fp).pts) (fun s H A cl fp => (he s H A cl fp).pe) hs, fun g Hs0 H0 r σ Hs H s D R w => ?_⟩
  refine sim_lc qw sim_tG sim_tT sim_tO hb g Hs0 H0 r σ Hs H s _ R (wp_mono (wp_bnd w) (fun o s1 w1 v F Hs1 H1 n1 r1 f1 => ?_) fun _ _ _ x => x.later R.nx)
  split at w1
  · rename_i r' eb
    exact sr_bind nb.sim R n1 r1 f1 eb fun σ' Hs' u R' _ => w1 σ' Hs' H1 u R'
  · exact w1.elim
end
/-! ### functions -/
/-- what a function of the text promises, where no showing of things is under way -/
structure FnG (P : Program) (w : World) (K : PySem.W.Frag) (mg : Str → Option Value) (base : Heap) (CX : CXT) (k : Nat) (f : Addr) (fd : FuncData) (ps : List Str) (sp : Sp) : Prop where
  len : ∀ vs H Q E, sp vs H Q E → vs.length = ps.length
  run : ∀ (A : Around) (outer : List Env) (s : Shared) (H : Hp) (args : Args) (us : List Value) (vs : List V) (Q : VK) (E : XK),
    A.guards = some [] → Room k A → Env0 P w K mg base A outer s H → BindsTo s fd args (ps.zip us) → Vals vs us → sp vs H Q E →
    codeAny (model P w) A (.call (.ref f) args) (CR CX outer P w H s Q E) s
section
variable {X : Cx} {CX : CXT} {k : Nat} {f : Addr} {fd : FuncData} {ps ks : List Str} {sp : Sp} {E : XK} {x : Str} {p pos : Pos} {e : Expr} {es : List Expr} {kws : List Keyword} {t tk : TA}
  {pins : List (Addr × Obj)} {σ : L2.St} {H : Hp} {s : Shared} {Q : VK}
/-- behind a call's code -/
theorem fg_end {r : Result} {s' : Shared} (hx : Passes CX X E) (I : Inv X pins σ H s) (hq : CR CX X.stack X.prog X.w H s Q E r s') : match r with
    | .ok (.ret u) => EP X pins σ Q u s'
    | .ok _ => False
    | .error e => X.xe e s' := by
  cases r with
  | error e => exact hx pins σ H s e s' I hq
  | ok fl => cases fl with
    | ret u => exact I.after hq
    | next => exact hq
    | brk => exact hq
    | cont => exact hq
theorem fg_run {us : List Value} {vs : List V} (F : FnG X.prog X.w X.K X.mg X.base CX k f fd ps sp) (gd : X.A.guards = some []) (hr : Room k X.A) (hb : Binds X.K fd ps []) (hx : Passes CX X E)
    (I : Inv X pins σ H s) (r : Vals vs us) (h : sp vs H Q E) : wpAny (model X.prog X.w) X.A (call (.ref f) us) (EP X pins σ Q) X.xe s := by
  have n : us.length = ps.length := r.length ▸ F.len vs H Q E h
  have b := hb s us I.kIn (by rw [List.append_nil]; exact n)
  rw [List.append_nil] at b
  refine wpAny_call (codeAny_mono (F.run X.A X.stack s H ⟨us, []⟩ us vs Q E gd hr I.env0 b r h) fun res s' hq => ?_)
  have z := fg_end hx I hq
  cases res with
  | error e => exact z
  | ok fl => cases fl with
    | ret u => exact z
    | next => exact z.elim
    | brk => exact z.elim
    | cont => exact z.elim
def tC0 (sp : Sp) (E : XK) (t : TA) : TE := fun σ H Q => t σ H fun vs H1 => sp vs H1 Q E
theorem pe_fg (F : FnG X.prog X.w X.K X.mg X.base CX k f fd ps sp) (gd : X.A.guards = some []) (hr : Room k X.A) (hg : Gl X x) (hm : X.mg x = some (.ref f)) (hk : PySem.W.keepIn X.K (.ref f) = true) (hb : Binds X.K fd ps []) (hx : Passes CX X E)
    (ha : PA X (e :: es) t) (nd : (x == ("__debug__" : Str)) = false := by decide) (he : starEach (e :: es) X.env = (false, eval e X.env) :: starEach es X.env := by rfl) (pl : (backTo pos (starEach es X.env)).any (·.1) = false := by rfl) :
    PE X (.Call (.Name x p) (e :: es) [] pos) (tC0 sp E t) := ⟨fun pins s σ H Q I h =>
  wpAny_Call_Name_kw (ld_glob I hg hm (PySem.W.callWith_K (h₀ := X.base) I.ok.mod.kin hk
    (thn (ha.run pos pins s σ H _ I h) fun us s1 ⟨vs, H1, I1, r, q⟩ => ⟨I1.kIn, fg_run F gd hr hb hx I1 r q⟩) he pl) nd)⟩
theorem fg_runK {us ws : List Value} {vs zs : List V} {g : List Value → List Value → List Value} {gV : List V → List V → List V} (F : FnG X.prog X.w X.K X.mg X.base CX k f fd ps sp) (gd : X.A.guards = some []) (hr : Room k X.A) (hb : KBinds X.K fd ps ks g gV)
    (hx : Passes CX X E) (I : Inv X pins σ H s) (r : Vals vs us) (rz : Vals zs ws) (h : sp (gV vs zs) H Q E) : wpAny (model X.prog X.w) X.A (call (.ref f) us (ks.zip ws)) (EP X pins σ Q) X.xe s := by
  have rr := hb.rel r rz
  have n : (g us ws).length = ps.length := rr.length ▸ F.len _ H Q E h
  refine wpAny_call (codeAny_mono (F.run X.A X.stack s H ⟨us, ks.zip ws⟩ (g us ws) (gV vs zs) Q E gd hr I.env0 (hb.to s us ws I.kIn n) rr h) fun res s' hq => ?_)
  have z := fg_end hx I hq
  cases res with
  | error e => exact z
  | ok fl => cases fl with
    | ret u => exact z
    | next => exact z.elim
    | brk => exact z.elim
    | cont => exact z.elim
end
/-! a function by its data -/
/-- f's promise: what m tells of the data handed in -/
def spM (C : Ct) (m : List D → M O) : Sp := fun vs H Q E => ∃ g Hs s ds, Same Hs H ∧ GenAt g Hs H s ∧ Rps C.K g Hs vs ds ∧
  wp (m ds s) (fun o s' => ∀ v F Hs' H', Nx g Hs H Hs' H' s' → RO C.K g Hs' H' v o F → (∀ a ∈ F, H a = none) → Q v H') (XP C E g Hs H)
def startE (n : Nat) (ds : List D) : En := ds.map (fun d => Sl.ob (.sh d)) ++ List.replicate (n - ds.length) .un
/-- a body as a function of data -/
def mFun (k n : Nat) (body : En → M Fl) : List D → M O := fun ds s => if ds.length = k then bnd (body (startE n ds)) (fun f s => match f with
    | .nx _ => .ok (.sh .non) s
    | .rt o => .ok o s
    | _ => .bad) s
  else .bad
theorem start_sr {C : Ct} {g : Option Addr} {Hs H : Hp} {s : G3} {vs : List V} {ds : List D} {N : List Str} (hl : vs.length ≤ N.length) (sb : Same Hs H) (gn : GenAt g Hs H s) (r : Rps C.K g Hs vs ds) : SR C.K g Hs H (startE N.length ds) (L2.start N vs) Hs H s := by
  refine ⟨.refl sb gn, ?_, fun _ => [], fun i o e => ?_, fun _ _ _ m => (nomatch m), fun _ _ m => (nomatch m)⟩
  · unfold startE L2.start
    simp [r.len]
  · unfold startE at e
    unfold L2.start
    by_cases hi : i < ds.length
    · rw [List.getElem?_append_left (by simpa using hi), List.getElem?_map] at e
      cases q : ds[i]? with
      | none => rw [q] at e; cases e
      | some d =>
        rw [q] at e
        cases e
        obtain ⟨v, e1, e2⟩ := r.get q
        refine ⟨v, ?_, .sh e2⟩
        rw [List.getElem?_append_left (by rw [List.length_map, r.len]; exact hi), List.getElem?_map, e1]
        rfl
    · rw [List.getElem?_append_right (by simpa using hi), List.getElem?_replicate] at e
      split at e <;> cases e
section
variable {P : Program} {w : World} {K : PySem.W.Frag} {mg : Str → Option Value} {base : Heap}
/-- the rule for a function of the text -/
theorem fg_mk {CX : CXT} {C : Ct} {x qual : Str} {st : Stmt} {f : Addr} {fd : FuncData} {N ps : List Str} {k : Nat} {body : En → M Fl} (F : Fun K x qual st f fd) (S : FnScope N ps (defScope st)) (hps : ps.length ≤ N.length)
    (hbody : ∀ (cdv : Value) (A : Around) (outer : List Env) (s : Shared) (H : Hp) (E : XK), A.guards = some [] → Room k (A.deeper (envOfC qual (defScope st) s.heap.objs.size f cdv)) →
      SS (cxOf CX P w K mg base N qual (defScope st) f cdv A outer s H E) C E (defBody st) body) : FnG P w K mg base CX (k + 1) f fd ps (spM C (mFun ps.length N.length body)) := by
  obtain ⟨oc, od, kV, doc, pm, an, cdv, ct, osl, rfl, lk, hcd⟩ := F.ex
  have hlen : ∀ vs H Q E, spM C (mFun ps.length N.length body) vs H Q E → vs.length = ps.length := fun vs H Q E ⟨_, _, s, ds, _, _, rp, hw⟩ => by
    unfold mFun at hw
    split at hw
    · rename_i h; rw [rp.len]; exact h
    · exact hw.elim
  refine ⟨hlen, fun A outer s H args us vs Q E gd hr e0 hb rv hsp => ?_⟩
  have ln := hlen _ _ _ _ hsp
  obtain ⟨g, Hs, s3, ds, sb, gn, rp, hw⟩ := hsp
  unfold mFun at hw
  split at hw
  case isFalse => exact hw.elim
  have KX : K.In s.heap := e0.mod.kin.keeps fun b o q => (e0.bs b o q).1
  have lim : s.heap.NoLimit := e0.mod.nolimit.keeps fun b o q => (e0.bs b o q).1
  refine codeAny_call_function hr.depth (KX _ _ lk) rfl S.co S.gen rfl (PySem.W.codeRec_of KX hcd) (hb _ _ _ _ (wpAny_newFunctionEnv_cells S.kind (fun y hy => ?_) fun env he s1 x => ?_))
  · obtain ⟨n, v⟩ := y
    cases S.par n (List.of_mem_zip hy).1 with
    | inl q => exact .inl q
    | inr q => exact .inr ⟨q, PySem.W.cellsFrom_some _ _ _ (.inl q)⟩
  · subst he
    refine ⟨lim.keeps x.toInCall.keep, codeAny_func ?_⟩
    obtain ⟨t, ht, qt⟩ := hbody cdv A outer s H E gd (hr.deeper _)
    have I : Inv (cxOf CX P w K mg base N qual (defScope st) f cdv A outer s H E) [] (L2.start N vs) H s1 := inv_start S hr.hd e0 ln rv x
    have hq : t { nx := fun _ H' => Q .non H', rt := Q } (L2.start N vs) H := by
      refine qt g Hs H (startE N.length ds) (L2.start N vs) Hs H s3 _ (start_sr (by rw [ln]; exact hps) sb gn rp) (wp_mono (wp_bnd hw) (fun fl s4 w4 => ?_) fun _ _ _ z => z)
      cases fl with
      | nx r => exact fun σ' Hs' H' u R => w4 .non [] Hs' H' R.nx (.sh .non) fun _ m => nomatch m
      | rt o => exact w4
      | bk r => exact w4.elim
      | ct r => exact w4.elim
    refine wpAny_mono (ht.run [] s1 (L2.start N vs) H _ I hq) (fun fl s' hs => ?_) fun e s' hs => hs
    cases fl with
    | ret u =>
      obtain ⟨v, σ', H', J, rr, q⟩ := hs
      exact ⟨v, H', J.os, J.bare, J.base, J.hok, rr, q⟩
    | next =>
      obtain ⟨σ', H', J, q⟩ := hs
      exact ⟨.non, H', J.os, J.bare, J.base, J.hok, rfl, q⟩
    | brk => exact hs.choose_spec.choose_spec.2.elim
    | cont => exact hs.choose_spec.choose_spec.2.elim
end
/-! calls by data -/
mutual
/-- nothing of the heap is shared in it, but what is its own -/
def O.scal : O → Bool
  | .sh .non => true
  | .sh (.bl _) => true
  | .sh (.int _) => true
  | .sh (.str _) => true
  | .sh _ => false
  | .lst os => O.scals os
  | .tup os => O.scals os
def O.scals : List O → Bool
  | [] => true
  | o :: r => O.scal o && O.scals r
end
def O.allSh : List O → Bool
  | [] => true
  | .sh _ :: r => O.allSh r
  | _ :: _ => false
/-- f(..): what is owned may be handed on where what comes back has nothing of it -/
def callO (m : List D → M O) (os : List O) : M O := fun s => if O.allSh os = true then m (O.ds os) s else match m (O.ds os) s with
  | .ok o s' => if o.scal = true then .ok o s' else .bad
  | _ => .bad
def mCall (m : List D → M O) (ms : En → M (List O)) : En → M O := fun r => bnd (ms r) fun os s => callO m os s
section
variable {K : PySem.W.Frag} {g : Option Addr} {Hs H Hs' H' : Hp}
mutual
theorem RO.unshare (fr : ∀ a, H a = none → Hs a = none) {H0 : Hp} : ∀ {v : V} {o : O} {F : List Addr}, RO K g Hs' H v o F → o.scal = true → (∀ a ∈ F, H0 a = none) → (∀ a, H0 a = none → Hs a = none) → RO K g Hs H v o F
  | _, _, _, .sh h, e, _, _ => by
    cases h with
    | non => exact .sh .non
    | bl b => exact .sh (.bl b)
    | int i => exact .sh (.int i)
    | str z => exact .sh (.str z)
    | tup _ _ => cases e
    | lst _ _ _ => cases e
    | scr _ => cases e
    | gen _ => cases e
  | _, _, _, .lst h q z t w, e, f, k => .lst h (k _ (f _ (List.mem_cons_self ..))) z (ROs.unshare fr t e (fun a m => f a (List.mem_cons_of_mem _ m)) k) w
  | _, _, _, .tup h t, e, f, k => .tup h (ROs.unshare fr t e f k)
theorem ROs.unshare (fr : ∀ a, H a = none → Hs a = none) {H0 : Hp} : ∀ {vs : List V} {os : List O} {F : List Addr}, ROs K g Hs' H vs os F → O.scals os = true → (∀ a ∈ F, H0 a = none) → (∀ a, H0 a = none → Hs a = none) → ROs K g Hs H vs os F
  | _, _, _, .nil, _, _, _ => .nil
  | _, _, _, .cons h t w, e, f, k => by
    have e' : (O.scal _ && O.scals _) = true := e
    rw [Bool.and_eq_true] at e'
    exact .cons (RO.unshare fr h e'.1 (fun a m => f a (List.mem_append_left _ m)) k) (ROs.unshare fr t e'.2 (fun a m => f a (List.mem_append_right _ m)) k) w
end
theorem RBs.sh : ∀ {vs : List V} {os : List O}, RBs K g Hs H vs os → O.allSh os = true → Rps K g Hs vs (O.ds os)
  | _, _, .nil, _ => .nil
  | _, _, .cons (o := .sh d) (.sh h) t, e => .cons h (RBs.sh t e)
  | _, _, .cons (o := .lst _) _ _, e => nomatch e
  | _, _, .cons (o := .tup _) _ _, e => nomatch e
theorem RBs.own : ∀ {vs : List V} {os : List O}, RBs K g Hs H vs os → ∃ F : List Addr, ∀ a ∈ F, (∃ vs, H a = some (.lst vs)) ∧ Hs a = none ∧ g ≠ some a
  | _, _, .nil => ⟨[], fun _ m => nomatch m⟩
  | _, _, .cons (F := F) h t => by
    obtain ⟨F', f⟩ := RBs.own t
    exact ⟨F ++ F', fun a m => (List.mem_append.mp m).elim (h.own a) (f a)⟩
open Classical in
theorem RBs.frozen (sb : Same Hs H) : ∀ {vs : List V} {os : List O}, RBs K g Hs H vs os → ∃ A : List Addr, (∀ a ∈ A, (g ≠ some a) ∨ ∃ o, isMu o = false ∧ H a = some o) ∧ Rps K g (mix Hs H (fun a => a ∈ A)) vs (O.ds os)
  | _, _, .nil => ⟨[], fun _ m => (nomatch m), .nil⟩
  | _, _, .cons h t => by
    obtain ⟨A, hA, r⟩ := h.frozen sb
    obtain ⟨B, hB, q⟩ := RBs.frozen sb t
    refine ⟨A ++ B, fun b m => ?_, .cons (r.up (mix_more sb fun b m => List.mem_append_left _ m)) (q.up (mix_more sb fun b m => List.mem_append_right _ m))⟩
    rcases List.mem_append.mp m with m | m
    · exact (hA b m).imp (fun w => (h.own b w).2.2) id
    · exact hB b m
end
section
variable {X : Cx} {C : Ct} {E : XK} {x : Str} {p pos : Pos} {e : Expr} {es : List Expr}
open Classical in
/-- what a call does with data -/
theorem call_sim {m : List D → M O} {g : Option Addr} {Hs H : Hp} {s : G3} {vs : List V} {os : List O} {Q : VK} (nx : Nx g Hs H Hs H s) (r : RBs C.K g Hs H vs os)
    (w : wp (callO m os s) (fun o s' => ∀ v F Hs' H', Nx g Hs H Hs' H' s' → RO C.K g Hs' H' v o F → (∀ a ∈ F, H a = none) → Q v H') (XP C E g Hs H)) : spM C m vs H Q E := by
  unfold callO at w
  split at w
  · rename_i hs
    exact ⟨g, Hs, s, O.ds os, nx.sub, nx.gen, r.sh hs, w⟩
  · obtain ⟨A, hA, rp⟩ := r.frozen nx.sub
    have up : Same Hs (mix Hs H (fun a => a ∈ A)) := mix_up nx.sub
    have down : Same (mix Hs H (fun a => a ∈ A)) H := mix_sub nx.sub
    have gn : GenAt g (mix Hs H (fun a => a ∈ A)) H s := fun a ea => by
      have q := nx.gen a ea
      refine ⟨(mix_out fun m => ?_).trans q.1, q.2⟩
      rcases hA a m with z | ⟨u, z, z2⟩
      · exact z ea
      · rw [q.2] at z2; cases z2; cases z
    refine ⟨g, _, s, O.ds os, down, gn, rp, ?_⟩
    split at w
    · rename_i o s' eo
      rw [eo]
      split at w
      · rename_i hsc
        intro v F Hs' H' n ro fr
        have back : Nx g Hs H Hs H' s' := ⟨nx.sub, nx.gen0, Same.refl _, fun a o q => n.sub _ _ (n.up _ _ (up _ _ q)), fun a ea => ⟨(nx.gen a ea).1, (n.gen a ea).2⟩, fun a o m q z y => ⟨n.stay q y, z⟩, n.im⟩
        exact w v F Hs H' back (ro.unshare (fun a q => back.sub.free q) hsc fr fun a q => nx.sub.free q) fr
      · exact w.elim
    · exact w.elim
/-- what comes back is the caller's, and later than what was there -/
theorem eo_call {CX : CXT} {k : Nat} {f : Addr} {fd : FuncData} {ps : List Str} {m : List D → M O} {ms : En → M (List O)} (F : FnG X.prog X.w X.K X.mg X.base CX k f fd ps (spM C m)) (gd : X.A.guards = some []) (hr : Room k X.A) (hg : Gl X x) (hm : X.mg x = some (.ref f))
    (hk : PySem.W.keepIn X.K (.ref f) = true) (hb : Binds X.K fd ps []) (hx : Passes CX X E) (ha : AB X C E (e :: es) ms) (nd : (x == ("__debug__" : Str)) = false := by decide)
    (he : starEach (e :: es) X.env = (false, eval e X.env) :: starEach es X.env := by rfl) (pl : (backTo pos (starEach es X.env)).any (·.1) = false := by rfl) : EO X C E (.Call (.Name x p) (e :: es) [] pos) (mCall m ms) := by
  obtain ⟨t, pa, qa⟩ := ha
  refine ⟨_, pe_fg F gd hr hg hm hk hb hx pa nd he pl, fun g Hs0 H0 r σ Hs H s Q R w => ?_⟩
  refine qa g Hs0 H0 r σ Hs H s _ R (wp_mono (wp_bnd w) (fun os s1 w1 vs Hs1 H1 n1 r1 => ?_) fun _ _ _ z => z)
  exact call_sim n1.self r1 (wp_mono w1 (fun o s2 w2 v F Hs2 H2 n2 r2 f2 => w2 v F Hs2 H2 (n1.trans n2) r2 fun a m => n1.there (f2 a m)) fun _ _ _ z => z.later n1)
end
end Lone
namespace Lone
open PySem PySem.Spec PyProof.Rows L2
/-! ### a slot's own list changes -/
section
variable {K : PySem.W.Frag} {g : Option Addr} {Hs0 H0 Hs H : Hp} {r : En} {σ : L2.St} {s : G3} {F : Nat → List Addr} {p : Addr}
theorem sqT_upd {a : Addr} {xs zs ys : List V} (hp : H p = some (.lst zs)) (h : SqT K H a xs) : SqT K (upd H p (.lst ys)) a xs := by
  rcases h with (h | ⟨o, h⟩) | h
  · exact .inl (.inl (by rw [upd_ne (fun z => by subst z; rw [hp] at h; cases h)]; exact h))
  · exact .inl (.inr ⟨o, by rw [upd_ne (fun z => by subst z; rw [hp] at h; cases h)]; exact h⟩)
  · exact .inr h
mutual
theorem RO.upd {zs ys : List V} (hp : H p = some (.lst zs)) : ∀ {v : V} {o : O} {F : List Addr}, RO K g Hs H v o F → p ∉ F → RO K g Hs (L2.upd H p (.lst ys)) v o F
  | _, _, _, .sh h, _ => .sh h
  | _, _, _, .lst h q z t w, n => .lst (by rw [upd_ne (fun e => n (by rw [e]; exact List.mem_cons_self ..))]; exact h) q z (ROs.upd hp t fun m => n (List.mem_cons_of_mem _ m)) w
  | _, _, _, .tup h t, n => .tup (sqT_upd hp h) (ROs.upd hp t n)
theorem ROs.upd {zs ys : List V} (hp : H p = some (.lst zs)) : ∀ {vs : List V} {os : List O} {F : List Addr}, ROs K g Hs H vs os F → p ∉ F → ROs K g Hs (L2.upd H p (.lst ys)) vs os F
  | _, _, _, .nil, _ => .nil
  | _, _, _, .cons h t w, n => .cons (RO.upd hp h fun m => n (List.mem_append_left _ m)) (ROs.upd hp t fun m => n (List.mem_append_right _ m)) w
end
theorem SRF.mut {i : Nat} {os os' : List O} {vs vs' : List V} {F' F'' : List Addr} (h : SRF K g Hs0 H0 r σ Hs H s F) (ei : r[i]? = some (.ob (.lst os))) (es : σ[i]? = some (some (.ref p))) (hp : H p = some (.lst vs)) (hq : Hs p = none) (ng : g ≠ some p)
    (hF : F i = p :: F') (pn : p ∉ F') (ro : ROs K g Hs H vs' os' F'') (sub : ∀ a ∈ F'', a ∈ F') :
    SRF K g Hs0 H0 (r.set i (.ob (.lst os'))) σ Hs (L2.upd H p (.lst vs')) s (fun j => if j = i then p :: F'' else F j) := by
  have nw0 := (h.nw i p (hF ▸ List.mem_cons_self ..)).1
  have pn' : p ∉ F'' := fun m => pn (sub p m)
  refine ⟨h.nx.write nw0 hq ng, by rw [List.length_set]; exact h.len, fun j u e => ?_, fun j k a m1 m2 => ?_, fun j a m => ?_⟩
  · show ∃ v, σ[j]? = some (some v) ∧ RO K g Hs (L2.upd H p (.lst vs')) v u (if j = i then p :: F'' else F j)
    by_cases z : j = i
    · subst z
      rw [if_pos rfl]
      have hl : j < r.length := by
        obtain ⟨hl, _⟩ := List.getElem?_eq_some_iff.mp ei
        exact hl
      rw [List.getElem?_set_self hl] at e
      cases e
      exact ⟨_, es, .lst upd_same hq ng (ro.upd hp pn') pn'⟩
    · rw [if_neg z]
      rw [List.getElem?_set_ne (Ne.symm z)] at e
      obtain ⟨v, e1, e2⟩ := h.at_ j u e
      exact ⟨v, e1, e2.upd hp fun m => z (h.di j i p m (hF ▸ List.mem_cons_self ..))⟩
  · replace m1 : a ∈ (if j = i then p :: F'' else F j) := m1
    replace m2 : a ∈ (if k = i then p :: F'' else F k) := m2
    have old : a ∈ p :: F'' → a ∈ F i := fun m => by
      rw [hF]
      rcases List.mem_cons.mp m with e | m
      · exact e ▸ List.mem_cons_self ..
      · exact List.mem_cons_of_mem _ (sub a m)
    split at m1 <;> split at m2
    · rename_i e1 e2; rw [e1, e2]
    · rename_i e1 e2; exact (e2 (h.di _ _ _ m2 (old m1))).elim
    · rename_i e1 e2; exact (e1 (h.di _ _ _ m1 (old m2))).elim
    · exact h.di _ _ _ m1 m2
  · replace m : a ∈ (if j = i then p :: F'' else F j) := m
    have tr : ∀ k, a ∈ F k → H0 a = none ∧ ∃ u, L2.upd H p (.lst vs') a = some u := fun k m => by
      obtain ⟨e1, u, e2⟩ := h.nw k a m
      refine ⟨e1, ?_⟩
      by_cases z : a = p
      · subst z; exact ⟨_, upd_same⟩
      · exact ⟨u, by rw [upd_ne z]; exact e2⟩
    split at m
    · refine tr i ?_
      rw [hF]
      rcases List.mem_cons.mp m with e | m
      · exact e ▸ List.mem_cons_self ..
      · exact List.mem_cons_of_mem _ (sub a m)
    · exact tr j m
/-- a slot's own list, opened -/
theorem SRF.own {i : Nat} {os : List O} (h : SRF K g Hs0 H0 r σ Hs H s F) (ei : r[i]? = some (.ob (.lst os))) : ∃ p vs F', σ[i]? = some (some (.ref p)) ∧ H p = some (.lst vs) ∧ Hs p = none ∧ g ≠ some p ∧ F i = p :: F' ∧ p ∉ F' ∧ ROs K g Hs H vs os F' := by
  obtain ⟨v, e1, e2⟩ := h.at_ i _ ei
  generalize hF : F i = Fi at e2
  cases e2 with
  | lst h1 h2 h3 h4 h5 => exact ⟨_, _, _, e1, h1, h2, h3, rfl, h5, h4⟩
theorem ROs.app : ∀ {vs ws : List V} {os us : List O} {F F2 : List Addr}, ROs K g Hs H vs os F → ROs K g Hs H ws us F2 → (∀ a ∈ F, a ∉ F2) → ∃ F3, ROs K g Hs H (vs ++ ws) (os ++ us) F3 ∧ ∀ a, a ∈ F3 ↔ a ∈ F ∨ a ∈ F2
  | _, _, _, _, _, _, .nil, t, _ => ⟨_, t, fun a => by simp⟩
  | _, _, _, _, _, _, .cons (F := Fa) (F' := Fb) h t w, t2, d => by
    obtain ⟨F3, r3, f3⟩ := ROs.app t t2 fun a m => d a (List.mem_append_right _ m)
    refine ⟨Fa ++ F3, .cons h r3 fun a m m3 => ?_, fun a => by simp [f3, or_assoc]⟩
    rcases (f3 a).mp m3 with m3 | m3
    · exact w a m m3
    · exact d a (List.mem_append_left _ m) m3
theorem ROs.set {x : V} {d : D} (hx : Rp K g Hs x d) : ∀ {vs : List V} {os : List O} {F : List Addr} (j : Nat), ROs K g Hs H vs os F → ∃ F2, ROs K g Hs H (vs.set j x) (os.set j (.sh d)) F2 ∧ ∀ a ∈ F2, a ∈ F
  | _, _, _, _, .nil => ⟨[], .nil, fun _ m => m⟩
  | _, _, _, 0, .cons _ t _ => ⟨_, .cons (.sh hx) t (fun _ m => nomatch m), fun a m => List.mem_append_right _ (by simpa using m)⟩
  | _, _, _, j + 1, .cons (F := Fa) h t w => by
    obtain ⟨F2, r2, f2⟩ := ROs.set hx j t
    exact ⟨Fa ++ F2, .cons h r2 fun a m m2 => w a m (f2 a m2), fun a m => (List.mem_append.mp m).elim (List.mem_append_left _) fun m => List.mem_append_right _ (f2 a m)⟩
theorem ROs.split (n : Nat) : ∀ {vs : List V} {os : List O} {F : List Addr}, ROs K g Hs H vs os F → ∃ F1 F2, ROs K g Hs H (vs.take n) (os.take n) F1 ∧ ROs K g Hs H (vs.drop n) (os.drop n) F2 ∧ (∀ a ∈ F1, a ∈ F ∧ a ∉ F2) ∧ ∀ a ∈ F2, a ∈ F := by
  induction n with
  | zero => intro vs os F h; exact ⟨[], F, .nil, h, fun _ m => (nomatch m), fun _ m => m⟩
  | succ n ih =>
    intro vs os F h
    cases h with
    | nil => exact ⟨[], [], .nil, .nil, fun _ m => (nomatch m), fun _ m => m⟩
    | cons h t w =>
      rename_i Fa Fb
      obtain ⟨F1, F2, r1, r2, f1, f2⟩ := ih t
      refine ⟨Fa ++ F1, F2, .cons h r1 fun a m m1 => w a m (f1 a m1).1, r2, fun a m => ?_, fun a m => List.mem_append_right _ (f2 a m)⟩
      rcases List.mem_append.mp m with m | m
      · exact ⟨List.mem_append_left _ m, fun m2 => w a m (f2 a m2)⟩
      · exact ⟨List.mem_append_right _ (f1 a m).1, (f1 a m).2⟩
end
section
variable {X : Cx} {C : Ct} {E : XK} {e ei : Expr} {es : List Expr} {pos : Pos}
/-- x.append(e) -/
def mApp (i : Nat) (m : En → M O) : En → M Fl := fun r s => match r[i]? with
  | some (.ob (.lst os)) => bnd (m r) (fun o s => if os.length < lineN then .ok (.nx (r.set i (.ob (.lst (os ++ [.sh o.d]))))) s else .bad) s
  | _ => .bad
theorem st_app {i : Nat} {x : Str} {px apos cpos : Pos} {m : En → M O} (hk : X.K = C.K) (hv : PE X (.Name x px) (tVar i)) (h : EO X C E e m) (hbase : attributeBase (.Name x px) "append" X.env (eval (.Name x px) X.env) = eval (.Name x px) X.env := by rfl)
    (hfew : ((backTo cpos (starEach [e] X.env)).all (fun x => !x.1) && (backToKw cpos (keywordEach [] X.env)).all (fun x => x.1.isSome) && decide ([e].length + ([] : List Keyword).length + (if ([] : List Keyword).isEmpty then 0 else 1) < 30)) = true := by rfl)
    (hline : (apos.endLine == cpos.line) = true := by rfl) (hst : starEach [e] X.env = (false, eval e X.env) :: starEach [] X.env := by rfl) (hplain : (backTo cpos (starEach [] X.env)).any (·.1) = false := by rfl)
    (hsw : swapsWith (.Call (.Attribute (.Name x px) "append" apos) [e] [] cpos) none pos.line X.env = pure false := by rfl) :
    ST X C E (.Expr (.Call (.Attribute (.Name x px) "append" apos) [e] [] cpos) pos) (mApp i m) := by
  obtain ⟨t, pe, q⟩ := h
  refine ⟨_, ps_expr (pe_bm PySem.F.plainAttrs_list PySem.F.slot_list_append PySem.F.type_list_append mt_append hv (pa_cons pe pa_nil hst) hbase hfew hline hst hplain) hsw, fun g Hs0 H0 r σ Hs H s D R w => ?_⟩
  dsimp only [mApp] at w
  split at w
  · rename_i os eo
    obtain ⟨F, RF⟩ := R.srf
    obtain ⟨p, vs, F', e1, e2, _⟩ := RF.own eo
    refine ⟨_, e1, .inl ⟨rfl, _, SqL.of e2⟩, ?_⟩
    refine q g Hs0 H0 r σ Hs H s _ R (wp_mono (wp_bnd w) (fun o s1 w1 v Fv Hs1 H1 n1 r1 f1 => ?_) fun _ _ _ z => z.later R.nx)
    split at w1
    · rename_i hl
      have RF1 := RF.next n1
      obtain ⟨Hs2, gr, RF2, rp⟩ := RF1.share r1 (fun j a m m0 => by
        obtain ⟨_, u, eu⟩ := RF.nw j a m
        rw [f1 a m0] at eu; cases eu) fun a m => R.nx.there (f1 a m)
      obtain ⟨p', vs', F'', a1, a2, a3, a4, a5, a6, a7⟩ := RF2.own eo
      rw [e1] at a1; cases a1
      have e2' := n1.stay e2 a4
      rw [a2] at e2'; cases e2'
      obtain ⟨F3, r3, f3⟩ := a7.app (.cons (.sh rp) .nil fun _ m => nomatch m) (fun a _ m => by simp at m)
      refine ⟨p, vs, v, rfl, rfl, a2, ?_, ?_⟩
      · rw [a7.len, ← lineN_eq]; exact hl
      · refine w1 σ Hs2 _ (n1.up.trans gr.1) (RF2.mut eo e1 a2 a3 a4 a5 a6 r3 fun a m => ?_).sr
        rcases (f3 a).mp m with m | m
        · exact m
        · simp at m
    · exact w1.elim
  · exact w.elim
/-- x.insert(i, e) -/
def mIns (i : Nat) (mi m : En → M O) : En → M Fl := fun r s => match r[i]? with
  | some (.ob (.lst os)) => bnd (mi r) (fun k => bnd (m r) (fun o s => match k.int? with
    | some k => if os.length < lineN ∧ 0 ≤ k ∧ k < 4611686018427387904 then .ok (.nx (r.set i (.ob (.lst (os.take k.toNat ++ [.sh o.d] ++ os.drop k.toNat))))) s else .bad
    | none => .bad)) s
  | _ => .bad
theorem st_ins {i : Nat} {x : Str} {px apos cpos : Pos} {mi m : En → M O} (hk : X.K = C.K) (hv : PE X (.Name x px) (tVar i)) (hi : EB X C E ei mi) (h : EO X C E e m) (hbase : attributeBase (.Name x px) "insert" X.env (eval (.Name x px) X.env) = eval (.Name x px) X.env := by rfl)
    (hfew : ((backTo cpos (starEach [ei, e] X.env)).all (fun x => !x.1) && (backToKw cpos (keywordEach [] X.env)).all (fun x => x.1.isSome) && decide ([ei, e].length + ([] : List Keyword).length + (if ([] : List Keyword).isEmpty then 0 else 1) < 30)) = true := by rfl)
    (hline : (apos.endLine == cpos.line) = true := by rfl) (hst : starEach [ei, e] X.env = (false, eval ei X.env) :: starEach [e] X.env := by rfl) (hst2 : starEach [e] X.env = (false, eval e X.env) :: starEach [] X.env := by rfl) (hplain : (backTo cpos (starEach [e] X.env)).any (·.1) = false := by rfl)
    (hsw : swapsWith (.Call (.Attribute (.Name x px) "insert" apos) [ei, e] [] cpos) none pos.line X.env = pure false := by rfl) :
    ST X C E (.Expr (.Call (.Attribute (.Name x px) "insert" apos) [ei, e] [] cpos) pos) (mIns i mi m) := by
  obtain ⟨ti, pei, qi⟩ := hi
  obtain ⟨t, pe, q⟩ := h
  refine ⟨_, ps_expr (pe_bm PySem.F.plainAttrs_list PySem.F.slot_list_insert PySem.F.type_list_insert mt_insert hv (pa_cons pei (pa_cons pe pa_nil hst2) hst) hbase hfew hline hst hplain) hsw, fun g Hs0 H0 r σ Hs H s D R w => ?_⟩
  dsimp only [mIns] at w
  split at w
  · rename_i os eo
    obtain ⟨F, RF⟩ := R.srf
    obtain ⟨p, vs, F', e1, e2, _⟩ := RF.own eo
    refine ⟨_, e1, .inl ⟨rfl, _, SqL.of e2⟩, ?_⟩
    refine qi g Hs0 H0 r σ Hs H s _ R (wp_mono (wp_bnd w) (fun ko s0 w0 kv Fk HsA HA nA rA => ?_) fun _ _ _ z => z.later R.nx)
    refine q g Hs0 H0 r σ HsA HA s0 _ (R.next nA) (wp_mono (wp_bnd w0) (fun o s1 w1 v Fv Hs1 H1 n1' r1 f1' => ?_) fun _ _ _ z => z.later (R.next nA).nx)
    have n1 := nA.trans n1'
    have f1 : ∀ a ∈ Fv, H a = none := fun a m => nA.there (f1' a m)
    split at w1
    · rename_i k ek
      split at w1
      · rename_i hl
        have RF1 := RF.next n1
        obtain ⟨Hs2, gr, RF2, rp⟩ := RF1.share r1 (fun j a m m0 => by
          obtain ⟨_, u, eu⟩ := RF.nw j a m
          rw [f1 a m0] at eu; cases eu) fun a m => R.nx.there (f1 a m)
        obtain ⟨p', vs', F'', a1, a2, a3, a4, a5, a6, a7⟩ := RF2.own eo
        rw [e1] at a1; cases a1
        have e2' := n1.stay e2 a4
        rw [a2] at e2'; cases e2'
        obtain ⟨Fa, Fb, r3, r4, f3, f4⟩ := a7.split k.toNat
        obtain ⟨Fc, r5, f5⟩ := r3.app (.cons (.sh rp) .nil fun _ m => nomatch m) (fun a _ m => by simp at m)
        obtain ⟨Fd, r6, f6⟩ := r5.app r4 (fun a m m2 => by
          rcases (f5 a).mp m with m | m
          · exact (f3 a m).2 m2
          · simp at m)
        refine ⟨p, vs, k, v, rfl, ?_, a2, ?_, hl.2.1, by omega, ?_⟩
        · rw [rA.int ek]
        · rw [a7.len, ← lineN_eq]; exact hl.1
        · refine w1 σ Hs2 _ (n1.up.trans gr.1) (RF2.mut eo e1 a2 a3 a4 a5 a6 r6 fun a m => ?_).sr
          rcases (f6 a).mp m with m | m
          · rcases (f5 a).mp m with m | m
            · exact (f3 a m).1
            · simp at m
          · exact f4 a m
      · exact w1.elim
    · exact w1.elim
  · exact w.elim
/-- x[k] = e, x a slot's own list or the drawing object -/
def setIx (i : Nat) (r : En) (o k : O) : M Fl := fun s => match k.int? with
  | some k => match r[i]? with
    | some (.ob (.lst os)) => match ixN os.length k with
      | some j => .ok (.nx (r.set i (.ob (.lst (os.set j (.sh o.d)))))) s
      | none => .bad
    | some (.ob (.sh .gen)) => match o.int? with
      | some z => if k = 0 then .ok (.nx r) ⟨z, s.b, s.c⟩ else if k = 2 then .ok (.nx r) ⟨s.a, s.b, z⟩ else .bad
      | none => .bad
    | _ => .bad
  | none => .bad
def mSetIx (i : Nat) (m mi : En → M O) : En → M Fl := fun r s => match r[i]? with
  | some (.ob _) => bnd (m r) (fun o => bnd (mi r) fun k s => setIx i r o k s) s
  | _ => .bad
theorem SRF.gen {K : PySem.W.Frag} {g : Option Addr} {Hs0 H0 Hs H : Hp} {r : En} {σ : L2.St} {s s' : G3} {F : Nat → List Addr} {p : Addr} (h : SRF K g Hs0 H0 r σ Hs H s F) (eg : g = some p) :
    SRF K g Hs0 H0 r σ Hs (L2.upd H p (.lst [.int s'.a, .int s'.b, .int s'.c])) s' F := by
  have hp := h.nx.gen p eg
  have ne : ∀ a, Hs a ≠ none → a ≠ p := fun a q z => q (z ▸ hp.1)
  refine ⟨⟨h.nx.sub0, h.nx.gen0, h.nx.up, fun a u e => ?_, fun a e => ?_, fun a o m e z y => ?_, fun a o m e => ?_⟩, h.len, fun i o e => ?_, h.di, fun i a m => ?_⟩
  · rw [upd_ne (ne a (by rw [e]; exact nofun))]; exact h.nx.sub _ _ e
  · rw [eg] at e; cases e; exact ⟨hp.1, upd_same⟩
  · rw [upd_ne (fun w => y (by rw [w]; exact eg))]; exact h.nx.fr a o m e z y
  · have q := h.nx.im a o m e
    rw [upd_ne (fun w => by subst w; rw [hp.2] at q; cases q; cases m)]; exact q
  · obtain ⟨v, e1, e2⟩ := h.at_ i o e
    exact ⟨v, e1, e2.upd hp.2 fun m => (e2.own p m).2.2 eg⟩
  · obtain ⟨e1, u, e2⟩ := h.nw i a m
    refine ⟨e1, ?_⟩
    by_cases z : a = p
    · subst z; exact ⟨_, upd_same⟩
    · exact ⟨u, by rw [upd_ne z]; exact e2⟩
theorem st_setix {i : Nat} {x : Str} {px tpos : Pos} {m mi : En → M O} (hv : PE X (.Name x px) (tVar i)) (h : EO X C E e m) (hi : EB X C E ei mi) (pg : ∀ ti, PE X ei ti → PG X (.Subscript (.Name x px) ei tpos) (gSub (tVar i) ti rSetL))
    (hs : swapsWithSole [.Subscript (.Name x px) ei tpos] e pos.line X.env = pure false := by rfl) (hw : swappedStores [.Subscript (.Name x px) ei tpos] e X.env = pure none := by rfl) (h1 : (assignEach [.Subscript (.Name x px) ei tpos] X.env).map (·.2) = [assign (.Subscript (.Name x px) ei tpos) X.env] := by rfl) :
    ST X C E (.Assign [.Subscript (.Name x px) ei tpos] e pos) (mSetIx i m mi) := by
  obtain ⟨t, pe, q⟩ := h
  obtain ⟨ti, pi, qi⟩ := hi
  refine ⟨_, ps_asg pe (pg ti pi) hs hw h1, fun g Hs0 H0 r σ Hs H s D R w => ?_⟩
  dsimp only [mSetIx] at w
  split at w
  case h_2 => exact w.elim
  rename_i o0 eo0
  obtain ⟨x0, _, ex0, _⟩ := R.at eo0
  refine q g Hs0 H0 r σ Hs H s _ R (wp_mono (wp_bnd w) (fun o s1 w1 v Fv Hs1 H1 n1 r1 f1 => ?_) fun _ _ _ z => z.later R.nx)
  obtain ⟨F, RF⟩ := R.srf
  obtain ⟨Hs2, gr, RF2, rp⟩ := (RF.next n1).share r1 (fun j a m m0 => by
    obtain ⟨_, u, eu⟩ := RF.nw j a m
    rw [f1 a m0] at eu; cases eu) fun a m => R.nx.there (f1 a m)
  refine ⟨x0, ex0, ?_⟩
  refine qi g Hs0 H0 r σ Hs2 H1 s1 _ RF2.sr (wp_mono (wp_bnd w1) (fun k s2 w2 kv Fk Hs3 H3 n3 r3 => ?_) fun _ _ _ z => z.later RF2.nx)
  have RF3 := RF2.next n3
  unfold setIx at w2
  split at w2
  · rename_i ki ek
    split at w2
    · rename_i os eo
      split at w2
      · rename_i j ej
        obtain ⟨p, vs, F', a1, a2, a3, a4, a5, a6, a7⟩ := RF3.own eo
        rw [ex0] at a1; cases a1
        obtain ⟨F2, r2, f2⟩ := a7.set (rp.up n3.up) j
        refine ⟨p, vs, ki, j, rfl, r3.int ek, a2, by rw [a7.len]; exact ej, ?_⟩
        exact w2 σ Hs3 _ ((n1.up.trans gr.1).trans n3.up) (RF3.mut eo ex0 a2 a3 a4 a5 a6 r2 f2).sr
      · exact w2.elim
    · rename_i eo
      split at w2
      · rename_i z ez
        obtain ⟨v', e1, e2⟩ := RF3.at_ i _ eo
        rw [ex0] at e1; cases e1
        generalize F i = Fi at e2
        cases e2 with
        | sh e2 => cases e2 with
          | gen eg =>
            have hp := RF3.nx.gen _ eg
            have zv := r1.int ez
            subst zv
            split at w2
            · rename_i hk
              subst hk
              exact ⟨_, _, 0, 0, rfl, r3.int ek, hp.2, rfl, w2 σ Hs3 _ ((n1.up.trans gr.1).trans n3.up) (RF3.gen (s' := ⟨z, s2.b, s2.c⟩) eg).sr⟩
            · split at w2
              · rename_i hk
                subst hk
                exact ⟨_, _, 2, 2, rfl, r3.int ek, hp.2, rfl, w2 σ Hs3 _ ((n1.up.trans gr.1).trans n3.up) (RF3.gen (s' := ⟨s2.a, s2.b, z⟩) eg).sr⟩
              · exact w2.elim
      · exact w2.elim
    · exact w2.elim
  · exact w2.elim
end
end Lone
namespace Lone
open PySem PySem.Spec PyProof.Rows L2
/-! ### isinstance -/
inductive Ty where
  | N | B | I | S | L | T | M
def Ty.name : Ty → String
  | .N => "NoneType" | .B => "bool" | .I => "int" | .S => "str" | .L => "list" | .T => "tuple" | .M => "dict"
def Ty.is : Ty → Ty → Bool
  | .N, .N => true | .B, .B => true | .B, .I => true | .I, .I => true | .S, .S => true | .L, .L => true | .T, .T => true | .M, .M => true
  | _, _ => false
def D.ty : D → Option Ty
  | .non => some .N
  | .bl _ => some .B
  | .int _ => some .I
  | .str _ => some .S
  | .lst _ => some .L
  | .tup _ => some .T
  | _ => none
theorem Ty.kit (a b : Ty) : kitB a.name b.name = some (Ty.is a b) := by cases a <;> cases b <;> decide +kernel
theorem sqT_ty {K : PySem.W.Frag} {H : Hp} {a : Addr} {xs : List V} (h : SqT K H a xs) : TyX K H (.ref a) (.type "tuple") := by
  rcases h with (h | ⟨o, h⟩) | ⟨o, its, n, h, hc, _⟩
  · exact .base (.tup h)
  · exact .fTuple h
  · exact .kTuple h hc
theorem Rp.tyx {K : PySem.W.Frag} {g : Option Addr} {H : Hp} {v : V} {d : D} {t : Ty} (r : Rp K g H v d) (e : d.ty = some t) : TyX K H v (.type t.name) := by
  cases r with
  | non => cases e; exact .base .non
  | bl b => cases e; exact .base (.bl b)
  | int i => cases e; exact .base (.int i)
  | str s => cases e; exact .base (.str _)
  | tup h _ => cases e; exact sqT_ty h
  | lst h _ _ => cases e; exact .base (.lst h)
  | scr _ => cases e
  | gen _ => cases e
def mIsi (T : Ty) (m : En → M O) : En → M O := fun r => bnd (m r) fun o s => match o.d.ty with
  | some t => .ok (bO (Ty.is t T)) s
  | none => .bad
section
variable {X : Cx} {C : Ct} {E : XK} {e : Expr} {es : List Expr} {pos p p2 : Pos}
theorem eo_isi (T : Ty) {x : Str} {m : En → M O} (hk : X.K = C.K) (hg : Gl X "isinstance") (hm : X.mg "isinstance" = none) (hg2 : Gl X x) (hm2 : X.mg x = none) (hv : bootBuiltins x = some (.type T.name)) (h : EB X C E e m) (hn : x ≠ "__name__" := by decide) (hdb : (x == ("__debug__" : Str)) = false := by decide)
    (he : starEach [e, .Name x p2] X.env = (false, eval e X.env) :: starEach [.Name x p2] X.env := by rfl) (he2 : starEach [.Name x p2] X.env = (false, eval (.Name x p2) X.env) :: starEach [] X.env := by rfl) (hpl : (backTo pos (starEach [.Name x p2] X.env)).any (·.1) = false := by rfl) :
    EO X C E (.Call (.Name "isinstance" p) [e, .Name x p2] [] pos) (mIsi T m) := by
  obtain ⟨t, pe, q⟩ := h
  refine ⟨_, pe_callB call_isi hg hm boot_isinstance (pa_cons pe (pa_cons (pe_bltn (v := .ty T.name) hg2 hm2 hv rfl hn hdb) pa_nil he2) he) (by decide) (by decide) he hpl, fun g Hs0 H0 r σ Hs H s Q R w => ?_⟩
  refine q g Hs0 H0 r σ Hs H s _ R (wp_mono (wp_bnd w) (fun o s1 w1 v F Hs1 H1 n1 r1 => ?_) fun _ _ _ z => z)
  split at w1
  · rename_i t et
    exact ⟨v, .ty T.name, .type t.name, .type T.name, _, rfl, .ty _, hk ▸ (r1.read n1.sub).tyx et, kit_ty (Ty.kit t T), w1 _ [] Hs1 H1 n1 (.sh (.bl _)) fun _ m => nomatch m⟩
  · exact w1.elim
/-! ### bit_length -/
def bitsOf (i : Int) : Int := if i = 0 then 0 else ((i.natAbs.log2 + 1 : Nat) : Int)
def mBits (m : En → M O) : En → M O := fun r => bnd (m r) fun o s => match o.int? with
  | some i => .ok (iO (bitsOf i)) s
  | none => .bad
theorem eo_bits {apos : Pos} {m : En → M O} (h : EB X C E e m) (hbase : attributeBase e "bit_length" X.env (eval e X.env) = eval e X.env := by rfl) (hline : (apos.endLine == pos.line) = true := by rfl) : EO X C E (.Call (.Attribute e "bit_length" apos) [] [] pos) (mBits m) := by
  obtain ⟨t, pe, q⟩ := h
  refine ⟨_, pe_bits pe hbase hline, fun g Hs0 H0 r σ Hs H s Q R w => ?_⟩
  refine q g Hs0 H0 r σ Hs H s _ R (wp_mono (wp_bnd w) (fun o s1 w1 v F Hs1 H1 n1 r1 => ?_) fun _ _ _ z => z)
  split at w1
  · rename_i i ei
    refine ⟨i, r1.int ei, ?_⟩
    have : ((Builtin.Int.intBits i : Nat) : Int) = bitsOf i := by
      unfold Builtin.Int.intBits bitsOf
      by_cases hi : i = 0
      · subst hi; rfl
      · rw [if_neg (by simpa using hi), if_neg hi]
    rw [this]
    exact w1 _ [] Hs1 H1 n1 (.sh (.int _)) fun _ m => nomatch m
  · exact w1.elim
/-! ### calls with names -/
def permL {α : Type} (π : List Nat) (l : List α) : List α := π.filterMap fun j => l[j]?
/-- how a call with names alone binds -/
structure KB (K : PySem.W.Frag) (fd : FuncData) (ps ks : List Str) (π : List Nat) : Prop where
  to : ∀ (s : Shared) (ws : List Value), K.In s.heap → ws.length = ks.length → BindsTo s fd ⟨[], ks.zip ws⟩ (ps.zip (permL π ws))
theorem permL_vals {π : List Nat} {vs : List V} {us : List Value} (r : Vals vs us) : Vals (permL π vs) (permL π us) := by
  unfold permL
  induction π with
  | nil => exact .nil
  | cons j π ih =>
    rw [List.filterMap_cons, List.filterMap_cons]
    cases q : vs[j]? with
    | none => rw [r.none_of q]; exact ih
    | some v =>
      obtain ⟨u, e1, e2⟩ := r.get q
      rw [e1]
      exact .cons e2 ih
def PKs (X : Cx) (C : Ct) (E : XK) (kws : List Keyword) (m : En → M (List O)) : Prop := ∃ t, PK X kws t ∧ SimAB C E t m
theorem pks_nil : PKs X C E [] mNil := ⟨_, pk_nil, fun g Hs0 H0 r σ Hs H s Q R w => w [] Hs H R.start .nil⟩
theorem pks_cons {nm : Option Str} {kp : Pos} {kws : List Keyword} {m : En → M O} {ms : En → M (List O)} (h : EB X C E e m) (hs : PKs X C E kws ms) : PKs X C E (⟨nm, e, kp⟩ :: kws) (mCons m ms) := by
  obtain ⟨t, p, q⟩ := h
  obtain ⟨ts, ps, qs⟩ := hs
  refine ⟨_, pk_cons p ps, fun g Hs0 H0 r σ Hs H s Q R w => ?_⟩
  refine q g Hs0 H0 r σ Hs H s _ R (wp_mono (wp_bnd w) (fun o s1 w1 v F Hs1 H1 n1 r1 => ?_) fun _ _ _ x => x)
  refine qs g Hs0 H0 r σ Hs1 H1 s1 _ (R.next n1) (wp_mono (wp_bnd w1) (fun os s2 w2 vs Hs2 H2 n2 r2 => ?_) fun _ _ _ x => x.later n1)
  exact w2 (v :: vs) Hs2 H2 (n1.trans n2) (.cons (r1.next n2) r2)
def mCallK (m : List D → M O) (n : Nat) (π : List Nat) (ms : En → M (List O)) : En → M O := fun r => bnd (ms r) fun os s => if os.length = n then callO m (permL π os) s else .bad
theorem permL_rbs {K : PySem.W.Frag} {g : Option Addr} {Hs H : Hp} {π : List Nat} {vs : List V} {os : List O} (r : RBs K g Hs H vs os) : RBs K g Hs H (permL π vs) (permL π os) := by
  have get : ∀ {vs : List V} {os : List O} (j : Nat), RBs K g Hs H vs os → (vs[j]? = none ∧ os[j]? = none) ∨ ∃ v o F, vs[j]? = some v ∧ os[j]? = some o ∧ RO K g Hs H v o F := by
    intro vs os j h
    induction h generalizing j with
    | nil => exact .inl ⟨rfl, rfl⟩
    | cons h t ih =>
      cases j with
      | zero => exact .inr ⟨_, _, _, rfl, rfl, h⟩
      | succ j => simpa using ih j
  unfold permL
  induction π with
  | nil => exact .nil
  | cons j π ih =>
    rw [List.filterMap_cons, List.filterMap_cons]
    rcases get j r with ⟨e1, e2⟩ | ⟨v, o, F, e1, e2, h⟩
    · rw [e1, e2]; exact ih
    · rw [e1, e2]; exact .cons h ih
theorem eo_callK {CX : CXT} {k : Nat} {x : Str} {f : Addr} {fd : FuncData} {ps ks : List Str} {π : List Nat} {n : Nat} {kws : List Keyword} {m : List D → M O} {ms : En → M (List O)} (F : FnG X.prog X.w X.K X.mg X.base CX k f fd ps (spM C m)) (gd : X.A.guards = some []) (hr : Room k X.A) (hg : Gl X x) (hm : X.mg x = some (.ref f))
    (hk : PySem.W.keepIn X.K (.ref f) = true) (hb : KB X.K fd ps ks π) (hx : Passes CX X E) (ha : PKs X C E kws ms) (hkl : ks.length = n := by rfl) (nd : (x == ("__debug__" : Str)) = false := by decide)
    (hall : (backToKw pos (keywordEach kws X.env)).all (·.1.isSome) = true := by rfl) (hks : (backToKw pos (keywordEach kws X.env)).filterMap (·.1) = ks := by rfl)
    (hpl : ((backTo pos (starEach [] X.env)).any (·.1) || (backToKw pos (keywordEach kws X.env)).any (·.1.isNone)) = false := by rfl) : EO X C E (.Call (.Name x p) [] kws pos) (mCallK m n π ms) := by
  obtain ⟨t, pa, qa⟩ := ha
  refine ⟨fun σ H Q => t σ H fun zs H1 => zs.length = n ∧ spM C m (permL π zs) H1 Q E, ⟨fun pins s σ H Q I h => ?_⟩, fun g Hs0 H0 r σ Hs H s Q R w => ?_⟩
  · refine wpAny_Call_Name_kw (ld_glob I hg hm ?_ nd)
    refine PySem.W.callWith_KW0 (h₀ := X.base) I.ok.mod.kin hk hall (thn (pa.run pos pins s σ H _ I h) fun ws s2 ⟨zs, H2, I2, rz, hl, q2⟩ => ⟨I2.kIn, ?_⟩) hpl
    rw [hks]
    have rr : Vals (permL π zs) (permL π ws) := permL_vals rz
    have bb := hb.to s2 ws I2.kIn (by rw [hkl, ← rz.length]; exact hl)
    refine wpAny_call (codeAny_mono (F.run X.A X.stack s2 H2 ⟨[], ks.zip ws⟩ (permL π ws) (permL π zs) Q E gd hr I2.env0 bb rr q2) fun res s' hq => ?_)
    have z := fg_end hx I2 hq
    cases res with
    | error e => exact z
    | ok fl => cases fl with
      | ret u => exact z
      | next => exact z.elim
      | brk => exact z.elim
      | cont => exact z.elim
  · refine qa g Hs0 H0 r σ Hs H s _ R (wp_mono (wp_bnd w) (fun os s1 w1 vs Hs1 H1 n1 r1 => ?_) fun _ _ _ z => z)
    split at w1
    · rename_i hl
      exact ⟨by rw [r1.len]; exact hl, call_sim n1.self (permL_rbs r1) (wp_mono w1 (fun o s2 w2 v F Hs2 H2 n2 r2 f2 => w2 v F Hs2 H2 (n1.trans n2) r2 fun a m => n1.there (f2 a m)) fun _ _ _ z => z.later n1)⟩
    · exact w1.elim
end
/-! ### the drawing object comes to be -/
mutual
def D.noGen : D → Bool
  | .gen => false
  | .tup l => D.noGens l
  | .lst l => D.noGens l
  | .dic _ => false
  | .exc _ _ => false
  | _ => true
def D.noGens : List D → Bool
  | [] => true
  | d :: r => D.noGen d && D.noGens r
end
section
variable {K : PySem.W.Frag} {g g' : Option Addr} {H : Hp}
mutual
theorem Rp.reg (h : ∀ a o, H a = some o → g' ≠ some a) : ∀ {v : V} {d : D}, Rp K g H v d → d.noGen = true → Rp K g' H v d
  | _, _, .non, _ => .non
  | _, _, .bl b, _ => .bl b
  | _, _, .int i, _ => .int i
  | _, _, .str s, _ => .str s
  | _, _, .tup a t, e => .tup a (Rps.reg h t (by simpa only [D.noGen] using e))
  | _, _, .lst a _ t, e => .lst a (h _ _ a) (Rps.reg h t (by simpa only [D.noGen] using e))
  | _, _, .scr a, _ => .scr a
  | _, _, .gen _, e => by simp only [D.noGen] at e; cases e
theorem Rps.reg (h : ∀ a o, H a = some o → g' ≠ some a) : ∀ {vs : List V} {l : List D}, Rps K g H vs l → D.noGens l = true → Rps K g' H vs l
  | _, _, .nil, _ => .nil
  | _, _, .cons a t, e => by
    simp only [D.noGens, Bool.and_eq_true] at e
    exact .cons (Rp.reg h a e.1) (Rps.reg h t e.2)
end
end
section
variable {K : PySem.W.Frag} {g g' : Option Addr} {Hs H : Hp}
mutual
theorem RO.regen : ∀ {v : V} {o : O} {F : List Addr}, RO K g Hs H v o F → o.scal = true → (∀ a ∈ F, g' ≠ some a) → RO K g' Hs H v o F
  | _, _, _, .sh h, e, _ => by
    cases h with
    | non => exact .sh .non
    | bl b => exact .sh (.bl b)
    | int i => exact .sh (.int i)
    | str z => exact .sh (.str z)
    | tup _ _ => cases e
    | lst _ _ _ => cases e
    | scr _ => cases e
    | gen _ => cases e
  | _, _, _, .lst h q _ t w, e, f => .lst h q (f _ (List.mem_cons_self ..)) (ROs.regen t e fun a m => f a (List.mem_cons_of_mem _ m)) w
  | _, _, _, .tup h t, e, f => .tup h (ROs.regen t e f)
theorem ROs.regen : ∀ {vs : List V} {os : List O} {F : List Addr}, ROs K g Hs H vs os F → O.scals os = true → (∀ a ∈ F, g' ≠ some a) → ROs K g' Hs H vs os F
  | _, _, _, .nil, _, _ => .nil
  | _, _, _, .cons h t w, e, f => by
    have e' : (O.scal _ && O.scals _) = true := e
    rw [Bool.and_eq_true] at e'
    exact .cons (RO.regen h e'.1 fun a m => f a (List.mem_append_left _ m)) (ROs.regen t e'.2 fun a m => f a (List.mem_append_right _ m)) w
end
end
def slOk : Sl → Bool
  | .un => true
  | .ob (.sh d) => d.noGen
  | _ => false
def slsOk : En → Bool
  | [] => true
  | x :: r => slOk x && slsOk r
theorem slsOk_at {r : En} (h : slsOk r = true) {i : Nat} {o : O} (e : r[i]? = some (.ob o)) : ∃ d, o = .sh d ∧ d.noGen = true := by
  induction r generalizing i with
  | nil => simp at e
  | cons x r ih =>
    have h' : (slOk x && slsOk r) = true := h
    rw [Bool.and_eq_true] at h'
    cases i with
    | zero =>
      simp at e; subst e
      cases o with
      | sh d => exact ⟨d, rfl, h'.1⟩
      | lst _ => cases h'.1
      | tup _ => cases h'.1
    | succ i => exact ih h'.2 (by simpa using e)
def O.three : O → Option G3
  | .lst [.sh (.int a), .sh (.int b), .sh (.int c)] => some ⟨a, b, c⟩
  | _ => none
theorem O.three_eq {o : O} {s : G3} (h : o.three = some s) : o = .lst [.sh (.int s.a), .sh (.int s.b), .sh (.int s.c)] := by
  unfold O.three at h
  split at h <;> cases h
  rfl
/-- g = .. ; the rest, with g as the drawing object -/
def mGenB (i : Nat) (mc : En → M O) (mr : En → M Fl) : En → M Fl := fun r => bnd (mc r) fun o s => match o.three with
  | some z => if slsOk (r.set i .un) = true then match mr (r.set i (.ob (.sh .gen))) z with
      | .ok (.nx r2) _ => if slsOk (r2.set i .un) = true then .ok (.nx (r2.set i .un)) s else .bad
      | .ok (.ct r2) _ => if slsOk (r2.set i .un) = true then .ok (.ct (r2.set i .un)) s else .bad
      | .ok (.bk r2) _ => if slsOk (r2.set i .un) = true then .ok (.bk (r2.set i .un)) s else .bad
      | .ok (.rt o) _ => if o.scal = true then .ok (.rt o) s else .bad
      | _ => .bad
    else .bad
  | none => .bad
section
variable {X : Cx} {C : Ct} {E : XK} {e : Expr} {sts : List Stmt} {pos p p2 : Pos}
theorem ss_gen {i : Nat} {x : Str} {px : Pos} {mc : En → M O} {mr : En → M Fl} (h : EO X C E e mc) (ps : ∀ te, PE X e te → PS X (.Assign [.Name x px] e pos) (tAsg te (gName i))) (hr : SS X C E sts mr) : SS X C E (.Assign [.Name x px] e pos :: sts) (mGenB i mc mr) := by
  obtain ⟨t, pe, q⟩ := h
  obtain ⟨tr, pr, qr⟩ := hr
  refine ⟨_, pss_cons (ps t pe) pr, fun g Hs0 H0 r σ Hs H s D R w => ?_⟩
  refine q g Hs0 H0 r σ Hs H s _ R (wp_mono (wp_bnd w) (fun o s1 w1 v F Hs1 H1 n1 r1 f1 => ?_) fun _ _ _ z => z.later R.nx)
  split at w1
  case h_2 => exact w1.elim
  rename_i z ez
  split at w1
  case isFalse => exact w1.elim
  rename_i hok
  have eo := O.three_eq ez
  subst eo
  cases r1 with
  | lst hp hq ng ros pn =>
  rename_i p vs F'
  have hHp : H p = none := f1 p (List.mem_cons_self ..)
  have hH0p : H0 p = none := R.nx.there hHp
  have evs : vs = [.int z.a, .int z.b, .int z.c] := by
    have := (ROs.shs (l := [.int z.a, .int z.b, .int z.c]) ros).1
    exact Rps.of_ints (l := [z.a, z.b, z.c]) this
  subst evs
  have gn : GenAt (some p) Hs1 H1 z := fun a ea => by cases ea; exact ⟨hq, hp⟩
  have R1 := R.next n1
  -- the frame with the drawing object
  have back : ∀ {r2 : En} {σ2 : L2.St} {Hs2 H2 : Hp} {s2 : G3}, SR C.K (some p) Hs1 H1 r2 σ2 Hs2 H2 s2 → slsOk (r2.set i .un) = true → SR C.K g Hs0 H0 (r2.set i .un) σ2 Hs2 H2 s1 := fun {r2 σ2 Hs2 H2 s2} R2 ok => by
    refine ⟨⟨R1.nx.sub0, R1.nx.gen0, R1.nx.up.trans R2.nx.up, R2.nx.sub, fun a ea => ?_, fun a o m e1 e2 e3 => ?_, fun a o m e1 => R2.nx.im a o m (R1.nx.im a o m e1)⟩, by rw [List.length_set]; exact R2.len, fun _ => [], fun j o e => ?_, fun _ _ _ m => (nomatch m), fun _ _ m => (nomatch m)⟩
    · have q1 := R1.nx.gen a ea
      have q0 := R.nx.gen a ea
      have ne : (some p : Option Addr) ≠ some a := fun w => by cases w; rw [hHp] at q0; cases q0.2
      have := R2.nx.fr a _ rfl q1.2 q1.1 ne
      exact ⟨this.2, this.1⟩
    · have q1 := R1.nx.fr a o m e1 e2 e3
      exact R2.nx.fr a o m q1.1 q1.2 fun w => by cases w; rw [hH0p] at e1; cases e1
    · by_cases hj : i = j
      · subst hj
        by_cases hl : i < r2.length
        · rw [List.getElem?_set_self hl] at e; cases e
        · rw [List.getElem?_eq_none (by rw [List.length_set]; omega)] at e; cases e
      · obtain ⟨d, rfl, nd⟩ := slsOk_at ok e
        rw [List.getElem?_set_ne hj] at e
        obtain ⟨v, F2, a1, a2, _⟩ := R2.at e
        cases a2 with
        | sh a2 =>
          refine ⟨v, a1, .sh (a2.reg (fun a o q w => ?_) nd)⟩
          have q0 := R1.nx.gen a w
          have q1 := R.nx.gen a w
          have ne : (some p : Option Addr) ≠ some a := fun w => by cases w; rw [hHp] at q1; cases q1.2
          have := (R2.nx.fr a _ rfl q0.2 q0.1 ne).2
          rw [q] at this; cases this
  have R' : SR C.K (some p) Hs1 H1 (r.set i (.ob (.sh .gen))) (σ.set i (some (.ref p))) Hs1 H1 z := by
    refine ⟨.refl n1.sub gn, by rw [List.length_set, List.length_set]; exact R.len, fun _ => [], fun j o e => ?_, fun _ _ _ m => (nomatch m), fun _ _ m => (nomatch m)⟩
    by_cases hj : i = j
    · subst hj
      have hl : i < r.length := by
        obtain ⟨hl, _⟩ := List.getElem?_eq_some_iff.mp e
        rwa [List.length_set] at hl
      rw [List.getElem?_set_self hl] at e
      cases e
      exact ⟨_, List.getElem?_set_self (R.len ▸ hl), .sh (.gen rfl)⟩
    · rw [List.getElem?_set_ne hj] at e ⊢
      obtain ⟨d, rfl, nd⟩ := slsOk_at (i := j) hok (by rw [List.getElem?_set_ne hj]; exact e)
      obtain ⟨v, F2, a1, a2, _⟩ := R1.at e
      cases a2 with
      | sh a2 =>
        exact ⟨v, a1, .sh (a2.reg (fun a o q w => by cases w; rw [hq] at q; cases q) nd)⟩
  refine qr (some p) Hs1 H1 _ _ Hs1 H1 z D R' ?_
  split at w1
  · rename_i r2 s2 e2
    split at w1
    · rename_i ok
      exact wp_of e2 fun σ2 Hs2 H2 u2 R2 => w1 σ2 Hs2 H2 (n1.up.trans u2) (back R2 ok)
    · exact w1.elim
  · rename_i r2 s2 e2
    split at w1
    · rename_i ok
      exact wp_of e2 fun σ2 Hs2 H2 u2 R2 => w1 σ2 Hs2 H2 (n1.up.trans u2) (back R2 ok)
    · exact w1.elim
  · rename_i r2 s2 e2
    split at w1
    · rename_i ok
      exact wp_of e2 fun σ2 Hs2 H2 u2 R2 => w1 σ2 Hs2 H2 (n1.up.trans u2) (back R2 ok)
    · exact w1.elim
  · rename_i o s2 e2
    split at w1
    · rename_i hsc
      refine wp_of e2 fun v2 F2 Hs2 H2 n2 r2 f2 => ?_
      have nn : Nx g Hs0 H0 Hs1 H2 s1 := ⟨R1.nx.sub0, R1.nx.gen0, R1.nx.up, fun a o q => n2.sub _ _ (n2.up _ _ q), fun a ea => ?_, fun a o m e1 e2 e3 => ?_, fun a o m e1 => n2.im a o m (R1.nx.im a o m e1)⟩
      · exact w1 v2 F2 Hs1 H2 nn ((r2.unshare (fun a q => nn.sub.free q) hsc f2 fun a q => n1.sub.free q).regen hsc fun a m w => by
          have := (R1.nx.gen a w).2; rw [f2 a m] at this; cases this) fun a m => R1.nx.there (f2 a m)
      · have q1 := R1.nx.gen a ea
        have q0 := R.nx.gen a ea
        have ne : (some p : Option Addr) ≠ some a := fun w => by cases w; rw [hHp] at q0; cases q0.2
        exact ⟨q1.1, (n2.fr a _ rfl q1.2 q1.1 ne).1⟩
      · have q1 := R1.nx.fr a o m e1 e2 e3
        exact ⟨(n2.fr a o m q1.1 q1.2 fun w => by cases w; rw [hH0p] at e1; cases e1).1, q1.2⟩
    · exact w1.elim
  · exact w1.elim
end
end Lone
namespace Lone
open PySem PySem.Spec PyProof.Rows L2 Att
/-! ### a law's own call -/
/-- the heap at a law's entry: the script alone is known -/
theorem entry {P : Program} {w : World} {K : PySem.W.Frag} {s : Shared} {a : Addr} {vs : List Value} {ns : List Int} (KX : K.In s.heap) (ha : s.heap.get? a = some { cls := .type "list", data := .seq vs.toArray }) (hi : IntsAre vs ns) (hl : ns.length ≤ sizeLine) :
    ∃ H : Hp, Only H ∧ SqL K H a (ns.map V.int) ∧ HOk P w H s.heap ∧ (∀ b, H b ≠ none → b = a) ∧ (H a ≠ none → K.lookup a = none) := by
  have rv : Vals (ns.map V.int) vs := vals_ints hi
  have ln : vs.length = ns.length := hi.length
  cases hk : K.lookup a with
  | some o =>
    have q := KX a o hk
    rw [ha] at q
    obtain rfl := Option.some.inj q
    exact ⟨fun _ => none, fun _ => .inl rfl, .inr ⟨_, vs.toArray, _, hk, rfl, rfl, rfl, by simpa [ln] using hl, by simpa using rv⟩, fun _ _ z => (nomatch z), fun _ z => absurd rfl z, fun z => absurd rfl z⟩
  | none =>
    have at_a : (fun b : Addr => if b = a then some (HO.frz { cls := .type "list", data := .seq vs.toArray } (.lst (ns.map V.int))) else none) a = some (HO.frz { cls := .type "list", data := .seq vs.toArray } (.lst (ns.map V.int))) := if_pos rfl
    have off : ∀ b : Addr, b ≠ a → (fun b : Addr => if b = a then some (HO.frz { cls := .type "list", data := .seq vs.toArray } (.lst (ns.map V.int))) else none) b = none := fun b nb => if_neg nb
    refine ⟨fun b => if b = a then some (.frz { cls := .type "list", data := .seq vs.toArray } (.lst (ns.map V.int))) else none, fun b => ?_, .inl (.inr ⟨_, at_a⟩), fun b u z => ?_, fun b z => ?_, fun _ => rfl⟩
    · by_cases e : b = a
      · subst e; exact .inr ⟨_, _, at_a⟩
      · exact .inl (off b e)
    · by_cases e : b = a
      · subst e
        rw [at_a] at z
        cases z
        exact ⟨ha, by simpa using hl, vs, _, rv, ha⟩
      · rw [off b e] at z; cases z
    · by_cases e : b = a
      · exact e
      · exact absurd (off b e) z
theorem fg_law {P : Program} {w : World} {K : PySem.W.Frag} {mg mb : Str → Option Value} {CX : CXT} {k : Nat} {fa a : Addr} {fd : FuncData} {x : Str} {sp : Sp} {s : Shared} {vs : List Value} {ns : List Int}
    (KX : K.In s.heap) (hm : s.heap.Ns mainGlobals mg) (hb : s.heap.Ns builtinsNs mb) (hbb : ∀ x : Str, x ≠ "__name__" → mb x = bootBuiltins x) (lim : s.heap.NoLimit) (hg : s.gens = #[])
    (ha : s.heap.get? a = some { cls := .type "list", data := .seq vs.toArray }) (hi : IntsAre vs ns) (hl : ns.length ≤ sizeLine) (hr : Room k callerA)
    (F : ∀ base : Heap, K.In base → base.Ns mainGlobals mg → FnG P w K mg base CX k fa fd [x] sp) (hbind : ∀ (s : Shared) (u : Value), BindsTo s fd ⟨[u], []⟩ [(x, u)])
    (hsp : ∀ H : Hp, Only H → SqL K H a (ns.map V.int) → sp [.ref a] H (fun v _ => v = .bl true) fun _ _ _ => False) (hCX : ∀ H e s', CX [] H s (fun _ _ _ => False) e s' → False) :
    codeAny (model P w) callerA (.call (.ref fa) ⟨[.ref a], []⟩) (fun r s' => r = .ok (.ret (.bool true)) ∧ OldK s.heap s'.heap ∧ s'.os = s.os ∧ AllBare s'.gens) s := by
  obtain ⟨H, only, seq, ok, isA, notK⟩ := entry (P := P) (w := w) KX ha hi hl
  -- what is not the script is in the base
  have keepD : ∀ {b : Addr} {o : Obj}, s.heap.get? b = some o → (∀ vs n, o.data ≠ .seq vs n) → (hidT s.heap H).get? b = some o := fun {b o} e nd => hidT_get e (by
    cases q : H b with
    | none => rfl
    | some u =>
      obtain rfl := isA b (by rw [q]; exact nofun)
      rw [ha] at e
      obtain rfl := Option.some.inj e
      exact absurd rfl (nd _ _))
  have ns2 : ∀ {b : Addr} {m : Str → Option Value}, s.heap.Ns b m → (hidT s.heap H).Ns b m := fun {b m} n => by
    obtain ⟨o, es, ep, e, d, rest⟩ := n
    exact ⟨o, es, ep, keepD e fun vs n z => (by rw [d] at z; cases z), d, rest⟩
  have kb : K.In (hidT s.heap H) := fun b o e => hidT_get (KX b o e) (by
    cases q : H b with
    | none => rfl
    | some u =>
      obtain rfl := isA b (by rw [q]; exact nofun)
      have := notK (by rw [q]; exact nofun)
      rw [this] at e; cases e)
  have md : Mod K mg (hidT s.heap H) := by
    refine ⟨kb, ns2 hm, ⟨mb, ns2 hb, hbb⟩, ?_⟩
    obtain ⟨mc, l1, l2⟩ := lim
    exact ⟨mc, ns2 l1, l2⟩
  have env : Env0 P w K mg (hidT s.heap H) callerA [] s H := by
    refine ⟨rfl, md, fun b o e => of_hidT e, ?_, trivial, fun b hb => ?_, ok, .of_eq hg⟩
    · exact Nat.le_of_eq (hidT_size s.heap H)
    · simp [frs] at hb
  refine codeAny_mono ((F _ kb (ns2 hm)).run callerA [] s H ⟨[.ref a], []⟩ [.ref a] [.ref a] _ _ rfl hr env (hbind s _) (.cons rfl .nil) (hsp H only seq)) fun r s' h => ?_
  match r, h with
  | .error e, h => exact (hCX H e s' h).elim
  | .ok (.ret u), h =>
    obtain ⟨v, H', h1, h2, un, ok', rv, q⟩ := h
    have q' : v = .bl true := q
    subst q'
    have ru : u = Value.bool true := rv
    subst ru
    refine ⟨rfl, OldK.of_keep fun b o e => ?_, h1, h2⟩
    cases q : H b with
    | none => exact un.keep b o e q (fun z => by simp [frs] at z) (fun z => nomatch z)
    | some u =>
      rcases only b with z | ⟨ob, xs, z⟩
      · rw [q] at z; cases z
      · have e1 := (ok b _ z).1
        have e2 := (ok' b _ (un.frzs b ob _ z)).1
        rw [e] at e1
        obtain rfl := Option.some.inj e1
        exact e2
/-- the goal that the head leaves -/
theorem walk_fg {l : PySem.W.OpenLaw} {n k : Nat} {q : Program} {loose : List Str} {XP : (Str → Option Value) → Heap → Prop} {YP : World → Heap → Prop} {d : DefRec} {K : Params → PySem.W.Frag} {CX : World → CXT} {sp : World → Sp} {x : Str}
    (hn : l.most = some n) (hn2 : n ≤ sizeLine) (hdf : d.params.defaults = []) (hr : Room k callerA) (hY : ∀ (w : World) (h : Heap), YP w h → (K w.params).In h)
    (F : ∀ (w : World) (mg : Str → Option Value) (fa : Addr) (h : Heap), (K w.params).In h → h.Ns mainGlobals mg → mg d.name = some (.ref fa) →
      ∃ fd : FuncData, (∀ (s : Shared) (u : Value), BindsTo s fd ⟨[u], []⟩ [(x, u)]) ∧ ∀ base : Heap, (K w.params).In base → base.Ns mainGlobals mg → FnG l.prog w (K w.params) mg base (CX w) k fa fd [x] (sp w))
    (hsp : ∀ (w : World) (H : Hp) (a : Addr) (ns : List Int), ns.length ≤ n → Only H → SqL (K w.params) H a (ns.map V.int) → sp w [.ref a] H (fun v _ => v = .bl true) fun _ _ _ => False)
    (hCX : ∀ (w : World) (H : Hp) (s : Shared) (e : Value) (s' : Shared), CX w [] H s (fun _ _ _ => False) e s' → False) :
    PySem.W.WalkO q loose XP YP l.row.toRowW d [] (fun f vs => PySem.call f vs) :=
  Att.attach_call hn hdf fun w s₀ s₁ mg mb fa o pm cd doc a vs ns G Y ho hd hcd hmg hobj hints hlen hg => by
    obtain ⟨fd, hb, hF⟩ := F w mg fa _ (hY w _ Y) G.T.g hmg
    exact fg_law (hY w _ Y) G.T.g G.T.b G.T.builtins G.T.nolimit hg hobj hints (Nat.le_trans hlen hn2) hr hF hb (fun H h1 h2 => hsp w H a ns hlen h1 h2) fun H e s' => hCX w H s₁ e s'
/-- from the law as a function of data -/
theorem sp_law {C : Ct} {m : List D → M O} {H : Hp} {a : Addr} {ns : List Int} (hS : SqL C.K H a (ns.map V.int)) (h : ∃ s', m [.scr ns] ⟨0, 0, 0⟩ = .ok (bO true) s') : spM C m [.ref a] H (fun v _ => v = .bl true) fun _ _ _ => False := by
  obtain ⟨s', e⟩ := h
  refine ⟨none, H, ⟨0, 0, 0⟩, [.scr ns], Same.refl _, fun _ z => (nomatch z), .cons (.scr hS) .nil, wp_of e fun v F Hs' H' _ r _ => ?_⟩
  cases r with
  | sh r => cases r; rfl
end Lone
namespace Lone
open PySem PySem.Spec PyProof.Rows L2
/-! ### slices with a step (lists) -/
def pickL {α : Type} (xs : List α) (lo hi st : Option Int) : List α := (sliceRange (sliceBounds lo hi st xs.length).1 (sliceBounds lo hi st xs.length).2.1 (sliceBounds lo hi st xs.length).2.2).filterMap (xs[·]?)
theorem pick_two {α β : Type} {R : α → β → Prop} {P : List α → List β → Prop} (nil : P [] []) (cons : ∀ a b l m, R a b → P l m → P (a :: l) (b :: m)) {xs : List α} {ys : List β} (hl : xs.length = ys.length)
    (get : ∀ (i : Nat) a, xs[i]? = some a → ∃ b, ys[i]? = some b ∧ R a b) (lo hi st : Option Int) : P (pickL xs lo hi st) (pickL ys lo hi st) := by
  unfold pickL
  rw [hl]
  generalize sliceRange _ _ _ = ix
  induction ix with
  | nil => exact nil
  | cons i ix ih =>
    rw [List.filterMap_cons, List.filterMap_cons]
    cases q : xs[i]? with
    | none =>
      rw [show ys[i]? = none from List.getElem?_eq_none (by rw [← hl]; exact List.getElem?_eq_none_iff.mp q)]
      exact ih
    | some a =>
      obtain ⟨b, e, r⟩ := get i a q
      rw [e]
      exact cons a b _ _ r ih
section
variable {X : Cx} {C : Ct} {E : XK} {e : Expr} {es : List Expr} {pos : Pos} {lo hi st : Option Expr} {tl th ts : TO} {te : TE}
def tSlS (K : PySem.W.Frag) (te : TE) (tl th ts : TO) : TE := fun σ H Q => te σ H fun x H1 => tl σ H1 fun l H2 => th σ H2 fun u H3 => ts σ H3 fun c H4 => ∃ a xs, x = .ref a ∧ SqL K H4 a xs ∧ c ≠ some 0 ∧ (pickL xs l u c).length ≤ sizeLine ∧
  ∀ p, H4 p = none → Q (.ref p) (upd H4 p (.lst (pickL xs l u c)))
theorem pe_slS {stE : Expr} {p2 : Pos} (he : PE X e te) (hl : PO X lo tl) (hh : PO X hi th) (hs : PO X (some stE) ts) (hx : ∀ v sl, subscripted (.Slice lo hi (some stE) p2) false v sl = operate [v, sl] (getItem v sl) := by intro _ _; with_unfolding_all rfl) :
    PE X (.Subscript e (.Slice lo hi (some stE) p2) pos) (tSlS X.K te tl th ts) := ⟨fun pins s σ H Q I h => by
  refine Subscript_ (thn (he.run pins s σ H _ I h) fun v s1 ⟨x, H1, I1, r1, q1⟩ => ?_)
  refine wpAny_Slice (thn (hl.run pins s1 σ H1 _ I1 q1) fun vl s2 ⟨l, H2, I2, pl, q2⟩ => thn (hh.run pins s2 σ H2 _ I2 q2) fun vu s3 ⟨u, H3, I3, pu, q3⟩ => thn (hs.run pins s3 σ H3 _ I3 q3) fun vs s4 ⟨c, H4, I4, ps, q4⟩ => ?_)
  obtain ⟨a, xs, ex, hx', h0, hz, q⟩ := q4
  subst ex
  cases r1
  have I5 : Inv X pins σ H4 { s4 with heap := s4.heap.push { cls := .type "slice", data := .fields #[vl, vu, vs] } } := I4.kept (t' := s4.toks) fun b ob w => Heap.get?_push_of_some _ w
  obtain ⟨its, rv, pl', hz'⟩ := I5.list hx'
  refine tail_any (ops := [.ref a, .ref s4.heap.objs.size]) pl'.isList.typeIs PySem.slot_list_getitem.lookup ?_ (hx _ _)
  have hlen := rv.length
  refine wpAny_getItem_list_slice pl'.isList (Heap.IsSliceOf.new _ vl vu vs) pl pu ps h0 ?_ (by rw [List.size_toArray]; omega)
  have pk : slicePick its.toArray l u c = (pickL its l u c).toArray := by
    unfold slicePick pickL
    simp
  rw [pk]
  have vv : Vals (pickL xs l u c) (pickL its l u c) := pick_two (P := fun a b => Vals a b) .nil (fun _ _ _ _ r t => .cons r t) hlen (fun i a w => rv.get w) l u c
  exact ⟨.ref _, _, I5.laid (t' := s4.toks) (o := .lst (pickL xs l u c)) (fun b ob w => Heap.get?_push_of_some _ w) (Nat.le_refl _) ⟨hz, _, 0, vv, Heap.get?_push_size _ rfl⟩, rfl, q _ (I5.hok.fresh (Nat.le_refl _))⟩⟩
def mSlS (ma : En → M O) (ml mh ms : En → M (Option Int)) : En → M O := fun r => bnd (ma r) fun a => bnd (ml r) fun lo => bnd (mh r) fun hi => bnd (ms r) fun st s => match a.items with
  | some l => if st ≠ some 0 ∧ (pickL l lo hi st).length ≤ lineN then .ok (.lst ((pickL l lo hi st).map .sh)) s else .bad
  | none => .bad
theorem eo_slS {ma : En → M O} {ml mh ms : En → M (Option Int)} {stE : Expr} {p2 : Pos} (hk : X.K = C.K) (ha : EB X C E e ma) (hl : EP' X C E lo ml) (hh : EP' X C E hi mh) (hs : EP' X C E (some stE) ms)
    (hx : ∀ v sl, subscripted (.Slice lo hi (some stE) p2) false v sl = operate [v, sl] (getItem v sl) := by intro _ _; with_unfolding_all rfl) : EO X C E (.Subscript e (.Slice lo hi (some stE) p2) pos) (mSlS ma ml mh ms) := by
  obtain ⟨ta, pa, qa⟩ := ha
  obtain ⟨tl, pl, ql⟩ := hl
  obtain ⟨th, ph, qh⟩ := hh
  obtain ⟨ts, ps, qs⟩ := hs
  refine ⟨_, pe_slS pa pl ph ps hx, fun g Hs0 H0 r σ Hs H s Q R w => ?_⟩
  rw [hk]
  refine qa g Hs0 H0 r σ Hs H s _ R (wp_mono (wp_bnd w) (fun o1 s1 w1 v F Hs1 H1 n1 r1 => ?_) fun _ _ _ x => x)
  refine ql g Hs0 H0 r σ Hs1 H1 s1 _ (R.next n1) (wp_mono (wp_bnd w1) (fun o2 s2 w2 Hs2 H2 n2 => ?_) fun _ _ _ x => x.later n1)
  have n12 := n1.trans n2
  refine qh g Hs0 H0 r σ Hs2 H2 s2 _ (R.next n12) (wp_mono (wp_bnd w2) (fun o3 s3 w3 Hs3 H3 n3 => ?_) fun _ _ _ x => x.later n12)
  have n13 := n12.trans n3
  refine qs g Hs0 H0 r σ Hs3 H3 s3 _ (R.next n13) (wp_mono (wp_bnd w3) (fun o4 s4 w4 Hs4 H4 n4 => ?_) fun _ _ _ x => x.later n13)
  have n14 := n13.trans n4
  split at w4
  · rename_i l el
    split at w4
    · rename_i hz
      obtain ⟨p, vs, rfl, hp, _, rp⟩ := (((r1.next n2).next n3).next n4).items n4.sub el
      have rr : Rps C.K g Hs4 (pickL vs o2 o3 o4) (pickL l o2 o3 o4) := pick_two (P := fun a b => Rps C.K g Hs4 a b) .nil (fun _ _ _ _ r t => .cons r t) rp.len (fun i a w => rp.getV w) o2 o3 o4
      refine ⟨p, vs, rfl, SqL.of hp, hz.1, by rw [rr.len, ← lineN_eq]; exact hz.2, new_lst n4.self rr rfl fun v F Hs' H' n5 r5 f5 => w4 v F Hs' H' (n14.trans n5) r5 fun a m => n14.there (f5 a m)⟩
    · exact w4.elim
  · exact w4.elim
/-! ### len(set(xs)), xs a list of ints -/
def metL (acc : List Int) : List Int → List Int
  | [] => acc
  | x :: r => metL (if acc.any (· == x) then acc else acc ++ [x]) r
def tLenSet (K : PySem.W.Frag) (ta : TE) : TE := fun σ H Q => ta σ H fun x H1 => ∃ (l : Addr) (ns : List Int), x = .ref l ∧ SqL K H1 l (ns.map V.int) ∧ ns.length ≤ 4000 ∧ Q (.int ((metL [] ns).length : Nat)) H1
theorem met_fold (ns : List Int) : PyProof.Rows.firstMet (fun i => ns.getD i 0) ns.length = metL [] ns := by
  have hm : (List.range ns.length).map (fun i => ns.getD i 0) = ns := by
    apply List.ext_getElem?
    intro i
    rw [List.getElem?_map]
    by_cases h : i < ns.length
    · rw [List.getElem?_range h, List.getElem?_eq_getElem h]
      show some (ns.getD i 0) = _
      rw [List.getD_eq_getElem?_getD, List.getElem?_eq_getElem h]
      rfl
    · rw [List.getElem?_eq_none (by simpa using h), List.getElem?_eq_none (by simpa using h)]
      rfl
  have hf : ∀ (l acc : List Int), l.foldl PyProof.Rows.step_dedup acc = metL acc l := by
    intro l
    induction l with
    | nil => intro acc; rfl
    | cons x r ih => intro acc; exact ih _
  unfold PyProof.Rows.firstMet
  rw [hm, hf]
theorem metL_len (l acc : List Int) : (metL acc l).length ≤ acc.length + l.length := by
  induction l generalizing acc with
  | nil => exact Nat.le_refl _
  | cons x r ih =>
    refine Nat.le_trans (ih _) ?_
    split
    · rw [List.length_cons]; omega
    · rw [List.length_append, List.length_cons, List.length_cons, List.length_nil]; omega
theorem pe_lenSet' {ta : TE} {p p2 q : Pos} (hg : Gl X "len") (hm : X.mg "len" = none) (hg2 : Gl X "set") (hm2 : X.mg "set" = none) (ha : PE X e ta) (hc : X.calm = true) (na : starEach [e] X.env = (false, eval e X.env) :: starEach [] X.env := by rfl) :
    PE X (.Call (.Name "len" p) [.Call (.Name "set" p2) [e] [] q] [] pos) (tLenSet X.K ta) := ⟨fun pins s σ H Q I h =>
  Call_ (ld_blt I hg hm boot_len (PyProof.Rows.callWith_builtin1 (PyProof.Rows.args_cons (Call_ (ld_blt I hg2 hm2 PyProof.Rows.boot_set
    (PyProof.Rows.callWith_type1 (PyProof.Rows.args_cons (thn (ha.run pins s σ H _ I h) fun v s1 ⟨x, H1, I1, r1, l, ns, ex, hq, hl, q1⟩ => PyProof.Rows.args_nil (by
      subst ex
      cases r1
      obtain ⟨its, rv, pl, hz⟩ := I1.list hq
      have hlen : its.toArray.size = ns.length := by rw [List.size_toArray, ← rv.length, List.length_map]
      refine call_set_list (I1.ok.hd hc) pl.isList (by simpa using RZ.intsAre_vals rv) (by rw [hlen]; unfold scanBound; omega) fun h' tk hS hk => ?_
      rw [hlen, met_fold] at hS
      obtain ⟨o, es, ep, t, ho, hex, hd, _, _, _, hf, hn⟩ := hS
      have I2 : Inv X pins σ H1 { s1 with heap := h', toks := tk } := I1.kept fun b o e => hk b o (Heap.lt_size e) e
      have hml := metL_len ns []
      refine PyProof.Rows.args_nil (call_len_set ho hex hd hf (by rw [hn]; simp at hml; omega) ⟨.int ((metL [] ns).length : Nat), H1, I2.tok _, ⟨_, by rw [hn]⟩, q1⟩))) na) na rfl))) rfl) rfl rfl))⟩
def mLenSet (m : En → M O) : En → M O := fun r => bnd (m r) fun o s => match o.d with
  | .lst ds => match D.ints ds with
    | some l => if l.length ≤ 4000 then .ok (iO (metL [] l).length) s else .bad
    | none => .bad
  | _ => .bad
theorem eo_lenSet {m : En → M O} {p p2 q : Pos} (hk : X.K = C.K) (hg : Gl X "len") (hm : X.mg "len" = none) (hg2 : Gl X "set") (hm2 : X.mg "set" = none) (h : EB X C E e m) (hc : X.calm = true) (na : starEach [e] X.env = (false, eval e X.env) :: starEach [] X.env := by rfl) :
    EO X C E (.Call (.Name "len" p) [.Call (.Name "set" p2) [e] [] q] [] pos) (mLenSet m) := by
  obtain ⟨t, pe, q⟩ := h
  refine ⟨_, pe_lenSet' hg hm hg2 hm2 pe hc na, fun g Hs0 H0 r σ Hs H s Q R w => ?_⟩
  refine q g Hs0 H0 r σ Hs H s _ R (wp_mono (wp_bnd w) (fun o s1 w1 v F Hs1 H1 n1 r1 => ?_) fun _ _ _ z => z)
  split at w1
  · rename_i ds ed
    split at w1
    · rename_i l el
      split at w1
      · rename_i hl
        obtain ⟨a, rfl, h⟩ := r1.intsL n1.sub ed el
        exact ⟨a, l, rfl, hk ▸ h, hl, w1 _ [] Hs1 H1 n1 (.sh (.int _)) fun _ m => nomatch m⟩
      · exact w1.elim
    · exact w1.elim
  · exact w1.elim
end
end Lone
namespace Lone
open PySem PySem.Spec PyProof.Rows L2
section
variable {K : PySem.W.Frag} {g : Option Addr} {Hs0 H0 Hs H : Hp} {r : En} {σ : L2.St} {s : G3} {F : Nat → List Addr}
theorem SRF.drop (h : SRF K g Hs0 H0 r σ Hs H s F) (i : Nat) : SRF K g Hs0 H0 (r.set i .un) σ Hs H s (fun j => if j = i then [] else F j) := by
  refine ⟨h.nx, by rw [List.length_set]; exact h.len, fun j u e => ?_, fun j k a m1 m2 => ?_, fun j a m => ?_⟩
  · by_cases z : i = j
    · subst z
      by_cases hl : i < r.length
      · rw [List.getElem?_set_self hl] at e; cases e
      · rw [List.getElem?_eq_none (by rw [List.length_set]; omega)] at e; cases e
    · rw [List.getElem?_set_ne z] at e
      obtain ⟨v', a1, a2⟩ := h.at_ j u e
      refine ⟨v', a1, ?_⟩
      show RO K g Hs H v' u (if j = i then [] else F j)
      rw [if_neg (Ne.symm z)]; exact a2
  · replace m1 : a ∈ (if j = i then [] else F j) := m1
    replace m2 : a ∈ (if k = i then [] else F k) := m2
    split at m1
    · cases m1
    · split at m2
      · cases m2
      · exact h.di _ _ _ m1 m2
  · replace m : a ∈ (if j = i then [] else F j) := m
    split at m
    · cases m
    · exact h.nw j a m
/-- a list that no slot owns changes -/
theorem SRF.off {a : Addr} {l l' : List V} (h : SRF K g Hs0 H0 r σ Hs H s F) (ha : H a = some (.lst l)) (hs : Hs a = none) (h0 : H0 a = none) (ng : g ≠ some a) (no : ∀ i, a ∉ F i) : SRF K g Hs0 H0 r σ Hs (upd H a (.lst l')) s F := by
  refine ⟨h.nx.write h0 hs ng, h.len, fun i o e => ?_, h.di, fun i b m => ?_⟩
  · obtain ⟨v, e1, e2⟩ := h.at_ i o e
    exact ⟨v, e1, e2.upd ha (no i)⟩
  · obtain ⟨e1, u, e2⟩ := h.nw i b m
    exact ⟨e1, u, by rw [upd_ne (fun z => no i (by rw [← z]; exact m))]; exact e2⟩
/-- a slot that is not told of is stored -/
theorem SRF.sl {i : Nat} {x : Option V} (h : SRF K g Hs0 H0 r σ Hs H s F) (e : r[i]? = some .un ∨ r[i]? = none) : SRF K g Hs0 H0 r (σ.set i x) Hs H s F := by
  refine ⟨h.nx, by rw [List.length_set]; exact h.len, fun j o ej => ?_, h.di, h.nw⟩
  obtain ⟨v, e1, e2⟩ := h.at_ j o ej
  refine ⟨v, ?_, e2⟩
  rw [List.getElem?_set_ne (fun z => by subst z; rcases e with e | e <;> rw [e] at ej <;> cases ej)]
  exact e1
/-- one of a row of things, a list, grows -/
theorem ROs.grow1 {d : D} {y : V} (hy : Rp K g Hs y d) : ∀ {vs : List V} {os : List O} {F : List Addr} {k : Nat} {os2 : List O}, ROs K g Hs H vs os F → os[k]? = some (.lst os2) →
    ∃ a vs2, vs[k]? = some (.ref a) ∧ H a = some (.lst vs2) ∧ vs2.length = os2.length ∧ a ∈ F ∧ Hs a = none ∧ g ≠ some a ∧ ∃ F', ROs K g Hs (L2.upd H a (.lst (vs2 ++ [y]))) vs (os.set k (.lst (os2 ++ [.sh d]))) F' ∧ ∀ b, b ∈ F' ↔ b ∈ F
  | _, _, _, _, _, .nil, e => by simp at e
  | _, _, _, 0, os2, .cons (F := Fa) (F' := Fb) h t w, e => by
    simp at e
    subst e
    cases h with
    | lst h1 h2 h3 h4 h5 =>
      rename_i a vs2 F2
      obtain ⟨F3, r3, f3⟩ := h4.app (.cons (.sh hy) .nil fun _ m => nomatch m) (fun b _ m => by simp at m)
      have f3' : ∀ b, b ∈ F3 ↔ b ∈ F2 := fun b => by rw [f3]; simp
      have na : a ∉ F3 := fun m => h5 ((f3' a).mp m)
      refine ⟨a, vs2, rfl, h1, h4.len, List.mem_append_left _ (List.mem_cons_self ..), h2, h3, (a :: F3) ++ Fb, .cons (.lst upd_same h2 h3 (r3.upd h1 na) na) (t.upd h1 fun m => w a (List.mem_cons_self ..) m) (fun b m m2 => ?_), fun b => ?_⟩
      · refine w b ?_ m2
        rcases List.mem_cons.mp m with e | m
        · exact e ▸ List.mem_cons_self ..
        · exact List.mem_cons_of_mem _ ((f3' b).mp m)
      · simp [f3']
  | _, _, _, k + 1, os2, .cons (F := Fa) (F' := Fb) h t w, e => by
    obtain ⟨a, vs2, e1, e2, e3, e4, e5, e6, F', r', f'⟩ := ROs.grow1 hy (k := k) t (by simpa using e)
    refine ⟨a, vs2, by simpa using e1, e2, e3, List.mem_append_right _ e4, e5, e6, Fa ++ F', .cons (h.upd e2 fun m => w a m e4) r' (fun b m m2 => w b m ((f' b).mp m2)), fun b => ?_⟩
    simp [f']
/-- a slot's thing changes somewhere within -/
theorem SRF.chg {i : Nat} {v : V} {o o' : O} {a : Addr} {l l' : List V} {F' : List Addr} (h : SRF K g Hs0 H0 r σ Hs H s F) (ei : r[i]? = some (.ob o)) (es : σ[i]? = some (some v)) (ha : H a = some (.lst l)) (hs : Hs a = none) (ng : g ≠ some a)
    (ma : a ∈ F i) (ro : RO K g Hs (upd H a (.lst l')) v o' F') (sub : ∀ b ∈ F', b ∈ F i) : SRF K g Hs0 H0 (r.set i (.ob o')) σ Hs (upd H a (.lst l')) s (fun j => if j = i then F' else F j) := by
  have h0 := (h.nw i a ma).1
  refine ⟨h.nx.write h0 hs ng, by rw [List.length_set]; exact h.len, fun j u e => ?_, fun j k b m1 m2 => ?_, fun j b m => ?_⟩
  · show ∃ v, σ[j]? = some (some v) ∧ RO K g Hs (upd H a (.lst l')) v u (if j = i then F' else F j)
    by_cases z : j = i
    · subst z
      rw [if_pos rfl]
      rw [List.getElem?_set_self (List.getElem?_eq_some_iff.mp ei).1] at e
      cases e
      exact ⟨v, es, ro⟩
    · rw [if_neg z]
      rw [List.getElem?_set_ne (Ne.symm z)] at e
      obtain ⟨w, e1, e2⟩ := h.at_ j u e
      exact ⟨w, e1, e2.upd ha fun m => z (h.di j i a m ma)⟩
  · replace m1 : b ∈ (if j = i then F' else F j) := m1
    replace m2 : b ∈ (if k = i then F' else F k) := m2
    split at m1 <;> split at m2
    · rename_i e1 e2; rw [e1, e2]
    · rename_i e1 e2; exact (e2 (h.di _ _ _ m2 (sub b m1))).elim
    · rename_i e1 e2; exact (e1 (h.di _ _ _ m1 (sub b m2))).elim
    · exact h.di _ _ _ m1 m2
  · replace m : b ∈ (if j = i then F' else F j) := m
    have tr : ∀ k, b ∈ F k → H0 b = none ∧ ∃ u, upd H a (.lst l') b = some u := fun k m => by
      obtain ⟨e1, u, e2⟩ := h.nw k b m
      refine ⟨e1, ?_⟩
      by_cases z : b = a
      · subst z; exact ⟨_, upd_same⟩
      · exact ⟨u, by rw [upd_ne z]; exact e2⟩
    split at m
    · exact tr i (sub b m)
    · exact tr j m
end
section
variable {X : Cx} {C : Ct} {E : XK} {e : Expr} {pos : Pos}
/-- x[k].append(e) -/
def mAppAt (i k : Nat) (m : En → M O) : En → M Fl := fun r s => match r[i]? with
  | some (.ob (.lst os)) => match os[k]? with
    | some (.lst os2) => bnd (m r) (fun o s => if os2.length < lineN then .ok (.nx (r.set i (.ob (.lst (os.set k (.lst (os2 ++ [.sh o.d]))))))) s else .bad) s
    | _ => .bad
  | _ => .bad
theorem st_appAt {i k : Nat} {x : Str} {px apos cpos ipos spos : Pos} {j : Nat} {m : En → M O} (hk : X.K = C.K) (hv : PE X (.Name x px) (tVar i)) (h : EO X C E e m) (hix : PlainIx (.Constant (.int (k : Int)) j ipos) := by exact fun _ _ => rfl)
    (hbase : attributeBase (.Subscript (.Name x px) (.Constant (.int (k : Int)) j ipos) spos) "append" X.env (eval (.Subscript (.Name x px) (.Constant (.int (k : Int)) j ipos) spos) X.env) = eval (.Subscript (.Name x px) (.Constant (.int (k : Int)) j ipos) spos) X.env := by rfl)
    (hfew : ((backTo cpos (starEach [e] X.env)).all (fun x => !x.1) && (backToKw cpos (keywordEach [] X.env)).all (fun x => x.1.isSome) && decide ([e].length + ([] : List Keyword).length + (if ([] : List Keyword).isEmpty then 0 else 1) < 30)) = true := by rfl)
    (hline : (apos.endLine == cpos.line) = true := by rfl) (hst : starEach [e] X.env = (false, eval e X.env) :: starEach [] X.env := by rfl) (hplain : (backTo cpos (starEach [] X.env)).any (·.1) = false := by rfl)
    (hsw : swapsWith (.Call (.Attribute (.Subscript (.Name x px) (.Constant (.int (k : Int)) j ipos) spos) "append" apos) [e] [] cpos) none pos.line X.env = pure false := by rfl) :
    ST X C E (.Expr (.Call (.Attribute (.Subscript (.Name x px) (.Constant (.int (k : Int)) j ipos) spos) "append" apos) [e] [] cpos) pos) (mAppAt i k m) := by
  obtain ⟨t, pe, q⟩ := h
  refine ⟨_, ps_expr (pe_bm PySem.F.plainAttrs_list PySem.F.slot_list_append PySem.F.type_list_append mt_append (pe_ix ix_list hv pe_int hix) (pa_cons pe pa_nil hst) hbase hfew hline hst hplain) hsw, fun g Hs0 H0 r σ Hs H s D R w => ?_⟩
  dsimp only [mAppAt] at w
  split at w
  case h_2 => exact w.elim
  rename_i os eo
  split at w
  case h_2 => exact w.elim
  rename_i os2 eo2
  obtain ⟨F, RF⟩ := R.srf
  obtain ⟨p, vs, F', e1, e2, e3, e4, e5, e6, e7⟩ := RF.own eo
  obtain ⟨a0, vs0, b1, b2, _⟩ := e7.grow1 (d := .non) (y := .non) .non eo2
  refine ⟨_, e1, p, vs, (k : Int), .ref a0, rfl, rfl, hk ▸ SqL.of e2, atI_nat b1, .inl ⟨rfl, _, SqL.of b2⟩, ?_⟩
  refine q g Hs0 H0 r σ Hs H s _ R (wp_mono (wp_bnd w) (fun o s1 w1 v Fv Hs1 H1 n1 r1 f1 => ?_) fun _ _ _ z => z.later R.nx)
  split at w1
  case isFalse => exact w1.elim
  rename_i hl
  obtain ⟨Hs2, gr, RF2, rp⟩ := (RF.next n1).share r1 (fun j a m m0 => by
    obtain ⟨_, u, eu⟩ := RF.nw j a m
    rw [f1 a m0] at eu; cases eu) fun a m => R.nx.there (f1 a m)
  obtain ⟨p', vs', F'', c1, c2, c3, c4, c5, c6, c7⟩ := RF2.own eo
  rw [e1] at c1; cases c1
  have e2' := n1.stay e2 e4
  rw [c2] at e2'; cases e2'
  obtain ⟨a, vs2, d1, d2, d3, d4, d5, d6, F3, r3, f3⟩ := c7.grow1 rp eo2
  rw [b1] at d1; cases d1
  have b2' := n1.stay b2 d6
  rw [d2] at b2'; cases b2'
  refine ⟨a0, vs0, v, rfl, rfl, d2, by rw [d3, ← lineN_eq]; exact hl, ?_⟩
  have np : p ≠ a0 := fun z => c6 (z ▸ d4)
  have ro : RO C.K g Hs2 (upd H1 a0 (.lst (vs0 ++ [v]))) (.ref p) (.lst (os.set k (.lst (os2 ++ [.sh o.d])))) (p :: F3) := .lst (by rw [upd_ne np]; exact c2) c3 c4 r3 fun m => c6 ((f3 p).mp m)
  refine w1 σ Hs2 _ (n1.up.trans gr.1) (RF2.chg eo e1 d2 d5 d6 (c5 ▸ List.mem_cons_of_mem _ d4) ro fun b m => ?_).sr
  rw [c5]
  rcases List.mem_cons.mp m with e | m
  · exact e ▸ List.mem_cons_self ..
  · exact List.mem_cons_of_mem _ ((f3 b).mp m)
/-- may be appended to -/
def O.canApp : O → Bool
  | .lst os => decide (os.length + 8 ≤ lineN)
  | .sh .non => true
  | _ => false
/-- for y in x[:3]: if y is not None: y.append('..') -/
def mForMore (i j : Nat) : En → M Fl := fun r s => match r[i]? with
  | some (.ob (.lst os)) => if ((os.take 3).all O.canApp && decide (j < r.length)) = true then .ok (.nx ((r.set i .un).set j .un)) s else .bad
  | _ => .bad
theorem ROs.canApp : ∀ {K : PySem.W.Frag} {g : Option Addr} {Hs H : Hp} {vs : List V} {os : List O} {F : List Addr}, ROs K g Hs H vs os F → os.all O.canApp = true → ∀ v ∈ vs, v = .non ∨ ∃ a l, v = .ref a ∧ H a = some (.lst l) ∧ l.length + 8 ≤ lineN ∧ a ∈ F ∧ Hs a = none ∧ g ≠ some a
  | _, _, _, _, _, _, _, .nil, _ => fun _ m => nomatch m
  | _, _, _, _, _, _, _, .cons h t w, e => fun v m => by
    rw [List.all_cons, Bool.and_eq_true] at e
    rcases List.mem_cons.mp m with z | m
    · subst z
      cases h with
      | sh h => cases h with
        | non => exact .inl rfl
        | _ => cases e.1
      | lst h1 h2 h3 h4 h5 =>
        refine .inr ⟨_, _, rfl, h1, ?_, List.mem_append_left _ (List.mem_cons_self ..), h2, h3⟩
        rw [h4.len]
        exact of_decide_eq_true e.1
      | tup _ _ => cases e.1
    · rcases ROs.canApp t e.2 v m with z | ⟨a, l, z1, z2, z3, z4, z5⟩
      · exact .inl z
      · exact .inr ⟨a, l, z1, z2, z3, List.mem_append_right _ z4, z5⟩
theorem st_forMore {i j : Nat} {x y : Str} {px py py2 py3 p2 p3 cp ap cpos apos ipos fpos : Pos} {n3 nc ns : Nat} {z : Str} (hij : i ≠ j) (hk : X.K = C.K) (hp : PassesOwn (model X.prog X.w) X.A X.env X.xe) (hc : X.calm = true) (hv : PE X (.Name x px) (tVar i)) (hy : PE X (.Name y py2) (tVar j)) (hy2 : PE X (.Name y py3) (tVar j)) (hg : PG X (.Name y py) (gName j))
    (hbase : attributeBase (.Name y py3) "append" X.env (eval (.Name y py3) X.env) = eval (.Name y py3) X.env := by rfl) (hst : starEach [.Constant (.str z) ns ap] X.env = (false, eval (.Constant (.str z) ns ap) X.env) :: starEach [] X.env := by rfl)
    (hfew : ((backTo cpos (starEach [.Constant (.str z) ns ap] X.env)).all (fun x => !x.1) && (backToKw cpos (keywordEach [] X.env)).all (fun x => x.1.isSome) && decide ([Expr.Constant (.str z) ns ap].length + ([] : List Keyword).length + (if ([] : List Keyword).isEmpty then 0 else 1) < 30)) = true := by rfl)
    (hline : (apos.endLine == cpos.line) = true := by rfl) (hplain : (backTo cpos (starEach [] X.env)).any (·.1) = false := by rfl) (hsw : swapsWith (.Call (.Attribute (.Name y py3) "append" apos) [.Constant (.str z) ns ap] [] cpos) none ipos.line X.env = pure false := by rfl)
    (hfs : ∀ v, foldedSetIterable (.Subscript (.Name x px) (.Slice none (some (.Constant (.int 3) n3 p2)) none p3) cp) X.env v = pure v := by intro _; rfl) {ifp cmpp : Pos} :
    ST X C E (.For (.Name y py) (.Subscript (.Name x px) (.Slice none (some (.Constant (.int 3) n3 p2)) none p3) cp) [.If (.Compare (.Name y py2) [.IsNot] [.Constant .none nc fpos] cmpp) [.Expr (.Call (.Attribute (.Name y py3) "append" apos) [.Constant (.str z) ns ap] [] cpos) ipos] [] ifp] [] pos) (mForMore i j) := by
  refine ⟨_, ps_for hp hc (pi_list (pe_slice sl_list hv po_none (po_some pe_int))) hg (pss_one (ps_if (pt_cmpR op_isnot0 hy pe_non (nomark _)) (pss_one (ps_expr (pe_bm PySem.F.plainAttrs_list PySem.F.slot_list_append PySem.F.type_list_append mt_append hy2 (pa_cons pe_str pa_nil hst) hbase hfew hline hst hplain) hsw)) pss_nil)) hfs, fun g Hs0 H0 r σ Hs H s D R w => ?_⟩
  dsimp only [mForMore] at w
  split at w
  case h_2 => exact w.elim
  rename_i os eo
  split at w
  case isFalse => exact w.elim
  rename_i hcan
  rw [Bool.and_eq_true] at hcan
  have hjr : j < σ.length := by rw [← R.len]; exact of_decide_eq_true hcan.2
  obtain ⟨F, RF⟩ := R.srf
  obtain ⟨p, vs, F', e1, e2, e3, e4, e5, e6, e7⟩ := RF.own eo
  refine ⟨_, e1, 3, rfl, p, vs, rfl, hk ▸ SqL.of e2, fun q hq => ?_⟩
  have cut : cutV vs none (some 3) = vs.take 3 := by
    unfold cutV
    rw [HT.sIx_none, show HT.sIx vs.length vs.length (some 3) = min 3 vs.length from HT.sIx_nat vs.length vs.length 3]
    simp
  rw [cut]
  have ngq : g ≠ some q := fun z => by
    have := (R.nx.gen q z).2; rw [hq] at this; cases this
  have h0q : H0 q = none := R.nx.there hq
  have hsq : Hs q = none := R.nx.sub.free hq
  -- the slots but these two
  obtain ⟨Fa, Fb, r3, _, f3, _⟩ := e7.split 3
  have items := r3.canApp hcan.1
  generalize hF2 : (fun k => if k = j then [] else (fun k => if k = i then [] else F k) k) = F2
  have RF2 : SRF C.K g Hs0 H0 ((r.set i .un).set j .un) σ Hs (upd H q (.lst (vs.take 3))) s F2 := hF2 ▸ ((RF.drop i).drop j).next (RF.nx.self.newO hq)
  have unF : ∀ a ∈ F', ∀ k, a ∉ F2 k := fun a m k m2 => by
    subst hF2
    replace m2 : a ∈ (if k = j then [] else if k = i then [] else F k) := m2
    split at m2
    · cases m2
    · split at m2
      · cases m2
      · rename_i _ ne
        exact ne (RF.di k i a m2 (e5 ▸ List.mem_cons_of_mem _ m))
  have len3 : (vs.take 3).length ≤ 3 := by rw [List.length_take]; omega
  have jun : ((r.set i .un).set j .un)[j]? = some .un ∨ ((r.set i .un).set j .un)[j]? = none := by
    by_cases hl : j < r.length
    · exact .inl (List.getElem?_set_self (by rw [List.length_set]; exact hl))
    · exact .inr (List.getElem?_eq_none (by rw [List.length_set, List.length_set]; omega))
  refine ⟨q, rfl, ⟨_, .inl (.inl upd_same)⟩, fun k m σ' H' => m = (vs.take 3).length - k ∧ k ≤ (vs.take 3).length ∧ σ'.length = σ.length ∧ SRF C.K g Hs0 H0 ((r.set i .un).set j .un) σ' Hs H' s F2 ∧ H' q = some (.lst (vs.take 3)) ∧
      ∀ v ∈ vs.take 3, v = .non ∨ ∃ a l, v = .ref a ∧ H' a = some (.lst l) ∧ l.length + 4 ≤ lineN + k ∧ a ∈ F' ∧ a ≠ q ∧ Hs a = none ∧ g ≠ some a,
    ⟨(vs.take 3).length, rfl, Nat.zero_le _, rfl, RF2, upd_same, fun v hv => ?_⟩, fun k m σ' H' hW => ?_⟩
  · rcases items v hv with z | ⟨a, l, z1, z2, z3, z4, z5, z6⟩
    · exact .inl z
    · have ne : a ≠ q := fun z => by subst z; rw [hq] at z2; cases z2
      exact .inr ⟨a, l, z1, by rw [upd_ne ne]; exact z2, by omega, (f3 a z4).1, ne, z5, z6⟩
  · obtain ⟨rfl, hkl, hsl, RW, hqW, hits⟩ := hW
    by_cases hl : k < (vs.take 3).length
    · refine .inr ⟨⟨_, _, .inl (.inl hqW), List.getElem?_eq_getElem hl⟩, fun σ2 H2 => σ2.length = σ.length ∧ SRF C.K g Hs0 H0 ((r.set i .un).set j .un) σ2 Hs H2 s F2 ∧ H2 q = some (.lst (vs.take 3)) ∧
        ∀ v ∈ vs.take 3, v = .non ∨ ∃ a l, v = .ref a ∧ H2 a = some (.lst l) ∧ l.length + 4 ≤ lineN + (k + 1) ∧ a ∈ F' ∧ a ≠ q ∧ Hs a = none ∧ g ≠ some a, fun σ2 H2 h2 => ⟨_, by omega, rfl, by omega, h2⟩, fun v H2 hy => ?_⟩
      obtain ⟨eH, hv2⟩ := hy
      subst eH
      have ev := hv2 _ (.inl (.inl hqW))
      have memv : v ∈ vs.take 3 := List.mem_of_getElem? ev
      have RJ := RW.sl (x := some v) jun
      have hjl : (σ'.set j (some v))[j]? = some (some v) := List.getElem?_set_self (by omega)
      have weak : ∀ v ∈ vs.take 3, v = .non ∨ ∃ a l, v = .ref a ∧ H2 a = some (.lst l) ∧ l.length + 4 ≤ lineN + (k + 1) ∧ a ∈ F' ∧ a ≠ q ∧ Hs a = none ∧ g ≠ some a := fun v hv => by
        rcases hits v hv with z | ⟨a, l, z1, z2, z3, z4⟩
        · exact .inl z
        · exact .inr ⟨a, l, z1, z2, by omega, z4⟩
      refine ⟨v, hjl, rfl, _, rfl, ?_⟩
      rcases hits v memv with z | ⟨a, l, z1, z2, z3, z4, z5, z6, z7⟩
      · subst z
        refine iteF ?_
        exact ⟨by rw [List.length_set]; exact hsl, RJ, hqW, weak⟩
      · subst z1
        refine iteT ?_
        refine ⟨_, hjl, .inl ⟨rfl, _, SqL.of z2⟩, a, l, .str z, rfl, rfl, z2, ?_, ?_⟩
        · rw [← lineN_eq]; omega
        · refine ⟨by rw [List.length_set]; exact hsl, RJ.off z2 z6 (RF.nw i a (e5 ▸ List.mem_cons_of_mem _ z4)).1 z7 (unF a z4), by rw [upd_ne (Ne.symm z5)]; exact hqW, fun v hv => ?_⟩
          rcases hits v hv with y0 | ⟨b, l2, y1, y2, y3, y4, y5, y6, y7⟩
          · exact .inl y0
          · by_cases hb : b = a
            · subst hb
              rw [z2] at y2; cases y2
              exact .inr ⟨_, _, y1, upd_same, by rw [List.length_append, List.length_singleton]; omega, y4, y5, y6, y7⟩
            · exact .inr ⟨b, l2, y1, by rw [upd_ne hb]; exact y2, by omega, y4, y5, y6, y7⟩
    · refine .inl ⟨⟨_, .inl (.inl hqW), by omega⟩, ?_⟩
      exact w σ' Hs H' (Same.refl _) RW.sr
end
end Lone
namespace Lone
open PySem PySem.Spec PyProof.Rows L2
/-! ### what is only read -/
section
variable {K : PySem.W.Frag} {g : Option Addr} {Hs H Hs' H' : Hp} {s' : G3}
theorem Nx.sqL (a : Nx g Hs H Hs' H' s') {p : Addr} {xs : List V} (h : SqL K H p xs) (ng : g ≠ some p ∨ ∀ l, H p ≠ some (.lst l)) : SqL K H' p xs := by
  rcases h with (h | ⟨o, h⟩) | h
  · refine .inl (.inl (a.stay h fun z => ?_))
    rcases ng with ng | ng
    · exact ng z
    · exact ng _ h
  · exact .inl (.inr ⟨o, a.im _ _ rfl h⟩)
  · exact .inr h
mutual
/-- read in the whole heap; nothing of it is the drawing object's list -/
inductive Rr (K : PySem.W.Frag) (g : Option Addr) (H : Hp) : V → D → Prop
  | non : Rr K g H .non .non
  | bl (b : Bool) : Rr K g H (.bl b) (.bl b)
  | int (i : Int) : Rr K g H (.int i) (.int i)
  | str (s : Txt) : Rr K g H (.str ⟨s.toArray⟩) (.str s)
  | tup {a : Addr} {vs : List V} {l : List D} : SqT K H a vs → Rrs K g H vs l → Rr K g H (.ref a) (.tup l)
  | lst {a : Addr} {vs : List V} {l : List D} : H a = some (.lst vs) → g ≠ some a → Rrs K g H vs l → Rr K g H (.ref a) (.lst l)
inductive Rrs (K : PySem.W.Frag) (g : Option Addr) (H : Hp) : List V → List D → Prop
  | nil : Rrs K g H [] []
  | cons {v : V} {d : D} {vs : List V} {l : List D} : Rr K g H v d → Rrs K g H vs l → Rrs K g H (v :: vs) (d :: l)
end
mutual
theorem Rr.next (n : Nx g Hs H Hs' H' s') : ∀ {v : V} {d : D}, Rr K g H v d → Rr K g H' v d
  | _, _, .non => .non
  | _, _, .bl b => .bl b
  | _, _, .int i => .int i
  | _, _, .str s => .str s
  | _, _, .tup h t => .tup (n.sqT h) (Rrs.next n t)
  | _, _, .lst h z t => .lst (n.stay h z) z (Rrs.next n t)
theorem Rrs.next (n : Nx g Hs H Hs' H' s') : ∀ {vs : List V} {l : List D}, Rrs K g H vs l → Rrs K g H' vs l
  | _, _, .nil => .nil
  | _, _, .cons h t => .cons (Rr.next n h) (Rrs.next n t)
end
mutual
theorem Rr.up (e : Same H H') : ∀ {v : V} {d : D}, Rr K g H v d → Rr K g H' v d
  | _, _, .non => .non
  | _, _, .bl b => .bl b
  | _, _, .int i => .int i
  | _, _, .str s => .str s
  | _, _, .tup h t => .tup (sqT_same e h) (Rrs.up e t)
  | _, _, .lst h z t => .lst (e _ _ h) z (Rrs.up e t)
theorem Rrs.up (e : Same H H') : ∀ {vs : List V} {l : List D}, Rrs K g H vs l → Rrs K g H' vs l
  | _, _, .nil => .nil
  | _, _, .cons h t => .cons (Rr.up e h) (Rrs.up e t)
end
mutual
theorem Rp.rr : ∀ {v : V} {d : D}, Rp K g H v d → d.ok = true → Rr K g H v d
  | _, _, .non, _ => .non
  | _, _, .bl b, _ => .bl b
  | _, _, .int i, _ => .int i
  | _, _, .str s, _ => .str s
  | _, _, .tup h t, o => .tup h (Rps.rr t (by simpa only [D.ok] using o))
  | _, _, .lst h z t, o => .lst h z (Rps.rr t (by simpa only [D.ok] using o))
  | _, _, .scr _, o => by simp only [D.ok] at o; cases o
  | _, _, .gen _, o => by simp only [D.ok] at o; cases o
theorem Rps.rr : ∀ {vs : List V} {l : List D}, Rps K g H vs l → D.oks l = true → Rrs K g H vs l
  | _, _, .nil, _ => .nil
  | _, _, .cons h t, o => by
    simp only [D.oks, Bool.and_eq_true] at o
    exact .cons (Rp.rr h o.1) (Rps.rr t o.2)
end
mutual
theorem Rr.dp : ∀ {v : V} {d : D}, Rr K g H v d → Dp K H v d.py
  | _, _, .non => by simp only [D.py]; exact .non
  | _, _, .bl b => by simp only [D.py]; exact .bl b
  | _, _, .int i => by simp only [D.py]; exact .int i
  | _, _, .str s => by simp only [D.py]; exact .str _
  | _, _, .tup h t => by simp only [D.py]; exact .tup h (Rrs.dp t)
  | _, _, .lst h _ t => by simp only [D.py]; exact .lst (SqL.of h) (Rrs.dp t)
theorem Rrs.dp : ∀ {vs : List V} {l : List D}, Rrs K g H vs l → DpAll K H vs (D.pys l)
  | _, _, .nil => by simp only [D.pys]; exact .nil
  | _, _, .cons h t => by simp only [D.pys]; exact .cons (Rr.dp h) (Rrs.dp t)
end
theorem Rrs.len : ∀ {vs : List V} {l : List D}, Rrs K g H vs l → vs.length = l.length
  | _, _, .nil => rfl
  | _, _, .cons _ t => by simp only [List.length_cons, Rrs.len t]
end
def SimR (C : Ct) (E : XK) (t : TE) (m : En → M D) : Prop := ∀ g Hs0 H0 r σ Hs H s Q, SR C.K g Hs0 H0 r σ Hs H s →
  wp (m r s) (fun d s' => ∀ v Hs' H', Nx g Hs H Hs' H' s' → Rr C.K g H' v d → Q v H') (XP C E g Hs H) → t σ H Q
def SimAR (C : Ct) (E : XK) (t : TA) (m : En → M (List D)) : Prop := ∀ g Hs0 H0 r σ Hs H s Q, SR C.K g Hs0 H0 r σ Hs H s →
  wp (m r s) (fun ds s' => ∀ vs Hs' H', Nx g Hs H Hs' H' s' → Rrs C.K g H' vs ds → Q vs H') (XP C E g Hs H) → t σ H Q
def ER (X : Cx) (C : Ct) (E : XK) (e : Expr) (m : En → M D) : Prop := ∃ t, PE X e t ∧ SimR C E t m
def AR (X : Cx) (C : Ct) (E : XK) (e : List Expr) (m : En → M (List D)) : Prop := ∃ t, PA X e t ∧ SimAR C E t m
section
variable {X : Cx} {C : Ct} {E : XK} {e a b : Expr} {es : List Expr} {pos : Pos}
def mRd (m : En → M O) : En → M D := fun r => bnd (m r) fun o s => if o.d.ok = true then .ok o.d s else .bad
theorem EB.r {m : En → M O} (h : EB X C E e m) : ER X C E e (mRd m) := by
  obtain ⟨t, p, q⟩ := h
  refine ⟨t, p, fun g Hs0 H0 r σ Hs H s Q R w => q g Hs0 H0 r σ Hs H s _ R (wp_mono (wp_bnd w) (fun o s1 w1 v F Hs1 H1 n1 r1 => ?_) fun _ _ _ x => x)⟩
  split at w1
  · rename_i ho
    exact w1 v Hs1 H1 n1 ((r1.read n1.sub).rr ho)
  · exact w1.elim
def mNilR : En → M (List D) := fun _ s => .ok [] s
def mConsR (m : En → M D) (ms : En → M (List D)) : En → M (List D) := fun r => bnd (m r) fun o => bnd (ms r) fun os s => .ok (o :: os) s
theorem ar_nil : AR X C E [] mNilR := ⟨_, pa_nil, fun g Hs0 H0 r σ Hs H s Q R w => w [] Hs H R.start .nil⟩
theorem ar_cons {m : En → M D} {ms : En → M (List D)} (h : ER X C E e m) (hs : AR X C E es ms) (st : starEach (e :: es) X.env = (false, eval e X.env) :: starEach es X.env := by rfl) : AR X C E (e :: es) (mConsR m ms) := by
  obtain ⟨t, p, q⟩ := h
  obtain ⟨ts, ps, qs⟩ := hs
  refine ⟨_, pa_cons p ps st, fun g Hs0 H0 r σ Hs H s Q R w => ?_⟩
  refine q g Hs0 H0 r σ Hs H s _ R (wp_mono (wp_bnd w) (fun o s1 w1 v Hs1 H1 n1 r1 => ?_) fun _ _ _ x => x)
  refine qs g Hs0 H0 r σ Hs1 H1 s1 _ (R.next n1) (wp_mono (wp_bnd w1) (fun os s2 w2 vs Hs2 H2 n2 r2 => ?_) fun _ _ _ x => x.later n1)
  exact w2 (v :: vs) Hs2 H2 (n1.trans n2) (.cons (r1.next n2) r2)
def mLstR (ms : En → M (List D)) : En → M D := fun r => bnd (ms r) fun os s => if os.length ≤ lineN then .ok (.lst os) s else .bad
def mTupR (ms : En → M (List D)) : En → M D := fun r => bnd (ms r) fun os s => if os.length ≤ lineN then .ok (.tup os) s else .bad
theorem er_lst {ms : En → M (List D)} (h : AR X C E es ms) : ER X C E (.List es pos) (mLstR ms) := by
  obtain ⟨t, p, q⟩ := h
  refine ⟨_, pe_lst p, fun g Hs0 H0 r σ Hs H s Q R w => q g Hs0 H0 r σ Hs H s _ R (wp_mono (wp_bnd w) (fun os s1 w1 vs Hs1 H1 n1 r1 => ?_) fun _ _ _ x => x)⟩
  split at w1
  · rename_i hl
    refine ⟨by rw [r1.len, ← lineN_eq]; exact hl, fun p hp => w1 _ Hs1 _ (n1.newO hp) (.lst upd_same (fun z => ?_) (r1.up (same_new hp)))⟩
    have := (n1.gen p z).2; rw [hp] at this; cases this
  · exact w1.elim
theorem er_tup {x1} {ms : En → M (List D)} (h : AR X C E es ms) : ER X C E (.Tuple es x1 pos) (mTupR ms) := by
  obtain ⟨t, p, q⟩ := h
  refine ⟨_, pe_tup p, fun g Hs0 H0 r σ Hs H s Q R w => q g Hs0 H0 r σ Hs H s _ R (wp_mono (wp_bnd w) (fun os s1 w1 vs Hs1 H1 n1 r1 => ?_) fun _ _ _ x => x)⟩
  split at w1
  · rename_i hl
    exact ⟨by rw [r1.len, ← lineN_eq]; exact hl, fun p hp => w1 _ Hs1 _ (n1.newO hp) (.tup (SqT.of upd_same) (r1.up (same_new hp)))⟩
  · exact w1.elim
/-! repr, ==, in, of what is read -/
def mReprR (m : En → M D) : En → M O := fun r => bnd (m r) fun d s => if d.shb = true then .ok (.sh (.str d.shw)) s else .bad
theorem eo_repr {m : En → M D} {p : Pos} (hk : X.K = C.K) (gd : X.A.guards = some []) (hu : X.A.units + 65 < cLine) (hg : Gl X "repr") (hm : X.mg "repr" = none) (h : ER X C E e m) (he : starEach [e] X.env = (false, eval e X.env) :: starEach [] X.env := by rfl) (hpl : (backTo pos (starEach [] X.env)).any (·.1) = false := by rfl) :
    EO X C E (.Call (.Name "repr" p) [e] [] pos) (mReprR m) := by
  obtain ⟨t, pe, q⟩ := h
  refine ⟨_, pe_callB (call_reprD gd hu) hg hm bootS_repr (pa_cons pe pa_nil he) (by decide) (by decide) he hpl, fun g Hs0 H0 r σ Hs H s Q R w => q g Hs0 H0 r σ Hs H s _ R (wp_mono (wp_bnd w) (fun d s1 w1 v Hs1 H1 n1 r1 => ?_) fun _ _ _ x => x)⟩
  split at w1
  · rename_i hb
    have hb' := hb
    unfold D.shb at hb'
    simp only [Bool.and_eq_true] at hb'
    refine ⟨v, d.py, rfl, hk ▸ r1.dp, hb'.1.2, PyData.hasDict_of_canLay _ (D.lay _ (D.fit_ok hb'.1.1)), ?_, ?_, ?_⟩
    · have := Nat.le_of_ble_eq_true hb'.2
      rw [lineN_eq] at this
      unfold D.shw at this
      rw [Array.length_toList] at this
      exact this
    · rw [D.dep_eq _ (D.fit_ok hb'.1.1)]; exact D.fit_dep hb'.1.1
    · rw [show PyData.shown d.py = ⟨(D.shw d).toArray⟩ by unfold D.shw; simp]
      exact w1 _ [] Hs1 H1 n1 (.sh (.str _)) fun _ m => nomatch m
  · exact w1.elim
def mEqR (neg : Bool) (ma mb : En → M D) : En → M O := fun r => bnd (ma r) fun a => bnd (mb r) fun b s => if (a.fit && b.fit) = true then .ok (bO (neg != D.beq a b)) s else .bad
theorem sim_eqR {neg : Bool} {ta tb : TE} {rr : R2} {ma mb : En → M D} (hr : ∀ x y H Q d e, Dp C.K H x d → Dp C.K H y e → SeqAt.shaped d = true → SeqAt.shaped e = true → Q (.bl (neg != PyData.eqv d e)) H → rr x y H Q) (qa : SimR C E ta ma) (qb : SimR C E tb mb) : SimO C E (tOp rr ta tb) (mEqR neg ma mb) := fun g Hs0 H0 r σ Hs H s Q R w => by
  refine qa g Hs0 H0 r σ Hs H s _ R (wp_mono (wp_bnd w) (fun d1 s1 w1 v Hs1 H1 n1 r1 => ?_) fun _ _ _ x => x)
  refine qb g Hs0 H0 r σ Hs1 H1 s1 _ (R.next n1) (wp_mono (wp_bnd w1) (fun d2 s2 w2 u Hs2 H2 n2 r2 => ?_) fun _ _ _ x => x.later n1)
  split at w2
  · rename_i hb
    rw [Bool.and_eq_true] at hb
    refine hr v u H2 Q _ _ (r1.next n2).dp r2.dp (D.shaped hb.1) (D.shaped hb.2) ?_
    rw [D.eqv_eq _ _ (D.fit_ok hb.1) (D.fit_ok hb.2)]
    exact w2 _ [] Hs2 H2 (n1.trans n2) (.sh (.bl _)) fun _ m => nomatch m
  · exact w2.elim
theorem ec_eqR {ma mb : En → M D} (hk : X.K = C.K) (hu : X.A.units + 65 < cLine) (ha : ER X C E a ma) (hb : ER X C E b mb) : EC X C E .Eq a b (mEqR false ma mb) := by
  obtain ⟨ta, pa, qa⟩ := ha
  obtain ⟨tb, pb, qb⟩ := hb
  exact ⟨_, sim_eqR (fun x y H Q d e h1 h2 h3 h4 q => ⟨d, e, hk ▸ h1, hk ▸ h2, h3, h4, by simpa using q⟩) qa qb, fun _ => pe_cmpR (op_eqD (by omega)) pa pb (nomark _), fun _ => pt_cmpR (op_eqD (by omega)) pa pb (nomark _)⟩
theorem ec_neR {ma mb : En → M D} (hk : X.K = C.K) (hu : X.A.units + 65 < cLine) (ha : ER X C E a ma) (hb : ER X C E b mb) : EC X C E .NotEq a b (mEqR true ma mb) := by
  obtain ⟨ta, pa, qa⟩ := ha
  obtain ⟨tb, pb, qb⟩ := hb
  exact ⟨_, sim_eqR (fun x y H Q d e h1 h2 h3 h4 q => ⟨d, e, hk ▸ h1, hk ▸ h2, h3, h4, by simpa using q⟩) qa qb, fun _ => pe_cmpR (op_neD (by omega)) pa pb (nomark _), fun _ => pt_cmpR (op_neD (by omega)) pa pb (nomark _)⟩
/-! a tuple of names leaves the frame -/
def mTupV (is : List Nat) : En → M O := fun r s => match is.mapM (fun i => match r[i]? with | some (.ob o) => some o | _ => none) with
  | some os => if is.Nodup ∧ is.length ≤ lineN then .ok (.tup os) s else .bad
  | none => .bad
theorem em_tup2 {i j : Nat} {x y : Str} {x1} {px py : Pos} (hx : PE X (.Name x px) (tVar i)) (hy : PE X (.Name y py) (tVar j)) (st : starEach [.Name x px, .Name y py] X.env = (false, eval (.Name x px) X.env) :: starEach [.Name y py] X.env := by rfl) (st2 : starEach [.Name y py] X.env = (false, eval (.Name y py) X.env) :: starEach [] X.env := by rfl) :
    EM X C E (.Tuple [.Name x px, .Name y py] x1 pos) (mTupV [i, j]) := by
  refine ⟨_, pe_tup (pa_cons hx (pa_cons hy pa_nil st2) st), fun g Hs0 H0 r σ Hs H s Q R w => ?_⟩
  obtain ⟨F, RF⟩ := R.srf
  unfold mTupV at w
  split at w
  case h_2 => exact w.elim
  rename_i os eo
  split at w
  case isFalse => exact w.elim
  rename_i hc
  have ij : i ≠ j := by have := hc.1; simp at this; exact this
  simp only [List.mapM_cons, List.mapM_nil] at eo
  split at eo
  case h_2 => simp at eo
  rename_i o1 e1
  split at eo
  case h_2 => simp at eo
  rename_i o2 e2
  simp at eo
  subst eo
  obtain ⟨v1, a1, b1⟩ := RF.at_ i _ e1
  obtain ⟨v2, a2, b2⟩ := RF.at_ j _ e2
  refine ⟨v1, a1, v2, a2, by show 2 ≤ sizeLine; rw [sizeLine_eq]; decide, fun p hp => ?_⟩
  have n2 := R.start.newO (o := .tup [v1, v2]) hp
  refine w (.ref p) (F i ++ (F j ++ [])) Hs _ n2 (.tup (SqT.of upd_same) (.cons (b1.next n2) (.cons (b2.next n2) .nil fun _ _ m => nomatch m) fun a m m2 => ?_)) fun a m => ?_
  · rw [List.append_nil] at m2
    exact ij (RF.di i j a m m2)
  · rw [List.append_nil] at m
    rcases List.mem_append.mp m with m | m
    · exact (RF.nw i a m).1
    · exact (RF.nw j a m).1
end
/-! ### small things for printed proofs -/
theorem u65 {k : Nat} {A : Around} (h : Room k A) : A.units + 65 < cLine := by have := h.un; omega
theorem passA {X : Cx} {E : XK} : Passes CX0 X E := fun _ _ _ _ _ _ _ h => h.elim
theorem ss_nox {X : Cx} {C : Ct} {E : XK} {st : List Stmt} {m : En → M Fl} (h : SS X.nox C E st m) : SS X C E st m := let ⟨t, p, q⟩ := h; ⟨t, p.nox, q⟩
theorem fg_mk0 {P : Program} {w : World} {K : PySem.W.Frag} {mg : Str → Option Value} {base : Heap} {C : Ct} {x qual : Str} {st : Stmt} {f : Addr} {fd : FuncData} {N ps : List Str} {k : Nat} {body : En → M Fl} (F : Fun K x qual st f fd) (S : FnScope N ps (defScope st)) (hps : ps.length ≤ N.length)
    (hbody : ∀ (cdv : Value) (A : Around) (outer : List Env) (s : Shared) (H : Hp) (E : XK), A.guards = some [] → Room k (A.deeper (envOfC qual (defScope st) s.heap.objs.size f cdv)) →
      SS (cxOf CX0 P w K mg base N qual (defScope st) f cdv A outer s H E).nox C E (defBody st) body) : FnG P w K mg base CX0 (k + 1) f fd ps (spM C (mFun ps.length N.length body)) :=
  fg_mk F S hps fun cdv A outer s H E gd hr => ss_nox (hbody cdv A outer s H E gd hr)
end Lone
namespace Lone
open PySem PySem.Spec PyProof.Rows L2
section
variable {X : Cx} {C : Ct} {E : XK} {e : Expr} {pos : Pos}
/-- -e -/
def mNeg (m : En → M O) : En → M O := fun r => bnd (m r) fun o s => match o.int? with
  | some i => .ok (iO (-i)) s
  | none => .bad
theorem eo_neg {m : En → M O} (h : EB X C E e m) : EO X C E (.UnaryOp .USub e pos) (mNeg m) := by
  obtain ⟨t, pe, q⟩ := h
  refine ⟨_, pe_un un_neg pe, fun g Hs0 H0 r σ Hs H s Q R w => q g Hs0 H0 r σ Hs H s _ R (wp_mono (wp_bnd w) (fun o s1 w1 v F Hs1 H1 n1 r1 => ?_) fun _ _ _ x => x)⟩
  split at w1
  · rename_i i ei
    exact ⟨i, r1.int ei, w1 _ [] Hs1 H1 n1 (.sh (.int _)) fun _ m => nomatch m⟩
  · exact w1.elim
end
theorem _root_.L2.Fun.kb {K : PySem.W.Frag} {x qual : Str} {st : Stmt} {f : Addr} {fd : FuncData} {ps ks : List Str} {π : List Nat} (F : Fun K x qual st f fd)
    (h : ∀ (kV doc pm : Value) (an : Option Addr) (cdv ct : Value) (ws : List Value), ws.length = ks.length → bindArgs (PySem.W.fnOf x qual (defArgs st) (defBody st) (defScope st) .none kV doc pm an cdv ct) ⟨[], ks.zip ws⟩ = pure (ps.zip (permL π ws))) : KB K fd ps ks π := by
  obtain ⟨oc, od, kV, doc, pm, an, cdv, ct, osl, rfl, lk, hcd⟩ := F.ex
  exact ⟨fun s ws _ hl => .of_eq (h kV doc pm an cdv ct ws hl)⟩
/-- the built-in functions, as data -/
theorem max_eq (i j : Int) : (if j > i then j else i) = (if j > i then j else i) := rfl
end Lone
namespace Lone
open PySem PySem.Spec PyProof.Rows L2
/-! ### list(range(a, b, c)) -/
def r3n (a b c : Int) : Nat := (Builtin.Range.rangeSize a b c).toNat
def r3ok (a b c : Int) : Bool := decide (c ≠ 0) && Builtin.Range.small a b c && decide (c.natAbs < 1073741824) && decide (Builtin.Range.rangeSize a b c = ((Builtin.Range.rangeSize a b c).toNat : Int)) && Nat.ble (r3n a b c) lineN
def rg3V (a b c : Int) : List V := (List.range (r3n a b c)).map fun i => V.int (a + (i : Nat) * c)
theorem vals_rg3 {a b c : Int} {n : Nat} {acc : Array Value} (hn : r3n a b c = n) (h : ItemsOf (fun i v => ∃ t, v = .int (a + i * c) t) acc n) : Vals (rg3V a b c) acc.toList := by
  have e : acc.toList.length = n := by rw [Array.length_toList]; exact h.1
  unfold rg3V
  rw [hn, ← e]
  refine vals_of_get acc.toList _ fun j u hj => ?_
  obtain ⟨t, rfl⟩ := h.2 j u (by rw [← hj, Array.getElem?_toList])
  exact ⟨t, rfl⟩
section
variable {X : Cx} {C : Ct} {E : XK} {e1 e2 e3 : Expr} {t1 t2 t3 : TE} {p p2 pos pos2 : Pos}
def tLst3 (t1 t2 t3 : TE) : TE := fun σ H Q => t1 σ H fun x H1 => t2 σ H1 fun y H2 => t3 σ H2 fun z H3 => ∃ a b c, x = .int a ∧ y = .int b ∧ z = .int c ∧ r3ok a b c = true ∧ ∀ q, H3 q = none → Q (.ref q) (upd H3 q (.lst (rg3V a b c)))
theorem pe_list3 (hc : X.calm = true) (hg : Gl X "list") (hm : X.mg "list" = none) (hg2 : Gl X "range") (hm2 : X.mg "range" = none) (h1 : PE X e1 t1) (h2 : PE X e2 t2) (h3 : PE X e3 t3)
    (na : starEach [.Call (.Name "range" p2) [e1, e2, e3] [] pos2] X.env = (false, eval (.Call (.Name "range" p2) [e1, e2, e3] [] pos2) X.env) :: starEach [] X.env := by rfl)
    (na1 : starEach [e1, e2, e3] X.env = (false, eval e1 X.env) :: starEach [e2, e3] X.env := by rfl) (na2 : starEach [e2, e3] X.env = (false, eval e2 X.env) :: starEach [e3] X.env := by rfl) (na3 : starEach [e3] X.env = (false, eval e3 X.env) :: starEach [] X.env := by rfl)
    (q1 : (backTo pos2 (starEach [e2, e3] X.env)).any (·.1) = false := by rfl) (q2 : (backTo pos2 (starEach [e3] X.env)).any (·.1) = false := by rfl) :
    PE X (.Call (.Name "list" p) [.Call (.Name "range" p2) [e1, e2, e3] [] pos2] [] pos) (tLst3 t1 t2 t3) := by
  refine ⟨fun pins s σ H Q I h => ?_⟩
  refine Call_ (ld_blt I hg hm boot_list (PyProof.Rows.callWith_type1 (PyProof.Rows.args_cons (Call_ (ld_blt I hg2 hm2 boot_range (PyProof.Rows.callWith_type1 (PyProof.Rows.args_cons (thn (h1.run pins s σ H _ I h) fun v s1 ⟨x, H1, I1, r1, k1⟩ =>
    PyProof.Rows.args_cons (thn (h2.run pins s1 σ H1 _ I1 k1) fun v2 s2 ⟨y, H2, I2, r2, k2⟩ => one_arg h3 I2 k2 (fun v3 s3 z H3 I3 r3 k3 => ?_) na3) na2) na1) na1 q1))) na) na))
  obtain ⟨a, b, c, rfl, rfl, rfl, ok, q⟩ := k3
  obtain ⟨t, rfl⟩ := r1
  obtain ⟨t', rfl⟩ := r2
  obtain ⟨t'', rfl⟩ := r3
  unfold r3ok at ok
  simp only [Bool.and_eq_true, decide_eq_true_eq] at ok
  obtain ⟨⟨⟨⟨c0, sm⟩, cs⟩, rs⟩, ln⟩ := ok
  have ln := Nat.le_of_ble_eq_true ln
  unfold lineN at ln
  refine call_range_3 c0 (args_nil ?_) (Or.inl (PyProof.noPylong_small cs))
  have I4 : Inv X pins σ H3 { s3 with heap := s3.heap.push { cls := Value.type "range", data := Data.fields #[Value.int a t, Value.int b t', Value.int c t''] } } := I3.kept (t' := s3.toks) fun b u e => Heap.get?_push_of_some _ e
  have I5 : Inv X pins σ H3 { s3 with heap := s3.heap.push { cls := Value.type "range", data := Data.fields #[Value.int a t, Value.int b t', Value.int c t''] }, toks := s3.toks } := I4
  refine call_list_range (n := r3n a b c) (I5.ok.hd hc) (IsRange.new ..) sm rs ln fun h' tk acc c' hk e' hi => ?_
  refine ⟨.ref _, upd H3 _ (.lst (rg3V a b c)), I5.laid hk (Nat.le_refl _) (show ObjOk X.prog X.w _ _ _ (.lst (rg3V a b c)) from ⟨?_, acc.toList, c', vals_rg3 rfl hi, ?_⟩), rfl, q _ (I5.hok.fresh (Nat.le_refl _))⟩
  · unfold rg3V
    rw [List.length_map, List.length_range, sizeLine_eq]; omega
  · rw [Array.toArray_toList]; exact e'
def rg3D (a b c : Int) : List D := (List.range (r3n a b c)).map fun i => D.int (a + (i : Nat) * c)
theorem rg3_rps {K : PySem.W.Frag} {g : Option Addr} {H : Hp} (a c : Int) (l : List Nat) : Rps K g H (l.map fun i => V.int (a + (i : Nat) * c)) (l.map fun i => D.int (a + (i : Nat) * c)) := by
  induction l with
  | nil => exact .nil
  | cons i l ih => exact .cons (.int _) ih
def mLr3 (m1 m2 m3 : En → M O) : En → M O := fun r => bnd (m1 r) fun o1 => bnd (m2 r) fun o2 => bnd (m3 r) fun o3 s => match o1.int?, o2.int?, o3.int? with
  | some a, some b, some c => if r3ok a b c = true then .ok (.lst ((rg3D a b c).map .sh)) s else .bad
  | _, _, _ => .bad
theorem eo_listR3 {m1 m2 m3 : En → M O} (hc : X.calm = true) (hg : Gl X "list") (hm : X.mg "list" = none) (hg2 : Gl X "range") (hm2 : X.mg "range" = none) (h1 : EB X C E e1 m1) (h2 : EB X C E e2 m2) (h3 : EB X C E e3 m3)
    (na : starEach [.Call (.Name "range" p2) [e1, e2, e3] [] pos2] X.env = (false, eval (.Call (.Name "range" p2) [e1, e2, e3] [] pos2) X.env) :: starEach [] X.env := by rfl)
    (na1 : starEach [e1, e2, e3] X.env = (false, eval e1 X.env) :: starEach [e2, e3] X.env := by rfl) (na2 : starEach [e2, e3] X.env = (false, eval e2 X.env) :: starEach [e3] X.env := by rfl) (na3 : starEach [e3] X.env = (false, eval e3 X.env) :: starEach [] X.env := by rfl)
    (q1 : (backTo pos2 (starEach [e2, e3] X.env)).any (·.1) = false := by rfl) (q2 : (backTo pos2 (starEach [e3] X.env)).any (·.1) = false := by rfl) :
    EO X C E (.Call (.Name "list" p) [.Call (.Name "range" p2) [e1, e2, e3] [] pos2] [] pos) (mLr3 m1 m2 m3) := by
  obtain ⟨t1, pe1, k1⟩ := h1
  obtain ⟨t2, pe2, k2⟩ := h2
  obtain ⟨t3, pe3, k3⟩ := h3
  refine ⟨_, pe_list3 hc hg hm hg2 hm2 pe1 pe2 pe3 na na1 na2 na3 q1 q2, fun g Hs0 H0 r σ Hs H s Q R w => k1 g Hs0 H0 r σ Hs H s _ R (wp_mono (wp_bnd w) (fun o1 s1 w1 v1 F1 Hs1 H1 n1 r1 => ?_) fun _ _ _ x => x)⟩
  refine k2 g Hs0 H0 r σ Hs1 H1 s1 _ (R.next n1) (wp_mono (wp_bnd w1) (fun o2 s2 w2 v2 F2 Hs2 H2 n2 r2 => ?_) fun _ _ _ x => x.later n1)
  refine k3 g Hs0 H0 r σ Hs2 H2 s2 _ (R.next (n1.trans n2)) (wp_mono (wp_bnd w2) (fun o3 s3 w3 v3 F3 Hs3 H3 n3 r3 => ?_) fun _ _ _ x => x.later (n1.trans n2))
  split at w3
  · rename_i a b c ea eb ec
    split at w3
    · rename_i hj
      cases r1.int ea
      cases r2.int eb
      cases r3.int ec
      exact ⟨a, b, c, rfl, rfl, rfl, hj, new_lst n3.self (rg3_rps _ _ _) rfl fun v F Hs' H' n4 r4 f4 => w3 v F Hs' H' (((n1.trans n2).trans n3).trans n4) r4 fun a m => n1.there (n2.there (n3.there (f4 a m)))⟩
    · exact w3.elim
  · exact w3.elim
end
end Lone
namespace Lone
open PySem PySem.Spec PyProof.Rows L2
section
variable {X : Cx} {C : Ct} {E : XK}
theorem st_parA {i j : Nat} {b1 b2 : Bd} {ms : En → M (List O)} {x y : Str} {a b : Expr} {px py pt pos : Pos} {kt k2 pt2} (hc : X.calm = true) (hN : X.N.Nodup) (hi : X.N[i]? = some x) (hj : X.N[j]? = some y) (hij : i ≠ j)
    (hx : X.env.scope.names.lookup x = some .local) (hy : X.env.scope.names.lookup y = some .local) (n1 : NameB C i b1) (n2 : NameB C j b2) (h : AO X C E [a, b] ms)
    (hw : swappedStores [.Tuple [.Name x px, .Name y py] kt pt] (.Tuple [a, b] k2 pt2) X.env = pure (some [x, y]))
    (hs : swapsWithSole [.Tuple [.Name x px, .Name y py] kt pt] (.Tuple [a, b] k2 pt2) pos.line X.env = pure false := by rfl) :
    ST X C E (.Assign [.Tuple [.Name x px, .Name y py] kt pt] (.Tuple [a, b] k2 pt2) pos) (mPar [b1, b2] ms) :=
  st_par2 (tgs := .Constant .none 0 ⟨0, 0, 0, 0⟩) h n1 n2 fun ta pa => ps_par hc hN hi hj hij hx hy pa hw hs
theorem st_parB {i j l : Nat} {b1 b2 b3 : Bd} {ms : En → M (List O)} {x y z : Str} {a b c : Expr} {px py pz pt pos : Pos} {kt k2 pt2} (hc : X.calm = true) (hN : X.N.Nodup) (hi : X.N[i]? = some x) (hj : X.N[j]? = some y) (hl : X.N[l]? = some z) (hij : i ≠ j) (hil : i ≠ l) (hjl : j ≠ l)
    (hx : X.env.scope.names.lookup x = some .local) (hy : X.env.scope.names.lookup y = some .local) (hz : X.env.scope.names.lookup z = some .local) (n1 : NameB C i b1) (n2 : NameB C j b2) (n3 : NameB C l b3) (h : AO X C E [a, b, c] ms)
    (hw : swappedStores [.Tuple [.Name x px, .Name y py, .Name z pz] kt pt] (.Tuple [a, b, c] k2 pt2) X.env = pure (some [x, y, z]))
    (hs : swapsWithSole [.Tuple [.Name x px, .Name y py, .Name z pz] kt pt] (.Tuple [a, b, c] k2 pt2) pos.line X.env = pure false := by rfl) :
    ST X C E (.Assign [.Tuple [.Name x px, .Name y py, .Name z pz] kt pt] (.Tuple [a, b, c] k2 pt2) pos) (mPar [b1, b2, b3] ms) :=
  st_par3 h n1 n2 n3 fun ta pa => ps_par3 hc hN hi hj hl hij hil hjl hx hy hz pa hw hs
/-- a new thing, shared at once -/
def mSh (m : En → M O) : En → M O := fun r => bnd (m r) fun o s => .ok (.sh o.d) s
theorem eo_sh {e : Expr} {m : En → M O} (h : EO X C E e m) : EO X C E e (mSh m) := by
  obtain ⟨t, pe, q⟩ := h
  refine ⟨t, pe, fun g Hs0 H0 r σ Hs H s Q R w => q g Hs0 H0 r σ Hs H s _ R (wp_mono (wp_bnd w) (fun o s1 w1 v F Hs1 H1 n1 r1 f1 => ?_) fun _ _ _ x => x)⟩
  obtain ⟨Hs2, n2, _, rp⟩ := r1.share n1 f1
  exact w1 v [] Hs2 H1 n2 (.sh rp) fun _ m => nomatch m
end
end Lone
namespace Lone
open PySem PySem.Spec PyProof.Rows L2
/-! ### bounds on data, for repr and == -/
theorem textFrom_free {k : Nat} (hk : 1114111 < k) : ∀ (ts : List Str) (n : Nat) (acc : Str), k ∉ acc.cps.toList → (∀ t ∈ ts, k ∉ t.cps.toList) → k ∉ (textFrom n acc ts).cps.toList
  | [], _, acc, h, _ => h
  | t :: r, n, acc, h, ht => by
    refine textFrom_free hk r (n + 1) _ (fun hm => ?_) fun u hu => ht u (List.mem_cons_of_mem _ hu)
    rw [mem_cps_append, mem_cps_append] at hm
    rcases hm with (hm | hm) | hm
    · exact h hm
    · split at hm
      · rw [signs_sep] at hm
        simp only [List.mem_cons, List.not_mem_nil, or_false] at hm
        omega
      · exact absurd hm (by rw [show (("" : String) : Str).cps.toList = [] by decide]; exact fun z => nomatch z)
    · exact ht t (List.mem_cons_self ..) hm
theorem listText_free {k : Nat} (hk : 1114111 < k) (ts : List Str) (ht : ∀ t ∈ ts, k ∉ t.cps.toList) : k ∉ (listText ts).cps.toList := by
  intro hm
  unfold listText at hm
  rw [mem_cps_append] at hm
  rcases hm with hm | hm
  · refine textFrom_free hk ts 0 "[" (fun z => ?_) ht hm
    rw [signs_lbrack] at z
    simp only [List.mem_cons, List.not_mem_nil, or_false] at z
    omega
  · rw [signs_rbrack] at hm
    simp only [List.mem_cons, List.not_mem_nil, or_false] at hm
    omega
theorem tupleText_free {k : Nat} (hk : 1114111 < k) (ts : List Str) (ht : ∀ t ∈ ts, k ∉ t.cps.toList) : k ∉ (tupleText ts).cps.toList := by
  intro hm
  unfold tupleText at hm
  rw [mem_cps_append, mem_cps_append, mem_join] at hm
  rcases hm with (hm | (⟨t, h1, h2⟩ | ⟨_, hm⟩)) | hm
  · rw [signs_lparen] at hm
    simp only [List.mem_cons, List.not_mem_nil, or_false] at hm
    omega
  · exact ht t h1 h2
  · rw [signs_sep] at hm
    simp only [List.mem_cons, List.not_mem_nil, or_false] at hm
    omega
  · split at hm
    · rw [show ((",)" : String) : Str).cps.toList = [44, 41] by decide] at hm
      simp only [List.mem_cons, List.not_mem_nil, or_false] at hm
      omega
    · rw [show ((")" : String) : Str).cps.toList = [41] by decide] at hm
      simp only [List.mem_cons, List.not_mem_nil, or_false] at hm
      omega
structure Gd (k w : Nat) (d : D) : Prop where
  ok : d.ok = true
  sh : d.py.showable = true
  ls : d.py.leavesShort 13 = true
  dp : d.dep ≤ k
  wt : d.py.weight ≤ w
  fr : ∀ c, 1114111 < c → c ∉ d.py.shown.cps.toList
theorem Gd.mono {k k' w w' : Nat} {d : D} (h : Gd k w d) (hk : k ≤ k') (hw : w ≤ w') : Gd k' w' d := ⟨h.ok, h.sh, h.ls, Nat.le_trans h.dp hk, Nat.le_trans h.wt hw, h.fr⟩
theorem Gd.non {k w : Nat} : Gd k w .non := ⟨rfl, rfl, rfl, Nat.zero_le _, by simp only [D.py, PyData.weight]; exact Nat.zero_le _, fun c hc hm => by
  simp only [D.py] at hm
  rw [PyData.shown_none, show (("None" : String) : Str).cps.toList = [78, 111, 110, 101] by decide] at hm
  simp only [List.mem_cons, List.not_mem_nil, or_false] at hm
  omega⟩
theorem Gd.bl {k w : Nat} {b : Bool} : Gd k w (.bl b) := ⟨rfl, rfl, rfl, Nat.zero_le _, by simp only [D.py, PyData.weight]; exact Nat.zero_le _, fun c hc hm => by
  simp only [D.py] at hm
  rw [mem_shown_bool] at hm
  split at hm <;> simp only [List.mem_cons, List.not_mem_nil, or_false] at hm <;> omega⟩
theorem Gd.int {k w : Nat} {i : Int} (h : i.natAbs < 10 ^ 12) (hw : 40 ≤ w) : Gd k w (.int i) := by
  have hl : i.natAbs.log2 < 40 ∨ i = 0 := by
    by_cases e : i = 0
    · exact .inr e
    · left
      exact (Nat.log2_lt (by omega)).mpr (by omega)
  refine ⟨rfl, ?_, ?_, Nat.zero_le _, ?_, fun c hc hm => by simp only [D.py] at hm; exact shown_int_free' (by omega) i hm⟩
  · simp only [D.py, PyData.showable]
    rcases hl with hl | rfl
    · exact decide_eq_true (by omega)
    · decide
  · simp only [D.py, PyData.leavesShort]
    exact decide_eq_true (PyData.shown_int_le h)
  · simp only [D.py, PyData.weight]
    split
    · omega
    · rcases hl with hl | rfl
      · omega
      · contradiction
theorem Gd.list {k w : Nat} {l : List D} (h : ∀ d ∈ l, Gd k w d) : D.oks l = true ∧ PyData.showableAll (D.pys l) = true ∧ PyData.leavesShortAll 13 (D.pys l) = true ∧ D.deps l ≤ k ∧ PyData.weightAll (D.pys l) ≤ l.length * (w + 1) := by
  induction l with
  | nil => exact ⟨rfl, rfl, rfl, Nat.zero_le _, by simp [D.pys, PyData.weightAll]⟩
  | cons x r ih =>
    obtain ⟨i1, i2, i3, i4, i5⟩ := ih fun d m => h d (List.mem_cons_of_mem _ m)
    have g := h x (List.mem_cons_self ..)
    refine ⟨?_, ?_, ?_, ?_, ?_⟩
    · simp only [D.oks, g.ok, i1, Bool.and_self]
    · simp only [D.pys, PyData.showableAll, g.sh, i2, Bool.and_self]
    · simp only [D.pys, PyData.leavesShortAll, g.ls, i3, Bool.and_self]
    · simp only [D.deps]; exact Nat.max_le.mpr ⟨g.dp, i4⟩
    · simp only [D.pys, PyData.weightAll, List.length_cons]
      have := g.wt
      rw [Nat.add_mul]
      omega
theorem Gd.frs {k w : Nat} {l : List D} (h : ∀ d ∈ l, Gd k w d) (c : Nat) (hc : 1114111 < c) : ∀ t ∈ PyData.shownAll (D.pys l), c ∉ t.cps.toList :=
  shownAll_free fun x hx => by
    rw [D.pys_map] at hx
    obtain ⟨d, hd, rfl⟩ := List.mem_map.mp hx
    exact (h d hd).fr c hc
theorem Gd.lst {k w n : Nat} {l : List D} (h : ∀ d ∈ l, Gd k w d) (hn : l.length ≤ n) : Gd (k + 1) (n * (w + 1)) (.lst l) := by
  obtain ⟨h1, h2, h3, h4, h5⟩ := Gd.list h
  refine ⟨by simpa only [D.ok] using h1, by simpa only [D.py, PyData.showable] using h2, by simpa only [D.py, PyData.leavesShort] using h3, by simp only [D.dep]; omega, ?_, fun c hc hm => by simp only [D.py, PyData.shown] at hm; exact listText_free hc _ (Gd.frs h c hc) hm⟩
  simp only [D.py, PyData.weight]
  exact Nat.le_trans h5 (Nat.mul_le_mul_right _ hn)
theorem Gd.tup {k w n : Nat} {l : List D} (h : ∀ d ∈ l, Gd k w d) (hn : l.length ≤ n) : Gd (k + 1) (n * (w + 1)) (.tup l) := by
  obtain ⟨h1, h2, h3, h4, h5⟩ := Gd.list h
  refine ⟨by simpa only [D.ok] using h1, by simpa only [D.py, PyData.showable] using h2, by simpa only [D.py, PyData.leavesShort] using h3, by simp only [D.dep]; omega, ?_, fun c hc hm => by simp only [D.py, PyData.shown] at hm; exact tupleText_free hc _ (Gd.frs h c hc) hm⟩
  simp only [D.py, PyData.weight]
  exact Nat.le_trans h5 (Nat.mul_le_mul_right _ hn)
theorem Gd.ints {n : Nat} {l : List Int} (h : ∀ i ∈ l, i.natAbs < 10 ^ 12) (hn : l.length ≤ n) : Gd 1 (n * 41) (.lst (l.map .int)) := by
  refine Gd.lst (k := 0) (w := 40) (fun d m => ?_) (by rwa [List.length_map])
  obtain ⟨i, hi, rfl⟩ := List.mem_map.mp m
  exact Gd.int (h i hi) (Nat.le_refl _)
theorem Gd.fit {k w : Nat} {d : D} (h : Gd k w d) (hk : k ≤ 60) : d.fit = true := by
  unfold D.fit
  rw [h.ok, Nat.ble_eq_true_of_le (Nat.le_trans h.dp hk)]
  rfl
theorem Gd.shb {k w : Nat} {d : D} (h : Gd k w d) (hk : k ≤ 60) (hw : w ≤ 1048576) : d.shb = true := by
  unfold D.shb
  rw [h.fit hk, h.sh]
  have e : d.py.shown.length ≤ sizeLine := PyData.shown_fits (by decide) (by decide) h.ls (Nat.le_trans h.wt (by omega))
  have e2 : d.shw.length ≤ lineN := by rw [lineN_eq]; unfold D.shw; rw [Array.length_toList]; exact e
  rw [Nat.ble_eq_true_of_le e2]
  rfl
theorem Gd.shw {k w : Nat} {d : D} (h : Gd k w d) : D.fit (.str d.shw) = true := by
  unfold D.fit
  have : D.ok (.str d.shw) = true := by
    simp only [D.ok]
    rw [List.all_eq_true]
    intro c hc
    refine Nat.ble_eq_true_of_le (Nat.le_of_not_lt fun z => h.fr c z hc)
  rw [this]
  rfl
mutual
theorem D.beq_refl : ∀ d : D, d.ok = true → D.beq d d = true
  | .non, _ => rfl
  | .bl b, _ => by simp [D.beq]
  | .int i, _ => by simp [D.beq]
  | .str s, _ => by simp [D.beq]
  | .tup l, h => by simp only [D.beq]; exact D.beqs_refl l (by simpa only [D.ok] using h)
  | .lst l, h => by simp only [D.beq]; exact D.beqs_refl l (by simpa only [D.ok] using h)
  | .scr _, h => by simp only [D.ok] at h; cases h
  | .dic _, h => by simp only [D.ok] at h; cases h
  | .gen, h => by simp only [D.ok] at h; cases h
  | .fn _, h => by simp only [D.ok] at h; cases h
  | .exc _ _, h => by simp only [D.ok] at h; cases h
theorem D.beqs_refl : ∀ l : List D, D.oks l = true → D.beqs l l = true
  | [], _ => rfl
  | d :: r, h => by
    simp only [D.oks, Bool.and_eq_true] at h
    simp only [D.beqs, D.beq_refl d h.1, D.beqs_refl r h.2, Bool.and_self]
end
theorem O.allSh_map (l : List D) : O.allSh (l.map .sh) = true := by
  induction l with
  | nil => rfl
  | cons x r ih => exact ih
theorem O.ds_map (l : List D) : O.ds (l.map .sh) = l := O.ds_sh l
theorem rngF_eq (a : Int) (n : Nat) : rngF a n = ((List.range n).map fun i : Nat => a + (i : Int)).map .int := by
  induction n generalizing a with
  | zero => rfl
  | succ n ih =>
    rw [List.range_succ_eq_map, List.map_cons, List.map_map, List.map_cons]
    show D.int a :: rngF (a + 1) n = _
    rw [ih]
    congr 1
    · simp
    · congr 1
      apply List.map_congr_left
      intro i _
      show a + 1 + (i : Int) = a + ((i + 1 : Nat) : Int)
      push_cast
      omega
theorem oSub_app (a b : O) : oSub a b = fI (fun _ _ => true) (fun i j => .int (i - j)) a b := rfl
theorem oMod_app (a b : O) : oMod a b = fI (fun _ j => decide (0 < j)) (fun i j => .int (i % j)) a b := rfl
theorem oDiv_app (a b : O) : oDiv a b = fI cDiv (fun i j => .int (i / j)) a b := rfl
theorem oPow_app (a b : O) : oPow a b = fI cPow (fun i j => .int (i ^ j.toNat)) a b := rfl
theorem cmpI_app (p : Int → Int → Bool) (a b : O) : cmpI p a b = fI (fun _ _ => true) (fun i j => .bl (p i j)) a b := rfl
/-! loops -/
theorem forL_run {α : Type} {b : Bd} {mb : En → M Fl} {s : G3} (R : α → En → Prop) (f : α → D → α) : ∀ (ds : List D) (a : α) (r : En),
    (∀ a r d, d ∈ ds → R a r → ∃ r1 r2, bindB b (.sh d) r = some r1 ∧ mb r1 s = .ok (.nx r2) s ∧ R (f a d) r2) → R a r → ∃ r', forL b mb ds r s = .ok (.nx r') s ∧ R (ds.foldl f a) r'
  | [], a, r, _, h => ⟨r, rfl, h⟩
  | d :: ds, a, r, st, h => by
    obtain ⟨r1, r2, e1, e2, h2⟩ := st a r d (List.mem_cons_self ..) h
    obtain ⟨r', e3, h3⟩ := forL_run R f ds (f a d) r2 (fun a r d m => st a r d (List.mem_cons_of_mem _ m)) h2
    refine ⟨r', ?_, h3⟩
    simp only [forL, e1, bnd, e2, e3]
theorem lcL_run {b : Bd} {mt : En → M Bool} {me : En → M O} {r0 : En} {s : G3} (p : D → Bool) (g : D → D) : ∀ ds : List D,
    (∀ d ∈ ds, ∃ r1, bindB b (.sh d) r0 = some r1 ∧ mt r1 s = .ok (p d) s ∧ (p d = true → ∃ o, me r1 s = .ok o s ∧ o.d = g d)) → lcL b mt me r0 ds s = .ok ((ds.filter p).map g) s
  | [], _ => rfl
  | d :: ds, h => by
    obtain ⟨r1, e1, e2, e3⟩ := h d (List.mem_cons_self ..)
    have ih := lcL_run p g ds fun d m => h d (List.mem_cons_of_mem _ m)
    cases hp : p d with
    | true =>
      obtain ⟨o, e4, e5⟩ := e3 hp
      simp only [lcL, e1, bnd, e2, hp, if_true, e4, ih, e5, List.filter_cons, List.map_cons]
    | false =>
      rw [hp] at e2
      simp [lcL, e1, bnd, e2, hp, ih]
theorem lcL_all {b : Bd} {me : En → M O} {r0 : En} {s : G3} (g : D → D) (ds : List D) (h : ∀ d ∈ ds, ∃ r1 o, bindB b (.sh d) r0 = some r1 ∧ me r1 s = .ok o s ∧ o.d = g d) : lcL b mYes me r0 ds s = .ok (ds.map g) s := by
  have := lcL_run (b := b) (mt := mYes) (me := me) (r0 := r0) (s := s) (fun _ => true) g ds fun d m => by
    obtain ⟨r1, o, e1, e2, e3⟩ := h d m
    exact ⟨r1, e1, rfl, fun _ => ⟨o, e2, e3⟩⟩
  rwa [List.filter_eq_self.mpr (fun _ _ => rfl)] at this
/-! with draws: how often was hashed -/
def St (n : Int) (s : G3) : Prop := 0 ≤ s.c ∧ s.c ≤ n
theorem St.mono {n m : Int} {s : G3} (h : St n s) (e : n ≤ m) : St m s := ⟨h.1, Int.le_trans h.2 e⟩
theorem lcL_any {b : Bd} {mt : En → M Bool} {me : En → M O} {r0 : En} (P : D → Prop) : ∀ (ds : List D) (s : G3) (n : Int), St n s → n + ds.length ≤ 1000000 →
    (∀ d ∈ ds, ∃ r1, bindB b (.sh d) r0 = some r1 ∧ ∀ s n, St n s → n < 1000000 → ∃ c s', mt r1 s = .ok c s' ∧ St (n + 1) s' ∧ (c = true → ∃ o, me r1 s' = .ok o s' ∧ P o.d)) → ∃ out s', lcL b mt me r0 ds s = .ok out s' ∧ out.length ≤ ds.length ∧ (∀ d ∈ out, P d) ∧ St (n + ds.length) s'
  | [], s, n, hs, _, _ => ⟨[], s, rfl, Nat.le_refl _, (fun _ m => nomatch m), by simpa using hs⟩
  | d :: ds, s, n, hs, hn, h => by
    rw [List.length_cons] at hn
    obtain ⟨r1, e1, e2⟩ := h d (List.mem_cons_self ..)
    obtain ⟨c, s1, e3, h3, e4⟩ := e2 s n hs (by omega)
    obtain ⟨out, s', e5, e6, e7, h7⟩ := lcL_any P ds s1 (n + 1) h3 (by omega) fun d m => h d (List.mem_cons_of_mem _ m)
    have h8 : St (n + (d :: ds).length) s' := h7.mono (by rw [List.length_cons]; omega)
    cases c with
    | false => exact ⟨out, s', by simp [lcL, e1, bnd, e3, e5], Nat.le_succ_of_le e6, e7, h8⟩
    | true =>
      obtain ⟨o, f5, f6⟩ := e4 rfl
      refine ⟨o.d :: out, s', by simp [lcL, e1, bnd, e3, f5, e5], by simpa using e6, fun d m => ?_, h8⟩
      rcases List.mem_cons.mp m with rfl | m
      · exact f6
      · exact e7 d m
/-- drawn, one each -/
theorem lcL_each {b : Bd} {me : En → M O} {r0 : En} (P : D → Prop) : ∀ (ds : List D) (s : G3) (n : Int), St n s → n + ds.length ≤ 1000000 →
    (∀ d ∈ ds, ∃ r1, bindB b (.sh d) r0 = some r1 ∧ ∀ s n, St n s → n < 1000000 → ∃ o s', me r1 s = .ok o s' ∧ St (n + 1) s' ∧ P o.d) → ∃ out s', lcL b mYes me r0 ds s = .ok out s' ∧ out.length = ds.length ∧ (∀ d ∈ out, P d) ∧ St (n + ds.length) s'
  | [], s, n, hs, _, _ => ⟨[], s, rfl, rfl, (fun _ m => nomatch m), by simpa using hs⟩
  | d :: ds, s, n, hs, hn, h => by
    rw [List.length_cons] at hn
    obtain ⟨r1, e1, e2⟩ := h d (List.mem_cons_self ..)
    obtain ⟨o, s1, e3, h3, f6⟩ := e2 s n hs (by omega)
    obtain ⟨out, s', e5, e6, e7, h7⟩ := lcL_each P ds s1 (n + 1) h3 (by omega) fun d m => h d (List.mem_cons_of_mem _ m)
    refine ⟨o.d :: out, s', by simp [lcL, e1, bnd, mYes, e3, e5], by simpa using e6, fun d m => ?_, h7.mono (by rw [List.length_cons]; omega)⟩
    rcases List.mem_cons.mp m with rfl | m
    · exact f6
    · exact e7 d m
theorem call1 {m : List D → M O} {a : En → M O} {r : En} {s s1 s' : G3} {oa o : O} (ha : a r s = .ok oa s1) (h : m [oa.d] s1 = .ok o s') (sc : o.scal = true) : mCall m (mCons a mNil) r s = .ok o s' := by
  simp only [mCall, mCons, mNil, bnd, ha, ret, callO, O.ds, h, sc, ite_self, if_true]
theorem call2 {m : List D → M O} {a b : En → M O} {r : En} {s s1 s2 s' : G3} {oa ob o : O} (ha : a r s = .ok oa s1) (hb : b r s1 = .ok ob s2) (h : m [oa.d, ob.d] s2 = .ok o s') (sc : o.scal = true) : mCall m (mCons a (mCons b mNil)) r s = .ok o s' := by
  simp only [mCall, mCons, mNil, bnd, ha, hb, ret, callO, O.ds, h, sc, ite_self, if_true]
theorem call3 {m : List D → M O} {a b c : En → M O} {r : En} {s s1 s2 s3 s' : G3} {oa ob oc o : O} (ha : a r s = .ok oa s1) (hb : b r s1 = .ok ob s2) (hc : c r s2 = .ok oc s3) (h : m [oa.d, ob.d, oc.d] s3 = .ok o s') (sc : o.scal = true) : mCall m (mCons a (mCons b (mCons c mNil))) r s = .ok o s' := by
  simp only [mCall, mCons, mNil, bnd, ha, hb, hc, ret, callO, O.ds, h, sc, ite_self, if_true]
theorem call1s {m : List D → M O} {a : En → M O} {r : En} {s s1 s' : G3} {da : D} {o : O} (ha : a r s = .ok (.sh da) s1) (h : m [da] s1 = .ok o s') : mCall m (mCons a mNil) r s = .ok o s' := by
  simp only [mCall, mCons, mNil, bnd, ha, ret, callO, O.ds, O.d, O.allSh, h, if_true]
theorem call2s {m : List D → M O} {a b : En → M O} {r : En} {s s1 s2 s' : G3} {da db : D} {o : O} (ha : a r s = .ok (.sh da) s1) (hb : b r s1 = .ok (.sh db) s2) (h : m [da, db] s2 = .ok o s') : mCall m (mCons a (mCons b mNil)) r s = .ok o s' := by
  simp only [mCall, mCons, mNil, bnd, ha, hb, ret, callO, O.ds, O.d, O.allSh, h, if_true]
theorem call3s {m : List D → M O} {a b c : En → M O} {r : En} {s s1 s2 s3 s' : G3} {da db dc : D} {o : O} (ha : a r s = .ok (.sh da) s1) (hb : b r s1 = .ok (.sh db) s2) (hc : c r s2 = .ok (.sh dc) s3) (h : m [da, db, dc] s3 = .ok o s') : mCall m (mCons a (mCons b (mCons c mNil))) r s = .ok o s' := by
  simp only [mCall, mCons, mNil, bnd, ha, hb, hc, ret, callO, O.ds, O.d, O.allSh, h, if_true]
/-- f(b = .., a = ..) -/
theorem callK2 {m : List D → M O} {a b : En → M O} {r : En} {s s1 s2 s' : G3} {da db : D} {o : O} (ha : a r s = .ok (.sh da) s1) (hb : b r s1 = .ok (.sh db) s2) (h : m [db, da] s2 = .ok o s') : mCallK m 2 [1, 0] (mCons a (mCons b mNil)) r s = .ok o s' := by
  have e : permL [1, 0] [O.sh da, O.sh db] = [O.sh db, O.sh da] := rfl
  simp only [mCallK, mCons, mNil, bnd, ha, hb, ret, List.length_cons, List.length_nil, if_true, e, callO, O.ds, O.d, O.allSh, h]
/-! one step at a time -/
section
variable {m n : En → M Fl} {ma mb mc : En → M O} {t u : En → M Bool} {r r1 r2 : En} {s s1 s2 : G3} {o o1 o2 oa ob oc : O} {i j : Nat} {f : O → O → Option O} {d d1 d2 : D}
theorem x_seq {res : Res Fl} (h : m r s = .ok (.nx r1) s1) (k : n r1 s1 = res) : mSeq m n r s = res := by simp only [mSeq, bnd, h, k]
theorem x_seqR (h : m r s = .ok (.rt o) s1) : mSeq m n r s = .ok (.rt o) s1 := by simp only [mSeq, bnd, h]
theorem x_sh (h : ma r s = .ok o s1) (e : r.set i (.ob (.sh o.d)) = r1) : mBind (.sh i) ma r s = .ok (.nx r1) s1 := by simp only [mBind, bnd, h, bindB, e]
theorem x_ow (h : ma r s = .ok o s1) (e : r.set i (.ob o) = r1) : mBind (.ow i) ma r s = .ok (.nx r1) s1 := by simp only [mBind, bnd, h, bindB, e]
theorem x_bd {b : Bd} (h : ma r s = .ok o s1) (e : bindB b o r = some r1) : mBind b ma r s = .ok (.nx r1) s1 := by simp only [mBind, bnd, h, e]
theorem x_par {bs : List Bd} {ms : En → M (List O)} {os : List O} (h : ms r s = .ok os s1) (e : bindBs bs os r = some r1) : mPar bs ms r s = .ok (.nx r1) s1 := by simp only [mPar, bnd, h, e]
theorem x_ifT {res : Res Fl} (h : t r s = .ok true s1) (k : m r s1 = res) : mIfS t m n r s = res := by simp only [mIfS, bnd, h, if_true, k]
theorem x_ifF {res : Res Fl} (h : t r s = .ok false s1) (k : n r s1 = res) : mIfS t m n r s = res := by simp only [mIfS, bnd, h, Bool.false_eq_true, if_false, k]
theorem x_ret (h : ma r s = .ok o s1) : mRet ma r s = .ok (.rt o) s1 := by simp only [mRet, bnd, h]
theorem x_exp (h : ma r s = .ok o s1) : mExpr ma r s = .ok (.nx r) s1 := by simp only [mExpr, bnd, h]
theorem x_for {mi : En → M (List D)} {b : Bd} {ds : List D} {res : Res Fl} (h : mi r s = .ok ds s1) (k : forL b m ds r s1 = res) : mFor mi b m r s = res := by simp only [mFor, bnd, h, k]
theorem x_fun {k N : Nat} {ds : List D} (hl : ds.length = k) (e : startE N ds = r) (h : m r s = .ok (.rt o) s1) : mFun k N m ds s = .ok o s1 := by simp only [mFun, if_pos hl, e, bnd, h]
theorem x_funN {k N : Nat} {ds : List D} (hl : ds.length = k) (e : startE N ds = r) (h : m r s = .ok (.nx r1) s1) : mFun k N m ds s = .ok (.sh .non) s1 := by simp only [mFun, if_pos hl, e, bnd, h]
theorem x_op (ha : ma r s = .ok oa s1) (hb : mb r s1 = .ok ob s2) (e : f oa ob = some o) : mOp f ma mb r s = .ok o s2 := by simp only [mOp, bnd, ha, hb, e]
theorem x_opi {x y z : Int} (ha : ma r s = .ok (iO x) s1) (hb : mb r s1 = .ok (iO y) s2) (e : f (iO x) (iO y) = some (iO z)) : mOp f ma mb r s = .ok (iO z) s2 := x_op ha hb e
theorem x_v (h : r[i]? = some (.ob o)) : mV i r s = .ok o s := by simp only [mV, h]
theorem x_s (h : r[i]? = some (.ob (.sh d))) : mS i r s = .ok (.sh d) s := by simp only [mS, h]
theorem x_ix {k : Int} (ha : ma r s = .ok oa s1) (hb : mb r s1 = .ok (iO k) s2) (e : oIx s2 oa k = some o) : mIx ma mb r s = .ok o s2 := by simp only [mIx, bnd, ha, hb, iO, O.int?, e]
theorem x_ixS {k : Int} (ha : ma r s = .ok oa s1) (hb : mb r s1 = .ok (iO k) s2) (e : oIx s2 oa k = some (.sh d)) : mIxS ma mb r s = .ok (.sh d) s2 := by simp only [mIxS, bnd, ha, hb, iO, O.int?, e]
theorem x_rd (h : ma r s = .ok o s1) (e : o.d = d) (k : d.ok = true) : mRd ma r s = .ok d s1 := by simp only [mRd, bnd, h, e, k, if_true]
theorem x_eq {ma mb : En → M D} {neg c : Bool} (ha : ma r s = .ok d1 s1) (hb : mb r s1 = .ok d2 s2) (h1 : d1.fit = true) (h2 : d2.fit = true) (e : (neg != D.beq d1 d2) = c) : mEqR neg ma mb r s = .ok (bO c) s2 := by simp only [mEqR, bnd, ha, hb, h1, h2, Bool.and_self, if_true, e]
theorem x_bl {c : Bool} (h : ma r s = .ok (bO c) s1) : mBl ma r s = .ok c s1 := by simp only [mBl, bnd, h, bO, O.bl?]
theorem x_not {c : Bool} (h : t r s = .ok c s1) : mNotT t r s = .ok (!c) s1 := by simp only [mNotT, bnd, h]
theorem x_orF {x : Res Bool} (h : t r s = .ok false s1) (k : u r s1 = x) : mOrT t u r s = x := by simp only [mOrT, bnd, h, Bool.false_eq_true, if_false, k]
theorem x_orT (h : t r s = .ok true s1) : mOrT t u r s = .ok true s1 := by simp only [mOrT, bnd, h, if_true]
theorem x_andT {x : Res Bool} (h : t r s = .ok true s1) (k : u r s1 = x) : mAndT t u r s = x := by simp only [mAndT, bnd, h, if_true, k]
theorem x_andF (h : t r s = .ok false s1) : mAndT t u r s = .ok false s1 := by simp only [mAndT, bnd, h, Bool.false_eq_true, if_false]
theorem x_if (c : Bool) (h : t r s = .ok c s1) (k : (if c = true then ma r s1 else mb r s1) = .ok o s2) : mIf t ma mb r s = .ok o s2 := by simp only [mIf, bnd, h, k]
theorem x_eT (h : t r s = .ok true s1) (k : ma r s1 = .ok o s2) : mIf t ma mb r s = .ok o s2 := by simp only [mIf, bnd, h, if_true, k]
theorem x_eF (h : t r s = .ok false s1) (k : mb r s1 = .ok o s2) : mIf t ma mb r s = .ok o s2 := by simp only [mIf, bnd, h, Bool.false_eq_true, if_false, k]
theorem x_cons {ms : En → M (List O)} {os : List O} (h : ma r s = .ok o s1) (k : ms r s1 = .ok os s2) : mCons ma ms r s = .ok (o :: os) s2 := by simp only [mCons, bnd, h, k, ret]
theorem x_mSh (h : ma r s = .ok o s1) : mSh ma r s = .ok (.sh o.d) s1 := by simp only [mSh, bnd, h]
theorem x_nil : mNil r s = .ok [] s := rfl
theorem x_consR {ma : En → M D} {ms : En → M (List D)} {os : List D} (h : ma r s = .ok d s1) (k : ms r s1 = .ok os s2) : mConsR ma ms r s = .ok (d :: os) s2 := by simp only [mConsR, bnd, h, k]
theorem x_nilR : mNilR r s = .ok [] s := rfl
theorem x_lst {ms : En → M (List O)} {os : List O} (h : ms r s = .ok os s1) (k : os.length ≤ 1000) : mLst ms r s = .ok (.lst os) s1 := by simp only [mLst, bnd, h, if_pos (Nat.le_trans k (show 1000 ≤ lineN by decide))]
theorem x_tup {ms : En → M (List O)} {os : List O} (h : ms r s = .ok os s1) (k : os.length ≤ 1000) : mTup ms r s = .ok (.tup os) s1 := by simp only [mTup, bnd, h, if_pos (Nat.le_trans k (show 1000 ≤ lineN by decide))]
theorem x_lstR {ms : En → M (List D)} {os : List D} (h : ms r s = .ok os s1) (k : os.length ≤ 1000) : mLstR ms r s = .ok (.lst os) s1 := by simp only [mLstR, bnd, h, if_pos (Nat.le_trans k (show 1000 ≤ lineN by decide))]
theorem x_cb {g : List O → Option O} {ms : En → M (List O)} {os : List O} (h : ms r s = .ok os s1) (e : g os = some o) : mCB g ms r s = .ok o s1 := by simp only [mCB, bnd, h, e]
theorem x_lc {mi : En → M (List D)} {b : Bd} {vs : List Nat} {ds out : List D} (h : mi r s = .ok ds s1) (e : wipeE r vs = r1) (k : lcL b t ma r1 ds s1 = .ok out s2) (hl : out.length ≤ 100000) : mLc mi b t ma vs r s = .ok (.lst (out.map .sh)) s2 := by
  have h3 : out.length ≤ lineN := Nat.le_trans hl (by decide)
  simp only [mLc, bnd, h, e, noX, k, if_pos h3]
theorem x_r1 {ms : En → M (List O)} {k : Int} (h : ms r s = .ok [iO k] s1) (hk : inR k = true) : mIr1 ms r s = .ok (rngF 0 k.toNat) s1 := by simp only [mIr1, bnd, h, iO, O.int?, hk, if_true]
theorem x_il (h : ma r s = .ok o s1) {l : List D} (e : o.d = .lst l) : mIl ma r s = .ok l s1 := by simp only [mIl, bnd, h, e]
theorem x_ie {l : List D} (h : ma r s = .ok o s1) (e : o.d = .lst l) : mIe (mCons ma mNil) r s = .ok (enumL 0 l) s1 := by simp only [mIe, mCons, mNil, bnd, ret, h, e]
theorem x_repr {md : En → M D} (h : md r s = .ok d s1) (e : d.shb = true) : mReprR md r s = .ok (.sh (.str d.shw)) s1 := by simp only [mReprR, bnd, h, e, if_true]
theorem x_lr2 {x y : Int} (ha : ma r s = .ok (iO x) s1) (hb : mb r s1 = .ok (iO y) s2) (h : inR24 x y = true) : mLr2 ma mb r s = .ok (.lst ((rngF x (y - x).toNat).map .sh)) s2 := by simp only [mLr2, bnd, ha, hb, iO, O.int?, h, if_true]
theorem x_len {l : List D} (h : ma r s = .ok o s1) (e : o.d = .lst l) : mCB oLen (mCons ma mNil) r s = .ok (iO l.length) s1 := by simp only [mCB, mCons, mNil, ret, bnd, h, oLen, e]
theorem x_sum {l : List Int} (h : ma r s = .ok o s1) (e : o.d = .lst (l.map .int)) : mCB (oOfInts fun l => some (iO l.sum)) (mCons ma mNil) r s = .ok (iO l.sum) s1 := by simp only [mCB, mCons, mNil, ret, bnd, h, oOfInts, e, D.ints_map]
theorem x_list {l : List D} (h : ma r s = .ok o s1) (e : o.items = some l) : mCB oList (mCons ma mNil) r s = .ok (.lst (l.map .sh)) s1 := by simp only [mCB, mCons, mNil, ret, bnd, h, oList, e]
end
theorem forL_cons {b : Bd} {mb : En → M Fl} {d : D} {ds : List D} {r r1 r2 : En} {s s1 : G3} (e : bindB b (.sh d) r = some r1) (h : mb r1 s = .ok (.nx r2) s1) : forL b mb (d :: ds) r s = forL b mb ds r2 s1 := by
  simp only [forL, e, bnd, h]
/-- a loop over 0 .. n - 1, the frame known at each turn -/
theorem forL_rng {b : Bd} {mb : En → M Fl} {s : G3} (F : Nat → Sl → En) (n : Nat) (hb : ∀ k x, k < n → bindB b (.sh (.int (k : Int))) (F k x) = some (F k (.ob (.sh (.int (k : Int))))))
    (hs : ∀ k, k < n → mb (F k (.ob (.sh (.int (k : Int))))) s = .ok (.nx (F (k + 1) (.ob (.sh (.int (k : Int)))))) s) (x : Sl) : ∃ x', forL b mb (rngF 0 n) (F 0 x) s = .ok (.nx (F n x')) s := by
  have key : ∀ j k x, k + j = n → ∃ x', forL b mb (rngF (k : Int) j) (F k x) s = .ok (.nx (F n x')) s := by
    intro j
    induction j with
    | zero => intro k x e; exact ⟨x, by rw [show k = n by omega]; rfl⟩
    | succ j ih =>
      intro k x e
      obtain ⟨x', h⟩ := ih (k + 1) (.ob (.sh (.int (k : Int)))) (by omega)
      refine ⟨x', ?_⟩
      simp only [rngF, forL, hb k x (by omega), bnd, hs k (by omega)]
      rw [show ((k : Int) + 1) = ((k + 1 : Nat) : Int) by push_cast; rfl]
      exact h
  exact key n 0 x (by omega)
theorem eq_ii (x y : Int) : (false != D.beq (iO x).d (iO y).d) = (x == y) := by show (false != (x == y)) = _; simp
theorem ne_ii (x y : Int) : (true != D.beq (iO x).d (iO y).d) = !(x == y) := by show (true != (x == y)) = _; simp
theorem lcM_run {α : Type} {b : Bd} {mt : En → M Bool} {me : En → M O} {r0 : En} {s : G3} (f : α → D) (p : α → Bool) (g : α → D) : ∀ xs : List α,
    (∀ x ∈ xs, ∃ r1, bindB b (.sh (f x)) r0 = some r1 ∧ mt r1 s = .ok (p x) s ∧ (p x = true → ∃ o, me r1 s = .ok o s ∧ o.d = g x)) → lcL b mt me r0 (xs.map f) s = .ok ((xs.filter p).map g) s
  | [], _ => rfl
  | x :: xs, h => by
    obtain ⟨r1, e1, e2, e3⟩ := h x (List.mem_cons_self ..)
    have ih := lcM_run f p g xs fun d m => h d (List.mem_cons_of_mem _ m)
    cases hp : p x with
    | true =>
      obtain ⟨o, e4, e5⟩ := e3 hp
      simp only [List.map_cons, lcL, e1, bnd, e2, hp, if_true, e4, ih, e5, List.filter_cons]
    | false =>
      rw [hp] at e2
      simp only [List.map_cons, lcL, e1, bnd, e2, hp, ih, Bool.false_eq_true, if_false, List.filter_cons]
theorem lcM_all {α : Type} {b : Bd} {me : En → M O} {r0 : En} {s : G3} (f g : α → D) (xs : List α) (h : ∀ x ∈ xs, ∃ r1 o, bindB b (.sh (f x)) r0 = some r1 ∧ me r1 s = .ok o s ∧ o.d = g x) : lcL b mYes me r0 (xs.map f) s = .ok (xs.map g) s := by
  have := lcM_run (b := b) (mt := mYes) (me := me) (r0 := r0) (s := s) f (fun _ => true) g xs fun d m => by
    obtain ⟨r1, o, e1, e2, e3⟩ := h d m
    exact ⟨r1, e1, rfl, fun _ => ⟨o, e2, e3⟩⟩
  rwa [List.filter_eq_self.mpr (fun _ _ => rfl)] at this
theorem oAdd_ll {a b : O} {l m : List D} (ha : a.items = some l) (hb : b.items = some m) (hi : a.int? = none) (hl : l.length + m.length ≤ 100000) : oAdd a b = some (.lst ((l ++ m).map .sh)) := by
  have h3 : l.length + m.length ≤ lineN := Nat.le_trans hl (by decide)
  unfold oAdd fI fCatL alt
  rw [hi, ha, hb]
  simp only [if_pos h3]
theorem fRepL_eq {a b : O} {l : List D} {k : Int} (ha : a.items = some l) (hb : b.int? = some k) (h : k < 2 ^ 62 ∧ -(2 ^ 62) < k ∧ l.length * k.toNat ≤ lineN) : fRepL a b = some (.lst ((List.replicate k.toNat l).flatten.map .sh)) := by
  unfold fRepL
  simp only [ha, hb, if_pos h]
theorem oMul_rep {a b o : O} (ha : a.int? = none) (h : fRepL a b = some o) : oMul a b = some o := by
  unfold oMul fI alt
  simp only [ha, h]
theorem sh_d (d : D) : (O.sh d).d = d := rfl
theorem lst_d (l : List D) : (O.lst (l.map .sh)).d = .lst l := congrArg D.lst (O.ds_map l)
theorem lst_items (l : List D) : (O.lst (l.map .sh)).items = some l := O.shs_map l
theorem oMul_2 (k x : Int) (h : -18446744073709551616 < k) (h' : k < 18446744073709551616) : oMul (iO k) (iO x) = some (iO (k * x)) := by
  have : cMul k x = true := by unfold cMul; rw [decide_eq_true h, decide_eq_true h']; rfl
  simp only [oMul, fI, alt, O.int?, iO, this, if_true]
theorem oAdd_ii (x y : Int) : oAdd (iO x) (iO y) = some (iO (x + y)) := rfl
theorem oSub_ii (x y : Int) : oSub (iO x) (iO y) = some (iO (x - y)) := rfl
theorem oMod_ii (x y : Int) (h : 0 < y) : oMod (iO x) (iO y) = some (iO (x % y)) := by simp [oMod_app, fI, O.int?, iO, h]
theorem cmp_ii (p : Int → Int → Bool) (x y : Int) : cmpI p (iO x) (iO y) = some (bO (p x y)) := rfl
/-- a new list of ints -/
def LI (l : List Int) : O := .lst ((l.map .int).map .sh)
/-- [x] * n -/
theorem rep_ok (x : Int) (n : Nat) (hn : n ≤ 1000) : oMul (.lst [iO x]) (iO (n : Int)) = some (LI (List.replicate n x)) := by
  have e : (List.replicate n [D.int x]).flatten = (List.replicate n x).map .int := by
    induction n with
    | zero => rfl
    | succ n ih => rw [List.replicate_succ, List.flatten_cons, ih (by omega), List.replicate_succ]; rfl
  have h : (n : Int) < 2 ^ 62 ∧ -(2 ^ 62) < (n : Int) ∧ [D.int x].length * (n : Int).toNat ≤ lineN := ⟨by omega, by omega, by
    rw [show (n : Int).toNat = n by omega]
    exact Nat.le_trans (show [D.int x].length * n ≤ 1000 by simp; omega) (by decide)⟩
  have e2 := fRepL_eq (a := .lst [iO x]) (b := iO (n : Int)) rfl rfl h
  rw [show (n : Int).toNat = n by omega, e] at e2
  exact oMul_rep rfl e2
theorem LI_scal (l : List Int) : (LI l).scal = true := by
  show O.scals _ = true
  induction l with
  | nil => rfl
  | cons x r ih => exact ih
theorem LI_d (l : List Int) : (LI l).d = .lst (l.map .int) := congrArg D.lst (O.ds_map _)
theorem LI_items (l : List Int) : (LI l).items = some (l.map .int) := O.shs_map _
theorem LI_ix (s : G3) (l : List Int) (a : Nat) (h : a < l.length) : oIx s (LI l) (a : Int) = some (iO (l.getD a 0)) := by
  show atI ((l.map D.int).map O.sh) (a : Int) = _
  unfold atI ixN
  rw [if_pos (by omega), if_pos (by simpa using h)]
  simp [List.getD_eq_getElem?_getD, List.getElem?_eq_getElem h]
  rfl
theorem L_ix (s : G3) (l : List Int) (a : Nat) (h : a < l.length) : oIx s (.sh (.lst (l.map .int))) (a : Int) = some (iO (l.getD a 0)) := by
  show (atI (l.map D.int) (a : Int)).map O.sh = _
  unfold atI ixN
  rw [if_pos (by omega), if_pos (by simpa using h)]
  simp [List.getD_eq_getElem?_getD, List.getElem?_eq_getElem h]
  rfl
theorem app_LI {i : Nat} {m : En → M O} {r : En} {s s' : G3} {l : List Int} {a : Int} {o : O} (h : r[i]? = some (.ob (LI l))) (hl : l.length ≤ 100000) (e : m r s = .ok o s') (eo : o.d = .int a) : mApp i m r s = .ok (.nx (r.set i (.ob (LI (l ++ [a]))))) s' := by
  unfold LI at *
  have h3 : ((l.map D.int).map O.sh).length < lineN := by rw [List.length_map, List.length_map]; unfold lineN; omega
  simp only [mApp, h, bnd, e, if_pos h3, eo, List.map_append, List.map_cons, List.map_nil]
theorem oks_ints (c : List Int) : D.ok (.lst (c.map .int)) = true := by
  simp only [D.ok]
  induction c with
  | nil => rfl
  | cons x r ih => simp only [List.map_cons, D.oks, D.ok, ih, Bool.and_self]
theorem fit_ints (c : List Int) : D.fit (.lst (c.map .int)) = true := by
  have : D.deps (c.map .int) = 0 := by
    induction c with
    | nil => rfl
    | cons x r ih => simp only [List.map_cons, D.deps, D.dep, ih]; rfl
  unfold D.fit
  rw [oks_ints]
  simp only [D.dep, this]
  rfl
theorem fit_int (x : Int) : D.fit (.int x) = true := rfl
theorem fit_nil : D.fit (.lst []) = true := rfl
theorem inl_rng (a : Int) (n : Nat) (k : Int) : D.inl (.int k) (rngF a n) = decide (a ≤ k ∧ k < a + n) := by
  induction n generalizing a with
  | zero => simp [rngF, D.inl]
  | succ n ih =>
    simp only [rngF, D.inl, ih, D.beq]
    rw [Bool.eq_iff_iff]
    simp
    omega
theorem fit_rng (a : Int) (n : Nat) : D.fit (.lst (rngF a n)) = true := by rw [rngF_eq]; exact fit_ints _
theorem oks_rng (a : Int) (n : Nat) : D.ok (.lst (rngF a n)) = true := by rw [rngF_eq]; exact oks_ints _
theorem rng_nat (n : Nat) : rngF 0 n = (List.range n).map fun i : Nat => D.int (i : Int) := by
  rw [rngF_eq, List.map_map]
  exact List.map_congr_left fun i _ => by simp
theorem at3_0 {α : Type} (a b c : α) : atI [a, b, c] 0 = some a := rfl
theorem at3_1 {α : Type} (a b c : α) : atI [a, b, c] 1 = some b := rfl
theorem at3_2 {α : Type} (a b c : α) : atI [a, b, c] 2 = some c := rfl
theorem atI_nat {α : Type} (l : List α) (i : Nat) (h : i < l.length) : atI l (i : Int) = l[i]? := by
  unfold atI ixN
  rw [if_pos (by omega), if_pos (by omega)]
  simp
theorem bits_small (b : Int) (h : 1 ≤ b) (h' : b < 536870912) : bitsOf b / 30 = 0 := by
  unfold bitsOf
  rw [if_neg (by omega)]
  have : b.natAbs.log2 < 29 := (Nat.log2_lt (by omega)).mpr (by omega)
  omega
theorem inR_small (x : Int) (h : -1000000 ≤ x) (h' : x ≤ 1000000) : inR x = true := by
  unfold inR
  rw [decide_eq_true (by omega), decide_eq_true (by omega)]
  rfl
theorem inR24_small (x y : Int) (h : 0 ≤ x) (h' : y ≤ 1000000) (hx : x ≤ 1000000) (hy : 0 ≤ y) : inR24 x y = true := by
  unfold inR24
  rw [inR_small x (by omega) (by omega), inR_small y (by omega) (by omega), Nat.ble_eq_true_of_le (show (y - x).toNat ≤ lineN by unfold lineN; omega)]
  rfl
end Lone
namespace K64
open PySem PySem.Spec PyProof.Rows L2 Lone
def b_is_whole : En → M Fl :=
  mRet (mAnd (mIsi .I (mV 0)) (mNot (mIsi .B (mV 0))))
def m_is_whole : List D → M O := mFun 1 1 b_is_whole
def b_is_count : En → M Fl :=
  mRet (mAnd (mCall m_is_whole (mCons (mV 0) (mNil))) (mOp (cmpI fun i j => decide (j ≤ i)) (mV 0) (mC (.int 0))))
def m_is_count : List D → M O := mFun 1 1 b_is_count
def b_is_face : En → M Fl :=
  mRet (mAnd (mCall m_is_count (mCons (mV 0) (mNil))) (mOp (cmpI fun i j => decide (i ≤ j)) (mV 0) (mC (.int 1))))
def m_is_face : List D → M O := mFun 1 1 b_is_face
def b_are_coins : En → M Fl :=
  mRet (mAnd (mIsi .L (mV 0)) (mAnd (mEqR true (mRd (mV 0)) (mLstR (mNilR))) (mCB (oOfBls fun l => l.all id) (mCons (mLc (mIl (mS 0)) (.sh 1) (mYes) (mCall m_is_face (mCons (mV 1) (mNil))) [1]) (mNil)))))
def m_are_coins : List D → M O := mFun 1 2 b_are_coins
def b_check_coins : En → M Fl :=
  mIfS (mNotT (mBl (mCall m_are_coins (mCons (mV 0) (mNil))))) (mBad) (mNil')
def m_check_coins : List D → M O := mFun 1 1 b_check_coins
def b_check_coins_many : En → M Fl :=
  mSeq (mExpr (mCall m_check_coins (mCons (mV 0) (mNil))))
  (mIfS (mOrT (mNotT (mBl (mCall m_is_count (mCons (mV 1) (mNil))))) (mNotT (mBl (mChain (fun i j => decide (i ≤ j)) (fun i j => decide (i ≤ j)) (mC (.int 1)) (mV 1) (mCB oLen (mCons (mV 0) (mNil))))))) (mBad) (mNil'))
def m_check_coins_many : List D → M O := mFun 2 2 b_check_coins_many
def b_turned_in : En → M Fl :=
  mRet (mLc (mIe (mCons (mS 0) (mNil))) (.tup [.sh 2, .sh 3]) (mYes) (mIf (mBl (mOp (oIn false) (mV 2) (mV 1))) (mOp oSub (mC (.int 1)) (mV 3)) (mS 3)) [2, 3])
def m_turned_in : List D → M O := mFun 2 4 b_turned_in
def b_swept : En → M Fl :=
  mSeq (mPar [.ow 2, .ow 3] (mCons (mCB oList (mCons (mV 0) (mNil))) (mCons (mLst (mNil)) (mNil))))
  (mSeq (mFor (mIr1 (mCons (mOp oAdd (mOp oSub (mCB oLen (mCons (mV 0) (mNil))) (mV 1)) (mC (.int 1))) (mNil))) (.sh 4) (mIfS (mBl (mEqR false (mRd (mIx (mV 2) (mV 4))) (mRd (mC (.int 1))))) (mSeq (mApp 3 (mS 4))
  (mBind (.ow 2) (mCall m_turned_in (mCons (mV 2) (mCons (mLr2 (mV 4) (mOp oAdd (mV 4) (mV 1))) (mNil)))))) (mNil')))
  (mRet (mTupV [3, 2])))
def m_swept : List D → M O := mFun 2 5 b_swept
def b_row_plan : En → M Fl :=
  mSeq (mExpr (mCall m_check_coins_many (mCons (mV 0) (mCons (mV 1) (mNil)))))
  (mSeq (mBind (.tup [.ow 2, .sh 3]) (mCall m_swept (mCons (mV 0) (mCons (mV 1) (mNil)))))
  (mRet (mIf (mBl (mEqR false (mRd (mCB (oOfInts fun l => some (iO l.sum)) (mCons (mV 3) (mNil)))) (mRd (mC (.int 0))))) (mV 2) (mC .non))))
def m_row_plan : List D → M O := mFun 2 4 b_row_plan
def b_left_in_row : En → M Fl :=
  mSeq (mExpr (mCall m_check_coins_many (mCons (mV 0) (mCons (mV 1) (mNil)))))
  (mRet (mIx (mCall m_swept (mCons (mV 0) (mCons (mV 1) (mNil)))) (mC (.int 1))))
def m_left_in_row : List D → M O := mFun 2 2 b_left_in_row
def b_class_sums : En → M Fl :=
  mSeq (mExpr (mCall m_check_coins_many (mCons (mV 0) (mCons (mV 1) (mNil)))))
  (mRet (mLc (mIr1 (mCons (mV 1) (mNil))) (.sh 2) (mYes) (mOp oMod (mCB (oOfInts fun l => some (iO l.sum)) (mCons (mSlS (mV 0) (mSoP (mV 2)) (mNoP) (mSoP (mV 1))) (mNil))) (mC (.int 2))) [2]))
def m_class_sums : List D → M O := mFun 2 3 b_class_sums
def b_can_turn_row : En → M Fl :=
  mSeq (mExpr (mCall m_check_coins_many (mCons (mV 0) (mCons (mV 1) (mNil)))))
  (mRet (mEqR false (mRd (mCB (oOfInts fun l => some (iO l.sum)) (mCons (mIx (mCall m_swept (mCons (mV 0) (mCons (mV 1) (mNil)))) (mC (.int 1))) (mNil)))) (mRd (mC (.int 0)))))
def m_can_turn_row : List D → M O := mFun 2 2 b_can_turn_row
def b_x_law_cell : En → M Fl :=
  mSeq (mIfS (mBl (mOp (cmpI fun i j => decide (i < j)) (mV 1) (mCB oLen (mCons (mV 0) (mNil))))) (mRet (mIxS (mV 0) (mV 1))) (mNil'))
  (mRet (mOp oMod (mCB (oOfInts fun l => some (iO l.sum)) (mCons (mSl (mV 0) (mNoP) (mSoP (mC (.int 1)))) (mNil))) (mC (.int 1000003))))
def m_x_law_cell : List D → M O := mFun 2 2 b_x_law_cell
def b_x_law_hash : En → M Fl :=
  mSeq (mBind (.sh 2) (mOp oMod (mCB oInt (mCons (mOp oAdd (mOp oAdd (mOp oAdd (mOp oMul (mV 0) (mC (.int 1140671))) (mOp oMul (mOp oMul (mC (.int 27644437)) (mV 1)) (mV 1))) (mOp oMul (mC (.int 131)) (mV 1))) (mC (.int 19))) (mNil))) (mC (.int 2147483629))))
  (mSeq (mBind (.sh 2) (mOp oMod (mCB oInt (mCons (mOp oAdd (mOp oAdd (mOp oMul (mV 2) (mV 2)) (mOp oMul (mC (.int 62089)) (mV 1))) (mC (.int 32416187))) (mNil))) (mC (.int 2147483587))))
  (mRet (mOp oMod (mCB oInt (mCons (mOp oMul (mV 2) (mC (.int 48271))) (mNil))) (mC (.int 2147483647)))))
def m_x_law_hash : List D → M O := mFun 2 3 b_x_law_hash
def b_x_law_random : En → M Fl :=
  mSeq (mIfS (mBl (mOp (cmpI fun i j => decide (j < i)) (mIx (mV 0) (mC (.int 0))) (mC (.int 0)))) (mSeq (mBind (.sh 2) (mOp oMod (mCB oInt (mCons (mIx (mV 0) (mC (.int 0))) (mNil))) (mV 1)))
  (mSeq (mSetIx 0 (mOp oDiv (mIx (mV 0) (mC (.int 0))) (mV 1)) (mC (.int 0)))
  (mRet (mV 2)))) (mNil'))
  (mSeq (mBind (.sh 2) (mC (.int 0)))
  (mSeq (mFor (mIr1 (mCons (mOp oAdd (mC (.int 1)) (mOp oDiv (mBits (mV 1)) (mC (.int 30)))) (mNil))) (.sh 3) (mSeq (mSetIx 0 (mOp oAdd (mIx (mV 0) (mC (.int 2))) (mC (.int 1))) (mC (.int 2)))
  (mBind (.sh 2) (mOp oAdd (mOp oMul (mV 2) (mC (.int 2147483587))) (mCall m_x_law_hash (mCons (mIx (mV 0) (mC (.int 1))) (mCons (mIx (mV 0) (mC (.int 2))) (mNil))))))))
  (mRet (mOp oMod (mCB oInt (mCons (mV 2) (mNil))) (mV 1)))))
def m_x_law_random : List D → M O := mFun 2 4 b_x_law_random
def b_x_law_generator : En → M Fl :=
  mSeq (mBind (.sh 2) (mCall m_x_law_cell (mCons (mV 0) (mCons (mV 1) (mNil)))))
  (mRet (mLst (mCons (mOp oMod (mCB oInt (mCons (mCB (oII fun i j => if j > i then j else i) (mCons (mOp oSub (mV 2) (mOp oPow (mC (.int 10)) (mC (.int 18)))) (mCons (mC (.int 0)) (mNil)))) (mNil))) (mOp oPow (mOp oPow (mC (.int 10)) (mC (.int 60))) (mC (.int 10)))) (mCons (mOp oMod (mCB oInt (mCons (mV 2) (mNil))) (mC (.int 2147483647))) (mCons (mOp oMul (mC (.int 1000)) (mV 1)) (mNil))))))
def m_x_law_generator : List D → M O := mFun 2 3 b_x_law_generator
def b_x_law_coins : En → M Fl :=
  mRet (mLc (mIr1 (mCons (mOp oAdd (mC (.int 1)) (mCall m_x_law_random (mCons (mV 0) (mCons (mV 1) (mNil))))) (mNil))) (.sh 2) (mYes) (mCall m_x_law_random (mCons (mV 0) (mCons (mC (.int 2)) (mNil)))) [2])
def m_x_law_coins : List D → M O := mFun 2 3 b_x_law_coins
def b_x_law_turned : En → M Fl :=
  mRet (mLc (mIe (mCons (mS 0) (mNil))) (.tup [.sh 2, .sh 3]) (mYes) (mIf (mBl (mOp (oIn false) (mV 2) (mV 1))) (mOp oSub (mC (.int 1)) (mV 3)) (mS 3)) [2, 3])
def m_x_law_turned : List D → M O := mFun 2 4 b_x_law_turned
def b_x_law_behind : En → M Fl :=
  mSeq (mBind (.sh 3) (mCB oList (mCons (mV 0) (mNil))))
  (mSeq (mFor (mIl (mS 2)) (.sh 4) (mBind (.sh 3) (mCall m_x_law_turned (mCons (mV 3) (mCons (mLr2 (mV 4) (mOp oAdd (mV 4) (mV 1))) (mNil))))))
  (mRet (mV 3)))
def m_x_law_behind : List D → M O := mFun 3 5 b_x_law_behind
def b_x_law_plans : En → M Fl :=
  mSeq (mPar [.sh 2, .sh 3] (mCons (mLst (mCons (mLst (mNil)) (mNil))) (mCons (mOp oAdd (mOp oSub (mCB oLen (mCons (mV 0) (mNil))) (mV 1)) (mC (.int 1))) (mNil))))
  (mSeq (mFor (mIr1 (mCons (mV 3) (mNil))) (.sh 4) (mBind (.sh 2) (mOp oAdd (mV 2) (mLc (mIl (mS 2)) (.sh 5) (mYes) (mOp oAdd (mV 5) (mLst (mCons (mS 4) (mNil)))) [5]))))
  (mRet (mLc (mIl (mS 2)) (.sh 5) (mBl (mEqR false (mRd (mCB (oOfInts fun l => some (iO l.sum)) (mCons (mCall m_x_law_behind (mCons (mV 0) (mCons (mV 1) (mCons (mV 5) (mNil))))) (mNil)))) (mRd (mC (.int 0))))) (mS 5) [5])))
def m_x_law_plans : List D → M O := mFun 2 6 b_x_law_plans
def b_x_law_right : En → M Fl :=
  mSeq (mBind (.sh 1) (mCall m_x_law_coins (mCons (mV 0) (mCons (mC (.int 9)) (mNil)))))
  (mSeq (mBind (.tup [.sh 2, .sh 3, .sh 4]) (mTup (mCons (mOp oAdd (mC (.int 1)) (mCall m_x_law_random (mCons (mV 0) (mCons (mCB oLen (mCons (mV 1) (mNil))) (mNil))))) (mCons (mReprR (mRd (mV 1))) (mCons (mCB oList (mCons (mV 1) (mNil))) (mNil))))))
  (mSeq (mIfS (mBl (mEqR false (mRd (mCall m_x_law_random (mCons (mV 0) (mCons (mC (.int 2)) (mNil))))) (mRd (mC (.int 0))))) (mSeq (mBind (.sh 5) (mOp oMul (mLst (mCons (mC (.int 0)) (mNil))) (mCB oLen (mCons (mV 1) (mNil)))))
  (mSeq (mBind (.sh 1) (mCall m_x_law_behind (mCons (mV 5) (mCons (mV 2) (mCons (mSh (mLc (mIr1 (mCons (mOp oAdd (mOp oSub (mCB oLen (mCons (mV 1) (mNil))) (mV 2)) (mC (.int 1))) (mNil))) (.sh 6) (mBl (mEqR false (mRd (mCall m_x_law_random (mCons (mV 0) (mCons (mC (.int 2)) (mNil))))) (mRd (mC (.int 0))))) (mS 6) [6])) (mNil))))))
  (mPar [.sh 3, .sh 4] (mCons (mReprR (mRd (mV 1))) (mCons (mCB oList (mCons (mV 1) (mNil))) (mNil)))))) (mNil'))
  (mSeq (mBind (.sh 7) (mCall m_x_law_plans (mCons (mV 1) (mCons (mV 2) (mNil)))))
  (mSeq (mFor (mIr1 (mCons (mOp oAdd (mOp oSub (mCB oLen (mCons (mV 1) (mNil))) (mV 2)) (mC (.int 1))) (mNil))) (.sh 6) (mBind (.sh 4) (mIf (mBl (mEqR false (mRd (mIx (mV 4) (mV 6))) (mRd (mC (.int 1))))) (mCall m_x_law_turned (mCons (mV 4) (mCons (mLr2 (mV 6) (mOp oAdd (mV 6) (mV 2))) (mNil)))) (mS 4))))
  (mSeq (mBind (.ow 8) (mLst (mNil)))
  (mSeq (mFor (mIr1 (mCons (mV 2) (mNil))) (.sh 9) (mApp 8 (mOp oMod (mCB oInt (mCons (mCB (oOfInts fun l => some (iO l.sum)) (mCons (mLc (mIe (mCons (mS 1) (mNil))) (.tup [.sh 6, .sh 14]) (mBl (mEqR false (mRd (mOp oMod (mCB oInt (mCons (mOp oSub (mV 6) (mV 9)) (mNil))) (mV 2))) (mRd (mC (.int 0))))) (mS 14) [6, 14]) (mNil))) (mNil))) (mC (.int 2)))))
  (mSeq (mShare 8 (mBind (.sh 10) (mLst (mCons (mIf (mBl (mEqR true (mRd (mV 7)) (mLstR (mNilR)))) (mIxS (mV 7) (mC (.int 0))) (mC .non)) (mCons (mS 4) (mCons (mS 8) (mCons (mEqR true (mRd (mV 7)) (mLstR (mNilR))) (mNil))))))))
  (mSeq (mBind (.ow 11) (mLst (mCons (mCall m_row_plan (mCons (mV 1) (mCons (mV 2) (mNil)))) (mCons (mCall m_left_in_row (mCons (mV 1) (mCons (mV 2) (mNil)))) (mCons (mCall m_class_sums (mCons (mV 1) (mCons (mV 2) (mNil)))) (mCons (mCall m_can_turn_row (mCons (mV 1) (mCons (mV 2) (mNil)))) (mNil)))))))
  (mSeq (mBind (.sh 12) (mLst (mCons (mCallK m_row_plan 2 [1, 0] (mCons (mV 2) (mCons (mV 1) (mNil)))) (mCons (mCallK m_left_in_row 2 [1, 0] (mCons (mV 2) (mCons (mV 1) (mNil)))) (mCons (mCallK m_class_sums 2 [1, 0] (mCons (mV 2) (mCons (mV 1) (mNil)))) (mCons (mCallK m_can_turn_row 2 [1, 0] (mCons (mV 2) (mCons (mV 1) (mNil)))) (mNil)))))))
  (mSeq (mIfS (mOrT (mBl (mEqR true (mRd (mReprR (mLstR (mConsR (mRd (mV 11)) (mConsR (mRd (mV 12)) (mNilR)))))) (mRd (mReprR (mLstR (mConsR (mRd (mV 10)) (mConsR (mRd (mV 10)) (mNilR)))))))) (mOrT (mBl (mOp (cmpI fun i j => decide (j < i)) (mCB oLen (mCons (mV 7) (mNil))) (mC (.int 1)))) (mBl (mEqR true (mRd (mEqR false (mRd (mLenSet (mV 8))) (mRd (mC (.int 1))))) (mRd (mEqR true (mRd (mV 7)) (mLstR (mNilR)))))))) (mRet (mC (.bl false))) (mNil'))
  (mSeq (mForMore 11 13)
  (mRet (mEqR false (mRd (mReprR (mRd (mV 1)))) (mRd (mV 3)))))))))))))))
def m_x_law_right : List D → M O := mFun 1 15 b_x_law_right
def b_x_law_counts_right : En → M Fl :=
  mSeq (mBind (.sh 1) (mOp oAdd (mC (.int 1)) (mCall m_x_law_random (mCons (mV 0) (mCons (mC (.int 7)) (mNil))))))
  (mSeq (mBind (.tup [.sh 2, .sh 3]) (mTup (mCons (mOp oAdd (mC (.int 1)) (mCall m_x_law_random (mCons (mV 0) (mCons (mV 1) (mNil))))) (mCons (mLst (mCons (mLst (mNil)) (mNil))) (mNil)))))
  (mSeq (mFor (mIr1 (mCons (mV 1) (mNil))) (.sh 4) (mBind (.sh 3) (mOp oAdd (mLc (mIl (mS 3)) (.sh 7) (mYes) (mOp oAdd (mV 7) (mLst (mCons (mC (.int 0)) (mNil)))) [7]) (mLc (mIl (mS 3)) (.sh 7) (mYes) (mOp oAdd (mV 7) (mLst (mCons (mC (.int 1)) (mNil)))) [7]))))
  (mSeq (mPar [.sh 5, .sh 6] (mCons (mLc (mIl (mS 3)) (.sh 7) (mBl (mCall m_can_turn_row (mCons (mV 7) (mCons (mV 2) (mNil))))) (mS 7) [7]) (mCons (mC (.int 1)) (mNil))))
  (mSeq (mFor (mIr1 (mCons (mOp oSub (mOp oAdd (mV 1) (mC (.int 1))) (mV 2)) (mNil))) (.sh 4) (mBind (.sh 6) (mOp oMul (mC (.int 2)) (mV 6))))
  (mRet (mEqR false (mRd (mCB oLen (mCons (mV 5) (mNil)))) (mRd (mV 6))))))))
def m_x_law_counts_right : List D → M O := mFun 1 8 b_x_law_counts_right
def b_law : En → M Fl :=
  mSeq (mBind (.sh 1) (mLst (mCons (mCall m_row_plan (mCons (mLst (mCons (mC (.int 1)) (mCons (mC (.int 1)) (mCons (mC (.int 0)) (mCons (mC (.int 1)) (mCons (mC (.int 1)) (mNil))))))) (mCons (mC (.int 2)) (mNil)))) (mCons (mCall m_left_in_row (mCons (mLst (mCons (mC (.int 1)) (mCons (mC (.int 0)) (mCons (mC (.int 1)) (mCons (mC (.int 1)) (mNil)))))) (mCons (mC (.int 3)) (mNil)))) (mCons (mCall m_class_sums (mCons (mLst (mCons (mC (.int 1)) (mCons (mC (.int 0)) (mCons (mC (.int 1)) (mCons (mC (.int 0)) (mCons (mC (.int 1)) (mCons (mC (.int 1)) (mNil)))))))) (mCons (mC (.int 3)) (mNil)))) (mNil))))))
  (mSeq (mBind (.sh 1) (mOp oAdd (mV 1) (mSh (mLst (mCons (mCall m_can_turn_row (mCons (mLst (mCons (mC (.int 1)) (mCons (mC (.int 0)) (mCons (mC (.int 1)) (mCons (mC (.int 0)) (mNil)))))) (mCons (mC (.int 3)) (mNil)))) (mCons (mCall m_row_plan (mCons (mLst (mCons (mC (.int 0)) (mNil))) (mCons (mC (.int 1)) (mNil)))) (mCons (mCall m_row_plan (mCons (mLst (mCons (mC (.int 1)) (mNil))) (mCons (mC (.int 1)) (mNil)))) (mCons (mCall m_class_sums (mCons (mLst (mCons (mC (.int 1)) (mCons (mC (.int 1)) (mCons (mC (.int 1)) (mNil))))) (mCons (mC (.int 1)) (mNil)))) (mNil)))))))))
  (mSeq (mIfS (mOrT (mBl (mEqR true (mRd (mV 1)) (mLstR (mConsR (mLstR (mConsR (mRd (mC (.int 0))) (mConsR (mRd (mC (.int 3))) (mNilR)))) (mConsR (mLstR (mConsR (mRd (mC (.int 0))) (mConsR (mRd (mC (.int 0))) (mConsR (mRd (mC (.int 1))) (mConsR (mRd (mC (.int 0))) (mNilR)))))) (mConsR (mLstR (mConsR (mRd (mC (.int 1))) (mConsR (mRd (mC (.int 1))) (mConsR (mRd (mC (.int 0))) (mNilR))))) (mConsR (mRd (mC (.bl false))) (mConsR (mLstR (mNilR)) (mConsR (mLstR (mConsR (mRd (mC (.int 0))) (mNilR))) (mConsR (mLstR (mConsR (mRd (mC (.int 1))) (mNilR))) (mNilR))))))))))) (mBl (mEqR true (mRd (mCall m_row_plan (mCons (mOp oMul (mLst (mCons (mC (.int 1)) (mCons (mC (.int 0)) (mNil)))) (mC (.int 10))) (mCons (mC (.int 1)) (mNil))))) (mRd (mLr3 (mC (.int 0)) (mC (.int 20)) (mC (.int 2))))))) (mRet (mC (.bl false))) (mNil'))
  (mSeq (mFor (mIr1 (mCons (mC (.int 3)) (mNil))) (.sh 2) (mGenB 3 (mCall m_x_law_generator (mCons (mV 0) (mCons (mV 2) (mNil)))) (mIfS (mOrT (mNotT (mBl (mCall m_x_law_right (mCons (mV 3) (mNil))))) (mOrT (mNotT (mBl (mCall m_x_law_right (mCons (mV 3) (mNil))))) (mOrT (mNotT (mBl (mCall m_x_law_right (mCons (mV 3) (mNil))))) (mNotT (mBl (mCall m_x_law_counts_right (mCons (mV 3) (mNil)))))))) (mRet (mC (.bl false))) (mNil'))))
  (mRet (mAnd (mEqR false (mRd (mCall m_row_plan (mCons (mLst (mCons (mC (.int 1)) (mCons (mC (.int 1)) (mCons (mC (.int 1)) (mCons (mC (.int 1)) (mNil)))))) (mCons (mC (.int 4)) (mNil))))) (mLstR (mConsR (mRd (mC (.int 0))) (mNilR)))) (mOp (oIs false) (mCall m_row_plan (mCons (mLst (mCons (mC (.int 1)) (mCons (mC (.int 0)) (mCons (mC (.int 0)) (mCons (mC (.int 0)) (mNil)))))) (mCons (mC (.int 4)) (mNil)))) (mC .non)))))))
def m_law : List D → M O := mFun 1 4 b_law
end K64
namespace K64
open PySem PySem.Spec PyProof.Rows L2 Lone
def topS (i : Nat) : Stmt := PySem.Challenge.pw_lonehall_k64_whole_neighbours_turned_in.main.body.getD i (.Pass ⟨0, 0, 0, 0⟩)
abbrev s_is_whole : Stmt := topS 5
abbrev N_is_whole : List Str := ["value"]
theorem sc_is_whole : FnScope N_is_whole ["value"] (defScope s_is_whole) := ⟨rfl, rfl, rfl, by decide +kernel, rfl, by decide +kernel, by decide +kernel⟩
abbrev s_is_count : Stmt := topS 6
abbrev N_is_count : List Str := ["value"]
theorem sc_is_count : FnScope N_is_count ["value"] (defScope s_is_count) := ⟨rfl, rfl, rfl, by decide +kernel, rfl, by decide +kernel, by decide +kernel⟩
abbrev s_is_face : Stmt := topS 8
abbrev N_is_face : List Str := ["value"]
theorem sc_is_face : FnScope N_is_face ["value"] (defScope s_is_face) := ⟨rfl, rfl, rfl, by decide +kernel, rfl, by decide +kernel, by decide +kernel⟩
abbrev s_are_coins : Stmt := topS 9
abbrev N_are_coins : List Str := ["value", "face"]
theorem sc_are_coins : FnScope N_are_coins ["value"] (defScope s_are_coins) := ⟨rfl, rfl, rfl, by decide +kernel, rfl, by decide +kernel, by decide +kernel⟩
abbrev s_check_coins : Stmt := topS 10
abbrev N_check_coins : List Str := ["coins"]
theorem sc_check_coins : FnScope N_check_coins ["coins"] (defScope s_check_coins) := ⟨rfl, rfl, rfl, by decide +kernel, rfl, by decide +kernel, by decide +kernel⟩
abbrev s_check_coins_many : Stmt := topS 11
abbrev N_check_coins_many : List Str := ["coins", "many"]
theorem sc_check_coins_many : FnScope N_check_coins_many ["coins", "many"] (defScope s_check_coins_many) := ⟨rfl, rfl, rfl, by decide +kernel, rfl, by decide +kernel, by decide +kernel⟩
abbrev s_turned_in : Stmt := topS 12
abbrev N_turned_in : List Str := ["coins", "places", "at", "face"]
theorem sc_turned_in : FnScope N_turned_in ["coins", "places"] (defScope s_turned_in) := ⟨rfl, rfl, rfl, by decide +kernel, rfl, by decide +kernel, by decide +kernel⟩
abbrev s_swept : Stmt := topS 14
abbrev N_swept : List Str := ["coins", "many", "here", "found", "at"]
theorem sc_swept : FnScope N_swept ["coins", "many"] (defScope s_swept) := ⟨rfl, rfl, rfl, by decide +kernel, rfl, by decide +kernel, by decide +kernel⟩
abbrev s_row_plan : Stmt := topS 15
abbrev N_row_plan : List Str := ["coins", "many", "found", "left"]
theorem sc_row_plan : FnScope N_row_plan ["coins", "many"] (defScope s_row_plan) := ⟨rfl, rfl, rfl, by decide +kernel, rfl, by decide +kernel, by decide +kernel⟩
abbrev s_left_in_row : Stmt := topS 16
abbrev N_left_in_row : List Str := ["coins", "many"]
theorem sc_left_in_row : FnScope N_left_in_row ["coins", "many"] (defScope s_left_in_row) := ⟨rfl, rfl, rfl, by decide +kernel, rfl, by decide +kernel, by decide +kernel⟩
abbrev s_class_sums : Stmt := topS 17
abbrev N_class_sums : List Str := ["coins", "many", "first"]
theorem sc_class_sums : FnScope N_class_sums ["coins", "many"] (defScope s_class_sums) := ⟨rfl, rfl, rfl, by decide +kernel, rfl, by decide +kernel, by decide +kernel⟩
abbrev s_can_turn_row : Stmt := topS 18
abbrev N_can_turn_row : List Str := ["coins", "many"]
theorem sc_can_turn_row : FnScope N_can_turn_row ["coins", "many"] (defScope s_can_turn_row) := ⟨rfl, rfl, rfl, by decide +kernel, rfl, by decide +kernel, by decide +kernel⟩
abbrev s_x_law_cell : Stmt := topS 20
abbrev N_x_law_cell : List Str := ["script", "index"]
theorem sc_x_law_cell : FnScope N_x_law_cell ["script", "index"] (defScope s_x_law_cell) := ⟨rfl, rfl, rfl, by decide +kernel, rfl, by decide +kernel, by decide +kernel⟩
abbrev s_x_law_hash : Stmt := topS 21
abbrev N_x_law_hash : List Str := ["seed", "index", "mixed"]
theorem sc_x_law_hash : FnScope N_x_law_hash ["seed", "index"] (defScope s_x_law_hash) := ⟨rfl, rfl, rfl, by decide +kernel, rfl, by decide +kernel, by decide +kernel⟩
abbrev s_x_law_random : Stmt := topS 22
abbrev N_x_law_random : List Str := ["generator", "bound", "drawn", "turn"]
theorem sc_x_law_random : FnScope N_x_law_random ["generator", "bound"] (defScope s_x_law_random) := ⟨rfl, rfl, rfl, by decide +kernel, rfl, by decide +kernel, by decide +kernel⟩
abbrev s_x_law_generator : Stmt := topS 23
abbrev N_x_law_generator : List Str := ["script", "index", "seed"]
theorem sc_x_law_generator : FnScope N_x_law_generator ["script", "index"] (defScope s_x_law_generator) := ⟨rfl, rfl, rfl, by decide +kernel, rfl, by decide +kernel, by decide +kernel⟩
abbrev s_x_law_coins : Stmt := topS 24
abbrev N_x_law_coins : List Str := ["generator", "most", "turn"]
theorem sc_x_law_coins : FnScope N_x_law_coins ["generator", "most"] (defScope s_x_law_coins) := ⟨rfl, rfl, rfl, by decide +kernel, rfl, by decide +kernel, by decide +kernel⟩
abbrev s_x_law_turned : Stmt := topS 25
abbrev N_x_law_turned : List Str := ["coins", "places", "at", "face"]
theorem sc_x_law_turned : FnScope N_x_law_turned ["coins", "places"] (defScope s_x_law_turned) := ⟨rfl, rfl, rfl, by decide +kernel, rfl, by decide +kernel, by decide +kernel⟩
abbrev s_x_law_behind : Stmt := topS 26
abbrev N_x_law_behind : List Str := ["coins", "many", "plan", "here", "at"]
theorem sc_x_law_behind : FnScope N_x_law_behind ["coins", "many", "plan"] (defScope s_x_law_behind) := ⟨rfl, rfl, rfl, by decide +kernel, rfl, by decide +kernel, by decide +kernel⟩
abbrev s_x_law_plans : Stmt := topS 27
abbrev N_x_law_plans : List Str := ["coins", "many", "rows", "size", "at", "row"]
theorem sc_x_law_plans : FnScope N_x_law_plans ["coins", "many"] (defScope s_x_law_plans) := ⟨rfl, rfl, rfl, by decide +kernel, rfl, by decide +kernel, by decide +kernel⟩
abbrev s_x_law_right : Stmt := topS 28
abbrev N_x_law_right : List Str := ["generator", "coins", "many", "kept", "left", "start", "at", "plans", "sums", "first", "due", "told", "again", "part", "face"]
theorem sc_x_law_right : FnScope N_x_law_right ["generator"] (defScope s_x_law_right) := ⟨rfl, rfl, rfl, by decide +kernel, rfl, by decide +kernel, by decide +kernel⟩
abbrev s_x_law_counts_right : Stmt := topS 29
abbrev N_x_law_counts_right : List Str := ["generator", "size", "many", "rows", "turn", "good", "power", "row"]
theorem sc_x_law_counts_right : FnScope N_x_law_counts_right ["generator"] (defScope s_x_law_counts_right) := ⟨rfl, rfl, rfl, by decide +kernel, rfl, by decide +kernel, by decide +kernel⟩
abbrev s_law : Stmt := topS 30
abbrev N_law : List Str := ["script", "told", "index", "generator"]
theorem sc_law : FnScope N_law ["script"] (defScope s_law) := ⟨rfl, rfl, rfl, by decide +kernel, rfl, by decide +kernel, by decide +kernel⟩
abbrev C0 (K : PySem.W.Frag) : Ct := ⟨K, fun _ => .none⟩
structure Tx (K : PySem.W.Frag) (mg : Str → Option Value) where
  a_is_whole : Addr
  d_is_whole : FuncData
  F_is_whole : Fun K "is_whole" "is_whole" s_is_whole a_is_whole d_is_whole
  g_is_whole : mg "is_whole" = some (.ref a_is_whole)
  a_is_count : Addr
  d_is_count : FuncData
  F_is_count : Fun K "is_count" "is_count" s_is_count a_is_count d_is_count
  g_is_count : mg "is_count" = some (.ref a_is_count)
  a_is_face : Addr
  d_is_face : FuncData
  F_is_face : Fun K "is_face" "is_face" s_is_face a_is_face d_is_face
  g_is_face : mg "is_face" = some (.ref a_is_face)
  a_are_coins : Addr
  d_are_coins : FuncData
  F_are_coins : Fun K "are_coins" "are_coins" s_are_coins a_are_coins d_are_coins
  g_are_coins : mg "are_coins" = some (.ref a_are_coins)
  a_check_coins : Addr
  d_check_coins : FuncData
  F_check_coins : Fun K "check_coins" "check_coins" s_check_coins a_check_coins d_check_coins
  g_check_coins : mg "check_coins" = some (.ref a_check_coins)
  a_check_coins_many : Addr
  d_check_coins_many : FuncData
  F_check_coins_many : Fun K "check_coins_many" "check_coins_many" s_check_coins_many a_check_coins_many d_check_coins_many
  g_check_coins_many : mg "check_coins_many" = some (.ref a_check_coins_many)
  a_turned_in : Addr
  d_turned_in : FuncData
  F_turned_in : Fun K "turned_in" "turned_in" s_turned_in a_turned_in d_turned_in
  g_turned_in : mg "turned_in" = some (.ref a_turned_in)
  a_swept : Addr
  d_swept : FuncData
  F_swept : Fun K "swept" "swept" s_swept a_swept d_swept
  g_swept : mg "swept" = some (.ref a_swept)
  a_row_plan : Addr
  d_row_plan : FuncData
  F_row_plan : Fun K "row_plan" "row_plan" s_row_plan a_row_plan d_row_plan
  g_row_plan : mg "row_plan" = some (.ref a_row_plan)
  a_left_in_row : Addr
  d_left_in_row : FuncData
  F_left_in_row : Fun K "left_in_row" "left_in_row" s_left_in_row a_left_in_row d_left_in_row
  g_left_in_row : mg "left_in_row" = some (.ref a_left_in_row)
  a_class_sums : Addr
  d_class_sums : FuncData
  F_class_sums : Fun K "class_sums" "class_sums" s_class_sums a_class_sums d_class_sums
  g_class_sums : mg "class_sums" = some (.ref a_class_sums)
  a_can_turn_row : Addr
  d_can_turn_row : FuncData
  F_can_turn_row : Fun K "can_turn_row" "can_turn_row" s_can_turn_row a_can_turn_row d_can_turn_row
  g_can_turn_row : mg "can_turn_row" = some (.ref a_can_turn_row)
  a_x_law_cell : Addr
  d_x_law_cell : FuncData
  F_x_law_cell : Fun K "_law_cell" "_law_cell" s_x_law_cell a_x_law_cell d_x_law_cell
  g_x_law_cell : mg "_law_cell" = some (.ref a_x_law_cell)
  a_x_law_hash : Addr
  d_x_law_hash : FuncData
  F_x_law_hash : Fun K "_law_hash" "_law_hash" s_x_law_hash a_x_law_hash d_x_law_hash
  g_x_law_hash : mg "_law_hash" = some (.ref a_x_law_hash)
  a_x_law_random : Addr
  d_x_law_random : FuncData
  F_x_law_random : Fun K "_law_random" "_law_random" s_x_law_random a_x_law_random d_x_law_random
  g_x_law_random : mg "_law_random" = some (.ref a_x_law_random)
  a_x_law_generator : Addr
  d_x_law_generator : FuncData
  F_x_law_generator : Fun K "_law_generator" "_law_generator" s_x_law_generator a_x_law_generator d_x_law_generator
  g_x_law_generator : mg "_law_generator" = some (.ref a_x_law_generator)
  a_x_law_coins : Addr
  d_x_law_coins : FuncData
  F_x_law_coins : Fun K "_law_coins" "_law_coins" s_x_law_coins a_x_law_coins d_x_law_coins
  g_x_law_coins : mg "_law_coins" = some (.ref a_x_law_coins)
  a_x_law_turned : Addr
  d_x_law_turned : FuncData
  F_x_law_turned : Fun K "_law_turned" "_law_turned" s_x_law_turned a_x_law_turned d_x_law_turned
  g_x_law_turned : mg "_law_turned" = some (.ref a_x_law_turned)
  a_x_law_behind : Addr
  d_x_law_behind : FuncData
  F_x_law_behind : Fun K "_law_behind" "_law_behind" s_x_law_behind a_x_law_behind d_x_law_behind
  g_x_law_behind : mg "_law_behind" = some (.ref a_x_law_behind)
  a_x_law_plans : Addr
  d_x_law_plans : FuncData
  F_x_law_plans : Fun K "_law_plans" "_law_plans" s_x_law_plans a_x_law_plans d_x_law_plans
  g_x_law_plans : mg "_law_plans" = some (.ref a_x_law_plans)
  a_x_law_right : Addr
  d_x_law_right : FuncData
  F_x_law_right : Fun K "_law_right" "_law_right" s_x_law_right a_x_law_right d_x_law_right
  g_x_law_right : mg "_law_right" = some (.ref a_x_law_right)
  a_x_law_counts_right : Addr
  d_x_law_counts_right : FuncData
  F_x_law_counts_right : Fun K "_law_counts_right" "_law_counts_right" s_x_law_counts_right a_x_law_counts_right d_x_law_counts_right
  g_x_law_counts_right : mg "_law_counts_right" = some (.ref a_x_law_counts_right)
  a_law : Addr
  d_law : FuncData
  F_law : Fun K "law" "law" s_law a_law d_law
  g_law : mg "law" = some (.ref a_law)
  z_all : mg "all" = none
  z_bool : mg "bool" = none
  z_enumerate : mg "enumerate" = none
  z_int : mg "int" = none
  z_isinstance : mg "isinstance" = none
  z_len : mg "len" = none
  z_list : mg "list" = none
  z_max : mg "max" = none
  z_range : mg "range" = none
  z_repr : mg "repr" = none
  z_set : mg "set" = none
  z_sum : mg "sum" = none
section
variable {P : Program} {w : World} {K : PySem.W.Frag} {mg : Str → Option Value} {base : Heap}
theorem bi_is_whole (T : Tx K mg) : Binds K T.d_is_whole ["value"] [] := T.F_is_whole.binds fun _ _ _ _ _ _ us hl => match us, hl with | [_], _ => rfl
theorem bi_is_count (T : Tx K mg) : Binds K T.d_is_count ["value"] [] := T.F_is_count.binds fun _ _ _ _ _ _ us hl => match us, hl with | [_], _ => rfl
theorem bi_is_face (T : Tx K mg) : Binds K T.d_is_face ["value"] [] := T.F_is_face.binds fun _ _ _ _ _ _ us hl => match us, hl with | [_], _ => rfl
theorem bi_are_coins (T : Tx K mg) : Binds K T.d_are_coins ["value"] [] := T.F_are_coins.binds fun _ _ _ _ _ _ us hl => match us, hl with | [_], _ => rfl
theorem bi_check_coins (T : Tx K mg) : Binds K T.d_check_coins ["coins"] [] := T.F_check_coins.binds fun _ _ _ _ _ _ us hl => match us, hl with | [_], _ => rfl
theorem bi_check_coins_many (T : Tx K mg) : Binds K T.d_check_coins_many ["coins", "many"] [] := T.F_check_coins_many.binds fun _ _ _ _ _ _ us hl => match us, hl with | [_, _], _ => rfl
theorem bi_turned_in (T : Tx K mg) : Binds K T.d_turned_in ["coins", "places"] [] := T.F_turned_in.binds fun _ _ _ _ _ _ us hl => match us, hl with | [_, _], _ => rfl
theorem bi_swept (T : Tx K mg) : Binds K T.d_swept ["coins", "many"] [] := T.F_swept.binds fun _ _ _ _ _ _ us hl => match us, hl with | [_, _], _ => rfl
theorem bi_row_plan (T : Tx K mg) : Binds K T.d_row_plan ["coins", "many"] [] := T.F_row_plan.binds fun _ _ _ _ _ _ us hl => match us, hl with | [_, _], _ => rfl
theorem bi_left_in_row (T : Tx K mg) : Binds K T.d_left_in_row ["coins", "many"] [] := T.F_left_in_row.binds fun _ _ _ _ _ _ us hl => match us, hl with | [_, _], _ => rfl
theorem bi_class_sums (T : Tx K mg) : Binds K T.d_class_sums ["coins", "many"] [] := T.F_class_sums.binds fun _ _ _ _ _ _ us hl => match us, hl with | [_, _], _ => rfl
theorem bi_can_turn_row (T : Tx K mg) : Binds K T.d_can_turn_row ["coins", "many"] [] := T.F_can_turn_row.binds fun _ _ _ _ _ _ us hl => match us, hl with | [_, _], _ => rfl
theorem bi_x_law_cell (T : Tx K mg) : Binds K T.d_x_law_cell ["script", "index"] [] := T.F_x_law_cell.binds fun _ _ _ _ _ _ us hl => match us, hl with | [_, _], _ => rfl
theorem bi_x_law_hash (T : Tx K mg) : Binds K T.d_x_law_hash ["seed", "index"] [] := T.F_x_law_hash.binds fun _ _ _ _ _ _ us hl => match us, hl with | [_, _], _ => rfl
theorem bi_x_law_random (T : Tx K mg) : Binds K T.d_x_law_random ["generator", "bound"] [] := T.F_x_law_random.binds fun _ _ _ _ _ _ us hl => match us, hl with | [_, _], _ => rfl
theorem bi_x_law_generator (T : Tx K mg) : Binds K T.d_x_law_generator ["script", "index"] [] := T.F_x_law_generator.binds fun _ _ _ _ _ _ us hl => match us, hl with | [_, _], _ => rfl
theorem bi_x_law_coins (T : Tx K mg) : Binds K T.d_x_law_coins ["generator", "most"] [] := T.F_x_law_coins.binds fun _ _ _ _ _ _ us hl => match us, hl with | [_, _], _ => rfl
theorem bi_x_law_turned (T : Tx K mg) : Binds K T.d_x_law_turned ["coins", "places"] [] := T.F_x_law_turned.binds fun _ _ _ _ _ _ us hl => match us, hl with | [_, _], _ => rfl
theorem bi_x_law_behind (T : Tx K mg) : Binds K T.d_x_law_behind ["coins", "many", "plan"] [] := T.F_x_law_behind.binds fun _ _ _ _ _ _ us hl => match us, hl with | [_, _, _], _ => rfl
theorem bi_x_law_plans (T : Tx K mg) : Binds K T.d_x_law_plans ["coins", "many"] [] := T.F_x_law_plans.binds fun _ _ _ _ _ _ us hl => match us, hl with | [_, _], _ => rfl
theorem bi_x_law_right (T : Tx K mg) : Binds K T.d_x_law_right ["generator"] [] := T.F_x_law_right.binds fun _ _ _ _ _ _ us hl => match us, hl with | [_], _ => rfl
theorem bi_x_law_counts_right (T : Tx K mg) : Binds K T.d_x_law_counts_right ["generator"] [] := T.F_x_law_counts_right.binds fun _ _ _ _ _ _ us hl => match us, hl with | [_], _ => rfl
theorem bi_law (T : Tx K mg) : Binds K T.d_law ["script"] [] := T.F_law.binds fun _ _ _ _ _ _ us hl => match us, hl with | [_], _ => rfl
theorem kb_can_turn_row_many_coins (T : Tx K mg) : KB K T.d_can_turn_row ["coins", "many"] ["many", "coins"] [1, 0] := T.F_can_turn_row.kb fun _ _ _ _ _ _ ws hl => match ws, hl with | [_, _], _ => rfl
theorem kb_class_sums_many_coins (T : Tx K mg) : KB K T.d_class_sums ["coins", "many"] ["many", "coins"] [1, 0] := T.F_class_sums.kb fun _ _ _ _ _ _ ws hl => match ws, hl with | [_, _], _ => rfl
theorem kb_left_in_row_many_coins (T : Tx K mg) : KB K T.d_left_in_row ["coins", "many"] ["many", "coins"] [1, 0] := T.F_left_in_row.kb fun _ _ _ _ _ _ ws hl => match ws, hl with | [_, _], _ => rfl
theorem kb_row_plan_many_coins (T : Tx K mg) : KB K T.d_row_plan ["coins", "many"] ["many", "coins"] [1, 0] := T.F_row_plan.kb fun _ _ _ _ _ _ ws hl => match ws, hl with | [_, _], _ => rfl
theorem ok_is_whole (T : Tx K mg) : FnG P w K mg base CX0 1 T.a_is_whole T.d_is_whole ["value"] (spM (C0 K) m_is_whole) := by
  refine fg_mk0 (N := N_is_whole) (ps := ["value"]) (body := b_is_whole) T.F_is_whole sc_is_whole (by decide) fun cdv A outer s H E gd hr => ?_
  exact (ss_one (st_ret (EO.mov (eo_and (EO.b (eo_isi .I rfl rfl T.z_isinstance rfl T.z_int boot_int (eb_v 0 (pv 0)))) (eo_one (eo_not (EO.b (eo_isi .B rfl rfl T.z_isinstance rfl T.z_bool boot_bool (eb_v 0 (pv 0))))))))))
theorem ok_is_count (T : Tx K mg) : FnG P w K mg base CX0 2 T.a_is_count T.d_is_count ["value"] (spM (C0 K) m_is_count) := by
  refine fg_mk0 (N := N_is_count) (ps := ["value"]) (body := b_is_count) T.F_is_count sc_is_count (by decide) fun cdv A outer s H E gd hr => ?_
  exact (ss_one (st_ret (EO.mov (eo_and (EO.b (eo_call (ok_is_whole T) gd (hr.mono (by decide)) rfl T.g_is_whole T.F_is_whole.kp (bi_is_whole T) passA (ab_cons (eb_v 0 (pv 0)) ab_nil))) (eo_one (EC.eo (ec_ge (eb_v 0 (pv 0)) (EO.b eo_int))))))))
theorem ok_is_face (T : Tx K mg) : FnG P w K mg base CX0 3 T.a_is_face T.d_is_face ["value"] (spM (C0 K) m_is_face) := by
  refine fg_mk0 (N := N_is_face) (ps := ["value"]) (body := b_is_face) T.F_is_face sc_is_face (by decide) fun cdv A outer s H E gd hr => ?_
  exact (ss_one (st_ret (EO.mov (eo_and (EO.b (eo_call (ok_is_count T) gd (hr.mono (by decide)) rfl T.g_is_count T.F_is_count.kp (bi_is_count T) passA (ab_cons (eb_v 0 (pv 0)) ab_nil))) (eo_one (EC.eo (ec_le (eb_v 0 (pv 0)) (EO.b eo_int))))))))
theorem ok_are_coins (T : Tx K mg) : FnG P w K mg base CX0 4 T.a_are_coins T.d_are_coins ["value"] (spM (C0 K) m_are_coins) := by
  refine fg_mk0 (N := N_are_coins) (ps := ["value"]) (body := b_are_coins) T.F_are_coins sc_are_coins (by decide) fun cdv A outer s H E gd hr => ?_
  exact (ss_one (st_ret (EO.mov (eo_and (EO.b (eo_isi .L rfl rfl T.z_isinstance rfl T.z_list boot_list (eb_v 0 (pv 0)))) (eo_and (EO.b (EC.eo (ec_neR rfl (u65 hr) (EB.r (eb_v 0 (pv 0))) (er_lst ar_nil)))) (eo_one (eo_cb (cr_all rfl) caS_all rfl T.z_all (by decide +kernel) (ab_cons (EO.b (eo_lc (own := [("face", 1)]) rfl sc_are_coins.nd (IT.b (it_list rfl (eo_v 0 (pv 0)))) (blkOk_by (N := N_are_coins) (sc := defScope s_are_coins) (by decide +kernel)) (fun _ _ _ _ _ => (tg_sh (pg_name (i := 1) sc_are_coins.nd rfl (by first | exact Or.inl rfl | exact Or.inr rfl)))) (fun _ _ _ _ _ => ets_nil) (fun _ _ _ _ _ => (eo_call (ok_is_face T) gd (hr.mono (by decide)) rfl T.g_is_face T.F_is_face.kp (bi_is_face T) passA (ab_cons (eb_v 1 (pv 1)) ab_nil))) (by decide))) ab_nil))))))))
theorem ok_check_coins (T : Tx K mg) : FnG P w K mg base CX0 5 T.a_check_coins T.d_check_coins ["coins"] (spM (C0 K) m_check_coins) := by
  refine fg_mk0 (N := N_check_coins) (ps := ["coins"]) (body := b_check_coins) T.F_check_coins sc_check_coins (by decide) fun cdv A outer s H E gd hr => ?_
  exact (ss_one (st_if (et_not (et_val (EO.b (eo_call (ok_are_coins T) gd (hr.mono (by decide)) rfl T.g_are_coins T.F_are_coins.kp (bi_are_coins T) passA (ab_cons (eb_v 0 (pv 0)) ab_nil))))) (ss_one st_never) ss_nil))
theorem ok_check_coins_many (T : Tx K mg) : FnG P w K mg base CX0 6 T.a_check_coins_many T.d_check_coins_many ["coins", "many"] (spM (C0 K) m_check_coins_many) := by
  refine fg_mk0 (N := N_check_coins_many) (ps := ["coins", "many"]) (body := b_check_coins_many) T.F_check_coins_many sc_check_coins_many (by decide) fun cdv A outer s H E gd hr => ?_
  exact (ss_cons
  (st_expr (EO.b (eo_call (ok_check_coins T) gd (hr.mono (by decide)) rfl T.g_check_coins T.F_check_coins.kp (bi_check_coins T) passA (ab_cons (eb_v 0 (pv 0)) ab_nil))))
  (ss_one (st_if (EW.et (ew_or (et_not (et_val (EO.b (eo_call (ok_is_count T) gd (hr.mono (by decide)) rfl T.g_is_count T.F_is_count.kp (bi_is_count T) passA (ab_cons (eb_v 1 (pv 1)) ab_nil))))) (ew_or1 (et_not (et_chain op_le op_le (EO.b eo_int) (eb_v 1 (pv 1)) (EO.b (eo_cb call_len caS_len rfl T.z_len boot_len (ab_cons (eb_v 0 (pv 0)) ab_nil)))))))) (ss_one st_never) ss_nil)))
theorem ok_turned_in (T : Tx K mg) : FnG P w K mg base CX0 1 T.a_turned_in T.d_turned_in ["coins", "places"] (spM (C0 K) m_turned_in) := by
  refine fg_mk0 (N := N_turned_in) (ps := ["coins", "places"]) (body := b_turned_in) T.F_turned_in sc_turned_in (by decide) fun cdv A outer s H E gd hr => ?_
  exact (ss_one (st_ret (EO.mov (eo_lc (own := [("at", 2), ("face", 3)]) rfl sc_turned_in.nd (IT.b (it_enum rfl rfl T.z_enumerate (ao_cons (eo_v 0 (pv 0)) ao_nil))) (blkOk_by (N := N_turned_in) (sc := defScope s_turned_in) (by decide +kernel)) (fun _ _ _ _ _ => (tg_tup (n := 2) rfl rfl (tgs_cons (tg_sh (pg_name (i := 2) sc_turned_in.nd rfl (by first | exact Or.inl rfl | exact Or.inr rfl))) (tgs_cons (tg_sh (pg_name (i := 3) sc_turned_in.nd rfl (by first | exact Or.inl rfl | exact Or.inr rfl))) tgs_nil)))) (fun _ _ _ _ _ => ets_nil) (fun _ _ _ _ _ => (eo_if (EC.et (ec_in rfl (u65 hr) (eb_v 2 (pv 2)) (eb_v 1 (pv 1)))) (eo_sub (EO.b eo_int) (eb_v 3 (pv 3))) (eo_v 3 (pv 3)))) (by decide)))))
theorem ok_swept (T : Tx K mg) : FnG P w K mg base CX0 2 T.a_swept T.d_swept ["coins", "many"] (spM (C0 K) m_swept) := by
  refine fg_mk0 (N := N_swept) (ps := ["coins", "many"]) (body := b_swept) T.F_swept sc_swept (by decide) fun cdv A outer s H E gd hr => ?_
  exact (ss_cons
  (st_parA (i := 2) (j := 3) rfl sc_swept.nd rfl rfl (by decide) rfl rfl NameB.ow NameB.ow (ao_cons (eo_ct call_list_of caS_list rfl T.z_list boot_list (ab_cons (eb_v 0 (pv 0)) ab_nil)) (ao_cons (eo_lst ao_nil) ao_nil)) (by rfl))
  (ss_cons
  (st_for PassesOwn.never rfl (it_rng1 rfl T.z_range (ab_cons (EO.b (eo_add rfl (EO.b (eo_sub (EO.b (eo_cb call_len caS_len rfl T.z_len boot_len (ab_cons (eb_v 0 (pv 0)) ab_nil))) (eb_v 1 (pv 1)))) (EO.b eo_int))) ab_nil)) (tg_sh (pg_name (i := 4) sc_swept.nd rfl (by first | exact Or.inl rfl | exact Or.inr rfl))) (ss_one (st_if (EC.et (ec_eqR rfl (u65 hr) (EB.r (eb_ix rfl (eb_v 2 (pv 2)) (eb_v 4 (pv 4)))) (EB.r (EO.b eo_int)))) (ss_cons
  (st_app (i := 3) rfl (pv 3) (eo_v 4 (pv 4)))
  (ss_one (st_asg (eo_call (ok_turned_in T) gd (hr.mono (by decide)) rfl T.g_turned_in T.F_turned_in.kp (bi_turned_in T) passA (ab_cons (eb_v 2 (pv 2)) (ab_cons (EO.b (eo_listR2 rfl rfl T.z_list rfl T.z_range (eb_v 4 (pv 4)) (EO.b (eo_add rfl (eb_v 4 (pv 4)) (eb_v 1 (pv 1)))))) ab_nil))) (tg_ow (pg_name (i := 2) sc_swept.nd rfl (by first | exact Or.inl rfl | exact Or.inr rfl)))))) ss_nil)))
  (ss_one (st_ret (em_tup2 (pv 3) (pv 2))))))
theorem ok_row_plan (T : Tx K mg) : FnG P w K mg base CX0 7 T.a_row_plan T.d_row_plan ["coins", "many"] (spM (C0 K) m_row_plan) := by
  refine fg_mk0 (N := N_row_plan) (ps := ["coins", "many"]) (body := b_row_plan) T.F_row_plan sc_row_plan (by decide) fun cdv A outer s H E gd hr => ?_
  exact (ss_cons
  (st_expr (EO.b (eo_call (ok_check_coins_many T) gd (hr.mono (by decide)) rfl T.g_check_coins_many T.F_check_coins_many.kp (bi_check_coins_many T) passA (ab_cons (eb_v 0 (pv 0)) (ab_cons (eb_v 1 (pv 1)) ab_nil)))))
  (ss_cons
  (st_asg (eo_call (ok_swept T) gd (hr.mono (by decide)) rfl T.g_swept T.F_swept.kp (bi_swept T) passA (ab_cons (eb_v 0 (pv 0)) (ab_cons (eb_v 1 (pv 1)) ab_nil))) (tg_tup (n := 2) rfl rfl (tgs_cons (tg_ow (pg_name (i := 2) sc_row_plan.nd rfl (by first | exact Or.inl rfl | exact Or.inr rfl))) (tgs_cons (tg_sh (pg_name (i := 3) sc_row_plan.nd rfl (by first | exact Or.inl rfl | exact Or.inr rfl))) tgs_nil))))
  (ss_one (st_ret (em_if (EC.et (ec_eqR rfl (u65 hr) (EB.r (EO.b (eo_cb (cr_sum rfl) caS_sum rfl T.z_sum boot_sum (ab_cons (eb_v 3 (pv 3)) ab_nil)))) (EB.r (EO.b eo_int)))) (em_v 2 (pv 2)) (EO.mov eo_non))))))
theorem ok_left_in_row (T : Tx K mg) : FnG P w K mg base CX0 7 T.a_left_in_row T.d_left_in_row ["coins", "many"] (spM (C0 K) m_left_in_row) := by
  refine fg_mk0 (N := N_left_in_row) (ps := ["coins", "many"]) (body := b_left_in_row) T.F_left_in_row sc_left_in_row (by decide) fun cdv A outer s H E gd hr => ?_
  exact (ss_cons
  (st_expr (EO.b (eo_call (ok_check_coins_many T) gd (hr.mono (by decide)) rfl T.g_check_coins_many T.F_check_coins_many.kp (bi_check_coins_many T) passA (ab_cons (eb_v 0 (pv 0)) (ab_cons (eb_v 1 (pv 1)) ab_nil)))))
  (ss_one (st_ret (EO.mov (eo_ix rfl (eo_call (ok_swept T) gd (hr.mono (by decide)) rfl T.g_swept T.F_swept.kp (bi_swept T) passA (ab_cons (eb_v 0 (pv 0)) (ab_cons (eb_v 1 (pv 1)) ab_nil))) (EO.b eo_int))))))
theorem ok_class_sums (T : Tx K mg) : FnG P w K mg base CX0 7 T.a_class_sums T.d_class_sums ["coins", "many"] (spM (C0 K) m_class_sums) := by
  refine fg_mk0 (N := N_class_sums) (ps := ["coins", "many"]) (body := b_class_sums) T.F_class_sums sc_class_sums (by decide) fun cdv A outer s H E gd hr => ?_
  exact (ss_cons
  (st_expr (EO.b (eo_call (ok_check_coins_many T) gd (hr.mono (by decide)) rfl T.g_check_coins_many T.F_check_coins_many.kp (bi_check_coins_many T) passA (ab_cons (eb_v 0 (pv 0)) (ab_cons (eb_v 1 (pv 1)) ab_nil)))))
  (ss_one (st_ret (EO.mov (eo_lc (own := [("first", 2)]) rfl sc_class_sums.nd (IT.b (it_rng1 rfl T.z_range (ab_cons (eb_v 1 (pv 1)) ab_nil))) (blkOk_by (N := N_class_sums) (sc := defScope s_class_sums) (by decide +kernel)) (fun _ _ _ _ _ => (tg_sh (pg_name (i := 2) sc_class_sums.nd rfl (by first | exact Or.inl rfl | exact Or.inr rfl)))) (fun _ _ _ _ _ => ets_nil) (fun _ _ _ _ _ => (eo_mod (EO.b (eo_cb (cr_sum rfl) caS_sum rfl T.z_sum boot_sum (ab_cons (EO.b (eo_slS rfl (eb_v 0 (pv 0)) (ep_some (eb_v 2 (pv 2))) ep_none (ep_some (eb_v 1 (pv 1))))) ab_nil))) (EO.b eo_int))) (by decide))))))
theorem ok_can_turn_row (T : Tx K mg) : FnG P w K mg base CX0 7 T.a_can_turn_row T.d_can_turn_row ["coins", "many"] (spM (C0 K) m_can_turn_row) := by
  refine fg_mk0 (N := N_can_turn_row) (ps := ["coins", "many"]) (body := b_can_turn_row) T.F_can_turn_row sc_can_turn_row (by decide) fun cdv A outer s H E gd hr => ?_
  exact (ss_cons
  (st_expr (EO.b (eo_call (ok_check_coins_many T) gd (hr.mono (by decide)) rfl T.g_check_coins_many T.F_check_coins_many.kp (bi_check_coins_many T) passA (ab_cons (eb_v 0 (pv 0)) (ab_cons (eb_v 1 (pv 1)) ab_nil)))))
  (ss_one (st_ret (EO.mov (EC.eo (ec_eqR rfl (u65 hr) (EB.r (EO.b (eo_cb (cr_sum rfl) caS_sum rfl T.z_sum boot_sum (ab_cons (eb_ix rfl (EO.b (eo_call (ok_swept T) gd (hr.mono (by decide)) rfl T.g_swept T.F_swept.kp (bi_swept T) passA (ab_cons (eb_v 0 (pv 0)) (ab_cons (eb_v 1 (pv 1)) ab_nil)))) (EO.b eo_int)) ab_nil)))) (EB.r (EO.b eo_int))))))))
theorem ok_x_law_cell (T : Tx K mg) : FnG P w K mg base CX0 1 T.a_x_law_cell T.d_x_law_cell ["script", "index"] (spM (C0 K) m_x_law_cell) := by
  refine fg_mk0 (N := N_x_law_cell) (ps := ["script", "index"]) (body := b_x_law_cell) T.F_x_law_cell sc_x_law_cell (by decide) fun cdv A outer s H E gd hr => ?_
  exact (ss_cons
  (st_if (EC.et (ec_lt (eb_v 1 (pv 1)) (EO.b (eo_cb call_len caS_len rfl T.z_len boot_len (ab_cons (eb_v 0 (pv 0)) ab_nil))))) (ss_one (st_ret (EO.mov (eo_ixS rfl (eb_v 0 (pv 0)) (eb_v 1 (pv 1)))))) ss_nil)
  (ss_one (st_ret (EO.mov (eo_mod (EO.b (eo_cb (cr_sum rfl) caS_sum rfl T.z_sum boot_sum (ab_cons (EO.b (eo_sl rfl (eb_v 0 (pv 0)) ep_none (ep_some (EO.b eo_int)))) ab_nil))) (EO.b eo_int))))))
theorem ok_x_law_hash (T : Tx K mg) : FnG P w K mg base CX0 1 T.a_x_law_hash T.d_x_law_hash ["seed", "index"] (spM (C0 K) m_x_law_hash) := by
  refine fg_mk0 (N := N_x_law_hash) (ps := ["seed", "index"]) (body := b_x_law_hash) T.F_x_law_hash sc_x_law_hash (by decide) fun cdv A outer s H E gd hr => ?_
  exact (ss_cons
  (st_asg (eo_mod (EO.b (eo_ct call_int1 caS_int rfl T.z_int boot_int (ab_cons (EO.b (eo_add rfl (EO.b (eo_add rfl (EO.b (eo_add rfl (EO.b (eo_mul rfl (eb_v 0 (pv 0)) (EO.b eo_int))) (EO.b (eo_mul rfl (EO.b (eo_mul rfl (EO.b eo_int) (eb_v 1 (pv 1)))) (eb_v 1 (pv 1)))))) (EO.b (eo_mul rfl (EO.b eo_int) (eb_v 1 (pv 1)))))) (EO.b eo_int))) ab_nil))) (EO.b eo_int)) (tg_sh (pg_name (i := 2) sc_x_law_hash.nd rfl (by first | exact Or.inl rfl | exact Or.inr rfl))))
  (ss_cons
  (st_asg (eo_mod (EO.b (eo_ct call_int1 caS_int rfl T.z_int boot_int (ab_cons (EO.b (eo_add rfl (EO.b (eo_add rfl (EO.b (eo_mul rfl (eb_v 2 (pv 2)) (eb_v 2 (pv 2)))) (EO.b (eo_mul rfl (EO.b eo_int) (eb_v 1 (pv 1)))))) (EO.b eo_int))) ab_nil))) (EO.b eo_int)) (tg_sh (pg_name (i := 2) sc_x_law_hash.nd rfl (by first | exact Or.inl rfl | exact Or.inr rfl))))
  (ss_one (st_ret (EO.mov (eo_mod (EO.b (eo_ct call_int1 caS_int rfl T.z_int boot_int (ab_cons (EO.b (eo_mul rfl (eb_v 2 (pv 2)) (EO.b eo_int))) ab_nil))) (EO.b eo_int)))))))
theorem ok_x_law_random (T : Tx K mg) : FnG P w K mg base CX0 2 T.a_x_law_random T.d_x_law_random ["generator", "bound"] (spM (C0 K) m_x_law_random) := by
  refine fg_mk0 (N := N_x_law_random) (ps := ["generator", "bound"]) (body := b_x_law_random) T.F_x_law_random sc_x_law_random (by decide) fun cdv A outer s H E gd hr => ?_
  exact (ss_cons
  (st_if (EC.et (ec_gt (eb_ix rfl (eb_v 0 (pv 0)) (EO.b eo_int)) (EO.b eo_int))) (ss_cons
  (st_asg (eo_mod (EO.b (eo_ct call_int1 caS_int rfl T.z_int boot_int (ab_cons (eb_ix rfl (eb_v 0 (pv 0)) (EO.b eo_int)) ab_nil))) (eb_v 1 (pv 1))) (tg_sh (pg_name (i := 2) sc_x_law_random.nd rfl (by first | exact Or.inl rfl | exact Or.inr rfl))))
  (ss_cons
  (st_setix (i := 0) (pv 0) (eo_div (eb_ix rfl (eb_v 0 (pv 0)) (EO.b eo_int)) (eb_v 1 (pv 1))) (EO.b eo_int) (fun ti pi => pg_sub (pv 0) pi set_list))
  (ss_one (st_ret (em_v 2 (pv 2)))))) ss_nil)
  (ss_cons
  (st_asg eo_int (tg_sh (pg_name (i := 2) sc_x_law_random.nd rfl (by first | exact Or.inl rfl | exact Or.inr rfl))))
  (ss_cons
  (st_for PassesOwn.never rfl (it_rng1 rfl T.z_range (ab_cons (EO.b (eo_add rfl (EO.b eo_int) (EO.b (eo_div (EO.b (eo_bits (eb_v 1 (pv 1)))) (EO.b eo_int))))) ab_nil)) (tg_sh (pg_name (i := 3) sc_x_law_random.nd rfl (by first | exact Or.inl rfl | exact Or.inr rfl))) (ss_cons
  (st_setix (i := 0) (pv 0) (eo_add rfl (eb_ix rfl (eb_v 0 (pv 0)) (EO.b eo_int)) (EO.b eo_int)) (EO.b eo_int) (fun ti pi => pg_sub (pv 0) pi set_list))
  (ss_one (st_asg (eo_add rfl (EO.b (eo_mul rfl (eb_v 2 (pv 2)) (EO.b eo_int))) (EO.b (eo_call (ok_x_law_hash T) gd (hr.mono (by decide)) rfl T.g_x_law_hash T.F_x_law_hash.kp (bi_x_law_hash T) passA (ab_cons (eb_ix rfl (eb_v 0 (pv 0)) (EO.b eo_int)) (ab_cons (eb_ix rfl (eb_v 0 (pv 0)) (EO.b eo_int)) ab_nil))))) (tg_sh (pg_name (i := 2) sc_x_law_random.nd rfl (by first | exact Or.inl rfl | exact Or.inr rfl)))))))
  (ss_one (st_ret (EO.mov (eo_mod (EO.b (eo_ct call_int1 caS_int rfl T.z_int boot_int (ab_cons (eb_v 2 (pv 2)) ab_nil))) (eb_v 1 (pv 1)))))))))
theorem ok_x_law_generator (T : Tx K mg) : FnG P w K mg base CX0 2 T.a_x_law_generator T.d_x_law_generator ["script", "index"] (spM (C0 K) m_x_law_generator) := by
  refine fg_mk0 (N := N_x_law_generator) (ps := ["script", "index"]) (body := b_x_law_generator) T.F_x_law_generator sc_x_law_generator (by decide) fun cdv A outer s H E gd hr => ?_
  exact (ss_cons
  (st_asg (eo_call (ok_x_law_cell T) gd (hr.mono (by decide)) rfl T.g_x_law_cell T.F_x_law_cell.kp (bi_x_law_cell T) passA (ab_cons (eb_v 0 (pv 0)) (ab_cons (eb_v 1 (pv 1)) ab_nil))) (tg_sh (pg_name (i := 2) sc_x_law_generator.nd rfl (by first | exact Or.inl rfl | exact Or.inr rfl))))
  (ss_one (st_ret (EO.mov (eo_lst (ao_cons (eo_mod (EO.b (eo_ct call_int1 caS_int rfl T.z_int boot_int (ab_cons (EO.b (eo_cb (call_max2 rfl) caS_II rfl T.z_max boot_max (ab_cons (EO.b (eo_sub (eb_v 2 (pv 2)) (EO.b (eo_pow (EO.b eo_int) (EO.b eo_int))))) (ab_cons (EO.b eo_int) ab_nil)))) ab_nil))) (EO.b (eo_pow (EO.b (eo_pow (EO.b eo_int) (EO.b eo_int))) (EO.b eo_int)))) (ao_cons (eo_mod (EO.b (eo_ct call_int1 caS_int rfl T.z_int boot_int (ab_cons (eb_v 2 (pv 2)) ab_nil))) (EO.b eo_int)) (ao_cons (eo_mul rfl (EO.b eo_int) (eb_v 1 (pv 1))) ao_nil))))))))
theorem ok_x_law_coins (T : Tx K mg) : FnG P w K mg base CX0 3 T.a_x_law_coins T.d_x_law_coins ["generator", "most"] (spM (C0 K) m_x_law_coins) := by
  refine fg_mk0 (N := N_x_law_coins) (ps := ["generator", "most"]) (body := b_x_law_coins) T.F_x_law_coins sc_x_law_coins (by decide) fun cdv A outer s H E gd hr => ?_
  exact (ss_one (st_ret (EO.mov (eo_lc (own := [("turn", 2)]) rfl sc_x_law_coins.nd (IT.b (it_rng1 rfl T.z_range (ab_cons (EO.b (eo_add rfl (EO.b eo_int) (EO.b (eo_call (ok_x_law_random T) gd (hr.mono (by decide)) rfl T.g_x_law_random T.F_x_law_random.kp (bi_x_law_random T) passA (ab_cons (eb_v 0 (pv 0)) (ab_cons (eb_v 1 (pv 1)) ab_nil)))))) ab_nil))) (blkOk_by (N := N_x_law_coins) (sc := defScope s_x_law_coins) (by decide +kernel)) (fun _ _ _ _ _ => (tg_sh (pg_name (i := 2) sc_x_law_coins.nd rfl (by first | exact Or.inl rfl | exact Or.inr rfl)))) (fun _ _ _ _ _ => ets_nil) (fun _ _ _ _ _ => (eo_call (ok_x_law_random T) gd (hr.mono (by decide)) rfl T.g_x_law_random T.F_x_law_random.kp (bi_x_law_random T) passA (ab_cons (eb_v 0 (pv 0)) (ab_cons (EO.b eo_int) ab_nil)))) (by decide)))))
theorem ok_x_law_turned (T : Tx K mg) : FnG P w K mg base CX0 1 T.a_x_law_turned T.d_x_law_turned ["coins", "places"] (spM (C0 K) m_x_law_turned) := by
  refine fg_mk0 (N := N_x_law_turned) (ps := ["coins", "places"]) (body := b_x_law_turned) T.F_x_law_turned sc_x_law_turned (by decide) fun cdv A outer s H E gd hr => ?_
  exact (ss_one (st_ret (EO.mov (eo_lc (own := [("at", 2), ("face", 3)]) rfl sc_x_law_turned.nd (IT.b (it_enum rfl rfl T.z_enumerate (ao_cons (eo_v 0 (pv 0)) ao_nil))) (blkOk_by (N := N_x_law_turned) (sc := defScope s_x_law_turned) (by decide +kernel)) (fun _ _ _ _ _ => (tg_tup (n := 2) rfl rfl (tgs_cons (tg_sh (pg_name (i := 2) sc_x_law_turned.nd rfl (by first | exact Or.inl rfl | exact Or.inr rfl))) (tgs_cons (tg_sh (pg_name (i := 3) sc_x_law_turned.nd rfl (by first | exact Or.inl rfl | exact Or.inr rfl))) tgs_nil)))) (fun _ _ _ _ _ => ets_nil) (fun _ _ _ _ _ => (eo_if (EC.et (ec_in rfl (u65 hr) (eb_v 2 (pv 2)) (eb_v 1 (pv 1)))) (eo_sub (EO.b eo_int) (eb_v 3 (pv 3))) (eo_v 3 (pv 3)))) (by decide)))))
theorem ok_x_law_behind (T : Tx K mg) : FnG P w K mg base CX0 2 T.a_x_law_behind T.d_x_law_behind ["coins", "many", "plan"] (spM (C0 K) m_x_law_behind) := by
  refine fg_mk0 (N := N_x_law_behind) (ps := ["coins", "many", "plan"]) (body := b_x_law_behind) T.F_x_law_behind sc_x_law_behind (by decide) fun cdv A outer s H E gd hr => ?_
  exact (ss_cons
  (st_asg (eo_ct call_list_of caS_list rfl T.z_list boot_list (ab_cons (eb_v 0 (pv 0)) ab_nil)) (tg_sh (pg_name (i := 3) sc_x_law_behind.nd rfl (by first | exact Or.inl rfl | exact Or.inr rfl))))
  (ss_cons
  (st_for PassesOwn.never rfl (it_list rfl (eo_v 2 (pv 2))) (tg_sh (pg_name (i := 4) sc_x_law_behind.nd rfl (by first | exact Or.inl rfl | exact Or.inr rfl))) (ss_one (st_asg (eo_call (ok_x_law_turned T) gd (hr.mono (by decide)) rfl T.g_x_law_turned T.F_x_law_turned.kp (bi_x_law_turned T) passA (ab_cons (eb_v 3 (pv 3)) (ab_cons (EO.b (eo_listR2 rfl rfl T.z_list rfl T.z_range (eb_v 4 (pv 4)) (EO.b (eo_add rfl (eb_v 4 (pv 4)) (eb_v 1 (pv 1)))))) ab_nil))) (tg_sh (pg_name (i := 3) sc_x_law_behind.nd rfl (by first | exact Or.inl rfl | exact Or.inr rfl))))))
  (ss_one (st_ret (em_v 3 (pv 3))))))
theorem ok_x_law_plans (T : Tx K mg) : FnG P w K mg base CX0 3 T.a_x_law_plans T.d_x_law_plans ["coins", "many"] (spM (C0 K) m_x_law_plans) := by
  refine fg_mk0 (N := N_x_law_plans) (ps := ["coins", "many"]) (body := b_x_law_plans) T.F_x_law_plans sc_x_law_plans (by decide) fun cdv A outer s H E gd hr => ?_
  exact (ss_cons
  (st_parA (i := 2) (j := 3) rfl sc_x_law_plans.nd rfl rfl (by decide) rfl rfl NameB.sh NameB.sh (ao_cons (eo_lst (ao_cons (eo_lst ao_nil) ao_nil)) (ao_cons (eo_add rfl (EO.b (eo_sub (EO.b (eo_cb call_len caS_len rfl T.z_len boot_len (ab_cons (eb_v 0 (pv 0)) ab_nil))) (eb_v 1 (pv 1)))) (EO.b eo_int)) ao_nil)) (by rfl))
  (ss_cons
  (st_for PassesOwn.never rfl (it_rng1 rfl T.z_range (ab_cons (eb_v 3 (pv 3)) ab_nil)) (tg_sh (pg_name (i := 4) sc_x_law_plans.nd rfl (by first | exact Or.inl rfl | exact Or.inr rfl))) (ss_one (st_asg (eo_add rfl (eb_v 2 (pv 2)) (EO.b (eo_lc (own := [("row", 5)]) rfl sc_x_law_plans.nd (IT.b (it_list rfl (eo_v 2 (pv 2)))) (blkOk_by (N := N_x_law_plans) (sc := defScope s_x_law_plans) (by decide +kernel)) (fun _ _ _ _ _ => (tg_sh (pg_name (i := 5) sc_x_law_plans.nd rfl (by first | exact Or.inl rfl | exact Or.inr rfl)))) (fun _ _ _ _ _ => ets_nil) (fun _ _ _ _ _ => (eo_add rfl (eb_v 5 (pv 5)) (EO.b (eo_lst (ao_cons (eo_v 4 (pv 4)) ao_nil))))) (by decide)))) (tg_sh (pg_name (i := 2) sc_x_law_plans.nd rfl (by first | exact Or.inl rfl | exact Or.inr rfl))))))
  (ss_one (st_ret (EO.mov (eo_lc (own := [("row", 5)]) rfl sc_x_law_plans.nd (IT.b (it_list rfl (eo_v 2 (pv 2)))) (blkOk_by (N := N_x_law_plans) (sc := defScope s_x_law_plans) (by decide +kernel)) (fun _ _ _ _ _ => (tg_sh (pg_name (i := 5) sc_x_law_plans.nd rfl (by first | exact Or.inl rfl | exact Or.inr rfl)))) (fun _ _ _ _ _ => (ets_one (EC.et (ec_eqR rfl (u65 hr) (EB.r (EO.b (eo_cb (cr_sum rfl) caS_sum rfl T.z_sum boot_sum (ab_cons (EO.b (eo_call (ok_x_law_behind T) gd (hr.mono (by decide)) rfl T.g_x_law_behind T.F_x_law_behind.kp (bi_x_law_behind T) passA (ab_cons (eb_v 0 (pv 0)) (ab_cons (eb_v 1 (pv 1)) (ab_cons (eb_v 5 (pv 5)) ab_nil))))) ab_nil)))) (EB.r (EO.b eo_int)))))) (fun _ _ _ _ _ => (eo_v 5 (pv 5))) (by decide)))))))
theorem ok_x_law_right (T : Tx K mg) : FnG P w K mg base CX0 8 T.a_x_law_right T.d_x_law_right ["generator"] (spM (C0 K) m_x_law_right) := by
  refine fg_mk0 (N := N_x_law_right) (ps := ["generator"]) (body := b_x_law_right) T.F_x_law_right sc_x_law_right (by decide) fun cdv A outer s H E gd hr => ?_
  exact (ss_cons
  (st_asg (eo_call (ok_x_law_coins T) gd (hr.mono (by decide)) rfl T.g_x_law_coins T.F_x_law_coins.kp (bi_x_law_coins T) passA (ab_cons (eb_v 0 (pv 0)) (ab_cons (EO.b eo_int) ab_nil))) (tg_sh (pg_name (i := 1) sc_x_law_right.nd rfl (by first | exact Or.inl rfl | exact Or.inr rfl))))
  (ss_cons
  (st_asg (eo_tup (ao_cons (eo_add rfl (EO.b eo_int) (EO.b (eo_call (ok_x_law_random T) gd (hr.mono (by decide)) rfl T.g_x_law_random T.F_x_law_random.kp (bi_x_law_random T) passA (ab_cons (eb_v 0 (pv 0)) (ab_cons (EO.b (eo_cb call_len caS_len rfl T.z_len boot_len (ab_cons (eb_v 1 (pv 1)) ab_nil))) ab_nil))))) (ao_cons (eo_repr rfl gd (u65 hr) rfl T.z_repr (EB.r (eb_v 1 (pv 1)))) (ao_cons (eo_ct call_list_of caS_list rfl T.z_list boot_list (ab_cons (eb_v 1 (pv 1)) ab_nil)) ao_nil)))) (tg_tup (n := 3) rfl rfl (tgs_cons (tg_sh (pg_name (i := 2) sc_x_law_right.nd rfl (by first | exact Or.inl rfl | exact Or.inr rfl))) (tgs_cons (tg_sh (pg_name (i := 3) sc_x_law_right.nd rfl (by first | exact Or.inl rfl | exact Or.inr rfl))) (tgs_cons (tg_sh (pg_name (i := 4) sc_x_law_right.nd rfl (by first | exact Or.inl rfl | exact Or.inr rfl))) tgs_nil)))))
  (ss_cons
  (st_if (EC.et (ec_eqR rfl (u65 hr) (EB.r (EO.b (eo_call (ok_x_law_random T) gd (hr.mono (by decide)) rfl T.g_x_law_random T.F_x_law_random.kp (bi_x_law_random T) passA (ab_cons (eb_v 0 (pv 0)) (ab_cons (EO.b eo_int) ab_nil))))) (EB.r (EO.b eo_int)))) (ss_cons
  (st_asg (eo_mul rfl (EO.b (eo_lst (ao_cons eo_int ao_nil))) (EO.b (eo_cb call_len caS_len rfl T.z_len boot_len (ab_cons (eb_v 1 (pv 1)) ab_nil)))) (tg_sh (pg_name (i := 5) sc_x_law_right.nd rfl (by first | exact Or.inl rfl | exact Or.inr rfl))))
  (ss_cons
  (st_asg (eo_call (ok_x_law_behind T) gd (hr.mono (by decide)) rfl T.g_x_law_behind T.F_x_law_behind.kp (bi_x_law_behind T) passA (ab_cons (eb_v 5 (pv 5)) (ab_cons (eb_v 2 (pv 2)) (ab_cons (EO.b (eo_sh (eo_lc (own := [("at", 6)]) rfl sc_x_law_right.nd (IT.b (it_rng1 rfl T.z_range (ab_cons (EO.b (eo_add rfl (EO.b (eo_sub (EO.b (eo_cb call_len caS_len rfl T.z_len boot_len (ab_cons (eb_v 1 (pv 1)) ab_nil))) (eb_v 2 (pv 2)))) (EO.b eo_int))) ab_nil))) (blkOk_by (N := N_x_law_right) (sc := defScope s_x_law_right) (by decide +kernel)) (fun _ _ _ _ _ => (tg_sh (pg_name (i := 6) sc_x_law_right.nd rfl (by first | exact Or.inl rfl | exact Or.inr rfl)))) (fun _ _ _ _ _ => (ets_one (EC.et (ec_eqR rfl (u65 hr) (EB.r (EO.b (eo_call (ok_x_law_random T) gd (hr.mono (by decide)) rfl T.g_x_law_random T.F_x_law_random.kp (bi_x_law_random T) passA (ab_cons (eb_v 0 (pv 0)) (ab_cons (EO.b eo_int) ab_nil))))) (EB.r (EO.b eo_int)))))) (fun _ _ _ _ _ => (eo_v 6 (pv 6))) (by decide)))) ab_nil)))) (tg_sh (pg_name (i := 1) sc_x_law_right.nd rfl (by first | exact Or.inl rfl | exact Or.inr rfl))))
  (ss_one (st_parA (i := 3) (j := 4) rfl sc_x_law_right.nd rfl rfl (by decide) rfl rfl NameB.sh NameB.sh (ao_cons (eo_repr rfl gd (u65 hr) rfl T.z_repr (EB.r (eb_v 1 (pv 1)))) (ao_cons (eo_ct call_list_of caS_list rfl T.z_list boot_list (ab_cons (eb_v 1 (pv 1)) ab_nil)) ao_nil)) (by rfl))))) ss_nil)
  (ss_cons
  (st_asg (eo_call (ok_x_law_plans T) gd (hr.mono (by decide)) rfl T.g_x_law_plans T.F_x_law_plans.kp (bi_x_law_plans T) passA (ab_cons (eb_v 1 (pv 1)) (ab_cons (eb_v 2 (pv 2)) ab_nil))) (tg_sh (pg_name (i := 7) sc_x_law_right.nd rfl (by first | exact Or.inl rfl | exact Or.inr rfl))))
  (ss_cons
  (st_for PassesOwn.never rfl (it_rng1 rfl T.z_range (ab_cons (EO.b (eo_add rfl (EO.b (eo_sub (EO.b (eo_cb call_len caS_len rfl T.z_len boot_len (ab_cons (eb_v 1 (pv 1)) ab_nil))) (eb_v 2 (pv 2)))) (EO.b eo_int))) ab_nil)) (tg_sh (pg_name (i := 6) sc_x_law_right.nd rfl (by first | exact Or.inl rfl | exact Or.inr rfl))) (ss_one (st_asg (eo_if (EC.et (ec_eqR rfl (u65 hr) (EB.r (eb_ix rfl (eb_v 4 (pv 4)) (eb_v 6 (pv 6)))) (EB.r (EO.b eo_int)))) (eo_call (ok_x_law_turned T) gd (hr.mono (by decide)) rfl T.g_x_law_turned T.F_x_law_turned.kp (bi_x_law_turned T) passA (ab_cons (eb_v 4 (pv 4)) (ab_cons (EO.b (eo_listR2 rfl rfl T.z_list rfl T.z_range (eb_v 6 (pv 6)) (EO.b (eo_add rfl (eb_v 6 (pv 6)) (eb_v 2 (pv 2)))))) ab_nil))) (eo_v 4 (pv 4))) (tg_sh (pg_name (i := 4) sc_x_law_right.nd rfl (by first | exact Or.inl rfl | exact Or.inr rfl))))))
  (ss_cons
  (st_asg (eo_lst ao_nil) (tg_ow (pg_name (i := 8) sc_x_law_right.nd rfl (by first | exact Or.inl rfl | exact Or.inr rfl))))
  (ss_cons
  (st_for PassesOwn.never rfl (it_rng1 rfl T.z_range (ab_cons (eb_v 2 (pv 2)) ab_nil)) (tg_sh (pg_name (i := 9) sc_x_law_right.nd rfl (by first | exact Or.inl rfl | exact Or.inr rfl))) (ss_one (st_app (i := 8) rfl (pv 8) (eo_mod (EO.b (eo_ct call_int1 caS_int rfl T.z_int boot_int (ab_cons (EO.b (eo_cb (cr_sum rfl) caS_sum rfl T.z_sum boot_sum (ab_cons (EO.b (eo_lc (own := [("at", 6), ("face", 14)]) rfl sc_x_law_right.nd (IT.b (it_enum rfl rfl T.z_enumerate (ao_cons (eo_v 1 (pv 1)) ao_nil))) (blkOk_by (N := N_x_law_right) (sc := defScope s_x_law_right) (by decide +kernel)) (fun _ _ _ _ _ => (tg_tup (n := 2) rfl rfl (tgs_cons (tg_sh (pg_name (i := 6) sc_x_law_right.nd rfl (by first | exact Or.inl rfl | exact Or.inr rfl))) (tgs_cons (tg_sh (pg_name (i := 14) sc_x_law_right.nd rfl (by first | exact Or.inl rfl | exact Or.inr rfl))) tgs_nil)))) (fun _ _ _ _ _ => (ets_one (EC.et (ec_eqR rfl (u65 hr) (EB.r (EO.b (eo_mod (EO.b (eo_ct call_int1 caS_int rfl T.z_int boot_int (ab_cons (EO.b (eo_sub (eb_v 6 (pv 6)) (eb_v 9 (pv 9)))) ab_nil))) (eb_v 2 (pv 2))))) (EB.r (EO.b eo_int)))))) (fun _ _ _ _ _ => (eo_v 14 (pv 14))) (by decide))) ab_nil))) ab_nil))) (EO.b eo_int)))))
  (ss_cons
  (st_share (i := 8) (st_asg (eo_lst (ao_cons (eo_if (EC.et (ec_neR rfl (u65 hr) (EB.r (eb_v 7 (pv 7))) (er_lst ar_nil))) (eo_ixS rfl (eb_v 7 (pv 7)) (EO.b eo_int)) eo_non) (ao_cons (eo_v 4 (pv 4)) (ao_cons (eo_v 8 (pv 8)) (ao_cons (EC.eo (ec_neR rfl (u65 hr) (EB.r (eb_v 7 (pv 7))) (er_lst ar_nil))) ao_nil))))) (tg_sh (pg_name (i := 10) sc_x_law_right.nd rfl (by first | exact Or.inl rfl | exact Or.inr rfl)))))
  (ss_cons
  (st_asg (eo_lst (ao_cons (eo_call (ok_row_plan T) gd (hr.mono (by decide)) rfl T.g_row_plan T.F_row_plan.kp (bi_row_plan T) passA (ab_cons (eb_v 1 (pv 1)) (ab_cons (eb_v 2 (pv 2)) ab_nil))) (ao_cons (eo_call (ok_left_in_row T) gd (hr.mono (by decide)) rfl T.g_left_in_row T.F_left_in_row.kp (bi_left_in_row T) passA (ab_cons (eb_v 1 (pv 1)) (ab_cons (eb_v 2 (pv 2)) ab_nil))) (ao_cons (eo_call (ok_class_sums T) gd (hr.mono (by decide)) rfl T.g_class_sums T.F_class_sums.kp (bi_class_sums T) passA (ab_cons (eb_v 1 (pv 1)) (ab_cons (eb_v 2 (pv 2)) ab_nil))) (ao_cons (eo_call (ok_can_turn_row T) gd (hr.mono (by decide)) rfl T.g_can_turn_row T.F_can_turn_row.kp (bi_can_turn_row T) passA (ab_cons (eb_v 1 (pv 1)) (ab_cons (eb_v 2 (pv 2)) ab_nil))) ao_nil))))) (tg_ow (pg_name (i := 11) sc_x_law_right.nd rfl (by first | exact Or.inl rfl | exact Or.inr rfl))))
  (ss_cons
  (st_asg (eo_lst (ao_cons (eo_callK (π := [1, 0]) (n := 2) (ok_row_plan T) gd (hr.mono (by decide)) rfl T.g_row_plan T.F_row_plan.kp (kb_row_plan_many_coins T) passA (pks_cons (eb_v 2 (pv 2)) (pks_cons (eb_v 1 (pv 1)) pks_nil))) (ao_cons (eo_callK (π := [1, 0]) (n := 2) (ok_left_in_row T) gd (hr.mono (by decide)) rfl T.g_left_in_row T.F_left_in_row.kp (kb_left_in_row_many_coins T) passA (pks_cons (eb_v 2 (pv 2)) (pks_cons (eb_v 1 (pv 1)) pks_nil))) (ao_cons (eo_callK (π := [1, 0]) (n := 2) (ok_class_sums T) gd (hr.mono (by decide)) rfl T.g_class_sums T.F_class_sums.kp (kb_class_sums_many_coins T) passA (pks_cons (eb_v 2 (pv 2)) (pks_cons (eb_v 1 (pv 1)) pks_nil))) (ao_cons (eo_callK (π := [1, 0]) (n := 2) (ok_can_turn_row T) gd (hr.mono (by decide)) rfl T.g_can_turn_row T.F_can_turn_row.kp (kb_can_turn_row_many_coins T) passA (pks_cons (eb_v 2 (pv 2)) (pks_cons (eb_v 1 (pv 1)) pks_nil))) ao_nil))))) (tg_sh (pg_name (i := 12) sc_x_law_right.nd rfl (by first | exact Or.inl rfl | exact Or.inr rfl))))
  (ss_cons
  (st_if (EW.et (ew_or (EC.et (ec_neR rfl (u65 hr) (EB.r (EO.b (eo_repr rfl gd (u65 hr) rfl T.z_repr (er_lst (ar_cons (EB.r (eb_v 11 (pv 11))) (ar_cons (EB.r (eb_v 12 (pv 12))) ar_nil)))))) (EB.r (EO.b (eo_repr rfl gd (u65 hr) rfl T.z_repr (er_lst (ar_cons (EB.r (eb_v 10 (pv 10))) (ar_cons (EB.r (eb_v 10 (pv 10))) ar_nil)))))))) (ew_or (EC.et (ec_gt (EO.b (eo_cb call_len caS_len rfl T.z_len boot_len (ab_cons (eb_v 7 (pv 7)) ab_nil))) (EO.b eo_int))) (ew_or1 (EC.et (ec_neR rfl (u65 hr) (EB.r (EO.b (EC.eo (ec_eqR rfl (u65 hr) (EB.r (EO.b (eo_lenSet rfl rfl T.z_len rfl T.z_set (eb_v 8 (pv 8)) rfl))) (EB.r (EO.b eo_int)))))) (EB.r (EO.b (EC.eo (ec_neR rfl (u65 hr) (EB.r (eb_v 7 (pv 7))) (er_lst ar_nil))))))))))) (ss_one (st_ret (EO.mov eo_bl))) ss_nil)
  (ss_cons
  (st_forMore (i := 11) (j := 13) (by decide) rfl PassesOwn.never rfl (pv 11) (pv 13) (pv 13) (pg_name (i := 13) sc_x_law_right.nd rfl (by first | exact Or.inl rfl | exact Or.inr rfl)))
  (ss_one (st_ret (EO.mov (EC.eo (ec_eqR rfl (u65 hr) (EB.r (EO.b (eo_repr rfl gd (u65 hr) rfl T.z_repr (EB.r (eb_v 1 (pv 1)))))) (EB.r (eb_v 3 (pv 3))))))))))))))))))))
theorem ok_x_law_counts_right (T : Tx K mg) : FnG P w K mg base CX0 8 T.a_x_law_counts_right T.d_x_law_counts_right ["generator"] (spM (C0 K) m_x_law_counts_right) := by
  refine fg_mk0 (N := N_x_law_counts_right) (ps := ["generator"]) (body := b_x_law_counts_right) T.F_x_law_counts_right sc_x_law_counts_right (by decide) fun cdv A outer s H E gd hr => ?_
  exact (ss_cons
  (st_asg (eo_add rfl (EO.b eo_int) (EO.b (eo_call (ok_x_law_random T) gd (hr.mono (by decide)) rfl T.g_x_law_random T.F_x_law_random.kp (bi_x_law_random T) passA (ab_cons (eb_v 0 (pv 0)) (ab_cons (EO.b eo_int) ab_nil))))) (tg_sh (pg_name (i := 1) sc_x_law_counts_right.nd rfl (by first | exact Or.inl rfl | exact Or.inr rfl))))
  (ss_cons
  (st_asg (eo_tup (ao_cons (eo_add rfl (EO.b eo_int) (EO.b (eo_call (ok_x_law_random T) gd (hr.mono (by decide)) rfl T.g_x_law_random T.F_x_law_random.kp (bi_x_law_random T) passA (ab_cons (eb_v 0 (pv 0)) (ab_cons (eb_v 1 (pv 1)) ab_nil))))) (ao_cons (eo_lst (ao_cons (eo_lst ao_nil) ao_nil)) ao_nil))) (tg_tup (n := 2) rfl rfl (tgs_cons (tg_sh (pg_name (i := 2) sc_x_law_counts_right.nd rfl (by first | exact Or.inl rfl | exact Or.inr rfl))) (tgs_cons (tg_sh (pg_name (i := 3) sc_x_law_counts_right.nd rfl (by first | exact Or.inl rfl | exact Or.inr rfl))) tgs_nil))))
  (ss_cons
  (st_for PassesOwn.never rfl (it_rng1 rfl T.z_range (ab_cons (eb_v 1 (pv 1)) ab_nil)) (tg_sh (pg_name (i := 4) sc_x_law_counts_right.nd rfl (by first | exact Or.inl rfl | exact Or.inr rfl))) (ss_one (st_asg (eo_add rfl (EO.b (eo_lc (own := [("row", 7)]) rfl sc_x_law_counts_right.nd (IT.b (it_list rfl (eo_v 3 (pv 3)))) (blkOk_by (N := N_x_law_counts_right) (sc := defScope s_x_law_counts_right) (by decide +kernel)) (fun _ _ _ _ _ => (tg_sh (pg_name (i := 7) sc_x_law_counts_right.nd rfl (by first | exact Or.inl rfl | exact Or.inr rfl)))) (fun _ _ _ _ _ => ets_nil) (fun _ _ _ _ _ => (eo_add rfl (eb_v 7 (pv 7)) (EO.b (eo_lst (ao_cons eo_int ao_nil))))) (by decide))) (EO.b (eo_lc (own := [("row", 7)]) rfl sc_x_law_counts_right.nd (IT.b (it_list rfl (eo_v 3 (pv 3)))) (blkOk_by (N := N_x_law_counts_right) (sc := defScope s_x_law_counts_right) (by decide +kernel)) (fun _ _ _ _ _ => (tg_sh (pg_name (i := 7) sc_x_law_counts_right.nd rfl (by first | exact Or.inl rfl | exact Or.inr rfl)))) (fun _ _ _ _ _ => ets_nil) (fun _ _ _ _ _ => (eo_add rfl (eb_v 7 (pv 7)) (EO.b (eo_lst (ao_cons eo_int ao_nil))))) (by decide)))) (tg_sh (pg_name (i := 3) sc_x_law_counts_right.nd rfl (by first | exact Or.inl rfl | exact Or.inr rfl))))))
  (ss_cons
  (st_parA (i := 5) (j := 6) rfl sc_x_law_counts_right.nd rfl rfl (by decide) rfl rfl NameB.sh NameB.sh (ao_cons (eo_lc (own := [("row", 7)]) rfl sc_x_law_counts_right.nd (IT.b (it_list rfl (eo_v 3 (pv 3)))) (blkOk_by (N := N_x_law_counts_right) (sc := defScope s_x_law_counts_right) (by decide +kernel)) (fun _ _ _ _ _ => (tg_sh (pg_name (i := 7) sc_x_law_counts_right.nd rfl (by first | exact Or.inl rfl | exact Or.inr rfl)))) (fun _ _ _ _ _ => (ets_one (et_val (EO.b (eo_call (ok_can_turn_row T) gd (hr.mono (by decide)) rfl T.g_can_turn_row T.F_can_turn_row.kp (bi_can_turn_row T) passA (ab_cons (eb_v 7 (pv 7)) (ab_cons (eb_v 2 (pv 2)) ab_nil))))))) (fun _ _ _ _ _ => (eo_v 7 (pv 7))) (by decide)) (ao_cons eo_int ao_nil)) (by rfl))
  (ss_cons
  (st_for PassesOwn.never rfl (it_rng1 rfl T.z_range (ab_cons (EO.b (eo_sub (EO.b (eo_add rfl (eb_v 1 (pv 1)) (EO.b eo_int))) (eb_v 2 (pv 2)))) ab_nil)) (tg_sh (pg_name (i := 4) sc_x_law_counts_right.nd rfl (by first | exact Or.inl rfl | exact Or.inr rfl))) (ss_one (st_asg (eo_mul rfl (EO.b eo_int) (eb_v 6 (pv 6))) (tg_sh (pg_name (i := 6) sc_x_law_counts_right.nd rfl (by first | exact Or.inl rfl | exact Or.inr rfl))))))
  (ss_one (st_ret (EO.mov (EC.eo (ec_eqR rfl (u65 hr) (EB.r (EO.b (eo_cb call_len caS_len rfl T.z_len boot_len (ab_cons (eb_v 5 (pv 5)) ab_nil)))) (EB.r (eb_v 6 (pv 6)))))))))))))
theorem ok_law (T : Tx K mg) : FnG P w K mg base CX0 9 T.a_law T.d_law ["script"] (spM (C0 K) m_law) := by
  refine fg_mk0 (N := N_law) (ps := ["script"]) (body := b_law) T.F_law sc_law (by decide) fun cdv A outer s H E gd hr => ?_
  exact (ss_cons
  (st_asg (eo_lst (ao_cons (eo_call (ok_row_plan T) gd (hr.mono (by decide)) rfl T.g_row_plan T.F_row_plan.kp (bi_row_plan T) passA (ab_cons (EO.b (eo_lst (ao_cons eo_int (ao_cons eo_int (ao_cons eo_int (ao_cons eo_int (ao_cons eo_int ao_nil))))))) (ab_cons (EO.b eo_int) ab_nil))) (ao_cons (eo_call (ok_left_in_row T) gd (hr.mono (by decide)) rfl T.g_left_in_row T.F_left_in_row.kp (bi_left_in_row T) passA (ab_cons (EO.b (eo_lst (ao_cons eo_int (ao_cons eo_int (ao_cons eo_int (ao_cons eo_int ao_nil)))))) (ab_cons (EO.b eo_int) ab_nil))) (ao_cons (eo_call (ok_class_sums T) gd (hr.mono (by decide)) rfl T.g_class_sums T.F_class_sums.kp (bi_class_sums T) passA (ab_cons (EO.b (eo_lst (ao_cons eo_int (ao_cons eo_int (ao_cons eo_int (ao_cons eo_int (ao_cons eo_int (ao_cons eo_int ao_nil)))))))) (ab_cons (EO.b eo_int) ab_nil))) ao_nil)))) (tg_sh (pg_name (i := 1) sc_law.nd rfl (by first | exact Or.inl rfl | exact Or.inr rfl))))
  (ss_cons
  (st_asg (eo_add rfl (eb_v 1 (pv 1)) (EO.b (eo_sh (eo_lst (ao_cons (eo_call (ok_can_turn_row T) gd (hr.mono (by decide)) rfl T.g_can_turn_row T.F_can_turn_row.kp (bi_can_turn_row T) passA (ab_cons (EO.b (eo_lst (ao_cons eo_int (ao_cons eo_int (ao_cons eo_int (ao_cons eo_int ao_nil)))))) (ab_cons (EO.b eo_int) ab_nil))) (ao_cons (eo_call (ok_row_plan T) gd (hr.mono (by decide)) rfl T.g_row_plan T.F_row_plan.kp (bi_row_plan T) passA (ab_cons (EO.b (eo_lst (ao_cons eo_int ao_nil))) (ab_cons (EO.b eo_int) ab_nil))) (ao_cons (eo_call (ok_row_plan T) gd (hr.mono (by decide)) rfl T.g_row_plan T.F_row_plan.kp (bi_row_plan T) passA (ab_cons (EO.b (eo_lst (ao_cons eo_int ao_nil))) (ab_cons (EO.b eo_int) ab_nil))) (ao_cons (eo_call (ok_class_sums T) gd (hr.mono (by decide)) rfl T.g_class_sums T.F_class_sums.kp (bi_class_sums T) passA (ab_cons (EO.b (eo_lst (ao_cons eo_int (ao_cons eo_int (ao_cons eo_int ao_nil))))) (ab_cons (EO.b eo_int) ab_nil))) ao_nil)))))))) (tg_sh (pg_name (i := 1) sc_law.nd rfl (by first | exact Or.inl rfl | exact Or.inr rfl))))
  (ss_cons
  (st_if (EW.et (ew_or (EC.et (ec_neR rfl (u65 hr) (EB.r (eb_v 1 (pv 1))) (er_lst (ar_cons (er_lst (ar_cons (EB.r (EO.b eo_int)) (ar_cons (EB.r (EO.b eo_int)) ar_nil))) (ar_cons (er_lst (ar_cons (EB.r (EO.b eo_int)) (ar_cons (EB.r (EO.b eo_int)) (ar_cons (EB.r (EO.b eo_int)) (ar_cons (EB.r (EO.b eo_int)) ar_nil))))) (ar_cons (er_lst (ar_cons (EB.r (EO.b eo_int)) (ar_cons (EB.r (EO.b eo_int)) (ar_cons (EB.r (EO.b eo_int)) ar_nil)))) (ar_cons (EB.r (EO.b eo_bl)) (ar_cons (er_lst ar_nil) (ar_cons (er_lst (ar_cons (EB.r (EO.b eo_int)) ar_nil)) (ar_cons (er_lst (ar_cons (EB.r (EO.b eo_int)) ar_nil)) ar_nil)))))))))) (ew_or1 (EC.et (ec_neR rfl (u65 hr) (EB.r (EO.b (eo_call (ok_row_plan T) gd (hr.mono (by decide)) rfl T.g_row_plan T.F_row_plan.kp (bi_row_plan T) passA (ab_cons (EO.b (eo_mul rfl (EO.b (eo_lst (ao_cons eo_int (ao_cons eo_int ao_nil)))) (EO.b eo_int))) (ab_cons (EO.b eo_int) ab_nil))))) (EB.r (EO.b (eo_listR3 rfl rfl T.z_list rfl T.z_range (EO.b eo_int) (EO.b eo_int) (EO.b eo_int))))))))) (ss_one (st_ret (EO.mov eo_bl))) ss_nil)
  (ss_cons
  (st_for PassesOwn.never rfl (it_rng1 rfl T.z_range (ab_cons (EO.b eo_int) ab_nil)) (tg_sh (pg_name (i := 2) sc_law.nd rfl (by first | exact Or.inl rfl | exact Or.inr rfl))) (ss_gen (i := 3) (eo_call (ok_x_law_generator T) gd (hr.mono (by decide)) rfl T.g_x_law_generator T.F_x_law_generator.kp (bi_x_law_generator T) passA (ab_cons (eb_v 0 (pv 0)) (ab_cons (eb_v 2 (pv 2)) ab_nil))) (fun te pe => ps_set (i := 3) sc_law.nd rfl (by first | exact Or.inl rfl | exact Or.inr rfl) pe) (ss_one (st_if (EW.et (ew_or (et_not (et_val (EO.b (eo_call (ok_x_law_right T) gd (hr.mono (by decide)) rfl T.g_x_law_right T.F_x_law_right.kp (bi_x_law_right T) passA (ab_cons (eb_v 3 (pv 3)) ab_nil))))) (ew_or (et_not (et_val (EO.b (eo_call (ok_x_law_right T) gd (hr.mono (by decide)) rfl T.g_x_law_right T.F_x_law_right.kp (bi_x_law_right T) passA (ab_cons (eb_v 3 (pv 3)) ab_nil))))) (ew_or (et_not (et_val (EO.b (eo_call (ok_x_law_right T) gd (hr.mono (by decide)) rfl T.g_x_law_right T.F_x_law_right.kp (bi_x_law_right T) passA (ab_cons (eb_v 3 (pv 3)) ab_nil))))) (ew_or1 (et_not (et_val (EO.b (eo_call (ok_x_law_counts_right T) gd (hr.mono (by decide)) rfl T.g_x_law_counts_right T.F_x_law_counts_right.kp (bi_x_law_counts_right T) passA (ab_cons (eb_v 3 (pv 3)) ab_nil)))))))))) (ss_one (st_ret (EO.mov eo_bl))) ss_nil))))
  (ss_one (st_ret (EO.mov (eo_and (EO.b (EC.eo (ec_eqR rfl (u65 hr) (EB.r (EO.b (eo_call (ok_row_plan T) gd (hr.mono (by decide)) rfl T.g_row_plan T.F_row_plan.kp (bi_row_plan T) passA (ab_cons (EO.b (eo_lst (ao_cons eo_int (ao_cons eo_int (ao_cons eo_int (ao_cons eo_int ao_nil)))))) (ab_cons (EO.b eo_int) ab_nil))))) (er_lst (ar_cons (EB.r (EO.b eo_int)) ar_nil))))) (eo_one (EC.eo (ec_is (EO.b (eo_call (ok_row_plan T) gd (hr.mono (by decide)) rfl T.g_row_plan T.F_row_plan.kp (bi_row_plan T) passA (ab_cons (EO.b (eo_lst (ao_cons eo_int (ao_cons eo_int (ao_cons eo_int (ao_cons eo_int ao_nil)))))) (ab_cons (EO.b eo_int) ab_nil)))) (EO.b eo_non))))))))))))
end
theorem all_mk {l : PySem.W.OpenLaw} {w : World} {K : PySem.W.Frag} {h : Heap} {mg : Str → Option Value} {fa : Addr} (X : K.In h) (G : h.Ns mainGlobals mg) (hfa : mg "law" = some (.ref fa))
    {f_is_whole f_is_count f_is_face f_are_coins f_check_coins f_check_coins_many f_turned_in f_swept f_row_plan f_left_in_row f_class_sums f_can_turn_row f_x_law_cell f_x_law_hash f_x_law_random f_x_law_generator f_x_law_coins f_x_law_turned f_x_law_behind f_x_law_plans f_x_law_right f_x_law_counts_right f_law : Addr} {od_is_whole an_is_whole od_is_count an_is_count od_is_face an_is_face od_are_coins an_are_coins od_check_coins an_check_coins od_check_coins_many an_check_coins_many od_turned_in an_turned_in od_swept an_swept od_row_plan an_row_plan od_left_in_row an_left_in_row od_class_sums an_class_sums od_can_turn_row an_can_turn_row od_x_law_cell an_x_law_cell od_x_law_hash an_x_law_hash od_x_law_random an_x_law_random od_x_law_generator an_x_law_generator od_x_law_coins an_x_law_coins od_x_law_turned an_x_law_turned od_x_law_behind an_x_law_behind od_x_law_plans an_x_law_plans od_x_law_right an_x_law_right od_x_law_counts_right an_x_law_counts_right od_law an_law : Option Addr} {sl_is_whole sl_is_count sl_is_face sl_are_coins sl_check_coins sl_check_coins_many sl_turned_in sl_swept sl_row_plan sl_left_in_row sl_class_sums sl_can_turn_row sl_x_law_cell sl_x_law_hash sl_x_law_random sl_x_law_generator sl_x_law_coins sl_x_law_turned sl_x_law_behind sl_x_law_plans sl_x_law_right sl_x_law_counts_right sl_law : Array (Option Value)} {oc_is_whole kv_is_whole dc_is_whole pm_is_whole cd_is_whole ct_is_whole oc_is_count kv_is_count dc_is_count pm_is_count cd_is_count ct_is_count oc_is_face kv_is_face dc_is_face pm_is_face cd_is_face ct_is_face oc_are_coins kv_are_coins dc_are_coins pm_are_coins cd_are_coins ct_are_coins oc_check_coins kv_check_coins dc_check_coins pm_check_coins cd_check_coins ct_check_coins oc_check_coins_many kv_check_coins_many dc_check_coins_many pm_check_coins_many cd_check_coins_many ct_check_coins_many oc_turned_in kv_turned_in dc_turned_in pm_turned_in cd_turned_in ct_turned_in oc_swept kv_swept dc_swept pm_swept cd_swept ct_swept oc_row_plan kv_row_plan dc_row_plan pm_row_plan cd_row_plan ct_row_plan oc_left_in_row kv_left_in_row dc_left_in_row pm_left_in_row cd_left_in_row ct_left_in_row oc_class_sums kv_class_sums dc_class_sums pm_class_sums cd_class_sums ct_class_sums oc_can_turn_row kv_can_turn_row dc_can_turn_row pm_can_turn_row cd_can_turn_row ct_can_turn_row oc_x_law_cell kv_x_law_cell dc_x_law_cell pm_x_law_cell cd_x_law_cell ct_x_law_cell oc_x_law_hash kv_x_law_hash dc_x_law_hash pm_x_law_hash cd_x_law_hash ct_x_law_hash oc_x_law_random kv_x_law_random dc_x_law_random pm_x_law_random cd_x_law_random ct_x_law_random oc_x_law_generator kv_x_law_generator dc_x_law_generator pm_x_law_generator cd_x_law_generator ct_x_law_generator oc_x_law_coins kv_x_law_coins dc_x_law_coins pm_x_law_coins cd_x_law_coins ct_x_law_coins oc_x_law_turned kv_x_law_turned dc_x_law_turned pm_x_law_turned cd_x_law_turned ct_x_law_turned oc_x_law_behind kv_x_law_behind dc_x_law_behind pm_x_law_behind cd_x_law_behind ct_x_law_behind oc_x_law_plans kv_x_law_plans dc_x_law_plans pm_x_law_plans cd_x_law_plans ct_x_law_plans oc_x_law_right kv_x_law_right dc_x_law_right pm_x_law_right cd_x_law_right ct_x_law_right oc_x_law_counts_right kv_x_law_counts_right dc_x_law_counts_right pm_x_law_counts_right cd_x_law_counts_right ct_x_law_counts_right oc_law kv_law dc_law pm_law cd_law ct_law : Value}
    (a_is_whole : PySem.W.nsIn K mainGlobals "is_whole" = some (some (.ref f_is_whole))) (l_is_whole : K.lookup f_is_whole = some ⟨oc_is_whole, od_is_whole, .func (PySem.W.fnOf "is_whole" "is_whole" (defArgs s_is_whole) (defBody s_is_whole) (defScope s_is_whole) .none kv_is_whole dc_is_whole pm_is_whole an_is_whole cd_is_whole ct_is_whole), sl_is_whole⟩) (c_is_whole : PySem.W.codeIn K cd_is_whole "is_whole" = true) (k_is_whole : PySem.W.keepIn K (.ref f_is_whole) = true)
    (a_is_count : PySem.W.nsIn K mainGlobals "is_count" = some (some (.ref f_is_count))) (l_is_count : K.lookup f_is_count = some ⟨oc_is_count, od_is_count, .func (PySem.W.fnOf "is_count" "is_count" (defArgs s_is_count) (defBody s_is_count) (defScope s_is_count) .none kv_is_count dc_is_count pm_is_count an_is_count cd_is_count ct_is_count), sl_is_count⟩) (c_is_count : PySem.W.codeIn K cd_is_count "is_count" = true) (k_is_count : PySem.W.keepIn K (.ref f_is_count) = true)
    (a_is_face : PySem.W.nsIn K mainGlobals "is_face" = some (some (.ref f_is_face))) (l_is_face : K.lookup f_is_face = some ⟨oc_is_face, od_is_face, .func (PySem.W.fnOf "is_face" "is_face" (defArgs s_is_face) (defBody s_is_face) (defScope s_is_face) .none kv_is_face dc_is_face pm_is_face an_is_face cd_is_face ct_is_face), sl_is_face⟩) (c_is_face : PySem.W.codeIn K cd_is_face "is_face" = true) (k_is_face : PySem.W.keepIn K (.ref f_is_face) = true)
    (a_are_coins : PySem.W.nsIn K mainGlobals "are_coins" = some (some (.ref f_are_coins))) (l_are_coins : K.lookup f_are_coins = some ⟨oc_are_coins, od_are_coins, .func (PySem.W.fnOf "are_coins" "are_coins" (defArgs s_are_coins) (defBody s_are_coins) (defScope s_are_coins) .none kv_are_coins dc_are_coins pm_are_coins an_are_coins cd_are_coins ct_are_coins), sl_are_coins⟩) (c_are_coins : PySem.W.codeIn K cd_are_coins "are_coins" = true) (k_are_coins : PySem.W.keepIn K (.ref f_are_coins) = true)
    (a_check_coins : PySem.W.nsIn K mainGlobals "check_coins" = some (some (.ref f_check_coins))) (l_check_coins : K.lookup f_check_coins = some ⟨oc_check_coins, od_check_coins, .func (PySem.W.fnOf "check_coins" "check_coins" (defArgs s_check_coins) (defBody s_check_coins) (defScope s_check_coins) .none kv_check_coins dc_check_coins pm_check_coins an_check_coins cd_check_coins ct_check_coins), sl_check_coins⟩) (c_check_coins : PySem.W.codeIn K cd_check_coins "check_coins" = true) (k_check_coins : PySem.W.keepIn K (.ref f_check_coins) = true)
    (a_check_coins_many : PySem.W.nsIn K mainGlobals "check_coins_many" = some (some (.ref f_check_coins_many))) (l_check_coins_many : K.lookup f_check_coins_many = some ⟨oc_check_coins_many, od_check_coins_many, .func (PySem.W.fnOf "check_coins_many" "check_coins_many" (defArgs s_check_coins_many) (defBody s_check_coins_many) (defScope s_check_coins_many) .none kv_check_coins_many dc_check_coins_many pm_check_coins_many an_check_coins_many cd_check_coins_many ct_check_coins_many), sl_check_coins_many⟩) (c_check_coins_many : PySem.W.codeIn K cd_check_coins_many "check_coins_many" = true) (k_check_coins_many : PySem.W.keepIn K (.ref f_check_coins_many) = true)
    (a_turned_in : PySem.W.nsIn K mainGlobals "turned_in" = some (some (.ref f_turned_in))) (l_turned_in : K.lookup f_turned_in = some ⟨oc_turned_in, od_turned_in, .func (PySem.W.fnOf "turned_in" "turned_in" (defArgs s_turned_in) (defBody s_turned_in) (defScope s_turned_in) .none kv_turned_in dc_turned_in pm_turned_in an_turned_in cd_turned_in ct_turned_in), sl_turned_in⟩) (c_turned_in : PySem.W.codeIn K cd_turned_in "turned_in" = true) (k_turned_in : PySem.W.keepIn K (.ref f_turned_in) = true)
    (a_swept : PySem.W.nsIn K mainGlobals "swept" = some (some (.ref f_swept))) (l_swept : K.lookup f_swept = some ⟨oc_swept, od_swept, .func (PySem.W.fnOf "swept" "swept" (defArgs s_swept) (defBody s_swept) (defScope s_swept) .none kv_swept dc_swept pm_swept an_swept cd_swept ct_swept), sl_swept⟩) (c_swept : PySem.W.codeIn K cd_swept "swept" = true) (k_swept : PySem.W.keepIn K (.ref f_swept) = true)
    (a_row_plan : PySem.W.nsIn K mainGlobals "row_plan" = some (some (.ref f_row_plan))) (l_row_plan : K.lookup f_row_plan = some ⟨oc_row_plan, od_row_plan, .func (PySem.W.fnOf "row_plan" "row_plan" (defArgs s_row_plan) (defBody s_row_plan) (defScope s_row_plan) .none kv_row_plan dc_row_plan pm_row_plan an_row_plan cd_row_plan ct_row_plan), sl_row_plan⟩) (c_row_plan : PySem.W.codeIn K cd_row_plan "row_plan" = true) (k_row_plan : PySem.W.keepIn K (.ref f_row_plan) = true)
    (a_left_in_row : PySem.W.nsIn K mainGlobals "left_in_row" = some (some (.ref f_left_in_row))) (l_left_in_row : K.lookup f_left_in_row = some ⟨oc_left_in_row, od_left_in_row, .func (PySem.W.fnOf "left_in_row" "left_in_row" (defArgs s_left_in_row) (defBody s_left_in_row) (defScope s_left_in_row) .none kv_left_in_row dc_left_in_row pm_left_in_row an_left_in_row cd_left_in_row ct_left_in_row), sl_left_in_row⟩) (c_left_in_row : PySem.W.codeIn K cd_left_in_row "left_in_row" = true) (k_left_in_row : PySem.W.keepIn K (.ref f_left_in_row) = true)
    (a_class_sums : PySem.W.nsIn K mainGlobals "class_sums" = some (some (.ref f_class_sums))) (l_class_sums : K.lookup f_class_sums = some ⟨oc_class_sums, od_class_sums, .func (PySem.W.fnOf "class_sums" "class_sums" (defArgs s_class_sums) (defBody s_class_sums) (defScope s_class_sums) .none kv_class_sums dc_class_sums pm_class_sums an_class_sums cd_class_sums ct_class_sums), sl_class_sums⟩) (c_class_sums : PySem.W.codeIn K cd_class_sums "class_sums" = true) (k_class_sums : PySem.W.keepIn K (.ref f_class_sums) = true)
    (a_can_turn_row : PySem.W.nsIn K mainGlobals "can_turn_row" = some (some (.ref f_can_turn_row))) (l_can_turn_row : K.lookup f_can_turn_row = some ⟨oc_can_turn_row, od_can_turn_row, .func (PySem.W.fnOf "can_turn_row" "can_turn_row" (defArgs s_can_turn_row) (defBody s_can_turn_row) (defScope s_can_turn_row) .none kv_can_turn_row dc_can_turn_row pm_can_turn_row an_can_turn_row cd_can_turn_row ct_can_turn_row), sl_can_turn_row⟩) (c_can_turn_row : PySem.W.codeIn K cd_can_turn_row "can_turn_row" = true) (k_can_turn_row : PySem.W.keepIn K (.ref f_can_turn_row) = true)
    (a_x_law_cell : PySem.W.nsIn K mainGlobals "_law_cell" = some (some (.ref f_x_law_cell))) (l_x_law_cell : K.lookup f_x_law_cell = some ⟨oc_x_law_cell, od_x_law_cell, .func (PySem.W.fnOf "_law_cell" "_law_cell" (defArgs s_x_law_cell) (defBody s_x_law_cell) (defScope s_x_law_cell) .none kv_x_law_cell dc_x_law_cell pm_x_law_cell an_x_law_cell cd_x_law_cell ct_x_law_cell), sl_x_law_cell⟩) (c_x_law_cell : PySem.W.codeIn K cd_x_law_cell "_law_cell" = true) (k_x_law_cell : PySem.W.keepIn K (.ref f_x_law_cell) = true)
    (a_x_law_hash : PySem.W.nsIn K mainGlobals "_law_hash" = some (some (.ref f_x_law_hash))) (l_x_law_hash : K.lookup f_x_law_hash = some ⟨oc_x_law_hash, od_x_law_hash, .func (PySem.W.fnOf "_law_hash" "_law_hash" (defArgs s_x_law_hash) (defBody s_x_law_hash) (defScope s_x_law_hash) .none kv_x_law_hash dc_x_law_hash pm_x_law_hash an_x_law_hash cd_x_law_hash ct_x_law_hash), sl_x_law_hash⟩) (c_x_law_hash : PySem.W.codeIn K cd_x_law_hash "_law_hash" = true) (k_x_law_hash : PySem.W.keepIn K (.ref f_x_law_hash) = true)
    (a_x_law_random : PySem.W.nsIn K mainGlobals "_law_random" = some (some (.ref f_x_law_random))) (l_x_law_random : K.lookup f_x_law_random = some ⟨oc_x_law_random, od_x_law_random, .func (PySem.W.fnOf "_law_random" "_law_random" (defArgs s_x_law_random) (defBody s_x_law_random) (defScope s_x_law_random) .none kv_x_law_random dc_x_law_random pm_x_law_random an_x_law_random cd_x_law_random ct_x_law_random), sl_x_law_random⟩) (c_x_law_random : PySem.W.codeIn K cd_x_law_random "_law_random" = true) (k_x_law_random : PySem.W.keepIn K (.ref f_x_law_random) = true)
    (a_x_law_generator : PySem.W.nsIn K mainGlobals "_law_generator" = some (some (.ref f_x_law_generator))) (l_x_law_generator : K.lookup f_x_law_generator = some ⟨oc_x_law_generator, od_x_law_generator, .func (PySem.W.fnOf "_law_generator" "_law_generator" (defArgs s_x_law_generator) (defBody s_x_law_generator) (defScope s_x_law_generator) .none kv_x_law_generator dc_x_law_generator pm_x_law_generator an_x_law_generator cd_x_law_generator ct_x_law_generator), sl_x_law_generator⟩) (c_x_law_generator : PySem.W.codeIn K cd_x_law_generator "_law_generator" = true) (k_x_law_generator : PySem.W.keepIn K (.ref f_x_law_generator) = true)
    (a_x_law_coins : PySem.W.nsIn K mainGlobals "_law_coins" = some (some (.ref f_x_law_coins))) (l_x_law_coins : K.lookup f_x_law_coins = some ⟨oc_x_law_coins, od_x_law_coins, .func (PySem.W.fnOf "_law_coins" "_law_coins" (defArgs s_x_law_coins) (defBody s_x_law_coins) (defScope s_x_law_coins) .none kv_x_law_coins dc_x_law_coins pm_x_law_coins an_x_law_coins cd_x_law_coins ct_x_law_coins), sl_x_law_coins⟩) (c_x_law_coins : PySem.W.codeIn K cd_x_law_coins "_law_coins" = true) (k_x_law_coins : PySem.W.keepIn K (.ref f_x_law_coins) = true)
    (a_x_law_turned : PySem.W.nsIn K mainGlobals "_law_turned" = some (some (.ref f_x_law_turned))) (l_x_law_turned : K.lookup f_x_law_turned = some ⟨oc_x_law_turned, od_x_law_turned, .func (PySem.W.fnOf "_law_turned" "_law_turned" (defArgs s_x_law_turned) (defBody s_x_law_turned) (defScope s_x_law_turned) .none kv_x_law_turned dc_x_law_turned pm_x_law_turned an_x_law_turned cd_x_law_turned ct_x_law_turned), sl_x_law_turned⟩) (c_x_law_turned : PySem.W.codeIn K cd_x_law_turned "_law_turned" = true) (k_x_law_turned : PySem.W.keepIn K (.ref f_x_law_turned) = true)
    (a_x_law_behind : PySem.W.nsIn K mainGlobals "_law_behind" = some (some (.ref f_x_law_behind))) (l_x_law_behind : K.lookup f_x_law_behind = some ⟨oc_x_law_behind, od_x_law_behind, .func (PySem.W.fnOf "_law_behind" "_law_behind" (defArgs s_x_law_behind) (defBody s_x_law_behind) (defScope s_x_law_behind) .none kv_x_law_behind dc_x_law_behind pm_x_law_behind an_x_law_behind cd_x_law_behind ct_x_law_behind), sl_x_law_behind⟩) (c_x_law_behind : PySem.W.codeIn K cd_x_law_behind "_law_behind" = true) (k_x_law_behind : PySem.W.keepIn K (.ref f_x_law_behind) = true)
    (a_x_law_plans : PySem.W.nsIn K mainGlobals "_law_plans" = some (some (.ref f_x_law_plans))) (l_x_law_plans : K.lookup f_x_law_plans = some ⟨oc_x_law_plans, od_x_law_plans, .func (PySem.W.fnOf "_law_plans" "_law_plans" (defArgs s_x_law_plans) (defBody s_x_law_plans) (defScope s_x_law_plans) .none kv_x_law_plans dc_x_law_plans pm_x_law_plans an_x_law_plans cd_x_law_plans ct_x_law_plans), sl_x_law_plans⟩) (c_x_law_plans : PySem.W.codeIn K cd_x_law_plans "_law_plans" = true) (k_x_law_plans : PySem.W.keepIn K (.ref f_x_law_plans) = true)
    (a_x_law_right : PySem.W.nsIn K mainGlobals "_law_right" = some (some (.ref f_x_law_right))) (l_x_law_right : K.lookup f_x_law_right = some ⟨oc_x_law_right, od_x_law_right, .func (PySem.W.fnOf "_law_right" "_law_right" (defArgs s_x_law_right) (defBody s_x_law_right) (defScope s_x_law_right) .none kv_x_law_right dc_x_law_right pm_x_law_right an_x_law_right cd_x_law_right ct_x_law_right), sl_x_law_right⟩) (c_x_law_right : PySem.W.codeIn K cd_x_law_right "_law_right" = true) (k_x_law_right : PySem.W.keepIn K (.ref f_x_law_right) = true)
    (a_x_law_counts_right : PySem.W.nsIn K mainGlobals "_law_counts_right" = some (some (.ref f_x_law_counts_right))) (l_x_law_counts_right : K.lookup f_x_law_counts_right = some ⟨oc_x_law_counts_right, od_x_law_counts_right, .func (PySem.W.fnOf "_law_counts_right" "_law_counts_right" (defArgs s_x_law_counts_right) (defBody s_x_law_counts_right) (defScope s_x_law_counts_right) .none kv_x_law_counts_right dc_x_law_counts_right pm_x_law_counts_right an_x_law_counts_right cd_x_law_counts_right ct_x_law_counts_right), sl_x_law_counts_right⟩) (c_x_law_counts_right : PySem.W.codeIn K cd_x_law_counts_right "_law_counts_right" = true) (k_x_law_counts_right : PySem.W.keepIn K (.ref f_x_law_counts_right) = true)
    (a_law : PySem.W.nsIn K mainGlobals "law" = some (some (.ref f_law))) (l_law : K.lookup f_law = some ⟨oc_law, od_law, .func (PySem.W.fnOf "law" "law" (defArgs s_law) (defBody s_law) (defScope s_law) .none kv_law dc_law pm_law an_law cd_law ct_law), sl_law⟩) (c_law : PySem.W.codeIn K cd_law "law" = true) (k_law : PySem.W.keepIn K (.ref f_law) = true)
    (z_all : PySem.W.nsIn K mainGlobals "all" = some none)
    (z_bool : PySem.W.nsIn K mainGlobals "bool" = some none)
    (z_enumerate : PySem.W.nsIn K mainGlobals "enumerate" = some none)
    (z_int : PySem.W.nsIn K mainGlobals "int" = some none)
    (z_isinstance : PySem.W.nsIn K mainGlobals "isinstance" = some none)
    (z_len : PySem.W.nsIn K mainGlobals "len" = some none)
    (z_list : PySem.W.nsIn K mainGlobals "list" = some none)
    (z_max : PySem.W.nsIn K mainGlobals "max" = some none)
    (z_range : PySem.W.nsIn K mainGlobals "range" = some none)
    (z_repr : PySem.W.nsIn K mainGlobals "repr" = some none)
    (z_set : PySem.W.nsIn K mainGlobals "set" = some none)
    (z_sum : PySem.W.nsIn K mainGlobals "sum" = some none)
    : ∃ fd : FuncData, (∀ (s : Shared) (v : Value), BindsTo s fd ⟨[v], []⟩ [("script", v)]) ∧ ∀ base : Heap, K.In base → base.Ns mainGlobals mg → FnG l.prog w K mg base CX0 9 fa fd ["script"] (spM (C0 K) m_law) := by
  have e := hfa.symm.trans (PySem.W.mg_of X G a_law)
  cases e
  exact ⟨_, fun s v => .of_eq rfl, fun base _ _ => ok_law (T := ⟨f_is_whole, _, fun_mk l_is_whole c_is_whole k_is_whole, PySem.W.mg_of X G a_is_whole, f_is_count, _, fun_mk l_is_count c_is_count k_is_count, PySem.W.mg_of X G a_is_count, f_is_face, _, fun_mk l_is_face c_is_face k_is_face, PySem.W.mg_of X G a_is_face, f_are_coins, _, fun_mk l_are_coins c_are_coins k_are_coins, PySem.W.mg_of X G a_are_coins, f_check_coins, _, fun_mk l_check_coins c_check_coins k_check_coins, PySem.W.mg_of X G a_check_coins, f_check_coins_many, _, fun_mk l_check_coins_many c_check_coins_many k_check_coins_many, PySem.W.mg_of X G a_check_coins_many, f_turned_in, _, fun_mk l_turned_in c_turned_in k_turned_in, PySem.W.mg_of X G a_turned_in, f_swept, _, fun_mk l_swept c_swept k_swept, PySem.W.mg_of X G a_swept, f_row_plan, _, fun_mk l_row_plan c_row_plan k_row_plan, PySem.W.mg_of X G a_row_plan, f_left_in_row, _, fun_mk l_left_in_row c_left_in_row k_left_in_row, PySem.W.mg_of X G a_left_in_row, f_class_sums, _, fun_mk l_class_sums c_class_sums k_class_sums, PySem.W.mg_of X G a_class_sums, f_can_turn_row, _, fun_mk l_can_turn_row c_can_turn_row k_can_turn_row, PySem.W.mg_of X G a_can_turn_row, f_x_law_cell, _, fun_mk l_x_law_cell c_x_law_cell k_x_law_cell, PySem.W.mg_of X G a_x_law_cell, f_x_law_hash, _, fun_mk l_x_law_hash c_x_law_hash k_x_law_hash, PySem.W.mg_of X G a_x_law_hash, f_x_law_random, _, fun_mk l_x_law_random c_x_law_random k_x_law_random, PySem.W.mg_of X G a_x_law_random, f_x_law_generator, _, fun_mk l_x_law_generator c_x_law_generator k_x_law_generator, PySem.W.mg_of X G a_x_law_generator, f_x_law_coins, _, fun_mk l_x_law_coins c_x_law_coins k_x_law_coins, PySem.W.mg_of X G a_x_law_coins, f_x_law_turned, _, fun_mk l_x_law_turned c_x_law_turned k_x_law_turned, PySem.W.mg_of X G a_x_law_turned, f_x_law_behind, _, fun_mk l_x_law_behind c_x_law_behind k_x_law_behind, PySem.W.mg_of X G a_x_law_behind, f_x_law_plans, _, fun_mk l_x_law_plans c_x_law_plans k_x_law_plans, PySem.W.mg_of X G a_x_law_plans, f_x_law_right, _, fun_mk l_x_law_right c_x_law_right k_x_law_right, PySem.W.mg_of X G a_x_law_right, f_x_law_counts_right, _, fun_mk l_x_law_counts_right c_x_law_counts_right k_x_law_counts_right, PySem.W.mg_of X G a_x_law_counts_right, fa, _, fun_mk l_law c_law k_law, PySem.W.mg_of X G a_law, PySem.W.mg_none_of X G z_all, PySem.W.mg_none_of X G z_bool, PySem.W.mg_none_of X G z_enumerate, PySem.W.mg_none_of X G z_int, PySem.W.mg_none_of X G z_isinstance, PySem.W.mg_none_of X G z_len, PySem.W.mg_none_of X G z_list, PySem.W.mg_none_of X G z_max, PySem.W.mg_none_of X G z_range, PySem.W.mg_none_of X G z_repr, PySem.W.mg_none_of X G z_set, PySem.W.mg_none_of X G z_sum⟩)⟩
end K64
namespace K64
open PySem PySem.Spec PyProof.Rows L2 Lone
theorem is_whole_int (x : Int) (s : G3) : m_is_whole [.int x] s = .ok (bO true) s := by
  simp [m_is_whole, b_is_whole, -List.map_map, mFun, startE, mSeq, mIfS, mRet, mBind, mPar, Lone.bindB, Lone.bindBs, mExpr, mFor, mIr1, mIr2, mOp, mV, mS, mC, mCons, mNil, mCB, mBl, mNotT, mOrT, mAndT, mAnd, mOr, mNot, mIf, mIx, mIxS, mEqR, mRd, mLst, mTup, mCall, mCallK, permL, callO, mLc, noX, mIsi, bnd, Lone.ret, O.allSh, O.scal, O.scals, O.ds, O.d, O.int?, O.bl?, O.items, bO, iO, oAdd, oSub_app, oMul, oMod_app, oDiv_app, oPow_app, cmpI_app, mYes, fI, alt, oIn, fInL, oInt, oLen, oList, oOfInts, oOfBls, oII, mIl, mIe, mSetIx, setIx, mBits, mSl, mNoP, mSoP, oSl, mNil', mChain, mApp, mTupV, mLr1, mLr2, wipeE, D.ty, Ty.is, oIs, fIsN, D.isNon, mShare, mReprR, mLstR, mTupR, mConsR, mNilR]
theorem is_count_int (x : Int) (s : G3) : m_is_count [.int x] s = .ok (bO (decide (0 ≤ x))) s := by
  simp [m_is_count, b_is_count, is_whole_int, -List.map_map, mFun, startE, mSeq, mIfS, mRet, mBind, mPar, Lone.bindB, Lone.bindBs, mExpr, mFor, mIr1, mIr2, mOp, mV, mS, mC, mCons, mNil, mCB, mBl, mNotT, mOrT, mAndT, mAnd, mOr, mNot, mIf, mIx, mIxS, mEqR, mRd, mLst, mTup, mCall, mCallK, permL, callO, mLc, noX, mIsi, bnd, Lone.ret, O.allSh, O.scal, O.scals, O.ds, O.d, O.int?, O.bl?, O.items, bO, iO, oAdd, oSub_app, oMul, oMod_app, oDiv_app, oPow_app, cmpI_app, mYes, fI, alt, oIn, fInL, oInt, oLen, oList, oOfInts, oOfBls, oII, mIl, mIe, mSetIx, setIx, mBits, mSl, mNoP, mSoP, oSl, mNil', mChain, mApp, mTupV, mLr1, mLr2, wipeE, D.ty, Ty.is, oIs, fIsN, D.isNon, mShare, mReprR, mLstR, mTupR, mConsR, mNilR]
theorem is_face_int (x : Int) (s : G3) : m_is_face [.int x] s = .ok (bO (decide (0 ≤ x) && decide (x ≤ 1))) s := by
  by_cases h : 0 ≤ x <;> simp [m_is_face, b_is_face, is_count_int, -List.map_map, mFun, startE, mSeq, mIfS, mRet, mBind, mPar, Lone.bindB, Lone.bindBs, mExpr, mFor, mIr1, mIr2, mOp, mV, mS, mC, mCons, mNil, mCB, mBl, mNotT, mOrT, mAndT, mAnd, mOr, mNot, mIf, mIx, mIxS, mEqR, mRd, mLst, mTup, mCall, mCallK, permL, callO, mLc, noX, mIsi, bnd, Lone.ret, O.allSh, O.scal, O.scals, O.ds, O.d, O.int?, O.bl?, O.items, bO, iO, oAdd, oSub_app, oMul, oMod_app, oDiv_app, oPow_app, cmpI_app, mYes, fI, alt, oIn, fInL, oInt, oLen, oList, oOfInts, oOfBls, oII, mIl, mIe, mSetIx, setIx, mBits, mSl, mNoP, mSoP, oSl, mNil', mChain, mApp, mTupV, mLr1, mLr2, wipeE, D.ty, Ty.is, oIs, fIsN, D.isNon, mShare, mReprR, mLstR, mTupR, mConsR, mNilR, h]
theorem hash_int (x y : Int) (s : G3) (h0 : 0 ≤ y) (h1 : y < 18446744073709551616) : ∃ d, m_x_law_hash [.int x, .int y] s = .ok (iO d) s := by
  have e1 : ∀ z : Int, z % 2147483629 < 18446744073709551616 := fun z => by omega
  have e2 : ∀ z : Int, -18446744073709551616 < z % 2147483629 := fun z => by omega
  have e3 : -18446744073709551616 < y := by omega
  simp [m_x_law_hash, b_x_law_hash, -List.map_map, mFun, startE, mSeq, mIfS, mRet, mBind, mPar, Lone.bindB, Lone.bindBs, mExpr, mFor, mIr1, mIr2, mOp, mV, mS, mC, mCons, mNil, mCB, mBl, mNotT, mOrT, mAndT, mAnd, mOr, mNot, mIf, mIx, mIxS, mEqR, mRd, mLst, mTup, mCall, mCallK, permL, callO, mLc, noX, mIsi, bnd, Lone.ret, O.allSh, O.scal, O.scals, O.ds, O.d, O.int?, O.bl?, O.items, bO, iO, oAdd, oSub_app, oMul, oMod_app, oDiv_app, oPow_app, cmpI_app, mYes, fI, alt, oIn, fInL, oInt, oLen, oList, oOfInts, oOfBls, oII, mIl, mIe, mSetIx, setIx, mBits, mSl, mNoP, mSoP, oSl, mNil', mChain, mApp, mTupV, mLr1, mLr2, wipeE, D.ty, Ty.is, oIs, fIsN, D.isNon, mShare, mReprR, mLstR, mTupR, mConsR, mNilR, cMul, e1, e2, e3, h1]
theorem random_small (b n : Int) (s : G3) (h : 1 ≤ b) (h' : b < 536870912) (hn : n < 1000000) (hs : St n s) : ∃ d s', m_x_law_random [.gen, .int b] s = .ok (iO d) s' ∧ (0 ≤ d ∧ d < b) ∧ St (n + 1) s' := by
  obtain ⟨hs1, hs2⟩ := hs
  have m1 : ∀ z : Int, 0 ≤ z % b := fun z => Int.emod_nonneg z (by omega)
  have m2 : ∀ z : Int, z % b < b := fun z => Int.emod_lt_of_pos z (by omega)
  by_cases h0 : 0 < s.a
  · refine ⟨s.a % b, ⟨s.a / b, s.b, s.c⟩, ?_, ⟨m1 _, m2 _⟩, hs1, by show s.c ≤ n + 1; omega⟩
    have hb : 0 < b := by omega
    have hb2 : b < 18446744073709551616 := by omega
    simp [m_x_law_random, b_x_law_random, -List.map_map, mFun, startE, mSeq, mIfS, mRet, mBind, mPar, Lone.bindB, Lone.bindBs, mExpr, mFor, mIr1, mIr2, mOp, mV, mS, mC, mCons, mNil, mCB, mBl, mNotT, mOrT, mAndT, mAnd, mOr, mNot, mIf, mIx, mIxS, mEqR, mRd, mLst, mTup, mCall, mCallK, permL, callO, mLc, noX, mIsi, bnd, Lone.ret, O.allSh, O.scal, O.scals, O.ds, O.d, O.int?, O.bl?, O.items, bO, iO, oAdd, oSub_app, oMul, oMod_app, oDiv_app, oPow_app, cmpI_app, mYes, fI, alt, oIn, fInL, oInt, oLen, oList, oOfInts, oOfBls, oII, mIl, mIe, mSetIx, setIx, mBits, mSl, mNoP, mSoP, oSl, mNil', mChain, mApp, mTupV, mLr1, mLr2, wipeE, D.ty, Ty.is, oIs, fIsN, D.isNon, mShare, mReprR, mLstR, mTupR, mConsR, mNilR, oIx, at3_0, h0, hb, hb2, cDiv]
  · have e : inR (1 + bitsOf b / 30) = true := by rw [bits_small b h h']; rfl
    have hb : 0 < b := by omega
    obtain ⟨d, hd⟩ := hash_int s.b (s.c + 1) ⟨s.a, s.b, s.c + 1⟩ (by omega) (by omega)
    refine ⟨d % b, ⟨s.a, s.b, s.c + 1⟩, ?_, ⟨m1 _, m2 _⟩, by show 0 ≤ s.c + 1; omega, by show s.c + 1 ≤ n + 1; omega⟩
    simp [m_x_law_random, b_x_law_random, -List.map_map, mFun, startE, mSeq, mIfS, mRet, mBind, mPar, Lone.bindB, Lone.bindBs, mExpr, mFor, mIr1, mIr2, mOp, mV, mS, mC, mCons, mNil, mCB, mBl, mNotT, mOrT, mAndT, mAnd, mOr, mNot, mIf, mIx, mIxS, mEqR, mRd, mLst, mTup, mCall, mCallK, permL, callO, mLc, noX, mIsi, bnd, Lone.ret, O.allSh, O.scal, O.scals, O.ds, O.d, O.int?, O.bl?, O.items, bO, iO, oAdd, oSub_app, oMul, oMod_app, oDiv_app, oPow_app, cmpI_app, mYes, fI, alt, oIn, fInL, oInt, oLen, oList, oOfInts, oOfBls, oII, mIl, mIe, mSetIx, setIx, mBits, mSl, mNoP, mSoP, oSl, mNil', mChain, mApp, mTupV, mLr1, mLr2, wipeE, D.ty, Ty.is, oIs, fIsN, D.isNon, mShare, mReprR, mLstR, mTupR, mConsR, mNilR, oIx, at3_0, h0, hb, cDiv, bits_small b h h', rngF, Lone.inR, forL, cMul, at3_1, at3_2, hd]
/-! the functions -/
def Face (x : Int) : Prop := x = 0 ∨ x = 1
def Coins (c : List Int) : Prop := ∀ x ∈ c, Face x
theorem are_coins_ok (c : List Int) (hc : Coins c) (h0 : c ≠ []) (hl : c.length ≤ 1000) (s : G3) : m_are_coins [.lst (c.map .int)] s = .ok (bO true) s := by
  have h1 : ∀ r, lcL (.sh 1) mYes (mCall m_is_face (mCons (mV 1) mNil)) [r, .un] (c.map .int) s = .ok ((c.map fun _ => true).map .bl) s := fun r => by
    rw [lcL_all (fun _ => .bl true) (c.map .int) (fun d m => by
      obtain ⟨x, hx, rfl⟩ := List.mem_map.mp m
      refine ⟨_, bO true, rfl, ?_, rfl⟩
      rcases hc x hx with rfl | rfl <;> simp [-List.map_map, mFun, startE, mSeq, mIfS, mRet, mBind, mPar, Lone.bindB, Lone.bindBs, mExpr, mFor, mIr1, mIr2, mOp, mV, mS, mC, mCons, mNil, mCB, mBl, mNotT, mOrT, mAndT, mAnd, mOr, mNot, mIf, mIx, mIxS, mEqR, mRd, mLst, mTup, mCall, mCallK, permL, callO, mLc, noX, mIsi, bnd, Lone.ret, O.allSh, O.scal, O.scals, O.ds, O.d, O.int?, O.bl?, O.items, bO, iO, oAdd, oSub_app, oMul, oMod_app, oDiv_app, oPow_app, cmpI_app, mYes, fI, alt, oIn, fInL, oInt, oLen, oList, oOfInts, oOfBls, oII, mIl, mIe, mSetIx, setIx, mBits, mSl, mNoP, mSoP, oSl, mNil', mChain, mApp, mTupV, mLr1, mLr2, wipeE, D.ty, Ty.is, oIs, fIsN, D.isNon, mShare, mReprR, mLstR, mTupR, mConsR, mNilR, is_face_int])]
    rw [List.map_map, List.map_map]
    rfl
  have h2 : D.beq (.lst (c.map .int)) (.lst []) = false := by
    cases c with
    | nil => exact absurd rfl h0
    | cons x r => rfl
  have h3 : c.length ≤ lineN := by unfold lineN; omega
  have h4 : c.length ≤ 16777216 := by omega
  simp [m_are_coins, b_are_coins, -List.map_map, mFun, startE, mSeq, mIfS, mRet, mBind, mPar, Lone.bindB, Lone.bindBs, mExpr, mFor, mIr1, mIr2, mOp, mV, mS, mC, mCons, mNil, mCB, mBl, mNotT, mOrT, mAndT, mAnd, mOr, mNot, mIf, mIx, mIxS, mEqR, mRd, mLst, mTup, mCall, mCallK, permL, callO, mLc, noX, mIsi, bnd, Lone.ret, O.allSh, O.scal, O.scals, O.ds, O.d, O.int?, O.bl?, O.items, bO, iO, oAdd, oSub_app, oMul, oMod_app, oDiv_app, oPow_app, cmpI_app, mYes, fI, alt, oIn, fInL, oInt, oLen, oList, oOfInts, oOfBls, oII, mIl, mIe, mSetIx, setIx, mBits, mSl, mNoP, mSoP, oSl, mNil', mChain, mApp, mTupV, mLr1, mLr2, wipeE, D.ty, Ty.is, oIs, fIsN, D.isNon, mShare, mReprR, mLstR, mTupR, mConsR, mNilR, h1, h2, h3, fit_ints, fit_nil, oks_ints, O.ds_map, D.bls_map]
theorem check_coins_ok (c : List Int) (hc : Coins c) (h0 : c ≠ []) (hl : c.length ≤ 1000) (s : G3) : m_check_coins [.lst (c.map .int)] s = .ok (.sh .non) s := by
  simp [m_check_coins, b_check_coins, -List.map_map, mFun, startE, mSeq, mIfS, mRet, mBind, mPar, Lone.bindB, Lone.bindBs, mExpr, mFor, mIr1, mIr2, mOp, mV, mS, mC, mCons, mNil, mCB, mBl, mNotT, mOrT, mAndT, mAnd, mOr, mNot, mIf, mIx, mIxS, mEqR, mRd, mLst, mTup, mCall, mCallK, permL, callO, mLc, noX, mIsi, bnd, Lone.ret, O.allSh, O.scal, O.scals, O.ds, O.d, O.int?, O.bl?, O.items, bO, iO, oAdd, oSub_app, oMul, oMod_app, oDiv_app, oPow_app, cmpI_app, mYes, fI, alt, oIn, fInL, oInt, oLen, oList, oOfInts, oOfBls, oII, mIl, mIe, mSetIx, setIx, mBits, mSl, mNoP, mSoP, oSl, mNil', mChain, mApp, mTupV, mLr1, mLr2, wipeE, D.ty, Ty.is, oIs, fIsN, D.isNon, mShare, mReprR, mLstR, mTupR, mConsR, mNilR, are_coins_ok c hc h0 hl]
theorem check_ok (c : List Int) (m : Int) (hc : Coins c) (h0 : c ≠ []) (hl : c.length ≤ 1000) (hm : 1 ≤ m) (hm' : m ≤ c.length) (s : G3) : m_check_coins_many [.lst (c.map .int), .int m] s = .ok (.sh .non) s := by
  simp [m_check_coins_many, b_check_coins_many, -List.map_map, mFun, startE, mSeq, mIfS, mRet, mBind, mPar, Lone.bindB, Lone.bindBs, mExpr, mFor, mIr1, mIr2, mOp, mV, mS, mC, mCons, mNil, mCB, mBl, mNotT, mOrT, mAndT, mAnd, mOr, mNot, mIf, mIx, mIxS, mEqR, mRd, mLst, mTup, mCall, mCallK, permL, callO, mLc, noX, mIsi, bnd, Lone.ret, O.allSh, O.scal, O.scals, O.ds, O.d, O.int?, O.bl?, O.items, bO, iO, oAdd, oSub_app, oMul, oMod_app, oDiv_app, oPow_app, cmpI_app, mYes, fI, alt, oIn, fInL, oInt, oLen, oList, oOfInts, oOfBls, oII, mIl, mIe, mSetIx, setIx, mBits, mSl, mNoP, mSoP, oSl, mNil', mChain, mApp, mTupV, mLr1, mLr2, wipeE, D.ty, Ty.is, oIs, fIsN, D.isNon, mShare, mReprR, mLstR, mTupR, mConsR, mNilR, check_coins_ok c hc h0 hl, is_count_int, hm, hm', show (0 : Int) ≤ m by omega]
/-- turned at lo .. lo + m - 1 -/
def tn (lo m : Int) : Int → List Int → List Int
  | _, [] => []
  | k, x :: r => (if lo ≤ k ∧ k < lo + m then 1 - x else x) :: tn lo m (k + 1) r
theorem turned_lc (l : List Int) (lo : Int) (m : Nat) (k : Int) (r0 r1 : Sl) (s : G3) : lcL (.tup [.sh 2, .sh 3]) mYes (mIf (mBl (mOp (oIn false) (mV 2) (mV 1))) (mOp oSub (mC (.int 1)) (mV 3)) (mS 3)) [r0, .ob (.sh (.lst (rngF lo m))), .un, .un] (enumL k (l.map .int)) s = .ok ((tn lo m k l).map .int) s := by
  induction l generalizing k with
  | nil => rfl
  | cons x r ih =>
    by_cases h : lo ≤ k ∧ k < lo + m <;> simp [lcL, enumL, -List.map_map, mFun, startE, mSeq, mIfS, mRet, mBind, mPar, Lone.bindB, Lone.bindBs, mExpr, mFor, mIr1, mIr2, mOp, mV, mS, mC, mCons, mNil, mCB, mBl, mNotT, mOrT, mAndT, mAnd, mOr, mNot, mIf, mIx, mIxS, mEqR, mRd, mLst, mTup, mCall, mCallK, permL, callO, mLc, noX, mIsi, bnd, Lone.ret, O.allSh, O.scal, O.scals, O.ds, O.d, O.int?, O.bl?, O.items, bO, iO, oAdd, oSub_app, oMul, oMod_app, oDiv_app, oPow_app, cmpI_app, mYes, fI, alt, oIn, fInL, oInt, oLen, oList, oOfInts, oOfBls, oII, mIl, mIe, mSetIx, setIx, mBits, mSl, mNoP, mSoP, oSl, mNil', mChain, mApp, mTupV, mLr1, mLr2, wipeE, D.ty, Ty.is, oIs, fIsN, D.isNon, mShare, mReprR, mLstR, mTupR, mConsR, mNilR, tn, h, inl_rng, fit_rng, fit_int] <;> rw [ih (k + 1)]
theorem tn_len (lo m k : Int) (l : List Int) : (tn lo m k l).length = l.length := by
  induction l generalizing k with
  | nil => rfl
  | cons x r ih => simp only [tn, List.length_cons, ih]
theorem tn_face (lo m k : Int) (l : List Int) (h : Coins l) : Coins (tn lo m k l) := by
  induction l generalizing k with
  | nil => exact fun _ m => nomatch m
  | cons x r ih =>
    intro y hy
    simp only [tn] at hy
    rcases List.mem_cons.mp hy with rfl | hy
    · have := h x (List.mem_cons_self ..)
      unfold Face at *
      split <;> omega
    · exact ih _ (fun z m => h z (List.mem_cons_of_mem _ m)) y hy
theorem turned_ok (l : List Int) (lo : Int) (m : Nat) (hl : l.length ≤ 1000) (s : G3) : m_turned_in [.lst (l.map .int), .lst (rngF lo m)] s = .ok (LI (tn lo m 0 l)) s := by
  have h3 : (tn lo m 0 l).length ≤ lineN := by rw [tn_len]; unfold lineN; omega
  simp [m_turned_in, b_turned_in, -List.map_map, mFun, startE, mSeq, mIfS, mRet, mBind, mPar, Lone.bindB, Lone.bindBs, mExpr, mFor, mIr1, mIr2, mOp, mV, mS, mC, mCons, mNil, mCB, mBl, mNotT, mOrT, mAndT, mAnd, mOr, mNot, mIf, mIx, mIxS, mEqR, mRd, mLst, mTup, mCall, mCallK, permL, callO, mLc, noX, mIsi, bnd, Lone.ret, O.allSh, O.scal, O.scals, O.ds, O.d, O.int?, O.bl?, O.items, bO, iO, oAdd, oSub_app, oMul, oMod_app, oDiv_app, oPow_app, cmpI_app, mYes, fI, alt, oIn, fInL, oInt, oLen, oList, oOfInts, oOfBls, oII, mIl, mIe, mSetIx, setIx, mBits, mSl, mNoP, mSoP, oSl, mNil', mChain, mApp, mTupV, mLr1, mLr2, wipeE, D.ty, Ty.is, oIs, fIsN, D.isNon, mShare, mReprR, mLstR, mTupR, mConsR, mNilR]
  rw [turned_lc (r1 := .un)]
  simp [h3, -List.map_map, LI]
theorem law_turned_ok (l : List Int) (lo : Int) (m : Nat) (hl : l.length ≤ 1000) (s : G3) : m_x_law_turned [.lst (l.map .int), .lst (rngF lo m)] s = .ok (LI (tn lo m 0 l)) s := turned_ok l lo m hl s
/-! the sweep -/
def sstep (m : Nat) (st : List Int × List Int) (a : Nat) : List Int × List Int := if st.1.getD a 0 = 1 then (tn a m 0 st.1, st.2 ++ [(a : Int)]) else st
def sw (m : Nat) (c : List Int) (n : Nat) : List Int × List Int := (List.range n).foldl (sstep m) (c, [])
theorem sw_succ (m : Nat) (c : List Int) (n : Nat) : sw m c (n + 1) = sstep m (sw m c n) n := by
  unfold sw
  rw [List.range_succ, List.foldl_append]
  rfl
theorem sw_inv (m : Nat) (c : List Int) (hc : Coins c) (n : Nat) : Coins (sw m c n).1 ∧ (sw m c n).1.length = c.length ∧ (sw m c n).2.length ≤ n := by
  induction n with
  | zero => exact ⟨hc, rfl, Nat.le_refl _⟩
  | succ n ih =>
    obtain ⟨i1, i2, i3⟩ := ih
    rw [sw_succ]
    unfold sstep
    split
    · exact ⟨tn_face _ _ _ _ i1, by rw [tn_len]; exact i2, by simp; exact i3⟩
    · exact ⟨i1, i2, by omega⟩
def swT : En → M O := mCall m_turned_in (mCons (mV 2) (mCons (mLr2 (mV 4) (mOp oAdd (mV 4) (mV 1))) mNil))
def swB : En → M Fl := mIfS (mBl (mEqR false (mRd (mIx (mV 2) (mV 4))) (mRd (mC (.int 1))))) (mSeq (mApp 3 (mS 4)) (mBind (.ow 2) swT)) (mNil')
theorem rng_d (a : Int) (n : Nat) : (O.lst ((rngF a n).map .sh)).d = .lst (rngF a n) := congrArg D.lst (O.ds_map _)
theorem swB_ok (A : Sl) (m a : Nat) (h f : List Int) (hh : h.length ≤ 1000) (hf : f.length ≤ 2000) (ha : a < h.length) (hm : m ≤ 1000) (s : G3) :
    swB [A, .ob (.sh (.int m)), .ob (LI h), .ob (LI f), .ob (.sh (.int a))] s = .ok (.nx [A, .ob (.sh (.int m)), .ob (LI (sstep m (h, f) a).1), .ob (LI (sstep m (h, f) a).2), .ob (.sh (.int a))]) s := by
  have e2 : inR24 (a : Int) (a + m) = true := inR24_small _ _ (by omega) (by omega) (by omega) (by omega)
  have e3 : ((a : Int) + m - a).toNat = m := by omega
  have tst : mBl (mEqR false (mRd (mIx (mV 2) (mV 4))) (mRd (mC (.int 1)))) [A, .ob (.sh (.int m)), .ob (LI h), .ob (LI f), .ob (.sh (.int a))] s = .ok (false != D.beq (.int (h.getD a 0)) (.int 1)) s :=
    x_bl (x_eq (x_rd (x_ix (x_v rfl) (x_v rfl) (LI_ix s h a ha)) rfl rfl) (x_rd (o := iO 1) rfl rfl rfl) rfl rfl rfl)
  by_cases g : h.getD a 0 = 1
  · have e5 : sstep m (h, f) a = (tn a m 0 h, f ++ [(a : Int)]) := if_pos g
    rw [e5]
    rw [g] at tst
    refine x_ifT tst ?_
    refine x_seq (app_LI (l := f) (a := a) (o := .sh (.int a)) (s' := s) rfl (by omega) (x_s rfl) rfl) ?_
    refine x_ow (call2 (x_v (o := LI h) rfl) (x_lr2 (x_v rfl) (x_opi (x_v rfl) (x_v rfl) (oAdd_ii _ _)) e2) ?_ (LI_scal _)) rfl
    rw [LI_d, rng_d, e3]
    exact turned_ok h a m hh s
  · have e5 : sstep m (h, f) a = (h, f) := if_neg g
    rw [e5]
    have : (false != D.beq (.int (h.getD a 0)) (.int 1)) = false := by simpa [D.beq] using g
    rw [this] at tst
    exact x_ifF tst rfl
theorem sw_loop (A x3 : Sl) (c : List Int) (m n : Nat) (hc : Coins c) (hl : c.length ≤ 1000) (hm : m ≤ 1000) (hn : n ≤ c.length) (s : G3) : ∃ x4 : Sl, forL (.sh 4) swB (rngF 0 n) [A, .ob (.sh (.int m)), .ob (LI c), .ob (LI []), x3] s =
    .ok (.nx [A, .ob (.sh (.int m)), .ob (LI (sw m c n).1), .ob (LI (sw m c n).2), x4]) s :=
  forL_rng (fun k x => [A, .ob (.sh (.int m)), .ob (LI (sw m c k).1), .ob (LI (sw m c k).2), x]) n (fun k x _ => rfl) (fun k hk => by
    obtain ⟨_, i2, i3⟩ := sw_inv m c hc k
    have := swB_ok A m k (sw m c k).1 (sw m c k).2 (by omega) (by omega) (by omega) hm s
    rw [this, sw_succ]) x3
theorem size_ok {A : Sl} {r : En} (c : List Int) (m : Nat) (hl : c.length ≤ 1000) (hm : m ≤ c.length) (s : G3) : mIr1 (mCons (mOp oAdd (mOp oSub (mCB oLen (mCons (mV 0) (mNil))) (mV 1)) (mC (.int 1))) (mNil)) (.ob (.sh (.lst (c.map .int))) :: .ob (.sh (.int m)) :: r) s = .ok (rngF 0 (c.length + 1 - m)) s := by
  have e := x_r1 (ms := mCons (mOp oAdd (mOp oSub (mCB oLen (mCons (mV 0) (mNil))) (mV 1)) (mC (.int 1))) (mNil)) (s := s) (s1 := s) (r := .ob (.sh (.lst (c.map .int))) :: .ob (.sh (.int m)) :: r) (k := c.length - m + 1)
    (x_cons (x_opi (x := c.length - m) (y := 1) (x_opi (x := c.length) (y := m) (x_len (x_v rfl) (l := c.map .int) rfl |>.trans (by rw [List.length_map])) (x_v rfl) rfl) rfl rfl) rfl) (inR_small _ (by omega) (by omega))
  rw [e, show ((c.length : Int) - m + 1).toNat = c.length + 1 - m by omega]
theorem swept_ok (c : List Int) (m : Nat) (hc : Coins c) (hl : c.length ≤ 1000) (hm : 1 ≤ m) (hm' : m ≤ c.length) (s : G3) :
    m_swept [.lst (c.map .int), .int m] s = .ok (.tup [LI (sw m c (c.length + 1 - m)).2, LI (sw m c (c.length + 1 - m)).1]) s := by
  obtain ⟨x4, e⟩ := sw_loop (.ob (.sh (.lst (c.map .int)))) .un c m (c.length + 1 - m) hc hl (by omega) (by omega) s
  refine x_fun rfl rfl (x_seq (x_par (os := [LI c, .lst []]) (x_cons (x_list (x_v rfl) rfl) (x_cons (x_lst x_nil (by decide)) x_nil)) rfl) (x_seq (x_for (size_ok (A := .un) c m hl hm' s) e) (x_ret ?_)))
  rfl
theorem row_plan_ok (c : List Int) (m : Nat) (hc : Coins c) (hl : c.length ≤ 1000) (hm : 1 ≤ m) (hm' : m ≤ c.length) (s : G3) :
    m_row_plan [.lst (c.map .int), .int m] s = .ok (if (sw m c (c.length + 1 - m)).1.sum = 0 then LI (sw m c (c.length + 1 - m)).2 else .sh .non) s := by
  have h0 : c ≠ [] := by intro z; subst z; simp at hm'; omega
  refine x_fun rfl rfl (x_seq (x_exp (call2s (x_v rfl) (x_v rfl) (check_ok c m hc h0 hl (by omega) (by omega) s))) (x_seq (x_bd (call2s (x_v rfl) (x_v rfl) (swept_ok c m hc hl hm hm' s)) rfl) (x_ret ?_)))
  refine x_if ((sw m c (c.length + 1 - m)).1.sum == 0) (x_bl (x_eq (x_rd (x_sum (x_v rfl) (LI_d _)) rfl rfl) (x_rd (o := iO 0) rfl rfl rfl) rfl rfl (eq_ii _ _))) ?_
  by_cases g : (sw m c (c.length + 1 - m)).1.sum = 0
  · rw [if_pos g, if_pos (by simpa using g)]; exact x_v rfl
  · rw [if_neg g, if_neg (by simpa using g)]; rfl
theorem left_ok (c : List Int) (m : Nat) (hc : Coins c) (hl : c.length ≤ 1000) (hm : 1 ≤ m) (hm' : m ≤ c.length) (s : G3) :
    m_left_in_row [.lst (c.map .int), .int m] s = .ok (LI (sw m c (c.length + 1 - m)).1) s := by
  have h0 : c ≠ [] := by intro z; subst z; simp at hm'; omega
  refine x_fun rfl rfl (x_seq (x_exp (call2s (x_v rfl) (x_v rfl) (check_ok c m hc h0 hl (by omega) (by omega) s))) (x_ret ?_))
  exact x_ix (call2s (x_v rfl) (x_v rfl) (swept_ok c m hc hl hm hm' s)) (k := 1) rfl rfl
theorem can_ok (c : List Int) (m : Nat) (hc : Coins c) (hl : c.length ≤ 1000) (hm : 1 ≤ m) (hm' : m ≤ c.length) (s : G3) :
    m_can_turn_row [.lst (c.map .int), .int m] s = .ok (bO ((sw m c (c.length + 1 - m)).1.sum == 0)) s := by
  have h0 : c ≠ [] := by intro z; subst z; simp at hm'; omega
  refine x_fun rfl rfl (x_seq (x_exp (call2s (x_v rfl) (x_v rfl) (check_ok c m hc h0 hl (by omega) (by omega) s))) (x_ret ?_))
  refine x_eq (x_rd (x_sum (x_ix (call2s (x_v rfl) (x_v rfl) (swept_ok c m hc hl hm hm' s)) (k := 1) rfl rfl) (LI_d _)) rfl rfl) (x_rd (o := iO 0) rfl rfl rfl) rfl rfl (eq_ii _ _)
/-! class sums -/
def en2 (p : Nat → Bool) : Nat → List Int → List Int
  | _, [] => []
  | k, x :: r => if p k then x :: en2 p (k + 1) r else en2 p (k + 1) r
theorem en2_eq (p : Nat → Bool) (k : Nat) (c : List Int) : en2 p k c = ((List.range c.length).filter (fun i => p (k + i))).filterMap (c[·]?) := by
  induction c generalizing k with
  | nil => rfl
  | cons x r ih =>
    rw [List.length_cons, List.range_succ_eq_map]
    have hm : List.filterMap (fun i => (x :: r)[i]?) (List.filter (fun i => p (k + i)) (List.map Nat.succ (List.range r.length))) = en2 p (k + 1) r := by
      rw [ih, List.filter_map, List.filterMap_map]
      congr 1
      apply List.filter_congr
      intro i _
      show p (k + (i + 1)) = p (k + 1 + i)
      rw [show k + (i + 1) = k + 1 + i by omega]
    cases hp : p k with
    | true =>
      rw [List.filter_cons_of_pos (by simpa using hp), List.filterMap_cons]
      show _ = x :: List.filterMap (fun i => (x :: r)[i]?) _
      rw [hm]; simp [en2, hp]
    | false => rw [List.filter_cons_of_neg (by simp [hp]), hm]; simp [en2, hp]
def pk (m k : Nat) : Nat → Bool := fun i => ((i : Int) - k) % m == 0
def dsum (c : List Int) (m k : Nat) : Int := (en2 (pk m k) 0 c).sum % 2
def sums (c : List Int) (m : Nat) : List Int := (List.range m).map (dsum c m)
theorem idx_all : (List.range 10).all (fun n => (List.range (n + 1)).all fun m => (List.range m).all fun k => sliceRange (sliceBounds (some (k : Int)) none (some (m : Int)) n).1 (sliceBounds (some (k : Int)) none (some (m : Int)) n).2.1 (sliceBounds (some (k : Int)) none (some (m : Int)) n).2.2 == (List.range n).filter fun i => pk m k (0 + i)) = true := by decide +kernel
theorem pick_en2 (c : List Int) (m k : Nat) (hl : c.length < 10) (hm : m ≤ c.length) (hk : k < m) : pickL c (some (k : Int)) none (some (m : Int)) = en2 (pk m k) 0 c := by
  have h := List.all_eq_true.mp (List.all_eq_true.mp (List.all_eq_true.mp idx_all c.length (List.mem_range.mpr hl)) m (List.mem_range.mpr (by omega))) k (List.mem_range.mpr hk)
  have h' := eq_of_beq h
  rw [en2_eq, ← h']
  rfl
theorem pick_map {α β : Type} (f : α → β) (l : List α) (a b st : Option Int) : pickL (l.map f) a b st = (pickL l a b st).map f := by
  unfold pickL
  rw [List.length_map, List.map_filterMap]
  congr 1
  funext i
  rw [List.getElem?_map]
theorem en2_len (p : Nat → Bool) (k : Nat) (c : List Int) : (en2 p k c).length ≤ c.length := by
  induction c generalizing k with
  | nil => exact Nat.le_refl _
  | cons x r ih =>
    have := ih (k + 1)
    simp only [en2]
    split <;> simp <;> omega
theorem LI_of {l : List D} {c : List Int} (h : l = c.map .int) : O.lst (l.map .sh) = LI c := by subst h; rfl
theorem sums_ok (c : List Int) (m : Nat) (hc : Coins c) (hl : c.length < 10) (hm : 1 ≤ m) (hm' : m ≤ c.length) (s : G3) :
    m_class_sums [.lst (c.map .int), .int m] s = .ok (LI (sums c m)) s := by
  have h0 : c ≠ [] := by intro z; subst z; simp at hm'; omega
  refine x_fun rfl rfl (x_seq (x_exp (call2s (x_v rfl) (x_v rfl) (check_ok c m hc h0 (by omega) (by omega) (by omega) s))) (x_ret ?_))
  have ld : (rngF 0 m).map (fun d => match d with | .int k => D.int (dsum c m k.toNat) | _ => d) = (sums c m).map .int := by
    rw [rng_nat, List.map_map]
    unfold sums
    rw [List.map_map]
    exact List.map_congr_left fun k _ => rfl
  rw [← LI_of ld]
  refine x_lc (x_r1 (k := m) (x_cons (x_v rfl) rfl) (inR_small _ (by omega) (by omega))) rfl ?_ (by rw [List.length_map, rngF_len]; omega)
  refine lcL_all _ _ fun d hd => ?_
  rw [rng_nat] at hd
  obtain ⟨k, hk, rfl⟩ := List.mem_map.mp hd
  have hk := List.mem_range.mp hk
  rw [show (m : Int).toNat = m by omega] at hk
  refine ⟨_, iO (dsum c m k), rfl, ?_, rfl⟩
  refine x_opi (x := (en2 (pk m k) 0 c).sum) (y := 2) (x_sum (l := en2 (pk m k) 0 c) (o := LI (en2 (pk m k) 0 c)) ?_ (LI_d _)) rfl (oMod_ii _ _ (by decide))
  have e1 : pickL (c.map D.int) (some (k : Int)) none (some (m : Int)) = (en2 (pk m k) 0 c).map .int := by rw [pick_map, pick_en2 c m k hl hm' hk]
  have e2 : some (m : Int) ≠ some 0 := by intro z; have := Option.some.inj z; omega
  have e3 : ((en2 (pk m k) 0 c).map D.int).length ≤ lineN := by
    have := en2_len (pk m k) 0 c
    rw [List.length_map]
    exact Nat.le_trans (show _ ≤ 10 by omega) (by decide)
  rw [← e1] at e3
  show mSlS (mV 0) (mSoP (mV 2)) mNoP (mSoP (mV 1)) [.ob (.sh (.lst (c.map .int))), .ob (.sh (.int m)), .ob (.sh (.int k))] s = _
  unfold mSlS
  simp only [bnd, mV, mSoP, mNoP, Lone.ret, List.getElem?_cons_zero, List.getElem?_cons_succ, O.int?, O.items, if_pos (And.intro e2 e3)]
  rw [LI_of e1]
/-! behind a plan -/
def bh (m : Nat) (c : List Int) (p : List Nat) : List Int := p.foldl (fun h (a : Nat) => tn a m 0 h) c
abbrev PL (p : List Nat) : D := .lst (p.map fun a : Nat => .int (a : Int))
theorem bh_len (m : Nat) (c : List Int) (p : List Nat) : (bh m c p).length = c.length := by
  induction p generalizing c with
  | nil => rfl
  | cons a r ih => show (bh m (tn a m 0 c) r).length = _; rw [ih, tn_len]
theorem bh_face (m : Nat) (c : List Int) (p : List Nat) (h : Coins c) : Coins (bh m c p) := by
  induction p generalizing c with
  | nil => exact h
  | cons a r ih => exact ih _ (tn_face _ _ _ _ h)
def bhB : En → M Fl := mBind (.sh 3) (mCall m_x_law_turned (mCons (mV 3) (mCons (mLr2 (mV 4) (mOp oAdd (mV 4) (mV 1))) (mNil))))
theorem bhB_ok (A B : Sl) (c : List Int) (m a : Nat) (hc : c.length ≤ 1000) (hm : m ≤ 1000) (ha : a ≤ 1000) (s : G3) : bhB [A, .ob (.sh (.int m)), B, .ob (.sh (.lst (c.map .int))), .ob (.sh (.int a))] s = .ok (.nx [A, .ob (.sh (.int m)), B, .ob (.sh (.lst ((tn a m 0 c).map .int))), .ob (.sh (.int a))]) s := by
  have e2 : inR24 (a : Int) (a + m) = true := inR24_small _ _ (by omega) (by omega) (by omega) (by omega)
  have e3 : ((a : Int) + m - a).toNat = m := by omega
  refine x_sh (call2 (x_v rfl) (x_lr2 (x_v rfl) (x_opi (x_v rfl) (x_v rfl) (oAdd_ii _ _)) e2) ?_ (LI_scal (tn a m 0 c))) (by rw [LI_d]; rfl)
  rw [sh_d, rng_d, e3]
  exact law_turned_ok c a m hc s
theorem bh_loop (A B : Sl) (m : Nat) (hm : m ≤ 1000) (s : G3) : ∀ (p : List Nat) (c : List Int) (x : Sl), c.length ≤ 1000 → (∀ a ∈ p, a ≤ 1000) → ∃ x', forL (.sh 4) bhB (p.map fun a : Nat => .int (a : Int)) [A, .ob (.sh (.int m)), B, .ob (.sh (.lst (c.map .int))), x] s = .ok (.nx [A, .ob (.sh (.int m)), B, .ob (.sh (.lst ((bh m c p).map .int))), x']) s
  | [], c, x, _, _ => ⟨x, rfl⟩
  | a :: r, c, x, hc, ha => by
    obtain ⟨x', h⟩ := bh_loop A B m hm s r (tn a m 0 c) (.ob (.sh (.int a))) (by rw [tn_len]; exact hc) (fun b hb => ha b (List.mem_cons_of_mem _ hb))
    have ha := ha a (List.mem_cons_self ..)
    exact ⟨x', (forL_cons rfl (bhB_ok A B c m a hc hm ha s)).trans h⟩
theorem behind_ok (c : List Int) (m : Nat) (p : List Nat) (hl : c.length ≤ 1000) (hm : m ≤ 1000) (hp : ∀ a ∈ p, a ≤ 1000) (s : G3) :
    m_x_law_behind [.lst (c.map .int), .int m, PL p] s = .ok (.sh (.lst ((bh m c p).map .int))) s := by
  obtain ⟨x', h⟩ := bh_loop (.ob (.sh (.lst (c.map .int)))) (.ob (.sh (PL p))) m hm s p c .un hl hp
  exact x_fun rfl rfl (x_seq (x_sh (x_list (x_v rfl) rfl) (by rw [lst_d]; rfl)) (x_seq (x_for (x_il (x_s rfl) rfl) h) (x_ret (x_v rfl))))
/-! all plans -/
def rws : Nat → List (List Nat)
  | 0 => [[]]
  | n + 1 => rws n ++ (rws n).map (· ++ [n])
theorem rws_len (n : Nat) : (rws n).length = 2 ^ n := by
  induction n with
  | zero => rfl
  | succ n ih => simp only [rws, List.length_append, List.length_map, ih]; omega
theorem rws_lt (n : Nat) : ∀ p ∈ rws n, (∀ a ∈ p, a < n) ∧ p.length ≤ n := by
  induction n with
  | zero => intro p hp; simp [rws] at hp; subst hp; simp
  | succ n ih =>
    intro p hp
    rcases List.mem_append.mp hp with h | h
    · exact ⟨fun a ha => Nat.lt_succ_of_lt ((ih p h).1 a ha), Nat.le_succ_of_le (ih p h).2⟩
    · obtain ⟨q, hq, rfl⟩ := List.mem_map.mp h
      refine ⟨fun a ha => ?_, by have := (ih q hq).2; simp; exact this⟩
      rcases List.mem_append.mp ha with ha | ha
      · exact Nat.lt_succ_of_lt ((ih q hq).1 a ha)
      · simp at ha; omega
abbrev RW (l : List (List Nat)) : D := .lst (l.map PL)
theorem RW_gd (l : List (List Nat)) (h : ∀ p ∈ l, (∀ a ∈ p, a ≤ 1000) ∧ p.length ≤ 10) (hl : l.length ≤ 1000) : Gd 2 (1000 * 411) (RW l) := by
  refine Gd.lst (k := 1) (w := 410) (fun d hd => ?_) (by rwa [List.length_map])
  obtain ⟨p, hp, rfl⟩ := List.mem_map.mp hd
  have := Gd.ints (n := 10) (l := p.map fun a : Nat => (a : Int)) (fun i hi => by obtain ⟨a, ha, rfl⟩ := List.mem_map.mp hi; have := (h p hp).1 a ha; omega) (by rw [List.length_map]; exact (h p hp).2)
  rw [List.map_map] at this
  exact this
theorem plans_ok (c : List Int) (m : Nat) (hl : c.length < 10) (hm : m ≤ c.length) (hm1 : 1 ≤ m) (s : G3) :
    m_x_law_plans [.lst (c.map .int), .int m] s = .ok (.lst ((((rws (c.length + 1 - m)).filter fun p => (bh m c p).sum == 0).map PL).map .sh)) s := by
  have hn : c.length + 1 - m < 10 := by omega
  generalize e0 : c.length + 1 - m = n at hn ⊢
  have two : ∀ k, k ≤ 9 → 2 ^ k ≤ 512 := fun k h => Nat.le_trans (Nat.pow_le_pow_right (n := 2) (by decide) h) (by decide)
  obtain ⟨x', lp⟩ := forL_rng (s := s) (b := .sh 4) (mb := mBind (.sh 2) (mOp oAdd (mV 2) (mLc (mIl (mS 2)) (.sh 5) (mYes) (mOp oAdd (mV 5) (mLst (mCons (mS 4) (mNil)))) [5])))
    (fun k x => [.ob (.sh (.lst (c.map .int))), .ob (.sh (.int m)), .ob (.sh (RW (rws k))), .ob (.sh (.int n)), x, .un]) n (fun k x _ => rfl) (fun k hk => by
      have hr := rws_len k
      have h2 := two k (by omega)
      refine x_sh (o := .lst (((rws k).map PL ++ (rws k).map fun p => PL (p ++ [k])).map .sh)) (x_op (x_v rfl) (x_lc (x_il (x_s rfl) rfl) rfl (lcM_all _ (fun p => PL (p ++ [k])) _ fun p hp => ?_) (by rw [List.length_map]; omega)) (oAdd_ll rfl (lst_items _) rfl (by rw [List.length_map, List.length_map]; omega))) ?_
      · have hp := (rws_lt k p hp).2
        refine ⟨_, .lst ((p.map (fun a : Nat => D.int (a : Int)) ++ [D.int (k : Int)]).map .sh), rfl, x_op (x_v rfl) (x_lst (x_cons (x_s rfl) x_nil) (by simp)) (oAdd_ll rfl rfl rfl (by simp; omega)), ?_⟩
        rw [lst_d]
        show D.lst _ = D.lst _
        rw [List.map_append]
        rfl
      · rw [lst_d]
        simp only [RW, rws, List.map_append, List.map_map]
        rfl) .un
  have e1 : ((c.length : Int) - m + 1) = (n : Int) := by omega
  refine x_fun rfl rfl (x_seq (x_par (os := [.lst [.lst []], iO n]) (x_cons (x_lst (x_cons (x_lst x_nil (by decide)) x_nil) (by decide)) (x_cons (x_opi (x := c.length - m) (y := 1) (x_opi (x := c.length) (y := m) (x_len (x_v rfl) (l := c.map .int) rfl |>.trans (by rw [List.length_map])) (x_v rfl) rfl) rfl (by rw [← e1]; rfl)) x_nil)) rfl)
    (x_seq (x_for (x_r1 (k := n) (x_cons (x_v rfl) x_nil) (inR_small _ (by omega) (by omega))) lp) (x_ret ?_)))
  have fl : (((rws n).filter fun p => (bh m c p).sum == 0).map PL).length ≤ 100000 := by
    have := List.length_filter_le (fun p => (bh m c p).sum == 0) (rws n)
    have h2 := two n (by omega)
    rw [rws_len] at this
    rw [List.length_map]
    omega
  have := x_lc (mi := mIl (mS 2)) (b := .sh 5) (t := mBl (mEqR false (mRd (mCB (oOfInts fun l => some (iO l.sum)) (mCons (mCall m_x_law_behind (mCons (mV 0) (mCons (mV 1) (mCons (mV 5) (mNil))))) (mNil)))) (mRd (mC (.int 0))))) (ma := mS 5) (vs := [5])
    (r := [.ob (.sh (.lst (c.map .int))), .ob (.sh (.int m)), .ob (.sh (RW (rws n))), .ob (.sh (.int n)), x', .un]) (s := s) (s1 := s) (s2 := s) (x_il (x_s rfl) rfl) rfl (lcM_run PL (fun p => (bh m c p).sum == 0) PL (rws n) fun p hp => by
      refine ⟨_, rfl, ?_, fun _ => ⟨_, x_s rfl, rfl⟩⟩
      refine x_bl (x_eq (x_rd (x_sum (call3s (x_v rfl) (x_v rfl) (x_v rfl) (behind_ok c m p (by omega) (by omega) (fun a ha => by have := (rws_lt n p hp).1 a ha; omega) s)) rfl) rfl rfl) (x_rd (o := iO 0) rfl rfl rfl) rfl rfl (eq_ii _ _))) fl
  exact this
end K64
namespace K64
open PySem PySem.Spec PyProof.Rows L2 Lone
theorem tn_get (lo m k : Int) (l : List Int) (i : Nat) (h : i < l.length) : (tn lo m k l).getD i 0 = if lo ≤ k + i ∧ k + i < lo + m then 1 - l.getD i 0 else l.getD i 0 := by
  induction l generalizing k i with
  | nil => simp at h
  | cons x r ih =>
    cases i with
    | zero => simp [tn]
    | succ i =>
      have := ih (k + 1) i (by simpa using h)
      simp only [tn, List.getD_cons_succ]
      rw [this, show k + 1 + (i : Int) = k + ((i + 1 : Nat) : Int) by push_cast; omega]
def fnd (m : Nat) (c : List Int) : Nat → List Nat
  | 0 => []
  | n + 1 => if (sw m c n).1.getD n 0 = 1 then fnd m c n ++ [n] else fnd m c n
theorem fnd_eq (m : Nat) (c : List Int) (n : Nat) : (sw m c n).2 = (fnd m c n).map fun a : Nat => (a : Int) := by
  induction n with
  | zero => rfl
  | succ n ih =>
    rw [sw_succ]
    unfold sstep fnd
    split
    · rw [List.map_append, ← ih]; rfl
    · exact ih
theorem fnd_bh (m : Nat) (c : List Int) (n : Nat) : bh m c (fnd m c n) = (sw m c n).1 := by
  induction n with
  | zero => rfl
  | succ n ih =>
    rw [sw_succ]
    unfold sstep fnd
    split
    · unfold bh at *
      rw [List.foldl_append, ih]; rfl
    · exact ih
theorem fnd_mem (m : Nat) (c : List Int) (n : Nat) : fnd m c n ∈ rws n := by
  induction n with
  | zero => exact List.mem_cons_self ..
  | succ n ih =>
    unfold fnd rws
    split
    · exact List.mem_append_right _ (List.mem_map.mpr ⟨_, ih, rfl⟩)
    · exact List.mem_append_left _ ih
def zf (n : Nat) (l : List Int) : Bool := (List.range n).all fun i => l.getD i 0 == 0
theorem zf_succ (n : Nat) (l : List Int) : zf (n + 1) l = (zf n l && (l.getD n 0 == 0)) := by
  unfold zf
  rw [List.range_succ, List.all_append]
  simp
theorem zf_tn (m : Nat) (l : List Int) (n : Nat) (h : n < l.length) (hm : 1 ≤ m) : zf n (tn n m 0 l) = zf n l := by
  unfold zf
  rw [Bool.eq_iff_iff, List.all_eq_true, List.all_eq_true]
  have key : ∀ i ∈ List.range n, (tn n m 0 l).getD i 0 = l.getD i 0 := fun i hi => by
    have := List.mem_range.mp hi
    rw [tn_get _ _ _ _ _ (by omega), if_neg (by omega)]
  constructor
  · intro q i hi; rw [← key i hi]; exact q i hi
  · intro q i hi; rw [key i hi]; exact q i hi
theorem getD_face {l : List Int} (h : Coins l) (i : Nat) : l.getD i 0 = 0 ∨ l.getD i 0 = 1 := by
  rw [List.getD_eq_getElem?_getD]
  cases e : l[i]? with
  | none => exact .inl rfl
  | some x => exact h x (List.mem_of_getElem? e)
theorem filter_map' {α : Type} (p : α → Bool) (f : α → α) (l : List α) : (l.map f).filter p = (l.filter fun x => p (f x)).map f := List.filter_map ..
theorem uniq (m : Nat) (c : List Int) (hc : Coins c) (hm : 1 ≤ m) (n : Nat) (hn : n ≤ c.length) : (rws n).filter (fun p => zf n (bh m c p)) = [fnd m c n] := by
  induction n with
  | zero => rfl
  | succ n ih =>
    have ih := ih (by omega)
    have e1 : (rws n).filter (fun p => zf (n + 1) (bh m c p)) = [fnd m c n].filter (fun p => (bh m c p).getD n 0 == 0) := by
      rw [← ih, List.filter_filter]
      exact List.filter_congr fun p _ => by rw [zf_succ, Bool.and_comm]
    have e2 : (rws n).filter (fun p => zf (n + 1) (bh m c (p ++ [n]))) = [fnd m c n].filter (fun p => (bh m c p).getD n 0 == 1) := by
      rw [← ih, List.filter_filter]
      refine List.filter_congr fun p _ => ?_
      have e3 : bh m c (p ++ [n]) = tn n m 0 (bh m c p) := by unfold bh; rw [List.foldl_append]; rfl
      have hl : n < (bh m c p).length := by rw [bh_len]; omega
      rw [zf_succ, e3, zf_tn m _ n hl hm, tn_get _ _ _ _ _ hl, if_pos (by omega), Bool.and_comm]
      congr 1
      rw [Bool.eq_iff_iff]
      simp
      omega
    show (rws n ++ (rws n).map (· ++ [n])).filter _ = _
    rw [List.filter_append, filter_map', e1, e2]
    have e4 := fnd_bh m c n
    simp only [List.filter_cons, List.filter_nil, e4]
    rw [show fnd m c (n + 1) = if (sw m c n).1.getD n 0 = 1 then fnd m c n ++ [n] else fnd m c n from rfl]
    rcases getD_face (sw_inv m c hc n).1 n with h | h
    · rw [h]; simp
    · rw [h]; simp
theorem sum_zero {l : List Int} (h : Coins l) : l.sum = 0 ↔ ∀ x ∈ l, x = 0 := by
  have nn : ∀ l : List Int, Coins l → 0 ≤ l.sum := by
    intro l
    induction l with
    | nil => intro _; exact Int.le_refl _
    | cons x r ih =>
      intro h
      have h1 := h x (List.mem_cons_self ..)
      have h2 := ih fun y m => h y (List.mem_cons_of_mem _ m)
      rw [List.sum_cons]
      unfold Face at h1
      omega
  induction l with
  | nil => simp
  | cons x r ih =>
    have h1 := h x (List.mem_cons_self ..)
    have hr : Coins r := fun y m => h y (List.mem_cons_of_mem _ m)
    have h2 := nn r hr
    have ih := ih hr
    rw [List.sum_cons]
    unfold Face at h1
    constructor
    · intro e y hy
      rcases List.mem_cons.mp hy with rfl | hy
      · omega
      · exact ih.mp (by omega) y hy
    · intro e
      have e1 := e x (List.mem_cons_self ..)
      have e2 := ih.mpr fun y hy => e y (List.mem_cons_of_mem _ hy)
      omega
theorem sum_zf {l : List Int} (h : Coins l) (n : Nat) (e : l.sum = 0) : zf n l = true := by
  unfold zf
  rw [List.all_eq_true]
  intro i _
  rw [List.getD_eq_getElem?_getD]
  cases q : l[i]? with
  | none => rfl
  | some x => simp [(sum_zero h).mp e x (List.mem_of_getElem? q)]
/-- the plans: one or none -/
theorem plans_eq (m : Nat) (c : List Int) (hc : Coins c) (hm : 1 ≤ m) (n : Nat) (hn : n ≤ c.length) : ((rws n).filter fun p => (bh m c p).sum == 0) = if (sw m c n).1.sum = 0 then [fnd m c n] else [] := by
  have e : ((rws n).filter fun p => (bh m c p).sum == 0) = ((rws n).filter (fun p => zf n (bh m c p))).filter fun p => (bh m c p).sum == 0 := by
    rw [List.filter_filter]
    refine List.filter_congr fun p _ => ?_
    cases q : ((bh m c p).sum == 0) with
    | false => rfl
    | true => rw [sum_zf (bh_face m c p hc) n (by simpa using q)]; rfl
  rw [e, uniq m c hc hm n hn]
  simp only [List.filter_cons, List.filter_nil, fnd_bh]
  by_cases h : (sw m c n).1.sum = 0
  · rw [if_pos h, if_pos (by simpa using h)]
  · rw [if_neg h, if_neg (by simpa using h)]
end K64
namespace K64
open PySem PySem.Spec PyProof.Rows L2 Lone
def rA : En → M Fl := mBind (.sh 4) (mIf (mBl (mEqR false (mRd (mIx (mV 4) (mV 6))) (mRd (mC (.int 1))))) (mCall m_x_law_turned (mCons (mV 4) (mCons (mLr2 (mV 6) (mOp oAdd (mV 6) (mV 2))) (mNil)))) (mS 4))
theorem rA_ok (A B K E : Sl) (R : En) (m a : Nat) (h : List Int) (hh : h.length ≤ 1000) (ha : a < h.length) (hm : m ≤ 1000) (s : G3) :
    rA (A :: B :: .ob (.sh (.int m)) :: K :: .ob (.sh (.lst (h.map .int))) :: E :: .ob (.sh (.int a)) :: R) s =
      .ok (.nx (A :: B :: .ob (.sh (.int m)) :: K :: .ob (.sh (.lst ((sstep m (h, []) a).1.map .int))) :: E :: .ob (.sh (.int a)) :: R)) s := by
  have e2 : inR24 (a : Int) (a + m) = true := inR24_small _ _ (by omega) (by omega) (by omega) (by omega)
  have e3 : ((a : Int) + m - a).toNat = m := by omega
  have tst := x_bl (x_eq (ma := mRd (mIx (mV 4) (mV 6))) (mb := mRd (mC (.int 1))) (neg := false) (r := A :: B :: .ob (.sh (.int m)) :: K :: .ob (.sh (.lst (h.map .int))) :: E :: .ob (.sh (.int a)) :: R) (s := s) (x_rd (x_ix (x_v rfl) (x_v rfl) (L_ix s h a ha)) rfl rfl) (x_rd (o := iO 1) rfl rfl rfl) rfl rfl (eq_ii _ 1))
  by_cases g : h.getD a 0 = 1
  · have e5 : sstep m (h, []) a = (tn a m 0 h, [] ++ [(a : Int)]) := if_pos g
    rw [e5]
    rw [g] at tst
    refine x_sh (x_eT tst (call2 (x_v rfl) (x_lr2 (x_v rfl) (x_opi (x_v rfl) (x_v rfl) (oAdd_ii _ _)) e2) ?_ (LI_scal (tn a m 0 h)))) (by rw [LI_d]; rfl)
    rw [sh_d, rng_d, e3]
    exact law_turned_ok h a m hh s
  · have e5 : sstep m (h, []) a = (h, []) := if_neg g
    rw [e5]
    rw [show (h.getD a 0 == 1) = false by simpa using g] at tst
    exact x_sh (x_eF tst (x_s rfl)) rfl
theorem sstep_1 (m : Nat) (h f : List Int) (a : Nat) : (sstep m (h, []) a).1 = (sstep m (h, f) a).1 := by
  unfold sstep
  split <;> rfl
def rB : En → M Fl := mApp 8 (mOp oMod (mCB oInt (mCons (mCB (oOfInts fun l => some (iO l.sum)) (mCons (mLc (mIe (mCons (mS 1) (mNil))) (.tup [.sh 6, .sh 14]) (mBl (mEqR false (mRd (mOp oMod (mCB oInt (mCons (mOp oSub (mV 6) (mV 9)) (mNil))) (mV 2))) (mRd (mC (.int 0))))) (mS 14) [6, 14]) (mNil))) (mNil))) (mC (.int 2)))
theorem x_int {ma : En → M O} {r : En} {s s1 : G3} {i : Int} (h : ma r s = .ok (iO i) s1) : mCB oInt (mCons ma mNil) r s = .ok (iO i) s1 := by simp only [mCB, mCons, mNil, Lone.ret, bnd, h, oInt, iO]
theorem rB_lc (g C K L S P T q10 q11 q12 q13 : Sl) (m k : Nat) (hm : 1 ≤ m) (s : G3) : ∀ (c : List Int) (j : Nat),
    lcL (.tup [.sh 6, .sh 14]) (mBl (mEqR false (mRd (mOp oMod (mCB oInt (mCons (mOp oSub (mV 6) (mV 9)) (mNil))) (mV 2))) (mRd (mC (.int 0))))) (mS 14) [g, C, .ob (.sh (.int m)), K, L, S, .un, P, T, .ob (.sh (.int k)), q10, q11, q12, q13, .un] (enumL (j : Int) (c.map .int)) s = .ok ((en2 (pk m k) j c).map .int) s
  | [], j => rfl
  | x :: r, j => by
    have ih := rB_lc g C K L S P T q10 q11 q12 q13 m k hm s r (j + 1)
    have tst := x_bl (x_eq (neg := false) (ma := mRd (mOp oMod (mCB oInt (mCons (mOp oSub (mV 6) (mV 9)) (mNil))) (mV 2))) (mb := mRd (mC (.int 0))) (r := [g, C, .ob (.sh (.int m)), K, L, S, .ob (.sh (.int j)), P, T, .ob (.sh (.int k)), q10, q11, q12, q13, .ob (.sh (.int x))]) (s := s)
      (x_rd (x_opi (x := (j : Int) - k) (y := m) (x_int (x_opi (x_v rfl) (x_v rfl) (oSub_ii _ _))) (x_v rfl) (oMod_ii _ _ (by omega))) rfl rfl) (x_rd (o := iO 0) rfl rfl rfl) rfl rfl (eq_ii _ 0))
    have e1 : bindB (.tup [.sh 6, .sh 14]) (.sh (.tup [.int (j : Int), .int x])) [g, C, .ob (.sh (.int m)), K, L, S, .un, P, T, .ob (.sh (.int k)), q10, q11, q12, q13, .un] = some [g, C, .ob (.sh (.int m)), K, L, S, .ob (.sh (.int j)), P, T, .ob (.sh (.int k)), q10, q11, q12, q13, .ob (.sh (.int x))] := rfl
    have e2 : mS 14 [g, C, .ob (.sh (.int m)), K, L, S, .ob (.sh (.int j)), P, T, .ob (.sh (.int k)), q10, q11, q12, q13, .ob (.sh (.int x))] s = .ok (.sh (.int x)) s := x_s rfl
    show lcL _ _ _ _ (.tup [.int (j : Int), .int x] :: enumL ((j : Int) + 1) (r.map .int)) s = _
    rw [show (j : Int) + 1 = ((j + 1 : Nat) : Int) by push_cast; rfl]
    cases hp : pk m k j with
    | true =>
      have hp' : (((j : Int) - k) % m == 0) = true := hp
      rw [hp'] at tst
      simp only [lcL, e1, bnd, tst, if_true, e2, ih, en2, hp, List.map_cons, sh_d]
    | false =>
      have hp' : (((j : Int) - k) % m == 0) = false := hp
      rw [hp'] at tst
      simp only [lcL, e1, bnd, tst, Bool.false_eq_true, if_false, ih, en2, hp]
theorem rB_ok (g K L S E P q10 q11 q12 q13 q14 : Sl) (c l : List Int) (m k : Nat) (hm : 1 ≤ m) (hc : c.length ≤ 1000) (hl : l.length ≤ 1000) (s : G3) :
    rB [g, .ob (.sh (.lst (c.map .int))), .ob (.sh (.int m)), K, L, S, E, P, .ob (LI l), .ob (.sh (.int k)), q10, q11, q12, q13, q14] s = .ok (.nx [g, .ob (.sh (.lst (c.map .int))), .ob (.sh (.int m)), K, L, S, E, P, .ob (LI (l ++ [dsum c m k])), .ob (.sh (.int k)), q10, q11, q12, q13, q14]) s := by
  refine app_LI (l := l) (a := dsum c m k) (o := iO (dsum c m k)) rfl (by omega) ?_ rfl
  refine x_opi (x := (en2 (pk m k) 0 c).sum) (y := 2) (x_int (x_sum (l := en2 (pk m k) 0 c) (x_lc (x_ie (x_s rfl) rfl) rfl (rB_lc g _ K L S P (.ob (LI l)) q10 q11 q12 q13 m k hm s c 0) ?_) (lst_d _))) rfl (oMod_ii _ _ (by decide))
  have := en2_len (pk m k) 0 c
  rw [List.length_map]
  omega
theorem size1_ok (c : List Int) (m : Nat) (hl : c.length ≤ 1000) (hm : m ≤ c.length) (r : En) (h1 : r[1]? = some (.ob (.sh (.lst (c.map .int))))) (h2 : r[2]? = some (.ob (.sh (.int m)))) (s : G3) : mIr1 (mCons (mOp oAdd (mOp oSub (mCB oLen (mCons (mV 1) (mNil))) (mV 2)) (mC (.int 1))) (mNil)) r s = .ok (rngF 0 (c.length + 1 - m)) s := by
  have e := x_r1 (ms := mCons (mOp oAdd (mOp oSub (mCB oLen (mCons (mV 1) (mNil))) (mV 2)) (mC (.int 1))) (mNil)) (s := s) (s1 := s) (r := r) (k := c.length - m + 1)
    (x_cons (x_opi (x := c.length - m) (y := 1) (x_opi (x := c.length) (y := m) (x_len (x_v h1) (l := c.map .int) rfl |>.trans (by rw [List.length_map])) (x_v h2) rfl) rfl rfl) rfl) (inR_small _ (by omega) (by omega))
  rw [e, show ((c.length : Int) - m + 1).toNat = c.length + 1 - m by omega]
/-! what is told, what is due -/
def dPl (m : Nat) (c : List Int) (N : Nat) : D := if (sw m c N).1.sum = 0 then PL (fnd m c N) else .non
def dTo (m : Nat) (c : List Int) (N : Nat) : D := .lst [dPl m c N, .lst ((sw m c N).1.map .int), .lst ((sums c m).map .int), .bl ((sw m c N).1.sum == 0)]
theorem PL_eq (m : Nat) (c : List Int) (N : Nat) : LI (sw m c N).2 = .lst (((fnd m c N).map fun a : Nat => D.int (a : Int)).map .sh) := by
  rw [fnd_eq]
  unfold LI
  rw [List.map_map (g := D.int)]
  rfl
theorem dPl_gd (m : Nat) (c : List Int) (N : Nat) (hN : N ≤ 10) : Gd 1 410 (dPl m c N) := by
  unfold dPl
  split
  · have h := rws_lt N _ (fnd_mem m c N)
    have := Gd.ints (n := 10) (l := (fnd m c N).map fun a : Nat => (a : Int)) (fun i hi => by obtain ⟨a, ha, rfl⟩ := List.mem_map.mp hi; have := h.1 a ha; omega) (by rw [List.length_map]; omega)
    rw [List.map_map] at this
    exact this
  · exact .non
theorem face_gd (l : List Int) (h : Coins l) (hl : l.length ≤ 10) : Gd 1 410 (.lst (l.map .int)) := Gd.ints (n := 10) (fun i hi => by have := h i hi; unfold Face at this; omega) hl
theorem sums_face (c : List Int) (m : Nat) : Coins (sums c m) := by
  intro x hx
  unfold sums dsum at hx
  obtain ⟨k, _, rfl⟩ := List.mem_map.mp hx
  unfold Face
  omega
theorem dTo_gd (m : Nat) (c : List Int) (N : Nat) (hN : N ≤ 10) (hc : Coins c) (hl : c.length ≤ 10) (hm : m ≤ 10) : Gd 2 1644 (dTo m c N) := by
  have hs := sw_inv m c hc N
  refine Gd.lst (k := 1) (w := 410) (n := 4) (fun d hd => ?_) (by simp)
  simp only [List.mem_cons, List.not_mem_nil, or_false] at hd
  rcases hd with rfl | rfl | rfl | rfl
  · exact dPl_gd m c N hN
  · exact face_gd _ hs.1 (by omega)
  · exact face_gd _ (sums_face c m) (by unfold sums; simp; exact hm)
  · exact .bl
def oPl (m : Nat) (c : List Int) (N : Nat) : O := if (sw m c N).1.sum = 0 then LI (sw m c N).2 else .sh .non
theorem oPl_d (m : Nat) (c : List Int) (N : Nat) : (oPl m c N).d = dPl m c N := by
  unfold oPl dPl
  split
  · rw [PL_eq, lst_d]
  · rfl
def oTo (m : Nat) (c : List Int) (N : Nat) : List O := [oPl m c N, LI (sw m c N).1, LI (sums c m), bO ((sw m c N).1.sum == 0)]
theorem oTo_d (m : Nat) (c : List Int) (N : Nat) : (O.lst (oTo m c N)).d = dTo m c N := by
  show D.lst (O.ds (oTo m c N)) = _
  unfold oTo dTo
  simp only [O.ds, oPl_d, LI_d, bO, sh_d]
theorem LI_can (l : List Int) (h : l.length ≤ 1000) : (LI l).canApp = true := by
  show decide (((l.map D.int).map O.sh).length + 8 ≤ lineN) = true
  rw [List.length_map, List.length_map]
  exact decide_eq_true (Nat.le_trans (show l.length + 8 ≤ 1008 by omega) (by decide))
theorem oTo_can (m : Nat) (c : List Int) (N : Nat) (hc : Coins c) (hl : c.length ≤ 10) (hN : N ≤ 10) (hm : m ≤ 10) : ((oTo m c N).take 3).all O.canApp = true := by
  have hs := sw_inv m c hc N
  have h1 : (oPl m c N).canApp = true := by
    unfold oPl
    split
    · exact LI_can _ (by omega)
    · rfl
  have h2 := LI_can (sw m c N).1 (by omega)
  have h3 := LI_can (sums c m) (by unfold sums; simp; omega)
  show ([oPl m c N, LI (sw m c N).1, LI (sums c m)].all O.canApp) = true
  simp only [List.all_cons, List.all_nil, h1, h2, h3, Bool.and_self]
def pls (m : Nat) (c : List Int) (N : Nat) : List (List Nat) := if (sw m c N).1.sum = 0 then [fnd m c N] else []
theorem pls_gd (m : Nat) (c : List Int) (N : Nat) (hN : N ≤ 10) : Gd 2 (1000 * 411) (RW (pls m c N)) := by
  have h := rws_lt N _ (fnd_mem m c N)
  refine RW_gd _ (fun p hp => ?_) ?_
  · unfold pls at hp
    split at hp
    · simp at hp; subst hp; exact ⟨fun a ha => by have := h.1 a ha; omega, by omega⟩
    · simp at hp
  · unfold pls
    split <;> simp
theorem pls_ne (m : Nat) (c : List Int) (N : Nat) : (true != D.beq (RW (pls m c N)) (.lst [])) = ((sw m c N).1.sum == 0) := by
  unfold pls
  split
  · rename_i h; rw [h]; rfl
  · rename_i h
    rw [show ((sw m c N).1.sum == 0) = false by simpa using h]; rfl
theorem ne_ok (m : Nat) (c : List Int) (N : Nat) (hN : N ≤ 10) (r : En) (s : G3) (h : r[7]? = some (.ob (.sh (RW (pls m c N))))) : mEqR true (mRd (mV 7)) (mLstR (mNilR)) r s = .ok (bO ((sw m c N).1.sum == 0)) s :=
  x_eq (x_rd (x_v h) rfl (pls_gd m c N hN).ok) (x_lstR x_nilR (by decide)) ((pls_gd m c N hN).fit (by decide)) rfl (pls_ne m c N)
theorem due_ok (m : Nat) (c : List Int) (N : Nat) (hN : N ≤ 10) (r : En) (s : G3) (h7 : r[7]? = some (.ob (.sh (RW (pls m c N))))) (h4 : r[4]? = some (.ob (.sh (.lst ((sw m c N).1.map .int))))) (h8 : r[8]? = some (.ob (.sh (.lst ((sums c m).map .int))))) :
    mLst (mCons (mIf (mBl (mEqR true (mRd (mV 7)) (mLstR (mNilR)))) (mIxS (mV 7) (mC (.int 0))) (mC .non)) (mCons (mS 4) (mCons (mS 8) (mCons (mEqR true (mRd (mV 7)) (mLstR (mNilR))) (mNil))))) r s = .ok (.lst ([dPl m c N, .lst ((sw m c N).1.map .int), .lst ((sums c m).map .int), .bl ((sw m c N).1.sum == 0)].map .sh)) s := by
  have t := ne_ok m c N hN r s h7
  refine x_lst (x_cons (o := .sh (dPl m c N)) ?_ (x_cons (x_s h4) (x_cons (x_s h8) (x_cons t x_nil)))) (by simp)
  by_cases g : (sw m c N).1.sum = 0
  · rw [g] at t
    refine x_eT (x_bl t) (x_ixS (x_v h7) (k := 0) rfl ?_)
    unfold pls dPl
    rw [if_pos g, if_pos g]
    rfl
  · rw [show ((sw m c N).1.sum == 0) = false by simpa using g] at t
    refine x_eF (x_bl t) ?_
    unfold dPl
    rw [if_neg g]
    rfl
theorem told_ok (m : Nat) (c : List Int) (hc : Coins c) (hl : c.length < 10) (hm : 1 ≤ m) (hm' : m ≤ c.length) (r : En) (s : G3) (h1 : r[1]? = some (.ob (.sh (.lst (c.map .int))))) (h2 : r[2]? = some (.ob (.sh (.int m)))) :
    mLst (mCons (mCall m_row_plan (mCons (mV 1) (mCons (mV 2) (mNil)))) (mCons (mCall m_left_in_row (mCons (mV 1) (mCons (mV 2) (mNil)))) (mCons (mCall m_class_sums (mCons (mV 1) (mCons (mV 2) (mNil)))) (mCons (mCall m_can_turn_row (mCons (mV 1) (mCons (mV 2) (mNil)))) (mNil))))) r s = .ok (.lst (oTo m c (c.length + 1 - m))) s :=
  x_lst (x_cons (call2s (x_v h1) (x_v h2) (row_plan_ok c m hc (by omega) hm hm' s)) (x_cons (call2s (x_v h1) (x_v h2) (left_ok c m hc (by omega) hm hm' s)) (x_cons (call2s (x_v h1) (x_v h2) (sums_ok c m hc hl hm hm' s)) (x_cons (call2s (x_v h1) (x_v h2) (can_ok c m hc (by omega) hm hm' s)) x_nil)))) (Nat.le_of_ble_eq_true rfl)
theorem again_ok (m : Nat) (c : List Int) (hc : Coins c) (hl : c.length < 10) (hm : 1 ≤ m) (hm' : m ≤ c.length) (r : En) (s : G3) (h1 : r[1]? = some (.ob (.sh (.lst (c.map .int))))) (h2 : r[2]? = some (.ob (.sh (.int m)))) :
    mLst (mCons (mCallK m_row_plan 2 [1, 0] (mCons (mV 2) (mCons (mV 1) (mNil)))) (mCons (mCallK m_left_in_row 2 [1, 0] (mCons (mV 2) (mCons (mV 1) (mNil)))) (mCons (mCallK m_class_sums 2 [1, 0] (mCons (mV 2) (mCons (mV 1) (mNil)))) (mCons (mCallK m_can_turn_row 2 [1, 0] (mCons (mV 2) (mCons (mV 1) (mNil)))) (mNil))))) r s = .ok (.lst (oTo m c (c.length + 1 - m))) s :=
  x_lst (x_cons (callK2 (x_v h2) (x_v h1) (row_plan_ok c m hc (by omega) hm hm' s)) (x_cons (callK2 (x_v h2) (x_v h1) (left_ok c m hc (by omega) hm hm' s)) (x_cons (callK2 (x_v h2) (x_v h1) (sums_ok c m hc hl hm hm' s)) (x_cons (callK2 (x_v h2) (x_v h1) (can_ok c m hc (by omega) hm hm' s)) x_nil)))) (Nat.le_of_ble_eq_true rfl)
theorem x_more {i j : Nat} {r r1 : En} {s : G3} {os : List O} (h : r[i]? = some (.ob (.lst os))) (c : (os.take 3).all O.canApp = true) (hj : j < r.length) (e : (r.set i .un).set j .un = r1) : mForMore i j r s = .ok (.nx r1) s := by
  simp only [mForMore, h, c, decide_eq_true hj, Bool.and_self, if_true, e]
theorem x_share {i : Nat} {m : En → M Fl} {r : En} {s : G3} {o : O} {res : Res Fl} (h : r[i]? = some (.ob o)) (k : m (r.set i (.ob (.sh o.d))) s = res) : mShare i m r s = res := by
  simp only [mShare, h, k]
theorem x_lenSet {ma : En → M O} {r : En} {s s1 : G3} {o : O} {l : List Int} (h : ma r s = .ok o s1) (e : o.d = .lst (l.map .int)) (hl : l.length ≤ 4000) : mLenSet ma r s = .ok (iO (metL [] l).length) s1 := by
  simp only [mLenSet, bnd, h, e, D.ints_map, if_pos hl]
def allC : Nat → List (List Int)
  | 0 => [[]]
  | n + 1 => (allC n).map (0 :: ·) ++ (allC n).map (1 :: ·)
def chk (n m : Nat) : Bool := (allC n).all fun c => (((metL [] (sums c m)).length : Int) == 1) == ((sw m c (n + 1 - m)).1.sum == 0)
theorem allC_mem : ∀ c : List Int, Coins c → c ∈ allC c.length
  | [], _ => List.mem_cons_self ..
  | x :: r, h => by
    have ih := allC_mem r fun y m => h y (List.mem_cons_of_mem _ m)
    show x :: r ∈ (allC r.length).map (0 :: ·) ++ (allC r.length).map (1 :: ·)
    rcases h x (List.mem_cons_self ..) with rfl | rfl
    · exact List.mem_append_left _ (List.mem_map.mpr ⟨_, ih, rfl⟩)
    · exact List.mem_append_right _ (List.mem_map.mpr ⟨_, ih, rfl⟩)
theorem test_ok (m : Nat) (c : List Int) (N : Nat) (hc : Coins c) (hl : c.length < 10) (hm : m ≤ c.length) (hN : c.length + 1 - m = N) (hk : chk c.length m = true) (r : En) (s : G3) (h7 : r[7]? = some (.ob (.sh (RW (pls m c N))))) (h8 : r[8]? = some (.ob (.sh (.lst ((sums c m).map .int)))))
    (h10 : r[10]? = some (.ob (.sh (dTo m c N)))) (h11 : r[11]? = some (.ob (.lst (oTo m c N)))) (h12 : r[12]? = some (.ob (.sh (dTo m c N)))) :
    mOrT (mBl (mEqR true (mRd (mReprR (mLstR (mConsR (mRd (mV 11)) (mConsR (mRd (mV 12)) (mNilR)))))) (mRd (mReprR (mLstR (mConsR (mRd (mV 10)) (mConsR (mRd (mV 10)) (mNilR)))))))) (mOrT (mBl (mOp (cmpI fun i j => decide (j < i)) (mCB oLen (mCons (mV 7) (mNil))) (mC (.int 1)))) (mBl (mEqR true (mRd (mEqR false (mRd (mLenSet (mV 8))) (mRd (mC (.int 1))))) (mRd (mEqR true (mRd (mV 7)) (mLstR (mNilR))))))) r s = .ok false s := by
  have hN' : N ≤ 10 := by omega
  have gT := dTo_gd m c N hN' hc (by omega) (by omega)
  have gT2 : Gd 3 (2 * 1645) (D.lst [dTo m c N, dTo m c N]) := Gd.lst (k := 2) (w := 1644) (n := 2) (fun d hd => by simp only [List.mem_cons, List.not_mem_nil, or_false, or_self] at hd; subst hd; exact gT) (by simp)
  have r1 : mRd (mReprR (mLstR (mConsR (mRd (mV 11)) (mConsR (mRd (mV 12)) (mNilR))))) r s = .ok (.str (D.shw (.lst [dTo m c N, dTo m c N]))) s :=
    x_rd (x_repr (x_lstR (x_consR (x_rd (x_v h11) (oTo_d m c N) gT.ok) (x_consR (x_rd (x_v h12) rfl gT.ok) x_nilR)) (Nat.le_of_ble_eq_true rfl)) (gT2.shb (by decide) (by decide))) rfl (D.fit_ok gT2.shw)
  have r2 : mRd (mReprR (mLstR (mConsR (mRd (mV 10)) (mConsR (mRd (mV 10)) (mNilR))))) r s = .ok (.str (D.shw (.lst [dTo m c N, dTo m c N]))) s :=
    x_rd (x_repr (x_lstR (x_consR (x_rd (x_v h10) rfl gT.ok) (x_consR (x_rd (x_v h10) rfl gT.ok) x_nilR)) (Nat.le_of_ble_eq_true rfl)) (gT2.shb (by decide) (by decide))) rfl (D.fit_ok gT2.shw)
  have e1 : (true != D.beq (.str (D.shw (.lst [dTo m c N, dTo m c N]))) (.str (D.shw (.lst [dTo m c N, dTo m c N])))) = false := by rw [D.beq_refl _ (D.fit_ok gT2.shw)]; rfl
  have e2 : mBl (mOp (cmpI fun i j => decide (j < i)) (mCB oLen (mCons (mV 7) (mNil))) (mC (.int 1))) r s = .ok false s := by
    have e3 : decide ((1 : Int) < ((pls m c N).map PL).length) = false := by
      unfold pls
      split <;> simp
    have := x_bl (x_op (f := cmpI fun i j => decide (j < i)) (mb := mC (.int 1)) (ob := iO 1) (x_len (x_v h7) (s1 := s) (l := (pls m c N).map PL) rfl) rfl (cmp_ii _ _ 1))
    rwa [e3] at this
  have e4 : mBl (mEqR true (mRd (mEqR false (mRd (mLenSet (mV 8))) (mRd (mC (.int 1))))) (mRd (mEqR true (mRd (mV 7)) (mLstR (mNilR))))) r s = .ok false s := by
    have hq := List.all_eq_true.mp hk c (allC_mem c hc)
    rw [hN] at hq
    have hq := eq_of_beq hq
    have hs : (sums c m).length ≤ 4000 := by unfold sums; simp; omega
    refine x_bl (x_eq (x_rd (x_eq (c := ((metL [] (sums c m)).length : Int) == 1) (x_rd (x_lenSet (x_v h8) rfl hs) rfl rfl) (x_rd (o := iO 1) rfl rfl rfl) rfl rfl (eq_ii _ 1)) rfl rfl) (x_rd (ne_ok m c N hN' r s h7) rfl rfl) rfl rfl ?_)
    rw [hq]
    show (true != (((sw m c N).1.sum == 0) == ((sw m c N).1.sum == 0))) = false
    cases ((sw m c N).1.sum == 0) <;> rfl
  exact x_orF (x_bl (x_eq r1 r2 gT2.shw gT2.shw e1)) (x_orF e2 e4)
theorem tail_ok (g x5 : Sl) (m : Nat) (c : List Int) (hc : Coins c) (hl : c.length < 10) (hm : 1 ≤ m) (hm' : m ≤ c.length) (hk : chk c.length m = true) (s : G3) :
    (mSeq (mBind (.sh 7) (mCall m_x_law_plans (mCons (mV 1) (mCons (mV 2) (mNil)))))
  (mSeq (mFor (mIr1 (mCons (mOp oAdd (mOp oSub (mCB oLen (mCons (mV 1) (mNil))) (mV 2)) (mC (.int 1))) (mNil))) (.sh 6) (mBind (.sh 4) (mIf (mBl (mEqR false (mRd (mIx (mV 4) (mV 6))) (mRd (mC (.int 1))))) (mCall m_x_law_turned (mCons (mV 4) (mCons (mLr2 (mV 6) (mOp oAdd (mV 6) (mV 2))) (mNil)))) (mS 4))))
  (mSeq (mBind (.ow 8) (mLst (mNil)))
  (mSeq (mFor (mIr1 (mCons (mV 2) (mNil))) (.sh 9) (mApp 8 (mOp oMod (mCB oInt (mCons (mCB (oOfInts fun l => some (iO l.sum)) (mCons (mLc (mIe (mCons (mS 1) (mNil))) (.tup [.sh 6, .sh 14]) (mBl (mEqR false (mRd (mOp oMod (mCB oInt (mCons (mOp oSub (mV 6) (mV 9)) (mNil))) (mV 2))) (mRd (mC (.int 0))))) (mS 14) [6, 14]) (mNil))) (mNil))) (mC (.int 2)))))
  (mSeq (mShare 8 (mBind (.sh 10) (mLst (mCons (mIf (mBl (mEqR true (mRd (mV 7)) (mLstR (mNilR)))) (mIxS (mV 7) (mC (.int 0))) (mC .non)) (mCons (mS 4) (mCons (mS 8) (mCons (mEqR true (mRd (mV 7)) (mLstR (mNilR))) (mNil))))))))
  (mSeq (mBind (.ow 11) (mLst (mCons (mCall m_row_plan (mCons (mV 1) (mCons (mV 2) (mNil)))) (mCons (mCall m_left_in_row (mCons (mV 1) (mCons (mV 2) (mNil)))) (mCons (mCall m_class_sums (mCons (mV 1) (mCons (mV 2) (mNil)))) (mCons (mCall m_can_turn_row (mCons (mV 1) (mCons (mV 2) (mNil)))) (mNil)))))))
  (mSeq (mBind (.sh 12) (mLst (mCons (mCallK m_row_plan 2 [1, 0] (mCons (mV 2) (mCons (mV 1) (mNil)))) (mCons (mCallK m_left_in_row 2 [1, 0] (mCons (mV 2) (mCons (mV 1) (mNil)))) (mCons (mCallK m_class_sums 2 [1, 0] (mCons (mV 2) (mCons (mV 1) (mNil)))) (mCons (mCallK m_can_turn_row 2 [1, 0] (mCons (mV 2) (mCons (mV 1) (mNil)))) (mNil)))))))
  (mSeq (mIfS (mOrT (mBl (mEqR true (mRd (mReprR (mLstR (mConsR (mRd (mV 11)) (mConsR (mRd (mV 12)) (mNilR)))))) (mRd (mReprR (mLstR (mConsR (mRd (mV 10)) (mConsR (mRd (mV 10)) (mNilR)))))))) (mOrT (mBl (mOp (cmpI fun i j => decide (j < i)) (mCB oLen (mCons (mV 7) (mNil))) (mC (.int 1)))) (mBl (mEqR true (mRd (mEqR false (mRd (mLenSet (mV 8))) (mRd (mC (.int 1))))) (mRd (mEqR true (mRd (mV 7)) (mLstR (mNilR)))))))) (mRet (mC (.bl false))) (mNil'))
  (mSeq (mForMore 11 13)
  (mRet (mEqR false (mRd (mReprR (mRd (mV 1)))) (mRd (mV 3))))))))))))) [g, .ob (.sh (.lst (c.map .int))), .ob (.sh (.int m)), .ob (.sh (.str (D.shw (.lst (c.map .int))))), .ob (.sh (.lst (c.map .int))), x5, .un, .un, .un, .un, .un, .un, .un, .un, .un] s = .ok (.rt (bO true)) s := by
  generalize hN : c.length + 1 - m = N
  have hN' : N ≤ 10 := by omega
  have hP := plans_eq m c hc hm N (by omega)
  obtain ⟨x6, l1⟩ := forL_rng (s := s) (b := .sh 6) (mb := rA) (fun k x => [g, .ob (.sh (.lst (c.map .int))), .ob (.sh (.int m)), .ob (.sh (.str (D.shw (.lst (c.map .int))))), .ob (.sh (.lst ((sw m c k).1.map .int))), x5, x, .ob (.sh (RW (pls m c N))), .un, .un, .un, .un, .un, .un, .un]) N (fun k x _ => rfl) (fun k hk => by
    obtain ⟨_, i2, i3⟩ := sw_inv m c hc k
    have := rA_ok g (.ob (.sh (.lst (c.map .int)))) (.ob (.sh (.str (D.shw (.lst (c.map .int)))))) x5 [.ob (.sh (RW (pls m c N))), .un, .un, .un, .un, .un, .un, .un] m k (sw m c k).1 (by omega) (by omega) (by omega) s
    rw [sstep_1 m _ (sw m c k).2, ← sw_succ] at this
    exact this) .un
  obtain ⟨x9, l2⟩ := forL_rng (s := s) (b := .sh 9) (mb := rB) (fun k x => [g, .ob (.sh (.lst (c.map .int))), .ob (.sh (.int m)), .ob (.sh (.str (D.shw (.lst (c.map .int))))), .ob (.sh (.lst ((sw m c N).1.map .int))), x5, x6, .ob (.sh (RW (pls m c N))), .ob (LI ((List.range k).map (dsum c m))), x, .un, .un, .un, .un, .un]) m (fun k x _ => rfl) (fun k hk => by
    have := rB_ok g (.ob (.sh (.str (D.shw (.lst (c.map .int)))))) (.ob (.sh (.lst ((sw m c N).1.map .int)))) x5 x6 (.ob (.sh (RW (pls m c N)))) .un .un .un .un .un c ((List.range k).map (dsum c m)) m k hm (by omega) (by simp; omega) s
    rw [show (List.range (k + 1)).map (dsum c m) = (List.range k).map (dsum c m) ++ [dsum c m k] by rw [List.range_succ, List.map_append]; rfl]
    exact this) .un
  have gT := dTo_gd m c N hN' hc (by omega) (by omega)
  have gTT : ∀ d, d = D.lst [dTo m c N, dTo m c N] → Gd 3 (2 * 1645) d := fun d e => by
    subst e
    exact Gd.lst (k := 2) (w := 1644) (n := 2) (fun d hd => by simp only [List.mem_cons, List.not_mem_nil, or_false, or_self] at hd; subst hd; exact gT) (by simp)
  have gT2 := gTT _ rfl
  have gC := face_gd c hc (by omega)
  -- plans
  refine x_seq (r1 := [g, .ob (.sh (.lst (c.map .int))), .ob (.sh (.int m)), .ob (.sh (.str (D.shw (.lst (c.map .int))))), .ob (.sh (.lst ((sw m c 0).1.map .int))), x5, .un, .ob (.sh (RW (pls m c N))), .un, .un, .un, .un, .un, .un, .un]) (x_sh (call2s (x_v rfl) (x_v rfl) (plans_ok c m hl hm' hm s)) (by rw [lst_d, hN, hP]; rfl)) ?_
  refine x_seq (x_for (by rw [← hN]; exact size1_ok c m (by omega) hm' _ rfl rfl s) l1) ?_
  refine x_seq (x_ow (x_lst x_nil (by decide)) rfl) ?_
  refine x_seq (x_for (x_r1 (k := m) (x_cons (x_v rfl) x_nil) (inR_small _ (by omega) (by omega))) l2) ?_
  have hS : (O.lst (((List.range m).map (dsum c m)).map .int |>.map .sh)).d = .lst ((sums c m).map .int) := lst_d _
  refine x_seq (r1 := [g, .ob (.sh (.lst (c.map .int))), .ob (.sh (.int m)), .ob (.sh (.str (D.shw (.lst (c.map .int))))), .ob (.sh (.lst ((sw m c N).1.map .int))), x5, x6, .ob (.sh (RW (pls m c N))), .ob (.sh (.lst ((sums c m).map .int))), x9, .ob (.sh (dTo m c N)), .un, .un, .un, .un])
    (x_share (o := LI ((List.range m).map (dsum c m))) rfl (by rw [LI_d]; exact x_sh (due_ok m c N hN' _ s rfl rfl rfl) (by rw [lst_d]; rfl))) ?_
  have tO := told_ok m c hc hl hm hm' [g, .ob (.sh (.lst (c.map .int))), .ob (.sh (.int m)), .ob (.sh (.str (D.shw (.lst (c.map .int))))), .ob (.sh (.lst ((sw m c N).1.map .int))), x5, x6, .ob (.sh (RW (pls m c N))), .ob (.sh (.lst ((sums c m).map .int))), x9, .ob (.sh (dTo m c N)), .un, .un, .un, .un] s rfl rfl
  rw [hN] at tO
  refine x_seq (x_ow tO rfl) ?_
  have aO := again_ok m c hc hl hm hm' [g, .ob (.sh (.lst (c.map .int))), .ob (.sh (.int m)), .ob (.sh (.str (D.shw (.lst (c.map .int))))), .ob (.sh (.lst ((sw m c N).1.map .int))), x5, x6, .ob (.sh (RW (pls m c N))), .ob (.sh (.lst ((sums c m).map .int))), x9, .ob (.sh (dTo m c N)), .ob (.lst (oTo m c N)), .un, .un, .un] s rfl rfl
  rw [hN] at aO
  refine x_seq (r1 := [g, .ob (.sh (.lst (c.map .int))), .ob (.sh (.int m)), .ob (.sh (.str (D.shw (.lst (c.map .int))))), .ob (.sh (.lst ((sw m c N).1.map .int))), x5, x6, .ob (.sh (RW (pls m c N))), .ob (.sh (.lst ((sums c m).map .int))), x9, .ob (.sh (dTo m c N)), .ob (.lst (oTo m c N)), .ob (.sh (dTo m c N)), .un, .un]) (x_sh aO (by rw [oTo_d]; rfl)) ?_
  refine x_seq (s1 := s) (x_ifF (test_ok m c N hc hl hm' hN hk _ s rfl rfl rfl rfl rfl) rfl) ?_
  refine x_seq (x_more rfl (oTo_can m c N hc (by omega) hN' (by omega)) (Nat.le_of_ble_eq_true rfl) rfl) (x_ret ?_)
  refine x_eq (x_rd (x_repr (x_rd (x_v rfl) rfl gC.ok) (gC.shb (by decide) (by decide))) rfl (D.fit_ok gC.shw)) (x_rd (x_v rfl) rfl (D.fit_ok gC.shw)) gC.shw gC.shw ?_
  simp only [sh_d]
  rw [D.beq_refl _ (D.fit_ok gC.shw)]
  rfl
/-! the draws -/
theorem coins_ok (s : G3) (n : Int) (hs : St n s) (hn : n ≤ 900000) : ∃ c s', m_x_law_coins [.gen, .int 9] s = .ok (LI c) s' ∧ Coins c ∧ 1 ≤ c.length ∧ c.length ≤ 9 ∧ St (n + 10) s' := by
  obtain ⟨d, s1, e1, ⟨h1, h2⟩, h3⟩ := random_small 9 n s (by decide) (by decide) (by omega) hs
  obtain ⟨out, s2, e2, h4, h5, h6⟩ := lcL_each (b := .sh 2) (me := mCall m_x_law_random (mCons (mV 0) (mCons (mC (.int 2)) (mNil)))) (r0 := [.ob (.sh .gen), .ob (.sh (.int 9)), .un]) (fun d => ∃ x, d = .int x ∧ Face x) (rngF 0 (1 + d).toNat) s1 (n + 1) h3 (by rw [rngF_len]; omega) (fun d hd => ⟨[.ob (.sh .gen), .ob (.sh (.int 9)), .ob (.sh d)], rfl, fun s n hs hn => by
    obtain ⟨x, s', e, ⟨x1, x2⟩, x3⟩ := random_small 2 n s (by decide) (by decide) hn hs
    exact ⟨iO x, s', call2s (x_v rfl) rfl e, x3, x, rfl, by unfold Face; omega⟩⟩)
  have ex : ∀ out : List D, (∀ d ∈ out, ∃ x, d = D.int x ∧ Face x) → ∃ c : List Int, out = c.map .int ∧ Coins c := by
    intro out
    induction out with
    | nil => exact fun _ => ⟨[], rfl, fun _ m => nomatch m⟩
    | cons d r ih =>
      intro h
      obtain ⟨x, rfl, hx⟩ := h d (List.mem_cons_self ..)
      obtain ⟨c, rfl, hc⟩ := ih fun d m => h d (List.mem_cons_of_mem _ m)
      exact ⟨x :: c, rfl, fun y hy => by exact (List.mem_cons.mp hy).elim (fun e => e ▸ hx) (fun m => hc y m)⟩
  obtain ⟨c, rfl, hc⟩ := ex out h5
  rw [rngF_len, List.length_map] at h4
  rw [rngF_len] at h6
  refine ⟨c, s2, ?_, hc, by omega, by omega, h6.mono (by omega)⟩
  exact x_fun rfl rfl (x_ret (x_lc (x_r1 (k := 1 + d) (x_cons (x_opi (x := 1) (y := d) rfl (call2s (x_v rfl) (x_v rfl) e1) rfl) x_nil) (inR_small _ (by omega) (by omega))) rfl e2 (by rw [List.length_map]; omega)))
theorem coins_rep (n : Nat) : Coins (List.replicate n 0) := fun x hx => .inl (List.eq_of_mem_replicate hx)
end K64
namespace K64
open PySem PySem.Spec PyProof.Rows L2 Lone
theorem x_mulL {ma mb : En → M O} {r : En} {s s1 s2 : G3} {n : Nat} (ha : ma r s = .ok (.lst [iO 0]) s1) (hb : mb r s1 = .ok (iO n) s2) (hn : n ≤ 1000) : mOp oMul ma mb r s = .ok (LI (List.replicate n 0)) s2 := x_op ha hb (rep_ok 0 n hn)
theorem cnt (c : List Int) {ma : En → M O} {r : En} {s s1 : G3} (h : ma r s = .ok (.sh (.lst (c.map .int))) s1) : mCB oLen (mCons ma mNil) r s = .ok (iO c.length) s1 := (x_len h rfl).trans (by rw [List.length_map])
theorem nat_of {d : Int} (h : 0 ≤ d) : ∃ n : Nat, d = n := ⟨d.toNat, by omega⟩
/-- the plan that is drawn -/
theorem draw_ok (c : List Int) (m : Nat) (hl : c.length ≤ 9) (hm : m ≤ c.length) (g1 K L S Q : Sl) (hh : g1 = .ob (.sh (.lst (c.map .int)))) (R : En) (hR : R = [.un, .un, .un, .un, .un, .un, .un, .un, .un]) (s : G3) (n : Int) (hs : St n s) (hn : n ≤ 950000) :
    ∃ (p : List Nat) (s' : G3), mLc (mIr1 (mCons (mOp oAdd (mOp oSub (mCB oLen (mCons (mV 1) (mNil))) (mV 2)) (mC (.int 1))) (mNil))) (.sh 6) (mBl (mEqR false (mRd (mCall m_x_law_random (mCons (mV 0) (mCons (mC (.int 2)) (mNil))))) (mRd (mC (.int 0))))) (mS 6) [6] (.ob (.sh .gen) :: g1 :: .ob (.sh (.int m)) :: K :: L :: S :: R) s = .ok (.lst ((p.map fun a : Nat => D.int (a : Int)).map .sh)) s' ∧ (∀ a ∈ p, a ≤ 1000) ∧ St (n + 10) s' := by
  subst hh hR
  obtain ⟨out, s2, e2, h4, h5, h6⟩ := lcL_any (b := .sh 6) (mt := mBl (mEqR false (mRd (mCall m_x_law_random (mCons (mV 0) (mCons (mC (.int 2)) (mNil))))) (mRd (mC (.int 0))))) (me := mS 6) (r0 := [.ob (.sh .gen), .ob (.sh (.lst (c.map .int))), .ob (.sh (.int m)), K, L, S, .un, .un, .un, .un, .un, .un, .un, .un, .un]) (fun d => ∃ a : Nat, d = .int (a : Int) ∧ a ≤ 1000) (rngF 0 (c.length + 1 - m)) s n hs (by rw [rngF_len]; omega) (fun d hd => ⟨[.ob (.sh .gen), .ob (.sh (.lst (c.map .int))), .ob (.sh (.int m)), K, L, S, .ob (.sh d), .un, .un, .un, .un, .un, .un, .un, .un], rfl, fun s n hs hn => by
    obtain ⟨x, s', e, ⟨x1, x2⟩, x3⟩ := random_small 2 n s (by decide) (by decide) hn hs
    refine ⟨x == 0, s', x_bl (x_eq (x_rd (call2s (x_v rfl) rfl e) rfl rfl) (x_rd (o := iO 0) rfl rfl rfl) rfl rfl (eq_ii _ 0)), x3, fun _ => ⟨.sh d, x_s rfl, ?_⟩⟩
    rw [rng_nat] at hd
    obtain ⟨a, ha, rfl⟩ := List.mem_map.mp hd
    have := List.mem_range.mp ha
    exact ⟨a, rfl, by omega⟩⟩)
  have ex : ∀ out : List D, (∀ d ∈ out, ∃ a : Nat, d = D.int (a : Int) ∧ a ≤ 1000) → ∃ p : List Nat, out = (p.map fun a : Nat => D.int (a : Int)) ∧ ∀ a ∈ p, a ≤ 1000 := by
    intro out
    induction out with
    | nil => exact fun _ => ⟨[], rfl, fun _ m => nomatch m⟩
    | cons d r ih =>
      intro h
      obtain ⟨x, rfl, hx⟩ := h d (List.mem_cons_self ..)
      obtain ⟨c, rfl, hc⟩ := ih fun d m => h d (List.mem_cons_of_mem _ m)
      exact ⟨x :: c, rfl, fun y hy => (List.mem_cons.mp hy).elim (fun e => e ▸ hx) (fun m => hc y m)⟩
  obtain ⟨p, rfl, hp⟩ := ex out h5
  rw [rngF_len] at h6 h4
  exact ⟨p, s2, x_lc (size1_ok c m (by omega) hm _ rfl rfl s) rfl e2 (by omega), hp, h6.mono (by omega)⟩
theorem right_ok (hk : ∀ n m, n ≤ 9 → 1 ≤ m → m ≤ n → chk n m = true) (s : G3) (n : Int) (hs : St n s) (hn : n ≤ 900000) : ∃ s', m_x_law_right [.gen] s = .ok (bO true) s' ∧ St (n + 40) s' := by
  obtain ⟨c, s1, e1, hc, h1, h9, hs1⟩ := coins_ok s n hs hn
  obtain ⟨d, s2, e2, ⟨d0, d1⟩, hs2⟩ := random_small c.length (n + 10) s1 (by omega) (by omega) (by omega) hs1
  obtain ⟨m', rfl⟩ := nat_of d0
  obtain ⟨x, s3, e3, _, hs3⟩ := random_small 2 (n + 11) s2 (by decide) (by decide) (by omega) (hs2.mono (by omega))
  have gC : ∀ c, Coins c → c.length ≤ 9 → Gd 1 410 (.lst (c.map .int)) := fun c hc h => face_gd c hc (by omega)
  have em : (1 : Int) + (m' : Int) = ((m' + 1 : Nat) : Int) := by push_cast; omega
  have tp : mTup (mCons (mOp oAdd (mC (.int 1)) (mCall m_x_law_random (mCons (mV 0) (mCons (mCB oLen (mCons (mV 1) (mNil))) (mNil))))) (mCons (mReprR (mRd (mV 1))) (mCons (mCB oList (mCons (mV 1) (mNil))) (mNil)))) [.ob (.sh .gen), .ob (.sh (.lst (c.map .int))), .un, .un, .un, .un, .un, .un, .un, .un, .un, .un, .un, .un, .un] s1 =
      .ok (.tup [iO ((m' + 1 : Nat) : Int), .sh (.str (D.shw (.lst (c.map .int)))), LI c]) s2 := by
    have t1 : mOp oAdd (mC (.int 1)) (mCall m_x_law_random (mCons (mV 0) (mCons (mCB oLen (mCons (mV 1) (mNil))) (mNil)))) [.ob (.sh .gen), .ob (.sh (.lst (c.map .int))), .un, .un, .un, .un, .un, .un, .un, .un, .un, .un, .un, .un, .un] s1 = .ok (iO ((m' + 1 : Nat) : Int)) s2 := by
      rw [← em]
      exact x_opi (x := 1) (y := m') rfl (call2s (x_v rfl) (cnt c (x_v rfl)) e2) rfl
    have t2 : mReprR (mRd (mV 1)) [.ob (.sh .gen), .ob (.sh (.lst (c.map .int))), .un, .un, .un, .un, .un, .un, .un, .un, .un, .un, .un, .un, .un] s2 = .ok (.sh (.str (D.shw (.lst (c.map .int))))) s2 := x_repr (x_rd (x_v rfl) rfl (gC c hc h9).ok) ((gC c hc h9).shb (by decide) (by decide))
    have t3 : mCB oList (mCons (mV 1) mNil) [.ob (.sh .gen), .ob (.sh (.lst (c.map .int))), .un, .un, .un, .un, .un, .un, .un, .un, .un, .un, .un, .un, .un] s2 = .ok (LI c) s2 := x_list (x_v rfl) rfl
    exact x_tup (x_cons t1 (x_cons t2 (x_cons t3 x_nil))) (Nat.le_of_ble_eq_true rfl)
  have hb : bindB (.tup [.sh 2, .sh 3, .sh 4]) (.tup [iO ((m' + 1 : Nat) : Int), .sh (.str (D.shw (.lst (c.map .int)))), LI c]) [.ob (.sh .gen), .ob (.sh (.lst (c.map .int))), .un, .un, .un, .un, .un, .un, .un, .un, .un, .un, .un, .un, .un] = some [.ob (.sh .gen), .ob (.sh (.lst (c.map .int))), .ob (.sh (.int ((m' + 1 : Nat) : Int))), .ob (.sh (.str (D.shw (.lst (c.map .int))))), .ob (.sh (.lst (c.map .int))), .un, .un, .un, .un, .un, .un, .un, .un, .un, .un] := by
    rw [← LI_d c]; rfl
  have start : ∀ res, (mSeq (mIfS (mBl (mEqR false (mRd (mCall m_x_law_random (mCons (mV 0) (mCons (mC (.int 2)) (mNil))))) (mRd (mC (.int 0))))) (mSeq (mBind (.sh 5) (mOp oMul (mLst (mCons (mC (.int 0)) (mNil))) (mCB oLen (mCons (mV 1) (mNil)))))
  (mSeq (mBind (.sh 1) (mCall m_x_law_behind (mCons (mV 5) (mCons (mV 2) (mCons (mSh (mLc (mIr1 (mCons (mOp oAdd (mOp oSub (mCB oLen (mCons (mV 1) (mNil))) (mV 2)) (mC (.int 1))) (mNil))) (.sh 6) (mBl (mEqR false (mRd (mCall m_x_law_random (mCons (mV 0) (mCons (mC (.int 2)) (mNil))))) (mRd (mC (.int 0))))) (mS 6) [6])) (mNil))))))
  (mPar [.sh 3, .sh 4] (mCons (mReprR (mRd (mV 1))) (mCons (mCB oList (mCons (mV 1) (mNil))) (mNil)))))) (mNil'))
  (mSeq (mBind (.sh 7) (mCall m_x_law_plans (mCons (mV 1) (mCons (mV 2) (mNil)))))
  (mSeq (mFor (mIr1 (mCons (mOp oAdd (mOp oSub (mCB oLen (mCons (mV 1) (mNil))) (mV 2)) (mC (.int 1))) (mNil))) (.sh 6) (mBind (.sh 4) (mIf (mBl (mEqR false (mRd (mIx (mV 4) (mV 6))) (mRd (mC (.int 1))))) (mCall m_x_law_turned (mCons (mV 4) (mCons (mLr2 (mV 6) (mOp oAdd (mV 6) (mV 2))) (mNil)))) (mS 4))))
  (mSeq (mBind (.ow 8) (mLst (mNil)))
  (mSeq (mFor (mIr1 (mCons (mV 2) (mNil))) (.sh 9) (mApp 8 (mOp oMod (mCB oInt (mCons (mCB (oOfInts fun l => some (iO l.sum)) (mCons (mLc (mIe (mCons (mS 1) (mNil))) (.tup [.sh 6, .sh 14]) (mBl (mEqR false (mRd (mOp oMod (mCB oInt (mCons (mOp oSub (mV 6) (mV 9)) (mNil))) (mV 2))) (mRd (mC (.int 0))))) (mS 14) [6, 14]) (mNil))) (mNil))) (mC (.int 2)))))
  (mSeq (mShare 8 (mBind (.sh 10) (mLst (mCons (mIf (mBl (mEqR true (mRd (mV 7)) (mLstR (mNilR)))) (mIxS (mV 7) (mC (.int 0))) (mC .non)) (mCons (mS 4) (mCons (mS 8) (mCons (mEqR true (mRd (mV 7)) (mLstR (mNilR))) (mNil))))))))
  (mSeq (mBind (.ow 11) (mLst (mCons (mCall m_row_plan (mCons (mV 1) (mCons (mV 2) (mNil)))) (mCons (mCall m_left_in_row (mCons (mV 1) (mCons (mV 2) (mNil)))) (mCons (mCall m_class_sums (mCons (mV 1) (mCons (mV 2) (mNil)))) (mCons (mCall m_can_turn_row (mCons (mV 1) (mCons (mV 2) (mNil)))) (mNil)))))))
  (mSeq (mBind (.sh 12) (mLst (mCons (mCallK m_row_plan 2 [1, 0] (mCons (mV 2) (mCons (mV 1) (mNil)))) (mCons (mCallK m_left_in_row 2 [1, 0] (mCons (mV 2) (mCons (mV 1) (mNil)))) (mCons (mCallK m_class_sums 2 [1, 0] (mCons (mV 2) (mCons (mV 1) (mNil)))) (mCons (mCallK m_can_turn_row 2 [1, 0] (mCons (mV 2) (mCons (mV 1) (mNil)))) (mNil)))))))
  (mSeq (mIfS (mOrT (mBl (mEqR true (mRd (mReprR (mLstR (mConsR (mRd (mV 11)) (mConsR (mRd (mV 12)) (mNilR)))))) (mRd (mReprR (mLstR (mConsR (mRd (mV 10)) (mConsR (mRd (mV 10)) (mNilR)))))))) (mOrT (mBl (mOp (cmpI fun i j => decide (j < i)) (mCB oLen (mCons (mV 7) (mNil))) (mC (.int 1)))) (mBl (mEqR true (mRd (mEqR false (mRd (mLenSet (mV 8))) (mRd (mC (.int 1))))) (mRd (mEqR true (mRd (mV 7)) (mLstR (mNilR)))))))) (mRet (mC (.bl false))) (mNil'))
  (mSeq (mForMore 11 13)
  (mRet (mEqR false (mRd (mReprR (mRd (mV 1)))) (mRd (mV 3)))))))))))))) [.ob (.sh .gen), .ob (.sh (.lst (c.map .int))), .ob (.sh (.int ((m' + 1 : Nat) : Int))), .ob (.sh (.str (D.shw (.lst (c.map .int))))), .ob (.sh (.lst (c.map .int))), .un, .un, .un, .un, .un, .un, .un, .un, .un, .un] s2 = .ok (.rt (bO true)) res → m_x_law_right [.gen] s = .ok (bO true) res := fun res h =>
    x_fun rfl rfl (x_seq (r1 := [.ob (.sh .gen), .ob (.sh (.lst (c.map .int))), .un, .un, .un, .un, .un, .un, .un, .un, .un, .un, .un, .un, .un]) (x_sh (call2s (x_v rfl) rfl e1) (by rw [LI_d]; rfl)) (x_seq (x_bd tp hb) h))
  have tst := x_bl (x_eq (neg := false) (ma := mRd (mCall m_x_law_random (mCons (mV 0) (mCons (mC (.int 2)) (mNil))))) (mb := mRd (mC (.int 0))) (r := [.ob (.sh .gen), .ob (.sh (.lst (c.map .int))), .ob (.sh (.int ((m' + 1 : Nat) : Int))), .ob (.sh (.str (D.shw (.lst (c.map .int))))), .ob (.sh (.lst (c.map .int))), .un, .un, .un, .un, .un, .un, .un, .un, .un, .un]) (x_rd (call2s (x_v rfl) rfl e3) rfl rfl) (x_rd (o := iO 0) rfl rfl rfl) rfl rfl (eq_ii _ 0))
  by_cases g : x = 0
  · subst g
    obtain ⟨p, s4, e4, hp, hs4⟩ := draw_ok c (m' + 1) h9 (by omega) _ (.ob (.sh (.str (D.shw (.lst (c.map .int)))))) (.ob (.sh (.lst (c.map .int)))) (.ob (.sh (.lst ((List.replicate c.length (0 : Int)).map .int)))) .un rfl _ rfl s3 (n + 12) (hs3.mono (by omega)) (by omega)
    have hz : Coins (bh (m' + 1) (List.replicate c.length 0) p) := bh_face _ _ _ (coins_rep _)
    have lz : (bh (m' + 1) (List.replicate c.length 0) p).length = c.length := by rw [bh_len, List.length_replicate]
    have b := behind_ok (List.replicate c.length 0) (m' + 1) p (by rw [List.length_replicate]; omega) (by omega) hp s4
    refine ⟨s4, start s4 ?_, hs4.mono (by omega)⟩
    refine x_seq (x_ifT tst ?_) (tail_ok (.ob (.sh .gen)) (.ob (.sh (.lst ((List.replicate c.length (0 : Int)).map .int)))) (m' + 1) (bh (m' + 1) (List.replicate c.length 0) p) hz (by omega) (by omega) (by omega) (by rw [lz]; exact hk _ _ (by omega) (by omega) (by omega)) s4)
    refine x_seq (r1 := [.ob (.sh .gen), .ob (.sh (.lst (c.map .int))), .ob (.sh (.int ((m' + 1 : Nat) : Int))), .ob (.sh (.str (D.shw (.lst (c.map .int))))), .ob (.sh (.lst (c.map .int))), .ob (.sh (.lst ((List.replicate c.length (0 : Int)).map .int))), .un, .un, .un, .un, .un, .un, .un, .un, .un]) (x_sh (x_mulL (x_lst (x_cons rfl x_nil) (Nat.le_of_ble_eq_true rfl)) (cnt c (x_v rfl)) (by omega)) (by rw [LI_d]; rfl)) ?_
    have b' : mCall m_x_law_behind (mCons (mV 5) (mCons (mV 2) (mCons (mSh (mLc (mIr1 (mCons (mOp oAdd (mOp oSub (mCB oLen (mCons (mV 1) (mNil))) (mV 2)) (mC (.int 1))) (mNil))) (.sh 6) (mBl (mEqR false (mRd (mCall m_x_law_random (mCons (mV 0) (mCons (mC (.int 2)) (mNil))))) (mRd (mC (.int 0))))) (mS 6) [6])) (mNil)))) [.ob (.sh .gen), .ob (.sh (.lst (c.map .int))), .ob (.sh (.int ((m' + 1 : Nat) : Int))), .ob (.sh (.str (D.shw (.lst (c.map .int))))), .ob (.sh (.lst (c.map .int))), .ob (.sh (.lst ((List.replicate c.length (0 : Int)).map .int))), .un, .un, .un, .un, .un, .un, .un, .un, .un] s3 = .ok (.sh (.lst ((bh (m' + 1) (List.replicate c.length 0) p).map .int))) s4 := by
      refine call3s (x_v rfl) (x_v rfl) (x_mSh e4) ?_
      rw [lst_d]
      exact b
    refine x_seq (r1 := [.ob (.sh .gen), .ob (.sh (.lst ((bh (m' + 1) (List.replicate c.length 0) p).map .int))), .ob (.sh (.int ((m' + 1 : Nat) : Int))), .ob (.sh (.str (D.shw (.lst (c.map .int))))), .ob (.sh (.lst (c.map .int))), .ob (.sh (.lst ((List.replicate c.length (0 : Int)).map .int))), .un, .un, .un, .un, .un, .un, .un, .un, .un]) (x_sh b' rfl) ?_
    have gz := gC _ hz (by omega)
    refine x_par (x_cons (x_repr (x_rd (x_v rfl) rfl gz.ok) (gz.shb (by decide) (by decide))) (x_cons (o := LI (bh (m' + 1) (List.replicate c.length 0) p)) (x_list (x_v rfl) rfl) x_nil)) ?_
    rw [← LI_d (bh (m' + 1) (List.replicate c.length 0) p)]; rfl
  · rw [show (x == 0) = false by simpa using g] at tst
    exact ⟨s3, start s3 (x_seq (x_ifF tst rfl) (tail_ok (.ob (.sh .gen)) .un (m' + 1) c hc (by omega) (by omega) (by omega) (hk _ _ h9 (by omega) (by omega)) s3)), hs3.mono (by omega)⟩
/-! how many can be turned -/
def cs : Nat → List (List Int)
  | 0 => [[]]
  | n + 1 => (cs n).map (· ++ [0]) ++ (cs n).map (· ++ [1])
theorem cs_in (n : Nat) : ∀ c ∈ cs n, Coins c ∧ c.length = n := by
  induction n with
  | zero => intro c hc; simp [cs] at hc; subst hc; exact ⟨(fun _ m => nomatch m), rfl⟩
  | succ n ih =>
    intro c hc
    have ap : ∀ x, Face x → ∀ c ∈ (cs n).map (· ++ [x]), Coins c ∧ c.length = n + 1 := fun x hx c hc => by
      obtain ⟨d, hd, rfl⟩ := List.mem_map.mp hc
      obtain ⟨i1, i2⟩ := ih d hd
      refine ⟨fun y hy => ?_, by simp [i2]⟩
      rcases List.mem_append.mp hy with hy | hy
      · exact i1 y hy
      · simp at hy; subst hy; exact hx
    rcases List.mem_append.mp hc with h | h
    · exact ap 0 (.inl rfl) c h
    · exact ap 1 (.inr rfl) c h
theorem cs_len (n : Nat) : (cs n).length = 2 ^ n := by
  induction n with
  | zero => rfl
  | succ n ih => simp only [cs, List.length_append, List.length_map, ih]; omega
abbrev CL (c : List Int) : D := .lst (c.map .int)
def pw : Nat → Int
  | 0 => 1
  | n + 1 => 2 * pw n
def chk2 (n m : Nat) : Bool := (((cs n).filter fun c => (sw m c (n + 1 - m)).1.sum == 0).length : Int) == pw (n + 1 - m)
theorem chk2_all : ((List.range 8).all fun n => (List.range n).all fun m => chk2 n (m + 1)) = true := by decide +kernel
theorem counts_ok (s : G3) (n : Int) (hs : St n s) (hn : n ≤ 900000) : ∃ s', m_x_law_counts_right [.gen] s = .ok (bO true) s' ∧ St (n + 2) s' := by
  obtain ⟨z, s1, e1, ⟨z0, z1⟩, h1⟩ := random_small 7 n s (by decide) (by decide) (by omega) hs
  obtain ⟨z, rfl⟩ := nat_of z0
  obtain ⟨m, s2, e2, ⟨m0, m1⟩, h2⟩ := random_small ((z + 1 : Nat) : Int) (n + 1) s1 (by omega) (by omega) (by omega) h1
  obtain ⟨m, rfl⟩ := nat_of m0
  have ck : chk2 (z + 1) (m + 1) = true := List.all_eq_true.mp (List.all_eq_true.mp chk2_all (z + 1) (List.mem_range.mpr (by omega))) m (List.mem_range.mpr (by omega))
  have two : ∀ k, k ≤ 7 → 2 ^ k ≤ 128 := fun k h => Nat.le_trans (Nat.pow_le_pow_right (n := 2) (by decide) h) (by decide)
  refine ⟨s2, ?_, h2.mono (by omega)⟩
  have ap : ∀ (x : Int) (k : Nat) (A B C F : Sl) (r5 r6 : Sl), k ≤ 7 → mLc (mIl (mS 3)) (.sh 7) (mYes) (mOp oAdd (mV 7) (mLst (mCons (mC (.int x)) (mNil)))) [7] [A, B, C, .ob (.sh (.lst ((cs k).map CL))), F, r5, r6, .un] s2 = .ok (.lst ((((cs k).map (· ++ [x])).map CL).map .sh)) s2 := by
    intro x k A B C F r5 r6 hk
    have h3 := two k hk
    have h4 := cs_len k
    rw [List.map_map (g := CL)]
    refine x_lc (x_il (x_s rfl) rfl) rfl (lcM_all CL _ _ fun c hc => ?_) (by rw [List.length_map]; omega)
    have := (cs_in k c hc).2
    refine ⟨_, .lst ((c.map D.int ++ [D.int x]).map .sh), rfl, x_op (x_v rfl) (x_lst (x_cons rfl x_nil) (Nat.le_of_ble_eq_true rfl)) (oAdd_ll rfl rfl rfl (by simp; omega)), ?_⟩
    rw [lst_d]
    show D.lst _ = D.lst _
    rw [List.map_append]
    rfl
  obtain ⟨x4, l1⟩ := forL_rng (s := s2) (b := .sh 4) (mb := (mBind (.sh 3) (mOp oAdd (mLc (mIl (mS 3)) (.sh 7) (mYes) (mOp oAdd (mV 7) (mLst (mCons (mC (.int 0)) (mNil)))) [7]) (mLc (mIl (mS 3)) (.sh 7) (mYes) (mOp oAdd (mV 7) (mLst (mCons (mC (.int 1)) (mNil)))) [7])))) (fun k x => [.ob (.sh .gen), .ob (.sh (.int ((z + 1 : Nat) : Int))), .ob (.sh (.int ((m + 1 : Nat) : Int))), .ob (.sh (.lst ((cs k).map CL))), x, .un, .un, .un]) (z + 1) (fun k x _ => rfl) (fun k hk => by
    have h3 := two k (by omega)
    have h4 := cs_len k
    refine x_sh (x_op (ap 0 k _ _ _ _ _ _ (by omega)) (ap 1 k _ _ _ _ _ _ (by omega)) (oAdd_ll (lst_items _) (lst_items _) rfl (by simp only [List.length_map]; omega))) ?_
    rw [lst_d, ← List.map_append]
    rfl) .un
  have lenf : (((cs (z + 1)).filter fun c => (sw (m + 1) c (z + 1 + 1 - (m + 1))).1.sum == 0).map CL).length ≤ 100000 := by
    have h1 := List.length_filter_le (fun c => (sw (m + 1) c (z + 1 + 1 - (m + 1))).1.sum == 0) (cs (z + 1))
    have h2 := two (z + 1) (by omega)
    rw [cs_len] at h1
    rw [List.length_map]
    omega
  have good : mLc (mIl (mS 3)) (.sh 7) (mBl (mCall m_can_turn_row (mCons (mV 7) (mCons (mV 2) (mNil))))) (mS 7) [7] [.ob (.sh .gen), .ob (.sh (.int ((z + 1 : Nat) : Int))), .ob (.sh (.int ((m + 1 : Nat) : Int))), .ob (.sh (.lst ((cs (z + 1)).map CL))), x4, .un, .un, .un] s2 =
      .ok (.lst ((((cs (z + 1)).filter fun c => (sw (m + 1) c (z + 1 + 1 - (m + 1))).1.sum == 0).map CL).map .sh)) s2 :=
    x_lc (x_il (x_s rfl) rfl) rfl (lcM_run CL (fun c => (sw (m + 1) c (z + 1 + 1 - (m + 1))).1.sum == 0) CL _ fun c hc => by
      obtain ⟨h1, h2⟩ := cs_in (z + 1) c hc
      refine ⟨_, rfl, x_bl ?_, fun _ => ⟨_, x_s rfl, rfl⟩⟩
      have := can_ok c (m + 1) h1 (by omega) (by omega) (by omega) s2
      rw [h2] at this
      exact call2s (x_v rfl) (x_v rfl) this) lenf
  obtain ⟨x4', l2⟩ := forL_rng (s := s2) (b := .sh 4) (mb := (mBind (.sh 6) (mOp oMul (mC (.int 2)) (mV 6)))) (fun k x => [.ob (.sh .gen), .ob (.sh (.int ((z + 1 : Nat) : Int))), .ob (.sh (.int ((m + 1 : Nat) : Int))), .ob (.sh (.lst ((cs (z + 1)).map CL))), x, .ob (.sh (.lst (((cs (z + 1)).filter fun c => (sw (m + 1) c (z + 1 + 1 - (m + 1))).1.sum == 0).map CL))), .ob (.sh (.int (pw k))), .un]) (z + 1 + 1 - (m + 1)) (fun k x _ => rfl) (fun k hk =>
    x_sh (x_opi (x := 2) (y := pw k) (z := pw (k + 1)) rfl (x_v rfl) (oMul_2 _ _ (by decide) (by decide))) rfl) x4
  have a1 : mOp oAdd (mC (.int 1)) (mCall m_x_law_random (mCons (mV 0) (mCons (mC (.int 7)) (mNil)))) [.ob (.sh .gen), .un, .un, .un, .un, .un, .un, .un] s = .ok (iO ((z + 1 : Nat) : Int)) s1 := by
    rw [show ((z + 1 : Nat) : Int) = 1 + (z : Int) by push_cast; omega]
    exact x_opi rfl (call2s (x_v rfl) rfl e1) rfl
  have a2 : mOp oAdd (mC (.int 1)) (mCall m_x_law_random (mCons (mV 0) (mCons (mV 1) (mNil)))) [.ob (.sh .gen), .ob (.sh (.int ((z + 1 : Nat) : Int))), .un, .un, .un, .un, .un, .un] s1 = .ok (iO ((m + 1 : Nat) : Int)) s2 := by
    rw [show ((m + 1 : Nat) : Int) = 1 + (m : Int) by push_cast; omega]
    exact x_opi rfl (call2s (x_v rfl) (x_v rfl) e2) rfl
  refine x_fun rfl rfl (x_seq (x_sh a1 rfl) (x_seq (x_bd (x_tup (x_cons a2 (x_cons (x_lst (x_cons (x_lst x_nil (Nat.le_of_ble_eq_true rfl)) x_nil) (Nat.le_of_ble_eq_true rfl)) x_nil)) (Nat.le_of_ble_eq_true rfl)) rfl) (x_seq (x_for (x_r1 (k := ((z + 1 : Nat) : Int)) (x_cons (x_v rfl) x_nil) (inR_small _ (by omega) (by omega))) l1) ?_)))
  refine x_seq (r1 := [.ob (.sh .gen), .ob (.sh (.int ((z + 1 : Nat) : Int))), .ob (.sh (.int ((m + 1 : Nat) : Int))), .ob (.sh (.lst ((cs (z + 1)).map CL))), x4, .ob (.sh (.lst (((cs (z + 1)).filter fun c => (sw (m + 1) c (z + 1 + 1 - (m + 1))).1.sum == 0).map CL))), .ob (.sh (.int (pw 0))), .un]) (x_par (x_cons good (x_cons rfl x_nil)) (by
    rw [← lst_d (((cs (z + 1)).filter fun c => (sw (m + 1) c (z + 1 + 1 - (m + 1))).1.sum == 0).map CL)]; rfl)) ?_
  have it : mIr1 (mCons (mOp oSub (mOp oAdd (mV 1) (mC (.int 1))) (mV 2)) mNil) [.ob (.sh .gen), .ob (.sh (.int ((z + 1 : Nat) : Int))), .ob (.sh (.int ((m + 1 : Nat) : Int))), .ob (.sh (.lst ((cs (z + 1)).map CL))), x4, .ob (.sh (.lst (((cs (z + 1)).filter fun c => (sw (m + 1) c (z + 1 + 1 - (m + 1))).1.sum == 0).map CL))), .ob (.sh (.int (pw 0))), .un] s2 = .ok (rngF 0 (z + 1 + 1 - (m + 1))) s2 := by
    have e := x_r1 (x_cons (x_opi (x := ((z + 1 : Nat) : Int) + 1) (y := ((m + 1 : Nat) : Int)) (x_opi (mb := mC (.int 1)) (x_v (i := 1) rfl) rfl (oAdd_ii ((z + 1 : Nat) : Int) 1)) (x_v (r := [.ob (.sh .gen), .ob (.sh (.int ((z + 1 : Nat) : Int))), .ob (.sh (.int ((m + 1 : Nat) : Int))), .ob (.sh (.lst ((cs (z + 1)).map CL))), x4, .ob (.sh (.lst (((cs (z + 1)).filter fun c => (sw (m + 1) c (z + 1 + 1 - (m + 1))).1.sum == 0).map CL))), .ob (.sh (.int (pw 0))), .un]) (s := s2) (i := 2) rfl) (oSub_ii _ _)) x_nil) (inR_small (((z + 1 : Nat) : Int) + 1 - ((m + 1 : Nat) : Int)) (by omega) (by omega))
    rw [show (((z + 1 : Nat) : Int) + 1 - ((m + 1 : Nat) : Int)).toNat = z + 1 + 1 - (m + 1) by omega] at e
    exact e
  refine x_seq (x_for it l2) (x_ret ?_)
  refine x_eq (x_rd (x_len (x_v rfl) rfl) rfl rfl) (x_rd (o := iO (pw (z + 1 + 1 - (m + 1)))) (x_v rfl) rfl rfl) rfl rfl ((eq_ii _ _).trans ?_)
  rw [List.length_map]
  exact ck
end K64
namespace K64
open PySem PySem.Spec PyProof.Rows L2 Lone
theorem cell_ok (ns : List Int) (k : Nat) (s : G3) : ∃ v, m_x_law_cell [.scr ns, .int k] s = .ok (iO v) s := by
  have tst : mBl (mOp (cmpI fun i j => decide (i < j)) (mV 1) (mCB oLen (mCons (mV 0) (mNil)))) [.ob (.sh (.scr ns)), .ob (.sh (.int k))] s = .ok (decide ((k : Int) < ns.length)) s :=
    x_bl (x_op (x_v rfl) (x_cb (x_cons (x_v rfl) x_nil) (o := iO ns.length) rfl) (cmp_ii _ _ _))
  by_cases h : k < ns.length
  · rw [decide_eq_true (by omega)] at tst
    refine ⟨ns.getD k 0, x_fun rfl rfl (x_seqR (x_ifT tst (x_ret (x_ixS (x_v rfl) (k := k) (x_v rfl) ?_))))⟩
    show (atI ns (k : Int)).map (fun c => O.sh (.int c)) = _
    rw [atI_nat ns k h, List.getD_eq_getElem?_getD, List.getElem?_eq_getElem h]
    rfl
  · rw [decide_eq_false (by omega)] at tst
    have e1 : mSl (mV 0) mNoP (mSoP (mC (.int 1))) [.ob (.sh (.scr ns)), .ob (.sh (.int k))] s = .ok (LI (cutL ns none (some 1))) s := by
      have : (cutL ns none (some 1)).map (fun i => O.sh (.int i)) = ((cutL ns none (some 1)).map D.int).map O.sh := by rw [List.map_map]; rfl
      show Res.ok (O.lst ((cutL ns none (some 1)).map fun i => O.sh (.int i))) s = _
      rw [this]
      rfl
    exact ⟨_, x_fun rfl rfl (x_seq (x_ifF tst rfl) (x_ret (x_opi (x_sum e1 (LI_d _)) rfl (oMod_ii _ 1000003 (by decide)))))⟩
theorem pow_ok (a : Int) (b : Nat) (h : cPow a b = true) : oPow (iO a) (iO b) = some (iO (a ^ b)) := by
  rw [oPow_app]
  simp only [fI, O.int?, iO, h, if_true]
  rfl
theorem max_ok {ms : En → M (List O)} {r : En} {s s1 : G3} {i j : Int} (h : ms r s = .ok [iO i, iO j] s1) : mCB (oII fun i j => if j > i then j else i) ms r s = .ok (iO (if j > i then j else i)) s1 := x_cb h rfl
theorem gen_ok (ns : List Int) (k : Nat) (s : G3) : ∃ a b, m_x_law_generator [.scr ns, .int k] s = .ok (.lst [iO a, iO b, iO (1000 * k)]) s := by
  obtain ⟨v, hv⟩ := cell_ok ns k s
  have p1 : ∀ r : En, mOp oPow (mC (.int 10)) (mC (.int 18)) r s = .ok (iO (10 ^ 18)) s := fun r => x_opi (x := 10) (y := (18 : Nat)) rfl rfl (pow_ok 10 18 (by decide +kernel))
  have p2 : ∀ r : En, mOp oPow (mOp oPow (mC (.int 10)) (mC (.int 60))) (mC (.int 10)) r s = .ok (iO ((10 ^ 60) ^ 10)) s := fun r => x_opi (x := 10 ^ 60) (y := (10 : Nat)) (x_opi (x := 10) (y := (60 : Nat)) rfl rfl (pow_ok 10 60 (by decide +kernel))) rfl (pow_ok _ 10 (by decide +kernel))
  refine ⟨_, _, x_fun rfl rfl (x_seq (x_sh (call2s (x_v rfl) (x_v rfl) hv) rfl) (x_ret (x_lst (x_cons (x_opi (x_int (max_ok (x_cons (x_opi (x_v (o := iO v) rfl) (p1 _) (oSub_ii _ _)) (x_cons (o := iO 0) rfl x_nil)))) (p2 _) (oMod_ii _ _ (by decide +kernel))) (x_cons (x_opi (x_int (x_v (o := iO v) rfl)) rfl (oMod_ii _ 2147483647 (by decide))) (x_cons (x_opi (x := 1000) (y := k) rfl (x_v rfl) (oMul_2 1000 k (by decide) (by decide))) x_nil))) (Nat.le_of_ble_eq_true rfl))))⟩
theorem x_gen {i : Nat} {mc : En → M O} {mr : En → M Fl} {r r1 r2 r3 : En} {s s1 z z' : G3} {o : O} (h : mc r s = .ok o s1) (e : o.three = some z) (k1 : slsOk (r.set i .un) = true) (e1 : r.set i (.ob (.sh .gen)) = r1) (k : mr r1 z = .ok (.nx r2) z') (e2 : r2.set i .un = r3) (k2 : slsOk r3 = true) : mGenB i mc mr r s = .ok (.nx r3) s1 := by
  simp only [mGenB, bnd, h, e, k1, e1, k, e2, k2, if_true]
theorem law_true' (hk : ∀ n m, n ≤ 9 → 1 ≤ m → m ≤ n → chk n m = true) (ns : List Int) (s : G3) : m_law [.scr ns] s = .ok (bO true) s := by
  have t0 : (mBind (.sh 1) (mLst (mCons (mCall m_row_plan (mCons (mLst (mCons (mC (.int 1)) (mCons (mC (.int 1)) (mCons (mC (.int 0)) (mCons (mC (.int 1)) (mCons (mC (.int 1)) (mNil))))))) (mCons (mC (.int 2)) (mNil)))) (mCons (mCall m_left_in_row (mCons (mLst (mCons (mC (.int 1)) (mCons (mC (.int 0)) (mCons (mC (.int 1)) (mCons (mC (.int 1)) (mNil)))))) (mCons (mC (.int 3)) (mNil)))) (mCons (mCall m_class_sums (mCons (mLst (mCons (mC (.int 1)) (mCons (mC (.int 0)) (mCons (mC (.int 1)) (mCons (mC (.int 0)) (mCons (mC (.int 1)) (mCons (mC (.int 1)) (mNil)))))))) (mCons (mC (.int 3)) (mNil)))) (mNil)))))) [.ob (.sh (.scr ns)), .un, .un, .un] s = .ok (.nx [.ob (.sh (.scr ns)), .ob (.sh (.lst [.lst [.int 0, .int 3], .lst [.int 0, .int 0, .int 1, .int 0], .lst [.int 1, .int 1, .int 0]])), .un, .un]) s := by kernel_rfl
  have t1 : (mBind (.sh 1) (mOp oAdd (mV 1) (mSh (mLst (mCons (mCall m_can_turn_row (mCons (mLst (mCons (mC (.int 1)) (mCons (mC (.int 0)) (mCons (mC (.int 1)) (mCons (mC (.int 0)) (mNil)))))) (mCons (mC (.int 3)) (mNil)))) (mCons (mCall m_row_plan (mCons (mLst (mCons (mC (.int 0)) (mNil))) (mCons (mC (.int 1)) (mNil)))) (mCons (mCall m_row_plan (mCons (mLst (mCons (mC (.int 1)) (mNil))) (mCons (mC (.int 1)) (mNil)))) (mCons (mCall m_class_sums (mCons (mLst (mCons (mC (.int 1)) (mCons (mC (.int 1)) (mCons (mC (.int 1)) (mNil))))) (mCons (mC (.int 1)) (mNil)))) (mNil))))))))) [.ob (.sh (.scr ns)), .ob (.sh (.lst [.lst [.int 0, .int 3], .lst [.int 0, .int 0, .int 1, .int 0], .lst [.int 1, .int 1, .int 0]])), .un, .un] s = .ok (.nx [.ob (.sh (.scr ns)), .ob (.sh (.lst [.lst [.int 0, .int 3], .lst [.int 0, .int 0, .int 1, .int 0], .lst [.int 1, .int 1, .int 0], .bl false, .lst [], .lst [.int 0], .lst [.int 1]])), .un, .un]) s := by kernel_rfl
  generalize hT : Sl.ob (.sh (.lst [.lst [.int 0, .int 3], .lst [.int 0, .int 0, .int 1, .int 0], .lst [.int 1, .int 1, .int 0], .bl false, .lst [], .lst [.int 0], .lst [.int 1]])) = T at t1
  have hT2 : slOk T = true := by rw [← hT]; rfl
  have t2 : (mIfS (mOrT (mBl (mEqR true (mRd (mV 1)) (mLstR (mConsR (mLstR (mConsR (mRd (mC (.int 0))) (mConsR (mRd (mC (.int 3))) (mNilR)))) (mConsR (mLstR (mConsR (mRd (mC (.int 0))) (mConsR (mRd (mC (.int 0))) (mConsR (mRd (mC (.int 1))) (mConsR (mRd (mC (.int 0))) (mNilR)))))) (mConsR (mLstR (mConsR (mRd (mC (.int 1))) (mConsR (mRd (mC (.int 1))) (mConsR (mRd (mC (.int 0))) (mNilR))))) (mConsR (mRd (mC (.bl false))) (mConsR (mLstR (mNilR)) (mConsR (mLstR (mConsR (mRd (mC (.int 0))) (mNilR))) (mConsR (mLstR (mConsR (mRd (mC (.int 1))) (mNilR))) (mNilR))))))))))) (mBl (mEqR true (mRd (mCall m_row_plan (mCons (mOp oMul (mLst (mCons (mC (.int 1)) (mCons (mC (.int 0)) (mNil)))) (mC (.int 10))) (mCons (mC (.int 1)) (mNil))))) (mRd (mLr3 (mC (.int 0)) (mC (.int 20)) (mC (.int 2))))))) (mRet (mC (.bl false))) (mNil')) [.ob (.sh (.scr ns)), T, .un, .un] s = .ok (.nx [.ob (.sh (.scr ns)), T, .un, .un]) s := by rw [← hT]; kernel_rfl
  have t4 : ∀ x2, (mRet (mAnd (mEqR false (mRd (mCall m_row_plan (mCons (mLst (mCons (mC (.int 1)) (mCons (mC (.int 1)) (mCons (mC (.int 1)) (mCons (mC (.int 1)) (mNil)))))) (mCons (mC (.int 4)) (mNil))))) (mLstR (mConsR (mRd (mC (.int 0))) (mNilR)))) (mOp (oIs false) (mCall m_row_plan (mCons (mLst (mCons (mC (.int 1)) (mCons (mC (.int 0)) (mCons (mC (.int 0)) (mCons (mC (.int 0)) (mNil)))))) (mCons (mC (.int 4)) (mNil)))) (mC .non)))) [.ob (.sh (.scr ns)), T, x2, .un] s = .ok (.rt (bO true)) s := fun x2 => by kernel_rfl
  obtain ⟨x2, l⟩ := forL_rng (s := s) (b := .sh 2) (mb := (mGenB 3 (mCall m_x_law_generator (mCons (mV 0) (mCons (mV 2) (mNil)))) (mIfS (mOrT (mNotT (mBl (mCall m_x_law_right (mCons (mV 3) (mNil))))) (mOrT (mNotT (mBl (mCall m_x_law_right (mCons (mV 3) (mNil))))) (mOrT (mNotT (mBl (mCall m_x_law_right (mCons (mV 3) (mNil))))) (mNotT (mBl (mCall m_x_law_counts_right (mCons (mV 3) (mNil)))))))) (mRet (mC (.bl false))) (mNil')))) (fun k x => [.ob (.sh (.scr ns)), T, x, .un]) 3 (fun k x _ => rfl) (fun k hk' => by
    obtain ⟨a, b, hg⟩ := gen_ok ns k s
    have h0 : St 3000 ⟨a, b, 1000 * k⟩ := ⟨by show (0 : Int) ≤ 1000 * k; omega, by show (1000 : Int) * k ≤ 3000; omega⟩
    obtain ⟨s1, e1, h1⟩ := right_ok hk _ _ h0 (by omega)
    obtain ⟨s2, e2, h2⟩ := right_ok hk _ _ h1 (by omega)
    obtain ⟨s3, e3, h3⟩ := right_ok hk _ _ h2 (by omega)
    obtain ⟨s4, e4, h4⟩ := counts_ok _ _ h3 (by omega)
    have hs : slsOk [.ob (.sh (.scr ns)), T, .ob (.sh (.int (k : Int))), .un] = true := by
      show (true && (slOk T && _)) = true
      rw [hT2]
      rfl
    exact x_gen (call2s (x_v rfl) (x_v rfl) hg) (z := ⟨a, b, 1000 * k⟩) rfl hs rfl (x_ifF (x_orF (x_not (x_bl (call1s (x_v rfl) e1))) (x_orF (x_not (x_bl (call1s (x_v rfl) e2))) (x_orF (x_not (x_bl (call1s (x_v rfl) e3))) (x_not (x_bl (call1s (x_v rfl) e4)))))) rfl) rfl hs) .un
  exact x_fun rfl rfl (x_seq t0 (x_seq t1 (x_seq t2 (x_seq (x_for (x_r1 (k := 3) (x_cons rfl x_nil) (by decide)) l) (t4 x2)))))
end K64
namespace K64
open PySem PySem.Spec PyProof.Rows L2 Lone
theorem chk_7 : ((List.range 8).all fun n => (List.range n).all fun m => chk n (m + 1)) = true := by decide +kernel
theorem chk_8a : ((List.range 4).all fun m => chk 8 (m + 1)) = true := by decide +kernel
theorem chk_8b : ((List.range 4).all fun m => chk 8 (m + 5)) = true := by decide +kernel
theorem chk_9a : ((List.range 3).all fun m => chk 9 (m + 1)) = true := by decide +kernel
theorem chk_9b : ((List.range 3).all fun m => chk 9 (m + 4)) = true := by decide +kernel
theorem chk_9c : ((List.range 3).all fun m => chk 9 (m + 7)) = true := by decide +kernel
theorem chk_ok (n m : Nat) (hn : n ≤ 9) (h1 : 1 ≤ m) (hm : m ≤ n) : chk n m = true := by
  have at_ : ∀ (k a n m : Nat), ((List.range k).all fun m => chk n (m + a)) = true → a ≤ m → m < a + k → chk n m = true := fun k a n m h h1 h2 => by
    have := List.all_eq_true.mp h (m - a) (List.mem_range.mpr (by omega))
    rwa [show m - a + a = m by omega] at this
  by_cases h : n ≤ 7
  · exact at_ n 1 n m (List.all_eq_true.mp chk_7 n (List.mem_range.mpr (by omega))) h1 (by omega)
  · by_cases h8 : n = 8
    · subst h8
      by_cases h : m ≤ 4
      · exact at_ 4 1 8 m chk_8a h1 (by omega)
      · exact at_ 4 5 8 m chk_8b (by omega) (by omega)
    · have h9 : n = 9 := by omega
      subst h9
      by_cases h : m ≤ 3
      · exact at_ 3 1 9 m chk_9a h1 (by omega)
      · by_cases h : m ≤ 6
        · exact at_ 3 4 9 m chk_9b (by omega) (by omega)
        · exact at_ 3 7 9 m chk_9c (by omega) (by omega)
theorem law_true (ns : List Int) (h : ns.length ≤ 63) : ∃ s, m_law [.scr ns] ⟨0, 0, 0⟩ = .ok (bO true) s := ⟨_, law_true' chk_ok ns _⟩
end K64
open PySem PySem.W PyProof.Rows
set_option maxHeartbeats 0 in
theorem PySem.Challenge.cw_lonehall_k64_whole_neighbours_turned_in_holds : PySem.Challenge.rw_lonehall_k64_whole_neighbours_turned_in.Holds := by
  w_on; o_law; k_head; (case hw => w_witness2)
  k_fill
  refine Lone.walk_fg (l := PySem.Challenge.rw_lonehall_k64_whole_neighbours_turned_in) (n := 63) (k := 9) (x := "script") (CX := fun _ => L2.CX0) (sp := fun w => Lone.spM (K64.C0 _) K64.m_law) rfl (by decide) rfl ⟨rfl, by decide, by decide⟩ (fun w h Y => PySem.W.kIn_of Y) ?F (fun _ _ a ns hl _ hS => Lone.sp_law hS (K64.law_true ns hl)) (fun _ _ _ _ _ h => h)
  case F =>
    intro w mg fa h KX G hmg
    refine' K64.all_mk KX G hmg ?a_is_whole ?l_is_whole ?c_is_whole ?k_is_whole ?a_is_count ?l_is_count ?c_is_count ?k_is_count ?a_is_face ?l_is_face ?c_is_face ?k_is_face ?a_are_coins ?l_are_coins ?c_are_coins ?k_are_coins ?a_check_coins ?l_check_coins ?c_check_coins ?k_check_coins ?a_check_coins_many ?l_check_coins_many ?c_check_coins_many ?k_check_coins_many ?a_turned_in ?l_turned_in ?c_turned_in ?k_turned_in ?a_swept ?l_swept ?c_swept ?k_swept ?a_row_plan ?l_row_plan ?c_row_plan ?k_row_plan ?a_left_in_row ?l_left_in_row ?c_left_in_row ?k_left_in_row ?a_class_sums ?l_class_sums ?c_class_sums ?k_class_sums ?a_can_turn_row ?l_can_turn_row ?c_can_turn_row ?k_can_turn_row ?a_x_law_cell ?l_x_law_cell ?c_x_law_cell ?k_x_law_cell ?a_x_law_hash ?l_x_law_hash ?c_x_law_hash ?k_x_law_hash ?a_x_law_random ?l_x_law_random ?c_x_law_random ?k_x_law_random ?a_x_law_generator ?l_x_law_generator ?c_x_law_generator ?k_x_law_generator ?a_x_law_coins ?l_x_law_coins ?c_x_law_coins ?k_x_law_coins ?a_x_law_turned ?l_x_law_turned ?c_x_law_turned ?k_x_law_turned ?a_x_law_behind ?l_x_law_behind ?c_x_law_behind ?k_x_law_behind ?a_x_law_plans ?l_x_law_plans ?c_x_law_plans ?k_x_law_plans ?a_x_law_right ?l_x_law_right ?c_x_law_right ?k_x_law_right ?a_x_law_counts_right ?l_x_law_counts_right ?c_x_law_counts_right ?k_x_law_counts_right ?a_law ?l_law ?c_law ?k_law ?z_all ?z_bool ?z_enumerate ?z_int ?z_isinstance ?z_len ?z_list ?z_max ?z_range ?z_repr ?z_set ?z_sum
    (case a_is_whole => k_is); (case l_is_whole => k_is); (case c_is_whole => k_is); (case k_is_whole => k_is); (case a_is_count => k_is); (case l_is_count => k_is); (case c_is_count => k_is); (case k_is_count => k_is); (case a_is_face => k_is); (case l_is_face => k_is); (case c_is_face => k_is); (case k_is_face => k_is); (case a_are_coins => k_is); (case l_are_coins => k_is); (case c_are_coins => k_is); (case k_are_coins => k_is); (case a_check_coins => k_is); (case l_check_coins => k_is); (case c_check_coins => k_is); (case k_check_coins => k_is); (case a_check_coins_many => k_is); (case l_check_coins_many => k_is); (case c_check_coins_many => k_is); (case k_check_coins_many => k_is); (case a_turned_in => k_is); (case l_turned_in => k_is); (case c_turned_in => k_is); (case k_turned_in => k_is); (case a_swept => k_is); (case l_swept => k_is); (case c_swept => k_is); (case k_swept => k_is); (case a_row_plan => k_is); (case l_row_plan => k_is); (case c_row_plan => k_is); (case k_row_plan => k_is); (case a_left_in_row => k_is); (case l_left_in_row => k_is); (case c_left_in_row => k_is); (case k_left_in_row => k_is); (case a_class_sums => k_is); (case l_class_sums => k_is); (case c_class_sums => k_is); (case k_class_sums => k_is); (case a_can_turn_row => k_is); (case l_can_turn_row => k_is); (case c_can_turn_row => k_is); (case k_can_turn_row => k_is); (case a_x_law_cell => k_is); (case l_x_law_cell => k_is); (case c_x_law_cell => k_is); (case k_x_law_cell => k_is); (case a_x_law_hash => k_is); (case l_x_law_hash => k_is); (case c_x_law_hash => k_is); (case k_x_law_hash => k_is); (case a_x_law_random => k_is); (case l_x_law_random => k_is); (case c_x_law_random => k_is); (case k_x_law_random => k_is); (case a_x_law_generator => k_is); (case l_x_law_generator => k_is); (case c_x_law_generator => k_is); (case k_x_law_generator => k_is); (case a_x_law_coins => k_is); (case l_x_law_coins => k_is); (case c_x_law_coins => k_is); (case k_x_law_coins => k_is); (case a_x_law_turned => k_is); (case l_x_law_turned => k_is); (case c_x_law_turned => k_is); (case k_x_law_turned => k_is); (case a_x_law_behind => k_is); (case l_x_law_behind => k_is); (case c_x_law_behind => k_is); (case k_x_law_behind => k_is); (case a_x_law_plans => k_is); (case l_x_law_plans => k_is); (case c_x_law_plans => k_is); (case k_x_law_plans => k_is); (case a_x_law_right => k_is); (case l_x_law_right => k_is); (case c_x_law_right => k_is); (case k_x_law_right => k_is); (case a_x_law_counts_right => k_is); (case l_x_law_counts_right => k_is); (case c_x_law_counts_right => k_is); (case k_x_law_counts_right => k_is); (case a_law => k_is); (case l_law => k_is); (case c_law => k_is); (case k_law => k_is); (case z_all => k_is); (case z_bool => k_is); (case z_enumerate => k_is); (case z_int => k_is); (case z_isinstance => k_is); (case z_len => k_is); (case z_list => k_is); (case z_max => k_is); (case z_range => k_is); (case z_repr => k_is); (case z_set => k_is); (case z_sum => k_is)
