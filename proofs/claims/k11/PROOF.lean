import PyProof.Rows.All
import Wide.All
import OpenK.AllK
import Wide.FinOn
import PySem.Challenge.RW_minusless_k11_corners_and_levels
import HandS.ForMost
import HandS.ForExc
import HandS.Walk
import HandS.Wide
import HandS.IsInst
import HandS.TryMany
import HandS.TupAny
import HandS.Style
import KE.KExcSuper
import KE.KSuper
import HandS.ExcInit
import HandS.ExcOwn
import HandS.Small
import KE.KTupSum
import HandS.Gcd
import HandS.WideBits
import HandS.Iter
import KE.GoesMore
set_option Elab.async false
set_option linter.all false
set_option maxRecDepth 100000
set_option maxHeartbeats 4000000
set_option autoImplicit false

namespace MV
open PySem PySem.Spec PyProof.Rows L2

/-! ## Trees: what a value is, without addresses -/
inductive T where
  | hole
  | v (c : V)
  | tup (l : List T)
  | lst (l : List T)
  | own (l : List T)
  | kl (l : List T)
  | ins (C : Str) (ns : List Str) (l : List T)
  | oin (C : Str) (ns : List Str) (l : List T)
  | xc (C : Str) (ns : List Str) (l : List T)

def T.isHole : T → Bool
  | .hole => true
  | _ => false

/-- what a tree is read over -/
structure En where
  K : PySem.W.Frag
  mg : Str → Option Value
  ex : Option (Addr × Addr × Option Addr)

mutual
/-- x stands for the tree in the frozen heap F, its own cells O in H -/
def rep (e : En) (F H : Hp) : T → V → List Addr → Prop
  | .hole, _, O => O = []
  | .v c, x, O => x = c ∧ O = []
  | .tup l, x, O => O = [] ∧ ∃ a vs, x = .ref a ∧ SqT e.K F a vs ∧ reps e F H l vs []
  | .lst l, x, O => O = [] ∧ ∃ a vs, x = .ref a ∧ F a = some (.lst vs) ∧ reps e F H l vs []
  | .kl l, x, O => O = [] ∧ ∃ a vs, x = .ref a ∧ SqL e.K F a vs ∧ reps e F H l vs []
  | .own l, x, O => ∃ a vs O', x = .ref a ∧ O = a :: O' ∧ F a = none ∧ H a = some (.lst vs) ∧ reps e F H l vs O'
  | .ins C ns l, x, O => O = [] ∧ ns.length = l.length ∧ ∃ a dx Ca vs, x = .ref a ∧ e.mg C = some (.ref Ca) ∧
      F a = some (.ins Ca dx (ns.zip vs)) ∧ reps e F H l vs []
  | .oin C ns l, x, O => ns.length = l.length ∧ ∃ a dx Ca vs O', x = .ref a ∧ e.mg C = some (.ref Ca) ∧ O = a :: O' ∧ F a = none ∧
      H a = some (.ins Ca dx (ns.zip vs)) ∧ reps e F H l vs O'
  | .xc C ns l, x, O => O = [] ∧ ns.length = l.length ∧ ∃ a Ca dx vs, x = .ref a ∧ e.ex = some (a, Ca, some dx) ∧ e.mg C = some (.ref Ca) ∧
      F dx = some (.xd (ns.zip vs)) ∧ reps e F H l vs []
def reps (e : En) (F H : Hp) : List T → List V → List Addr → Prop
  | [], vs, O => vs = [] ∧ O = []
  | t :: ts, vs, O => ∃ x xs O1 O2, vs = x :: xs ∧ O = O1 ++ O2 ∧ rep e F H t x O1 ∧ reps e F H ts xs O2
end

def Sub (F F' : Hp) : Prop := ∀ a o, F a = some o → F' a = some o
theorem Sub.rfl {F : Hp} : Sub F F := fun _ _ h => h
theorem Sub.tr {F G H : Hp} (a : Sub F G) (b : Sub G H) : Sub F H := fun x o h => b x o (a x o h)
theorem Sub.sqt {K : PySem.W.Frag} {F F' : Hp} (s : Sub F F') {a : Addr} {vs : List V} (h : SqT K F a vs) : SqT K F' a vs := by
  rcases h with (h | ⟨o, h⟩) | h
  · exact .inl (.inl (s _ _ h))
  · exact .inl (.inr ⟨o, s _ _ h⟩)
  · exact .inr h
theorem Sub.sql {K : PySem.W.Frag} {F F' : Hp} (s : Sub F F') {a : Addr} {vs : List V} (h : SqL K F a vs) : SqL K F' a vs := by
  rcases h with (h | ⟨o, h⟩) | h
  · exact .inl (.inl (s _ _ h))
  · exact .inl (.inr ⟨o, s _ _ h⟩)
  · exact .inr h

section
variable {e : En} {F H F' H' : Hp}

theorem reps_len : ∀ {l : List T} {vs : List V} {O : List Addr}, reps e F H l vs O → l.length = vs.length
  | [], vs, O, h => by simp only [reps] at h; simp [h.1]
  | t :: ts, vs, O, h => by
    simp only [reps] at h
    obtain ⟨x, xs, O1, O2, rfl, _, _, h2⟩ := h
    simp [reps_len h2]

mutual
theorem rep_mono (s : Sub F F') : ∀ {t : T} {x : V} {O : List Addr}, rep e F H t x O → (∀ a ∈ O, H' a = H a ∧ F' a = none) → rep e F' H' t x O
  | .hole, x, O, h, k => by simp only [rep] at h ⊢; exact h
  | .v c, x, O, h, k => by simp only [rep] at h ⊢; exact h
  | .tup l, x, O, h, k => by
    simp only [rep] at h ⊢
    obtain ⟨rfl, a, vs, h1, h2, h3⟩ := h
    exact ⟨rfl, a, vs, h1, s.sqt h2, reps_mono s h3 (by simp)⟩
  | .lst l, x, O, h, k => by
    simp only [rep] at h ⊢
    obtain ⟨rfl, a, vs, h1, h2, h3⟩ := h
    exact ⟨rfl, a, vs, h1, s _ _ h2, reps_mono s h3 (by simp)⟩
  | .kl l, x, O, h, k => by
    simp only [rep] at h ⊢
    obtain ⟨rfl, a, vs, h1, h2, h3⟩ := h
    exact ⟨rfl, a, vs, h1, s.sql h2, reps_mono s h3 (by simp)⟩
  | .own l, x, O, h, k => by
    simp only [rep] at h ⊢
    obtain ⟨a, vs, O', h1, rfl, h2, h3, h4⟩ := h
    have ka := k a (by simp)
    exact ⟨a, vs, O', h1, rfl, ka.2, ka.1.trans h3, reps_mono s h4 fun b hb => k b (by simp [hb])⟩
  | .ins C ns l, x, O, h, k => by
    simp only [rep] at h ⊢
    obtain ⟨rfl, hn, a, dx, Ca, vs, h1, h2, h3, h4⟩ := h
    exact ⟨rfl, hn, a, dx, Ca, vs, h1, h2, s _ _ h3, reps_mono s h4 (by simp)⟩
  | .oin C ns l, x, O, h, k => by
    simp only [rep] at h ⊢
    obtain ⟨hn, a, dx, Ca, vs, O', h1, h2, rfl, h3, h4, h5⟩ := h
    have ka := k a (by simp)
    exact ⟨hn, a, dx, Ca, vs, O', h1, h2, rfl, ka.2, ka.1.trans h4, reps_mono s h5 fun b hb => k b (by simp [hb])⟩
  | .xc C ns l, x, O, h, k => by
    simp only [rep] at h ⊢
    obtain ⟨rfl, hn, a, Ca, dx, vs, h1, h2, h3, h4, h5⟩ := h
    exact ⟨rfl, hn, a, Ca, dx, vs, h1, h2, h3, s _ _ h4, reps_mono s h5 (by simp)⟩
theorem reps_mono (s : Sub F F') : ∀ {l : List T} {vs : List V} {O : List Addr}, reps e F H l vs O → (∀ a ∈ O, H' a = H a ∧ F' a = none) → reps e F' H' l vs O
  | [], vs, O, h, k => by simp only [reps] at h ⊢; exact h
  | t :: ts, vs, O, h, k => by
    simp only [reps] at h ⊢
    obtain ⟨x, xs, O1, O2, h1, rfl, h2, h3⟩ := h
    exact ⟨x, xs, O1, O2, h1, rfl, rep_mono s h2 fun a ha => k a (by simp [ha]), reps_mono s h3 fun a ha => k a (by simp [ha])⟩
end

mutual
/-- the cells of a tree stand in H, not in F -/
theorem rep_at : ∀ {t : T} {x : V} {O : List Addr}, rep e F H t x O → ∀ a ∈ O, F a = none ∧ ∃ o, H a = some o
  | .hole, x, O, h => by simp only [rep] at h; simp [h]
  | .v c, x, O, h => by simp only [rep] at h; simp [h.2]
  | .tup l, x, O, h => by simp only [rep] at h; simp [h.1]
  | .lst l, x, O, h => by simp only [rep] at h; simp [h.1]
  | .kl l, x, O, h => by simp only [rep] at h; simp [h.1]
  | .ins C ns l, x, O, h => by simp only [rep] at h; simp [h.1]
  | .xc C ns l, x, O, h => by simp only [rep] at h; simp [h.1]
  | .own l, x, O, h => by
    simp only [rep] at h
    obtain ⟨a, vs, O', h1, rfl, h2, h3, h4⟩ := h
    intro b hb
    rcases List.mem_cons.mp hb with rfl | hb
    · exact ⟨h2, _, h3⟩
    · exact reps_at h4 b hb
  | .oin C ns l, x, O, h => by
    simp only [rep] at h
    obtain ⟨hn, a, dx, Ca, vs, O', h1, h2, rfl, h3, h4, h5⟩ := h
    intro b hb
    rcases List.mem_cons.mp hb with rfl | hb
    · exact ⟨h3, _, h4⟩
    · exact reps_at h5 b hb
theorem reps_at : ∀ {l : List T} {vs : List V} {O : List Addr}, reps e F H l vs O → ∀ a ∈ O, F a = none ∧ ∃ o, H a = some o
  | [], vs, O, h => by simp only [reps] at h; simp [h.2]
  | t :: ts, vs, O, h => by
    simp only [reps] at h
    obtain ⟨x, xs, O1, O2, h1, rfl, h2, h3⟩ := h
    intro b hb
    rcases List.mem_append.mp hb with hb | hb
    · exact rep_at h2 b hb
    · exact reps_at h3 b hb
end

/-! ### freezing -/
mutual
def fz : T → T
  | .hole => .hole
  | .v c => .v c
  | .tup l => .tup l
  | .lst l => .lst l
  | .kl l => .kl l
  | .own l => .lst (fzs l)
  | .ins C ns l => .ins C ns l
  | .oin C ns l => .ins C ns (fzs l)
  | .xc C ns l => .xc C ns l
def fzs : List T → List T
  | [] => []
  | t :: ts => fz t :: fzs ts
end
theorem fzs_map : ∀ l : List T, fzs l = l.map fz
  | [] => by simp only [fzs, List.map_nil]
  | t :: ts => by simp only [fzs, List.map_cons, fzs_map ts]
theorem fzs_length (l : List T) : (fzs l).length = l.length := by rw [fzs_map, List.length_map]

/-- the cells O of H are put into the frozen heap -/
def put (F H : Hp) (O : List Addr) : Hp := fun a => if a ∈ O then H a else F a
theorem put_nil (F H : Hp) : put F H [] = F := by funext a; simp [put]
theorem put_in {O : List Addr} {a : Addr} (h : a ∈ O) : put F H O a = H a := by simp [put, h]
theorem put_out {O : List Addr} {a : Addr} (h : a ∉ O) : put F H O a = F a := by simp [put, h]
theorem put_sub {O : List Addr} (h : ∀ a ∈ O, F a = none) : Sub F (put F H O) := fun a o q => by
  by_cases m : a ∈ O
  · rw [h a m] at q; cases q
  · rw [put_out m]; exact q

mutual
theorem rep_fz {O' : List Addr} (s : Sub F F') (k : ∀ a ∈ O', F' a = H a) : ∀ {t : T} {x : V} {O : List Addr}, rep e F H t x O → (∀ a ∈ O, a ∈ O') → rep e F' H (fz t) x []
  | .hole, x, O, h, m => by simp only [fz, rep]
  | .v c, x, O, h, m => by simp only [fz, rep] at h ⊢; exact ⟨h.1, trivial⟩
  | .tup l, x, O, h, m => by simp only [fz]; have z := h; simp only [rep] at z; rw [z.1] at h; exact rep_mono s h (by simp)
  | .lst l, x, O, h, m => by simp only [fz]; have z := h; simp only [rep] at z; rw [z.1] at h; exact rep_mono s h (by simp)
  | .kl l, x, O, h, m => by simp only [fz]; have z := h; simp only [rep] at z; rw [z.1] at h; exact rep_mono s h (by simp)
  | .ins C ns l, x, O, h, m => by simp only [fz]; have z := h; simp only [rep] at z; rw [z.1] at h; exact rep_mono s h (by simp)
  | .xc C ns l, x, O, h, m => by simp only [fz]; have z := h; simp only [rep] at z; rw [z.1] at h; exact rep_mono s h (by simp)
  | .own l, x, O, h, m => by
    simp only [fz, rep] at h ⊢
    obtain ⟨a, vs, O', h1, rfl, h2, h3, h4⟩ := h
    exact ⟨trivial, a, vs, h1, (k a (m a (by simp))).trans h3, reps_fz s k h4 fun b hb => m b (by simp [hb])⟩
  | .oin C ns l, x, O, h, m => by
    simp only [fz, rep] at h ⊢
    obtain ⟨hn, a, dx, Ca, vs, O', h1, h2, rfl, h3, h4, h5⟩ := h
    exact ⟨trivial, by rw [fzs_length]; exact hn, a, dx, Ca, vs, h1, h2, (k a (m a (by simp))).trans h4, reps_fz s k h5 fun b hb => m b (by simp [hb])⟩
theorem reps_fz {O' : List Addr} (s : Sub F F') (k : ∀ a ∈ O', F' a = H a) : ∀ {l : List T} {vs : List V} {O : List Addr}, reps e F H l vs O → (∀ a ∈ O, a ∈ O') → reps e F' H (fzs l) vs []
  | [], vs, O, h, m => by simp only [fzs, reps] at h ⊢; exact ⟨h.1, trivial⟩
  | t :: ts, vs, O, h, m => by
    simp only [fzs, reps] at h ⊢
    obtain ⟨x, xs, O1, O2, h1, rfl, h2, h3⟩ := h
    exact ⟨x, xs, [], [], h1, rfl, rep_fz s k h2 fun a ha => m a (by simp [ha]), reps_fz s k h3 fun a ha => m a (by simp [ha])⟩
end

/-! ### places of lists -/
theorem reps_app : ∀ {l1 l2 : List T} {vs : List V} {O : List Addr}, reps e F H (l1 ++ l2) vs O ↔
    ∃ v1 v2 O1 O2, vs = v1 ++ v2 ∧ O = O1 ++ O2 ∧ reps e F H l1 v1 O1 ∧ reps e F H l2 v2 O2
  | [], l2, vs, O => by
    constructor
    · intro h; exact ⟨[], vs, [], O, rfl, rfl, by simp [reps], h⟩
    · rintro ⟨v1, v2, O1, O2, rfl, rfl, h1, h2⟩
      simp only [reps] at h1
      obtain ⟨rfl, rfl⟩ := h1
      exact h2
  | t :: l1, l2, vs, O => by
    constructor
    · intro h
      simp only [List.cons_append, reps] at h
      obtain ⟨x, xs, O1, O2, rfl, rfl, h1, h2⟩ := h
      obtain ⟨v1, v2, P1, P2, rfl, rfl, h3, h4⟩ := reps_app.mp h2
      exact ⟨x :: v1, v2, O1 ++ P1, P2, rfl, by rw [List.append_assoc], by simp only [reps]; exact ⟨x, v1, O1, P1, rfl, rfl, h1, h3⟩, h4⟩
    · rintro ⟨v1, v2, O1, O2, rfl, rfl, h1, h2⟩
      simp only [reps] at h1
      obtain ⟨x, xs, P1, P2, rfl, rfl, h3, h4⟩ := h1
      simp only [List.cons_append, reps]
      exact ⟨x, xs ++ v2, P1, P2 ++ O2, rfl, by rw [List.append_assoc], h3, reps_app.mpr ⟨xs, v2, P2, O2, rfl, rfl, h4, h2⟩⟩
theorem reps_one {t : T} {x : V} {O : List Addr} : reps e F H [t] [x] O ↔ rep e F H t x O := by
  simp only [reps]
  constructor
  · rintro ⟨y, ys, O1, O2, h1, rfl, h2, h3, rfl⟩
    cases h1
    simpa using h2
  · intro h
    exact ⟨x, [], O, [], rfl, by simp, h, rfl, rfl⟩
/-- the place i, and what is left -/
theorem reps_split : ∀ {l : List T} {vs : List V} {O : List Addr} {i : Nat} {t : T}, reps e F H l vs O → l[i]? = some t →
    ∃ x O1 Ot O2, vs[i]? = some x ∧ O = O1 ++ Ot ++ O2 ∧ rep e F H t x Ot ∧
      ∀ {F' H' : Hp} {t' : T} {x' : V} {Ot' : List Addr}, Sub F F' → (∀ a ∈ O1 ++ O2, H' a = H a ∧ F' a = none) → rep e F' H' t' x' Ot' →
        reps e F' H' (l.set i t') (vs.set i x') (O1 ++ Ot' ++ O2)
  | [], _, _, _, _, _, h => by simp at h
  | u :: l, vs, O, 0, t, h, q => by
    simp only [reps] at h
    obtain ⟨x, xs, O1, O2, rfl, rfl, h1, h2⟩ := h
    simp only [List.getElem?_cons_zero, Option.some.injEq] at q
    subst q
    refine ⟨x, [], O1, O2, rfl, rfl, h1, fun {F' H' t' x' Ot'} s k r => ?_⟩
    simp only [List.set_cons_zero, reps]
    exact ⟨x', xs, Ot', O2, rfl, rfl, r, reps_mono s h2 fun a ha => k a (by simp [ha])⟩
  | u :: l, vs, O, i + 1, t, h, q => by
    simp only [reps] at h
    obtain ⟨x, xs, O1, O2, rfl, rfl, h1, h2⟩ := h
    simp only [List.getElem?_cons_succ] at q
    obtain ⟨y, P1, Pt, P2, e1, rfl, r1, back⟩ := reps_split h2 q
    refine ⟨y, O1 ++ P1, Pt, P2, by simpa using e1, by simp, r1, fun {F' H' t' x' Ot'} s k r => ?_⟩
    simp only [List.set_cons_succ, reps]
    exact ⟨x, xs.set i x', O1, P1 ++ Ot' ++ P2, rfl, by simp, rep_mono s h1 fun a ha => k a (by simp [ha]),
      back s (fun a ha => k a (by simp at ha ⊢; rcases ha with ha | ha <;> simp [ha])) r⟩
end
end MV

namespace MV
open PySem PySem.Spec PyProof.Rows L2

/-! ## Steps of the heaps -/
structure Stp (F H : Hp) (O : List Addr) (F' H' : Hp) (N : List Addr) : Prop where
  sub : Sub F F'
  new : ∀ a o, F' a = some o → F a = none → a ∈ O ∨ H a = none
  keep : ∀ a o, H a = some o → a ∉ O → H' a = some o
  there : ∀ a o, H a = some o → ∃ o', H' a = some o'
  own : ∀ a ∈ N, a ∈ O ∨ H a = none

section
variable {e : En} {F H F' H' F1 H1 F2 H2 : Hp} {O O1 N N1 N2 M : List Addr}
theorem Stp.rfl (h : ∀ a ∈ N, a ∈ O) : Stp F H O F H N :=
  ⟨Sub.rfl, fun a o q n => (by rw [n] at q; cases q), fun _ _ q _ => q, fun a o q => ⟨o, q⟩, fun a ha => .inl (h a ha)⟩
theorem Stp.sub_own (s : Stp F H O F' H' N) (h : ∀ a ∈ M, a ∈ N) : Stp F H O F' H' M := ⟨s.sub, s.new, s.keep, s.there, fun a ha => s.own a (h a ha)⟩
/-- a is no cell of what ran, and stood there: it stands as it was -/
theorem Stp.hid (s : Stp F H O F' H' N) {a : Addr} (ha : a ∉ O) (hF : F a = none) {o : HO} (hH : H a = some o) : H' a = H a ∧ F' a = none := by
  refine ⟨by rw [s.keep a o hH ha, hH], ?_⟩
  cases q : F' a with
  | none => exact _root_.rfl
  | some u =>
    rcases s.new a u q hF with z | z
    · exact absurd z ha
    · rw [hH] at z; cases z
theorem Stp.rep (s : Stp F H O F' H' N) {t : T} {x : V} {P : List Addr} (r : rep e F H t x P) (h : ∀ a ∈ P, a ∉ O) : MV.rep e F' H' t x P :=
  rep_mono s.sub r fun a ha => by
    obtain ⟨h1, o, h2⟩ := rep_at r a ha
    exact s.hid (h a ha) h1 h2
theorem Stp.reps (s : Stp F H O F' H' N) {l : List T} {vs : List V} {P : List Addr} (r : reps e F H l vs P) (h : ∀ a ∈ P, a ∉ O) : MV.reps e F' H' l vs P :=
  reps_mono s.sub r fun a ha => by
    obtain ⟨h1, o, h2⟩ := reps_at r a ha
    exact s.hid (h a ha) h1 h2
theorem Stp.tr (s : Stp F H O F1 H1 N1) (t : Stp F1 H1 O1 F2 H2 N2) (h1 : ∀ a ∈ O1, a ∈ N1) (h2 : ∀ a ∈ M, a ∈ N2 ∨ a ∈ N1) : Stp F H O F2 H2 M := by
  have back : ∀ a, a ∈ O1 ∨ H1 a = none → a ∈ O ∨ H a = none := fun a h => by
    rcases h with h | h
    · exact s.own a (h1 a h)
    · cases q : H a with
      | none => exact .inr (Eq.refl _)
      | some o =>
        obtain ⟨o', z⟩ := s.there a o q
        rw [h] at z; cases z
  refine ⟨s.sub.tr t.sub, fun a o q n => ?_, fun a o q n => ?_, fun a o q => ?_, fun a ha => ?_⟩
  · cases z : F1 a with
    | none => exact back a (t.new a o q z)
    | some u => exact s.new a u z n
  · refine t.keep a o (s.keep a o q n) fun m => ?_
    rcases back a (.inl m) with z | z
    · exact n z
    · rw [q] at z; cases z
  · obtain ⟨u, z⟩ := s.there a o q
    exact t.there a u z
  · rcases h2 a ha with m | m
    · exact back a (t.own a m)
    · exact s.own a m
end

/-! ## The state of a frame -/
structure Sta (e : En) (bor : Option V) (F H : Hp) (τ : L2.St) (σ : List T) (O : List Addr) : Prop where
  sub : Sub F H
  nd : O.Nodup
  len : τ.length = σ.length
  vals : ∃ vs, reps e F H σ vs O ∧ ∀ (i : Nat) (t : T) (x : V), σ[i]? = some t → t.isHole = false → vs[i]? = some x → τ[i]? = some (some x)
  bor : ∀ x, bor = some x → τ[0]? = some (some x)

inductive Res (α : Type) where
  | ok (a : α) (σ : List T)
  | exc (C : Str) (ns : List Str) (ts : List T) (σ : List T)
  | stuck

def Res.bind {α β : Type} : Res α → (α → List T → Res β) → Res β
  | .ok a σ, k => k a σ
  | .exc C ns ts σ, _ => .exc C ns ts σ
  | .stuck, _ => .stuck

structure Ct where
  e : En
  bor : Option V
  W : WX

/-- a raised exception's own part -/
def XR (e : En) (F H : Hp) (C : Str) (ns : List Str) (ts : List T) (Ca : Addr) (d : Option Addr) : Prop :=
  e.mg C = some (.ref Ca) ∧ ns.length = ts.length ∧
    ((ns = [] ∧ d = none) ∨ ∃ dx vs, d = some dx ∧ F dx = some (.xd (ns.zip vs)) ∧ reps e F H ts vs [])

def Post {α β : Type} (c : Ct) (R : Hp → Hp → α → β → List Addr → Prop) (F H : Hp) (O : List Addr) (τ : L2.St) (Q : β → Hp → Prop) : Res α → Prop
  | .ok a σ' => ∀ F' H' O' b P, Sta c.e c.bor F' H' τ σ' O' → R F' H' a b P → (O' ++ P).Nodup → Stp F H O F' H' (O' ++ P) → Q b H'
  | .exc C ns ts σ' => ∀ F' H' O' Ca d, Sta c.e c.bor F' H' τ σ' O' → Stp F H O F' H' O' → XR c.e F' H' C ns ts Ca d → c.W (.ref Ca) d τ H'
  | .stuck => False

def Tm {α β : Type} (c : Ct) (R : Hp → Hp → α → β → List Addr → Prop) (f : List T → Res α) : L2.St → Hp → (β → Hp → Prop) → Prop :=
  fun τ H Q => ∃ F σ O, Sta c.e c.bor F H τ σ O ∧ Post c R F H O τ Q (f σ)

abbrev RT (e : En) : Hp → Hp → T → V → List Addr → Prop := rep e
abbrev RTs (e : En) : Hp → Hp → List T → List V → List Addr → Prop := reps e
def RB {α : Type} : Hp → Hp → α → α → List Addr → Prop := fun _ _ a b O => a = b ∧ O = []
abbrev tE (c : Ct) (f : List T → Res T) : TE := Tm c (RT c.e) f
abbrev tT (c : Ct) (f : List T → Res Bool) : TT := Tm c RB f
abbrev tA (c : Ct) (f : List T → Res (List T)) : TA := Tm c (RTs c.e) f

theorem Post.mono {α β : Type} {c : Ct} {R : Hp → Hp → α → β → List Addr → Prop} {F H : Hp} {O : List Addr} {τ : L2.St} {Q Q' : β → Hp → Prop} {r : Res α}
    (p : Post c R F H O τ Q r) (h : ∀ b H1, Q b H1 → Q' b H1) : Post c R F H O τ Q' r := by
  cases r with
  | ok a σ' => exact fun F' H' O' b P s r n t => h _ _ (p F' H' O' b P s r n t)
  | exc C ns ts σ' => exact p
  | stuck => exact p
theorem Tm.mono {α β : Type} {c : Ct} {R : Hp → Hp → α → β → List Addr → Prop} {f : List T → Res α} {τ : L2.St} {H : Hp} {Q Q' : β → Hp → Prop}
    (p : Tm c R f τ H Q) (h : ∀ b H1, Q b H1 → Q' b H1) : Tm c R f τ H Q' := by
  obtain ⟨F, σ, O, s, q⟩ := p
  exact ⟨F, σ, O, s, q.mono h⟩

/-- in the middle of a run that began at F, H, O: the state now, and the cells P that are held beside it -/
structure Mid (c : Ct) (F H : Hp) (O : List Addr) (τ : L2.St) (σ' : List T) (F' H' : Hp) (O' P : List Addr) : Prop where
  st : Sta c.e c.bor F' H' τ σ' O'
  nd : (O' ++ P).Nodup
  stp : Stp F H O F' H' (O' ++ P)

section
variable {α β γ δ : Type} {c : Ct} {F H F1 H1 F2 H2 : Hp} {O O1 O2 P P1 P2 : List Addr} {τ : L2.St} {σ σ1 σ2 : List T}
  {R : Hp → Hp → α → β → List Addr → Prop} {R' : Hp → Hp → γ → δ → List Addr → Prop} {Q : δ → Hp → Prop}
theorem Mid.start (s : Sta c.e c.bor F H τ σ O) : Mid c F H O τ σ F H O [] := ⟨s, by simpa using s.nd, Stp.rfl (by simp)⟩
theorem nd_disj {A B : List Addr} (h : (A ++ B).Nodup) : ∀ a ∈ B, a ∉ A := fun a hb ha => (List.nodup_append.mp h).2.2 a ha a hb _root_.rfl
theorem Mid.disj (m : Mid c F H O τ σ F1 H1 O1 P) : ∀ a ∈ P, a ∉ O1 := nd_disj m.nd
theorem nd_app {A B : List Addr} (ha : A.Nodup) (hb : B.Nodup) (h : ∀ a ∈ B, a ∉ A) : (A ++ B).Nodup :=
  List.nodup_append.mpr ⟨ha, hb, fun a h1 b h2 z => h b h2 (z ▸ h1)⟩
theorem Mid.after (m : Mid c F H O τ σ1 F1 H1 O1 P) (s : Sta c.e c.bor F2 H2 τ σ2 O2) (n : (O2 ++ P2).Nodup) (t : Stp F1 H1 O1 F2 H2 (O2 ++ P2)) (hP : ∀ a ∈ P, ∃ o, H1 a = some o) :
    Mid c F H O τ σ2 F2 H2 O2 (P2 ++ P) := by
  refine ⟨s, ?_, m.stp.tr t (by intro a ha; simp [ha]) (by intro a ha; simp at ha ⊢; rcases ha with h | h | h <;> simp [h])⟩
  rw [← List.append_assoc]
  refine nd_app n (List.nodup_append.mp m.nd).2.1 fun a ha hb => ?_
  rcases t.own a hb with z | z
  · exact m.disj a ha z
  · obtain ⟨o, q⟩ := hP a ha
    rw [z] at q; cases q
/-- a further part runs -/
theorem Mid.run (m : Mid c F H O τ σ1 F1 H1 O1 P) (hP : ∀ a ∈ P, ∃ o, H1 a = some o) {g : List T → Res α} {k : α → List T → Res γ} (p : Post c R' F H O τ Q ((g σ1).bind k)) :
    Tm c R g τ H1 fun y H2 => ∃ u σ2 F2 O2 P2, Mid c F H O τ σ2 F2 H2 O2 (P2 ++ P) ∧ R F2 H2 u y P2 ∧ Stp F1 H1 O1 F2 H2 (O2 ++ P2) ∧ Post c R' F H O τ Q (k u σ2) := by
  refine ⟨F1, σ1, O1, m.st, ?_⟩
  cases q : g σ1 with
  | ok u σ2 =>
    rw [q] at p
    exact fun F2 H2 O2 y P2 s r n t => ⟨u, σ2, F2, O2, P2, m.after s n t hP, r, t, p⟩
  | exc C ns ts σ2 =>
    rw [q] at p
    exact fun F2 H2 O2 Ca d s t x => p F2 H2 O2 Ca d s (m.stp.tr t (by intro a ha; simp [ha]) fun a ha => .inl ha) x
  | stuck => rw [q] at p; exact p.elim
theorem Mid.fin {Q : β → Hp → Prop} (m : Mid c F H O τ σ1 F1 H1 O1 P) {a : α} {b : β} (p : Post c R F H O τ Q (.ok a σ1)) (r : R F1 H1 a b P1) (n : P1.Nodup) (h : ∀ a ∈ P1, a ∈ P) : Q b H1 :=
  p F1 H1 O1 b P1 m.st r (nd_app (List.nodup_append.mp m.nd).1 n fun a ha => m.disj a (h a ha)) (m.stp.sub_own fun a ha => by
    rcases List.mem_append.mp ha with z | z
    · simp [z]
    · simp [h a z])
end
theorem RB.fin {α : Type} {c : Ct} {F H F1 H1 : Hp} {O O1 P : List Addr} {τ : L2.St} {σ1 : List T} {Q : α → Hp → Prop} {a : α} (m : Mid c F H O τ σ1 F1 H1 O1 P)
    (p : Post c RB F H O τ Q (.ok a σ1)) : Q a H1 := m.fin (P1 := []) p ⟨_root_.rfl, _root_.rfl⟩ List.nodup_nil (by simp)

/-! ## Weakening of the readings -/
section
variable {X : Cx}
theorem _root_.L2.PE.wk {e : Expr} {t t' : TE} (h : PE X e t) (k : ∀ σ H Q, t' σ H Q → t σ H Q) : PE X e t' := ⟨fun p s σ H Q I q => h.run p s σ H Q I (k σ H Q q)⟩
theorem _root_.L2.PT.wk {e : Expr} {t t' : TT} (h : PT X e t) (k : ∀ σ H Q, t' σ H Q → t σ H Q) : PT X e t' := ⟨fun p s σ H Q I q => h.run p s σ H Q I (k σ H Q q)⟩
theorem _root_.L2.PW.wk {e : Expr} {t t' : TT} (h : PW X e t) (k : ∀ σ H Q, t' σ H Q → t σ H Q) : PW X e t' := ⟨fun w p s σ H Q I q => h.run w p s σ H Q I (k σ H Q q)⟩
theorem _root_.L2.PA.wk {es : List Expr} {t t' : TA} (h : PA X es t) (k : ∀ σ H Q, t' σ H Q → t σ H Q) : PA X es t' := ⟨fun w p s σ H Q I q => h.run w p s σ H Q I (k σ H Q q)⟩
theorem _root_.L2.PS.wk {st : Stmt} {t t' : TS} (h : PS X st t) (k : ∀ D σ H, t' D σ H → t D σ H) : PS X st t' := ⟨fun p s σ H D I q => h.run p s σ H D I (k D σ H q)⟩
theorem _root_.L2.PSs.wk {st : List Stmt} {t t' : TS} (h : PSs X st t) (k : ∀ D σ H, t' D σ H → t D σ H) : PSs X st t' := ⟨fun p s σ H D I q => h.run p s σ H D I (k D σ H q)⟩
theorem _root_.L2.PG.wk {e : Expr} {t t' : TG} (h : PG X e t) (k : ∀ v σ H Q, t' v σ H Q → t v σ H Q) : PG X e t' := ⟨fun p s σ H v u Q I r q => h.run p s σ H v u Q I r (k v σ H Q q)⟩
theorem _root_.L2.PI.wk {tg e : Expr} {t t' : TI} (h : PI X tg e t) (k : ∀ σ H Q, t' σ H Q → t σ H Q) : PI X tg e t' := ⟨fun p s σ H Q I q => h.run p s σ H Q I (k σ H Q q)⟩
end
end MV

namespace MV
open PySem PySem.Spec PyProof.Rows L2

/-! ## New objects, freezing of temps -/
structure Alc (F H : Hp) (P : List Addr) (F' H' : Hp) (P' : List Addr) : Prop where
  stp : Stp F H P F' H' P'
  sub : Sub F' H'
  nd : P'.Nodup

section
variable {e : En} {F H F1 H1 F2 H2 : Hp} {P P1 P2 O O1 : List Addr}
theorem Alc.rfl (s : Sub F H) (n : P1.Nodup) (h : ∀ a ∈ P1, a ∈ P) : Alc F H P F H P1 := ⟨Stp.rfl h, s, n⟩
theorem Sub.put (s : Sub F H) {O : List Addr} : Sub (put F H O) H := fun a o q => by
  by_cases m : a ∈ O
  · rw [put_in m] at q; exact q
  · rw [put_out m] at q; exact s a o q
/-- the cells P1 (of P) are frozen -/
theorem Alc.freeze (s : Sub F H) (n : ∀ a ∈ P1, F a = none) (h : ∀ a ∈ P1, a ∈ P) : Alc F H P (put F H P1) H [] := by
  refine ⟨⟨put_sub n, fun a o q z => ?_, fun _ _ q _ => q, fun a o q => ⟨o, q⟩, by simp⟩, s.put, List.nodup_nil⟩
  by_cases m : a ∈ P1
  · exact .inl (h a m)
  · rw [put_out m, z] at q; cases q
theorem Alc.tr (s : Alc F H P F1 H1 P1) (t : Alc F1 H1 P1 F2 H2 P2) : Alc F H P F2 H2 P2 :=
  ⟨s.stp.tr t.stp (fun _ h => h) fun _ h => .inl h, t.sub, t.nd⟩
theorem Sub.no (s : Sub F H) {a : Addr} (h : H a = none) : F a = none := by
  cases q : F a with
  | none => exact _root_.rfl
  | some o => rw [s a o q] at h; cases h
theorem Sub.upd2 (s : Sub F H) {a : Addr} {o : HO} (h : H a = none) : Sub (upd F a o) (upd H a o) := fun b u q => by
  by_cases m : b = a
  · subst m; rw [upd_same] at q ⊢; exact q
  · rw [upd_ne m] at q ⊢; exact s b u q
theorem Sub.upd1 (s : Sub F H) {a : Addr} {o : HO} (h : H a = none) : Sub F (upd H a o) := fun b u q => by
  have m : b ≠ a := fun z => by rw [z, s.no h] at q; cases q
  rw [upd_ne m]; exact s b u q
theorem Sub.updF (s : Sub F H) {a : Addr} {o : HO} (h : F a = none) : Sub F (upd F a o) := fun b u q => by
  have m : b ≠ a := fun z => by rw [z, h] at q; cases q
  rw [upd_ne m]; exact q
/-- a new frozen object -/
theorem Alc.newF (s : Sub F H) {a : Addr} {o : HO} (h : H a = none) : Alc F H P (upd F a o) (upd H a o) [] := by
  refine ⟨⟨s.updF (s.no h), fun b u q z => ?_, fun b u q _ => ?_, fun b u q => ?_, by simp⟩, s.upd2 h, List.nodup_nil⟩
  · by_cases m : b = a
    · subst m; exact .inr h
    · rw [upd_ne m, z] at q; cases q
  · have m : b ≠ a := fun z => by rw [z, h] at q; cases q
    rw [upd_ne m]; exact q
  · have m : b ≠ a := fun z => by rw [z, h] at q; cases q
    rw [upd_ne m]; exact ⟨u, q⟩
/-- a new cell -/
theorem Alc.newO (s : Sub F H) {a : Addr} {o : HO} (h : H a = none) (n : P.Nodup) (hP : ∀ b ∈ P, ∃ o, H b = some o) : Alc F H P F (upd H a o) (a :: P) := by
  refine ⟨⟨Sub.rfl, fun b u q z => (by rw [z] at q; cases q), fun b u q _ => ?_, fun b u q => ?_, fun b hb => ?_⟩, s.upd1 h, List.nodup_cons.mpr ⟨fun z => ?_, n⟩⟩
  · have m : b ≠ a := fun z => by rw [z, h] at q; cases q
    rw [upd_ne m]; exact q
  · have m : b ≠ a := fun z => by rw [z, h] at q; cases q
    rw [upd_ne m]; exact ⟨u, q⟩
  · rcases List.mem_cons.mp hb with rfl | hb
    · exact .inr h
    · exact .inl hb
  · obtain ⟨o, q⟩ := hP a z
    rw [h] at q; cases q
theorem Mid.alc {c : Ct} {τ : L2.St} {σ1 : List T} (m : Mid c F H O τ σ1 F1 H1 O1 P) (t : Alc F1 H1 P F2 H2 P2) : Mid c F H O τ σ1 F2 H2 O1 P2 := by
  obtain ⟨vs, r, hv⟩ := m.st.vals
  have dj := m.disj
  have hO := reps_at r
  refine ⟨⟨t.sub, m.st.nd, m.st.len, ⟨vs, t.stp.reps r fun a ha hp => dj a hp ha, hv⟩, m.st.bor⟩, nd_app m.st.nd t.nd fun a ha hb => ?_,
    m.stp.tr t.stp (by intro a ha; simp [ha]) (by intro a ha; rcases List.mem_append.mp ha with h | h <;> simp [h])⟩
  rcases t.stp.own a ha with z | z
  · exact dj a z hb
  · obtain ⟨_, o, q⟩ := hO a hb
    rw [z] at q; cases q

/-! ## Shapes of trees -/
def seqL : T → Option (List T)
  | .lst l => some l
  | .own l => some l
  | .kl l => some l
  | _ => none
def lstL : T → Option (List T)
  | .lst l => some l
  | .own l => some l
  | _ => none
theorem rep_seqL {K : PySem.W.Frag} (hK : e.K = K) (s : Sub F H) {t : T} {l : List T} {x : V} (h : seqL t = some l) (r : rep e F H t x P) :
    ∃ a vs P', x = .ref a ∧ SqL K H a vs ∧ reps e F H l vs P' ∧ (∀ b ∈ P', b ∈ P) ∧ (P.Nodup → P'.Nodup) := by
  subst hK
  cases t <;> simp only [seqL, Option.some.injEq, reduceCtorEq] at h <;> subst h <;> simp only [rep] at r
  · obtain ⟨rfl, a, vs, h1, h2, h3⟩ := r
    exact ⟨a, vs, [], h1, .inl (.inl (s _ _ h2)), h3, by simp, by simp⟩
  · obtain ⟨a, vs, O', h1, rfl, h2, h3, h4⟩ := r
    exact ⟨a, vs, O', h1, .inl (.inl h3), h4, fun b hb => by simp [hb], fun n => (List.nodup_cons.mp n).2⟩
  · obtain ⟨rfl, a, vs, h1, h2, h3⟩ := r
    exact ⟨a, vs, [], h1, s.sql h2, h3, by simp, by simp⟩
theorem rep_lstL (s : Sub F H) {t : T} {l : List T} {x : V} (h : lstL t = some l) (r : rep e F H t x P) :
    ∃ a vs P', x = .ref a ∧ H a = some (.lst vs) ∧ reps e F H l vs P' ∧ (∀ b ∈ P', b ∈ P) ∧ (P.Nodup → P'.Nodup) := by
  cases t <;> simp only [lstL, Option.some.injEq, reduceCtorEq] at h <;> subst h <;> simp only [rep] at r
  · obtain ⟨rfl, a, vs, h1, h2, h3⟩ := r
    exact ⟨a, vs, [], h1, s _ _ h2, h3, by simp, by simp⟩
  · obtain ⟨a, vs, O', h1, rfl, h2, h3, h4⟩ := r
    exact ⟨a, vs, O', h1, h3, h4, fun b hb => by simp [hb], fun n => (List.nodup_cons.mp n).2⟩
theorem rep_tup {l : List T} {x : V} (r : rep e F H (.tup l) x P) : P = [] ∧ ∃ a vs, x = .ref a ∧ SqT e.K F a vs ∧ reps e F H l vs [] := by
  simpa only [rep] using r
theorem rep_v {x y : V} (r : rep e F H (.v y) x P) : x = y ∧ P = [] := by simpa only [rep] using r
theorem rep_v' {y : V} : rep e F H (.v y) y [] := by simp [rep]
/-- places of a read list -/
theorem reps_at? {l : List T} {vs : List V} (r : reps e F H l vs P) {i : Int} {t : T} (h : atI l i = some t) :
    ∃ x Pt, atI vs i = some x ∧ rep e F H t x Pt ∧ (∀ b ∈ Pt, b ∈ P) ∧ (P.Nodup → Pt.Nodup) := by
  unfold atI at h ⊢
  rw [← reps_len r]
  cases q : ixN l.length i with
  | none => rw [q] at h; cases h
  | some j =>
    rw [q] at h
    obtain ⟨x, A, Pt, B, e1, rfl, r1, _⟩ := reps_split r h
    exact ⟨x, Pt, e1, r1, fun b hb => by simp [hb], fun n => (List.nodup_append.mp (List.nodup_append.mp n).1).2.1⟩
end

/-! ## Operators by values -/
abbrev OS := T → T → Option T
/-- the rule r, at trees, gives what s says -/
def OpOk (e : En) (r : R2) (s : OS) : Prop := ∀ (F H : Hp) (P1 P2 P : List Addr) (t u w : T) (x y : V) (Q : VK), Sub F H → rep e F H t x P1 → rep e F H u y P2 → P.Nodup → (∀ a ∈ P, ∃ o, H a = some o) →
  (∀ a ∈ P1, a ∈ P) → (∀ a ∈ P2, a ∈ P) → (∀ a ∈ P1, a ∉ P2) → P1.Nodup → P2.Nodup → s t u = some w →
  (∀ F' H' z P', Alc F H P F' H' P' → rep e F' H' w z P' → Q z H') → r x y H Q
def US (e : En) (r : V → Hp → VK → Prop) (s : T → Option T) : Prop := ∀ (F H : Hp) (P : List Addr) (t w : T) (x : V) (Q : VK), Sub F H → rep e F H t x P → P.Nodup → s t = some w →
  (∀ F' H' z P', Alc F H P F' H' P' → rep e F' H' w z P' → Q z H') → r x H Q
def rOr (r r' : R2) : R2 := fun x y H Q => r x y H Q ∨ r' x y H Q
theorem OpR.or {X : Cx} {f : Value → Value → Sem Value} {r r' : R2} (h : OpR X f r) (h' : OpR X f r') : OpR X f (rOr r r') := fun p s σ H x y v u Q I rx ry q =>
  q.elim (h p s σ H x y v u Q I rx ry) (h' p s σ H x y v u Q I rx ry)
def sOr (s s' : OS) : OS := fun t u => (s t u).orElse fun _ => s' t u
theorem OpOk.or {e : En} {r r' : R2} {s s' : OS} (h : OpOk e r s) (h' : OpOk e r' s') : OpOk e (rOr r r') (sOr s s') := by
  intro F H P1 P2 P t u w x y Q sb r1 r2 n hP m1 m2 dj n1 n2 hs k
  unfold sOr at hs
  cases q : s t u with
  | some z =>
    rw [q] at hs
    cases hs
    exact .inl (h F H P1 P2 P t u w x y Q sb r1 r2 n hP m1 m2 dj n1 n2 q k)
  | none =>
    rw [q] at hs
    exact .inr (h' F H P1 P2 P t u w x y Q sb r1 r2 n hP m1 m2 dj n1 n2 hs k)

def mOp2 (s : OS) (f g : List T → Res T) : List T → Res T := fun σ => (f σ).bind fun t σ1 => (g σ1).bind fun u σ2 =>
  match s t u with
  | some w => .ok w σ2
  | none => .stuck
section
variable {X : Cx} {c : Ct} {a b : Expr} {f g : List T → Res T} {pos : Pos}
theorem rep_some {e : En} {F H : Hp} {t : T} {x : V} {P : List Addr} (r : rep e F H t x P) : ∀ a ∈ P, ∃ o, H a = some o := fun a ha => (rep_at r a ha).2
theorem op2_wk {r : R2} {s : OS} (ok : OpOk c.e r s) (τ : L2.St) (H : Hp) (Q : VK) (h : tE c (mOp2 s f g) τ H Q) : tOp r (tE c f) (tE c g) τ H Q := by
  obtain ⟨F, σ, O, st, p⟩ := h
  refine Tm.mono ((Mid.start st).run (by simp) (g := f) p) fun x H1 ⟨t, σ1, F1, O1, P1, m1, r1, s1, p1⟩ => ?_
  refine Tm.mono (m1.run (by simpa using rep_some r1) (g := g) p1) fun y H2 ⟨u, σ2, F2, O2, P2, m2, r2, s2, p2⟩ => ?_
  have d1 : ∀ a ∈ P1, a ∉ O1 := fun a ha => m1.disj a (by simp [ha])
  have r1' := s2.rep r1 d1
  rw [List.append_nil] at m2
  have nP := (List.nodup_append.mp m2.nd).2.1
  cases q : s t u with
  | none => rw [q] at p2; exact p2.elim
  | some w =>
    rw [q] at p2
    refine ok F2 H2 P1 P2 (P2 ++ P1) t u w x y Q m2.st.sub r1' r2 nP (fun a ha => ?_) (by intro a h; simp [h]) (by intro a h; simp [h]) (fun a h1 h2 => (List.nodup_append.mp nP).2.2 a h2 a h1 rfl)
      (List.nodup_append.mp nP).2.1 (List.nodup_append.mp nP).1 q fun F' H' z P' al rz => ?_
    · rcases List.mem_append.mp ha with h | h
      · exact rep_some r2 a h
      · exact rep_some r1' a h
    · exact (m2.alc al).fin p2 rz al.nd fun _ h => h
theorem e_op {op : Operator} {r : R2} {s : OS} (ho : OpR X (binaryOp op) r) (ok : OpOk c.e r s) (ha : PE X a (tE c f)) (hb : PE X b (tE c g)) :
    PE X (.BinOp a op b pos) (tE c (mOp2 s f g)) := (pe_op ho ha hb).wk (op2_wk ok)
theorem e_cmp {op : CmpOp} {r : R2} {s : OS} (ho : OpR X (compareOp op) r) (ok : OpOk c.e r s) (ha : PE X a (tE c f)) (hb : PE X b (tE c g)) (hm : behindInMarks op b = false) :
    PE X (.Compare a [op] [b] pos) (tE c (mOp2 s f g)) := (pe_cmpR ho ha hb hm).wk (op2_wk ok)
theorem e_ix {r : R2} {s : OS} (hr : IxR X r) (ok : OpOk c.e r s) (ha : PE X a (tE c f)) (hb : PE X b (tE c g)) (hs : PlainIx b) :
    PE X (.Subscript a b pos) (tE c (mOp2 s f g)) := (pe_ix hr ha hb hs).wk (op2_wk ok)
/-- a bool value as a test -/
def mBl (f : List T → Res T) : List T → Res Bool := fun σ => (f σ).bind fun t σ1 =>
  match t with
  | .v (.bl k) => .ok k σ1
  | _ => .stuck
theorem test_wk {f : List T → Res T} (τ : L2.St) (H : Hp) (Q : Bool → Hp → Prop) (h : tT c (mBl f) τ H Q) : tTest (tE c f) τ H Q := by
  obtain ⟨F, σ, O, st, p⟩ := h
  refine Tm.mono ((Mid.start st).run (by simp) (g := f) p) fun x H1 ⟨t, σ1, F1, O1, P1, m1, r1, s1, p1⟩ => ?_
  split at p1
  · obtain ⟨rfl, _⟩ := rep_v r1
    exact ⟨_, rfl, RB.fin m1 p1⟩
  · exact p1.elim
theorem tTest_mono {t : TE} {u : TE} {τ : L2.St} {H : Hp} {Q : Bool → Hp → Prop} (k : ∀ σ H Q, t σ H Q → u σ H Q) (h : tTest t τ H Q) : tTest u τ H Q := k _ _ _ h
theorem t_cmp {op : CmpOp} {r : R2} {s : OS} (ho : OpR X (compareOp op) r) (ok : OpOk c.e r s) (ha : PE X a (tE c f)) (hb : PE X b (tE c g)) (hm : behindInMarks op b = false) :
    PT X (.Compare a [op] [b] pos) (tT c (mBl (mOp2 s f g))) := (pt_cmpR ho ha hb hm).wk fun τ H Q h => tTest_mono (op2_wk ok) (test_wk τ H Q h)
end

/-! ### ints -/
def iOp (g : Int → Int → Option V) : OS := fun t u =>
  match t, u with
  | .v (.int i), .v (.int j) => (g i j).map T.v
  | _, _ => none
theorem iOp_inv {g : Int → Int → Option V} {t u w : T} (h : iOp g t u = some w) : ∃ i j z, t = .v (.int i) ∧ u = .v (.int j) ∧ g i j = some z ∧ w = .v z := by
  unfold iOp at h
  split at h
  · rename_i i j
    cases q : g i j with
    | none => rw [q] at h; cases h
    | some z => rw [q] at h; cases h; exact ⟨i, j, z, rfl, rfl, q, rfl⟩
  · cases h
theorem ok_iOp {e : En} {r : R2} {g : Int → Int → Option V} (h : ∀ i j z H Q, g i j = some z → Q z H → r (.int i) (.int j) H Q) : OpOk e r (iOp g) := by
  intro F H P1 P2 P t u w x y Q sb r1 r2 n hP m1 m2 dj n1 n2 hs k
  obtain ⟨i, j, z, rfl, rfl, hg, rfl⟩ := iOp_inv hs
  obtain ⟨rfl, rfl⟩ := rep_v r1
  obtain ⟨rfl, rfl⟩ := rep_v r2
  exact h i j z H Q hg (k F H z [] (Alc.rfl sb (by simp) (by simp)) rep_v')
theorem ok_rI0 {e : En} {g : Int → Int → V} : OpOk e (rI0 g) (iOp fun i j => some (g i j)) := ok_iOp fun i j z H Q h q => by cases h; exact ⟨i, j, rfl, rfl, q⟩
theorem ok_rI {e : En} {C : Int → Int → Prop} {g : Int → Int → V} {C' : Int → Int → Bool} (hc : ∀ i j, C' i j = true → C i j) : OpOk e (rI C g) (iOp fun i j => if C' i j then some (g i j) else none) :=
  ok_iOp fun i j z H Q h q => by
    split at h
    · rename_i hh; cases h; exact ⟨i, j, rfl, rfl, hc i j hh, q⟩
    · cases h
def mulB (i j : Int) : Bool := decide (i.natAbs.log2 + j.natAbs.log2 < 1000000)
def divB (_ j : Int) : Bool := decide (0 < j) && decide (j.natAbs.log2 < 9000)
def modB (_ j : Int) : Bool := decide (0 < j)
def sAdd : OS := iOp fun i j => some (.int (i + j))
def sSub : OS := iOp fun i j => some (.int (i - j))
def sMul : OS := iOp fun i j => if mulB i j then some (.int (i * j)) else none
def sDiv : OS := iOp fun i j => if divB i j then some (.int (i / j)) else none
def sMod : OS := iOp fun i j => if modB i j then some (.int (i % j)) else none
def powB (i j : Int) : Bool := decide (0 ≤ j) && decide (j ≤ 1000000) && decide (i.natAbs < 2 ^ 64)
def sPow : OS := iOp fun i j => if powB i j then some (.int (i ^ j.toNat)) else none
def sLt : OS := iOp fun i j => some (.bl (decide (i < j)))
def sLe : OS := iOp fun i j => some (.bl (decide (i ≤ j)))
def sGt : OS := iOp fun i j => some (.bl (decide (j < i)))
def sGe : OS := iOp fun i j => some (.bl (decide (j ≤ i)))
section
variable {X : Cx} {e : En}
theorem ok_add : OpOk e (rI0 fun i j => .int (i + j)) sAdd := ok_rI0
theorem ok_sub : OpOk e (rI0 fun i j => .int (i - j)) sSub := ok_rI0
theorem ok_mul : OpOk e (rI CMulW fun i j => .int (i * j)) sMul := ok_rI fun i j h => by
  unfold mulB at h; simp only [decide_eq_true_eq] at h; exact h
theorem ok_div : OpOk e (rI CDivW fun i j => .int (i / j)) sDiv := ok_rI fun i j h => by
  unfold divB at h; simp only [Bool.and_eq_true, decide_eq_true_eq] at h; exact h
theorem ok_mod : OpOk e (rI (fun _ j => 0 < j) fun i j => .int (i % j)) sMod := ok_rI fun i j h => of_decide_eq_true h
theorem ok_pow : OpOk e (rI CPow fun i j => .int (i ^ j.toNat)) sPow := ok_rI fun i j h => by
  unfold powB at h; simp only [Bool.and_eq_true, decide_eq_true_eq] at h; exact ⟨h.1.1, h.1.2, h.2⟩
theorem ok_lt : OpOk e (rI0 fun i j => .bl (decide (i < j))) sLt := ok_rI0
theorem ok_le : OpOk e (rI0 fun i j => .bl (decide (i ≤ j))) sLe := ok_rI0
theorem ok_gt : OpOk e (rI0 fun i j => .bl (decide (j < i))) sGt := ok_rI0
theorem ok_ge : OpOk e (rI0 fun i j => .bl (decide (j ≤ i))) sGe := ok_rI0
end

/-! ### constants, names, None -/
def mC (t : T) : List T → Res T := fun σ => .ok t σ
section
variable {X : Cx} {c : Ct}
theorem const_wk {v : V} (τ : L2.St) (H : Hp) (Q : VK) (h : tE c (mC (.v v)) τ H Q) : tC v τ H Q := by
  obtain ⟨F, σ, O, st, p⟩ := h
  exact (Mid.start st).fin p rep_v' (by simp) (by simp)
theorem e_c {e : Expr} {v : V} (h : PE X e (tC v)) : PE X e (tE c (mC (.v v))) := h.wk const_wk
def mVar (i : Nat) : List T → Res T := fun σ =>
  match σ[i]? with
  | some t => if t.isHole then .stuck else .ok (fz t) (σ.set i (fz t))
  | none => .stuck
/-- what a slot holds -/
theorem Sta.slot {e : En} {bor : Option V} {F H : Hp} {τ : L2.St} {σ : List T} {O : List Addr} (s : Sta e bor F H τ σ O) {i : Nat} {t : T} (h : σ[i]? = some t) (hh : t.isHole = false) :
    ∃ x O1 Ot O2, τ[i]? = some (some x) ∧ O = O1 ++ Ot ++ O2 ∧ rep e F H t x Ot ∧
      ∀ {F' H' : Hp} {t' : T} {Ot' : List Addr}, Sub F F' → Sub F' H' → (∀ a ∈ O1 ++ O2, H' a = H a ∧ F' a = none) → rep e F' H' t' x Ot' → (O1 ++ Ot' ++ O2).Nodup →
        Sta e bor F' H' τ (σ.set i t') (O1 ++ Ot' ++ O2) := by
  obtain ⟨vs, r, hv⟩ := s.vals
  obtain ⟨x, O1, Ot, O2, e1, rfl, r1, back⟩ := reps_split r h
  refine ⟨x, O1, Ot, O2, hv i t x h hh e1, rfl, r1, fun {F' H' t' Ot'} s1 s2 k r' n => ?_⟩
  refine ⟨s2, n, by simpa using s.len, ⟨vs.set i x, back s1 k r', fun j u y h1 h2 h3 => ?_⟩, s.bor⟩
  by_cases hj : j = i
  · subst hj
    have hlt : j < vs.length := by
      rw [← reps_len r]
      exact (List.getElem?_eq_some_iff.mp h).1
    rw [List.getElem?_set_self hlt] at h3
    cases h3
    exact hv j t x h hh e1
  · rw [List.getElem?_set_ne (Ne.symm hj)] at h1 h3
    exact hv j u y h1 h2 h3
theorem nd3 {A B C : List Addr} (h : (A ++ B ++ C).Nodup) : A.Nodup ∧ B.Nodup ∧ C.Nodup ∧ (∀ a ∈ A, a ∉ B) ∧ (∀ a ∈ A, a ∉ C) ∧ (∀ a ∈ B, a ∉ C) := by
  obtain ⟨h1, h2, h3⟩ := List.nodup_append.mp h
  obtain ⟨h4, h5, h6⟩ := List.nodup_append.mp h1
  exact ⟨h4, h5, h2, fun a x y => h6 a x a y rfl, fun a x y => h3 a (by simp [x]) a y rfl, fun a x y => h3 a (by simp [x]) a y rfl⟩
theorem nd3' {A B C B' : List Addr} (h : (A ++ B ++ C).Nodup) (hb : B'.Nodup) (k : ∀ a ∈ B', a ∉ A ∧ a ∉ C) : (A ++ B' ++ C).Nodup := by
  obtain ⟨h1, h2, h3, h4, h5, h6⟩ := nd3 h
  exact nd_app (nd_app h1 hb fun a x => (k a x).1) h3 fun a x y => (List.mem_append.mp y).elim (fun z => h5 a z x) fun z => (k a z).2 x
theorem var_wk {i : Nat} (τ : L2.St) (H : Hp) (Q : VK) (h : tE c (mVar i) τ H Q) : tVar i τ H Q := by
  obtain ⟨F, σ, O, st, p⟩ := h
  unfold mVar at p
  cases q : σ[i]? with
  | none => rw [q] at p; exact p.elim
  | some t =>
    rw [q] at p
    dsimp only at p
    cases hh : t.isHole with
    | true => rw [hh] at p; exact p.elim
    | false =>
      rw [hh] at p
      obtain ⟨x, O1, Ot, O2, e1, rfl, r1, back⟩ := st.slot q hh
      have n := nd3 st.nd
      have hF : ∀ a ∈ Ot, F a = none := fun a ha => (rep_at r1 a ha).1
      have al : Alc F H (O1 ++ Ot ++ O2) (put F H Ot) H [] := Alc.freeze st.sub hF (by intro a h; simp [h])
      have rf : rep c.e (put F H Ot) H (fz t) x [] := rep_fz (put_sub hF) (O' := Ot) (fun a ha => put_in ha) r1 fun _ h => h
      have st' := back (F' := put F H Ot) (H' := H) (t' := fz t) (Ot' := []) (put_sub hF) st.sub.put (fun a ha => ⟨rfl, ?_⟩) rf (nd3' st.nd (by simp) (by simp))
      · refine ⟨x, e1, p _ H _ x [] st' rf (by simpa using st'.nd) ?_⟩
        refine ⟨al.stp.sub, al.stp.new, al.stp.keep, al.stp.there, fun a ha => .inl ?_⟩
        simp at ha ⊢
        rcases ha with h | h <;> simp [h]
      · obtain ⟨vs, r, _⟩ := st.vals
        have nm : a ∉ Ot := fun z => by
          rcases List.mem_append.mp ha with h | h
          · exact n.2.2.2.1 a h z
          · exact n.2.2.2.2.2 a z h
        rw [put_out nm]
        exact (reps_at r a (by rcases List.mem_append.mp ha with h | h <;> simp [h])).1
theorem e_var {i : Nat} {e : Expr} (h : PE X e (tVar i)) : PE X e (tE c (mVar i)) := h.wk var_wk
end
end MV

namespace MV
open PySem PySem.Spec PyProof.Rows L2

/-! ## Frozen lists, item by item -/
section
variable {e : En} {F H F' H' : Hp}
def Fr2 (e : En) (F H : Hp) (l : List T) (vs : List V) : Prop := l.length = vs.length ∧ ∀ (i : Nat) (t : T) (x : V), l[i]? = some t → vs[i]? = some x → rep e F H t x []
theorem reps_fr2 : ∀ {l : List T} {vs : List V}, reps e F H l vs [] ↔ Fr2 e F H l vs
  | [], vs => by
    simp only [reps, Fr2]
    constructor
    · rintro ⟨rfl, _⟩
      exact ⟨rfl, fun i t x h => by simp at h⟩
    · rintro ⟨h, _⟩
      exact ⟨(List.length_eq_zero_iff.mp h.symm), trivial⟩
  | u :: l, [] => by simp [reps, Fr2]
  | u :: l, y :: vs => by
    simp only [reps]
    constructor
    · rintro ⟨x, xs, O1, O2, h1, h2, h3, h4⟩
      cases h1
      obtain ⟨rfl, rfl⟩ := List.append_eq_nil_iff.mp h2.symm
      have ih := reps_fr2.mp h4
      refine ⟨by simp [ih.1], fun i t x e1 e2 => ?_⟩
      cases i with
      | zero => simp at e1 e2; subst e1 e2; exact h3
      | succ i => simp at e1 e2; exact ih.2 i t x e1 e2
    · rintro ⟨h1, h2⟩
      exact ⟨y, vs, [], [], rfl, rfl, h2 0 u y rfl rfl, reps_fr2.mpr ⟨by simpa using h1, fun i t x e1 e2 => h2 (i + 1) t x (by simpa using e1) (by simpa using e2)⟩⟩
theorem Fr2.drop {l : List T} {vs : List V} (h : Fr2 e F H l vs) (n : Nat) : Fr2 e F H (l.drop n) (vs.drop n) :=
  ⟨by simp [h.1], fun i t x a b => h.2 (n + i) t x (by simpa [List.getElem?_drop] using a) (by simpa [List.getElem?_drop] using b)⟩
theorem Fr2.take {l : List T} {vs : List V} (h : Fr2 e F H l vs) (n : Nat) : Fr2 e F H (l.take n) (vs.take n) := by
  refine ⟨by simp [h.1], fun i t x a b => ?_⟩
  rw [List.getElem?_take] at a b
  split at a
  · rename_i q; rw [if_pos q] at b; exact h.2 i t x a b
  · cases a
theorem Fr2.app {l m : List T} {vs ws : List V} (h : Fr2 e F H l vs) (k : Fr2 e F H m ws) : Fr2 e F H (l ++ m) (vs ++ ws) := by
  refine ⟨by simp [h.1, k.1], fun i t x a b => ?_⟩
  rw [List.getElem?_append] at a b
  rw [h.1] at a
  split at a
  · rename_i q; rw [if_pos q] at b; exact h.2 i t x a b
  · rename_i q; rw [if_neg q] at b; exact k.2 _ t x a b
theorem Fr2.rev {l : List T} {vs : List V} (h : Fr2 e F H l vs) : Fr2 e F H l.reverse vs.reverse := by
  refine ⟨by simp [h.1], fun i t x a b => ?_⟩
  have hi : i < l.length := by
    have := (List.getElem?_eq_some_iff.mp a).1
    simpa using this
  rw [List.getElem?_reverse hi] at a
  rw [List.getElem?_reverse (by rw [← h.1]; exact hi), ← h.1] at b
  exact h.2 _ t x a b
theorem Fr2.nil : Fr2 e F H [] [] := ⟨rfl, fun i t x h => by simp at h⟩
theorem Fr2.repl {l : List T} {vs : List V} (h : Fr2 e F H l vs) : ∀ k : Nat, Fr2 e F H (List.replicate k l).flatten (List.replicate k vs).flatten
  | 0 => Fr2.nil
  | k + 1 => by
    rw [List.replicate_succ, List.replicate_succ, List.flatten_cons, List.flatten_cons]
    exact h.app (Fr2.repl h k)
theorem Fr2.mono {l : List T} {vs : List V} (h : Fr2 e F H l vs) (s : Sub F F') : Fr2 e F' H' l vs := ⟨h.1, fun i t x a b => rep_mono s (h.2 i t x a b) (by simp)⟩
/-- the cells P' are frozen, a new list of frozen things is laid -/
theorem frz_new {P P' : List Addr} {l w : List T} {vs ws : List V} {p : Addr} (s : Sub F H) (r : reps e F H l vs P') (m : ∀ a ∈ P', a ∈ P) (hp : H p = none)
    (g : Fr2 e (put F H P') H (fzs l) vs → Fr2 e (put F H P') H w ws) :
    Alc F H P (put F H P') (upd H p (.lst ws)) [p] ∧ rep e (put F H P') (upd H p (.lst ws)) (.own w) (.ref p) [p] := by
  have hF : ∀ a ∈ P', F a = none := fun a ha => (reps_at r a ha).1
  have a1 : Alc F H P (put F H P') H [] := Alc.freeze s hF m
  have a2 := Alc.newO (P := []) (o := .lst ws) a1.sub hp List.nodup_nil (by simp)
  have fr := g (reps_fr2.mp (reps_fz (put_sub hF) (O' := P') (fun a ha => put_in ha) r fun _ h => h))
  refine ⟨a1.tr a2, ?_⟩
  simp only [rep]
  exact ⟨p, ws, [], rfl, rfl, a1.sub.no hp, upd_same, reps_fr2.mpr (fr.mono Sub.rfl)⟩
theorem frz_newT {P P' : List Addr} {l w : List T} {vs ws : List V} {p : Addr} (s : Sub F H) (r : reps e F H l vs P') (m : ∀ a ∈ P', a ∈ P) (hp : H p = none)
    (g : Fr2 e (put F H P') H (fzs l) vs → Fr2 e (put F H P') H w ws) :
    Alc F H P (upd (put F H P') p (.tup ws)) (upd H p (.tup ws)) [] ∧ rep e (upd (put F H P') p (.tup ws)) (upd H p (.tup ws)) (.tup w) (.ref p) [] := by
  have hF : ∀ a ∈ P', F a = none := fun a ha => (reps_at r a ha).1
  have a1 : Alc F H P (put F H P') H [] := Alc.freeze s hF m
  have a2 := Alc.newF (P := []) (o := .tup ws) a1.sub hp
  have fr := g (reps_fr2.mp (reps_fz (put_sub hF) (O' := P') (fun a ha => put_in ha) r fun _ h => h))
  refine ⟨a1.tr a2, ?_⟩
  simp only [rep]
  exact ⟨trivial, p, ws, rfl, .inl (.inl upd_same), reps_fr2.mpr (fr.mono (Sub.updF a1.sub (a1.sub.no hp)))⟩
end

/-! ## Argument lists, displays -/
def mNil : List T → Res (List T) := fun σ => .ok [] σ
def mCons (f : List T → Res T) (g : List T → Res (List T)) : List T → Res (List T) := fun σ => (f σ).bind fun t σ1 => (g σ1).bind fun ts σ2 => .ok (t :: ts) σ2
def szB (n : Nat) : Bool := decide (n ≤ 1000000)
theorem szB_line {n : Nat} (h : szB n = true) : n < sizeLine := by
  have h := of_decide_eq_true h
  rw [sizeLine_eq]; omega
def mTup (g : List T → Res (List T)) : List T → Res T := fun σ => (g σ).bind fun ts σ1 => if szB ts.length then .ok (.tup (fzs ts)) σ1 else .stuck
def mLst (g : List T → Res (List T)) : List T → Res T := fun σ => (g σ).bind fun ts σ1 => if szB ts.length then .ok (.own ts) σ1 else .stuck
section
variable {X : Cx} {c : Ct} {a b : Expr} {es : List Expr} {f : List T → Res T} {g : List T → Res (List T)} {pos : Pos}
theorem e_nil : PA X [] (tA c mNil) := (pa_nil).wk fun τ H Q h => by
  obtain ⟨F, σ, O, st, p⟩ := h
  exact (Mid.start st).fin p (by simp [reps]) (P1 := []) (by simp) (by simp)
theorem e_cons (ha : PE X a (tE c f)) (hr : PA X es (tA c g)) (hs : starEach (a :: es) X.env = (false, eval a X.env) :: starEach es X.env := by rfl) : PA X (a :: es) (tA c (mCons f g)) :=
  (pa_cons ha hr hs).wk fun τ H Q h => by
    obtain ⟨F, σ, O, st, p⟩ := h
    refine Tm.mono ((Mid.start st).run (by simp) (g := f) p) fun x H1 ⟨t, σ1, F1, O1, P1, m1, r1, s1, p1⟩ => ?_
    refine Tm.mono (m1.run (by simpa using rep_some r1) (g := g) p1) fun y H2 ⟨u, σ2, F2, O2, P2, m2, r2, s2, p2⟩ => ?_
    have r1' := s2.rep r1 fun a ha => m1.disj a (by simp [ha])
    rw [List.append_nil] at m2
    have nP := (List.nodup_append.mp m2.nd).2.1
    refine m2.fin (P1 := P1 ++ P2) p2 ?_ (List.perm_append_comm.nodup_iff.mp nP) (by intro a h; simp at h ⊢; exact h.symm)
    simp only [reps]
    exact ⟨x, y, P1, P2, rfl, rfl, r1', r2⟩
theorem reps_some {e : En} {F H : Hp} {l : List T} {vs : List V} {P : List Addr} (r : reps e F H l vs P) : ∀ a ∈ P, ∃ o, H a = some o := fun a ha => (reps_at r a ha).2
theorem e_tup {k : Nat} (h : PA X es (tA c g)) : PE X (.Tuple es k pos) (tE c (mTup g)) := (pe_tup h).wk fun τ H Q h => by
  obtain ⟨F, σ, O, st, p⟩ := h
  refine Tm.mono ((Mid.start st).run (by simp) (g := g) p) fun xs H1 ⟨ts, σ1, F1, O1, P1, m1, r1, s1, p1⟩ => ?_
  rw [List.append_nil] at m1
  cases hz : szB ts.length with
  | false => rw [hz] at p1; exact p1.elim
  | true =>
    rw [hz] at p1
    refine ⟨by rw [← reps_len r1]; exact Nat.le_of_lt (szB_line hz), fun q hq => ?_⟩
    obtain ⟨al, rp⟩ := frz_newT (w := fzs ts) (ws := xs) m1.st.sub r1 (fun _ h => h) hq fun h => h
    exact (m1.alc al).fin p1 rp al.nd fun _ h => h
theorem e_lst {k : PySem.Pos} (h : PA X es (tA c g)) : PE X (.List es k) (tE c (mLst g)) := (pe_lst h).wk fun τ H Q h => by
  obtain ⟨F, σ, O, st, p⟩ := h
  refine Tm.mono ((Mid.start st).run (by simp) (g := g) p) fun xs H1 ⟨ts, σ1, F1, O1, P1, m1, r1, s1, p1⟩ => ?_
  rw [List.append_nil] at m1
  cases hz : szB ts.length with
  | false => rw [hz] at p1; exact p1.elim
  | true =>
    rw [hz] at p1
    refine ⟨by rw [← reps_len r1]; exact Nat.le_of_lt (szB_line hz), fun q hq => ?_⟩
    have nP := (List.nodup_append.mp m1.nd).2.1
    have al := Alc.newO (P := P1) (o := .lst xs) m1.st.sub hq nP (reps_some r1)
    refine (m1.alc al).fin p1 (P1 := q :: P1) ?_ al.nd fun _ h => h
    simp only [rep]
    refine ⟨q, xs, P1, rfl, rfl, m1.st.sub.no hq, upd_same, reps_mono Sub.rfl r1 fun a ha => ⟨upd_ne fun z => ?_, (reps_at r1 a ha).1⟩⟩
    obtain ⟨o, e⟩ := reps_some r1 a ha
    rw [z, hq] at e; cases e
end

/-! ## Tests, choices -/
def mNot (f : List T → Res Bool) : List T → Res Bool := fun σ => (f σ).bind fun k σ1 => .ok (!k) σ1
def mAnd (f g : List T → Res Bool) : List T → Res Bool := fun σ => (f σ).bind fun k σ1 => if k then g σ1 else .ok false σ1
def mOr (f g : List T → Res Bool) : List T → Res Bool := fun σ => (f σ).bind fun k σ1 => if k then .ok true σ1 else g σ1
def mIfE (f : List T → Res Bool) (g h : List T → Res T) : List T → Res T := fun σ => (f σ).bind fun k σ1 => if k then g σ1 else h σ1
def mAndV (f g : List T → Res T) : List T → Res T := fun σ => (mBl f σ).bind fun k σ1 => if k then g σ1 else .ok (.v (.bl false)) σ1
def mOrV (f g : List T → Res T) : List T → Res T := fun σ => (mBl f σ).bind fun k σ1 => if k then .ok (.v (.bl true)) σ1 else g σ1
def mNotV (f : List T → Res T) : List T → Res T := fun σ => (mBl f σ).bind fun k σ1 => .ok (.v (.bl (!k))) σ1
section
variable {X : Cx} {c : Ct} {a b d : Expr} {rest : List Expr} {f g : List T → Res Bool} {fe ge he : List T → Res T} {pos : Pos}
/-- the run goes on with k, or ends -/
theorem Mid.goes {α β : Type} {c : Ct} {F H F1 H1 : Hp} {O O1 : List Addr} {τ : L2.St} {σ1 : List T} {R : Hp → Hp → α → β → List Addr → Prop} {Q : β → Hp → Prop} (m : Mid c F H O τ σ1 F1 H1 O1 []) {k : List T → Res α}
    (p : Post c R F H O τ Q (k σ1)) : Tm c R k τ H1 Q := by
  refine ⟨F1, σ1, O1, m.st, ?_⟩
  have s := m.stp
  rw [List.append_nil] at s
  cases q : k σ1 with
  | ok a σ2 =>
    rw [q] at p
    exact fun F2 H2 O2 b P2 s2 r n t => p F2 H2 O2 b P2 s2 r n (s.tr t (fun _ h => h) fun _ h => .inl h)
  | exc C ns ts σ2 =>
    rw [q] at p
    exact fun F2 H2 O2 Ca d s2 t x => p F2 H2 O2 Ca d s2 (s.tr t (fun _ h => h) fun _ h => .inl h) x
  | stuck => rw [q] at p; exact p.elim
theorem RB.mid {α : Type} {c : Ct} {F H F1 H1 : Hp} {O O1 P P1 : List Addr} {τ : L2.St} {σ1 : List T} {a b : α} (m : Mid c F H O τ σ1 F1 H1 O1 (P1 ++ [])) (r : RB F1 H1 a b P1) : a = b ∧ Mid c F H O τ σ1 F1 H1 O1 [] := by
  obtain ⟨rfl, rfl⟩ := r
  exact ⟨rfl, m⟩
theorem t_not (h : PT X a (tT c f)) : PT X (.UnaryOp .Not a pos) (tT c (mNot f)) := (pt_not h).wk fun τ H Q h => by
  obtain ⟨F, σ, O, st, p⟩ := h
  refine Tm.mono ((Mid.start st).run (by simp) (g := f) p) fun x H1 ⟨t, σ1, F1, O1, P1, m1, r1, s1, p1⟩ => ?_
  obtain ⟨rfl, m⟩ := RB.mid (P := []) m1 r1
  exact RB.fin m p1
theorem t_and1 (h : PT X a (tT c f)) : PW X (.BoolOp .And [a] pos) (tT c f) := pw_and1 h
theorem t_or1 (h : PT X a (tT c f)) : PW X (.BoolOp .Or [a] pos) (tT c f) := pw_or1 h
theorem t_and (ha : PT X a (tT c f)) (hb : PW X (.BoolOp .And (b :: rest) pos) (tT c g)) : PW X (.BoolOp .And (a :: b :: rest) pos) (tT c (mAnd f g)) := (pw_and ha hb).wk fun τ H Q h => by
  obtain ⟨F, σ, O, st, p⟩ := h
  refine Tm.mono ((Mid.start st).run (by simp) (g := f) p) fun x H1 ⟨t, σ1, F1, O1, P1, m1, r1, s1, p1⟩ => ?_
  obtain ⟨rfl, m⟩ := RB.mid (P := []) m1 r1
  cases t with
  | true => exact m.goes p1
  | false => exact RB.fin m p1
theorem t_or (ha : PT X a (tT c f)) (hb : PW X (.BoolOp .Or (b :: rest) pos) (tT c g)) : PW X (.BoolOp .Or (a :: b :: rest) pos) (tT c (mOr f g)) := (pw_or ha hb).wk fun τ H Q h => by
  obtain ⟨F, σ, O, st, p⟩ := h
  refine Tm.mono ((Mid.start st).run (by simp) (g := f) p) fun x H1 ⟨t, σ1, F1, O1, P1, m1, r1, s1, p1⟩ => ?_
  obtain ⟨rfl, m⟩ := RB.mid (P := []) m1 r1
  cases t with
  | false => exact m.goes p1
  | true => exact RB.fin m p1
theorem e_ifE (hc : PT X d (tT c f)) (ha : PE X a (tE c ge)) (hb : PE X b (tE c he)) : PE X (.IfExp d a b pos) (tE c (mIfE f ge he)) := (pe_ifExp hc ha hb).wk fun τ H Q h => by
  obtain ⟨F, σ, O, st, p⟩ := h
  refine Tm.mono ((Mid.start st).run (by simp) (g := f) p) fun x H1 ⟨t, σ1, F1, O1, P1, m1, r1, s1, p1⟩ => ?_
  obtain ⟨rfl, m⟩ := RB.mid (P := []) m1 r1
  cases t with
  | true => exact m.goes p1
  | false => exact m.goes p1
/-- a bool among values -/
theorem bl_run {α β : Type} {R : Hp → Hp → α → β → List Addr → Prop} {Q : β → Hp → Prop} {τ : L2.St} {H F : Hp} {σ : List T} {O : List Addr} {k : Bool → List T → Res α} (st : Sta c.e c.bor F H τ σ O)
    (p : Post c R F H O τ Q ((mBl fe σ).bind k)) : tE c fe τ H fun x H1 => ∃ d σ1 F1 O1, x = .bl d ∧ Mid c F H O τ σ1 F1 H1 O1 [] ∧ Post c R F H O τ Q (k d σ1) := by
  have p' : Post c R F H O τ Q ((fe σ).bind fun t σ1 => (match t with | .v (.bl k) => Res.ok k σ1 | _ => .stuck : Res Bool).bind k) := by
    unfold mBl at p
    cases q : fe σ with
    | ok t σ1 => rw [q] at p; exact p
    | exc _ _ _ _ => rw [q] at p; exact p
    | stuck => rw [q] at p; exact p
  refine Tm.mono ((Mid.start st).run (by simp) (g := fe) p') fun x H1 ⟨t, σ1, F1, O1, P1, m1, r1, s1, p1⟩ => ?_
  split at p1
  · obtain ⟨rfl, rfl⟩ := rep_v r1
    exact ⟨_, σ1, F1, O1, rfl, m1, p1⟩
  · exact p1.elim
theorem e_not (h : PE X a (tE c fe)) : PE X (.UnaryOp .Not a pos) (tE c (mNotV fe)) := (pe_not h).wk fun τ H Q h => by
  obtain ⟨F, σ, O, st, p⟩ := h
  refine Tm.mono (bl_run st p) fun x H1 ⟨d, σ1, F1, O1, e1, m, p1⟩ => ⟨d, e1, m.fin p1 rep_v' (by simp) (by simp)⟩
theorem e_one {op : BoolOp} (h : PE X a (tE c fe)) : PE X (.BoolOp op [a] pos) (tE c fe) := pe_one h
theorem e_and (ha : PE X a (tE c fe)) (hb : PE X (.BoolOp .And (b :: rest) pos) (tE c ge)) : PE X (.BoolOp .And (a :: b :: rest) pos) (tE c (mAndV fe ge)) := (pe_and ha hb).wk fun τ H Q h => by
  obtain ⟨F, σ, O, st, p⟩ := h
  refine Tm.mono (bl_run st p) fun x H1 ⟨d, σ1, F1, O1, e1, m, p1⟩ => ⟨d, e1, ?_⟩
  cases d with
  | true => exact m.goes p1
  | false => exact m.fin p1 rep_v' (by simp) (by simp)
theorem e_or (ha : PE X a (tE c fe)) (hb : PE X (.BoolOp .Or (b :: rest) pos) (tE c ge)) : PE X (.BoolOp .Or (a :: b :: rest) pos) (tE c (mOrV fe ge)) := (pe_or ha hb).wk fun τ H Q h => by
  obtain ⟨F, σ, O, st, p⟩ := h
  refine Tm.mono (bl_run st p) fun x H1 ⟨d, σ1, F1, O1, e1, m, p1⟩ => ⟨d, e1, ?_⟩
  cases d with
  | false => exact m.goes p1
  | true => exact m.fin p1 rep_v' (by simp) (by simp)
/-- a value by its truth -/
def truT : T → Option Bool
  | .v .non => some false
  | .v (.bl b) => some b
  | .v (.int i) => some (i != 0)
  | .v (.str y) => if szB y.length then some ((y.length : Int) != 0) else none
  | .tup l => some (!l.isEmpty)
  | .lst l => some (!l.isEmpty)
  | .own l => some (!l.isEmpty)
  | .kl l => some (!l.isEmpty)
  | _ => none
theorem truT_ok {e : En} {K : PySem.W.Frag} (hK : e.K = K) {F H : Hp} {P : List Addr} {t : T} {x : V} {k : Bool} (s : Sub F H) (r : rep e F H t x P) (h : truT t = some k) : TruV K x H k := by
  subst hK
  have emp : ∀ {l : List T} {vs : List V} {P : List Addr}, reps e F H l vs P → l.isEmpty = vs.isEmpty := fun {l vs P} r => by
    have := reps_len r
    cases l <;> cases vs <;> simp_all
  cases t <;> simp only [truT] at h <;> try cases h
  · obtain ⟨rfl, rfl⟩ := rep_v r
    cases x <;> simp only [reduceCtorEq, Option.some.injEq] at h
    · exact h.symm
    · exact h.symm
    · exact h.symm
    · split at h
      · rename_i z; cases h; exact ⟨Nat.le_of_lt (szB_line z), rfl⟩
      · cases h
  · simp only [rep] at r
    obtain ⟨_, a, vs, rfl, h2, h3⟩ := r
    exact .inr (.inl ⟨vs, s.sqt h2, by rw [emp h3]⟩)
  · obtain ⟨a, vs, P', rfl, h2, h3, _⟩ := rep_seqL (K := e.K) rfl s (t := .lst _) rfl r
    exact .inl ⟨vs, h2, by rw [emp h3]⟩
  · obtain ⟨a, vs, P', rfl, h2, h3, _⟩ := rep_seqL (K := e.K) rfl s (t := .own _) rfl r
    exact .inl ⟨vs, h2, by rw [emp h3]⟩
  · obtain ⟨a, vs, P', rfl, h2, h3, _⟩ := rep_seqL (K := e.K) rfl s (t := .kl _) rfl r
    exact .inl ⟨vs, h2, by rw [emp h3]⟩
def mTru (f : List T → Res T) : List T → Res Bool := fun σ => (f σ).bind fun t σ1 =>
  match truT t with
  | some k => .ok k σ1
  | none => .stuck
theorem t_val (hK : c.e.K = X.K) (ha : PE X a (tE c fe)) (hi : ∀ whole, isTrue a X.env whole = (do let v ← whole; standAt a.pos; holding [v] (truthy v)) := by intro _; all_goals rfl) :
    PT X a (tT c (mTru fe)) := (pt_truth ha hi).wk fun τ H Q h => by
  obtain ⟨F, σ, O, st, p⟩ := h
  refine Tm.mono ((Mid.start st).run (by simp) (g := fe) p) fun x H1 ⟨t, σ1, F1, O1, P1, m1, r1, s1, p1⟩ => ?_
  cases q : truT t with
  | none => rw [q] at p1; exact p1.elim
  | some k =>
    rw [q] at p1
    exact ⟨k, truT_ok hK m1.st.sub r1 q, RB.fin m1 p1⟩
end
end MV

namespace MV
open PySem PySem.Spec PyProof.Rows L2

/-! ## Sequences: +, *, subscripts -/
theorem fzs_app (l m : List T) : fzs (l ++ m) = fzs l ++ fzs m := by simp [fzs_map]
def sCatL : OS := fun t u =>
  match lstL t, lstL u with
  | some l, some m => if szB (l.length + m.length) then some (.own (fzs l ++ fzs m)) else none
  | _, _ => none
def sRep : OS := fun t u =>
  match lstL t, u with
  | some l, .v (.int k) => if szB (l.length * k.toNat) && decide (-(2 ^ 63) ≤ k) && decide (k < 2 ^ 63) then some (.own (List.replicate k.toNat (fzs l)).flatten) else none
  | _, _ => none
def sCatT : OS := fun t u =>
  match t, u with
  | .tup l, .tup m => if szB (l.length + m.length) then some (.tup (l ++ m)) else none
  | _, _ => none
def sCatS : OS := fun t u =>
  match t, u with
  | .v (.str a), .v (.str b) => if szB (a.length + b.length) then some (.v (.str (a ++ b))) else none
  | _, _ => none
section
variable {e : En} {K : PySem.W.Frag}
theorem ok_catL : OpOk e rCat sCatL := by
  intro F H P1 P2 P t u w x y Q sb r1 r2 n hP m1 m2 dj n1 n2 hs k
  unfold sCatL at hs
  cases q1 : lstL t with
  | none => rw [q1] at hs; cases hs
  | some l =>
    cases q2 : lstL u with
    | none => rw [q1, q2] at hs; cases hs
    | some m =>
      rw [q1, q2] at hs
      cases hz : szB (l.length + m.length) with
      | false => simp only [hz] at hs; cases hs
      | true =>
        simp only [hz, if_true, Option.some.injEq] at hs
        subst hs
        obtain ⟨a, vs, A, rfl, h1, g1, s1, _⟩ := rep_lstL sb q1 r1
        obtain ⟨b, ws, B, rfl, h2, g2, s2, _⟩ := rep_lstL sb q2 r2
        refine ⟨a, b, vs, ws, rfl, rfl, h1, h2, by rw [← reps_len g1, ← reps_len g2]; exact Nat.le_of_lt (szB_line hz), fun p hp => ?_⟩
        obtain ⟨al, rp⟩ := frz_new (P := P) (w := fzs l ++ fzs m) (ws := vs ++ ws) sb (reps_app.mpr ⟨vs, ws, A, B, rfl, rfl, g1, g2⟩)
          (fun z hz => by rcases List.mem_append.mp hz with h | h; exact m1 z (s1 z h); exact m2 z (s2 z h)) hp (fun h => by rw [fzs_app] at h; exact h)
        exact k _ _ _ _ al rp
theorem ok_rep : OpOk e rRep sRep := by
  intro F H P1 P2 P t u w x y Q sb r1 r2 n hP m1 m2 dj n1 n2 hs k
  unfold sRep at hs
  split at hs
  · rename_i l kk q1 
    split at hs
    · rename_i hz
      simp only [Bool.and_eq_true, decide_eq_true_eq] at hz
      cases hs
      obtain ⟨a, vs, A, rfl, h1, g1, s1, _⟩ := rep_lstL sb q1 r1
      obtain ⟨rfl, rfl⟩ := rep_v r2
      refine ⟨a, kk, vs, rfl, rfl, h1, hz.1.2, hz.2, by rw [← reps_len g1]; exact Nat.le_of_lt (szB_line hz.1.1), fun p hp => ?_⟩
      obtain ⟨al, rp⟩ := frz_new (P := P) (w := (List.replicate kk.toNat (fzs l)).flatten) sb g1 (fun z hz => m1 z (s1 z hz)) hp (fun h => h.repl _)
      exact k _ _ _ _ al rp
    · cases hs
  · cases hs
theorem ok_catT (hK : e.K = K) : OpOk e (rCatA K) sCatT := by
  subst hK
  intro F H P1 P2 P t u w x y Q sb r1 r2 n hP m1 m2 dj n1 n2 hs k
  unfold sCatT at hs
  split at hs
  · rename_i l m
    cases hz : szB (l.length + m.length) with
    | false => simp only [hz] at hs; cases hs
    | true =>
      simp only [hz, if_true, Option.some.injEq] at hs
      subst hs
      obtain ⟨rfl, a, vs, rfl, h1, g1⟩ := rep_tup r1
      obtain ⟨rfl, b, ws, rfl, h2, g2⟩ := rep_tup r2
      have l1 := reps_len g1
      have l2 := reps_len g2
      refine ⟨a, b, vs, ws, rfl, rfl, sb.sqt h1, sb.sqt h2, by rw [← l1, ← l2]; exact Nat.le_of_lt (szB_line hz), fun z => ?_, fun z1 z2 => ?_, fun z1 z2 p hp => ?_⟩
      · subst z
        have hl : l = [] := List.length_eq_zero_iff.mp (by simpa using l1)
        subst hl
        refine k F H _ [] (Alc.rfl sb List.nodup_nil (by simp)) ?_
        simp only [rep, List.nil_append]
        exact ⟨trivial, b, ws, rfl, h2, g2⟩
      · subst z2
        have hl : m = [] := List.length_eq_zero_iff.mp (by simpa using l2)
        subst hl
        refine k F H _ [] (Alc.rfl sb List.nodup_nil (by simp)) ?_
        simp only [rep, List.append_nil]
        exact ⟨trivial, a, vs, rfl, h1, g1⟩
      · have al := Alc.newF (P := P) (o := .tup (vs ++ ws)) sb hp
        refine k _ _ _ [] al ?_
        simp only [rep]
        exact ⟨trivial, p, vs ++ ws, rfl, .inl (.inl upd_same), reps_fr2.mpr (((reps_fr2.mp g1).app (reps_fr2.mp g2)).mono al.stp.sub)⟩
  · cases hs
theorem ok_catS : OpOk e (fun x y H Q => ∃ i j, x = .str i ∧ y = .str j ∧ i.length + j.length ≤ sizeLine ∧ Q (.str (i ++ j)) H) sCatS := by
  intro F H P1 P2 P t u w x y Q sb r1 r2 n hP m1 m2 dj n1 n2 hs k
  unfold sCatS at hs
  split at hs
  · rename_i a b
    cases hz : szB (a.length + b.length) with
    | false => simp only [hz] at hs; cases hs
    | true =>
      simp only [hz, if_true, Option.some.injEq] at hs
      subst hs
      obtain ⟨rfl, rfl⟩ := rep_v r1
      obtain ⟨rfl, rfl⟩ := rep_v r2
      exact ⟨a, b, rfl, rfl, Nat.le_of_lt (szB_line hz), k F H _ [] (Alc.rfl sb List.nodup_nil (by simp)) rep_v'⟩
  · cases hs
def sPlus : OS := sOr sAdd (sOr sCatL (sOr sCatT sCatS))
def sTimes : OS := sOr sMul sRep
/-- t[i] -/
def sIx : OS := fun t u =>
  match u with
  | .v (.int i) =>
    match t with
    | .tup l => atI l i
    | .lst l => atI l i
    | .own l => atI l i
    | .kl l => atI l i
    | .v (.str z) => if szB z.length then (atI z.cps.toList i).map fun c => .v (.str ⟨#[c]⟩) else none
    | _ => none
  | _ => none
theorem sIx_L {t : T} {i : Int} {w : T} (h : sIx t (.v (.int i)) = some w) : (∃ l, seqL t = some l ∧ atI l i = some w) ∨ (∃ l, t = .tup l ∧ atI l i = some w) ∨
    ∃ z c, t = .v (.str z) ∧ szB z.length = true ∧ atI z.cps.toList i = some c ∧ w = .v (.str ⟨#[c]⟩) := by
  cases t with
  | v c =>
    cases c with
    | str z =>
      simp only [sIx] at h
      split at h
      · rename_i hz
        cases q : atI z.cps.toList i with
        | none => rw [q] at h; cases h
        | some c => rw [q] at h; cases h; exact .inr (.inr ⟨z, c, rfl, hz, q, rfl⟩)
      · cases h
    | _ => simp [sIx] at h
  | tup l => exact .inr (.inl ⟨_, rfl, h⟩)
  | lst l => exact .inl ⟨_, rfl, h⟩
  | own l => exact .inl ⟨_, rfl, h⟩
  | kl l => exact .inl ⟨_, rfl, h⟩
  | _ => simp [sIx] at h
theorem ok_ix (hK : e.K = K) : OpOk e (rIx K) sIx := by
  intro F H P1 P2 P t u w x y Q sb r1 r2 n hP m1 m2 dj n1 n2 hs k
  have hu : ∃ i, u = .v (.int i) := by
    unfold sIx at hs
    split at hs
    · exact ⟨_, rfl⟩
    · cases hs
  obtain ⟨i, rfl⟩ := hu
  obtain ⟨rfl, rfl⟩ := rep_v r2
  rcases sIx_L hs with ⟨l, q, a⟩ | ⟨l, rfl, a⟩ | ⟨z, c, rfl, hz, a, rfl⟩
  · obtain ⟨p, vs, A, rfl, h1, g1, s1, nn⟩ := rep_seqL hK sb q r1
    obtain ⟨v, Pt, e1, rt, mt, nt⟩ := reps_at? g1 a
    exact .inl ⟨p, vs, i, v, rfl, rfl, h1, e1, k F H v Pt (Alc.rfl sb (nt (nn n1)) fun b hb => m1 b (s1 b (mt b hb))) rt⟩
  · subst hK
    obtain ⟨rfl, p, vs, rfl, h1, g1⟩ := rep_tup r1
    obtain ⟨v, Pt, e1, rt, mt, nt⟩ := reps_at? g1 a
    exact .inr (.inl ⟨p, vs, i, v, rfl, rfl, sb.sqt h1, e1, k F H v Pt (Alc.rfl sb (nt List.nodup_nil) fun b hb => by simpa using mt b hb) rt⟩)
  · obtain ⟨rfl, rfl⟩ := rep_v r1
    exact .inr (.inr ⟨z, i, c, rfl, rfl, Nat.le_of_lt (szB_line hz), a, k F H _ [] (Alc.rfl sb List.nodup_nil (by simp)) rep_v'⟩)

/-! ## ==, !=, is None, in -/
mutual
def toD : T → Option PyData
  | .v .non => some .none
  | .v (.bl b) => some (.bool b)
  | .v (.int i) => some (.int i)
  | .v (.str x) => some (.str x)
  | .tup l => (toDs l).map PyData.tuple
  | .lst l => (toDs l).map PyData.list
  | .own l => (toDs l).map PyData.list
  | .kl l => (toDs l).map PyData.list
  | _ => none
def toDs : List T → Option (List PyData)
  | [] => some []
  | t :: ts => match toD t, toDs ts with
    | some d, some ds => some (d :: ds)
    | _, _ => none
end
mutual
theorem toD_dp {F H : Hp} (s : Sub F H) (hK : e.K = K) : ∀ {t : T} {x : V} {P : List Addr} {d : PyData}, rep e F H t x P → toD t = some d → Dp K H x d
  | .hole, x, P, d, r, h => by simp [toD] at h
  | .v c, x, P, d, r, h => by
    obtain ⟨rfl, _⟩ := rep_v r
    cases x <;> simp only [toD, Option.some.injEq, reduceCtorEq] at h <;> subst h
    · exact .non
    · exact .bl _
    · exact .int _
    · exact .str _
  | .tup l, x, P, d, r, h => by
    simp only [toD] at h
    cases q : toDs l with
    | none => rw [q] at h; cases h
    | some ds =>
      rw [q] at h
      cases h
      obtain ⟨rfl, a, vs, rfl, h1, g1⟩ := rep_tup r
      exact .tup (by rw [← hK]; exact s.sqt h1) (toDs_dp s hK g1 q)
  | .lst l, x, P, d, r, h => by
    simp only [toD] at h
    cases q : toDs l with
    | none => rw [q] at h; cases h
    | some ds =>
      rw [q] at h
      cases h
      simp only [rep] at r
      obtain ⟨_, a, vs, rfl, h1, g1⟩ := r
      exact .lst (.inl (.inl (s _ _ h1))) (toDs_dp s hK g1 q)
  | .own l, x, P, d, r, h => by
    simp only [toD] at h
    cases q : toDs l with
    | none => rw [q] at h; cases h
    | some ds =>
      rw [q] at h
      cases h
      simp only [rep] at r
      obtain ⟨a, vs, O', rfl, _, _, h1, g1⟩ := r
      exact .lst (.inl (.inl h1)) (toDs_dp s hK g1 q)
  | .kl l, x, P, d, r, h => by
    simp only [toD] at h
    cases q : toDs l with
    | none => rw [q] at h; cases h
    | some ds =>
      rw [q] at h
      cases h
      simp only [rep] at r
      obtain ⟨_, a, vs, rfl, h1, g1⟩ := r
      exact .lst (by rw [← hK]; exact s.sql h1) (toDs_dp s hK g1 q)
  | .ins C ns l, x, P, d, r, h => by simp [toD] at h
  | .oin C ns l, x, P, d, r, h => by simp [toD] at h
  | .xc C ns l, x, P, d, r, h => by simp [toD] at h
theorem toDs_dp {F H : Hp} (s : Sub F H) (hK : e.K = K) : ∀ {l : List T} {vs : List V} {P : List Addr} {ds : List PyData}, reps e F H l vs P → toDs l = some ds → DpAll K H vs ds
  | [], vs, P, ds, r, h => by
    simp only [reps] at r
    simp only [toDs, Option.some.injEq] at h
    obtain ⟨rfl, _⟩ := r
    subst h
    exact .nil
  | t :: ts, vs, P, ds, r, h => by
    simp only [reps] at r
    obtain ⟨x, xs, O1, O2, rfl, rfl, r1, r2⟩ := r
    simp only [toDs] at h
    cases q : toD t with
    | none => rw [q] at h; cases h
    | some d =>
      cases q2 : toDs ts with
      | none => rw [q, q2] at h; cases h
      | some dr =>
        rw [q, q2] at h
        cases h
        exact .cons (toD_dp s hK r1 q) (toDs_dp s hK r2 q2)
end
def eqT (t u : T) : Option Bool :=
  match toD t, toD u with
  | some d, some f => if SeqAt.shaped d && SeqAt.shaped f then some (PyData.eqv d f) else none
  | _, _ => none
theorem eqT_some {t u : T} {k : Bool} (h : eqT t u = some k) : ∃ d f, toD t = some d ∧ toD u = some f ∧ SeqAt.shaped d = true ∧ SeqAt.shaped f = true ∧ PyData.eqv d f = k := by
  unfold eqT at h
  split at h
  · rename_i d f q1 q2
    split at h
    · rename_i z
      simp only [Bool.and_eq_true] at z
      cases h
      exact ⟨d, f, q1, q2, z.1, z.2, rfl⟩
    · cases h
  · cases h
def sEq : OS := fun t u => (eqT t u).map fun k => .v (.bl k)
def sNe : OS := fun t u => (eqT t u).map fun k => .v (.bl (!k))
theorem ok_eq (hK : e.K = K) : OpOk e (rEqD K) sEq := by
  intro F H P1 P2 P t u w x y Q sb r1 r2 n hP m1 m2 dj n1 n2 hs k
  unfold sEq at hs
  cases q : eqT t u with
  | none => rw [q] at hs; cases hs
  | some b =>
    rw [q] at hs
    cases hs
    obtain ⟨d, f, h1, h2, h3, h4, rfl⟩ := eqT_some q
    exact ⟨d, f, toD_dp sb hK r1 h1, toD_dp sb hK r2 h2, h3, h4, k F H _ [] (Alc.rfl sb List.nodup_nil (by simp)) rep_v'⟩
theorem ok_ne (hK : e.K = K) : OpOk e (rNeD K) sNe := by
  intro F H P1 P2 P t u w x y Q sb r1 r2 n hP m1 m2 dj n1 n2 hs k
  unfold sNe at hs
  cases q : eqT t u with
  | none => rw [q] at hs; cases hs
  | some b =>
    rw [q] at hs
    cases hs
    obtain ⟨d, f, h1, h2, h3, h4, rfl⟩ := eqT_some q
    exact ⟨d, f, toD_dp sb hK r1 h1, toD_dp sb hK r2 h2, h3, h4, k F H _ [] (Alc.rfl sb List.nodup_nil (by simp)) rep_v'⟩
def nonT : T → Option Bool
  | .v c => some (decide (c = .non))
  | .hole => none
  | _ => some false
theorem nonT_ok {F H : Hp} {P : List Addr} {t : T} {x : V} {k : Bool} (r : rep e F H t x P) (h : nonT t = some k) : decide (x = V.non) = k := by
  cases t <;> simp only [nonT, Option.some.injEq, reduceCtorEq] at h
  · obtain ⟨rfl, _⟩ := rep_v r
    exact h
  all_goals
    subst h
    simp only [rep] at r
    first
      | (obtain ⟨_, a, vs, rfl, _⟩ := r; simp)
      | (obtain ⟨a, vs, O', rfl, _⟩ := r; simp)
      | (obtain ⟨_, _, a, dx, Ca, vs, rfl, _⟩ := r; simp)
      | (obtain ⟨_, a, dx, Ca, vs, O', rfl, _⟩ := r; simp)
def sIsN : OS := fun t u => match u with
  | .v .non => (nonT t).map fun k => .v (.bl k)
  | _ => none
def sNotN : OS := fun t u => match u with
  | .v .non => (nonT t).map fun k => .v (.bl (!k))
  | _ => none
theorem ok_isN : OpOk e (fun x y H Q => y = .non ∧ Q (.bl (decide (x = .non))) H) sIsN := by
  intro F H P1 P2 P t u w x y Q sb r1 r2 n hP m1 m2 dj n1 n2 hs k
  unfold sIsN at hs
  split at hs
  · cases q : nonT t with
    | none => rw [q] at hs; cases hs
    | some b =>
      rw [q] at hs
      cases hs
      rw [nonT_ok r1 q]
      exact ⟨(rep_v r2).1, k F H _ [] (Alc.rfl sb List.nodup_nil (by simp)) rep_v'⟩
  · cases hs
theorem ok_notN : OpOk e (fun x y H Q => y = .non ∧ Q (.bl (!decide (x = .non))) H) sNotN := by
  intro F H P1 P2 P t u w x y Q sb r1 r2 n hP m1 m2 dj n1 n2 hs k
  unfold sNotN at hs
  split at hs
  · cases q : nonT t with
    | none => rw [q] at hs; cases hs
    | some b =>
      rw [q] at hs
      cases hs
      rw [nonT_ok r1 q]
      exact ⟨(rep_v r2).1, k F H _ [] (Alc.rfl sb List.nodup_nil (by simp)) rep_v'⟩
  · cases hs
/-- x in xs, flat things -/
def vT : T → Option V
  | .v c => if flatV c then some c else none
  | _ => none
def vTs : List T → Option (List V)
  | [] => some []
  | t :: ts => match vT t, vTs ts with
    | some v, some vs => some (v :: vs)
    | _, _ => none
theorem vT_ok {F H : Hp} {P : List Addr} {t : T} {x v : V} (r : rep e F H t x P) (h : vT t = some v) : x = v ∧ flatV v = true := by
  cases t <;> simp only [vT, reduceCtorEq] at h
  split at h
  · rename_i hf
    cases h
    obtain ⟨rfl, _⟩ := rep_v r
    exact ⟨rfl, hf⟩
  · cases h
theorem vTs_ok {F H : Hp} : ∀ {l : List T} {vs ws : List V} {P : List Addr}, reps e F H l vs P → vTs l = some ws → vs = ws ∧ ws.all flatV = true
  | [], vs, ws, P, r, h => by
    simp only [reps] at r
    simp only [vTs, Option.some.injEq] at h
    obtain ⟨rfl, _⟩ := r
    subst h
    exact ⟨rfl, rfl⟩
  | t :: ts, vs, ws, P, r, h => by
    simp only [reps] at r
    obtain ⟨x, xs, O1, O2, rfl, rfl, r1, r2⟩ := r
    simp only [vTs] at h
    cases q : vT t with
    | none => rw [q] at h; cases h
    | some v =>
      cases q2 : vTs ts with
      | none => rw [q, q2] at h; cases h
      | some vr =>
        rw [q, q2] at h
        cases h
        obtain ⟨rfl, f1⟩ := vT_ok r1 q
        obtain ⟨rfl, f2⟩ := vTs_ok r2 q2
        exact ⟨rfl, by simp [f1, f2]⟩
def seqA : T → Option (List T)
  | .tup l => some l
  | t => seqL t
theorem seqA_ok (hK : e.K = K) {F H : Hp} {P : List Addr} {t : T} {l : List T} {x : V} (s : Sub F H) (h : seqA t = some l) (r : rep e F H t x P) :
    ∃ a vs P', x = .ref a ∧ (SqL K H a vs ∨ SqT K H a vs) ∧ reps e F H l vs P' ∧ (∀ b ∈ P', b ∈ P) ∧ (P.Nodup → P'.Nodup) := by
  cases t with
  | tup m =>
    simp only [seqA, Option.some.injEq] at h
    subst h
    obtain ⟨rfl, a, vs, rfl, h1, g1⟩ := rep_tup r
    subst hK
    exact ⟨a, vs, [], rfl, .inr (s.sqt h1), g1, by simp, by simp⟩
  | _ =>
    obtain ⟨a, vs, P', h1, h2, h3, h4, h5⟩ := rep_seqL hK s (l := l) (by simpa only [seqA] using h) r
    exact ⟨a, vs, P', h1, .inl h2, h3, h4, h5⟩
def sIn (neg : Bool) : OS := fun t u =>
  match vT t, (seqA u).bind vTs with
  | some v, some vs => some (.v (.bl (if neg then !inV v vs else inV v vs)))
  | _, _ => none
theorem ok_in (hK : e.K = K) {neg : Bool} : OpOk e (rIn K neg) (sIn neg) := by
  intro F H P1 P2 P t u w x y Q sb r1 r2 n hP m1 m2 dj n1 n2 hs k
  unfold sIn at hs
  split at hs
  · rename_i v vs q1 q2
    cases hs
    cases q3 : seqA u with
    | none => rw [q3] at q2; cases q2
    | some l =>
      rw [q3] at q2
      obtain ⟨a, ws, P', rfl, h1, h2, _⟩ := seqA_ok hK sb q3 r2
      obtain ⟨rfl, f2⟩ := vTs_ok h2 q2
      obtain ⟨rfl, f1⟩ := vT_ok r1 q1
      exact ⟨a, ws, rfl, h1, f1, f2, k F H _ [] (Alc.rfl sb List.nodup_nil (by simp)) rep_v'⟩
  · cases hs
end
end MV

namespace MV
open PySem PySem.Spec PyProof.Rows L2

/-! ## Calls of built-ins by values -/
def CallOk (e : En) (r : List V → Hp → VK → Prop) (s : List T → Option T) : Prop := ∀ (F H : Hp) (P : List Addr) (l : List T) (w : T) (vs : List V) (Q : VK), Sub F H → reps e F H l vs P → P.Nodup → s l = some w →
  (∀ F' H' z P', Alc F H P F' H' P' → rep e F' H' w z P' → Q z H') → r vs H Q
def mCallB (s : List T → Option T) (g : List T → Res (List T)) : List T → Res T := fun σ => (g σ).bind fun ts σ1 =>
  match s ts with
  | some w => .ok w σ1
  | none => .stuck
theorem reps1 {e : En} {F H : Hp} {t : T} {vs : List V} {P : List Addr} (r : reps e F H [t] vs P) : ∃ x, vs = [x] ∧ rep e F H t x P := by
  simp only [reps] at r
  obtain ⟨x, xs, O1, O2, rfl, rfl, h1, rfl, rfl⟩ := r
  exact ⟨x, rfl, by simpa using h1⟩
theorem reps2 {e : En} {F H : Hp} {t u : T} {vs : List V} {P : List Addr} (r : reps e F H [t, u] vs P) : ∃ x y P1 P2, vs = [x, y] ∧ P = P1 ++ P2 ∧ rep e F H t x P1 ∧ rep e F H u y P2 := by
  simp only [reps] at r
  obtain ⟨x, xs, O1, O2, rfl, rfl, h1, y, ys, O3, O4, rfl, rfl, h2, rfl, rfl⟩ := r
  exact ⟨x, y, O1, O3, rfl, by simp, h1, h2⟩
section
variable {X : Cx} {c : Ct} {a b : Expr} {es : List Expr} {f : List T → Res T} {g : List T → Res (List T)} {p pos : Pos} {x : Str} {id : String} {r : List V → Hp → VK → Prop} {s : List T → Option T}
theorem callB_wk (ok : CallOk c.e r s) (τ : L2.St) (H : Hp) (Q : VK) (h : tE c (mCallB s g) τ H Q) : tCB r (tA c g) τ H Q := by
  obtain ⟨F, σ, O, st, p⟩ := h
  refine Tm.mono ((Mid.start st).run (by simp) (g := g) p) fun xs H1 ⟨ts, σ1, F1, O1, P1, m1, r1, s1, p1⟩ => ?_
  rw [List.append_nil] at m1
  cases q : s ts with
  | none => rw [q] at p1; exact p1.elim
  | some w =>
    rw [q] at p1
    exact ok F1 H1 P1 ts w xs Q m1.st.sub r1 (List.nodup_append.mp m1.nd).2.1 q fun F' H' z P' al rz => (m1.alc al).fin p1 rz al.nd fun _ h => h
theorem e_callB (hc : CallR X (.builtin id) r) (ok : CallOk c.e r s) (hg : Gl X x) (hm : X.mg x = none) (hv : bootBuiltins x = some (.builtin id)) (ha : PA X (a :: es) (tA c g))
    (hn : x ≠ "__name__" := by decide) (hdb : (x == ("__debug__" : Str)) = false := by decide)
    (he : starEach (a :: es) X.env = (false, eval a X.env) :: starEach es X.env := by rfl) (hpl : (backTo pos (starEach es X.env)).any (·.1) = false := by rfl) :
    PE X (.Call (.Name x p) (a :: es) [] pos) (tE c (mCallB s g)) := (pe_callB hc hg hm hv ha hn hdb he hpl).wk (callB_wk ok)
theorem e_callTy (hc : CallR X (.type id) r) (ok : CallOk c.e r s) (hg : Gl X x) (hm : X.mg x = none) (hv : bootBuiltins x = some (.type id)) (ha : PA X (a :: es) (tA c g))
    (hn : x ≠ "__name__" := by decide) (hdb : (x == ("__debug__" : Str)) = false := by decide)
    (he : starEach (a :: es) X.env = (false, eval a X.env) :: starEach es X.env := by rfl) (hpl : (backTo pos (starEach es X.env)).any (·.1) = false := by rfl) :
    PE X (.Call (.Name x p) (a :: es) [] pos) (tE c (mCallB s g)) := (pe_callTy hc hg hm hv ha hn hdb he hpl).wk (callB_wk ok)
end

def lenT : T → Option Nat
  | .v (.str z) => if szB z.length then some z.length else none
  | t => (seqA t).map List.length
def sLen : List T → Option T
  | [t] => (lenT t).map fun n => .v (.int n)
  | _ => none
theorem lenT_ok {e : En} {K : PySem.W.Frag} (hK : e.K = K) {F H : Hp} {P : List Addr} {t : T} {x : V} {n : Nat} (s : Sub F H) (r : rep e F H t x P) (h : lenT t = some n) : LenV K x H n := by
  have hh : (∃ z, t = .v (.str z) ∧ szB z.length = true ∧ n = z.length) ∨ ∃ l, seqA t = some l ∧ n = l.length := by
    unfold lenT at h
    split at h
    · rename_i z
      split at h
      · rename_i q; cases h; exact .inl ⟨z, rfl, q, rfl⟩
      · cases h
    · cases q : seqA t with
      | none => rw [q] at h; cases h
      | some l => rw [q] at h; cases h; exact .inr ⟨l, rfl, rfl⟩
  rcases hh with ⟨z, rfl, q, rfl⟩ | ⟨l, q, rfl⟩
  · obtain ⟨rfl, _⟩ := rep_v r
    exact ⟨Nat.le_of_lt (szB_line q), rfl⟩
  · obtain ⟨a, vs, P', rfl, h1, h2, _⟩ := seqA_ok hK s q r
    rcases h1 with h1 | h1
    · exact .inl ⟨vs, h1, reps_len h2⟩
    · exact .inr ⟨vs, h1, reps_len h2⟩
def sInt : List T → Option T
  | [.v (.int i)] => some (.v (.int i))
  | [.v (.bl k)] => some (.v (.int (if k then 1 else 0)))
  | _ => none
def sAbs : List T → Option T
  | [.v (.int i)] => some (.v (.int (if i < 0 then -i else i)))
  | _ => none
def sMin : List T → Option T
  | [.v (.int i), .v (.int j)] => some (.v (.int (if j < i then j else i)))
  | _ => none
def sMax : List T → Option T
  | [.v (.int i), .v (.int j)] => some (.v (.int (if j > i then j else i)))
  | _ => none
def intT : T → Option Int
  | .v (.int i) => some i
  | _ => none
def intsT : List T → Option (List Int)
  | [] => some []
  | t :: ts => match intT t, intsT ts with
    | some i, some is => some (i :: is)
    | _, _ => none
theorem intT_ok {t : T} {i : Int} (h : intT t = some i) : t = .v (.int i) := by
  cases t with
  | v c => cases c <;> simp only [intT, Option.some.injEq, reduceCtorEq] at h; subst h; all_goals rfl
  | _ => simp [intT] at h
theorem intsT_ok {e : En} {F H : Hp} : ∀ {l : List T} {vs : List V} {P : List Addr} {ns : List Int}, reps e F H l vs P → intsT l = some ns → vs = ns.map V.int
  | [], vs, P, ns, r, h => by
    simp only [reps] at r
    simp only [intsT, Option.some.injEq] at h
    obtain ⟨rfl, _⟩ := r
    subst h
    all_goals rfl
  | t :: ts, vs, P, ns, r, h => by
    simp only [reps] at r
    obtain ⟨x, xs, O1, O2, rfl, rfl, r1, r2⟩ := r
    simp only [intsT] at h
    cases q : intT t with
    | none => rw [q] at h; cases h
    | some v =>
      cases q2 : intsT ts with
      | none => rw [q, q2] at h; cases h
      | some vr =>
        rw [q, q2] at h
        cases h
        have e1 := intT_ok q
        subst e1
        obtain ⟨rfl, _⟩ := rep_v r1
        rw [intsT_ok r2 q2]
        all_goals rfl
def sSum : List T → Option T
  | [t] => ((seqL t).bind intsT).map fun ns => .v (.int ns.sum)
  | _ => none
def sList : List T → Option T
  | [t] => (seqA t).map fun l => .own (fzs l)
  | _ => none
def sTuple : List T → Option T
  | [.tup l] => some (.tup l)
  | [t] => (seqL t).map fun l => .tup (fzs l)
  | _ => none
section
variable {e : En} {K : PySem.W.Frag}
theorem okc_len (hK : e.K = K) : CallOk e (fun xs H Q => ∃ x n, xs = [x] ∧ LenV K x H n ∧ Q (.int n) H) sLen := by
  intro F H P l w vs Q sb r n hs k
  unfold sLen at hs
  split at hs
  · rename_i t
    obtain ⟨x, rfl, rx⟩ := reps1 r
    cases q : lenT t with
    | none => rw [q] at hs; cases hs
    | some m =>
      rw [q] at hs
      cases hs
      exact ⟨x, m, rfl, lenT_ok hK sb rx q, k F H _ [] (Alc.rfl sb List.nodup_nil (by simp)) rep_v'⟩
  · cases hs
theorem okc_int : CallOk e (fun xs H Q => (∃ i, xs = [.int i] ∧ Q (.int i) H) ∨ ∃ k, xs = [.bl k] ∧ Q (.int (if k then 1 else 0)) H) sInt := by
  intro F H P l w vs Q sb r n hs k
  unfold sInt at hs
  split at hs
  · obtain ⟨x, rfl, rx⟩ := reps1 r
    cases hs
    obtain ⟨rfl, rfl⟩ := rep_v rx
    exact .inl ⟨_, rfl, k F H _ [] (Alc.rfl sb List.nodup_nil (by simp)) rep_v'⟩
  · obtain ⟨x, rfl, rx⟩ := reps1 r
    cases hs
    obtain ⟨rfl, rfl⟩ := rep_v rx
    exact .inr ⟨_, rfl, k F H _ [] (Alc.rfl sb List.nodup_nil (by simp)) rep_v'⟩
  · cases hs
theorem okc_abs : CallOk e (fun xs H Q => ∃ i, xs = [.int i] ∧ Q (.int (if i < 0 then -i else i)) H) sAbs := by
  intro F H P l w vs Q sb r n hs k
  unfold sAbs at hs
  split at hs
  · obtain ⟨x, rfl, rx⟩ := reps1 r
    cases hs
    obtain ⟨rfl, rfl⟩ := rep_v rx
    exact ⟨_, rfl, k F H _ [] (Alc.rfl sb List.nodup_nil (by simp)) rep_v'⟩
  · cases hs
theorem okc_min : CallOk e (fun xs H Q => ∃ i j, xs = [.int i, .int j] ∧ Q (.int (if j < i then j else i)) H) sMin := by
  intro F H P l w vs Q sb r n hs k
  unfold sMin at hs
  split at hs
  · obtain ⟨x, y, P1, P2, rfl, rfl, r1, r2⟩ := reps2 r
    cases hs
    obtain ⟨rfl, rfl⟩ := rep_v r1
    obtain ⟨rfl, rfl⟩ := rep_v r2
    exact ⟨_, _, rfl, k F H _ [] (Alc.rfl sb List.nodup_nil (by simp)) rep_v'⟩
  · cases hs
theorem okc_max : CallOk e (fun xs H Q => ∃ i j, xs = [.int i, .int j] ∧ Q (.int (if j > i then j else i)) H) sMax := by
  intro F H P l w vs Q sb r n hs k
  unfold sMax at hs
  split at hs
  · obtain ⟨x, y, P1, P2, rfl, rfl, r1, r2⟩ := reps2 r
    cases hs
    obtain ⟨rfl, rfl⟩ := rep_v r1
    obtain ⟨rfl, rfl⟩ := rep_v r2
    exact ⟨_, _, rfl, k F H _ [] (Alc.rfl sb List.nodup_nil (by simp)) rep_v'⟩
  · cases hs
theorem okc_sum (hK : e.K = K) : CallOk e (rSum K) sSum := by
  intro F H P l w vs Q sb r n hs k
  unfold sSum at hs
  split at hs
  · rename_i t
    obtain ⟨x, rfl, rx⟩ := reps1 r
    cases q : seqL t with
    | none => rw [q] at hs; cases hs
    | some l =>
      rw [q] at hs
      cases q2 : intsT l with
      | none => simp only [Option.bind_some, q2] at hs; cases hs
      | some ns =>
        simp only [Option.bind_some, q2, Option.map_some, Option.some.injEq] at hs
        subst hs
        obtain ⟨a, vs, P', rfl, h1, h2, _⟩ := rep_seqL hK sb q rx
        have := intsT_ok h2 q2
        subst this
        exact ⟨a, ns, rfl, h1, k F H _ [] (Alc.rfl sb List.nodup_nil (by simp)) rep_v'⟩
  · cases hs
theorem okc_list (hK : e.K = K) : CallOk e (fun xs H Q => ∃ p ys, xs = [.ref p] ∧ (SqL K H p ys ∨ SqT K H p ys) ∧ ∀ l, H l = none → Q (.ref l) (upd H l (.lst ys))) sList := by
  intro F H P l w vs Q sb r n hs k
  unfold sList at hs
  split at hs
  · rename_i t
    obtain ⟨x, rfl, rx⟩ := reps1 r
    cases q : seqA t with
    | none => rw [q] at hs; cases hs
    | some l =>
      rw [q] at hs
      cases hs
      obtain ⟨a, vs, P', rfl, h1, h2, h3, _⟩ := seqA_ok hK sb q rx
      refine ⟨a, vs, rfl, h1, fun p hp => ?_⟩
      obtain ⟨al, rp⟩ := frz_new (P := P) (w := fzs l) (ws := vs) sb h2 h3 hp fun h => h
      exact k _ _ _ _ al rp
  · cases hs
theorem okc_tuple (hK : e.K = K) : CallOk e (fun xs H Q => ∃ p ys, xs = [.ref p] ∧ ((SqL K H p ys ∧ ∀ l, H l = none → Q (.ref l) (upd H l (.tup ys))) ∨ (SqT K H p ys ∧ Q (.ref p) H))) sTuple := by
  intro F H P l w vs Q sb r n hs k
  unfold sTuple at hs
  split at hs
  · rename_i l
    obtain ⟨x, rfl, rx⟩ := reps1 r
    cases hs
    have rx' := rx
    subst hK
    obtain ⟨rfl, a, vs, rfl, h1, h2⟩ := rep_tup rx
    exact ⟨a, vs, rfl, .inr ⟨sb.sqt h1, k F H _ [] (Alc.rfl sb List.nodup_nil (by simp)) rx'⟩⟩
  · rename_i t _
    obtain ⟨x, rfl, rx⟩ := reps1 r
    cases q : seqL t with
    | none => rw [q] at hs; cases hs
    | some l =>
      rw [q] at hs
      cases hs
      obtain ⟨a, vs, P', rfl, h1, h2, h3, _⟩ := rep_seqL hK sb q rx
      refine ⟨a, vs, rfl, .inl ⟨h1, fun p hp => ?_⟩⟩
      obtain ⟨al, rp⟩ := frz_newT (P := P) (w := fzs l) (ws := vs) sb h2 h3 hp fun h => h
      exact k _ _ _ _ al rp
  · cases hs
end

/-! ### isinstance of built-in types -/
inductive BT where
  | non | bl | int | str | lst | tup
  deriving DecidableEq
def BT.name : BT → String
  | .non => "NoneType"
  | .bl => "bool"
  | .int => "int"
  | .str => "str"
  | .lst => "list"
  | .tup => "tuple"
def BT.isa : BT → BT → Bool
  | .bl, .int => true
  | a, b => decide (a = b)
theorem BT.kit : ∀ a b : BT, kitB a.name b.name = some (a.isa b) := by
  intro a b
  cases a <;> cases b <;> decide +kernel
def tyT : T → Option BT
  | .v .non => some .non
  | .v (.bl _) => some .bl
  | .v (.int _) => some .int
  | .v (.str _) => some .str
  | .tup _ => some .tup
  | .lst _ => some .lst
  | .own _ => some .lst
  | .kl _ => some .lst
  | _ => none
theorem tyT_ok {e : En} {K : PySem.W.Frag} (hK : e.K = K) {F H : Hp} {P : List Addr} {t : T} {x : V} {b : BT} (s : Sub F H) (r : rep e F H t x P) (h : tyT t = some b) : TyX K H x (.type b.name) := by
  subst hK
  cases t with
  | v c =>
    obtain ⟨rfl, _⟩ := rep_v r
    cases x <;> simp only [tyT, Option.some.injEq, reduceCtorEq] at h <;> subst h
    · exact .base .non
    · exact .base (.bl _)
    · exact .base (.int _)
    · exact .base (.str _)
  | tup l =>
    cases h
    obtain ⟨_, a, vs, rfl, h1, _⟩ := rep_tup r
    rcases s.sqt h1 with (h1 | ⟨o, h1⟩) | ⟨o, its, n, h1, h2, _⟩
    · exact .base (.tup h1)
    · exact .fTuple h1
    · exact .kTuple h1 h2
  | lst l =>
    cases h
    obtain ⟨a, vs, P', rfl, h1, _⟩ := rep_seqL (K := e.K) rfl s (t := .lst l) rfl r
    rcases h1 with (h1 | ⟨o, h1⟩) | ⟨o, its, n, h1, h2, _⟩
    · exact .base (.lst h1)
    · exact .base (.frz h1)
    · exact .kList h1 h2
  | own l =>
    cases h
    obtain ⟨a, vs, P', rfl, h1, _⟩ := rep_seqL (K := e.K) rfl s (t := .own l) rfl r
    rcases h1 with (h1 | ⟨o, h1⟩) | ⟨o, its, n, h1, h2, _⟩
    · exact .base (.lst h1)
    · exact .base (.frz h1)
    · exact .kList h1 h2
  | kl l =>
    cases h
    obtain ⟨a, vs, P', rfl, h1, _⟩ := rep_seqL (K := e.K) rfl s (t := .kl l) rfl r
    rcases h1 with (h1 | ⟨o, h1⟩) | ⟨o, its, n, h1, h2, _⟩
    · exact .base (.lst h1)
    · exact .base (.frz h1)
    · exact .kList h1 h2
  | _ => simp [tyT] at h
def sIsi (b : BT) : List T → Option T
  | [t, .v (.ty _)] => (tyT t).map fun a => .v (.bl (a.isa b))
  | _ => none
def mIsi (b : BT) (f : List T → Res T) : List T → Res T := fun σ => (f σ).bind fun t σ1 =>
  match tyT t with
  | some a => .ok (.v (.bl (a.isa b))) σ1
  | none => .stuck
section
variable {X : Cx} {c : Ct} {a d : Expr} {es : List Expr} {f : List T → Res T} {p p2 pos : Pos} {x : Str}
theorem e_isi (b : BT) (hK : c.e.K = X.K) (hg : Gl X "isinstance") (hm : X.mg "isinstance" = none) (ha : PE X a (tE c f)) (hd : PE X d (tC (.ty b.name)))
    (he : starEach (a :: [d]) X.env = (false, eval a X.env) :: starEach [d] X.env := by rfl) (he2 : starEach (d :: []) X.env = (false, eval d X.env) :: starEach [] X.env := by rfl)
    (hpl : (backTo pos (starEach [d] X.env)).any (·.1) = false := by rfl) :
    PE X (.Call (.Name "isinstance" p) (a :: [d]) [] pos) (tE c (mIsi b f)) := (pe_callB call_isi hg hm (by decide +kernel) (pa_cons ha (pa_cons hd pa_nil he2) he) (by decide) (by decide) he hpl).wk fun τ H Q h => by
  obtain ⟨F, σ, O, st, p⟩ := h
  refine Tm.mono ((Mid.start st).run (by simp) (g := f) p) fun x H1 ⟨t, σ1, F1, O1, P1, m1, r1, s1, p1⟩ => ?_
  cases q : tyT t with
  | none => rw [q] at p1; exact p1.elim
  | some k =>
    rw [q] at p1
    exact ⟨x, .ty b.name, _, _, k.isa b, rfl, .ty _, tyT_ok hK m1.st.sub r1 q, kit_ty (BT.kit k b), m1.fin p1 rep_v' (by simp) (by simp)⟩
/-- isinstance(x, (T1, T2)) -/
def isaL (a : BT) : List BT → Bool
  | [] => false
  | b :: bs => a.isa b || isaL a bs
theorem isaL_kit {K : PySem.W.Frag} (a : BT) : ∀ bs : List BT, PySem.W.kitAny K (.type a.name) (bs.map fun b => Value.type b.name) = some (isaL a bs)
  | [] => rfl
  | b :: bs => by
    refine kitAny_cons (kit_ty (BT.kit a b)) (fun h => ?_) fun h => ?_
    · rw [isaL, h, Bool.false_or]; exact isaL_kit a bs
    · rw [isaL, h, Bool.true_or]
def mIsiL (bs : List BT) (f : List T → Res T) : List T → Res T := fun σ => (f σ).bind fun t σ1 =>
  match tyT t with
  | some a => .ok (.v (.bl (isaL a bs))) σ1
  | none => .stuck
def tTys (bs : List BT) : TA := fun _ H Q => Q (bs.map fun b => V.ty b.name) H
theorem pa_tys0 : PA X [] (tTys []) := pa_nil.wk fun _ _ _ h => h
theorem pa_tys {b : BT} {bs : List BT} (h : PE X a (tC (.ty b.name))) (hr : PA X es (tTys bs)) (hs : starEach (a :: es) X.env = (false, eval a X.env) :: starEach es X.env := by rfl) : PA X (a :: es) (tTys (b :: bs)) :=
  (pa_cons h hr hs).wk fun _ _ _ q => q
theorem tys_cls : ∀ bs : List BT, Paired ClsV (bs.map fun b => V.ty b.name) (bs.map fun b => Value.type b.name)
  | [] => .nil
  | b :: bs => .cons (.ty _) (tys_cls bs)
theorem e_isiL (bs : List BT) {k : Nat} (hK : c.e.K = X.K) (hg : Gl X "isinstance") (hm : X.mg "isinstance" = none) (ha : PE X a (tE c f)) (hd : PA X es (tTys bs)) (hl : bs.length ≤ 1000 := by decide)
    (he : starEach (a :: [.Tuple es k p2]) X.env = (false, eval a X.env) :: starEach [.Tuple es k p2] X.env := by rfl) (he2 : starEach ((.Tuple es k p2) :: []) X.env = (false, eval (.Tuple es k p2) X.env) :: starEach [] X.env := by rfl)
    (hpl : (backTo pos (starEach [.Tuple es k p2] X.env)).any (·.1) = false := by rfl) :
    PE X (.Call (.Name "isinstance" p) (a :: [.Tuple es k p2]) [] pos) (tE c (mIsiL bs f)) := (pe_callB call_isiT hg hm (by decide +kernel) (pa_cons ha (pa_cons (pe_tup hd) pa_nil he2) he) (by decide) (by decide) he hpl).wk fun τ H Q h => by
  obtain ⟨F, σ, O, st, p⟩ := h
  refine Tm.mono ((Mid.start st).run (by simp) (g := f) p) fun x H1 ⟨t, σ1, F1, O1, P1, m1, r1, s1, p1⟩ => ?_
  rw [List.append_nil] at m1
  cases q : tyT t with
  | none => rw [q] at p1; exact p1.elim
  | some k =>
    rw [q] at p1
    refine ⟨by rw [List.length_map]; exact Nat.le_of_lt (small1000 hl), fun tp hp => ?_⟩
    have al := Alc.newF (P := P1) (o := .tup (bs.map fun b => V.ty b.name)) m1.st.sub hp
    have m2 := m1.alc al
    refine ⟨x, tp, _, _, _, isaL k bs, rfl, upd_same, tys_cls bs, ?_, isaL_kit k bs, m2.fin p1 rep_v' (by simp) (by simp)⟩
    refine tyT_ok (e := c.e) (F := F1) hK (m1.st.sub.upd1 hp) (P := P1) (t := t) (rep_mono Sub.rfl r1 fun a ha => ?_) q
    obtain ⟨o, eo⟩ := rep_some r1 a ha
    exact ⟨upd_ne fun z => (by rw [z, hp] at eo; cases eo), (rep_at r1 a ha).1⟩
/-- -x -/
def mNeg (f : List T → Res T) : List T → Res T := fun σ => (f σ).bind fun t σ1 =>
  match t with
  | .v (.int i) => .ok (.v (.int (-i))) σ1
  | _ => .stuck
theorem e_neg (ha : PE X a (tE c f)) : PE X (.UnaryOp .USub a pos) (tE c (mNeg f)) := (pe_un un_neg ha).wk fun τ H Q h => by
  obtain ⟨F, σ, O, st, p⟩ := h
  refine Tm.mono ((Mid.start st).run (by simp) (g := f) p) fun x H1 ⟨t, σ1, F1, O1, P1, m1, r1, s1, p1⟩ => ?_
  split at p1
  · obtain ⟨rfl, _⟩ := rep_v r1
    exact ⟨_, rfl, m1.fin p1 rep_v' (by simp) (by simp)⟩
  · exact p1.elim
end
end MV

namespace MV
open PySem PySem.Spec PyProof.Rows L2

/-! ## Names as places: their cells stay their own -/
def live (σ : List T) (i : Nat) : Bool := match σ[i]? with
  | some t => !t.isHole
  | none => false
theorem live_some {σ : List T} {i : Nat} (h : live σ i = true) : ∃ t, σ[i]? = some t ∧ t.isHole = false := by
  unfold live at h
  cases q : σ[i]? with
  | none => rw [q] at h; cases h
  | some t => rw [q] at h; exact ⟨t, rfl, by simpa using h⟩
section
variable {X : Cx} {c : Ct} {F H F1 H1 : Hp} {O O1 P : List Addr} {τ : L2.St} {σ σ1 : List T} {i : Nat} {t : T}
theorem Sta.val (s : Sta c.e c.bor F H τ σ O) (h : live σ i = true) : ∃ x, τ[i]? = some (some x) := by
  obtain ⟨t, h1, h2⟩ := live_some h
  obtain ⟨x, _, _, _, e, _⟩ := s.slot h1 h2
  exact ⟨x, e⟩
/-- the slot i holds t; its tree may be laid anew by an allocation of its own cells -/
theorem Mid.slot (m : Mid c F H O τ σ1 F1 H1 O1 P) (h : σ1[i]? = some t) (hh : t.isHole = false) :
    ∃ x Ot, τ[i]? = some (some x) ∧ rep c.e F1 H1 t x Ot ∧ Ot.Nodup ∧ (∀ a ∈ Ot, a ∈ O1) ∧
      ∀ {F2 H2 : Hp} {P2 : List Addr} {t' : T} {Ot' : List Addr}, Alc F1 H1 (Ot ++ P) F2 H2 (Ot' ++ P2) → rep c.e F2 H2 t' x Ot' →
        ∃ O2, Mid c F H O τ (σ1.set i t') F2 H2 O2 P2 ∧ ∀ a ∈ Ot', a ∈ O2 := by
  obtain ⟨x, A, Ot, B, e1, rfl, r1, back⟩ := m.st.slot h hh
  obtain ⟨nA, nt, nB, d1, d2, d3⟩ := nd3 m.st.nd
  refine ⟨x, Ot, e1, r1, nt, by intro a ha; simp [ha], fun {F2 H2 P2 t' Ot'} al r2 => ?_⟩
  obtain ⟨vs, rv, _⟩ := m.st.vals
  have hO := reps_at rv
  have nOt : ∀ a ∈ A ++ B, a ∉ Ot ++ P := fun a ha hb => by
    rcases List.mem_append.mp hb with z | z
    · rcases List.mem_append.mp ha with y | y
      · exact d1 a y z
      · exact d3 a z y
    · refine m.disj a z ?_
      rcases List.mem_append.mp ha with y | y <;> simp [y]
  have hid : ∀ a ∈ A ++ B, H2 a = H1 a ∧ F2 a = none := fun a ha => by
    have hm : a ∈ A ++ Ot ++ B := by rcases List.mem_append.mp ha with y | y <;> simp [y]
    obtain ⟨f0, o, ho⟩ := hO a hm
    exact al.stp.hid (nOt a ha) f0 ho
  have new : ∀ a ∈ Ot' ++ P2, a ∉ A ++ B := fun a ha hb => by
    have hm : a ∈ A ++ Ot ++ B := by rcases List.mem_append.mp hb with y | y <;> simp [y]
    rcases al.stp.own a ha with z | z
    · exact nOt a hb z
    · obtain ⟨_, o, ho⟩ := hO a hm
      rw [z] at ho; cases ho
  have nO := (List.nodup_append.mp al.nd).1
  have nd2 : (A ++ Ot' ++ B).Nodup := nd3' m.st.nd nO fun a ha => ⟨fun z => new a (by simp [ha]) (by simp [z]), fun z => new a (by simp [ha]) (by simp [z])⟩
  refine ⟨A ++ Ot' ++ B, ⟨back al.stp.sub al.sub hid r2 nd2, nd_app nd2 (List.nodup_append.mp al.nd).2.1 fun a ha hb => ?_, ?_⟩, by intro a ha; simp [ha]⟩
  · have : a ∈ Ot' ∨ a ∈ A ++ B := by simp at hb ⊢; rcases hb with z | z | z <;> simp [z]
    rcases this with z | z
    · exact (List.nodup_append.mp al.nd).2.2 a z a ha rfl
    · exact new a (by simp [ha]) z
  · refine m.stp.tr al.stp (fun a ha => ?_) fun a ha => ?_
    · simp at ha ⊢
      rcases ha with z | z <;> simp [z]
    · simp only [List.mem_append] at ha ⊢
      rcases ha with ((z | z) | z) | z <;> simp [z]
end

/-! ### len(x), x[i] -/
def mLenN (i : Nat) : List T → Res T := fun σ => if live σ i then
    (match (σ[i]?).bind lenT with
    | some n => .ok (.v (.int n)) σ
    | none => .stuck) else .stuck
section
variable {X : Cx} {c : Ct} {a b d : Expr} {f g : List T → Res T} {p p2 pos : Pos} {x : Str} {i : Nat}
theorem Mid.keepS {F H F1 H1 : Hp} {O O1 P : List Addr} {τ : L2.St} {σ1 : List T} (m : Mid c F H O τ σ1 F1 H1 O1 P) : Mid c F H O τ σ1 F1 H1 O1 [] :=
  ⟨m.st, by simpa using (List.nodup_append.mp m.nd).1, m.stp.sub_own (by intro a ha; simp at ha; simp [ha])⟩
theorem e_lenN (hK : c.e.K = X.K) (hg : Gl X "len") (hm : X.mg "len" = none) (ha : PE X a (tVar i)) (he : starEach (a :: []) X.env = (false, eval a X.env) :: starEach [] X.env := by rfl)
    (hpl : (backTo pos (starEach [] X.env)).any (·.1) = false := by rfl) : PE X (.Call (.Name "len" p) (a :: []) [] pos) (tE c (mLenN i)) :=
  (pe_callB call_len hg hm PySem.boot_len (pa_cons ha pa_nil he) (by decide) (by decide) he hpl).wk fun τ H Q h => by
    obtain ⟨F, σ, O, st, p⟩ := h
    unfold mLenN at p
    split at p
    · rename_i hl
      obtain ⟨t, h1, h2⟩ := live_some hl
      have m := Mid.start (c := c) st
      obtain ⟨x, Ot, e1, r1, _⟩ := m.slot h1 h2
      rw [h1] at p
      cases q : lenT t with
      | none => rw [Option.bind_some, q] at p; exact p.elim
      | some n =>
        rw [Option.bind_some, q] at p
        exact ⟨x, e1, x, n, rfl, lenT_ok hK st.sub r1 q, m.fin p rep_v' (by simp) (by simp)⟩
    · exact p.elim
/-- the item i of the tree, and the tree with it frozen -/
def ixT (t : T) (k : Int) : Option (T × T) :=
  match t with
  | .own l => match ixN l.length k with
    | some j => (l[j]?).map fun w => (fz w, .own (l.set j (fz w)))
    | none => none
  | t => (sIx t (.v (.int k))).map fun w => (w, t)
theorem ixN_lt {n : Nat} {k : Int} {j : Nat} (h : ixN n k = some j) : j < n := (ixN_seq h).2.1
/-- what an item's reading gives -/
theorem ixT_ok {e : En} {K : PySem.W.Frag} (hK : e.K = K) {F H : Hp} {Ot : List Addr} {t w t' : T} {x : V} {k : Int} {Q : VK} (s : Sub F H) (r : rep e F H t x Ot) (n : Ot.Nodup) (h : ixT t k = some (w, t'))
    (g : ∀ F2 z Ot', Alc F H Ot F2 H Ot' → rep e F2 H t' x Ot' → rep e F2 H w z [] → Q z H) : rIx K x (.int k) H Q := by
  subst hK
  have other : ∀ {w t'}, (sIx t (.v (.int k))).map (fun w => (w, t)) = some (w, t') → (∀ l, t ≠ .own l) → (∀ F2 z Ot', Alc F H Ot F2 H Ot' → rep e F2 H t' x Ot' → rep e F2 H w z [] → Q z H) → rIx e.K x (.int k) H Q := by
    intro w t' h no g
    cases q : sIx t (.v (.int k)) with
    | none => rw [q] at h; cases h
    | some w =>
      rw [q] at h
      cases h
      have go : ∀ z, rep e F H w z [] → Q z H := fun z rz => g F z Ot (Alc.rfl s n fun _ h => h) r rz
      rcases sIx_L q with ⟨l, q1, a⟩ | ⟨l, rfl, a⟩ | ⟨z, c, rfl, hz, a, rfl⟩
      · obtain ⟨p, vs, A, rfl, h1, g1, s1, nn⟩ := rep_seqL (K := e.K) rfl s q1 r
        have hA : Ot = [] := by
          cases t <;> simp only [seqL, reduceCtorEq] at q1
          · simp only [rep] at r; exact r.1
          · exact absurd rfl (no _)
          · simp only [rep] at r; exact r.1
        subst hA
        obtain ⟨v, Pt, e1, rt, mt, nt⟩ := reps_at? g1 a
        have hPt : Pt = [] := List.eq_nil_iff_forall_not_mem.mpr fun b hb => by simpa using s1 b (mt b hb)
        subst hPt
        exact .inl ⟨p, vs, k, v, rfl, rfl, h1, e1, go v rt⟩
      · obtain ⟨rfl, p, vs, rfl, h1, g1⟩ := rep_tup r
        obtain ⟨v, Pt, e1, rt, mt, nt⟩ := reps_at? g1 a
        have hPt : Pt = [] := List.eq_nil_iff_forall_not_mem.mpr fun b hb => by simpa using mt b hb
        subst hPt
        exact .inr (.inl ⟨p, vs, k, v, rfl, rfl, s.sqt h1, e1, go v rt⟩)
      · obtain ⟨rfl, rfl⟩ := rep_v r
        exact .inr (.inr ⟨z, k, c, rfl, rfl, Nat.le_of_lt (szB_line hz), a, go _ rep_v'⟩)
  cases t with
  | own l =>
    simp only [ixT] at h
    cases q : ixN l.length k with
    | none => rw [q] at h; cases h
    | some j =>
      rw [q] at h
      cases q2 : l[j]? with
      | none => simp only [q2] at h; cases h
      | some u =>
        simp only [q2, Option.map_some, Option.some.injEq, Prod.mk.injEq] at h
        obtain ⟨rfl, rfl⟩ := h
        simp only [rep] at r
        obtain ⟨p, vs, O', rfl, rfl, fp, hp, g1⟩ := r
        obtain ⟨v, A, Pt, B, e1, rfl, rt, back⟩ := reps_split g1 q2
        obtain ⟨n0, n1⟩ := List.nodup_cons.mp n
        obtain ⟨nA, nt, nB, d1, d2, d3⟩ := nd3 n1
        have hF : ∀ a ∈ Pt, F a = none := fun a ha => (rep_at rt a ha).1
        have a1 : Alc F H (p :: (A ++ Pt ++ B)) (put F H Pt) H [] := Alc.freeze s hF (by intro a h; simp [h])
        have rf : rep e (put F H Pt) H (fz u) v [] := rep_fz (put_sub hF) (O' := Pt) (fun a ha => put_in ha) rt fun _ h => h
        have hp' : p ∉ Pt := fun z => n0 (by simp [z])
        have nAB : (A ++ [] ++ B).Nodup := nd3' n1 List.nodup_nil (by simp)
        refine .inl ⟨p, vs, k, v, rfl, rfl, .inl (.inl hp), ?_, g (put F H Pt) v (p :: (A ++ [] ++ B)) ⟨⟨a1.stp.sub, a1.stp.new, a1.stp.keep, a1.stp.there, fun a ha => .inl ?_⟩, a1.sub, List.nodup_cons.mpr ⟨fun z => n0 ?_, nAB⟩⟩ ?_ rf⟩
        · unfold atI
          rw [← reps_len g1, q]
          exact e1
        · simp at ha ⊢
          rcases ha with h | h | h <;> simp [h]
        · simp at z ⊢
          rcases z with h | h <;> simp [h]
        · simp only [rep]
          have ev : vs.set j v = vs := by
            apply List.ext_getElem?
            intro m
            by_cases hm : m = j
            · subst hm
              rw [List.getElem?_set_self (List.getElem?_eq_some_iff.mp e1).1, e1]
            · rw [List.getElem?_set_ne (Ne.symm hm)]
          refine ⟨p, vs, A ++ [] ++ B, rfl, rfl, by rw [put_out hp']; exact fp, hp, ?_⟩
          have := back (F' := put F H Pt) (H' := H) (t' := fz u) (x' := v) (Ot' := []) (put_sub hF) (fun a ha => ⟨rfl, ?_⟩) rf
          · rw [ev] at this; exact this
          · have : a ∉ Pt := fun z => by
              rcases List.mem_append.mp ha with y | y
              · exact d1 a y z
              · exact d3 a z y
            rw [put_out this]
            exact (reps_at g1 a (by rcases List.mem_append.mp ha with y | y <;> simp [y])).1
  | _ => exact other (by simpa only [ixT] using h) (fun l z => by cases z) g
def mIxN (i : Nat) (g : List T → Res T) : List T → Res T := fun σ => if live σ i then (g σ).bind fun u σ1 =>
    match u, σ1[i]? with
    | .v (.int k), some t => if t.isHole then .stuck else (match ixT t k with
      | some (w, t') => .ok w (σ1.set i t')
      | none => .stuck)
    | _, _ => .stuck
  else .stuck
theorem e_ixN (hK : c.e.K = X.K) (ha : PE X a (tVar i)) (hb : PE X b (tE c g)) (hs : PlainIx b) : PE X (.Subscript a b pos) (tE c (mIxN i g)) := (pe_ix ix_seq ha hb hs).wk fun τ H Q h => by
  obtain ⟨F, σ, O, st, p⟩ := h
  unfold mIxN at p
  split at p
  · rename_i hl
    obtain ⟨x, ex⟩ := st.val hl
    refine ⟨x, ex, Tm.mono ((Mid.start st).run (by simp) (g := g) p) fun y H1 ⟨u, σ1, F1, O1, P1, m1, r1, s1, p1⟩ => ?_⟩
    split at p1
    · rename_i k t q1
      split at p1
      · exact p1.elim
      · rename_i hh
        obtain ⟨rfl, rfl⟩ := rep_v r1
        obtain ⟨x', Ot, e1, rt, nt, mt, back⟩ := m1.slot q1 (by simpa using hh)
        rw [ex] at e1
        cases e1
        split at p1
        · rename_i w t' q2
          refine ixT_ok hK m1.st.sub rt nt q2 fun F2 z Ot' al r2 rz => ?_
          obtain ⟨O2, m2, _⟩ := back (P2 := []) (F2 := F2) (H2 := H1) (by simpa using al) r2
          exact m2.fin p1 rz (by simp) (by simp)
        · exact p1.elim
    · exact p1.elim
  · exact p.elim
end
end MV

namespace MV
open PySem PySem.Spec PyProof.Rows L2

/-! ## Slices -/
def mBd : Option (List T → Res T) → List T → Res (Option Int)
  | none => fun σ => .ok none σ
  | some f => fun σ => (f σ).bind fun t σ1 => match t with
    | .v (.int i) => .ok (some i) σ1
    | _ => .stuck
abbrev tO (c : Ct) (b : Option (List T → Res T)) : TO := Tm c RB (mBd b)
theorem PO.wk' {X : Cx} {e : Option Expr} {t t' : TO} (h : PO X e t) (k : ∀ σ H Q, t' σ H Q → t σ H Q) : PO X e t' := by
  obtain ⟨h⟩ := h
  exact ⟨fun p s σ H Q I q => h p s σ H Q I (k σ H Q q)⟩
def cutG {α : Type} (xs : List α) (lo hi : Option Int) : List α := (xs.drop (HT.sIx xs.length 0 lo)).take (HT.sIx xs.length xs.length hi - HT.sIx xs.length 0 lo)
section
variable {X : Cx} {c : Ct} {a b d : Expr} {f g : List T → Res T} {bl bh : Option (List T → Res T)} {lo hi : Option Expr} {p p2 pos : Pos} {i : Nat} {e : En} {F H : Hp}
theorem o_none : PO X none (tO c none) := PO.wk' po_none fun τ H Q h => by
  obtain ⟨F, σ, O, st, p⟩ := h
  exact RB.fin (Mid.start st) p
theorem o_some (ha : PE X a (tE c f)) : PO X (some a) (tO c (some f)) := PO.wk' (po_some ha) fun τ H Q h => by
  obtain ⟨F, σ, O, st, p⟩ := h
  refine Tm.mono ((Mid.start st).run (by simp) (g := f) p) fun x H1 ⟨t, σ1, F1, O1, P1, m1, r1, s1, p1⟩ => ?_
  split at p1
  · obtain ⟨rfl, _⟩ := rep_v r1
    exact ⟨_, rfl, RB.fin m1 p1⟩
  · exact p1.elim
theorem Fr2.cut {l : List T} {vs : List V} (h : Fr2 e F H l vs) (lo hi : Option Int) : Fr2 e F H (cutG l lo hi) (cutV vs lo hi) := by
  unfold cutG cutV
  rw [h.1]
  exact (h.drop _).take _
/-- a list as it is read item by item: its cells but the outer one frozen -/
def shT : T → Option (T × List T)
  | .own l => some (.own (fzs l), fzs l)
  | .lst l => some (.lst l, l)
  | .kl l => some (.kl l, l)
  | _ => none
theorem shT_ok {K : PySem.W.Frag} (hK : e.K = K) {Ot : List Addr} {t t' : T} {l : List T} {x : V} (s : Sub F H) (r : rep e F H t x Ot) (n : Ot.Nodup) (h : shT t = some (t', l)) :
    ∃ p vs F2 Ot', x = .ref p ∧ SqL K H p vs ∧ Alc F H Ot F2 H Ot' ∧ rep e F2 H t' x Ot' ∧ Fr2 e F2 H l vs := by
  subst hK
  cases t <;> simp only [shT, Option.some.injEq, Prod.mk.injEq, reduceCtorEq] at h
  · obtain ⟨rfl, rfl⟩ := h
    have r' := r
    simp only [rep] at r
    obtain ⟨rfl, p, vs, rfl, h1, h2⟩ := r
    exact ⟨p, vs, F, [], rfl, .inl (.inl (s _ _ h1)), Alc.rfl s List.nodup_nil (by simp), r', reps_fr2.mp h2⟩
  · obtain ⟨rfl, rfl⟩ := h
    simp only [rep] at r
    obtain ⟨p, vs, O', rfl, rfl, fp, hp, g1⟩ := r
    obtain ⟨n0, n1⟩ := List.nodup_cons.mp n
    have hF : ∀ a ∈ O', F a = none := fun a ha => (reps_at g1 a ha).1
    have a1 : Alc F H (p :: O') (put F H O') H [] := Alc.freeze s hF (by intro a h; simp [h])
    have rf := reps_fz (put_sub hF) (O' := O') (fun a ha => put_in ha) g1 fun _ h => h
    refine ⟨p, vs, put F H O', [p], rfl, .inl (.inl hp), ⟨⟨a1.stp.sub, a1.stp.new, a1.stp.keep, a1.stp.there, fun a ha => .inl (by simp at ha; simp [ha])⟩, a1.sub, by simp⟩, ?_, reps_fr2.mp rf⟩
    simp only [rep]
    exact ⟨p, vs, [], rfl, rfl, by rw [put_out n0]; exact fp, hp, rf⟩
  · obtain ⟨rfl, rfl⟩ := h
    have r' := r
    simp only [rep] at r
    obtain ⟨rfl, p, vs, rfl, h1, h2⟩ := r
    exact ⟨p, vs, F, [], rfl, s.sql h1, Alc.rfl s List.nodup_nil (by simp), r', reps_fr2.mp h2⟩
/-- a new list of frozen things -/
theorem new_own {P : List Addr} {w : List T} {ws : List V} {p : Addr} (s : Sub F H) (hp : H p = none) (h : Fr2 e F H w ws) : Alc F H P F (upd H p (.lst ws)) [p] ∧ rep e F (upd H p (.lst ws)) (.own w) (.ref p) [p] := by
  have a0 := Alc.newO (P := []) (o := .lst ws) s hp List.nodup_nil (by simp)
  refine ⟨⟨⟨a0.stp.sub, fun a o q z => (by rw [z] at q; cases q), fun a o q _ => a0.stp.keep a o q (by simp), a0.stp.there, fun a ha => ?_⟩, a0.sub, a0.nd⟩, ?_⟩
  · rcases a0.stp.own a ha with z | z
    · simp at z
    · exact .inr z
  · simp only [rep]
    exact ⟨p, ws, [], rfl, rfl, s.no hp, upd_same, reps_fr2.mpr (h.mono Sub.rfl)⟩
theorem new_tup {P : List Addr} {w : List T} {ws : List V} {p : Addr} (s : Sub F H) (hp : H p = none) (h : Fr2 e F H w ws) : Alc F H P (upd F p (.tup ws)) (upd H p (.tup ws)) [] ∧ rep e (upd F p (.tup ws)) (upd H p (.tup ws)) (.tup w) (.ref p) [] := by
  have a0 := Alc.newF (P := P) (o := .tup ws) s hp
  refine ⟨a0, ?_⟩
  simp only [rep]
  exact ⟨trivial, p, ws, rfl, .inl (.inl upd_same), reps_fr2.mpr (h.mono a0.stp.sub)⟩
/-- t[lo:hi] of a list or tuple -/
def rSl2 (K : PySem.W.Frag) : V → Option Int → Option Int → Hp → VK → Prop := fun x lo hi H Q => rSlL K x lo hi H Q ∨ rSlA K x lo hi H Q
theorem sl_two : SlR X (rSl2 X.K) := sl_list.or sl_tupA
theorem sub_len (n : Nat) (lo hi : Option Int) : HT.sIx n n hi ≤ n := HT.sIx_le n n (Nat.le_refl _) hi
def mSl (bl bh : Option (List T → Res T)) (f : List T → Res T) : List T → Res T := fun σ => (f σ).bind fun t σ1 => (mBd bl σ1).bind fun lo σ2 => (mBd bh σ2).bind fun hi σ3 =>
  match t with
  | .tup l => .ok (.tup (cutG l lo hi)) σ3
  | t => match shT t with
    | some (_, l) => .ok (.own (cutG l lo hi)) σ3
    | none => .stuck
theorem cut_whole {α : Type} {l : List α} {lo hi : Option Int} (h : HT.sIx l.length 0 lo = 0 ∧ HT.sIx l.length l.length hi = l.length) : cutG l lo hi = l := by
  unfold cutG
  rw [h.1, h.2]
  simp
theorem tup_cut {K : PySem.W.Frag} (hK : e.K = K) {P : List Addr} {l : List T} {x : V} {lo hi : Option Int} {Q : VK} (s : Sub F H) (r : rep e F H (.tup l) x P)
    (k : ∀ F' H' z, Alc F H [] F' H' [] → rep e F' H' (.tup (cutG l lo hi)) z [] → Q z H') : rSlA K x lo hi H Q := by
  subst hK
  obtain ⟨rfl, a, vs, rfl, h1, g1⟩ := rep_tup r
  have hl := reps_len g1
  refine ⟨a, vs, rfl, s.sqt h1, fun hw => ?_, fun hw p hp => ?_⟩
  · rw [← hl] at hw
    refine k F H _ (Alc.rfl s List.nodup_nil (by simp)) ?_
    rw [cut_whole hw]
    exact r
  · obtain ⟨al, rp⟩ := new_tup (P := []) s hp ((reps_fr2.mp g1).cut lo hi)
    exact k _ _ _ al rp
theorem Mid.addP {F H F1 H1 F2 H2 : Hp} {O O1 P P2 : List Addr} {τ : L2.St} {σ1 : List T} (m : Mid c F H O τ σ1 F1 H1 O1 P) (t : Alc F1 H1 [] F2 H2 P2) : Mid c F H O τ σ1 F2 H2 O1 P2 := m.keepS.alc t
theorem e_sl (hK : c.e.K = X.K) (he : PE X a (tE c f)) (hl : PO X lo (tO c bl)) (hu : PO X hi (tO c bh)) : PE X (.Subscript a (.Slice lo hi none p2) pos) (tE c (mSl bl bh f)) := (pe_slice sl_two he hl hu).wk fun τ H Q h => by
  obtain ⟨F, σ, O, st, p⟩ := h
  refine Tm.mono ((Mid.start st).run (by simp) (g := f) p) fun x H1 ⟨t, σ1, F1, O1, P1, m1, r1, s1, p1⟩ => ?_
  refine Tm.mono (m1.run (by simpa using rep_some r1) (g := mBd bl) p1) fun y H2 ⟨u, σ2, F2, O2, P2, m2, r2, s2, p2⟩ => ?_
  obtain ⟨rfl, rfl⟩ := r2
  have r1' := s2.rep r1 fun a ha => m1.disj a (by simp [ha])
  have m2' : Mid c F H O τ σ2 F2 H2 O2 P1 := by simpa using m2
  refine Tm.mono (m2'.run (rep_some r1') (g := mBd bh) p2) fun z H3 ⟨v, σ3, F3, O3, P3, m3, r3, s3, p3⟩ => ?_
  obtain ⟨rfl, rfl⟩ := r3
  have r1'' := s3.rep r1' fun a ha => m2'.disj a ha
  have m3' : Mid c F H O τ σ3 F3 H3 O3 P1 := by simpa using m3
  split at p3
  · exact .inr (tup_cut hK m3'.st.sub r1'' fun F' H' z al rz => (m3'.addP al).fin p3 rz (by simp) (by simp))
  · split at p3
    · rename_i t' l q
      obtain ⟨p0, vs, F4, Ot', rfl, h1, al, _, fr⟩ := shT_ok hK m3'.st.sub r1'' (List.nodup_append.mp m3'.nd).2.1 q
      refine .inl ⟨p0, vs, rfl, h1, fun q0 hq => ?_⟩
      have m4 := m3'.alc al
      obtain ⟨al2, rp⟩ := new_own (P := Ot') m4.st.sub hq (fr.cut u v)
      exact (m4.alc al2).fin p3 rp al2.nd fun _ h => h
    · exact p3.elim
def mSlN (bl bh : Option (List T → Res T)) (i : Nat) : List T → Res T := fun σ => if live σ i then (mBd bl σ).bind fun lo σ2 => (mBd bh σ2).bind fun hi σ3 =>
  match σ3[i]? with
  | some (.tup l) => .ok (.tup (cutG l lo hi)) σ3
  | some t => if t.isHole then .stuck else (match shT t with
    | some (t', l) => .ok (.own (cutG l lo hi)) (σ3.set i t')
    | none => .stuck)
  | none => .stuck
  else .stuck
theorem e_slN (hK : c.e.K = X.K) (he : PE X a (tVar i)) (hl : PO X lo (tO c bl)) (hu : PO X hi (tO c bh)) : PE X (.Subscript a (.Slice lo hi none p2) pos) (tE c (mSlN bl bh i)) := (pe_slice sl_two he hl hu).wk fun τ H Q h => by
  obtain ⟨F, σ, O, st, p⟩ := h
  unfold mSlN at p
  split at p
  · rename_i hl
    obtain ⟨x, ex⟩ := st.val hl
    refine ⟨x, ex, Tm.mono ((Mid.start st).run (by simp) (g := mBd bl) p) fun y H2 ⟨u, σ2, F2, O2, P2, m2, r2, s2, p2⟩ => ?_⟩
    obtain ⟨rfl, rfl⟩ := r2
    refine Tm.mono (m2.run (by simp) (g := mBd bh) p2) fun z H3 ⟨v, σ3, F3, O3, P3, m3, r3, s3, p3⟩ => ?_
    obtain ⟨rfl, rfl⟩ := r3
    have m3' : Mid c F H O τ σ3 F3 H3 O3 [] := by simpa using m3
    split at p3
    · rename_i l q
      obtain ⟨x', Ot, e1, rt, nt, mt, back⟩ := m3'.slot q rfl
      rw [ex] at e1
      cases e1
      exact .inr (tup_cut hK m3'.st.sub rt fun F' H' z al rz => (m3'.addP al).fin p3 rz (by simp) (by simp))
    · rename_i t _ q
      split at p3
      · exact p3.elim
      · rename_i hh
        obtain ⟨x', Ot, e1, rt, nt, mt, back⟩ := m3'.slot q (by simpa using hh)
        rw [ex] at e1
        cases e1
        split at p3
        · rename_i t' l q2
          obtain ⟨p0, vs, F4, Ot', rfl, h1, al, rt', fr⟩ := shT_ok hK m3'.st.sub rt nt q2
          obtain ⟨O4, m4, _⟩ := back (P2 := []) (F2 := F4) (H2 := H3) (by simpa using al) rt'
          refine .inl ⟨p0, vs, rfl, h1, fun q0 hq => ?_⟩
          obtain ⟨al2, rp⟩ := new_own (P := []) m4.st.sub hq (fr.cut u v)
          exact (m4.alc al2).fin p3 rp al2.nd fun _ h => h
        · exact p3.elim
    · exact p3.elim
  · exact p.elim
/-- x[::-1] of a list -/
def mRevN (i : Nat) : List T → Res T := fun σ =>
  match σ[i]? with
  | some t => if t.isHole then .stuck else (match shT t with
    | some (t', l) => .ok (.own l.reverse) (σ.set i t')
    | none => .stuck)
  | none => .stuck
theorem e_revN {k : Nat} {p1 p3 : Pos} (hK : c.e.K = X.K) (he : PE X a (tVar i)) : PE X (.Subscript a (.Slice none none (some (.UnaryOp .USub (.Constant (.int 1) k p1) p2)) p3) pos) (tE c (mRevN i)) := (pe_revL he).wk fun τ H Q h => by
  obtain ⟨F, σ, O, st, p⟩ := h
  unfold mRevN at p
  split at p
  · rename_i t q
    split at p
    · exact p.elim
    · rename_i hh
      have m := Mid.start (c := c) st
      obtain ⟨x, Ot, e1, rt, nt, mt, back⟩ := m.slot q (by simpa using hh)
      split at p
      · rename_i t' l q2
        obtain ⟨p0, vs, F4, Ot', rfl, h1, al, rt', fr⟩ := shT_ok hK st.sub rt nt q2
        obtain ⟨O4, m4, _⟩ := back (P2 := []) (F2 := F4) (H2 := H) (by simpa using al) rt'
        refine ⟨_, e1, p0, vs, rfl, h1, fun q0 hq => ?_⟩
        obtain ⟨al2, rp⟩ := new_own (P := []) m4.st.sub hq fr.rev
        exact (m4.alc al2).fin p rp al2.nd fun _ h => h
      · exact p.elim
  · exact p.elim
def mRev (f : List T → Res T) : List T → Res T := fun σ => (f σ).bind fun t σ1 =>
  match shT t with
  | some (_, l) => .ok (.own l.reverse) σ1
  | none => .stuck
theorem e_rev {k : Nat} {p1 p3 : Pos} (hK : c.e.K = X.K) (he : PE X a (tE c f)) : PE X (.Subscript a (.Slice none none (some (.UnaryOp .USub (.Constant (.int 1) k p1) p2)) p3) pos) (tE c (mRev f)) := (pe_revL he).wk fun τ H Q h => by
  obtain ⟨F, σ, O, st, p⟩ := h
  refine Tm.mono ((Mid.start st).run (by simp) (g := f) p) fun x H1 ⟨t, σ1, F1, O1, P1, m1, r1, s1, p1⟩ => ?_
  rw [List.append_nil] at m1
  split at p1
  · rename_i t' l q2
    obtain ⟨p0, vs, F4, Ot', rfl, h1, al, rt', fr⟩ := shT_ok hK m1.st.sub r1 (List.nodup_append.mp m1.nd).2.1 q2
    refine ⟨p0, vs, rfl, h1, fun q0 hq => ?_⟩
    have m4 := m1.alc al
    obtain ⟨al2, rp⟩ := new_own (P := Ot') m4.st.sub hq fr.rev
    exact (m4.alc al2).fin p1 rp al2.nd fun _ h => h
  · exact p1.elim

/-! ## x.append(e), x.pop() -/
/-- a cell of P is written -/
theorem Alc.wr {P : List Addr} {p : Addr} {o : HO} (s : Sub F H) (m : p ∈ P) (hF : F p = none) (n : P.Nodup) {P' : List Addr} (n' : P'.Nodup) (m' : ∀ a ∈ P', a ∈ P) : Alc F H P F (upd H p o) P' := by
  refine ⟨⟨Sub.rfl, fun a u q z => (by rw [z] at q; cases q), fun a u q na => ?_, fun a u q => ?_, fun a ha => .inl (m' a ha)⟩, fun a u q => ?_, n'⟩
  · rw [upd_ne (show a ≠ p from fun z => na (by rw [z]; exact m))]; exact q
  · by_cases h : a = p
    · subst h; exact ⟨_, upd_same⟩
    · rw [upd_ne h]; exact ⟨u, q⟩
  · have h : a ≠ p := fun z => by rw [z, hF] at q; cases q
    rw [upd_ne h]; exact s a u q
def mAppN (i : Nat) (f : List T → Res T) : List T → Res T := fun σ => (match σ[i]? with
  | some (.own _) => (f σ).bind fun t σ1 => (match σ1[i]? with
    | some (.own l) => if szB l.length then .ok (.v .non) (σ1.set i (.own (l ++ [t]))) else .stuck
    | _ => .stuck)
  | _ => .stuck)
theorem own_ty {K : PySem.W.Frag} {l : List T} {x : V} {Ot : List Addr} (r : rep e F H (.own l) x Ot) : tyV K "list" x H := by
  simp only [rep] at r
  obtain ⟨a, vs, O', rfl, rfl, h1, h2, h3⟩ := r
  exact .inl ⟨rfl, vs, .inl (.inl h2)⟩
theorem e_appN {apos cpos : Pos} (he : PE X a (tVar i)) (hb : PE X b (tE c f))
    (hbase : attributeBase a "append" X.env (eval a X.env) = eval a X.env := by rfl)
    (hfew : ((backTo cpos (starEach (b :: []) X.env)).all (fun x => !x.1) && (backToKw cpos (keywordEach [] X.env)).all (fun x => x.1.isSome)
      && decide ((b :: []).length + ([] : List Keyword).length + (if ([] : List Keyword).isEmpty then 0 else 1) < 30)) = true := by rfl)
    (hline : (apos.endLine == cpos.line) = true := by rfl) (hs : starEach (b :: []) X.env = (false, eval b X.env) :: starEach [] X.env := by rfl) (hplain : (backTo cpos (starEach [] X.env)).any (·.1) = false := by rfl) :
    PE X (.Call (.Attribute a "append" apos) (b :: []) [] cpos) (tE c (mAppN i f)) :=
  (pe_bm PySem.F.plainAttrs_list PySem.F.slot_list_append PySem.F.type_list_append mt_append he (pa_cons hb pa_nil hs) hbase hfew hline hs hplain).wk fun τ H Q h => by
    obtain ⟨F, σ, O, st, p⟩ := h
    unfold mAppN at p
    split at p
    · rename_i l0 q0
      obtain ⟨x, Ot0, ex, rt0, _⟩ := (Mid.start (c := c) st).slot q0 rfl
      refine ⟨x, ex, own_ty rt0, Tm.mono ((Mid.start st).run (by simp) (g := f) p) fun y H1 ⟨t, σ1, F1, O1, P1, m1, r1, s1, p1⟩ => ?_⟩
      rw [List.append_nil] at m1
      split at p1
      · rename_i l q1
        split at p1
        · rename_i hz
          obtain ⟨x', Ot, e1, rt, nt, mt, back⟩ := m1.slot q1 rfl
          rw [ex] at e1
          cases e1
          simp only [rep] at rt
          obtain ⟨a0, vs, O', rfl, rfl, fp, hp, g1⟩ := rt
          have nP := (List.nodup_append.mp m1.nd).2.1
          have dP : ∀ z ∈ P1, z ∉ a0 :: O' := fun z hz h => m1.disj z hz (mt z h)
          have nn : (a0 :: (O' ++ P1)).Nodup := by
            have := nd_app nt nP dP
            simpa using this
          obtain ⟨n0, n1⟩ := List.nodup_cons.mp nn
          refine ⟨a0, vs, y, rfl, rfl, hp, by rw [← reps_len g1]; exact szB_line hz, ?_⟩
          have al : Alc F1 H1 (a0 :: O' ++ P1) F1 (upd H1 a0 (.lst (vs ++ [y]))) (a0 :: (O' ++ P1) ++ []) := Alc.wr m1.st.sub (by simp) fp (by simpa using nn) (by simpa using nn) (by intro z hz; simpa using hz)
          have keep : ∀ z ∈ O' ++ P1, (upd H1 a0 (.lst (vs ++ [y]))) z = H1 z ∧ F1 z = none := fun z hz => by
            refine ⟨upd_ne fun w => n0 (w ▸ hz), ?_⟩
            rcases List.mem_append.mp hz with h | h
            · exact (reps_at g1 z h).1
            · exact (rep_at r1 z h).1
          obtain ⟨O2, m2, _⟩ := back (t' := .own (l ++ [t])) al (by
            simp only [rep]
            refine ⟨a0, vs ++ [y], O' ++ P1, rfl, rfl, fp, upd_same, ?_⟩
            exact reps_mono Sub.rfl (reps_app.mpr ⟨vs, [y], O', P1, rfl, rfl, g1, reps_one.mpr r1⟩) keep)
          exact m2.fin p1 rep_v' (by simp) (by simp)
        · exact p1.elim
      · exact p1.elim
    · exact p.elim
def mPopN (i : Nat) : List T → Res T := fun σ =>
  match σ[i]? with
  | some (.own l) => (match l[l.length - 1]? with
    | some w => .ok w (σ.set i (.own l.dropLast))
    | none => .stuck)
  | _ => .stuck
theorem e_popN {apos cpos : Pos} (he : PE X a (tVar i))
    (hbase : attributeBase a "pop" X.env (eval a X.env) = eval a X.env := by rfl) (hline : (apos.endLine == cpos.line) = true := by rfl) :
    PE X (.Call (.Attribute a "pop" apos) [] [] cpos) (tE c (mPopN i)) :=
  (pe_bm0 PySem.F.plainAttrs_list PySem.F.slot_list_pop PySem.F.type_list_pop mt_pop he hbase hline).wk fun τ H Q h => by
    obtain ⟨F, σ, O, st, p⟩ := h
    unfold mPopN at p
    split at p
    · rename_i l q0
      split at p
      · rename_i w q1
        have m := Mid.start (c := c) st
        obtain ⟨x, Ot, ex, rt, nt, mt, back⟩ := m.slot q0 rfl
        refine ⟨x, ex, own_ty rt, ?_⟩
        simp only [rep] at rt
        obtain ⟨a0, vs, O', rfl, rfl, fp, hp, g1⟩ := rt
        have hl := reps_len g1
        have hne : l ≠ [] := fun z => by subst z; simp at q1
        have el : l = l.dropLast ++ [w] := by
          rw [List.getElem?_eq_some_iff] at q1
          obtain ⟨h1, h2⟩ := q1
          have := List.dropLast_concat_getLast hne
          rw [List.getLast_eq_getElem, h2] at this
          exact this.symm
        rw [el] at g1
        obtain ⟨v1, v2, A, B, rfl, rfl, ga, gb⟩ := reps_app.mp g1
        obtain ⟨y, rfl, ry⟩ := reps1 gb
        obtain ⟨n0, n1⟩ := List.nodup_cons.mp nt
        have ev : (v1 ++ [y])[(v1 ++ [y]).length - 1]? = some y := by simp
        refine ⟨a0, v1 ++ [y], y, rfl, rfl, hp, ev, ?_⟩
        have ed : (v1 ++ [y]).dropLast = v1 := by simp
        rw [ed]
        have al : Alc F H (a0 :: (A ++ B) ++ []) F (upd H a0 (.lst v1)) (a0 :: A ++ B) := Alc.wr st.sub (by simp) fp (by simpa using nt) (by simpa using nt) (by intro z hz; simpa using hz)
        have keep : ∀ z ∈ A ++ B, (upd H a0 (.lst v1)) z = H z ∧ F z = none := fun z hz => by
          refine ⟨upd_ne fun w => n0 (w ▸ hz), ?_⟩
          rcases List.mem_append.mp hz with h | h
          · exact (reps_at ga z h).1
          · exact (rep_at ry z h).1
        obtain ⟨O2, m2, _⟩ := back (t' := .own l.dropLast) al (by
          simp only [rep]
          exact ⟨a0, v1, A, rfl, rfl, fp, upd_same, reps_mono Sub.rfl ga fun z hz => keep z (by simp [hz])⟩)
        exact m2.fin p (rep_mono Sub.rfl ry fun z hz => keep z (by simp [hz])) ((List.nodup_append.mp n1).2.1) fun _ h => h
      · exact p.elim
    · exact p.elim
end
end MV

namespace MV
open PySem PySem.Spec PyProof.Rows L2

/-! ## Statements -/
inductive SRes where
  | nx (σ : List T)
  | rt (t : T) (σ : List T)
  | bk (σ : List T)
  | ct (σ : List T)
  | exc (C : Str) (ns : List Str) (ts : List T) (σ : List T)
  | stuck

def SPost (c : Ct) (F H : Hp) (O : List Addr) (D : Ends) : SRes → Prop
  | .nx σ' => ∀ τ' F' H' O', Sta c.e c.bor F' H' τ' σ' O' → Stp F H O F' H' O' → D.nx τ' H'
  | .bk σ' => ∀ τ' F' H' O', Sta c.e c.bor F' H' τ' σ' O' → Stp F H O F' H' O' → D.bk τ' H'
  | .ct σ' => ∀ τ' F' H' O', Sta c.e c.bor F' H' τ' σ' O' → Stp F H O F' H' O' → D.ct τ' H'
  | .rt t σ' => ∀ τ' F' H' O' x P, Sta c.e c.bor F' H' τ' σ' O' → rep c.e F' H' t x P → (O' ++ P).Nodup → Stp F H O F' H' (O' ++ P) → D.rt x H'
  | .exc C ns ts σ' => ∀ τ' F' H' O' Ca d, Sta c.e c.bor F' H' τ' σ' O' → Stp F H O F' H' O' → XR c.e F' H' C ns ts Ca d → c.W (.ref Ca) d τ' H'
  | .stuck => False
def tS (c : Ct) (m : List T → SRes) : TS := fun D τ H => ∃ F σ O, Sta c.e c.bor F H τ σ O ∧ SPost c F H O D (m σ)
theorem SPost.go {c : Ct} {F H F1 H1 : Hp} {O O1 N : List Addr} {D : Ends} {r : SRes} (p : SPost c F H O D r) (s : Stp F H O F1 H1 N) (hN : ∀ a ∈ O1, a ∈ N) : SPost c F1 H1 O1 D r := by
  cases r with
  | nx σ => exact fun τ' F' H' O' a b => p τ' F' H' O' a (s.tr b hN fun _ h => .inl h)
  | bk σ => exact fun τ' F' H' O' a b => p τ' F' H' O' a (s.tr b hN fun _ h => .inl h)
  | ct σ => exact fun τ' F' H' O' a b => p τ' F' H' O' a (s.tr b hN fun _ h => .inl h)
  | rt t σ => exact fun τ' F' H' O' x P a r n b => p τ' F' H' O' x P a r n (s.tr b hN fun _ h => .inl h)
  | exc C ns ts σ => exact fun τ' F' H' O' Ca d a b => p τ' F' H' O' Ca d a (s.tr b hN fun _ h => .inl h)
  | stuck => exact p
def SRes.seq (r : SRes) (k : List T → SRes) : SRes := match r with
  | .nx σ => k σ
  | r => r
def Res.sbind {α : Type} (r : Res α) (k : α → List T → SRes) : SRes := match r with
  | .ok a σ => k a σ
  | .exc C ns ts σ => .exc C ns ts σ
  | .stuck => .stuck
section
variable {α β : Type} {X : Cx} {c : Ct} {F H F1 H1 : Hp} {O O1 : List Addr} {D : Ends} {τ : L2.St} {σ : List T} {R : Hp → Hp → α → β → List Addr → Prop}
/-- an expression ahead of the rest of a statement -/
theorem s_run (st : Sta c.e c.bor F H τ σ O) {f : List T → Res α} {k : α → List T → SRes} (p : SPost c F H O D ((f σ).sbind k)) :
    Tm c R f τ H fun y H1 => ∃ u σ1 F1 O1 P1, Mid c F H O τ σ1 F1 H1 O1 P1 ∧ R F1 H1 u y P1 ∧ SPost c F H O D (k u σ1) := by
  refine ⟨F, σ, O, st, ?_⟩
  cases q : f σ with
  | ok u σ1 =>
    rw [q] at p
    exact fun F1 H1 O1 y P1 s r n t => ⟨u, σ1, F1, O1, P1, ⟨s, n, t⟩, r, p⟩
  | exc C ns ts σ1 =>
    rw [q] at p
    exact fun F1 H1 O1 Ca d s t x => p τ F1 H1 O1 Ca d s t x
  | stuck => rw [q] at p; exact p.elim
theorem Mid.nx {P : List Addr} {σ1 : List T} (m : Mid c F H O τ σ1 F1 H1 O1 P) (p : SPost c F H O D (.nx σ1)) : D.nx τ H1 := p τ F1 H1 O1 m.st (m.stp.sub_own (by intro a h; simp [h]))
theorem Mid.tS {P : List Addr} {σ1 : List T} {m : List T → SRes} (md : Mid c F H O τ σ1 F1 H1 O1 P) (p : SPost c F H O D (m σ1)) : tS c m D τ H1 :=
  ⟨F1, σ1, O1, md.st, p.go md.stp (by intro a h; simp [h])⟩

def mSeq (m k : List T → SRes) : List T → SRes := fun σ => (m σ).seq k
variable {s : Stmt} {ss : List Stmt} {m k : List T → SRes} {e a b d : Expr} {f g : List T → Res T} {fb : List T → Res Bool} {pos : Pos} {i : Nat} {x : Str}
theorem s_nil : PSs X [] (tS c .nx) := pss_nil.wk fun D τ H h => by
  obtain ⟨F, σ, O, st, p⟩ := h
  exact (Mid.start st).nx p
theorem s_cons (h1 : PS X s (tS c m)) (h2 : PSs X ss (tS c k)) : PSs X (s :: ss) (tS c (mSeq m k)) := (pss_cons h1 h2).wk fun D τ H h => by
  obtain ⟨F, σ, O, st, p⟩ := h
  refine ⟨F, σ, O, st, ?_⟩
  unfold mSeq at p
  cases q : m σ with
  | nx σ1 =>
    rw [q] at p
    exact fun τ1 F1 H1 O1 s1 t1 => ⟨F1, σ1, O1, s1, p.go t1 fun _ h => h⟩
  | bk σ => rw [q] at p; exact p
  | ct σ => rw [q] at p; exact p
  | rt t σ => rw [q] at p; exact p
  | exc C ns ts σ => rw [q] at p; exact p
  | stuck => rw [q] at p; exact p
theorem s_one (h1 : PS X s (tS c m)) : PSs X [s] (tS c m) := pss_one h1
theorem s_pass : PS X (.Pass pos) (tS c .nx) := ps_pass.wk fun D τ H h => by
  obtain ⟨F, σ, O, st, p⟩ := h
  exact (Mid.start st).nx p
theorem s_break : PS X (.Break pos) (tS c .bk) := ps_break.wk fun D τ H h => by
  obtain ⟨F, σ, O, st, p⟩ := h
  exact p τ F H O st (Stp.rfl fun _ h => h)
theorem s_cont : PS X (.Continue pos) (tS c .ct) := ps_continue.wk fun D τ H h => by
  obtain ⟨F, σ, O, st, p⟩ := h
  exact p τ F H O st (Stp.rfl fun _ h => h)
def mEx (f : List T → Res T) : List T → SRes := fun σ => (f σ).sbind fun _ σ1 => .nx σ1
theorem s_expr (h : PE X e (tE c f)) (hs : swapsWith e none pos.line X.env = pure false := by rfl) : PS X (.Expr e pos) (tS c (mEx f)) := (ps_expr h hs).wk fun D τ H h => by
  obtain ⟨F, σ, O, st, p⟩ := h
  exact Tm.mono (s_run st p) fun y H1 ⟨u, σ1, F1, O1, P1, m1, r1, p1⟩ => m1.nx p1
def mRet (f : List T → Res T) : List T → SRes := fun σ => (f σ).sbind fun t σ1 => .rt t σ1
theorem s_ret (h : PE X e (tE c f)) : PS X (.Return (some e) pos) (tS c (mRet f)) := (ps_ret h).wk fun D τ H h => by
  obtain ⟨F, σ, O, st, p⟩ := h
  exact Tm.mono (s_run st p) fun y H1 ⟨u, σ1, F1, O1, P1, m1, r1, p1⟩ => p1 τ H1 |> fun _ => p1 τ F1 H1 O1 y P1 m1.st r1 m1.nd m1.stp
def mRetN : List T → SRes := fun σ => .rt (.v .non) σ
theorem s_retN : PS X (.Return none pos) (tS c mRetN) := ps_retN.wk fun D τ H h => by
  obtain ⟨F, σ, O, st, p⟩ := h
  exact p τ F H O _ [] st rep_v' (by simpa using st.nd) (Stp.rfl (by simp))
/-- return of a local list: it is handed over as it is -/
def mRetM (i : Nat) : List T → SRes := fun σ =>
  match σ[i]? with
  | some t => if t.isHole then .stuck else .rt t (σ.set i .hole)
  | none => .stuck
theorem s_retM (h : PE X e (tVar i)) : PS X (.Return (some e) pos) (tS c (mRetM i)) := (ps_ret h).wk fun D τ H h => by
  obtain ⟨F, σ, O, st, p⟩ := h
  unfold mRetM at p
  split at p
  · rename_i t q
    split at p
    · exact p.elim
    · rename_i hh
      have hh' : t.isHole = false := by simpa using hh
      obtain ⟨y, A, Ot, B, e1, rfl, r1, back⟩ := st.slot q hh'
      obtain ⟨nA, nt, nB, d1, d2, d3⟩ := nd3 st.nd
      obtain ⟨vs, rv, _⟩ := st.vals
      have st' := back (F' := F) (H' := H) (t' := .hole) (Ot' := []) Sub.rfl st.sub (fun a ha => ⟨rfl, (reps_at rv a (by rcases List.mem_append.mp ha with z | z <;> simp [z])).1⟩) (by simp [rep]) (nd3' st.nd List.nodup_nil (by simp))
      refine ⟨y, e1, p τ F H _ y Ot st' r1 (nd_app st'.nd nt fun a ha hb => ?_) (Stp.rfl ?_)⟩
      · simp at hb
        rcases hb with z | z
        · exact d1 a z ha
        · exact d3 a ha z
      · intro a ha
        simp at ha ⊢
        rcases ha with z | z | z <;> simp [z]
  · exact p.elim
def mIf (f : List T → Res Bool) (m k : List T → SRes) : List T → SRes := fun σ => (f σ).sbind fun b σ1 => if b then m σ1 else k σ1
theorem s_if (hc : PT X e (tT c fb)) (ha : PSs X ss (tS c m)) {ss2 : List Stmt} (hb : PSs X ss2 (tS c k)) : PS X (.If e ss ss2 pos) (tS c (mIf fb m k)) := (ps_if hc ha hb).wk fun D τ H h => by
  obtain ⟨F, σ, O, st, p⟩ := h
  refine Tm.mono (s_run st p) fun y H1 ⟨u, σ1, F1, O1, P1, m1, r1, p1⟩ => ?_
  obtain ⟨rfl, rfl⟩ := r1
  cases u with
  | true => exact m1.tS p1
  | false => exact m1.tS p1

/-! ### targets -/
/-- a tree is put into the slots -/
def Same' (sl : List Nat) (τ τ' : L2.St) : Prop := τ'.length = τ.length ∧ ∀ j, j ∉ sl → τ'[j]? = τ[j]?
def tG (c : Ct) (sl : List Nat) (w : T → List T → Option (List T)) : TG := fun v τ H Q => ∃ F σ O t P, Sta c.e c.bor F H τ σ O ∧ rep c.e F H t v P ∧ (O ++ P).Nodup ∧ ∃ σ', w t σ = some σ' ∧
  ∀ τ' O', Sta c.e c.bor F H τ' σ' O' → (∀ a ∈ O', a ∈ O ++ P) → Same' sl τ τ' → Q τ' H
def wN (i : Nat) : T → List T → Option (List T) := fun t σ => if i < σ.length then some (σ.set i t) else none
def slotOk (c : Ct) (i : Nat) : Prop := i ≠ 0 ∨ c.bor = none
theorem Sta.put {F H : Hp} {τ : L2.St} {σ : List T} {O P : List Addr} {t : T} {v : V} (st : Sta c.e c.bor F H τ σ O) (r : rep c.e F H t v P) (n : (O ++ P).Nodup) (hi : i < σ.length) (ok : slotOk c i) :
    ∃ O', Sta c.e c.bor F H (τ.set i (some v)) (σ.set i t) O' ∧ ∀ a ∈ O', a ∈ O ++ P := by
  obtain ⟨vs, rv, hv⟩ := st.vals
  obtain ⟨x, A, Ot, B, e1, rfl, r1, back⟩ := reps_split rv (List.getElem?_eq_getElem hi)
  obtain ⟨nA, nt, nB, d1, d2, d3⟩ := nd3 st.nd
  have dj := nd_disj n
  have nP := (List.nodup_append.mp n).2.1
  have nd2 : (A ++ P ++ B).Nodup := nd3' st.nd nP fun a ha => ⟨fun z => dj a ha (by simp [z]), fun z => dj a ha (by simp [z])⟩
  have hlt : i < vs.length := by rw [← reps_len rv]; exact hi
  refine ⟨A ++ P ++ B, ⟨st.sub, nd2, by simp [st.len], ⟨vs.set i v, back Sub.rfl (fun a ha => ⟨rfl, (reps_at rv a (by rcases List.mem_append.mp ha with z | z <;> simp [z])).1⟩) r, fun j u y h1 h2 h3 => ?_⟩, fun y hy => ?_⟩, ?_⟩
  · by_cases hj : j = i
    · subst hj
      rw [List.getElem?_set_self hlt] at h3
      cases h3
      rw [List.getElem?_set_self (by rw [st.len]; exact hi)]
    · rw [List.getElem?_set_ne (Ne.symm hj)] at h1 h3 ⊢
      exact hv j u y h1 h2 h3
  · rcases ok with z | z
    · rw [List.getElem?_set_ne z]; exact st.bor y hy
    · rw [z] at hy; cases hy
  · intro a ha
    simp only [List.mem_append] at ha ⊢
    rcases ha with (z | z) | z <;> simp [z]
theorem g_name (ok : slotOk c i) {tg : Expr} (h : PG X tg (gName i)) : PG X tg (tG c [i] (wN i)) := h.wk fun v τ H Q h => by
  obtain ⟨F, σ, O, t, P, st, r, n, σ', hw, k⟩ := h
  unfold wN at hw
  split at hw
  · rename_i hi
    cases hw
    obtain ⟨O', st', m⟩ := st.put r n hi ok
    exact k _ O' st' m ⟨by simp, fun j hj => List.getElem?_set_ne fun z => hj (by simp [z])⟩
  · cases hw
/-- several targets: the items of a sequence, frozen -/
def tGs (c : Ct) (sl : List Nat) (w : List T → List T → Option (List T)) : TGs := fun vs τ H Q => ∃ F σ O ts, Sta c.e c.bor F H τ σ O ∧ reps c.e F H ts vs [] ∧ ∃ σ', w ts σ = some σ' ∧
  ∀ τ' O', Sta c.e c.bor F H τ' σ' O' → (∀ a ∈ O', a ∈ O) → Same' sl τ τ' → Q τ' H
def wNil : List T → List T → Option (List T) := fun ts σ => if ts.isEmpty then some σ else none
def wCons (w : T → List T → Option (List T)) (u : List T → List T → Option (List T)) : List T → List T → Option (List T) := fun ts σ =>
  match ts with
  | t :: r => (w t σ).bind (u r)
  | [] => none
theorem g_nil : PGs X [] (tGs c [] wNil) := by
  obtain ⟨h⟩ := (pgs_nil : PGs X [] gNil)
  refine ⟨fun p s τ H vs us Q I r q => h p s τ H vs us Q I r ?_⟩
  obtain ⟨F, σ, O, ts, st, rs, σ', hw, k⟩ := q
  unfold wNil at hw
  cases ts with
  | nil =>
    simp at hw
    subst hw
    simp only [reps] at rs
    exact ⟨rs.1, k τ O st (fun _ h => h) ⟨rfl, fun _ _ => rfl⟩⟩
  | cons _ _ => simp at hw
theorem g_cons {w : T → List T → Option (List T)} {u : List T → List T → Option (List T)} {es : List Expr} {s1 s2 : List Nat} (h1 : PG X e (tG c s1 w)) (h2 : PGs X es (tGs c s2 u))
    (hs : (assignEach (e :: es) X.env).map (·.2) = assign e X.env :: (assignEach es X.env).map (·.2) := by rfl) : PGs X (e :: es) (tGs c (s1 ++ s2) (wCons w u)) := by
  obtain ⟨h⟩ := pgs_cons h1 h2 hs
  refine ⟨fun p s τ H vs us Q I r q => h p s τ H vs us Q I r ?_⟩
  obtain ⟨F, σ, O, ts, st, rs, σ', hw, k⟩ := q
  cases ts with
  | nil => simp [wCons] at hw
  | cons t ts =>
    simp only [reps] at rs
    obtain ⟨x, xs, O1, O2, rfl, e0, r1, r2⟩ := rs
    obtain ⟨rfl, rfl⟩ := List.append_eq_nil_iff.mp e0.symm
    simp only [wCons] at hw
    cases q1 : w t σ with
    | none => rw [q1] at hw; cases hw
    | some σ1 =>
      rw [q1] at hw
      refine ⟨x, xs, rfl, F, σ, O, t, [], st, r1, by simpa using st.nd, σ1, q1, fun τ1 O1 st1 m1 e1 => ?_⟩
      exact ⟨F, σ1, O1, ts, st1, r2, σ', hw, fun τ2 O2 st2 m2 e2 => k τ2 O2 st2 (fun a ha => by simpa using m1 a (m2 a ha)) ⟨by rw [e2.1, e1.1], fun j hj => by
        simp only [List.mem_append, not_or] at hj
        rw [e2.2 j hj.2, e1.2 j hj.1]⟩⟩
def wTup (n : Nat) (u : List T → List T → Option (List T)) : T → List T → Option (List T) := fun t σ =>
  match t with
  | .tup l => if l.length = n then u l σ else none
  | _ => none
theorem g_tup {es : List Expr} {kk n : Nat} {sl : List Nat} {u : List T → List T → Option (List T)} (hK : c.e.K = X.K) (hc : X.calm = true) (h : PGs X es (tGs c sl u)) (hn : (assignEach es X.env).length = n := by rfl) (hst : (assignEach es X.env).findIdx? (·.1) = none := by rfl) :
    PG X (.Tuple es kk pos) (tG c sl (wTup n u)) := (pg_tup hc h hn hst).wk fun v τ H Q h => by
  obtain ⟨F, σ, O, t, P, st, r, nd, σ', hw, k⟩ := h
  unfold wTup at hw
  split at hw
  · rename_i l
    split at hw
    · rename_i hl
      obtain ⟨rfl, a, vs, rfl, h1, g1⟩ := rep_tup r
      rw [hK] at h1
      exact ⟨a, vs, rfl, st.sub.sqt h1, by rw [← reps_len g1]; exact hl, F, σ, O, l, st, g1, σ', hw, fun τ' O' st' m' => k τ' O' st' (fun a ha => by simpa using m' a ha)⟩
    · cases hw
  · cases hw
def mAsg (f : List T → Res T) (w : T → List T → Option (List T)) : List T → SRes := fun σ => (f σ).sbind fun t σ1 =>
  match w t σ1 with
  | some σ2 => .nx σ2
  | none => .stuck
theorem asg_wk {sl : List Nat} {w : T → List T → Option (List T)} (D : Ends) (τ : L2.St) (H : Hp) (h : tS c (mAsg f w) D τ H) : tAsg (tE c f) (tG c sl w) D τ H := by
  obtain ⟨F, σ, O, st, p⟩ := h
  refine Tm.mono (s_run st p) fun y H1 ⟨u, σ1, F1, O1, P1, m1, r1, p1⟩ => ?_
  cases q : w u σ1 with
  | none => rw [q] at p1; exact p1.elim
  | some σ2 =>
    rw [q] at p1
    exact ⟨F1, σ1, O1, u, P1, m1.st, r1, m1.nd, σ2, q, fun τ2 O2 st2 mm _ => p1 τ2 F1 H1 O2 st2 (m1.stp.sub_own mm)⟩
theorem s_asg {sl : List Nat} {w : T → List T → Option (List T)} {tg : Expr} (he : PE X e (tE c f)) (hg : PG X tg (tG c sl w)) (hs : swapsWithSole [tg] e pos.line X.env = pure false := by rfl) (hw : swappedStores [tg] e X.env = pure none := by rfl)
    (h1 : (assignEach [tg] X.env).map (·.2) = [assign tg X.env] := by rfl) : PS X (.Assign [tg] e pos) (tS c (mAsg f w)) := (ps_asg he hg hs hw h1).wk asg_wk
theorem s_set {pos' : Pos} (ok : slotOk c i) (hN : X.N.Nodup) (hi : X.N[i]? = some x) (hx : Loc X.env.scope x) (he : PE X e (tE c f)) (hs : swapsWith e (some (.Name x pos')) pos.line X.env = pure false := by rfl)
    (hf : X.fn x = true ∨ X.env.scope.names.lookup x = some .local := by first | exact .inl rfl | exact .inr rfl | assumption) : PS X (.Assign [.Name x pos'] e pos) (tS c (mAsg f (wN i))) :=
  (ps_set hN hi hx he hs hf).wk fun D τ H h => by
    have z := asg_wk (sl := [i]) D τ H h
    refine Tm.mono z fun y H1 ⟨F, σ, O, t, P, st, r, n, σ', hw, k⟩ => ?_
    unfold wN at hw
    split at hw
    · rename_i hi
      cases hw
      obtain ⟨O', st', m⟩ := st.put r n hi ok
      exact k _ O' st' m ⟨by simp, fun j hj => List.getElem?_set_ne fun z => hj (by simp [z])⟩
    · cases hw
end
end MV

namespace MV
open PySem PySem.Spec PyProof.Rows L2

/-! ## Stores into lists -/
section
variable {X : Cx} {c : Ct} {F H F1 H1 : Hp} {O O1 P P1 P2 : List Addr} {D : Ends} {τ : L2.St} {σ σ1 : List T} {k : Nat} {t : T}
theorem Mid.lend (m : Mid c F H O τ σ1 F1 H1 O1 P) (h : σ1[k]? = some t) (hh : t.isHole = false) :
    ∃ x Ot O2, τ[k]? = some (some x) ∧ rep c.e F1 H1 t x Ot ∧ Mid c F H O τ (σ1.set k .hole) F1 H1 O2 (Ot ++ P) ∧ Stp F1 H1 O1 F1 H1 (O2 ++ Ot) := by
  obtain ⟨y, A, Ot, B, e1, rfl, r1, back⟩ := m.st.slot h hh
  obtain ⟨nA, nt, nB, d1, d2, d3⟩ := nd3 m.st.nd
  obtain ⟨vs, rv, _⟩ := m.st.vals
  have st' := back (F' := F1) (H' := H1) (t' := .hole) (Ot' := []) Sub.rfl m.st.sub (fun a ha => ⟨rfl, (reps_at rv a (by rcases List.mem_append.mp ha with z | z <;> simp [z])).1⟩) (by simp [rep]) (nd3' m.st.nd List.nodup_nil (by simp))
  have dj := m.disj
  have nP := (List.nodup_append.mp m.nd).2.1
  have nOP : (Ot ++ P).Nodup := nd_app nt nP fun a ha hb => dj a ha (by simp [hb])
  refine ⟨y, Ot, _, e1, r1, ⟨st', nd_app st'.nd nOP fun a ha hb => ?_, m.stp.sub_own fun a ha => ?_⟩, Stp.rfl fun a ha => ?_⟩
  · simp only [List.mem_append, List.not_mem_nil, or_false] at hb
    rcases List.mem_append.mp ha with z | z
    · rcases hb with y | y
      · exact d1 a y z
      · exact d3 a z y
    · refine dj a z ?_
      rcases hb with y | y <;> simp [y]
  · simp only [List.mem_append, List.not_mem_nil, or_false] at ha ⊢
    rcases ha with (z | z) | z | z <;> simp [z]
  · simp only [List.mem_append, List.not_mem_nil, or_false] at ha ⊢
    rcases ha with (z | z) | z <;> simp [z]
theorem Mid.fill {x : V} (m : Mid c F H O τ σ1 F1 H1 O1 P) (hk : k < σ1.length) (hx : τ[k]? = some (some x)) (r : rep c.e F1 H1 t x P1) (n : (P1 ++ P2).Nodup) (hs : ∀ a ∈ P1 ++ P2, a ∈ P) :
    ∃ O2, Mid c F H O τ (σ1.set k t) F1 H1 O2 P2 := by
  obtain ⟨vs, rv, hv⟩ := m.st.vals
  obtain ⟨y, A, Ot, B, e1, rfl, r1, back⟩ := reps_split rv (List.getElem?_eq_getElem hk)
  obtain ⟨nA, nt, nB, d1, d2, d3⟩ := nd3 m.st.nd
  have dj := m.disj
  have hlt : k < vs.length := by rw [← reps_len rv]; exact hk
  have n1 := (List.nodup_append.mp n).1
  have nd2 : (A ++ P1 ++ B).Nodup := nd3' m.st.nd n1 fun a ha => ⟨fun z => dj a (hs a (by simp [ha])) (by simp [z]), fun z => dj a (hs a (by simp [ha])) (by simp [z])⟩
  refine ⟨A ++ P1 ++ B, ⟨⟨m.st.sub, nd2, by simp [m.st.len], ⟨vs.set k x, back Sub.rfl (fun a ha => ⟨rfl, (reps_at rv a (by rcases List.mem_append.mp ha with z | z <;> simp [z])).1⟩) r, fun j u y h1 h2 h3 => ?_⟩, m.st.bor⟩, ?_, m.stp.sub_own fun a ha => ?_⟩⟩
  · by_cases hj : j = k
    · subst hj
      rw [List.getElem?_set_self hlt] at h3
      cases h3
      exact hx
    · rw [List.getElem?_set_ne (Ne.symm hj)] at h1 h3
      exact hv j u y h1 h2 h3
  · refine nd_app nd2 (List.nodup_append.mp n).2.1 fun a ha hb => ?_
    simp only [List.mem_append] at hb
    rcases hb with (z | z) | z
    · exact dj a (hs a (by simp [ha])) (by simp [z])
    · exact (List.nodup_append.mp n).2.2 a z a ha rfl
    · exact dj a (hs a (by simp [ha])) (by simp [z])
  · simp only [List.mem_append] at ha ⊢
    rcases ha with ((z | z) | z) | z
    · simp [z]
    · exact .inr (hs a (by simp [z]))
    · simp [z]
    · exact .inr (hs a (by simp [z]))
/-- the place m of a list that is a cell is written -/
theorem own_set {e : En} {l : List T} {vs : List V} {O' Pt : List Addr} {p : Addr} {m : Nat} {t : T} {y : V} (fp : F p = none) (g : reps e F H l vs O') (n : (p :: O').Nodup) (hm : m < l.length) (r : rep e F H t y Pt) (nt : Pt.Nodup)
    (d : ∀ a ∈ Pt, a ∉ p :: O') : ∃ O2, reps e F (upd H p (.lst (vs.set m y))) (l.set m t) (vs.set m y) O2 ∧ (p :: O2).Nodup ∧ (∀ a ∈ O2, a ∈ O' ++ Pt) := by
  obtain ⟨y0, A, Ot, B, e1, rfl, r1, back⟩ := reps_split g (List.getElem?_eq_getElem hm)
  obtain ⟨n0, n1⟩ := List.nodup_cons.mp n
  have up : ∀ a, a ≠ p → upd H p (.lst (vs.set m y)) a = H a := fun a h => upd_ne h
  refine ⟨A ++ Pt ++ B, back Sub.rfl (fun a ha => ⟨up a fun z => n0 ?_, (reps_at g a ?_).1⟩) (rep_mono Sub.rfl r fun a ha => ⟨up a fun z => d a ha (by simp [z]), (rep_at r a ha).1⟩), List.nodup_cons.mpr ⟨fun z => ?_, nd3' n1 nt fun a ha => ⟨fun z => d a ha (by simp [z]), fun z => d a ha (by simp [z])⟩⟩, ?_⟩
  · rw [← z]; rcases List.mem_append.mp ha with y | y <;> simp [y]
  · rcases List.mem_append.mp ha with y | y <;> simp [y]
  · simp only [List.mem_append] at z
    rcases z with (z | z) | z
    · exact n0 (by simp [z])
    · exact d p z (by simp)
    · exact n0 (by simp [z])
  · intro a ha
    simp only [List.mem_append] at ha ⊢
    rcases ha with (z | z) | z <;> simp [z]
def mSetN (k : Nat) (g f : List T → Res T) : List T → SRes := fun σ => (f σ).sbind fun t σ1 => if live σ1 k then (g σ1).sbind fun u σ2 =>
    (match u, σ2[k]? with
    | .v (.int j), some (.own l) => (match ixN l.length j with
      | some m => .nx (σ2.set k (.own (l.set m t)))
      | none => .stuck)
    | _, _ => .stuck)
  else .stuck
/-- a further expression of a statement -/
theorem Mid.srun {α β : Type} {R : Hp → Hp → α → β → List Addr → Prop} (m : Mid c F H O τ σ1 F1 H1 O1 P) (hP : ∀ a ∈ P, ∃ o, H1 a = some o) {g : List T → Res α} {r : α → List T → SRes} (p : SPost c F H O D ((g σ1).sbind r)) :
    Tm c R g τ H1 fun y H2 => ∃ u σ2 F2 O2 P2, Mid c F H O τ σ2 F2 H2 O2 (P2 ++ P) ∧ R F2 H2 u y P2 ∧ Stp F1 H1 O1 F2 H2 (O2 ++ P2) ∧ SPost c F H O D (r u σ2) := by
  refine ⟨F1, σ1, O1, m.st, ?_⟩
  cases q : g σ1 with
  | ok u σ2 =>
    rw [q] at p
    exact fun F2 H2 O2 y P2 s r n t => ⟨u, σ2, F2, O2, P2, m.after s n t hP, r, t, p⟩
  | exc C ns ts σ2 =>
    rw [q] at p
    exact fun F2 H2 O2 Ca d s t x => p τ F2 H2 O2 Ca d s (m.stp.tr t (by intro a ha; simp [ha]) fun a ha => .inl ha) x
  | stuck => rw [q] at p; exact p.elim
/-- the list in slot k gets t at place m -/
theorem Mid.store {l : List T} {m : Nat} {y x : V} {Pt : List Addr} (md : Mid c F H O τ σ1 F1 H1 O1 P) (q : σ1[k]? = some (.own l)) (hm : m < l.length) (ex : τ[k]? = some (some x)) (r : rep c.e F1 H1 t y Pt) (nt : Pt.Nodup) (hPt : ∀ a ∈ Pt, a ∈ P) :
    ∃ a vs, x = .ref a ∧ H1 a = some (.lst vs) ∧ l.length = vs.length ∧ ∃ O2, Mid c F H O τ (σ1.set k (.own (l.set m t))) F1 (upd H1 a (.lst (vs.set m y))) O2 [] := by
  obtain ⟨x', Ot, e1, rt, ntt, mt, back⟩ := md.slot q rfl
  rw [ex] at e1
  cases e1
  simp only [rep] at rt
  obtain ⟨a, vs, O', rfl, rfl, fp, hp, g1⟩ := rt
  obtain ⟨O2, g2, n2, s2⟩ := own_set fp g1 ntt hm r nt fun z hz h => md.disj z (hPt z hz) (mt z h)
  have nP := (List.nodup_append.mp md.nd).2.1
  have al : Alc F1 H1 (a :: O' ++ P) F1 (upd H1 a (.lst (vs.set m y))) (a :: O2 ++ []) := Alc.wr md.st.sub (by simp) fp (nd_app ntt nP fun z hz h => md.disj z hz (mt z h)) (by simpa using n2) (by
    intro z hz
    rcases List.mem_cons.mp (by simpa using hz) with h | h
    · simp [h]
    · rcases List.mem_append.mp (s2 z h) with h | h
      · simp [h]
      · simp [hPt z h])
  obtain ⟨O3, m3, _⟩ := back (t' := .own (l.set m t)) al (by
    simp only [rep]
    exact ⟨a, vs.set m y, O2, rfl, rfl, fp, upd_same, g2⟩)
  exact ⟨a, vs, rfl, hp, reps_len g1, O3, m3⟩
variable {a b d e : Expr} {f g g1 g2 : List T → Res T} {p p2 pos : Pos}
theorem s_setN {tpos : Pos} (hf : PE X e (tE c f)) (ho : PE X a (tVar k)) (hi : PE X b (tE c g))
    (hs : swapsWithSole [.Subscript a b tpos] e pos.line X.env = pure false := by rfl) (hw : swappedStores [.Subscript a b tpos] e X.env = pure none := by rfl)
    (h1 : (assignEach [.Subscript a b tpos] X.env).map (·.2) = [assign (.Subscript a b tpos) X.env] := by rfl)
    (ha : ∀ v, assign (.Subscript a b tpos) X.env v = (do
      let ov ← holding [v] (eval a X.env)
      let iv ← holding [v, ov] (eval b X.env)
      standAt tpos
      holding [v, ov, iv] (setItem ov iv v)
      release [v, ov, iv] []) := by intro _; all_goals rfl) :
    PS X (.Assign [.Subscript a b tpos] e pos) (tS c (mSetN k g f)) := (ps_asg hf (pg_sub ho hi set_list ha) hs hw h1).wk fun D τ H h => by
  obtain ⟨F, σ, O, st, p⟩ := h
  refine Tm.mono (s_run st p) fun y H1 ⟨t, σ1, F1, O1, P1, m1, r1, p1⟩ => ?_
  split at p1
  · rename_i hl
    obtain ⟨x, ex⟩ := m1.st.val hl
    refine ⟨x, ex, Tm.mono (m1.srun (rep_some r1) (g := g) p1) fun z H2 ⟨u, σ2, F2, O2, P2, m2, r2, s2, p2⟩ => ?_⟩
    have r1' := s2.rep r1 m1.disj
    split at p2
    · rename_i j l q
      split at p2
      · rename_i m hm
        obtain ⟨rfl, rfl⟩ := rep_v r2
        obtain ⟨a0, vs, rfl, hp, hl, O3, m3⟩ := m2.store q (ixN_lt hm) ex r1' (List.nodup_append.mp m1.nd).2.1 (by simp)
        exact ⟨a0, vs, j, m, rfl, rfl, hp, by rw [← hl]; exact hm, m3.nx p2⟩
      · exact p2.elim
    · exact p2.elim
  · exact p1.elim

/-! ## op= -/
def sIp (op : Int → Int → Int) : OS := iOp fun i j => some (.int (op i j))
def mAugN (k : Nat) (op : Int → Int → Int) (f : List T → Res T) : List T → SRes := fun σ =>
  match σ[k]? with
  | some (.v (.int i)) => (f σ).sbind fun u σ1 => (match u with
    | .v (.int j) => if k < σ1.length then .nx (σ1.set k (.v (.int (op i j)))) else .stuck
    | _ => .stuck)
  | _ => .stuck
theorem s_augN {x : Str} {op : Operator} {oi : Int → Int → Int} {pos' : Pos} (ok : slotOk c k) (hN : X.N.Nodup) (hi : X.N[k]? = some x) (hx : Loc X.env.scope x) (he : PE X e (tE c f)) (ho : PIp X op (ipI oi))
    (hf : X.fn x = true ∨ X.env.scope.names.lookup x = some .local := by first | exact .inl rfl | exact .inr rfl | assumption) : PS X (.AugAssign (.Name x pos') op e pos) (tS c (mAugN k oi f)) :=
  (ps_aug hN hi hx he ho hf).wk fun D τ H h => by
    obtain ⟨F, σ, O, st, p⟩ := h
    unfold mAugN at p
    split at p
    · rename_i i q
      obtain ⟨x, Ot, e1, rt, _⟩ := (Mid.start (c := c) st).slot q rfl
      obtain ⟨rfl, _⟩ := rep_v rt
      refine ⟨_, e1, Tm.mono (s_run st p) fun y H1 ⟨u, σ1, F1, O1, P1, m1, r1, p1⟩ => ?_⟩
      split at p1
      · rename_i j
        split at p1
        · rename_i hk
          obtain ⟨rfl, rfl⟩ := rep_v r1
          refine ⟨i, j, rfl, rfl, ?_⟩
          obtain ⟨O', st', mm⟩ := m1.st.put (t := .v (.int (oi i j))) (v := .int (oi i j)) (P := []) rep_v' (by simpa using m1.nd) hk ok
          exact p1 _ F1 H1 O' st' (m1.stp.sub_own fun a ha => by simpa using mm a ha)
        · exact p1.elim
      · exact p1.elim
    · exact p.elim
theorem get_list : PGet X (rIxL X.K) := by
  intro pins s τ H x y v u Q I rx ry h
  obtain ⟨p, xs, i, z, rfl, rfl, hq, he, q⟩ := h
  cases rx
  obtain ⟨tk, rfl⟩ := ry
  obtain ⟨its, r, pl, hz⟩ := I.list hq
  obtain ⟨j, h1, h2, h3, h4, h5⟩ := atI_get he
  obtain ⟨w, ew, rw'⟩ := r.get h2
  have hl := r.length
  have hn := line63
  have fin : EP X pins τ Q w s := ⟨z, H, I, rw', q⟩
  by_cases h0 : 0 ≤ i
  · have hj : i.toNat = j := by
      rw [seqIndex_of h0 h5] at h1
      exact Option.some.inj h1
    exact wpAny_getItem_list pl.isList h0 (by omega) (by rw [hj]; simpa using ew) fin
  · have hj : (i + (its.toArray.size : Int)).toNat = j := by
      rw [seqIndex_neg (by omega) h4] at h1
      rw [List.size_toArray, ← hl]
      exact Option.some.inj h1
    exact wpAny_getItem_list_neg pl.isList (by omega) (by rw [List.size_toArray] <;> omega) (by omega) (by rw [hj]; simpa using ew) fin
/-- x[i] op= e, ints -/
def mAugS (k : Nat) (op : Int → Int → Int) (g f : List T → Res T) : List T → SRes := fun σ => if live σ k then (g σ).sbind fun u σ1 =>
    (match u, σ1[k]? with
    | .v (.int j), some (.own l) => (match atI l j with
      | some (.v (.int i)) => (f σ1).sbind fun w σ2 => (match w, σ2[k]? with
        | .v (.int i2), some (.own l2) => (match ixN l2.length j with
          | some m => .nx (σ2.set k (.own (l2.set m (.v (.int (op i i2))))))
          | none => .stuck)
        | _, _ => .stuck)
      | _ => .stuck)
    | _, _ => .stuck)
  else .stuck
theorem s_augS {op : Operator} {oi : Int → Int → Int} {tpos : Pos} (hK : c.e.K = X.K) (ho : PE X a (tVar k)) (hi : PE X b (tE c g)) (he : PE X e (tE c f)) (hp : PIp X op (ipI oi))
    (ha : ∀ ov iv new, augStore b ov iv new = (do holding [new, ov, iv] (setItem ov iv new); release [new, ov, iv] []; pure .next) := by intros; all_goals rfl) :
    PS X (.AugAssign (.Subscript a b tpos) op e pos) (tS c (mAugS k oi g f)) := (ps_augS ho hi get_list he hp set_list ha).wk fun D τ H h => by
  obtain ⟨F, σ, O, st, p⟩ := h
  unfold mAugS at p
  split at p
  · rename_i hl
    obtain ⟨x, ex⟩ := st.val hl
    refine ⟨x, ex, Tm.mono (s_run st p) fun y H1 ⟨u, σ1, F1, O1, P1, m1, r1, p1⟩ => ?_⟩
    split at p1
    · rename_i j l q
      split at p1
      · rename_i i q2
        obtain ⟨rfl, rfl⟩ := rep_v r1
        obtain ⟨x', Ot, e1, rt, ntt, mt, back⟩ := m1.slot q rfl
        rw [ex] at e1
        cases e1
        simp only [rep] at rt
        obtain ⟨a0, vs, O', rfl, rfl, fp, hp, g1⟩ := rt
        obtain ⟨v, Pt, e2, rv, _⟩ := reps_at? g1 q2
        obtain ⟨rfl, _⟩ := rep_v rv
        refine ⟨a0, vs, j, _, rfl, rfl, .inl (.inl hp), e2, Tm.mono (m1.srun (by simp) (g := f) p1) fun z H2 ⟨w, σ2, F2, O2, P2, m2, r2, s2, p2⟩ => ?_⟩
        split at p2
        · rename_i i2 l2 q3
          split at p2
          · rename_i m hm
            obtain ⟨rfl, rfl⟩ := rep_v r2
            obtain ⟨a1, ws, ea, hp2, hl2, O3, m3⟩ := m2.store (t := .v (.int (oi i i2))) (y := .int (oi i i2)) (Pt := []) q3 (ixN_lt hm) ex rep_v' (by simp) (by simp)
            refine ⟨i, i2, rfl, rfl, ?_⟩
            exact ⟨a1, ws, j, m, ea, rfl, hp2, by rw [← hl2]; exact hm, m3.nx p2⟩
          · exact p2.elim
        · exact p2.elim
      · exact p1.elim
    · exact p1.elim
  · exact p.elim
end
end MV

namespace MV
open PySem PySem.Spec PyProof.Rows L2

/-! ## What is walked -/
/-- the walk J gives the items, wherever the frozen heap F stands -/
def WalkM (e : En) (F : Hp) (J : It) (items : List T) : Prop := ∃ G Y, Walk J items.length G Y ∧ (∀ H, Sub F H → G H) ∧
  ∀ i H x H3 F2, i < items.length → Sub F F2 → Sub F2 H → Y i H x H3 → ∃ t, items[i]? = some t ∧ ∃ F3, Alc F2 H [] F3 H3 [] ∧ rep e F3 H3 t x []
def IPost (c : Ct) (F H : Hp) (O : List Addr) (τ : L2.St) (R : It → Hp → Prop) : Res (List T) → Prop
  | .ok items σ' => ∀ F' H' O' J, Sta c.e c.bor F' H' τ σ' O' → Stp F H O F' H' O' → WalkM c.e F' J items → R J H'
  | .exc C ns ts σ' => ∀ F' H' O' Ca d, Sta c.e c.bor F' H' τ σ' O' → Stp F H O F' H' O' → XR c.e F' H' C ns ts Ca d → c.W (.ref Ca) d τ H'
  | .stuck => False
def tI (c : Ct) (f : List T → Res (List T)) : TI := fun τ H R => ∃ F σ O, Sta c.e c.bor F H τ σ O ∧ IPost c F H O τ R (f σ)
/-- an expression ahead of a walk -/
theorem i_run {α β : Type} {c : Ct} {F H : Hp} {O : List Addr} {τ : L2.St} {σ : List T} {Rl : Hp → Hp → α → β → List Addr → Prop} {R : It → Hp → Prop} (st : Sta c.e c.bor F H τ σ O) {f : List T → Res α} {k : α → List T → Res (List T)} (p : IPost c F H O τ R ((f σ).bind k)) :
    Tm c Rl f τ H fun y H1 => ∃ u σ1 F1 O1 P1, Mid c F H O τ σ1 F1 H1 O1 P1 ∧ Rl F1 H1 u y P1 ∧ IPost c F H O τ R (k u σ1) := by
  refine ⟨F, σ, O, st, ?_⟩
  cases q : f σ with
  | ok u σ1 =>
    rw [q] at p
    exact fun F1 H1 O1 y P1 s r n t => ⟨u, σ1, F1, O1, P1, ⟨s, n, t⟩, r, p⟩
  | exc C ns ts σ1 =>
    rw [q] at p
    exact fun F1 H1 O1 Ca d s t x => p F1 H1 O1 Ca d s t x
  | stuck => rw [q] at p; exact p.elim
theorem Mid.walk {c : Ct} {F H F1 H1 : Hp} {O O1 P : List Addr} {τ : L2.St} {σ1 : List T} {R : It → Hp → Prop} {J : It} {items : List T} (m : Mid c F H O τ σ1 F1 H1 O1 P) (p : IPost c F H O τ R (.ok items σ1)) (w : WalkM c.e F1 J items) : R J H1 :=
  p F1 H1 O1 J m.st (m.stp.sub_own (by intro a h; simp [h])) w
theorem walk_fr {e : En} {F F' H' : Hp} {J : It} {l : List T} {vs : List V} {G : Hp → Prop} (fr : Fr2 e F H' l vs) (w : Walk J vs.length G (YAt vs)) (hG : ∀ H, Sub F H → G H) : WalkM e F J l := by
  refine ⟨G, YAt vs, by rw [fr.1]; exact w, hG, fun i H x H3 F2 hi s1 s2 y => ?_⟩
  obtain ⟨rfl, hx⟩ := y
  exact ⟨l[i], List.getElem?_eq_getElem hi, F2, Alc.rfl s2 List.nodup_nil (by simp), rep_mono s1 (fr.2 i _ x (List.getElem?_eq_getElem hi) hx) (by simp)⟩
section
variable {X : Cx} {c : Ct} {a b d e : Expr} {f g : List T → Res T} {r : List T → Res (List T)} {p p2 pos : Pos} {k : Nat} {tg : Expr}
/-- the whole value frozen, as a list of items -/
theorem frz_all {e : En} {K : PySem.W.Frag} (hK : e.K = K) {F H : Hp} {P : List Addr} {t : T} {l : List T} {x : V} (s : Sub F H) (r : rep e F H t x P) (h : seqL t = some l) :
    ∃ a vs F2, x = .ref a ∧ SqL K F2 a vs ∧ Alc F H P F2 H [] ∧ Fr2 e F2 H (fzs l) vs := by
  have hF : ∀ a ∈ P, F a = none := fun a ha => (rep_at r a ha).1
  have al : Alc F H P (put F H P) H [] := Alc.freeze s hF fun _ h => h
  have rz := rep_fz (put_sub hF) (O' := P) (fun a ha => put_in ha) r fun _ h => h
  subst hK
  cases t <;> simp only [seqL, Option.some.injEq, reduceCtorEq] at h <;> subst h
  · have P0 : P = [] := by simp only [rep] at r; exact r.1
    subst P0
    simp only [rep] at r
    obtain ⟨_, a, vs, rfl, h1, h2⟩ := r
    have h3 := reps_fz (O' := []) (F' := put F H []) (put_sub hF) (by simp) h2 (by simp)
    exact ⟨a, vs, _, rfl, .inl (.inl (put_sub hF _ _ h1)), al, reps_fr2.mp h3⟩
  · simp only [fz, rep] at rz
    obtain ⟨_, a, vs, rfl, h1, h2⟩ := rz
    exact ⟨a, vs, _, rfl, .inl (.inl h1), al, reps_fr2.mp h2⟩
  · have P0 : P = [] := by simp only [rep] at r; exact r.1
    subst P0
    simp only [rep] at r
    obtain ⟨_, a, vs, rfl, h1, h2⟩ := r
    have h3 := reps_fz (O' := []) (F' := put F H []) (put_sub hF) (by simp) h2 (by simp)
    exact ⟨a, vs, _, rfl, (put_sub hF).sql h1, al, reps_fr2.mp h3⟩
def mItL (f : List T → Res T) : List T → Res (List T) := fun σ => (f σ).bind fun t σ1 =>
  match seqL t with
  | some l => .ok (fzs l) σ1
  | none => .stuck
theorem i_list (hK : c.e.K = X.K) (h : PE X a (tE c f)) : PI X tg a (tI c (mItL f)) := (pi_list h).wk fun τ H R h => by
  obtain ⟨F, σ, O, st, p⟩ := h
  refine Tm.mono (i_run st p) fun x H1 ⟨t, σ1, F1, O1, P1, m1, r1, p1⟩ => ?_
  cases q : seqL t with
  | none => rw [q] at p1; exact p1.elim
  | some l =>
    rw [q] at p1
    obtain ⟨a0, vs, F2, rfl, h1, al, fr⟩ := frz_all hK m1.st.sub r1 q
    have m2 := m1.alc al
    exact ⟨a0, rfl, ⟨vs, m2.st.sub.sql h1⟩, m2.walk p1 (walk_fr (F' := F2) fr walk_list fun H s => s.sql h1)⟩
def mItT (f : List T → Res T) : List T → Res (List T) := fun σ => (f σ).bind fun t σ1 =>
  match t with
  | .tup l => .ok l σ1
  | _ => .stuck
theorem i_tup (hK : c.e.K = X.K) (h : PE X a (tE c f)) : PI X tg a (tI c (mItT f)) := (pi_tup h).wk fun τ H R h => by
  obtain ⟨F, σ, O, st, p⟩ := h
  refine Tm.mono (i_run st p) fun x H1 ⟨t, σ1, F1, O1, P1, m1, r1, p1⟩ => ?_
  split at p1
  · rename_i l
    obtain ⟨rfl, a0, vs, rfl, h1, g1⟩ := rep_tup r1
    rw [hK] at h1
    exact ⟨a0, rfl, ⟨vs, m1.st.sub.sqt h1⟩, m1.walk p1 (walk_fr (F' := F1) (reps_fr2.mp g1) walk_tup fun H s => s.sqt h1)⟩
  · exact p1.elim
def intsFrom (lo : Int) (n : Nat) : List T := (List.range n).map fun (i : Nat) => T.v (V.int (lo + (i : Int)))
theorem walk_ints {e : En} {F : Hp} {lo : Int} {n : Nat} : WalkM e F (Itr lo n) (intsFrom lo n) := by
  have hl : (intsFrom lo n).length = n := by simp [intsFrom]
  refine ⟨fun _ => True, YFn fun i => .int (lo + i), by rw [hl]; exact walk_range, fun _ _ => trivial, fun i H x H3 F2 hi s1 s2 y => ?_⟩
  obtain ⟨rfl, rfl⟩ := y
  rw [hl] at hi
  exact ⟨T.v (V.int (lo + i)), by simp [intsFrom, hi], F2, Alc.rfl s2 List.nodup_nil (by simp), rep_v'⟩
def rgB (i : Int) : Bool := decide (-1000000 ≤ i) && decide (i ≤ 1000000)
theorem rgB_ok {i : Int} (h : rgB i = true) : -(2 ^ 62) ≤ i ∧ i < 2 ^ 62 := by
  unfold rgB at h
  simp only [Bool.and_eq_true, decide_eq_true_eq] at h
  omega
def mRg1 (f : List T → Res T) : List T → Res (List T) := fun σ => (f σ).bind fun t σ1 =>
  match t with
  | .v (.int j) => if rgB j then .ok (intsFrom 0 j.toNat) σ1 else .stuck
  | _ => .stuck
theorem i_rg1 (hg : Gl X "range") (hm : X.mg "range" = none) (h : PE X a (tE c f)) (hs : starEach [a] X.env = [(false, eval a X.env)] := by rfl) : PI X tg (.Call (.Name "range" p) [a] [] pos) (tI c (mRg1 f)) :=
  (pi_range1 hg hm (pa_cons h pa_nil hs) hs).wk fun τ H R h => by
    obtain ⟨F, σ, O, st, p⟩ := h
    refine Tm.mono (i_run st p) fun x H1 ⟨t, σ1, F1, O1, P1, m1, r1, p1⟩ => ?_
    split at p1
    · rename_i j
      split at p1
      · rename_i hj
        obtain ⟨rfl, _⟩ := rep_v r1
        exact ⟨j, rfl, (rgB_ok hj).1, (rgB_ok hj).2, m1.walk p1 walk_ints⟩
      · exact p1.elim
    · exact p1.elim
def mRg2 (f g : List T → Res T) : List T → Res (List T) := fun σ => (f σ).bind fun t σ1 => (g σ1).bind fun u σ2 =>
  match t, u with
  | .v (.int i), .v (.int j) => if rgB i && rgB j then .ok (intsFrom i (j - i).toNat) σ2 else .stuck
  | _, _ => .stuck
theorem Mid.irun {α β : Type} {F H F1 H1 : Hp} {O O1 P : List Addr} {τ : L2.St} {σ1 : List T} {Rl : Hp → Hp → α → β → List Addr → Prop} {R : It → Hp → Prop} (m : Mid c F H O τ σ1 F1 H1 O1 P) (hP : ∀ a ∈ P, ∃ o, H1 a = some o) {g : List T → Res α} {k : α → List T → Res (List T)}
    (p : IPost c F H O τ R ((g σ1).bind k)) :
    Tm c Rl g τ H1 fun y H2 => ∃ u σ2 F2 O2 P2, Mid c F H O τ σ2 F2 H2 O2 (P2 ++ P) ∧ Rl F2 H2 u y P2 ∧ Stp F1 H1 O1 F2 H2 (O2 ++ P2) ∧ IPost c F H O τ R (k u σ2) := by
  refine ⟨F1, σ1, O1, m.st, ?_⟩
  cases q : g σ1 with
  | ok u σ2 =>
    rw [q] at p
    exact fun F2 H2 O2 y P2 s r n t => ⟨u, σ2, F2, O2, P2, m.after s n t hP, r, t, p⟩
  | exc C ns ts σ2 =>
    rw [q] at p
    exact fun F2 H2 O2 Ca d s t x => p F2 H2 O2 Ca d s (m.stp.tr t (by intro a ha; simp [ha]) fun a ha => .inl ha) x
  | stuck => rw [q] at p; exact p.elim
theorem i_rg2 (hg : Gl X "range") (hm : X.mg "range" = none) (h : PE X a (tE c f)) (h' : PE X b (tE c g)) (hs : starEach [a, b] X.env = [(false, eval a X.env), (false, eval b X.env)] := by rfl) (hs2 : starEach [b] X.env = [(false, eval b X.env)] := by rfl) :
    PI X tg (.Call (.Name "range" p) [a, b] [] pos) (tI c (mRg2 f g)) :=
  (pi_range2 hg hm (pa_cons h (pa_cons h' pa_nil hs2) (hs.trans (by rw [hs2]))) hs hs2).wk fun τ H R h => by
    obtain ⟨F, σ, O, st, p⟩ := h
    refine Tm.mono (i_run st p) fun x H1 ⟨t, σ1, F1, O1, P1, m1, r1, p1⟩ => ?_
    refine Tm.mono (m1.irun (rep_some r1) p1) fun y H2 ⟨u, σ2, F2, O2, P2, m2, r2, s2, p2⟩ => ?_
    split at p2
    · rename_i i j _
      split at p2
      · rename_i hj
        simp only [Bool.and_eq_true] at hj
        obtain ⟨rfl, _⟩ := rep_v r1
        obtain ⟨rfl, _⟩ := rep_v r2
        exact ⟨i, j, rfl, ⟨(rgB_ok hj.1).1, (rgB_ok hj.1).2, (rgB_ok hj.2).1, (rgB_ok hj.2).2⟩, m2.walk p2 walk_ints⟩
      · exact p2.elim
    · exact p2.elim
/-- new pairs -/
theorem walk_pair {e : En} {F H0 : Hp} {J : It} {n : Nat} {G : Hp → Prop} {fx fy : Nat → Option V} {tx ty : Nat → Option T} {items : List T} (w : Walk J items.length G (YPair fx fy)) (hG : ∀ H, Sub F H → G H)
    (hi : ∀ i x y, i < items.length → fx i = some x → fy i = some y → ∃ t u, items[i]? = some (.tup [t, u]) ∧ rep e F H0 t x [] ∧ rep e F H0 u y []) : WalkM e F J items := by
  refine ⟨G, YPair fx fy, w, hG, fun i H v H3 F2 hlt s1 s2 y => ?_⟩
  obtain ⟨A, x, z, rfl, hn, rfl, e1, e2⟩ := y
  obtain ⟨t, u, h1, h2, h3⟩ := hi i x z hlt e1 e2
  refine ⟨_, h1, upd F2 A (.tup [x, z]), Alc.newF s2 hn, ?_⟩
  have s3 : Sub F (upd F2 A (.tup [x, z])) := s1.tr (s2.updF (s2.no hn))
  simp only [rep]
  refine ⟨trivial, A, [x, z], rfl, .inl (.inl upd_same), ?_⟩
  simp only [reps]
  exact ⟨x, [z], [], [], rfl, rfl, rep_mono s3 h2 (by simp), z, [], [], [], rfl, rfl, rep_mono s3 h3 (by simp), rfl, rfl⟩
def enumT : Nat → List T → List T
  | _, [] => []
  | n, t :: ts => .tup [.v (.int (n : Nat)), t] :: enumT (n + 1) ts
theorem enumT_get : ∀ (n : Nat) (l : List T) (i : Nat), (enumT n l)[i]? = (l[i]?).map fun t => .tup [.v (.int ((n + i : Nat) : Int)), t]
  | n, [], i => by simp [enumT]
  | n, t :: ts, 0 => by simp [enumT]
  | n, t :: ts, i + 1 => by
    simp only [enumT, List.getElem?_cons_succ]
    rw [enumT_get (n + 1) ts i]
    have : n + 1 + i = n + (i + 1) := by omega
    rw [this]
theorem enumT_len : ∀ (n : Nat) (l : List T), (enumT n l).length = l.length
  | _, [] => rfl
  | n, t :: ts => by simp [enumT, enumT_len (n + 1) ts]
def mEnum (f : List T → Res T) : List T → Res (List T) := fun σ => (f σ).bind fun t σ1 =>
  match seqL t with
  | some l => .ok (enumT 0 (fzs l)) σ1
  | none => .stuck
theorem i_enum {elts : List Expr} {kk : Nat} {tpos : Pos} (hK : c.e.K = X.K) (hg : Gl X "enumerate") (hm : X.mg "enumerate" = none) (h : PE X a (tE c f)) (hs : starEach [a] X.env = [(false, eval a X.env)] := by rfl) :
    PI X (.Tuple elts kk tpos) (.Call (.Name "enumerate" p) [a] [] pos) (tI c (mEnum f)) := (pi_enum hg hm (pa_cons h pa_nil hs) hs).wk fun τ H R h => by
  obtain ⟨F, σ, O, st, p⟩ := h
  refine Tm.mono (i_run st p) fun x H1 ⟨t, σ1, F1, O1, P1, m1, r1, p1⟩ => ?_
  cases q : seqL t with
  | none => rw [q] at p1; exact p1.elim
  | some l =>
    rw [q] at p1
    obtain ⟨a0, vs, F2, rfl, h1, al, fr⟩ := frz_all hK m1.st.sub r1 q
    have m2 := m1.alc al
    refine ⟨a0, vs, rfl, m2.st.sub.sql h1, m2.walk p1 (walk_pair (H0 := H1) (n := 0) (tx := fun _ => none) (ty := fun _ => none) (by rw [enumT_len, fr.1]; exact walk_enum) (fun H s => s.sql h1) fun i x y hi e1 e2 => ?_)⟩
    cases e1
    have hi' : i < (fzs l).length := by simpa [enumT_len] using hi
    refine ⟨.v (.int (i : Nat)), (fzs l)[i], ?_, rep_v', fr.2 i _ y (List.getElem?_eq_getElem hi') e2⟩
    rw [enumT_get, List.getElem?_eq_getElem hi']
    simp

/-! ## for -/
def forL (w : T → List T → Option (List T)) (body : List T → SRes) : List T → List T → SRes
  | [], σ => .nx σ
  | t :: r, σ => match w t σ with
    | none => .stuck
    | some σ1 => match body σ1 with
      | .nx σ2 => forL w body r σ2
      | .ct σ2 => forL w body r σ2
      | .bk σ2 => .nx σ2
      | .rt t σ2 => .rt t σ2
      | .exc C ns ts σ2 => .exc C ns ts σ2
      | .stuck => .stuck
def mFor (it : List T → Res (List T)) (w : T → List T → Option (List T)) (body : List T → SRes) : List T → SRes := fun σ => (it σ).sbind fun items σ1 => forL w body items σ1
theorem s_for {iter : Expr} {ss : List Stmt} {it : List T → Res (List T)} {w : T → List T → Option (List T)} {body : List T → SRes} (hp : PassesOwn (model X.prog X.w) X.A X.env X.xe) (hc : X.calm = true)
    (hi : PI X tg iter (tI c it)) {sl : List Nat} (hg : PG X tg (tG c sl w)) (hb : PSs X ss (tS c body)) (hs : ∀ x, foldedSetIterable iter X.env x = pure x := by intro _; all_goals rfl) : PS X (.For tg iter ss [] pos) (tS c (mFor it w body)) :=
  (ps_for hp hc hi hg hb hs).wk fun D τ H h => by
    obtain ⟨F, σ, O, st, p⟩ := h
    refine ⟨F, σ, O, st, ?_⟩
    unfold mFor at p
    cases q : it σ with
    | stuck => rw [q] at p; exact p.elim
    | exc C ns ts σ1 =>
      rw [q] at p
      exact fun F1 H1 O1 Ca d s t x => p τ F1 H1 O1 Ca d s t x
    | ok items σ1 =>
      rw [q] at p
      intro F1 H1 O1 J s1 t1 ⟨G, Y, wk, hG, hY⟩
      refine for_it wk (fun i τ H => ∃ F2 σ O2, Sta c.e c.bor F2 H τ σ O2 ∧ Sub F1 F2 ∧ SPost c F2 H O2 D (forL w body (items.drop i) σ)) ⟨F1, σ1, O1, s1, Sub.rfl, p.go t1 fun _ h => h⟩ (fun i τ H _ ⟨F2, σ, O2, s2, u2, _⟩ => hG H (u2.tr s2.sub)) ?_ ?_
      · rintro i x τ H H' hlt ⟨F2, σ, O2, s2, u2, p2⟩ hy
        obtain ⟨t, ht, F3, al, r3⟩ := hY i H x H' F2 hlt u2 s2.sub hy
        have m3 := (Mid.start (c := c) s2).alc al
        have ed : items.drop i = t :: items.drop (i + 1) := by
          rw [List.drop_eq_getElem_cons hlt]
          congr 1
          rw [List.getElem?_eq_getElem hlt] at ht
          exact Option.some.inj ht
        rw [ed] at p2
        simp only [forL] at p2
        cases qw : w t σ with
        | none => rw [qw] at p2; exact p2.elim
        | some σ3 =>
          simp only [qw] at p2
          refine ⟨F3, σ, O2, t, [], m3.st, r3, by simpa using m3.st.nd, σ3, qw, fun τ' O' st' mm _ => ⟨F3, σ3, O', st', ?_⟩⟩
          have stp3 : Stp F2 H O2 F3 H' O' := m3.stp.sub_own fun a ha => by simpa using mm a ha
          cases qb : body σ3 with
          | stuck => rw [qb] at p2; exact p2.elim
          | nx σ4 =>
            simp only [qb] at p2
            exact fun τ4 F4 H4 O4 s4 t4 => ⟨F4, σ4, O4, s4, (u2.tr m3.stp.sub).tr t4.sub, p2.go (stp3.tr t4 (fun _ h => h) fun _ h => .inl h) fun _ h => h⟩
          | ct σ4 =>
            simp only [qb] at p2
            exact fun τ4 F4 H4 O4 s4 t4 => ⟨F4, σ4, O4, s4, (u2.tr m3.stp.sub).tr t4.sub, p2.go (stp3.tr t4 (fun _ h => h) fun _ h => .inl h) fun _ h => h⟩
          | bk σ4 =>
            simp only [qb] at p2
            exact fun τ4 F4 H4 O4 s4 t4 => p2 τ4 F4 H4 O4 s4 (stp3.tr t4 (fun _ h => h) fun _ h => .inl h)
          | rt u σ4 =>
            simp only [qb] at p2
            exact fun τ4 F4 H4 O4 x P4 s4 r4 n4 t4 => p2 τ4 F4 H4 O4 x P4 s4 r4 n4 (stp3.tr t4 (fun _ h => h) fun _ h => .inl h)
          | exc C ns ts σ4 =>
            simp only [qb] at p2
            exact fun τ4 F4 H4 O4 Ca d s4 t4 x4 => p2 τ4 F4 H4 O4 Ca d s4 (stp3.tr t4 (fun _ h => h) fun _ h => .inl h) x4
      · rintro τ H ⟨F2, σ, O2, s2, u2, p2⟩
        rw [List.drop_length] at p2
        exact p2 τ F2 H O2 s2 (Stp.rfl fun _ h => h)

/-! ## while -/
def whL (t : List T → Res Bool) (body : List T → SRes) : Nat → List T → SRes
  | 0, _ => .stuck
  | n + 1, σ => (t σ).sbind fun b σ1 => if b then (match body σ1 with
      | .nx σ2 => whL t body n σ2
      | .ct σ2 => whL t body n σ2
      | .bk σ2 => .nx σ2
      | .rt t σ2 => .rt t σ2
      | .exc C ns ts σ2 => .exc C ns ts σ2
      | .stuck => .stuck) else .nx σ1
theorem s_while {ss : List Stmt} {tb : List T → Res Bool} {body : List T → SRes} (n : Nat) (hp : PassesOwn (model X.prog X.w) X.A X.env X.xe) (hc : PT X e (tT c tb)) (hb : PSs X ss (tS c body)) : PS X (.While e ss [] pos) (tS c (whL tb body n)) :=
  (ps_while hp hc hb).wk fun D τ H h => by
    refine ⟨fun m τ H => ∃ F σ O, Sta c.e c.bor F H τ σ O ∧ SPost c F H O D (whL tb body m σ), ⟨n, h⟩, ?_⟩
    rintro m τ H ⟨F, σ, O, st, p⟩
    cases m with
    | zero => exact p.elim
    | succ m =>
      simp only [whL] at p
      refine Tm.mono (s_run st p) fun y H1 ⟨u, σ1, F1, O1, P1, m1, r1, p1⟩ => ?_
      obtain ⟨rfl, rfl⟩ := r1
      have t1 : Stp F H O F1 H1 O1 := m1.stp.sub_own (by intro a h; simp [h])
      cases u with
      | false => exact m1.nx p1
      | true =>
        simp only [if_true] at p1 ⊢
        refine ⟨fun τ' H' => ∃ F σ O, Sta c.e c.bor F H' τ' σ O ∧ SPost c F H' O D (whL tb body m σ), fun τ' H' q => ⟨m, Nat.lt_succ_self m, q⟩, F1, σ1, O1, m1.st, ?_⟩
        cases qb : body σ1 with
        | stuck => rw [qb] at p1; exact p1.elim
        | nx σ4 =>
          simp only [qb] at p1
          exact fun τ4 F4 H4 O4 s4 t4 => ⟨F4, σ4, O4, s4, p1.go (t1.tr t4 (fun _ h => h) fun _ h => .inl h) fun _ h => h⟩
        | ct σ4 =>
          simp only [qb] at p1
          exact fun τ4 F4 H4 O4 s4 t4 => ⟨F4, σ4, O4, s4, p1.go (t1.tr t4 (fun _ h => h) fun _ h => .inl h) fun _ h => h⟩
        | bk σ4 =>
          simp only [qb] at p1
          exact fun τ4 F4 H4 O4 s4 t4 => p1 τ4 F4 H4 O4 s4 (t1.tr t4 (fun _ h => h) fun _ h => .inl h)
        | rt u σ4 =>
          simp only [qb] at p1
          exact fun τ4 F4 H4 O4 x P4 s4 r4 n4 t4 => p1 τ4 F4 H4 O4 x P4 s4 r4 n4 (t1.tr t4 (fun _ h => h) fun _ h => .inl h)
        | exc C ns ts σ4 =>
          simp only [qb] at p1
          exact fun τ4 F4 H4 O4 Ca d s4 t4 x4 => p1 τ4 F4 H4 O4 Ca d s4 (t1.tr t4 (fun _ h => h) fun _ h => .inl h) x4
end
end MV

namespace MV
open PySem PySem.Spec PyProof.Rows L2

/-! ## List comprehensions -/
/-- a tree that may be forgotten and taken back -/
def keepT : T → T
  | .own _ => .hole
  | .oin _ _ _ => .hole
  | t => t
def wipeT (σ : List T) : List Nat → List T
  | [] => σ
  | v :: vs => (wipeT σ vs).set v .hole
/-- the slots vs as they were in σ0 -/
def backT (σ0 σ : List T) : List Nat → List T
  | [] => σ
  | v :: vs => (backT σ0 σ vs).set v (match σ0[v]? with | some t => keepT t | none => .hole)
section
variable {X : Cx} {c : Ct} {F H F1 H1 : Hp} {O O1 : List Addr} {τ τ2 : L2.St} {σ σ0 : List T}
theorem wipeT_len : ∀ (σ : List T) (vs : List Nat), (wipeT σ vs).length = σ.length
  | _, [] => rfl
  | σ, v :: vs => by simp [wipeT, wipeT_len σ vs]
theorem backT_len : ∀ (σ0 σ : List T) (vs : List Nat), (backT σ0 σ vs).length = σ.length
  | _, _, [] => rfl
  | σ0, σ, v :: vs => by simp [backT, backT_len σ0 σ vs]
/-- one slot is made a hole, its value forgotten or anything -/
theorem Sta.forget (st : Sta c.e c.bor F H τ σ O) {v : Nat} (ok : slotOk c v) (y : Option V) : ∃ O', Sta c.e c.bor F H (τ.set v y) (σ.set v .hole) O' ∧ ∀ a ∈ O', a ∈ O := by
  by_cases hi : v < σ.length
  · obtain ⟨vs, rv, hv⟩ := st.vals
    obtain ⟨x, A, Ot, B, e1, rfl, r1, back⟩ := reps_split rv (List.getElem?_eq_getElem hi)
    have hlt : v < vs.length := by rw [← reps_len rv]; exact hi
    have nd2 : (A ++ [] ++ B).Nodup := nd3' st.nd List.nodup_nil (by simp)
    refine ⟨A ++ [] ++ B, ⟨st.sub, nd2, by simp [st.len], ⟨vs.set v x, back (t' := .hole) Sub.rfl (fun a ha => ⟨rfl, (reps_at rv a (by rcases List.mem_append.mp ha with z | z <;> simp [z])).1⟩) (by simp [rep]), fun j u y h1 h2 h3 => ?_⟩, fun y hy => ?_⟩, ?_⟩
    · by_cases hj : j = v
      · subst hj
        rw [List.getElem?_set_self hi] at h1
        cases h1
        cases h2
      · rw [List.getElem?_set_ne (Ne.symm hj)] at h1 h3 ⊢
        exact hv j u y h1 h2 h3
    · rcases ok with z | z
      · rw [List.getElem?_set_ne z]; exact st.bor y hy
      · rw [z] at hy; cases hy
    · intro a ha
      simp only [List.mem_append, List.not_mem_nil, or_false] at ha ⊢
      rcases ha with z | z <;> simp [z]
  · have e1 : σ.set v T.hole = σ := List.set_eq_of_length_le (by omega)
    have e2 : τ.set v y = τ := List.set_eq_of_length_le (by rw [st.len]; omega)
    rw [e1, e2]
    exact ⟨O, st, fun _ h => h⟩
theorem Sta.wiped (st : Sta c.e c.bor F H τ σ O) : ∀ {vs : List Nat}, (∀ v ∈ vs, slotOk c v) → ∃ O', Sta c.e c.bor F H (wipe τ vs) (wipeT σ vs) O' ∧ ∀ a ∈ O', a ∈ O
  | [], _ => ⟨O, st, fun _ h => h⟩
  | v :: vs, ok => by
    obtain ⟨O1, s1, m1⟩ := st.wiped (vs := vs) fun u hu => ok u (List.mem_cons_of_mem _ hu)
    obtain ⟨O2, s2, m2⟩ := s1.forget (ok v List.mem_cons_self) none
    exact ⟨O2, s2, fun a ha => m1 a (m2 a ha)⟩
theorem keepT_rep {e : En} {t : T} {x : V} {P : List Addr} (r : rep e F H t x P) : rep e F H (keepT t) x [] := by
  cases t <;> simp only [keepT] <;> first | (simp only [rep]; done) | (have z := r; simp only [rep] at z; first | (rw [z.1] at r; exact r) | (rw [z.2] at r; exact r) | (rw [z] at r; exact r))
/-- back from a block: the slots are what they were -/
theorem Sta.backed (s0 : Sta c.e c.bor F H τ σ0 O) (s1 : Sta c.e c.bor F1 H1 τ2 σ O1) {N : List Addr} (stp : Stp F H O F1 H1 N) : ∀ {vs : List Nat}, wipe τ2 vs = wipe τ vs → (∀ v ∈ vs, slotOk c v) →
    ∃ O2, Sta c.e c.bor F1 H1 τ (backT σ0 σ vs) O2 ∧ ∀ a ∈ O2, a ∈ O1 := by
  intro vs hw ok
  -- first: with the block's slots made holes
  have key : ∀ ws : List Nat, (∀ v ∈ ws, slotOk c v) → ∃ O2, Sta c.e c.bor F1 H1 (wipe τ2 ws) (wipeT σ ws) O2 ∧ ∀ a ∈ O2, a ∈ O1 := fun ws h => s1.wiped h
  obtain ⟨O2, s2, m2⟩ := key vs ok
  rw [hw] at s2
  -- then slot by slot; τ agrees with the wiped one elsewhere
  have lτ : τ.length = σ.length := by
    have := s2.len
    rw [wipe_length, wipeT_len] at this
    exact this
  obtain ⟨ws0, rv0, hv0⟩ := s0.vals
  obtain ⟨ws, rv, hv⟩ := s2.vals
  refine ⟨O2, ?_, m2⟩
  -- values: kept trees at vs, the others as they are
  have main : ∀ us : List Nat, (∀ v ∈ us, v ∈ vs) → ∃ ys, reps c.e F1 H1 (backT σ0 (wipeT σ vs) us) ys O2 ∧ ∀ (j : Nat) (u : T) (y : V), (backT σ0 (wipeT σ vs) us)[j]? = some u → u.isHole = false → ys[j]? = some y → τ[j]? = some (some y) := by
    intro us
    induction us with
    | nil =>
      intro _
      refine ⟨ws, rv, fun j u y h1 h2 h3 => ?_⟩
      exact (wipe_some (hv j u y h1 h2 h3)).1
    | cons v us ih =>
      intro hm
      obtain ⟨ys, ry, hy⟩ := ih fun u hu => hm u (List.mem_cons_of_mem _ hu)
      simp only [backT]
      by_cases hi : v < (backT σ0 (wipeT σ vs) us).length
      · obtain ⟨x, A, Ot, B, e1, eO, r1, back⟩ := reps_split ry (List.getElem?_eq_getElem hi)
        have hlt : v < ys.length := by rw [← reps_len ry]; exact hi
        -- what stood at v is a hole: no cells
        have hOt : Ot = [] := by
          have hvv : v ∈ vs := hm v List.mem_cons_self
          have gone : ∀ (ws : List Nat), v ∈ ws → ∀ t, (wipeT σ ws)[v]? = some t → t = .hole := by
            intro ws
            induction ws with
            | nil => intro h; cases h
            | cons w ws ihw =>
              intro h t ht
              simp only [wipeT] at ht
              by_cases hw : w = v
              · subst hw
                rw [List.getElem?_set] at ht
                simp only [if_true] at ht
                split at ht <;> cases ht
                all_goals rfl
              · rw [List.getElem?_set_ne hw] at ht
                exact ihw ((List.mem_cons.mp h).resolve_left fun z => hw z.symm) t ht
          have noc : ∀ us : List Nat, ∀ t, (backT σ0 (wipeT σ vs) us)[v]? = some t → t = .hole ∨ ∃ u, t = keepT u := by
            intro us
            induction us with
            | nil => intro t ht; exact .inl (gone vs hvv t ht)
            | cons w us ihu =>
              intro t ht
              simp only [backT] at ht
              by_cases hw : w = v
              · subst hw
                rw [List.getElem?_set] at ht
                simp only [if_true] at ht
                split at ht
                · cases ht
                  cases q : σ0[w]? with
                  | none => exact .inl rfl
                  | some u => exact .inr ⟨u, rfl⟩
                · cases ht
              · rw [List.getElem?_set_ne hw] at ht
                exact ihu t ht
          rcases noc us _ (List.getElem?_eq_getElem hi) with z | ⟨u, z⟩
          · rw [z] at r1; simpa only [rep] using r1
          · rw [z] at r1
            cases u <;> simp only [keepT, rep] at r1 <;> first | exact r1 | exact r1.1 | exact r1.2
        subst hOt
        cases q : σ0[v]? with
        | none =>
          refine ⟨ys.set v x, by rw [eO]; exact back (t' := .hole) Sub.rfl (fun a ha => ⟨rfl, (reps_at ry a (by rw [eO]; rcases List.mem_append.mp ha with z | z <;> simp [z])).1⟩) (by simp [rep]), fun j u y h1 h2 h3 => ?_⟩
          by_cases hj : j = v
          · subst hj
            rw [List.getElem?_set_self hi] at h1
            cases h1
            cases h2
          · rw [List.getElem?_set_ne (Ne.symm hj)] at h1 h3
            exact hy j u y h1 h2 h3
        | some t0 =>
          obtain ⟨x0, A0, Ot0, B0, e0, _, r0, _⟩ := reps_split rv0 q
          have rk : rep c.e F1 H1 (keepT t0) x0 [] := stp.rep (keepT_rep r0) (by simp)
          refine ⟨ys.set v x0, by rw [eO]; exact back Sub.rfl (fun a ha => ⟨rfl, (reps_at ry a (by rw [eO]; rcases List.mem_append.mp ha with z | z <;> simp [z])).1⟩) rk, fun j u y h1 h2 h3 => ?_⟩
          by_cases hj : j = v
          · subst hj
            rw [List.getElem?_set_self hi] at h1
            rw [List.getElem?_set_self hlt] at h3
            cases h1
            cases h3
            have hn : t0.isHole = false := by
              cases t0 <;> first | rfl | cases h2
            exact hv0 j t0 x0 q hn e0
          · rw [List.getElem?_set_ne (Ne.symm hj)] at h1 h3
            exact hy j u y h1 h2 h3
      · have e1 : (backT σ0 (wipeT σ vs) us).set v (match σ0[v]? with | some t => keepT t | none => .hole) = backT σ0 (wipeT σ vs) us := List.set_eq_of_length_le (by omega)
        rw [e1]
        exact ⟨ys, ry, hy⟩
  have eqb : ∀ us : List Nat, (∀ v ∈ vs, v ∈ us) → backT σ0 (wipeT σ vs) us = backT σ0 σ us := by
    intro us hsub
    apply List.ext_getElem?
    intro j
    have get : ∀ (ρ : List T) (us : List Nat), ρ.length = σ.length → (backT σ0 ρ us)[j]? = if j ∈ us then (if j < σ.length then some (match σ0[j]? with | some t => keepT t | none => .hole) else none) else ρ[j]? := by
      intro ρ us hρ
      induction us with
      | nil => simp [backT]
      | cons w us ihw =>
        simp only [backT]
        by_cases hw : w = j
        · subst hw
          rw [List.getElem?_set]
          simp [backT_len, hρ]
        · rw [List.getElem?_set_ne hw, ihw]
          have : (j ∈ w :: us) ↔ j ∈ us := by simp [Ne.symm hw]
          simp only [this]
    rw [get _ us (by rw [wipeT_len]), get _ us rfl]
    by_cases hj : j ∈ us
    · simp [hj]
    · simp only [hj, if_false]
      have out : ∀ ws : List Nat, j ∉ ws → (wipeT σ ws)[j]? = σ[j]? := by
        intro ws
        induction ws with
        | nil => intro _; all_goals rfl
        | cons w ws ihw =>
          intro h
          simp only [List.mem_cons, not_or] at h
          simp only [wipeT]
          rw [List.getElem?_set_ne (Ne.symm h.1)]
          exact ihw h.2
      exact out vs fun z => hj (hsub j z)
  obtain ⟨ys, ry, hy⟩ := main vs fun _ h => h
  rw [eqb vs fun _ h => h] at ry hy
  exact ⟨s2.sub, s2.nd, by rw [backT_len]; exact lτ, ⟨ys, ry, hy⟩, s0.bor⟩
end
/-- one item after the other -/
def lcL (w : T → List T → Option (List T)) (tt : List T → Res Bool) (te : List T → Res T) (vs : List Nat) : List T → List T → Option (List T × List T)
  | [], σ => some ([], σ)
  | t :: r, σ => match w t (wipeT σ vs) with
    | none => none
    | some σ1 => match tt σ1 with
      | .ok true σ2 => (match te σ2 with
        | .ok u σ3 => (match lcL w tt te vs r σ3 with
          | some (us, σ4) => some (u :: us, σ4)
          | none => none)
        | _ => none)
      | .ok false σ2 => lcL w tt te vs r σ2
      | _ => none
def mLc (it : List T → Res (List T)) (w : T → List T → Option (List T)) (tt : List T → Res Bool) (te : List T → Res T) (vs : List Nat) : List T → Res T := fun σ => (it σ).bind fun items σ1 =>
  if szB items.length then (match lcL w tt te vs items σ1 with
    | some (us, σ2) => .ok (.own us) (backT σ1 σ2 vs)
    | none => .stuck) else .stuck
def mYes : List T → Res Bool := fun σ => .ok true σ
section
variable {X : Cx} {c : Ct} {e elt iter tg : Expr} {pos : Pos}
theorem wipe_get (τ : L2.St) (j : Nat) : ∀ vs : List Nat, (wipe τ vs)[j]? = if j ∈ vs then (if j < τ.length then some none else none) else τ[j]?
  | [] => by simp [wipe]
  | v :: vs => by
    simp only [wipe]
    by_cases h : v = j
    · subst h
      rw [List.getElem?_set]
      simp [wipe_length]
    · rw [List.getElem?_set_ne h, wipe_get τ j vs]
      have : (j ∈ v :: vs) ↔ j ∈ vs := by simp [Ne.symm h]
      simp only [this]
theorem wipe_ext {τ τ' : L2.St} {vs : List Nat} (h : ∀ j, j ∉ vs → τ'[j]? = τ[j]?) (hl : τ'.length = τ.length) : wipe τ' vs = wipe τ vs := by
  apply List.ext_getElem?
  intro j
  rw [wipe_get, wipe_get, hl]
  by_cases hj : j ∈ vs
  · simp [hj]
  · simp only [hj, if_false]
    exact h j hj
theorem wipe_twice (τ : L2.St) (vs : List Nat) : wipe (wipe τ vs) vs = wipe τ vs :=
  wipe_ext (fun j hj => by rw [wipe_get]; simp [hj]) (wipe_length _ _)
def quiet (c : Ct) : Ct := { c with W := fun _ _ _ _ => False }
theorem t_yes {c : Ct} : PTs X [] (tT c mYes) := by
  obtain ⟨h⟩ := (pts_nil : PTs X [] tYes)
  refine ⟨fun p s τ H Q I q => h p s τ H Q I ?_⟩
  obtain ⟨F, σ, O, st, z⟩ := q
  exact RB.fin (Mid.start st) z
theorem lc_wk {it : List T → Res (List T)} {w : T → List T → Option (List T)} {tt : List T → Res Bool} {te : List T → Res T} {vs : List Nat} {sl : List Nat} (hsl : ∀ j ∈ sl, j ∈ vs) (ok : ∀ v ∈ vs, slotOk c v) (τ : L2.St) (H : Hp) (Q : VK) (h : tE c (mLc it w tt te vs) τ H Q) :
    tLc (tI c it) (tG (quiet c) sl w) (tT (quiet c) tt) (tE (quiet c) te) vs τ H Q := by
  obtain ⟨F, σ, O, st, p⟩ := h
  refine ⟨F, σ, O, st, ?_⟩
  unfold mLc at p
  cases q : it σ with
  | stuck => rw [q] at p; exact p.elim
  | exc C ns ts σ1 =>
    rw [q] at p
    exact fun F1 H1 O1 Ca d s t x => p F1 H1 O1 Ca d s t x
  | ok items σ1 =>
    rw [q] at p
    simp only [Res.bind] at p
    split at p
    · rename_i hz
      split at p
      · rename_i us σ2 hl
        rintro F1 H1 O1 J s1 t1 ⟨G, Y, wk, hG, hY⟩ D hD
        -- the state at turn i: the block's slots wiped; acc lies at D
        refine lc_it wk (fun i H2 => ∃ F2 τ2 ρ O2 acc vacc P2 rest, Sta c.e c.bor F2 H2 τ2 ρ O2 ∧ wipe τ2 vs = wipe τ vs ∧ Stp F1 H1 O1 F2 H2 (O2 ++ D :: P2) ∧ (O2 ++ D :: P2).Nodup ∧
          F2 D = none ∧ H2 D = some (.lst vacc) ∧ reps c.e F2 H2 acc vacc P2 ∧ acc.length ≤ i ∧ lcL w tt te vs (items.drop i) ρ = some (rest, σ2) ∧ us = acc ++ rest) ?_ ?_ ?_ ?_
        · have al := Alc.newO (P := []) (o := .lst []) s1.sub hD List.nodup_nil (by simp)
          have m1 := (Mid.start (c := c) s1).alc al
          refine ⟨F1, τ, σ1, O1, [], [], [], us, m1.st, rfl, by simpa using m1.stp, by simpa using m1.nd, s1.sub.no hD, upd_same, by simp [reps], Nat.zero_le _, by simpa using hl, by simp⟩
        · rintro i H2 _ ⟨F2, τ2, ρ, O2, acc, vacc, P2, rest, s2, w2, st2, _⟩
          exact hG H2 (st2.sub.tr s2.sub)
        · rintro i x H2 H3 hlt ⟨F2, τ2, ρ, O2, acc, vacc, P2, rest, s2, w2, st2, n2, fd, hd, ra, hi, hr, he⟩ hy
          obtain ⟨t, ht, F3, al, r3⟩ := hY i H2 x H3 F2 hlt st2.sub s2.sub hy
          have ed : items.drop i = t :: items.drop (i + 1) := by
            rw [List.drop_eq_getElem_cons hlt]
            congr 1
            rw [List.getElem?_eq_getElem hlt] at ht
            exact Option.some.inj ht
          rw [ed] at hr
          simp only [lcL] at hr
          have m3 := (Mid.start (c := c) s2).alc al
          obtain ⟨O3, s3, k3⟩ := m3.st.wiped (vs := vs) ok
          rw [w2] at s3
          have dj := nd_disj n2
          have hid3 : ∀ a ∈ D :: P2, H3 a = H2 a ∧ F3 a = none := fun a ha => by
            have fa : F2 a = none := by
              rcases List.mem_cons.mp ha with z | z
              · rw [z]; exact fd
              · exact (reps_at ra a z).1
            have oa : ∃ o, H2 a = some o := by
              rcases List.mem_cons.mp ha with z | z
              · exact ⟨_, by rw [z]; exact hd⟩
              · exact reps_some ra a z
            obtain ⟨o, oa⟩ := oa
            exact al.stp.hid (by simp) fa oa
          have hd3 : H3 D = some (.lst vacc) := by rw [(hid3 D (by simp)).1]; exact hd
          have fd3 : F3 D = none := (hid3 D (by simp)).2
          have ra3 : reps c.e F3 H3 acc vacc P2 := reps_mono al.stp.sub ra fun a ha => hid3 a (by simp [ha])
          have dO3 : ∀ a ∈ D :: P2, a ∉ O3 := fun a ha z => dj a ha (k3 a z)
          have stp3 : Stp F1 H1 O1 F3 H3 (O3 ++ D :: P2) := st2.tr (N2 := []) (O1 := []) al.stp (by simp) (by
            intro a ha
            rcases List.mem_append.mp ha with z | z
            · exact .inr (by simp [k3 a z])
            · exact .inr (by simp only [List.mem_append]; exact .inr z))
          cases qw : w t (wipeT ρ vs) with
          | none => rw [qw] at hr; cases hr
          | some ρ1 =>
            simp only [qw] at hr
            refine ⟨F3, wipeT ρ vs, O3, t, [], s3, r3, by simpa using s3.nd, ρ1, qw, fun τ4 O4 s4 k4 e4 => ?_⟩
            have k4' : ∀ a ∈ O4, a ∈ O3 := fun a ha => by simpa using k4 a ha
            have w4 : wipe τ4 vs = wipe τ vs := by
              rw [wipe_ext (τ := wipe τ vs) (fun j hj => e4.2 j fun z => hj (hsl j z)) e4.1]
              exact wipe_twice τ vs
            refine ⟨by rw [w4], ?_⟩
            have n4 : (O4 ++ D :: P2).Nodup := nd_app s4.nd (List.nodup_append.mp n2).2.1 fun a ha z => dO3 a ha (k4' a z)
            have m4 : Mid c F1 H1 O1 τ4 ρ1 F3 H3 O4 (D :: P2) := ⟨s4, n4, stp3.sub_own fun a ha => by
              rcases List.mem_append.mp ha with z | z
              · simp [k4' a z]
              · simp only [List.mem_append]; exact .inr z⟩
            have some3 : ∀ a ∈ D :: P2, ∃ o, H3 a = some o := fun a ha => by
              rcases List.mem_cons.mp ha with z | z
              · exact ⟨_, by rw [z]; exact hd3⟩
              · exact reps_some ra3 a z
            refine ⟨F3, ρ1, O4, s4, ?_⟩
            cases qt : tt ρ1 with
            | stuck => rw [qt] at hr; cases hr
            | exc _ _ _ _ => rw [qt] at hr; cases hr
            | ok b ρ2 =>
              rw [qt] at hr
              rintro F5 H5 O5 b' P5 s5 ⟨rfl, rfl⟩ n5 t5
              have m5 : Mid c F1 H1 O1 τ4 ρ2 F5 H5 O5 (D :: P2) := by simpa using m4.after s5 n5 t5 some3
              have hid5 : ∀ a ∈ D :: P2, H5 a = H3 a ∧ F5 a = none := fun a ha => by
                have fa : F3 a = none := (hid3 a ha).2
                obtain ⟨o, oa⟩ := some3 a ha
                exact t5.hid (m4.disj a ha) fa oa
              have hd5 : H5 D = some (.lst vacc) := by rw [(hid5 D (by simp)).1]; exact hd3
              have fd5 : F5 D = none := (hid5 D (by simp)).2
              have ra5 : reps c.e F5 H5 acc vacc P2 := reps_mono t5.sub ra3 fun a ha => hid5 a (by simp [ha])
              have some5 : ∀ a ∈ D :: P2, ∃ o, H5 a = some o := fun a ha => by
                obtain ⟨o, oa⟩ := some3 a ha
                exact ⟨o, by rw [(hid5 a ha).1]; exact oa⟩
              cases b with
              | false =>
                simp only at hr
                exact ⟨F5, τ4, ρ2, O5, acc, vacc, P2, rest, s5, w4, m5.stp, m5.nd, fd5, hd5, ra5, by omega, hr, he⟩
              | true =>
                simp only at hr
                refine ⟨F5, ρ2, O5, s5, ?_⟩
                cases qe : te ρ2 with
                | stuck => rw [qe] at hr; cases hr
                | exc _ _ _ _ => rw [qe] at hr; cases hr
                | ok u ρ3 =>
                  rw [qe] at hr
                  simp only at hr
                  cases ql : lcL w tt te vs (items.drop (i + 1)) ρ3 with
                  | none => rw [ql] at hr; cases hr
                  | some pr =>
                    obtain ⟨us', σ4⟩ := pr
                    rw [ql] at hr
                    simp only [Option.some.injEq, Prod.mk.injEq] at hr
                    obtain ⟨rfl, rfl⟩ := hr
                    intro F6 H6 O6 y P6 s6 r6 n6 t6
                    have m6 : Mid c F1 H1 O1 τ4 ρ3 F6 H6 O6 (P6 ++ D :: P2) := m5.after s6 n6 t6 some5
                    have hid6 : ∀ a ∈ D :: P2, H6 a = H5 a ∧ F6 a = none := fun a ha => by
                      have fa : F5 a = none := (hid5 a ha).2
                      obtain ⟨o, oa⟩ := some5 a ha
                      exact t6.hid (m5.disj a ha) fa oa
                    have hd6 : H6 D = some (.lst vacc) := by rw [(hid6 D (by simp)).1]; exact hd5
                    have fd6 : F6 D = none := (hid6 D (by simp)).2
                    have ra6 : reps c.e F6 H6 acc vacc P2 := reps_mono t6.sub ra5 fun a ha => hid6 a (by simp [ha])
                    have lv : acc.length = vacc.length := reps_len ra6
                    have hz' := of_decide_eq_true hz
                    refine ⟨vacc, hd6, by rw [sizeLine_eq]; omega, ?_⟩
                    have nP := (List.nodup_append.mp m6.nd).2.1
                    have pm : (D :: (P2 ++ P6)).Perm (P6 ++ D :: P2) := by
                      have := (List.perm_append_comm (l₁ := D :: P2) (l₂ := P6))
                      simpa using this
                    have nD := pm.nodup_iff.mpr nP
                    have al7 : Alc F6 H6 (P6 ++ D :: P2) F6 (upd H6 D (.lst (vacc ++ [y]))) (D :: (P2 ++ P6)) := Alc.wr s6.sub (by simp) fd6 nP nD fun a ha => pm.mem_iff.mp ha
                    have m7 := m6.alc al7
                    have dD : ∀ a ∈ P2 ++ P6, a ≠ D := fun a ha z => (List.nodup_cons.mp nD).1 (z ▸ ha)
                    refine ⟨F6, τ4, ρ3, O6, acc ++ [u], vacc ++ [y], P2 ++ P6, us', m7.st, w4, m7.stp, m7.nd, fd6, upd_same, ?_, by simp; omega, ql, by rw [he]; simp⟩
                    refine reps_app.mpr ⟨vacc, [y], P2, P6, rfl, rfl, reps_mono Sub.rfl ra6 fun a ha => ⟨upd_ne (dD a (by simp [ha])), (hid6 a (by simp [ha])).2⟩, reps_one.mpr (rep_mono Sub.rfl r6 fun a ha => ⟨upd_ne (dD a (by simp [ha])), (rep_at r6 a ha).1⟩)⟩
        · rintro H2 ⟨F2, τ2, ρ, O2, acc, vacc, P2, rest, s2, w2, st2, n2, fd, hd, ra, hi, hr, he⟩
          rw [List.drop_length] at hr
          simp only [lcL, Option.some.injEq, Prod.mk.injEq] at hr
          obtain ⟨rfl, rfl⟩ := hr
          rw [List.append_nil] at he
          subst he
          obtain ⟨O3, s3, k3⟩ := s1.backed s2 st2 w2 ok
          refine p F2 H2 O3 (.ref D) (D :: P2) s3 ?_ (nd_app s3.nd (List.nodup_append.mp n2).2.1 fun a ha z => nd_disj n2 a ha (k3 a z)) ((t1.tr st2 (fun _ h => h) fun _ h => .inl h).sub_own fun a ha => ?_)
          · simp only [rep]
            exact ⟨D, vacc, P2, rfl, rfl, fd, hd, ra⟩
          · rcases List.mem_append.mp ha with z | z
            · simp [k3 a z]
            · simp only [List.mem_append]; exact .inr z
      · exact p.elim
    · exact p.elim
theorem e_lc {ifs : List Expr} {scope : Scope} {own : List (Str × Nat)} {it : List T → Res (List T)} {w : T → List T → Option (List T)} {tt : List T → Res Bool} {te : List T → Res T} {sl : List Nat}
    (hsl : ∀ j ∈ sl, j ∈ own.map (·.2)) (sok : ∀ v ∈ own.map (·.2), slotOk c v) (hc : X.calm = true) (hN : X.N.Nodup) (hi : PI X tg iter (tI c it)) (ok : BlkOk X.N X.env.scope scope own)
    (hg : ∀ (s : Shared) (H : Hp) (C : Addr) (cl : List (Str × Addr)) (fp : List Addr), PG (X.blk s H scope (compEnvC scope cl C X.env) fp) tg (tG (quiet c) sl w))
    (ht : ∀ (s : Shared) (H : Hp) (C : Addr) (cl : List (Str × Addr)) (fp : List Addr), PTs (X.blk s H scope (compEnvC scope cl C X.env) fp) ifs (tT (quiet c) tt))
    (he : ∀ (s : Shared) (H : Hp) (C : Addr) (cl : List (Str × Addr)) (fp : List Addr), PE (X.blk s H scope (compEnvC scope cl C X.env) fp) elt (tE (quiet c) te))
    (hs : ∀ x, foldedSetIterable iter X.env x = pure x := by intro _; all_goals rfl) : PE X (.ListComp elt [⟨tg, iter, ifs, 0⟩] scope pos) (tE c (mLc it w tt te (own.map (·.2)))) :=
  (pe_lc hc hN hi ok hg ht he hs).wk (lc_wk hsl sok)
/-- name = [..] -/
theorem s_lc {i : Nat} {y : Str} {py spos : Pos} {ifs : List Expr} {scope : Scope} {own : List (Str × Nat)} {it : List T → Res (List T)} {w : T → List T → Option (List T)} {tt : List T → Res Bool} {te : List T → Res T} {sl : List Nat}
    (oki : slotOk c i) (hsl : ∀ j ∈ sl, j ∈ own.map (·.2)) (sok : ∀ v ∈ own.map (·.2), slotOk c v) (hc : X.calm = true) (hN : X.N.Nodup) (hy : X.N[i]? = some y) (hyl : X.env.scope.names.lookup y = some .local)
    (hsw : swapsWith (.ListComp elt [⟨tg, iter, ifs, 0⟩] scope pos) (some (.Name y py)) spos.line X.env = pure true) (hi : PI X tg iter (tI c it)) (ok : BlkOk X.N X.env.scope scope own)
    (hg : ∀ (s : Shared) (H : Hp) (C : Addr) (cl : List (Str × Addr)) (fp : List Addr), PG (X.blk s H scope (compEnvC scope cl C X.env) fp) tg (tG (quiet c) sl w))
    (ht : ∀ (s : Shared) (H : Hp) (C : Addr) (cl : List (Str × Addr)) (fp : List Addr), PTs (X.blk s H scope (compEnvC scope cl C X.env) fp) ifs (tT (quiet c) tt))
    (he : ∀ (s : Shared) (H : Hp) (C : Addr) (cl : List (Str × Addr)) (fp : List Addr), PE (X.blk s H scope (compEnvC scope cl C X.env) fp) elt (tE (quiet c) te))
    (hs : ∀ x, foldedSetIterable iter X.env x = pure x := by intro _; all_goals rfl) : PS X (.Assign [.Name y py] (.ListComp elt [⟨tg, iter, ifs, 0⟩] scope pos) spos) (tS c (mAsg (mLc it w tt te (own.map (·.2))) (wN i))) :=
  (ps_setLc hc hN hy hyl hsw hi ok hg ht he hs).wk fun D τ H h => by
    have z := asg_wk (sl := [i]) D τ H h
    have z2 : tLc (tI c it) (tG (quiet c) sl w) (tT (quiet c) tt) (tE (quiet c) te) (own.map (·.2)) τ H (fun x H1 => gName i x τ H1 D.nx) := by
      refine lc_wk hsl sok τ H _ (Tm.mono z fun y H1 ⟨F, σ, O, t, P, st, r, n, σ', hw, k⟩ => ?_)
      unfold wN at hw
      split at hw
      · rename_i hi
        cases hw
        obtain ⟨O', st', m⟩ := st.put r n hi oki
        exact k _ O' st' m ⟨by simp, fun j hj => List.getElem?_set_ne fun z => hj (by simp [z])⟩
      · cases hw
    exact z2
end
end MV

namespace MV
open PySem PySem.Spec PyProof.Rows L2

/-! ## Defs and their calls -/
inductive FRes where
  | ok (t b : T)
  | exc (C : Str) (ns : List Str) (ts : List T) (b : T)
  | stuck
/-- what a def promises; b is what its first argument has become, where it was lent (else a hole) -/
def FPost (e : En) (F H : Hp) (O : List Addr) (v0 : V) (Q : VK) (E : XK) : FRes → Prop
  | .ok t b => ∀ F' H' x P Pb, Sub F' H' → rep e F' H' t x P → rep e F' H' b v0 Pb → (Pb ++ P).Nodup → Stp F H O F' H' (Pb ++ P) → Q x H'
  | .exc C ns ts b => ∀ F' H' Ca d Pb, Sub F' H' → rep e F' H' b v0 Pb → Pb.Nodup → Stp F H O F' H' Pb → XR e F' H' C ns ts Ca d → E (.ref Ca) d H'
  | .stuck => False
def spM (e : En) (n : Nat) (m : List T → FRes) : Sp := fun vs H Q E => vs.length = n ∧ ∃ F ts O, reps e F H ts vs O ∧ O.Nodup ∧ Sub F H ∧ FPost e F H O (vs.headD .non) Q E (m ts)
def lentT (bor : Bool) (σ : List T) : T := if bor then (match σ[0]? with | some t => t | none => .hole) else .hole
def mFn (N : Nat) (bor : Bool) (body : List T → SRes) : List T → FRes := fun ts =>
  match body (ts ++ List.replicate (N - ts.length) .hole) with
  | .nx σ => .ok (.v .non) (lentT bor σ)
  | .rt t σ => .ok t (lentT bor σ)
  | .exc C ns us σ => .exc C ns us (lentT bor σ)
  | _ => .stuck
section
variable {e : En} {F H : Hp}
theorem reps_holes : ∀ n : Nat, reps e F H (List.replicate n T.hole) (List.replicate n V.non) []
  | 0 => by simp [reps]
  | n + 1 => by
    rw [List.replicate_succ, List.replicate_succ]
    simp only [reps]
    exact ⟨.non, _, [], [], rfl, rfl, by simp [rep], reps_holes n⟩
theorem Sta.lent {bor : Option V} {τ : L2.St} {σ : List T} {O : List Addr} {v0 : V} {bl : Bool} (s : Sta e bor F H τ σ O) (hb : bl = true → bor = some v0) : ∃ Pb, rep e F H (lentT bl σ) v0 Pb ∧ Pb.Nodup ∧ ∀ a ∈ Pb, a ∈ O := by
  cases bl with
  | false => exact ⟨[], by simp [lentT, rep], by simp, by simp⟩
  | true =>
    unfold lentT
    simp only [if_true]
    cases q : σ[0]? with
    | none => exact ⟨[], by simp [rep], by simp, by simp⟩
    | some t =>
      cases hh : t.isHole with
      | true =>
        cases t <;> first | (cases hh; done) | skip
        exact ⟨[], by simp [rep], by simp, by simp⟩
      | false =>
        obtain ⟨x, A, Ot, B, e1, rfl, r1, _⟩ := s.slot q hh
        have := s.bor v0 (hb rfl)
        rw [e1] at this
        cases this
        exact ⟨Ot, r1, (nd3 s.nd).2.1, by intro a h; simp [h]⟩
end
section
variable {P : Program} {w : World} {K : PySem.W.Frag} {mg : Str → Option Value} {base : Heap}
def ctOf (K : PySem.W.Frag) (mg : Str → Option Value) (bor : Option V) (E : XK) : Ct := ⟨⟨K, mg, none⟩, bor, fun cls d _ H => E cls d H⟩
theorem fn_post {c : Ct} {F H : Hp} {O : List Addr} {v0 : V} {Q : VK} {E : XK} {N : Nat} {bl : Bool} {body : List T → SRes} {ts : List T} (hb : bl = true → c.bor = some v0) (hW : c.W = fun cls d _ H => E cls d H)
    (p : FPost c.e F H O v0 Q E (mFn N bl body ts)) : SPost c F H O { nx := fun _ H' => Q .non H', rt := Q } (body (ts ++ List.replicate (N - ts.length) .hole)) := by
  unfold mFn at p
  cases q : body (ts ++ List.replicate (N - ts.length) .hole) with
  | nx σ =>
    rw [q] at p
    intro τ' F' H' O' s t
    obtain ⟨Pb, r, n, m⟩ := s.lent hb
    exact p F' H' .non [] Pb s.sub rep_v' r (by simpa using n) (t.sub_own (by intro a ha; simp at ha; exact m a ha))
  | rt u σ =>
    rw [q] at p
    intro τ' F' H' O' x Px s rx n t
    obtain ⟨Pb, r, nb, m⟩ := s.lent hb
    refine p F' H' x Px Pb s.sub rx r (nd_app nb (List.nodup_append.mp n).2.1 fun a ha h => nd_disj n a ha (m a h)) (t.sub_own fun a ha => ?_)
    rcases List.mem_append.mp ha with z | z
    · simp [m a z]
    · simp [z]
  | exc C ns us σ =>
    rw [q] at p
    intro τ' F' H' O' Ca d s t x
    obtain ⟨Pb, r, nb, m⟩ := s.lent hb
    rw [hW]
    exact p F' H' Ca d Pb s.sub r nb (t.sub_own m) x
  | bk σ => rw [q] at p; exact p.elim
  | ct σ => rw [q] at p; exact p.elim
  | stuck => rw [q] at p; exact p.elim
theorem fn_start {e : En} {F H : Hp} {O : List Addr} {ts : List T} {vs : List V} {N : List Str} {bor : Option V} (r : reps e F H ts vs O) (n : O.Nodup) (s : Sub F H) (hN : vs.length ≤ N.length) (hb : ∀ x, bor = some x → vs[0]? = some x) :
    Sta e bor F H (L2.start N vs) (ts ++ List.replicate (N.length - ts.length) .hole) O := by
  have hl := reps_len r
  refine ⟨s, n, by simp [L2.start, hl], ⟨vs ++ List.replicate (N.length - ts.length) .non, reps_app.mpr ⟨vs, _, O, [], rfl, by simp, r, reps_holes _⟩, fun i t x h1 h2 h3 => ?_⟩, fun x hx => ?_⟩
  · by_cases hi : i < ts.length
    · rw [List.getElem?_append_left (by omega)] at h3
      unfold L2.start
      rw [List.getElem?_append_left (by simp; omega), List.getElem?_map, h3]
      all_goals rfl
    · rw [List.getElem?_append_right (by omega), List.getElem?_replicate] at h1
      split at h1 <;> cases h1
      cases h2
  · have := hb x hx
    unfold L2.start
    have h0 : 0 < vs.length := (List.getElem?_eq_some_iff.mp this).1
    rw [List.getElem?_append_left (by simpa using h0), List.getElem?_map, this]
    all_goals rfl
/-- a def by its body; nothing is lent to it -/
theorem fn_mv {x qual : Str} {st : Stmt} {f : Addr} {fd : FuncData} {N ps : List Str} {k : Nat} (body : List T → SRes) (Fn : Fun K x qual st f fd) (S : FnScope N ps (defScope st)) (hN : ps.length ≤ N.length)
    (hb : ∀ (cdv : Value) (A : Around) (outer : List Env) (s : Shared) (H : Hp) (E : XK), Room k (A.deeper (envOfC qual (defScope st) s.heap.objs.size f cdv)) →
      PSs (cxOf (L2.CX P w) P w K mg base N qual (defScope st) f cdv A outer s H E) (defBody st) (tS (ctOf K mg none E) body)) :
    FnOk P w K mg base (L2.CX P w) (k + 1) f fd ps (spM ⟨K, mg, none⟩ ps.length (mFn N.length false body)) := by
  refine Fn.okX S (fun vs H Q E h => h.1) fun cdv A outer s H vs Q E hr h => ?_
  obtain ⟨hl, F, ts, O, r, n, sb, p⟩ := h
  refine ⟨_, hb cdv A outer s H E hr, F, _, O, fn_start r n sb (by omega) (by simp [ctOf]), ?_⟩
  exact fn_post (c := ctOf K mg none E) (bl := false) (by simp) rfl p
/-- .. its first argument is lent -/
theorem fn_mvB {x qual : Str} {st : Stmt} {f : Addr} {fd : FuncData} {N ps : List Str} {k : Nat} (body : List T → SRes) (Fn : Fun K x qual st f fd) (S : FnScope N ps (defScope st)) (hN : ps.length ≤ N.length) (h0 : 0 < ps.length)
    (hb : ∀ (cdv : Value) (A : Around) (outer : List Env) (s : Shared) (H : Hp) (E : XK) (v0 : V), Room k (A.deeper (envOfC qual (defScope st) s.heap.objs.size f cdv)) →
      PSs (cxOf (L2.CX P w) P w K mg base N qual (defScope st) f cdv A outer s H E) (defBody st) (tS (ctOf K mg (some v0) E) body)) :
    FnOk P w K mg base (L2.CX P w) (k + 1) f fd ps (spM ⟨K, mg, none⟩ ps.length (mFn N.length true body)) := by
  refine Fn.okX S (fun vs H Q E h => h.1) fun cdv A outer s H vs Q E hr h => ?_
  obtain ⟨hl, F, ts, O, r, n, sb, p⟩ := h
  have hv : vs[0]? = some (vs.headD .non) := by
    cases vs with
    | nil => rw [← hl] at h0; simp at h0
    | cons y ys => rfl
  refine ⟨_, hb cdv A outer s H E (vs.headD .non) hr, F, _, O, fn_start r n sb (by omega) (by intro y hy; cases hy; exact hv), ?_⟩
  exact fn_post (c := ctOf K mg (some (vs.headD .non)) E) (bl := true) (fun _ => rfl) rfl p
end

def mCall (m : List T → FRes) (g : List T → Res (List T)) : List T → Res T := fun σ => (g σ).bind fun ts σ1 =>
  match m ts with
  | .ok t _ => .ok t σ1
  | .exc C ns us _ => .exc C ns us σ1
  | .stuck => .stuck
/-- a call; slot i is lent as the first argument -/
def mLend (i : Nat) (m : List T → FRes) (g : List T → Res (List T)) : List T → Res T := fun σ =>
  match σ[i]? with
  | some t0 => if t0.isHole then .stuck else (g (σ.set i .hole)).bind fun ts σ1 =>
    if i < σ1.length then (match m (t0 :: ts) with
    | .ok t b => .ok t (σ1.set i b)
    | .exc C ns us b => .exc C ns us (σ1.set i b)
    | .stuck => .stuck) else .stuck
  | none => .stuck
section
variable {X : Cx} {c : Ct} {a b : Expr} {es : List Expr} {g : List T → Res (List T)} {m : List T → FRes} {k i : Nat} {f : Addr} {fd : FuncData} {ps : List Str} {x : Str} {p pos : Pos}
theorem Mid.low {F H F1 H1 F2 H2 : Hp} {O O1 P P2 : List Addr} {τ : L2.St} {σ1 : List T} (md : Mid c F H O τ σ1 F1 H1 O1 P) (s : Stp F1 H1 P F2 H2 P2) (sb : Sub F2 H2) (n : P2.Nodup) : Mid c F H O τ σ1 F2 H2 O1 P2 := md.alc ⟨s, sb, n⟩
theorem Mid.exc {F H F1 H1 : Hp} {O O1 P : List Addr} {τ : L2.St} {σ1 : List T} {α β : Type} {R : Hp → Hp → α → β → List Addr → Prop} {Q : β → Hp → Prop} {C : Str} {ns : List Str} {us : List T} {Ca : Addr} {d : Option Addr}
    (md : Mid c F H O τ σ1 F1 H1 O1 P) (p : Post c R F H O τ Q (.exc C ns us σ1)) (xr : XR c.e F1 H1 C ns us Ca d) : c.W (.ref Ca) d τ H1 := p F1 H1 O1 Ca d md.st (md.stp.sub_own (by intro a h; simp [h])) xr
theorem e_call (Fn : FnOk X.prog X.w X.K X.mg X.base (L2.CX X.prog X.w) k f fd ps (spM ⟨X.K, X.mg, none⟩ ps.length m)) (hr : Room k X.A) (hg : Gl X x) (hm : X.mg x = some (.ref f)) (hk : PySem.W.keepIn X.K (.ref f) = true) (hb : Binds X.K fd ps [])
    (he : c.e = ⟨X.K, X.mg, none⟩) (tk : Takes X c.W) (ha : PA X (a :: es) (tA c g)) (hlen : ∀ σ ts σ1, g σ = .ok ts σ1 → ts.length = ps.length) (hdb : (x == ("__debug__" : Str)) = false := by decide)
    (hst : starEach (a :: es) X.env = (false, eval a X.env) :: starEach es X.env := by rfl) (hpl : (backTo pos (starEach es X.env)).any (·.1) = false := by rfl) :
    PE X (.Call (.Name x p) (a :: es) [] pos) (tE c (mCall m g)) :=
  (pe_callS (E := WE c.W) Fn hr hg hm hk hb (fun τ => passAt tk τ) ha hdb hst hpl).wk fun τ H Q h => by
    obtain ⟨F, σ, O, st, p⟩ := h
    unfold mCall at p
    have p' : Post c (RT c.e) F H O τ Q ((g σ).bind fun ts σ1 => if ts.length = ps.length then (match m ts with | .ok t _ => Res.ok t σ1 | .exc C ns us _ => .exc C ns us σ1 | .stuck => .stuck) else .stuck) := by
      cases q : g σ with
      | ok ts σ1 => rw [q] at p; simp only [Res.bind, hlen σ ts σ1 q, if_true]; exact p
      | exc _ _ _ _ => rw [q] at p; exact p
      | stuck => rw [q] at p; exact p
    refine Tm.mono ((Mid.start st).run (by simp) (g := g) p') fun vs H1 ⟨ts, σ1, F1, O1, P1, m1, r1, s1, p1⟩ => ?_
    rw [List.append_nil] at m1
    split at p1
    · rename_i hl
      refine ⟨by rw [← reps_len r1]; exact hl, F1, ts, P1, by rw [← he]; exact r1, (List.nodup_append.mp m1.nd).2.1, m1.st.sub, ?_⟩
      cases q : m ts with
      | stuck => rw [q] at p1; exact p1.elim
      | ok t b =>
        rw [q] at p1
        intro F2 H2 y P2 Pb sb ry _ n2 s2
        have m2 := m1.low (P2 := P2) (s2.sub_own (by intro a h; simp [h])) sb (List.nodup_append.mp n2).2.1
        exact m2.fin p1 (by rw [he]; exact ry) (List.nodup_append.mp n2).2.1 fun _ h => h
      | exc C ns us b =>
        rw [q] at p1
        intro F2 H2 Ca d Pb sb _ nb s2 xr
        have m2 := m1.low (P2 := []) (s2.sub_own (by simp)) sb List.nodup_nil
        exact m2.exc p1 (by rw [he]; exact xr)
    · exact p1.elim
theorem e_lend (Fn : FnOk X.prog X.w X.K X.mg X.base (L2.CX X.prog X.w) k f fd ps (spM ⟨X.K, X.mg, none⟩ ps.length m)) (hr : Room k X.A) (hg : Gl X x) (hm : X.mg x = some (.ref f)) (hk : PySem.W.keepIn X.K (.ref f) = true) (hb : Binds X.K fd ps [])
    (he : c.e = ⟨X.K, X.mg, none⟩) (tk : Takes X c.W) (h1 : PE X a (tVar i)) (ha : PA X es (tA c g)) (hlen : ∀ σ ts σ1, g σ = .ok ts σ1 → ts.length + 1 = ps.length) (hdb : (x == ("__debug__" : Str)) = false := by decide)
    (hst : starEach (a :: es) X.env = (false, eval a X.env) :: starEach es X.env := by rfl) (hpl : (backTo pos (starEach es X.env)).any (·.1) = false := by rfl) :
    PE X (.Call (.Name x p) (a :: es) [] pos) (tE c (mLend i m g)) :=
  (pe_callS (E := WE c.W) Fn hr hg hm hk hb (fun τ => passAt tk τ) (pa_cons h1 ha hst) hdb hst hpl).wk fun τ H Q h => by
    obtain ⟨F, σ, O, st, p⟩ := h
    unfold mLend at p
    split at p
    · rename_i t0 q0
      split at p
      · exact p.elim
      · rename_i hh
        obtain ⟨v0, Ot, O2, e0, r0, m0, s0⟩ := (Mid.start (c := c) st).lend q0 (by simpa using hh)
        rw [List.append_nil] at m0
        have p' : Post c (RT c.e) F H O τ Q ((g (σ.set i .hole)).bind fun ts σ1 => if ts.length + 1 = ps.length ∧ i < σ1.length then (match m (t0 :: ts) with | .ok t b => Res.ok t (σ1.set i b) | .exc C ns us b => .exc C ns us (σ1.set i b) | .stuck => .stuck) else .stuck) := by
          cases q : g (σ.set i .hole) with
          | ok ts σ1 =>
            rw [q] at p
            simp only [Res.bind, hlen _ ts σ1 q, true_and]
            exact p
          | exc _ _ _ _ => rw [q] at p; exact p
          | stuck => rw [q] at p; exact p
        refine ⟨v0, e0, Tm.mono (m0.run (rep_some r0) (g := g) p') fun vs H1 ⟨ts, σ1, F1, O1, P1, m1, r1, s1, p1⟩ => ?_⟩
        have r0' := s1.rep r0 m0.disj
        split at p1
        · rename_i hl
          obtain ⟨hl1, hl2⟩ := hl
          have nP := (List.nodup_append.mp m1.nd).2.1
          have nP' : (Ot ++ P1).Nodup := List.perm_append_comm.nodup_iff.mp nP
          have m1' : Mid c F H O τ σ1 F1 H1 O1 (Ot ++ P1) := ⟨m1.st, nd_app m1.st.nd nP' fun a ha => m1.disj a (by simp at ha ⊢; exact ha.symm), m1.stp.sub_own (by intro a ha; simp at ha ⊢; rcases ha with z | z | z <;> simp [z])⟩
          refine ⟨by rw [List.length_cons, ← reps_len r1]; exact hl1, F1, t0 :: ts, Ot ++ P1, ?_, nP', m1.st.sub, ?_⟩
          · rw [← he]
            simp only [reps]
            exact ⟨v0, vs, Ot, P1, rfl, rfl, r0', r1⟩
          · cases q : m (t0 :: ts) with
            | stuck => rw [q] at p1; exact p1.elim
            | ok t b =>
              rw [q] at p1
              intro F2 H2 y P2 Pb sb ry rb n2 s2
              have m2 := m1'.low (P2 := Pb ++ P2) s2 sb n2
              obtain ⟨O3, m3⟩ := m2.fill (k := i) (t := b) (x := v0) (P1 := Pb) (P2 := P2) hl2 e0 (by rw [he]; exact rb) n2 fun _ h => h
              exact m3.fin p1 (by rw [he]; exact ry) (List.nodup_append.mp n2).2.1 fun _ h => h
            | exc C ns us b =>
              rw [q] at p1
              intro F2 H2 Ca d Pb sb rb nb s2 xr
              have m2 := m1'.low (P2 := Pb) s2 sb nb
              obtain ⟨O3, m3⟩ := m2.fill (k := i) (t := b) (x := v0) (P1 := Pb) (P2 := []) hl2 e0 (by rw [he]; exact rb) (by simpa using nb) (by simp)
              exact m3.exc p1 (by rw [he]; exact xr)
        · exact p1.elim
    · exact p.elim
theorem len_nil {σ : List T} {ts σ1 : List T} (h : mNil σ = .ok ts σ1) : ts.length = 0 := by
  unfold mNil at h; cases h; all_goals rfl
theorem len_cons {f : List T → Res T} {g : List T → Res (List T)} {n : Nat} (hg : ∀ σ ts σ1, g σ = .ok ts σ1 → ts.length = n) : ∀ σ ts σ1, mCons f g σ = .ok ts σ1 → ts.length = n + 1 := by
  intro σ ts σ1 h
  unfold mCons at h
  cases q : f σ with
  | ok t σ2 =>
    rw [q] at h
    simp only [Res.bind] at h
    cases q2 : g σ2 with
    | ok us σ3 => rw [q2] at h; cases h; simp [hg _ _ _ q2]
    | exc _ _ _ _ => rw [q2] at h; cases h
    | stuck => rw [q2] at h; cases h
  | exc _ _ _ _ => rw [q] at h; cases h
  | stuck => rw [q] at h; cases h
end
end MV

namespace MVX
open PySem PySem.W PySem.Calls PyProof.Rows PySem.HandSPX

/-! ## An own exception: super().__init__(a text), then its fields -/
structure Xt (prog : Program) (K : Frag) (mg : Str → Option Value) (nm : Str) (C fI : Addr) (ns : List Str) : Prop where
  gC : mg nm = some (.ref C)
  cls : ∃ nm q N bs bm sn sub ab col dd k0 k1 k2 k3 k5, K.lookup C = some (excClassObj nm q C N bs bm true sn sub ab col dd k0 k1 k2 k3 k5 "ValueError.__new__") ∧ refsVE bm = true
  sa : findIn K (.ref C) "__setattr__" = some (some (.builtin "object.__setattr__"))
  ga : findIn K (.ref C) "__getattribute__" = some (some (.builtin "BaseException.__getattribute__"))
  gg : findIn K (.ref C) "__getattr__" = some none
  noN : ∀ n ∈ ns, findIn K (.ref C) n = some none
  iC : findIn K (.ref C) "__init__" = some (some (.ref fI))
  tI : typeIn K (.ref fI) = some (.type "function")
  kC : keepIn K (.ref C) = true
  exC : subIn K (.ref C) (.type "BaseException") = some true
  veC : subIn K (.ref C) (.type "ValueError") = some true
  tyC : typeIn K (.ref C) = some (.type "type")
  hdC : hasDictIn K C = true
  selfC : mroIn K C (.ref C) = some true
  opq : nsIn K cStatics "thirdparty.any" = some none
  sup : ks_superIn K C C "__init__" = some (some (.builtin "ValueError.__init__"))
  gS : mg "super" = none
  top : (prog.main.scope.names.lookup ("super" : Str)).isSome = false

/-- the def __init__ as it stands -/
structure Xi (prog : Program) (K : Frag) (C fI : Addr) (qual : Str) (ar : Arguments) (bd : List Stmt) (sc : Scope) : Prop where
  fn : ∃ (oc : Value) (od : Option Addr) (doc pm : Value) (an : Option Addr) (cda cc : Addr) (ct : Value) (osl : Array (Option Value)),
    K.lookup fI = some ⟨oc, od, .func (ksFn "__init__" qual ar bd sc .none .none doc pm an (.ref cda) ct cc), osl⟩ ∧ codeIn K (.ref cda) qual = true ∧
    (∃ ccl cdd vs ccs file tf, K.lookup cda = some ⟨ccl, cdd, .fields vs, ccs⟩ ∧ vs[2]? = some (.str file tf) ∧ ((prog.main.file : Str) == file) = true) ∧
    ∃ cl cld csl, K.lookup cc = some ⟨cl, cld, .cell (some (.ref C)), csl⟩
section
variable {prog : Program} {w : World} {A : Around} {E : Value → Shared → Prop} {R : Result → Shared → Prop} {s : Shared} {K : Frag} {mg : Str → Option Value} {nm : Str} {C fI : Addr} {ns : List Str}
theorem keptBut {h h' : Heap} {x : Addr} (X : K.In h) (hx : K.lookup x = none) (k : ∀ b o, b ≠ x → h.get? b = some o → h'.get? b = some o) : K.In h' := fun a o e =>
  k a o (fun z => by rw [z, hx] at e; cases e) (X a o e)
/-- the namespaces at hand -/
structure Glb (mg : Str → Option Value) (h : Heap) : Prop where
  g : h.Ns mainGlobals mg
  b : ∃ mb, h.Ns builtinsNs mb ∧ ∀ x : Str, x ≠ "__name__" → mb x = bootBuiltins x
theorem Glb.keeps {h h' : Heap} (g : Glb mg h) (k : ∀ b o, h.get? b = some o → h'.get? b = some o) : Glb mg h' :=
  ⟨g.g.keeps k, let ⟨mb, h1, h2⟩ := g.b; ⟨mb, h1.keeps k, h2⟩⟩
/-- super().__init__(txt) in __init__ -/
theorem super_stmt (T : Xt prog K mg nm C fI ns) {ar : Arguments} {bd body : List Stmt} {sc : Scope} {qual : Str} {oc : Value} {od : Option Addr} {doc pm : Value} {an : Option Addr} {cda cc : Addr} {ct : Value} {osl : Array (Option Value)}
    (ho : K.lookup fI = some ⟨oc, od, .func (ksFn "__init__" qual ar bd sc .none .none doc pm an (.ref cda) ct cc), osl⟩)
    (hcode : ∃ ccl cdd vs ccs file tf, K.lookup cda = some ⟨ccl, cdd, .fields vs, ccs⟩ ∧ vs[2]? = some (.str file tf) ∧ ((prog.main.file : Str) == file) = true)
    (hcell : ∃ cl cld csl, K.lookup cc = some ⟨cl, cld, .cell (some (.ref C)), csl⟩) {L x t0 : Addr} {m : Str → Option Value} {p0 p1 p2 p3 p4 p5 : Pos} {j : Nat} {txt : Str} {a0 : Arg} {Q : Flow → Shared → Prop}
    (X : K.In s.heap) (G : Glb mg s.heap) (hn : s.heap.Ns L m) (har : (ar.posonlyargs ++ ar.args).head? = some a0) (hm : m a0.arg = some (.ref x)) (hx : s.heap.get? x = some (excO C t0)) (hxC : x ≠ C)
    (k1 : sc.names.lookup ("super" : Str) = some .globalImplicit) (k2 : sc.names.lookup ("__class__" : Str) = some .free) (k3 : sc.names.lookup a0.arg = some .local) (kk : sc.kind = .function) {pl : Sem Bool}
    (he : eval (.Call (.Attribute (.Call (.Name "super" p0) [] [] p1) "__init__" p2) [.Constant (.str txt) j p3] [] p4) (ksEnv qual sc L fI (.ref cda) cc) = (do
      let ov ← attributeBase (.Call (.Name "super" p0) [] [] p1) "__init__" (ksEnv qual sc L fI (.ref cda) cc) (eval (.Call (.Name "super" p0) [] [] p1) (ksEnv qual sc L fI (.ref cda) cc))
      standAt p2.atName
      let (f, first) ← holding [ov] (getMethod ov "__init__" pl)
      callWith p4 f first (backTo p4 (starEach [.Constant (.str txt) j p3] (ksEnv qual sc L fI (.ref cda) cc))) []))
    (hsw : swapsWith (.Call (.Attribute (.Call (.Name "super" p0) [] [] p1) "__init__" p2) [.Constant (.str txt) j p3] [] p4) none p5.line (ksEnv qual sc L fI (.ref cda) cc) = pure false)
    (h : ∀ h' tk t1, (∀ b o, b ≠ x → s.heap.get? b = some o → h'.get? b = some o) → h'.get? x = some (excO C t1) → Q .next { s with heap := h', toks := tk }) :
    _root_.PySem.wpAt (model prog w) A (.func body (ksEnv qual sc L fI (.ref cda) cc)) (exec (.Expr (.Call (.Attribute (.Call (.Name "super" p0) [] [] p1) "__init__" p2) [.Constant (.str txt) j p3] [] p4) p5) (ksEnv qual sc L fI (.ref cda) cc)) Q E s := by
  obtain ⟨ccl, cdd, vs, ccs, file, tf, hcd, hvs, hfile⟩ := hcode
  obtain ⟨cl, cld, csl, hcc⟩ := hcell
  obtain ⟨nm', q, N, bs, bm, sn, sub, ab, col, dd, k0, k1', k2', k3', k5, hC, hbm⟩ := T.cls
  obtain ⟨mb, hb1, hb2⟩ := G.b
  have hint : interactive (ksEnv qual sc L fI (.ref cda) cc) = false := by simp [interactive, kk]
  have I0 : PySem.W.InstAt s.heap x (excO C t0) C none := ⟨hx, rfl, rfl, trivial⟩
  have hcl : clsIn K C = some { name := nm', bases := bs, mro := .ref C :: bm, ns := N, qualname := q, hasDict := true, slotNames := sn, subclasses := sub, abstract := ab, collection := col, hasDel := false } := by unfold clsIn; rw [hC] <;> rfl
  refine ks_wpAt_Expr_any (ks_wpAt_MethodCall ?_ he) hint hsw
  refine ks_wpAt_super_base (env := ksEnv qual sc L fI (.ref cda) cc) k1 k2 (by decide) rfl (X _ _ ho) rfl har rfl (X _ _ hcd) rfl hvs hfile T.top ?_
  refine ks_loadName_global kk k1 (loadGlobal_builtin (env := ksEnv qual sc L fI (.ref cda) cc) G.g T.gS hb1 ((hb2 _ (by decide)).trans (by decide +kernel)) ⟨rfl, ?_⟩)
  refine wpAny_loadName_free kk k2 rfl ⟨_, X _ _ hcc, rfl⟩ ?_
  refine wpAny_loadName_local kk k3 hn hm ?_
  obtain ⟨hh, g, d, t, os⟩ := s
  refine ks_wpAny_isType_cls (X _ _ hC) rfl ⟨rfl, ?_⟩
  refine ks_wpAny_call_super (X _ _ hC) rfl hx rfl (fun c e => by cases e) (looks_mroIn X T.selfC) (fun h1 e1 kp1 => ?_)
  have X1 : K.In h1 := X.keeps kp1
  have I1 : PySem.W.InstAt h1 x (excO C t0) C none := ⟨kp1 _ _ hx, rfl, rfl, trivial⟩
  have sup := T.sup
  unfold ks_superIn at sup
  rw [hcl] at sup
  have hI : Looks (model prog w) h1 (isInstance (.ref x) (.type "ValueError")) true := I1.type.andThen (looks_subIn X1 T.veC)
  refine kxs_getMethod kxs_ValueError e1 (looks_opaque X1 T.opq) (l₀ := .ref C :: bm) (fun A Q E s k q => wpAny_bind ((looks_clsIn X1 hcl) A _ E s k (wpAny_pure q))) rfl X1 sup hI hxC (by decide) ?_
  have hmw : (h1.push (kxs_mw "ValueError.__init__" x)).get? h1.objs.size = some (kxs_mw "ValueError.__init__" x) := Heap.get?_push_at rfl rfl
  have kp2 : ∀ b o, h1.get? b = some o → (h1.push (kxs_mw "ValueError.__init__" x)).get? b = some o := fun b o e => Heap.get?_push_of_some _ e
  refine kxs_callWith (i := "ValueError.__init__") (x := x) rfl (Calls.evalArgs_plain (Calls.spliced_cons (Calls.Constant_str (k := j) (pos := p3) (Calls.spliced_nil ⟨hmw, ?_⟩))))
  have hx2 : (h1.push (kxs_mw "ValueError.__init__" x)).get? x = some (excO C t0) := kp2 _ _ (kp1 _ _ hx)
  have hC2 : (h1.push (kxs_mw "ValueError.__init__" x)).get? C = some (excClassObj nm' q C N bs bm true sn sub ab col dd k0 k1' k2' k3' k5 "ValueError.__new__") := kp2 _ _ (X1 _ _ hC)
  refine wpAny_call (codeAny_of_tree ?_)
  show wpAny _ A.in1 (callAny (.ref h1.objs.size) _) _ _ _
  simp only [callAny]
  refine wpAny_bind (wpAny_load hmw ?_)
  simp only [kxs_mw, show (Value.type "method-wrapper" == Value.type "method" || Value.type "method-wrapper" == Value.type "builtin_function_or_method" || Value.type "method-wrapper" == Value.type "method-wrapper") = true by decide, if_true]
  refine KFB.if_so (by decide) ?_
  refine wpAny_bind (check_bound_init PySem.F.excBase_ValueError.toExcCallFacts hC2 hx2 rfl ?_)
  refine wpAny_bind (wpAny_pure (wpAny_pure ?_))
  refine ⟨plainId_quiet PySem.F.excBase_ValueError.init.plain _, codeAny_builtin PySem.F.excBase_ValueError.initEntry ?_⟩
  refine exc_init_tree (cls := .ref C) (t0 := t0) (dv := none) (c2 := .none) (c3 := .none) (b4 := .bool false) hx2 (by rw [sizeLine_eq]; simp) fun h' kk' e' _ => ?_
  exact h h' _ _ (fun b o hb e => kk' b o hb (kp2 b o (kp1 b o e))) e'
/-- a local name -/
theorem ldN {env : Env} {m : Str → Option Value} {x : Str} {pos : Pos} {v : Value} {Q : Value → Shared → Prop} {L : Addr} (hL : env.locals = L) (hn : s.heap.Ns L m) (hv : m x = some v) (hk : env.scope.kind = .function) (hl : env.kindOf x = some .local)
    (hd : (x == ("__debug__" : Str)) = false) (h : Q v s) : wpAny (model prog w) A (eval (.Name x pos) env) Q E s := by
  subst hL
  exact wpAny_Name (wpAny_loadName_local hk hl hn hv h) hd
/-- self.f = f, the first one -/
theorem st_first (T : Xt prog K mg nm C fI ns) {env : Env} {m : Str → Option Value} {L x t0 : Addr} {f : Str} {v : Value} {q1 q2 q3 q4 : Pos} {Q : Flow → Shared → Prop} (hf : f ∈ ns) (X : K.In s.heap) (hL : env.locals = L) (hn : s.heap.Ns L m) (hs : m "self" = some (.ref x)) (hv : m f = some v)
    (hk : env.scope.kind = .function) (hl0 : env.kindOf "self" = some .local) (hl : env.kindOf f = some .local) (hd : (f == ("__debug__" : Str)) = false) (hx : s.heap.get? x = some (excO C t0)) (hsw : swapsWith (.Name f q3) (some (.Attribute (.Name "self" q1) f q2)) q4.line env = pure false)
    (h : ∀ h' tk dx, (∀ b o, b ≠ x → s.heap.get? b = some o → h'.get? b = some o) → s.heap.objs.size ≤ dx → dx ≠ x → h'.get? x = some { cls := .ref C, dict := some dx, data := .fields #[.ref t0, .none, .none, .none, .bool false, .none] } →
      h'.Ns1 dx (fun y => if y = f then some v else none) → Q .next { s with heap := h', toks := tk }) :
    wpAny (model prog w) A (exec (.Assign [.Attribute (.Name "self" q1) f q2] (.Name f q3) q4) env) Q E s := by
  obtain ⟨nm', q, N, bs, bm, sn, sub, ab, col, dd, k0, k1', k2', k3', k5, hC, hbm⟩ := T.cls
  have hcl : clsIn K C = some { name := nm', bases := bs, mro := .ref C :: bm, ns := N, qualname := q, hasDict := true, slotNames := sn, subclasses := sub, abstract := ab, collection := col, hasDel := false } := by unfold clsIn; rw [hC] <;> rfl
  refine plainObj_wpAny_Assign_Attribute ?_ hsw
  refine ldN hL hn hv hk hl hd (ldN hL hn hs hk hl0 (by decide) ?_)
  refine PySem.W.set_plain X (ox := excO C t0) (od := none) ⟨hx, rfl, rfl, trivial⟩ T.sa ?_
  exact exc_osa X hx hcl (show refsVE (.ref C :: bm) = true from hbm) rfl (T.noN f hf) fun h' tk' dx k dn dne hx' hn' => h h' tk' dx k dn dne hx' hn'
/-- self.f = f, a further one -/
theorem st_next (T : Xt prog K mg nm C fI ns) {env : Env} {m : Str → Option Value} {L x t0 dx : Addr} {f : Str} {v : Value} {q1 q2 q3 q4 : Pos} {Q : Flow → Shared → Prop} {m0 : Str → Option Value} {nl : List Str} (hf : f ∈ ns) (X : K.In s.heap) (hL : env.locals = L) (hn : s.heap.Ns L m) (hs : m "self" = some (.ref x)) (hv : m f = some v)
    (hk : env.scope.kind = .function) (hl0 : env.kindOf "self" = some .local) (hl : env.kindOf f = some .local) (hd : (f == ("__debug__" : Str)) = false)
    (hx : s.heap.get? x = some { cls := .ref C, dict := some dx, data := .fields #[.ref t0, .none, .none, .none, .bool false, .none] }) (hdx : s.heap.Ns1 dx m0) (hw : Within m0 nl) (hz : nl.length ≤ 1000)
    (hsw : swapsWith (.Name f q3) (some (.Attribute (.Name "self" q1) f q2)) q4.line env = pure false)
    (h : ∀ h' tk, (∀ b o, b ≠ dx → s.heap.get? b = some o → h'.get? b = some o) → h'.Ns1 dx (fun y => if y = f then some v else m0 y) → Q .next { s with heap := h', toks := tk }) :
    wpAny (model prog w) A (exec (.Assign [.Attribute (.Name "self" q1) f q2] (.Name f q3) q4) env) Q E s := by
  obtain ⟨nm', q, N, bs, bm, sn, sub, ab, col, dd, k0, k1', k2', k3', k5, hC, hbm⟩ := T.cls
  have hcl : clsIn K C = some { name := nm', bases := bs, mro := .ref C :: bm, ns := N, qualname := q, hasDict := true, slotNames := sn, subclasses := sub, abstract := ab, collection := col, hasDel := false } := by unfold clsIn; rw [hC] <;> rfl
  obtain ⟨oD, _, _, hoD, _, _⟩ := hdx.count hw
  refine plainObj_wpAny_Assign_Attribute ?_ hsw
  refine ldN hL hn hv hk hl hd (ldN hL hn hs hk hl0 (by decide) ?_)
  refine PySem.W.set_plain X (ox := { cls := .ref C, dict := some dx, data := .fields #[.ref t0, .none, .none, .none, .bool false, .none] }) (od := some oD) ⟨hx, rfl, rfl, hoD⟩ T.sa ?_
  exact PySem.OEX.osa_old X hx hdx hw hz hcl (show refsVE (.ref C :: bm) = true from hbm) rfl (T.noN f hf) fun h' tk' k hn' => h h' tk' k hn'
/-- the text of an __init__: super().__init__(txt), then a field for each further parameter -/
structure Xs (qual : Str) (ar : Arguments) (bd : List Stmt) (sc : Scope) (ns : List Str) where
  p0 : Pos
  p1 : Pos
  p2 : Pos
  p3 : Pos
  p4 : Pos
  p5 : Pos
  j : Nat
  txt : Str
  as : List Stmt
  a0 : Arg
  body : bd = .Expr (.Call (.Attribute (.Call (.Name "super" p0) [] [] p1) "__init__" p2) [.Constant (.str txt) j p3] [] p4) p5 :: as
  har : (ar.posonlyargs ++ ar.args).head? = some a0
  self : a0.arg = "self"
  kind : sc.kind = .function
  co : sc.isCoroutine = false
  gen : sc.isGenerator = false
  nocell : ∀ y ∈ sc.names, y.2 ≠ .cell
  kS : sc.names.lookup ("super" : Str) = some .globalImplicit
  kC : sc.names.lookup ("__class__" : Str) = some .free
  kself : sc.names.lookup ("self" : Str) = some .local
  kn : ∀ n ∈ ns, sc.names.lookup n = some .local
  nd : ∀ n ∈ ns, (n == ("__debug__" : Str)) = false
  bind : ∀ (doc pm : Value) (an : Option Addr) (cdv ct : Value) (cc : Addr) (s : Shared) (us : List Value), us.length = ns.length + 1 → BindsTo s (ksFn "__init__" qual ar bd sc .none .none doc pm an cdv ct cc) ⟨us, []⟩ ((("self" : Str) :: ns).zip us)
  pl : Sem Bool
  ev : ∀ (L fI : Addr) (cd : Value) (cc : Addr), eval (.Call (.Attribute (.Call (.Name "super" p0) [] [] p1) "__init__" p2) [.Constant (.str txt) j p3] [] p4) (ksEnv qual sc L fI cd cc) = (do
      let ov ← attributeBase (.Call (.Name "super" p0) [] [] p1) "__init__" (ksEnv qual sc L fI cd cc) (eval (.Call (.Name "super" p0) [] [] p1) (ksEnv qual sc L fI cd cc))
      standAt p2.atName
      let (f, first) ← holding [ov] (getMethod ov "__init__" pl)
      callWith p4 f first (backTo p4 (starEach [.Constant (.str txt) j p3] (ksEnv qual sc L fI cd cc))) [])
  sw : ∀ (L fI : Addr) (cd : Value) (cc : Addr), swapsWith (.Call (.Attribute (.Call (.Name "super" p0) [] [] p1) "__init__" p2) [.Constant (.str txt) j p3] [] p4) none p5.line (ksEnv qual sc L fI cd cc) = pure false
/-- a made exception -/
structure Made (h h' : Heap) (e C d : Addr) (mA : Str → Option Value) : Prop where
  keep : ∀ b o, h.get? b = some o → h'.get? b = some o
  new : h.objs.size ≤ e
  obj : ∃ oe vs, h'.get? e = some oe ∧ oe.cls = .ref C ∧ oe.dict = some d ∧ oe.data = .fields vs ∧ vs[1]? = some .none
  dbig : h.objs.size ≤ d
  dne : d ≠ e
  ns : h'.Ns1 d mA
/-- __init__'s start -/
theorem init_start (T : Xt prog K mg nm C fI ns) {qual : Str} {ar : Arguments} {bd : List Stmt} {sc : Scope} (I : Xi prog K C fI qual ar bd sc) (S : Xs qual ar bd sc ns) {x t0 : Addr} {us : List Value} (hu : us.length = ns.length) (X : K.In s.heap) (G : Glb mg s.heap) (hlim : s.heap.NoLimit)
    (hx : s.heap.get? x = some (excO C t0)) (hxC : x ≠ C) (hxK : K.lookup x = none) (hroom : A.depth < recursionLimit) (hself : (((("self" : Str) :: ns).zip (Value.ref x :: us)).reverse.lookup ("self" : Str)) = some (Value.ref x))
    (h : ∀ (env : Env) (m : Str → Option Value) (h' : Heap) (tk : Nat) (t1 : Addr), env.locals = s.heap.objs.size → env.scope = sc → h'.Ns s.heap.objs.size m → m = (fun y => (((("self" : Str) :: ns).zip (Value.ref x :: us)).reverse.lookup y)) → K.In h' → (∀ b o, b ≠ x → s.heap.get? b = some o → h'.get? b = some o) → s.heap.objs.size < h'.objs.size → h'.get? x = some (excO C t1) →
      (∃ cd cc, env = ksEnv qual sc s.heap.objs.size fI cd cc) →
      wpAny (model prog w) (A.deeper env) (execs S.as env) (fun f s' => R (.ok (.ret (match f with | .ret v => v | _ => .none))) s') (fun e s' => wpAny (model prog w) (A.deeper env) (leaving env e) (fun _ s'' => R (.error e) s'') (fun e' s'' => R (.error e') s'') s') { s with heap := h', toks := tk }) :
    codeAny (model prog w) A (.call (.ref fI) ⟨.ref x :: us, []⟩) R s := by
  obtain ⟨oc, od, doc, pm, an, cda, cc, ct, osl, ho, hcd, hcode, hcell⟩ := I.fn
  have kl : ∀ y ∈ ((("self" : Str) :: ns).zip (Value.ref x :: us)), sc.names.lookup y.1 = some .local := fun y hy => by
    have h1 := (List.of_mem_zip hy).1
    rcases List.mem_cons.mp h1 with z | z
    · rw [z]; exact S.kself
    · exact S.kn _ z
  refine ks_codeAny_call_defAt (fd := ksFn "__init__" qual ar bd sc .none .none doc pm an (.ref cda) ct cc) (body := bd) hroom (X _ _ ho) rfl hlim (codeRec_of X hcd) rfl (S.bind doc pm an (.ref cda) ct cc s (.ref x :: us) (by simp [hu])) S.nocell kl (fun h₁ hns hk₁ => ?_) S.co S.gen S.kind
  have X₁ : K.In h₁ := X.keeps hk₁
  show _root_.PySem.wpAt (model prog w) _ (.func bd (ksEnv qual sc s.heap.objs.size fI (.ref cda) cc)) (execs bd (ksEnv qual sc s.heap.objs.size fI (.ref cda) cc)) _ _ _
  rw [S.body]
  refine ks_wpAt_execs_cons ?_
  have hxL : x ≠ s.heap.objs.size := Nat.ne_of_lt (Heap.lt_size hx)
  have hself : (fun y => (((("self" : Str) :: ns).zip (Value.ref x :: us)).reverse.lookup y)) S.a0.arg = some (.ref x) := by
    rw [S.self]
    exact hself
  refine super_stmt (s := { s with heap := h₁, toks := _ }) T ho hcode hcell X₁ (G.keeps hk₁) hns S.har hself (hk₁ _ _ hx) hxC S.kS S.kC (by rw [S.self]; exact S.kself) S.kind (S.ev _ _ _ _) (S.sw _ _ _ _) fun h' tk t1 k hx' => ?_
  refine wpAt_of_wpAny (h (ksEnv qual sc s.heap.objs.size fI (.ref cda) cc) _ h' tk t1 rfl rfl ?_ rfl (keptBut X₁ hxK k) (fun b o hb e => k b o hb (hk₁ b o e)) ?_ hx' ⟨_, _, rfl⟩)
  · obtain ⟨oL, es, ep, e1, e2⟩ := hns
    exact ⟨oL, es, ep, k _ _ (Ne.symm hxL) e1, e2⟩
  · obtain ⟨oL, es, ep, e1, e2⟩ := hns
    exact Heap.lt_size (k _ _ (Ne.symm hxL) e1)
theorem within1 {f : Str} {v : Value} : Within (fun y => if y = f then some v else none) [f] := fun y hy => by
  by_cases h : y = f
  · simp [h]
  · exact absurd (by simp [h]) hy
/-- C(v): one field -/
theorem made1 {f : Str} (T : Xt prog K mg nm C fI [f]) {qual : Str} {ar : Arguments} {bd : List Stmt} {sc : Scope} (I : Xi prog K C fI qual ar bd sc) (S : Xs qual ar bd sc [f]) {q1 q2 q3 q4 : Pos} (has : S.as = [.Assign [.Attribute (.Name "self" q1) f q2] (.Name f q3) q4])
    (hsw : ∀ (L fI : Addr) (cd : Value) (cc : Addr), swapsWith (.Name f q3) (some (.Attribute (.Name "self" q1) f q2)) q4.line (ksEnv qual sc L fI cd cc) = pure false) (hfs : (("self" : Str) == f) = false) {v : Value} (X : K.In s.heap) (G : Glb mg s.heap) (hlim : s.heap.NoLimit) (hroom : A.depth + 1 < recursionLimit)
    (hq : ∀ h' tk e d, Made s.heap h' e C d (fun y => if y = f then some v else none) → R (.ok (.ret (.ref e))) { s with heap := h', toks := tk }) :
    codeAny (model prog w) A (.call (.ref C) ⟨[v], []⟩) R s := by
  obtain ⟨nm', q, N, bs, bm, sn, sub, ab, col, dd, k0, k1', k2', k3', k5, hC, hbm⟩ := T.cls
  obtain ⟨hp, g, dr, tk, os⟩ := s
  have k : ∀ b o, hp.get? b = some o → ((hp.push (kdv_tup [v])).push (excO C hp.objs.size)).get? b = some o := fun b o e => Heap.get?_push_of_some _ (Heap.get?_push_of_some _ e)
  have hget : ((hp.push (kdv_tup [v])).push (excO C hp.objs.size)).get? (hp.objs.size + 1) = some (excO C hp.objs.size) := by heap_get
  have big : ∀ {a : Addr} {o : Obj}, hp.get? a = some o → a ≠ hp.objs.size + 1 := fun {a o} e => Nat.ne_of_lt (Nat.lt_succ_of_lt (Heap.lt_size e))
  have hnx : K.lookup (hp.objs.size + 1) = none := by
    cases e : K.lookup (hp.objs.size + 1) with
    | none => rfl
    | some o => exact absurd rfl (big (X _ _ e))
  have hxC : hp.objs.size + 1 ≠ C := fun z => big (X _ _ hC) z.symm
  refine call_own PySem.F.excBase_ValueError (fun Y => refsVE_contains Y bm hbm) (X _ _ hC) (looks_findIn X T.iC) (fun self => bind_fn X self T.tI) (by rw [sizeLine_eq]; simp) ?_
  refine init_start (s := ⟨(hp.push (kdv_tup [v])).push (excO C hp.objs.size), g, dr, tk, os⟩) T I S rfl (X.keeps k) (G.keeps k) (hlim.keeps k) hget hxC hnx (by show A.depth + 1 < recursionLimit; exact hroom) (by simp [List.lookup, hfs]) fun env m h' tk' t1 eL eS hn em X' kp hlt hx' ⟨cd, cc, eq'⟩ => ?_
  rw [has]
  have s2 : ((hp.push (kdv_tup [v])).push (excO C hp.objs.size)).objs.size = hp.objs.size + 2 := by simp [Heap.size_push]
  refine wpAny_execs_cons (st_first T (f := f) (v := v) (by simp) X' eL hn (by rw [em]; simp [List.lookup, hfs]) (by rw [em]; simp [List.lookup]) (by rw [eS]; exact S.kind) (by show env.scope.names.lookup _ = _; rw [eS]; exact S.kself) (by show env.scope.names.lookup _ = _; rw [eS]; exact S.kn f (by simp)) (S.nd f (by simp)) hx' (by rw [eq']; exact hsw _ _ _ _)
    fun h3 tk3 dx k3 dbig dne hx3 hn3 => ?_)
  refine wpAny_execs_nil ?_
  have old : ∀ b o, hp.get? b = some o → h3.get? b = some o := fun b o e => k3 b o (big e) (kp b o (big e) (k b o e))
  have z : hp.objs.size ≤ dx := by
    have h1 : hp.objs.size + 2 < h'.objs.size := by rw [← s2]; exact hlt
    have h2 : h'.objs.size ≤ dx := dbig
    omega
  exact ⟨rfl, hq h3 tk3 (hp.objs.size + 1) dx ⟨old, Nat.le_succ _, ⟨_, _, hx3, rfl, rfl, rfl, rfl⟩, z, dne, hn3⟩⟩
end
end MVX
namespace MV
open PySem PySem.Spec PyProof.Rows L2
section
variable {X : Cx} {C fI : Addr}
theorem relO_one {f : Str} {y : V} {u : Value} (r : RelV y u) (g : Str) : RelO (List.lookup g [(f, y)]) (if g = f then some u else none) := by
  by_cases h : g = f
  · subst h
    rw [if_pos rfl]
    have q : List.lookup g [(g, y)] = some y := by simp [List.lookup]
    rw [q]
    exact r
  · rw [if_neg h]
    have q : (g == f) = false := by simpa using h
    have q2 : List.lookup g [(f, y)] = none := by simp [List.lookup, q]
    rw [q2]
    trivial
/-- C(e ..): a new exception, its dict at d -/
def tMkX (C : Addr) (ns : List Str) (ta : TA) : L2.St → Hp → XK → Prop := fun τ H Q => ta τ H fun vs H1 => vs.length = ns.length ∧ ∀ d, H1 d = none → Q (.ref C) (some d) (upd H1 d (.xd (ns.zip vs)))
theorem glbOf {pins : List (Addr × Obj)} {τ : L2.St} {H : Hp} {s : Shared} (I : Inv X pins τ H s) : MVX.Glb X.mg s.heap :=
  ⟨I.ok.mod.glob.keeps I.bk, let ⟨mb, h1, h2⟩ := I.ok.mod.blt; ⟨mb, h1.keeps I.bk, h2⟩⟩
/-- what is made, in the abstract heap -/
theorem mk_made {pins : List (Addr × Obj)} {τ : L2.St} {H1 : Hp} {Q : XK} {hp h' : Heap} {g : Array GenState} {dr : Drawn} {tk tk' : Nat} {os : OsState} {e d : Addr} {mA : Str → Option Value} {fs : List (Str × V)} (I1 : Inv X pins τ H1 ⟨hp, g, dr, tk, os⟩)
    (M : MVX.Made hp h' e C d mA) (rel : ∀ f, RelO (fs.lookup f) (mA f)) (r1 : PySem.W.subIn X.K (.ref C) (.type "BaseException") = some true) (r2 : PySem.W.typeIn X.K (.ref C) = some (.type "type"))
    (q : ∀ d, H1 d = none → Q (.ref C) (some d) (upd H1 d (.xd fs))) : MkP X pins τ Q (.ref e) ⟨h', g, dr, tk', os⟩ := by
  obtain ⟨oe, fv, hoe, hc, hd, hdat, h1⟩ := M.obj
  have hns := M.ns
  obtain ⟨G', g1, g2⟩ := restrict h' fun b => decide (b ≠ e)
  have gk : ∀ b, b ≠ e → G'.get? b = h'.get? b := fun b hb => g1 b (decide_eq_true hb)
  have ge : G'.get? e = none := g2 e (by simp)
  have old : ∀ b o, hp.get? b = some o → G'.get? b = some o := fun b o z => (gk b (Nat.ne_of_lt (Nat.lt_of_lt_of_le (Heap.lt_size z) M.new))).trans (M.keep b o z)
  have ob : ObjOk X.prog X.w (upd H1 d (.xd fs)) G' d (.xd fs) := ⟨_, hns.at (fun o z => (gk d M.dne).trans z), rel⟩
  have J : Inv X pins τ (upd H1 d (.xd fs)) ⟨G', g, dr, tk', os⟩ := I1.laid (t' := tk') old M.dbig ob
  refine ⟨e, oe, fv, ⟨G', g, dr, tk', os⟩, _, .ref C, some d, rfl, J, fun b o z => ?_, ge, hoe, ⟨hc, hd⟩, hdat, h1, ?_, rfl, I1.bare, raises_own r1 r2, q d (I1.hok.fresh M.dbig)⟩
  · by_cases hb : b = e
    · have z' : G'.get? b = some o := z
      rw [hb, ge] at z'; cases z'
    · exact (gk b hb).symm.trans z
  · rw [upd_ne (Ne.symm M.dne)]
    exact I1.hok.fresh M.new
/-- how a class of exceptions is made by a call -/
def MakesX (X : Cx) (C : Addr) (ns : List Str) : Prop := ∀ (s : Shared) (A : Around) (R : Result → Shared → Prop) (us : List Value), us.length = ns.length → X.K.In s.heap → MVX.Glb X.mg s.heap → s.heap.NoLimit → A.depth + 1 < recursionLimit →
  (∀ h' tk e d mA, MVX.Made s.heap h' e C d mA → (∀ vs, Vals vs us → ∀ f, RelO ((ns.zip vs).lookup f) (mA f)) → R (.ok (.ret (.ref e))) { s with heap := h', toks := tk }) → codeAny (model X.prog X.w) A (.call (.ref C) ⟨us, []⟩) R s
theorem makes1 {nm f : Str} (T : MVX.Xt X.prog X.K X.mg nm C fI [f]) {qual : Str} {ar : Arguments} {bd : List Stmt} {sc : Scope} (I : MVX.Xi X.prog X.K C fI qual ar bd sc) (S : MVX.Xs qual ar bd sc [f]) {q1 q2 q3 q4 : Pos} (has : S.as = [.Assign [.Attribute (.Name "self" q1) f q2] (.Name f q3) q4])
    (hsw : ∀ (L fI : Addr) (cd : Value) (cc : Addr), swapsWith (.Name f q3) (some (.Attribute (.Name "self" q1) f q2)) q4.line (PySem.W.ksEnv qual sc L fI cd cc) = pure false) (hfs : (("self" : Str) == f) = false) : MakesX X C [f] := by
  intro s A R us hl X0 G lim room hq
  match us, hl with
  | [v], _ =>
    refine MVX.made1 T I S has hsw hfs X0 G lim room fun h' tk e d M => hq h' tk e d _ M fun vs r g => ?_
    cases r with
    | cons rv rn => cases rn; exact relO_one rv g
theorem pmk_x {nm : Str} {ns : List Str} {a : Expr} {es : List Expr} {ta : TA} {p pos : Pos} {k : Nat} (T : MVX.Xt X.prog X.K X.mg nm C fI ns) (mk : MakesX X C ns) (hr : Room k X.A) (ha : PA X (a :: es) ta) (hg : Gl X nm) (hdb : (nm == ("__debug__" : Str)) = false)
    (he : starEach (a :: es) X.env = (false, eval a X.env) :: starEach es X.env := by rfl) (hpl : (backTo pos (starEach es X.env)).any (·.1) = false := by rfl) : PMk X (.Call (.Name nm p) (a :: es) [] pos) (tMkX C ns ta) := by
  intro pins s τ H Q I h
  refine wpAny_Call_Name_kw (ld_glob I hg T.gC ?_ hdb)
  refine PySem.W.callWith_K (h₀ := X.base) I.ok.mod.kin T.kC (thn (ha.run pos pins s τ H _ I h) fun us s1 hh => ?_) he hpl
  obtain ⟨vs, H1, I1, r1, el, q1⟩ := hh
  refine ⟨I1.kIn, ?_⟩
  show wpAny _ _ (call (.ref C) us) _ _ _
  have lu : us.length = ns.length := by rw [← el]; exact r1.length.symm
  refine wpAny_call (mk s1 X.A _ us lu I1.kIn (glbOf I1) I1.nolimit (by have := hr.dp; omega) fun h' tk' e d mA M rel => ?_)
  obtain ⟨hp, g, dr, tk, os⟩ := s1
  exact mk_made I1 M (rel vs r1) T.exC T.tyC q1
/-- raise C(e, ..) -/
def mRaise (C : Str) (ns : List Str) (g : List T → Res (List T)) : List T → SRes := fun σ => (g σ).sbind fun ts σ1 => if ts.length = ns.length then .exc C ns (fzs ts) σ1 else .stuck
theorem s_raise {c : Ct} {nm : Str} {ns : List Str} {a : Expr} {es : List Expr} {g : List T → Res (List T)} {p pos pos2 : Pos} {k : Nat} (hm : c.e.mg = X.mg) (hc : X.calm = true) (T : MVX.Xt X.prog X.K X.mg nm C fI ns) (mk : MakesX X C ns) (hr : Room k X.A) (tk : Takes X c.W) (ha : PA X (a :: es) (tA c g)) (hg : Gl X nm) (hdb : (nm == ("__debug__" : Str)) = false)
    (he : starEach (a :: es) X.env = (false, eval a X.env) :: starEach es X.env := by rfl) (hpl : (backTo pos (starEach es X.env)).any (·.1) = false := by rfl) :
    PS X (.Raise (some (.Call (.Name nm p) (a :: es) [] pos)) none pos2) (tS c (mRaise nm ns g)) := (ps_raise hc tk (pmk_x T mk hr ha hg hdb he hpl)).wk fun D τ H h => by
  obtain ⟨F, σ, O, st, p⟩ := h
  refine Tm.mono (s_run st p) fun vs H1 ⟨ts, σ1, F1, O1, P1, m1, r1, p1⟩ => ?_
  split at p1
  · rename_i hl
    refine ⟨by rw [← reps_len r1]; exact hl, fun d hd => ?_⟩
    have hF : ∀ a ∈ P1, F1 a = none := fun a ha => (reps_at r1 a ha).1
    have a1 : Alc F1 H1 P1 (put F1 H1 P1) H1 [] := Alc.freeze m1.st.sub hF fun _ h => h
    have a2 := Alc.newF (P := []) (o := .xd (ns.zip vs)) a1.sub hd
    have m2 := m1.alc (a1.tr a2)
    have rf := reps_fz (put_sub hF) (O' := P1) (fun a ha => put_in ha) r1 fun _ h => h
    refine p1 τ _ _ _ C (some d) m2.st (m2.stp.sub_own (by intro a h; simp [h])) ⟨by rw [hm]; exact T.gC, by rw [fzs_length]; exact hl.symm, .inr ⟨d, vs, rfl, upd_same, reps_mono a2.stp.sub rf (by simp)⟩⟩
  · exact p1.elim
end
end MV

namespace MV
open PySem PySem.Spec PyProof.Rows L2

/-! ## try: several clauses, with and without a name -/
/-- the slot of a clause's name holds the exception within the suite, nothing behind it -/
def inSlot (o : Option Nat) (a : Addr) (τ : L2.St) : L2.St := match o with
  | some i => τ.set i (some (.ref a))
  | none => τ
def outEnds (o : Option Nat) (D : Ends) : Ends := match o with
  | some i => { nx := fun τ H => D.nx (τ.set i none) H, rt := D.rt, bk := fun τ H => D.bk (τ.set i none) H, ct := fun τ H => D.ct (τ.set i none) H }
  | none => D
abbrev Clause := Value × Option Nat × (Addr → Value → Option Addr → TS)
def wMix (K : PySem.W.Frag) (Wout : WX) (D : Ends) : List Clause → WX
  | [] => Wout
  | (cl, o, ts) :: r => fun cls d τ H => ∃ b, PySem.W.exmOne K cls cl = some b ∧ (b = true → ∀ a, H a = none → ts a cls d (outEnds o D) (inSlot o a τ) H) ∧ (b = false → wMix K Wout D r cls d τ H)
inductive MixOk (X : Cx) : List ExceptHandler → List Clause → Prop
  | nil : MixOk X [] []
  | only {x : Str} {cl : Value} {ts : Addr → Value → Option Addr → TS} {s0 : Stmt} {suite : List Stmt} {np hp : Pos} {hds : List ExceptHandler} {l : List Clause} (hn : Names X x cl)
      (hsu : ∀ (a : Addr) (oe : Obj) (cls : Value) (d : Option Addr) (pn : List (Addr × Obj)), Zc cls d oe → (∃ vs, oe.data = .fields vs) → PSs (X.suite a ((a, oe) :: pn)) (s0 :: suite) (ts a cls d)) (r : MixOk X hds l) :
      MixOk X (.ExceptHandler (some (.Name x np)) none (s0 :: suite) hp :: hds) ((cl, none, ts) :: l)
  | named {x n : Str} {i : Nat} {cl : Value} {ts : Addr → Value → Option Addr → TS} {s0 : Stmt} {suite : List Stmt} {np hp : Pos} {hds : List ExceptHandler} {l : List Clause} (hn : Names X x cl) (hi : X.N[i]? = some n) (hl : X.env.kindOf n = some .local)
      (hsu : ∀ (a : Addr) (oe : Obj) (cls : Value) (d : Option Addr) (pn : List (Addr × Obj)), Zc cls d oe → (∃ vs, oe.data = .fields vs) → PSs (X.suite a ((a, oe) :: pn)) (s0 :: suite) (ts a cls d)) (r : MixOk X hds l) :
      MixOk X (.ExceptHandler (some (.Name x np)) (some n) (s0 :: suite) hp :: hds) ((cl, some i, ts) :: l)
section
variable {X : Cx} {body : List Stmt} {hd0 : ExceptHandler} {hds : List ExceptHandler} {l : List Clause} {pos : Pos} {tb : WX → TS} {Wout : WX}
/-- the clauses one after the other, the exception landed at ea -/
theorem mix_go (hs : X.stack = X.env :: X.outer) (hf : X.env.frame = some X.env.locals) (hN : X.N.Nodup) (tk : Takes X Wout) {pins : List (Addr × Obj)} {τ : L2.St} {H' : Hp} {D : Ends} {s2 sI : Shared} {h3 Bh : Heap} {ea : Addr} {cls : Value} {d : Option Addr} (ok : X.Ok)
    (J : Inv X pins τ H' sI) (nb : ∀ b o, sI.heap.get? b = some o → b ∉ frs X.stack → Bh.get? b = some o) (up : sI.heap.UpToSlots h3) (os : s2.os = sI.os) (ag : AllBare s2.gens) (na : H' ea = none)
    (fl : HandSPX.FlyingZ Bh (X.env :: X.outer) ea (Zc cls d) h3) (nL : ea ≠ X.env.locals) (nF : ea ∉ X.fs) :
    ∀ {hds : List ExceptHandler} {l : List Clause}, MixOk X hds l → wMix X.K Wout D l cls d τ H' → wpAny (model X.prog X.w) X.A (handleBy (.ref ea) X.env hds) (SP X pins D) X.xe { s2 with heap := h3 } := by
  have land : ∀ {h : Heap}, HandSPX.FlyingZ Bh (X.env :: X.outer) ea (Zc cls d) h → sI.heap.UpToSlots h → Inv X pins τ H' { s2 with heap := h } := fun q u => J.landed nb q.1 u os ag
  have J3 := land fl up
  intro hds l hk
  induction hk with
  | nil =>
    intro w
    refine wpAny_handleBy_nil ?_
    obtain ⟨_, _, _, oe, vs, T, oT, tl, he, _, hdat, h1, _⟩ := id fl
    unfold PySem.passOn
    refine wpAny_bind (wpAny_field he hdat h1 ?_)
    rw [if_neg (show ¬ ((Value.ref T == Value.none) = true) by simp)]
    have again : wpAny (model X.prog X.w) X.A (setFlight (.ref ea) X.env.frame) (fun _ s4 => wpAny (model X.prog X.w) X.A (throw (.ref ea) : Sem Flow) (SP X pins D) X.xe s4) X.xe { s2 with heap := h3 } := by
      rw [hf]
      refine HandSPX.setFlight_upZ fl fun h4 held u4 => wpAny_throw (tk _ _ ⟨ea, Bh, sI, pins, τ, H', cls, d, rfl, J, nb, up.trans u4, .inr (.inr ?_), na, os, ag, w⟩)
      rw [hs]; exact held
    first
      | exact wpAny_bind again
      | exact wpAny_bind (wpAny_pure (wpAny_bind again))
  | @only x cl ts s0 suite np hp hds2 l2 hn hsu r ih =>
    rintro ⟨b, hb, yes, no⟩
    obtain ⟨oe3, vs3, he3, hz3, hd3⟩ := fl.there
    have S3 := J3.suite he3 hd3 na nL nF
    refine wpAny_handleBy_cons (codeAny_handlers_test ?_) (by intro q; cases q)
    have LT : PySem.W.Looks (model X.prog X.w) h3 (typeOf (.ref ea)) cls := fun _ _ _ _ kp q => wpAny_typeOf_ref (kp _ _ he3) (by rw [hz3.1]; exact q)
    have ask := PySem.W.exm_one (M := model X.prog X.w) J3.kIn LT hb
    have name : ∀ {Q : Value → Shared → Prop} {E : Value → Shared → Prop}, Q cl { s2 with heap := h3 } → wpAny (model X.prog X.w) (X.A.mark (some (.ref ea))) (eval (.Name x np) X.env) Q E { s2 with heap := h3 } := fun q => by
      obtain ⟨hg, hdb, hm | ⟨hm, hv, hx⟩⟩ := hn
      · exact ld_glob (X := X.suite ea ((ea, oe3) :: (X.pn ++ pins))) S3 hg hm q hdb
      · exact ld_blt (X := X.suite ea ((ea, oe3) :: (X.pn ++ pins))) S3 hg hm hv q hx hdb
    refine name (ask.here ?_)
    cases b with
    | false => exact ih (no rfl)
    | true =>
      refine codeAny_handlers_suite (HandSPX.lands_againZ fl fun h4 fl4 u4 => ?_)
      obtain ⟨oe4, vs4, he4, hz4, hd4⟩ := fl4.there
      have S4 := (land fl4 (up.trans u4)).suite he4 hd4 na nL nF
      refine wpAny_mono ((hsu ea oe4 cls d (X.pn ++ pins) hz4 ⟨_, hd4⟩).run [] _ _ H' _ S4 (yes rfl ea na)) (fun f s6 q => ?_) (fun _ _ z => z.elim)
      cases f with
      | ret u => obtain ⟨v, τ6, H6, S6, r6, q6⟩ := q; exact ⟨v, τ6, H6, S6.unsuite ok, r6, q6⟩
      | next => obtain ⟨τ6, H6, S6, q6⟩ := q; exact ⟨τ6, H6, S6.unsuite ok, q6⟩
      | brk => obtain ⟨τ6, H6, S6, q6⟩ := q; exact ⟨τ6, H6, S6.unsuite ok, q6⟩
      | cont => obtain ⟨τ6, H6, S6, q6⟩ := q; exact ⟨τ6, H6, S6.unsuite ok, q6⟩
  | @named x n i cl ts s0 suite np hp hds2 l2 hn hi hl hsu r ih =>
    rintro ⟨b, hb, yes, no⟩
    obtain ⟨oe3, vs3, he3, hz3, hd3⟩ := fl.there
    have S3 := J3.suite he3 hd3 na nL nF
    refine wpAny_handleBy_cons (codeAny_handlers_test ?_) (by intro q; cases q)
    have LT : PySem.W.Looks (model X.prog X.w) h3 (typeOf (.ref ea)) cls := fun _ _ _ _ kp q => wpAny_typeOf_ref (kp _ _ he3) (by rw [hz3.1]; exact q)
    have ask := PySem.W.exm_one (M := model X.prog X.w) J3.kIn LT hb
    have name : ∀ {Q : Value → Shared → Prop} {E : Value → Shared → Prop}, Q cl { s2 with heap := h3 } → wpAny (model X.prog X.w) (X.A.mark (some (.ref ea))) (eval (.Name x np) X.env) Q E { s2 with heap := h3 } := fun q => by
      obtain ⟨hg, hdb, hm | ⟨hm, hv, hx⟩⟩ := hn
      · exact ld_glob (X := X.suite ea ((ea, oe3) :: (X.pn ++ pins))) S3 hg hm q hdb
      · exact ld_blt (X := X.suite ea ((ea, oe3) :: (X.pn ++ pins))) S3 hg hm hv q hx hdb
    refine name (ask.here ?_)
    cases b with
    | false => exact ih (no rfl)
    | true =>
      refine codeAny_handlers_suite_as (HandSPX.lands_againZ fl fun h4 fl4 u4 => ?_)
      obtain ⟨oe4, vs4, he4, hz4, hd4⟩ := fl4.there
      have S4 := (land fl4 (up.trans u4)).suite he4 hd4 na nL nF
      refine store_ok (X := X.suite ea ((ea, oe4) :: (X.pn ++ pins))) (v := .ref ea) S4 hN hi (.inl hl) rfl (fun s5 S5 => ?_) (.inr hl)
      refine wpAny_mono ((hsu ea oe4 cls d (X.pn ++ pins) hz4 ⟨_, hd4⟩).run [] s5 _ H' _ S5 (yes rfl ea na)) (fun f s6 q => ?_) (fun _ _ z => z.elim)
      have behind : ∀ {τ6 : L2.St} {H6 : Hp} {Q : Shared → Prop}, Inv (X.suite ea ((ea, oe4) :: (X.pn ++ pins))) [] τ6 H6 s6 → (∀ s7, Inv X pins (τ6.set i none) H6 s7 → Q s7) →
          wpAny (model X.prog X.w) X.A (do bindName X.env n .none; unbindBehindTheSuite X.env n hp) (fun _ s7 => Q s7) X.xe s6 := fun S6 z => gone_ok (S6.unsuite ok) hN hi hl z
      cases f with
      | ret u => obtain ⟨v, τ6, H6, S6, r6, q6⟩ := q; exact behind S6 fun s7 J7 => ⟨v, _, H6, J7, r6, q6⟩
      | next => obtain ⟨τ6, H6, S6, q6⟩ := q; exact behind S6 fun s7 J7 => ⟨_, H6, J7, q6⟩
      | brk => obtain ⟨τ6, H6, S6, q6⟩ := q; exact behind S6 fun s7 J7 => ⟨_, H6, J7, q6⟩
      | cont => obtain ⟨τ6, H6, S6, q6⟩ := q; exact behind S6 fun s7 J7 => ⟨_, H6, J7, q6⟩
theorem ps_mix (hs : X.stack = X.env :: X.outer) (hf : X.env.frame = some X.env.locals) (hN : X.N.Nodup) (tk : Takes X Wout)
    (hb : ∀ (W : WX) (pn : List (Addr × Obj)) (xe : Value → Shared → Prop), Takes (X.tr pn xe) W → PassesOwn (model X.prog X.w) X.A X.env xe → PSs (X.tr pn xe) body (tb W))
    (hh : MixOk X (hd0 :: hds) l) : PS X (.Try body (hd0 :: hds) [] [] pos) (fun D τ H => tb (wMix X.K Wout D l) D τ H) := by
  refine ⟨fun pins s τ H D I h => ?_⟩
  have ok := I.ok
  have hfr : X.A.frames = some (X.env :: X.outer) := by rw [ok.frames, hs]
  refine wpAny_Try_except ?_
  have run := (hb (wMix X.K Wout D l) (X.pn ++ pins) (fun e s1 => wpAny (model X.prog X.w) X.A (noteFrame e X.env) (fun _ s2 => wpAny (model X.prog X.w) X.A (setFlight e none) (fun _ s3 =>
    wpAny (model X.prog X.w) X.A (handleBy e X.env (hd0 :: hds)) (SP X pins D) X.xe s3) X.xe s2) X.xe s1) ?_ PassesOwn.looking).run [] s τ H D (I.toTry _) h
  · refine wpAny_mono run (fun f s1 q => ?_) fun _ _ z => z
    cases f with
    | next => obtain ⟨τ', H', J, q⟩ := q; exact wpAny_execs_nil ⟨τ', H', J.ofTry ok, q⟩
    | brk => obtain ⟨τ', H', J, q⟩ := q; exact ⟨τ', H', J.ofTry ok, q⟩
    | cont => obtain ⟨τ', H', J, q⟩ := q; exact ⟨τ', H', J.ofTry ok, q⟩
    | ret u => obtain ⟨v, τ', H', J, r, q⟩ := q; exact ⟨v, τ', H', J.ofTry ok, r, q⟩
  · rintro u s2 ⟨ea, Bh, sI, pins', τ', H', cls, d, rfl, J', nb, up, sky, na, os, ag, w⟩
    rw [hs] at sky
    show wpAny (model X.prog X.w) X.A (noteFrame (.ref ea) X.env) _ _ _
    refine Sky.land Zc.steady hfr hf sky fun h3 fl u3 => ?_
    obtain ⟨oe3, vs3, he3, _, hd3⟩ := fl.there
    have apart : ea ∉ frs (X.env :: X.outer) := fun hm => by
      obtain ⟨_, o', e', hnf⟩ := fl.2.2.1.mem hm
      rw [he3] at e'; cases e'
      exact hnf _ hd3
    refine mix_go hs hf hN tk ok (J'.ofTry ok) nb (up.trans u3) os ag na fl (fun z => apart (List.mem_filterMap.mpr ⟨X.env, List.mem_cons_self, by rw [hf, z]⟩)) (fun hm => ?_) hh w
    obtain ⟨e, he, q⟩ := List.mem_filterMap.mp hm
    exact apart (List.mem_filterMap.mpr ⟨e, List.mem_cons_of_mem _ he, q⟩)
end
end MV

namespace MV
open PySem PySem.Spec PyProof.Rows L2

/-! ## Trees without a held exception -/
mutual
def noX : T → Bool
  | .hole => true
  | .v _ => true
  | .tup l => noXs l
  | .lst l => noXs l
  | .own l => noXs l
  | .kl l => noXs l
  | .ins _ _ l => noXs l
  | .oin _ _ l => noXs l
  | .xc _ _ _ => false
def noXs : List T → Bool
  | [] => true
  | t :: ts => noX t && noXs ts
end
section
variable {K : PySem.W.Frag} {mg : Str → Option Value} {ex ex' : Option (Addr × Addr × Option Addr)} {F H : Hp}
mutual
theorem rep_ex (h0 : ex = none ∨ True) : ∀ {t : T} {x : V} {O : List Addr}, (ex = none ∨ noX t = true) → rep ⟨K, mg, ex⟩ F H t x O → rep ⟨K, mg, ex'⟩ F H t x O
  | .hole, x, O, c, h => by simp only [rep] at h ⊢; exact h
  | .v _, x, O, c, h => by simp only [rep] at h ⊢; exact h
  | .tup l, x, O, c, h => by
    simp only [rep] at h ⊢
    obtain ⟨h1, a, vs, h2, h3, h4⟩ := h
    exact ⟨h1, a, vs, h2, h3, reps_ex h0 (c.imp id fun z => by simpa only [noX] using z) h4⟩
  | .lst l, x, O, c, h => by
    simp only [rep] at h ⊢
    obtain ⟨h1, a, vs, h2, h3, h4⟩ := h
    exact ⟨h1, a, vs, h2, h3, reps_ex h0 (c.imp id fun z => by simpa only [noX] using z) h4⟩
  | .kl l, x, O, c, h => by
    simp only [rep] at h ⊢
    obtain ⟨h1, a, vs, h2, h3, h4⟩ := h
    exact ⟨h1, a, vs, h2, h3, reps_ex h0 (c.imp id fun z => by simpa only [noX] using z) h4⟩
  | .own l, x, O, c, h => by
    simp only [rep] at h ⊢
    obtain ⟨a, vs, O', h1, h2, h3, h4, h5⟩ := h
    exact ⟨a, vs, O', h1, h2, h3, h4, reps_ex h0 (c.imp id fun z => by simpa only [noX] using z) h5⟩
  | .ins C ns l, x, O, c, h => by
    simp only [rep] at h ⊢
    obtain ⟨h1, hn, a, dx, Ca, vs, h2, h3, h4, h5⟩ := h
    exact ⟨h1, hn, a, dx, Ca, vs, h2, h3, h4, reps_ex h0 (c.imp id fun z => by simpa only [noX] using z) h5⟩
  | .oin C ns l, x, O, c, h => by
    simp only [rep] at h ⊢
    obtain ⟨hn, a, dx, Ca, vs, O', h1, h2, h3, h4, h5, h6⟩ := h
    exact ⟨hn, a, dx, Ca, vs, O', h1, h2, h3, h4, h5, reps_ex h0 (c.imp id fun z => by simpa only [noX] using z) h6⟩
  | .xc C ns l, x, O, c, h => by
    simp only [rep] at h
    obtain ⟨_, _, a, Ca, dx, vs, _, h3, _⟩ := h
    rcases c with c | c
    · rw [c] at h3; cases h3
    · simp [noX] at c
theorem reps_ex (h0 : ex = none ∨ True) : ∀ {l : List T} {vs : List V} {O : List Addr}, (ex = none ∨ noXs l = true) → reps ⟨K, mg, ex⟩ F H l vs O → reps ⟨K, mg, ex'⟩ F H l vs O
  | [], vs, O, c, h => by simp only [reps] at h ⊢; exact h
  | t :: ts, vs, O, c, h => by
    simp only [reps] at h ⊢
    obtain ⟨x, xs, O1, O2, h1, h2, h3, h4⟩ := h
    have c1 : ex = none ∨ noX t = true := c.imp id fun z => by simp only [noXs, Bool.and_eq_true] at z; exact z.1
    have c2 : ex = none ∨ noXs ts = true := c.imp id fun z => by simp only [noXs, Bool.and_eq_true] at z; exact z.2
    exact ⟨x, xs, O1, O2, h1, h2, rep_ex h0 c1 h3, reps_ex h0 c2 h4⟩
end
theorem Sta.chg {bor : Option V} {τ : L2.St} {σ : List T} {O : List Addr} (s : Sta ⟨K, mg, ex⟩ bor F H τ σ O) (c : ex = none ∨ noXs σ = true) : Sta ⟨K, mg, ex'⟩ bor F H τ σ O := by
  obtain ⟨vs, r, hv⟩ := s.vals
  exact ⟨s.sub, s.nd, s.len, ⟨vs, reps_ex (.inr trivial) c r, hv⟩, s.bor⟩
end

/-! ## try -/
abbrev MCl := Str × Option Nat × (List T → SRes)
def noE : SRes → SRes
  | .exc _ _ _ _ => .stuck
  | r => r
def cleanS (i : Nat) : SRes → SRes
  | .nx σ => if noXs (σ.set i .hole) then .nx (σ.set i .hole) else .stuck
  | .bk σ => if noXs (σ.set i .hole) then .bk (σ.set i .hole) else .stuck
  | .ct σ => if noXs (σ.set i .hole) then .ct (σ.set i .hole) else .stuck
  | .rt t σ => if noX t && noXs (σ.set i .hole) then .rt t (σ.set i .hole) else .stuck
  | _ => .stuck
def hnd (rel : Str → Str → Option Bool) (C : Str) (ns : List Str) (ts : List T) : List MCl → List T → SRes
  | [], σ => .exc C ns ts σ
  | (cn, o, m) :: r, σ => match rel C cn with
    | some true => (match o with
      | none => noE (m σ)
      | some i => if ns.isEmpty || !decide (i < σ.length) then .stuck else cleanS i (m (σ.set i (.xc C ns ts))))
    | some false => hnd rel C ns ts r σ
    | none => .stuck
def mTry (rel : Str → Str → Option Bool) (body : List T → SRes) (cls : List MCl) : List T → SRes := fun σ =>
  match body σ with
  | .exc C ns ts σ1 => hnd rel C ns ts cls σ1
  | r => r
/-- the context of a suite that holds the exception at a -/
def suiteC (c : Ct) (a Ca : Addr) (d : Option Addr) : Ct := ⟨⟨c.e.K, c.e.mg, some (a, Ca, d)⟩, c.bor, fun _ _ _ _ => False⟩
inductive MxOk (X : Cx) (c : Ct) : List ExceptHandler → List MCl → List Clause → Prop
  | nil : MxOk X c [] [] []
  | only {x : Str} {cl : Value} {m : List T → SRes} {s0 : Stmt} {suite : List Stmt} {np hp : Pos} {hds : List ExceptHandler} {ms : List MCl} {l : List Clause} (hn : Names X x cl) (hm : X.mg x = some cl)
      (hsu : ∀ (a : Addr) (oe : Obj) (Ca : Addr) (d : Option Addr) (pn : List (Addr × Obj)), Zc (.ref Ca) d oe → (∃ vs, oe.data = .fields vs) → PSs (X.suite a ((a, oe) :: pn)) (s0 :: suite) (tS (quiet c) m)) (r : MxOk X c hds ms l) :
      MxOk X c (.ExceptHandler (some (.Name x np)) none (s0 :: suite) hp :: hds) ((x, none, m) :: ms) ((cl, none, fun _ cls _ => fun D τ H => (∃ Ca, cls = .ref Ca) ∧ tS (quiet c) m D τ H) :: l)
  | named {x n : Str} {i : Nat} {cl : Value} {m : List T → SRes} {s0 : Stmt} {suite : List Stmt} {np hp : Pos} {hds : List ExceptHandler} {ms : List MCl} {l : List Clause} (hn : Names X x cl) (hm : X.mg x = some cl) (hi : X.N[i]? = some n) (hl : X.env.kindOf n = some .local) (ok : slotOk c i)
      (hsu : ∀ (a : Addr) (oe : Obj) (Ca : Addr) (d : Option Addr) (pn : List (Addr × Obj)), Zc (.ref Ca) d oe → (∃ vs, oe.data = .fields vs) → PSs (X.suite a ((a, oe) :: pn)) (s0 :: suite) (tS (suiteC c a Ca d) m)) (r : MxOk X c hds ms l) :
      MxOk X c (.ExceptHandler (some (.Name x np)) (some n) (s0 :: suite) hp :: hds) ((x, some i, m) :: ms) ((cl, some i, fun a cls d => fun D τ H => ∃ Ca, cls = .ref Ca ∧ tS (suiteC c a Ca d) m D τ H) :: l)
section
variable {X : Cx} {c : Ct}
theorem MxOk.mix {hds : List ExceptHandler} {ms : List MCl} {l : List Clause} (h : MxOk X c hds ms l) : MixOk X hds l := by
  induction h with
  | nil => exact .nil
  | only hn hm hsu r ih =>
    refine .only hn (fun a oe cls d pn hz hd => ⟨fun p s τ H D I q => ?_⟩) ih
    obtain ⟨⟨Ca, rfl⟩, q⟩ := q
    exact (hsu a oe Ca d pn hz hd).run p s τ H D I q
  | named hn hm hi hl ok hsu r ih =>
    refine .named hn hi hl (fun a oe cls d pn hz hd => ⟨fun p s τ H D I q => ?_⟩) ih
    obtain ⟨Ca, rfl, q⟩ := q
    exact (hsu a oe Ca d pn hz hd).run p s τ H D I q
theorem hnd_ok {rel : Str → Str → Option Bool} (he : c.e = ⟨X.K, X.mg, none⟩) (hrel : ∀ C cn Ca cl b, rel C cn = some b → X.mg C = some (.ref Ca) → X.mg cn = some cl → PySem.W.exmOne X.K (.ref Ca) cl = some b)
    {F H F1 H1 : Hp} {O O1 : List Addr} {D : Ends} {τ : L2.St} {σ : List T} {C : Str} {ns : List Str} {ts : List T} {Ca : Addr} {d : Option Addr} (st : Sta c.e c.bor F1 H1 τ σ O1) (stp : Stp F H O F1 H1 O1) (xr : XR c.e F1 H1 C ns ts Ca d) :
    ∀ {hds : List ExceptHandler} {ms : List MCl} {l : List Clause}, MxOk X c hds ms l → SPost c F H O D (hnd rel C ns ts ms σ) → wMix X.K c.W D l (.ref Ca) d τ H1 := by
  intro hds ms l h
  have hC : X.mg C = some (.ref Ca) := by have := xr.1; rw [he] at this; exact this
  induction h with
  | nil => exact fun p => p τ F1 H1 O1 Ca d st stp xr
  | @only x cl m s0 suite np hp hds ms l hn hm hsu r ih =>
    intro p
    simp only [hnd] at p
    cases q : rel C x with
    | none => rw [q] at p; exact p.elim
    | some b =>
      refine ⟨b, hrel C x Ca cl b q hC hm, fun hb a ha => ?_, fun hb => ?_⟩
      · subst hb
        simp only [q] at p
        refine ⟨⟨Ca, rfl⟩, F1, σ, O1, st, ?_⟩
        cases z : m σ with
        | nx σ' => rw [z] at p; exact fun τ' F' H' O' a b => p τ' F' H' O' a (stp.tr b (fun _ h => h) fun _ h => .inl h)
        | bk σ' => rw [z] at p; exact fun τ' F' H' O' a b => p τ' F' H' O' a (stp.tr b (fun _ h => h) fun _ h => .inl h)
        | ct σ' => rw [z] at p; exact fun τ' F' H' O' a b => p τ' F' H' O' a (stp.tr b (fun _ h => h) fun _ h => .inl h)
        | rt t σ' => rw [z] at p; exact fun τ' F' H' O' x P a r n b => p τ' F' H' O' x P a r n (stp.tr b (fun _ h => h) fun _ h => .inl h)
        | exc _ _ _ _ => rw [z] at p; exact p.elim
        | stuck => rw [z] at p; exact p.elim
      · subst hb
        simp only [q] at p
        exact ih p
  | @named x n i cl m s0 suite np hp hds ms l hn hm hi hl ok hsu r ih =>
    intro p
    simp only [hnd] at p
    cases q : rel C x with
    | none => rw [q] at p; exact p.elim
    | some b =>
      refine ⟨b, hrel C x Ca cl b q hC hm, fun hb a ha => ?_, fun hb => ?_⟩
      · subst hb
        simp only [q] at p
        split at p
        · exact p.elim
        · rename_i hg
          simp only [Bool.or_eq_true, Bool.not_eq_true', decide_eq_false_iff_not, not_or, Decidable.not_not, Bool.not_eq_true] at hg
          obtain ⟨hne, hlt⟩ := hg
          obtain ⟨_, hlen, hx⟩ := xr
          rcases hx with ⟨z, _⟩ | ⟨dx, vs, rfl, hF, hr⟩
          · subst z; simp at hne
          · have st1 : Sta (suiteC c a Ca (some dx)).e c.bor F1 H1 τ σ O1 := by
              have st' := st
              rw [he] at st'
              have := st'.chg (ex' := some (a, Ca, some dx)) (.inl rfl)
              simpa only [suiteC, he] using this
            have rx : rep (suiteC c a Ca (some dx)).e F1 H1 (.xc C ns ts) (.ref a) [] := by
              simp only [rep]
              refine ⟨trivial, hlen, a, Ca, dx, vs, rfl, rfl, by simp only [suiteC, he]; exact hC, hF, ?_⟩
              rw [he] at hr
              have := reps_ex (ex' := some (a, Ca, some dx)) (.inr trivial) (.inl rfl) hr
              simpa only [suiteC, he] using this
            obtain ⟨O2, st2, m2⟩ := st1.put (c := suiteC c a Ca (some dx)) rx (by simpa using st1.nd) hlt ok
            have stp2 : Stp F H O F1 H1 O2 := stp.sub_own fun z hz => by simpa using m2 z hz
            refine ⟨Ca, rfl, F1, _, O2, st2, ?_⟩
            have back : ∀ {τ' : L2.St} {F' H' : Hp} {σ' : List T} {O' : List Addr}, Sta (suiteC c a Ca (some dx)).e c.bor F' H' τ' σ' O' → noXs (σ'.set i .hole) = true → ∃ O'', Sta c.e c.bor F' H' (τ'.set i none) (σ'.set i .hole) O'' ∧ ∀ z ∈ O'', z ∈ O' := fun {τ' F' H' σ' O'} s hx => by
              obtain ⟨O'', s', m'⟩ := s.forget (c := suiteC c a Ca (some dx)) (v := i) ok none
              refine ⟨O'', ?_, m'⟩
              have s'' : Sta ⟨X.K, X.mg, some (a, Ca, some dx)⟩ c.bor F' H' (τ'.set i none) (σ'.set i .hole) O'' := by simpa only [suiteC, he] using s'
              rw [he]
              exact s''.chg (.inr hx)
            cases z : m (σ.set i (.xc C ns ts)) with
            | nx σ' =>
              rw [z] at p
              simp only [cleanS] at p
              split at p
              · rename_i hx
                intro τ' F' H' O' s b
                obtain ⟨O'', s', m'⟩ := back s hx
                exact p _ F' H' O'' s' ((stp2.tr b (fun _ h => h) fun _ h => .inl h).sub_own m')
              · exact p.elim
            | bk σ' =>
              rw [z] at p
              simp only [cleanS] at p
              split at p
              · rename_i hx
                intro τ' F' H' O' s b
                obtain ⟨O'', s', m'⟩ := back s hx
                exact p _ F' H' O'' s' ((stp2.tr b (fun _ h => h) fun _ h => .inl h).sub_own m')
              · exact p.elim
            | ct σ' =>
              rw [z] at p
              simp only [cleanS] at p
              split at p
              · rename_i hx
                intro τ' F' H' O' s b
                obtain ⟨O'', s', m'⟩ := back s hx
                exact p _ F' H' O'' s' ((stp2.tr b (fun _ h => h) fun _ h => .inl h).sub_own m')
              · exact p.elim
            | rt t σ' =>
              rw [z] at p
              simp only [cleanS] at p
              split at p
              · rename_i hx
                simp only [Bool.and_eq_true] at hx
                intro τ' F' H' O' x P s rx n b
                obtain ⟨O'', s', m'⟩ := back s hx.2
                refine p _ F' H' O'' x P s' ?_ (nd_app s'.nd (List.nodup_append.mp n).2.1 fun z hz hy => nd_disj n z hz (m' z hy)) ((stp2.tr b (fun _ h => h) fun _ h => .inl h).sub_own fun z hz => ?_)
                · have rx' : rep ⟨X.K, X.mg, some (a, Ca, some dx)⟩ F' H' t x P := by simpa only [suiteC, he] using rx
                  rw [he]
                  exact rep_ex (.inr trivial) (.inr hx.1) rx'
                · rcases List.mem_append.mp hz with y | y
                  · simp [m' z y]
                  · simp [y]
              · exact p.elim
            | exc _ _ _ _ => rw [z] at p; exact p.elim
            | stuck => rw [z] at p; exact p.elim
      · subst hb
        simp only [q] at p
        exact ih p
theorem s_try {rel : Str → Str → Option Bool} {body : List Stmt} {mb : List T → SRes} {h0 : ExceptHandler} {hds : List ExceptHandler} {ms : List MCl} {l : List Clause} {pos : Pos} (he : c.e = ⟨X.K, X.mg, none⟩)
    (hrel : ∀ C cn Ca cl b, rel C cn = some b → X.mg C = some (.ref Ca) → X.mg cn = some cl → PySem.W.exmOne X.K (.ref Ca) cl = some b)
    (hs : X.stack = X.env :: X.outer) (hf : X.env.frame = some X.env.locals) (hN : X.N.Nodup) (tk : Takes X c.W)
    (hb : ∀ (W : WX) (pn : List (Addr × Obj)) (xe : Value → Shared → Prop), Takes (X.tr pn xe) W → PassesOwn (model X.prog X.w) X.A X.env xe → PSs (X.tr pn xe) body (tS { c with W := W } mb)) (hh : MxOk X c (h0 :: hds) ms l) :
    PS X (.Try body (h0 :: hds) [] [] pos) (tS c (mTry rel mb ms)) :=
  (ps_mix (tb := fun W => tS { c with W := W } mb) hs hf hN tk hb hh.mix).wk fun D τ H h => by
    obtain ⟨F, σ, O, st, p⟩ := h
    refine ⟨F, σ, O, st, ?_⟩
    unfold mTry at p
    cases q : mb σ with
    | nx σ' => rw [q] at p; exact p
    | bk σ' => rw [q] at p; exact p
    | ct σ' => rw [q] at p; exact p
    | rt t σ' => rw [q] at p; exact p
    | stuck => rw [q] at p; exact p
    | exc C ns ts σ' =>
      rw [q] at p
      exact fun τ' F' H' O' Ca d s t x => hnd_ok he hrel s t x hh p
/-- err.f -/
def mXf (i : Nat) (nm f : Str) : List T → Res T := fun σ =>
  match σ[i]? with
  | some (.xc C ns ts) => if C = nm then (match (ns.zip ts).lookup f with
    | some t => .ok t σ
    | none => .stuck) else .stuck
  | _ => .stuck
theorem zip_lk {e : En} {F H : Hp} {f : Str} : ∀ {ns : List Str} {ts : List T} {vs : List V} {t : T}, reps e F H ts vs [] → (ns.zip ts).lookup f = some t → ∃ v, (ns.zip vs).lookup f = some v ∧ rep e F H t v []
  | [], ts, vs, t, r, h => by simp at h
  | n :: ns, [], vs, t, r, h => by simp at h
  | n :: ns, u :: ts, vs, t, r, h => by
    simp only [reps] at r
    obtain ⟨x, xs, O1, O2, rfl, e0, r1, r2⟩ := r
    obtain ⟨rfl, rfl⟩ := List.append_eq_nil_iff.mp e0.symm
    simp only [List.zip_cons_cons, List.lookup] at h ⊢
    cases q : f == n with
    | true => rw [q] at h; cases h; exact ⟨x, rfl, r1⟩
    | false => rw [q] at h; exact zip_lk r2 h
theorem e_xfld {nm f : Str} {i : Nat} {fI : Addr} {C : Addr} {ns0 : List Str} {a : Addr} {oe : Obj} {Ca : Addr} {d : Option Addr} {pn : List (Addr × Obj)} {e : Expr} {pos : Pos} {c' : Ct} (T : MVX.Xt X.prog X.K X.mg nm C fI ns0) (hf : f ∈ ns0)
    (hc' : c'.e = ⟨X.K, X.mg, some (a, Ca, d)⟩) (hz : Zc (.ref Ca) d oe) (hd : ∃ vs, oe.data = .fields vs) (he : PE (X.suite a ((a, oe) :: pn)) e (tVar i)) (hb : attributeBase e f X.env (eval e X.env) = eval e X.env := by rfl) :
    PE (X.suite a ((a, oe) :: pn)) (.Attribute e f pos) (tE c' (mXf i nm f)) := by
  refine ⟨fun pins s τ H Q I h => ?_⟩
  obtain ⟨F, σ, O, st, p⟩ := h
  unfold mXf at p
  split at p
  · rename_i Cn ns ts q
    split at p
    · rename_i hCn
      subst hCn
      split at p
      · rename_i t qt
        obtain ⟨x, Ot, e1, rt, _⟩ := (Mid.start (c := c') st).slot q rfl
        simp only [rep] at rt
        obtain ⟨rfl, hl, a', Ca', dx, vs, rfl, hx, hmg, hF, rts⟩ := rt
        rw [hc'] at hx hmg
        cases hx
        have : C = Ca := by
          have h1 := T.gC
          have hmg' : X.mg Cn = some (.ref Ca) := hmg
          rw [h1] at hmg'
          cases hmg'
          all_goals rfl
        subst this
        refine attr_of hb (thn (he.run pins s τ H (fun y H' => y = V.ref a ∧ H' = H) I ⟨_, e1, ⟨rfl, rfl⟩⟩) fun u s1 hh => ?_)
        obtain ⟨y, H1, I1, ry, ey⟩ := hh
        obtain ⟨rfl, rfl⟩ : y = V.ref a ∧ H1 = H := ey
        obtain rfl : u = Value.ref a := ry
        obtain ⟨v, lv, rv⟩ := zip_lk rts qt
        obtain ⟨ha, _⟩ := I1.pin (a, oe) (List.mem_append_left _ List.mem_cons_self)
        obtain ⟨ws, hdat⟩ := hd
        have ho : ObjOk X.prog X.w H1 s1.heap dx (.xd (ns.zip vs)) := I1.hok dx _ (st.sub _ _ hF)
        obtain ⟨mA, hns, hr⟩ := ho
        obtain ⟨od, hod, hlk⟩ := lookIn_ns hns
        obtain ⟨u, hu, ru⟩ := RelO.some_of (v := v) (o := mA f) (by rw [← lv]; exact hr f)
        have J : PySem.W.InstAt s1.heap a oe C (some od) := ⟨ha, hz.1, by unfold PySem.W.notCls; rw [hdat] <;> rfl, by rw [hz.2]; exact hod⟩
        refine HandSPX.exc_get I1.kIn J T.ga T.gg T.exC (PySem.W.findObj_own T.hdC (T.noN f hf) rfl (by rw [hlk, hu])) (handed_of ru) ⟨v, H1, I1.tok _, ru, ?_⟩
        exact p F H1 O v [] st rv (by simpa using st.nd) (Stp.rfl (by simp))
      · exact p.elim
    · exact p.elim
  · exact p.elim
end
end MV

namespace MV
open PySem PySem.Spec PyProof.Rows L2

/-! ## Chained comparison, of plain values -/
def mChain (s s' : OS) (f g h : List T → Res T) : List T → Res T := fun σ => (f σ).bind fun t σ1 => (g σ1).bind fun u σ2 =>
  match t, u, s t u with
  | .v _, .v _, some (.v (.bl k)) => if k then (h σ2).bind fun w σ3 => (match w, s' u w with
    | .v _, some (.v z) => .ok (.v z) σ3
    | _, _ => .stuck) else .ok (.v (.bl false)) σ2
  | _, _, _ => .stuck
section
variable {X : Cx} {c : Ct} {a b d : Expr} {f g h : List T → Res T} {pos : Pos}
theorem chain_wk {r r' : R2} {s s' : OS} (ok : OpOk c.e r s) (ok' : OpOk c.e r' s') (τ : L2.St) (H : Hp) (Q : VK) (hh : tE c (mChain s s' f g h) τ H Q) : tChain r r' (tE c f) (tE c g) (tE c h) τ H Q := by
  obtain ⟨F, σ, O, st, p⟩ := hh
  refine Tm.mono ((Mid.start st).run (by simp) (g := f) p) fun x H1 ⟨t, σ1, F1, O1, P1, m1, r1, s1, p1⟩ => ?_
  refine Tm.mono (m1.run (by simpa using rep_some r1) (g := g) p1) fun y H2 ⟨u, σ2, F2, O2, P2, m2, r2, s2, p2⟩ => ?_
  split at p2
  · rename_i x0 y0 k _ q
    obtain ⟨rfl, rfl⟩ := rep_v r1
    obtain ⟨rfl, rfl⟩ := rep_v r2
    show r _ _ H2 _
    refine ok F2 H2 [] [] [] _ _ _ _ _ _ m2.st.sub rep_v' rep_v' (by simp) (by simp) (by simp) (by simp) (by simp) (by simp) (by simp) q fun F' H' z P' al rz => ?_
    obtain ⟨rfl, rfl⟩ := rep_v rz
    have m3 := m2.alc (P := []) (by simpa using al)
    refine ⟨k, rfl, ?_⟩
    cases k with
    | false => exact m3.fin p2 rep_v' (by simp) (by simp)
    | true =>
      refine Tm.mono (m3.run (by simp) (g := h) p2) fun v H4 ⟨w, σ3, F4, O4, P4, m4, r4, s4, p4⟩ => ?_
      split at p4
      · rename_i v0 z q'
        obtain ⟨rfl, rfl⟩ := rep_v r4
        refine ok' F4 H4 [] [] [] _ _ _ _ _ _ m4.st.sub rep_v' rep_v' (by simp) (by simp) (by simp) (by simp) (by simp) (by simp) (by simp) q' fun F' H' z P' al rz => ?_
        obtain ⟨rfl, rfl⟩ := rep_v rz
        exact (m4.alc (P := []) (by simpa using al)).fin p4 rep_v' (by simp) (by simp)
      · exact p4.elim
  · exact p2.elim
theorem e_chain {op op' : CmpOp} {r r' : R2} {s s' : OS} (ho : OpR X (compareOp op) r) (ho' : OpR X (compareOp op') r') (ok : OpOk c.e r s) (ok' : OpOk c.e r' s') (ha : PE X a (tE c f)) (hb : PE X b (tE c g)) (hd : PE X d (tE c h))
    (hm : lastMarks [op, op'] [b, d] = false := by with_unfolding_all rfl) : PE X (.Compare a [op, op'] [b, d] pos) (tE c (mChain s s' f g h)) := (pe_chain ho ho' ha hb hd hm).wk (chain_wk ok ok')
theorem t_chain {op op' : CmpOp} {r r' : R2} {s s' : OS} (ho : OpR X (compareOp op) r) (ho' : OpR X (compareOp op') r') (ok : OpOk c.e r s) (ok' : OpOk c.e r' s') (ha : PE X a (tE c f)) (hb : PE X b (tE c g)) (hd : PE X d (tE c h))
    (hm : lastMarks [op, op'] [b, d] = false := by with_unfolding_all rfl) : PT X (.Compare a [op, op'] [b, d] pos) (tT c (mBl (mChain s s' f g h))) := (pt_chain ho ho' ha hb hd hm).wk fun τ H Q h => tTest_mono (chain_wk ok ok') (test_wk τ H Q h)
end
end MV

namespace MV
open PySem PySem.Spec PyProof.Rows L2

/-! ## Small joins for printed derivations -/
section
variable {X : Cx} {c : Ct} {e : En}
theorem op_plus : OpR X (binaryOp .Add) (rOr (rI0 fun i j => .int (i + j)) (rOr rCat (rOr (rCatA X.K) (fun x y H Q => ∃ i j, x = .str i ∧ y = .str j ∧ i.length + j.length ≤ sizeLine ∧ Q (.str (i ++ j)) H)))) :=
  MV.OpR.or op_add (MV.OpR.or op_cat (MV.OpR.or op_catA op_add_str))
theorem ok_plus {K : PySem.W.Frag} (hK : e.K = K) : OpOk e (rOr (rI0 fun i j => .int (i + j)) (rOr rCat (rOr (rCatA K) (fun x y H Q => ∃ i j, x = .str i ∧ y = .str j ∧ i.length + j.length ≤ sizeLine ∧ Q (.str (i ++ j)) H)))) sPlus :=
  ok_add.or (ok_catL.or ((ok_catT hK).or ok_catS))
theorem op_times : OpR X (binaryOp .Mult) (rOr (rI CMulW fun i j => .int (i * j)) rRep) := MV.OpR.or op_mulW op_rep
theorem ok_times : OpOk e (rOr (rI CMulW fun i j => .int (i * j)) rRep) sTimes := ok_mul.or ok_rep
theorem t_if1 {a : Expr} {f : List T → Res Bool} (h : PT X a (tT c f)) : PTs X [a] (tT c f) := pts_one h
theorem nm_of {x : Str} {v : Value} (hg : Gl X x) (hm : X.mg x = some v) (hd : (x == ("__debug__" : Str)) = false := by decide) : Names X x v := ⟨hg, hd, .inl hm⟩
end
end MV

namespace MV
open PySem PySem.Spec PyProof.Rows L2

/-! ## x[i][j] = e and x[i][j] op= e: a cell that is a place of a cell -/
theorem set_same {α : Type} : ∀ {l : List α} {i : Nat} {x : α}, l[i]? = some x → l.set i x = l
  | [], _, _, h => by simp at h
  | y :: ys, 0, x, h => by cases h; all_goals rfl
  | y :: ys, i + 1, x, h => by
    rw [List.set_cons_succ, set_same (by simpa using h)]
theorem own_set2 {e : En} {F H : Hp} {l l' : List T} {vs : List V} {O' Pt : List Addr} {p : Addr} {i m : Nat} {t : T} {y : V} (fp : F p = none) (hp : H p = some (.lst vs)) (sb : Sub F H) (g : reps e F H l vs O') (n : (p :: O').Nodup) (hq : l[i]? = some (.own l')) (hm : m < l'.length)
    (r : rep e F H t y Pt) (nt : Pt.Nodup) (d : ∀ a ∈ Pt, a ∉ p :: O') :
    ∃ q ws, vs[i]? = some (.ref q) ∧ H q = some (.lst ws) ∧ F q = none ∧ q ∈ O' ∧ l'.length = ws.length ∧ ∃ O2, rep e F (upd H q (.lst (ws.set m y))) (.own (l.set i (.own (l'.set m t)))) (.ref p) (p :: O2) ∧ (p :: O2).Nodup ∧ ∀ a ∈ O2, a ∈ O' ++ Pt := by
  obtain ⟨y0, A, Oc, B, e1, rfl, r1, back⟩ := reps_split g hq
  obtain ⟨n0, n1⟩ := List.nodup_cons.mp n
  obtain ⟨nA, nc, nB, d1, d2, d3⟩ := nd3 n1
  simp only [rep] at r1
  obtain ⟨q, ws, O'', rfl, rfl, fq, hqq, g1⟩ := r1
  obtain ⟨O3, g3, n3, s3⟩ := own_set (m := m) fq g1 nc hm r nt fun a ha h => d a ha (by simp only [List.mem_cons, List.mem_append] at h ⊢; rcases h with z | z <;> simp [z])
  have hpq : p ≠ q := fun z => n0 (by simp [z])
  have s3' : ∀ a ∈ q :: O3, a ∈ q :: O'' ++ Pt := fun a ha => by
    rcases List.mem_cons.mp ha with z | z
    · simp [z]
    · have := s3 a z
      simp only [List.mem_append, List.mem_cons] at this ⊢
      rcases this with z | z <;> simp [z]
  have ndm : (A ++ (q :: O3) ++ B).Nodup := by
    have disj : ∀ a ∈ q :: O3, a ∉ A ∧ a ∉ B := fun a ha => by
      have := s3' a ha
      rcases List.mem_append.mp this with z | z
      · exact ⟨fun h => d1 a h z, fun h => d3 a z h⟩
      · exact ⟨fun h => d a z (by simp [h]), fun h => d a z (by simp [h])⟩
    exact nd3' n1 n3 disj
  refine ⟨q, ws, e1, hqq, fq, by simp, reps_len g1, A ++ (q :: O3) ++ B, ?_, List.nodup_cons.mpr ⟨fun z => ?_, ndm⟩, fun a ha => ?_⟩
  · simp only [rep]
    have b := back (F' := F) (H' := upd H q (.lst (ws.set m y))) (t' := .own (l'.set m t)) (x' := .ref q) (Ot' := q :: O3) Sub.rfl (fun a ha => ⟨upd_ne fun z => ?_, (reps_at g a (by rcases List.mem_append.mp ha with z | z <;> simp [z])).1⟩) (by
      simp only [rep]
      exact ⟨q, ws.set m y, O3, rfl, rfl, fq, upd_same, g3⟩)
    · rw [set_same e1] at b
      exact ⟨p, vs, A ++ (q :: O3) ++ B, rfl, rfl, fp, by rw [upd_ne hpq]; exact hp, b⟩
    · subst z
      rcases List.mem_append.mp ha with z | z
      · exact d1 a z (by simp)
      · exact d3 a (by simp) z
  · simp only [List.mem_append] at z
    rcases z with (z | z) | z
    · exact n0 (by simp [z])
    · have := s3' p z
      rcases List.mem_append.mp this with y | y
      · exact n0 (by simp only [List.mem_append]; exact .inl (.inr y))
      · exact d p y (by simp)
    · exact n0 (by simp [z])
  · simp only [List.mem_append] at ha ⊢
    rcases ha with (z | z) | z
    · simp [z]
    · have := s3' a z
      rcases List.mem_append.mp this with y | y
      · exact .inl (.inl (.inr y))
      · exact .inr y
    · simp [z]
section
variable {X : Cx} {c : Ct} {F H F1 H1 : Hp} {O O1 P P1 P2 : List Addr} {D : Ends} {τ : L2.St} {σ σ1 : List T} {k : Nat} {t : T}
theorem Mid.store2 {l l' : List T} {i m : Nat} {x y : V} {Ot Pt P' : List Addr} (md : Mid c F H O τ σ1 F1 H1 O1 P') (r0 : rep c.e F1 H1 (.own l) x Ot) (n0 : Ot.Nodup) (h0 : ∀ a ∈ Ot, a ∈ P') (hq : l[i]? = some (.own l')) (hm : m < l'.length) (hk : k < σ1.length)
    (ex : τ[k]? = some (some x)) (r : rep c.e F1 H1 t y Pt) (nt : Pt.Nodup) (hPt : ∀ a ∈ Pt, a ∈ P') (d : ∀ a ∈ Pt, a ∉ Ot) :
    ∃ p vs q ws, x = .ref p ∧ H1 p = some (.lst vs) ∧ vs[i]? = some (.ref q) ∧ H1 q = some (.lst ws) ∧ l'.length = ws.length ∧ ∃ O2, Mid c F H O τ (σ1.set k (.own (l.set i (.own (l'.set m t))))) F1 (upd H1 q (.lst (ws.set m y))) O2 [] := by
  simp only [rep] at r0
  obtain ⟨p, vs, O', rfl, rfl, fp, hp, g⟩ := r0
  obtain ⟨q, ws, e1, hqq, fq, qm, hl, O2, r2, n2, s2⟩ := own_set2 fp hp md.st.sub g n0 hq hm r nt d
  have nP := (List.nodup_append.mp md.nd).2.1
  have al : Alc F1 H1 P' F1 (upd H1 q (.lst (ws.set m y))) (p :: O2 ++ []) := Alc.wr md.st.sub (h0 q (by simp [qm])) fq nP (by simpa using n2) fun a ha => by
    rcases List.mem_cons.mp (by simpa using ha) with z | z
    · exact h0 a (by simp [z])
    · rcases List.mem_append.mp (s2 a z) with z | z
      · exact h0 a (by simp [z])
      · exact hPt a z
  obtain ⟨O3, m3⟩ := (md.alc al).fill (P1 := p :: O2) (P2 := []) hk ex r2 (by simpa using n2) fun _ h => h
  exact ⟨p, vs, q, ws, rfl, hp, e1, hqq, hl, O3, m3⟩
end
def mSet2 (k : Nat) (g1 g2 f : List T → Res T) : List T → SRes := fun σ => (f σ).sbind fun t σ1 => if live σ1 k then (g1 σ1).sbind fun u σ2 =>
    (match u, σ2[k]? with
    | .v (.int j), some (.own l) => (match ixN l.length j with
      | some i => (match l[i]? with
        | some (.own l') => (g2 (σ2.set k .hole)).sbind fun w σ3 => (match w with
          | .v (.int j2) => (match ixN l'.length j2 with
            | some m => if k < σ3.length then .nx (σ3.set k (.own (l.set i (.own (l'.set m t))))) else .stuck
            | none => .stuck)
          | _ => .stuck)
        | _ => .stuck)
      | none => .stuck)
    | _, _ => .stuck)
  else .stuck
def mAugS2 (k : Nat) (op : Int → Int → Int) (g1 g2 f : List T → Res T) : List T → SRes := fun σ => if live σ k then (g1 σ).sbind fun u σ2 =>
    (match u, σ2[k]? with
    | .v (.int j), some (.own l) => (match ixN l.length j with
      | some i => (match l[i]? with
        | some (.own l') => (g2 (σ2.set k .hole)).sbind fun w σ3 => (match w with
          | .v (.int j2) => (match ixN l'.length j2 with
            | some m => (match l'[m]? with
              | some (.v (.int a)) => (f σ3).sbind fun b σ4 => (match b with
                | .v (.int b) => if k < σ4.length then .nx (σ4.set k (.own (l.set i (.own (l'.set m (.v (.int (op a b)))))))) else .stuck
                | _ => .stuck)
              | _ => .stuck)
            | none => .stuck)
          | _ => .stuck)
        | _ => .stuck)
      | none => .stuck)
    | _, _ => .stuck)
  else .stuck
section
variable {X : Cx} {c : Ct} {k : Nat} {a b d e : Expr} {f g1 g2 : List T → Res T} {pos : Pos}
theorem atI_of {α : Type} {xs : List α} {j : Int} {i : Nat} {x : α} (h : ixN xs.length j = some i) (q : xs[i]? = some x) : atI xs j = some x := by
  unfold atI
  rw [h]
  exact q
theorem s_set2 {tpos p1 : Pos} (hK : c.e.K = X.K) (hf : PE X e (tE c f)) (ho : PE X a (tVar k)) (hi : PE X b (tE c g1)) (hj : PE X d (tE c g2)) (hpl : PlainIx b)
    (hs : swapsWithSole [.Subscript (.Subscript a b p1) d tpos] e pos.line X.env = pure false := by rfl) (hw : swappedStores [.Subscript (.Subscript a b p1) d tpos] e X.env = pure none := by rfl)
    (h1 : (assignEach [.Subscript (.Subscript a b p1) d tpos] X.env).map (·.2) = [assign (.Subscript (.Subscript a b p1) d tpos) X.env] := by rfl)
    (ha : ∀ v, assign (.Subscript (.Subscript a b p1) d tpos) X.env v = (do
      let ov ← holding [v] (eval (.Subscript a b p1) X.env)
      let iv ← holding [v, ov] (eval d X.env)
      standAt tpos
      holding [v, ov, iv] (setItem ov iv v)
      release [v, ov, iv] []) := by intro _; all_goals rfl) :
    PS X (.Assign [.Subscript (.Subscript a b p1) d tpos] e pos) (tS c (mSet2 k g1 g2 f)) := (ps_asg hf (pg_sub (pe_ix ix_list ho hi hpl) hj set_list ha) hs hw h1).wk fun D τ H h => by
  obtain ⟨F, σ, O, st, p⟩ := h
  refine Tm.mono (s_run st p) fun y H1 ⟨t, σ1, F1, O1, P1, m1, r1, p1⟩ => ?_
  split at p1
  · rename_i hl
    obtain ⟨x, ex⟩ := m1.st.val hl
    refine ⟨x, ex, Tm.mono (m1.srun (rep_some r1) (g := g1) p1) fun z H2 ⟨u, σ2, F2, O2, P2, m2, r2, s2, p2⟩ => ?_⟩
    have r1' := s2.rep r1 m1.disj
    split at p2
    · rename_i j l q
      split at p2
      · rename_i i hi
        split at p2
        · rename_i l' ql
          obtain ⟨rfl, rfl⟩ := rep_v r2
          obtain ⟨x', Ot, O3, e1, rt, m3, _⟩ := m2.lend q rfl
          rw [ex] at e1
          cases e1
          have n3 := (List.nodup_append.mp m3.nd).2.1
          have nO := (List.nodup_append.mp n3).1
          have rt0 := rt
          simp only [rep] at rt0
          obtain ⟨a0, vs, O', rfl, rfl, fp, hp, gg⟩ := rt0
          obtain ⟨y0, A, Oc, B, e2, _, rc, _⟩ := reps_split gg ql
          simp only [rep] at rc
          obtain ⟨q0, ws, O'', rfl, _⟩ := rc
          refine ⟨a0, vs, j, .ref q0, rfl, rfl, .inl (.inl hp), atI_of (by rw [← reps_len gg]; exact hi) e2, Tm.mono (m3.srun (by
            intro z hz
            rcases List.mem_append.mp hz with w | w
            · exact rep_some rt z w
            · exact rep_some r1' z (by simpa using w)) (g := g2) p2) fun z H4 ⟨w, σ3, F4, O4, P4, m4, r4, s4, p4⟩ => ?_⟩
          split at p4
          · rename_i j2
            split at p4
            · rename_i m hm
              split at p4
              · rename_i hk
                obtain ⟨rfl, rfl⟩ := rep_v r4
                have dj := m3.disj
                have rt' := s4.rep rt fun z hz => dj z (List.mem_append_left _ hz)
                have r1'' := s4.rep r1' fun z hz => dj z (by simp [hz])
                obtain ⟨p, vs', q', ws', ep, hp', e2', hq', hl', O5, m5⟩ := Mid.store2 (k := k) (m := m) m4 rt' nO (fun z hz => show z ∈ (a0 :: O') ++ ([] ++ P1) from List.mem_append_left _ hz) ql (ixN_lt hm) hk ex r1'' (List.nodup_append.mp m1.nd).2.1 (by intro z hz; simp [hz]) fun z hz hz' => (List.nodup_append.mp n3).2.2 z hz' z (by simpa using hz) rfl
                cases ep
                have hp4 : H4 a0 = some (.lst vs) := s4.keep _ _ hp (dj a0 (by simp))
                rw [hp4] at hp'
                cases hp'
                rw [e2] at e2'
                cases e2'
                exact ⟨q0, ws', j2, m, rfl, rfl, hq', by rw [← hl']; exact hm, m5.nx p4⟩
              · exact p4.elim
            · exact p4.elim
          · exact p4.elim
        · exact p2.elim
      · exact p2.elim
    · exact p2.elim
  · exact p1.elim
theorem s_augS2 {op : Operator} {oi : Int → Int → Int} {tpos p1 : Pos} (hK : c.e.K = X.K) (ho : PE X a (tVar k)) (hi : PE X b (tE c g1)) (hpl : PlainIx b) (hj : PE X d (tE c g2)) (he : PE X e (tE c f)) (hp : PIp X op (ipI oi))
    (ha : ∀ ov iv new, augStore d ov iv new = (do holding [new, ov, iv] (setItem ov iv new); release [new, ov, iv] []; pure .next) := by intros; all_goals rfl) :
    PS X (.AugAssign (.Subscript (.Subscript a b p1) d tpos) op e pos) (tS c (mAugS2 k oi g1 g2 f)) := (ps_augS (pe_ix ix_list ho hi hpl) hj get_list he hp set_list ha).wk fun D τ H h => by
  obtain ⟨F, σ, O, st, p⟩ := h
  unfold mAugS2 at p
  split at p
  · rename_i hl
    obtain ⟨x, ex⟩ := st.val hl
    refine ⟨x, ex, Tm.mono (s_run st p) fun z H2 ⟨u, σ2, F2, O2, P2, m2, r2, p2⟩ => ?_⟩
    split at p2
    · rename_i j l q
      split at p2
      · rename_i i hi
        split at p2
        · rename_i l' ql
          obtain ⟨rfl, rfl⟩ := rep_v r2
          obtain ⟨x', Ot, O3, e1, rt, m3, _⟩ := m2.lend q rfl
          rw [ex] at e1
          cases e1
          have n3 := (List.nodup_append.mp m3.nd).2.1
          have nO := (List.nodup_append.mp n3).1
          have rt0 := rt
          simp only [rep] at rt0
          obtain ⟨a0, vs, O', rfl, rfl, fp, hp, gg⟩ := rt0
          obtain ⟨y0, A, Oc, B, e2, eO, rc, _⟩ := reps_split gg ql
          simp only [rep] at rc
          obtain ⟨q0, ws, O'', rfl, rfl, fq, hq0, gc⟩ := rc
          refine ⟨a0, vs, j, .ref q0, rfl, rfl, .inl (.inl hp), atI_of (by rw [← reps_len gg]; exact hi) e2, Tm.mono (m3.srun (by
            intro z hz
            exact rep_some rt z (by simpa using hz)) (g := g2) p2) fun z H4 ⟨w, σ3, F4, O4, P4, m4, r4, s4, p4⟩ => ?_⟩
          split at p4
          · rename_i j2
            split at p4
            · rename_i m hm
              split at p4
              · rename_i va qa
                obtain ⟨rfl, rfl⟩ := rep_v r4
                have dj := m3.disj
                have rt' := s4.rep rt fun z hz => dj z (by simp [hz])
                have hp4 : H4 a0 = some (.lst vs) := s4.keep _ _ hp (dj a0 (by simp))
                have hq4 : H4 q0 = some (.lst ws) := s4.keep _ _ hq0 (dj q0 (by rw [eO]; simp))
                obtain ⟨y1, _, _, _, e3, _, rv, _⟩ := reps_split gc qa
                obtain ⟨rfl, _⟩ := rep_v rv
                refine ⟨q0, ws, j2, _, rfl, rfl, .inl (.inl hq4), atI_of (by rw [← reps_len gc]; exact hm) e3, Tm.mono (m4.srun (by
                  intro z hz
                  exact rep_some rt' z (by simpa using hz)) (g := f) p4) fun z H5 ⟨w5, σ5, F5, O5, P5, m5, r5, s5, p5⟩ => ?_⟩
                split at p5
                · rename_i vb
                  split at p5
                  · rename_i hk
                    obtain ⟨rfl, rfl⟩ := rep_v r5
                    have dj4 := m4.disj
                    have rt5 := s5.rep rt' fun z hz => dj4 z (by simpa using hz)
                    obtain ⟨p, vs', q', ws', ep, hp', e2', hq', hl', O6, m6⟩ := Mid.store2 (k := k) (m := m) (t := .v (.int (oi va vb))) (y := .int (oi va vb)) (Pt := []) m5 rt5 nO (by intro z hz; simpa using hz) ql (ixN_lt hm) hk ex rep_v' (by simp) (by simp) (by simp)
                    cases ep
                    have hp5 : H5 a0 = some (.lst vs) := s5.keep _ _ hp4 (dj4 a0 (by simp))
                    rw [hp5] at hp'
                    cases hp'
                    rw [e2] at e2'
                    cases e2'
                    refine ⟨va, vb, rfl, rfl, ?_⟩
                    exact ⟨q0, ws', j2, m, rfl, rfl, hq', by rw [← hl']; exact hm, m6.nx p5⟩
                  · exact p5.elim
                · exact p5.elim
              · exact p4.elim
            · exact p4.elim
          · exact p4.elim
        · exact p2.elim
      · exact p2.elim
    · exact p2.elim
  · exact p.elim
end
end MV

namespace MV
open PySem PySem.Spec PyProof.Rows L2

/-! ## sum of a list or a tuple of ints -/
def rSumT (K : PySem.W.Frag) : List V → Hp → VK → Prop := fun vs H Q => ∃ (a : Addr) (ns : List Int), vs = [V.ref a] ∧ SqT K H a (ns.map V.int) ∧ Q (.int ns.sum) H
def rSumA (K : PySem.W.Frag) : List V → Hp → VK → Prop := fun vs H Q => rSum K vs H Q ∨ rSumT K vs H Q
section
variable {X : Cx}
theorem call_sumT (hc : X.calm = true) : CallR X (.builtin "sum") (rSumT X.K) := by
  intro pins s σ H vs us Q I r h
  obtain ⟨a, ns, rfl, ht, q⟩ := h
  obtain ⟨its, rv, it, _⟩ := I.tuple ht
  rw [Vals.ref1 r]
  have hi := rv.ints
  have it' : s.heap.IsTuple a its.toArray := it
  obtain ⟨xs, hx⟩ := hi.allInts.items
  have hn : numsOf its = ns := hi.numsOf
  have hn2 : numsOf (its.toArray).toList = ns := hn
  rw [hx] at it' hn2
  rw [nums_intItems] at hn2
  refine PySem.W.ktm_sumG (I.ok.hd hc) it' fun h' tk t' hk => ⟨.int ns.sum, H, I.kept hk, ⟨t', ?_⟩, q⟩
  rw [preSum_eq, List.take_of_length_le (by simp), hn2]
theorem call_sumA (hc : X.calm = true) : CallR X (.builtin "sum") (rSumA X.K) := fun pins s σ H vs us Q I r h =>
  h.elim (cr_sum hc pins s σ H vs us Q I r) (call_sumT hc pins s σ H vs us Q I r)
end
def sSumA : List T → Option T
  | [.tup l] => (intsT l).map fun ns => .v (.int ns.sum)
  | l => sSum l
theorem okc_sumA {e : En} {K : PySem.W.Frag} (hK : e.K = K) : CallOk e (rSumA K) sSumA := by
  intro F H P l w vs Q sb r n hs k
  unfold sSumA at hs
  split at hs
  · rename_i l
    obtain ⟨x, rfl, rx⟩ := reps1 r
    cases q : intsT l with
    | none => rw [q] at hs; cases hs
    | some ns =>
      rw [q] at hs
      cases hs
      obtain ⟨_, a, ys, rfl, ht, ry⟩ := rep_tup rx
      have := intsT_ok ry q
      subst this
      exact .inr ⟨a, ns, rfl, by rw [← hK]; exact sb.sqt ht, k F H _ [] (Alc.rfl sb List.nodup_nil (by simp)) rep_v'⟩
  · exact .inl (okc_sum hK F H P l w vs Q sb r n hs k)
end MV

namespace MV
open PySem PySem.Spec PyProof.Rows L2

/-! ## fn_mv, with the mirror by name -/
section
variable {P : Program} {w : World} {K : PySem.W.Frag} {mg : Str → Option Value} {base : Heap}
theorem fn_mvX {x qual : Str} {st : Stmt} {f : Addr} {fd : FuncData} {N ps : List Str} {k : Nat} {m : List T → FRes} (body : List T → SRes) (hm : m = mFn N.length false body) (Fn : Fun K x qual st f fd) (S : FnScope N ps (defScope st)) (hN : ps.length ≤ N.length)
    (hb : ∀ (cdv : Value) (A : Around) (outer : List Env) (s : Shared) (H : Hp) (E : XK), Room k (A.deeper (envOfC qual (defScope st) s.heap.objs.size f cdv)) →
      PSs (cxOf (L2.CX P w) P w K mg base N qual (defScope st) f cdv A outer s H E) (defBody st) (tS (ctOf K mg none E) body)) :
    FnOk P w K mg base (L2.CX P w) (k + 1) f fd ps (spM ⟨K, mg, none⟩ ps.length m) := by
  subst hm
  exact fn_mv body Fn S hN hb
theorem fn_mvBX {x qual : Str} {st : Stmt} {f : Addr} {fd : FuncData} {N ps : List Str} {k : Nat} {m : List T → FRes} (body : List T → SRes) (hm : m = mFn N.length true body) (Fn : Fun K x qual st f fd) (S : FnScope N ps (defScope st)) (hN : ps.length ≤ N.length) (h0 : 0 < ps.length)
    (hb : ∀ (cdv : Value) (A : Around) (outer : List Env) (s : Shared) (H : Hp) (E : XK) (v0 : V), Room k (A.deeper (envOfC qual (defScope st) s.heap.objs.size f cdv)) →
      PSs (cxOf (L2.CX P w) P w K mg base N qual (defScope st) f cdv A outer s H E) (defBody st) (tS (ctOf K mg (some v0) E) body)) :
    FnOk P w K mg base (L2.CX P w) (k + 1) f fd ps (spM ⟨K, mg, none⟩ ps.length m) := by
  subst hm
  exact fn_mvB body Fn S hN h0 hb
end
end MV

namespace MV
open PySem PySem.Spec PyProof.Rows L2

/-! ## The end of a law -/
def spL (K : PySem.W.Frag) : Sp := fun vs H Q _ => ∃ (a : Addr) (ns : List Int), vs = [.ref a] ∧ SqL K H a (ns.map V.int) ∧ ns.length ≤ 63 ∧ ∀ H', Q (.bl true) H'
/-- the plain law of a mirror -/
def Plain (m : List T → FRes) : Prop := ∀ ns : List Int, ns.length ≤ 63 → ∃ b, m [.kl (ns.map fun n => .v (.int n))] = .ok (.v (.bl true)) b
theorem reps_ints {e : En} {F H : Hp} : ∀ ns : List Int, reps e F H (ns.map fun n => T.v (.int n)) (ns.map V.int) []
  | [] => by simp [reps]
  | n :: ns => by
    simp only [List.map_cons, reps]
    exact ⟨.int n, ns.map V.int, [], [], rfl, rfl, rep_v', reps_ints ns⟩
theorem plain_sp {K : PySem.W.Frag} {mg : Str → Option Value} {m : List T → FRes} (h : Plain m) {x : Str} (vs : List V) (H : Hp) (Q : VK) (E : XK) (hs : spL K vs H Q E) : spM ⟨K, mg, none⟩ ([x] : List Str).length m vs H Q E := by
  obtain ⟨a, ns, rfl, hS, hl, q⟩ := hs
  obtain ⟨b, hb⟩ := h ns hl
  refine ⟨rfl, H, [.kl (ns.map fun n => .v (.int n))], [], ?_, List.nodup_nil, Sub.rfl, ?_⟩
  · simp only [reps]
    refine ⟨.ref a, [], [], [], rfl, rfl, ?_, rfl, rfl⟩
    simp only [rep]
    exact ⟨trivial, a, ns.map V.int, rfl, hS, reps_ints ns⟩
  · rw [hb]
    intro F' H' x P Pb sb r1 r2 n st
    obtain ⟨rfl, _⟩ := rep_v r1
    exact q H'
theorem exm_mk {K : PySem.W.Frag} {a b : Addr} {v : Bool} {ci : PySem.ClassData} (e : PySem.W.subIn K (.ref b) (.type "BaseException") = some true) (c : PySem.W.clsIn K b = some ci) (t : PySem.W.typeIn K (.ref b) = some (.type "type")) (s : PySem.W.subIn K (.ref a) (.ref b) = some v) :
    PySem.W.exmOne K (.ref a) (.ref b) = some v := by
  unfold PySem.W.exmOne PySem.W.kitCls
  simp [e, c, t, s]
theorem cx_no {P : Program} (w : World) (H : Hp) (s : Shared) (e : Value) (s' : Shared) (h : L2.CX P w [] H s (fun _ _ _ => False) e s') : False := by
  obtain ⟨_, _, _, _, _, _, _, _, _, _, _, _, z⟩ := h
  exact z
end MV

namespace MV
open PySem PySem.Spec PyProof.Rows L2

/-! ## The same words, quick for the kernel -/
noncomputable section
def lget {α : Type} (l : List α) : Nat → Option α := List.rec (motive := fun _ => Nat → Option α) (fun _ => none) (fun a _ ih n => Nat.rec (motive := fun _ => Option α) (some a) (fun m _ => ih m) n) l
def lset {α : Type} (t : α) (l : List α) : Nat → List α := List.rec (motive := fun _ => Nat → List α) (fun _ => []) (fun a r ih n => Nat.rec (motive := fun _ => List α) (t :: r) (fun m _ => a :: ih m) n) l
theorem lget_eq {α : Type} : ∀ (l : List α) (n : Nat), lget l n = l[n]?
  | [], n => by simp [lget]
  | a :: r, 0 => rfl
  | a :: r, n + 1 => by
    have := lget_eq r n
    rw [List.getElem?_cons_succ, ← this]
    all_goals rfl
theorem lset_eq {α : Type} (t : α) : ∀ (l : List α) (n : Nat), lset t l n = l.set n t
  | [], n => by simp [lset]
  | a :: r, 0 => rfl
  | a :: r, n + 1 => by
    have := lset_eq t r n
    rw [List.set_cons_succ, ← this]
    all_goals rfl
def fzq : T → T
  | .v x => .v x
  | .lst x => .lst x
  | t => fz t
theorem fzq_eq : ∀ t : T, fzq t = fz t := fun t => by cases t <;> simp only [fzq, fz]
def fzsq (l : List T) : List T := List.rec (motive := fun _ => List T) [] (fun a _ ih => fzq a :: ih) l
theorem fzsq_eq : ∀ l : List T, fzsq l = fzs l
  | [] => by simp [fzsq, fzs]
  | a :: r => by
    have := fzsq_eq r
    simp only [fzs]
    rw [← this, ← fzq_eq]
    all_goals rfl
theorem get_set {α : Type} {l : List α} {i : Nat} {t : α} (h : l[i]? = some t) : l.set i t = l := set_same h
def fVar (i : Nat) : List T → Res T := fun σ => match lget σ i with
  | some (.v x) => .ok (.v x) σ
  | some (.lst x) => .ok (.lst x) σ
  | some (.own l) => .ok (.lst (fzsq l)) (lset (.lst (fzsq l)) σ i)
  | some _ => mVar i σ
  | none => .stuck
theorem fVar_eq (i : Nat) : fVar i = mVar i := by
  funext σ
  unfold fVar mVar
  simp only [lget_eq, lset_eq, fzsq_eq]
  cases q : σ[i]? with
  | none => rfl
  | some t => cases t <;> simp [T.isHole, fz, get_set q]
def fN (i : Nat) : T → List T → Option (List T) := fun t σ => match lget σ i with
  | some _ => some (lset t σ i)
  | none => none
theorem if_lt {α β : Type} {σ : List α} {k : Nat} {A B : β} : (match lget σ k with | some _ => A | none => B) = if k < σ.length then A else B := by
  rw [lget_eq]
  by_cases h : k < σ.length
  · simp [h]
  · simp [h]
theorem fN_eq (i : Nat) : fN i = wN i := by
  funext t σ
  unfold fN wN
  rw [← if_lt, lset_eq]
  cases lget σ i <;> rfl
def ixF {α : Type} (l : List α) (j : Int) : Option Nat := match j with
  | .ofNat n => (match lget l n with | some _ => some n | none => none)
  | j => ixN l.length j
theorem ixF_eq {α : Type} (l : List α) (j : Int) : ixF l j = ixN l.length j := by
  cases j with
  | ofNat n =>
    show (match lget l n with | some _ => some n | none => none) = ixN l.length (Int.ofNat n)
    unfold ixN
    rw [if_pos (show (0 : Int) ≤ Int.ofNat n from Int.natCast_nonneg n)]
    simp only [lget_eq]
    by_cases h : n < l.length
    · simp [h]
    · simp [h]
  | negSucc n => rfl
def atF {α : Type} (l : List α) (j : Int) : Option α := match j with
  | .ofNat n => lget l n
  | j => atI l j
theorem atF_eq {α : Type} (l : List α) (j : Int) : atF l j = atI l j := by
  cases j with
  | ofNat n =>
    unfold atF atI
    rw [← ixF_eq]
    unfold ixF
    simp only [lget_eq]
    cases q : l[n]? with
    | none => simp
    | some x => simp [q]
  | negSucc n => rfl
def liveF (σ : List T) (i : Nat) : Bool := match lget σ i with
  | some t => !t.isHole
  | none => false
theorem liveF_eq (σ : List T) (i : Nat) : liveF σ i = live σ i := by
  unfold liveF live
  rw [lget_eq]
  all_goals cases σ[i]? <;> rfl
def fIxN (i : Nat) (g : List T → Res T) : List T → Res T := fun σ => match liveF σ i with
  | true => (g σ).bind fun u σ1 => (match u, lget σ1 i with
    | .v (.int k), some (.lst l) => (match atF l k with
      | some w => .ok w σ1
      | none => .stuck)
    | .v (.int k), some (.own l) => (match ixF l k with
      | some j => (match lget l j with
        | some (.v x) => .ok (.v x) σ1
        | some (.lst x) => .ok (.lst x) σ1
        | some w => .ok (fz w) (lset (.own (lset (fz w) l j)) σ1 i)
        | none => .stuck)
      | none => .stuck)
    | .v (.int k), some t => (match t.isHole with
      | true => .stuck
      | false => (match ixT t k with
        | some (w, t') => .ok w (lset t' σ1 i)
        | none => .stuck))
    | _, _ => .stuck)
  | false => .stuck
theorem fIxN_eq (i : Nat) (g : List T → Res T) : fIxN i g = mIxN i g := by
  funext σ
  unfold fIxN mIxN
  rw [liveF_eq]
  cases live σ i with
  | false => rfl
  | true =>
    simp only [if_true]
    cases g σ with
    | stuck => rfl
    | exc _ _ _ _ => rfl
    | ok u σ1 =>
      simp only [Res.bind]
      cases u with
      | v c =>
        cases c with
        | int k =>
          simp only [lget_eq, lset_eq]
          cases q : σ1[i]? with
          | none => rfl
          | some t =>
            cases t with
            | lst l =>
              simp only [T.isHole, Bool.false_eq_true, if_false, ixT, sIx, atF_eq]
              cases atI l k with
              | none => rfl
              | some w => simp [get_set q]
            | own l =>
              simp only [T.isHole, Bool.false_eq_true, if_false, ixT, ixF_eq]
              cases ixN l.length k with
              | none => rfl
              | some j =>
                simp only []
                cases q2 : l[j]? with
                | none => rfl
                | some w => cases w <;> simp [fz, get_set q2, get_set q]
            | hole => rfl
            | v _ => simp only [T.isHole]; all_goals rfl
            | tup _ => simp only [T.isHole]; all_goals rfl
            | kl _ => simp only [T.isHole]; all_goals rfl
            | ins _ _ _ => simp only [T.isHole]; all_goals rfl
            | oin _ _ _ => simp only [T.isHole]; all_goals rfl
            | xc _ _ _ => simp only [T.isHole]; all_goals rfl
        | _ => rfl
      | _ => rfl
def bigB : Nat := 2037035976334486086268445688409378161051468393665936250636140449354381299763336706183397376
theorem bigB_log {n : Nat} (h : Nat.ble n bigB = true) : n.log2 < 301 := by
  have h1 : n ≤ bigB := Nat.le_of_ble_eq_true h
  by_cases h0 : n = 0
  · subst h0; decide
  · refine (Nat.log2_lt h0).mpr (Nat.lt_of_le_of_lt h1 ?_)
    decide +kernel
def fMul : OS := iOp fun i j => match Nat.ble i.natAbs bigB, Nat.ble j.natAbs bigB with
  | true, true => some (.int (i * j))
  | _, _ => if mulB i j then some (.int (i * j)) else none
theorem fMul_eq : fMul = sMul := by
  unfold fMul sMul
  congr 1
  funext i j
  cases h1 : Nat.ble i.natAbs bigB with
  | false => rfl
  | true =>
    cases h2 : Nat.ble j.natAbs bigB with
    | false => rfl
    | true =>
      have a := bigB_log h1
      have b := bigB_log h2
      have : mulB i j = true := by unfold mulB; simp only [decide_eq_true_eq]; omega
      simp [this]
def fDiv : OS := iOp fun i j => match decide (0 < j), Nat.ble j.natAbs bigB with
  | true, true => some (.int (i / j))
  | _, _ => if divB i j then some (.int (i / j)) else none
theorem fDiv_eq : fDiv = sDiv := by
  unfold fDiv sDiv
  congr 1
  funext i j
  cases h1 : decide (0 < j) with
  | false => rfl
  | true =>
    cases h2 : Nat.ble j.natAbs bigB with
    | false => rfl
    | true =>
      have b := bigB_log h2
      have : divB i j = true := by
        unfold divB
        rw [h1]
        simp only [Bool.true_and, decide_eq_true_eq]
        omega
      simp [this]
def fTimes : OS := sOr fMul sRep
theorem fTimes_eq : fTimes = sTimes := by unfold fTimes sTimes; rw [fMul_eq]
def fEq : OS := fun t u => match t, u with
  | .v (.int i), .v (.int j) => some (.v (.bl (decide (i = j))))
  | t, u => sEq t u
theorem eqT_int (i j : Int) : eqT (.v (.int i)) (.v (.int j)) = some (decide (i = j)) := by
  have h : (PyData.int i).eqv (PyData.int j) = decide (i = j) := by first | rfl | simp [PyData.eqv]
  simp [eqT, toD, SeqAt.shaped, h, PyData.canLay0, PyData.depth]
theorem fEq_eq : fEq = sEq := by
  funext t u
  unfold fEq
  split
  · unfold sEq; rw [eqT_int]; all_goals rfl
  · rfl
def fNe : OS := fun t u => match t, u with
  | .v (.int i), .v (.int j) => some (.v (.bl (!decide (i = j))))
  | t, u => sNe t u
theorem fNe_eq : fNe = sNe := by
  funext t u
  unfold fNe
  split
  · unfold sNe; rw [eqT_int]; all_goals rfl
  · rfl
def stoF (σ : List T) (k : Nat) (t : T) : SRes := match lget σ k with
  | some _ => .nx (lset t σ k)
  | none => .stuck
theorem stoF_eq (σ : List T) (k : Nat) (t : T) : stoF σ k t = if k < σ.length then .nx (σ.set k t) else .stuck := by
  unfold stoF
  rw [lset_eq, ← if_lt]
  cases lget σ k <;> rfl
def fIx : OS := fun t u => match u with
  | .v (.int (.ofNat n)) => (match t with
    | .tup l => lget l n
    | .lst l => lget l n
    | .own l => lget l n
    | t => sIx t u)
  | u => sIx t u
theorem fIx_eq : fIx = sIx := by
  funext t u
  unfold fIx
  split
  · rename_i n
    split
    · rename_i l
      show lget l n = atI l (Int.ofNat n)
      rw [← atF_eq]; all_goals rfl
    · rename_i l
      show lget l n = atI l (Int.ofNat n)
      rw [← atF_eq]; all_goals rfl
    · rename_i l
      show lget l n = atI l (Int.ofNat n)
      rw [← atF_eq]; all_goals rfl
    · rfl
  · rfl
def fAugN (k : Nat) (op : Int → Int → Int) (f : List T → Res T) : List T → SRes := fun σ =>
  match lget σ k with
  | some (.v (.int i)) => (f σ).sbind fun u σ1 => (match u with
    | .v (.int j) => stoF σ1 k (.v (.int (op i j)))
    | _ => .stuck)
  | _ => .stuck
theorem fAugN_eq (k : Nat) (op : Int → Int → Int) (f : List T → Res T) : fAugN k op f = mAugN k op f := by
  funext σ
  unfold fAugN mAugN
  simp only [stoF_eq]
  simp only [lget_eq]
  all_goals rfl
def fAugS (k : Nat) (op : Int → Int → Int) (g f : List T → Res T) : List T → SRes := fun σ => if liveF σ k then (g σ).sbind fun u σ1 =>
    (match u, lget σ1 k with
    | .v (.int j), some (.own l) => (match atF l j with
      | some (.v (.int i)) => (f σ1).sbind fun w σ2 => (match w, lget σ2 k with
        | .v (.int i2), some (.own l2) => (match ixF l2 j with
          | some m => .nx (lset (.own (lset (.v (.int (op i i2))) l2 m)) σ2 k)
          | none => .stuck)
        | _, _ => .stuck)
      | _ => .stuck)
    | _, _ => .stuck)
  else .stuck
theorem fAugS_eq (k : Nat) (op : Int → Int → Int) (g f : List T → Res T) : fAugS k op g f = mAugS k op g f := by
  funext σ
  unfold fAugS mAugS
  simp only [liveF_eq, lget_eq, lset_eq, atF_eq, ixF_eq]
  all_goals rfl
def fAugS2 (k : Nat) (op : Int → Int → Int) (g1 g2 f : List T → Res T) : List T → SRes := fun σ => if liveF σ k then (g1 σ).sbind fun u σ2 =>
    (match u, lget σ2 k with
    | .v (.int j), some (.own l) => (match ixF l j with
      | some i => (match lget l i with
        | some (.own l') => (g2 (lset .hole σ2 k)).sbind fun w σ3 => (match w with
          | .v (.int j2) => (match ixF l' j2 with
            | some m => (match lget l' m with
              | some (.v (.int a)) => (f σ3).sbind fun b σ4 => (match b with
                | .v (.int b) => stoF σ4 k (.own (lset (.own (lset (.v (.int (op a b))) l' m)) l i))
                | _ => .stuck)
              | _ => .stuck)
            | none => .stuck)
          | _ => .stuck)
        | _ => .stuck)
      | none => .stuck)
    | _, _ => .stuck)
  else .stuck
theorem fAugS2_eq (k : Nat) (op : Int → Int → Int) (g1 g2 f : List T → Res T) : fAugS2 k op g1 g2 f = mAugS2 k op g1 g2 f := by
  funext σ
  unfold fAugS2 mAugS2
  simp only [stoF_eq, liveF_eq, lset_eq, ixF_eq]
  simp only [lget_eq]
  all_goals rfl
def fSetN (k : Nat) (g f : List T → Res T) : List T → SRes := fun σ => (f σ).sbind fun t σ1 => if liveF σ1 k then (g σ1).sbind fun u σ2 =>
    (match u, lget σ2 k with
    | .v (.int j), some (.own l) => (match ixF l j with
      | some m => .nx (lset (.own (lset t l m)) σ2 k)
      | none => .stuck)
    | _, _ => .stuck)
  else .stuck
theorem fSetN_eq (k : Nat) (g f : List T → Res T) : fSetN k g f = mSetN k g f := by
  funext σ
  unfold fSetN mSetN
  simp only [liveF_eq, lget_eq, lset_eq, ixF_eq]
  all_goals rfl
/-! their rules -/
section
variable {X : Cx} {c : Ct} {a b d e : Expr} {f g g1 g2 : List T → Res T} {i k : Nat} {p p2 pos : Pos} {en : En}
theorem e_varF (h : PE X a (tVar i)) : PE X a (tE c (fVar i)) := by rw [fVar_eq]; exact e_var h
theorem e_ixNF (hK : c.e.K = X.K) (ha : PE X a (tVar i)) (hb : PE X b (tE c g)) (hs : PlainIx b) : PE X (.Subscript a b pos) (tE c (fIxN i g)) := by rw [fIxN_eq]; exact e_ixN hK ha hb hs
theorem g_nameF (ok : slotOk c i) {tg : Expr} (h : PG X tg (gName i)) : PG X tg (tG c [i] (fN i)) := by rw [fN_eq]; exact g_name ok h
theorem ok_ixF {K : PySem.W.Frag} (hK : en.K = K) : OpOk en (rIx K) fIx := by rw [fIx_eq]; exact ok_ix hK
theorem ok_mulF : OpOk en (rI CMulW fun i j => .int (i * j)) fMul := by rw [fMul_eq]; exact ok_mul
theorem ok_divF : OpOk en (rI CDivW fun i j => .int (i / j)) fDiv := by rw [fDiv_eq]; exact ok_div
theorem ok_timesF : OpOk en (rOr (rI CMulW fun i j => .int (i * j)) rRep) fTimes := by rw [fTimes_eq]; exact ok_times
theorem ok_eqF {K : PySem.W.Frag} (hK : en.K = K) : OpOk en (rEqD K) fEq := by rw [fEq_eq]; exact ok_eq hK
theorem ok_neF {K : PySem.W.Frag} (hK : en.K = K) : OpOk en (rNeD K) fNe := by rw [fNe_eq]; exact ok_ne hK
theorem s_setF {x : Str} {pos' : Pos} (ok : slotOk c i) (hN : X.N.Nodup) (hi : X.N[i]? = some x) (hx : Loc X.env.scope x) (he : PE X e (tE c f)) (hs : swapsWith e (some (.Name x pos')) pos.line X.env = pure false := by rfl)
    (hf : X.fn x = true ∨ X.env.scope.names.lookup x = some .local := by first | exact .inl rfl | exact .inr rfl | assumption) : PS X (.Assign [.Name x pos'] e pos) (tS c (mAsg f (fN i))) := by
  rw [fN_eq]
  exact s_set ok hN hi hx he hs hf
theorem s_augNF {x : Str} {op : Operator} {oi : Int → Int → Int} {pos' : Pos} (ok : slotOk c k) (hN : X.N.Nodup) (hi : X.N[k]? = some x) (hx : Loc X.env.scope x) (he : PE X e (tE c f)) (ho : PIp X op (ipI oi))
    (hf : X.fn x = true ∨ X.env.scope.names.lookup x = some .local := by first | exact .inl rfl | exact .inr rfl | assumption) : PS X (.AugAssign (.Name x pos') op e pos) (tS c (fAugN k oi f)) := by
  rw [fAugN_eq]
  exact s_augN ok hN hi hx he ho hf
theorem s_augSF {op : Operator} {oi : Int → Int → Int} {tpos : Pos} (hK : c.e.K = X.K) (ho : PE X a (tVar k)) (hi : PE X b (tE c g)) (he : PE X e (tE c f)) (hp : PIp X op (ipI oi))
    (ha : ∀ ov iv new, augStore b ov iv new = (do holding [new, ov, iv] (setItem ov iv new); release [new, ov, iv] []; pure .next) := by intros; all_goals rfl) :
    PS X (.AugAssign (.Subscript a b tpos) op e pos) (tS c (fAugS k oi g f)) := by
  rw [fAugS_eq]
  exact s_augS hK ho hi he hp ha
theorem s_augS2F {op : Operator} {oi : Int → Int → Int} {tpos p1 : Pos} (hK : c.e.K = X.K) (ho : PE X a (tVar k)) (hi : PE X b (tE c g1)) (hpl : PlainIx b) (hj : PE X d (tE c g2)) (he : PE X e (tE c f)) (hp : PIp X op (ipI oi))
    (ha : ∀ ov iv new, augStore d ov iv new = (do holding [new, ov, iv] (setItem ov iv new); release [new, ov, iv] []; pure .next) := by intros; all_goals rfl) :
    PS X (.AugAssign (.Subscript (.Subscript a b p1) d tpos) op e pos) (tS c (fAugS2 k oi g1 g2 f)) := by
  rw [fAugS2_eq]
  exact s_augS2 hK ho hi hpl hj he hp ha
end
end
end MV

namespace MV
open PySem PySem.Spec PyProof.Rows L2

/-! ## gcd, bit_length, range with a step of -1, isinstance of an own class, own objects -/
section
variable {X : Cx} {c : Ct} {a b d : Expr} {es : List Expr} {f g h : List T → Res T} {ga : List T → Res (List T)} {p pos apos cpos : Pos} {x : Str} {id : String} {r : List V → Hp → VK → Prop} {s : List T → Option T}
theorem e_callF (hc : CallR X (.builtin id) r) (ok : CallOk c.e r s) (hg : Gl X x) (hm : X.mg x = some (.builtin id)) (ha : PA X (a :: es) (tA c ga)) (hdb : (x == ("__debug__" : Str)) = false := by decide)
    (he : starEach (a :: es) X.env = (false, eval a X.env) :: starEach es X.env := by rfl) (hpl : (backTo pos (starEach es X.env)).any (·.1) = false := by rfl) :
    PE X (.Call (.Name x p) (a :: es) [] pos) (tE c (mCallB s ga)) := (pe_callBfun hc hg hm ha hdb he hpl).wk (callB_wk ok)
def sGcd : List T → Option T
  | [.v (.int i), .v (.int j)] => some (.v (.int ((Nat.gcd i.natAbs j.natAbs : Nat) : Int)))
  | _ => none
theorem okc_gcd {e : En} : CallOk e rGcd sGcd := by
  intro F H P l w vs Q sb r n hs k
  unfold sGcd at hs
  split at hs
  · obtain ⟨x, y, P1, P2, rfl, rfl, r1, r2⟩ := reps2 r
    cases hs
    obtain ⟨rfl, rfl⟩ := rep_v r1
    obtain ⟨rfl, rfl⟩ := rep_v r2
    exact ⟨_, _, rfl, k F H _ [] (Alc.rfl sb List.nodup_nil (by simp)) rep_v'⟩
  · cases hs
def mBits (f : List T → Res T) : List T → Res T := fun σ => (f σ).bind fun t σ1 =>
  match t with
  | .v (.int i) => .ok (.v (.int (Builtin.Int.intBits i : Nat))) σ1
  | _ => .stuck
theorem e_bits (ha : PE X a (tE c f)) (hbase : attributeBase a "bit_length" X.env (eval a X.env) = eval a X.env := by rfl) (hline : (apos.endLine == pos.line) = true := by rfl) :
    PE X (.Call (.Attribute a "bit_length" apos) [] [] pos) (tE c (mBits f)) := (pe_bits ha hbase hline).wk fun τ H Q h => by
  obtain ⟨F, σ, O, st, p⟩ := h
  refine Tm.mono ((Mid.start st).run (by simp) (g := f) p) fun x H1 ⟨t, σ1, F1, O1, P1, m1, r1, s1, p1⟩ => ?_
  split at p1
  · obtain ⟨rfl, _⟩ := rep_v r1
    exact ⟨_, rfl, m1.fin p1 rep_v' (by simp) (by simp)⟩
  · exact p1.elim
/-- range(a, b, -1) -/
def intsDown (lo : Int) (n : Nat) : List T := (List.range n).map fun (i : Nat) => T.v (V.int (lo + (i : Nat) * (-1)))
theorem walk_down {e : En} {F : Hp} {lo : Int} {n : Nat} : WalkM e F (Itc lo (-1) n) (intsDown lo n) := by
  have hl : (intsDown lo n).length = n := by simp [intsDown]
  refine ⟨fun _ => True, YFn fun i => .int (lo + (i : Nat) * (-1)), by rw [hl]; exact walk_rangeC, fun _ _ => trivial, fun i H x H3 F2 hi s1 s2 y => ?_⟩
  obtain ⟨rfl, rfl⟩ := y
  rw [hl] at hi
  exact ⟨T.v (V.int (lo + (i : Nat) * (-1))), by simp [intsDown, hi], F2, Alc.rfl s2 List.nodup_nil (by simp), rep_v'⟩
def mRg3 (f g h : List T → Res T) : List T → Res (List T) := fun σ => (f σ).bind fun t σ1 => (g σ1).bind fun u σ2 => (h σ2).bind fun w σ3 =>
  match t, u, w with
  | .v (.int i), .v (.int j), .v (.int k) => if rgB i && rgB j && decide (k = -1) then .ok (intsDown i (i - j).toNat) σ3 else .stuck
  | _, _, _ => .stuck
theorem i_rg3 (hg : Gl X "range") (hm : X.mg "range" = none) (h1 : PE X a (tE c f)) (h2 : PE X b (tE c g)) (h3 : PE X d (tE c h))
    (hs : starEach [a, b, d] X.env = (false, eval a X.env) :: starEach [b, d] X.env := by rfl) (hs2 : starEach [b, d] X.env = (false, eval b X.env) :: starEach [d] X.env := by rfl) (hs3 : starEach [d] X.env = (false, eval d X.env) :: starEach [] X.env := by rfl)
    (hpl : (backTo pos (starEach [b, d] X.env)).any (·.1) = false := by rfl) {tg : Expr} : PI X tg (.Call (.Name "range" p) [a, b, d] [] pos) (tI c (mRg3 f g h)) :=
  (pi_range3 hg hm (pa_cons h1 (pa_cons h2 (pa_cons h3 pa_nil hs3) hs2) hs) hs hpl).wk fun τ H R h => by
    obtain ⟨F, σ, O, st, p⟩ := h
    refine Tm.mono (i_run st p) fun x H1 ⟨t, σ1, F1, O1, P1, m1, r1, p1⟩ => ?_
    refine Tm.mono (m1.irun (rep_some r1) p1) fun y H2 ⟨u, σ2, F2, O2, P2, m2, r2, s2, p2⟩ => ?_
    have hP : ∀ a ∈ P2 ++ P1, ∃ o, H2 a = some o := fun a ha => by
      rcases List.mem_append.mp ha with z | z
      · exact rep_some r2 a z
      · obtain ⟨o, ho⟩ := rep_some r1 a z
        exact s2.there a o ho
    refine Tm.mono (m2.irun hP p2) fun z H3 ⟨w, σ3, F3, O3, P3, m3, r3, s3, p3⟩ => ?_
    split at p3
    · rename_i i j k _ _
      split at p3
      · rename_i hj
        simp only [Bool.and_eq_true, decide_eq_true_eq] at hj
        obtain ⟨⟨hi, hj⟩, rfl⟩ := hj
        obtain ⟨rfl, _⟩ := rep_v r1
        obtain ⟨rfl, _⟩ := rep_v r2
        obtain ⟨rfl, _⟩ := rep_v r3
        exact ⟨i, j, -1, _, rfl, RgC.neg (rgB_ok hi).1 (rgB_ok hi).2 (rgB_ok hj).1 (rgB_ok hj).2, m3.walk p3 walk_down⟩
      · exact p3.elim
    · exact p3.elim
end

/-! ### own objects -/
/-- what is known of an own class: C its name, fs its fields -/
structure OC (K : PySem.W.Frag) (mg : Str → Option Value) (C : Str) (fs : List Str) : Prop where
  ex : ∃ Ca, mg C = some (.ref Ca) ∧ Cls K Ca ∧ (∀ f ∈ fs, NoAttr K Ca f) ∧ PySem.W.findIn K (.ref Ca) "__class__" = some (some (.builtin "object.__class__")) ∧
    PySem.W.specialIn K (.builtin "object.__class__") "__get__" = some (some (.builtin "getset_descriptor.__get__")) ∧ PySem.W.takesIn K (.builtin "object.__class__") = some true ∧ PySem.W.mroIn K Ca (.type "object") = some true
def T.flat : T → Bool
  | .v _ => true
  | .tup _ => true
  | .lst _ => true
  | .kl _ => true
  | .ins _ _ _ => true
  | _ => false
theorem rep_flat {e : En} {F H : Hp} {t : T} {x : V} {O : List Addr} (h : t.flat = true) (r : rep e F H t x O) : O = [] := by
  cases t <;> simp only [T.flat, Bool.false_eq_true] at h <;> simp only [rep] at r
  · exact r.2
  · exact r.1
  · exact r.1
  · exact r.1
  · exact r.1
/-- the field f -/
def fldT : List Str → List T → Str → Option T
  | n :: ns, t :: ts, f => if n = f then some t else fldT ns ts f
  | _, _, _ => none
theorem fldT_ok {e : En} {F H : Hp} : ∀ {ns : List Str} {l : List T} {vs : List V} {O : List Addr} {f : Str} {t : T}, reps e F H l vs O → fldT ns l f = some t → ∃ v O', (ns.zip vs).lookup f = some v ∧ rep e F H t v O' ∧ ∀ a ∈ O', a ∈ O
  | [], l, vs, O, f, t, r, h => by simp [fldT] at h
  | n :: ns, [], vs, O, f, t, r, h => by simp [fldT] at h
  | n :: ns, u :: l, vs, O, f, t, r, h => by
    simp only [reps] at r
    obtain ⟨x, xs, O1, O2, rfl, rfl, r1, r2⟩ := r
    simp only [fldT] at h
    by_cases q : n = f
    · rw [if_pos q] at h
      cases h
      exact ⟨x, O1, by simp [List.lookup, q], r1, by intro a h; simp [h]⟩
    · rw [if_neg q] at h
      obtain ⟨v, O', e1, r3, m⟩ := fldT_ok r2 h
      have q2 : (f == n) = false := by simpa using fun z => q z.symm
      exact ⟨v, O', by rw [List.zip_cons_cons, List.lookup_cons, q2]; exact e1, r3, fun a ha => by simp [m a ha]⟩
def objT (C : Str) (f : Str) : T → Option T
  | .ins C' ns l => if C' = C then (fldT ns l f).bind fun t => if t.flat then some t else none else none
  | .oin C' ns l => if C' = C then (fldT ns l f).bind fun t => if t.flat then some t else none else none
  | _ => none
theorem objT_ok {e : En} {F H : Hp} {C f : Str} {t u : T} {x : V} {O : List Addr} (s : Sub F H) (r : rep e F H t x O) (h : objT C f t = some u) :
    ∃ a dx Ca fs v, x = .ref a ∧ e.mg C = some (.ref Ca) ∧ H a = some (.ins Ca dx fs) ∧ fs.lookup f = some v ∧ rep e F H u v [] := by
  have key : ∀ {ns l vs O'} {a dx Ca : Addr}, reps e F H l vs O' → (fldT ns l f).bind (fun t => if t.flat then some t else none) = some u → x = .ref a → e.mg C = some (.ref Ca) → H a = some (.ins Ca dx (ns.zip vs)) →
      ∃ a dx Ca fs v, x = .ref a ∧ e.mg C = some (.ref Ca) ∧ H a = some (.ins Ca dx fs) ∧ fs.lookup f = some v ∧ rep e F H u v [] := by
    intro ns l vs O' a dx Ca rs hb e1 e2 e3
    cases q : fldT ns l f with
    | none => rw [q] at hb; cases hb
    | some t =>
      rw [q] at hb
      simp only [Option.bind_some] at hb
      split at hb
      · rename_i hf
        cases hb
        obtain ⟨v, O2, l1, r1, _⟩ := fldT_ok rs q
        have := rep_flat hf r1
        subst this
        exact ⟨a, dx, Ca, _, v, e1, e2, e3, l1, r1⟩
      · cases hb
  cases t <;> simp only [objT, reduceCtorEq] at h
  · rename_i C' ns l
    split at h
    · rename_i hC
      subst hC
      simp only [rep] at r
      obtain ⟨_, hn, a, dx, Ca, vs, h1, h2, h3, h4⟩ := r
      exact key h4 h h1 h2 (s _ _ h3)
    · cases h
  · rename_i C' ns l
    split at h
    · rename_i hC
      subst hC
      simp only [rep] at r
      obtain ⟨hn, a, dx, Ca, vs, O', h1, h2, rfl, h3, h4, h5⟩ := r
      exact key h5 h h1 h2 h4
    · cases h
section
variable {X : Cx} {c : Ct} {a b d o : Expr} {es : List Expr} {f g : List T → Res T} {ga : List T → Res (List T)} {p pos pos' apos : Pos} {C fl : Str} {fs : List Str} {i k : Nat}
/-- o.f -/
def mFld (C fl : Str) (f : List T → Res T) : List T → Res T := fun σ => (f σ).bind fun t σ1 => match objT C fl t with
  | some u => .ok u σ1
  | none => .stuck
theorem e_fld (oc : OC X.K X.mg C fs) (he : c.e.mg = X.mg) (hf : fl ∈ fs) (ha : PE X o (tE c f)) (hb : attributeBase o fl X.env (eval o X.env) = eval o X.env := by rfl) : PE X (.Attribute o fl pos) (tE c (mFld C fl f)) := (pe_fld ha hb).wk fun τ H Q h => by
  obtain ⟨F, σ, O, st, p⟩ := h
  refine Tm.mono ((Mid.start st).run (by simp) (g := f) p) fun x H1 ⟨t, σ1, F1, O1, P1, m1, r1, s1, p1⟩ => ?_
  cases q : objT C fl t with
  | none => rw [q] at p1; exact p1.elim
  | some u =>
    rw [q] at p1
    obtain ⟨a, dx, Ca, fv, v, e1, e2, e3, e4, r2⟩ := objT_ok m1.st.sub r1 q
    obtain ⟨Ca', g1, g2, g3, _⟩ := oc.ex
    rw [he, g1] at e2
    cases e2
    exact ⟨a, _, dx, fv, v, e1, e3, g2, g3 fl hf, e4, m1.fin p1 r2 (by simp) (by simp)⟩
/-- x.f of a slot, which stays as it is -/
noncomputable def mFldN (C fl : Str) (i : Nat) : List T → Res T := fun σ => match (lget σ i).bind (objT C fl) with
  | some u => .ok u σ
  | none => .stuck
theorem e_fldN (oc : OC X.K X.mg C fs) (he : c.e.mg = X.mg) (hf : fl ∈ fs) (ha : PE X o (tVar i)) (hb : attributeBase o fl X.env (eval o X.env) = eval o X.env := by rfl) : PE X (.Attribute o fl pos) (tE c (mFldN C fl i)) := (pe_fld ha hb).wk fun τ H Q h => by
  obtain ⟨F, σ, O, st, p⟩ := h
  unfold mFldN at p
  rw [lget_eq] at p
  cases q0 : σ[i]? with
  | none => rw [q0] at p; exact p.elim
  | some t =>
    rw [q0, Option.bind_some] at p
    cases q : objT C fl t with
    | none => rw [q] at p; exact p.elim
    | some u =>
      rw [q] at p
      have hh : t.isHole = false := by cases t <;> simp only [objT, reduceCtorEq] at q <;> rfl
      have m := Mid.start (c := c) st
      obtain ⟨x, Ot, e1, r1, _⟩ := m.slot q0 hh
      obtain ⟨a, dx, Ca, fv, v, e2, e3, e4, e5, r2⟩ := objT_ok st.sub r1 q
      obtain ⟨Ca', g1, g2, g3, _⟩ := oc.ex
      rw [he, g1] at e3
      cases e3
      exact ⟨x, e1, a, _, dx, fv, v, e2, e4, g2, g3 fl hf, e5, m.fin p r2 (by simp) (by simp)⟩
/-- isinstance(x, C), x such an object -/
def mIsO (C : Str) (f : List T → Res T) : List T → Res T := fun σ => (f σ).bind fun t σ1 => match t with
  | .ins C' _ _ => if C' = C then .ok (.v (.bl true)) σ1 else .stuck
  | _ => .stuck
theorem e_isO (hdb : (C == ("__debug__" : Str)) = false) (oc : OC X.K X.mg C fs) (he : c.e.mg = X.mg) (hgc : Gl X C) (hg : Gl X "isinstance") (hm : X.mg "isinstance" = none) (ha : PE X a (tE c f)) {p2 : Pos}
    (hs : starEach (a :: [.Name C p2]) X.env = (false, eval a X.env) :: starEach [.Name C p2] X.env := by rfl) (hs2 : starEach ((.Name C p2) :: []) X.env = (false, eval (.Name C p2) X.env) :: starEach [] X.env := by rfl)
    (hpl : (backTo pos (starEach [.Name C p2] X.env)).any (·.1) = false := by rfl) : PE X (.Call (.Name "isinstance" p) (a :: [.Name C p2]) [] pos) (tE c (mIsO C f)) := by
  obtain ⟨Ca, g1, g2, g3, g4, g5, g6, g7⟩ := oc.ex
  refine (pe_callB call_isi hg hm (by decide +kernel) (pa_cons ha (pa_cons (pe_glob (v := .ref Ca) hgc g1 rfl hdb) pa_nil hs2) hs) (by decide) (by decide) hs hpl).wk fun τ H Q h => ?_
  obtain ⟨F, σ, O, st, p⟩ := h
  refine Tm.mono ((Mid.start st).run (by simp) (g := f) p) fun x H1 ⟨t, σ1, F1, O1, P1, m1, r1, s1, p1⟩ => ?_
  split at p1
  · rename_i C' ns l
    split at p1
    · rename_i hC
      subst hC
      simp only [rep] at r1
      obtain ⟨_, hn, a, dx, Ca', vs, rfl, h2, h3, h4⟩ := r1
      rw [he, g1] at h2
      cases h2
      refine ⟨.ref a, .ref Ca, .ref Ca, .ref Ca, true, rfl, .own _, .base (.ins (m1.st.sub _ _ h3) g2 g4 g5 g6 g7), ?_, m1.fin p1 rep_v' (by simp) (by simp)⟩
      simp [PySem.W.kitOne]
    · exact p1.elim
  · exact p1.elim
/-- self.f = e -/
def mSetF (C fl : Str) (i : Nat) (f : List T → Res T) : List T → SRes := fun σ => (f σ).sbind fun t σ1 => match σ1[i]? with
  | some (.oin C' ns l) => if C' = C ∧ fl ∉ ns ∧ l.length < 900 then .nx (σ1.set i (.oin C' (ns ++ [fl]) (l ++ [t]))) else .stuck
  | _ => .stuck
theorem putF_new {fl : Str} {v : V} : ∀ {ns : List Str} {vs : List V}, fl ∉ ns → ns.length = vs.length → putF fl v (ns.zip vs) = (ns ++ [fl]).zip (vs ++ [v])
  | [], [], _, _ => rfl
  | n :: ns, x :: xs, h, e => by
    have h1 : n ≠ fl := fun z => h (by simp [z])
    have h2 : fl ∉ ns := fun z => h (by simp [z])
    simp only [List.zip_cons_cons, List.cons_append, putF, if_neg h1]
    rw [putF_new h2 (by simpa using e)]
  | [], x :: xs, _, e => by simp at e
  | n :: ns, [], _, e => by simp at e
theorem s_setFld (oc : OC X.K X.mg C fs) (he : c.e.mg = X.mg) (hf : fl ∈ fs) (ho : PE X o (tVar i)) (hv : PE X a (tE c f)) (hs : swapsWith a (some (.Attribute o fl pos')) pos.line X.env = pure false := by rfl) :
    PS X (.Assign [.Attribute o fl pos'] a pos) (tS c (mSetF C fl i f)) := (ps_fld ho hv hs).wk fun D τ H h => by
  obtain ⟨F, σ, O, st, p⟩ := h
  refine Tm.mono (s_run st p) fun y H1 ⟨u, σ1, F1, O1, P1, m1, r1, p1⟩ => ?_
  split at p1
  · rename_i C' ns l q1
    split at p1
    · rename_i hh
      obtain ⟨rfl, hnn, hlen⟩ := hh
      obtain ⟨x', Ot, e1, rt, nt, mt, back⟩ := m1.slot q1 rfl
      refine ⟨x', e1, ?_⟩
      simp only [rep] at rt
      obtain ⟨hn, a0, dx, Ca, vs, O', rfl, h2, rfl, h3, h4, g1⟩ := rt
      have lv := reps_len g1
      have nP := (List.nodup_append.mp m1.nd).2.1
      have dP : ∀ z ∈ P1, z ∉ a0 :: O' := fun z hz h => m1.disj z hz (mt z h)
      have nn : (a0 :: (O' ++ P1)).Nodup := by
        have := nd_app nt nP dP
        simpa using this
      obtain ⟨n0, n1⟩ := List.nodup_cons.mp nn
      obtain ⟨Ca', k1, k2, k3, _⟩ := oc.ex
      have h2' := h2
      rw [he, k1] at h2'
      cases h2'
      refine ⟨a0, Ca, dx, _, rfl, h4, k2, k3 fl hf, by simp [← lv, hn]; omega, ?_⟩
      rw [putF_new hnn (by rw [hn, lv])]
      have al : Alc F1 H1 (a0 :: O' ++ P1) F1 (upd H1 a0 (.ins Ca dx ((ns ++ [fl]).zip (vs ++ [y])))) (a0 :: (O' ++ P1) ++ []) := Alc.wr m1.st.sub (by simp) h3 (by simpa using nn) (by simpa using nn) (by intro z hz; simpa using hz)
      have keep : ∀ z ∈ O' ++ P1, (upd H1 a0 (.ins Ca dx ((ns ++ [fl]).zip (vs ++ [y])))) z = H1 z ∧ F1 z = none := fun z hz => by
        refine ⟨upd_ne fun w => n0 (w ▸ hz), ?_⟩
        rcases List.mem_append.mp hz with h | h
        · exact (reps_at g1 z h).1
        · exact (rep_at r1 z h).1
      obtain ⟨O2, m2, _⟩ := back (t' := .oin C' (ns ++ [fl]) (l ++ [u])) al (by
        simp only [rep]
        refine ⟨by simp [hn], a0, dx, Ca, vs ++ [y], O' ++ P1, rfl, h2, rfl, h3, upd_same, ?_⟩
        exact reps_mono Sub.rfl (reps_app.mpr ⟨vs, [y], O', P1, rfl, rfl, g1, reps_one.mpr r1⟩) keep)
      exact m2.nx p1
    · exact p1.elim
  · exact p1.elim
/-- what makes an own object lets out what its __init__ lets out, at the slots as they stand -/
theorem go_make {fI Ca : Addr} {fd : FuncData} {ps : List Str} {sp : Sp} {W : XK} {CX : CXT} {pins : List (Addr × Obj)} {τ : L2.St} {H : Hp} {s : Shared} {Q : VK} {us : List Value} {vs : List V}
    (M : Mk X.K Ca fI) (Fn : FnOk X.prog X.w X.K X.mg X.base CX k fI fd ps sp) (hr : Room (k + 1) X.A) (hb : Binds X.K fd ps []) (hx : PassesAt CX X τ W) (I : Inv X pins τ H s) (r : Vals vs us)
    (h : ∀ y dx, H y = none → H dx = none → dx ≠ y → sp (.ref y :: vs) (upd (upd H dx (.own y)) y (.ins Ca dx [])) (fun v H2 => v = .non ∧ Q (.ref y) H2) W) :
    wpAny (model X.prog X.w) X.A (call (.ref Ca) us) (EP X pins τ Q) X.xe s := by
  have h0 := h (s.heap.objs.size + 1) s.heap.objs.size (I.hok.fresh (Nat.le_succ _)) (I.hok.fresh (Nat.le_refl _)) (Nat.ne_of_lt (Nat.lt_succ_self _))
  have J := Inv.made (C := Ca) I
  have rv : Vals (V.ref (s.heap.objs.size + 1) :: vs) (Value.ref (s.heap.objs.size + 1) :: us) := .cons rfl r
  have hl : ((Value.ref (s.heap.objs.size + 1) :: us) ++ []).length = ps.length := by
    rw [List.append_nil, ← rv.length]; exact Fn.len _ _ _ _ h0
  have bb := hb _ (Value.ref (s.heap.objs.size + 1) :: us) J.kIn hl
  rw [List.append_nil] at bb
  have run := Fn.run _ X.stack _ _ ⟨Value.ref (s.heap.objs.size + 1) :: us, []⟩ (Value.ref (s.heap.objs.size + 1) :: us) _ _ W (hr.make Ca us []) (J.env0.make Ca us []) bb rv h0
  refine wpAny_call (make_map (f := fI) I.kIn M.makes M.init (beq_iff_eq.mp M.fn) (codeAny_mono run fun z s' hz => ?_))
  match z, hz with
  | .error e, hz => exact hx pins _ _ e s' J hz
  | .ok (.ret u), hz =>
    obtain ⟨v, H', I3, rv3, ev, q3⟩ := J.after hz
    subst ev
    exact ⟨rv3, V.ref (s.heap.objs.size + 1), H', I3, rfl, q3⟩
  | .ok .next, hz => exact hz.elim
  | .ok .brk, hz => exact hz.elim
  | .ok .cont, hz => exact hz.elim
/-- C(e, ..) -/
def mMake (C : Str) (m : List T → FRes) (g : List T → Res (List T)) : List T → Res T := fun σ => (g σ).bind fun ts σ1 =>
  match m (.oin C [] [] :: ts) with
  | .ok (.v .non) b => .ok b σ1
  | .exc E ns us _ => .exc E ns us σ1
  | _ => .stuck
theorem e_make {x : Str} {fI Ca : Addr} {fd : FuncData} {ps : List Str} {m : List T → FRes} (M : Mk X.K Ca fI) (Fn : FnOk X.prog X.w X.K X.mg X.base (L2.CX X.prog X.w) k fI fd ps (spM ⟨X.K, X.mg, none⟩ ps.length m)) (hr : Room (k + 1) X.A) (hg : Gl X x) (hm : X.mg x = some (.ref Ca)) (hb : Binds X.K fd ps [])
    (he : c.e = ⟨X.K, X.mg, none⟩) (tk : Takes X c.W) (ha : PA X (a :: es) (tA c ga)) (hlen : ∀ σ ts σ1, ga σ = .ok ts σ1 → ts.length + 1 = ps.length) (hdb : (x == ("__debug__" : Str)) = false := by decide)
    (hst : starEach (a :: es) X.env = (false, eval a X.env) :: starEach es X.env := by rfl) (hpl : (backTo pos (starEach es X.env)).any (·.1) = false := by rfl) :
    PE X (.Call (.Name x p) (a :: es) [] pos) (tE c (mMake x m ga)) := ⟨fun pins s τ H Q I h => by
  refine wpAny_Call_Name_kw (ld_glob I hg hm ?_ hdb)
  refine PySem.W.callWith_K (h₀ := X.base) I.ok.mod.kin M.kp (thn (ha.run pos pins s τ H (fun vs H1 => ∀ y dx, H1 y = none → H1 dx = none → dx ≠ y → spM ⟨X.K, X.mg, none⟩ ps.length m (.ref y :: vs) (upd (upd H1 dx (.own y)) y (.ins Ca dx [])) (fun v H2 => v = .non ∧ Q (.ref y) H2) (WE c.W τ)) I ?_) fun us s1 ⟨vs, H1, I1, r, q⟩ => ⟨I1.kIn, go_make M Fn hr hb (passAt tk τ) I1 r q⟩) hst hpl
  obtain ⟨F, σ, O, st, p⟩ := h
  unfold mMake at p
  have p' : Post c (RT c.e) F H O τ Q ((ga σ).bind fun ts σ1 => if ts.length + 1 = ps.length then (match m (.oin x [] [] :: ts) with | .ok (.v .non) b => Res.ok b σ1 | .exc E ns us _ => .exc E ns us σ1 | _ => .stuck) else .stuck) := by
    cases q : ga σ with
    | ok ts σ1 => rw [q] at p; simp only [Res.bind, hlen σ ts σ1 q, if_true]; exact p
    | exc _ _ _ _ => rw [q] at p; exact p
    | stuck => rw [q] at p; exact p
  refine Tm.mono ((Mid.start st).run (by simp) (g := ga) p') fun vs H1 ⟨ts, σ1, F1, O1, P1, m1, r1, s1, p1⟩ => ?_
  rw [List.append_nil] at m1
  split at p1
  · rename_i hl
    intro y dx hy hdx hne
    have nP1 := (List.nodup_append.mp m1.nd).2.1
    have hP1 : ∀ b ∈ P1, ∃ o, H1 b = some o := fun b hb => (reps_at r1 b hb).2
    have al1 := Alc.newO (o := .own y) m1.st.sub hdx nP1 hP1
    have al1' : Alc F1 H1 P1 F1 (upd H1 dx (.own y)) P1 := ⟨al1.stp.sub_own (by intro a h; simp [h]), al1.sub, nP1⟩
    have hy' : upd H1 dx (.own y) y = none := by rw [upd_ne (Ne.symm hne)]; exact hy
    have hP1' : ∀ b ∈ P1, ∃ o, upd H1 dx (.own y) b = some o := fun b hb => by
      obtain ⟨o, ho⟩ := hP1 b hb
      exact ⟨o, by rw [upd_ne fun z => (by rw [z, hdx] at ho; cases ho)]; exact ho⟩
    have al2 := Alc.newO (o := .ins Ca dx []) al1'.sub hy' nP1 hP1'
    have al := al1'.tr al2
    have m2 := m1.alc al
    have r2 : reps c.e F1 (upd (upd H1 dx (.own y)) y (.ins Ca dx [])) ts vs P1 := reps_mono Sub.rfl r1 fun b hb => by
      obtain ⟨o, ho⟩ := hP1 b hb
      refine ⟨?_, (reps_at r1 b hb).1⟩
      rw [upd_ne fun z => (by rw [z, hy] at ho; cases ho), upd_ne fun z => (by rw [z, hdx] at ho; cases ho)]
    refine ⟨by rw [List.length_cons, ← reps_len r1]; exact hl, F1, .oin x [] [] :: ts, y :: P1, ?_, al.nd, al.sub, ?_⟩
    · rw [← he]
      simp only [reps]
      refine ⟨.ref y, vs, [y], P1, rfl, rfl, ?_, r2⟩
      simp only [rep, reps]
      exact ⟨rfl, y, dx, Ca, [], [], rfl, by rw [he]; exact hm, rfl, m1.st.sub.no hy, by rw [upd_same]; all_goals rfl, rfl, rfl⟩
    · simp only [List.headD_cons]
      cases q : m (.oin x [] [] :: ts) with
      | stuck => rw [q] at p1; exact p1.elim
      | ok t b =>
        rw [q] at p1
        split at p1
        · rename_i b' z
          cases z
          intro F2 H2 z P2 Pb sb rz rb n2 s2
          obtain ⟨rfl, rfl⟩ := rep_v rz
          refine ⟨rfl, ?_⟩
          have n2' : Pb.Nodup := by simpa using n2
          have m3 := m2.low (P2 := Pb) (s2.sub_own (by intro a h; simp [h])) sb n2'
          exact m3.fin p1 (by rw [he]; exact rb) n2' fun _ h => h
        · rename_i z; cases z
        · exact p1.elim
      | exc E ns us b =>
        rw [q] at p1
        intro F2 H2 Cx d Pb sb _ nb s2 xr
        have m3 := m2.low (P2 := []) (s2.sub_own (by simp)) sb List.nodup_nil
        exact m3.exc p1 (by rw [he]; exact xr)
  · exact p1.elim⟩
/-- x[k], moved out of the own list in slot i -/
def mMvN (i : Nat) (g : List T → Res T) : List T → Res T := fun σ => if live σ i then (g σ).bind fun u σ1 =>
    match u, σ1[i]? with
    | .v (.int k), some (.own l) => (match ixN l.length k with
      | some j => (match l[j]? with
        | some w => if w.isHole then .stuck else .ok w (σ1.set i (.own (l.set j .hole)))
        | none => .stuck)
      | none => .stuck)
    | _, _ => .stuck
  else .stuck
theorem e_mvN (hK : c.e.K = X.K) (ha : PE X a (tVar i)) (hb : PE X b (tE c g)) (hs : PlainIx b) : PE X (.Subscript a b pos) (tE c (mMvN i g)) := (pe_ix ix_seq ha hb hs).wk fun τ H Q h => by
  obtain ⟨F, σ, O, st, p⟩ := h
  unfold mMvN at p
  split at p
  · rename_i hl
    obtain ⟨x, ex⟩ := st.val hl
    refine ⟨x, ex, Tm.mono ((Mid.start st).run (by simp) (g := g) p) fun y H1 ⟨u, σ1, F1, O1, P1, m1, r1, s1, p1⟩ => ?_⟩
    split at p1
    · rename_i k l q1
      split at p1
      · rename_i j qj
        split at p1
        · rename_i w qw
          split at p1
          · exact p1.elim
          · rename_i hw
            obtain ⟨rfl, rfl⟩ := rep_v r1
            obtain ⟨x', Ot, e1, rt, nt, mt, back⟩ := m1.slot q1 rfl
            rw [ex] at e1
            cases e1
            simp only [rep] at rt
            obtain ⟨p0, vs, O', rfl, rfl, fp, hp, g1⟩ := rt
            obtain ⟨v, A, Pt, B, e1, rfl, rw_, bk⟩ := reps_split g1 qw
            obtain ⟨n0, n1⟩ := List.nodup_cons.mp nt
            obtain ⟨nA, ntt, nB, d1, d2, d3⟩ := nd3 n1
            have nAB : (A ++ [] ++ B).Nodup := nd3' n1 List.nodup_nil (by simp)
            have n0' : p0 ∉ A ++ [] ++ B := fun z => n0 (by simp at z ⊢; rcases z with h | h <;> simp [h])
            have al : Alc F1 H1 (p0 :: (A ++ Pt ++ B) ++ []) F1 H1 (p0 :: (A ++ [] ++ B) ++ Pt) := Alc.rfl m1.st.sub (nd_app (List.nodup_cons.mpr ⟨n0', nAB⟩) ntt fun z hz h => by
                rcases List.mem_cons.mp h with h | h
                · exact n0 (by rw [← h]; simp [hz])
                · simp at h
                  rcases h with h | h
                  · exact d1 z h hz
                  · exact d3 z hz h) (by intro z hz; simp at hz ⊢; rcases hz with h | h | h | h <;> simp [h])
            obtain ⟨O2, m2, _⟩ := back (t' := .own (l.set j .hole)) al (by
              simp only [rep]
              have ev : vs.set j v = vs := by
                apply List.ext_getElem?
                intro m
                by_cases hm : m = j
                · subst hm
                  rw [List.getElem?_set_self (List.getElem?_eq_some_iff.mp e1).1, e1]
                · rw [List.getElem?_set_ne (Ne.symm hm)]
              refine ⟨p0, vs, A ++ [] ++ B, rfl, rfl, fp, hp, ?_⟩
              have := bk (F' := F1) (H' := H1) (t' := .hole) (x' := v) (Ot' := []) Sub.rfl (fun a ha => ⟨rfl, (reps_at g1 a (by rcases List.mem_append.mp ha with y | y <;> simp [y])).1⟩) (by simp [rep])
              rw [ev] at this
              exact this)
            refine .inl ⟨p0, vs, k, v, rfl, rfl, .inl (.inl hp), ?_, m2.fin p1 rw_ ntt fun _ h => h⟩
            unfold atI
            rw [← reps_len g1, qj]
            exact e1
        · exact p1.elim
      · exact p1.elim
    · exact p1.elim
  · exact p.elim
end
end MV

namespace MVE
open PySem PySem.Spec PyProof.Rows L2
/-! ## enumerate of a tuple -/
def IteT (K : PySem.W.Frag) (a : Addr) (m : Nat) : It :=
  ⟨fun i H => ∃ (xs : List V) (x : V), SqT K H a xs ∧ xs.length = m ∧ xs[i]? = some x,
   fun i H v H' => ∃ T x, v = .ref T ∧ H T = none ∧ H' = upd H T (.tup [.int (i : Nat), x]) ∧ ∀ xs, SqT K H a xs → xs[i]? = some x,
   fun i H => ∃ xs : List V, SqT K H a xs ∧ xs.length = m ∧ m ≤ i⟩
theorem turn_enumT {P : Program} {w : World} {K : PySem.W.Frag} {elts : List Expr} {kk : Nat} {tpos : Pos} (a e it : Addr) (m : Nat) :
    Turn P w K (.Tuple elts kk tpos) (IteT K a m) [e, it] e (fun i h => (∃ old, IsEnum h e it ((i : Nat) : Int) old) ∧ h.IsTupleIter it a i ∧ e ≠ it ∧ e ≠ a ∧ a ≠ it ∧ i ≤ m) where
  mem := by simp
  obj := fun i h st b hb => by
    obtain ⟨⟨old, he⟩, ⟨o, ho, hc, hd⟩, _⟩ := st
    rcases (by simpa using hb : b = e ∨ b = it) with rfl | rfl
    · exact ⟨_, he, fun v q => nomatch q⟩
    · exact ⟨o, ho, fun v q => by rw [hd] at q; cases q⟩
  keep := fun i h h' st k => by
    obtain ⟨⟨old, he⟩, hi, r⟩ := st
    exact ⟨⟨old, k e (by simp) _ he⟩, hi.at fun o q => k it (by simp) o q, r⟩
  item := by
    intro X hP hw hK hc i pins s σ H E I hf st hg
    subst hP hw hK
    obtain ⟨⟨old, he⟩, hit, hne, hea, hai, him⟩ := st
    obtain ⟨xs, x, hq, hlen, hx⟩ := hg
    obtain ⟨its, rv, p, hz⟩ := I.tuple hq
    obtain ⟨u, hu, ru⟩ := rv.get hx
    have hel : e < s.heap.objs.size := Heap.lt_size he
    have hil : it < s.heap.objs.size := by
      obtain ⟨_, q, _⟩ := hit
      exact Heap.lt_size q
    have hlt : i < its.toArray.size := by
      have := (List.getElem?_eq_some_iff.mp hu).1
      simpa using this
    have D := Draws.tuple (prog := X.prog) (w := X.w) (A := X.A.in1) (by exact I.ok.hd hc) it a hai its.toArray
    have pT : s.heap.IsTuple a its.toArray := p
    refine wpAny_pyNext_enum_itemD D he ⟨hit, pT⟩ hlt hne (by simp [hne, hea]) fun y h' tk hy ho hst hT hsz hk => ?_
    have ey : y = u := by
      have h1 : its.toArray[i]? = some u := by simpa using hu
      rw [h1] at hy
      exact (Option.some.inj hy).symm
    subst ey
    refine ⟨_, rfl, wpAny_letOwnedTupleGo_enum (s := { s with heap := h', toks := tk + 1 }) ho fun h'' he' sb => ?_⟩
    have hT2 : h''.get? s.heap.objs.size = some { cls := .type "tuple", data := .seq #[.int i tk, y] } := (sb.2 _ (Nat.ne_of_gt hel)).trans hT
    have new : ObjOk X.prog X.w (upd H s.heap.objs.size (.tup [.int (i : Nat), x])) h'' s.heap.objs.size (.tup [.int (i : Nat), x]) :=
      ⟨by show 2 ≤ sizeLine; decide, [.int i tk, y], .cons ⟨_, rfl⟩ (.cons ru .nil), ⟨_, hT2, rfl, _, rfl⟩⟩
    have I1 : Inv X pins σ (upd H s.heap.objs.size (.tup [.int (i : Nat), x])) { s with heap := h'', toks := tk + 1 } :=
      I.turnedNew (ch := [e, it]) (fun b ob hb q => (sb.2 b (fun z => hb (by simp [z]))).trans (hk b ob (fun z => hb (by simp [z])) (fun z => hb (by simp [z])) q)) hf (Nat.le_refl _) new
    refine ⟨.ref s.heap.objs.size, _, I1, rfl, ⟨_, x, rfl, I.hok.fresh (Nat.le_refl _), rfl, fun ys hy => by rw [I.tuple_inj hy hq]; exact hx⟩, ⟨⟨y, ?_⟩, hst.1.at fun o q => (sb.2 it (Ne.symm hne)).trans q, hne, hea, hai, ?_⟩, fun b hb => ?_⟩
    · have e1 : ((i + 1 : Nat) : Int) = (i : Int) + 1 := by omega
      rw [e1]; exact he'
    · have hx' := (List.getElem?_eq_some_iff.mp hx).1
      omega
    · have hb' : b < s.heap.objs.size := by
        rcases (by simpa using hb : b = e ∨ b = it) with rfl | rfl
        · exact hel
        · exact hil
      rw [upd_ne (Nat.ne_of_lt hb')]
      exact (hf b hb).1
  done := by
    intro X hP hw hK hc i pins s σ H E I hf st hg
    subst hP hw hK
    obtain ⟨⟨old, he⟩, hit, hne, hea, hai, him⟩ := st
    obtain ⟨xs, hq, hlen, hx⟩ := hg
    obtain ⟨its, rv, p, hz⟩ := I.tuple hq
    obtain ⟨f0, f1, f2, f3, f4, f5⟩ := hf it (by simp)
    have hl := rv.length
    have hi : i = its.toArray.size := by simp; omega
    have D := Draws.tuple (prog := X.prog) (w := X.w) (A := X.A.in1) (by exact I.ok.hd hc) it a hai its.toArray
    have pT : s.heap.IsTuple a its.toArray := p
    refine wpAny_pyNext_enum_endD D he ⟨by rw [← hi]; exact hit, pT⟩ fun h' eb => ⟨rfl, I.turned (t' := s.toks) (fun b o hb q => eb b o hb q) f0 f1 f3 f4 f5⟩
  self := fun A i s Q E st h => by
    obtain ⟨⟨old, he⟩, _⟩ := st
    exact wpAny_pyIter_enum he h
set_option maxHeartbeats 1000000 in
theorem newB1 {v : Value} {o : Obj} {G : Heap → Prop} (B : Begins v o G) :
    Meets (Builtin.«enumerate.__new__» ⟨[.type "enumerate", v], []⟩) (fun _ R s => G s.heap ∧
      R (.ok (.ret (.ref (s.heap.push o).objs.size))) { s with heap := (s.heap.push o).push { cls := .type "enumerate", data := .fields #[.none, .bool false, .ref s.heap.objs.size, rawInt 0, .none, .none] } }) :=
  .of_wp fun prog w A R s hh => by
    obtain ⟨hp, g, d, tk, os⟩ := s
    obtain ⟨h1, h⟩ := hh
    have hsub := sub_enumerate
    have q1 : ∀ {A' : Around} {E : Value → Shared → Prop} {Q : Value → Shared → Prop}, Q (.ref hp.objs.size) ⟨hp.push o, g, d, tk, os⟩ → wpAny (model prog w) A' (pyIter v) Q E ⟨hp, g, d, tk, os⟩ :=
      fun q => B.iter prog w _ _ ⟨hp, g, d, tk, os⟩ _ h1 q
    wp_walk using q1
    refine wpAny_stack_any fun st => wpAny_pure ?_
    split
    · rename_i c _ _ _ _ _
      cases (c == Value.type "enumerate") <;> (wp_walk using q1; exact ⟨_, rfl, h⟩)
    · wp_walk using q1
      exact ⟨_, rfl, h⟩
theorem call_enumT {prog : Program} {w : World} {A : Around} {E : Value → Shared → Prop} {s : Shared} {a : Addr} {items : Array Value} {Q : Value → Shared → Prop} (hT : s.heap.IsTuple a items)
    (h : ∀ h', IsEnum h' (s.heap.objs.size + 1) s.heap.objs.size 0 .none → h'.IsTupleIter s.heap.objs.size a 0 → h'.objs.size = s.heap.objs.size + 2 →
      (∀ b o, s.heap.get? b = some o → h'.get? b = some o) → Q (.ref (s.heap.objs.size + 1)) { s with heap := h' }) :
    wpAny (model prog w) A (call (.type "enumerate") [.ref a]) Q E s := by
  refine callType_new F.called_enumerate (by decide) (F.typeCall_enumerate_1 _) (F.newCall_enumerate_1 _) (fun obj => F.args_object_init_2 obj _) F.entry_enumerate_new (newB1 (begins_tuple a items)) ⟨hT, ?_⟩
  have hz : (s.heap.push { cls := .type "tuple_iterator", data := .fields #[.ref a, .int 0 0] }).objs.size = s.heap.objs.size + 1 := Heap.size_push ..
  show _ ∧ _
  rw [hz]
  have he : IsEnum ((s.heap.push { cls := .type "tuple_iterator", data := .fields #[.ref a, .int 0 0] }).push
      { cls := .type "enumerate", data := .fields #[.none, .bool false, .ref s.heap.objs.size, rawInt 0, .none, .none] }) (s.heap.objs.size + 1) s.heap.objs.size 0 .none := by
    have z := Heap.get?_push_size (s.heap.push { cls := .type "tuple_iterator", data := .fields #[.ref a, .int 0 0] })
      (o := { cls := .type "enumerate", data := .fields #[.none, .bool false, .ref s.heap.objs.size, rawInt 0, .none, .none] }) rfl
    rw [hz] at z
    exact z
  exact ⟨⟨_, he, rfl⟩, h _ he ⟨_, Heap.get?_push_of_some _ (Heap.get?_push_size _ rfl), rfl, rfl⟩ (by rw [Heap.size_push, hz]) fun b o x => Heap.get?_push_of_some _ (Heap.get?_push_of_some _ x)⟩
def iEnumT (K : PySem.W.Frag) (ta : TA) : TI := fun σ H R => ta σ H fun vs H1 => ∃ a xs, vs = [.ref a] ∧ SqT K H1 a xs ∧ R (IteT K a xs.length) H1
theorem pi_enumT {X : Cx} {e : Expr} {ta : TA} {p pos tpos : Pos} {elts : List Expr} {kk : Nat} (hg : Gl X "enumerate") (hm : X.mg "enumerate" = none) (ha : PA X [e] ta) (hs : starEach [e] X.env = [(false, eval e X.env)] := by rfl) :
    PI X (.Tuple elts kk tpos) (.Call (.Name "enumerate" p) [e] [] pos) (iEnumT X.K ta) := by
  refine ⟨fun pins s σ H R I h => ?_⟩
  refine Call_ (ld_blt I hg hm boot_enumerate (PyProof.Rows.callWith_type1 (thn (ha.run pos pins s σ H _ I h) fun us s1 hh => ?_) hs rfl))
  obtain ⟨vs, H1, I1, r1, a, xs, ex, hq, q⟩ := hh
  subst ex
  cases r1 with
  | cons r rr =>
    cases rr
    cases r
    obtain ⟨its, rv, p', hz⟩ := I1.tuple hq
    have pT : s1.heap.IsTuple a its.toArray := p'
    have hal : a < s1.heap.objs.size := by
      obtain ⟨o, ho, _⟩ := pT
      exact Heap.lt_size ho
    refine call_enumT pT fun h' he hit hsz hk => wpAny_pyIter_enum he ?_
    have I2 : Inv X pins σ H1 { s1 with heap := h' } := I1.kept (t' := s1.toks) hk
    refine ⟨s1.heap.objs.size + 1, [s1.heap.objs.size + 1, s1.heap.objs.size], _, _, H1, rfl, I2, turn_enumT a (s1.heap.objs.size + 1) s1.heap.objs.size xs.length, ⟨⟨.none, he⟩, hit, Nat.succ_ne_self _, Nat.ne_of_gt (Nat.lt_succ_of_lt hal), Nat.ne_of_lt hal, Nat.zero_le _⟩, fun b hb => ?_, q⟩
    have hle : s1.heap.objs.size ≤ b := by
      rcases (by simpa using hb : b = s1.heap.objs.size + 1 ∨ b = s1.heap.objs.size) with z | z
      · rw [z]; exact Nat.le_add_right _ _
      · rw [z]; exact Nat.le_refl _
    exact I1.fpOk hle (I1.hok.fresh hle)
theorem walk_enumT {K : PySem.W.Frag} {a : Addr} {xs : List V} : Walk (IteT K a xs.length) xs.length (fun H => SqT K H a xs) (YPair (fun i => some (.int (i : Nat))) (fun i => xs[i]?)) := by
  refine ⟨fun i _ hi q => ⟨xs, xs[i], q, rfl, by simp [hi]⟩, fun _ q => ⟨xs, q, rfl, Nat.le_refl _⟩, fun i H v H' _ q y => ?_⟩
  obtain ⟨T, x, h1, h2, h3, h4⟩ := y
  exact ⟨T, .int (i : Nat), x, h1, h2, h3, rfl, h4 xs q⟩
end MVE
namespace MV
open PySem PySem.Spec PyProof.Rows L2 MVE
section
variable {X : Cx} {c : Ct} {a : Expr} {f : List T → Res T} {p pos tpos : Pos} {elts : List Expr} {kk : Nat} {tg : Expr}
/-- a list or a tuple is walked -/
def mItA (f : List T → Res T) : List T → Res (List T) := fun σ => (f σ).bind fun t σ1 =>
  match t with
  | .tup l => .ok l σ1
  | t => match seqL t with
    | some l => .ok (fzs l) σ1
    | none => .stuck
theorem i_any (hK : c.e.K = X.K) (h : PE X a (tE c f)) : PI X tg a (tI c (mItA f)) := ⟨fun pins s τ H R I q => by
  obtain ⟨F, σ, O, st, p⟩ := q
  by_cases z : ∃ l σ1, f σ = .ok (.tup l) σ1
  · obtain ⟨l, σ1, e⟩ := z
    refine (i_tup (tg := tg) hK h).run pins s τ H R I ⟨F, σ, O, st, ?_⟩
    unfold mItA at p
    unfold mItT
    rw [e] at p ⊢
    exact p
  · refine (i_list (tg := tg) hK h).run pins s τ H R I ⟨F, σ, O, st, ?_⟩
    unfold mItA at p
    unfold mItL
    cases e : f σ with
    | stuck => rw [e] at p; exact p
    | exc _ _ _ _ => rw [e] at p; exact p
    | ok t σ1 =>
      rw [e] at p
      simp only [Res.bind] at p ⊢
      cases t <;> first | exact p | exact absurd ⟨_, _, e⟩ z⟩
/-- enumerate of a list or a tuple -/
def mEnA (f : List T → Res T) : List T → Res (List T) := fun σ => (f σ).bind fun t σ1 =>
  match t with
  | .tup l => .ok (enumT 0 l) σ1
  | t => match seqL t with
    | some l => .ok (enumT 0 (fzs l)) σ1
    | none => .stuck
def mEnT (f : List T → Res T) : List T → Res (List T) := fun σ => (f σ).bind fun t σ1 =>
  match t with
  | .tup l => .ok (enumT 0 l) σ1
  | _ => .stuck
theorem i_enT (hK : c.e.K = X.K) (hg : Gl X "enumerate") (hm : X.mg "enumerate" = none) (h : PE X a (tE c f)) (hs : starEach [a] X.env = [(false, eval a X.env)] := by rfl) :
    PI X (.Tuple elts kk tpos) (.Call (.Name "enumerate" p) [a] [] pos) (tI c (mEnT f)) := (pi_enumT hg hm (pa_cons h pa_nil hs) hs).wk fun τ H R h => by
  obtain ⟨F, σ, O, st, p⟩ := h
  refine Tm.mono (i_run st p) fun x H1 ⟨t, σ1, F1, O1, P1, m1, r1, p1⟩ => ?_
  split at p1
  · rename_i l
    obtain ⟨rfl, a0, vs, rfl, h1, g1⟩ := rep_tup r1
    rw [hK] at h1
    have fr := reps_fr2.mp g1
    refine ⟨a0, vs, rfl, m1.st.sub.sqt h1, m1.walk p1 ?_⟩
    refine walk_pair (H0 := H1) (n := 0) (tx := fun _ => none) (ty := fun _ => none) (by rw [enumT_len, fr.1]; exact walk_enumT) (fun H s => s.sqt h1) fun i x y hi e1 e2 => ?_
    cases e1
    have hi' : i < l.length := by simpa [enumT_len] using hi
    refine ⟨.v (.int (i : Nat)), l[i], ?_, rep_v', fr.2 i _ y (List.getElem?_eq_getElem hi') e2⟩
    rw [enumT_get, List.getElem?_eq_getElem hi']
    simp
  · exact p1.elim
theorem i_enA (hK : c.e.K = X.K) (hg : Gl X "enumerate") (hm : X.mg "enumerate" = none) (h : PE X a (tE c f)) (hs : starEach [a] X.env = [(false, eval a X.env)] := by rfl) :
    PI X (.Tuple elts kk tpos) (.Call (.Name "enumerate" p) [a] [] pos) (tI c (mEnA f)) := ⟨fun pins s τ H R I q => by
  obtain ⟨F, σ, O, st, p⟩ := q
  by_cases z : ∃ l σ1, f σ = .ok (.tup l) σ1
  · obtain ⟨l, σ1, e⟩ := z
    refine (i_enT hK hg hm h hs).run pins s τ H R I ⟨F, σ, O, st, ?_⟩
    unfold mEnA at p
    unfold mEnT
    rw [e] at p ⊢
    exact p
  · refine (i_enum hK hg hm h hs).run pins s τ H R I ⟨F, σ, O, st, ?_⟩
    unfold mEnA at p
    unfold mEnum
    cases e : f σ with
    | stuck => rw [e] at p; exact p
    | exc _ _ _ _ => rw [e] at p; exact p
    | ok t σ1 =>
      rw [e] at p
      simp only [Res.bind] at p ⊢
      cases t <;> first | exact p | exact absurd ⟨_, _, e⟩ z⟩
end
end MV

namespace MVX
open PySem PySem.W PySem.Calls PyProof.Rows PySem.HandSPX
section
variable {prog : Program} {w : World} {A : Around} {E : Value → Shared → Prop} {R : Result → Shared → Prop} {s : Shared} {K : Frag} {mg : Str → Option Value} {nm : Str} {C fI : Addr} {ns : List Str}
/-- C(v, u): two fields -/
theorem made2 {f f2 : Str} (T : Xt prog K mg nm C fI [f, f2]) {qual : Str} {ar : Arguments} {bd : List Stmt} {sc : Scope} (I : Xi prog K C fI qual ar bd sc) (S : Xs qual ar bd sc [f, f2]) {q1 q2 q3 q4 r1 r2 r3 r4 : Pos}
    (has : S.as = [.Assign [.Attribute (.Name "self" q1) f q2] (.Name f q3) q4, .Assign [.Attribute (.Name "self" r1) f2 r2] (.Name f2 r3) r4])
    (hsw : ∀ (L fI : Addr) (cd : Value) (cc : Addr), swapsWith (.Name f q3) (some (.Attribute (.Name "self" q1) f q2)) q4.line (ksEnv qual sc L fI cd cc) = pure false)
    (hsw2 : ∀ (L fI : Addr) (cd : Value) (cc : Addr), swapsWith (.Name f2 r3) (some (.Attribute (.Name "self" r1) f2 r2)) r4.line (ksEnv qual sc L fI cd cc) = pure false)
    (hfs : (("self" : Str) == f) = false) (hfs2 : (("self" : Str) == f2) = false) (hff : (f == f2) = false) {v u : Value} (X : K.In s.heap) (G : Glb mg s.heap) (hlim : s.heap.NoLimit) (hroom : A.depth + 1 < recursionLimit)
    (hq : ∀ h' tk e d, Made s.heap h' e C d (fun y => if y = f2 then some u else if y = f then some v else none) → R (.ok (.ret (.ref e))) { s with heap := h', toks := tk }) :
    codeAny (model prog w) A (.call (.ref C) ⟨[v, u], []⟩) R s := by
  obtain ⟨nm', q, N, bs, bm, sn, sub, ab, col, dd, k0, k1', k2', k3', k5, hC, hbm⟩ := T.cls
  obtain ⟨hp, g, dr, tk, os⟩ := s
  have k : ∀ b o, hp.get? b = some o → ((hp.push (kdv_tup [v, u])).push (excO C hp.objs.size)).get? b = some o := fun b o e => Heap.get?_push_of_some _ (Heap.get?_push_of_some _ e)
  have hget : ((hp.push (kdv_tup [v, u])).push (excO C hp.objs.size)).get? (hp.objs.size + 1) = some (excO C hp.objs.size) := by heap_get
  have big : ∀ {a : Addr} {o : Obj}, hp.get? a = some o → a ≠ hp.objs.size + 1 := fun {a o} e => Nat.ne_of_lt (Nat.lt_succ_of_lt (Heap.lt_size e))
  have hnx : K.lookup (hp.objs.size + 1) = none := by
    cases e : K.lookup (hp.objs.size + 1) with
    | none => rfl
    | some o => exact absurd rfl (big (X _ _ e))
  have hxC : hp.objs.size + 1 ≠ C := fun z => big (X _ _ hC) z.symm
  refine call_own PySem.F.excBase_ValueError (fun Y => refsVE_contains Y bm hbm) (X _ _ hC) (looks_findIn X T.iC) (fun self => bind_fn X self T.tI) (by rw [sizeLine_eq]; simp) ?_
  refine init_start (s := ⟨(hp.push (kdv_tup [v, u])).push (excO C hp.objs.size), g, dr, tk, os⟩) T I S rfl (X.keeps k) (G.keeps k) (hlim.keeps k) hget hxC hnx (by show A.depth + 1 < recursionLimit; exact hroom) (by simp [List.lookup, hfs, hfs2]) fun env m h' tk' t1 eL eS hn em X' kp hlt hx' ⟨cd, cc, eq'⟩ => ?_
  rw [has]
  have s2 : ((hp.push (kdv_tup [v, u])).push (excO C hp.objs.size)).objs.size = hp.objs.size + 2 := by simp [Heap.size_push]
  have h1 : hp.objs.size + 2 < h'.objs.size := by rw [← s2]; exact hlt
  have ms : m "self" = some (.ref (hp.objs.size + 1)) := by rw [em]; simp [List.lookup, hfs, hfs2]
  have mf : m f = some v := by rw [em]; simp [List.lookup, hff]
  have mf2 : m f2 = some u := by rw [em]; simp [List.lookup]
  refine wpAny_execs_cons (st_first T (f := f) (v := v) (by simp) X' eL hn ms mf (by rw [eS]; exact S.kind) (by show env.scope.names.lookup _ = _; rw [eS]; exact S.kself) (by show env.scope.names.lookup _ = _; rw [eS]; exact S.kn f (by simp)) (S.nd f (by simp)) hx' (by rw [eq']; exact hsw _ _ _ _)
    fun h3 tk3 dx k3 dbig dne hx3 hn3 => ?_)
  have z : hp.objs.size + 2 < dx := Nat.lt_of_lt_of_le h1 dbig
  have X3 : K.In h3 := keptBut X' hnx k3
  have hLx : (Heap.objs ((hp.push (kdv_tup [v, u])).push (excO C hp.objs.size))).size ≠ hp.objs.size + 1 := by rw [s2]; exact Nat.succ_ne_self _
  have n3 : h3.Ns ((hp.push (kdv_tup [v, u])).push (excO C hp.objs.size)).objs.size m := by
    obtain ⟨oL, es, ep, e1, e2⟩ := hn
    exact ⟨oL, es, ep, k3 _ _ hLx e1, e2⟩
  refine wpAny_execs_cons (st_next T (f := f2) (v := u) (nl := [f]) (by simp) X3 eL n3 ms mf2 (by rw [eS]; exact S.kind) (by show env.scope.names.lookup _ = _; rw [eS]; exact S.kself) (by show env.scope.names.lookup _ = _; rw [eS]; exact S.kn f2 (by simp)) (S.nd f2 (by simp)) hx3 hn3 within1 (by simp) (by rw [eq']; exact hsw2 _ _ _ _)
    fun h4 tk4 k4 hn4 => ?_)
  refine wpAny_execs_nil ?_
  have old : ∀ b o, hp.get? b = some o → h4.get? b = some o := fun b o e => k4 b o (Nat.ne_of_lt (Nat.lt_trans (Nat.lt_of_lt_of_le (Heap.lt_size e) (Nat.le_add_right _ 2)) z)) (k3 b o (big e) (kp b o (big e) (k b o e)))
  exact ⟨rfl, hq h4 tk4 (hp.objs.size + 1) dx ⟨old, Nat.le_succ _, ⟨_, _, k4 _ _ (Ne.symm dne) hx3, rfl, rfl, rfl, rfl⟩, Nat.le_of_lt (Nat.lt_trans (Nat.lt_add_of_pos_right (by decide)) z), dne, hn4⟩⟩
end
end MVX
namespace MV
open PySem PySem.Spec PyProof.Rows L2
section
variable {X : Cx} {C fI : Addr}
theorem relO_two {f f2 : Str} {y z : V} {u w : Value} (hff : (f == f2) = false) (r : RelV y u) (r2 : RelV z w) (g : Str) : RelO (List.lookup g [(f, y), (f2, z)]) (if g = f2 then some w else if g = f then some u else none) := by
  have hne : f ≠ f2 := by simpa using hff
  by_cases h : g = f
  · subst h
    have q : List.lookup g [(g, y), (f2, z)] = some y := by simp [List.lookup]
    rw [q, if_neg hne, if_pos rfl]
    exact r
  · have q : (g == f) = false := by simpa using h
    have q2 : List.lookup g [(f, y), (f2, z)] = List.lookup g [(f2, z)] := by simp [List.lookup, q]
    rw [q2, if_neg h]
    exact relO_one r2 g
theorem makes2 {nm f f2 : Str} (T : MVX.Xt X.prog X.K X.mg nm C fI [f, f2]) {qual : Str} {ar : Arguments} {bd : List Stmt} {sc : Scope} (I : MVX.Xi X.prog X.K C fI qual ar bd sc) (S : MVX.Xs qual ar bd sc [f, f2]) {q1 q2 q3 q4 r1 r2 r3 r4 : Pos}
    (has : S.as = [.Assign [.Attribute (.Name "self" q1) f q2] (.Name f q3) q4, .Assign [.Attribute (.Name "self" r1) f2 r2] (.Name f2 r3) r4])
    (hsw : ∀ (L fI : Addr) (cd : Value) (cc : Addr), swapsWith (.Name f q3) (some (.Attribute (.Name "self" q1) f q2)) q4.line (PySem.W.ksEnv qual sc L fI cd cc) = pure false)
    (hsw2 : ∀ (L fI : Addr) (cd : Value) (cc : Addr), swapsWith (.Name f2 r3) (some (.Attribute (.Name "self" r1) f2 r2)) r4.line (PySem.W.ksEnv qual sc L fI cd cc) = pure false)
    (hfs : (("self" : Str) == f) = false) (hfs2 : (("self" : Str) == f2) = false) (hff : (f == f2) = false) : MakesX X C [f, f2] := by
  intro s A R us hl X0 G lim room hq
  match us, hl with
  | [v, u], _ =>
    refine MVX.made2 T I S has hsw hsw2 hfs hfs2 hff X0 G lim room fun h' tk e d M => hq h' tk e d _ M fun vs r g => ?_
    cases r with
    | cons rv rn =>
      cases rn with
      | cons ru rn => cases rn; exact relO_two hff rv ru g
end
end MV

namespace MV
open PySem PySem.Spec PyProof.Rows L2
/-! ## // by any number but 0 -/
def divG (j : Int) : Bool := decide (j ≠ 0) && decide (j.natAbs.log2 < 9000)
def gDiv : OS := iOp fun i j => if divG j then some (.int (i.fdiv j)) else none
theorem op_fdivG {X : Cx} : OpR X (binaryOp .FloorDiv) (rI (fun _ j => divG j = true) fun i j => .int (i.fdiv j)) := opI fun i j _ _ _ _ _ hc q => by
  unfold divG at hc
  simp only [Bool.and_eq_true, decide_eq_true_eq] at hc
  exact floordiv_int hc.1 q (.inl (PyProof.noPylong_of_log2 hc.2))
theorem ok_divG {e : En} : OpOk e (rI (fun _ j => divG j = true) fun i j => .int (i.fdiv j)) gDiv := ok_rI (C' := fun _ j => divG j) fun i j h => h
end MV

namespace MV
open PySem PySem.Spec PyProof.Rows L2
/-! ## C(x): x is read while C is made, and stays its owner's -/
mutual
/-- no list in it -/
def noL : T → Bool
  | .v _ => true
  | .tup l => noLs l
  | .ins _ _ l => noLs l
  | .oin _ _ l => noLs l
  | _ => false
def noLs : List T → Bool
  | [] => true
  | t :: ts => noL t && noLs ts
end
mutual
/-- its own cells are lists -/
def onL : T → Bool
  | .oin _ _ _ => false
  | .own l => onLs l
  | _ => true
def onLs : List T → Bool
  | [] => true
  | t :: ts => onL t && onLs ts
end
def cutF (F : Hp) (D : List Addr) : Hp := fun a => if a ∈ D then none else F a
section
variable {e : En} {F H : Hp}
mutual
theorem rep_onL : ∀ {t : T} {x : V} {O : List Addr}, onL t = true → rep e F H t x O → ∀ a ∈ O, ∃ vs, H a = some (.lst vs)
  | .hole, x, O, h, r => by simp only [rep] at r; simp [r]
  | .v c, x, O, h, r => by simp only [rep] at r; simp [r.2]
  | .tup l, x, O, h, r => by simp only [rep] at r; simp [r.1]
  | .lst l, x, O, h, r => by simp only [rep] at r; simp [r.1]
  | .kl l, x, O, h, r => by simp only [rep] at r; simp [r.1]
  | .ins C ns l, x, O, h, r => by simp only [rep] at r; simp [r.1]
  | .xc C ns l, x, O, h, r => by simp only [rep] at r; simp [r.1]
  | .oin C ns l, x, O, h, r => by simp [onL] at h
  | .own l, x, O, h, r => by
    simp only [rep] at r
    simp only [onL] at h
    obtain ⟨a, vs, O', h1, rfl, h2, h3, h4⟩ := r
    intro b hb
    rcases List.mem_cons.mp hb with rfl | hb
    · exact ⟨_, h3⟩
    · exact reps_onL h h4 b hb
theorem reps_onL : ∀ {l : List T} {vs : List V} {O : List Addr}, onLs l = true → reps e F H l vs O → ∀ a ∈ O, ∃ vs, H a = some (.lst vs)
  | [], vs, O, h, r => by simp only [reps] at r; simp [r.2]
  | t :: ts, vs, O, h, r => by
    simp only [reps] at r
    simp only [onLs, Bool.and_eq_true] at h
    obtain ⟨x, xs, O1, O2, h1, rfl, h2, h3⟩ := r
    intro b hb
    rcases List.mem_append.mp hb with hb | hb
    · exact rep_onL h.1 h2 b hb
    · exact reps_onL h.2 h3 b hb
end
theorem cut_keep {D : List Addr} (hD : ∀ a ∈ D, ∃ vs, F a = some (.lst vs)) {a : Addr} {o : HO} (h : F a = some o) (no : ∀ vs, o ≠ .lst vs) : cutF F D a = some o := by
  unfold cutF
  rw [if_neg fun z => ?_]
  · exact h
  · obtain ⟨vs, q⟩ := hD a z
    rw [h] at q
    cases q
    exact no vs rfl
theorem cut_sqt {K : PySem.W.Frag} {D : List Addr} (hD : ∀ a ∈ D, ∃ vs, F a = some (.lst vs)) {a : Addr} {vs : List V} (h : SqT K F a vs) : SqT K (cutF F D) a vs := by
  rcases h with (h | ⟨o, h⟩) | h
  · exact .inl (.inl (cut_keep hD h fun _ z => by cases z))
  · exact .inl (.inr ⟨o, cut_keep hD h fun _ z => by cases z⟩)
  · exact .inr h
mutual
theorem rep_cut {D : List Addr} (hD : ∀ a ∈ D, ∃ vs, F a = some (.lst vs)) : ∀ {t : T} {x : V} {O : List Addr}, noL t = true → rep e F H t x O → rep e (cutF F D) H t x O
  | .hole, x, O, h, r => by simp [noL] at h
  | .v c, x, O, h, r => by simp only [rep] at r ⊢; exact r
  | .lst l, x, O, h, r => by simp [noL] at h
  | .kl l, x, O, h, r => by simp [noL] at h
  | .own l, x, O, h, r => by simp [noL] at h
  | .xc C ns l, x, O, h, r => by simp [noL] at h
  | .tup l, x, O, h, r => by
    simp only [rep] at r ⊢
    simp only [noL] at h
    obtain ⟨h1, a, vs, h2, h3, h4⟩ := r
    exact ⟨h1, a, vs, h2, cut_sqt hD h3, reps_cut hD h h4⟩
  | .ins C ns l, x, O, h, r => by
    simp only [rep] at r ⊢
    simp only [noL] at h
    obtain ⟨h1, hn, a, dx, Ca, vs, h2, h3, h4, h5⟩ := r
    exact ⟨h1, hn, a, dx, Ca, vs, h2, h3, cut_keep hD h4 (fun _ z => by cases z), reps_cut hD h h5⟩
  | .oin C ns l, x, O, h, r => by
    simp only [rep] at r ⊢
    simp only [noL] at h
    obtain ⟨hn, a, dx, Ca, vs, O', h2, h3, h4, h5, h6, h7⟩ := r
    refine ⟨hn, a, dx, Ca, vs, O', h2, h3, h4, ?_, h6, reps_cut hD h h7⟩
    unfold cutF
    split
    · rfl
    · exact h5
theorem reps_cut {D : List Addr} (hD : ∀ a ∈ D, ∃ vs, F a = some (.lst vs)) : ∀ {l : List T} {vs : List V} {O : List Addr}, noLs l = true → reps e F H l vs O → reps e (cutF F D) H l vs O
  | [], vs, O, h, r => by simp only [reps] at r ⊢; exact r
  | t :: ts, vs, O, h, r => by
    simp only [reps] at r ⊢
    simp only [noLs, Bool.and_eq_true] at h
    obtain ⟨x, xs, O1, O2, h1, h2, h3, h4⟩ := r
    exact ⟨x, xs, O1, O2, h1, h2, rep_cut hD h.1 h3, reps_cut hD h.2 h4⟩
end
end
def mMakeR (C : Str) (m : List T → FRes) (i : Nat) : List T → Res T := fun σ => match σ[i]? with
  | some (.own l) => if onLs l then (match m [.oin C [] [], fz (.own l)] with
    | .ok (.v .non) b => if noL b then .ok b σ else .stuck
    | .exc E ns us _ => if noLs us then .exc E ns us σ else .stuck
    | _ => .stuck) else .stuck
  | _ => .stuck
section
variable {X : Cx} {c : Ct} {a : Expr} {p pos : Pos} {i k : Nat}
theorem e_makeR {x : Str} {fI Ca : Addr} {fd : FuncData} {ps : List Str} {m : List T → FRes} (M : Mk X.K Ca fI) (Fn : FnOk X.prog X.w X.K X.mg X.base (L2.CX X.prog X.w) k fI fd ps (spM ⟨X.K, X.mg, none⟩ ps.length m)) (hr : Room (k + 1) X.A) (hg : Gl X x) (hm : X.mg x = some (.ref Ca)) (hb : Binds X.K fd ps [])
    (he : c.e = ⟨X.K, X.mg, none⟩) (tk : Takes X c.W) (ha : PE X a (tVar i)) (hlen : ps.length = 2) (hdb : (x == ("__debug__" : Str)) = false := by decide)
    (hst : starEach (a :: []) X.env = (false, eval a X.env) :: starEach [] X.env := by rfl) (hpl : (backTo pos (starEach [] X.env)).any (·.1) = false := by rfl) :
    PE X (.Call (.Name x p) (a :: []) [] pos) (tE c (mMakeR x m i)) := ⟨fun pins s τ H Q I h => by
  have hA := pa_cons ha (pa_nil (X := X)) hst
  refine wpAny_Call_Name_kw (ld_glob I hg hm ?_ hdb)
  refine PySem.W.callWith_K (h₀ := X.base) I.ok.mod.kin M.kp (thn (hA.run pos pins s τ H (fun vs H1 => ∀ y dx, H1 y = none → H1 dx = none → dx ≠ y → spM ⟨X.K, X.mg, none⟩ ps.length m (.ref y :: vs) (upd (upd H1 dx (.own y)) y (.ins Ca dx [])) (fun v H2 => v = .non ∧ Q (.ref y) H2) (WE c.W τ)) I ?_) fun us s1 ⟨vs, H1, I1, r, q⟩ => ⟨I1.kIn, go_make M Fn hr hb (passAt tk τ) I1 r q⟩) hst hpl
  obtain ⟨F, σ, O, st, p⟩ := h
  unfold mMakeR at p
  split at p
  · rename_i l q0
    split at p
    · rename_i hon
      obtain ⟨v0, O1, Ot, O2, ev, rfl, r0, _⟩ := st.slot q0 rfl
      refine ⟨v0, ev, ?_⟩
      intro y dx hy hdx hne
      have hOt : ∀ z ∈ Ot, F z = none ∧ ∃ o, H z = some o := rep_at r0
      have hL : ∀ z ∈ Ot, ∃ vs, H z = some (.lst vs) := rep_onL (t := .own l) (by simpa only [onL] using hon) r0
      have nyz : ∀ z o, H z = some o → z ≠ y ∧ z ≠ dx := fun z o h => ⟨(fun w => by rw [w, hy] at h; cases h), (fun w => by rw [w, hdx] at h; cases h)⟩
      have h2 : ∀ z o, H z = some o → upd (upd H dx (.own y)) y (.ins Ca dx []) z = some o := fun z o h => by
        rw [upd_ne (nyz z o h).1, upd_ne (nyz z o h).2]
        exact h
      have hback : ∀ z, upd (upd H dx (.own y)) y (.ins Ca dx []) z = none → H z = none := fun z h => by
        cases w : H z with
        | none => rfl
        | some o => rw [h2 z o w] at h; cases h
      have hF : ∀ z ∈ Ot, F z = none := fun z hz => (hOt z hz).1
      have sF : Sub F (put F H Ot) := put_sub hF
      have sP : Sub (put F H Ot) H := st.sub.put
      have sP2 : Sub (put F H Ot) (upd (upd H dx (.own y)) y (.ins Ca dx [])) := fun z o h => h2 z o (sP z o h)
      have rz : rep c.e (put F H Ot) H (fz (.own l)) v0 [] := rep_fz sF (O' := Ot) (fun z hz => put_in hz) r0 fun _ h => h
      have Fy : put F H Ot y = none := sP.no hy
      have dP : ∀ z ∈ O1 ++ Ot ++ O2, ∃ o, H z = some o := fun z hz => by
        obtain ⟨vs, rv, _⟩ := st.vals
        exact (reps_at rv z hz).2
      refine ⟨by simp [hlen], put F H Ot, [.oin x [] [], fz (.own l)], [y], ?_, by simp, sP2, ?_⟩
      · rw [← he]
        simp only [reps]
        refine ⟨.ref y, [v0], [y], [], rfl, rfl, ?_, v0, [], [], [], rfl, rfl, rep_mono Sub.rfl rz (by simp), rfl, rfl⟩
        simp only [rep, reps]
        exact ⟨rfl, y, dx, Ca, [], [], rfl, by rw [he]; exact hm, rfl, Fy, by rw [upd_same]; all_goals rfl, rfl, rfl⟩
      · simp only [List.headD_cons]
        -- what holds behind the call
        have back : ∀ (F3 H3 : Hp) (N : List Addr), Sub F3 H3 → Stp (put F H Ot) (upd (upd H dx (.own y)) y (.ins Ca dx [])) [y] F3 H3 N →
            (∀ z ∈ Ot, ∃ vs, F3 z = some (.lst vs)) ∧ Sta c.e c.bor (cutF F3 Ot) H3 τ σ (O1 ++ Ot ++ O2) ∧ (∀ Pb, (∀ z ∈ Pb, z ∈ N) → Stp F H (O1 ++ Ot ++ O2) (cutF F3 Ot) H3 (O1 ++ Ot ++ O2 ++ Pb)) ∧ ∀ z ∈ N, z ∉ O1 ++ Ot ++ O2 := by
          intro F3 H3 N s3 t3
          have hD : ∀ z ∈ Ot, ∃ vs, F3 z = some (.lst vs) := fun z hz => by
            obtain ⟨vs, hv⟩ := hL z hz
            exact ⟨vs, t3.sub z _ ((put_in hz).trans hv)⟩
          have hH : ∀ z o, H z = some o → H3 z = some o := fun z o h => t3.keep z o (h2 z o h) fun w => by
            rw [List.mem_singleton.mp w, hy] at h; cases h
          have hFn : ∀ z ∈ O1 ++ Ot ++ O2, cutF F3 Ot z = none := fun z hz => by
            unfold cutF
            split
            · rfl
            · rename_i nz
              obtain ⟨vs, rv, _⟩ := st.vals
              obtain ⟨f0, o, ho⟩ := reps_at rv z hz
              cases w : F3 z with
              | none => rfl
              | some u =>
                rcases t3.new z u w ((put_out nz).trans f0) with g | g
                · rw [List.mem_singleton.mp g, hy] at ho; cases ho
                · rw [hback z g] at ho; cases ho
          have sFc : Sub F (cutF F3 Ot) := fun z o h => by
            unfold cutF
            rw [if_neg fun w => by rw [hF z w] at h; cases h]
            exact t3.sub z o (sF z o h)
          have sC : Sub (cutF F3 Ot) H3 := fun z o h => by
            unfold cutF at h
            split at h
            · cases h
            · exact s3 z o h
          have hN : ∀ z ∈ N, H z = none := fun z hz => by
            rcases t3.own z hz with g | g
            · rw [List.mem_singleton.mp g]; exact hy
            · exact hback z g
          refine ⟨hD, ⟨sC, st.nd, st.len, ?_, st.bor⟩, fun Pb hPb => ⟨sFc, fun z o h hn => ?_, fun z o h hn => hH z o h, fun z o h => ⟨o, hH z o h⟩, fun z hz => ?_⟩, fun z hz hm => ?_⟩
          · obtain ⟨vs, rv, hv⟩ := st.vals
            exact ⟨vs, reps_mono sFc rv fun z hz => by
              obtain ⟨o, ho⟩ := dP z hz
              exact ⟨by rw [hH z o ho, ho], hFn z hz⟩, hv⟩
          · unfold cutF at h
            split at h
            · cases h
            · rename_i nz
              rcases t3.new z o h ((put_out nz).trans hn) with g | g
              · right
                rw [List.mem_singleton.mp g]; exact hy
              · exact .inr (hback z g)
          · rcases List.mem_append.mp hz with g | g
            · exact .inl g
            · exact .inr (hN z (hPb z g))
          · obtain ⟨o, ho⟩ := dP z hm
            rw [hN z hz] at ho; cases ho
        cases q : m [.oin x [] [], fz (.own l)] with
        | stuck => rw [q] at p; exact p.elim
        | ok t b =>
          rw [q] at p
          split at p
          · rename_i b' w
            cases w
            split at p
            · rename_i hnl
              intro F3 H3 z P3 Pb sb rz3 rb n3 s3
              obtain ⟨rfl, rfl⟩ := rep_v rz3
              refine ⟨rfl, ?_⟩
              obtain ⟨hD, st3, stp3, dj⟩ := back F3 H3 _ sb s3
              have nb : Pb.Nodup := by simpa using n3
              exact p _ _ _ _ Pb st3 (rep_cut hD hnl (by rw [he]; exact rb)) (nd_app st.nd nb fun z hz => dj z (by simp [hz])) (stp3 Pb fun z hz => by simp [hz])
            · exact p.elim
          · rename_i w; cases w
          · exact p.elim
        | exc E ns us b =>
          rw [q] at p
          have p' : Post c (RT c.e) F H (O1 ++ Ot ++ O2) τ Q (if noLs us then .exc E ns us σ else .stuck) := p
          split at p'
          · rename_i hnl
            intro F3 H3 Cx d Pb sb rb nb s3 xr
            obtain ⟨hD, st3, stp3, dj⟩ := back F3 H3 _ sb s3
            obtain ⟨x1, x2, x3⟩ := xr
            refine p' _ _ _ Cx d st3 ((stp3 [] (by simp)).sub_own (by intro z hz; simpa using hz)) ⟨by rw [he]; exact x1, x2, ?_⟩
            rcases x3 with x3 | ⟨dx', vs', x4, x5, x6⟩
            · exact .inl x3
            · exact .inr ⟨dx', vs', x4, cut_keep hD x5 (fun _ z => by cases z), reps_cut hD hnl (by rw [he]; exact x6)⟩
          · exact p'.elim
    · exact p.elim
  · exact p.elim⟩
end
end MV

namespace MV
open PySem PySem.Spec PyProof.Rows L2
/-! ## Running a mirror over letters -/
section
variable {m k : List T → SRes} {f g h : List T → Res T} {fb gb : List T → Res Bool} {ga : List T → Res (List T)} {w : T → List T → Option (List T)} {wl : List T → List T → Option (List T)} {σ σ1 : List T} {t u : T} {ts : List T} {α β : Type} {C : Str} {ns : List Str} {i n : Nat} {s s2 : OS}
@[simp] theorem z_bind_ok {a : α} {k : α → List T → Res β} : (Res.ok a σ).bind k = k a σ := id rfl
@[simp] theorem z_bind_exc {k : α → List T → Res β} : (Res.exc C ns ts σ : Res α).bind k = .exc C ns ts σ := id rfl
@[simp] theorem z_bind_st {k : α → List T → Res β} : (Res.stuck : Res α).bind k = .stuck := id rfl
@[simp] theorem z_sbind_ok {a : α} {k : α → List T → SRes} : (Res.ok a σ).sbind k = k a σ := id rfl
@[simp] theorem z_sbind_exc {k : α → List T → SRes} : (Res.exc C ns ts σ : Res α).sbind k = .exc C ns ts σ := id rfl
@[simp] theorem z_sbind_st {k : α → List T → SRes} : (Res.stuck : Res α).sbind k = .stuck := id rfl
@[simp] theorem z_seq_nx : (SRes.nx σ).seq k = k σ := id rfl
@[simp] theorem z_seq_rt : (SRes.rt t σ).seq k = .rt t σ := id rfl
@[simp] theorem z_seq_exc : (SRes.exc C ns ts σ).seq k = .exc C ns ts σ := id rfl
@[simp] theorem z_seq_bk : (SRes.bk σ).seq k = .bk σ := id rfl
@[simp] theorem z_seq_ct : (SRes.ct σ).seq k = .ct σ := id rfl
@[simp] theorem z_seq : mSeq m k σ = (m σ).seq k := id rfl
@[simp] theorem z_ex : mEx f σ = (f σ).sbind fun _ σ1 => .nx σ1 := id rfl
@[simp] theorem z_ret : mRet f σ = (f σ).sbind fun t σ1 => .rt t σ1 := id rfl
@[simp] theorem z_retN : mRetN σ = .rt (.v .non) σ := id rfl
@[simp] theorem z_if : mIf fb m k σ = (fb σ).sbind fun b σ1 => if b then m σ1 else k σ1 := id rfl
@[simp] theorem z_nil : mNil σ = .ok [] σ := id rfl
@[simp] theorem z_cons : mCons f ga σ = (f σ).bind fun t σ1 => (ga σ1).bind fun ts σ2 => .ok (t :: ts) σ2 := id rfl
@[simp] theorem z_c : mC t σ = .ok t σ := id rfl
@[simp] theorem z_op2 : mOp2 s f g σ = (f σ).bind fun t σ1 => (g σ1).bind fun u σ2 => match s t u with | some w => .ok w σ2 | none => .stuck := id rfl
@[simp] theorem z_tru : mTru f σ = (f σ).bind fun t σ1 => match truT t with | some k => .ok k σ1 | none => .stuck := id rfl
@[simp] theorem z_bl : mBl f σ = (f σ).bind fun t σ1 => match t with | .v (.bl k) => .ok k σ1 | _ => .stuck := id rfl
@[simp] theorem z_not : mNot fb σ = (fb σ).bind fun k σ1 => .ok (!k) σ1 := id rfl
@[simp] theorem z_and : mAnd fb gb σ = (fb σ).bind fun k σ1 => if k then gb σ1 else .ok false σ1 := id rfl
@[simp] theorem z_or : mOr fb gb σ = (fb σ).bind fun k σ1 => if k then .ok true σ1 else gb σ1 := id rfl
@[simp] theorem z_andV : mAndV f g σ = (mBl f σ).bind fun k σ1 => if k then g σ1 else .ok (.v (.bl false)) σ1 := id rfl
@[simp] theorem z_orV : mOrV f g σ = (mBl f σ).bind fun k σ1 => if k then .ok (.v (.bl true)) σ1 else g σ1 := id rfl
@[simp] theorem z_notV : mNotV f σ = (mBl f σ).bind fun k σ1 => .ok (.v (.bl (!k))) σ1 := id rfl
@[simp] theorem z_ifE : mIfE fb f g σ = (fb σ).bind fun k σ1 => if k then f σ1 else g σ1 := id rfl
@[simp] theorem z_isi {b : BT} : mIsi b f σ = (f σ).bind fun t σ1 => match tyT t with | some a => .ok (.v (.bl (a.isa b))) σ1 | none => .stuck := id rfl
@[simp] theorem z_isiL {b : List BT} : mIsiL b f σ = (f σ).bind fun t σ1 => match tyT t with | some a => .ok (.v (.bl (isaL a b))) σ1 | none => .stuck := id rfl
@[simp] theorem z_neg : mNeg f σ = (f σ).bind fun t σ1 => match t with | .v (.int i) => .ok (.v (.int (-i))) σ1 | _ => .stuck := id rfl
@[simp] theorem z_tup : mTup ga σ = (ga σ).bind fun ts σ1 => if szB ts.length then .ok (.tup (fzs ts)) σ1 else .stuck := id rfl
@[simp] theorem z_lst : mLst ga σ = (ga σ).bind fun ts σ1 => if szB ts.length then .ok (.own ts) σ1 else .stuck := id rfl
@[simp] theorem z_callB {sp : List T → Option T} : mCallB sp ga σ = (ga σ).bind fun ts σ1 => match sp ts with | some w => .ok w σ1 | none => .stuck := id rfl
@[simp] theorem z_asg : mAsg f w σ = (f σ).sbind fun t σ1 => match w t σ1 with | some σ2 => .nx σ2 | none => .stuck := id rfl
@[simp] theorem z_call {mm : List T → FRes} : mCall mm ga σ = (ga σ).bind fun ts σ1 => match mm ts with | .ok t _ => .ok t σ1 | .exc C ns us _ => .exc C ns us σ1 | .stuck => .stuck := id rfl
@[simp] theorem z_raise {nn : List Str} : mRaise C nn ga σ = (ga σ).sbind fun ts σ1 => if ts.length = nn.length then .exc C nn (fzs ts) σ1 else .stuck := id rfl
@[simp] theorem z_for {it : List T → Res (List T)} : mFor it w m σ = (it σ).sbind fun items σ1 => forL w m items σ1 := id rfl
@[simp] theorem z_itA : mItA f σ = (f σ).bind fun t σ1 => match t with | .tup l => .ok l σ1 | t => match seqL t with | some l => .ok (fzs l) σ1 | none => .stuck := id rfl
@[simp] theorem z_enA : mEnA f σ = (f σ).bind fun t σ1 => match t with | .tup l => .ok (enumT 0 l) σ1 | t => match seqL t with | some l => .ok (enumT 0 (fzs l)) σ1 | none => .stuck := id rfl
@[simp] theorem z_rg1 : mRg1 f σ = (f σ).bind fun t σ1 => match t with | .v (.int j) => if rgB j then .ok (intsFrom 0 j.toNat) σ1 else .stuck | _ => .stuck := id rfl
@[simp] theorem z_rg2 : mRg2 f g σ = (f σ).bind fun t σ1 => (g σ1).bind fun u σ2 => match t, u with | .v (.int i), .v (.int j) => if rgB i && rgB j then .ok (intsFrom i (j - i).toNat) σ2 else .stuck | _, _ => .stuck := id rfl
@[simp] theorem z_rg3 : mRg3 f g h σ = (f σ).bind fun t σ1 => (g σ1).bind fun u σ2 => (h σ2).bind fun w σ3 => match t, u, w with | .v (.int i), .v (.int j), .v (.int k) => if rgB i && rgB j && decide (k = -1) then .ok (intsDown i (i - j).toNat) σ3 else .stuck | _, _, _ => .stuck := id rfl
@[simp] theorem z_yes : mYes σ = .ok true σ := id rfl
@[simp] theorem z_wNil : wNil [] σ = some σ := id rfl
@[simp] theorem z_wCons : wCons w wl (t :: ts) σ = (w t σ).bind (wl ts) := id rfl
@[simp] theorem z_wTup : wTup n wl (.tup ts) σ = if ts.length = n then wl ts σ else none := id rfl
@[simp] theorem z_fN : fN i t σ = if i < σ.length then some (σ.set i t) else none := by rw [fN_eq]; all_goals rfl
@[simp] theorem z_fVar : fVar i σ = match σ[i]? with | some t => if t.isHole then .stuck else .ok (fz t) (σ.set i (fz t)) | none => .stuck := by rw [fVar_eq]; all_goals rfl
@[simp] theorem z_fIxN : fIxN i g σ = mIxN i g σ := by rw [fIxN_eq]
@[simp] theorem z_fIx : fIx t u = sIx t u := by rw [fIx_eq]
@[simp] theorem z_fTimes : fTimes t u = sTimes t u := by rw [fTimes_eq]
@[simp] theorem z_bits : mBits f σ = (f σ).bind fun t σ1 => match t with | .v (.int i) => .ok (.v (.int (Builtin.Int.intBits i : Nat))) σ1 | _ => .stuck := id rfl
@[simp] theorem z_fld {fl : Str} : mFld C fl f σ = (f σ).bind fun t σ1 => match objT C fl t with | some u => .ok u σ1 | none => .stuck := id rfl
@[simp] theorem z_fldN {fl : Str} : mFldN C fl i σ = match (σ[i]?).bind (objT C fl) with | some u => .ok u σ | none => .stuck := by unfold mFldN; rw [lget_eq]; all_goals rfl
@[simp] theorem z_isO : mIsO C f σ = (f σ).bind fun t σ1 => match t with | .ins C' _ _ => if C' = C then .ok (.v (.bl true)) σ1 else .stuck | _ => .stuck := id rfl
@[simp] theorem z_make {mm : List T → FRes} : mMake C mm ga σ = (ga σ).bind fun ts σ1 => match mm (.oin C [] [] :: ts) with | .ok (.v .non) b => .ok b σ1 | .exc E ns us _ => .exc E ns us σ1 | _ => .stuck := id rfl
@[simp] theorem z_bd0 : mBd none σ = .ok none σ := id rfl
@[simp] theorem z_bd1 : mBd (some f) σ = (f σ).bind fun t σ1 => match t with | .v (.int i) => .ok (some i) σ1 | _ => .stuck := id rfl
@[simp] theorem z_sl {a b : Option (List T → Res T)} : mSl a b f σ = (f σ).bind fun t σ1 => (mBd a σ1).bind fun lo σ2 => (mBd b σ2).bind fun hi σ3 => match t with | .tup l => .ok (.tup (cutG l lo hi)) σ3 | t => match shT t with | some (_, l) => .ok (.own (cutG l lo hi)) σ3 | none => .stuck := id rfl
@[simp] theorem z_fzT {l : List T} : fz (.tup l) = .tup l := by simp only [fz]
@[simp] theorem z_fzV {c : V} : fz (.v c) = .v c := by simp only [fz]
@[simp] theorem z_fzL {l : List T} : fz (.lst l) = .lst l := by simp only [fz]
@[simp] theorem z_fzO {l : List T} : fz (.own l) = .lst (fzs l) := by simp only [fz]
@[simp] theorem z_fzI {l : List T} : fz (.ins C ns l) = .ins C ns l := by simp only [fz]
@[simp] theorem z_fzOi {l : List T} : fz (.oin C ns l) = .ins C ns (fzs l) := by simp only [fz]
@[simp] theorem z_fzs0 : fzs [] = [] := by simp only [fzs]
@[simp] theorem z_fzs1 {l : List T} : fzs (t :: l) = fz t :: fzs l := by simp only [fzs]
@[simp] theorem z_hT {l : List T} : (T.tup l).isHole = false := id rfl
@[simp] theorem z_hV {c : V} : (T.v c).isHole = false := id rfl
@[simp] theorem z_hL {l : List T} : (T.lst l).isHole = false := id rfl
@[simp] theorem z_hO {l : List T} : (T.own l).isHole = false := id rfl
@[simp] theorem z_hI {l : List T} : (T.ins C ns l).isHole = false := id rfl
@[simp] theorem z_hOi {l : List T} : (T.oin C ns l).isHole = false := id rfl
@[simp] theorem z_hH : (T.hole).isHole = true := id rfl
@[simp] theorem z_trB {b : Bool} : truT (.v (.bl b)) = some b := id rfl
@[simp] theorem z_trN : truT (.v .non) = some false := id rfl
@[simp] theorem z_trI {j : Int} : truT (.v (.int j)) = some (j != 0) := id rfl
end
/-! ### functions -/
theorem fn_rt {N : Nat} {b : List T → SRes} {ts σ : List T} {t : T} (h : b (ts ++ List.replicate (N - ts.length) .hole) = .rt t σ) : mFn N false b ts = .ok t .hole := by
  unfold mFn
  rw [h]
  all_goals rfl
theorem fn_nx {N : Nat} {b : List T → SRes} {ts σ : List T} (h : b (ts ++ List.replicate (N - ts.length) .hole) = .nx σ) : mFn N false b ts = .ok (.v .non) .hole := by
  unfold mFn
  rw [h]
  all_goals rfl
theorem fn_exc {N : Nat} {b : List T → SRes} {ts σ us : List T} {C : Str} {ns : List Str} (h : b (ts ++ List.replicate (N - ts.length) .hole) = .exc C ns us σ) : mFn N false b ts = .exc C ns us .hole := by
  unfold mFn
  rw [h]
  all_goals rfl
/-! ### loops -/
theorem forL_nx {w : T → List T → Option (List T)} {body : List T → SRes} : ∀ (items : List T) (I : Nat → List T), (∀ k (h : k < items.length), ∃ σ1, w items[k] (I k) = some σ1 ∧ body σ1 = .nx (I (k + 1))) → forL w body items (I 0) = .nx (I items.length)
  | [], I, h => rfl
  | t :: r, I, h => by
    obtain ⟨σ1, h1, h2⟩ := h 0 (by simp)
    simp only [forL, List.getElem_cons_zero] at h1 ⊢
    rw [h1]
    simp only [h2]
    exact forL_nx r (fun k => I (k + 1)) fun k hk => by
      have := h (k + 1) (by simpa using hk)
      simpa using this
/-- the loop ends at the turn j -/
theorem forL_at {w : T → List T → Option (List T)} {body : List T → SRes} {res : SRes} : ∀ (items : List T) (I : Nat → List T) (j : Nat) (hj : j < items.length), (∀ k (h : k < items.length), k < j → ∃ σ1, w items[k] (I k) = some σ1 ∧ body σ1 = .nx (I (k + 1))) →
    (∃ σ1, w items[j] (I j) = some σ1 ∧ body σ1 = res) → (∀ σ, res ≠ .nx σ) → (∀ σ, res ≠ .ct σ) → (∀ σ, res ≠ .bk σ) → forL w body items (I 0) = res
  | [], I, j, hj, h, he, n1, n2, n3 => by simp at hj
  | t :: r, I, 0, hj, h, he, n1, n2, n3 => by
    obtain ⟨σ1, h1, h2⟩ := he
    simp only [forL, List.getElem_cons_zero] at h1 ⊢
    rw [h1]
    simp only [h2]
    cases res with
    | nx σ => exact absurd rfl (n1 σ)
    | ct σ => exact absurd rfl (n2 σ)
    | bk σ => exact absurd rfl (n3 σ)
    | rt _ _ => rfl
    | exc _ _ _ _ => rfl
    | stuck => rfl
  | t :: r, I, j + 1, hj, h, he, n1, n2, n3 => by
    obtain ⟨σ1, h1, h2⟩ := h 0 (by simp) (by omega)
    simp only [forL, List.getElem_cons_zero] at h1 ⊢
    rw [h1]
    simp only [h2]
    exact forL_at r (fun k => I (k + 1)) j (by simpa using hj) (fun k hk hlt => by
      have := h (k + 1) (by simpa using hk) (by omega)
      simpa using this) (by simpa using he) n1 n2 n3
/-- a comprehension without a test -/
theorem lcL_map {w : T → List T → Option (List T)} {te : List T → Res T} {vs : List Nat} : ∀ (items : List T) (I : Nat → List T) (us : List T), us.length = items.length →
    (∀ k (h : k < items.length) (h' : k < us.length), ∃ σ1, w items[k] (wipeT (I k) vs) = some σ1 ∧ te σ1 = .ok us[k] (I (k + 1))) → lcL w mYes te vs items (I 0) = some (us, I items.length)
  | [], I, [], _, h => rfl
  | [], I, u :: us, hl, h => by simp at hl
  | t :: r, I, [], hl, h => by simp at hl
  | t :: r, I, u :: us, hl, h => by
    obtain ⟨σ1, h1, h2⟩ := h 0 (by simp) (by simp)
    simp only [lcL, List.getElem_cons_zero] at h1 h2 ⊢
    rw [h1]
    simp only [mYes, h2]
    rw [lcL_map r (fun k => I (k + 1)) us (by simpa using hl) fun k hk hk' => by
      have := h (k + 1) (by simpa using hk) (by simpa using hk')
      simpa using this]
    all_goals rfl
theorem intsFrom_len (lo : Int) (n : Nat) : (intsFrom lo n).length = n := by simp [intsFrom]
theorem intsFrom_get {lo : Int} {n k : Nat} (h : k < (intsFrom lo n).length) : (intsFrom lo n)[k] = .v (.int (lo + k)) := by simp [intsFrom]
theorem intsDown_len (lo : Int) (n : Nat) : (intsDown lo n).length = n := by simp [intsDown]
theorem intsDown_get {lo : Int} {n k : Nat} (h : k < (intsDown lo n).length) : (intsDown lo n)[k] = .v (.int (lo + k * (-1))) := by simp [intsDown]
end MV

namespace MV
open PySem PySem.Spec PyProof.Rows L2
/-! ## o.m(..), m a method of an own class that leaves its object alone -/
theorem lookup_no {n : Str} : ∀ {ns : List Str} {vs : List V}, n ∉ ns → (ns.zip vs).lookup n = none
  | [], vs, _ => by simp
  | k :: ns, [], _ => by simp
  | k :: ns, v :: vs, h => by
    have h1 : ¬ n = k := fun z => h (by simp [z])
    have h2 : n ∉ ns := fun z => h (by simp [z])
    have : (n == k) = false := by simpa using h1
    simp only [List.zip_cons_cons, List.lookup_cons, this]
    exact lookup_no h2
def mMeth (C nm : Str) (m : List T → FRes) (f : List T → Res T) (g : List T → Res (List T)) : List T → Res T := fun σ => (f σ).bind fun t σ1 => match t with
  | .ins C' ns l => if C' = C ∧ nm ∉ ns then (g σ1).bind fun ts σ2 => (match m (.ins C' ns l :: ts) with
    | .ok w _ => .ok w σ2
    | .exc E us vs _ => .exc E us vs σ2
    | .stuck => .stuck) else .stuck
  | _ => .stuck
section
variable {X : Cx} {c : Ct} {a o : Expr} {es : List Expr} {p pos apos : Pos} {i k : Nat} {C nm : Str} {fs : List Str} {Ca fI : Addr} {fd : FuncData} {ps : List Str} {m : List T → FRes} {f : List T → Res T} {g : List T → Res (List T)}
/-- the mirror's side -/
theorem meth_low (oc : OC X.K X.mg C fs) (hC : X.mg C = some (.ref Ca)) (he : c.e = ⟨X.K, X.mg, none⟩) (hlen : ∀ σ ts σ1, g σ = .ok ts σ1 → ts.length + 1 = ps.length) {τ : L2.St} {H : Hp} {Q : VK} (h : tE c (mMeth C nm m f g) τ H Q) :
    tE c f τ H (fun x H1 => ∃ a dx fv, x = .ref a ∧ H1 a = some (.ins Ca dx fv) ∧ fv.lookup nm = none ∧ tA c g τ H1 fun vs H2 => spM ⟨X.K, X.mg, none⟩ ps.length m (x :: vs) H2 Q (WE c.W τ)) := by
  obtain ⟨F, σ, O, st, p⟩ := h
  refine Tm.mono ((Mid.start st).run (by simp) (g := f) p) fun x H1 ⟨t, σ1, F1, O1, P1, m1, r1, s1, p1⟩ => ?_
  split at p1
  · rename_i C' ns l
    split at p1
    · rename_i hh
      obtain ⟨rfl, hn⟩ := hh
      have r1' := r1
      simp only [rep] at r1
      obtain ⟨rfl, hl, a, dx, Cb, vs, rfl, h2, h3, h4⟩ := r1
      rw [he] at h2
      have h2' : some (Value.ref Ca) = some (.ref Cb) := hC.symm.trans h2
      cases h2'
      refine ⟨a, dx, _, rfl, m1.st.sub _ _ h3, lookup_no hn, ?_⟩
      have p' : Post c (RT c.e) F H O τ Q ((g σ1).bind fun ts σ2 => if ts.length + 1 = ps.length then (match m (.ins C' ns l :: ts) with | .ok w _ => Res.ok w σ2 | .exc E us vs _ => .exc E us vs σ2 | .stuck => .stuck) else .stuck) := by
        cases q : g σ1 with
        | ok ts σ2 => rw [q] at p1; simp only [Res.bind, hlen σ1 ts σ2 q, if_true]; exact p1
        | exc _ _ _ _ => rw [q] at p1; exact p1
        | stuck => rw [q] at p1; exact p1
      refine Tm.mono (m1.run (by simp) (g := g) p') fun vs H2 ⟨ts, σ2, F2, O2, P2, m2, r2, s2, p2⟩ => ?_
      have m2 : Mid c F H O τ σ2 F2 H2 O2 P2 := by simpa using m2
      split at p2
      · rename_i hl2
        refine ⟨by rw [List.length_cons, ← reps_len r2]; exact hl2, F2, .ins C' ns l :: ts, P2, ?_, (List.nodup_append.mp m2.nd).2.1, m2.st.sub, ?_⟩
        · rw [← he]
          simp only [reps]
          exact ⟨_, vs, [], P2, rfl, rfl, rep_mono s2.sub r1' (by simp), r2⟩
        · simp only [List.headD_cons]
          cases q : m (.ins C' ns l :: ts) with
          | stuck => rw [q] at p2; exact p2.elim
          | ok t b =>
            rw [q] at p2
            intro F3 H3 y P3 Pb sb ry _ n3 s3
            have m3 := m2.low (P2 := P3) (s3.sub_own (by intro a h; simp [h])) sb (List.nodup_append.mp n3).2.1
            exact m3.fin p2 (by rw [he]; exact ry) (List.nodup_append.mp n3).2.1 fun _ h => h
          | exc E us vs b =>
            rw [q] at p2
            intro F3 H3 Cx d Pb sb _ nb s3 xr
            have m3 := m2.low (P2 := []) (s3.sub_own (by simp)) sb List.nodup_nil
            exact m3.exc p2 (by rw [he]; exact xr)
      · exact p2.elim
    · exact p1.elim
  · exact p1.elim
theorem e_meth (oc : OC X.K X.mg C fs) (hC : X.mg C = some (.ref Ca)) (hm : Meth X.K Ca nm fI) (Fn : FnOk X.prog X.w X.K X.mg X.base (L2.CX X.prog X.w) k fI fd ps (spM ⟨X.K, X.mg, none⟩ ps.length m)) (hr : Room k X.A) (hb : Binds X.K fd ps [])
    (he : c.e = ⟨X.K, X.mg, none⟩) (tk : Takes X c.W) (ho : PE X o (tE c f)) (ha : PA X (a :: es) (tA c g)) (hlen : ∀ σ ts σ1, g σ = .ok ts σ1 → ts.length + 1 = ps.length) {pl : Sem Bool}
    (hst : starEach (a :: es) X.env = (false, eval a X.env) :: starEach es X.env := by rfl) (hpl : (backTo pos (starEach es X.env)).any (·.1) = false := by rfl)
    (ht : eval (.Call (.Attribute o nm apos) (a :: es) [] pos) X.env = (do
      let ov ← eval o X.env
      standAt apos.atName
      let (f, first) ← holding [ov] (getMethod ov nm pl)
      callWith pos f first (backTo pos (starEach (a :: es) X.env)) (backToKw pos (keywordEach [] X.env))) := by rfl) :
    PE X (.Call (.Attribute o nm apos) (a :: es) [] pos) (tE c (mMeth C nm m f g)) := ⟨fun pins s τ H Q I h => by
  obtain ⟨Cb, g1, cl, _⟩ := oc.ex
  rw [hC] at g1
  cases g1
  refine PySem.W.methodCall_KW (pl := pl) (thn (ho.run pins s τ H _ I (meth_low oc hC he hlen h)) fun u s1 ⟨x, H1, I1, rx, a, dx, fv, ex, ea, l, q⟩ => ?_) ht
  subst ex
  obtain rfl : u = Value.ref a := rx
  refine getmeth_ok I1 ea cl hm l ?_
  refine PySem.W.callWith_K (first := [.ref a]) (h₀ := X.base) I.ok.mod.kin hm.kp (thn (ha.run pos pins s1 τ H1 _ I1 q) fun us s2 ⟨vs, H2, I2, r, q2⟩ => ⟨I2.kIn, ?_⟩) hst hpl
  exact run_fnS (E := WE c.W) (us := .ref a :: us) (vs := .ref a :: vs) Fn hr hb (passAt tk τ) I2 (.cons rfl r) q2⟩
theorem e_meth0 (oc : OC X.K X.mg C fs) (hC : X.mg C = some (.ref Ca)) (hm : Meth X.K Ca nm fI) (Fn : FnOk X.prog X.w X.K X.mg X.base (L2.CX X.prog X.w) k fI fd ps (spM ⟨X.K, X.mg, none⟩ ps.length m)) (hr : Room k X.A) (hb : Binds X.K fd ps [])
    (he : c.e = ⟨X.K, X.mg, none⟩) (tk : Takes X c.W) (ho : PE X o (tE c f)) (hlen : ps.length = 1) {pl : Sem Bool}
    (ht : eval (.Call (.Attribute o nm apos) [] [] pos) X.env = (do
      let ov ← eval o X.env
      standAt apos.atName
      let (f, first) ← holding [ov] (getMethod ov nm pl)
      callWith pos f first (backTo pos (starEach [] X.env)) (backToKw pos (keywordEach [] X.env))) := by rfl) :
    PE X (.Call (.Attribute o nm apos) [] [] pos) (tE c (mMeth C nm m f mNil)) := ⟨fun pins s τ H Q I h => by
  obtain ⟨Cb, g1, cl, _⟩ := oc.ex
  rw [hC] at g1
  cases g1
  refine PySem.W.methodCall_KW (pl := pl) (thn (ho.run pins s τ H _ I (meth_low (ps := ps) oc hC he (by intro σ ts σ1 h; cases h; simp [hlen]) h)) fun u s1 ⟨x, H1, I1, rx, a, dx, fv, ex, ea, l, q⟩ => ?_) ht
  subst ex
  obtain rfl : u = Value.ref a := rx
  refine getmeth_ok I1 ea cl hm l ?_
  have q' : spM ⟨X.K, X.mg, none⟩ ps.length m [.ref a] H1 Q (WE c.W τ) := by
    obtain ⟨F, σ, O, st, p⟩ := q
    exact (Mid.start st).fin p (by simp [reps]) (P1 := []) (by simp) (by simp)
  exact PySem.W.callWith_K0 (first := [.ref a]) I1.kIn hm.kp (run_fnS (E := WE c.W) (us := [.ref a]) (vs := [.ref a]) Fn hr hb (passAt tk τ) I1 (.cons rfl .nil) q')⟩
end
end MV

namespace MV
open PySem PySem.Spec PyProof.Rows L2

/-! ## Steps, as equations -/
section
variable {f g : List T → Res T} {m k : List T → SRes} {σ σ1 σ2 : List T} {t : T} {i : Nat} {l l1 : List T}
theorem seq_nx (h : m σ = .nx σ1) : mSeq m k σ = k σ1 := by unfold mSeq; rw [h]; all_goals rfl
theorem ex_ok (h : f σ = .ok t σ1) : mEx f σ = .nx σ1 := by unfold mEx; rw [h]; all_goals rfl
theorem asg_ok {w : T → List T → Option (List T)} (h : f σ = .ok t σ1) (hw : w t σ1 = some σ2) : mAsg f w σ = .nx σ2 := by unfold mAsg; rw [h]; simp only [Res.sbind]; rw [hw]
theorem if_ok {b : Bool} {c : List T → Res Bool} (h : c σ = .ok b σ1) : mIf c m k σ = if b then m σ1 else k σ1 := by unfold mIf; rw [h]; all_goals rfl
theorem for_ok {it : List T → Res (List T)} {w : T → List T → Option (List T)} (h : it σ = .ok l σ1) : mFor it w m σ = forL w m l σ1 := by unfold mFor; rw [h]; all_goals rfl
theorem app_ok (h : σ[i]? = some (.own l)) (hf : f σ = .ok t σ1) (h1 : σ1[i]? = some (.own l1)) (hz : szB l1.length = true) : mAppN i f σ = .ok (.v .non) (σ1.set i (.own (l1 ++ [t]))) := by
  unfold mAppN
  rw [h]
  simp only []
  rw [hf]
  simp only [Res.bind]
  rw [h1]
  simp only []
  rw [if_pos hz]
theorem op2_ok {s : OS} {u w : T} (hf : f σ = .ok t σ1) (hg : g σ1 = .ok u σ2) (hs : s t u = some w) : mOp2 s f g σ = .ok w σ2 := by
  unfold mOp2
  rw [hf]
  simp only [Res.bind]
  rw [hg]
  simp only []
  rw [hs]
/-- a loop by an invariant that counts -/
theorem forL_cnt {w : T → List T → Option (List T)} (I : Nat → List T → Prop) : ∀ (items : List T) (n : Nat) (σ : List T), (∀ (j : Nat) (t : T) (σ : List T), items[j]? = some t → I (n + j) σ → ∃ σ1 σ2, w t σ = some σ1 ∧ m σ1 = .nx σ2 ∧ I (n + j + 1) σ2) → I n σ →
    ∃ σ', forL w m items σ = .nx σ' ∧ I (n + items.length) σ'
  | [], n, σ, hs, h => ⟨σ, rfl, h⟩
  | t :: r, n, σ, hs, h => by
    obtain ⟨σ1, σ2, h1, h2, h3⟩ := hs 0 t σ rfl h
    obtain ⟨σ', h4, h5⟩ := forL_cnt I r (n + 1) σ2 (fun j u τ hj hi => by
      have := hs (j + 1) u τ (by simpa using hj) (by rw [show n + (j + 1) = n + 1 + j by omega]; exact hi)
      rw [show n + (j + 1) + 1 = n + 1 + j + 1 by omega] at this
      exact this) h3
    refine ⟨σ', ?_, by rw [List.length_cons, show n + (r.length + 1) = n + 1 + r.length by omega]; exact h5⟩
    unfold forL
    rw [h1]
    simp only []
    rw [h2]
    exact h4
theorem ints_get {lo : Int} {n j : Nat} {t : T} (h : (intsFrom lo n)[j]? = some t) : j < n ∧ t = .v (.int (lo + j)) := by
  unfold intsFrom at h
  rw [List.getElem?_map] at h
  by_cases hj : j < n
  · rw [List.getElem?_range hj] at h
    cases h
    exact ⟨hj, rfl⟩
  · rw [List.getElem?_eq_none (by simpa using Nat.le_of_not_lt hj)] at h
    cases h
theorem ints_len {lo : Int} {n : Nat} : (intsFrom lo n).length = n := by simp [intsFrom]
end
theorem fMul_int {a b : Int} (h1 : a.natAbs ≤ bigB) (h2 : b.natAbs ≤ bigB) : fMul (.v (.int a)) (.v (.int b)) = some (.v (.int (a * b))) := by
  unfold fMul iOp
  simp only [Nat.ble_eq_true_of_le h1, Nat.ble_eq_true_of_le h2, Option.map_some]
theorem fTimes_int {a b : Int} (h1 : a.natAbs ≤ bigB) (h2 : b.natAbs ≤ bigB) : fTimes (.v (.int a)) (.v (.int b)) = some (.v (.int (a * b))) := by
  unfold fTimes sOr
  rw [fMul_int h1 h2]
  all_goals rfl
theorem fDiv_int {a b : Int} (h1 : 0 < b) (h2 : b.natAbs ≤ bigB) : fDiv (.v (.int a)) (.v (.int b)) = some (.v (.int (a / b))) := by
  unfold fDiv iOp
  simp only [decide_eq_true h1, Nat.ble_eq_true_of_le h2, Option.map_some]
theorem sMod_int {a b : Int} (h1 : 0 < b) : sMod (.v (.int a)) (.v (.int b)) = some (.v (.int (a % b))) := by
  unfold sMod iOp modB
  simp [h1]
theorem big_le {a : Int} {n : Nat} (h : a.natAbs ≤ n) (hn : n ≤ 10 ^ 60) : a.natAbs ≤ bigB := Nat.le_trans h (Nat.le_trans hn (by decide +kernel))

/-! ## The draws of a script -/
def dl (ds : List Int) : List T := ds.map fun n => T.v (V.int n)
def Drw (ds : List Int) : T := .own (dl ds)
noncomputable def dr1 : List T → SRes := (mIf (mBl (mOp2 sGt (fVar 3) (mC (.v (.int 0)))))
  (mSeq (mEx (mAppN 1 (mOp2 sMod (mCallB sInt (mCons (fVar 3) mNil)) (mC (.v (.int 60))))))
  (mAsg (mOp2 fDiv (fVar 3) (mC (.v (.int 60)))) (fN 3)))
  .nx)
noncomputable def dr2 : List T → SRes := (mSeq (mAsg (mOp2 sMod (mCallB sInt (mCons (mOp2 sPlus (mOp2 sPlus (mOp2 sPlus (mOp2 fTimes (fVar 5) (fVar 5)) (mOp2 fTimes (fVar 4) (mC (.v (.int 52711))))) (fVar 2)) (mC (.v (.int 5)))) mNil)) (mC (.v (.int 1073741783)))) (fN 5))
  (mEx (mAppN 1 (mOp2 fDiv (fVar 5) (mC (.v (.int 16)))))))
noncomputable def dr3 : List T → SRes := (mSeq (mAsg (mCallB sInt (mCons (fIxN 0 (fVar 2)) mNil)) (fN 3))
  (mSeq (mIf (mBl (mOp2 sLt (fVar 3) (mC (.v (.int 0)))))
  (mAsg (mOp2 sSub (mC (.v (.int 7))) (fVar 3)) (fN 3))
  .nx)
  (mIf (mBl (mOp2 sGe (fVar 3) (mOp2 sPow (mC (.v (.int 10))) (mC (.v (.int 18))))))
  (mFor (mRg1 (mC (.v (.int 50)))) (fN 4)
  dr1)
  (mSeq (mAsg (mOp2 sMod (mCallB sInt (mCons (mOp2 sPlus (mOp2 sPlus (mOp2 fTimes (fVar 3) (mC (.v (.int 75931)))) (mOp2 fTimes (fVar 2) (mC (.v (.int 30011))))) (mC (.v (.int 19)))) mNil)) (mC (.v (.int 1073741789)))) (fN 5))
  (mFor (mRg1 (mC (.v (.int 8)))) (fN 4)
  dr2)))))
noncomputable def drB : List T → SRes := (mSeq (mAsg (mLst mNil) (fN 1))
  (mSeq (mFor (mRg1 (mCallB sMin (mCons (mLenN 0) (mCons (mC (.v (.int 63))) mNil)))) (fN 2)
  dr3)
  (mRet (mRevN 1))))
noncomputable def drF : List T → FRes := mFn 6 false drB
section
variable {k p c t m : T} {ds : List Int} {b : Nat}
theorem dl_len : (dl ds).length = ds.length := by simp [dl]
theorem dl_app {x : Int} : dl ds ++ [T.v (V.int x)] = dl (ds ++ [x]) := by simp [dl]
def Pos (ds : List Int) : Prop := ∀ x ∈ ds, 0 ≤ x
theorem Pos.app {x : Int} (h : Pos ds) (hx : 0 ≤ x) : Pos (ds ++ [x]) := fun y hy => by
  rcases List.mem_append.mp hy with z | z
  · exact h y z
  · rw [List.mem_singleton.mp z]; exact hx
theorem sz_of {n : Nat} (h : n ≤ 4000) : szB n = true := by unfold szB; simp only [decide_eq_true_eq]; omega
theorem dr1_step {c : Int} (hc : 0 ≤ c) (hd : Pos ds) (hl : ds.length ≤ 4000) :
    ∃ c' ds', dr1 [k, Drw ds, p, .v (.int c), t, m] = .nx [k, Drw ds', p, .v (.int c'), t, m] ∧ 0 ≤ c' ∧ Pos ds' ∧ ds'.length ≤ ds.length + 1 := by
  have e : dr1 [k, Drw ds, p, .v (.int c), t, m] = if decide (0 < c) = true then (mSeq (mEx (mAppN 1 (mOp2 sMod (mCallB sInt (mCons (fVar 3) mNil)) (mC (.v (.int 60)))))) (mAsg (mOp2 fDiv (fVar 3) (mC (.v (.int 60)))) (fN 3))) [k, Drw ds, p, .v (.int c), t, m] else .nx [k, Drw ds, p, .v (.int c), t, m] := rfl
  rw [e]
  by_cases h : 0 < c
  · rw [if_pos (decide_eq_true h)]
    refine ⟨c / 60, ds ++ [c % 60], ?_, Int.ediv_nonneg hc (by decide), hd.app (Int.emod_nonneg _ (by decide)), by simp⟩
    refine (seq_nx (σ1 := [k, Drw (ds ++ [c % 60]), p, .v (.int c), t, m]) (ex_ok (t := .v .non) ?_)).trans ?_
    · have := app_ok (i := 1) (f := mOp2 sMod (mCallB sInt (mCons (fVar 3) mNil)) (mC (.v (.int 60)))) (σ := [k, Drw ds, p, .v (.int c), t, m]) (l := dl ds) (t := .v (.int (c % 60))) (σ1 := [k, Drw ds, p, .v (.int c), t, m]) (l1 := dl ds) rfl rfl rfl (by rw [dl_len]; exact sz_of hl)
      rw [dl_app] at this
      exact this
    · exact asg_ok (t := .v (.int (c / 60))) (σ1 := [k, Drw (ds ++ [c % 60]), p, .v (.int c), t, m]) (op2_ok (t := .v (.int c)) (u := .v (.int 60)) rfl rfl (fDiv_int (by decide) (by decide +kernel))) rfl
  · rw [if_neg (by simp [h])]
    exact ⟨c, ds, rfl, hc, hd, by omega⟩
theorem dr2_step {p4 m5 p2 : Int} (h4 : 0 ≤ p4 ∧ p4 < 100) (h2 : 0 ≤ p2 ∧ p2 < 100) (h5 : 0 ≤ m5 ∧ m5 < 10 ^ 12) (hd : Pos ds) (hl : ds.length ≤ 4000) :
    ∃ m' ds', dr2 [k, Drw ds, .v (.int p2), c, .v (.int p4), .v (.int m5)] = .nx [k, Drw ds', .v (.int p2), c, .v (.int p4), .v (.int m')] ∧ (0 ≤ m' ∧ m' < 10 ^ 12) ∧ Pos ds' ∧ ds'.length ≤ ds.length + 1 := by
  have a5 : m5.natAbs ≤ bigB := big_le (n := 10 ^ 12) (by omega) (by decide +kernel)
  have a4 : p4.natAbs ≤ bigB := big_le (n := 100) (by omega) (by decide +kernel)
  have hm : 0 ≤ (m5 * m5 + p4 * 52711 + p2 + 5) % 1073741783 := Int.emod_nonneg _ (by decide)
  have hm2 : (m5 * m5 + p4 * 52711 + p2 + 5) % 1073741783 < 1073741783 := Int.emod_lt_of_pos _ (by decide)
  refine ⟨(m5 * m5 + p4 * 52711 + p2 + 5) % 1073741783, ds ++ [(m5 * m5 + p4 * 52711 + p2 + 5) % 1073741783 / 16], ?_, ⟨hm, by omega⟩, hd.app (Int.ediv_nonneg hm (by decide)), by simp⟩
  generalize hM : (m5 * m5 + p4 * 52711 + p2 + 5) % 1073741783 = M at hm
  refine (seq_nx (σ1 := [k, Drw ds, .v (.int p2), c, .v (.int p4), .v (.int M)]) (asg_ok (t := .v (.int M)) (σ1 := [k, Drw ds, .v (.int p2), c, .v (.int p4), .v (.int m5)]) ?_ rfl)).trans (ex_ok (t := .v .non) ?_)
  · have i1 : mOp2 fTimes (fVar 5) (fVar 5) [k, Drw ds, .v (.int p2), c, .v (.int p4), .v (.int m5)] = .ok (.v (.int (m5 * m5))) [k, Drw ds, .v (.int p2), c, .v (.int p4), .v (.int m5)] := op2_ok (t := .v (.int m5)) (u := .v (.int m5)) rfl rfl (fTimes_int a5 a5)
    have i2 : mOp2 fTimes (fVar 4) (mC (.v (.int 52711))) [k, Drw ds, .v (.int p2), c, .v (.int p4), .v (.int m5)] = .ok (.v (.int (p4 * 52711))) [k, Drw ds, .v (.int p2), c, .v (.int p4), .v (.int m5)] := op2_ok (t := .v (.int p4)) (u := .v (.int 52711)) rfl rfl (fTimes_int a4 (by decide +kernel))
    have i3 := op2_ok (s := sPlus) (w := .v (.int (m5 * m5 + p4 * 52711))) i1 i2 rfl
    have i4 := op2_ok (s := sPlus) (g := fVar 2) (u := .v (.int p2)) (σ2 := [k, Drw ds, .v (.int p2), c, .v (.int p4), .v (.int m5)]) (w := .v (.int (m5 * m5 + p4 * 52711 + p2))) i3 rfl rfl
    have i5 := op2_ok (s := sPlus) (g := mC (.v (.int 5))) (u := .v (.int 5)) (σ2 := [k, Drw ds, .v (.int p2), c, .v (.int p4), .v (.int m5)]) (w := .v (.int (m5 * m5 + p4 * 52711 + p2 + 5))) i4 rfl rfl
    refine op2_ok (t := .v (.int (m5 * m5 + p4 * 52711 + p2 + 5))) (u := .v (.int 1073741783)) (σ1 := [k, Drw ds, .v (.int p2), c, .v (.int p4), .v (.int m5)]) ?_ rfl (by rw [← hM]; exact sMod_int (by decide))
    unfold mCallB mCons
    rw [i5]
    all_goals rfl
  · have := app_ok (i := 1) (f := mOp2 fDiv (fVar 5) (mC (.v (.int 16)))) (σ := [k, Drw ds, .v (.int p2), c, .v (.int p4), .v (.int M)]) (l := dl ds) (t := .v (.int (M / 16))) (σ1 := [k, Drw ds, .v (.int p2), c, .v (.int p4), .v (.int M)]) (l1 := dl ds) rfl (op2_ok (t := .v (.int M)) (u := .v (.int 16)) rfl rfl (fDiv_int (by decide) (by decide +kernel))) rfl (by rw [dl_len]; exact sz_of hl)
    rw [dl_app] at this
    exact this
theorem out1 {L : List T} {n b : Nat} {c : Int} (hc : 0 ≤ c) (hd : Pos ds) (hl : ds.length ≤ 50 * b) (hb : b < 63) :
    ∃ σ', mFor (mRg1 (mC (.v (.int 50)))) (fN 4) dr1 [k, Drw ds, p, .v (.int c), t, m] = .nx σ' ∧ ∃ c' t' ds', σ' = [k, Drw ds', p, .v (.int c'), t', m] ∧ Pos ds' ∧ ds'.length ≤ 50 * (b + 1) := by
  obtain ⟨σ', h1, c', t', ds', rfl, _, h2, h3⟩ := forL_cnt (w := fN 4) (m := dr1) (fun i σ => ∃ c' t' ds', σ = [k, Drw ds', p, .v (.int c'), t', m] ∧ 0 ≤ c' ∧ Pos ds' ∧ ds'.length ≤ 50 * b + i) (intsFrom 0 50) 0 [k, Drw ds, p, .v (.int c), t, m] (fun j u σ hj hi => by
    obtain ⟨c', t', ds', rfl, h1, h2, h3⟩ := hi
    obtain ⟨hj, rfl⟩ := ints_get hj
    obtain ⟨c2, ds2, e, q1, q2, q3⟩ := dr1_step (k := k) (p := p) (t := .v (.int (0 + (j : Int)))) (m := m) h1 h2 (by omega)
    exact ⟨[k, Drw ds', p, .v (.int c'), .v (.int (0 + (j : Int))), m], _, rfl, e, c2, _, ds2, rfl, q1, q2, by omega⟩) ⟨c, t, ds, rfl, hc, hd, by omega⟩
  refine ⟨_, (for_ok rfl).trans h1, c', t', ds', rfl, h2, ?_⟩
  rw [ints_len] at h3
  omega
theorem out2 {b : Nat} {p2 m5 : Int} (h2 : 0 ≤ p2 ∧ p2 < 100) (h5 : 0 ≤ m5 ∧ m5 < 10 ^ 12) (hd : Pos ds) (hl : ds.length ≤ 50 * b) (hb : b < 63) :
    ∃ σ', mFor (mRg1 (mC (.v (.int 8)))) (fN 4) dr2 [k, Drw ds, .v (.int p2), c, t, .v (.int m5)] = .nx σ' ∧ ∃ t' m' ds', σ' = [k, Drw ds', .v (.int p2), c, t', m'] ∧ Pos ds' ∧ ds'.length ≤ 50 * (b + 1) := by
  obtain ⟨σ', h1, t', m', ds', rfl, _, q2, q3⟩ := forL_cnt (w := fN 4) (m := dr2) (fun i σ => ∃ t' m' ds', σ = [k, Drw ds', .v (.int p2), c, t', .v (.int m')] ∧ (0 ≤ m' ∧ m' < 10 ^ 12) ∧ Pos ds' ∧ ds'.length ≤ 50 * b + i) (intsFrom 0 8) 0 [k, Drw ds, .v (.int p2), c, t, .v (.int m5)] (fun j u σ hj hi => by
    obtain ⟨t', m', ds', rfl, h1, h3, h4⟩ := hi
    obtain ⟨hj, rfl⟩ := ints_get hj
    obtain ⟨m2, ds2, e, r1, r2, r3⟩ := dr2_step (k := k) (c := c) (p4 := 0 + (j : Int)) (m5 := m') (p2 := p2) (by omega) h2 h1 h3 (by omega)
    exact ⟨[k, Drw ds', .v (.int p2), c, .v (.int (0 + (j : Int))), .v (.int m')], _, rfl, e, _, m2, ds2, rfl, r1, r2, by omega⟩) ⟨t, m5, ds, rfl, h5, hd, by omega⟩
  refine ⟨_, (for_ok rfl).trans h1, t', _, ds', rfl, q2, ?_⟩
  rw [ints_len] at q3
  omega
theorem dr3_step {ns : List Int} {b : Nat} (hb : b < ns.length) (hb2 : b < 63) (hd : Pos ds) (hl : ds.length ≤ 50 * b) :
    ∃ σ', dr3 [.kl (dl ns), Drw ds, .v (.int (b : Int)), c, t, m] = .nx σ' ∧ ∃ c' t' m' ds', σ' = [.kl (dl ns), Drw ds', .v (.int (b : Int)), c', t', m'] ∧ Pos ds' ∧ ds'.length ≤ 50 * (b + 1) := by
  have hx : (dl ns)[b]? = some (.v (.int ns[b])) := by
    unfold dl
    rw [List.getElem?_map, List.getElem?_eq_getElem hb]
    all_goals rfl
  generalize ns[b] = x at hx
  have r0 : fIxN 0 (fVar 2) [.kl (dl ns), Drw ds, .v (.int (b : Int)), c, t, m] = .ok (.v (.int x)) [.kl (dl ns), Drw ds, .v (.int (b : Int)), c, t, m] := by
    have e : fIxN 0 (fVar 2) [.kl (dl ns), Drw ds, .v (.int (b : Int)), c, t, m] = (match ixT (.kl (dl ns)) (b : Int) with
        | some (w, t') => .ok w [t', Drw ds, .v (.int (b : Int)), c, t, m]
        | none => .stuck) := rfl
    rw [e]
    have e2 : ixT (.kl (dl ns)) (b : Int) = some (.v (.int x), .kl (dl ns)) := by
      show (atI (dl ns) (b : Int)).map (fun w => (w, T.kl (dl ns))) = _
      rw [← atF_eq]
      show (lget (dl ns) b).map (fun w => (w, T.kl (dl ns))) = _
      rw [lget_eq, hx]
      all_goals rfl
    rw [e2]
  have s1 : mAsg (mCallB sInt (mCons (fIxN 0 (fVar 2)) mNil)) (fN 3) [.kl (dl ns), Drw ds, .v (.int (b : Int)), c, t, m] = .nx [.kl (dl ns), Drw ds, .v (.int (b : Int)), .v (.int x), t, m] := by
    refine asg_ok (t := .v (.int x)) (σ1 := [.kl (dl ns), Drw ds, .v (.int (b : Int)), c, t, m]) ?_ rfl
    unfold mCallB mCons
    rw [r0]
    all_goals rfl
  unfold dr3
  rw [seq_nx s1]
  have s2 : ∃ y, 0 ≤ y ∧ (mIf (mBl (mOp2 sLt (fVar 3) (mC (.v (.int 0))))) (mAsg (mOp2 sSub (mC (.v (.int 7))) (fVar 3)) (fN 3)) .nx) [.kl (dl ns), Drw ds, .v (.int (b : Int)), .v (.int x), t, m] = .nx [.kl (dl ns), Drw ds, .v (.int (b : Int)), .v (.int y), t, m] := by
    by_cases h : x < 0
    · exact ⟨7 - x, by omega, (if_ok (b := decide (x < 0)) (σ1 := [.kl (dl ns), Drw ds, .v (.int (b : Int)), .v (.int x), t, m]) rfl).trans (by rw [if_pos (decide_eq_true h)]; all_goals rfl)⟩
    · exact ⟨x, by omega, (if_ok (b := decide (x < 0)) (σ1 := [.kl (dl ns), Drw ds, .v (.int (b : Int)), .v (.int x), t, m]) rfl).trans (by rw [if_neg (by simp [h])])⟩
  obtain ⟨y, hy, s2⟩ := s2
  rw [seq_nx s2]
  have t3 : mBl (mOp2 sGe (fVar 3) (mOp2 sPow (mC (.v (.int 10))) (mC (.v (.int 18))))) [.kl (dl ns), Drw ds, .v (.int (b : Int)), .v (.int y), t, m] = .ok (decide ((10 ^ 18 : Int) ≤ y)) [.kl (dl ns), Drw ds, .v (.int (b : Int)), .v (.int y), t, m] := by
    have p1 : sPow (.v (.int 10)) (.v (.int 18)) = some (.v (.int (10 ^ 18))) := by
      show ((if powB 10 18 = true then some (V.int (10 ^ (18 : Int).toNat)) else none).map T.v) = _
      rw [if_pos (by decide +kernel)]
      all_goals rfl
    have p2 := op2_ok (s := sGe) (w := .v (.bl (decide ((10 ^ 18 : Int) ≤ y)))) (f := fVar 3) (t := .v (.int y)) (σ := [.kl (dl ns), Drw ds, .v (.int (b : Int)), .v (.int y), t, m]) (σ1 := [.kl (dl ns), Drw ds, .v (.int (b : Int)), .v (.int y), t, m]) rfl (op2_ok (s := sPow) (f := mC (.v (.int 10))) (g := mC (.v (.int 18))) rfl rfl p1) rfl
    unfold mBl
    rw [p2]
    all_goals rfl
  rw [if_ok t3]
  by_cases h : (10 ^ 18 : Int) ≤ y
  · rw [if_pos (decide_eq_true h)]
    obtain ⟨σ', e, c', t', ds', rfl, h1, h2⟩ := out1 (L := []) (n := 0) (k := .kl (dl ns)) (p := .v (.int (b : Int))) (t := t) (m := m) hy hd hl hb2
    exact ⟨_, e, _, _, _, ds', rfl, h1, h2⟩
  · rw [if_neg (by simpa using h)]
    have hy2 : y < 10 ^ 18 := Int.not_le.mp h
    have ay : y.natAbs ≤ bigB := big_le (n := 10 ^ 18) (by omega) (by decide +kernel)
    have ab : (b : Int).natAbs ≤ bigB := big_le (n := 100) (by omega) (by decide +kernel)
    have hm : 0 ≤ (y * 75931 + (b : Int) * 30011 + 19) % 1073741789 := Int.emod_nonneg _ (by decide)
    have hm2 : (y * 75931 + (b : Int) * 30011 + 19) % 1073741789 < 1073741789 := Int.emod_lt_of_pos _ (by decide)
    have i1 : mOp2 fTimes (fVar 3) (mC (.v (.int 75931))) [.kl (dl ns), Drw ds, .v (.int (b : Int)), .v (.int y), t, m] = .ok (.v (.int (y * 75931))) [.kl (dl ns), Drw ds, .v (.int (b : Int)), .v (.int y), t, m] := op2_ok (t := .v (.int y)) (u := .v (.int 75931)) rfl rfl (fTimes_int ay (by decide +kernel))
    have i2 : mOp2 fTimes (fVar 2) (mC (.v (.int 30011))) [.kl (dl ns), Drw ds, .v (.int (b : Int)), .v (.int y), t, m] = .ok (.v (.int ((b : Int) * 30011))) [.kl (dl ns), Drw ds, .v (.int (b : Int)), .v (.int y), t, m] := op2_ok (t := .v (.int (b : Int))) (u := .v (.int 30011)) rfl rfl (fTimes_int ab (by decide +kernel))
    have i3 := op2_ok (s := sPlus) (w := .v (.int (y * 75931 + (b : Int) * 30011))) i1 i2 rfl
    have i4 := op2_ok (s := sPlus) (g := mC (.v (.int 19))) (u := .v (.int 19)) (σ2 := [.kl (dl ns), Drw ds, .v (.int (b : Int)), .v (.int y), t, m]) (w := .v (.int (y * 75931 + (b : Int) * 30011 + 19))) i3 rfl rfl
    have s5 : mAsg (mOp2 sMod (mCallB sInt (mCons (mOp2 sPlus (mOp2 sPlus (mOp2 fTimes (fVar 3) (mC (.v (.int 75931)))) (mOp2 fTimes (fVar 2) (mC (.v (.int 30011))))) (mC (.v (.int 19)))) mNil)) (mC (.v (.int 1073741789)))) (fN 5) [.kl (dl ns), Drw ds, .v (.int (b : Int)), .v (.int y), t, m] = .nx [.kl (dl ns), Drw ds, .v (.int (b : Int)), .v (.int y), t, .v (.int ((y * 75931 + (b : Int) * 30011 + 19) % 1073741789))] := by
      refine asg_ok (σ1 := [.kl (dl ns), Drw ds, .v (.int (b : Int)), .v (.int y), t, m]) (op2_ok (t := .v (.int (y * 75931 + (b : Int) * 30011 + 19))) (u := .v (.int 1073741789)) (σ1 := [.kl (dl ns), Drw ds, .v (.int (b : Int)), .v (.int y), t, m]) ?_ rfl (sMod_int (by decide))) rfl
      unfold mCallB mCons
      rw [i4]
      all_goals rfl
    rw [seq_nx s5]
    obtain ⟨σ', e, t', m', ds', rfl, h1, h2⟩ := out2 (k := .kl (dl ns)) (c := .v (.int y)) (t := t) (p2 := (b : Int)) (by omega) ⟨hm, by omega⟩ hd hl hb2
    exact ⟨_, e, _, _, _, ds', rfl, h1, h2⟩
theorem fzs_dl : fzs (dl ds) = dl ds := by
  rw [fzs_map]
  unfold dl
  rw [List.map_map]
  all_goals rfl
theorem drF_ok {ns : List Int} (hn : ns.length ≤ 63) : ∃ ds, drF [.kl (dl ns)] = .ok (Drw ds) .hole ∧ Pos ds := by
  have h0 : mRg1 (mCallB sMin (mCons (mLenN 0) (mCons (mC (.v (.int 63))) mNil))) [.kl (dl ns), Drw [], .hole, .hole, .hole, .hole] = .ok (intsFrom 0 ns.length) [.kl (dl ns), Drw [], .hole, .hole, .hole, .hole] := by
    have e : mRg1 (mCallB sMin (mCons (mLenN 0) (mCons (mC (.v (.int 63))) mNil))) [.kl (dl ns), Drw [], .hole, .hole, .hole, .hole] = (if rgB (if (63 : Int) < (((dl ns).length : Nat) : Int) then 63 else (((dl ns).length : Nat) : Int)) then .ok (intsFrom 0 (if (63 : Int) < (((dl ns).length : Nat) : Int) then 63 else (((dl ns).length : Nat) : Int)).toNat) [.kl (dl ns), Drw [], .hole, .hole, .hole, .hole] else .stuck) := rfl
    have hm : (if (63 : Int) < ((ns.length : Nat) : Int) then (63 : Int) else ((ns.length : Nat) : Int)) = ((ns.length : Nat) : Int) := if_neg (by omega)
    rw [e, dl_len, hm, if_pos (by unfold rgB; simp; omega)]
    simp
  obtain ⟨σ', h1, h2⟩ := forL_cnt (w := fN 2) (m := dr3) (fun i σ => ∃ p' c' t' m' ds', σ = [.kl (dl ns), Drw ds', p', c', t', m'] ∧ Pos ds' ∧ ds'.length ≤ 50 * i) (intsFrom 0 ns.length) 0 [.kl (dl ns), Drw [], .hole, .hole, .hole, .hole] (fun j u σ hj hi => by
    obtain ⟨p', c', t', m', ds', rfl, q1, q2⟩ := hi
    obtain ⟨hj2, rfl⟩ := ints_get hj
    rw [Nat.zero_add] at q2
    have z : (0 : Int) + (j : Int) = (j : Int) := by omega
    rw [z]
    obtain ⟨σ2, e, c2, t2, m2, ds2, rfl, r1, r2⟩ := dr3_step (ds := ds') (c := c') (t := t') (m := m') hj2 (by omega) q1 q2
    exact ⟨[.kl (dl ns), Drw ds', .v (.int (j : Int)), c', t', m'], _, rfl, e, _, _, _, _, ds2, rfl, r1, by rw [Nat.zero_add]; exact r2⟩) ⟨.hole, .hole, .hole, .hole, [], rfl, fun _ h => by simp at h, by simp⟩
  obtain ⟨p', c', t', m', ds', rfl, q1, _⟩ := h2
  refine ⟨ds'.reverse, ?_, fun x hx => q1 x (List.mem_reverse.mp hx)⟩
  have e1 : drB [.kl (dl ns), .hole, .hole, .hole, .hole, .hole] = .rt (Drw ds'.reverse) [.kl (dl ns), Drw ds', p', c', t', m'] ∨ True := .inr trivial
  have b1 : mAsg (mLst mNil) (fN 1) [.kl (dl ns), .hole, .hole, .hole, .hole, .hole] = .nx [.kl (dl ns), Drw [], .hole, .hole, .hole, .hole] := rfl
  have b2 : mFor (mRg1 (mCallB sMin (mCons (mLenN 0) (mCons (mC (.v (.int 63))) mNil)))) (fN 2) dr3 [.kl (dl ns), Drw [], .hole, .hole, .hole, .hole] = .nx [.kl (dl ns), Drw ds', p', c', t', m'] := (for_ok h0).trans h1
  have b3 : ∃ σ', mRet (mRevN 1) [.kl (dl ns), Drw ds', p', c', t', m'] = .rt (.own (fzs (dl ds')).reverse) σ' := ⟨_, rfl⟩
  obtain ⟨σ3, b3⟩ := b3
  have b : drB [.kl (dl ns), .hole, .hole, .hole, .hole, .hole] = .rt (.own (fzs (dl ds')).reverse) σ3 := by
    unfold drB
    rw [seq_nx b1, seq_nx b2]
    exact b3
  have e : drF [.kl (dl ns)] = (match drB [.kl (dl ns), .hole, .hole, .hole, .hole, .hole] with
    | .nx σ => .ok (.v .non) (lentT false σ)
    | .rt t σ => .ok t (lentT false σ)
    | .exc C ns us σ => .exc C ns us (lentT false σ)
    | _ => .stuck) := rfl
  rw [e, b, fzs_dl]
  simp only [Drw, dl, List.map_reverse]
  all_goals rfl
end
end MV

namespace MV
open PySem PySem.Spec PyProof.Rows L2

/-! ## One draw taken -/
noncomputable def tkB : List T → SRes := (mSeq (mIf (mOr (mBl (mOp2 fEq (mLenN 0) (mC (.v (.int 0))))) (mBl (mOp2 sLt (fVar 1) (mC (.v (.int 1))))))
  (mRet (mC (.v (.int 0))))
  .nx)
  (mRet (mOp2 sMod (mCallB sInt (mCons (mPopN 0) mNil)) (fVar 1))))
noncomputable def tkF : List T → FRes := mFn 2 true tkB
section
variable {ds : List Int}
theorem tkB_test (n : Int) : (mOr (mBl (mOp2 fEq (mLenN 0) (mC (.v (.int 0))))) (mBl (mOp2 sLt (fVar 1) (mC (.v (.int 1)))))) [Drw ds, .v (.int n)] = .ok (decide (((dl ds).length : Int) = 0) || decide (n < 1)) [Drw ds, .v (.int n)] := by
  have e : (mOr (mBl (mOp2 fEq (mLenN 0) (mC (.v (.int 0))))) (mBl (mOp2 sLt (fVar 1) (mC (.v (.int 1)))))) [Drw ds, .v (.int n)] = if decide (((dl ds).length : Int) = 0) = true then .ok true [Drw ds, .v (.int n)] else .ok (decide (n < 1)) [Drw ds, .v (.int n)] := rfl
  rw [e]
  by_cases h : ((dl ds).length : Int) = 0
  · rw [if_pos (decide_eq_true h), decide_eq_true h, Bool.true_or]
  · rw [if_neg (by simpa using h), decide_eq_false h, Bool.false_or]
theorem tkF_eq (n : Int) : tkF [Drw ds, .v (.int n)] = (match tkB [Drw ds, .v (.int n)] with
    | .nx σ => .ok (.v .non) (lentT true σ)
    | .rt t σ => .ok t (lentT true σ)
    | .exc C ns us σ => .exc C ns us (lentT true σ)
    | _ => .stuck) := rfl
theorem tk_zero {n : Int} (h : ds = [] ∨ n < 1) : tkF [Drw ds, .v (.int n)] = .ok (.v (.int 0)) (Drw ds) := by
  have z : (decide (((dl ds).length : Int) = 0) || decide (n < 1)) = true := by
    rcases h with h | h
    · subst h; all_goals rfl
    · simp [h]
  have b : tkB [Drw ds, .v (.int n)] = .rt (.v (.int 0)) [Drw ds, .v (.int n)] := by
    unfold tkB mSeq
    rw [if_ok (tkB_test n), if_pos z]
    all_goals rfl
  rw [tkF_eq, b]
  all_goals rfl
theorem tk_some {n x : Int} (hn : 0 < n) : tkF [Drw (ds ++ [x]), .v (.int n)] = .ok (.v (.int (x % n))) (Drw ds) := by
  have z : (decide (((dl (ds ++ [x])).length : Int) = 0) || decide (n < 1)) = false := by
    simp [dl]
    omega
  have p0 : mPopN 0 [Drw (ds ++ [x]), .v (.int n)] = .ok (.v (.int x)) [Drw ds, .v (.int n)] := by
    have e : mPopN 0 [Drw (ds ++ [x]), .v (.int n)] = (match (dl (ds ++ [x]))[(dl (ds ++ [x])).length - 1]? with
      | some w => .ok w [.own (dl (ds ++ [x])).dropLast, .v (.int n)]
      | none => .stuck) := rfl
    rw [e, ← dl_app]
    simp [Drw]
  have b : tkB [Drw (ds ++ [x]), .v (.int n)] = .rt (.v (.int (x % n))) [Drw ds, .v (.int n)] := by
    unfold tkB
    have s1 : (mIf (mOr (mBl (mOp2 fEq (mLenN 0) (mC (.v (.int 0))))) (mBl (mOp2 sLt (fVar 1) (mC (.v (.int 1)))))) (mRet (mC (.v (.int 0)))) .nx) [Drw (ds ++ [x]), .v (.int n)] = .nx [Drw (ds ++ [x]), .v (.int n)] := by
      rw [if_ok (tkB_test n), if_neg (by rw [z]; decide)]
    rw [seq_nx s1]
    have s2 : mOp2 sMod (mCallB sInt (mCons (mPopN 0) mNil)) (fVar 1) [Drw (ds ++ [x]), .v (.int n)] = .ok (.v (.int (x % n))) [Drw ds, .v (.int n)] := by
      refine op2_ok (t := .v (.int x)) (u := .v (.int n)) (σ1 := [Drw ds, .v (.int n)]) ?_ rfl (sMod_int hn)
      unfold mCallB mCons
      rw [p0]
      all_goals rfl
    unfold mRet
    rw [s2]
    all_goals rfl
  rw [tkF_eq, b]
  all_goals rfl
theorem tk_ok {n : Int} (hn : 0 < n) (hd : Pos ds) : ∃ r ds', tkF [Drw ds, .v (.int n)] = .ok (.v (.int r)) (Drw ds') ∧ 0 ≤ r ∧ r < n ∧ Pos ds' := by
  rcases List.eq_nil_or_concat ds with h | ⟨l, x, h⟩
  · exact ⟨0, ds, tk_zero (.inl h), by omega, hn, hd⟩
  · subst h
    refine ⟨x % n, l, ?_, Int.emod_nonneg _ (by omega), Int.emod_lt_of_pos _ hn, fun y hy => hd y (by simp [hy])⟩
    rw [List.concat_eq_append]
    exact tk_some hn
end
end MV

namespace MV
open PySem PySem.Spec PyProof.Rows L2

/-! ## What does not look at some slots -/
def Res.mv {α : Type} (φ : List T → List T) : Res α → Res α
  | .ok a σ => .ok a (φ σ)
  | .exc C ns ts σ => .exc C ns ts (φ σ)
  | .stuck => .stuck
def SRes.mv (φ : List T → List T) : SRes → SRes
  | .nx σ => .nx (φ σ)
  | .bk σ => .bk (φ σ)
  | .ct σ => .ct (φ σ)
  | .rt t σ => .rt t (φ σ)
  | .exc C ns ts σ => .exc C ns ts (φ σ)
  | .stuck => .stuck
def Ind {α : Type} (φ : List T → List T) (f : List T → Res α) : Prop := ∀ σ, f (φ σ) = (f σ).mv φ
def IndS (φ : List T → List T) (m : List T → SRes) : Prop := ∀ σ, m (φ σ) = (m σ).mv φ
def Good (φ : List T → List T) (i : Nat) : Prop := ∀ σ : List T, (φ σ)[i]? = σ[i]? ∧ (φ σ).length = σ.length ∧ ∀ t, (φ σ).set i t = φ (σ.set i t)
section
variable {φ : List T → List T} {i : Nat} {f g : List T → Res T} {ga : List T → Res (List T)} {a b : List T → Res Bool} {m k : List T → SRes}
theorem ind_bind {α β : Type} {f : List T → Res α} {h : α → List T → Res β} (hf : Ind φ f) (hh : ∀ x, Ind φ (h x)) : Ind φ (fun σ => (f σ).bind fun x σ1 => h x σ1) := fun σ => by
  simp only [hf σ]
  cases f σ with
  | ok x σ1 => exact hh x σ1
  | exc _ _ _ _ => rfl
  | stuck => rfl
theorem ind_sbind {α : Type} {f : List T → Res α} {h : α → List T → SRes} (hf : Ind φ f) (hh : ∀ x, IndS φ (h x)) : IndS φ (fun σ => (f σ).sbind fun x σ1 => h x σ1) := fun σ => by
  simp only [hf σ]
  cases f σ with
  | ok x σ1 => exact hh x σ1
  | exc _ _ _ _ => rfl
  | stuck => rfl
theorem ind_ok {α : Type} {x : α} : Ind φ (fun σ => Res.ok x σ) := fun _ => rfl
theorem ind_stuck {α : Type} : Ind φ (fun _ => (Res.stuck : Res α)) := fun _ => rfl
theorem ind_c {t : T} : Ind φ (mC t) := fun _ => rfl
theorem ind_var (h : Good φ i) : Ind φ (fVar i) := fun σ => by
  rw [fVar_eq]
  unfold mVar
  rw [(h σ).1]
  cases σ[i]? with
  | none => rfl
  | some t =>
    simp only []
    cases t.isHole with
    | true => rfl
    | false =>
      simp only [Bool.false_eq_true, if_false, Res.mv]
      rw [(h σ).2.2]
theorem ind_nil : Ind φ mNil := fun _ => rfl
theorem ind_cons (hf : Ind φ f) (hg : Ind φ ga) : Ind φ (mCons f ga) := ind_bind hf fun x => ind_bind hg fun y => ind_ok
theorem ind_opt {α : Type} {o : Option α} : Ind φ (fun σ => match o with | some w => Res.ok w σ | none => .stuck) := fun σ => by cases o <;> rfl
theorem ind_op2 {s : OS} (hf : Ind φ f) (hg : Ind φ g) : Ind φ (mOp2 s f g) := ind_bind hf fun x => ind_bind hg fun y => fun σ => by
  cases s x y <;> rfl
theorem ind_callB {s : List T → Option T} (hg : Ind φ ga) : Ind φ (mCallB s ga) := ind_bind hg fun x => fun σ => by
  cases s x <;> rfl
theorem ind_call {F : List T → FRes} (hg : Ind φ ga) : Ind φ (mCall F ga) := ind_bind hg fun x => fun σ => by
  cases F x <;> rfl
theorem ind_lst (hg : Ind φ ga) : Ind φ (mLst ga) := ind_bind hg fun x => fun σ => by
  cases szB x.length <;> rfl
theorem ind_tup (hg : Ind φ ga) : Ind φ (mTup ga) := ind_bind hg fun x => fun σ => by
  cases szB x.length <;> rfl
theorem ind_ixN (h : Good φ i) (hg : Ind φ g) : Ind φ (fIxN i g) := fun σ => by
  rw [fIxN_eq]
  unfold mIxN
  have hl : live (φ σ) i = live σ i := by unfold live; rw [(h σ).1]
  rw [hl]
  cases live σ i with
  | false => rfl
  | true =>
    simp only [if_true]
    rw [hg σ]
    cases g σ with
    | stuck => rfl
    | exc _ _ _ _ => rfl
    | ok u σ1 =>
      simp only [Res.mv, Res.bind]
      rw [(h σ1).1]
      split
      · split
        · rfl
        · split
          · simp only [Res.mv]
            rw [(h σ1).2.2]
          · rfl
      · rfl
theorem ind_bl (hf : Ind φ f) : Ind φ (mBl f) := ind_bind hf fun x => fun σ => by
  cases x with
  | v c => cases c <;> rfl
  | _ => rfl
theorem ind_not (ha : Ind φ a) : Ind φ (mNot a) := ind_bind ha fun x => ind_ok
theorem ind_and (ha : Ind φ a) (hb : Ind φ b) : Ind φ (mAnd a b) := ind_bind ha fun x => by cases x; exact ind_ok; exact hb
theorem ind_or (ha : Ind φ a) (hb : Ind φ b) : Ind φ (mOr a b) := ind_bind ha fun x => by cases x; exact hb; exact ind_ok
theorem ind_tru (hf : Ind φ f) : Ind φ (mTru f) := ind_bind hf fun x => fun σ => by
  cases truT x <;> rfl
theorem ind_neg (hf : Ind φ f) : Ind φ (mNeg f) := ind_bind hf fun x => fun σ => by
  cases x with
  | v c => cases c <;> rfl
  | _ => rfl
theorem inds_nx : IndS φ .nx := fun _ => rfl
theorem inds_seq (hm : IndS φ m) (hk : IndS φ k) : IndS φ (mSeq m k) := fun σ => by
  unfold mSeq
  rw [hm σ]
  cases m σ with
  | nx σ1 => exact hk σ1
  | _ => rfl
theorem inds_if (ha : Ind φ a) (hm : IndS φ m) (hk : IndS φ k) : IndS φ (mIf a m k) := ind_sbind ha fun x => by cases x; exact hk; exact hm
theorem inds_asg (h : Good φ i) (hf : Ind φ f) : IndS φ (mAsg f (fN i)) := ind_sbind hf fun x => fun σ => by
  rw [fN_eq]
  unfold wN
  rw [(h σ).2.1]
  by_cases hi : i < σ.length
  · simp only [hi, if_true, SRes.mv]
    rw [(h σ).2.2]
  · simp only [hi, if_false]
    all_goals rfl
theorem inds_ret (hf : Ind φ f) : IndS φ (mRet f) := ind_sbind hf fun x => fun _ => rfl
theorem inds_ex (hf : Ind φ f) : IndS φ (mEx f) := ind_sbind hf fun x => fun _ => rfl
end
/-- some slots written -/
def wr : List (Nat × T) → List T → List T
  | [], σ => σ
  | (i, t) :: r, σ => (wr r σ).set i t
theorem wr_len : ∀ (l : List (Nat × T)) (σ : List T), (wr l σ).length = σ.length
  | [], σ => rfl
  | (i, t) :: r, σ => by simp only [wr, List.length_set]; exact wr_len r σ
theorem wr_good : ∀ (l : List (Nat × T)) (i : Nat), (∀ p ∈ l, p.1 ≠ i) → Good (wr l) i
  | [], i, h, σ => ⟨rfl, rfl, fun _ => rfl⟩
  | (j, u) :: r, i, h, σ => by
    have hj : j ≠ i := h (j, u) (by simp)
    obtain ⟨h1, h2, h3⟩ := wr_good r i (fun p hp => h p (by simp [hp])) σ
    refine ⟨?_, wr_len _ σ, fun t => ?_⟩
    · simp only [wr]
      rw [List.getElem?_set_ne hj, h1]
    · simp only [wr]
      rw [← h3 t, List.set_comm _ _ hj]
end MV

namespace G
open PySem PySem.Spec PyProof.Rows L2 MV
def topS (i : Nat) : Stmt := PySem.Challenge.pw_minusless_k11_corners_and_levels.main.body.getD i (.Pass ⟨0, 0, 0, 0⟩)
abbrev s_is_plain_integer : Stmt := topS 14
theorem sc_is_plain_integer : FnScope ["value"] ["value"] (defScope s_is_plain_integer) := ⟨rfl, rfl, rfl, by decide +kernel, rfl, by decide +kernel, by decide +kernel⟩
abbrev s_is_number : Stmt := topS 15
theorem sc_is_number : FnScope ["value", "under", "top"] ["value"] (defScope s_is_number) := ⟨rfl, rfl, rfl, by decide +kernel, rfl, by decide +kernel, by decide +kernel⟩
abbrev s_check_number : Stmt := topS 16
theorem sc_check_number : FnScope ["number"] ["number"] (defScope s_check_number) := ⟨rfl, rfl, rfl, by decide +kernel, rfl, by decide +kernel, by decide +kernel⟩
abbrev s_check_row : Stmt := topS 17
theorem sc_check_row : FnScope ["row", "place"] ["row"] (defScope s_check_row) := ⟨rfl, rfl, rfl, by decide +kernel, rfl, by decide +kernel, by decide +kernel⟩
abbrev s_lowest : Stmt := topS 18
theorem sc_lowest : FnScope ["top", "under", "shared"] ["top", "under"] (defScope s_lowest) := ⟨rfl, rfl, rfl, by decide +kernel, rfl, by decide +kernel, by decide +kernel⟩
abbrev s_less : Stmt := topS 20
theorem sc_less : FnScope ["one", "other"] ["one", "other"] (defScope s_less) := ⟨rfl, rfl, rfl, by decide +kernel, rfl, by decide +kernel, by decide +kernel⟩
abbrev s_times : Stmt := topS 21
theorem sc_times : FnScope ["one", "other"] ["one", "other"] (defScope s_times) := ⟨rfl, rfl, rfl, by decide +kernel, rfl, by decide +kernel, by decide +kernel⟩
abbrev s_over : Stmt := topS 22
theorem sc_over : FnScope ["one", "other"] ["one", "other"] (defScope s_over) := ⟨rfl, rfl, rfl, by decide +kernel, rfl, by decide +kernel, by decide +kernel⟩
abbrev s_is_place : Stmt := topS 31
theorem sc_is_place : FnScope ["value", "many"] ["value", "many"] (defScope s_is_place) := ⟨rfl, rfl, rfl, by decide +kernel, rfl, by decide +kernel, by decide +kernel⟩
abbrev s_checked_rows : Stmt := topS 32
theorem sc_checked_rows : FnScope ["rows", "row", "at"] ["rows"] (defScope s_checked_rows) := ⟨rfl, rfl, rfl, by decide +kernel, rfl, by decide +kernel, by decide +kernel⟩
abbrev s_row_at : Stmt := topS 33
theorem sc_row_at : FnScope ["at", "many"] ["at", "many"] (defScope s_row_at) := ⟨rfl, rfl, rfl, by decide +kernel, rfl, by decide +kernel, by decide +kernel⟩
abbrev s_Table___init__ : Stmt := inClass (topS 34) 0
theorem sc_Table___init__ : FnScope ["self", "rows"] ["self", "rows"] (defScope s_Table___init__) := ⟨rfl, rfl, rfl, by decide +kernel, rfl, by decide +kernel, by decide +kernel⟩
abbrev s_Table_corner : Stmt := inClass (topS 34) 10
theorem sc_Table_corner : FnScope ["self", "row", "column", "told"] ["self", "row", "column"] (defScope s_Table_corner) := ⟨rfl, rfl, rfl, by decide +kernel, rfl, by decide +kernel, by decide +kernel⟩
abbrev s_full_after : Stmt := topS 36
theorem sc_full_after : FnScope ["row", "column", "at"] ["row", "column"] (defScope s_full_after) := ⟨rfl, rfl, rfl, by decide +kernel, rfl, by decide +kernel, by decide +kernel⟩
abbrev s_pair_of_rows : Stmt := topS 37
theorem sc_pair_of_rows : FnScope ["row", "by"] ["row", "by"] (defScope s_pair_of_rows) := ⟨rfl, rfl, rfl, by decide +kernel, rfl, by decide +kernel, by decide +kernel⟩
abbrev s_unmade_row : Stmt := topS 38
theorem sc_unmade_row : FnScope ["row", "by", "at", "after", "number", "out"] ["row", "by"] (defScope s_unmade_row) := ⟨rfl, rfl, rfl, by decide +kernel, rfl, by decide +kernel, by decide +kernel⟩
abbrev s_rows_above : Stmt := topS 39
theorem sc_rows_above : FnScope ["rows", "row"] ["rows"] (defScope s_rows_above) := ⟨rfl, rfl, rfl, by decide +kernel, rfl, by decide +kernel, by decide +kernel⟩
abbrev s_unmade : Stmt := topS 40
theorem sc_unmade : FnScope ["table", "rows", "found"] ["table"] (defScope s_unmade) := ⟨rfl, rfl, rfl, by decide +kernel, rfl, by decide +kernel, by decide +kernel⟩
abbrev s_level : Stmt := topS 41
theorem sc_level : FnScope ["table", "at", "rows"] ["table", "at"] (defScope s_level) := ⟨rfl, rfl, rfl, by decide +kernel, rfl, by decide +kernel, by decide +kernel⟩
abbrev s_core_row : Stmt := topS 42
theorem sc_core_row : FnScope ["table", "at"] ["table", "at"] (defScope s_core_row) := ⟨rfl, rfl, rfl, by decide +kernel, rfl, by decide +kernel, by decide +kernel⟩
abbrev s_last_round : Stmt := topS 43
theorem sc_last_round : FnScope ["table"] ["table"] (defScope s_last_round) := ⟨rfl, rfl, rfl, by decide +kernel, rfl, by decide +kernel, by decide +kernel⟩
abbrev s__law_draws : Stmt := topS 45
theorem sc__law_draws : FnScope ["_law_script", "_law_row", "_law_place", "_law_cell", "_law_turn", "_law_mixed"] ["_law_script"] (defScope s__law_draws) := ⟨rfl, rfl, rfl, by decide +kernel, rfl, by decide +kernel, by decide +kernel⟩
abbrev s__law_take : Stmt := topS 46
theorem sc__law_take : FnScope ["_law_draws_here", "_law_many"] ["_law_draws_here", "_law_many"] (defScope s__law_take) := ⟨rfl, rfl, rfl, by decide +kernel, rfl, by decide +kernel, by decide +kernel⟩
abbrev s__law_pair : Stmt := topS 47
theorem sc__law_pair : FnScope ["_law_top", "_law_under", "_law_other_here", "_law_one", "_law_rest", "_law_turn"] ["_law_top", "_law_under"] (defScope s__law_pair) := ⟨rfl, rfl, rfl, by decide +kernel, rfl, by decide +kernel, by decide +kernel⟩
abbrev s__law_less : Stmt := topS 48
theorem sc__law_less : FnScope ["_law_one", "_law_other_here"] ["_law_one", "_law_other_here"] (defScope s__law_less) := ⟨rfl, rfl, rfl, by decide +kernel, rfl, by decide +kernel, by decide +kernel⟩
abbrev s__law_times : Stmt := topS 49
theorem sc__law_times : FnScope ["_law_one", "_law_other_here"] ["_law_one", "_law_other_here"] (defScope s__law_times) := ⟨rfl, rfl, rfl, by decide +kernel, rfl, by decide +kernel, by decide +kernel⟩
abbrev s__law_over : Stmt := topS 50
theorem sc__law_over : FnScope ["_law_one", "_law_other_here"] ["_law_one", "_law_other_here"] (defScope s__law_over) := ⟨rfl, rfl, rfl, by decide +kernel, rfl, by decide +kernel, by decide +kernel⟩
abbrev s__law_is_number : Stmt := topS 51
theorem sc__law_is_number : FnScope ["_law_value", "_law_side"] ["_law_value"] (defScope s__law_is_number) := ⟨rfl, rfl, rfl, by decide +kernel, rfl, by decide +kernel, by decide +kernel⟩
abbrev s__law_is_rows : Stmt := topS 52
theorem sc__law_is_rows : FnScope ["_law_value", "_law_high", "_law_wide", "_law_number", "_law_row"] ["_law_value", "_law_high", "_law_wide"] (defScope s__law_is_rows) := ⟨rfl, rfl, rfl, by decide +kernel, rfl, by decide +kernel, by decide +kernel⟩
abbrev s__law_fixed : Stmt := topS 53
theorem sc__law_fixed : FnScope ["_law_rows", "_law_row"] ["_law_rows"] (defScope s__law_fixed) := ⟨rfl, rfl, rfl, by decide +kernel, rfl, by decide +kernel, by decide +kernel⟩
abbrev s__law_copy : Stmt := topS 54
theorem sc__law_copy : FnScope ["_law_rows", "_law_row"] ["_law_rows"] (defScope s__law_copy) := ⟨rfl, rfl, rfl, by decide +kernel, rfl, by decide +kernel, by decide +kernel⟩
abbrev s__law_next : Stmt := topS 55
theorem sc__law_next : FnScope ["_law_row", "_law_column", "_law_place"] ["_law_row", "_law_column"] (defScope s__law_next) := ⟨rfl, rfl, rfl, by decide +kernel, rfl, by decide +kernel, by decide +kernel⟩
abbrev s__law_unmade_row : Stmt := topS 56
theorem sc__law_unmade_row : FnScope ["_law_row", "_law_by", "_law_column", "_law_place", "_law_number", "_law_share", "_law_told"] ["_law_row", "_law_by"] (defScope s__law_unmade_row) := ⟨rfl, rfl, rfl, by decide +kernel, rfl, by decide +kernel, by decide +kernel⟩
abbrev s__law_unmade : Stmt := topS 57
theorem sc__law_unmade : FnScope ["_law_rows", "_law_work", "_law_r", "_law_at", "_law_turn"] ["_law_rows"] (defScope s__law_unmade) := ⟨rfl, rfl, rfl, by decide +kernel, rfl, by decide +kernel, by decide +kernel⟩
abbrev s__law_level : Stmt := topS 58
theorem sc__law_level : FnScope ["_law_rows", "_law_last", "_law_work", "_law_r", "_law_at", "_law_turn"] ["_law_rows", "_law_last"] (defScope s__law_level) := ⟨rfl, rfl, rfl, by decide +kernel, rfl, by decide +kernel, by decide +kernel⟩
abbrev s__law_any : Stmt := topS 59
theorem sc__law_any : FnScope ["_law_draws_here"] ["_law_draws_here"] (defScope s__law_any) := ⟨rfl, rfl, rfl, by decide +kernel, rfl, by decide +kernel, by decide +kernel⟩
abbrev s__law_size : Stmt := topS 60
theorem sc__law_size : FnScope ["_law_draws_here", "_law_most"] ["_law_draws_here", "_law_most"] (defScope s__law_size) := ⟨rfl, rfl, rfl, by decide +kernel, rfl, by decide +kernel, by decide +kernel⟩
abbrev s__law_signed : Stmt := topS 61
theorem sc__law_signed : FnScope ["_law_draws_here", "_law_word"] ["_law_draws_here"] (defScope s__law_signed) := ⟨rfl, rfl, rfl, by decide +kernel, rfl, by decide +kernel, by decide +kernel⟩
abbrev s__law_same : Stmt := topS 62
theorem sc__law_same : FnScope ["_law_told", "_law_due"] ["_law_told", "_law_due"] (defScope s__law_same) := ⟨rfl, rfl, rfl, by decide +kernel, rfl, by decide +kernel, by decide +kernel⟩
abbrev s__law_no_level : Stmt := topS 63
theorem sc__law_no_level : FnScope ["_law_table", "_law_at", "_law_told", "raised", "_law_again"] ["_law_table", "_law_at"] (defScope s__law_no_level) := ⟨rfl, rfl, rfl, by decide +kernel, rfl, by decide +kernel, by decide +kernel⟩
abbrev s__law_last_round : Stmt := topS 64
theorem sc__law_last_round : FnScope ["_law_table", "_law_rows", "_law_told", "_law_bound", "raised"] ["_law_table", "_law_rows"] (defScope s__law_last_round) := ⟨rfl, rfl, rfl, by decide +kernel, rfl, by decide +kernel, by decide +kernel⟩
abbrev s__law_levels : Stmt := topS 65
theorem sc__law_levels : FnScope ["_law_table", "_law_rows", "_law_core", "_law_at", "_law_own", "_law_told", "_law_row"] ["_law_table", "_law_rows", "_law_core"] (defScope s__law_levels) := ⟨rfl, rfl, rfl, by decide +kernel, rfl, by decide +kernel, by decide +kernel⟩
abbrev s__law_corners : Stmt := topS 66
theorem sc__law_corners : FnScope ["_law_table", "_law_core", "_law_line", "_law_c", "_law_r", "_law_due", "_law_whole"] ["_law_table", "_law_core"] (defScope s__law_corners) := ⟨rfl, rfl, rfl, by decide +kernel, rfl, by decide +kernel, by decide +kernel⟩
abbrev s__law_other : Stmt := topS 67
theorem sc__law_other : FnScope ["_law_draws_here", "_law_rows", "_law_r", "_law_c", "_law_place", "_law_number", "_law_at", "_law_line", "_law_told"] ["_law_draws_here", "_law_rows", "_law_r", "_law_c"] (defScope s__law_other) := ⟨rfl, rfl, rfl, by decide +kernel, rfl, by decide +kernel, by decide +kernel⟩
abbrev s_law : Stmt := topS 68
theorem sc_law : FnScope ["_law_script", "_law_draws_here", "_law_high", "_law_wide", "_law_r", "_law_c", "_law_rows", "_law_core", "_law_table", "_law_other_here", "_law_at", "_law_place", "_law_line"] ["_law_script"] (defScope s_law) := ⟨rfl, rfl, rfl, by decide +kernel, rfl, by decide +kernel, by decide +kernel⟩
def ini_BadNumber : Stmt := match topS 4 with | .ClassDef _ _ _ b _ _ _ _ _ _ _ => b.getD 0 (.Pass ⟨0, 0, 0, 0⟩) | _ => .Pass ⟨0, 0, 0, 0⟩
abbrev XT_BadNumber (K : PySem.W.Frag) (mg : Str → Option Value) (C fI : Addr) : Prop := MVX.Xt PySem.Challenge.pw_minusless_k11_corners_and_levels K mg "BadNumber" C fI ["place"]
abbrev XI_BadNumber (K : PySem.W.Frag) (C fI : Addr) : Prop := MVX.Xi PySem.Challenge.pw_minusless_k11_corners_and_levels K C fI "BadNumber.__init__" (defArgs ini_BadNumber) (defBody ini_BadNumber) (defScope ini_BadNumber)
def xs_BadNumber : MVX.Xs "BadNumber.__init__" (defArgs ini_BadNumber) (defBody ini_BadNumber) (defScope ini_BadNumber) ["place"] where
  p0 := _
  p1 := _
  p2 := _
  p3 := _
  p4 := _
  p5 := _
  j := _
  txt := _
  as := _
  a0 := _
  body := rfl
  har := rfl
  self := rfl
  kind := rfl
  co := rfl
  gen := rfl
  nocell := by decide +kernel
  kS := rfl
  kC := rfl
  kself := rfl
  kn := by decide +kernel
  nd := by decide +kernel
  bind := fun _ _ _ _ _ _ _ us hl => match us, hl with | [_, _], _ => .of_eq rfl
  pl := _
  ev := fun _ _ _ _ => rfl
  sw := fun _ _ _ _ => rfl
theorem mk_BadNumber {X : Cx} {C fI : Addr} (T : MVX.Xt X.prog X.K X.mg "BadNumber" C fI ["place"]) (I : MVX.Xi X.prog X.K C fI "BadNumber.__init__" (defArgs ini_BadNumber) (defBody ini_BadNumber) (defScope ini_BadNumber)) : MakesX X C ["place"] := makes1 T I xs_BadNumber rfl (fun _ _ _ _ => rfl) rfl
def ini_BadTable : Stmt := match topS 5 with | .ClassDef _ _ _ b _ _ _ _ _ _ _ => b.getD 0 (.Pass ⟨0, 0, 0, 0⟩) | _ => .Pass ⟨0, 0, 0, 0⟩
abbrev XT_BadTable (K : PySem.W.Frag) (mg : Str → Option Value) (C fI : Addr) : Prop := MVX.Xt PySem.Challenge.pw_minusless_k11_corners_and_levels K mg "BadTable" C fI ["row"]
abbrev XI_BadTable (K : PySem.W.Frag) (C fI : Addr) : Prop := MVX.Xi PySem.Challenge.pw_minusless_k11_corners_and_levels K C fI "BadTable.__init__" (defArgs ini_BadTable) (defBody ini_BadTable) (defScope ini_BadTable)
def xs_BadTable : MVX.Xs "BadTable.__init__" (defArgs ini_BadTable) (defBody ini_BadTable) (defScope ini_BadTable) ["row"] where
  p0 := _
  p1 := _
  p2 := _
  p3 := _
  p4 := _
  p5 := _
  j := _
  txt := _
  as := _
  a0 := _
  body := rfl
  har := rfl
  self := rfl
  kind := rfl
  co := rfl
  gen := rfl
  nocell := by decide +kernel
  kS := rfl
  kC := rfl
  kself := rfl
  kn := by decide +kernel
  nd := by decide +kernel
  bind := fun _ _ _ _ _ _ _ us hl => match us, hl with | [_, _], _ => .of_eq rfl
  pl := _
  ev := fun _ _ _ _ => rfl
  sw := fun _ _ _ _ => rfl
theorem mk_BadTable {X : Cx} {C fI : Addr} (T : MVX.Xt X.prog X.K X.mg "BadTable" C fI ["row"]) (I : MVX.Xi X.prog X.K C fI "BadTable.__init__" (defArgs ini_BadTable) (defBody ini_BadTable) (defScope ini_BadTable)) : MakesX X C ["row"] := makes1 T I xs_BadTable rfl (fun _ _ _ _ => rfl) rfl
def ini_TooMany : Stmt := match topS 9 with | .ClassDef _ _ _ b _ _ _ _ _ _ _ => b.getD 0 (.Pass ⟨0, 0, 0, 0⟩) | _ => .Pass ⟨0, 0, 0, 0⟩
abbrev XT_TooMany (K : PySem.W.Frag) (mg : Str → Option Value) (C fI : Addr) : Prop := MVX.Xt PySem.Challenge.pw_minusless_k11_corners_and_levels K mg "TooMany" C fI ["bound"]
abbrev XI_TooMany (K : PySem.W.Frag) (C fI : Addr) : Prop := MVX.Xi PySem.Challenge.pw_minusless_k11_corners_and_levels K C fI "TooMany.__init__" (defArgs ini_TooMany) (defBody ini_TooMany) (defScope ini_TooMany)
def xs_TooMany : MVX.Xs "TooMany.__init__" (defArgs ini_TooMany) (defBody ini_TooMany) (defScope ini_TooMany) ["bound"] where
  p0 := _
  p1 := _
  p2 := _
  p3 := _
  p4 := _
  p5 := _
  j := _
  txt := _
  as := _
  a0 := _
  body := rfl
  har := rfl
  self := rfl
  kind := rfl
  co := rfl
  gen := rfl
  nocell := by decide +kernel
  kS := rfl
  kC := rfl
  kself := rfl
  kn := by decide +kernel
  nd := by decide +kernel
  bind := fun _ _ _ _ _ _ _ us hl => match us, hl with | [_, _], _ => .of_eq rfl
  pl := _
  ev := fun _ _ _ _ => rfl
  sw := fun _ _ _ _ => rfl
theorem mk_TooMany {X : Cx} {C fI : Addr} (T : MVX.Xt X.prog X.K X.mg "TooMany" C fI ["bound"]) (I : MVX.Xi X.prog X.K C fI "TooMany.__init__" (defArgs ini_TooMany) (defBody ini_TooMany) (defScope ini_TooMany)) : MakesX X C ["bound"] := makes1 T I xs_TooMany rfl (fun _ _ _ _ => rfl) rfl
def ini_BadBox : Stmt := match topS 6 with | .ClassDef _ _ _ b _ _ _ _ _ _ _ => b.getD 0 (.Pass ⟨0, 0, 0, 0⟩) | _ => .Pass ⟨0, 0, 0, 0⟩
abbrev XT_BadBox (K : PySem.W.Frag) (mg : Str → Option Value) (C fI : Addr) : Prop := MVX.Xt PySem.Challenge.pw_minusless_k11_corners_and_levels K mg "BadBox" C fI ["row", "column"]
abbrev XI_BadBox (K : PySem.W.Frag) (C fI : Addr) : Prop := MVX.Xi PySem.Challenge.pw_minusless_k11_corners_and_levels K C fI "BadBox.__init__" (defArgs ini_BadBox) (defBody ini_BadBox) (defScope ini_BadBox)
def xs_BadBox : MVX.Xs "BadBox.__init__" (defArgs ini_BadBox) (defBody ini_BadBox) (defScope ini_BadBox) ["row", "column"] where
  p0 := _
  p1 := _
  p2 := _
  p3 := _
  p4 := _
  p5 := _
  j := _
  txt := _
  as := _
  a0 := _
  body := rfl
  har := rfl
  self := rfl
  kind := rfl
  co := rfl
  gen := rfl
  nocell := by decide +kernel
  kS := rfl
  kC := rfl
  kself := rfl
  kn := by decide +kernel
  nd := by decide +kernel
  bind := fun _ _ _ _ _ _ _ us hl => match us, hl with | [_, _, _], _ => .of_eq rfl
  pl := _
  ev := fun _ _ _ _ => rfl
  sw := fun _ _ _ _ => rfl
theorem mk_BadBox {X : Cx} {C fI : Addr} (T : MVX.Xt X.prog X.K X.mg "BadBox" C fI ["row", "column"]) (I : MVX.Xi X.prog X.K C fI "BadBox.__init__" (defArgs ini_BadBox) (defBody ini_BadBox) (defScope ini_BadBox)) : MakesX X C ["row", "column"] := makes2 T I xs_BadBox rfl (fun _ _ _ _ => rfl) (fun _ _ _ _ => rfl) rfl rfl rfl
def ini_OtherSize : Stmt := match topS 8 with | .ClassDef _ _ _ b _ _ _ _ _ _ _ => b.getD 0 (.Pass ⟨0, 0, 0, 0⟩) | _ => .Pass ⟨0, 0, 0, 0⟩
abbrev XT_OtherSize (K : PySem.W.Frag) (mg : Str → Option Value) (C fI : Addr) : Prop := MVX.Xt PySem.Challenge.pw_minusless_k11_corners_and_levels K mg "OtherSize" C fI ["one", "other"]
abbrev XI_OtherSize (K : PySem.W.Frag) (C fI : Addr) : Prop := MVX.Xi PySem.Challenge.pw_minusless_k11_corners_and_levels K C fI "OtherSize.__init__" (defArgs ini_OtherSize) (defBody ini_OtherSize) (defScope ini_OtherSize)
def xs_OtherSize : MVX.Xs "OtherSize.__init__" (defArgs ini_OtherSize) (defBody ini_OtherSize) (defScope ini_OtherSize) ["one", "other"] where
  p0 := _
  p1 := _
  p2 := _
  p3 := _
  p4 := _
  p5 := _
  j := _
  txt := _
  as := _
  a0 := _
  body := rfl
  har := rfl
  self := rfl
  kind := rfl
  co := rfl
  gen := rfl
  nocell := by decide +kernel
  kS := rfl
  kC := rfl
  kself := rfl
  kn := by decide +kernel
  nd := by decide +kernel
  bind := fun _ _ _ _ _ _ _ us hl => match us, hl with | [_, _, _], _ => .of_eq rfl
  pl := _
  ev := fun _ _ _ _ => rfl
  sw := fun _ _ _ _ => rfl
theorem mk_OtherSize {X : Cx} {C fI : Addr} (T : MVX.Xt X.prog X.K X.mg "OtherSize" C fI ["one", "other"]) (I : MVX.Xi X.prog X.K C fI "OtherSize.__init__" (defArgs ini_OtherSize) (defBody ini_OtherSize) (defScope ini_OtherSize)) : MakesX X C ["one", "other"] := makes2 T I xs_OtherSize rfl (fun _ _ _ _ => rfl) (fun _ _ _ _ => rfl) rfl rfl rfl
structure Fx (K : PySem.W.Frag) (mg : Str → Option Value) where
  a_is_plain_integer : Addr
  fd_is_plain_integer : FuncData
  F_is_plain_integer : Fun K "is_plain_integer" "is_plain_integer" s_is_plain_integer a_is_plain_integer fd_is_plain_integer
  b_is_plain_integer : Binds K fd_is_plain_integer ["value"] []
  g_is_plain_integer : mg "is_plain_integer" = some (.ref a_is_plain_integer)
  a_is_number : Addr
  fd_is_number : FuncData
  F_is_number : Fun K "is_number" "is_number" s_is_number a_is_number fd_is_number
  b_is_number : Binds K fd_is_number ["value"] []
  g_is_number : mg "is_number" = some (.ref a_is_number)
  a_check_number : Addr
  fd_check_number : FuncData
  F_check_number : Fun K "check_number" "check_number" s_check_number a_check_number fd_check_number
  b_check_number : Binds K fd_check_number ["number"] []
  g_check_number : mg "check_number" = some (.ref a_check_number)
  a_check_row : Addr
  fd_check_row : FuncData
  F_check_row : Fun K "check_row" "check_row" s_check_row a_check_row fd_check_row
  b_check_row : Binds K fd_check_row ["row"] []
  g_check_row : mg "check_row" = some (.ref a_check_row)
  a_lowest : Addr
  fd_lowest : FuncData
  F_lowest : Fun K "lowest" "lowest" s_lowest a_lowest fd_lowest
  b_lowest : Binds K fd_lowest ["top", "under"] []
  g_lowest : mg "lowest" = some (.ref a_lowest)
  a_less : Addr
  fd_less : FuncData
  F_less : Fun K "less" "less" s_less a_less fd_less
  b_less : Binds K fd_less ["one", "other"] []
  g_less : mg "less" = some (.ref a_less)
  a_times : Addr
  fd_times : FuncData
  F_times : Fun K "times" "times" s_times a_times fd_times
  b_times : Binds K fd_times ["one", "other"] []
  g_times : mg "times" = some (.ref a_times)
  a_over : Addr
  fd_over : FuncData
  F_over : Fun K "over" "over" s_over a_over fd_over
  b_over : Binds K fd_over ["one", "other"] []
  g_over : mg "over" = some (.ref a_over)
  a_is_place : Addr
  fd_is_place : FuncData
  F_is_place : Fun K "is_place" "is_place" s_is_place a_is_place fd_is_place
  b_is_place : Binds K fd_is_place ["value", "many"] []
  g_is_place : mg "is_place" = some (.ref a_is_place)
  a_checked_rows : Addr
  fd_checked_rows : FuncData
  F_checked_rows : Fun K "checked_rows" "checked_rows" s_checked_rows a_checked_rows fd_checked_rows
  b_checked_rows : Binds K fd_checked_rows ["rows"] []
  g_checked_rows : mg "checked_rows" = some (.ref a_checked_rows)
  a_row_at : Addr
  fd_row_at : FuncData
  F_row_at : Fun K "row_at" "row_at" s_row_at a_row_at fd_row_at
  b_row_at : Binds K fd_row_at ["at", "many"] []
  g_row_at : mg "row_at" = some (.ref a_row_at)
  a_Table___init__ : Addr
  fd_Table___init__ : FuncData
  F_Table___init__ : Fun K "__init__" "Table.__init__" s_Table___init__ a_Table___init__ fd_Table___init__
  b_Table___init__ : Binds K fd_Table___init__ ["self", "rows"] []
  a_Table_corner : Addr
  fd_Table_corner : FuncData
  F_Table_corner : Fun K "corner" "Table.corner" s_Table_corner a_Table_corner fd_Table_corner
  b_Table_corner : Binds K fd_Table_corner ["self", "row", "column"] []
  a_full_after : Addr
  fd_full_after : FuncData
  F_full_after : Fun K "full_after" "full_after" s_full_after a_full_after fd_full_after
  b_full_after : Binds K fd_full_after ["row", "column"] []
  g_full_after : mg "full_after" = some (.ref a_full_after)
  a_pair_of_rows : Addr
  fd_pair_of_rows : FuncData
  F_pair_of_rows : Fun K "pair_of_rows" "pair_of_rows" s_pair_of_rows a_pair_of_rows fd_pair_of_rows
  b_pair_of_rows : Binds K fd_pair_of_rows ["row", "by"] []
  g_pair_of_rows : mg "pair_of_rows" = some (.ref a_pair_of_rows)
  a_unmade_row : Addr
  fd_unmade_row : FuncData
  F_unmade_row : Fun K "unmade_row" "unmade_row" s_unmade_row a_unmade_row fd_unmade_row
  b_unmade_row : Binds K fd_unmade_row ["row", "by"] []
  g_unmade_row : mg "unmade_row" = some (.ref a_unmade_row)
  a_rows_above : Addr
  fd_rows_above : FuncData
  F_rows_above : Fun K "rows_above" "rows_above" s_rows_above a_rows_above fd_rows_above
  b_rows_above : Binds K fd_rows_above ["rows"] []
  g_rows_above : mg "rows_above" = some (.ref a_rows_above)
  a_unmade : Addr
  fd_unmade : FuncData
  F_unmade : Fun K "unmade" "unmade" s_unmade a_unmade fd_unmade
  b_unmade : Binds K fd_unmade ["table"] []
  g_unmade : mg "unmade" = some (.ref a_unmade)
  a_level : Addr
  fd_level : FuncData
  F_level : Fun K "level" "level" s_level a_level fd_level
  b_level : Binds K fd_level ["table", "at"] []
  g_level : mg "level" = some (.ref a_level)
  a_core_row : Addr
  fd_core_row : FuncData
  F_core_row : Fun K "core_row" "core_row" s_core_row a_core_row fd_core_row
  b_core_row : Binds K fd_core_row ["table", "at"] []
  g_core_row : mg "core_row" = some (.ref a_core_row)
  a_last_round : Addr
  fd_last_round : FuncData
  F_last_round : Fun K "last_round" "last_round" s_last_round a_last_round fd_last_round
  b_last_round : Binds K fd_last_round ["table"] []
  g_last_round : mg "last_round" = some (.ref a_last_round)
  a__law_draws : Addr
  fd__law_draws : FuncData
  F__law_draws : Fun K "_law_draws" "_law_draws" s__law_draws a__law_draws fd__law_draws
  b__law_draws : Binds K fd__law_draws ["_law_script"] []
  g__law_draws : mg "_law_draws" = some (.ref a__law_draws)
  a__law_take : Addr
  fd__law_take : FuncData
  F__law_take : Fun K "_law_take" "_law_take" s__law_take a__law_take fd__law_take
  b__law_take : Binds K fd__law_take ["_law_draws_here", "_law_many"] []
  g__law_take : mg "_law_take" = some (.ref a__law_take)
  a__law_pair : Addr
  fd__law_pair : FuncData
  F__law_pair : Fun K "_law_pair" "_law_pair" s__law_pair a__law_pair fd__law_pair
  b__law_pair : Binds K fd__law_pair ["_law_top", "_law_under"] []
  g__law_pair : mg "_law_pair" = some (.ref a__law_pair)
  a__law_less : Addr
  fd__law_less : FuncData
  F__law_less : Fun K "_law_less" "_law_less" s__law_less a__law_less fd__law_less
  b__law_less : Binds K fd__law_less ["_law_one", "_law_other_here"] []
  g__law_less : mg "_law_less" = some (.ref a__law_less)
  a__law_times : Addr
  fd__law_times : FuncData
  F__law_times : Fun K "_law_times" "_law_times" s__law_times a__law_times fd__law_times
  b__law_times : Binds K fd__law_times ["_law_one", "_law_other_here"] []
  g__law_times : mg "_law_times" = some (.ref a__law_times)
  a__law_over : Addr
  fd__law_over : FuncData
  F__law_over : Fun K "_law_over" "_law_over" s__law_over a__law_over fd__law_over
  b__law_over : Binds K fd__law_over ["_law_one", "_law_other_here"] []
  g__law_over : mg "_law_over" = some (.ref a__law_over)
  a__law_is_number : Addr
  fd__law_is_number : FuncData
  F__law_is_number : Fun K "_law_is_number" "_law_is_number" s__law_is_number a__law_is_number fd__law_is_number
  b__law_is_number : Binds K fd__law_is_number ["_law_value"] []
  g__law_is_number : mg "_law_is_number" = some (.ref a__law_is_number)
  a__law_is_rows : Addr
  fd__law_is_rows : FuncData
  F__law_is_rows : Fun K "_law_is_rows" "_law_is_rows" s__law_is_rows a__law_is_rows fd__law_is_rows
  b__law_is_rows : Binds K fd__law_is_rows ["_law_value", "_law_high", "_law_wide"] []
  g__law_is_rows : mg "_law_is_rows" = some (.ref a__law_is_rows)
  a__law_fixed : Addr
  fd__law_fixed : FuncData
  F__law_fixed : Fun K "_law_fixed" "_law_fixed" s__law_fixed a__law_fixed fd__law_fixed
  b__law_fixed : Binds K fd__law_fixed ["_law_rows"] []
  g__law_fixed : mg "_law_fixed" = some (.ref a__law_fixed)
  a__law_copy : Addr
  fd__law_copy : FuncData
  F__law_copy : Fun K "_law_copy" "_law_copy" s__law_copy a__law_copy fd__law_copy
  b__law_copy : Binds K fd__law_copy ["_law_rows"] []
  g__law_copy : mg "_law_copy" = some (.ref a__law_copy)
  a__law_next : Addr
  fd__law_next : FuncData
  F__law_next : Fun K "_law_next" "_law_next" s__law_next a__law_next fd__law_next
  b__law_next : Binds K fd__law_next ["_law_row", "_law_column"] []
  g__law_next : mg "_law_next" = some (.ref a__law_next)
  a__law_unmade_row : Addr
  fd__law_unmade_row : FuncData
  F__law_unmade_row : Fun K "_law_unmade_row" "_law_unmade_row" s__law_unmade_row a__law_unmade_row fd__law_unmade_row
  b__law_unmade_row : Binds K fd__law_unmade_row ["_law_row", "_law_by"] []
  g__law_unmade_row : mg "_law_unmade_row" = some (.ref a__law_unmade_row)
  a__law_unmade : Addr
  fd__law_unmade : FuncData
  F__law_unmade : Fun K "_law_unmade" "_law_unmade" s__law_unmade a__law_unmade fd__law_unmade
  b__law_unmade : Binds K fd__law_unmade ["_law_rows"] []
  g__law_unmade : mg "_law_unmade" = some (.ref a__law_unmade)
  a__law_level : Addr
  fd__law_level : FuncData
  F__law_level : Fun K "_law_level" "_law_level" s__law_level a__law_level fd__law_level
  b__law_level : Binds K fd__law_level ["_law_rows", "_law_last"] []
  g__law_level : mg "_law_level" = some (.ref a__law_level)
  a__law_any : Addr
  fd__law_any : FuncData
  F__law_any : Fun K "_law_any" "_law_any" s__law_any a__law_any fd__law_any
  b__law_any : Binds K fd__law_any ["_law_draws_here"] []
  g__law_any : mg "_law_any" = some (.ref a__law_any)
  a__law_size : Addr
  fd__law_size : FuncData
  F__law_size : Fun K "_law_size" "_law_size" s__law_size a__law_size fd__law_size
  b__law_size : Binds K fd__law_size ["_law_draws_here", "_law_most"] []
  g__law_size : mg "_law_size" = some (.ref a__law_size)
  a__law_signed : Addr
  fd__law_signed : FuncData
  F__law_signed : Fun K "_law_signed" "_law_signed" s__law_signed a__law_signed fd__law_signed
  b__law_signed : Binds K fd__law_signed ["_law_draws_here"] []
  g__law_signed : mg "_law_signed" = some (.ref a__law_signed)
  a__law_same : Addr
  fd__law_same : FuncData
  F__law_same : Fun K "_law_same" "_law_same" s__law_same a__law_same fd__law_same
  b__law_same : Binds K fd__law_same ["_law_told", "_law_due"] []
  g__law_same : mg "_law_same" = some (.ref a__law_same)
  a__law_no_level : Addr
  fd__law_no_level : FuncData
  F__law_no_level : Fun K "_law_no_level" "_law_no_level" s__law_no_level a__law_no_level fd__law_no_level
  b__law_no_level : Binds K fd__law_no_level ["_law_table", "_law_at"] []
  g__law_no_level : mg "_law_no_level" = some (.ref a__law_no_level)
  a__law_last_round : Addr
  fd__law_last_round : FuncData
  F__law_last_round : Fun K "_law_last_round" "_law_last_round" s__law_last_round a__law_last_round fd__law_last_round
  b__law_last_round : Binds K fd__law_last_round ["_law_table", "_law_rows"] []
  g__law_last_round : mg "_law_last_round" = some (.ref a__law_last_round)
  a__law_levels : Addr
  fd__law_levels : FuncData
  F__law_levels : Fun K "_law_levels" "_law_levels" s__law_levels a__law_levels fd__law_levels
  b__law_levels : Binds K fd__law_levels ["_law_table", "_law_rows", "_law_core"] []
  g__law_levels : mg "_law_levels" = some (.ref a__law_levels)
  a__law_corners : Addr
  fd__law_corners : FuncData
  F__law_corners : Fun K "_law_corners" "_law_corners" s__law_corners a__law_corners fd__law_corners
  b__law_corners : Binds K fd__law_corners ["_law_table", "_law_core"] []
  g__law_corners : mg "_law_corners" = some (.ref a__law_corners)
  a__law_other : Addr
  fd__law_other : FuncData
  F__law_other : Fun K "_law_other" "_law_other" s__law_other a__law_other fd__law_other
  b__law_other : Binds K fd__law_other ["_law_draws_here", "_law_rows", "_law_r", "_law_c"] []
  g__law_other : mg "_law_other" = some (.ref a__law_other)
  a_law : Addr
  fd_law : FuncData
  F_law : Fun K "law" "law" s_law a_law fd_law
  b_law : Binds K fd_law ["_law_script"] []
  g_law : mg "law" = some (.ref a_law)
  m_abs : mg "abs" = none
  m_bool : mg "bool" = none
  m_enumerate : mg "enumerate" = none
  m_int : mg "int" = none
  m_isinstance : mg "isinstance" = none
  m_len : mg "len" = none
  m_list : mg "list" = none
  m_min : mg "min" = none
  m_range : mg "range" = none
  m_tuple : mg "tuple" = none
  c_MOST : ∃ t, mg "MOST" = some (.int 12 t)
  C_BadNumber : Addr
  k_BadNumber : mg "BadNumber" = some (.ref C_BadNumber)
  C_BadTable : Addr
  k_BadTable : mg "BadTable" = some (.ref C_BadTable)
  C_BadBox : Addr
  k_BadBox : mg "BadBox" = some (.ref C_BadBox)
  C_OtherSize : Addr
  k_OtherSize : mg "OtherSize" = some (.ref C_OtherSize)
  C_TooMany : Addr
  k_TooMany : mg "TooMany" = some (.ref C_TooMany)
  C_Table : Addr
  k_Table : mg "Table" = some (.ref C_Table)
  f_gcd : mg "gcd" = some (.builtin "math.gcd")
  Me_Table_corner : Meth K C_Table "corner" a_Table_corner
  M_Table : Mk K C_Table a_Table___init__
  O_Table : OC K mg "Table" ["rows", "high", "wide"]
  i_BadNumber : Addr
  X_BadNumber : XT_BadNumber K mg C_BadNumber i_BadNumber
  I_BadNumber : XI_BadNumber K C_BadNumber i_BadNumber
  i_BadTable : Addr
  X_BadTable : XT_BadTable K mg C_BadTable i_BadTable
  I_BadTable : XI_BadTable K C_BadTable i_BadTable
  i_TooMany : Addr
  X_TooMany : XT_TooMany K mg C_TooMany i_TooMany
  I_TooMany : XI_TooMany K C_TooMany i_TooMany
  i_BadBox : Addr
  X_BadBox : XT_BadBox K mg C_BadBox i_BadBox
  I_BadBox : XI_BadBox K C_BadBox i_BadBox
  i_OtherSize : Addr
  X_OtherSize : XT_OtherSize K mg C_OtherSize i_OtherSize
  I_OtherSize : XI_OtherSize K C_OtherSize i_OtherSize
  r_BadNumber_BadBox : PySem.W.exmOne K (.ref C_BadNumber) (.ref C_BadBox) = some false
  r_BadNumber_TooMany : PySem.W.exmOne K (.ref C_BadNumber) (.ref C_TooMany) = some false
  r_BadTable_BadBox : PySem.W.exmOne K (.ref C_BadTable) (.ref C_BadBox) = some false
  r_BadTable_TooMany : PySem.W.exmOne K (.ref C_BadTable) (.ref C_TooMany) = some false
  r_TooMany_BadBox : PySem.W.exmOne K (.ref C_TooMany) (.ref C_BadBox) = some false
  r_TooMany_TooMany : PySem.W.exmOne K (.ref C_TooMany) (.ref C_TooMany) = some true
  r_BadBox_BadBox : PySem.W.exmOne K (.ref C_BadBox) (.ref C_BadBox) = some true
  r_BadBox_TooMany : PySem.W.exmOne K (.ref C_BadBox) (.ref C_TooMany) = some false
  r_OtherSize_BadBox : PySem.W.exmOne K (.ref C_OtherSize) (.ref C_BadBox) = some false
  r_OtherSize_TooMany : PySem.W.exmOne K (.ref C_OtherSize) (.ref C_TooMany) = some false

def relX (C cn : Str) : Option Bool := if C = "BadNumber" ∧ cn = "BadBox" then some false else if C = "BadNumber" ∧ cn = "TooMany" then some false else if C = "BadTable" ∧ cn = "BadBox" then some false else if C = "BadTable" ∧ cn = "TooMany" then some false else if C = "TooMany" ∧ cn = "BadBox" then some false else if C = "TooMany" ∧ cn = "TooMany" then some true else if C = "BadBox" ∧ cn = "BadBox" then some true else if C = "BadBox" ∧ cn = "TooMany" then some false else if C = "OtherSize" ∧ cn = "BadBox" then some false else if C = "OtherSize" ∧ cn = "TooMany" then some false else none
theorem relX_ok {K : PySem.W.Frag} {mg : Str → Option Value} (x : Fx K mg) (C cn : Str) (Ca : Addr) (cl : Value) (b : Bool) (h : relX C cn = some b) (h1 : mg C = some (.ref Ca)) (h2 : mg cn = some cl) : PySem.W.exmOne K (.ref Ca) cl = some b := by
  unfold relX at h
  by_cases z0 : C = "BadNumber" ∧ cn = "BadBox"
  · obtain ⟨rfl, rfl⟩ := z0
    rw [if_pos ⟨rfl, rfl⟩] at h
    rw [x.k_BadNumber] at h1
    rw [x.k_BadBox] at h2
    cases h1; cases h2; cases h
    exact x.r_BadNumber_BadBox
  rw [if_neg z0] at h
  by_cases z1 : C = "BadNumber" ∧ cn = "TooMany"
  · obtain ⟨rfl, rfl⟩ := z1
    rw [if_pos ⟨rfl, rfl⟩] at h
    rw [x.k_BadNumber] at h1
    rw [x.k_TooMany] at h2
    cases h1; cases h2; cases h
    exact x.r_BadNumber_TooMany
  rw [if_neg z1] at h
  by_cases z2 : C = "BadTable" ∧ cn = "BadBox"
  · obtain ⟨rfl, rfl⟩ := z2
    rw [if_pos ⟨rfl, rfl⟩] at h
    rw [x.k_BadTable] at h1
    rw [x.k_BadBox] at h2
    cases h1; cases h2; cases h
    exact x.r_BadTable_BadBox
  rw [if_neg z2] at h
  by_cases z3 : C = "BadTable" ∧ cn = "TooMany"
  · obtain ⟨rfl, rfl⟩ := z3
    rw [if_pos ⟨rfl, rfl⟩] at h
    rw [x.k_BadTable] at h1
    rw [x.k_TooMany] at h2
    cases h1; cases h2; cases h
    exact x.r_BadTable_TooMany
  rw [if_neg z3] at h
  by_cases z4 : C = "TooMany" ∧ cn = "BadBox"
  · obtain ⟨rfl, rfl⟩ := z4
    rw [if_pos ⟨rfl, rfl⟩] at h
    rw [x.k_TooMany] at h1
    rw [x.k_BadBox] at h2
    cases h1; cases h2; cases h
    exact x.r_TooMany_BadBox
  rw [if_neg z4] at h
  by_cases z5 : C = "TooMany" ∧ cn = "TooMany"
  · obtain ⟨rfl, rfl⟩ := z5
    rw [if_pos ⟨rfl, rfl⟩] at h
    rw [x.k_TooMany] at h1
    rw [x.k_TooMany] at h2
    cases h1; cases h2; cases h
    exact x.r_TooMany_TooMany
  rw [if_neg z5] at h
  by_cases z6 : C = "BadBox" ∧ cn = "BadBox"
  · obtain ⟨rfl, rfl⟩ := z6
    rw [if_pos ⟨rfl, rfl⟩] at h
    rw [x.k_BadBox] at h1
    rw [x.k_BadBox] at h2
    cases h1; cases h2; cases h
    exact x.r_BadBox_BadBox
  rw [if_neg z6] at h
  by_cases z7 : C = "BadBox" ∧ cn = "TooMany"
  · obtain ⟨rfl, rfl⟩ := z7
    rw [if_pos ⟨rfl, rfl⟩] at h
    rw [x.k_BadBox] at h1
    rw [x.k_TooMany] at h2
    cases h1; cases h2; cases h
    exact x.r_BadBox_TooMany
  rw [if_neg z7] at h
  by_cases z8 : C = "OtherSize" ∧ cn = "BadBox"
  · obtain ⟨rfl, rfl⟩ := z8
    rw [if_pos ⟨rfl, rfl⟩] at h
    rw [x.k_OtherSize] at h1
    rw [x.k_BadBox] at h2
    cases h1; cases h2; cases h
    exact x.r_OtherSize_BadBox
  rw [if_neg z8] at h
  by_cases z9 : C = "OtherSize" ∧ cn = "TooMany"
  · obtain ⟨rfl, rfl⟩ := z9
    rw [if_pos ⟨rfl, rfl⟩] at h
    rw [x.k_OtherSize] at h1
    rw [x.k_TooMany] at h2
    cases h1; cases h2; cases h
    exact x.r_OtherSize_TooMany
  rw [if_neg z9] at h
  cases h
noncomputable def b_is_plain_integer : List T → SRes := (mRet (mAndV (mIsi .int (fVar 0)) (mNotV (mIsi .bl (fVar 0)))))
noncomputable def m_is_plain_integer : List T → FRes := mFn 1 false b_is_plain_integer
set_option maxHeartbeats 4000000 in
theorem ok_is_plain_integer {w : World} {K : PySem.W.Frag} {mg : Str → Option Value} {base : Heap} (x : Fx K mg) : FnOk PySem.Challenge.pw_minusless_k11_corners_and_levels w K mg base (L2.CX PySem.Challenge.pw_minusless_k11_corners_and_levels w) 1 x.a_is_plain_integer x.fd_is_plain_integer ["value"] (spM ⟨K, mg, none⟩ (["value"] : List Str).length m_is_plain_integer) := by
  refine fn_mvX (N := ["value"]) (m := m_is_plain_integer) b_is_plain_integer rfl x.F_is_plain_integer sc_is_plain_integer (by decide) fun cdv A outer s H E hr => ?_
  unfold b_is_plain_integer
  exact (s_one (s_ret (e_and (e_isi .int rfl (by rfl) x.m_isinstance (e_varF (pv 0)) (pe_bltn (by rfl) x.m_int (by decide +kernel) rfl)) (e_one (e_not (e_isi .bl rfl (by rfl) x.m_isinstance (e_varF (pv 0)) (pe_bltn (by rfl) x.m_bool (by decide +kernel) rfl)))))))
noncomputable def b_is_number : List T → SRes := (mSeq (mIf (mOr (mNot (mTru (mIsi .tup (fVar 0)))) (mBl (mOp2 fNe (mLenN 0) (mC (.v (.int 2))))))
  (mRet (mC (.v (.bl false))))
  .nx)
  (mSeq (mAsg (fVar 0) (wTup 2 (wCons (fN 2) (wCons (fN 1) wNil))))
  (mSeq (mIf (mOr (mNot (mTru (mCall m_is_plain_integer (mCons (fVar 2) mNil)))) (mNot (mTru (mCall m_is_plain_integer (mCons (fVar 1) mNil)))))
  (mRet (mC (.v (.bl false))))
  .nx)
  (mRet (mAndV (mOp2 sGe (fVar 1) (mC (.v (.int 1)))) (mOp2 fEq (mCallB sGcd (mCons (fVar 2) (mCons (fVar 1) mNil))) (mC (.v (.int 1)))))))))
noncomputable def m_is_number : List T → FRes := mFn 3 false b_is_number
set_option maxHeartbeats 4000000 in
theorem ok_is_number {w : World} {K : PySem.W.Frag} {mg : Str → Option Value} {base : Heap} (x : Fx K mg) : FnOk PySem.Challenge.pw_minusless_k11_corners_and_levels w K mg base (L2.CX PySem.Challenge.pw_minusless_k11_corners_and_levels w) 2 x.a_is_number x.fd_is_number ["value"] (spM ⟨K, mg, none⟩ (["value"] : List Str).length m_is_number) := by
  refine fn_mvX (N := ["value", "under", "top"]) (m := m_is_number) b_is_number rfl x.F_is_number sc_is_number (by decide) fun cdv A outer s H E hr => ?_
  unfold b_is_number
  exact (s_cons (s_if (t_or (t_not (t_val rfl (e_isi .tup rfl (by rfl) x.m_isinstance (e_varF (pv 0)) (pe_bltn (by rfl) x.m_tuple (by decide +kernel) rfl)))) (t_or1 (t_cmp (op_neD hr.units) (MV.ok_neF rfl) (e_lenN rfl (by rfl) x.m_len (pv 0)) (e_c pe_int) (nomark _)))).pt
  (s_one (s_ret (e_c pe_bl)))
  s_nil)
  (s_cons (s_asg (e_varF (pv 0)) (g_tup rfl rfl (g_cons (g_nameF (.inr rfl) (pg_name (i := 2) sc_is_number.nd rfl (by first | exact .inl rfl | exact .inr rfl))) (g_cons (g_nameF (.inr rfl) (pg_name (i := 1) sc_is_number.nd rfl (by first | exact .inl rfl | exact .inr rfl))) g_nil))))
  (s_cons (s_if (t_or (t_not (t_val rfl (e_call (ok_is_plain_integer x) (hr.mono (by decide)) (by rfl) x.g_is_plain_integer x.F_is_plain_integer.kp x.b_is_plain_integer rfl (takes_of rfl rfl rfl rfl) (e_cons (e_varF (pv 2)) e_nil) (len_cons (fun _ _ _ h => len_nil h))))) (t_or1 (t_not (t_val rfl (e_call (ok_is_plain_integer x) (hr.mono (by decide)) (by rfl) x.g_is_plain_integer x.F_is_plain_integer.kp x.b_is_plain_integer rfl (takes_of rfl rfl rfl rfl) (e_cons (e_varF (pv 1)) e_nil) (len_cons (fun _ _ _ h => len_nil h))))))).pt
  (s_one (s_ret (e_c pe_bl)))
  s_nil)
  (s_one (s_ret (e_and (e_cmp op_ge MV.ok_ge (e_varF (pv 1)) (e_c pe_int) (nomark _)) (e_one (e_cmp (op_eqD hr.units) (MV.ok_eqF rfl) (e_callF cr_gcd okc_gcd (by rfl) x.f_gcd (e_cons (e_varF (pv 2)) (e_cons (e_varF (pv 1)) e_nil))) (e_c pe_int) (nomark _)))))))))
noncomputable def b_check_number : List T → SRes := (mSeq (mIf (mNot (mTru (mCall m_is_number (mCons (fVar 0) mNil))))
  (mRaise "BadNumber" ["place"] (mCons (mNeg (mC (.v (.int 1)))) mNil))
  .nx)
  (mRetM 0))
noncomputable def m_check_number : List T → FRes := mFn 1 false b_check_number
set_option maxHeartbeats 4000000 in
theorem ok_check_number {w : World} {K : PySem.W.Frag} {mg : Str → Option Value} {base : Heap} (x : Fx K mg) : FnOk PySem.Challenge.pw_minusless_k11_corners_and_levels w K mg base (L2.CX PySem.Challenge.pw_minusless_k11_corners_and_levels w) 3 x.a_check_number x.fd_check_number ["number"] (spM ⟨K, mg, none⟩ (["number"] : List Str).length m_check_number) := by
  refine fn_mvX (N := ["number"]) (m := m_check_number) b_check_number rfl x.F_check_number sc_check_number (by decide) fun cdv A outer s H E hr => ?_
  unfold b_check_number
  exact (s_cons (s_if (t_not (t_val rfl (e_call (ok_is_number x) (hr.mono (by decide)) (by rfl) x.g_is_number x.F_is_number.kp x.b_is_number rfl (takes_of rfl rfl rfl rfl) (e_cons (e_varF (pv 0)) e_nil) (len_cons (fun _ _ _ h => len_nil h)))))
  (s_one (s_raise rfl rfl x.X_BadNumber (mk_BadNumber x.X_BadNumber x.I_BadNumber) hr (takes_of rfl rfl rfl rfl) (e_cons (e_neg (e_c pe_int)) e_nil) (by rfl) (by decide)))
  s_nil)
  (s_one (s_retM (pv 0))))
noncomputable def b_check_row : List T → SRes := (mSeq (mIf (mNot (mTru (mIsiL [.lst, .tup] (fVar 0))))
  (mRaise "BadNumber" ["place"] (mCons (mNeg (mC (.v (.int 1)))) mNil))
  .nx)
  (mSeq (mFor (mRg1 (mLenN 0)) (fN 1)
  (mIf (mNot (mTru (mCall m_is_number (mCons (fIxN 0 (fVar 1)) mNil))))
  (mRaise "BadNumber" ["place"] (mCons (fVar 1) mNil))
  .nx))
  (mRet (mCallB sTuple (mCons (fVar 0) mNil)))))
noncomputable def m_check_row : List T → FRes := mFn 2 false b_check_row
set_option maxHeartbeats 4000000 in
theorem ok_check_row {w : World} {K : PySem.W.Frag} {mg : Str → Option Value} {base : Heap} (x : Fx K mg) : FnOk PySem.Challenge.pw_minusless_k11_corners_and_levels w K mg base (L2.CX PySem.Challenge.pw_minusless_k11_corners_and_levels w) 3 x.a_check_row x.fd_check_row ["row"] (spM ⟨K, mg, none⟩ (["row"] : List Str).length m_check_row) := by
  refine fn_mvX (N := ["row", "place"]) (m := m_check_row) b_check_row rfl x.F_check_row sc_check_row (by decide) fun cdv A outer s H E hr => ?_
  unfold b_check_row
  exact (s_cons (s_if (t_not (t_val rfl (e_isiL [.lst, .tup] rfl (by rfl) x.m_isinstance (e_varF (pv 0)) (pa_tys (pe_bltn (by rfl) x.m_list (by decide +kernel) rfl) (pa_tys (pe_bltn (by rfl) x.m_tuple (by decide +kernel) rfl) pa_tys0)))))
  (s_one (s_raise rfl rfl x.X_BadNumber (mk_BadNumber x.X_BadNumber x.I_BadNumber) hr (takes_of rfl rfl rfl rfl) (e_cons (e_neg (e_c pe_int)) e_nil) (by rfl) (by decide)))
  s_nil)
  (s_cons (s_for (passes_of rfl) rfl (i_rg1 (by rfl) x.m_range (e_lenN rfl (by rfl) x.m_len (pv 0))) (g_nameF (.inr rfl) (pg_name (i := 1) sc_check_row.nd rfl (by first | exact .inl rfl | exact .inr rfl)))
  (s_one (s_if (t_not (t_val rfl (e_call (ok_is_number x) (hr.mono (by decide)) (by rfl) x.g_is_number x.F_is_number.kp x.b_is_number rfl (takes_of rfl rfl rfl rfl) (e_cons (e_ixNF rfl (pv 0) (e_varF (pv 1)) (fun _ _ => rfl)) e_nil) (len_cons (fun _ _ _ h => len_nil h)))))
  (s_one (s_raise rfl rfl x.X_BadNumber (mk_BadNumber x.X_BadNumber x.I_BadNumber) hr (takes_of rfl rfl rfl rfl) (e_cons (e_varF (pv 1)) e_nil) (by rfl) (by decide)))
  s_nil)))
  (s_one (s_ret (e_callTy (call_tuple_of) (okc_tuple rfl) (by rfl) x.m_tuple (by decide +kernel) (e_cons (e_varF (pv 0)) e_nil))))))
noncomputable def b_lowest : List T → SRes := (mSeq (mAsg (mCallB sGcd (mCons (fVar 0) (mCons (fVar 1) mNil))) (fN 2))
  (mSeq (mIf (mBl (mOp2 sLt (fVar 1) (mC (.v (.int 0)))))
  (mAsg (mNeg (fVar 2)) (fN 2))
  .nx)
  (mRet (mTup (mCons (mOp2 gDiv (fVar 0) (fVar 2)) (mCons (mOp2 gDiv (fVar 1) (fVar 2)) mNil))))))
noncomputable def m_lowest : List T → FRes := mFn 3 false b_lowest
set_option maxHeartbeats 4000000 in
theorem ok_lowest {w : World} {K : PySem.W.Frag} {mg : Str → Option Value} {base : Heap} (x : Fx K mg) : FnOk PySem.Challenge.pw_minusless_k11_corners_and_levels w K mg base (L2.CX PySem.Challenge.pw_minusless_k11_corners_and_levels w) 1 x.a_lowest x.fd_lowest ["top", "under"] (spM ⟨K, mg, none⟩ (["top", "under"] : List Str).length m_lowest) := by
  refine fn_mvX (N := ["top", "under", "shared"]) (m := m_lowest) b_lowest rfl x.F_lowest sc_lowest (by decide) fun cdv A outer s H E hr => ?_
  unfold b_lowest
  exact (s_cons (s_setF (i := 2) (.inr rfl) sc_lowest.nd rfl (by first | exact .inl rfl | exact .inr rfl) (e_callF cr_gcd okc_gcd (by rfl) x.f_gcd (e_cons (e_varF (pv 0)) (e_cons (e_varF (pv 1)) e_nil))))
  (s_cons (s_if (t_cmp op_lt MV.ok_lt (e_varF (pv 1)) (e_c pe_int) (nomark _))
  (s_one (s_setF (i := 2) (.inr rfl) sc_lowest.nd rfl (by first | exact .inl rfl | exact .inr rfl) (e_neg (e_varF (pv 2)))))
  s_nil)
  (s_one (s_ret (e_tup (e_cons (e_op op_fdivG MV.ok_divG (e_varF (pv 0)) (e_varF (pv 2))) (e_cons (e_op op_fdivG MV.ok_divG (e_varF (pv 1)) (e_varF (pv 2))) e_nil)))))))
noncomputable def b_less : List T → SRes := (mSeq (mEx (mCall m_check_number (mCons (fVar 0) mNil)))
  (mSeq (mEx (mCall m_check_number (mCons (fVar 1) mNil)))
  (mRet (mCall m_lowest (mCons (mOp2 sSub (mOp2 fTimes (fIxN 0 (mC (.v (.int 0)))) (fIxN 1 (mC (.v (.int 1))))) (mOp2 fTimes (fIxN 1 (mC (.v (.int 0)))) (fIxN 0 (mC (.v (.int 1)))))) (mCons (mOp2 fTimes (fIxN 0 (mC (.v (.int 1)))) (fIxN 1 (mC (.v (.int 1))))) mNil))))))
noncomputable def m_less : List T → FRes := mFn 2 false b_less
set_option maxHeartbeats 4000000 in
theorem ok_less {w : World} {K : PySem.W.Frag} {mg : Str → Option Value} {base : Heap} (x : Fx K mg) : FnOk PySem.Challenge.pw_minusless_k11_corners_and_levels w K mg base (L2.CX PySem.Challenge.pw_minusless_k11_corners_and_levels w) 4 x.a_less x.fd_less ["one", "other"] (spM ⟨K, mg, none⟩ (["one", "other"] : List Str).length m_less) := by
  refine fn_mvX (N := ["one", "other"]) (m := m_less) b_less rfl x.F_less sc_less (by decide) fun cdv A outer s H E hr => ?_
  unfold b_less
  exact (s_cons (s_expr (e_call (ok_check_number x) (hr.mono (by decide)) (by rfl) x.g_check_number x.F_check_number.kp x.b_check_number rfl (takes_of rfl rfl rfl rfl) (e_cons (e_varF (pv 0)) e_nil) (len_cons (fun _ _ _ h => len_nil h))))
  (s_cons (s_expr (e_call (ok_check_number x) (hr.mono (by decide)) (by rfl) x.g_check_number x.F_check_number.kp x.b_check_number rfl (takes_of rfl rfl rfl rfl) (e_cons (e_varF (pv 1)) e_nil) (len_cons (fun _ _ _ h => len_nil h))))
  (s_one (s_ret (e_call (ok_lowest x) (hr.mono (by decide)) (by rfl) x.g_lowest x.F_lowest.kp x.b_lowest rfl (takes_of rfl rfl rfl rfl) (e_cons (e_op op_sub MV.ok_sub (e_op op_times MV.ok_timesF (e_ixNF rfl (pv 0) (e_c pe_int) (fun _ _ => rfl)) (e_ixNF rfl (pv 1) (e_c pe_int) (fun _ _ => rfl))) (e_op op_times MV.ok_timesF (e_ixNF rfl (pv 1) (e_c pe_int) (fun _ _ => rfl)) (e_ixNF rfl (pv 0) (e_c pe_int) (fun _ _ => rfl)))) (e_cons (e_op op_times MV.ok_timesF (e_ixNF rfl (pv 0) (e_c pe_int) (fun _ _ => rfl)) (e_ixNF rfl (pv 1) (e_c pe_int) (fun _ _ => rfl))) e_nil)) (len_cons (len_cons (fun _ _ _ h => len_nil h))))))))
noncomputable def b_times : List T → SRes := (mSeq (mEx (mCall m_check_number (mCons (fVar 0) mNil)))
  (mSeq (mEx (mCall m_check_number (mCons (fVar 1) mNil)))
  (mRet (mCall m_lowest (mCons (mOp2 fTimes (fIxN 0 (mC (.v (.int 0)))) (fIxN 1 (mC (.v (.int 0))))) (mCons (mOp2 fTimes (fIxN 0 (mC (.v (.int 1)))) (fIxN 1 (mC (.v (.int 1))))) mNil))))))
noncomputable def m_times : List T → FRes := mFn 2 false b_times
set_option maxHeartbeats 4000000 in
theorem ok_times {w : World} {K : PySem.W.Frag} {mg : Str → Option Value} {base : Heap} (x : Fx K mg) : FnOk PySem.Challenge.pw_minusless_k11_corners_and_levels w K mg base (L2.CX PySem.Challenge.pw_minusless_k11_corners_and_levels w) 4 x.a_times x.fd_times ["one", "other"] (spM ⟨K, mg, none⟩ (["one", "other"] : List Str).length m_times) := by
  refine fn_mvX (N := ["one", "other"]) (m := m_times) b_times rfl x.F_times sc_times (by decide) fun cdv A outer s H E hr => ?_
  unfold b_times
  exact (s_cons (s_expr (e_call (ok_check_number x) (hr.mono (by decide)) (by rfl) x.g_check_number x.F_check_number.kp x.b_check_number rfl (takes_of rfl rfl rfl rfl) (e_cons (e_varF (pv 0)) e_nil) (len_cons (fun _ _ _ h => len_nil h))))
  (s_cons (s_expr (e_call (ok_check_number x) (hr.mono (by decide)) (by rfl) x.g_check_number x.F_check_number.kp x.b_check_number rfl (takes_of rfl rfl rfl rfl) (e_cons (e_varF (pv 1)) e_nil) (len_cons (fun _ _ _ h => len_nil h))))
  (s_one (s_ret (e_call (ok_lowest x) (hr.mono (by decide)) (by rfl) x.g_lowest x.F_lowest.kp x.b_lowest rfl (takes_of rfl rfl rfl rfl) (e_cons (e_op op_times MV.ok_timesF (e_ixNF rfl (pv 0) (e_c pe_int) (fun _ _ => rfl)) (e_ixNF rfl (pv 1) (e_c pe_int) (fun _ _ => rfl))) (e_cons (e_op op_times MV.ok_timesF (e_ixNF rfl (pv 0) (e_c pe_int) (fun _ _ => rfl)) (e_ixNF rfl (pv 1) (e_c pe_int) (fun _ _ => rfl))) e_nil)) (len_cons (len_cons (fun _ _ _ h => len_nil h))))))))
noncomputable def b_over : List T → SRes := (mSeq (mEx (mCall m_check_number (mCons (fVar 0) mNil)))
  (mSeq (mEx (mCall m_check_number (mCons (fVar 1) mNil)))
  (mSeq (mIf (mBl (mOp2 fEq (fIxN 1 (mC (.v (.int 0)))) (mC (.v (.int 0)))))
  (mRaise "BadNumber" ["place"] (mCons (mNeg (mC (.v (.int 1)))) mNil))
  .nx)
  (mRet (mCall m_lowest (mCons (mOp2 fTimes (fIxN 0 (mC (.v (.int 0)))) (fIxN 1 (mC (.v (.int 1))))) (mCons (mOp2 fTimes (fIxN 0 (mC (.v (.int 1)))) (fIxN 1 (mC (.v (.int 0))))) mNil)))))))
noncomputable def m_over : List T → FRes := mFn 2 false b_over
set_option maxHeartbeats 4000000 in
theorem ok_over {w : World} {K : PySem.W.Frag} {mg : Str → Option Value} {base : Heap} (x : Fx K mg) : FnOk PySem.Challenge.pw_minusless_k11_corners_and_levels w K mg base (L2.CX PySem.Challenge.pw_minusless_k11_corners_and_levels w) 4 x.a_over x.fd_over ["one", "other"] (spM ⟨K, mg, none⟩ (["one", "other"] : List Str).length m_over) := by
  refine fn_mvX (N := ["one", "other"]) (m := m_over) b_over rfl x.F_over sc_over (by decide) fun cdv A outer s H E hr => ?_
  unfold b_over
  exact (s_cons (s_expr (e_call (ok_check_number x) (hr.mono (by decide)) (by rfl) x.g_check_number x.F_check_number.kp x.b_check_number rfl (takes_of rfl rfl rfl rfl) (e_cons (e_varF (pv 0)) e_nil) (len_cons (fun _ _ _ h => len_nil h))))
  (s_cons (s_expr (e_call (ok_check_number x) (hr.mono (by decide)) (by rfl) x.g_check_number x.F_check_number.kp x.b_check_number rfl (takes_of rfl rfl rfl rfl) (e_cons (e_varF (pv 1)) e_nil) (len_cons (fun _ _ _ h => len_nil h))))
  (s_cons (s_if (t_cmp (op_eqD hr.units) (MV.ok_eqF rfl) (e_ixNF rfl (pv 1) (e_c pe_int) (fun _ _ => rfl)) (e_c pe_int) (nomark _))
  (s_one (s_raise rfl rfl x.X_BadNumber (mk_BadNumber x.X_BadNumber x.I_BadNumber) hr (takes_of rfl rfl rfl rfl) (e_cons (e_neg (e_c pe_int)) e_nil) (by rfl) (by decide)))
  s_nil)
  (s_one (s_ret (e_call (ok_lowest x) (hr.mono (by decide)) (by rfl) x.g_lowest x.F_lowest.kp x.b_lowest rfl (takes_of rfl rfl rfl rfl) (e_cons (e_op op_times MV.ok_timesF (e_ixNF rfl (pv 0) (e_c pe_int) (fun _ _ => rfl)) (e_ixNF rfl (pv 1) (e_c pe_int) (fun _ _ => rfl))) (e_cons (e_op op_times MV.ok_timesF (e_ixNF rfl (pv 0) (e_c pe_int) (fun _ _ => rfl)) (e_ixNF rfl (pv 1) (e_c pe_int) (fun _ _ => rfl))) e_nil)) (len_cons (len_cons (fun _ _ _ h => len_nil h)))))))))
noncomputable def b_is_place : List T → SRes := (mRet (mAndV (mCall m_is_plain_integer (mCons (fVar 0) mNil)) (mChain sLe sLt (mC (.v (.int 0))) (fVar 0) (fVar 1))))
noncomputable def m_is_place : List T → FRes := mFn 2 false b_is_place
set_option maxHeartbeats 4000000 in
theorem ok_is_place {w : World} {K : PySem.W.Frag} {mg : Str → Option Value} {base : Heap} (x : Fx K mg) : FnOk PySem.Challenge.pw_minusless_k11_corners_and_levels w K mg base (L2.CX PySem.Challenge.pw_minusless_k11_corners_and_levels w) 2 x.a_is_place x.fd_is_place ["value", "many"] (spM ⟨K, mg, none⟩ (["value", "many"] : List Str).length m_is_place) := by
  refine fn_mvX (N := ["value", "many"]) (m := m_is_place) b_is_place rfl x.F_is_place sc_is_place (by decide) fun cdv A outer s H E hr => ?_
  unfold b_is_place
  exact (s_one (s_ret (e_and (e_call (ok_is_plain_integer x) (hr.mono (by decide)) (by rfl) x.g_is_plain_integer x.F_is_plain_integer.kp x.b_is_plain_integer rfl (takes_of rfl rfl rfl rfl) (e_cons (e_varF (pv 0)) e_nil) (len_cons (fun _ _ _ h => len_nil h))) (e_one (e_chain op_le op_lt MV.ok_le MV.ok_lt (e_c pe_int) (e_varF (pv 0)) (e_varF (pv 1)))))))
noncomputable def b_checked_rows : List T → SRes := (mSeq (mIf (mOr (mNot (mTru (mIsiL [.lst, .tup] (fVar 0)))) (mBl (mOp2 fEq (mLenN 0) (mC (.v (.int 0))))))
  (mRaise "BadTable" ["row"] (mCons (mNeg (mC (.v (.int 1)))) mNil))
  .nx)
  (mSeq (mFor (mRg1 (mLenN 0)) (fN 2)
  (mSeq (mAsg (fIxN 0 (fVar 2)) (fN 1))
  (mIf (mOr (mNot (mTru (mIsiL [.lst, .tup] (fVar 1)))) (mOr (mBl (mOp2 fEq (mLenN 1) (mC (.v (.int 0))))) (mBl (mOp2 fNe (mLenN 1) (mCallB sLen (mCons (fIxN 0 (mC (.v (.int 0)))) mNil))))))
  (mRaise "BadTable" ["row"] (mCons (fVar 2) mNil))
  .nx)))
  (mSeq (mIf (mOr (mBl (mOp2 sGt (mLenN 0) (mC (.v (.int 12))))) (mBl (mOp2 sGt (mCallB sLen (mCons (fIxN 0 (mC (.v (.int 0)))) mNil)) (mC (.v (.int 12))))))
  (mRaise "TooMany" ["bound"] (mCons (mC (.v (.int 12))) mNil))
  .nx)
  (mRet (mCallB sTuple (mCons (mLc (mItA (fVar 0)) (fN 1) mYes (mCall m_check_row (mCons (fVar 1) mNil)) [1]) mNil))))))
noncomputable def m_checked_rows : List T → FRes := mFn 3 false b_checked_rows
set_option maxHeartbeats 4000000 in
theorem ok_checked_rows {w : World} {K : PySem.W.Frag} {mg : Str → Option Value} {base : Heap} (x : Fx K mg) : FnOk PySem.Challenge.pw_minusless_k11_corners_and_levels w K mg base (L2.CX PySem.Challenge.pw_minusless_k11_corners_and_levels w) 4 x.a_checked_rows x.fd_checked_rows ["rows"] (spM ⟨K, mg, none⟩ (["rows"] : List Str).length m_checked_rows) := by
  refine fn_mvX (N := ["rows", "row", "at"]) (m := m_checked_rows) b_checked_rows rfl x.F_checked_rows sc_checked_rows (by decide) fun cdv A outer s H E hr => ?_
  unfold b_checked_rows
  exact (s_cons (s_if (t_or (t_not (t_val rfl (e_isiL [.lst, .tup] rfl (by rfl) x.m_isinstance (e_varF (pv 0)) (pa_tys (pe_bltn (by rfl) x.m_list (by decide +kernel) rfl) (pa_tys (pe_bltn (by rfl) x.m_tuple (by decide +kernel) rfl) pa_tys0))))) (t_or1 (t_cmp (op_eqD hr.units) (MV.ok_eqF rfl) (e_lenN rfl (by rfl) x.m_len (pv 0)) (e_c pe_int) (nomark _)))).pt
  (s_one (s_raise rfl rfl x.X_BadTable (mk_BadTable x.X_BadTable x.I_BadTable) hr (takes_of rfl rfl rfl rfl) (e_cons (e_neg (e_c pe_int)) e_nil) (by rfl) (by decide)))
  s_nil)
  (s_cons (s_for (passes_of rfl) rfl (i_rg1 (by rfl) x.m_range (e_lenN rfl (by rfl) x.m_len (pv 0))) (g_nameF (.inr rfl) (pg_name (i := 2) sc_checked_rows.nd rfl (by first | exact .inl rfl | exact .inr rfl)))
  (s_cons (s_setF (i := 1) (.inr rfl) sc_checked_rows.nd rfl (by first | exact .inl rfl | exact .inr rfl) (e_ixNF rfl (pv 0) (e_varF (pv 2)) (fun _ _ => rfl)))
  (s_one (s_if (t_or (t_not (t_val rfl (e_isiL [.lst, .tup] rfl (by rfl) x.m_isinstance (e_varF (pv 1)) (pa_tys (pe_bltn (by rfl) x.m_list (by decide +kernel) rfl) (pa_tys (pe_bltn (by rfl) x.m_tuple (by decide +kernel) rfl) pa_tys0))))) (t_or (t_cmp (op_eqD hr.units) (MV.ok_eqF rfl) (e_lenN rfl (by rfl) x.m_len (pv 1)) (e_c pe_int) (nomark _)) (t_or1 (t_cmp (op_neD hr.units) (MV.ok_neF rfl) (e_lenN rfl (by rfl) x.m_len (pv 1)) (e_callB (call_len) (okc_len rfl) (by rfl) x.m_len (by decide +kernel) (e_cons (e_ixNF rfl (pv 0) (e_c pe_int) (fun _ _ => rfl)) e_nil)) (nomark _))))).pt
  (s_one (s_raise rfl rfl x.X_BadTable (mk_BadTable x.X_BadTable x.I_BadTable) hr (takes_of rfl rfl rfl rfl) (e_cons (e_varF (pv 2)) e_nil) (by rfl) (by decide)))
  s_nil))))
  (s_cons (s_if (t_or (t_cmp op_gt MV.ok_gt (e_lenN rfl (by rfl) x.m_len (pv 0)) (e_c (pe_glob (v := .int 12) (by rfl) x.c_MOST.choose_spec ⟨_, rfl⟩)) (nomark _)) (t_or1 (t_cmp op_gt MV.ok_gt (e_callB (call_len) (okc_len rfl) (by rfl) x.m_len (by decide +kernel) (e_cons (e_ixNF rfl (pv 0) (e_c pe_int) (fun _ _ => rfl)) e_nil)) (e_c (pe_glob (v := .int 12) (by rfl) x.c_MOST.choose_spec ⟨_, rfl⟩)) (nomark _)))).pt
  (s_one (s_raise rfl rfl x.X_TooMany (mk_TooMany x.X_TooMany x.I_TooMany) hr (takes_of rfl rfl rfl rfl) (e_cons (e_c (pe_glob (v := .int 12) (by rfl) x.c_MOST.choose_spec ⟨_, rfl⟩)) e_nil) (by rfl) (by decide)))
  s_nil)
  (s_one (s_ret (e_callTy (call_tuple_of) (okc_tuple rfl) (by rfl) x.m_tuple (by decide +kernel) (e_cons (e_lc (own := [("row", 1)]) (by decide) (by intro v hv; exact .inr rfl) rfl sc_checked_rows.nd (i_any rfl (e_varF (pv 0))) (blkOk_by (by with_unfolding_all rfl)) (fun _ _ _ _ _ => (g_nameF (.inr rfl) (pg_name (i := 1) sc_checked_rows.nd rfl (by first | exact .inl rfl | exact .inr rfl)))) (fun _ _ _ _ _ => t_yes) (fun _ _ _ _ _ => (e_call (ok_check_row x) (hr.mono (by decide)) (by rfl) x.g_check_row x.F_check_row.kp x.b_check_row rfl takes0 (e_cons (e_varF (pv 1)) e_nil) (len_cons (fun _ _ _ h => len_nil h))))) e_nil)))))))
noncomputable def b_row_at : List T → SRes := (mSeq (mIf (mNot (mTru (mCall m_is_place (mCons (fVar 0) (mCons (fVar 1) mNil)))))
  (mRaise "BadBox" ["row", "column"] (mCons (fVar 0) (mCons (mNeg (mC (.v (.int 1)))) mNil)))
  .nx)
  (mRetM 0))
noncomputable def m_row_at : List T → FRes := mFn 2 false b_row_at
set_option maxHeartbeats 4000000 in
theorem ok_row_at {w : World} {K : PySem.W.Frag} {mg : Str → Option Value} {base : Heap} (x : Fx K mg) : FnOk PySem.Challenge.pw_minusless_k11_corners_and_levels w K mg base (L2.CX PySem.Challenge.pw_minusless_k11_corners_and_levels w) 3 x.a_row_at x.fd_row_at ["at", "many"] (spM ⟨K, mg, none⟩ (["at", "many"] : List Str).length m_row_at) := by
  refine fn_mvX (N := ["at", "many"]) (m := m_row_at) b_row_at rfl x.F_row_at sc_row_at (by decide) fun cdv A outer s H E hr => ?_
  unfold b_row_at
  exact (s_cons (s_if (t_not (t_val rfl (e_call (ok_is_place x) (hr.mono (by decide)) (by rfl) x.g_is_place x.F_is_place.kp x.b_is_place rfl (takes_of rfl rfl rfl rfl) (e_cons (e_varF (pv 0)) (e_cons (e_varF (pv 1)) e_nil)) (len_cons (len_cons (fun _ _ _ h => len_nil h))))))
  (s_one (s_raise rfl rfl x.X_BadBox (mk_BadBox x.X_BadBox x.I_BadBox) hr (takes_of rfl rfl rfl rfl) (e_cons (e_varF (pv 0)) (e_cons (e_neg (e_c pe_int)) e_nil)) (by rfl) (by decide)))
  s_nil)
  (s_one (s_retM (pv 0))))
noncomputable def b_Table___init__ : List T → SRes := (mSeq (mSetF "Table" "rows" 0 (mCall m_checked_rows (mCons (fVar 1) mNil)))
  (mSeq (mSetF "Table" "high" 0 (mCallB sLen (mCons (mFldN "Table" "rows" 0) mNil)))
  (mSetF "Table" "wide" 0 (mCallB sLen (mCons (mOp2 fIx (mFldN "Table" "rows" 0) (mC (.v (.int 0)))) mNil)))))
noncomputable def m_Table___init__ : List T → FRes := mFn 2 true b_Table___init__
set_option maxHeartbeats 4000000 in
theorem ok_Table___init__ {w : World} {K : PySem.W.Frag} {mg : Str → Option Value} {base : Heap} (x : Fx K mg) : FnOk PySem.Challenge.pw_minusless_k11_corners_and_levels w K mg base (L2.CX PySem.Challenge.pw_minusless_k11_corners_and_levels w) 5 x.a_Table___init__ x.fd_Table___init__ ["self", "rows"] (spM ⟨K, mg, none⟩ (["self", "rows"] : List Str).length m_Table___init__) := by
  refine fn_mvBX (N := ["self", "rows"]) (m := m_Table___init__) b_Table___init__ rfl x.F_Table___init__ sc_Table___init__ (by decide) (by decide) fun cdv A outer s H E v0 hr => ?_
  unfold b_Table___init__
  exact (s_cons (s_setFld x.O_Table rfl (by decide) (pv 0) (e_call (ok_checked_rows x) (hr.mono (by decide)) (by rfl) x.g_checked_rows x.F_checked_rows.kp x.b_checked_rows rfl (takes_of rfl rfl rfl rfl) (e_cons (e_varF (pv 1)) e_nil) (len_cons (fun _ _ _ h => len_nil h))))
  (s_cons (s_setFld x.O_Table rfl (by decide) (pv 0) (e_callB (call_len) (okc_len rfl) (by rfl) x.m_len (by decide +kernel) (e_cons (e_fldN x.O_Table rfl (by decide) (pv 0)) e_nil)))
  (s_one (s_setFld x.O_Table rfl (by decide) (pv 0) (e_callB (call_len) (okc_len rfl) (by rfl) x.m_len (by decide +kernel) (e_cons (e_ix ix_seq (MV.ok_ixF rfl) (e_fldN x.O_Table rfl (by decide) (pv 0)) (e_c pe_int) (fun _ _ => rfl)) e_nil))))))
noncomputable def b_Table_corner : List T → SRes := (mSeq (mIf (mOr (mNot (mTru (mCall m_is_place (mCons (fVar 1) (mCons (mFldN "Table" "high" 0) mNil))))) (mNot (mTru (mCall m_is_place (mCons (fVar 2) (mCons (mFldN "Table" "wide" 0) mNil))))))
  (mRaise "BadBox" ["row", "column"] (mCons (fVar 1) (mCons (fVar 2) mNil)))
  .nx)
  (mRet (mMake "Table" m_Table___init__ (mCons (mLc (mItA (mSl (some (fVar 1)) none (mFldN "Table" "rows" 0))) (fN 3) mYes (mSlN (some (fVar 2)) none 3) [3]) mNil))))
noncomputable def m_Table_corner : List T → FRes := mFn 4 false b_Table_corner
set_option maxHeartbeats 4000000 in
theorem ok_Table_corner {w : World} {K : PySem.W.Frag} {mg : Str → Option Value} {base : Heap} (x : Fx K mg) : FnOk PySem.Challenge.pw_minusless_k11_corners_and_levels w K mg base (L2.CX PySem.Challenge.pw_minusless_k11_corners_and_levels w) 7 x.a_Table_corner x.fd_Table_corner ["self", "row", "column"] (spM ⟨K, mg, none⟩ (["self", "row", "column"] : List Str).length m_Table_corner) := by
  refine fn_mvX (N := ["self", "row", "column", "told"]) (m := m_Table_corner) b_Table_corner rfl x.F_Table_corner sc_Table_corner (by decide) fun cdv A outer s H E hr => ?_
  unfold b_Table_corner
  exact (s_cons (s_if (t_or (t_not (t_val rfl (e_call (ok_is_place x) (hr.mono (by decide)) (by rfl) x.g_is_place x.F_is_place.kp x.b_is_place rfl (takes_of rfl rfl rfl rfl) (e_cons (e_varF (pv 1)) (e_cons (e_fldN x.O_Table rfl (by decide) (pv 0)) e_nil)) (len_cons (len_cons (fun _ _ _ h => len_nil h)))))) (t_or1 (t_not (t_val rfl (e_call (ok_is_place x) (hr.mono (by decide)) (by rfl) x.g_is_place x.F_is_place.kp x.b_is_place rfl (takes_of rfl rfl rfl rfl) (e_cons (e_varF (pv 2)) (e_cons (e_fldN x.O_Table rfl (by decide) (pv 0)) e_nil)) (len_cons (len_cons (fun _ _ _ h => len_nil h)))))))).pt
  (s_one (s_raise rfl rfl x.X_BadBox (mk_BadBox x.X_BadBox x.I_BadBox) hr (takes_of rfl rfl rfl rfl) (e_cons (e_varF (pv 1)) (e_cons (e_varF (pv 2)) e_nil)) (by rfl) (by decide)))
  s_nil)
  (s_one (s_ret (e_make x.M_Table (ok_Table___init__ x) (hr.mono (by decide)) (by rfl) x.k_Table x.b_Table___init__ rfl (takes_of rfl rfl rfl rfl) (e_cons (e_lc (own := [("told", 3)]) (by decide) (by intro v hv; exact .inr rfl) rfl sc_Table_corner.nd (i_any rfl (e_sl rfl (e_fldN x.O_Table rfl (by decide) (pv 0)) (o_some (e_varF (pv 1))) o_none)) (blkOk_by (by with_unfolding_all rfl)) (fun _ _ _ _ _ => (g_nameF (.inr rfl) (pg_name (i := 3) sc_Table_corner.nd rfl (by first | exact .inl rfl | exact .inr rfl)))) (fun _ _ _ _ _ => t_yes) (fun _ _ _ _ _ => (e_slN rfl (pv 3) (o_some (e_varF (pv 2))) o_none))) e_nil) (fun σ ts σ1 h => congrArg (· + 1) ((len_cons (fun _ _ _ h => len_nil h)) σ ts σ1 h))))))
noncomputable def b_full_after : List T → SRes := (mSeq (mFor (mRg2 (mOp2 sPlus (fVar 1) (mC (.v (.int 1)))) (mLenN 0)) (fN 2)
  (mIf (mBl (mOp2 fNe (mOp2 fIx (fIxN 0 (fVar 2)) (mC (.v (.int 0)))) (mC (.v (.int 0)))))
  (mRetM 2)
  .nx))
  (mRet (mC (.v .non))))
noncomputable def m_full_after : List T → FRes := mFn 3 false b_full_after
set_option maxHeartbeats 4000000 in
theorem ok_full_after {w : World} {K : PySem.W.Frag} {mg : Str → Option Value} {base : Heap} (x : Fx K mg) : FnOk PySem.Challenge.pw_minusless_k11_corners_and_levels w K mg base (L2.CX PySem.Challenge.pw_minusless_k11_corners_and_levels w) 1 x.a_full_after x.fd_full_after ["row", "column"] (spM ⟨K, mg, none⟩ (["row", "column"] : List Str).length m_full_after) := by
  refine fn_mvX (N := ["row", "column", "at"]) (m := m_full_after) b_full_after rfl x.F_full_after sc_full_after (by decide) fun cdv A outer s H E hr => ?_
  unfold b_full_after
  exact (s_cons (s_for (passes_of rfl) rfl (i_rg2 (by rfl) x.m_range (e_op op_plus (MV.ok_plus rfl) (e_varF (pv 1)) (e_c pe_int)) (e_lenN rfl (by rfl) x.m_len (pv 0))) (g_nameF (.inr rfl) (pg_name (i := 2) sc_full_after.nd rfl (by first | exact .inl rfl | exact .inr rfl)))
  (s_one (s_if (t_cmp (op_neD hr.units) (MV.ok_neF rfl) (e_ix ix_seq (MV.ok_ixF rfl) (e_ixNF rfl (pv 0) (e_varF (pv 2)) (fun _ _ => rfl)) (e_c pe_int) (fun _ _ => rfl)) (e_c pe_int) (nomark _))
  (s_one (s_retM (pv 2)))
  s_nil)))
  (s_one (s_ret (e_c pe_non))))
noncomputable def b_pair_of_rows : List T → SRes := (mSeq (mAsg (mCall m_check_row (mCons (fVar 0) mNil)) (fN 0))
  (mSeq (mAsg (mCall m_check_row (mCons (fVar 1) mNil)) (fN 1))
  (mSeq (mIf (mBl (mOp2 fNe (mLenN 0) (mLenN 1)))
  (mRaise "OtherSize" ["one", "other"] (mCons (mLenN 0) (mCons (mLenN 1) mNil)))
  .nx)
  (mRet (mTup (mCons (fVar 0) (mCons (fVar 1) mNil)))))))
noncomputable def m_pair_of_rows : List T → FRes := mFn 2 false b_pair_of_rows
set_option maxHeartbeats 4000000 in
theorem ok_pair_of_rows {w : World} {K : PySem.W.Frag} {mg : Str → Option Value} {base : Heap} (x : Fx K mg) : FnOk PySem.Challenge.pw_minusless_k11_corners_and_levels w K mg base (L2.CX PySem.Challenge.pw_minusless_k11_corners_and_levels w) 4 x.a_pair_of_rows x.fd_pair_of_rows ["row", "by"] (spM ⟨K, mg, none⟩ (["row", "by"] : List Str).length m_pair_of_rows) := by
  refine fn_mvX (N := ["row", "by"]) (m := m_pair_of_rows) b_pair_of_rows rfl x.F_pair_of_rows sc_pair_of_rows (by decide) fun cdv A outer s H E hr => ?_
  unfold b_pair_of_rows
  exact (s_cons (s_setF (i := 0) (.inr rfl) sc_pair_of_rows.nd rfl (by first | exact .inl rfl | exact .inr rfl) (e_call (ok_check_row x) (hr.mono (by decide)) (by rfl) x.g_check_row x.F_check_row.kp x.b_check_row rfl (takes_of rfl rfl rfl rfl) (e_cons (e_varF (pv 0)) e_nil) (len_cons (fun _ _ _ h => len_nil h))))
  (s_cons (s_setF (i := 1) (.inr rfl) sc_pair_of_rows.nd rfl (by first | exact .inl rfl | exact .inr rfl) (e_call (ok_check_row x) (hr.mono (by decide)) (by rfl) x.g_check_row x.F_check_row.kp x.b_check_row rfl (takes_of rfl rfl rfl rfl) (e_cons (e_varF (pv 1)) e_nil) (len_cons (fun _ _ _ h => len_nil h))))
  (s_cons (s_if (t_cmp (op_neD hr.units) (MV.ok_neF rfl) (e_lenN rfl (by rfl) x.m_len (pv 0)) (e_lenN rfl (by rfl) x.m_len (pv 1)) (nomark _))
  (s_one (s_raise rfl rfl x.X_OtherSize (mk_OtherSize x.X_OtherSize x.I_OtherSize) hr (takes_of rfl rfl rfl rfl) (e_cons (e_lenN rfl (by rfl) x.m_len (pv 0)) (e_cons (e_lenN rfl (by rfl) x.m_len (pv 1)) e_nil)) (by rfl) (by decide)))
  s_nil)
  (s_one (s_ret (e_tup (e_cons (e_varF (pv 0)) (e_cons (e_varF (pv 1)) e_nil))))))))
noncomputable def b_unmade_row : List T → SRes := (mSeq (mAsg (mCall m_pair_of_rows (mCons (fVar 0) (mCons (fVar 1) mNil))) (wTup 2 (wCons (fN 0) (wCons (fN 1) wNil))))
  (mSeq (mAsg (mLst mNil) (fN 5))
  (mSeq (mFor (mEnA (fVar 0)) (wTup 2 (wCons (fN 2) (wCons (fN 4) wNil)))
  (mSeq (mAsg (mCall m_full_after (mCons (fVar 1) (mCons (fVar 2) mNil))) (fN 3))
  (mIf (mOr (mBl (mOp2 fEq (mOp2 fIx (fIxN 1 (fVar 2)) (mC (.v (.int 0)))) (mC (.v (.int 0))))) (mBl (mOp2 sIsN (fVar 3) (mC (.v .non)))))
  (mEx (mAppN 5 (fVar 4)))
  (mEx (mAppN 5 (mCall m_less (mCons (fVar 4) (mCons (mCall m_times (mCons (mCall m_over (mCons (fIxN 1 (fVar 2)) (mCons (fIxN 1 (fVar 3)) mNil))) (mCons (fIxN 0 (fVar 3)) mNil))) mNil))))))))
  (mRet (mCallB sTuple (mCons (fVar 5) mNil))))))
noncomputable def m_unmade_row : List T → FRes := mFn 6 false b_unmade_row
set_option maxHeartbeats 4000000 in
theorem ok_unmade_row {w : World} {K : PySem.W.Frag} {mg : Str → Option Value} {base : Heap} (x : Fx K mg) : FnOk PySem.Challenge.pw_minusless_k11_corners_and_levels w K mg base (L2.CX PySem.Challenge.pw_minusless_k11_corners_and_levels w) 5 x.a_unmade_row x.fd_unmade_row ["row", "by"] (spM ⟨K, mg, none⟩ (["row", "by"] : List Str).length m_unmade_row) := by
  refine fn_mvX (N := ["row", "by", "at", "after", "number", "out"]) (m := m_unmade_row) b_unmade_row rfl x.F_unmade_row sc_unmade_row (by decide) fun cdv A outer s H E hr => ?_
  unfold b_unmade_row
  exact (s_cons (s_asg (e_call (ok_pair_of_rows x) (hr.mono (by decide)) (by rfl) x.g_pair_of_rows x.F_pair_of_rows.kp x.b_pair_of_rows rfl (takes_of rfl rfl rfl rfl) (e_cons (e_varF (pv 0)) (e_cons (e_varF (pv 1)) e_nil)) (len_cons (len_cons (fun _ _ _ h => len_nil h)))) (g_tup rfl rfl (g_cons (g_nameF (.inr rfl) (pg_name (i := 0) sc_unmade_row.nd rfl (by first | exact .inl rfl | exact .inr rfl))) (g_cons (g_nameF (.inr rfl) (pg_name (i := 1) sc_unmade_row.nd rfl (by first | exact .inl rfl | exact .inr rfl))) g_nil))))
  (s_cons (s_setF (i := 5) (.inr rfl) sc_unmade_row.nd rfl (by first | exact .inl rfl | exact .inr rfl) (e_lst e_nil))
  (s_cons (s_for (passes_of rfl) rfl (i_enA rfl (by rfl) x.m_enumerate (e_varF (pv 0))) (g_tup rfl rfl (g_cons (g_nameF (.inr rfl) (pg_name (i := 2) sc_unmade_row.nd rfl (by first | exact .inl rfl | exact .inr rfl))) (g_cons (g_nameF (.inr rfl) (pg_name (i := 4) sc_unmade_row.nd rfl (by first | exact .inl rfl | exact .inr rfl))) g_nil)))
  (s_cons (s_setF (i := 3) (.inr rfl) sc_unmade_row.nd rfl (by first | exact .inl rfl | exact .inr rfl) (e_call (ok_full_after x) (hr.mono (by decide)) (by rfl) x.g_full_after x.F_full_after.kp x.b_full_after rfl (takes_of rfl rfl rfl rfl) (e_cons (e_varF (pv 1)) (e_cons (e_varF (pv 2)) e_nil)) (len_cons (len_cons (fun _ _ _ h => len_nil h)))))
  (s_one (s_if (t_or (t_cmp (op_eqD hr.units) (MV.ok_eqF rfl) (e_ix ix_seq (MV.ok_ixF rfl) (e_ixNF rfl (pv 1) (e_varF (pv 2)) (fun _ _ => rfl)) (e_c pe_int) (fun _ _ => rfl)) (e_c pe_int) (nomark _)) (t_or1 (t_cmp op_isN MV.ok_isN (e_varF (pv 3)) (e_c pe_non) (nomark _)))).pt
  (s_one (s_expr (e_appN (pv 5) (e_varF (pv 4)))))
  (s_one (s_expr (e_appN (pv 5) (e_call (ok_less x) (hr.mono (by decide)) (by rfl) x.g_less x.F_less.kp x.b_less rfl (takes_of rfl rfl rfl rfl) (e_cons (e_varF (pv 4)) (e_cons (e_call (ok_times x) (hr.mono (by decide)) (by rfl) x.g_times x.F_times.kp x.b_times rfl (takes_of rfl rfl rfl rfl) (e_cons (e_call (ok_over x) (hr.mono (by decide)) (by rfl) x.g_over x.F_over.kp x.b_over rfl (takes_of rfl rfl rfl rfl) (e_cons (e_ixNF rfl (pv 1) (e_varF (pv 2)) (fun _ _ => rfl)) (e_cons (e_ixNF rfl (pv 1) (e_varF (pv 3)) (fun _ _ => rfl)) e_nil)) (len_cons (len_cons (fun _ _ _ h => len_nil h)))) (e_cons (e_ixNF rfl (pv 0) (e_varF (pv 3)) (fun _ _ => rfl)) e_nil)) (len_cons (len_cons (fun _ _ _ h => len_nil h)))) e_nil)) (len_cons (len_cons (fun _ _ _ h => len_nil h)))))))))))
  (s_one (s_ret (e_callTy (call_tuple_of) (okc_tuple rfl) (by rfl) x.m_tuple (by decide +kernel) (e_cons (e_varF (pv 5)) e_nil)))))))
noncomputable def b_rows_above : List T → SRes := (mRet (mLc (mItA (mSlN none (some (mNeg (mC (.v (.int 1))))) 0)) (fN 1) mYes (mCall m_unmade_row (mCons (fVar 1) (mCons (fIxN 0 (mNeg (mC (.v (.int 1))))) mNil))) [1]))
noncomputable def m_rows_above : List T → FRes := mFn 2 false b_rows_above
set_option maxHeartbeats 4000000 in
theorem ok_rows_above {w : World} {K : PySem.W.Frag} {mg : Str → Option Value} {base : Heap} (x : Fx K mg) : FnOk PySem.Challenge.pw_minusless_k11_corners_and_levels w K mg base (L2.CX PySem.Challenge.pw_minusless_k11_corners_and_levels w) 6 x.a_rows_above x.fd_rows_above ["rows"] (spM ⟨K, mg, none⟩ (["rows"] : List Str).length m_rows_above) := by
  refine fn_mvX (N := ["rows", "row"]) (m := m_rows_above) b_rows_above rfl x.F_rows_above sc_rows_above (by decide) fun cdv A outer s H E hr => ?_
  unfold b_rows_above
  exact (s_one (s_ret (e_lc (own := [("row", 1)]) (by decide) (by intro v hv; exact .inr rfl) rfl sc_rows_above.nd (i_any rfl (e_slN rfl (pv 0) o_none (o_some (e_neg (e_c pe_int))))) (blkOk_by (by with_unfolding_all rfl)) (fun _ _ _ _ _ => (g_nameF (.inr rfl) (pg_name (i := 1) sc_rows_above.nd rfl (by first | exact .inl rfl | exact .inr rfl)))) (fun _ _ _ _ _ => t_yes) (fun _ _ _ _ _ => (e_call (ok_unmade_row x) (hr.mono (by decide)) (by rfl) x.g_unmade_row x.F_unmade_row.kp x.b_unmade_row rfl takes0 (e_cons (e_varF (pv 1)) (e_cons (e_ixNF rfl (pv 0) (e_neg (e_c pe_int)) (fun _ _ => rfl)) e_nil)) (len_cons (len_cons (fun _ _ _ h => len_nil h))))))))
noncomputable def b_unmade : List T → SRes := (mSeq (mAsg (mCallB sList (mCons (mFldN "Table" "rows" 0) mNil)) (fN 1))
  (mSeq (mAsg (mLst mNil) (fN 2))
  (mSeq (whL (mBl (mOp2 sGt (mLenN 1) (mC (.v (.int 0)))))
  (mSeq (mEx (mAppN 2 (fIxN 1 (mNeg (mC (.v (.int 1)))))))
  (mAsg (mCall m_rows_above (mCons (fVar 1) mNil)) (fN 1))) 4000)
  (mRet (mMake "Table" m_Table___init__ (mCons (mRevN 2) mNil))))))
noncomputable def m_unmade : List T → FRes := mFn 3 false b_unmade
set_option maxHeartbeats 4000000 in
theorem ok_unmade {w : World} {K : PySem.W.Frag} {mg : Str → Option Value} {base : Heap} (x : Fx K mg) : FnOk PySem.Challenge.pw_minusless_k11_corners_and_levels w K mg base (L2.CX PySem.Challenge.pw_minusless_k11_corners_and_levels w) 7 x.a_unmade x.fd_unmade ["table"] (spM ⟨K, mg, none⟩ (["table"] : List Str).length m_unmade) := by
  refine fn_mvX (N := ["table", "rows", "found"]) (m := m_unmade) b_unmade rfl x.F_unmade sc_unmade (by decide) fun cdv A outer s H E hr => ?_
  unfold b_unmade
  exact (s_cons (s_setF (i := 1) (.inr rfl) sc_unmade.nd rfl (by first | exact .inl rfl | exact .inr rfl) (e_callTy (call_list_of) (okc_list rfl) (by rfl) x.m_list (by decide +kernel) (e_cons (e_fldN x.O_Table rfl (by decide) (pv 0)) e_nil)))
  (s_cons (s_setF (i := 2) (.inr rfl) sc_unmade.nd rfl (by first | exact .inl rfl | exact .inr rfl) (e_lst e_nil))
  (s_cons (s_while 4000 (passes_of rfl) (t_cmp op_gt MV.ok_gt (e_lenN rfl (by rfl) x.m_len (pv 1)) (e_c pe_int) (nomark _))
  (s_cons (s_expr (e_appN (pv 2) (e_ixNF rfl (pv 1) (e_neg (e_c pe_int)) (fun _ _ => rfl))))
  (s_one (s_setF (i := 1) (.inr rfl) sc_unmade.nd rfl (by first | exact .inl rfl | exact .inr rfl) (e_call (ok_rows_above x) (hr.mono (by decide)) (by rfl) x.g_rows_above x.F_rows_above.kp x.b_rows_above rfl (takes_of rfl rfl rfl rfl) (e_cons (e_varF (pv 1)) e_nil) (len_cons (fun _ _ _ h => len_nil h)))))))
  (s_one (s_ret (e_make x.M_Table (ok_Table___init__ x) (hr.mono (by decide)) (by rfl) x.k_Table x.b_Table___init__ rfl (takes_of rfl rfl rfl rfl) (e_cons (e_revN rfl (pv 2)) e_nil) (fun σ ts σ1 h => congrArg (· + 1) ((len_cons (fun _ _ _ h => len_nil h)) σ ts σ1 h))))))))
noncomputable def b_level : List T → SRes := (mSeq (mEx (mCall m_row_at (mCons (fVar 1) (mCons (mFldN "Table" "high" 0) mNil))))
  (mSeq (mAsg (mCallB sList (mCons (mFldN "Table" "rows" 0) mNil)) (fN 2))
  (mSeq (whL (mBl (mOp2 sGt (mLenN 2) (mOp2 sPlus (fVar 1) (mC (.v (.int 1))))))
  (mAsg (mCall m_rows_above (mCons (fVar 2) mNil)) (fN 2)) 4000)
  (mRet (mMake "Table" m_Table___init__ (mCons (fVar 2) mNil))))))
noncomputable def m_level : List T → FRes := mFn 3 false b_level
set_option maxHeartbeats 4000000 in
theorem ok_level {w : World} {K : PySem.W.Frag} {mg : Str → Option Value} {base : Heap} (x : Fx K mg) : FnOk PySem.Challenge.pw_minusless_k11_corners_and_levels w K mg base (L2.CX PySem.Challenge.pw_minusless_k11_corners_and_levels w) 7 x.a_level x.fd_level ["table", "at"] (spM ⟨K, mg, none⟩ (["table", "at"] : List Str).length m_level) := by
  refine fn_mvX (N := ["table", "at", "rows"]) (m := m_level) b_level rfl x.F_level sc_level (by decide) fun cdv A outer s H E hr => ?_
  unfold b_level
  exact (s_cons (s_expr (e_call (ok_row_at x) (hr.mono (by decide)) (by rfl) x.g_row_at x.F_row_at.kp x.b_row_at rfl (takes_of rfl rfl rfl rfl) (e_cons (e_varF (pv 1)) (e_cons (e_fldN x.O_Table rfl (by decide) (pv 0)) e_nil)) (len_cons (len_cons (fun _ _ _ h => len_nil h)))))
  (s_cons (s_setF (i := 2) (.inr rfl) sc_level.nd rfl (by first | exact .inl rfl | exact .inr rfl) (e_callTy (call_list_of) (okc_list rfl) (by rfl) x.m_list (by decide +kernel) (e_cons (e_fldN x.O_Table rfl (by decide) (pv 0)) e_nil)))
  (s_cons (s_while 4000 (passes_of rfl) (t_cmp op_gt MV.ok_gt (e_lenN rfl (by rfl) x.m_len (pv 2)) (e_op op_plus (MV.ok_plus rfl) (e_varF (pv 1)) (e_c pe_int)) (nomark _))
  (s_one (s_setF (i := 2) (.inr rfl) sc_level.nd rfl (by first | exact .inl rfl | exact .inr rfl) (e_call (ok_rows_above x) (hr.mono (by decide)) (by rfl) x.g_rows_above x.F_rows_above.kp x.b_rows_above rfl (takes_of rfl rfl rfl rfl) (e_cons (e_varF (pv 2)) e_nil) (len_cons (fun _ _ _ h => len_nil h))))))
  (s_one (s_ret (e_make x.M_Table (ok_Table___init__ x) (hr.mono (by decide)) (by rfl) x.k_Table x.b_Table___init__ rfl (takes_of rfl rfl rfl rfl) (e_cons (e_varF (pv 2)) e_nil) (fun σ ts σ1 h => congrArg (· + 1) ((len_cons (fun _ _ _ h => len_nil h)) σ ts σ1 h))))))))
noncomputable def b_core_row : List T → SRes := (mRet (mOp2 fIx (mFld "Table" "rows" (mCall m_level (mCons (fVar 0) (mCons (fVar 1) mNil)))) (fVar 1)))
noncomputable def m_core_row : List T → FRes := mFn 2 false b_core_row
set_option maxHeartbeats 4000000 in
theorem ok_core_row {w : World} {K : PySem.W.Frag} {mg : Str → Option Value} {base : Heap} (x : Fx K mg) : FnOk PySem.Challenge.pw_minusless_k11_corners_and_levels w K mg base (L2.CX PySem.Challenge.pw_minusless_k11_corners_and_levels w) 8 x.a_core_row x.fd_core_row ["table", "at"] (spM ⟨K, mg, none⟩ (["table", "at"] : List Str).length m_core_row) := by
  refine fn_mvX (N := ["table", "at"]) (m := m_core_row) b_core_row rfl x.F_core_row sc_core_row (by decide) fun cdv A outer s H E hr => ?_
  unfold b_core_row
  exact (s_one (s_ret (e_ix ix_seq (MV.ok_ixF rfl) (e_fld x.O_Table rfl (by decide) (e_call (ok_level x) (hr.mono (by decide)) (by rfl) x.g_level x.F_level.kp x.b_level rfl (takes_of rfl rfl rfl rfl) (e_cons (e_varF (pv 0)) (e_cons (e_varF (pv 1)) e_nil)) (len_cons (len_cons (fun _ _ _ h => len_nil h))))) (e_varF (pv 1)) (fun _ _ => rfl))))
noncomputable def b_last_round : List T → SRes := (mSeq (mIf (mBl (mOp2 fEq (mFldN "Table" "high" 0) (mC (.v (.int 1)))))
  (mRaise "TooMany" ["bound"] (mCons (mC (.v (.int 1))) mNil))
  .nx)
  (mRet (mTup (mCons (mMake "Table" m_Table___init__ (mCons (mCall m_rows_above (mCons (mFldN "Table" "rows" 0) mNil)) mNil)) (mCons (mOp2 fIx (mFldN "Table" "rows" 0) (mNeg (mC (.v (.int 1))))) mNil)))))
noncomputable def m_last_round : List T → FRes := mFn 1 false b_last_round
set_option maxHeartbeats 4000000 in
theorem ok_last_round {w : World} {K : PySem.W.Frag} {mg : Str → Option Value} {base : Heap} (x : Fx K mg) : FnOk PySem.Challenge.pw_minusless_k11_corners_and_levels w K mg base (L2.CX PySem.Challenge.pw_minusless_k11_corners_and_levels w) 7 x.a_last_round x.fd_last_round ["table"] (spM ⟨K, mg, none⟩ (["table"] : List Str).length m_last_round) := by
  refine fn_mvX (N := ["table"]) (m := m_last_round) b_last_round rfl x.F_last_round sc_last_round (by decide) fun cdv A outer s H E hr => ?_
  unfold b_last_round
  exact (s_cons (s_if (t_cmp (op_eqD hr.units) (MV.ok_eqF rfl) (e_fldN x.O_Table rfl (by decide) (pv 0)) (e_c pe_int) (nomark _))
  (s_one (s_raise rfl rfl x.X_TooMany (mk_TooMany x.X_TooMany x.I_TooMany) hr (takes_of rfl rfl rfl rfl) (e_cons (e_c pe_int) e_nil) (by rfl) (by decide)))
  s_nil)
  (s_one (s_ret (e_tup (e_cons (e_make x.M_Table (ok_Table___init__ x) (hr.mono (by decide)) (by rfl) x.k_Table x.b_Table___init__ rfl (takes_of rfl rfl rfl rfl) (e_cons (e_call (ok_rows_above x) (hr.mono (by decide)) (by rfl) x.g_rows_above x.F_rows_above.kp x.b_rows_above rfl (takes_of rfl rfl rfl rfl) (e_cons (e_fldN x.O_Table rfl (by decide) (pv 0)) e_nil) (len_cons (fun _ _ _ h => len_nil h))) e_nil) (fun σ ts σ1 h => congrArg (· + 1) ((len_cons (fun _ _ _ h => len_nil h)) σ ts σ1 h))) (e_cons (e_ix ix_seq (MV.ok_ixF rfl) (e_fldN x.O_Table rfl (by decide) (pv 0)) (e_neg (e_c pe_int)) (fun _ _ => rfl)) e_nil))))))
noncomputable def b__law_draws : List T → SRes := (mSeq (mAsg (mLst mNil) (fN 1))
  (mSeq (mFor (mRg1 (mCallB sMin (mCons (mLenN 0) (mCons (mC (.v (.int 63))) mNil)))) (fN 2)
  (mSeq (mAsg (mCallB sInt (mCons (fIxN 0 (fVar 2)) mNil)) (fN 3))
  (mSeq (mIf (mBl (mOp2 sLt (fVar 3) (mC (.v (.int 0)))))
  (mAsg (mOp2 sSub (mC (.v (.int 7))) (fVar 3)) (fN 3))
  .nx)
  (mIf (mBl (mOp2 sGe (fVar 3) (mOp2 sPow (mC (.v (.int 10))) (mC (.v (.int 18))))))
  (mFor (mRg1 (mC (.v (.int 50)))) (fN 4)
  (mIf (mBl (mOp2 sGt (fVar 3) (mC (.v (.int 0)))))
  (mSeq (mEx (mAppN 1 (mOp2 sMod (mCallB sInt (mCons (fVar 3) mNil)) (mC (.v (.int 60))))))
  (mAsg (mOp2 fDiv (fVar 3) (mC (.v (.int 60)))) (fN 3)))
  .nx))
  (mSeq (mAsg (mOp2 sMod (mCallB sInt (mCons (mOp2 sPlus (mOp2 sPlus (mOp2 fTimes (fVar 3) (mC (.v (.int 75931)))) (mOp2 fTimes (fVar 2) (mC (.v (.int 30011))))) (mC (.v (.int 19)))) mNil)) (mC (.v (.int 1073741789)))) (fN 5))
  (mFor (mRg1 (mC (.v (.int 8)))) (fN 4)
  (mSeq (mAsg (mOp2 sMod (mCallB sInt (mCons (mOp2 sPlus (mOp2 sPlus (mOp2 sPlus (mOp2 fTimes (fVar 5) (fVar 5)) (mOp2 fTimes (fVar 4) (mC (.v (.int 52711))))) (fVar 2)) (mC (.v (.int 5)))) mNil)) (mC (.v (.int 1073741783)))) (fN 5))
  (mEx (mAppN 1 (mOp2 fDiv (fVar 5) (mC (.v (.int 16)))))))))))))
  (mRet (mRevN 1))))
noncomputable def m__law_draws : List T → FRes := mFn 6 false b__law_draws
set_option maxHeartbeats 4000000 in
theorem ok__law_draws {w : World} {K : PySem.W.Frag} {mg : Str → Option Value} {base : Heap} (x : Fx K mg) : FnOk PySem.Challenge.pw_minusless_k11_corners_and_levels w K mg base (L2.CX PySem.Challenge.pw_minusless_k11_corners_and_levels w) 1 x.a__law_draws x.fd__law_draws ["_law_script"] (spM ⟨K, mg, none⟩ (["_law_script"] : List Str).length m__law_draws) := by
  refine fn_mvX (N := ["_law_script", "_law_row", "_law_place", "_law_cell", "_law_turn", "_law_mixed"]) (m := m__law_draws) b__law_draws rfl x.F__law_draws sc__law_draws (by decide) fun cdv A outer s H E hr => ?_
  unfold b__law_draws
  exact (s_cons (s_setF (i := 1) (.inr rfl) sc__law_draws.nd rfl (by first | exact .inl rfl | exact .inr rfl) (e_lst e_nil))
  (s_cons (s_for (passes_of rfl) rfl (i_rg1 (by rfl) x.m_range (e_callB (call_min2 rfl) (okc_min) (by rfl) x.m_min (by decide +kernel) (e_cons (e_lenN rfl (by rfl) x.m_len (pv 0)) (e_cons (e_c pe_int) e_nil)))) (g_nameF (.inr rfl) (pg_name (i := 2) sc__law_draws.nd rfl (by first | exact .inl rfl | exact .inr rfl)))
  (s_cons (s_setF (i := 3) (.inr rfl) sc__law_draws.nd rfl (by first | exact .inl rfl | exact .inr rfl) (e_callTy (call_int1) (okc_int) (by rfl) x.m_int (by decide +kernel) (e_cons (e_ixNF rfl (pv 0) (e_varF (pv 2)) (fun _ _ => rfl)) e_nil)))
  (s_cons (s_if (t_cmp op_lt MV.ok_lt (e_varF (pv 3)) (e_c pe_int) (nomark _))
  (s_one (s_setF (i := 3) (.inr rfl) sc__law_draws.nd rfl (by first | exact .inl rfl | exact .inr rfl) (e_op op_sub MV.ok_sub (e_c pe_int) (e_varF (pv 3)))))
  s_nil)
  (s_one (s_if (t_cmp op_ge MV.ok_ge (e_varF (pv 3)) (e_op op_pow MV.ok_pow (e_c pe_int) (e_c pe_int)) (nomark _))
  (s_one (s_for (passes_of rfl) rfl (i_rg1 (by rfl) x.m_range (e_c pe_int)) (g_nameF (.inr rfl) (pg_name (i := 4) sc__law_draws.nd rfl (by first | exact .inl rfl | exact .inr rfl)))
  (s_one (s_if (t_cmp op_gt MV.ok_gt (e_varF (pv 3)) (e_c pe_int) (nomark _))
  (s_cons (s_expr (e_appN (pv 1) (e_op op_mod MV.ok_mod (e_callTy (call_int1) (okc_int) (by rfl) x.m_int (by decide +kernel) (e_cons (e_varF (pv 3)) e_nil)) (e_c pe_int))))
  (s_one (s_setF (i := 3) (.inr rfl) sc__law_draws.nd rfl (by first | exact .inl rfl | exact .inr rfl) (e_op op_fdivW MV.ok_divF (e_varF (pv 3)) (e_c pe_int)))))
  s_nil))))
  (s_cons (s_setF (i := 5) (.inr rfl) sc__law_draws.nd rfl (by first | exact .inl rfl | exact .inr rfl) (e_op op_mod MV.ok_mod (e_callTy (call_int1) (okc_int) (by rfl) x.m_int (by decide +kernel) (e_cons (e_op op_plus (MV.ok_plus rfl) (e_op op_plus (MV.ok_plus rfl) (e_op op_times MV.ok_timesF (e_varF (pv 3)) (e_c pe_int)) (e_op op_times MV.ok_timesF (e_varF (pv 2)) (e_c pe_int))) (e_c pe_int)) e_nil)) (e_c pe_int)))
  (s_one (s_for (passes_of rfl) rfl (i_rg1 (by rfl) x.m_range (e_c pe_int)) (g_nameF (.inr rfl) (pg_name (i := 4) sc__law_draws.nd rfl (by first | exact .inl rfl | exact .inr rfl)))
  (s_cons (s_setF (i := 5) (.inr rfl) sc__law_draws.nd rfl (by first | exact .inl rfl | exact .inr rfl) (e_op op_mod MV.ok_mod (e_callTy (call_int1) (okc_int) (by rfl) x.m_int (by decide +kernel) (e_cons (e_op op_plus (MV.ok_plus rfl) (e_op op_plus (MV.ok_plus rfl) (e_op op_plus (MV.ok_plus rfl) (e_op op_times MV.ok_timesF (e_varF (pv 5)) (e_varF (pv 5))) (e_op op_times MV.ok_timesF (e_varF (pv 4)) (e_c pe_int))) (e_varF (pv 2))) (e_c pe_int)) e_nil)) (e_c pe_int)))
  (s_one (s_expr (e_appN (pv 1) (e_op op_fdivW MV.ok_divF (e_varF (pv 5)) (e_c pe_int))))))))))))))
  (s_one (s_ret (e_revN rfl (pv 1))))))
noncomputable def b__law_take : List T → SRes := (mSeq (mIf (mOr (mBl (mOp2 fEq (mLenN 0) (mC (.v (.int 0))))) (mBl (mOp2 sLt (fVar 1) (mC (.v (.int 1))))))
  (mRet (mC (.v (.int 0))))
  .nx)
  (mRet (mOp2 sMod (mCallB sInt (mCons (mPopN 0) mNil)) (fVar 1))))
noncomputable def m__law_take : List T → FRes := mFn 2 true b__law_take
set_option maxHeartbeats 4000000 in
theorem ok__law_take {w : World} {K : PySem.W.Frag} {mg : Str → Option Value} {base : Heap} (x : Fx K mg) : FnOk PySem.Challenge.pw_minusless_k11_corners_and_levels w K mg base (L2.CX PySem.Challenge.pw_minusless_k11_corners_and_levels w) 1 x.a__law_take x.fd__law_take ["_law_draws_here", "_law_many"] (spM ⟨K, mg, none⟩ (["_law_draws_here", "_law_many"] : List Str).length m__law_take) := by
  refine fn_mvBX (N := ["_law_draws_here", "_law_many"]) (m := m__law_take) b__law_take rfl x.F__law_take sc__law_take (by decide) (by decide) fun cdv A outer s H E v0 hr => ?_
  unfold b__law_take
  exact (s_cons (s_if (t_or (t_cmp (op_eqD hr.units) (MV.ok_eqF rfl) (e_lenN rfl (by rfl) x.m_len (pv 0)) (e_c pe_int) (nomark _)) (t_or1 (t_cmp op_lt MV.ok_lt (e_varF (pv 1)) (e_c pe_int) (nomark _)))).pt
  (s_one (s_ret (e_c pe_int)))
  s_nil)
  (s_one (s_ret (e_op op_mod MV.ok_mod (e_callTy (call_int1) (okc_int) (by rfl) x.m_int (by decide +kernel) (e_cons (e_popN (pv 0)) e_nil)) (e_varF (pv 1))))))
noncomputable def b__law_pair : List T → SRes := (mSeq (mIf (mBl (mOp2 sLt (fVar 1) (mC (.v (.int 0)))))
  (mSeq (mAsg (mNeg (fVar 0)) (fN 0))
  (mAsg (mNeg (fVar 1)) (fN 1)))
  .nx)
  (mSeq (mAsg (mCallB sAbs (mCons (fVar 0) mNil)) (fN 3))
  (mSeq (mAsg (fVar 1) (fN 2))
  (mSeq (mFor (mRg1 (mOp2 sPlus (mOp2 fTimes (mC (.v (.int 2))) (mBits (fVar 1))) (mC (.v (.int 12))))) (fN 5)
  (mIf (mBl (mOp2 sGt (fVar 2) (mC (.v (.int 0)))))
  (mSeq (mAsg (mOp2 sMod (mCallB sInt (mCons (fVar 3) mNil)) (fVar 2)) (fN 4))
  (mSeq (mAsg (fVar 2) (fN 3))
  (mAsg (fVar 4) (fN 2))))
  .nx))
  (mRet (mTup (mCons (mOp2 gDiv (fVar 0) (fVar 3)) (mCons (mOp2 gDiv (fVar 1) (fVar 3)) mNil))))))))
noncomputable def m__law_pair : List T → FRes := mFn 6 false b__law_pair
set_option maxHeartbeats 4000000 in
theorem ok__law_pair {w : World} {K : PySem.W.Frag} {mg : Str → Option Value} {base : Heap} (x : Fx K mg) : FnOk PySem.Challenge.pw_minusless_k11_corners_and_levels w K mg base (L2.CX PySem.Challenge.pw_minusless_k11_corners_and_levels w) 1 x.a__law_pair x.fd__law_pair ["_law_top", "_law_under"] (spM ⟨K, mg, none⟩ (["_law_top", "_law_under"] : List Str).length m__law_pair) := by
  refine fn_mvX (N := ["_law_top", "_law_under", "_law_other_here", "_law_one", "_law_rest", "_law_turn"]) (m := m__law_pair) b__law_pair rfl x.F__law_pair sc__law_pair (by decide) fun cdv A outer s H E hr => ?_
  unfold b__law_pair
  exact (s_cons (s_if (t_cmp op_lt MV.ok_lt (e_varF (pv 1)) (e_c pe_int) (nomark _))
  (s_cons (s_setF (i := 0) (.inr rfl) sc__law_pair.nd rfl (by first | exact .inl rfl | exact .inr rfl) (e_neg (e_varF (pv 0))))
  (s_one (s_setF (i := 1) (.inr rfl) sc__law_pair.nd rfl (by first | exact .inl rfl | exact .inr rfl) (e_neg (e_varF (pv 1))))))
  s_nil)
  (s_cons (s_setF (i := 3) (.inr rfl) sc__law_pair.nd rfl (by first | exact .inl rfl | exact .inr rfl) (e_callB (call_abs) (okc_abs) (by rfl) x.m_abs (by decide +kernel) (e_cons (e_varF (pv 0)) e_nil)))
  (s_cons (s_setF (i := 2) (.inr rfl) sc__law_pair.nd rfl (by first | exact .inl rfl | exact .inr rfl) (e_varF (pv 1)))
  (s_cons (s_for (passes_of rfl) rfl (i_rg1 (by rfl) x.m_range (e_op op_plus (MV.ok_plus rfl) (e_op op_times MV.ok_timesF (e_c pe_int) (e_bits (e_varF (pv 1)))) (e_c pe_int))) (g_nameF (.inr rfl) (pg_name (i := 5) sc__law_pair.nd rfl (by first | exact .inl rfl | exact .inr rfl)))
  (s_one (s_if (t_cmp op_gt MV.ok_gt (e_varF (pv 2)) (e_c pe_int) (nomark _))
  (s_cons (s_setF (i := 4) (.inr rfl) sc__law_pair.nd rfl (by first | exact .inl rfl | exact .inr rfl) (e_op op_mod MV.ok_mod (e_callTy (call_int1) (okc_int) (by rfl) x.m_int (by decide +kernel) (e_cons (e_varF (pv 3)) e_nil)) (e_varF (pv 2))))
  (s_cons (s_setF (i := 3) (.inr rfl) sc__law_pair.nd rfl (by first | exact .inl rfl | exact .inr rfl) (e_varF (pv 2)))
  (s_one (s_setF (i := 2) (.inr rfl) sc__law_pair.nd rfl (by first | exact .inl rfl | exact .inr rfl) (e_varF (pv 4))))))
  s_nil)))
  (s_one (s_ret (e_tup (e_cons (e_op op_fdivG MV.ok_divG (e_varF (pv 0)) (e_varF (pv 3))) (e_cons (e_op op_fdivG MV.ok_divG (e_varF (pv 1)) (e_varF (pv 3))) e_nil)))))))))
noncomputable def b__law_less : List T → SRes := (mRet (mCall m__law_pair (mCons (mOp2 sSub (mOp2 fTimes (fIxN 0 (mC (.v (.int 0)))) (fIxN 1 (mC (.v (.int 1))))) (mOp2 fTimes (fIxN 1 (mC (.v (.int 0)))) (fIxN 0 (mC (.v (.int 1)))))) (mCons (mOp2 fTimes (fIxN 0 (mC (.v (.int 1)))) (fIxN 1 (mC (.v (.int 1))))) mNil))))
noncomputable def m__law_less : List T → FRes := mFn 2 false b__law_less
set_option maxHeartbeats 4000000 in
theorem ok__law_less {w : World} {K : PySem.W.Frag} {mg : Str → Option Value} {base : Heap} (x : Fx K mg) : FnOk PySem.Challenge.pw_minusless_k11_corners_and_levels w K mg base (L2.CX PySem.Challenge.pw_minusless_k11_corners_and_levels w) 2 x.a__law_less x.fd__law_less ["_law_one", "_law_other_here"] (spM ⟨K, mg, none⟩ (["_law_one", "_law_other_here"] : List Str).length m__law_less) := by
  refine fn_mvX (N := ["_law_one", "_law_other_here"]) (m := m__law_less) b__law_less rfl x.F__law_less sc__law_less (by decide) fun cdv A outer s H E hr => ?_
  unfold b__law_less
  exact (s_one (s_ret (e_call (ok__law_pair x) (hr.mono (by decide)) (by rfl) x.g__law_pair x.F__law_pair.kp x.b__law_pair rfl (takes_of rfl rfl rfl rfl) (e_cons (e_op op_sub MV.ok_sub (e_op op_times MV.ok_timesF (e_ixNF rfl (pv 0) (e_c pe_int) (fun _ _ => rfl)) (e_ixNF rfl (pv 1) (e_c pe_int) (fun _ _ => rfl))) (e_op op_times MV.ok_timesF (e_ixNF rfl (pv 1) (e_c pe_int) (fun _ _ => rfl)) (e_ixNF rfl (pv 0) (e_c pe_int) (fun _ _ => rfl)))) (e_cons (e_op op_times MV.ok_timesF (e_ixNF rfl (pv 0) (e_c pe_int) (fun _ _ => rfl)) (e_ixNF rfl (pv 1) (e_c pe_int) (fun _ _ => rfl))) e_nil)) (len_cons (len_cons (fun _ _ _ h => len_nil h))))))
noncomputable def b__law_times : List T → SRes := (mRet (mCall m__law_pair (mCons (mOp2 fTimes (fIxN 0 (mC (.v (.int 0)))) (fIxN 1 (mC (.v (.int 0))))) (mCons (mOp2 fTimes (fIxN 0 (mC (.v (.int 1)))) (fIxN 1 (mC (.v (.int 1))))) mNil))))
noncomputable def m__law_times : List T → FRes := mFn 2 false b__law_times
set_option maxHeartbeats 4000000 in
theorem ok__law_times {w : World} {K : PySem.W.Frag} {mg : Str → Option Value} {base : Heap} (x : Fx K mg) : FnOk PySem.Challenge.pw_minusless_k11_corners_and_levels w K mg base (L2.CX PySem.Challenge.pw_minusless_k11_corners_and_levels w) 2 x.a__law_times x.fd__law_times ["_law_one", "_law_other_here"] (spM ⟨K, mg, none⟩ (["_law_one", "_law_other_here"] : List Str).length m__law_times) := by
  refine fn_mvX (N := ["_law_one", "_law_other_here"]) (m := m__law_times) b__law_times rfl x.F__law_times sc__law_times (by decide) fun cdv A outer s H E hr => ?_
  unfold b__law_times
  exact (s_one (s_ret (e_call (ok__law_pair x) (hr.mono (by decide)) (by rfl) x.g__law_pair x.F__law_pair.kp x.b__law_pair rfl (takes_of rfl rfl rfl rfl) (e_cons (e_op op_times MV.ok_timesF (e_ixNF rfl (pv 0) (e_c pe_int) (fun _ _ => rfl)) (e_ixNF rfl (pv 1) (e_c pe_int) (fun _ _ => rfl))) (e_cons (e_op op_times MV.ok_timesF (e_ixNF rfl (pv 0) (e_c pe_int) (fun _ _ => rfl)) (e_ixNF rfl (pv 1) (e_c pe_int) (fun _ _ => rfl))) e_nil)) (len_cons (len_cons (fun _ _ _ h => len_nil h))))))
noncomputable def b__law_over : List T → SRes := (mSeq (mIf (mBl (mOp2 fEq (fIxN 1 (mC (.v (.int 0)))) (mC (.v (.int 0)))))
  (mRet (mTup (mCons (mC (.v (.int 0))) (mCons (mC (.v (.int 1))) mNil))))
  .nx)
  (mRet (mCall m__law_pair (mCons (mOp2 fTimes (fIxN 0 (mC (.v (.int 0)))) (fIxN 1 (mC (.v (.int 1))))) (mCons (mOp2 fTimes (fIxN 0 (mC (.v (.int 1)))) (fIxN 1 (mC (.v (.int 0))))) mNil)))))
noncomputable def m__law_over : List T → FRes := mFn 2 false b__law_over
set_option maxHeartbeats 4000000 in
theorem ok__law_over {w : World} {K : PySem.W.Frag} {mg : Str → Option Value} {base : Heap} (x : Fx K mg) : FnOk PySem.Challenge.pw_minusless_k11_corners_and_levels w K mg base (L2.CX PySem.Challenge.pw_minusless_k11_corners_and_levels w) 2 x.a__law_over x.fd__law_over ["_law_one", "_law_other_here"] (spM ⟨K, mg, none⟩ (["_law_one", "_law_other_here"] : List Str).length m__law_over) := by
  refine fn_mvX (N := ["_law_one", "_law_other_here"]) (m := m__law_over) b__law_over rfl x.F__law_over sc__law_over (by decide) fun cdv A outer s H E hr => ?_
  unfold b__law_over
  exact (s_cons (s_if (t_cmp (op_eqD hr.units) (MV.ok_eqF rfl) (e_ixNF rfl (pv 1) (e_c pe_int) (fun _ _ => rfl)) (e_c pe_int) (nomark _))
  (s_one (s_ret (e_tup (e_cons (e_c pe_int) (e_cons (e_c pe_int) e_nil)))))
  s_nil)
  (s_one (s_ret (e_call (ok__law_pair x) (hr.mono (by decide)) (by rfl) x.g__law_pair x.F__law_pair.kp x.b__law_pair rfl (takes_of rfl rfl rfl rfl) (e_cons (e_op op_times MV.ok_timesF (e_ixNF rfl (pv 0) (e_c pe_int) (fun _ _ => rfl)) (e_ixNF rfl (pv 1) (e_c pe_int) (fun _ _ => rfl))) (e_cons (e_op op_times MV.ok_timesF (e_ixNF rfl (pv 0) (e_c pe_int) (fun _ _ => rfl)) (e_ixNF rfl (pv 1) (e_c pe_int) (fun _ _ => rfl))) e_nil)) (len_cons (len_cons (fun _ _ _ h => len_nil h)))))))
noncomputable def b__law_is_number : List T → SRes := (mSeq (mIf (mOr (mNot (mTru (mIsi .tup (fVar 0)))) (mBl (mOp2 fNe (mLenN 0) (mC (.v (.int 2))))))
  (mRet (mC (.v (.bl false))))
  .nx)
  (mSeq (mFor (mItA (fVar 0)) (fN 1)
  (mIf (mOr (mNot (mTru (mIsi .int (fVar 1)))) (mTru (mIsi .bl (fVar 1))))
  (mRet (mC (.v (.bl false))))
  .nx))
  (mRet (mAndV (mOp2 sGe (fIxN 0 (mC (.v (.int 1)))) (mC (.v (.int 1)))) (mOp2 fEq (mCall m__law_pair (mCons (fIxN 0 (mC (.v (.int 0)))) (mCons (fIxN 0 (mC (.v (.int 1)))) mNil))) (fVar 0))))))
noncomputable def m__law_is_number : List T → FRes := mFn 2 false b__law_is_number
set_option maxHeartbeats 4000000 in
theorem ok__law_is_number {w : World} {K : PySem.W.Frag} {mg : Str → Option Value} {base : Heap} (x : Fx K mg) : FnOk PySem.Challenge.pw_minusless_k11_corners_and_levels w K mg base (L2.CX PySem.Challenge.pw_minusless_k11_corners_and_levels w) 2 x.a__law_is_number x.fd__law_is_number ["_law_value"] (spM ⟨K, mg, none⟩ (["_law_value"] : List Str).length m__law_is_number) := by
  refine fn_mvX (N := ["_law_value", "_law_side"]) (m := m__law_is_number) b__law_is_number rfl x.F__law_is_number sc__law_is_number (by decide) fun cdv A outer s H E hr => ?_
  unfold b__law_is_number
  exact (s_cons (s_if (t_or (t_not (t_val rfl (e_isi .tup rfl (by rfl) x.m_isinstance (e_varF (pv 0)) (pe_bltn (by rfl) x.m_tuple (by decide +kernel) rfl)))) (t_or1 (t_cmp (op_neD hr.units) (MV.ok_neF rfl) (e_lenN rfl (by rfl) x.m_len (pv 0)) (e_c pe_int) (nomark _)))).pt
  (s_one (s_ret (e_c pe_bl)))
  s_nil)
  (s_cons (s_for (passes_of rfl) rfl (i_any rfl (e_varF (pv 0))) (g_nameF (.inr rfl) (pg_name (i := 1) sc__law_is_number.nd rfl (by first | exact .inl rfl | exact .inr rfl)))
  (s_one (s_if (t_or (t_not (t_val rfl (e_isi .int rfl (by rfl) x.m_isinstance (e_varF (pv 1)) (pe_bltn (by rfl) x.m_int (by decide +kernel) rfl)))) (t_or1 (t_val rfl (e_isi .bl rfl (by rfl) x.m_isinstance (e_varF (pv 1)) (pe_bltn (by rfl) x.m_bool (by decide +kernel) rfl))))).pt
  (s_one (s_ret (e_c pe_bl)))
  s_nil)))
  (s_one (s_ret (e_and (e_cmp op_ge MV.ok_ge (e_ixNF rfl (pv 0) (e_c pe_int) (fun _ _ => rfl)) (e_c pe_int) (nomark _)) (e_one (e_cmp (op_eqD hr.units) (MV.ok_eqF rfl) (e_call (ok__law_pair x) (hr.mono (by decide)) (by rfl) x.g__law_pair x.F__law_pair.kp x.b__law_pair rfl (takes_of rfl rfl rfl rfl) (e_cons (e_ixNF rfl (pv 0) (e_c pe_int) (fun _ _ => rfl)) (e_cons (e_ixNF rfl (pv 0) (e_c pe_int) (fun _ _ => rfl)) e_nil)) (len_cons (len_cons (fun _ _ _ h => len_nil h)))) (e_varF (pv 0)) (nomark _))))))))
noncomputable def b__law_is_rows : List T → SRes := (mSeq (mIf (mOr (mNot (mTru (mIsi .tup (fVar 0)))) (mBl (mOp2 fNe (mLenN 0) (fVar 1))))
  (mRet (mC (.v (.bl false))))
  .nx)
  (mSeq (mFor (mItA (fVar 0)) (fN 4)
  (mSeq (mIf (mOr (mNot (mTru (mIsi .tup (fVar 4)))) (mBl (mOp2 fNe (mLenN 4) (fVar 2))))
  (mRet (mC (.v (.bl false))))
  .nx)
  (mFor (mItA (fVar 4)) (fN 3)
  (mIf (mNot (mTru (mCall m__law_is_number (mCons (fVar 3) mNil))))
  (mRet (mC (.v (.bl false))))
  .nx))))
  (mRet (mC (.v (.bl true))))))
noncomputable def m__law_is_rows : List T → FRes := mFn 5 false b__law_is_rows
set_option maxHeartbeats 4000000 in
theorem ok__law_is_rows {w : World} {K : PySem.W.Frag} {mg : Str → Option Value} {base : Heap} (x : Fx K mg) : FnOk PySem.Challenge.pw_minusless_k11_corners_and_levels w K mg base (L2.CX PySem.Challenge.pw_minusless_k11_corners_and_levels w) 3 x.a__law_is_rows x.fd__law_is_rows ["_law_value", "_law_high", "_law_wide"] (spM ⟨K, mg, none⟩ (["_law_value", "_law_high", "_law_wide"] : List Str).length m__law_is_rows) := by
  refine fn_mvX (N := ["_law_value", "_law_high", "_law_wide", "_law_number", "_law_row"]) (m := m__law_is_rows) b__law_is_rows rfl x.F__law_is_rows sc__law_is_rows (by decide) fun cdv A outer s H E hr => ?_
  unfold b__law_is_rows
  exact (s_cons (s_if (t_or (t_not (t_val rfl (e_isi .tup rfl (by rfl) x.m_isinstance (e_varF (pv 0)) (pe_bltn (by rfl) x.m_tuple (by decide +kernel) rfl)))) (t_or1 (t_cmp (op_neD hr.units) (MV.ok_neF rfl) (e_lenN rfl (by rfl) x.m_len (pv 0)) (e_varF (pv 1)) (nomark _)))).pt
  (s_one (s_ret (e_c pe_bl)))
  s_nil)
  (s_cons (s_for (passes_of rfl) rfl (i_any rfl (e_varF (pv 0))) (g_nameF (.inr rfl) (pg_name (i := 4) sc__law_is_rows.nd rfl (by first | exact .inl rfl | exact .inr rfl)))
  (s_cons (s_if (t_or (t_not (t_val rfl (e_isi .tup rfl (by rfl) x.m_isinstance (e_varF (pv 4)) (pe_bltn (by rfl) x.m_tuple (by decide +kernel) rfl)))) (t_or1 (t_cmp (op_neD hr.units) (MV.ok_neF rfl) (e_lenN rfl (by rfl) x.m_len (pv 4)) (e_varF (pv 2)) (nomark _)))).pt
  (s_one (s_ret (e_c pe_bl)))
  s_nil)
  (s_one (s_for (passes_of rfl) rfl (i_any rfl (e_varF (pv 4))) (g_nameF (.inr rfl) (pg_name (i := 3) sc__law_is_rows.nd rfl (by first | exact .inl rfl | exact .inr rfl)))
  (s_one (s_if (t_not (t_val rfl (e_call (ok__law_is_number x) (hr.mono (by decide)) (by rfl) x.g__law_is_number x.F__law_is_number.kp x.b__law_is_number rfl (takes_of rfl rfl rfl rfl) (e_cons (e_varF (pv 3)) e_nil) (len_cons (fun _ _ _ h => len_nil h)))))
  (s_one (s_ret (e_c pe_bl)))
  s_nil))))))
  (s_one (s_ret (e_c pe_bl)))))
noncomputable def b__law_fixed : List T → SRes := (mRet (mCallB sTuple (mCons (mLc (mItA (fVar 0)) (fN 1) mYes (mCallB sTuple (mCons (fVar 1) mNil)) [1]) mNil)))
noncomputable def m__law_fixed : List T → FRes := mFn 2 false b__law_fixed
set_option maxHeartbeats 4000000 in
theorem ok__law_fixed {w : World} {K : PySem.W.Frag} {mg : Str → Option Value} {base : Heap} (x : Fx K mg) : FnOk PySem.Challenge.pw_minusless_k11_corners_and_levels w K mg base (L2.CX PySem.Challenge.pw_minusless_k11_corners_and_levels w) 1 x.a__law_fixed x.fd__law_fixed ["_law_rows"] (spM ⟨K, mg, none⟩ (["_law_rows"] : List Str).length m__law_fixed) := by
  refine fn_mvX (N := ["_law_rows", "_law_row"]) (m := m__law_fixed) b__law_fixed rfl x.F__law_fixed sc__law_fixed (by decide) fun cdv A outer s H E hr => ?_
  unfold b__law_fixed
  exact (s_one (s_ret (e_callTy (call_tuple_of) (okc_tuple rfl) (by rfl) x.m_tuple (by decide +kernel) (e_cons (e_lc (own := [("_law_row", 1)]) (by decide) (by intro v hv; exact .inr rfl) rfl sc__law_fixed.nd (i_any rfl (e_varF (pv 0))) (blkOk_by (by with_unfolding_all rfl)) (fun _ _ _ _ _ => (g_nameF (.inr rfl) (pg_name (i := 1) sc__law_fixed.nd rfl (by first | exact .inl rfl | exact .inr rfl)))) (fun _ _ _ _ _ => t_yes) (fun _ _ _ _ _ => (e_callTy (call_tuple_of) (okc_tuple rfl) (by rfl) x.m_tuple (by decide +kernel) (e_cons (e_varF (pv 1)) e_nil)))) e_nil))))
noncomputable def b__law_copy : List T → SRes := (mRet (mLc (mItA (fVar 0)) (fN 1) mYes (mCallB sList (mCons (fVar 1) mNil)) [1]))
noncomputable def m__law_copy : List T → FRes := mFn 2 false b__law_copy
set_option maxHeartbeats 4000000 in
theorem ok__law_copy {w : World} {K : PySem.W.Frag} {mg : Str → Option Value} {base : Heap} (x : Fx K mg) : FnOk PySem.Challenge.pw_minusless_k11_corners_and_levels w K mg base (L2.CX PySem.Challenge.pw_minusless_k11_corners_and_levels w) 1 x.a__law_copy x.fd__law_copy ["_law_rows"] (spM ⟨K, mg, none⟩ (["_law_rows"] : List Str).length m__law_copy) := by
  refine fn_mvX (N := ["_law_rows", "_law_row"]) (m := m__law_copy) b__law_copy rfl x.F__law_copy sc__law_copy (by decide) fun cdv A outer s H E hr => ?_
  unfold b__law_copy
  exact (s_one (s_ret (e_lc (own := [("_law_row", 1)]) (by decide) (by intro v hv; exact .inr rfl) rfl sc__law_copy.nd (i_any rfl (e_varF (pv 0))) (blkOk_by (by with_unfolding_all rfl)) (fun _ _ _ _ _ => (g_nameF (.inr rfl) (pg_name (i := 1) sc__law_copy.nd rfl (by first | exact .inl rfl | exact .inr rfl)))) (fun _ _ _ _ _ => t_yes) (fun _ _ _ _ _ => (e_callTy (call_list_of) (okc_list rfl) (by rfl) x.m_list (by decide +kernel) (e_cons (e_varF (pv 1)) e_nil))))))
noncomputable def b__law_next : List T → SRes := (mSeq (mFor (mRg2 (mOp2 sPlus (fVar 1) (mC (.v (.int 1)))) (mLenN 0)) (fN 2)
  (mIf (mBl (mOp2 fNe (mOp2 fIx (fIxN 0 (fVar 2)) (mC (.v (.int 0)))) (mC (.v (.int 0)))))
  (mRetM 2)
  .nx))
  (mRet (mNeg (mC (.v (.int 1))))))
noncomputable def m__law_next : List T → FRes := mFn 3 false b__law_next
set_option maxHeartbeats 4000000 in
theorem ok__law_next {w : World} {K : PySem.W.Frag} {mg : Str → Option Value} {base : Heap} (x : Fx K mg) : FnOk PySem.Challenge.pw_minusless_k11_corners_and_levels w K mg base (L2.CX PySem.Challenge.pw_minusless_k11_corners_and_levels w) 1 x.a__law_next x.fd__law_next ["_law_row", "_law_column"] (spM ⟨K, mg, none⟩ (["_law_row", "_law_column"] : List Str).length m__law_next) := by
  refine fn_mvX (N := ["_law_row", "_law_column", "_law_place"]) (m := m__law_next) b__law_next rfl x.F__law_next sc__law_next (by decide) fun cdv A outer s H E hr => ?_
  unfold b__law_next
  exact (s_cons (s_for (passes_of rfl) rfl (i_rg2 (by rfl) x.m_range (e_op op_plus (MV.ok_plus rfl) (e_varF (pv 1)) (e_c pe_int)) (e_lenN rfl (by rfl) x.m_len (pv 0))) (g_nameF (.inr rfl) (pg_name (i := 2) sc__law_next.nd rfl (by first | exact .inl rfl | exact .inr rfl)))
  (s_one (s_if (t_cmp (op_neD hr.units) (MV.ok_neF rfl) (e_ix ix_seq (MV.ok_ixF rfl) (e_ixNF rfl (pv 0) (e_varF (pv 2)) (fun _ _ => rfl)) (e_c pe_int) (fun _ _ => rfl)) (e_c pe_int) (nomark _))
  (s_one (s_retM (pv 2)))
  s_nil)))
  (s_one (s_ret (e_neg (e_c pe_int)))))
noncomputable def b__law_unmade_row : List T → SRes := (mSeq (mAsg (mLst mNil) (fN 6))
  (mSeq (mFor (mRg1 (mLenN 0)) (fN 2)
  (mSeq (mAsg (mCall m__law_next (mCons (fVar 1) (mCons (fVar 2) mNil))) (fN 3))
  (mSeq (mAsg (fIxN 0 (fVar 2)) (fN 4))
  (mSeq (mIf (mAnd (mBl (mOp2 fNe (mOp2 fIx (fIxN 1 (fVar 2)) (mC (.v (.int 0)))) (mC (.v (.int 0))))) (mBl (mOp2 sGe (fVar 3) (mC (.v (.int 0))))))
  (mSeq (mAsg (mCall m__law_over (mCons (fIxN 1 (fVar 2)) (mCons (fIxN 1 (fVar 3)) mNil))) (fN 5))
  (mAsg (mCall m__law_less (mCons (fVar 4) (mCons (mCall m__law_times (mCons (fVar 5) (mCons (fIxN 0 (fVar 3)) mNil))) mNil))) (fN 4)))
  .nx)
  (mEx (mAppN 6 (fVar 4)))))))
  (mRetM 6)))
noncomputable def m__law_unmade_row : List T → FRes := mFn 7 false b__law_unmade_row
set_option maxHeartbeats 4000000 in
theorem ok__law_unmade_row {w : World} {K : PySem.W.Frag} {mg : Str → Option Value} {base : Heap} (x : Fx K mg) : FnOk PySem.Challenge.pw_minusless_k11_corners_and_levels w K mg base (L2.CX PySem.Challenge.pw_minusless_k11_corners_and_levels w) 3 x.a__law_unmade_row x.fd__law_unmade_row ["_law_row", "_law_by"] (spM ⟨K, mg, none⟩ (["_law_row", "_law_by"] : List Str).length m__law_unmade_row) := by
  refine fn_mvX (N := ["_law_row", "_law_by", "_law_column", "_law_place", "_law_number", "_law_share", "_law_told"]) (m := m__law_unmade_row) b__law_unmade_row rfl x.F__law_unmade_row sc__law_unmade_row (by decide) fun cdv A outer s H E hr => ?_
  unfold b__law_unmade_row
  exact (s_cons (s_setF (i := 6) (.inr rfl) sc__law_unmade_row.nd rfl (by first | exact .inl rfl | exact .inr rfl) (e_lst e_nil))
  (s_cons (s_for (passes_of rfl) rfl (i_rg1 (by rfl) x.m_range (e_lenN rfl (by rfl) x.m_len (pv 0))) (g_nameF (.inr rfl) (pg_name (i := 2) sc__law_unmade_row.nd rfl (by first | exact .inl rfl | exact .inr rfl)))
  (s_cons (s_setF (i := 3) (.inr rfl) sc__law_unmade_row.nd rfl (by first | exact .inl rfl | exact .inr rfl) (e_call (ok__law_next x) (hr.mono (by decide)) (by rfl) x.g__law_next x.F__law_next.kp x.b__law_next rfl (takes_of rfl rfl rfl rfl) (e_cons (e_varF (pv 1)) (e_cons (e_varF (pv 2)) e_nil)) (len_cons (len_cons (fun _ _ _ h => len_nil h)))))
  (s_cons (s_setF (i := 4) (.inr rfl) sc__law_unmade_row.nd rfl (by first | exact .inl rfl | exact .inr rfl) (e_ixNF rfl (pv 0) (e_varF (pv 2)) (fun _ _ => rfl)))
  (s_cons (s_if (t_and (t_cmp (op_neD hr.units) (MV.ok_neF rfl) (e_ix ix_seq (MV.ok_ixF rfl) (e_ixNF rfl (pv 1) (e_varF (pv 2)) (fun _ _ => rfl)) (e_c pe_int) (fun _ _ => rfl)) (e_c pe_int) (nomark _)) (t_and1 (t_cmp op_ge MV.ok_ge (e_varF (pv 3)) (e_c pe_int) (nomark _)))).pt
  (s_cons (s_setF (i := 5) (.inr rfl) sc__law_unmade_row.nd rfl (by first | exact .inl rfl | exact .inr rfl) (e_call (ok__law_over x) (hr.mono (by decide)) (by rfl) x.g__law_over x.F__law_over.kp x.b__law_over rfl (takes_of rfl rfl rfl rfl) (e_cons (e_ixNF rfl (pv 1) (e_varF (pv 2)) (fun _ _ => rfl)) (e_cons (e_ixNF rfl (pv 1) (e_varF (pv 3)) (fun _ _ => rfl)) e_nil)) (len_cons (len_cons (fun _ _ _ h => len_nil h)))))
  (s_one (s_setF (i := 4) (.inr rfl) sc__law_unmade_row.nd rfl (by first | exact .inl rfl | exact .inr rfl) (e_call (ok__law_less x) (hr.mono (by decide)) (by rfl) x.g__law_less x.F__law_less.kp x.b__law_less rfl (takes_of rfl rfl rfl rfl) (e_cons (e_varF (pv 4)) (e_cons (e_call (ok__law_times x) (hr.mono (by decide)) (by rfl) x.g__law_times x.F__law_times.kp x.b__law_times rfl (takes_of rfl rfl rfl rfl) (e_cons (e_varF (pv 5)) (e_cons (e_ixNF rfl (pv 0) (e_varF (pv 3)) (fun _ _ => rfl)) e_nil)) (len_cons (len_cons (fun _ _ _ h => len_nil h)))) e_nil)) (len_cons (len_cons (fun _ _ _ h => len_nil h)))))))
  s_nil)
  (s_one (s_expr (e_appN (pv 6) (e_varF (pv 4)))))))))
  (s_one (s_retM (pv 6)))))
noncomputable def b__law_unmade : List T → SRes := (mSeq (mAsg (mCall m__law_copy (mCons (fVar 0) mNil)) (fN 1))
  (mSeq (mFor (mRg1 (mOp2 sSub (mLenN 1) (mC (.v (.int 1))))) (fN 4)
  (mSeq (mAsg (mOp2 sSub (mOp2 sSub (mLenN 1) (mC (.v (.int 1)))) (fVar 4)) (fN 3))
  (mFor (mRg1 (fVar 3)) (fN 2)
  (mSetN 1 (fVar 2) (mCall m__law_unmade_row (mCons (fIxN 1 (fVar 2)) (mCons (fIxN 1 (fVar 3)) mNil)))))))
  (mRetM 1)))
noncomputable def m__law_unmade : List T → FRes := mFn 5 false b__law_unmade
set_option maxHeartbeats 4000000 in
theorem ok__law_unmade {w : World} {K : PySem.W.Frag} {mg : Str → Option Value} {base : Heap} (x : Fx K mg) : FnOk PySem.Challenge.pw_minusless_k11_corners_and_levels w K mg base (L2.CX PySem.Challenge.pw_minusless_k11_corners_and_levels w) 4 x.a__law_unmade x.fd__law_unmade ["_law_rows"] (spM ⟨K, mg, none⟩ (["_law_rows"] : List Str).length m__law_unmade) := by
  refine fn_mvX (N := ["_law_rows", "_law_work", "_law_r", "_law_at", "_law_turn"]) (m := m__law_unmade) b__law_unmade rfl x.F__law_unmade sc__law_unmade (by decide) fun cdv A outer s H E hr => ?_
  unfold b__law_unmade
  exact (s_cons (s_setF (i := 1) (.inr rfl) sc__law_unmade.nd rfl (by first | exact .inl rfl | exact .inr rfl) (e_call (ok__law_copy x) (hr.mono (by decide)) (by rfl) x.g__law_copy x.F__law_copy.kp x.b__law_copy rfl (takes_of rfl rfl rfl rfl) (e_cons (e_varF (pv 0)) e_nil) (len_cons (fun _ _ _ h => len_nil h))))
  (s_cons (s_for (passes_of rfl) rfl (i_rg1 (by rfl) x.m_range (e_op op_sub MV.ok_sub (e_lenN rfl (by rfl) x.m_len (pv 1)) (e_c pe_int))) (g_nameF (.inr rfl) (pg_name (i := 4) sc__law_unmade.nd rfl (by first | exact .inl rfl | exact .inr rfl)))
  (s_cons (s_setF (i := 3) (.inr rfl) sc__law_unmade.nd rfl (by first | exact .inl rfl | exact .inr rfl) (e_op op_sub MV.ok_sub (e_op op_sub MV.ok_sub (e_lenN rfl (by rfl) x.m_len (pv 1)) (e_c pe_int)) (e_varF (pv 4))))
  (s_one (s_for (passes_of rfl) rfl (i_rg1 (by rfl) x.m_range (e_varF (pv 3))) (g_nameF (.inr rfl) (pg_name (i := 2) sc__law_unmade.nd rfl (by first | exact .inl rfl | exact .inr rfl)))
  (s_one (s_setN (e_call (ok__law_unmade_row x) (hr.mono (by decide)) (by rfl) x.g__law_unmade_row x.F__law_unmade_row.kp x.b__law_unmade_row rfl (takes_of rfl rfl rfl rfl) (e_cons (e_ixNF rfl (pv 1) (e_varF (pv 2)) (fun _ _ => rfl)) (e_cons (e_ixNF rfl (pv 1) (e_varF (pv 3)) (fun _ _ => rfl)) e_nil)) (len_cons (len_cons (fun _ _ _ h => len_nil h)))) (pv 1) (e_varF (pv 2))))))))
  (s_one (s_retM (pv 1)))))
noncomputable def b__law_level : List T → SRes := (mSeq (mAsg (mCall m__law_copy (mCons (fVar 0) mNil)) (fN 2))
  (mSeq (mFor (mRg1 (mOp2 sSub (mOp2 sSub (mLenN 2) (mC (.v (.int 1)))) (fVar 1))) (fN 5)
  (mSeq (mAsg (mOp2 sSub (mOp2 sSub (mLenN 2) (mC (.v (.int 1)))) (fVar 5)) (fN 4))
  (mFor (mRg1 (fVar 4)) (fN 3)
  (mSetN 2 (fVar 3) (mCall m__law_unmade_row (mCons (fIxN 2 (fVar 3)) (mCons (fIxN 2 (fVar 4)) mNil)))))))
  (mRet (mSlN none (some (mOp2 sPlus (fVar 1) (mC (.v (.int 1))))) 2))))
noncomputable def m__law_level : List T → FRes := mFn 6 false b__law_level
set_option maxHeartbeats 4000000 in
theorem ok__law_level {w : World} {K : PySem.W.Frag} {mg : Str → Option Value} {base : Heap} (x : Fx K mg) : FnOk PySem.Challenge.pw_minusless_k11_corners_and_levels w K mg base (L2.CX PySem.Challenge.pw_minusless_k11_corners_and_levels w) 4 x.a__law_level x.fd__law_level ["_law_rows", "_law_last"] (spM ⟨K, mg, none⟩ (["_law_rows", "_law_last"] : List Str).length m__law_level) := by
  refine fn_mvX (N := ["_law_rows", "_law_last", "_law_work", "_law_r", "_law_at", "_law_turn"]) (m := m__law_level) b__law_level rfl x.F__law_level sc__law_level (by decide) fun cdv A outer s H E hr => ?_
  unfold b__law_level
  exact (s_cons (s_setF (i := 2) (.inr rfl) sc__law_level.nd rfl (by first | exact .inl rfl | exact .inr rfl) (e_call (ok__law_copy x) (hr.mono (by decide)) (by rfl) x.g__law_copy x.F__law_copy.kp x.b__law_copy rfl (takes_of rfl rfl rfl rfl) (e_cons (e_varF (pv 0)) e_nil) (len_cons (fun _ _ _ h => len_nil h))))
  (s_cons (s_for (passes_of rfl) rfl (i_rg1 (by rfl) x.m_range (e_op op_sub MV.ok_sub (e_op op_sub MV.ok_sub (e_lenN rfl (by rfl) x.m_len (pv 2)) (e_c pe_int)) (e_varF (pv 1)))) (g_nameF (.inr rfl) (pg_name (i := 5) sc__law_level.nd rfl (by first | exact .inl rfl | exact .inr rfl)))
  (s_cons (s_setF (i := 4) (.inr rfl) sc__law_level.nd rfl (by first | exact .inl rfl | exact .inr rfl) (e_op op_sub MV.ok_sub (e_op op_sub MV.ok_sub (e_lenN rfl (by rfl) x.m_len (pv 2)) (e_c pe_int)) (e_varF (pv 5))))
  (s_one (s_for (passes_of rfl) rfl (i_rg1 (by rfl) x.m_range (e_varF (pv 4))) (g_nameF (.inr rfl) (pg_name (i := 3) sc__law_level.nd rfl (by first | exact .inl rfl | exact .inr rfl)))
  (s_one (s_setN (e_call (ok__law_unmade_row x) (hr.mono (by decide)) (by rfl) x.g__law_unmade_row x.F__law_unmade_row.kp x.b__law_unmade_row rfl (takes_of rfl rfl rfl rfl) (e_cons (e_ixNF rfl (pv 2) (e_varF (pv 3)) (fun _ _ => rfl)) (e_cons (e_ixNF rfl (pv 2) (e_varF (pv 4)) (fun _ _ => rfl)) e_nil)) (len_cons (len_cons (fun _ _ _ h => len_nil h)))) (pv 2) (e_varF (pv 3))))))))
  (s_one (s_ret (e_slN rfl (pv 2) o_none (o_some (e_op op_plus (MV.ok_plus rfl) (e_varF (pv 1)) (e_c pe_int))))))))
noncomputable def b__law_any : List T → SRes := (mRet (mCall m__law_pair (mCons (mOp2 sSub (mLend 0 m__law_take (mCons (mC (.v (.int 8))) mNil)) (mC (.v (.int 3)))) (mCons (mOp2 sPlus (mC (.v (.int 1))) (mLend 0 m__law_take (mCons (mC (.v (.int 3))) mNil))) mNil))))
noncomputable def m__law_any : List T → FRes := mFn 1 true b__law_any
set_option maxHeartbeats 4000000 in
theorem ok__law_any {w : World} {K : PySem.W.Frag} {mg : Str → Option Value} {base : Heap} (x : Fx K mg) : FnOk PySem.Challenge.pw_minusless_k11_corners_and_levels w K mg base (L2.CX PySem.Challenge.pw_minusless_k11_corners_and_levels w) 2 x.a__law_any x.fd__law_any ["_law_draws_here"] (spM ⟨K, mg, none⟩ (["_law_draws_here"] : List Str).length m__law_any) := by
  refine fn_mvBX (N := ["_law_draws_here"]) (m := m__law_any) b__law_any rfl x.F__law_any sc__law_any (by decide) (by decide) fun cdv A outer s H E v0 hr => ?_
  unfold b__law_any
  exact (s_one (s_ret (e_call (ok__law_pair x) (hr.mono (by decide)) (by rfl) x.g__law_pair x.F__law_pair.kp x.b__law_pair rfl (takes_of rfl rfl rfl rfl) (e_cons (e_op op_sub MV.ok_sub (e_lend (ok__law_take x) (hr.mono (by decide)) (by rfl) x.g__law_take x.F__law_take.kp x.b__law_take rfl (takes_of rfl rfl rfl rfl) (pv 0) (e_cons (e_c pe_int) e_nil) (fun σ ts σ1 h => congrArg (· + 1) ((len_cons (fun _ _ _ h => len_nil h)) σ ts σ1 h))) (e_c pe_int)) (e_cons (e_op op_plus (MV.ok_plus rfl) (e_c pe_int) (e_lend (ok__law_take x) (hr.mono (by decide)) (by rfl) x.g__law_take x.F__law_take.kp x.b__law_take rfl (takes_of rfl rfl rfl rfl) (pv 0) (e_cons (e_c pe_int) e_nil) (fun σ ts σ1 h => congrArg (· + 1) ((len_cons (fun _ _ _ h => len_nil h)) σ ts σ1 h)))) e_nil)) (len_cons (len_cons (fun _ _ _ h => len_nil h))))))
noncomputable def b__law_size : List T → SRes := (mRet (mOp2 sPlus (mC (.v (.int 1))) (mOp2 sMod (mCallB sInt (mCons (mOp2 fIx (mLst (mCons (mC (.v (.int 2))) (mCons (mC (.v (.int 1))) (mCons (mC (.v (.int 2))) (mCons (mC (.v (.int 0))) (mCons (mC (.v (.int 3))) (mCons (mC (.v (.int 1))) mNil))))))) (mLend 0 m__law_take (mCons (mC (.v (.int 6))) mNil))) mNil)) (fVar 1))))
noncomputable def m__law_size : List T → FRes := mFn 2 true b__law_size
set_option maxHeartbeats 4000000 in
theorem ok__law_size {w : World} {K : PySem.W.Frag} {mg : Str → Option Value} {base : Heap} (x : Fx K mg) : FnOk PySem.Challenge.pw_minusless_k11_corners_and_levels w K mg base (L2.CX PySem.Challenge.pw_minusless_k11_corners_and_levels w) 2 x.a__law_size x.fd__law_size ["_law_draws_here", "_law_most"] (spM ⟨K, mg, none⟩ (["_law_draws_here", "_law_most"] : List Str).length m__law_size) := by
  refine fn_mvBX (N := ["_law_draws_here", "_law_most"]) (m := m__law_size) b__law_size rfl x.F__law_size sc__law_size (by decide) (by decide) fun cdv A outer s H E v0 hr => ?_
  unfold b__law_size
  exact (s_one (s_ret (e_op op_plus (MV.ok_plus rfl) (e_c pe_int) (e_op op_mod MV.ok_mod (e_callTy (call_int1) (okc_int) (by rfl) x.m_int (by decide +kernel) (e_cons (e_ix ix_seq (MV.ok_ixF rfl) (e_lst (e_cons (e_c pe_int) (e_cons (e_c pe_int) (e_cons (e_c pe_int) (e_cons (e_c pe_int) (e_cons (e_c pe_int) (e_cons (e_c pe_int) e_nil))))))) (e_lend (ok__law_take x) (hr.mono (by decide)) (by rfl) x.g__law_take x.F__law_take.kp x.b__law_take rfl (takes_of rfl rfl rfl rfl) (pv 0) (e_cons (e_c pe_int) e_nil) (fun σ ts σ1 h => congrArg (· + 1) ((len_cons (fun _ _ _ h => len_nil h)) σ ts σ1 h))) (fun _ _ => rfl)) e_nil)) (e_varF (pv 1))))))
noncomputable def b__law_signed : List T → SRes := (mSeq (mAsg (mLend 0 m__law_take (mCons (mC (.v (.int 12))) mNil)) (fN 1))
  (mSeq (mIf (mBl (mOp2 sLt (fVar 1) (mC (.v (.int 4)))))
  (mRet (mTup (mCons (mC (.v (.int 0))) (mCons (mC (.v (.int 1))) mNil))))
  .nx)
  (mSeq (mIf (mBl (mOp2 fEq (fVar 1) (mC (.v (.int 11)))))
  (mRet (mCall m__law_pair (mCons (mOp2 sPlus (mOp2 sPow (mC (.v (.int 10))) (mC (.v (.int 15)))) (mLend 0 m__law_take (mCons (mC (.v (.int 60))) mNil))) (mCons (mC (.v (.int 7))) mNil))))
  .nx)
  (mRet (mLend 0 m__law_any mNil)))))
noncomputable def m__law_signed : List T → FRes := mFn 2 true b__law_signed
set_option maxHeartbeats 4000000 in
theorem ok__law_signed {w : World} {K : PySem.W.Frag} {mg : Str → Option Value} {base : Heap} (x : Fx K mg) : FnOk PySem.Challenge.pw_minusless_k11_corners_and_levels w K mg base (L2.CX PySem.Challenge.pw_minusless_k11_corners_and_levels w) 3 x.a__law_signed x.fd__law_signed ["_law_draws_here"] (spM ⟨K, mg, none⟩ (["_law_draws_here"] : List Str).length m__law_signed) := by
  refine fn_mvBX (N := ["_law_draws_here", "_law_word"]) (m := m__law_signed) b__law_signed rfl x.F__law_signed sc__law_signed (by decide) (by decide) fun cdv A outer s H E v0 hr => ?_
  unfold b__law_signed
  exact (s_cons (s_setF (i := 1) (.inl (by decide)) sc__law_signed.nd rfl (by first | exact .inl rfl | exact .inr rfl) (e_lend (ok__law_take x) (hr.mono (by decide)) (by rfl) x.g__law_take x.F__law_take.kp x.b__law_take rfl (takes_of rfl rfl rfl rfl) (pv 0) (e_cons (e_c pe_int) e_nil) (fun σ ts σ1 h => congrArg (· + 1) ((len_cons (fun _ _ _ h => len_nil h)) σ ts σ1 h))))
  (s_cons (s_if (t_cmp op_lt MV.ok_lt (e_varF (pv 1)) (e_c pe_int) (nomark _))
  (s_one (s_ret (e_tup (e_cons (e_c pe_int) (e_cons (e_c pe_int) e_nil)))))
  s_nil)
  (s_cons (s_if (t_cmp (op_eqD hr.units) (MV.ok_eqF rfl) (e_varF (pv 1)) (e_c pe_int) (nomark _))
  (s_one (s_ret (e_call (ok__law_pair x) (hr.mono (by decide)) (by rfl) x.g__law_pair x.F__law_pair.kp x.b__law_pair rfl (takes_of rfl rfl rfl rfl) (e_cons (e_op op_plus (MV.ok_plus rfl) (e_op op_pow MV.ok_pow (e_c pe_int) (e_c pe_int)) (e_lend (ok__law_take x) (hr.mono (by decide)) (by rfl) x.g__law_take x.F__law_take.kp x.b__law_take rfl (takes_of rfl rfl rfl rfl) (pv 0) (e_cons (e_c pe_int) e_nil) (fun σ ts σ1 h => congrArg (· + 1) ((len_cons (fun _ _ _ h => len_nil h)) σ ts σ1 h)))) (e_cons (e_c pe_int) e_nil)) (len_cons (len_cons (fun _ _ _ h => len_nil h))))))
  s_nil)
  (s_one (s_ret (e_lend (ok__law_any x) (hr.mono (by decide)) (by rfl) x.g__law_any x.F__law_any.kp x.b__law_any rfl (takes_of rfl rfl rfl rfl) (pv 0) e_nil (fun σ ts σ1 h => congrArg (· + 1) ((fun _ _ _ h => len_nil h) σ ts σ1 h))))))))
noncomputable def b__law_same : List T → SRes := (mSeq (mIf (mOr (mNot (mTru (mIsO "Table" (fVar 0)))) (mNot (mTru (mCall m__law_is_rows (mCons (mFldN "Table" "rows" 0) (mCons (mLenN 1) (mCons (mCallB sLen (mCons (fIxN 1 (mC (.v (.int 0)))) mNil)) mNil)))))))
  (mRet (mC (.v (.bl false))))
  .nx)
  (mRet (mAndV (mOp2 fEq (mFldN "Table" "rows" 0) (mCall m__law_fixed (mCons (fVar 1) mNil))) (mAndV (mOp2 fEq (mFldN "Table" "high" 0) (mLenN 1)) (mOp2 fEq (mFldN "Table" "wide" 0) (mCallB sLen (mCons (fIxN 1 (mC (.v (.int 0)))) mNil)))))))
noncomputable def m__law_same : List T → FRes := mFn 2 false b__law_same
set_option maxHeartbeats 4000000 in
theorem ok__law_same {w : World} {K : PySem.W.Frag} {mg : Str → Option Value} {base : Heap} (x : Fx K mg) : FnOk PySem.Challenge.pw_minusless_k11_corners_and_levels w K mg base (L2.CX PySem.Challenge.pw_minusless_k11_corners_and_levels w) 4 x.a__law_same x.fd__law_same ["_law_told", "_law_due"] (spM ⟨K, mg, none⟩ (["_law_told", "_law_due"] : List Str).length m__law_same) := by
  refine fn_mvX (N := ["_law_told", "_law_due"]) (m := m__law_same) b__law_same rfl x.F__law_same sc__law_same (by decide) fun cdv A outer s H E hr => ?_
  unfold b__law_same
  exact (s_cons (s_if (t_or (t_not (t_val rfl (e_isO (by decide) x.O_Table rfl (by rfl) (by rfl) x.m_isinstance (e_varF (pv 0))))) (t_or1 (t_not (t_val rfl (e_call (ok__law_is_rows x) (hr.mono (by decide)) (by rfl) x.g__law_is_rows x.F__law_is_rows.kp x.b__law_is_rows rfl (takes_of rfl rfl rfl rfl) (e_cons (e_fldN x.O_Table rfl (by decide) (pv 0)) (e_cons (e_lenN rfl (by rfl) x.m_len (pv 1)) (e_cons (e_callB (call_len) (okc_len rfl) (by rfl) x.m_len (by decide +kernel) (e_cons (e_ixNF rfl (pv 1) (e_c pe_int) (fun _ _ => rfl)) e_nil)) e_nil))) (len_cons (len_cons (len_cons (fun _ _ _ h => len_nil h))))))))).pt
  (s_one (s_ret (e_c pe_bl)))
  s_nil)
  (s_one (s_ret (e_and (e_cmp (op_eqD hr.units) (MV.ok_eqF rfl) (e_fldN x.O_Table rfl (by decide) (pv 0)) (e_call (ok__law_fixed x) (hr.mono (by decide)) (by rfl) x.g__law_fixed x.F__law_fixed.kp x.b__law_fixed rfl (takes_of rfl rfl rfl rfl) (e_cons (e_varF (pv 1)) e_nil) (len_cons (fun _ _ _ h => len_nil h))) (nomark _)) (e_and (e_cmp (op_eqD hr.units) (MV.ok_eqF rfl) (e_fldN x.O_Table rfl (by decide) (pv 0)) (e_lenN rfl (by rfl) x.m_len (pv 1)) (nomark _)) (e_one (e_cmp (op_eqD hr.units) (MV.ok_eqF rfl) (e_fldN x.O_Table rfl (by decide) (pv 0)) (e_callB (call_len) (okc_len rfl) (by rfl) x.m_len (by decide +kernel) (e_cons (e_ixNF rfl (pv 1) (e_c pe_int) (fun _ _ => rfl)) e_nil)) (nomark _))))))))
noncomputable def b__law_no_level : List T → SRes := (mSeq (mAsg (mLst mNil) (fN 2))
  (mSeq (mTry relX (mEx (mCall m_level (mCons (fVar 0) (mCons (fVar 1) mNil))))
  (("BadBox", some 3, (mAsg (mLst (mCons (mXf 3 "BadBox" "row") (mCons (mXf 3 "BadBox" "column") mNil))) (fN 2))) :: []))
  (mSeq (mAsg (mLst mNil) (fN 4))
  (mSeq (mTry relX (mEx (mCall m_core_row (mCons (fVar 0) (mCons (fVar 1) mNil))))
  (("BadBox", some 3, (mAsg (mLst (mCons (mXf 3 "BadBox" "row") (mCons (mXf 3 "BadBox" "column") mNil))) (fN 4))) :: []))
  (mRet (mAndV (mOp2 fEq (fVar 2) (mLst (mCons (fVar 1) (mCons (mNeg (mC (.v (.int 1)))) mNil)))) (mOp2 fEq (fVar 4) (fVar 2))))))))
noncomputable def m__law_no_level : List T → FRes := mFn 5 false b__law_no_level
set_option maxHeartbeats 4000000 in
theorem ok__law_no_level {w : World} {K : PySem.W.Frag} {mg : Str → Option Value} {base : Heap} (x : Fx K mg) : FnOk PySem.Challenge.pw_minusless_k11_corners_and_levels w K mg base (L2.CX PySem.Challenge.pw_minusless_k11_corners_and_levels w) 9 x.a__law_no_level x.fd__law_no_level ["_law_table", "_law_at"] (spM ⟨K, mg, none⟩ (["_law_table", "_law_at"] : List Str).length m__law_no_level) := by
  refine fn_mvX (N := ["_law_table", "_law_at", "_law_told", "raised", "_law_again"]) (m := m__law_no_level) b__law_no_level rfl x.F__law_no_level sc__law_no_level (by decide) fun cdv A outer s H E hr => ?_
  unfold b__law_no_level
  exact (s_cons (s_setF (i := 2) (.inr rfl) sc__law_no_level.nd rfl (by first | exact .inl rfl | exact .inr rfl) (e_lst e_nil))
  (s_cons (s_try rfl (relX_ok x) rfl rfl sc__law_no_level.nd (takes_of rfl rfl rfl rfl) (fun W pn xe tkT psT => (s_one (s_expr (e_call (ok_level x) (hr.mono (by decide)) (by rfl) x.g_level x.F_level.kp x.b_level rfl tkT (e_cons (e_varF (pv 0)) (e_cons (e_varF (pv 1)) e_nil)) (len_cons (len_cons (fun _ _ _ h => len_nil h)))))))
  (MxOk.named (i := 3) (nm_of (by rfl) x.k_BadBox) x.k_BadBox rfl rfl (.inr rfl) (fun _ _ _ _ _ hz hd => (s_one (s_setF (i := 2) (.inr rfl) sc__law_no_level.nd rfl (by first | exact .inl rfl | exact .inr rfl) (e_lst (e_cons (e_xfld x.X_BadBox (by decide) rfl hz hd (pv 3)) (e_cons (e_xfld x.X_BadBox (by decide) rfl hz hd (pv 3)) e_nil))))))
  MxOk.nil))
  (s_cons (s_setF (i := 4) (.inr rfl) sc__law_no_level.nd rfl (by first | exact .inl rfl | exact .inr rfl) (e_lst e_nil))
  (s_cons (s_try rfl (relX_ok x) rfl rfl sc__law_no_level.nd (takes_of rfl rfl rfl rfl) (fun W pn xe tkT psT => (s_one (s_expr (e_call (ok_core_row x) (hr.mono (by decide)) (by rfl) x.g_core_row x.F_core_row.kp x.b_core_row rfl tkT (e_cons (e_varF (pv 0)) (e_cons (e_varF (pv 1)) e_nil)) (len_cons (len_cons (fun _ _ _ h => len_nil h)))))))
  (MxOk.named (i := 3) (nm_of (by rfl) x.k_BadBox) x.k_BadBox rfl rfl (.inr rfl) (fun _ _ _ _ _ hz hd => (s_one (s_setF (i := 4) (.inr rfl) sc__law_no_level.nd rfl (by first | exact .inl rfl | exact .inr rfl) (e_lst (e_cons (e_xfld x.X_BadBox (by decide) rfl hz hd (pv 3)) (e_cons (e_xfld x.X_BadBox (by decide) rfl hz hd (pv 3)) e_nil))))))
  MxOk.nil))
  (s_one (s_ret (e_and (e_cmp (op_eqD hr.units) (MV.ok_eqF rfl) (e_varF (pv 2)) (e_lst (e_cons (e_varF (pv 1)) (e_cons (e_neg (e_c pe_int)) e_nil))) (nomark _)) (e_one (e_cmp (op_eqD hr.units) (MV.ok_eqF rfl) (e_varF (pv 4)) (e_varF (pv 2)) (nomark _))))))))))
noncomputable def b__law_last_round : List T → SRes := (mSeq (mIf (mBl (mOp2 fEq (mLenN 1) (mC (.v (.int 1)))))
  (mSeq (mAsg (mC (.v (.int 0))) (fN 3))
  (mSeq (mTry relX (mEx (mCall m_last_round (mCons (fVar 0) mNil)))
  (("TooMany", some 4, (mAsg (mXf 4 "TooMany" "bound") (fN 3))) :: []))
  (mRet (mOp2 fEq (fVar 3) (mC (.v (.int 1)))))))
  .nx)
  (mSeq (mAsg (mCall m_last_round (mCons (fVar 0) mNil)) (fN 2))
  (mSeq (mIf (mOr (mNot (mTru (mIsi .tup (fVar 2)))) (mOr (mBl (mOp2 fNe (mLenN 2) (mC (.v (.int 2))))) (mNot (mTru (mCall m__law_is_rows (mCons (mTup (mCons (fIxN 2 (mC (.v (.int 1)))) mNil)) (mCons (mC (.v (.int 1))) (mCons (mCallB sLen (mCons (fIxN 1 (mC (.v (.int 0)))) mNil)) mNil))))))))
  (mRet (mC (.v (.bl false))))
  .nx)
  (mRet (mAndV (mOp2 fEq (fIxN 2 (mC (.v (.int 1)))) (mCallB sTuple (mCons (fIxN 1 (mOp2 sSub (mLenN 1) (mC (.v (.int 1))))) mNil))) (mCall m__law_same (mCons (fIxN 2 (mC (.v (.int 0)))) (mCons (mCall m__law_level (mCons (fVar 1) (mCons (mOp2 sSub (mLenN 1) (mC (.v (.int 2)))) mNil))) mNil))))))))
noncomputable def m__law_last_round : List T → FRes := mFn 5 false b__law_last_round
set_option maxHeartbeats 4000000 in
theorem ok__law_last_round {w : World} {K : PySem.W.Frag} {mg : Str → Option Value} {base : Heap} (x : Fx K mg) : FnOk PySem.Challenge.pw_minusless_k11_corners_and_levels w K mg base (L2.CX PySem.Challenge.pw_minusless_k11_corners_and_levels w) 8 x.a__law_last_round x.fd__law_last_round ["_law_table", "_law_rows"] (spM ⟨K, mg, none⟩ (["_law_table", "_law_rows"] : List Str).length m__law_last_round) := by
  refine fn_mvX (N := ["_law_table", "_law_rows", "_law_told", "_law_bound", "raised"]) (m := m__law_last_round) b__law_last_round rfl x.F__law_last_round sc__law_last_round (by decide) fun cdv A outer s H E hr => ?_
  unfold b__law_last_round
  exact (s_cons (s_if (t_cmp (op_eqD hr.units) (MV.ok_eqF rfl) (e_lenN rfl (by rfl) x.m_len (pv 1)) (e_c pe_int) (nomark _))
  (s_cons (s_setF (i := 3) (.inr rfl) sc__law_last_round.nd rfl (by first | exact .inl rfl | exact .inr rfl) (e_c pe_int))
  (s_cons (s_try rfl (relX_ok x) rfl rfl sc__law_last_round.nd (takes_of rfl rfl rfl rfl) (fun W pn xe tkT psT => (s_one (s_expr (e_call (ok_last_round x) (hr.mono (by decide)) (by rfl) x.g_last_round x.F_last_round.kp x.b_last_round rfl tkT (e_cons (e_varF (pv 0)) e_nil) (len_cons (fun _ _ _ h => len_nil h))))))
  (MxOk.named (i := 4) (nm_of (by rfl) x.k_TooMany) x.k_TooMany rfl rfl (.inr rfl) (fun _ _ _ _ _ hz hd => (s_one (s_setF (i := 3) (.inr rfl) sc__law_last_round.nd rfl (by first | exact .inl rfl | exact .inr rfl) (e_xfld x.X_TooMany (by decide) rfl hz hd (pv 4)))))
  MxOk.nil))
  (s_one (s_ret (e_cmp (op_eqD hr.units) (MV.ok_eqF rfl) (e_varF (pv 3)) (e_c pe_int) (nomark _))))))
  s_nil)
  (s_cons (s_setF (i := 2) (.inr rfl) sc__law_last_round.nd rfl (by first | exact .inl rfl | exact .inr rfl) (e_call (ok_last_round x) (hr.mono (by decide)) (by rfl) x.g_last_round x.F_last_round.kp x.b_last_round rfl (takes_of rfl rfl rfl rfl) (e_cons (e_varF (pv 0)) e_nil) (len_cons (fun _ _ _ h => len_nil h))))
  (s_cons (s_if (t_or (t_not (t_val rfl (e_isi .tup rfl (by rfl) x.m_isinstance (e_varF (pv 2)) (pe_bltn (by rfl) x.m_tuple (by decide +kernel) rfl)))) (t_or (t_cmp (op_neD hr.units) (MV.ok_neF rfl) (e_lenN rfl (by rfl) x.m_len (pv 2)) (e_c pe_int) (nomark _)) (t_or1 (t_not (t_val rfl (e_call (ok__law_is_rows x) (hr.mono (by decide)) (by rfl) x.g__law_is_rows x.F__law_is_rows.kp x.b__law_is_rows rfl (takes_of rfl rfl rfl rfl) (e_cons (e_tup (e_cons (e_ixNF rfl (pv 2) (e_c pe_int) (fun _ _ => rfl)) e_nil)) (e_cons (e_c pe_int) (e_cons (e_callB (call_len) (okc_len rfl) (by rfl) x.m_len (by decide +kernel) (e_cons (e_ixNF rfl (pv 1) (e_c pe_int) (fun _ _ => rfl)) e_nil)) e_nil))) (len_cons (len_cons (len_cons (fun _ _ _ h => len_nil h)))))))))).pt
  (s_one (s_ret (e_c pe_bl)))
  s_nil)
  (s_one (s_ret (e_and (e_cmp (op_eqD hr.units) (MV.ok_eqF rfl) (e_ixNF rfl (pv 2) (e_c pe_int) (fun _ _ => rfl)) (e_callTy (call_tuple_of) (okc_tuple rfl) (by rfl) x.m_tuple (by decide +kernel) (e_cons (e_ixNF rfl (pv 1) (e_op op_sub MV.ok_sub (e_lenN rfl (by rfl) x.m_len (pv 1)) (e_c pe_int)) (fun _ _ => rfl)) e_nil)) (nomark _)) (e_one (e_call (ok__law_same x) (hr.mono (by decide)) (by rfl) x.g__law_same x.F__law_same.kp x.b__law_same rfl (takes_of rfl rfl rfl rfl) (e_cons (e_ixNF rfl (pv 2) (e_c pe_int) (fun _ _ => rfl)) (e_cons (e_call (ok__law_level x) (hr.mono (by decide)) (by rfl) x.g__law_level x.F__law_level.kp x.b__law_level rfl (takes_of rfl rfl rfl rfl) (e_cons (e_varF (pv 1)) (e_cons (e_op op_sub MV.ok_sub (e_lenN rfl (by rfl) x.m_len (pv 1)) (e_c pe_int)) e_nil)) (len_cons (len_cons (fun _ _ _ h => len_nil h)))) e_nil)) (len_cons (len_cons (fun _ _ _ h => len_nil h)))))))))))
noncomputable def b__law_levels : List T → SRes := (mSeq (mFor (mRg1 (mLenN 1)) (fN 3)
  (mSeq (mAsg (mCall m__law_level (mCons (fVar 1) (mCons (fVar 3) mNil))) (fN 4))
  (mSeq (mAsg (mCall m_level (mCons (fVar 0) (mCons (fVar 3) mNil))) (fN 5))
  (mSeq (mIf (mOr (mNot (mTru (mCall m__law_same (mCons (fVar 5) (mCons (fVar 4) mNil))))) (mNot (mTru (mCall m__law_last_round (mCons (fVar 5) (mCons (fVar 4) mNil))))))
  (mRet (mC (.v (.bl false))))
  .nx)
  (mSeq (mAsg (mCall m_core_row (mCons (fVar 0) (mCons (fVar 3) mNil))) (fN 6))
  (mIf (mOr (mNot (mTru (mCall m__law_is_rows (mCons (mTup (mCons (fVar 6) mNil)) (mCons (mC (.v (.int 1))) (mCons (mCallB sLen (mCons (fIxN 2 (mC (.v (.int 0)))) mNil)) mNil)))))) (mBl (mOp2 fNe (fVar 6) (mCallB sTuple (mCons (fIxN 2 (fVar 3)) mNil)))))
  (mRet (mC (.v (.bl false))))
  .nx))))))
  (mRet (mC (.v (.bl true)))))
noncomputable def m__law_levels : List T → FRes := mFn 7 false b__law_levels
set_option maxHeartbeats 4000000 in
theorem ok__law_levels {w : World} {K : PySem.W.Frag} {mg : Str → Option Value} {base : Heap} (x : Fx K mg) : FnOk PySem.Challenge.pw_minusless_k11_corners_and_levels w K mg base (L2.CX PySem.Challenge.pw_minusless_k11_corners_and_levels w) 9 x.a__law_levels x.fd__law_levels ["_law_table", "_law_rows", "_law_core"] (spM ⟨K, mg, none⟩ (["_law_table", "_law_rows", "_law_core"] : List Str).length m__law_levels) := by
  refine fn_mvX (N := ["_law_table", "_law_rows", "_law_core", "_law_at", "_law_own", "_law_told", "_law_row"]) (m := m__law_levels) b__law_levels rfl x.F__law_levels sc__law_levels (by decide) fun cdv A outer s H E hr => ?_
  unfold b__law_levels
  exact (s_cons (s_for (passes_of rfl) rfl (i_rg1 (by rfl) x.m_range (e_lenN rfl (by rfl) x.m_len (pv 1))) (g_nameF (.inr rfl) (pg_name (i := 3) sc__law_levels.nd rfl (by first | exact .inl rfl | exact .inr rfl)))
  (s_cons (s_setF (i := 4) (.inr rfl) sc__law_levels.nd rfl (by first | exact .inl rfl | exact .inr rfl) (e_call (ok__law_level x) (hr.mono (by decide)) (by rfl) x.g__law_level x.F__law_level.kp x.b__law_level rfl (takes_of rfl rfl rfl rfl) (e_cons (e_varF (pv 1)) (e_cons (e_varF (pv 3)) e_nil)) (len_cons (len_cons (fun _ _ _ h => len_nil h)))))
  (s_cons (s_setF (i := 5) (.inr rfl) sc__law_levels.nd rfl (by first | exact .inl rfl | exact .inr rfl) (e_call (ok_level x) (hr.mono (by decide)) (by rfl) x.g_level x.F_level.kp x.b_level rfl (takes_of rfl rfl rfl rfl) (e_cons (e_varF (pv 0)) (e_cons (e_varF (pv 3)) e_nil)) (len_cons (len_cons (fun _ _ _ h => len_nil h)))))
  (s_cons (s_if (t_or (t_not (t_val rfl (e_call (ok__law_same x) (hr.mono (by decide)) (by rfl) x.g__law_same x.F__law_same.kp x.b__law_same rfl (takes_of rfl rfl rfl rfl) (e_cons (e_varF (pv 5)) (e_cons (e_varF (pv 4)) e_nil)) (len_cons (len_cons (fun _ _ _ h => len_nil h)))))) (t_or1 (t_not (t_val rfl (e_call (ok__law_last_round x) (hr.mono (by decide)) (by rfl) x.g__law_last_round x.F__law_last_round.kp x.b__law_last_round rfl (takes_of rfl rfl rfl rfl) (e_cons (e_varF (pv 5)) (e_cons (e_varF (pv 4)) e_nil)) (len_cons (len_cons (fun _ _ _ h => len_nil h)))))))).pt
  (s_one (s_ret (e_c pe_bl)))
  s_nil)
  (s_cons (s_setF (i := 6) (.inr rfl) sc__law_levels.nd rfl (by first | exact .inl rfl | exact .inr rfl) (e_call (ok_core_row x) (hr.mono (by decide)) (by rfl) x.g_core_row x.F_core_row.kp x.b_core_row rfl (takes_of rfl rfl rfl rfl) (e_cons (e_varF (pv 0)) (e_cons (e_varF (pv 3)) e_nil)) (len_cons (len_cons (fun _ _ _ h => len_nil h)))))
  (s_one (s_if (t_or (t_not (t_val rfl (e_call (ok__law_is_rows x) (hr.mono (by decide)) (by rfl) x.g__law_is_rows x.F__law_is_rows.kp x.b__law_is_rows rfl (takes_of rfl rfl rfl rfl) (e_cons (e_tup (e_cons (e_varF (pv 6)) e_nil)) (e_cons (e_c pe_int) (e_cons (e_callB (call_len) (okc_len rfl) (by rfl) x.m_len (by decide +kernel) (e_cons (e_ixNF rfl (pv 2) (e_c pe_int) (fun _ _ => rfl)) e_nil)) e_nil))) (len_cons (len_cons (len_cons (fun _ _ _ h => len_nil h))))))) (t_or1 (t_cmp (op_neD hr.units) (MV.ok_neF rfl) (e_varF (pv 6)) (e_callTy (call_tuple_of) (okc_tuple rfl) (by rfl) x.m_tuple (by decide +kernel) (e_cons (e_ixNF rfl (pv 2) (e_varF (pv 3)) (fun _ _ => rfl)) e_nil)) (nomark _)))).pt
  (s_one (s_ret (e_c pe_bl)))
  s_nil)))))))
  (s_one (s_ret (e_c pe_bl))))
noncomputable def b__law_corners : List T → SRes := (mSeq (mAsg (mCall m_unmade (mCons (fVar 0) mNil)) (fN 6))
  (mSeq (mIf (mNot (mTru (mCall m__law_same (mCons (fVar 6) (mCons (fVar 1) mNil)))))
  (mRet (mC (.v (.bl false))))
  .nx)
  (mSeq (mFor (mRg1 (mLenN 1)) (fN 4)
  (mFor (mRg1 (mCallB sLen (mCons (fIxN 1 (mC (.v (.int 0)))) mNil))) (fN 3)
  (mSeq (mAsg (mLc (mItA (mSlN (some (fVar 4)) none 1)) (fN 2) mYes (mSlN (some (fVar 3)) none 2) [2]) (wN 5))
  (mIf (mOr (mNot (mTru (mCall m__law_same (mCons (mCall m_unmade (mCons (mMeth "Table" "corner" m_Table_corner (fVar 0) (mCons (fVar 4) (mCons (fVar 3) mNil))) mNil)) (mCons (fVar 5) mNil))))) (mNot (mTru (mCall m__law_same (mCons (mMeth "Table" "corner" m_Table_corner (fVar 6) (mCons (fVar 4) (mCons (fVar 3) mNil))) (mCons (fVar 5) mNil))))))
  (mRet (mC (.v (.bl false))))
  .nx))))
  (mRet (mC (.v (.bl true)))))))
noncomputable def m__law_corners : List T → FRes := mFn 7 false b__law_corners
set_option maxHeartbeats 4000000 in
theorem ok__law_corners {w : World} {K : PySem.W.Frag} {mg : Str → Option Value} {base : Heap} (x : Fx K mg) : FnOk PySem.Challenge.pw_minusless_k11_corners_and_levels w K mg base (L2.CX PySem.Challenge.pw_minusless_k11_corners_and_levels w) 8 x.a__law_corners x.fd__law_corners ["_law_table", "_law_core"] (spM ⟨K, mg, none⟩ (["_law_table", "_law_core"] : List Str).length m__law_corners) := by
  refine fn_mvX (N := ["_law_table", "_law_core", "_law_line", "_law_c", "_law_r", "_law_due", "_law_whole"]) (m := m__law_corners) b__law_corners rfl x.F__law_corners sc__law_corners (by decide) fun cdv A outer s H E hr => ?_
  unfold b__law_corners
  exact (s_cons (s_setF (i := 6) (.inr rfl) sc__law_corners.nd rfl (by first | exact .inl rfl | exact .inr rfl) (e_call (ok_unmade x) (hr.mono (by decide)) (by rfl) x.g_unmade x.F_unmade.kp x.b_unmade rfl (takes_of rfl rfl rfl rfl) (e_cons (e_varF (pv 0)) e_nil) (len_cons (fun _ _ _ h => len_nil h))))
  (s_cons (s_if (t_not (t_val rfl (e_call (ok__law_same x) (hr.mono (by decide)) (by rfl) x.g__law_same x.F__law_same.kp x.b__law_same rfl (takes_of rfl rfl rfl rfl) (e_cons (e_varF (pv 6)) (e_cons (e_varF (pv 1)) e_nil)) (len_cons (len_cons (fun _ _ _ h => len_nil h))))))
  (s_one (s_ret (e_c pe_bl)))
  s_nil)
  (s_cons (s_for (passes_of rfl) rfl (i_rg1 (by rfl) x.m_range (e_lenN rfl (by rfl) x.m_len (pv 1))) (g_nameF (.inr rfl) (pg_name (i := 4) sc__law_corners.nd rfl (by first | exact .inl rfl | exact .inr rfl)))
  (s_one (s_for (passes_of rfl) rfl (i_rg1 (by rfl) x.m_range (e_callB (call_len) (okc_len rfl) (by rfl) x.m_len (by decide +kernel) (e_cons (e_ixNF rfl (pv 1) (e_c pe_int) (fun _ _ => rfl)) e_nil))) (g_nameF (.inr rfl) (pg_name (i := 3) sc__law_corners.nd rfl (by first | exact .inl rfl | exact .inr rfl)))
  (s_cons (s_lc (i := 5) (.inr rfl) (own := [("_law_line", 2)]) (by decide) (by intro v hv; exact .inr rfl) rfl sc__law_corners.nd rfl rfl rfl (i_any rfl (e_slN rfl (pv 1) (o_some (e_varF (pv 4))) o_none)) (blkOk_by (by with_unfolding_all rfl)) (fun _ _ _ _ _ => (g_nameF (.inr rfl) (pg_name (i := 2) sc__law_corners.nd rfl (by first | exact .inl rfl | exact .inr rfl)))) (fun _ _ _ _ _ => t_yes) (fun _ _ _ _ _ => (e_slN rfl (pv 2) (o_some (e_varF (pv 3))) o_none)))
  (s_one (s_if (t_or (t_not (t_val rfl (e_call (ok__law_same x) (hr.mono (by decide)) (by rfl) x.g__law_same x.F__law_same.kp x.b__law_same rfl (takes_of rfl rfl rfl rfl) (e_cons (e_call (ok_unmade x) (hr.mono (by decide)) (by rfl) x.g_unmade x.F_unmade.kp x.b_unmade rfl (takes_of rfl rfl rfl rfl) (e_cons (e_meth x.O_Table x.k_Table x.Me_Table_corner (ok_Table_corner x) (hr.mono (by decide)) x.b_Table_corner rfl (takes_of rfl rfl rfl rfl) (e_varF (pv 0)) (e_cons (e_varF (pv 4)) (e_cons (e_varF (pv 3)) e_nil)) (fun σ ts σ1 h => congrArg (· + 1) ((len_cons (len_cons (fun _ _ _ h => len_nil h))) σ ts σ1 h))) e_nil) (len_cons (fun _ _ _ h => len_nil h))) (e_cons (e_varF (pv 5)) e_nil)) (len_cons (len_cons (fun _ _ _ h => len_nil h)))))) (t_or1 (t_not (t_val rfl (e_call (ok__law_same x) (hr.mono (by decide)) (by rfl) x.g__law_same x.F__law_same.kp x.b__law_same rfl (takes_of rfl rfl rfl rfl) (e_cons (e_meth x.O_Table x.k_Table x.Me_Table_corner (ok_Table_corner x) (hr.mono (by decide)) x.b_Table_corner rfl (takes_of rfl rfl rfl rfl) (e_varF (pv 6)) (e_cons (e_varF (pv 4)) (e_cons (e_varF (pv 3)) e_nil)) (fun σ ts σ1 h => congrArg (· + 1) ((len_cons (len_cons (fun _ _ _ h => len_nil h))) σ ts σ1 h))) (e_cons (e_varF (pv 5)) e_nil)) (len_cons (len_cons (fun _ _ _ h => len_nil h)))))))).pt
  (s_one (s_ret (e_c pe_bl)))
  s_nil))))))
  (s_one (s_ret (e_c pe_bl))))))
noncomputable def b__law_other : List T → SRes := (mSeq (mAsg (mLst mNil) (fN 8))
  (mSeq (mFor (mRg1 (mLenN 1)) (fN 6)
  (mSeq (mAsg (mLst mNil) (fN 7))
  (mSeq (mFor (mRg1 (mCallB sLen (mCons (fIxN 1 (mC (.v (.int 0)))) mNil))) (fN 4)
  (mSeq (mAsg (mOp2 fIx (fIxN 1 (fVar 6)) (fVar 4)) (fN 5))
  (mSeq (mIf (mOr (mBl (mOp2 sLt (fVar 6) (fVar 2))) (mBl (mOp2 sLt (fVar 4) (fVar 3))))
  (mAsg (mLend 0 m__law_signed mNil) (fN 5))
  .nx)
  (mEx (mAppN 7 (fVar 5))))))
  (mEx (mAppN 8 (fVar 7))))))
  (mRetM 8)))
noncomputable def m__law_other : List T → FRes := mFn 9 true b__law_other
set_option maxHeartbeats 4000000 in
theorem ok__law_other {w : World} {K : PySem.W.Frag} {mg : Str → Option Value} {base : Heap} (x : Fx K mg) : FnOk PySem.Challenge.pw_minusless_k11_corners_and_levels w K mg base (L2.CX PySem.Challenge.pw_minusless_k11_corners_and_levels w) 4 x.a__law_other x.fd__law_other ["_law_draws_here", "_law_rows", "_law_r", "_law_c"] (spM ⟨K, mg, none⟩ (["_law_draws_here", "_law_rows", "_law_r", "_law_c"] : List Str).length m__law_other) := by
  refine fn_mvBX (N := ["_law_draws_here", "_law_rows", "_law_r", "_law_c", "_law_place", "_law_number", "_law_at", "_law_line", "_law_told"]) (m := m__law_other) b__law_other rfl x.F__law_other sc__law_other (by decide) (by decide) fun cdv A outer s H E v0 hr => ?_
  unfold b__law_other
  exact (s_cons (s_setF (i := 8) (.inl (by decide)) sc__law_other.nd rfl (by first | exact .inl rfl | exact .inr rfl) (e_lst e_nil))
  (s_cons (s_for (passes_of rfl) rfl (i_rg1 (by rfl) x.m_range (e_lenN rfl (by rfl) x.m_len (pv 1))) (g_nameF (.inl (by decide)) (pg_name (i := 6) sc__law_other.nd rfl (by first | exact .inl rfl | exact .inr rfl)))
  (s_cons (s_setF (i := 7) (.inl (by decide)) sc__law_other.nd rfl (by first | exact .inl rfl | exact .inr rfl) (e_lst e_nil))
  (s_cons (s_for (passes_of rfl) rfl (i_rg1 (by rfl) x.m_range (e_callB (call_len) (okc_len rfl) (by rfl) x.m_len (by decide +kernel) (e_cons (e_ixNF rfl (pv 1) (e_c pe_int) (fun _ _ => rfl)) e_nil))) (g_nameF (.inl (by decide)) (pg_name (i := 4) sc__law_other.nd rfl (by first | exact .inl rfl | exact .inr rfl)))
  (s_cons (s_setF (i := 5) (.inl (by decide)) sc__law_other.nd rfl (by first | exact .inl rfl | exact .inr rfl) (e_ix ix_seq (MV.ok_ixF rfl) (e_ixNF rfl (pv 1) (e_varF (pv 6)) (fun _ _ => rfl)) (e_varF (pv 4)) (fun _ _ => rfl)))
  (s_cons (s_if (t_or (t_cmp op_lt MV.ok_lt (e_varF (pv 6)) (e_varF (pv 2)) (nomark _)) (t_or1 (t_cmp op_lt MV.ok_lt (e_varF (pv 4)) (e_varF (pv 3)) (nomark _)))).pt
  (s_one (s_setF (i := 5) (.inl (by decide)) sc__law_other.nd rfl (by first | exact .inl rfl | exact .inr rfl) (e_lend (ok__law_signed x) (hr.mono (by decide)) (by rfl) x.g__law_signed x.F__law_signed.kp x.b__law_signed rfl (takes_of rfl rfl rfl rfl) (pv 0) e_nil (fun σ ts σ1 h => congrArg (· + 1) ((fun _ _ _ h => len_nil h) σ ts σ1 h)))))
  s_nil)
  (s_one (s_expr (e_appN (pv 7) (e_varF (pv 5))))))))
  (s_one (s_expr (e_appN (pv 8) (e_varF (pv 7))))))))
  (s_one (s_retM (pv 8)))))
noncomputable def b_law : List T → SRes := (mSeq (mAsg (mCall m__law_draws (mCons (fVar 0) mNil)) (fN 1))
  (mSeq (mAsg (mLend 1 m__law_size (mCons (mC (.v (.int 4))) mNil)) (fN 2))
  (mSeq (mAsg (mLend 1 m__law_size (mCons (mC (.v (.int 4))) mNil)) (fN 3))
  (mSeq (mAsg (mLend 1 m__law_take (mCons (fVar 2) mNil)) (fN 4))
  (mSeq (mAsg (mLend 1 m__law_take (mCons (fVar 3) mNil)) (fN 5))
  (mSeq (mAsg (mLc (mRg1 (fVar 2)) (fN 10) mYes (mLc (mRg1 (fVar 3)) (fN 11) mYes (mLend 1 m__law_signed mNil) [11]) [10]) (wN 6))
  (mSeq (mAsg (mCall m__law_unmade (mCons (fVar 6) mNil)) (fN 7))
  (mSeq (mAsg (mMake "Table" m_Table___init__ (mCons (mCall m__law_copy (mCons (fVar 6) mNil)) mNil)) (fN 8))
  (mSeq (mIf (mOr (mNot (mTru (mCall m__law_levels (mCons (fVar 8) (mCons (fVar 6) (mCons (fVar 7) mNil)))))) (mNot (mTru (mCall m__law_corners (mCons (fVar 8) (mCons (fVar 7) mNil))))))
  (mRet (mC (.v (.bl false))))
  .nx)
  (mSeq (mAsg (mCall m_unmade (mCons (mMake "Table" m_Table___init__ (mCons (mLend 1 m__law_other (mCons (fVar 6) (mCons (fVar 4) (mCons (fVar 5) mNil)))) mNil)) mNil)) (fN 9))
  (mSeq (mIf (mNot (mTru (mCall m__law_same (mCons (mMeth "Table" "corner" m_Table_corner (fVar 9) (mCons (fVar 4) (mCons (fVar 5) mNil))) (mCons (mLc (mItA (mSlN (some (fVar 4)) none 7)) (fN 12) mYes (mSlN (some (fVar 5)) none 12) [12]) mNil)))))
  (mRet (mC (.v (.bl false))))
  .nx)
  (mSeq (mIf (mOr (mNot (mTru (mCall m__law_no_level (mCons (fVar 8) (mCons (fVar 2) mNil))))) (mNot (mTru (mCall m__law_no_level (mCons (fVar 8) (mCons (mNeg (mC (.v (.int 1)))) mNil))))))
  (mRet (mC (.v (.bl false))))
  .nx)
  (mRet (mAndV (mCall m__law_levels (mCons (fVar 8) (mCons (fVar 6) (mCons (fVar 7) mNil)))) (mCall m__law_same (mCons (fVar 8) (mCons (fVar 6) mNil)))))))))))))))))
noncomputable def m_law : List T → FRes := mFn 13 false b_law
set_option maxHeartbeats 4000000 in
theorem ok_law {w : World} {K : PySem.W.Frag} {mg : Str → Option Value} {base : Heap} (x : Fx K mg) : FnOk PySem.Challenge.pw_minusless_k11_corners_and_levels w K mg base (L2.CX PySem.Challenge.pw_minusless_k11_corners_and_levels w) 10 x.a_law x.fd_law ["_law_script"] (spM ⟨K, mg, none⟩ (["_law_script"] : List Str).length m_law) := by
  refine fn_mvX (N := ["_law_script", "_law_draws_here", "_law_high", "_law_wide", "_law_r", "_law_c", "_law_rows", "_law_core", "_law_table", "_law_other_here", "_law_at", "_law_place", "_law_line"]) (m := m_law) b_law rfl x.F_law sc_law (by decide) fun cdv A outer s H E hr => ?_
  unfold b_law
  exact (s_cons (s_setF (i := 1) (.inr rfl) sc_law.nd rfl (by first | exact .inl rfl | exact .inr rfl) (e_call (ok__law_draws x) (hr.mono (by decide)) (by rfl) x.g__law_draws x.F__law_draws.kp x.b__law_draws rfl (takes_of rfl rfl rfl rfl) (e_cons (e_varF (pv 0)) e_nil) (len_cons (fun _ _ _ h => len_nil h))))
  (s_cons (s_setF (i := 2) (.inr rfl) sc_law.nd rfl (by first | exact .inl rfl | exact .inr rfl) (e_lend (ok__law_size x) (hr.mono (by decide)) (by rfl) x.g__law_size x.F__law_size.kp x.b__law_size rfl (takes_of rfl rfl rfl rfl) (pv 1) (e_cons (e_c pe_int) e_nil) (fun σ ts σ1 h => congrArg (· + 1) ((len_cons (fun _ _ _ h => len_nil h)) σ ts σ1 h))))
  (s_cons (s_setF (i := 3) (.inr rfl) sc_law.nd rfl (by first | exact .inl rfl | exact .inr rfl) (e_lend (ok__law_size x) (hr.mono (by decide)) (by rfl) x.g__law_size x.F__law_size.kp x.b__law_size rfl (takes_of rfl rfl rfl rfl) (pv 1) (e_cons (e_c pe_int) e_nil) (fun σ ts σ1 h => congrArg (· + 1) ((len_cons (fun _ _ _ h => len_nil h)) σ ts σ1 h))))
  (s_cons (s_setF (i := 4) (.inr rfl) sc_law.nd rfl (by first | exact .inl rfl | exact .inr rfl) (e_lend (ok__law_take x) (hr.mono (by decide)) (by rfl) x.g__law_take x.F__law_take.kp x.b__law_take rfl (takes_of rfl rfl rfl rfl) (pv 1) (e_cons (e_varF (pv 2)) e_nil) (fun σ ts σ1 h => congrArg (· + 1) ((len_cons (fun _ _ _ h => len_nil h)) σ ts σ1 h))))
  (s_cons (s_setF (i := 5) (.inr rfl) sc_law.nd rfl (by first | exact .inl rfl | exact .inr rfl) (e_lend (ok__law_take x) (hr.mono (by decide)) (by rfl) x.g__law_take x.F__law_take.kp x.b__law_take rfl (takes_of rfl rfl rfl rfl) (pv 1) (e_cons (e_varF (pv 3)) e_nil) (fun σ ts σ1 h => congrArg (· + 1) ((len_cons (fun _ _ _ h => len_nil h)) σ ts σ1 h))))
  (s_cons (s_lc (i := 6) (.inr rfl) (own := [("_law_at", 10)]) (by decide) (by intro v hv; exact .inr rfl) rfl sc_law.nd rfl rfl rfl (i_rg1 (by rfl) x.m_range (e_varF (pv 2))) (blkOk_by (by with_unfolding_all rfl)) (fun _ _ _ _ _ => (g_nameF (.inr rfl) (pg_name (i := 10) sc_law.nd rfl (by first | exact .inl rfl | exact .inr rfl)))) (fun _ _ _ _ _ => t_yes) (fun _ _ _ _ _ => (e_lc (own := [("_law_place", 11)]) (by decide) (by intro v hv; exact .inr rfl) rfl sc_law.nd (i_rg1 (by rfl) x.m_range (e_varF (pv 3))) (blkOk_by (by with_unfolding_all rfl)) (fun _ _ _ _ _ => (g_nameF (.inr rfl) (pg_name (i := 11) sc_law.nd rfl (by first | exact .inl rfl | exact .inr rfl)))) (fun _ _ _ _ _ => t_yes) (fun _ _ _ _ _ => (e_lend (ok__law_signed x) (hr.mono (by decide)) (by rfl) x.g__law_signed x.F__law_signed.kp x.b__law_signed rfl takes0 (pv 1) e_nil (fun σ ts σ1 h => congrArg (· + 1) ((fun _ _ _ h => len_nil h) σ ts σ1 h)))))))
  (s_cons (s_setF (i := 7) (.inr rfl) sc_law.nd rfl (by first | exact .inl rfl | exact .inr rfl) (e_call (ok__law_unmade x) (hr.mono (by decide)) (by rfl) x.g__law_unmade x.F__law_unmade.kp x.b__law_unmade rfl (takes_of rfl rfl rfl rfl) (e_cons (e_varF (pv 6)) e_nil) (len_cons (fun _ _ _ h => len_nil h))))
  (s_cons (s_setF (i := 8) (.inr rfl) sc_law.nd rfl (by first | exact .inl rfl | exact .inr rfl) (e_make x.M_Table (ok_Table___init__ x) (hr.mono (by decide)) (by rfl) x.k_Table x.b_Table___init__ rfl (takes_of rfl rfl rfl rfl) (e_cons (e_call (ok__law_copy x) (hr.mono (by decide)) (by rfl) x.g__law_copy x.F__law_copy.kp x.b__law_copy rfl (takes_of rfl rfl rfl rfl) (e_cons (e_varF (pv 6)) e_nil) (len_cons (fun _ _ _ h => len_nil h))) e_nil) (fun σ ts σ1 h => congrArg (· + 1) ((len_cons (fun _ _ _ h => len_nil h)) σ ts σ1 h))))
  (s_cons (s_if (t_or (t_not (t_val rfl (e_call (ok__law_levels x) (hr.mono (by decide)) (by rfl) x.g__law_levels x.F__law_levels.kp x.b__law_levels rfl (takes_of rfl rfl rfl rfl) (e_cons (e_varF (pv 8)) (e_cons (e_varF (pv 6)) (e_cons (e_varF (pv 7)) e_nil))) (len_cons (len_cons (len_cons (fun _ _ _ h => len_nil h))))))) (t_or1 (t_not (t_val rfl (e_call (ok__law_corners x) (hr.mono (by decide)) (by rfl) x.g__law_corners x.F__law_corners.kp x.b__law_corners rfl (takes_of rfl rfl rfl rfl) (e_cons (e_varF (pv 8)) (e_cons (e_varF (pv 7)) e_nil)) (len_cons (len_cons (fun _ _ _ h => len_nil h)))))))).pt
  (s_one (s_ret (e_c pe_bl)))
  s_nil)
  (s_cons (s_setF (i := 9) (.inr rfl) sc_law.nd rfl (by first | exact .inl rfl | exact .inr rfl) (e_call (ok_unmade x) (hr.mono (by decide)) (by rfl) x.g_unmade x.F_unmade.kp x.b_unmade rfl (takes_of rfl rfl rfl rfl) (e_cons (e_make x.M_Table (ok_Table___init__ x) (hr.mono (by decide)) (by rfl) x.k_Table x.b_Table___init__ rfl (takes_of rfl rfl rfl rfl) (e_cons (e_lend (ok__law_other x) (hr.mono (by decide)) (by rfl) x.g__law_other x.F__law_other.kp x.b__law_other rfl (takes_of rfl rfl rfl rfl) (pv 1) (e_cons (e_varF (pv 6)) (e_cons (e_varF (pv 4)) (e_cons (e_varF (pv 5)) e_nil))) (fun σ ts σ1 h => congrArg (· + 1) ((len_cons (len_cons (len_cons (fun _ _ _ h => len_nil h)))) σ ts σ1 h))) e_nil) (fun σ ts σ1 h => congrArg (· + 1) ((len_cons (fun _ _ _ h => len_nil h)) σ ts σ1 h))) e_nil) (len_cons (fun _ _ _ h => len_nil h))))
  (s_cons (s_if (t_not (t_val rfl (e_call (ok__law_same x) (hr.mono (by decide)) (by rfl) x.g__law_same x.F__law_same.kp x.b__law_same rfl (takes_of rfl rfl rfl rfl) (e_cons (e_meth x.O_Table x.k_Table x.Me_Table_corner (ok_Table_corner x) (hr.mono (by decide)) x.b_Table_corner rfl (takes_of rfl rfl rfl rfl) (e_varF (pv 9)) (e_cons (e_varF (pv 4)) (e_cons (e_varF (pv 5)) e_nil)) (fun σ ts σ1 h => congrArg (· + 1) ((len_cons (len_cons (fun _ _ _ h => len_nil h))) σ ts σ1 h))) (e_cons (e_lc (own := [("_law_line", 12)]) (by decide) (by intro v hv; exact .inr rfl) rfl sc_law.nd (i_any rfl (e_slN rfl (pv 7) (o_some (e_varF (pv 4))) o_none)) (blkOk_by (by with_unfolding_all rfl)) (fun _ _ _ _ _ => (g_nameF (.inr rfl) (pg_name (i := 12) sc_law.nd rfl (by first | exact .inl rfl | exact .inr rfl)))) (fun _ _ _ _ _ => t_yes) (fun _ _ _ _ _ => (e_slN rfl (pv 12) (o_some (e_varF (pv 5))) o_none))) e_nil)) (len_cons (len_cons (fun _ _ _ h => len_nil h))))))
  (s_one (s_ret (e_c pe_bl)))
  s_nil)
  (s_cons (s_if (t_or (t_not (t_val rfl (e_call (ok__law_no_level x) (hr.mono (by decide)) (by rfl) x.g__law_no_level x.F__law_no_level.kp x.b__law_no_level rfl (takes_of rfl rfl rfl rfl) (e_cons (e_varF (pv 8)) (e_cons (e_varF (pv 2)) e_nil)) (len_cons (len_cons (fun _ _ _ h => len_nil h)))))) (t_or1 (t_not (t_val rfl (e_call (ok__law_no_level x) (hr.mono (by decide)) (by rfl) x.g__law_no_level x.F__law_no_level.kp x.b__law_no_level rfl (takes_of rfl rfl rfl rfl) (e_cons (e_varF (pv 8)) (e_cons (e_neg (e_c pe_int)) e_nil)) (len_cons (len_cons (fun _ _ _ h => len_nil h)))))))).pt
  (s_one (s_ret (e_c pe_bl)))
  s_nil)
  (s_one (s_ret (e_and (e_call (ok__law_levels x) (hr.mono (by decide)) (by rfl) x.g__law_levels x.F__law_levels.kp x.b__law_levels rfl (takes_of rfl rfl rfl rfl) (e_cons (e_varF (pv 8)) (e_cons (e_varF (pv 6)) (e_cons (e_varF (pv 7)) e_nil))) (len_cons (len_cons (len_cons (fun _ _ _ h => len_nil h))))) (e_one (e_call (ok__law_same x) (hr.mono (by decide)) (by rfl) x.g__law_same x.F__law_same.kp x.b__law_same rfl (takes_of rfl rfl rfl rfl) (e_cons (e_varF (pv 8)) (e_cons (e_varF (pv 6)) e_nil)) (len_cons (len_cons (fun _ _ _ h => len_nil h))))))))))))))))))))
set_option maxHeartbeats 4000000 in
theorem all_mk {w : World} {K : PySem.W.Frag} {h : Heap} {mg : Str → Option Value} {fa : Addr} (X : K.In h) (G : h.Ns mainGlobals mg) (hfa : mg "law" = some (.ref fa)) (hp : Plain m_law)
    {f0 : Addr} {od0 an0 : Option Addr} {sl0 : Array (Option Value)} {oc0 kV0 dc0 pm0 cd0 ct0 : Value}
    {f1 : Addr} {od1 an1 : Option Addr} {sl1 : Array (Option Value)} {oc1 kV1 dc1 pm1 cd1 ct1 : Value}
    {f2 : Addr} {od2 an2 : Option Addr} {sl2 : Array (Option Value)} {oc2 kV2 dc2 pm2 cd2 ct2 : Value}
    {f3 : Addr} {od3 an3 : Option Addr} {sl3 : Array (Option Value)} {oc3 kV3 dc3 pm3 cd3 ct3 : Value}
    {f4 : Addr} {od4 an4 : Option Addr} {sl4 : Array (Option Value)} {oc4 kV4 dc4 pm4 cd4 ct4 : Value}
    {f5 : Addr} {od5 an5 : Option Addr} {sl5 : Array (Option Value)} {oc5 kV5 dc5 pm5 cd5 ct5 : Value}
    {f6 : Addr} {od6 an6 : Option Addr} {sl6 : Array (Option Value)} {oc6 kV6 dc6 pm6 cd6 ct6 : Value}
    {f7 : Addr} {od7 an7 : Option Addr} {sl7 : Array (Option Value)} {oc7 kV7 dc7 pm7 cd7 ct7 : Value}
    {f8 : Addr} {od8 an8 : Option Addr} {sl8 : Array (Option Value)} {oc8 kV8 dc8 pm8 cd8 ct8 : Value}
    {f9 : Addr} {od9 an9 : Option Addr} {sl9 : Array (Option Value)} {oc9 kV9 dc9 pm9 cd9 ct9 : Value}
    {f10 : Addr} {od10 an10 : Option Addr} {sl10 : Array (Option Value)} {oc10 kV10 dc10 pm10 cd10 ct10 : Value}
    {f11 : Addr} {od11 an11 : Option Addr} {sl11 : Array (Option Value)} {oc11 kV11 dc11 pm11 cd11 ct11 : Value}
    {C_Table : Addr}
    {f12 : Addr} {od12 an12 : Option Addr} {sl12 : Array (Option Value)} {oc12 kV12 dc12 pm12 cd12 ct12 : Value}
    {f13 : Addr} {od13 an13 : Option Addr} {sl13 : Array (Option Value)} {oc13 kV13 dc13 pm13 cd13 ct13 : Value}
    {f14 : Addr} {od14 an14 : Option Addr} {sl14 : Array (Option Value)} {oc14 kV14 dc14 pm14 cd14 ct14 : Value}
    {f15 : Addr} {od15 an15 : Option Addr} {sl15 : Array (Option Value)} {oc15 kV15 dc15 pm15 cd15 ct15 : Value}
    {f16 : Addr} {od16 an16 : Option Addr} {sl16 : Array (Option Value)} {oc16 kV16 dc16 pm16 cd16 ct16 : Value}
    {f17 : Addr} {od17 an17 : Option Addr} {sl17 : Array (Option Value)} {oc17 kV17 dc17 pm17 cd17 ct17 : Value}
    {f18 : Addr} {od18 an18 : Option Addr} {sl18 : Array (Option Value)} {oc18 kV18 dc18 pm18 cd18 ct18 : Value}
    {f19 : Addr} {od19 an19 : Option Addr} {sl19 : Array (Option Value)} {oc19 kV19 dc19 pm19 cd19 ct19 : Value}
    {f20 : Addr} {od20 an20 : Option Addr} {sl20 : Array (Option Value)} {oc20 kV20 dc20 pm20 cd20 ct20 : Value}
    {f21 : Addr} {od21 an21 : Option Addr} {sl21 : Array (Option Value)} {oc21 kV21 dc21 pm21 cd21 ct21 : Value}
    {f22 : Addr} {od22 an22 : Option Addr} {sl22 : Array (Option Value)} {oc22 kV22 dc22 pm22 cd22 ct22 : Value}
    {f23 : Addr} {od23 an23 : Option Addr} {sl23 : Array (Option Value)} {oc23 kV23 dc23 pm23 cd23 ct23 : Value}
    {f24 : Addr} {od24 an24 : Option Addr} {sl24 : Array (Option Value)} {oc24 kV24 dc24 pm24 cd24 ct24 : Value}
    {f25 : Addr} {od25 an25 : Option Addr} {sl25 : Array (Option Value)} {oc25 kV25 dc25 pm25 cd25 ct25 : Value}
    {f26 : Addr} {od26 an26 : Option Addr} {sl26 : Array (Option Value)} {oc26 kV26 dc26 pm26 cd26 ct26 : Value}
    {f27 : Addr} {od27 an27 : Option Addr} {sl27 : Array (Option Value)} {oc27 kV27 dc27 pm27 cd27 ct27 : Value}
    {f28 : Addr} {od28 an28 : Option Addr} {sl28 : Array (Option Value)} {oc28 kV28 dc28 pm28 cd28 ct28 : Value}
    {f29 : Addr} {od29 an29 : Option Addr} {sl29 : Array (Option Value)} {oc29 kV29 dc29 pm29 cd29 ct29 : Value}
    {f30 : Addr} {od30 an30 : Option Addr} {sl30 : Array (Option Value)} {oc30 kV30 dc30 pm30 cd30 ct30 : Value}
    {f31 : Addr} {od31 an31 : Option Addr} {sl31 : Array (Option Value)} {oc31 kV31 dc31 pm31 cd31 ct31 : Value}
    {f32 : Addr} {od32 an32 : Option Addr} {sl32 : Array (Option Value)} {oc32 kV32 dc32 pm32 cd32 ct32 : Value}
    {f33 : Addr} {od33 an33 : Option Addr} {sl33 : Array (Option Value)} {oc33 kV33 dc33 pm33 cd33 ct33 : Value}
    {f34 : Addr} {od34 an34 : Option Addr} {sl34 : Array (Option Value)} {oc34 kV34 dc34 pm34 cd34 ct34 : Value}
    {f35 : Addr} {od35 an35 : Option Addr} {sl35 : Array (Option Value)} {oc35 kV35 dc35 pm35 cd35 ct35 : Value}
    {f36 : Addr} {od36 an36 : Option Addr} {sl36 : Array (Option Value)} {oc36 kV36 dc36 pm36 cd36 ct36 : Value}
    {f37 : Addr} {od37 an37 : Option Addr} {sl37 : Array (Option Value)} {oc37 kV37 dc37 pm37 cd37 ct37 : Value}
    {f38 : Addr} {od38 an38 : Option Addr} {sl38 : Array (Option Value)} {oc38 kV38 dc38 pm38 cd38 ct38 : Value}
    {f39 : Addr} {od39 an39 : Option Addr} {sl39 : Array (Option Value)} {oc39 kV39 dc39 pm39 cd39 ct39 : Value}
    {f40 : Addr} {od40 an40 : Option Addr} {sl40 : Array (Option Value)} {oc40 kV40 dc40 pm40 cd40 ct40 : Value}
    {f41 : Addr} {od41 an41 : Option Addr} {sl41 : Array (Option Value)} {oc41 kV41 dc41 pm41 cd41 ct41 : Value}
    {f42 : Addr} {od42 an42 : Option Addr} {sl42 : Array (Option Value)} {oc42 kV42 dc42 pm42 cd42 ct42 : Value}
    {f43 : Addr} {od43 an43 : Option Addr} {sl43 : Array (Option Value)} {oc43 kV43 dc43 pm43 cd43 ct43 : Value}
    {f44 : Addr} {od44 an44 : Option Addr} {sl44 : Array (Option Value)} {oc44 kV44 dc44 pm44 cd44 ct44 : Value}
    {t_MOST : Tok}
    {C_BadNumber : Addr}
    {C_BadTable : Addr}
    {C_BadBox : Addr}
    {C_OtherSize : Addr}
    {C_TooMany : Addr}
    {i_BadNumber cda_BadNumber cc_BadNumber : Addr} {nm_BadNumber q_BadNumber : Str} {N_BadNumber : Addr} {bs_BadNumber : List Value} {sn_BadNumber : List Str} {sub_BadNumber : List Value} {ab_BadNumber : Bool} {col_BadNumber : Option Bool} {dd_BadNumber : Option Addr} {mA_BadNumber mB_BadNumber mC_BadNumber mD_BadNumber mE_BadNumber : Option Value}
    {D0_BadNumber : Addr}
    {oc_BadNumber doc_BadNumber pm_BadNumber ct_BadNumber ccl_BadNumber cl_BadNumber : Value} {od_BadNumber an_BadNumber cdd_BadNumber cld_BadNumber : Option Addr} {osl_BadNumber ccs_BadNumber csl_BadNumber : Array (Option Value)} {vs_BadNumber : Array Value} {file_BadNumber : Str} {tf_BadNumber : Tok}
    {i_BadTable cda_BadTable cc_BadTable : Addr} {nm_BadTable q_BadTable : Str} {N_BadTable : Addr} {bs_BadTable : List Value} {sn_BadTable : List Str} {sub_BadTable : List Value} {ab_BadTable : Bool} {col_BadTable : Option Bool} {dd_BadTable : Option Addr} {mA_BadTable mB_BadTable mC_BadTable mD_BadTable mE_BadTable : Option Value}
    {D0_BadTable : Addr}
    {oc_BadTable doc_BadTable pm_BadTable ct_BadTable ccl_BadTable cl_BadTable : Value} {od_BadTable an_BadTable cdd_BadTable cld_BadTable : Option Addr} {osl_BadTable ccs_BadTable csl_BadTable : Array (Option Value)} {vs_BadTable : Array Value} {file_BadTable : Str} {tf_BadTable : Tok}
    {i_TooMany cda_TooMany cc_TooMany : Addr} {nm_TooMany q_TooMany : Str} {N_TooMany : Addr} {bs_TooMany : List Value} {sn_TooMany : List Str} {sub_TooMany : List Value} {ab_TooMany : Bool} {col_TooMany : Option Bool} {dd_TooMany : Option Addr} {mA_TooMany mB_TooMany mC_TooMany mD_TooMany mE_TooMany : Option Value}
    {D0_TooMany : Addr}
    {oc_TooMany doc_TooMany pm_TooMany ct_TooMany ccl_TooMany cl_TooMany : Value} {od_TooMany an_TooMany cdd_TooMany cld_TooMany : Option Addr} {osl_TooMany ccs_TooMany csl_TooMany : Array (Option Value)} {vs_TooMany : Array Value} {file_TooMany : Str} {tf_TooMany : Tok}
    {i_BadBox cda_BadBox cc_BadBox : Addr} {nm_BadBox q_BadBox : Str} {N_BadBox : Addr} {bs_BadBox : List Value} {sn_BadBox : List Str} {sub_BadBox : List Value} {ab_BadBox : Bool} {col_BadBox : Option Bool} {dd_BadBox : Option Addr} {mA_BadBox mB_BadBox mC_BadBox mD_BadBox mE_BadBox : Option Value}
    {D0_BadBox : Addr}
    {oc_BadBox doc_BadBox pm_BadBox ct_BadBox ccl_BadBox cl_BadBox : Value} {od_BadBox an_BadBox cdd_BadBox cld_BadBox : Option Addr} {osl_BadBox ccs_BadBox csl_BadBox : Array (Option Value)} {vs_BadBox : Array Value} {file_BadBox : Str} {tf_BadBox : Tok}
    {i_OtherSize cda_OtherSize cc_OtherSize : Addr} {nm_OtherSize q_OtherSize : Str} {N_OtherSize : Addr} {bs_OtherSize : List Value} {sn_OtherSize : List Str} {sub_OtherSize : List Value} {ab_OtherSize : Bool} {col_OtherSize : Option Bool} {dd_OtherSize : Option Addr} {mA_OtherSize mB_OtherSize mC_OtherSize mD_OtherSize mE_OtherSize : Option Value}
    {D0_OtherSize : Addr}
    {oc_OtherSize doc_OtherSize pm_OtherSize ct_OtherSize ccl_OtherSize cl_OtherSize : Value} {od_OtherSize an_OtherSize cdd_OtherSize cld_OtherSize : Option Addr} {osl_OtherSize ccs_OtherSize csl_OtherSize : Array (Option Value)} {vs_OtherSize : Array Value} {file_OtherSize : Str} {tf_OtherSize : Tok}
    {ci_xBadBox : PySem.ClassData}
    {ci_xTooMany : PySem.ClassData}
    (a0 : PySem.W.nsIn K mainGlobals "is_plain_integer" = some (some (.ref f0)))
    (l0 : K.lookup f0 = some ⟨oc0, od0, .func (PySem.W.fnOf "is_plain_integer" "is_plain_integer" (defArgs s_is_plain_integer) (defBody s_is_plain_integer) (defScope s_is_plain_integer) .none kV0 dc0 pm0 an0 cd0 ct0), sl0⟩)
    (c0 : PySem.W.codeIn K cd0 "is_plain_integer" = true)
    (k0 : PySem.W.keepIn K (.ref f0) = true)
    (a1 : PySem.W.nsIn K mainGlobals "is_number" = some (some (.ref f1)))
    (l1 : K.lookup f1 = some ⟨oc1, od1, .func (PySem.W.fnOf "is_number" "is_number" (defArgs s_is_number) (defBody s_is_number) (defScope s_is_number) .none kV1 dc1 pm1 an1 cd1 ct1), sl1⟩)
    (c1 : PySem.W.codeIn K cd1 "is_number" = true)
    (k1 : PySem.W.keepIn K (.ref f1) = true)
    (a2 : PySem.W.nsIn K mainGlobals "check_number" = some (some (.ref f2)))
    (l2 : K.lookup f2 = some ⟨oc2, od2, .func (PySem.W.fnOf "check_number" "check_number" (defArgs s_check_number) (defBody s_check_number) (defScope s_check_number) .none kV2 dc2 pm2 an2 cd2 ct2), sl2⟩)
    (c2 : PySem.W.codeIn K cd2 "check_number" = true)
    (k2 : PySem.W.keepIn K (.ref f2) = true)
    (a3 : PySem.W.nsIn K mainGlobals "check_row" = some (some (.ref f3)))
    (l3 : K.lookup f3 = some ⟨oc3, od3, .func (PySem.W.fnOf "check_row" "check_row" (defArgs s_check_row) (defBody s_check_row) (defScope s_check_row) .none kV3 dc3 pm3 an3 cd3 ct3), sl3⟩)
    (c3 : PySem.W.codeIn K cd3 "check_row" = true)
    (k3 : PySem.W.keepIn K (.ref f3) = true)
    (a4 : PySem.W.nsIn K mainGlobals "lowest" = some (some (.ref f4)))
    (l4 : K.lookup f4 = some ⟨oc4, od4, .func (PySem.W.fnOf "lowest" "lowest" (defArgs s_lowest) (defBody s_lowest) (defScope s_lowest) .none kV4 dc4 pm4 an4 cd4 ct4), sl4⟩)
    (c4 : PySem.W.codeIn K cd4 "lowest" = true)
    (k4 : PySem.W.keepIn K (.ref f4) = true)
    (a5 : PySem.W.nsIn K mainGlobals "less" = some (some (.ref f5)))
    (l5 : K.lookup f5 = some ⟨oc5, od5, .func (PySem.W.fnOf "less" "less" (defArgs s_less) (defBody s_less) (defScope s_less) .none kV5 dc5 pm5 an5 cd5 ct5), sl5⟩)
    (c5 : PySem.W.codeIn K cd5 "less" = true)
    (k5 : PySem.W.keepIn K (.ref f5) = true)
    (a6 : PySem.W.nsIn K mainGlobals "times" = some (some (.ref f6)))
    (l6 : K.lookup f6 = some ⟨oc6, od6, .func (PySem.W.fnOf "times" "times" (defArgs s_times) (defBody s_times) (defScope s_times) .none kV6 dc6 pm6 an6 cd6 ct6), sl6⟩)
    (c6 : PySem.W.codeIn K cd6 "times" = true)
    (k6 : PySem.W.keepIn K (.ref f6) = true)
    (a7 : PySem.W.nsIn K mainGlobals "over" = some (some (.ref f7)))
    (l7 : K.lookup f7 = some ⟨oc7, od7, .func (PySem.W.fnOf "over" "over" (defArgs s_over) (defBody s_over) (defScope s_over) .none kV7 dc7 pm7 an7 cd7 ct7), sl7⟩)
    (c7 : PySem.W.codeIn K cd7 "over" = true)
    (k7 : PySem.W.keepIn K (.ref f7) = true)
    (a8 : PySem.W.nsIn K mainGlobals "is_place" = some (some (.ref f8)))
    (l8 : K.lookup f8 = some ⟨oc8, od8, .func (PySem.W.fnOf "is_place" "is_place" (defArgs s_is_place) (defBody s_is_place) (defScope s_is_place) .none kV8 dc8 pm8 an8 cd8 ct8), sl8⟩)
    (c8 : PySem.W.codeIn K cd8 "is_place" = true)
    (k8 : PySem.W.keepIn K (.ref f8) = true)
    (a9 : PySem.W.nsIn K mainGlobals "checked_rows" = some (some (.ref f9)))
    (l9 : K.lookup f9 = some ⟨oc9, od9, .func (PySem.W.fnOf "checked_rows" "checked_rows" (defArgs s_checked_rows) (defBody s_checked_rows) (defScope s_checked_rows) .none kV9 dc9 pm9 an9 cd9 ct9), sl9⟩)
    (c9 : PySem.W.codeIn K cd9 "checked_rows" = true)
    (k9 : PySem.W.keepIn K (.ref f9) = true)
    (a10 : PySem.W.nsIn K mainGlobals "row_at" = some (some (.ref f10)))
    (l10 : K.lookup f10 = some ⟨oc10, od10, .func (PySem.W.fnOf "row_at" "row_at" (defArgs s_row_at) (defBody s_row_at) (defScope s_row_at) .none kV10 dc10 pm10 an10 cd10 ct10), sl10⟩)
    (c10 : PySem.W.codeIn K cd10 "row_at" = true)
    (k10 : PySem.W.keepIn K (.ref f10) = true)
    (n_Table : PySem.W.nsIn K mainGlobals "Table" = some (some (.ref C_Table)))
    (a11 : PySem.W.findIn K (.ref C_Table) "__init__" = some (some (.ref f11)))
    (i11 : PySem.W.isFn K (.ref f11) = true)
    (l11 : K.lookup f11 = some ⟨oc11, od11, .func (PySem.W.fnOf "__init__" "Table.__init__" (defArgs s_Table___init__) (defBody s_Table___init__) (defScope s_Table___init__) .none kV11 dc11 pm11 an11 cd11 ct11), sl11⟩)
    (c11 : PySem.W.codeIn K cd11 "Table.__init__" = true)
    (k11 : PySem.W.keepIn K (.ref f11) = true)
    (pg_Table : PySem.W.plainGet K C_Table Str.empty = true)
    (hd_Table : PySem.W.hasDictIn K C_Table = true)
    (po_Table : PySem.W.plainOver K C_Table = true)
    (ws_Table : PySem.W.findIn K (.ref C_Table) "__setattr__" = some (some (.builtin "object.__setattr__")))
    (wm_Table : PySem.W.makesIn K C_Table = true)
    (wk_Table : PySem.W.keepIn K (.ref C_Table) = true)
    (nf_Table_rows : PySem.W.findIn K (.ref C_Table) "rows" = some none)
    (nf_Table_high : PySem.W.findIn K (.ref C_Table) "high" = some none)
    (nf_Table_wide : PySem.W.findIn K (.ref C_Table) "wide" = some none)
    (wc_Table : PySem.W.findIn K (.ref C_Table) "__class__" = some (some (.builtin "object.__class__")))
    (wg_Table : PySem.W.specialIn K (.builtin "object.__class__") "__get__" = some (some (.builtin "getset_descriptor.__get__")))
    (wt_Table : PySem.W.takesIn K (.builtin "object.__class__") = some true)
    (wo_Table : PySem.W.mroIn K C_Table (.type "object") = some true)
    (a12 : PySem.W.findIn K (.ref C_Table) "corner" = some (some (.ref f12)))
    (i12 : PySem.W.isFn K (.ref f12) = true)
    (l12 : K.lookup f12 = some ⟨oc12, od12, .func (PySem.W.fnOf "corner" "Table.corner" (defArgs s_Table_corner) (defBody s_Table_corner) (defScope s_Table_corner) .none kV12 dc12 pm12 an12 cd12 ct12), sl12⟩)
    (c12 : PySem.W.codeIn K cd12 "Table.corner" = true)
    (k12 : PySem.W.keepIn K (.ref f12) = true)
    (a13 : PySem.W.nsIn K mainGlobals "full_after" = some (some (.ref f13)))
    (l13 : K.lookup f13 = some ⟨oc13, od13, .func (PySem.W.fnOf "full_after" "full_after" (defArgs s_full_after) (defBody s_full_after) (defScope s_full_after) .none kV13 dc13 pm13 an13 cd13 ct13), sl13⟩)
    (c13 : PySem.W.codeIn K cd13 "full_after" = true)
    (k13 : PySem.W.keepIn K (.ref f13) = true)
    (a14 : PySem.W.nsIn K mainGlobals "pair_of_rows" = some (some (.ref f14)))
    (l14 : K.lookup f14 = some ⟨oc14, od14, .func (PySem.W.fnOf "pair_of_rows" "pair_of_rows" (defArgs s_pair_of_rows) (defBody s_pair_of_rows) (defScope s_pair_of_rows) .none kV14 dc14 pm14 an14 cd14 ct14), sl14⟩)
    (c14 : PySem.W.codeIn K cd14 "pair_of_rows" = true)
    (k14 : PySem.W.keepIn K (.ref f14) = true)
    (a15 : PySem.W.nsIn K mainGlobals "unmade_row" = some (some (.ref f15)))
    (l15 : K.lookup f15 = some ⟨oc15, od15, .func (PySem.W.fnOf "unmade_row" "unmade_row" (defArgs s_unmade_row) (defBody s_unmade_row) (defScope s_unmade_row) .none kV15 dc15 pm15 an15 cd15 ct15), sl15⟩)
    (c15 : PySem.W.codeIn K cd15 "unmade_row" = true)
    (k15 : PySem.W.keepIn K (.ref f15) = true)
    (a16 : PySem.W.nsIn K mainGlobals "rows_above" = some (some (.ref f16)))
    (l16 : K.lookup f16 = some ⟨oc16, od16, .func (PySem.W.fnOf "rows_above" "rows_above" (defArgs s_rows_above) (defBody s_rows_above) (defScope s_rows_above) .none kV16 dc16 pm16 an16 cd16 ct16), sl16⟩)
    (c16 : PySem.W.codeIn K cd16 "rows_above" = true)
    (k16 : PySem.W.keepIn K (.ref f16) = true)
    (a17 : PySem.W.nsIn K mainGlobals "unmade" = some (some (.ref f17)))
    (l17 : K.lookup f17 = some ⟨oc17, od17, .func (PySem.W.fnOf "unmade" "unmade" (defArgs s_unmade) (defBody s_unmade) (defScope s_unmade) .none kV17 dc17 pm17 an17 cd17 ct17), sl17⟩)
    (c17 : PySem.W.codeIn K cd17 "unmade" = true)
    (k17 : PySem.W.keepIn K (.ref f17) = true)
    (a18 : PySem.W.nsIn K mainGlobals "level" = some (some (.ref f18)))
    (l18 : K.lookup f18 = some ⟨oc18, od18, .func (PySem.W.fnOf "level" "level" (defArgs s_level) (defBody s_level) (defScope s_level) .none kV18 dc18 pm18 an18 cd18 ct18), sl18⟩)
    (c18 : PySem.W.codeIn K cd18 "level" = true)
    (k18 : PySem.W.keepIn K (.ref f18) = true)
    (a19 : PySem.W.nsIn K mainGlobals "core_row" = some (some (.ref f19)))
    (l19 : K.lookup f19 = some ⟨oc19, od19, .func (PySem.W.fnOf "core_row" "core_row" (defArgs s_core_row) (defBody s_core_row) (defScope s_core_row) .none kV19 dc19 pm19 an19 cd19 ct19), sl19⟩)
    (c19 : PySem.W.codeIn K cd19 "core_row" = true)
    (k19 : PySem.W.keepIn K (.ref f19) = true)
    (a20 : PySem.W.nsIn K mainGlobals "last_round" = some (some (.ref f20)))
    (l20 : K.lookup f20 = some ⟨oc20, od20, .func (PySem.W.fnOf "last_round" "last_round" (defArgs s_last_round) (defBody s_last_round) (defScope s_last_round) .none kV20 dc20 pm20 an20 cd20 ct20), sl20⟩)
    (c20 : PySem.W.codeIn K cd20 "last_round" = true)
    (k20 : PySem.W.keepIn K (.ref f20) = true)
    (a21 : PySem.W.nsIn K mainGlobals "_law_draws" = some (some (.ref f21)))
    (l21 : K.lookup f21 = some ⟨oc21, od21, .func (PySem.W.fnOf "_law_draws" "_law_draws" (defArgs s__law_draws) (defBody s__law_draws) (defScope s__law_draws) .none kV21 dc21 pm21 an21 cd21 ct21), sl21⟩)
    (c21 : PySem.W.codeIn K cd21 "_law_draws" = true)
    (k21 : PySem.W.keepIn K (.ref f21) = true)
    (a22 : PySem.W.nsIn K mainGlobals "_law_take" = some (some (.ref f22)))
    (l22 : K.lookup f22 = some ⟨oc22, od22, .func (PySem.W.fnOf "_law_take" "_law_take" (defArgs s__law_take) (defBody s__law_take) (defScope s__law_take) .none kV22 dc22 pm22 an22 cd22 ct22), sl22⟩)
    (c22 : PySem.W.codeIn K cd22 "_law_take" = true)
    (k22 : PySem.W.keepIn K (.ref f22) = true)
    (a23 : PySem.W.nsIn K mainGlobals "_law_pair" = some (some (.ref f23)))
    (l23 : K.lookup f23 = some ⟨oc23, od23, .func (PySem.W.fnOf "_law_pair" "_law_pair" (defArgs s__law_pair) (defBody s__law_pair) (defScope s__law_pair) .none kV23 dc23 pm23 an23 cd23 ct23), sl23⟩)
    (c23 : PySem.W.codeIn K cd23 "_law_pair" = true)
    (k23 : PySem.W.keepIn K (.ref f23) = true)
    (a24 : PySem.W.nsIn K mainGlobals "_law_less" = some (some (.ref f24)))
    (l24 : K.lookup f24 = some ⟨oc24, od24, .func (PySem.W.fnOf "_law_less" "_law_less" (defArgs s__law_less) (defBody s__law_less) (defScope s__law_less) .none kV24 dc24 pm24 an24 cd24 ct24), sl24⟩)
    (c24 : PySem.W.codeIn K cd24 "_law_less" = true)
    (k24 : PySem.W.keepIn K (.ref f24) = true)
    (a25 : PySem.W.nsIn K mainGlobals "_law_times" = some (some (.ref f25)))
    (l25 : K.lookup f25 = some ⟨oc25, od25, .func (PySem.W.fnOf "_law_times" "_law_times" (defArgs s__law_times) (defBody s__law_times) (defScope s__law_times) .none kV25 dc25 pm25 an25 cd25 ct25), sl25⟩)
    (c25 : PySem.W.codeIn K cd25 "_law_times" = true)
    (k25 : PySem.W.keepIn K (.ref f25) = true)
    (a26 : PySem.W.nsIn K mainGlobals "_law_over" = some (some (.ref f26)))
    (l26 : K.lookup f26 = some ⟨oc26, od26, .func (PySem.W.fnOf "_law_over" "_law_over" (defArgs s__law_over) (defBody s__law_over) (defScope s__law_over) .none kV26 dc26 pm26 an26 cd26 ct26), sl26⟩)
    (c26 : PySem.W.codeIn K cd26 "_law_over" = true)
    (k26 : PySem.W.keepIn K (.ref f26) = true)
    (a27 : PySem.W.nsIn K mainGlobals "_law_is_number" = some (some (.ref f27)))
    (l27 : K.lookup f27 = some ⟨oc27, od27, .func (PySem.W.fnOf "_law_is_number" "_law_is_number" (defArgs s__law_is_number) (defBody s__law_is_number) (defScope s__law_is_number) .none kV27 dc27 pm27 an27 cd27 ct27), sl27⟩)
    (c27 : PySem.W.codeIn K cd27 "_law_is_number" = true)
    (k27 : PySem.W.keepIn K (.ref f27) = true)
    (a28 : PySem.W.nsIn K mainGlobals "_law_is_rows" = some (some (.ref f28)))
    (l28 : K.lookup f28 = some ⟨oc28, od28, .func (PySem.W.fnOf "_law_is_rows" "_law_is_rows" (defArgs s__law_is_rows) (defBody s__law_is_rows) (defScope s__law_is_rows) .none kV28 dc28 pm28 an28 cd28 ct28), sl28⟩)
    (c28 : PySem.W.codeIn K cd28 "_law_is_rows" = true)
    (k28 : PySem.W.keepIn K (.ref f28) = true)
    (a29 : PySem.W.nsIn K mainGlobals "_law_fixed" = some (some (.ref f29)))
    (l29 : K.lookup f29 = some ⟨oc29, od29, .func (PySem.W.fnOf "_law_fixed" "_law_fixed" (defArgs s__law_fixed) (defBody s__law_fixed) (defScope s__law_fixed) .none kV29 dc29 pm29 an29 cd29 ct29), sl29⟩)
    (c29 : PySem.W.codeIn K cd29 "_law_fixed" = true)
    (k29 : PySem.W.keepIn K (.ref f29) = true)
    (a30 : PySem.W.nsIn K mainGlobals "_law_copy" = some (some (.ref f30)))
    (l30 : K.lookup f30 = some ⟨oc30, od30, .func (PySem.W.fnOf "_law_copy" "_law_copy" (defArgs s__law_copy) (defBody s__law_copy) (defScope s__law_copy) .none kV30 dc30 pm30 an30 cd30 ct30), sl30⟩)
    (c30 : PySem.W.codeIn K cd30 "_law_copy" = true)
    (k30 : PySem.W.keepIn K (.ref f30) = true)
    (a31 : PySem.W.nsIn K mainGlobals "_law_next" = some (some (.ref f31)))
    (l31 : K.lookup f31 = some ⟨oc31, od31, .func (PySem.W.fnOf "_law_next" "_law_next" (defArgs s__law_next) (defBody s__law_next) (defScope s__law_next) .none kV31 dc31 pm31 an31 cd31 ct31), sl31⟩)
    (c31 : PySem.W.codeIn K cd31 "_law_next" = true)
    (k31 : PySem.W.keepIn K (.ref f31) = true)
    (a32 : PySem.W.nsIn K mainGlobals "_law_unmade_row" = some (some (.ref f32)))
    (l32 : K.lookup f32 = some ⟨oc32, od32, .func (PySem.W.fnOf "_law_unmade_row" "_law_unmade_row" (defArgs s__law_unmade_row) (defBody s__law_unmade_row) (defScope s__law_unmade_row) .none kV32 dc32 pm32 an32 cd32 ct32), sl32⟩)
    (c32 : PySem.W.codeIn K cd32 "_law_unmade_row" = true)
    (k32 : PySem.W.keepIn K (.ref f32) = true)
    (a33 : PySem.W.nsIn K mainGlobals "_law_unmade" = some (some (.ref f33)))
    (l33 : K.lookup f33 = some ⟨oc33, od33, .func (PySem.W.fnOf "_law_unmade" "_law_unmade" (defArgs s__law_unmade) (defBody s__law_unmade) (defScope s__law_unmade) .none kV33 dc33 pm33 an33 cd33 ct33), sl33⟩)
    (c33 : PySem.W.codeIn K cd33 "_law_unmade" = true)
    (k33 : PySem.W.keepIn K (.ref f33) = true)
    (a34 : PySem.W.nsIn K mainGlobals "_law_level" = some (some (.ref f34)))
    (l34 : K.lookup f34 = some ⟨oc34, od34, .func (PySem.W.fnOf "_law_level" "_law_level" (defArgs s__law_level) (defBody s__law_level) (defScope s__law_level) .none kV34 dc34 pm34 an34 cd34 ct34), sl34⟩)
    (c34 : PySem.W.codeIn K cd34 "_law_level" = true)
    (k34 : PySem.W.keepIn K (.ref f34) = true)
    (a35 : PySem.W.nsIn K mainGlobals "_law_any" = some (some (.ref f35)))
    (l35 : K.lookup f35 = some ⟨oc35, od35, .func (PySem.W.fnOf "_law_any" "_law_any" (defArgs s__law_any) (defBody s__law_any) (defScope s__law_any) .none kV35 dc35 pm35 an35 cd35 ct35), sl35⟩)
    (c35 : PySem.W.codeIn K cd35 "_law_any" = true)
    (k35 : PySem.W.keepIn K (.ref f35) = true)
    (a36 : PySem.W.nsIn K mainGlobals "_law_size" = some (some (.ref f36)))
    (l36 : K.lookup f36 = some ⟨oc36, od36, .func (PySem.W.fnOf "_law_size" "_law_size" (defArgs s__law_size) (defBody s__law_size) (defScope s__law_size) .none kV36 dc36 pm36 an36 cd36 ct36), sl36⟩)
    (c36 : PySem.W.codeIn K cd36 "_law_size" = true)
    (k36 : PySem.W.keepIn K (.ref f36) = true)
    (a37 : PySem.W.nsIn K mainGlobals "_law_signed" = some (some (.ref f37)))
    (l37 : K.lookup f37 = some ⟨oc37, od37, .func (PySem.W.fnOf "_law_signed" "_law_signed" (defArgs s__law_signed) (defBody s__law_signed) (defScope s__law_signed) .none kV37 dc37 pm37 an37 cd37 ct37), sl37⟩)
    (c37 : PySem.W.codeIn K cd37 "_law_signed" = true)
    (k37 : PySem.W.keepIn K (.ref f37) = true)
    (a38 : PySem.W.nsIn K mainGlobals "_law_same" = some (some (.ref f38)))
    (l38 : K.lookup f38 = some ⟨oc38, od38, .func (PySem.W.fnOf "_law_same" "_law_same" (defArgs s__law_same) (defBody s__law_same) (defScope s__law_same) .none kV38 dc38 pm38 an38 cd38 ct38), sl38⟩)
    (c38 : PySem.W.codeIn K cd38 "_law_same" = true)
    (k38 : PySem.W.keepIn K (.ref f38) = true)
    (a39 : PySem.W.nsIn K mainGlobals "_law_no_level" = some (some (.ref f39)))
    (l39 : K.lookup f39 = some ⟨oc39, od39, .func (PySem.W.fnOf "_law_no_level" "_law_no_level" (defArgs s__law_no_level) (defBody s__law_no_level) (defScope s__law_no_level) .none kV39 dc39 pm39 an39 cd39 ct39), sl39⟩)
    (c39 : PySem.W.codeIn K cd39 "_law_no_level" = true)
    (k39 : PySem.W.keepIn K (.ref f39) = true)
    (a40 : PySem.W.nsIn K mainGlobals "_law_last_round" = some (some (.ref f40)))
    (l40 : K.lookup f40 = some ⟨oc40, od40, .func (PySem.W.fnOf "_law_last_round" "_law_last_round" (defArgs s__law_last_round) (defBody s__law_last_round) (defScope s__law_last_round) .none kV40 dc40 pm40 an40 cd40 ct40), sl40⟩)
    (c40 : PySem.W.codeIn K cd40 "_law_last_round" = true)
    (k40 : PySem.W.keepIn K (.ref f40) = true)
    (a41 : PySem.W.nsIn K mainGlobals "_law_levels" = some (some (.ref f41)))
    (l41 : K.lookup f41 = some ⟨oc41, od41, .func (PySem.W.fnOf "_law_levels" "_law_levels" (defArgs s__law_levels) (defBody s__law_levels) (defScope s__law_levels) .none kV41 dc41 pm41 an41 cd41 ct41), sl41⟩)
    (c41 : PySem.W.codeIn K cd41 "_law_levels" = true)
    (k41 : PySem.W.keepIn K (.ref f41) = true)
    (a42 : PySem.W.nsIn K mainGlobals "_law_corners" = some (some (.ref f42)))
    (l42 : K.lookup f42 = some ⟨oc42, od42, .func (PySem.W.fnOf "_law_corners" "_law_corners" (defArgs s__law_corners) (defBody s__law_corners) (defScope s__law_corners) .none kV42 dc42 pm42 an42 cd42 ct42), sl42⟩)
    (c42 : PySem.W.codeIn K cd42 "_law_corners" = true)
    (k42 : PySem.W.keepIn K (.ref f42) = true)
    (a43 : PySem.W.nsIn K mainGlobals "_law_other" = some (some (.ref f43)))
    (l43 : K.lookup f43 = some ⟨oc43, od43, .func (PySem.W.fnOf "_law_other" "_law_other" (defArgs s__law_other) (defBody s__law_other) (defScope s__law_other) .none kV43 dc43 pm43 an43 cd43 ct43), sl43⟩)
    (c43 : PySem.W.codeIn K cd43 "_law_other" = true)
    (k43 : PySem.W.keepIn K (.ref f43) = true)
    (a44 : PySem.W.nsIn K mainGlobals "law" = some (some (.ref f44)))
    (l44 : K.lookup f44 = some ⟨oc44, od44, .func (PySem.W.fnOf "law" "law" (defArgs s_law) (defBody s_law) (defScope s_law) .none kV44 dc44 pm44 an44 cd44 ct44), sl44⟩)
    (c44 : PySem.W.codeIn K cd44 "law" = true)
    (k44 : PySem.W.keepIn K (.ref f44) = true)
    (m_abs : PySem.W.nsIn K mainGlobals "abs" = some none)
    (m_bool : PySem.W.nsIn K mainGlobals "bool" = some none)
    (m_enumerate : PySem.W.nsIn K mainGlobals "enumerate" = some none)
    (m_int : PySem.W.nsIn K mainGlobals "int" = some none)
    (m_isinstance : PySem.W.nsIn K mainGlobals "isinstance" = some none)
    (m_len : PySem.W.nsIn K mainGlobals "len" = some none)
    (m_list : PySem.W.nsIn K mainGlobals "list" = some none)
    (m_min : PySem.W.nsIn K mainGlobals "min" = some none)
    (m_range : PySem.W.nsIn K mainGlobals "range" = some none)
    (m_super : PySem.W.nsIn K mainGlobals "super" = some none)
    (m_tuple : PySem.W.nsIn K mainGlobals "tuple" = some none)
    (g_MOST : PySem.W.nsIn K mainGlobals "MOST" = some (some (.int 12 t_MOST)))
    (f_gcd : PySem.W.nsIn K mainGlobals "gcd" = some (some (.builtin "math.gcd")))
    (n_BadNumber : PySem.W.nsIn K mainGlobals "BadNumber" = some (some (.ref C_BadNumber)))
    (n_BadTable : PySem.W.nsIn K mainGlobals "BadTable" = some (some (.ref C_BadTable)))
    (n_BadBox : PySem.W.nsIn K mainGlobals "BadBox" = some (some (.ref C_BadBox)))
    (n_OtherSize : PySem.W.nsIn K mainGlobals "OtherSize" = some (some (.ref C_OtherSize)))
    (n_TooMany : PySem.W.nsIn K mainGlobals "TooMany" = some (some (.ref C_TooMany)))
    (xL_BadNumber : K.lookup C_BadNumber = some (excClassObj nm_BadNumber q_BadNumber C_BadNumber N_BadNumber bs_BadNumber [.ref D0_BadNumber, .type "ValueError", .type "Exception", .type "BaseException", .type "object"] true sn_BadNumber sub_BadNumber ab_BadNumber col_BadNumber dd_BadNumber mA_BadNumber mB_BadNumber mC_BadNumber mD_BadNumber mE_BadNumber "ValueError.__new__"))
    (sa_BadNumber : PySem.W.findIn K (.ref C_BadNumber) "__setattr__" = some (some (.builtin "object.__setattr__")))
    (ga_BadNumber : PySem.W.findIn K (.ref C_BadNumber) "__getattribute__" = some (some (.builtin "BaseException.__getattribute__")))
    (gg_BadNumber : PySem.W.findIn K (.ref C_BadNumber) "__getattr__" = some none)
    (nn_BadNumber_place : PySem.W.findIn K (.ref C_BadNumber) "place" = some none)
    (iC_BadNumber : PySem.W.findIn K (.ref C_BadNumber) "__init__" = some (some (.ref i_BadNumber)))
    (tI_BadNumber : PySem.W.typeIn K (.ref i_BadNumber) = some (.type "function"))
    (kC_BadNumber : PySem.W.keepIn K (.ref C_BadNumber) = true)
    (eC_BadNumber : PySem.W.subIn K (.ref C_BadNumber) (.type "BaseException") = some true)
    (vC_BadNumber : PySem.W.subIn K (.ref C_BadNumber) (.type "ValueError") = some true)
    (tC_BadNumber : PySem.W.typeIn K (.ref C_BadNumber) = some (.type "type"))
    (hC_BadNumber : PySem.W.hasDictIn K C_BadNumber = true)
    (mC_BadNumber : PySem.W.mroIn K C_BadNumber (.ref C_BadNumber) = some true)
    (op_BadNumber : PySem.W.nsIn K cStatics "thirdparty.any" = some none)
    (su_BadNumber : PySem.W.ks_superIn K C_BadNumber C_BadNumber "__init__" = some (some (.builtin "ValueError.__init__")))
    (li_BadNumber : K.lookup i_BadNumber = some ⟨oc_BadNumber, od_BadNumber, .func (PySem.W.ksFn "__init__" "BadNumber.__init__" (defArgs ini_BadNumber) (defBody ini_BadNumber) (defScope ini_BadNumber) .none .none doc_BadNumber pm_BadNumber an_BadNumber (.ref cda_BadNumber) ct_BadNumber cc_BadNumber), osl_BadNumber⟩)
    (ci_BadNumber : PySem.W.codeIn K (.ref cda_BadNumber) "BadNumber.__init__" = true)
    (ld_BadNumber : K.lookup cda_BadNumber = some ⟨ccl_BadNumber, cdd_BadNumber, .fields vs_BadNumber, ccs_BadNumber⟩)
    (lv_BadNumber : vs_BadNumber[2]? = some (.str file_BadNumber tf_BadNumber))
    (lf_BadNumber : ((PySem.Challenge.pw_minusless_k11_corners_and_levels.main.file : Str) == file_BadNumber) = true)
    (lc_BadNumber : K.lookup cc_BadNumber = some ⟨cl_BadNumber, cld_BadNumber, .cell (some (.ref C_BadNumber)), csl_BadNumber⟩)
    (xL_BadTable : K.lookup C_BadTable = some (excClassObj nm_BadTable q_BadTable C_BadTable N_BadTable bs_BadTable [.ref D0_BadTable, .type "ValueError", .type "Exception", .type "BaseException", .type "object"] true sn_BadTable sub_BadTable ab_BadTable col_BadTable dd_BadTable mA_BadTable mB_BadTable mC_BadTable mD_BadTable mE_BadTable "ValueError.__new__"))
    (sa_BadTable : PySem.W.findIn K (.ref C_BadTable) "__setattr__" = some (some (.builtin "object.__setattr__")))
    (ga_BadTable : PySem.W.findIn K (.ref C_BadTable) "__getattribute__" = some (some (.builtin "BaseException.__getattribute__")))
    (gg_BadTable : PySem.W.findIn K (.ref C_BadTable) "__getattr__" = some none)
    (nn_BadTable_row : PySem.W.findIn K (.ref C_BadTable) "row" = some none)
    (iC_BadTable : PySem.W.findIn K (.ref C_BadTable) "__init__" = some (some (.ref i_BadTable)))
    (tI_BadTable : PySem.W.typeIn K (.ref i_BadTable) = some (.type "function"))
    (kC_BadTable : PySem.W.keepIn K (.ref C_BadTable) = true)
    (eC_BadTable : PySem.W.subIn K (.ref C_BadTable) (.type "BaseException") = some true)
    (vC_BadTable : PySem.W.subIn K (.ref C_BadTable) (.type "ValueError") = some true)
    (tC_BadTable : PySem.W.typeIn K (.ref C_BadTable) = some (.type "type"))
    (hC_BadTable : PySem.W.hasDictIn K C_BadTable = true)
    (mC_BadTable : PySem.W.mroIn K C_BadTable (.ref C_BadTable) = some true)
    (op_BadTable : PySem.W.nsIn K cStatics "thirdparty.any" = some none)
    (su_BadTable : PySem.W.ks_superIn K C_BadTable C_BadTable "__init__" = some (some (.builtin "ValueError.__init__")))
    (li_BadTable : K.lookup i_BadTable = some ⟨oc_BadTable, od_BadTable, .func (PySem.W.ksFn "__init__" "BadTable.__init__" (defArgs ini_BadTable) (defBody ini_BadTable) (defScope ini_BadTable) .none .none doc_BadTable pm_BadTable an_BadTable (.ref cda_BadTable) ct_BadTable cc_BadTable), osl_BadTable⟩)
    (ci_BadTable : PySem.W.codeIn K (.ref cda_BadTable) "BadTable.__init__" = true)
    (ld_BadTable : K.lookup cda_BadTable = some ⟨ccl_BadTable, cdd_BadTable, .fields vs_BadTable, ccs_BadTable⟩)
    (lv_BadTable : vs_BadTable[2]? = some (.str file_BadTable tf_BadTable))
    (lf_BadTable : ((PySem.Challenge.pw_minusless_k11_corners_and_levels.main.file : Str) == file_BadTable) = true)
    (lc_BadTable : K.lookup cc_BadTable = some ⟨cl_BadTable, cld_BadTable, .cell (some (.ref C_BadTable)), csl_BadTable⟩)
    (xL_TooMany : K.lookup C_TooMany = some (excClassObj nm_TooMany q_TooMany C_TooMany N_TooMany bs_TooMany [.ref D0_TooMany, .type "ValueError", .type "Exception", .type "BaseException", .type "object"] true sn_TooMany sub_TooMany ab_TooMany col_TooMany dd_TooMany mA_TooMany mB_TooMany mC_TooMany mD_TooMany mE_TooMany "ValueError.__new__"))
    (sa_TooMany : PySem.W.findIn K (.ref C_TooMany) "__setattr__" = some (some (.builtin "object.__setattr__")))
    (ga_TooMany : PySem.W.findIn K (.ref C_TooMany) "__getattribute__" = some (some (.builtin "BaseException.__getattribute__")))
    (gg_TooMany : PySem.W.findIn K (.ref C_TooMany) "__getattr__" = some none)
    (nn_TooMany_bound : PySem.W.findIn K (.ref C_TooMany) "bound" = some none)
    (iC_TooMany : PySem.W.findIn K (.ref C_TooMany) "__init__" = some (some (.ref i_TooMany)))
    (tI_TooMany : PySem.W.typeIn K (.ref i_TooMany) = some (.type "function"))
    (kC_TooMany : PySem.W.keepIn K (.ref C_TooMany) = true)
    (eC_TooMany : PySem.W.subIn K (.ref C_TooMany) (.type "BaseException") = some true)
    (vC_TooMany : PySem.W.subIn K (.ref C_TooMany) (.type "ValueError") = some true)
    (tC_TooMany : PySem.W.typeIn K (.ref C_TooMany) = some (.type "type"))
    (hC_TooMany : PySem.W.hasDictIn K C_TooMany = true)
    (mC_TooMany : PySem.W.mroIn K C_TooMany (.ref C_TooMany) = some true)
    (op_TooMany : PySem.W.nsIn K cStatics "thirdparty.any" = some none)
    (su_TooMany : PySem.W.ks_superIn K C_TooMany C_TooMany "__init__" = some (some (.builtin "ValueError.__init__")))
    (li_TooMany : K.lookup i_TooMany = some ⟨oc_TooMany, od_TooMany, .func (PySem.W.ksFn "__init__" "TooMany.__init__" (defArgs ini_TooMany) (defBody ini_TooMany) (defScope ini_TooMany) .none .none doc_TooMany pm_TooMany an_TooMany (.ref cda_TooMany) ct_TooMany cc_TooMany), osl_TooMany⟩)
    (ci_TooMany : PySem.W.codeIn K (.ref cda_TooMany) "TooMany.__init__" = true)
    (ld_TooMany : K.lookup cda_TooMany = some ⟨ccl_TooMany, cdd_TooMany, .fields vs_TooMany, ccs_TooMany⟩)
    (lv_TooMany : vs_TooMany[2]? = some (.str file_TooMany tf_TooMany))
    (lf_TooMany : ((PySem.Challenge.pw_minusless_k11_corners_and_levels.main.file : Str) == file_TooMany) = true)
    (lc_TooMany : K.lookup cc_TooMany = some ⟨cl_TooMany, cld_TooMany, .cell (some (.ref C_TooMany)), csl_TooMany⟩)
    (xL_BadBox : K.lookup C_BadBox = some (excClassObj nm_BadBox q_BadBox C_BadBox N_BadBox bs_BadBox [.ref D0_BadBox, .type "ValueError", .type "Exception", .type "BaseException", .type "object"] true sn_BadBox sub_BadBox ab_BadBox col_BadBox dd_BadBox mA_BadBox mB_BadBox mC_BadBox mD_BadBox mE_BadBox "ValueError.__new__"))
    (sa_BadBox : PySem.W.findIn K (.ref C_BadBox) "__setattr__" = some (some (.builtin "object.__setattr__")))
    (ga_BadBox : PySem.W.findIn K (.ref C_BadBox) "__getattribute__" = some (some (.builtin "BaseException.__getattribute__")))
    (gg_BadBox : PySem.W.findIn K (.ref C_BadBox) "__getattr__" = some none)
    (nn_BadBox_row : PySem.W.findIn K (.ref C_BadBox) "row" = some none)
    (nn_BadBox_column : PySem.W.findIn K (.ref C_BadBox) "column" = some none)
    (iC_BadBox : PySem.W.findIn K (.ref C_BadBox) "__init__" = some (some (.ref i_BadBox)))
    (tI_BadBox : PySem.W.typeIn K (.ref i_BadBox) = some (.type "function"))
    (kC_BadBox : PySem.W.keepIn K (.ref C_BadBox) = true)
    (eC_BadBox : PySem.W.subIn K (.ref C_BadBox) (.type "BaseException") = some true)
    (vC_BadBox : PySem.W.subIn K (.ref C_BadBox) (.type "ValueError") = some true)
    (tC_BadBox : PySem.W.typeIn K (.ref C_BadBox) = some (.type "type"))
    (hC_BadBox : PySem.W.hasDictIn K C_BadBox = true)
    (mC_BadBox : PySem.W.mroIn K C_BadBox (.ref C_BadBox) = some true)
    (op_BadBox : PySem.W.nsIn K cStatics "thirdparty.any" = some none)
    (su_BadBox : PySem.W.ks_superIn K C_BadBox C_BadBox "__init__" = some (some (.builtin "ValueError.__init__")))
    (li_BadBox : K.lookup i_BadBox = some ⟨oc_BadBox, od_BadBox, .func (PySem.W.ksFn "__init__" "BadBox.__init__" (defArgs ini_BadBox) (defBody ini_BadBox) (defScope ini_BadBox) .none .none doc_BadBox pm_BadBox an_BadBox (.ref cda_BadBox) ct_BadBox cc_BadBox), osl_BadBox⟩)
    (ci_BadBox : PySem.W.codeIn K (.ref cda_BadBox) "BadBox.__init__" = true)
    (ld_BadBox : K.lookup cda_BadBox = some ⟨ccl_BadBox, cdd_BadBox, .fields vs_BadBox, ccs_BadBox⟩)
    (lv_BadBox : vs_BadBox[2]? = some (.str file_BadBox tf_BadBox))
    (lf_BadBox : ((PySem.Challenge.pw_minusless_k11_corners_and_levels.main.file : Str) == file_BadBox) = true)
    (lc_BadBox : K.lookup cc_BadBox = some ⟨cl_BadBox, cld_BadBox, .cell (some (.ref C_BadBox)), csl_BadBox⟩)
    (xL_OtherSize : K.lookup C_OtherSize = some (excClassObj nm_OtherSize q_OtherSize C_OtherSize N_OtherSize bs_OtherSize [.ref D0_OtherSize, .type "ValueError", .type "Exception", .type "BaseException", .type "object"] true sn_OtherSize sub_OtherSize ab_OtherSize col_OtherSize dd_OtherSize mA_OtherSize mB_OtherSize mC_OtherSize mD_OtherSize mE_OtherSize "ValueError.__new__"))
    (sa_OtherSize : PySem.W.findIn K (.ref C_OtherSize) "__setattr__" = some (some (.builtin "object.__setattr__")))
    (ga_OtherSize : PySem.W.findIn K (.ref C_OtherSize) "__getattribute__" = some (some (.builtin "BaseException.__getattribute__")))
    (gg_OtherSize : PySem.W.findIn K (.ref C_OtherSize) "__getattr__" = some none)
    (nn_OtherSize_one : PySem.W.findIn K (.ref C_OtherSize) "one" = some none)
    (nn_OtherSize_other : PySem.W.findIn K (.ref C_OtherSize) "other" = some none)
    (iC_OtherSize : PySem.W.findIn K (.ref C_OtherSize) "__init__" = some (some (.ref i_OtherSize)))
    (tI_OtherSize : PySem.W.typeIn K (.ref i_OtherSize) = some (.type "function"))
    (kC_OtherSize : PySem.W.keepIn K (.ref C_OtherSize) = true)
    (eC_OtherSize : PySem.W.subIn K (.ref C_OtherSize) (.type "BaseException") = some true)
    (vC_OtherSize : PySem.W.subIn K (.ref C_OtherSize) (.type "ValueError") = some true)
    (tC_OtherSize : PySem.W.typeIn K (.ref C_OtherSize) = some (.type "type"))
    (hC_OtherSize : PySem.W.hasDictIn K C_OtherSize = true)
    (mC_OtherSize : PySem.W.mroIn K C_OtherSize (.ref C_OtherSize) = some true)
    (op_OtherSize : PySem.W.nsIn K cStatics "thirdparty.any" = some none)
    (su_OtherSize : PySem.W.ks_superIn K C_OtherSize C_OtherSize "__init__" = some (some (.builtin "ValueError.__init__")))
    (li_OtherSize : K.lookup i_OtherSize = some ⟨oc_OtherSize, od_OtherSize, .func (PySem.W.ksFn "__init__" "OtherSize.__init__" (defArgs ini_OtherSize) (defBody ini_OtherSize) (defScope ini_OtherSize) .none .none doc_OtherSize pm_OtherSize an_OtherSize (.ref cda_OtherSize) ct_OtherSize cc_OtherSize), osl_OtherSize⟩)
    (ci_OtherSize : PySem.W.codeIn K (.ref cda_OtherSize) "OtherSize.__init__" = true)
    (ld_OtherSize : K.lookup cda_OtherSize = some ⟨ccl_OtherSize, cdd_OtherSize, .fields vs_OtherSize, ccs_OtherSize⟩)
    (lv_OtherSize : vs_OtherSize[2]? = some (.str file_OtherSize tf_OtherSize))
    (lf_OtherSize : ((PySem.Challenge.pw_minusless_k11_corners_and_levels.main.file : Str) == file_OtherSize) = true)
    (lc_OtherSize : K.lookup cc_OtherSize = some ⟨cl_OtherSize, cld_OtherSize, .cell (some (.ref C_OtherSize)), csl_OtherSize⟩)
    (xe_BadBox : PySem.W.subIn K (.ref C_BadBox) (.type "BaseException") = some true)
    (xc_BadBox : PySem.W.clsIn K C_BadBox = some ci_xBadBox)
    (xt_BadBox : PySem.W.typeIn K (.ref C_BadBox) = some (.type "type"))
    (xe_TooMany : PySem.W.subIn K (.ref C_TooMany) (.type "BaseException") = some true)
    (xc_TooMany : PySem.W.clsIn K C_TooMany = some ci_xTooMany)
    (xt_TooMany : PySem.W.typeIn K (.ref C_TooMany) = some (.type "type"))
    (xs_BadNumber_BadBox : PySem.W.subIn K (.ref C_BadNumber) (.ref C_BadBox) = some false)
    (xs_BadNumber_TooMany : PySem.W.subIn K (.ref C_BadNumber) (.ref C_TooMany) = some false)
    (xs_BadTable_BadBox : PySem.W.subIn K (.ref C_BadTable) (.ref C_BadBox) = some false)
    (xs_BadTable_TooMany : PySem.W.subIn K (.ref C_BadTable) (.ref C_TooMany) = some false)
    (xs_TooMany_BadBox : PySem.W.subIn K (.ref C_TooMany) (.ref C_BadBox) = some false)
    (xs_TooMany_TooMany : PySem.W.subIn K (.ref C_TooMany) (.ref C_TooMany) = some true)
    (xs_BadBox_BadBox : PySem.W.subIn K (.ref C_BadBox) (.ref C_BadBox) = some true)
    (xs_BadBox_TooMany : PySem.W.subIn K (.ref C_BadBox) (.ref C_TooMany) = some false)
    (xs_OtherSize_BadBox : PySem.W.subIn K (.ref C_OtherSize) (.ref C_BadBox) = some false)
    (xs_OtherSize_TooMany : PySem.W.subIn K (.ref C_OtherSize) (.ref C_TooMany) = some false)
    : ∃ fd : FuncData, (∀ (s : Shared) (v : Value), BindsTo s fd ⟨[v], []⟩ [("_law_script", v)]) ∧ ∀ base : Heap, K.In base → base.Ns mainGlobals mg → FnOk PySem.Challenge.pw_minusless_k11_corners_and_levels w K mg base (L2.CX PySem.Challenge.pw_minusless_k11_corners_and_levels w) 10 fa fd ["_law_script"] (spL K) := by
  have e := hfa.symm.trans (PySem.W.mg_of X G a44)
  cases e
  have F0 := fun_mk (st := s_is_plain_integer) l0 c0 k0
  have b0 := F0.binds (ps := ["value"]) fun _ _ _ _ _ _ us hl => match us, hl with | [_], _ => rfl
  have F1 := fun_mk (st := s_is_number) l1 c1 k1
  have b1 := F1.binds (ps := ["value"]) fun _ _ _ _ _ _ us hl => match us, hl with | [_], _ => rfl
  have F2 := fun_mk (st := s_check_number) l2 c2 k2
  have b2 := F2.binds (ps := ["number"]) fun _ _ _ _ _ _ us hl => match us, hl with | [_], _ => rfl
  have F3 := fun_mk (st := s_check_row) l3 c3 k3
  have b3 := F3.binds (ps := ["row"]) fun _ _ _ _ _ _ us hl => match us, hl with | [_], _ => rfl
  have F4 := fun_mk (st := s_lowest) l4 c4 k4
  have b4 := F4.binds (ps := ["top", "under"]) fun _ _ _ _ _ _ us hl => match us, hl with | [_, _], _ => rfl
  have F5 := fun_mk (st := s_less) l5 c5 k5
  have b5 := F5.binds (ps := ["one", "other"]) fun _ _ _ _ _ _ us hl => match us, hl with | [_, _], _ => rfl
  have F6 := fun_mk (st := s_times) l6 c6 k6
  have b6 := F6.binds (ps := ["one", "other"]) fun _ _ _ _ _ _ us hl => match us, hl with | [_, _], _ => rfl
  have F7 := fun_mk (st := s_over) l7 c7 k7
  have b7 := F7.binds (ps := ["one", "other"]) fun _ _ _ _ _ _ us hl => match us, hl with | [_, _], _ => rfl
  have F8 := fun_mk (st := s_is_place) l8 c8 k8
  have b8 := F8.binds (ps := ["value", "many"]) fun _ _ _ _ _ _ us hl => match us, hl with | [_, _], _ => rfl
  have F9 := fun_mk (st := s_checked_rows) l9 c9 k9
  have b9 := F9.binds (ps := ["rows"]) fun _ _ _ _ _ _ us hl => match us, hl with | [_], _ => rfl
  have F10 := fun_mk (st := s_row_at) l10 c10 k10
  have b10 := F10.binds (ps := ["at", "many"]) fun _ _ _ _ _ _ us hl => match us, hl with | [_, _], _ => rfl
  have F11 := fun_mk (st := s_Table___init__) l11 c11 k11
  have b11 := F11.binds (ps := ["self", "rows"]) fun _ _ _ _ _ _ us hl => match us, hl with | [_, _], _ => rfl
  have F12 := fun_mk (st := s_Table_corner) l12 c12 k12
  have b12 := F12.binds (ps := ["self", "row", "column"]) fun _ _ _ _ _ _ us hl => match us, hl with | [_, _, _], _ => rfl
  have F13 := fun_mk (st := s_full_after) l13 c13 k13
  have b13 := F13.binds (ps := ["row", "column"]) fun _ _ _ _ _ _ us hl => match us, hl with | [_, _], _ => rfl
  have F14 := fun_mk (st := s_pair_of_rows) l14 c14 k14
  have b14 := F14.binds (ps := ["row", "by"]) fun _ _ _ _ _ _ us hl => match us, hl with | [_, _], _ => rfl
  have F15 := fun_mk (st := s_unmade_row) l15 c15 k15
  have b15 := F15.binds (ps := ["row", "by"]) fun _ _ _ _ _ _ us hl => match us, hl with | [_, _], _ => rfl
  have F16 := fun_mk (st := s_rows_above) l16 c16 k16
  have b16 := F16.binds (ps := ["rows"]) fun _ _ _ _ _ _ us hl => match us, hl with | [_], _ => rfl
  have F17 := fun_mk (st := s_unmade) l17 c17 k17
  have b17 := F17.binds (ps := ["table"]) fun _ _ _ _ _ _ us hl => match us, hl with | [_], _ => rfl
  have F18 := fun_mk (st := s_level) l18 c18 k18
  have b18 := F18.binds (ps := ["table", "at"]) fun _ _ _ _ _ _ us hl => match us, hl with | [_, _], _ => rfl
  have F19 := fun_mk (st := s_core_row) l19 c19 k19
  have b19 := F19.binds (ps := ["table", "at"]) fun _ _ _ _ _ _ us hl => match us, hl with | [_, _], _ => rfl
  have F20 := fun_mk (st := s_last_round) l20 c20 k20
  have b20 := F20.binds (ps := ["table"]) fun _ _ _ _ _ _ us hl => match us, hl with | [_], _ => rfl
  have F21 := fun_mk (st := s__law_draws) l21 c21 k21
  have b21 := F21.binds (ps := ["_law_script"]) fun _ _ _ _ _ _ us hl => match us, hl with | [_], _ => rfl
  have F22 := fun_mk (st := s__law_take) l22 c22 k22
  have b22 := F22.binds (ps := ["_law_draws_here", "_law_many"]) fun _ _ _ _ _ _ us hl => match us, hl with | [_, _], _ => rfl
  have F23 := fun_mk (st := s__law_pair) l23 c23 k23
  have b23 := F23.binds (ps := ["_law_top", "_law_under"]) fun _ _ _ _ _ _ us hl => match us, hl with | [_, _], _ => rfl
  have F24 := fun_mk (st := s__law_less) l24 c24 k24
  have b24 := F24.binds (ps := ["_law_one", "_law_other_here"]) fun _ _ _ _ _ _ us hl => match us, hl with | [_, _], _ => rfl
  have F25 := fun_mk (st := s__law_times) l25 c25 k25
  have b25 := F25.binds (ps := ["_law_one", "_law_other_here"]) fun _ _ _ _ _ _ us hl => match us, hl with | [_, _], _ => rfl
  have F26 := fun_mk (st := s__law_over) l26 c26 k26
  have b26 := F26.binds (ps := ["_law_one", "_law_other_here"]) fun _ _ _ _ _ _ us hl => match us, hl with | [_, _], _ => rfl
  have F27 := fun_mk (st := s__law_is_number) l27 c27 k27
  have b27 := F27.binds (ps := ["_law_value"]) fun _ _ _ _ _ _ us hl => match us, hl with | [_], _ => rfl
  have F28 := fun_mk (st := s__law_is_rows) l28 c28 k28
  have b28 := F28.binds (ps := ["_law_value", "_law_high", "_law_wide"]) fun _ _ _ _ _ _ us hl => match us, hl with | [_, _, _], _ => rfl
  have F29 := fun_mk (st := s__law_fixed) l29 c29 k29
  have b29 := F29.binds (ps := ["_law_rows"]) fun _ _ _ _ _ _ us hl => match us, hl with | [_], _ => rfl
  have F30 := fun_mk (st := s__law_copy) l30 c30 k30
  have b30 := F30.binds (ps := ["_law_rows"]) fun _ _ _ _ _ _ us hl => match us, hl with | [_], _ => rfl
  have F31 := fun_mk (st := s__law_next) l31 c31 k31
  have b31 := F31.binds (ps := ["_law_row", "_law_column"]) fun _ _ _ _ _ _ us hl => match us, hl with | [_, _], _ => rfl
  have F32 := fun_mk (st := s__law_unmade_row) l32 c32 k32
  have b32 := F32.binds (ps := ["_law_row", "_law_by"]) fun _ _ _ _ _ _ us hl => match us, hl with | [_, _], _ => rfl
  have F33 := fun_mk (st := s__law_unmade) l33 c33 k33
  have b33 := F33.binds (ps := ["_law_rows"]) fun _ _ _ _ _ _ us hl => match us, hl with | [_], _ => rfl
  have F34 := fun_mk (st := s__law_level) l34 c34 k34
  have b34 := F34.binds (ps := ["_law_rows", "_law_last"]) fun _ _ _ _ _ _ us hl => match us, hl with | [_, _], _ => rfl
  have F35 := fun_mk (st := s__law_any) l35 c35 k35
  have b35 := F35.binds (ps := ["_law_draws_here"]) fun _ _ _ _ _ _ us hl => match us, hl with | [_], _ => rfl
  have F36 := fun_mk (st := s__law_size) l36 c36 k36
  have b36 := F36.binds (ps := ["_law_draws_here", "_law_most"]) fun _ _ _ _ _ _ us hl => match us, hl with | [_, _], _ => rfl
  have F37 := fun_mk (st := s__law_signed) l37 c37 k37
  have b37 := F37.binds (ps := ["_law_draws_here"]) fun _ _ _ _ _ _ us hl => match us, hl with | [_], _ => rfl
  have F38 := fun_mk (st := s__law_same) l38 c38 k38
  have b38 := F38.binds (ps := ["_law_told", "_law_due"]) fun _ _ _ _ _ _ us hl => match us, hl with | [_, _], _ => rfl
  have F39 := fun_mk (st := s__law_no_level) l39 c39 k39
  have b39 := F39.binds (ps := ["_law_table", "_law_at"]) fun _ _ _ _ _ _ us hl => match us, hl with | [_, _], _ => rfl
  have F40 := fun_mk (st := s__law_last_round) l40 c40 k40
  have b40 := F40.binds (ps := ["_law_table", "_law_rows"]) fun _ _ _ _ _ _ us hl => match us, hl with | [_, _], _ => rfl
  have F41 := fun_mk (st := s__law_levels) l41 c41 k41
  have b41 := F41.binds (ps := ["_law_table", "_law_rows", "_law_core"]) fun _ _ _ _ _ _ us hl => match us, hl with | [_, _, _], _ => rfl
  have F42 := fun_mk (st := s__law_corners) l42 c42 k42
  have b42 := F42.binds (ps := ["_law_table", "_law_core"]) fun _ _ _ _ _ _ us hl => match us, hl with | [_, _], _ => rfl
  have F43 := fun_mk (st := s__law_other) l43 c43 k43
  have b43 := F43.binds (ps := ["_law_draws_here", "_law_rows", "_law_r", "_law_c"]) fun _ _ _ _ _ _ us hl => match us, hl with | [_, _, _, _], _ => rfl
  have F44 := fun_mk (st := s_law) l44 c44 k44
  have b44 := F44.binds (ps := ["_law_script"]) fun _ _ _ _ _ _ us hl => match us, hl with | [_], _ => rfl
  have x : { x : Fx K mg // x.a_law = fa ∧ x.fd_law = PySem.W.fnOf "law" "law" (defArgs s_law) (defBody s_law) (defScope s_law) .none kV44 dc44 pm44 an44 cd44 ct44 } := ⟨{
    a_is_plain_integer := f0, fd_is_plain_integer := _, F_is_plain_integer := F0, b_is_plain_integer := b0, g_is_plain_integer := PySem.W.mg_of X G a0,
    a_is_number := f1, fd_is_number := _, F_is_number := F1, b_is_number := b1, g_is_number := PySem.W.mg_of X G a1,
    a_check_number := f2, fd_check_number := _, F_check_number := F2, b_check_number := b2, g_check_number := PySem.W.mg_of X G a2,
    a_check_row := f3, fd_check_row := _, F_check_row := F3, b_check_row := b3, g_check_row := PySem.W.mg_of X G a3,
    a_lowest := f4, fd_lowest := _, F_lowest := F4, b_lowest := b4, g_lowest := PySem.W.mg_of X G a4,
    a_less := f5, fd_less := _, F_less := F5, b_less := b5, g_less := PySem.W.mg_of X G a5,
    a_times := f6, fd_times := _, F_times := F6, b_times := b6, g_times := PySem.W.mg_of X G a6,
    a_over := f7, fd_over := _, F_over := F7, b_over := b7, g_over := PySem.W.mg_of X G a7,
    a_is_place := f8, fd_is_place := _, F_is_place := F8, b_is_place := b8, g_is_place := PySem.W.mg_of X G a8,
    a_checked_rows := f9, fd_checked_rows := _, F_checked_rows := F9, b_checked_rows := b9, g_checked_rows := PySem.W.mg_of X G a9,
    a_row_at := f10, fd_row_at := _, F_row_at := F10, b_row_at := b10, g_row_at := PySem.W.mg_of X G a10,
    a_Table___init__ := f11, fd_Table___init__ := _, F_Table___init__ := F11, b_Table___init__ := b11,
    M_Table := ⟨wm_Table, a11, i11, wk_Table⟩, O_Table := ⟨_, PySem.W.mg_of X G n_Table, ⟨pg_Table, hd_Table, po_Table, ws_Table⟩, (fun n hn => by simp only [List.mem_cons, List.not_mem_nil, or_false] at hn; rcases hn with rfl | rfl | rfl <;> first | exact nf_Table_rows | exact nf_Table_high | exact nf_Table_wide), wc_Table, wg_Table, wt_Table, wo_Table⟩,
    a_Table_corner := f12, fd_Table_corner := _, F_Table_corner := F12, b_Table_corner := b12,
    Me_Table_corner := ⟨a12, i12, k12⟩,
    a_full_after := f13, fd_full_after := _, F_full_after := F13, b_full_after := b13, g_full_after := PySem.W.mg_of X G a13,
    a_pair_of_rows := f14, fd_pair_of_rows := _, F_pair_of_rows := F14, b_pair_of_rows := b14, g_pair_of_rows := PySem.W.mg_of X G a14,
    a_unmade_row := f15, fd_unmade_row := _, F_unmade_row := F15, b_unmade_row := b15, g_unmade_row := PySem.W.mg_of X G a15,
    a_rows_above := f16, fd_rows_above := _, F_rows_above := F16, b_rows_above := b16, g_rows_above := PySem.W.mg_of X G a16,
    a_unmade := f17, fd_unmade := _, F_unmade := F17, b_unmade := b17, g_unmade := PySem.W.mg_of X G a17,
    a_level := f18, fd_level := _, F_level := F18, b_level := b18, g_level := PySem.W.mg_of X G a18,
    a_core_row := f19, fd_core_row := _, F_core_row := F19, b_core_row := b19, g_core_row := PySem.W.mg_of X G a19,
    a_last_round := f20, fd_last_round := _, F_last_round := F20, b_last_round := b20, g_last_round := PySem.W.mg_of X G a20,
    a__law_draws := f21, fd__law_draws := _, F__law_draws := F21, b__law_draws := b21, g__law_draws := PySem.W.mg_of X G a21,
    a__law_take := f22, fd__law_take := _, F__law_take := F22, b__law_take := b22, g__law_take := PySem.W.mg_of X G a22,
    a__law_pair := f23, fd__law_pair := _, F__law_pair := F23, b__law_pair := b23, g__law_pair := PySem.W.mg_of X G a23,
    a__law_less := f24, fd__law_less := _, F__law_less := F24, b__law_less := b24, g__law_less := PySem.W.mg_of X G a24,
    a__law_times := f25, fd__law_times := _, F__law_times := F25, b__law_times := b25, g__law_times := PySem.W.mg_of X G a25,
    a__law_over := f26, fd__law_over := _, F__law_over := F26, b__law_over := b26, g__law_over := PySem.W.mg_of X G a26,
    a__law_is_number := f27, fd__law_is_number := _, F__law_is_number := F27, b__law_is_number := b27, g__law_is_number := PySem.W.mg_of X G a27,
    a__law_is_rows := f28, fd__law_is_rows := _, F__law_is_rows := F28, b__law_is_rows := b28, g__law_is_rows := PySem.W.mg_of X G a28,
    a__law_fixed := f29, fd__law_fixed := _, F__law_fixed := F29, b__law_fixed := b29, g__law_fixed := PySem.W.mg_of X G a29,
    a__law_copy := f30, fd__law_copy := _, F__law_copy := F30, b__law_copy := b30, g__law_copy := PySem.W.mg_of X G a30,
    a__law_next := f31, fd__law_next := _, F__law_next := F31, b__law_next := b31, g__law_next := PySem.W.mg_of X G a31,
    a__law_unmade_row := f32, fd__law_unmade_row := _, F__law_unmade_row := F32, b__law_unmade_row := b32, g__law_unmade_row := PySem.W.mg_of X G a32,
    a__law_unmade := f33, fd__law_unmade := _, F__law_unmade := F33, b__law_unmade := b33, g__law_unmade := PySem.W.mg_of X G a33,
    a__law_level := f34, fd__law_level := _, F__law_level := F34, b__law_level := b34, g__law_level := PySem.W.mg_of X G a34,
    a__law_any := f35, fd__law_any := _, F__law_any := F35, b__law_any := b35, g__law_any := PySem.W.mg_of X G a35,
    a__law_size := f36, fd__law_size := _, F__law_size := F36, b__law_size := b36, g__law_size := PySem.W.mg_of X G a36,
    a__law_signed := f37, fd__law_signed := _, F__law_signed := F37, b__law_signed := b37, g__law_signed := PySem.W.mg_of X G a37,
    a__law_same := f38, fd__law_same := _, F__law_same := F38, b__law_same := b38, g__law_same := PySem.W.mg_of X G a38,
    a__law_no_level := f39, fd__law_no_level := _, F__law_no_level := F39, b__law_no_level := b39, g__law_no_level := PySem.W.mg_of X G a39,
    a__law_last_round := f40, fd__law_last_round := _, F__law_last_round := F40, b__law_last_round := b40, g__law_last_round := PySem.W.mg_of X G a40,
    a__law_levels := f41, fd__law_levels := _, F__law_levels := F41, b__law_levels := b41, g__law_levels := PySem.W.mg_of X G a41,
    a__law_corners := f42, fd__law_corners := _, F__law_corners := F42, b__law_corners := b42, g__law_corners := PySem.W.mg_of X G a42,
    a__law_other := f43, fd__law_other := _, F__law_other := F43, b__law_other := b43, g__law_other := PySem.W.mg_of X G a43,
    a_law := fa, fd_law := _, F_law := F44, b_law := b44, g_law := PySem.W.mg_of X G a44,
    f_gcd := PySem.W.mg_of X G f_gcd,
    m_abs := PySem.W.mg_none_of X G m_abs,
    m_bool := PySem.W.mg_none_of X G m_bool,
    m_enumerate := PySem.W.mg_none_of X G m_enumerate,
    m_int := PySem.W.mg_none_of X G m_int,
    m_isinstance := PySem.W.mg_none_of X G m_isinstance,
    m_len := PySem.W.mg_none_of X G m_len,
    m_list := PySem.W.mg_none_of X G m_list,
    m_min := PySem.W.mg_none_of X G m_min,
    m_range := PySem.W.mg_none_of X G m_range,
    m_tuple := PySem.W.mg_none_of X G m_tuple,
    c_MOST := ⟨_, PySem.W.mg_of X G g_MOST⟩,
    C_BadNumber := C_BadNumber, k_BadNumber := PySem.W.mg_of X G n_BadNumber,
    C_BadTable := C_BadTable, k_BadTable := PySem.W.mg_of X G n_BadTable,
    C_BadBox := C_BadBox, k_BadBox := PySem.W.mg_of X G n_BadBox,
    C_OtherSize := C_OtherSize, k_OtherSize := PySem.W.mg_of X G n_OtherSize,
    C_TooMany := C_TooMany, k_TooMany := PySem.W.mg_of X G n_TooMany,
    C_Table := C_Table, k_Table := PySem.W.mg_of X G n_Table,
    i_BadNumber := i_BadNumber, X_BadNumber := { gC := PySem.W.mg_of X G n_BadNumber, cls := ⟨_, _, _, _, _, _, _, _, _, _, _, _, _, _, _, xL_BadNumber, rfl⟩, sa := sa_BadNumber, ga := ga_BadNumber, gg := gg_BadNumber, noN := (fun n hn => by simp only [List.mem_cons, List.not_mem_nil, or_false] at hn; subst hn; exact nn_BadNumber_place), iC := iC_BadNumber, tI := tI_BadNumber, kC := kC_BadNumber, exC := eC_BadNumber, veC := vC_BadNumber, tyC := tC_BadNumber, hdC := hC_BadNumber, selfC := mC_BadNumber, opq := op_BadNumber, sup := su_BadNumber, gS := PySem.W.mg_none_of X G m_super, top := by decide +kernel },
    I_BadNumber := ⟨⟨_, _, _, _, _, _, _, _, _, li_BadNumber, ci_BadNumber, ⟨_, _, _, _, _, _, ld_BadNumber, lv_BadNumber, lf_BadNumber⟩, ⟨_, _, _, lc_BadNumber⟩⟩⟩,
    i_BadTable := i_BadTable, X_BadTable := { gC := PySem.W.mg_of X G n_BadTable, cls := ⟨_, _, _, _, _, _, _, _, _, _, _, _, _, _, _, xL_BadTable, rfl⟩, sa := sa_BadTable, ga := ga_BadTable, gg := gg_BadTable, noN := (fun n hn => by simp only [List.mem_cons, List.not_mem_nil, or_false] at hn; subst hn; exact nn_BadTable_row), iC := iC_BadTable, tI := tI_BadTable, kC := kC_BadTable, exC := eC_BadTable, veC := vC_BadTable, tyC := tC_BadTable, hdC := hC_BadTable, selfC := mC_BadTable, opq := op_BadTable, sup := su_BadTable, gS := PySem.W.mg_none_of X G m_super, top := by decide +kernel },
    I_BadTable := ⟨⟨_, _, _, _, _, _, _, _, _, li_BadTable, ci_BadTable, ⟨_, _, _, _, _, _, ld_BadTable, lv_BadTable, lf_BadTable⟩, ⟨_, _, _, lc_BadTable⟩⟩⟩,
    i_TooMany := i_TooMany, X_TooMany := { gC := PySem.W.mg_of X G n_TooMany, cls := ⟨_, _, _, _, _, _, _, _, _, _, _, _, _, _, _, xL_TooMany, rfl⟩, sa := sa_TooMany, ga := ga_TooMany, gg := gg_TooMany, noN := (fun n hn => by simp only [List.mem_cons, List.not_mem_nil, or_false] at hn; subst hn; exact nn_TooMany_bound), iC := iC_TooMany, tI := tI_TooMany, kC := kC_TooMany, exC := eC_TooMany, veC := vC_TooMany, tyC := tC_TooMany, hdC := hC_TooMany, selfC := mC_TooMany, opq := op_TooMany, sup := su_TooMany, gS := PySem.W.mg_none_of X G m_super, top := by decide +kernel },
    I_TooMany := ⟨⟨_, _, _, _, _, _, _, _, _, li_TooMany, ci_TooMany, ⟨_, _, _, _, _, _, ld_TooMany, lv_TooMany, lf_TooMany⟩, ⟨_, _, _, lc_TooMany⟩⟩⟩,
    i_BadBox := i_BadBox, X_BadBox := { gC := PySem.W.mg_of X G n_BadBox, cls := ⟨_, _, _, _, _, _, _, _, _, _, _, _, _, _, _, xL_BadBox, rfl⟩, sa := sa_BadBox, ga := ga_BadBox, gg := gg_BadBox, noN := (fun n hn => by simp only [List.mem_cons, List.not_mem_nil, or_false] at hn; rcases hn with rfl | rfl <;> first | exact nn_BadBox_row | exact nn_BadBox_column), iC := iC_BadBox, tI := tI_BadBox, kC := kC_BadBox, exC := eC_BadBox, veC := vC_BadBox, tyC := tC_BadBox, hdC := hC_BadBox, selfC := mC_BadBox, opq := op_BadBox, sup := su_BadBox, gS := PySem.W.mg_none_of X G m_super, top := by decide +kernel },
    I_BadBox := ⟨⟨_, _, _, _, _, _, _, _, _, li_BadBox, ci_BadBox, ⟨_, _, _, _, _, _, ld_BadBox, lv_BadBox, lf_BadBox⟩, ⟨_, _, _, lc_BadBox⟩⟩⟩,
    i_OtherSize := i_OtherSize, X_OtherSize := { gC := PySem.W.mg_of X G n_OtherSize, cls := ⟨_, _, _, _, _, _, _, _, _, _, _, _, _, _, _, xL_OtherSize, rfl⟩, sa := sa_OtherSize, ga := ga_OtherSize, gg := gg_OtherSize, noN := (fun n hn => by simp only [List.mem_cons, List.not_mem_nil, or_false] at hn; rcases hn with rfl | rfl <;> first | exact nn_OtherSize_one | exact nn_OtherSize_other), iC := iC_OtherSize, tI := tI_OtherSize, kC := kC_OtherSize, exC := eC_OtherSize, veC := vC_OtherSize, tyC := tC_OtherSize, hdC := hC_OtherSize, selfC := mC_OtherSize, opq := op_OtherSize, sup := su_OtherSize, gS := PySem.W.mg_none_of X G m_super, top := by decide +kernel },
    I_OtherSize := ⟨⟨_, _, _, _, _, _, _, _, _, li_OtherSize, ci_OtherSize, ⟨_, _, _, _, _, _, ld_OtherSize, lv_OtherSize, lf_OtherSize⟩, ⟨_, _, _, lc_OtherSize⟩⟩⟩,
    r_BadNumber_BadBox := exm_mk xe_BadBox xc_BadBox xt_BadBox xs_BadNumber_BadBox,
    r_BadNumber_TooMany := exm_mk xe_TooMany xc_TooMany xt_TooMany xs_BadNumber_TooMany,
    r_BadTable_BadBox := exm_mk xe_BadBox xc_BadBox xt_BadBox xs_BadTable_BadBox,
    r_BadTable_TooMany := exm_mk xe_TooMany xc_TooMany xt_TooMany xs_BadTable_TooMany,
    r_TooMany_BadBox := exm_mk xe_BadBox xc_BadBox xt_BadBox xs_TooMany_BadBox,
    r_TooMany_TooMany := exm_mk xe_TooMany xc_TooMany xt_TooMany xs_TooMany_TooMany,
    r_BadBox_BadBox := exm_mk xe_BadBox xc_BadBox xt_BadBox xs_BadBox_BadBox,
    r_BadBox_TooMany := exm_mk xe_TooMany xc_TooMany xt_TooMany xs_BadBox_TooMany,
    r_OtherSize_BadBox := exm_mk xe_BadBox xc_BadBox xt_BadBox xs_OtherSize_BadBox,
    r_OtherSize_TooMany := exm_mk xe_TooMany xc_TooMany xt_TooMany xs_OtherSize_TooMany }, rfl, rfl⟩
  obtain ⟨x, e1, e2⟩ := x
  refine ⟨x.fd_law, fun s v => by rw [e2]; exact .of_eq rfl, fun base _ _ => ?_⟩
  rw [← e1]
  exact (ok_law (w := w) (base := base) x).imp (plain_sp hp)
end G

namespace MV
open PySem PySem.Spec PyProof.Rows L2
/-- a number as the program holds it -/
abbrev qT (r : Rat) : T := .tup [.v (.int r.num), .v (.int (r.den : Int))]
def Lt2 (x n : Nat) : Prop := x ≤ 2 ^ n
theorem Lt2.mono {x n m : Nat} (h : Lt2 x n) (k : n ≤ m) : Lt2 x m := Nat.le_trans h (Nat.pow_le_pow_right (by decide) k)
theorem Lt2.mul {x y n m : Nat} (h : Lt2 x n) (k : Lt2 y m) : Lt2 (x * y) (n + m) := by
  unfold Lt2 at *
  rw [Nat.pow_add]
  exact Nat.mul_le_mul h k
theorem Lt2.add {x y n : Nat} (h : Lt2 x n) (k : Lt2 y n) : Lt2 (x + y) (n + 1) := by
  unfold Lt2 at *
  rw [Nat.pow_succ]
  omega
theorem Lt2.le {x y n : Nat} (h : Lt2 y n) (k : x ≤ y) : Lt2 x n := Nat.le_trans k h
theorem Lt2.log' {x n : Nat} (h : Lt2 x n) : x.log2 ≤ n := by
  by_cases z : x = 0
  · subst z
    have : Nat.log2 0 = 0 := by decide
    omega
  · have h2 : x < 2 ^ (n + 1) := by
      have : 2 ^ n < 2 ^ (n + 1) := Nat.pow_lt_pow_right (by decide) (Nat.lt_succ_self n)
      exact Nat.lt_of_le_of_lt h this
    have := (Nat.log2_lt z).mpr h2
    omega
theorem mulB_of {i j : Int} {n m : Nat} (h : Lt2 i.natAbs n) (k : Lt2 j.natAbs m) (l : n + m < 1000000) : mulB i j = true := by
  unfold mulB
  have := h.log'
  have := k.log'
  simp only [decide_eq_true_eq]
  omega
theorem times_int {i j : Int} (h : mulB i j = true) : sTimes (.v (.int i)) (.v (.int j)) = some (.v (.int (i * j))) := by
  unfold sTimes sOr sMul iOp
  simp [h]
theorem plus_int (i j : Int) : sPlus (.v (.int i)) (.v (.int j)) = some (.v (.int (i + j))) := by
  unfold sPlus sOr sAdd iOp
  simp
theorem sub_intT (i j : Int) : sSub (.v (.int i)) (.v (.int j)) = some (.v (.int (i - j))) := rfl
/-- a number of bounded size -/
structure Bd (n d : Nat) (r : Rat) : Prop where
  n : Lt2 r.num.natAbs n
  d : Lt2 r.den d
theorem Bd.mono {n d n' d' : Nat} {r : Rat} (h : Bd n d r) (a : n ≤ n') (b : d ≤ d') : Bd n' d' r := ⟨h.n.mono a, h.d.mono b⟩
theorem divInt_bd {a b : Int} {n d : Nat} (h : Lt2 a.natAbs n) (k : Lt2 b.natAbs d) : Bd n d (Rat.divInt a b) := by
  constructor
  · rw [Rat.num_divInt]
    refine h.le ?_
    refine Nat.le_trans (Int.natAbs_ediv_le_natAbs _ _) ?_
    rw [Int.natAbs_mul]
    have : b.sign.natAbs ≤ 1 := by rw [Int.natAbs_sign]; split <;> omega
    calc b.sign.natAbs * a.natAbs ≤ 1 * a.natAbs := Nat.mul_le_mul_right _ this
      _ = a.natAbs := Nat.one_mul _
  · rw [Rat.den_divInt]
    split
    · exact Nat.one_le_two_pow
    · exact k.le (Nat.div_le_self _ _)
theorem add_div (a b : Rat) : a + b = Rat.divInt (a.num * b.den + b.num * a.den) ((a.den : Int) * b.den) := by
  rw [Rat.add_def', ← Rat.divInt_ofNat]
  congr 1
theorem sub_div (a b : Rat) : a - b = Rat.divInt (a.num * b.den - b.num * a.den) ((a.den : Int) * b.den) := by
  rw [Rat.sub_def', ← Rat.divInt_ofNat]
  congr 1
theorem mul_div (a b : Rat) : a * b = Rat.divInt (a.num * b.num) ((a.den : Int) * b.den) := by
  rw [Rat.mul_def', ← Rat.divInt_ofNat]
  congr 1
theorem div_div (a b : Rat) (h : b.num ≠ 0) : a / b = Rat.divInt (a.num * b.den) ((a.den : Int) * b.num) := by
  rw [Rat.divInt_eq_div]
  have ha : a = (a.num : Rat) / (a.den : Rat) := by
    have := (Rat.mkRat_self a).symm
    rw [Rat.mkRat_eq_div] at this
    exact this
  have hb : b = (b.num : Rat) / (b.den : Rat) := by
    have := (Rat.mkRat_self b).symm
    rw [Rat.mkRat_eq_div] at this
    exact this
  have h1 : (a.den : Rat) ≠ 0 := by exact_mod_cast a.den_nz
  have h2 : (b.den : Rat) ≠ 0 := by exact_mod_cast b.den_nz
  have h3 : (b.num : Rat) ≠ 0 := by exact_mod_cast h
  have e1 : (((a.num * (b.den : Int) : Int)) : Rat) = (a.num : Rat) * (b.den : Rat) := by push_cast; all_goals rfl
  have e2 : ((((a.den : Int) * b.num : Int)) : Rat) = (a.den : Rat) * (b.num : Rat) := by push_cast; all_goals rfl
  rw [e1, e2]
  generalize (a.num : Rat) = p at *
  generalize (a.den : Rat) = q at *
  generalize (b.num : Rat) = u at *
  generalize (b.den : Rat) = v at *
  subst ha hb
  grind
section
variable {a b : Rat} {na da nb db n d : Nat}
theorem Bd.add (A : Bd na da a) (B : Bd nb db b) (h1 : na + db + 1 ≤ n) (h2 : nb + da + 1 ≤ n) (h3 : da + db ≤ d) : Bd n d (a + b) := by
  rw [add_div]
  refine divInt_bd ?_ ?_
  · obtain ⟨m, rfl⟩ : ∃ m, n = m + 1 := ⟨n - 1, by omega⟩
    refine Lt2.le (Lt2.add ((A.n.mul B.d).mono (by omega : na + db ≤ m)) ((B.n.mul A.d).mono (by omega : nb + da ≤ m))) ?_
    refine Nat.le_trans (Int.natAbs_add_le _ _) ?_
    simp [Int.natAbs_mul]
  · refine Lt2.le ((A.d.mul B.d).mono h3) ?_
    simp [Int.natAbs_mul]
theorem Bd.neg (A : Bd na da a) : Bd na da (-a) := ⟨by simpa using A.n, by simpa using A.d⟩
theorem Bd.sub (A : Bd na da a) (B : Bd nb db b) (h1 : na + db + 1 ≤ n) (h2 : nb + da + 1 ≤ n) (h3 : da + db ≤ d) : Bd n d (a - b) := by
  rw [Rat.sub_eq_add_neg]
  exact A.add B.neg h1 h2 h3
theorem Bd.mul (A : Bd na da a) (B : Bd nb db b) (h1 : na + nb ≤ n) (h3 : da + db ≤ d) : Bd n d (a * b) := by
  rw [mul_div]
  refine divInt_bd ?_ ?_
  · refine Lt2.le ((A.n.mul B.n).mono h1) ?_
    simp [Int.natAbs_mul]
  · refine Lt2.le ((A.d.mul B.d).mono h3) ?_
    simp [Int.natAbs_mul]
theorem num_ne (h : b ≠ 0) : b.num ≠ 0 := fun z => h (Rat.num_eq_zero.mp z)
theorem Bd.div (A : Bd na da a) (B : Bd nb db b) (hb : b ≠ 0) (h1 : na + db ≤ n) (h3 : da + nb ≤ d) : Bd n d (a / b) := by
  rw [div_div a b (num_ne hb)]
  refine divInt_bd ?_ ?_
  · refine Lt2.le ((A.n.mul B.d).mono h1) ?_
    simp [Int.natAbs_mul]
  · refine Lt2.le ((A.d.mul B.n).mono h3) ?_
    simp [Int.natAbs_mul]
theorem Bd.zero : Bd n d 0 := ⟨Nat.zero_le _, Nat.one_le_two_pow⟩
end
/-- what both ways of lowest terms come to -/
theorem low_div (a b : Int) (hb : b ≠ 0) : (if b < 0 then a.fdiv (-((Nat.gcd a.natAbs b.natAbs : Nat) : Int)) else a.fdiv ((Nat.gcd a.natAbs b.natAbs : Nat) : Int)) = (Rat.divInt a b).num ∧
    (if b < 0 then b.fdiv (-((Nat.gcd a.natAbs b.natAbs : Nat) : Int)) else b.fdiv ((Nat.gcd a.natAbs b.natAbs : Nat) : Int)) = ((Rat.divInt a b).den : Int) := by
  have eg : b.gcd a = Nat.gcd a.natAbs b.natAbs := by unfold Int.gcd; exact Nat.gcd_comm _ _
  have gn : (0 : Int) ≤ ((Nat.gcd a.natAbs b.natAbs : Nat) : Int) := Int.natCast_nonneg _
  rw [Rat.num_divInt, Rat.den_divInt, if_neg hb, eg]
  generalize Nat.gcd a.natAbs b.natAbs = g at *
  by_cases h : b < 0
  · rw [if_pos h, if_pos h]
    have s : b.sign = -1 := Int.sign_eq_neg_one_of_neg h
    rw [s]
    have e : ∀ x : Int, x.fdiv (-(g : Int)) = (-x) / (g : Int) := fun x => by
      have := Int.neg_fdiv_neg (-x) (g : Int)
      rw [Int.neg_neg] at this
      rw [this, Int.fdiv_eq_ediv_of_nonneg _ gn]
    rw [e, e]
    have hb2 : -b = ((b.natAbs : Nat) : Int) := by omega
    rw [hb2]
    exact ⟨by simp, by simp⟩
  · rw [if_neg h, if_neg h]
    have s : b.sign = 1 := Int.sign_eq_one_of_pos (by omega)
    rw [s, Int.fdiv_eq_ediv_of_nonneg _ gn, Int.fdiv_eq_ediv_of_nonneg _ gn]
    have hb2 : b = ((b.natAbs : Nat) : Int) := by omega
    refine ⟨by simp, ?_⟩
    conv => lhs; rw [hb2]
    simp
theorem divG_of {j : Int} {n : Nat} (h : j ≠ 0) (k : Lt2 j.natAbs n) (l : n < 9000) : divG j = true := by
  unfold divG
  simp only [Bool.and_eq_true, decide_eq_true_eq]
  exact ⟨h, Nat.lt_of_le_of_lt k.log' l⟩
theorem gDiv_int {i j : Int} (h : divG j = true) : gDiv (.v (.int i)) (.v (.int j)) = some (.v (.int (i.fdiv j))) := by
  unfold gDiv iOp
  simp [h]
end MV
namespace G
open PySem PySem.Spec PyProof.Rows L2 MV
theorem x_plain (i : Int) : m_is_plain_integer [.v (.int i)] = .ok (.v (.bl true)) .hole := by
  apply fn_rt (σ := [.v (.int i)])
  simp [b_is_plain_integer, tyT, BT.isa]
theorem x_num (r : Rat) : m_is_number [qT r] = .ok (.v (.bl true)) .hole := by
  apply fn_rt (σ := [qT r, .v (.int (r.den : Int)), .v (.int r.num)])
  have h1 : (1 : Int) ≤ r.den := by have := r.den_pos; omega
  have h2 : Nat.gcd r.num.natAbs r.den = 1 := r.reduced
  simp [b_is_number, tyT, BT.isa, mLenN, live, lenT, seqA, x_plain, sGe, iOp, sGcd, h1, h2, fEq, fNe]
theorem x_check (r : Rat) : m_check_number [qT r] = .ok (qT r) .hole := by
  apply fn_rt (σ := [.hole])
  simp [b_check_number, x_num, mRetM]
theorem x_lowest {a b : Int} {n : Nat} (hb : b ≠ 0) (k : Lt2 b.natAbs n) (l : n < 9000) : m_lowest [.v (.int a), .v (.int b)] = .ok (qT (Rat.divInt a b)) .hole := by
  obtain ⟨e1, e2⟩ := low_div a b hb
  have g0 : Nat.gcd a.natAbs b.natAbs ≠ 0 := fun z => hb (by have := Nat.eq_zero_of_gcd_eq_zero_right z; omega)
  have gl : Nat.gcd a.natAbs b.natAbs ≤ b.natAbs := Nat.gcd_le_right _ (by omega)
  by_cases h : b < 0
  · rw [if_pos h] at e1 e2
    apply fn_rt (σ := [.v (.int a), .v (.int b), .v (.int (-((Nat.gcd a.natAbs b.natAbs : Nat) : Int)))])
    have dg : divG (-((Nat.gcd a.natAbs b.natAbs : Nat) : Int)) = true := divG_of (by omega) (k.le (by omega)) l
    simp [b_lowest, sGcd, sLt, iOp, h, gDiv_int dg, e1, e2, szB]
  · rw [if_neg h] at e1 e2
    apply fn_rt (σ := [.v (.int a), .v (.int b), .v (.int ((Nat.gcd a.natAbs b.natAbs : Nat) : Int))])
    have dg : divG ((Nat.gcd a.natAbs b.natAbs : Nat) : Int) = true := divG_of (by omega) (k.le (by omega)) l
    simp [b_lowest, sGcd, sLt, iOp, h, gDiv_int dg, e1, e2, szB]
section
variable {a b : Rat} {na da nb db : Nat} (A : Bd na da a) (B : Bd nb db b)
include A B
theorem x_less (h1 : na + db < 1000000) (h2 : nb + da < 1000000) (h3 : da + db < 9000) : m_less [qT a, qT b] = .ok (qT (a - b)) .hole := by
  apply fn_rt (σ := [qT a, qT b])
  have t1 := times_int (mulB_of A.n (by simpa using B.d : Lt2 ((b.den : Int)).natAbs db) h1)
  have t2 := times_int (mulB_of B.n (by simpa using A.d : Lt2 ((a.den : Int)).natAbs da) h2)
  have t3 := times_int (mulB_of (by simpa using A.d : Lt2 ((a.den : Int)).natAbs da) (by simpa using B.d : Lt2 ((b.den : Int)).natAbs db) (by omega))
  have nz : ((a.den : Int) * b.den) ≠ 0 := Int.mul_ne_zero (by exact_mod_cast a.den_nz) (by exact_mod_cast b.den_nz)
  have lo := x_lowest (a := a.num * b.den - b.num * a.den) nz (n := da + db) (by simpa [Int.natAbs_mul] using A.d.mul B.d) h3
  rw [← sub_div] at lo
  simp [b_less, x_check, mIxN, live, ixT, sIx, atI, ixN, t1, t2, t3, sub_intT, lo]
theorem x_times (h1 : na + nb < 1000000) (h3 : da + db < 9000) : m_times [qT a, qT b] = .ok (qT (a * b)) .hole := by
  apply fn_rt (σ := [qT a, qT b])
  have t1 := times_int (mulB_of A.n B.n h1)
  have t3 := times_int (mulB_of (by simpa using A.d : Lt2 ((a.den : Int)).natAbs da) (by simpa using B.d : Lt2 ((b.den : Int)).natAbs db) (by omega))
  have nz : ((a.den : Int) * b.den) ≠ 0 := Int.mul_ne_zero (by exact_mod_cast a.den_nz) (by exact_mod_cast b.den_nz)
  have lo := x_lowest (a := a.num * b.num) nz (n := da + db) (by simpa [Int.natAbs_mul] using A.d.mul B.d) h3
  rw [← mul_div] at lo
  simp [b_times, x_check, mIxN, live, ixT, sIx, atI, ixN, t1, t3, lo]
theorem x_over (hb : b ≠ 0) (h1 : na + db < 1000000) (h3 : da + nb < 9000) : m_over [qT a, qT b] = .ok (qT (a / b)) .hole := by
  apply fn_rt (σ := [qT a, qT b])
  have hn := num_ne hb
  have t1 := times_int (mulB_of A.n (by simpa using B.d : Lt2 ((b.den : Int)).natAbs db) h1)
  have t3 := times_int (mulB_of (by simpa using A.d : Lt2 ((a.den : Int)).natAbs da) B.n (by omega))
  have nz : ((a.den : Int) * b.num) ≠ 0 := Int.mul_ne_zero (by exact_mod_cast a.den_nz) hn
  have lo := x_lowest (a := a.num * b.den) nz (n := da + nb) (by simpa [Int.natAbs_mul] using A.d.mul B.n) h3
  rw [← div_div a b hn] at lo
  simp [b_over, x_check, mIxN, live, ixT, sIx, atI, ixN, fEq, hn, t1, t3, lo]
end
end G

namespace MV
open PySem PySem.Spec PyProof.Rows L2
/-! ## Loops by a relation -/
theorem forL_rel {w : T → List T → Option (List T)} {body : List T → SRes} : ∀ (items : List T) (P : Nat → List T → Prop) (σ : List T), P 0 σ → (∀ k σ (h : k < items.length), P k σ → ∃ σ1 σ2, w items[k] σ = some σ1 ∧ body σ1 = .nx σ2 ∧ P (k + 1) σ2) →
    ∃ σ', forL w body items σ = .nx σ' ∧ P items.length σ'
  | [], P, σ, h0, h => ⟨σ, rfl, h0⟩
  | t :: r, P, σ, h0, h => by
    obtain ⟨σ1, σ2, h1, h2, h3⟩ := h 0 σ (by simp) h0
    obtain ⟨σ', e, p⟩ := forL_rel r (fun k => P (k + 1)) σ2 h3 fun k σ hk hp => by
      have := h (k + 1) σ (by simpa using hk) hp
      simpa using this
    refine ⟨σ', ?_, by simpa using p⟩
    simp only [forL, List.getElem_cons_zero] at h1 ⊢
    rw [h1]
    simp only [h2]
    exact e
/-- the loop returns at the turn j -/
theorem forL_ret {w : T → List T → Option (List T)} {body : List T → SRes} {res : T} : ∀ (items : List T) (P : Nat → List T → Prop) (σ : List T) (j : Nat) (hj : j < items.length), P 0 σ → (∀ k σ (h : k < items.length), k < j → P k σ → ∃ σ1 σ2, w items[k] σ = some σ1 ∧ body σ1 = .nx σ2 ∧ P (k + 1) σ2) →
    (∀ σ, P j σ → ∃ σ1 σ2, w items[j] σ = some σ1 ∧ body σ1 = .rt res σ2) → ∃ σ', forL w body items σ = .rt res σ'
  | [], P, σ, j, hj, h0, h, he => by simp at hj
  | t :: r, P, σ, 0, hj, h0, h, he => by
    obtain ⟨σ1, σ2, h1, h2⟩ := he σ h0
    refine ⟨σ2, ?_⟩
    simp only [forL, List.getElem_cons_zero] at h1 ⊢
    rw [h1]
    simp only [h2]
  | t :: r, P, σ, j + 1, hj, h0, h, he => by
    obtain ⟨σ1, σ2, h1, h2, h3⟩ := h 0 σ (by simp) (by omega) h0
    obtain ⟨σ', e⟩ := forL_ret r (fun k => P (k + 1)) σ2 j (by simpa using hj) h3 (fun k σ hk hlt hp => by
      have := h (k + 1) σ (by simpa using hk) (by omega) hp
      simpa using this) (by simpa using he)
    refine ⟨σ', ?_⟩
    simp only [forL, List.getElem_cons_zero] at h1 ⊢
    rw [h1]
    simp only [h2]
    exact e
/-- .. raises at the turn j -/
theorem forL_exc {w : T → List T → Option (List T)} {body : List T → SRes} {C : Str} {ns : List Str} {us : List T} : ∀ (items : List T) (P : Nat → List T → Prop) (σ : List T) (j : Nat) (hj : j < items.length), P 0 σ → (∀ k σ (h : k < items.length), k < j → P k σ → ∃ σ1 σ2, w items[k] σ = some σ1 ∧ body σ1 = .nx σ2 ∧ P (k + 1) σ2) →
    (∀ σ, P j σ → ∃ σ1 σ2, w items[j] σ = some σ1 ∧ body σ1 = .exc C ns us σ2) → ∃ σ', forL w body items σ = .exc C ns us σ'
  | [], P, σ, j, hj, h0, h, he => by simp at hj
  | t :: r, P, σ, 0, hj, h0, h, he => by
    obtain ⟨σ1, σ2, h1, h2⟩ := he σ h0
    refine ⟨σ2, ?_⟩
    simp only [forL, List.getElem_cons_zero] at h1 ⊢
    rw [h1]
    simp only [h2]
  | t :: r, P, σ, j + 1, hj, h0, h, he => by
    obtain ⟨σ1, σ2, h1, h2, h3⟩ := h 0 σ (by simp) (by omega) h0
    obtain ⟨σ', e⟩ := forL_exc r (fun k => P (k + 1)) σ2 j (by simpa using hj) h3 (fun k σ hk hlt hp => by
      have := h (k + 1) σ (by simpa using hk) (by omega) hp
      simpa using this) (by simpa using he)
    refine ⟨σ', ?_⟩
    simp only [forL, List.getElem_cons_zero] at h1 ⊢
    rw [h1]
    simp only [h2]
    exact e
/-! ## Rows -/
/-- a row's trees -/
def R (l : List Rat) : List T := l.map qT
@[simp] theorem R_len (l : List Rat) : (R l).length = l.length := by simp [R]
@[simp] theorem R_nil : R [] = [] := rfl
theorem R_app (l m : List Rat) : R (l ++ m) = R l ++ R m := by simp [R]
theorem fzs_R : ∀ l : List Rat, fzs (R l) = R l
  | [] => by simp [fzs]
  | r :: l => by
    have := fzs_R l
    simp only [R, List.map_cons, fzs, fz] at this ⊢
    rw [this]
/-- t is the row l -/
structure IsR (t : T) (l : List Rat) : Prop where
  h : t.isHole = false
  f : fz t = .tup (R l) ∨ fz t = .lst (R l)
theorem IsR.tup (l : List Rat) : IsR (.tup (R l)) l := ⟨rfl, .inl (by simp)⟩
theorem IsR.lst (l : List Rat) : IsR (.lst (R l)) l := ⟨rfl, .inr (by simp)⟩
theorem IsR.own (l : List Rat) : IsR (.own (R l)) l := ⟨rfl, .inr (by simp [fzs_R])⟩
theorem ixN_nat (n k : Nat) : ixN n ((k : Nat) : Int) = if k < n then some k else none := by
  unfold ixN
  simp
theorem atI_k {α : Type} (l : List α) (k : Nat) : atI l ((k : Nat) : Int) = l[k]? := by
  unfold atI
  rw [ixN_nat]
  by_cases h : k < l.length
  · simp [h]
  · simp [h]
theorem rgB_nat {k : Nat} (h : k ≤ 1000000) : rgB ((k : Nat) : Int) = true := by
  unfold rgB
  simp only [Bool.and_eq_true, decide_eq_true_eq]
  omega
theorem R_get {l : List Rat} {k : Nat} (h : k < l.length) : (R l)[k]? = some (qT l[k]) := by simp [R, h]
theorem szB_of {n : Nat} (h : n ≤ 1000000) : szB n = true := by unfold szB; simpa using h
end MV
namespace G
open PySem PySem.Spec PyProof.Rows L2 MV
theorem x_check_row {t : T} {l : List Rat} (h : IsR t l) (hl : l.length ≤ 1000) : m_check_row [t] = .ok (.tup (R l)) .hole := by
  have key : ∀ t' : T, (t' = .tup (R l) ∨ t' = .lst (R l)) → ∃ σ', forL (fN 1) (mIf (mNot (mTru (mCall m_is_number (mCons (fIxN 0 (fVar 1)) mNil)))) (mRaise "BadNumber" ["place"] (mCons (fVar 1) mNil)) .nx) (intsFrom 0 l.length) [t', .hole] = .nx σ' ∧ ∃ u, σ' = [t', u] := by
    intro t' ht'
    refine forL_rel (intsFrom 0 l.length) (fun k σ => ∃ u, σ = [t', u]) [t', .hole] ⟨_, rfl⟩ fun k σ hk hp => ?_
    obtain ⟨u, rfl⟩ := hp
    have hk' : k < l.length := by simpa [intsFrom_len] using hk
    refine ⟨[t', .v (.int k)], [t', .v (.int k)], by simp [intsFrom_get], ?_, _, rfl⟩
    rcases ht' with rfl | rfl
    · simp [mIxN, live, ixT, sIx, atI_k, R_get hk', x_num]
    · simp [mIxN, live, ixT, sIx, atI_k, R_get hk', x_num]
  rcases h.f with q | q
  · obtain ⟨σ', e, u, rfl⟩ := key _ (.inl rfl)
    apply fn_rt (σ := [.tup (R l), u])
    simp [b_check_row, h.h, q, tyT, isaL, BT.isa, mLenN, live, lenT, seqA, rgB_nat (show l.length ≤ 1000000 by omega), e, sTuple]
  · obtain ⟨σ', e, u, rfl⟩ := key _ (.inr rfl)
    apply fn_rt (σ := [.lst (R l), u])
    simp [b_check_row, h.h, q, tyT, isaL, BT.isa, mLenN, live, lenT, seqA, seqL, rgB_nat (show l.length ≤ 1000000 by omega), e, sTuple, fzs_R]
end G

namespace MV
open PySem PySem.Spec PyProof.Rows L2
/-! ## Rows of numbers by place -/
def gR (l : List Rat) (k : Nat) : Rat := l.getD k 0
theorem gR_of {l : List Rat} {k : Nat} (h : k < l.length) : gR l k = l[k] := by simp [gR, List.getD, h]
theorem R_g {l : List Rat} {k : Nat} (h : k < l.length) : (R l)[k]? = some (qT (gR l k)) := by rw [gR_of h, R_get h]
/-- the next full place -/
def nxF (b : List Rat) (c : Nat) : Option Nat := (List.range b.length).find? fun k => decide (c < k) && decide (gR b k ≠ 0)
theorem nxF_some {b : List Rat} {c k : Nat} (h : nxF b c = some k) : c < k ∧ k < b.length ∧ gR b k ≠ 0 ∧ ∀ j, c < j → j < k → gR b j = 0 := by
  unfold nxF at h
  rw [List.find?_range_eq_some] at h
  obtain ⟨h1, h2, h3⟩ := h
  simp only [Bool.and_eq_true, decide_eq_true_eq] at h1
  refine ⟨h1.1, by simpa using h2, h1.2, fun j hj hk => ?_⟩
  have := h3 j hk
  simp only [Bool.not_and, Bool.or_eq_true, Bool.not_eq_true', decide_eq_false_iff_not, Decidable.not_not] at this
  rcases this with z | z
  · omega
  · exact z
theorem nxF_none {b : List Rat} {c : Nat} (h : nxF b c = none) : ∀ j, c < j → gR b j = 0 := by
  unfold nxF at h
  rw [List.find?_range_eq_none] at h
  intro j hj
  by_cases hl : j < b.length
  · have := h j hl
    simp only [Bool.not_and, Bool.or_eq_true, Bool.not_eq_true', decide_eq_false_iff_not, Decidable.not_not] at this
    rcases this with z | z
    · omega
    · exact z
  · simp [gR, List.getD, hl]
def unAt (x b : List Rat) (c : Nat) : Rat := if gR b c = 0 then gR x c else match nxF b c with
  | none => gR x c
  | some k => gR x c - gR b c / gR b k * gR x k
def unR (x b : List Rat) : List Rat := (List.range x.length).map (unAt x b)
/-- the total behind m places from the right -/
def smR (x b : List Rat) : Nat → Rat
  | 0 => 0
  | m + 1 => if gR b (x.length - 1 - m) = 0 then smR x b m else smR x b m + gR x (x.length - 1 - m) / gR b (x.length - 1 - m)
def maAt (x b : List Rat) (c : Nat) : Rat := if gR b c = 0 then gR x c else gR b c * smR x b (x.length - c)
def maR (x b : List Rat) : List Rat := (List.range x.length).map (maAt x b)
theorem unR_len (x b : List Rat) : (unR x b).length = x.length := by simp [unR]
theorem maR_len (x b : List Rat) : (maR x b).length = x.length := by simp [maR]
theorem unR_at {x b : List Rat} {c : Nat} (h : c < x.length) : gR (unR x b) c = unAt x b c := by simp [gR, unR, List.getD, h]
theorem maR_at {x b : List Rat} {c : Nat} (h : c < x.length) : gR (maR x b) c = maAt x b c := by simp [gR, maR, List.getD, h]
theorem row_ext {x y : List Rat} (hl : x.length = y.length) (h : ∀ c, c < x.length → gR x c = gR y c) : x = y := by
  apply List.ext_getElem hl
  intro i h1 h2
  have := h i h1
  rwa [gR_of h1, gR_of h2] at this
/-- a row of bounded numbers -/
def Rb (n d : Nat) (l : List Rat) : Prop := ∀ k, Bd n d (gR l k)
theorem smR_bd {x b : List Rat} {nx dx nb db : Nat} (X : Rb nx dx x) (B : Rb nb db b) : ∀ m, Bd (m * (nx + db + dx + nb + 1)) (m * (dx + nb)) (smR x b m)
  | 0 => Bd.zero
  | m + 1 => by
    have ih := smR_bd X B m
    have e1 : (m + 1) * (nx + db + dx + nb + 1) = m * (nx + db + dx + nb + 1) + (nx + db + dx + nb + 1) := Nat.succ_mul _ _
    have e2 : (m + 1) * (dx + nb) = m * (dx + nb) + (dx + nb) := Nat.succ_mul _ _
    have le : m * (dx + nb) ≤ m * (nx + db + dx + nb + 1) := Nat.mul_le_mul_left _ (by omega)
    rw [e1, e2]
    simp only [smR]
    split
    · exact ih.mono (by omega) (by omega)
    · rename_i h
      exact ih.add ((X _).div (B _) h (Nat.le_refl _) (Nat.le_refl _)) (by omega) (by omega) (by omega)
theorem unAt_bd {x b : List Rat} {nx dx nb db : Nat} (X : Rb nx dx x) (B : Rb nb db b) (c : Nat) : Bd (nx + nb + db + 2 * dx + 1) (2 * dx + nb + db) (unAt x b c) := by
  unfold unAt
  split
  · exact (X c).mono (by omega) (by omega)
  · split
    · exact (X c).mono (by omega) (by omega)
    · rename_i k q
      obtain ⟨_, _, h, _⟩ := nxF_some q
      exact (X c).sub (((B c).div (B k) h (Nat.le_refl _) (Nat.le_refl _)).mul (X k) (Nat.le_refl _) (Nat.le_refl _)) (by omega) (by omega) (by omega)
theorem Rb.un {x b : List Rat} {nx dx nb db : Nat} (X : Rb nx dx x) (B : Rb nb db b) : Rb (nx + nb + db + 2 * dx + 1) (2 * dx + nb + db) (unR x b) := fun k => by
  by_cases h : k < x.length
  · rw [unR_at h]; exact unAt_bd X B k
  · have : gR (unR x b) k = 0 := by simp [gR, List.getD, unR, h]
    rw [this]; exact Bd.zero
theorem Rb.ma {x b : List Rat} {nx dx nb db : Nat} (X : Rb nx dx x) (B : Rb nb db b) : Rb (x.length * (nx + db + dx + nb + 1) + nb + nx) (x.length * (dx + nb) + db + dx) (maR x b) := fun k => by
  by_cases h : k < x.length
  · rw [maR_at h]
    unfold maAt
    split
    · exact (X k).mono (by omega) (by omega)
    · have z := smR_bd X B (x.length - k)
      have l1 : (x.length - k) * (nx + db + dx + nb + 1) ≤ x.length * (nx + db + dx + nb + 1) := Nat.mul_le_mul_right _ (Nat.sub_le _ _)
      have l2 : (x.length - k) * (dx + nb) ≤ x.length * (dx + nb) := Nat.mul_le_mul_right _ (Nat.sub_le _ _)
      exact (B k).mul z (by omega) (by omega)
  · have : gR (maR x b) k = 0 := by simp [gR, List.getD, maR, h]
    rw [this]; exact Bd.zero
/-! ### each undoes the other -/
theorem smR_skip {x b : List Rat} {i : Nat} : ∀ m, (∀ j, i ≤ j → j < i + m → gR b (x.length - 1 - j) = 0) → smR x b (i + m) = smR x b i
  | 0, _ => rfl
  | m + 1, h => by
    have := smR_skip m fun j h1 h2 => h j h1 (by omega)
    rw [show i + (m + 1) = (i + m) + 1 from rfl]
    simp only [smR]
    rw [if_pos (h (i + m) (by omega) (by omega)), this]
theorem smR_cong {x y b : List Rat} (hl : x.length = y.length) : ∀ m, m ≤ x.length → (∀ j, x.length - m ≤ j → j < x.length → gR b j ≠ 0 → gR x j = gR y j) → smR x b m = smR y b m
  | 0, _, _ => rfl
  | m + 1, hm, h => by
    simp only [smR]
    rw [← hl, smR_cong hl m (by omega) fun j h1 h2 => h j (by omega) h2]
    split
    · rfl
    · rename_i z
      rw [h (x.length - 1 - m) (by omega) (by omega) z]
/-- the total over an unmade row: the first full place's quotient -/
theorem smR_un {x b : List Rat} (hl : x.length = b.length) : ∀ m, m ≤ x.length → smR (unR x b) b m = match (List.range b.length).find? (fun k => decide (x.length - m ≤ k) && decide (gR b k ≠ 0)) with
    | none => 0
    | some k => gR x k / gR b k
  | 0, _ => by
    have : (List.range b.length).find? (fun k => decide (x.length - 0 ≤ k) && decide (gR b k ≠ 0)) = none := by
      rw [List.find?_range_eq_none]
      intro i hi
      simp
      omega
    rw [this]
    all_goals rfl
  | m + 1, hm => by
    have ih := smR_un hl m (by omega)
    simp only [smR, unR_len]
    generalize hc : x.length - 1 - m = c at *
    have hcl : c < x.length := by omega
    have e1 : x.length - (m + 1) = c := by omega
    have e2 : x.length - m = c + 1 := by omega
    rw [e2] at ih
    rw [e1]
    by_cases h0 : gR b c = 0
    · rw [if_pos h0, ih]
      congr 1
      congr 1
      funext k
      by_cases hk : k = c
      · subst hk; simp [h0]
      · have : decide (c + 1 ≤ k) = decide (c ≤ k) := by
          congr 1
          apply propext
          omega
        rw [this]
    · rw [if_neg h0, ih]
      have f2 : (List.range b.length).find? (fun k => decide (c ≤ k) && decide (gR b k ≠ 0)) = some c := by
        rw [List.find?_range_eq_some]
        refine ⟨by simp [h0], by simp; omega, fun j hj => ?_⟩
        have : ¬ c ≤ j := by omega
        simp [this]
      rw [f2]
      have f3 : nxF b c = (List.range b.length).find? (fun k => decide (c + 1 ≤ k) && decide (gR b k ≠ 0)) := rfl
      rw [unR_at hcl]
      unfold unAt
      rw [if_neg h0, f3]
      cases q : (List.range b.length).find? (fun k => decide (c + 1 ≤ k) && decide (gR b k ≠ 0)) with
      | none => simp only []; grind
      | some k =>
        simp only []
        have hk := (List.find?_range_eq_some.mp q).1
        simp only [Bool.and_eq_true, decide_eq_true_eq] at hk
        have h1 := hk.2
        grind
theorem ma_un {x b : List Rat} (hl : x.length = b.length) : maR (unR x b) b = x := by
  apply row_ext (by rw [maR_len, unR_len])
  intro c hc
  rw [maR_len, unR_len] at hc
  rw [maR_at (by rw [unR_len]; exact hc)]
  unfold maAt
  rw [unR_len]
  by_cases h0 : gR b c = 0
  · rw [if_pos h0, unR_at hc]
    unfold unAt
    rw [if_pos h0]
  · rw [if_neg h0, smR_un hl _ (Nat.sub_le _ _)]
    have e : x.length - (x.length - c) = c := by omega
    rw [e]
    have f2 : (List.range b.length).find? (fun k => decide (c ≤ k) && decide (gR b k ≠ 0)) = some c := by
      rw [List.find?_range_eq_some]
      refine ⟨by simp [h0], by simp; omega, fun j hj => ?_⟩
      have : ¬ c ≤ j := by omega
      simp [this]
    rw [f2]
    simp only []
    grind
theorem un_ma {x b : List Rat} (hl : x.length = b.length) : unR (maR x b) b = x := by
  apply row_ext (by rw [unR_len, maR_len])
  intro c hc
  rw [unR_len, maR_len] at hc
  rw [unR_at (by rw [maR_len]; exact hc)]
  unfold unAt
  by_cases h0 : gR b c = 0
  · rw [if_pos h0, maR_at hc]
    unfold maAt
    rw [if_pos h0]
  · rw [if_neg h0, maR_at hc]
    unfold maAt
    rw [if_neg h0]
    have s1 : smR x b (x.length - c) = smR x b (x.length - c - 1) + gR x c / gR b c := by
      have e : x.length - c = (x.length - c - 1) + 1 := by omega
      rw [e]
      simp only [smR]
      have e2 : x.length - 1 - (x.length - c - 1) = c := by omega
      rw [e2, if_neg h0]
      all_goals rfl
    rw [s1]
    cases q : nxF b c with
    | none =>
      simp only []
      have z := nxF_none q
      have : smR x b (x.length - c - 1) = smR x b 0 := by
        have := smR_skip (x := x) (b := b) (i := 0) (x.length - c - 1) fun j h1 h2 => z _ (by omega)
        rwa [Nat.zero_add] at this
      rw [this]
      simp only [smR]
      grind
    | some k =>
      simp only []
      obtain ⟨k1, k2, k3, k4⟩ := nxF_some q
      rw [maR_at (by omega)]
      unfold maAt
      rw [if_neg k3]
      have : smR x b (x.length - c - 1) = smR x b (x.length - k) := by
        have := smR_skip (x := x) (b := b) (i := x.length - k) (k - c - 1) fun j h1 h2 => k4 _ (by omega) (by omega)
        rw [show x.length - k + (k - c - 1) = x.length - c - 1 by omega] at this
        exact this
      rw [this]
      grind
end MV

namespace MV
open PySem PySem.Spec PyProof.Rows L2
theorem enumT_at {l : List T} {k : Nat} (h : k < (enumT 0 l).length) (h' : k < l.length) : (enumT 0 l)[k] = .tup [.v (.int ((k : Nat) : Int)), l[k]] := by
  have := enumT_get 0 l k
  rw [List.getElem?_eq_getElem h, List.getElem?_eq_getElem h'] at this
  simpa using this
theorem num_zero {r : Rat} : r.num = 0 ↔ r = 0 := Rat.num_eq_zero
theorem qT0 : (.tup [.v (.int 0), .v (.int 1)] : T) = qT 0 := rfl
theorem chain_le_lt {a b : List T → Res T} {c : List T → Res T} {σ : List T} {i j k : Int} (h1 : a σ = .ok (.v (.int i)) σ) (h2 : b σ = .ok (.v (.int j)) σ) (h3 : c σ = .ok (.v (.int k)) σ) : mChain sLe sLt a b c σ = .ok (.v (.bl (decide (i ≤ j) && decide (j < k)))) σ := by
  unfold mChain
  simp only [h1, h2, h3, z_bind_ok, sLe, sLt, iOp]
  by_cases q : i ≤ j
  · simp [q]
  · simp [q]
theorem var_ok {σ : List T} {t : T} {j : Nat} (h : σ[j]? = some t) (hh : t.isHole = false := by rfl) (hf : fz t = t := by simp) : fVar j σ = .ok t σ := by
  rw [z_fVar, h]
  simp only [hh, hf, get_set h, Bool.false_eq_true, if_false]
/-- x[j] of a row -/
theorem ix_row {σ : List T} {t : T} {b : List Rat} {i j n : Nat} (h : σ[i]? = some t) (ht : t = .tup (R b) ∨ t = .lst (R b)) (hj : σ[j]? = some (.v (.int ((n : Nat) : Int)))) (hn : n < b.length) : fIxN i (fVar j) σ = .ok (qT (gR b n)) σ := by
  have hl : live σ i = true := by
    unfold live
    rw [h]
    rcases ht with rfl | rfl <;> rfl
  rw [z_fIxN]
  unfold mIxN
  rw [hl, var_ok hj]
  have e := R_g hn
  rcases ht with rfl | rfl
  · simp [h, ixT, sIx, atI_k, e, get_set h]
  · simp [h, ixT, sIx, atI_k, e, get_set h]
/-- x[j][0] of a row -/
theorem ix_top {σ : List T} {t : T} {b : List Rat} {i j n : Nat} (h : σ[i]? = some t) (ht : t = .tup (R b) ∨ t = .lst (R b)) (hj : σ[j]? = some (.v (.int ((n : Nat) : Int)))) (hn : n < b.length) : mOp2 fIx (fIxN i (fVar j)) (mC (.v (.int 0))) σ = .ok (.v (.int (gR b n).num)) σ := by
  rw [z_op2, ix_row h ht hj hn]
  simp [sIx, atI, ixN]
/-- x[j][0] == 0, != 0 -/
theorem eq_top {σ : List T} {t : T} {b : List Rat} {i j n : Nat} (h : σ[i]? = some t) (ht : t = .tup (R b) ∨ t = .lst (R b)) (hj : σ[j]? = some (.v (.int ((n : Nat) : Int)))) (hn : n < b.length) : mBl (mOp2 fEq (mOp2 fIx (fIxN i (fVar j)) (mC (.v (.int 0)))) (mC (.v (.int 0)))) σ = .ok (decide (gR b n = 0)) σ := by
  rw [z_bl, z_op2, ix_top h ht hj hn]
  simp [fEq, num_zero]
theorem ne_top {σ : List T} {t : T} {b : List Rat} {i j n : Nat} (h : σ[i]? = some t) (ht : t = .tup (R b) ∨ t = .lst (R b)) (hj : σ[j]? = some (.v (.int ((n : Nat) : Int)))) (hn : n < b.length) : mBl (mOp2 fNe (mOp2 fIx (fIxN i (fVar j)) (mC (.v (.int 0)))) (mC (.v (.int 0)))) σ = .ok (!decide (gR b n = 0)) σ := by
  rw [z_bl, z_op2, ix_top h ht hj hn]
  simp [fNe, num_zero]
theorem rg1_ok {f : List T → Res T} {σ σ1 : List T} {n : Nat} (hf : f σ = .ok (.v (.int ((n : Nat) : Int))) σ1) (h : n ≤ 1000000) : mRg1 f σ = .ok (intsFrom 0 n) σ1 := by
  have r := rgB_nat h
  unfold mRg1
  rw [hf]
  show (if rgB ((n : Nat) : Int) then _ else _) = _
  rw [r]
  all_goals rfl
theorem rg2_ok {f g : List T → Res T} {σ : List T} {i j : Int} {n : Nat} (hf : f σ = .ok (.v (.int i)) σ) (hg : g σ = .ok (.v (.int j)) σ) (hi : rgB i = true) (hj : rgB j = true) (hn : (j - i).toNat = n) : mRg2 f g σ = .ok (intsFrom i n) σ := by
  unfold mRg2
  rw [hf, z_bind_ok, hg, z_bind_ok]
  show (if rgB i && rgB j then _ else _) = _
  rw [hi, hj, hn]
  all_goals rfl
theorem rg3_ok {f g h : List T → Res T} {σ : List T} {i j : Int} {n : Nat} (hf : f σ = .ok (.v (.int i)) σ) (hg : g σ = .ok (.v (.int j)) σ) (hh : h σ = .ok (.v (.int (-1))) σ) (hi : rgB i = true) (hj : rgB j = true) (hn : (i - j).toNat = n) : mRg3 f g h σ = .ok (intsDown i n) σ := by
  unfold mRg3
  rw [hf, z_bind_ok, hg, z_bind_ok, hh, z_bind_ok]
  show (if rgB i && rgB j && decide ((-1 : Int) = -1) then _ else _) = _
  rw [hi, hj, hn]
  all_goals rfl
theorem app_R {i : Nat} {f : List T → Res T} {σ : List T} {l : List Rat} {r : Rat} (h : σ[i]? = some (.own (R l))) (hf : f σ = .ok (qT r) σ) (hl : l.length ≤ 1000000) : mAppN i f σ = .ok (.v .non) (σ.set i (.own (R (l ++ [r])))) := by
  unfold mAppN
  rw [h]
  simp [hf, h, szB, hl, R_app, R]
theorem range_map_succ {α : Type} (f : Nat → α) (k : Nat) : (List.range (k + 1)).map f = (List.range k).map f ++ [f k] := by simp [List.range_succ]
end MV
namespace G
open PySem PySem.Spec PyProof.Rows L2 MV
theorem x_is_place (i j : Int) : m_is_place [.v (.int i), .v (.int j)] = .ok (.v (.bl (decide (0 ≤ i) && decide (i < j)))) .hole := by
  apply fn_rt (σ := [.v (.int i), .v (.int j)])
  have c := chain_le_lt (a := mC (.v (.int 0))) (b := fVar 0) (c := fVar 1) (σ := [.v (.int i), .v (.int j)]) (i := 0) (j := i) (k := j) (by simp) (by simp) (by simp)
  simp [b_is_place, x_plain, c]
def oT (o : Option Nat) : T := match o with
  | some k => .v (.int (k : Nat))
  | none => .v .non
theorem ints_at {lo : Int} {n k : Nat} (h : k < (intsFrom lo n).length) : (intsFrom lo n)[k] = .v (.int (lo + k)) := intsFrom_get h
noncomputable def faB : List T → SRes := mIf (mBl (mOp2 fNe (mOp2 fIx (fIxN 0 (fVar 2)) (mC (.v (.int 0)))) (mC (.v (.int 0))))) (mRetM 2) .nx
theorem faB_ok {b : List Rat} {c n : Nat} (hn : n < b.length) : faB [.tup (R b), .v (.int (c : Nat)), .v (.int ((n : Nat) : Int))] =
    if gR b n = 0 then .nx [.tup (R b), .v (.int (c : Nat)), .v (.int ((n : Nat) : Int))] else .rt (.v (.int ((n : Nat) : Int))) [.tup (R b), .v (.int (c : Nat)), .hole] := by
  unfold faB
  rw [z_if, ne_top (n := n) (b := b) rfl (.inl rfl) rfl hn]
  by_cases z : gR b n = 0
  · simp [z]
  · simp [z, mRetM]
theorem fa_step {b : List Rat} {c n k : Nat} {u : T} (e : n = c + 1 + k) : fN 2 (.v (.int (((c : Int) + 1) + k))) [.tup (R b), .v (.int (c : Nat)), u] = some [.tup (R b), .v (.int (c : Nat)), .v (.int ((n : Nat) : Int))] := by
  subst e
  simp
theorem fa_none {b : List Rat} {c : Nat} (z : ∀ j, c < j → gR b j = 0) : ∃ u, forL (fN 2) faB (intsFrom ((c : Int) + 1) (b.length - (c + 1))) [.tup (R b), .v (.int (c : Nat)), .hole] = .nx [.tup (R b), .v (.int (c : Nat)), u] := by
  obtain ⟨σ', e, u, h⟩ := forL_rel (w := fN 2) (body := faB) (intsFrom ((c : Int) + 1) (b.length - (c + 1))) (fun k σ => ∃ u, σ = [.tup (R b), .v (.int (c : Nat)), u]) [.tup (R b), .v (.int (c : Nat)), .hole] ⟨_, rfl⟩ fun k σ hk hp => by
    obtain ⟨u, rfl⟩ := hp
    rw [intsFrom_len] at hk
    exact ⟨_, _, by rw [intsFrom_get]; exact fa_step (n := c + 1 + k) rfl, by rw [faB_ok (by omega), if_pos (z _ (by omega))], _, rfl⟩
  exact ⟨u, by rw [e, h]⟩
theorem fa_some {b : List Rat} {c k : Nat} (k1 : c < k) (k2 : k < b.length) (k3 : gR b k ≠ 0) (k4 : ∀ j, c < j → j < k → gR b j = 0) : ∃ σ', forL (fN 2) faB (intsFrom ((c : Int) + 1) (b.length - (c + 1))) [.tup (R b), .v (.int (c : Nat)), .hole] = .rt (.v (.int ((k : Nat) : Int))) σ' :=
  forL_ret (w := fN 2) (body := faB) (intsFrom ((c : Int) + 1) (b.length - (c + 1))) (fun k σ => ∃ u, σ = [.tup (R b), .v (.int (c : Nat)), u]) [.tup (R b), .v (.int (c : Nat)), .hole] (k - (c + 1)) (by rw [intsFrom_len]; omega) ⟨_, rfl⟩ (fun j σ hk hlt hp => by
    obtain ⟨u, rfl⟩ := hp
    rw [intsFrom_len] at hk
    exact ⟨_, _, by rw [intsFrom_get]; exact fa_step (n := c + 1 + j) rfl, by rw [faB_ok (by omega), if_pos (k4 _ (by omega) (by omega))], _, rfl⟩) (fun σ hp => by
    obtain ⟨u, rfl⟩ := hp
    exact ⟨_, _, by rw [intsFrom_get]; exact fa_step (n := k) (by omega), by rw [faB_ok k2, if_neg k3]⟩)
theorem fa_rg {n : Nat} (h : n ≤ 1000) : rgB ((n : Int) + 1) = true := by
  have e : ((n : Int) + 1) = ((n + 1 : Nat) : Int) := by omega
  rw [e]
  exact rgB_nat (by omega)
theorem fa_head {b : List Rat} {c : Nat} (hl : b.length ≤ 1000) (hc : c ≤ 1000) : mRg2 (mOp2 sPlus (fVar 1) (mC (.v (.int 1)))) (mLenN 0) [.tup (R b), .v (.int (c : Nat)), .hole] = .ok (intsFrom ((c : Int) + 1) (b.length - (c + 1))) [.tup (R b), .v (.int (c : Nat)), .hole] := by
  have hn : ((b.length : Int) - ((c : Int) + 1)).toNat = b.length - (c + 1) := by omega
  exact rg2_ok (by simp [plus_int]) (by simp [mLenN, live, lenT, seqA]) (fa_rg hc) (rgB_nat (by omega)) hn
theorem x_full_after (b : List Rat) (c : Nat) (hl : b.length ≤ 1000) (hc : c ≤ 1000) : m_full_after [.tup (R b), .v (.int (c : Nat))] = .ok (oT (nxF b c)) .hole := by
  have e0 : b_full_after = mSeq (mFor (mRg2 (mOp2 sPlus (fVar 1) (mC (.v (.int 1)))) (mLenN 0)) (fN 2) faB) (mRet (mC (.v .non))) := rfl
  cases q : nxF b c with
  | none =>
    obtain ⟨u, e⟩ := fa_none (nxF_none q)
    refine fn_rt (σ := [.tup (R b), .v (.int (c : Nat)), u]) ?_
    show b_full_after [.tup (R b), .v (.int (c : Nat)), .hole] = _
    rw [e0, z_seq, z_for, fa_head hl hc, z_sbind_ok, e]
    all_goals rfl
  | some k =>
    obtain ⟨k1, k2, k3, k4⟩ := nxF_some q
    obtain ⟨σ', e⟩ := fa_some k1 k2 k3 k4
    refine fn_rt (σ := σ') ?_
    show b_full_after [.tup (R b), .v (.int (c : Nat)), .hole] = _
    rw [e0, z_seq, z_for, fa_head hl hc, z_sbind_ok, e]
    all_goals rfl
end G

namespace MV
open PySem PySem.Spec PyProof.Rows L2
theorem ne_len {n m : Nat} : fNe (.v (.int ((n : Nat) : Int))) (.v (.int ((m : Nat) : Int))) = some (.v (.bl (decide (n ≠ m)))) := by
  unfold fNe
  by_cases h : n = m
  · simp [h]
  · have : ((n : Int) = (m : Int)) = False := by
      apply eq_false
      omega
    simp [h, this]
theorem call_ok {mm : List T → FRes} {ga : List T → Res (List T)} {σ σ1 ts : List T} {t b : T} (h1 : ga σ = .ok ts σ1) (h2 : mm ts = .ok t b) : mCall mm ga σ = .ok t σ1 := by
  unfold mCall
  rw [h1]
  simp only [z_bind_ok, h2]
theorem call_exc {mm : List T → FRes} {ga : List T → Res (List T)} {σ σ1 ts us : List T} {C : Str} {ns : List Str} {b : T} (h1 : ga σ = .ok ts σ1) (h2 : mm ts = .exc C ns us b) : mCall mm ga σ = .exc C ns us σ1 := by
  unfold mCall
  rw [h1]
  simp only [z_bind_ok, h2]
theorem cons_ok {f : List T → Res T} {ga : List T → Res (List T)} {σ σ1 σ2 ts : List T} {t : T} (h1 : f σ = .ok t σ1) (h2 : ga σ1 = .ok ts σ2) : mCons f ga σ = .ok (t :: ts) σ2 := by
  rw [z_cons, h1, z_bind_ok, h2, z_bind_ok]
end MV
namespace G
open PySem PySem.Spec PyProof.Rows L2 MV
theorem x_pair {t u : T} {x b : List Rat} (ht : IsR t x) (hu : IsR u b) (hx : x.length ≤ 1000) (hl : x.length = b.length) : m_pair_of_rows [t, u] = .ok (.tup [.tup (R x), .tup (R b)]) .hole := by
  have fx : IsR (fz t) x := by
    rcases ht.f with q | q
    · rw [q]; exact .tup x
    · rw [q]; exact .lst x
  have fu : IsR (fz u) b := by
    rcases hu.f with q | q
    · rw [q]; exact .tup b
    · rw [q]; exact .lst b
  apply fn_rt (σ := [.tup (R x), .tup (R b)])
  simp [b_pair_of_rows, ht.h, hu.h, x_check_row fx hx, x_check_row fu (by omega), mLenN, live, lenT, seqA, ne_len, hl, szB]
theorem x_pair_no {t u : T} {x b : List Rat} (ht : IsR t x) (hu : IsR u b) (hx : x.length ≤ 1000) (hb : b.length ≤ 1000) (hl : x.length ≠ b.length) : m_pair_of_rows [t, u] = .exc "OtherSize" ["one", "other"] [.v (.int ((x.length : Nat) : Int)), .v (.int ((b.length : Nat) : Int))] .hole := by
  have fx : IsR (fz t) x := by
    rcases ht.f with q | q
    · rw [q]; exact .tup x
    · rw [q]; exact .lst x
  have fu : IsR (fz u) b := by
    rcases hu.f with q | q
    · rw [q]; exact .tup b
    · rw [q]; exact .lst b
  apply fn_exc (σ := [.tup (R x), .tup (R b)])
  simp [b_pair_of_rows, ht.h, hu.h, x_check_row fx hx, x_check_row fu hb, mLenN, live, lenT, seqA, ne_len, hl]
/-! ### unmade_row -/
noncomputable def urB : List T → SRes := (mSeq (mAsg (mCall m_full_after (mCons (fVar 1) (mCons (fVar 2) mNil))) (fN 3))
  (mIf (mOr (mBl (mOp2 fEq (mOp2 fIx (fIxN 1 (fVar 2)) (mC (.v (.int 0)))) (mC (.v (.int 0))))) (mBl (mOp2 sIsN (fVar 3) (mC (.v .non)))))
  (mEx (mAppN 5 (fVar 4)))
  (mEx (mAppN 5 (mCall m_less (mCons (fVar 4) (mCons (mCall m_times (mCons (mCall m_over (mCons (fIxN 1 (fVar 2)) (mCons (fIxN 1 (fVar 3)) mNil))) (mCons (fIxN 0 (fVar 3)) mNil))) mNil)))))))
theorem urB_ok {x b : List Rat} {nx dx nb db n : Nat} {u : T} {o : List Rat} (X : Rb nx dx x) (B : Rb nb db b) (hl : x.length = b.length) (hx : x.length ≤ 900) (hn : n < x.length) (ho : o.length ≤ 1000) (cN : nx + dx + nb + db < 300000) (cD : 2 * dx + nb + db < 9000) :
    ∃ u3, urB [.tup (R x), .tup (R b), .v (.int ((n : Nat) : Int)), u, qT (gR x n), .own (R o)] = .nx [.tup (R x), .tup (R b), .v (.int ((n : Nat) : Int)), u3, qT (gR x n), .own (R (o ++ [unAt x b n]))] := by
  refine ⟨oT (nxF b n), ?_⟩
  have f := x_full_after b n (by omega) (by omega)
  unfold urB
  have s1 : mAsg (mCall m_full_after (mCons (fVar 1) (mCons (fVar 2) mNil))) (fN 3) [.tup (R x), .tup (R b), .v (.int ((n : Nat) : Int)), u, qT (gR x n), .own (R o)] = .nx [.tup (R x), .tup (R b), .v (.int ((n : Nat) : Int)), oT (nxF b n), qT (gR x n), .own (R o)] := by
    simp [f]
  rw [z_seq, s1, z_seq_nx, z_if, z_or, eq_top (n := n) (b := b) rfl (.inl rfl) rfl (by omega), z_bind_ok]
  have ap := app_R (i := 5) (f := fVar 4) (σ := [.tup (R x), .tup (R b), .v (.int ((n : Nat) : Int)), oT (nxF b n), qT (gR x n), .own (R o)]) (l := o) (r := gR x n) rfl (by simp) (by omega)
  by_cases z : gR b n = 0
  · simp only [z, decide_true, if_true, z_sbind_ok, z_ex, ap]
    simp [unAt, z]
  · cases q : nxF b n with
    | none =>
      rw [q] at ap
      simp only [z, decide_false, Bool.false_eq_true, if_false]
      simp [oT, sIsN, nonT] at ap ⊢
      rw [ap]
      simp [unAt, z, q]
    | some k =>
      obtain ⟨k1, k2, k3, k4⟩ := nxF_some q
      have v1 := x_over (B n) (B k) k3 (by omega) (by omega)
      have v2 := x_times ((B n).div (B k) k3 (Nat.le_refl _) (Nat.le_refl _)) (X k) (by omega) (by omega)
      have v3 := x_less (X n) (((B n).div (B k) k3 (Nat.le_refl _) (Nat.le_refl _)).mul (X k) (Nat.le_refl _) (Nat.le_refl _)) (by omega) (by omega) (by omega)
      have i1 := ix_row (σ := [.tup (R x), .tup (R b), .v (.int ((n : Nat) : Int)), .v (.int ((k : Nat) : Int)), qT (gR x n), .own (R o)]) (t := .tup (R b)) (i := 1) (j := 2) (n := n) rfl (.inl rfl) rfl (by omega)
      have i2 := ix_row (σ := [.tup (R x), .tup (R b), .v (.int ((n : Nat) : Int)), .v (.int ((k : Nat) : Int)), qT (gR x n), .own (R o)]) (t := .tup (R b)) (i := 1) (j := 3) (n := k) rfl (.inl rfl) rfl (by omega)
      have i3 := ix_row (σ := [.tup (R x), .tup (R b), .v (.int ((n : Nat) : Int)), .v (.int ((k : Nat) : Int)), qT (gR x n), .own (R o)]) (t := .tup (R x)) (i := 0) (j := 3) (n := k) rfl (.inl rfl) rfl (by omega)
      have w1 := call_ok (cons_ok i1 (cons_ok i2 (z_nil))) v1
      have w2 := call_ok (cons_ok w1 (cons_ok i3 (z_nil))) v2
      have w3 := call_ok (cons_ok (var_ok (σ := [.tup (R x), .tup (R b), .v (.int ((n : Nat) : Int)), .v (.int ((k : Nat) : Int)), qT (gR x n), .own (R o)]) (t := qT (gR x n)) (j := 4) rfl) (cons_ok w2 (z_nil))) v3
      have ap2 := app_R (i := 5) (σ := [.tup (R x), .tup (R b), .v (.int ((n : Nat) : Int)), .v (.int ((k : Nat) : Int)), qT (gR x n), .own (R o)]) (l := o) rfl w3 (by omega)
      simp only [z, decide_false, Bool.false_eq_true, if_false]
      simp only [oT]
      rw [z_bl, z_op2, var_ok (t := .v (.int ((k : Nat) : Int))) rfl]
      simp only [z_bind_ok, z_c, sIsN, nonT, reduceCtorEq, decide_false, Option.map_some, z_sbind_ok, Bool.false_eq_true, if_false]
      rw [z_ex, ap2]
      simp [unAt, z, q]
theorem x_unmade_row {t u : T} {x b : List Rat} {nx dx nb db : Nat} (ht : IsR t x) (hu : IsR u b) (X : Rb nx dx x) (B : Rb nb db b) (hl : x.length = b.length) (hx : x.length ≤ 900) (cN : nx + dx + nb + db < 300000) (cD : 2 * dx + nb + db < 9000) :
    m_unmade_row [t, u] = .ok (.tup (R (unR x b))) .hole := by
  obtain ⟨σ', e, u2, u3, u4, h⟩ := forL_rel (w := wTup 2 (wCons (fN 2) (wCons (fN 4) wNil))) (body := urB) (enumT 0 (R x)) (fun k σ => ∃ u2 u3 u4, σ = [.tup (R x), .tup (R b), u2, u3, u4, .own (R ((List.range k).map (unAt x b)))]) [.tup (R x), .tup (R b), .hole, .hole, .hole, .own []] ⟨_, _, _, rfl⟩ fun k σ hk hp => by
    obtain ⟨u2, u3, u4, rfl⟩ := hp
    have hk' : k < x.length := by simpa [enumT_len] using hk
    obtain ⟨v3, hv⟩ := urB_ok (u := u3) (o := (List.range k).map (unAt x b)) X B hl hx hk' (by simp; omega) cN cD
    refine ⟨_, _, ?_, hv, _, _, _, by rw [range_map_succ]⟩
    rw [enumT_at hk (by simpa using hk')]
    have : (R x)[k]'(by simpa using hk') = qT (gR x k) := by
      have := R_g hk'
      rw [List.getElem?_eq_getElem (by simpa using hk')] at this
      exact Option.some.inj this
    rw [this]
    simp
  have fx : IsR (fz t) x := by
    rcases ht.f with q | q
    · rw [q]; exact .tup x
    · rw [q]; exact .lst x
  have fu : IsR (fz u) b := by
    rcases hu.f with q | q
    · rw [q]; exact .tup b
    · rw [q]; exact .lst b
  have e0 : b_unmade_row = mSeq (mAsg (mCall m_pair_of_rows (mCons (fVar 0) (mCons (fVar 1) mNil))) (wTup 2 (wCons (fN 0) (wCons (fN 1) wNil)))) (mSeq (mAsg (mLst mNil) (fN 5)) (mSeq (mFor (mEnA (fVar 0)) (wTup 2 (wCons (fN 2) (wCons (fN 4) wNil))) urB) (mRet (mCallB sTuple (mCons (fVar 5) mNil))))) := rfl
  refine fn_rt (σ := [.tup (R x), .tup (R b), u2, u3, u4, .lst (R (unR x b))]) ?_
  rw [e0]
  have hlen : (enumT 0 (R x)).length = x.length := by simp [enumT_len]
  rw [hlen] at h
  subst h
  simp [ht.h, hu.h, x_pair fx fu (by omega) hl, szB, e, sTuple, seqL, fzs_R, unR]
end G

namespace MV
open PySem PySem.Spec PyProof.Rows L2
theorem rgB_pred {n : Nat} (h : n ≤ 1000) : rgB (((n : Nat) : Int) - 1) = true := by
  cases n with
  | zero => decide
  | succ m =>
    have e : (((m + 1 : Nat) : Int) - 1) = ((m : Nat) : Int) := by omega
    rw [e]
    exact rgB_nat (by omega)
theorem rgB_m1 : rgB (-1) = true := by decide
theorem R_rev (l : List Rat) : (R l).reverse = R l.reverse := by simp [R]
theorem ma_rev (x b : List Rat) : ((List.range x.length).map fun m => maAt x b (x.length - 1 - m)).reverse = maR x b := by
  unfold maR
  apply List.ext_getElem (by simp)
  intro i h1 h2
  simp at h1
  simp
  congr 1
  omega
/-! ### Euclid's way in a bounded number of turns -/
def eu : Nat → Nat → Nat → Nat × Nat
  | 0, a, b => (a, b)
  | n + 1, a, b => if 0 < b then eu n b (a % b) else (a, b)
theorem eu_zero : ∀ n a, eu n a 0 = (a, 0)
  | 0, a => rfl
  | n + 1, a => by simp [eu]
theorem eu_gcd : ∀ n a b, Nat.gcd (eu n a b).1 (eu n a b).2 = Nat.gcd a b
  | 0, a, b => rfl
  | n + 1, a, b => by
    unfold eu
    split
    · rw [eu_gcd n b (a % b), Nat.gcd_comm b, Nat.gcd_comm a b]
      exact (Nat.gcd_rec b a).symm
    · rfl
theorem eu_end : ∀ m n a b, b < 2 ^ m → 2 * m ≤ n → (eu n a b).2 = 0
  | 0, n, a, b, h, _ => by
    have : b = 0 := by simpa using h
    subst this
    rw [eu_zero]
  | m + 1, n, a, b, h, hn => by
    obtain ⟨k, rfl⟩ : ∃ k, n = k + 2 := ⟨n - 2, by omega⟩
    by_cases h0 : 0 < b
    · rw [show eu (k + 2) a b = eu (k + 1) b (a % b) by simp [eu, h0]]
      by_cases h1 : 0 < a % b
      · rw [show eu (k + 1) b (a % b) = eu k (a % b) (b % (a % b)) by simp [eu, h1]]
        refine eu_end m k _ _ ?_ (by omega)
        have l1 : a % b < b := Nat.mod_lt _ h0
        have l2 : b % (a % b) < a % b := Nat.mod_lt _ h1
        have l3 : b % (a % b) ≤ b - a % b := by
          have := Nat.mod_add_div b (a % b)
          have q : 1 ≤ b / (a % b) := (Nat.one_le_div_iff h1).mpr (Nat.le_of_lt l1)
          have : (a % b) * 1 ≤ (a % b) * (b / (a % b)) := Nat.mul_le_mul_left _ q
          omega
        rw [Nat.pow_succ] at h
        omega
      · have : a % b = 0 := by omega
        rw [this, eu_zero]
    · have : b = 0 := by omega
      subst this
      rw [eu_zero]
theorem eu_out {m n a b : Nat} (h : b < 2 ^ m) (hn : 2 * m ≤ n) : eu n a b = (Nat.gcd a b, 0) := by
  have e := eu_end m n a b h hn
  have g := eu_gcd n a b
  rw [e, Nat.gcd_zero_right] at g
  exact Prod.ext g e
theorem eu_succ : ∀ n a b, eu (n + 1) a b = if 0 < (eu n a b).2 then ((eu n a b).2, (eu n a b).1 % (eu n a b).2) else eu n a b
  | 0, a, b => rfl
  | n + 1, a, b => by
    by_cases h : 0 < b
    · have e1 : eu (n + 1 + 1) a b = eu (n + 1) b (a % b) := by rw [eu]; simp [h]
      have e2 : eu (n + 1) a b = eu n b (a % b) := by rw [eu]; simp [h]
      rw [e1, e2]
      exact eu_succ n b (a % b)
    · have : b = 0 := by omega
      subst this
      simp [eu_zero]
end MV
namespace G
open PySem PySem.Spec PyProof.Rows L2 MV
end G

namespace G
open PySem PySem.Spec PyProof.Rows L2 MV
noncomputable def leB : List T → SRes := (mIf (mBl (mOp2 sGt (fVar 2) (mC (.v (.int 0)))))
  (mSeq (mAsg (mOp2 sMod (mCallB sInt (mCons (fVar 3) mNil)) (fVar 2)) (fN 4))
  (mSeq (mAsg (fVar 2) (fN 3))
  (mAsg (fVar 4) (fN 2))))
  .nx)
theorem leB_ok (A B : T) (hA : A.isHole = false) (n p q : Nat) (u4 u5 : T) : ∃ v4, leB [A, B, .v (.int ((eu n p q).2 : Nat)), .v (.int ((eu n p q).1 : Nat)), u4, u5] = .nx [A, B, .v (.int ((eu (n + 1) p q).2 : Nat)), .v (.int ((eu (n + 1) p q).1 : Nat)), v4, u5] := by
  rw [eu_succ]
  generalize eu n p q = xy
  obtain ⟨x, y⟩ := xy
  simp only []
  by_cases h : 0 < y
  · refine ⟨.v (.int ((x % y : Nat) : Int)), ?_⟩
    have h' : (0 : Int) < (y : Int) := by omega
    have m : modB ((x : Nat) : Int) ((y : Nat) : Int) = true := by unfold modB; simp [h]
    simp [leB, sGt, iOp, h, h', sMod, m, sInt]
  · refine ⟨u4, ?_⟩
    have : y = 0 := by omega
    subst this
    simp [leB, sGt, iOp]
noncomputable def lpR : List T → SRes := (mSeq (mAsg (mCallB sAbs (mCons (fVar 0) mNil)) (fN 3))
  (mSeq (mAsg (fVar 1) (fN 2))
  (mSeq (mFor (mRg1 (mOp2 sPlus (mOp2 fTimes (mC (.v (.int 2))) (mBits (fVar 1))) (mC (.v (.int 12))))) (fN 5) leB)
  (mRet (mTup (mCons (mOp2 gDiv (fVar 0) (fVar 3)) (mCons (mOp2 gDiv (fVar 1) (fVar 3)) mNil)))))))
theorem lpR_ok {A B : Int} {n : Nat} (hB : 0 < B) (k : Lt2 B.natAbs n) (l : n < 9000) : ∃ σ', lpR [.v (.int A), .v (.int B), .hole, .hole, .hole, .hole] = .rt (qT (Rat.divInt A B)) σ' := by
  have hb : B = ((B.natAbs : Nat) : Int) := by omega
  obtain ⟨m, hm⟩ : ∃ m : Nat, Builtin.Int.intBits B = m := ⟨_, rfl⟩
  have m1 : m ≤ 9001 := by
    rw [← hm]
    unfold Builtin.Int.intBits
    have := k.log'
    split
    · omega
    · omega
  have m2 : B.natAbs < 2 ^ m := by
    rw [← hm]
    unfold Builtin.Int.intBits
    have : (B == 0) = false := by simp; omega
    rw [this]
    exact Nat.lt_log2_self
  have tm : sTimes (.v (.int 2)) (.v (.int ((m : Nat) : Int))) = some (.v (.int (2 * ((m : Nat) : Int)))) := by
    refine times_int (mulB_of (n := 1) (m := 14) ?_ ?_ (by omega))
    · show (2 : Nat) ≤ 2 ^ 1
      decide
    · show ((m : Nat) : Int).natAbs ≤ 2 ^ 14
      have : (2 : Nat) ^ 14 = 16384 := by decide
      rw [this]
      simp
      omega
  obtain ⟨σ', e, u4, u5, h⟩ := forL_rel (w := fN 5) (body := leB) (intsFrom 0 (2 * m + 12)) (fun k σ => ∃ u4 u5, σ = [.v (.int A), .v (.int B), .v (.int ((eu k A.natAbs B.natAbs).2 : Nat)), .v (.int ((eu k A.natAbs B.natAbs).1 : Nat)), u4, u5]) [.v (.int A), .v (.int B), .v (.int ((B.natAbs : Nat) : Int)), .v (.int ((A.natAbs : Nat) : Int)), .hole, .hole] ⟨_, _, rfl⟩ fun k σ hk hp => by
    obtain ⟨u4, u5, rfl⟩ := hp
    obtain ⟨v4, hv⟩ := leB_ok (.v (.int A)) (.v (.int B)) rfl k A.natAbs B.natAbs u4 (.v (.int (0 + ((k : Nat) : Int))))
    exact ⟨[.v (.int A), .v (.int B), .v (.int ((eu k A.natAbs B.natAbs).2 : Nat)), .v (.int ((eu k A.natAbs B.natAbs).1 : Nat)), u4, .v (.int (0 + ((k : Nat) : Int)))], _, by rw [intsFrom_get]; simp, hv, _, _, rfl⟩
  rw [intsFrom_len, eu_out m2 (by omega)] at h
  subst h
  obtain ⟨e1, e2⟩ := low_div A B (by omega)
  rw [if_neg (by omega)] at e1 e2
  have g0 : Nat.gcd A.natAbs B.natAbs ≠ 0 := fun z => by have := Nat.eq_zero_of_gcd_eq_zero_right z; omega
  have gl : Nat.gcd A.natAbs B.natAbs ≤ B.natAbs := Nat.gcd_le_right _ (by omega)
  have dg : divG ((Nat.gcd A.natAbs B.natAbs : Nat) : Int) = true := divG_of (by omega) (k.le (by omega)) l
  have ab : (if A < 0 then -A else A) = ((A.natAbs : Nat) : Int) := by
    split <;> omega
  have rg : mOp2 sPlus (mOp2 fTimes (mC (.v (.int 2))) (mBits (fVar 1))) (mC (.v (.int 12))) [.v (.int A), .v (.int B), .v (.int ((B.natAbs : Nat) : Int)), .v (.int ((A.natAbs : Nat) : Int)), .hole, .hole] = .ok (.v (.int ((2 * m + 12 : Nat) : Int))) [.v (.int A), .v (.int B), .v (.int ((B.natAbs : Nat) : Int)), .v (.int ((A.natAbs : Nat) : Int)), .hole, .hole] := by
    have e3 : 2 * ((m : Nat) : Int) + 12 = ((2 * m + 12 : Nat) : Int) := by omega
    simp only [z_op2, z_c, z_bind_ok, z_bits]
    rw [var_ok (t := .v (.int B)) rfl]
    simp only [z_bind_ok, hm, z_fTimes, tm, plus_int, e3]
  refine ⟨[.v (.int A), .v (.int B), .v (.int ((0 : Nat) : Int)), .v (.int ((Nat.gcd A.natAbs B.natAbs : Nat) : Int)), u4, u5], ?_⟩
  unfold lpR
  have s1 : mAsg (mCallB sAbs (mCons (fVar 0) mNil)) (fN 3) [.v (.int A), .v (.int B), .hole, .hole, .hole, .hole] = .nx [.v (.int A), .v (.int B), .hole, .v (.int ((A.natAbs : Nat) : Int)), .hole, .hole] := by
    simp [sAbs, ab]
  have s2 : mAsg (fVar 1) (fN 2) [.v (.int A), .v (.int B), .hole, .v (.int ((A.natAbs : Nat) : Int)), .hole, .hole] = .nx [.v (.int A), .v (.int B), .v (.int ((B.natAbs : Nat) : Int)), .v (.int ((A.natAbs : Nat) : Int)), .hole, .hole] := by
    rw [← hb]
    simp
  rw [z_seq, s1, z_seq_nx, z_seq, s2, z_seq_nx, z_seq, z_for, rg1_ok rg (by omega), z_sbind_ok, e, z_seq_nx]
  simp [gDiv_int dg, e1, e2, szB]
theorem x_lpair {a b : Int} {n : Nat} (hb : b ≠ 0) (k : Lt2 b.natAbs n) (l : n < 9000) : m__law_pair [.v (.int a), .v (.int b)] = .ok (qT (Rat.divInt a b)) .hole := by
  have e0 : b__law_pair = mSeq (mIf (mBl (mOp2 sLt (fVar 1) (mC (.v (.int 0))))) (mSeq (mAsg (mNeg (fVar 0)) (fN 0)) (mAsg (mNeg (fVar 1)) (fN 1))) .nx) lpR := rfl
  by_cases h : b < 0
  · obtain ⟨σ', e⟩ := lpR_ok (A := -a) (B := -b) (n := n) (by omega) (by simpa using k) l
    rw [Rat.neg_divInt_neg] at e
    refine fn_rt (σ := σ') ?_
    rw [e0, z_seq]
    have s1 : mIf (mBl (mOp2 sLt (fVar 1) (mC (.v (.int 0))))) (mSeq (mAsg (mNeg (fVar 0)) (fN 0)) (mAsg (mNeg (fVar 1)) (fN 1))) .nx ([.v (.int a), .v (.int b)] ++ List.replicate (6 - [T.v (.int a), T.v (.int b)].length) .hole) = .nx [.v (.int (-a)), .v (.int (-b)), .hole, .hole, .hole, .hole] := by
      simp [sLt, iOp, h]
    rw [s1, z_seq_nx, e]
  · obtain ⟨σ', e⟩ := lpR_ok (A := a) (B := b) (n := n) (by omega) k l
    refine fn_rt (σ := σ') ?_
    rw [e0, z_seq]
    have s1 : mIf (mBl (mOp2 sLt (fVar 1) (mC (.v (.int 0))))) (mSeq (mAsg (mNeg (fVar 0)) (fN 0)) (mAsg (mNeg (fVar 1)) (fN 1))) .nx ([.v (.int a), .v (.int b)] ++ List.replicate (6 - [T.v (.int a), T.v (.int b)].length) .hole) = .nx [.v (.int a), .v (.int b), .hole, .hole, .hole, .hole] := by
      simp [sLt, iOp, h]
    rw [s1, z_seq_nx, e]
section
variable {a b : Rat} {na da nb db : Nat} (A : Bd na da a) (B : Bd nb db b)
include A B
theorem x_lless (h1 : na + db < 1000000) (h2 : nb + da < 1000000) (h3 : da + db < 9000) : m__law_less [qT a, qT b] = .ok (qT (a - b)) .hole := by
  apply fn_rt (σ := [qT a, qT b])
  have t1 := times_int (mulB_of A.n (by simpa using B.d : Lt2 ((b.den : Int)).natAbs db) h1)
  have t2 := times_int (mulB_of B.n (by simpa using A.d : Lt2 ((a.den : Int)).natAbs da) h2)
  have t3 := times_int (mulB_of (by simpa using A.d : Lt2 ((a.den : Int)).natAbs da) (by simpa using B.d : Lt2 ((b.den : Int)).natAbs db) (by omega))
  have nz : ((a.den : Int) * b.den) ≠ 0 := Int.mul_ne_zero (by exact_mod_cast a.den_nz) (by exact_mod_cast b.den_nz)
  have lo := x_lpair (a := a.num * b.den - b.num * a.den) nz (n := da + db) (by simpa [Int.natAbs_mul] using A.d.mul B.d) h3
  rw [← sub_div] at lo
  simp [b__law_less, mIxN, live, ixT, sIx, atI, ixN, t1, t2, t3, sub_intT, lo]
theorem x_ltimes (h1 : na + nb < 1000000) (h3 : da + db < 9000) : m__law_times [qT a, qT b] = .ok (qT (a * b)) .hole := by
  apply fn_rt (σ := [qT a, qT b])
  have t1 := times_int (mulB_of A.n B.n h1)
  have t3 := times_int (mulB_of (by simpa using A.d : Lt2 ((a.den : Int)).natAbs da) (by simpa using B.d : Lt2 ((b.den : Int)).natAbs db) (by omega))
  have nz : ((a.den : Int) * b.den) ≠ 0 := Int.mul_ne_zero (by exact_mod_cast a.den_nz) (by exact_mod_cast b.den_nz)
  have lo := x_lpair (a := a.num * b.num) nz (n := da + db) (by simpa [Int.natAbs_mul] using A.d.mul B.d) h3
  rw [← mul_div] at lo
  simp [b__law_times, mIxN, live, ixT, sIx, atI, ixN, t1, t3, lo]
theorem x_lover (hb : b ≠ 0) (h1 : na + db < 1000000) (h3 : da + nb < 9000) : m__law_over [qT a, qT b] = .ok (qT (a / b)) .hole := by
  apply fn_rt (σ := [qT a, qT b])
  have hn := num_ne hb
  have t1 := times_int (mulB_of A.n (by simpa using B.d : Lt2 ((b.den : Int)).natAbs db) h1)
  have t3 := times_int (mulB_of (by simpa using A.d : Lt2 ((a.den : Int)).natAbs da) B.n (by omega))
  have nz : ((a.den : Int) * b.num) ≠ 0 := Int.mul_ne_zero (by exact_mod_cast a.den_nz) hn
  have lo := x_lpair (a := a.num * b.den) nz (n := da + nb) (by simpa [Int.natAbs_mul] using A.d.mul B.n) h3
  rw [← div_div a b hn] at lo
  simp [b__law_over, mIxN, live, ixT, sIx, atI, ixN, fEq, hn, t1, t3, lo]
end
end G

namespace MV
open PySem PySem.Spec PyProof.Rows L2
/-- the sum that the law makes from the left -/
def pmR (x b : List Rat) (c : Nat) : Nat → Rat
  | 0 => 0
  | j + 1 => if gR b (c + j) = 0 then pmR x b c j else pmR x b c j + gR b c / gR b (c + j) * gR x (c + j)
theorem pm_sm {x b : List Rat} {c : Nat} (h0 : gR b c ≠ 0) : ∀ j, c + j ≤ x.length → pmR x b c j + gR b c * smR x b (x.length - c - j) = gR b c * smR x b (x.length - c)
  | 0, h => by simp only [pmR]; rw [Nat.sub_zero]; grind
  | j + 1, h => by
    have ih := pm_sm (x := x) h0 j (by omega)
    have e : x.length - c - j = (x.length - c - (j + 1)) + 1 := by omega
    rw [e] at ih
    simp only [smR] at ih
    have e2 : x.length - 1 - (x.length - c - (j + 1)) = c + j := by omega
    rw [e2] at ih
    simp only [pmR]
    by_cases z : gR b (c + j) = 0
    · rw [if_pos z] at ih ⊢
      exact ih
    · rw [if_neg z] at ih ⊢
      rw [← ih]
      grind
theorem pm_end {x b : List Rat} {c : Nat} (h0 : gR b c ≠ 0) (hc : c < x.length) : pmR x b c (x.length - c) = maAt x b c := by
  have := pm_sm (x := x) h0 (x.length - c) (by omega)
  rw [Nat.sub_self] at this
  simp only [smR] at this
  unfold maAt
  rw [if_neg h0, ← this]
  grind
theorem pm_bd {x b : List Rat} {nx dx nb db c : Nat} (X : Rb nx dx x) (B : Rb nb db b) : ∀ j, Bd (j * (2 * nb + 2 * db + nx + dx + 1)) (j * (nb + db + dx)) (pmR x b c j)
  | 0 => Bd.zero
  | j + 1 => by
    have ih := pm_bd (c := c) X B j
    have le : j * (nb + db + dx) ≤ j * (2 * nb + 2 * db + nx + dx + 1) := Nat.mul_le_mul_left _ (by omega)
    have e1 : (j + 1) * (2 * nb + 2 * db + nx + dx + 1) = j * (2 * nb + 2 * db + nx + dx + 1) + (2 * nb + 2 * db + nx + dx + 1) := Nat.succ_mul _ _
    have e2 : (j + 1) * (nb + db + dx) = j * (nb + db + dx) + (nb + db + dx) := Nat.succ_mul _ _
    rw [e1, e2]
    simp only [pmR]
    split
    · exact ih.mono (by omega) (by omega)
    · rename_i h
      exact ih.add (((B c).div (B _) h (Nat.le_refl _) (Nat.le_refl _)).mul (X _) (Nat.le_refl _) (Nat.le_refl _)) (by omega) (by omega) (by omega)
end MV
namespace G
open PySem PySem.Spec PyProof.Rows L2 MV
def loI (o : Option Nat) : Int := match o with
  | some k => ((k : Nat) : Int)
  | none => -1
theorem faB_ok2 {t : T} {b : List Rat} {c n : Nat} (ht : t = .tup (R b) ∨ t = .lst (R b)) (hn : n < b.length) : faB [t, .v (.int (c : Nat)), .v (.int ((n : Nat) : Int))] =
    if gR b n = 0 then .nx [t, .v (.int (c : Nat)), .v (.int ((n : Nat) : Int))] else .rt (.v (.int ((n : Nat) : Int))) [t, .v (.int (c : Nat)), .hole] := by
  unfold faB
  rw [z_if, ne_top (n := n) (b := b) rfl ht rfl hn]
  by_cases z : gR b n = 0
  · simp [z]
  · simp [z, mRetM]
theorem fa_step2 {t : T} {c n k : Nat} {u : T} (e : n = c + 1 + k) : fN 2 (.v (.int (((c : Int) + 1) + k))) [t, .v (.int (c : Nat)), u] = some [t, .v (.int (c : Nat)), .v (.int ((n : Nat) : Int))] := by
  subst e
  simp
theorem x_lnext {t : T} (b : List Rat) (c : Nat) (ht : t = .tup (R b) ∨ t = .lst (R b)) (hl : b.length ≤ 1000) (hc : c ≤ 1000) : m__law_next [t, .v (.int (c : Nat))] = .ok (.v (.int (loI (nxF b c)))) .hole := by
  have hh : t.isHole = false := by rcases ht with rfl | rfl <;> rfl
  have hd : mRg2 (mOp2 sPlus (fVar 1) (mC (.v (.int 1)))) (mLenN 0) [t, .v (.int (c : Nat)), .hole] = .ok (intsFrom ((c : Int) + 1) (b.length - (c + 1))) [t, .v (.int (c : Nat)), .hole] := by
    have hn : ((b.length : Int) - ((c : Int) + 1)).toNat = b.length - (c + 1) := by omega
    refine rg2_ok (by simp [plus_int]) ?_ (fa_rg hc) (rgB_nat (by omega)) hn
    rcases ht with rfl | rfl <;> simp [mLenN, live, lenT, seqA, seqL]
  have e0 : b__law_next = mSeq (mFor (mRg2 (mOp2 sPlus (fVar 1) (mC (.v (.int 1)))) (mLenN 0)) (fN 2) faB) (mRet (mNeg (mC (.v (.int 1))))) := rfl
  cases q : nxF b c with
  | none =>
    have z := nxF_none q
    obtain ⟨σ', e, u, h⟩ := forL_rel (w := fN 2) (body := faB) (intsFrom ((c : Int) + 1) (b.length - (c + 1))) (fun k σ => ∃ u, σ = [t, .v (.int (c : Nat)), u]) [t, .v (.int (c : Nat)), .hole] ⟨_, rfl⟩ fun k σ hk hp => by
      obtain ⟨u, rfl⟩ := hp
      rw [intsFrom_len] at hk
      exact ⟨_, _, by rw [intsFrom_get]; exact fa_step2 (n := c + 1 + k) rfl, by rw [faB_ok2 ht (by omega), if_pos (z _ (by omega))], _, rfl⟩
    refine fn_rt (σ := σ') ?_
    show b__law_next [t, .v (.int (c : Nat)), .hole] = _
    rw [e0, z_seq, z_for, hd, z_sbind_ok, e, z_seq_nx]
    simp [loI]
  | some k =>
    obtain ⟨k1, k2, k3, k4⟩ := nxF_some q
    obtain ⟨σ', e⟩ := forL_ret (w := fN 2) (body := faB) (res := .v (.int ((k : Nat) : Int))) (intsFrom ((c : Int) + 1) (b.length - (c + 1))) (fun k σ => ∃ u, σ = [t, .v (.int (c : Nat)), u]) [t, .v (.int (c : Nat)), .hole] (k - (c + 1)) (by rw [intsFrom_len]; omega) ⟨_, rfl⟩ (fun j σ hk hlt hp => by
      obtain ⟨u, rfl⟩ := hp
      rw [intsFrom_len] at hk
      exact ⟨_, _, by rw [intsFrom_get]; exact fa_step2 (n := c + 1 + j) rfl, by rw [faB_ok2 ht (by omega), if_pos (k4 _ (by omega) (by omega))], _, rfl⟩) (fun σ hp => by
      obtain ⟨u, rfl⟩ := hp
      exact ⟨_, _, by rw [intsFrom_get]; exact fa_step2 (n := k) (by omega), by rw [faB_ok2 ht k2, if_neg k3]⟩)
    refine fn_rt (σ := σ') ?_
    show b__law_next [t, .v (.int (c : Nat)), .hole] = _
    rw [e0, z_seq, z_for, hd, z_sbind_ok, e]
    all_goals rfl
/-! ### the law's unmade row -/
noncomputable def luB : List T → SRes := (mSeq (mAsg (mCall m__law_next (mCons (fVar 1) (mCons (fVar 2) mNil))) (fN 3))
  (mSeq (mAsg (fIxN 0 (fVar 2)) (fN 4))
  (mSeq (mIf (mAnd (mBl (mOp2 fNe (mOp2 fIx (fIxN 1 (fVar 2)) (mC (.v (.int 0)))) (mC (.v (.int 0))))) (mBl (mOp2 sGe (fVar 3) (mC (.v (.int 0))))))
  (mSeq (mAsg (mCall m__law_over (mCons (fIxN 1 (fVar 2)) (mCons (fIxN 1 (fVar 3)) mNil))) (fN 5))
  (mAsg (mCall m__law_less (mCons (fVar 4) (mCons (mCall m__law_times (mCons (fVar 5) (mCons (fIxN 0 (fVar 3)) mNil))) mNil))) (fN 4)))
  .nx)
  (mEx (mAppN 6 (fVar 4))))))
abbrev Rw (t : T) (l : List Rat) : Prop := t = .tup (R l) ∨ t = .lst (R l)
theorem Rw.hole {t : T} {l : List Rat} (h : Rw t l) : t.isHole = false := by rcases h with rfl | rfl <;> rfl
theorem Rw.fz {t : T} {l : List Rat} (h : Rw t l) : fz t = t := by rcases h with rfl | rfl <;> simp
theorem Rw.len {t : T} {l : List Rat} (h : Rw t l) : lenT t = some l.length := by rcases h with rfl | rfl <;> simp [lenT, seqA, seqL]
theorem len_ok {σ : List T} {t : T} {i n : Nat} (h : σ[i]? = some t) (hh : t.isHole = false) (hl : lenT t = some n) : mLenN i σ = .ok (.v (.int ((n : Nat) : Int))) σ := by
  unfold mLenN live
  rw [h]
  simp [hh, hl]
theorem luB_ok {t s : T} {x b : List Rat} {nx dx nb db n : Nat} {u3 u4 u5 : T} {o : List Rat} (ht : Rw t x) (hs : Rw s b) (X : Rb nx dx x) (B : Rb nb db b) (hl : x.length = b.length) (hx : x.length ≤ 900) (hn : n < x.length) (ho : o.length ≤ 1000) (cN : nx + dx + nb + db < 300000) (cD : 2 * dx + nb + db < 9000) :
    ∃ v3 v4 v5, luB [t, s, .v (.int ((n : Nat) : Int)), u3, u4, u5, .own (R o)] = .nx [t, s, .v (.int ((n : Nat) : Int)), v3, v4, v5, .own (R (o ++ [unAt x b n]))] := by
  have f := x_lnext b n hs (by omega) (by omega)
  have s1 : mAsg (mCall m__law_next (mCons (fVar 1) (mCons (fVar 2) mNil))) (fN 3) [t, s, .v (.int ((n : Nat) : Int)), u3, u4, u5, .own (R o)] = .nx [t, s, .v (.int ((n : Nat) : Int)), .v (.int (loI (nxF b n))), u4, u5, .own (R o)] := by
    rw [z_asg, call_ok (cons_ok (var_ok (t := s) rfl hs.hole hs.fz) (cons_ok (var_ok (t := .v (.int ((n : Nat) : Int))) rfl) z_nil)) f]
    simp
  have s2 : mAsg (fIxN 0 (fVar 2)) (fN 4) [t, s, .v (.int ((n : Nat) : Int)), .v (.int (loI (nxF b n))), u4, u5, .own (R o)] = .nx [t, s, .v (.int ((n : Nat) : Int)), .v (.int (loI (nxF b n))), qT (gR x n), u5, .own (R o)] := by
    rw [z_asg, ix_row (n := n) rfl ht rfl hn]
    simp
  unfold luB
  rw [z_seq, s1, z_seq_nx, z_seq, s2, z_seq_nx, z_seq, z_if, z_and, ne_top (n := n) (b := b) rfl hs rfl (by omega), z_bind_ok]
  have ap := fun (v5 : T) (r : Rat) (v3 : T) => app_R (i := 6) (f := fVar 4) (σ := [t, s, .v (.int ((n : Nat) : Int)), v3, qT r, v5, .own (R o)]) (l := o) (r := r) rfl (var_ok (t := qT r) rfl) (by omega)
  by_cases z : gR b n = 0
  · refine ⟨.v (.int (loI (nxF b n))), qT (gR x n), u5, ?_⟩
    simp only [z, decide_true, Bool.not_true, Bool.false_eq_true, if_false, z_sbind_ok, z_seq_nx]
    rw [z_ex, ap]
    simp only [z_sbind_ok, unAt, z, if_true]
    all_goals rfl
  · cases q : nxF b n with
    | none =>
      refine ⟨.v (.int (-1)), qT (gR x n), u5, ?_⟩
      simp only [z, decide_false, Bool.not_false, if_true, loI]
      rw [z_bl, z_op2, var_ok (t := .v (.int (-1))) rfl]
      simp only [z_bind_ok, z_c, sGe, iOp, Option.map_some, z_sbind_ok]
      have d : decide ((0 : Int) ≤ -1) = false := by decide
      rw [d]
      simp only [Bool.false_eq_true, if_false, z_seq_nx]
      rw [z_ex, ap]
      simp only [z_sbind_ok, unAt, z, q, if_false]
      all_goals rfl
    | some k =>
      obtain ⟨k1, k2, k3, k4⟩ := nxF_some q
      have v1 := x_lover (B n) (B k) k3 (by omega) (by omega)
      have v2 := x_ltimes ((B n).div (B k) k3 (Nat.le_refl _) (Nat.le_refl _)) (X k) (by omega) (by omega)
      have v3 := x_lless (X n) (((B n).div (B k) k3 (Nat.le_refl _) (Nat.le_refl _)).mul (X k) (Nat.le_refl _) (Nat.le_refl _)) (by omega) (by omega) (by omega)
      have i1 := fun v5 => ix_row (σ := [t, s, .v (.int ((n : Nat) : Int)), .v (.int ((k : Nat) : Int)), qT (gR x n), v5, .own (R o)]) (t := s) (b := b) (i := 1) (j := 2) (n := n) rfl hs rfl (by omega)
      have i2 := fun v5 => ix_row (σ := [t, s, .v (.int ((n : Nat) : Int)), .v (.int ((k : Nat) : Int)), qT (gR x n), v5, .own (R o)]) (t := s) (b := b) (i := 1) (j := 3) (n := k) rfl hs rfl (by omega)
      have i3 := fun v5 => ix_row (σ := [t, s, .v (.int ((n : Nat) : Int)), .v (.int ((k : Nat) : Int)), qT (gR x n), v5, .own (R o)]) (t := t) (b := x) (i := 0) (j := 3) (n := k) rfl ht rfl (by omega)
      have w1 := call_ok (cons_ok (i1 u5) (cons_ok (i2 u5) (z_nil))) v1
      have w2 := call_ok (cons_ok (var_ok (j := 5) (t := qT (gR b n / gR b k)) rfl) (cons_ok (i3 (qT (gR b n / gR b k))) (z_nil))) v2
      have w3 := call_ok (cons_ok (var_ok (t := qT (gR x n)) (j := 4) rfl) (cons_ok w2 (z_nil))) v3
      refine ⟨.v (.int ((k : Nat) : Int)), qT (gR x n - gR b n / gR b k * gR x k), qT (gR b n / gR b k), ?_⟩
      simp only [z, decide_false, Bool.not_false, if_true, loI]
      rw [z_bl, z_op2, var_ok (t := .v (.int ((k : Nat) : Int))) rfl]
      simp only [z_bind_ok, z_c, sGe, iOp, Option.map_some, z_sbind_ok]
      have d : decide ((0 : Int) ≤ ((k : Nat) : Int)) = true := by simp
      rw [d]
      simp only [if_true]
      have s3 : mAsg (mCall m__law_over (mCons (fIxN 1 (fVar 2)) (mCons (fIxN 1 (fVar 3)) mNil))) (fN 5) [t, s, .v (.int ((n : Nat) : Int)), .v (.int ((k : Nat) : Int)), qT (gR x n), u5, .own (R o)] = .nx [t, s, .v (.int ((n : Nat) : Int)), .v (.int ((k : Nat) : Int)), qT (gR x n), qT (gR b n / gR b k), .own (R o)] := by
        rw [z_asg, w1]
        simp
      have s4 : mAsg (mCall m__law_less (mCons (fVar 4) (mCons (mCall m__law_times (mCons (fVar 5) (mCons (fIxN 0 (fVar 3)) mNil))) mNil))) (fN 4) [t, s, .v (.int ((n : Nat) : Int)), .v (.int ((k : Nat) : Int)), qT (gR x n), qT (gR b n / gR b k), .own (R o)] = .nx [t, s, .v (.int ((n : Nat) : Int)), .v (.int ((k : Nat) : Int)), qT (gR x n - gR b n / gR b k * gR x k), qT (gR b n / gR b k), .own (R o)] := by
        rw [z_asg, w3]
        simp
      rw [z_seq, s3, z_seq_nx, s4, z_seq_nx, z_ex, ap]
      simp only [z_sbind_ok, unAt, z, q, if_false]
      all_goals rfl
theorem x_lunmade_row {t s : T} {x b : List Rat} {nx dx nb db : Nat} (ht : Rw t x) (hs : Rw s b) (X : Rb nx dx x) (B : Rb nb db b) (hl : x.length = b.length) (hx : x.length ≤ 900) (cN : nx + dx + nb + db < 300000) (cD : 2 * dx + nb + db < 9000) :
    m__law_unmade_row [t, s] = .ok (.own (R (unR x b))) .hole := by
  obtain ⟨σ', e, u2, u3, u4, u5, h⟩ := forL_rel (w := fN 2) (body := luB) (intsFrom 0 x.length) (fun k σ => ∃ u2 u3 u4 u5, σ = [t, s, u2, u3, u4, u5, .own (R ((List.range k).map (unAt x b)))]) [t, s, .hole, .hole, .hole, .hole, .own []] ⟨_, _, _, _, rfl⟩ fun k σ hk hp => by
    obtain ⟨u2, u3, u4, u5, rfl⟩ := hp
    rw [intsFrom_len] at hk
    obtain ⟨v3, v4, v5, hv⟩ := luB_ok (o := (List.range k).map (unAt x b)) (u3 := u3) (u4 := u4) (u5 := u5) ht hs X B hl hx hk (by simp; omega) cN cD
    refine ⟨[t, s, .v (.int ((k : Nat) : Int)), u3, u4, u5, .own (R ((List.range k).map (unAt x b)))], _, by rw [intsFrom_get]; simp, hv, _, _, _, _, by rw [range_map_succ (unAt x b)]⟩
  rw [intsFrom_len] at h
  subst h
  have e0 : b__law_unmade_row = mSeq (mAsg (mLst mNil) (fN 6)) (mSeq (mFor (mRg1 (mLenN 0)) (fN 2) luB) (mRetM 6)) := rfl
  refine fn_rt (σ := [t, s, u2, u3, u4, u5, .hole]) ?_
  rw [e0]
  have s1 : mAsg (mLst mNil) (fN 6) ([t, s] ++ List.replicate (7 - [t, s].length) T.hole) = .nx [t, s, .hole, .hole, .hole, .hole, .own []] := by simp [szB]
  rw [z_seq, s1, z_seq_nx, z_seq, z_for, rg1_ok (len_ok (n := x.length) rfl ht.hole ht.len) (by omega), z_sbind_ok, e, z_seq_nx]
  simp [mRetM, unR]
end G

namespace G
open PySem PySem.Spec PyProof.Rows L2 MV
end G

namespace MV
open PySem PySem.Spec PyProof.Rows L2
/-! ## == of nested plain things with themselves -/
def Nc (n : Nat) (t : T) : Prop := ∃ d : PyData, toD t = some d ∧ d.canLay0 = true ∧ d.depth ≤ n ∧ PyData.eqv d d = true
def Ncs (n : Nat) (l : List T) : Prop := ∃ ds : List PyData, toDs l = some ds ∧ PyData.canLayAll0 ds = true ∧ PyData.depthAll ds ≤ n ∧ PyData.eqvAll ds ds = true
theorem Nc.int {n : Nat} (i : Int) : Nc n (.v (.int i)) := ⟨.int i, by simp [toD], by simp [PyData.canLay0], by simp [PyData.depth], by simp [PyData.eqv]⟩
theorem Ncs.nil {n : Nat} : Ncs n [] := ⟨[], by simp [toDs], by simp [PyData.canLayAll0], by simp [PyData.depthAll], by simp [PyData.eqvAll]⟩
theorem Ncs.cons {n : Nat} {t : T} {l : List T} (h : Nc n t) (k : Ncs n l) : Ncs n (t :: l) := by
  obtain ⟨d, h1, h2, h3, h4⟩ := h
  obtain ⟨ds, k1, k2, k3, k4⟩ := k
  refine ⟨d :: ds, by simp [toDs, h1, k1], by simp [PyData.canLayAll0, h2, k2], by simp only [PyData.depthAll]; omega, by rw [PyData.eqvAll, h4, k4]; all_goals rfl⟩
theorem Ncs.of {n : Nat} : ∀ {l : List T}, (∀ t ∈ l, Nc n t) → Ncs n l
  | [], _ => .nil
  | t :: l, h => .cons (h t (by simp)) (Ncs.of fun u hu => h u (by simp [hu]))
theorem Nc.tup {n : Nat} {l : List T} (h : Ncs n l) : Nc (n + 1) (.tup l) := by
  obtain ⟨ds, k1, k2, k3, k4⟩ := h
  exact ⟨.tuple ds, by simp [toD, k1], by simpa [PyData.canLay0] using k2, by simp only [PyData.depth]; omega, by rw [PyData.eqv]; exact k4⟩
theorem Nc.lst {n : Nat} {l : List T} (h : Ncs n l) : Nc (n + 1) (.lst l) := by
  obtain ⟨ds, k1, k2, k3, k4⟩ := h
  exact ⟨.list ds, by simp [toD, k1], by simpa [PyData.canLay0] using k2, by simp only [PyData.depth]; omega, by rw [PyData.eqv]; exact k4⟩
theorem eqT_same {n : Nat} {t u : T} (h : Nc n t) (hn : n ≤ 64) (e : toD u = toD t) : eqT t u = some true := by
  obtain ⟨d, h1, h2, h3, h4⟩ := h
  have s : SeqAt.shaped d = true := by
    unfold SeqAt.shaped
    rw [h2]
    simp
    omega
  unfold eqT
  rw [e, h1]
  simp [s, h4]
theorem fEq_same {n : Nat} {t u : T} (h : Nc n t) (hn : n ≤ 64) (e : toD u = toD t) : fEq t u = some (.v (.bl true)) := by
  rw [fEq_eq]
  unfold sEq
  rw [eqT_same h hn e]
  all_goals rfl
theorem fNe_same {n : Nat} {t u : T} (h : Nc n t) (hn : n ≤ 64) (e : toD u = toD t) : fNe t u = some (.v (.bl false)) := by
  rw [fNe_eq]
  unfold sNe
  rw [eqT_same h hn e]
  all_goals rfl
theorem Nc.q (r : Rat) : Nc 1 (qT r) := .tup (.cons (.int _) (.cons (.int _) .nil))
theorem Ncs.R (l : List Rat) : Ncs 1 (MV.R l) := Ncs.of fun t ht => by
  unfold MV.R at ht
  obtain ⟨r, _, rfl⟩ := List.mem_map.mp ht
  exact Nc.q r
theorem Nc.row (l : List Rat) : Nc 2 (.tup (MV.R l)) := .tup (.R l)
/-! ## Tables -/
/-- the rows of a table -/
def RR (rows : List (List Rat)) : List T := rows.map fun r => .tup (R r)
@[simp] theorem RR_len (rows : List (List Rat)) : (RR rows).length = rows.length := by simp [RR]
theorem fzs_RR : ∀ rows : List (List Rat), fzs (RR rows) = RR rows
  | [] => by simp [RR, fzs]
  | r :: l => by
    have := fzs_RR l
    simp only [RR, List.map_cons, fzs, fz] at this ⊢
    rw [this]
theorem Nc.rows (rows : List (List Rat)) : Nc 3 (.tup (RR rows)) := .tup (Ncs.of fun t ht => by
  unfold RR at ht
  obtain ⟨r, _, rfl⟩ := List.mem_map.mp ht
  exact Nc.row r)
def gW (rows : List (List Rat)) (k : Nat) : List Rat := rows.getD k []
theorem gW_of {rows : List (List Rat)} {k : Nat} (h : k < rows.length) : gW rows k = rows[k] := by simp [gW, List.getD, h]
theorem RR_g {rows : List (List Rat)} {k : Nat} (h : k < rows.length) : (RR rows)[k]? = some (.tup (R (gW rows k))) := by rw [gW_of h]; simp [RR, h]
def tabL (rows : List (List Rat)) : List T := [.tup (RR rows), .v (.int ((rows.length : Nat) : Int)), .v (.int (((gW rows 0).length : Nat) : Int))]
abbrev tabN : List Str := ["rows", "high", "wide"]
/-- a table -/
abbrev tabT (rows : List (List Rat)) : T := .ins "Table" tabN (tabL rows)
/-- frozen lists of rows -/
def Rws (ts : List T) (rows : List (List Rat)) : Prop := ts.length = rows.length ∧ ∀ k (h : k < ts.length), ts[k] = .tup (R (gW rows k)) ∨ ts[k] = .lst (R (gW rows k))
theorem Rws.RR (rows : List (List Rat)) : Rws (MV.RR rows) rows := ⟨by simp, fun k h => by
  have h' : k < rows.length := by simpa using h
  have := RR_g h'
  rw [List.getElem?_eq_getElem h] at this
  exact .inl (Option.some.inj this)⟩
theorem ix_gen {σ : List T} {t w : T} {ts : List T} {i : Nat} {g : List T → Res T} {k : Int} (h : σ[i]? = some t) (ht : t = .tup ts ∨ t = .lst ts) (hg : g σ = .ok (.v (.int k)) σ) (hw : atI ts k = some w) : fIxN i g σ = .ok w σ := by
  have hl : live σ i = true := by
    unfold live
    rw [h]
    rcases ht with rfl | rfl <;> rfl
  rw [z_fIxN]
  unfold mIxN
  rw [hl, hg]
  rcases ht with rfl | rfl
  · simp [h, ixT, sIx, hw, get_set h]
  · simp [h, ixT, sIx, hw, get_set h]
theorem atI_zero {α : Type} (l : List α) : atI l 0 = l[0]? := atI_k l 0
theorem atI_last {α : Type} (l : List α) (h : 0 < l.length) : atI l (-1) = l[l.length - 1]? := by
  unfold atI ixN
  have e1 : ¬ ((0 : Int) ≤ -1) := by decide
  rw [if_neg e1]
  have e2 : -(l.length : Int) ≤ -1 := by omega
  have e3 : ((-1) + (l.length : Int)).toNat = l.length - 1 := by omega
  rw [if_pos e2, e3]
  all_goals rfl
/-- a comprehension by a relation -/
theorem lcL_rel {w : T → List T → Option (List T)} {te : List T → Res T} {vs : List Nat} : ∀ (items us : List T) (P : Nat → List T → Prop) (σ : List T), us.length = items.length → P 0 σ →
    (∀ k σ (h : k < items.length) (h' : k < us.length), P k σ → ∃ σ1 σ2, w items[k] (wipeT σ vs) = some σ1 ∧ te σ1 = .ok us[k] σ2 ∧ P (k + 1) σ2) → ∃ σ', lcL w mYes te vs items σ = some (us, σ') ∧ P items.length σ'
  | [], [], P, σ, _, h0, h => ⟨σ, rfl, h0⟩
  | [], u :: us, P, σ, hl, h0, h => by simp at hl
  | t :: r, [], P, σ, hl, h0, h => by simp at hl
  | t :: r, u :: us, P, σ, hl, h0, h => by
    obtain ⟨σ1, σ2, h1, h2, h3⟩ := h 0 σ (by simp) (by simp) h0
    obtain ⟨σ', e, p⟩ := lcL_rel r us (fun k => P (k + 1)) σ2 (by simpa using hl) h3 fun k σ hk hk' hp => by
      have := h (k + 1) σ (by simpa using hk) (by simpa using hk') hp
      simpa using this
    refine ⟨σ', ?_, by simpa using p⟩
    simp only [lcL, List.getElem_cons_zero] at h1 h2 ⊢
    rw [h1]
    simp only [mYes, h2, e]
/-- .. as an expression -/
theorem lc_ok {it : List T → Res (List T)} {w : T → List T → Option (List T)} {te : List T → Res T} {vs : List Nat} {σ σ1 σ2 items us : List T} (h : it σ = .ok items σ1) (hs : items.length ≤ 1000000) (e : lcL w mYes te vs items σ1 = some (us, σ2)) : mLc it w mYes te vs σ = .ok (.own us) (backT σ1 σ2 vs) := by
  unfold mLc
  rw [h, z_bind_ok, e]
  have : szB items.length = true := szB_of hs
  simp [this]
theorem itA_lst {f : List T → Res T} {σ σ1 ts : List T} (h : f σ = .ok (.lst ts) σ1) : mItA f σ = .ok (fzs ts) σ1 := by
  rw [z_itA, h]
  simp [seqL]
theorem itA_tup {f : List T → Res T} {σ σ1 ts : List T} (h : f σ = .ok (.tup ts) σ1) : mItA f σ = .ok ts σ1 := by
  rw [z_itA, h]
  simp
theorem fzs_Rws {ts : List T} {rows : List (List Rat)} (h : Rws ts rows) : fzs ts = ts := by
  rw [fzs_map]
  apply List.ext_getElem (by simp)
  intro i h1 h2
  rw [List.getElem_map]
  rcases h.2 i h2 with q | q <;> rw [q] <;> simp
theorem fn_rt_ex {N : Nat} {b : List T → SRes} {ts : List T} {t : T} (h : ∃ σ, b (ts ++ List.replicate (N - ts.length) .hole) = .rt t σ) : mFn N false b ts = .ok t .hole := by
  obtain ⟨σ, h⟩ := h
  exact fn_rt h
end MV
namespace G
open PySem PySem.Spec PyProof.Rows L2 MV
/-- the size of a table -/
structure Sz (h w : Nat) (rows : List (List Rat)) : Prop where
  len : rows.length = h
  wid : ∀ k, k < h → (gW rows k).length = w
  h1 : 1 ≤ h
  h2 : h ≤ 12
  w1 : 1 ≤ w
  w2 : w ≤ 12
noncomputable def crB : List T → SRes := (mSeq (mAsg (fIxN 0 (fVar 2)) (fN 1))
  (mIf (mOr (mNot (mTru (mIsiL [.lst, .tup] (fVar 1)))) (mOr (mBl (mOp2 fEq (mLenN 1) (mC (.v (.int 0))))) (mBl (mOp2 fNe (mLenN 1) (mCallB sLen (mCons (fIxN 0 (mC (.v (.int 0)))) mNil))))))
  (mRaise "BadTable" ["row"] (mCons (fVar 2) mNil))
  .nx))
theorem eq0_len {n : Nat} (h : 1 ≤ n) : fEq (.v (.int ((n : Nat) : Int))) (.v (.int 0)) = some (.v (.bl false)) := by
  unfold fEq
  simp
  omega
theorem crB_ok {ts : List T} {rows : List (List Rat)} {h w k : Nat} {u : T} (z : Sz h w rows) (r : Rws ts rows) (hk : k < h) : ∃ v, crB [.lst ts, u, .v (.int ((k : Nat) : Int))] = .nx [.lst ts, v, .v (.int ((k : Nat) : Int))] := by
  have hkt : k < ts.length := by rw [r.1, z.len]; exact hk
  have h0t : 0 < ts.length := by omega
  have rk := r.2 k hkt
  have r0 := r.2 0 h0t
  have i1 := ix_gen (σ := [.lst ts, u, .v (.int ((k : Nat) : Int))]) (i := 0) (g := fVar 2) (w := ts[k]) rfl (.inr rfl) (var_ok rfl) (by rw [atI_k]; simp [hkt])
  have i0 := ix_gen (σ := [.lst ts, ts[k], .v (.int ((k : Nat) : Int))]) (i := 0) (g := mC (.v (.int 0))) (k := 0) (w := ts[0]) rfl (.inr rfl) (by simp) (by rw [atI_zero]; simp [h0t])
  have hh : ts[k].isHole = false := by rcases rk with q | q <;> rw [q] <;> rfl
  have fk : fz ts[k] = ts[k] := by rcases rk with q | q <;> rw [q] <;> simp
  have lk : lenT ts[k] = some w := by
    rcases rk with q | q <;> rw [q] <;> simp [lenT, seqA, seqL, z.wid k hk]
  have l0 : lenT ts[0] = some w := by
    rcases r0 with q | q <;> rw [q] <;> simp [lenT, seqA, seqL, z.wid 0 (by have := z.h1; omega)]
  have ty : ∃ b, tyT ts[k] = some b ∧ isaL b [.lst, .tup] = true := by
    rcases rk with q | q <;> rw [q]
    · exact ⟨.tup, rfl, rfl⟩
    · exact ⟨.lst, rfl, rfl⟩
  obtain ⟨bt, ty1, ty2⟩ := ty
  refine ⟨ts[k], ?_⟩
  unfold crB
  have s1 : mAsg (fIxN 0 (fVar 2)) (fN 1) [.lst ts, u, .v (.int ((k : Nat) : Int))] = .nx [.lst ts, ts[k], .v (.int ((k : Nat) : Int))] := by
    rw [z_asg, i1]
    simp
  have c1 : mCallB sLen (mCons (fIxN 0 (mC (.v (.int 0)))) mNil) [.lst ts, ts[k], .v (.int ((k : Nat) : Int))] = .ok (.v (.int ((w : Nat) : Int))) [.lst ts, ts[k], .v (.int ((k : Nat) : Int))] := by
    rw [z_callB, cons_ok i0 z_nil]
    simp [sLen, l0]
  have lk' := len_ok (σ := [.lst ts, ts[k], .v (.int ((k : Nat) : Int))]) (i := 1) rfl hh lk
  rw [z_seq, s1, z_seq_nx, z_if, z_or, z_not, z_tru, z_isiL, var_ok (t := ts[k]) rfl hh fk]
  simp only [z_bind_ok, ty1, ty2, z_trB, Bool.not_true, Bool.false_eq_true, if_false]
  rw [z_or, z_bl, z_op2, lk']
  simp only [z_bind_ok, z_c, eq0_len z.w1, Bool.false_eq_true, if_false]
  rw [z_bl, z_op2, lk']
  simp only [z_bind_ok]
  rw [c1]
  simp [ne_len]
theorem gt12 {n : Nat} (h : n ≤ 12) : sGt (.v (.int ((n : Nat) : Int))) (.v (.int 12)) = some (.v (.bl false)) := by
  have : ¬ ((12 : Int) < (n : Int)) := by omega
  simp [sGt, iOp, this]
theorem x_checked_rows {ts : List T} {rows : List (List Rat)} {h w : Nat} (z : Sz h w rows) (r : Rws ts rows) : m_checked_rows [.lst ts] = .ok (.tup (RR rows)) .hole := by
  have hlen : ts.length = h := by rw [r.1, z.len]
  have h0t : 0 < ts.length := by have := z.h1; omega
  have r0 := r.2 0 h0t
  have l0 : lenT ts[0] = some w := by
    rcases r0 with q | q <;> rw [q] <;> simp [lenT, seqA, seqL, z.wid 0 (by have := z.h1; omega)]
  have ll : ∀ σ, σ[0]? = some (.lst ts) → mLenN 0 σ = .ok (.v (.int ((h : Nat) : Int))) σ := fun σ e => len_ok e rfl (by simp [lenT, seqA, seqL, hlen])
  have i0 : ∀ u v, mCallB sLen (mCons (fIxN 0 (mC (.v (.int 0)))) mNil) [.lst ts, u, v] = .ok (.v (.int ((w : Nat) : Int))) [.lst ts, u, v] := fun u v => by
    rw [z_callB, cons_ok (ix_gen (σ := [.lst ts, u, v]) (i := 0) (g := mC (.v (.int 0))) (k := 0) (w := ts[0]) rfl (.inr rfl) (by simp) (by rw [atI_zero]; simp [h0t])) z_nil]
    simp [sLen, l0]
  obtain ⟨σ', e, u, v, hs⟩ := forL_rel (w := fN 2) (body := crB) (intsFrom 0 h) (fun k σ => ∃ u v, σ = [.lst ts, u, v]) [.lst ts, .hole, .hole] ⟨_, _, rfl⟩ fun k σ hk hp => by
    obtain ⟨u, v, rfl⟩ := hp
    rw [intsFrom_len] at hk
    obtain ⟨x, hx⟩ := crB_ok (u := u) z r hk
    exact ⟨[.lst ts, u, .v (.int ((k : Nat) : Int))], _, by rw [intsFrom_get]; simp, hx, _, _, rfl⟩
  subst hs
  have z1 := z.h1; have z2 := z.h2; have z3 := z.w1; have z4 := z.w2
  have hfz := fzs_Rws r
  obtain ⟨σ2, e2, u2, v2, hs2⟩ := lcL_rel (w := fN 1) (te := mCall m_check_row (mCons (fVar 1) mNil)) (vs := [1]) ts (RR rows) (fun k σ => ∃ u v, σ = [.lst ts, u, v]) [.lst ts, u, v] (by simp [r.1]) ⟨_, _, rfl⟩ fun k σ hk hk' hp => by
    obtain ⟨u, v, rfl⟩ := hp
    have rk := r.2 k hk
    have hkr : k < rows.length := by simpa using hk'
    have q : IsR ts[k] (gW rows k) := by
      rcases rk with q | q <;> rw [q]
      · exact .tup _
      · exact .lst _
    have hh : ts[k].isHole = false := q.h
    have fk : fz ts[k] = ts[k] := by rcases rk with q | q <;> rw [q] <;> simp
    have ek : (RR rows)[k] = .tup (R (gW rows k)) := by
      have := RR_g hkr
      rw [List.getElem?_eq_getElem hk'] at this
      exact Option.some.inj this
    refine ⟨[.lst ts, ts[k], v], [.lst ts, ts[k], v], by simp [wipeT], ?_, _, _, rfl⟩
    rw [ek]
    exact call_ok (cons_ok (var_ok (t := ts[k]) rfl hh fk) z_nil) (x_check_row q (by rw [z.wid k (by rw [← z.len]; exact hkr)]; omega))
  subst hs2
  have lc := lc_ok (it := mItA (fVar 0)) (w := fN 1) (te := mCall m_check_row (mCons (fVar 1) mNil)) (vs := [1]) (σ := [.lst ts, u, v]) (σ1 := [.lst ts, u, v]) (items := ts) (us := RR rows) (by rw [itA_lst (ts := ts) (σ1 := [.lst ts, u, v]) (var_ok (t := .lst ts) rfl rfl (by simp)), hfz]) (by omega) e2
  have e0 : b_checked_rows = mSeq (mIf (mOr (mNot (mTru (mIsiL [.lst, .tup] (fVar 0)))) (mBl (mOp2 fEq (mLenN 0) (mC (.v (.int 0)))))) (mRaise "BadTable" ["row"] (mCons (mNeg (mC (.v (.int 1)))) mNil)) .nx) (mSeq (mFor (mRg1 (mLenN 0)) (fN 2) crB) (mSeq (mIf (mOr (mBl (mOp2 sGt (mLenN 0) (mC (.v (.int 12))))) (mBl (mOp2 sGt (mCallB sLen (mCons (fIxN 0 (mC (.v (.int 0)))) mNil)) (mC (.v (.int 12)))))) (mRaise "TooMany" ["bound"] (mCons (mC (.v (.int 12))) mNil)) .nx) (mRet (mCallB sTuple (mCons (mLc (mItA (fVar 0)) (fN 1) mYes (mCall m_check_row (mCons (fVar 1) mNil)) [1]) mNil))))) := rfl
  refine fn_rt_ex ⟨backT [.lst ts, u, v] [.lst ts, u2, v2] [1], ?_⟩
  rw [e0]
  have s1 : mIf (mOr (mNot (mTru (mIsiL [.lst, .tup] (fVar 0)))) (mBl (mOp2 fEq (mLenN 0) (mC (.v (.int 0)))))) (mRaise "BadTable" ["row"] (mCons (mNeg (mC (.v (.int 1)))) mNil)) .nx ([.lst ts] ++ List.replicate (3 - [T.lst ts].length) T.hole) = .nx [.lst ts, .hole, .hole] := by
    have l3 := ll [.lst ts, .hole, .hole] rfl
    show mIf _ _ _ [.lst ts, .hole, .hole] = _
    rw [z_if, z_or, z_not, z_tru, z_isiL, var_ok (t := .lst ts) rfl rfl (by simp)]
    simp only [z_bind_ok, tyT, isaL, BT.isa, z_trB]
    simp [l3, eq0_len z1]
  have s2 : mIf (mOr (mBl (mOp2 sGt (mLenN 0) (mC (.v (.int 12))))) (mBl (mOp2 sGt (mCallB sLen (mCons (fIxN 0 (mC (.v (.int 0)))) mNil)) (mC (.v (.int 12)))))) (mRaise "TooMany" ["bound"] (mCons (mC (.v (.int 12))) mNil)) .nx [.lst ts, u, v] = .nx [.lst ts, u, v] := by
    rw [z_if, z_or, z_bl, z_op2, ll _ rfl]
    simp only [z_bind_ok, z_c, gt12 z2, Bool.false_eq_true, if_false]
    rw [z_bl, z_op2, i0]
    simp only [z_bind_ok, z_c, gt12 z4, z_sbind_ok, Bool.false_eq_true, if_false]
  rw [z_seq, s1, z_seq_nx, z_seq, z_for, rg1_ok (ll _ rfl) (by omega), z_sbind_ok, e, z_seq_nx, z_seq, s2, z_seq_nx, z_ret, z_callB, cons_ok lc z_nil]
  simp [sTuple, seqL, fzs_RR]
end G

namespace MV
open PySem PySem.Spec PyProof.Rows L2
/-! ## Levels, core, making -/
def lastW (rows : List (List Rat)) : List Rat := gW rows (rows.length - 1)
def abv (rows : List (List Rat)) : List (List Rat) := (List.range (rows.length - 1)).map fun k => unR (gW rows k) (lastW rows)
@[simp] theorem abv_len (rows : List (List Rat)) : (abv rows).length = rows.length - 1 := by simp [abv]
theorem abv_at {rows : List (List Rat)} {k : Nat} (h : k < rows.length - 1) : gW (abv rows) k = unR (gW rows k) (lastW rows) := by simp [abv, gW, List.getD, h]
def lvl (rows : List (List Rat)) : Nat → List (List Rat)
  | 0 => rows
  | n + 1 => abv (lvl rows n)
theorem lvl_len (rows : List (List Rat)) : ∀ n, (lvl rows n).length = rows.length - n
  | 0 => rfl
  | n + 1 => by simp only [lvl, abv_len, lvl_len rows n]; omega
def coreR (rows : List (List Rat)) : List (List Rat) := (List.range rows.length).map fun k => gW (lvl rows (rows.length - 1 - k)) k
@[simp] theorem coreR_len (rows : List (List Rat)) : (coreR rows).length = rows.length := by simp [coreR]
theorem coreR_at {rows : List (List Rat)} {k : Nat} (h : k < rows.length) : gW (coreR rows) k = gW (lvl rows (rows.length - 1 - k)) k := by simp [coreR, gW, List.getD, h]
def mkR (acc : List (List Rat)) (line : List Rat) : List (List Rat) := acc.map (fun r => maR r line) ++ [line]
def mdT (rows : List (List Rat)) : Nat → List (List Rat)
  | 0 => []
  | n + 1 => mkR (mdT rows n) (gW rows n)
theorem mdT_len (rows : List (List Rat)) : ∀ n, (mdT rows n).length = n
  | 0 => rfl
  | n + 1 => by simp [mdT, mkR, mdT_len rows n]
theorem mkR_at {acc : List (List Rat)} {line : List Rat} {k : Nat} (h : k < acc.length) : gW (mkR acc line) k = maR (gW acc k) line := by
  unfold mkR gW
  simp only [List.getD]
  rw [List.getElem?_append_left (by simpa using h)]
  simp [h]
theorem mkR_last {acc : List (List Rat)} {line : List Rat} : gW (mkR acc line) acc.length = line := by simp [mkR, gW, List.getD]
theorem rows_ext {x y : List (List Rat)} (hl : x.length = y.length) (h : ∀ c, c < x.length → gW x c = gW y c) : x = y := by
  apply List.ext_getElem hl
  intro i h1 h2
  have := h i h1
  rwa [gW_of h1, gW_of h2] at this
/-- all rows are of one width -/
def Wd (w : Nat) (rows : List (List Rat)) : Prop := ∀ k, k < rows.length → (gW rows k).length = w
theorem Wd.abv {w : Nat} {rows : List (List Rat)} (h : Wd w rows) : Wd w (abv rows) := fun k hk => by
  rw [abv_len] at hk
  rw [abv_at hk, unR_len]
  exact h k (by omega)
theorem Wd.lvl {w : Nat} {rows : List (List Rat)} (h : Wd w rows) : ∀ n, Wd w (MV.lvl rows n)
  | 0 => h
  | n + 1 => (Wd.lvl h n).abv
theorem Wd.mkR {w : Nat} {acc : List (List Rat)} {line : List Rat} (h : Wd w acc) (hl : line.length = w) : Wd w (mkR acc line) := fun k hk => by
  have hk' : k < acc.length + 1 := by simpa [MV.mkR] using hk
  by_cases z : k < acc.length
  · rw [mkR_at z, maR_len]
    exact h k z
  · have : k = acc.length := by omega
    subst this
    rw [mkR_last]
    exact hl
theorem Wd.mdT {w : Nat} {rows : List (List Rat)} (h : Wd w rows) : ∀ n, n ≤ rows.length → Wd w (MV.mdT rows n)
  | 0, _ => fun k hk => by simp [MV.mdT] at hk
  | n + 1, hn => (Wd.mdT h n (by omega)).mkR (h n (by omega))
/-- making undoes a round -/
theorem mk_abv {w : Nat} {L : List (List Rat)} (h : Wd w L) (h0 : 0 < L.length) : mkR (abv L) (lastW L) = L := by
  have hl : (mkR (abv L) (lastW L)).length = L.length := by simp [mkR]; omega
  apply rows_ext hl
  intro k hk
  rw [hl] at hk
  by_cases z : k < L.length - 1
  · rw [mkR_at (by rw [abv_len]; exact z), abv_at z]
    exact ma_un (by rw [h k hk]; unfold lastW; rw [h _ (by omega)])
  · have : k = L.length - 1 := by omega
    have := mkR_last (acc := abv L) (line := lastW L)
    rw [abv_len] at this
    rw [show k = L.length - 1 by omega, this]
    all_goals rfl
theorem abv_mk {w : Nat} {acc : List (List Rat)} {line : List Rat} (h : Wd w acc) (hl : line.length = w) : abv (mkR acc line) = acc := by
  have e : (mkR acc line).length = acc.length + 1 := by simp [mkR]
  have hl2 : (abv (mkR acc line)).length = acc.length := by rw [abv_len, e]; all_goals rfl
  have el : lastW (mkR acc line) = line := by
    unfold lastW
    rw [e]
    exact mkR_last
  apply rows_ext hl2
  intro k hk
  rw [hl2] at hk
  rw [abv_at (by rw [e]; omega), mkR_at hk, el]
  exact un_ma (by rw [h k hk, hl])
theorem md_core {w : Nat} {rows : List (List Rat)} (h : Wd w rows) : ∀ n, n ≤ rows.length → mdT (coreR rows) n = lvl rows (rows.length - n)
  | 0, _ => by
    have := lvl_len rows (rows.length - 0)
    rw [Nat.sub_zero] at this ⊢
    simp only [mdT]
    exact (List.eq_nil_of_length_eq_zero (by omega)).symm
  | n + 1, hn => by
    have ih := md_core h n (by omega)
    simp only [mdT]
    rw [ih, coreR_at (by omega)]
    have e1 : rows.length - n = (rows.length - 1 - n) + 1 := by omega
    have e2 : rows.length - (n + 1) = rows.length - 1 - n := by omega
    rw [e1, e2]
    simp only [lvl]
    have ll : (lvl rows (rows.length - 1 - n)).length = n + 1 := by rw [lvl_len]; omega
    have el : lastW (lvl rows (rows.length - 1 - n)) = gW (lvl rows (rows.length - 1 - n)) n := by
      unfold lastW
      rw [ll]
      all_goals rfl
    rw [← el]
    exact mk_abv (h.lvl _) (by omega)
theorem made_core {w : Nat} {rows : List (List Rat)} (h : Wd w rows) : mdT (coreR rows) rows.length = rows := by
  rw [md_core h _ (Nat.le_refl _), Nat.sub_self]
  all_goals rfl
theorem lvl_md {w : Nat} {rows : List (List Rat)} (h : Wd w rows) : ∀ j, j ≤ rows.length → lvl (mdT rows rows.length) j = mdT rows (rows.length - j)
  | 0, _ => by rw [Nat.sub_zero]; all_goals rfl
  | j + 1, hj => by
    simp only [lvl]
    rw [lvl_md h j (by omega)]
    have e : rows.length - j = (rows.length - (j + 1)) + 1 := by omega
    rw [e]
    simp only [mdT]
    exact abv_mk (h.mdT _ (by omega)) (h _ (by omega))
theorem core_made {w : Nat} {rows : List (List Rat)} (h : Wd w rows) : coreR (mdT rows rows.length) = rows := by
  apply rows_ext (by rw [coreR_len, mdT_len])
  intro k hk
  rw [coreR_len, mdT_len] at hk
  rw [coreR_at (by rw [mdT_len]; exact hk), mdT_len, lvl_md h _ (by omega)]
  have e : rows.length - (rows.length - 1 - k) = k + 1 := by omega
  rw [e]
  simp only [mdT]
  have := mkR_last (acc := mdT rows k) (line := gW rows k)
  rwa [mdT_len] at this
/-! ## Loops -/
theorem whL_run {tb : List T → Res Bool} {body : List T → SRes} (P : Nat → List T → Prop) (Q : List T → Prop) : ∀ (N fuel : Nat) (σ : List T), N < fuel → P 0 σ →
    (∀ k σ, k < N → P k σ → ∃ σ1 σ2, tb σ = .ok true σ1 ∧ body σ1 = .nx σ2 ∧ P (k + 1) σ2) → (∀ σ, P N σ → ∃ σ1, tb σ = .ok false σ1 ∧ Q σ1) → ∃ σ', whL tb body fuel σ = .nx σ' ∧ Q σ'
  | 0, fuel + 1, σ, _, h0, _, he => by
    obtain ⟨σ1, e, q⟩ := he σ h0
    refine ⟨σ1, ?_, q⟩
    simp only [whL, e, z_sbind_ok]
    all_goals rfl
  | N + 1, fuel + 1, σ, hf, h0, h, he => by
    obtain ⟨σ1, σ2, e1, e2, p⟩ := h 0 σ (by omega) h0
    obtain ⟨σ', e, q⟩ := whL_run (fun k => P (k + 1)) Q N fuel σ2 (by omega) p (fun k σ hk hp => h (k + 1) σ (by omega) hp) he
    refine ⟨σ', ?_, q⟩
    simp only [whL, e1, z_sbind_ok, if_true, e2]
    exact e
  | _, 0, _, hf, _, _, _ => by omega
theorem app_T {i : Nat} {f : List T → Res T} {σ σ1 : List T} {l0 l : List T} {t : T} (h : σ[i]? = some (.own l0)) (hf : f σ = .ok t σ1) (h1 : σ1[i]? = some (.own l)) (hl : l.length ≤ 1000000) : mAppN i f σ = .ok (.v .non) (σ1.set i (.own (l ++ [t]))) := by
  unfold mAppN
  rw [h]
  simp [hf, h1, szB, hl]
theorem RR_app (a b : List (List Rat)) : RR (a ++ b) = RR a ++ RR b := by simp [RR]
theorem RR_rev (a : List (List Rat)) : (RR a).reverse = RR a.reverse := by simp [RR]
/-- a table that is still its maker's -/
abbrev tabO (rows : List (List Rat)) : T := .oin "Table" tabN (tabL rows)
theorem fz_tabO (rows : List (List Rat)) : fz (tabO rows) = tabT rows := by simp [tabL]
end MV
namespace G
open PySem PySem.Spec PyProof.Rows L2 MV
theorem x_init {t : T} {ts : List T} {rows : List (List Rat)} {h w : Nat} (z : Sz h w rows) (ht : t.isHole = false) (hf : fz t = .lst ts) (r : Rws ts rows) : m_Table___init__ [.oin "Table" [] [], t] = .ok (.v .non) (tabO rows) := by
  have c := x_checked_rows z r
  have z1 := z.h1; have z2 := z.h2; have z3 := z.w1; have z4 := z.w2
  have e0 : (RR rows)[0]? = some (.tup (R (gW rows 0))) := RR_g (by rw [z.len]; omega)
  have s1 : mSetF "Table" "rows" 0 (mCall m_checked_rows (mCons (fVar 1) mNil)) [.oin "Table" [] [], t] = .nx [.oin "Table" ["rows"] [.tup (RR rows)], .lst ts] := by
    unfold mSetF
    rw [call_ok (σ1 := [.oin "Table" [] [], .lst ts]) (cons_ok (t := .lst ts) (σ1 := [.oin "Table" [] [], .lst ts]) (by simp [ht, hf]) z_nil) c]
    simp
  have s2 : mSetF "Table" "high" 0 (mCallB sLen (mCons (mFldN "Table" "rows" 0) mNil)) [.oin "Table" ["rows"] [.tup (RR rows)], .lst ts] = .nx [.oin "Table" ["rows", "high"] [.tup (RR rows), .v (.int ((rows.length : Nat) : Int))], .lst ts] := by
    unfold mSetF
    have d : ("high" : Str) ∉ (["rows"] : List Str) := by decide
    simp [objT, fldT, T.flat, sLen, lenT, seqA, d]
  have s3 : mSetF "Table" "wide" 0 (mCallB sLen (mCons (mOp2 fIx (mFldN "Table" "rows" 0) (mC (.v (.int 0)))) mNil)) [.oin "Table" ["rows", "high"] [.tup (RR rows), .v (.int ((rows.length : Nat) : Int))], .lst ts] = .nx [tabO rows, .lst ts] := by
    unfold mSetF
    have d1 : ¬ (Str.ofString "wide" = Str.ofString "rows") := by decide
    have d2 : ¬ (Str.ofString "wide" = Str.ofString "high") := by decide
    simp [objT, fldT, T.flat, sLen, lenT, seqA, sIx, atI_zero, e0, tabL, d1, d2]
  have e1 : b_Table___init__ [.oin "Table" [] [], t] = .nx [tabO rows, .lst ts] := by
    unfold b_Table___init__
    rw [z_seq, s1, z_seq_nx, z_seq, s2, z_seq_nx, s3]
  unfold m_Table___init__ mFn
  have e2 : ([.oin "Table" [] [], t] ++ List.replicate (2 - [T.oin "Table" [] [], t].length) T.hole) = [.oin "Table" [] [], t] := by simp
  rw [e2, e1]
  all_goals rfl
theorem x_make {ga : List T → Res (List T)} {σ σ1 : List T} {t : T} {ts : List T} {rows : List (List Rat)} {h w : Nat} (z : Sz h w rows) (ht : t.isHole = false) (hf : fz t = .lst ts) (r : Rws ts rows) (hg : ga σ = .ok [t] σ1) : mMake "Table" m_Table___init__ ga σ = .ok (tabO rows) σ1 := by
  rw [z_make, hg, z_bind_ok, x_init z ht hf r]
end G

namespace MV
open PySem PySem.Spec PyProof.Rows L2
def CapU (x b : List Rat) : Prop := ∃ nx dx nb db, Rb nx dx x ∧ Rb nb db b ∧ nx + dx + nb + db < 300000 ∧ 2 * dx + nb + db < 9000
def CapM (x b : List Rat) : Prop := ∃ nx dx nb db, Rb nx dx x ∧ Rb nb db b ∧ (x.length + 1) * (nx + db + dx + nb + 1) < 300000 ∧ x.length * (dx + nb) + db < 9000
def CapL (x b : List Rat) : Prop := ∃ nx dx nb db, Rb nx dx x ∧ Rb nb db b ∧ (x.length + 1) * (2 * nb + 2 * db + nx + dx + 1) < 300000 ∧ x.length * (nb + db + dx) < 9000
theorem itA_own {f : List T → Res T} {σ σ1 ts : List T} (h : f σ = .ok (.own ts) σ1) : mItA f σ = .ok (fzs ts) σ1 := by
  rw [z_itA, h]
  simp [seqL]
theorem RR_at {rows : List (List Rat)} {k : Nat} (h : k < (RR rows).length) : (RR rows)[k] = .tup (R (gW rows k)) := by
  have := RR_g (rows := rows) (k := k) (by simpa using h)
  rw [List.getElem?_eq_getElem h] at this
  exact Option.some.inj this
theorem cut_last {α : Type} (l : List α) : cutG l none (some (-1)) = l.take (l.length - 1) := by
  unfold cutG HT.sIx
  have e : ((-1 : Int) + (l.length : Int)).toNat = l.length - 1 := by omega
  simp [e]
theorem RR_take (rows : List (List Rat)) (n : Nat) : (RR rows).take n = RR (rows.take n) := by simp [RR, List.map_take]
theorem gW_take {rows : List (List Rat)} {n k : Nat} (h : k < n) (h2 : k < rows.length) : gW (rows.take n) k = gW rows k := by simp [gW, List.getD, List.getElem?_take, h, h2]
theorem nil_eq (σ : List T) : mNil σ = .ok [] σ := z_nil
end MV
namespace G
open PySem PySem.Spec PyProof.Rows L2 MV
theorem x_ur {t u : T} {x b : List Rat} (ht : IsR t x) (hu : IsR u b) (hl : x.length = b.length) (hx : x.length ≤ 900) (c : CapU x b) : m_unmade_row [t, u] = .ok (.tup (R (unR x b))) .hole := by
  obtain ⟨nx, dx, nb, db, X, B, c1, c2⟩ := c
  exact x_unmade_row ht hu X B hl hx c1 c2
theorem x_lur {t u : T} {x b : List Rat} (ht : Rw t x) (hu : Rw u b) (hl : x.length = b.length) (hx : x.length ≤ 900) (c : CapU x b) : m__law_unmade_row [t, u] = .ok (.own (R (unR x b))) .hole := by
  obtain ⟨nx, dx, nb, db, X, B, c1, c2⟩ := c
  exact x_lunmade_row ht hu X B hl hx c1 c2
theorem x_rows_aboveT {t : T} {L : List (List Rat)} {w : Nat} (ht : t = .tup (RR L) ∨ t = .lst (RR L)) (hw : Wd w L) (h0 : 0 < L.length) (h1 : L.length ≤ 1000) (w2 : w ≤ 900) (cap : ∀ k, k + 1 < L.length → CapU (gW L k) (lastW L)) : m_rows_above [t] = .ok (.own (RR (abv L))) .hole := by
  have it : mItA (mSlN none (some (mNeg (mC (.v (.int 1))))) 0) [t, .hole] = .ok (RR (L.take (L.length - 1))) [t, .hole] := by
    rcases ht with rfl | rfl
    · have s : mSlN none (some (mNeg (mC (.v (.int 1))))) 0 [.tup (RR L), .hole] = .ok (.tup (cutG (RR L) none (some (-1)))) [.tup (RR L), .hole] := by
        unfold mSlN
        simp [live, shT]
      rw [itA_tup s, cut_last, RR_len, RR_take]
    · have s : mSlN none (some (mNeg (mC (.v (.int 1))))) 0 [.lst (RR L), .hole] = .ok (.own (cutG (RR L) none (some (-1)))) [.lst (RR L), .hole] := by
        unfold mSlN
        simp [live, shT]
      rw [itA_own s, cut_last, RR_len, RR_take, fzs_RR]
  have e1 : (RR (L.take (L.length - 1))).length = L.length - 1 := by simp
  obtain ⟨σ2, e2, u2, hs2⟩ := lcL_rel (w := fN 1) (te := mCall m_unmade_row (mCons (fVar 1) (mCons (fIxN 0 (mNeg (mC (.v (.int 1))))) mNil))) (vs := [1]) (RR (L.take (L.length - 1))) (RR (abv L)) (fun k σ => ∃ u, σ = [t, u]) [t, .hole] (by simp) ⟨_, rfl⟩ fun k σ hk hk' hp => by
    obtain ⟨u, rfl⟩ := hp
    have hk2 : k < L.length - 1 := by rw [e1] at hk; exact hk
    refine ⟨[t, .tup (R (gW L k))], [t, .tup (R (gW L k))], ?_, ?_, _, rfl⟩
    · rw [RR_at, gW_take hk2 (by omega)]
      simp [wipeT]
    · rw [RR_at, abv_at hk2]
      have il := ix_gen (σ := [t, .tup (R (gW L k))]) (i := 0) (g := mNeg (mC (.v (.int 1)))) (k := -1) (w := .tup (R (lastW L))) rfl ht (by simp) (by rw [atI_last _ (by simpa using h0), RR_len, RR_g (by omega)]; all_goals rfl)
      refine call_ok (cons_ok (var_ok (t := .tup (R (gW L k))) rfl) (cons_ok il z_nil)) (x_ur (.tup _) (.tup _) ?_ ?_ (cap k (by omega)))
      · unfold lastW
        rw [hw k (by omega), hw _ (by omega)]
      · rw [hw k (by omega)]
        exact w2
  have lc := lc_ok it (by rw [e1]; omega) e2
  refine fn_rt_ex ⟨backT [t, .hole] σ2 [1], ?_⟩
  show b_rows_above [t, .hole] = _
  unfold b_rows_above
  rw [z_ret, lc, z_sbind_ok]
theorem x_rows_above {L : List (List Rat)} {w : Nat} (hw : Wd w L) (h0 : 0 < L.length) (h1 : L.length ≤ 1000) (w2 : w ≤ 900) (cap : ∀ k, k + 1 < L.length → CapU (gW L k) (lastW L)) : m_rows_above [.lst (RR L)] = .ok (.own (RR (abv L))) .hole := x_rows_aboveT (.inr rfl) hw h0 h1 w2 cap
/-- the rows found, from the last on -/
def fndR (rows : List (List Rat)) (k : Nat) : List (List Rat) := (List.range k).map fun i => lastW (lvl rows i)
theorem fnd_core (rows : List (List Rat)) : (fndR rows rows.length).reverse = coreR rows := by
  unfold fndR coreR
  apply List.ext_getElem (by simp)
  intro i h1 h2
  simp at h1
  simp
  unfold lastW
  rw [lvl_len]
  congr 1
  omega
theorem gt0 {n : Nat} : sGt (.v (.int ((n : Nat) : Int))) (.v (.int 0)) = some (.v (.bl (decide (0 < n)))) := by
  by_cases h : 0 < n
  · have : (0 : Int) < (n : Int) := by omega
    simp [sGt, iOp, h, this]
  · have : n = 0 := by omega
    subst this
    simp [sGt, iOp]
theorem Sz.wd {h w : Nat} {rows : List (List Rat)} (z : Sz h w rows) : Wd w rows := fun k hk => z.wid k (by rw [← z.len]; exact hk)
theorem Sz.core {h w : Nat} {rows : List (List Rat)} (z : Sz h w rows) : Sz h w (coreR rows) := ⟨by rw [coreR_len, z.len], fun k hk => by
  have := z.len
  rw [coreR_at (by omega)]
  exact z.wd.lvl _ k (by rw [lvl_len]; omega), z.h1, z.h2, z.w1, z.w2⟩
theorem Sz.md {h w : Nat} {rows : List (List Rat)} (z : Sz h w rows) : Sz h w (mdT rows h) := ⟨mdT_len _ _, fun k hk => z.wd.mdT h (by rw [z.len]; exact Nat.le_refl _) k (by rw [mdT_len]; exact hk), z.h1, z.h2, z.w1, z.w2⟩
theorem x_unmadeT {t : T} {rows : List (List Rat)} {h w : Nat} (ht : t = tabT rows ∨ t = tabO rows) (z : Sz h w rows) (cap : ∀ j k, k + 1 < h - j → CapU (gW (lvl rows j) k) (lastW (lvl rows j))) : m_unmade [t] = .ok (tabO (coreR rows)) .hole := by
  have hl := z.len
  have z1 := z.h1; have z2 := z.h2; have z4 := z.w2
  have s1 : mAsg (mCallB sList (mCons (mFldN "Table" "rows" 0) mNil)) (fN 1) [t, .hole, .hole] = .nx [t, .own (RR rows), .hole] := by
    rcases ht with rfl | rfl <;> simp [objT, fldT, tabL, T.flat, sList, seqA, fzs_RR]
  have s2 : mAsg (mLst mNil) (fN 2) [t, .own (RR rows), .hole] = .nx [t, .own (RR rows), .own []] := by simp [szB]
  obtain ⟨σ', e, hs⟩ := whL_run (tb := mBl (mOp2 sGt (mLenN 1) (mC (.v (.int 0))))) (body := mSeq (mEx (mAppN 2 (fIxN 1 (mNeg (mC (.v (.int 1))))))) (mAsg (mCall m_rows_above (mCons (fVar 1) mNil)) (fN 1)))
    (fun k σ => σ = [t, .own (RR (lvl rows k)), .own (RR (fndR rows k))]) (fun σ => σ = [t, .own (RR (lvl rows h)), .own (RR (fndR rows h))]) h 4000 [t, .own (RR rows), .own []] (by omega) rfl (fun k σ hk hp => by
      subst hp
      have ll : (lvl rows k).length = h - k := by rw [lvl_len, hl]
      have l1 := len_ok (σ := [t, .own (RR (lvl rows k)), .own (RR (fndR rows k))]) (i := 1) (n := h - k) rfl rfl (by simp [lenT, seqA, seqL, ll])
      have il : fIxN 1 (mNeg (mC (.v (.int 1)))) [t, .own (RR (lvl rows k)), .own (RR (fndR rows k))] = .ok (.tup (R (lastW (lvl rows k)))) [t, .own (RR (lvl rows k)), .own (RR (fndR rows k))] := by
        rw [z_fIxN]
        unfold mIxN
        have ix : ixN (lvl rows k).length (-1) = some (h - k - 1) := by
          rw [ll]
          unfold ixN
          have e1 : ¬ ((0 : Int) ≤ -1) := by decide
          have e2 : -((h - k : Nat) : Int) ≤ -1 := by omega
          rw [if_neg e1, if_pos e2]
          congr 1
          omega
        have gt : (RR (lvl rows k))[h - k - 1]? = some (.tup (R (lastW (lvl rows k)))) := by
          rw [RR_g (by omega)]
          unfold lastW
          rw [ll]
        have st : (RR (lvl rows k)).set (h - k - 1) (.tup (R (lastW (lvl rows k)))) = RR (lvl rows k) := get_set gt
        simp [live, ixT, ix, gt, st]
      have a1 := app_T (i := 2) (f := fIxN 1 (mNeg (mC (.v (.int 1))))) (l := RR (fndR rows k)) rfl il rfl (by simp [fndR]; omega)
      have ra := x_rows_above (L := lvl rows k) (z.wd.lvl k) (by omega) (by omega) (by omega) (fun j hj => cap k j (by omega))
      refine ⟨_, _, by rw [z_bl, z_op2, l1]; simp only [z_bind_ok, z_c, gt0]; rw [show decide (0 < h - k) = true by simp; omega], ?_, rfl⟩
      rw [z_seq, z_ex, a1, z_sbind_ok, z_seq_nx, z_asg]
      have fr : fndR rows (k + 1) = fndR rows k ++ [lastW (lvl rows k)] := range_map_succ _ _
      have c1 : mCall m_rows_above (mCons (fVar 1) mNil) [t, .own (RR (lvl rows k)), .own (RR (fndR rows (k + 1)))] = .ok (.own (RR (lvl rows (k + 1)))) [t, .lst (RR (lvl rows k)), .own (RR (fndR rows (k + 1)))] :=
        call_ok (cons_ok (t := .lst (RR (lvl rows k))) (σ1 := [t, .lst (RR (lvl rows k)), .own (RR (fndR rows (k + 1)))]) (by simp [fzs_RR]) z_nil) ra
      have e3 : ([t, T.own (RR (lvl rows k)), .own (RR (fndR rows k))].set 2 (.own (RR (fndR rows k) ++ [.tup (R (lastW (lvl rows k)))]))) = [t, .own (RR (lvl rows k)), .own (RR (fndR rows (k + 1)))] := by
        rw [fr, RR_app]
        all_goals rfl
      rw [e3, c1]
      simp) (fun σ hp => by
      subst hp
      have ll : (lvl rows h).length = 0 := by rw [lvl_len, hl]; omega
      have l1 := len_ok (σ := [t, .own (RR (lvl rows h)), .own (RR (fndR rows h))]) (i := 1) (n := 0) rfl rfl (by simp [lenT, seqA, seqL, ll])
      refine ⟨_, by rw [z_bl, z_op2, l1]; simp only [z_bind_ok, z_c, gt0]; all_goals rfl, rfl⟩)
  subst hs
  have fr : (fndR rows h).reverse = coreR rows := by rw [← hl]; exact fnd_core rows
  refine fn_rt_ex ⟨[t, .own (RR (lvl rows h)), .own (RR (fndR rows h))], ?_⟩
  show b_unmade [t, .hole, .hole] = _
  unfold b_unmade
  rw [z_seq, s1, z_seq_nx, z_seq, s2, z_seq_nx, z_seq, e, z_seq_nx, z_ret]
  have rv : mRevN 2 [t, .own (RR (lvl rows h)), .own (RR (fndR rows h))] = .ok (.own (RR (coreR rows))) [t, .own (RR (lvl rows h)), .own (RR (fndR rows h))] := by
    unfold mRevN
    simp [shT, fzs_RR, RR_rev, fr, T.isHole]
  rw [x_make z.core rfl (by simp [fzs_RR]) (Rws.RR (coreR rows)) (cons_ok rv z_nil), z_sbind_ok]
theorem x_unmade {rows : List (List Rat)} {h w : Nat} (z : Sz h w rows) (cap : ∀ j k, k + 1 < h - j → CapU (gW (lvl rows j) k) (lastW (lvl rows j))) : m_unmade [tabT rows] = .ok (tabO (coreR rows)) .hole := x_unmadeT (.inl rfl) z cap
end G

namespace MV
open PySem PySem.Spec PyProof.Rows L2
def OO (rows : List (List Rat)) : List T := rows.map fun r => .own (R r)
@[simp] theorem OO_len (rows : List (List Rat)) : (OO rows).length = rows.length := by simp [OO]
theorem OO_at {rows : List (List Rat)} {k : Nat} (h : k < (OO rows).length) : (OO rows)[k] = .own (R (gW rows k)) := by
  have h' : k < rows.length := by simpa using h
  rw [gW_of h']
  simp [OO]
def LL (rows : List (List Rat)) : List T := rows.map fun r => .lst (R r)
@[simp] theorem LL_len (rows : List (List Rat)) : (LL rows).length = rows.length := by simp [LL]
theorem LL_at {rows : List (List Rat)} {k : Nat} (h : k < (LL rows).length) : (LL rows)[k] = .lst (R (gW rows k)) := by
  have h' : k < rows.length := by simpa using h
  rw [gW_of h']
  simp [LL]
theorem fzs_OO (rows : List (List Rat)) : fzs (OO rows) = LL rows := by
  rw [fzs_map]
  simp [OO, LL, fzs_R]
theorem Rws.LL (rows : List (List Rat)) : Rws (MV.LL rows) rows := ⟨by simp, fun k h => .inr (LL_at h)⟩
theorem Rws.fz {ts : List T} {rows : List (List Rat)} (r : Rws ts rows) {k : Nat} (h : k < ts.length) : ts[k].isHole = false ∧ MV.fz ts[k] = ts[k] := by
  rcases r.2 k h with q | q <;> rw [q] <;> simp
/-- a mirror's comprehension over frozen rows -/
def CapN (rows : List (List Rat)) : Prop := ∀ k j, ∃ n d, Bd n d (gR (gW rows k) j) ∧ d < 9000
end MV
namespace G
open PySem PySem.Spec PyProof.Rows L2 MV
theorem x_lfixed {ts : List T} {rows : List (List Rat)} (r : Rws ts rows) (hl : rows.length ≤ 1000) : m__law_fixed [.lst ts] = .ok (.tup (RR rows)) .hole := by
  obtain ⟨σ2, e2, u2, hs2⟩ := lcL_rel (w := fN 1) (te := mCallB sTuple (mCons (fVar 1) mNil)) (vs := [1]) ts (RR rows) (fun _ σ => ∃ u, σ = [.lst ts, u]) [.lst ts, .hole] (by simp [r.1]) ⟨_, rfl⟩ fun k σ hk hk' hp => by
    obtain ⟨u, rfl⟩ := hp
    obtain ⟨f1, f2⟩ := r.fz hk
    refine ⟨[.lst ts, ts[k]], [.lst ts, ts[k]], by simp [wipeT], ?_, _, rfl⟩
    rw [z_callB, cons_ok (var_ok (t := ts[k]) rfl f1 f2) z_nil, RR_at]
    rcases r.2 k hk with q | q <;> rw [q] <;> simp [sTuple, seqL, fzs_R]
  have lc := lc_ok (it := mItA (fVar 0)) (σ := [.lst ts, .hole]) (σ1 := [.lst ts, .hole]) (items := ts) (by rw [itA_lst (ts := ts) (σ1 := [.lst ts, .hole]) (var_ok (t := .lst ts) rfl rfl (by simp)), fzs_Rws r]) (by rw [r.1]; omega) e2
  refine fn_rt_ex ⟨backT [.lst ts, .hole] σ2 [1], ?_⟩
  show b__law_fixed [.lst ts, .hole] = _
  unfold b__law_fixed
  rw [z_ret, z_callB, cons_ok lc z_nil]
  simp [sTuple, seqL, fzs_RR]
theorem x_lcopy {ts : List T} {rows : List (List Rat)} (r : Rws ts rows) (hl : rows.length ≤ 1000) : m__law_copy [.lst ts] = .ok (.own (OO rows)) .hole := by
  obtain ⟨σ2, e2, u2, hs2⟩ := lcL_rel (w := fN 1) (te := mCallB sList (mCons (fVar 1) mNil)) (vs := [1]) ts (OO rows) (fun _ σ => ∃ u, σ = [.lst ts, u]) [.lst ts, .hole] (by simp [r.1]) ⟨_, rfl⟩ fun k σ hk hk' hp => by
    obtain ⟨u, rfl⟩ := hp
    obtain ⟨f1, f2⟩ := r.fz hk
    refine ⟨[.lst ts, ts[k]], [.lst ts, ts[k]], by simp [wipeT], ?_, _, rfl⟩
    rw [z_callB, cons_ok (var_ok (t := ts[k]) rfl f1 f2) z_nil, OO_at]
    rcases r.2 k hk with q | q <;> rw [q] <;> simp [sList, seqA, seqL, fzs_R]
  have lc := lc_ok (it := mItA (fVar 0)) (σ := [.lst ts, .hole]) (σ1 := [.lst ts, .hole]) (items := ts) (by rw [itA_lst (ts := ts) (σ1 := [.lst ts, .hole]) (var_ok (t := .lst ts) rfl rfl (by simp)), fzs_Rws r]) (by rw [r.1]; omega) e2
  refine fn_rt_ex ⟨backT [.lst ts, .hole] σ2 [1], ?_⟩
  show b__law_copy [.lst ts, .hole] = _
  unfold b__law_copy
  rw [z_ret, lc, z_sbind_ok]
theorem x_lnum {r : Rat} {n d : Nat} (B : Bd n d r) (hd : d < 9000) : m__law_is_number [qT r] = .ok (.v (.bl true)) .hole := by
  have lp := x_lpair (a := r.num) (b := (r.den : Int)) (n := d) (by exact_mod_cast r.den_nz) (by simpa using B.d) hd
  rw [Rat.num_divInt_den] at lp
  have g1 : sGe (.v (.int (r.den : Int))) (.v (.int 1)) = some (.v (.bl true)) := by
    have : (1 : Int) ≤ r.den := by have := r.den_pos; omega
    simp [sGe, iOp, this]
  have q := fEq_same (Nc.q r) (by decide) (u := qT r) rfl
  refine fn_rt (σ := [qT r, .v (.int (r.den : Int))]) ?_
  show b__law_is_number [qT r, .hole] = _
  unfold b__law_is_number
  have i1 := ix_gen (σ := [qT r, .v (.int (r.den : Int))]) (t := qT r) (i := 0) (g := mC (.v (.int 1))) (k := 1) (w := .v (.int (r.den : Int))) rfl (.inl rfl) (by simp) rfl
  have i0 := ix_gen (σ := [qT r, .v (.int (r.den : Int))]) (t := qT r) (i := 0) (g := mC (.v (.int 0))) (k := 0) (w := .v (.int r.num)) rfl (.inl rfl) (by simp) rfl
  have s1 : mIf (mOr (mNot (mTru (mIsi .tup (fVar 0)))) (mBl (mOp2 fNe (mLenN 0) (mC (.v (.int 2)))))) (mRet (mC (.v (.bl false)))) .nx [qT r, .hole] = .nx [qT r, .hole] := by
    simp [tyT, BT.isa, mLenN, live, lenT, seqA, fNe]
  have s2 : mFor (mItA (fVar 0)) (fN 1) (mIf (mOr (mNot (mTru (mIsi .int (fVar 1)))) (mTru (mIsi .bl (fVar 1)))) (mRet (mC (.v (.bl false)))) .nx) [qT r, .hole] = .nx [qT r, .v (.int (r.den : Int))] := by
    simp [forL, tyT, BT.isa]
  rw [z_seq, s1, z_seq_nx, z_seq, s2, z_seq_nx, z_ret, z_andV, z_bl, z_op2, i1]
  simp only [z_bind_ok, z_c, g1, if_true]
  rw [z_op2, call_ok (cons_ok i0 (cons_ok i1 z_nil)) lp]
  simp only [z_bind_ok]
  rw [var_ok (t := qT r) rfl, z_bind_ok, q]
  all_goals rfl
end G

namespace MV
open PySem PySem.Spec PyProof.Rows L2
/-- a list of rows, its own or frozen -/
def IsL (t : T) (l : List Rat) : Prop := t.isHole = false ∧ fz t = .lst (R l)
theorem IsL.own (l : List Rat) : IsL (.own (R l)) l := ⟨rfl, by simp [fzs_R]⟩
theorem IsL.lst (l : List Rat) : IsL (.lst (R l)) l := ⟨rfl, by simp⟩
def Ows (us : List T) (h : Nat) (val : Nat → List Rat) : Prop := us.length = h ∧ ∀ k (hk : k < us.length), IsL us[k] (val k)
theorem Ows.set {us : List T} {h k : Nat} {val val' : Nat → List Rat} {t : T} {l : List Rat} (o : Ows us h val) (ht : IsL t l) (hv : ∀ j, j < h → val' j = if j = k then l else val j) : Ows (us.set k t) h val' := ⟨by simp [o.1], fun j hj => by
  have hj' : j < us.length := by simpa using hj
  rw [hv j (by rw [← o.1]; exact hj'), List.getElem_set]
  by_cases e : k = j
  · subst e
    simp only [if_true]
    exact ht
  · rw [if_neg e, if_neg fun z => e z.symm]
    exact o.2 j hj'⟩
theorem Ows.congr {us : List T} {h : Nat} {val val' : Nat → List Rat} (o : Ows us h val) (hv : ∀ j, j < h → val' j = val j) : Ows us h val' := ⟨o.1, fun j hj => by
  rw [hv j (by rw [← o.1]; exact hj)]
  exact o.2 j hj⟩
theorem fzs_Ows {us : List T} {rows : List (List Rat)} (o : Ows us rows.length (gW rows)) : fzs us = LL rows := by
  rw [fzs_map]
  apply List.ext_getElem (by simp [o.1])
  intro i h1 h2
  rw [List.getElem_map, LL_at]
  exact (o.2 i (by simpa using h1)).2
theorem Ows.OO (rows : List (List Rat)) : Ows (MV.OO rows) rows.length (gW rows) := ⟨by simp, fun k hk => by rw [OO_at]; exact .own _⟩
theorem ix_own {σ : List T} {us : List T} {i n : Nat} {g : List T → Res T} {l : List Rat} (h : σ[i]? = some (.own us)) (hg : g σ = .ok (.v (.int ((n : Nat) : Int))) σ) (hn : n < us.length) (hl : IsL us[n] l) : fIxN i g σ = .ok (.lst (R l)) (σ.set i (.own (us.set n (.lst (R l))))) := by
  have lv : live σ i = true := by
    unfold live
    rw [h]
    all_goals rfl
  rw [z_fIxN]
  unfold mIxN
  rw [lv, hg]
  simp [h, ixT, ixN_nat, hn, hl.2]
end MV
namespace G
open PySem PySem.Spec PyProof.Rows L2 MV
noncomputable def inB : List T → SRes := mIf (mNot (mTru (mCall m__law_is_number (mCons (fVar 3) mNil)))) (mRet (mC (.v (.bl false)))) .nx
noncomputable def irB : List T → SRes := mSeq (mIf (mOr (mNot (mTru (mIsi .tup (fVar 4)))) (mBl (mOp2 fNe (mLenN 4) (fVar 2)))) (mRet (mC (.v (.bl false)))) .nx) (mFor (mItA (fVar 4)) (fN 3) inB)
theorem R_at {l : List Rat} {k : Nat} (h : k < (R l).length) : (R l)[k] = qT (gR l k) := by
  have := R_g (l := l) (k := k) (by simpa using h)
  rw [List.getElem?_eq_getElem h] at this
  exact Option.some.inj this
theorem x_lis_rows {rows : List (List Rat)} {h w : Nat} (hl : rows.length = h) (hw : ∀ k, k < h → (gW rows k).length = w) (cap : CapN rows) : m__law_is_rows [.tup (RR rows), .v (.int ((h : Nat) : Int)), .v (.int ((w : Nat) : Int))] = .ok (.v (.bl true)) .hole := by
  obtain ⟨σ', e, u3, u4, hs⟩ := forL_rel (w := fN 4) (body := irB) (RR rows) (fun _ σ => ∃ u3 u4, σ = [.tup (RR rows), .v (.int ((h : Nat) : Int)), .v (.int ((w : Nat) : Int)), u3, u4]) [.tup (RR rows), .v (.int ((h : Nat) : Int)), .v (.int ((w : Nat) : Int)), .hole, .hole] ⟨_, _, rfl⟩ fun k σ hk hp => by
    obtain ⟨u3, u4, rfl⟩ := hp
    have hk' : k < h := by rw [← hl]; simpa using hk
    obtain ⟨σ2, e2, v3, hs2⟩ := forL_rel (w := fN 3) (body := inB) (R (gW rows k)) (fun _ σ => ∃ u3, σ = [.tup (RR rows), .v (.int ((h : Nat) : Int)), .v (.int ((w : Nat) : Int)), u3, .tup (R (gW rows k))]) [.tup (RR rows), .v (.int ((h : Nat) : Int)), .v (.int ((w : Nat) : Int)), u3, .tup (R (gW rows k))] ⟨_, rfl⟩ fun j σ hj hp => by
      obtain ⟨u3, rfl⟩ := hp
      obtain ⟨n, d, B, hd⟩ := cap k j
      refine ⟨[.tup (RR rows), .v (.int ((h : Nat) : Int)), .v (.int ((w : Nat) : Int)), qT (gR (gW rows k) j), .tup (R (gW rows k))], [.tup (RR rows), .v (.int ((h : Nat) : Int)), .v (.int ((w : Nat) : Int)), qT (gR (gW rows k) j), .tup (R (gW rows k))], by rw [R_at]; simp, ?_, _, rfl⟩
      unfold inB
      rw [z_if, z_not, z_tru, call_ok (cons_ok (var_ok (t := qT (gR (gW rows k) j)) rfl) z_nil) (x_lnum B hd)]
      simp
    subst hs2
    refine ⟨[.tup (RR rows), .v (.int ((h : Nat) : Int)), .v (.int ((w : Nat) : Int)), u3, .tup (R (gW rows k))], _, by rw [RR_at]; simp, ?_, v3, .tup (R (gW rows k)), rfl⟩
    unfold irB
    have s1 : mIf (mOr (mNot (mTru (mIsi .tup (fVar 4)))) (mBl (mOp2 fNe (mLenN 4) (fVar 2)))) (mRet (mC (.v (.bl false)))) .nx [.tup (RR rows), .v (.int ((h : Nat) : Int)), .v (.int ((w : Nat) : Int)), u3, .tup (R (gW rows k))] = .nx [.tup (RR rows), .v (.int ((h : Nat) : Int)), .v (.int ((w : Nat) : Int)), u3, .tup (R (gW rows k))] := by
      simp [tyT, BT.isa, mLenN, live, lenT, seqA, hw k hk', ne_len]
    rw [z_seq, s1, z_seq_nx, z_for, itA_tup (ts := R (gW rows k)) (σ1 := [.tup (RR rows), .v (.int ((h : Nat) : Int)), .v (.int ((w : Nat) : Int)), u3, .tup (R (gW rows k))]) (var_ok (t := .tup (R (gW rows k))) rfl), z_sbind_ok, e2]
  subst hs
  refine fn_rt (σ := [.tup (RR rows), .v (.int ((h : Nat) : Int)), .v (.int ((w : Nat) : Int)), u3, u4]) ?_
  show b__law_is_rows [.tup (RR rows), .v (.int ((h : Nat) : Int)), .v (.int ((w : Nat) : Int)), .hole, .hole] = _
  have e0 : b__law_is_rows = mSeq (mIf (mOr (mNot (mTru (mIsi .tup (fVar 0)))) (mBl (mOp2 fNe (mLenN 0) (fVar 1)))) (mRet (mC (.v (.bl false)))) .nx) (mSeq (mFor (mItA (fVar 0)) (fN 4) irB) (mRet (mC (.v (.bl true))))) := rfl
  have s1 : mIf (mOr (mNot (mTru (mIsi .tup (fVar 0)))) (mBl (mOp2 fNe (mLenN 0) (fVar 1)))) (mRet (mC (.v (.bl false)))) .nx [.tup (RR rows), .v (.int ((h : Nat) : Int)), .v (.int ((w : Nat) : Int)), .hole, .hole] = .nx [.tup (RR rows), .v (.int ((h : Nat) : Int)), .v (.int ((w : Nat) : Int)), .hole, .hole] := by
    simp [tyT, BT.isa, mLenN, live, lenT, seqA, hl, ne_len]
  rw [e0, z_seq, s1, z_seq_nx, z_seq, z_for, itA_tup (ts := RR rows) (σ1 := [.tup (RR rows), .v (.int ((h : Nat) : Int)), .v (.int ((w : Nat) : Int)), .hole, .hole]) (var_ok (t := .tup (RR rows)) rfl), z_sbind_ok, e, z_seq_nx]
  simp
/-- what is due: a frozen list of rows, or one of its own -/
def Due (t : T) (rows : List (List Rat)) : Prop := (∃ ts, t = .lst ts ∧ Rws ts rows) ∨ ∃ us, t = .own us ∧ Ows us rows.length (gW rows)
theorem x_lsame {told due : T} {rows : List (List Rat)} {h w : Nat} (z : Sz h w rows) (cap : CapN rows) (ht : told = tabT rows ∨ told = tabO rows) (hd : Due due rows) : m__law_same [told, due] = .ok (.v (.bl true)) .hole := by
  have hl := z.len
  have z1 := z.h1; have z2 := z.h2
  have w0 := z.wid 0 (by omega)
  have f0 : fVar 0 [told, due] = .ok (tabT rows) [tabT rows, due] := by
    rcases ht with rfl | rfl
    · simp
    · simp [tabL]
  have lis := x_lis_rows hl z.wid cap
  have fld : ∀ u, mFldN "Table" "rows" 0 [tabT rows, u] = .ok (.tup (RR rows)) [tabT rows, u] := fun u => by simp [objT, fldT, tabL, T.flat]
  have fldh : ∀ u, mFldN "Table" "high" 0 [tabT rows, u] = .ok (.v (.int ((rows.length : Nat) : Int))) [tabT rows, u] := fun u => by
    have d1 : ¬ (Str.ofString "rows" = Str.ofString "high") := by decide
    simp [objT, fldT, tabL, T.flat, d1]
  have fldw : ∀ u, mFldN "Table" "wide" 0 [tabT rows, u] = .ok (.v (.int (((gW rows 0).length : Nat) : Int))) [tabT rows, u] := fun u => by
    have d1 : ¬ (Str.ofString "rows" = Str.ofString "wide") := by decide
    have d2 : ¬ (Str.ofString "high" = Str.ofString "wide") := by decide
    simp [objT, fldT, tabL, T.flat, d1, d2]
  -- what a look at the due list's first row does
  have look : ∃ due', mCallB sLen (mCons (fIxN 1 (mC (.v (.int 0)))) mNil) [tabT rows, due] = .ok (.v (.int ((w : Nat) : Int))) [tabT rows, due'] ∧ Due due' rows := by
    rcases hd with ⟨ts, rfl, r⟩ | ⟨us, rfl, o⟩
    · refine ⟨.lst ts, ?_, .inl ⟨ts, rfl, r⟩⟩
      have h0 : 0 < ts.length := by rw [r.1, hl]; omega
      rw [z_callB, cons_ok (ix_gen (σ := [tabT rows, .lst ts]) (i := 1) (g := mC (.v (.int 0))) (k := 0) (w := ts[0]) rfl (.inr rfl) (by simp) (by rw [atI_zero]; simp [h0])) z_nil]
      rcases r.2 0 h0 with q | q <;> simp [q, sLen, lenT, seqA, seqL, w0]
    · have h0 : 0 < us.length := by rw [o.1, hl]; omega
      refine ⟨.own (us.set 0 (.lst (R (gW rows 0)))), ?_, .inr ⟨_, rfl, o.set (.lst _) fun j hj => by split <;> simp_all⟩⟩
      rw [z_callB, cons_ok (ix_own (σ := [tabT rows, .own us]) (i := 1) (g := mC (.v (.int 0))) (n := 0) rfl (by simp) h0 (o.2 0 h0)) z_nil]
      simp [sLen, lenT, seqA, seqL, w0]
  obtain ⟨due', lk, hd'⟩ := look
  have len1 : ∀ d, Due d rows → mLenN 1 [tabT rows, d] = .ok (.v (.int ((h : Nat) : Int))) [tabT rows, d] := fun d hd => by
    rcases hd with ⟨ts, rfl, r⟩ | ⟨us, rfl, o⟩
    · exact len_ok rfl rfl (by simp [lenT, seqA, seqL, r.1, hl])
    · exact len_ok rfl rfl (by simp [lenT, seqA, seqL, o.1, hl])
  -- the due list frozen
  have frz : ∃ ts, fVar 1 [tabT rows, due'] = .ok (.lst ts) [tabT rows, .lst ts] ∧ Rws ts rows := by
    rcases hd' with ⟨ts, rfl, r⟩ | ⟨us, rfl, o⟩
    · exact ⟨ts, by simp, r⟩
    · exact ⟨LL rows, by simp [fzs_Ows o], Rws.LL rows⟩
  obtain ⟨ts, fz1, rts⟩ := frz
  have look2 : mCallB sLen (mCons (fIxN 1 (mC (.v (.int 0)))) mNil) [tabT rows, .lst ts] = .ok (.v (.int ((w : Nat) : Int))) [tabT rows, .lst ts] := by
    have h0 : 0 < ts.length := by rw [rts.1, hl]; omega
    rw [z_callB, cons_ok (ix_gen (σ := [tabT rows, .lst ts]) (i := 1) (g := mC (.v (.int 0))) (k := 0) (w := ts[0]) rfl (.inr rfl) (by simp) (by rw [atI_zero]; simp [h0])) z_nil]
    rcases rts.2 0 h0 with q | q <;> simp [q, sLen, lenT, seqA, seqL, w0]
  have fx := x_lfixed rts (by omega)
  have q1 := fEq_same (Nc.rows rows) (by decide) (u := .tup (RR rows)) rfl
  refine fn_rt (σ := [tabT rows, .lst ts]) ?_
  show b__law_same [told, due] = _
  unfold b__law_same
  have s1 : mIf (mOr (mNot (mTru (mIsO "Table" (fVar 0)))) (mNot (mTru (mCall m__law_is_rows (mCons (mFldN "Table" "rows" 0) (mCons (mLenN 1) (mCons (mCallB sLen (mCons (fIxN 1 (mC (.v (.int 0)))) mNil)) mNil))))))) (mRet (mC (.v (.bl false)))) .nx [told, due] = .nx [tabT rows, due'] := by
    rw [z_if, z_or, z_not, z_tru, z_isO, f0]
    simp only [z_bind_ok, if_true, z_trB, Bool.not_true, Bool.false_eq_true, if_false]
    rw [z_not, z_tru, call_ok (cons_ok (fld due) (cons_ok (len1 due hd) (cons_ok lk z_nil))) lis]
    simp
  rw [z_seq, s1, z_seq_nx, z_ret, z_andV, z_bl, z_op2, fld, z_bind_ok, call_ok (cons_ok fz1 z_nil) fx, z_bind_ok, q1]
  simp only [z_bind_ok, if_true]
  rw [z_andV, z_bl, z_op2, fldh, z_bind_ok, len1 _ (.inl ⟨ts, rfl, rts⟩), z_bind_ok]
  have q2 : fEq (.v (.int ((rows.length : Nat) : Int))) (.v (.int ((h : Nat) : Int))) = some (.v (.bl true)) := by simp [fEq, hl]
  have q3 : fEq (.v (.int (((gW rows 0).length : Nat) : Int))) (.v (.int ((w : Nat) : Int))) = some (.v (.bl true)) := by simp [fEq, w0]
  rw [q2]
  simp only [z_bind_ok, if_true]
  rw [z_op2, fldw, z_bind_ok, look2, z_bind_ok, q3]
  all_goals rfl
end G

namespace G
open PySem PySem.Spec PyProof.Rows L2 MV
/-- x[r] = f(x[r], x[at]) on a list of rows -/
theorem row_step {σ : List T} {us : List T} {m : List T → FRes} {h r at_ : Nat} {val val' : Nat → List Rat} {l : List Rat} {jr ja : Nat} (hσ : σ[1]? = some (.own us)) (o : Ows us h val) (hr : σ[jr]? = some (.v (.int ((r : Nat) : Int)))) (ha : σ[ja]? = some (.v (.int ((at_ : Nat) : Int)))) (n1 : jr ≠ 1) (n2 : ja ≠ 1) (r1 : r < h) (r2 : at_ < h)
    (hm : m [.lst (R (val r)), .lst (R (val at_))] = .ok (.own (R l)) .hole) (hv : ∀ j, j < h → val' j = if j = r then l else val j) :
    ∃ us', mSetN 1 (fVar jr) (mCall m (mCons (fIxN 1 (fVar jr)) (mCons (fIxN 1 (fVar ja)) mNil))) σ = .nx (σ.set 1 (.own us')) ∧ Ows us' h val' := by
  have l1 : 1 < σ.length := (List.getElem?_eq_some_iff.mp hσ).1
  have e1 := ix_own (g := fVar jr) hσ (var_ok hr) (by rw [o.1]; exact r1) (o.2 r (by rw [o.1]; exact r1))
  have o1 : Ows (us.set r (.lst (R (val r)))) h val := o.set (.lst _) fun j hj => by split <;> simp_all
  have g1 : (σ.set 1 (.own (us.set r (.lst (R (val r))))))[1]? = some (.own (us.set r (.lst (R (val r))))) := by simp [l1]
  have ga : (σ.set 1 (.own (us.set r (.lst (R (val r))))))[ja]? = some (.v (.int ((at_ : Nat) : Int))) := by rw [List.getElem?_set_ne (Ne.symm n2)]; exact ha
  have e2 := ix_own (g := fVar ja) g1 (var_ok ga) (by rw [o1.1]; exact r2) (o1.2 at_ (by rw [o1.1]; exact r2))
  have o2 : Ows ((us.set r (.lst (R (val r)))).set at_ (.lst (R (val at_)))) h val := o1.set (.lst _) fun j hj => by split <;> simp_all
  have ss : ((σ.set 1 (.own (us.set r (.lst (R (val r)))))).set 1 (.own ((us.set r (.lst (R (val r)))).set at_ (.lst (R (val at_)))))) = σ.set 1 (.own ((us.set r (.lst (R (val r)))).set at_ (.lst (R (val at_))))) := by simp
  rw [ss] at e2
  generalize hus : (us.set r (.lst (R (val r)))).set at_ (.lst (R (val at_))) = us2 at *
  have c := call_ok (cons_ok e1 (cons_ok e2 z_nil)) hm
  refine ⟨us2.set r (.own (R l)), ?_, o2.set (.own _) hv⟩
  unfold mSetN
  rw [c, z_sbind_ok]
  have lv : live (σ.set 1 (.own us2)) 1 = true := by
    unfold live
    simp [l1]
  have hr2 : (σ.set 1 (.own us2))[jr]? = some (.v (.int ((r : Nat) : Int))) := by rw [List.getElem?_set_ne (Ne.symm n1)]; exact hr
  rw [lv, var_ok hr2]
  have hr3 : r < us2.length := by rw [o2.1]; exact r1
  simp [l1, ixN_nat, hr3]
theorem x_lunmade {ts : List T} {rows : List (List Rat)} {h w : Nat} (r : Rws ts rows) (z : Sz h w rows) (cap : ∀ j k, k + 1 < h - j → CapU (gW (lvl rows j) k) (lastW (lvl rows j))) : ∃ us, m__law_unmade [.lst ts] = .ok (.own us) .hole ∧ Ows us (coreR rows).length (gW (coreR rows)) := by
  have hl := z.len
  have z1 := z.h1; have z2 := z.h2; have z4 := z.w2
  have cp := x_lcopy r (by omega)
  -- the rows behind t turns
  let vo : Nat → Nat → List Rat := fun t k => if k ≤ h - 1 - t then gW (lvl rows t) k else gW (coreR rows) k
  have vstep : ∀ t, t < h - 1 → ∀ us : List T, ∀ u2 u3 : T, Ows us h (vo t) →
      ∃ us' v2, mSeq (mAsg (mOp2 sSub (mOp2 sSub (mLenN 1) (mC (.v (.int 1)))) (fVar 4)) (fN 3)) (mFor (mRg1 (fVar 3)) (fN 2) (mSetN 1 (fVar 2) (mCall m__law_unmade_row (mCons (fIxN 1 (fVar 2)) (mCons (fIxN 1 (fVar 3)) mNil))))) [.lst ts, .own us, u2, u3, .v (.int ((t : Nat) : Int))] =
        .nx [.lst ts, .own us', v2, .v (.int ((h - 1 - t : Nat) : Int)), .v (.int ((t : Nat) : Int))] ∧ Ows us' h (vo (t + 1)) := by
    intro t ht us u2 u3 o
    have s1 : mAsg (mOp2 sSub (mOp2 sSub (mLenN 1) (mC (.v (.int 1)))) (fVar 4)) (fN 3) [.lst ts, .own us, u2, u3, .v (.int ((t : Nat) : Int))] = .nx [.lst ts, .own us, u2, .v (.int ((h - 1 - t : Nat) : Int)), .v (.int ((t : Nat) : Int))] := by
      have e : ((h : Nat) : Int) - 1 - ((t : Nat) : Int) = ((h - 1 - t : Nat) : Int) := by omega
      rw [z_asg, z_op2, z_op2, len_ok (n := h) rfl rfl (by simp [lenT, seqA, seqL, o.1])]
      simp only [z_bind_ok, z_c, sub_intT]
      rw [var_ok (t := .v (.int ((t : Nat) : Int))) rfl]
      simp only [z_bind_ok, sub_intT, e]
      simp
    obtain ⟨σ', e, us', v2, hs, ho⟩ := forL_rel (w := fN 2) (body := mSetN 1 (fVar 2) (mCall m__law_unmade_row (mCons (fIxN 1 (fVar 2)) (mCons (fIxN 1 (fVar 3)) mNil)))) (intsFrom 0 (h - 1 - t))
      (fun q σ => ∃ us v2, σ = [.lst ts, .own us, v2, .v (.int ((h - 1 - t : Nat) : Int)), .v (.int ((t : Nat) : Int))] ∧ Ows us h (fun k => if k < q then gW (lvl rows (t + 1)) k else vo t k)) [.lst ts, .own us, u2, .v (.int ((h - 1 - t : Nat) : Int)), .v (.int ((t : Nat) : Int))] ⟨us, u2, rfl, o.congr fun j hj => by simp⟩ fun q σ hq hp => by
      obtain ⟨us, v2, rfl, o⟩ := hp
      rw [intsFrom_len] at hq
      have ll : (lvl rows t).length = h - t := by rw [lvl_len, hl]
      have wt := z.wd.lvl t
      have la : lastW (lvl rows t) = gW (lvl rows t) (h - 1 - t) := by
        unfold lastW
        rw [ll]
        congr 1
        omega
      have vq : (if q < q then gW (lvl rows (t + 1)) q else vo t q) = gW (lvl rows t) q := by
        rw [if_neg (Nat.lt_irrefl q)]
        show (if q ≤ h - 1 - t then _ else _) = _
        rw [if_pos (by omega)]
      have va : (if h - 1 - t < q then gW (lvl rows (t + 1)) (h - 1 - t) else vo t (h - 1 - t)) = lastW (lvl rows t) := by
        rw [if_neg (by omega), la]
        show (if h - 1 - t ≤ h - 1 - t then _ else _) = _
        rw [if_pos (Nat.le_refl _)]
      have w1 : (gW (lvl rows t) q).length = w := wt q (by omega)
      have w2' : (lastW (lvl rows t)).length = w := by rw [la]; exact wt _ (by omega)
      have st := row_step (σ := [.lst ts, .own us, .v (.int ((q : Nat) : Int)), .v (.int ((h - 1 - t : Nat) : Int)), .v (.int ((t : Nat) : Int))]) (m := m__law_unmade_row) (r := q) (at_ := h - 1 - t) (jr := 2) (ja := 3) (l := unR (gW (lvl rows t) q) (lastW (lvl rows t))) (val' := fun k => if k < q + 1 then gW (lvl rows (t + 1)) k else vo t k) rfl o rfl rfl (by decide) (by decide) (by omega) (by omega)
        (by simp only [vq, va]; exact x_lur (.inr rfl) (.inr rfl) (by rw [w1, w2']) (by rw [w1]; omega) (cap t q (by omega))) (fun j hj => by
          by_cases e : j = q
          · subst e
            rw [if_pos (Nat.lt_succ_self j), if_pos rfl]
            simp only [lvl]
            exact abv_at (by rw [ll]; omega)
          · rw [if_neg e]
            by_cases e2 : j < q
            · rw [if_pos (by omega), if_pos e2]
            · rw [if_neg (by omega), if_neg e2])
      obtain ⟨us', e, o'⟩ := st
      exact ⟨[.lst ts, .own us, .v (.int ((q : Nat) : Int)), .v (.int ((h - 1 - t : Nat) : Int)), .v (.int ((t : Nat) : Int))], _, by rw [intsFrom_get]; simp, e, us', _, rfl, o'⟩
    subst hs
    rw [intsFrom_len] at ho
    refine ⟨us', v2, ?_, ho.congr fun j hj => ?_⟩
    · rw [z_seq, s1, z_seq_nx, z_for, rg1_ok (n := h - 1 - t) (var_ok rfl) (by omega), z_sbind_ok, e]
    · show (if j ≤ h - 1 - (t + 1) then gW (lvl rows (t + 1)) j else gW (coreR rows) j) = _
      by_cases e1 : j < h - 1 - t
      · rw [if_pos (by omega), if_pos e1]
      · rw [if_neg (by omega), if_neg e1]
        show _ = (if j ≤ h - 1 - t then _ else _)
        by_cases e2 : j ≤ h - 1 - t
        · rw [if_pos e2, coreR_at (by omega)]
          have : rows.length - 1 - j = t := by omega
          rw [this]
        · rw [if_neg e2]
  obtain ⟨σ', e, us, u2, u3, u4, hs, ho⟩ := forL_rel (w := fN 4) (body := mSeq (mAsg (mOp2 sSub (mOp2 sSub (mLenN 1) (mC (.v (.int 1)))) (fVar 4)) (fN 3)) (mFor (mRg1 (fVar 3)) (fN 2) (mSetN 1 (fVar 2) (mCall m__law_unmade_row (mCons (fIxN 1 (fVar 2)) (mCons (fIxN 1 (fVar 3)) mNil)))))) (intsFrom 0 (h - 1))
    (fun t σ => ∃ us u2 u3 u4, σ = [.lst ts, .own us, u2, u3, u4] ∧ Ows us h (vo t)) [.lst ts, .own (OO rows), .hole, .hole, .hole] ⟨_, _, _, _, rfl, by
      have := Ows.OO rows
      rw [hl] at this
      exact this.congr fun j hj => by
        show (if j ≤ h - 1 - 0 then _ else _) = _
        rw [if_pos (by omega)]
        rfl⟩ fun t σ ht hp => by
    obtain ⟨us, u2, u3, u4, rfl, o⟩ := hp
    rw [intsFrom_len] at ht
    obtain ⟨us', v2, e, o'⟩ := vstep t ht us u2 u3 o
    exact ⟨[.lst ts, .own us, u2, u3, .v (.int ((t : Nat) : Int))], _, by rw [intsFrom_get]; simp, e, us', v2, _, _, rfl, o'⟩
  subst hs
  rw [intsFrom_len] at ho
  refine ⟨us, fn_rt (σ := [.lst ts, .hole, u2, u3, u4]) ?_, ?_⟩
  · show b__law_unmade [.lst ts, .hole, .hole, .hole, .hole] = _
    unfold b__law_unmade
    have s1 : mAsg (mCall m__law_copy (mCons (fVar 0) mNil)) (fN 1) [.lst ts, .hole, .hole, .hole, .hole] = .nx [.lst ts, .own (OO rows), .hole, .hole, .hole] := by
      rw [z_asg, call_ok (cons_ok (var_ok (t := .lst ts) rfl rfl (by simp [fzs_Rws r])) z_nil) cp]
      simp
    have rg : mRg1 (mOp2 sSub (mLenN 1) (mC (.v (.int 1)))) [.lst ts, .own (OO rows), .hole, .hole, .hole] = .ok (intsFrom 0 (h - 1)) [.lst ts, .own (OO rows), .hole, .hole, .hole] := by
      refine rg1_ok ?_ (by omega)
      have e : ((h : Nat) : Int) - 1 = ((h - 1 : Nat) : Int) := by omega
      rw [z_op2, len_ok (n := h) rfl rfl (by simp [lenT, seqA, seqL, hl])]
      simp only [z_bind_ok, z_c, sub_intT, e]
    rw [z_seq, s1, z_seq_nx, z_seq, z_for, rg, z_sbind_ok, e, z_seq_nx]
    simp [mRetM]
  · rw [coreR_len, hl]
    refine ho.congr fun j hj => ?_
    show _ = (if j ≤ h - 1 - (h - 1) then _ else _)
    by_cases e : j ≤ h - 1 - (h - 1)
    · rw [if_pos e, coreR_at (by omega)]
      have : rows.length - 1 - j = h - 1 := by omega
      rw [this]
    · rw [if_neg e]
end G

namespace MV
open PySem PySem.Spec PyProof.Rows L2
theorem capU_of {x b : List Rat} {nx dx nb db : Nat} (X : Rb nx dx x) (B : Rb nb db b) (h1 : nx + dx + nb + db < 300000) (h2 : 2 * dx + nb + db < 9000) : CapU x b := ⟨_, _, _, _, X, B, h1, h2⟩
theorem mul_le12 {L k : Nat} (h : L ≤ 12) : L * k ≤ 12 * k := Nat.mul_le_mul_right _ h
theorem capM_of {x b : List Rat} {nx dx nb db L : Nat} (X : Rb nx dx x) (B : Rb nb db b) (hL : x.length ≤ L) (h1 : (L + 1) * (nx + db + dx + nb + 1) < 300000) (h2 : L * (dx + nb) + db < 9000) : CapM x b := by
  refine ⟨_, _, _, _, X, B, Nat.lt_of_le_of_lt (Nat.mul_le_mul_right _ (by omega)) h1, ?_⟩
  have := Nat.mul_le_mul_right (dx + nb) hL
  omega
theorem capL_of {x b : List Rat} {nx dx nb db L : Nat} (X : Rb nx dx x) (B : Rb nb db b) (hL : x.length ≤ L) (h1 : (L + 1) * (2 * nb + 2 * db + nx + dx + 1) < 300000) (h2 : L * (nb + db + dx) < 9000) : CapL x b :=
  ⟨_, _, _, _, X, B, Nat.lt_of_le_of_lt (Nat.mul_le_mul_right _ (by omega)) h1, Nat.lt_of_le_of_lt (Nat.mul_le_mul_right _ hL) h2⟩
theorem Rb.mono {n d n' d' : Nat} {l : List Rat} (h : Rb n d l) (a : n ≤ n') (b : d ≤ d') : Rb n' d' l := fun k => (h k).mono a b
/-- a made row's size, sharper -/
theorem Rb.ma2 {x b : List Rat} {nx dx nb db L : Nat} (X : Rb nx dx x) (B : Rb nb db b) (hL : x.length ≤ L) : Rb (L * (nx + db + dx + nb + 1) + nb) (L * (dx + nb) + db) (maR x b) := fun k => by
  by_cases h : k < x.length
  · have a1 : 1 * (nx + db + dx + nb + 1) ≤ L * (nx + db + dx + nb + 1) := Nat.mul_le_mul_right _ (by omega)
    have a2 : 1 * (dx + nb) ≤ L * (dx + nb) := Nat.mul_le_mul_right _ (by omega)
    rw [maR_at h]
    unfold maAt
    split
    · exact (X k).mono (by omega) (by omega)
    · have z := smR_bd X B (x.length - k)
      have l1 : (x.length - k) * (nx + db + dx + nb + 1) ≤ L * (nx + db + dx + nb + 1) := Nat.mul_le_mul_right _ (by omega)
      have l2 : (x.length - k) * (dx + nb) ≤ L * (dx + nb) := Nat.mul_le_mul_right _ (by omega)
      exact (B k).mul z (by omega) (by omega)
  · have : gR (maR x b) k = 0 := by simp [gR, List.getD, maR, h]
    rw [this]; exact Bd.zero
theorem capN_two {x y : List Rat} {n d n' d' : Nat} (X : Rb n d x) (Y : Rb n' d' y) (h : d < 9000) (h' : d' < 9000) : CapN [x, y] := fun k j => by
  match k with
  | 0 => exact ⟨n, d, X j, h⟩
  | 1 => exact ⟨n', d', Y j, h'⟩
  | k + 2 => exact ⟨0, 0, by simp [gW, List.getD, gR]; exact Bd.zero, by omega⟩
theorem lst_app {σ : List T} {t : T} {i : Nat} {l : List Rat} (h : σ[i]? = some t) (ht : t = .lst (R l)) : mCallB sList (mCons (fVar i) mNil) σ = .ok (.own (R l)) σ := by
  subst ht
  rw [z_callB, cons_ok (var_ok h) z_nil]
  simp [sList, seqA, seqL, fzs_R]
theorem tup_app {σ : List T} {t : T} {i : Nat} {l : List Rat} (h : σ[i]? = some t) (ht : t = .lst (R l)) : mCallB sTuple (mCons (fVar i) mNil) σ = .ok (.tup (R l)) σ := by
  subst ht
  rw [z_callB, cons_ok (var_ok h) z_nil]
  simp [sTuple, seqL, fzs_R]
end MV
namespace G
open PySem PySem.Spec PyProof.Rows L2 MV
end G

namespace MV
open PySem PySem.Spec PyProof.Rows L2
theorem try_exc {rel : Str → Str → Option Bool} {body m : List T → SRes} {cn C : Str} {ns : List Str} {us σ σ1 σ2 : List T} {i : Nat} (hb : body σ = .exc C ns us σ1) (hr : rel C cn = some true) (hn : ns.isEmpty = false) (hi : i < σ1.length) (hm : m (σ1.set i (.xc C ns us)) = .nx σ2) (hx : noXs (σ2.set i .hole) = true) :
    mTry rel body [(cn, some i, m)] σ = .nx (σ2.set i .hole) := by
  unfold mTry
  rw [hb]
  simp only [hnd, hr, hn, hi, decide_true, Bool.not_true, Bool.or_self, Bool.false_eq_true, if_false, hm, cleanS, hx, if_true]
theorem noXs_app : ∀ (l m : List T), noXs (l ++ m) = (noXs l && noXs m)
  | [], m => by simp [noXs]
  | t :: l, m => by
    simp only [List.cons_append, noXs, noXs_app l m, Bool.and_assoc]
theorem noXs_R : ∀ l : List Rat, noXs (R l) = true
  | [] => by simp [noXs]
  | r :: l => by
    have := noXs_R l
    simp only [R, List.map_cons, noXs, noX] at this ⊢
    simp [this]
theorem Rw.noX {t : T} {l : List Rat} (h : t = .tup (R l) ∨ t = .lst (R l)) : noX t = true := by
  rcases h with rfl | rfl <;> simp only [MV.noX, noXs_R]
theorem Nc.own {n : Nat} {l : List T} (h : Ncs n l) : Nc (n + 1) (.own l) := by
  obtain ⟨ds, k1, k2, k3, k4⟩ := h
  exact ⟨.list ds, by simp [toD, k1], by simpa [PyData.canLay0] using k2, by simp only [PyData.depth]; omega, by rw [PyData.eqv]; exact k4⟩
theorem Ncs.ints : ∀ l : List Int, Ncs 0 (l.map fun i => T.v (.int i))
  | [] => .nil
  | i :: l => .cons (.int i) (Ncs.ints l)
theorem IsR.frz {t : T} {l : List Rat} (h : IsR t l) : ∃ t', fz t = t' ∧ (t' = .tup (R l) ∨ t' = .lst (R l)) := ⟨_, rfl, h.f⟩
theorem IsR.of {t : T} {l : List Rat} (h : t = .tup (R l) ∨ t = .lst (R l)) : IsR t l := by
  rcases h with rfl | rfl
  · exact .tup l
  · exact .lst l
end MV
namespace G
open PySem PySem.Spec PyProof.Rows L2 MV
theorem x_ur_exc {t u : T} {C : Str} {ns : List Str} {us : List T} {b : T} (ht : t.isHole = false) (hu : u.isHole = false) (h : m_pair_of_rows [fz t, fz u] = .exc C ns us b) : m_unmade_row [t, u] = .exc C ns us .hole := by
  apply fn_exc (σ := [fz t, fz u, .hole, .hole, .hole, .hole])
  simp [b_unmade_row, ht, hu, h]
theorem x_pair_exc1 {t u : T} {C : Str} {ns : List Str} {us : List T} {b : T} (ht : t.isHole = false) (h : m_check_row [fz t] = .exc C ns us b) : m_pair_of_rows [t, u] = .exc C ns us .hole := by
  apply fn_exc (σ := [fz t, u])
  simp [b_pair_of_rows, ht, h]
theorem x_pair_exc2 {t u v : T} {C : Str} {ns : List Str} {us : List T} {b b2 : T} (ht : t.isHole = false) (hu : u.isHole = false) (h : m_check_row [fz t] = .ok v b2) (h2 : m_check_row [fz u] = .exc C ns us b) : m_pair_of_rows [t, u] = .exc C ns us .hole := by
  apply fn_exc (σ := [v, fz u])
  simp [b_pair_of_rows, ht, hu, h, h2]
theorem x_check_v {c : V} (h : c = .non ∨ c = .int 5) : m_check_row [.v c] = .exc "BadNumber" ["place"] [.v (.int (-1))] .hole := by
  apply fn_exc (σ := [.v c, .hole])
  rcases h with rfl | rfl <;> simp [b_check_row, tyT, isaL, BT.isa]
theorem x_check_bad {t : T} {l : List Rat} {bad : T} {rest : List T} (ht : t = .tup (R l ++ bad :: rest) ∨ t = .lst (R l ++ bad :: rest)) (hl : l.length + rest.length ≤ 1000) (hb : m_is_number [bad] = .ok (.v (.bl false)) .hole) : m_check_row [t] = .exc "BadNumber" ["place"] [.v (.int ((l.length : Nat) : Int))] .hole := by
  have hn : (R l ++ bad :: rest).length = l.length + rest.length + 1 := by simp; omega
  have ix : ∀ k u, fIxN 0 (fVar 1) [t, .v (.int ((k : Nat) : Int))] = (match (R l ++ bad :: rest)[k]? with | some w => Res.ok w [t, .v (.int ((k : Nat) : Int))] | none => u) ∨ (R l ++ bad :: rest)[k]? = none := fun k u => by
    cases q : (R l ++ bad :: rest)[k]? with
    | none => exact .inr rfl
    | some w => exact .inl (ix_gen (ts := R l ++ bad :: rest) rfl ht (var_ok rfl) (by rw [atI_k, q]))
  have ixk : ∀ k w, (R l ++ bad :: rest)[k]? = some w → fIxN 0 (fVar 1) [t, .v (.int ((k : Nat) : Int))] = .ok w [t, .v (.int ((k : Nat) : Int))] := fun k w q => ix_gen (ts := R l ++ bad :: rest) rfl ht (var_ok rfl) (by rw [atI_k, q])
  have hh : t.isHole = false := by rcases ht with rfl | rfl <;> rfl
  have hf : fz t = t := by rcases ht with rfl | rfl <;> simp
  obtain ⟨σ', e⟩ := forL_exc (w := fN 1) (body := mIf (mNot (mTru (mCall m_is_number (mCons (fIxN 0 (fVar 1)) mNil)))) (mRaise "BadNumber" ["place"] (mCons (fVar 1) mNil)) .nx) (C := "BadNumber") (ns := ["place"]) (us := [.v (.int ((l.length : Nat) : Int))]) (intsFrom 0 (l.length + rest.length + 1)) (fun _ σ => ∃ u, σ = [t, u]) [t, .hole] l.length (by rw [intsFrom_len]; omega) ⟨_, rfl⟩ (fun k σ hk hlt hp => by
    obtain ⟨u, rfl⟩ := hp
    have q : (R l ++ bad :: rest)[k]? = some (qT (gR l k)) := by
      rw [List.getElem?_append_left (by simpa using hlt)]
      exact R_g hlt
    refine ⟨[t, .v (.int ((k : Nat) : Int))], [t, .v (.int ((k : Nat) : Int))], by rw [intsFrom_get]; simp, ?_, _, rfl⟩
    rw [z_if, z_not, z_tru, call_ok (cons_ok (ixk k _ q) z_nil) (x_num _)]
    simp) (fun σ hp => by
    obtain ⟨u, rfl⟩ := hp
    have q : (R l ++ bad :: rest)[l.length]? = some bad := by
      rw [List.getElem?_append_right (by simp)]
      simp
    refine ⟨[t, .v (.int ((l.length : Nat) : Int))], [t, .v (.int ((l.length : Nat) : Int))], by rw [intsFrom_get]; simp, ?_⟩
    rw [z_if, z_not, z_tru, call_ok (cons_ok (ixk _ _ q) z_nil) hb]
    simp)
  have ty : ∃ b, tyT t = some b ∧ isaL b [.lst, .tup] = true := by
    rcases ht with rfl | rfl
    · exact ⟨.tup, rfl, rfl⟩
    · exact ⟨.lst, rfl, rfl⟩
  obtain ⟨bt, ty1, ty2⟩ := ty
  have ln := len_ok (σ := [t, .hole]) (i := 0) (n := l.length + rest.length + 1) rfl hh (by rcases ht with rfl | rfl <;> simp only [lenT, seqA, seqL, Option.map_some, hn])
  refine fn_exc (σ := σ') ?_
  show b_check_row [t, .hole] = _
  unfold b_check_row
  have s1 : mIf (mNot (mTru (mIsiL [.lst, .tup] (fVar 0)))) (mRaise "BadNumber" ["place"] (mCons (mNeg (mC (.v (.int 1)))) mNil)) .nx [t, .hole] = .nx [t, .hole] := by
    rw [z_if, z_not, z_tru, z_isiL, var_ok (t := t) rfl hh hf]
    simp [ty1, ty2]
  rw [z_seq, s1, z_seq_nx, z_seq, z_for, rg1_ok ln (by omega), z_sbind_ok, e, z_seq_exc]
theorem n24 : m_is_number [.tup [.v (.int 2), .v (.int 4)]] = .ok (.v (.bl false)) .hole := by
  apply fn_rt (σ := [.tup [.v (.int 2), .v (.int 4)], .v (.int 4), .v (.int 2)])
  simp [b_is_number, tyT, BT.isa, mLenN, live, lenT, seqA, x_plain, sGe, iOp, sGcd, fEq, fNe]
theorem n1m2 : m_is_number [.tup [.v (.int 1), .v (.int (-2))]] = .ok (.v (.bl false)) .hole := by
  apply fn_rt (σ := [.tup [.v (.int 1), .v (.int (-2))], .v (.int (-2)), .v (.int 1)])
  simp [b_is_number, tyT, BT.isa, mLenN, live, lenT, seqA, x_plain, sGe, iOp, sGcd, fEq, fNe]
theorem nv {c : V} (h : c = .non ∨ c = .int 5 ∨ c = .int 7) : m_is_number [.v c] = .ok (.v (.bl false)) .hole := by
  apply fn_rt (σ := [.v c, .hole, .hole])
  rcases h with rfl | rfl | rfl <;> simp [b_is_number, tyT, BT.isa]
theorem rBB : relX "BadBox" "BadBox" = some true := by decide
end G

namespace MV
open PySem PySem.Spec PyProof.Rows L2
/-- a tree frozen -/
structure Fz (t t' : T) : Prop where
  h : t.isHole = false
  e : fz t = t'
  h' : t'.isHole = false
  f : fz t' = t'
  x : noX t' = true
theorem Fz.var {σ : List T} {t t' : T} {i : Nat} (f : Fz t t') (h : σ[i]? = some t) : fVar i σ = .ok t' (σ.set i t') := by
  rw [z_fVar, h]
  simp only [f.h, f.e, Bool.false_eq_true, if_false]
theorem Fz.lst {l l' : List T} (h : fzs l = l') (h2 : fzs l' = l') (x : noXs l' = true) : Fz (.own l) (.lst l') := ⟨rfl, by simp [h], rfl, by simp, by simpa only [noX] using x⟩
theorem Fz.row (l : List Rat) : Fz (.lst (R l)) (.lst (R l)) := ⟨rfl, by simp, rfl, by simp, by simp only [noX, noXs_R]⟩
theorem Fz.v (c : V) : Fz (.v c) (.v c) := ⟨rfl, by simp, rfl, by simp, by simp only [noX]⟩
theorem fzs_app2 (l m : List T) : fzs (l ++ m) = fzs l ++ fzs m := by simp [fzs_map]
theorem ne_ints (l : List Int) : fNe (.own (l.map fun i => T.v (.int i))) (.own (l.map fun i => T.v (.int i))) = some (.v (.bl false)) := fNe_same (Nc.own (Ncs.ints l)) (by decide) rfl
end MV
namespace G
open PySem PySem.Spec PyProof.Rows L2 MV
theorem ne_one (p : Int) : fNe (.own [.v (.int p)]) (.own [.v (.int p)]) = some (.v (.bl false)) := ne_ints [p]
theorem cat_ok (l : List Rat) (t : T) (hl : l.length ≤ 1000) (ht : fz t = t) : sCatL (.lst (R l)) (.own [t]) = some (.own (R l ++ [t])) := by
  unfold sCatL
  have : szB ((R l).length + [t].length) = true := szB_of (by simp; omega)
  simp only [lstL, this, if_true, fzs_R, fzs, ht]
end G

namespace MV
open PySem PySem.Spec PyProof.Rows L2
theorem lend_ok {i : Nat} {m : List T → FRes} {g : List T → Res (List T)} {σ ts : List T} {t0 t b : T} (h : σ[i]? = some t0) (hh : t0.isHole = false) (hg : g (σ.set i .hole) = .ok ts (σ.set i .hole)) (hm : m (t0 :: ts) = .ok t b) : mLend i m g σ = .ok t (σ.set i b) := by
  have hl : i < σ.length := (List.getElem?_eq_some_iff.mp h).1
  unfold mLend
  rw [h]
  simp only [hh, Bool.false_eq_true, if_false, hg, z_bind_ok, List.length_set, hl, if_true, hm, List.set_set]
theorem fn_rtB {N : Nat} {b : List T → SRes} {ts σ : List T} {t v : T} (h : b (ts ++ List.replicate (N - ts.length) .hole) = .rt t σ) (hv : σ[0]? = some v) : mFn N true b ts = .ok t v := by
  unfold mFn
  rw [h]
  simp only [lentT, if_true, hv]
theorem lcL_ex {w : T → List T → Option (List T)} {te : List T → Res T} {vs : List Nat} : ∀ (items : List T) (P : Nat → List T → Prop) (E : T → Prop) (σ : List T), P 0 σ →
    (∀ k σ (h : k < items.length), P k σ → ∃ σ1 u σ2, w items[k] (wipeT σ vs) = some σ1 ∧ te σ1 = .ok u σ2 ∧ E u ∧ P (k + 1) σ2) → ∃ us σ', lcL w mYes te vs items σ = some (us, σ') ∧ us.length = items.length ∧ (∀ u ∈ us, E u) ∧ P items.length σ'
  | [], P, E, σ, h0, h => ⟨[], σ, rfl, rfl, by simp, h0⟩
  | t :: r, P, E, σ, h0, h => by
    obtain ⟨σ1, u, σ2, h1, h2, h3, h4⟩ := h 0 σ (by simp) h0
    obtain ⟨us, σ', e, l, a, p⟩ := lcL_ex r (fun k => P (k + 1)) E σ2 h4 fun k σ hk hp => by
      have := h (k + 1) σ (by simpa using hk) hp
      simpa using this
    refine ⟨u :: us, σ', ?_, by simp [l], fun v hv => (List.mem_cons.mp hv).elim (fun e => e ▸ h3) (a v), by simpa using p⟩
    simp only [lcL, List.getElem_cons_zero] at h1 h2 ⊢
    rw [h1]
    simp only [mYes, h2, e]
theorem R_of : ∀ us : List T, (∀ u ∈ us, ∃ r, u = qT r ∧ Bd 50 3 r) → ∃ l : List Rat, us = R l ∧ l.length = us.length ∧ ∀ r ∈ l, Bd 50 3 r
  | [], _ => ⟨[], rfl, rfl, by simp⟩
  | u :: us, h => by
    obtain ⟨r, e, b⟩ := h u (by simp)
    obtain ⟨l, e2, hl, b2⟩ := R_of us fun v hv => h v (by simp [hv])
    subst e e2
    exact ⟨r :: l, rfl, by simp, fun s hs => (List.mem_cons.mp hs).elim (fun e => e ▸ b) (b2 s)⟩
theorem Rb_of {l : List Rat} {n d : Nat} (h : ∀ r ∈ l, Bd n d r) : Rb n d l := fun k => by
  by_cases z : k < l.length
  · rw [gR_of z]; exact h _ (List.getElem_mem z)
  · have : gR l k = 0 := by simp [gR, List.getD, z]
    rw [this]; exact Bd.zero
theorem OO_of {w : Nat} : ∀ us : List T, (∀ u ∈ us, ∃ l : List Rat, u = .own (R l) ∧ l.length = w ∧ Rb 50 3 l) → ∃ rows : List (List Rat), us = OO rows ∧ rows.length = us.length ∧ ∀ l ∈ rows, l.length = w ∧ Rb 50 3 l
  | [], _ => ⟨[], rfl, rfl, by simp⟩
  | u :: us, h => by
    obtain ⟨r, e, b⟩ := h u (by simp)
    obtain ⟨l, e2, hl, b2⟩ := OO_of us fun v hv => h v (by simp [hv])
    subst e e2
    exact ⟨r :: l, rfl, by simp, fun s hs => (List.mem_cons.mp hs).elim (fun e => e ▸ b) (b2 s)⟩
end MV
namespace G
open PySem PySem.Spec PyProof.Rows L2 MV
theorem tk_is : m__law_take = tkF := rfl
theorem dr_is : m__law_draws = drF := rfl
theorem take_ok {σ : List T} {ds : List Int} {i : Nat} {n : Int} {g : List T → Res T} (h : σ[i]? = some (Drw ds)) (hg : ∀ σ, g σ = .ok (.v (.int n)) σ) (hn : 0 < n) (hd : MV.Pos ds) : ∃ r ds', mLend i m__law_take (mCons g mNil) σ = .ok (.v (.int r)) (σ.set i (Drw ds')) ∧ 0 ≤ r ∧ r < n ∧ MV.Pos ds' := by
  obtain ⟨r, ds', e, h1, h2, h3⟩ := tk_ok hn hd
  rw [← tk_is] at e
  exact ⟨r, ds', lend_ok h rfl (cons_ok (hg _) z_nil) e, h1, h2, h3⟩
theorem small_bd {a b : Int} (ha : a.natAbs ≤ 8) (hb : b.natAbs ≤ 8) : Bd 50 3 (Rat.divInt a b) := by
  have e : (2 : Nat) ^ 3 = 8 := by decide
  refine divInt_bd (Lt2.mono (n := 3) ?_ (by decide)) ?_
  · show a.natAbs ≤ 2 ^ 3
    omega
  · show b.natAbs ≤ 2 ^ 3
    omega
theorem x_any {ds : List Int} (hd : MV.Pos ds) : ∃ r ds', m__law_any [Drw ds] = .ok (qT r) (Drw ds') ∧ Bd 50 3 r ∧ MV.Pos ds' := by
  obtain ⟨r1, ds1, e1, a1, a2, p1⟩ := take_ok (σ := [Drw ds]) (i := 0) (g := mC (.v (.int 8))) rfl (fun _ => z_c) (by decide) hd
  obtain ⟨r2, ds2, e2, b1, b2, p2⟩ := take_ok (σ := [Drw ds1]) (i := 0) (g := mC (.v (.int 3))) rfl (fun _ => z_c) (by decide) p1
  have lp := x_lpair (a := r1 - 3) (b := 1 + r2) (n := 3) (by omega) (by
    have e : (2 : Nat) ^ 3 = 8 := by decide
    show (1 + r2).natAbs ≤ 2 ^ 3
    omega) (by omega)
  refine ⟨Rat.divInt (r1 - 3) (1 + r2), ds2, fn_rtB (σ := [Drw ds2]) ?_ rfl, small_bd (by omega) (by omega), p2⟩
  show b__law_any [Drw ds] = _
  unfold b__law_any
  have x1 : mOp2 sSub (mLend 0 m__law_take (mCons (mC (.v (.int 8))) mNil)) (mC (.v (.int 3))) [Drw ds] = .ok (.v (.int (r1 - 3))) [Drw ds1] := by
    rw [z_op2, e1]
    simp [sub_intT]
  have x2 : mOp2 sPlus (mC (.v (.int 1))) (mLend 0 m__law_take (mCons (mC (.v (.int 3))) mNil)) [Drw ds1] = .ok (.v (.int (1 + r2))) [Drw ds2] := by
    rw [z_op2, z_c, z_bind_ok, e2]
    simp [plus_int]
  rw [z_ret, call_ok (cons_ok x1 (cons_ok x2 z_nil)) lp, z_sbind_ok]
theorem pow_ok : sPow (.v (.int 10)) (.v (.int 15)) = some (.v (.int 1000000000000000)) := rfl
theorem x_signed {ds : List Int} (hd : MV.Pos ds) : ∃ r ds', m__law_signed [Drw ds] = .ok (qT r) (Drw ds') ∧ Bd 50 3 r ∧ MV.Pos ds' := by
  obtain ⟨w, ds1, e1, a1, a2, p1⟩ := take_ok (σ := [Drw ds, .hole]) (i := 0) (g := mC (.v (.int 12))) rfl (fun _ => z_c) (by decide) hd
  have q0 : (T.tup [.v (.int 0), .v (.int 1)]) = qT 0 := rfl
  have s1 : mAsg (mLend 0 m__law_take (mCons (mC (.v (.int 12))) mNil)) (fN 1) [Drw ds, .hole] = .nx [Drw ds1, .v (.int w)] := by
    rw [z_asg, e1]
    simp
  have v1 : ∀ ds, fVar 1 [Drw ds, .v (.int w)] = .ok (.v (.int w)) [Drw ds, .v (.int w)] := fun ds => var_ok rfl
  by_cases c1 : w < 4
  · refine ⟨0, ds1, fn_rtB (σ := [Drw ds1, .v (.int w)]) ?_ rfl, Bd.zero, p1⟩
    show b__law_signed [Drw ds, .hole] = _
    unfold b__law_signed
    have s2 : mIf (mBl (mOp2 sLt (fVar 1) (mC (.v (.int 4))))) (mRet (mTup (mCons (mC (.v (.int 0))) (mCons (mC (.v (.int 1))) mNil)))) .nx [Drw ds1, .v (.int w)] = .rt (qT 0) [Drw ds1, .v (.int w)] := by
      rw [z_if, z_bl, z_op2, v1]
      simp [sLt, iOp, c1, szB, q0]
    rw [z_seq, s1, z_seq_nx, z_seq, s2, z_seq_rt]
  · have s2 : mIf (mBl (mOp2 sLt (fVar 1) (mC (.v (.int 4))))) (mRet (mTup (mCons (mC (.v (.int 0))) (mCons (mC (.v (.int 1))) mNil)))) .nx [Drw ds1, .v (.int w)] = .nx [Drw ds1, .v (.int w)] := by
      rw [z_if, z_bl, z_op2, v1]
      simp [sLt, iOp, c1]
    by_cases c2 : w = 11
    · obtain ⟨r2, ds2, e2, b1, b2, p2⟩ := take_ok (σ := [Drw ds1, .v (.int w)]) (i := 0) (g := mC (.v (.int 60))) rfl (fun _ => z_c) (by decide) p1
      have l7 : Lt2 (7 : Int).natAbs 3 := by
        show 7 ≤ 2 ^ 3
        decide
      have lp := x_lpair (a := 1000000000000000 + r2) (b := 7) (n := 3) (by decide) l7 (by omega)
      refine ⟨Rat.divInt (1000000000000000 + r2) 7, ds2, fn_rtB (σ := [Drw ds2, .v (.int w)]) ?_ rfl, divInt_bd ?_ l7, p2⟩
      · show b__law_signed [Drw ds, .hole] = _
        unfold b__law_signed
        have x1 : mOp2 sPlus (mOp2 sPow (mC (.v (.int 10))) (mC (.v (.int 15)))) (mLend 0 m__law_take (mCons (mC (.v (.int 60))) mNil)) [Drw ds1, .v (.int w)] = .ok (.v (.int (1000000000000000 + r2))) [Drw ds2, .v (.int w)] := by
          rw [z_op2, z_op2]
          simp only [z_c, z_bind_ok, pow_ok]
          rw [e2]
          simp [plus_int]
        have s3 : mIf (mBl (mOp2 fEq (fVar 1) (mC (.v (.int 11))))) (mRet (mCall m__law_pair (mCons (mOp2 sPlus (mOp2 sPow (mC (.v (.int 10))) (mC (.v (.int 15)))) (mLend 0 m__law_take (mCons (mC (.v (.int 60))) mNil))) (mCons (mC (.v (.int 7))) mNil)))) .nx [Drw ds1, .v (.int w)] = .rt (qT (Rat.divInt (1000000000000000 + r2) 7)) [Drw ds2, .v (.int w)] := by
          rw [z_if, z_bl, z_op2, v1]
          simp only [z_bind_ok, z_c, fEq, c2, decide_true, z_sbind_ok, if_true]
          rw [c2] at x1
          rw [z_ret, call_ok (cons_ok x1 (cons_ok z_c z_nil)) lp, z_sbind_ok]
        rw [z_seq, s1, z_seq_nx, z_seq, s2, z_seq_nx, z_seq, s3, z_seq_rt]
      · have e : (2 : Nat) ^ 50 = 1125899906842624 := by decide
        show (1000000000000000 + r2).natAbs ≤ 2 ^ 50
        rw [e]
        omega
    · obtain ⟨r, ds2, e2, b, p2⟩ := x_any p1
      refine ⟨r, ds2, fn_rtB (σ := [Drw ds2, .v (.int w)]) ?_ rfl, b, p2⟩
      show b__law_signed [Drw ds, .hole] = _
      unfold b__law_signed
      have s3 : mIf (mBl (mOp2 fEq (fVar 1) (mC (.v (.int 11))))) (mRet (mCall m__law_pair (mCons (mOp2 sPlus (mOp2 sPow (mC (.v (.int 10))) (mC (.v (.int 15)))) (mLend 0 m__law_take (mCons (mC (.v (.int 60))) mNil))) (mCons (mC (.v (.int 7))) mNil)))) .nx [Drw ds1, .v (.int w)] = .nx [Drw ds1, .v (.int w)] := by
        rw [z_if, z_bl, z_op2, v1]
        simp [fEq, c2]
      have le := lend_ok (σ := [Drw ds1, .v (.int w)]) (i := 0) (g := mNil) rfl rfl z_nil e2
      rw [z_seq, s1, z_seq_nx, z_seq, s2, z_seq_nx, z_seq, s3, z_seq_nx, z_ret, le, z_sbind_ok]
      all_goals rfl
theorem x_size {ds : List Int} (hd : MV.Pos ds) : ∃ (k : Nat) (ds' : List Int), m__law_size [Drw ds, .v (.int 4)] = .ok (.v (.int ((k : Nat) : Int))) (Drw ds') ∧ 1 ≤ k ∧ k ≤ 4 ∧ MV.Pos ds' := by
  obtain ⟨r, ds1, e1, a1, a2, p1⟩ := take_ok (σ := [Drw ds, .v (.int 4)]) (i := 0) (g := mC (.v (.int 6))) rfl (fun _ => z_c) (by decide) hd
  let M : List T := [.v (.int 2), .v (.int 1), .v (.int 2), .v (.int 0), .v (.int 3), .v (.int 1)]
  have ls : mLst (mCons (mC (.v (.int 2))) (mCons (mC (.v (.int 1))) (mCons (mC (.v (.int 2))) (mCons (mC (.v (.int 0))) (mCons (mC (.v (.int 3))) (mCons (mC (.v (.int 1))) mNil)))))) [Drw ds, .v (.int 4)] = .ok (.own M) [Drw ds, .v (.int 4)] := by simp [szB, M]
  have key : ∃ k : Nat, ∃ j : Int, sIx (.own M) (.v (.int r)) = some (.v (.int j)) ∧ 1 + j % 4 = ((k : Nat) : Int) ∧ 1 ≤ k ∧ k ≤ 4 := by
    have : r = 0 ∨ r = 1 ∨ r = 2 ∨ r = 3 ∨ r = 4 ∨ r = 5 := by omega
    rcases this with rfl | rfl | rfl | rfl | rfl | rfl
    · exact ⟨3, 2, rfl, rfl, by omega, by omega⟩
    · exact ⟨2, 1, rfl, rfl, by omega, by omega⟩
    · exact ⟨3, 2, rfl, rfl, by omega, by omega⟩
    · exact ⟨1, 0, rfl, rfl, by omega, by omega⟩
    · exact ⟨4, 3, rfl, rfl, by omega, by omega⟩
    · exact ⟨2, 1, rfl, rfl, by omega, by omega⟩
  obtain ⟨k, j, k1, k2, k3, k4⟩ := key
  refine ⟨k, ds1, fn_rtB (σ := [Drw ds1, .v (.int 4)]) ?_ rfl, k3, k4, p1⟩
  show b__law_size [Drw ds, .v (.int 4)] = _
  unfold b__law_size
  rw [z_ret, z_op2, z_c, z_bind_ok, z_op2, z_callB, z_cons, z_op2, ls, z_bind_ok, e1]
  have v1 : fVar 1 ([Drw ds, .v (.int 4)].set 0 (Drw ds1)) = .ok (.v (.int 4)) [Drw ds1, .v (.int 4)] := var_ok rfl
  have md : modB j 4 = true := rfl
  simp only [z_bind_ok, z_fIx, k1, z_nil, sInt]
  rw [v1]
  simp only [z_bind_ok, sMod, iOp, md, if_true, Option.map_some, plus_int, k2, z_sbind_ok]
/-- a row is drawn -/
theorem row_drawn {σ : List T} {ds : List Int} {c n : Nat} {it : List T → Res (List T)} (h : σ[1]? = some (Drw ds)) (hd : MV.Pos ds) (hc : c ≠ 1) (hl : c < σ.length) (hi : it σ = .ok (intsFrom 0 n) σ) (hn : n ≤ 1000) :
    ∃ l ds' v, mLc it (fN c) mYes (mLend 1 m__law_signed mNil) [c] σ = .ok (.own (R l)) ((σ.set 1 (Drw ds')).set c v) ∧ l.length = n ∧ Rb 50 3 l ∧ MV.Pos ds' := by
  have l1 : 1 < σ.length := (List.getElem?_eq_some_iff.mp h).1
  obtain ⟨us, σ', e, hl', a, ds2, v, hs, p2⟩ := lcL_ex (w := fN c) (te := mLend 1 m__law_signed mNil) (vs := [c]) (intsFrom 0 n) (fun _ τ => ∃ ds v, τ = (σ.set 1 (Drw ds)).set c v ∧ MV.Pos ds) (fun u => ∃ r, u = qT r ∧ Bd 50 3 r) σ ⟨ds, σ[c], by
      have e1 : σ.set 1 (Drw ds) = σ := get_set h
      rw [e1]
      exact (get_set (List.getElem?_eq_getElem hl)).symm, hd⟩ fun k τ hk hp => by
    obtain ⟨ds, v, rfl, hd⟩ := hp
    obtain ⟨r, ds', e, b, p⟩ := x_signed hd
    have g1 : ((σ.set 1 (Drw ds)).set c (.v (.int (0 + ((k : Nat) : Int)))))[1]? = some (Drw ds) := by
      rw [List.getElem?_set_ne hc]
      simp [l1]
    refine ⟨(σ.set 1 (Drw ds)).set c (.v (.int (0 + ((k : Nat) : Int)))), qT r, ((σ.set 1 (Drw ds)).set c (.v (.int (0 + ((k : Nat) : Int))))).set 1 (Drw ds'), ?_, lend_ok g1 rfl z_nil e, ⟨r, rfl, b⟩, ds', .v (.int (0 + ((k : Nat) : Int))), ?_, p⟩
    · rw [intsFrom_get]
      simp [wipeT, hl]
    · rw [List.set_comm _ _ hc, List.set_set]
  obtain ⟨l, rfl, ll, b⟩ := R_of us a
  have lc := lc_ok hi (by rw [intsFrom_len]; omega) e
  rw [hs] at lc
  refine ⟨l, ds2, (match σ[c]? with | some t => keepT t | none => .hole), ?_, by rw [ll, hl', intsFrom_len], Rb_of b, p2⟩
  · rw [lc]
    simp only [backT, List.set_set]
    all_goals rfl
end G

namespace MV
open PySem PySem.Spec PyProof.Rows L2
/-! ## How large the numbers become -/
def lB : Nat → Nat × Nat
  | 0 => (50, 3)
  | 1 => (110, 59)
  | 2 => (398, 287)
  | _ => (1658, 1259)
theorem gW_none {rows : List (List Rat)} {k : Nat} (h : ¬ k < rows.length) : gW rows k = [] := by simp [gW, List.getD, h]
theorem Rb.nil {n d : Nat} : Rb n d [] := fun k => by
  have : gR [] k = 0 := by simp [gR, List.getD]
  rw [this]; exact Bd.zero
theorem lvl_step {rows : List (List Rat)} {n d : Nat} (h : ∀ k, Rb n d (gW rows k)) : ∀ k, Rb (2 * n + 3 * d + 1) (n + 3 * d) (gW (abv rows) k) := fun k => by
  by_cases z : k < rows.length - 1
  · rw [abv_at z]
    exact (Rb.un (h k) (h _)).mono (by omega) (by omega)
  · rw [gW_none (by rw [abv_len]; exact z)]
    exact Rb.nil
theorem lvl_bd {rows : List (List Rat)} (h : ∀ k, Rb 50 3 (gW rows k)) : ∀ j, j ≤ 3 → ∀ k, Rb (lB j).1 (lB j).2 (gW (lvl rows j) k)
  | 0, _ => h
  | 1, _ => lvl_step h
  | 2, _ => lvl_step (lvl_step h)
  | 3, _ => lvl_step (lvl_step (lvl_step h))
  | j + 4, hj => by omega
def mB : Nat → Nat × Nat
  | 0 => (50, 3)
  | 1 => (50, 3)
  | 2 => (478, 215)
  | 3 => (3038, 1063)
  | _ => (16670, 4455)
theorem md_len {rows : List (List Rat)} : ∀ n k, k < n → (gW (mdT rows n) k).length = (gW rows k).length
  | 0, k, h => by omega
  | n + 1, k, h => by
    simp only [mdT]
    by_cases z : k < n
    · rw [mkR_at (by rw [mdT_len]; exact z), maR_len]
      exact md_len n k z
    · have : k = n := by omega
      subst this
      have := mkR_last (acc := mdT rows k) (line := gW rows k)
      rw [mdT_len] at this
      rw [this]
theorem md_step {rows : List (List Rat)} {n d m : Nat} (hw : ∀ k, (gW rows k).length ≤ 4) (B : ∀ k, Rb 50 3 (gW rows k)) (h : ∀ k, Rb n d (gW (mdT rows m) k)) : ∀ k, Rb (4 * (n + 3 + d + 50 + 1) + 50) (4 * (d + 50) + 3) (gW (mdT rows (m + 1)) k) := fun k => by
  simp only [mdT]
  by_cases z : k < m
  · rw [mkR_at (by rw [mdT_len]; exact z)]
    exact Rb.ma2 (h k) (B m) (by rw [md_len m k z]; exact hw k)
  · by_cases e : k = m
    · subst e
      have := mkR_last (acc := mdT rows k) (line := gW rows k)
      rw [mdT_len] at this
      rw [this]
      exact (B k).mono (by omega) (by omega)
    · rw [gW_none (by simp [mkR, mdT_len]; omega)]
      exact Rb.nil
theorem md_bd {rows : List (List Rat)} (hw : ∀ k, (gW rows k).length ≤ 4) (B : ∀ k, Rb 50 3 (gW rows k)) : ∀ n, n ≤ 4 → ∀ k, Rb (mB n).1 (mB n).2 (gW (mdT rows n) k) := by
  have b1 : ∀ k, Rb 50 3 (gW (mdT rows 1) k) := fun k => by
    simp only [mdT]
    by_cases e : k = 0
    · subst e
      have := mkR_last (acc := []) (line := gW rows 0)
      rw [show (([] : List (List Rat))).length = 0 from rfl] at this
      rw [this]
      exact B 0
    · rw [gW_none (by simp [mkR]; omega)]
      exact Rb.nil
  have b2 := md_step hw B b1
  have b3 := md_step hw B b2
  have b4 := md_step hw B b3
  intro n hn
  match n with
  | 0 =>
    intro k
    rw [gW_none (by simp [mdT])]
    exact Rb.nil
  | 1 => exact b1
  | 2 => exact b2
  | 3 => exact b3
  | 4 => exact b4
  | n + 5 => omega
section
variable {rows : List (List Rat)} {h w : Nat} (z : G.Sz h w rows) (h4 : h ≤ 4) (w4 : w ≤ 4) (B : ∀ k, Rb 50 3 (gW rows k))
include z h4 w4
theorem wid4 : ∀ k, (gW rows k).length ≤ 4 := fun k => by
  by_cases q : k < h
  · rw [z.wid k q]; exact w4
  · rw [gW_none (by rw [z.len]; exact q)]; simp
include B
theorem cap_rows : CapN rows := fun k j => ⟨50, 3, B k j, by omega⟩
theorem cap_u : ∀ j k, k + 1 < h - j → CapU (gW (lvl rows j) k) (lastW (lvl rows j)) := fun j k hk => by
  have hj : j ≤ 2 := by omega
  have b := lvl_bd B j (by omega)
  match j, hj with
  | 0, _ => exact capU_of (b k) (b _) (by decide) (by decide)
  | 1, _ => exact capU_of (b k) (b _) (by decide) (by decide)
  | 2, _ => exact capU_of (b k) (b _) (by decide) (by decide)
theorem cap_core : CapN (coreR rows) := fun k j => by
  by_cases q : k < rows.length
  · rw [coreR_at q]
    have hl := z.len
    have hi : rows.length - 1 - k ≤ 3 := by omega
    refine ⟨_, _, lvl_bd B _ hi k j, ?_⟩
    generalize rows.length - 1 - k = i at *
    match i, hi with
    | 0, _ => decide
    | 1, _ => decide
    | 2, _ => decide
    | 3, _ => decide
  · rw [gW_none (by rw [coreR_len]; exact q)]
    exact ⟨0, 0, Rb.nil (n := 0) (d := 0) j, by omega⟩
theorem cap_mc : ∀ n k, k < n → n < h → CapM (gW (mdT (coreR rows) n) k) (gW (coreR rows) n) := fun n k hk hn => by
  have hl := z.len
  rw [md_core z.wd n (by omega), coreR_at (by omega)]
  have wk : (gW (lvl rows (rows.length - n)) k).length ≤ 4 := by
    rw [z.wd.lvl _ k (by rw [lvl_len]; omega)]; exact w4
  have e : rows.length - n = (rows.length - 1 - n) + 1 := by omega
  have hi : rows.length - 1 - n ≤ 2 := by omega
  rw [e] at wk ⊢
  generalize rows.length - 1 - n = i at *
  have b1 := lvl_bd B (i + 1) (by omega) k
  have b2 := lvl_bd B i (by omega) n
  match i, hi with
  | 0, _ => exact capM_of b1 b2 wk (by decide) (by decide)
  | 1, _ => exact capM_of b1 b2 wk (by decide) (by decide)
  | 2, _ => exact capM_of b1 b2 wk (by decide) (by decide)
theorem cap_mr : ∀ n k, k < n → n < h → CapM (gW (mdT rows n) k) (gW rows n) := fun n k hk hn => by
  have b := md_bd (wid4 z h4 w4) B n (by omega) k
  have wk : (gW (mdT rows n) k).length ≤ 4 := by rw [md_len n k hk]; exact wid4 z h4 w4 k
  have hn3 : n ≤ 3 := by omega
  match n, hn3 with
  | 0, _ => omega
  | 1, _ => exact capM_of b (B _) wk (by decide) (by decide)
  | 2, _ => exact capM_of b (B _) wk (by decide) (by decide)
  | 3, _ => exact capM_of b (B _) wk (by decide) (by decide)
theorem cap_lr : ∀ n k, k < n → n < h → CapL (gW (mdT rows n) k) (gW rows n) := fun n k hk hn => by
  have b := md_bd (wid4 z h4 w4) B n (by omega) k
  have wk : (gW (mdT rows n) k).length ≤ 4 := by rw [md_len n k hk]; exact wid4 z h4 w4 k
  have hn3 : n ≤ 3 := by omega
  match n, hn3 with
  | 0, _ => omega
  | 1, _ => exact capL_of b (B _) wk (by decide) (by decide)
  | 2, _ => exact capL_of b (B _) wk (by decide) (by decide)
  | 3, _ => exact capL_of b (B _) wk (by decide) (by decide)
theorem cap_built : CapN (mdT rows h) := fun k j => by
  refine ⟨_, _, md_bd (wid4 z h4 w4) B h h4 k j, ?_⟩
  match h, h4 with
  | 0, _ => decide
  | 1, _ => decide
  | 2, _ => decide
  | 3, _ => decide
  | 4, _ => decide
theorem cap_ub : ∀ j k, k + 1 < h - j → CapU (gW (lvl (mdT rows h) j) k) (lastW (lvl (mdT rows h) j)) := fun j k hk => by
  have hl := z.len
  have e : lvl (mdT rows h) j = mdT rows (h - j) := by
    have := lvl_md z.wd j (by omega)
    rw [hl] at this
    exact this
  have el : lastW (mdT rows (h - j)) = gW rows (h - j - 1) := by
    unfold lastW
    rw [mdT_len]
    obtain ⟨m, hm⟩ : ∃ m, h - j = m + 1 := ⟨h - j - 1, by omega⟩
    rw [hm]
    simp only [mdT]
    have := mkR_last (acc := mdT rows m) (line := gW rows m)
    rw [mdT_len] at this
    exact this
  rw [e, el]
  have b := md_bd (wid4 z h4 w4) B (h - j) (by omega) k
  have hi : h - j ≤ 4 := by omega
  generalize h - j = i at *
  match i, hi with
  | 0, _ => omega
  | 1, _ => exact capU_of b (B _) (by decide) (by decide)
  | 2, _ => exact capU_of b (B _) (by decide) (by decide)
  | 3, _ => exact capU_of b (B _) (by decide) (by decide)
  | 4, _ => exact capU_of b (B _) (by decide) (by decide)
end
end MV


namespace MV
open PySem PySem.Spec PyProof.Rows L2
theorem frz_ok {σ : List T} {t : T} {i : Nat} (h : σ[i]? = some t) (hh : t.isHole = false := by rfl) : fVar i σ = .ok (fz t) (σ.set i (fz t)) := by
  rw [z_fVar, h]
  simp only [hh, Bool.false_eq_true, if_false]
theorem asgN_ok {σ σ1 : List T} {f : List T → Res T} {t : T} {i : Nat} (h : f σ = .ok t σ1) (hi : i < σ1.length) : mAsg f (fN i) σ = .nx (σ1.set i t) := by
  rw [z_asg, h]
  simp [hi]
theorem asgw_ok {σ σ1 : List T} {f : List T → Res T} {t : T} {i : Nat} (h : f σ = .ok t σ1) (hi : i < σ1.length) : mAsg f (wN i) σ = .nx (σ1.set i t) := by
  rw [z_asg, h]
  simp [wN, hi]
theorem if_or2 {σ σ1 σ2 : List T} {f g : List T → Res T} {r : List T → SRes} (h1 : f σ = .ok (.v (.bl true)) σ1) (h2 : g σ1 = .ok (.v (.bl true)) σ2) : mIf (mOr (mNot (mTru f)) (mNot (mTru g))) r .nx σ = .nx σ2 := by
  rw [z_if, z_or, z_not, z_tru, h1]
  simp only [z_bind_ok, z_trB, Bool.not_true, Bool.false_eq_true, if_false]
  rw [z_not, z_tru, h2]
  simp
theorem if_n1 {σ σ1 : List T} {f : List T → Res T} {r : List T → SRes} (h1 : f σ = .ok (.v (.bl true)) σ1) : mIf (mNot (mTru f)) r .nx σ = .nx σ1 := by
  rw [z_if, z_not, z_tru, h1]
  simp
theorem and2_ok {σ σ1 σ2 : List T} {f g : List T → Res T} (h1 : f σ = .ok (.v (.bl true)) σ1) (h2 : g σ1 = .ok (.v (.bl true)) σ2) : mAndV f g σ = .ok (.v (.bl true)) σ2 := by
  rw [z_andV, z_bl, h1]
  simp only [z_bind_ok, if_true]
  exact h2
theorem op2_run {σ σ1 σ2 : List T} {f g : List T → Res T} {s : OS} {t u w : T} (h1 : f σ = .ok t σ1) (h2 : g σ1 = .ok u σ2) (h3 : s t u = some w) : mOp2 s f g σ = .ok w σ2 := by
  rw [z_op2, h1, z_bind_ok, h2, z_bind_ok, h3]
/-- a table's fields, by a slot -/
def TabIs (t : T) (rows : List (List Rat)) : Prop := t = tabT rows ∨ t = tabO rows
theorem TabIs.fld {t : T} {rows : List (List Rat)} (ht : TabIs t rows) {σ : List T} {i : Nat} (h : σ[i]? = some t) : mFldN "Table" "rows" i σ = .ok (.tup (RR rows)) σ := by
  rcases ht with rfl | rfl <;> simp [h, objT, fldT, tabL, T.flat]
theorem TabIs.high {t : T} {rows : List (List Rat)} (ht : TabIs t rows) {σ : List T} {i : Nat} (h : σ[i]? = some t) : mFldN "Table" "high" i σ = .ok (.v (.int ((rows.length : Nat) : Int))) σ := by
  have d1 : ¬ (Str.ofString "rows" = Str.ofString "high") := by decide
  rcases ht with rfl | rfl <;> simp [h, objT, fldT, tabL, T.flat, d1]
theorem TabIs.wide {t : T} {rows : List (List Rat)} (ht : TabIs t rows) {σ : List T} {i : Nat} (h : σ[i]? = some t) : mFldN "Table" "wide" i σ = .ok (.v (.int (((gW rows 0).length : Nat) : Int))) σ := by
  have d1 : ¬ (Str.ofString "rows" = Str.ofString "wide") := by decide
  have d2 : ¬ (Str.ofString "high" = Str.ofString "wide") := by decide
  rcases ht with rfl | rfl <;> simp [h, objT, fldT, tabL, T.flat, d1, d2]
theorem TabIs.frz {t : T} {rows : List (List Rat)} (ht : TabIs t rows) {σ : List T} {i : Nat} (h : σ[i]? = some t) : fVar i σ = .ok (tabT rows) (σ.set i (tabT rows)) := by
  rcases ht with rfl | rfl
  · have := frz_ok h rfl
    rw [show fz (tabT rows) = tabT rows by simp] at this
    exact this
  · have := frz_ok h rfl
    rw [fz_tabO] at this
    exact this
/-- an index of a list of rows, from the front -/
theorem ix_rows {rows : List (List Rat)} {k : Nat} (h : k < rows.length) : fIx (.tup (RR rows)) (.v (.int ((k : Nat) : Int))) = some (.tup (R (gW rows k))) := by
  rw [z_fIx]
  simp [sIx, atI_k, RR_g h]
theorem ix_rows_last {rows : List (List Rat)} (h : 0 < rows.length) : fIx (.tup (RR rows)) (.v (.int (-1))) = some (.tup (R (lastW rows))) := by
  rw [z_fIx]
  simp only [sIx]
  rw [atI_last _ (by rw [RR_len]; exact h)]
  simp only [RR_len]
  rw [RR_g (by omega)]
  all_goals rfl
/-! ## Corners -/
def crn (rows : List (List Rat)) (r c : Nat) : List (List Rat) := (rows.drop r).map (List.drop c)
theorem crn_len (rows : List (List Rat)) (r c : Nat) : (crn rows r c).length = rows.length - r := by simp [crn]
theorem crn_at {rows : List (List Rat)} {r c k : Nat} (h : k < rows.length - r) : gW (crn rows r c) k = (gW rows (r + k)).drop c := by
  have h2 : r + k < rows.length := by omega
  simp [crn, gW, List.getD, h2]
theorem gR_drop {l : List Rat} {c k : Nat} : gR (l.drop c) k = gR l (c + k) := by
  simp [gR, List.getD, List.getElem?_drop]
theorem nxF_drop {b : List Rat} {c k : Nat} : nxF (b.drop c) k = (nxF b (c + k)).map (· - c) := by
  cases h : nxF b (c + k) with
  | none =>
    have hn := nxF_none h
    cases h2 : nxF (b.drop c) k with
    | none => rfl
    | some j =>
      obtain ⟨a1, a2, a3, _⟩ := nxF_some h2
      rw [gR_drop] at a3
      exact absurd (hn (c + j) (by omega)) a3
  | some j =>
    obtain ⟨a1, a2, a3, a4⟩ := nxF_some h
    have e : c + (j - c) = j := by omega
    cases h2 : nxF (b.drop c) k with
    | none =>
      have := nxF_none h2 (j - c) (by omega)
      rw [gR_drop, e] at this
      exact absurd this a3
    | some i =>
      obtain ⟨b1, b2, b3, b4⟩ := nxF_some h2
      rw [gR_drop] at b3
      have : i = j - c := by
        rcases Nat.lt_trichotomy i (j - c) with q | q | q
        · exact absurd (a4 (c + i) (by omega) (by omega)) b3
        · exact q
        · have := b4 (j - c) (by omega) q
          rw [gR_drop, e] at this
          exact absurd this a3
      simp [this]
theorem unAt_drop {x b : List Rat} {c k : Nat} : unAt (x.drop c) (b.drop c) k = unAt x b (c + k) := by
  unfold unAt
  rw [gR_drop, gR_drop, nxF_drop]
  split
  · rfl
  · cases h : nxF b (c + k) with
    | none => rfl
    | some j =>
      obtain ⟨a1, _⟩ := nxF_some h
      have e : c + (j - c) = j := by omega
      simp only [Option.map_some, gR_drop, e]
theorem unR_drop {x b : List Rat} {c : Nat} : unR (x.drop c) (b.drop c) = (unR x b).drop c := by
  apply row_ext (by simp [unR_len])
  intro k hk
  rw [unR_len, List.length_drop] at hk
  rw [unR_at (by simpa using hk), gR_drop, unR_at (by omega), unAt_drop]
theorem lastW_crn {rows : List (List Rat)} {r c : Nat} (h : r < rows.length) : lastW (crn rows r c) = (lastW rows).drop c := by
  unfold lastW
  rw [crn_len, crn_at (by omega)]
  congr 2
  omega
theorem abv_crn {rows : List (List Rat)} {r c : Nat} (h : r < rows.length) : abv (crn rows r c) = crn (abv rows) r c := by
  apply rows_ext
  · rw [abv_len, crn_len, crn_len, abv_len]; omega
  · intro k hk
    rw [abv_len, crn_len] at hk
    rw [abv_at (by rw [crn_len]; exact hk), crn_at (by omega), lastW_crn h, unR_drop, crn_at (by rw [abv_len]; omega), abv_at (by omega)]
theorem lvl_crn {rows : List (List Rat)} {r c : Nat} : ∀ n, n + r < rows.length → lvl (crn rows r c) n = crn (lvl rows n) r c
  | 0, _ => rfl
  | n + 1, h => by
    simp only [lvl]
    rw [lvl_crn n (by omega), abv_crn (by rw [lvl_len]; omega)]
theorem core_crn {rows : List (List Rat)} {r c : Nat} : coreR (crn rows r c) = crn (coreR rows) r c := by
  apply rows_ext
  · rw [coreR_len, crn_len, crn_len, coreR_len]
  · intro k hk
    rw [coreR_len, crn_len] at hk
    rw [coreR_at (by rw [crn_len]; exact hk), crn_len, lvl_crn _ (by omega), crn_at (by rw [lvl_len]; omega), crn_at (by rw [coreR_len]; exact hk), coreR_at (by omega)]
    congr 3
    omega
theorem Rb.drop {n d c : Nat} {l : List Rat} (h : Rb n d l) : Rb n d (l.drop c) := fun k => by
  rw [gR_drop]; exact h _
theorem crn_Rb {rows : List (List Rat)} {n d r c : Nat} (B : ∀ k, Rb n d (gW rows k)) : ∀ k, Rb n d (gW (crn rows r c) k) := fun k => by
  by_cases q : k < rows.length - r
  · rw [crn_at q]; exact (B _).drop
  · rw [gW_none (by rw [crn_len]; exact q)]
    exact Rb.nil
theorem cut_from {α : Type} (l : List α) (k : Nat) : cutG l (some ((k : Nat) : Int)) none = l.drop k := by
  have e : ¬ (((k : Nat) : Int) < 0) := by omega
  unfold cutG HT.sIx
  simp [e]
  by_cases h : k ≤ l.length
  · rw [Nat.min_eq_left h, List.take_of_length_le (by simp)]
  · rw [Nat.min_eq_right (by omega)]
    simp
    omega
theorem cut_to {α : Type} (l : List α) (k : Nat) : cutG l none (some ((k : Nat) : Int)) = l.take k := by
  have e : ¬ (((k : Nat) : Int) < 0) := by omega
  unfold cutG HT.sIx
  simp [e]
theorem R_drop (l : List Rat) (c : Nat) : (R l).drop c = R (l.drop c) := by simp [R]
theorem R_take (l : List Rat) (c : Nat) : (R l).take c = R (l.take c) := by simp [R]
theorem RR_drop (rows : List (List Rat)) (r : Nat) : (RR rows).drop r = RR (rows.drop r) := by simp [RR]
theorem LL_drop (rows : List (List Rat)) (r : Nat) : (LL rows).drop r = LL (rows.drop r) := by simp [LL]
theorem gW_drop {rows : List (List Rat)} {r k : Nat} : gW (rows.drop r) k = gW rows (r + k) := by
  simp [gW, List.getD, List.getElem?_drop]
end MV
namespace G
open PySem PySem.Spec PyProof.Rows L2 MV
theorem Sz.lvl {h w : Nat} {rows : List (List Rat)} (z : Sz h w rows) {n : Nat} (hn : n < h) : Sz (h - n) w (lvl rows n) := ⟨by rw [lvl_len, z.len], fun k hk => z.wd.lvl n k (by rw [lvl_len, z.len]; exact hk), by omega, by have := z.h2; omega, z.w1, z.w2⟩
theorem Sz.abv {h w : Nat} {rows : List (List Rat)} (z : Sz h w rows) (h2 : 2 ≤ h) : Sz (h - 1) w (abv rows) := z.lvl (n := 1) (by omega)
theorem Sz.crn {h w r c : Nat} {rows : List (List Rat)} (z : Sz h w rows) (hr : r < h) (hc : c < w) : Sz (h - r) (w - c) (crn rows r c) := ⟨by rw [crn_len, z.len], fun k hk => by
  have := z.len
  rw [crn_at (by omega), List.length_drop, z.wid _ (by omega)], by omega, by have := z.h2; omega, by omega, by have := z.w2; omega⟩
theorem x_row_at {i j : Int} (h0 : 0 ≤ i) (h1 : i < j) : m_row_at [.v (.int i), .v (.int j)] = .ok (.v (.int i)) .hole := by
  apply fn_rt (σ := [.hole, .v (.int j)])
  show b_row_at [.v (.int i), .v (.int j)] = _
  simp [b_row_at, x_is_place, h0, h1, mRetM]
theorem x_row_no {i j : Int} (h : ¬ (0 ≤ i ∧ i < j)) : m_row_at [.v (.int i), .v (.int j)] = .exc "BadBox" ["row", "column"] [.v (.int i), .v (.int (-1))] .hole := by
  apply fn_exc (σ := [.v (.int i), .v (.int j)])
  have : (decide (0 ≤ i) && decide (i < j)) = false := by simpa using h
  simp [b_row_at, x_is_place, this, mRetM]
noncomputable def le0 : List T → SRes := (mEx (mCall m_row_at (mCons (fVar 1) (mCons (mFldN "Table" "high" 0) mNil))))
noncomputable def le1 : List T → SRes := (mAsg (mCallB sList (mCons (mFldN "Table" "rows" 0) mNil)) (fN 2))
noncomputable def le2b : List T → SRes := (mAsg (mCall m_rows_above (mCons (fVar 2) mNil)) (fN 2))
noncomputable def le2 : List T → SRes := whL (mBl (mOp2 sGt (mLenN 2) (mOp2 sPlus (fVar 1) (mC (.v (.int 1)))))) le2b 4000
noncomputable def le3 : List T → SRes := (mRet (mMake "Table" m_Table___init__ (mCons (fVar 2) mNil)))
theorem le_split : b_level = mSeq le0 (mSeq le1 (mSeq le2 le3)) := rfl
noncomputable def cr0 : List T → SRes := (mRet (mOp2 fIx (mFld "Table" "rows" (mCall m_level (mCons (fVar 0) (mCons (fVar 1) mNil)))) (fVar 1)))
theorem cr_split : b_core_row = cr0 := rfl
noncomputable def lr0 : List T → SRes := (mIf (mBl (mOp2 fEq (mFldN "Table" "high" 0) (mC (.v (.int 1)))))
  (mRaise "TooMany" ["bound"] (mCons (mC (.v (.int 1))) mNil))
  .nx)
noncomputable def lr1 : List T → SRes := (mRet (mTup (mCons (mMake "Table" m_Table___init__ (mCons (mCall m_rows_above (mCons (mFldN "Table" "rows" 0) mNil)) mNil)) (mCons (mOp2 fIx (mFldN "Table" "rows" 0) (mNeg (mC (.v (.int 1))))) mNil))))
theorem lr_split : b_last_round = mSeq lr0 lr1 := rfl
noncomputable def tc0 : List T → SRes := (mIf (mOr (mNot (mTru (mCall m_is_place (mCons (fVar 1) (mCons (mFldN "Table" "high" 0) mNil))))) (mNot (mTru (mCall m_is_place (mCons (fVar 2) (mCons (mFldN "Table" "wide" 0) mNil))))))
  (mRaise "BadBox" ["row", "column"] (mCons (fVar 1) (mCons (fVar 2) mNil)))
  .nx)
noncomputable def tc1 : List T → SRes := (mRet (mMake "Table" m_Table___init__ (mCons (mLc (mItA (mSl (some (fVar 1)) none (mFldN "Table" "rows" 0))) (fN 3) mYes (mSlN (some (fVar 2)) none 3) [3]) mNil)))
theorem tc_split : b_Table_corner = mSeq tc0 tc1 := rfl
theorem x_level {t : T} {rows : List (List Rat)} {h w a : Nat} (ht : TabIs t rows) (z : Sz h w rows) (ha : a < h) (cap : ∀ j k, k + 1 < h - j → CapU (gW (lvl rows j) k) (lastW (lvl rows j))) : m_level [t, .v (.int ((a : Nat) : Int))] = .ok (tabO (lvl rows (h - 1 - a))) .hole := by
  have hl := z.len
  have z1 := z.h1; have z2 := z.h2; have z4 := z.w2
  have s0 : le0 [t, .v (.int ((a : Nat) : Int)), .hole] = .nx [t, .v (.int ((a : Nat) : Int)), .hole] := by
    unfold le0
    rw [z_ex, call_ok (cons_ok (var_ok rfl) (cons_ok (ht.high rfl) z_nil)) (x_row_at (by omega) (by omega)), z_sbind_ok]
  have s1 : le1 [t, .v (.int ((a : Nat) : Int)), .hole] = .nx [t, .v (.int ((a : Nat) : Int)), .own (RR rows)] := by
    unfold le1
    rw [z_asg, z_callB, cons_ok (ht.fld rfl) z_nil]
    simp [sList, seqA, fzs_RR]
  obtain ⟨σ', e, hs⟩ := whL_run (tb := mBl (mOp2 sGt (mLenN 2) (mOp2 sPlus (fVar 1) (mC (.v (.int 1)))))) (body := le2b)
    (fun k σ => σ = [t, .v (.int ((a : Nat) : Int)), .own (RR (lvl rows k))]) (fun σ => σ = [t, .v (.int ((a : Nat) : Int)), .own (RR (lvl rows (h - 1 - a)))]) (h - 1 - a) 4000 [t, .v (.int ((a : Nat) : Int)), .own (RR rows)] (by omega) rfl (fun k σ hk hp => by
      subst hp
      have ll : (lvl rows k).length = h - k := by rw [lvl_len, hl]
      have l1 := len_ok (σ := [t, .v (.int ((a : Nat) : Int)), .own (RR (lvl rows k))]) (i := 2) (n := h - k) rfl rfl (by simp [lenT, seqA, seqL, ll])
      have v1 : fVar 1 [t, .v (.int ((a : Nat) : Int)), .own (RR (lvl rows k))] = .ok (.v (.int ((a : Nat) : Int))) [t, .v (.int ((a : Nat) : Int)), .own (RR (lvl rows k))] := var_ok rfl
      refine ⟨[t, .v (.int ((a : Nat) : Int)), .own (RR (lvl rows k))], _, ?_, ?_, rfl⟩
      · rw [z_bl, z_op2, l1, z_bind_ok, z_op2, v1]
        have : ((a : Nat) : Int) + 1 < ((h - k : Nat) : Int) := by omega
        simp [plus_int, sGt, iOp, this]
      · have ra := x_rows_above (L := lvl rows k) (z.wd.lvl k) (by omega) (by omega) (by omega) (fun j hj => cap k j (by omega))
        unfold le2b
        rw [asgN_ok (call_ok (cons_ok (t := .lst (RR (lvl rows k))) (σ1 := [t, .v (.int ((a : Nat) : Int)), .lst (RR (lvl rows k))]) (by simp [fzs_RR]) z_nil) ra) (by simp)]
        rfl) (fun σ hp => by
      subst hp
      have ll : (lvl rows (h - 1 - a)).length = a + 1 := by rw [lvl_len, hl]; omega
      have l1 := len_ok (σ := [t, .v (.int ((a : Nat) : Int)), .own (RR (lvl rows (h - 1 - a)))]) (i := 2) (n := a + 1) rfl rfl (by simp [lenT, seqA, seqL, ll])
      have v1 : fVar 1 [t, .v (.int ((a : Nat) : Int)), .own (RR (lvl rows (h - 1 - a)))] = .ok (.v (.int ((a : Nat) : Int))) [t, .v (.int ((a : Nat) : Int)), .own (RR (lvl rows (h - 1 - a)))] := var_ok rfl
      refine ⟨_, ?_, rfl⟩
      rw [z_bl, z_op2, l1, z_bind_ok, z_op2, v1]
      simp [plus_int, sGt, iOp])
  subst hs
  have zl := z.lvl (n := h - 1 - a) (by omega)
  refine fn_rt_ex ⟨[t, .v (.int ((a : Nat) : Int)), .lst (RR (lvl rows (h - 1 - a)))], ?_⟩
  show b_level [t, .v (.int ((a : Nat) : Int)), .hole] = _
  rw [le_split, z_seq, s0, z_seq_nx, z_seq, s1, z_seq_nx, z_seq]
  unfold le2 le3
  rw [e, z_seq_nx, z_ret, x_make zl rfl (by simp [fzs_RR]) (Rws.RR _) (cons_ok (t := .lst (RR (lvl rows (h - 1 - a)))) (σ1 := [t, .v (.int ((a : Nat) : Int)), .lst (RR (lvl rows (h - 1 - a)))]) (by simp [fzs_RR]) z_nil), z_sbind_ok]
theorem x_level_no {t : T} {rows : List (List Rat)} {i : Int} (ht : TabIs t rows) (hi : ¬ (0 ≤ i ∧ i < ((rows.length : Nat) : Int))) : m_level [t, .v (.int i)] = .exc "BadBox" ["row", "column"] [.v (.int i), .v (.int (-1))] .hole := by
  apply fn_exc (σ := [t, .v (.int i), .hole])
  show b_level [t, .v (.int i), .hole] = _
  rw [le_split, z_seq]
  unfold le0
  rw [z_ex, call_exc (cons_ok (var_ok rfl) (cons_ok (ht.high rfl) z_nil)) (x_row_no hi)]
  all_goals rfl
theorem x_core_row {rows : List (List Rat)} {h w a : Nat} (z : Sz h w rows) (ha : a < h) (cap : ∀ j k, k + 1 < h - j → CapU (gW (lvl rows j) k) (lastW (lvl rows j))) : m_core_row [tabT rows, .v (.int ((a : Nat) : Int))] = .ok (.tup (R (gW (coreR rows) a))) .hole := by
  have hl := z.len
  refine fn_rt (σ := [tabT rows, .v (.int ((a : Nat) : Int))]) ?_
  show b_core_row [tabT rows, .v (.int ((a : Nat) : Int))] = _
  rw [cr_split]
  unfold cr0
  have f : mFld "Table" "rows" (mCall m_level (mCons (fVar 0) (mCons (fVar 1) mNil))) [tabT rows, .v (.int ((a : Nat) : Int))] = .ok (.tup (RR (lvl rows (h - 1 - a)))) [tabT rows, .v (.int ((a : Nat) : Int))] := by
    rw [z_fld, call_ok (cons_ok (var_ok (t := tabT rows) rfl) (cons_ok (var_ok rfl) z_nil)) (x_level (.inl rfl) z ha cap)]
    simp [objT, fldT, tabL, T.flat]
  rw [z_ret, op2_run f (var_ok rfl) (ix_rows (by rw [lvl_len]; omega)), z_sbind_ok, coreR_at (by omega), hl]
theorem x_core_row_no {rows : List (List Rat)} {i : Int} (hi : ¬ (0 ≤ i ∧ i < ((rows.length : Nat) : Int))) : m_core_row [tabT rows, .v (.int i)] = .exc "BadBox" ["row", "column"] [.v (.int i), .v (.int (-1))] .hole := by
  apply fn_exc (σ := [tabT rows, .v (.int i)])
  show b_core_row [tabT rows, .v (.int i)] = _
  rw [cr_split]
  unfold cr0
  rw [z_ret, z_op2, z_fld, call_exc (cons_ok (var_ok (t := tabT rows) rfl) (cons_ok (var_ok rfl) z_nil)) (x_level_no (.inl rfl) hi)]
  all_goals rfl
theorem x_last_round1 {t : T} {rows : List (List Rat)} (ht : TabIs t rows) (h1 : rows.length = 1) : m_last_round [t] = .exc "TooMany" ["bound"] [.v (.int 1)] .hole := by
  apply fn_exc (σ := [t])
  show b_last_round [t] = _
  rw [lr_split, z_seq]
  unfold lr0
  rw [z_if, z_bl, z_op2, ht.high rfl]
  simp [fEq, h1]
theorem x_last_round {t : T} {rows : List (List Rat)} {h w : Nat} (ht : TabIs t rows) (z : Sz h w rows) (h2 : 2 ≤ h) (cap : ∀ j k, k + 1 < h - j → CapU (gW (lvl rows j) k) (lastW (lvl rows j))) : m_last_round [t] = .ok (.tup [tabT (abv rows), .tup (R (lastW rows))]) .hole := by
  have hl := z.len
  have z2 := z.h2; have z4 := z.w2
  refine fn_rt (σ := [t]) ?_
  show b_last_round [t] = _
  have s0 : lr0 [t] = .nx [t] := by
    unfold lr0
    have : ¬ (h = 1) := by omega
    have : ¬ (((h : Nat) : Int) = 1) := by omega
    rw [z_if, z_bl, z_op2, ht.high rfl]
    simp [fEq, hl, this]
  have mk := x_make (z.abv h2) (t := .own (RR (abv rows))) rfl (by simp [fzs_RR]) (Rws.RR _) (cons_ok (call_ok (cons_ok (ht.fld (σ := [t]) (i := 0) rfl) z_nil) (x_rows_aboveT (.inl rfl) z.wd (by omega) (by omega) (by omega) fun k hk => cap 0 k (by omega))) z_nil)
  have ix : mOp2 fIx (mFldN "Table" "rows" 0) (mNeg (mC (.v (.int 1)))) [t] = .ok (.tup (R (lastW rows))) [t] := op2_run (ht.fld rfl) (by simp) (ix_rows_last (by omega))
  rw [lr_split, z_seq, s0, z_seq_nx]
  unfold lr1
  rw [z_ret, z_tup, cons_ok mk (cons_ok ix z_nil)]
  simp [szB, tabL]
theorem x_corner {t : T} {rows : List (List Rat)} {h w r c : Nat} (ht : TabIs t rows) (z : Sz h w rows) (hr : r < h) (hc : c < w) : m_Table_corner [t, .v (.int ((r : Nat) : Int)), .v (.int ((c : Nat) : Int))] = .ok (tabO (crn rows r c)) .hole := by
  have hl := z.len
  have z1 := z.h1; have z2 := z.h2; have z4 := z.w2
  have w0 := z.wid 0 (by omega)
  have s0 : tc0 [t, .v (.int ((r : Nat) : Int)), .v (.int ((c : Nat) : Int)), .hole] = .nx [t, .v (.int ((r : Nat) : Int)), .v (.int ((c : Nat) : Int)), .hole] := by
    have p1 := x_is_place ((r : Nat) : Int) ((rows.length : Nat) : Int)
    have p2 := x_is_place ((c : Nat) : Int) (((gW rows 0).length : Nat) : Int)
    have e1 : (decide (0 ≤ ((r : Nat) : Int)) && decide (((r : Nat) : Int) < ((rows.length : Nat) : Int))) = true := by simp; omega
    have e2 : (decide (0 ≤ ((c : Nat) : Int)) && decide (((c : Nat) : Int) < (((gW rows 0).length : Nat) : Int))) = true := by simp; omega
    rw [e1] at p1
    rw [e2] at p2
    unfold tc0
    rw [if_or2 (call_ok (cons_ok (var_ok rfl) (cons_ok (ht.high rfl) z_nil)) p1) (call_ok (cons_ok (var_ok rfl) (cons_ok (ht.wide rfl) z_nil)) p2)]
  let us : List T := RR (crn rows r c)
  obtain ⟨σ', e, u, hs⟩ := lcL_rel (w := fN 3) (te := mSlN (some (fVar 2)) none 3) (vs := [3]) (RR (rows.drop r)) (RR (crn rows r c)) (fun _ σ => ∃ u, σ = [t, .v (.int ((r : Nat) : Int)), .v (.int ((c : Nat) : Int)), u]) [t, .v (.int ((r : Nat) : Int)), .v (.int ((c : Nat) : Int)), .hole] (by simp [crn]) ⟨_, rfl⟩ fun k σ hk hk' hp => by
    obtain ⟨u, rfl⟩ := hp
    have hk2 : k < rows.length - r := by simpa using hk
    refine ⟨[t, .v (.int ((r : Nat) : Int)), .v (.int ((c : Nat) : Int)), .tup (R (gW (rows.drop r) k))], [t, .v (.int ((r : Nat) : Int)), .v (.int ((c : Nat) : Int)), .tup (R (gW (rows.drop r) k))], by rw [RR_at]; simp [wipeT], ?_, _, rfl⟩
    rw [RR_at, crn_at hk2, gW_drop]
    unfold mSlN
    simp [cut_from, R_drop, live]
  subst hs
  have it : mItA (mSl (some (fVar 1)) none (mFldN "Table" "rows" 0)) [t, .v (.int ((r : Nat) : Int)), .v (.int ((c : Nat) : Int)), .hole] = .ok (RR (rows.drop r)) [t, .v (.int ((r : Nat) : Int)), .v (.int ((c : Nat) : Int)), .hole] := by
    apply itA_tup
    rw [z_sl, ht.fld rfl]
    simp [cut_from, RR_drop]
  have lc := lc_ok it (by simp; omega) e
  rw [show backT [t, .v (.int ((r : Nat) : Int)), .v (.int ((c : Nat) : Int)), .hole] [t, .v (.int ((r : Nat) : Int)), .v (.int ((c : Nat) : Int)), u] [3] = [t, .v (.int ((r : Nat) : Int)), .v (.int ((c : Nat) : Int)), .hole] from rfl] at lc
  refine fn_rt (σ := [t, .v (.int ((r : Nat) : Int)), .v (.int ((c : Nat) : Int)), .hole]) ?_
  show b_Table_corner [t, .v (.int ((r : Nat) : Int)), .v (.int ((c : Nat) : Int)), .hole] = _
  rw [tc_split, z_seq, s0, z_seq_nx]
  unfold tc1
  rw [z_ret, x_make (z.crn hr hc) (t := .own (RR (crn rows r c))) rfl (by simp [fzs_RR]) (Rws.RR _) (cons_ok lc z_nil), z_sbind_ok]
end G

namespace MV
open PySem PySem.Spec PyProof.Rows L2
theorem fz_OO (rows : List (List Rat)) : fz (.own (OO rows)) = .lst (LL rows) := by simp [fzs_OO]
theorem LL_g {rows : List (List Rat)} {k : Nat} (h : k < rows.length) : (LL rows)[k]? = some (.lst (R (gW rows k))) := by
  rw [List.getElem?_eq_getElem (by simpa using h), LL_at]
theorem noX_tab (rows : List (List Rat)) : noX (tabT rows) = true := by
  have : noXs (RR rows) = true := by
    have key : ∀ l : List (List Rat), noXs (RR l) = true := fun l => by
      induction l with
      | nil => simp [RR, noXs]
      | cons a l ih =>
        simp only [RR, List.map_cons, noXs, noX, noXs_R, Bool.true_and] at ih ⊢
        exact ih
    exact key rows
  simp [noX, noXs, tabL, this]
theorem Nc.rowT (l : List Rat) : Nc 2 (.tup (R l)) := Nc.row l
theorem ix_LL {σ : List T} {rows : List (List Rat)} {i k : Nat} {g : List T → Res T} (h : σ[i]? = some (.lst (LL rows))) (hg : g σ = .ok (.v (.int ((k : Nat) : Int))) σ) (hk : k < rows.length) : fIxN i g σ = .ok (.lst (R (gW rows k))) σ :=
  ix_gen h (.inr rfl) hg (by rw [atI_k, LL_g hk])
theorem ix_LLn {σ : List T} {rows : List (List Rat)} {i : Nat} {n : Int} {g : List T → Res T} (h : σ[i]? = some (.lst (LL rows))) (hg : g σ = .ok (.v (.int n)) σ) (h0 : 0 ≤ n) (hk : n.toNat < rows.length) : fIxN i g σ = .ok (.lst (R (gW rows n.toNat))) σ :=
  ix_LL (k := n.toNat) h (by rw [hg]; congr 3; omega) hk
theorem v_LL {σ : List T} {rows : List (List Rat)} {i : Nat} (h : σ[i]? = some (.lst (LL rows))) : fVar i σ = .ok (.lst (LL rows)) σ := var_ok h rfl (by simp [fzs_Rws (Rws.LL rows)])
theorem lenR {σ σ1 : List T} {l : List Rat} {f : List T → Res T} (h : f σ = .ok (.lst (R l)) σ1) : mCallB sLen (mCons f mNil) σ = .ok (.v (.int ((l.length : Nat) : Int))) σ1 := by
  rw [z_callB, cons_ok h z_nil]
  simp [sLen, lenT, seqA, seqL]
theorem tupR {σ σ1 : List T} {l : List Rat} {f : List T → Res T} (h : f σ = .ok (.lst (R l)) σ1) : mCallB sTuple (mCons f mNil) σ = .ok (.tup (R l)) σ1 := by
  rw [z_callB, cons_ok h z_nil]
  simp [sTuple, seqL, fzs_R]
theorem sub_run {σ : List T} {f g : List T → Res T} {a b : Int} (h1 : f σ = .ok (.v (.int a)) σ) (h2 : g σ = .ok (.v (.int b)) σ) : mOp2 sSub f g σ = .ok (.v (.int (a - b))) σ := op2_run h1 h2 (sub_intT _ _)
theorem add_run {σ : List T} {f g : List T → Res T} {a b : Int} (h1 : f σ = .ok (.v (.int a)) σ) (h2 : g σ = .ok (.v (.int b)) σ) : mOp2 sPlus f g σ = .ok (.v (.int (a + b))) σ := op2_run h1 h2 (plus_int _ _)
theorem fEq_int (a b : Int) : fEq (.v (.int a)) (.v (.int b)) = some (.v (.bl (decide (a = b)))) := rfl
theorem fNe_int (a b : Int) : fNe (.v (.int a)) (.v (.int b)) = some (.v (.bl (!decide (a = b)))) := rfl
end MV
namespace G
open PySem PySem.Spec PyProof.Rows L2 MV
theorem len_LL {σ : List T} {rows : List (List Rat)} {i : Nat} (h : σ[i]? = some (.lst (LL rows))) : mLenN i σ = .ok (.v (.int ((rows.length : Nat) : Int))) σ := len_ok h rfl (by simp [lenT, seqA, seqL])
theorem row_stepS {σ : List T} {us : List T} {m : List T → FRes} {s h r at_ : Nat} {val val' : Nat → List Rat} {l : List Rat} {jr ja : Nat} (hσ : σ[s]? = some (.own us)) (o : Ows us h val) (hr : σ[jr]? = some (.v (.int ((r : Nat) : Int)))) (ha : σ[ja]? = some (.v (.int ((at_ : Nat) : Int)))) (n1 : jr ≠ s) (n2 : ja ≠ s) (r1 : r < h) (r2 : at_ < h)
    (hm : m [.lst (R (val r)), .lst (R (val at_))] = .ok (.own (R l)) .hole) (hv : ∀ j, j < h → val' j = if j = r then l else val j) :
    ∃ us', mSetN s (fVar jr) (mCall m (mCons (fIxN s (fVar jr)) (mCons (fIxN s (fVar ja)) mNil))) σ = .nx (σ.set s (.own us')) ∧ Ows us' h val' := by
  have l1 : s < σ.length := (List.getElem?_eq_some_iff.mp hσ).1
  have e1 := ix_own (g := fVar jr) hσ (var_ok hr) (by rw [o.1]; exact r1) (o.2 r (by rw [o.1]; exact r1))
  have o1 : Ows (us.set r (.lst (R (val r)))) h val := o.set (.lst _) fun j hj => by split <;> simp_all
  have g1 : (σ.set s (.own (us.set r (.lst (R (val r))))))[s]? = some (.own (us.set r (.lst (R (val r))))) := by simp [l1]
  have ga : (σ.set s (.own (us.set r (.lst (R (val r))))))[ja]? = some (.v (.int ((at_ : Nat) : Int))) := by rw [List.getElem?_set_ne (Ne.symm n2)]; exact ha
  have e2 := ix_own (g := fVar ja) g1 (var_ok ga) (by rw [o1.1]; exact r2) (o1.2 at_ (by rw [o1.1]; exact r2))
  have o2 : Ows ((us.set r (.lst (R (val r)))).set at_ (.lst (R (val at_)))) h val := o1.set (.lst _) fun j hj => by split <;> simp_all
  have ss : ((σ.set s (.own (us.set r (.lst (R (val r)))))).set s (.own ((us.set r (.lst (R (val r)))).set at_ (.lst (R (val at_)))))) = σ.set s (.own ((us.set r (.lst (R (val r)))).set at_ (.lst (R (val at_))))) := by simp
  rw [ss] at e2
  generalize hus : (us.set r (.lst (R (val r)))).set at_ (.lst (R (val at_))) = us2 at *
  have c := call_ok (cons_ok e1 (cons_ok e2 z_nil)) hm
  refine ⟨us2.set r (.own (R l)), ?_, o2.set (.own _) hv⟩
  unfold mSetN
  rw [c, z_sbind_ok]
  have lv : live (σ.set s (.own us2)) s = true := by
    unfold live
    simp [l1]
  have hr2 : (σ.set s (.own us2))[jr]? = some (.v (.int ((r : Nat) : Int))) := by rw [List.getElem?_set_ne (Ne.symm n1)]; exact hr
  rw [lv, var_ok hr2]
  have hr3 : r < us2.length := by rw [o2.1]; exact r1
  simp [l1, ixN_nat, hr3]
noncomputable def lv0 : List T → SRes := (mAsg (mCall m__law_copy (mCons (fVar 0) mNil)) (fN 2))
noncomputable def lv1b0 : List T → SRes := (mAsg (mOp2 sSub (mOp2 sSub (mLenN 2) (mC (.v (.int 1)))) (fVar 5)) (fN 4))
noncomputable def lv1b1b : List T → SRes := (mSetN 2 (fVar 3) (mCall m__law_unmade_row (mCons (fIxN 2 (fVar 3)) (mCons (fIxN 2 (fVar 4)) mNil))))
noncomputable def lv1b1 : List T → SRes := mFor (mRg1 (fVar 4)) (fN 3) lv1b1b
noncomputable def lv1b : List T → SRes := mSeq lv1b0 lv1b1
noncomputable def lv1 : List T → SRes := mFor (mRg1 (mOp2 sSub (mOp2 sSub (mLenN 2) (mC (.v (.int 1)))) (fVar 1))) (fN 5) lv1b
noncomputable def lv2 : List T → SRes := (mRet (mSlN none (some (mOp2 sPlus (fVar 1) (mC (.v (.int 1))))) 2))
theorem lv_split : b__law_level = mSeq lv0 (mSeq lv1 lv2) := rfl
noncomputable def nl0 : List T → SRes := (mAsg (mLst mNil) (fN 2))
noncomputable def nl1 : List T → SRes := (mTry relX (mEx (mCall m_level (mCons (fVar 0) (mCons (fVar 1) mNil))))
  (("BadBox", some 3, (mAsg (mLst (mCons (mXf 3 "BadBox" "row") (mCons (mXf 3 "BadBox" "column") mNil))) (fN 2))) :: []))
noncomputable def nl2 : List T → SRes := (mAsg (mLst mNil) (fN 4))
noncomputable def nl3 : List T → SRes := (mTry relX (mEx (mCall m_core_row (mCons (fVar 0) (mCons (fVar 1) mNil))))
  (("BadBox", some 3, (mAsg (mLst (mCons (mXf 3 "BadBox" "row") (mCons (mXf 3 "BadBox" "column") mNil))) (fN 4))) :: []))
noncomputable def nl4 : List T → SRes := (mRet (mAndV (mOp2 fEq (fVar 2) (mLst (mCons (fVar 1) (mCons (mNeg (mC (.v (.int 1)))) mNil)))) (mOp2 fEq (fVar 4) (fVar 2))))
theorem nl_split : b__law_no_level = mSeq nl0 (mSeq nl1 (mSeq nl2 (mSeq nl3 nl4))) := rfl
noncomputable def lo0t0 : List T → SRes := (mAsg (mC (.v (.int 0))) (fN 3))
noncomputable def lo0t1 : List T → SRes := (mTry relX (mEx (mCall m_last_round (mCons (fVar 0) mNil)))
  (("TooMany", some 4, (mAsg (mXf 4 "TooMany" "bound") (fN 3))) :: []))
noncomputable def lo0t2 : List T → SRes := (mRet (mOp2 fEq (fVar 3) (mC (.v (.int 1)))))
noncomputable def lo0t : List T → SRes := mSeq lo0t0 (mSeq lo0t1 lo0t2)
noncomputable def lo0 : List T → SRes := mIf (mBl (mOp2 fEq (mLenN 1) (mC (.v (.int 1))))) lo0t .nx
noncomputable def lo1 : List T → SRes := (mAsg (mCall m_last_round (mCons (fVar 0) mNil)) (fN 2))
noncomputable def lo2 : List T → SRes := (mIf (mOr (mNot (mTru (mIsi .tup (fVar 2)))) (mOr (mBl (mOp2 fNe (mLenN 2) (mC (.v (.int 2))))) (mNot (mTru (mCall m__law_is_rows (mCons (mTup (mCons (fIxN 2 (mC (.v (.int 1)))) mNil)) (mCons (mC (.v (.int 1))) (mCons (mCallB sLen (mCons (fIxN 1 (mC (.v (.int 0)))) mNil)) mNil))))))))
  (mRet (mC (.v (.bl false))))
  .nx)
noncomputable def lo3 : List T → SRes := (mRet (mAndV (mOp2 fEq (fIxN 2 (mC (.v (.int 1)))) (mCallB sTuple (mCons (fIxN 1 (mOp2 sSub (mLenN 1) (mC (.v (.int 1))))) mNil))) (mCall m__law_same (mCons (fIxN 2 (mC (.v (.int 0)))) (mCons (mCall m__law_level (mCons (fVar 1) (mCons (mOp2 sSub (mLenN 1) (mC (.v (.int 2)))) mNil))) mNil)))))
theorem lo_split : b__law_last_round = mSeq lo0 (mSeq lo1 (mSeq lo2 lo3)) := rfl
noncomputable def ll0b0 : List T → SRes := (mAsg (mCall m__law_level (mCons (fVar 1) (mCons (fVar 3) mNil))) (fN 4))
noncomputable def ll0b1 : List T → SRes := (mAsg (mCall m_level (mCons (fVar 0) (mCons (fVar 3) mNil))) (fN 5))
noncomputable def ll0b2 : List T → SRes := (mIf (mOr (mNot (mTru (mCall m__law_same (mCons (fVar 5) (mCons (fVar 4) mNil))))) (mNot (mTru (mCall m__law_last_round (mCons (fVar 5) (mCons (fVar 4) mNil))))))
  (mRet (mC (.v (.bl false))))
  .nx)
noncomputable def ll0b3 : List T → SRes := (mAsg (mCall m_core_row (mCons (fVar 0) (mCons (fVar 3) mNil))) (fN 6))
noncomputable def ll0b4 : List T → SRes := (mIf (mOr (mNot (mTru (mCall m__law_is_rows (mCons (mTup (mCons (fVar 6) mNil)) (mCons (mC (.v (.int 1))) (mCons (mCallB sLen (mCons (fIxN 2 (mC (.v (.int 0)))) mNil)) mNil)))))) (mBl (mOp2 fNe (fVar 6) (mCallB sTuple (mCons (fIxN 2 (fVar 3)) mNil)))))
  (mRet (mC (.v (.bl false))))
  .nx)
noncomputable def ll0b : List T → SRes := mSeq ll0b0 (mSeq ll0b1 (mSeq ll0b2 (mSeq ll0b3 ll0b4)))
noncomputable def ll0 : List T → SRes := mFor (mRg1 (mLenN 1)) (fN 3) ll0b
noncomputable def ll1 : List T → SRes := (mRet (mC (.v (.bl true))))
theorem ll_split : b__law_levels = mSeq ll0 ll1 := rfl
noncomputable def lc0 : List T → SRes := (mAsg (mCall m_unmade (mCons (fVar 0) mNil)) (fN 6))
noncomputable def lc1 : List T → SRes := (mIf (mNot (mTru (mCall m__law_same (mCons (fVar 6) (mCons (fVar 1) mNil)))))
  (mRet (mC (.v (.bl false))))
  .nx)
noncomputable def lc2bb0 : List T → SRes := (mAsg (mLc (mItA (mSlN (some (fVar 4)) none 1)) (fN 2) mYes (mSlN (some (fVar 3)) none 2) [2]) (wN 5))
noncomputable def lc2bb1 : List T → SRes := (mIf (mOr (mNot (mTru (mCall m__law_same (mCons (mCall m_unmade (mCons (mMeth "Table" "corner" m_Table_corner (fVar 0) (mCons (fVar 4) (mCons (fVar 3) mNil))) mNil)) (mCons (fVar 5) mNil))))) (mNot (mTru (mCall m__law_same (mCons (mMeth "Table" "corner" m_Table_corner (fVar 6) (mCons (fVar 4) (mCons (fVar 3) mNil))) (mCons (fVar 5) mNil))))))
  (mRet (mC (.v (.bl false))))
  .nx)
noncomputable def lc2bb : List T → SRes := mSeq lc2bb0 lc2bb1
noncomputable def lc2b : List T → SRes := mFor (mRg1 (mCallB sLen (mCons (fIxN 1 (mC (.v (.int 0)))) mNil))) (fN 3) lc2bb
noncomputable def lc2 : List T → SRes := mFor (mRg1 (mLenN 1)) (fN 4) lc2b
noncomputable def lc3 : List T → SRes := (mRet (mC (.v (.bl true))))
theorem lc_split : b__law_corners = mSeq lc0 (mSeq lc1 (mSeq lc2 lc3)) := rfl
/-- the law's rows behind the turns -/
theorem x_llevel {ts : List T} {rows : List (List Rat)} {h w a : Nat} (r : Rws ts rows) (z : Sz h w rows) (ha : a < h) (cap : ∀ j k, k + 1 < h - j → CapU (gW (lvl rows j) k) (lastW (lvl rows j))) : ∃ us, m__law_level [.lst ts, .v (.int ((a : Nat) : Int))] = .ok (.own us) .hole ∧ Ows us (lvl rows (h - 1 - a)).length (gW (lvl rows (h - 1 - a))) := by
  have hl := z.len
  have z1 := z.h1; have z2 := z.h2; have z4 := z.w2
  have cp := x_lcopy r (by omega)
  let vo : Nat → Nat → List Rat := fun t k => if k ≤ h - 1 - t then gW (lvl rows t) k else gW (coreR rows) k
  have vstep : ∀ t, t < h - 1 → ∀ us : List T, ∀ u3 u4 : T, Ows us h (vo t) →
      ∃ us' v3, lv1b [.lst ts, (.v (.int ((a : Nat) : Int))), .own us, u3, u4, .v (.int ((t : Nat) : Int))] =
        .nx [.lst ts, (.v (.int ((a : Nat) : Int))), .own us', v3, .v (.int ((h - 1 - t : Nat) : Int)), .v (.int ((t : Nat) : Int))] ∧ Ows us' h (vo (t + 1)) := by
    intro t ht us u3 u4 o
    have s1 : lv1b0 [.lst ts, (.v (.int ((a : Nat) : Int))), .own us, u3, u4, .v (.int ((t : Nat) : Int))] = .nx [.lst ts, (.v (.int ((a : Nat) : Int))), .own us, u3, .v (.int ((h - 1 - t : Nat) : Int)), .v (.int ((t : Nat) : Int))] := by
      have e : ((h : Nat) : Int) - 1 - ((t : Nat) : Int) = ((h - 1 - t : Nat) : Int) := by omega
      unfold lv1b0
      rw [asgN_ok (sub_run (sub_run (len_ok (n := h) rfl rfl (by simp [lenT, seqA, seqL, o.1])) z_c) (var_ok (t := .v (.int ((t : Nat) : Int))) rfl)) (by simp), e]
      all_goals rfl
    obtain ⟨σ', e, us', v3, hs, ho⟩ := forL_rel (w := fN 3) (body := lv1b1b) (intsFrom 0 (h - 1 - t))
      (fun q σ => ∃ us v3, σ = [.lst ts, (.v (.int ((a : Nat) : Int))), .own us, v3, .v (.int ((h - 1 - t : Nat) : Int)), .v (.int ((t : Nat) : Int))] ∧ Ows us h (fun k => if k < q then gW (lvl rows (t + 1)) k else vo t k)) [.lst ts, (.v (.int ((a : Nat) : Int))), .own us, u3, .v (.int ((h - 1 - t : Nat) : Int)), .v (.int ((t : Nat) : Int))] ⟨us, u3, rfl, o.congr fun j hj => by simp⟩ fun q σ hq hp => by
      obtain ⟨us, v3, rfl, o⟩ := hp
      rw [intsFrom_len] at hq
      have ll : (lvl rows t).length = h - t := by rw [lvl_len, hl]
      have wt := z.wd.lvl t
      have la : lastW (lvl rows t) = gW (lvl rows t) (h - 1 - t) := by
        unfold lastW
        rw [ll]
        congr 1
        omega
      have vq : (if q < q then gW (lvl rows (t + 1)) q else vo t q) = gW (lvl rows t) q := by
        rw [if_neg (Nat.lt_irrefl q)]
        show (if q ≤ h - 1 - t then _ else _) = _
        rw [if_pos (by omega)]
      have va : (if h - 1 - t < q then gW (lvl rows (t + 1)) (h - 1 - t) else vo t (h - 1 - t)) = lastW (lvl rows t) := by
        rw [if_neg (by omega), la]
        show (if h - 1 - t ≤ h - 1 - t then _ else _) = _
        rw [if_pos (Nat.le_refl _)]
      have w1 : (gW (lvl rows t) q).length = w := wt q (by omega)
      have w2' : (lastW (lvl rows t)).length = w := by rw [la]; exact wt _ (by omega)
      have st := row_stepS (σ := [.lst ts, (.v (.int ((a : Nat) : Int))), .own us, .v (.int ((q : Nat) : Int)), .v (.int ((h - 1 - t : Nat) : Int)), .v (.int ((t : Nat) : Int))]) (s := 2) (m := m__law_unmade_row) (r := q) (at_ := h - 1 - t) (jr := 3) (ja := 4) (l := unR (gW (lvl rows t) q) (lastW (lvl rows t))) (val' := fun k => if k < q + 1 then gW (lvl rows (t + 1)) k else vo t k) rfl o rfl rfl (by decide) (by decide) (by omega) (by omega)
        (by simp only [vq, va]; exact x_lur (.inr rfl) (.inr rfl) (by rw [w1, w2']) (by rw [w1]; omega) (cap t q (by omega))) (fun j hj => by
          by_cases e : j = q
          · subst e
            rw [if_pos (Nat.lt_succ_self j), if_pos rfl]
            simp only [MV.lvl]
            exact abv_at (by rw [ll]; omega)
          · rw [if_neg e]
            by_cases e2 : j < q
            · rw [if_pos (by omega), if_pos e2]
            · rw [if_neg (by omega), if_neg e2])
      obtain ⟨us', e, o'⟩ := st
      exact ⟨[.lst ts, (.v (.int ((a : Nat) : Int))), .own us, .v (.int ((q : Nat) : Int)), .v (.int ((h - 1 - t : Nat) : Int)), .v (.int ((t : Nat) : Int))], _, by rw [intsFrom_get]; simp, e, us', _, rfl, o'⟩
    subst hs
    rw [intsFrom_len] at ho
    refine ⟨us', v3, ?_, ho.congr fun j hj => ?_⟩
    · unfold lv1b lv1b1
      rw [z_seq, s1, z_seq_nx, z_for, rg1_ok (n := h - 1 - t) (var_ok rfl) (by omega), z_sbind_ok, e]
    · show (if j ≤ h - 1 - (t + 1) then gW (lvl rows (t + 1)) j else gW (coreR rows) j) = _
      by_cases e1 : j < h - 1 - t
      · rw [if_pos (by omega), if_pos e1]
      · rw [if_neg (by omega), if_neg e1]
        show _ = (if j ≤ h - 1 - t then _ else _)
        by_cases e2 : j ≤ h - 1 - t
        · rw [if_pos e2, coreR_at (by omega)]
          have : rows.length - 1 - j = t := by omega
          rw [this]
        · rw [if_neg e2]
  obtain ⟨σ', e, us, u3, u4, u5, hs, ho⟩ := forL_rel (w := fN 5) (body := lv1b) (intsFrom 0 (h - 1 - a))
    (fun t σ => ∃ us u3 u4 u5, σ = [.lst ts, (.v (.int ((a : Nat) : Int))), .own us, u3, u4, u5] ∧ Ows us h (vo t)) [.lst ts, (.v (.int ((a : Nat) : Int))), .own (OO rows), .hole, .hole, .hole] ⟨_, _, _, _, rfl, by
      have := Ows.OO rows
      rw [hl] at this
      exact this.congr fun j hj => by
        show (if j ≤ h - 1 - 0 then _ else _) = _
        rw [if_pos (by omega)]
        rfl⟩ fun t σ ht hp => by
    obtain ⟨us, u3, u4, u5, rfl, o⟩ := hp
    rw [intsFrom_len] at ht
    obtain ⟨us', v3, e, o'⟩ := vstep t (by omega) us u3 u4 o
    exact ⟨[.lst ts, (.v (.int ((a : Nat) : Int))), .own us, u3, u4, .v (.int ((t : Nat) : Int))], _, by rw [intsFrom_get]; simp, e, us', v3, _, _, rfl, o'⟩
  subst hs
  rw [intsFrom_len] at ho
  have la : (lvl rows (h - 1 - a)).length = a + 1 := by rw [lvl_len, hl]; omega
  refine ⟨(fzs us).take (a + 1), fn_rt (σ := [.lst ts, (.v (.int ((a : Nat) : Int))), .own (fzs us), u3, u4, u5]) ?_, ?_, fun k hk => ?_⟩
  · show b__law_level [.lst ts, (.v (.int ((a : Nat) : Int))), .hole, .hole, .hole, .hole] = _
    have s1 : lv0 [.lst ts, (.v (.int ((a : Nat) : Int))), .hole, .hole, .hole, .hole] = .nx [.lst ts, (.v (.int ((a : Nat) : Int))), .own (OO rows), .hole, .hole, .hole] := by
      unfold lv0
      rw [asgN_ok (call_ok (cons_ok (var_ok (t := .lst ts) rfl rfl (by simp [fzs_Rws r])) z_nil) cp) (by simp)]
      all_goals rfl
    have rg : mRg1 (mOp2 sSub (mOp2 sSub (mLenN 2) (mC (.v (.int 1)))) (fVar 1)) [.lst ts, (.v (.int ((a : Nat) : Int))), .own (OO rows), .hole, .hole, .hole] = .ok (intsFrom 0 (h - 1 - a)) [.lst ts, (.v (.int ((a : Nat) : Int))), .own (OO rows), .hole, .hole, .hole] := by
      refine rg1_ok ?_ (by omega)
      have e : ((h : Nat) : Int) - 1 - ((a : Nat) : Int) = ((h - 1 - a : Nat) : Int) := by omega
      rw [sub_run (sub_run (len_ok (n := h) rfl rfl (by simp [lenT, seqA, seqL, hl])) z_c) (var_ok (t := (.v (.int ((a : Nat) : Int)))) rfl), e]
    rw [lv_split, z_seq, s1, z_seq_nx, z_seq]
    unfold lv1 lv2
    rw [z_for, rg, z_sbind_ok, e, z_seq_nx, z_ret]
    have hi : mBd (some (mOp2 sPlus (fVar 1) (mC (.v (.int 1))))) [.lst ts, (.v (.int ((a : Nat) : Int))), .own us, u3, u4, u5] = .ok (some ((a + 1 : Nat) : Int)) [.lst ts, (.v (.int ((a : Nat) : Int))), .own us, u3, u4, u5] := by
      rw [z_bd1, add_run (var_ok (t := (.v (.int ((a : Nat) : Int)))) rfl) z_c]
      all_goals rfl
    have sl : mSlN none (some (mOp2 sPlus (fVar 1) (mC (.v (.int 1))))) 2 [.lst ts, (.v (.int ((a : Nat) : Int))), .own us, u3, u4, u5] = .ok (.own ((fzs us).take (a + 1))) [.lst ts, (.v (.int ((a : Nat) : Int))), .own (fzs us), u3, u4, u5] := by
      unfold mSlN
      rw [show live [T.lst ts, (.v (.int ((a : Nat) : Int))), .own us, u3, u4, u5] 2 = true from rfl]
      simp only [if_true, z_bd0, z_bind_ok, hi]
      have ct := cut_to (fzs us) (a + 1)
      rw [show ((a + 1 : Nat) : Int) = ((a : Nat) : Int) + 1 from rfl] at ct
      simp [shT, ct]
    rw [sl, z_sbind_ok]
  · rw [List.length_take, fzs_map, List.length_map, ho.1, la]
    omega
  · have hk2 : k < a + 1 := by
      rw [List.length_take] at hk
      omega
    have hku : k < us.length := by rw [ho.1]; omega
    have e1 : ((fzs us).take (a + 1))[k] = fz us[k] := by
      rw [List.getElem_take]
      simp [fzs_map]
    have e2 : vo (h - 1 - a) k = gW (lvl rows (h - 1 - a)) k := by
      show (if k ≤ h - 1 - (h - 1 - a) then _ else _) = _
      rw [if_pos (by omega)]
    have q := (ho.2 k hku).2
    rw [e2] at q
    rw [e1, q]
    exact .lst _
theorem x_lno_level {rows : List (List Rat)} {i : Int} (hi : ¬ (0 ≤ i ∧ i < ((rows.length : Nat) : Int))) : m__law_no_level [tabT rows, .v (.int i)] = .ok (.v (.bl true)) .hole := by
  have g1 := x_level_no (t := tabT rows) (.inl rfl) hi
  have g2 := x_core_row_no hi
  have n1 : noXs (tabL rows) = true := by simpa only [noX] using noX_tab rows
  let I : List T := [.v (.int i), .v (.int (-1))]
  have s1 : nl0 [tabT rows, .v (.int i), .hole, .hole, .hole] = .nx [tabT rows, .v (.int i), .own [], .hole, .hole] := by simp [nl0, szB]
  have b1 : mEx (mCall m_level (mCons (fVar 0) (mCons (fVar 1) mNil))) [tabT rows, .v (.int i), .own [], .hole, .hole] = .exc "BadBox" ["row", "column"] I [tabT rows, .v (.int i), .own [], .hole, .hole] := by
    rw [z_ex, call_exc (cons_ok (var_ok (t := tabT rows) rfl) (cons_ok (var_ok rfl) z_nil)) g1]
    all_goals rfl
  have m1 : mAsg (mLst (mCons (mXf 3 "BadBox" "row") (mCons (mXf 3 "BadBox" "column") mNil))) (fN 2) ([tabT rows, .v (.int i), .own [], .hole, .hole].set 3 (.xc "BadBox" ["row", "column"] I)) = .nx [tabT rows, .v (.int i), .own I, .xc "BadBox" ["row", "column"] I, .hole] := rfl
  have s2 := try_exc (rel := relX) b1 rBB rfl (by simp) m1 (by simp [noXs, noX, I, n1])
  have s3 : nl2 [tabT rows, .v (.int i), .own I, .hole, .hole] = .nx [tabT rows, .v (.int i), .own I, .hole, .own []] := by simp [nl2, szB]
  have b2 : mEx (mCall m_core_row (mCons (fVar 0) (mCons (fVar 1) mNil))) [tabT rows, .v (.int i), .own I, .hole, .own []] = .exc "BadBox" ["row", "column"] I [tabT rows, .v (.int i), .own I, .hole, .own []] := by
    rw [z_ex, call_exc (cons_ok (var_ok (t := tabT rows) rfl) (cons_ok (var_ok rfl) z_nil)) g2]
    all_goals rfl
  have m2 : mAsg (mLst (mCons (mXf 3 "BadBox" "row") (mCons (mXf 3 "BadBox" "column") mNil))) (fN 4) ([tabT rows, .v (.int i), .own I, .hole, .own []].set 3 (.xc "BadBox" ["row", "column"] I)) = .nx [tabT rows, .v (.int i), .own I, .xc "BadBox" ["row", "column"] I, .own I] := rfl
  have s4 := try_exc (rel := relX) b2 rBB rfl (by simp) m2 (by simp [noXs, noX, I, n1])
  have NI : Nc 1 (.lst I) := Nc.lst (Ncs.cons (.int _) (Ncs.cons (.int _) .nil))
  have q1 := fEq_same NI (by decide) (u := .own I) (by simp [toD])
  have q2 := fEq_same NI (by decide) (u := .lst I) rfl
  have fI : fzs I = I := by simp [I]
  refine fn_rt (σ := [tabT rows, .v (.int i), .lst I, .hole, .lst I]) ?_
  show b__law_no_level [tabT rows, .v (.int i), .hole, .hole, .hole] = _
  have s2' : ([tabT rows, .v (.int i), T.own I, .xc "BadBox" ["row", "column"] I, .hole].set 3 .hole) = [tabT rows, .v (.int i), .own I, .hole, .hole] := rfl
  have s4' : ([tabT rows, .v (.int i), T.own I, .xc "BadBox" ["row", "column"] I, .own I].set 3 .hole) = [tabT rows, .v (.int i), .own I, .hole, .own I] := rfl
  rw [s2'] at s2
  rw [s4'] at s4
  have v2 : fVar 2 [tabT rows, .v (.int i), .own I, .hole, .own I] = .ok (.lst I) [tabT rows, .v (.int i), .lst I, .hole, .own I] := by simp [fI]
  have v4 : fVar 4 [tabT rows, .v (.int i), .lst I, .hole, .own I] = .ok (.lst I) [tabT rows, .v (.int i), .lst I, .hole, .lst I] := by simp [fI]
  have ls : mLst (mCons (fVar 1) (mCons (mNeg (mC (.v (.int 1)))) mNil)) [tabT rows, .v (.int i), .lst I, .hole, .own I] = .ok (.own I) [tabT rows, .v (.int i), .lst I, .hole, .own I] := by
    simp [szB, I]
  rw [nl_split, z_seq, s1, z_seq_nx, z_seq]
  unfold nl1 nl3 nl4
  rw [s2, z_seq_nx, z_seq, s3, z_seq_nx, z_seq, s4, z_seq_nx, z_ret, z_andV, z_bl, z_op2, v2, z_bind_ok, ls, z_bind_ok, q1]
  simp only [z_bind_ok, if_true]
  rw [z_op2, v4, z_bind_ok, var_ok (t := .lst I) rfl rfl (by simp [fI]), z_bind_ok, q2]
  all_goals rfl
end G

namespace MV
open PySem PySem.Spec PyProof.Rows L2
theorem if_or_ne {σ σ1 σ2 : List T} {f g : List T → Res T} {r : List T → SRes} (h1 : f σ = .ok (.v (.bl true)) σ1) (h2 : g σ1 = .ok (.v (.bl false)) σ2) : mIf (mOr (mNot (mTru f)) (mBl g)) r .nx σ = .nx σ2 := by
  rw [z_if, z_or, z_not, z_tru, h1]
  simp only [z_bind_ok, z_trB, Bool.not_true, Bool.false_eq_true, if_false]
  rw [z_bl, h2]
  simp
theorem if_ff {σ σ1 : List T} {f : List T → Res T} {r : List T → SRes} (h1 : f σ = .ok (.v (.bl false)) σ1) : mIf (mBl f) r .nx σ = .nx σ1 := by
  rw [z_if, z_bl, h1]
  simp
theorem if_tt {σ σ1 : List T} {f : List T → Res T} {r k : List T → SRes} (h1 : f σ = .ok (.v (.bl true)) σ1) : mIf (mBl f) r k σ = r σ1 := by
  rw [z_if, z_bl, h1]
  simp
theorem meth_ok {C nm : Str} {m : List T → FRes} {f : List T → Res T} {g : List T → Res (List T)} {σ σ1 σ2 : List T} {ns : List Str} {l ts : List T} {w b : T} (h1 : f σ = .ok (.ins C ns l) σ1) (h2 : g σ1 = .ok ts σ2) (h3 : m (.ins C ns l :: ts) = .ok w b) (hn : nm ∉ ns := by decide) : mMeth C nm m f g σ = .ok w σ2 := by
  unfold mMeth
  rw [h1]
  simp only [z_bind_ok, hn, not_false_eq_true, and_self, if_true, h2, h3]
theorem onLs_of : ∀ {l : List T}, (∀ t ∈ l, onL t = true) → onLs l = true
  | [], _ => rfl
  | t :: l, h => by
    simp only [onLs, Bool.and_eq_true]
    exact ⟨h t (by simp), onLs_of fun u hu => h u (by simp [hu])⟩
theorem CapN.of {rows : List (List Rat)} {n d : Nat} (B : ∀ k, Rb n d (gW rows k)) (hd : d < 9000) : CapN rows := fun k j => ⟨n, d, B k j, hd⟩
theorem CapN.one {rows : List (List Rat)} (c : CapN rows) (k : Nat) : CapN [gW rows k] := fun i j => by
  cases i with
  | zero => exact c k j
  | succ i =>
    rw [gW_none (by simp)]
    exact ⟨0, 0, Rb.nil (n := 0) (d := 0) j, by omega⟩
theorem CapN.crn {rows : List (List Rat)} (cp : CapN rows) (r c : Nat) : CapN (crn rows r c) := fun i j => by
  by_cases q : i < rows.length - r
  · rw [crn_at q, gR_drop]
    exact cp _ _
  · rw [gW_none (by rw [crn_len]; exact q)]
    exact ⟨0, 0, Rb.nil (n := 0) (d := 0) j, by omega⟩
theorem app_any {σ σ1 : List T} {i : Nat} {f : List T → Res T} {t : T} {l0 l : List T} (h : σ[i]? = some (.own l0)) (hf : f σ = .ok t σ1) (h1 : σ1[i]? = some (.own l)) (hl : l.length ≤ 1000000) : mEx (mAppN i f) σ = .nx (σ1.set i (.own (l ++ [t]))) := by
  rw [z_ex, app_T h hf h1 hl, z_sbind_ok]
end MV
namespace G
open PySem PySem.Spec PyProof.Rows L2 MV
theorem take_okV {σ : List T} {ds : List Int} {i : Nat} {n : Int} {g : List T → Res T} (h : σ[i]? = some (Drw ds)) (hg : g (σ.set i .hole) = .ok (.v (.int n)) (σ.set i .hole)) (hn : 0 < n) (hd : MV.Pos ds) : ∃ r ds', mLend i m__law_take (mCons g mNil) σ = .ok (.v (.int r)) (σ.set i (Drw ds')) ∧ 0 ≤ r ∧ r < n ∧ MV.Pos ds' := by
  obtain ⟨r, ds', e, h1, h2, h3⟩ := tk_ok hn hd
  rw [← tk_is] at e
  exact ⟨r, ds', lend_ok h rfl (cons_ok hg z_nil) e, h1, h2, h3⟩
theorem rTM : relX "TooMany" "TooMany" = some true := by decide
theorem x_llast_round {L : List (List Rat)} {h w : Nat} (z : Sz h w L) (cap : ∀ j k, k + 1 < h - j → CapU (gW (lvl L j) k) (lastW (lvl L j))) (c0 : CapN L) (c1 : CapN (abv L)) : m__law_last_round [tabT L, .lst (LL L)] = .ok (.v (.bl true)) .hole := by
  have hl := z.len
  have z1 := z.h1; have z2 := z.h2; have z4 := z.w2
  have n1 : noXs (tabL L) = true := by simpa only [noX] using noX_tab L
  have n2 : noXs (LL L) = true := by
    have key : ∀ l : List (List Rat), noXs (LL l) = true := fun l => by
      induction l with
      | nil => simp [LL, noXs]
      | cons a l ih =>
        simp only [LL, List.map_cons, noXs, noX, noXs_R, Bool.true_and] at ih ⊢
        exact ih
    exact key L
  have len1 : ∀ u2 u3 u4, mLenN 1 [tabT L, .lst (LL L), u2, u3, u4] = .ok (.v (.int ((L.length : Nat) : Int))) [tabT L, .lst (LL L), u2, u3, u4] := fun _ _ _ => len_LL rfl
  by_cases hh : h = 1
  · subst hh
    have e1 : (((L.length : Nat) : Int)) = 1 := by omega
    have b1 : mEx (mCall m_last_round (mCons (fVar 0) mNil)) [tabT L, .lst (LL L), .hole, .v (.int 0), .hole] = .exc "TooMany" ["bound"] [.v (.int 1)] [tabT L, .lst (LL L), .hole, .v (.int 0), .hole] := by
      rw [z_ex, call_exc (cons_ok (var_ok (t := tabT L) rfl) z_nil) (x_last_round1 (.inl rfl) hl)]
      all_goals rfl
    have m1 : mAsg (mXf 4 "TooMany" "bound") (fN 3) ([tabT L, .lst (LL L), .hole, .v (.int 0), .hole].set 4 (.xc "TooMany" ["bound"] [.v (.int 1)])) = .nx [tabT L, .lst (LL L), .hole, .v (.int 1), .xc "TooMany" ["bound"] [.v (.int 1)]] := rfl
    have s2 := try_exc (rel := relX) b1 rTM rfl (by simp) m1 (by simp [noXs, noX, n1, n2])
    refine fn_rt (σ := [tabT L, .lst (LL L), .hole, .v (.int 1), .hole]) ?_
    show b__law_last_round [tabT L, .lst (LL L), .hole, .hole, .hole] = _
    have t0 : lo0t0 [tabT L, .lst (LL L), .hole, .hole, .hole] = .nx [tabT L, .lst (LL L), .hole, .v (.int 0), .hole] := by simp [lo0t0]
    rw [lo_split, z_seq]
    unfold lo0
    rw [if_tt (op2_run (len1 _ _ _) z_c (by rw [fEq_int, e1]; all_goals rfl))]
    unfold lo0t
    rw [z_seq, t0, z_seq_nx, z_seq]
    unfold lo0t1 lo0t2
    rw [s2]
    all_goals rfl
  · have e1 : ¬ (((L.length : Nat) : Int) = 1) := by omega
    have h2 : 2 ≤ h := by omega
    let D : T := .tup [tabT (abv L), .tup (R (lastW L))]
    obtain ⟨us, el, o⟩ := x_llevel (a := h - 2) (Rws.LL L) z (by omega) cap
    have e2 : h - 1 - (h - 2) = 1 := by omega
    rw [e2] at o
    have st0 : lo0 [tabT L, .lst (LL L), .hole, .hole, .hole] = .nx [tabT L, .lst (LL L), .hole, .hole, .hole] := by
      unfold lo0
      rw [if_ff (op2_run (len1 _ _ _) z_c (by rw [fEq_int, decide_eq_false e1]))]
    have st1 : lo1 [tabT L, .lst (LL L), .hole, .hole, .hole] = .nx [tabT L, .lst (LL L), D, .hole, .hole] := by
      unfold lo1
      rw [asgN_ok (call_ok (cons_ok (var_ok (t := tabT L) rfl) z_nil) (x_last_round (.inl rfl) z h2 cap)) (by simp)]
      all_goals rfl
    have v2 : fVar 2 [tabT L, .lst (LL L), D, .hole, .hole] = .ok D [tabT L, .lst (LL L), D, .hole, .hole] := var_ok rfl rfl (by simp [D])
    have l2 : mLenN 2 [tabT L, .lst (LL L), D, .hole, .hole] = .ok (.v (.int 2)) [tabT L, .lst (LL L), D, .hole, .hole] := len_ok (n := 2) rfl rfl (by simp [lenT, seqA, seqL, D])
    have i1 : fIxN 2 (mC (.v (.int 1))) [tabT L, .lst (LL L), D, .hole, .hole] = .ok (.tup (R (lastW L))) [tabT L, .lst (LL L), D, .hole, .hole] := ix_gen (t := D) rfl (.inl rfl) z_c rfl
    have i0 : fIxN 2 (mC (.v (.int 0))) [tabT L, .lst (LL L), D, .hole, .hole] = .ok (tabT (abv L)) [tabT L, .lst (LL L), D, .hole, .hole] := ix_gen (t := D) rfl (.inl rfl) z_c rfl
    have r0 : fIxN 1 (mC (.v (.int 0))) [tabT L, .lst (LL L), D, .hole, .hole] = .ok (.lst (R (gW L 0))) [tabT L, .lst (LL L), D, .hole, .hole] := ix_LL (k := 0) rfl z_c (by omega)
    have isr := x_lis_rows (rows := [lastW L]) (h := 1) (w := w) rfl (fun k hk => by
      have : k = 0 := by omega
      subst this
      show (lastW L).length = w
      unfold lastW
      exact z.wid _ (by omega)) (by unfold lastW; exact c0.one _)
    have w0 := z.wid 0 (by omega)
    have st2 : lo2 [tabT L, .lst (LL L), D, .hole, .hole] = .nx [tabT L, .lst (LL L), D, .hole, .hole] := by
      have cc : mCall m__law_is_rows (mCons (mTup (mCons (fIxN 2 (mC (.v (.int 1)))) mNil)) (mCons (mC (.v (.int 1))) (mCons (mCallB sLen (mCons (fIxN 1 (mC (.v (.int 0)))) mNil)) mNil))) [tabT L, .lst (LL L), D, .hole, .hole] = .ok (.v (.bl true)) [tabT L, .lst (LL L), D, .hole, .hole] := by
        refine call_ok (cons_ok (t := .tup (RR [lastW L])) ?_ (cons_ok z_c (cons_ok (lenR r0) z_nil))) (by rw [w0]; exact isr)
        rw [z_tup, cons_ok i1 z_nil]
        simp [szB, RR]
      unfold lo2
      rw [z_if, z_or, z_not, z_tru, z_isi, v2]
      simp only [z_bind_ok, D, tyT, BT.isa, z_trB, Bool.not_true, Bool.false_eq_true, if_false]
      rw [z_or, z_bl, op2_run l2 z_c (by rw [fNe_int]; all_goals rfl)]
      simp only [z_bind_ok, Bool.false_eq_true, if_false]
      rw [z_not, z_tru, cc]
      simp [D]
    have q1 := fEq_same (Nc.row (lastW L)) (by decide) (u := .tup (R (lastW L))) rfl
    have ll : fIxN 1 (mOp2 sSub (mLenN 1) (mC (.v (.int 1)))) [tabT L, .lst (LL L), D, .hole, .hole] = .ok (.lst (R (lastW L))) [tabT L, .lst (LL L), D, .hole, .hole] := by
      refine ix_LL (k := L.length - 1) rfl ?_ (by omega)
      rw [sub_run (len1 _ _ _) z_c]
      congr 3
      omega
    have cl : mCall m__law_level (mCons (fVar 1) (mCons (mOp2 sSub (mLenN 1) (mC (.v (.int 2)))) mNil)) [tabT L, .lst (LL L), D, .hole, .hole] = .ok (.own us) [tabT L, .lst (LL L), D, .hole, .hole] := by
      refine call_ok (cons_ok (v_LL rfl) (cons_ok (t := .v (.int ((h - 2 : Nat) : Int))) ?_ z_nil)) el
      rw [sub_run (len1 _ _ _) z_c]
      congr 3
      omega
    refine fn_rt (σ := [tabT L, .lst (LL L), D, .hole, .hole]) ?_
    show b__law_last_round [tabT L, .lst (LL L), .hole, .hole, .hole] = _
    rw [lo_split, z_seq, st0, z_seq_nx, z_seq, st1, z_seq_nx, z_seq, st2, z_seq_nx]
    unfold lo3
    rw [z_ret, and2_ok (op2_run i1 (tupR ll) q1) (call_ok (cons_ok i0 (cons_ok cl z_nil)) (x_lsame (z.abv h2) c1 (.inl rfl) (.inr ⟨us, rfl, o⟩))), z_sbind_ok]
/-- all levels -/
theorem x_llevels {rows : List (List Rat)} {h w : Nat} (z : Sz h w rows) (cap : ∀ j k, k + 1 < h - j → CapU (gW (lvl rows j) k) (lastW (lvl rows j))) (cn : ∀ j, CapN (lvl rows j)) (cc : CapN (coreR rows)) : m__law_levels [tabT rows, .lst (LL rows), .lst (LL (coreR rows))] = .ok (.v (.bl true)) .hole := by
  have hl := z.len
  have z1 := z.h1; have z2 := z.h2; have z4 := z.w2
  have wc : ∀ k, k < h → (gW (coreR rows) k).length = w := z.core.wid
  obtain ⟨σ', e, u3, u4, u5, u6, hs⟩ := forL_rel (w := fN 3) (body := ll0b) (intsFrom 0 h) (fun _ σ => ∃ u3 u4 u5 u6, σ = [tabT rows, .lst (LL rows), .lst (LL (coreR rows)), u3, u4, u5, u6]) [tabT rows, .lst (LL rows), .lst (LL (coreR rows)), .hole, .hole, .hole, .hole] ⟨_, _, _, _, rfl⟩ fun k σ hk hp => by
    obtain ⟨u3, u4, u5, u6, rfl⟩ := hp
    rw [intsFrom_len] at hk
    obtain ⟨us, el, o⟩ := x_llevel (a := k) (Rws.LL rows) z hk cap
    let K : T := .v (.int ((k : Nat) : Int))
    let L := lvl rows (h - 1 - k)
    have zl : Sz (k + 1) w L := by
      have := z.lvl (n := h - 1 - k) (by omega)
      rwa [show h - (h - 1 - k) = k + 1 by omega] at this
    have capL : ∀ j i, i + 1 < k + 1 - j → CapU (gW (lvl L j) i) (lastW (lvl L j)) := fun j i hi => by
      have ee : lvl L j = lvl rows (h - 1 - k + j) := by
        have key : ∀ j, lvl (lvl rows (h - 1 - k)) j = lvl rows (h - 1 - k + j) := fun j => by
          induction j with
          | zero => rfl
          | succ j ih =>
            show abv _ = abv (lvl rows (h - 1 - k + j))
            rw [ih]
        exact key j
      rw [ee]
      exact cap _ _ (by omega)
    have s0 : ll0b0 [tabT rows, .lst (LL rows), .lst (LL (coreR rows)), .v (.int ((k : Nat) : Int)), u4, u5, u6] = .nx [tabT rows, .lst (LL rows), .lst (LL (coreR rows)), .v (.int ((k : Nat) : Int)), .own us, u5, u6] := by
      unfold ll0b0
      rw [asgN_ok (call_ok (cons_ok (v_LL rfl) (cons_ok (var_ok rfl) z_nil)) el) (by simp)]
      all_goals rfl
    have s1 : ll0b1 [tabT rows, .lst (LL rows), .lst (LL (coreR rows)), .v (.int ((k : Nat) : Int)), .own us, u5, u6] = .nx [tabT rows, .lst (LL rows), .lst (LL (coreR rows)), .v (.int ((k : Nat) : Int)), .own us, tabO L, u6] := by
      unfold ll0b1
      rw [asgN_ok (call_ok (cons_ok (var_ok (t := tabT rows) rfl) (cons_ok (var_ok rfl) z_nil)) (x_level (.inl rfl) z hk cap)) (by simp)]
      all_goals rfl
    have f4 : fVar 4 [tabT rows, .lst (LL rows), .lst (LL (coreR rows)), .v (.int ((k : Nat) : Int)), .own us, tabT L, u6] = .ok (.lst (LL L)) [tabT rows, .lst (LL rows), .lst (LL (coreR rows)), .v (.int ((k : Nat) : Int)), .lst (LL L), tabT L, u6] := by
      have := frz_ok (σ := [tabT rows, .lst (LL rows), .lst (LL (coreR rows)), .v (.int ((k : Nat) : Int)), .own us, tabT L, u6]) (i := 4) (t := .own us) rfl rfl
      rw [show fz (.own us) = .lst (LL L) by simp only [z_fzO]; rw [fzs_Ows o]] at this
      exact this
    have f5 : fVar 5 [tabT rows, .lst (LL rows), .lst (LL (coreR rows)), .v (.int ((k : Nat) : Int)), .own us, tabO L, u6] = .ok (tabT L) [tabT rows, .lst (LL rows), .lst (LL (coreR rows)), .v (.int ((k : Nat) : Int)), .own us, tabT L, u6] := TabIs.frz (.inr rfl) rfl
    have s2 : ll0b2 [tabT rows, .lst (LL rows), .lst (LL (coreR rows)), .v (.int ((k : Nat) : Int)), .own us, tabO L, u6] = .nx [tabT rows, .lst (LL rows), .lst (LL (coreR rows)), .v (.int ((k : Nat) : Int)), .lst (LL L), tabT L, u6] := by
      unfold ll0b2
      rw [if_or2 (call_ok (cons_ok f5 (cons_ok f4 z_nil)) (x_lsame zl (cn _) (.inl rfl) (.inl ⟨_, rfl, Rws.LL L⟩))) (call_ok (cons_ok (var_ok (t := tabT L) rfl) (cons_ok (v_LL (rows := L) rfl) z_nil)) (x_llast_round zl capL (cn _) (cn (h - 1 - k + 1))))]
    have s3 : ll0b3 [tabT rows, .lst (LL rows), .lst (LL (coreR rows)), .v (.int ((k : Nat) : Int)), .lst (LL L), tabT L, u6] = .nx [tabT rows, .lst (LL rows), .lst (LL (coreR rows)), .v (.int ((k : Nat) : Int)), .lst (LL L), tabT L, .tup (R (gW (coreR rows) k))] := by
      unfold ll0b3
      rw [asgN_ok (call_ok (cons_ok (var_ok (t := tabT rows) rfl) (cons_ok (var_ok rfl) z_nil)) (x_core_row z hk cap)) (by simp)]
      all_goals rfl
    have v6 : fVar 6 [tabT rows, .lst (LL rows), .lst (LL (coreR rows)), .v (.int ((k : Nat) : Int)), .lst (LL L), tabT L, .tup (R (gW (coreR rows) k))] = .ok (.tup (R (gW (coreR rows) k))) [tabT rows, .lst (LL rows), .lst (LL (coreR rows)), .v (.int ((k : Nat) : Int)), .lst (LL L), tabT L, .tup (R (gW (coreR rows) k))] := var_ok rfl
    have isr := x_lis_rows (rows := [gW (coreR rows) k]) (h := 1) (w := w) rfl (fun i hi => by
      have : i = 0 := by omega
      subst this
      exact wc k hk) (cc.one k)
    have r0 : fIxN 2 (mC (.v (.int 0))) [tabT rows, .lst (LL rows), .lst (LL (coreR rows)), .v (.int ((k : Nat) : Int)), .lst (LL L), tabT L, .tup (R (gW (coreR rows) k))] = .ok (.lst (R (gW (coreR rows) 0))) [tabT rows, .lst (LL rows), .lst (LL (coreR rows)), .v (.int ((k : Nat) : Int)), .lst (LL L), tabT L, .tup (R (gW (coreR rows) k))] := ix_LL (k := 0) rfl z_c (by rw [coreR_len]; omega)
    have rk : fIxN 2 (fVar 3) [tabT rows, .lst (LL rows), .lst (LL (coreR rows)), .v (.int ((k : Nat) : Int)), .lst (LL L), tabT L, .tup (R (gW (coreR rows) k))] = .ok (.lst (R (gW (coreR rows) k))) [tabT rows, .lst (LL rows), .lst (LL (coreR rows)), .v (.int ((k : Nat) : Int)), .lst (LL L), tabT L, .tup (R (gW (coreR rows) k))] := ix_LL (k := k) rfl (var_ok rfl) (by rw [coreR_len]; omega)
    have q1 := fNe_same (Nc.row (gW (coreR rows) k)) (by decide) (u := .tup (R (gW (coreR rows) k))) rfl
    have w0 := wc 0 (by omega)
    have s4 : ll0b4 [tabT rows, .lst (LL rows), .lst (LL (coreR rows)), .v (.int ((k : Nat) : Int)), .lst (LL L), tabT L, .tup (R (gW (coreR rows) k))] = .nx [tabT rows, .lst (LL rows), .lst (LL (coreR rows)), .v (.int ((k : Nat) : Int)), .lst (LL L), tabT L, .tup (R (gW (coreR rows) k))] := by
      have cc : mCall m__law_is_rows (mCons (mTup (mCons (fVar 6) mNil)) (mCons (mC (.v (.int 1))) (mCons (mCallB sLen (mCons (fIxN 2 (mC (.v (.int 0)))) mNil)) mNil))) [tabT rows, .lst (LL rows), .lst (LL (coreR rows)), .v (.int ((k : Nat) : Int)), .lst (LL L), tabT L, .tup (R (gW (coreR rows) k))] = .ok (.v (.bl true)) [tabT rows, .lst (LL rows), .lst (LL (coreR rows)), .v (.int ((k : Nat) : Int)), .lst (LL L), tabT L, .tup (R (gW (coreR rows) k))] := by
        refine call_ok (cons_ok (t := .tup (RR [gW (coreR rows) k])) ?_ (cons_ok z_c (cons_ok (lenR r0) z_nil))) (by rw [w0]; exact isr)
        rw [z_tup, cons_ok v6 z_nil]
        simp [szB, RR]
      unfold ll0b4
      rw [if_or_ne cc (op2_run v6 (tupR rk) q1)]
    refine ⟨[tabT rows, .lst (LL rows), .lst (LL (coreR rows)), .v (.int ((k : Nat) : Int)), u4, u5, u6], [tabT rows, .lst (LL rows), .lst (LL (coreR rows)), .v (.int ((k : Nat) : Int)), .lst (LL L), tabT L, .tup (R (gW (coreR rows) k))], by rw [intsFrom_get]; simp, ?_, _, _, _, _, rfl⟩
    unfold ll0b
    rw [z_seq, s0, z_seq_nx, z_seq, s1, z_seq_nx, z_seq, s2, z_seq_nx, z_seq, s3, z_seq_nx]
    exact s4
  subst hs
  refine fn_rt (σ := [tabT rows, .lst (LL rows), .lst (LL (coreR rows)), u3, u4, u5, u6]) ?_
  show b__law_levels [tabT rows, .lst (LL rows), .lst (LL (coreR rows)), .hole, .hole, .hole, .hole] = _
  rw [ll_split, z_seq]
  unfold ll0 ll1
  rw [z_for, rg1_ok (n := h) (by rw [len_LL rfl, hl]) (by omega), z_sbind_ok, e, z_seq_nx]
  simp
end G

namespace MV
open PySem PySem.Spec PyProof.Rows L2
theorem fz_ownLL (rows : List (List Rat)) : fz (.own (LL rows)) = .lst (LL rows) := by simp [fzs_Rws (Rws.LL rows)]
theorem fzsLL (rows : List (List Rat)) : fzs (LL rows) = LL rows := fzs_Rws (Rws.LL rows)
theorem crn_eq {a b : List (List Rat)} {r c : Nat} (hl : a.length = b.length) (h : ∀ k, r ≤ k → k < a.length → (gW a k).drop c = (gW b k).drop c) : crn a r c = crn b r c := by
  apply rows_ext (by rw [crn_len, crn_len, hl])
  intro k hk
  rw [crn_len] at hk
  rw [crn_at hk, crn_at (by omega)]
  exact h _ (by omega) (by omega)
end MV
namespace G
open PySem PySem.Spec PyProof.Rows L2 MV
noncomputable def ot0 : List T → SRes := (mAsg (mLst mNil) (fN 8))
noncomputable def ot1b0 : List T → SRes := (mAsg (mLst mNil) (fN 7))
noncomputable def ot1b1b0 : List T → SRes := (mAsg (mOp2 fIx (fIxN 1 (fVar 6)) (fVar 4)) (fN 5))
noncomputable def ot1b1b1 : List T → SRes := (mIf (mOr (mBl (mOp2 sLt (fVar 6) (fVar 2))) (mBl (mOp2 sLt (fVar 4) (fVar 3))))
  (mAsg (mLend 0 m__law_signed mNil) (fN 5))
  .nx)
noncomputable def ot1b1b2 : List T → SRes := (mEx (mAppN 7 (fVar 5)))
noncomputable def ot1b1b : List T → SRes := mSeq ot1b1b0 (mSeq ot1b1b1 ot1b1b2)
noncomputable def ot1b1 : List T → SRes := mFor (mRg1 (mCallB sLen (mCons (fIxN 1 (mC (.v (.int 0)))) mNil))) (fN 4) ot1b1b
noncomputable def ot1b2 : List T → SRes := (mEx (mAppN 8 (fVar 7)))
noncomputable def ot1b : List T → SRes := mSeq ot1b0 (mSeq ot1b1 ot1b2)
noncomputable def ot1 : List T → SRes := mFor (mRg1 (mLenN 1)) (fN 6) ot1b
noncomputable def ot2 : List T → SRes := (mRetM 8)
theorem ot_split : b__law_other = mSeq ot0 (mSeq ot1 ot2) := rfl
/-- [line[c:] for line in core[r:]] -/
theorem x_corner_due {σ : List T} {core : List (List Rat)} {s sr sc sl r c : Nat} (hs : σ[s]? = some (.lst (LL core))) (hr : σ[sr]? = some (.v (.int ((r : Nat) : Int)))) (hc : σ[sc]? = some (.v (.int ((c : Nat) : Int)))) (hl : sl < σ.length) (n1 : sl ≠ s) (n2 : sl ≠ sr) (n3 : sl ≠ sc) (hk : core.length ≤ 1000) :
    ∃ v, mLc (mItA (mSlN (some (fVar sr)) none s)) (fN sl) mYes (mSlN (some (fVar sc)) none sl) [sl] σ = .ok (.own (OO (crn core r c))) (σ.set sl v) := by
  have it : mItA (mSlN (some (fVar sr)) none s) σ = .ok (LL (core.drop r)) σ := by
    have sli : mSlN (some (fVar sr)) none s σ = .ok (.own (LL (core.drop r))) σ := by
      unfold mSlN
      have lv : live σ s = true := by
        unfold live
        rw [hs]
        all_goals rfl
      rw [lv]
      simp only [if_true, z_bd1, var_ok hr, z_bind_ok, z_bd0, hs, T.isHole, Bool.false_eq_true, if_false, shT, cut_from, LL_drop]
      rw [get_set hs]
    rw [itA_own sli, fzsLL]
  obtain ⟨σ', e, v, hp⟩ := lcL_rel (w := fN sl) (te := mSlN (some (fVar sc)) none sl) (vs := [sl]) (LL (core.drop r)) (OO (crn core r c)) (fun _ τ => ∃ v, τ = σ.set sl v) σ (by simp [crn]) ⟨σ[sl], (get_set (List.getElem?_eq_getElem hl)).symm⟩ fun k τ hk hk' hp => by
    obtain ⟨v, rfl⟩ := hp
    have hk2 : k < core.length - r := by simpa using hk
    refine ⟨σ.set sl (.lst (R (gW (core.drop r) k))), σ.set sl (.lst (R (gW (core.drop r) k))), ?_, ?_, _, rfl⟩
    · rw [LL_at]
      simp [wipeT, hl]
    · rw [OO_at, crn_at hk2, gW_drop]
      unfold mSlN
      have lv : live (σ.set sl (.lst (R (gW core (r + k))))) sl = true := by
        unfold live
        simp [hl]
      have hc2 : (σ.set sl (.lst (R (gW core (r + k)))))[sc]? = some (.v (.int ((c : Nat) : Int))) := by rw [List.getElem?_set_ne n3]; exact hc
      rw [lv]
      simp only [if_true, z_bd1, var_ok hc2, z_bind_ok, z_bd0, List.getElem?_set_self hl, T.isHole, Bool.false_eq_true, if_false, shT, cut_from, R_drop, List.set_set]
  subst hp
  have lc := lc_ok it (by simp; omega) e
  refine ⟨(match σ[sl]? with | some t => keepT t | none => .hole), ?_⟩
  rw [lc]
  simp only [backT, List.set_set]
  all_goals rfl
theorem x_lcorners {rows : List (List Rat)} {h w : Nat} (z : Sz h w rows) (cap : ∀ j k, k + 1 < h - j → CapU (gW (lvl rows j) k) (lastW (lvl rows j)))
    (capc : ∀ r c, r < h → c < w → ∀ j k, k + 1 < h - r - j → CapU (gW (lvl (crn rows r c) j) k) (lastW (lvl (crn rows r c) j))) (cc : CapN (coreR rows)) : m__law_corners [tabT rows, .lst (LL (coreR rows))] = .ok (.v (.bl true)) .hole := by
  have hl := z.len
  have z1 := z.h1; have z2 := z.h2; have z3 := z.w1; have z4 := z.w2
  have hc := z.core.len
  have wc : ∀ k, k < h → (gW (coreR rows) k).length = w := z.core.wid
  have zc := z.core
  generalize hcore : coreR rows = core at *
  obtain ⟨σ', e, u2, u3, u4, u5, hs⟩ := forL_rel (w := fN 4) (body := lc2b) (intsFrom 0 h) (fun _ σ => ∃ u2 u3 u4 u5, σ = [tabT rows, .lst (LL core), u2, u3, u4, u5, tabT core]) [tabT rows, .lst (LL core), .hole, .hole, .hole, .hole, tabT core] ⟨_, _, _, _, rfl⟩ fun r σ hr hp => by
    obtain ⟨u2, u3, u4, u5, rfl⟩ := hp
    rw [intsFrom_len] at hr
    obtain ⟨σ', e, w2, w3, w5, hs⟩ := forL_rel (w := fN 3) (body := lc2bb) (intsFrom 0 w) (fun _ σ => ∃ u2 u3 u5, σ = [tabT rows, .lst (LL core), u2, u3, .v (.int ((r : Nat) : Int)), u5, tabT core]) [tabT rows, .lst (LL core), u2, u3, .v (.int ((r : Nat) : Int)), u5, tabT core] ⟨_, _, _, rfl⟩ fun c σ hc' hp => by
      obtain ⟨u2, u3, u5, rfl⟩ := hp
      rw [intsFrom_len] at hc'
      obtain ⟨v, ed⟩ := x_corner_due (σ := [tabT rows, .lst (LL core), u2, .v (.int ((c : Nat) : Int)), .v (.int ((r : Nat) : Int)), u5, tabT core]) (s := 1) (sr := 4) (sc := 3) (sl := 2) rfl rfl rfl (by simp) (by decide) (by decide) (by decide) (by omega)
      have s0 : lc2bb0 [tabT rows, .lst (LL core), u2, .v (.int ((c : Nat) : Int)), .v (.int ((r : Nat) : Int)), u5, tabT core] = .nx [tabT rows, .lst (LL core), v, .v (.int ((c : Nat) : Int)), .v (.int ((r : Nat) : Int)), .own (OO (crn core r c)), tabT core] := by
        unfold lc2bb0
        rw [asgw_ok ed (by simp)]
        all_goals rfl
      have um := x_unmadeT (t := tabO (crn rows r c)) (.inr rfl) (z.crn hr hc') (capc r c hr hc')
      rw [core_crn, hcore] at um
      have zd := zc.crn hr hc'
      have c1 := x_corner (t := tabT rows) (.inl rfl) z hr hc'
      have c2 := x_corner (t := tabT core) (.inl rfl) zc hr hc'
      have f5 : fVar 5 [tabT rows, .lst (LL core), v, .v (.int ((c : Nat) : Int)), .v (.int ((r : Nat) : Int)), .own (OO (crn core r c)), tabT core] = .ok (.lst (LL (crn core r c))) [tabT rows, .lst (LL core), v, .v (.int ((c : Nat) : Int)), .v (.int ((r : Nat) : Int)), .lst (LL (crn core r c)), tabT core] := by
        have f := frz_ok (σ := [tabT rows, .lst (LL core), v, .v (.int ((c : Nat) : Int)), .v (.int ((r : Nat) : Int)), .own (OO (crn core r c)), tabT core]) (i := 5) (t := .own (OO (crn core r c))) rfl rfl
        rw [fz_OO] at f
        exact f
      have s1 : lc2bb1 [tabT rows, .lst (LL core), v, .v (.int ((c : Nat) : Int)), .v (.int ((r : Nat) : Int)), .own (OO (crn core r c)), tabT core] = .nx [tabT rows, .lst (LL core), v, .v (.int ((c : Nat) : Int)), .v (.int ((r : Nat) : Int)), .lst (LL (crn core r c)), tabT core] := by
        unfold lc2bb1
        rw [if_or2 (call_ok (cons_ok (call_ok (cons_ok (meth_ok (var_ok (t := tabT rows) rfl) (cons_ok (var_ok rfl) (cons_ok (var_ok rfl) z_nil)) c1) z_nil) um) (cons_ok f5 z_nil)) (x_lsame zd (cc.crn r c) (.inr rfl) (.inl ⟨_, rfl, Rws.LL _⟩)))
          (call_ok (cons_ok (meth_ok (var_ok (t := tabT core) rfl) (cons_ok (var_ok rfl) (cons_ok (var_ok rfl) z_nil)) c2) (cons_ok (v_LL rfl) z_nil)) (x_lsame zd (cc.crn r c) (.inr rfl) (.inl ⟨_, rfl, Rws.LL _⟩)))]
      refine ⟨[tabT rows, .lst (LL core), u2, .v (.int ((c : Nat) : Int)), .v (.int ((r : Nat) : Int)), u5, tabT core], [tabT rows, .lst (LL core), v, .v (.int ((c : Nat) : Int)), .v (.int ((r : Nat) : Int)), .lst (LL (crn core r c)), tabT core], by rw [intsFrom_get]; simp, ?_, _, _, _, rfl⟩
      unfold lc2bb
      rw [z_seq, s0, z_seq_nx]
      exact s1
    subst hs
    refine ⟨[tabT rows, .lst (LL core), u2, u3, .v (.int ((r : Nat) : Int)), u5, tabT core], [tabT rows, .lst (LL core), w2, w3, .v (.int ((r : Nat) : Int)), w5, tabT core], by rw [intsFrom_get]; simp, ?_, w2, w3, _, w5, rfl⟩
    unfold lc2b
    have r0 : fIxN 1 (mC (.v (.int 0))) [tabT rows, .lst (LL core), u2, u3, .v (.int ((r : Nat) : Int)), u5, tabT core] = .ok (.lst (R (gW core 0))) [tabT rows, .lst (LL core), u2, u3, .v (.int ((r : Nat) : Int)), u5, tabT core] := ix_LL (k := 0) rfl z_c (by omega)
    rw [z_for, rg1_ok (n := w) (by rw [lenR r0, wc 0 (by omega)]) (by omega), z_sbind_ok, e]
  subst hs
  have um := x_unmade z cap
  rw [hcore] at um
  refine fn_rt (σ := [tabT rows, .lst (LL core), u2, u3, u4, u5, tabT core]) ?_
  show b__law_corners [tabT rows, .lst (LL core), .hole, .hole, .hole, .hole, .hole] = _
  have s0 : lc0 [tabT rows, .lst (LL core), .hole, .hole, .hole, .hole, .hole] = .nx [tabT rows, .lst (LL core), .hole, .hole, .hole, .hole, tabO core] := by
    unfold lc0
    rw [asgN_ok (call_ok (cons_ok (var_ok (t := tabT rows) rfl) z_nil) um) (by simp)]
    all_goals rfl
  have s1 : lc1 [tabT rows, .lst (LL core), .hole, .hole, .hole, .hole, tabO core] = .nx [tabT rows, .lst (LL core), .hole, .hole, .hole, .hole, tabT core] := by
    unfold lc1
    rw [if_n1 (call_ok (cons_ok (TabIs.frz (rows := core) (.inr rfl) rfl) (cons_ok (v_LL rfl) z_nil)) (x_lsame zc cc (.inl rfl) (.inl ⟨_, rfl, Rws.LL _⟩)))]
    all_goals rfl
  rw [lc_split, z_seq, s0, z_seq_nx, z_seq, s1, z_seq_nx, z_seq]
  unfold lc2 lc3
  rw [z_for, rg1_ok (n := h) (by rw [len_LL rfl, hc]) (by omega), z_sbind_ok, e, z_seq_nx]
  simp
/-- other numbers above and left of a corner -/
theorem x_lother {rows : List (List Rat)} {h w r c : Nat} {ds : List Int} (z : Sz h w rows) (B : ∀ k, Rb 50 3 (gW rows k)) (hd : MV.Pos ds) : ∃ other ds', m__law_other [Drw ds, .lst (LL rows), .v (.int ((r : Nat) : Int)), .v (.int ((c : Nat) : Int))] = .ok (.own (LL other)) (Drw ds') ∧ Sz h w other ∧ (∀ k, Rb 50 3 (gW other k)) ∧ crn other r c = crn rows r c ∧ MV.Pos ds' := by
  have hl := z.len
  have z1 := z.h1; have z2 := z.h2; have z3 := z.w1; have z4 := z.w2
  obtain ⟨σ', e, ds', acc, u4, u5, u6, u7, hs, al, ap, hp⟩ := forL_rel (w := fN 6) (body := ot1b) (intsFrom 0 h) (fun k σ => ∃ (ds : List Int) (acc : List (List Rat)) (u4 u5 u6 u7 : T), σ = [Drw ds, .lst (LL rows), .v (.int ((r : Nat) : Int)), .v (.int ((c : Nat) : Int)), u4, u5, u6, u7, .own (LL acc)] ∧ acc.length = k ∧ (∀ i, i < k → (gW acc i).length = w ∧ Rb 50 3 (gW acc i) ∧ (r ≤ i → (gW acc i).drop c = (gW rows i).drop c)) ∧ MV.Pos ds)
    [Drw ds, .lst (LL rows), .v (.int ((r : Nat) : Int)), .v (.int ((c : Nat) : Int)), .hole, .hole, .hole, .hole, .own (LL [])] ⟨ds, [], _, _, _, _, rfl, rfl, fun i hi => absurd hi (by omega), hd⟩ fun k σ hk hp => by
    obtain ⟨ds, acc, u4, u5, u6, u7, rfl, al, ap, hd⟩ := hp
    rw [intsFrom_len] at hk
    have wk := z.wid k hk
    let K : T := .v (.int ((k : Nat) : Int))
    have s0 : ot1b0 [Drw ds, .lst (LL rows), .v (.int ((r : Nat) : Int)), .v (.int ((c : Nat) : Int)), u4, u5, .v (.int ((k : Nat) : Int)), u7, .own (LL acc)] = .nx [Drw ds, .lst (LL rows), .v (.int ((r : Nat) : Int)), .v (.int ((c : Nat) : Int)), u4, u5, .v (.int ((k : Nat) : Int)), .own (R []), .own (LL acc)] := by
      unfold ot1b0
      simp [szB, R]
    obtain ⟨σ', e, ds', l, w4, w5, hs, ll, lb, lp, hd'⟩ := forL_rel (w := fN 4) (body := ot1b1b) (intsFrom 0 w) (fun j σ => ∃ (ds : List Int) (l : List Rat) (u4 u5 : T), σ = [Drw ds, .lst (LL rows), .v (.int ((r : Nat) : Int)), .v (.int ((c : Nat) : Int)), u4, u5, .v (.int ((k : Nat) : Int)), .own (R l), .own (LL acc)] ∧ l.length = j ∧ (∀ x ∈ l, Bd 50 3 x) ∧ (r ≤ k → ∀ i, c ≤ i → i < j → gR l i = gR (gW rows k) i) ∧ MV.Pos ds)
      [Drw ds, .lst (LL rows), .v (.int ((r : Nat) : Int)), .v (.int ((c : Nat) : Int)), u4, u5, .v (.int ((k : Nat) : Int)), .own (R []), .own (LL acc)] ⟨ds, [], _, _, rfl, rfl, by simp, fun _ i _ hi => absurd hi (by omega), hd⟩ fun j σ hj hp => by
      obtain ⟨ds, l, u4, u5, rfl, ll, lb, lp, hd⟩ := hp
      rw [intsFrom_len] at hj
      have t0 : ot1b1b0 [Drw ds, .lst (LL rows), .v (.int ((r : Nat) : Int)), .v (.int ((c : Nat) : Int)), .v (.int ((j : Nat) : Int)), u5, .v (.int ((k : Nat) : Int)), .own (R l), .own (LL acc)] = .nx [Drw ds, .lst (LL rows), .v (.int ((r : Nat) : Int)), .v (.int ((c : Nat) : Int)), .v (.int ((j : Nat) : Int)), qT (gR (gW rows k) j), .v (.int ((k : Nat) : Int)), .own (R l), .own (LL acc)] := by
        have q : fIx (.lst (R (gW rows k))) (.v (.int ((j : Nat) : Int))) = some (qT (gR (gW rows k) j)) := by
          rw [z_fIx]
          simp [sIx, seqL, atI_k, R_g (l := gW rows k) (k := j) (by omega)]
        unfold ot1b1b0
        rw [asgN_ok (op2_run (ix_LL (k := k) rfl (var_ok rfl) (by omega)) (var_ok rfl) q) (by simp)]
        all_goals rfl
      have ap2 : ∀ (ds : List Int) (q : Rat), ot1b1b2 [Drw ds, .lst (LL rows), .v (.int ((r : Nat) : Int)), .v (.int ((c : Nat) : Int)), .v (.int ((j : Nat) : Int)), qT q, .v (.int ((k : Nat) : Int)), .own (R l), .own (LL acc)] = .nx [Drw ds, .lst (LL rows), .v (.int ((r : Nat) : Int)), .v (.int ((c : Nat) : Int)), .v (.int ((j : Nat) : Int)), qT q, .v (.int ((k : Nat) : Int)), .own (R (l ++ [q])), .own (LL acc)] := fun ds q => by
        unfold ot1b1b2
        rw [app_any (l0 := R l) (l := R l) rfl (var_ok (t := qT q) rfl) rfl (by simp; omega), R_app]
        all_goals rfl
      have v6 : fVar 6 [Drw ds, .lst (LL rows), .v (.int ((r : Nat) : Int)), .v (.int ((c : Nat) : Int)), .v (.int ((j : Nat) : Int)), qT (gR (gW rows k) j), .v (.int ((k : Nat) : Int)), .own (R l), .own (LL acc)] = .ok (.v (.int ((k : Nat) : Int))) [Drw ds, .lst (LL rows), .v (.int ((r : Nat) : Int)), .v (.int ((c : Nat) : Int)), .v (.int ((j : Nat) : Int)), qT (gR (gW rows k) j), .v (.int ((k : Nat) : Int)), .own (R l), .own (LL acc)] := var_ok rfl
      have tst : (mOr (mBl (mOp2 sLt (fVar 6) (fVar 2))) (mBl (mOp2 sLt (fVar 4) (fVar 3)))) [Drw ds, .lst (LL rows), .v (.int ((r : Nat) : Int)), .v (.int ((c : Nat) : Int)), .v (.int ((j : Nat) : Int)), qT (gR (gW rows k) j), .v (.int ((k : Nat) : Int)), .own (R l), .own (LL acc)] = .ok (decide (k < r) || decide (j < c)) [Drw ds, .lst (LL rows), .v (.int ((r : Nat) : Int)), .v (.int ((c : Nat) : Int)), .v (.int ((j : Nat) : Int)), qT (gR (gW rows k) j), .v (.int ((k : Nat) : Int)), .own (R l), .own (LL acc)] := by
        have lt : ∀ a b : Nat, sLt (.v (.int ((a : Nat) : Int))) (.v (.int ((b : Nat) : Int))) = some (.v (.bl (decide (a < b)))) := fun a b => by simp [sLt, iOp]
        rw [z_or, z_bl, op2_run v6 (var_ok rfl) (lt _ _)]
        simp only [z_bind_ok]
        by_cases q : k < r
        · simp [q]
        · simp only [q, decide_false, Bool.false_eq_true, if_false]
          rw [z_bl, op2_run (var_ok rfl) (var_ok rfl) (lt _ _)]
          simp
      by_cases q : k < r ∨ j < c
      · obtain ⟨x, ds', e, b, p⟩ := x_signed hd
        have t1 : ot1b1b1 [Drw ds, .lst (LL rows), .v (.int ((r : Nat) : Int)), .v (.int ((c : Nat) : Int)), .v (.int ((j : Nat) : Int)), qT (gR (gW rows k) j), .v (.int ((k : Nat) : Int)), .own (R l), .own (LL acc)] = .nx [Drw ds', .lst (LL rows), .v (.int ((r : Nat) : Int)), .v (.int ((c : Nat) : Int)), .v (.int ((j : Nat) : Int)), qT x, .v (.int ((k : Nat) : Int)), .own (R l), .own (LL acc)] := by
          unfold ot1b1b1
          rw [z_if, tst]
          have : (decide (k < r) || decide (j < c)) = true := by simpa using q
          rw [this, z_sbind_ok, if_pos rfl, asgN_ok (lend_ok (t0 := Drw ds) rfl rfl z_nil e) (by simp)]
          all_goals rfl
        refine ⟨[Drw ds, .lst (LL rows), .v (.int ((r : Nat) : Int)), .v (.int ((c : Nat) : Int)), .v (.int ((j : Nat) : Int)), u5, .v (.int ((k : Nat) : Int)), .own (R l), .own (LL acc)], [Drw ds', .lst (LL rows), .v (.int ((r : Nat) : Int)), .v (.int ((c : Nat) : Int)), .v (.int ((j : Nat) : Int)), qT x, .v (.int ((k : Nat) : Int)), .own (R (l ++ [x])), .own (LL acc)], by rw [intsFrom_get]; simp, ?_, ds', l ++ [x], _, _, rfl, by simp [ll], ?_, ?_, p⟩
        · unfold ot1b1b
          rw [z_seq, t0, z_seq_nx, z_seq, t1, z_seq_nx]
          exact ap2 ds' x
        · intro y hy
          rcases List.mem_append.mp hy with g | g
          · exact lb y g
          · rw [List.mem_singleton.mp g]; exact b
        · intro hr i hi hi2
          by_cases g : i < j
          · rw [show gR (l ++ [x]) i = gR l i by simp [gR, List.getD, List.getElem?_append, ll, g]]
            exact lp hr i hi g
          · omega
      · have t1 : ot1b1b1 [Drw ds, .lst (LL rows), .v (.int ((r : Nat) : Int)), .v (.int ((c : Nat) : Int)), .v (.int ((j : Nat) : Int)), qT (gR (gW rows k) j), .v (.int ((k : Nat) : Int)), .own (R l), .own (LL acc)] = .nx [Drw ds, .lst (LL rows), .v (.int ((r : Nat) : Int)), .v (.int ((c : Nat) : Int)), .v (.int ((j : Nat) : Int)), qT (gR (gW rows k) j), .v (.int ((k : Nat) : Int)), .own (R l), .own (LL acc)] := by
          unfold ot1b1b1
          rw [z_if, tst]
          have : (decide (k < r) || decide (j < c)) = false := by simpa using q
          rw [this, z_sbind_ok]
          all_goals rfl
        refine ⟨[Drw ds, .lst (LL rows), .v (.int ((r : Nat) : Int)), .v (.int ((c : Nat) : Int)), .v (.int ((j : Nat) : Int)), u5, .v (.int ((k : Nat) : Int)), .own (R l), .own (LL acc)], [Drw ds, .lst (LL rows), .v (.int ((r : Nat) : Int)), .v (.int ((c : Nat) : Int)), .v (.int ((j : Nat) : Int)), qT (gR (gW rows k) j), .v (.int ((k : Nat) : Int)), .own (R (l ++ [gR (gW rows k) j])), .own (LL acc)], by rw [intsFrom_get]; simp, ?_, ds, l ++ [gR (gW rows k) j], _, _, rfl, by simp [ll], ?_, ?_, hd⟩
        · unfold ot1b1b
          rw [z_seq, t0, z_seq_nx, z_seq, t1, z_seq_nx]
          exact ap2 ds _
        · intro y hy
          rcases List.mem_append.mp hy with g | g
          · exact lb y g
          · rw [List.mem_singleton.mp g]; exact B k j
        · intro hr i hi hi2
          by_cases g : i < j
          · rw [show gR (l ++ [gR (gW rows k) j]) i = gR l i by simp [gR, List.getD, List.getElem?_append, ll, g]]
            exact lp hr i hi g
          · have : i = j := by omega
            subst this
            simp [gR, List.getD, List.getElem?_append, ll]
    subst hs
    rw [intsFrom_len] at ll lp
    have fl : fVar 7 [Drw ds', .lst (LL rows), .v (.int ((r : Nat) : Int)), .v (.int ((c : Nat) : Int)), w4, w5, .v (.int ((k : Nat) : Int)), .own (R l), .own (LL acc)] = .ok (.lst (R l)) [Drw ds', .lst (LL rows), .v (.int ((r : Nat) : Int)), .v (.int ((c : Nat) : Int)), w4, w5, .v (.int ((k : Nat) : Int)), .lst (R l), .own (LL acc)] := by
      have f := frz_ok (σ := [Drw ds', .lst (LL rows), .v (.int ((r : Nat) : Int)), .v (.int ((c : Nat) : Int)), w4, w5, .v (.int ((k : Nat) : Int)), .own (R l), .own (LL acc)]) (i := 7) (t := .own (R l)) rfl rfl
      rw [show fz (.own (R l)) = .lst (R l) by simp [fzs_R]] at f
      exact f
    have s2 : ot1b2 [Drw ds', .lst (LL rows), .v (.int ((r : Nat) : Int)), .v (.int ((c : Nat) : Int)), w4, w5, .v (.int ((k : Nat) : Int)), .own (R l), .own (LL acc)] = .nx [Drw ds', .lst (LL rows), .v (.int ((r : Nat) : Int)), .v (.int ((c : Nat) : Int)), w4, w5, .v (.int ((k : Nat) : Int)), .lst (R l), .own (LL (acc ++ [l]))] := by
      unfold ot1b2
      rw [app_any (l0 := LL acc) (l := LL acc) rfl fl rfl (by simp; omega), show LL (acc ++ [l]) = LL acc ++ [.lst (R l)] by simp [LL]]
      all_goals rfl
    refine ⟨[Drw ds, .lst (LL rows), .v (.int ((r : Nat) : Int)), .v (.int ((c : Nat) : Int)), u4, u5, .v (.int ((k : Nat) : Int)), u7, .own (LL acc)], [Drw ds', .lst (LL rows), .v (.int ((r : Nat) : Int)), .v (.int ((c : Nat) : Int)), w4, w5, .v (.int ((k : Nat) : Int)), .lst (R l), .own (LL (acc ++ [l]))], by rw [intsFrom_get]; simp, ?_, ds', acc ++ [l], _, _, _, _, rfl, by simp [al], ?_, hd'⟩
    · unfold ot1b
      rw [z_seq, s0, z_seq_nx, z_seq]
      unfold ot1b1
      have r0 : fIxN 1 (mC (.v (.int 0))) [Drw ds, .lst (LL rows), .v (.int ((r : Nat) : Int)), .v (.int ((c : Nat) : Int)), u4, u5, .v (.int ((k : Nat) : Int)), .own (R []), .own (LL acc)] = .ok (.lst (R (gW rows 0))) [Drw ds, .lst (LL rows), .v (.int ((r : Nat) : Int)), .v (.int ((c : Nat) : Int)), u4, u5, .v (.int ((k : Nat) : Int)), .own (R []), .own (LL acc)] := ix_LL (k := 0) rfl z_c (by omega)
      rw [z_for, rg1_ok (n := w) (by rw [lenR r0, z.wid 0 (by omega)]) (by omega), z_sbind_ok, e, z_seq_nx]
      exact s2
    · intro i hi
      by_cases g : i < k
      · rw [show gW (acc ++ [l]) i = gW acc i by simp [gW, List.getD, List.getElem?_append, al, g]]
        exact ap i g
      · have : i = k := by omega
        subst this
        rw [show gW (acc ++ [l]) i = l by simp [gW, List.getD, List.getElem?_append, al]]
        refine ⟨ll, Rb_of lb, fun hr => ?_⟩
        apply row_ext (by simp [ll, wk])
        intro j hj
        rw [List.length_drop, ll] at hj
        rw [gR_drop, gR_drop]
        exact lp hr _ (by omega) (by omega)
  subst hs
  rw [intsFrom_len] at al ap
  refine ⟨acc, ds', fn_rtB (σ := [Drw ds', .lst (LL rows), .v (.int ((r : Nat) : Int)), .v (.int ((c : Nat) : Int)), u4, u5, u6, u7, .hole]) ?_ rfl, ⟨al, fun k hk => (ap k hk).1, z.h1, z.h2, z.w1, z.w2⟩, fun k => ?_, ?_, hp⟩
  · show b__law_other [Drw ds, .lst (LL rows), .v (.int ((r : Nat) : Int)), .v (.int ((c : Nat) : Int)), .hole, .hole, .hole, .hole, .hole] = _
    have s0 : ot0 [Drw ds, .lst (LL rows), .v (.int ((r : Nat) : Int)), .v (.int ((c : Nat) : Int)), .hole, .hole, .hole, .hole, .hole] = .nx [Drw ds, .lst (LL rows), .v (.int ((r : Nat) : Int)), .v (.int ((c : Nat) : Int)), .hole, .hole, .hole, .hole, .own (LL [])] := by
      unfold ot0
      simp [szB, LL]
    rw [ot_split, z_seq, s0, z_seq_nx, z_seq]
    unfold ot1 ot2
    rw [z_for, rg1_ok (n := h) (by rw [len_LL rfl, hl]) (by omega), z_sbind_ok, e, z_seq_nx]
    simp [mRetM]
  · by_cases q : k < h
    · exact (ap k q).2.1
    · rw [gW_none (by rw [al]; exact q)]
      exact Rb.nil
  · exact crn_eq (by rw [al, hl]) fun k h1 h2 => (ap k (by rw [← al]; exact h2)).2.2 h1
end G

namespace MV
open PySem PySem.Spec PyProof.Rows L2
theorem cap_lvl {rows : List (List Rat)} {h w : Nat} (z : G.Sz h w rows) (h4 : h ≤ 4) (w4 : w ≤ 4) (B : ∀ k, Rb 50 3 (gW rows k)) : ∀ j, CapN (lvl rows j) := fun j => by
  by_cases q : j ≤ 3
  · refine .of (lvl_bd B j q) ?_
    match j, q with
    | 0, _ => decide
    | 1, _ => decide
    | 2, _ => decide
    | 3, _ => decide
  · intro k i
    have := z.len
    rw [gW_none (by rw [lvl_len]; omega)]
    exact ⟨0, 0, Rb.nil (n := 0) (d := 0) i, by omega⟩
end MV
namespace G
open PySem PySem.Spec PyProof.Rows L2 MV
noncomputable def lw0 : List T → SRes := (mAsg (mCall m__law_draws (mCons (fVar 0) mNil)) (fN 1))
noncomputable def lw1 : List T → SRes := (mAsg (mLend 1 m__law_size (mCons (mC (.v (.int 4))) mNil)) (fN 2))
noncomputable def lw2 : List T → SRes := (mAsg (mLend 1 m__law_size (mCons (mC (.v (.int 4))) mNil)) (fN 3))
noncomputable def lw3 : List T → SRes := (mAsg (mLend 1 m__law_take (mCons (fVar 2) mNil)) (fN 4))
noncomputable def lw4 : List T → SRes := (mAsg (mLend 1 m__law_take (mCons (fVar 3) mNil)) (fN 5))
noncomputable def lw5 : List T → SRes := (mAsg (mLc (mRg1 (fVar 2)) (fN 10) mYes (mLc (mRg1 (fVar 3)) (fN 11) mYes (mLend 1 m__law_signed mNil) [11]) [10]) (wN 6))
noncomputable def lw6 : List T → SRes := (mAsg (mCall m__law_unmade (mCons (fVar 6) mNil)) (fN 7))
noncomputable def lw7 : List T → SRes := (mAsg (mMake "Table" m_Table___init__ (mCons (mCall m__law_copy (mCons (fVar 6) mNil)) mNil)) (fN 8))
noncomputable def lw8 : List T → SRes := (mIf (mOr (mNot (mTru (mCall m__law_levels (mCons (fVar 8) (mCons (fVar 6) (mCons (fVar 7) mNil)))))) (mNot (mTru (mCall m__law_corners (mCons (fVar 8) (mCons (fVar 7) mNil))))))
  (mRet (mC (.v (.bl false))))
  .nx)
noncomputable def lw9 : List T → SRes := (mAsg (mCall m_unmade (mCons (mMake "Table" m_Table___init__ (mCons (mLend 1 m__law_other (mCons (fVar 6) (mCons (fVar 4) (mCons (fVar 5) mNil)))) mNil)) mNil)) (fN 9))
noncomputable def lw10 : List T → SRes := (mIf (mNot (mTru (mCall m__law_same (mCons (mMeth "Table" "corner" m_Table_corner (fVar 9) (mCons (fVar 4) (mCons (fVar 5) mNil))) (mCons (mLc (mItA (mSlN (some (fVar 4)) none 7)) (fN 12) mYes (mSlN (some (fVar 5)) none 12) [12]) mNil)))))
  (mRet (mC (.v (.bl false))))
  .nx)
noncomputable def lw11 : List T → SRes := (mIf (mOr (mNot (mTru (mCall m__law_no_level (mCons (fVar 8) (mCons (fVar 2) mNil))))) (mNot (mTru (mCall m__law_no_level (mCons (fVar 8) (mCons (mNeg (mC (.v (.int 1)))) mNil))))))
  (mRet (mC (.v (.bl false))))
  .nx)
noncomputable def lw12 : List T → SRes := (mRet (mAndV (mCall m__law_levels (mCons (fVar 8) (mCons (fVar 6) (mCons (fVar 7) mNil)))) (mCall m__law_same (mCons (fVar 8) (mCons (fVar 6) mNil)))))
theorem lw_split : b_law = mSeq lw0 (mSeq lw1 (mSeq lw2 (mSeq lw3 (mSeq lw4 (mSeq lw5 (mSeq lw6 (mSeq lw7 (mSeq lw8 (mSeq lw9 (mSeq lw10 (mSeq lw11 lw12))))))))))) := rfl
section
variable {a0 a1 a2 a3 a4 a5 a6 a7 a8 a9 a10 a11 a12 : T} {ds : List Int} {h w n : Nat} {rows : List (List Rat)}
theorem lw1_ok (hd : MV.Pos ds) : ∃ (k : Nat) (ds' : List Int), lw1 [a0, Drw ds, a2, a3, a4, a5, a6, a7, a8, a9, a10, a11, a12] = .nx [a0, Drw ds', .v (.int ((k : Nat) : Int)), a3, a4, a5, a6, a7, a8, a9, a10, a11, a12] ∧ 1 ≤ k ∧ k ≤ 4 ∧ MV.Pos ds' := by
  obtain ⟨k, ds', e, h1, h2, p⟩ := x_size hd
  refine ⟨k, ds', ?_, h1, h2, p⟩
  unfold lw1
  rw [asgN_ok (lend_ok (t0 := Drw ds) rfl rfl (cons_ok z_c z_nil) e) (by simp)]
  all_goals rfl
theorem lw2_ok (hd : MV.Pos ds) : ∃ (k : Nat) (ds' : List Int), lw2 [a0, Drw ds, a2, a3, a4, a5, a6, a7, a8, a9, a10, a11, a12] = .nx [a0, Drw ds', a2, .v (.int ((k : Nat) : Int)), a4, a5, a6, a7, a8, a9, a10, a11, a12] ∧ 1 ≤ k ∧ k ≤ 4 ∧ MV.Pos ds' := by
  obtain ⟨k, ds', e, h1, h2, p⟩ := x_size hd
  refine ⟨k, ds', ?_, h1, h2, p⟩
  unfold lw2
  rw [asgN_ok (lend_ok (t0 := Drw ds) rfl rfl (cons_ok z_c z_nil) e) (by simp)]
  all_goals rfl
theorem lw3_ok (hd : MV.Pos ds) (hn : 1 ≤ n) : ∃ (k : Nat) (ds' : List Int), lw3 [a0, Drw ds, .v (.int ((n : Nat) : Int)), a3, a4, a5, a6, a7, a8, a9, a10, a11, a12] = .nx [a0, Drw ds', .v (.int ((n : Nat) : Int)), a3, .v (.int ((k : Nat) : Int)), a5, a6, a7, a8, a9, a10, a11, a12] ∧ k < n ∧ MV.Pos ds' := by
  obtain ⟨r, ds', e, h1, h2, p⟩ := take_okV (σ := [a0, Drw ds, .v (.int ((n : Nat) : Int)), a3, a4, a5, a6, a7, a8, a9, a10, a11, a12]) (i := 1) (g := fVar 2) (n := ((n : Nat) : Int)) rfl (var_ok rfl) (by omega) hd
  refine ⟨r.toNat, ds', ?_, by omega, p⟩
  have er : ((r.toNat : Nat) : Int) = r := by omega
  unfold lw3
  rw [asgN_ok e (by simp), er]
  all_goals rfl
theorem lw4_ok (hd : MV.Pos ds) (hn : 1 ≤ n) : ∃ (k : Nat) (ds' : List Int), lw4 [a0, Drw ds, a2, .v (.int ((n : Nat) : Int)), a4, a5, a6, a7, a8, a9, a10, a11, a12] = .nx [a0, Drw ds', a2, .v (.int ((n : Nat) : Int)), a4, .v (.int ((k : Nat) : Int)), a6, a7, a8, a9, a10, a11, a12] ∧ k < n ∧ MV.Pos ds' := by
  obtain ⟨r, ds', e, h1, h2, p⟩ := take_okV (σ := [a0, Drw ds, a2, .v (.int ((n : Nat) : Int)), a4, a5, a6, a7, a8, a9, a10, a11, a12]) (i := 1) (g := fVar 3) (n := ((n : Nat) : Int)) rfl (var_ok rfl) (by omega) hd
  refine ⟨r.toNat, ds', ?_, by omega, p⟩
  have er : ((r.toNat : Nat) : Int) = r := by omega
  unfold lw4
  rw [asgN_ok e (by simp), er]
  all_goals rfl
theorem lw5_ok (hd : MV.Pos ds) (h1 : 1 ≤ h) (h4 : h ≤ 4) (w1 : 1 ≤ w) (w4 : w ≤ 4) : ∃ (rows : List (List Rat)) (ds' : List Int) (b10 b11 : T), lw5 [a0, Drw ds, .v (.int ((h : Nat) : Int)), .v (.int ((w : Nat) : Int)), a4, a5, a6, a7, a8, a9, a10, a11, a12] = .nx [a0, Drw ds', .v (.int ((h : Nat) : Int)), .v (.int ((w : Nat) : Int)), a4, a5, .own (OO rows), a7, a8, a9, b10, b11, a12] ∧ Sz h w rows ∧ (∀ k, Rb 50 3 (gW rows k)) ∧ MV.Pos ds' := by
  obtain ⟨us, σ', e, ul, ua, ds', v1, v2, hs, p⟩ := lcL_ex (w := fN 10) (te := mLc (mRg1 (fVar 3)) (fN 11) mYes (mLend 1 m__law_signed mNil) [11]) (vs := [10]) (intsFrom 0 h) (fun _ σ => ∃ ds b10 b11, σ = [a0, Drw ds, .v (.int ((h : Nat) : Int)), .v (.int ((w : Nat) : Int)), a4, a5, a6, a7, a8, a9, b10, b11, a12] ∧ MV.Pos ds) (fun u => ∃ l : List Rat, u = .own (R l) ∧ l.length = w ∧ Rb 50 3 l) [a0, Drw ds, .v (.int ((h : Nat) : Int)), .v (.int ((w : Nat) : Int)), a4, a5, a6, a7, a8, a9, a10, a11, a12] ⟨_, _, _, rfl, hd⟩ fun k σ hk hp => by
    obtain ⟨ds, b10, b11, rfl, hd⟩ := hp
    obtain ⟨l, ds', v, e, ll, lb, p⟩ := row_drawn (σ := [a0, Drw ds, .v (.int ((h : Nat) : Int)), .v (.int ((w : Nat) : Int)), a4, a5, a6, a7, a8, a9, .v (.int (0 + ((k : Nat) : Int))), b11, a12]) (c := 11) (n := w) (it := mRg1 (fVar 3)) rfl hd (by decide) (by simp) (rg1_ok (var_ok rfl) (by omega)) (by omega)
    exact ⟨_, .own (R l), _, by rw [intsFrom_get]; all_goals rfl, e, ⟨l, rfl, ll, lb⟩, ds', _, _, rfl, p⟩
  subst hs
  obtain ⟨rows, rfl, rl, rp⟩ := OO_of us ua
  rw [intsFrom_len] at ul
  have hl : rows.length = h := by rw [rl, ul]
  refine ⟨rows, ds', keepT a10, v2, ?_, ⟨hl, fun k hk => ?_, h1, by omega, w1, by omega⟩, fun k => ?_, p⟩
  · unfold lw5
    rw [asgw_ok (lc_ok (rg1_ok (var_ok rfl) (by omega)) (by rw [intsFrom_len]; omega) e) (by simp [backT])]
    all_goals rfl
  · rw [gW_of (by rw [hl]; exact hk)]
    exact (rp _ (List.getElem_mem _)).1
  · by_cases q : k < rows.length
    · rw [gW_of q]
      exact (rp _ (List.getElem_mem _)).2
    · rw [gW_none q]
      exact Rb.nil
theorem lw6_ok (z : Sz h w rows) (cu : ∀ j k, k + 1 < h - j → CapU (gW (lvl rows j) k) (lastW (lvl rows j))) : ∃ us, lw6 [a0, a1, a2, a3, a4, a5, .own (OO rows), a7, a8, a9, a10, a11, a12] = .nx [a0, a1, a2, a3, a4, a5, .lst (LL rows), .own us, a8, a9, a10, a11, a12] ∧ Ows us (coreR rows).length (gW (coreR rows)) := by
  obtain ⟨us, e, o⟩ := x_lunmade (Rws.LL rows) z cu
  have f6 : fVar 6 [a0, a1, a2, a3, a4, a5, .own (OO rows), a7, a8, a9, a10, a11, a12] = .ok (.lst (LL rows)) [a0, a1, a2, a3, a4, a5, .lst (LL rows), a7, a8, a9, a10, a11, a12] := by
    have f := frz_ok (σ := [a0, a1, a2, a3, a4, a5, .own (OO rows), a7, a8, a9, a10, a11, a12]) (i := 6) (t := .own (OO rows)) rfl rfl
    rw [fz_OO] at f
    exact f
  refine ⟨us, ?_, o⟩
  unfold lw6
  rw [asgN_ok (call_ok (cons_ok f6 z_nil) e) (by simp)]
  all_goals rfl
theorem lw7_ok (z : Sz h w rows) : lw7 [a0, a1, a2, a3, a4, a5, .lst (LL rows), a7, a8, a9, a10, a11, a12] = .nx [a0, a1, a2, a3, a4, a5, .lst (LL rows), a7, tabO rows, a9, a10, a11, a12] := by
  have hl := z.len
  have z2 := z.h2
  unfold lw7
  rw [asgN_ok (x_make z (t := .own (OO rows)) rfl (fz_OO rows) (Rws.LL rows) (cons_ok (call_ok (cons_ok (v_LL (rows := rows) rfl) z_nil) (x_lcopy (Rws.LL rows) (by omega))) z_nil)) (by simp)]
  all_goals rfl
theorem lw8_ok {us : List T} (ou : Ows us (coreR rows).length (gW (coreR rows))) (z : Sz h w rows) (cu : ∀ j k, k + 1 < h - j → CapU (gW (lvl rows j) k) (lastW (lvl rows j))) (cn : ∀ j, CapN (lvl rows j)) (cc : CapN (coreR rows)) (cq : ∀ r c, r < h → c < w → ∀ j k, k + 1 < h - r - j → CapU (gW (lvl (crn rows r c) j) k) (lastW (lvl (crn rows r c) j))) : lw8 [a0, a1, a2, a3, a4, a5, .lst (LL rows), .own us, tabO rows, a9, a10, a11, a12] = .nx [a0, a1, a2, a3, a4, a5, .lst (LL rows), .lst (LL (coreR rows)), tabT rows, a9, a10, a11, a12] := by
  have f8 : fVar 8 [a0, a1, a2, a3, a4, a5, .lst (LL rows), .own us, tabO rows, a9, a10, a11, a12] = .ok (tabT rows) [a0, a1, a2, a3, a4, a5, .lst (LL rows), .own us, tabT rows, a9, a10, a11, a12] := TabIs.frz (.inr rfl) rfl
  have f7 : fVar 7 [a0, a1, a2, a3, a4, a5, .lst (LL rows), .own us, tabT rows, a9, a10, a11, a12] = .ok (.lst (LL (coreR rows))) [a0, a1, a2, a3, a4, a5, .lst (LL rows), .lst (LL (coreR rows)), tabT rows, a9, a10, a11, a12] := by
    have f := frz_ok (σ := [a0, a1, a2, a3, a4, a5, .lst (LL rows), .own us, tabT rows, a9, a10, a11, a12]) (i := 7) (t := .own us) rfl rfl
    rw [show fz (.own us) = .lst (LL (coreR rows)) by simp only [z_fzO]; rw [fzs_Ows ou]] at f
    exact f
  unfold lw8
  rw [if_or2 (call_ok (cons_ok f8 (cons_ok (v_LL (rows := rows) rfl) (cons_ok f7 z_nil))) (x_llevels z cu cn cc)) (call_ok (cons_ok (var_ok (t := tabT rows) rfl) (cons_ok (v_LL (rows := coreR rows) rfl) z_nil)) (x_lcorners z cu cq cc))]
theorem lw9_ok {r c : Nat} (z : Sz h w rows) (B : ∀ k, Rb 50 3 (gW rows k)) (h4 : h ≤ 4) (w4 : w ≤ 4) (hd : MV.Pos ds) : ∃ (other : List (List Rat)) (ds' : List Int), lw9 [a0, Drw ds, a2, a3, .v (.int ((r : Nat) : Int)), .v (.int ((c : Nat) : Int)), .lst (LL rows), a7, a8, a9, a10, a11, a12] = .nx [a0, Drw ds', a2, a3, .v (.int ((r : Nat) : Int)), .v (.int ((c : Nat) : Int)), .lst (LL rows), a7, a8, tabO (coreR other), a10, a11, a12] ∧ Sz h w other ∧ (∀ k, Rb 50 3 (gW other k)) ∧ crn other r c = crn rows r c ∧ MV.Pos ds' := by
  obtain ⟨other, ds', e, zo, Bo, ec, p⟩ := x_lother (r := r) (c := c) z B hd
  refine ⟨other, ds', ?_, zo, Bo, ec, p⟩
  have le := lend_ok (σ := [a0, Drw ds, a2, a3, .v (.int ((r : Nat) : Int)), .v (.int ((c : Nat) : Int)), .lst (LL rows), a7, a8, a9, a10, a11, a12]) (i := 1) (g := mCons (fVar 6) (mCons (fVar 4) (mCons (fVar 5) mNil))) rfl rfl (cons_ok (v_LL (rows := rows) rfl) (cons_ok (var_ok rfl) (cons_ok (var_ok rfl) z_nil))) e
  have mk := x_make zo (t := .own (LL other)) rfl (fz_ownLL other) (Rws.LL other) (cons_ok le z_nil)
  unfold lw9
  rw [asgN_ok (call_ok (cons_ok mk z_nil) (x_unmadeT (.inr rfl) zo (cap_u zo h4 w4 Bo))) (by simp)]
  all_goals rfl
theorem lw10_ok {r c : Nat} {other : List (List Rat)} (z : Sz h w rows) (zo : Sz h w other) (hr : r < h) (hc : c < w) (ec : crn other r c = crn rows r c) (cc : CapN (coreR rows)) : ∃ v, lw10 [a0, a1, a2, a3, .v (.int ((r : Nat) : Int)), .v (.int ((c : Nat) : Int)), a6, .lst (LL (coreR rows)), a8, tabO (coreR other), a10, a11, a12] = .nx [a0, a1, a2, a3, .v (.int ((r : Nat) : Int)), .v (.int ((c : Nat) : Int)), a6, .lst (LL (coreR rows)), a8, tabT (coreR other), a10, a11, v] := by
  have zl := z.core.len
  have z2 := z.h2
  have ee : crn (coreR other) r c = crn (coreR rows) r c := by rw [← core_crn, ec, core_crn]
  have co := x_corner (t := tabT (coreR other)) (.inl rfl) zo.core hr hc
  rw [ee] at co
  obtain ⟨v, ed⟩ := x_corner_due (σ := [a0, a1, a2, a3, .v (.int ((r : Nat) : Int)), .v (.int ((c : Nat) : Int)), a6, .lst (LL (coreR rows)), a8, tabT (coreR other), a10, a11, a12]) (core := coreR rows) (s := 7) (sr := 4) (sc := 5) (sl := 12) rfl rfl rfl (by simp) (by decide) (by decide) (by decide) (by omega)
  refine ⟨v, ?_⟩
  have f9 : fVar 9 [a0, a1, a2, a3, .v (.int ((r : Nat) : Int)), .v (.int ((c : Nat) : Int)), a6, .lst (LL (coreR rows)), a8, tabO (coreR other), a10, a11, a12] = .ok (tabT (coreR other)) [a0, a1, a2, a3, .v (.int ((r : Nat) : Int)), .v (.int ((c : Nat) : Int)), a6, .lst (LL (coreR rows)), a8, tabT (coreR other), a10, a11, a12] := TabIs.frz (.inr rfl) rfl
  unfold lw10
  rw [if_n1 (call_ok (cons_ok (meth_ok f9 (cons_ok (var_ok rfl) (cons_ok (var_ok rfl) z_nil)) co) (cons_ok ed z_nil)) (x_lsame (z.core.crn hr hc) (cc.crn r c) (.inr rfl) (.inr ⟨_, rfl, Ows.OO _⟩)))]
  all_goals rfl
theorem lw11_ok (z : Sz h w rows) : lw11 [a0, a1, .v (.int ((h : Nat) : Int)), a3, a4, a5, a6, a7, tabT rows, a9, a10, a11, a12] = .nx [a0, a1, .v (.int ((h : Nat) : Int)), a3, a4, a5, a6, a7, tabT rows, a9, a10, a11, a12] := by
  have hl := z.len
  have v8 : fVar 8 [a0, a1, .v (.int ((h : Nat) : Int)), a3, a4, a5, a6, a7, tabT rows, a9, a10, a11, a12] = .ok (tabT rows) [a0, a1, .v (.int ((h : Nat) : Int)), a3, a4, a5, a6, a7, tabT rows, a9, a10, a11, a12] := var_ok rfl
  have m1 : mCons (mNeg (mC (.v (.int 1)))) mNil [a0, a1, .v (.int ((h : Nat) : Int)), a3, a4, a5, a6, a7, tabT rows, a9, a10, a11, a12] = .ok [.v (.int (-1))] [a0, a1, .v (.int ((h : Nat) : Int)), a3, a4, a5, a6, a7, tabT rows, a9, a10, a11, a12] := by simp
  unfold lw11
  rw [if_or2 (call_ok (cons_ok v8 (cons_ok (var_ok rfl) z_nil)) (x_lno_level (rows := rows) (i := ((h : Nat) : Int)) (by omega))) (call_ok (cons_ok v8 m1) (x_lno_level (rows := rows) (i := -1) (by omega)))]
theorem lw12_ok (z : Sz h w rows) (cu : ∀ j k, k + 1 < h - j → CapU (gW (lvl rows j) k) (lastW (lvl rows j))) (cn : ∀ j, CapN (lvl rows j)) (cc : CapN (coreR rows)) : lw12 [a0, a1, a2, a3, a4, a5, .lst (LL rows), .lst (LL (coreR rows)), tabT rows, a9, a10, a11, a12] = .rt (.v (.bl true)) [a0, a1, a2, a3, a4, a5, .lst (LL rows), .lst (LL (coreR rows)), tabT rows, a9, a10, a11, a12] := by
  have v8 : fVar 8 [a0, a1, a2, a3, a4, a5, .lst (LL rows), .lst (LL (coreR rows)), tabT rows, a9, a10, a11, a12] = .ok (tabT rows) [a0, a1, a2, a3, a4, a5, .lst (LL rows), .lst (LL (coreR rows)), tabT rows, a9, a10, a11, a12] := var_ok rfl
  unfold lw12
  rw [z_ret, and2_ok (call_ok (cons_ok v8 (cons_ok (v_LL (rows := rows) rfl) (cons_ok (v_LL (rows := coreR rows) rfl) z_nil))) (x_llevels z cu cn cc)) (call_ok (cons_ok v8 (cons_ok (v_LL (rows := rows) rfl) z_nil)) (x_lsame z (cn 0) (.inl rfl) (.inl ⟨_, rfl, Rws.LL rows⟩))), z_sbind_ok]
end
theorem plain : MV.Plain G.m_law := fun ns hn => by
  obtain ⟨ds0, e0, p0⟩ := drF_ok hn
  rw [← dr_is] at e0
  have e00 : lw0 [.kl (dl ns), .hole, .hole, .hole, .hole, .hole, .hole, .hole, .hole, .hole, .hole, .hole, .hole] = .nx [.kl (dl ns), Drw ds0, .hole, .hole, .hole, .hole, .hole, .hole, .hole, .hole, .hole, .hole, .hole] := by
    unfold lw0
    rw [asgN_ok (call_ok (cons_ok (var_ok (t := .kl (dl ns)) rfl rfl (by simp only [fz])) z_nil) e0) (by simp)]
    all_goals rfl
  obtain ⟨h, ds1, e1, h1, h4, p1⟩ := lw1_ok (a0 := T.kl (dl ns)) (a2 := .hole) (a3 := .hole) (a4 := .hole) (a5 := .hole) (a6 := .hole) (a7 := .hole) (a8 := .hole) (a9 := .hole) (a10 := .hole) (a11 := .hole) (a12 := .hole) p0
  obtain ⟨w, ds2, e2, w1, w4, p2⟩ := lw2_ok (a0 := T.kl (dl ns)) (a2 := .v (.int ((h : Nat) : Int))) (a3 := .hole) (a4 := .hole) (a5 := .hole) (a6 := .hole) (a7 := .hole) (a8 := .hole) (a9 := .hole) (a10 := .hole) (a11 := .hole) (a12 := .hole) p1
  obtain ⟨r, ds3, e3, rh, p3⟩ := lw3_ok (a0 := T.kl (dl ns)) (a3 := .v (.int ((w : Nat) : Int))) (a4 := .hole) (a5 := .hole) (a6 := .hole) (a7 := .hole) (a8 := .hole) (a9 := .hole) (a10 := .hole) (a11 := .hole) (a12 := .hole) (n := h) p2 h1
  obtain ⟨c, ds4, e4, cw, p4⟩ := lw4_ok (a0 := T.kl (dl ns)) (a2 := .v (.int ((h : Nat) : Int))) (a4 := .v (.int ((r : Nat) : Int))) (a5 := .hole) (a6 := .hole) (a7 := .hole) (a8 := .hole) (a9 := .hole) (a10 := .hole) (a11 := .hole) (a12 := .hole) (n := w) p3 w1
  obtain ⟨rows, ds5, b10, b11, e5, z, B, p5⟩ := lw5_ok (a0 := T.kl (dl ns)) (a4 := .v (.int ((r : Nat) : Int))) (a5 := .v (.int ((c : Nat) : Int))) (a6 := .hole) (a7 := .hole) (a8 := .hole) (a9 := .hole) (a10 := .hole) (a11 := .hole) (a12 := .hole) p4 h1 h4 w1 w4
  have hl := z.len
  have cu := cap_u z h4 w4 B
  have cc := cap_core z h4 w4 B
  have cr := cap_rows z h4 w4 B
  have cn := cap_lvl z h4 w4 B
  have cq : ∀ r c, r < h → c < w → ∀ j k, k + 1 < h - r - j → CapU (gW (lvl (crn rows r c) j) k) (lastW (lvl (crn rows r c) j)) := fun r c hr hc => cap_u (z.crn hr hc) (by omega) (by omega) (crn_Rb B)
  obtain ⟨us, e6, ou⟩ := lw6_ok (a0 := T.kl (dl ns)) (a1 := Drw ds5) (a2 := .v (.int ((h : Nat) : Int))) (a3 := .v (.int ((w : Nat) : Int))) (a4 := .v (.int ((r : Nat) : Int))) (a5 := .v (.int ((c : Nat) : Int))) (a7 := .hole) (a8 := .hole) (a9 := .hole) (a10 := b10) (a11 := b11) (a12 := .hole) z cu
  have e7 := lw7_ok (a0 := T.kl (dl ns)) (a1 := Drw ds5) (a2 := .v (.int ((h : Nat) : Int))) (a3 := .v (.int ((w : Nat) : Int))) (a4 := .v (.int ((r : Nat) : Int))) (a5 := .v (.int ((c : Nat) : Int))) (a7 := .own us) (a8 := .hole) (a9 := .hole) (a10 := b10) (a11 := b11) (a12 := .hole) z
  have e8 := lw8_ok (a0 := T.kl (dl ns)) (a1 := Drw ds5) (a2 := .v (.int ((h : Nat) : Int))) (a3 := .v (.int ((w : Nat) : Int))) (a4 := .v (.int ((r : Nat) : Int))) (a5 := .v (.int ((c : Nat) : Int))) (a9 := .hole) (a10 := b10) (a11 := b11) (a12 := .hole) ou z cu cn cc cq
  obtain ⟨other, ds6, e9, zo, Bo, ec, p6⟩ := lw9_ok (a0 := T.kl (dl ns)) (a2 := .v (.int ((h : Nat) : Int))) (a3 := .v (.int ((w : Nat) : Int))) (a7 := .lst (LL (coreR rows))) (a8 := tabT rows) (a9 := .hole) (a10 := b10) (a11 := b11) (a12 := .hole) (r := r) (c := c) z B h4 w4 p5
  obtain ⟨v12, e10⟩ := lw10_ok (a0 := T.kl (dl ns)) (a1 := Drw ds6) (a2 := .v (.int ((h : Nat) : Int))) (a3 := .v (.int ((w : Nat) : Int))) (a6 := .lst (LL rows)) (a8 := tabT rows) (a10 := b10) (a11 := b11) (a12 := .hole) z zo rh cw ec cc
  have e11 := lw11_ok (a0 := T.kl (dl ns)) (a1 := Drw ds6) (a3 := .v (.int ((w : Nat) : Int))) (a4 := .v (.int ((r : Nat) : Int))) (a5 := .v (.int ((c : Nat) : Int))) (a6 := .lst (LL rows)) (a7 := .lst (LL (coreR rows))) (a9 := tabT (coreR other)) (a10 := b10) (a11 := b11) (a12 := v12) z
  have e12 := lw12_ok (a0 := T.kl (dl ns)) (a1 := Drw ds6) (a2 := .v (.int ((h : Nat) : Int))) (a3 := .v (.int ((w : Nat) : Int))) (a4 := .v (.int ((r : Nat) : Int))) (a5 := .v (.int ((c : Nat) : Int))) (a9 := tabT (coreR other)) (a10 := b10) (a11 := b11) (a12 := v12) z cu cn cc
  refine ⟨.hole, fn_rt_ex ⟨[T.kl (dl ns), Drw ds6, .v (.int ((h : Nat) : Int)), .v (.int ((w : Nat) : Int)), .v (.int ((r : Nat) : Int)), .v (.int ((c : Nat) : Int)), .lst (LL rows), .lst (LL (coreR rows)), tabT rows, tabT (coreR other), b10, b11, v12], ?_⟩⟩
  show b_law [.kl (dl ns), .hole, .hole, .hole, .hole, .hole, .hole, .hole, .hole, .hole, .hole, .hole, .hole] = _
  rw [lw_split, z_seq, e00, z_seq_nx, z_seq, e1, z_seq_nx, z_seq, e2, z_seq_nx, z_seq, e3, z_seq_nx, z_seq, e4, z_seq_nx, z_seq, e5, z_seq_nx, z_seq, e6, z_seq_nx, z_seq, e7, z_seq_nx, z_seq, e8, z_seq_nx, z_seq, e9, z_seq_nx, z_seq, e10, z_seq_nx, z_seq, e11, z_seq_nx, e12]
end G

open PySem PySem.W PyProof.Rows
set_option maxRecDepth 100000 in
set_option maxHeartbeats 0 in
theorem PySem.Challenge.cw_minusless_k11_corners_and_levels_holds : PySem.Challenge.rw_minusless_k11_corners_and_levels.Holds := by
  w_on; o_law; k_head; (case hw => w_witness2)
  k_fill
  refine L2.walk_of (l := PySem.Challenge.rw_minusless_k11_corners_and_levels) (n := 63) (k := 10) (x := "_law_script") (CX := fun w => L2.CX PySem.Challenge.pw_minusless_k11_corners_and_levels w) (sp := fun w => MV.spL _) rfl (by decide) rfl ⟨rfl, by decide, by decide⟩ (fun w h Y => PySem.W.kIn_of Y) ?F (fun _ _ a ns hl _ hS => ⟨a, ns, rfl, hS, hl, fun _ => rfl⟩) (fun w H s e s2 h => MV.cx_no w H s e s2 h)
  case F =>
    intro w mg fa h KX GG hmg
    refine' G.all_mk KX GG hmg G.plain ?a0 ?l0 ?c0 ?k0 ?a1 ?l1 ?c1 ?k1 ?a2 ?l2 ?c2 ?k2 ?a3 ?l3 ?c3 ?k3 ?a4 ?l4 ?c4 ?k4 ?a5 ?l5 ?c5 ?k5 ?a6 ?l6 ?c6 ?k6 ?a7 ?l7 ?c7 ?k7 ?a8 ?l8 ?c8 ?k8 ?a9 ?l9 ?c9 ?k9 ?a10 ?l10 ?c10 ?k10 ?n_Table ?a11 ?i11 ?l11 ?c11 ?k11 ?pg_Table ?hd_Table ?po_Table ?ws_Table ?wm_Table ?wk_Table ?nf_Table_rows ?nf_Table_high ?nf_Table_wide ?wc_Table ?wg_Table ?wt_Table ?wo_Table ?a12 ?i12 ?l12 ?c12 ?k12 ?a13 ?l13 ?c13 ?k13 ?a14 ?l14 ?c14 ?k14 ?a15 ?l15 ?c15 ?k15 ?a16 ?l16 ?c16 ?k16 ?a17 ?l17 ?c17 ?k17 ?a18 ?l18 ?c18 ?k18 ?a19 ?l19 ?c19 ?k19 ?a20 ?l20 ?c20 ?k20 ?a21 ?l21 ?c21 ?k21 ?a22 ?l22 ?c22 ?k22 ?a23 ?l23 ?c23 ?k23 ?a24 ?l24 ?c24 ?k24 ?a25 ?l25 ?c25 ?k25 ?a26 ?l26 ?c26 ?k26 ?a27 ?l27 ?c27 ?k27 ?a28 ?l28 ?c28 ?k28 ?a29 ?l29 ?c29 ?k29 ?a30 ?l30 ?c30 ?k30 ?a31 ?l31 ?c31 ?k31 ?a32 ?l32 ?c32 ?k32 ?a33 ?l33 ?c33 ?k33 ?a34 ?l34 ?c34 ?k34 ?a35 ?l35 ?c35 ?k35 ?a36 ?l36 ?c36 ?k36 ?a37 ?l37 ?c37 ?k37 ?a38 ?l38 ?c38 ?k38 ?a39 ?l39 ?c39 ?k39 ?a40 ?l40 ?c40 ?k40 ?a41 ?l41 ?c41 ?k41 ?a42 ?l42 ?c42 ?k42 ?a43 ?l43 ?c43 ?k43 ?a44 ?l44 ?c44 ?k44 ?m_abs ?m_bool ?m_enumerate ?m_int ?m_isinstance ?m_len ?m_list ?m_min ?m_range ?m_super ?m_tuple ?g_MOST ?f_gcd ?n_BadNumber ?n_BadTable ?n_BadBox ?n_OtherSize ?n_TooMany ?xL_BadNumber ?sa_BadNumber ?ga_BadNumber ?gg_BadNumber ?nn_BadNumber_place ?iC_BadNumber ?tI_BadNumber ?kC_BadNumber ?eC_BadNumber ?vC_BadNumber ?tC_BadNumber ?hC_BadNumber ?mC_BadNumber ?op_BadNumber ?su_BadNumber ?li_BadNumber ?ci_BadNumber ?ld_BadNumber ?lv_BadNumber ?lf_BadNumber ?lc_BadNumber ?xL_BadTable ?sa_BadTable ?ga_BadTable ?gg_BadTable ?nn_BadTable_row ?iC_BadTable ?tI_BadTable ?kC_BadTable ?eC_BadTable ?vC_BadTable ?tC_BadTable ?hC_BadTable ?mC_BadTable ?op_BadTable ?su_BadTable ?li_BadTable ?ci_BadTable ?ld_BadTable ?lv_BadTable ?lf_BadTable ?lc_BadTable ?xL_TooMany ?sa_TooMany ?ga_TooMany ?gg_TooMany ?nn_TooMany_bound ?iC_TooMany ?tI_TooMany ?kC_TooMany ?eC_TooMany ?vC_TooMany ?tC_TooMany ?hC_TooMany ?mC_TooMany ?op_TooMany ?su_TooMany ?li_TooMany ?ci_TooMany ?ld_TooMany ?lv_TooMany ?lf_TooMany ?lc_TooMany ?xL_BadBox ?sa_BadBox ?ga_BadBox ?gg_BadBox ?nn_BadBox_row ?nn_BadBox_column ?iC_BadBox ?tI_BadBox ?kC_BadBox ?eC_BadBox ?vC_BadBox ?tC_BadBox ?hC_BadBox ?mC_BadBox ?op_BadBox ?su_BadBox ?li_BadBox ?ci_BadBox ?ld_BadBox ?lv_BadBox ?lf_BadBox ?lc_BadBox ?xL_OtherSize ?sa_OtherSize ?ga_OtherSize ?gg_OtherSize ?nn_OtherSize_one ?nn_OtherSize_other ?iC_OtherSize ?tI_OtherSize ?kC_OtherSize ?eC_OtherSize ?vC_OtherSize ?tC_OtherSize ?hC_OtherSize ?mC_OtherSize ?op_OtherSize ?su_OtherSize ?li_OtherSize ?ci_OtherSize ?ld_OtherSize ?lv_OtherSize ?lf_OtherSize ?lc_OtherSize ?xe_BadBox ?xc_BadBox ?xt_BadBox ?xe_TooMany ?xc_TooMany ?xt_TooMany ?xs_BadNumber_BadBox ?xs_BadNumber_TooMany ?xs_BadTable_BadBox ?xs_BadTable_TooMany ?xs_TooMany_BadBox ?xs_TooMany_TooMany ?xs_BadBox_BadBox ?xs_BadBox_TooMany ?xs_OtherSize_BadBox ?xs_OtherSize_TooMany
    (case a0 => k_is)
    (case l0 => k_is)
    (case c0 => k_is)
    (case k0 => k_is)
    (case a1 => k_is)
    (case l1 => k_is)
    (case c1 => k_is)
    (case k1 => k_is)
    (case a2 => k_is)
    (case l2 => k_is)
    (case c2 => k_is)
    (case k2 => k_is)
    (case a3 => k_is)
    (case l3 => k_is)
    (case c3 => k_is)
    (case k3 => k_is)
    (case a4 => k_is)
    (case l4 => k_is)
    (case c4 => k_is)
    (case k4 => k_is)
    (case a5 => k_is)
    (case l5 => k_is)
    (case c5 => k_is)
    (case k5 => k_is)
    (case a6 => k_is)
    (case l6 => k_is)
    (case c6 => k_is)
    (case k6 => k_is)
    (case a7 => k_is)
    (case l7 => k_is)
    (case c7 => k_is)
    (case k7 => k_is)
    (case a8 => k_is)
    (case l8 => k_is)
    (case c8 => k_is)
    (case k8 => k_is)
    (case a9 => k_is)
    (case l9 => k_is)
    (case c9 => k_is)
    (case k9 => k_is)
    (case a10 => k_is)
    (case l10 => k_is)
    (case c10 => k_is)
    (case k10 => k_is)
    (case n_Table => k_is)
    (case a11 => k_is)
    (case i11 => k_is)
    (case l11 => k_is)
    (case c11 => k_is)
    (case k11 => k_is)
    (case pg_Table => k_is)
    (case hd_Table => k_is)
    (case po_Table => k_is)
    (case ws_Table => k_is)
    (case wm_Table => k_is)
    (case wk_Table => k_is)
    (case nf_Table_rows => k_is)
    (case nf_Table_high => k_is)
    (case nf_Table_wide => k_is)
    (case wc_Table => k_is)
    (case wg_Table => k_is)
    (case wt_Table => k_is)
    (case wo_Table => k_is)
    (case a12 => k_is)
    (case i12 => k_is)
    (case l12 => k_is)
    (case c12 => k_is)
    (case k12 => k_is)
    (case a13 => k_is)
    (case l13 => k_is)
    (case c13 => k_is)
    (case k13 => k_is)
    (case a14 => k_is)
    (case l14 => k_is)
    (case c14 => k_is)
    (case k14 => k_is)
    (case a15 => k_is)
    (case l15 => k_is)
    (case c15 => k_is)
    (case k15 => k_is)
    (case a16 => k_is)
    (case l16 => k_is)
    (case c16 => k_is)
    (case k16 => k_is)
    (case a17 => k_is)
    (case l17 => k_is)
    (case c17 => k_is)
    (case k17 => k_is)
    (case a18 => k_is)
    (case l18 => k_is)
    (case c18 => k_is)
    (case k18 => k_is)
    (case a19 => k_is)
    (case l19 => k_is)
    (case c19 => k_is)
    (case k19 => k_is)
    (case a20 => k_is)
    (case l20 => k_is)
    (case c20 => k_is)
    (case k20 => k_is)
    (case a21 => k_is)
    (case l21 => k_is)
    (case c21 => k_is)
    (case k21 => k_is)
    (case a22 => k_is)
    (case l22 => k_is)
    (case c22 => k_is)
    (case k22 => k_is)
    (case a23 => k_is)
    (case l23 => k_is)
    (case c23 => k_is)
    (case k23 => k_is)
    (case a24 => k_is)
    (case l24 => k_is)
    (case c24 => k_is)
    (case k24 => k_is)
    (case a25 => k_is)
    (case l25 => k_is)
    (case c25 => k_is)
    (case k25 => k_is)
    (case a26 => k_is)
    (case l26 => k_is)
    (case c26 => k_is)
    (case k26 => k_is)
    (case a27 => k_is)
    (case l27 => k_is)
    (case c27 => k_is)
    (case k27 => k_is)
    (case a28 => k_is)
    (case l28 => k_is)
    (case c28 => k_is)
    (case k28 => k_is)
    (case a29 => k_is)
    (case l29 => k_is)
    (case c29 => k_is)
    (case k29 => k_is)
    (case a30 => k_is)
    (case l30 => k_is)
    (case c30 => k_is)
    (case k30 => k_is)
    (case a31 => k_is)
    (case l31 => k_is)
    (case c31 => k_is)
    (case k31 => k_is)
    (case a32 => k_is)
    (case l32 => k_is)
    (case c32 => k_is)
    (case k32 => k_is)
    (case a33 => k_is)
    (case l33 => k_is)
    (case c33 => k_is)
    (case k33 => k_is)
    (case a34 => k_is)
    (case l34 => k_is)
    (case c34 => k_is)
    (case k34 => k_is)
    (case a35 => k_is)
    (case l35 => k_is)
    (case c35 => k_is)
    (case k35 => k_is)
    (case a36 => k_is)
    (case l36 => k_is)
    (case c36 => k_is)
    (case k36 => k_is)
    (case a37 => k_is)
    (case l37 => k_is)
    (case c37 => k_is)
    (case k37 => k_is)
    (case a38 => k_is)
    (case l38 => k_is)
    (case c38 => k_is)
    (case k38 => k_is)
    (case a39 => k_is)
    (case l39 => k_is)
    (case c39 => k_is)
    (case k39 => k_is)
    (case a40 => k_is)
    (case l40 => k_is)
    (case c40 => k_is)
    (case k40 => k_is)
    (case a41 => k_is)
    (case l41 => k_is)
    (case c41 => k_is)
    (case k41 => k_is)
    (case a42 => k_is)
    (case l42 => k_is)
    (case c42 => k_is)
    (case k42 => k_is)
    (case a43 => k_is)
    (case l43 => k_is)
    (case c43 => k_is)
    (case k43 => k_is)
    (case a44 => k_is)
    (case l44 => k_is)
    (case c44 => k_is)
    (case k44 => k_is)
    (case m_abs => k_is)
    (case m_bool => k_is)
    (case m_enumerate => k_is)
    (case m_int => k_is)
    (case m_isinstance => k_is)
    (case m_len => k_is)
    (case m_list => k_is)
    (case m_min => k_is)
    (case m_range => k_is)
    (case m_super => k_is)
    (case m_tuple => k_is)
    (case g_MOST => k_is)
    (case f_gcd => k_is)
    (case n_BadNumber => k_is)
    (case n_BadTable => k_is)
    (case n_BadBox => k_is)
    (case n_OtherSize => k_is)
    (case n_TooMany => k_is)
    (case xL_BadNumber => k_is)
    (case sa_BadNumber => k_is)
    (case ga_BadNumber => k_is)
    (case gg_BadNumber => k_is)
    (case nn_BadNumber_place => k_is)
    (case iC_BadNumber => k_is)
    (case tI_BadNumber => k_is)
    (case kC_BadNumber => k_is)
    (case eC_BadNumber => k_is)
    (case vC_BadNumber => k_is)
    (case tC_BadNumber => k_is)
    (case hC_BadNumber => k_is)
    (case mC_BadNumber => k_is)
    (case op_BadNumber => k_is)
    (case su_BadNumber => ks_is)
    (case li_BadNumber => k_is)
    (case ci_BadNumber => k_is)
    (case ld_BadNumber => k_is)
    (case lv_BadNumber => rfl)
    (case lf_BadNumber => first | rfl | decide +kernel)
    (case lc_BadNumber => k_is)
    (case xL_BadTable => k_is)
    (case sa_BadTable => k_is)
    (case ga_BadTable => k_is)
    (case gg_BadTable => k_is)
    (case nn_BadTable_row => k_is)
    (case iC_BadTable => k_is)
    (case tI_BadTable => k_is)
    (case kC_BadTable => k_is)
    (case eC_BadTable => k_is)
    (case vC_BadTable => k_is)
    (case tC_BadTable => k_is)
    (case hC_BadTable => k_is)
    (case mC_BadTable => k_is)
    (case op_BadTable => k_is)
    (case su_BadTable => ks_is)
    (case li_BadTable => k_is)
    (case ci_BadTable => k_is)
    (case ld_BadTable => k_is)
    (case lv_BadTable => rfl)
    (case lf_BadTable => first | rfl | decide +kernel)
    (case lc_BadTable => k_is)
    (case xL_TooMany => k_is)
    (case sa_TooMany => k_is)
    (case ga_TooMany => k_is)
    (case gg_TooMany => k_is)
    (case nn_TooMany_bound => k_is)
    (case iC_TooMany => k_is)
    (case tI_TooMany => k_is)
    (case kC_TooMany => k_is)
    (case eC_TooMany => k_is)
    (case vC_TooMany => k_is)
    (case tC_TooMany => k_is)
    (case hC_TooMany => k_is)
    (case mC_TooMany => k_is)
    (case op_TooMany => k_is)
    (case su_TooMany => ks_is)
    (case li_TooMany => k_is)
    (case ci_TooMany => k_is)
    (case ld_TooMany => k_is)
    (case lv_TooMany => rfl)
    (case lf_TooMany => first | rfl | decide +kernel)
    (case lc_TooMany => k_is)
    (case xL_BadBox => k_is)
    (case sa_BadBox => k_is)
    (case ga_BadBox => k_is)
    (case gg_BadBox => k_is)
    (case nn_BadBox_row => k_is)
    (case nn_BadBox_column => k_is)
    (case iC_BadBox => k_is)
    (case tI_BadBox => k_is)
    (case kC_BadBox => k_is)
    (case eC_BadBox => k_is)
    (case vC_BadBox => k_is)
    (case tC_BadBox => k_is)
    (case hC_BadBox => k_is)
    (case mC_BadBox => k_is)
    (case op_BadBox => k_is)
    (case su_BadBox => ks_is)
    (case li_BadBox => k_is)
    (case ci_BadBox => k_is)
    (case ld_BadBox => k_is)
    (case lv_BadBox => rfl)
    (case lf_BadBox => first | rfl | decide +kernel)
    (case lc_BadBox => k_is)
    (case xL_OtherSize => k_is)
    (case sa_OtherSize => k_is)
    (case ga_OtherSize => k_is)
    (case gg_OtherSize => k_is)
    (case nn_OtherSize_one => k_is)
    (case nn_OtherSize_other => k_is)
    (case iC_OtherSize => k_is)
    (case tI_OtherSize => k_is)
    (case kC_OtherSize => k_is)
    (case eC_OtherSize => k_is)
    (case vC_OtherSize => k_is)
    (case tC_OtherSize => k_is)
    (case hC_OtherSize => k_is)
    (case mC_OtherSize => k_is)
    (case op_OtherSize => k_is)
    (case su_OtherSize => ks_is)
    (case li_OtherSize => k_is)
    (case ci_OtherSize => k_is)
    (case ld_OtherSize => k_is)
    (case lv_OtherSize => rfl)
    (case lf_OtherSize => first | rfl | decide +kernel)
    (case lc_OtherSize => k_is)
    (case xe_BadBox => k_is)
    (case xc_BadBox => k_is)
    (case xt_BadBox => k_is)
    (case xe_TooMany => k_is)
    (case xc_TooMany => k_is)
    (case xt_TooMany => k_is)
    (case xs_BadNumber_BadBox => k_is)
    (case xs_BadNumber_TooMany => k_is)
    (case xs_BadTable_BadBox => k_is)
    (case xs_BadTable_TooMany => k_is)
    (case xs_TooMany_BadBox => k_is)
    (case xs_TooMany_TooMany => k_is)
    (case xs_BadBox_BadBox => k_is)
    (case xs_BadBox_TooMany => k_is)
    (case xs_OtherSize_BadBox => k_is)
    (case xs_OtherSize_TooMany => k_is)
