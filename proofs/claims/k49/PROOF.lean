import PyProof.Rows.All
import Wide.All
import OpenK.AllK
import Wide.FinOn
import PySem.Challenge.RW_minusless_k49_sums_count_stairs
import HandS.ForMost
import HandS.ForExc
import HandS.Walk
import HandS.Wide
import HandS.IsInst
import HandS.TryMany
import HandS.TupAny
import HandS.Style
import KE.KExcSuper
import KE.KSuper
import HandS.ExcInit
import HandS.ExcOwn
import HandS.Small
import KE.KTupSum
set_option Elab.async false
set_option linter.all false
set_option maxRecDepth 100000
set_option maxHeartbeats 4000000
set_option autoImplicit false

namespace MV
open PySem PySem.Spec PyProof.Rows L2

/-! ## Trees: what a value is, without addresses -/
inductive T where
  | hole
  | v (c : V)
  | tup (l : List T)
  | lst (l : List T)
  | own (l : List T)
  | kl (l : List T)
  | ins (C : Str) (ns : List Str) (l : List T)
  | oin (C : Str) (ns : List Str) (l : List T)
  | xc (C : Str) (ns : List Str) (l : List T)

def T.isHole : T → Bool
  | .hole => true
  | _ => false

/-- what a tree is read over -/
structure En where
  K : PySem.W.Frag
  mg : Str → Option Value
  ex : Option (Addr × Addr × Option Addr)

mutual
/-- x stands for the tree in the frozen heap F, its own cells O in H -/
def rep (e : En) (F H : Hp) : T → V → List Addr → Prop
  | .hole, _, O => O = []
  | .v c, x, O => x = c ∧ O = []
  | .tup l, x, O => O = [] ∧ ∃ a vs, x = .ref a ∧ SqT e.K F a vs ∧ reps e F H l vs []
  | .lst l, x, O => O = [] ∧ ∃ a vs, x = .ref a ∧ F a = some (.lst vs) ∧ reps e F H l vs []
  | .kl l, x, O => O = [] ∧ ∃ a vs, x = .ref a ∧ SqL e.K F a vs ∧ reps e F H l vs []
  | .own l, x, O => ∃ a vs O', x = .ref a ∧ O = a :: O' ∧ F a = none ∧ H a = some (.lst vs) ∧ reps e F H l vs O'
  | .ins C ns l, x, O => O = [] ∧ ns.length = l.length ∧ ∃ a dx Ca vs, x = .ref a ∧ e.mg C = some (.ref Ca) ∧
      F a = some (.ins Ca dx (ns.zip vs)) ∧ reps e F H l vs []
  | .oin C ns l, x, O => ns.length = l.length ∧ ∃ a dx Ca vs O', x = .ref a ∧ e.mg C = some (.ref Ca) ∧ O = a :: O' ∧ F a = none ∧
      H a = some (.ins Ca dx (ns.zip vs)) ∧ reps e F H l vs O'
  | .xc C ns l, x, O => O = [] ∧ ns.length = l.length ∧ ∃ a Ca dx vs, x = .ref a ∧ e.ex = some (a, Ca, some dx) ∧ e.mg C = some (.ref Ca) ∧
      F dx = some (.xd (ns.zip vs)) ∧ reps e F H l vs []
def reps (e : En) (F H : Hp) : List T → List V → List Addr → Prop
  | [], vs, O => vs = [] ∧ O = []
  | t :: ts, vs, O => ∃ x xs O1 O2, vs = x :: xs ∧ O = O1 ++ O2 ∧ rep e F H t x O1 ∧ reps e F H ts xs O2
end

def Sub (F F' : Hp) : Prop := ∀ a o, F a = some o → F' a = some o
theorem Sub.rfl {F : Hp} : Sub F F := fun _ _ h => h
theorem Sub.tr {F G H : Hp} (a : Sub F G) (b : Sub G H) : Sub F H := fun x o h => b x o (a x o h)
theorem Sub.sqt {K : PySem.W.Frag} {F F' : Hp} (s : Sub F F') {a : Addr} {vs : List V} (h : SqT K F a vs) : SqT K F' a vs := by
  rcases h with (h | ⟨o, h⟩) | h
  · exact .inl (.inl (s _ _ h))
  · exact .inl (.inr ⟨o, s _ _ h⟩)
  · exact .inr h
theorem Sub.sql {K : PySem.W.Frag} {F F' : Hp} (s : Sub F F') {a : Addr} {vs : List V} (h : SqL K F a vs) : SqL K F' a vs := by
  rcases h with (h | ⟨o, h⟩) | h
  · exact .inl (.inl (s _ _ h))
  · exact .inl (.inr ⟨o, s _ _ h⟩)
  · exact .inr h

section
variable {e : En} {F H F' H' : Hp}

theorem reps_len : ∀ {l : List T} {vs : List V} {O : List Addr}, reps e F H l vs O → l.length = vs.length
  | [], vs, O, h => by simp only [reps] at h; simp [h.1]
  | t :: ts, vs, O, h => by
    simp only [reps] at h
    obtain ⟨x, xs, O1, O2, rfl, _, _, h2⟩ := h
    simp [reps_len h2]

mutual
theorem rep_mono (s : Sub F F') : ∀ {t : T} {x : V} {O : List Addr}, rep e F H t x O → (∀ a ∈ O, H' a = H a ∧ F' a = none) → rep e F' H' t x O
  | .hole, x, O, h, k => by simp only [rep] at h ⊢; exact h
  | .v c, x, O, h, k => by simp only [rep] at h ⊢; exact h
  | .tup l, x, O, h, k => by
    simp only [rep] at h ⊢
    obtain ⟨rfl, a, vs, h1, h2, h3⟩ := h
    exact ⟨rfl, a, vs, h1, s.sqt h2, reps_mono s h3 (by simp)⟩
  | .lst l, x, O, h, k => by
    simp only [rep] at h ⊢
    obtain ⟨rfl, a, vs, h1, h2, h3⟩ := h
    exact ⟨rfl, a, vs, h1, s _ _ h2, reps_mono s h3 (by simp)⟩
  | .kl l, x, O, h, k => by
    simp only [rep] at h ⊢
    obtain ⟨rfl, a, vs, h1, h2, h3⟩ := h
    exact ⟨rfl, a, vs, h1, s.sql h2, reps_mono s h3 (by simp)⟩
  | .own l, x, O, h, k => by
    simp only [rep] at h ⊢
    obtain ⟨a, vs, O', h1, rfl, h2, h3, h4⟩ := h
    have ka := k a (by simp)
    exact ⟨a, vs, O', h1, rfl, ka.2, ka.1.trans h3, reps_mono s h4 fun b hb => k b (by simp [hb])⟩
  | .ins C ns l, x, O, h, k => by
    simp only [rep] at h ⊢
    obtain ⟨rfl, hn, a, dx, Ca, vs, h1, h2, h3, h4⟩ := h
    exact ⟨rfl, hn, a, dx, Ca, vs, h1, h2, s _ _ h3, reps_mono s h4 (by simp)⟩
  | .oin C ns l, x, O, h, k => by
    simp only [rep] at h ⊢
    obtain ⟨hn, a, dx, Ca, vs, O', h1, h2, rfl, h3, h4, h5⟩ := h
    have ka := k a (by simp)
    exact ⟨hn, a, dx, Ca, vs, O', h1, h2, rfl, ka.2, ka.1.trans h4, reps_mono s h5 fun b hb => k b (by simp [hb])⟩
  | .xc C ns l, x, O, h, k => by
    simp only [rep] at h ⊢
    obtain ⟨rfl, hn, a, Ca, dx, vs, h1, h2, h3, h4, h5⟩ := h
    exact ⟨rfl, hn, a, Ca, dx, vs, h1, h2, h3, s _ _ h4, reps_mono s h5 (by simp)⟩
theorem reps_mono (s : Sub F F') : ∀ {l : List T} {vs : List V} {O : List Addr}, reps e F H l vs O → (∀ a ∈ O, H' a = H a ∧ F' a = none) → reps e F' H' l vs O
  | [], vs, O, h, k => by simp only [reps] at h ⊢; exact h
  | t :: ts, vs, O, h, k => by
    simp only [reps] at h ⊢
    obtain ⟨x, xs, O1, O2, h1, rfl, h2, h3⟩ := h
    exact ⟨x, xs, O1, O2, h1, rfl, rep_mono s h2 fun a ha => k a (by simp [ha]), reps_mono s h3 fun a ha => k a (by simp [ha])⟩
end

mutual
/-- the cells of a tree stand in H, not in F -/
theorem rep_at : ∀ {t : T} {x : V} {O : List Addr}, rep e F H t x O → ∀ a ∈ O, F a = none ∧ ∃ o, H a = some o
  | .hole, x, O, h => by simp only [rep] at h; simp [h]
  | .v c, x, O, h => by simp only [rep] at h; simp [h.2]
  | .tup l, x, O, h => by simp only [rep] at h; simp [h.1]
  | .lst l, x, O, h => by simp only [rep] at h; simp [h.1]
  | .kl l, x, O, h => by simp only [rep] at h; simp [h.1]
  | .ins C ns l, x, O, h => by simp only [rep] at h; simp [h.1]
  | .xc C ns l, x, O, h => by simp only [rep] at h; simp [h.1]
  | .own l, x, O, h => by
    simp only [rep] at h
    obtain ⟨a, vs, O', h1, rfl, h2, h3, h4⟩ := h
    intro b hb
    rcases List.mem_cons.mp hb with rfl | hb
    · exact ⟨h2, _, h3⟩
    · exact reps_at h4 b hb
  | .oin C ns l, x, O, h => by
    simp only [rep] at h
    obtain ⟨hn, a, dx, Ca, vs, O', h1, h2, rfl, h3, h4, h5⟩ := h
    intro b hb
    rcases List.mem_cons.mp hb with rfl | hb
    · exact ⟨h3, _, h4⟩
    · exact reps_at h5 b hb
theorem reps_at : ∀ {l : List T} {vs : List V} {O : List Addr}, reps e F H l vs O → ∀ a ∈ O, F a = none ∧ ∃ o, H a = some o
  | [], vs, O, h => by simp only [reps] at h; simp [h.2]
  | t :: ts, vs, O, h => by
    simp only [reps] at h
    obtain ⟨x, xs, O1, O2, h1, rfl, h2, h3⟩ := h
    intro b hb
    rcases List.mem_append.mp hb with hb | hb
    · exact rep_at h2 b hb
    · exact reps_at h3 b hb
end

/-! ### freezing -/
mutual
def fz : T → T
  | .hole => .hole
  | .v c => .v c
  | .tup l => .tup l
  | .lst l => .lst l
  | .kl l => .kl l
  | .own l => .lst (fzs l)
  | .ins C ns l => .ins C ns l
  | .oin C ns l => .ins C ns (fzs l)
  | .xc C ns l => .xc C ns l
def fzs : List T → List T
  | [] => []
  | t :: ts => fz t :: fzs ts
end
theorem fzs_map : ∀ l : List T, fzs l = l.map fz
  | [] => by simp only [fzs, List.map_nil]
  | t :: ts => by simp only [fzs, List.map_cons, fzs_map ts]
theorem fzs_length (l : List T) : (fzs l).length = l.length := by rw [fzs_map, List.length_map]

/-- the cells O of H are put into the frozen heap -/
def put (F H : Hp) (O : List Addr) : Hp := fun a => if a ∈ O then H a else F a
theorem put_nil (F H : Hp) : put F H [] = F := by funext a; simp [put]
theorem put_in {O : List Addr} {a : Addr} (h : a ∈ O) : put F H O a = H a := by simp [put, h]
theorem put_out {O : List Addr} {a : Addr} (h : a ∉ O) : put F H O a = F a := by simp [put, h]
theorem put_sub {O : List Addr} (h : ∀ a ∈ O, F a = none) : Sub F (put F H O) := fun a o q => by
  by_cases m : a ∈ O
  · rw [h a m] at q; cases q
  · rw [put_out m]; exact q

mutual
theorem rep_fz {O' : List Addr} (s : Sub F F') (k : ∀ a ∈ O', F' a = H a) : ∀ {t : T} {x : V} {O : List Addr}, rep e F H t x O → (∀ a ∈ O, a ∈ O') → rep e F' H (fz t) x []
  | .hole, x, O, h, m => by simp only [fz, rep]
  | .v c, x, O, h, m => by simp only [fz, rep] at h ⊢; exact ⟨h.1, trivial⟩
  | .tup l, x, O, h, m => by simp only [fz]; have z := h; simp only [rep] at z; rw [z.1] at h; exact rep_mono s h (by simp)
  | .lst l, x, O, h, m => by simp only [fz]; have z := h; simp only [rep] at z; rw [z.1] at h; exact rep_mono s h (by simp)
  | .kl l, x, O, h, m => by simp only [fz]; have z := h; simp only [rep] at z; rw [z.1] at h; exact rep_mono s h (by simp)
  | .ins C ns l, x, O, h, m => by simp only [fz]; have z := h; simp only [rep] at z; rw [z.1] at h; exact rep_mono s h (by simp)
  | .xc C ns l, x, O, h, m => by simp only [fz]; have z := h; simp only [rep] at z; rw [z.1] at h; exact rep_mono s h (by simp)
  | .own l, x, O, h, m => by
    simp only [fz, rep] at h ⊢
    obtain ⟨a, vs, O', h1, rfl, h2, h3, h4⟩ := h
    exact ⟨trivial, a, vs, h1, (k a (m a (by simp))).trans h3, reps_fz s k h4 fun b hb => m b (by simp [hb])⟩
  | .oin C ns l, x, O, h, m => by
    simp only [fz, rep] at h ⊢
    obtain ⟨hn, a, dx, Ca, vs, O', h1, h2, rfl, h3, h4, h5⟩ := h
    exact ⟨trivial, by rw [fzs_length]; exact hn, a, dx, Ca, vs, h1, h2, (k a (m a (by simp))).trans h4, reps_fz s k h5 fun b hb => m b (by simp [hb])⟩
theorem reps_fz {O' : List Addr} (s : Sub F F') (k : ∀ a ∈ O', F' a = H a) : ∀ {l : List T} {vs : List V} {O : List Addr}, reps e F H l vs O → (∀ a ∈ O, a ∈ O') → reps e F' H (fzs l) vs []
  | [], vs, O, h, m => by simp only [fzs, reps] at h ⊢; exact ⟨h.1, trivial⟩
  | t :: ts, vs, O, h, m => by
    simp only [fzs, reps] at h ⊢
    obtain ⟨x, xs, O1, O2, h1, rfl, h2, h3⟩ := h
    exact ⟨x, xs, [], [], h1, rfl, rep_fz s k h2 fun a ha => m a (by simp [ha]), reps_fz s k h3 fun a ha => m a (by simp [ha])⟩
end

/-! ### places of lists -/
theorem reps_app : ∀ {l1 l2 : List T} {vs : List V} {O : List Addr}, reps e F H (l1 ++ l2) vs O ↔
    ∃ v1 v2 O1 O2, vs = v1 ++ v2 ∧ O = O1 ++ O2 ∧ reps e F H l1 v1 O1 ∧ reps e F H l2 v2 O2
  | [], l2, vs, O => by
    constructor
    · intro h; exact ⟨[], vs, [], O, rfl, rfl, by simp [reps], h⟩
    · rintro ⟨v1, v2, O1, O2, rfl, rfl, h1, h2⟩
      simp only [reps] at h1
      obtain ⟨rfl, rfl⟩ := h1
      exact h2
  | t :: l1, l2, vs, O => by
    constructor
    · intro h
      simp only [List.cons_append, reps] at h
      obtain ⟨x, xs, O1, O2, rfl, rfl, h1, h2⟩ := h
      obtain ⟨v1, v2, P1, P2, rfl, rfl, h3, h4⟩ := reps_app.mp h2
      exact ⟨x :: v1, v2, O1 ++ P1, P2, rfl, by rw [List.append_assoc], by simp only [reps]; exact ⟨x, v1, O1, P1, rfl, rfl, h1, h3⟩, h4⟩
    · rintro ⟨v1, v2, O1, O2, rfl, rfl, h1, h2⟩
      simp only [reps] at h1
      obtain ⟨x, xs, P1, P2, rfl, rfl, h3, h4⟩ := h1
      simp only [List.cons_append, reps]
      exact ⟨x, xs ++ v2, P1, P2 ++ O2, rfl, by rw [List.append_assoc], h3, reps_app.mpr ⟨xs, v2, P2, O2, rfl, rfl, h4, h2⟩⟩
theorem reps_one {t : T} {x : V} {O : List Addr} : reps e F H [t] [x] O ↔ rep e F H t x O := by
  simp only [reps]
  constructor
  · rintro ⟨y, ys, O1, O2, h1, rfl, h2, h3, rfl⟩
    cases h1
    simpa using h2
  · intro h
    exact ⟨x, [], O, [], rfl, by simp, h, rfl, rfl⟩
/-- the place i, and what is left -/
theorem reps_split : ∀ {l : List T} {vs : List V} {O : List Addr} {i : Nat} {t : T}, reps e F H l vs O → l[i]? = some t →
    ∃ x O1 Ot O2, vs[i]? = some x ∧ O = O1 ++ Ot ++ O2 ∧ rep e F H t x Ot ∧
      ∀ {F' H' : Hp} {t' : T} {x' : V} {Ot' : List Addr}, Sub F F' → (∀ a ∈ O1 ++ O2, H' a = H a ∧ F' a = none) → rep e F' H' t' x' Ot' →
        reps e F' H' (l.set i t') (vs.set i x') (O1 ++ Ot' ++ O2)
  | [], _, _, _, _, _, h => by simp at h
  | u :: l, vs, O, 0, t, h, q => by
    simp only [reps] at h
    obtain ⟨x, xs, O1, O2, rfl, rfl, h1, h2⟩ := h
    simp only [List.getElem?_cons_zero, Option.some.injEq] at q
    subst q
    refine ⟨x, [], O1, O2, rfl, rfl, h1, fun {F' H' t' x' Ot'} s k r => ?_⟩
    simp only [List.set_cons_zero, reps]
    exact ⟨x', xs, Ot', O2, rfl, rfl, r, reps_mono s h2 fun a ha => k a (by simp [ha])⟩
  | u :: l, vs, O, i + 1, t, h, q => by
    simp only [reps] at h
    obtain ⟨x, xs, O1, O2, rfl, rfl, h1, h2⟩ := h
    simp only [List.getElem?_cons_succ] at q
    obtain ⟨y, P1, Pt, P2, e1, rfl, r1, back⟩ := reps_split h2 q
    refine ⟨y, O1 ++ P1, Pt, P2, by simpa using e1, by simp, r1, fun {F' H' t' x' Ot'} s k r => ?_⟩
    simp only [List.set_cons_succ, reps]
    exact ⟨x, xs.set i x', O1, P1 ++ Ot' ++ P2, rfl, by simp, rep_mono s h1 fun a ha => k a (by simp [ha]),
      back s (fun a ha => k a (by simp at ha ⊢; rcases ha with ha | ha <;> simp [ha])) r⟩
end
end MV

namespace MV
open PySem PySem.Spec PyProof.Rows L2

/-! ## Steps of the heaps -/
structure Stp (F H : Hp) (O : List Addr) (F' H' : Hp) (N : List Addr) : Prop where
  sub : Sub F F'
  new : ∀ a o, F' a = some o → F a = none → a ∈ O ∨ H a = none
  keep : ∀ a o, H a = some o → a ∉ O → H' a = some o
  there : ∀ a o, H a = some o → ∃ o', H' a = some o'
  own : ∀ a ∈ N, a ∈ O ∨ H a = none

section
variable {e : En} {F H F' H' F1 H1 F2 H2 : Hp} {O O1 N N1 N2 M : List Addr}
theorem Stp.rfl (h : ∀ a ∈ N, a ∈ O) : Stp F H O F H N :=
  ⟨Sub.rfl, fun a o q n => (by rw [n] at q; cases q), fun _ _ q _ => q, fun a o q => ⟨o, q⟩, fun a ha => .inl (h a ha)⟩
theorem Stp.sub_own (s : Stp F H O F' H' N) (h : ∀ a ∈ M, a ∈ N) : Stp F H O F' H' M := ⟨s.sub, s.new, s.keep, s.there, fun a ha => s.own a (h a ha)⟩
/-- a is no cell of what ran, and stood there: it stands as it was -/
theorem Stp.hid (s : Stp F H O F' H' N) {a : Addr} (ha : a ∉ O) (hF : F a = none) {o : HO} (hH : H a = some o) : H' a = H a ∧ F' a = none := by
  refine ⟨by rw [s.keep a o hH ha, hH], ?_⟩
  cases q : F' a with
  | none => exact _root_.rfl
  | some u =>
    rcases s.new a u q hF with z | z
    · exact absurd z ha
    · rw [hH] at z; cases z
theorem Stp.rep (s : Stp F H O F' H' N) {t : T} {x : V} {P : List Addr} (r : rep e F H t x P) (h : ∀ a ∈ P, a ∉ O) : MV.rep e F' H' t x P :=
  rep_mono s.sub r fun a ha => by
    obtain ⟨h1, o, h2⟩ := rep_at r a ha
    exact s.hid (h a ha) h1 h2
theorem Stp.reps (s : Stp F H O F' H' N) {l : List T} {vs : List V} {P : List Addr} (r : reps e F H l vs P) (h : ∀ a ∈ P, a ∉ O) : MV.reps e F' H' l vs P :=
  reps_mono s.sub r fun a ha => by
    obtain ⟨h1, o, h2⟩ := reps_at r a ha
    exact s.hid (h a ha) h1 h2
theorem Stp.tr (s : Stp F H O F1 H1 N1) (t : Stp F1 H1 O1 F2 H2 N2) (h1 : ∀ a ∈ O1, a ∈ N1) (h2 : ∀ a ∈ M, a ∈ N2 ∨ a ∈ N1) : Stp F H O F2 H2 M := by
  have back : ∀ a, a ∈ O1 ∨ H1 a = none → a ∈ O ∨ H a = none := fun a h => by
    rcases h with h | h
    · exact s.own a (h1 a h)
    · cases q : H a with
      | none => exact .inr (Eq.refl _)
      | some o =>
        obtain ⟨o', z⟩ := s.there a o q
        rw [h] at z; cases z
  refine ⟨s.sub.tr t.sub, fun a o q n => ?_, fun a o q n => ?_, fun a o q => ?_, fun a ha => ?_⟩
  · cases z : F1 a with
    | none => exact back a (t.new a o q z)
    | some u => exact s.new a u z n
  · refine t.keep a o (s.keep a o q n) fun m => ?_
    rcases back a (.inl m) with z | z
    · exact n z
    · rw [q] at z; cases z
  · obtain ⟨u, z⟩ := s.there a o q
    exact t.there a u z
  · rcases h2 a ha with m | m
    · exact back a (t.own a m)
    · exact s.own a m
end

/-! ## The state of a frame -/
structure Sta (e : En) (bor : Option V) (F H : Hp) (τ : L2.St) (σ : List T) (O : List Addr) : Prop where
  sub : Sub F H
  nd : O.Nodup
  len : τ.length = σ.length
  vals : ∃ vs, reps e F H σ vs O ∧ ∀ (i : Nat) (t : T) (x : V), σ[i]? = some t → t.isHole = false → vs[i]? = some x → τ[i]? = some (some x)
  bor : ∀ x, bor = some x → τ[0]? = some (some x)

inductive Res (α : Type) where
  | ok (a : α) (σ : List T)
  | exc (C : Str) (ns : List Str) (ts : List T) (σ : List T)
  | stuck

def Res.bind {α β : Type} : Res α → (α → List T → Res β) → Res β
  | .ok a σ, k => k a σ
  | .exc C ns ts σ, _ => .exc C ns ts σ
  | .stuck, _ => .stuck

structure Ct where
  e : En
  bor : Option V
  W : WX

/-- a raised exception's own part -/
def XR (e : En) (F H : Hp) (C : Str) (ns : List Str) (ts : List T) (Ca : Addr) (d : Option Addr) : Prop :=
  e.mg C = some (.ref Ca) ∧ ns.length = ts.length ∧
    ((ns = [] ∧ d = none) ∨ ∃ dx vs, d = some dx ∧ F dx = some (.xd (ns.zip vs)) ∧ reps e F H ts vs [])

def Post {α β : Type} (c : Ct) (R : Hp → Hp → α → β → List Addr → Prop) (F H : Hp) (O : List Addr) (τ : L2.St) (Q : β → Hp → Prop) : Res α → Prop
  | .ok a σ' => ∀ F' H' O' b P, Sta c.e c.bor F' H' τ σ' O' → R F' H' a b P → (O' ++ P).Nodup → Stp F H O F' H' (O' ++ P) → Q b H'
  | .exc C ns ts σ' => ∀ F' H' O' Ca d, Sta c.e c.bor F' H' τ σ' O' → Stp F H O F' H' O' → XR c.e F' H' C ns ts Ca d → c.W (.ref Ca) d τ H'
  | .stuck => False

def Tm {α β : Type} (c : Ct) (R : Hp → Hp → α → β → List Addr → Prop) (f : List T → Res α) : L2.St → Hp → (β → Hp → Prop) → Prop :=
  fun τ H Q => ∃ F σ O, Sta c.e c.bor F H τ σ O ∧ Post c R F H O τ Q (f σ)

abbrev RT (e : En) : Hp → Hp → T → V → List Addr → Prop := rep e
abbrev RTs (e : En) : Hp → Hp → List T → List V → List Addr → Prop := reps e
def RB {α : Type} : Hp → Hp → α → α → List Addr → Prop := fun _ _ a b O => a = b ∧ O = []
abbrev tE (c : Ct) (f : List T → Res T) : TE := Tm c (RT c.e) f
abbrev tT (c : Ct) (f : List T → Res Bool) : TT := Tm c RB f
abbrev tA (c : Ct) (f : List T → Res (List T)) : TA := Tm c (RTs c.e) f

theorem Post.mono {α β : Type} {c : Ct} {R : Hp → Hp → α → β → List Addr → Prop} {F H : Hp} {O : List Addr} {τ : L2.St} {Q Q' : β → Hp → Prop} {r : Res α}
    (p : Post c R F H O τ Q r) (h : ∀ b H1, Q b H1 → Q' b H1) : Post c R F H O τ Q' r := by
  cases r with
  | ok a σ' => exact fun F' H' O' b P s r n t => h _ _ (p F' H' O' b P s r n t)
  | exc C ns ts σ' => exact p
  | stuck => exact p
theorem Tm.mono {α β : Type} {c : Ct} {R : Hp → Hp → α → β → List Addr → Prop} {f : List T → Res α} {τ : L2.St} {H : Hp} {Q Q' : β → Hp → Prop}
    (p : Tm c R f τ H Q) (h : ∀ b H1, Q b H1 → Q' b H1) : Tm c R f τ H Q' := by
  obtain ⟨F, σ, O, s, q⟩ := p
  exact ⟨F, σ, O, s, q.mono h⟩

/-- in the middle of a run that began at F, H, O: the state now, and the cells P that are held beside it -/
structure Mid (c : Ct) (F H : Hp) (O : List Addr) (τ : L2.St) (σ' : List T) (F' H' : Hp) (O' P : List Addr) : Prop where
  st : Sta c.e c.bor F' H' τ σ' O'
  nd : (O' ++ P).Nodup
  stp : Stp F H O F' H' (O' ++ P)

section
variable {α β γ δ : Type} {c : Ct} {F H F1 H1 F2 H2 : Hp} {O O1 O2 P P1 P2 : List Addr} {τ : L2.St} {σ σ1 σ2 : List T}
  {R : Hp → Hp → α → β → List Addr → Prop} {R' : Hp → Hp → γ → δ → List Addr → Prop} {Q : δ → Hp → Prop}
theorem Mid.start (s : Sta c.e c.bor F H τ σ O) : Mid c F H O τ σ F H O [] := ⟨s, by simpa using s.nd, Stp.rfl (by simp)⟩
theorem nd_disj {A B : List Addr} (h : (A ++ B).Nodup) : ∀ a ∈ B, a ∉ A := fun a hb ha => (List.nodup_append.mp h).2.2 a ha a hb _root_.rfl
theorem Mid.disj (m : Mid c F H O τ σ F1 H1 O1 P) : ∀ a ∈ P, a ∉ O1 := nd_disj m.nd
theorem nd_app {A B : List Addr} (ha : A.Nodup) (hb : B.Nodup) (h : ∀ a ∈ B, a ∉ A) : (A ++ B).Nodup :=
  List.nodup_append.mpr ⟨ha, hb, fun a h1 b h2 z => h b h2 (z ▸ h1)⟩
theorem Mid.after (m : Mid c F H O τ σ1 F1 H1 O1 P) (s : Sta c.e c.bor F2 H2 τ σ2 O2) (n : (O2 ++ P2).Nodup) (t : Stp F1 H1 O1 F2 H2 (O2 ++ P2)) (hP : ∀ a ∈ P, ∃ o, H1 a = some o) :
    Mid c F H O τ σ2 F2 H2 O2 (P2 ++ P) := by
  refine ⟨s, ?_, m.stp.tr t (by intro a ha; simp [ha]) (by intro a ha; simp at ha ⊢; rcases ha with h | h | h <;> simp [h])⟩
  rw [← List.append_assoc]
  refine nd_app n (List.nodup_append.mp m.nd).2.1 fun a ha hb => ?_
  rcases t.own a hb with z | z
  · exact m.disj a ha z
  · obtain ⟨o, q⟩ := hP a ha
    rw [z] at q; cases q
/-- a further part runs -/
theorem Mid.run (m : Mid c F H O τ σ1 F1 H1 O1 P) (hP : ∀ a ∈ P, ∃ o, H1 a = some o) {g : List T → Res α} {k : α → List T → Res γ} (p : Post c R' F H O τ Q ((g σ1).bind k)) :
    Tm c R g τ H1 fun y H2 => ∃ u σ2 F2 O2 P2, Mid c F H O τ σ2 F2 H2 O2 (P2 ++ P) ∧ R F2 H2 u y P2 ∧ Stp F1 H1 O1 F2 H2 (O2 ++ P2) ∧ Post c R' F H O τ Q (k u σ2) := by
  refine ⟨F1, σ1, O1, m.st, ?_⟩
  cases q : g σ1 with
  | ok u σ2 =>
    rw [q] at p
    exact fun F2 H2 O2 y P2 s r n t => ⟨u, σ2, F2, O2, P2, m.after s n t hP, r, t, p⟩
  | exc C ns ts σ2 =>
    rw [q] at p
    exact fun F2 H2 O2 Ca d s t x => p F2 H2 O2 Ca d s (m.stp.tr t (by intro a ha; simp [ha]) fun a ha => .inl ha) x
  | stuck => rw [q] at p; exact p.elim
theorem Mid.fin {Q : β → Hp → Prop} (m : Mid c F H O τ σ1 F1 H1 O1 P) {a : α} {b : β} (p : Post c R F H O τ Q (.ok a σ1)) (r : R F1 H1 a b P1) (n : P1.Nodup) (h : ∀ a ∈ P1, a ∈ P) : Q b H1 :=
  p F1 H1 O1 b P1 m.st r (nd_app (List.nodup_append.mp m.nd).1 n fun a ha => m.disj a (h a ha)) (m.stp.sub_own fun a ha => by
    rcases List.mem_append.mp ha with z | z
    · simp [z]
    · simp [h a z])
end
theorem RB.fin {α : Type} {c : Ct} {F H F1 H1 : Hp} {O O1 P : List Addr} {τ : L2.St} {σ1 : List T} {Q : α → Hp → Prop} {a : α} (m : Mid c F H O τ σ1 F1 H1 O1 P)
    (p : Post c RB F H O τ Q (.ok a σ1)) : Q a H1 := m.fin (P1 := []) p ⟨_root_.rfl, _root_.rfl⟩ List.nodup_nil (by simp)

/-! ## Weakening of the readings -/
section
variable {X : Cx}
theorem _root_.L2.PE.wk {e : Expr} {t t' : TE} (h : PE X e t) (k : ∀ σ H Q, t' σ H Q → t σ H Q) : PE X e t' := ⟨fun p s σ H Q I q => h.run p s σ H Q I (k σ H Q q)⟩
theorem _root_.L2.PT.wk {e : Expr} {t t' : TT} (h : PT X e t) (k : ∀ σ H Q, t' σ H Q → t σ H Q) : PT X e t' := ⟨fun p s σ H Q I q => h.run p s σ H Q I (k σ H Q q)⟩
theorem _root_.L2.PW.wk {e : Expr} {t t' : TT} (h : PW X e t) (k : ∀ σ H Q, t' σ H Q → t σ H Q) : PW X e t' := ⟨fun w p s σ H Q I q => h.run w p s σ H Q I (k σ H Q q)⟩
theorem _root_.L2.PA.wk {es : List Expr} {t t' : TA} (h : PA X es t) (k : ∀ σ H Q, t' σ H Q → t σ H Q) : PA X es t' := ⟨fun w p s σ H Q I q => h.run w p s σ H Q I (k σ H Q q)⟩
theorem _root_.L2.PS.wk {st : Stmt} {t t' : TS} (h : PS X st t) (k : ∀ D σ H, t' D σ H → t D σ H) : PS X st t' := ⟨fun p s σ H D I q => h.run p s σ H D I (k D σ H q)⟩
theorem _root_.L2.PSs.wk {st : List Stmt} {t t' : TS} (h : PSs X st t) (k : ∀ D σ H, t' D σ H → t D σ H) : PSs X st t' := ⟨fun p s σ H D I q => h.run p s σ H D I (k D σ H q)⟩
theorem _root_.L2.PG.wk {e : Expr} {t t' : TG} (h : PG X e t) (k : ∀ v σ H Q, t' v σ H Q → t v σ H Q) : PG X e t' := ⟨fun p s σ H v u Q I r q => h.run p s σ H v u Q I r (k v σ H Q q)⟩
theorem _root_.L2.PI.wk {tg e : Expr} {t t' : TI} (h : PI X tg e t) (k : ∀ σ H Q, t' σ H Q → t σ H Q) : PI X tg e t' := ⟨fun p s σ H Q I q => h.run p s σ H Q I (k σ H Q q)⟩
end
end MV

namespace MV
open PySem PySem.Spec PyProof.Rows L2

/-! ## New objects, freezing of temps -/
structure Alc (F H : Hp) (P : List Addr) (F' H' : Hp) (P' : List Addr) : Prop where
  stp : Stp F H P F' H' P'
  sub : Sub F' H'
  nd : P'.Nodup

section
variable {e : En} {F H F1 H1 F2 H2 : Hp} {P P1 P2 O O1 : List Addr}
theorem Alc.rfl (s : Sub F H) (n : P1.Nodup) (h : ∀ a ∈ P1, a ∈ P) : Alc F H P F H P1 := ⟨Stp.rfl h, s, n⟩
theorem Sub.put (s : Sub F H) {O : List Addr} : Sub (put F H O) H := fun a o q => by
  by_cases m : a ∈ O
  · rw [put_in m] at q; exact q
  · rw [put_out m] at q; exact s a o q
/-- the cells P1 (of P) are frozen -/
theorem Alc.freeze (s : Sub F H) (n : ∀ a ∈ P1, F a = none) (h : ∀ a ∈ P1, a ∈ P) : Alc F H P (put F H P1) H [] := by
  refine ⟨⟨put_sub n, fun a o q z => ?_, fun _ _ q _ => q, fun a o q => ⟨o, q⟩, by simp⟩, s.put, List.nodup_nil⟩
  by_cases m : a ∈ P1
  · exact .inl (h a m)
  · rw [put_out m, z] at q; cases q
theorem Alc.tr (s : Alc F H P F1 H1 P1) (t : Alc F1 H1 P1 F2 H2 P2) : Alc F H P F2 H2 P2 :=
  ⟨s.stp.tr t.stp (fun _ h => h) fun _ h => .inl h, t.sub, t.nd⟩
theorem Sub.no (s : Sub F H) {a : Addr} (h : H a = none) : F a = none := by
  cases q : F a with
  | none => exact _root_.rfl
  | some o => rw [s a o q] at h; cases h
theorem Sub.upd2 (s : Sub F H) {a : Addr} {o : HO} (h : H a = none) : Sub (upd F a o) (upd H a o) := fun b u q => by
  by_cases m : b = a
  · subst m; rw [upd_same] at q ⊢; exact q
  · rw [upd_ne m] at q ⊢; exact s b u q
theorem Sub.upd1 (s : Sub F H) {a : Addr} {o : HO} (h : H a = none) : Sub F (upd H a o) := fun b u q => by
  have m : b ≠ a := fun z => by rw [z, s.no h] at q; cases q
  rw [upd_ne m]; exact s b u q
theorem Sub.updF (s : Sub F H) {a : Addr} {o : HO} (h : F a = none) : Sub F (upd F a o) := fun b u q => by
  have m : b ≠ a := fun z => by rw [z, h] at q; cases q
  rw [upd_ne m]; exact q
/-- a new frozen object -/
theorem Alc.newF (s : Sub F H) {a : Addr} {o : HO} (h : H a = none) : Alc F H P (upd F a o) (upd H a o) [] := by
  refine ⟨⟨s.updF (s.no h), fun b u q z => ?_, fun b u q _ => ?_, fun b u q => ?_, by simp⟩, s.upd2 h, List.nodup_nil⟩
  · by_cases m : b = a
    · subst m; exact .inr h
    · rw [upd_ne m, z] at q; cases q
  · have m : b ≠ a := fun z => by rw [z, h] at q; cases q
    rw [upd_ne m]; exact q
  · have m : b ≠ a := fun z => by rw [z, h] at q; cases q
    rw [upd_ne m]; exact ⟨u, q⟩
/-- a new cell -/
theorem Alc.newO (s : Sub F H) {a : Addr} {o : HO} (h : H a = none) (n : P.Nodup) (hP : ∀ b ∈ P, ∃ o, H b = some o) : Alc F H P F (upd H a o) (a :: P) := by
  refine ⟨⟨Sub.rfl, fun b u q z => (by rw [z] at q; cases q), fun b u q _ => ?_, fun b u q => ?_, fun b hb => ?_⟩, s.upd1 h, List.nodup_cons.mpr ⟨fun z => ?_, n⟩⟩
  · have m : b ≠ a := fun z => by rw [z, h] at q; cases q
    rw [upd_ne m]; exact q
  · have m : b ≠ a := fun z => by rw [z, h] at q; cases q
    rw [upd_ne m]; exact ⟨u, q⟩
  · rcases List.mem_cons.mp hb with rfl | hb
    · exact .inr h
    · exact .inl hb
  · obtain ⟨o, q⟩ := hP a z
    rw [h] at q; cases q
theorem Mid.alc {c : Ct} {τ : L2.St} {σ1 : List T} (m : Mid c F H O τ σ1 F1 H1 O1 P) (t : Alc F1 H1 P F2 H2 P2) : Mid c F H O τ σ1 F2 H2 O1 P2 := by
  obtain ⟨vs, r, hv⟩ := m.st.vals
  have dj := m.disj
  have hO := reps_at r
  refine ⟨⟨t.sub, m.st.nd, m.st.len, ⟨vs, t.stp.reps r fun a ha hp => dj a hp ha, hv⟩, m.st.bor⟩, nd_app m.st.nd t.nd fun a ha hb => ?_,
    m.stp.tr t.stp (by intro a ha; simp [ha]) (by intro a ha; rcases List.mem_append.mp ha with h | h <;> simp [h])⟩
  rcases t.stp.own a ha with z | z
  · exact dj a z hb
  · obtain ⟨_, o, q⟩ := hO a hb
    rw [z] at q; cases q

/-! ## Shapes of trees -/
def seqL : T → Option (List T)
  | .lst l => some l
  | .own l => some l
  | .kl l => some l
  | _ => none
def lstL : T → Option (List T)
  | .lst l => some l
  | .own l => some l
  | _ => none
theorem rep_seqL {K : PySem.W.Frag} (hK : e.K = K) (s : Sub F H) {t : T} {l : List T} {x : V} (h : seqL t = some l) (r : rep e F H t x P) :
    ∃ a vs P', x = .ref a ∧ SqL K H a vs ∧ reps e F H l vs P' ∧ (∀ b ∈ P', b ∈ P) ∧ (P.Nodup → P'.Nodup) := by
  subst hK
  cases t <;> simp only [seqL, Option.some.injEq, reduceCtorEq] at h <;> subst h <;> simp only [rep] at r
  · obtain ⟨rfl, a, vs, h1, h2, h3⟩ := r
    exact ⟨a, vs, [], h1, .inl (.inl (s _ _ h2)), h3, by simp, by simp⟩
  · obtain ⟨a, vs, O', h1, rfl, h2, h3, h4⟩ := r
    exact ⟨a, vs, O', h1, .inl (.inl h3), h4, fun b hb => by simp [hb], fun n => (List.nodup_cons.mp n).2⟩
  · obtain ⟨rfl, a, vs, h1, h2, h3⟩ := r
    exact ⟨a, vs, [], h1, s.sql h2, h3, by simp, by simp⟩
theorem rep_lstL (s : Sub F H) {t : T} {l : List T} {x : V} (h : lstL t = some l) (r : rep e F H t x P) :
    ∃ a vs P', x = .ref a ∧ H a = some (.lst vs) ∧ reps e F H l vs P' ∧ (∀ b ∈ P', b ∈ P) ∧ (P.Nodup → P'.Nodup) := by
  cases t <;> simp only [lstL, Option.some.injEq, reduceCtorEq] at h <;> subst h <;> simp only [rep] at r
  · obtain ⟨rfl, a, vs, h1, h2, h3⟩ := r
    exact ⟨a, vs, [], h1, s _ _ h2, h3, by simp, by simp⟩
  · obtain ⟨a, vs, O', h1, rfl, h2, h3, h4⟩ := r
    exact ⟨a, vs, O', h1, h3, h4, fun b hb => by simp [hb], fun n => (List.nodup_cons.mp n).2⟩
theorem rep_tup {l : List T} {x : V} (r : rep e F H (.tup l) x P) : P = [] ∧ ∃ a vs, x = .ref a ∧ SqT e.K F a vs ∧ reps e F H l vs [] := by
  simpa only [rep] using r
theorem rep_v {x y : V} (r : rep e F H (.v y) x P) : x = y ∧ P = [] := by simpa only [rep] using r
theorem rep_v' {y : V} : rep e F H (.v y) y [] := by simp [rep]
/-- places of a read list -/
theorem reps_at? {l : List T} {vs : List V} (r : reps e F H l vs P) {i : Int} {t : T} (h : atI l i = some t) :
    ∃ x Pt, atI vs i = some x ∧ rep e F H t x Pt ∧ (∀ b ∈ Pt, b ∈ P) ∧ (P.Nodup → Pt.Nodup) := by
  unfold atI at h ⊢
  rw [← reps_len r]
  cases q : ixN l.length i with
  | none => rw [q] at h; cases h
  | some j =>
    rw [q] at h
    obtain ⟨x, A, Pt, B, e1, rfl, r1, _⟩ := reps_split r h
    exact ⟨x, Pt, e1, r1, fun b hb => by simp [hb], fun n => (List.nodup_append.mp (List.nodup_append.mp n).1).2.1⟩
end

/-! ## Operators by values -/
abbrev OS := T → T → Option T
/-- the rule r, at trees, gives what s says -/
def OpOk (e : En) (r : R2) (s : OS) : Prop := ∀ (F H : Hp) (P1 P2 P : List Addr) (t u w : T) (x y : V) (Q : VK), Sub F H → rep e F H t x P1 → rep e F H u y P2 → P.Nodup → (∀ a ∈ P, ∃ o, H a = some o) →
  (∀ a ∈ P1, a ∈ P) → (∀ a ∈ P2, a ∈ P) → (∀ a ∈ P1, a ∉ P2) → P1.Nodup → P2.Nodup → s t u = some w →
  (∀ F' H' z P', Alc F H P F' H' P' → rep e F' H' w z P' → Q z H') → r x y H Q
def US (e : En) (r : V → Hp → VK → Prop) (s : T → Option T) : Prop := ∀ (F H : Hp) (P : List Addr) (t w : T) (x : V) (Q : VK), Sub F H → rep e F H t x P → P.Nodup → s t = some w →
  (∀ F' H' z P', Alc F H P F' H' P' → rep e F' H' w z P' → Q z H') → r x H Q
def rOr (r r' : R2) : R2 := fun x y H Q => r x y H Q ∨ r' x y H Q
theorem OpR.or {X : Cx} {f : Value → Value → Sem Value} {r r' : R2} (h : OpR X f r) (h' : OpR X f r') : OpR X f (rOr r r') := fun p s σ H x y v u Q I rx ry q =>
  q.elim (h p s σ H x y v u Q I rx ry) (h' p s σ H x y v u Q I rx ry)
def sOr (s s' : OS) : OS := fun t u => (s t u).orElse fun _ => s' t u
theorem OpOk.or {e : En} {r r' : R2} {s s' : OS} (h : OpOk e r s) (h' : OpOk e r' s') : OpOk e (rOr r r') (sOr s s') := by
  intro F H P1 P2 P t u w x y Q sb r1 r2 n hP m1 m2 dj n1 n2 hs k
  unfold sOr at hs
  cases q : s t u with
  | some z =>
    rw [q] at hs
    cases hs
    exact .inl (h F H P1 P2 P t u w x y Q sb r1 r2 n hP m1 m2 dj n1 n2 q k)
  | none =>
    rw [q] at hs
    exact .inr (h' F H P1 P2 P t u w x y Q sb r1 r2 n hP m1 m2 dj n1 n2 hs k)

def mOp2 (s : OS) (f g : List T → Res T) : List T → Res T := fun σ => (f σ).bind fun t σ1 => (g σ1).bind fun u σ2 =>
  match s t u with
  | some w => .ok w σ2
  | none => .stuck
section
variable {X : Cx} {c : Ct} {a b : Expr} {f g : List T → Res T} {pos : Pos}
theorem rep_some {e : En} {F H : Hp} {t : T} {x : V} {P : List Addr} (r : rep e F H t x P) : ∀ a ∈ P, ∃ o, H a = some o := fun a ha => (rep_at r a ha).2
theorem op2_wk {r : R2} {s : OS} (ok : OpOk c.e r s) (τ : L2.St) (H : Hp) (Q : VK) (h : tE c (mOp2 s f g) τ H Q) : tOp r (tE c f) (tE c g) τ H Q := by
  obtain ⟨F, σ, O, st, p⟩ := h
  refine Tm.mono ((Mid.start st).run (by simp) (g := f) p) fun x H1 ⟨t, σ1, F1, O1, P1, m1, r1, s1, p1⟩ => ?_
  refine Tm.mono (m1.run (by simpa using rep_some r1) (g := g) p1) fun y H2 ⟨u, σ2, F2, O2, P2, m2, r2, s2, p2⟩ => ?_
  have d1 : ∀ a ∈ P1, a ∉ O1 := fun a ha => m1.disj a (by simp [ha])
  have r1' := s2.rep r1 d1
  rw [List.append_nil] at m2
  have nP := (List.nodup_append.mp m2.nd).2.1
  cases q : s t u with
  | none => rw [q] at p2; exact p2.elim
  | some w =>
    rw [q] at p2
    refine ok F2 H2 P1 P2 (P2 ++ P1) t u w x y Q m2.st.sub r1' r2 nP (fun a ha => ?_) (by intro a h; simp [h]) (by intro a h; simp [h]) (fun a h1 h2 => (List.nodup_append.mp nP).2.2 a h2 a h1 rfl)
      (List.nodup_append.mp nP).2.1 (List.nodup_append.mp nP).1 q fun F' H' z P' al rz => ?_
    · rcases List.mem_append.mp ha with h | h
      · exact rep_some r2 a h
      · exact rep_some r1' a h
    · exact (m2.alc al).fin p2 rz al.nd fun _ h => h
theorem e_op {op : Operator} {r : R2} {s : OS} (ho : OpR X (binaryOp op) r) (ok : OpOk c.e r s) (ha : PE X a (tE c f)) (hb : PE X b (tE c g)) :
    PE X (.BinOp a op b pos) (tE c (mOp2 s f g)) := (pe_op ho ha hb).wk (op2_wk ok)
theorem e_cmp {op : CmpOp} {r : R2} {s : OS} (ho : OpR X (compareOp op) r) (ok : OpOk c.e r s) (ha : PE X a (tE c f)) (hb : PE X b (tE c g)) (hm : behindInMarks op b = false) :
    PE X (.Compare a [op] [b] pos) (tE c (mOp2 s f g)) := (pe_cmpR ho ha hb hm).wk (op2_wk ok)
theorem e_ix {r : R2} {s : OS} (hr : IxR X r) (ok : OpOk c.e r s) (ha : PE X a (tE c f)) (hb : PE X b (tE c g)) (hs : PlainIx b) :
    PE X (.Subscript a b pos) (tE c (mOp2 s f g)) := (pe_ix hr ha hb hs).wk (op2_wk ok)
/-- a bool value as a test -/
def mBl (f : List T → Res T) : List T → Res Bool := fun σ => (f σ).bind fun t σ1 =>
  match t with
  | .v (.bl k) => .ok k σ1
  | _ => .stuck
theorem test_wk {f : List T → Res T} (τ : L2.St) (H : Hp) (Q : Bool → Hp → Prop) (h : tT c (mBl f) τ H Q) : tTest (tE c f) τ H Q := by
  obtain ⟨F, σ, O, st, p⟩ := h
  refine Tm.mono ((Mid.start st).run (by simp) (g := f) p) fun x H1 ⟨t, σ1, F1, O1, P1, m1, r1, s1, p1⟩ => ?_
  split at p1
  · obtain ⟨rfl, _⟩ := rep_v r1
    exact ⟨_, rfl, RB.fin m1 p1⟩
  · exact p1.elim
theorem tTest_mono {t : TE} {u : TE} {τ : L2.St} {H : Hp} {Q : Bool → Hp → Prop} (k : ∀ σ H Q, t σ H Q → u σ H Q) (h : tTest t τ H Q) : tTest u τ H Q := k _ _ _ h
theorem t_cmp {op : CmpOp} {r : R2} {s : OS} (ho : OpR X (compareOp op) r) (ok : OpOk c.e r s) (ha : PE X a (tE c f)) (hb : PE X b (tE c g)) (hm : behindInMarks op b = false) :
    PT X (.Compare a [op] [b] pos) (tT c (mBl (mOp2 s f g))) := (pt_cmpR ho ha hb hm).wk fun τ H Q h => tTest_mono (op2_wk ok) (test_wk τ H Q h)
end

/-! ### ints -/
def iOp (g : Int → Int → Option V) : OS := fun t u =>
  match t, u with
  | .v (.int i), .v (.int j) => (g i j).map T.v
  | _, _ => none
theorem iOp_inv {g : Int → Int → Option V} {t u w : T} (h : iOp g t u = some w) : ∃ i j z, t = .v (.int i) ∧ u = .v (.int j) ∧ g i j = some z ∧ w = .v z := by
  unfold iOp at h
  split at h
  · rename_i i j
    cases q : g i j with
    | none => rw [q] at h; cases h
    | some z => rw [q] at h; cases h; exact ⟨i, j, z, rfl, rfl, q, rfl⟩
  · cases h
theorem ok_iOp {e : En} {r : R2} {g : Int → Int → Option V} (h : ∀ i j z H Q, g i j = some z → Q z H → r (.int i) (.int j) H Q) : OpOk e r (iOp g) := by
  intro F H P1 P2 P t u w x y Q sb r1 r2 n hP m1 m2 dj n1 n2 hs k
  obtain ⟨i, j, z, rfl, rfl, hg, rfl⟩ := iOp_inv hs
  obtain ⟨rfl, rfl⟩ := rep_v r1
  obtain ⟨rfl, rfl⟩ := rep_v r2
  exact h i j z H Q hg (k F H z [] (Alc.rfl sb (by simp) (by simp)) rep_v')
theorem ok_rI0 {e : En} {g : Int → Int → V} : OpOk e (rI0 g) (iOp fun i j => some (g i j)) := ok_iOp fun i j z H Q h q => by cases h; exact ⟨i, j, rfl, rfl, q⟩
theorem ok_rI {e : En} {C : Int → Int → Prop} {g : Int → Int → V} {C' : Int → Int → Bool} (hc : ∀ i j, C' i j = true → C i j) : OpOk e (rI C g) (iOp fun i j => if C' i j then some (g i j) else none) :=
  ok_iOp fun i j z H Q h q => by
    split at h
    · rename_i hh; cases h; exact ⟨i, j, rfl, rfl, hc i j hh, q⟩
    · cases h
def mulB (i j : Int) : Bool := decide (i.natAbs.log2 + j.natAbs.log2 < 1000000)
def divB (_ j : Int) : Bool := decide (0 < j) && decide (j.natAbs.log2 < 9000)
def modB (_ j : Int) : Bool := decide (0 < j)
def sAdd : OS := iOp fun i j => some (.int (i + j))
def sSub : OS := iOp fun i j => some (.int (i - j))
def sMul : OS := iOp fun i j => if mulB i j then some (.int (i * j)) else none
def sDiv : OS := iOp fun i j => if divB i j then some (.int (i / j)) else none
def sMod : OS := iOp fun i j => if modB i j then some (.int (i % j)) else none
def powB (i j : Int) : Bool := decide (0 ≤ j) && decide (j ≤ 1000000) && decide (i.natAbs < 2 ^ 64)
def sPow : OS := iOp fun i j => if powB i j then some (.int (i ^ j.toNat)) else none
def sLt : OS := iOp fun i j => some (.bl (decide (i < j)))
def sLe : OS := iOp fun i j => some (.bl (decide (i ≤ j)))
def sGt : OS := iOp fun i j => some (.bl (decide (j < i)))
def sGe : OS := iOp fun i j => some (.bl (decide (j ≤ i)))
section
variable {X : Cx} {e : En}
theorem ok_add : OpOk e (rI0 fun i j => .int (i + j)) sAdd := ok_rI0
theorem ok_sub : OpOk e (rI0 fun i j => .int (i - j)) sSub := ok_rI0
theorem ok_mul : OpOk e (rI CMulW fun i j => .int (i * j)) sMul := ok_rI fun i j h => by
  unfold mulB at h; simp only [decide_eq_true_eq] at h; exact h
theorem ok_div : OpOk e (rI CDivW fun i j => .int (i / j)) sDiv := ok_rI fun i j h => by
  unfold divB at h; simp only [Bool.and_eq_true, decide_eq_true_eq] at h; exact h
theorem ok_mod : OpOk e (rI (fun _ j => 0 < j) fun i j => .int (i % j)) sMod := ok_rI fun i j h => of_decide_eq_true h
theorem ok_pow : OpOk e (rI CPow fun i j => .int (i ^ j.toNat)) sPow := ok_rI fun i j h => by
  unfold powB at h; simp only [Bool.and_eq_true, decide_eq_true_eq] at h; exact ⟨h.1.1, h.1.2, h.2⟩
theorem ok_lt : OpOk e (rI0 fun i j => .bl (decide (i < j))) sLt := ok_rI0
theorem ok_le : OpOk e (rI0 fun i j => .bl (decide (i ≤ j))) sLe := ok_rI0
theorem ok_gt : OpOk e (rI0 fun i j => .bl (decide (j < i))) sGt := ok_rI0
theorem ok_ge : OpOk e (rI0 fun i j => .bl (decide (j ≤ i))) sGe := ok_rI0
end

/-! ### constants, names, None -/
def mC (t : T) : List T → Res T := fun σ => .ok t σ
section
variable {X : Cx} {c : Ct}
theorem const_wk {v : V} (τ : L2.St) (H : Hp) (Q : VK) (h : tE c (mC (.v v)) τ H Q) : tC v τ H Q := by
  obtain ⟨F, σ, O, st, p⟩ := h
  exact (Mid.start st).fin p rep_v' (by simp) (by simp)
theorem e_c {e : Expr} {v : V} (h : PE X e (tC v)) : PE X e (tE c (mC (.v v))) := h.wk const_wk
def mVar (i : Nat) : List T → Res T := fun σ =>
  match σ[i]? with
  | some t => if t.isHole then .stuck else .ok (fz t) (σ.set i (fz t))
  | none => .stuck
/-- what a slot holds -/
theorem Sta.slot {e : En} {bor : Option V} {F H : Hp} {τ : L2.St} {σ : List T} {O : List Addr} (s : Sta e bor F H τ σ O) {i : Nat} {t : T} (h : σ[i]? = some t) (hh : t.isHole = false) :
    ∃ x O1 Ot O2, τ[i]? = some (some x) ∧ O = O1 ++ Ot ++ O2 ∧ rep e F H t x Ot ∧
      ∀ {F' H' : Hp} {t' : T} {Ot' : List Addr}, Sub F F' → Sub F' H' → (∀ a ∈ O1 ++ O2, H' a = H a ∧ F' a = none) → rep e F' H' t' x Ot' → (O1 ++ Ot' ++ O2).Nodup →
        Sta e bor F' H' τ (σ.set i t') (O1 ++ Ot' ++ O2) := by
  obtain ⟨vs, r, hv⟩ := s.vals
  obtain ⟨x, O1, Ot, O2, e1, rfl, r1, back⟩ := reps_split r h
  refine ⟨x, O1, Ot, O2, hv i t x h hh e1, rfl, r1, fun {F' H' t' Ot'} s1 s2 k r' n => ?_⟩
  refine ⟨s2, n, by simpa using s.len, ⟨vs.set i x, back s1 k r', fun j u y h1 h2 h3 => ?_⟩, s.bor⟩
  by_cases hj : j = i
  · subst hj
    have hlt : j < vs.length := by
      rw [← reps_len r]
      exact (List.getElem?_eq_some_iff.mp h).1
    rw [List.getElem?_set_self hlt] at h3
    cases h3
    exact hv j t x h hh e1
  · rw [List.getElem?_set_ne (Ne.symm hj)] at h1 h3
    exact hv j u y h1 h2 h3
theorem nd3 {A B C : List Addr} (h : (A ++ B ++ C).Nodup) : A.Nodup ∧ B.Nodup ∧ C.Nodup ∧ (∀ a ∈ A, a ∉ B) ∧ (∀ a ∈ A, a ∉ C) ∧ (∀ a ∈ B, a ∉ C) := by
  obtain ⟨h1, h2, h3⟩ := List.nodup_append.mp h
  obtain ⟨h4, h5, h6⟩ := List.nodup_append.mp h1
  exact ⟨h4, h5, h2, fun a x y => h6 a x a y rfl, fun a x y => h3 a (by simp [x]) a y rfl, fun a x y => h3 a (by simp [x]) a y rfl⟩
theorem nd3' {A B C B' : List Addr} (h : (A ++ B ++ C).Nodup) (hb : B'.Nodup) (k : ∀ a ∈ B', a ∉ A ∧ a ∉ C) : (A ++ B' ++ C).Nodup := by
  obtain ⟨h1, h2, h3, h4, h5, h6⟩ := nd3 h
  exact nd_app (nd_app h1 hb fun a x => (k a x).1) h3 fun a x y => (List.mem_append.mp y).elim (fun z => h5 a z x) fun z => (k a z).2 x
theorem var_wk {i : Nat} (τ : L2.St) (H : Hp) (Q : VK) (h : tE c (mVar i) τ H Q) : tVar i τ H Q := by
  obtain ⟨F, σ, O, st, p⟩ := h
  unfold mVar at p
  cases q : σ[i]? with
  | none => rw [q] at p; exact p.elim
  | some t =>
    rw [q] at p
    dsimp only at p
    cases hh : t.isHole with
    | true => rw [hh] at p; exact p.elim
    | false =>
      rw [hh] at p
      obtain ⟨x, O1, Ot, O2, e1, rfl, r1, back⟩ := st.slot q hh
      have n := nd3 st.nd
      have hF : ∀ a ∈ Ot, F a = none := fun a ha => (rep_at r1 a ha).1
      have al : Alc F H (O1 ++ Ot ++ O2) (put F H Ot) H [] := Alc.freeze st.sub hF (by intro a h; simp [h])
      have rf : rep c.e (put F H Ot) H (fz t) x [] := rep_fz (put_sub hF) (O' := Ot) (fun a ha => put_in ha) r1 fun _ h => h
      have st' := back (F' := put F H Ot) (H' := H) (t' := fz t) (Ot' := []) (put_sub hF) st.sub.put (fun a ha => ⟨rfl, ?_⟩) rf (nd3' st.nd (by simp) (by simp))
      · refine ⟨x, e1, p _ H _ x [] st' rf (by simpa using st'.nd) ?_⟩
        refine ⟨al.stp.sub, al.stp.new, al.stp.keep, al.stp.there, fun a ha => .inl ?_⟩
        simp at ha ⊢
        rcases ha with h | h <;> simp [h]
      · obtain ⟨vs, r, _⟩ := st.vals
        have nm : a ∉ Ot := fun z => by
          rcases List.mem_append.mp ha with h | h
          · exact n.2.2.2.1 a h z
          · exact n.2.2.2.2.2 a z h
        rw [put_out nm]
        exact (reps_at r a (by rcases List.mem_append.mp ha with h | h <;> simp [h])).1
theorem e_var {i : Nat} {e : Expr} (h : PE X e (tVar i)) : PE X e (tE c (mVar i)) := h.wk var_wk
end
end MV

namespace MV
open PySem PySem.Spec PyProof.Rows L2

/-! ## Frozen lists, item by item -/
section
variable {e : En} {F H F' H' : Hp}
def Fr2 (e : En) (F H : Hp) (l : List T) (vs : List V) : Prop := l.length = vs.length ∧ ∀ (i : Nat) (t : T) (x : V), l[i]? = some t → vs[i]? = some x → rep e F H t x []
theorem reps_fr2 : ∀ {l : List T} {vs : List V}, reps e F H l vs [] ↔ Fr2 e F H l vs
  | [], vs => by
    simp only [reps, Fr2]
    constructor
    · rintro ⟨rfl, _⟩
      exact ⟨rfl, fun i t x h => by simp at h⟩
    · rintro ⟨h, _⟩
      exact ⟨(List.length_eq_zero_iff.mp h.symm), trivial⟩
  | u :: l, [] => by simp [reps, Fr2]
  | u :: l, y :: vs => by
    simp only [reps]
    constructor
    · rintro ⟨x, xs, O1, O2, h1, h2, h3, h4⟩
      cases h1
      obtain ⟨rfl, rfl⟩ := List.append_eq_nil_iff.mp h2.symm
      have ih := reps_fr2.mp h4
      refine ⟨by simp [ih.1], fun i t x e1 e2 => ?_⟩
      cases i with
      | zero => simp at e1 e2; subst e1 e2; exact h3
      | succ i => simp at e1 e2; exact ih.2 i t x e1 e2
    · rintro ⟨h1, h2⟩
      exact ⟨y, vs, [], [], rfl, rfl, h2 0 u y rfl rfl, reps_fr2.mpr ⟨by simpa using h1, fun i t x e1 e2 => h2 (i + 1) t x (by simpa using e1) (by simpa using e2)⟩⟩
theorem Fr2.drop {l : List T} {vs : List V} (h : Fr2 e F H l vs) (n : Nat) : Fr2 e F H (l.drop n) (vs.drop n) :=
  ⟨by simp [h.1], fun i t x a b => h.2 (n + i) t x (by simpa [List.getElem?_drop] using a) (by simpa [List.getElem?_drop] using b)⟩
theorem Fr2.take {l : List T} {vs : List V} (h : Fr2 e F H l vs) (n : Nat) : Fr2 e F H (l.take n) (vs.take n) := by
  refine ⟨by simp [h.1], fun i t x a b => ?_⟩
  rw [List.getElem?_take] at a b
  split at a
  · rename_i q; rw [if_pos q] at b; exact h.2 i t x a b
  · cases a
theorem Fr2.app {l m : List T} {vs ws : List V} (h : Fr2 e F H l vs) (k : Fr2 e F H m ws) : Fr2 e F H (l ++ m) (vs ++ ws) := by
  refine ⟨by simp [h.1, k.1], fun i t x a b => ?_⟩
  rw [List.getElem?_append] at a b
  rw [h.1] at a
  split at a
  · rename_i q; rw [if_pos q] at b; exact h.2 i t x a b
  · rename_i q; rw [if_neg q] at b; exact k.2 _ t x a b
theorem Fr2.rev {l : List T} {vs : List V} (h : Fr2 e F H l vs) : Fr2 e F H l.reverse vs.reverse := by
  refine ⟨by simp [h.1], fun i t x a b => ?_⟩
  have hi : i < l.length := by
    have := (List.getElem?_eq_some_iff.mp a).1
    simpa using this
  rw [List.getElem?_reverse hi] at a
  rw [List.getElem?_reverse (by rw [← h.1]; exact hi), ← h.1] at b
  exact h.2 _ t x a b
theorem Fr2.nil : Fr2 e F H [] [] := ⟨rfl, fun i t x h => by simp at h⟩
theorem Fr2.repl {l : List T} {vs : List V} (h : Fr2 e F H l vs) : ∀ k : Nat, Fr2 e F H (List.replicate k l).flatten (List.replicate k vs).flatten
  | 0 => Fr2.nil
  | k + 1 => by
    rw [List.replicate_succ, List.replicate_succ, List.flatten_cons, List.flatten_cons]
    exact h.app (Fr2.repl h k)
theorem Fr2.mono {l : List T} {vs : List V} (h : Fr2 e F H l vs) (s : Sub F F') : Fr2 e F' H' l vs := ⟨h.1, fun i t x a b => rep_mono s (h.2 i t x a b) (by simp)⟩
/-- the cells P' are frozen, a new list of frozen things is laid -/
theorem frz_new {P P' : List Addr} {l w : List T} {vs ws : List V} {p : Addr} (s : Sub F H) (r : reps e F H l vs P') (m : ∀ a ∈ P', a ∈ P) (hp : H p = none)
    (g : Fr2 e (put F H P') H (fzs l) vs → Fr2 e (put F H P') H w ws) :
    Alc F H P (put F H P') (upd H p (.lst ws)) [p] ∧ rep e (put F H P') (upd H p (.lst ws)) (.own w) (.ref p) [p] := by
  have hF : ∀ a ∈ P', F a = none := fun a ha => (reps_at r a ha).1
  have a1 : Alc F H P (put F H P') H [] := Alc.freeze s hF m
  have a2 := Alc.newO (P := []) (o := .lst ws) a1.sub hp List.nodup_nil (by simp)
  have fr := g (reps_fr2.mp (reps_fz (put_sub hF) (O' := P') (fun a ha => put_in ha) r fun _ h => h))
  refine ⟨a1.tr a2, ?_⟩
  simp only [rep]
  exact ⟨p, ws, [], rfl, rfl, a1.sub.no hp, upd_same, reps_fr2.mpr (fr.mono Sub.rfl)⟩
theorem frz_newT {P P' : List Addr} {l w : List T} {vs ws : List V} {p : Addr} (s : Sub F H) (r : reps e F H l vs P') (m : ∀ a ∈ P', a ∈ P) (hp : H p = none)
    (g : Fr2 e (put F H P') H (fzs l) vs → Fr2 e (put F H P') H w ws) :
    Alc F H P (upd (put F H P') p (.tup ws)) (upd H p (.tup ws)) [] ∧ rep e (upd (put F H P') p (.tup ws)) (upd H p (.tup ws)) (.tup w) (.ref p) [] := by
  have hF : ∀ a ∈ P', F a = none := fun a ha => (reps_at r a ha).1
  have a1 : Alc F H P (put F H P') H [] := Alc.freeze s hF m
  have a2 := Alc.newF (P := []) (o := .tup ws) a1.sub hp
  have fr := g (reps_fr2.mp (reps_fz (put_sub hF) (O' := P') (fun a ha => put_in ha) r fun _ h => h))
  refine ⟨a1.tr a2, ?_⟩
  simp only [rep]
  exact ⟨trivial, p, ws, rfl, .inl (.inl upd_same), reps_fr2.mpr (fr.mono (Sub.updF a1.sub (a1.sub.no hp)))⟩
end

/-! ## Argument lists, displays -/
def mNil : List T → Res (List T) := fun σ => .ok [] σ
def mCons (f : List T → Res T) (g : List T → Res (List T)) : List T → Res (List T) := fun σ => (f σ).bind fun t σ1 => (g σ1).bind fun ts σ2 => .ok (t :: ts) σ2
def szB (n : Nat) : Bool := decide (n ≤ 1000000)
theorem szB_line {n : Nat} (h : szB n = true) : n < sizeLine := by
  have h := of_decide_eq_true h
  rw [sizeLine_eq]; omega
def mTup (g : List T → Res (List T)) : List T → Res T := fun σ => (g σ).bind fun ts σ1 => if szB ts.length then .ok (.tup (fzs ts)) σ1 else .stuck
def mLst (g : List T → Res (List T)) : List T → Res T := fun σ => (g σ).bind fun ts σ1 => if szB ts.length then .ok (.own ts) σ1 else .stuck
section
variable {X : Cx} {c : Ct} {a b : Expr} {es : List Expr} {f : List T → Res T} {g : List T → Res (List T)} {pos : Pos}
theorem e_nil : PA X [] (tA c mNil) := (pa_nil).wk fun τ H Q h => by
  obtain ⟨F, σ, O, st, p⟩ := h
  exact (Mid.start st).fin p (by simp [reps]) (P1 := []) (by simp) (by simp)
theorem e_cons (ha : PE X a (tE c f)) (hr : PA X es (tA c g)) (hs : starEach (a :: es) X.env = (false, eval a X.env) :: starEach es X.env := by rfl) : PA X (a :: es) (tA c (mCons f g)) :=
  (pa_cons ha hr hs).wk fun τ H Q h => by
    obtain ⟨F, σ, O, st, p⟩ := h
    refine Tm.mono ((Mid.start st).run (by simp) (g := f) p) fun x H1 ⟨t, σ1, F1, O1, P1, m1, r1, s1, p1⟩ => ?_
    refine Tm.mono (m1.run (by simpa using rep_some r1) (g := g) p1) fun y H2 ⟨u, σ2, F2, O2, P2, m2, r2, s2, p2⟩ => ?_
    have r1' := s2.rep r1 fun a ha => m1.disj a (by simp [ha])
    rw [List.append_nil] at m2
    have nP := (List.nodup_append.mp m2.nd).2.1
    refine m2.fin (P1 := P1 ++ P2) p2 ?_ (List.perm_append_comm.nodup_iff.mp nP) (by intro a h; simp at h ⊢; exact h.symm)
    simp only [reps]
    exact ⟨x, y, P1, P2, rfl, rfl, r1', r2⟩
theorem reps_some {e : En} {F H : Hp} {l : List T} {vs : List V} {P : List Addr} (r : reps e F H l vs P) : ∀ a ∈ P, ∃ o, H a = some o := fun a ha => (reps_at r a ha).2
theorem e_tup {k : Nat} (h : PA X es (tA c g)) : PE X (.Tuple es k pos) (tE c (mTup g)) := (pe_tup h).wk fun τ H Q h => by
  obtain ⟨F, σ, O, st, p⟩ := h
  refine Tm.mono ((Mid.start st).run (by simp) (g := g) p) fun xs H1 ⟨ts, σ1, F1, O1, P1, m1, r1, s1, p1⟩ => ?_
  rw [List.append_nil] at m1
  cases hz : szB ts.length with
  | false => rw [hz] at p1; exact p1.elim
  | true =>
    rw [hz] at p1
    refine ⟨by rw [← reps_len r1]; exact Nat.le_of_lt (szB_line hz), fun q hq => ?_⟩
    obtain ⟨al, rp⟩ := frz_newT (w := fzs ts) (ws := xs) m1.st.sub r1 (fun _ h => h) hq fun h => h
    exact (m1.alc al).fin p1 rp al.nd fun _ h => h
theorem e_lst {k : PySem.Pos} (h : PA X es (tA c g)) : PE X (.List es k) (tE c (mLst g)) := (pe_lst h).wk fun τ H Q h => by
  obtain ⟨F, σ, O, st, p⟩ := h
  refine Tm.mono ((Mid.start st).run (by simp) (g := g) p) fun xs H1 ⟨ts, σ1, F1, O1, P1, m1, r1, s1, p1⟩ => ?_
  rw [List.append_nil] at m1
  cases hz : szB ts.length with
  | false => rw [hz] at p1; exact p1.elim
  | true =>
    rw [hz] at p1
    refine ⟨by rw [← reps_len r1]; exact Nat.le_of_lt (szB_line hz), fun q hq => ?_⟩
    have nP := (List.nodup_append.mp m1.nd).2.1
    have al := Alc.newO (P := P1) (o := .lst xs) m1.st.sub hq nP (reps_some r1)
    refine (m1.alc al).fin p1 (P1 := q :: P1) ?_ al.nd fun _ h => h
    simp only [rep]
    refine ⟨q, xs, P1, rfl, rfl, m1.st.sub.no hq, upd_same, reps_mono Sub.rfl r1 fun a ha => ⟨upd_ne fun z => ?_, (reps_at r1 a ha).1⟩⟩
    obtain ⟨o, e⟩ := reps_some r1 a ha
    rw [z, hq] at e; cases e
end

/-! ## Tests, choices -/
def mNot (f : List T → Res Bool) : List T → Res Bool := fun σ => (f σ).bind fun k σ1 => .ok (!k) σ1
def mAnd (f g : List T → Res Bool) : List T → Res Bool := fun σ => (f σ).bind fun k σ1 => if k then g σ1 else .ok false σ1
def mOr (f g : List T → Res Bool) : List T → Res Bool := fun σ => (f σ).bind fun k σ1 => if k then .ok true σ1 else g σ1
def mIfE (f : List T → Res Bool) (g h : List T → Res T) : List T → Res T := fun σ => (f σ).bind fun k σ1 => if k then g σ1 else h σ1
def mAndV (f g : List T → Res T) : List T → Res T := fun σ => (mBl f σ).bind fun k σ1 => if k then g σ1 else .ok (.v (.bl false)) σ1
def mOrV (f g : List T → Res T) : List T → Res T := fun σ => (mBl f σ).bind fun k σ1 => if k then .ok (.v (.bl true)) σ1 else g σ1
def mNotV (f : List T → Res T) : List T → Res T := fun σ => (mBl f σ).bind fun k σ1 => .ok (.v (.bl (!k))) σ1
section
variable {X : Cx} {c : Ct} {a b d : Expr} {rest : List Expr} {f g : List T → Res Bool} {fe ge he : List T → Res T} {pos : Pos}
/-- the run goes on with k, or ends -/
theorem Mid.goes {α β : Type} {c : Ct} {F H F1 H1 : Hp} {O O1 : List Addr} {τ : L2.St} {σ1 : List T} {R : Hp → Hp → α → β → List Addr → Prop} {Q : β → Hp → Prop} (m : Mid c F H O τ σ1 F1 H1 O1 []) {k : List T → Res α}
    (p : Post c R F H O τ Q (k σ1)) : Tm c R k τ H1 Q := by
  refine ⟨F1, σ1, O1, m.st, ?_⟩
  have s := m.stp
  rw [List.append_nil] at s
  cases q : k σ1 with
  | ok a σ2 =>
    rw [q] at p
    exact fun F2 H2 O2 b P2 s2 r n t => p F2 H2 O2 b P2 s2 r n (s.tr t (fun _ h => h) fun _ h => .inl h)
  | exc C ns ts σ2 =>
    rw [q] at p
    exact fun F2 H2 O2 Ca d s2 t x => p F2 H2 O2 Ca d s2 (s.tr t (fun _ h => h) fun _ h => .inl h) x
  | stuck => rw [q] at p; exact p.elim
theorem RB.mid {α : Type} {c : Ct} {F H F1 H1 : Hp} {O O1 P P1 : List Addr} {τ : L2.St} {σ1 : List T} {a b : α} (m : Mid c F H O τ σ1 F1 H1 O1 (P1 ++ [])) (r : RB F1 H1 a b P1) : a = b ∧ Mid c F H O τ σ1 F1 H1 O1 [] := by
  obtain ⟨rfl, rfl⟩ := r
  exact ⟨rfl, m⟩
theorem t_not (h : PT X a (tT c f)) : PT X (.UnaryOp .Not a pos) (tT c (mNot f)) := (pt_not h).wk fun τ H Q h => by
  obtain ⟨F, σ, O, st, p⟩ := h
  refine Tm.mono ((Mid.start st).run (by simp) (g := f) p) fun x H1 ⟨t, σ1, F1, O1, P1, m1, r1, s1, p1⟩ => ?_
  obtain ⟨rfl, m⟩ := RB.mid (P := []) m1 r1
  exact RB.fin m p1
theorem t_and1 (h : PT X a (tT c f)) : PW X (.BoolOp .And [a] pos) (tT c f) := pw_and1 h
theorem t_or1 (h : PT X a (tT c f)) : PW X (.BoolOp .Or [a] pos) (tT c f) := pw_or1 h
theorem t_and (ha : PT X a (tT c f)) (hb : PW X (.BoolOp .And (b :: rest) pos) (tT c g)) : PW X (.BoolOp .And (a :: b :: rest) pos) (tT c (mAnd f g)) := (pw_and ha hb).wk fun τ H Q h => by
  obtain ⟨F, σ, O, st, p⟩ := h
  refine Tm.mono ((Mid.start st).run (by simp) (g := f) p) fun x H1 ⟨t, σ1, F1, O1, P1, m1, r1, s1, p1⟩ => ?_
  obtain ⟨rfl, m⟩ := RB.mid (P := []) m1 r1
  cases t with
  | true => exact m.goes p1
  | false => exact RB.fin m p1
theorem t_or (ha : PT X a (tT c f)) (hb : PW X (.BoolOp .Or (b :: rest) pos) (tT c g)) : PW X (.BoolOp .Or (a :: b :: rest) pos) (tT c (mOr f g)) := (pw_or ha hb).wk fun τ H Q h => by
  obtain ⟨F, σ, O, st, p⟩ := h
  refine Tm.mono ((Mid.start st).run (by simp) (g := f) p) fun x H1 ⟨t, σ1, F1, O1, P1, m1, r1, s1, p1⟩ => ?_
  obtain ⟨rfl, m⟩ := RB.mid (P := []) m1 r1
  cases t with
  | false => exact m.goes p1
  | true => exact RB.fin m p1
theorem e_ifE (hc : PT X d (tT c f)) (ha : PE X a (tE c ge)) (hb : PE X b (tE c he)) : PE X (.IfExp d a b pos) (tE c (mIfE f ge he)) := (pe_ifExp hc ha hb).wk fun τ H Q h => by
  obtain ⟨F, σ, O, st, p⟩ := h
  refine Tm.mono ((Mid.start st).run (by simp) (g := f) p) fun x H1 ⟨t, σ1, F1, O1, P1, m1, r1, s1, p1⟩ => ?_
  obtain ⟨rfl, m⟩ := RB.mid (P := []) m1 r1
  cases t with
  | true => exact m.goes p1
  | false => exact m.goes p1
/-- a bool among values -/
theorem bl_run {α β : Type} {R : Hp → Hp → α → β → List Addr → Prop} {Q : β → Hp → Prop} {τ : L2.St} {H F : Hp} {σ : List T} {O : List Addr} {k : Bool → List T → Res α} (st : Sta c.e c.bor F H τ σ O)
    (p : Post c R F H O τ Q ((mBl fe σ).bind k)) : tE c fe τ H fun x H1 => ∃ d σ1 F1 O1, x = .bl d ∧ Mid c F H O τ σ1 F1 H1 O1 [] ∧ Post c R F H O τ Q (k d σ1) := by
  have p' : Post c R F H O τ Q ((fe σ).bind fun t σ1 => (match t with | .v (.bl k) => Res.ok k σ1 | _ => .stuck : Res Bool).bind k) := by
    unfold mBl at p
    cases q : fe σ with
    | ok t σ1 => rw [q] at p; exact p
    | exc _ _ _ _ => rw [q] at p; exact p
    | stuck => rw [q] at p; exact p
  refine Tm.mono ((Mid.start st).run (by simp) (g := fe) p') fun x H1 ⟨t, σ1, F1, O1, P1, m1, r1, s1, p1⟩ => ?_
  split at p1
  · obtain ⟨rfl, rfl⟩ := rep_v r1
    exact ⟨_, σ1, F1, O1, rfl, m1, p1⟩
  · exact p1.elim
theorem e_not (h : PE X a (tE c fe)) : PE X (.UnaryOp .Not a pos) (tE c (mNotV fe)) := (pe_not h).wk fun τ H Q h => by
  obtain ⟨F, σ, O, st, p⟩ := h
  refine Tm.mono (bl_run st p) fun x H1 ⟨d, σ1, F1, O1, e1, m, p1⟩ => ⟨d, e1, m.fin p1 rep_v' (by simp) (by simp)⟩
theorem e_one {op : BoolOp} (h : PE X a (tE c fe)) : PE X (.BoolOp op [a] pos) (tE c fe) := pe_one h
theorem e_and (ha : PE X a (tE c fe)) (hb : PE X (.BoolOp .And (b :: rest) pos) (tE c ge)) : PE X (.BoolOp .And (a :: b :: rest) pos) (tE c (mAndV fe ge)) := (pe_and ha hb).wk fun τ H Q h => by
  obtain ⟨F, σ, O, st, p⟩ := h
  refine Tm.mono (bl_run st p) fun x H1 ⟨d, σ1, F1, O1, e1, m, p1⟩ => ⟨d, e1, ?_⟩
  cases d with
  | true => exact m.goes p1
  | false => exact m.fin p1 rep_v' (by simp) (by simp)
theorem e_or (ha : PE X a (tE c fe)) (hb : PE X (.BoolOp .Or (b :: rest) pos) (tE c ge)) : PE X (.BoolOp .Or (a :: b :: rest) pos) (tE c (mOrV fe ge)) := (pe_or ha hb).wk fun τ H Q h => by
  obtain ⟨F, σ, O, st, p⟩ := h
  refine Tm.mono (bl_run st p) fun x H1 ⟨d, σ1, F1, O1, e1, m, p1⟩ => ⟨d, e1, ?_⟩
  cases d with
  | false => exact m.goes p1
  | true => exact m.fin p1 rep_v' (by simp) (by simp)
/-- a value by its truth -/
def truT : T → Option Bool
  | .v .non => some false
  | .v (.bl b) => some b
  | .v (.int i) => some (i != 0)
  | .v (.str y) => if szB y.length then some ((y.length : Int) != 0) else none
  | .tup l => some (!l.isEmpty)
  | .lst l => some (!l.isEmpty)
  | .own l => some (!l.isEmpty)
  | .kl l => some (!l.isEmpty)
  | _ => none
theorem truT_ok {e : En} {K : PySem.W.Frag} (hK : e.K = K) {F H : Hp} {P : List Addr} {t : T} {x : V} {k : Bool} (s : Sub F H) (r : rep e F H t x P) (h : truT t = some k) : TruV K x H k := by
  subst hK
  have emp : ∀ {l : List T} {vs : List V} {P : List Addr}, reps e F H l vs P → l.isEmpty = vs.isEmpty := fun {l vs P} r => by
    have := reps_len r
    cases l <;> cases vs <;> simp_all
  cases t <;> simp only [truT] at h <;> try cases h
  · obtain ⟨rfl, rfl⟩ := rep_v r
    cases x <;> simp only [reduceCtorEq, Option.some.injEq] at h
    · exact h.symm
    · exact h.symm
    · exact h.symm
    · split at h
      · rename_i z; cases h; exact ⟨Nat.le_of_lt (szB_line z), rfl⟩
      · cases h
  · simp only [rep] at r
    obtain ⟨_, a, vs, rfl, h2, h3⟩ := r
    exact .inr (.inl ⟨vs, s.sqt h2, by rw [emp h3]⟩)
  · obtain ⟨a, vs, P', rfl, h2, h3, _⟩ := rep_seqL (K := e.K) rfl s (t := .lst _) rfl r
    exact .inl ⟨vs, h2, by rw [emp h3]⟩
  · obtain ⟨a, vs, P', rfl, h2, h3, _⟩ := rep_seqL (K := e.K) rfl s (t := .own _) rfl r
    exact .inl ⟨vs, h2, by rw [emp h3]⟩
  · obtain ⟨a, vs, P', rfl, h2, h3, _⟩ := rep_seqL (K := e.K) rfl s (t := .kl _) rfl r
    exact .inl ⟨vs, h2, by rw [emp h3]⟩
def mTru (f : List T → Res T) : List T → Res Bool := fun σ => (f σ).bind fun t σ1 =>
  match truT t with
  | some k => .ok k σ1
  | none => .stuck
theorem t_val (hK : c.e.K = X.K) (ha : PE X a (tE c fe)) (hi : ∀ whole, isTrue a X.env whole = (do let v ← whole; standAt a.pos; holding [v] (truthy v)) := by intro _; rfl) :
    PT X a (tT c (mTru fe)) := (pt_truth ha hi).wk fun τ H Q h => by
  obtain ⟨F, σ, O, st, p⟩ := h
  refine Tm.mono ((Mid.start st).run (by simp) (g := fe) p) fun x H1 ⟨t, σ1, F1, O1, P1, m1, r1, s1, p1⟩ => ?_
  cases q : truT t with
  | none => rw [q] at p1; exact p1.elim
  | some k =>
    rw [q] at p1
    exact ⟨k, truT_ok hK m1.st.sub r1 q, RB.fin m1 p1⟩
end
end MV

namespace MV
open PySem PySem.Spec PyProof.Rows L2

/-! ## Sequences: +, *, subscripts -/
theorem fzs_app (l m : List T) : fzs (l ++ m) = fzs l ++ fzs m := by simp [fzs_map]
def sCatL : OS := fun t u =>
  match lstL t, lstL u with
  | some l, some m => if szB (l.length + m.length) then some (.own (fzs l ++ fzs m)) else none
  | _, _ => none
def sRep : OS := fun t u =>
  match lstL t, u with
  | some l, .v (.int k) => if szB (l.length * k.toNat) && decide (-(2 ^ 63) ≤ k) && decide (k < 2 ^ 63) then some (.own (List.replicate k.toNat (fzs l)).flatten) else none
  | _, _ => none
def sCatT : OS := fun t u =>
  match t, u with
  | .tup l, .tup m => if szB (l.length + m.length) then some (.tup (l ++ m)) else none
  | _, _ => none
def sCatS : OS := fun t u =>
  match t, u with
  | .v (.str a), .v (.str b) => if szB (a.length + b.length) then some (.v (.str (a ++ b))) else none
  | _, _ => none
section
variable {e : En} {K : PySem.W.Frag}
theorem ok_catL : OpOk e rCat sCatL := by
  intro F H P1 P2 P t u w x y Q sb r1 r2 n hP m1 m2 dj n1 n2 hs k
  unfold sCatL at hs
  cases q1 : lstL t with
  | none => rw [q1] at hs; cases hs
  | some l =>
    cases q2 : lstL u with
    | none => rw [q1, q2] at hs; cases hs
    | some m =>
      rw [q1, q2] at hs
      cases hz : szB (l.length + m.length) with
      | false => simp only [hz] at hs; cases hs
      | true =>
        simp only [hz, if_true, Option.some.injEq] at hs
        subst hs
        obtain ⟨a, vs, A, rfl, h1, g1, s1, _⟩ := rep_lstL sb q1 r1
        obtain ⟨b, ws, B, rfl, h2, g2, s2, _⟩ := rep_lstL sb q2 r2
        refine ⟨a, b, vs, ws, rfl, rfl, h1, h2, by rw [← reps_len g1, ← reps_len g2]; exact Nat.le_of_lt (szB_line hz), fun p hp => ?_⟩
        obtain ⟨al, rp⟩ := frz_new (P := P) (w := fzs l ++ fzs m) (ws := vs ++ ws) sb (reps_app.mpr ⟨vs, ws, A, B, rfl, rfl, g1, g2⟩)
          (fun z hz => by rcases List.mem_append.mp hz with h | h; exact m1 z (s1 z h); exact m2 z (s2 z h)) hp (fun h => by rw [fzs_app] at h; exact h)
        exact k _ _ _ _ al rp
theorem ok_rep : OpOk e rRep sRep := by
  intro F H P1 P2 P t u w x y Q sb r1 r2 n hP m1 m2 dj n1 n2 hs k
  unfold sRep at hs
  split at hs
  · rename_i l kk q1 
    split at hs
    · rename_i hz
      simp only [Bool.and_eq_true, decide_eq_true_eq] at hz
      cases hs
      obtain ⟨a, vs, A, rfl, h1, g1, s1, _⟩ := rep_lstL sb q1 r1
      obtain ⟨rfl, rfl⟩ := rep_v r2
      refine ⟨a, kk, vs, rfl, rfl, h1, hz.1.2, hz.2, by rw [← reps_len g1]; exact Nat.le_of_lt (szB_line hz.1.1), fun p hp => ?_⟩
      obtain ⟨al, rp⟩ := frz_new (P := P) (w := (List.replicate kk.toNat (fzs l)).flatten) sb g1 (fun z hz => m1 z (s1 z hz)) hp (fun h => h.repl _)
      exact k _ _ _ _ al rp
    · cases hs
  · cases hs
theorem ok_catT (hK : e.K = K) : OpOk e (rCatA K) sCatT := by
  subst hK
  intro F H P1 P2 P t u w x y Q sb r1 r2 n hP m1 m2 dj n1 n2 hs k
  unfold sCatT at hs
  split at hs
  · rename_i l m
    cases hz : szB (l.length + m.length) with
    | false => simp only [hz] at hs; cases hs
    | true =>
      simp only [hz, if_true, Option.some.injEq] at hs
      subst hs
      obtain ⟨rfl, a, vs, rfl, h1, g1⟩ := rep_tup r1
      obtain ⟨rfl, b, ws, rfl, h2, g2⟩ := rep_tup r2
      have l1 := reps_len g1
      have l2 := reps_len g2
      refine ⟨a, b, vs, ws, rfl, rfl, sb.sqt h1, sb.sqt h2, by rw [← l1, ← l2]; exact Nat.le_of_lt (szB_line hz), fun z => ?_, fun z1 z2 => ?_, fun z1 z2 p hp => ?_⟩
      · subst z
        have hl : l = [] := List.length_eq_zero_iff.mp (by simpa using l1)
        subst hl
        refine k F H _ [] (Alc.rfl sb List.nodup_nil (by simp)) ?_
        simp only [rep, List.nil_append]
        exact ⟨trivial, b, ws, rfl, h2, g2⟩
      · subst z2
        have hl : m = [] := List.length_eq_zero_iff.mp (by simpa using l2)
        subst hl
        refine k F H _ [] (Alc.rfl sb List.nodup_nil (by simp)) ?_
        simp only [rep, List.append_nil]
        exact ⟨trivial, a, vs, rfl, h1, g1⟩
      · have al := Alc.newF (P := P) (o := .tup (vs ++ ws)) sb hp
        refine k _ _ _ [] al ?_
        simp only [rep]
        exact ⟨trivial, p, vs ++ ws, rfl, .inl (.inl upd_same), reps_fr2.mpr (((reps_fr2.mp g1).app (reps_fr2.mp g2)).mono al.stp.sub)⟩
  · cases hs
theorem ok_catS : OpOk e (fun x y H Q => ∃ i j, x = .str i ∧ y = .str j ∧ i.length + j.length ≤ sizeLine ∧ Q (.str (i ++ j)) H) sCatS := by
  intro F H P1 P2 P t u w x y Q sb r1 r2 n hP m1 m2 dj n1 n2 hs k
  unfold sCatS at hs
  split at hs
  · rename_i a b
    cases hz : szB (a.length + b.length) with
    | false => simp only [hz] at hs; cases hs
    | true =>
      simp only [hz, if_true, Option.some.injEq] at hs
      subst hs
      obtain ⟨rfl, rfl⟩ := rep_v r1
      obtain ⟨rfl, rfl⟩ := rep_v r2
      exact ⟨a, b, rfl, rfl, Nat.le_of_lt (szB_line hz), k F H _ [] (Alc.rfl sb List.nodup_nil (by simp)) rep_v'⟩
  · cases hs
def sPlus : OS := sOr sAdd (sOr sCatL (sOr sCatT sCatS))
def sTimes : OS := sOr sMul sRep
/-- t[i] -/
def sIx : OS := fun t u =>
  match u with
  | .v (.int i) =>
    match t with
    | .tup l => atI l i
    | .lst l => atI l i
    | .own l => atI l i
    | .kl l => atI l i
    | .v (.str z) => if szB z.length then (atI z.cps.toList i).map fun c => .v (.str ⟨#[c]⟩) else none
    | _ => none
  | _ => none
theorem sIx_L {t : T} {i : Int} {w : T} (h : sIx t (.v (.int i)) = some w) : (∃ l, seqL t = some l ∧ atI l i = some w) ∨ (∃ l, t = .tup l ∧ atI l i = some w) ∨
    ∃ z c, t = .v (.str z) ∧ szB z.length = true ∧ atI z.cps.toList i = some c ∧ w = .v (.str ⟨#[c]⟩) := by
  cases t with
  | v c =>
    cases c with
    | str z =>
      simp only [sIx] at h
      split at h
      · rename_i hz
        cases q : atI z.cps.toList i with
        | none => rw [q] at h; cases h
        | some c => rw [q] at h; cases h; exact .inr (.inr ⟨z, c, rfl, hz, q, rfl⟩)
      · cases h
    | _ => simp [sIx] at h
  | tup l => exact .inr (.inl ⟨_, rfl, h⟩)
  | lst l => exact .inl ⟨_, rfl, h⟩
  | own l => exact .inl ⟨_, rfl, h⟩
  | kl l => exact .inl ⟨_, rfl, h⟩
  | _ => simp [sIx] at h
theorem ok_ix (hK : e.K = K) : OpOk e (rIx K) sIx := by
  intro F H P1 P2 P t u w x y Q sb r1 r2 n hP m1 m2 dj n1 n2 hs k
  have hu : ∃ i, u = .v (.int i) := by
    unfold sIx at hs
    split at hs
    · exact ⟨_, rfl⟩
    · cases hs
  obtain ⟨i, rfl⟩ := hu
  obtain ⟨rfl, rfl⟩ := rep_v r2
  rcases sIx_L hs with ⟨l, q, a⟩ | ⟨l, rfl, a⟩ | ⟨z, c, rfl, hz, a, rfl⟩
  · obtain ⟨p, vs, A, rfl, h1, g1, s1, nn⟩ := rep_seqL hK sb q r1
    obtain ⟨v, Pt, e1, rt, mt, nt⟩ := reps_at? g1 a
    exact .inl ⟨p, vs, i, v, rfl, rfl, h1, e1, k F H v Pt (Alc.rfl sb (nt (nn n1)) fun b hb => m1 b (s1 b (mt b hb))) rt⟩
  · subst hK
    obtain ⟨rfl, p, vs, rfl, h1, g1⟩ := rep_tup r1
    obtain ⟨v, Pt, e1, rt, mt, nt⟩ := reps_at? g1 a
    exact .inr (.inl ⟨p, vs, i, v, rfl, rfl, sb.sqt h1, e1, k F H v Pt (Alc.rfl sb (nt List.nodup_nil) fun b hb => by simpa using mt b hb) rt⟩)
  · obtain ⟨rfl, rfl⟩ := rep_v r1
    exact .inr (.inr ⟨z, i, c, rfl, rfl, Nat.le_of_lt (szB_line hz), a, k F H _ [] (Alc.rfl sb List.nodup_nil (by simp)) rep_v'⟩)

/-! ## ==, !=, is None, in -/
mutual
def toD : T → Option PyData
  | .v .non => some .none
  | .v (.bl b) => some (.bool b)
  | .v (.int i) => some (.int i)
  | .v (.str x) => some (.str x)
  | .tup l => (toDs l).map PyData.tuple
  | .lst l => (toDs l).map PyData.list
  | .own l => (toDs l).map PyData.list
  | .kl l => (toDs l).map PyData.list
  | _ => none
def toDs : List T → Option (List PyData)
  | [] => some []
  | t :: ts => match toD t, toDs ts with
    | some d, some ds => some (d :: ds)
    | _, _ => none
end
mutual
theorem toD_dp {F H : Hp} (s : Sub F H) (hK : e.K = K) : ∀ {t : T} {x : V} {P : List Addr} {d : PyData}, rep e F H t x P → toD t = some d → Dp K H x d
  | .hole, x, P, d, r, h => by simp [toD] at h
  | .v c, x, P, d, r, h => by
    obtain ⟨rfl, _⟩ := rep_v r
    cases x <;> simp only [toD, Option.some.injEq, reduceCtorEq] at h <;> subst h
    · exact .non
    · exact .bl _
    · exact .int _
    · exact .str _
  | .tup l, x, P, d, r, h => by
    simp only [toD] at h
    cases q : toDs l with
    | none => rw [q] at h; cases h
    | some ds =>
      rw [q] at h
      cases h
      obtain ⟨rfl, a, vs, rfl, h1, g1⟩ := rep_tup r
      exact .tup (by rw [← hK]; exact s.sqt h1) (toDs_dp s hK g1 q)
  | .lst l, x, P, d, r, h => by
    simp only [toD] at h
    cases q : toDs l with
    | none => rw [q] at h; cases h
    | some ds =>
      rw [q] at h
      cases h
      simp only [rep] at r
      obtain ⟨_, a, vs, rfl, h1, g1⟩ := r
      exact .lst (.inl (.inl (s _ _ h1))) (toDs_dp s hK g1 q)
  | .own l, x, P, d, r, h => by
    simp only [toD] at h
    cases q : toDs l with
    | none => rw [q] at h; cases h
    | some ds =>
      rw [q] at h
      cases h
      simp only [rep] at r
      obtain ⟨a, vs, O', rfl, _, _, h1, g1⟩ := r
      exact .lst (.inl (.inl h1)) (toDs_dp s hK g1 q)
  | .kl l, x, P, d, r, h => by
    simp only [toD] at h
    cases q : toDs l with
    | none => rw [q] at h; cases h
    | some ds =>
      rw [q] at h
      cases h
      simp only [rep] at r
      obtain ⟨_, a, vs, rfl, h1, g1⟩ := r
      exact .lst (by rw [← hK]; exact s.sql h1) (toDs_dp s hK g1 q)
  | .ins C ns l, x, P, d, r, h => by simp [toD] at h
  | .oin C ns l, x, P, d, r, h => by simp [toD] at h
  | .xc C ns l, x, P, d, r, h => by simp [toD] at h
theorem toDs_dp {F H : Hp} (s : Sub F H) (hK : e.K = K) : ∀ {l : List T} {vs : List V} {P : List Addr} {ds : List PyData}, reps e F H l vs P → toDs l = some ds → DpAll K H vs ds
  | [], vs, P, ds, r, h => by
    simp only [reps] at r
    simp only [toDs, Option.some.injEq] at h
    obtain ⟨rfl, _⟩ := r
    subst h
    exact .nil
  | t :: ts, vs, P, ds, r, h => by
    simp only [reps] at r
    obtain ⟨x, xs, O1, O2, rfl, rfl, r1, r2⟩ := r
    simp only [toDs] at h
    cases q : toD t with
    | none => rw [q] at h; cases h
    | some d =>
      cases q2 : toDs ts with
      | none => rw [q, q2] at h; cases h
      | some dr =>
        rw [q, q2] at h
        cases h
        exact .cons (toD_dp s hK r1 q) (toDs_dp s hK r2 q2)
end
def eqT (t u : T) : Option Bool :=
  match toD t, toD u with
  | some d, some f => if SeqAt.shaped d && SeqAt.shaped f then some (PyData.eqv d f) else none
  | _, _ => none
theorem eqT_some {t u : T} {k : Bool} (h : eqT t u = some k) : ∃ d f, toD t = some d ∧ toD u = some f ∧ SeqAt.shaped d = true ∧ SeqAt.shaped f = true ∧ PyData.eqv d f = k := by
  unfold eqT at h
  split at h
  · rename_i d f q1 q2
    split at h
    · rename_i z
      simp only [Bool.and_eq_true] at z
      cases h
      exact ⟨d, f, q1, q2, z.1, z.2, rfl⟩
    · cases h
  · cases h
def sEq : OS := fun t u => (eqT t u).map fun k => .v (.bl k)
def sNe : OS := fun t u => (eqT t u).map fun k => .v (.bl (!k))
theorem ok_eq (hK : e.K = K) : OpOk e (rEqD K) sEq := by
  intro F H P1 P2 P t u w x y Q sb r1 r2 n hP m1 m2 dj n1 n2 hs k
  unfold sEq at hs
  cases q : eqT t u with
  | none => rw [q] at hs; cases hs
  | some b =>
    rw [q] at hs
    cases hs
    obtain ⟨d, f, h1, h2, h3, h4, rfl⟩ := eqT_some q
    exact ⟨d, f, toD_dp sb hK r1 h1, toD_dp sb hK r2 h2, h3, h4, k F H _ [] (Alc.rfl sb List.nodup_nil (by simp)) rep_v'⟩
theorem ok_ne (hK : e.K = K) : OpOk e (rNeD K) sNe := by
  intro F H P1 P2 P t u w x y Q sb r1 r2 n hP m1 m2 dj n1 n2 hs k
  unfold sNe at hs
  cases q : eqT t u with
  | none => rw [q] at hs; cases hs
  | some b =>
    rw [q] at hs
    cases hs
    obtain ⟨d, f, h1, h2, h3, h4, rfl⟩ := eqT_some q
    exact ⟨d, f, toD_dp sb hK r1 h1, toD_dp sb hK r2 h2, h3, h4, k F H _ [] (Alc.rfl sb List.nodup_nil (by simp)) rep_v'⟩
def nonT : T → Option Bool
  | .v c => some (decide (c = .non))
  | .hole => none
  | _ => some false
theorem nonT_ok {F H : Hp} {P : List Addr} {t : T} {x : V} {k : Bool} (r : rep e F H t x P) (h : nonT t = some k) : decide (x = V.non) = k := by
  cases t <;> simp only [nonT, Option.some.injEq, reduceCtorEq] at h
  · obtain ⟨rfl, _⟩ := rep_v r
    exact h
  all_goals
    subst h
    simp only [rep] at r
    first
      | (obtain ⟨_, a, vs, rfl, _⟩ := r; simp)
      | (obtain ⟨a, vs, O', rfl, _⟩ := r; simp)
      | (obtain ⟨_, _, a, dx, Ca, vs, rfl, _⟩ := r; simp)
      | (obtain ⟨_, a, dx, Ca, vs, O', rfl, _⟩ := r; simp)
def sIsN : OS := fun t u => match u with
  | .v .non => (nonT t).map fun k => .v (.bl k)
  | _ => none
def sNotN : OS := fun t u => match u with
  | .v .non => (nonT t).map fun k => .v (.bl (!k))
  | _ => none
theorem ok_isN : OpOk e (fun x y H Q => y = .non ∧ Q (.bl (decide (x = .non))) H) sIsN := by
  intro F H P1 P2 P t u w x y Q sb r1 r2 n hP m1 m2 dj n1 n2 hs k
  unfold sIsN at hs
  split at hs
  · cases q : nonT t with
    | none => rw [q] at hs; cases hs
    | some b =>
      rw [q] at hs
      cases hs
      rw [nonT_ok r1 q]
      exact ⟨(rep_v r2).1, k F H _ [] (Alc.rfl sb List.nodup_nil (by simp)) rep_v'⟩
  · cases hs
theorem ok_notN : OpOk e (fun x y H Q => y = .non ∧ Q (.bl (!decide (x = .non))) H) sNotN := by
  intro F H P1 P2 P t u w x y Q sb r1 r2 n hP m1 m2 dj n1 n2 hs k
  unfold sNotN at hs
  split at hs
  · cases q : nonT t with
    | none => rw [q] at hs; cases hs
    | some b =>
      rw [q] at hs
      cases hs
      rw [nonT_ok r1 q]
      exact ⟨(rep_v r2).1, k F H _ [] (Alc.rfl sb List.nodup_nil (by simp)) rep_v'⟩
  · cases hs
/-- x in xs, flat things -/
def vT : T → Option V
  | .v c => if flatV c then some c else none
  | _ => none
def vTs : List T → Option (List V)
  | [] => some []
  | t :: ts => match vT t, vTs ts with
    | some v, some vs => some (v :: vs)
    | _, _ => none
theorem vT_ok {F H : Hp} {P : List Addr} {t : T} {x v : V} (r : rep e F H t x P) (h : vT t = some v) : x = v ∧ flatV v = true := by
  cases t <;> simp only [vT, reduceCtorEq] at h
  split at h
  · rename_i hf
    cases h
    obtain ⟨rfl, _⟩ := rep_v r
    exact ⟨rfl, hf⟩
  · cases h
theorem vTs_ok {F H : Hp} : ∀ {l : List T} {vs ws : List V} {P : List Addr}, reps e F H l vs P → vTs l = some ws → vs = ws ∧ ws.all flatV = true
  | [], vs, ws, P, r, h => by
    simp only [reps] at r
    simp only [vTs, Option.some.injEq] at h
    obtain ⟨rfl, _⟩ := r
    subst h
    exact ⟨rfl, rfl⟩
  | t :: ts, vs, ws, P, r, h => by
    simp only [reps] at r
    obtain ⟨x, xs, O1, O2, rfl, rfl, r1, r2⟩ := r
    simp only [vTs] at h
    cases q : vT t with
    | none => rw [q] at h; cases h
    | some v =>
      cases q2 : vTs ts with
      | none => rw [q, q2] at h; cases h
      | some vr =>
        rw [q, q2] at h
        cases h
        obtain ⟨rfl, f1⟩ := vT_ok r1 q
        obtain ⟨rfl, f2⟩ := vTs_ok r2 q2
        exact ⟨rfl, by simp [f1, f2]⟩
def seqA : T → Option (List T)
  | .tup l => some l
  | t => seqL t
theorem seqA_ok (hK : e.K = K) {F H : Hp} {P : List Addr} {t : T} {l : List T} {x : V} (s : Sub F H) (h : seqA t = some l) (r : rep e F H t x P) :
    ∃ a vs P', x = .ref a ∧ (SqL K H a vs ∨ SqT K H a vs) ∧ reps e F H l vs P' ∧ (∀ b ∈ P', b ∈ P) ∧ (P.Nodup → P'.Nodup) := by
  cases t with
  | tup m =>
    simp only [seqA, Option.some.injEq] at h
    subst h
    obtain ⟨rfl, a, vs, rfl, h1, g1⟩ := rep_tup r
    subst hK
    exact ⟨a, vs, [], rfl, .inr (s.sqt h1), g1, by simp, by simp⟩
  | _ =>
    obtain ⟨a, vs, P', h1, h2, h3, h4, h5⟩ := rep_seqL hK s (l := l) (by simpa only [seqA] using h) r
    exact ⟨a, vs, P', h1, .inl h2, h3, h4, h5⟩
def sIn (neg : Bool) : OS := fun t u =>
  match vT t, (seqA u).bind vTs with
  | some v, some vs => some (.v (.bl (if neg then !inV v vs else inV v vs)))
  | _, _ => none
theorem ok_in (hK : e.K = K) {neg : Bool} : OpOk e (rIn K neg) (sIn neg) := by
  intro F H P1 P2 P t u w x y Q sb r1 r2 n hP m1 m2 dj n1 n2 hs k
  unfold sIn at hs
  split at hs
  · rename_i v vs q1 q2
    cases hs
    cases q3 : seqA u with
    | none => rw [q3] at q2; cases q2
    | some l =>
      rw [q3] at q2
      obtain ⟨a, ws, P', rfl, h1, h2, _⟩ := seqA_ok hK sb q3 r2
      obtain ⟨rfl, f2⟩ := vTs_ok h2 q2
      obtain ⟨rfl, f1⟩ := vT_ok r1 q1
      exact ⟨a, ws, rfl, h1, f1, f2, k F H _ [] (Alc.rfl sb List.nodup_nil (by simp)) rep_v'⟩
  · cases hs
end
end MV

namespace MV
open PySem PySem.Spec PyProof.Rows L2

/-! ## Calls of built-ins by values -/
def CallOk (e : En) (r : List V → Hp → VK → Prop) (s : List T → Option T) : Prop := ∀ (F H : Hp) (P : List Addr) (l : List T) (w : T) (vs : List V) (Q : VK), Sub F H → reps e F H l vs P → P.Nodup → s l = some w →
  (∀ F' H' z P', Alc F H P F' H' P' → rep e F' H' w z P' → Q z H') → r vs H Q
def mCallB (s : List T → Option T) (g : List T → Res (List T)) : List T → Res T := fun σ => (g σ).bind fun ts σ1 =>
  match s ts with
  | some w => .ok w σ1
  | none => .stuck
theorem reps1 {e : En} {F H : Hp} {t : T} {vs : List V} {P : List Addr} (r : reps e F H [t] vs P) : ∃ x, vs = [x] ∧ rep e F H t x P := by
  simp only [reps] at r
  obtain ⟨x, xs, O1, O2, rfl, rfl, h1, rfl, rfl⟩ := r
  exact ⟨x, rfl, by simpa using h1⟩
theorem reps2 {e : En} {F H : Hp} {t u : T} {vs : List V} {P : List Addr} (r : reps e F H [t, u] vs P) : ∃ x y P1 P2, vs = [x, y] ∧ P = P1 ++ P2 ∧ rep e F H t x P1 ∧ rep e F H u y P2 := by
  simp only [reps] at r
  obtain ⟨x, xs, O1, O2, rfl, rfl, h1, y, ys, O3, O4, rfl, rfl, h2, rfl, rfl⟩ := r
  exact ⟨x, y, O1, O3, rfl, by simp, h1, h2⟩
section
variable {X : Cx} {c : Ct} {a b : Expr} {es : List Expr} {f : List T → Res T} {g : List T → Res (List T)} {p pos : Pos} {x : Str} {id : String} {r : List V → Hp → VK → Prop} {s : List T → Option T}
theorem callB_wk (ok : CallOk c.e r s) (τ : L2.St) (H : Hp) (Q : VK) (h : tE c (mCallB s g) τ H Q) : tCB r (tA c g) τ H Q := by
  obtain ⟨F, σ, O, st, p⟩ := h
  refine Tm.mono ((Mid.start st).run (by simp) (g := g) p) fun xs H1 ⟨ts, σ1, F1, O1, P1, m1, r1, s1, p1⟩ => ?_
  rw [List.append_nil] at m1
  cases q : s ts with
  | none => rw [q] at p1; exact p1.elim
  | some w =>
    rw [q] at p1
    exact ok F1 H1 P1 ts w xs Q m1.st.sub r1 (List.nodup_append.mp m1.nd).2.1 q fun F' H' z P' al rz => (m1.alc al).fin p1 rz al.nd fun _ h => h
theorem e_callB (hc : CallR X (.builtin id) r) (ok : CallOk c.e r s) (hg : Gl X x) (hm : X.mg x = none) (hv : bootBuiltins x = some (.builtin id)) (ha : PA X (a :: es) (tA c g))
    (hn : x ≠ "__name__" := by decide) (hdb : (x == ("__debug__" : Str)) = false := by decide)
    (he : starEach (a :: es) X.env = (false, eval a X.env) :: starEach es X.env := by rfl) (hpl : (backTo pos (starEach es X.env)).any (·.1) = false := by rfl) :
    PE X (.Call (.Name x p) (a :: es) [] pos) (tE c (mCallB s g)) := (pe_callB hc hg hm hv ha hn hdb he hpl).wk (callB_wk ok)
theorem e_callTy (hc : CallR X (.type id) r) (ok : CallOk c.e r s) (hg : Gl X x) (hm : X.mg x = none) (hv : bootBuiltins x = some (.type id)) (ha : PA X (a :: es) (tA c g))
    (hn : x ≠ "__name__" := by decide) (hdb : (x == ("__debug__" : Str)) = false := by decide)
    (he : starEach (a :: es) X.env = (false, eval a X.env) :: starEach es X.env := by rfl) (hpl : (backTo pos (starEach es X.env)).any (·.1) = false := by rfl) :
    PE X (.Call (.Name x p) (a :: es) [] pos) (tE c (mCallB s g)) := (pe_callTy hc hg hm hv ha hn hdb he hpl).wk (callB_wk ok)
end

def lenT : T → Option Nat
  | .v (.str z) => if szB z.length then some z.length else none
  | t => (seqA t).map List.length
def sLen : List T → Option T
  | [t] => (lenT t).map fun n => .v (.int n)
  | _ => none
theorem lenT_ok {e : En} {K : PySem.W.Frag} (hK : e.K = K) {F H : Hp} {P : List Addr} {t : T} {x : V} {n : Nat} (s : Sub F H) (r : rep e F H t x P) (h : lenT t = some n) : LenV K x H n := by
  have hh : (∃ z, t = .v (.str z) ∧ szB z.length = true ∧ n = z.length) ∨ ∃ l, seqA t = some l ∧ n = l.length := by
    unfold lenT at h
    split at h
    · rename_i z
      split at h
      · rename_i q; cases h; exact .inl ⟨z, rfl, q, rfl⟩
      · cases h
    · cases q : seqA t with
      | none => rw [q] at h; cases h
      | some l => rw [q] at h; cases h; exact .inr ⟨l, rfl, rfl⟩
  rcases hh with ⟨z, rfl, q, rfl⟩ | ⟨l, q, rfl⟩
  · obtain ⟨rfl, _⟩ := rep_v r
    exact ⟨Nat.le_of_lt (szB_line q), rfl⟩
  · obtain ⟨a, vs, P', rfl, h1, h2, _⟩ := seqA_ok hK s q r
    rcases h1 with h1 | h1
    · exact .inl ⟨vs, h1, reps_len h2⟩
    · exact .inr ⟨vs, h1, reps_len h2⟩
def sInt : List T → Option T
  | [.v (.int i)] => some (.v (.int i))
  | [.v (.bl k)] => some (.v (.int (if k then 1 else 0)))
  | _ => none
def sAbs : List T → Option T
  | [.v (.int i)] => some (.v (.int (if i < 0 then -i else i)))
  | _ => none
def sMin : List T → Option T
  | [.v (.int i), .v (.int j)] => some (.v (.int (if j < i then j else i)))
  | _ => none
def sMax : List T → Option T
  | [.v (.int i), .v (.int j)] => some (.v (.int (if j > i then j else i)))
  | _ => none
def intT : T → Option Int
  | .v (.int i) => some i
  | _ => none
def intsT : List T → Option (List Int)
  | [] => some []
  | t :: ts => match intT t, intsT ts with
    | some i, some is => some (i :: is)
    | _, _ => none
theorem intT_ok {t : T} {i : Int} (h : intT t = some i) : t = .v (.int i) := by
  cases t with
  | v c => cases c <;> simp only [intT, Option.some.injEq, reduceCtorEq] at h; subst h; rfl
  | _ => simp [intT] at h
theorem intsT_ok {e : En} {F H : Hp} : ∀ {l : List T} {vs : List V} {P : List Addr} {ns : List Int}, reps e F H l vs P → intsT l = some ns → vs = ns.map V.int
  | [], vs, P, ns, r, h => by
    simp only [reps] at r
    simp only [intsT, Option.some.injEq] at h
    obtain ⟨rfl, _⟩ := r
    subst h
    rfl
  | t :: ts, vs, P, ns, r, h => by
    simp only [reps] at r
    obtain ⟨x, xs, O1, O2, rfl, rfl, r1, r2⟩ := r
    simp only [intsT] at h
    cases q : intT t with
    | none => rw [q] at h; cases h
    | some v =>
      cases q2 : intsT ts with
      | none => rw [q, q2] at h; cases h
      | some vr =>
        rw [q, q2] at h
        cases h
        have e1 := intT_ok q
        subst e1
        obtain ⟨rfl, _⟩ := rep_v r1
        rw [intsT_ok r2 q2]
        rfl
def sSum : List T → Option T
  | [t] => ((seqL t).bind intsT).map fun ns => .v (.int ns.sum)
  | _ => none
def sList : List T → Option T
  | [t] => (seqA t).map fun l => .own (fzs l)
  | _ => none
def sTuple : List T → Option T
  | [.tup l] => some (.tup l)
  | [t] => (seqL t).map fun l => .tup (fzs l)
  | _ => none
section
variable {e : En} {K : PySem.W.Frag}
theorem okc_len (hK : e.K = K) : CallOk e (fun xs H Q => ∃ x n, xs = [x] ∧ LenV K x H n ∧ Q (.int n) H) sLen := by
  intro F H P l w vs Q sb r n hs k
  unfold sLen at hs
  split at hs
  · rename_i t
    obtain ⟨x, rfl, rx⟩ := reps1 r
    cases q : lenT t with
    | none => rw [q] at hs; cases hs
    | some m =>
      rw [q] at hs
      cases hs
      exact ⟨x, m, rfl, lenT_ok hK sb rx q, k F H _ [] (Alc.rfl sb List.nodup_nil (by simp)) rep_v'⟩
  · cases hs
theorem okc_int : CallOk e (fun xs H Q => (∃ i, xs = [.int i] ∧ Q (.int i) H) ∨ ∃ k, xs = [.bl k] ∧ Q (.int (if k then 1 else 0)) H) sInt := by
  intro F H P l w vs Q sb r n hs k
  unfold sInt at hs
  split at hs
  · obtain ⟨x, rfl, rx⟩ := reps1 r
    cases hs
    obtain ⟨rfl, rfl⟩ := rep_v rx
    exact .inl ⟨_, rfl, k F H _ [] (Alc.rfl sb List.nodup_nil (by simp)) rep_v'⟩
  · obtain ⟨x, rfl, rx⟩ := reps1 r
    cases hs
    obtain ⟨rfl, rfl⟩ := rep_v rx
    exact .inr ⟨_, rfl, k F H _ [] (Alc.rfl sb List.nodup_nil (by simp)) rep_v'⟩
  · cases hs
theorem okc_abs : CallOk e (fun xs H Q => ∃ i, xs = [.int i] ∧ Q (.int (if i < 0 then -i else i)) H) sAbs := by
  intro F H P l w vs Q sb r n hs k
  unfold sAbs at hs
  split at hs
  · obtain ⟨x, rfl, rx⟩ := reps1 r
    cases hs
    obtain ⟨rfl, rfl⟩ := rep_v rx
    exact ⟨_, rfl, k F H _ [] (Alc.rfl sb List.nodup_nil (by simp)) rep_v'⟩
  · cases hs
theorem okc_min : CallOk e (fun xs H Q => ∃ i j, xs = [.int i, .int j] ∧ Q (.int (if j < i then j else i)) H) sMin := by
  intro F H P l w vs Q sb r n hs k
  unfold sMin at hs
  split at hs
  · obtain ⟨x, y, P1, P2, rfl, rfl, r1, r2⟩ := reps2 r
    cases hs
    obtain ⟨rfl, rfl⟩ := rep_v r1
    obtain ⟨rfl, rfl⟩ := rep_v r2
    exact ⟨_, _, rfl, k F H _ [] (Alc.rfl sb List.nodup_nil (by simp)) rep_v'⟩
  · cases hs
theorem okc_max : CallOk e (fun xs H Q => ∃ i j, xs = [.int i, .int j] ∧ Q (.int (if j > i then j else i)) H) sMax := by
  intro F H P l w vs Q sb r n hs k
  unfold sMax at hs
  split at hs
  · obtain ⟨x, y, P1, P2, rfl, rfl, r1, r2⟩ := reps2 r
    cases hs
    obtain ⟨rfl, rfl⟩ := rep_v r1
    obtain ⟨rfl, rfl⟩ := rep_v r2
    exact ⟨_, _, rfl, k F H _ [] (Alc.rfl sb List.nodup_nil (by simp)) rep_v'⟩
  · cases hs
theorem okc_sum (hK : e.K = K) : CallOk e (rSum K) sSum := by
  intro F H P l w vs Q sb r n hs k
  unfold sSum at hs
  split at hs
  · rename_i t
    obtain ⟨x, rfl, rx⟩ := reps1 r
    cases q : seqL t with
    | none => rw [q] at hs; cases hs
    | some l =>
      rw [q] at hs
      cases q2 : intsT l with
      | none => simp only [Option.bind_some, q2] at hs; cases hs
      | some ns =>
        simp only [Option.bind_some, q2, Option.map_some, Option.some.injEq] at hs
        subst hs
        obtain ⟨a, vs, P', rfl, h1, h2, _⟩ := rep_seqL hK sb q rx
        have := intsT_ok h2 q2
        subst this
        exact ⟨a, ns, rfl, h1, k F H _ [] (Alc.rfl sb List.nodup_nil (by simp)) rep_v'⟩
  · cases hs
theorem okc_list (hK : e.K = K) : CallOk e (fun xs H Q => ∃ p ys, xs = [.ref p] ∧ (SqL K H p ys ∨ SqT K H p ys) ∧ ∀ l, H l = none → Q (.ref l) (upd H l (.lst ys))) sList := by
  intro F H P l w vs Q sb r n hs k
  unfold sList at hs
  split at hs
  · rename_i t
    obtain ⟨x, rfl, rx⟩ := reps1 r
    cases q : seqA t with
    | none => rw [q] at hs; cases hs
    | some l =>
      rw [q] at hs
      cases hs
      obtain ⟨a, vs, P', rfl, h1, h2, h3, _⟩ := seqA_ok hK sb q rx
      refine ⟨a, vs, rfl, h1, fun p hp => ?_⟩
      obtain ⟨al, rp⟩ := frz_new (P := P) (w := fzs l) (ws := vs) sb h2 h3 hp fun h => h
      exact k _ _ _ _ al rp
  · cases hs
theorem okc_tuple (hK : e.K = K) : CallOk e (fun xs H Q => ∃ p ys, xs = [.ref p] ∧ ((SqL K H p ys ∧ ∀ l, H l = none → Q (.ref l) (upd H l (.tup ys))) ∨ (SqT K H p ys ∧ Q (.ref p) H))) sTuple := by
  intro F H P l w vs Q sb r n hs k
  unfold sTuple at hs
  split at hs
  · rename_i l
    obtain ⟨x, rfl, rx⟩ := reps1 r
    cases hs
    have rx' := rx
    subst hK
    obtain ⟨rfl, a, vs, rfl, h1, h2⟩ := rep_tup rx
    exact ⟨a, vs, rfl, .inr ⟨sb.sqt h1, k F H _ [] (Alc.rfl sb List.nodup_nil (by simp)) rx'⟩⟩
  · rename_i t _
    obtain ⟨x, rfl, rx⟩ := reps1 r
    cases q : seqL t with
    | none => rw [q] at hs; cases hs
    | some l =>
      rw [q] at hs
      cases hs
      obtain ⟨a, vs, P', rfl, h1, h2, h3, _⟩ := rep_seqL hK sb q rx
      refine ⟨a, vs, rfl, .inl ⟨h1, fun p hp => ?_⟩⟩
      obtain ⟨al, rp⟩ := frz_newT (P := P) (w := fzs l) (ws := vs) sb h2 h3 hp fun h => h
      exact k _ _ _ _ al rp
  · cases hs
end

/-! ### isinstance of built-in types -/
inductive BT where
  | non | bl | int | str | lst | tup
  deriving DecidableEq
def BT.name : BT → String
  | .non => "NoneType"
  | .bl => "bool"
  | .int => "int"
  | .str => "str"
  | .lst => "list"
  | .tup => "tuple"
def BT.isa : BT → BT → Bool
  | .bl, .int => true
  | a, b => decide (a = b)
theorem BT.kit : ∀ a b : BT, kitB a.name b.name = some (a.isa b) := by
  intro a b
  cases a <;> cases b <;> decide +kernel
def tyT : T → Option BT
  | .v .non => some .non
  | .v (.bl _) => some .bl
  | .v (.int _) => some .int
  | .v (.str _) => some .str
  | .tup _ => some .tup
  | .lst _ => some .lst
  | .own _ => some .lst
  | .kl _ => some .lst
  | _ => none
theorem tyT_ok {e : En} {K : PySem.W.Frag} (hK : e.K = K) {F H : Hp} {P : List Addr} {t : T} {x : V} {b : BT} (s : Sub F H) (r : rep e F H t x P) (h : tyT t = some b) : TyX K H x (.type b.name) := by
  subst hK
  cases t with
  | v c =>
    obtain ⟨rfl, _⟩ := rep_v r
    cases x <;> simp only [tyT, Option.some.injEq, reduceCtorEq] at h <;> subst h
    · exact .base .non
    · exact .base (.bl _)
    · exact .base (.int _)
    · exact .base (.str _)
  | tup l =>
    cases h
    obtain ⟨_, a, vs, rfl, h1, _⟩ := rep_tup r
    rcases s.sqt h1 with (h1 | ⟨o, h1⟩) | ⟨o, its, n, h1, h2, _⟩
    · exact .base (.tup h1)
    · exact .fTuple h1
    · exact .kTuple h1 h2
  | lst l =>
    cases h
    obtain ⟨a, vs, P', rfl, h1, _⟩ := rep_seqL (K := e.K) rfl s (t := .lst l) rfl r
    rcases h1 with (h1 | ⟨o, h1⟩) | ⟨o, its, n, h1, h2, _⟩
    · exact .base (.lst h1)
    · exact .base (.frz h1)
    · exact .kList h1 h2
  | own l =>
    cases h
    obtain ⟨a, vs, P', rfl, h1, _⟩ := rep_seqL (K := e.K) rfl s (t := .own l) rfl r
    rcases h1 with (h1 | ⟨o, h1⟩) | ⟨o, its, n, h1, h2, _⟩
    · exact .base (.lst h1)
    · exact .base (.frz h1)
    · exact .kList h1 h2
  | kl l =>
    cases h
    obtain ⟨a, vs, P', rfl, h1, _⟩ := rep_seqL (K := e.K) rfl s (t := .kl l) rfl r
    rcases h1 with (h1 | ⟨o, h1⟩) | ⟨o, its, n, h1, h2, _⟩
    · exact .base (.lst h1)
    · exact .base (.frz h1)
    · exact .kList h1 h2
  | _ => simp [tyT] at h
def sIsi (b : BT) : List T → Option T
  | [t, .v (.ty _)] => (tyT t).map fun a => .v (.bl (a.isa b))
  | _ => none
def mIsi (b : BT) (f : List T → Res T) : List T → Res T := fun σ => (f σ).bind fun t σ1 =>
  match tyT t with
  | some a => .ok (.v (.bl (a.isa b))) σ1
  | none => .stuck
section
variable {X : Cx} {c : Ct} {a d : Expr} {es : List Expr} {f : List T → Res T} {p p2 pos : Pos} {x : Str}
theorem e_isi (b : BT) (hK : c.e.K = X.K) (hg : Gl X "isinstance") (hm : X.mg "isinstance" = none) (ha : PE X a (tE c f)) (hd : PE X d (tC (.ty b.name)))
    (he : starEach (a :: [d]) X.env = (false, eval a X.env) :: starEach [d] X.env := by rfl) (he2 : starEach (d :: []) X.env = (false, eval d X.env) :: starEach [] X.env := by rfl)
    (hpl : (backTo pos (starEach [d] X.env)).any (·.1) = false := by rfl) :
    PE X (.Call (.Name "isinstance" p) (a :: [d]) [] pos) (tE c (mIsi b f)) := (pe_callB call_isi hg hm (by decide +kernel) (pa_cons ha (pa_cons hd pa_nil he2) he) (by decide) (by decide) he hpl).wk fun τ H Q h => by
  obtain ⟨F, σ, O, st, p⟩ := h
  refine Tm.mono ((Mid.start st).run (by simp) (g := f) p) fun x H1 ⟨t, σ1, F1, O1, P1, m1, r1, s1, p1⟩ => ?_
  cases q : tyT t with
  | none => rw [q] at p1; exact p1.elim
  | some k =>
    rw [q] at p1
    exact ⟨x, .ty b.name, _, _, k.isa b, rfl, .ty _, tyT_ok hK m1.st.sub r1 q, kit_ty (BT.kit k b), m1.fin p1 rep_v' (by simp) (by simp)⟩
/-- isinstance(x, (T1, T2)) -/
def isaL (a : BT) : List BT → Bool
  | [] => false
  | b :: bs => a.isa b || isaL a bs
theorem isaL_kit {K : PySem.W.Frag} (a : BT) : ∀ bs : List BT, PySem.W.kitAny K (.type a.name) (bs.map fun b => Value.type b.name) = some (isaL a bs)
  | [] => rfl
  | b :: bs => by
    refine kitAny_cons (kit_ty (BT.kit a b)) (fun h => ?_) fun h => ?_
    · rw [isaL, h, Bool.false_or]; exact isaL_kit a bs
    · rw [isaL, h, Bool.true_or]
def mIsiL (bs : List BT) (f : List T → Res T) : List T → Res T := fun σ => (f σ).bind fun t σ1 =>
  match tyT t with
  | some a => .ok (.v (.bl (isaL a bs))) σ1
  | none => .stuck
def tTys (bs : List BT) : TA := fun _ H Q => Q (bs.map fun b => V.ty b.name) H
theorem pa_tys0 : PA X [] (tTys []) := pa_nil.wk fun _ _ _ h => h
theorem pa_tys {b : BT} {bs : List BT} (h : PE X a (tC (.ty b.name))) (hr : PA X es (tTys bs)) (hs : starEach (a :: es) X.env = (false, eval a X.env) :: starEach es X.env := by rfl) : PA X (a :: es) (tTys (b :: bs)) :=
  (pa_cons h hr hs).wk fun _ _ _ q => q
theorem tys_cls : ∀ bs : List BT, Paired ClsV (bs.map fun b => V.ty b.name) (bs.map fun b => Value.type b.name)
  | [] => .nil
  | b :: bs => .cons (.ty _) (tys_cls bs)
theorem e_isiL (bs : List BT) {k : Nat} (hK : c.e.K = X.K) (hg : Gl X "isinstance") (hm : X.mg "isinstance" = none) (ha : PE X a (tE c f)) (hd : PA X es (tTys bs)) (hl : bs.length ≤ 1000 := by decide)
    (he : starEach (a :: [.Tuple es k p2]) X.env = (false, eval a X.env) :: starEach [.Tuple es k p2] X.env := by rfl) (he2 : starEach ((.Tuple es k p2) :: []) X.env = (false, eval (.Tuple es k p2) X.env) :: starEach [] X.env := by rfl)
    (hpl : (backTo pos (starEach [.Tuple es k p2] X.env)).any (·.1) = false := by rfl) :
    PE X (.Call (.Name "isinstance" p) (a :: [.Tuple es k p2]) [] pos) (tE c (mIsiL bs f)) := (pe_callB call_isiT hg hm (by decide +kernel) (pa_cons ha (pa_cons (pe_tup hd) pa_nil he2) he) (by decide) (by decide) he hpl).wk fun τ H Q h => by
  obtain ⟨F, σ, O, st, p⟩ := h
  refine Tm.mono ((Mid.start st).run (by simp) (g := f) p) fun x H1 ⟨t, σ1, F1, O1, P1, m1, r1, s1, p1⟩ => ?_
  rw [List.append_nil] at m1
  cases q : tyT t with
  | none => rw [q] at p1; exact p1.elim
  | some k =>
    rw [q] at p1
    refine ⟨by rw [List.length_map]; exact Nat.le_of_lt (small1000 hl), fun tp hp => ?_⟩
    have al := Alc.newF (P := P1) (o := .tup (bs.map fun b => V.ty b.name)) m1.st.sub hp
    have m2 := m1.alc al
    refine ⟨x, tp, _, _, _, isaL k bs, rfl, upd_same, tys_cls bs, ?_, isaL_kit k bs, m2.fin p1 rep_v' (by simp) (by simp)⟩
    refine tyT_ok (e := c.e) (F := F1) hK (m1.st.sub.upd1 hp) (P := P1) (t := t) (rep_mono Sub.rfl r1 fun a ha => ?_) q
    obtain ⟨o, eo⟩ := rep_some r1 a ha
    exact ⟨upd_ne fun z => (by rw [z, hp] at eo; cases eo), (rep_at r1 a ha).1⟩
/-- -x -/
def mNeg (f : List T → Res T) : List T → Res T := fun σ => (f σ).bind fun t σ1 =>
  match t with
  | .v (.int i) => .ok (.v (.int (-i))) σ1
  | _ => .stuck
theorem e_neg (ha : PE X a (tE c f)) : PE X (.UnaryOp .USub a pos) (tE c (mNeg f)) := (pe_un un_neg ha).wk fun τ H Q h => by
  obtain ⟨F, σ, O, st, p⟩ := h
  refine Tm.mono ((Mid.start st).run (by simp) (g := f) p) fun x H1 ⟨t, σ1, F1, O1, P1, m1, r1, s1, p1⟩ => ?_
  split at p1
  · obtain ⟨rfl, _⟩ := rep_v r1
    exact ⟨_, rfl, m1.fin p1 rep_v' (by simp) (by simp)⟩
  · exact p1.elim
end
end MV

namespace MV
open PySem PySem.Spec PyProof.Rows L2

/-! ## Names as places: their cells stay their own -/
def live (σ : List T) (i : Nat) : Bool := match σ[i]? with
  | some t => !t.isHole
  | none => false
theorem live_some {σ : List T} {i : Nat} (h : live σ i = true) : ∃ t, σ[i]? = some t ∧ t.isHole = false := by
  unfold live at h
  cases q : σ[i]? with
  | none => rw [q] at h; cases h
  | some t => rw [q] at h; exact ⟨t, rfl, by simpa using h⟩
section
variable {X : Cx} {c : Ct} {F H F1 H1 : Hp} {O O1 P : List Addr} {τ : L2.St} {σ σ1 : List T} {i : Nat} {t : T}
theorem Sta.val (s : Sta c.e c.bor F H τ σ O) (h : live σ i = true) : ∃ x, τ[i]? = some (some x) := by
  obtain ⟨t, h1, h2⟩ := live_some h
  obtain ⟨x, _, _, _, e, _⟩ := s.slot h1 h2
  exact ⟨x, e⟩
/-- the slot i holds t; its tree may be laid anew by an allocation of its own cells -/
theorem Mid.slot (m : Mid c F H O τ σ1 F1 H1 O1 P) (h : σ1[i]? = some t) (hh : t.isHole = false) :
    ∃ x Ot, τ[i]? = some (some x) ∧ rep c.e F1 H1 t x Ot ∧ Ot.Nodup ∧ (∀ a ∈ Ot, a ∈ O1) ∧
      ∀ {F2 H2 : Hp} {P2 : List Addr} {t' : T} {Ot' : List Addr}, Alc F1 H1 (Ot ++ P) F2 H2 (Ot' ++ P2) → rep c.e F2 H2 t' x Ot' →
        ∃ O2, Mid c F H O τ (σ1.set i t') F2 H2 O2 P2 ∧ ∀ a ∈ Ot', a ∈ O2 := by
  obtain ⟨x, A, Ot, B, e1, rfl, r1, back⟩ := m.st.slot h hh
  obtain ⟨nA, nt, nB, d1, d2, d3⟩ := nd3 m.st.nd
  refine ⟨x, Ot, e1, r1, nt, by intro a ha; simp [ha], fun {F2 H2 P2 t' Ot'} al r2 => ?_⟩
  obtain ⟨vs, rv, _⟩ := m.st.vals
  have hO := reps_at rv
  have nOt : ∀ a ∈ A ++ B, a ∉ Ot ++ P := fun a ha hb => by
    rcases List.mem_append.mp hb with z | z
    · rcases List.mem_append.mp ha with y | y
      · exact d1 a y z
      · exact d3 a z y
    · refine m.disj a z ?_
      rcases List.mem_append.mp ha with y | y <;> simp [y]
  have hid : ∀ a ∈ A ++ B, H2 a = H1 a ∧ F2 a = none := fun a ha => by
    have hm : a ∈ A ++ Ot ++ B := by rcases List.mem_append.mp ha with y | y <;> simp [y]
    obtain ⟨f0, o, ho⟩ := hO a hm
    exact al.stp.hid (nOt a ha) f0 ho
  have new : ∀ a ∈ Ot' ++ P2, a ∉ A ++ B := fun a ha hb => by
    have hm : a ∈ A ++ Ot ++ B := by rcases List.mem_append.mp hb with y | y <;> simp [y]
    rcases al.stp.own a ha with z | z
    · exact nOt a hb z
    · obtain ⟨_, o, ho⟩ := hO a hm
      rw [z] at ho; cases ho
  have nO := (List.nodup_append.mp al.nd).1
  have nd2 : (A ++ Ot' ++ B).Nodup := nd3' m.st.nd nO fun a ha => ⟨fun z => new a (by simp [ha]) (by simp [z]), fun z => new a (by simp [ha]) (by simp [z])⟩
  refine ⟨A ++ Ot' ++ B, ⟨back al.stp.sub al.sub hid r2 nd2, nd_app nd2 (List.nodup_append.mp al.nd).2.1 fun a ha hb => ?_, ?_⟩, by intro a ha; simp [ha]⟩
  · have : a ∈ Ot' ∨ a ∈ A ++ B := by simp at hb ⊢; rcases hb with z | z | z <;> simp [z]
    rcases this with z | z
    · exact (List.nodup_append.mp al.nd).2.2 a z a ha rfl
    · exact new a (by simp [ha]) z
  · refine m.stp.tr al.stp (fun a ha => ?_) fun a ha => ?_
    · simp at ha ⊢
      rcases ha with z | z <;> simp [z]
    · simp only [List.mem_append] at ha ⊢
      rcases ha with ((z | z) | z) | z <;> simp [z]
end

/-! ### len(x), x[i] -/
def mLenN (i : Nat) : List T → Res T := fun σ => if live σ i then
    (match (σ[i]?).bind lenT with
    | some n => .ok (.v (.int n)) σ
    | none => .stuck) else .stuck
section
variable {X : Cx} {c : Ct} {a b d : Expr} {f g : List T → Res T} {p p2 pos : Pos} {x : Str} {i : Nat}
theorem Mid.keepS {F H F1 H1 : Hp} {O O1 P : List Addr} {τ : L2.St} {σ1 : List T} (m : Mid c F H O τ σ1 F1 H1 O1 P) : Mid c F H O τ σ1 F1 H1 O1 [] :=
  ⟨m.st, by simpa using (List.nodup_append.mp m.nd).1, m.stp.sub_own (by intro a ha; simp at ha; simp [ha])⟩
theorem e_lenN (hK : c.e.K = X.K) (hg : Gl X "len") (hm : X.mg "len" = none) (ha : PE X a (tVar i)) (he : starEach (a :: []) X.env = (false, eval a X.env) :: starEach [] X.env := by rfl)
    (hpl : (backTo pos (starEach [] X.env)).any (·.1) = false := by rfl) : PE X (.Call (.Name "len" p) (a :: []) [] pos) (tE c (mLenN i)) :=
  (pe_callB call_len hg hm PySem.boot_len (pa_cons ha pa_nil he) (by decide) (by decide) he hpl).wk fun τ H Q h => by
    obtain ⟨F, σ, O, st, p⟩ := h
    unfold mLenN at p
    split at p
    · rename_i hl
      obtain ⟨t, h1, h2⟩ := live_some hl
      have m := Mid.start (c := c) st
      obtain ⟨x, Ot, e1, r1, _⟩ := m.slot h1 h2
      rw [h1] at p
      cases q : lenT t with
      | none => rw [Option.bind_some, q] at p; exact p.elim
      | some n =>
        rw [Option.bind_some, q] at p
        exact ⟨x, e1, x, n, rfl, lenT_ok hK st.sub r1 q, m.fin p rep_v' (by simp) (by simp)⟩
    · exact p.elim
/-- the item i of the tree, and the tree with it frozen -/
def ixT (t : T) (k : Int) : Option (T × T) :=
  match t with
  | .own l => match ixN l.length k with
    | some j => (l[j]?).map fun w => (fz w, .own (l.set j (fz w)))
    | none => none
  | t => (sIx t (.v (.int k))).map fun w => (w, t)
theorem ixN_lt {n : Nat} {k : Int} {j : Nat} (h : ixN n k = some j) : j < n := (ixN_seq h).2.1
/-- what an item's reading gives -/
theorem ixT_ok {e : En} {K : PySem.W.Frag} (hK : e.K = K) {F H : Hp} {Ot : List Addr} {t w t' : T} {x : V} {k : Int} {Q : VK} (s : Sub F H) (r : rep e F H t x Ot) (n : Ot.Nodup) (h : ixT t k = some (w, t'))
    (g : ∀ F2 z Ot', Alc F H Ot F2 H Ot' → rep e F2 H t' x Ot' → rep e F2 H w z [] → Q z H) : rIx K x (.int k) H Q := by
  subst hK
  have other : ∀ {w t'}, (sIx t (.v (.int k))).map (fun w => (w, t)) = some (w, t') → (∀ l, t ≠ .own l) → (∀ F2 z Ot', Alc F H Ot F2 H Ot' → rep e F2 H t' x Ot' → rep e F2 H w z [] → Q z H) → rIx e.K x (.int k) H Q := by
    intro w t' h no g
    cases q : sIx t (.v (.int k)) with
    | none => rw [q] at h; cases h
    | some w =>
      rw [q] at h
      cases h
      have go : ∀ z, rep e F H w z [] → Q z H := fun z rz => g F z Ot (Alc.rfl s n fun _ h => h) r rz
      rcases sIx_L q with ⟨l, q1, a⟩ | ⟨l, rfl, a⟩ | ⟨z, c, rfl, hz, a, rfl⟩
      · obtain ⟨p, vs, A, rfl, h1, g1, s1, nn⟩ := rep_seqL (K := e.K) rfl s q1 r
        have hA : Ot = [] := by
          cases t <;> simp only [seqL, reduceCtorEq] at q1
          · simp only [rep] at r; exact r.1
          · exact absurd rfl (no _)
          · simp only [rep] at r; exact r.1
        subst hA
        obtain ⟨v, Pt, e1, rt, mt, nt⟩ := reps_at? g1 a
        have hPt : Pt = [] := List.eq_nil_iff_forall_not_mem.mpr fun b hb => by simpa using s1 b (mt b hb)
        subst hPt
        exact .inl ⟨p, vs, k, v, rfl, rfl, h1, e1, go v rt⟩
      · obtain ⟨rfl, p, vs, rfl, h1, g1⟩ := rep_tup r
        obtain ⟨v, Pt, e1, rt, mt, nt⟩ := reps_at? g1 a
        have hPt : Pt = [] := List.eq_nil_iff_forall_not_mem.mpr fun b hb => by simpa using mt b hb
        subst hPt
        exact .inr (.inl ⟨p, vs, k, v, rfl, rfl, s.sqt h1, e1, go v rt⟩)
      · obtain ⟨rfl, rfl⟩ := rep_v r
        exact .inr (.inr ⟨z, k, c, rfl, rfl, Nat.le_of_lt (szB_line hz), a, go _ rep_v'⟩)
  cases t with
  | own l =>
    simp only [ixT] at h
    cases q : ixN l.length k with
    | none => rw [q] at h; cases h
    | some j =>
      rw [q] at h
      cases q2 : l[j]? with
      | none => simp only [q2] at h; cases h
      | some u =>
        simp only [q2, Option.map_some, Option.some.injEq, Prod.mk.injEq] at h
        obtain ⟨rfl, rfl⟩ := h
        simp only [rep] at r
        obtain ⟨p, vs, O', rfl, rfl, fp, hp, g1⟩ := r
        obtain ⟨v, A, Pt, B, e1, rfl, rt, back⟩ := reps_split g1 q2
        obtain ⟨n0, n1⟩ := List.nodup_cons.mp n
        obtain ⟨nA, nt, nB, d1, d2, d3⟩ := nd3 n1
        have hF : ∀ a ∈ Pt, F a = none := fun a ha => (rep_at rt a ha).1
        have a1 : Alc F H (p :: (A ++ Pt ++ B)) (put F H Pt) H [] := Alc.freeze s hF (by intro a h; simp [h])
        have rf : rep e (put F H Pt) H (fz u) v [] := rep_fz (put_sub hF) (O' := Pt) (fun a ha => put_in ha) rt fun _ h => h
        have hp' : p ∉ Pt := fun z => n0 (by simp [z])
        have nAB : (A ++ [] ++ B).Nodup := nd3' n1 List.nodup_nil (by simp)
        refine .inl ⟨p, vs, k, v, rfl, rfl, .inl (.inl hp), ?_, g (put F H Pt) v (p :: (A ++ [] ++ B)) ⟨⟨a1.stp.sub, a1.stp.new, a1.stp.keep, a1.stp.there, fun a ha => .inl ?_⟩, a1.sub, List.nodup_cons.mpr ⟨fun z => n0 ?_, nAB⟩⟩ ?_ rf⟩
        · unfold atI
          rw [← reps_len g1, q]
          exact e1
        · simp at ha ⊢
          rcases ha with h | h | h <;> simp [h]
        · simp at z ⊢
          rcases z with h | h <;> simp [h]
        · simp only [rep]
          have ev : vs.set j v = vs := by
            apply List.ext_getElem?
            intro m
            by_cases hm : m = j
            · subst hm
              rw [List.getElem?_set_self (List.getElem?_eq_some_iff.mp e1).1, e1]
            · rw [List.getElem?_set_ne (Ne.symm hm)]
          refine ⟨p, vs, A ++ [] ++ B, rfl, rfl, by rw [put_out hp']; exact fp, hp, ?_⟩
          have := back (F' := put F H Pt) (H' := H) (t' := fz u) (x' := v) (Ot' := []) (put_sub hF) (fun a ha => ⟨rfl, ?_⟩) rf
          · rw [ev] at this; exact this
          · have : a ∉ Pt := fun z => by
              rcases List.mem_append.mp ha with y | y
              · exact d1 a y z
              · exact d3 a z y
            rw [put_out this]
            exact (reps_at g1 a (by rcases List.mem_append.mp ha with y | y <;> simp [y])).1
  | _ => exact other (by simpa only [ixT] using h) (fun l z => by cases z) g
def mIxN (i : Nat) (g : List T → Res T) : List T → Res T := fun σ => if live σ i then (g σ).bind fun u σ1 =>
    match u, σ1[i]? with
    | .v (.int k), some t => if t.isHole then .stuck else (match ixT t k with
      | some (w, t') => .ok w (σ1.set i t')
      | none => .stuck)
    | _, _ => .stuck
  else .stuck
theorem e_ixN (hK : c.e.K = X.K) (ha : PE X a (tVar i)) (hb : PE X b (tE c g)) (hs : PlainIx b) : PE X (.Subscript a b pos) (tE c (mIxN i g)) := (pe_ix ix_seq ha hb hs).wk fun τ H Q h => by
  obtain ⟨F, σ, O, st, p⟩ := h
  unfold mIxN at p
  split at p
  · rename_i hl
    obtain ⟨x, ex⟩ := st.val hl
    refine ⟨x, ex, Tm.mono ((Mid.start st).run (by simp) (g := g) p) fun y H1 ⟨u, σ1, F1, O1, P1, m1, r1, s1, p1⟩ => ?_⟩
    split at p1
    · rename_i k t q1
      split at p1
      · exact p1.elim
      · rename_i hh
        obtain ⟨rfl, rfl⟩ := rep_v r1
        obtain ⟨x', Ot, e1, rt, nt, mt, back⟩ := m1.slot q1 (by simpa using hh)
        rw [ex] at e1
        cases e1
        split at p1
        · rename_i w t' q2
          refine ixT_ok hK m1.st.sub rt nt q2 fun F2 z Ot' al r2 rz => ?_
          obtain ⟨O2, m2, _⟩ := back (P2 := []) (F2 := F2) (H2 := H1) (by simpa using al) r2
          exact m2.fin p1 rz (by simp) (by simp)
        · exact p1.elim
    · exact p1.elim
  · exact p.elim
end
end MV

namespace MV
open PySem PySem.Spec PyProof.Rows L2

/-! ## Slices -/
def mBd : Option (List T → Res T) → List T → Res (Option Int)
  | none => fun σ => .ok none σ
  | some f => fun σ => (f σ).bind fun t σ1 => match t with
    | .v (.int i) => .ok (some i) σ1
    | _ => .stuck
abbrev tO (c : Ct) (b : Option (List T → Res T)) : TO := Tm c RB (mBd b)
theorem PO.wk' {X : Cx} {e : Option Expr} {t t' : TO} (h : PO X e t) (k : ∀ σ H Q, t' σ H Q → t σ H Q) : PO X e t' := by
  obtain ⟨h⟩ := h
  exact ⟨fun p s σ H Q I q => h p s σ H Q I (k σ H Q q)⟩
def cutG {α : Type} (xs : List α) (lo hi : Option Int) : List α := (xs.drop (HT.sIx xs.length 0 lo)).take (HT.sIx xs.length xs.length hi - HT.sIx xs.length 0 lo)
section
variable {X : Cx} {c : Ct} {a b d : Expr} {f g : List T → Res T} {bl bh : Option (List T → Res T)} {lo hi : Option Expr} {p p2 pos : Pos} {i : Nat} {e : En} {F H : Hp}
theorem o_none : PO X none (tO c none) := PO.wk' po_none fun τ H Q h => by
  obtain ⟨F, σ, O, st, p⟩ := h
  exact RB.fin (Mid.start st) p
theorem o_some (ha : PE X a (tE c f)) : PO X (some a) (tO c (some f)) := PO.wk' (po_some ha) fun τ H Q h => by
  obtain ⟨F, σ, O, st, p⟩ := h
  refine Tm.mono ((Mid.start st).run (by simp) (g := f) p) fun x H1 ⟨t, σ1, F1, O1, P1, m1, r1, s1, p1⟩ => ?_
  split at p1
  · obtain ⟨rfl, _⟩ := rep_v r1
    exact ⟨_, rfl, RB.fin m1 p1⟩
  · exact p1.elim
theorem Fr2.cut {l : List T} {vs : List V} (h : Fr2 e F H l vs) (lo hi : Option Int) : Fr2 e F H (cutG l lo hi) (cutV vs lo hi) := by
  unfold cutG cutV
  rw [h.1]
  exact (h.drop _).take _
/-- a list as it is read item by item: its cells but the outer one frozen -/
def shT : T → Option (T × List T)
  | .own l => some (.own (fzs l), fzs l)
  | .lst l => some (.lst l, l)
  | .kl l => some (.kl l, l)
  | _ => none
theorem shT_ok {K : PySem.W.Frag} (hK : e.K = K) {Ot : List Addr} {t t' : T} {l : List T} {x : V} (s : Sub F H) (r : rep e F H t x Ot) (n : Ot.Nodup) (h : shT t = some (t', l)) :
    ∃ p vs F2 Ot', x = .ref p ∧ SqL K H p vs ∧ Alc F H Ot F2 H Ot' ∧ rep e F2 H t' x Ot' ∧ Fr2 e F2 H l vs := by
  subst hK
  cases t <;> simp only [shT, Option.some.injEq, Prod.mk.injEq, reduceCtorEq] at h
  · obtain ⟨rfl, rfl⟩ := h
    have r' := r
    simp only [rep] at r
    obtain ⟨rfl, p, vs, rfl, h1, h2⟩ := r
    exact ⟨p, vs, F, [], rfl, .inl (.inl (s _ _ h1)), Alc.rfl s List.nodup_nil (by simp), r', reps_fr2.mp h2⟩
  · obtain ⟨rfl, rfl⟩ := h
    simp only [rep] at r
    obtain ⟨p, vs, O', rfl, rfl, fp, hp, g1⟩ := r
    obtain ⟨n0, n1⟩ := List.nodup_cons.mp n
    have hF : ∀ a ∈ O', F a = none := fun a ha => (reps_at g1 a ha).1
    have a1 : Alc F H (p :: O') (put F H O') H [] := Alc.freeze s hF (by intro a h; simp [h])
    have rf := reps_fz (put_sub hF) (O' := O') (fun a ha => put_in ha) g1 fun _ h => h
    refine ⟨p, vs, put F H O', [p], rfl, .inl (.inl hp), ⟨⟨a1.stp.sub, a1.stp.new, a1.stp.keep, a1.stp.there, fun a ha => .inl (by simp at ha; simp [ha])⟩, a1.sub, by simp⟩, ?_, reps_fr2.mp rf⟩
    simp only [rep]
    exact ⟨p, vs, [], rfl, rfl, by rw [put_out n0]; exact fp, hp, rf⟩
  · obtain ⟨rfl, rfl⟩ := h
    have r' := r
    simp only [rep] at r
    obtain ⟨rfl, p, vs, rfl, h1, h2⟩ := r
    exact ⟨p, vs, F, [], rfl, s.sql h1, Alc.rfl s List.nodup_nil (by simp), r', reps_fr2.mp h2⟩
/-- a new list of frozen things -/
theorem new_own {P : List Addr} {w : List T} {ws : List V} {p : Addr} (s : Sub F H) (hp : H p = none) (h : Fr2 e F H w ws) : Alc F H P F (upd H p (.lst ws)) [p] ∧ rep e F (upd H p (.lst ws)) (.own w) (.ref p) [p] := by
  have a0 := Alc.newO (P := []) (o := .lst ws) s hp List.nodup_nil (by simp)
  refine ⟨⟨⟨a0.stp.sub, fun a o q z => (by rw [z] at q; cases q), fun a o q _ => a0.stp.keep a o q (by simp), a0.stp.there, fun a ha => ?_⟩, a0.sub, a0.nd⟩, ?_⟩
  · rcases a0.stp.own a ha with z | z
    · simp at z
    · exact .inr z
  · simp only [rep]
    exact ⟨p, ws, [], rfl, rfl, s.no hp, upd_same, reps_fr2.mpr (h.mono Sub.rfl)⟩
theorem new_tup {P : List Addr} {w : List T} {ws : List V} {p : Addr} (s : Sub F H) (hp : H p = none) (h : Fr2 e F H w ws) : Alc F H P (upd F p (.tup ws)) (upd H p (.tup ws)) [] ∧ rep e (upd F p (.tup ws)) (upd H p (.tup ws)) (.tup w) (.ref p) [] := by
  have a0 := Alc.newF (P := P) (o := .tup ws) s hp
  refine ⟨a0, ?_⟩
  simp only [rep]
  exact ⟨trivial, p, ws, rfl, .inl (.inl upd_same), reps_fr2.mpr (h.mono a0.stp.sub)⟩
/-- t[lo:hi] of a list or tuple -/
def rSl2 (K : PySem.W.Frag) : V → Option Int → Option Int → Hp → VK → Prop := fun x lo hi H Q => rSlL K x lo hi H Q ∨ rSlA K x lo hi H Q
theorem sl_two : SlR X (rSl2 X.K) := sl_list.or sl_tupA
theorem sub_len (n : Nat) (lo hi : Option Int) : HT.sIx n n hi ≤ n := HT.sIx_le n n (Nat.le_refl _) hi
def mSl (bl bh : Option (List T → Res T)) (f : List T → Res T) : List T → Res T := fun σ => (f σ).bind fun t σ1 => (mBd bl σ1).bind fun lo σ2 => (mBd bh σ2).bind fun hi σ3 =>
  match t with
  | .tup l => .ok (.tup (cutG l lo hi)) σ3
  | t => match shT t with
    | some (_, l) => .ok (.own (cutG l lo hi)) σ3
    | none => .stuck
theorem cut_whole {α : Type} {l : List α} {lo hi : Option Int} (h : HT.sIx l.length 0 lo = 0 ∧ HT.sIx l.length l.length hi = l.length) : cutG l lo hi = l := by
  unfold cutG
  rw [h.1, h.2]
  simp
theorem tup_cut {K : PySem.W.Frag} (hK : e.K = K) {P : List Addr} {l : List T} {x : V} {lo hi : Option Int} {Q : VK} (s : Sub F H) (r : rep e F H (.tup l) x P)
    (k : ∀ F' H' z, Alc F H [] F' H' [] → rep e F' H' (.tup (cutG l lo hi)) z [] → Q z H') : rSlA K x lo hi H Q := by
  subst hK
  obtain ⟨rfl, a, vs, rfl, h1, g1⟩ := rep_tup r
  have hl := reps_len g1
  refine ⟨a, vs, rfl, s.sqt h1, fun hw => ?_, fun hw p hp => ?_⟩
  · rw [← hl] at hw
    refine k F H _ (Alc.rfl s List.nodup_nil (by simp)) ?_
    rw [cut_whole hw]
    exact r
  · obtain ⟨al, rp⟩ := new_tup (P := []) s hp ((reps_fr2.mp g1).cut lo hi)
    exact k _ _ _ al rp
theorem Mid.addP {F H F1 H1 F2 H2 : Hp} {O O1 P P2 : List Addr} {τ : L2.St} {σ1 : List T} (m : Mid c F H O τ σ1 F1 H1 O1 P) (t : Alc F1 H1 [] F2 H2 P2) : Mid c F H O τ σ1 F2 H2 O1 P2 := m.keepS.alc t
theorem e_sl (hK : c.e.K = X.K) (he : PE X a (tE c f)) (hl : PO X lo (tO c bl)) (hu : PO X hi (tO c bh)) : PE X (.Subscript a (.Slice lo hi none p2) pos) (tE c (mSl bl bh f)) := (pe_slice sl_two he hl hu).wk fun τ H Q h => by
  obtain ⟨F, σ, O, st, p⟩ := h
  refine Tm.mono ((Mid.start st).run (by simp) (g := f) p) fun x H1 ⟨t, σ1, F1, O1, P1, m1, r1, s1, p1⟩ => ?_
  refine Tm.mono (m1.run (by simpa using rep_some r1) (g := mBd bl) p1) fun y H2 ⟨u, σ2, F2, O2, P2, m2, r2, s2, p2⟩ => ?_
  obtain ⟨rfl, rfl⟩ := r2
  have r1' := s2.rep r1 fun a ha => m1.disj a (by simp [ha])
  have m2' : Mid c F H O τ σ2 F2 H2 O2 P1 := by simpa using m2
  refine Tm.mono (m2'.run (rep_some r1') (g := mBd bh) p2) fun z H3 ⟨v, σ3, F3, O3, P3, m3, r3, s3, p3⟩ => ?_
  obtain ⟨rfl, rfl⟩ := r3
  have r1'' := s3.rep r1' fun a ha => m2'.disj a ha
  have m3' : Mid c F H O τ σ3 F3 H3 O3 P1 := by simpa using m3
  split at p3
  · exact .inr (tup_cut hK m3'.st.sub r1'' fun F' H' z al rz => (m3'.addP al).fin p3 rz (by simp) (by simp))
  · split at p3
    · rename_i t' l q
      obtain ⟨p0, vs, F4, Ot', rfl, h1, al, _, fr⟩ := shT_ok hK m3'.st.sub r1'' (List.nodup_append.mp m3'.nd).2.1 q
      refine .inl ⟨p0, vs, rfl, h1, fun q0 hq => ?_⟩
      have m4 := m3'.alc al
      obtain ⟨al2, rp⟩ := new_own (P := Ot') m4.st.sub hq (fr.cut u v)
      exact (m4.alc al2).fin p3 rp al2.nd fun _ h => h
    · exact p3.elim
def mSlN (bl bh : Option (List T → Res T)) (i : Nat) : List T → Res T := fun σ => if live σ i then (mBd bl σ).bind fun lo σ2 => (mBd bh σ2).bind fun hi σ3 =>
  match σ3[i]? with
  | some (.tup l) => .ok (.tup (cutG l lo hi)) σ3
  | some t => if t.isHole then .stuck else (match shT t with
    | some (t', l) => .ok (.own (cutG l lo hi)) (σ3.set i t')
    | none => .stuck)
  | none => .stuck
  else .stuck
theorem e_slN (hK : c.e.K = X.K) (he : PE X a (tVar i)) (hl : PO X lo (tO c bl)) (hu : PO X hi (tO c bh)) : PE X (.Subscript a (.Slice lo hi none p2) pos) (tE c (mSlN bl bh i)) := (pe_slice sl_two he hl hu).wk fun τ H Q h => by
  obtain ⟨F, σ, O, st, p⟩ := h
  unfold mSlN at p
  split at p
  · rename_i hl
    obtain ⟨x, ex⟩ := st.val hl
    refine ⟨x, ex, Tm.mono ((Mid.start st).run (by simp) (g := mBd bl) p) fun y H2 ⟨u, σ2, F2, O2, P2, m2, r2, s2, p2⟩ => ?_⟩
    obtain ⟨rfl, rfl⟩ := r2
    refine Tm.mono (m2.run (by simp) (g := mBd bh) p2) fun z H3 ⟨v, σ3, F3, O3, P3, m3, r3, s3, p3⟩ => ?_
    obtain ⟨rfl, rfl⟩ := r3
    have m3' : Mid c F H O τ σ3 F3 H3 O3 [] := by simpa using m3
    split at p3
    · rename_i l q
      obtain ⟨x', Ot, e1, rt, nt, mt, back⟩ := m3'.slot q rfl
      rw [ex] at e1
      cases e1
      exact .inr (tup_cut hK m3'.st.sub rt fun F' H' z al rz => (m3'.addP al).fin p3 rz (by simp) (by simp))
    · rename_i t _ q
      split at p3
      · exact p3.elim
      · rename_i hh
        obtain ⟨x', Ot, e1, rt, nt, mt, back⟩ := m3'.slot q (by simpa using hh)
        rw [ex] at e1
        cases e1
        split at p3
        · rename_i t' l q2
          obtain ⟨p0, vs, F4, Ot', rfl, h1, al, rt', fr⟩ := shT_ok hK m3'.st.sub rt nt q2
          obtain ⟨O4, m4, _⟩ := back (P2 := []) (F2 := F4) (H2 := H3) (by simpa using al) rt'
          refine .inl ⟨p0, vs, rfl, h1, fun q0 hq => ?_⟩
          obtain ⟨al2, rp⟩ := new_own (P := []) m4.st.sub hq (fr.cut u v)
          exact (m4.alc al2).fin p3 rp al2.nd fun _ h => h
        · exact p3.elim
    · exact p3.elim
  · exact p.elim
/-- x[::-1] of a list -/
def mRevN (i : Nat) : List T → Res T := fun σ =>
  match σ[i]? with
  | some t => if t.isHole then .stuck else (match shT t with
    | some (t', l) => .ok (.own l.reverse) (σ.set i t')
    | none => .stuck)
  | none => .stuck
theorem e_revN {k : Nat} {p1 p3 : Pos} (hK : c.e.K = X.K) (he : PE X a (tVar i)) : PE X (.Subscript a (.Slice none none (some (.UnaryOp .USub (.Constant (.int 1) k p1) p2)) p3) pos) (tE c (mRevN i)) := (pe_revL he).wk fun τ H Q h => by
  obtain ⟨F, σ, O, st, p⟩ := h
  unfold mRevN at p
  split at p
  · rename_i t q
    split at p
    · exact p.elim
    · rename_i hh
      have m := Mid.start (c := c) st
      obtain ⟨x, Ot, e1, rt, nt, mt, back⟩ := m.slot q (by simpa using hh)
      split at p
      · rename_i t' l q2
        obtain ⟨p0, vs, F4, Ot', rfl, h1, al, rt', fr⟩ := shT_ok hK st.sub rt nt q2
        obtain ⟨O4, m4, _⟩ := back (P2 := []) (F2 := F4) (H2 := H) (by simpa using al) rt'
        refine ⟨_, e1, p0, vs, rfl, h1, fun q0 hq => ?_⟩
        obtain ⟨al2, rp⟩ := new_own (P := []) m4.st.sub hq fr.rev
        exact (m4.alc al2).fin p rp al2.nd fun _ h => h
      · exact p.elim
  · exact p.elim
def mRev (f : List T → Res T) : List T → Res T := fun σ => (f σ).bind fun t σ1 =>
  match shT t with
  | some (_, l) => .ok (.own l.reverse) σ1
  | none => .stuck
theorem e_rev {k : Nat} {p1 p3 : Pos} (hK : c.e.K = X.K) (he : PE X a (tE c f)) : PE X (.Subscript a (.Slice none none (some (.UnaryOp .USub (.Constant (.int 1) k p1) p2)) p3) pos) (tE c (mRev f)) := (pe_revL he).wk fun τ H Q h => by
  obtain ⟨F, σ, O, st, p⟩ := h
  refine Tm.mono ((Mid.start st).run (by simp) (g := f) p) fun x H1 ⟨t, σ1, F1, O1, P1, m1, r1, s1, p1⟩ => ?_
  rw [List.append_nil] at m1
  split at p1
  · rename_i t' l q2
    obtain ⟨p0, vs, F4, Ot', rfl, h1, al, rt', fr⟩ := shT_ok hK m1.st.sub r1 (List.nodup_append.mp m1.nd).2.1 q2
    refine ⟨p0, vs, rfl, h1, fun q0 hq => ?_⟩
    have m4 := m1.alc al
    obtain ⟨al2, rp⟩ := new_own (P := Ot') m4.st.sub hq fr.rev
    exact (m4.alc al2).fin p1 rp al2.nd fun _ h => h
  · exact p1.elim

/-! ## x.append(e), x.pop() -/
/-- a cell of P is written -/
theorem Alc.wr {P : List Addr} {p : Addr} {o : HO} (s : Sub F H) (m : p ∈ P) (hF : F p = none) (n : P.Nodup) {P' : List Addr} (n' : P'.Nodup) (m' : ∀ a ∈ P', a ∈ P) : Alc F H P F (upd H p o) P' := by
  refine ⟨⟨Sub.rfl, fun a u q z => (by rw [z] at q; cases q), fun a u q na => ?_, fun a u q => ?_, fun a ha => .inl (m' a ha)⟩, fun a u q => ?_, n'⟩
  · rw [upd_ne (show a ≠ p from fun z => na (by rw [z]; exact m))]; exact q
  · by_cases h : a = p
    · subst h; exact ⟨_, upd_same⟩
    · rw [upd_ne h]; exact ⟨u, q⟩
  · have h : a ≠ p := fun z => by rw [z, hF] at q; cases q
    rw [upd_ne h]; exact s a u q
def mAppN (i : Nat) (f : List T → Res T) : List T → Res T := fun σ => (match σ[i]? with
  | some (.own _) => (f σ).bind fun t σ1 => (match σ1[i]? with
    | some (.own l) => if szB l.length then .ok (.v .non) (σ1.set i (.own (l ++ [t]))) else .stuck
    | _ => .stuck)
  | _ => .stuck)
theorem own_ty {K : PySem.W.Frag} {l : List T} {x : V} {Ot : List Addr} (r : rep e F H (.own l) x Ot) : tyV K "list" x H := by
  simp only [rep] at r
  obtain ⟨a, vs, O', rfl, rfl, h1, h2, h3⟩ := r
  exact .inl ⟨rfl, vs, .inl (.inl h2)⟩
theorem e_appN {apos cpos : Pos} (he : PE X a (tVar i)) (hb : PE X b (tE c f))
    (hbase : attributeBase a "append" X.env (eval a X.env) = eval a X.env := by rfl)
    (hfew : ((backTo cpos (starEach (b :: []) X.env)).all (fun x => !x.1) && (backToKw cpos (keywordEach [] X.env)).all (fun x => x.1.isSome)
      && decide ((b :: []).length + ([] : List Keyword).length + (if ([] : List Keyword).isEmpty then 0 else 1) < 30)) = true := by rfl)
    (hline : (apos.endLine == cpos.line) = true := by rfl) (hs : starEach (b :: []) X.env = (false, eval b X.env) :: starEach [] X.env := by rfl) (hplain : (backTo cpos (starEach [] X.env)).any (·.1) = false := by rfl) :
    PE X (.Call (.Attribute a "append" apos) (b :: []) [] cpos) (tE c (mAppN i f)) :=
  (pe_bm PySem.F.plainAttrs_list PySem.F.slot_list_append PySem.F.type_list_append mt_append he (pa_cons hb pa_nil hs) hbase hfew hline hs hplain).wk fun τ H Q h => by
    obtain ⟨F, σ, O, st, p⟩ := h
    unfold mAppN at p
    split at p
    · rename_i l0 q0
      obtain ⟨x, Ot0, ex, rt0, _⟩ := (Mid.start (c := c) st).slot q0 rfl
      refine ⟨x, ex, own_ty rt0, Tm.mono ((Mid.start st).run (by simp) (g := f) p) fun y H1 ⟨t, σ1, F1, O1, P1, m1, r1, s1, p1⟩ => ?_⟩
      rw [List.append_nil] at m1
      split at p1
      · rename_i l q1
        split at p1
        · rename_i hz
          obtain ⟨x', Ot, e1, rt, nt, mt, back⟩ := m1.slot q1 rfl
          rw [ex] at e1
          cases e1
          simp only [rep] at rt
          obtain ⟨a0, vs, O', rfl, rfl, fp, hp, g1⟩ := rt
          have nP := (List.nodup_append.mp m1.nd).2.1
          have dP : ∀ z ∈ P1, z ∉ a0 :: O' := fun z hz h => m1.disj z hz (mt z h)
          have nn : (a0 :: (O' ++ P1)).Nodup := by
            have := nd_app nt nP dP
            simpa using this
          obtain ⟨n0, n1⟩ := List.nodup_cons.mp nn
          refine ⟨a0, vs, y, rfl, rfl, hp, by rw [← reps_len g1]; exact szB_line hz, ?_⟩
          have al : Alc F1 H1 (a0 :: O' ++ P1) F1 (upd H1 a0 (.lst (vs ++ [y]))) (a0 :: (O' ++ P1) ++ []) := Alc.wr m1.st.sub (by simp) fp (by simpa using nn) (by simpa using nn) (by intro z hz; simpa using hz)
          have keep : ∀ z ∈ O' ++ P1, (upd H1 a0 (.lst (vs ++ [y]))) z = H1 z ∧ F1 z = none := fun z hz => by
            refine ⟨upd_ne fun w => n0 (w ▸ hz), ?_⟩
            rcases List.mem_append.mp hz with h | h
            · exact (reps_at g1 z h).1
            · exact (rep_at r1 z h).1
          obtain ⟨O2, m2, _⟩ := back (t' := .own (l ++ [t])) al (by
            simp only [rep]
            refine ⟨a0, vs ++ [y], O' ++ P1, rfl, rfl, fp, upd_same, ?_⟩
            exact reps_mono Sub.rfl (reps_app.mpr ⟨vs, [y], O', P1, rfl, rfl, g1, reps_one.mpr r1⟩) keep)
          exact m2.fin p1 rep_v' (by simp) (by simp)
        · exact p1.elim
      · exact p1.elim
    · exact p.elim
def mPopN (i : Nat) : List T → Res T := fun σ =>
  match σ[i]? with
  | some (.own l) => (match l[l.length - 1]? with
    | some w => .ok w (σ.set i (.own l.dropLast))
    | none => .stuck)
  | _ => .stuck
theorem e_popN {apos cpos : Pos} (he : PE X a (tVar i))
    (hbase : attributeBase a "pop" X.env (eval a X.env) = eval a X.env := by rfl) (hline : (apos.endLine == cpos.line) = true := by rfl) :
    PE X (.Call (.Attribute a "pop" apos) [] [] cpos) (tE c (mPopN i)) :=
  (pe_bm0 PySem.F.plainAttrs_list PySem.F.slot_list_pop PySem.F.type_list_pop mt_pop he hbase hline).wk fun τ H Q h => by
    obtain ⟨F, σ, O, st, p⟩ := h
    unfold mPopN at p
    split at p
    · rename_i l q0
      split at p
      · rename_i w q1
        have m := Mid.start (c := c) st
        obtain ⟨x, Ot, ex, rt, nt, mt, back⟩ := m.slot q0 rfl
        refine ⟨x, ex, own_ty rt, ?_⟩
        simp only [rep] at rt
        obtain ⟨a0, vs, O', rfl, rfl, fp, hp, g1⟩ := rt
        have hl := reps_len g1
        have hne : l ≠ [] := fun z => by subst z; simp at q1
        have el : l = l.dropLast ++ [w] := by
          rw [List.getElem?_eq_some_iff] at q1
          obtain ⟨h1, h2⟩ := q1
          have := List.dropLast_concat_getLast hne
          rw [List.getLast_eq_getElem, h2] at this
          exact this.symm
        rw [el] at g1
        obtain ⟨v1, v2, A, B, rfl, rfl, ga, gb⟩ := reps_app.mp g1
        obtain ⟨y, rfl, ry⟩ := reps1 gb
        obtain ⟨n0, n1⟩ := List.nodup_cons.mp nt
        have ev : (v1 ++ [y])[(v1 ++ [y]).length - 1]? = some y := by simp
        refine ⟨a0, v1 ++ [y], y, rfl, rfl, hp, ev, ?_⟩
        have ed : (v1 ++ [y]).dropLast = v1 := by simp
        rw [ed]
        have al : Alc F H (a0 :: (A ++ B) ++ []) F (upd H a0 (.lst v1)) (a0 :: A ++ B) := Alc.wr st.sub (by simp) fp (by simpa using nt) (by simpa using nt) (by intro z hz; simpa using hz)
        have keep : ∀ z ∈ A ++ B, (upd H a0 (.lst v1)) z = H z ∧ F z = none := fun z hz => by
          refine ⟨upd_ne fun w => n0 (w ▸ hz), ?_⟩
          rcases List.mem_append.mp hz with h | h
          · exact (reps_at ga z h).1
          · exact (rep_at ry z h).1
        obtain ⟨O2, m2, _⟩ := back (t' := .own l.dropLast) al (by
          simp only [rep]
          exact ⟨a0, v1, A, rfl, rfl, fp, upd_same, reps_mono Sub.rfl ga fun z hz => keep z (by simp [hz])⟩)
        exact m2.fin p (rep_mono Sub.rfl ry fun z hz => keep z (by simp [hz])) ((List.nodup_append.mp n1).2.1) fun _ h => h
      · exact p.elim
    · exact p.elim
end
end MV

namespace MV
open PySem PySem.Spec PyProof.Rows L2

/-! ## Statements -/
inductive SRes where
  | nx (σ : List T)
  | rt (t : T) (σ : List T)
  | bk (σ : List T)
  | ct (σ : List T)
  | exc (C : Str) (ns : List Str) (ts : List T) (σ : List T)
  | stuck

def SPost (c : Ct) (F H : Hp) (O : List Addr) (D : Ends) : SRes → Prop
  | .nx σ' => ∀ τ' F' H' O', Sta c.e c.bor F' H' τ' σ' O' → Stp F H O F' H' O' → D.nx τ' H'
  | .bk σ' => ∀ τ' F' H' O', Sta c.e c.bor F' H' τ' σ' O' → Stp F H O F' H' O' → D.bk τ' H'
  | .ct σ' => ∀ τ' F' H' O', Sta c.e c.bor F' H' τ' σ' O' → Stp F H O F' H' O' → D.ct τ' H'
  | .rt t σ' => ∀ τ' F' H' O' x P, Sta c.e c.bor F' H' τ' σ' O' → rep c.e F' H' t x P → (O' ++ P).Nodup → Stp F H O F' H' (O' ++ P) → D.rt x H'
  | .exc C ns ts σ' => ∀ τ' F' H' O' Ca d, Sta c.e c.bor F' H' τ' σ' O' → Stp F H O F' H' O' → XR c.e F' H' C ns ts Ca d → c.W (.ref Ca) d τ' H'
  | .stuck => False
def tS (c : Ct) (m : List T → SRes) : TS := fun D τ H => ∃ F σ O, Sta c.e c.bor F H τ σ O ∧ SPost c F H O D (m σ)
theorem SPost.go {c : Ct} {F H F1 H1 : Hp} {O O1 N : List Addr} {D : Ends} {r : SRes} (p : SPost c F H O D r) (s : Stp F H O F1 H1 N) (hN : ∀ a ∈ O1, a ∈ N) : SPost c F1 H1 O1 D r := by
  cases r with
  | nx σ => exact fun τ' F' H' O' a b => p τ' F' H' O' a (s.tr b hN fun _ h => .inl h)
  | bk σ => exact fun τ' F' H' O' a b => p τ' F' H' O' a (s.tr b hN fun _ h => .inl h)
  | ct σ => exact fun τ' F' H' O' a b => p τ' F' H' O' a (s.tr b hN fun _ h => .inl h)
  | rt t σ => exact fun τ' F' H' O' x P a r n b => p τ' F' H' O' x P a r n (s.tr b hN fun _ h => .inl h)
  | exc C ns ts σ => exact fun τ' F' H' O' Ca d a b => p τ' F' H' O' Ca d a (s.tr b hN fun _ h => .inl h)
  | stuck => exact p
def SRes.seq (r : SRes) (k : List T → SRes) : SRes := match r with
  | .nx σ => k σ
  | r => r
def Res.sbind {α : Type} (r : Res α) (k : α → List T → SRes) : SRes := match r with
  | .ok a σ => k a σ
  | .exc C ns ts σ => .exc C ns ts σ
  | .stuck => .stuck
section
variable {α β : Type} {X : Cx} {c : Ct} {F H F1 H1 : Hp} {O O1 : List Addr} {D : Ends} {τ : L2.St} {σ : List T} {R : Hp → Hp → α → β → List Addr → Prop}
/-- an expression ahead of the rest of a statement -/
theorem s_run (st : Sta c.e c.bor F H τ σ O) {f : List T → Res α} {k : α → List T → SRes} (p : SPost c F H O D ((f σ).sbind k)) :
    Tm c R f τ H fun y H1 => ∃ u σ1 F1 O1 P1, Mid c F H O τ σ1 F1 H1 O1 P1 ∧ R F1 H1 u y P1 ∧ SPost c F H O D (k u σ1) := by
  refine ⟨F, σ, O, st, ?_⟩
  cases q : f σ with
  | ok u σ1 =>
    rw [q] at p
    exact fun F1 H1 O1 y P1 s r n t => ⟨u, σ1, F1, O1, P1, ⟨s, n, t⟩, r, p⟩
  | exc C ns ts σ1 =>
    rw [q] at p
    exact fun F1 H1 O1 Ca d s t x => p τ F1 H1 O1 Ca d s t x
  | stuck => rw [q] at p; exact p.elim
theorem Mid.nx {P : List Addr} {σ1 : List T} (m : Mid c F H O τ σ1 F1 H1 O1 P) (p : SPost c F H O D (.nx σ1)) : D.nx τ H1 := p τ F1 H1 O1 m.st (m.stp.sub_own (by intro a h; simp [h]))
theorem Mid.tS {P : List Addr} {σ1 : List T} {m : List T → SRes} (md : Mid c F H O τ σ1 F1 H1 O1 P) (p : SPost c F H O D (m σ1)) : tS c m D τ H1 :=
  ⟨F1, σ1, O1, md.st, p.go md.stp (by intro a h; simp [h])⟩

def mSeq (m k : List T → SRes) : List T → SRes := fun σ => (m σ).seq k
variable {s : Stmt} {ss : List Stmt} {m k : List T → SRes} {e a b d : Expr} {f g : List T → Res T} {fb : List T → Res Bool} {pos : Pos} {i : Nat} {x : Str}
theorem s_nil : PSs X [] (tS c .nx) := pss_nil.wk fun D τ H h => by
  obtain ⟨F, σ, O, st, p⟩ := h
  exact (Mid.start st).nx p
theorem s_cons (h1 : PS X s (tS c m)) (h2 : PSs X ss (tS c k)) : PSs X (s :: ss) (tS c (mSeq m k)) := (pss_cons h1 h2).wk fun D τ H h => by
  obtain ⟨F, σ, O, st, p⟩ := h
  refine ⟨F, σ, O, st, ?_⟩
  unfold mSeq at p
  cases q : m σ with
  | nx σ1 =>
    rw [q] at p
    exact fun τ1 F1 H1 O1 s1 t1 => ⟨F1, σ1, O1, s1, p.go t1 fun _ h => h⟩
  | bk σ => rw [q] at p; exact p
  | ct σ => rw [q] at p; exact p
  | rt t σ => rw [q] at p; exact p
  | exc C ns ts σ => rw [q] at p; exact p
  | stuck => rw [q] at p; exact p
theorem s_one (h1 : PS X s (tS c m)) : PSs X [s] (tS c m) := pss_one h1
theorem s_pass : PS X (.Pass pos) (tS c .nx) := ps_pass.wk fun D τ H h => by
  obtain ⟨F, σ, O, st, p⟩ := h
  exact (Mid.start st).nx p
theorem s_break : PS X (.Break pos) (tS c .bk) := ps_break.wk fun D τ H h => by
  obtain ⟨F, σ, O, st, p⟩ := h
  exact p τ F H O st (Stp.rfl fun _ h => h)
theorem s_cont : PS X (.Continue pos) (tS c .ct) := ps_continue.wk fun D τ H h => by
  obtain ⟨F, σ, O, st, p⟩ := h
  exact p τ F H O st (Stp.rfl fun _ h => h)
def mEx (f : List T → Res T) : List T → SRes := fun σ => (f σ).sbind fun _ σ1 => .nx σ1
theorem s_expr (h : PE X e (tE c f)) (hs : swapsWith e none pos.line X.env = pure false := by rfl) : PS X (.Expr e pos) (tS c (mEx f)) := (ps_expr h hs).wk fun D τ H h => by
  obtain ⟨F, σ, O, st, p⟩ := h
  exact Tm.mono (s_run st p) fun y H1 ⟨u, σ1, F1, O1, P1, m1, r1, p1⟩ => m1.nx p1
def mRet (f : List T → Res T) : List T → SRes := fun σ => (f σ).sbind fun t σ1 => .rt t σ1
theorem s_ret (h : PE X e (tE c f)) : PS X (.Return (some e) pos) (tS c (mRet f)) := (ps_ret h).wk fun D τ H h => by
  obtain ⟨F, σ, O, st, p⟩ := h
  exact Tm.mono (s_run st p) fun y H1 ⟨u, σ1, F1, O1, P1, m1, r1, p1⟩ => p1 τ H1 |> fun _ => p1 τ F1 H1 O1 y P1 m1.st r1 m1.nd m1.stp
def mRetN : List T → SRes := fun σ => .rt (.v .non) σ
theorem s_retN : PS X (.Return none pos) (tS c mRetN) := ps_retN.wk fun D τ H h => by
  obtain ⟨F, σ, O, st, p⟩ := h
  exact p τ F H O _ [] st rep_v' (by simpa using st.nd) (Stp.rfl (by simp))
/-- return of a local list: it is handed over as it is -/
def mRetM (i : Nat) : List T → SRes := fun σ =>
  match σ[i]? with
  | some t => if t.isHole then .stuck else .rt t (σ.set i .hole)
  | none => .stuck
theorem s_retM (h : PE X e (tVar i)) : PS X (.Return (some e) pos) (tS c (mRetM i)) := (ps_ret h).wk fun D τ H h => by
  obtain ⟨F, σ, O, st, p⟩ := h
  unfold mRetM at p
  split at p
  · rename_i t q
    split at p
    · exact p.elim
    · rename_i hh
      have hh' : t.isHole = false := by simpa using hh
      obtain ⟨y, A, Ot, B, e1, rfl, r1, back⟩ := st.slot q hh'
      obtain ⟨nA, nt, nB, d1, d2, d3⟩ := nd3 st.nd
      obtain ⟨vs, rv, _⟩ := st.vals
      have st' := back (F' := F) (H' := H) (t' := .hole) (Ot' := []) Sub.rfl st.sub (fun a ha => ⟨rfl, (reps_at rv a (by rcases List.mem_append.mp ha with z | z <;> simp [z])).1⟩) (by simp [rep]) (nd3' st.nd List.nodup_nil (by simp))
      refine ⟨y, e1, p τ F H _ y Ot st' r1 (nd_app st'.nd nt fun a ha hb => ?_) (Stp.rfl ?_)⟩
      · simp at hb
        rcases hb with z | z
        · exact d1 a z ha
        · exact d3 a ha z
      · intro a ha
        simp at ha ⊢
        rcases ha with z | z | z <;> simp [z]
  · exact p.elim
def mIf (f : List T → Res Bool) (m k : List T → SRes) : List T → SRes := fun σ => (f σ).sbind fun b σ1 => if b then m σ1 else k σ1
theorem s_if (hc : PT X e (tT c fb)) (ha : PSs X ss (tS c m)) {ss2 : List Stmt} (hb : PSs X ss2 (tS c k)) : PS X (.If e ss ss2 pos) (tS c (mIf fb m k)) := (ps_if hc ha hb).wk fun D τ H h => by
  obtain ⟨F, σ, O, st, p⟩ := h
  refine Tm.mono (s_run st p) fun y H1 ⟨u, σ1, F1, O1, P1, m1, r1, p1⟩ => ?_
  obtain ⟨rfl, rfl⟩ := r1
  cases u with
  | true => exact m1.tS p1
  | false => exact m1.tS p1

/-! ### targets -/
/-- a tree is put into the slots -/
def Same' (sl : List Nat) (τ τ' : L2.St) : Prop := τ'.length = τ.length ∧ ∀ j, j ∉ sl → τ'[j]? = τ[j]?
def tG (c : Ct) (sl : List Nat) (w : T → List T → Option (List T)) : TG := fun v τ H Q => ∃ F σ O t P, Sta c.e c.bor F H τ σ O ∧ rep c.e F H t v P ∧ (O ++ P).Nodup ∧ ∃ σ', w t σ = some σ' ∧
  ∀ τ' O', Sta c.e c.bor F H τ' σ' O' → (∀ a ∈ O', a ∈ O ++ P) → Same' sl τ τ' → Q τ' H
def wN (i : Nat) : T → List T → Option (List T) := fun t σ => if i < σ.length then some (σ.set i t) else none
def slotOk (c : Ct) (i : Nat) : Prop := i ≠ 0 ∨ c.bor = none
theorem Sta.put {F H : Hp} {τ : L2.St} {σ : List T} {O P : List Addr} {t : T} {v : V} (st : Sta c.e c.bor F H τ σ O) (r : rep c.e F H t v P) (n : (O ++ P).Nodup) (hi : i < σ.length) (ok : slotOk c i) :
    ∃ O', Sta c.e c.bor F H (τ.set i (some v)) (σ.set i t) O' ∧ ∀ a ∈ O', a ∈ O ++ P := by
  obtain ⟨vs, rv, hv⟩ := st.vals
  obtain ⟨x, A, Ot, B, e1, rfl, r1, back⟩ := reps_split rv (List.getElem?_eq_getElem hi)
  obtain ⟨nA, nt, nB, d1, d2, d3⟩ := nd3 st.nd
  have dj := nd_disj n
  have nP := (List.nodup_append.mp n).2.1
  have nd2 : (A ++ P ++ B).Nodup := nd3' st.nd nP fun a ha => ⟨fun z => dj a ha (by simp [z]), fun z => dj a ha (by simp [z])⟩
  have hlt : i < vs.length := by rw [← reps_len rv]; exact hi
  refine ⟨A ++ P ++ B, ⟨st.sub, nd2, by simp [st.len], ⟨vs.set i v, back Sub.rfl (fun a ha => ⟨rfl, (reps_at rv a (by rcases List.mem_append.mp ha with z | z <;> simp [z])).1⟩) r, fun j u y h1 h2 h3 => ?_⟩, fun y hy => ?_⟩, ?_⟩
  · by_cases hj : j = i
    · subst hj
      rw [List.getElem?_set_self hlt] at h3
      cases h3
      rw [List.getElem?_set_self (by rw [st.len]; exact hi)]
    · rw [List.getElem?_set_ne (Ne.symm hj)] at h1 h3 ⊢
      exact hv j u y h1 h2 h3
  · rcases ok with z | z
    · rw [List.getElem?_set_ne z]; exact st.bor y hy
    · rw [z] at hy; cases hy
  · intro a ha
    simp only [List.mem_append] at ha ⊢
    rcases ha with (z | z) | z <;> simp [z]
theorem g_name (ok : slotOk c i) {tg : Expr} (h : PG X tg (gName i)) : PG X tg (tG c [i] (wN i)) := h.wk fun v τ H Q h => by
  obtain ⟨F, σ, O, t, P, st, r, n, σ', hw, k⟩ := h
  unfold wN at hw
  split at hw
  · rename_i hi
    cases hw
    obtain ⟨O', st', m⟩ := st.put r n hi ok
    exact k _ O' st' m ⟨by simp, fun j hj => List.getElem?_set_ne fun z => hj (by simp [z])⟩
  · cases hw
/-- several targets: the items of a sequence, frozen -/
def tGs (c : Ct) (sl : List Nat) (w : List T → List T → Option (List T)) : TGs := fun vs τ H Q => ∃ F σ O ts, Sta c.e c.bor F H τ σ O ∧ reps c.e F H ts vs [] ∧ ∃ σ', w ts σ = some σ' ∧
  ∀ τ' O', Sta c.e c.bor F H τ' σ' O' → (∀ a ∈ O', a ∈ O) → Same' sl τ τ' → Q τ' H
def wNil : List T → List T → Option (List T) := fun ts σ => if ts.isEmpty then some σ else none
def wCons (w : T → List T → Option (List T)) (u : List T → List T → Option (List T)) : List T → List T → Option (List T) := fun ts σ =>
  match ts with
  | t :: r => (w t σ).bind (u r)
  | [] => none
theorem g_nil : PGs X [] (tGs c [] wNil) := by
  obtain ⟨h⟩ := (pgs_nil : PGs X [] gNil)
  refine ⟨fun p s τ H vs us Q I r q => h p s τ H vs us Q I r ?_⟩
  obtain ⟨F, σ, O, ts, st, rs, σ', hw, k⟩ := q
  unfold wNil at hw
  cases ts with
  | nil =>
    simp at hw
    subst hw
    simp only [reps] at rs
    exact ⟨rs.1, k τ O st (fun _ h => h) ⟨rfl, fun _ _ => rfl⟩⟩
  | cons _ _ => simp at hw
theorem g_cons {w : T → List T → Option (List T)} {u : List T → List T → Option (List T)} {es : List Expr} {s1 s2 : List Nat} (h1 : PG X e (tG c s1 w)) (h2 : PGs X es (tGs c s2 u))
    (hs : (assignEach (e :: es) X.env).map (·.2) = assign e X.env :: (assignEach es X.env).map (·.2) := by rfl) : PGs X (e :: es) (tGs c (s1 ++ s2) (wCons w u)) := by
  obtain ⟨h⟩ := pgs_cons h1 h2 hs
  refine ⟨fun p s τ H vs us Q I r q => h p s τ H vs us Q I r ?_⟩
  obtain ⟨F, σ, O, ts, st, rs, σ', hw, k⟩ := q
  cases ts with
  | nil => simp [wCons] at hw
  | cons t ts =>
    simp only [reps] at rs
    obtain ⟨x, xs, O1, O2, rfl, e0, r1, r2⟩ := rs
    obtain ⟨rfl, rfl⟩ := List.append_eq_nil_iff.mp e0.symm
    simp only [wCons] at hw
    cases q1 : w t σ with
    | none => rw [q1] at hw; cases hw
    | some σ1 =>
      rw [q1] at hw
      refine ⟨x, xs, rfl, F, σ, O, t, [], st, r1, by simpa using st.nd, σ1, q1, fun τ1 O1 st1 m1 e1 => ?_⟩
      exact ⟨F, σ1, O1, ts, st1, r2, σ', hw, fun τ2 O2 st2 m2 e2 => k τ2 O2 st2 (fun a ha => by simpa using m1 a (m2 a ha)) ⟨by rw [e2.1, e1.1], fun j hj => by
        simp only [List.mem_append, not_or] at hj
        rw [e2.2 j hj.2, e1.2 j hj.1]⟩⟩
def wTup (n : Nat) (u : List T → List T → Option (List T)) : T → List T → Option (List T) := fun t σ =>
  match t with
  | .tup l => if l.length = n then u l σ else none
  | _ => none
theorem g_tup {es : List Expr} {kk n : Nat} {sl : List Nat} {u : List T → List T → Option (List T)} (hK : c.e.K = X.K) (hc : X.calm = true) (h : PGs X es (tGs c sl u)) (hn : (assignEach es X.env).length = n := by rfl) (hst : (assignEach es X.env).findIdx? (·.1) = none := by rfl) :
    PG X (.Tuple es kk pos) (tG c sl (wTup n u)) := (pg_tup hc h hn hst).wk fun v τ H Q h => by
  obtain ⟨F, σ, O, t, P, st, r, nd, σ', hw, k⟩ := h
  unfold wTup at hw
  split at hw
  · rename_i l
    split at hw
    · rename_i hl
      obtain ⟨rfl, a, vs, rfl, h1, g1⟩ := rep_tup r
      rw [hK] at h1
      exact ⟨a, vs, rfl, st.sub.sqt h1, by rw [← reps_len g1]; exact hl, F, σ, O, l, st, g1, σ', hw, fun τ' O' st' m' => k τ' O' st' (fun a ha => by simpa using m' a ha)⟩
    · cases hw
  · cases hw
def mAsg (f : List T → Res T) (w : T → List T → Option (List T)) : List T → SRes := fun σ => (f σ).sbind fun t σ1 =>
  match w t σ1 with
  | some σ2 => .nx σ2
  | none => .stuck
theorem asg_wk {sl : List Nat} {w : T → List T → Option (List T)} (D : Ends) (τ : L2.St) (H : Hp) (h : tS c (mAsg f w) D τ H) : tAsg (tE c f) (tG c sl w) D τ H := by
  obtain ⟨F, σ, O, st, p⟩ := h
  refine Tm.mono (s_run st p) fun y H1 ⟨u, σ1, F1, O1, P1, m1, r1, p1⟩ => ?_
  cases q : w u σ1 with
  | none => rw [q] at p1; exact p1.elim
  | some σ2 =>
    rw [q] at p1
    exact ⟨F1, σ1, O1, u, P1, m1.st, r1, m1.nd, σ2, q, fun τ2 O2 st2 mm _ => p1 τ2 F1 H1 O2 st2 (m1.stp.sub_own mm)⟩
theorem s_asg {sl : List Nat} {w : T → List T → Option (List T)} {tg : Expr} (he : PE X e (tE c f)) (hg : PG X tg (tG c sl w)) (hs : swapsWithSole [tg] e pos.line X.env = pure false := by rfl) (hw : swappedStores [tg] e X.env = pure none := by rfl)
    (h1 : (assignEach [tg] X.env).map (·.2) = [assign tg X.env] := by rfl) : PS X (.Assign [tg] e pos) (tS c (mAsg f w)) := (ps_asg he hg hs hw h1).wk asg_wk
theorem s_set {pos' : Pos} (ok : slotOk c i) (hN : X.N.Nodup) (hi : X.N[i]? = some x) (hx : Loc X.env.scope x) (he : PE X e (tE c f)) (hs : swapsWith e (some (.Name x pos')) pos.line X.env = pure false := by rfl)
    (hf : X.fn x = true ∨ X.env.scope.names.lookup x = some .local := by first | exact .inl rfl | exact .inr rfl | assumption) : PS X (.Assign [.Name x pos'] e pos) (tS c (mAsg f (wN i))) :=
  (ps_set hN hi hx he hs hf).wk fun D τ H h => by
    have z := asg_wk (sl := [i]) D τ H h
    refine Tm.mono z fun y H1 ⟨F, σ, O, t, P, st, r, n, σ', hw, k⟩ => ?_
    unfold wN at hw
    split at hw
    · rename_i hi
      cases hw
      obtain ⟨O', st', m⟩ := st.put r n hi ok
      exact k _ O' st' m ⟨by simp, fun j hj => List.getElem?_set_ne fun z => hj (by simp [z])⟩
    · cases hw
end
end MV

namespace MV
open PySem PySem.Spec PyProof.Rows L2

/-! ## Stores into lists -/
section
variable {X : Cx} {c : Ct} {F H F1 H1 : Hp} {O O1 P P1 P2 : List Addr} {D : Ends} {τ : L2.St} {σ σ1 : List T} {k : Nat} {t : T}
theorem Mid.lend (m : Mid c F H O τ σ1 F1 H1 O1 P) (h : σ1[k]? = some t) (hh : t.isHole = false) :
    ∃ x Ot O2, τ[k]? = some (some x) ∧ rep c.e F1 H1 t x Ot ∧ Mid c F H O τ (σ1.set k .hole) F1 H1 O2 (Ot ++ P) ∧ Stp F1 H1 O1 F1 H1 (O2 ++ Ot) := by
  obtain ⟨y, A, Ot, B, e1, rfl, r1, back⟩ := m.st.slot h hh
  obtain ⟨nA, nt, nB, d1, d2, d3⟩ := nd3 m.st.nd
  obtain ⟨vs, rv, _⟩ := m.st.vals
  have st' := back (F' := F1) (H' := H1) (t' := .hole) (Ot' := []) Sub.rfl m.st.sub (fun a ha => ⟨rfl, (reps_at rv a (by rcases List.mem_append.mp ha with z | z <;> simp [z])).1⟩) (by simp [rep]) (nd3' m.st.nd List.nodup_nil (by simp))
  have dj := m.disj
  have nP := (List.nodup_append.mp m.nd).2.1
  have nOP : (Ot ++ P).Nodup := nd_app nt nP fun a ha hb => dj a ha (by simp [hb])
  refine ⟨y, Ot, _, e1, r1, ⟨st', nd_app st'.nd nOP fun a ha hb => ?_, m.stp.sub_own fun a ha => ?_⟩, Stp.rfl fun a ha => ?_⟩
  · simp only [List.mem_append, List.not_mem_nil, or_false] at hb
    rcases List.mem_append.mp ha with z | z
    · rcases hb with y | y
      · exact d1 a y z
      · exact d3 a z y
    · refine dj a z ?_
      rcases hb with y | y <;> simp [y]
  · simp only [List.mem_append, List.not_mem_nil, or_false] at ha ⊢
    rcases ha with (z | z) | z | z <;> simp [z]
  · simp only [List.mem_append, List.not_mem_nil, or_false] at ha ⊢
    rcases ha with (z | z) | z <;> simp [z]
theorem Mid.fill {x : V} (m : Mid c F H O τ σ1 F1 H1 O1 P) (hk : k < σ1.length) (hx : τ[k]? = some (some x)) (r : rep c.e F1 H1 t x P1) (n : (P1 ++ P2).Nodup) (hs : ∀ a ∈ P1 ++ P2, a ∈ P) :
    ∃ O2, Mid c F H O τ (σ1.set k t) F1 H1 O2 P2 := by
  obtain ⟨vs, rv, hv⟩ := m.st.vals
  obtain ⟨y, A, Ot, B, e1, rfl, r1, back⟩ := reps_split rv (List.getElem?_eq_getElem hk)
  obtain ⟨nA, nt, nB, d1, d2, d3⟩ := nd3 m.st.nd
  have dj := m.disj
  have hlt : k < vs.length := by rw [← reps_len rv]; exact hk
  have n1 := (List.nodup_append.mp n).1
  have nd2 : (A ++ P1 ++ B).Nodup := nd3' m.st.nd n1 fun a ha => ⟨fun z => dj a (hs a (by simp [ha])) (by simp [z]), fun z => dj a (hs a (by simp [ha])) (by simp [z])⟩
  refine ⟨A ++ P1 ++ B, ⟨⟨m.st.sub, nd2, by simp [m.st.len], ⟨vs.set k x, back Sub.rfl (fun a ha => ⟨rfl, (reps_at rv a (by rcases List.mem_append.mp ha with z | z <;> simp [z])).1⟩) r, fun j u y h1 h2 h3 => ?_⟩, m.st.bor⟩, ?_, m.stp.sub_own fun a ha => ?_⟩⟩
  · by_cases hj : j = k
    · subst hj
      rw [List.getElem?_set_self hlt] at h3
      cases h3
      exact hx
    · rw [List.getElem?_set_ne (Ne.symm hj)] at h1 h3
      exact hv j u y h1 h2 h3
  · refine nd_app nd2 (List.nodup_append.mp n).2.1 fun a ha hb => ?_
    simp only [List.mem_append] at hb
    rcases hb with (z | z) | z
    · exact dj a (hs a (by simp [ha])) (by simp [z])
    · exact (List.nodup_append.mp n).2.2 a z a ha rfl
    · exact dj a (hs a (by simp [ha])) (by simp [z])
  · simp only [List.mem_append] at ha ⊢
    rcases ha with ((z | z) | z) | z
    · simp [z]
    · exact .inr (hs a (by simp [z]))
    · simp [z]
    · exact .inr (hs a (by simp [z]))
/-- the place m of a list that is a cell is written -/
theorem own_set {e : En} {l : List T} {vs : List V} {O' Pt : List Addr} {p : Addr} {m : Nat} {t : T} {y : V} (fp : F p = none) (g : reps e F H l vs O') (n : (p :: O').Nodup) (hm : m < l.length) (r : rep e F H t y Pt) (nt : Pt.Nodup)
    (d : ∀ a ∈ Pt, a ∉ p :: O') : ∃ O2, reps e F (upd H p (.lst (vs.set m y))) (l.set m t) (vs.set m y) O2 ∧ (p :: O2).Nodup ∧ (∀ a ∈ O2, a ∈ O' ++ Pt) := by
  obtain ⟨y0, A, Ot, B, e1, rfl, r1, back⟩ := reps_split g (List.getElem?_eq_getElem hm)
  obtain ⟨n0, n1⟩ := List.nodup_cons.mp n
  have up : ∀ a, a ≠ p → upd H p (.lst (vs.set m y)) a = H a := fun a h => upd_ne h
  refine ⟨A ++ Pt ++ B, back Sub.rfl (fun a ha => ⟨up a fun z => n0 ?_, (reps_at g a ?_).1⟩) (rep_mono Sub.rfl r fun a ha => ⟨up a fun z => d a ha (by simp [z]), (rep_at r a ha).1⟩), List.nodup_cons.mpr ⟨fun z => ?_, nd3' n1 nt fun a ha => ⟨fun z => d a ha (by simp [z]), fun z => d a ha (by simp [z])⟩⟩, ?_⟩
  · rw [← z]; rcases List.mem_append.mp ha with y | y <;> simp [y]
  · rcases List.mem_append.mp ha with y | y <;> simp [y]
  · simp only [List.mem_append] at z
    rcases z with (z | z) | z
    · exact n0 (by simp [z])
    · exact d p z (by simp)
    · exact n0 (by simp [z])
  · intro a ha
    simp only [List.mem_append] at ha ⊢
    rcases ha with (z | z) | z <;> simp [z]
def mSetN (k : Nat) (g f : List T → Res T) : List T → SRes := fun σ => (f σ).sbind fun t σ1 => if live σ1 k then (g σ1).sbind fun u σ2 =>
    (match u, σ2[k]? with
    | .v (.int j), some (.own l) => (match ixN l.length j with
      | some m => .nx (σ2.set k (.own (l.set m t)))
      | none => .stuck)
    | _, _ => .stuck)
  else .stuck
/-- a further expression of a statement -/
theorem Mid.srun {α β : Type} {R : Hp → Hp → α → β → List Addr → Prop} (m : Mid c F H O τ σ1 F1 H1 O1 P) (hP : ∀ a ∈ P, ∃ o, H1 a = some o) {g : List T → Res α} {r : α → List T → SRes} (p : SPost c F H O D ((g σ1).sbind r)) :
    Tm c R g τ H1 fun y H2 => ∃ u σ2 F2 O2 P2, Mid c F H O τ σ2 F2 H2 O2 (P2 ++ P) ∧ R F2 H2 u y P2 ∧ Stp F1 H1 O1 F2 H2 (O2 ++ P2) ∧ SPost c F H O D (r u σ2) := by
  refine ⟨F1, σ1, O1, m.st, ?_⟩
  cases q : g σ1 with
  | ok u σ2 =>
    rw [q] at p
    exact fun F2 H2 O2 y P2 s r n t => ⟨u, σ2, F2, O2, P2, m.after s n t hP, r, t, p⟩
  | exc C ns ts σ2 =>
    rw [q] at p
    exact fun F2 H2 O2 Ca d s t x => p τ F2 H2 O2 Ca d s (m.stp.tr t (by intro a ha; simp [ha]) fun a ha => .inl ha) x
  | stuck => rw [q] at p; exact p.elim
/-- the list in slot k gets t at place m -/
theorem Mid.store {l : List T} {m : Nat} {y x : V} {Pt : List Addr} (md : Mid c F H O τ σ1 F1 H1 O1 P) (q : σ1[k]? = some (.own l)) (hm : m < l.length) (ex : τ[k]? = some (some x)) (r : rep c.e F1 H1 t y Pt) (nt : Pt.Nodup) (hPt : ∀ a ∈ Pt, a ∈ P) :
    ∃ a vs, x = .ref a ∧ H1 a = some (.lst vs) ∧ l.length = vs.length ∧ ∃ O2, Mid c F H O τ (σ1.set k (.own (l.set m t))) F1 (upd H1 a (.lst (vs.set m y))) O2 [] := by
  obtain ⟨x', Ot, e1, rt, ntt, mt, back⟩ := md.slot q rfl
  rw [ex] at e1
  cases e1
  simp only [rep] at rt
  obtain ⟨a, vs, O', rfl, rfl, fp, hp, g1⟩ := rt
  obtain ⟨O2, g2, n2, s2⟩ := own_set fp g1 ntt hm r nt fun z hz h => md.disj z (hPt z hz) (mt z h)
  have nP := (List.nodup_append.mp md.nd).2.1
  have al : Alc F1 H1 (a :: O' ++ P) F1 (upd H1 a (.lst (vs.set m y))) (a :: O2 ++ []) := Alc.wr md.st.sub (by simp) fp (nd_app ntt nP fun z hz h => md.disj z hz (mt z h)) (by simpa using n2) (by
    intro z hz
    rcases List.mem_cons.mp (by simpa using hz) with h | h
    · simp [h]
    · rcases List.mem_append.mp (s2 z h) with h | h
      · simp [h]
      · simp [hPt z h])
  obtain ⟨O3, m3, _⟩ := back (t' := .own (l.set m t)) al (by
    simp only [rep]
    exact ⟨a, vs.set m y, O2, rfl, rfl, fp, upd_same, g2⟩)
  exact ⟨a, vs, rfl, hp, reps_len g1, O3, m3⟩
variable {a b d e : Expr} {f g g1 g2 : List T → Res T} {p p2 pos : Pos}
theorem s_setN {tpos : Pos} (hf : PE X e (tE c f)) (ho : PE X a (tVar k)) (hi : PE X b (tE c g))
    (hs : swapsWithSole [.Subscript a b tpos] e pos.line X.env = pure false := by rfl) (hw : swappedStores [.Subscript a b tpos] e X.env = pure none := by rfl)
    (h1 : (assignEach [.Subscript a b tpos] X.env).map (·.2) = [assign (.Subscript a b tpos) X.env] := by rfl)
    (ha : ∀ v, assign (.Subscript a b tpos) X.env v = (do
      let ov ← holding [v] (eval a X.env)
      let iv ← holding [v, ov] (eval b X.env)
      standAt tpos
      holding [v, ov, iv] (setItem ov iv v)
      release [v, ov, iv] []) := by intro _; rfl) :
    PS X (.Assign [.Subscript a b tpos] e pos) (tS c (mSetN k g f)) := (ps_asg hf (pg_sub ho hi set_list ha) hs hw h1).wk fun D τ H h => by
  obtain ⟨F, σ, O, st, p⟩ := h
  refine Tm.mono (s_run st p) fun y H1 ⟨t, σ1, F1, O1, P1, m1, r1, p1⟩ => ?_
  split at p1
  · rename_i hl
    obtain ⟨x, ex⟩ := m1.st.val hl
    refine ⟨x, ex, Tm.mono (m1.srun (rep_some r1) (g := g) p1) fun z H2 ⟨u, σ2, F2, O2, P2, m2, r2, s2, p2⟩ => ?_⟩
    have r1' := s2.rep r1 m1.disj
    split at p2
    · rename_i j l q
      split at p2
      · rename_i m hm
        obtain ⟨rfl, rfl⟩ := rep_v r2
        obtain ⟨a0, vs, rfl, hp, hl, O3, m3⟩ := m2.store q (ixN_lt hm) ex r1' (List.nodup_append.mp m1.nd).2.1 (by simp)
        exact ⟨a0, vs, j, m, rfl, rfl, hp, by rw [← hl]; exact hm, m3.nx p2⟩
      · exact p2.elim
    · exact p2.elim
  · exact p1.elim

/-! ## op= -/
def sIp (op : Int → Int → Int) : OS := iOp fun i j => some (.int (op i j))
def mAugN (k : Nat) (op : Int → Int → Int) (f : List T → Res T) : List T → SRes := fun σ =>
  match σ[k]? with
  | some (.v (.int i)) => (f σ).sbind fun u σ1 => (match u with
    | .v (.int j) => if k < σ1.length then .nx (σ1.set k (.v (.int (op i j)))) else .stuck
    | _ => .stuck)
  | _ => .stuck
theorem s_augN {x : Str} {op : Operator} {oi : Int → Int → Int} {pos' : Pos} (ok : slotOk c k) (hN : X.N.Nodup) (hi : X.N[k]? = some x) (hx : Loc X.env.scope x) (he : PE X e (tE c f)) (ho : PIp X op (ipI oi))
    (hf : X.fn x = true ∨ X.env.scope.names.lookup x = some .local := by first | exact .inl rfl | exact .inr rfl | assumption) : PS X (.AugAssign (.Name x pos') op e pos) (tS c (mAugN k oi f)) :=
  (ps_aug hN hi hx he ho hf).wk fun D τ H h => by
    obtain ⟨F, σ, O, st, p⟩ := h
    unfold mAugN at p
    split at p
    · rename_i i q
      obtain ⟨x, Ot, e1, rt, _⟩ := (Mid.start (c := c) st).slot q rfl
      obtain ⟨rfl, _⟩ := rep_v rt
      refine ⟨_, e1, Tm.mono (s_run st p) fun y H1 ⟨u, σ1, F1, O1, P1, m1, r1, p1⟩ => ?_⟩
      split at p1
      · rename_i j
        split at p1
        · rename_i hk
          obtain ⟨rfl, rfl⟩ := rep_v r1
          refine ⟨i, j, rfl, rfl, ?_⟩
          obtain ⟨O', st', mm⟩ := m1.st.put (t := .v (.int (oi i j))) (v := .int (oi i j)) (P := []) rep_v' (by simpa using m1.nd) hk ok
          exact p1 _ F1 H1 O' st' (m1.stp.sub_own fun a ha => by simpa using mm a ha)
        · exact p1.elim
      · exact p1.elim
    · exact p.elim
theorem get_list : PGet X (rIxL X.K) := by
  intro pins s τ H x y v u Q I rx ry h
  obtain ⟨p, xs, i, z, rfl, rfl, hq, he, q⟩ := h
  cases rx
  obtain ⟨tk, rfl⟩ := ry
  obtain ⟨its, r, pl, hz⟩ := I.list hq
  obtain ⟨j, h1, h2, h3, h4, h5⟩ := atI_get he
  obtain ⟨w, ew, rw'⟩ := r.get h2
  have hl := r.length
  have hn := line63
  have fin : EP X pins τ Q w s := ⟨z, H, I, rw', q⟩
  by_cases h0 : 0 ≤ i
  · have hj : i.toNat = j := by
      rw [seqIndex_of h0 h5] at h1
      exact Option.some.inj h1
    exact wpAny_getItem_list pl.isList h0 (by omega) (by rw [hj]; simpa using ew) fin
  · have hj : (i + (its.toArray.size : Int)).toNat = j := by
      rw [seqIndex_neg (by omega) h4] at h1
      rw [List.size_toArray, ← hl]
      exact Option.some.inj h1
    exact wpAny_getItem_list_neg pl.isList (by omega) (by rw [List.size_toArray] <;> omega) (by omega) (by rw [hj]; simpa using ew) fin
/-- x[i] op= e, ints -/
def mAugS (k : Nat) (op : Int → Int → Int) (g f : List T → Res T) : List T → SRes := fun σ => if live σ k then (g σ).sbind fun u σ1 =>
    (match u, σ1[k]? with
    | .v (.int j), some (.own l) => (match atI l j with
      | some (.v (.int i)) => (f σ1).sbind fun w σ2 => (match w, σ2[k]? with
        | .v (.int i2), some (.own l2) => (match ixN l2.length j with
          | some m => .nx (σ2.set k (.own (l2.set m (.v (.int (op i i2))))))
          | none => .stuck)
        | _, _ => .stuck)
      | _ => .stuck)
    | _, _ => .stuck)
  else .stuck
theorem s_augS {op : Operator} {oi : Int → Int → Int} {tpos : Pos} (hK : c.e.K = X.K) (ho : PE X a (tVar k)) (hi : PE X b (tE c g)) (he : PE X e (tE c f)) (hp : PIp X op (ipI oi))
    (ha : ∀ ov iv new, augStore b ov iv new = (do holding [new, ov, iv] (setItem ov iv new); release [new, ov, iv] []; pure .next) := by intros; rfl) :
    PS X (.AugAssign (.Subscript a b tpos) op e pos) (tS c (mAugS k oi g f)) := (ps_augS ho hi get_list he hp set_list ha).wk fun D τ H h => by
  obtain ⟨F, σ, O, st, p⟩ := h
  unfold mAugS at p
  split at p
  · rename_i hl
    obtain ⟨x, ex⟩ := st.val hl
    refine ⟨x, ex, Tm.mono (s_run st p) fun y H1 ⟨u, σ1, F1, O1, P1, m1, r1, p1⟩ => ?_⟩
    split at p1
    · rename_i j l q
      split at p1
      · rename_i i q2
        obtain ⟨rfl, rfl⟩ := rep_v r1
        obtain ⟨x', Ot, e1, rt, ntt, mt, back⟩ := m1.slot q rfl
        rw [ex] at e1
        cases e1
        simp only [rep] at rt
        obtain ⟨a0, vs, O', rfl, rfl, fp, hp, g1⟩ := rt
        obtain ⟨v, Pt, e2, rv, _⟩ := reps_at? g1 q2
        obtain ⟨rfl, _⟩ := rep_v rv
        refine ⟨a0, vs, j, _, rfl, rfl, .inl (.inl hp), e2, Tm.mono (m1.srun (by simp) (g := f) p1) fun z H2 ⟨w, σ2, F2, O2, P2, m2, r2, s2, p2⟩ => ?_⟩
        split at p2
        · rename_i i2 l2 q3
          split at p2
          · rename_i m hm
            obtain ⟨rfl, rfl⟩ := rep_v r2
            obtain ⟨a1, ws, ea, hp2, hl2, O3, m3⟩ := m2.store (t := .v (.int (oi i i2))) (y := .int (oi i i2)) (Pt := []) q3 (ixN_lt hm) ex rep_v' (by simp) (by simp)
            refine ⟨i, i2, rfl, rfl, ?_⟩
            exact ⟨a1, ws, j, m, ea, rfl, hp2, by rw [← hl2]; exact hm, m3.nx p2⟩
          · exact p2.elim
        · exact p2.elim
      · exact p1.elim
    · exact p1.elim
  · exact p.elim
end
end MV

namespace MV
open PySem PySem.Spec PyProof.Rows L2

/-! ## What is walked -/
/-- the walk J gives the items, wherever the frozen heap F stands -/
def WalkM (e : En) (F : Hp) (J : It) (items : List T) : Prop := ∃ G Y, Walk J items.length G Y ∧ (∀ H, Sub F H → G H) ∧
  ∀ i H x H3 F2, i < items.length → Sub F F2 → Sub F2 H → Y i H x H3 → ∃ t, items[i]? = some t ∧ ∃ F3, Alc F2 H [] F3 H3 [] ∧ rep e F3 H3 t x []
def IPost (c : Ct) (F H : Hp) (O : List Addr) (τ : L2.St) (R : It → Hp → Prop) : Res (List T) → Prop
  | .ok items σ' => ∀ F' H' O' J, Sta c.e c.bor F' H' τ σ' O' → Stp F H O F' H' O' → WalkM c.e F' J items → R J H'
  | .exc C ns ts σ' => ∀ F' H' O' Ca d, Sta c.e c.bor F' H' τ σ' O' → Stp F H O F' H' O' → XR c.e F' H' C ns ts Ca d → c.W (.ref Ca) d τ H'
  | .stuck => False
def tI (c : Ct) (f : List T → Res (List T)) : TI := fun τ H R => ∃ F σ O, Sta c.e c.bor F H τ σ O ∧ IPost c F H O τ R (f σ)
/-- an expression ahead of a walk -/
theorem i_run {α β : Type} {c : Ct} {F H : Hp} {O : List Addr} {τ : L2.St} {σ : List T} {Rl : Hp → Hp → α → β → List Addr → Prop} {R : It → Hp → Prop} (st : Sta c.e c.bor F H τ σ O) {f : List T → Res α} {k : α → List T → Res (List T)} (p : IPost c F H O τ R ((f σ).bind k)) :
    Tm c Rl f τ H fun y H1 => ∃ u σ1 F1 O1 P1, Mid c F H O τ σ1 F1 H1 O1 P1 ∧ Rl F1 H1 u y P1 ∧ IPost c F H O τ R (k u σ1) := by
  refine ⟨F, σ, O, st, ?_⟩
  cases q : f σ with
  | ok u σ1 =>
    rw [q] at p
    exact fun F1 H1 O1 y P1 s r n t => ⟨u, σ1, F1, O1, P1, ⟨s, n, t⟩, r, p⟩
  | exc C ns ts σ1 =>
    rw [q] at p
    exact fun F1 H1 O1 Ca d s t x => p F1 H1 O1 Ca d s t x
  | stuck => rw [q] at p; exact p.elim
theorem Mid.walk {c : Ct} {F H F1 H1 : Hp} {O O1 P : List Addr} {τ : L2.St} {σ1 : List T} {R : It → Hp → Prop} {J : It} {items : List T} (m : Mid c F H O τ σ1 F1 H1 O1 P) (p : IPost c F H O τ R (.ok items σ1)) (w : WalkM c.e F1 J items) : R J H1 :=
  p F1 H1 O1 J m.st (m.stp.sub_own (by intro a h; simp [h])) w
theorem walk_fr {e : En} {F F' H' : Hp} {J : It} {l : List T} {vs : List V} {G : Hp → Prop} (fr : Fr2 e F H' l vs) (w : Walk J vs.length G (YAt vs)) (hG : ∀ H, Sub F H → G H) : WalkM e F J l := by
  refine ⟨G, YAt vs, by rw [fr.1]; exact w, hG, fun i H x H3 F2 hi s1 s2 y => ?_⟩
  obtain ⟨rfl, hx⟩ := y
  exact ⟨l[i], List.getElem?_eq_getElem hi, F2, Alc.rfl s2 List.nodup_nil (by simp), rep_mono s1 (fr.2 i _ x (List.getElem?_eq_getElem hi) hx) (by simp)⟩
section
variable {X : Cx} {c : Ct} {a b d e : Expr} {f g : List T → Res T} {r : List T → Res (List T)} {p p2 pos : Pos} {k : Nat} {tg : Expr}
/-- the whole value frozen, as a list of items -/
theorem frz_all {e : En} {K : PySem.W.Frag} (hK : e.K = K) {F H : Hp} {P : List Addr} {t : T} {l : List T} {x : V} (s : Sub F H) (r : rep e F H t x P) (h : seqL t = some l) :
    ∃ a vs F2, x = .ref a ∧ SqL K F2 a vs ∧ Alc F H P F2 H [] ∧ Fr2 e F2 H (fzs l) vs := by
  have hF : ∀ a ∈ P, F a = none := fun a ha => (rep_at r a ha).1
  have al : Alc F H P (put F H P) H [] := Alc.freeze s hF fun _ h => h
  have rz := rep_fz (put_sub hF) (O' := P) (fun a ha => put_in ha) r fun _ h => h
  subst hK
  cases t <;> simp only [seqL, Option.some.injEq, reduceCtorEq] at h <;> subst h
  · have P0 : P = [] := by simp only [rep] at r; exact r.1
    subst P0
    simp only [rep] at r
    obtain ⟨_, a, vs, rfl, h1, h2⟩ := r
    have h3 := reps_fz (O' := []) (F' := put F H []) (put_sub hF) (by simp) h2 (by simp)
    exact ⟨a, vs, _, rfl, .inl (.inl (put_sub hF _ _ h1)), al, reps_fr2.mp h3⟩
  · simp only [fz, rep] at rz
    obtain ⟨_, a, vs, rfl, h1, h2⟩ := rz
    exact ⟨a, vs, _, rfl, .inl (.inl h1), al, reps_fr2.mp h2⟩
  · have P0 : P = [] := by simp only [rep] at r; exact r.1
    subst P0
    simp only [rep] at r
    obtain ⟨_, a, vs, rfl, h1, h2⟩ := r
    have h3 := reps_fz (O' := []) (F' := put F H []) (put_sub hF) (by simp) h2 (by simp)
    exact ⟨a, vs, _, rfl, (put_sub hF).sql h1, al, reps_fr2.mp h3⟩
def mItL (f : List T → Res T) : List T → Res (List T) := fun σ => (f σ).bind fun t σ1 =>
  match seqL t with
  | some l => .ok (fzs l) σ1
  | none => .stuck
theorem i_list (hK : c.e.K = X.K) (h : PE X a (tE c f)) : PI X tg a (tI c (mItL f)) := (pi_list h).wk fun τ H R h => by
  obtain ⟨F, σ, O, st, p⟩ := h
  refine Tm.mono (i_run st p) fun x H1 ⟨t, σ1, F1, O1, P1, m1, r1, p1⟩ => ?_
  cases q : seqL t with
  | none => rw [q] at p1; exact p1.elim
  | some l =>
    rw [q] at p1
    obtain ⟨a0, vs, F2, rfl, h1, al, fr⟩ := frz_all hK m1.st.sub r1 q
    have m2 := m1.alc al
    exact ⟨a0, rfl, ⟨vs, m2.st.sub.sql h1⟩, m2.walk p1 (walk_fr (F' := F2) fr walk_list fun H s => s.sql h1)⟩
def mItT (f : List T → Res T) : List T → Res (List T) := fun σ => (f σ).bind fun t σ1 =>
  match t with
  | .tup l => .ok l σ1
  | _ => .stuck
theorem i_tup (hK : c.e.K = X.K) (h : PE X a (tE c f)) : PI X tg a (tI c (mItT f)) := (pi_tup h).wk fun τ H R h => by
  obtain ⟨F, σ, O, st, p⟩ := h
  refine Tm.mono (i_run st p) fun x H1 ⟨t, σ1, F1, O1, P1, m1, r1, p1⟩ => ?_
  split at p1
  · rename_i l
    obtain ⟨rfl, a0, vs, rfl, h1, g1⟩ := rep_tup r1
    rw [hK] at h1
    exact ⟨a0, rfl, ⟨vs, m1.st.sub.sqt h1⟩, m1.walk p1 (walk_fr (F' := F1) (reps_fr2.mp g1) walk_tup fun H s => s.sqt h1)⟩
  · exact p1.elim
def intsFrom (lo : Int) (n : Nat) : List T := (List.range n).map fun (i : Nat) => T.v (V.int (lo + (i : Int)))
theorem walk_ints {e : En} {F : Hp} {lo : Int} {n : Nat} : WalkM e F (Itr lo n) (intsFrom lo n) := by
  have hl : (intsFrom lo n).length = n := by simp [intsFrom]
  refine ⟨fun _ => True, YFn fun i => .int (lo + i), by rw [hl]; exact walk_range, fun _ _ => trivial, fun i H x H3 F2 hi s1 s2 y => ?_⟩
  obtain ⟨rfl, rfl⟩ := y
  rw [hl] at hi
  exact ⟨T.v (V.int (lo + i)), by simp [intsFrom, hi], F2, Alc.rfl s2 List.nodup_nil (by simp), rep_v'⟩
def rgB (i : Int) : Bool := decide (-1000000 ≤ i) && decide (i ≤ 1000000)
theorem rgB_ok {i : Int} (h : rgB i = true) : -(2 ^ 62) ≤ i ∧ i < 2 ^ 62 := by
  unfold rgB at h
  simp only [Bool.and_eq_true, decide_eq_true_eq] at h
  omega
def mRg1 (f : List T → Res T) : List T → Res (List T) := fun σ => (f σ).bind fun t σ1 =>
  match t with
  | .v (.int j) => if rgB j then .ok (intsFrom 0 j.toNat) σ1 else .stuck
  | _ => .stuck
theorem i_rg1 (hg : Gl X "range") (hm : X.mg "range" = none) (h : PE X a (tE c f)) (hs : starEach [a] X.env = [(false, eval a X.env)] := by rfl) : PI X tg (.Call (.Name "range" p) [a] [] pos) (tI c (mRg1 f)) :=
  (pi_range1 hg hm (pa_cons h pa_nil hs) hs).wk fun τ H R h => by
    obtain ⟨F, σ, O, st, p⟩ := h
    refine Tm.mono (i_run st p) fun x H1 ⟨t, σ1, F1, O1, P1, m1, r1, p1⟩ => ?_
    split at p1
    · rename_i j
      split at p1
      · rename_i hj
        obtain ⟨rfl, _⟩ := rep_v r1
        exact ⟨j, rfl, (rgB_ok hj).1, (rgB_ok hj).2, m1.walk p1 walk_ints⟩
      · exact p1.elim
    · exact p1.elim
def mRg2 (f g : List T → Res T) : List T → Res (List T) := fun σ => (f σ).bind fun t σ1 => (g σ1).bind fun u σ2 =>
  match t, u with
  | .v (.int i), .v (.int j) => if rgB i && rgB j then .ok (intsFrom i (j - i).toNat) σ2 else .stuck
  | _, _ => .stuck
theorem Mid.irun {α β : Type} {F H F1 H1 : Hp} {O O1 P : List Addr} {τ : L2.St} {σ1 : List T} {Rl : Hp → Hp → α → β → List Addr → Prop} {R : It → Hp → Prop} (m : Mid c F H O τ σ1 F1 H1 O1 P) (hP : ∀ a ∈ P, ∃ o, H1 a = some o) {g : List T → Res α} {k : α → List T → Res (List T)}
    (p : IPost c F H O τ R ((g σ1).bind k)) :
    Tm c Rl g τ H1 fun y H2 => ∃ u σ2 F2 O2 P2, Mid c F H O τ σ2 F2 H2 O2 (P2 ++ P) ∧ Rl F2 H2 u y P2 ∧ Stp F1 H1 O1 F2 H2 (O2 ++ P2) ∧ IPost c F H O τ R (k u σ2) := by
  refine ⟨F1, σ1, O1, m.st, ?_⟩
  cases q : g σ1 with
  | ok u σ2 =>
    rw [q] at p
    exact fun F2 H2 O2 y P2 s r n t => ⟨u, σ2, F2, O2, P2, m.after s n t hP, r, t, p⟩
  | exc C ns ts σ2 =>
    rw [q] at p
    exact fun F2 H2 O2 Ca d s t x => p F2 H2 O2 Ca d s (m.stp.tr t (by intro a ha; simp [ha]) fun a ha => .inl ha) x
  | stuck => rw [q] at p; exact p.elim
theorem i_rg2 (hg : Gl X "range") (hm : X.mg "range" = none) (h : PE X a (tE c f)) (h' : PE X b (tE c g)) (hs : starEach [a, b] X.env = [(false, eval a X.env), (false, eval b X.env)] := by rfl) (hs2 : starEach [b] X.env = [(false, eval b X.env)] := by rfl) :
    PI X tg (.Call (.Name "range" p) [a, b] [] pos) (tI c (mRg2 f g)) :=
  (pi_range2 hg hm (pa_cons h (pa_cons h' pa_nil hs2) (hs.trans (by rw [hs2]))) hs hs2).wk fun τ H R h => by
    obtain ⟨F, σ, O, st, p⟩ := h
    refine Tm.mono (i_run st p) fun x H1 ⟨t, σ1, F1, O1, P1, m1, r1, p1⟩ => ?_
    refine Tm.mono (m1.irun (rep_some r1) p1) fun y H2 ⟨u, σ2, F2, O2, P2, m2, r2, s2, p2⟩ => ?_
    split at p2
    · rename_i i j _
      split at p2
      · rename_i hj
        simp only [Bool.and_eq_true] at hj
        obtain ⟨rfl, _⟩ := rep_v r1
        obtain ⟨rfl, _⟩ := rep_v r2
        exact ⟨i, j, rfl, ⟨(rgB_ok hj.1).1, (rgB_ok hj.1).2, (rgB_ok hj.2).1, (rgB_ok hj.2).2⟩, m2.walk p2 walk_ints⟩
      · exact p2.elim
    · exact p2.elim
/-- new pairs -/
theorem walk_pair {e : En} {F H0 : Hp} {J : It} {n : Nat} {G : Hp → Prop} {fx fy : Nat → Option V} {tx ty : Nat → Option T} {items : List T} (w : Walk J items.length G (YPair fx fy)) (hG : ∀ H, Sub F H → G H)
    (hi : ∀ i x y, i < items.length → fx i = some x → fy i = some y → ∃ t u, items[i]? = some (.tup [t, u]) ∧ rep e F H0 t x [] ∧ rep e F H0 u y []) : WalkM e F J items := by
  refine ⟨G, YPair fx fy, w, hG, fun i H v H3 F2 hlt s1 s2 y => ?_⟩
  obtain ⟨A, x, z, rfl, hn, rfl, e1, e2⟩ := y
  obtain ⟨t, u, h1, h2, h3⟩ := hi i x z hlt e1 e2
  refine ⟨_, h1, upd F2 A (.tup [x, z]), Alc.newF s2 hn, ?_⟩
  have s3 : Sub F (upd F2 A (.tup [x, z])) := s1.tr (s2.updF (s2.no hn))
  simp only [rep]
  refine ⟨trivial, A, [x, z], rfl, .inl (.inl upd_same), ?_⟩
  simp only [reps]
  exact ⟨x, [z], [], [], rfl, rfl, rep_mono s3 h2 (by simp), z, [], [], [], rfl, rfl, rep_mono s3 h3 (by simp), rfl, rfl⟩
def enumT : Nat → List T → List T
  | _, [] => []
  | n, t :: ts => .tup [.v (.int (n : Nat)), t] :: enumT (n + 1) ts
theorem enumT_get : ∀ (n : Nat) (l : List T) (i : Nat), (enumT n l)[i]? = (l[i]?).map fun t => .tup [.v (.int ((n + i : Nat) : Int)), t]
  | n, [], i => by simp [enumT]
  | n, t :: ts, 0 => by simp [enumT]
  | n, t :: ts, i + 1 => by
    simp only [enumT, List.getElem?_cons_succ]
    rw [enumT_get (n + 1) ts i]
    have : n + 1 + i = n + (i + 1) := by omega
    rw [this]
theorem enumT_len : ∀ (n : Nat) (l : List T), (enumT n l).length = l.length
  | _, [] => rfl
  | n, t :: ts => by simp [enumT, enumT_len (n + 1) ts]
def mEnum (f : List T → Res T) : List T → Res (List T) := fun σ => (f σ).bind fun t σ1 =>
  match seqL t with
  | some l => .ok (enumT 0 (fzs l)) σ1
  | none => .stuck
theorem i_enum {elts : List Expr} {kk : Nat} {tpos : Pos} (hK : c.e.K = X.K) (hg : Gl X "enumerate") (hm : X.mg "enumerate" = none) (h : PE X a (tE c f)) (hs : starEach [a] X.env = [(false, eval a X.env)] := by rfl) :
    PI X (.Tuple elts kk tpos) (.Call (.Name "enumerate" p) [a] [] pos) (tI c (mEnum f)) := (pi_enum hg hm (pa_cons h pa_nil hs) hs).wk fun τ H R h => by
  obtain ⟨F, σ, O, st, p⟩ := h
  refine Tm.mono (i_run st p) fun x H1 ⟨t, σ1, F1, O1, P1, m1, r1, p1⟩ => ?_
  cases q : seqL t with
  | none => rw [q] at p1; exact p1.elim
  | some l =>
    rw [q] at p1
    obtain ⟨a0, vs, F2, rfl, h1, al, fr⟩ := frz_all hK m1.st.sub r1 q
    have m2 := m1.alc al
    refine ⟨a0, vs, rfl, m2.st.sub.sql h1, m2.walk p1 (walk_pair (H0 := H1) (n := 0) (tx := fun _ => none) (ty := fun _ => none) (by rw [enumT_len, fr.1]; exact walk_enum) (fun H s => s.sql h1) fun i x y hi e1 e2 => ?_)⟩
    cases e1
    have hi' : i < (fzs l).length := by simpa [enumT_len] using hi
    refine ⟨.v (.int (i : Nat)), (fzs l)[i], ?_, rep_v', fr.2 i _ y (List.getElem?_eq_getElem hi') e2⟩
    rw [enumT_get, List.getElem?_eq_getElem hi']
    simp

/-! ## for -/
def forL (w : T → List T → Option (List T)) (body : List T → SRes) : List T → List T → SRes
  | [], σ => .nx σ
  | t :: r, σ => match w t σ with
    | none => .stuck
    | some σ1 => match body σ1 with
      | .nx σ2 => forL w body r σ2
      | .ct σ2 => forL w body r σ2
      | .bk σ2 => .nx σ2
      | .rt t σ2 => .rt t σ2
      | .exc C ns ts σ2 => .exc C ns ts σ2
      | .stuck => .stuck
def mFor (it : List T → Res (List T)) (w : T → List T → Option (List T)) (body : List T → SRes) : List T → SRes := fun σ => (it σ).sbind fun items σ1 => forL w body items σ1
theorem s_for {iter : Expr} {ss : List Stmt} {it : List T → Res (List T)} {w : T → List T → Option (List T)} {body : List T → SRes} (hp : PassesOwn (model X.prog X.w) X.A X.env X.xe) (hc : X.calm = true)
    (hi : PI X tg iter (tI c it)) {sl : List Nat} (hg : PG X tg (tG c sl w)) (hb : PSs X ss (tS c body)) (hs : ∀ x, foldedSetIterable iter X.env x = pure x := by intro _; rfl) : PS X (.For tg iter ss [] pos) (tS c (mFor it w body)) :=
  (ps_for hp hc hi hg hb hs).wk fun D τ H h => by
    obtain ⟨F, σ, O, st, p⟩ := h
    refine ⟨F, σ, O, st, ?_⟩
    unfold mFor at p
    cases q : it σ with
    | stuck => rw [q] at p; exact p.elim
    | exc C ns ts σ1 =>
      rw [q] at p
      exact fun F1 H1 O1 Ca d s t x => p τ F1 H1 O1 Ca d s t x
    | ok items σ1 =>
      rw [q] at p
      intro F1 H1 O1 J s1 t1 ⟨G, Y, wk, hG, hY⟩
      refine for_it wk (fun i τ H => ∃ F2 σ O2, Sta c.e c.bor F2 H τ σ O2 ∧ Sub F1 F2 ∧ SPost c F2 H O2 D (forL w body (items.drop i) σ)) ⟨F1, σ1, O1, s1, Sub.rfl, p.go t1 fun _ h => h⟩ (fun i τ H _ ⟨F2, σ, O2, s2, u2, _⟩ => hG H (u2.tr s2.sub)) ?_ ?_
      · rintro i x τ H H' hlt ⟨F2, σ, O2, s2, u2, p2⟩ hy
        obtain ⟨t, ht, F3, al, r3⟩ := hY i H x H' F2 hlt u2 s2.sub hy
        have m3 := (Mid.start (c := c) s2).alc al
        have ed : items.drop i = t :: items.drop (i + 1) := by
          rw [List.drop_eq_getElem_cons hlt]
          congr 1
          rw [List.getElem?_eq_getElem hlt] at ht
          exact Option.some.inj ht
        rw [ed] at p2
        simp only [forL] at p2
        cases qw : w t σ with
        | none => rw [qw] at p2; exact p2.elim
        | some σ3 =>
          simp only [qw] at p2
          refine ⟨F3, σ, O2, t, [], m3.st, r3, by simpa using m3.st.nd, σ3, qw, fun τ' O' st' mm _ => ⟨F3, σ3, O', st', ?_⟩⟩
          have stp3 : Stp F2 H O2 F3 H' O' := m3.stp.sub_own fun a ha => by simpa using mm a ha
          cases qb : body σ3 with
          | stuck => rw [qb] at p2; exact p2.elim
          | nx σ4 =>
            simp only [qb] at p2
            exact fun τ4 F4 H4 O4 s4 t4 => ⟨F4, σ4, O4, s4, (u2.tr m3.stp.sub).tr t4.sub, p2.go (stp3.tr t4 (fun _ h => h) fun _ h => .inl h) fun _ h => h⟩
          | ct σ4 =>
            simp only [qb] at p2
            exact fun τ4 F4 H4 O4 s4 t4 => ⟨F4, σ4, O4, s4, (u2.tr m3.stp.sub).tr t4.sub, p2.go (stp3.tr t4 (fun _ h => h) fun _ h => .inl h) fun _ h => h⟩
          | bk σ4 =>
            simp only [qb] at p2
            exact fun τ4 F4 H4 O4 s4 t4 => p2 τ4 F4 H4 O4 s4 (stp3.tr t4 (fun _ h => h) fun _ h => .inl h)
          | rt u σ4 =>
            simp only [qb] at p2
            exact fun τ4 F4 H4 O4 x P4 s4 r4 n4 t4 => p2 τ4 F4 H4 O4 x P4 s4 r4 n4 (stp3.tr t4 (fun _ h => h) fun _ h => .inl h)
          | exc C ns ts σ4 =>
            simp only [qb] at p2
            exact fun τ4 F4 H4 O4 Ca d s4 t4 x4 => p2 τ4 F4 H4 O4 Ca d s4 (stp3.tr t4 (fun _ h => h) fun _ h => .inl h) x4
      · rintro τ H ⟨F2, σ, O2, s2, u2, p2⟩
        rw [List.drop_length] at p2
        exact p2 τ F2 H O2 s2 (Stp.rfl fun _ h => h)

/-! ## while -/
def whL (t : List T → Res Bool) (body : List T → SRes) : Nat → List T → SRes
  | 0, _ => .stuck
  | n + 1, σ => (t σ).sbind fun b σ1 => if b then (match body σ1 with
      | .nx σ2 => whL t body n σ2
      | .ct σ2 => whL t body n σ2
      | .bk σ2 => .nx σ2
      | .rt t σ2 => .rt t σ2
      | .exc C ns ts σ2 => .exc C ns ts σ2
      | .stuck => .stuck) else .nx σ1
theorem s_while {ss : List Stmt} {tb : List T → Res Bool} {body : List T → SRes} (n : Nat) (hp : PassesOwn (model X.prog X.w) X.A X.env X.xe) (hc : PT X e (tT c tb)) (hb : PSs X ss (tS c body)) : PS X (.While e ss [] pos) (tS c (whL tb body n)) :=
  (ps_while hp hc hb).wk fun D τ H h => by
    refine ⟨fun m τ H => ∃ F σ O, Sta c.e c.bor F H τ σ O ∧ SPost c F H O D (whL tb body m σ), ⟨n, h⟩, ?_⟩
    rintro m τ H ⟨F, σ, O, st, p⟩
    cases m with
    | zero => exact p.elim
    | succ m =>
      simp only [whL] at p
      refine Tm.mono (s_run st p) fun y H1 ⟨u, σ1, F1, O1, P1, m1, r1, p1⟩ => ?_
      obtain ⟨rfl, rfl⟩ := r1
      have t1 : Stp F H O F1 H1 O1 := m1.stp.sub_own (by intro a h; simp [h])
      cases u with
      | false => exact m1.nx p1
      | true =>
        simp only [if_true] at p1 ⊢
        refine ⟨fun τ' H' => ∃ F σ O, Sta c.e c.bor F H' τ' σ O ∧ SPost c F H' O D (whL tb body m σ), fun τ' H' q => ⟨m, Nat.lt_succ_self m, q⟩, F1, σ1, O1, m1.st, ?_⟩
        cases qb : body σ1 with
        | stuck => rw [qb] at p1; exact p1.elim
        | nx σ4 =>
          simp only [qb] at p1
          exact fun τ4 F4 H4 O4 s4 t4 => ⟨F4, σ4, O4, s4, p1.go (t1.tr t4 (fun _ h => h) fun _ h => .inl h) fun _ h => h⟩
        | ct σ4 =>
          simp only [qb] at p1
          exact fun τ4 F4 H4 O4 s4 t4 => ⟨F4, σ4, O4, s4, p1.go (t1.tr t4 (fun _ h => h) fun _ h => .inl h) fun _ h => h⟩
        | bk σ4 =>
          simp only [qb] at p1
          exact fun τ4 F4 H4 O4 s4 t4 => p1 τ4 F4 H4 O4 s4 (t1.tr t4 (fun _ h => h) fun _ h => .inl h)
        | rt u σ4 =>
          simp only [qb] at p1
          exact fun τ4 F4 H4 O4 x P4 s4 r4 n4 t4 => p1 τ4 F4 H4 O4 x P4 s4 r4 n4 (t1.tr t4 (fun _ h => h) fun _ h => .inl h)
        | exc C ns ts σ4 =>
          simp only [qb] at p1
          exact fun τ4 F4 H4 O4 Ca d s4 t4 x4 => p1 τ4 F4 H4 O4 Ca d s4 (t1.tr t4 (fun _ h => h) fun _ h => .inl h) x4
end
end MV

namespace MV
open PySem PySem.Spec PyProof.Rows L2

/-! ## List comprehensions -/
/-- a tree that may be forgotten and taken back -/
def keepT : T → T
  | .own _ => .hole
  | .oin _ _ _ => .hole
  | t => t
def wipeT (σ : List T) : List Nat → List T
  | [] => σ
  | v :: vs => (wipeT σ vs).set v .hole
/-- the slots vs as they were in σ0 -/
def backT (σ0 σ : List T) : List Nat → List T
  | [] => σ
  | v :: vs => (backT σ0 σ vs).set v (match σ0[v]? with | some t => keepT t | none => .hole)
section
variable {X : Cx} {c : Ct} {F H F1 H1 : Hp} {O O1 : List Addr} {τ τ2 : L2.St} {σ σ0 : List T}
theorem wipeT_len : ∀ (σ : List T) (vs : List Nat), (wipeT σ vs).length = σ.length
  | _, [] => rfl
  | σ, v :: vs => by simp [wipeT, wipeT_len σ vs]
theorem backT_len : ∀ (σ0 σ : List T) (vs : List Nat), (backT σ0 σ vs).length = σ.length
  | _, _, [] => rfl
  | σ0, σ, v :: vs => by simp [backT, backT_len σ0 σ vs]
/-- one slot is made a hole, its value forgotten or anything -/
theorem Sta.forget (st : Sta c.e c.bor F H τ σ O) {v : Nat} (ok : slotOk c v) (y : Option V) : ∃ O', Sta c.e c.bor F H (τ.set v y) (σ.set v .hole) O' ∧ ∀ a ∈ O', a ∈ O := by
  by_cases hi : v < σ.length
  · obtain ⟨vs, rv, hv⟩ := st.vals
    obtain ⟨x, A, Ot, B, e1, rfl, r1, back⟩ := reps_split rv (List.getElem?_eq_getElem hi)
    have hlt : v < vs.length := by rw [← reps_len rv]; exact hi
    have nd2 : (A ++ [] ++ B).Nodup := nd3' st.nd List.nodup_nil (by simp)
    refine ⟨A ++ [] ++ B, ⟨st.sub, nd2, by simp [st.len], ⟨vs.set v x, back (t' := .hole) Sub.rfl (fun a ha => ⟨rfl, (reps_at rv a (by rcases List.mem_append.mp ha with z | z <;> simp [z])).1⟩) (by simp [rep]), fun j u y h1 h2 h3 => ?_⟩, fun y hy => ?_⟩, ?_⟩
    · by_cases hj : j = v
      · subst hj
        rw [List.getElem?_set_self hi] at h1
        cases h1
        cases h2
      · rw [List.getElem?_set_ne (Ne.symm hj)] at h1 h3 ⊢
        exact hv j u y h1 h2 h3
    · rcases ok with z | z
      · rw [List.getElem?_set_ne z]; exact st.bor y hy
      · rw [z] at hy; cases hy
    · intro a ha
      simp only [List.mem_append, List.not_mem_nil, or_false] at ha ⊢
      rcases ha with z | z <;> simp [z]
  · have e1 : σ.set v T.hole = σ := List.set_eq_of_length_le (by omega)
    have e2 : τ.set v y = τ := List.set_eq_of_length_le (by rw [st.len]; omega)
    rw [e1, e2]
    exact ⟨O, st, fun _ h => h⟩
theorem Sta.wiped (st : Sta c.e c.bor F H τ σ O) : ∀ {vs : List Nat}, (∀ v ∈ vs, slotOk c v) → ∃ O', Sta c.e c.bor F H (wipe τ vs) (wipeT σ vs) O' ∧ ∀ a ∈ O', a ∈ O
  | [], _ => ⟨O, st, fun _ h => h⟩
  | v :: vs, ok => by
    obtain ⟨O1, s1, m1⟩ := st.wiped (vs := vs) fun u hu => ok u (List.mem_cons_of_mem _ hu)
    obtain ⟨O2, s2, m2⟩ := s1.forget (ok v List.mem_cons_self) none
    exact ⟨O2, s2, fun a ha => m1 a (m2 a ha)⟩
theorem keepT_rep {e : En} {t : T} {x : V} {P : List Addr} (r : rep e F H t x P) : rep e F H (keepT t) x [] := by
  cases t <;> simp only [keepT] <;> first | (simp only [rep]; done) | (have z := r; simp only [rep] at z; first | (rw [z.1] at r; exact r) | (rw [z.2] at r; exact r) | (rw [z] at r; exact r))
/-- back from a block: the slots are what they were -/
theorem Sta.backed (s0 : Sta c.e c.bor F H τ σ0 O) (s1 : Sta c.e c.bor F1 H1 τ2 σ O1) {N : List Addr} (stp : Stp F H O F1 H1 N) : ∀ {vs : List Nat}, wipe τ2 vs = wipe τ vs → (∀ v ∈ vs, slotOk c v) →
    ∃ O2, Sta c.e c.bor F1 H1 τ (backT σ0 σ vs) O2 ∧ ∀ a ∈ O2, a ∈ O1 := by
  intro vs hw ok
  -- first: with the block's slots made holes
  have key : ∀ ws : List Nat, (∀ v ∈ ws, slotOk c v) → ∃ O2, Sta c.e c.bor F1 H1 (wipe τ2 ws) (wipeT σ ws) O2 ∧ ∀ a ∈ O2, a ∈ O1 := fun ws h => s1.wiped h
  obtain ⟨O2, s2, m2⟩ := key vs ok
  rw [hw] at s2
  -- then slot by slot; τ agrees with the wiped one elsewhere
  have lτ : τ.length = σ.length := by
    have := s2.len
    rw [wipe_length, wipeT_len] at this
    exact this
  obtain ⟨ws0, rv0, hv0⟩ := s0.vals
  obtain ⟨ws, rv, hv⟩ := s2.vals
  refine ⟨O2, ?_, m2⟩
  -- values: kept trees at vs, the others as they are
  have main : ∀ us : List Nat, (∀ v ∈ us, v ∈ vs) → ∃ ys, reps c.e F1 H1 (backT σ0 (wipeT σ vs) us) ys O2 ∧ ∀ (j : Nat) (u : T) (y : V), (backT σ0 (wipeT σ vs) us)[j]? = some u → u.isHole = false → ys[j]? = some y → τ[j]? = some (some y) := by
    intro us
    induction us with
    | nil =>
      intro _
      refine ⟨ws, rv, fun j u y h1 h2 h3 => ?_⟩
      exact (wipe_some (hv j u y h1 h2 h3)).1
    | cons v us ih =>
      intro hm
      obtain ⟨ys, ry, hy⟩ := ih fun u hu => hm u (List.mem_cons_of_mem _ hu)
      simp only [backT]
      by_cases hi : v < (backT σ0 (wipeT σ vs) us).length
      · obtain ⟨x, A, Ot, B, e1, eO, r1, back⟩ := reps_split ry (List.getElem?_eq_getElem hi)
        have hlt : v < ys.length := by rw [← reps_len ry]; exact hi
        -- what stood at v is a hole: no cells
        have hOt : Ot = [] := by
          have hvv : v ∈ vs := hm v List.mem_cons_self
          have gone : ∀ (ws : List Nat), v ∈ ws → ∀ t, (wipeT σ ws)[v]? = some t → t = .hole := by
            intro ws
            induction ws with
            | nil => intro h; cases h
            | cons w ws ihw =>
              intro h t ht
              simp only [wipeT] at ht
              by_cases hw : w = v
              · subst hw
                rw [List.getElem?_set] at ht
                simp only [if_true] at ht
                split at ht <;> cases ht
                rfl
              · rw [List.getElem?_set_ne hw] at ht
                exact ihw ((List.mem_cons.mp h).resolve_left fun z => hw z.symm) t ht
          have noc : ∀ us : List Nat, ∀ t, (backT σ0 (wipeT σ vs) us)[v]? = some t → t = .hole ∨ ∃ u, t = keepT u := by
            intro us
            induction us with
            | nil => intro t ht; exact .inl (gone vs hvv t ht)
            | cons w us ihu =>
              intro t ht
              simp only [backT] at ht
              by_cases hw : w = v
              · subst hw
                rw [List.getElem?_set] at ht
                simp only [if_true] at ht
                split at ht
                · cases ht
                  cases q : σ0[w]? with
                  | none => exact .inl rfl
                  | some u => exact .inr ⟨u, rfl⟩
                · cases ht
              · rw [List.getElem?_set_ne hw] at ht
                exact ihu t ht
          rcases noc us _ (List.getElem?_eq_getElem hi) with z | ⟨u, z⟩
          · rw [z] at r1; simpa only [rep] using r1
          · rw [z] at r1
            cases u <;> simp only [keepT, rep] at r1 <;> first | exact r1 | exact r1.1 | exact r1.2
        subst hOt
        cases q : σ0[v]? with
        | none =>
          refine ⟨ys.set v x, by rw [eO]; exact back (t' := .hole) Sub.rfl (fun a ha => ⟨rfl, (reps_at ry a (by rw [eO]; rcases List.mem_append.mp ha with z | z <;> simp [z])).1⟩) (by simp [rep]), fun j u y h1 h2 h3 => ?_⟩
          by_cases hj : j = v
          · subst hj
            rw [List.getElem?_set_self hi] at h1
            cases h1
            cases h2
          · rw [List.getElem?_set_ne (Ne.symm hj)] at h1 h3
            exact hy j u y h1 h2 h3
        | some t0 =>
          obtain ⟨x0, A0, Ot0, B0, e0, _, r0, _⟩ := reps_split rv0 q
          have rk : rep c.e F1 H1 (keepT t0) x0 [] := stp.rep (keepT_rep r0) (by simp)
          refine ⟨ys.set v x0, by rw [eO]; exact back Sub.rfl (fun a ha => ⟨rfl, (reps_at ry a (by rw [eO]; rcases List.mem_append.mp ha with z | z <;> simp [z])).1⟩) rk, fun j u y h1 h2 h3 => ?_⟩
          by_cases hj : j = v
          · subst hj
            rw [List.getElem?_set_self hi] at h1
            rw [List.getElem?_set_self hlt] at h3
            cases h1
            cases h3
            have hn : t0.isHole = false := by
              cases t0 <;> first | rfl | cases h2
            exact hv0 j t0 x0 q hn e0
          · rw [List.getElem?_set_ne (Ne.symm hj)] at h1 h3
            exact hy j u y h1 h2 h3
      · have e1 : (backT σ0 (wipeT σ vs) us).set v (match σ0[v]? with | some t => keepT t | none => .hole) = backT σ0 (wipeT σ vs) us := List.set_eq_of_length_le (by omega)
        rw [e1]
        exact ⟨ys, ry, hy⟩
  have eqb : ∀ us : List Nat, (∀ v ∈ vs, v ∈ us) → backT σ0 (wipeT σ vs) us = backT σ0 σ us := by
    intro us hsub
    apply List.ext_getElem?
    intro j
    have get : ∀ (ρ : List T) (us : List Nat), ρ.length = σ.length → (backT σ0 ρ us)[j]? = if j ∈ us then (if j < σ.length then some (match σ0[j]? with | some t => keepT t | none => .hole) else none) else ρ[j]? := by
      intro ρ us hρ
      induction us with
      | nil => simp [backT]
      | cons w us ihw =>
        simp only [backT]
        by_cases hw : w = j
        · subst hw
          rw [List.getElem?_set]
          simp [backT_len, hρ]
        · rw [List.getElem?_set_ne hw, ihw]
          have : (j ∈ w :: us) ↔ j ∈ us := by simp [Ne.symm hw]
          simp only [this]
    rw [get _ us (by rw [wipeT_len]), get _ us rfl]
    by_cases hj : j ∈ us
    · simp [hj]
    · simp only [hj, if_false]
      have out : ∀ ws : List Nat, j ∉ ws → (wipeT σ ws)[j]? = σ[j]? := by
        intro ws
        induction ws with
        | nil => intro _; rfl
        | cons w ws ihw =>
          intro h
          simp only [List.mem_cons, not_or] at h
          simp only [wipeT]
          rw [List.getElem?_set_ne (Ne.symm h.1)]
          exact ihw h.2
      exact out vs fun z => hj (hsub j z)
  obtain ⟨ys, ry, hy⟩ := main vs fun _ h => h
  rw [eqb vs fun _ h => h] at ry hy
  exact ⟨s2.sub, s2.nd, by rw [backT_len]; exact lτ, ⟨ys, ry, hy⟩, s0.bor⟩
end
/-- one item after the other -/
def lcL (w : T → List T → Option (List T)) (tt : List T → Res Bool) (te : List T → Res T) (vs : List Nat) : List T → List T → Option (List T × List T)
  | [], σ => some ([], σ)
  | t :: r, σ => match w t (wipeT σ vs) with
    | none => none
    | some σ1 => match tt σ1 with
      | .ok true σ2 => (match te σ2 with
        | .ok u σ3 => (match lcL w tt te vs r σ3 with
          | some (us, σ4) => some (u :: us, σ4)
          | none => none)
        | _ => none)
      | .ok false σ2 => lcL w tt te vs r σ2
      | _ => none
def mLc (it : List T → Res (List T)) (w : T → List T → Option (List T)) (tt : List T → Res Bool) (te : List T → Res T) (vs : List Nat) : List T → Res T := fun σ => (it σ).bind fun items σ1 =>
  if szB items.length then (match lcL w tt te vs items σ1 with
    | some (us, σ2) => .ok (.own us) (backT σ1 σ2 vs)
    | none => .stuck) else .stuck
def mYes : List T → Res Bool := fun σ => .ok true σ
section
variable {X : Cx} {c : Ct} {e elt iter tg : Expr} {pos : Pos}
theorem wipe_get (τ : L2.St) (j : Nat) : ∀ vs : List Nat, (wipe τ vs)[j]? = if j ∈ vs then (if j < τ.length then some none else none) else τ[j]?
  | [] => by simp [wipe]
  | v :: vs => by
    simp only [wipe]
    by_cases h : v = j
    · subst h
      rw [List.getElem?_set]
      simp [wipe_length]
    · rw [List.getElem?_set_ne h, wipe_get τ j vs]
      have : (j ∈ v :: vs) ↔ j ∈ vs := by simp [Ne.symm h]
      simp only [this]
theorem wipe_ext {τ τ' : L2.St} {vs : List Nat} (h : ∀ j, j ∉ vs → τ'[j]? = τ[j]?) (hl : τ'.length = τ.length) : wipe τ' vs = wipe τ vs := by
  apply List.ext_getElem?
  intro j
  rw [wipe_get, wipe_get, hl]
  by_cases hj : j ∈ vs
  · simp [hj]
  · simp only [hj, if_false]
    exact h j hj
theorem wipe_twice (τ : L2.St) (vs : List Nat) : wipe (wipe τ vs) vs = wipe τ vs :=
  wipe_ext (fun j hj => by rw [wipe_get]; simp [hj]) (wipe_length _ _)
def quiet (c : Ct) : Ct := { c with W := fun _ _ _ _ => False }
theorem t_yes {c : Ct} : PTs X [] (tT c mYes) := by
  obtain ⟨h⟩ := (pts_nil : PTs X [] tYes)
  refine ⟨fun p s τ H Q I q => h p s τ H Q I ?_⟩
  obtain ⟨F, σ, O, st, z⟩ := q
  exact RB.fin (Mid.start st) z
theorem lc_wk {it : List T → Res (List T)} {w : T → List T → Option (List T)} {tt : List T → Res Bool} {te : List T → Res T} {vs : List Nat} {sl : List Nat} (hsl : ∀ j ∈ sl, j ∈ vs) (ok : ∀ v ∈ vs, slotOk c v) (τ : L2.St) (H : Hp) (Q : VK) (h : tE c (mLc it w tt te vs) τ H Q) :
    tLc (tI c it) (tG (quiet c) sl w) (tT (quiet c) tt) (tE (quiet c) te) vs τ H Q := by
  obtain ⟨F, σ, O, st, p⟩ := h
  refine ⟨F, σ, O, st, ?_⟩
  unfold mLc at p
  cases q : it σ with
  | stuck => rw [q] at p; exact p.elim
  | exc C ns ts σ1 =>
    rw [q] at p
    exact fun F1 H1 O1 Ca d s t x => p F1 H1 O1 Ca d s t x
  | ok items σ1 =>
    rw [q] at p
    simp only [Res.bind] at p
    split at p
    · rename_i hz
      split at p
      · rename_i us σ2 hl
        rintro F1 H1 O1 J s1 t1 ⟨G, Y, wk, hG, hY⟩ D hD
        -- the state at turn i: the block's slots wiped; acc lies at D
        refine lc_it wk (fun i H2 => ∃ F2 τ2 ρ O2 acc vacc P2 rest, Sta c.e c.bor F2 H2 τ2 ρ O2 ∧ wipe τ2 vs = wipe τ vs ∧ Stp F1 H1 O1 F2 H2 (O2 ++ D :: P2) ∧ (O2 ++ D :: P2).Nodup ∧
          F2 D = none ∧ H2 D = some (.lst vacc) ∧ reps c.e F2 H2 acc vacc P2 ∧ acc.length ≤ i ∧ lcL w tt te vs (items.drop i) ρ = some (rest, σ2) ∧ us = acc ++ rest) ?_ ?_ ?_ ?_
        · have al := Alc.newO (P := []) (o := .lst []) s1.sub hD List.nodup_nil (by simp)
          have m1 := (Mid.start (c := c) s1).alc al
          refine ⟨F1, τ, σ1, O1, [], [], [], us, m1.st, rfl, by simpa using m1.stp, by simpa using m1.nd, s1.sub.no hD, upd_same, by simp [reps], Nat.zero_le _, by simpa using hl, by simp⟩
        · rintro i H2 _ ⟨F2, τ2, ρ, O2, acc, vacc, P2, rest, s2, w2, st2, _⟩
          exact hG H2 (st2.sub.tr s2.sub)
        · rintro i x H2 H3 hlt ⟨F2, τ2, ρ, O2, acc, vacc, P2, rest, s2, w2, st2, n2, fd, hd, ra, hi, hr, he⟩ hy
          obtain ⟨t, ht, F3, al, r3⟩ := hY i H2 x H3 F2 hlt st2.sub s2.sub hy
          have ed : items.drop i = t :: items.drop (i + 1) := by
            rw [List.drop_eq_getElem_cons hlt]
            congr 1
            rw [List.getElem?_eq_getElem hlt] at ht
            exact Option.some.inj ht
          rw [ed] at hr
          simp only [lcL] at hr
          have m3 := (Mid.start (c := c) s2).alc al
          obtain ⟨O3, s3, k3⟩ := m3.st.wiped (vs := vs) ok
          rw [w2] at s3
          have dj := nd_disj n2
          have hid3 : ∀ a ∈ D :: P2, H3 a = H2 a ∧ F3 a = none := fun a ha => by
            have fa : F2 a = none := by
              rcases List.mem_cons.mp ha with z | z
              · rw [z]; exact fd
              · exact (reps_at ra a z).1
            have oa : ∃ o, H2 a = some o := by
              rcases List.mem_cons.mp ha with z | z
              · exact ⟨_, by rw [z]; exact hd⟩
              · exact reps_some ra a z
            obtain ⟨o, oa⟩ := oa
            exact al.stp.hid (by simp) fa oa
          have hd3 : H3 D = some (.lst vacc) := by rw [(hid3 D (by simp)).1]; exact hd
          have fd3 : F3 D = none := (hid3 D (by simp)).2
          have ra3 : reps c.e F3 H3 acc vacc P2 := reps_mono al.stp.sub ra fun a ha => hid3 a (by simp [ha])
          have dO3 : ∀ a ∈ D :: P2, a ∉ O3 := fun a ha z => dj a ha (k3 a z)
          have stp3 : Stp F1 H1 O1 F3 H3 (O3 ++ D :: P2) := st2.tr (N2 := []) (O1 := []) al.stp (by simp) (by
            intro a ha
            rcases List.mem_append.mp ha with z | z
            · exact .inr (by simp [k3 a z])
            · exact .inr (by simp only [List.mem_append]; exact .inr z))
          cases qw : w t (wipeT ρ vs) with
          | none => rw [qw] at hr; cases hr
          | some ρ1 =>
            simp only [qw] at hr
            refine ⟨F3, wipeT ρ vs, O3, t, [], s3, r3, by simpa using s3.nd, ρ1, qw, fun τ4 O4 s4 k4 e4 => ?_⟩
            have k4' : ∀ a ∈ O4, a ∈ O3 := fun a ha => by simpa using k4 a ha
            have w4 : wipe τ4 vs = wipe τ vs := by
              rw [wipe_ext (τ := wipe τ vs) (fun j hj => e4.2 j fun z => hj (hsl j z)) e4.1]
              exact wipe_twice τ vs
            refine ⟨by rw [w4], ?_⟩
            have n4 : (O4 ++ D :: P2).Nodup := nd_app s4.nd (List.nodup_append.mp n2).2.1 fun a ha z => dO3 a ha (k4' a z)
            have m4 : Mid c F1 H1 O1 τ4 ρ1 F3 H3 O4 (D :: P2) := ⟨s4, n4, stp3.sub_own fun a ha => by
              rcases List.mem_append.mp ha with z | z
              · simp [k4' a z]
              · simp only [List.mem_append]; exact .inr z⟩
            have some3 : ∀ a ∈ D :: P2, ∃ o, H3 a = some o := fun a ha => by
              rcases List.mem_cons.mp ha with z | z
              · exact ⟨_, by rw [z]; exact hd3⟩
              · exact reps_some ra3 a z
            refine ⟨F3, ρ1, O4, s4, ?_⟩
            cases qt : tt ρ1 with
            | stuck => rw [qt] at hr; cases hr
            | exc _ _ _ _ => rw [qt] at hr; cases hr
            | ok b ρ2 =>
              rw [qt] at hr
              rintro F5 H5 O5 b' P5 s5 ⟨rfl, rfl⟩ n5 t5
              have m5 : Mid c F1 H1 O1 τ4 ρ2 F5 H5 O5 (D :: P2) := by simpa using m4.after s5 n5 t5 some3
              have hid5 : ∀ a ∈ D :: P2, H5 a = H3 a ∧ F5 a = none := fun a ha => by
                have fa : F3 a = none := (hid3 a ha).2
                obtain ⟨o, oa⟩ := some3 a ha
                exact t5.hid (m4.disj a ha) fa oa
              have hd5 : H5 D = some (.lst vacc) := by rw [(hid5 D (by simp)).1]; exact hd3
              have fd5 : F5 D = none := (hid5 D (by simp)).2
              have ra5 : reps c.e F5 H5 acc vacc P2 := reps_mono t5.sub ra3 fun a ha => hid5 a (by simp [ha])
              have some5 : ∀ a ∈ D :: P2, ∃ o, H5 a = some o := fun a ha => by
                obtain ⟨o, oa⟩ := some3 a ha
                exact ⟨o, by rw [(hid5 a ha).1]; exact oa⟩
              cases b with
              | false =>
                simp only at hr
                exact ⟨F5, τ4, ρ2, O5, acc, vacc, P2, rest, s5, w4, m5.stp, m5.nd, fd5, hd5, ra5, by omega, hr, he⟩
              | true =>
                simp only at hr
                refine ⟨F5, ρ2, O5, s5, ?_⟩
                cases qe : te ρ2 with
                | stuck => rw [qe] at hr; cases hr
                | exc _ _ _ _ => rw [qe] at hr; cases hr
                | ok u ρ3 =>
                  rw [qe] at hr
                  simp only at hr
                  cases ql : lcL w tt te vs (items.drop (i + 1)) ρ3 with
                  | none => rw [ql] at hr; cases hr
                  | some pr =>
                    obtain ⟨us', σ4⟩ := pr
                    rw [ql] at hr
                    simp only [Option.some.injEq, Prod.mk.injEq] at hr
                    obtain ⟨rfl, rfl⟩ := hr
                    intro F6 H6 O6 y P6 s6 r6 n6 t6
                    have m6 : Mid c F1 H1 O1 τ4 ρ3 F6 H6 O6 (P6 ++ D :: P2) := m5.after s6 n6 t6 some5
                    have hid6 : ∀ a ∈ D :: P2, H6 a = H5 a ∧ F6 a = none := fun a ha => by
                      have fa : F5 a = none := (hid5 a ha).2
                      obtain ⟨o, oa⟩ := some5 a ha
                      exact t6.hid (m5.disj a ha) fa oa
                    have hd6 : H6 D = some (.lst vacc) := by rw [(hid6 D (by simp)).1]; exact hd5
                    have fd6 : F6 D = none := (hid6 D (by simp)).2
                    have ra6 : reps c.e F6 H6 acc vacc P2 := reps_mono t6.sub ra5 fun a ha => hid6 a (by simp [ha])
                    have lv : acc.length = vacc.length := reps_len ra6
                    have hz' := of_decide_eq_true hz
                    refine ⟨vacc, hd6, by rw [sizeLine_eq]; omega, ?_⟩
                    have nP := (List.nodup_append.mp m6.nd).2.1
                    have pm : (D :: (P2 ++ P6)).Perm (P6 ++ D :: P2) := by
                      have := (List.perm_append_comm (l₁ := D :: P2) (l₂ := P6))
                      simpa using this
                    have nD := pm.nodup_iff.mpr nP
                    have al7 : Alc F6 H6 (P6 ++ D :: P2) F6 (upd H6 D (.lst (vacc ++ [y]))) (D :: (P2 ++ P6)) := Alc.wr s6.sub (by simp) fd6 nP nD fun a ha => pm.mem_iff.mp ha
                    have m7 := m6.alc al7
                    have dD : ∀ a ∈ P2 ++ P6, a ≠ D := fun a ha z => (List.nodup_cons.mp nD).1 (z ▸ ha)
                    refine ⟨F6, τ4, ρ3, O6, acc ++ [u], vacc ++ [y], P2 ++ P6, us', m7.st, w4, m7.stp, m7.nd, fd6, upd_same, ?_, by simp; omega, ql, by rw [he]; simp⟩
                    refine reps_app.mpr ⟨vacc, [y], P2, P6, rfl, rfl, reps_mono Sub.rfl ra6 fun a ha => ⟨upd_ne (dD a (by simp [ha])), (hid6 a (by simp [ha])).2⟩, reps_one.mpr (rep_mono Sub.rfl r6 fun a ha => ⟨upd_ne (dD a (by simp [ha])), (rep_at r6 a ha).1⟩)⟩
        · rintro H2 ⟨F2, τ2, ρ, O2, acc, vacc, P2, rest, s2, w2, st2, n2, fd, hd, ra, hi, hr, he⟩
          rw [List.drop_length] at hr
          simp only [lcL, Option.some.injEq, Prod.mk.injEq] at hr
          obtain ⟨rfl, rfl⟩ := hr
          rw [List.append_nil] at he
          subst he
          obtain ⟨O3, s3, k3⟩ := s1.backed s2 st2 w2 ok
          refine p F2 H2 O3 (.ref D) (D :: P2) s3 ?_ (nd_app s3.nd (List.nodup_append.mp n2).2.1 fun a ha z => nd_disj n2 a ha (k3 a z)) ((t1.tr st2 (fun _ h => h) fun _ h => .inl h).sub_own fun a ha => ?_)
          · simp only [rep]
            exact ⟨D, vacc, P2, rfl, rfl, fd, hd, ra⟩
          · rcases List.mem_append.mp ha with z | z
            · simp [k3 a z]
            · simp only [List.mem_append]; exact .inr z
      · exact p.elim
    · exact p.elim
theorem e_lc {ifs : List Expr} {scope : Scope} {own : List (Str × Nat)} {it : List T → Res (List T)} {w : T → List T → Option (List T)} {tt : List T → Res Bool} {te : List T → Res T} {sl : List Nat}
    (hsl : ∀ j ∈ sl, j ∈ own.map (·.2)) (sok : ∀ v ∈ own.map (·.2), slotOk c v) (hc : X.calm = true) (hN : X.N.Nodup) (hi : PI X tg iter (tI c it)) (ok : BlkOk X.N X.env.scope scope own)
    (hg : ∀ (s : Shared) (H : Hp) (C : Addr) (cl : List (Str × Addr)) (fp : List Addr), PG (X.blk s H scope (compEnvC scope cl C X.env) fp) tg (tG (quiet c) sl w))
    (ht : ∀ (s : Shared) (H : Hp) (C : Addr) (cl : List (Str × Addr)) (fp : List Addr), PTs (X.blk s H scope (compEnvC scope cl C X.env) fp) ifs (tT (quiet c) tt))
    (he : ∀ (s : Shared) (H : Hp) (C : Addr) (cl : List (Str × Addr)) (fp : List Addr), PE (X.blk s H scope (compEnvC scope cl C X.env) fp) elt (tE (quiet c) te))
    (hs : ∀ x, foldedSetIterable iter X.env x = pure x := by intro _; rfl) : PE X (.ListComp elt [⟨tg, iter, ifs, 0⟩] scope pos) (tE c (mLc it w tt te (own.map (·.2)))) :=
  (pe_lc hc hN hi ok hg ht he hs).wk (lc_wk hsl sok)
/-- name = [..] -/
theorem s_lc {i : Nat} {y : Str} {py spos : Pos} {ifs : List Expr} {scope : Scope} {own : List (Str × Nat)} {it : List T → Res (List T)} {w : T → List T → Option (List T)} {tt : List T → Res Bool} {te : List T → Res T} {sl : List Nat}
    (oki : slotOk c i) (hsl : ∀ j ∈ sl, j ∈ own.map (·.2)) (sok : ∀ v ∈ own.map (·.2), slotOk c v) (hc : X.calm = true) (hN : X.N.Nodup) (hy : X.N[i]? = some y) (hyl : X.env.scope.names.lookup y = some .local)
    (hsw : swapsWith (.ListComp elt [⟨tg, iter, ifs, 0⟩] scope pos) (some (.Name y py)) spos.line X.env = pure true) (hi : PI X tg iter (tI c it)) (ok : BlkOk X.N X.env.scope scope own)
    (hg : ∀ (s : Shared) (H : Hp) (C : Addr) (cl : List (Str × Addr)) (fp : List Addr), PG (X.blk s H scope (compEnvC scope cl C X.env) fp) tg (tG (quiet c) sl w))
    (ht : ∀ (s : Shared) (H : Hp) (C : Addr) (cl : List (Str × Addr)) (fp : List Addr), PTs (X.blk s H scope (compEnvC scope cl C X.env) fp) ifs (tT (quiet c) tt))
    (he : ∀ (s : Shared) (H : Hp) (C : Addr) (cl : List (Str × Addr)) (fp : List Addr), PE (X.blk s H scope (compEnvC scope cl C X.env) fp) elt (tE (quiet c) te))
    (hs : ∀ x, foldedSetIterable iter X.env x = pure x := by intro _; rfl) : PS X (.Assign [.Name y py] (.ListComp elt [⟨tg, iter, ifs, 0⟩] scope pos) spos) (tS c (mAsg (mLc it w tt te (own.map (·.2))) (wN i))) :=
  (ps_setLc hc hN hy hyl hsw hi ok hg ht he hs).wk fun D τ H h => by
    have z := asg_wk (sl := [i]) D τ H h
    have z2 : tLc (tI c it) (tG (quiet c) sl w) (tT (quiet c) tt) (tE (quiet c) te) (own.map (·.2)) τ H (fun x H1 => gName i x τ H1 D.nx) := by
      refine lc_wk hsl sok τ H _ (Tm.mono z fun y H1 ⟨F, σ, O, t, P, st, r, n, σ', hw, k⟩ => ?_)
      unfold wN at hw
      split at hw
      · rename_i hi
        cases hw
        obtain ⟨O', st', m⟩ := st.put r n hi oki
        exact k _ O' st' m ⟨by simp, fun j hj => List.getElem?_set_ne fun z => hj (by simp [z])⟩
      · cases hw
    exact z2
end
end MV

namespace MV
open PySem PySem.Spec PyProof.Rows L2

/-! ## Defs and their calls -/
inductive FRes where
  | ok (t b : T)
  | exc (C : Str) (ns : List Str) (ts : List T) (b : T)
  | stuck
/-- what a def promises; b is what its first argument has become, where it was lent (else a hole) -/
def FPost (e : En) (F H : Hp) (O : List Addr) (v0 : V) (Q : VK) (E : XK) : FRes → Prop
  | .ok t b => ∀ F' H' x P Pb, Sub F' H' → rep e F' H' t x P → rep e F' H' b v0 Pb → (Pb ++ P).Nodup → Stp F H O F' H' (Pb ++ P) → Q x H'
  | .exc C ns ts b => ∀ F' H' Ca d Pb, Sub F' H' → rep e F' H' b v0 Pb → Pb.Nodup → Stp F H O F' H' Pb → XR e F' H' C ns ts Ca d → E (.ref Ca) d H'
  | .stuck => False
def spM (e : En) (n : Nat) (m : List T → FRes) : Sp := fun vs H Q E => vs.length = n ∧ ∃ F ts O, reps e F H ts vs O ∧ O.Nodup ∧ Sub F H ∧ FPost e F H O (vs.headD .non) Q E (m ts)
def lentT (bor : Bool) (σ : List T) : T := if bor then (match σ[0]? with | some t => t | none => .hole) else .hole
def mFn (N : Nat) (bor : Bool) (body : List T → SRes) : List T → FRes := fun ts =>
  match body (ts ++ List.replicate (N - ts.length) .hole) with
  | .nx σ => .ok (.v .non) (lentT bor σ)
  | .rt t σ => .ok t (lentT bor σ)
  | .exc C ns us σ => .exc C ns us (lentT bor σ)
  | _ => .stuck
section
variable {e : En} {F H : Hp}
theorem reps_holes : ∀ n : Nat, reps e F H (List.replicate n T.hole) (List.replicate n V.non) []
  | 0 => by simp [reps]
  | n + 1 => by
    rw [List.replicate_succ, List.replicate_succ]
    simp only [reps]
    exact ⟨.non, _, [], [], rfl, rfl, by simp [rep], reps_holes n⟩
theorem Sta.lent {bor : Option V} {τ : L2.St} {σ : List T} {O : List Addr} {v0 : V} {bl : Bool} (s : Sta e bor F H τ σ O) (hb : bl = true → bor = some v0) : ∃ Pb, rep e F H (lentT bl σ) v0 Pb ∧ Pb.Nodup ∧ ∀ a ∈ Pb, a ∈ O := by
  cases bl with
  | false => exact ⟨[], by simp [lentT, rep], by simp, by simp⟩
  | true =>
    unfold lentT
    simp only [if_true]
    cases q : σ[0]? with
    | none => exact ⟨[], by simp [rep], by simp, by simp⟩
    | some t =>
      cases hh : t.isHole with
      | true =>
        cases t <;> first | (cases hh; done) | skip
        exact ⟨[], by simp [rep], by simp, by simp⟩
      | false =>
        obtain ⟨x, A, Ot, B, e1, rfl, r1, _⟩ := s.slot q hh
        have := s.bor v0 (hb rfl)
        rw [e1] at this
        cases this
        exact ⟨Ot, r1, (nd3 s.nd).2.1, by intro a h; simp [h]⟩
end
section
variable {P : Program} {w : World} {K : PySem.W.Frag} {mg : Str → Option Value} {base : Heap}
def ctOf (K : PySem.W.Frag) (mg : Str → Option Value) (bor : Option V) (E : XK) : Ct := ⟨⟨K, mg, none⟩, bor, fun cls d _ H => E cls d H⟩
theorem fn_post {c : Ct} {F H : Hp} {O : List Addr} {v0 : V} {Q : VK} {E : XK} {N : Nat} {bl : Bool} {body : List T → SRes} {ts : List T} (hb : bl = true → c.bor = some v0) (hW : c.W = fun cls d _ H => E cls d H)
    (p : FPost c.e F H O v0 Q E (mFn N bl body ts)) : SPost c F H O { nx := fun _ H' => Q .non H', rt := Q } (body (ts ++ List.replicate (N - ts.length) .hole)) := by
  unfold mFn at p
  cases q : body (ts ++ List.replicate (N - ts.length) .hole) with
  | nx σ =>
    rw [q] at p
    intro τ' F' H' O' s t
    obtain ⟨Pb, r, n, m⟩ := s.lent hb
    exact p F' H' .non [] Pb s.sub rep_v' r (by simpa using n) (t.sub_own (by intro a ha; simp at ha; exact m a ha))
  | rt u σ =>
    rw [q] at p
    intro τ' F' H' O' x Px s rx n t
    obtain ⟨Pb, r, nb, m⟩ := s.lent hb
    refine p F' H' x Px Pb s.sub rx r (nd_app nb (List.nodup_append.mp n).2.1 fun a ha h => nd_disj n a ha (m a h)) (t.sub_own fun a ha => ?_)
    rcases List.mem_append.mp ha with z | z
    · simp [m a z]
    · simp [z]
  | exc C ns us σ =>
    rw [q] at p
    intro τ' F' H' O' Ca d s t x
    obtain ⟨Pb, r, nb, m⟩ := s.lent hb
    rw [hW]
    exact p F' H' Ca d Pb s.sub r nb (t.sub_own m) x
  | bk σ => rw [q] at p; exact p.elim
  | ct σ => rw [q] at p; exact p.elim
  | stuck => rw [q] at p; exact p.elim
theorem fn_start {e : En} {F H : Hp} {O : List Addr} {ts : List T} {vs : List V} {N : List Str} {bor : Option V} (r : reps e F H ts vs O) (n : O.Nodup) (s : Sub F H) (hN : vs.length ≤ N.length) (hb : ∀ x, bor = some x → vs[0]? = some x) :
    Sta e bor F H (L2.start N vs) (ts ++ List.replicate (N.length - ts.length) .hole) O := by
  have hl := reps_len r
  refine ⟨s, n, by simp [L2.start, hl], ⟨vs ++ List.replicate (N.length - ts.length) .non, reps_app.mpr ⟨vs, _, O, [], rfl, by simp, r, reps_holes _⟩, fun i t x h1 h2 h3 => ?_⟩, fun x hx => ?_⟩
  · by_cases hi : i < ts.length
    · rw [List.getElem?_append_left (by omega)] at h3
      unfold L2.start
      rw [List.getElem?_append_left (by simp; omega), List.getElem?_map, h3]
      rfl
    · rw [List.getElem?_append_right (by omega), List.getElem?_replicate] at h1
      split at h1 <;> cases h1
      cases h2
  · have := hb x hx
    unfold L2.start
    have h0 : 0 < vs.length := (List.getElem?_eq_some_iff.mp this).1
    rw [List.getElem?_append_left (by simpa using h0), List.getElem?_map, this]
    rfl
/-- a def by its body; nothing is lent to it -/
theorem fn_mv {x qual : Str} {st : Stmt} {f : Addr} {fd : FuncData} {N ps : List Str} {k : Nat} (body : List T → SRes) (Fn : Fun K x qual st f fd) (S : FnScope N ps (defScope st)) (hN : ps.length ≤ N.length)
    (hb : ∀ (cdv : Value) (A : Around) (outer : List Env) (s : Shared) (H : Hp) (E : XK), Room k (A.deeper (envOfC qual (defScope st) s.heap.objs.size f cdv)) →
      PSs (cxOf (L2.CX P w) P w K mg base N qual (defScope st) f cdv A outer s H E) (defBody st) (tS (ctOf K mg none E) body)) :
    FnOk P w K mg base (L2.CX P w) (k + 1) f fd ps (spM ⟨K, mg, none⟩ ps.length (mFn N.length false body)) := by
  refine Fn.okX S (fun vs H Q E h => h.1) fun cdv A outer s H vs Q E hr h => ?_
  obtain ⟨hl, F, ts, O, r, n, sb, p⟩ := h
  refine ⟨_, hb cdv A outer s H E hr, F, _, O, fn_start r n sb (by omega) (by simp [ctOf]), ?_⟩
  exact fn_post (c := ctOf K mg none E) (bl := false) (by simp) rfl p
/-- .. its first argument is lent -/
theorem fn_mvB {x qual : Str} {st : Stmt} {f : Addr} {fd : FuncData} {N ps : List Str} {k : Nat} (body : List T → SRes) (Fn : Fun K x qual st f fd) (S : FnScope N ps (defScope st)) (hN : ps.length ≤ N.length) (h0 : 0 < ps.length)
    (hb : ∀ (cdv : Value) (A : Around) (outer : List Env) (s : Shared) (H : Hp) (E : XK) (v0 : V), Room k (A.deeper (envOfC qual (defScope st) s.heap.objs.size f cdv)) →
      PSs (cxOf (L2.CX P w) P w K mg base N qual (defScope st) f cdv A outer s H E) (defBody st) (tS (ctOf K mg (some v0) E) body)) :
    FnOk P w K mg base (L2.CX P w) (k + 1) f fd ps (spM ⟨K, mg, none⟩ ps.length (mFn N.length true body)) := by
  refine Fn.okX S (fun vs H Q E h => h.1) fun cdv A outer s H vs Q E hr h => ?_
  obtain ⟨hl, F, ts, O, r, n, sb, p⟩ := h
  have hv : vs[0]? = some (vs.headD .non) := by
    cases vs with
    | nil => rw [← hl] at h0; simp at h0
    | cons y ys => rfl
  refine ⟨_, hb cdv A outer s H E (vs.headD .non) hr, F, _, O, fn_start r n sb (by omega) (by intro y hy; cases hy; exact hv), ?_⟩
  exact fn_post (c := ctOf K mg (some (vs.headD .non)) E) (bl := true) (fun _ => rfl) rfl p
end

def mCall (m : List T → FRes) (g : List T → Res (List T)) : List T → Res T := fun σ => (g σ).bind fun ts σ1 =>
  match m ts with
  | .ok t _ => .ok t σ1
  | .exc C ns us _ => .exc C ns us σ1
  | .stuck => .stuck
/-- a call; slot i is lent as the first argument -/
def mLend (i : Nat) (m : List T → FRes) (g : List T → Res (List T)) : List T → Res T := fun σ =>
  match σ[i]? with
  | some t0 => if t0.isHole then .stuck else (g (σ.set i .hole)).bind fun ts σ1 =>
    if i < σ1.length then (match m (t0 :: ts) with
    | .ok t b => .ok t (σ1.set i b)
    | .exc C ns us b => .exc C ns us (σ1.set i b)
    | .stuck => .stuck) else .stuck
  | none => .stuck
section
variable {X : Cx} {c : Ct} {a b : Expr} {es : List Expr} {g : List T → Res (List T)} {m : List T → FRes} {k i : Nat} {f : Addr} {fd : FuncData} {ps : List Str} {x : Str} {p pos : Pos}
theorem Mid.low {F H F1 H1 F2 H2 : Hp} {O O1 P P2 : List Addr} {τ : L2.St} {σ1 : List T} (md : Mid c F H O τ σ1 F1 H1 O1 P) (s : Stp F1 H1 P F2 H2 P2) (sb : Sub F2 H2) (n : P2.Nodup) : Mid c F H O τ σ1 F2 H2 O1 P2 := md.alc ⟨s, sb, n⟩
theorem Mid.exc {F H F1 H1 : Hp} {O O1 P : List Addr} {τ : L2.St} {σ1 : List T} {α β : Type} {R : Hp → Hp → α → β → List Addr → Prop} {Q : β → Hp → Prop} {C : Str} {ns : List Str} {us : List T} {Ca : Addr} {d : Option Addr}
    (md : Mid c F H O τ σ1 F1 H1 O1 P) (p : Post c R F H O τ Q (.exc C ns us σ1)) (xr : XR c.e F1 H1 C ns us Ca d) : c.W (.ref Ca) d τ H1 := p F1 H1 O1 Ca d md.st (md.stp.sub_own (by intro a h; simp [h])) xr
theorem e_call (Fn : FnOk X.prog X.w X.K X.mg X.base (L2.CX X.prog X.w) k f fd ps (spM ⟨X.K, X.mg, none⟩ ps.length m)) (hr : Room k X.A) (hg : Gl X x) (hm : X.mg x = some (.ref f)) (hk : PySem.W.keepIn X.K (.ref f) = true) (hb : Binds X.K fd ps [])
    (he : c.e = ⟨X.K, X.mg, none⟩) (tk : Takes X c.W) (ha : PA X (a :: es) (tA c g)) (hlen : ∀ σ ts σ1, g σ = .ok ts σ1 → ts.length = ps.length) (hdb : (x == ("__debug__" : Str)) = false := by decide)
    (hst : starEach (a :: es) X.env = (false, eval a X.env) :: starEach es X.env := by rfl) (hpl : (backTo pos (starEach es X.env)).any (·.1) = false := by rfl) :
    PE X (.Call (.Name x p) (a :: es) [] pos) (tE c (mCall m g)) :=
  (pe_callS (E := WE c.W) Fn hr hg hm hk hb (fun τ => passAt tk τ) ha hdb hst hpl).wk fun τ H Q h => by
    obtain ⟨F, σ, O, st, p⟩ := h
    unfold mCall at p
    have p' : Post c (RT c.e) F H O τ Q ((g σ).bind fun ts σ1 => if ts.length = ps.length then (match m ts with | .ok t _ => Res.ok t σ1 | .exc C ns us _ => .exc C ns us σ1 | .stuck => .stuck) else .stuck) := by
      cases q : g σ with
      | ok ts σ1 => rw [q] at p; simp only [Res.bind, hlen σ ts σ1 q, if_true]; exact p
      | exc _ _ _ _ => rw [q] at p; exact p
      | stuck => rw [q] at p; exact p
    refine Tm.mono ((Mid.start st).run (by simp) (g := g) p') fun vs H1 ⟨ts, σ1, F1, O1, P1, m1, r1, s1, p1⟩ => ?_
    rw [List.append_nil] at m1
    split at p1
    · rename_i hl
      refine ⟨by rw [← reps_len r1]; exact hl, F1, ts, P1, by rw [← he]; exact r1, (List.nodup_append.mp m1.nd).2.1, m1.st.sub, ?_⟩
      cases q : m ts with
      | stuck => rw [q] at p1; exact p1.elim
      | ok t b =>
        rw [q] at p1
        intro F2 H2 y P2 Pb sb ry _ n2 s2
        have m2 := m1.low (P2 := P2) (s2.sub_own (by intro a h; simp [h])) sb (List.nodup_append.mp n2).2.1
        exact m2.fin p1 (by rw [he]; exact ry) (List.nodup_append.mp n2).2.1 fun _ h => h
      | exc C ns us b =>
        rw [q] at p1
        intro F2 H2 Ca d Pb sb _ nb s2 xr
        have m2 := m1.low (P2 := []) (s2.sub_own (by simp)) sb List.nodup_nil
        exact m2.exc p1 (by rw [he]; exact xr)
    · exact p1.elim
theorem e_lend (Fn : FnOk X.prog X.w X.K X.mg X.base (L2.CX X.prog X.w) k f fd ps (spM ⟨X.K, X.mg, none⟩ ps.length m)) (hr : Room k X.A) (hg : Gl X x) (hm : X.mg x = some (.ref f)) (hk : PySem.W.keepIn X.K (.ref f) = true) (hb : Binds X.K fd ps [])
    (he : c.e = ⟨X.K, X.mg, none⟩) (tk : Takes X c.W) (h1 : PE X a (tVar i)) (ha : PA X es (tA c g)) (hlen : ∀ σ ts σ1, g σ = .ok ts σ1 → ts.length + 1 = ps.length) (hdb : (x == ("__debug__" : Str)) = false := by decide)
    (hst : starEach (a :: es) X.env = (false, eval a X.env) :: starEach es X.env := by rfl) (hpl : (backTo pos (starEach es X.env)).any (·.1) = false := by rfl) :
    PE X (.Call (.Name x p) (a :: es) [] pos) (tE c (mLend i m g)) :=
  (pe_callS (E := WE c.W) Fn hr hg hm hk hb (fun τ => passAt tk τ) (pa_cons h1 ha hst) hdb hst hpl).wk fun τ H Q h => by
    obtain ⟨F, σ, O, st, p⟩ := h
    unfold mLend at p
    split at p
    · rename_i t0 q0
      split at p
      · exact p.elim
      · rename_i hh
        obtain ⟨v0, Ot, O2, e0, r0, m0, s0⟩ := (Mid.start (c := c) st).lend q0 (by simpa using hh)
        rw [List.append_nil] at m0
        have p' : Post c (RT c.e) F H O τ Q ((g (σ.set i .hole)).bind fun ts σ1 => if ts.length + 1 = ps.length ∧ i < σ1.length then (match m (t0 :: ts) with | .ok t b => Res.ok t (σ1.set i b) | .exc C ns us b => .exc C ns us (σ1.set i b) | .stuck => .stuck) else .stuck) := by
          cases q : g (σ.set i .hole) with
          | ok ts σ1 =>
            rw [q] at p
            simp only [Res.bind, hlen _ ts σ1 q, true_and]
            exact p
          | exc _ _ _ _ => rw [q] at p; exact p
          | stuck => rw [q] at p; exact p
        refine ⟨v0, e0, Tm.mono (m0.run (rep_some r0) (g := g) p') fun vs H1 ⟨ts, σ1, F1, O1, P1, m1, r1, s1, p1⟩ => ?_⟩
        have r0' := s1.rep r0 m0.disj
        split at p1
        · rename_i hl
          obtain ⟨hl1, hl2⟩ := hl
          have nP := (List.nodup_append.mp m1.nd).2.1
          have nP' : (Ot ++ P1).Nodup := List.perm_append_comm.nodup_iff.mp nP
          have m1' : Mid c F H O τ σ1 F1 H1 O1 (Ot ++ P1) := ⟨m1.st, nd_app m1.st.nd nP' fun a ha => m1.disj a (by simp at ha ⊢; exact ha.symm), m1.stp.sub_own (by intro a ha; simp at ha ⊢; rcases ha with z | z | z <;> simp [z])⟩
          refine ⟨by rw [List.length_cons, ← reps_len r1]; exact hl1, F1, t0 :: ts, Ot ++ P1, ?_, nP', m1.st.sub, ?_⟩
          · rw [← he]
            simp only [reps]
            exact ⟨v0, vs, Ot, P1, rfl, rfl, r0', r1⟩
          · cases q : m (t0 :: ts) with
            | stuck => rw [q] at p1; exact p1.elim
            | ok t b =>
              rw [q] at p1
              intro F2 H2 y P2 Pb sb ry rb n2 s2
              have m2 := m1'.low (P2 := Pb ++ P2) s2 sb n2
              obtain ⟨O3, m3⟩ := m2.fill (k := i) (t := b) (x := v0) (P1 := Pb) (P2 := P2) hl2 e0 (by rw [he]; exact rb) n2 fun _ h => h
              exact m3.fin p1 (by rw [he]; exact ry) (List.nodup_append.mp n2).2.1 fun _ h => h
            | exc C ns us b =>
              rw [q] at p1
              intro F2 H2 Ca d Pb sb rb nb s2 xr
              have m2 := m1'.low (P2 := Pb) s2 sb nb
              obtain ⟨O3, m3⟩ := m2.fill (k := i) (t := b) (x := v0) (P1 := Pb) (P2 := []) hl2 e0 (by rw [he]; exact rb) (by simpa using nb) (by simp)
              exact m3.exc p1 (by rw [he]; exact xr)
        · exact p1.elim
    · exact p.elim
theorem len_nil {σ : List T} {ts σ1 : List T} (h : mNil σ = .ok ts σ1) : ts.length = 0 := by
  unfold mNil at h; cases h; rfl
theorem len_cons {f : List T → Res T} {g : List T → Res (List T)} {n : Nat} (hg : ∀ σ ts σ1, g σ = .ok ts σ1 → ts.length = n) : ∀ σ ts σ1, mCons f g σ = .ok ts σ1 → ts.length = n + 1 := by
  intro σ ts σ1 h
  unfold mCons at h
  cases q : f σ with
  | ok t σ2 =>
    rw [q] at h
    simp only [Res.bind] at h
    cases q2 : g σ2 with
    | ok us σ3 => rw [q2] at h; cases h; simp [hg _ _ _ q2]
    | exc _ _ _ _ => rw [q2] at h; cases h
    | stuck => rw [q2] at h; cases h
  | exc _ _ _ _ => rw [q] at h; cases h
  | stuck => rw [q] at h; cases h
end
end MV

namespace MVX
open PySem PySem.W PySem.Calls PyProof.Rows PySem.HandSPX

/-! ## An own exception: super().__init__(a text), then its fields -/
structure Xt (prog : Program) (K : Frag) (mg : Str → Option Value) (nm : Str) (C fI : Addr) (ns : List Str) : Prop where
  gC : mg nm = some (.ref C)
  cls : ∃ nm q N bs bm sn sub ab col dd k0 k1 k2 k3 k5, K.lookup C = some (excClassObj nm q C N bs bm true sn sub ab col dd k0 k1 k2 k3 k5 "ValueError.__new__") ∧ refsVE bm = true
  sa : findIn K (.ref C) "__setattr__" = some (some (.builtin "object.__setattr__"))
  ga : findIn K (.ref C) "__getattribute__" = some (some (.builtin "BaseException.__getattribute__"))
  gg : findIn K (.ref C) "__getattr__" = some none
  noN : ∀ n ∈ ns, findIn K (.ref C) n = some none
  iC : findIn K (.ref C) "__init__" = some (some (.ref fI))
  tI : typeIn K (.ref fI) = some (.type "function")
  kC : keepIn K (.ref C) = true
  exC : subIn K (.ref C) (.type "BaseException") = some true
  veC : subIn K (.ref C) (.type "ValueError") = some true
  tyC : typeIn K (.ref C) = some (.type "type")
  hdC : hasDictIn K C = true
  selfC : mroIn K C (.ref C) = some true
  opq : nsIn K cStatics "thirdparty.any" = some none
  sup : ks_superIn K C C "__init__" = some (some (.builtin "ValueError.__init__"))
  gS : mg "super" = none
  top : (prog.main.scope.names.lookup ("super" : Str)).isSome = false

/-- the def __init__ as it stands -/
structure Xi (prog : Program) (K : Frag) (C fI : Addr) (qual : Str) (ar : Arguments) (bd : List Stmt) (sc : Scope) : Prop where
  fn : ∃ (oc : Value) (od : Option Addr) (doc pm : Value) (an : Option Addr) (cda cc : Addr) (ct : Value) (osl : Array (Option Value)),
    K.lookup fI = some ⟨oc, od, .func (ksFn "__init__" qual ar bd sc .none .none doc pm an (.ref cda) ct cc), osl⟩ ∧ codeIn K (.ref cda) qual = true ∧
    (∃ ccl cdd vs ccs file tf, K.lookup cda = some ⟨ccl, cdd, .fields vs, ccs⟩ ∧ vs[2]? = some (.str file tf) ∧ ((prog.main.file : Str) == file) = true) ∧
    ∃ cl cld csl, K.lookup cc = some ⟨cl, cld, .cell (some (.ref C)), csl⟩
section
variable {prog : Program} {w : World} {A : Around} {E : Value → Shared → Prop} {R : Result → Shared → Prop} {s : Shared} {K : Frag} {mg : Str → Option Value} {nm : Str} {C fI : Addr} {ns : List Str}
theorem keptBut {h h' : Heap} {x : Addr} (X : K.In h) (hx : K.lookup x = none) (k : ∀ b o, b ≠ x → h.get? b = some o → h'.get? b = some o) : K.In h' := fun a o e =>
  k a o (fun z => by rw [z, hx] at e; cases e) (X a o e)
/-- the namespaces at hand -/
structure Glb (mg : Str → Option Value) (h : Heap) : Prop where
  g : h.Ns mainGlobals mg
  b : ∃ mb, h.Ns builtinsNs mb ∧ ∀ x : Str, x ≠ "__name__" → mb x = bootBuiltins x
theorem Glb.keeps {h h' : Heap} (g : Glb mg h) (k : ∀ b o, h.get? b = some o → h'.get? b = some o) : Glb mg h' :=
  ⟨g.g.keeps k, let ⟨mb, h1, h2⟩ := g.b; ⟨mb, h1.keeps k, h2⟩⟩
/-- super().__init__(txt) in __init__ -/
theorem super_stmt (T : Xt prog K mg nm C fI ns) {ar : Arguments} {bd body : List Stmt} {sc : Scope} {qual : Str} {oc : Value} {od : Option Addr} {doc pm : Value} {an : Option Addr} {cda cc : Addr} {ct : Value} {osl : Array (Option Value)}
    (ho : K.lookup fI = some ⟨oc, od, .func (ksFn "__init__" qual ar bd sc .none .none doc pm an (.ref cda) ct cc), osl⟩)
    (hcode : ∃ ccl cdd vs ccs file tf, K.lookup cda = some ⟨ccl, cdd, .fields vs, ccs⟩ ∧ vs[2]? = some (.str file tf) ∧ ((prog.main.file : Str) == file) = true)
    (hcell : ∃ cl cld csl, K.lookup cc = some ⟨cl, cld, .cell (some (.ref C)), csl⟩) {L x t0 : Addr} {m : Str → Option Value} {p0 p1 p2 p3 p4 p5 : Pos} {j : Nat} {txt : Str} {a0 : Arg} {Q : Flow → Shared → Prop}
    (X : K.In s.heap) (G : Glb mg s.heap) (hn : s.heap.Ns L m) (har : (ar.posonlyargs ++ ar.args).head? = some a0) (hm : m a0.arg = some (.ref x)) (hx : s.heap.get? x = some (excO C t0)) (hxC : x ≠ C)
    (k1 : sc.names.lookup ("super" : Str) = some .globalImplicit) (k2 : sc.names.lookup ("__class__" : Str) = some .free) (k3 : sc.names.lookup a0.arg = some .local) (kk : sc.kind = .function) {pl : Sem Bool}
    (he : eval (.Call (.Attribute (.Call (.Name "super" p0) [] [] p1) "__init__" p2) [.Constant (.str txt) j p3] [] p4) (ksEnv qual sc L fI (.ref cda) cc) = (do
      let ov ← attributeBase (.Call (.Name "super" p0) [] [] p1) "__init__" (ksEnv qual sc L fI (.ref cda) cc) (eval (.Call (.Name "super" p0) [] [] p1) (ksEnv qual sc L fI (.ref cda) cc))
      standAt p2.atName
      let (f, first) ← holding [ov] (getMethod ov "__init__" pl)
      callWith p4 f first (backTo p4 (starEach [.Constant (.str txt) j p3] (ksEnv qual sc L fI (.ref cda) cc))) []))
    (hsw : swapsWith (.Call (.Attribute (.Call (.Name "super" p0) [] [] p1) "__init__" p2) [.Constant (.str txt) j p3] [] p4) none p5.line (ksEnv qual sc L fI (.ref cda) cc) = pure false)
    (h : ∀ h' tk t1, (∀ b o, b ≠ x → s.heap.get? b = some o → h'.get? b = some o) → h'.get? x = some (excO C t1) → Q .next { s with heap := h', toks := tk }) :
    _root_.PySem.wpAt (model prog w) A (.func body (ksEnv qual sc L fI (.ref cda) cc)) (exec (.Expr (.Call (.Attribute (.Call (.Name "super" p0) [] [] p1) "__init__" p2) [.Constant (.str txt) j p3] [] p4) p5) (ksEnv qual sc L fI (.ref cda) cc)) Q E s := by
  obtain ⟨ccl, cdd, vs, ccs, file, tf, hcd, hvs, hfile⟩ := hcode
  obtain ⟨cl, cld, csl, hcc⟩ := hcell
  obtain ⟨nm', q, N, bs, bm, sn, sub, ab, col, dd, k0, k1', k2', k3', k5, hC, hbm⟩ := T.cls
  obtain ⟨mb, hb1, hb2⟩ := G.b
  have hint : interactive (ksEnv qual sc L fI (.ref cda) cc) = false := by simp [interactive, kk]
  have I0 : PySem.W.InstAt s.heap x (excO C t0) C none := ⟨hx, rfl, rfl, trivial⟩
  have hcl : clsIn K C = some { name := nm', bases := bs, mro := .ref C :: bm, ns := N, qualname := q, hasDict := true, slotNames := sn, subclasses := sub, abstract := ab, collection := col, hasDel := false } := by unfold clsIn; rw [hC] <;> rfl
  refine ks_wpAt_Expr_any (ks_wpAt_MethodCall ?_ he) hint hsw
  refine ks_wpAt_super_base (env := ksEnv qual sc L fI (.ref cda) cc) k1 k2 (by decide) rfl (X _ _ ho) rfl har rfl (X _ _ hcd) rfl hvs hfile T.top ?_
  refine ks_loadName_global kk k1 (loadGlobal_builtin (env := ksEnv qual sc L fI (.ref cda) cc) G.g T.gS hb1 ((hb2 _ (by decide)).trans (by decide +kernel)) ⟨rfl, ?_⟩)
  refine wpAny_loadName_free kk k2 rfl ⟨_, X _ _ hcc, rfl⟩ ?_
  refine wpAny_loadName_local kk k3 hn hm ?_
  obtain ⟨hh, g, d, t, os⟩ := s
  refine ks_wpAny_isType_cls (X _ _ hC) rfl ⟨rfl, ?_⟩
  refine ks_wpAny_call_super (X _ _ hC) rfl hx rfl (fun c e => by cases e) (looks_mroIn X T.selfC) (fun h1 e1 kp1 => ?_)
  have X1 : K.In h1 := X.keeps kp1
  have I1 : PySem.W.InstAt h1 x (excO C t0) C none := ⟨kp1 _ _ hx, rfl, rfl, trivial⟩
  have sup := T.sup
  unfold ks_superIn at sup
  rw [hcl] at sup
  have hI : Looks (model prog w) h1 (isInstance (.ref x) (.type "ValueError")) true := I1.type.andThen (looks_subIn X1 T.veC)
  refine kxs_getMethod kxs_ValueError e1 (looks_opaque X1 T.opq) (l₀ := .ref C :: bm) (fun A Q E s k q => wpAny_bind ((looks_clsIn X1 hcl) A _ E s k (wpAny_pure q))) rfl X1 sup hI hxC (by decide) ?_
  have hmw : (h1.push (kxs_mw "ValueError.__init__" x)).get? h1.objs.size = some (kxs_mw "ValueError.__init__" x) := Heap.get?_push_at rfl rfl
  have kp2 : ∀ b o, h1.get? b = some o → (h1.push (kxs_mw "ValueError.__init__" x)).get? b = some o := fun b o e => Heap.get?_push_of_some _ e
  refine kxs_callWith (i := "ValueError.__init__") (x := x) rfl (Calls.evalArgs_plain (Calls.spliced_cons (Calls.Constant_str (k := j) (pos := p3) (Calls.spliced_nil ⟨hmw, ?_⟩))))
  have hx2 : (h1.push (kxs_mw "ValueError.__init__" x)).get? x = some (excO C t0) := kp2 _ _ (kp1 _ _ hx)
  have hC2 : (h1.push (kxs_mw "ValueError.__init__" x)).get? C = some (excClassObj nm' q C N bs bm true sn sub ab col dd k0 k1' k2' k3' k5 "ValueError.__new__") := kp2 _ _ (X1 _ _ hC)
  refine wpAny_call (codeAny_of_tree ?_)
  show wpAny _ A.in1 (callAny (.ref h1.objs.size) _) _ _ _
  simp only [callAny]
  refine wpAny_bind (wpAny_load hmw ?_)
  simp only [kxs_mw, show (Value.type "method-wrapper" == Value.type "method" || Value.type "method-wrapper" == Value.type "builtin_function_or_method" || Value.type "method-wrapper" == Value.type "method-wrapper") = true by decide, if_true]
  refine KFB.if_so (by decide) ?_
  refine wpAny_bind (check_bound_init PySem.F.excBase_ValueError.toExcCallFacts hC2 hx2 rfl ?_)
  refine wpAny_bind (wpAny_pure (wpAny_pure ?_))
  refine ⟨plainId_quiet PySem.F.excBase_ValueError.init.plain _, codeAny_builtin PySem.F.excBase_ValueError.initEntry ?_⟩
  refine exc_init_tree (cls := .ref C) (t0 := t0) (dv := none) (c2 := .none) (c3 := .none) (b4 := .bool false) hx2 (by rw [sizeLine_eq]; simp) fun h' kk' e' _ => ?_
  exact h h' _ _ (fun b o hb e => kk' b o hb (kp2 b o (kp1 b o e))) e'
/-- a local name -/
theorem ldN {env : Env} {m : Str → Option Value} {x : Str} {pos : Pos} {v : Value} {Q : Value → Shared → Prop} {L : Addr} (hL : env.locals = L) (hn : s.heap.Ns L m) (hv : m x = some v) (hk : env.scope.kind = .function) (hl : env.kindOf x = some .local)
    (hd : (x == ("__debug__" : Str)) = false) (h : Q v s) : wpAny (model prog w) A (eval (.Name x pos) env) Q E s := by
  subst hL
  exact wpAny_Name (wpAny_loadName_local hk hl hn hv h) hd
/-- self.f = f, the first one -/
theorem st_first (T : Xt prog K mg nm C fI ns) {env : Env} {m : Str → Option Value} {L x t0 : Addr} {f : Str} {v : Value} {q1 q2 q3 q4 : Pos} {Q : Flow → Shared → Prop} (hf : f ∈ ns) (X : K.In s.heap) (hL : env.locals = L) (hn : s.heap.Ns L m) (hs : m "self" = some (.ref x)) (hv : m f = some v)
    (hk : env.scope.kind = .function) (hl0 : env.kindOf "self" = some .local) (hl : env.kindOf f = some .local) (hd : (f == ("__debug__" : Str)) = false) (hx : s.heap.get? x = some (excO C t0)) (hsw : swapsWith (.Name f q3) (some (.Attribute (.Name "self" q1) f q2)) q4.line env = pure false)
    (h : ∀ h' tk dx, (∀ b o, b ≠ x → s.heap.get? b = some o → h'.get? b = some o) → s.heap.objs.size ≤ dx → dx ≠ x → h'.get? x = some { cls := .ref C, dict := some dx, data := .fields #[.ref t0, .none, .none, .none, .bool false, .none] } →
      h'.Ns1 dx (fun y => if y = f then some v else none) → Q .next { s with heap := h', toks := tk }) :
    wpAny (model prog w) A (exec (.Assign [.Attribute (.Name "self" q1) f q2] (.Name f q3) q4) env) Q E s := by
  obtain ⟨nm', q, N, bs, bm, sn, sub, ab, col, dd, k0, k1', k2', k3', k5, hC, hbm⟩ := T.cls
  have hcl : clsIn K C = some { name := nm', bases := bs, mro := .ref C :: bm, ns := N, qualname := q, hasDict := true, slotNames := sn, subclasses := sub, abstract := ab, collection := col, hasDel := false } := by unfold clsIn; rw [hC] <;> rfl
  refine plainObj_wpAny_Assign_Attribute ?_ hsw
  refine ldN hL hn hv hk hl hd (ldN hL hn hs hk hl0 (by decide) ?_)
  refine PySem.W.set_plain X (ox := excO C t0) (od := none) ⟨hx, rfl, rfl, trivial⟩ T.sa ?_
  exact exc_osa X hx hcl (show refsVE (.ref C :: bm) = true from hbm) rfl (T.noN f hf) fun h' tk' dx k dn dne hx' hn' => h h' tk' dx k dn dne hx' hn'
/-- self.f = f, a further one -/
theorem st_next (T : Xt prog K mg nm C fI ns) {env : Env} {m : Str → Option Value} {L x t0 dx : Addr} {f : Str} {v : Value} {q1 q2 q3 q4 : Pos} {Q : Flow → Shared → Prop} {m0 : Str → Option Value} {nl : List Str} (hf : f ∈ ns) (X : K.In s.heap) (hL : env.locals = L) (hn : s.heap.Ns L m) (hs : m "self" = some (.ref x)) (hv : m f = some v)
    (hk : env.scope.kind = .function) (hl0 : env.kindOf "self" = some .local) (hl : env.kindOf f = some .local) (hd : (f == ("__debug__" : Str)) = false)
    (hx : s.heap.get? x = some { cls := .ref C, dict := some dx, data := .fields #[.ref t0, .none, .none, .none, .bool false, .none] }) (hdx : s.heap.Ns1 dx m0) (hw : Within m0 nl) (hz : nl.length ≤ 1000)
    (hsw : swapsWith (.Name f q3) (some (.Attribute (.Name "self" q1) f q2)) q4.line env = pure false)
    (h : ∀ h' tk, (∀ b o, b ≠ dx → s.heap.get? b = some o → h'.get? b = some o) → h'.Ns1 dx (fun y => if y = f then some v else m0 y) → Q .next { s with heap := h', toks := tk }) :
    wpAny (model prog w) A (exec (.Assign [.Attribute (.Name "self" q1) f q2] (.Name f q3) q4) env) Q E s := by
  obtain ⟨nm', q, N, bs, bm, sn, sub, ab, col, dd, k0, k1', k2', k3', k5, hC, hbm⟩ := T.cls
  have hcl : clsIn K C = some { name := nm', bases := bs, mro := .ref C :: bm, ns := N, qualname := q, hasDict := true, slotNames := sn, subclasses := sub, abstract := ab, collection := col, hasDel := false } := by unfold clsIn; rw [hC] <;> rfl
  obtain ⟨oD, _, _, hoD, _, _⟩ := hdx.count hw
  refine plainObj_wpAny_Assign_Attribute ?_ hsw
  refine ldN hL hn hv hk hl hd (ldN hL hn hs hk hl0 (by decide) ?_)
  refine PySem.W.set_plain X (ox := { cls := .ref C, dict := some dx, data := .fields #[.ref t0, .none, .none, .none, .bool false, .none] }) (od := some oD) ⟨hx, rfl, rfl, hoD⟩ T.sa ?_
  exact PySem.OEX.osa_old X hx hdx hw hz hcl (show refsVE (.ref C :: bm) = true from hbm) rfl (T.noN f hf) fun h' tk' k hn' => h h' tk' k hn'
/-- the text of an __init__: super().__init__(txt), then a field for each further parameter -/
structure Xs (qual : Str) (ar : Arguments) (bd : List Stmt) (sc : Scope) (ns : List Str) where
  p0 : Pos
  p1 : Pos
  p2 : Pos
  p3 : Pos
  p4 : Pos
  p5 : Pos
  j : Nat
  txt : Str
  as : List Stmt
  a0 : Arg
  body : bd = .Expr (.Call (.Attribute (.Call (.Name "super" p0) [] [] p1) "__init__" p2) [.Constant (.str txt) j p3] [] p4) p5 :: as
  har : (ar.posonlyargs ++ ar.args).head? = some a0
  self : a0.arg = "self"
  kind : sc.kind = .function
  co : sc.isCoroutine = false
  gen : sc.isGenerator = false
  nocell : ∀ y ∈ sc.names, y.2 ≠ .cell
  kS : sc.names.lookup ("super" : Str) = some .globalImplicit
  kC : sc.names.lookup ("__class__" : Str) = some .free
  kself : sc.names.lookup ("self" : Str) = some .local
  kn : ∀ n ∈ ns, sc.names.lookup n = some .local
  nd : ∀ n ∈ ns, (n == ("__debug__" : Str)) = false
  bind : ∀ (doc pm : Value) (an : Option Addr) (cdv ct : Value) (cc : Addr) (s : Shared) (us : List Value), us.length = ns.length + 1 → BindsTo s (ksFn "__init__" qual ar bd sc .none .none doc pm an cdv ct cc) ⟨us, []⟩ ((("self" : Str) :: ns).zip us)
  pl : Sem Bool
  ev : ∀ (L fI : Addr) (cd : Value) (cc : Addr), eval (.Call (.Attribute (.Call (.Name "super" p0) [] [] p1) "__init__" p2) [.Constant (.str txt) j p3] [] p4) (ksEnv qual sc L fI cd cc) = (do
      let ov ← attributeBase (.Call (.Name "super" p0) [] [] p1) "__init__" (ksEnv qual sc L fI cd cc) (eval (.Call (.Name "super" p0) [] [] p1) (ksEnv qual sc L fI cd cc))
      standAt p2.atName
      let (f, first) ← holding [ov] (getMethod ov "__init__" pl)
      callWith p4 f first (backTo p4 (starEach [.Constant (.str txt) j p3] (ksEnv qual sc L fI cd cc))) [])
  sw : ∀ (L fI : Addr) (cd : Value) (cc : Addr), swapsWith (.Call (.Attribute (.Call (.Name "super" p0) [] [] p1) "__init__" p2) [.Constant (.str txt) j p3] [] p4) none p5.line (ksEnv qual sc L fI cd cc) = pure false
/-- a made exception -/
structure Made (h h' : Heap) (e C d : Addr) (mA : Str → Option Value) : Prop where
  keep : ∀ b o, h.get? b = some o → h'.get? b = some o
  new : h.objs.size ≤ e
  obj : ∃ oe vs, h'.get? e = some oe ∧ oe.cls = .ref C ∧ oe.dict = some d ∧ oe.data = .fields vs ∧ vs[1]? = some .none
  dbig : h.objs.size ≤ d
  dne : d ≠ e
  ns : h'.Ns1 d mA
/-- __init__'s start -/
theorem init_start (T : Xt prog K mg nm C fI ns) {qual : Str} {ar : Arguments} {bd : List Stmt} {sc : Scope} (I : Xi prog K C fI qual ar bd sc) (S : Xs qual ar bd sc ns) {x t0 : Addr} {us : List Value} (hu : us.length = ns.length) (X : K.In s.heap) (G : Glb mg s.heap) (hlim : s.heap.NoLimit)
    (hx : s.heap.get? x = some (excO C t0)) (hxC : x ≠ C) (hxK : K.lookup x = none) (hroom : A.depth < recursionLimit) (hself : (((("self" : Str) :: ns).zip (Value.ref x :: us)).reverse.lookup ("self" : Str)) = some (Value.ref x))
    (h : ∀ (env : Env) (m : Str → Option Value) (h' : Heap) (tk : Nat) (t1 : Addr), env.locals = s.heap.objs.size → env.scope = sc → h'.Ns s.heap.objs.size m → m = (fun y => (((("self" : Str) :: ns).zip (Value.ref x :: us)).reverse.lookup y)) → K.In h' → (∀ b o, b ≠ x → s.heap.get? b = some o → h'.get? b = some o) → s.heap.objs.size < h'.objs.size → h'.get? x = some (excO C t1) →
      (∃ cd cc, env = ksEnv qual sc s.heap.objs.size fI cd cc) →
      wpAny (model prog w) (A.deeper env) (execs S.as env) (fun f s' => R (.ok (.ret (match f with | .ret v => v | _ => .none))) s') (fun e s' => wpAny (model prog w) (A.deeper env) (leaving env e) (fun _ s'' => R (.error e) s'') (fun e' s'' => R (.error e') s'') s') { s with heap := h', toks := tk }) :
    codeAny (model prog w) A (.call (.ref fI) ⟨.ref x :: us, []⟩) R s := by
  obtain ⟨oc, od, doc, pm, an, cda, cc, ct, osl, ho, hcd, hcode, hcell⟩ := I.fn
  have kl : ∀ y ∈ ((("self" : Str) :: ns).zip (Value.ref x :: us)), sc.names.lookup y.1 = some .local := fun y hy => by
    have h1 := (List.of_mem_zip hy).1
    rcases List.mem_cons.mp h1 with z | z
    · rw [z]; exact S.kself
    · exact S.kn _ z
  refine ks_codeAny_call_defAt (fd := ksFn "__init__" qual ar bd sc .none .none doc pm an (.ref cda) ct cc) (body := bd) hroom (X _ _ ho) rfl hlim (codeRec_of X hcd) rfl (S.bind doc pm an (.ref cda) ct cc s (.ref x :: us) (by simp [hu])) S.nocell kl (fun h₁ hns hk₁ => ?_) S.co S.gen S.kind
  have X₁ : K.In h₁ := X.keeps hk₁
  show _root_.PySem.wpAt (model prog w) _ (.func bd (ksEnv qual sc s.heap.objs.size fI (.ref cda) cc)) (execs bd (ksEnv qual sc s.heap.objs.size fI (.ref cda) cc)) _ _ _
  rw [S.body]
  refine ks_wpAt_execs_cons ?_
  have hxL : x ≠ s.heap.objs.size := Nat.ne_of_lt (Heap.lt_size hx)
  have hself : (fun y => (((("self" : Str) :: ns).zip (Value.ref x :: us)).reverse.lookup y)) S.a0.arg = some (.ref x) := by
    rw [S.self]
    exact hself
  refine super_stmt (s := { s with heap := h₁, toks := _ }) T ho hcode hcell X₁ (G.keeps hk₁) hns S.har hself (hk₁ _ _ hx) hxC S.kS S.kC (by rw [S.self]; exact S.kself) S.kind (S.ev _ _ _ _) (S.sw _ _ _ _) fun h' tk t1 k hx' => ?_
  refine wpAt_of_wpAny (h (ksEnv qual sc s.heap.objs.size fI (.ref cda) cc) _ h' tk t1 rfl rfl ?_ rfl (keptBut X₁ hxK k) (fun b o hb e => k b o hb (hk₁ b o e)) ?_ hx' ⟨_, _, rfl⟩)
  · obtain ⟨oL, es, ep, e1, e2⟩ := hns
    exact ⟨oL, es, ep, k _ _ (Ne.symm hxL) e1, e2⟩
  · obtain ⟨oL, es, ep, e1, e2⟩ := hns
    exact Heap.lt_size (k _ _ (Ne.symm hxL) e1)
theorem within1 {f : Str} {v : Value} : Within (fun y => if y = f then some v else none) [f] := fun y hy => by
  by_cases h : y = f
  · simp [h]
  · exact absurd (by simp [h]) hy
/-- C(v): one field -/
theorem made1 {f : Str} (T : Xt prog K mg nm C fI [f]) {qual : Str} {ar : Arguments} {bd : List Stmt} {sc : Scope} (I : Xi prog K C fI qual ar bd sc) (S : Xs qual ar bd sc [f]) {q1 q2 q3 q4 : Pos} (has : S.as = [.Assign [.Attribute (.Name "self" q1) f q2] (.Name f q3) q4])
    (hsw : ∀ (L fI : Addr) (cd : Value) (cc : Addr), swapsWith (.Name f q3) (some (.Attribute (.Name "self" q1) f q2)) q4.line (ksEnv qual sc L fI cd cc) = pure false) (hfs : (("self" : Str) == f) = false) {v : Value} (X : K.In s.heap) (G : Glb mg s.heap) (hlim : s.heap.NoLimit) (hroom : A.depth + 1 < recursionLimit)
    (hq : ∀ h' tk e d, Made s.heap h' e C d (fun y => if y = f then some v else none) → R (.ok (.ret (.ref e))) { s with heap := h', toks := tk }) :
    codeAny (model prog w) A (.call (.ref C) ⟨[v], []⟩) R s := by
  obtain ⟨nm', q, N, bs, bm, sn, sub, ab, col, dd, k0, k1', k2', k3', k5, hC, hbm⟩ := T.cls
  obtain ⟨hp, g, dr, tk, os⟩ := s
  have k : ∀ b o, hp.get? b = some o → ((hp.push (kdv_tup [v])).push (excO C hp.objs.size)).get? b = some o := fun b o e => Heap.get?_push_of_some _ (Heap.get?_push_of_some _ e)
  have hget : ((hp.push (kdv_tup [v])).push (excO C hp.objs.size)).get? (hp.objs.size + 1) = some (excO C hp.objs.size) := by heap_get
  have big : ∀ {a : Addr} {o : Obj}, hp.get? a = some o → a ≠ hp.objs.size + 1 := fun {a o} e => Nat.ne_of_lt (Nat.lt_succ_of_lt (Heap.lt_size e))
  have hnx : K.lookup (hp.objs.size + 1) = none := by
    cases e : K.lookup (hp.objs.size + 1) with
    | none => rfl
    | some o => exact absurd rfl (big (X _ _ e))
  have hxC : hp.objs.size + 1 ≠ C := fun z => big (X _ _ hC) z.symm
  refine call_own PySem.F.excBase_ValueError (fun Y => refsVE_contains Y bm hbm) (X _ _ hC) (looks_findIn X T.iC) (fun self => bind_fn X self T.tI) (by rw [sizeLine_eq]; simp) ?_
  refine init_start (s := ⟨(hp.push (kdv_tup [v])).push (excO C hp.objs.size), g, dr, tk, os⟩) T I S rfl (X.keeps k) (G.keeps k) (hlim.keeps k) hget hxC hnx (by show A.depth + 1 < recursionLimit; exact hroom) (by simp [List.lookup, hfs]) fun env m h' tk' t1 eL eS hn em X' kp hlt hx' ⟨cd, cc, eq'⟩ => ?_
  rw [has]
  have s2 : ((hp.push (kdv_tup [v])).push (excO C hp.objs.size)).objs.size = hp.objs.size + 2 := by simp [Heap.size_push]
  refine wpAny_execs_cons (st_first T (f := f) (v := v) (by simp) X' eL hn (by rw [em]; simp [List.lookup, hfs]) (by rw [em]; simp [List.lookup]) (by rw [eS]; exact S.kind) (by show env.scope.names.lookup _ = _; rw [eS]; exact S.kself) (by show env.scope.names.lookup _ = _; rw [eS]; exact S.kn f (by simp)) (S.nd f (by simp)) hx' (by rw [eq']; exact hsw _ _ _ _)
    fun h3 tk3 dx k3 dbig dne hx3 hn3 => ?_)
  refine wpAny_execs_nil ?_
  have old : ∀ b o, hp.get? b = some o → h3.get? b = some o := fun b o e => k3 b o (big e) (kp b o (big e) (k b o e))
  have z : hp.objs.size ≤ dx := by
    have h1 : hp.objs.size + 2 < h'.objs.size := by rw [← s2]; exact hlt
    have h2 : h'.objs.size ≤ dx := dbig
    omega
  exact ⟨rfl, hq h3 tk3 (hp.objs.size + 1) dx ⟨old, Nat.le_succ _, ⟨_, _, hx3, rfl, rfl, rfl, rfl⟩, z, dne, hn3⟩⟩
end
end MVX
namespace MV
open PySem PySem.Spec PyProof.Rows L2
section
variable {X : Cx} {C fI : Addr}
theorem relO_one {f : Str} {y : V} {u : Value} (r : RelV y u) (g : Str) : RelO (List.lookup g [(f, y)]) (if g = f then some u else none) := by
  by_cases h : g = f
  · subst h
    rw [if_pos rfl]
    have q : List.lookup g [(g, y)] = some y := by simp [List.lookup]
    rw [q]
    exact r
  · rw [if_neg h]
    have q : (g == f) = false := by simpa using h
    have q2 : List.lookup g [(f, y)] = none := by simp [List.lookup, q]
    rw [q2]
    trivial
/-- C(e ..): a new exception, its dict at d -/
def tMkX (C : Addr) (ns : List Str) (ta : TA) : L2.St → Hp → XK → Prop := fun τ H Q => ta τ H fun vs H1 => vs.length = ns.length ∧ ∀ d, H1 d = none → Q (.ref C) (some d) (upd H1 d (.xd (ns.zip vs)))
theorem glbOf {pins : List (Addr × Obj)} {τ : L2.St} {H : Hp} {s : Shared} (I : Inv X pins τ H s) : MVX.Glb X.mg s.heap :=
  ⟨I.ok.mod.glob.keeps I.bk, let ⟨mb, h1, h2⟩ := I.ok.mod.blt; ⟨mb, h1.keeps I.bk, h2⟩⟩
/-- what is made, in the abstract heap -/
theorem mk_made {pins : List (Addr × Obj)} {τ : L2.St} {H1 : Hp} {Q : XK} {hp h' : Heap} {g : Array GenState} {dr : Drawn} {tk tk' : Nat} {os : OsState} {e d : Addr} {mA : Str → Option Value} {fs : List (Str × V)} (I1 : Inv X pins τ H1 ⟨hp, g, dr, tk, os⟩)
    (M : MVX.Made hp h' e C d mA) (rel : ∀ f, RelO (fs.lookup f) (mA f)) (r1 : PySem.W.subIn X.K (.ref C) (.type "BaseException") = some true) (r2 : PySem.W.typeIn X.K (.ref C) = some (.type "type"))
    (q : ∀ d, H1 d = none → Q (.ref C) (some d) (upd H1 d (.xd fs))) : MkP X pins τ Q (.ref e) ⟨h', g, dr, tk', os⟩ := by
  obtain ⟨oe, fv, hoe, hc, hd, hdat, h1⟩ := M.obj
  have hns := M.ns
  obtain ⟨G', g1, g2⟩ := restrict h' fun b => decide (b ≠ e)
  have gk : ∀ b, b ≠ e → G'.get? b = h'.get? b := fun b hb => g1 b (decide_eq_true hb)
  have ge : G'.get? e = none := g2 e (by simp)
  have old : ∀ b o, hp.get? b = some o → G'.get? b = some o := fun b o z => (gk b (Nat.ne_of_lt (Nat.lt_of_lt_of_le (Heap.lt_size z) M.new))).trans (M.keep b o z)
  have ob : ObjOk X.prog X.w (upd H1 d (.xd fs)) G' d (.xd fs) := ⟨_, hns.at (fun o z => (gk d M.dne).trans z), rel⟩
  have J : Inv X pins τ (upd H1 d (.xd fs)) ⟨G', g, dr, tk', os⟩ := I1.laid (t' := tk') old M.dbig ob
  refine ⟨e, oe, fv, ⟨G', g, dr, tk', os⟩, _, .ref C, some d, rfl, J, fun b o z => ?_, ge, hoe, ⟨hc, hd⟩, hdat, h1, ?_, rfl, I1.bare, raises_own r1 r2, q d (I1.hok.fresh M.dbig)⟩
  · by_cases hb : b = e
    · have z' : G'.get? b = some o := z
      rw [hb, ge] at z'; cases z'
    · exact (gk b hb).symm.trans z
  · rw [upd_ne (Ne.symm M.dne)]
    exact I1.hok.fresh M.new
/-- how a class of exceptions is made by a call -/
def MakesX (X : Cx) (C : Addr) (ns : List Str) : Prop := ∀ (s : Shared) (A : Around) (R : Result → Shared → Prop) (us : List Value), us.length = ns.length → X.K.In s.heap → MVX.Glb X.mg s.heap → s.heap.NoLimit → A.depth + 1 < recursionLimit →
  (∀ h' tk e d mA, MVX.Made s.heap h' e C d mA → (∀ vs, Vals vs us → ∀ f, RelO ((ns.zip vs).lookup f) (mA f)) → R (.ok (.ret (.ref e))) { s with heap := h', toks := tk }) → codeAny (model X.prog X.w) A (.call (.ref C) ⟨us, []⟩) R s
theorem makes1 {nm f : Str} (T : MVX.Xt X.prog X.K X.mg nm C fI [f]) {qual : Str} {ar : Arguments} {bd : List Stmt} {sc : Scope} (I : MVX.Xi X.prog X.K C fI qual ar bd sc) (S : MVX.Xs qual ar bd sc [f]) {q1 q2 q3 q4 : Pos} (has : S.as = [.Assign [.Attribute (.Name "self" q1) f q2] (.Name f q3) q4])
    (hsw : ∀ (L fI : Addr) (cd : Value) (cc : Addr), swapsWith (.Name f q3) (some (.Attribute (.Name "self" q1) f q2)) q4.line (PySem.W.ksEnv qual sc L fI cd cc) = pure false) (hfs : (("self" : Str) == f) = false) : MakesX X C [f] := by
  intro s A R us hl X0 G lim room hq
  match us, hl with
  | [v], _ =>
    refine MVX.made1 T I S has hsw hfs X0 G lim room fun h' tk e d M => hq h' tk e d _ M fun vs r g => ?_
    cases r with
    | cons rv rn => cases rn; exact relO_one rv g
theorem pmk_x {nm : Str} {ns : List Str} {a : Expr} {es : List Expr} {ta : TA} {p pos : Pos} {k : Nat} (T : MVX.Xt X.prog X.K X.mg nm C fI ns) (mk : MakesX X C ns) (hr : Room k X.A) (ha : PA X (a :: es) ta) (hg : Gl X nm) (hdb : (nm == ("__debug__" : Str)) = false)
    (he : starEach (a :: es) X.env = (false, eval a X.env) :: starEach es X.env := by rfl) (hpl : (backTo pos (starEach es X.env)).any (·.1) = false := by rfl) : PMk X (.Call (.Name nm p) (a :: es) [] pos) (tMkX C ns ta) := by
  intro pins s τ H Q I h
  refine wpAny_Call_Name_kw (ld_glob I hg T.gC ?_ hdb)
  refine PySem.W.callWith_K (h₀ := X.base) I.ok.mod.kin T.kC (thn (ha.run pos pins s τ H _ I h) fun us s1 hh => ?_) he hpl
  obtain ⟨vs, H1, I1, r1, el, q1⟩ := hh
  refine ⟨I1.kIn, ?_⟩
  show wpAny _ _ (call (.ref C) us) _ _ _
  have lu : us.length = ns.length := by rw [← el]; exact r1.length.symm
  refine wpAny_call (mk s1 X.A _ us lu I1.kIn (glbOf I1) I1.nolimit (by have := hr.dp; omega) fun h' tk' e d mA M rel => ?_)
  obtain ⟨hp, g, dr, tk, os⟩ := s1
  exact mk_made I1 M (rel vs r1) T.exC T.tyC q1
/-- raise C(e, ..) -/
def mRaise (C : Str) (ns : List Str) (g : List T → Res (List T)) : List T → SRes := fun σ => (g σ).sbind fun ts σ1 => if ts.length = ns.length then .exc C ns (fzs ts) σ1 else .stuck
theorem s_raise {c : Ct} {nm : Str} {ns : List Str} {a : Expr} {es : List Expr} {g : List T → Res (List T)} {p pos pos2 : Pos} {k : Nat} (hm : c.e.mg = X.mg) (hc : X.calm = true) (T : MVX.Xt X.prog X.K X.mg nm C fI ns) (mk : MakesX X C ns) (hr : Room k X.A) (tk : Takes X c.W) (ha : PA X (a :: es) (tA c g)) (hg : Gl X nm) (hdb : (nm == ("__debug__" : Str)) = false)
    (he : starEach (a :: es) X.env = (false, eval a X.env) :: starEach es X.env := by rfl) (hpl : (backTo pos (starEach es X.env)).any (·.1) = false := by rfl) :
    PS X (.Raise (some (.Call (.Name nm p) (a :: es) [] pos)) none pos2) (tS c (mRaise nm ns g)) := (ps_raise hc tk (pmk_x T mk hr ha hg hdb he hpl)).wk fun D τ H h => by
  obtain ⟨F, σ, O, st, p⟩ := h
  refine Tm.mono (s_run st p) fun vs H1 ⟨ts, σ1, F1, O1, P1, m1, r1, p1⟩ => ?_
  split at p1
  · rename_i hl
    refine ⟨by rw [← reps_len r1]; exact hl, fun d hd => ?_⟩
    have hF : ∀ a ∈ P1, F1 a = none := fun a ha => (reps_at r1 a ha).1
    have a1 : Alc F1 H1 P1 (put F1 H1 P1) H1 [] := Alc.freeze m1.st.sub hF fun _ h => h
    have a2 := Alc.newF (P := []) (o := .xd (ns.zip vs)) a1.sub hd
    have m2 := m1.alc (a1.tr a2)
    have rf := reps_fz (put_sub hF) (O' := P1) (fun a ha => put_in ha) r1 fun _ h => h
    refine p1 τ _ _ _ C (some d) m2.st (m2.stp.sub_own (by intro a h; simp [h])) ⟨by rw [hm]; exact T.gC, by rw [fzs_length]; exact hl.symm, .inr ⟨d, vs, rfl, upd_same, reps_mono a2.stp.sub rf (by simp)⟩⟩
  · exact p1.elim
end
end MV

namespace MV
open PySem PySem.Spec PyProof.Rows L2

/-! ## try: several clauses, with and without a name -/
/-- the slot of a clause's name holds the exception within the suite, nothing behind it -/
def inSlot (o : Option Nat) (a : Addr) (τ : L2.St) : L2.St := match o with
  | some i => τ.set i (some (.ref a))
  | none => τ
def outEnds (o : Option Nat) (D : Ends) : Ends := match o with
  | some i => { nx := fun τ H => D.nx (τ.set i none) H, rt := D.rt, bk := fun τ H => D.bk (τ.set i none) H, ct := fun τ H => D.ct (τ.set i none) H }
  | none => D
abbrev Clause := Value × Option Nat × (Addr → Value → Option Addr → TS)
def wMix (K : PySem.W.Frag) (Wout : WX) (D : Ends) : List Clause → WX
  | [] => Wout
  | (cl, o, ts) :: r => fun cls d τ H => ∃ b, PySem.W.exmOne K cls cl = some b ∧ (b = true → ∀ a, H a = none → ts a cls d (outEnds o D) (inSlot o a τ) H) ∧ (b = false → wMix K Wout D r cls d τ H)
inductive MixOk (X : Cx) : List ExceptHandler → List Clause → Prop
  | nil : MixOk X [] []
  | only {x : Str} {cl : Value} {ts : Addr → Value → Option Addr → TS} {s0 : Stmt} {suite : List Stmt} {np hp : Pos} {hds : List ExceptHandler} {l : List Clause} (hn : Names X x cl)
      (hsu : ∀ (a : Addr) (oe : Obj) (cls : Value) (d : Option Addr) (pn : List (Addr × Obj)), Zc cls d oe → (∃ vs, oe.data = .fields vs) → PSs (X.suite a ((a, oe) :: pn)) (s0 :: suite) (ts a cls d)) (r : MixOk X hds l) :
      MixOk X (.ExceptHandler (some (.Name x np)) none (s0 :: suite) hp :: hds) ((cl, none, ts) :: l)
  | named {x n : Str} {i : Nat} {cl : Value} {ts : Addr → Value → Option Addr → TS} {s0 : Stmt} {suite : List Stmt} {np hp : Pos} {hds : List ExceptHandler} {l : List Clause} (hn : Names X x cl) (hi : X.N[i]? = some n) (hl : X.env.kindOf n = some .local)
      (hsu : ∀ (a : Addr) (oe : Obj) (cls : Value) (d : Option Addr) (pn : List (Addr × Obj)), Zc cls d oe → (∃ vs, oe.data = .fields vs) → PSs (X.suite a ((a, oe) :: pn)) (s0 :: suite) (ts a cls d)) (r : MixOk X hds l) :
      MixOk X (.ExceptHandler (some (.Name x np)) (some n) (s0 :: suite) hp :: hds) ((cl, some i, ts) :: l)
section
variable {X : Cx} {body : List Stmt} {hd0 : ExceptHandler} {hds : List ExceptHandler} {l : List Clause} {pos : Pos} {tb : WX → TS} {Wout : WX}
/-- the clauses one after the other, the exception landed at ea -/
theorem mix_go (hs : X.stack = X.env :: X.outer) (hf : X.env.frame = some X.env.locals) (hN : X.N.Nodup) (tk : Takes X Wout) {pins : List (Addr × Obj)} {τ : L2.St} {H' : Hp} {D : Ends} {s2 sI : Shared} {h3 Bh : Heap} {ea : Addr} {cls : Value} {d : Option Addr} (ok : X.Ok)
    (J : Inv X pins τ H' sI) (nb : ∀ b o, sI.heap.get? b = some o → b ∉ frs X.stack → Bh.get? b = some o) (up : sI.heap.UpToSlots h3) (os : s2.os = sI.os) (ag : AllBare s2.gens) (na : H' ea = none)
    (fl : HandSPX.FlyingZ Bh (X.env :: X.outer) ea (Zc cls d) h3) (nL : ea ≠ X.env.locals) (nF : ea ∉ X.fs) :
    ∀ {hds : List ExceptHandler} {l : List Clause}, MixOk X hds l → wMix X.K Wout D l cls d τ H' → wpAny (model X.prog X.w) X.A (handleBy (.ref ea) X.env hds) (SP X pins D) X.xe { s2 with heap := h3 } := by
  have land : ∀ {h : Heap}, HandSPX.FlyingZ Bh (X.env :: X.outer) ea (Zc cls d) h → sI.heap.UpToSlots h → Inv X pins τ H' { s2 with heap := h } := fun q u => J.landed nb q.1 u os ag
  have J3 := land fl up
  intro hds l hk
  induction hk with
  | nil =>
    intro w
    refine wpAny_handleBy_nil ?_
    obtain ⟨_, _, _, oe, vs, T, oT, tl, he, _, hdat, h1, _⟩ := id fl
    unfold PySem.passOn
    refine wpAny_bind (wpAny_field he hdat h1 ?_)
    rw [if_neg (show ¬ ((Value.ref T == Value.none) = true) by simp)]
    have again : wpAny (model X.prog X.w) X.A (setFlight (.ref ea) X.env.frame) (fun _ s4 => wpAny (model X.prog X.w) X.A (throw (.ref ea) : Sem Flow) (SP X pins D) X.xe s4) X.xe { s2 with heap := h3 } := by
      rw [hf]
      refine HandSPX.setFlight_upZ fl fun h4 held u4 => wpAny_throw (tk _ _ ⟨ea, Bh, sI, pins, τ, H', cls, d, rfl, J, nb, up.trans u4, .inr (.inr ?_), na, os, ag, w⟩)
      rw [hs]; exact held
    first
      | exact wpAny_bind again
      | exact wpAny_bind (wpAny_pure (wpAny_bind again))
  | @only x cl ts s0 suite np hp hds2 l2 hn hsu r ih =>
    rintro ⟨b, hb, yes, no⟩
    obtain ⟨oe3, vs3, he3, hz3, hd3⟩ := fl.there
    have S3 := J3.suite he3 hd3 na nL nF
    refine wpAny_handleBy_cons (codeAny_handlers_test ?_) (by intro q; cases q)
    have LT : PySem.W.Looks (model X.prog X.w) h3 (typeOf (.ref ea)) cls := fun _ _ _ _ kp q => wpAny_typeOf_ref (kp _ _ he3) (by rw [hz3.1]; exact q)
    have ask := PySem.W.exm_one (M := model X.prog X.w) J3.kIn LT hb
    have name : ∀ {Q : Value → Shared → Prop} {E : Value → Shared → Prop}, Q cl { s2 with heap := h3 } → wpAny (model X.prog X.w) (X.A.mark (some (.ref ea))) (eval (.Name x np) X.env) Q E { s2 with heap := h3 } := fun q => by
      obtain ⟨hg, hdb, hm | ⟨hm, hv, hx⟩⟩ := hn
      · exact ld_glob (X := X.suite ea ((ea, oe3) :: (X.pn ++ pins))) S3 hg hm q hdb
      · exact ld_blt (X := X.suite ea ((ea, oe3) :: (X.pn ++ pins))) S3 hg hm hv q hx hdb
    refine name (ask.here ?_)
    cases b with
    | false => exact ih (no rfl)
    | true =>
      refine codeAny_handlers_suite (HandSPX.lands_againZ fl fun h4 fl4 u4 => ?_)
      obtain ⟨oe4, vs4, he4, hz4, hd4⟩ := fl4.there
      have S4 := (land fl4 (up.trans u4)).suite he4 hd4 na nL nF
      refine wpAny_mono ((hsu ea oe4 cls d (X.pn ++ pins) hz4 ⟨_, hd4⟩).run [] _ _ H' _ S4 (yes rfl ea na)) (fun f s6 q => ?_) (fun _ _ z => z.elim)
      cases f with
      | ret u => obtain ⟨v, τ6, H6, S6, r6, q6⟩ := q; exact ⟨v, τ6, H6, S6.unsuite ok, r6, q6⟩
      | next => obtain ⟨τ6, H6, S6, q6⟩ := q; exact ⟨τ6, H6, S6.unsuite ok, q6⟩
      | brk => obtain ⟨τ6, H6, S6, q6⟩ := q; exact ⟨τ6, H6, S6.unsuite ok, q6⟩
      | cont => obtain ⟨τ6, H6, S6, q6⟩ := q; exact ⟨τ6, H6, S6.unsuite ok, q6⟩
  | @named x n i cl ts s0 suite np hp hds2 l2 hn hi hl hsu r ih =>
    rintro ⟨b, hb, yes, no⟩
    obtain ⟨oe3, vs3, he3, hz3, hd3⟩ := fl.there
    have S3 := J3.suite he3 hd3 na nL nF
    refine wpAny_handleBy_cons (codeAny_handlers_test ?_) (by intro q; cases q)
    have LT : PySem.W.Looks (model X.prog X.w) h3 (typeOf (.ref ea)) cls := fun _ _ _ _ kp q => wpAny_typeOf_ref (kp _ _ he3) (by rw [hz3.1]; exact q)
    have ask := PySem.W.exm_one (M := model X.prog X.w) J3.kIn LT hb
    have name : ∀ {Q : Value → Shared → Prop} {E : Value → Shared → Prop}, Q cl { s2 with heap := h3 } → wpAny (model X.prog X.w) (X.A.mark (some (.ref ea))) (eval (.Name x np) X.env) Q E { s2 with heap := h3 } := fun q => by
      obtain ⟨hg, hdb, hm | ⟨hm, hv, hx⟩⟩ := hn
      · exact ld_glob (X := X.suite ea ((ea, oe3) :: (X.pn ++ pins))) S3 hg hm q hdb
      · exact ld_blt (X := X.suite ea ((ea, oe3) :: (X.pn ++ pins))) S3 hg hm hv q hx hdb
    refine name (ask.here ?_)
    cases b with
    | false => exact ih (no rfl)
    | true =>
      refine codeAny_handlers_suite_as (HandSPX.lands_againZ fl fun h4 fl4 u4 => ?_)
      obtain ⟨oe4, vs4, he4, hz4, hd4⟩ := fl4.there
      have S4 := (land fl4 (up.trans u4)).suite he4 hd4 na nL nF
      refine store_ok (X := X.suite ea ((ea, oe4) :: (X.pn ++ pins))) (v := .ref ea) S4 hN hi (.inl hl) rfl (fun s5 S5 => ?_) (.inr hl)
      refine wpAny_mono ((hsu ea oe4 cls d (X.pn ++ pins) hz4 ⟨_, hd4⟩).run [] s5 _ H' _ S5 (yes rfl ea na)) (fun f s6 q => ?_) (fun _ _ z => z.elim)
      have behind : ∀ {τ6 : L2.St} {H6 : Hp} {Q : Shared → Prop}, Inv (X.suite ea ((ea, oe4) :: (X.pn ++ pins))) [] τ6 H6 s6 → (∀ s7, Inv X pins (τ6.set i none) H6 s7 → Q s7) →
          wpAny (model X.prog X.w) X.A (do bindName X.env n .none; unbindBehindTheSuite X.env n hp) (fun _ s7 => Q s7) X.xe s6 := fun S6 z => gone_ok (S6.unsuite ok) hN hi hl z
      cases f with
      | ret u => obtain ⟨v, τ6, H6, S6, r6, q6⟩ := q; exact behind S6 fun s7 J7 => ⟨v, _, H6, J7, r6, q6⟩
      | next => obtain ⟨τ6, H6, S6, q6⟩ := q; exact behind S6 fun s7 J7 => ⟨_, H6, J7, q6⟩
      | brk => obtain ⟨τ6, H6, S6, q6⟩ := q; exact behind S6 fun s7 J7 => ⟨_, H6, J7, q6⟩
      | cont => obtain ⟨τ6, H6, S6, q6⟩ := q; exact behind S6 fun s7 J7 => ⟨_, H6, J7, q6⟩
theorem ps_mix (hs : X.stack = X.env :: X.outer) (hf : X.env.frame = some X.env.locals) (hN : X.N.Nodup) (tk : Takes X Wout)
    (hb : ∀ (W : WX) (pn : List (Addr × Obj)) (xe : Value → Shared → Prop), Takes (X.tr pn xe) W → PassesOwn (model X.prog X.w) X.A X.env xe → PSs (X.tr pn xe) body (tb W))
    (hh : MixOk X (hd0 :: hds) l) : PS X (.Try body (hd0 :: hds) [] [] pos) (fun D τ H => tb (wMix X.K Wout D l) D τ H) := by
  refine ⟨fun pins s τ H D I h => ?_⟩
  have ok := I.ok
  have hfr : X.A.frames = some (X.env :: X.outer) := by rw [ok.frames, hs]
  refine wpAny_Try_except ?_
  have run := (hb (wMix X.K Wout D l) (X.pn ++ pins) (fun e s1 => wpAny (model X.prog X.w) X.A (noteFrame e X.env) (fun _ s2 => wpAny (model X.prog X.w) X.A (setFlight e none) (fun _ s3 =>
    wpAny (model X.prog X.w) X.A (handleBy e X.env (hd0 :: hds)) (SP X pins D) X.xe s3) X.xe s2) X.xe s1) ?_ PassesOwn.looking).run [] s τ H D (I.toTry _) h
  · refine wpAny_mono run (fun f s1 q => ?_) fun _ _ z => z
    cases f with
    | next => obtain ⟨τ', H', J, q⟩ := q; exact wpAny_execs_nil ⟨τ', H', J.ofTry ok, q⟩
    | brk => obtain ⟨τ', H', J, q⟩ := q; exact ⟨τ', H', J.ofTry ok, q⟩
    | cont => obtain ⟨τ', H', J, q⟩ := q; exact ⟨τ', H', J.ofTry ok, q⟩
    | ret u => obtain ⟨v, τ', H', J, r, q⟩ := q; exact ⟨v, τ', H', J.ofTry ok, r, q⟩
  · rintro u s2 ⟨ea, Bh, sI, pins', τ', H', cls, d, rfl, J', nb, up, sky, na, os, ag, w⟩
    rw [hs] at sky
    show wpAny (model X.prog X.w) X.A (noteFrame (.ref ea) X.env) _ _ _
    refine Sky.land Zc.steady hfr hf sky fun h3 fl u3 => ?_
    obtain ⟨oe3, vs3, he3, _, hd3⟩ := fl.there
    have apart : ea ∉ frs (X.env :: X.outer) := fun hm => by
      obtain ⟨_, o', e', hnf⟩ := fl.2.2.1.mem hm
      rw [he3] at e'; cases e'
      exact hnf _ hd3
    refine mix_go hs hf hN tk ok (J'.ofTry ok) nb (up.trans u3) os ag na fl (fun z => apart (List.mem_filterMap.mpr ⟨X.env, List.mem_cons_self, by rw [hf, z]⟩)) (fun hm => ?_) hh w
    obtain ⟨e, he, q⟩ := List.mem_filterMap.mp hm
    exact apart (List.mem_filterMap.mpr ⟨e, List.mem_cons_of_mem _ he, q⟩)
end
end MV

namespace MV
open PySem PySem.Spec PyProof.Rows L2

/-! ## Trees without a held exception -/
mutual
def noX : T → Bool
  | .hole => true
  | .v _ => true
  | .tup l => noXs l
  | .lst l => noXs l
  | .own l => noXs l
  | .kl l => noXs l
  | .ins _ _ l => noXs l
  | .oin _ _ l => noXs l
  | .xc _ _ _ => false
def noXs : List T → Bool
  | [] => true
  | t :: ts => noX t && noXs ts
end
section
variable {K : PySem.W.Frag} {mg : Str → Option Value} {ex ex' : Option (Addr × Addr × Option Addr)} {F H : Hp}
mutual
theorem rep_ex (h0 : ex = none ∨ True) : ∀ {t : T} {x : V} {O : List Addr}, (ex = none ∨ noX t = true) → rep ⟨K, mg, ex⟩ F H t x O → rep ⟨K, mg, ex'⟩ F H t x O
  | .hole, x, O, c, h => by simp only [rep] at h ⊢; exact h
  | .v _, x, O, c, h => by simp only [rep] at h ⊢; exact h
  | .tup l, x, O, c, h => by
    simp only [rep] at h ⊢
    obtain ⟨h1, a, vs, h2, h3, h4⟩ := h
    exact ⟨h1, a, vs, h2, h3, reps_ex h0 (c.imp id fun z => by simpa only [noX] using z) h4⟩
  | .lst l, x, O, c, h => by
    simp only [rep] at h ⊢
    obtain ⟨h1, a, vs, h2, h3, h4⟩ := h
    exact ⟨h1, a, vs, h2, h3, reps_ex h0 (c.imp id fun z => by simpa only [noX] using z) h4⟩
  | .kl l, x, O, c, h => by
    simp only [rep] at h ⊢
    obtain ⟨h1, a, vs, h2, h3, h4⟩ := h
    exact ⟨h1, a, vs, h2, h3, reps_ex h0 (c.imp id fun z => by simpa only [noX] using z) h4⟩
  | .own l, x, O, c, h => by
    simp only [rep] at h ⊢
    obtain ⟨a, vs, O', h1, h2, h3, h4, h5⟩ := h
    exact ⟨a, vs, O', h1, h2, h3, h4, reps_ex h0 (c.imp id fun z => by simpa only [noX] using z) h5⟩
  | .ins C ns l, x, O, c, h => by
    simp only [rep] at h ⊢
    obtain ⟨h1, hn, a, dx, Ca, vs, h2, h3, h4, h5⟩ := h
    exact ⟨h1, hn, a, dx, Ca, vs, h2, h3, h4, reps_ex h0 (c.imp id fun z => by simpa only [noX] using z) h5⟩
  | .oin C ns l, x, O, c, h => by
    simp only [rep] at h ⊢
    obtain ⟨hn, a, dx, Ca, vs, O', h1, h2, h3, h4, h5, h6⟩ := h
    exact ⟨hn, a, dx, Ca, vs, O', h1, h2, h3, h4, h5, reps_ex h0 (c.imp id fun z => by simpa only [noX] using z) h6⟩
  | .xc C ns l, x, O, c, h => by
    simp only [rep] at h
    obtain ⟨_, _, a, Ca, dx, vs, _, h3, _⟩ := h
    rcases c with c | c
    · rw [c] at h3; cases h3
    · simp [noX] at c
theorem reps_ex (h0 : ex = none ∨ True) : ∀ {l : List T} {vs : List V} {O : List Addr}, (ex = none ∨ noXs l = true) → reps ⟨K, mg, ex⟩ F H l vs O → reps ⟨K, mg, ex'⟩ F H l vs O
  | [], vs, O, c, h => by simp only [reps] at h ⊢; exact h
  | t :: ts, vs, O, c, h => by
    simp only [reps] at h ⊢
    obtain ⟨x, xs, O1, O2, h1, h2, h3, h4⟩ := h
    have c1 : ex = none ∨ noX t = true := c.imp id fun z => by simp only [noXs, Bool.and_eq_true] at z; exact z.1
    have c2 : ex = none ∨ noXs ts = true := c.imp id fun z => by simp only [noXs, Bool.and_eq_true] at z; exact z.2
    exact ⟨x, xs, O1, O2, h1, h2, rep_ex h0 c1 h3, reps_ex h0 c2 h4⟩
end
theorem Sta.chg {bor : Option V} {τ : L2.St} {σ : List T} {O : List Addr} (s : Sta ⟨K, mg, ex⟩ bor F H τ σ O) (c : ex = none ∨ noXs σ = true) : Sta ⟨K, mg, ex'⟩ bor F H τ σ O := by
  obtain ⟨vs, r, hv⟩ := s.vals
  exact ⟨s.sub, s.nd, s.len, ⟨vs, reps_ex (.inr trivial) c r, hv⟩, s.bor⟩
end

/-! ## try -/
abbrev MCl := Str × Option Nat × (List T → SRes)
def noE : SRes → SRes
  | .exc _ _ _ _ => .stuck
  | r => r
def cleanS (i : Nat) : SRes → SRes
  | .nx σ => if noXs (σ.set i .hole) then .nx (σ.set i .hole) else .stuck
  | .bk σ => if noXs (σ.set i .hole) then .bk (σ.set i .hole) else .stuck
  | .ct σ => if noXs (σ.set i .hole) then .ct (σ.set i .hole) else .stuck
  | .rt t σ => if noX t && noXs (σ.set i .hole) then .rt t (σ.set i .hole) else .stuck
  | _ => .stuck
def hnd (rel : Str → Str → Option Bool) (C : Str) (ns : List Str) (ts : List T) : List MCl → List T → SRes
  | [], σ => .exc C ns ts σ
  | (cn, o, m) :: r, σ => match rel C cn with
    | some true => (match o with
      | none => noE (m σ)
      | some i => if ns.isEmpty || !decide (i < σ.length) then .stuck else cleanS i (m (σ.set i (.xc C ns ts))))
    | some false => hnd rel C ns ts r σ
    | none => .stuck
def mTry (rel : Str → Str → Option Bool) (body : List T → SRes) (cls : List MCl) : List T → SRes := fun σ =>
  match body σ with
  | .exc C ns ts σ1 => hnd rel C ns ts cls σ1
  | r => r
/-- the context of a suite that holds the exception at a -/
def suiteC (c : Ct) (a Ca : Addr) (d : Option Addr) : Ct := ⟨⟨c.e.K, c.e.mg, some (a, Ca, d)⟩, c.bor, fun _ _ _ _ => False⟩
inductive MxOk (X : Cx) (c : Ct) : List ExceptHandler → List MCl → List Clause → Prop
  | nil : MxOk X c [] [] []
  | only {x : Str} {cl : Value} {m : List T → SRes} {s0 : Stmt} {suite : List Stmt} {np hp : Pos} {hds : List ExceptHandler} {ms : List MCl} {l : List Clause} (hn : Names X x cl) (hm : X.mg x = some cl)
      (hsu : ∀ (a : Addr) (oe : Obj) (Ca : Addr) (d : Option Addr) (pn : List (Addr × Obj)), Zc (.ref Ca) d oe → (∃ vs, oe.data = .fields vs) → PSs (X.suite a ((a, oe) :: pn)) (s0 :: suite) (tS (quiet c) m)) (r : MxOk X c hds ms l) :
      MxOk X c (.ExceptHandler (some (.Name x np)) none (s0 :: suite) hp :: hds) ((x, none, m) :: ms) ((cl, none, fun _ cls _ => fun D τ H => (∃ Ca, cls = .ref Ca) ∧ tS (quiet c) m D τ H) :: l)
  | named {x n : Str} {i : Nat} {cl : Value} {m : List T → SRes} {s0 : Stmt} {suite : List Stmt} {np hp : Pos} {hds : List ExceptHandler} {ms : List MCl} {l : List Clause} (hn : Names X x cl) (hm : X.mg x = some cl) (hi : X.N[i]? = some n) (hl : X.env.kindOf n = some .local) (ok : slotOk c i)
      (hsu : ∀ (a : Addr) (oe : Obj) (Ca : Addr) (d : Option Addr) (pn : List (Addr × Obj)), Zc (.ref Ca) d oe → (∃ vs, oe.data = .fields vs) → PSs (X.suite a ((a, oe) :: pn)) (s0 :: suite) (tS (suiteC c a Ca d) m)) (r : MxOk X c hds ms l) :
      MxOk X c (.ExceptHandler (some (.Name x np)) (some n) (s0 :: suite) hp :: hds) ((x, some i, m) :: ms) ((cl, some i, fun a cls d => fun D τ H => ∃ Ca, cls = .ref Ca ∧ tS (suiteC c a Ca d) m D τ H) :: l)
section
variable {X : Cx} {c : Ct}
theorem MxOk.mix {hds : List ExceptHandler} {ms : List MCl} {l : List Clause} (h : MxOk X c hds ms l) : MixOk X hds l := by
  induction h with
  | nil => exact .nil
  | only hn hm hsu r ih =>
    refine .only hn (fun a oe cls d pn hz hd => ⟨fun p s τ H D I q => ?_⟩) ih
    obtain ⟨⟨Ca, rfl⟩, q⟩ := q
    exact (hsu a oe Ca d pn hz hd).run p s τ H D I q
  | named hn hm hi hl ok hsu r ih =>
    refine .named hn hi hl (fun a oe cls d pn hz hd => ⟨fun p s τ H D I q => ?_⟩) ih
    obtain ⟨Ca, rfl, q⟩ := q
    exact (hsu a oe Ca d pn hz hd).run p s τ H D I q
theorem hnd_ok {rel : Str → Str → Option Bool} (he : c.e = ⟨X.K, X.mg, none⟩) (hrel : ∀ C cn Ca cl b, rel C cn = some b → X.mg C = some (.ref Ca) → X.mg cn = some cl → PySem.W.exmOne X.K (.ref Ca) cl = some b)
    {F H F1 H1 : Hp} {O O1 : List Addr} {D : Ends} {τ : L2.St} {σ : List T} {C : Str} {ns : List Str} {ts : List T} {Ca : Addr} {d : Option Addr} (st : Sta c.e c.bor F1 H1 τ σ O1) (stp : Stp F H O F1 H1 O1) (xr : XR c.e F1 H1 C ns ts Ca d) :
    ∀ {hds : List ExceptHandler} {ms : List MCl} {l : List Clause}, MxOk X c hds ms l → SPost c F H O D (hnd rel C ns ts ms σ) → wMix X.K c.W D l (.ref Ca) d τ H1 := by
  intro hds ms l h
  have hC : X.mg C = some (.ref Ca) := by have := xr.1; rw [he] at this; exact this
  induction h with
  | nil => exact fun p => p τ F1 H1 O1 Ca d st stp xr
  | @only x cl m s0 suite np hp hds ms l hn hm hsu r ih =>
    intro p
    simp only [hnd] at p
    cases q : rel C x with
    | none => rw [q] at p; exact p.elim
    | some b =>
      refine ⟨b, hrel C x Ca cl b q hC hm, fun hb a ha => ?_, fun hb => ?_⟩
      · subst hb
        simp only [q] at p
        refine ⟨⟨Ca, rfl⟩, F1, σ, O1, st, ?_⟩
        cases z : m σ with
        | nx σ' => rw [z] at p; exact fun τ' F' H' O' a b => p τ' F' H' O' a (stp.tr b (fun _ h => h) fun _ h => .inl h)
        | bk σ' => rw [z] at p; exact fun τ' F' H' O' a b => p τ' F' H' O' a (stp.tr b (fun _ h => h) fun _ h => .inl h)
        | ct σ' => rw [z] at p; exact fun τ' F' H' O' a b => p τ' F' H' O' a (stp.tr b (fun _ h => h) fun _ h => .inl h)
        | rt t σ' => rw [z] at p; exact fun τ' F' H' O' x P a r n b => p τ' F' H' O' x P a r n (stp.tr b (fun _ h => h) fun _ h => .inl h)
        | exc _ _ _ _ => rw [z] at p; exact p.elim
        | stuck => rw [z] at p; exact p.elim
      · subst hb
        simp only [q] at p
        exact ih p
  | @named x n i cl m s0 suite np hp hds ms l hn hm hi hl ok hsu r ih =>
    intro p
    simp only [hnd] at p
    cases q : rel C x with
    | none => rw [q] at p; exact p.elim
    | some b =>
      refine ⟨b, hrel C x Ca cl b q hC hm, fun hb a ha => ?_, fun hb => ?_⟩
      · subst hb
        simp only [q] at p
        split at p
        · exact p.elim
        · rename_i hg
          simp only [Bool.or_eq_true, Bool.not_eq_true', decide_eq_false_iff_not, not_or, Decidable.not_not, Bool.not_eq_true] at hg
          obtain ⟨hne, hlt⟩ := hg
          obtain ⟨_, hlen, hx⟩ := xr
          rcases hx with ⟨z, _⟩ | ⟨dx, vs, rfl, hF, hr⟩
          · subst z; simp at hne
          · have st1 : Sta (suiteC c a Ca (some dx)).e c.bor F1 H1 τ σ O1 := by
              have st' := st
              rw [he] at st'
              have := st'.chg (ex' := some (a, Ca, some dx)) (.inl rfl)
              simpa only [suiteC, he] using this
            have rx : rep (suiteC c a Ca (some dx)).e F1 H1 (.xc C ns ts) (.ref a) [] := by
              simp only [rep]
              refine ⟨trivial, hlen, a, Ca, dx, vs, rfl, rfl, by simp only [suiteC, he]; exact hC, hF, ?_⟩
              rw [he] at hr
              have := reps_ex (ex' := some (a, Ca, some dx)) (.inr trivial) (.inl rfl) hr
              simpa only [suiteC, he] using this
            obtain ⟨O2, st2, m2⟩ := st1.put (c := suiteC c a Ca (some dx)) rx (by simpa using st1.nd) hlt ok
            have stp2 : Stp F H O F1 H1 O2 := stp.sub_own fun z hz => by simpa using m2 z hz
            refine ⟨Ca, rfl, F1, _, O2, st2, ?_⟩
            have back : ∀ {τ' : L2.St} {F' H' : Hp} {σ' : List T} {O' : List Addr}, Sta (suiteC c a Ca (some dx)).e c.bor F' H' τ' σ' O' → noXs (σ'.set i .hole) = true → ∃ O'', Sta c.e c.bor F' H' (τ'.set i none) (σ'.set i .hole) O'' ∧ ∀ z ∈ O'', z ∈ O' := fun {τ' F' H' σ' O'} s hx => by
              obtain ⟨O'', s', m'⟩ := s.forget (c := suiteC c a Ca (some dx)) (v := i) ok none
              refine ⟨O'', ?_, m'⟩
              have s'' : Sta ⟨X.K, X.mg, some (a, Ca, some dx)⟩ c.bor F' H' (τ'.set i none) (σ'.set i .hole) O'' := by simpa only [suiteC, he] using s'
              rw [he]
              exact s''.chg (.inr hx)
            cases z : m (σ.set i (.xc C ns ts)) with
            | nx σ' =>
              rw [z] at p
              simp only [cleanS] at p
              split at p
              · rename_i hx
                intro τ' F' H' O' s b
                obtain ⟨O'', s', m'⟩ := back s hx
                exact p _ F' H' O'' s' ((stp2.tr b (fun _ h => h) fun _ h => .inl h).sub_own m')
              · exact p.elim
            | bk σ' =>
              rw [z] at p
              simp only [cleanS] at p
              split at p
              · rename_i hx
                intro τ' F' H' O' s b
                obtain ⟨O'', s', m'⟩ := back s hx
                exact p _ F' H' O'' s' ((stp2.tr b (fun _ h => h) fun _ h => .inl h).sub_own m')
              · exact p.elim
            | ct σ' =>
              rw [z] at p
              simp only [cleanS] at p
              split at p
              · rename_i hx
                intro τ' F' H' O' s b
                obtain ⟨O'', s', m'⟩ := back s hx
                exact p _ F' H' O'' s' ((stp2.tr b (fun _ h => h) fun _ h => .inl h).sub_own m')
              · exact p.elim
            | rt t σ' =>
              rw [z] at p
              simp only [cleanS] at p
              split at p
              · rename_i hx
                simp only [Bool.and_eq_true] at hx
                intro τ' F' H' O' x P s rx n b
                obtain ⟨O'', s', m'⟩ := back s hx.2
                refine p _ F' H' O'' x P s' ?_ (nd_app s'.nd (List.nodup_append.mp n).2.1 fun z hz hy => nd_disj n z hz (m' z hy)) ((stp2.tr b (fun _ h => h) fun _ h => .inl h).sub_own fun z hz => ?_)
                · have rx' : rep ⟨X.K, X.mg, some (a, Ca, some dx)⟩ F' H' t x P := by simpa only [suiteC, he] using rx
                  rw [he]
                  exact rep_ex (.inr trivial) (.inr hx.1) rx'
                · rcases List.mem_append.mp hz with y | y
                  · simp [m' z y]
                  · simp [y]
              · exact p.elim
            | exc _ _ _ _ => rw [z] at p; exact p.elim
            | stuck => rw [z] at p; exact p.elim
      · subst hb
        simp only [q] at p
        exact ih p
theorem s_try {rel : Str → Str → Option Bool} {body : List Stmt} {mb : List T → SRes} {h0 : ExceptHandler} {hds : List ExceptHandler} {ms : List MCl} {l : List Clause} {pos : Pos} (he : c.e = ⟨X.K, X.mg, none⟩)
    (hrel : ∀ C cn Ca cl b, rel C cn = some b → X.mg C = some (.ref Ca) → X.mg cn = some cl → PySem.W.exmOne X.K (.ref Ca) cl = some b)
    (hs : X.stack = X.env :: X.outer) (hf : X.env.frame = some X.env.locals) (hN : X.N.Nodup) (tk : Takes X c.W)
    (hb : ∀ (W : WX) (pn : List (Addr × Obj)) (xe : Value → Shared → Prop), Takes (X.tr pn xe) W → PassesOwn (model X.prog X.w) X.A X.env xe → PSs (X.tr pn xe) body (tS { c with W := W } mb)) (hh : MxOk X c (h0 :: hds) ms l) :
    PS X (.Try body (h0 :: hds) [] [] pos) (tS c (mTry rel mb ms)) :=
  (ps_mix (tb := fun W => tS { c with W := W } mb) hs hf hN tk hb hh.mix).wk fun D τ H h => by
    obtain ⟨F, σ, O, st, p⟩ := h
    refine ⟨F, σ, O, st, ?_⟩
    unfold mTry at p
    cases q : mb σ with
    | nx σ' => rw [q] at p; exact p
    | bk σ' => rw [q] at p; exact p
    | ct σ' => rw [q] at p; exact p
    | rt t σ' => rw [q] at p; exact p
    | stuck => rw [q] at p; exact p
    | exc C ns ts σ' =>
      rw [q] at p
      exact fun τ' F' H' O' Ca d s t x => hnd_ok he hrel s t x hh p
/-- err.f -/
def mXf (i : Nat) (nm f : Str) : List T → Res T := fun σ =>
  match σ[i]? with
  | some (.xc C ns ts) => if C = nm then (match (ns.zip ts).lookup f with
    | some t => .ok t σ
    | none => .stuck) else .stuck
  | _ => .stuck
theorem zip_lk {e : En} {F H : Hp} {f : Str} : ∀ {ns : List Str} {ts : List T} {vs : List V} {t : T}, reps e F H ts vs [] → (ns.zip ts).lookup f = some t → ∃ v, (ns.zip vs).lookup f = some v ∧ rep e F H t v []
  | [], ts, vs, t, r, h => by simp at h
  | n :: ns, [], vs, t, r, h => by simp at h
  | n :: ns, u :: ts, vs, t, r, h => by
    simp only [reps] at r
    obtain ⟨x, xs, O1, O2, rfl, e0, r1, r2⟩ := r
    obtain ⟨rfl, rfl⟩ := List.append_eq_nil_iff.mp e0.symm
    simp only [List.zip_cons_cons, List.lookup] at h ⊢
    cases q : f == n with
    | true => rw [q] at h; cases h; exact ⟨x, rfl, r1⟩
    | false => rw [q] at h; exact zip_lk r2 h
theorem e_xfld {nm f : Str} {i : Nat} {fI : Addr} {C : Addr} {ns0 : List Str} {a : Addr} {oe : Obj} {Ca : Addr} {d : Option Addr} {pn : List (Addr × Obj)} {e : Expr} {pos : Pos} {c' : Ct} (T : MVX.Xt X.prog X.K X.mg nm C fI ns0) (hf : f ∈ ns0)
    (hc' : c'.e = ⟨X.K, X.mg, some (a, Ca, d)⟩) (hz : Zc (.ref Ca) d oe) (hd : ∃ vs, oe.data = .fields vs) (he : PE (X.suite a ((a, oe) :: pn)) e (tVar i)) (hb : attributeBase e f X.env (eval e X.env) = eval e X.env := by rfl) :
    PE (X.suite a ((a, oe) :: pn)) (.Attribute e f pos) (tE c' (mXf i nm f)) := by
  refine ⟨fun pins s τ H Q I h => ?_⟩
  obtain ⟨F, σ, O, st, p⟩ := h
  unfold mXf at p
  split at p
  · rename_i Cn ns ts q
    split at p
    · rename_i hCn
      subst hCn
      split at p
      · rename_i t qt
        obtain ⟨x, Ot, e1, rt, _⟩ := (Mid.start (c := c') st).slot q rfl
        simp only [rep] at rt
        obtain ⟨rfl, hl, a', Ca', dx, vs, rfl, hx, hmg, hF, rts⟩ := rt
        rw [hc'] at hx hmg
        cases hx
        have : C = Ca := by
          have h1 := T.gC
          have hmg' : X.mg Cn = some (.ref Ca) := hmg
          rw [h1] at hmg'
          cases hmg'
          rfl
        subst this
        refine attr_of hb (thn (he.run pins s τ H (fun y H' => y = V.ref a ∧ H' = H) I ⟨_, e1, ⟨rfl, rfl⟩⟩) fun u s1 hh => ?_)
        obtain ⟨y, H1, I1, ry, ey⟩ := hh
        obtain ⟨rfl, rfl⟩ : y = V.ref a ∧ H1 = H := ey
        obtain rfl : u = Value.ref a := ry
        obtain ⟨v, lv, rv⟩ := zip_lk rts qt
        obtain ⟨ha, _⟩ := I1.pin (a, oe) (List.mem_append_left _ List.mem_cons_self)
        obtain ⟨ws, hdat⟩ := hd
        have ho : ObjOk X.prog X.w H1 s1.heap dx (.xd (ns.zip vs)) := I1.hok dx _ (st.sub _ _ hF)
        obtain ⟨mA, hns, hr⟩ := ho
        obtain ⟨od, hod, hlk⟩ := lookIn_ns hns
        obtain ⟨u, hu, ru⟩ := RelO.some_of (v := v) (o := mA f) (by rw [← lv]; exact hr f)
        have J : PySem.W.InstAt s1.heap a oe C (some od) := ⟨ha, hz.1, by unfold PySem.W.notCls; rw [hdat] <;> rfl, by rw [hz.2]; exact hod⟩
        refine HandSPX.exc_get I1.kIn J T.ga T.gg T.exC (PySem.W.findObj_own T.hdC (T.noN f hf) rfl (by rw [hlk, hu])) (handed_of ru) ⟨v, H1, I1.tok _, ru, ?_⟩
        exact p F H1 O v [] st rv (by simpa using st.nd) (Stp.rfl (by simp))
      · exact p.elim
    · exact p.elim
  · exact p.elim
end
end MV

namespace MV
open PySem PySem.Spec PyProof.Rows L2

/-! ## Chained comparison, of plain values -/
def mChain (s s' : OS) (f g h : List T → Res T) : List T → Res T := fun σ => (f σ).bind fun t σ1 => (g σ1).bind fun u σ2 =>
  match t, u, s t u with
  | .v _, .v _, some (.v (.bl k)) => if k then (h σ2).bind fun w σ3 => (match w, s' u w with
    | .v _, some (.v z) => .ok (.v z) σ3
    | _, _ => .stuck) else .ok (.v (.bl false)) σ2
  | _, _, _ => .stuck
section
variable {X : Cx} {c : Ct} {a b d : Expr} {f g h : List T → Res T} {pos : Pos}
theorem chain_wk {r r' : R2} {s s' : OS} (ok : OpOk c.e r s) (ok' : OpOk c.e r' s') (τ : L2.St) (H : Hp) (Q : VK) (hh : tE c (mChain s s' f g h) τ H Q) : tChain r r' (tE c f) (tE c g) (tE c h) τ H Q := by
  obtain ⟨F, σ, O, st, p⟩ := hh
  refine Tm.mono ((Mid.start st).run (by simp) (g := f) p) fun x H1 ⟨t, σ1, F1, O1, P1, m1, r1, s1, p1⟩ => ?_
  refine Tm.mono (m1.run (by simpa using rep_some r1) (g := g) p1) fun y H2 ⟨u, σ2, F2, O2, P2, m2, r2, s2, p2⟩ => ?_
  split at p2
  · rename_i x0 y0 k _ q
    obtain ⟨rfl, rfl⟩ := rep_v r1
    obtain ⟨rfl, rfl⟩ := rep_v r2
    show r _ _ H2 _
    refine ok F2 H2 [] [] [] _ _ _ _ _ _ m2.st.sub rep_v' rep_v' (by simp) (by simp) (by simp) (by simp) (by simp) (by simp) (by simp) q fun F' H' z P' al rz => ?_
    obtain ⟨rfl, rfl⟩ := rep_v rz
    have m3 := m2.alc (P := []) (by simpa using al)
    refine ⟨k, rfl, ?_⟩
    cases k with
    | false => exact m3.fin p2 rep_v' (by simp) (by simp)
    | true =>
      refine Tm.mono (m3.run (by simp) (g := h) p2) fun v H4 ⟨w, σ3, F4, O4, P4, m4, r4, s4, p4⟩ => ?_
      split at p4
      · rename_i v0 z q'
        obtain ⟨rfl, rfl⟩ := rep_v r4
        refine ok' F4 H4 [] [] [] _ _ _ _ _ _ m4.st.sub rep_v' rep_v' (by simp) (by simp) (by simp) (by simp) (by simp) (by simp) (by simp) q' fun F' H' z P' al rz => ?_
        obtain ⟨rfl, rfl⟩ := rep_v rz
        exact (m4.alc (P := []) (by simpa using al)).fin p4 rep_v' (by simp) (by simp)
      · exact p4.elim
  · exact p2.elim
theorem e_chain {op op' : CmpOp} {r r' : R2} {s s' : OS} (ho : OpR X (compareOp op) r) (ho' : OpR X (compareOp op') r') (ok : OpOk c.e r s) (ok' : OpOk c.e r' s') (ha : PE X a (tE c f)) (hb : PE X b (tE c g)) (hd : PE X d (tE c h))
    (hm : lastMarks [op, op'] [b, d] = false := by with_unfolding_all rfl) : PE X (.Compare a [op, op'] [b, d] pos) (tE c (mChain s s' f g h)) := (pe_chain ho ho' ha hb hd hm).wk (chain_wk ok ok')
theorem t_chain {op op' : CmpOp} {r r' : R2} {s s' : OS} (ho : OpR X (compareOp op) r) (ho' : OpR X (compareOp op') r') (ok : OpOk c.e r s) (ok' : OpOk c.e r' s') (ha : PE X a (tE c f)) (hb : PE X b (tE c g)) (hd : PE X d (tE c h))
    (hm : lastMarks [op, op'] [b, d] = false := by with_unfolding_all rfl) : PT X (.Compare a [op, op'] [b, d] pos) (tT c (mBl (mChain s s' f g h))) := (pt_chain ho ho' ha hb hd hm).wk fun τ H Q h => tTest_mono (chain_wk ok ok') (test_wk τ H Q h)
end
end MV

namespace MV
open PySem PySem.Spec PyProof.Rows L2

/-! ## Small joins for printed derivations -/
section
variable {X : Cx} {c : Ct} {e : En}
theorem op_plus : OpR X (binaryOp .Add) (rOr (rI0 fun i j => .int (i + j)) (rOr rCat (rOr (rCatA X.K) (fun x y H Q => ∃ i j, x = .str i ∧ y = .str j ∧ i.length + j.length ≤ sizeLine ∧ Q (.str (i ++ j)) H)))) :=
  MV.OpR.or op_add (MV.OpR.or op_cat (MV.OpR.or op_catA op_add_str))
theorem ok_plus {K : PySem.W.Frag} (hK : e.K = K) : OpOk e (rOr (rI0 fun i j => .int (i + j)) (rOr rCat (rOr (rCatA K) (fun x y H Q => ∃ i j, x = .str i ∧ y = .str j ∧ i.length + j.length ≤ sizeLine ∧ Q (.str (i ++ j)) H)))) sPlus :=
  ok_add.or (ok_catL.or ((ok_catT hK).or ok_catS))
theorem op_times : OpR X (binaryOp .Mult) (rOr (rI CMulW fun i j => .int (i * j)) rRep) := MV.OpR.or op_mulW op_rep
theorem ok_times : OpOk e (rOr (rI CMulW fun i j => .int (i * j)) rRep) sTimes := ok_mul.or ok_rep
theorem t_if1 {a : Expr} {f : List T → Res Bool} (h : PT X a (tT c f)) : PTs X [a] (tT c f) := pts_one h
theorem nm_of {x : Str} {v : Value} (hg : Gl X x) (hm : X.mg x = some v) (hd : (x == ("__debug__" : Str)) = false := by decide) : Names X x v := ⟨hg, hd, .inl hm⟩
end
end MV

namespace MV
open PySem PySem.Spec PyProof.Rows L2

/-! ## x[i][j] = e and x[i][j] op= e: a cell that is a place of a cell -/
theorem set_same {α : Type} : ∀ {l : List α} {i : Nat} {x : α}, l[i]? = some x → l.set i x = l
  | [], _, _, h => by simp at h
  | y :: ys, 0, x, h => by cases h; rfl
  | y :: ys, i + 1, x, h => by
    rw [List.set_cons_succ, set_same (by simpa using h)]
theorem own_set2 {e : En} {F H : Hp} {l l' : List T} {vs : List V} {O' Pt : List Addr} {p : Addr} {i m : Nat} {t : T} {y : V} (fp : F p = none) (hp : H p = some (.lst vs)) (sb : Sub F H) (g : reps e F H l vs O') (n : (p :: O').Nodup) (hq : l[i]? = some (.own l')) (hm : m < l'.length)
    (r : rep e F H t y Pt) (nt : Pt.Nodup) (d : ∀ a ∈ Pt, a ∉ p :: O') :
    ∃ q ws, vs[i]? = some (.ref q) ∧ H q = some (.lst ws) ∧ F q = none ∧ q ∈ O' ∧ l'.length = ws.length ∧ ∃ O2, rep e F (upd H q (.lst (ws.set m y))) (.own (l.set i (.own (l'.set m t)))) (.ref p) (p :: O2) ∧ (p :: O2).Nodup ∧ ∀ a ∈ O2, a ∈ O' ++ Pt := by
  obtain ⟨y0, A, Oc, B, e1, rfl, r1, back⟩ := reps_split g hq
  obtain ⟨n0, n1⟩ := List.nodup_cons.mp n
  obtain ⟨nA, nc, nB, d1, d2, d3⟩ := nd3 n1
  simp only [rep] at r1
  obtain ⟨q, ws, O'', rfl, rfl, fq, hqq, g1⟩ := r1
  obtain ⟨O3, g3, n3, s3⟩ := own_set (m := m) fq g1 nc hm r nt fun a ha h => d a ha (by simp only [List.mem_cons, List.mem_append] at h ⊢; rcases h with z | z <;> simp [z])
  have hpq : p ≠ q := fun z => n0 (by simp [z])
  have s3' : ∀ a ∈ q :: O3, a ∈ q :: O'' ++ Pt := fun a ha => by
    rcases List.mem_cons.mp ha with z | z
    · simp [z]
    · have := s3 a z
      simp only [List.mem_append, List.mem_cons] at this ⊢
      rcases this with z | z <;> simp [z]
  have ndm : (A ++ (q :: O3) ++ B).Nodup := by
    have disj : ∀ a ∈ q :: O3, a ∉ A ∧ a ∉ B := fun a ha => by
      have := s3' a ha
      rcases List.mem_append.mp this with z | z
      · exact ⟨fun h => d1 a h z, fun h => d3 a z h⟩
      · exact ⟨fun h => d a z (by simp [h]), fun h => d a z (by simp [h])⟩
    exact nd3' n1 n3 disj
  refine ⟨q, ws, e1, hqq, fq, by simp, reps_len g1, A ++ (q :: O3) ++ B, ?_, List.nodup_cons.mpr ⟨fun z => ?_, ndm⟩, fun a ha => ?_⟩
  · simp only [rep]
    have b := back (F' := F) (H' := upd H q (.lst (ws.set m y))) (t' := .own (l'.set m t)) (x' := .ref q) (Ot' := q :: O3) Sub.rfl (fun a ha => ⟨upd_ne fun z => ?_, (reps_at g a (by rcases List.mem_append.mp ha with z | z <;> simp [z])).1⟩) (by
      simp only [rep]
      exact ⟨q, ws.set m y, O3, rfl, rfl, fq, upd_same, g3⟩)
    · rw [set_same e1] at b
      exact ⟨p, vs, A ++ (q :: O3) ++ B, rfl, rfl, fp, by rw [upd_ne hpq]; exact hp, b⟩
    · subst z
      rcases List.mem_append.mp ha with z | z
      · exact d1 a z (by simp)
      · exact d3 a (by simp) z
  · simp only [List.mem_append] at z
    rcases z with (z | z) | z
    · exact n0 (by simp [z])
    · have := s3' p z
      rcases List.mem_append.mp this with y | y
      · exact n0 (by simp only [List.mem_append]; exact .inl (.inr y))
      · exact d p y (by simp)
    · exact n0 (by simp [z])
  · simp only [List.mem_append] at ha ⊢
    rcases ha with (z | z) | z
    · simp [z]
    · have := s3' a z
      rcases List.mem_append.mp this with y | y
      · exact .inl (.inl (.inr y))
      · exact .inr y
    · simp [z]
section
variable {X : Cx} {c : Ct} {F H F1 H1 : Hp} {O O1 P P1 P2 : List Addr} {D : Ends} {τ : L2.St} {σ σ1 : List T} {k : Nat} {t : T}
theorem Mid.store2 {l l' : List T} {i m : Nat} {x y : V} {Ot Pt P' : List Addr} (md : Mid c F H O τ σ1 F1 H1 O1 P') (r0 : rep c.e F1 H1 (.own l) x Ot) (n0 : Ot.Nodup) (h0 : ∀ a ∈ Ot, a ∈ P') (hq : l[i]? = some (.own l')) (hm : m < l'.length) (hk : k < σ1.length)
    (ex : τ[k]? = some (some x)) (r : rep c.e F1 H1 t y Pt) (nt : Pt.Nodup) (hPt : ∀ a ∈ Pt, a ∈ P') (d : ∀ a ∈ Pt, a ∉ Ot) :
    ∃ p vs q ws, x = .ref p ∧ H1 p = some (.lst vs) ∧ vs[i]? = some (.ref q) ∧ H1 q = some (.lst ws) ∧ l'.length = ws.length ∧ ∃ O2, Mid c F H O τ (σ1.set k (.own (l.set i (.own (l'.set m t))))) F1 (upd H1 q (.lst (ws.set m y))) O2 [] := by
  simp only [rep] at r0
  obtain ⟨p, vs, O', rfl, rfl, fp, hp, g⟩ := r0
  obtain ⟨q, ws, e1, hqq, fq, qm, hl, O2, r2, n2, s2⟩ := own_set2 fp hp md.st.sub g n0 hq hm r nt d
  have nP := (List.nodup_append.mp md.nd).2.1
  have al : Alc F1 H1 P' F1 (upd H1 q (.lst (ws.set m y))) (p :: O2 ++ []) := Alc.wr md.st.sub (h0 q (by simp [qm])) fq nP (by simpa using n2) fun a ha => by
    rcases List.mem_cons.mp (by simpa using ha) with z | z
    · exact h0 a (by simp [z])
    · rcases List.mem_append.mp (s2 a z) with z | z
      · exact h0 a (by simp [z])
      · exact hPt a z
  obtain ⟨O3, m3⟩ := (md.alc al).fill (P1 := p :: O2) (P2 := []) hk ex r2 (by simpa using n2) fun _ h => h
  exact ⟨p, vs, q, ws, rfl, hp, e1, hqq, hl, O3, m3⟩
end
def mSet2 (k : Nat) (g1 g2 f : List T → Res T) : List T → SRes := fun σ => (f σ).sbind fun t σ1 => if live σ1 k then (g1 σ1).sbind fun u σ2 =>
    (match u, σ2[k]? with
    | .v (.int j), some (.own l) => (match ixN l.length j with
      | some i => (match l[i]? with
        | some (.own l') => (g2 (σ2.set k .hole)).sbind fun w σ3 => (match w with
          | .v (.int j2) => (match ixN l'.length j2 with
            | some m => if k < σ3.length then .nx (σ3.set k (.own (l.set i (.own (l'.set m t))))) else .stuck
            | none => .stuck)
          | _ => .stuck)
        | _ => .stuck)
      | none => .stuck)
    | _, _ => .stuck)
  else .stuck
def mAugS2 (k : Nat) (op : Int → Int → Int) (g1 g2 f : List T → Res T) : List T → SRes := fun σ => if live σ k then (g1 σ).sbind fun u σ2 =>
    (match u, σ2[k]? with
    | .v (.int j), some (.own l) => (match ixN l.length j with
      | some i => (match l[i]? with
        | some (.own l') => (g2 (σ2.set k .hole)).sbind fun w σ3 => (match w with
          | .v (.int j2) => (match ixN l'.length j2 with
            | some m => (match l'[m]? with
              | some (.v (.int a)) => (f σ3).sbind fun b σ4 => (match b with
                | .v (.int b) => if k < σ4.length then .nx (σ4.set k (.own (l.set i (.own (l'.set m (.v (.int (op a b)))))))) else .stuck
                | _ => .stuck)
              | _ => .stuck)
            | none => .stuck)
          | _ => .stuck)
        | _ => .stuck)
      | none => .stuck)
    | _, _ => .stuck)
  else .stuck
section
variable {X : Cx} {c : Ct} {k : Nat} {a b d e : Expr} {f g1 g2 : List T → Res T} {pos : Pos}
theorem atI_of {α : Type} {xs : List α} {j : Int} {i : Nat} {x : α} (h : ixN xs.length j = some i) (q : xs[i]? = some x) : atI xs j = some x := by
  unfold atI
  rw [h]
  exact q
theorem s_set2 {tpos p1 : Pos} (hK : c.e.K = X.K) (hf : PE X e (tE c f)) (ho : PE X a (tVar k)) (hi : PE X b (tE c g1)) (hj : PE X d (tE c g2)) (hpl : PlainIx b)
    (hs : swapsWithSole [.Subscript (.Subscript a b p1) d tpos] e pos.line X.env = pure false := by rfl) (hw : swappedStores [.Subscript (.Subscript a b p1) d tpos] e X.env = pure none := by rfl)
    (h1 : (assignEach [.Subscript (.Subscript a b p1) d tpos] X.env).map (·.2) = [assign (.Subscript (.Subscript a b p1) d tpos) X.env] := by rfl)
    (ha : ∀ v, assign (.Subscript (.Subscript a b p1) d tpos) X.env v = (do
      let ov ← holding [v] (eval (.Subscript a b p1) X.env)
      let iv ← holding [v, ov] (eval d X.env)
      standAt tpos
      holding [v, ov, iv] (setItem ov iv v)
      release [v, ov, iv] []) := by intro _; rfl) :
    PS X (.Assign [.Subscript (.Subscript a b p1) d tpos] e pos) (tS c (mSet2 k g1 g2 f)) := (ps_asg hf (pg_sub (pe_ix ix_list ho hi hpl) hj set_list ha) hs hw h1).wk fun D τ H h => by
  obtain ⟨F, σ, O, st, p⟩ := h
  refine Tm.mono (s_run st p) fun y H1 ⟨t, σ1, F1, O1, P1, m1, r1, p1⟩ => ?_
  split at p1
  · rename_i hl
    obtain ⟨x, ex⟩ := m1.st.val hl
    refine ⟨x, ex, Tm.mono (m1.srun (rep_some r1) (g := g1) p1) fun z H2 ⟨u, σ2, F2, O2, P2, m2, r2, s2, p2⟩ => ?_⟩
    have r1' := s2.rep r1 m1.disj
    split at p2
    · rename_i j l q
      split at p2
      · rename_i i hi
        split at p2
        · rename_i l' ql
          obtain ⟨rfl, rfl⟩ := rep_v r2
          obtain ⟨x', Ot, O3, e1, rt, m3, _⟩ := m2.lend q rfl
          rw [ex] at e1
          cases e1
          have n3 := (List.nodup_append.mp m3.nd).2.1
          have nO := (List.nodup_append.mp n3).1
          have rt0 := rt
          simp only [rep] at rt0
          obtain ⟨a0, vs, O', rfl, rfl, fp, hp, gg⟩ := rt0
          obtain ⟨y0, A, Oc, B, e2, _, rc, _⟩ := reps_split gg ql
          simp only [rep] at rc
          obtain ⟨q0, ws, O'', rfl, _⟩ := rc
          refine ⟨a0, vs, j, .ref q0, rfl, rfl, .inl (.inl hp), atI_of (by rw [← reps_len gg]; exact hi) e2, Tm.mono (m3.srun (by
            intro z hz
            rcases List.mem_append.mp hz with w | w
            · exact rep_some rt z w
            · exact rep_some r1' z (by simpa using w)) (g := g2) p2) fun z H4 ⟨w, σ3, F4, O4, P4, m4, r4, s4, p4⟩ => ?_⟩
          split at p4
          · rename_i j2
            split at p4
            · rename_i m hm
              split at p4
              · rename_i hk
                obtain ⟨rfl, rfl⟩ := rep_v r4
                have dj := m3.disj
                have rt' := s4.rep rt fun z hz => dj z (List.mem_append_left _ hz)
                have r1'' := s4.rep r1' fun z hz => dj z (by simp [hz])
                obtain ⟨p, vs', q', ws', ep, hp', e2', hq', hl', O5, m5⟩ := Mid.store2 (k := k) (m := m) m4 rt' nO (fun z hz => show z ∈ (a0 :: O') ++ ([] ++ P1) from List.mem_append_left _ hz) ql (ixN_lt hm) hk ex r1'' (List.nodup_append.mp m1.nd).2.1 (by intro z hz; simp [hz]) fun z hz hz' => (List.nodup_append.mp n3).2.2 z hz' z (by simpa using hz) rfl
                cases ep
                have hp4 : H4 a0 = some (.lst vs) := s4.keep _ _ hp (dj a0 (by simp))
                rw [hp4] at hp'
                cases hp'
                rw [e2] at e2'
                cases e2'
                exact ⟨q0, ws', j2, m, rfl, rfl, hq', by rw [← hl']; exact hm, m5.nx p4⟩
              · exact p4.elim
            · exact p4.elim
          · exact p4.elim
        · exact p2.elim
      · exact p2.elim
    · exact p2.elim
  · exact p1.elim
theorem s_augS2 {op : Operator} {oi : Int → Int → Int} {tpos p1 : Pos} (hK : c.e.K = X.K) (ho : PE X a (tVar k)) (hi : PE X b (tE c g1)) (hpl : PlainIx b) (hj : PE X d (tE c g2)) (he : PE X e (tE c f)) (hp : PIp X op (ipI oi))
    (ha : ∀ ov iv new, augStore d ov iv new = (do holding [new, ov, iv] (setItem ov iv new); release [new, ov, iv] []; pure .next) := by intros; rfl) :
    PS X (.AugAssign (.Subscript (.Subscript a b p1) d tpos) op e pos) (tS c (mAugS2 k oi g1 g2 f)) := (ps_augS (pe_ix ix_list ho hi hpl) hj get_list he hp set_list ha).wk fun D τ H h => by
  obtain ⟨F, σ, O, st, p⟩ := h
  unfold mAugS2 at p
  split at p
  · rename_i hl
    obtain ⟨x, ex⟩ := st.val hl
    refine ⟨x, ex, Tm.mono (s_run st p) fun z H2 ⟨u, σ2, F2, O2, P2, m2, r2, p2⟩ => ?_⟩
    split at p2
    · rename_i j l q
      split at p2
      · rename_i i hi
        split at p2
        · rename_i l' ql
          obtain ⟨rfl, rfl⟩ := rep_v r2
          obtain ⟨x', Ot, O3, e1, rt, m3, _⟩ := m2.lend q rfl
          rw [ex] at e1
          cases e1
          have n3 := (List.nodup_append.mp m3.nd).2.1
          have nO := (List.nodup_append.mp n3).1
          have rt0 := rt
          simp only [rep] at rt0
          obtain ⟨a0, vs, O', rfl, rfl, fp, hp, gg⟩ := rt0
          obtain ⟨y0, A, Oc, B, e2, eO, rc, _⟩ := reps_split gg ql
          simp only [rep] at rc
          obtain ⟨q0, ws, O'', rfl, rfl, fq, hq0, gc⟩ := rc
          refine ⟨a0, vs, j, .ref q0, rfl, rfl, .inl (.inl hp), atI_of (by rw [← reps_len gg]; exact hi) e2, Tm.mono (m3.srun (by
            intro z hz
            exact rep_some rt z (by simpa using hz)) (g := g2) p2) fun z H4 ⟨w, σ3, F4, O4, P4, m4, r4, s4, p4⟩ => ?_⟩
          split at p4
          · rename_i j2
            split at p4
            · rename_i m hm
              split at p4
              · rename_i va qa
                obtain ⟨rfl, rfl⟩ := rep_v r4
                have dj := m3.disj
                have rt' := s4.rep rt fun z hz => dj z (by simp [hz])
                have hp4 : H4 a0 = some (.lst vs) := s4.keep _ _ hp (dj a0 (by simp))
                have hq4 : H4 q0 = some (.lst ws) := s4.keep _ _ hq0 (dj q0 (by rw [eO]; simp))
                obtain ⟨y1, _, _, _, e3, _, rv, _⟩ := reps_split gc qa
                obtain ⟨rfl, _⟩ := rep_v rv
                refine ⟨q0, ws, j2, _, rfl, rfl, .inl (.inl hq4), atI_of (by rw [← reps_len gc]; exact hm) e3, Tm.mono (m4.srun (by
                  intro z hz
                  exact rep_some rt' z (by simpa using hz)) (g := f) p4) fun z H5 ⟨w5, σ5, F5, O5, P5, m5, r5, s5, p5⟩ => ?_⟩
                split at p5
                · rename_i vb
                  split at p5
                  · rename_i hk
                    obtain ⟨rfl, rfl⟩ := rep_v r5
                    have dj4 := m4.disj
                    have rt5 := s5.rep rt' fun z hz => dj4 z (by simpa using hz)
                    obtain ⟨p, vs', q', ws', ep, hp', e2', hq', hl', O6, m6⟩ := Mid.store2 (k := k) (m := m) (t := .v (.int (oi va vb))) (y := .int (oi va vb)) (Pt := []) m5 rt5 nO (by intro z hz; simpa using hz) ql (ixN_lt hm) hk ex rep_v' (by simp) (by simp) (by simp)
                    cases ep
                    have hp5 : H5 a0 = some (.lst vs) := s5.keep _ _ hp4 (dj4 a0 (by simp))
                    rw [hp5] at hp'
                    cases hp'
                    rw [e2] at e2'
                    cases e2'
                    refine ⟨va, vb, rfl, rfl, ?_⟩
                    exact ⟨q0, ws', j2, m, rfl, rfl, hq', by rw [← hl']; exact hm, m6.nx p5⟩
                  · exact p5.elim
                · exact p5.elim
              · exact p4.elim
            · exact p4.elim
          · exact p4.elim
        · exact p2.elim
      · exact p2.elim
    · exact p2.elim
  · exact p.elim
end
end MV

namespace MV
open PySem PySem.Spec PyProof.Rows L2

/-! ## sum of a list or a tuple of ints -/
def rSumT (K : PySem.W.Frag) : List V → Hp → VK → Prop := fun vs H Q => ∃ (a : Addr) (ns : List Int), vs = [V.ref a] ∧ SqT K H a (ns.map V.int) ∧ Q (.int ns.sum) H
def rSumA (K : PySem.W.Frag) : List V → Hp → VK → Prop := fun vs H Q => rSum K vs H Q ∨ rSumT K vs H Q
section
variable {X : Cx}
theorem call_sumT (hc : X.calm = true) : CallR X (.builtin "sum") (rSumT X.K) := by
  intro pins s σ H vs us Q I r h
  obtain ⟨a, ns, rfl, ht, q⟩ := h
  obtain ⟨its, rv, it, _⟩ := I.tuple ht
  rw [Vals.ref1 r]
  have hi := rv.ints
  have it' : s.heap.IsTuple a its.toArray := it
  obtain ⟨xs, hx⟩ := hi.allInts.items
  have hn : numsOf its = ns := hi.numsOf
  have hn2 : numsOf (its.toArray).toList = ns := hn
  rw [hx] at it' hn2
  rw [nums_intItems] at hn2
  refine PySem.W.ktm_sumG (I.ok.hd hc) it' fun h' tk t' hk => ⟨.int ns.sum, H, I.kept hk, ⟨t', ?_⟩, q⟩
  rw [preSum_eq, List.take_of_length_le (by simp), hn2]
theorem call_sumA (hc : X.calm = true) : CallR X (.builtin "sum") (rSumA X.K) := fun pins s σ H vs us Q I r h =>
  h.elim (cr_sum hc pins s σ H vs us Q I r) (call_sumT hc pins s σ H vs us Q I r)
end
def sSumA : List T → Option T
  | [.tup l] => (intsT l).map fun ns => .v (.int ns.sum)
  | l => sSum l
theorem okc_sumA {e : En} {K : PySem.W.Frag} (hK : e.K = K) : CallOk e (rSumA K) sSumA := by
  intro F H P l w vs Q sb r n hs k
  unfold sSumA at hs
  split at hs
  · rename_i l
    obtain ⟨x, rfl, rx⟩ := reps1 r
    cases q : intsT l with
    | none => rw [q] at hs; cases hs
    | some ns =>
      rw [q] at hs
      cases hs
      obtain ⟨_, a, ys, rfl, ht, ry⟩ := rep_tup rx
      have := intsT_ok ry q
      subst this
      exact .inr ⟨a, ns, rfl, by rw [← hK]; exact sb.sqt ht, k F H _ [] (Alc.rfl sb List.nodup_nil (by simp)) rep_v'⟩
  · exact .inl (okc_sum hK F H P l w vs Q sb r n hs k)
end MV

namespace MV
open PySem PySem.Spec PyProof.Rows L2

/-! ## fn_mv, with the mirror by name -/
section
variable {P : Program} {w : World} {K : PySem.W.Frag} {mg : Str → Option Value} {base : Heap}
theorem fn_mvX {x qual : Str} {st : Stmt} {f : Addr} {fd : FuncData} {N ps : List Str} {k : Nat} {m : List T → FRes} (body : List T → SRes) (hm : m = mFn N.length false body) (Fn : Fun K x qual st f fd) (S : FnScope N ps (defScope st)) (hN : ps.length ≤ N.length)
    (hb : ∀ (cdv : Value) (A : Around) (outer : List Env) (s : Shared) (H : Hp) (E : XK), Room k (A.deeper (envOfC qual (defScope st) s.heap.objs.size f cdv)) →
      PSs (cxOf (L2.CX P w) P w K mg base N qual (defScope st) f cdv A outer s H E) (defBody st) (tS (ctOf K mg none E) body)) :
    FnOk P w K mg base (L2.CX P w) (k + 1) f fd ps (spM ⟨K, mg, none⟩ ps.length m) := by
  subst hm
  exact fn_mv body Fn S hN hb
theorem fn_mvBX {x qual : Str} {st : Stmt} {f : Addr} {fd : FuncData} {N ps : List Str} {k : Nat} {m : List T → FRes} (body : List T → SRes) (hm : m = mFn N.length true body) (Fn : Fun K x qual st f fd) (S : FnScope N ps (defScope st)) (hN : ps.length ≤ N.length) (h0 : 0 < ps.length)
    (hb : ∀ (cdv : Value) (A : Around) (outer : List Env) (s : Shared) (H : Hp) (E : XK) (v0 : V), Room k (A.deeper (envOfC qual (defScope st) s.heap.objs.size f cdv)) →
      PSs (cxOf (L2.CX P w) P w K mg base N qual (defScope st) f cdv A outer s H E) (defBody st) (tS (ctOf K mg (some v0) E) body)) :
    FnOk P w K mg base (L2.CX P w) (k + 1) f fd ps (spM ⟨K, mg, none⟩ ps.length m) := by
  subst hm
  exact fn_mvB body Fn S hN h0 hb
end
end MV

namespace MV
open PySem PySem.Spec PyProof.Rows L2

/-! ## The end of a law -/
def spL (K : PySem.W.Frag) : Sp := fun vs H Q _ => ∃ (a : Addr) (ns : List Int), vs = [.ref a] ∧ SqL K H a (ns.map V.int) ∧ ns.length ≤ 63 ∧ ∀ H', Q (.bl true) H'
/-- the plain law of a mirror -/
def Plain (m : List T → FRes) : Prop := ∀ ns : List Int, ns.length ≤ 63 → ∃ b, m [.kl (ns.map fun n => .v (.int n))] = .ok (.v (.bl true)) b
theorem reps_ints {e : En} {F H : Hp} : ∀ ns : List Int, reps e F H (ns.map fun n => T.v (.int n)) (ns.map V.int) []
  | [] => by simp [reps]
  | n :: ns => by
    simp only [List.map_cons, reps]
    exact ⟨.int n, ns.map V.int, [], [], rfl, rfl, rep_v', reps_ints ns⟩
theorem plain_sp {K : PySem.W.Frag} {mg : Str → Option Value} {m : List T → FRes} (h : Plain m) {x : Str} (vs : List V) (H : Hp) (Q : VK) (E : XK) (hs : spL K vs H Q E) : spM ⟨K, mg, none⟩ ([x] : List Str).length m vs H Q E := by
  obtain ⟨a, ns, rfl, hS, hl, q⟩ := hs
  obtain ⟨b, hb⟩ := h ns hl
  refine ⟨rfl, H, [.kl (ns.map fun n => .v (.int n))], [], ?_, List.nodup_nil, Sub.rfl, ?_⟩
  · simp only [reps]
    refine ⟨.ref a, [], [], [], rfl, rfl, ?_, rfl, rfl⟩
    simp only [rep]
    exact ⟨trivial, a, ns.map V.int, rfl, hS, reps_ints ns⟩
  · rw [hb]
    intro F' H' x P Pb sb r1 r2 n st
    obtain ⟨rfl, _⟩ := rep_v r1
    exact q H'
theorem exm_mk {K : PySem.W.Frag} {a b : Addr} {v : Bool} {ci : PySem.ClassData} (e : PySem.W.subIn K (.ref b) (.type "BaseException") = some true) (c : PySem.W.clsIn K b = some ci) (t : PySem.W.typeIn K (.ref b) = some (.type "type")) (s : PySem.W.subIn K (.ref a) (.ref b) = some v) :
    PySem.W.exmOne K (.ref a) (.ref b) = some v := by
  unfold PySem.W.exmOne PySem.W.kitCls
  simp [e, c, t, s]
theorem cx_no {P : Program} (w : World) (H : Hp) (s : Shared) (e : Value) (s' : Shared) (h : L2.CX P w [] H s (fun _ _ _ => False) e s') : False := by
  obtain ⟨_, _, _, _, _, _, _, _, _, _, _, _, z⟩ := h
  exact z
end MV

namespace MV
open PySem PySem.Spec PyProof.Rows L2

/-! ## The same words, quick for the kernel -/
noncomputable section
def lget {α : Type} (l : List α) : Nat → Option α := List.rec (motive := fun _ => Nat → Option α) (fun _ => none) (fun a _ ih n => Nat.rec (motive := fun _ => Option α) (some a) (fun m _ => ih m) n) l
def lset {α : Type} (t : α) (l : List α) : Nat → List α := List.rec (motive := fun _ => Nat → List α) (fun _ => []) (fun a r ih n => Nat.rec (motive := fun _ => List α) (t :: r) (fun m _ => a :: ih m) n) l
theorem lget_eq {α : Type} : ∀ (l : List α) (n : Nat), lget l n = l[n]?
  | [], n => by simp [lget]
  | a :: r, 0 => rfl
  | a :: r, n + 1 => by
    have := lget_eq r n
    rw [List.getElem?_cons_succ, ← this]
    rfl
theorem lset_eq {α : Type} (t : α) : ∀ (l : List α) (n : Nat), lset t l n = l.set n t
  | [], n => by simp [lset]
  | a :: r, 0 => rfl
  | a :: r, n + 1 => by
    have := lset_eq t r n
    rw [List.set_cons_succ, ← this]
    rfl
def fzq : T → T
  | .v x => .v x
  | .lst x => .lst x
  | t => fz t
theorem fzq_eq : ∀ t : T, fzq t = fz t := fun t => by cases t <;> simp only [fzq, fz]
def fzsq (l : List T) : List T := List.rec (motive := fun _ => List T) [] (fun a _ ih => fzq a :: ih) l
theorem fzsq_eq : ∀ l : List T, fzsq l = fzs l
  | [] => by simp [fzsq, fzs]
  | a :: r => by
    have := fzsq_eq r
    simp only [fzs]
    rw [← this, ← fzq_eq]
    rfl
theorem get_set {α : Type} {l : List α} {i : Nat} {t : α} (h : l[i]? = some t) : l.set i t = l := set_same h
def fVar (i : Nat) : List T → Res T := fun σ => match lget σ i with
  | some (.v x) => .ok (.v x) σ
  | some (.lst x) => .ok (.lst x) σ
  | some (.own l) => .ok (.lst (fzsq l)) (lset (.lst (fzsq l)) σ i)
  | some _ => mVar i σ
  | none => .stuck
theorem fVar_eq (i : Nat) : fVar i = mVar i := by
  funext σ
  unfold fVar mVar
  simp only [lget_eq, lset_eq, fzsq_eq]
  cases q : σ[i]? with
  | none => rfl
  | some t => cases t <;> simp [T.isHole, fz, get_set q]
def fN (i : Nat) : T → List T → Option (List T) := fun t σ => match lget σ i with
  | some _ => some (lset t σ i)
  | none => none
theorem if_lt {α β : Type} {σ : List α} {k : Nat} {A B : β} : (match lget σ k with | some _ => A | none => B) = if k < σ.length then A else B := by
  rw [lget_eq]
  by_cases h : k < σ.length
  · simp [h]
  · simp [h]
theorem fN_eq (i : Nat) : fN i = wN i := by
  funext t σ
  unfold fN wN
  rw [← if_lt, lset_eq]
  cases lget σ i <;> rfl
def ixF {α : Type} (l : List α) (j : Int) : Option Nat := match j with
  | .ofNat n => (match lget l n with | some _ => some n | none => none)
  | j => ixN l.length j
theorem ixF_eq {α : Type} (l : List α) (j : Int) : ixF l j = ixN l.length j := by
  cases j with
  | ofNat n =>
    show (match lget l n with | some _ => some n | none => none) = ixN l.length (Int.ofNat n)
    unfold ixN
    rw [if_pos (show (0 : Int) ≤ Int.ofNat n from Int.natCast_nonneg n)]
    simp only [lget_eq]
    by_cases h : n < l.length
    · simp [h]
    · simp [h]
  | negSucc n => rfl
def atF {α : Type} (l : List α) (j : Int) : Option α := match j with
  | .ofNat n => lget l n
  | j => atI l j
theorem atF_eq {α : Type} (l : List α) (j : Int) : atF l j = atI l j := by
  cases j with
  | ofNat n =>
    unfold atF atI
    rw [← ixF_eq]
    unfold ixF
    simp only [lget_eq]
    cases q : l[n]? with
    | none => simp
    | some x => simp [q]
  | negSucc n => rfl
def liveF (σ : List T) (i : Nat) : Bool := match lget σ i with
  | some t => !t.isHole
  | none => false
theorem liveF_eq (σ : List T) (i : Nat) : liveF σ i = live σ i := by
  unfold liveF live
  rw [lget_eq]
  all_goals cases σ[i]? <;> rfl
def fIxN (i : Nat) (g : List T → Res T) : List T → Res T := fun σ => match liveF σ i with
  | true => (g σ).bind fun u σ1 => (match u, lget σ1 i with
    | .v (.int k), some (.lst l) => (match atF l k with
      | some w => .ok w σ1
      | none => .stuck)
    | .v (.int k), some (.own l) => (match ixF l k with
      | some j => (match lget l j with
        | some (.v x) => .ok (.v x) σ1
        | some (.lst x) => .ok (.lst x) σ1
        | some w => .ok (fz w) (lset (.own (lset (fz w) l j)) σ1 i)
        | none => .stuck)
      | none => .stuck)
    | .v (.int k), some t => (match t.isHole with
      | true => .stuck
      | false => (match ixT t k with
        | some (w, t') => .ok w (lset t' σ1 i)
        | none => .stuck))
    | _, _ => .stuck)
  | false => .stuck
theorem fIxN_eq (i : Nat) (g : List T → Res T) : fIxN i g = mIxN i g := by
  funext σ
  unfold fIxN mIxN
  rw [liveF_eq]
  cases live σ i with
  | false => rfl
  | true =>
    simp only [if_true]
    cases g σ with
    | stuck => rfl
    | exc _ _ _ _ => rfl
    | ok u σ1 =>
      simp only [Res.bind]
      cases u with
      | v c =>
        cases c with
        | int k =>
          simp only [lget_eq, lset_eq]
          cases q : σ1[i]? with
          | none => rfl
          | some t =>
            cases t with
            | lst l =>
              simp only [T.isHole, Bool.false_eq_true, if_false, ixT, sIx, atF_eq]
              cases atI l k with
              | none => rfl
              | some w => simp [get_set q]
            | own l =>
              simp only [T.isHole, Bool.false_eq_true, if_false, ixT, ixF_eq]
              cases ixN l.length k with
              | none => rfl
              | some j =>
                simp only []
                cases q2 : l[j]? with
                | none => rfl
                | some w => cases w <;> simp [fz, get_set q2, get_set q]
            | hole => rfl
            | v _ => simp only [T.isHole]; rfl
            | tup _ => simp only [T.isHole]; rfl
            | kl _ => simp only [T.isHole]; rfl
            | ins _ _ _ => simp only [T.isHole]; rfl
            | oin _ _ _ => simp only [T.isHole]; rfl
            | xc _ _ _ => simp only [T.isHole]; rfl
        | _ => rfl
      | _ => rfl
def bigB : Nat := 2037035976334486086268445688409378161051468393665936250636140449354381299763336706183397376
theorem bigB_log {n : Nat} (h : Nat.ble n bigB = true) : n.log2 < 301 := by
  have h1 : n ≤ bigB := Nat.le_of_ble_eq_true h
  by_cases h0 : n = 0
  · subst h0; decide
  · refine (Nat.log2_lt h0).mpr (Nat.lt_of_le_of_lt h1 ?_)
    decide +kernel
def fMul : OS := iOp fun i j => match Nat.ble i.natAbs bigB, Nat.ble j.natAbs bigB with
  | true, true => some (.int (i * j))
  | _, _ => if mulB i j then some (.int (i * j)) else none
theorem fMul_eq : fMul = sMul := by
  unfold fMul sMul
  congr 1
  funext i j
  cases h1 : Nat.ble i.natAbs bigB with
  | false => rfl
  | true =>
    cases h2 : Nat.ble j.natAbs bigB with
    | false => rfl
    | true =>
      have a := bigB_log h1
      have b := bigB_log h2
      have : mulB i j = true := by unfold mulB; simp only [decide_eq_true_eq]; omega
      simp [this]
def fDiv : OS := iOp fun i j => match decide (0 < j), Nat.ble j.natAbs bigB with
  | true, true => some (.int (i / j))
  | _, _ => if divB i j then some (.int (i / j)) else none
theorem fDiv_eq : fDiv = sDiv := by
  unfold fDiv sDiv
  congr 1
  funext i j
  cases h1 : decide (0 < j) with
  | false => rfl
  | true =>
    cases h2 : Nat.ble j.natAbs bigB with
    | false => rfl
    | true =>
      have b := bigB_log h2
      have : divB i j = true := by
        unfold divB
        rw [h1]
        simp only [Bool.true_and, decide_eq_true_eq]
        omega
      simp [this]
def fTimes : OS := sOr fMul sRep
theorem fTimes_eq : fTimes = sTimes := by unfold fTimes sTimes; rw [fMul_eq]
def fEq : OS := fun t u => match t, u with
  | .v (.int i), .v (.int j) => some (.v (.bl (decide (i = j))))
  | t, u => sEq t u
theorem eqT_int (i j : Int) : eqT (.v (.int i)) (.v (.int j)) = some (decide (i = j)) := by
  have h : (PyData.int i).eqv (PyData.int j) = decide (i = j) := by first | rfl | simp [PyData.eqv]
  simp [eqT, toD, SeqAt.shaped, h, PyData.canLay0, PyData.depth]
theorem fEq_eq : fEq = sEq := by
  funext t u
  unfold fEq
  split
  · unfold sEq; rw [eqT_int]; rfl
  · rfl
def fNe : OS := fun t u => match t, u with
  | .v (.int i), .v (.int j) => some (.v (.bl (!decide (i = j))))
  | t, u => sNe t u
theorem fNe_eq : fNe = sNe := by
  funext t u
  unfold fNe
  split
  · unfold sNe; rw [eqT_int]; rfl
  · rfl
def stoF (σ : List T) (k : Nat) (t : T) : SRes := match lget σ k with
  | some _ => .nx (lset t σ k)
  | none => .stuck
theorem stoF_eq (σ : List T) (k : Nat) (t : T) : stoF σ k t = if k < σ.length then .nx (σ.set k t) else .stuck := by
  unfold stoF
  rw [lset_eq, ← if_lt]
  cases lget σ k <;> rfl
def fIx : OS := fun t u => match u with
  | .v (.int (.ofNat n)) => (match t with
    | .tup l => lget l n
    | .lst l => lget l n
    | .own l => lget l n
    | t => sIx t u)
  | u => sIx t u
theorem fIx_eq : fIx = sIx := by
  funext t u
  unfold fIx
  split
  · rename_i n
    split
    · rename_i l
      show lget l n = atI l (Int.ofNat n)
      rw [← atF_eq]; rfl
    · rename_i l
      show lget l n = atI l (Int.ofNat n)
      rw [← atF_eq]; rfl
    · rename_i l
      show lget l n = atI l (Int.ofNat n)
      rw [← atF_eq]; rfl
    · rfl
  · rfl
def fAugN (k : Nat) (op : Int → Int → Int) (f : List T → Res T) : List T → SRes := fun σ =>
  match lget σ k with
  | some (.v (.int i)) => (f σ).sbind fun u σ1 => (match u with
    | .v (.int j) => stoF σ1 k (.v (.int (op i j)))
    | _ => .stuck)
  | _ => .stuck
theorem fAugN_eq (k : Nat) (op : Int → Int → Int) (f : List T → Res T) : fAugN k op f = mAugN k op f := by
  funext σ
  unfold fAugN mAugN
  simp only [stoF_eq]
  simp only [lget_eq]
  all_goals rfl
def fAugS (k : Nat) (op : Int → Int → Int) (g f : List T → Res T) : List T → SRes := fun σ => if liveF σ k then (g σ).sbind fun u σ1 =>
    (match u, lget σ1 k with
    | .v (.int j), some (.own l) => (match atF l j with
      | some (.v (.int i)) => (f σ1).sbind fun w σ2 => (match w, lget σ2 k with
        | .v (.int i2), some (.own l2) => (match ixF l2 j with
          | some m => .nx (lset (.own (lset (.v (.int (op i i2))) l2 m)) σ2 k)
          | none => .stuck)
        | _, _ => .stuck)
      | _ => .stuck)
    | _, _ => .stuck)
  else .stuck
theorem fAugS_eq (k : Nat) (op : Int → Int → Int) (g f : List T → Res T) : fAugS k op g f = mAugS k op g f := by
  funext σ
  unfold fAugS mAugS
  simp only [liveF_eq, lget_eq, lset_eq, atF_eq, ixF_eq]
  all_goals rfl
def fAugS2 (k : Nat) (op : Int → Int → Int) (g1 g2 f : List T → Res T) : List T → SRes := fun σ => if liveF σ k then (g1 σ).sbind fun u σ2 =>
    (match u, lget σ2 k with
    | .v (.int j), some (.own l) => (match ixF l j with
      | some i => (match lget l i with
        | some (.own l') => (g2 (lset .hole σ2 k)).sbind fun w σ3 => (match w with
          | .v (.int j2) => (match ixF l' j2 with
            | some m => (match lget l' m with
              | some (.v (.int a)) => (f σ3).sbind fun b σ4 => (match b with
                | .v (.int b) => stoF σ4 k (.own (lset (.own (lset (.v (.int (op a b))) l' m)) l i))
                | _ => .stuck)
              | _ => .stuck)
            | none => .stuck)
          | _ => .stuck)
        | _ => .stuck)
      | none => .stuck)
    | _, _ => .stuck)
  else .stuck
theorem fAugS2_eq (k : Nat) (op : Int → Int → Int) (g1 g2 f : List T → Res T) : fAugS2 k op g1 g2 f = mAugS2 k op g1 g2 f := by
  funext σ
  unfold fAugS2 mAugS2
  simp only [stoF_eq, liveF_eq, lset_eq, ixF_eq]
  simp only [lget_eq]
  all_goals rfl
def fSetN (k : Nat) (g f : List T → Res T) : List T → SRes := fun σ => (f σ).sbind fun t σ1 => if liveF σ1 k then (g σ1).sbind fun u σ2 =>
    (match u, lget σ2 k with
    | .v (.int j), some (.own l) => (match ixF l j with
      | some m => .nx (lset (.own (lset t l m)) σ2 k)
      | none => .stuck)
    | _, _ => .stuck)
  else .stuck
theorem fSetN_eq (k : Nat) (g f : List T → Res T) : fSetN k g f = mSetN k g f := by
  funext σ
  unfold fSetN mSetN
  simp only [liveF_eq, lget_eq, lset_eq, ixF_eq]
  all_goals rfl
/-! their rules -/
section
variable {X : Cx} {c : Ct} {a b d e : Expr} {f g g1 g2 : List T → Res T} {i k : Nat} {p p2 pos : Pos} {en : En}
theorem e_varF (h : PE X a (tVar i)) : PE X a (tE c (fVar i)) := by rw [fVar_eq]; exact e_var h
theorem e_ixNF (hK : c.e.K = X.K) (ha : PE X a (tVar i)) (hb : PE X b (tE c g)) (hs : PlainIx b) : PE X (.Subscript a b pos) (tE c (fIxN i g)) := by rw [fIxN_eq]; exact e_ixN hK ha hb hs
theorem g_nameF (ok : slotOk c i) {tg : Expr} (h : PG X tg (gName i)) : PG X tg (tG c [i] (fN i)) := by rw [fN_eq]; exact g_name ok h
theorem ok_ixF {K : PySem.W.Frag} (hK : en.K = K) : OpOk en (rIx K) fIx := by rw [fIx_eq]; exact ok_ix hK
theorem ok_mulF : OpOk en (rI CMulW fun i j => .int (i * j)) fMul := by rw [fMul_eq]; exact ok_mul
theorem ok_divF : OpOk en (rI CDivW fun i j => .int (i / j)) fDiv := by rw [fDiv_eq]; exact ok_div
theorem ok_timesF : OpOk en (rOr (rI CMulW fun i j => .int (i * j)) rRep) fTimes := by rw [fTimes_eq]; exact ok_times
theorem ok_eqF {K : PySem.W.Frag} (hK : en.K = K) : OpOk en (rEqD K) fEq := by rw [fEq_eq]; exact ok_eq hK
theorem ok_neF {K : PySem.W.Frag} (hK : en.K = K) : OpOk en (rNeD K) fNe := by rw [fNe_eq]; exact ok_ne hK
theorem s_setF {x : Str} {pos' : Pos} (ok : slotOk c i) (hN : X.N.Nodup) (hi : X.N[i]? = some x) (hx : Loc X.env.scope x) (he : PE X e (tE c f)) (hs : swapsWith e (some (.Name x pos')) pos.line X.env = pure false := by rfl)
    (hf : X.fn x = true ∨ X.env.scope.names.lookup x = some .local := by first | exact .inl rfl | exact .inr rfl | assumption) : PS X (.Assign [.Name x pos'] e pos) (tS c (mAsg f (fN i))) := by
  rw [fN_eq]
  exact s_set ok hN hi hx he hs hf
theorem s_augNF {x : Str} {op : Operator} {oi : Int → Int → Int} {pos' : Pos} (ok : slotOk c k) (hN : X.N.Nodup) (hi : X.N[k]? = some x) (hx : Loc X.env.scope x) (he : PE X e (tE c f)) (ho : PIp X op (ipI oi))
    (hf : X.fn x = true ∨ X.env.scope.names.lookup x = some .local := by first | exact .inl rfl | exact .inr rfl | assumption) : PS X (.AugAssign (.Name x pos') op e pos) (tS c (fAugN k oi f)) := by
  rw [fAugN_eq]
  exact s_augN ok hN hi hx he ho hf
theorem s_augSF {op : Operator} {oi : Int → Int → Int} {tpos : Pos} (hK : c.e.K = X.K) (ho : PE X a (tVar k)) (hi : PE X b (tE c g)) (he : PE X e (tE c f)) (hp : PIp X op (ipI oi))
    (ha : ∀ ov iv new, augStore b ov iv new = (do holding [new, ov, iv] (setItem ov iv new); release [new, ov, iv] []; pure .next) := by intros; rfl) :
    PS X (.AugAssign (.Subscript a b tpos) op e pos) (tS c (fAugS k oi g f)) := by
  rw [fAugS_eq]
  exact s_augS hK ho hi he hp ha
theorem s_augS2F {op : Operator} {oi : Int → Int → Int} {tpos p1 : Pos} (hK : c.e.K = X.K) (ho : PE X a (tVar k)) (hi : PE X b (tE c g1)) (hpl : PlainIx b) (hj : PE X d (tE c g2)) (he : PE X e (tE c f)) (hp : PIp X op (ipI oi))
    (ha : ∀ ov iv new, augStore d ov iv new = (do holding [new, ov, iv] (setItem ov iv new); release [new, ov, iv] []; pure .next) := by intros; rfl) :
    PS X (.AugAssign (.Subscript (.Subscript a b p1) d tpos) op e pos) (tS c (fAugS2 k oi g1 g2 f)) := by
  rw [fAugS2_eq]
  exact s_augS2 hK ho hi hpl hj he hp ha
end
end
end MV

namespace MV
open PySem PySem.Spec PyProof.Rows L2

/-! ## Steps, as equations -/
section
variable {f g : List T → Res T} {m k : List T → SRes} {σ σ1 σ2 : List T} {t : T} {i : Nat} {l l1 : List T}
theorem seq_nx (h : m σ = .nx σ1) : mSeq m k σ = k σ1 := by unfold mSeq; rw [h]; rfl
theorem ex_ok (h : f σ = .ok t σ1) : mEx f σ = .nx σ1 := by unfold mEx; rw [h]; rfl
theorem asg_ok {w : T → List T → Option (List T)} (h : f σ = .ok t σ1) (hw : w t σ1 = some σ2) : mAsg f w σ = .nx σ2 := by unfold mAsg; rw [h]; simp only [Res.sbind]; rw [hw]
theorem if_ok {b : Bool} {c : List T → Res Bool} (h : c σ = .ok b σ1) : mIf c m k σ = if b then m σ1 else k σ1 := by unfold mIf; rw [h]; rfl
theorem for_ok {it : List T → Res (List T)} {w : T → List T → Option (List T)} (h : it σ = .ok l σ1) : mFor it w m σ = forL w m l σ1 := by unfold mFor; rw [h]; rfl
theorem app_ok (h : σ[i]? = some (.own l)) (hf : f σ = .ok t σ1) (h1 : σ1[i]? = some (.own l1)) (hz : szB l1.length = true) : mAppN i f σ = .ok (.v .non) (σ1.set i (.own (l1 ++ [t]))) := by
  unfold mAppN
  rw [h]
  simp only []
  rw [hf]
  simp only [Res.bind]
  rw [h1]
  simp only []
  rw [if_pos hz]
theorem op2_ok {s : OS} {u w : T} (hf : f σ = .ok t σ1) (hg : g σ1 = .ok u σ2) (hs : s t u = some w) : mOp2 s f g σ = .ok w σ2 := by
  unfold mOp2
  rw [hf]
  simp only [Res.bind]
  rw [hg]
  simp only []
  rw [hs]
/-- a loop by an invariant that counts -/
theorem forL_cnt {w : T → List T → Option (List T)} (I : Nat → List T → Prop) : ∀ (items : List T) (n : Nat) (σ : List T), (∀ (j : Nat) (t : T) (σ : List T), items[j]? = some t → I (n + j) σ → ∃ σ1 σ2, w t σ = some σ1 ∧ m σ1 = .nx σ2 ∧ I (n + j + 1) σ2) → I n σ →
    ∃ σ', forL w m items σ = .nx σ' ∧ I (n + items.length) σ'
  | [], n, σ, hs, h => ⟨σ, rfl, h⟩
  | t :: r, n, σ, hs, h => by
    obtain ⟨σ1, σ2, h1, h2, h3⟩ := hs 0 t σ rfl h
    obtain ⟨σ', h4, h5⟩ := forL_cnt I r (n + 1) σ2 (fun j u τ hj hi => by
      have := hs (j + 1) u τ (by simpa using hj) (by rw [show n + (j + 1) = n + 1 + j by omega]; exact hi)
      rw [show n + (j + 1) + 1 = n + 1 + j + 1 by omega] at this
      exact this) h3
    refine ⟨σ', ?_, by rw [List.length_cons, show n + (r.length + 1) = n + 1 + r.length by omega]; exact h5⟩
    unfold forL
    rw [h1]
    simp only []
    rw [h2]
    exact h4
theorem ints_get {lo : Int} {n j : Nat} {t : T} (h : (intsFrom lo n)[j]? = some t) : j < n ∧ t = .v (.int (lo + j)) := by
  unfold intsFrom at h
  rw [List.getElem?_map] at h
  by_cases hj : j < n
  · rw [List.getElem?_range hj] at h
    cases h
    exact ⟨hj, rfl⟩
  · rw [List.getElem?_eq_none (by simpa using Nat.le_of_not_lt hj)] at h
    cases h
theorem ints_len {lo : Int} {n : Nat} : (intsFrom lo n).length = n := by simp [intsFrom]
end
theorem fMul_int {a b : Int} (h1 : a.natAbs ≤ bigB) (h2 : b.natAbs ≤ bigB) : fMul (.v (.int a)) (.v (.int b)) = some (.v (.int (a * b))) := by
  unfold fMul iOp
  simp only [Nat.ble_eq_true_of_le h1, Nat.ble_eq_true_of_le h2, Option.map_some]
theorem fTimes_int {a b : Int} (h1 : a.natAbs ≤ bigB) (h2 : b.natAbs ≤ bigB) : fTimes (.v (.int a)) (.v (.int b)) = some (.v (.int (a * b))) := by
  unfold fTimes sOr
  rw [fMul_int h1 h2]
  rfl
theorem fDiv_int {a b : Int} (h1 : 0 < b) (h2 : b.natAbs ≤ bigB) : fDiv (.v (.int a)) (.v (.int b)) = some (.v (.int (a / b))) := by
  unfold fDiv iOp
  simp only [decide_eq_true h1, Nat.ble_eq_true_of_le h2, Option.map_some]
theorem sMod_int {a b : Int} (h1 : 0 < b) : sMod (.v (.int a)) (.v (.int b)) = some (.v (.int (a % b))) := by
  unfold sMod iOp modB
  simp [h1]
theorem big_le {a : Int} {n : Nat} (h : a.natAbs ≤ n) (hn : n ≤ 10 ^ 60) : a.natAbs ≤ bigB := Nat.le_trans h (Nat.le_trans hn (by decide +kernel))

/-! ## The draws of a script -/
def dl (ds : List Int) : List T := ds.map fun n => T.v (V.int n)
def Drw (ds : List Int) : T := .own (dl ds)
noncomputable def dr1 : List T → SRes := (mIf (mBl (mOp2 sGt (fVar 3) (mC (.v (.int 0)))))
  (mSeq (mEx (mAppN 1 (mOp2 sMod (mCallB sInt (mCons (fVar 3) mNil)) (mC (.v (.int 60))))))
  (mAsg (mOp2 fDiv (fVar 3) (mC (.v (.int 60)))) (fN 3)))
  .nx)
noncomputable def dr2 : List T → SRes := (mSeq (mAsg (mOp2 sMod (mCallB sInt (mCons (mOp2 sPlus (mOp2 sPlus (mOp2 sPlus (mOp2 fTimes (fVar 5) (fVar 5)) (mOp2 fTimes (fVar 4) (mC (.v (.int 52711))))) (fVar 2)) (mC (.v (.int 5)))) mNil)) (mC (.v (.int 1073741783)))) (fN 5))
  (mEx (mAppN 1 (mOp2 fDiv (fVar 5) (mC (.v (.int 16)))))))
noncomputable def dr3 : List T → SRes := (mSeq (mAsg (mCallB sInt (mCons (fIxN 0 (fVar 2)) mNil)) (fN 3))
  (mSeq (mIf (mBl (mOp2 sLt (fVar 3) (mC (.v (.int 0)))))
  (mAsg (mOp2 sSub (mC (.v (.int 7))) (fVar 3)) (fN 3))
  .nx)
  (mIf (mBl (mOp2 sGe (fVar 3) (mOp2 sPow (mC (.v (.int 10))) (mC (.v (.int 18))))))
  (mFor (mRg1 (mC (.v (.int 50)))) (fN 4)
  dr1)
  (mSeq (mAsg (mOp2 sMod (mCallB sInt (mCons (mOp2 sPlus (mOp2 sPlus (mOp2 fTimes (fVar 3) (mC (.v (.int 75931)))) (mOp2 fTimes (fVar 2) (mC (.v (.int 30011))))) (mC (.v (.int 19)))) mNil)) (mC (.v (.int 1073741789)))) (fN 5))
  (mFor (mRg1 (mC (.v (.int 8)))) (fN 4)
  dr2)))))
noncomputable def drB : List T → SRes := (mSeq (mAsg (mLst mNil) (fN 1))
  (mSeq (mFor (mRg1 (mCallB sMin (mCons (mLenN 0) (mCons (mC (.v (.int 63))) mNil)))) (fN 2)
  dr3)
  (mRet (mRevN 1))))
noncomputable def drF : List T → FRes := mFn 6 false drB
section
variable {k p c t m : T} {ds : List Int} {b : Nat}
theorem dl_len : (dl ds).length = ds.length := by simp [dl]
theorem dl_app {x : Int} : dl ds ++ [T.v (V.int x)] = dl (ds ++ [x]) := by simp [dl]
def Pos (ds : List Int) : Prop := ∀ x ∈ ds, 0 ≤ x
theorem Pos.app {x : Int} (h : Pos ds) (hx : 0 ≤ x) : Pos (ds ++ [x]) := fun y hy => by
  rcases List.mem_append.mp hy with z | z
  · exact h y z
  · rw [List.mem_singleton.mp z]; exact hx
theorem sz_of {n : Nat} (h : n ≤ 4000) : szB n = true := by unfold szB; simp only [decide_eq_true_eq]; omega
theorem dr1_step {c : Int} (hc : 0 ≤ c) (hd : Pos ds) (hl : ds.length ≤ 4000) :
    ∃ c' ds', dr1 [k, Drw ds, p, .v (.int c), t, m] = .nx [k, Drw ds', p, .v (.int c'), t, m] ∧ 0 ≤ c' ∧ Pos ds' ∧ ds'.length ≤ ds.length + 1 := by
  have e : dr1 [k, Drw ds, p, .v (.int c), t, m] = if decide (0 < c) = true then (mSeq (mEx (mAppN 1 (mOp2 sMod (mCallB sInt (mCons (fVar 3) mNil)) (mC (.v (.int 60)))))) (mAsg (mOp2 fDiv (fVar 3) (mC (.v (.int 60)))) (fN 3))) [k, Drw ds, p, .v (.int c), t, m] else .nx [k, Drw ds, p, .v (.int c), t, m] := rfl
  rw [e]
  by_cases h : 0 < c
  · rw [if_pos (decide_eq_true h)]
    refine ⟨c / 60, ds ++ [c % 60], ?_, Int.ediv_nonneg hc (by decide), hd.app (Int.emod_nonneg _ (by decide)), by simp⟩
    refine (seq_nx (σ1 := [k, Drw (ds ++ [c % 60]), p, .v (.int c), t, m]) (ex_ok (t := .v .non) ?_)).trans ?_
    · have := app_ok (i := 1) (f := mOp2 sMod (mCallB sInt (mCons (fVar 3) mNil)) (mC (.v (.int 60)))) (σ := [k, Drw ds, p, .v (.int c), t, m]) (l := dl ds) (t := .v (.int (c % 60))) (σ1 := [k, Drw ds, p, .v (.int c), t, m]) (l1 := dl ds) rfl rfl rfl (by rw [dl_len]; exact sz_of hl)
      rw [dl_app] at this
      exact this
    · exact asg_ok (t := .v (.int (c / 60))) (σ1 := [k, Drw (ds ++ [c % 60]), p, .v (.int c), t, m]) (op2_ok (t := .v (.int c)) (u := .v (.int 60)) rfl rfl (fDiv_int (by decide) (by decide +kernel))) rfl
  · rw [if_neg (by simp [h])]
    exact ⟨c, ds, rfl, hc, hd, by omega⟩
theorem dr2_step {p4 m5 p2 : Int} (h4 : 0 ≤ p4 ∧ p4 < 100) (h2 : 0 ≤ p2 ∧ p2 < 100) (h5 : 0 ≤ m5 ∧ m5 < 10 ^ 12) (hd : Pos ds) (hl : ds.length ≤ 4000) :
    ∃ m' ds', dr2 [k, Drw ds, .v (.int p2), c, .v (.int p4), .v (.int m5)] = .nx [k, Drw ds', .v (.int p2), c, .v (.int p4), .v (.int m')] ∧ (0 ≤ m' ∧ m' < 10 ^ 12) ∧ Pos ds' ∧ ds'.length ≤ ds.length + 1 := by
  have a5 : m5.natAbs ≤ bigB := big_le (n := 10 ^ 12) (by omega) (by decide +kernel)
  have a4 : p4.natAbs ≤ bigB := big_le (n := 100) (by omega) (by decide +kernel)
  have hm : 0 ≤ (m5 * m5 + p4 * 52711 + p2 + 5) % 1073741783 := Int.emod_nonneg _ (by decide)
  have hm2 : (m5 * m5 + p4 * 52711 + p2 + 5) % 1073741783 < 1073741783 := Int.emod_lt_of_pos _ (by decide)
  refine ⟨(m5 * m5 + p4 * 52711 + p2 + 5) % 1073741783, ds ++ [(m5 * m5 + p4 * 52711 + p2 + 5) % 1073741783 / 16], ?_, ⟨hm, by omega⟩, hd.app (Int.ediv_nonneg hm (by decide)), by simp⟩
  generalize hM : (m5 * m5 + p4 * 52711 + p2 + 5) % 1073741783 = M at hm
  refine (seq_nx (σ1 := [k, Drw ds, .v (.int p2), c, .v (.int p4), .v (.int M)]) (asg_ok (t := .v (.int M)) (σ1 := [k, Drw ds, .v (.int p2), c, .v (.int p4), .v (.int m5)]) ?_ rfl)).trans (ex_ok (t := .v .non) ?_)
  · have i1 : mOp2 fTimes (fVar 5) (fVar 5) [k, Drw ds, .v (.int p2), c, .v (.int p4), .v (.int m5)] = .ok (.v (.int (m5 * m5))) [k, Drw ds, .v (.int p2), c, .v (.int p4), .v (.int m5)] := op2_ok (t := .v (.int m5)) (u := .v (.int m5)) rfl rfl (fTimes_int a5 a5)
    have i2 : mOp2 fTimes (fVar 4) (mC (.v (.int 52711))) [k, Drw ds, .v (.int p2), c, .v (.int p4), .v (.int m5)] = .ok (.v (.int (p4 * 52711))) [k, Drw ds, .v (.int p2), c, .v (.int p4), .v (.int m5)] := op2_ok (t := .v (.int p4)) (u := .v (.int 52711)) rfl rfl (fTimes_int a4 (by decide +kernel))
    have i3 := op2_ok (s := sPlus) (w := .v (.int (m5 * m5 + p4 * 52711))) i1 i2 rfl
    have i4 := op2_ok (s := sPlus) (g := fVar 2) (u := .v (.int p2)) (σ2 := [k, Drw ds, .v (.int p2), c, .v (.int p4), .v (.int m5)]) (w := .v (.int (m5 * m5 + p4 * 52711 + p2))) i3 rfl rfl
    have i5 := op2_ok (s := sPlus) (g := mC (.v (.int 5))) (u := .v (.int 5)) (σ2 := [k, Drw ds, .v (.int p2), c, .v (.int p4), .v (.int m5)]) (w := .v (.int (m5 * m5 + p4 * 52711 + p2 + 5))) i4 rfl rfl
    refine op2_ok (t := .v (.int (m5 * m5 + p4 * 52711 + p2 + 5))) (u := .v (.int 1073741783)) (σ1 := [k, Drw ds, .v (.int p2), c, .v (.int p4), .v (.int m5)]) ?_ rfl (by rw [← hM]; exact sMod_int (by decide))
    unfold mCallB mCons
    rw [i5]
    rfl
  · have := app_ok (i := 1) (f := mOp2 fDiv (fVar 5) (mC (.v (.int 16)))) (σ := [k, Drw ds, .v (.int p2), c, .v (.int p4), .v (.int M)]) (l := dl ds) (t := .v (.int (M / 16))) (σ1 := [k, Drw ds, .v (.int p2), c, .v (.int p4), .v (.int M)]) (l1 := dl ds) rfl (op2_ok (t := .v (.int M)) (u := .v (.int 16)) rfl rfl (fDiv_int (by decide) (by decide +kernel))) rfl (by rw [dl_len]; exact sz_of hl)
    rw [dl_app] at this
    exact this
theorem out1 {L : List T} {n b : Nat} {c : Int} (hc : 0 ≤ c) (hd : Pos ds) (hl : ds.length ≤ 50 * b) (hb : b < 63) :
    ∃ σ', mFor (mRg1 (mC (.v (.int 50)))) (fN 4) dr1 [k, Drw ds, p, .v (.int c), t, m] = .nx σ' ∧ ∃ c' t' ds', σ' = [k, Drw ds', p, .v (.int c'), t', m] ∧ Pos ds' ∧ ds'.length ≤ 50 * (b + 1) := by
  obtain ⟨σ', h1, c', t', ds', rfl, _, h2, h3⟩ := forL_cnt (w := fN 4) (m := dr1) (fun i σ => ∃ c' t' ds', σ = [k, Drw ds', p, .v (.int c'), t', m] ∧ 0 ≤ c' ∧ Pos ds' ∧ ds'.length ≤ 50 * b + i) (intsFrom 0 50) 0 [k, Drw ds, p, .v (.int c), t, m] (fun j u σ hj hi => by
    obtain ⟨c', t', ds', rfl, h1, h2, h3⟩ := hi
    obtain ⟨hj, rfl⟩ := ints_get hj
    obtain ⟨c2, ds2, e, q1, q2, q3⟩ := dr1_step (k := k) (p := p) (t := .v (.int (0 + (j : Int)))) (m := m) h1 h2 (by omega)
    exact ⟨[k, Drw ds', p, .v (.int c'), .v (.int (0 + (j : Int))), m], _, rfl, e, c2, _, ds2, rfl, q1, q2, by omega⟩) ⟨c, t, ds, rfl, hc, hd, by omega⟩
  refine ⟨_, (for_ok rfl).trans h1, c', t', ds', rfl, h2, ?_⟩
  rw [ints_len] at h3
  omega
theorem out2 {b : Nat} {p2 m5 : Int} (h2 : 0 ≤ p2 ∧ p2 < 100) (h5 : 0 ≤ m5 ∧ m5 < 10 ^ 12) (hd : Pos ds) (hl : ds.length ≤ 50 * b) (hb : b < 63) :
    ∃ σ', mFor (mRg1 (mC (.v (.int 8)))) (fN 4) dr2 [k, Drw ds, .v (.int p2), c, t, .v (.int m5)] = .nx σ' ∧ ∃ t' m' ds', σ' = [k, Drw ds', .v (.int p2), c, t', m'] ∧ Pos ds' ∧ ds'.length ≤ 50 * (b + 1) := by
  obtain ⟨σ', h1, t', m', ds', rfl, _, q2, q3⟩ := forL_cnt (w := fN 4) (m := dr2) (fun i σ => ∃ t' m' ds', σ = [k, Drw ds', .v (.int p2), c, t', .v (.int m')] ∧ (0 ≤ m' ∧ m' < 10 ^ 12) ∧ Pos ds' ∧ ds'.length ≤ 50 * b + i) (intsFrom 0 8) 0 [k, Drw ds, .v (.int p2), c, t, .v (.int m5)] (fun j u σ hj hi => by
    obtain ⟨t', m', ds', rfl, h1, h3, h4⟩ := hi
    obtain ⟨hj, rfl⟩ := ints_get hj
    obtain ⟨m2, ds2, e, r1, r2, r3⟩ := dr2_step (k := k) (c := c) (p4 := 0 + (j : Int)) (m5 := m') (p2 := p2) (by omega) h2 h1 h3 (by omega)
    exact ⟨[k, Drw ds', .v (.int p2), c, .v (.int (0 + (j : Int))), .v (.int m')], _, rfl, e, _, m2, ds2, rfl, r1, r2, by omega⟩) ⟨t, m5, ds, rfl, h5, hd, by omega⟩
  refine ⟨_, (for_ok rfl).trans h1, t', _, ds', rfl, q2, ?_⟩
  rw [ints_len] at q3
  omega
theorem dr3_step {ns : List Int} {b : Nat} (hb : b < ns.length) (hb2 : b < 63) (hd : Pos ds) (hl : ds.length ≤ 50 * b) :
    ∃ σ', dr3 [.kl (dl ns), Drw ds, .v (.int (b : Int)), c, t, m] = .nx σ' ∧ ∃ c' t' m' ds', σ' = [.kl (dl ns), Drw ds', .v (.int (b : Int)), c', t', m'] ∧ Pos ds' ∧ ds'.length ≤ 50 * (b + 1) := by
  have hx : (dl ns)[b]? = some (.v (.int ns[b])) := by
    unfold dl
    rw [List.getElem?_map, List.getElem?_eq_getElem hb]
    rfl
  generalize ns[b] = x at hx
  have r0 : fIxN 0 (fVar 2) [.kl (dl ns), Drw ds, .v (.int (b : Int)), c, t, m] = .ok (.v (.int x)) [.kl (dl ns), Drw ds, .v (.int (b : Int)), c, t, m] := by
    have e : fIxN 0 (fVar 2) [.kl (dl ns), Drw ds, .v (.int (b : Int)), c, t, m] = (match ixT (.kl (dl ns)) (b : Int) with
        | some (w, t') => .ok w [t', Drw ds, .v (.int (b : Int)), c, t, m]
        | none => .stuck) := rfl
    rw [e]
    have e2 : ixT (.kl (dl ns)) (b : Int) = some (.v (.int x), .kl (dl ns)) := by
      show (atI (dl ns) (b : Int)).map (fun w => (w, T.kl (dl ns))) = _
      rw [← atF_eq]
      show (lget (dl ns) b).map (fun w => (w, T.kl (dl ns))) = _
      rw [lget_eq, hx]
      rfl
    rw [e2]
  have s1 : mAsg (mCallB sInt (mCons (fIxN 0 (fVar 2)) mNil)) (fN 3) [.kl (dl ns), Drw ds, .v (.int (b : Int)), c, t, m] = .nx [.kl (dl ns), Drw ds, .v (.int (b : Int)), .v (.int x), t, m] := by
    refine asg_ok (t := .v (.int x)) (σ1 := [.kl (dl ns), Drw ds, .v (.int (b : Int)), c, t, m]) ?_ rfl
    unfold mCallB mCons
    rw [r0]
    rfl
  unfold dr3
  rw [seq_nx s1]
  have s2 : ∃ y, 0 ≤ y ∧ (mIf (mBl (mOp2 sLt (fVar 3) (mC (.v (.int 0))))) (mAsg (mOp2 sSub (mC (.v (.int 7))) (fVar 3)) (fN 3)) .nx) [.kl (dl ns), Drw ds, .v (.int (b : Int)), .v (.int x), t, m] = .nx [.kl (dl ns), Drw ds, .v (.int (b : Int)), .v (.int y), t, m] := by
    by_cases h : x < 0
    · exact ⟨7 - x, by omega, (if_ok (b := decide (x < 0)) (σ1 := [.kl (dl ns), Drw ds, .v (.int (b : Int)), .v (.int x), t, m]) rfl).trans (by rw [if_pos (decide_eq_true h)]; rfl)⟩
    · exact ⟨x, by omega, (if_ok (b := decide (x < 0)) (σ1 := [.kl (dl ns), Drw ds, .v (.int (b : Int)), .v (.int x), t, m]) rfl).trans (by rw [if_neg (by simp [h])])⟩
  obtain ⟨y, hy, s2⟩ := s2
  rw [seq_nx s2]
  have t3 : mBl (mOp2 sGe (fVar 3) (mOp2 sPow (mC (.v (.int 10))) (mC (.v (.int 18))))) [.kl (dl ns), Drw ds, .v (.int (b : Int)), .v (.int y), t, m] = .ok (decide ((10 ^ 18 : Int) ≤ y)) [.kl (dl ns), Drw ds, .v (.int (b : Int)), .v (.int y), t, m] := by
    have p1 : sPow (.v (.int 10)) (.v (.int 18)) = some (.v (.int (10 ^ 18))) := by
      show ((if powB 10 18 = true then some (V.int (10 ^ (18 : Int).toNat)) else none).map T.v) = _
      rw [if_pos (by decide +kernel)]
      rfl
    have p2 := op2_ok (s := sGe) (w := .v (.bl (decide ((10 ^ 18 : Int) ≤ y)))) (f := fVar 3) (t := .v (.int y)) (σ := [.kl (dl ns), Drw ds, .v (.int (b : Int)), .v (.int y), t, m]) (σ1 := [.kl (dl ns), Drw ds, .v (.int (b : Int)), .v (.int y), t, m]) rfl (op2_ok (s := sPow) (f := mC (.v (.int 10))) (g := mC (.v (.int 18))) rfl rfl p1) rfl
    unfold mBl
    rw [p2]
    rfl
  rw [if_ok t3]
  by_cases h : (10 ^ 18 : Int) ≤ y
  · rw [if_pos (decide_eq_true h)]
    obtain ⟨σ', e, c', t', ds', rfl, h1, h2⟩ := out1 (L := []) (n := 0) (k := .kl (dl ns)) (p := .v (.int (b : Int))) (t := t) (m := m) hy hd hl hb2
    exact ⟨_, e, _, _, _, ds', rfl, h1, h2⟩
  · rw [if_neg (by simpa using h)]
    have hy2 : y < 10 ^ 18 := Int.not_le.mp h
    have ay : y.natAbs ≤ bigB := big_le (n := 10 ^ 18) (by omega) (by decide +kernel)
    have ab : (b : Int).natAbs ≤ bigB := big_le (n := 100) (by omega) (by decide +kernel)
    have hm : 0 ≤ (y * 75931 + (b : Int) * 30011 + 19) % 1073741789 := Int.emod_nonneg _ (by decide)
    have hm2 : (y * 75931 + (b : Int) * 30011 + 19) % 1073741789 < 1073741789 := Int.emod_lt_of_pos _ (by decide)
    have i1 : mOp2 fTimes (fVar 3) (mC (.v (.int 75931))) [.kl (dl ns), Drw ds, .v (.int (b : Int)), .v (.int y), t, m] = .ok (.v (.int (y * 75931))) [.kl (dl ns), Drw ds, .v (.int (b : Int)), .v (.int y), t, m] := op2_ok (t := .v (.int y)) (u := .v (.int 75931)) rfl rfl (fTimes_int ay (by decide +kernel))
    have i2 : mOp2 fTimes (fVar 2) (mC (.v (.int 30011))) [.kl (dl ns), Drw ds, .v (.int (b : Int)), .v (.int y), t, m] = .ok (.v (.int ((b : Int) * 30011))) [.kl (dl ns), Drw ds, .v (.int (b : Int)), .v (.int y), t, m] := op2_ok (t := .v (.int (b : Int))) (u := .v (.int 30011)) rfl rfl (fTimes_int ab (by decide +kernel))
    have i3 := op2_ok (s := sPlus) (w := .v (.int (y * 75931 + (b : Int) * 30011))) i1 i2 rfl
    have i4 := op2_ok (s := sPlus) (g := mC (.v (.int 19))) (u := .v (.int 19)) (σ2 := [.kl (dl ns), Drw ds, .v (.int (b : Int)), .v (.int y), t, m]) (w := .v (.int (y * 75931 + (b : Int) * 30011 + 19))) i3 rfl rfl
    have s5 : mAsg (mOp2 sMod (mCallB sInt (mCons (mOp2 sPlus (mOp2 sPlus (mOp2 fTimes (fVar 3) (mC (.v (.int 75931)))) (mOp2 fTimes (fVar 2) (mC (.v (.int 30011))))) (mC (.v (.int 19)))) mNil)) (mC (.v (.int 1073741789)))) (fN 5) [.kl (dl ns), Drw ds, .v (.int (b : Int)), .v (.int y), t, m] = .nx [.kl (dl ns), Drw ds, .v (.int (b : Int)), .v (.int y), t, .v (.int ((y * 75931 + (b : Int) * 30011 + 19) % 1073741789))] := by
      refine asg_ok (σ1 := [.kl (dl ns), Drw ds, .v (.int (b : Int)), .v (.int y), t, m]) (op2_ok (t := .v (.int (y * 75931 + (b : Int) * 30011 + 19))) (u := .v (.int 1073741789)) (σ1 := [.kl (dl ns), Drw ds, .v (.int (b : Int)), .v (.int y), t, m]) ?_ rfl (sMod_int (by decide))) rfl
      unfold mCallB mCons
      rw [i4]
      rfl
    rw [seq_nx s5]
    obtain ⟨σ', e, t', m', ds', rfl, h1, h2⟩ := out2 (k := .kl (dl ns)) (c := .v (.int y)) (t := t) (p2 := (b : Int)) (by omega) ⟨hm, by omega⟩ hd hl hb2
    exact ⟨_, e, _, _, _, ds', rfl, h1, h2⟩
theorem fzs_dl : fzs (dl ds) = dl ds := by
  rw [fzs_map]
  unfold dl
  rw [List.map_map]
  rfl
theorem drF_ok {ns : List Int} (hn : ns.length ≤ 63) : ∃ ds, drF [.kl (dl ns)] = .ok (Drw ds) .hole ∧ Pos ds := by
  have h0 : mRg1 (mCallB sMin (mCons (mLenN 0) (mCons (mC (.v (.int 63))) mNil))) [.kl (dl ns), Drw [], .hole, .hole, .hole, .hole] = .ok (intsFrom 0 ns.length) [.kl (dl ns), Drw [], .hole, .hole, .hole, .hole] := by
    have e : mRg1 (mCallB sMin (mCons (mLenN 0) (mCons (mC (.v (.int 63))) mNil))) [.kl (dl ns), Drw [], .hole, .hole, .hole, .hole] = (if rgB (if (63 : Int) < (((dl ns).length : Nat) : Int) then 63 else (((dl ns).length : Nat) : Int)) then .ok (intsFrom 0 (if (63 : Int) < (((dl ns).length : Nat) : Int) then 63 else (((dl ns).length : Nat) : Int)).toNat) [.kl (dl ns), Drw [], .hole, .hole, .hole, .hole] else .stuck) := rfl
    have hm : (if (63 : Int) < ((ns.length : Nat) : Int) then (63 : Int) else ((ns.length : Nat) : Int)) = ((ns.length : Nat) : Int) := if_neg (by omega)
    rw [e, dl_len, hm, if_pos (by unfold rgB; simp; omega)]
    simp
  obtain ⟨σ', h1, h2⟩ := forL_cnt (w := fN 2) (m := dr3) (fun i σ => ∃ p' c' t' m' ds', σ = [.kl (dl ns), Drw ds', p', c', t', m'] ∧ Pos ds' ∧ ds'.length ≤ 50 * i) (intsFrom 0 ns.length) 0 [.kl (dl ns), Drw [], .hole, .hole, .hole, .hole] (fun j u σ hj hi => by
    obtain ⟨p', c', t', m', ds', rfl, q1, q2⟩ := hi
    obtain ⟨hj2, rfl⟩ := ints_get hj
    rw [Nat.zero_add] at q2
    have z : (0 : Int) + (j : Int) = (j : Int) := by omega
    rw [z]
    obtain ⟨σ2, e, c2, t2, m2, ds2, rfl, r1, r2⟩ := dr3_step (ds := ds') (c := c') (t := t') (m := m') hj2 (by omega) q1 q2
    exact ⟨[.kl (dl ns), Drw ds', .v (.int (j : Int)), c', t', m'], _, rfl, e, _, _, _, _, ds2, rfl, r1, by rw [Nat.zero_add]; exact r2⟩) ⟨.hole, .hole, .hole, .hole, [], rfl, fun _ h => by simp at h, by simp⟩
  obtain ⟨p', c', t', m', ds', rfl, q1, _⟩ := h2
  refine ⟨ds'.reverse, ?_, fun x hx => q1 x (List.mem_reverse.mp hx)⟩
  have e1 : drB [.kl (dl ns), .hole, .hole, .hole, .hole, .hole] = .rt (Drw ds'.reverse) [.kl (dl ns), Drw ds', p', c', t', m'] ∨ True := .inr trivial
  have b1 : mAsg (mLst mNil) (fN 1) [.kl (dl ns), .hole, .hole, .hole, .hole, .hole] = .nx [.kl (dl ns), Drw [], .hole, .hole, .hole, .hole] := rfl
  have b2 : mFor (mRg1 (mCallB sMin (mCons (mLenN 0) (mCons (mC (.v (.int 63))) mNil)))) (fN 2) dr3 [.kl (dl ns), Drw [], .hole, .hole, .hole, .hole] = .nx [.kl (dl ns), Drw ds', p', c', t', m'] := (for_ok h0).trans h1
  have b3 : ∃ σ', mRet (mRevN 1) [.kl (dl ns), Drw ds', p', c', t', m'] = .rt (.own (fzs (dl ds')).reverse) σ' := ⟨_, rfl⟩
  obtain ⟨σ3, b3⟩ := b3
  have b : drB [.kl (dl ns), .hole, .hole, .hole, .hole, .hole] = .rt (.own (fzs (dl ds')).reverse) σ3 := by
    unfold drB
    rw [seq_nx b1, seq_nx b2]
    exact b3
  have e : drF [.kl (dl ns)] = (match drB [.kl (dl ns), .hole, .hole, .hole, .hole, .hole] with
    | .nx σ => .ok (.v .non) (lentT false σ)
    | .rt t σ => .ok t (lentT false σ)
    | .exc C ns us σ => .exc C ns us (lentT false σ)
    | _ => .stuck) := rfl
  rw [e, b, fzs_dl]
  simp only [Drw, dl, List.map_reverse]
  rfl
end
end MV

namespace MV
open PySem PySem.Spec PyProof.Rows L2

/-! ## One draw taken -/
noncomputable def tkB : List T → SRes := (mSeq (mIf (mOr (mBl (mOp2 fEq (mLenN 0) (mC (.v (.int 0))))) (mBl (mOp2 sLt (fVar 1) (mC (.v (.int 1))))))
  (mRet (mC (.v (.int 0))))
  .nx)
  (mRet (mOp2 sMod (mCallB sInt (mCons (mPopN 0) mNil)) (fVar 1))))
noncomputable def tkF : List T → FRes := mFn 2 true tkB
section
variable {ds : List Int}
theorem tkB_test (n : Int) : (mOr (mBl (mOp2 fEq (mLenN 0) (mC (.v (.int 0))))) (mBl (mOp2 sLt (fVar 1) (mC (.v (.int 1)))))) [Drw ds, .v (.int n)] = .ok (decide (((dl ds).length : Int) = 0) || decide (n < 1)) [Drw ds, .v (.int n)] := by
  have e : (mOr (mBl (mOp2 fEq (mLenN 0) (mC (.v (.int 0))))) (mBl (mOp2 sLt (fVar 1) (mC (.v (.int 1)))))) [Drw ds, .v (.int n)] = if decide (((dl ds).length : Int) = 0) = true then .ok true [Drw ds, .v (.int n)] else .ok (decide (n < 1)) [Drw ds, .v (.int n)] := rfl
  rw [e]
  by_cases h : ((dl ds).length : Int) = 0
  · rw [if_pos (decide_eq_true h), decide_eq_true h, Bool.true_or]
  · rw [if_neg (by simpa using h), decide_eq_false h, Bool.false_or]
theorem tkF_eq (n : Int) : tkF [Drw ds, .v (.int n)] = (match tkB [Drw ds, .v (.int n)] with
    | .nx σ => .ok (.v .non) (lentT true σ)
    | .rt t σ => .ok t (lentT true σ)
    | .exc C ns us σ => .exc C ns us (lentT true σ)
    | _ => .stuck) := rfl
theorem tk_zero {n : Int} (h : ds = [] ∨ n < 1) : tkF [Drw ds, .v (.int n)] = .ok (.v (.int 0)) (Drw ds) := by
  have z : (decide (((dl ds).length : Int) = 0) || decide (n < 1)) = true := by
    rcases h with h | h
    · subst h; rfl
    · simp [h]
  have b : tkB [Drw ds, .v (.int n)] = .rt (.v (.int 0)) [Drw ds, .v (.int n)] := by
    unfold tkB mSeq
    rw [if_ok (tkB_test n), if_pos z]
    rfl
  rw [tkF_eq, b]
  rfl
theorem tk_some {n x : Int} (hn : 0 < n) : tkF [Drw (ds ++ [x]), .v (.int n)] = .ok (.v (.int (x % n))) (Drw ds) := by
  have z : (decide (((dl (ds ++ [x])).length : Int) = 0) || decide (n < 1)) = false := by
    simp [dl]
    omega
  have p0 : mPopN 0 [Drw (ds ++ [x]), .v (.int n)] = .ok (.v (.int x)) [Drw ds, .v (.int n)] := by
    have e : mPopN 0 [Drw (ds ++ [x]), .v (.int n)] = (match (dl (ds ++ [x]))[(dl (ds ++ [x])).length - 1]? with
      | some w => .ok w [.own (dl (ds ++ [x])).dropLast, .v (.int n)]
      | none => .stuck) := rfl
    rw [e, ← dl_app]
    simp [Drw]
  have b : tkB [Drw (ds ++ [x]), .v (.int n)] = .rt (.v (.int (x % n))) [Drw ds, .v (.int n)] := by
    unfold tkB
    have s1 : (mIf (mOr (mBl (mOp2 fEq (mLenN 0) (mC (.v (.int 0))))) (mBl (mOp2 sLt (fVar 1) (mC (.v (.int 1)))))) (mRet (mC (.v (.int 0)))) .nx) [Drw (ds ++ [x]), .v (.int n)] = .nx [Drw (ds ++ [x]), .v (.int n)] := by
      rw [if_ok (tkB_test n), if_neg (by rw [z]; decide)]
    rw [seq_nx s1]
    have s2 : mOp2 sMod (mCallB sInt (mCons (mPopN 0) mNil)) (fVar 1) [Drw (ds ++ [x]), .v (.int n)] = .ok (.v (.int (x % n))) [Drw ds, .v (.int n)] := by
      refine op2_ok (t := .v (.int x)) (u := .v (.int n)) (σ1 := [Drw ds, .v (.int n)]) ?_ rfl (sMod_int hn)
      unfold mCallB mCons
      rw [p0]
      rfl
    unfold mRet
    rw [s2]
    rfl
  rw [tkF_eq, b]
  rfl
theorem tk_ok {n : Int} (hn : 0 < n) (hd : Pos ds) : ∃ r ds', tkF [Drw ds, .v (.int n)] = .ok (.v (.int r)) (Drw ds') ∧ 0 ≤ r ∧ r < n ∧ Pos ds' := by
  rcases List.eq_nil_or_concat ds with h | ⟨l, x, h⟩
  · exact ⟨0, ds, tk_zero (.inl h), by omega, hn, hd⟩
  · subst h
    refine ⟨x % n, l, ?_, Int.emod_nonneg _ (by omega), Int.emod_lt_of_pos _ hn, fun y hy => hd y (by simp [hy])⟩
    rw [List.concat_eq_append]
    exact tk_some hn
end
end MV

namespace MV
open PySem PySem.Spec PyProof.Rows L2

/-! ## What does not look at some slots -/
def Res.mv {α : Type} (φ : List T → List T) : Res α → Res α
  | .ok a σ => .ok a (φ σ)
  | .exc C ns ts σ => .exc C ns ts (φ σ)
  | .stuck => .stuck
def SRes.mv (φ : List T → List T) : SRes → SRes
  | .nx σ => .nx (φ σ)
  | .bk σ => .bk (φ σ)
  | .ct σ => .ct (φ σ)
  | .rt t σ => .rt t (φ σ)
  | .exc C ns ts σ => .exc C ns ts (φ σ)
  | .stuck => .stuck
def Ind {α : Type} (φ : List T → List T) (f : List T → Res α) : Prop := ∀ σ, f (φ σ) = (f σ).mv φ
def IndS (φ : List T → List T) (m : List T → SRes) : Prop := ∀ σ, m (φ σ) = (m σ).mv φ
def Good (φ : List T → List T) (i : Nat) : Prop := ∀ σ : List T, (φ σ)[i]? = σ[i]? ∧ (φ σ).length = σ.length ∧ ∀ t, (φ σ).set i t = φ (σ.set i t)
section
variable {φ : List T → List T} {i : Nat} {f g : List T → Res T} {ga : List T → Res (List T)} {a b : List T → Res Bool} {m k : List T → SRes}
theorem ind_bind {α β : Type} {f : List T → Res α} {h : α → List T → Res β} (hf : Ind φ f) (hh : ∀ x, Ind φ (h x)) : Ind φ (fun σ => (f σ).bind fun x σ1 => h x σ1) := fun σ => by
  simp only [hf σ]
  cases f σ with
  | ok x σ1 => exact hh x σ1
  | exc _ _ _ _ => rfl
  | stuck => rfl
theorem ind_sbind {α : Type} {f : List T → Res α} {h : α → List T → SRes} (hf : Ind φ f) (hh : ∀ x, IndS φ (h x)) : IndS φ (fun σ => (f σ).sbind fun x σ1 => h x σ1) := fun σ => by
  simp only [hf σ]
  cases f σ with
  | ok x σ1 => exact hh x σ1
  | exc _ _ _ _ => rfl
  | stuck => rfl
theorem ind_ok {α : Type} {x : α} : Ind φ (fun σ => Res.ok x σ) := fun _ => rfl
theorem ind_stuck {α : Type} : Ind φ (fun _ => (Res.stuck : Res α)) := fun _ => rfl
theorem ind_c {t : T} : Ind φ (mC t) := fun _ => rfl
theorem ind_var (h : Good φ i) : Ind φ (fVar i) := fun σ => by
  rw [fVar_eq]
  unfold mVar
  rw [(h σ).1]
  cases σ[i]? with
  | none => rfl
  | some t =>
    simp only []
    cases t.isHole with
    | true => rfl
    | false =>
      simp only [Bool.false_eq_true, if_false, Res.mv]
      rw [(h σ).2.2]
theorem ind_nil : Ind φ mNil := fun _ => rfl
theorem ind_cons (hf : Ind φ f) (hg : Ind φ ga) : Ind φ (mCons f ga) := ind_bind hf fun x => ind_bind hg fun y => ind_ok
theorem ind_opt {α : Type} {o : Option α} : Ind φ (fun σ => match o with | some w => Res.ok w σ | none => .stuck) := fun σ => by cases o <;> rfl
theorem ind_op2 {s : OS} (hf : Ind φ f) (hg : Ind φ g) : Ind φ (mOp2 s f g) := ind_bind hf fun x => ind_bind hg fun y => fun σ => by
  cases s x y <;> rfl
theorem ind_callB {s : List T → Option T} (hg : Ind φ ga) : Ind φ (mCallB s ga) := ind_bind hg fun x => fun σ => by
  cases s x <;> rfl
theorem ind_call {F : List T → FRes} (hg : Ind φ ga) : Ind φ (mCall F ga) := ind_bind hg fun x => fun σ => by
  cases F x <;> rfl
theorem ind_lst (hg : Ind φ ga) : Ind φ (mLst ga) := ind_bind hg fun x => fun σ => by
  cases szB x.length <;> rfl
theorem ind_tup (hg : Ind φ ga) : Ind φ (mTup ga) := ind_bind hg fun x => fun σ => by
  cases szB x.length <;> rfl
theorem ind_ixN (h : Good φ i) (hg : Ind φ g) : Ind φ (fIxN i g) := fun σ => by
  rw [fIxN_eq]
  unfold mIxN
  have hl : live (φ σ) i = live σ i := by unfold live; rw [(h σ).1]
  rw [hl]
  cases live σ i with
  | false => rfl
  | true =>
    simp only [if_true]
    rw [hg σ]
    cases g σ with
    | stuck => rfl
    | exc _ _ _ _ => rfl
    | ok u σ1 =>
      simp only [Res.mv, Res.bind]
      rw [(h σ1).1]
      split
      · split
        · rfl
        · split
          · simp only [Res.mv]
            rw [(h σ1).2.2]
          · rfl
      · rfl
theorem ind_bl (hf : Ind φ f) : Ind φ (mBl f) := ind_bind hf fun x => fun σ => by
  cases x with
  | v c => cases c <;> rfl
  | _ => rfl
theorem ind_not (ha : Ind φ a) : Ind φ (mNot a) := ind_bind ha fun x => ind_ok
theorem ind_and (ha : Ind φ a) (hb : Ind φ b) : Ind φ (mAnd a b) := ind_bind ha fun x => by cases x; exact ind_ok; exact hb
theorem ind_or (ha : Ind φ a) (hb : Ind φ b) : Ind φ (mOr a b) := ind_bind ha fun x => by cases x; exact hb; exact ind_ok
theorem ind_tru (hf : Ind φ f) : Ind φ (mTru f) := ind_bind hf fun x => fun σ => by
  cases truT x <;> rfl
theorem ind_neg (hf : Ind φ f) : Ind φ (mNeg f) := ind_bind hf fun x => fun σ => by
  cases x with
  | v c => cases c <;> rfl
  | _ => rfl
theorem inds_nx : IndS φ .nx := fun _ => rfl
theorem inds_seq (hm : IndS φ m) (hk : IndS φ k) : IndS φ (mSeq m k) := fun σ => by
  unfold mSeq
  rw [hm σ]
  cases m σ with
  | nx σ1 => exact hk σ1
  | _ => rfl
theorem inds_if (ha : Ind φ a) (hm : IndS φ m) (hk : IndS φ k) : IndS φ (mIf a m k) := ind_sbind ha fun x => by cases x; exact hk; exact hm
theorem inds_asg (h : Good φ i) (hf : Ind φ f) : IndS φ (mAsg f (fN i)) := ind_sbind hf fun x => fun σ => by
  rw [fN_eq]
  unfold wN
  rw [(h σ).2.1]
  by_cases hi : i < σ.length
  · simp only [hi, if_true, SRes.mv]
    rw [(h σ).2.2]
  · simp only [hi, if_false]
    rfl
theorem inds_ret (hf : Ind φ f) : IndS φ (mRet f) := ind_sbind hf fun x => fun _ => rfl
theorem inds_ex (hf : Ind φ f) : IndS φ (mEx f) := ind_sbind hf fun x => fun _ => rfl
end
/-- some slots written -/
def wr : List (Nat × T) → List T → List T
  | [], σ => σ
  | (i, t) :: r, σ => (wr r σ).set i t
theorem wr_len : ∀ (l : List (Nat × T)) (σ : List T), (wr l σ).length = σ.length
  | [], σ => rfl
  | (i, t) :: r, σ => by simp only [wr, List.length_set]; exact wr_len r σ
theorem wr_good : ∀ (l : List (Nat × T)) (i : Nat), (∀ p ∈ l, p.1 ≠ i) → Good (wr l) i
  | [], i, h, σ => ⟨rfl, rfl, fun _ => rfl⟩
  | (j, u) :: r, i, h, σ => by
    have hj : j ≠ i := h (j, u) (by simp)
    obtain ⟨h1, h2, h3⟩ := wr_good r i (fun p hp => h p (by simp [hp])) σ
    refine ⟨?_, wr_len _ σ, fun t => ?_⟩
    · simp only [wr]
      rw [List.getElem?_set_ne hj, h1]
    · simp only [wr]
      rw [← h3 t, List.set_comm _ _ hj]
end MV

namespace G
open PySem PySem.Spec PyProof.Rows L2 MV
def topS (i : Nat) : Stmt := PySem.Challenge.pw_minusless_k49_sums_count_stairs.main.body.getD i (.Pass ⟨0, 0, 0, 0⟩)
abbrev s_is_plain_integer : Stmt := topS 4
theorem sc_is_plain_integer : FnScope ["value"] ["value"] (defScope s_is_plain_integer) := ⟨rfl, rfl, rfl, by decide +kernel, rfl, by decide +kernel, by decide +kernel⟩
abbrev s_check_count : Stmt := topS 8
theorem sc_check_count : FnScope ["word", "size", "least", "most"] ["word", "size", "least", "most"] (defScope s_check_count) := ⟨rfl, rfl, rfl, by decide +kernel, rfl, by decide +kernel, by decide +kernel⟩
abbrev s_choose : Stmt := topS 9
theorem sc_choose : FnScope ["size", "many", "taken", "total"] ["size", "many"] (defScope s_choose) := ⟨rfl, rfl, rfl, by decide +kernel, rfl, by decide +kernel, by decide +kernel⟩
abbrev s_choose_rows : Stmt := topS 10
theorem sc_choose_rows : FnScope ["size", "place", "last", "at", "rows"] ["size"] (defScope s_choose_rows) := ⟨rfl, rfl, rfl, by decide +kernel, rfl, by decide +kernel, by decide +kernel⟩
abbrev s_covering_rows : Stmt := topS 11
theorem sc_covering_rows : FnScope ["high", "wide", "used", "width", "above", "chosen", "rows", "at"] ["high", "wide"] (defScope s_covering_rows) := ⟨rfl, rfl, rfl, by decide +kernel, rfl, by decide +kernel, by decide +kernel⟩
abbrev s_stair_counts : Stmt := topS 12
theorem sc_stair_counts : FnScope ["high", "wide", "used", "width", "line", "chosen"] ["high", "wide"] (defScope s_stair_counts) := ⟨rfl, rfl, rfl, by decide +kernel, rfl, by decide +kernel, by decide +kernel⟩
abbrev s_covering : Stmt := topS 13
theorem sc_covering : FnScope ["high", "wide"] ["high", "wide"] (defScope s_covering) := ⟨rfl, rfl, rfl, by decide +kernel, rfl, by decide +kernel, by decide +kernel⟩
abbrev s_count_stairs : Stmt := topS 14
theorem sc_count_stairs : FnScope ["high", "wide"] ["high", "wide"] (defScope s_count_stairs) := ⟨rfl, rfl, rfl, by decide +kernel, rfl, by decide +kernel, by decide +kernel⟩
abbrev s_crowded : Stmt := topS 15
theorem sc_crowded : FnScope ["high", "wide", "used", "total", "part", "rows", "chosen"] ["high", "wide"] (defScope s_crowded) := ⟨rfl, rfl, rfl, by decide +kernel, rfl, by decide +kernel, by decide +kernel⟩
abbrev s__law_draws : Stmt := topS 17
theorem sc__law_draws : FnScope ["_law_script", "_law_row", "_law_place", "_law_cell", "_law_turn", "_law_mixed"] ["_law_script"] (defScope s__law_draws) := ⟨rfl, rfl, rfl, by decide +kernel, rfl, by decide +kernel, by decide +kernel⟩
abbrev s__law_take : Stmt := topS 18
theorem sc__law_take : FnScope ["_law_draws_here", "_law_many"] ["_law_draws_here", "_law_many"] (defScope s__law_take) := ⟨rfl, rfl, rfl, by decide +kernel, rfl, by decide +kernel, by decide +kernel⟩
abbrev s__law_whole : Stmt := topS 19
theorem sc__law_whole : FnScope ["_law_value", "_law_due"] ["_law_value", "_law_due"] (defScope s__law_whole) := ⟨rfl, rfl, rfl, by decide +kernel, rfl, by decide +kernel, by decide +kernel⟩
abbrev s__law_binomial : Stmt := topS 20
theorem sc__law_binomial : FnScope ["_law_size", "_law_many", "_law_k", "_law_told"] ["_law_size", "_law_many"] (defScope s__law_binomial) := ⟨rfl, rfl, rfl, by decide +kernel, rfl, by decide +kernel, by decide +kernel⟩
abbrev s__law_counts : Stmt := topS 21
theorem sc__law_counts : FnScope ["_law_high", "_law_wide", "_law_n", "_law_bars", "_law_total", "_law_row", "_law_longer", "_law_rows", "_law_turn"] ["_law_high", "_law_wide"] (defScope s__law_counts) := ⟨rfl, rfl, rfl, by decide +kernel, rfl, by decide +kernel, by decide +kernel⟩
abbrev s__law_listed : Stmt := topS 22
theorem sc__law_listed : FnScope ["_law_high", "_law_wide", "_law_c", "_law_line", "_law_fresh", "_law_part", "_law_lines", "_law_bars", "_law_longer", "_law_found", "_law_turn"] ["_law_high", "_law_wide"] (defScope s__law_listed) := ⟨rfl, rfl, rfl, by decide +kernel, rfl, by decide +kernel, by decide +kernel⟩
abbrev s__law_coverings : Stmt := topS 23
theorem sc__law_coverings : FnScope ["_law_high", "_law_wide", "_law_gone", "_law_part", "_law_total", "_law_row", "_law_told"] ["_law_high", "_law_wide"] (defScope s__law_coverings) := ⟨rfl, rfl, rfl, by decide +kernel, rfl, by decide +kernel, by decide +kernel⟩
abbrev s__law_crowded : Stmt := topS 24
theorem sc__law_crowded : FnScope ["_law_high", "_law_wide", "_law_gone", "_law_part", "_law_total", "_law_row"] ["_law_high", "_law_wide"] (defScope s__law_crowded) := ⟨rfl, rfl, rfl, by decide +kernel, rfl, by decide +kernel, by decide +kernel⟩
abbrev s__law_by_listing : Stmt := topS 25
theorem sc__law_by_listing : FnScope ["_law_high", "_law_wide", "_law_line", "_law_rows", "_law_c", "_law_down", "_law_across", "_law_told"] ["_law_high", "_law_wide"] (defScope s__law_by_listing) := ⟨rfl, rfl, rfl, by decide +kernel, rfl, by decide +kernel, by decide +kernel⟩
abbrev s__law_two_rows : Stmt := topS 26
theorem sc__law_two_rows : FnScope ["_law_wide", "_law_three", "_law_two", "_law_turn"] ["_law_wide"] (defScope s__law_two_rows) := ⟨rfl, rfl, rfl, by decide +kernel, rfl, by decide +kernel, by decide +kernel⟩
abbrev s__law_sums : Stmt := topS 27
theorem sc__law_sums : FnScope ["_law_high", "_law_wide", "_law_b", "_law_total", "_law_a", "_law_k"] ["_law_high", "_law_wide"] (defScope s__law_sums) := ⟨rfl, rfl, rfl, by decide +kernel, rfl, by decide +kernel, by decide +kernel⟩
abbrev s__law_refuses : Stmt := topS 28
theorem sc__law_refuses : FnScope ["_law_bad", "_law_good", "_law_word", "_law_got", "_law_told", "raised"] ["_law_bad", "_law_good"] (defScope s__law_refuses) := ⟨rfl, rfl, rfl, by decide +kernel, rfl, by decide +kernel, by decide +kernel⟩
abbrev s_law : Stmt := topS 29
theorem sc_law : FnScope ["_law_script", "_law_draws_here", "_law_most", "_law_high", "_law_wide", "_law_due", "_law_size", "_law_many"] ["_law_script"] (defScope s_law) := ⟨rfl, rfl, rfl, by decide +kernel, rfl, by decide +kernel, by decide +kernel⟩
def ini_BadWant : Stmt := match topS 2 with | .ClassDef _ _ _ b _ _ _ _ _ _ _ => b.getD 0 (.Pass ⟨0, 0, 0, 0⟩) | _ => .Pass ⟨0, 0, 0, 0⟩
abbrev XT_BadWant (K : PySem.W.Frag) (mg : Str → Option Value) (C fI : Addr) : Prop := MVX.Xt PySem.Challenge.pw_minusless_k49_sums_count_stairs K mg "BadWant" C fI ["word"]
abbrev XI_BadWant (K : PySem.W.Frag) (C fI : Addr) : Prop := MVX.Xi PySem.Challenge.pw_minusless_k49_sums_count_stairs K C fI "BadWant.__init__" (defArgs ini_BadWant) (defBody ini_BadWant) (defScope ini_BadWant)
def xs_BadWant : MVX.Xs "BadWant.__init__" (defArgs ini_BadWant) (defBody ini_BadWant) (defScope ini_BadWant) ["word"] where
  p0 := _
  p1 := _
  p2 := _
  p3 := _
  p4 := _
  p5 := _
  j := _
  txt := _
  as := _
  a0 := _
  body := rfl
  har := rfl
  self := rfl
  kind := rfl
  co := rfl
  gen := rfl
  nocell := by decide +kernel
  kS := rfl
  kC := rfl
  kself := rfl
  kn := by decide +kernel
  nd := by decide +kernel
  bind := fun _ _ _ _ _ _ _ us hl => match us, hl with | [_, _], _ => .of_eq rfl
  pl := _
  ev := fun _ _ _ _ => rfl
  sw := fun _ _ _ _ => rfl
theorem mk_BadWant {X : Cx} {C fI : Addr} (T : MVX.Xt X.prog X.K X.mg "BadWant" C fI ["word"]) (I : MVX.Xi X.prog X.K C fI "BadWant.__init__" (defArgs ini_BadWant) (defBody ini_BadWant) (defScope ini_BadWant)) : MakesX X C ["word"] := makes1 T I xs_BadWant rfl (fun _ _ _ _ => rfl) rfl
structure Fx (K : PySem.W.Frag) (mg : Str → Option Value) where
  a_is_plain_integer : Addr
  fd_is_plain_integer : FuncData
  F_is_plain_integer : Fun K "is_plain_integer" "is_plain_integer" s_is_plain_integer a_is_plain_integer fd_is_plain_integer
  b_is_plain_integer : Binds K fd_is_plain_integer ["value"] []
  g_is_plain_integer : mg "is_plain_integer" = some (.ref a_is_plain_integer)
  a_check_count : Addr
  fd_check_count : FuncData
  F_check_count : Fun K "check_count" "check_count" s_check_count a_check_count fd_check_count
  b_check_count : Binds K fd_check_count ["word", "size", "least", "most"] []
  g_check_count : mg "check_count" = some (.ref a_check_count)
  a_choose : Addr
  fd_choose : FuncData
  F_choose : Fun K "choose" "choose" s_choose a_choose fd_choose
  b_choose : Binds K fd_choose ["size", "many"] []
  g_choose : mg "choose" = some (.ref a_choose)
  a_choose_rows : Addr
  fd_choose_rows : FuncData
  F_choose_rows : Fun K "choose_rows" "choose_rows" s_choose_rows a_choose_rows fd_choose_rows
  b_choose_rows : Binds K fd_choose_rows ["size"] []
  g_choose_rows : mg "choose_rows" = some (.ref a_choose_rows)
  a_covering_rows : Addr
  fd_covering_rows : FuncData
  F_covering_rows : Fun K "covering_rows" "covering_rows" s_covering_rows a_covering_rows fd_covering_rows
  b_covering_rows : Binds K fd_covering_rows ["high", "wide"] []
  g_covering_rows : mg "covering_rows" = some (.ref a_covering_rows)
  a_stair_counts : Addr
  fd_stair_counts : FuncData
  F_stair_counts : Fun K "stair_counts" "stair_counts" s_stair_counts a_stair_counts fd_stair_counts
  b_stair_counts : Binds K fd_stair_counts ["high", "wide"] []
  g_stair_counts : mg "stair_counts" = some (.ref a_stair_counts)
  a_covering : Addr
  fd_covering : FuncData
  F_covering : Fun K "covering" "covering" s_covering a_covering fd_covering
  b_covering : Binds K fd_covering ["high", "wide"] []
  g_covering : mg "covering" = some (.ref a_covering)
  a_count_stairs : Addr
  fd_count_stairs : FuncData
  F_count_stairs : Fun K "count_stairs" "count_stairs" s_count_stairs a_count_stairs fd_count_stairs
  b_count_stairs : Binds K fd_count_stairs ["high", "wide"] []
  g_count_stairs : mg "count_stairs" = some (.ref a_count_stairs)
  a_crowded : Addr
  fd_crowded : FuncData
  F_crowded : Fun K "crowded" "crowded" s_crowded a_crowded fd_crowded
  b_crowded : Binds K fd_crowded ["high", "wide"] []
  g_crowded : mg "crowded" = some (.ref a_crowded)
  a__law_draws : Addr
  fd__law_draws : FuncData
  F__law_draws : Fun K "_law_draws" "_law_draws" s__law_draws a__law_draws fd__law_draws
  b__law_draws : Binds K fd__law_draws ["_law_script"] []
  g__law_draws : mg "_law_draws" = some (.ref a__law_draws)
  a__law_take : Addr
  fd__law_take : FuncData
  F__law_take : Fun K "_law_take" "_law_take" s__law_take a__law_take fd__law_take
  b__law_take : Binds K fd__law_take ["_law_draws_here", "_law_many"] []
  g__law_take : mg "_law_take" = some (.ref a__law_take)
  a__law_whole : Addr
  fd__law_whole : FuncData
  F__law_whole : Fun K "_law_whole" "_law_whole" s__law_whole a__law_whole fd__law_whole
  b__law_whole : Binds K fd__law_whole ["_law_value", "_law_due"] []
  g__law_whole : mg "_law_whole" = some (.ref a__law_whole)
  a__law_binomial : Addr
  fd__law_binomial : FuncData
  F__law_binomial : Fun K "_law_binomial" "_law_binomial" s__law_binomial a__law_binomial fd__law_binomial
  b__law_binomial : Binds K fd__law_binomial ["_law_size", "_law_many"] []
  g__law_binomial : mg "_law_binomial" = some (.ref a__law_binomial)
  a__law_counts : Addr
  fd__law_counts : FuncData
  F__law_counts : Fun K "_law_counts" "_law_counts" s__law_counts a__law_counts fd__law_counts
  b__law_counts : Binds K fd__law_counts ["_law_high", "_law_wide"] []
  g__law_counts : mg "_law_counts" = some (.ref a__law_counts)
  a__law_listed : Addr
  fd__law_listed : FuncData
  F__law_listed : Fun K "_law_listed" "_law_listed" s__law_listed a__law_listed fd__law_listed
  b__law_listed : Binds K fd__law_listed ["_law_high", "_law_wide"] []
  g__law_listed : mg "_law_listed" = some (.ref a__law_listed)
  a__law_coverings : Addr
  fd__law_coverings : FuncData
  F__law_coverings : Fun K "_law_coverings" "_law_coverings" s__law_coverings a__law_coverings fd__law_coverings
  b__law_coverings : Binds K fd__law_coverings ["_law_high", "_law_wide"] []
  g__law_coverings : mg "_law_coverings" = some (.ref a__law_coverings)
  a__law_crowded : Addr
  fd__law_crowded : FuncData
  F__law_crowded : Fun K "_law_crowded" "_law_crowded" s__law_crowded a__law_crowded fd__law_crowded
  b__law_crowded : Binds K fd__law_crowded ["_law_high", "_law_wide"] []
  g__law_crowded : mg "_law_crowded" = some (.ref a__law_crowded)
  a__law_by_listing : Addr
  fd__law_by_listing : FuncData
  F__law_by_listing : Fun K "_law_by_listing" "_law_by_listing" s__law_by_listing a__law_by_listing fd__law_by_listing
  b__law_by_listing : Binds K fd__law_by_listing ["_law_high", "_law_wide"] []
  g__law_by_listing : mg "_law_by_listing" = some (.ref a__law_by_listing)
  a__law_two_rows : Addr
  fd__law_two_rows : FuncData
  F__law_two_rows : Fun K "_law_two_rows" "_law_two_rows" s__law_two_rows a__law_two_rows fd__law_two_rows
  b__law_two_rows : Binds K fd__law_two_rows ["_law_wide"] []
  g__law_two_rows : mg "_law_two_rows" = some (.ref a__law_two_rows)
  a__law_sums : Addr
  fd__law_sums : FuncData
  F__law_sums : Fun K "_law_sums" "_law_sums" s__law_sums a__law_sums fd__law_sums
  b__law_sums : Binds K fd__law_sums ["_law_high", "_law_wide"] []
  g__law_sums : mg "_law_sums" = some (.ref a__law_sums)
  a__law_refuses : Addr
  fd__law_refuses : FuncData
  F__law_refuses : Fun K "_law_refuses" "_law_refuses" s__law_refuses a__law_refuses fd__law_refuses
  b__law_refuses : Binds K fd__law_refuses ["_law_bad", "_law_good"] []
  g__law_refuses : mg "_law_refuses" = some (.ref a__law_refuses)
  a_law : Addr
  fd_law : FuncData
  F_law : Fun K "law" "law" s_law a_law fd_law
  b_law : Binds K fd_law ["_law_script"] []
  g_law : mg "law" = some (.ref a_law)
  m_bool : mg "bool" = none
  m_int : mg "int" = none
  m_isinstance : mg "isinstance" = none
  m_len : mg "len" = none
  m_list : mg "list" = none
  m_min : mg "min" = none
  m_range : mg "range" = none
  m_sum : mg "sum" = none
  c_MOST_CHOSEN : ∃ t, mg "MOST_CHOSEN" = some (.int 60 t)
  c_MOST_COUNTED : ∃ t, mg "MOST_COUNTED" = some (.int 12 t)
  C_MinusError : Addr
  k_MinusError : mg "MinusError" = some (.ref C_MinusError)
  C_BadWant : Addr
  k_BadWant : mg "BadWant" = some (.ref C_BadWant)
  i_BadWant : Addr
  X_BadWant : XT_BadWant K mg C_BadWant i_BadWant
  I_BadWant : XI_BadWant K C_BadWant i_BadWant
  r_BadWant_BadWant : PySem.W.exmOne K (.ref C_BadWant) (.ref C_BadWant) = some true
  r_BadWant_MinusError : PySem.W.exmOne K (.ref C_BadWant) (.ref C_MinusError) = some true

def relX (C cn : Str) : Option Bool := if C = "BadWant" ∧ cn = "BadWant" then some true else if C = "BadWant" ∧ cn = "MinusError" then some true else none
theorem relX_ok {K : PySem.W.Frag} {mg : Str → Option Value} (x : Fx K mg) (C cn : Str) (Ca : Addr) (cl : Value) (b : Bool) (h : relX C cn = some b) (h1 : mg C = some (.ref Ca)) (h2 : mg cn = some cl) : PySem.W.exmOne K (.ref Ca) cl = some b := by
  unfold relX at h
  split at h
  · rename_i z
    obtain ⟨rfl, rfl⟩ := z
    rw [x.k_BadWant] at h1
    rw [x.k_BadWant] at h2
    cases h1; cases h2; cases h
    exact x.r_BadWant_BadWant
  split at h
  · rename_i z
    obtain ⟨rfl, rfl⟩ := z
    rw [x.k_BadWant] at h1
    rw [x.k_MinusError] at h2
    cases h1; cases h2; cases h
    exact x.r_BadWant_MinusError
  cases h
noncomputable def b_is_plain_integer : List T → SRes := (mRet (mAndV (mIsi .int (fVar 0)) (mNotV (mIsi .bl (fVar 0)))))
noncomputable def m_is_plain_integer : List T → FRes := mFn 1 false b_is_plain_integer
set_option maxHeartbeats 4000000 in
theorem ok_is_plain_integer {w : World} {K : PySem.W.Frag} {mg : Str → Option Value} {base : Heap} (x : Fx K mg) : FnOk PySem.Challenge.pw_minusless_k49_sums_count_stairs w K mg base (L2.CX PySem.Challenge.pw_minusless_k49_sums_count_stairs w) 1 x.a_is_plain_integer x.fd_is_plain_integer ["value"] (spM ⟨K, mg, none⟩ (["value"] : List Str).length m_is_plain_integer) := by
  refine fn_mvX (N := ["value"]) (m := m_is_plain_integer) b_is_plain_integer rfl x.F_is_plain_integer sc_is_plain_integer (by decide) fun cdv A outer s H E hr => ?_
  unfold b_is_plain_integer
  exact (s_one (s_ret (e_and (e_isi .int rfl (by rfl) x.m_isinstance (e_varF (pv 0)) (pe_bltn (by rfl) x.m_int (by decide +kernel) rfl)) (e_one (e_not (e_isi .bl rfl (by rfl) x.m_isinstance (e_varF (pv 0)) (pe_bltn (by rfl) x.m_bool (by decide +kernel) rfl)))))))
noncomputable def b_check_count : List T → SRes := (mSeq (mIf (mOr (mNot (mTru (mCall m_is_plain_integer (mCons (fVar 1) mNil)))) (mNot (mBl (mChain sLe sLe (fVar 2) (fVar 1) (fVar 3)))))
  (mRaise "BadWant" ["word"] (mCons (fVar 0) mNil))
  .nx)
  (mRetM 1))
noncomputable def m_check_count : List T → FRes := mFn 4 false b_check_count
set_option maxHeartbeats 4000000 in
theorem ok_check_count {w : World} {K : PySem.W.Frag} {mg : Str → Option Value} {base : Heap} (x : Fx K mg) : FnOk PySem.Challenge.pw_minusless_k49_sums_count_stairs w K mg base (L2.CX PySem.Challenge.pw_minusless_k49_sums_count_stairs w) 2 x.a_check_count x.fd_check_count ["word", "size", "least", "most"] (spM ⟨K, mg, none⟩ (["word", "size", "least", "most"] : List Str).length m_check_count) := by
  refine fn_mvX (N := ["word", "size", "least", "most"]) (m := m_check_count) b_check_count rfl x.F_check_count sc_check_count (by decide) fun cdv A outer s H E hr => ?_
  unfold b_check_count
  exact (s_cons (s_if (t_or (t_not (t_val rfl (e_call (ok_is_plain_integer x) (hr.mono (by decide)) (by rfl) x.g_is_plain_integer x.F_is_plain_integer.kp x.b_is_plain_integer rfl (takes_of rfl rfl rfl rfl) (e_cons (e_varF (pv 1)) e_nil) (len_cons (fun _ _ _ h => len_nil h))))) (t_or1 (t_not (t_chain op_le op_le ok_le ok_le (e_varF (pv 2)) (e_varF (pv 1)) (e_varF (pv 3)))))).pt
  (s_one (s_raise rfl rfl x.X_BadWant (mk_BadWant x.X_BadWant x.I_BadWant) hr (takes_of rfl rfl rfl rfl) (e_cons (e_varF (pv 0)) e_nil) (by rfl) (by decide)))
  s_nil)
  (s_one (s_retM (pv 1))))
noncomputable def b_choose : List T → SRes := (mSeq (mEx (mCall m_check_count (mCons (mC (.v (.str "size"))) (mCons (fVar 0) (mCons (mC (.v (.int 0))) (mCons (mC (.v (.int 60))) mNil))))))
  (mSeq (mEx (mCall m_check_count (mCons (mC (.v (.str "many"))) (mCons (fVar 1) (mCons (mC (.v (.int 0))) (mCons (mC (.v (.int 60))) mNil))))))
  (mSeq (mAsg (mC (.v (.int 1))) (fN 3))
  (mSeq (mFor (mRg1 (fVar 1)) (fN 2)
  (mAsg (mOp2 fDiv (mOp2 fTimes (fVar 3) (mOp2 sSub (fVar 0) (fVar 2))) (mOp2 sPlus (fVar 2) (mC (.v (.int 1))))) (fN 3)))
  (mRetM 3)))))
noncomputable def m_choose : List T → FRes := mFn 4 false b_choose
set_option maxHeartbeats 4000000 in
theorem ok_choose {w : World} {K : PySem.W.Frag} {mg : Str → Option Value} {base : Heap} (x : Fx K mg) : FnOk PySem.Challenge.pw_minusless_k49_sums_count_stairs w K mg base (L2.CX PySem.Challenge.pw_minusless_k49_sums_count_stairs w) 3 x.a_choose x.fd_choose ["size", "many"] (spM ⟨K, mg, none⟩ (["size", "many"] : List Str).length m_choose) := by
  refine fn_mvX (N := ["size", "many", "taken", "total"]) (m := m_choose) b_choose rfl x.F_choose sc_choose (by decide) fun cdv A outer s H E hr => ?_
  unfold b_choose
  exact (s_cons (s_expr (e_call (ok_check_count x) (hr.mono (by decide)) (by rfl) x.g_check_count x.F_check_count.kp x.b_check_count rfl (takes_of rfl rfl rfl rfl) (e_cons (e_c pe_str) (e_cons (e_varF (pv 0)) (e_cons (e_c pe_int) (e_cons (e_c (pe_glob (by rfl) x.c_MOST_CHOSEN.choose_spec ⟨_, rfl⟩)) e_nil)))) (len_cons (len_cons (len_cons (len_cons (fun _ _ _ h => len_nil h)))))))
  (s_cons (s_expr (e_call (ok_check_count x) (hr.mono (by decide)) (by rfl) x.g_check_count x.F_check_count.kp x.b_check_count rfl (takes_of rfl rfl rfl rfl) (e_cons (e_c pe_str) (e_cons (e_varF (pv 1)) (e_cons (e_c pe_int) (e_cons (e_c (pe_glob (by rfl) x.c_MOST_CHOSEN.choose_spec ⟨_, rfl⟩)) e_nil)))) (len_cons (len_cons (len_cons (len_cons (fun _ _ _ h => len_nil h)))))))
  (s_cons (s_setF (i := 3) (.inr rfl) sc_choose.nd rfl (by first | exact .inl rfl | exact .inr rfl) (e_c pe_int))
  (s_cons (s_for (passes_of rfl) rfl (i_rg1 (by rfl) x.m_range (e_varF (pv 1))) (g_nameF (.inr rfl) (pg_name (i := 2) sc_choose.nd rfl (by first | exact .inl rfl | exact .inr rfl)))
  (s_one (s_setF (i := 3) (.inr rfl) sc_choose.nd rfl (by first | exact .inl rfl | exact .inr rfl) (e_op op_fdivW ok_divF (e_op op_times ok_timesF (e_varF (pv 3)) (e_op op_sub ok_sub (e_varF (pv 0)) (e_varF (pv 2)))) (e_op op_plus (ok_plus rfl) (e_varF (pv 2)) (e_c pe_int))))))
  (s_one (s_retM (pv 3)))))))
noncomputable def b_choose_rows : List T → SRes := (mSeq (mAsg (mLst (mCons (mLst (mCons (mC (.v (.int 1))) mNil)) mNil)) (fN 4))
  (mSeq (mFor (mRg1 (fVar 0)) (fN 3)
  (mSeq (mAsg (fIxN 4 (fVar 3)) (fN 2))
  (mEx (mAppN 4 (mOp2 sCatL (mOp2 sCatL (mLst (mCons (mC (.v (.int 1))) mNil)) (mLc (mRg1 (fVar 3)) (fN 1) mYes (mOp2 sPlus (fIxN 2 (fVar 1)) (fIxN 2 (mOp2 sPlus (fVar 1) (mC (.v (.int 1)))))) [1])) (mLst (mCons (mC (.v (.int 1))) mNil)))))))
  (mRetM 4)))
noncomputable def m_choose_rows : List T → FRes := mFn 5 false b_choose_rows
set_option maxHeartbeats 4000000 in
theorem ok_choose_rows {w : World} {K : PySem.W.Frag} {mg : Str → Option Value} {base : Heap} (x : Fx K mg) : FnOk PySem.Challenge.pw_minusless_k49_sums_count_stairs w K mg base (L2.CX PySem.Challenge.pw_minusless_k49_sums_count_stairs w) 1 x.a_choose_rows x.fd_choose_rows ["size"] (spM ⟨K, mg, none⟩ (["size"] : List Str).length m_choose_rows) := by
  refine fn_mvX (N := ["size", "place", "last", "at", "rows"]) (m := m_choose_rows) b_choose_rows rfl x.F_choose_rows sc_choose_rows (by decide) fun cdv A outer s H E hr => ?_
  unfold b_choose_rows
  exact (s_cons (s_setF (i := 4) (.inr rfl) sc_choose_rows.nd rfl (by first | exact .inl rfl | exact .inr rfl) (e_lst (e_cons (e_lst (e_cons (e_c pe_int) e_nil)) e_nil)))
  (s_cons (s_for (passes_of rfl) rfl (i_rg1 (by rfl) x.m_range (e_varF (pv 0))) (g_nameF (.inr rfl) (pg_name (i := 3) sc_choose_rows.nd rfl (by first | exact .inl rfl | exact .inr rfl)))
  (s_cons (s_setF (i := 2) (.inr rfl) sc_choose_rows.nd rfl (by first | exact .inl rfl | exact .inr rfl) (e_ixNF rfl (pv 4) (e_varF (pv 3)) (fun _ _ => rfl)))
  (s_one (s_expr (e_appN (pv 4) (e_op op_cat ok_catL (e_op op_cat ok_catL (e_lst (e_cons (e_c pe_int) e_nil)) (e_lc (own := [("place", 1)]) (by decide) (by intro v hv; exact .inr rfl) rfl sc_choose_rows.nd (i_rg1 (by rfl) x.m_range (e_varF (pv 3))) (blkOk_by (by with_unfolding_all rfl)) (fun _ _ _ _ _ => (g_nameF (.inr rfl) (pg_name (i := 1) sc_choose_rows.nd rfl (by first | exact .inl rfl | exact .inr rfl)))) (fun _ _ _ _ _ => t_yes) (fun _ _ _ _ _ => (e_op op_plus (ok_plus rfl) (e_ixNF rfl (pv 2) (e_varF (pv 1)) (fun _ _ => rfl)) (e_ixNF rfl (pv 2) (e_op op_plus (ok_plus rfl) (e_varF (pv 1)) (e_c pe_int)) (fun _ _ => rfl)))))) (e_lst (e_cons (e_c pe_int) e_nil))))))))
  (s_one (s_retM (pv 4)))))
noncomputable def b_covering_rows : List T → SRes := (mSeq (mAsg (mCall m_choose_rows (mCons (mOp2 sPlus (fVar 1) (mC (.v (.int 1)))) mNil)) (fN 5))
  (mSeq (mAsg (mLst (mCons (mOp2 sCatL (mLst (mCons (mC (.v (.int 1))) mNil)) (mOp2 sRep (mLst (mCons (mC (.v (.int 0))) mNil)) (fVar 1))) mNil)) (fN 6))
  (mSeq (mFor (mRg1 (fVar 0)) (fN 7)
  (mSeq (mAsg (fIxN 6 (fVar 7)) (fN 4))
  (mEx (mAppN 6 (mLc (mRg1 (mOp2 sPlus (fVar 1) (mC (.v (.int 1))))) (fN 3) mYes (mCallB sSumA (mCons (mLc (mRg1 (mOp2 sPlus (fVar 3) (mC (.v (.int 1))))) (fN 2) mYes (mOp2 fTimes (mOp2 fIx (fIxN 5 (mOp2 sPlus (fVar 3) (mC (.v (.int 1))))) (fVar 2)) (fIxN 4 (fVar 2))) [2]) mNil)) [3])))))
  (mRetM 6))))
noncomputable def m_covering_rows : List T → FRes := mFn 8 false b_covering_rows
set_option maxHeartbeats 4000000 in
theorem ok_covering_rows {w : World} {K : PySem.W.Frag} {mg : Str → Option Value} {base : Heap} (x : Fx K mg) : FnOk PySem.Challenge.pw_minusless_k49_sums_count_stairs w K mg base (L2.CX PySem.Challenge.pw_minusless_k49_sums_count_stairs w) 2 x.a_covering_rows x.fd_covering_rows ["high", "wide"] (spM ⟨K, mg, none⟩ (["high", "wide"] : List Str).length m_covering_rows) := by
  refine fn_mvX (N := ["high", "wide", "used", "width", "above", "chosen", "rows", "at"]) (m := m_covering_rows) b_covering_rows rfl x.F_covering_rows sc_covering_rows (by decide) fun cdv A outer s H E hr => ?_
  unfold b_covering_rows
  exact (s_cons (s_setF (i := 5) (.inr rfl) sc_covering_rows.nd rfl (by first | exact .inl rfl | exact .inr rfl) (e_call (ok_choose_rows x) (hr.mono (by decide)) (by rfl) x.g_choose_rows x.F_choose_rows.kp x.b_choose_rows rfl (takes_of rfl rfl rfl rfl) (e_cons (e_op op_plus (ok_plus rfl) (e_varF (pv 1)) (e_c pe_int)) e_nil) (len_cons (fun _ _ _ h => len_nil h))))
  (s_cons (s_setF (i := 6) (.inr rfl) sc_covering_rows.nd rfl (by first | exact .inl rfl | exact .inr rfl) (e_lst (e_cons (e_op op_cat ok_catL (e_lst (e_cons (e_c pe_int) e_nil)) (e_op op_rep ok_rep (e_lst (e_cons (e_c pe_int) e_nil)) (e_varF (pv 1)))) e_nil)))
  (s_cons (s_for (passes_of rfl) rfl (i_rg1 (by rfl) x.m_range (e_varF (pv 0))) (g_nameF (.inr rfl) (pg_name (i := 7) sc_covering_rows.nd rfl (by first | exact .inl rfl | exact .inr rfl)))
  (s_cons (s_setF (i := 4) (.inr rfl) sc_covering_rows.nd rfl (by first | exact .inl rfl | exact .inr rfl) (e_ixNF rfl (pv 6) (e_varF (pv 7)) (fun _ _ => rfl)))
  (s_one (s_expr (e_appN (pv 6) (e_lc (own := [("width", 3)]) (by decide) (by intro v hv; exact .inr rfl) rfl sc_covering_rows.nd (i_rg1 (by rfl) x.m_range (e_op op_plus (ok_plus rfl) (e_varF (pv 1)) (e_c pe_int))) (blkOk_by (by with_unfolding_all rfl)) (fun _ _ _ _ _ => (g_nameF (.inr rfl) (pg_name (i := 3) sc_covering_rows.nd rfl (by first | exact .inl rfl | exact .inr rfl)))) (fun _ _ _ _ _ => t_yes) (fun _ _ _ _ _ => (e_callB (call_sumA rfl) (okc_sumA rfl) (by rfl) x.m_sum (by decide +kernel) (e_cons (e_lc (own := [("used", 2)]) (by decide) (by intro v hv; exact .inr rfl) rfl sc_covering_rows.nd (i_rg1 (by rfl) x.m_range (e_op op_plus (ok_plus rfl) (e_varF (pv 3)) (e_c pe_int))) (blkOk_by (by with_unfolding_all rfl)) (fun _ _ _ _ _ => (g_nameF (.inr rfl) (pg_name (i := 2) sc_covering_rows.nd rfl (by first | exact .inl rfl | exact .inr rfl)))) (fun _ _ _ _ _ => t_yes) (fun _ _ _ _ _ => (e_op op_times ok_timesF (e_ix ix_seq (ok_ixF rfl) (e_ixNF rfl (pv 5) (e_op op_plus (ok_plus rfl) (e_varF (pv 3)) (e_c pe_int)) (fun _ _ => rfl)) (e_varF (pv 2)) (fun _ _ => rfl)) (e_ixNF rfl (pv 4) (e_varF (pv 2)) (fun _ _ => rfl))))) e_nil)))))))))
  (s_one (s_retM (pv 6))))))
noncomputable def b_stair_counts : List T → SRes := (mSeq (mAsg (mCall m_choose_rows (mCons (fVar 1) mNil)) (fN 5))
  (mRet (mLc (mItL (mCall m_covering_rows (mCons (fVar 0) (mCons (fVar 1) mNil)))) (fN 4) mYes (mLc (mRg1 (mOp2 sPlus (fVar 1) (mC (.v (.int 1))))) (fN 3) mYes (mCallB sSumA (mCons (mLc (mRg1 (mOp2 sPlus (fVar 3) (mC (.v (.int 1))))) (fN 2) mYes (mOp2 fTimes (mOp2 fIx (fIxN 5 (fVar 3)) (fVar 2)) (fIxN 4 (fVar 2))) [2]) mNil)) [3]) [4])))
noncomputable def m_stair_counts : List T → FRes := mFn 6 false b_stair_counts
set_option maxHeartbeats 4000000 in
theorem ok_stair_counts {w : World} {K : PySem.W.Frag} {mg : Str → Option Value} {base : Heap} (x : Fx K mg) : FnOk PySem.Challenge.pw_minusless_k49_sums_count_stairs w K mg base (L2.CX PySem.Challenge.pw_minusless_k49_sums_count_stairs w) 3 x.a_stair_counts x.fd_stair_counts ["high", "wide"] (spM ⟨K, mg, none⟩ (["high", "wide"] : List Str).length m_stair_counts) := by
  refine fn_mvX (N := ["high", "wide", "used", "width", "line", "chosen"]) (m := m_stair_counts) b_stair_counts rfl x.F_stair_counts sc_stair_counts (by decide) fun cdv A outer s H E hr => ?_
  unfold b_stair_counts
  exact (s_cons (s_setF (i := 5) (.inr rfl) sc_stair_counts.nd rfl (by first | exact .inl rfl | exact .inr rfl) (e_call (ok_choose_rows x) (hr.mono (by decide)) (by rfl) x.g_choose_rows x.F_choose_rows.kp x.b_choose_rows rfl (takes_of rfl rfl rfl rfl) (e_cons (e_varF (pv 1)) e_nil) (len_cons (fun _ _ _ h => len_nil h))))
  (s_one (s_ret (e_lc (own := [("line", 4)]) (by decide) (by intro v hv; exact .inr rfl) rfl sc_stair_counts.nd (i_list rfl (e_call (ok_covering_rows x) (hr.mono (by decide)) (by rfl) x.g_covering_rows x.F_covering_rows.kp x.b_covering_rows rfl (takes_of rfl rfl rfl rfl) (e_cons (e_varF (pv 0)) (e_cons (e_varF (pv 1)) e_nil)) (len_cons (len_cons (fun _ _ _ h => len_nil h))))) (blkOk_by (by with_unfolding_all rfl)) (fun _ _ _ _ _ => (g_nameF (.inr rfl) (pg_name (i := 4) sc_stair_counts.nd rfl (by first | exact .inl rfl | exact .inr rfl)))) (fun _ _ _ _ _ => t_yes) (fun _ _ _ _ _ => (e_lc (own := [("width", 3)]) (by decide) (by intro v hv; exact .inr rfl) rfl sc_stair_counts.nd (i_rg1 (by rfl) x.m_range (e_op op_plus (ok_plus rfl) (e_varF (pv 1)) (e_c pe_int))) (blkOk_by (by with_unfolding_all rfl)) (fun _ _ _ _ _ => (g_nameF (.inr rfl) (pg_name (i := 3) sc_stair_counts.nd rfl (by first | exact .inl rfl | exact .inr rfl)))) (fun _ _ _ _ _ => t_yes) (fun _ _ _ _ _ => (e_callB (call_sumA rfl) (okc_sumA rfl) (by rfl) x.m_sum (by decide +kernel) (e_cons (e_lc (own := [("used", 2)]) (by decide) (by intro v hv; exact .inr rfl) rfl sc_stair_counts.nd (i_rg1 (by rfl) x.m_range (e_op op_plus (ok_plus rfl) (e_varF (pv 3)) (e_c pe_int))) (blkOk_by (by with_unfolding_all rfl)) (fun _ _ _ _ _ => (g_nameF (.inr rfl) (pg_name (i := 2) sc_stair_counts.nd rfl (by first | exact .inl rfl | exact .inr rfl)))) (fun _ _ _ _ _ => t_yes) (fun _ _ _ _ _ => (e_op op_times ok_timesF (e_ix ix_seq (ok_ixF rfl) (e_ixNF rfl (pv 5) (e_varF (pv 3)) (fun _ _ => rfl)) (e_varF (pv 2)) (fun _ _ => rfl)) (e_ixNF rfl (pv 4) (e_varF (pv 2)) (fun _ _ => rfl))))) e_nil)))))))))
noncomputable def b_covering : List T → SRes := (mSeq (mEx (mCall m_check_count (mCons (mC (.v (.str "high"))) (mCons (fVar 0) (mCons (mC (.v (.int 0))) (mCons (mC (.v (.int 12))) mNil))))))
  (mSeq (mEx (mCall m_check_count (mCons (mC (.v (.str "wide"))) (mCons (fVar 1) (mCons (mC (.v (.int 0))) (mCons (mC (.v (.int 12))) mNil))))))
  (mRet (mOp2 fIx (mOp2 fIx (mCall m_covering_rows (mCons (fVar 0) (mCons (fVar 1) mNil))) (fVar 0)) (fVar 1)))))
noncomputable def m_covering : List T → FRes := mFn 2 false b_covering
set_option maxHeartbeats 4000000 in
theorem ok_covering {w : World} {K : PySem.W.Frag} {mg : Str → Option Value} {base : Heap} (x : Fx K mg) : FnOk PySem.Challenge.pw_minusless_k49_sums_count_stairs w K mg base (L2.CX PySem.Challenge.pw_minusless_k49_sums_count_stairs w) 3 x.a_covering x.fd_covering ["high", "wide"] (spM ⟨K, mg, none⟩ (["high", "wide"] : List Str).length m_covering) := by
  refine fn_mvX (N := ["high", "wide"]) (m := m_covering) b_covering rfl x.F_covering sc_covering (by decide) fun cdv A outer s H E hr => ?_
  unfold b_covering
  exact (s_cons (s_expr (e_call (ok_check_count x) (hr.mono (by decide)) (by rfl) x.g_check_count x.F_check_count.kp x.b_check_count rfl (takes_of rfl rfl rfl rfl) (e_cons (e_c pe_str) (e_cons (e_varF (pv 0)) (e_cons (e_c pe_int) (e_cons (e_c (pe_glob (by rfl) x.c_MOST_COUNTED.choose_spec ⟨_, rfl⟩)) e_nil)))) (len_cons (len_cons (len_cons (len_cons (fun _ _ _ h => len_nil h)))))))
  (s_cons (s_expr (e_call (ok_check_count x) (hr.mono (by decide)) (by rfl) x.g_check_count x.F_check_count.kp x.b_check_count rfl (takes_of rfl rfl rfl rfl) (e_cons (e_c pe_str) (e_cons (e_varF (pv 1)) (e_cons (e_c pe_int) (e_cons (e_c (pe_glob (by rfl) x.c_MOST_COUNTED.choose_spec ⟨_, rfl⟩)) e_nil)))) (len_cons (len_cons (len_cons (len_cons (fun _ _ _ h => len_nil h)))))))
  (s_one (s_ret (e_ix ix_seq (ok_ixF rfl) (e_ix ix_seq (ok_ixF rfl) (e_call (ok_covering_rows x) (hr.mono (by decide)) (by rfl) x.g_covering_rows x.F_covering_rows.kp x.b_covering_rows rfl (takes_of rfl rfl rfl rfl) (e_cons (e_varF (pv 0)) (e_cons (e_varF (pv 1)) e_nil)) (len_cons (len_cons (fun _ _ _ h => len_nil h)))) (e_varF (pv 0)) (fun _ _ => rfl)) (e_varF (pv 1)) (fun _ _ => rfl))))))
noncomputable def b_count_stairs : List T → SRes := (mSeq (mEx (mCall m_check_count (mCons (mC (.v (.str "high"))) (mCons (fVar 0) (mCons (mC (.v (.int 0))) (mCons (mC (.v (.int 12))) mNil))))))
  (mSeq (mEx (mCall m_check_count (mCons (mC (.v (.str "wide"))) (mCons (fVar 1) (mCons (mC (.v (.int 0))) (mCons (mC (.v (.int 12))) mNil))))))
  (mRet (mOp2 fIx (mOp2 fIx (mCall m_stair_counts (mCons (fVar 0) (mCons (fVar 1) mNil))) (fVar 0)) (fVar 1)))))
noncomputable def m_count_stairs : List T → FRes := mFn 2 false b_count_stairs
set_option maxHeartbeats 4000000 in
theorem ok_count_stairs {w : World} {K : PySem.W.Frag} {mg : Str → Option Value} {base : Heap} (x : Fx K mg) : FnOk PySem.Challenge.pw_minusless_k49_sums_count_stairs w K mg base (L2.CX PySem.Challenge.pw_minusless_k49_sums_count_stairs w) 4 x.a_count_stairs x.fd_count_stairs ["high", "wide"] (spM ⟨K, mg, none⟩ (["high", "wide"] : List Str).length m_count_stairs) := by
  refine fn_mvX (N := ["high", "wide"]) (m := m_count_stairs) b_count_stairs rfl x.F_count_stairs sc_count_stairs (by decide) fun cdv A outer s H E hr => ?_
  unfold b_count_stairs
  exact (s_cons (s_expr (e_call (ok_check_count x) (hr.mono (by decide)) (by rfl) x.g_check_count x.F_check_count.kp x.b_check_count rfl (takes_of rfl rfl rfl rfl) (e_cons (e_c pe_str) (e_cons (e_varF (pv 0)) (e_cons (e_c pe_int) (e_cons (e_c (pe_glob (by rfl) x.c_MOST_COUNTED.choose_spec ⟨_, rfl⟩)) e_nil)))) (len_cons (len_cons (len_cons (len_cons (fun _ _ _ h => len_nil h)))))))
  (s_cons (s_expr (e_call (ok_check_count x) (hr.mono (by decide)) (by rfl) x.g_check_count x.F_check_count.kp x.b_check_count rfl (takes_of rfl rfl rfl rfl) (e_cons (e_c pe_str) (e_cons (e_varF (pv 1)) (e_cons (e_c pe_int) (e_cons (e_c (pe_glob (by rfl) x.c_MOST_COUNTED.choose_spec ⟨_, rfl⟩)) e_nil)))) (len_cons (len_cons (len_cons (len_cons (fun _ _ _ h => len_nil h)))))))
  (s_one (s_ret (e_ix ix_seq (ok_ixF rfl) (e_ix ix_seq (ok_ixF rfl) (e_call (ok_stair_counts x) (hr.mono (by decide)) (by rfl) x.g_stair_counts x.F_stair_counts.kp x.b_stair_counts rfl (takes_of rfl rfl rfl rfl) (e_cons (e_varF (pv 0)) (e_cons (e_varF (pv 1)) e_nil)) (len_cons (len_cons (fun _ _ _ h => len_nil h)))) (e_varF (pv 0)) (fun _ _ => rfl)) (e_varF (pv 1)) (fun _ _ => rfl))))))
noncomputable def b_crowded : List T → SRes := (mSeq (mEx (mCall m_check_count (mCons (mC (.v (.str "high"))) (mCons (fVar 0) (mCons (mC (.v (.int 0))) (mCons (mC (.v (.int 12))) mNil))))))
  (mSeq (mEx (mCall m_check_count (mCons (mC (.v (.str "wide"))) (mCons (fVar 1) (mCons (mC (.v (.int 0))) (mCons (mC (.v (.int 12))) mNil))))))
  (mSeq (mAsg (mCall m_covering_rows (mCons (fVar 0) (mCons (fVar 1) mNil))) (fN 5))
  (mSeq (mAsg (mOp2 fIx (mCall m_choose_rows (mCons (fVar 0) mNil)) (fVar 0)) (fN 6))
  (mSeq (mAsg (mC (.v (.int 0))) (fN 3))
  (mSeq (mFor (mRg1 (mOp2 sPlus (fVar 0) (mC (.v (.int 1))))) (fN 2)
  (mSeq (mAsg (mOp2 fTimes (fIxN 6 (fVar 2)) (mOp2 fIx (fIxN 5 (fVar 2)) (fVar 1))) (fN 4))
  (mAsg (mIfE (mBl (mOp2 fEq (mOp2 sMod (mOp2 sSub (fVar 0) (fVar 2)) (mC (.v (.int 2)))) (mC (.v (.int 0))))) (mOp2 sPlus (fVar 3) (fVar 4)) (mOp2 sSub (fVar 3) (fVar 4))) (fN 3))))
  (mRetM 3)))))))
noncomputable def m_crowded : List T → FRes := mFn 7 false b_crowded
set_option maxHeartbeats 4000000 in
theorem ok_crowded {w : World} {K : PySem.W.Frag} {mg : Str → Option Value} {base : Heap} (x : Fx K mg) : FnOk PySem.Challenge.pw_minusless_k49_sums_count_stairs w K mg base (L2.CX PySem.Challenge.pw_minusless_k49_sums_count_stairs w) 3 x.a_crowded x.fd_crowded ["high", "wide"] (spM ⟨K, mg, none⟩ (["high", "wide"] : List Str).length m_crowded) := by
  refine fn_mvX (N := ["high", "wide", "used", "total", "part", "rows", "chosen"]) (m := m_crowded) b_crowded rfl x.F_crowded sc_crowded (by decide) fun cdv A outer s H E hr => ?_
  unfold b_crowded
  exact (s_cons (s_expr (e_call (ok_check_count x) (hr.mono (by decide)) (by rfl) x.g_check_count x.F_check_count.kp x.b_check_count rfl (takes_of rfl rfl rfl rfl) (e_cons (e_c pe_str) (e_cons (e_varF (pv 0)) (e_cons (e_c pe_int) (e_cons (e_c (pe_glob (by rfl) x.c_MOST_COUNTED.choose_spec ⟨_, rfl⟩)) e_nil)))) (len_cons (len_cons (len_cons (len_cons (fun _ _ _ h => len_nil h)))))))
  (s_cons (s_expr (e_call (ok_check_count x) (hr.mono (by decide)) (by rfl) x.g_check_count x.F_check_count.kp x.b_check_count rfl (takes_of rfl rfl rfl rfl) (e_cons (e_c pe_str) (e_cons (e_varF (pv 1)) (e_cons (e_c pe_int) (e_cons (e_c (pe_glob (by rfl) x.c_MOST_COUNTED.choose_spec ⟨_, rfl⟩)) e_nil)))) (len_cons (len_cons (len_cons (len_cons (fun _ _ _ h => len_nil h)))))))
  (s_cons (s_setF (i := 5) (.inr rfl) sc_crowded.nd rfl (by first | exact .inl rfl | exact .inr rfl) (e_call (ok_covering_rows x) (hr.mono (by decide)) (by rfl) x.g_covering_rows x.F_covering_rows.kp x.b_covering_rows rfl (takes_of rfl rfl rfl rfl) (e_cons (e_varF (pv 0)) (e_cons (e_varF (pv 1)) e_nil)) (len_cons (len_cons (fun _ _ _ h => len_nil h)))))
  (s_cons (s_setF (i := 6) (.inr rfl) sc_crowded.nd rfl (by first | exact .inl rfl | exact .inr rfl) (e_ix ix_seq (ok_ixF rfl) (e_call (ok_choose_rows x) (hr.mono (by decide)) (by rfl) x.g_choose_rows x.F_choose_rows.kp x.b_choose_rows rfl (takes_of rfl rfl rfl rfl) (e_cons (e_varF (pv 0)) e_nil) (len_cons (fun _ _ _ h => len_nil h))) (e_varF (pv 0)) (fun _ _ => rfl)))
  (s_cons (s_setF (i := 3) (.inr rfl) sc_crowded.nd rfl (by first | exact .inl rfl | exact .inr rfl) (e_c pe_int))
  (s_cons (s_for (passes_of rfl) rfl (i_rg1 (by rfl) x.m_range (e_op op_plus (ok_plus rfl) (e_varF (pv 0)) (e_c pe_int))) (g_nameF (.inr rfl) (pg_name (i := 2) sc_crowded.nd rfl (by first | exact .inl rfl | exact .inr rfl)))
  (s_cons (s_setF (i := 4) (.inr rfl) sc_crowded.nd rfl (by first | exact .inl rfl | exact .inr rfl) (e_op op_times ok_timesF (e_ixNF rfl (pv 6) (e_varF (pv 2)) (fun _ _ => rfl)) (e_ix ix_seq (ok_ixF rfl) (e_ixNF rfl (pv 5) (e_varF (pv 2)) (fun _ _ => rfl)) (e_varF (pv 1)) (fun _ _ => rfl))))
  (s_one (s_setF (i := 3) (.inr rfl) sc_crowded.nd rfl (by first | exact .inl rfl | exact .inr rfl) (e_ifE (t_cmp (op_eqD hr.units) (ok_eqF rfl) (e_op op_mod ok_mod (e_op op_sub ok_sub (e_varF (pv 0)) (e_varF (pv 2))) (e_c pe_int)) (e_c pe_int) (nomark _)) (e_op op_plus (ok_plus rfl) (e_varF (pv 3)) (e_varF (pv 4))) (e_op op_sub ok_sub (e_varF (pv 3)) (e_varF (pv 4))))))))
  (s_one (s_retM (pv 3)))))))))
noncomputable def b__law_draws : List T → SRes := (mSeq (mAsg (mLst mNil) (fN 1))
  (mSeq (mFor (mRg1 (mCallB sMin (mCons (mLenN 0) (mCons (mC (.v (.int 63))) mNil)))) (fN 2)
  (mSeq (mAsg (mCallB sInt (mCons (fIxN 0 (fVar 2)) mNil)) (fN 3))
  (mSeq (mIf (mBl (mOp2 sLt (fVar 3) (mC (.v (.int 0)))))
  (mAsg (mOp2 sSub (mC (.v (.int 7))) (fVar 3)) (fN 3))
  .nx)
  (mIf (mBl (mOp2 sGe (fVar 3) (mOp2 sPow (mC (.v (.int 10))) (mC (.v (.int 18))))))
  (mFor (mRg1 (mC (.v (.int 50)))) (fN 4)
  (mIf (mBl (mOp2 sGt (fVar 3) (mC (.v (.int 0)))))
  (mSeq (mEx (mAppN 1 (mOp2 sMod (mCallB sInt (mCons (fVar 3) mNil)) (mC (.v (.int 60))))))
  (mAsg (mOp2 fDiv (fVar 3) (mC (.v (.int 60)))) (fN 3)))
  .nx))
  (mSeq (mAsg (mOp2 sMod (mCallB sInt (mCons (mOp2 sPlus (mOp2 sPlus (mOp2 fTimes (fVar 3) (mC (.v (.int 75931)))) (mOp2 fTimes (fVar 2) (mC (.v (.int 30011))))) (mC (.v (.int 19)))) mNil)) (mC (.v (.int 1073741789)))) (fN 5))
  (mFor (mRg1 (mC (.v (.int 8)))) (fN 4)
  (mSeq (mAsg (mOp2 sMod (mCallB sInt (mCons (mOp2 sPlus (mOp2 sPlus (mOp2 sPlus (mOp2 fTimes (fVar 5) (fVar 5)) (mOp2 fTimes (fVar 4) (mC (.v (.int 52711))))) (fVar 2)) (mC (.v (.int 5)))) mNil)) (mC (.v (.int 1073741783)))) (fN 5))
  (mEx (mAppN 1 (mOp2 fDiv (fVar 5) (mC (.v (.int 16)))))))))))))
  (mRet (mRevN 1))))
noncomputable def m__law_draws : List T → FRes := mFn 6 false b__law_draws
set_option maxHeartbeats 4000000 in
theorem ok__law_draws {w : World} {K : PySem.W.Frag} {mg : Str → Option Value} {base : Heap} (x : Fx K mg) : FnOk PySem.Challenge.pw_minusless_k49_sums_count_stairs w K mg base (L2.CX PySem.Challenge.pw_minusless_k49_sums_count_stairs w) 1 x.a__law_draws x.fd__law_draws ["_law_script"] (spM ⟨K, mg, none⟩ (["_law_script"] : List Str).length m__law_draws) := by
  refine fn_mvX (N := ["_law_script", "_law_row", "_law_place", "_law_cell", "_law_turn", "_law_mixed"]) (m := m__law_draws) b__law_draws rfl x.F__law_draws sc__law_draws (by decide) fun cdv A outer s H E hr => ?_
  unfold b__law_draws
  exact (s_cons (s_setF (i := 1) (.inr rfl) sc__law_draws.nd rfl (by first | exact .inl rfl | exact .inr rfl) (e_lst e_nil))
  (s_cons (s_for (passes_of rfl) rfl (i_rg1 (by rfl) x.m_range (e_callB (call_min2 rfl) (okc_min) (by rfl) x.m_min (by decide +kernel) (e_cons (e_lenN rfl (by rfl) x.m_len (pv 0)) (e_cons (e_c pe_int) e_nil)))) (g_nameF (.inr rfl) (pg_name (i := 2) sc__law_draws.nd rfl (by first | exact .inl rfl | exact .inr rfl)))
  (s_cons (s_setF (i := 3) (.inr rfl) sc__law_draws.nd rfl (by first | exact .inl rfl | exact .inr rfl) (e_callTy (call_int1) (okc_int) (by rfl) x.m_int (by decide +kernel) (e_cons (e_ixNF rfl (pv 0) (e_varF (pv 2)) (fun _ _ => rfl)) e_nil)))
  (s_cons (s_if (t_cmp op_lt ok_lt (e_varF (pv 3)) (e_c pe_int) (nomark _))
  (s_one (s_setF (i := 3) (.inr rfl) sc__law_draws.nd rfl (by first | exact .inl rfl | exact .inr rfl) (e_op op_sub ok_sub (e_c pe_int) (e_varF (pv 3)))))
  s_nil)
  (s_one (s_if (t_cmp op_ge ok_ge (e_varF (pv 3)) (e_op op_pow ok_pow (e_c pe_int) (e_c pe_int)) (nomark _))
  (s_one (s_for (passes_of rfl) rfl (i_rg1 (by rfl) x.m_range (e_c pe_int)) (g_nameF (.inr rfl) (pg_name (i := 4) sc__law_draws.nd rfl (by first | exact .inl rfl | exact .inr rfl)))
  (s_one (s_if (t_cmp op_gt ok_gt (e_varF (pv 3)) (e_c pe_int) (nomark _))
  (s_cons (s_expr (e_appN (pv 1) (e_op op_mod ok_mod (e_callTy (call_int1) (okc_int) (by rfl) x.m_int (by decide +kernel) (e_cons (e_varF (pv 3)) e_nil)) (e_c pe_int))))
  (s_one (s_setF (i := 3) (.inr rfl) sc__law_draws.nd rfl (by first | exact .inl rfl | exact .inr rfl) (e_op op_fdivW ok_divF (e_varF (pv 3)) (e_c pe_int)))))
  s_nil))))
  (s_cons (s_setF (i := 5) (.inr rfl) sc__law_draws.nd rfl (by first | exact .inl rfl | exact .inr rfl) (e_op op_mod ok_mod (e_callTy (call_int1) (okc_int) (by rfl) x.m_int (by decide +kernel) (e_cons (e_op op_plus (ok_plus rfl) (e_op op_plus (ok_plus rfl) (e_op op_times ok_timesF (e_varF (pv 3)) (e_c pe_int)) (e_op op_times ok_timesF (e_varF (pv 2)) (e_c pe_int))) (e_c pe_int)) e_nil)) (e_c pe_int)))
  (s_one (s_for (passes_of rfl) rfl (i_rg1 (by rfl) x.m_range (e_c pe_int)) (g_nameF (.inr rfl) (pg_name (i := 4) sc__law_draws.nd rfl (by first | exact .inl rfl | exact .inr rfl)))
  (s_cons (s_setF (i := 5) (.inr rfl) sc__law_draws.nd rfl (by first | exact .inl rfl | exact .inr rfl) (e_op op_mod ok_mod (e_callTy (call_int1) (okc_int) (by rfl) x.m_int (by decide +kernel) (e_cons (e_op op_plus (ok_plus rfl) (e_op op_plus (ok_plus rfl) (e_op op_plus (ok_plus rfl) (e_op op_times ok_timesF (e_varF (pv 5)) (e_varF (pv 5))) (e_op op_times ok_timesF (e_varF (pv 4)) (e_c pe_int))) (e_varF (pv 2))) (e_c pe_int)) e_nil)) (e_c pe_int)))
  (s_one (s_expr (e_appN (pv 1) (e_op op_fdivW ok_divF (e_varF (pv 5)) (e_c pe_int))))))))))))))
  (s_one (s_ret (e_revN rfl (pv 1))))))
noncomputable def b__law_take : List T → SRes := (mSeq (mIf (mOr (mBl (mOp2 fEq (mLenN 0) (mC (.v (.int 0))))) (mBl (mOp2 sLt (fVar 1) (mC (.v (.int 1))))))
  (mRet (mC (.v (.int 0))))
  .nx)
  (mRet (mOp2 sMod (mCallB sInt (mCons (mPopN 0) mNil)) (fVar 1))))
noncomputable def m__law_take : List T → FRes := mFn 2 true b__law_take
set_option maxHeartbeats 4000000 in
theorem ok__law_take {w : World} {K : PySem.W.Frag} {mg : Str → Option Value} {base : Heap} (x : Fx K mg) : FnOk PySem.Challenge.pw_minusless_k49_sums_count_stairs w K mg base (L2.CX PySem.Challenge.pw_minusless_k49_sums_count_stairs w) 1 x.a__law_take x.fd__law_take ["_law_draws_here", "_law_many"] (spM ⟨K, mg, none⟩ (["_law_draws_here", "_law_many"] : List Str).length m__law_take) := by
  refine fn_mvBX (N := ["_law_draws_here", "_law_many"]) (m := m__law_take) b__law_take rfl x.F__law_take sc__law_take (by decide) (by decide) fun cdv A outer s H E v0 hr => ?_
  unfold b__law_take
  exact (s_cons (s_if (t_or (t_cmp (op_eqD hr.units) (ok_eqF rfl) (e_lenN rfl (by rfl) x.m_len (pv 0)) (e_c pe_int) (nomark _)) (t_or1 (t_cmp op_lt ok_lt (e_varF (pv 1)) (e_c pe_int) (nomark _)))).pt
  (s_one (s_ret (e_c pe_int)))
  s_nil)
  (s_one (s_ret (e_op op_mod ok_mod (e_callTy (call_int1) (okc_int) (by rfl) x.m_int (by decide +kernel) (e_cons (e_popN (pv 0)) e_nil)) (e_varF (pv 1))))))
noncomputable def b__law_whole : List T → SRes := (mRet (mAndV (mIsi .int (fVar 0)) (mAndV (mNotV (mIsi .bl (fVar 0))) (mOp2 fEq (fVar 0) (fVar 1)))))
noncomputable def m__law_whole : List T → FRes := mFn 2 false b__law_whole
set_option maxHeartbeats 4000000 in
theorem ok__law_whole {w : World} {K : PySem.W.Frag} {mg : Str → Option Value} {base : Heap} (x : Fx K mg) : FnOk PySem.Challenge.pw_minusless_k49_sums_count_stairs w K mg base (L2.CX PySem.Challenge.pw_minusless_k49_sums_count_stairs w) 1 x.a__law_whole x.fd__law_whole ["_law_value", "_law_due"] (spM ⟨K, mg, none⟩ (["_law_value", "_law_due"] : List Str).length m__law_whole) := by
  refine fn_mvX (N := ["_law_value", "_law_due"]) (m := m__law_whole) b__law_whole rfl x.F__law_whole sc__law_whole (by decide) fun cdv A outer s H E hr => ?_
  unfold b__law_whole
  exact (s_one (s_ret (e_and (e_isi .int rfl (by rfl) x.m_isinstance (e_varF (pv 0)) (pe_bltn (by rfl) x.m_int (by decide +kernel) rfl)) (e_and (e_not (e_isi .bl rfl (by rfl) x.m_isinstance (e_varF (pv 0)) (pe_bltn (by rfl) x.m_bool (by decide +kernel) rfl))) (e_one (e_cmp (op_eqD hr.units) (ok_eqF rfl) (e_varF (pv 0)) (e_varF (pv 1)) (nomark _)))))))
noncomputable def b__law_binomial : List T → SRes := (mSeq (mAsg (mC (.v (.int 1))) (fN 3))
  (mSeq (mFor (mRg1 (fVar 1)) (fN 2)
  (mAsg (mOp2 fDiv (mOp2 fTimes (fVar 3) (mOp2 sSub (fVar 0) (fVar 2))) (mOp2 sPlus (fVar 2) (mC (.v (.int 1))))) (fN 3)))
  (mRetM 3)))
noncomputable def m__law_binomial : List T → FRes := mFn 4 false b__law_binomial
set_option maxHeartbeats 4000000 in
theorem ok__law_binomial {w : World} {K : PySem.W.Frag} {mg : Str → Option Value} {base : Heap} (x : Fx K mg) : FnOk PySem.Challenge.pw_minusless_k49_sums_count_stairs w K mg base (L2.CX PySem.Challenge.pw_minusless_k49_sums_count_stairs w) 1 x.a__law_binomial x.fd__law_binomial ["_law_size", "_law_many"] (spM ⟨K, mg, none⟩ (["_law_size", "_law_many"] : List Str).length m__law_binomial) := by
  refine fn_mvX (N := ["_law_size", "_law_many", "_law_k", "_law_told"]) (m := m__law_binomial) b__law_binomial rfl x.F__law_binomial sc__law_binomial (by decide) fun cdv A outer s H E hr => ?_
  unfold b__law_binomial
  exact (s_cons (s_setF (i := 3) (.inr rfl) sc__law_binomial.nd rfl (by first | exact .inl rfl | exact .inr rfl) (e_c pe_int))
  (s_cons (s_for (passes_of rfl) rfl (i_rg1 (by rfl) x.m_range (e_varF (pv 1))) (g_nameF (.inr rfl) (pg_name (i := 2) sc__law_binomial.nd rfl (by first | exact .inl rfl | exact .inr rfl)))
  (s_one (s_setF (i := 3) (.inr rfl) sc__law_binomial.nd rfl (by first | exact .inl rfl | exact .inr rfl) (e_op op_fdivW ok_divF (e_op op_times ok_timesF (e_varF (pv 3)) (e_op op_sub ok_sub (e_varF (pv 0)) (e_varF (pv 2)))) (e_op op_plus (ok_plus rfl) (e_varF (pv 2)) (e_c pe_int))))))
  (s_one (s_retM (pv 3)))))
noncomputable def b__law_counts : List T → SRes := (mSeq (mAsg (mLst (mCons (mLc (mRg1 (mOp2 sPlus (fVar 1) (mC (.v (.int 1))))) (fN 2) mYes (mC (.v (.int 1))) [2]) mNil)) (fN 7))
  (mSeq (mFor (mRg1 (fVar 0)) (fN 8)
  (mSeq (mAsg (fIxN 7 (fVar 8)) (fN 5))
  (mSeq (mAsg (mLst mNil) (fN 6))
  (mSeq (mFor (mRg1 (mOp2 sPlus (fVar 1) (mC (.v (.int 1))))) (fN 2)
  (mSeq (mAsg (fIxN 5 (fVar 2)) (fN 4))
  (mSeq (mFor (mRg1 (fVar 2)) (fN 3)
  (mAsg (mOp2 sPlus (fVar 4) (mOp2 fTimes (mCall m__law_binomial (mCons (fVar 2) (mCons (mOp2 sPlus (fVar 3) (mC (.v (.int 1)))) mNil))) (fIxN 5 (mOp2 sSub (fVar 2) (fVar 3))))) (fN 4)))
  (mEx (mAppN 6 (fVar 4))))))
  (mEx (mAppN 7 (fVar 6)))))))
  (mRetM 7)))
noncomputable def m__law_counts : List T → FRes := mFn 9 false b__law_counts
set_option maxHeartbeats 4000000 in
theorem ok__law_counts {w : World} {K : PySem.W.Frag} {mg : Str → Option Value} {base : Heap} (x : Fx K mg) : FnOk PySem.Challenge.pw_minusless_k49_sums_count_stairs w K mg base (L2.CX PySem.Challenge.pw_minusless_k49_sums_count_stairs w) 2 x.a__law_counts x.fd__law_counts ["_law_high", "_law_wide"] (spM ⟨K, mg, none⟩ (["_law_high", "_law_wide"] : List Str).length m__law_counts) := by
  refine fn_mvX (N := ["_law_high", "_law_wide", "_law_n", "_law_bars", "_law_total", "_law_row", "_law_longer", "_law_rows", "_law_turn"]) (m := m__law_counts) b__law_counts rfl x.F__law_counts sc__law_counts (by decide) fun cdv A outer s H E hr => ?_
  unfold b__law_counts
  exact (s_cons (s_setF (i := 7) (.inr rfl) sc__law_counts.nd rfl (by first | exact .inl rfl | exact .inr rfl) (e_lst (e_cons (e_lc (own := [("_law_n", 2)]) (by decide) (by intro v hv; exact .inr rfl) rfl sc__law_counts.nd (i_rg1 (by rfl) x.m_range (e_op op_plus (ok_plus rfl) (e_varF (pv 1)) (e_c pe_int))) (blkOk_by (by with_unfolding_all rfl)) (fun _ _ _ _ _ => (g_nameF (.inr rfl) (pg_name (i := 2) sc__law_counts.nd rfl (by first | exact .inl rfl | exact .inr rfl)))) (fun _ _ _ _ _ => t_yes) (fun _ _ _ _ _ => (e_c pe_int))) e_nil)))
  (s_cons (s_for (passes_of rfl) rfl (i_rg1 (by rfl) x.m_range (e_varF (pv 0))) (g_nameF (.inr rfl) (pg_name (i := 8) sc__law_counts.nd rfl (by first | exact .inl rfl | exact .inr rfl)))
  (s_cons (s_setF (i := 5) (.inr rfl) sc__law_counts.nd rfl (by first | exact .inl rfl | exact .inr rfl) (e_ixNF rfl (pv 7) (e_varF (pv 8)) (fun _ _ => rfl)))
  (s_cons (s_setF (i := 6) (.inr rfl) sc__law_counts.nd rfl (by first | exact .inl rfl | exact .inr rfl) (e_lst e_nil))
  (s_cons (s_for (passes_of rfl) rfl (i_rg1 (by rfl) x.m_range (e_op op_plus (ok_plus rfl) (e_varF (pv 1)) (e_c pe_int))) (g_nameF (.inr rfl) (pg_name (i := 2) sc__law_counts.nd rfl (by first | exact .inl rfl | exact .inr rfl)))
  (s_cons (s_setF (i := 4) (.inr rfl) sc__law_counts.nd rfl (by first | exact .inl rfl | exact .inr rfl) (e_ixNF rfl (pv 5) (e_varF (pv 2)) (fun _ _ => rfl)))
  (s_cons (s_for (passes_of rfl) rfl (i_rg1 (by rfl) x.m_range (e_varF (pv 2))) (g_nameF (.inr rfl) (pg_name (i := 3) sc__law_counts.nd rfl (by first | exact .inl rfl | exact .inr rfl)))
  (s_one (s_setF (i := 4) (.inr rfl) sc__law_counts.nd rfl (by first | exact .inl rfl | exact .inr rfl) (e_op op_plus (ok_plus rfl) (e_varF (pv 4)) (e_op op_times ok_timesF (e_call (ok__law_binomial x) (hr.mono (by decide)) (by rfl) x.g__law_binomial x.F__law_binomial.kp x.b__law_binomial rfl (takes_of rfl rfl rfl rfl) (e_cons (e_varF (pv 2)) (e_cons (e_op op_plus (ok_plus rfl) (e_varF (pv 3)) (e_c pe_int)) e_nil)) (len_cons (len_cons (fun _ _ _ h => len_nil h)))) (e_ixNF rfl (pv 5) (e_op op_sub ok_sub (e_varF (pv 2)) (e_varF (pv 3))) (fun _ _ => rfl)))))))
  (s_one (s_expr (e_appN (pv 6) (e_varF (pv 4))))))))
  (s_one (s_expr (e_appN (pv 7) (e_varF (pv 6)))))))))
  (s_one (s_retM (pv 7)))))
noncomputable def b__law_listed : List T → SRes := (mSeq (mAsg (mLst (mCons (mLst (mCons (mLst mNil) (mCons (mLst mNil) mNil))) mNil)) (fN 9))
  (mSeq (mFor (mRg1 (fVar 0)) (fN 10)
  (mSeq (mAsg (mLst mNil) (fN 8))
  (mSeq (mFor (mItL (mCallB sList (mCons (fVar 9) mNil))) (fN 5)
  (mSeq (mAsg (mLst (mCons (mLst mNil) mNil)) (fN 6))
  (mSeq (mFor (mRg1 (fVar 1)) (fN 2)
  (mSeq (mAsg (mLst mNil) (fN 4))
  (mSeq (mFor (mItL (mCallB sList (mCons (fVar 6) mNil))) (fN 3)
  (mSeq (mEx (mAppN 4 (mOp2 sCatL (fVar 3) (mLst (mCons (mC (.v (.int 0))) mNil)))))
  (mIf (mBl (mOp2 (sIn true) (fVar 2) (fIxN 5 (mC (.v (.int 1))))))
  (mEx (mAppN 4 (mOp2 sCatL (fVar 3) (mLst (mCons (mC (.v (.int 1))) mNil)))))
  .nx)))
  (mAsg (fVar 4) (fN 6)))))
  (mFor (mItL (mCallB sList (mCons (fVar 6) mNil))) (fN 3)
  (mSeq (mAsg (mLc (mRg1 (fVar 1)) (fN 2) (mOr (mBl (mOp2 (sIn false) (fVar 2) (fIxN 5 (mC (.v (.int 1)))))) (mAnd (mBl (mOp2 fEq (fIxN 3 (fVar 2)) (mC (.v (.int 0))))) (mBl (mOp2 sGt (mCallB sSumA (mCons (mSlN none (some (fVar 2)) 3) mNil)) (mC (.v (.int 0))))))) (fVar 2) [2]) (wN 7))
  (mEx (mAppN 8 (mLst (mCons (mOp2 sCatL (mLst (mCons (fVar 3) mNil)) (fIxN 5 (mC (.v (.int 0))))) (mCons (fVar 7) mNil))))))))))
  (mAsg (fVar 8) (fN 9)))))
  (mRet (mLc (mItL (fVar 9)) (fN 5) mYes (fIxN 5 (mC (.v (.int 0)))) [5]))))
noncomputable def m__law_listed : List T → FRes := mFn 11 false b__law_listed
set_option maxHeartbeats 4000000 in
theorem ok__law_listed {w : World} {K : PySem.W.Frag} {mg : Str → Option Value} {base : Heap} (x : Fx K mg) : FnOk PySem.Challenge.pw_minusless_k49_sums_count_stairs w K mg base (L2.CX PySem.Challenge.pw_minusless_k49_sums_count_stairs w) 1 x.a__law_listed x.fd__law_listed ["_law_high", "_law_wide"] (spM ⟨K, mg, none⟩ (["_law_high", "_law_wide"] : List Str).length m__law_listed) := by
  refine fn_mvX (N := ["_law_high", "_law_wide", "_law_c", "_law_line", "_law_fresh", "_law_part", "_law_lines", "_law_bars", "_law_longer", "_law_found", "_law_turn"]) (m := m__law_listed) b__law_listed rfl x.F__law_listed sc__law_listed (by decide) fun cdv A outer s H E hr => ?_
  unfold b__law_listed
  exact (s_cons (s_setF (i := 9) (.inr rfl) sc__law_listed.nd rfl (by first | exact .inl rfl | exact .inr rfl) (e_lst (e_cons (e_lst (e_cons (e_lst e_nil) (e_cons (e_lst e_nil) e_nil))) e_nil)))
  (s_cons (s_for (passes_of rfl) rfl (i_rg1 (by rfl) x.m_range (e_varF (pv 0))) (g_nameF (.inr rfl) (pg_name (i := 10) sc__law_listed.nd rfl (by first | exact .inl rfl | exact .inr rfl)))
  (s_cons (s_setF (i := 8) (.inr rfl) sc__law_listed.nd rfl (by first | exact .inl rfl | exact .inr rfl) (e_lst e_nil))
  (s_cons (s_for (passes_of rfl) rfl (i_list rfl (e_callTy (call_list_of) (okc_list rfl) (by rfl) x.m_list (by decide +kernel) (e_cons (e_varF (pv 9)) e_nil))) (g_nameF (.inr rfl) (pg_name (i := 5) sc__law_listed.nd rfl (by first | exact .inl rfl | exact .inr rfl)))
  (s_cons (s_setF (i := 6) (.inr rfl) sc__law_listed.nd rfl (by first | exact .inl rfl | exact .inr rfl) (e_lst (e_cons (e_lst e_nil) e_nil)))
  (s_cons (s_for (passes_of rfl) rfl (i_rg1 (by rfl) x.m_range (e_varF (pv 1))) (g_nameF (.inr rfl) (pg_name (i := 2) sc__law_listed.nd rfl (by first | exact .inl rfl | exact .inr rfl)))
  (s_cons (s_setF (i := 4) (.inr rfl) sc__law_listed.nd rfl (by first | exact .inl rfl | exact .inr rfl) (e_lst e_nil))
  (s_cons (s_for (passes_of rfl) rfl (i_list rfl (e_callTy (call_list_of) (okc_list rfl) (by rfl) x.m_list (by decide +kernel) (e_cons (e_varF (pv 6)) e_nil))) (g_nameF (.inr rfl) (pg_name (i := 3) sc__law_listed.nd rfl (by first | exact .inl rfl | exact .inr rfl)))
  (s_cons (s_expr (e_appN (pv 4) (e_op op_cat ok_catL (e_varF (pv 3)) (e_lst (e_cons (e_c pe_int) e_nil)))))
  (s_one (s_if (t_cmp op_notIn_seq (ok_in rfl) (e_varF (pv 2)) (e_ixNF rfl (pv 5) (e_c pe_int) (fun _ _ => rfl)) (by with_unfolding_all rfl))
  (s_one (s_expr (e_appN (pv 4) (e_op op_cat ok_catL (e_varF (pv 3)) (e_lst (e_cons (e_c pe_int) e_nil))))))
  s_nil))))
  (s_one (s_setF (i := 6) (.inr rfl) sc__law_listed.nd rfl (by first | exact .inl rfl | exact .inr rfl) (e_varF (pv 4)))))))
  (s_one (s_for (passes_of rfl) rfl (i_list rfl (e_callTy (call_list_of) (okc_list rfl) (by rfl) x.m_list (by decide +kernel) (e_cons (e_varF (pv 6)) e_nil))) (g_nameF (.inr rfl) (pg_name (i := 3) sc__law_listed.nd rfl (by first | exact .inl rfl | exact .inr rfl)))
  (s_cons (s_lc (i := 7) (.inr rfl) (own := [("_law_c", 2)]) (by decide) (by intro v hv; exact .inr rfl) rfl sc__law_listed.nd rfl rfl rfl (i_rg1 (by rfl) x.m_range (e_varF (pv 1))) (blkOk_by (by with_unfolding_all rfl)) (fun _ _ _ _ _ => (g_nameF (.inr rfl) (pg_name (i := 2) sc__law_listed.nd rfl (by first | exact .inl rfl | exact .inr rfl)))) (fun _ _ _ _ _ => (t_if1 (t_or (t_cmp op_in_seq (ok_in rfl) (e_varF (pv 2)) (e_ixNF rfl (pv 5) (e_c pe_int) (fun _ _ => rfl)) (by with_unfolding_all rfl)) (t_or1 (t_and (t_cmp (op_eqD hr.units) (ok_eqF rfl) (e_ixNF rfl (pv 3) (e_varF (pv 2)) (fun _ _ => rfl)) (e_c pe_int) (nomark _)) (t_and1 (t_cmp op_gt ok_gt (e_callB (call_sumA rfl) (okc_sumA rfl) (by rfl) x.m_sum (by decide +kernel) (e_cons (e_slN rfl (pv 3) o_none (o_some (e_varF (pv 2)))) e_nil)) (e_c pe_int) (nomark _)))).pt)).pt)) (fun _ _ _ _ _ => (e_varF (pv 2))))
  (s_one (s_expr (e_appN (pv 8) (e_lst (e_cons (e_op op_cat ok_catL (e_lst (e_cons (e_varF (pv 3)) e_nil)) (e_ixNF rfl (pv 5) (e_c pe_int) (fun _ _ => rfl))) (e_cons (e_varF (pv 7)) e_nil))))))))))))
  (s_one (s_setF (i := 9) (.inr rfl) sc__law_listed.nd rfl (by first | exact .inl rfl | exact .inr rfl) (e_varF (pv 8)))))))
  (s_one (s_ret (e_lc (own := [("_law_part", 5)]) (by decide) (by intro v hv; exact .inr rfl) rfl sc__law_listed.nd (i_list rfl (e_varF (pv 9))) (blkOk_by (by with_unfolding_all rfl)) (fun _ _ _ _ _ => (g_nameF (.inr rfl) (pg_name (i := 5) sc__law_listed.nd rfl (by first | exact .inl rfl | exact .inr rfl)))) (fun _ _ _ _ _ => t_yes) (fun _ _ _ _ _ => (e_ixNF rfl (pv 5) (e_c pe_int) (fun _ _ => rfl))))))))
noncomputable def b__law_coverings : List T → SRes := (mSeq (mAsg (mLst mNil) (fN 6))
  (mSeq (mFor (mItL (mCall m__law_counts (mCons (fVar 0) (mCons (fVar 1) mNil)))) (fN 5)
  (mSeq (mAsg (mC (.v (.int 0))) (fN 4))
  (mSeq (mFor (mRg1 (mOp2 sPlus (fVar 1) (mC (.v (.int 1))))) (fN 2)
  (mSeq (mAsg (mOp2 fTimes (mCall m__law_binomial (mCons (fVar 1) (mCons (fVar 2) mNil))) (fIxN 5 (mOp2 sSub (fVar 1) (fVar 2)))) (fN 3))
  (mSeq (mIf (mBl (mOp2 fEq (mOp2 sMod (mCallB sInt (mCons (fVar 2) mNil)) (mC (.v (.int 2)))) (mC (.v (.int 1)))))
  (mAsg (mNeg (fVar 3)) (fN 3))
  .nx)
  (mAsg (mOp2 sPlus (fVar 4) (fVar 3)) (fN 4)))))
  (mEx (mAppN 6 (fVar 4))))))
  (mRetM 6)))
noncomputable def m__law_coverings : List T → FRes := mFn 7 false b__law_coverings
set_option maxHeartbeats 4000000 in
theorem ok__law_coverings {w : World} {K : PySem.W.Frag} {mg : Str → Option Value} {base : Heap} (x : Fx K mg) : FnOk PySem.Challenge.pw_minusless_k49_sums_count_stairs w K mg base (L2.CX PySem.Challenge.pw_minusless_k49_sums_count_stairs w) 3 x.a__law_coverings x.fd__law_coverings ["_law_high", "_law_wide"] (spM ⟨K, mg, none⟩ (["_law_high", "_law_wide"] : List Str).length m__law_coverings) := by
  refine fn_mvX (N := ["_law_high", "_law_wide", "_law_gone", "_law_part", "_law_total", "_law_row", "_law_told"]) (m := m__law_coverings) b__law_coverings rfl x.F__law_coverings sc__law_coverings (by decide) fun cdv A outer s H E hr => ?_
  unfold b__law_coverings
  exact (s_cons (s_setF (i := 6) (.inr rfl) sc__law_coverings.nd rfl (by first | exact .inl rfl | exact .inr rfl) (e_lst e_nil))
  (s_cons (s_for (passes_of rfl) rfl (i_list rfl (e_call (ok__law_counts x) (hr.mono (by decide)) (by rfl) x.g__law_counts x.F__law_counts.kp x.b__law_counts rfl (takes_of rfl rfl rfl rfl) (e_cons (e_varF (pv 0)) (e_cons (e_varF (pv 1)) e_nil)) (len_cons (len_cons (fun _ _ _ h => len_nil h))))) (g_nameF (.inr rfl) (pg_name (i := 5) sc__law_coverings.nd rfl (by first | exact .inl rfl | exact .inr rfl)))
  (s_cons (s_setF (i := 4) (.inr rfl) sc__law_coverings.nd rfl (by first | exact .inl rfl | exact .inr rfl) (e_c pe_int))
  (s_cons (s_for (passes_of rfl) rfl (i_rg1 (by rfl) x.m_range (e_op op_plus (ok_plus rfl) (e_varF (pv 1)) (e_c pe_int))) (g_nameF (.inr rfl) (pg_name (i := 2) sc__law_coverings.nd rfl (by first | exact .inl rfl | exact .inr rfl)))
  (s_cons (s_setF (i := 3) (.inr rfl) sc__law_coverings.nd rfl (by first | exact .inl rfl | exact .inr rfl) (e_op op_times ok_timesF (e_call (ok__law_binomial x) (hr.mono (by decide)) (by rfl) x.g__law_binomial x.F__law_binomial.kp x.b__law_binomial rfl (takes_of rfl rfl rfl rfl) (e_cons (e_varF (pv 1)) (e_cons (e_varF (pv 2)) e_nil)) (len_cons (len_cons (fun _ _ _ h => len_nil h)))) (e_ixNF rfl (pv 5) (e_op op_sub ok_sub (e_varF (pv 1)) (e_varF (pv 2))) (fun _ _ => rfl))))
  (s_cons (s_if (t_cmp (op_eqD hr.units) (ok_eqF rfl) (e_op op_mod ok_mod (e_callTy (call_int1) (okc_int) (by rfl) x.m_int (by decide +kernel) (e_cons (e_varF (pv 2)) e_nil)) (e_c pe_int)) (e_c pe_int) (nomark _))
  (s_one (s_setF (i := 3) (.inr rfl) sc__law_coverings.nd rfl (by first | exact .inl rfl | exact .inr rfl) (e_neg (e_varF (pv 3)))))
  s_nil)
  (s_one (s_setF (i := 4) (.inr rfl) sc__law_coverings.nd rfl (by first | exact .inl rfl | exact .inr rfl) (e_op op_plus (ok_plus rfl) (e_varF (pv 4)) (e_varF (pv 3))))))))
  (s_one (s_expr (e_appN (pv 6) (e_varF (pv 4))))))))
  (s_one (s_retM (pv 6)))))
noncomputable def b__law_crowded : List T → SRes := (mSeq (mAsg (mCall m__law_coverings (mCons (fVar 0) (mCons (fVar 1) mNil))) (fN 5))
  (mSeq (mAsg (mC (.v (.int 0))) (fN 4))
  (mSeq (mFor (mRg1 (mOp2 sPlus (fVar 0) (mC (.v (.int 1))))) (fN 2)
  (mSeq (mAsg (mOp2 fTimes (mCall m__law_binomial (mCons (fVar 0) (mCons (fVar 2) mNil))) (fIxN 5 (mOp2 sSub (fVar 0) (fVar 2)))) (fN 3))
  (mSeq (mIf (mBl (mOp2 fEq (mOp2 sMod (mCallB sInt (mCons (fVar 2) mNil)) (mC (.v (.int 2)))) (mC (.v (.int 1)))))
  (mAsg (mNeg (fVar 3)) (fN 3))
  .nx)
  (mAsg (mOp2 sPlus (fVar 4) (fVar 3)) (fN 4)))))
  (mRetM 4))))
noncomputable def m__law_crowded : List T → FRes := mFn 6 false b__law_crowded
set_option maxHeartbeats 4000000 in
theorem ok__law_crowded {w : World} {K : PySem.W.Frag} {mg : Str → Option Value} {base : Heap} (x : Fx K mg) : FnOk PySem.Challenge.pw_minusless_k49_sums_count_stairs w K mg base (L2.CX PySem.Challenge.pw_minusless_k49_sums_count_stairs w) 4 x.a__law_crowded x.fd__law_crowded ["_law_high", "_law_wide"] (spM ⟨K, mg, none⟩ (["_law_high", "_law_wide"] : List Str).length m__law_crowded) := by
  refine fn_mvX (N := ["_law_high", "_law_wide", "_law_gone", "_law_part", "_law_total", "_law_row"]) (m := m__law_crowded) b__law_crowded rfl x.F__law_crowded sc__law_crowded (by decide) fun cdv A outer s H E hr => ?_
  unfold b__law_crowded
  exact (s_cons (s_setF (i := 5) (.inr rfl) sc__law_crowded.nd rfl (by first | exact .inl rfl | exact .inr rfl) (e_call (ok__law_coverings x) (hr.mono (by decide)) (by rfl) x.g__law_coverings x.F__law_coverings.kp x.b__law_coverings rfl (takes_of rfl rfl rfl rfl) (e_cons (e_varF (pv 0)) (e_cons (e_varF (pv 1)) e_nil)) (len_cons (len_cons (fun _ _ _ h => len_nil h)))))
  (s_cons (s_setF (i := 4) (.inr rfl) sc__law_crowded.nd rfl (by first | exact .inl rfl | exact .inr rfl) (e_c pe_int))
  (s_cons (s_for (passes_of rfl) rfl (i_rg1 (by rfl) x.m_range (e_op op_plus (ok_plus rfl) (e_varF (pv 0)) (e_c pe_int))) (g_nameF (.inr rfl) (pg_name (i := 2) sc__law_crowded.nd rfl (by first | exact .inl rfl | exact .inr rfl)))
  (s_cons (s_setF (i := 3) (.inr rfl) sc__law_crowded.nd rfl (by first | exact .inl rfl | exact .inr rfl) (e_op op_times ok_timesF (e_call (ok__law_binomial x) (hr.mono (by decide)) (by rfl) x.g__law_binomial x.F__law_binomial.kp x.b__law_binomial rfl (takes_of rfl rfl rfl rfl) (e_cons (e_varF (pv 0)) (e_cons (e_varF (pv 2)) e_nil)) (len_cons (len_cons (fun _ _ _ h => len_nil h)))) (e_ixNF rfl (pv 5) (e_op op_sub ok_sub (e_varF (pv 0)) (e_varF (pv 2))) (fun _ _ => rfl))))
  (s_cons (s_if (t_cmp (op_eqD hr.units) (ok_eqF rfl) (e_op op_mod ok_mod (e_callTy (call_int1) (okc_int) (by rfl) x.m_int (by decide +kernel) (e_cons (e_varF (pv 2)) e_nil)) (e_c pe_int)) (e_c pe_int) (nomark _))
  (s_one (s_setF (i := 3) (.inr rfl) sc__law_crowded.nd rfl (by first | exact .inl rfl | exact .inr rfl) (e_neg (e_varF (pv 3)))))
  s_nil)
  (s_one (s_setF (i := 4) (.inr rfl) sc__law_crowded.nd rfl (by first | exact .inl rfl | exact .inr rfl) (e_op op_plus (ok_plus rfl) (e_varF (pv 4)) (e_varF (pv 3))))))))
  (s_one (s_retM (pv 4))))))
noncomputable def b__law_by_listing : List T → SRes := (mSeq (mAsg (mLst (mCons (mC (.v (.int 0))) (mCons (mC (.v (.int 0))) (mCons (mC (.v (.int 0))) mNil)))) (fN 7))
  (mSeq (mFor (mItL (mCall m__law_listed (mCons (fVar 0) (mCons (fVar 1) mNil)))) (fN 3)
  (mSeq (mAsg (mC (.v (.int 0))) (fN 6))
  (mSeq (mFor (mItL (fVar 3)) (fN 2)
  (mIf (mBl (mOp2 sGt (mCallB sSumA (mCons (fVar 2) mNil)) (mC (.v (.int 0)))))
  (mAsg (mOp2 sPlus (fVar 6) (mC (.v (.int 1)))) (fN 6))
  .nx))
  (mSeq (mAsg (mC (.v (.int 0))) (fN 5))
  (mSeq (mFor (mRg1 (fVar 1)) (fN 4)
  (mIf (mBl (mOp2 sGt (mCallB sSumA (mCons (mLc (mItL (fVar 3)) (fN 2) mYes (fIxN 2 (fVar 4)) [2]) mNil)) (mC (.v (.int 0)))))
  (mAsg (mOp2 sPlus (fVar 5) (mC (.v (.int 1)))) (fN 5))
  .nx))
  (mSeq (fAugS 7 (· + ·) (mC (.v (.int 0))) (mC (.v (.int 1))))
  (mSeq (mIf (mBl (mOp2 fEq (fVar 5) (fVar 1)))
  (fAugS 7 (· + ·) (mC (.v (.int 1))) (mC (.v (.int 1))))
  .nx)
  (mIf (mAnd (mBl (mOp2 fEq (fVar 5) (fVar 1))) (mBl (mOp2 fEq (fVar 6) (fVar 0))))
  (fAugS 7 (· + ·) (mC (.v (.int 2))) (mC (.v (.int 1))))
  .nx))))))))
  (mRetM 7)))
noncomputable def m__law_by_listing : List T → FRes := mFn 8 false b__law_by_listing
set_option maxHeartbeats 4000000 in
theorem ok__law_by_listing {w : World} {K : PySem.W.Frag} {mg : Str → Option Value} {base : Heap} (x : Fx K mg) : FnOk PySem.Challenge.pw_minusless_k49_sums_count_stairs w K mg base (L2.CX PySem.Challenge.pw_minusless_k49_sums_count_stairs w) 2 x.a__law_by_listing x.fd__law_by_listing ["_law_high", "_law_wide"] (spM ⟨K, mg, none⟩ (["_law_high", "_law_wide"] : List Str).length m__law_by_listing) := by
  refine fn_mvX (N := ["_law_high", "_law_wide", "_law_line", "_law_rows", "_law_c", "_law_down", "_law_across", "_law_told"]) (m := m__law_by_listing) b__law_by_listing rfl x.F__law_by_listing sc__law_by_listing (by decide) fun cdv A outer s H E hr => ?_
  unfold b__law_by_listing
  exact (s_cons (s_setF (i := 7) (.inr rfl) sc__law_by_listing.nd rfl (by first | exact .inl rfl | exact .inr rfl) (e_lst (e_cons (e_c pe_int) (e_cons (e_c pe_int) (e_cons (e_c pe_int) e_nil)))))
  (s_cons (s_for (passes_of rfl) rfl (i_list rfl (e_call (ok__law_listed x) (hr.mono (by decide)) (by rfl) x.g__law_listed x.F__law_listed.kp x.b__law_listed rfl (takes_of rfl rfl rfl rfl) (e_cons (e_varF (pv 0)) (e_cons (e_varF (pv 1)) e_nil)) (len_cons (len_cons (fun _ _ _ h => len_nil h))))) (g_nameF (.inr rfl) (pg_name (i := 3) sc__law_by_listing.nd rfl (by first | exact .inl rfl | exact .inr rfl)))
  (s_cons (s_setF (i := 6) (.inr rfl) sc__law_by_listing.nd rfl (by first | exact .inl rfl | exact .inr rfl) (e_c pe_int))
  (s_cons (s_for (passes_of rfl) rfl (i_list rfl (e_varF (pv 3))) (g_nameF (.inr rfl) (pg_name (i := 2) sc__law_by_listing.nd rfl (by first | exact .inl rfl | exact .inr rfl)))
  (s_one (s_if (t_cmp op_gt ok_gt (e_callB (call_sumA rfl) (okc_sumA rfl) (by rfl) x.m_sum (by decide +kernel) (e_cons (e_varF (pv 2)) e_nil)) (e_c pe_int) (nomark _))
  (s_one (s_setF (i := 6) (.inr rfl) sc__law_by_listing.nd rfl (by first | exact .inl rfl | exact .inr rfl) (e_op op_plus (ok_plus rfl) (e_varF (pv 6)) (e_c pe_int))))
  s_nil)))
  (s_cons (s_setF (i := 5) (.inr rfl) sc__law_by_listing.nd rfl (by first | exact .inl rfl | exact .inr rfl) (e_c pe_int))
  (s_cons (s_for (passes_of rfl) rfl (i_rg1 (by rfl) x.m_range (e_varF (pv 1))) (g_nameF (.inr rfl) (pg_name (i := 4) sc__law_by_listing.nd rfl (by first | exact .inl rfl | exact .inr rfl)))
  (s_one (s_if (t_cmp op_gt ok_gt (e_callB (call_sumA rfl) (okc_sumA rfl) (by rfl) x.m_sum (by decide +kernel) (e_cons (e_lc (own := [("_law_line", 2)]) (by decide) (by intro v hv; exact .inr rfl) rfl sc__law_by_listing.nd (i_list rfl (e_varF (pv 3))) (blkOk_by (by with_unfolding_all rfl)) (fun _ _ _ _ _ => (g_nameF (.inr rfl) (pg_name (i := 2) sc__law_by_listing.nd rfl (by first | exact .inl rfl | exact .inr rfl)))) (fun _ _ _ _ _ => t_yes) (fun _ _ _ _ _ => (e_ixNF rfl (pv 2) (e_varF (pv 4)) (fun _ _ => rfl)))) e_nil)) (e_c pe_int) (nomark _))
  (s_one (s_setF (i := 5) (.inr rfl) sc__law_by_listing.nd rfl (by first | exact .inl rfl | exact .inr rfl) (e_op op_plus (ok_plus rfl) (e_varF (pv 5)) (e_c pe_int))))
  s_nil)))
  (s_cons (s_augSF rfl (pv 7) (e_c pe_int) (e_c pe_int) ip_add)
  (s_cons (s_if (t_cmp (op_eqD hr.units) (ok_eqF rfl) (e_varF (pv 5)) (e_varF (pv 1)) (nomark _))
  (s_one (s_augSF rfl (pv 7) (e_c pe_int) (e_c pe_int) ip_add))
  s_nil)
  (s_one (s_if (t_and (t_cmp (op_eqD hr.units) (ok_eqF rfl) (e_varF (pv 5)) (e_varF (pv 1)) (nomark _)) (t_and1 (t_cmp (op_eqD hr.units) (ok_eqF rfl) (e_varF (pv 6)) (e_varF (pv 0)) (nomark _)))).pt
  (s_one (s_augSF rfl (pv 7) (e_c pe_int) (e_c pe_int) ip_add))
  s_nil)))))))))
  (s_one (s_retM (pv 7)))))
noncomputable def b__law_two_rows : List T → SRes := (mSeq (mAsg (mC (.v (.int 2))) (fN 1))
  (mSeq (mAsg (mC (.v (.int 1))) (fN 2))
  (mSeq (mFor (mRg1 (fVar 0)) (fN 3)
  (mSeq (mAsg (mOp2 fTimes (fVar 1) (mC (.v (.int 3)))) (fN 1))
  (mAsg (mOp2 fTimes (fVar 2) (mC (.v (.int 2)))) (fN 2))))
  (mRet (mOp2 sSub (fVar 1) (fVar 2))))))
noncomputable def m__law_two_rows : List T → FRes := mFn 4 false b__law_two_rows
set_option maxHeartbeats 4000000 in
theorem ok__law_two_rows {w : World} {K : PySem.W.Frag} {mg : Str → Option Value} {base : Heap} (x : Fx K mg) : FnOk PySem.Challenge.pw_minusless_k49_sums_count_stairs w K mg base (L2.CX PySem.Challenge.pw_minusless_k49_sums_count_stairs w) 1 x.a__law_two_rows x.fd__law_two_rows ["_law_wide"] (spM ⟨K, mg, none⟩ (["_law_wide"] : List Str).length m__law_two_rows) := by
  refine fn_mvX (N := ["_law_wide", "_law_three", "_law_two", "_law_turn"]) (m := m__law_two_rows) b__law_two_rows rfl x.F__law_two_rows sc__law_two_rows (by decide) fun cdv A outer s H E hr => ?_
  unfold b__law_two_rows
  exact (s_cons (s_setF (i := 1) (.inr rfl) sc__law_two_rows.nd rfl (by first | exact .inl rfl | exact .inr rfl) (e_c pe_int))
  (s_cons (s_setF (i := 2) (.inr rfl) sc__law_two_rows.nd rfl (by first | exact .inl rfl | exact .inr rfl) (e_c pe_int))
  (s_cons (s_for (passes_of rfl) rfl (i_rg1 (by rfl) x.m_range (e_varF (pv 0))) (g_nameF (.inr rfl) (pg_name (i := 3) sc__law_two_rows.nd rfl (by first | exact .inl rfl | exact .inr rfl)))
  (s_cons (s_setF (i := 1) (.inr rfl) sc__law_two_rows.nd rfl (by first | exact .inl rfl | exact .inr rfl) (e_op op_times ok_timesF (e_varF (pv 1)) (e_c pe_int)))
  (s_one (s_setF (i := 2) (.inr rfl) sc__law_two_rows.nd rfl (by first | exact .inl rfl | exact .inr rfl) (e_op op_times ok_timesF (e_varF (pv 2)) (e_c pe_int))))))
  (s_one (s_ret (e_op op_sub ok_sub (e_varF (pv 1)) (e_varF (pv 2))))))))
noncomputable def b__law_sums : List T → SRes := (mSeq (mAsg (mC (.v (.int 0))) (fN 3))
  (mSeq (mFor (mRg1 (mOp2 sPlus (fVar 0) (mC (.v (.int 1))))) (fN 4)
  (mFor (mRg1 (mOp2 sPlus (fVar 1) (mC (.v (.int 1))))) (fN 2)
  (mAsg (mOp2 sPlus (fVar 3) (mOp2 fTimes (mOp2 fTimes (mCall m__law_binomial (mCons (fVar 0) (mCons (fVar 4) mNil))) (mCall m__law_binomial (mCons (fVar 1) (mCons (fVar 2) mNil)))) (mCall m_crowded (mCons (fVar 4) (mCons (fVar 2) mNil))))) (fN 3))))
  (mSeq (mIf (mOr (mBl (mOp2 fNe (fVar 3) (mCall m_count_stairs (mCons (fVar 0) (mCons (fVar 1) mNil))))) (mBl (mOp2 fNe (fVar 3) (mCall m_count_stairs (mCons (fVar 1) (mCons (fVar 0) mNil))))))
  (mRet (mC (.v (.bl false))))
  .nx)
  (mSeq (mIf (mBl (mOp2 fEq (fVar 0) (mC (.v (.int 0)))))
  (mRet (mOp2 fEq (mCall m_covering (mCons (mC (.v (.int 0))) (mCons (fVar 1) mNil))) (mCallB sInt (mCons (mOp2 fEq (fVar 1) (mC (.v (.int 0)))) mNil))))
  .nx)
  (mSeq (mAsg (mC (.v (.int 0))) (fN 3))
  (mSeq (mFor (mRg1 (mOp2 sPlus (fVar 1) (mC (.v (.int 1))))) (fN 5)
  (mAsg (mOp2 sPlus (fVar 3) (mOp2 fTimes (mCall m__law_binomial (mCons (mOp2 sPlus (fVar 1) (mC (.v (.int 1)))) (mCons (fVar 5) mNil))) (mCall m_covering (mCons (mOp2 sSub (fVar 0) (mC (.v (.int 1)))) (mCons (fVar 5) mNil))))) (fN 3)))
  (mSeq (mIf (mBl (mOp2 fNe (mCall m_covering (mCons (mOp2 sPlus (fVar 1) (mC (.v (.int 1)))) (mCons (mOp2 sSub (fVar 0) (mC (.v (.int 1)))) mNil))) (fVar 3)))
  (mRet (mC (.v (.bl false))))
  .nx)
  (mRet (mAndV (mOp2 fEq (fVar 3) (mCall m_covering (mCons (fVar 0) (mCons (fVar 1) mNil)))) (mOp2 fEq (mCall m_count_stairs (mCons (mC (.v (.int 2))) (mCons (fVar 1) mNil))) (mCall m__law_two_rows (mCons (fVar 1) mNil))))))))))))
noncomputable def m__law_sums : List T → FRes := mFn 6 false b__law_sums
set_option maxHeartbeats 4000000 in
theorem ok__law_sums {w : World} {K : PySem.W.Frag} {mg : Str → Option Value} {base : Heap} (x : Fx K mg) : FnOk PySem.Challenge.pw_minusless_k49_sums_count_stairs w K mg base (L2.CX PySem.Challenge.pw_minusless_k49_sums_count_stairs w) 5 x.a__law_sums x.fd__law_sums ["_law_high", "_law_wide"] (spM ⟨K, mg, none⟩ (["_law_high", "_law_wide"] : List Str).length m__law_sums) := by
  refine fn_mvX (N := ["_law_high", "_law_wide", "_law_b", "_law_total", "_law_a", "_law_k"]) (m := m__law_sums) b__law_sums rfl x.F__law_sums sc__law_sums (by decide) fun cdv A outer s H E hr => ?_
  unfold b__law_sums
  exact (s_cons (s_setF (i := 3) (.inr rfl) sc__law_sums.nd rfl (by first | exact .inl rfl | exact .inr rfl) (e_c pe_int))
  (s_cons (s_for (passes_of rfl) rfl (i_rg1 (by rfl) x.m_range (e_op op_plus (ok_plus rfl) (e_varF (pv 0)) (e_c pe_int))) (g_nameF (.inr rfl) (pg_name (i := 4) sc__law_sums.nd rfl (by first | exact .inl rfl | exact .inr rfl)))
  (s_one (s_for (passes_of rfl) rfl (i_rg1 (by rfl) x.m_range (e_op op_plus (ok_plus rfl) (e_varF (pv 1)) (e_c pe_int))) (g_nameF (.inr rfl) (pg_name (i := 2) sc__law_sums.nd rfl (by first | exact .inl rfl | exact .inr rfl)))
  (s_one (s_setF (i := 3) (.inr rfl) sc__law_sums.nd rfl (by first | exact .inl rfl | exact .inr rfl) (e_op op_plus (ok_plus rfl) (e_varF (pv 3)) (e_op op_times ok_timesF (e_op op_times ok_timesF (e_call (ok__law_binomial x) (hr.mono (by decide)) (by rfl) x.g__law_binomial x.F__law_binomial.kp x.b__law_binomial rfl (takes_of rfl rfl rfl rfl) (e_cons (e_varF (pv 0)) (e_cons (e_varF (pv 4)) e_nil)) (len_cons (len_cons (fun _ _ _ h => len_nil h)))) (e_call (ok__law_binomial x) (hr.mono (by decide)) (by rfl) x.g__law_binomial x.F__law_binomial.kp x.b__law_binomial rfl (takes_of rfl rfl rfl rfl) (e_cons (e_varF (pv 1)) (e_cons (e_varF (pv 2)) e_nil)) (len_cons (len_cons (fun _ _ _ h => len_nil h))))) (e_call (ok_crowded x) (hr.mono (by decide)) (by rfl) x.g_crowded x.F_crowded.kp x.b_crowded rfl (takes_of rfl rfl rfl rfl) (e_cons (e_varF (pv 4)) (e_cons (e_varF (pv 2)) e_nil)) (len_cons (len_cons (fun _ _ _ h => len_nil h)))))))))))
  (s_cons (s_if (t_or (t_cmp (op_neD hr.units) (ok_neF rfl) (e_varF (pv 3)) (e_call (ok_count_stairs x) (hr.mono (by decide)) (by rfl) x.g_count_stairs x.F_count_stairs.kp x.b_count_stairs rfl (takes_of rfl rfl rfl rfl) (e_cons (e_varF (pv 0)) (e_cons (e_varF (pv 1)) e_nil)) (len_cons (len_cons (fun _ _ _ h => len_nil h)))) (nomark _)) (t_or1 (t_cmp (op_neD hr.units) (ok_neF rfl) (e_varF (pv 3)) (e_call (ok_count_stairs x) (hr.mono (by decide)) (by rfl) x.g_count_stairs x.F_count_stairs.kp x.b_count_stairs rfl (takes_of rfl rfl rfl rfl) (e_cons (e_varF (pv 1)) (e_cons (e_varF (pv 0)) e_nil)) (len_cons (len_cons (fun _ _ _ h => len_nil h)))) (nomark _)))).pt
  (s_one (s_ret (e_c pe_bl)))
  s_nil)
  (s_cons (s_if (t_cmp (op_eqD hr.units) (ok_eqF rfl) (e_varF (pv 0)) (e_c pe_int) (nomark _))
  (s_one (s_ret (e_cmp (op_eqD hr.units) (ok_eqF rfl) (e_call (ok_covering x) (hr.mono (by decide)) (by rfl) x.g_covering x.F_covering.kp x.b_covering rfl (takes_of rfl rfl rfl rfl) (e_cons (e_c pe_int) (e_cons (e_varF (pv 1)) e_nil)) (len_cons (len_cons (fun _ _ _ h => len_nil h)))) (e_callTy (call_int1) (okc_int) (by rfl) x.m_int (by decide +kernel) (e_cons (e_cmp (op_eqD hr.units) (ok_eqF rfl) (e_varF (pv 1)) (e_c pe_int) (nomark _)) e_nil)) (nomark _))))
  s_nil)
  (s_cons (s_setF (i := 3) (.inr rfl) sc__law_sums.nd rfl (by first | exact .inl rfl | exact .inr rfl) (e_c pe_int))
  (s_cons (s_for (passes_of rfl) rfl (i_rg1 (by rfl) x.m_range (e_op op_plus (ok_plus rfl) (e_varF (pv 1)) (e_c pe_int))) (g_nameF (.inr rfl) (pg_name (i := 5) sc__law_sums.nd rfl (by first | exact .inl rfl | exact .inr rfl)))
  (s_one (s_setF (i := 3) (.inr rfl) sc__law_sums.nd rfl (by first | exact .inl rfl | exact .inr rfl) (e_op op_plus (ok_plus rfl) (e_varF (pv 3)) (e_op op_times ok_timesF (e_call (ok__law_binomial x) (hr.mono (by decide)) (by rfl) x.g__law_binomial x.F__law_binomial.kp x.b__law_binomial rfl (takes_of rfl rfl rfl rfl) (e_cons (e_op op_plus (ok_plus rfl) (e_varF (pv 1)) (e_c pe_int)) (e_cons (e_varF (pv 5)) e_nil)) (len_cons (len_cons (fun _ _ _ h => len_nil h)))) (e_call (ok_covering x) (hr.mono (by decide)) (by rfl) x.g_covering x.F_covering.kp x.b_covering rfl (takes_of rfl rfl rfl rfl) (e_cons (e_op op_sub ok_sub (e_varF (pv 0)) (e_c pe_int)) (e_cons (e_varF (pv 5)) e_nil)) (len_cons (len_cons (fun _ _ _ h => len_nil h)))))))))
  (s_cons (s_if (t_cmp (op_neD hr.units) (ok_neF rfl) (e_call (ok_covering x) (hr.mono (by decide)) (by rfl) x.g_covering x.F_covering.kp x.b_covering rfl (takes_of rfl rfl rfl rfl) (e_cons (e_op op_plus (ok_plus rfl) (e_varF (pv 1)) (e_c pe_int)) (e_cons (e_op op_sub ok_sub (e_varF (pv 0)) (e_c pe_int)) e_nil)) (len_cons (len_cons (fun _ _ _ h => len_nil h)))) (e_varF (pv 3)) (nomark _))
  (s_one (s_ret (e_c pe_bl)))
  s_nil)
  (s_one (s_ret (e_and (e_cmp (op_eqD hr.units) (ok_eqF rfl) (e_varF (pv 3)) (e_call (ok_covering x) (hr.mono (by decide)) (by rfl) x.g_covering x.F_covering.kp x.b_covering rfl (takes_of rfl rfl rfl rfl) (e_cons (e_varF (pv 0)) (e_cons (e_varF (pv 1)) e_nil)) (len_cons (len_cons (fun _ _ _ h => len_nil h)))) (nomark _)) (e_one (e_cmp (op_eqD hr.units) (ok_eqF rfl) (e_call (ok_count_stairs x) (hr.mono (by decide)) (by rfl) x.g_count_stairs x.F_count_stairs.kp x.b_count_stairs rfl (takes_of rfl rfl rfl rfl) (e_cons (e_c pe_int) (e_cons (e_varF (pv 1)) e_nil)) (len_cons (len_cons (fun _ _ _ h => len_nil h)))) (e_call (ok__law_two_rows x) (hr.mono (by decide)) (by rfl) x.g__law_two_rows x.F__law_two_rows.kp x.b__law_two_rows rfl (takes_of rfl rfl rfl rfl) (e_cons (e_varF (pv 1)) e_nil) (len_cons (fun _ _ _ h => len_nil h))) (nomark _)))))))))))))
noncomputable def b__law_refuses : List T → SRes := (mSeq (mAsg (mLst mNil) (fN 4))
  (mSeq (mFor (mItL (mLst (mCons (mC (.v (.str "high"))) (mCons (mC (.v (.str "wide"))) (mCons (mC (.v (.str "size"))) (mCons (mC (.v (.str "many"))) mNil)))))) (fN 2)
  (mSeq (mAsg (mC (.v (.str ""))) (fN 3))
  (mSeq (mTry relX (mIf (mBl (mOp2 fEq (fVar 2) (mC (.v (.str "high")))))
  (mEx (mCall m_count_stairs (mCons (fVar 0) (mCons (fVar 0) mNil))))
  (mIf (mBl (mOp2 fEq (fVar 2) (mC (.v (.str "wide")))))
  (mEx (mCall m_covering (mCons (fVar 1) (mCons (fVar 0) mNil))))
  (mIf (mBl (mOp2 fEq (fVar 2) (mC (.v (.str "size")))))
  (mEx (mCall m_choose (mCons (mOp2 sPlus (fVar 0) (mC (.v (.int 48)))) (mCons (mNeg (mC (.v (.int 1)))) mNil))))
  (mEx (mCall m_choose (mCons (fVar 1) (mCons (mOp2 sPlus (fVar 0) (mC (.v (.int 48)))) mNil)))))))
  (("BadWant", some 5, (mAsg (mXf 5 "BadWant" "word") (fN 3))) :: (("MinusError", none, (mAsg (mC (.v (.str "other"))) (fN 3))) :: [])))
  (mEx (mAppN 4 (fVar 3))))))
  (mRet (mOp2 fEq (fVar 4) (mLst (mCons (mC (.v (.str "high"))) (mCons (mC (.v (.str "wide"))) (mCons (mC (.v (.str "size"))) (mCons (mC (.v (.str "many"))) mNil)))))))))
noncomputable def m__law_refuses : List T → FRes := mFn 6 false b__law_refuses
set_option maxHeartbeats 4000000 in
theorem ok__law_refuses {w : World} {K : PySem.W.Frag} {mg : Str → Option Value} {base : Heap} (x : Fx K mg) : FnOk PySem.Challenge.pw_minusless_k49_sums_count_stairs w K mg base (L2.CX PySem.Challenge.pw_minusless_k49_sums_count_stairs w) 5 x.a__law_refuses x.fd__law_refuses ["_law_bad", "_law_good"] (spM ⟨K, mg, none⟩ (["_law_bad", "_law_good"] : List Str).length m__law_refuses) := by
  refine fn_mvX (N := ["_law_bad", "_law_good", "_law_word", "_law_got", "_law_told", "raised"]) (m := m__law_refuses) b__law_refuses rfl x.F__law_refuses sc__law_refuses (by decide) fun cdv A outer s H E hr => ?_
  unfold b__law_refuses
  exact (s_cons (s_setF (i := 4) (.inr rfl) sc__law_refuses.nd rfl (by first | exact .inl rfl | exact .inr rfl) (e_lst e_nil))
  (s_cons (s_for (passes_of rfl) rfl (i_list rfl (e_lst (e_cons (e_c pe_str) (e_cons (e_c pe_str) (e_cons (e_c pe_str) (e_cons (e_c pe_str) e_nil)))))) (g_nameF (.inr rfl) (pg_name (i := 2) sc__law_refuses.nd rfl (by first | exact .inl rfl | exact .inr rfl)))
  (s_cons (s_setF (i := 3) (.inr rfl) sc__law_refuses.nd rfl (by first | exact .inl rfl | exact .inr rfl) (e_c pe_str))
  (s_cons (s_try rfl (relX_ok x) rfl rfl sc__law_refuses.nd (takes_of rfl rfl rfl rfl) (fun W pn xe tkT psT => (s_one (s_if (t_cmp (op_eqD hr.units) (ok_eqF rfl) (e_varF (pv 2)) (e_c pe_str) (nomark _))
  (s_one (s_expr (e_call (ok_count_stairs x) (hr.mono (by decide)) (by rfl) x.g_count_stairs x.F_count_stairs.kp x.b_count_stairs rfl tkT (e_cons (e_varF (pv 0)) (e_cons (e_varF (pv 0)) e_nil)) (len_cons (len_cons (fun _ _ _ h => len_nil h))))))
  (s_one (s_if (t_cmp (op_eqD hr.units) (ok_eqF rfl) (e_varF (pv 2)) (e_c pe_str) (nomark _))
  (s_one (s_expr (e_call (ok_covering x) (hr.mono (by decide)) (by rfl) x.g_covering x.F_covering.kp x.b_covering rfl tkT (e_cons (e_varF (pv 1)) (e_cons (e_varF (pv 0)) e_nil)) (len_cons (len_cons (fun _ _ _ h => len_nil h))))))
  (s_one (s_if (t_cmp (op_eqD hr.units) (ok_eqF rfl) (e_varF (pv 2)) (e_c pe_str) (nomark _))
  (s_one (s_expr (e_call (ok_choose x) (hr.mono (by decide)) (by rfl) x.g_choose x.F_choose.kp x.b_choose rfl tkT (e_cons (e_op op_plus (ok_plus rfl) (e_varF (pv 0)) (e_c pe_int)) (e_cons (e_neg (e_c pe_int)) e_nil)) (len_cons (len_cons (fun _ _ _ h => len_nil h))))))
  (s_one (s_expr (e_call (ok_choose x) (hr.mono (by decide)) (by rfl) x.g_choose x.F_choose.kp x.b_choose rfl tkT (e_cons (e_varF (pv 1)) (e_cons (e_op op_plus (ok_plus rfl) (e_varF (pv 0)) (e_c pe_int)) e_nil)) (len_cons (len_cons (fun _ _ _ h => len_nil h)))))))))))))
  (MxOk.named (i := 5) (nm_of (by rfl) x.k_BadWant) x.k_BadWant rfl rfl (.inr rfl) (fun _ _ _ _ _ hz hd => (s_one (s_setF (i := 3) (.inr rfl) sc__law_refuses.nd rfl (by first | exact .inl rfl | exact .inr rfl) (e_xfld x.X_BadWant (by decide) rfl hz hd (pv 5)))))
  (MxOk.only (nm_of (by rfl) x.k_MinusError) x.k_MinusError (fun _ _ _ _ _ hz hd => (s_one (s_setF (i := 3) (.inr rfl) sc__law_refuses.nd rfl (by first | exact .inl rfl | exact .inr rfl) (e_c pe_str))))
  MxOk.nil)))
  (s_one (s_expr (e_appN (pv 4) (e_varF (pv 3))))))))
  (s_one (s_ret (e_cmp (op_eqD hr.units) (ok_eqF rfl) (e_varF (pv 4)) (e_lst (e_cons (e_c pe_str) (e_cons (e_c pe_str) (e_cons (e_c pe_str) (e_cons (e_c pe_str) e_nil))))) (nomark _))))))
noncomputable def b_law : List T → SRes := (mSeq (mAsg (mCall m__law_draws (mCons (fVar 0) mNil)) (fN 1))
  (mSeq (mAsg (mOp2 fIx (mLst (mCons (mC (.v (.int 4))) (mCons (mC (.v (.int 13))) mNil))) (mLend 1 m__law_take (mCons (mC (.v (.int 2))) mNil))) (fN 2))
  (mSeq (mAsg (mLend 1 m__law_take (mCons (fVar 2) mNil)) (fN 3))
  (mSeq (mAsg (mLend 1 m__law_take (mCons (fVar 2) mNil)) (fN 4))
  (mSeq (mAsg (mLst (mCons (mOp2 fIx (mOp2 fIx (mCall m__law_counts (mCons (fVar 3) (mCons (fVar 4) mNil))) (fVar 3)) (fVar 4)) (mCons (mOp2 fIx (mCall m__law_coverings (mCons (fVar 3) (mCons (fVar 4) mNil))) (fVar 3)) (mCons (mCall m__law_crowded (mCons (fVar 3) (mCons (fVar 4) mNil))) mNil)))) (fN 5))
  (mSeq (mIf (mAnd (mBl (mOp2 sLe (fVar 3) (mC (.v (.int 3))))) (mBl (mOp2 sLe (fVar 4) (mC (.v (.int 3))))))
  (mAsg (mCall m__law_by_listing (mCons (fVar 3) (mCons (fVar 4) mNil))) (fN 5))
  .nx)
  (mSeq (mIf (mOr (mNot (mTru (mCall m__law_whole (mCons (mCall m_count_stairs (mCons (fVar 3) (mCons (fVar 4) mNil))) (mCons (fIxN 5 (mC (.v (.int 0)))) mNil))))) (mNot (mTru (mCall m__law_whole (mCons (mCall m_covering (mCons (fVar 3) (mCons (fVar 4) mNil))) (mCons (fIxN 5 (mC (.v (.int 1)))) mNil))))))
  (mRet (mC (.v (.bl false))))
  .nx)
  (mSeq (mIf (mNot (mTru (mCall m__law_whole (mCons (mCall m_crowded (mCons (fVar 3) (mCons (fVar 4) mNil))) (mCons (fIxN 5 (mC (.v (.int 2)))) mNil)))))
  (mRet (mC (.v (.bl false))))
  .nx)
  (mSeq (mIf (mNot (mTru (mCall m__law_sums (mCons (mOp2 sMod (mCallB sInt (mCons (fVar 3) mNil)) (mC (.v (.int 6)))) (mCons (mOp2 sMod (mCallB sInt (mCons (fVar 4) mNil)) (mC (.v (.int 6)))) mNil)))))
  (mRet (mC (.v (.bl false))))
  .nx)
  (mSeq (mAsg (mLend 1 m__law_take (mCons (mC (.v (.int 61))) mNil)) (fN 6))
  (mSeq (mAsg (mLend 1 m__law_take (mCons (mC (.v (.int 61))) mNil)) (fN 7))
  (mSeq (mIf (mNot (mTru (mCall m__law_whole (mCons (mCall m_choose (mCons (fVar 6) (mCons (fVar 7) mNil))) (mCons (mCall m__law_binomial (mCons (fVar 6) (mCons (fVar 7) mNil))) mNil)))))
  (mRet (mC (.v (.bl false))))
  .nx)
  (mRet (mCall m__law_refuses (mCons (mOp2 sPlus (mC (.v (.int 13))) (mLend 1 m__law_take (mCons (mC (.v (.int 9))) mNil))) (mCons (fVar 3) mNil))))))))))))))))
noncomputable def m_law : List T → FRes := mFn 8 false b_law
set_option maxHeartbeats 4000000 in
theorem ok_law {w : World} {K : PySem.W.Frag} {mg : Str → Option Value} {base : Heap} (x : Fx K mg) : FnOk PySem.Challenge.pw_minusless_k49_sums_count_stairs w K mg base (L2.CX PySem.Challenge.pw_minusless_k49_sums_count_stairs w) 6 x.a_law x.fd_law ["_law_script"] (spM ⟨K, mg, none⟩ (["_law_script"] : List Str).length m_law) := by
  refine fn_mvX (N := ["_law_script", "_law_draws_here", "_law_most", "_law_high", "_law_wide", "_law_due", "_law_size", "_law_many"]) (m := m_law) b_law rfl x.F_law sc_law (by decide) fun cdv A outer s H E hr => ?_
  unfold b_law
  exact (s_cons (s_setF (i := 1) (.inr rfl) sc_law.nd rfl (by first | exact .inl rfl | exact .inr rfl) (e_call (ok__law_draws x) (hr.mono (by decide)) (by rfl) x.g__law_draws x.F__law_draws.kp x.b__law_draws rfl (takes_of rfl rfl rfl rfl) (e_cons (e_varF (pv 0)) e_nil) (len_cons (fun _ _ _ h => len_nil h))))
  (s_cons (s_setF (i := 2) (.inr rfl) sc_law.nd rfl (by first | exact .inl rfl | exact .inr rfl) (e_ix ix_seq (ok_ixF rfl) (e_lst (e_cons (e_c pe_int) (e_cons (e_c pe_int) e_nil))) (e_lend (ok__law_take x) (hr.mono (by decide)) (by rfl) x.g__law_take x.F__law_take.kp x.b__law_take rfl (takes_of rfl rfl rfl rfl) (pv 1) (e_cons (e_c pe_int) e_nil) (fun σ ts σ1 h => congrArg (· + 1) ((len_cons (fun _ _ _ h => len_nil h)) σ ts σ1 h))) (fun _ _ => rfl)))
  (s_cons (s_setF (i := 3) (.inr rfl) sc_law.nd rfl (by first | exact .inl rfl | exact .inr rfl) (e_lend (ok__law_take x) (hr.mono (by decide)) (by rfl) x.g__law_take x.F__law_take.kp x.b__law_take rfl (takes_of rfl rfl rfl rfl) (pv 1) (e_cons (e_varF (pv 2)) e_nil) (fun σ ts σ1 h => congrArg (· + 1) ((len_cons (fun _ _ _ h => len_nil h)) σ ts σ1 h))))
  (s_cons (s_setF (i := 4) (.inr rfl) sc_law.nd rfl (by first | exact .inl rfl | exact .inr rfl) (e_lend (ok__law_take x) (hr.mono (by decide)) (by rfl) x.g__law_take x.F__law_take.kp x.b__law_take rfl (takes_of rfl rfl rfl rfl) (pv 1) (e_cons (e_varF (pv 2)) e_nil) (fun σ ts σ1 h => congrArg (· + 1) ((len_cons (fun _ _ _ h => len_nil h)) σ ts σ1 h))))
  (s_cons (s_setF (i := 5) (.inr rfl) sc_law.nd rfl (by first | exact .inl rfl | exact .inr rfl) (e_lst (e_cons (e_ix ix_seq (ok_ixF rfl) (e_ix ix_seq (ok_ixF rfl) (e_call (ok__law_counts x) (hr.mono (by decide)) (by rfl) x.g__law_counts x.F__law_counts.kp x.b__law_counts rfl (takes_of rfl rfl rfl rfl) (e_cons (e_varF (pv 3)) (e_cons (e_varF (pv 4)) e_nil)) (len_cons (len_cons (fun _ _ _ h => len_nil h)))) (e_varF (pv 3)) (fun _ _ => rfl)) (e_varF (pv 4)) (fun _ _ => rfl)) (e_cons (e_ix ix_seq (ok_ixF rfl) (e_call (ok__law_coverings x) (hr.mono (by decide)) (by rfl) x.g__law_coverings x.F__law_coverings.kp x.b__law_coverings rfl (takes_of rfl rfl rfl rfl) (e_cons (e_varF (pv 3)) (e_cons (e_varF (pv 4)) e_nil)) (len_cons (len_cons (fun _ _ _ h => len_nil h)))) (e_varF (pv 3)) (fun _ _ => rfl)) (e_cons (e_call (ok__law_crowded x) (hr.mono (by decide)) (by rfl) x.g__law_crowded x.F__law_crowded.kp x.b__law_crowded rfl (takes_of rfl rfl rfl rfl) (e_cons (e_varF (pv 3)) (e_cons (e_varF (pv 4)) e_nil)) (len_cons (len_cons (fun _ _ _ h => len_nil h)))) e_nil)))))
  (s_cons (s_if (t_and (t_cmp op_le ok_le (e_varF (pv 3)) (e_c pe_int) (nomark _)) (t_and1 (t_cmp op_le ok_le (e_varF (pv 4)) (e_c pe_int) (nomark _)))).pt
  (s_one (s_setF (i := 5) (.inr rfl) sc_law.nd rfl (by first | exact .inl rfl | exact .inr rfl) (e_call (ok__law_by_listing x) (hr.mono (by decide)) (by rfl) x.g__law_by_listing x.F__law_by_listing.kp x.b__law_by_listing rfl (takes_of rfl rfl rfl rfl) (e_cons (e_varF (pv 3)) (e_cons (e_varF (pv 4)) e_nil)) (len_cons (len_cons (fun _ _ _ h => len_nil h))))))
  s_nil)
  (s_cons (s_if (t_or (t_not (t_val rfl (e_call (ok__law_whole x) (hr.mono (by decide)) (by rfl) x.g__law_whole x.F__law_whole.kp x.b__law_whole rfl (takes_of rfl rfl rfl rfl) (e_cons (e_call (ok_count_stairs x) (hr.mono (by decide)) (by rfl) x.g_count_stairs x.F_count_stairs.kp x.b_count_stairs rfl (takes_of rfl rfl rfl rfl) (e_cons (e_varF (pv 3)) (e_cons (e_varF (pv 4)) e_nil)) (len_cons (len_cons (fun _ _ _ h => len_nil h)))) (e_cons (e_ixNF rfl (pv 5) (e_c pe_int) (fun _ _ => rfl)) e_nil)) (len_cons (len_cons (fun _ _ _ h => len_nil h)))))) (t_or1 (t_not (t_val rfl (e_call (ok__law_whole x) (hr.mono (by decide)) (by rfl) x.g__law_whole x.F__law_whole.kp x.b__law_whole rfl (takes_of rfl rfl rfl rfl) (e_cons (e_call (ok_covering x) (hr.mono (by decide)) (by rfl) x.g_covering x.F_covering.kp x.b_covering rfl (takes_of rfl rfl rfl rfl) (e_cons (e_varF (pv 3)) (e_cons (e_varF (pv 4)) e_nil)) (len_cons (len_cons (fun _ _ _ h => len_nil h)))) (e_cons (e_ixNF rfl (pv 5) (e_c pe_int) (fun _ _ => rfl)) e_nil)) (len_cons (len_cons (fun _ _ _ h => len_nil h)))))))).pt
  (s_one (s_ret (e_c pe_bl)))
  s_nil)
  (s_cons (s_if (t_not (t_val rfl (e_call (ok__law_whole x) (hr.mono (by decide)) (by rfl) x.g__law_whole x.F__law_whole.kp x.b__law_whole rfl (takes_of rfl rfl rfl rfl) (e_cons (e_call (ok_crowded x) (hr.mono (by decide)) (by rfl) x.g_crowded x.F_crowded.kp x.b_crowded rfl (takes_of rfl rfl rfl rfl) (e_cons (e_varF (pv 3)) (e_cons (e_varF (pv 4)) e_nil)) (len_cons (len_cons (fun _ _ _ h => len_nil h)))) (e_cons (e_ixNF rfl (pv 5) (e_c pe_int) (fun _ _ => rfl)) e_nil)) (len_cons (len_cons (fun _ _ _ h => len_nil h))))))
  (s_one (s_ret (e_c pe_bl)))
  s_nil)
  (s_cons (s_if (t_not (t_val rfl (e_call (ok__law_sums x) (hr.mono (by decide)) (by rfl) x.g__law_sums x.F__law_sums.kp x.b__law_sums rfl (takes_of rfl rfl rfl rfl) (e_cons (e_op op_mod ok_mod (e_callTy (call_int1) (okc_int) (by rfl) x.m_int (by decide +kernel) (e_cons (e_varF (pv 3)) e_nil)) (e_c pe_int)) (e_cons (e_op op_mod ok_mod (e_callTy (call_int1) (okc_int) (by rfl) x.m_int (by decide +kernel) (e_cons (e_varF (pv 4)) e_nil)) (e_c pe_int)) e_nil)) (len_cons (len_cons (fun _ _ _ h => len_nil h))))))
  (s_one (s_ret (e_c pe_bl)))
  s_nil)
  (s_cons (s_setF (i := 6) (.inr rfl) sc_law.nd rfl (by first | exact .inl rfl | exact .inr rfl) (e_lend (ok__law_take x) (hr.mono (by decide)) (by rfl) x.g__law_take x.F__law_take.kp x.b__law_take rfl (takes_of rfl rfl rfl rfl) (pv 1) (e_cons (e_c pe_int) e_nil) (fun σ ts σ1 h => congrArg (· + 1) ((len_cons (fun _ _ _ h => len_nil h)) σ ts σ1 h))))
  (s_cons (s_setF (i := 7) (.inr rfl) sc_law.nd rfl (by first | exact .inl rfl | exact .inr rfl) (e_lend (ok__law_take x) (hr.mono (by decide)) (by rfl) x.g__law_take x.F__law_take.kp x.b__law_take rfl (takes_of rfl rfl rfl rfl) (pv 1) (e_cons (e_c pe_int) e_nil) (fun σ ts σ1 h => congrArg (· + 1) ((len_cons (fun _ _ _ h => len_nil h)) σ ts σ1 h))))
  (s_cons (s_if (t_not (t_val rfl (e_call (ok__law_whole x) (hr.mono (by decide)) (by rfl) x.g__law_whole x.F__law_whole.kp x.b__law_whole rfl (takes_of rfl rfl rfl rfl) (e_cons (e_call (ok_choose x) (hr.mono (by decide)) (by rfl) x.g_choose x.F_choose.kp x.b_choose rfl (takes_of rfl rfl rfl rfl) (e_cons (e_varF (pv 6)) (e_cons (e_varF (pv 7)) e_nil)) (len_cons (len_cons (fun _ _ _ h => len_nil h)))) (e_cons (e_call (ok__law_binomial x) (hr.mono (by decide)) (by rfl) x.g__law_binomial x.F__law_binomial.kp x.b__law_binomial rfl (takes_of rfl rfl rfl rfl) (e_cons (e_varF (pv 6)) (e_cons (e_varF (pv 7)) e_nil)) (len_cons (len_cons (fun _ _ _ h => len_nil h)))) e_nil)) (len_cons (len_cons (fun _ _ _ h => len_nil h))))))
  (s_one (s_ret (e_c pe_bl)))
  s_nil)
  (s_one (s_ret (e_call (ok__law_refuses x) (hr.mono (by decide)) (by rfl) x.g__law_refuses x.F__law_refuses.kp x.b__law_refuses rfl (takes_of rfl rfl rfl rfl) (e_cons (e_op op_plus (ok_plus rfl) (e_c pe_int) (e_lend (ok__law_take x) (hr.mono (by decide)) (by rfl) x.g__law_take x.F__law_take.kp x.b__law_take rfl (takes_of rfl rfl rfl rfl) (pv 1) (e_cons (e_c pe_int) e_nil) (fun σ ts σ1 h => congrArg (· + 1) ((len_cons (fun _ _ _ h => len_nil h)) σ ts σ1 h)))) (e_cons (e_varF (pv 3)) e_nil)) (len_cons (len_cons (fun _ _ _ h => len_nil h))))))))))))))))))
set_option maxHeartbeats 4000000 in
theorem all_mk {w : World} {K : PySem.W.Frag} {h : Heap} {mg : Str → Option Value} {fa : Addr} (X : K.In h) (G : h.Ns mainGlobals mg) (hfa : mg "law" = some (.ref fa)) (hp : Plain m_law)
    {f0 : Addr} {od0 an0 : Option Addr} {sl0 : Array (Option Value)} {oc0 kV0 dc0 pm0 cd0 ct0 : Value}
    {f1 : Addr} {od1 an1 : Option Addr} {sl1 : Array (Option Value)} {oc1 kV1 dc1 pm1 cd1 ct1 : Value}
    {f2 : Addr} {od2 an2 : Option Addr} {sl2 : Array (Option Value)} {oc2 kV2 dc2 pm2 cd2 ct2 : Value}
    {f3 : Addr} {od3 an3 : Option Addr} {sl3 : Array (Option Value)} {oc3 kV3 dc3 pm3 cd3 ct3 : Value}
    {f4 : Addr} {od4 an4 : Option Addr} {sl4 : Array (Option Value)} {oc4 kV4 dc4 pm4 cd4 ct4 : Value}
    {f5 : Addr} {od5 an5 : Option Addr} {sl5 : Array (Option Value)} {oc5 kV5 dc5 pm5 cd5 ct5 : Value}
    {f6 : Addr} {od6 an6 : Option Addr} {sl6 : Array (Option Value)} {oc6 kV6 dc6 pm6 cd6 ct6 : Value}
    {f7 : Addr} {od7 an7 : Option Addr} {sl7 : Array (Option Value)} {oc7 kV7 dc7 pm7 cd7 ct7 : Value}
    {f8 : Addr} {od8 an8 : Option Addr} {sl8 : Array (Option Value)} {oc8 kV8 dc8 pm8 cd8 ct8 : Value}
    {f9 : Addr} {od9 an9 : Option Addr} {sl9 : Array (Option Value)} {oc9 kV9 dc9 pm9 cd9 ct9 : Value}
    {f10 : Addr} {od10 an10 : Option Addr} {sl10 : Array (Option Value)} {oc10 kV10 dc10 pm10 cd10 ct10 : Value}
    {f11 : Addr} {od11 an11 : Option Addr} {sl11 : Array (Option Value)} {oc11 kV11 dc11 pm11 cd11 ct11 : Value}
    {f12 : Addr} {od12 an12 : Option Addr} {sl12 : Array (Option Value)} {oc12 kV12 dc12 pm12 cd12 ct12 : Value}
    {f13 : Addr} {od13 an13 : Option Addr} {sl13 : Array (Option Value)} {oc13 kV13 dc13 pm13 cd13 ct13 : Value}
    {f14 : Addr} {od14 an14 : Option Addr} {sl14 : Array (Option Value)} {oc14 kV14 dc14 pm14 cd14 ct14 : Value}
    {f15 : Addr} {od15 an15 : Option Addr} {sl15 : Array (Option Value)} {oc15 kV15 dc15 pm15 cd15 ct15 : Value}
    {f16 : Addr} {od16 an16 : Option Addr} {sl16 : Array (Option Value)} {oc16 kV16 dc16 pm16 cd16 ct16 : Value}
    {f17 : Addr} {od17 an17 : Option Addr} {sl17 : Array (Option Value)} {oc17 kV17 dc17 pm17 cd17 ct17 : Value}
    {f18 : Addr} {od18 an18 : Option Addr} {sl18 : Array (Option Value)} {oc18 kV18 dc18 pm18 cd18 ct18 : Value}
    {f19 : Addr} {od19 an19 : Option Addr} {sl19 : Array (Option Value)} {oc19 kV19 dc19 pm19 cd19 ct19 : Value}
    {f20 : Addr} {od20 an20 : Option Addr} {sl20 : Array (Option Value)} {oc20 kV20 dc20 pm20 cd20 ct20 : Value}
    {f21 : Addr} {od21 an21 : Option Addr} {sl21 : Array (Option Value)} {oc21 kV21 dc21 pm21 cd21 ct21 : Value}
    {t_MOST_CHOSEN : Tok}
    {t_MOST_COUNTED : Tok}
    {C_MinusError : Addr}
    {C_BadWant : Addr}
    {i_BadWant cda_BadWant cc_BadWant : Addr} {nm_BadWant q_BadWant : Str} {N_BadWant : Addr} {bs_BadWant : List Value} {sn_BadWant : List Str} {sub_BadWant : List Value} {ab_BadWant : Bool} {col_BadWant : Option Bool} {dd_BadWant : Option Addr} {mA_BadWant mB_BadWant mC_BadWant mD_BadWant mE_BadWant : Option Value}
    {D0_BadWant : Addr}
    {oc_BadWant doc_BadWant pm_BadWant ct_BadWant ccl_BadWant cl_BadWant : Value} {od_BadWant an_BadWant cdd_BadWant cld_BadWant : Option Addr} {osl_BadWant ccs_BadWant csl_BadWant : Array (Option Value)} {vs_BadWant : Array Value} {file_BadWant : Str} {tf_BadWant : Tok}
    {ci_xBadWant : PySem.ClassData}
    {ci_xMinusError : PySem.ClassData}
    (a0 : PySem.W.nsIn K mainGlobals "is_plain_integer" = some (some (.ref f0)))
    (l0 : K.lookup f0 = some ⟨oc0, od0, .func (PySem.W.fnOf "is_plain_integer" "is_plain_integer" (defArgs s_is_plain_integer) (defBody s_is_plain_integer) (defScope s_is_plain_integer) .none kV0 dc0 pm0 an0 cd0 ct0), sl0⟩)
    (c0 : PySem.W.codeIn K cd0 "is_plain_integer" = true)
    (k0 : PySem.W.keepIn K (.ref f0) = true)
    (a1 : PySem.W.nsIn K mainGlobals "check_count" = some (some (.ref f1)))
    (l1 : K.lookup f1 = some ⟨oc1, od1, .func (PySem.W.fnOf "check_count" "check_count" (defArgs s_check_count) (defBody s_check_count) (defScope s_check_count) .none kV1 dc1 pm1 an1 cd1 ct1), sl1⟩)
    (c1 : PySem.W.codeIn K cd1 "check_count" = true)
    (k1 : PySem.W.keepIn K (.ref f1) = true)
    (a2 : PySem.W.nsIn K mainGlobals "choose" = some (some (.ref f2)))
    (l2 : K.lookup f2 = some ⟨oc2, od2, .func (PySem.W.fnOf "choose" "choose" (defArgs s_choose) (defBody s_choose) (defScope s_choose) .none kV2 dc2 pm2 an2 cd2 ct2), sl2⟩)
    (c2 : PySem.W.codeIn K cd2 "choose" = true)
    (k2 : PySem.W.keepIn K (.ref f2) = true)
    (a3 : PySem.W.nsIn K mainGlobals "choose_rows" = some (some (.ref f3)))
    (l3 : K.lookup f3 = some ⟨oc3, od3, .func (PySem.W.fnOf "choose_rows" "choose_rows" (defArgs s_choose_rows) (defBody s_choose_rows) (defScope s_choose_rows) .none kV3 dc3 pm3 an3 cd3 ct3), sl3⟩)
    (c3 : PySem.W.codeIn K cd3 "choose_rows" = true)
    (k3 : PySem.W.keepIn K (.ref f3) = true)
    (a4 : PySem.W.nsIn K mainGlobals "covering_rows" = some (some (.ref f4)))
    (l4 : K.lookup f4 = some ⟨oc4, od4, .func (PySem.W.fnOf "covering_rows" "covering_rows" (defArgs s_covering_rows) (defBody s_covering_rows) (defScope s_covering_rows) .none kV4 dc4 pm4 an4 cd4 ct4), sl4⟩)
    (c4 : PySem.W.codeIn K cd4 "covering_rows" = true)
    (k4 : PySem.W.keepIn K (.ref f4) = true)
    (a5 : PySem.W.nsIn K mainGlobals "stair_counts" = some (some (.ref f5)))
    (l5 : K.lookup f5 = some ⟨oc5, od5, .func (PySem.W.fnOf "stair_counts" "stair_counts" (defArgs s_stair_counts) (defBody s_stair_counts) (defScope s_stair_counts) .none kV5 dc5 pm5 an5 cd5 ct5), sl5⟩)
    (c5 : PySem.W.codeIn K cd5 "stair_counts" = true)
    (k5 : PySem.W.keepIn K (.ref f5) = true)
    (a6 : PySem.W.nsIn K mainGlobals "covering" = some (some (.ref f6)))
    (l6 : K.lookup f6 = some ⟨oc6, od6, .func (PySem.W.fnOf "covering" "covering" (defArgs s_covering) (defBody s_covering) (defScope s_covering) .none kV6 dc6 pm6 an6 cd6 ct6), sl6⟩)
    (c6 : PySem.W.codeIn K cd6 "covering" = true)
    (k6 : PySem.W.keepIn K (.ref f6) = true)
    (a7 : PySem.W.nsIn K mainGlobals "count_stairs" = some (some (.ref f7)))
    (l7 : K.lookup f7 = some ⟨oc7, od7, .func (PySem.W.fnOf "count_stairs" "count_stairs" (defArgs s_count_stairs) (defBody s_count_stairs) (defScope s_count_stairs) .none kV7 dc7 pm7 an7 cd7 ct7), sl7⟩)
    (c7 : PySem.W.codeIn K cd7 "count_stairs" = true)
    (k7 : PySem.W.keepIn K (.ref f7) = true)
    (a8 : PySem.W.nsIn K mainGlobals "crowded" = some (some (.ref f8)))
    (l8 : K.lookup f8 = some ⟨oc8, od8, .func (PySem.W.fnOf "crowded" "crowded" (defArgs s_crowded) (defBody s_crowded) (defScope s_crowded) .none kV8 dc8 pm8 an8 cd8 ct8), sl8⟩)
    (c8 : PySem.W.codeIn K cd8 "crowded" = true)
    (k8 : PySem.W.keepIn K (.ref f8) = true)
    (a9 : PySem.W.nsIn K mainGlobals "_law_draws" = some (some (.ref f9)))
    (l9 : K.lookup f9 = some ⟨oc9, od9, .func (PySem.W.fnOf "_law_draws" "_law_draws" (defArgs s__law_draws) (defBody s__law_draws) (defScope s__law_draws) .none kV9 dc9 pm9 an9 cd9 ct9), sl9⟩)
    (c9 : PySem.W.codeIn K cd9 "_law_draws" = true)
    (k9 : PySem.W.keepIn K (.ref f9) = true)
    (a10 : PySem.W.nsIn K mainGlobals "_law_take" = some (some (.ref f10)))
    (l10 : K.lookup f10 = some ⟨oc10, od10, .func (PySem.W.fnOf "_law_take" "_law_take" (defArgs s__law_take) (defBody s__law_take) (defScope s__law_take) .none kV10 dc10 pm10 an10 cd10 ct10), sl10⟩)
    (c10 : PySem.W.codeIn K cd10 "_law_take" = true)
    (k10 : PySem.W.keepIn K (.ref f10) = true)
    (a11 : PySem.W.nsIn K mainGlobals "_law_whole" = some (some (.ref f11)))
    (l11 : K.lookup f11 = some ⟨oc11, od11, .func (PySem.W.fnOf "_law_whole" "_law_whole" (defArgs s__law_whole) (defBody s__law_whole) (defScope s__law_whole) .none kV11 dc11 pm11 an11 cd11 ct11), sl11⟩)
    (c11 : PySem.W.codeIn K cd11 "_law_whole" = true)
    (k11 : PySem.W.keepIn K (.ref f11) = true)
    (a12 : PySem.W.nsIn K mainGlobals "_law_binomial" = some (some (.ref f12)))
    (l12 : K.lookup f12 = some ⟨oc12, od12, .func (PySem.W.fnOf "_law_binomial" "_law_binomial" (defArgs s__law_binomial) (defBody s__law_binomial) (defScope s__law_binomial) .none kV12 dc12 pm12 an12 cd12 ct12), sl12⟩)
    (c12 : PySem.W.codeIn K cd12 "_law_binomial" = true)
    (k12 : PySem.W.keepIn K (.ref f12) = true)
    (a13 : PySem.W.nsIn K mainGlobals "_law_counts" = some (some (.ref f13)))
    (l13 : K.lookup f13 = some ⟨oc13, od13, .func (PySem.W.fnOf "_law_counts" "_law_counts" (defArgs s__law_counts) (defBody s__law_counts) (defScope s__law_counts) .none kV13 dc13 pm13 an13 cd13 ct13), sl13⟩)
    (c13 : PySem.W.codeIn K cd13 "_law_counts" = true)
    (k13 : PySem.W.keepIn K (.ref f13) = true)
    (a14 : PySem.W.nsIn K mainGlobals "_law_listed" = some (some (.ref f14)))
    (l14 : K.lookup f14 = some ⟨oc14, od14, .func (PySem.W.fnOf "_law_listed" "_law_listed" (defArgs s__law_listed) (defBody s__law_listed) (defScope s__law_listed) .none kV14 dc14 pm14 an14 cd14 ct14), sl14⟩)
    (c14 : PySem.W.codeIn K cd14 "_law_listed" = true)
    (k14 : PySem.W.keepIn K (.ref f14) = true)
    (a15 : PySem.W.nsIn K mainGlobals "_law_coverings" = some (some (.ref f15)))
    (l15 : K.lookup f15 = some ⟨oc15, od15, .func (PySem.W.fnOf "_law_coverings" "_law_coverings" (defArgs s__law_coverings) (defBody s__law_coverings) (defScope s__law_coverings) .none kV15 dc15 pm15 an15 cd15 ct15), sl15⟩)
    (c15 : PySem.W.codeIn K cd15 "_law_coverings" = true)
    (k15 : PySem.W.keepIn K (.ref f15) = true)
    (a16 : PySem.W.nsIn K mainGlobals "_law_crowded" = some (some (.ref f16)))
    (l16 : K.lookup f16 = some ⟨oc16, od16, .func (PySem.W.fnOf "_law_crowded" "_law_crowded" (defArgs s__law_crowded) (defBody s__law_crowded) (defScope s__law_crowded) .none kV16 dc16 pm16 an16 cd16 ct16), sl16⟩)
    (c16 : PySem.W.codeIn K cd16 "_law_crowded" = true)
    (k16 : PySem.W.keepIn K (.ref f16) = true)
    (a17 : PySem.W.nsIn K mainGlobals "_law_by_listing" = some (some (.ref f17)))
    (l17 : K.lookup f17 = some ⟨oc17, od17, .func (PySem.W.fnOf "_law_by_listing" "_law_by_listing" (defArgs s__law_by_listing) (defBody s__law_by_listing) (defScope s__law_by_listing) .none kV17 dc17 pm17 an17 cd17 ct17), sl17⟩)
    (c17 : PySem.W.codeIn K cd17 "_law_by_listing" = true)
    (k17 : PySem.W.keepIn K (.ref f17) = true)
    (a18 : PySem.W.nsIn K mainGlobals "_law_two_rows" = some (some (.ref f18)))
    (l18 : K.lookup f18 = some ⟨oc18, od18, .func (PySem.W.fnOf "_law_two_rows" "_law_two_rows" (defArgs s__law_two_rows) (defBody s__law_two_rows) (defScope s__law_two_rows) .none kV18 dc18 pm18 an18 cd18 ct18), sl18⟩)
    (c18 : PySem.W.codeIn K cd18 "_law_two_rows" = true)
    (k18 : PySem.W.keepIn K (.ref f18) = true)
    (a19 : PySem.W.nsIn K mainGlobals "_law_sums" = some (some (.ref f19)))
    (l19 : K.lookup f19 = some ⟨oc19, od19, .func (PySem.W.fnOf "_law_sums" "_law_sums" (defArgs s__law_sums) (defBody s__law_sums) (defScope s__law_sums) .none kV19 dc19 pm19 an19 cd19 ct19), sl19⟩)
    (c19 : PySem.W.codeIn K cd19 "_law_sums" = true)
    (k19 : PySem.W.keepIn K (.ref f19) = true)
    (a20 : PySem.W.nsIn K mainGlobals "_law_refuses" = some (some (.ref f20)))
    (l20 : K.lookup f20 = some ⟨oc20, od20, .func (PySem.W.fnOf "_law_refuses" "_law_refuses" (defArgs s__law_refuses) (defBody s__law_refuses) (defScope s__law_refuses) .none kV20 dc20 pm20 an20 cd20 ct20), sl20⟩)
    (c20 : PySem.W.codeIn K cd20 "_law_refuses" = true)
    (k20 : PySem.W.keepIn K (.ref f20) = true)
    (a21 : PySem.W.nsIn K mainGlobals "law" = some (some (.ref f21)))
    (l21 : K.lookup f21 = some ⟨oc21, od21, .func (PySem.W.fnOf "law" "law" (defArgs s_law) (defBody s_law) (defScope s_law) .none kV21 dc21 pm21 an21 cd21 ct21), sl21⟩)
    (c21 : PySem.W.codeIn K cd21 "law" = true)
    (k21 : PySem.W.keepIn K (.ref f21) = true)
    (m_bool : PySem.W.nsIn K mainGlobals "bool" = some none)
    (m_int : PySem.W.nsIn K mainGlobals "int" = some none)
    (m_isinstance : PySem.W.nsIn K mainGlobals "isinstance" = some none)
    (m_len : PySem.W.nsIn K mainGlobals "len" = some none)
    (m_list : PySem.W.nsIn K mainGlobals "list" = some none)
    (m_min : PySem.W.nsIn K mainGlobals "min" = some none)
    (m_range : PySem.W.nsIn K mainGlobals "range" = some none)
    (m_sum : PySem.W.nsIn K mainGlobals "sum" = some none)
    (m_super : PySem.W.nsIn K mainGlobals "super" = some none)
    (g_MOST_CHOSEN : PySem.W.nsIn K mainGlobals "MOST_CHOSEN" = some (some (.int 60 t_MOST_CHOSEN)))
    (g_MOST_COUNTED : PySem.W.nsIn K mainGlobals "MOST_COUNTED" = some (some (.int 12 t_MOST_COUNTED)))
    (n_MinusError : PySem.W.nsIn K mainGlobals "MinusError" = some (some (.ref C_MinusError)))
    (n_BadWant : PySem.W.nsIn K mainGlobals "BadWant" = some (some (.ref C_BadWant)))
    (xL_BadWant : K.lookup C_BadWant = some (excClassObj nm_BadWant q_BadWant C_BadWant N_BadWant bs_BadWant [.ref D0_BadWant, .type "ValueError", .type "Exception", .type "BaseException", .type "object"] true sn_BadWant sub_BadWant ab_BadWant col_BadWant dd_BadWant mA_BadWant mB_BadWant mC_BadWant mD_BadWant mE_BadWant "ValueError.__new__"))
    (sa_BadWant : PySem.W.findIn K (.ref C_BadWant) "__setattr__" = some (some (.builtin "object.__setattr__")))
    (ga_BadWant : PySem.W.findIn K (.ref C_BadWant) "__getattribute__" = some (some (.builtin "BaseException.__getattribute__")))
    (gg_BadWant : PySem.W.findIn K (.ref C_BadWant) "__getattr__" = some none)
    (nn_BadWant_word : PySem.W.findIn K (.ref C_BadWant) "word" = some none)
    (iC_BadWant : PySem.W.findIn K (.ref C_BadWant) "__init__" = some (some (.ref i_BadWant)))
    (tI_BadWant : PySem.W.typeIn K (.ref i_BadWant) = some (.type "function"))
    (kC_BadWant : PySem.W.keepIn K (.ref C_BadWant) = true)
    (eC_BadWant : PySem.W.subIn K (.ref C_BadWant) (.type "BaseException") = some true)
    (vC_BadWant : PySem.W.subIn K (.ref C_BadWant) (.type "ValueError") = some true)
    (tC_BadWant : PySem.W.typeIn K (.ref C_BadWant) = some (.type "type"))
    (hC_BadWant : PySem.W.hasDictIn K C_BadWant = true)
    (mC_BadWant : PySem.W.mroIn K C_BadWant (.ref C_BadWant) = some true)
    (op_BadWant : PySem.W.nsIn K cStatics "thirdparty.any" = some none)
    (su_BadWant : PySem.W.ks_superIn K C_BadWant C_BadWant "__init__" = some (some (.builtin "ValueError.__init__")))
    (li_BadWant : K.lookup i_BadWant = some ⟨oc_BadWant, od_BadWant, .func (PySem.W.ksFn "__init__" "BadWant.__init__" (defArgs ini_BadWant) (defBody ini_BadWant) (defScope ini_BadWant) .none .none doc_BadWant pm_BadWant an_BadWant (.ref cda_BadWant) ct_BadWant cc_BadWant), osl_BadWant⟩)
    (ci_BadWant : PySem.W.codeIn K (.ref cda_BadWant) "BadWant.__init__" = true)
    (ld_BadWant : K.lookup cda_BadWant = some ⟨ccl_BadWant, cdd_BadWant, .fields vs_BadWant, ccs_BadWant⟩)
    (lv_BadWant : vs_BadWant[2]? = some (.str file_BadWant tf_BadWant))
    (lf_BadWant : ((PySem.Challenge.pw_minusless_k49_sums_count_stairs.main.file : Str) == file_BadWant) = true)
    (lc_BadWant : K.lookup cc_BadWant = some ⟨cl_BadWant, cld_BadWant, .cell (some (.ref C_BadWant)), csl_BadWant⟩)
    (xe_BadWant : PySem.W.subIn K (.ref C_BadWant) (.type "BaseException") = some true)
    (xc_BadWant : PySem.W.clsIn K C_BadWant = some ci_xBadWant)
    (xt_BadWant : PySem.W.typeIn K (.ref C_BadWant) = some (.type "type"))
    (xe_MinusError : PySem.W.subIn K (.ref C_MinusError) (.type "BaseException") = some true)
    (xc_MinusError : PySem.W.clsIn K C_MinusError = some ci_xMinusError)
    (xt_MinusError : PySem.W.typeIn K (.ref C_MinusError) = some (.type "type"))
    (xs_BadWant_BadWant : PySem.W.subIn K (.ref C_BadWant) (.ref C_BadWant) = some true)
    (xs_BadWant_MinusError : PySem.W.subIn K (.ref C_BadWant) (.ref C_MinusError) = some true)
    : ∃ fd : FuncData, (∀ (s : Shared) (v : Value), BindsTo s fd ⟨[v], []⟩ [("_law_script", v)]) ∧ ∀ base : Heap, K.In base → base.Ns mainGlobals mg → FnOk PySem.Challenge.pw_minusless_k49_sums_count_stairs w K mg base (L2.CX PySem.Challenge.pw_minusless_k49_sums_count_stairs w) 6 fa fd ["_law_script"] (spL K) := by
  have e := hfa.symm.trans (PySem.W.mg_of X G a21)
  cases e
  have F0 := fun_mk (st := s_is_plain_integer) l0 c0 k0
  have b0 := F0.binds (ps := ["value"]) fun _ _ _ _ _ _ us hl => match us, hl with | [_], _ => rfl
  have F1 := fun_mk (st := s_check_count) l1 c1 k1
  have b1 := F1.binds (ps := ["word", "size", "least", "most"]) fun _ _ _ _ _ _ us hl => match us, hl with | [_, _, _, _], _ => rfl
  have F2 := fun_mk (st := s_choose) l2 c2 k2
  have b2 := F2.binds (ps := ["size", "many"]) fun _ _ _ _ _ _ us hl => match us, hl with | [_, _], _ => rfl
  have F3 := fun_mk (st := s_choose_rows) l3 c3 k3
  have b3 := F3.binds (ps := ["size"]) fun _ _ _ _ _ _ us hl => match us, hl with | [_], _ => rfl
  have F4 := fun_mk (st := s_covering_rows) l4 c4 k4
  have b4 := F4.binds (ps := ["high", "wide"]) fun _ _ _ _ _ _ us hl => match us, hl with | [_, _], _ => rfl
  have F5 := fun_mk (st := s_stair_counts) l5 c5 k5
  have b5 := F5.binds (ps := ["high", "wide"]) fun _ _ _ _ _ _ us hl => match us, hl with | [_, _], _ => rfl
  have F6 := fun_mk (st := s_covering) l6 c6 k6
  have b6 := F6.binds (ps := ["high", "wide"]) fun _ _ _ _ _ _ us hl => match us, hl with | [_, _], _ => rfl
  have F7 := fun_mk (st := s_count_stairs) l7 c7 k7
  have b7 := F7.binds (ps := ["high", "wide"]) fun _ _ _ _ _ _ us hl => match us, hl with | [_, _], _ => rfl
  have F8 := fun_mk (st := s_crowded) l8 c8 k8
  have b8 := F8.binds (ps := ["high", "wide"]) fun _ _ _ _ _ _ us hl => match us, hl with | [_, _], _ => rfl
  have F9 := fun_mk (st := s__law_draws) l9 c9 k9
  have b9 := F9.binds (ps := ["_law_script"]) fun _ _ _ _ _ _ us hl => match us, hl with | [_], _ => rfl
  have F10 := fun_mk (st := s__law_take) l10 c10 k10
  have b10 := F10.binds (ps := ["_law_draws_here", "_law_many"]) fun _ _ _ _ _ _ us hl => match us, hl with | [_, _], _ => rfl
  have F11 := fun_mk (st := s__law_whole) l11 c11 k11
  have b11 := F11.binds (ps := ["_law_value", "_law_due"]) fun _ _ _ _ _ _ us hl => match us, hl with | [_, _], _ => rfl
  have F12 := fun_mk (st := s__law_binomial) l12 c12 k12
  have b12 := F12.binds (ps := ["_law_size", "_law_many"]) fun _ _ _ _ _ _ us hl => match us, hl with | [_, _], _ => rfl
  have F13 := fun_mk (st := s__law_counts) l13 c13 k13
  have b13 := F13.binds (ps := ["_law_high", "_law_wide"]) fun _ _ _ _ _ _ us hl => match us, hl with | [_, _], _ => rfl
  have F14 := fun_mk (st := s__law_listed) l14 c14 k14
  have b14 := F14.binds (ps := ["_law_high", "_law_wide"]) fun _ _ _ _ _ _ us hl => match us, hl with | [_, _], _ => rfl
  have F15 := fun_mk (st := s__law_coverings) l15 c15 k15
  have b15 := F15.binds (ps := ["_law_high", "_law_wide"]) fun _ _ _ _ _ _ us hl => match us, hl with | [_, _], _ => rfl
  have F16 := fun_mk (st := s__law_crowded) l16 c16 k16
  have b16 := F16.binds (ps := ["_law_high", "_law_wide"]) fun _ _ _ _ _ _ us hl => match us, hl with | [_, _], _ => rfl
  have F17 := fun_mk (st := s__law_by_listing) l17 c17 k17
  have b17 := F17.binds (ps := ["_law_high", "_law_wide"]) fun _ _ _ _ _ _ us hl => match us, hl with | [_, _], _ => rfl
  have F18 := fun_mk (st := s__law_two_rows) l18 c18 k18
  have b18 := F18.binds (ps := ["_law_wide"]) fun _ _ _ _ _ _ us hl => match us, hl with | [_], _ => rfl
  have F19 := fun_mk (st := s__law_sums) l19 c19 k19
  have b19 := F19.binds (ps := ["_law_high", "_law_wide"]) fun _ _ _ _ _ _ us hl => match us, hl with | [_, _], _ => rfl
  have F20 := fun_mk (st := s__law_refuses) l20 c20 k20
  have b20 := F20.binds (ps := ["_law_bad", "_law_good"]) fun _ _ _ _ _ _ us hl => match us, hl with | [_, _], _ => rfl
  have F21 := fun_mk (st := s_law) l21 c21 k21
  have b21 := F21.binds (ps := ["_law_script"]) fun _ _ _ _ _ _ us hl => match us, hl with | [_], _ => rfl
  have x : { x : Fx K mg // x.a_law = fa ∧ x.fd_law = PySem.W.fnOf "law" "law" (defArgs s_law) (defBody s_law) (defScope s_law) .none kV21 dc21 pm21 an21 cd21 ct21 } := ⟨{
    a_is_plain_integer := f0, fd_is_plain_integer := _, F_is_plain_integer := F0, b_is_plain_integer := b0, g_is_plain_integer := PySem.W.mg_of X G a0,
    a_check_count := f1, fd_check_count := _, F_check_count := F1, b_check_count := b1, g_check_count := PySem.W.mg_of X G a1,
    a_choose := f2, fd_choose := _, F_choose := F2, b_choose := b2, g_choose := PySem.W.mg_of X G a2,
    a_choose_rows := f3, fd_choose_rows := _, F_choose_rows := F3, b_choose_rows := b3, g_choose_rows := PySem.W.mg_of X G a3,
    a_covering_rows := f4, fd_covering_rows := _, F_covering_rows := F4, b_covering_rows := b4, g_covering_rows := PySem.W.mg_of X G a4,
    a_stair_counts := f5, fd_stair_counts := _, F_stair_counts := F5, b_stair_counts := b5, g_stair_counts := PySem.W.mg_of X G a5,
    a_covering := f6, fd_covering := _, F_covering := F6, b_covering := b6, g_covering := PySem.W.mg_of X G a6,
    a_count_stairs := f7, fd_count_stairs := _, F_count_stairs := F7, b_count_stairs := b7, g_count_stairs := PySem.W.mg_of X G a7,
    a_crowded := f8, fd_crowded := _, F_crowded := F8, b_crowded := b8, g_crowded := PySem.W.mg_of X G a8,
    a__law_draws := f9, fd__law_draws := _, F__law_draws := F9, b__law_draws := b9, g__law_draws := PySem.W.mg_of X G a9,
    a__law_take := f10, fd__law_take := _, F__law_take := F10, b__law_take := b10, g__law_take := PySem.W.mg_of X G a10,
    a__law_whole := f11, fd__law_whole := _, F__law_whole := F11, b__law_whole := b11, g__law_whole := PySem.W.mg_of X G a11,
    a__law_binomial := f12, fd__law_binomial := _, F__law_binomial := F12, b__law_binomial := b12, g__law_binomial := PySem.W.mg_of X G a12,
    a__law_counts := f13, fd__law_counts := _, F__law_counts := F13, b__law_counts := b13, g__law_counts := PySem.W.mg_of X G a13,
    a__law_listed := f14, fd__law_listed := _, F__law_listed := F14, b__law_listed := b14, g__law_listed := PySem.W.mg_of X G a14,
    a__law_coverings := f15, fd__law_coverings := _, F__law_coverings := F15, b__law_coverings := b15, g__law_coverings := PySem.W.mg_of X G a15,
    a__law_crowded := f16, fd__law_crowded := _, F__law_crowded := F16, b__law_crowded := b16, g__law_crowded := PySem.W.mg_of X G a16,
    a__law_by_listing := f17, fd__law_by_listing := _, F__law_by_listing := F17, b__law_by_listing := b17, g__law_by_listing := PySem.W.mg_of X G a17,
    a__law_two_rows := f18, fd__law_two_rows := _, F__law_two_rows := F18, b__law_two_rows := b18, g__law_two_rows := PySem.W.mg_of X G a18,
    a__law_sums := f19, fd__law_sums := _, F__law_sums := F19, b__law_sums := b19, g__law_sums := PySem.W.mg_of X G a19,
    a__law_refuses := f20, fd__law_refuses := _, F__law_refuses := F20, b__law_refuses := b20, g__law_refuses := PySem.W.mg_of X G a20,
    a_law := fa, fd_law := _, F_law := F21, b_law := b21, g_law := PySem.W.mg_of X G a21,
    m_bool := PySem.W.mg_none_of X G m_bool,
    m_int := PySem.W.mg_none_of X G m_int,
    m_isinstance := PySem.W.mg_none_of X G m_isinstance,
    m_len := PySem.W.mg_none_of X G m_len,
    m_list := PySem.W.mg_none_of X G m_list,
    m_min := PySem.W.mg_none_of X G m_min,
    m_range := PySem.W.mg_none_of X G m_range,
    m_sum := PySem.W.mg_none_of X G m_sum,
    c_MOST_CHOSEN := ⟨_, PySem.W.mg_of X G g_MOST_CHOSEN⟩,
    c_MOST_COUNTED := ⟨_, PySem.W.mg_of X G g_MOST_COUNTED⟩,
    C_MinusError := C_MinusError, k_MinusError := PySem.W.mg_of X G n_MinusError,
    C_BadWant := C_BadWant, k_BadWant := PySem.W.mg_of X G n_BadWant,
    i_BadWant := i_BadWant, X_BadWant := { gC := PySem.W.mg_of X G n_BadWant, cls := ⟨_, _, _, _, _, _, _, _, _, _, _, _, _, _, _, xL_BadWant, rfl⟩, sa := sa_BadWant, ga := ga_BadWant, gg := gg_BadWant, noN := fun n hn => by simp only [List.mem_cons, List.not_mem_nil, or_false] at hn; subst hn; exact nn_BadWant_word, iC := iC_BadWant, tI := tI_BadWant, kC := kC_BadWant, exC := eC_BadWant, veC := vC_BadWant, tyC := tC_BadWant, hdC := hC_BadWant, selfC := mC_BadWant, opq := op_BadWant, sup := su_BadWant, gS := PySem.W.mg_none_of X G m_super, top := by decide +kernel },
    I_BadWant := ⟨⟨_, _, _, _, _, _, _, _, _, li_BadWant, ci_BadWant, ⟨_, _, _, _, _, _, ld_BadWant, lv_BadWant, lf_BadWant⟩, ⟨_, _, _, lc_BadWant⟩⟩⟩,
    r_BadWant_BadWant := exm_mk xe_BadWant xc_BadWant xt_BadWant xs_BadWant_BadWant,
    r_BadWant_MinusError := exm_mk xe_MinusError xc_MinusError xt_MinusError xs_BadWant_MinusError }, rfl, rfl⟩
  obtain ⟨x, e1, e2⟩ := x
  refine ⟨x.fd_law, fun s v => by rw [e2]; exact .of_eq rfl, fun base _ _ => ?_⟩
  rw [← e1]
  exact (ok_law (w := w) (base := base) x).imp (plain_sp hp)
end G

namespace G
open PySem PySem.Spec PyProof.Rows L2 MV
noncomputable def due : List T → SRes := (mSeq (mAsg (mLst (mCons (mOp2 fIx (mOp2 fIx (mCall m__law_counts (mCons (fVar 3) (mCons (fVar 4) mNil))) (fVar 3)) (fVar 4)) (mCons (mOp2 fIx (mCall m__law_coverings (mCons (fVar 3) (mCons (fVar 4) mNil))) (fVar 3)) (mCons (mCall m__law_crowded (mCons (fVar 3) (mCons (fVar 4) mNil))) mNil)))) (fN 5))
  (mIf (mAnd (mBl (mOp2 sLe (fVar 3) (mC (.v (.int 3))))) (mBl (mOp2 sLe (fVar 4) (mC (.v (.int 3))))))
  (mAsg (mCall m__law_by_listing (mCons (fVar 3) (mCons (fVar 4) mNil))) (fN 5))
  .nx))
noncomputable def p1 : List T → SRes := (mIf (mOr (mNot (mTru (mCall m__law_whole (mCons (mCall m_count_stairs (mCons (fVar 3) (mCons (fVar 4) mNil))) (mCons (fIxN 5 (mC (.v (.int 0)))) mNil))))) (mNot (mTru (mCall m__law_whole (mCons (mCall m_covering (mCons (fVar 3) (mCons (fVar 4) mNil))) (mCons (fIxN 5 (mC (.v (.int 1)))) mNil))))))
  (mRet (mC (.v (.bl false))))
  .nx)
noncomputable def p2 : List T → SRes := (mIf (mNot (mTru (mCall m__law_whole (mCons (mCall m_crowded (mCons (fVar 3) (mCons (fVar 4) mNil))) (mCons (fIxN 5 (mC (.v (.int 2)))) mNil)))))
  (mRet (mC (.v (.bl false))))
  .nx)
noncomputable def p3 : List T → SRes := (mIf (mNot (mTru (mCall m__law_sums (mCons (mOp2 sMod (mCallB sInt (mCons (fVar 3) mNil)) (mC (.v (.int 6)))) (mCons (mOp2 sMod (mCallB sInt (mCons (fVar 4) mNil)) (mC (.v (.int 6)))) mNil)))))
  (mRet (mC (.v (.bl false))))
  .nx)
noncomputable def p4 : List T → SRes := (mIf (mNot (mTru (mCall m__law_whole (mCons (mCall m_choose (mCons (fVar 6) (mCons (fVar 7) mNil))) (mCons (mCall m__law_binomial (mCons (fVar 6) (mCons (fVar 7) mNil))) mNil)))))
  (mRet (mC (.v (.bl false))))
  .nx)
noncomputable def fin : List T → SRes := (mRet (mCall m__law_refuses (mCons (mOp2 sPlus (mC (.v (.int 13))) (mLend 1 m__law_take (mCons (mC (.v (.int 9))) mNil))) (mCons (fVar 3) mNil))))
theorem seq_as (a b c : List T → SRes) : mSeq (mSeq a b) c = mSeq a (mSeq b c) := by
  funext σ
  unfold mSeq
  cases a σ <;> rfl
theorem law_as : b_law = mSeq (mAsg (mCall m__law_draws (mCons (fVar 0) mNil)) (fN 1))
  (mSeq (mAsg (mOp2 fIx (mLst (mCons (mC (.v (.int 4))) (mCons (mC (.v (.int 13))) mNil))) (mLend 1 m__law_take (mCons (mC (.v (.int 2))) mNil))) (fN 2))
  (mSeq (mAsg (mLend 1 m__law_take (mCons (fVar 2) mNil)) (fN 3))
  (mSeq (mAsg (mLend 1 m__law_take (mCons (fVar 2) mNil)) (fN 4))
  (mSeq due (mSeq p1 (mSeq p2 (mSeq p3
  (mSeq (mAsg (mLend 1 m__law_take (mCons (mC (.v (.int 61))) mNil)) (fN 6))
  (mSeq (mAsg (mLend 1 m__law_take (mCons (mC (.v (.int 61))) mNil)) (fN 7))
  (mSeq p4 fin)))))))))) := by
  unfold due
  simp only [seq_as]
  rfl
section
variable {φ : List T → List T}
theorem due_ind (h3 : Good φ 3) (h4 : Good φ 4) (h5 : Good φ 5) : IndS φ due := by
  unfold due
  repeat (first | exact h3 | exact h4 | exact h5 | exact ind_nil | exact ind_c | exact inds_nx | apply inds_seq | apply inds_if | apply inds_asg | apply inds_ret | apply ind_cons | apply ind_op2 | apply ind_callB | apply ind_call | apply ind_lst | apply ind_ixN | apply ind_var | apply ind_bl | apply ind_not | apply ind_and | apply ind_or | apply ind_tru)
end
def st0 (h w : Int) : List T := [.hole, .hole, .hole, .v (.int h), .v (.int w), .hole, .hole, .hole]
noncomputable def tru (r : FRes) : Bool := match r with
  | .ok (.v (.bl true)) _ => true
  | _ => false
theorem tru_ok {r : FRes} (h : tru r = true) : ∃ b, r = .ok (.v (.bl true)) b := by
  unfold tru at h
  split at h
  · exact ⟨_, rfl⟩
  · cases h
noncomputable def numIs (r : FRes) (n : Int) : Bool := match r with
  | .ok (.v (.int c)) _ => decide (c = n)
  | _ => false
theorem numIs_ok {r : FRes} {n : Int} (h : numIs r n = true) : ∃ b, r = .ok (.v (.int n)) b := by
  unfold numIs at h
  split at h
  · rename_i c b
    rw [of_decide_eq_true h]
    exact ⟨b, rfl⟩
  · cases h
noncomputable def okD (h w d0 d1 d2 : Int) : Bool := match due (st0 h w) with
  | .nx [_, _, _, .v (.int a), .v (.int b), .own [.v (.int x), .v (.int y), .v (.int z)], _, _] => decide (a = h) && decide (b = w) && decide (x = d0) && decide (y = d1) && decide (z = d2)
  | _ => false
noncomputable def okN (h w d0 d1 d2 : Int) : Bool := numIs (m_count_stairs [.v (.int h), .v (.int w)]) d0 && numIs (m_covering [.v (.int h), .v (.int w)]) d1 && numIs (m_crowded [.v (.int h), .v (.int w)]) d2
noncomputable def okS (a b : Int) : Bool := tru (m__law_sums [.v (.int a), .v (.int b)])
noncomputable def rf (a b : Int) : Bool := tru (m__law_refuses [.v (.int a), .v (.int b)])
theorem rf_ok {a b : Int} (h : rf a b = true) : ∃ x, m__law_refuses [.v (.int a), .v (.int b)] = .ok (.v (.bl true)) x := tru_ok h
theorem due_run {h w d0 d1 d2 : Int} (hc : okD h w d0 d1 d2 = true) (a0 a1 a2 : T) : ∃ x6 x7, due [a0, a1, a2, .v (.int h), .v (.int w), .hole, .hole, .hole] = .nx [a0, a1, a2, .v (.int h), .v (.int w), .own [.v (.int d0), .v (.int d1), .v (.int d2)], x6, x7] := by
  unfold okD at hc
  split at hc
  · rename_i x0 x1 x2 a b x y z x6 x7 q
    simp only [Bool.and_eq_true, decide_eq_true_eq] at hc
    obtain ⟨⟨⟨⟨rfl, rfl⟩, rfl⟩, rfl⟩, rfl⟩ := hc
    have g : ∀ i, (∀ p ∈ [(0, a0), (1, a1), (2, a2)], p.1 ≠ i) → Good (wr [(0, a0), (1, a1), (2, a2)]) i := wr_good _
    have I := due_ind (φ := wr [(0, a0), (1, a1), (2, a2)]) (g 3 (by simp)) (g 4 (by simp)) (g 5 (by simp)) (st0 a b)
    rw [q] at I
    exact ⟨x6, x7, I⟩
  · cases hc
theorem cons_ok {f : List T → Res T} {g : List T → Res (List T)} {t : T} {ts σ σ1 σ2 : List T} (hf : f σ = .ok t σ1) (hg : g σ1 = .ok ts σ2) : mCons f g σ = .ok (t :: ts) σ2 := by
  unfold mCons
  rw [hf]
  simp only [Res.bind]
  rw [hg]
theorem call_ok {F : List T → FRes} {g : List T → Res (List T)} {t b : T} {ts σ σ1 : List T} (hg : g σ = .ok ts σ1) (hF : F ts = .ok t b) : mCall F g σ = .ok t σ1 := by
  unfold mCall
  rw [hg]
  simp only [Res.bind]
  rw [hF]
theorem not_tru {f : List T → Res T} {σ σ1 : List T} (h : f σ = .ok (.v (.bl true)) σ1) : mNot (mTru f) σ = .ok false σ1 := by
  unfold mNot mTru
  rw [h]
  rfl
theorem or_ok {a b : List T → Res Bool} {σ σ1 σ2 : List T} (ha : a σ = .ok false σ1) (hb : b σ1 = .ok false σ2) : mOr a b σ = .ok false σ2 := by
  unfold mOr
  rw [ha]
  exact hb
theorem whole_ok (n : Int) : ∃ b, m__law_whole [.v (.int n), .v (.int n)] = .ok (.v (.bl true)) b := by
  have e : m__law_whole [.v (.int n), .v (.int n)] = .ok (.v (.bl (decide (n = n)))) .hole := rfl
  rw [e]
  exact ⟨.hole, by simp⟩
/-- from the sizes to the sums -/
theorem mid_run {h w d0 d1 d2 : Int} (hD : okD h w d0 d1 d2 = true) (hN : okN h w d0 d1 d2 = true) (hS : okS (h % 6) (w % 6) = true) (a0 a1 a2 : T) (k : List T → SRes) :
    ∃ x6 x7, mSeq due (mSeq p1 (mSeq p2 (mSeq p3 k))) [a0, a1, a2, .v (.int h), .v (.int w), .hole, .hole, .hole] = k [a0, a1, a2, .v (.int h), .v (.int w), .own [.v (.int d0), .v (.int d1), .v (.int d2)], x6, x7] := by
  unfold okN at hN
  simp only [Bool.and_eq_true] at hN
  obtain ⟨⟨n0, n1⟩, n2⟩ := hN
  obtain ⟨b0, e0⟩ := numIs_ok n0
  obtain ⟨b1, e1⟩ := numIs_ok n1
  obtain ⟨b2, e2⟩ := numIs_ok n2
  obtain ⟨b3, e3⟩ := tru_ok hS
  obtain ⟨x6, x7, eD⟩ := due_run hD a0 a1 a2
  obtain ⟨c0, w0⟩ := whole_ok d0
  obtain ⟨c1, w1⟩ := whole_ok d1
  obtain ⟨c2, w2⟩ := whole_ok d2
  have t1 : (mOr (mNot (mTru (mCall m__law_whole (mCons (mCall m_count_stairs (mCons (fVar 3) (mCons (fVar 4) mNil))) (mCons (fIxN 5 (mC (.v (.int 0)))) mNil))))) (mNot (mTru (mCall m__law_whole (mCons (mCall m_covering (mCons (fVar 3) (mCons (fVar 4) mNil))) (mCons (fIxN 5 (mC (.v (.int 1)))) mNil)))))) [a0, a1, a2, .v (.int h), .v (.int w), .own [.v (.int d0), .v (.int d1), .v (.int d2)], x6, x7] = .ok false [a0, a1, a2, .v (.int h), .v (.int w), .own [.v (.int d0), .v (.int d1), .v (.int d2)], x6, x7] :=
    or_ok (not_tru (call_ok (cons_ok (call_ok (ts := [.v (.int h), .v (.int w)]) (σ1 := [a0, a1, a2, .v (.int h), .v (.int w), .own [.v (.int d0), .v (.int d1), .v (.int d2)], x6, x7]) rfl e0) (ts := [.v (.int d0)]) (σ2 := [a0, a1, a2, .v (.int h), .v (.int w), .own [.v (.int d0), .v (.int d1), .v (.int d2)], x6, x7]) rfl) w0))
      (not_tru (call_ok (cons_ok (call_ok (ts := [.v (.int h), .v (.int w)]) (σ1 := [a0, a1, a2, .v (.int h), .v (.int w), .own [.v (.int d0), .v (.int d1), .v (.int d2)], x6, x7]) rfl e1) (ts := [.v (.int d1)]) (σ2 := [a0, a1, a2, .v (.int h), .v (.int w), .own [.v (.int d0), .v (.int d1), .v (.int d2)], x6, x7]) rfl) w1))
  have t2 : (mNot (mTru (mCall m__law_whole (mCons (mCall m_crowded (mCons (fVar 3) (mCons (fVar 4) mNil))) (mCons (fIxN 5 (mC (.v (.int 2)))) mNil))))) [a0, a1, a2, .v (.int h), .v (.int w), .own [.v (.int d0), .v (.int d1), .v (.int d2)], x6, x7] = .ok false [a0, a1, a2, .v (.int h), .v (.int w), .own [.v (.int d0), .v (.int d1), .v (.int d2)], x6, x7] :=
    not_tru (call_ok (cons_ok (call_ok (ts := [.v (.int h), .v (.int w)]) (σ1 := [a0, a1, a2, .v (.int h), .v (.int w), .own [.v (.int d0), .v (.int d1), .v (.int d2)], x6, x7]) rfl e2) (ts := [.v (.int d2)]) (σ2 := [a0, a1, a2, .v (.int h), .v (.int w), .own [.v (.int d0), .v (.int d1), .v (.int d2)], x6, x7]) rfl) w2)
  have t3 : (mNot (mTru (mCall m__law_sums (mCons (mOp2 sMod (mCallB sInt (mCons (fVar 3) mNil)) (mC (.v (.int 6)))) (mCons (mOp2 sMod (mCallB sInt (mCons (fVar 4) mNil)) (mC (.v (.int 6)))) mNil))))) [a0, a1, a2, .v (.int h), .v (.int w), .own [.v (.int d0), .v (.int d1), .v (.int d2)], x6, x7] = .ok false [a0, a1, a2, .v (.int h), .v (.int w), .own [.v (.int d0), .v (.int d1), .v (.int d2)], x6, x7] :=
    not_tru (call_ok (ts := [.v (.int (h % 6)), .v (.int (w % 6))]) (σ1 := [a0, a1, a2, .v (.int h), .v (.int w), .own [.v (.int d0), .v (.int d1), .v (.int d2)], x6, x7]) rfl e3)
  have q1 : p1 [a0, a1, a2, .v (.int h), .v (.int w), .own [.v (.int d0), .v (.int d1), .v (.int d2)], x6, x7] = .nx [a0, a1, a2, .v (.int h), .v (.int w), .own [.v (.int d0), .v (.int d1), .v (.int d2)], x6, x7] := if_ok t1
  have q2 : p2 [a0, a1, a2, .v (.int h), .v (.int w), .own [.v (.int d0), .v (.int d1), .v (.int d2)], x6, x7] = .nx [a0, a1, a2, .v (.int h), .v (.int w), .own [.v (.int d0), .v (.int d1), .v (.int d2)], x6, x7] := if_ok t2
  have q3 : p3 [a0, a1, a2, .v (.int h), .v (.int w), .own [.v (.int d0), .v (.int d1), .v (.int d2)], x6, x7] = .nx [a0, a1, a2, .v (.int h), .v (.int w), .own [.v (.int d0), .v (.int d1), .v (.int d2)], x6, x7] := if_ok t3
  refine ⟨x6, x7, ?_⟩
  rw [seq_nx eD, seq_nx q1, seq_nx q2, seq_nx q3]
/-! choose is the law's own binomial -/
noncomputable def bLoop : List T → SRes := (mFor (mRg1 (fVar 1)) (fN 2)
  (mAsg (mOp2 fDiv (mOp2 fTimes (fVar 3) (mOp2 sSub (fVar 0) (fVar 2))) (mOp2 sPlus (fVar 2) (mC (.v (.int 1))))) (fN 3)))
theorem times_big {a b : Int} (h1 : a.natAbs < 2 ^ 500) (h2 : b.natAbs < 2 ^ 500) : fTimes (.v (.int a)) (.v (.int b)) = some (.v (.int (a * b))) := by
  have lg : ∀ n : Nat, n < 2 ^ 500 → n.log2 < 501 := fun n h => by
    by_cases h0 : n = 0
    · subst h0; decide
    · exact Nat.lt_of_lt_of_le ((Nat.log2_lt h0).mpr h) (by decide)
  have m : mulB a b = true := by
    unfold mulB
    simp only [decide_eq_true_eq]
    have x := lg _ h1
    have y := lg _ h2
    omega
  rw [fTimes_eq]
  unfold sTimes sOr sMul iOp
  simp [m]
theorem loop_ok {a b : Int} (ha : 0 ≤ a ∧ a ≤ 60) (hb : 0 ≤ b ∧ b ≤ 60) : ∃ n t, bLoop [.v (.int a), .v (.int b), .hole, .v (.int 1)] = .nx [.v (.int a), .v (.int b), t, .v (.int n)] := by
  have h0 : mRg1 (fVar 1) [.v (.int a), .v (.int b), .hole, .v (.int 1)] = .ok (intsFrom 0 b.toNat) [.v (.int a), .v (.int b), .hole, .v (.int 1)] := by
    have e : mRg1 (fVar 1) [.v (.int a), .v (.int b), .hole, .v (.int 1)] = (if rgB b then .ok (intsFrom 0 b.toNat) [.v (.int a), .v (.int b), .hole, .v (.int 1)] else .stuck) := rfl
    rw [e, if_pos (by unfold rgB; simp; omega)]
  obtain ⟨σ', h1, t, n, rfl, _⟩ := forL_cnt (w := fN 2) (m := (mAsg (mOp2 fDiv (mOp2 fTimes (fVar 3) (mOp2 sSub (fVar 0) (fVar 2))) (mOp2 sPlus (fVar 2) (mC (.v (.int 1))))) (fN 3)))
    (fun i σ => ∃ t n, σ = [.v (.int a), .v (.int b), t, .v (.int n)] ∧ n.natAbs ≤ 61 ^ i) (intsFrom 0 b.toNat) 0 [.v (.int a), .v (.int b), .hole, .v (.int 1)] (fun j u σ hj hi => by
      obtain ⟨t, n, rfl, hn⟩ := hi
      obtain ⟨hj2, rfl⟩ := ints_get hj
      have hj3 : j < 60 := by omega
      have hz : n.natAbs < 2 ^ 500 := Nat.lt_of_le_of_lt hn (Nat.lt_of_le_of_lt (Nat.pow_le_pow_right (by decide) (show 0 + j ≤ 60 by omega)) (by decide +kernel))
      have hd : (a - (0 + (j : Int))).natAbs ≤ 61 := by omega
      have i1 : mOp2 fTimes (fVar 3) (mOp2 sSub (fVar 0) (fVar 2)) [.v (.int a), .v (.int b), .v (.int (0 + (j : Int))), .v (.int n)] = .ok (.v (.int (n * (a - (0 + (j : Int)))))) [.v (.int a), .v (.int b), .v (.int (0 + (j : Int))), .v (.int n)] :=
        op2_ok (t := .v (.int n)) (u := .v (.int (a - (0 + (j : Int))))) (σ1 := [.v (.int a), .v (.int b), .v (.int (0 + (j : Int))), .v (.int n)]) rfl rfl (times_big hz (Nat.lt_of_le_of_lt hd (by decide +kernel)))
      have i2 := op2_ok (s := fDiv) (g := mOp2 sPlus (fVar 2) (mC (.v (.int 1)))) (u := .v (.int (0 + (j : Int) + 1))) (σ2 := [.v (.int a), .v (.int b), .v (.int (0 + (j : Int))), .v (.int n)]) (w := .v (.int (n * (a - (0 + (j : Int))) / (0 + (j : Int) + 1)))) i1 rfl (fDiv_int (by omega) (big_le (n := 100) (by omega) (by decide +kernel)))
      refine ⟨[.v (.int a), .v (.int b), .v (.int (0 + (j : Int))), .v (.int n)], [.v (.int a), .v (.int b), .v (.int (0 + (j : Int))), .v (.int (n * (a - (0 + (j : Int))) / (0 + (j : Int) + 1)))], rfl, asg_ok i2 rfl, _, _, rfl, ?_⟩
      refine Nat.le_trans (Int.natAbs_ediv_le_natAbs _ _) ?_
      rw [Int.natAbs_mul, Nat.pow_succ]
      exact Nat.mul_le_mul hn hd) ⟨.hole, 1, rfl, by decide⟩
  exact ⟨n, t, (for_ok h0).trans h1⟩
theorem binom_ok {a b : Int} (ha : 0 ≤ a ∧ a ≤ 60) (hb : 0 ≤ b ∧ b ≤ 60) : ∃ n x, m__law_binomial [.v (.int a), .v (.int b)] = .ok (.v (.int n)) x ∧ ∃ y, m_choose [.v (.int a), .v (.int b)] = .ok (.v (.int n)) y := by
  obtain ⟨n, t, e⟩ := loop_ok ha hb
  have tail : b__law_binomial [.v (.int a), .v (.int b), .hole, .hole] = .rt (.v (.int n)) [.v (.int a), .v (.int b), t, .hole] := by
    have e1 : b__law_binomial [.v (.int a), .v (.int b), .hole, .hole] = mSeq bLoop (mRetM 3) [.v (.int a), .v (.int b), .hole, .v (.int 1)] := rfl
    rw [e1, seq_nx e]
    rfl
  have chk : ∀ (x : Str) (v : Int), 0 ≤ v → v ≤ 60 → ∃ z, m_check_count [.v (.str x), .v (.int v), .v (.int 0), .v (.int 60)] = .ok (.v (.int v)) z := fun x v v0 v1 => by
    have q : b_check_count [.v (.str x), .v (.int v), .v (.int 0), .v (.int 60)] = mSeq (mIf (mNot (mBl (mChain sLe sLe (fVar 2) (fVar 1) (fVar 3)))) (mRaise "BadWant" ["word"] (mCons (fVar 0) mNil)) .nx) (mRetM 1) [.v (.str x), .v (.int v), .v (.int 0), .v (.int 60)] := rfl
    have r : mNot (mBl (mChain sLe sLe (fVar 2) (fVar 1) (fVar 3))) [.v (.str x), .v (.int v), .v (.int 0), .v (.int 60)] = .ok false [.v (.str x), .v (.int v), .v (.int 0), .v (.int 60)] := by
      have g : mChain sLe sLe (fVar 2) (fVar 1) (fVar 3) [.v (.str x), .v (.int v), .v (.int 0), .v (.int 60)] = (if decide ((0 : Int) ≤ v) = true then .ok (.v (.bl (decide (v ≤ 60)))) [.v (.str x), .v (.int v), .v (.int 0), .v (.int 60)] else .ok (.v (.bl false)) [.v (.str x), .v (.int v), .v (.int 0), .v (.int 60)]) := rfl
      unfold mNot mBl
      rw [g, if_pos (decide_eq_true v0), decide_eq_true v1]
      rfl
    have q2 : (mIf (mNot (mBl (mChain sLe sLe (fVar 2) (fVar 1) (fVar 3)))) (mRaise "BadWant" ["word"] (mCons (fVar 0) mNil)) .nx) [.v (.str x), .v (.int v), .v (.int 0), .v (.int 60)] = .nx [.v (.str x), .v (.int v), .v (.int 0), .v (.int 60)] := if_ok r
    have q3 : b_check_count [.v (.str x), .v (.int v), .v (.int 0), .v (.int 60)] = .rt (.v (.int v)) [.v (.str x), .hole, .v (.int 0), .v (.int 60)] := by
      rw [q, seq_nx q2]
      rfl
    have e0 : m_check_count [.v (.str x), .v (.int v), .v (.int 0), .v (.int 60)] = (match b_check_count [.v (.str x), .v (.int v), .v (.int 0), .v (.int 60)] with
      | .nx σ => .ok (.v .non) (lentT false σ)
      | .rt t σ => .ok t (lentT false σ)
      | .exc C ns us σ => .exc C ns us (lentT false σ)
      | _ => .stuck) := rfl
    rw [e0, q3]
    exact ⟨_, rfl⟩
  obtain ⟨z1, k1⟩ := chk "size" a ha.1 ha.2
  obtain ⟨z2, k2⟩ := chk "many" b hb.1 hb.2
  have head : b_choose [.v (.int a), .v (.int b), .hole, .hole] = b__law_binomial [.v (.int a), .v (.int b), .hole, .hole] := by
    have c1 : mEx (mCall m_check_count (mCons (mC (.v (.str "size"))) (mCons (fVar 0) (mCons (mC (.v (.int 0))) (mCons (mC (.v (.int 60))) mNil))))) [.v (.int a), .v (.int b), .hole, .hole] = .nx [.v (.int a), .v (.int b), .hole, .hole] := ex_ok (call_ok (ts := [.v (.str "size"), .v (.int a), .v (.int 0), .v (.int 60)]) (σ1 := [.v (.int a), .v (.int b), .hole, .hole]) rfl k1)
    have c2 : mEx (mCall m_check_count (mCons (mC (.v (.str "many"))) (mCons (fVar 1) (mCons (mC (.v (.int 0))) (mCons (mC (.v (.int 60))) mNil))))) [.v (.int a), .v (.int b), .hole, .hole] = .nx [.v (.int a), .v (.int b), .hole, .hole] := ex_ok (call_ok (ts := [.v (.str "many"), .v (.int b), .v (.int 0), .v (.int 60)]) (σ1 := [.v (.int a), .v (.int b), .hole, .hole]) rfl k2)
    unfold b_choose
    rw [seq_nx c1, seq_nx c2]
    rfl
  have f1 : m__law_binomial [.v (.int a), .v (.int b)] = (match b__law_binomial [.v (.int a), .v (.int b), .hole, .hole] with
    | .nx σ => .ok (.v .non) (lentT false σ)
    | .rt t σ => .ok t (lentT false σ)
    | .exc C ns us σ => .exc C ns us (lentT false σ)
    | _ => .stuck) := rfl
  have f2 : m_choose [.v (.int a), .v (.int b)] = (match b_choose [.v (.int a), .v (.int b), .hole, .hole] with
    | .nx σ => .ok (.v .non) (lentT false σ)
    | .rt t σ => .ok t (lentT false σ)
    | .exc C ns us σ => .exc C ns us (lentT false σ)
    | _ => .stuck) := rfl
  rw [f1, f2, head, tail]
  exact ⟨n, _, rfl, _, rfl⟩
theorem lend_c {F : List T → FRes} {n r : Int} {ds ds' : List Int} (e : F [Drw ds, .v (.int n)] = .ok (.v (.int r)) (Drw ds')) (a0 a2 a3 a4 a5 a6 a7 : T) :
    mLend 1 F (mCons (mC (.v (.int n))) mNil) [a0, Drw ds, a2, a3, a4, a5, a6, a7] = .ok (.v (.int r)) [a0, Drw ds', a2, a3, a4, a5, a6, a7] := by
  have h : mLend 1 F (mCons (mC (.v (.int n))) mNil) [a0, Drw ds, a2, a3, a4, a5, a6, a7] = (match F [Drw ds, .v (.int n)] with
    | .ok t b => .ok t [a0, b, a2, a3, a4, a5, a6, a7]
    | .exc C ns us b => .exc C ns us [a0, b, a2, a3, a4, a5, a6, a7]
    | .stuck => .stuck) := rfl
  rw [h, e]
theorem lend_2 {F : List T → FRes} {n r : Int} {ds ds' : List Int} (e : F [Drw ds, .v (.int n)] = .ok (.v (.int r)) (Drw ds')) (a0 a3 a4 a5 a6 a7 : T) :
    mLend 1 F (mCons (fVar 2) mNil) [a0, Drw ds, .v (.int n), a3, a4, a5, a6, a7] = .ok (.v (.int r)) [a0, Drw ds', .v (.int n), a3, a4, a5, a6, a7] := by
  have h : mLend 1 F (mCons (fVar 2) mNil) [a0, Drw ds, .v (.int n), a3, a4, a5, a6, a7] = (match F [Drw ds, .v (.int n)] with
    | .ok t b => .ok t [a0, b, .v (.int n), a3, a4, a5, a6, a7]
    | .exc C ns us b => .exc C ns us [a0, b, .v (.int n), a3, a4, a5, a6, a7]
    | .stuck => .stuck) := rfl
  rw [h, e]
theorem tk_is : m__law_take = tkF := rfl
theorem dr_is : m__law_draws = drF := rfl
abbrev Has (h w : Int) : Prop := ∃ d0 d1 d2, okD h w d0 d1 d2 = true ∧ okN h w d0 d1 d2 = true
theorem plain_of (hchk : ∀ h w : Int, 0 ≤ h → h < 13 → 0 ≤ w → w < 13 → Has h w) (hs : ∀ a b : Int, 0 ≤ a → a < 6 → 0 ≤ b → b < 6 → okS a b = true) (hr1 : ∀ k h : Int, 0 ≤ k → k < 9 → 0 ≤ h → h < 13 → rf (13 + k) h = true) : Plain m_law := by
  intro ns hn
  obtain ⟨ds0, e0, p0⟩ := drF_ok hn
  obtain ⟨r1, ds1, e1, a1, b1, p1'⟩ := tk_ok (n := 2) (by decide) p0
  have hM : ∃ M : Int, (M = 4 ∨ M = 13) ∧ fIx (.own [.v (.int 4), .v (.int 13)]) (.v (.int r1)) = some (.v (.int M)) := by
    rcases (show r1 = 0 ∨ r1 = 1 by omega) with z | z <;> subst z
    · exact ⟨4, .inl rfl, rfl⟩
    · exact ⟨13, .inr rfl, rfl⟩
  obtain ⟨M, hM, eM⟩ := hM
  obtain ⟨h, ds2, e2, a2, b2, p2'⟩ := tk_ok (n := M) (by omega) p1'
  obtain ⟨w, ds3, e3, a3, b3, p3'⟩ := tk_ok (n := M) (by omega) p2'
  obtain ⟨sz, ds4, e4, a4, b4, p4'⟩ := tk_ok (n := 61) (by decide) p3'
  obtain ⟨mn, ds5, e5, a5, b5, p5'⟩ := tk_ok (n := 61) (by decide) p4'
  obtain ⟨k, ds6, e6, a6, b6, p6'⟩ := tk_ok (n := 9) (by decide) p5'
  rw [← tk_is] at e1 e2 e3 e4 e5 e6
  rw [← dr_is] at e0
  obtain ⟨d0, d1, d2, hD, hN⟩ := hchk h w (by omega) (by omega) (by omega) (by omega)
  have hS := hs (h % 6) (w % 6) (by omega) (by omega) (by omega) (by omega)
  obtain ⟨x6, x7, em⟩ := mid_run hD hN hS (.kl (dl ns)) (Drw ds3) (.v (.int M)) (mSeq (mAsg (mLend 1 m__law_take (mCons (mC (.v (.int 61))) mNil)) (fN 6))
    (mSeq (mAsg (mLend 1 m__law_take (mCons (mC (.v (.int 61))) mNil)) (fN 7)) (mSeq p4 fin)))
  obtain ⟨bn, y1, eb, y2, ec⟩ := binom_ok (a := sz) (b := mn) (by omega) (by omega)
  obtain ⟨y3, ew⟩ := whole_ok bn
  obtain ⟨y4, er⟩ := rf_ok (hr1 k h a6 b6 (by omega) (by omega))
  have s0 : mAsg (mCall m__law_draws (mCons (fVar 0) mNil)) (fN 1) [.kl (dl ns), .hole, .hole, .hole, .hole, .hole, .hole, .hole] = .nx [.kl (dl ns), Drw ds0, .hole, .hole, .hole, .hole, .hole, .hole] :=
    asg_ok (call_ok (ts := [.kl (dl ns)]) (σ1 := [.kl (dl ns), .hole, .hole, .hole, .hole, .hole, .hole, .hole]) rfl e0) rfl
  have s1 : mAsg (mOp2 fIx (mLst (mCons (mC (.v (.int 4))) (mCons (mC (.v (.int 13))) mNil))) (mLend 1 m__law_take (mCons (mC (.v (.int 2))) mNil))) (fN 2) [.kl (dl ns), Drw ds0, .hole, .hole, .hole, .hole, .hole, .hole] = .nx [.kl (dl ns), Drw ds1, .v (.int M), .hole, .hole, .hole, .hole, .hole] :=
    asg_ok (op2_ok (t := .own [.v (.int 4), .v (.int 13)]) (σ1 := [.kl (dl ns), Drw ds0, .hole, .hole, .hole, .hole, .hole, .hole]) rfl (lend_c e1 ..) eM) rfl
  have s2 := asg_ok (w := fN 3) (σ2 := [.kl (dl ns), Drw ds2, .v (.int M), .v (.int h), .hole, .hole, .hole, .hole]) (lend_2 e2 (.kl (dl ns)) .hole .hole .hole .hole .hole) rfl
  have s3 := asg_ok (w := fN 4) (σ2 := [.kl (dl ns), Drw ds3, .v (.int M), .v (.int h), .v (.int w), .hole, .hole, .hole]) (lend_2 e3 (.kl (dl ns)) (.v (.int h)) .hole .hole .hole .hole) rfl
  have s4 := asg_ok (w := fN 6) (σ2 := [.kl (dl ns), Drw ds4, .v (.int M), .v (.int h), .v (.int w), .own [.v (.int d0), .v (.int d1), .v (.int d2)], .v (.int sz), x7]) (lend_c e4 (.kl (dl ns)) (.v (.int M)) (.v (.int h)) (.v (.int w)) (.own [.v (.int d0), .v (.int d1), .v (.int d2)]) x6 x7) rfl
  have s5 := asg_ok (w := fN 7) (σ2 := [.kl (dl ns), Drw ds5, .v (.int M), .v (.int h), .v (.int w), .own [.v (.int d0), .v (.int d1), .v (.int d2)], .v (.int sz), .v (.int mn)]) (lend_c e5 (.kl (dl ns)) (.v (.int M)) (.v (.int h)) (.v (.int w)) (.own [.v (.int d0), .v (.int d1), .v (.int d2)]) (.v (.int sz)) x7) rfl
  have t4 : (mNot (mTru (mCall m__law_whole (mCons (mCall m_choose (mCons (fVar 6) (mCons (fVar 7) mNil))) (mCons (mCall m__law_binomial (mCons (fVar 6) (mCons (fVar 7) mNil))) mNil))))) [.kl (dl ns), Drw ds5, .v (.int M), .v (.int h), .v (.int w), .own [.v (.int d0), .v (.int d1), .v (.int d2)], .v (.int sz), .v (.int mn)] = .ok false [.kl (dl ns), Drw ds5, .v (.int M), .v (.int h), .v (.int w), .own [.v (.int d0), .v (.int d1), .v (.int d2)], .v (.int sz), .v (.int mn)] :=
    not_tru (call_ok (cons_ok (call_ok (ts := [.v (.int sz), .v (.int mn)]) (σ1 := [.kl (dl ns), Drw ds5, .v (.int M), .v (.int h), .v (.int w), .own [.v (.int d0), .v (.int d1), .v (.int d2)], .v (.int sz), .v (.int mn)]) rfl ec)
      (cons_ok (call_ok (ts := [.v (.int sz), .v (.int mn)]) (σ1 := [.kl (dl ns), Drw ds5, .v (.int M), .v (.int h), .v (.int w), .own [.v (.int d0), .v (.int d1), .v (.int d2)], .v (.int sz), .v (.int mn)]) rfl eb) (ts := []) (σ2 := [.kl (dl ns), Drw ds5, .v (.int M), .v (.int h), .v (.int w), .own [.v (.int d0), .v (.int d1), .v (.int d2)], .v (.int sz), .v (.int mn)]) rfl)) ew)
  have s6 : p4 [.kl (dl ns), Drw ds5, .v (.int M), .v (.int h), .v (.int w), .own [.v (.int d0), .v (.int d1), .v (.int d2)], .v (.int sz), .v (.int mn)] = .nx [.kl (dl ns), Drw ds5, .v (.int M), .v (.int h), .v (.int w), .own [.v (.int d0), .v (.int d1), .v (.int d2)], .v (.int sz), .v (.int mn)] := if_ok t4
  have i7 := call_ok (cons_ok (op2_ok (f := mC (.v (.int 13))) (t := .v (.int 13)) (σ1 := [.kl (dl ns), Drw ds5, .v (.int M), .v (.int h), .v (.int w), .own [.v (.int d0), .v (.int d1), .v (.int d2)], .v (.int sz), .v (.int mn)]) (s := sPlus) (w := .v (.int (13 + k))) rfl (lend_c e6 (.kl (dl ns)) (.v (.int M)) (.v (.int h)) (.v (.int w)) (.own [.v (.int d0), .v (.int d1), .v (.int d2)]) (.v (.int sz)) (.v (.int mn))) rfl) (cons_ok (f := fVar 3) (g := mNil) (t := .v (.int h)) (ts := []) (σ1 := [.kl (dl ns), Drw ds6, .v (.int M), .v (.int h), .v (.int w), .own [.v (.int d0), .v (.int d1), .v (.int d2)], .v (.int sz), .v (.int mn)]) rfl rfl)) er
  have s7 : fin [.kl (dl ns), Drw ds5, .v (.int M), .v (.int h), .v (.int w), .own [.v (.int d0), .v (.int d1), .v (.int d2)], .v (.int sz), .v (.int mn)] = .rt (.v (.bl true)) [.kl (dl ns), Drw ds6, .v (.int M), .v (.int h), .v (.int w), .own [.v (.int d0), .v (.int d1), .v (.int d2)], .v (.int sz), .v (.int mn)] := by
    unfold fin mRet
    rw [i7]
    rfl
  have run : b_law [.kl (dl ns), .hole, .hole, .hole, .hole, .hole, .hole, .hole] = .rt (.v (.bl true)) [.kl (dl ns), Drw ds6, .v (.int M), .v (.int h), .v (.int w), .own [.v (.int d0), .v (.int d1), .v (.int d2)], .v (.int sz), .v (.int mn)] := by
    rw [law_as, seq_nx s0, seq_nx s1, seq_nx s2, seq_nx s3, em, seq_nx s4, seq_nx s5, seq_nx s6]
    exact s7
  refine ⟨.hole, ?_⟩
  have e : m_law [.kl (dl ns)] = (match b_law [.kl (dl ns), .hole, .hole, .hole, .hole, .hole, .hole, .hole] with
    | .nx σ => .ok (.v .non) (lentT false σ)
    | .rt t σ => .ok t (lentT false σ)
    | .exc C ns us σ => .exc C ns us (lentT false σ)
    | _ => .stuck) := rfl
  show m_law [.kl (dl ns)] = _
  rw [e, run]
  rfl
end G

namespace G
open PySem PySem.Spec PyProof.Rows L2 MV
theorem qd_0_0 : okD 0 0 1 1 1 = true := by decide +kernel
theorem qn_0_0 : okN 0 0 1 1 1 = true := by decide +kernel
theorem qd_0_1 : okD 0 1 1 0 0 = true := by decide +kernel
theorem qn_0_1 : okN 0 1 1 0 0 = true := by decide +kernel
theorem qd_0_2 : okD 0 2 1 0 0 = true := by decide +kernel
theorem qn_0_2 : okN 0 2 1 0 0 = true := by decide +kernel
theorem qd_0_3 : okD 0 3 1 0 0 = true := by decide +kernel
theorem qn_0_3 : okN 0 3 1 0 0 = true := by decide +kernel
theorem qd_0_4 : okD 0 4 1 0 0 = true := by decide +kernel
theorem qn_0_4 : okN 0 4 1 0 0 = true := by decide +kernel
theorem qd_0_5 : okD 0 5 1 0 0 = true := by decide +kernel
theorem qn_0_5 : okN 0 5 1 0 0 = true := by decide +kernel
theorem qd_0_6 : okD 0 6 1 0 0 = true := by decide +kernel
theorem qn_0_6 : okN 0 6 1 0 0 = true := by decide +kernel
theorem qd_0_7 : okD 0 7 1 0 0 = true := by decide +kernel
theorem qn_0_7 : okN 0 7 1 0 0 = true := by decide +kernel
theorem qd_0_8 : okD 0 8 1 0 0 = true := by decide +kernel
theorem qn_0_8 : okN 0 8 1 0 0 = true := by decide +kernel
theorem qd_0_9 : okD 0 9 1 0 0 = true := by decide +kernel
theorem qn_0_9 : okN 0 9 1 0 0 = true := by decide +kernel
theorem qd_0_10 : okD 0 10 1 0 0 = true := by decide +kernel
theorem qn_0_10 : okN 0 10 1 0 0 = true := by decide +kernel
theorem qd_0_11 : okD 0 11 1 0 0 = true := by decide +kernel
theorem qn_0_11 : okN 0 11 1 0 0 = true := by decide +kernel
theorem qd_0_12 : okD 0 12 1 0 0 = true := by decide +kernel
theorem qn_0_12 : okN 0 12 1 0 0 = true := by decide +kernel
theorem qd_1_0 : okD 1 0 1 1 0 = true := by decide +kernel
theorem qn_1_0 : okN 1 0 1 1 0 = true := by decide +kernel
theorem qd_1_1 : okD 1 1 2 1 1 = true := by decide +kernel
theorem qn_1_1 : okN 1 1 2 1 1 = true := by decide +kernel
theorem qd_1_2 : okD 1 2 4 1 1 = true := by decide +kernel
theorem qn_1_2 : okN 1 2 4 1 1 = true := by decide +kernel
theorem qd_1_3 : okD 1 3 8 1 1 = true := by decide +kernel
theorem qn_1_3 : okN 1 3 8 1 1 = true := by decide +kernel
theorem qd_1_4 : okD 1 4 16 1 1 = true := by decide +kernel
theorem qn_1_4 : okN 1 4 16 1 1 = true := by decide +kernel
theorem qd_1_5 : okD 1 5 32 1 1 = true := by decide +kernel
theorem qn_1_5 : okN 1 5 32 1 1 = true := by decide +kernel
theorem qd_1_6 : okD 1 6 64 1 1 = true := by decide +kernel
theorem qn_1_6 : okN 1 6 64 1 1 = true := by decide +kernel
theorem qd_1_7 : okD 1 7 128 1 1 = true := by decide +kernel
theorem qn_1_7 : okN 1 7 128 1 1 = true := by decide +kernel
theorem qd_1_8 : okD 1 8 256 1 1 = true := by decide +kernel
theorem qn_1_8 : okN 1 8 256 1 1 = true := by decide +kernel
theorem qd_1_9 : okD 1 9 512 1 1 = true := by decide +kernel
theorem qn_1_9 : okN 1 9 512 1 1 = true := by decide +kernel
theorem qd_1_10 : okD 1 10 1024 1 1 = true := by decide +kernel
theorem qn_1_10 : okN 1 10 1024 1 1 = true := by decide +kernel
theorem qd_1_11 : okD 1 11 2048 1 1 = true := by decide +kernel
theorem qn_1_11 : okN 1 11 2048 1 1 = true := by decide +kernel
theorem qd_1_12 : okD 1 12 4096 1 1 = true := by decide +kernel
theorem qn_1_12 : okN 1 12 4096 1 1 = true := by decide +kernel
theorem qd_2_0 : okD 2 0 1 1 0 = true := by decide +kernel
theorem qn_2_0 : okN 2 0 1 1 0 = true := by decide +kernel
theorem qd_2_1 : okD 2 1 4 3 1 = true := by decide +kernel
theorem qn_2_1 : okN 2 1 4 3 1 = true := by decide +kernel
theorem qd_2_2 : okD 2 2 14 7 5 = true := by decide +kernel
theorem qn_2_2 : okN 2 2 14 7 5 = true := by decide +kernel
theorem qd_2_3 : okD 2 3 46 15 13 = true := by decide +kernel
theorem qn_2_3 : okN 2 3 46 15 13 = true := by decide +kernel
theorem qd_2_4 : okD 2 4 146 31 29 = true := by decide +kernel
theorem qn_2_4 : okN 2 4 146 31 29 = true := by decide +kernel
theorem qd_2_5 : okD 2 5 454 63 61 = true := by decide +kernel
theorem qn_2_5 : okN 2 5 454 63 61 = true := by decide +kernel
theorem qd_2_6 : okD 2 6 1394 127 125 = true := by decide +kernel
theorem qn_2_6 : okN 2 6 1394 127 125 = true := by decide +kernel
theorem qd_2_7 : okD 2 7 4246 255 253 = true := by decide +kernel
theorem qn_2_7 : okN 2 7 4246 255 253 = true := by decide +kernel
theorem qd_2_8 : okD 2 8 12866 511 509 = true := by decide +kernel
theorem qn_2_8 : okN 2 8 12866 511 509 = true := by decide +kernel
theorem qd_2_9 : okD 2 9 38854 1023 1021 = true := by decide +kernel
theorem qn_2_9 : okN 2 9 38854 1023 1021 = true := by decide +kernel
theorem qd_2_10 : okD 2 10 117074 2047 2045 = true := by decide +kernel
theorem qn_2_10 : okN 2 10 117074 2047 2045 = true := by decide +kernel
theorem qd_2_11 : okD 2 11 352246 4095 4093 = true := by decide +kernel
theorem qn_2_11 : okN 2 11 352246 4095 4093 = true := by decide +kernel
theorem qd_2_12 : okD 2 12 1058786 8191 8189 = true := by decide +kernel
theorem qn_2_12 : okN 2 12 1058786 8191 8189 = true := by decide +kernel
theorem qd_3_0 : okD 3 0 1 1 0 = true := by decide +kernel
theorem qn_3_0 : okN 3 0 1 1 0 = true := by decide +kernel
theorem qd_3_1 : okD 3 1 8 7 1 = true := by decide +kernel
theorem qn_3_1 : okN 3 1 8 7 1 = true := by decide +kernel
theorem qd_3_2 : okD 3 2 46 31 13 = true := by decide +kernel
theorem qn_3_2 : okN 3 2 46 31 13 = true := by decide +kernel
theorem qd_3_3 : okD 3 3 230 115 73 = true := by decide +kernel
theorem qn_3_3 : okN 3 3 230 115 73 = true := by decide +kernel
theorem qd_3_4 : okD 3 4 1066 391 301 = true := by decide +kernel
theorem qn_3_4 : okN 3 4 1066 391 301 = true := by decide +kernel
theorem qd_3_5 : okD 3 5 4718 1267 1081 = true := by decide +kernel
theorem qn_3_5 : okN 3 5 4718 1267 1081 = true := by decide +kernel
theorem qd_3_6 : okD 3 6 20266 3991 3613 = true := by decide +kernel
theorem qn_3_6 : okN 3 6 20266 3991 3613 = true := by decide +kernel
theorem qd_3_7 : okD 3 7 85310 12355 11593 = true := by decide +kernel
theorem qn_3_7 : okN 3 7 85310 12355 11593 = true := by decide +kernel
theorem qd_3_8 : okD 3 8 354106 37831 36301 = true := by decide +kernel
theorem qn_3_8 : okN 3 8 354106 37831 36301 = true := by decide +kernel
theorem qd_3_9 : okD 3 9 1455278 115027 111961 = true := by decide +kernel
theorem qn_3_9 : okN 3 9 1455278 115027 111961 = true := by decide +kernel
theorem qd_3_10 : okD 3 10 5938186 348151 342013 = true := by decide +kernel
theorem qn_3_10 : okN 3 10 5938186 348151 342013 = true := by decide +kernel
theorem qd_3_11 : okD 3 11 24104990 1050595 1038313 = true := by decide +kernel
theorem qn_3_11 : okN 3 11 24104990 1050595 1038313 = true := by decide +kernel
theorem qd_3_12 : okD 3 12 97478746 3164071 3139501 = true := by decide +kernel
theorem qn_3_12 : okN 3 12 97478746 3164071 3139501 = true := by decide +kernel
theorem qd_4_0 : okD 4 0 1 1 0 = true := by decide +kernel
theorem qn_4_0 : okN 4 0 1 1 0 = true := by decide +kernel
theorem qd_4_1 : okD 4 1 16 15 1 = true := by decide +kernel
theorem qn_4_1 : okN 4 1 16 15 1 = true := by decide +kernel
theorem qd_4_2 : okD 4 2 146 115 29 = true := by decide +kernel
theorem qn_4_2 : okN 4 2 146 115 29 = true := by decide +kernel
theorem qd_4_3 : okD 4 3 1066 675 301 = true := by decide +kernel
theorem qn_4_3 : okN 4 3 1066 675 301 = true := by decide +kernel
theorem qd_4_4 : okD 4 4 6902 3451 2069 = true := by decide +kernel
theorem qn_4_4 : okN 4 4 6902 3451 2069 = true := by decide +kernel
theorem qd_4_5 : okD 4 5 41506 16275 11581 = true := by decide +kernel
theorem qn_4_5 : okN 4 5 41506 16275 11581 = true := by decide +kernel
theorem qd_4_6 : okD 4 6 237686 72955 57749 = true := by decide +kernel
theorem qn_4_6 : okN 4 6 237686 72955 57749 = true := by decide +kernel
theorem qd_4_7 : okD 4 7 1315666 316275 268381 = true := by decide +kernel
theorem qn_4_7 : okN 4 7 1315666 316275 268381 = true := by decide +kernel
theorem qd_4_8 : okD 4 8 7107302 1340251 1191989 = true := by decide +kernel
theorem qn_4_8 : okN 4 8 7107302 1340251 1191989 = true := by decide +kernel
theorem qd_4_9 : okD 4 9 37712866 5590035 5136061 = true := by decide +kernel
theorem qn_4_9 : okN 4 9 37712866 5590035 5136061 = true := by decide +kernel
theorem qd_4_10 : okD 4 10 197451926 23054395 21674069 = true := by decide +kernel
theorem qn_4_10 : okN 4 10 197451926 23054395 21674069 = true := by decide +kernel
theorem qd_4_11 : okD 4 11 1023358066 94314675 90136861 = true := by decide +kernel
theorem qn_4_11 : okN 4 11 1023358066 94314675 90136861 = true := by decide +kernel
theorem qd_4_12 : okD 4 12 5262831302 383578651 370971509 = true := by decide +kernel
theorem qn_4_12 : okN 4 12 5262831302 383578651 370971509 = true := by decide +kernel
theorem qd_5_0 : okD 5 0 1 1 0 = true := by decide +kernel
theorem qn_5_0 : okN 5 0 1 1 0 = true := by decide +kernel
theorem qd_5_1 : okD 5 1 32 31 1 = true := by decide +kernel
theorem qn_5_1 : okN 5 1 32 31 1 = true := by decide +kernel
theorem qd_5_2 : okD 5 2 454 391 61 = true := by decide +kernel
theorem qn_5_2 : okN 5 2 454 391 61 = true := by decide +kernel
theorem qd_5_3 : okD 5 3 4718 3451 1081 = true := by decide +kernel
theorem qn_5_3 : okN 5 3 4718 3451 1081 = true := by decide +kernel
theorem qd_5_4 : okD 5 4 41506 25231 11581 = true := by decide +kernel
theorem qn_5_4 : okN 5 4 41506 25231 11581 = true := by decide +kernel
theorem qd_5_5 : okD 5 5 329462 164731 95401 = true := by decide +kernel
theorem qn_5_5 : okN 5 5 329462 164731 95401 = true := by decide +kernel
theorem qd_5_6 : okD 5 6 2441314 999391 673261 = true := by decide +kernel
theorem qn_5_6 : okN 5 6 2441314 999391 673261 = true := by decide +kernel
theorem qd_5_7 : okD 5 7 17234438 5767051 4306681 = true := by decide +kernel
theorem qn_5_7 : okN 5 7 17234438 5767051 4306681 = true := by decide +kernel
theorem qd_5_8 : okD 5 8 117437746 32122831 25794781 = true := by decide +kernel
theorem qn_5_8 : okN 5 8 117437746 32122831 25794781 = true := by decide +kernel
theorem qd_5_9 : okD 5 9 779305142 174397531 147587401 = true := by decide +kernel
theorem qn_5_9 : okN 5 9 779305142 174397531 147587401 = true := by decide +kernel
theorem qd_5_10 : okD 5 10 5067707074 929043391 817232461 = true := by decide +kernel
theorem qn_5_10 : okN 5 10 5067707074 929043391 817232461 = true := by decide +kernel
theorem qd_5_11 : okD 5 11 32440729958 4879252651 4418144281 = true := by decide +kernel
theorem qn_5_11 : okN 5 11 32440729958 4879252651 4418144281 = true := by decide +kernel
theorem qd_5_12 : okD 5 12 205120773586 25349936431 23463601981 = true := by decide +kernel
theorem qn_5_12 : okN 5 12 205120773586 25349936431 23463601981 = true := by decide +kernel
theorem qd_6_0 : okD 6 0 1 1 0 = true := by decide +kernel
theorem qn_6_0 : okN 6 0 1 1 0 = true := by decide +kernel
theorem qd_6_1 : okD 6 1 64 63 1 = true := by decide +kernel
theorem qn_6_1 : okN 6 1 64 63 1 = true := by decide +kernel
theorem qd_6_2 : okD 6 2 1394 1267 125 = true := by decide +kernel
theorem qn_6_2 : okN 6 2 1394 1267 125 = true := by decide +kernel
theorem qd_6_3 : okD 6 3 20266 16275 3613 = true := by decide +kernel
theorem qn_6_3 : okN 6 3 20266 16275 3613 = true := by decide +kernel
theorem qd_6_4 : okD 6 4 237686 164731 57749 = true := by decide +kernel
theorem qn_6_4 : okN 6 4 237686 164731 57749 = true := by decide +kernel
theorem qd_6_5 : okD 6 5 2441314 1441923 673261 = true := by decide +kernel
theorem qn_6_5 : okN 6 5 2441314 1441923 673261 = true := by decide +kernel
theorem qd_6_6 : okD 6 6 22934774 11467387 6487445 = true := by decide +kernel
theorem qn_6_6 : okN 6 6 22934774 11467387 6487445 = true := by decide +kernel
theorem qd_6_7 : okD 6 7 202229266 85314915 55213453 = true := by decide +kernel
theorem qn_6_7 : okN 6 7 202229266 85314915 55213453 = true := by decide +kernel
theorem qd_6_8 : okD 6 8 1701740006 604907611 431525429 = true := by decide +kernel
theorem qn_6_8 : okN 6 8 1701740006 604907611 431525429 = true := by decide +kernel
theorem qd_6_9 : okD 6 9 13821281314 4138663683 3173843821 = true := by decide +kernel
theorem qn_6_9 : okN 6 9 13821281314 4138663683 3173843821 = true := by decide +kernel
theorem qd_6_10 : okD 6 10 109214866454 27561477307 22326100565 = true := by decide +kernel
theorem qn_6_10 : okN 6 10 109214866454 27561477307 22326100565 = true := by decide +kernel
theorem qd_6_11 : okD 6 11 844558486066 179770837155 151889090893 = true := by decide +kernel
theorem qn_6_11 : okN 6 11 844558486066 179770837155 151889090893 = true := by decide +kernel
theorem qd_6_12 : okD 6 12 6419351203526 1153715889691 1007306792309 = true := by decide +kernel
theorem qn_6_12 : okN 6 12 6419351203526 1153715889691 1007306792309 = true := by decide +kernel
theorem qd_7_0 : okD 7 0 1 1 0 = true := by decide +kernel
theorem qn_7_0 : okN 7 0 1 1 0 = true := by decide +kernel
theorem qd_7_1 : okD 7 1 128 127 1 = true := by decide +kernel
theorem qn_7_1 : okN 7 1 128 127 1 = true := by decide +kernel
theorem qd_7_2 : okD 7 2 4246 3991 253 = true := by decide +kernel
theorem qn_7_2 : okN 7 2 4246 3991 253 = true := by decide +kernel
theorem qd_7_3 : okD 7 3 85310 72955 11593 = true := by decide +kernel
theorem qn_7_3 : okN 7 3 85310 72955 11593 = true := by decide +kernel
theorem qd_7_4 : okD 7 4 1315666 999391 268381 = true := by decide +kernel
theorem qn_7_4 : okN 7 4 1315666 999391 268381 = true := by decide +kernel
theorem qd_7_5 : okD 7 5 17234438 11467387 4306681 = true := by decide +kernel
theorem qn_7_5 : okN 7 5 17234438 11467387 4306681 = true := by decide +kernel
theorem qd_7_6 : okD 7 6 202229266 116914351 55213453 = true := by decide +kernel
theorem qn_7_6 : okN 7 6 202229266 116914351 55213453 = true := by decide +kernel
theorem qd_7_7 : okD 7 7 2193664790 1096832395 610093513 = true := by decide +kernel
theorem qn_7_7 : okN 7 7 2193664790 1096832395 610093513 = true := by decide +kernel
theorem qd_7_8 : okD 7 8 22447207906 9682617631 6077248381 = true := by decide +kernel
theorem qn_7_8 : okN 7 8 22447207906 9682617631 6077248381 = true := by decide +kernel
theorem qd_7_9 : okD 7 9 219680806598 81653389147 56153444761 = true := by decide +kernel
theorem qn_7_9 : okN 7 9 219680806598 81653389147 56153444761 = true := by decide +kernel
theorem qd_7_10 : okD 7 10 2076319823986 664787648911 490572457453 = true := by decide +kernel
theorem qn_7_10 : okN 7 10 2076319823986 664787648911 490572457453 = true := by decide +kernel
theorem qd_7_11 : okD 7 11 19088476874870 5265635313835 4106439430633 = true := by decide +kernel
theorem qn_7_11 : okN 7 11 19088476874870 5265635313835 4106439430633 = true := by decide +kernel
theorem qd_7_12 : okD 7 12 171615294959746 40808731724671 33251754479581 = true := by decide +kernel
theorem qn_7_12 : okN 7 12 171615294959746 40808731724671 33251754479581 = true := by decide +kernel
theorem qd_8_0 : okD 8 0 1 1 0 = true := by decide +kernel
theorem qn_8_0 : okN 8 0 1 1 0 = true := by decide +kernel
theorem qd_8_1 : okD 8 1 256 255 1 = true := by decide +kernel
theorem qn_8_1 : okN 8 1 256 255 1 = true := by decide +kernel
theorem qd_8_2 : okD 8 2 12866 12355 509 = true := by decide +kernel
theorem qn_8_2 : okN 8 2 12866 12355 509 = true := by decide +kernel
theorem qd_8_3 : okD 8 3 354106 316275 36301 = true := by decide +kernel
theorem qn_8_3 : okN 8 3 354106 316275 36301 = true := by decide +kernel
theorem qd_8_4 : okD 8 4 7107302 5767051 1191989 = true := by decide +kernel
theorem qn_8_4 : okN 8 4 7107302 5767051 1191989 = true := by decide +kernel
theorem qd_8_5 : okD 8 5 117437746 85314915 25794781 = true := by decide +kernel
theorem qn_8_5 : okN 8 5 117437746 85314915 25794781 = true := by decide +kernel
theorem qd_8_6 : okD 8 6 1701740006 1096832395 431525429 = true := by decide +kernel
theorem qn_8_6 : okN 8 6 1701740006 1096832395 431525429 = true := by decide +kernel
theorem qd_8_7 : okD 8 7 22447207906 12764590275 6077248381 = true := by decide +kernel
theorem qn_8_7 : okN 8 7 22447207906 12764590275 6077248381 = true := by decide +kernel
theorem qd_8_8 : okD 8 8 276054834902 138027417451 75796724309 = true := by decide +kernel
theorem qn_8_8 : okN 8 8 276054834902 138027417451 75796724309 = true := by decide +kernel
theorem qd_8_9 : okD 8 9 3216941445106 1411532175075 864806272861 = true := by decide +kernel
theorem qn_8_9 : okN 8 9 3216941445106 1411532175075 864806272861 = true := by decide +kernel
theorem qd_8_10 : okD 8 10 35934231683846 13822841561035 9225829672949 = true := by decide +kernel
theorem qn_8_10 : okN 8 10 35934231683846 13822841561035 9225829672949 = true := by decide +kernel
theorem qd_8_11 : okD 8 11 388027036757506 130806563235075 93448369324861 = true := by decide +kernel
theorem qn_8_11 : okN 8 11 388027036757506 130806563235075 93448369324861 = true := by decide +kernel
theorem qd_8_12 : okD 8 12 4076344795442102 1204304320305451 908745588526229 = true := by decide +kernel
theorem qn_8_12 : okN 8 12 4076344795442102 1204304320305451 908745588526229 = true := by decide +kernel
theorem qd_9_0 : okD 9 0 1 1 0 = true := by decide +kernel
theorem qn_9_0 : okN 9 0 1 1 0 = true := by decide +kernel
theorem qd_9_1 : okD 9 1 512 511 1 = true := by decide +kernel
theorem qn_9_1 : okN 9 1 512 511 1 = true := by decide +kernel
theorem qd_9_2 : okD 9 2 38854 37831 1021 = true := by decide +kernel
theorem qn_9_2 : okN 9 2 38854 37831 1021 = true := by decide +kernel
theorem qd_9_3 : okD 9 3 1455278 1340251 111961 = true := by decide +kernel
theorem qn_9_3 : okN 9 3 1455278 1340251 111961 = true := by decide +kernel
theorem qd_9_4 : okD 9 4 37712866 32122831 5136061 = true := by decide +kernel
theorem qn_9_4 : okN 9 4 37712866 32122831 5136061 = true := by decide +kernel
theorem qd_9_5 : okD 9 5 779305142 604907611 147587401 = true := by decide +kernel
theorem qn_9_5 : okN 9 5 779305142 604907611 147587401 = true := by decide +kernel
theorem qd_9_6 : okD 9 6 13821281314 9682617631 3173843821 = true := by decide +kernel
theorem qn_9_6 : okN 9 6 13821281314 9682617631 3173843821 = true := by decide +kernel
theorem qd_9_7 : okD 9 7 219680806598 138027417451 56153444761 = true := by decide +kernel
theorem qn_9_7 : okN 9 7 219680806598 138027417451 56153444761 = true := by decide +kernel
theorem qd_9_8 : okD 9 8 3216941445106 1805409270031 864806272861 = true := by decide +kernel
theorem qn_9_8 : okN 9 8 3216941445106 1805409270031 864806272861 = true := by decide +kernel
theorem qd_9_9 : okD 9 9 44222780245622 22111390122811 12020754177001 = true := by decide +kernel
theorem qn_9_9 : okN 9 9 44222780245622 22111390122811 12020754177001 = true := by decide +kernel
theorem qd_9_10 : okD 9 10 578333776748674 257220473522431 154546274524621 = true := by decide +kernel
theorem qn_9_10 : okN 9 10 578333776748674 257220473522431 154546274524621 = true := by decide +kernel
theorem qd_9_11 : okD 9 11 7265797378375718 2872040475136651 1869846517285561 = true := by decide +kernel
theorem qn_9_11 : okN 9 11 7265797378375718 2872040475136651 1869846517285561 = true := by decide +kernel
theorem qd_9_12 : okD 9 12 88340967898764946 31022987790661231 21559597141833661 = true := by decide +kernel
theorem qn_9_12 : okN 9 12 88340967898764946 31022987790661231 21559597141833661 = true := by decide +kernel
theorem qd_10_0 : okD 10 0 1 1 0 = true := by decide +kernel
theorem qn_10_0 : okN 10 0 1 1 0 = true := by decide +kernel
theorem qd_10_1 : okD 10 1 1024 1023 1 = true := by decide +kernel
theorem qn_10_1 : okN 10 1 1024 1023 1 = true := by decide +kernel
theorem qd_10_2 : okD 10 2 117074 115027 2045 = true := by decide +kernel
theorem qn_10_2 : okN 10 2 117074 115027 2045 = true := by decide +kernel
theorem qd_10_3 : okD 10 3 5938186 5590035 342013 = true := by decide +kernel
theorem qn_10_3 : okN 10 3 5938186 5590035 342013 = true := by decide +kernel
theorem qd_10_4 : okD 10 4 197451926 174397531 21674069 = true := by decide +kernel
theorem qn_10_4 : okN 10 4 197451926 174397531 21674069 = true := by decide +kernel
theorem qd_10_5 : okD 10 5 5067707074 4138663683 817232461 = true := by decide +kernel
theorem qn_10_5 : okN 10 5 5067707074 4138663683 817232461 = true := by decide +kernel
theorem qd_10_6 : okD 10 6 109214866454 81653389147 22326100565 = true := by decide +kernel
theorem qn_10_6 : okN 10 6 109214866454 81653389147 22326100565 = true := by decide +kernel
theorem qd_10_7 : okD 10 7 2076319823986 1411532175075 490572457453 = true := by decide +kernel
theorem qn_10_7 : okN 10 7 2076319823986 1411532175075 490572457453 = true := by decide +kernel
theorem qd_10_8 : okD 10 8 35934231683846 22111390122811 9225829672949 = true := by decide +kernel
theorem qn_10_8 : okN 10 8 35934231683846 22111390122811 9225829672949 = true := by decide +kernel
theorem qd_10_9 : okD 10 9 578333776748674 321113303226243 154546274524621 = true := by decide +kernel
theorem qn_10_9 : okN 10 9 578333776748674 321113303226243 154546274524621 = true := by decide +kernel
theorem qd_10_10 : okD 10 10 8787513806478134 4393756903239067 2369364111428885 = true := by decide +kernel
theorem qn_10_10 : okN 10 10 8787513806478134 4393756903239067 2369364111428885 = true := by decide +kernel
theorem qd_10_11 : okD 10 11 127464417117501586 57317980108103715 33888536448984493 = true := by decide +kernel
theorem qn_10_11 : okN 10 11 127464417117501586 57317980108103715 33888536448984493 = true := by decide +kernel
theorem qd_10_12 : okD 10 12 1779861060057044966 719270531725399291 458573272750623029 = true := by decide +kernel
theorem qn_10_12 : okN 10 12 1779861060057044966 719270531725399291 458573272750623029 = true := by decide +kernel
theorem qd_11_0 : okD 11 0 1 1 0 = true := by decide +kernel
theorem qn_11_0 : okN 11 0 1 1 0 = true := by decide +kernel
theorem qd_11_1 : okD 11 1 2048 2047 1 = true := by decide +kernel
theorem qn_11_1 : okN 11 1 2048 2047 1 = true := by decide +kernel
theorem qd_11_2 : okD 11 2 352246 348151 4093 = true := by decide +kernel
theorem qn_11_2 : okN 11 2 352246 348151 4093 = true := by decide +kernel
theorem qd_11_3 : okD 11 3 24104990 23054395 1038313 = true := by decide +kernel
theorem qn_11_3 : okN 11 3 24104990 23054395 1038313 = true := by decide +kernel
theorem qd_11_4 : okD 11 4 1023358066 929043391 90136861 = true := by decide +kernel
theorem qn_11_4 : okN 11 4 1023358066 929043391 90136861 = true := by decide +kernel
theorem qd_11_5 : okD 11 5 32440729958 27561477307 4418144281 = true := by decide +kernel
theorem qn_11_5 : okN 11 5 32440729958 27561477307 4418144281 = true := by decide +kernel
theorem qd_11_6 : okD 11 6 844558486066 664787648911 151889090893 = true := by decide +kernel
theorem qn_11_6 : okN 11 6 844558486066 664787648911 151889090893 = true := by decide +kernel
theorem qd_11_7 : okD 11 7 19088476874870 13822841561035 4106439430633 = true := by decide +kernel
theorem qn_11_7 : okN 11 7 19088476874870 13822841561035 4106439430633 = true := by decide +kernel
theorem qd_11_8 : okD 11 8 388027036757506 257220473522431 93448369324861 = true := by decide +kernel
theorem qn_11_8 : okN 11 8 388027036757506 257220473522431 93448369324861 = true := by decide +kernel
theorem qd_11_9 : okD 11 9 7265797378375718 4393756903239067 1869846517285561 = true := by decide +kernel
theorem qn_11_9 : okN 11 9 7265797378375718 4393756903239067 1869846517285561 = true := by decide +kernel
theorem qd_11_10 : okD 11 10 127464417117501586 70146437009397871 33888536448984493 = true := by decide +kernel
theorem qn_11_10 : okN 11 10 127464417117501586 70146437009397871 33888536448984493 = true := by decide +kernel
theorem qd_11_11 : okD 11 11 2121181056663291350 1060590528331645675 568128719132038153 = true := by decide +kernel
theorem qn_11_11 : okN 11 11 2121181056663291350 1060590528331645675 568128719132038153 = true := by decide +kernel
theorem qd_11_12 : okD 11 12 33800841048945424546 15338554965273810271 8947078682269788061 = true := by decide +kernel
theorem qn_11_12 : okN 11 12 33800841048945424546 15338554965273810271 8947078682269788061 = true := by decide +kernel
theorem qd_12_0 : okD 12 0 1 1 0 = true := by decide +kernel
theorem qn_12_0 : okN 12 0 1 1 0 = true := by decide +kernel
theorem qd_12_1 : okD 12 1 4096 4095 1 = true := by decide +kernel
theorem qn_12_1 : okN 12 1 4096 4095 1 = true := by decide +kernel
theorem qd_12_2 : okD 12 2 1058786 1050595 8189 = true := by decide +kernel
theorem qn_12_2 : okN 12 2 1058786 1050595 8189 = true := by decide +kernel
theorem qd_12_3 : okD 12 3 97478746 94314675 3139501 = true := by decide +kernel
theorem qn_12_3 : okN 12 3 97478746 94314675 3139501 = true := by decide +kernel
theorem qd_12_4 : okD 12 4 5262831302 4879252651 370971509 = true := by decide +kernel
theorem qn_12_4 : okN 12 4 5262831302 4879252651 370971509 = true := by decide +kernel
theorem qd_12_5 : okD 12 5 205120773586 179770837155 23463601981 = true := by decide +kernel
theorem qn_12_5 : okN 12 5 205120773586 179770837155 23463601981 = true := by decide +kernel
theorem qd_12_6 : okD 12 6 6419351203526 5265635313835 1007306792309 = true := by decide +kernel
theorem qn_12_6 : okN 12 6 6419351203526 5265635313835 1007306792309 = true := by decide +kernel
theorem qd_12_7 : okD 12 7 171615294959746 130806563235075 33251754479581 = true := by decide +kernel
theorem qn_12_7 : okN 12 7 171615294959746 130806563235075 33251754479581 = true := by decide +kernel
theorem qd_12_8 : okD 12 8 4076344795442102 2872040475136651 908745588526229 = true := by decide +kernel
theorem qn_12_8 : okN 12 8 4076344795442102 2872040475136651 908745588526229 = true := by decide +kernel
theorem qd_12_9 : okD 12 9 88340967898764946 57317980108103715 21559597141833661 = true := by decide +kernel
theorem qn_12_9 : okN 12 9 88340967898764946 57317980108103715 21559597141833661 = true := by decide +kernel
theorem qd_12_10 : okD 12 10 1779861060057044966 1060590528331645675 458573272750623029 = true := by decide +kernel
theorem qn_12_10 : okN 12 10 1779861060057044966 1060590528331645675 458573272750623029 = true := by decide +kernel
theorem qd_12_11 : okD 12 11 33800841048945424546 18462286083671614275 8947078682269788061 = true := by decide +kernel
theorem qn_12_11 : okN 12 11 33800841048945424546 18462286083671614275 8947078682269788061 = true := by decide +kernel
theorem qd_12_12 : okD 12 12 611373265185174628502 305686632592587314251 162835627057766030549 = true := by decide +kernel
theorem qn_12_12 : okN 12 12 611373265185174628502 305686632592587314251 162835627057766030549 = true := by decide +kernel
theorem qs_0_0 : okS 0 0 = true := by decide +kernel
theorem qs_0_1 : okS 0 1 = true := by decide +kernel
theorem qs_0_2 : okS 0 2 = true := by decide +kernel
theorem qs_0_3 : okS 0 3 = true := by decide +kernel
theorem qs_0_4 : okS 0 4 = true := by decide +kernel
theorem qs_0_5 : okS 0 5 = true := by decide +kernel
theorem qs_1_0 : okS 1 0 = true := by decide +kernel
theorem qs_1_1 : okS 1 1 = true := by decide +kernel
theorem qs_1_2 : okS 1 2 = true := by decide +kernel
theorem qs_1_3 : okS 1 3 = true := by decide +kernel
theorem qs_1_4 : okS 1 4 = true := by decide +kernel
theorem qs_1_5 : okS 1 5 = true := by decide +kernel
theorem qs_2_0 : okS 2 0 = true := by decide +kernel
theorem qs_2_1 : okS 2 1 = true := by decide +kernel
theorem qs_2_2 : okS 2 2 = true := by decide +kernel
theorem qs_2_3 : okS 2 3 = true := by decide +kernel
theorem qs_2_4 : okS 2 4 = true := by decide +kernel
theorem qs_2_5 : okS 2 5 = true := by decide +kernel
theorem qs_3_0 : okS 3 0 = true := by decide +kernel
theorem qs_3_1 : okS 3 1 = true := by decide +kernel
theorem qs_3_2 : okS 3 2 = true := by decide +kernel
theorem qs_3_3 : okS 3 3 = true := by decide +kernel
theorem qs_3_4 : okS 3 4 = true := by decide +kernel
theorem qs_3_5 : okS 3 5 = true := by decide +kernel
theorem qs_4_0 : okS 4 0 = true := by decide +kernel
theorem qs_4_1 : okS 4 1 = true := by decide +kernel
theorem qs_4_2 : okS 4 2 = true := by decide +kernel
theorem qs_4_3 : okS 4 3 = true := by decide +kernel
theorem qs_4_4 : okS 4 4 = true := by decide +kernel
theorem qs_4_5 : okS 4 5 = true := by decide +kernel
theorem qs_5_0 : okS 5 0 = true := by decide +kernel
theorem qs_5_1 : okS 5 1 = true := by decide +kernel
theorem qs_5_2 : okS 5 2 = true := by decide +kernel
theorem qs_5_3 : okS 5 3 = true := by decide +kernel
theorem qs_5_4 : okS 5 4 = true := by decide +kernel
theorem qs_5_5 : okS 5 5 = true := by decide +kernel
theorem ref1 : ((List.range 9).all fun k => (List.range 13).all fun h => rf (13 + ((k : Nat) : Int)) ((h : Nat) : Int)) = true := by decide +kernel
theorem all_row {n : Nat} {p : Nat → Bool} (h : ((List.range n).all p) = true) (k : Nat) (hk : k < n) : p k = true := List.all_eq_true.mp h k (List.mem_range.mpr hk)
theorem dom_all (h w : Int) (h1 : 0 ≤ h) (h2 : h < 13) (w1 : 0 ≤ w) (w2 : w < 13) : Has h w := by
  rcases (show h = 0 ∨ h = 1 ∨ h = 2 ∨ h = 3 ∨ h = 4 ∨ h = 5 ∨ h = 6 ∨ h = 7 ∨ h = 8 ∨ h = 9 ∨ h = 10 ∨ h = 11 ∨ h = 12 by omega) with z | z | z | z | z | z | z | z | z | z | z | z | z <;> subst z
  · rcases (show w = 0 ∨ w = 1 ∨ w = 2 ∨ w = 3 ∨ w = 4 ∨ w = 5 ∨ w = 6 ∨ w = 7 ∨ w = 8 ∨ w = 9 ∨ w = 10 ∨ w = 11 ∨ w = 12 by omega) with z | z | z | z | z | z | z | z | z | z | z | z | z <;> subst z
    · exact ⟨_, _, _, qd_0_0, qn_0_0⟩
    · exact ⟨_, _, _, qd_0_1, qn_0_1⟩
    · exact ⟨_, _, _, qd_0_2, qn_0_2⟩
    · exact ⟨_, _, _, qd_0_3, qn_0_3⟩
    · exact ⟨_, _, _, qd_0_4, qn_0_4⟩
    · exact ⟨_, _, _, qd_0_5, qn_0_5⟩
    · exact ⟨_, _, _, qd_0_6, qn_0_6⟩
    · exact ⟨_, _, _, qd_0_7, qn_0_7⟩
    · exact ⟨_, _, _, qd_0_8, qn_0_8⟩
    · exact ⟨_, _, _, qd_0_9, qn_0_9⟩
    · exact ⟨_, _, _, qd_0_10, qn_0_10⟩
    · exact ⟨_, _, _, qd_0_11, qn_0_11⟩
    · exact ⟨_, _, _, qd_0_12, qn_0_12⟩
  · rcases (show w = 0 ∨ w = 1 ∨ w = 2 ∨ w = 3 ∨ w = 4 ∨ w = 5 ∨ w = 6 ∨ w = 7 ∨ w = 8 ∨ w = 9 ∨ w = 10 ∨ w = 11 ∨ w = 12 by omega) with z | z | z | z | z | z | z | z | z | z | z | z | z <;> subst z
    · exact ⟨_, _, _, qd_1_0, qn_1_0⟩
    · exact ⟨_, _, _, qd_1_1, qn_1_1⟩
    · exact ⟨_, _, _, qd_1_2, qn_1_2⟩
    · exact ⟨_, _, _, qd_1_3, qn_1_3⟩
    · exact ⟨_, _, _, qd_1_4, qn_1_4⟩
    · exact ⟨_, _, _, qd_1_5, qn_1_5⟩
    · exact ⟨_, _, _, qd_1_6, qn_1_6⟩
    · exact ⟨_, _, _, qd_1_7, qn_1_7⟩
    · exact ⟨_, _, _, qd_1_8, qn_1_8⟩
    · exact ⟨_, _, _, qd_1_9, qn_1_9⟩
    · exact ⟨_, _, _, qd_1_10, qn_1_10⟩
    · exact ⟨_, _, _, qd_1_11, qn_1_11⟩
    · exact ⟨_, _, _, qd_1_12, qn_1_12⟩
  · rcases (show w = 0 ∨ w = 1 ∨ w = 2 ∨ w = 3 ∨ w = 4 ∨ w = 5 ∨ w = 6 ∨ w = 7 ∨ w = 8 ∨ w = 9 ∨ w = 10 ∨ w = 11 ∨ w = 12 by omega) with z | z | z | z | z | z | z | z | z | z | z | z | z <;> subst z
    · exact ⟨_, _, _, qd_2_0, qn_2_0⟩
    · exact ⟨_, _, _, qd_2_1, qn_2_1⟩
    · exact ⟨_, _, _, qd_2_2, qn_2_2⟩
    · exact ⟨_, _, _, qd_2_3, qn_2_3⟩
    · exact ⟨_, _, _, qd_2_4, qn_2_4⟩
    · exact ⟨_, _, _, qd_2_5, qn_2_5⟩
    · exact ⟨_, _, _, qd_2_6, qn_2_6⟩
    · exact ⟨_, _, _, qd_2_7, qn_2_7⟩
    · exact ⟨_, _, _, qd_2_8, qn_2_8⟩
    · exact ⟨_, _, _, qd_2_9, qn_2_9⟩
    · exact ⟨_, _, _, qd_2_10, qn_2_10⟩
    · exact ⟨_, _, _, qd_2_11, qn_2_11⟩
    · exact ⟨_, _, _, qd_2_12, qn_2_12⟩
  · rcases (show w = 0 ∨ w = 1 ∨ w = 2 ∨ w = 3 ∨ w = 4 ∨ w = 5 ∨ w = 6 ∨ w = 7 ∨ w = 8 ∨ w = 9 ∨ w = 10 ∨ w = 11 ∨ w = 12 by omega) with z | z | z | z | z | z | z | z | z | z | z | z | z <;> subst z
    · exact ⟨_, _, _, qd_3_0, qn_3_0⟩
    · exact ⟨_, _, _, qd_3_1, qn_3_1⟩
    · exact ⟨_, _, _, qd_3_2, qn_3_2⟩
    · exact ⟨_, _, _, qd_3_3, qn_3_3⟩
    · exact ⟨_, _, _, qd_3_4, qn_3_4⟩
    · exact ⟨_, _, _, qd_3_5, qn_3_5⟩
    · exact ⟨_, _, _, qd_3_6, qn_3_6⟩
    · exact ⟨_, _, _, qd_3_7, qn_3_7⟩
    · exact ⟨_, _, _, qd_3_8, qn_3_8⟩
    · exact ⟨_, _, _, qd_3_9, qn_3_9⟩
    · exact ⟨_, _, _, qd_3_10, qn_3_10⟩
    · exact ⟨_, _, _, qd_3_11, qn_3_11⟩
    · exact ⟨_, _, _, qd_3_12, qn_3_12⟩
  · rcases (show w = 0 ∨ w = 1 ∨ w = 2 ∨ w = 3 ∨ w = 4 ∨ w = 5 ∨ w = 6 ∨ w = 7 ∨ w = 8 ∨ w = 9 ∨ w = 10 ∨ w = 11 ∨ w = 12 by omega) with z | z | z | z | z | z | z | z | z | z | z | z | z <;> subst z
    · exact ⟨_, _, _, qd_4_0, qn_4_0⟩
    · exact ⟨_, _, _, qd_4_1, qn_4_1⟩
    · exact ⟨_, _, _, qd_4_2, qn_4_2⟩
    · exact ⟨_, _, _, qd_4_3, qn_4_3⟩
    · exact ⟨_, _, _, qd_4_4, qn_4_4⟩
    · exact ⟨_, _, _, qd_4_5, qn_4_5⟩
    · exact ⟨_, _, _, qd_4_6, qn_4_6⟩
    · exact ⟨_, _, _, qd_4_7, qn_4_7⟩
    · exact ⟨_, _, _, qd_4_8, qn_4_8⟩
    · exact ⟨_, _, _, qd_4_9, qn_4_9⟩
    · exact ⟨_, _, _, qd_4_10, qn_4_10⟩
    · exact ⟨_, _, _, qd_4_11, qn_4_11⟩
    · exact ⟨_, _, _, qd_4_12, qn_4_12⟩
  · rcases (show w = 0 ∨ w = 1 ∨ w = 2 ∨ w = 3 ∨ w = 4 ∨ w = 5 ∨ w = 6 ∨ w = 7 ∨ w = 8 ∨ w = 9 ∨ w = 10 ∨ w = 11 ∨ w = 12 by omega) with z | z | z | z | z | z | z | z | z | z | z | z | z <;> subst z
    · exact ⟨_, _, _, qd_5_0, qn_5_0⟩
    · exact ⟨_, _, _, qd_5_1, qn_5_1⟩
    · exact ⟨_, _, _, qd_5_2, qn_5_2⟩
    · exact ⟨_, _, _, qd_5_3, qn_5_3⟩
    · exact ⟨_, _, _, qd_5_4, qn_5_4⟩
    · exact ⟨_, _, _, qd_5_5, qn_5_5⟩
    · exact ⟨_, _, _, qd_5_6, qn_5_6⟩
    · exact ⟨_, _, _, qd_5_7, qn_5_7⟩
    · exact ⟨_, _, _, qd_5_8, qn_5_8⟩
    · exact ⟨_, _, _, qd_5_9, qn_5_9⟩
    · exact ⟨_, _, _, qd_5_10, qn_5_10⟩
    · exact ⟨_, _, _, qd_5_11, qn_5_11⟩
    · exact ⟨_, _, _, qd_5_12, qn_5_12⟩
  · rcases (show w = 0 ∨ w = 1 ∨ w = 2 ∨ w = 3 ∨ w = 4 ∨ w = 5 ∨ w = 6 ∨ w = 7 ∨ w = 8 ∨ w = 9 ∨ w = 10 ∨ w = 11 ∨ w = 12 by omega) with z | z | z | z | z | z | z | z | z | z | z | z | z <;> subst z
    · exact ⟨_, _, _, qd_6_0, qn_6_0⟩
    · exact ⟨_, _, _, qd_6_1, qn_6_1⟩
    · exact ⟨_, _, _, qd_6_2, qn_6_2⟩
    · exact ⟨_, _, _, qd_6_3, qn_6_3⟩
    · exact ⟨_, _, _, qd_6_4, qn_6_4⟩
    · exact ⟨_, _, _, qd_6_5, qn_6_5⟩
    · exact ⟨_, _, _, qd_6_6, qn_6_6⟩
    · exact ⟨_, _, _, qd_6_7, qn_6_7⟩
    · exact ⟨_, _, _, qd_6_8, qn_6_8⟩
    · exact ⟨_, _, _, qd_6_9, qn_6_9⟩
    · exact ⟨_, _, _, qd_6_10, qn_6_10⟩
    · exact ⟨_, _, _, qd_6_11, qn_6_11⟩
    · exact ⟨_, _, _, qd_6_12, qn_6_12⟩
  · rcases (show w = 0 ∨ w = 1 ∨ w = 2 ∨ w = 3 ∨ w = 4 ∨ w = 5 ∨ w = 6 ∨ w = 7 ∨ w = 8 ∨ w = 9 ∨ w = 10 ∨ w = 11 ∨ w = 12 by omega) with z | z | z | z | z | z | z | z | z | z | z | z | z <;> subst z
    · exact ⟨_, _, _, qd_7_0, qn_7_0⟩
    · exact ⟨_, _, _, qd_7_1, qn_7_1⟩
    · exact ⟨_, _, _, qd_7_2, qn_7_2⟩
    · exact ⟨_, _, _, qd_7_3, qn_7_3⟩
    · exact ⟨_, _, _, qd_7_4, qn_7_4⟩
    · exact ⟨_, _, _, qd_7_5, qn_7_5⟩
    · exact ⟨_, _, _, qd_7_6, qn_7_6⟩
    · exact ⟨_, _, _, qd_7_7, qn_7_7⟩
    · exact ⟨_, _, _, qd_7_8, qn_7_8⟩
    · exact ⟨_, _, _, qd_7_9, qn_7_9⟩
    · exact ⟨_, _, _, qd_7_10, qn_7_10⟩
    · exact ⟨_, _, _, qd_7_11, qn_7_11⟩
    · exact ⟨_, _, _, qd_7_12, qn_7_12⟩
  · rcases (show w = 0 ∨ w = 1 ∨ w = 2 ∨ w = 3 ∨ w = 4 ∨ w = 5 ∨ w = 6 ∨ w = 7 ∨ w = 8 ∨ w = 9 ∨ w = 10 ∨ w = 11 ∨ w = 12 by omega) with z | z | z | z | z | z | z | z | z | z | z | z | z <;> subst z
    · exact ⟨_, _, _, qd_8_0, qn_8_0⟩
    · exact ⟨_, _, _, qd_8_1, qn_8_1⟩
    · exact ⟨_, _, _, qd_8_2, qn_8_2⟩
    · exact ⟨_, _, _, qd_8_3, qn_8_3⟩
    · exact ⟨_, _, _, qd_8_4, qn_8_4⟩
    · exact ⟨_, _, _, qd_8_5, qn_8_5⟩
    · exact ⟨_, _, _, qd_8_6, qn_8_6⟩
    · exact ⟨_, _, _, qd_8_7, qn_8_7⟩
    · exact ⟨_, _, _, qd_8_8, qn_8_8⟩
    · exact ⟨_, _, _, qd_8_9, qn_8_9⟩
    · exact ⟨_, _, _, qd_8_10, qn_8_10⟩
    · exact ⟨_, _, _, qd_8_11, qn_8_11⟩
    · exact ⟨_, _, _, qd_8_12, qn_8_12⟩
  · rcases (show w = 0 ∨ w = 1 ∨ w = 2 ∨ w = 3 ∨ w = 4 ∨ w = 5 ∨ w = 6 ∨ w = 7 ∨ w = 8 ∨ w = 9 ∨ w = 10 ∨ w = 11 ∨ w = 12 by omega) with z | z | z | z | z | z | z | z | z | z | z | z | z <;> subst z
    · exact ⟨_, _, _, qd_9_0, qn_9_0⟩
    · exact ⟨_, _, _, qd_9_1, qn_9_1⟩
    · exact ⟨_, _, _, qd_9_2, qn_9_2⟩
    · exact ⟨_, _, _, qd_9_3, qn_9_3⟩
    · exact ⟨_, _, _, qd_9_4, qn_9_4⟩
    · exact ⟨_, _, _, qd_9_5, qn_9_5⟩
    · exact ⟨_, _, _, qd_9_6, qn_9_6⟩
    · exact ⟨_, _, _, qd_9_7, qn_9_7⟩
    · exact ⟨_, _, _, qd_9_8, qn_9_8⟩
    · exact ⟨_, _, _, qd_9_9, qn_9_9⟩
    · exact ⟨_, _, _, qd_9_10, qn_9_10⟩
    · exact ⟨_, _, _, qd_9_11, qn_9_11⟩
    · exact ⟨_, _, _, qd_9_12, qn_9_12⟩
  · rcases (show w = 0 ∨ w = 1 ∨ w = 2 ∨ w = 3 ∨ w = 4 ∨ w = 5 ∨ w = 6 ∨ w = 7 ∨ w = 8 ∨ w = 9 ∨ w = 10 ∨ w = 11 ∨ w = 12 by omega) with z | z | z | z | z | z | z | z | z | z | z | z | z <;> subst z
    · exact ⟨_, _, _, qd_10_0, qn_10_0⟩
    · exact ⟨_, _, _, qd_10_1, qn_10_1⟩
    · exact ⟨_, _, _, qd_10_2, qn_10_2⟩
    · exact ⟨_, _, _, qd_10_3, qn_10_3⟩
    · exact ⟨_, _, _, qd_10_4, qn_10_4⟩
    · exact ⟨_, _, _, qd_10_5, qn_10_5⟩
    · exact ⟨_, _, _, qd_10_6, qn_10_6⟩
    · exact ⟨_, _, _, qd_10_7, qn_10_7⟩
    · exact ⟨_, _, _, qd_10_8, qn_10_8⟩
    · exact ⟨_, _, _, qd_10_9, qn_10_9⟩
    · exact ⟨_, _, _, qd_10_10, qn_10_10⟩
    · exact ⟨_, _, _, qd_10_11, qn_10_11⟩
    · exact ⟨_, _, _, qd_10_12, qn_10_12⟩
  · rcases (show w = 0 ∨ w = 1 ∨ w = 2 ∨ w = 3 ∨ w = 4 ∨ w = 5 ∨ w = 6 ∨ w = 7 ∨ w = 8 ∨ w = 9 ∨ w = 10 ∨ w = 11 ∨ w = 12 by omega) with z | z | z | z | z | z | z | z | z | z | z | z | z <;> subst z
    · exact ⟨_, _, _, qd_11_0, qn_11_0⟩
    · exact ⟨_, _, _, qd_11_1, qn_11_1⟩
    · exact ⟨_, _, _, qd_11_2, qn_11_2⟩
    · exact ⟨_, _, _, qd_11_3, qn_11_3⟩
    · exact ⟨_, _, _, qd_11_4, qn_11_4⟩
    · exact ⟨_, _, _, qd_11_5, qn_11_5⟩
    · exact ⟨_, _, _, qd_11_6, qn_11_6⟩
    · exact ⟨_, _, _, qd_11_7, qn_11_7⟩
    · exact ⟨_, _, _, qd_11_8, qn_11_8⟩
    · exact ⟨_, _, _, qd_11_9, qn_11_9⟩
    · exact ⟨_, _, _, qd_11_10, qn_11_10⟩
    · exact ⟨_, _, _, qd_11_11, qn_11_11⟩
    · exact ⟨_, _, _, qd_11_12, qn_11_12⟩
  · rcases (show w = 0 ∨ w = 1 ∨ w = 2 ∨ w = 3 ∨ w = 4 ∨ w = 5 ∨ w = 6 ∨ w = 7 ∨ w = 8 ∨ w = 9 ∨ w = 10 ∨ w = 11 ∨ w = 12 by omega) with z | z | z | z | z | z | z | z | z | z | z | z | z <;> subst z
    · exact ⟨_, _, _, qd_12_0, qn_12_0⟩
    · exact ⟨_, _, _, qd_12_1, qn_12_1⟩
    · exact ⟨_, _, _, qd_12_2, qn_12_2⟩
    · exact ⟨_, _, _, qd_12_3, qn_12_3⟩
    · exact ⟨_, _, _, qd_12_4, qn_12_4⟩
    · exact ⟨_, _, _, qd_12_5, qn_12_5⟩
    · exact ⟨_, _, _, qd_12_6, qn_12_6⟩
    · exact ⟨_, _, _, qd_12_7, qn_12_7⟩
    · exact ⟨_, _, _, qd_12_8, qn_12_8⟩
    · exact ⟨_, _, _, qd_12_9, qn_12_9⟩
    · exact ⟨_, _, _, qd_12_10, qn_12_10⟩
    · exact ⟨_, _, _, qd_12_11, qn_12_11⟩
    · exact ⟨_, _, _, qd_12_12, qn_12_12⟩
theorem sums_all (h w : Int) (h1 : 0 ≤ h) (h2 : h < 6) (w1 : 0 ≤ w) (w2 : w < 6) : okS h w = true := by
  rcases (show h = 0 ∨ h = 1 ∨ h = 2 ∨ h = 3 ∨ h = 4 ∨ h = 5 by omega) with z | z | z | z | z | z <;> subst z
  · rcases (show w = 0 ∨ w = 1 ∨ w = 2 ∨ w = 3 ∨ w = 4 ∨ w = 5 by omega) with z | z | z | z | z | z <;> subst z
    · exact qs_0_0
    · exact qs_0_1
    · exact qs_0_2
    · exact qs_0_3
    · exact qs_0_4
    · exact qs_0_5
  · rcases (show w = 0 ∨ w = 1 ∨ w = 2 ∨ w = 3 ∨ w = 4 ∨ w = 5 by omega) with z | z | z | z | z | z <;> subst z
    · exact qs_1_0
    · exact qs_1_1
    · exact qs_1_2
    · exact qs_1_3
    · exact qs_1_4
    · exact qs_1_5
  · rcases (show w = 0 ∨ w = 1 ∨ w = 2 ∨ w = 3 ∨ w = 4 ∨ w = 5 by omega) with z | z | z | z | z | z <;> subst z
    · exact qs_2_0
    · exact qs_2_1
    · exact qs_2_2
    · exact qs_2_3
    · exact qs_2_4
    · exact qs_2_5
  · rcases (show w = 0 ∨ w = 1 ∨ w = 2 ∨ w = 3 ∨ w = 4 ∨ w = 5 by omega) with z | z | z | z | z | z <;> subst z
    · exact qs_3_0
    · exact qs_3_1
    · exact qs_3_2
    · exact qs_3_3
    · exact qs_3_4
    · exact qs_3_5
  · rcases (show w = 0 ∨ w = 1 ∨ w = 2 ∨ w = 3 ∨ w = 4 ∨ w = 5 by omega) with z | z | z | z | z | z <;> subst z
    · exact qs_4_0
    · exact qs_4_1
    · exact qs_4_2
    · exact qs_4_3
    · exact qs_4_4
    · exact qs_4_5
  · rcases (show w = 0 ∨ w = 1 ∨ w = 2 ∨ w = 3 ∨ w = 4 ∨ w = 5 by omega) with z | z | z | z | z | z <;> subst z
    · exact qs_5_0
    · exact qs_5_1
    · exact qs_5_2
    · exact qs_5_3
    · exact qs_5_4
    · exact qs_5_5
theorem ref_a (k h : Int) (k1 : 0 ≤ k) (k2 : k < 9) (h1 : 0 ≤ h) (h2 : h < 13) : rf (13 + k) h = true := by
  obtain ⟨a, rfl⟩ := Int.eq_ofNat_of_zero_le k1
  obtain ⟨b, rfl⟩ := Int.eq_ofNat_of_zero_le h1
  exact all_row (all_row ref1 a (by omega)) b (by omega)
theorem plain : Plain m_law := plain_of dom_all (fun a b a1 a2 b1 b2 => sums_all a b a1 a2 b1 b2) ref_a
end G

open PySem PySem.W PyProof.Rows
set_option maxRecDepth 100000 in
set_option maxHeartbeats 0 in
theorem PySem.Challenge.cw_minusless_k49_sums_count_stairs_holds : PySem.Challenge.rw_minusless_k49_sums_count_stairs.Holds := by
  w_on; o_law; k_head; (case hw => w_witness2)
  k_fill
  refine L2.walk_of (l := PySem.Challenge.rw_minusless_k49_sums_count_stairs) (n := 63) (k := 6) (x := "_law_script") (CX := fun w => L2.CX PySem.Challenge.pw_minusless_k49_sums_count_stairs w) (sp := fun w => MV.spL _) rfl (by decide) rfl ⟨rfl, by decide, by decide⟩ (fun w h Y => PySem.W.kIn_of Y) ?F (fun _ _ a ns hl _ hS => ⟨a, ns, rfl, hS, hl, fun _ => rfl⟩) (fun w H s e s2 h => MV.cx_no w H s e s2 h)
  case F =>
    intro w mg fa h KX GG hmg
    refine' G.all_mk KX GG hmg G.plain ?a0 ?l0 ?c0 ?k0 ?a1 ?l1 ?c1 ?k1 ?a2 ?l2 ?c2 ?k2 ?a3 ?l3 ?c3 ?k3 ?a4 ?l4 ?c4 ?k4 ?a5 ?l5 ?c5 ?k5 ?a6 ?l6 ?c6 ?k6 ?a7 ?l7 ?c7 ?k7 ?a8 ?l8 ?c8 ?k8 ?a9 ?l9 ?c9 ?k9 ?a10 ?l10 ?c10 ?k10 ?a11 ?l11 ?c11 ?k11 ?a12 ?l12 ?c12 ?k12 ?a13 ?l13 ?c13 ?k13 ?a14 ?l14 ?c14 ?k14 ?a15 ?l15 ?c15 ?k15 ?a16 ?l16 ?c16 ?k16 ?a17 ?l17 ?c17 ?k17 ?a18 ?l18 ?c18 ?k18 ?a19 ?l19 ?c19 ?k19 ?a20 ?l20 ?c20 ?k20 ?a21 ?l21 ?c21 ?k21 ?m_bool ?m_int ?m_isinstance ?m_len ?m_list ?m_min ?m_range ?m_sum ?m_super ?g_MOST_CHOSEN ?g_MOST_COUNTED ?n_MinusError ?n_BadWant ?xL_BadWant ?sa_BadWant ?ga_BadWant ?gg_BadWant ?nn_BadWant_word ?iC_BadWant ?tI_BadWant ?kC_BadWant ?eC_BadWant ?vC_BadWant ?tC_BadWant ?hC_BadWant ?mC_BadWant ?op_BadWant ?su_BadWant ?li_BadWant ?ci_BadWant ?ld_BadWant ?lv_BadWant ?lf_BadWant ?lc_BadWant ?xe_BadWant ?xc_BadWant ?xt_BadWant ?xe_MinusError ?xc_MinusError ?xt_MinusError ?xs_BadWant_BadWant ?xs_BadWant_MinusError
    (case a0 => k_is)
    (case l0 => k_is)
    (case c0 => k_is)
    (case k0 => k_is)
    (case a1 => k_is)
    (case l1 => k_is)
    (case c1 => k_is)
    (case k1 => k_is)
    (case a2 => k_is)
    (case l2 => k_is)
    (case c2 => k_is)
    (case k2 => k_is)
    (case a3 => k_is)
    (case l3 => k_is)
    (case c3 => k_is)
    (case k3 => k_is)
    (case a4 => k_is)
    (case l4 => k_is)
    (case c4 => k_is)
    (case k4 => k_is)
    (case a5 => k_is)
    (case l5 => k_is)
    (case c5 => k_is)
    (case k5 => k_is)
    (case a6 => k_is)
    (case l6 => k_is)
    (case c6 => k_is)
    (case k6 => k_is)
    (case a7 => k_is)
    (case l7 => k_is)
    (case c7 => k_is)
    (case k7 => k_is)
    (case a8 => k_is)
    (case l8 => k_is)
    (case c8 => k_is)
    (case k8 => k_is)
    (case a9 => k_is)
    (case l9 => k_is)
    (case c9 => k_is)
    (case k9 => k_is)
    (case a10 => k_is)
    (case l10 => k_is)
    (case c10 => k_is)
    (case k10 => k_is)
    (case a11 => k_is)
    (case l11 => k_is)
    (case c11 => k_is)
    (case k11 => k_is)
    (case a12 => k_is)
    (case l12 => k_is)
    (case c12 => k_is)
    (case k12 => k_is)
    (case a13 => k_is)
    (case l13 => k_is)
    (case c13 => k_is)
    (case k13 => k_is)
    (case a14 => k_is)
    (case l14 => k_is)
    (case c14 => k_is)
    (case k14 => k_is)
    (case a15 => k_is)
    (case l15 => k_is)
    (case c15 => k_is)
    (case k15 => k_is)
    (case a16 => k_is)
    (case l16 => k_is)
    (case c16 => k_is)
    (case k16 => k_is)
    (case a17 => k_is)
    (case l17 => k_is)
    (case c17 => k_is)
    (case k17 => k_is)
    (case a18 => k_is)
    (case l18 => k_is)
    (case c18 => k_is)
    (case k18 => k_is)
    (case a19 => k_is)
    (case l19 => k_is)
    (case c19 => k_is)
    (case k19 => k_is)
    (case a20 => k_is)
    (case l20 => k_is)
    (case c20 => k_is)
    (case k20 => k_is)
    (case a21 => k_is)
    (case l21 => k_is)
    (case c21 => k_is)
    (case k21 => k_is)
    (case m_bool => k_is)
    (case m_int => k_is)
    (case m_isinstance => k_is)
    (case m_len => k_is)
    (case m_list => k_is)
    (case m_min => k_is)
    (case m_range => k_is)
    (case m_sum => k_is)
    (case m_super => k_is)
    (case g_MOST_CHOSEN => k_is)
    (case g_MOST_COUNTED => k_is)
    (case n_MinusError => k_is)
    (case n_BadWant => k_is)
    (case xL_BadWant => k_is)
    (case sa_BadWant => k_is)
    (case ga_BadWant => k_is)
    (case gg_BadWant => k_is)
    (case nn_BadWant_word => k_is)
    (case iC_BadWant => k_is)
    (case tI_BadWant => k_is)
    (case kC_BadWant => k_is)
    (case eC_BadWant => k_is)
    (case vC_BadWant => k_is)
    (case tC_BadWant => k_is)
    (case hC_BadWant => k_is)
    (case mC_BadWant => k_is)
    (case op_BadWant => k_is)
    (case su_BadWant => ks_is)
    (case li_BadWant => k_is)
    (case ci_BadWant => k_is)
    (case ld_BadWant => k_is)
    (case lv_BadWant => rfl)
    (case lf_BadWant => first | rfl | decide +kernel)
    (case lc_BadWant => k_is)
    (case xe_BadWant => k_is)
    (case xc_BadWant => k_is)
    (case xt_BadWant => k_is)
    (case xe_MinusError => k_is)
    (case xc_MinusError => k_is)
    (case xt_MinusError => k_is)
    (case xs_BadWant_BadWant => k_is)
    (case xs_BadWant_MinusError => k_is)
