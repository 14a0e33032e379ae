import PyProof.Rows.All
import Wide.All
import OpenK.AllK
import Wide.FinOn
import KE.KStateDown
import Lean
import HandS.ForMost
import HandS.ForExc
import HandS.Wide
import HandS.WideBits
import HandS.IsInst
import HandS.Defaults
import HandS.EndBits
import HandS.Star
import HandS.Zip
import HandS.Flow
import HandS.HeadEnd
import HandS.NoneIn
import HandS.More
import HandS.Head0
import HandS.Head1
import HandS.Head2
import HandS.HeadHook1
import HandS.HeadHook2
import PySem.Challenge.RW_tiespan_k03_least_and_greatest
set_option Elab.async false
set_option linter.all false
set_option maxRecDepth 100000
set_option maxHeartbeats 2000000
set_option maxHeartbeats 8000000
/-! Fractions in lowest terms, plain. -/
namespace Fr
/-- what lowest computes -/
def low (a b : Int) : Int × Int := let g : Int := (Int.gcd a b : Int); let p := if b < 0 then -g else g; (a.fdiv p, b.fdiv p)
theorem fdiv_of_mul {a p q : Int} (hp : p ≠ 0) (h : a = q * p) : a.fdiv p = q := by
  rw [h, Int.mul_fdiv_cancel q hp]
/-- a fraction: the denominator above 0, lowest terms -/
def Ok (f : Int × Int) : Prop := 0 < f.2 ∧ Int.gcd f.1 f.2 = 1
theorem low_spec {a b : Int} (hb : b ≠ 0) : ∃ p : Int, p ≠ 0 ∧ a = (low a b).1 * p ∧ b = (low a b).2 * p ∧ 0 < (low a b).2 ∧ Int.gcd (low a b).1 (low a b).2 = 1 ∧ p.natAbs = Int.gcd a b := by
  have hg : 0 < Int.gcd a b := Int.gcd_pos_of_ne_zero_right a hb
  obtain ⟨a', ha⟩ := Int.gcd_dvd_left (a := a) (b := b)
  obtain ⟨b', hb'⟩ := Int.gcd_dvd_right (a := a) (b := b)
  have hco : Int.gcd a' b' = 1 := by
    have h1 : Int.gcd (((Int.gcd a b : Nat) : Int) * a') (((Int.gcd a b : Nat) : Int) * b') = Int.gcd a b * Int.gcd a' b' := by
      rw [Int.gcd_mul_left, Int.natAbs_natCast]
    rw [← ha, ← hb'] at h1
    have h2 : Int.gcd a b * 1 = Int.gcd a b * Int.gcd a' b' := by rw [Nat.mul_one]; exact h1
    exact (Nat.eq_of_mul_eq_mul_left hg h2).symm
  generalize hG : ((Int.gcd a b : Nat) : Int) = g at ha hb'
  have hgp : 0 < g := by omega
  by_cases hn : b < 0
  · have e : low a b = (-a', -b') := by
      unfold low
      simp only [hG, if_pos hn]
      rw [fdiv_of_mul (q := -a') (by omega) (by rw [Int.neg_mul_neg, Int.mul_comm]; exact ha), fdiv_of_mul (q := -b') (by omega) (by rw [Int.neg_mul_neg, Int.mul_comm]; exact hb')]
    rw [e]
    refine ⟨-g, by omega, by show a = -a' * -g; rw [Int.neg_mul_neg, Int.mul_comm]; exact ha, by show b = -b' * -g; rw [Int.neg_mul_neg, Int.mul_comm]; exact hb', ?_, ?_, ?_⟩
    · show 0 < -b'
      have : ¬ 0 ≤ b' := fun z => by
        have := Int.mul_nonneg (Int.le_of_lt hgp) z
        omega
      omega
    · show Int.gcd (-a') (-b') = 1
      rw [Int.gcd_neg, Int.neg_gcd]; exact hco
    · rw [Int.natAbs_neg, ← hG]; simp
  · have e : low a b = (a', b') := by
      unfold low
      simp only [hG, if_neg hn]
      rw [fdiv_of_mul (q := a') (by omega) (by rw [Int.mul_comm]; exact ha), fdiv_of_mul (q := b') (by omega) (by rw [Int.mul_comm]; exact hb')]
    rw [e]
    refine ⟨g, by omega, by show a = a' * g; rw [Int.mul_comm]; exact ha, by show b = b' * g; rw [Int.mul_comm]; exact hb', ?_, hco, by rw [← hG]; simp⟩
    show 0 < b'
    have h0 : ¬ b' ≤ 0 := fun z => by
      have := Int.mul_nonneg (Int.le_of_lt hgp) (show 0 ≤ -b' by omega)
      rw [Int.mul_neg] at this
      omega
    omega
theorem low_ok {a b : Int} (hb : b ≠ 0) : Ok (low a b) := by
  obtain ⟨p, h1, h2, h3, h4, h5, _⟩ := low_spec (a := a) hb
  exact ⟨h4, h5⟩
theorem low_eq {a b : Int} (hb : b ≠ 0) : (low a b).1 * b = a * (low a b).2 := by
  obtain ⟨p, h1, h2, h3, _⟩ := low_spec (a := a) hb
  rw [show (low a b).1 * b = (low a b).1 * ((low a b).2 * p) by rw [← h3], show a * (low a b).2 = (low a b).1 * p * (low a b).2 by rw [← h2]]
  rw [Int.mul_assoc, Int.mul_comm p]
theorem low_abs {a b : Int} (hb : b ≠ 0) : (low a b).1.natAbs ≤ a.natAbs ∧ (low a b).2.natAbs ≤ b.natAbs := by
  obtain ⟨p, h1, h2, h3, _⟩ := low_spec (a := a) hb
  have hp : 0 < p.natAbs := by omega
  constructor
  · have : a.natAbs = (low a b).1.natAbs * p.natAbs := by rw [← Int.natAbs_mul, ← h2]
    rw [this]; exact Nat.le_mul_of_pos_right _ hp
  · have : b.natAbs = (low a b).2.natAbs * p.natAbs := by rw [← Int.natAbs_mul, ← h3]
    rw [this]; exact Nat.le_mul_of_pos_right _ hp
theorem dvd_co {a b d : Int} (h : Int.gcd a b = 1) (hd : b ∣ a * d) : b ∣ d := by
  have h1 : b.natAbs ∣ a.natAbs * d.natAbs := by rw [← Int.natAbs_mul]; exact Int.natAbs_dvd_natAbs.mpr hd
  have h2 : Nat.Coprime b.natAbs a.natAbs := by show Nat.gcd b.natAbs a.natAbs = 1; rw [Nat.gcd_comm]; exact h
  exact Int.natAbs_dvd_natAbs.mp (h2.dvd_of_dvd_mul_left h1)
/-- two fractions that are worth the same are one -/
theorem Ok.ext {f g : Int × Int} (hf : Ok f) (hg : Ok g) (h : f.1 * g.2 = g.1 * f.2) : f = g := by
  obtain ⟨a, b⟩ := f
  obtain ⟨c, d⟩ := g
  obtain ⟨h1, h2⟩ := hf
  obtain ⟨h3, h4⟩ := hg
  simp only at h1 h2 h3 h4 h
  have d1 : b ∣ d := by
    have : b ∣ a * d := ⟨c, by rw [h, Int.mul_comm]⟩
    exact dvd_co h2 this
  have d2 : d ∣ b := by
    have : d ∣ c * b := ⟨a, by rw [← h, Int.mul_comm]⟩
    exact dvd_co h4 this
  have e : b = d := Int.dvd_antisymm (by omega) (by omega) d1 d2
  subst e
  have : a = c := Int.eq_of_mul_eq_mul_right (by omega) h
  rw [this]
theorem low_unique {a b : Int} {f : Int × Int} (hb : b ≠ 0) (hf : Ok f) (h : f.1 * b = a * f.2) : low a b = f := by
  have h1 := low_ok (a := a) hb
  have h2 := low_eq (a := a) hb
  refine h1.ext hf ?_
  have : (low a b).1 * f.2 * b = f.1 * (low a b).2 * b := by
    rw [Int.mul_assoc, Int.mul_comm f.2, ← Int.mul_assoc, h2, Int.mul_assoc, Int.mul_comm (low a b).2, ← Int.mul_assoc, ← h, Int.mul_assoc, Int.mul_comm b, ← Int.mul_assoc]
  exact Int.eq_of_mul_eq_mul_right hb this
theorem low_self {f : Int × Int} (hf : Ok f) : low f.1 f.2 = f := low_unique (by have := hf.1; omega) hf rfl
theorem low_mul {a b c : Int} (hb : b ≠ 0) (hc : c ≠ 0) : low (a * c) (b * c) = low a b := by
  have hbc : b * c ≠ 0 := Int.mul_ne_zero hb hc
  refine low_unique hbc (low_ok hb) ?_
  rw [← Int.mul_assoc, low_eq hb, Int.mul_assoc, Int.mul_assoc, Int.mul_comm (low a b).2]
theorem low_one (a : Int) : low a 1 = (a, 1) := low_unique (by decide) ⟨(by show (0 : Int) < 1; decide), by simp⟩ rfl
end Fr
/-! Ts: data, what stands for it in a frozen part of the heap, and a calculus over data alone. -/
namespace Ts
open PySem L2

/-- data -/
inductive D where
  | non | bl (b : Bool) | int (i : Int) | str (x : Str)
  | lst (ds : List D) | tup (ds : List D)
  | dic (kvs : List (Key × D))
  | obj (C : Addr) (fs : List (Str × D))
  | feed
  | lat (a : Addr) (ds : List D)
  | oth (v : V)

/-- what the law's feed is, whatever it holds: a list of four, its cells a list of ints -/
def feedP (cs : Addr) (a : Addr) (h : Heap) : Prop := ∃ (its : List Value) (n : Nat) (i j m : Int), h.get? a = some { cls := .type "list", data := .seq its.toArray n } ∧ Vals [.ref cs, .int i, .int j, .int m] its ∧ 0 ≤ i
def feedO (cs a : Addr) : HO := .ext (feedP cs a)

mutual
inductive Rp (K : PySem.W.Frag) (F : Hp) : V → D → Prop
  | non : Rp K F .non .non
  | bl (b : Bool) : Rp K F (.bl b) (.bl b)
  | int (i : Int) : Rp K F (.int i) (.int i)
  | str (x : Str) : Rp K F (.str x) (.str x)
  | lst {a : Addr} {xs : List V} {ds : List D} : F a = some (.lst xs) → RpL K F xs ds → Rp K F (.ref a) (.lst ds)
  | tup {a : Addr} {xs : List V} {ds : List D} : SqT K F a xs → RpL K F xs ds → Rp K F (.ref a) (.tup ds)
  | dic {a : Addr} {xs : List (Key × V)} {ds : List (Key × D)} : F a = some (.dK xs) → RpK K F xs ds → Rp K F (.ref a) (.dic ds)
  | obj {a C dx : Addr} {xs : List (Str × V)} {ds : List (Str × D)} : F a = some (.ins C dx xs) → RpF K F xs ds → Rp K F (.ref a) (.obj C ds)
  | feed {a cs : Addr} {ns : List Int} : F a = some (feedO cs a) → SqL K F cs (ns.map V.int) → Rp K F (.ref a) .feed
  | lat {a : Addr} {xs : List V} {ds : List D} : SqL K F a xs → RpL K F xs ds → Rp K F (.ref a) (.lat a ds)
  | oth (v : V) : Rp K F v (.oth v)
inductive RpL (K : PySem.W.Frag) (F : Hp) : List V → List D → Prop
  | nil : RpL K F [] []
  | cons {v : V} {vs : List V} {d : D} {ds : List D} : Rp K F v d → RpL K F vs ds → RpL K F (v :: vs) (d :: ds)
inductive RpK (K : PySem.W.Frag) (F : Hp) : List (Key × V) → List (Key × D) → Prop
  | nil : RpK K F [] []
  | cons {k : Key} {v : V} {vs : List (Key × V)} {d : D} {ds : List (Key × D)} : Rp K F v d → RpK K F vs ds → RpK K F ((k, v) :: vs) ((k, d) :: ds)
inductive RpF (K : PySem.W.Frag) (F : Hp) : List (Str × V) → List (Str × D) → Prop
  | nil : RpF K F [] []
  | cons {k : Str} {v : V} {vs : List (Str × V)} {d : D} {ds : List (Str × D)} : Rp K F v d → RpF K F vs ds → RpF K F ((k, v) :: vs) ((k, d) :: ds)
end

/-- more is frozen -/
def Gr (F F' : Hp) : Prop := ∀ a o, F a = some o → F' a = some o
theorem Gr.refl (F : Hp) : Gr F F := fun _ _ h => h
theorem Gr.trans {F F1 F2 : Hp} (a : Gr F F1) (b : Gr F1 F2) : Gr F F2 := fun x o h => b x o (a x o h)
theorem Gr.rd {F F' : Hp} (g : Gr F F') {a : Addr} {o : HO} (h : Rd F a o) : Rd F' a o := by
  rcases h with h | ⟨od, h⟩
  · exact .inl (g _ _ h)
  · exact .inr ⟨od, g _ _ h⟩
theorem Gr.sql {K : PySem.W.Frag} {F F' : Hp} (g : Gr F F') {a : Addr} {xs : List V} (h : SqL K F a xs) : SqL K F' a xs := h.imp g.rd id
theorem Gr.sqt {K : PySem.W.Frag} {F F' : Hp} (g : Gr F F') {a : Addr} {xs : List V} (h : SqT K F a xs) : SqT K F' a xs := h.imp g.rd id

section
variable {K : PySem.W.Frag} {F F' : Hp}
mutual
theorem Rp.mono (g : Gr F F') : ∀ {v : V} {d : D}, Rp K F v d → Rp K F' v d
  | _, _, .non => .non
  | _, _, .bl b => .bl b
  | _, _, .int i => .int i
  | _, _, .str x => .str x
  | _, _, .lst s r => .lst (g _ _ s) (RpL.mono g r)
  | _, _, .tup s r => .tup (g.sqt s) (RpL.mono g r)
  | _, _, .dic s r => .dic (g _ _ s) (RpK.mono g r)
  | _, _, .obj s r => .obj (g _ _ s) (RpF.mono g r)
  | _, _, .feed s r => .feed (g _ _ s) (g.sql r)
  | _, _, .lat s r => .lat (g.sql s) (RpL.mono g r)
  | _, _, .oth v => .oth v
theorem RpL.mono (g : Gr F F') : ∀ {v : List V} {d : List D}, RpL K F v d → RpL K F' v d
  | _, _, .nil => .nil
  | _, _, .cons r s => .cons (Rp.mono g r) (RpL.mono g s)
theorem RpK.mono (g : Gr F F') : ∀ {v : List (Key × V)} {d : List (Key × D)}, RpK K F v d → RpK K F' v d
  | _, _, .nil => .nil
  | _, _, .cons r s => .cons (Rp.mono g r) (RpK.mono g s)
theorem RpF.mono (g : Gr F F') : ∀ {v : List (Str × V)} {d : List (Str × D)}, RpF K F v d → RpF K F' v d
  | _, _, .nil => .nil
  | _, _, .cons r s => .cons (Rp.mono g r) (RpF.mono g s)
end
theorem RpL.len : ∀ {vs : List V} {ds : List D}, RpL K F vs ds → vs.length = ds.length
  | _, _, .nil => rfl
  | _, _, .cons _ s => congrArg Nat.succ (RpL.len s)
theorem RpL.at : ∀ {vs : List V} {ds : List D} {i : Nat} {d : D}, RpL K F vs ds → ds[i]? = some d → ∃ v, vs[i]? = some v ∧ Rp K F v d
  | _, _, _, _, .nil, h => by simp at h
  | _, _, 0, _, .cons r _, h => by simp at h; subst h; exact ⟨_, rfl, r⟩
  | _, _, i + 1, _, .cons _ s, h => by
    obtain ⟨v, h1, h2⟩ := RpL.at (i := i) s (by simpa using h)
    exact ⟨v, by simpa using h1, h2⟩
theorem RpL.atV : ∀ {vs : List V} {ds : List D} {i : Nat} {v : V}, RpL K F vs ds → vs[i]? = some v → ∃ d, ds[i]? = some d ∧ Rp K F v d
  | _, _, _, _, .nil, h => by simp at h
  | _, _, 0, _, .cons r _, h => by simp at h; subst h; exact ⟨_, rfl, r⟩
  | _, _, i + 1, _, .cons _ s, h => by
    obtain ⟨v, h1, h2⟩ := RpL.atV (i := i) s (by simpa using h)
    exact ⟨v, by simpa using h1, h2⟩
theorem RpL.app : ∀ {vs ws : List V} {ds es : List D}, RpL K F vs ds → RpL K F ws es → RpL K F (vs ++ ws) (ds ++ es)
  | _, _, _, _, .nil, s => s
  | _, _, _, _, .cons r t, s => .cons r (RpL.app t s)
theorem RpL.drop : ∀ {vs : List V} {ds : List D} (n : Nat), RpL K F vs ds → RpL K F (vs.drop n) (ds.drop n)
  | _, _, 0, r => r
  | _, _, _ + 1, .nil => .nil
  | _, _, n + 1, .cons _ s => RpL.drop n s
theorem RpL.take : ∀ {vs : List V} {ds : List D} (n : Nat), RpL K F vs ds → RpL K F (vs.take n) (ds.take n)
  | _, _, 0, _ => .nil
  | _, _, _ + 1, .nil => .nil
  | _, _, n + 1, .cons r s => .cons r (RpL.take n s)
theorem RpL.set {v : V} {d : D} (r : Rp K F v d) : ∀ {vs : List V} {ds : List D} (i : Nat), RpL K F vs ds → RpL K F (vs.set i v) (ds.set i d)
  | _, _, _, .nil => .nil
  | _, _, 0, .cons _ s => .cons r s
  | _, _, i + 1, .cons q s => .cons q (RpL.set r i s)
theorem RpL.rep {v : V} {d : D} (r : Rp K F v d) : ∀ n : Nat, RpL K F (List.replicate n v) (List.replicate n d)
  | 0 => .nil
  | n + 1 => .cons r (RpL.rep r n)
theorem RpL.ints : ∀ ns : List Int, RpL K F (ns.map V.int) (ns.map D.int)
  | [] => .nil
  | n :: ns => .cons (.int n) (RpL.ints ns)
theorem RpL.atI {vs : List V} {ds : List D} {i : Int} {d : D} (r : RpL K F vs ds) (h : L2.atI ds i = some d) : ∃ v, L2.atI vs i = some v ∧ Rp K F v d := by
  unfold L2.atI at h ⊢
  rw [r.len]
  cases e : ixN ds.length i with
  | none => rw [e] at h; cases h
  | some j =>
    rw [e] at h
    obtain ⟨v, h1, h2⟩ := r.at (i := j) h
    exact ⟨v, h1, h2⟩
end

/-- what is frozen stands (a dict may be locked while it is walked) -/
def Le (F H : Hp) : Prop := ∀ a o, F a = some o → H a = some o ∨ ((∃ kvs, o = .dK kvs) ∧ ∃ od, H a = some (.frz od o))
theorem Le.rdl {F H : Hp} (l : Le F H) {a : Addr} {xs : List V} (h : Rd F a (.lst xs)) : Rd H a (.lst xs) := by
  rcases h with h | ⟨od, h⟩
  · rcases l _ _ h with h | ⟨⟨_, z⟩, _⟩
    · exact .inl h
    · cases z
  · rcases l _ _ h with h | ⟨⟨_, z⟩, _⟩
    · exact .inr ⟨od, h⟩
    · cases z
theorem Le.rdt {F H : Hp} (l : Le F H) {a : Addr} {xs : List V} (h : Rd F a (.tup xs)) : Rd H a (.tup xs) := by
  rcases h with h | ⟨od, h⟩
  · rcases l _ _ h with h | ⟨⟨_, z⟩, _⟩
    · exact .inl h
    · cases z
  · rcases l _ _ h with h | ⟨⟨_, z⟩, _⟩
    · exact .inr ⟨od, h⟩
    · cases z
theorem Le.lst {F H : Hp} (l : Le F H) {a : Addr} {xs : List V} (h : F a = some (.lst xs)) : H a = some (.lst xs) := by
  rcases l _ _ h with h | ⟨⟨_, z⟩, _⟩
  · exact h
  · cases z
theorem Le.rdk {F H : Hp} (l : Le F H) {a : Addr} {xs : List (Key × V)} (h : F a = some (.dK xs)) : Rd H a (.dK xs) := by
  rcases l _ _ h with h | ⟨⟨_, z⟩, od, h⟩
  · exact .inl h
  · exact .inr ⟨od, h⟩
theorem Le.ins {F H : Hp} (l : Le F H) {a C dx : Addr} {fs : List (Str × V)} (h : F a = some (.ins C dx fs)) : H a = some (.ins C dx fs) := by
  rcases l _ _ h with h | ⟨⟨_, z⟩, _⟩
  · exact h
  · cases z
theorem Le.ext {F H : Hp} (l : Le F H) {a : Addr} {p : Heap → Prop} (h : F a = some (.ext p)) : H a = some (.ext p) := by
  rcases l _ _ h with h | ⟨⟨_, z⟩, _⟩
  · exact h
  · cases z
theorem Le.some {F H : Hp} (l : Le F H) {a : Addr} {o : HO} (h : F a = some o) : H a ≠ none := by
  rcases l _ _ h with h | ⟨_, od, h⟩ <;> rw [h] <;> simp
theorem Le.none {F H : Hp} (l : Le F H) {a : Addr} (h : H a = none) : F a = none := by
  cases e : F a with
  | none => rfl
  | some o => exact absurd h (l.some e)
section
variable {K : PySem.W.Frag}
theorem Le.sql {F H : Hp} (l : Le F H) {a : Addr} {xs : List V} (h : SqL K F a xs) : SqL K H a xs := h.imp l.rdl id
theorem Le.sqt {F H : Hp} (l : Le F H) {a : Addr} {xs : List V} (h : SqT K F a xs) : SqT K H a xs := h.imp l.rdt id
end

/-- a step of an expression: what was tracked stays, what is newly frozen is new -/
structure Step (F H F' H' : Hp) : Prop where
  ex : ∀ a o, H a = some o → H' a = some o
  gr : Gr F F'
  le : Le F' H'
  nw : ∀ a o, F' a = some o → F a = some o ∨ H a = none
theorem Step.refl {F H : Hp} (l : Le F H) : Step F H F H := ⟨fun _ _ h => h, Gr.refl F, l, fun _ _ h => .inl h⟩
theorem Step.back {F H F' H' : Hp} (s : Step F H F' H') {a : Addr} (h : H' a = none) : H a = none := by
  cases e : H a with
  | none => rfl
  | some o => rw [s.ex _ _ e] at h; cases h
theorem Step.trans {F H F1 H1 F2 H2 : Hp} (s : Step F H F1 H1) (t : Step F1 H1 F2 H2) : Step F H F2 H2 :=
  ⟨fun a o h => t.ex a o (s.ex a o h), s.gr.trans t.gr, t.le, fun a o h => by
    rcases t.nw a o h with h | h
    · exact s.nw a o h
    · exact .inr (s.back h)⟩
/-- an expression that changes nothing of what is frozen -/
theorem Step.ext {F H H' : Hp} (l : Le F H) (h : ∀ a o, H a = some o → H' a = some o) : Step F H F H' :=
  ⟨h, Gr.refl F, fun a o e => (l a o e).imp (h _ _) (fun ⟨x, od, y⟩ => ⟨x, od, h _ _ y⟩), fun _ _ h => .inl h⟩
/-- a new object is laid and frozen -/
theorem Step.new {F H : Hp} {p : Addr} {o : HO} (l : Le F H) (h : H p = none) : Step F H (upd F p o) (upd H p o) := by
  have fp := l.none h
  refine ⟨fun a u e => by rw [upd_ne (ne_of_none e h)]; exact e, fun a u e => by rw [upd_ne (ne_of_none e fp)]; exact e, fun a u e => ?_, fun a u e => ?_⟩
  · by_cases ha : a = p
    · subst ha; rw [upd_same] at e ⊢; exact .inl e
    · rw [upd_ne ha] at e ⊢
      exact l a u e
  · by_cases ha : a = p
    · subst ha; exact .inr h
    · rw [upd_ne ha] at e; exact .inl e

/-! ### the frame's names -/
/-- a slot: nothing known, a value, a list | dict | instance that this frame alone holds -/
inductive Sl where
  | no | v (d : D) | ol (p : Addr) (ds : List D) | od (p : Addr) (kvs : List (Key × D)) | oo (p C : Addr) (fs : List (Str × D))
def Sl.adr : Sl → Option Addr
  | .ol p _ => some p
  | .od p _ => some p
  | .oo p _ _ => some p
  | _ => none
abbrev Ev := List Sl
def own (δ : Ev) (p : Addr) : Prop := ∃ (i : Nat) (s : Sl), δ[i]? = some s ∧ s.adr = some p
structure EnvR (K : PySem.W.Frag) (F H : Hp) (σ : L2.St) (δ : Ev) : Prop where
  len : σ.length = δ.length
  val : ∀ (i : Nat) d, δ[i]? = some (.v d) → ∃ v, σ[i]? = some (some v) ∧ Rp K F v d
  lst : ∀ (i : Nat) p ds, δ[i]? = some (.ol p ds) → σ[i]? = some (some (.ref p)) ∧ F p = none ∧ ∃ xs, H p = some (.lst xs) ∧ RpL K F xs ds
  dct : ∀ (i : Nat) p ds, δ[i]? = some (.od p ds) → σ[i]? = some (some (.ref p)) ∧ F p = none ∧ ∃ xs, H p = some (.dK xs) ∧ RpK K F xs ds
  ins : ∀ (i : Nat) p C ds, δ[i]? = some (.oo p C ds) → σ[i]? = some (some (.ref p)) ∧ F p = none ∧ ∃ dx xs, H p = some (.ins C dx xs) ∧ RpF K F xs ds
  dis : ∀ (i j : Nat) s t p, δ[i]? = some s → δ[j]? = some t → s.adr = some p → t.adr = some p → i = j
section
variable {K : PySem.W.Frag} {F H F' H' : Hp} {σ : L2.St} {δ : Ev}
theorem EnvR.own (e : EnvR K F H σ δ) {p : Addr} (h : own δ p) : F p = none ∧ H p ≠ none := by
  obtain ⟨i, s, h1, h2⟩ := h
  cases s with
  | no => cases h2
  | v d => cases h2
  | ol q ds => cases h2; obtain ⟨_, h4, _, h5, _⟩ := e.lst i _ _ h1; exact ⟨h4, by rw [h5]; simp⟩
  | od q ds => cases h2; obtain ⟨_, h4, _, h5, _⟩ := e.dct i _ _ h1; exact ⟨h4, by rw [h5]; simp⟩
  | oo q C ds => cases h2; obtain ⟨_, h4, _, _, h5, _⟩ := e.ins i _ _ _ h1; exact ⟨h4, by rw [h5]; simp⟩
theorem Step.nofz (s : Step F H F' H') {p : Addr} (h : F p = none) (h' : H p ≠ none) : F' p = none := by
  cases e : F' p with
  | none => rfl
  | some o =>
    rcases s.nw p o e with z | z
    · rw [h] at z; cases z
    · exact absurd z h'
theorem EnvR.step (e : EnvR K F H σ δ) (s : Step F H F' H') : EnvR K F' H' σ δ := by
  refine ⟨e.len, fun i d h => ?_, fun i p ds h => ?_, fun i p ds h => ?_, fun i p C ds h => ?_, e.dis⟩
  · obtain ⟨v, h1, h2⟩ := e.val i d h
    exact ⟨v, h1, h2.mono s.gr⟩
  · obtain ⟨h1, h2, xs, h3, h4⟩ := e.lst i p ds h
    exact ⟨h1, s.nofz h2 (by rw [h3]; simp), xs, s.ex _ _ h3, h4.mono s.gr⟩
  · obtain ⟨h1, h2, xs, h3, h4⟩ := e.dct i p ds h
    exact ⟨h1, s.nofz h2 (by rw [h3]; simp), xs, s.ex _ _ h3, h4.mono s.gr⟩
  · obtain ⟨h1, h2, dx, xs, h3, h4⟩ := e.ins i p C ds h
    exact ⟨h1, s.nofz h2 (by rw [h3]; simp), dx, xs, s.ex _ _ h3, h4.mono s.gr⟩
theorem set_cases {α : Type} {l : List α} {i j : Nat} {a b : α} (h : (l.set i a)[j]? = some b) : (j = i ∧ b = a ∧ i < l.length) ∨ (j ≠ i ∧ l[j]? = some b) := by
  rw [List.getElem?_set] at h
  split at h
  · rename_i e
    split at h
    · rename_i hl
      exact .inl ⟨e.symm, (Option.some.inj h).symm, hl⟩
    · cases h
  · rename_i e
    exact .inr ⟨fun z => e z.symm, h⟩
/-- a slot gets a value -/
theorem EnvR.setV {i : Nat} {v : V} {d : D} (e : EnvR K F H σ δ) (r : Rp K F v d) : EnvR K F H (σ.set i (some v)) (δ.set i (.v d)) := by
  refine ⟨by rw [List.length_set, List.length_set, e.len], fun j d' h => ?_, fun j p ds h => ?_, fun j p ds h => ?_, fun j p C ds h => ?_, fun j k s t p h1 h2 h3 h4 => ?_⟩
  · rcases set_cases h with ⟨rfl, hb, hl⟩ | ⟨hj, hb⟩
    · cases hb
      exact ⟨v, by rw [List.getElem?_set_self (by rw [e.len]; exact hl)], r⟩
    · obtain ⟨w, h1, h2⟩ := e.val j d' hb
      exact ⟨w, by rw [List.getElem?_set_ne (fun z => hj z.symm)]; exact h1, h2⟩
  · rcases set_cases h with ⟨rfl, hb, hl⟩ | ⟨hj, hb⟩
    · cases hb
    · obtain ⟨h1, h2⟩ := e.lst j p ds hb
      exact ⟨by rw [List.getElem?_set_ne (fun z => hj z.symm)]; exact h1, h2⟩
  · rcases set_cases h with ⟨rfl, hb, hl⟩ | ⟨hj, hb⟩
    · cases hb
    · obtain ⟨h1, h2⟩ := e.dct j p ds hb
      exact ⟨by rw [List.getElem?_set_ne (fun z => hj z.symm)]; exact h1, h2⟩
  · rcases set_cases h with ⟨rfl, hb, hl⟩ | ⟨hj, hb⟩
    · cases hb
    · obtain ⟨h1, h2⟩ := e.ins j p C ds hb
      exact ⟨by rw [List.getElem?_set_ne (fun z => hj z.symm)]; exact h1, h2⟩
  · rcases set_cases h1 with ⟨rfl, hb, hl⟩ | ⟨hj, hb⟩
    · subst hb; cases h3
    · rcases set_cases h2 with ⟨rfl, hb', hl⟩ | ⟨hk, hb'⟩
      · subst hb'; cases h4
      · exact e.dis j k s t p hb hb' h3 h4
theorem own_setV {i : Nat} {d : D} {p : Addr} (h : own (δ.set i (.v d)) p) : own δ p := by
  obtain ⟨j, s, h1, h2⟩ := h
  rcases set_cases h1 with ⟨rfl, hb, hl⟩ | ⟨hj, hb⟩
  · subst hb; cases h2
  · exact ⟨j, s, hb, h2⟩
/-- a slot is forgotten -/
theorem EnvR.setN {i : Nat} (e : EnvR K F H σ δ) : EnvR K F H (σ.set i none) (δ.set i .no) := by
  refine ⟨by rw [List.length_set, List.length_set, e.len], fun j d' h => ?_, fun j p ds h => ?_, fun j p ds h => ?_, fun j p C ds h => ?_, fun j k s t p h1 h2 h3 h4 => ?_⟩
  · rcases set_cases h with ⟨rfl, hb, hl⟩ | ⟨hj, hb⟩
    · cases hb
    · obtain ⟨w, h1, h2⟩ := e.val j d' hb
      exact ⟨w, by rw [List.getElem?_set_ne (fun z => hj z.symm)]; exact h1, h2⟩
  · rcases set_cases h with ⟨rfl, hb, hl⟩ | ⟨hj, hb⟩
    · cases hb
    · obtain ⟨h1, h2⟩ := e.lst j p ds hb
      exact ⟨by rw [List.getElem?_set_ne (fun z => hj z.symm)]; exact h1, h2⟩
  · rcases set_cases h with ⟨rfl, hb, hl⟩ | ⟨hj, hb⟩
    · cases hb
    · obtain ⟨h1, h2⟩ := e.dct j p ds hb
      exact ⟨by rw [List.getElem?_set_ne (fun z => hj z.symm)]; exact h1, h2⟩
  · rcases set_cases h with ⟨rfl, hb, hl⟩ | ⟨hj, hb⟩
    · cases hb
    · obtain ⟨h1, h2⟩ := e.ins j p C ds hb
      exact ⟨by rw [List.getElem?_set_ne (fun z => hj z.symm)]; exact h1, h2⟩
  · rcases set_cases h1 with ⟨rfl, hb, hl⟩ | ⟨hj, hb⟩
    · subst hb; cases h3
    · rcases set_cases h2 with ⟨rfl, hb', hl⟩ | ⟨hk, hb'⟩
      · subst hb'; cases h4
      · exact e.dis j k s t p hb hb' h3 h4
def wipeD (δ : Ev) : List Nat → Ev
  | [] => δ
  | v :: vs => (wipeD δ vs).set v .no
theorem EnvR.wipe (e : EnvR K F H σ δ) : ∀ vs : List Nat, EnvR K F H (L2.wipe σ vs) (wipeD δ vs)
  | [] => e
  | v :: vs => (EnvR.wipe e vs).setN
end
end Ts
namespace Ts
open PySem L2
/-! ### what is wanted of a reading, over data alone -/
def wpE (K : PySem.W.Frag) (te : TE) (δ : Ev) (k : D → Prop) : Prop := ∀ (σ : L2.St) (F H : Hp), Le F H → EnvR K F H σ δ → ∀ Q : VK, (∀ v d F' H', Step F H F' H' → Rp K F' v d → k d → Q v H') → te σ H Q
def wpA (K : PySem.W.Frag) (ta : TA) (δ : Ev) (k : List D → Prop) : Prop := ∀ (σ : L2.St) (F H : Hp), Le F H → EnvR K F H σ δ → ∀ Q : List V → Hp → Prop, (∀ vs ds F' H', Step F H F' H' → RpL K F' vs ds → k ds → Q vs H') → ta σ H Q
def wpT (K : PySem.W.Frag) (tt : TT) (δ : Ev) (k : Bool → Prop) : Prop := ∀ (σ : L2.St) (F H : Hp), Le F H → EnvR K F H σ δ → ∀ Q : Bool → Hp → Prop, (∀ b F' H', Step F H F' H' → k b → Q b H') → tt σ H Q
def wpO (K : PySem.W.Frag) (to : TO) (δ : Ev) (k : Option Int → Prop) : Prop := ∀ (σ : L2.St) (F H : Hp), Le F H → EnvR K F H σ δ → ∀ Q : Option Int → Hp → Prop, (∀ b F' H', Step F H F' H' → k b → Q b H') → to σ H Q
/-- an operator on two values -/
def opD (K : PySem.W.Frag) (r : R2) (x y : D) (k : D → Prop) : Prop := ∀ (F H : Hp) (u v : V), Le F H → Rp K F u x → Rp K F v y → ∀ Q : VK, (∀ w d F' H', Step F H F' H' → Rp K F' w d → k d → Q w H') → r u v H Q
def unD (K : PySem.W.Frag) (r : V → Hp → VK → Prop) (x : D) (k : D → Prop) : Prop := ∀ (F H : Hp) (u : V), Le F H → Rp K F u x → ∀ Q : VK, (∀ w d F' H', Step F H F' H' → Rp K F' w d → k d → Q w H') → r u H Q
/-- a call on values -/
def clD (K : PySem.W.Frag) (r : List V → Hp → VK → Prop) (xs : List D) (k : D → Prop) : Prop := ∀ (F H : Hp) (us : List V), Le F H → RpL K F us xs → ∀ Q : VK, (∀ w d F' H', Step F H F' H' → Rp K F' w d → k d → Q w H') → r us H Q

section
variable {K : PySem.W.Frag} {δ : Ev} {k : D → Prop} {ta tb tc te : TE} {t u : TT} {r : R2}
theorem wpE.mono {k' : D → Prop} (h : wpE K te δ k) (hk : ∀ d, k d → k' d) : wpE K te δ k' := fun σ F H l e Q q => h σ F H l e Q fun v d F' H' s r z => q v d F' H' s r (hk d z)
theorem wpT.mono {k k' : Bool → Prop} (h : wpT K t δ k) (hk : ∀ d, k d → k' d) : wpT K t δ k' := fun σ F H l e Q q => h σ F H l e Q fun b F' H' s z => q b F' H' s (hk b z)
theorem e_var {i : Nat} {d : D} (h : δ[i]? = some (.v d)) (hk : k d) : wpE K (tVar i) δ k := fun σ F H l e Q q => by
  obtain ⟨v, h1, h2⟩ := e.val i d h
  exact ⟨v, h1, q v d F H (Step.refl l) h2 hk⟩
/-- a scalar as data -/
def dV : V → D
  | .non => .non
  | .bl b => .bl b
  | .int i => .int i
  | .str x => .str x
  | v => .oth v
theorem rp_dV {F : Hp} : ∀ v : V, Rp K F v (dV v)
  | .non => .non
  | .bl b => .bl b
  | .int i => .int i
  | .str x => .str x
  | .byt b => .oth _
  | .flt b => .oth _
  | .ref a => .oth _
  | .ty n => .oth _
theorem e_c {v : V} (hk : k (dV v)) : wpE K (tC v) δ k := fun σ F H l e Q q => q v _ F H (Step.refl l) (rp_dV v) hk
theorem e_int {i : Int} (hk : k (.int i)) : wpE K (tC (.int i)) δ k := e_c hk
theorem e_str {i : Str} (hk : k (.str i)) : wpE K (tC (.str i)) δ k := e_c hk
theorem e_bl {i : Bool} (hk : k (.bl i)) : wpE K (tC (.bl i)) δ k := e_c hk
theorem e_non (hk : k .non) : wpE K (tC .non) δ k := e_c hk
theorem e_op (h : wpE K ta δ fun x => wpE K tb δ fun y => opD K r x y k) : wpE K (tOp r ta tb) δ k := fun σ F H l e Q q =>
  h σ F H l e _ fun v x F1 H1 s1 r1 h1 => h1 σ F1 H1 s1.le (e.step s1) _ fun w y F2 H2 s2 r2 h2 => h2 F2 H2 v w s2.le (r1.mono s2.gr) r2 Q fun z d F3 H3 s3 r3 h3 => q z d F3 H3 ((s1.trans s2).trans s3) r3 h3
theorem e_un {r : V → Hp → VK → Prop} (h : wpE K ta δ fun x => unD K r x k) : wpE K (tUn r ta) δ k := fun σ F H l e Q q =>
  h σ F H l e _ fun v x F1 H1 s1 r1 h1 => h1 F1 H1 v s1.le r1 Q fun z d F3 H3 s3 r3 h3 => q z d F3 H3 (s1.trans s3) r3 h3
theorem a_nil {k : List D → Prop} (h : k []) : wpA K tNil δ k := fun σ F H l e Q q => q [] [] F H (Step.refl l) .nil h
theorem a_cons {tr : TA} {k : List D → Prop} (h : wpE K ta δ fun x => wpA K tr δ fun xs => k (x :: xs)) : wpA K (tCons ta tr) δ k := fun σ F H l e Q q =>
  h σ F H l e _ fun v x F1 H1 s1 r1 h1 => h1 σ F1 H1 s1.le (e.step s1) _ fun vs ds F2 H2 s2 r2 h2 => q (v :: vs) (x :: ds) F2 H2 (s1.trans s2) (.cons (r1.mono s2.gr) r2) h2
theorem e_tup {ta : TA} (h : wpA K ta δ fun ds => ds.length ≤ 1000000 ∧ k (.tup ds)) : wpE K (tTup ta) δ k := fun σ F H l e Q q =>
  h σ F H l e _ fun vs ds F1 H1 s1 r1 ⟨h0, h1⟩ => ⟨by rw [r1.len]; exact Nat.le_trans h0 (by decide), fun p hp => by
    have s2 : Step F1 H1 (upd F1 p (.tup vs)) (upd H1 p (.tup vs)) := Step.new s1.le hp
    exact q (.ref p) (.tup ds) _ _ (s1.trans s2) (.tup (SqT.of upd_same) (r1.mono s2.gr)) h1⟩
theorem e_lst {ta : TA} (h : wpA K ta δ fun ds => ds.length ≤ 1000000 ∧ k (.lst ds)) : wpE K (tLst ta) δ k := fun σ F H l e Q q =>
  h σ F H l e _ fun vs ds F1 H1 s1 r1 ⟨h0, h1⟩ => ⟨by rw [r1.len]; exact Nat.le_trans h0 (by decide), fun p hp => by
    have s2 : Step F1 H1 (upd F1 p (.lst vs)) (upd H1 p (.lst vs)) := Step.new s1.le hp
    exact q (.ref p) (.lst ds) _ _ (s1.trans s2) (.lst upd_same (r1.mono s2.gr)) h1⟩
theorem e_cb {r : List V → Hp → VK → Prop} {ta : TA} (h : wpA K ta δ fun xs => clD K r xs k) : wpE K (tCB r ta) δ k := fun σ F H l e Q q =>
  h σ F H l e _ fun vs ds F1 H1 s1 r1 h1 => h1 F1 H1 vs s1.le r1 Q fun z d F3 H3 s3 r3 h3 => q z d F3 H3 (s1.trans s3) r3 h3
/-! ### tests -/
def isB (d : D) (k : Bool → Prop) : Prop := ∃ b, d = .bl b ∧ k b
theorem Rp.blI {F : Hp} {v : V} {b : Bool} (h : Rp K F v (.bl b)) : v = .bl b := by cases h; rfl
theorem Rp.intI {F : Hp} {v : V} {b : Int} (h : Rp K F v (.int b)) : v = .int b := by cases h; rfl
theorem Rp.strI {F : Hp} {v : V} {b : Str} (h : Rp K F v (.str b)) : v = .str b := by cases h; rfl
theorem Rp.nonI {F : Hp} {v : V} (h : Rp K F v .non) : v = .non := by cases h; rfl
theorem Rp.othI {F : Hp} {v w : V} (h : Rp K F v (.oth w)) : v = w := by cases h; rfl
theorem Rp.lstI {F : Hp} {v : V} {ds : List D} (h : Rp K F v (.lst ds)) : ∃ a xs, v = .ref a ∧ F a = some (.lst xs) ∧ RpL K F xs ds := by cases h with | lst s r => exact ⟨_, _, rfl, s, r⟩
/-- a list's items -/
def asL : D → Option (List D)
  | .lst ds => some ds
  | .lat _ ds => some ds
  | _ => none
theorem Rp.asL {F : Hp} {v : V} {d : D} {ds : List D} (h : Rp K F v d) (e : asL d = some ds) : ∃ a xs, v = .ref a ∧ SqL K F a xs ∧ RpL K F xs ds := by
  cases h with
  | lst s r => cases e; exact ⟨_, _, rfl, SqL.of s, r⟩
  | lat s r => cases e; exact ⟨_, _, rfl, s, r⟩
  | _ => cases e
theorem Rp.tupI {F : Hp} {v : V} {ds : List D} (h : Rp K F v (.tup ds)) : ∃ a xs, v = .ref a ∧ SqT K F a xs ∧ RpL K F xs ds := by cases h with | tup s r => exact ⟨_, _, rfl, s, r⟩
theorem Rp.dicI {F : Hp} {v : V} {ds : List (Key × D)} (h : Rp K F v (.dic ds)) : ∃ a xs, v = .ref a ∧ F a = some (.dK xs) ∧ RpK K F xs ds := by cases h with | dic s r => exact ⟨_, _, rfl, s, r⟩
theorem t_test {k : Bool → Prop} (h : wpE K te δ fun d => isB d k) : wpT K (tTest te) δ k := fun σ F H l e Q q =>
  h σ F H l e _ fun v d F1 H1 s1 r1 ⟨b, h1, h2⟩ => by subst h1; exact ⟨b, r1.blI, q b F1 H1 s1 h2⟩
theorem t_B {k : Bool → Prop} (h : wpE K te δ fun d => isB d k) : wpT K (tB te) δ k := t_test h
theorem t_and {k : Bool → Prop} (h : wpT K t δ fun b => if b = true then wpT K u δ k else k false) : wpT K (tAnd t u) δ k := fun σ F H l e Q q =>
  h σ F H l e _ fun b F1 H1 s1 h1 => by
    cases b with
    | true =>
      rw [if_pos rfl] at h1 ⊢
      exact h1 σ F1 H1 s1.le (e.step s1) Q fun b F2 H2 s2 h2 => q b F2 H2 (s1.trans s2) h2
    | false =>
      rw [if_neg (by decide)] at h1 ⊢
      exact q false F1 H1 s1 h1
theorem t_or {k : Bool → Prop} (h : wpT K t δ fun b => if b = true then k true else wpT K u δ k) : wpT K (tOr t u) δ k := fun σ F H l e Q q =>
  h σ F H l e _ fun b F1 H1 s1 h1 => by
    cases b with
    | true =>
      rw [if_pos rfl] at h1 ⊢
      exact q true F1 H1 s1 h1
    | false =>
      rw [if_neg (by decide)] at h1 ⊢
      exact h1 σ F1 H1 s1.le (e.step s1) Q fun b F2 H2 s2 h2 => q b F2 H2 (s1.trans s2) h2
theorem t_not {k : Bool → Prop} (h : wpT K t δ fun b => k (!b)) : wpT K (tNot t) δ k := fun σ F H l e Q q => h σ F H l e _ fun b F1 H1 s1 h1 => q (!b) F1 H1 s1 h1
theorem t_yes {k : Bool → Prop} (h : k true) : wpT K tYes δ k := fun σ F H l e Q q => q true F H (Step.refl l) h
theorem e_andV (h : wpE K ta δ fun d => isB d fun b => if b = true then wpE K tb δ k else k (.bl false)) : wpE K (tAndV ta tb) δ k := fun σ F H l e Q q =>
  h σ F H l e _ fun v d F1 H1 s1 r1 ⟨b, h0, h1⟩ => by
    subst h0
    refine ⟨b, r1.blI, ?_⟩
    cases b with
    | true =>
      rw [if_pos rfl] at h1 ⊢
      exact h1 σ F1 H1 s1.le (e.step s1) Q fun v d F2 H2 s2 r2 h2 => q v d F2 H2 (s1.trans s2) r2 h2
    | false =>
      rw [if_neg (by decide)] at h1 ⊢
      exact q _ _ F1 H1 s1 (.bl false) h1
theorem e_orV (h : wpE K ta δ fun d => isB d fun b => if b = true then k (.bl true) else wpE K tb δ k) : wpE K (tOrV ta tb) δ k := fun σ F H l e Q q =>
  h σ F H l e _ fun v d F1 H1 s1 r1 ⟨b, h0, h1⟩ => by
    subst h0
    refine ⟨b, r1.blI, ?_⟩
    cases b with
    | true =>
      rw [if_pos rfl] at h1 ⊢
      exact q _ _ F1 H1 s1 (.bl true) h1
    | false =>
      rw [if_neg (by decide)] at h1 ⊢
      exact h1 σ F1 H1 s1.le (e.step s1) Q fun v d F2 H2 s2 r2 h2 => q v d F2 H2 (s1.trans s2) r2 h2
theorem e_notV (h : wpE K ta δ fun d => isB d fun b => k (.bl (!b))) : wpE K (tNotV ta) δ k := fun σ F H l e Q q =>
  h σ F H l e _ fun v d F1 H1 s1 r1 ⟨b, h0, h1⟩ => by
    subst h0
    exact ⟨b, r1.blI, q _ _ F1 H1 s1 (.bl _) h1⟩
theorem e_if (h : wpT K t δ fun b => if b = true then wpE K ta δ k else wpE K tb δ k) : wpE K (tIf t ta tb) δ k := fun σ F H l e Q q =>
  h σ F H l e _ fun b F1 H1 s1 h1 => by
    cases b with
    | true =>
      rw [if_pos rfl] at h1 ⊢
      exact h1 σ F1 H1 s1.le (e.step s1) Q fun v d F2 H2 s2 r2 h2 => q v d F2 H2 (s1.trans s2) r2 h2
    | false =>
      rw [if_neg (by decide)] at h1 ⊢
      exact h1 σ F1 H1 s1.le (e.step s1) Q fun v d F2 H2 s2 r2 h2 => q v d F2 H2 (s1.trans s2) r2 h2
theorem isB_ {b : Bool} {k : Bool → Prop} (h : k b) : isB (.bl b) k := ⟨b, rfl, h⟩
/-! ### operators -/
theorem o_or1 {r1 r2 : R2} {x y : D} (h : opD K r1 x y k) : opD K (fun u v H Q => r1 u v H Q ∨ r2 u v H Q) x y k := fun F H u v l a b Q q => .inl (h F H u v l a b Q q)
theorem o_or2 {r1 r2 : R2} {x y : D} (h : opD K r2 x y k) : opD K (fun u v H Q => r1 u v H Q ∨ r2 u v H Q) x y k := fun F H u v l a b Q q => .inr (h F H u v l a b Q q)
theorem o_I0 {g : Int → Int → V} {i j : Int} (h : k (dV (g i j))) : opD K (rI0 g) (.int i) (.int j) k := fun F H u v l a b Q q => ⟨i, j, a.intI, b.intI, q _ _ F H (Step.refl l) (rp_dV _) h⟩
theorem o_I {C : Int → Int → Prop} {g : Int → Int → V} {i j : Int} (hc : C i j) (h : k (dV (g i j))) : opD K (rI C g) (.int i) (.int j) k := fun F H u v l a b Q q => ⟨i, j, a.intI, b.intI, hc, q _ _ F H (Step.refl l) (rp_dV _) h⟩
theorem u_U {g : Int → V} {i : Int} (h : k (dV (g i))) : unD K (rU g) (.int i) k := fun F H u l a Q q => ⟨i, a.intI, q _ _ F H (Step.refl l) (rp_dV _) h⟩
/-- a scalar as a value -/
def sV : D → Option V
  | .non => some .non
  | .bl b => some (.bl b)
  | .int i => some (.int i)
  | .str x => some (.str x)
  | _ => none
theorem rp_sV {F : Hp} {v w : V} {d : D} (r : Rp K F v d) (h : sV d = some w) : v = w := by
  cases d with
  | non => cases h; exact r.nonI
  | bl b => cases h; exact r.blI
  | int b => cases h; exact r.intI
  | str b => cases h; exact r.strI
  | _ => cases h
theorem o_eq {x y : D} {v w : V} (hx : sV x = some v) (hy : sV y = some w) (hs : scal v w = true) (h : k (.bl (decide (v = w)))) : opD K rEq x y k := fun F H u u' l a b Q q => by
  obtain rfl := rp_sV a hx
  obtain rfl := rp_sV b hy
  exact ⟨hs, q _ _ F H (Step.refl l) (.bl _) h⟩
theorem o_ne {x y : D} {v w : V} (hx : sV x = some v) (hy : sV y = some w) (hs : scal v w = true) (h : k (.bl (!decide (v = w)))) : opD K rNe x y k := fun F H u u' l a b Q q => by
  obtain rfl := rp_sV a hx
  obtain rfl := rp_sV b hy
  exact ⟨hs, q _ _ F H (Step.refl l) (.bl _) h⟩
theorem o_ixT {ds : List D} {i : Int} {d : D} (ha : atI ds i = some d) (h : k d) : opD K (rIxT K) (.tup ds) (.int i) k := fun F H u v l a b Q q => by
  obtain ⟨p, xs, rfl, s, r⟩ := a.tupI
  obtain ⟨v', h1, h2⟩ := r.atI ha
  exact ⟨p, xs, i, v', rfl, b.intI, l.sqt s, h1, q _ _ F H (Step.refl l) h2 h⟩
theorem o_ixL {x : D} {ds : List D} {i : Int} {d : D} (hx : asL x = some ds) (ha : atI ds i = some d) (h : k d) : opD K (rIxL K) x (.int i) k := fun F H u v l a b Q q => by
  obtain ⟨p, xs, rfl, s, r⟩ := a.asL hx
  obtain ⟨v', h1, h2⟩ := r.atI ha
  exact ⟨p, xs, i, v', rfl, b.intI, l.sql s, h1, q _ _ F H (Step.refl l) h2 h⟩
theorem o_ixS {z : Str} {i : Int} {c : Nat} (hz : z.length ≤ 1000000) (ha : atI z.cps.toList i = some c) (h : k (.str ⟨#[c]⟩)) : opD K rIxS (.str z) (.int i) k := fun F H u v l a b Q q =>
  ⟨z, i, c, a.strI, b.intI, Nat.le_trans hz (by decide), ha, q _ _ F H (Step.refl l) (.str _) h⟩
theorem o_ix1 {x : D} {ds : List D} {i : Int} {d : D} (hx : asL x = some ds) (ha : atI ds i = some d) (h : k d) : opD K (rIx K) x (.int i) k := fun F H u v l a b Q q => .inl (o_ixL hx ha h F H u v l a b Q q)
theorem o_ix2 {ds : List D} {i : Int} {d : D} (ha : atI ds i = some d) (h : k d) : opD K (rIx K) (.tup ds) (.int i) k := fun F H u v l a b Q q => .inr (.inl (o_ixT ha h F H u v l a b Q q))
theorem o_ix3 {z : Str} {i : Int} {c : Nat} (hz : z.length ≤ 1000000) (ha : atI z.cps.toList i = some c) (h : k (.str ⟨#[c]⟩)) : opD K (rIx K) (.str z) (.int i) k := fun F H u v l a b Q q => .inr (.inr (o_ixS hz ha h F H u v l a b Q q))
/-- is None -/
def noneB : D → Bool
  | .non => true
  | .oth .non => true
  | _ => false
theorem rp_none {F : Hp} {v : V} {d : D} (r : Rp K F v d) : decide (v = V.non) = noneB d := by
  cases r with
  | oth v => cases v <;> rfl
  | _ => rfl
theorem o_isN {x : D} (h : k (.bl (noneB x))) : opD K (fun x y H Q => y = V.non ∧ Q (.bl (decide (x = .non))) H) x .non k := fun F H u v l a b Q q => ⟨b.nonI, by rw [rp_none a]; exact q _ _ F H (Step.refl l) (.bl _) h⟩
theorem o_notN {x : D} (h : k (.bl (!noneB x))) : opD K (fun x y H Q => y = V.non ∧ Q (.bl (!decide (x = .non))) H) x .non k := fun F H u v l a b Q q => ⟨b.nonI, by rw [rp_none a]; exact q _ _ F H (Step.refl l) (.bl _) h⟩
end
end Ts
namespace Ts
open PySem L2
/-! ### statements -/
structure StepO (O : Addr → Prop) (F H F' H' : Hp) : Prop where
  ex : ∀ a o, ¬ O a → H a = some o → H' a = some o
  th : ∀ a, H a ≠ none → H' a ≠ none
  gr : Gr F F'
  le : Le F' H'
  nw : ∀ a o, F' a = some o → F a = some o ∨ H a = none ∨ O a
theorem StepO.refl {O : Addr → Prop} {F H : Hp} (l : Le F H) : StepO O F H F H := ⟨fun _ _ _ h => h, fun _ h => h, Gr.refl F, l, fun _ _ h => .inl h⟩
theorem Step.o {O : Addr → Prop} {F H F' H' : Hp} (s : Step F H F' H') : StepO O F H F' H' :=
  ⟨fun a o _ h => s.ex a o h, fun a h z => h (s.back z), s.gr, s.le, fun a o h => (s.nw a o h).imp id .inl⟩
theorem StepO.back {O : Addr → Prop} {F H F' H' : Hp} (s : StepO O F H F' H') {a : Addr} (h : H' a = none) : H a = none := by
  cases e : H a with
  | none => rfl
  | some o => exact absurd h (s.th a (by rw [e]; simp))
theorem StepO.trans {O O1 : Addr → Prop} {F H F1 H1 F2 H2 : Hp} (s : StepO O F H F1 H1) (ow : ∀ a, O1 a → O a ∨ H a = none) (t : StepO O1 F1 H1 F2 H2) : StepO O F H F2 H2 := by
  refine ⟨fun a o n h => t.ex a o (fun z => ?_) (s.ex a o n h), fun a h => t.th a (s.th a h), s.gr.trans t.gr, t.le, fun a o h => ?_⟩
  · rcases ow a z with z | z
    · exact n z
    · rw [h] at z; cases z
  · rcases t.nw a o h with h | h | h
    · exact s.nw a o h
    · exact .inr (.inl (s.back h))
    · rcases ow a h with h | h
      · exact .inr (.inr h)
      · exact .inr (.inl h)
theorem StepO.step {F H F' H' : Hp} (s : StepO (fun _ => False) F H F' H') : Step F H F' H' := ⟨fun a o h => s.ex a o id h, s.gr, s.le, fun a o h => by
  rcases s.nw a o h with h | h | h
  · exact .inl h
  · exact .inr h
  · exact h.elim⟩
/-- what is wanted behind a statement -/
structure DE where
  nx : Ev → Prop
  rt : D → Ev → Prop
  ro : List D → Prop := fun _ => False
  bk : Ev → Prop := fun _ => False
  ct : Ev → Prop := fun _ => False
structure Lk (K : PySem.W.Frag) (F H : Hp) (δ : Ev) (G : DE) (E : Ends) : Prop where
  nx : ∀ σ' δ' F' H', StepO (own δ) F H F' H' → (∀ a, own δ' a → own δ a ∨ H a = none) → EnvR K F' H' σ' δ' → G.nx δ' → E.nx σ' H'
  rt : ∀ v d σ' δ' F' H', StepO (own δ) F H F' H' → (∀ a, own δ' a → own δ a ∨ H a = none) → EnvR K F' H' σ' δ' → Rp K F' v d → G.rt d δ' → E.rt v H'
  ro : ∀ p xs ds F' H', StepO (own δ) F H F' H' → (own δ p ∨ H p = none) → F' p = none → H' p = some (.lst xs) → RpL K F' xs ds → G.ro ds → E.rt (.ref p) H'
  bk : ∀ σ' δ' F' H', StepO (own δ) F H F' H' → (∀ a, own δ' a → own δ a ∨ H a = none) → EnvR K F' H' σ' δ' → G.bk δ' → E.bk σ' H'
  ct : ∀ σ' δ' F' H', StepO (own δ) F H F' H' → (∀ a, own δ' a → own δ a ∨ H a = none) → EnvR K F' H' σ' δ' → G.ct δ' → E.ct σ' H'
def wpS (K : PySem.W.Frag) (t : TS) (G : DE) (δ : Ev) : Prop := ∀ (σ : L2.St) (F H : Hp), Le F H → EnvR K F H σ δ → ∀ E : Ends, Lk K F H δ G E → t E σ H
section
variable {K : PySem.W.Frag} {F H F1 H1 : Hp} {δ δ1 : Ev} {G : DE} {E : Ends}
theorem ow_trans {a : Addr} {O O1 O2 : Addr → Prop} (s : StepO O F H F1 H1) (o1 : ∀ a, O1 a → O a ∨ H a = none) (o2 : ∀ a, O2 a → O1 a ∨ H1 a = none) : ∀ a, O2 a → O a ∨ H a = none := fun a h => by
  rcases o2 a h with h | h
  · exact o1 a h
  · exact .inr (s.back h)
theorem Lk.after (L : Lk K F H δ G E) (s : StepO (own δ) F H F1 H1) (ow : ∀ a, own δ1 a → own δ a ∨ H a = none) : Lk K F1 H1 δ1 G E :=
  ⟨fun σ' δ' F' H' t o e g => L.nx σ' δ' F' H' (s.trans ow t) (ow_trans (a := 0) s ow o) e g, fun v d σ' δ' F' H' t o e r g => L.rt v d σ' δ' F' H' (s.trans ow t) (ow_trans (a := 0) s ow o) e r g, fun p xs ds F' H' t o f h r g => L.ro p xs ds F' H' (s.trans ow t) (o.elim (ow p) fun z => .inr (s.back z)) f h r g,
   fun σ' δ' F' H' t o e g => L.bk σ' δ' F' H' (s.trans ow t) (ow_trans (a := 0) s ow o) e g, fun σ' δ' F' H' t o e g => L.ct σ' δ' F' H' (s.trans ow t) (ow_trans (a := 0) s ow o) e g⟩
theorem Lk.afterE (L : Lk K F H δ G E) (s : Step F H F1 H1) : Lk K F1 H1 δ G E := L.after s.o fun _ h => .inl h
end
section
variable {K : PySem.W.Frag} {δ : Ev} {G : DE} {t u tb : TS} {te ta : TE} {c : TT}
theorem wpS.mono {G' : DE} (h : wpS K t G δ) (h1 : ∀ d, G.nx d → G'.nx d) (h2 : ∀ d δ, G.rt d δ → G'.rt d δ) (h5 : ∀ d, G.ro d → G'.ro d) (h3 : ∀ d, G.bk d → G'.bk d) (h4 : ∀ d, G.ct d → G'.ct d) : wpS K t G' δ := fun σ F H l e E L =>
  h σ F H l e E ⟨fun σ' δ' F' H' s o e g => L.nx σ' δ' F' H' s o e (h1 _ g), fun v d σ' δ' F' H' s o e r g => L.rt v d σ' δ' F' H' s o e r (h2 _ _ g), fun p xs ds F' H' s o f h r g => L.ro p xs ds F' H' s o f h r (h5 _ g), fun σ' δ' F' H' s o e g => L.bk σ' δ' F' H' s o e (h3 _ g), fun σ' δ' F' H' s o e g => L.ct σ' δ' F' H' s o e (h4 _ g)⟩
theorem s_seq (h : wpS K t { G with nx := fun δ' => wpS K u G δ' } δ) : wpS K (tSeq t u) G δ := fun σ F H l e E L =>
  h σ F H l e { E with nx := u E } ⟨fun σ' δ' F' H' s o e g => g σ' F' H' s.le e E (L.after s o), L.rt, L.ro, L.bk, L.ct⟩
theorem s_next (h : G.nx δ) : wpS K tNext G δ := fun σ F H l e E L => L.nx σ δ F H (StepO.refl l) (fun _ h => .inl h) e h
theorem s_brk (h : G.bk δ) : wpS K tBreak G δ := fun σ F H l e E L => L.bk σ δ F H (StepO.refl l) (fun _ h => .inl h) e h
theorem s_cont (h : G.ct δ) : wpS K tCont G δ := fun σ F H l e E L => L.ct σ δ F H (StepO.refl l) (fun _ h => .inl h) e h
theorem s_ret (h : wpE K te δ fun d => G.rt d δ) : wpS K (tRet te) G δ := fun σ F H l e E L => h σ F H l e E.rt fun v d F' H' s r g => L.rt v d σ δ F' H' s.o (fun _ h => .inl h) (e.step s) r g
theorem s_retN (h : G.rt .non δ) : wpS K tRetN G δ := fun σ F H l e E L => L.rt _ _ σ δ F H (StepO.refl l) (fun _ h => .inl h) e .non h
theorem s_drop (h : wpE K te δ fun _ => G.nx δ) : wpS K (tDrop te) G δ := fun σ F H l e E L => h σ F H l e _ fun v d F' H' s r g => L.nx σ δ F' H' s.o (fun _ h => .inl h) (e.step s) g
theorem s_if (h : wpT K c δ fun b => if b = true then wpS K t G δ else wpS K u G δ) : wpS K (tIfS c t u) G δ := fun σ F H l e E L =>
  h σ F H l e _ fun b F1 H1 s1 h1 => by
    cases b with
    | true =>
      rw [if_pos rfl] at h1 ⊢
      exact h1 σ F1 H1 s1.le (e.step s1) E (L.afterE s1)
    | false =>
      rw [if_neg (by decide)] at h1 ⊢
      exact h1 σ F1 H1 s1.le (e.step s1) E (L.afterE s1)
/-! ### targets -/
def tgJ (K : PySem.W.Frag) (g : TG) (js : List Nat) (d : D) (δ : Ev) (k : Ev → Prop) : Prop := ∀ (v : V) (σ : L2.St) (F H : Hp), Le F H → EnvR K F H σ δ → Rp K F v d → ∀ Q : L2.St → Hp → Prop,
  (∀ σ' δ', EnvR K F H σ' δ' → (∀ a, own δ' a → own δ a) → (∀ vs : List Nat, (∀ j ∈ js, j ∈ vs) → L2.wipe σ' vs = L2.wipe σ vs) → k δ' → Q σ' H) → g v σ H Q
def tgL (K : PySem.W.Frag) (g : TGs) (js : List Nat) (ds : List D) (δ : Ev) (k : Ev → Prop) : Prop := ∀ (v : List V) (σ : L2.St) (F H : Hp), Le F H → EnvR K F H σ δ → RpL K F v ds → ∀ Q : L2.St → Hp → Prop,
  (∀ σ' δ', EnvR K F H σ' δ' → (∀ a, own δ' a → own δ a) → (∀ vs : List Nat, (∀ j ∈ js, j ∈ vs) → L2.wipe σ' vs = L2.wipe σ vs) → k δ' → Q σ' H) → g v σ H Q
theorem wipe_ix {σ : L2.St} {j : Nat} : ∀ {vs : List Nat}, j ∉ vs → (L2.wipe σ vs)[j]? = σ[j]?
  | [], _ => rfl
  | v :: vs, h => by
    have h1 : j ≠ v := fun z => h (by rw [z]; exact List.mem_cons_self)
    show ((L2.wipe σ vs).set v none)[j]? = σ[j]?
    rw [List.getElem?_set_ne (fun z => h1 z.symm), wipe_ix fun z => h (List.mem_cons_of_mem _ z)]
theorem wipe_in {σ : L2.St} {j : Nat} : ∀ {vs : List Nat}, j ∈ vs → j < σ.length → (L2.wipe σ vs)[j]? = some none
  | v :: vs, h, hl => by
    show ((L2.wipe σ vs).set v none)[j]? = some none
    by_cases e : j = v
    · subst e
      rw [List.getElem?_set_self (by rw [L2.wipe_length]; exact hl)]
    · rw [List.getElem?_set_ne (fun z => e z.symm)]
      rcases List.mem_cons.mp h with z | z
      · exact absurd z e
      · exact wipe_in z hl
theorem wipe_set {σ : L2.St} {i : Nat} {x : Option V} {vs : List Nat} (h : i ∈ vs) : L2.wipe (σ.set i x) vs = L2.wipe σ vs := by
  apply List.ext_getElem?
  intro j
  by_cases hj : j ∈ vs
  · by_cases hl : j < σ.length
    · rw [wipe_in hj (by rw [List.length_set]; exact hl), wipe_in hj hl]
    · rw [List.getElem?_eq_none (by rw [L2.wipe_length, List.length_set]; omega), List.getElem?_eq_none (by rw [L2.wipe_length]; omega)]
  · rw [wipe_ix hj, wipe_ix hj, List.getElem?_set_ne (fun z => hj (by rw [← z]; exact h))]
theorem g_name {i : Nat} {d : D} {k : Ev → Prop} (h : k (δ.set i (.v d))) : tgJ K (gName i) [i] d δ k := fun v σ F H l e r Q q =>
  q _ _ (e.setV r) (fun a => own_setV) (fun vs hv => wipe_set (hv i (List.mem_singleton.mpr rfl))) h
theorem gl_nil {k : Ev → Prop} (h : k δ) : tgL K gNil [] [] δ k := fun v σ F H l e r Q q => by
  cases r
  exact ⟨rfl, q σ δ e (fun _ h => h) (fun _ _ => rfl) h⟩
theorem gl_cons {g : TGs} {i : Nat} {js : List Nat} {d : D} {ds : List D} {k : Ev → Prop} (h : tgL K g js ds (δ.set i (.v d)) k) : tgL K (gCons (gName i) g) (i :: js) (d :: ds) δ k := fun v σ F H l e r Q q => by
  cases r with
  | cons r1 r2 =>
    refine ⟨_, _, rfl, ?_⟩
    refine h _ _ F H l (e.setV r1) r2 Q fun σ' δ' e' o w z => q σ' δ' e' (fun a ha => own_setV (o a ha)) (fun vs hv => ?_) z
    rw [w vs (fun j hj => hv j (List.mem_cons_of_mem _ hj)), wipe_set (hv i List.mem_cons_self)]
theorem g_tup {g : TGs} {n : Nat} {js : List Nat} {ds : List D} {k : Ev → Prop} (hn : ds.length = n) (h : tgL K g js ds δ k) : tgJ K (gTup K n g) js (.tup ds) δ k := fun v σ F H l e r Q q => by
  obtain ⟨a, xs, rfl, s, r⟩ := r.tupI
  exact ⟨a, xs, rfl, l.sqt s, by rw [r.len, hn], h xs σ F H l e r Q q⟩
theorem s_asg {g : TG} {js : List Nat} (h : wpE K te δ fun d => tgJ K g js d δ G.nx) : wpS K (tAsg te g) G δ := fun σ F H l e E L =>
  h σ F H l e _ fun v d F1 H1 s1 r1 h1 => h1 v σ F1 H1 s1.le (e.step s1) r1 _ fun σ' δ' e' o _ z => L.nx σ' δ' F1 H1 s1.o (fun a h => .inl (o a h)) e' z
theorem s_set {i : Nat} (h : wpE K te δ fun d => G.nx (δ.set i (.v d))) : wpS K (tAsg te (gName i)) G δ := s_asg (h.mono fun d z => g_name z)
theorem s_par {i j : Nat} {ta : TA} (h : wpA K ta δ fun ds => ∃ a b, ds = [a, b] ∧ G.nx ((δ.set i (.v a)).set j (.v b))) : wpS K (tPar i j ta) G δ := fun σ F H l e E L =>
  h σ F H l e _ fun vs ds F1 H1 s1 r1 ⟨a, b, h0, h1⟩ => by
    subst h0
    cases r1 with
    | cons ra r1 => cases r1 with
      | cons rb r1 =>
        cases r1
        exact ⟨_, _, rfl, L.nx _ _ F1 H1 s1.o (fun a h => .inl (own_setV (own_setV h))) (((e.step s1).setV ra).setV rb) h1⟩
theorem s_aug {i : Nat} {f : Int → Int → Int} {a : Int} (hx : δ[i]? = some (.v (.int a))) (h : wpE K te δ fun y => ∃ b, y = .int b ∧ G.nx (δ.set i (.v (.int (f a b))))) : wpS K (tAug i te (ipI f)) G δ := fun σ F H l e E L => by
  obtain ⟨v, h1, h2⟩ := e.val i _ hx
  refine ⟨v, h1, h σ F H l e _ fun w y F1 H1 s1 r1 ⟨b, hy, hz⟩ => ?_⟩
  subst hy
  exact ⟨a, b, h2.intI, r1.intI, L.nx _ _ F1 H1 s1.o (fun a h => .inl (own_setV h)) ((e.step s1).setV (.int _)) hz⟩
/-! ### loops -/
/-- a for over data -/
def forW (K : PySem.W.Frag) (g : TG) (js : List Nat) (tb : TS) (G : DE) : List D → Ev → Prop
  | [], δ => G.nx δ
  | d :: ds, δ => tgJ K g js d δ fun δ1 => wpS K tb { nx := fun δ2 => forW K g js tb G ds δ2, rt := G.rt, ro := G.ro, bk := G.nx, ct := fun δ2 => forW K g js tb G ds δ2 } δ1
/-- what is walked, over data: from (F1, ..) on it gives ds, item by item -/
def ItD (K : PySem.W.Frag) (J : It) (F1 : Hp) (ds : List D) : Prop := ∀ F' H' i, Gr F1 F' → Le F' H' →
  (i < ds.length → J.go i H') ∧ (ds.length ≤ i → J.stop i H') ∧ ∀ x H2, i < ds.length → J.yld i H' x H2 → ∃ d F2, ds[i]? = some d ∧ Step F' H' F2 H2 ∧ Rp K F2 x d
def wpI (K : PySem.W.Frag) (wi : TI) (δ : Ev) (k : List D → Prop) : Prop := ∀ (σ : L2.St) (F H : Hp), Le F H → EnvR K F H σ δ → ∀ R : It → Hp → Prop, (∀ J ds F' H', Step F H F' H' → ItD K J F' ds → k ds → R J H') → wi σ H R
theorem drop_of {α : Type} {ds : List α} {i : Nat} {d : α} (hi : ds[i]? = some d) : ds.drop i = d :: ds.drop (i + 1) := by
  obtain ⟨h1, h2⟩ := List.getElem?_eq_some_iff.mp hi
  rw [List.drop_eq_getElem_cons h1, h2]
theorem s_for {wi : TI} {g : TG} {js : List Nat} (h : wpI K wi δ fun ds => forW K g js tb G ds δ) : wpS K (tFor wi g tb) G δ := fun σ F H l e E L =>
  h σ F H l e _ fun J ds F1 H1 s1 J1 h1 => by
    have L1 := L.afterE s1
    refine ⟨fun i m σ' H' => m = ds.length - i ∧ i ≤ ds.length ∧ ∃ δ' F', StepO (own δ) F1 H1 F' H' ∧ (∀ a, own δ' a → own δ a ∨ H1 a = none) ∧ EnvR K F' H' σ' δ' ∧ forW K g js tb G (ds.drop i) δ',
      ⟨ds.length, rfl, Nat.zero_le _, δ, F1, StepO.refl s1.le, fun _ h => .inl h, e.step s1, h1⟩, ?_⟩
    rintro i m σ' H' ⟨rfl, hi, δ', F', s, ow, e', w⟩
    obtain ⟨j1, j2, j3⟩ := J1 F' H' i s.gr s.le
    by_cases hlt : i < ds.length
    · refine .inr ⟨j1 hlt, fun σ3 H3 => ∃ δ' F', StepO (own δ) F1 H1 F' H3 ∧ (∀ a, own δ' a → own δ a ∨ H1 a = none) ∧ EnvR K F' H3 σ3 δ' ∧ forW K g js tb G (ds.drop (i + 1)) δ', fun σ3 H3 p => ⟨ds.length - (i + 1), by omega, rfl, hlt, p⟩, fun x H2 y => ?_⟩
      obtain ⟨d, F2, hd, s2, r2⟩ := j3 x H2 hlt y
      rw [drop_of hd] at w
      have sa : StepO (own δ) F1 H1 F2 H2 := s.trans ow s2.o
      refine w x σ' F2 H2 s2.le (e'.step s2) r2 _ fun σ2 δ2 e2 o2 _ w2 => ?_
      have ow2 : ∀ a, own δ2 a → own δ a ∨ H1 a = none := fun a h => ow a (o2 a h)
      have L2' := L1.after sa ow2
      refine w2 σ2 F2 H2 s2.le e2 _ ⟨fun σ3 δ3 F3 H3 s3 o3 e3 g3 => ?_, L2'.rt, L2'.ro, L2'.nx, fun σ3 δ3 F3 H3 s3 o3 e3 g3 => ?_⟩
      · exact ⟨δ3, F3, sa.trans ow2 s3, ow_trans (a := 0) sa ow2 o3, e3, g3⟩
      · exact ⟨δ3, F3, sa.trans ow2 s3, ow_trans (a := 0) sa ow2 o3, e3, g3⟩
    · refine .inl ⟨j2 (by omega), ?_⟩
      rw [List.drop_of_length_le (by omega)] at w
      exact L1.nx σ' δ' F' H' s ow e' w
/-! what may be walked -/
theorem i_list {k : List D → Prop} (h : wpE K te δ fun d => ∃ ds, asL d = some ds ∧ k ds) : wpI K (iList K te) δ k := fun σ F H l e R q =>
  h σ F H l e _ fun v d F1 H1 s1 r1 ⟨ds, hd, h1⟩ => by
    obtain ⟨a, xs, rfl, sq, rl⟩ := r1.asL hd
    refine ⟨a, rfl, ⟨xs, s1.le.sql sq⟩, q _ ds F1 H1 s1 (fun F' H' i gr le => ?_) h1⟩
    have sq' : SqL K H' a xs := le.sql (gr.sql sq)
    refine ⟨fun hi => ?_, fun hi => ⟨xs, sq', by rw [rl.len]; exact hi⟩, fun x H2 hi y => ?_⟩
    · have hi' : i < xs.length := by rw [rl.len]; exact hi
      exact ⟨xs, xs[i], sq', List.getElem?_eq_getElem hi'⟩
    · obtain ⟨eH, y⟩ := y
      subst eH
      obtain ⟨d, hd, rd⟩ := rl.atV (y xs sq')
      exact ⟨d, F', hd, Step.refl le, rd.mono gr⟩
theorem i_tup {k : List D → Prop} (h : wpE K te δ fun d => ∃ ds, d = .tup ds ∧ k ds) : wpI K (iTup K te) δ k := fun σ F H l e R q =>
  h σ F H l e _ fun v d F1 H1 s1 r1 ⟨ds, hd, h1⟩ => by
    subst hd
    obtain ⟨a, xs, rfl, sq, rl⟩ := r1.tupI
    refine ⟨a, rfl, ⟨xs, s1.le.sqt sq⟩, q _ ds F1 H1 s1 (fun F' H' i gr le => ?_) h1⟩
    have sq' : SqT K H' a xs := le.sqt (gr.sqt sq)
    refine ⟨fun hi => ?_, fun hi => ⟨xs, sq', by rw [rl.len]; exact hi⟩, fun x H2 hi y => ?_⟩
    · have hi' : i < xs.length := by rw [rl.len]; exact hi
      exact ⟨xs, xs[i], sq', List.getElem?_eq_getElem hi'⟩
    · obtain ⟨eH, y⟩ := y
      subst eH
      obtain ⟨d, hd, rd⟩ := rl.atV (y xs sq')
      exact ⟨d, F', hd, Step.refl le, rd.mono gr⟩
/-- the ints from lo on -/
def rngD (lo : Int) (n : Nat) : List D := (List.range n).map fun (i : Nat) => .int (lo + (i : Int))
theorem rngD_len (lo : Int) (n : Nat) : (rngD lo n).length = n := by simp [rngD]
theorem rngD_at {lo : Int} {n i : Nat} (h : i < n) : (rngD lo n)[i]? = some (.int (lo + (i : Int))) := by simp [rngD, h]
theorem it_rng {F1 : Hp} {lo : Int} {n : Nat} : ItD K (Itr lo n) F1 (rngD lo n) := fun F' H' i gr le =>
  ⟨fun hi => by rw [rngD_len] at hi; exact hi, fun hi => by rw [rngD_len] at hi; exact hi, fun x H2 hi y => by
    obtain ⟨eH, ex⟩ := y
    subst eH ex
    rw [rngD_len] at hi
    exact ⟨_, F', rngD_at hi, Step.refl le, .int _⟩⟩
theorem i_rng1 {k : List D → Prop} {ta : TA} (h : wpA K ta δ fun ds => ∃ n : Int, ds = [.int n] ∧ (-(2 ^ 62) ≤ n ∧ n < 2 ^ 62) ∧ k (rngD 0 n.toNat)) : wpI K (iRng1 ta) δ k := fun σ F H l e R q =>
  h σ F H l e _ fun vs ds F1 H1 s1 r1 ⟨n, hd, hn, h1⟩ => by
    subst hd
    cases r1 with
    | cons ra r1 =>
      cases r1
      exact ⟨n, by rw [ra.intI], hn.1, hn.2, q _ _ F1 H1 s1 it_rng h1⟩
theorem i_rng2 {k : List D → Prop} {ta : TA} (h : wpA K ta δ fun ds => ∃ m n : Int, ds = [.int m, .int n] ∧ (-(2 ^ 62) ≤ m ∧ m < 2 ^ 62 ∧ -(2 ^ 62) ≤ n ∧ n < 2 ^ 62) ∧ k (rngD m (n - m).toNat)) : wpI K (iRng2 ta) δ k := fun σ F H l e R q =>
  h σ F H l e _ fun vs ds F1 H1 s1 r1 ⟨m, n, hd, hn, h1⟩ => by
    subst hd
    cases r1 with
    | cons ra r1 => cases r1 with
      | cons rb r1 =>
        cases r1
        exact ⟨m, n, by rw [ra.intI, rb.intI], hn, q _ _ F1 H1 s1 it_rng h1⟩
/-- the signs of a text -/
def signs (x : Str) : List D := x.cps.toList.map fun c => .str ⟨#[c]⟩
theorem i_str {k : List D → Prop} (h : wpE K te δ fun d => ∃ x, d = .str x ∧ k (signs x)) : wpI K (iStr te) δ k := fun σ F H l e R q =>
  h σ F H l e _ fun v d F1 H1 s1 r1 ⟨x, hd, h1⟩ => by
    subst hd
    have hl : (signs x).length = x.cps.size := by simp [signs]
    refine ⟨x, r1.strI, q _ _ F1 H1 s1 (fun F' H' i gr le => ⟨fun hi => by rw [hl] at hi; exact hi, fun hi => by rw [hl] at hi; exact hi, fun y H2 hi z => ?_⟩) h1⟩
    obtain ⟨eH, c, hc, ey⟩ := z
    subst eH ey
    refine ⟨.str ⟨#[c]⟩, F', ?_, Step.refl le, .str _⟩
    have hc' : x.cps.toList[i]? = some c := by simpa using hc
    simp [signs, hc']
/-- pairs -/
def zipD (xs ys : List D) : List D := List.zipWith (fun x y => .tup [x, y]) xs ys
theorem zip_step {F' H' : Hp} {T : Addr} {x y : V} {dx dy : D} (le : Le F' H') (hT : H' T = none) (rx : Rp K F' x dx) (ry : Rp K F' y dy) :
    Step F' H' (upd F' T (.tup [x, y])) (upd H' T (.tup [x, y])) ∧ Rp K (upd F' T (.tup [x, y])) (.ref T) (.tup [dx, dy]) := by
  have s := Step.new (F := F') (o := .tup [x, y]) le hT
  exact ⟨s, .tup (SqT.of upd_same) (.cons (rx.mono s.gr) (.cons (ry.mono s.gr) .nil))⟩
theorem i_zip {k : List D → Prop} {ta : TA} (h : wpA K ta δ fun ds => ∃ xs ys, ((∃ x y, ds = [x, y] ∧ asL x = some xs ∧ asL y = some ys) ∨ ds = [.tup xs, .tup ys]) ∧ xs.length = ys.length ∧ k (zipD xs ys)) : wpI K (RZ.iZipA K ta) δ k := fun σ F H l e R q =>
  h σ F H l e _ fun vs ds F1 H1 s1 r1 ⟨dx, dy, hd, hn, h1⟩ => by
    have hl : (zipD dx dy).length = dx.length := by simp [zipD, hn]
    rcases hd with ⟨x0, y0, hd, hx0, hy0⟩ | hd
    · subst hd
      cases r1 with
      | cons ra r1 => cases r1 with
        | cons rb r1 =>
          cases r1
          obtain ⟨a, xs, rfl, sa, ra⟩ := ra.asL hx0
          obtain ⟨b, ys, rfl, sb, rb⟩ := rb.asL hy0
          refine ⟨a, b, xs, ys, rfl, .inl ⟨s1.le.sql sa, s1.le.sql sb, q _ _ F1 H1 s1 (fun F' H' i gr le => ?_) h1⟩⟩
          have sa' : SqL K H' a xs := le.sql (gr.sql sa)
          have sb' : SqL K H' b ys := le.sql (gr.sql sb)
          refine ⟨fun hi => ?_, fun hi => ⟨xs, ys, sa', sb', .inl (by rw [ra.len]; omega)⟩, fun x H2 hi y => ?_⟩
          · have h3 : i < xs.length := by rw [ra.len]; omega
            have h4 : i < ys.length := by rw [rb.len]; omega
            exact ⟨xs, ys, xs[i], ys[i], sa', sb', List.getElem?_eq_getElem h3, List.getElem?_eq_getElem h4⟩
          · obtain ⟨T, u, w, rfl, hT, rfl, f1, f2⟩ := y
            obtain ⟨d1, hd1, rd1⟩ := ra.atV (f1 xs sa')
            obtain ⟨d2, hd2, rd2⟩ := rb.atV (f2 ys sb')
            obtain ⟨s, r⟩ := zip_step le hT (rd1.mono gr) (rd2.mono gr)
            exact ⟨.tup [d1, d2], _, by simp [zipD, List.getElem?_zipWith, hd1, hd2], s, r⟩
    · subst hd
      cases r1 with
      | cons ra r1 => cases r1 with
        | cons rb r1 =>
          cases r1
          obtain ⟨a, xs, rfl, sa, ra⟩ := ra.tupI
          obtain ⟨b, ys, rfl, sb, rb⟩ := rb.tupI
          refine ⟨a, b, xs, ys, rfl, .inr ⟨s1.le.sqt sa, s1.le.sqt sb, q _ _ F1 H1 s1 (fun F' H' i gr le => ?_) h1⟩⟩
          have sa' : SqT K H' a xs := le.sqt (gr.sqt sa)
          have sb' : SqT K H' b ys := le.sqt (gr.sqt sb)
          refine ⟨fun hi => ?_, fun hi => ⟨xs, ys, sa', sb', .inl (by rw [ra.len]; omega)⟩, fun x H2 hi y => ?_⟩
          · have h3 : i < xs.length := by rw [ra.len]; omega
            have h4 : i < ys.length := by rw [rb.len]; omega
            exact ⟨xs, ys, xs[i], ys[i], sa', sb', List.getElem?_eq_getElem h3, List.getElem?_eq_getElem h4⟩
          · obtain ⟨T, u, w, rfl, hT, rfl, f1, f2⟩ := y
            obtain ⟨d1, hd1, rd1⟩ := ra.atV (f1 xs sa')
            obtain ⟨d2, hd2, rd2⟩ := rb.atV (f2 ys sb')
            obtain ⟨s, r⟩ := zip_step le hT (rd1.mono gr) (rd2.mono gr)
            exact ⟨.tup [d1, d2], _, by simp [zipD, List.getElem?_zipWith, hd1, hd2], s, r⟩
/-- a for by an invariant -/
theorem forW_inv {g : TG} {js : List Nat} {ds : List D} (I : Nat → Ev → Prop) (h0 : I 0 δ) (hs : ∀ i d δ', ds[i]? = some d → I i δ' → tgJ K g js d δ' fun δ1 => wpS K tb { nx := I (i + 1), rt := G.rt, ro := G.ro, bk := G.nx, ct := I (i + 1) } δ1) (hd : ∀ δ', I ds.length δ' → G.nx δ') : forW K g js tb G ds δ := by
  have key : ∀ (es : List D) (j : Nat) (δ' : Ev), (∀ i d δ', es[i]? = some d → I (j + i) δ' → tgJ K g js d δ' fun δ1 => wpS K tb { nx := I (j + i + 1), rt := G.rt, ro := G.ro, bk := G.nx, ct := I (j + i + 1) } δ1) → (∀ δ', I (j + es.length) δ' → G.nx δ') → I j δ' → forW K g js tb G es δ' := by
    intro es
    induction es with
    | nil => intro j δ' _ hd h; exact hd δ' h
    | cons d es ih =>
      intro j δ' hs hd h v σ F H l e r Q q
      refine hs 0 d δ' rfl h v σ F H l e r Q fun σ' δ1 e' o w z => q σ' δ1 e' o w ?_
      have nxt : ∀ δ2, I (j + 1) δ2 → forW K g js tb G es δ2 := fun δ2 h2 => ih (j + 1) δ2 (fun i d' δ3 hi h3 => by
        have := hs (i + 1) d' δ3 (by simpa using hi) (by rw [show j + (i + 1) = j + 1 + i by omega]; exact h3)
        rw [show j + 1 + i + 1 = j + (i + 1) + 1 by omega]
        exact this) (fun δ3 h3 => hd δ3 (by rw [show j + (d :: es).length = j + 1 + es.length by simp; omega]; exact h3)) h2
      exact z.mono nxt (fun _ _ h => h) (fun _ h => h) (fun _ h => h) nxt
  exact key ds 0 δ (fun i d δ' hi h => by rw [Nat.zero_add] at h ⊢; exact hs i d δ' hi h) (fun δ' h => hd δ' (by rw [Nat.zero_add] at h; exact h)) h0
/-- a while by an invariant and a measure -/
theorem s_while (I : Nat → Ev → Prop) (h0 : ∃ m, I m δ) (hs : ∀ m δ', I m δ' → wpT K c δ' fun b => if b = true then wpS K tb { nx := fun δ2 => ∃ m', m' < m ∧ I m' δ2, rt := G.rt, ro := G.ro, bk := G.nx, ct := fun δ2 => ∃ m', m' < m ∧ I m' δ2 } δ' else G.nx δ') : wpS K (tWhile c tb) G δ := fun σ F H l e E L => by
  refine ⟨fun m σ' H' => ∃ δ' F', StepO (own δ) F H F' H' ∧ (∀ a, own δ' a → own δ a ∨ H a = none) ∧ EnvR K F' H' σ' δ' ∧ I m δ', ?_, ?_⟩
  · obtain ⟨m, h0⟩ := h0
    exact ⟨m, δ, F, StepO.refl l, fun _ h => .inl h, e, h0⟩
  · rintro m σ' H' ⟨δ', F', s, ow, e', i⟩
    refine hs m δ' i σ' F' H' s.le e' _ fun b F1 H1 s1 h1 => ?_
    have L1 : Lk K F1 H1 δ' G E := (L.after s ow).afterE s1
    have s1' : StepO (own δ) F H F1 H1 := s.trans ow s1.o
    cases b with
    | true =>
      rw [if_pos rfl] at h1 ⊢
      refine ⟨fun σ2 H2 => ∃ m', m' < m ∧ ∃ δ' F', StepO (own δ) F H F' H2 ∧ (∀ a, own δ' a → own δ a ∨ H a = none) ∧ EnvR K F' H2 σ2 δ' ∧ I m' δ', fun _ _ h => h, ?_⟩
      refine h1 σ' F1 H1 s1.le (e'.step s1) _ ⟨fun σ3 δ3 F3 H3 s3 o3 e3 ⟨m', hm, g3⟩ => ?_, L1.rt, L1.ro, L1.nx, fun σ3 δ3 F3 H3 s3 o3 e3 ⟨m', hm, g3⟩ => ?_⟩
      · exact ⟨m', hm, δ3, F3, s1'.trans ow s3, ow_trans (a := 0) s1' ow o3, e3, g3⟩
      · exact ⟨m', hm, δ3, F3, s1'.trans ow s3, ow_trans (a := 0) s1' ow o3, e3, g3⟩
    | false =>
      rw [if_neg (by decide)] at h1 ⊢
      exact L1.nx σ' δ' F1 H1 (StepO.refl s1.le) (fun _ h => .inl h) (e'.step s1) h1
end
end Ts
namespace Ts
open PySem PySem.Spec PyProof.Rows L2
/-! ### a new list that nobody else holds -/
def wpN (K : PySem.W.Frag) (te : TE) (δ : Ev) (k : List D → Prop) : Prop := ∀ (σ : L2.St) (F H : Hp), Le F H → EnvR K F H σ δ → ∀ Q : VK, (∀ p xs ds F' H', Step F H F' H' → H p = none → F' p = none → H' p = some (.lst xs) → RpL K F' xs ds → k ds → Q (.ref p) H') → te σ H Q
section
variable {K : PySem.W.Frag} {δ : Ev} {G : DE} {t u tb : TS} {te ta : TE} {c tt : TT} {k : D → Prop} {kl : List D → Prop}
theorem Step.frz {F H F' H' : Hp} {p : Addr} {o : HO} (s : Step F H F' H') (hp : H p = none) (hf : F' p = none) (h' : H' p = some o) : Step F H (upd F' p o) H' := by
  refine ⟨s.ex, fun a u e => ?_, fun a u e => ?_, fun a u e => ?_⟩
  · have e' := s.gr a u e
    rw [upd_ne (ne_of_none e' hf)]
    exact e'
  · by_cases ha : a = p
    · subst ha; rw [upd_same] at e; cases e; exact .inl h'
    · rw [upd_ne ha] at e; exact s.le a u e
  · by_cases ha : a = p
    · subst ha; exact .inr hp
    · rw [upd_ne ha] at e; exact s.nw a u e
theorem gr_upd {F : Hp} {p : Addr} {o : HO} (hf : F p = none) : Gr F (upd F p o) := fun a u e => by rw [upd_ne (ne_of_none e hf)]; exact e
theorem wpN.mono {k' : List D → Prop} (h : wpN K te δ kl) (hk : ∀ d, kl d → k' d) : wpN K te δ k' := fun σ F H l e Q q => h σ F H l e Q fun p xs ds F' H' s a b c d z => q p xs ds F' H' s a b c d (hk _ z)
theorem e_new (h : wpN K te δ fun ds => k (.lst ds)) : wpE K te δ k := fun σ F H l e Q q =>
  h σ F H l e Q fun p xs ds F' H' s hp hf hh r hk => q (.ref p) (.lst ds) _ H' (s.frz hp hf hh) (.lst upd_same (r.mono (gr_upd hf))) hk
theorem n_lst {ta : TA} (h : wpA K ta δ fun ds => ds.length ≤ 1000000 ∧ kl ds) : wpN K (tLst ta) δ kl := fun σ F H l e Q q =>
  h σ F H l e _ fun vs ds F1 H1 s1 r1 ⟨h0, h1⟩ => ⟨by rw [r1.len]; exact Nat.le_trans h0 (by decide), fun p hp => by
    have s2 : Step F1 H1 F1 (upd H1 p (.lst vs)) := Step.ext s1.le fun a o ha => by rw [upd_ne (ne_of_none ha hp)]; exact ha
    exact q p vs ds F1 _ (s1.trans s2) (s1.back hp) (s1.le.none hp) upd_same r1 h1⟩
/-- the slot i holds it from now on -/
theorem EnvR.setO {F H : Hp} {σ : L2.St} {i : Nat} {p : Addr} {xs : List V} {ds : List D} (e : EnvR K F H σ δ) (hn : ¬ Ts.own δ p) (hf : F p = none) (hh : H p = some (.lst xs)) (r : RpL K F xs ds) : EnvR K F H (σ.set i (some (.ref p))) (δ.set i (.ol p ds)) := by
  refine ⟨by rw [List.length_set, List.length_set, e.len], fun j d' h => ?_, fun j p' ds' h => ?_, fun j p' ds' h => ?_, fun j p' C ds' h => ?_, fun j k s t q h1 h2 h3 h4 => ?_⟩
  · rcases set_cases h with ⟨rfl, hb, hl⟩ | ⟨hj, hb⟩
    · cases hb
    · obtain ⟨w, h1, h2⟩ := e.val j d' hb
      exact ⟨w, by rw [List.getElem?_set_ne (fun z => hj z.symm)]; exact h1, h2⟩
  · rcases set_cases h with ⟨rfl, hb, hl⟩ | ⟨hj, hb⟩
    · cases hb
      exact ⟨by rw [List.getElem?_set_self (by rw [e.len]; exact hl)], hf, xs, hh, r⟩
    · obtain ⟨h1, h2⟩ := e.lst j p' ds' hb
      exact ⟨by rw [List.getElem?_set_ne (fun z => hj z.symm)]; exact h1, h2⟩
  · rcases set_cases h with ⟨rfl, hb, hl⟩ | ⟨hj, hb⟩
    · cases hb
    · obtain ⟨h1, h2⟩ := e.dct j p' ds' hb
      exact ⟨by rw [List.getElem?_set_ne (fun z => hj z.symm)]; exact h1, h2⟩
  · rcases set_cases h with ⟨rfl, hb, hl⟩ | ⟨hj, hb⟩
    · cases hb
    · obtain ⟨h1, h2⟩ := e.ins j p' C ds' hb
      exact ⟨by rw [List.getElem?_set_ne (fun z => hj z.symm)]; exact h1, h2⟩
  · rcases set_cases h1 with ⟨rfl, hb, hl⟩ | ⟨hj, hb⟩
    · subst hb
      cases h3
      rcases set_cases h2 with ⟨e1, hb', hl'⟩ | ⟨hk, hb'⟩
      · exact e1.symm
      · exact absurd ⟨k, t, hb', h4⟩ hn
    · rcases set_cases h2 with ⟨e1, hb', hl'⟩ | ⟨hk, hb'⟩
      · subst hb'
        cases h4
        exact absurd ⟨j, s, hb, h3⟩ hn
      · exact e.dis j k s t q hb hb' h3 h4
theorem own_setO {i : Nat} {p q : Addr} {ds : List D} (h : own (δ.set i (.ol p ds)) q) : own δ q ∨ q = p := by
  obtain ⟨j, s, h1, h2⟩ := h
  rcases set_cases h1 with ⟨rfl, hb, hl⟩ | ⟨hj, hb⟩
  · subst hb; cases h2; exact .inr rfl
  · exact .inl ⟨j, s, hb, h2⟩
theorem s_own {i : Nat} (h : wpN K te δ fun ds => ∀ p, G.nx (δ.set i (.ol p ds))) : wpS K (tAsg te (gName i)) G δ := fun σ F H l e E L =>
  h σ F H l e _ fun p xs ds F' H' s hp hf hh r hk => by
    have hn : ¬ own δ p := fun z => (e.own z).2 hp
    refine L.nx _ _ F' H' s.o (fun a ha => ?_) ((e.step s).setO hn hf hh r) (hk p)
    rcases own_setO ha with z | z
    · exact .inl z
    · exact .inr (by rw [z]; exact hp)
theorem s_retO (h : wpN K te δ G.ro) : wpS K (tRet te) G δ := fun σ F H l e E L => h σ F H l e _ fun p xs ds F' H' s hp hf hh r hk => L.ro p xs ds F' H' s.o (.inr hp) hf hh r hk
/-- a slot's list, returned -/
theorem s_retV {i : Nat} {p : Addr} {ds : List D} (h : δ[i]? = some (.ol p ds)) (hk : G.ro ds) : wpS K (tRet (tVar i)) G δ := fun σ F H l e E L => by
  obtain ⟨h1, h2, xs, h3, h4⟩ := e.lst i p ds h
  exact ⟨_, h1, L.ro p xs ds F H (StepO.refl l) (.inl ⟨i, _, h, rfl⟩) h2 h3 h4 hk⟩
/-- the content of an owned list is changed -/
theorem EnvR.put {F H : Hp} {σ : L2.St} {i : Nat} {p : Addr} {ds es : List D} {ys : List V} (e : EnvR K F H σ δ) (h : δ[i]? = some (.ol p ds)) (r : RpL K F ys es) : EnvR K F (upd H p (.lst ys)) σ (δ.set i (.ol p es)) := by
  obtain ⟨a1, a2, _, _, _⟩ := e.lst i p ds h
  have hil : i < δ.length := (List.getElem?_eq_some_iff.mp h).1
  have oth : ∀ j s q, j ≠ i → δ[j]? = some s → s.adr = some q → q ≠ p := fun j s q hj hs hq z => by
    subst z
    exact hj (e.dis j i s _ q hs h hq rfl)
  refine ⟨by rw [List.length_set, e.len], fun j d' hh => ?_, fun j p' ds' hh => ?_, fun j p' ds' hh => ?_, fun j p' C ds' hh => ?_, fun j k s t q h1 h2 h3 h4 => ?_⟩
  · rcases set_cases hh with ⟨rfl, hb, hl⟩ | ⟨hj, hb⟩
    · cases hb
    · exact e.val j d' hb
  · rcases set_cases hh with ⟨rfl, hb, hl⟩ | ⟨hj, hb⟩
    · cases hb
      exact ⟨a1, a2, ys, upd_same, r⟩
    · obtain ⟨h1, h2, xs, h3, h4⟩ := e.lst j p' ds' hb
      exact ⟨h1, h2, xs, by rw [upd_ne (oth j _ p' hj hb rfl)]; exact h3, h4⟩
  · rcases set_cases hh with ⟨rfl, hb, hl⟩ | ⟨hj, hb⟩
    · cases hb
    · obtain ⟨h1, h2, xs, h3, h4⟩ := e.dct j p' ds' hb
      exact ⟨h1, h2, xs, by rw [upd_ne (oth j _ p' hj hb rfl)]; exact h3, h4⟩
  · rcases set_cases hh with ⟨rfl, hb, hl⟩ | ⟨hj, hb⟩
    · cases hb
    · obtain ⟨h1, h2, dx, xs, h3, h4⟩ := e.ins j p' C ds' hb
      exact ⟨h1, h2, dx, xs, by rw [upd_ne (oth j _ p' hj hb rfl)]; exact h3, h4⟩
  · rcases set_cases h1 with ⟨rfl, hb, hl⟩ | ⟨hj, hb⟩
    · subst hb
      cases h3
      rcases set_cases h2 with ⟨e1, hb', hl'⟩ | ⟨hk, hb'⟩
      · exact e1.symm
      · exact absurd rfl (oth k t p hk hb' h4)
    · rcases set_cases h2 with ⟨e1, hb', hl'⟩ | ⟨hk, hb'⟩
      · subst hb'
        cases h4
        exact absurd rfl (oth j s p hj hb h3)
      · exact e.dis j k s t q hb hb' h3 h4
theorem own_put {i : Nat} {p q : Addr} {ds es : List D} (h : δ[i]? = some (.ol p ds)) (ho : own (δ.set i (.ol p es)) q) : own δ q := by
  rcases own_setO ho with z | z
  · exact z
  · subst z; exact ⟨i, _, h, rfl⟩
theorem StepO.put {F H : Hp} {p : Addr} {o u : HO} (l : Le F H) (ho : own δ p) (hf : F p = none) (hh : H p = some u) : StepO (own δ) F H F (upd H p o) := by
  refine ⟨fun a v n e => ?_, fun a n => ?_, Gr.refl F, fun a v e => ?_, fun a v e => .inl e⟩
  · have : a ≠ p := fun z => n (by rw [z]; exact ho)
    rw [upd_ne this]; exact e
  · by_cases ha : a = p
    · subst ha; rw [upd_same]; simp
    · rw [upd_ne ha]; exact n
  · have : a ≠ p := ne_of_none e hf
    rw [upd_ne this]
    exact l a v e
/-- xs.append(e) of an owned list -/
theorem s_app {i : Nat} {p : Addr} {ds : List D} (h : δ[i]? = some (.ol p ds)) (hz : ds.length < 1000000) (he : wpE K te δ fun d => G.nx (δ.set i (.ol p (ds ++ [d])))) : wpS K (tDrop (tBM K "list" rAppend (tVar i) (tCons te tNil))) G δ := fun σ F H l e E L => by
  obtain ⟨a1, a2, xs, a3, a4⟩ := e.lst i p ds h
  refine ⟨_, a1, .inl ⟨rfl, _, SqL.of a3⟩, he σ F H l e _ fun v d F' H' s r hk => ?_⟩
  have e' := e.step s
  obtain ⟨b1, b2, ys, b3, b4⟩ := e'.lst i p ds h
  refine ⟨p, ys, v, rfl, rfl, b3, by rw [b4.len]; exact Nat.lt_of_lt_of_le hz (by decide), ?_⟩
  refine L.nx σ _ F' _ (s.o.trans (O1 := own δ) (fun a h => .inl h) (StepO.put s.le ⟨i, _, h, rfl⟩ b2 b3)) (fun a ha => .inl (own_put h ha)) (e'.put h (b4.app (.cons r .nil))) hk
/-- xs.clear() -/
theorem s_clear {i : Nat} {p : Addr} {ds : List D} (h : δ[i]? = some (.ol p ds)) (hk : G.nx (δ.set i (.ol p []))) : wpS K (tDrop (tBM0 K "list" rClear (tVar i))) G δ := fun σ F H l e E L => by
  obtain ⟨b1, b2, ys, b3, b4⟩ := e.lst i p ds h
  refine ⟨_, b1, .inl ⟨rfl, _, SqL.of b3⟩, p, ys, rfl, rfl, b3, ?_⟩
  exact L.nx σ _ F _ (StepO.put l ⟨i, _, h, rfl⟩ b2 b3) (fun a ha => .inl (own_put h ha)) (e.put h .nil) hk
/-- xs[j] = e of an owned list -/
theorem s_setL {i : Nat} {p : Addr} {ds : List D} {tj : TE} (h : δ[i]? = some (.ol p ds)) (he : wpE K te δ fun d => wpE K tj δ fun y => ∃ (n : Int) (m : Nat), y = .int n ∧ ixN ds.length n = some m ∧ G.nx (δ.set i (.ol p (ds.set m d)))) : wpS K (tAsg te (gSub (tVar i) tj rSetL)) G δ := fun σ F H l e E L =>
  he σ F H l e _ fun v d F1 H1 s1 r1 h1 => by
    obtain ⟨a1, a2, xs, a3, a4⟩ := (e.step s1).lst i p ds h
    refine ⟨_, a1, h1 σ F1 H1 s1.le (e.step s1) _ fun w y F2 H2 s2 r2 ⟨n, m, hy, hm, hk⟩ => ?_⟩
    subst hy
    have e' := (e.step s1).step s2
    obtain ⟨b1, b2, ys, b3, b4⟩ := e'.lst i p ds h
    refine ⟨p, ys, n, m, rfl, r2.intI, b3, by rw [b4.len]; exact hm, ?_⟩
    exact L.nx σ _ F2 _ ((s1.trans s2).o.trans (O1 := own δ) (fun a h => .inl h) (StepO.put s2.le ⟨i, _, h, rfl⟩ b2 b3)) (fun a ha => .inl (own_put h ha)) (e'.put h (b4.set (r1.mono s2.gr) m)) hk
/-- an item of an owned list -/
theorem e_ixO {i : Nat} {p : Addr} {ds : List D} {tj : TE} (h : δ[i]? = some (.ol p ds)) (he : wpE K tj δ fun y => ∃ (n : Int) (d : D), y = .int n ∧ atI ds n = some d ∧ k d) : wpE K (tOp (rIx K) (tVar i) tj) δ k := fun σ F H l e Q q => by
  obtain ⟨a1, a2, xs, a3, a4⟩ := e.lst i p ds h
  refine ⟨_, a1, he σ F H l e _ fun w y F2 H2 s2 r2 ⟨n, d, hy, hd, hk⟩ => .inl ?_⟩
  subst hy
  obtain ⟨b1, b2, ys, b3, b4⟩ := (e.step s2).lst i p ds h
  obtain ⟨v, c1, c2⟩ := b4.atI hd
  exact ⟨p, ys, n, v, rfl, r2.intI, SqL.of b3, c1, q v d F2 H2 s2 c2 hk⟩
/-- from now on nobody changes it -/
theorem s_frz {i : Nat} {p : Addr} {ds : List D} (h : δ[i]? = some (.ol p ds)) (hk : wpS K t G (δ.set i (.v (.lst ds)))) : wpS K t G δ := fun σ F H l e E L => by
  obtain ⟨a1, a2, xs, a3, a4⟩ := e.lst i p ds h
  have gr : Gr F (upd F p (.lst xs)) := gr_upd a2
  have le : Le (upd F p (.lst xs)) H := fun a u e => by
    by_cases ha : a = p
    · subst ha; rw [upd_same] at e; cases e; exact .inl a3
    · rw [upd_ne ha] at e; exact l a u e
  have st : StepO (own δ) F H (upd F p (.lst xs)) H := ⟨fun _ _ _ h => h, fun _ h => h, gr, le, fun a u e => by
    by_cases ha : a = p
    · subst ha; exact .inr (.inr ⟨i, _, h, rfl⟩)
    · rw [upd_ne ha] at e; exact .inl e⟩
  have e1 : EnvR K (upd F p (.lst xs)) H σ (δ.set i (.v (.lst ds))) := by
    have oth : ∀ j s q, j ≠ i → δ[j]? = some s → s.adr = some q → q ≠ p := fun j s q hj hs hq z => by
      subst z
      exact hj (e.dis j i s _ q hs h hq rfl)
    refine ⟨by rw [List.length_set, e.len], fun j d' hh => ?_, fun j p' ds' hh => ?_, fun j p' ds' hh => ?_, fun j p' C ds' hh => ?_, fun j k s t q h1 h2 h3 h4 => ?_⟩
    · rcases set_cases hh with ⟨rfl, hb, hl⟩ | ⟨hj, hb⟩
      · cases hb
        exact ⟨_, a1, .lst upd_same (a4.mono gr)⟩
      · obtain ⟨v, h1, h2⟩ := e.val j d' hb
        exact ⟨v, h1, h2.mono gr⟩
    · rcases set_cases hh with ⟨rfl, hb, hl⟩ | ⟨hj, hb⟩
      · cases hb
      · obtain ⟨h1, h2, xs, h3, h4⟩ := e.lst j p' ds' hb
        exact ⟨h1, by rw [upd_ne (oth j _ p' hj hb rfl)]; exact h2, xs, h3, h4.mono gr⟩
    · rcases set_cases hh with ⟨rfl, hb, hl⟩ | ⟨hj, hb⟩
      · cases hb
      · obtain ⟨h1, h2, xs, h3, h4⟩ := e.dct j p' ds' hb
        exact ⟨h1, by rw [upd_ne (oth j _ p' hj hb rfl)]; exact h2, xs, h3, h4.mono gr⟩
    · rcases set_cases hh with ⟨rfl, hb, hl⟩ | ⟨hj, hb⟩
      · cases hb
      · obtain ⟨h1, h2, dx, xs, h3, h4⟩ := e.ins j p' C ds' hb
        exact ⟨h1, by rw [upd_ne (oth j _ p' hj hb rfl)]; exact h2, dx, xs, h3, h4.mono gr⟩
    · rcases set_cases h1 with ⟨rfl, hb, hl⟩ | ⟨hj, hb⟩
      · subst hb; cases h3
      · rcases set_cases h2 with ⟨e1, hb', hl'⟩ | ⟨hk, hb'⟩
        · subst hb'; cases h4
        · exact e.dis j k s t q hb hb' h3 h4
  exact hk σ _ H le e1 E (L.after st fun a ha => .inl (own_setV ha))
/-! ### comprehensions -/
def lcW (K : PySem.W.Frag) (g : TG) (js : List Nat) (tt : TT) (te : TE) (vs : List Nat) (δ : Ev) (k : List D → Prop) : List D → List D → Prop
  | [], acc => k acc
  | d :: ds, acc => tgJ K g js d (wipeD δ vs) fun δ1 => wpT K tt δ1 fun b => if b = true then wpE K te δ1 fun e => lcW K g js tt te vs δ k ds (acc ++ [e]) else lcW K g js tt te vs δ k ds acc
theorem n_lc {wi : TI} {g : TG} {js vs : List Nat} (hj : ∀ j ∈ js, j ∈ vs) (h : wpI K wi δ fun ds => ds.length ≤ 1000000 ∧ lcW K g js tt te vs δ kl ds []) : wpN K (tLc wi g tt te vs) δ kl := fun σ F H l e Q q =>
  h σ F H l e _ fun J ds F1 H1 s1 J1 ⟨hz, h1⟩ => fun Dd hD => by
    have e1 := e.step s1
    refine ⟨fun i m H' => m = ds.length - i ∧ i ≤ ds.length ∧ ∃ F' ys acc, Step F1 H1 F' H' ∧ F' Dd = none ∧ H' Dd = some (.lst ys) ∧ RpL K F' ys acc ∧ acc.length ≤ i ∧ lcW K g js tt te vs δ kl (ds.drop i) acc,
      ⟨ds.length, rfl, Nat.zero_le _, F1, [], [], Step.ext s1.le (fun a o ha => by rw [upd_ne (ne_of_none ha hD)]; exact ha), s1.le.none hD, upd_same, .nil, Nat.le_refl _, h1⟩, ?_⟩
    rintro i m H' ⟨rfl, hi, F', ys, acc, s, hf, hh, r, hl, w⟩
    obtain ⟨j1, j2, j3⟩ := J1 F' H' i s.gr s.le
    by_cases hlt : i < ds.length
    · refine .inr ⟨j1 hlt, fun H3 => ∃ F' ys acc, Step F1 H1 F' H3 ∧ F' Dd = none ∧ H3 Dd = some (.lst ys) ∧ RpL K F' ys acc ∧ acc.length ≤ i + 1 ∧ lcW K g js tt te vs δ kl (ds.drop (i + 1)) acc, fun H3 p => ⟨ds.length - (i + 1), by omega, rfl, hlt, p⟩, fun x H2 y => ?_⟩
      obtain ⟨d, F2, hd, s2, r2⟩ := j3 x H2 hlt y
      rw [drop_of hd] at w
      have sa := s.trans s2
      have nf2 : F2 Dd = none := s2.nofz hf (by rw [hh]; simp)
      refine w x _ F2 H2 s2.le ((e1.step sa).wipe vs) r2 _ fun σ2 δ2 e2 _ w2 t2 => ⟨by rw [w2 vs hj]; exact wipe_wipe, ?_⟩
      refine t2 σ2 F2 H2 s2.le e2 _ fun b F3 H3 s3 h3 => ?_
      have nf3 : F3 Dd = none := s3.nofz nf2 (by rw [s2.ex _ _ hh]; simp)
      cases b with
      | true =>
        rw [if_pos rfl] at h3 ⊢
        refine h3 σ2 F3 H3 s3.le (e2.step s3) _ fun v d' F4 H4 s4 r4 h4 => ?_
        have nf4 : F4 Dd = none := s4.nofz nf3 (by rw [s3.ex _ _ (s2.ex _ _ hh)]; simp)
        have hh4 : H4 Dd = some (.lst ys) := s4.ex _ _ (s3.ex _ _ (s2.ex _ _ hh))
        have r' : RpL K F4 ys acc := r.mono (s2.gr.trans (s3.gr.trans s4.gr))
        have st : Step F1 H1 F4 H4 := (sa.trans s3).trans s4
        refine ⟨ys, hh4, ?_, F4, ys ++ [v], acc ++ [d'], ?_, nf4, upd_same, r'.app (.cons r4 .nil), by simp; omega, h4⟩
        · rw [r'.len]
          have : sizeLine > 1000000 := by decide
          omega
        · refine ⟨fun a o ha => by rw [upd_ne (ne_of_none ha hD)]; exact st.ex a o ha, st.gr, fun a o ha => ?_, st.nw⟩
          rw [upd_ne (ne_of_none ha nf4)]
          exact st.le a o ha
      | false =>
        rw [if_neg (by decide)] at h3 ⊢
        exact ⟨F3, ys, acc, sa.trans s3, nf3, s3.ex _ _ (s2.ex _ _ hh), r.mono (s2.gr.trans s3.gr), by omega, h3⟩
    · refine .inl ⟨j2 (by omega), ?_⟩
      rw [List.drop_of_length_le (by omega)] at w
      exact q Dd ys acc F' H' (s1.trans s) (s1.back hD) hf hh r w
where
  wipe_wipe {σ : L2.St} {vs : List Nat} : L2.wipe (L2.wipe σ vs) vs = L2.wipe σ vs := by
    apply List.ext_getElem?
    intro j
    by_cases hj : j ∈ vs
    · by_cases hl : j < σ.length
      · rw [wipe_in hj (by rw [L2.wipe_length]; exact hl), wipe_in hj hl]
      · rw [List.getElem?_eq_none (by rw [L2.wipe_length, L2.wipe_length]; omega), List.getElem?_eq_none (by rw [L2.wipe_length]; omega)]
    · rw [wipe_ix hj]
end
/-! ### defs -/
/-- the promise of a def over data -/
def SpT {α β : Type} (K : PySem.W.Frag) (enc : α → List D) (pre : α → Prop) (R : α → β → Prop) (dec : β → D) : Sp := fun vs H Q _ => ∃ F x, Le F H ∧ RpL K F vs (enc x) ∧ pre x ∧ ∀ y v F' H', R x y → Step F H F' H' → Rp K F' v (dec y) → Q v H'
/-- one that hands back a new list -/
def SpL {α : Type} (K : PySem.W.Frag) (enc : α → List D) (pre : α → Prop) (R : α → List D → Prop) : Sp := fun vs H Q _ => ∃ F x, Le F H ∧ RpL K F vs (enc x) ∧ pre x ∧ ∀ ds p xs F' H', R x ds → Step F H F' H' → H p = none → F' p = none → H' p = some (.lst xs) → RpL K F' xs ds → Q (.ref p) H'
section
variable {K : PySem.W.Frag} {δ : Ev} {k : D → Prop} {kl : List D → Prop} {ta : TA} {E : XK}
theorem e_call {α β : Type} {enc : α → List D} {pre : α → Prop} {R : α → β → Prop} {dec : β → D} (h : wpA K ta δ fun ds => ∃ x, ds = enc x ∧ pre x ∧ ∀ y, R x y → k (dec y)) : wpE K (tCall (SpT K enc pre R dec) [] E ta) δ k := fun σ F H l e Q q =>
  h σ F H l e _ fun vs ds F1 H1 s1 r1 ⟨x, hx, hp, hk⟩ => by
    subst hx
    rw [List.append_nil]
    exact ⟨F1, x, s1.le, r1, hp, fun y v F' H' hr s r => q v _ F' H' (s1.trans s) r (hk y hr)⟩
theorem n_call {α : Type} {enc : α → List D} {pre : α → Prop} {R : α → List D → Prop} (h : wpA K ta δ fun ds => ∃ x, ds = enc x ∧ pre x ∧ ∀ y, R x y → kl y) : wpN K (tCall (SpL K enc pre R) [] E ta) δ kl := fun σ F H l e Q q =>
  h σ F H l e _ fun vs ds F1 H1 s1 r1 ⟨x, hx, hp, hk⟩ => by
    subst hx
    rw [List.append_nil]
    exact ⟨F1, x, s1.le, r1, hp, fun y p xs F' H' hr s hp hf hh r => q p xs y F' H' (s1.trans s) (s1.back hp) hf hh r (hk y hr)⟩
end
/-- the slots at a def's entry -/
def dstart (n : Nat) (ds : List D) : Ev := ds.map Sl.v ++ List.replicate (n - ds.length) .no
theorem own_start {n : Nat} {ds : List D} {p : Addr} : ¬ own (dstart n ds) p := by
  rintro ⟨i, s, h1, h2⟩
  have hm := List.mem_of_getElem? h1
  unfold dstart at hm
  rcases List.mem_append.mp hm with h | h
  · obtain ⟨d, _, rfl⟩ := List.mem_map.mp h; cases h2
  · rw [List.eq_of_mem_replicate h] at h2; cases h2
theorem env_start {K : PySem.W.Frag} {F H : Hp} {N : List Str} {vs : List V} {ds : List D} (r : RpL K F vs ds) : EnvR K F H (L2.start N vs) (dstart N.length ds) := by
  have hl := r.len
  have no : ∀ (i : Nat) s, (dstart N.length ds)[i]? = some s → s.adr = none := fun i s h => by
    cases e : s.adr with
    | none => rfl
    | some p => exact absurd ⟨i, s, h, e⟩ (own_start (n := N.length) (ds := ds) (p := p))
  refine ⟨by simp [L2.start, dstart, hl], fun i d h => ?_, fun i p es h => ?_, fun i p es h => ?_, fun i p C es h => ?_, fun i j s t p h1 h2 h3 h4 => ?_⟩
  · unfold dstart at h
    rw [List.getElem?_append] at h
    split at h
    · rename_i hi
      rw [List.getElem?_map] at h
      cases hd : ds[i]? with
      | none => rw [hd] at h; cases h
      | some d' =>
        rw [hd] at h
        cases h
        obtain ⟨v, h1, h2⟩ := r.at hd
        refine ⟨v, ?_, h2⟩
        unfold L2.start
        rw [List.getElem?_append_left (by rw [List.length_map]; exact (List.getElem?_eq_some_iff.mp h1).1), List.getElem?_map, h1]
        rfl
    · have := List.mem_of_getElem? h
      rw [List.eq_of_mem_replicate this] at h
      cases List.eq_of_mem_replicate this
  · have := no i _ h; cases this
  · have := no i _ h; cases this
  · have := no i _ h; cases this
  · rw [no i s h1] at h3; cases h3
/-- the end of a def's body -/
abbrev endT {α β : Type} (R : α → β → Prop) (dec : β → D) (x : α) : DE := { nx := fun _ => ∃ y, R x y ∧ D.non = dec y, rt := fun d _ => ∃ y, R x y ∧ d = dec y }
abbrev endL {α : Type} (R : α → List D → Prop) (x : α) : DE := { nx := fun _ => False, rt := fun _ _ => False, ro := fun ds => R x ds }
section
variable {K : PySem.W.Frag} {F H : Hp} {N : List Str} {vs : List V} {Q : VK} {t : TS}
theorem body_T {α β : Type} {enc : α → List D} {R : α → β → Prop} {dec : β → D} {x : α} (l : Le F H) (r : RpL K F vs (enc x)) (h : wpS K t (endT R dec x) (dstart N.length (enc x)))
    (q : ∀ y v F' H', R x y → Step F H F' H' → Rp K F' v (dec y) → Q v H') : t { nx := fun _ H' => Q .non H', rt := Q } (L2.start N vs) H := by
  have cv : ∀ {F' H'}, StepO (own (dstart N.length (enc x))) F H F' H' → Step F H F' H' := fun s => StepO.step ⟨fun a o _ h => s.ex a o own_start h, s.th, s.gr, s.le, fun a o h => by
    rcases s.nw a o h with z | z | z
    · exact .inl z
    · exact .inr (.inl z)
    · exact absurd z own_start⟩
  refine h _ F H l (env_start r) _ ⟨fun σ' δ' F' H' s o e ⟨y, hr, hy⟩ => q y _ F' H' hr (cv s) (by rw [← hy]; exact .non), fun v d σ' δ' F' H' s o e rd ⟨y, hr, hy⟩ => q y v F' H' hr (cv s) (by rw [← hy]; exact rd), fun p xs ds F' H' s o f h r g => False.elim g, fun _ _ _ _ _ _ _ g => False.elim g, fun _ _ _ _ _ _ _ g => False.elim g⟩
theorem body_L {α : Type} {enc : α → List D} {R : α → List D → Prop} {x : α} (l : Le F H) (r : RpL K F vs (enc x)) (h : wpS K t (endL R x) (dstart N.length (enc x)))
    (q : ∀ ds p xs F' H', R x ds → Step F H F' H' → H p = none → F' p = none → H' p = some (.lst xs) → RpL K F' xs ds → Q (.ref p) H') : t { nx := fun _ H' => Q .non H', rt := Q } (L2.start N vs) H := by
  have cv : ∀ {F' H'}, StepO (own (dstart N.length (enc x))) F H F' H' → Step F H F' H' := fun s => StepO.step ⟨fun a o _ h => s.ex a o own_start h, s.th, s.gr, s.le, fun a o h => by
    rcases s.nw a o h with z | z | z
    · exact .inl z
    · exact .inr (.inl z)
    · exact absurd z own_start⟩
  refine h _ F H l (env_start r) _ ⟨fun σ' δ' F' H' s o e g => False.elim g, fun v d σ' δ' F' H' s o e rd g => False.elim g, fun p xs ds F' H' s o f hh r g => q ds p xs F' H' g (cv s) (o.elim (fun z => absurd z own_start) id) f hh r, fun _ _ _ _ _ _ _ g => False.elim g, fun _ _ _ _ _ _ _ g => False.elim g⟩
end
section
variable {P : Program} {w : World} {K : PySem.W.Frag} {mg : Str → Option Value} {base : Heap} {x qual : Str} {params : Arguments} {body : List Stmt} {scope : Scope} {dvs : List V} {kws : List (Str × V)} {f : Addr} {fd : FuncData}
theorem fn_T {α β : Type} {enc : α → List D} {pre : α → Prop} {R : α → β → Prop} {dec : β → D} {N ps : List Str} {k : Nat} (F : FunD K x qual params body scope dvs kws f fd) (S : FnScope N ps scope) (hl : ∀ x, (enc x).length = ps.length)
    (hb : ∀ (cdv : Value) (A : Around) (outer : List Env) (s : Shared) (H : Hp) (E : XK), Room k (A.deeper (envOfC qual scope s.heap.objs.size f cdv)) →
      ∃ t, PSs (cxOf CX0 P w K mg base N qual scope f cdv A outer s H E).nox body t ∧ ∀ x, pre x → wpS K t (endT R dec x) (dstart N.length (enc x))) : FnOk P w K mg base CX0 (k + 1) f fd ps (SpT K enc pre R dec) := by
  refine F.ok S (fun vs H Q E ⟨F, x, l, r, _⟩ => by rw [r.len, hl]) fun cdv A outer s H vs Q E hr ⟨F, x, l, r, hp, q⟩ => ?_
  obtain ⟨t, ht, hw⟩ := hb cdv A outer s H E hr
  exact ⟨t, ht.nox, body_T l r (hw x hp) q⟩
theorem fn_L {α : Type} {enc : α → List D} {pre : α → Prop} {R : α → List D → Prop} {N ps : List Str} {k : Nat} (F : FunD K x qual params body scope dvs kws f fd) (S : FnScope N ps scope) (hl : ∀ x, (enc x).length = ps.length)
    (hb : ∀ (cdv : Value) (A : Around) (outer : List Env) (s : Shared) (H : Hp) (E : XK), Room k (A.deeper (envOfC qual scope s.heap.objs.size f cdv)) →
      ∃ t, PSs (cxOf CX0 P w K mg base N qual scope f cdv A outer s H E).nox body t ∧ ∀ x, pre x → wpS K t (endL R x) (dstart N.length (enc x))) : FnOk P w K mg base CX0 (k + 1) f fd ps (SpL K enc pre R) := by
  refine F.ok S (fun vs H Q E ⟨F, x, l, r, _⟩ => by rw [r.len, hl]) fun cdv A outer s H vs Q E hr ⟨F, x, l, r, hp, q⟩ => ?_
  obtain ⟨t, ht, hw⟩ := hb cdv A outer s H E hr
  exact ⟨t, ht.nox, body_L l r (hw x hp) q⟩
end
/-- a def by its name: where it stands, what it promises to positional arguments -/
structure Fn (P : Program) (w : World) (K : PySem.W.Frag) (mg : Str → Option Value) (base : Heap) (x : Str) (k : Nat) (sp : Sp) : Prop where
  ex : ∃ f, mg x = some (.ref f) ∧ PySem.W.keepIn K (.ref f) = true ∧ FnR P w K mg base CX0 k f sp
theorem Fn.mk1 {P : Program} {w : World} {K : PySem.W.Frag} {mg : Str → Option Value} {base : Heap} {x : Str} {k : Nat} {sp : Sp} {f : Addr} {fd : FuncData} {ps : List Str} (hm : mg x = some (.ref f)) (kp : PySem.W.keepIn K (.ref f) = true) (b : Binds K fd ps []) (F : FnOk P w K mg base CX0 k f fd ps sp) : Fn P w K mg base x k sp :=
  ⟨f, hm, kp, (F.raw b .nil).imp fun vs H Q E h => by rw [List.append_nil]; exact h⟩
section
variable {X : Cx} {x : Str} {k : Nat} {sp : Sp} {e : Expr} {es : List Expr} {t : TA} {p pos : Pos}
theorem run_Fn {pins : List (Addr × Obj)} {σ : L2.St} {H : Hp} {s : Shared} {Q : VK} {us : List Value} {vs : List V} {f : Addr} (F : FnR X.prog X.w X.K X.mg X.base CX0 k f sp) (hr : Room k X.A) (I : Inv X pins σ H s) (r : Vals vs us) (h : sp vs H Q E0) : wpAny (model X.prog X.w) X.A (call (.ref f) us) (EP X pins σ Q) X.xe s := by
  refine wpAny_call (codeAny_mono (run_fnR F hr pass0 I r h) fun r s' hq => ?_)
  cases r with
  | error e => exact hq
  | ok fl =>
    cases fl with
    | ret u => exact hq
    | next => exact False.elim hq
    | brk => exact False.elim hq
    | cont => exact False.elim hq
theorem pe_fn (G : Fn X.prog X.w X.K X.mg X.base x k sp) (hr : Room k X.A) (hg : Gl X x) (ha : PA X (e :: es) t) (hdb : (x == ("__debug__" : Str)) = false := by decide) (he : starEach (e :: es) X.env = (false, eval e X.env) :: starEach es X.env := by rfl) (hpl : (backTo pos (starEach es X.env)).any (·.1) = false := by rfl) :
    PE X (.Call (.Name x p) (e :: es) [] pos) (tCall sp [] E0 t) := by
  obtain ⟨f, h1, h2, h3⟩ := G.ex
  refine ⟨fun pins s σ H Q I h => ?_⟩
  refine wpAny_Call_Name_kw (ld_glob I hg h1 ?_ hdb)
  refine PySem.W.callWith_K (h₀ := X.base) I.ok.mod.kin h2 (thn (ha.run pos pins s σ H _ I h) fun us s1 ⟨vs, H1, I1, r, q⟩ => ⟨I1.kIn, ?_⟩) he hpl
  have q' : sp (vs ++ []) H1 Q E0 := q
  rw [List.append_nil] at q'
  exact run_Fn h3 hr I1 r q'
theorem pe_fn0 (G : Fn X.prog X.w X.K X.mg X.base x k sp) (hr : Room k X.A) (hg : Gl X x) (hdb : (x == ("__debug__" : Str)) = false := by decide) : PE X (.Call (.Name x p) [] [] pos) (tCall sp [] E0 tNil) := by
  obtain ⟨f, h1, h2, h3⟩ := G.ex
  refine ⟨fun pins s σ H Q I h => ?_⟩
  refine wpAny_Call_Name_kw (ld_glob I hg h1 ?_ hdb)
  exact PySem.W.callWith_K0 I.kIn h2 (run_Fn (us := []) h3 hr I .nil h)
end
/-! ### a def with a star -/
theorem fn_S {P : Program} {w : World} {K : PySem.W.Frag} {mg : Str → Option Value} {base : Heap} {x qual pv : Str} {params : Arguments} {body : List Stmt} {scope : Scope} {kws : List (Str × V)} {f : Addr} {fd : FuncData} {α β : Type} {enc : α → List D} {pre : α → Prop} {R : α → β → Prop} {dec : β → D} {N : List Str} {k : Nat} (F : FunD K x qual params body scope [] kws f fd) (S : FnScope N [pv] scope) (hl : ∀ x, pre x → (enc x).length ≤ 1000)
    (hbd : ∀ (kV doc pm : Value) (an : Option Addr) (cdv ct : Value) (rest : List Value), bindArgs (PySem.W.fnOf x qual params body scope .none kV doc pm an cdv ct) ⟨rest, []⟩ = (newTuple rest >>= fun t => pure [(pv, t)]))
    (hb : ∀ (cdv : Value) (A : Around) (outer : List Env) (s : Shared) (H : Hp) (E : XK), Room k (A.deeper (envOfC qual scope s.heap.objs.size f cdv)) →
      ∃ t, PSs (cxOf CX0 P w K mg base N qual scope f cdv A outer s H E).nox body t ∧ ∀ x, pre x → wpS K t (endT R dec x) (dstart N.length [.tup (enc x)])) : FnR P w K mg base CX0 (k + 1) f (SpT K enc pre R dec) := by
  obtain ⟨oc, od, dV, kV, doc, pm, an, cdv, ct, osl, rfl, lk, hcd, hD, _⟩ := F.ex
  obtain rfl : dV = .none := hD.elim (fun z => z.2) fun z => absurd rfl z.1
  have G := StX.fn_star (P := P) (w := w) (mg := mg) (base := base) (k := k) (ps := []) (pv := pv) (sp := SpT K (fun x : α => [.tup (enc x)]) pre R dec) lk hcd S (StX.cxUp_none) (fun us rest hl => by
    have e : us = [] := List.length_eq_zero_iff.mp hl
    subst e
    exact hbd kV doc pm an cdv ct rest) (fun A outer s H vs Q E hr ⟨F, x, l, r, hp, q⟩ => by
    obtain ⟨t, ht, hw⟩ := hb cdv A outer s H E hr
    exact ⟨t, ht.nox, body_T (enc := fun x : α => [.tup (enc x)]) (x := x) l r (hw x hp) q⟩)
  refine G.imp fun vs H Q E ⟨F, x, l, r, hp, q⟩ => ⟨[], vs, rfl, rfl, by rw [r.len]; exact Nat.le_trans (hl x hp) (by decide), fun p hp' => ?_⟩
  have s := Step.new (F := F) (o := .tup vs) l hp'
  exact ⟨upd F p (.tup vs), x, s.le, .cons (.tup (SqT.of upd_same) (r.mono s.gr)) .nil, hp, fun y v F' H' hr s' r' => q y v F' H' hr (s.trans s') r'⟩
end Ts
namespace Ts
open PySem PySem.Spec PyProof.Rows L2
/-! ### the feed -/
section
variable {P : Program} {w : World} {K : PySem.W.Frag} {mg : Str → Option Value} {base : Heap} {k : Nat} {f : Addr} {fd : FuncData} {ps : List Str}
theorem feedP_stable {cs a : Addr} : ∀ h1 h2 : Heap, feedP cs a h1 → (∀ o, h1.get? a = some o → h2.get? a = some o) → feedP cs a h2 := fun h1 h2 ⟨its, n, i, j, m, e, r⟩ g => ⟨its, n, i, j, m, g _ e, r⟩
/-- one tracked object is told otherwise: its own description holds, nothing else speaks of it -/
theorem hok_told {H : Hp} {h : Heap} {a : Addr} {o u : HO} (hok : HOk P w H h) (e : H a = some o) (ho : ∀ y, o ≠ .own y) (ht : ∀ xs, o ≠ .tup xs) (new : ObjOk P w (upd H a u) h a u) : HOk P w (upd H a u) h := fun b v q => by
  by_cases hb : b = a
  · subst hb; rw [upd_same] at q; cases q; exact new
  · rw [upd_ne hb] at q
    refine (hok b v q).stay (fun c x _ z => z) (fun c z => ?_) fun c xs z => ?_
    · have : c ≠ a := fun y => by subst y; rw [e] at z; exact ho b (Option.some.inj z)
      rw [upd_ne this]; exact z
    · have : c ≠ a := fun y => by subst y; rw [e] at z; exact ht xs (Option.some.inj z)
      rw [upd_ne this]; exact z
/-- a draw's promise over the feed as a plain list -/
def SpDraw (K : PySem.W.Frag) (pre : Int → Prop) : Sp := fun vs H Q _ => ∃ (F : Hp) (a cs : Addr) (m i j mk : Int) (ns : List Int), vs = [.ref a, .int m] ∧ Le F H ∧ F a = none ∧ H a = some (.lst [.ref cs, .int i, .int j, .int mk]) ∧ SqL K F cs (ns.map V.int) ∧ 0 ≤ i ∧ pre m ∧
  ∀ (r i' j' : Int) F' H', 0 ≤ r → r < m → 0 ≤ i' → StepO (fun b => b = a) F H F' H' → F' a = none → H' a = some (.lst [.ref cs, .int i', .int j', .int mk]) → Q (.int r) H'
abbrev SpDrawT (K : PySem.W.Frag) (pre : Int → Prop) : Sp := SpT K (fun m : Int => [.feed, .int m]) pre (fun m r => 0 ≤ r ∧ r < m) D.int
theorem draw_shift {pre : Int → Prop} (hp : ps.length = 2) (G : FnOk P w K mg base CX0 k f fd ps (SpDraw K pre)) : FnOk P w K mg base CX0 k f fd ps (SpDrawT K pre) := by
  refine ⟨fun vs H Q E ⟨F, x, l, r, _⟩ => by rw [r.len, hp]; rfl, fun A outer s H args us vs Q E hr e0 hb hv ⟨F, m, l, r, hpre, q⟩ => ?_⟩
  cases r with
  | cons ra r => cases r with
    | cons rm r =>
      cases r
      obtain rfl := rm.intI
      cases ra with
      | @feed a cs ns fa sq =>
        have ha : H a = some (feedO cs a) := l.ext fa
        obtain ⟨⟨its, n, i, j, mk, hg, rv, hi⟩, _, _⟩ := (show ObjOk P w H s.heap a (.ext (feedP cs a)) from e0.hok a _ ha)
        have nz : ∀ b, H b = none → b ≠ a := fun b hb z => by subst z; rw [ha] at hb; cases hb
        have e2 : Env0 P w K mg base A outer s (upd H a (.lst [.ref cs, .int i, .int j, .int mk])) :=
          ⟨e0.frames, e0.mod, fun b o e => ⟨(e0.bs b o e).1, by rw [upd_ne (nz b (e0.bs b o e).2)]; exact (e0.bs b o e).2⟩, e0.bsz, e0.funs, fun b hb => by rw [upd_ne (nz b (e0.frf b hb))]; exact e0.frf b hb,
            hok_told e0.hok ha (fun y z => by unfold feedO at z; cases z) (fun y z => by unfold feedO at z; cases z) ⟨by show 4 ≤ sizeLine; decide, its, n, rv, hg⟩, e0.bare⟩
        have l2 : Le (fun b => if b = a then none else F b) (upd H a (.lst [.ref cs, .int i, .int j, .int mk])) := fun b o e => by
          have e : (if b = a then none else F b) = some o := e
          by_cases hb : b = a
          · rw [if_pos hb] at e; cases e
          · rw [if_neg hb] at e; rw [upd_ne hb]; exact l b o e
        have cne : ∀ (o : HO), F cs = some o → (∀ p, o ≠ .ext p) → cs ≠ a := fun o e n z => by subst z; rw [fa] at e; cases e; exact n _ rfl
        have sq2 : SqL K (fun b => if b = a then none else F b) cs (ns.map V.int) := by
          rcases sq with (h | ⟨od, h⟩) | h
          · exact .inl (.inl (by show (if cs = a then none else F cs) = _; rw [if_neg (cne _ h (fun p z => by cases z))]; exact h))
          · exact .inl (.inr ⟨od, by show (if cs = a then none else F cs) = _; rw [if_neg (cne _ h (fun p z => by cases z))]; exact h⟩)
          · exact .inr h
        refine codeAny_mono (G.run A outer s _ args us [.ref a, .int m] (fun v H' => ∃ i' j', 0 ≤ i' ∧ H' a = some (.lst [.ref cs, .int i', .int j', .int mk]) ∧ Q v (upd H' a (feedO cs a))) E hr e2 hb hv
          ⟨_, a, cs, m, i, j, mk, ns, rfl, l2, if_pos rfl, upd_same, sq2, hi, hpre, fun r i' j' F' H' h0 h1 h2 st hf hh => ⟨i', j', h2, hh, q r _ (upd F' a (feedO cs a)) _ ⟨h0, h1⟩ ⟨fun b o e => ?_, fun b o e => ?_, fun b o e => ?_, fun b o e => ?_⟩ (.int r)⟩⟩) fun res s' hq => ?_
        · by_cases hb : b = a
          · subst hb; rw [ha] at e; cases e; exact upd_same
          · rw [upd_ne hb]; exact st.ex b o hb (by rw [upd_ne hb]; exact e)
        · by_cases hb : b = a
          · subst hb; rw [fa] at e; cases e; exact upd_same
          · rw [upd_ne hb]; exact st.gr b o (by show (if b = a then none else F b) = _; rw [if_neg hb]; exact e)
        · by_cases hb : b = a
          · subst hb; rw [upd_same] at e; cases e; exact .inl upd_same
          · rw [upd_ne hb] at e ⊢; exact st.le b o e
        · by_cases hb : b = a
          · subst hb; rw [upd_same] at e; cases e; exact .inl fa
          · rw [upd_ne hb] at e
            rcases st.nw b o e with z | z | z
            · exact .inl (by have z : (if b = a then none else F b) = some o := z; rw [if_neg hb] at z; exact z)
            · exact .inr (by rw [upd_ne hb] at z; exact z)
            · exact absurd z hb
        · cases res with
          | error e => exact hq
          | ok fl =>
            cases fl with
            | next => exact hq
            | brk => exact hq
            | cont => exact hq
            | ret u =>
              obtain ⟨v, H', os, bare, un, hok, rv, i', j', h2, hh, hQ⟩ := hq
              have nb : ∀ b u, H b = some u → (∀ p, u ≠ .ext p) → b ≠ a := fun b u e n z => by subst z; rw [ha] at e; cases e; exact n _ rfl
              obtain ⟨_, its', n', rv', hg'⟩ := hok a _ hh
              refine ⟨v, upd H' a (feedO cs a), os, bare, ⟨fun b o e n => un.keep b o e (by rw [upd_ne (nz b n)]; exact n), fun b o e n => un.slot b o e (by rw [upd_ne (nz b n)]; exact n), fun b o e n hx => ?_, un.there, fun b xs e => ?_, fun b o x e => ?_, fun b ps e => ?_⟩, ?_, rv, hQ⟩
              · rw [upd_ne (nz b n)]; exact un.free b o e (by rw [upd_ne (nz b n)]; exact n) hx
              · have hb := nb b _ e (fun p z => by cases z)
                rw [upd_ne hb]; exact un.tups b xs (by rw [upd_ne hb]; exact e)
              · have hb := nb b _ e (fun p z => by cases z)
                rw [upd_ne hb]; exact un.frzs b o x (by rw [upd_ne hb]; exact e)
              · have hb := nb b _ e (fun p z => by cases z)
                rw [upd_ne hb]; exact un.tbls b ps (by rw [upd_ne hb]; exact e)
              · exact hok_told hok hh (fun y z => by cases z) (fun y z => by cases z) ⟨⟨its', n', i', j', mk, hg', rv', h2⟩, ⟨_, hg'⟩, feedP_stable⟩
/-- a new feed's promise: as a new list, as a feed -/
abbrev SpFeedL (K : PySem.W.Frag) : Sp := SpL K (fun z : Addr × List Int => [.lat z.1 (z.2.map D.int)]) (fun z => z.2.length ≤ 100) (fun _ ds => ∃ (ms : List Int) (mk : Int), ds = [.lst (ms.map D.int), .int 0, .int 0, .int mk])
abbrev SpFeed (K : PySem.W.Frag) : Sp := SpT K (fun z : Addr × List Int => [.lat z.1 (z.2.map D.int)]) (fun z => z.2.length ≤ 100) (fun _ (_ : Unit) => True) (fun _ => D.feed)
theorem RpL.intsV {F : Hp} : ∀ {xs : List V} {ns : List Int}, RpL K F xs (ns.map D.int) → xs = ns.map V.int
  | _, [], .nil => rfl
  | _, n :: ns, .cons r s => by rw [r.intI, RpL.intsV s]; rfl
theorem feed_shift (hp : ps.length = 1) (G : FnOk P w K mg base CX0 k f fd ps (SpFeedL K)) : FnOk P w K mg base CX0 k f fd ps (SpFeed K) := by
  refine ⟨fun vs H Q E ⟨F, x, l, r, _⟩ => by rw [r.len, hp]; rfl, fun A outer s H args us vs Q E hr e0 hb hv ⟨F, ns, l, r, hpre, q⟩ => ?_⟩
  refine codeAny_mono (G.run A outer s H args us vs (fun v H' => ∃ (p cs : Addr) (mk : Int), v = .ref p ∧ H p = none ∧ H' p = some (.lst [.ref cs, .int 0, .int 0, .int mk]) ∧ Q v (upd H' p (feedO cs p))) E hr e0 hb hv ⟨F, ns, l, r, hpre, fun ds p xs F' H' hR st hp hf hh rr => ?_⟩) fun res s' hq => ?_
  · obtain ⟨ms, mk, rfl⟩ := hR
    cases rr with
    | cons r1 rr => cases rr with
      | cons r2 rr => cases rr with
        | cons r3 rr => cases rr with
          | cons r4 rr =>
            cases rr
            obtain ⟨cs, ys, rfl, sq, rl⟩ := r1.lstI
            obtain rfl := r2.intI
            obtain rfl := r3.intI
            obtain rfl := r4.intI
            obtain rfl := RpL.intsV rl
            refine ⟨p, cs, mk, rfl, hp, hh, ?_⟩
            have gr : Gr F' (upd F' p (feedO cs p)) := gr_upd hf
            refine q () _ (upd F' p (feedO cs p)) _ trivial ⟨fun b o e => ?_, st.gr.trans gr, fun b o e => ?_, fun b o e => ?_⟩ (.feed (ns := ms) upd_same (gr.sql (SqL.of sq)))
            · rw [upd_ne (ne_of_none e hp)]; exact st.ex b o e
            · by_cases hb : b = p
              · subst hb; rw [upd_same] at e; cases e; exact .inl upd_same
              · rw [upd_ne hb] at e ⊢; exact st.le b o e
            · by_cases hb : b = p
              · subst hb; exact .inr hp
              · rw [upd_ne hb] at e; exact st.nw b o e
  · cases res with
    | error e => exact hq
    | ok fl =>
      cases fl with
      | next => exact hq
      | brk => exact hq
      | cont => exact hq
      | ret u =>
        obtain ⟨v, H', os, bare, un, hok, rv, p, cs, mk, ev, hp, hh, hQ⟩ := hq
        obtain ⟨_, its', n', rv', hg'⟩ := hok p _ hh
        refine ⟨v, upd H' p (feedO cs p), os, bare, ⟨un.keep, un.slot, fun b o e n hx => ?_, un.there, fun b xs e => ?_, fun b o x e => ?_, fun b ps e => ?_⟩, ?_, rv, hQ⟩
        · have h1 := un.free b o e n hx
          have : b ≠ p := fun z => by subst z; rw [hh] at h1; cases h1
          rw [upd_ne this]; exact h1
        · rw [upd_ne (ne_of_none e hp)]; exact un.tups b xs e
        · rw [upd_ne (ne_of_none e hp)]; exact un.frzs b o x e
        · rw [upd_ne (ne_of_none e hp)]; exact un.tbls b ps e
        · exact hok_told hok hh (fun y z => by cases z) (fun y z => by cases z) ⟨⟨its', n', 0, 0, mk, hg', rv', Int.le_refl 0⟩, ⟨_, hg'⟩, feedP_stable⟩
end
/-! ### a draw's body over data -/
/-- the slots at a draw's entry -/
def drawStart (n : Nat) (a cs : Addr) (m i j mk : Int) (ns : List Int) : Ev := .ol a [.lat cs (ns.map D.int), .int i, .int j, .int mk] :: .v (.int m) :: List.replicate (n - 2) .no
def endDraw (a cs : Addr) (m mk : Int) (ns : List Int) : DE := { nx := fun _ => False, rt := fun d δ => ∃ r i' j' : Int, d = .int r ∧ 0 ≤ r ∧ r < m ∧ 0 ≤ i' ∧ δ[0]? = some (.ol a [.lat cs (ns.map D.int), .int i', .int j', .int mk]) }
section
variable {P : Program} {w : World} {K : PySem.W.Frag} {mg : Str → Option Value} {base : Heap} {x qual : Str} {params : Arguments} {body : List Stmt} {scope : Scope} {dvs : List V} {kws : List (Str × V)} {f : Addr} {fd : FuncData}
theorem fn_draw {pre : Int → Prop} {N ps : List Str} {k : Nat} (F : FunD K x qual params body scope dvs kws f fd) (S : FnScope N ps scope) (hl : ps.length = 2) (hN : 2 ≤ N.length)
    (hb : ∀ (cdv : Value) (A : Around) (outer : List Env) (s : Shared) (H : Hp) (E : XK), Room k (A.deeper (envOfC qual scope s.heap.objs.size f cdv)) →
      ∃ t, PSs (cxOf CX0 P w K mg base N qual scope f cdv A outer s H E).nox body t ∧ ∀ a cs m i j mk ns, pre m → 0 ≤ i → wpS K t (endDraw a cs m mk ns) (drawStart N.length a cs m i j mk ns)) : FnOk P w K mg base CX0 (k + 1) f fd ps (SpDrawT K pre) := by
  refine draw_shift hl (F.ok S (fun vs H Q E ⟨_, _, _, _, _, _, _, _, e, _⟩ => by rw [e, hl]; rfl) fun cdv A outer s H vs Q E hr ⟨F, a, cs, m, i, j, mk, ns, ev, l, hf, hh, sq, hi, hp, q⟩ => ?_)
  subst ev
  obtain ⟨t, ht, hw⟩ := hb cdv A outer s H E hr
  refine ⟨t, ht.nox, ?_⟩
  have hown : ∀ b, own (drawStart N.length a cs m i j mk ns) b → b = a := by
    rintro b ⟨n, sl, h1, h2⟩
    match n with
    | 0 => cases h1; cases h2; rfl
    | 1 => cases h1; cases h2
    | n + 2 =>
      have h3 : (List.replicate (N.length - 2) Sl.no)[n]? = some sl := h1
      rw [List.eq_of_mem_replicate (List.mem_of_getElem? h3)] at h2
      cases h2
  have env : EnvR K F H (L2.start N [.ref a, .int m]) (drawStart N.length a cs m i j mk ns) := by
    refine ⟨by simp [L2.start, drawStart], fun n d h => ?_, fun n p es h => ?_, fun n p es h => ?_, fun n p C es h => ?_, fun n n' sl sl' p h1 h2 h3 h4 => ?_⟩
    · match n with
      | 0 => cases h
      | 1 => cases h; exact ⟨.int m, rfl, .int m⟩
      | n + 2 =>
        have h3 : (List.replicate (N.length - 2) Sl.no)[n]? = some (.v d) := h
        cases List.eq_of_mem_replicate (List.mem_of_getElem? h3)
    · match n with
      | 0 => cases h; exact ⟨rfl, hf, _, hh, .cons (.lat sq (RpL.ints ns)) (.cons (.int i) (.cons (.int j) (.cons (.int mk) .nil)))⟩
      | 1 => cases h
      | n + 2 =>
        have h3 : (List.replicate (N.length - 2) Sl.no)[n]? = some (.ol p es) := h
        cases List.eq_of_mem_replicate (List.mem_of_getElem? h3)
    · match n with
      | 0 => cases h
      | 1 => cases h
      | n + 2 =>
        have h3 : (List.replicate (N.length - 2) Sl.no)[n]? = some (.od p es) := h
        cases List.eq_of_mem_replicate (List.mem_of_getElem? h3)
    · match n with
      | 0 => cases h
      | 1 => cases h
      | n + 2 =>
        have h3 : (List.replicate (N.length - 2) Sl.no)[n]? = some (.oo p C es) := h
        cases List.eq_of_mem_replicate (List.mem_of_getElem? h3)
    · have z : ∀ n sl, (drawStart N.length a cs m i j mk ns)[n]? = some sl → sl.adr = some p → n = 0 := fun n sl h1 h2 => by
        match n with
        | 0 => rfl
        | 1 => cases h1; cases h2
        | n + 2 =>
          have h3 : (List.replicate (N.length - 2) Sl.no)[n]? = some sl := h1
          rw [List.eq_of_mem_replicate (List.mem_of_getElem? h3)] at h2
          cases h2
      rw [z n sl h1 h3, z n' sl' h2 h4]
  have cv : ∀ {F' H'}, StepO (own (drawStart N.length a cs m i j mk ns)) F H F' H' → StepO (fun b => b = a) F H F' H' := fun s => ⟨fun b o n e => s.ex b o (fun z => n (hown b z)) e, s.th, s.gr, s.le, fun b o e => (s.nw b o e).imp id (Or.imp id (hown b))⟩
  refine hw a cs m i j mk ns hp hi _ F H l env _ ⟨fun _ _ _ _ _ _ _ g => False.elim g, fun v d σ' δ' F' H' s o e rd ⟨r, i', j', hd, h0, h1, h2, h3⟩ => ?_, fun _ _ _ _ _ _ _ _ _ _ g => False.elim g, fun _ _ _ _ _ _ _ g => False.elim g, fun _ _ _ _ _ _ _ g => False.elim g⟩
  subst hd
  obtain rfl := rd.intI
  obtain ⟨_, f2, ys, h4, rr⟩ := e.lst 0 _ _ h3
  refine q r i' j' F' H' h0 h1 h2 (cv s) f2 ?_
  cases rr with
  | cons r1 rr => cases rr with
    | cons r2 rr => cases rr with
      | cons r3 rr => cases rr with
        | cons r4 rr =>
          cases rr
          rw [h4, r2.intI, r3.intI, r4.intI]
          cases r1
          rfl
end
end Ts
namespace Ts
open PySem PySem.Spec PyProof.Rows L2
/-! ### operators that serve several kinds -/
def r2or (r1 r2 : R2) : R2 := fun x y H Q => r1 x y H Q ∨ r2 x y H Q
section
variable {X : Cx}
theorem opr_or {f : Value → Value → Sem Value} {r1 r2 : R2} (h1 : OpR X f r1) (h2 : OpR X f r2) : OpR X f (r2or r1 r2) := fun pins s σ H x y v u Q I rx ry h => by
  rcases h with h | h
  · exact h1 pins s σ H x y v u Q I rx ry h
  · exact h2 pins s σ H x y v u Q I rx ry h
def rAddS : R2 := fun x y H Q => ∃ i j, x = .str i ∧ y = .str j ∧ i.length + j.length ≤ sizeLine ∧ Q (.str (i ++ j)) H
def uAdd (K : PySem.W.Frag) : R2 := r2or (rI0 fun i j => .int (i + j)) (r2or rAddS (r2or rCat (rCatT K)))
theorem ox_add : OpR X (binaryOp .Add) (uAdd X.K) := opr_or op_add (opr_or op_add_str (opr_or op_cat op_catT))
def uSub : R2 := rI0 fun i j => .int (i - j)
theorem ox_sub : OpR X (binaryOp .Sub) uSub := op_sub
def MulOk (i j : Int) : Prop := CMul i j ∨ CMulX i j
theorem MulOk.ok {i j : Int} (h : MulOk i j) : IntMulOk i j := h.elim CMul.ok CMulX.ok
def uMul : R2 := r2or (rI MulOk fun i j => .int (i * j)) rRep
theorem ox_mul : OpR X (binaryOp .Mult) uMul := opr_or (opI fun _ _ _ _ _ _ _ hc q => mul_int q hc.ok) op_rep
/-- a divisor below 2 ^ 9000 -/
def DivOk (_ j : Int) : Prop := j ≠ 0 ∧ j.natAbs.log2 < 9000
def uFdiv : R2 := rI DivOk fun i j => .int (i.fdiv j)
theorem ox_fdiv : OpR X (binaryOp .FloorDiv) uFdiv := opI fun i j _ _ _ _ _ hc q => floordiv_int hc.1 q (.inl (PyProof.noPylong_of_log2 hc.2))
def uMod : R2 := rI (fun _ j => j ≠ 0) fun i j => .int (i.fmod j)
theorem ox_mod : OpR X (binaryOp .Mod) uMod := op_modN
def uPow : R2 := rI CPow fun i j => .int (i ^ j.toNat)
theorem ox_pow : OpR X (binaryOp .Pow) uPow := op_pow
def rLtS : R2 := fun x y H Q => ∃ i j, x = .str i ∧ y = .str j ∧ Q (.bl (decide (i.cps.toList < j.cps.toList))) H
def uLt : R2 := r2or (rI0 fun i j => .bl (decide (i < j))) rLtS
theorem ox_lt : OpR X (compareOp .Lt) uLt := opr_or op_lt op_lt_str
def uLe : R2 := rI0 fun i j => .bl (decide (i ≤ j))
theorem ox_le : OpR X (compareOp .LtE) uLe := op_le
def uGt : R2 := rI0 fun i j => .bl (decide (j < i))
theorem ox_gt : OpR X (compareOp .Gt) uGt := op_gt
def uGe : R2 := rI0 fun i j => .bl (decide (j ≤ i))
theorem ox_ge : OpR X (compareOp .GtE) uGe := op_ge
def uEq (K : PySem.W.Frag) : R2 := r2or rEq (rEqD K)
theorem ox_eq (hu : X.A.units + 64 < cLine) : OpR X (compareOp .Eq) (uEq X.K) := opr_or op_eq (op_eqD hu)
def uNe (K : PySem.W.Frag) : R2 := r2or rNe (rNeD K)
theorem ox_ne (hu : X.A.units + 64 < cLine) : OpR X (compareOp .NotEq) (uNe X.K) := opr_or op_ne (op_neD hu)
def rIs : R2 := fun x y H Q => y = V.non ∧ Q (.bl (decide (x = .non))) H
def rIsNot : R2 := fun x y H Q => y = V.non ∧ Q (.bl (!decide (x = .non))) H
theorem ox_is : OpR X (compareOp .Is) rIs := op_isN
theorem ox_isnot : OpR X (compareOp .IsNot) rIsNot := op_notN
/-! built-ins by name -/
abbrev rLn (K : PySem.W.Frag) : List V → Hp → VK → Prop := fun xs H Q => ∃ x n, xs = [x] ∧ LenV K x H n ∧ Q (.int n) H
theorem cx_len : CallR X (.builtin "len") (rLn X.K) := call_len
def rInt1 : List V → Hp → VK → Prop := fun xs H Q => (∃ i, xs = [.int i] ∧ Q (.int i) H) ∨ ∃ k, xs = [.bl k] ∧ Q (.int (if k then 1 else 0)) H
def rIntS : List V → Hp → VK → Prop := fun xs H Q => ∃ a n, xs = [.str a] ∧ PySem.intText? a = some n ∧ a.length ≤ 640 ∧ Q (.int n) H
def rcor (r1 r2 : List V → Hp → VK → Prop) : List V → Hp → VK → Prop := fun xs H Q => r1 xs H Q ∨ r2 xs H Q
theorem cr_or {f : Value} {r1 r2 : List V → Hp → VK → Prop} (h1 : CallR X f r1) (h2 : CallR X f r2) : CallR X f (rcor r1 r2) := fun pins s σ H xs us Q I r h => by
  rcases h with h | h
  · exact h1 pins s σ H xs us Q I r h
  · exact h2 pins s σ H xs us Q I r h
theorem cx_int : CallR X (.type "int") (rcor rInt1 rIntS) := cr_or call_int1 call_int_str
def rAbs : List V → Hp → VK → Prop := fun xs H Q => ∃ i, xs = [.int i] ∧ Q (.int (if i < 0 then -i else i)) H
theorem cx_abs : CallR X (.builtin "abs") rAbs := call_abs
theorem cx_all (hc : X.calm = true) : CallR X (.builtin "all") (rAll X.K) := cr_all hc
def rTupOf (K : PySem.W.Frag) : List V → Hp → VK → Prop := fun xs H Q => ∃ p ys, xs = [.ref p] ∧ ((SqL K H p ys ∧ ∀ l, H l = none → Q (.ref l) (upd H l (.tup ys))) ∨ (SqT K H p ys ∧ Q (.ref p) H))
theorem cx_tuple : CallR X (.type "tuple") (rTupOf X.K) := call_tuple_of
def rLstOf (K : PySem.W.Frag) : List V → Hp → VK → Prop := fun xs H Q => ∃ p ys, xs = [.ref p] ∧ (SqL K H p ys ∨ SqT K H p ys) ∧ ∀ l, H l = none → Q (.ref l) (upd H l (.lst ys))
theorem cx_list : CallR X (.type "list") (rLstOf X.K) := call_list_of
end
section
variable {K : PySem.W.Frag} {δ : Ev} {k : D → Prop}
theorem o_add_i {i j : Int} (h : k (.int (i + j))) : opD K (uAdd K) (.int i) (.int j) k := o_or1 (o_I0 h)
theorem o_add_s {x y : Str} (hz : x.length + y.length ≤ 1000000) (h : k (.str (x ++ y))) : opD K (uAdd K) (.str x) (.str y) k := o_or2 (o_or1 fun F H u v l a b Q q => ⟨x, y, a.strI, b.strI, Nat.le_trans hz (by decide), q _ _ F H (Step.refl l) (.str _) h⟩)
theorem o_add_l {xs ys : List D} (hz : xs.length + ys.length ≤ 1000000) (h : k (.lst (xs ++ ys))) : opD K (uAdd K) (.lst xs) (.lst ys) k := o_or2 (o_or2 (o_or1 fun F H u v l a b Q q => by
  obtain ⟨p, vs, rfl, sp, rp⟩ := a.lstI
  obtain ⟨p', vs', rfl, sp', rp'⟩ := b.lstI
  refine ⟨p, p', vs, vs', rfl, rfl, l.lst sp, l.lst sp', by rw [rp.len, rp'.len]; exact Nat.le_trans hz (by decide), fun n hn => ?_⟩
  have st := Step.new (F := F) (o := .lst (vs ++ vs')) l hn
  exact q _ _ _ _ st (.lst upd_same ((rp.app rp').mono st.gr)) h))
theorem o_add_t {xs ys : List D} (hx : xs ≠ []) (hz : xs.length + ys.length ≤ 1000000) (h : k (.tup (xs ++ ys))) : opD K (uAdd K) (.tup xs) (.tup ys) k := o_or2 (o_or2 (o_or2 fun F H u v l a b Q q => by
  obtain ⟨p, vs, rfl, sp, rp⟩ := a.tupI
  obtain ⟨p', vs', rfl, sp', rp'⟩ := b.tupI
  have hv : vs ≠ [] := fun z => hx (List.length_eq_zero_iff.mp (by rw [← rp.len, z]; rfl))
  refine ⟨p, p', vs, vs', rfl, rfl, l.sqt sp, l.sqt sp', hv, by rw [rp.len, rp'.len]; exact Nat.le_trans hz (by decide), ?_⟩
  refine ⟨fun e => ?_, fun e n hn => ?_⟩
  · have : ys = [] := List.length_eq_zero_iff.mp (by rw [← rp'.len, e]; rfl)
    subst this
    rw [List.append_nil] at h
    exact q _ _ F H (Step.refl l) (.tup sp rp) h
  · have st := Step.new (F := F) (o := .tup (vs ++ vs')) l hn
    exact q _ _ _ _ st (.tup (SqT.of upd_same) ((rp.app rp').mono st.gr)) h))
theorem o_sub {i j : Int} (h : k (.int (i - j))) : opD K uSub (.int i) (.int j) k := o_I0 h
theorem o_mul {i j : Int} (hc : MulOk i j) (h : k (.int (i * j))) : opD K uMul (.int i) (.int j) k := o_or1 (o_I hc h)
theorem o_rep {xs : List D} {n : Nat} (hn : n ≤ 1000) (hz : xs.length ≤ 1000) (h : k (.lst (List.replicate n xs).flatten)) : opD K uMul (.lst xs) (.int (n : Int)) k := o_or2 fun F H u v l a b Q q => by
  obtain ⟨p, vs, rfl, sp, rp⟩ := a.lstI
  obtain rfl := b.intI
  refine ⟨p, n, vs, rfl, rfl, l.lst sp, by omega, by omega, ?_, fun m hm => ?_⟩
  · rw [rp.len, Int.toNat_natCast]
    exact Nat.le_trans (Nat.mul_le_mul hz hn) (by decide)
  · have st := Step.new (F := F) (o := .lst (List.replicate (n : Int).toNat vs).flatten) l hm
    refine q _ _ _ _ st (.lst upd_same (RpL.mono st.gr ?_)) h
    rw [Int.toNat_natCast]
    clear h hn st b
    induction n with
    | zero => exact .nil
    | succ n ih => rw [List.replicate_succ, List.replicate_succ, List.flatten_cons, List.flatten_cons]; exact rp.app ih
theorem o_fdiv {i j : Int} (hc : DivOk i j) (h : k (.int (i.fdiv j))) : opD K uFdiv (.int i) (.int j) k := o_I hc h
theorem o_mod {i j : Int} (hc : j ≠ 0) (h : k (.int (i.fmod j))) : opD K uMod (.int i) (.int j) k := o_I hc h
theorem o_pow {i j : Int} (hc : CPow i j) (h : k (.int (i ^ j.toNat))) : opD K uPow (.int i) (.int j) k := o_I hc h
theorem o_lt_i {i j : Int} (h : k (.bl (decide (i < j)))) : opD K uLt (.int i) (.int j) k := o_or1 (o_I0 h)
theorem o_lt_s {i j : Str} (h : k (.bl (decide (i.cps.toList < j.cps.toList)))) : opD K uLt (.str i) (.str j) k := o_or2 fun F H u v l a b Q q => ⟨i, j, a.strI, b.strI, q _ _ F H (Step.refl l) (.bl _) h⟩
theorem o_le_i {i j : Int} (h : k (.bl (decide (i ≤ j)))) : opD K uLe (.int i) (.int j) k := o_I0 h
theorem o_gt_i {i j : Int} (h : k (.bl (decide (j < i)))) : opD K uGt (.int i) (.int j) k := o_I0 h
theorem o_ge_i {i j : Int} (h : k (.bl (decide (j ≤ i)))) : opD K uGe (.int i) (.int j) k := o_I0 h
theorem o_eq_i {i j : Int} (h : k (.bl (decide (i = j)))) : opD K (uEq K) (.int i) (.int j) k := o_or1 (o_eq rfl rfl rfl (by
  have e : decide (V.int i = V.int j) = decide (i = j) := by simp
  rw [e]; exact h))
theorem o_eq_b {i j : Bool} (h : k (.bl (decide (i = j)))) : opD K (uEq K) (.bl i) (.bl j) k := o_or1 (o_eq rfl rfl rfl (by
  have e : decide (V.bl i = V.bl j) = decide (i = j) := by simp
  rw [e]; exact h))
theorem o_eq_s {i j : Str} (h : k (.bl (decide (i = j)))) : opD K (uEq K) (.str i) (.str j) k := o_or1 (o_eq rfl rfl rfl (by
  have e : decide (V.str i = V.str j) = decide (i = j) := by simp
  rw [e]; exact h))
theorem o_ne_i {i j : Int} (h : k (.bl (!decide (i = j)))) : opD K (uNe K) (.int i) (.int j) k := o_or1 (o_ne rfl rfl rfl (by
  have e : decide (V.int i = V.int j) = decide (i = j) := by simp
  rw [e]; exact h))
theorem o_ne_s {i j : Str} (h : k (.bl (!decide (i = j)))) : opD K (uNe K) (.str i) (.str j) k := o_or1 (o_ne rfl rfl rfl (by
  have e : decide (V.str i = V.str j) = decide (i = j) := by simp
  rw [e]; exact h))
theorem o_ne_b {i j : Bool} (h : k (.bl (!decide (i = j)))) : opD K (uNe K) (.bl i) (.bl j) k := o_or1 (o_ne rfl rfl rfl (by
  have e : decide (V.bl i = V.bl j) = decide (i = j) := by simp
  rw [e]; exact h))
theorem o_is {x : D} (h : k (.bl (noneB x))) : opD K rIs x .non k := o_isN h
theorem o_isnot {x : D} (h : k (.bl (!noneB x))) : opD K rIsNot x .non k := o_notN h
/-! calls -/
theorem RpL.one {F : Hp} {us : List V} {x : D} (r : RpL K F us [x]) : ∃ u, us = [u] ∧ Rp K F u x := by
  cases r with
  | cons a r => cases r; exact ⟨_, rfl, a⟩
theorem RpL.two {F : Hp} {us : List V} {x y : D} (r : RpL K F us [x, y]) : ∃ u v, us = [u, v] ∧ Rp K F u x ∧ Rp K F v y := by
  cases r with
  | cons a r => cases r with
    | cons b r => cases r; exact ⟨_, _, rfl, a, b⟩
theorem c_len_l {x : D} {ds : List D} (hx : asL x = some ds) (h : k (.int (ds.length : Int))) : clD K (rLn K) [x] k := fun F H us l r Q q => by
  obtain ⟨u, rfl, a⟩ := r.one
  obtain ⟨p, vs, rfl, sp, rp⟩ := a.asL hx
  refine ⟨_, vs.length, rfl, .inl ⟨vs, l.sql sp, rfl⟩, q _ _ F H (Step.refl l) (.int _) ?_⟩
  rw [rp.len]; exact h
theorem c_len_t {ds : List D} (h : k (.int (ds.length : Int))) : clD K (rLn K) [.tup ds] k := fun F H us l r Q q => by
  obtain ⟨u, rfl, a⟩ := r.one
  obtain ⟨p, vs, rfl, sp, rp⟩ := a.tupI
  refine ⟨_, vs.length, rfl, .inr ⟨vs, l.sqt sp, rfl⟩, q _ _ F H (Step.refl l) (.int _) ?_⟩
  rw [rp.len]; exact h
theorem c_len_s {z : Str} (hz : z.length ≤ 1000000) (h : k (.int (z.length : Int))) : clD K (rLn K) [.str z] k := fun F H us l r Q q => by
  obtain ⟨u, rfl, a⟩ := r.one
  obtain rfl := a.strI
  exact ⟨_, z.length, rfl, ⟨Nat.le_trans hz (by decide), rfl⟩, q _ _ F H (Step.refl l) (.int _) h⟩
theorem c_int_i {i : Int} (h : k (.int i)) : clD K (rcor rInt1 rIntS) [.int i] k := fun F H us l r Q q => by
  obtain ⟨u, rfl, a⟩ := r.one
  obtain rfl := a.intI
  exact .inl (.inl ⟨i, rfl, q _ _ F H (Step.refl l) (.int _) h⟩)
theorem c_int_b {i : Bool} (h : k (.int (if i then 1 else 0))) : clD K (rcor rInt1 rIntS) [.bl i] k := fun F H us l r Q q => by
  obtain ⟨u, rfl, a⟩ := r.one
  obtain rfl := a.blI
  exact .inl (.inr ⟨i, rfl, q _ _ F H (Step.refl l) (.int _) h⟩)
theorem c_int_s {z : Str} {n : Int} (hn : PySem.intText? z = some n) (hz : z.length ≤ 640) (h : k (.int n)) : clD K (rcor rInt1 rIntS) [.str z] k := fun F H us l r Q q => by
  obtain ⟨u, rfl, a⟩ := r.one
  obtain rfl := a.strI
  exact .inr ⟨z, n, rfl, hn, hz, q _ _ F H (Step.refl l) (.int _) h⟩
theorem c_abs {i : Int} (h : k (.int (i.natAbs : Int))) : clD K rAbs [.int i] k := fun F H us l r Q q => by
  obtain ⟨u, rfl, a⟩ := r.one
  obtain rfl := a.intI
  refine ⟨i, rfl, q _ _ F H (Step.refl l) (.int _) ?_⟩
  have e : (if i < 0 then -i else i) = (i.natAbs : Int) := by split <;> omega
  rw [e]; exact h
theorem RpL.bls {F : Hp} : ∀ {xs : List V} {bs : List Bool}, RpL K F xs (bs.map D.bl) → xs = bs.map V.bl
  | _, [], .nil => rfl
  | _, n :: ns, .cons r s => by rw [r.blI, RpL.bls s]; rfl
theorem c_all {bs : List Bool} (h : k (.bl (bs.all id))) : clD K (rAll K) [.lst (bs.map D.bl)] k := fun F H us l r Q q => by
  obtain ⟨u, rfl, a⟩ := r.one
  obtain ⟨p, vs, rfl, sp, rp⟩ := a.lstI
  obtain rfl := rp.bls
  exact ⟨p, bs, rfl, SqL.of (l.lst sp), q _ _ F H (Step.refl l) (.bl _) h⟩
theorem c_tup_l {x : D} {ds : List D} (hx : asL x = some ds) (h : k (.tup ds)) : clD K (rTupOf K) [x] k := fun F H us l r Q q => by
  obtain ⟨u, rfl, a⟩ := r.one
  obtain ⟨p, vs, rfl, sp, rp⟩ := a.asL hx
  refine ⟨p, vs, rfl, .inl ⟨l.sql sp, fun n hn => ?_⟩⟩
  have st := Step.new (F := F) (o := .tup vs) l hn
  exact q _ _ _ _ st (.tup (SqT.of upd_same) (rp.mono st.gr)) h
theorem c_lst_t {ds : List D} (h : k (.lst ds)) : clD K (rLstOf K) [.tup ds] k := fun F H us l r Q q => by
  obtain ⟨u, rfl, a⟩ := r.one
  obtain ⟨p, vs, rfl, sp, rp⟩ := a.tupI
  refine ⟨p, vs, rfl, .inr (l.sqt sp), fun n hn => ?_⟩
  have st := Step.new (F := F) (o := .lst vs) l hn
  exact q _ _ _ _ st (.lst upd_same (rp.mono st.gr)) h
theorem c_lst_l {x : D} {ds : List D} (hx : asL x = some ds) (h : k (.lst ds)) : clD K (rLstOf K) [x] k := fun F H us l r Q q => by
  obtain ⟨u, rfl, a⟩ := r.one
  obtain ⟨p, vs, rfl, sp, rp⟩ := a.asL hx
  refine ⟨p, vs, rfl, .inl (l.sql sp), fun n hn => ?_⟩
  have st := Step.new (F := F) (o := .lst vs) l hn
  exact q _ _ _ _ st (.lst upd_same (rp.mono st.gr)) h
/-! ### isinstance -/
def tyD : D → Option String
  | .non => some "NoneType"
  | .bl _ => some "bool"
  | .int _ => some "int"
  | .str _ => some "str"
  | .lst _ => some "list"
  | .lat _ _ => some "list"
  | .tup _ => some "tuple"
  | _ => none
theorem tyX_of {F H : Hp} {v : V} {d : D} {T : String} (l : Le F H) (r : Rp K F v d) (h : tyD d = some T) : TyX K H v (.type T) := by
  cases r with
  | non => cases h; exact .base .non
  | bl b => cases h; exact .base (.bl b)
  | int i => cases h; exact .base (.int i)
  | str x => cases h; exact .base (.str x)
  | lst s r => cases h; exact .base (.lst (l.lst s))
  | tup s r =>
    cases h
    rcases l.sqt s with (z | ⟨o, z⟩) | ⟨o, its, n, z1, z2, _⟩
    · exact .base (.tup z)
    · exact .fTuple z
    · exact .kTuple z1 z2
  | lat s r =>
    cases h
    rcases l.sql s with (z | ⟨o, z⟩) | ⟨o, its, n, z1, z2, _⟩
    · exact .base (.lst z)
    · exact .base (.frz z)
    · exact .kList z1 z2
  | _ => cases h
theorem c_isi {x : D} {T n : String} {b : Bool} (hx : tyD x = some T) (hk : kitB T n = some b) (h : k (.bl b)) : clD K (rIsi K) [x, .oth (.ty n)] k := fun F H us l r Q q => by
  obtain ⟨u, v, rfl, a, c⟩ := r.two
  obtain rfl := c.othI
  exact ⟨u, _, .type T, .type n, b, rfl, .ty n, tyX_of l a hx, kit_ty hk, q _ _ F H (Step.refl l) (.bl _) h⟩
/-- isinstance(x, (T1, T2)) -/
theorem e_isi2 {te : TE} {n1 n2 : String} (hx : wpE K te δ fun x => ∃ T b1 b2, tyD x = some T ∧ kitB T n1 = some b1 ∧ kitB T n2 = some b2 ∧ k (.bl (b1 || b2))) :
    wpE K (tCB (rIsiT K) (tCons te (tCons (tTup (tCons (tC (.ty n1)) (tCons (tC (.ty n2)) tNil))) tNil))) δ k := fun σ F H l e Q q =>
  hx σ F H l e _ fun v d F1 H1 s1 r1 ⟨T, b1, b2, ht, h1, h2, hk⟩ => ⟨by show 2 ≤ sizeLine; decide, fun p hp => by
    have st := Step.ext (H' := upd H1 p (.tup [.ty n1, .ty n2])) s1.le fun a o ha => by rw [upd_ne (ne_of_none ha hp)]; exact ha
    have kk : PySem.W.kitAny K (.type T) [.type n1, .type n2] = some (b1 || b2) := kitAny_cons (kit_ty h1) (fun e => kitAny_cons (b := b2) (kit_ty h2) (fun e2 => by rw [e, e2]; exact kitAny_nil) fun e2 => by rw [e2, Bool.or_true]) fun e => by rw [e, Bool.true_or]
    exact ⟨v, p, _, .type T, [.type n1, .type n2], b1 || b2, rfl, upd_same, .cons (.ty n1) (.cons (.ty n2) .nil), tyX_of st.le r1 ht, kk, q _ _ F1 _ (s1.trans st) (.bl _) hk⟩⟩
/-! ### slices, unpacking -/
theorem p_no {ko : Option Int → Prop} (h : ko none) : wpO K tNoPart δ ko := fun σ F H l e Q q => q none F H (Step.refl l) h
theorem p_some {te : TE} {ko : Option Int → Prop} (h : wpE K te δ fun d => ∃ i, d = .int i ∧ ko (some i)) : wpO K (tPart te) δ ko := fun σ F H l e Q q =>
  h σ F H l e _ fun v d F1 H1 s1 r1 ⟨i, hd, hk⟩ => by subst hd; exact ⟨i, r1.intI, q (some i) F1 H1 s1 hk⟩
def cutD (xs : List D) (lo hi : Option Int) : List D := (xs.drop (HT.sIx xs.length 0 lo)).take (HT.sIx xs.length xs.length hi - HT.sIx xs.length 0 lo)
theorem RpL.cut {F : Hp} {vs : List V} {ds : List D} (r : RpL K F vs ds) (lo hi : Option Int) : RpL K F (cutV vs lo hi) (cutD ds lo hi) := by
  unfold cutV cutD
  rw [r.len]
  exact (r.drop _).take _
/-- xs[a:b] of a list: a new one -/
theorem n_slL {te : TE} {tl th : TO} {kl : List D → Prop} (h : wpE K te δ fun d => wpO K tl δ fun lo => wpO K th δ fun hi => ∃ ds, asL d = some ds ∧ kl (cutD ds lo hi)) : wpN K (tSl (rSlL K) te tl th) δ kl := fun σ F H l e Q q =>
  h σ F H l e _ fun v d F1 H1 s1 r1 h1 => h1 σ F1 H1 s1.le (e.step s1) _ fun lo F2 H2 s2 h2 => h2 σ F2 H2 s2.le ((e.step s1).step s2) _ fun hi F3 H3 s3 ⟨ds, hd, hk⟩ => by
    obtain ⟨a, xs, rfl, sa, ra⟩ := (r1.mono (s2.gr.trans s3.gr)).asL hd
    refine ⟨a, xs, rfl, s3.le.sql sa, fun p hp => ?_⟩
    have st := Step.ext (H' := upd H3 p (.lst (cutV xs lo hi))) s3.le fun a o ha => by rw [upd_ne (ne_of_none ha hp)]; exact ha
    have s := (s1.trans s2).trans s3
    exact q p _ _ F3 _ (s.trans st) (s.back hp) (s3.le.none hp) upd_same (ra.cut lo hi) hk
/-- a slice of a list that the frame alone holds -/
theorem n_slO {i : Nat} {p : Addr} {ds : List D} {tl th : TO} {kl : List D → Prop} (hi : δ[i]? = some (.ol p ds)) (h : wpO K tl δ fun lo => wpO K th δ fun hi => kl (cutD ds lo hi)) : wpN K (tSl (rSlL K) (tVar i) tl th) δ kl := fun σ F H l e Q q => by
  obtain ⟨a1, _⟩ := e.lst i p ds hi
  refine ⟨_, a1, h σ F H l e _ fun lo F2 H2 s2 h2 => h2 σ F2 H2 s2.le (e.step s2) _ fun hi' F3 H3 s3 hk => ?_⟩
  have s := s2.trans s3
  obtain ⟨b1, b2, xs, b3, b4⟩ := (e.step s).lst i p ds hi
  refine ⟨p, xs, rfl, SqL.of b3, fun n hn => ?_⟩
  have st := Step.ext (H' := upd H3 n (.lst (cutV xs lo hi'))) s3.le fun a o ha => by rw [upd_ne (ne_of_none ha hn)]; exact ha
  exact q n _ _ F3 _ (s.trans st) (s.back hn) (s3.le.none hn) upd_same (b4.cut lo hi') hk
theorem g_unl {g : TGs} {n : Nat} {js : List Nat} {x : D} {ds : List D} {ke : Ev → Prop} (hx : asL x = some ds) (hn : ds.length = n) (h : tgL K g js ds δ ke) : tgJ K (gUnl K n g) js x δ ke := fun v σ F H l e r Q q => by
  obtain ⟨a, xs, rfl, s, r⟩ := r.asL hx
  exact ⟨a, xs, rfl, l.sql s, by rw [r.len, hn], h xs σ F H l e r Q q⟩
/-! ### the law's own end -/
def SpLaw (K : PySem.W.Frag) : Sp := fun vs H Q _ => ∃ (a : Addr) (ns : List Int), vs = [.ref a] ∧ SqL K H a (ns.map V.int) ∧ ns.length ≤ 63 ∧ ∀ H', Q (.bl true) H'
end
section
variable {P : Program} {w : World} {K : PySem.W.Frag} {mg : Str → Option Value} {base : Heap} {x qual : Str} {params : Arguments} {body : List Stmt} {scope : Scope} {dvs : List V} {kws : List (Str × V)} {f : Addr} {fd : FuncData}
theorem fn_law {N : List Str} {s : Str} {k : Nat} (F : FunD K x qual params body scope dvs kws f fd) (S : FnScope N [s] scope)
    (hb : ∀ (cdv : Value) (A : Around) (outer : List Env) (s : Shared) (H : Hp) (E : XK), Room k (A.deeper (envOfC qual scope s.heap.objs.size f cdv)) →
      ∃ t, PSs (cxOf CX0 P w K mg base N qual scope f cdv A outer s H E).nox body t ∧ ∀ (a : Addr) (ns : List Int), ns.length ≤ 63 → wpS K t { nx := fun _ => False, rt := fun d _ => d = .bl true } (dstart N.length [.lat a (ns.map D.int)])) : FnOk P w K mg base CX0 (k + 1) f fd [s] (SpLaw K) := by
  refine F.ok S (fun vs H Q E ⟨a, ns, e, _⟩ => by rw [e]; rfl) fun cdv A outer s H vs Q E hr ⟨a, ns, ev, sq, hl, q⟩ => ?_
  subst ev
  obtain ⟨t, ht, hw⟩ := hb cdv A outer s H E hr
  refine ⟨t, ht.nox, ?_⟩
  -- what is frozen: the script alone
  have key : ∃ F : Hp, Le F H ∧ SqL K F a (ns.map V.int) := by
    have one : ∀ u : HO, H a = some u → Le (fun b => if b = a then some u else none) H := fun u h b o e => by
      have e : (if b = a then some u else none) = some o := e
      by_cases hb : b = a
      · rw [if_pos hb] at e; cases e; rw [hb]; exact .inl h
      · rw [if_neg hb] at e; cases e
    rcases sq with (h | ⟨o, h⟩) | h
    · exact ⟨_, one _ h, .inl (.inl (if_pos rfl))⟩
    · exact ⟨_, one _ h, .inl (.inr ⟨o, if_pos rfl⟩)⟩
    · exact ⟨fun _ => none, fun _ _ e => (nomatch e), .inr h⟩
  obtain ⟨F, l, sf⟩ := key
  refine hw a ns hl _ F H l (env_start (.cons (.lat sf (RpL.ints ns)) .nil)) _ ⟨fun _ _ _ _ _ _ _ g => False.elim g, fun v d σ' δ' F' H' s o e r g => ?_, fun _ _ _ _ _ _ _ _ _ _ g => False.elim g, fun _ _ _ _ _ _ _ g => False.elim g, fun _ _ _ _ _ _ _ g => False.elim g⟩
  have g : d = .bl true := g
  subst g
  rw [r.blI]
  exact q H'
end
/-- a law's end over a head by facts, with the script's bits told -/
theorem walk_ofEB {l : PySem.W.OpenLaw} {n k : Nat} {q : Program} {loose : List Str} {XP : (Str → Option Value) → Heap → Prop} {YP : World → Heap → Prop} {d : DefRec} {x : Str}
    (hn : l.most = some n) (hn2 : n ≤ sizeLine) (hdf : d.params.defaults = []) (hr : Room k callerA)
    (F : ∀ (w : World) (mg : Str → Option Value) (fa : Addr) (h : Heap), YP w h → h.Ns mainGlobals mg → mg d.name = some (.ref fa) →
      ∃ (K : PySem.W.Frag) (fd : FuncData) (sp : Sp), K.In h ∧ (∀ (s : Shared) (u : Value), BindsTo s fd ⟨[u], []⟩ [(x, u)]) ∧
        (∀ (H : Hp) (a : Addr) (ns : List Int), ns.length ≤ n → SqL K H a (ns.map V.int) → sp [.ref a] H (fun v _ => v = .bl true) fun _ _ _ => False) ∧
        ∀ base : Heap, K.In base → base.Ns mainGlobals mg → FnOk l.prog w K mg base CX0 k fa fd [x] sp) :
    PySem.W.WalkO q loose XP YP l.row.toRowW d [] (fun f vs => PySem.call f vs) :=
  L2.walk_ofE (CX := CX0) hn hn2 hdf hr (fun w mg fa h Y G hm => by
    obtain ⟨K, fd, sp, h1, h2, h3, h4⟩ := F w mg fa h Y G hm
    exact ⟨K, fd, sp, h1, h2, fun H a ns hl _ hS => h3 H a ns hl hS, h4⟩) fun _ _ _ _ z => z
end Ts
namespace Ts
open PySem PySem.Spec PyProof.Rows L2
theorem atI_of {α : Type} {xs : List α} {z : Int} {j : Nat} {v : α} (e : z = (j : Int)) (h : xs[j]? = some v) : atI xs z = some v := by
  subst e
  exact atI_nat h
theorem itB {b : Bool} {A B : Prop} (h1 : b = true → A) (h2 : b = false → B) : if b = true then A else B := by
  cases b with
  | true => exact iteT (h1 rfl)
  | false => exact iteF (h2 rfl)
theorem itD {p : Prop} [Decidable p] {A B : Prop} (h1 : p → A) (h2 : ¬ p → B) : if decide p = true then A else B := itB (fun h => h1 (of_decide_eq_true h)) (fun h => h2 (of_decide_eq_false h))
theorem itEq {α : Type} {a : α} [h : Decidable (a = a)] {A B : Prop} (h1 : A) : if decide (a = a) = true then A else B := by rw [decide_eq_true rfl]; exact iteT h1
theorem itNe {α : Type} {a : α} [h : Decidable (a = a)] {A B : Prop} (h1 : B) : if (!decide (a = a)) = true then A else B := by rw [decide_eq_true rfl]; exact iteF h1
theorem itN {p : Prop} [Decidable p] {A B : Prop} (h1 : ¬ p → A) (h2 : p → B) : if (!decide p) = true then A else B := itB (fun h => h1 (by simpa using h)) (fun h => h2 (by simpa using h))
theorem cmul_r {i j : Int} (h1 : -(2 ^ 64) < j) (h2 : j < 2 ^ 64) : MulOk i j := .inl (.inr ⟨h1, h2⟩)
theorem cmul_l {i j : Int} (h1 : -(2 ^ 64) < i) (h2 : i < 2 ^ 64) : MulOk i j := .inl (.inl ⟨h1, h2⟩)
theorem cmul_x {i j : Int} {a b : Nat} (ha : i.natAbs < 2 ^ a) (hb : j.natAbs < 2 ^ b) (h : a + b ≤ 134217728) : MulOk i j := .inr (mulx_ok ha hb h)
theorem fmod_nn {a b : Int} (hb : 0 < b) : 0 ≤ a.fmod b ∧ a.fmod b < b := by
  rw [Int.fmod_eq_emod_of_nonneg a (Int.le_of_lt hb)]
  exact ⟨Int.emod_nonneg _ (by omega), Int.emod_lt_of_pos _ hb⟩
theorem log2_lt {n k : Nat} (h : n < 2 ^ k) (hk : 0 < k) : n.log2 < k := PySem.Flt.log2_lt_of hk h
theorem div_ok {i j : Int} (h0 : j ≠ 0) (h : j.natAbs < 2 ^ 9000) : DivOk i j := ⟨h0, log2_lt h (by decide)⟩
section
variable {K : PySem.W.Frag} {δ : Ev} {G : DE} {tb : TS} {wi : TI} {te : TE} {tt : TT} {kl : List D → Prop}
theorem e_ty {n : String} {k : D → Prop} (hk : k (.oth (.ty n))) : wpE K (tC (.ty n)) δ k := e_c hk
theorem s_for1 {j : Nat} (h : wpI K wi δ fun ds => forW K (gName j) [j] tb G ds δ) : wpS K (tFor wi (gName j) tb) G δ := s_for h
theorem s_for2 {i j : Nat} (h : wpI K wi δ fun ds => forW K (gTup K 2 (gCons (gName i) (gCons (gName j) gNil))) [i, j] tb G ds δ) : wpS K (tFor wi (gTup K 2 (gCons (gName i) (gCons (gName j) gNil))) tb) G δ := s_for h
theorem n_lc1 {j : Nat} (h : wpI K wi δ fun ds => ds.length ≤ 1000000 ∧ lcW K (gName j) [j] tt te [j] δ kl ds []) : wpN K (tLc wi (gName j) tt te [j]) δ kl := n_lc (fun _ h => h) h
theorem n_lc2 {i j : Nat} (h : wpI K wi δ fun ds => ds.length ≤ 1000000 ∧ lcW K (gTup K 2 (gCons (gName i) (gCons (gName j) gNil))) [i, j] tt te [i, j] δ kl ds []) : wpN K (tLc wi (gTup K 2 (gCons (gName i) (gCons (gName j) gNil))) tt te [i, j]) δ kl := n_lc (fun _ h => h) h
end
section
variable {K : PySem.W.Frag} {δ : Ev} {G : DE} {t u : TS} {te : TE}
/-- a word between two statements -/
theorem s_cut {M : Ev → Prop} (h : wpS K t { nx := M, rt := G.rt, ro := G.ro, bk := G.bk, ct := G.ct } δ) (hk : ∀ δ', M δ' → wpS K u G δ') : wpS K (tSeq t u) G δ := s_seq (h.mono hk (fun _ _ h => h) (fun _ h => h) (fun _ h => h) (fun _ h => h))
theorem s_setLc {i : Nat} {p : Addr} {ds : List D} {n : Int} {m : Nat} (h : δ[i]? = some (.ol p ds)) (hm : ixN ds.length n = some m) (he : wpE K te δ fun d => G.nx (δ.set i (.ol p (ds.set m d)))) : wpS K (tAsg te (gSub (tVar i) (tC (.int n)) rSetL)) G δ := s_setL h (he.mono fun d hd => e_int ⟨n, m, rfl, hm, hd⟩)
end
end Ts
namespace Ts
open PySem PySem.Spec PyProof.Rows L2
section
variable {K : PySem.W.Frag} {δ : Ev} {k : D → Prop}
theorem ci_non_bool (h : k (.bl false)) : clD K (rIsi K) [(.non), .oth (.ty "bool")] k := c_isi (T := "NoneType") rfl (by decide +kernel) h
theorem ci_non_int (h : k (.bl false)) : clD K (rIsi K) [(.non), .oth (.ty "int")] k := c_isi (T := "NoneType") rfl (by decide +kernel) h
theorem ci_non_str (h : k (.bl false)) : clD K (rIsi K) [(.non), .oth (.ty "str")] k := c_isi (T := "NoneType") rfl (by decide +kernel) h
theorem ci_non_dict (h : k (.bl false)) : clD K (rIsi K) [(.non), .oth (.ty "dict")] k := c_isi (T := "NoneType") rfl (by decide +kernel) h
theorem ci_non_list (h : k (.bl false)) : clD K (rIsi K) [(.non), .oth (.ty "list")] k := c_isi (T := "NoneType") rfl (by decide +kernel) h
theorem ci_non_tuple (h : k (.bl false)) : clD K (rIsi K) [(.non), .oth (.ty "tuple")] k := c_isi (T := "NoneType") rfl (by decide +kernel) h
theorem ci_bl_bool {b : Bool} (h : k (.bl true)) : clD K (rIsi K) [(.bl b), .oth (.ty "bool")] k := c_isi (T := "bool") rfl (by decide +kernel) h
theorem ci_bl_int {b : Bool} (h : k (.bl true)) : clD K (rIsi K) [(.bl b), .oth (.ty "int")] k := c_isi (T := "bool") rfl (by decide +kernel) h
theorem ci_bl_str {b : Bool} (h : k (.bl false)) : clD K (rIsi K) [(.bl b), .oth (.ty "str")] k := c_isi (T := "bool") rfl (by decide +kernel) h
theorem ci_bl_dict {b : Bool} (h : k (.bl false)) : clD K (rIsi K) [(.bl b), .oth (.ty "dict")] k := c_isi (T := "bool") rfl (by decide +kernel) h
theorem ci_bl_list {b : Bool} (h : k (.bl false)) : clD K (rIsi K) [(.bl b), .oth (.ty "list")] k := c_isi (T := "bool") rfl (by decide +kernel) h
theorem ci_bl_tuple {b : Bool} (h : k (.bl false)) : clD K (rIsi K) [(.bl b), .oth (.ty "tuple")] k := c_isi (T := "bool") rfl (by decide +kernel) h
theorem ci_int_bool {i : Int} (h : k (.bl false)) : clD K (rIsi K) [(.int i), .oth (.ty "bool")] k := c_isi (T := "int") rfl (by decide +kernel) h
theorem ci_int_int {i : Int} (h : k (.bl true)) : clD K (rIsi K) [(.int i), .oth (.ty "int")] k := c_isi (T := "int") rfl (by decide +kernel) h
theorem ci_int_str {i : Int} (h : k (.bl false)) : clD K (rIsi K) [(.int i), .oth (.ty "str")] k := c_isi (T := "int") rfl (by decide +kernel) h
theorem ci_int_dict {i : Int} (h : k (.bl false)) : clD K (rIsi K) [(.int i), .oth (.ty "dict")] k := c_isi (T := "int") rfl (by decide +kernel) h
theorem ci_int_list {i : Int} (h : k (.bl false)) : clD K (rIsi K) [(.int i), .oth (.ty "list")] k := c_isi (T := "int") rfl (by decide +kernel) h
theorem ci_int_tuple {i : Int} (h : k (.bl false)) : clD K (rIsi K) [(.int i), .oth (.ty "tuple")] k := c_isi (T := "int") rfl (by decide +kernel) h
theorem ci_str_bool {z : Str} (h : k (.bl false)) : clD K (rIsi K) [(.str z), .oth (.ty "bool")] k := c_isi (T := "str") rfl (by decide +kernel) h
theorem ci_str_int {z : Str} (h : k (.bl false)) : clD K (rIsi K) [(.str z), .oth (.ty "int")] k := c_isi (T := "str") rfl (by decide +kernel) h
theorem ci_str_str {z : Str} (h : k (.bl true)) : clD K (rIsi K) [(.str z), .oth (.ty "str")] k := c_isi (T := "str") rfl (by decide +kernel) h
theorem ci_str_dict {z : Str} (h : k (.bl false)) : clD K (rIsi K) [(.str z), .oth (.ty "dict")] k := c_isi (T := "str") rfl (by decide +kernel) h
theorem ci_str_list {z : Str} (h : k (.bl false)) : clD K (rIsi K) [(.str z), .oth (.ty "list")] k := c_isi (T := "str") rfl (by decide +kernel) h
theorem ci_str_tuple {z : Str} (h : k (.bl false)) : clD K (rIsi K) [(.str z), .oth (.ty "tuple")] k := c_isi (T := "str") rfl (by decide +kernel) h
theorem ci_lst_bool {ds : List D} (h : k (.bl false)) : clD K (rIsi K) [(.lst ds), .oth (.ty "bool")] k := c_isi (T := "list") rfl (by decide +kernel) h
theorem ci_lst_int {ds : List D} (h : k (.bl false)) : clD K (rIsi K) [(.lst ds), .oth (.ty "int")] k := c_isi (T := "list") rfl (by decide +kernel) h
theorem ci_lst_str {ds : List D} (h : k (.bl false)) : clD K (rIsi K) [(.lst ds), .oth (.ty "str")] k := c_isi (T := "list") rfl (by decide +kernel) h
theorem ci_lst_dict {ds : List D} (h : k (.bl false)) : clD K (rIsi K) [(.lst ds), .oth (.ty "dict")] k := c_isi (T := "list") rfl (by decide +kernel) h
theorem ci_lst_list {ds : List D} (h : k (.bl true)) : clD K (rIsi K) [(.lst ds), .oth (.ty "list")] k := c_isi (T := "list") rfl (by decide +kernel) h
theorem ci_lst_tuple {ds : List D} (h : k (.bl false)) : clD K (rIsi K) [(.lst ds), .oth (.ty "tuple")] k := c_isi (T := "list") rfl (by decide +kernel) h
theorem ci_lat_bool {a : Addr} {ds : List D} (h : k (.bl false)) : clD K (rIsi K) [(.lat a ds), .oth (.ty "bool")] k := c_isi (T := "list") rfl (by decide +kernel) h
theorem ci_lat_int {a : Addr} {ds : List D} (h : k (.bl false)) : clD K (rIsi K) [(.lat a ds), .oth (.ty "int")] k := c_isi (T := "list") rfl (by decide +kernel) h
theorem ci_lat_str {a : Addr} {ds : List D} (h : k (.bl false)) : clD K (rIsi K) [(.lat a ds), .oth (.ty "str")] k := c_isi (T := "list") rfl (by decide +kernel) h
theorem ci_lat_dict {a : Addr} {ds : List D} (h : k (.bl false)) : clD K (rIsi K) [(.lat a ds), .oth (.ty "dict")] k := c_isi (T := "list") rfl (by decide +kernel) h
theorem ci_lat_list {a : Addr} {ds : List D} (h : k (.bl true)) : clD K (rIsi K) [(.lat a ds), .oth (.ty "list")] k := c_isi (T := "list") rfl (by decide +kernel) h
theorem ci_lat_tuple {a : Addr} {ds : List D} (h : k (.bl false)) : clD K (rIsi K) [(.lat a ds), .oth (.ty "tuple")] k := c_isi (T := "list") rfl (by decide +kernel) h
theorem ci_tup_bool {ds : List D} (h : k (.bl false)) : clD K (rIsi K) [(.tup ds), .oth (.ty "bool")] k := c_isi (T := "tuple") rfl (by decide +kernel) h
theorem ci_tup_int {ds : List D} (h : k (.bl false)) : clD K (rIsi K) [(.tup ds), .oth (.ty "int")] k := c_isi (T := "tuple") rfl (by decide +kernel) h
theorem ci_tup_str {ds : List D} (h : k (.bl false)) : clD K (rIsi K) [(.tup ds), .oth (.ty "str")] k := c_isi (T := "tuple") rfl (by decide +kernel) h
theorem ci_tup_dict {ds : List D} (h : k (.bl false)) : clD K (rIsi K) [(.tup ds), .oth (.ty "dict")] k := c_isi (T := "tuple") rfl (by decide +kernel) h
theorem ci_tup_list {ds : List D} (h : k (.bl false)) : clD K (rIsi K) [(.tup ds), .oth (.ty "list")] k := c_isi (T := "tuple") rfl (by decide +kernel) h
theorem ci_tup_tuple {ds : List D} (h : k (.bl true)) : clD K (rIsi K) [(.tup ds), .oth (.ty "tuple")] k := c_isi (T := "tuple") rfl (by decide +kernel) h
/-- isinstance(x, (int, str)) -/
def isiIS (x : D) (k : D → Prop) : Prop := ∃ T b1 b2, tyD x = some T ∧ kitB T "int" = some b1 ∧ kitB T "str" = some b2 ∧ k (.bl (b1 || b2))
theorem e_isIS {te : TE} (hx : wpE K te δ fun x => isiIS x k) : wpE K (tCB (rIsiT K) (tCons te (tCons (tTup (tCons (tC (.ty "int")) (tCons (tC (.ty "str")) tNil))) tNil))) δ k := e_isi2 hx
theorem is_non (h : k (.bl false)) : isiIS (.non) k := ⟨"NoneType", false, false, rfl, by decide +kernel, by decide +kernel, h⟩
theorem is_bl {b : Bool} (h : k (.bl true)) : isiIS (.bl b) k := ⟨"bool", true, false, rfl, by decide +kernel, by decide +kernel, h⟩
theorem is_int {i : Int} (h : k (.bl true)) : isiIS (.int i) k := ⟨"int", true, false, rfl, by decide +kernel, by decide +kernel, h⟩
theorem is_str {z : Str} (h : k (.bl true)) : isiIS (.str z) k := ⟨"str", false, true, rfl, by decide +kernel, by decide +kernel, h⟩
theorem is_lst {ds : List D} (h : k (.bl false)) : isiIS (.lst ds) k := ⟨"list", false, false, rfl, by decide +kernel, by decide +kernel, h⟩
theorem is_lat {a : Addr} {ds : List D} (h : k (.bl false)) : isiIS (.lat a ds) k := ⟨"list", false, false, rfl, by decide +kernel, by decide +kernel, h⟩
theorem is_tup {ds : List D} (h : k (.bl false)) : isiIS (.tup ds) k := ⟨"tuple", false, false, rfl, by decide +kernel, by decide +kernel, h⟩
end
end Ts
namespace Ts
open PySem PySem.Spec PyProof.Rows L2
local macro_rules | `(tactic| walk_at "ts_isi") => `(tactic| first
  | with_reducible refine ci_non_bool ?_
  | with_reducible refine ci_non_int ?_
  | with_reducible refine ci_non_str ?_
  | with_reducible refine ci_non_dict ?_
  | with_reducible refine ci_non_list ?_
  | with_reducible refine ci_non_tuple ?_
  | with_reducible refine ci_bl_bool ?_
  | with_reducible refine ci_bl_int ?_
  | with_reducible refine ci_bl_str ?_
  | with_reducible refine ci_bl_dict ?_
  | with_reducible refine ci_bl_list ?_
  | with_reducible refine ci_bl_tuple ?_
  | with_reducible refine ci_int_bool ?_
  | with_reducible refine ci_int_int ?_
  | with_reducible refine ci_int_str ?_
  | with_reducible refine ci_int_dict ?_
  | with_reducible refine ci_int_list ?_
  | with_reducible refine ci_int_tuple ?_
  | with_reducible refine ci_str_bool ?_
  | with_reducible refine ci_str_int ?_
  | with_reducible refine ci_str_str ?_
  | with_reducible refine ci_str_dict ?_
  | with_reducible refine ci_str_list ?_
  | with_reducible refine ci_str_tuple ?_
  | with_reducible refine ci_lst_bool ?_
  | with_reducible refine ci_lst_int ?_
  | with_reducible refine ci_lst_str ?_
  | with_reducible refine ci_lst_dict ?_
  | with_reducible refine ci_lst_list ?_
  | with_reducible refine ci_lst_tuple ?_
  | with_reducible refine ci_lat_bool ?_
  | with_reducible refine ci_lat_int ?_
  | with_reducible refine ci_lat_str ?_
  | with_reducible refine ci_lat_dict ?_
  | with_reducible refine ci_lat_list ?_
  | with_reducible refine ci_lat_tuple ?_
  | with_reducible refine ci_tup_bool ?_
  | with_reducible refine ci_tup_int ?_
  | with_reducible refine ci_tup_str ?_
  | with_reducible refine ci_tup_dict ?_
  | with_reducible refine ci_tup_list ?_
  | with_reducible refine ci_tup_tuple ?_
  | with_reducible refine is_non ?_
  | with_reducible refine is_bl ?_
  | with_reducible refine is_int ?_
  | with_reducible refine is_str ?_
  | with_reducible refine is_lst ?_
  | with_reducible refine is_lat ?_
  | with_reducible refine is_tup ?_)
local macro_rules | `(tactic| walk_at "ts_op") => `(tactic| first
  | with_reducible refine o_add_i ?_
  | with_reducible refine o_sub ?_
  | with_reducible refine o_lt_i ?_
  | with_reducible refine o_le_i ?_
  | with_reducible refine o_gt_i ?_
  | with_reducible refine o_ge_i ?_
  | with_reducible refine o_eq_i ?_
  | with_reducible refine o_eq_b ?_
  | with_reducible refine o_eq_s ?_
  | with_reducible refine o_ne_i ?_
  | with_reducible refine o_ne_s ?_
  | with_reducible refine o_ne_b ?_
  | with_reducible refine o_lt_s ?_
  | with_reducible refine o_is ?_
  | with_reducible refine o_isnot ?_
  | ((with_reducible show opD _ (rIx _) (D.tup _) (D.int _) _); refine o_ix2 rfl ?_)
  | ((with_reducible show opD _ (rIx _) (D.lst _) (D.int _) _); refine o_ix1 rfl rfl ?_)
  | ((with_reducible show unD _ (rU _) (D.int _) _); refine u_U ?_; show _)
  | ((with_reducible show clD _ (rLn _) [D.lst _] _); refine c_len_l rfl ?_)
  | ((with_reducible show clD _ (rLn _) [D.lat _ _] _); refine c_len_l rfl ?_)
  | with_reducible refine c_len_t ?_
  | with_reducible refine c_int_i ?_
  | with_reducible refine c_abs ?_)
local macro_rules | `(tactic| walk_at "te1") => `(tactic| first
  | with_reducible refine s_set ?_
  | ((with_reducible show wpS _ (tAsg _ (gSub (tVar _) (tC (V.int _)) rSetL)) _ _); refine s_setLc rfl rfl ?_)
  | with_reducible refine s_ret ?_
  | with_reducible refine s_next ?_
  | with_reducible refine e_int ?_
  | with_reducible refine e_str ?_
  | with_reducible refine e_bl ?_
  | with_reducible refine e_non ?_
  | with_reducible refine e_ty ?_
  | with_reducible refine e_c ?_
  | ((with_reducible show wpE _ (tVar _) _ _); refine e_var rfl ?_)
  | with_reducible refine a_nil ?_
  | with_reducible refine a_cons ?_
  | ((with_reducible show wpE _ (tOp (rIx _) (tVar _) (tC (V.int _))) _ _); refine e_ixO rfl (e_int ⟨_, _, rfl, rfl, ?_⟩))
  | with_reducible refine e_op ?_
  | with_reducible refine e_un ?_
  | with_reducible refine e_tup ?_
  | with_reducible refine e_lst ?_
  | with_reducible refine e_call ?_
  | with_reducible refine e_isIS ?_
  | with_reducible refine e_cb ?_
  | with_reducible refine e_andV ?_
  | with_reducible refine e_orV ?_
  | with_reducible refine e_notV ?_
  | with_reducible refine e_if ?_
  | with_reducible refine t_test ?_
  | with_reducible refine t_B ?_
  | with_reducible refine t_and ?_
  | with_reducible refine t_or ?_
  | with_reducible refine t_not ?_
  | with_reducible refine isB_ ?_
  | with_reducible refine iteT ?_
  | with_reducible refine iteF ?_
  | ((with_reducible show List.length _ ≤ 1000000 ∧ _); refine ⟨Nat.le_of_ble_eq_true rfl, ?_⟩)
  | ((with_reducible show List.length _ ≤ 1000 ∧ _); refine ⟨Nat.le_of_ble_eq_true rfl, ?_⟩)
  | ((with_reducible show wpS _ (tPar _ _ _) _ _); refine s_par ?_)
  | walk_at "ts_op"
  | walk_at "ts_isi"
  | ((with_reducible show if decide (_ = _) = true then _ else _); refine itEq ?_)
  | ((with_reducible show if (!decide (_ = _)) = true then _ else _); refine itNe ?_)
  | ((with_reducible show if noneB _ = true then _ else _); show if true = true then _ else _; refine iteT ?_)
  | ((with_reducible show if noneB _ = true then _ else _); show if false = true then _ else _; refine iteF ?_)
  | ((with_reducible show if (!_) = true then _ else _); show if true = true then _ else _; refine iteT ?_)
  | ((with_reducible show if (!_) = true then _ else _); show if false = true then _ else _; refine iteF ?_))
local macro_rules | `(tactic| walk_at "ts1") => `(tactic| first
  | with_reducible refine s_seq ?_
  | with_reducible refine s_if ?_
  | walk_at "te1")
local macro_rules | `(tactic| walk_at "te") => `(tactic| repeat walk_at "te1")
local macro_rules | `(tactic| walk_at "ts") => `(tactic| repeat walk_at "ts1")
/-! ### the law's common helpers, over data -/
/-! feed -/
abbrev sp__law_feed (K : PySem.W.Frag) : Sp := SpFeed K
/-- what a draw may be asked: 0 < many < 2 ^ 9000 -/
abbrev preDraw (m : Int) : Prop := 0 < m ∧ m.natAbs < 2 ^ 9000
abbrev sp__law_draw (K : PySem.W.Frag) : Sp := SpDrawT K preDraw
/- def _law_feed, slots 0 _law_script 1 _law_cells 2 _law_mark 3 _law_cell -/
def t__law_feed (K : PySem.W.Frag) : TS :=
  (tSeq (tAsg (tLc (iList K (tSl (rSlL K) (tVar 0) tNoPart (tPart (tC (.int 63))))) (gName 3) tYes (tCB (rcor rInt1 rIntS) (tCons (tVar 3) tNil)) [3]) (gName 1))
    (tSeq (tAsg (tOp (uAdd K) (tC (.int 3834)) (tOp uMul (tC (.int 53)) (tCB (rLn K) (tCons (tVar 1) tNil)))) (gName 2))
    (tSeq (tFor (iList K (tVar 1)) (gName 3) (tAsg (tOp uMod (tCB (rcor rInt1 rIntS) (tCons (tOp (uAdd K) (tOp uMul (tVar 2) (tC (.int 8117))) (tVar 3)) tNil)) (tC (.int 2147483629))) (gName 2)))
    (tRet (tLst (tCons (tVar 1) (tCons (tC (.int 0)) (tCons (tC (.int 0)) (tCons (tVar 2) tNil)))))))))
/- def _law_draw, slots 0 _law_feed_here 1 _law_many 2 _law_cell 3 _law_one 4 _law_two 5 _law_drawn -/
def t__law_draw (K : PySem.W.Frag) : TS :=
  (tSeq (tIfS (tTest (tOp uLt (tOp (rIx K) (tVar 0) (tC (.int 2))) (tC (.int 2)))) (tSeq (tAsg (tOp (uAdd K) (tOp (rIx K) (tVar 0) (tC (.int 1))) (tC (.int 1))) (gSub (tVar 0) (tC (.int 1)) rSetL))
    (tSeq (tAsg (tOp (uAdd K) (tOp (rIx K) (tVar 0) (tC (.int 3))) (tOp uMul (tOp (rIx K) (tVar 0) (tC (.int 1))) (tC (.int 7919)))) (gName 2))
    (tSeq (tIfS (tTest (tOp uLe (tOp (rIx K) (tVar 0) (tC (.int 1))) (tCB (rLn K) (tCons (tOp (rIx K) (tVar 0) (tC (.int 0))) tNil)))) (tAsg (tOp (rIx K) (tOp (rIx K) (tVar 0) (tC (.int 0))) (tOp uSub (tOp (rIx K) (tVar 0) (tC (.int 1))) (tC (.int 1)))) (gName 2)) tNext)
    (tSeq (tIfS (tOr (tTest (tOp uGt (tOp (rIx K) (tVar 0) (tC (.int 1))) (tCB (rLn K) (tCons (tOp (rIx K) (tVar 0) (tC (.int 0))) tNil)))) (tTest (tOp uLt (tVar 2) (tOp uPow (tC (.int 10)) (tC (.int 18)))))) (tSeq (tAsg (tOp uMod (tCB (rcor rInt1 rIntS) (tCons (tOp (uAdd K) (tOp (uAdd K) (tOp uMul (tVar 2) (tC (.int 48271))) (tOp uMul (tOp (rIx K) (tVar 0) (tC (.int 1))) (tC (.int 69621)))) (tOp (rIx K) (tVar 0) (tC (.int 3)))) tNil)) (tC (.int 2147483647))) (gName 3))
    (tSeq (tAsg (tOp uMod (tCB (rcor rInt1 rIntS) (tCons (tOp (uAdd K) (tOp uMul (tVar 3) (tVar 3)) (tOp uMul (tOp (rIx K) (tVar 0) (tC (.int 1))) (tC (.int 16807)))) tNil)) (tC (.int 998244353))) (gName 4))
    (tRet (tOp uMod (tOp uFdiv (tOp uMod (tCB (rcor rInt1 rIntS) (tCons (tOp (uAdd K) (tOp uMul (tVar 4) (tC (.int 40692))) (tVar 3)) tNil)) (tC (.int 2147483629))) (tC (.int 11))) (tVar 1))))) tNext)
    (tAsg (tVar 2) (gSub (tVar 0) (tC (.int 2)) rSetL)))))) tNext)
    (tSeq (tAsg (tOp uMod (tCB (rcor rInt1 rIntS) (tCons (tOp (rIx K) (tVar 0) (tC (.int 2))) tNil)) (tVar 1)) (gName 5))
    (tSeq (tAsg (tOp uFdiv (tCB (rcor rInt1 rIntS) (tCons (tOp (rIx K) (tVar 0) (tC (.int 2))) tNil)) (tVar 1)) (gSub (tVar 0) (tC (.int 2)) rSetL))
    (tRet (tVar 5)))))

theorem lc_ints {K : PySem.W.Frag} {δ : Ev} {kl : List D → Prop} {j : Nat} (hj : (wipeD δ [j])[j]? ≠ none) : ∀ (ns acc : List Int), kl ((acc ++ ns).map D.int) → lcW K (gName j) [j] tYes (tCB (rcor rInt1 rIntS) (tCons (tVar j) tNil)) [j] δ kl (ns.map D.int) (acc.map D.int)
  | [], acc, h => by rw [List.append_nil] at h; exact h
  | n :: ns, acc, h => by
    show tgJ K (gName j) [j] (D.int n) (wipeD δ [j]) _
    refine g_name (t_yes (iteT ?_))
    refine e_cb (a_cons (e_var (d := .int n) ?_ (a_nil (c_int_i ?_))))
    · rw [List.getElem?_set_self]
      cases e : (wipeD δ [j])[j]? with
      | none => exact absurd e hj
      | some s => exact (List.getElem?_eq_some_iff.mp e).1
    · have := lc_ints (K := K) hj ns (acc ++ [n]) (by simpa using h)
      rw [List.map_append] at this
      exact this
theorem w__law_feed {K : PySem.W.Frag} (a : Addr) (ns : List Int) (hl : ns.length ≤ 100) : wpS K (t__law_feed K) (endL (fun (_ : Addr × List Int) ds => ∃ (ms : List Int) (mk : Int), ds = [.lst (ms.map D.int), .int 0, .int 0, .int mk]) (a, ns)) (dstart 4 [.lat a (ns.map D.int)]) := by
  unfold t__law_feed
  have cut : ∃ ms : List Int, ms.length ≤ 100 ∧ cutD (ns.map D.int) none (some 63) = ms.map D.int := ⟨(ns.drop (HT.sIx ns.length 0 none)).take (HT.sIx ns.length ns.length (some 63) - HT.sIx ns.length 0 none), by rw [List.length_take, List.length_drop]; omega, by
    unfold cutD
    rw [List.length_map, List.map_take, List.map_drop]⟩
  obtain ⟨ms, hm, hc⟩ := cut
  refine s_seq (s_set (e_new (n_lc1 (i_list (e_new (n_slL ?_))))))
  refine e_var rfl (p_no (p_some (e_int ⟨63, rfl, ns.map D.int, rfl, ?_⟩)))
  rw [hc]
  refine ⟨ms.map D.int, rfl, by rw [List.length_map]; omega, ?_⟩
  refine lc_ints (fun z => by cases z) ms [] ?_
  show wpS K _ _ _
  walk_at "ts"
  refine o_mul (cmul_l (by decide) (by decide)) ?_
  walk_at "ts"
  refine s_for1 (i_list (e_var rfl ⟨ms.map D.int, rfl, ?_⟩))
  refine forW_inv (fun _ δ' => ∃ (x : Sl) (m : Int), δ' = [.v (.lat a (ns.map D.int)), .v (.lst (ms.map D.int)), .v (.int m), x]) ⟨_, _, rfl⟩ ?_ ?_
  · rintro i d δ' hd ⟨x, m, rfl⟩
    obtain ⟨n, _, rfl⟩ : ∃ n, ms[i]? = some n ∧ D.int n = d := by
      rw [List.getElem?_map] at hd
      cases e : ms[i]? with
      | none => rw [e] at hd; cases hd
      | some n => rw [e] at hd; exact ⟨n, rfl, Option.some.inj hd⟩
    refine g_name ?_
    walk_at "ts"
    refine o_mul (cmul_r (by decide) (by decide)) ?_
    walk_at "ts"
    refine o_mod (by decide) ?_
    exact ⟨_, _, rfl⟩
  · rintro δ' ⟨x, m, rfl⟩
    refine s_retO (n_lst ?_)
    walk_at "ts"
    exact ⟨ms, m, rfl⟩

theorem w__law_draw {K : PySem.W.Frag} (a cs : Addr) (m i j mk : Int) (ns : List Int) (hm : preDraw m) (hi : 0 ≤ i) : wpS K (t__law_draw K) (endDraw a cs m mk ns) (drawStart 6 a cs m i j mk ns) := by
  unfold t__law_draw
  obtain ⟨hm0, hm1⟩ := hm
  refine s_cut (M := fun δ' => ∃ (i j : Int) (x y z u : Sl), 0 ≤ i ∧ δ' = [.ol a [.lat cs (ns.map D.int), .int i, .int j, .int mk], .v (.int m), x, y, z, u]) ?_ ?_
  · walk_at "ts"
    refine itD (fun _ => ?_) (fun _ => s_next ⟨i, j, _, _, _, _, hi, rfl⟩)
    walk_at "ts"
    refine o_mul (cmul_r (by decide) (by decide)) ?_
    walk_at "te"
    -- the cell: some int
    refine s_cut (M := fun δ' => ∃ c : Int, δ' = [.ol a [.lat cs (ns.map D.int), .int (i + 1), .int j, .int mk], .v (.int m), .v (.int c), .no, .no, .no]) ?_ ?_
    · walk_at "ts"
      refine itD (fun h => ?_) (fun _ => s_next ⟨_, rfl⟩)
      have hl : (i + 1 - 1).toNat < ns.length := by rw [List.length_map] at h; omega
      walk_at "ts"
      refine o_ix1 (d := .int ns[(i + 1 - 1).toNat]) rfl ?_ ⟨_, rfl⟩
      refine atI_of (j := (i + 1 - 1).toNat) (by omega) ?_
      rw [List.getElem?_map, List.getElem?_eq_getElem hl]
      rfl
    · rintro _ ⟨c, rfl⟩
      refine s_cut (M := fun δ' => δ' = [.ol a [.lat cs (ns.map D.int), .int (i + 1), .int j, .int mk], .v (.int m), .v (.int c), .no, .no, .no]) (s_if (wpT.mono (k := fun _ => True) ?_ fun b _ => itB (fun _ => ?_) fun _ => s_next rfl)) ?_
      · walk_at "ts"
        refine itD (fun _ => trivial) (fun _ => ?_)
        walk_at "ts"
        refine o_pow ⟨by decide, by decide, by decide⟩ ?_
        walk_at "ts"
        trivial
      · walk_at "ts"
        refine o_mul (cmul_r (by decide) (by decide)) ?_
        walk_at "ts"
        refine o_mul (cmul_r (by decide) (by decide)) ?_
        walk_at "ts"
        refine o_mod (by decide) ?_
        have b1 := fmod_nn (a := c * 48271 + (i + 1) * 69621 + mk) (b := 2147483647) (by decide)
        generalize Int.fmod (c * 48271 + (i + 1) * 69621 + mk) 2147483647 = v1 at b1 ⊢
        walk_at "ts"
        refine o_mul (cmul_r (by omega) (by omega)) ?_
        walk_at "ts"
        refine o_mul (cmul_r (by decide) (by decide)) ?_
        walk_at "ts"
        refine o_mod (by decide) ?_
        walk_at "ts"
        refine o_mul (cmul_r (by decide) (by decide)) ?_
        walk_at "ts"
        refine o_mod (by decide) ?_
        walk_at "ts"
        refine o_fdiv (div_ok (by decide) (by decide +kernel)) ?_
        walk_at "ts"
        refine o_mod (by omega) ?_
        have := fmod_nn (a := Int.fdiv (Int.fmod (Int.fmod (v1 * v1 + (i + 1) * 16807) 998244353 * 40692 + v1) 2147483629) 11) hm0
        exact ⟨_, i + 1, j, rfl, this.1, this.2, by omega, rfl⟩
      · rintro _ rfl
        walk_at "ts"
        exact ⟨i + 1, c, _, _, _, _, by omega, rfl⟩
  · rintro _ ⟨i, j, x, y, z, u, hi, rfl⟩
    walk_at "ts"
    refine o_mod (by omega) ?_
    walk_at "ts"
    refine o_fdiv (div_ok (by omega) hm1) ?_
    walk_at "ts"
    have := fmod_nn (a := j) hm0
    exact ⟨_, i, _, rfl, this.1, this.2, hi, rfl⟩

/-! any -/
/-- an item of a row -/
abbrev sp__law_any (K : PySem.W.Frag) : Sp := SpT K (fun row : List D => [.feed, .lst row]) (fun row => 0 < row.length ∧ row.length ≤ 1000000) (fun row d => d ∈ row) id
/- def _law_any, slots 0 _law_feed_here 1 _law_row -/
def t__law_any (K : PySem.W.Frag) : TS :=
  (tRet (tOp (rIx K) (tVar 1) (tCall (sp__law_draw K) [] E0 (tCons (tVar 0) (tCons (tCB (rLn K) (tCons (tVar 1) tNil)) tNil)))))

theorem w__law_any {K : PySem.W.Frag} (row : List D) (h : 0 < row.length ∧ row.length ≤ 1000000) : wpS K (t__law_any K) (endT (fun (row : List D) d => d ∈ row) id row) (dstart 2 [.feed, .lst row]) := by
  unfold t__law_any
  walk_at "ts"
  refine ⟨row.length, rfl, ⟨by omega, ?_⟩, fun r hr => ?_⟩
  · have : row.length < 2 ^ 9000 := Nat.lt_of_le_of_lt h.2 (by decide +kernel)
    omega
  · have hl : r.toNat < row.length := by omega
    refine o_ix1 (d := row[r.toNat]) rfl (atI_of (j := r.toNat) (by omega) (List.getElem?_eq_getElem hl)) ?_
    exact ⟨_, List.getElem_mem hl, rfl⟩
/-! same: of equal data -/
/-- plain data of a depth -/
def okD : Nat → D → Prop
  | _, .non => True
  | _, .bl _ => True
  | _, .int _ => True
  | _, .str _ => True
  | n + 1, .lst ds => ds.length ≤ 1000000 ∧ ∀ d ∈ ds, okD n d
  | n + 1, .tup ds => ds.length ≤ 1000000 ∧ ∀ d ∈ ds, okD n d
  | _, _ => False
abbrev sp__law_same (K : PySem.W.Frag) (n : Nat) : Sp := SpT K (fun d : D => [d, d]) (okD n) (fun _ (b : Bool) => b = true) D.bl
/- def _law_same, slots 0 _law_found 1 _law_due 2 _law_key 3 _law_one 4 _law_two -/
def t__law_same (K : PySem.W.Frag) (spi : Sp) : TS :=
  (tSeq (tIfS (tTest (tOp rIs (tVar 1) (tC .non))) (tRet (tOp rIs (tVar 0) (tC .non))) tNext)
    (tSeq (tIfS (tOr (tB (tCB (rIsi K) (tCons (tVar 1) (tCons (tC (.ty "bool")) tNil)))) (tB (tCB (rIsi K) (tCons (tVar 0) (tCons (tC (.ty "bool")) tNil))))) (tRet (tAndV (tCB (rIsi K) (tCons (tVar 1) (tCons (tC (.ty "bool")) tNil))) (tAndV (tCB (rIsi K) (tCons (tVar 0) (tCons (tC (.ty "bool")) tNil))) (tOp (uEq K) (tVar 0) (tVar 1))))) tNext)
    (tSeq (tIfS (tB (tCB (rIsiT K) (tCons (tVar 1) (tCons (tTup (tCons (tC (.ty "int")) (tCons (tC (.ty "str")) tNil))) tNil)))) (tRet (tAndV (tCB (rIsiT K) (tCons (tVar 0) (tCons (tTup (tCons (tC (.ty "int")) (tCons (tC (.ty "str")) tNil))) tNil))) (tAndV (tOp (uEq K) (tCB (rIsi K) (tCons (tVar 0) (tCons (tC (.ty "int")) tNil))) (tCB (rIsi K) (tCons (tVar 1) (tCons (tC (.ty "int")) tNil)))) (tOp (uEq K) (tVar 0) (tVar 1))))) tNext)
    (tSeq (tIfS (tB (tCB (rIsi K) (tCons (tVar 1) (tCons (tC (.ty "dict")) tNil)))) tNever tNext)
    (tSeq (tIfS (tOr (tTest (tOp (uNe K) (tCB (rIsi K) (tCons (tVar 1) (tCons (tC (.ty "list")) tNil))) (tCB (rIsi K) (tCons (tVar 0) (tCons (tC (.ty "list")) tNil))))) (tTest (tOp (uNe K) (tCB (rIsi K) (tCons (tVar 1) (tCons (tC (.ty "tuple")) tNil))) (tCB (rIsi K) (tCons (tVar 0) (tCons (tC (.ty "tuple")) tNil)))))) (tRet (tC (.bl false))) tNext)
    (tRet (tAndV (tOp (uEq K) (tCB (rLn K) (tCons (tVar 0) tNil)) (tCB (rLn K) (tCons (tVar 1) tNil))) (tCB (rAll K) (tCons (tLc (RZ.iZipA K (tCons (tVar 0) (tCons (tVar 1) tNil))) (gTup K 2 (gCons (gName 3) (gCons (gName 4) gNil))) tYes (tCall spi [] E0 (tCons (tVar 3) (tCons (tVar 4) tNil))) [3, 4]) tNil)))))))))

theorem same_call {K : PySem.W.Frag} {n : Nat} {δ : Ev} {ta : TA} {k : D → Prop} (h : wpA K ta δ fun ds => ∃ d, ds = [d, d] ∧ okD n d ∧ k (.bl true)) : wpE K (tCall (sp__law_same K n) [] E0 ta) δ k :=
  e_call (fun σ F H l e Q q => h σ F H l e Q fun vs ds F' H' s r ⟨d, h1, h2, h3⟩ => q vs ds F' H' s r ⟨d, h1, h2, fun y hy => by rw [hy]; exact h3⟩)
theorem lc_same {K : PySem.W.Frag} {δ : Ev} {kl : List D → Prop} {sp : Sp} {n : Nat} (hsp : ∀ (δ : Ev) (ta : TA) (k : D → Prop), (wpA K ta δ fun ds => ∃ d, ds = [d, d] ∧ okD n d ∧ k (.bl true)) → wpE K (tCall sp [] E0 ta) δ k) (h3 : 3 < δ.length) (h4 : 4 < δ.length) :
    ∀ (ds : List D) (m : Nat), (∀ d ∈ ds, okD n d) → kl ((List.replicate (m + ds.length) true).map D.bl) → lcW K (gTup K 2 (gCons (gName 3) (gCons (gName 4) gNil))) [3, 4] tYes (tCall sp [] E0 (tCons (tVar 3) (tCons (tVar 4) tNil))) [3, 4] δ kl (zipD ds ds) ((List.replicate m true).map D.bl)
  | [], m, _, h => h
  | d :: ds, m, hd, h => by
    show tgJ K _ [3, 4] (D.tup [d, d]) (wipeD δ [3, 4]) _
    have hw : (wipeD δ [3, 4]).length = δ.length := by simp [wipeD]
    refine g_tup rfl (gl_cons (gl_cons (gl_nil (t_yes (iteT (hsp _ _ _ ?_))))))
    refine a_cons (e_var (d := d) ?_ (a_cons (e_var (d := d) ?_ (a_nil ⟨d, rfl, hd d List.mem_cons_self, ?_⟩))))
    · rw [List.getElem?_set_ne (by decide), List.getElem?_set_self (by rw [hw]; exact h3)]
    · rw [List.getElem?_set_self (by rw [List.length_set, hw]; exact h4)]
    · have := lc_same (K := K) (kl := kl) hsp h3 h4 ds (m + 1) (fun d h => hd d (List.mem_cons_of_mem _ h)) (by
        rw [show m + 1 + ds.length = m + (d :: ds).length by simp; omega]; exact h)
      rw [List.replicate_succ', List.map_append] at this
      exact this
theorem same_seq {K : PySem.W.Frag} {sp : Sp} {n : Nat} (hsp : ∀ (δ : Ev) (ta : TA) (k : D → Prop), (wpA K ta δ fun ds => ∃ d, ds = [d, d] ∧ okD n d ∧ k (.bl true)) → wpE K (tCall sp [] E0 ta) δ k) {x : D} {ds : List D} (hx : asL x = some ds ∨ x = .tup ds) (hl : ds.length ≤ 1000000) (hd : ∀ d ∈ ds, okD n d) (k : D → Prop) (hk : k (.bl true)) (a b c : Sl) :
    wpE K (tLc (RZ.iZipA K (tCons (tVar 0) (tCons (tVar 1) tNil))) (gTup K 2 (gCons (gName 3) (gCons (gName 4) gNil))) tYes (tCall sp [] E0 (tCons (tVar 3) (tCons (tVar 4) tNil))) [3, 4]) [.v x, .v x, a, b, c] fun x' => wpA K tNil [.v x, .v x, a, b, c] fun xs => clD K (rAll K) (x' :: xs) k := by
  refine e_new (n_lc2 (i_zip ?_))
  refine a_cons (e_var rfl (a_cons (e_var rfl (a_nil ⟨ds, ds, ?_, rfl, ?_⟩))))
  · rcases hx with hx | hx
    · exact .inl ⟨x, x, rfl, hx, hx⟩
    · subst hx; exact .inr rfl
  · refine ⟨by rw [zipD, List.length_zipWith]; omega, ?_⟩
    have := lc_same (K := K) (δ := [.v x, .v x, a, b, c]) (kl := fun ds => wpA K tNil [.v x, .v x, a, b, c] fun xs => clD K (rAll K) (D.lst ds :: xs) k) hsp (by show 3 < 5; decide) (by show 4 < 5; decide) ds 0 hd ?_
    · exact this
    · refine a_nil (c_all ?_)
      rw [show (List.replicate (0 + ds.length) true).all id = true by simp]
      exact hk
theorem w__law_same {K : PySem.W.Frag} {n : Nat} {sp : Sp} (hsp : ∀ (m : Nat), n = m + 1 → ∀ (δ : Ev) (ta : TA) (k : D → Prop), (wpA K ta δ fun ds => ∃ d, ds = [d, d] ∧ okD m d ∧ k (.bl true)) → wpE K (tCall sp [] E0 ta) δ k) (d : D) (h : okD n d) : wpS K (t__law_same K sp) (endT (fun (_ : D) (b : Bool) => b = true) D.bl d) (dstart 5 [d, d]) := by
  unfold t__law_same
  cases d with
  | non =>
    walk_at "ts"
    exact ⟨true, rfl, rfl⟩
  | bl b =>
    walk_at "ts"
    exact ⟨_, decide_eq_true rfl, rfl⟩
  | int i =>
    walk_at "ts"
    exact ⟨_, decide_eq_true rfl, rfl⟩
  | str i =>
    walk_at "ts"
    exact ⟨_, decide_eq_true rfl, rfl⟩
  | lst ds =>
    cases n with
    | zero => exact h.elim
    | succ n =>
      obtain ⟨h1, h2⟩ := h
      walk_at "ts"
      exact same_seq (n := n) (hsp n rfl) (.inl rfl) h1 h2 _ ⟨true, rfl, rfl⟩ _ _ _
  | tup ds =>
    cases n with
    | zero => exact h.elim
    | succ n =>
      obtain ⟨h1, h2⟩ := h
      walk_at "ts"
      exact same_seq (n := n) (hsp n rfl) (.inr rfl) h1 h2 _ ⟨true, rfl, rfl⟩ _ _ _
  | _ => cases n <;> exact h.elim

/-! ### fractions -/
abbrev frD (p : Int × Int) : D := .tup [.int p.1, .int p.2]
abbrev enc2 (p : Int × Int) : List D := [.int p.1, .int p.2]
abbrev enc2f (p : (Int × Int) × (Int × Int)) : List D := [frD p.1, frD p.2]
/-- small enough for every operator -/
def Sm (n : Nat) (p : Int × Int) : Prop := p.1.natAbs < 2 ^ n ∧ p.2.natAbs < 2 ^ n
theorem gcd_turn (x y : Nat) (hy : y ≠ 0) : Nat.gcd y (x % y) = Nat.gcd x y := by
  rw [Nat.gcd_comm x y, Nat.gcd_rec y x, Nat.gcd_comm]
theorem fmod_nat (x y : Nat) (hy : y ≠ 0) : Int.fmod (x : Int) (y : Int) = ((x % y : Nat) : Int) := by
  rw [Int.fmod_eq_emod_of_nonneg _ (Int.natCast_nonneg y)]
  rfl
abbrev sp__law_gcd (K : PySem.W.Frag) : Sp := SpT K enc2 (fun _ => True) (fun p (y : Int) => y = (Int.gcd p.1 p.2 : Int)) D.int
/- def _law_gcd, slots 0 _law_one 1 _law_two -/
def t__law_gcd (K : PySem.W.Frag) : TS :=
  (tSeq (tPar 0 1 (tCons (tCB rAbs (tCons (tVar 0) tNil)) (tCons (tCB rAbs (tCons (tVar 1) tNil)) tNil)))
    (tSeq (tWhile (tTest (tOp (uNe K) (tVar 1) (tC (.int 0)))) (tPar 0 1 (tCons (tVar 1) (tCons (tOp uMod (tCB (rcor rInt1 rIntS) (tCons (tVar 0) tNil)) (tVar 1)) tNil))))
    (tRet (tVar 0))))

theorem w__law_gcd {K : PySem.W.Frag} (p : Int × Int) : wpS K (t__law_gcd K) (endT (fun (p : Int × Int) (y : Int) => y = (Int.gcd p.1 p.2 : Int)) D.int p) (dstart 2 (enc2 p)) := by
  obtain ⟨a, b⟩ := p
  unfold t__law_gcd
  walk_at "ts"
  refine ⟨_, _, rfl, ?_⟩
  refine s_seq (s_while (fun m δ' => ∃ x y : Nat, m = y ∧ Nat.gcd x y = Int.gcd a b ∧ δ' = [.v (.int x), .v (.int y)]) ⟨_, a.natAbs, b.natAbs, rfl, rfl, rfl⟩ ?_)
  rintro m _ ⟨x, y, rfl, hg, rfl⟩
  walk_at "ts"
  refine itN (fun h => ?_) (fun h => ?_)
  · have hy : m ≠ 0 := by omega
    walk_at "ts"
    refine o_mod (by omega) (a_nil ⟨_, _, rfl, ?_⟩)
    rw [fmod_nat x m hy]
    exact ⟨x % m, Nat.mod_lt _ (by omega), m, x % m, rfl, by rw [gcd_turn x m hy]; exact hg, rfl⟩
  · have hy : m = 0 := by omega
    subst hy
    walk_at "ts"
    exact ⟨_, by show (x : Int) = ((Int.gcd a b : Nat) : Int); rw [← hg, Nat.gcd_zero_right], rfl⟩
abbrev preLow (p : Int × Int) : Prop := p.2 ≠ 0 ∧ p.2.natAbs < 2 ^ 9000
abbrev sp__law_low (K : PySem.W.Frag) : Sp := SpT K enc2 preLow (fun p y => y = Fr.low p.1 p.2) frD
/- def _law_low, slots 0 _law_upper 1 _law_lower 2 _law_part_here -/
def t__law_low (K : PySem.W.Frag) : TS :=
  (tSeq (tAsg (tCall (sp__law_gcd K) [] E0 (tCons (tVar 0) (tCons (tVar 1) tNil))) (gName 2))
    (tSeq (tIfS (tTest (tOp uLt (tVar 1) (tC (.int 0)))) (tAsg (tUn (rU fun i => .int (-i)) (tVar 2)) (gName 2)) tNext)
    (tRet (tTup (tCons (tOp uFdiv (tVar 0) (tVar 2)) (tCons (tOp uFdiv (tVar 1) (tVar 2)) tNil))))))

theorem gcd_lt {a b : Int} (h0 : b ≠ 0) (h : b.natAbs < 2 ^ 9000) : (Int.gcd a b : Int) ≠ 0 ∧ (Int.gcd a b : Int).natAbs < 2 ^ 9000 := by
  have h1 : 0 < Int.gcd a b := Int.gcd_pos_of_ne_zero_right a h0
  have h2 : Int.gcd a b ≤ b.natAbs := Nat.le_of_dvd (by omega) (Nat.gcd_dvd_right _ _)
  constructor
  · omega
  · rw [Int.natAbs_natCast]; omega
theorem low_reads {K : PySem.W.Frag} {a b : Int} (h0 : b ≠ 0) (h : b.natAbs < 2 ^ 9000) (x y : Sl) (k : D → Prop) (hk : k (frD (Fr.low a b))) :
    wpE K (tTup (tCons (tOp uFdiv (tVar 0) (tVar 2)) (tCons (tOp uFdiv (tVar 1) (tVar 2)) tNil))) [.v (.int a), .v (.int b), .v (.int (if b < 0 then -(Int.gcd a b : Int) else (Int.gcd a b : Int)))] k := by
  obtain ⟨g0, g1⟩ := gcd_lt (a := a) h0 h
  have ok : ∀ i, DivOk i (if b < 0 then -(Int.gcd a b : Int) else (Int.gcd a b : Int)) := fun i => by
    split
    · exact div_ok (by omega) (by rw [Int.natAbs_neg]; exact g1)
    · exact div_ok g0 g1
  walk_at "te"
  refine o_fdiv (ok _) ?_
  walk_at "te"
  refine o_fdiv (ok _) ?_
  walk_at "te"
  exact hk
theorem w__law_low {K : PySem.W.Frag} (p : Int × Int) (h : preLow p) : wpS K (t__law_low K) (endT (fun (p : Int × Int) y => y = Fr.low p.1 p.2) frD p) (dstart 3 (enc2 p)) := by
  obtain ⟨a, b⟩ := p
  obtain ⟨h0, h1⟩ := h
  unfold t__law_low
  walk_at "ts"
  refine ⟨(a, b), rfl, trivial, fun y hy => ?_⟩
  subst hy
  refine s_cut (M := fun δ' => δ' = [.v (.int a), .v (.int b), .v (.int (if b < 0 then -(Int.gcd a b : Int) else (Int.gcd a b : Int)))]) ?_ ?_
  · walk_at "ts"
    refine itD (fun hb => ?_) (fun hb => ?_)
    · walk_at "ts"
      show _ = _
      rw [if_pos hb]
      rfl
    · walk_at "ts"
      show _ = _
      rw [if_neg hb]
      rfl
  · rintro _ rfl
    refine s_ret (low_reads h0 h1 .no .no _ ⟨_, rfl, rfl⟩)
/-- one is less than the other -/
def Fr.lt (p q : Int × Int) : Bool := decide (p.1 * q.2 < q.1 * p.2)
/-- products of parts of fractions -/
abbrev preCmp (p : (Int × Int) × (Int × Int)) : Prop := Sm 60000000 p.1 ∧ Sm 60000000 p.2
abbrev sp__law_under (K : PySem.W.Frag) : Sp := SpT K enc2f preCmp (fun p (b : Bool) => b = Fr.lt p.1 p.2) D.bl
abbrev sp_is_less (K : PySem.W.Frag) : Sp := SpT K enc2f preCmp (fun p (b : Bool) => b = Fr.lt p.1 p.2) D.bl
/- def _law_under, slots 0 _law_one 1 _law_two -/
def t__law_under (K : PySem.W.Frag) : TS :=
  (tRet (tOp uLt (tOp uMul (tOp (rIx K) (tVar 0) (tC (.int 0))) (tOp (rIx K) (tVar 1) (tC (.int 1)))) (tOp uMul (tOp (rIx K) (tVar 1) (tC (.int 0))) (tOp (rIx K) (tVar 0) (tC (.int 1))))))
/- def is_less, slots 0 one 1 other -/
def t_is_less (K : PySem.W.Frag) : TS :=
  (tRet (tOp uLt (tOp uMul (tOp (rIx K) (tVar 0) (tC (.int 0))) (tOp (rIx K) (tVar 1) (tC (.int 1)))) (tOp uMul (tOp (rIx K) (tVar 1) (tC (.int 0))) (tOp (rIx K) (tVar 0) (tC (.int 1))))))

theorem cmul_s {i j : Int} (ha : i.natAbs < 2 ^ 60000000) (hb : j.natAbs < 2 ^ 60000000) : MulOk i j := cmul_x ha hb (by decide)
theorem w_is_less {K : PySem.W.Frag} (p : (Int × Int) × (Int × Int)) (h : preCmp p) : wpS K (t_is_less K) (endT (fun (p : (Int × Int) × (Int × Int)) (b : Bool) => b = Fr.lt p.1 p.2) D.bl p) (dstart 2 (enc2f p)) := by
  obtain ⟨⟨a, b⟩, ⟨c, d⟩⟩ := p
  obtain ⟨⟨h1, h2⟩, ⟨h3, h4⟩⟩ := h
  unfold t_is_less
  walk_at "ts"
  refine o_mul (cmul_s h1 h4) ?_
  walk_at "ts"
  refine o_mul (cmul_s h3 h2) ?_
  walk_at "ts"
  exact ⟨_, rfl, rfl⟩
theorem w__law_under {K : PySem.W.Frag} (p : (Int × Int) × (Int × Int)) (h : preCmp p) : wpS K (t__law_under K) (endT (fun (p : (Int × Int) × (Int × Int)) (b : Bool) => b = Fr.lt p.1 p.2) D.bl p) (dstart 2 (enc2f p)) := w_is_less p h
/-- a fraction drawn by the law's part: (size, ..) -/
abbrev sp__law_part (K : PySem.W.Frag) : Sp := SpT K (fun n : Int => [.feed, .int n]) (fun n => 0 ≤ n ∧ n < 1000000000) (fun n p => p.1.natAbs ≤ n.natAbs ∧ 0 < p.2 ∧ p.2 ≤ 4 ∧ Fr.Ok p) frD
/- def _law_part, slots 0 _law_feed_here 1 _law_size 2 _law_upper -/
def t__law_part (K : PySem.W.Frag) : TS :=
  (tSeq (tAsg (tOp uSub (tCall (sp__law_draw K) [] E0 (tCons (tVar 0) (tCons (tOp (uAdd K) (tOp uMul (tC (.int 2)) (tVar 1)) (tC (.int 1))) tNil))) (tVar 1)) (gName 2))
    (tRet (tCall (sp__law_low K) [] E0 (tCons (tVar 2) (tCons (tIf (tTest (tOp (uEq K) (tCall (sp__law_draw K) [] E0 (tCons (tVar 0) (tCons (tC (.int 2)) tNil))) (tC (.int 0)))) (tC (.int 1)) (tOp (uAdd K) (tC (.int 1)) (tCall (sp__law_draw K) [] E0 (tCons (tVar 0) (tCons (tC (.int 4)) tNil))))) tNil)))))

theorem pow_big {n : Nat} (h : n < 1000000000000) : n < 2 ^ 9000 := Nat.lt_trans h (by decide +kernel)
theorem w__law_part {K : PySem.W.Frag} (n : Int) (h : 0 ≤ n ∧ n < 1000000000) : wpS K (t__law_part K) (endT (fun (n : Int) p => p.1.natAbs ≤ n.natAbs ∧ 0 < p.2 ∧ p.2 ≤ 4 ∧ Fr.Ok p) frD n) (dstart 3 [.feed, .int n]) := by
  unfold t__law_part
  walk_at "ts"
  refine o_mul (cmul_l (by decide) (by decide)) ?_
  walk_at "ts"
  refine ⟨2 * n + 1, rfl, ⟨by omega, pow_big (by omega)⟩, fun r hr => ?_⟩
  walk_at "ts"
  refine ⟨2, rfl, ⟨by decide, pow_big (by decide)⟩, fun z hz => ?_⟩
  have fin : ∀ b : Int, 0 < b → b ≤ 4 → ∃ x : Int × Int, [D.int (r - n), .int b] = enc2 x ∧ preLow x ∧ ∀ y, y = Fr.low x.1 x.2 → ∃ y_1 : Int × Int, (y_1.1.natAbs ≤ n.natAbs ∧ 0 < y_1.2 ∧ y_1.2 ≤ 4 ∧ Fr.Ok y_1) ∧ frD y = frD y_1 := fun b h1 h2 => by
    refine ⟨(r - n, b), rfl, ⟨by show b ≠ 0; omega, pow_big (by show b.natAbs < _; omega)⟩, ?_⟩
    rintro _ rfl
    have hb : b ≠ 0 := by omega
    have e := Fr.low_abs (a := r - n) hb
    have o := Fr.low_ok (a := r - n) hb
    refine ⟨_, ⟨?_, o.1, ?_, o⟩, rfl⟩
    · show (Fr.low (r - n) b).1.natAbs ≤ _
      omega
    · show (Fr.low (r - n) b).2 ≤ 4
      have := o.1
      omega
  walk_at "ts"
  refine itD (fun _ => ?_) (fun _ => ?_)
  · walk_at "ts"
    exact fin 1 (by decide) (by decide)
  · walk_at "ts"
    refine ⟨4, rfl, ⟨by decide, pow_big (by decide)⟩, fun u hu => ?_⟩
    walk_at "ts"
    exact fin (1 + u) (by omega) (by omega)

/-! ### least and greatest -/
/-- a fraction or None -/
def ofr : Option (Int × Int) → D
  | none => .non
  | some p => frD p
theorem ofr_none (o : Option (Int × Int)) : noneB (ofr o) = o.isNone := by cases o <;> rfl
/-- one step towards the least one -/
def lesO (f v : Option (Int × Int)) : Option (Int × Int) := match v with
  | none => f
  | some q => match f with
    | none => some q
    | some p => if Fr.lt q p = true then some q else some p
def grtO (f v : Option (Int × Int)) : Option (Int × Int) := match v with
  | none => f
  | some q => match f with
    | none => some q
    | some p => if Fr.lt p q = true then some q else some p
def SmO (o : Option (Int × Int)) : Prop := ∀ p, o = some p → Sm 1000 p
theorem sm_mono {m n : Nat} (h : m ≤ n) {p : Int × Int} (hp : Sm m p) : Sm n p := ⟨Nat.lt_of_lt_of_le hp.1 (Nat.pow_le_pow_right (by decide) h), Nat.lt_of_lt_of_le hp.2 (Nat.pow_le_pow_right (by decide) h)⟩
theorem sm_cmp {p q : Int × Int} (hp : Sm 1000 p) (hq : Sm 1000 q) : preCmp (p, q) := ⟨sm_mono (by decide) hp, sm_mono (by decide) hq⟩
theorem lesO_sm {f v : Option (Int × Int)} (hf : SmO f) (hv : SmO v) : SmO (lesO f v) := by
  unfold lesO
  split
  · exact hf
  · split
    · exact hv
    · split
      · exact hv
      · exact hf
theorem grtO_sm {f v : Option (Int × Int)} (hf : SmO f) (hv : SmO v) : SmO (grtO f v) := by
  unfold grtO
  split
  · exact hf
  · split
    · exact hv
    · split
      · exact hv
      · exact hf
abbrev encO (l : List (Option (Int × Int))) : List D := l.map ofr
abbrev preO (l : List (Option (Int × Int))) : Prop := l.length ≤ 1000 ∧ ∀ o ∈ l, SmO o
abbrev sp_least (K : PySem.W.Frag) : Sp := SpT K encO preO (fun l y => y = l.foldl lesO none) ofr
abbrev sp_greatest (K : PySem.W.Frag) : Sp := SpT K encO preO (fun l y => y = l.foldl grtO none) ofr
/- def least, slots 0 values 1 found 2 value -/
def t_least (K : PySem.W.Frag) : TS :=
  (tSeq (tAsg (tC .non) (gName 1))
    (tSeq (tFor (iTup K (tVar 0)) (gName 2) (tIfS (tAnd (tTest (tOp rIsNot (tVar 2) (tC .non))) (tOr (tTest (tOp rIs (tVar 1) (tC .non))) (tB (tCall (sp_is_less K) [] E0 (tCons (tVar 2) (tCons (tVar 1) tNil)))))) (tAsg (tVar 2) (gName 1)) tNext))
    (tRet (tVar 1))))
/- def greatest, slots 0 values 1 found 2 value -/
def t_greatest (K : PySem.W.Frag) : TS :=
  (tSeq (tAsg (tC .non) (gName 1))
    (tSeq (tFor (iTup K (tVar 0)) (gName 2) (tIfS (tAnd (tTest (tOp rIsNot (tVar 2) (tC .non))) (tOr (tTest (tOp rIs (tVar 1) (tC .non))) (tB (tCall (sp_is_less K) [] E0 (tCons (tVar 1) (tCons (tVar 2) tNil)))))) (tAsg (tVar 2) (gName 1)) tNext))
    (tRet (tVar 1))))

theorem w_least {K : PySem.W.Frag} (l : List (Option (Int × Int))) (h : preO l) : wpS K (t_least K) (endT (fun (l : List (Option (Int × Int))) y => y = l.foldl lesO none) ofr l) (dstart 3 [.tup (encO l)]) := by
  unfold t_least
  walk_at "ts"
  refine s_for1 (i_tup (e_var rfl ⟨_, rfl, ?_⟩))
  have key : ∀ (r : List (Option (Int × Int))) (f : Option (Int × Int)) (x : Sl), (∀ o ∈ r, SmO o) → SmO f → r.foldl lesO f = l.foldl lesO none → forW K (gName 2) [2] (tIfS (tAnd (tTest (tOp rIsNot (tVar 2) (tC .non))) (tOr (tTest (tOp rIs (tVar 1) (tC .non))) (tB (tCall (sp_is_less K) [] E0 (tCons (tVar 2) (tCons (tVar 1) tNil)))))) (tAsg (tVar 2) (gName 1)) tNext)
      { nx := fun δ' => wpS K (tRet (tVar 1)) (endT (fun (l : List (Option (Int × Int))) y => y = l.foldl lesO none) ofr l) δ', rt := (endT (fun (l : List (Option (Int × Int))) y => y = l.foldl lesO none) ofr l).rt, ro := fun _ => False } (r.map ofr) [.v (.tup (encO l)), .v (ofr f), x] := by
    intro r
    induction r with
    | nil =>
      intro f x _ _ e
      show wpS K _ _ _
      walk_at "ts"
      exact ⟨_, e, rfl⟩
    | cons v r ih =>
      intro f x hr hf e
      show tgJ K (gName 2) [2] (ofr v) _ _
      refine g_name ?_
      have hv : SmO v := hr v List.mem_cons_self
      have ih' : ∀ f', f' = lesO f v → forW K (gName 2) [2] _ _ (r.map ofr) [.v (.tup (encO l)), .v (ofr f'), .v (ofr v)] := fun f' ef => ih f' (.v (ofr v)) (fun o ho => hr o (List.mem_cons_of_mem _ ho)) (by rw [ef]; exact lesO_sm hf hv) (by rw [ef]; exact e)
      cases v with
      | none =>
        walk_at "ts"
        exact ih' f rfl
      | some q =>
        cases f with
        | none =>
          walk_at "ts"
          exact ih' (some q) rfl
        | some p =>
          walk_at "ts"
          refine ⟨(q, p), rfl, sm_cmp (hv q rfl) (hf p rfl), fun b hb => ?_⟩
          subst hb
          walk_at "te"
          refine itB (fun hb => ?_) (fun hb => ?_)
          · walk_at "ts"
            exact ih' (some q) (by show some q = if Fr.lt q p = true then some q else some p; rw [if_pos hb])
          · walk_at "ts"
            exact ih' (some p) (by show some p = if Fr.lt q p = true then some q else some p; rw [if_neg (by rw [hb]; decide)])
  exact key l none .no h.2 (fun p z => nomatch z) rfl
theorem w_greatest {K : PySem.W.Frag} (l : List (Option (Int × Int))) (h : preO l) : wpS K (t_greatest K) (endT (fun (l : List (Option (Int × Int))) y => y = l.foldl grtO none) ofr l) (dstart 3 [.tup (encO l)]) := by
  unfold t_greatest
  walk_at "ts"
  refine s_for1 (i_tup (e_var rfl ⟨_, rfl, ?_⟩))
  have key : ∀ (r : List (Option (Int × Int))) (f : Option (Int × Int)) (x : Sl), (∀ o ∈ r, SmO o) → SmO f → r.foldl grtO f = l.foldl grtO none → forW K (gName 2) [2] (tIfS (tAnd (tTest (tOp rIsNot (tVar 2) (tC .non))) (tOr (tTest (tOp rIs (tVar 1) (tC .non))) (tB (tCall (sp_is_less K) [] E0 (tCons (tVar 1) (tCons (tVar 2) tNil)))))) (tAsg (tVar 2) (gName 1)) tNext)
      { nx := fun δ' => wpS K (tRet (tVar 1)) (endT (fun (l : List (Option (Int × Int))) y => y = l.foldl grtO none) ofr l) δ', rt := (endT (fun (l : List (Option (Int × Int))) y => y = l.foldl grtO none) ofr l).rt, ro := fun _ => False } (r.map ofr) [.v (.tup (encO l)), .v (ofr f), x] := by
    intro r
    induction r with
    | nil =>
      intro f x _ _ e
      show wpS K _ _ _
      walk_at "ts"
      exact ⟨_, e, rfl⟩
    | cons v r ih =>
      intro f x hr hf e
      show tgJ K (gName 2) [2] (ofr v) _ _
      refine g_name ?_
      have hv : SmO v := hr v List.mem_cons_self
      have ih' : ∀ f', f' = grtO f v → forW K (gName 2) [2] _ _ (r.map ofr) [.v (.tup (encO l)), .v (ofr f'), .v (ofr v)] := fun f' ef => ih f' (.v (ofr v)) (fun o ho => hr o (List.mem_cons_of_mem _ ho)) (by rw [ef]; exact grtO_sm hf hv) (by rw [ef]; exact e)
      cases v with
      | none =>
        walk_at "ts"
        exact ih' f rfl
      | some q =>
        cases f with
        | none =>
          walk_at "ts"
          exact ih' (some q) rfl
        | some p =>
          walk_at "ts"
          refine ⟨(p, q), rfl, sm_cmp (hf p rfl) (hv q rfl), fun b hb => ?_⟩
          subst hb
          walk_at "te"
          refine itB (fun hb => ?_) (fun hb => ?_)
          · walk_at "ts"
            exact ih' (some q) (by show some q = if Fr.lt p q = true then some q else some p; rw [if_pos hb])
          · walk_at "ts"
            exact ih' (some p) (by show some p = if Fr.lt p q = true then some q else some p; rw [if_neg (by rw [hb]; decide)])
  exact key l none .no h.2 (fun p z => nomatch z) rfl

/-! ### k03 -/
abbrev preP (p : (Int × Int) × (Int × Int)) : Prop := Sm 1000 p.1 ∧ Sm 1000 p.2
abbrev sp__law_lesser (K : PySem.W.Frag) : Sp := SpT K enc2f preP (fun p y => y = if Fr.lt p.2 p.1 = true then p.2 else p.1) frD
abbrev sp__law_bigger (K : PySem.W.Frag) : Sp := SpT K enc2f preP (fun p y => y = if Fr.lt p.1 p.2 = true then p.2 else p.1) frD
/- def _law_lesser, slots 0 _law_one 1 _law_two -/
def t__law_lesser (K : PySem.W.Frag) : TS :=
  (tRet (tIf (tB (tCall (sp__law_under K) [] E0 (tCons (tVar 1) (tCons (tVar 0) tNil)))) (tVar 1) (tVar 0)))
/- def _law_bigger, slots 0 _law_one 1 _law_two -/
def t__law_bigger (K : PySem.W.Frag) : TS :=
  (tRet (tIf (tB (tCall (sp__law_under K) [] E0 (tCons (tVar 0) (tCons (tVar 1) tNil)))) (tVar 1) (tVar 0)))

theorem w__law_lesser {K : PySem.W.Frag} (p : (Int × Int) × (Int × Int)) (h : preP p) : wpS K (t__law_lesser K) (endT (fun (p : (Int × Int) × (Int × Int)) y => y = if Fr.lt p.2 p.1 = true then p.2 else p.1) frD p) (dstart 2 (enc2f p)) := by
  obtain ⟨p, q⟩ := p
  unfold t__law_lesser
  walk_at "ts"
  refine ⟨(q, p), rfl, sm_cmp h.2 h.1, fun b hb => ?_⟩
  subst hb
  walk_at "te"
  refine itB (fun hb => ?_) (fun hb => ?_)
  · walk_at "te"
    exact ⟨q, by show q = if Fr.lt q p = true then q else p; rw [if_pos hb], rfl⟩
  · walk_at "te"
    exact ⟨p, by show p = if Fr.lt q p = true then q else p; rw [if_neg (by rw [hb]; decide)], rfl⟩
theorem w__law_bigger {K : PySem.W.Frag} (p : (Int × Int) × (Int × Int)) (h : preP p) : wpS K (t__law_bigger K) (endT (fun (p : (Int × Int) × (Int × Int)) y => y = if Fr.lt p.1 p.2 = true then p.2 else p.1) frD p) (dstart 2 (enc2f p)) := by
  obtain ⟨p, q⟩ := p
  unfold t__law_bigger
  walk_at "ts"
  refine ⟨(p, q), rfl, sm_cmp h.1 h.2, fun b hb => ?_⟩
  subst hb
  walk_at "te"
  refine itB (fun hb => ?_) (fun hb => ?_)
  · walk_at "te"
    exact ⟨q, by show q = if Fr.lt p q = true then q else p; rw [if_pos hb], rfl⟩
  · walk_at "te"
    exact ⟨p, by show p = if Fr.lt p q = true then q else p; rw [if_neg (by rw [hb]; decide)], rfl⟩
def bstO (b : Bool) : Option (Int × Int) → Option (Int × Int) → Option (Int × Int) := if b = true then grtO else lesO
theorem bstO_sm {b : Bool} {f v : Option (Int × Int)} (hf : SmO f) (hv : SmO v) : SmO (bstO b f v) := by
  cases b
  · exact lesO_sm hf hv
  · exact grtO_sm hf hv
abbrev sp__law_best (K : PySem.W.Frag) : Sp := SpT K (fun z : List (Option (Int × Int)) × Bool => [.lst (encO z.1), .bl z.2]) (fun z => preO z.1) (fun z y => y = z.1.foldl (bstO z.2) none) ofr
/- def _law_best, slots 0 _law_values 1 _law_is_top 2 _law_found 3 _law_value -/
def t__law_best (K : PySem.W.Frag) : TS :=
  (tSeq (tAsg (tC .non) (gName 2))
    (tSeq (tFor (iList K (tVar 0)) (gName 3) (tIfS (tTest (tOp rIsNot (tVar 3) (tC .non))) (tIfS (tTest (tOp rIs (tVar 2) (tC .non))) (tAsg (tVar 3) (gName 2)) (tAsg (tIf (tB (tVar 1)) (tCall (sp__law_bigger K) [] E0 (tCons (tVar 2) (tCons (tVar 3) tNil))) (tCall (sp__law_lesser K) [] E0 (tCons (tVar 2) (tCons (tVar 3) tNil)))) (gName 2))) tNext))
    (tRet (tVar 2))))

theorem w__law_best {K : PySem.W.Frag} (z : List (Option (Int × Int)) × Bool) (h : preO z.1) : wpS K (t__law_best K) (endT (fun (z : List (Option (Int × Int)) × Bool) y => y = z.1.foldl (bstO z.2) none) ofr z) (dstart 4 [.lst (encO z.1), .bl z.2]) := by
  obtain ⟨l, b⟩ := z
  unfold t__law_best
  walk_at "ts"
  refine s_for1 (i_list (e_var rfl ⟨_, rfl, ?_⟩))
  have key : ∀ (r : List (Option (Int × Int))) (f : Option (Int × Int)) (x : Sl), (∀ o ∈ r, SmO o) → SmO f → r.foldl (bstO b) f = l.foldl (bstO b) none → forW K (gName 3) [3] (tIfS (tTest (tOp rIsNot (tVar 3) (tC .non))) (tIfS (tTest (tOp rIs (tVar 2) (tC .non))) (tAsg (tVar 3) (gName 2)) (tAsg (tIf (tB (tVar 1)) (tCall (sp__law_bigger K) [] E0 (tCons (tVar 2) (tCons (tVar 3) tNil))) (tCall (sp__law_lesser K) [] E0 (tCons (tVar 2) (tCons (tVar 3) tNil)))) (gName 2))) tNext)
      { nx := fun δ' => wpS K (tRet (tVar 2)) (endT (fun (z : List (Option (Int × Int)) × Bool) y => y = z.1.foldl (bstO z.2) none) ofr (l, b)) δ', rt := (endT (fun (z : List (Option (Int × Int)) × Bool) y => y = z.1.foldl (bstO z.2) none) ofr (l, b)).rt, ro := fun _ => False } (r.map ofr) [.v (.lst (encO l)), .v (.bl b), .v (ofr f), x] := by
    intro r
    induction r with
    | nil =>
      intro f x _ _ e
      show wpS K _ _ _
      walk_at "ts"
      exact ⟨_, e, rfl⟩
    | cons v r ih =>
      intro f x hr hf e
      show tgJ K (gName 3) [3] (ofr v) _ _
      refine g_name ?_
      have hv : SmO v := hr v List.mem_cons_self
      have ih' : ∀ f', f' = bstO b f v → forW K (gName 3) [3] _ _ (r.map ofr) [.v (.lst (encO l)), .v (.bl b), .v (ofr f'), .v (ofr v)] := fun f' ef => ih f' (.v (ofr v)) (fun o ho => hr o (List.mem_cons_of_mem _ ho)) (by rw [ef]; exact bstO_sm hf hv) (by rw [ef]; exact e)
      cases v with
      | none =>
        walk_at "ts"
        exact ih' f (by cases b <;> rfl)
      | some q =>
        cases f with
        | none =>
          walk_at "ts"
          exact ih' (some q) (by cases b <;> rfl)
        | some p =>
          cases b with
          | true =>
            walk_at "ts"
            refine ⟨(p, q), rfl, ⟨hf p rfl, hv q rfl⟩, ?_⟩
            rintro _ rfl
            exact ih' (some (if Fr.lt p q = true then q else p)) (by show _ = (if Fr.lt p q = true then some q else some p); split <;> rfl)
          | false =>
            walk_at "ts"
            refine ⟨(p, q), rfl, ⟨hf p rfl, hv q rfl⟩, ?_⟩
            rintro _ rfl
            exact ih' (some (if Fr.lt q p = true then q else p)) (by show _ = (if Fr.lt q p = true then some q else some p); split <;> rfl)
  exact key l none .no h.2 (fun p z => nomatch z) rfl
/-- items of a comprehension over a range, each with P -/
theorem lc_P {K : PySem.W.Frag} {δ : Ev} {kl : List D → Prop} {j : Nat} {te : TE} (P : D → Prop) (he : ∀ d, wpE K te ((wipeD δ [j]).set j (.v d)) P) : ∀ (ds acc : List D), (∀ d ∈ acc, P d) → (∀ es : List D, es.length = acc.length + ds.length → (∀ d ∈ es, P d) → kl es) → lcW K (gName j) [j] tYes te [j] δ kl ds acc
  | [], acc, ha, h => h acc rfl ha
  | d :: ds, acc, ha, h => by
    show tgJ K (gName j) [j] d (wipeD δ [j]) _
    refine g_name (t_yes (iteT ((he d).mono fun e pe => ?_)))
    refine lc_P P he ds (acc ++ [e]) (fun x hx => ?_) fun es hl => h es ?_
    · rcases List.mem_append.mp hx with z | z
      · exact ha x z
      · rw [List.mem_singleton.mp z]; exact pe
    · rw [hl, List.length_append, List.length_singleton, List.length_cons]; omega
theorem ofr_list : ∀ {es : List D}, (∀ d ∈ es, ∃ o, d = ofr o ∧ SmO o) → ∃ l : List (Option (Int × Int)), es = l.map ofr ∧ ∀ o ∈ l, SmO o
  | [], _ => ⟨[], rfl, fun o h => nomatch h⟩
  | d :: es, h => by
    obtain ⟨o, e1, e2⟩ := h d List.mem_cons_self
    obtain ⟨l, e3, e4⟩ := ofr_list (es := es) fun d hd => h d (List.mem_cons_of_mem _ hd)
    refine ⟨o :: l, by rw [e1, e3]; rfl, fun x hx => ?_⟩
    rcases List.mem_cons.mp hx with z | z
    · rw [z]; exact e2
    · exact e4 x z
theorem ok_ofr (o : Option (Int × Int)) (n : Nat) : okD (n + 1) (ofr o) := by
  cases o with
  | none => trivial
  | some p =>
    refine ⟨by show 2 ≤ 1000000; decide, fun d hd => ?_⟩
    rcases List.mem_cons.mp hd with z | z
    · rw [z]; cases n <;> trivial
    · rw [List.mem_singleton.mp z]; cases n <;> trivial
theorem ok_ofrs {l : List (Option (Int × Int))} (hl : l.length ≤ 1000000) (n : Nat) : okD (n + 2) (.lst (l.map ofr)) := ⟨by rw [List.length_map]; exact hl, fun d hd => by
  obtain ⟨o, _, rfl⟩ := List.mem_map.mp hd
  exact ok_ofr o n⟩
theorem les1 (v : Option (Int × Int)) : lesO none v = v := by cases v <;> rfl
theorem grt1 (v : Option (Int × Int)) : grtO none v = v := by cases v <;> rfl
/- def law, slots 0 _law_script 1 _law_feed_here 2 _law_turn 3 _law_some 4 _law_a 5 _law_b 6 _law_c 7 _law_d 8 _law_told 9 _law_due 10 _law_k -/
def t_law (K : PySem.W.Frag) : TS :=
  (tSeq (tAsg (tCall (sp__law_feed K) [] E0 (tCons (tVar 0) tNil)) (gName 1))
    (tSeq (tFor (iRng1 (tCons (tC (.int 6)) tNil)) (gName 2) (tSeq (tAsg (tLc (iRng1 (tCons (tC (.int 4)) tNil)) (gName 10) tYes (tIf (tTest (tOp (uEq K) (tCall (sp__law_draw K) [] E0 (tCons (tVar 1) (tCons (tC (.int 4)) tNil))) (tC (.int 0)))) (tC .non) (tCall (sp__law_part K) [] E0 (tCons (tVar 1) (tCons (tCall (sp__law_any K) [] E0 (tCons (tVar 1) (tCons (tLst (tCons (tC (.int 3)) (tCons (tC (.int 40)) tNil))) tNil))) tNil)))) [10]) (gName 3))
    (tSeq (tAsg (tIf (tTest (tOp (uEq K) (tCall (sp__law_draw K) [] E0 (tCons (tVar 1) (tCons (tC (.int 3)) tNil))) (tC (.int 0)))) (tOp (rIx K) (tVar 3) (tC (.int 0))) (tOp (rIx K) (tVar 3) (tC (.int 3)))) (gSub (tVar 3) (tC (.int 3)) rSetL))
    (tSeq (tAsg (tVar 3) (gUnl K 4 (gCons (gName 4) (gCons (gName 5) (gCons (gName 6) (gCons (gName 7) gNil))))))
    (tSeq (tAsg (tLst (tCons (tCall (sp_least K) [] E0 (tCons (tVar 4) (tCons (tVar 5) (tCons (tVar 6) (tCons (tVar 7) tNil))))) (tCons (tCall (sp_greatest K) [] E0 (tCons (tVar 4) (tCons (tVar 5) (tCons (tVar 6) (tCons (tVar 7) tNil))))) (tCons (tCall (sp_least K) [] E0 (tCons (tVar 4) (tCons (tVar 5) (tCons (tVar 6) tNil)))) (tCons (tCall (sp_greatest K) [] E0 (tCons (tVar 5) (tCons (tVar 6) (tCons (tVar 7) tNil)))) (tCons (tCall (sp_least K) [] E0 (tCons (tVar 4) (tCons (tVar 5) tNil))) (tCons (tCall (sp_greatest K) [] E0 (tCons (tVar 4) (tCons (tVar 5) tNil))) tNil))))))) (gName 8))
    (tSeq (tAsg (tLst (tCons (tCall (sp__law_best K) [] E0 (tCons (tVar 3) (tCons (tC (.bl false)) tNil))) (tCons (tCall (sp__law_best K) [] E0 (tCons (tVar 3) (tCons (tC (.bl true)) tNil))) (tCons (tCall (sp__law_best K) [] E0 (tCons (tSl (rSlL K) (tVar 3) tNoPart (tPart (tC (.int 3)))) (tCons (tC (.bl false)) tNil))) (tCons (tCall (sp__law_best K) [] E0 (tCons (tSl (rSlL K) (tVar 3) (tPart (tC (.int 1))) tNoPart) (tCons (tC (.bl true)) tNil))) tNil))))) (gName 9))
    (tSeq (tAsg (tOp (uAdd K) (tVar 9) (tLst (tCons (tCall (sp__law_best K) [] E0 (tCons (tSl (rSlL K) (tVar 3) tNoPart (tPart (tC (.int 2)))) (tCons (tC (.bl false)) tNil))) (tCons (tCall (sp__law_best K) [] E0 (tCons (tSl (rSlL K) (tVar 3) tNoPart (tPart (tC (.int 2)))) (tCons (tC (.bl true)) tNil))) tNil)))) (gName 9))
    (tIfS (tOr (tNot (tB (tCall (sp__law_same K 8) [] E0 (tCons (tVar 8) (tCons (tVar 9) tNil))))) (tNot (tB (tCall (sp__law_same K 8) [] E0 (tCons (tLst (tCons (tCall (sp_least K) [] E0 (tCons (tVar 7) tNil)) (tCons (tCall (sp_greatest K) [] E0 (tCons (tVar 6) tNil)) tNil))) (tCons (tLst (tCons (tVar 7) (tCons (tVar 6) tNil))) tNil)))))) (tRet (tC (.bl false))) tNext))))))))
    (tRet (tCall (sp__law_same K 8) [] E0 (tCons (tLst (tCons (tCall (sp_least K) [] E0 tNil) (tCons (tCall (sp_greatest K) [] E0 tNil) (tCons (tCall (sp_least K) [] E0 (tCons (tC .non) tNil)) (tCons (tCall (sp_greatest K) [] E0 (tCons (tC .non) (tCons (tC .non) tNil))) tNil))))) (tCons (tOp uMul (tLst (tCons (tC .non) tNil)) (tC (.int 4))) tNil))))))

theorem w_law {K : PySem.W.Frag} (a : Addr) (ns : List Int) (hl : ns.length ≤ 63) : wpS K (t_law K) { nx := fun _ => False, rt := fun d _ => d = .bl true } (dstart 11 [.lat a (ns.map D.int)]) := by
  unfold t_law
  walk_at "ts"
  refine ⟨(a, ns), rfl, by show ns.length ≤ 100; omega, fun _ _ => ?_⟩
  refine s_seq (s_for1 (i_rng1 (a_cons (e_int (a_nil ⟨6, rfl, ⟨by decide, by decide⟩, ?_⟩)))))
  refine forW_inv (fun _ δ' => ∃ s2 s3 s4 s5 s6 s7 s8 s9 s10 : Sl, δ' = [.v (.lat a (ns.map D.int)), .v .feed, s2, s3, s4, s5, s6, s7, s8, s9, s10]) ⟨_, _, _, _, _, _, _, _, _, rfl⟩ ?_ ?_
  · rintro i d _ _ ⟨s2, s3, s4, s5, s6, s7, s8, s9, s10, rfl⟩
    refine g_name ?_
    refine s_seq (s_own (n_lc1 (i_rng1 (a_cons (e_int (a_nil ⟨4, rfl, ⟨by decide, by decide⟩, by rw [rngD_len]; decide, ?_⟩))))))
    refine lc_P (fun d => ∃ o, d = ofr o ∧ SmO o) (fun d => ?_) _ [] (fun d hd => nomatch hd) fun es he hP => ?_
    · walk_at "te"
      refine ⟨4, rfl, ⟨by decide, pow_big (by decide)⟩, fun r _ => ?_⟩
      walk_at "te"
      refine itD (fun _ => ?_) (fun _ => ?_)
      · walk_at "te"
        exact ⟨none, rfl, fun p z => nomatch z⟩
      · walk_at "te"
        refine ⟨[.int 3, .int 40], rfl, ⟨by decide, by decide⟩, fun x hx => ?_⟩
        obtain ⟨n, rfl, hn⟩ : ∃ n : Int, x = .int n ∧ (n = 3 ∨ n = 40) := by
          rcases List.mem_cons.mp hx with z | z
          · exact ⟨3, z, .inl rfl⟩
          · exact ⟨40, List.mem_singleton.mp z, .inr rfl⟩
        walk_at "te"
        refine ⟨n, rfl, by omega, ?_⟩
        rintro p ⟨h1, h2, h3, _⟩
        refine ⟨some p, rfl, fun q hq => ?_⟩
        cases hq
        have b1 : p.1.natAbs < 2 ^ 10 := by
          have : p.1.natAbs ≤ 40 := by omega
          omega
        have b2 : p.2.natAbs < 2 ^ 10 := by omega
        exact sm_mono (m := 10) (by decide) ⟨b1, b2⟩
    · intro pp
      obtain ⟨l, rfl, hS⟩ := ofr_list hP
      have h4 : l.length = 4 := by
        rw [List.length_map] at he
        rw [he, rngD_len]
        rfl
      match l, h4 with
      | [o1, o2, o3, o4], _ =>
      have S1 := hS o1 (by simp)
      have S2 := hS o2 (by simp)
      have S3 := hS o3 (by simp)
      have S4 := hS o4 (by simp)
      refine s_cut (M := fun δ' => ∃ o4, SmO o4 ∧ δ' = [.v (.lat a (ns.map D.int)), .v .feed, .v d, .ol pp [ofr o1, ofr o2, ofr o3, ofr o4], s4, s5, s6, s7, s8, s9, s10]) ?_ ?_
      · walk_at "ts"
        refine ⟨3, rfl, ⟨by decide, pow_big (by decide)⟩, fun r _ => ?_⟩
        walk_at "te"
        refine itD (fun _ => ?_) (fun _ => ?_)
        · walk_at "te"
          exact ⟨o1, S1, rfl⟩
        · walk_at "te"
          exact ⟨o4, S4, rfl⟩
      · clear S4 hS he hP
        rintro _ ⟨o4, S4, rfl⟩
        refine s_frz (i := 3) rfl ?_
        refine s_seq (s_asg (e_var rfl (g_unl rfl rfl (gl_cons (gl_cons (gl_cons (gl_cons (gl_nil ?_))))))))
        walk_at "ts"
        refine ⟨[o1, o2, o3, o4], rfl, ⟨Nat.le_of_ble_eq_true rfl, by simp; exact ⟨S1, S2, S3, S4⟩⟩, ?_⟩
        rintro _ rfl
        walk_at "ts"
        refine ⟨[o1, o2, o3, o4], rfl, ⟨Nat.le_of_ble_eq_true rfl, by simp; exact ⟨S1, S2, S3, S4⟩⟩, ?_⟩
        rintro _ rfl
        walk_at "ts"
        refine ⟨[o1, o2, o3], rfl, ⟨Nat.le_of_ble_eq_true rfl, by simp; exact ⟨S1, S2, S3⟩⟩, ?_⟩
        rintro _ rfl
        walk_at "ts"
        refine ⟨[o2, o3, o4], rfl, ⟨Nat.le_of_ble_eq_true rfl, by simp; exact ⟨S2, S3, S4⟩⟩, ?_⟩
        rintro _ rfl
        walk_at "ts"
        refine ⟨[o1, o2], rfl, ⟨Nat.le_of_ble_eq_true rfl, by simp; exact ⟨S1, S2⟩⟩, ?_⟩
        rintro _ rfl
        walk_at "ts"
        refine ⟨[o1, o2], rfl, ⟨Nat.le_of_ble_eq_true rfl, by simp; exact ⟨S1, S2⟩⟩, ?_⟩
        rintro _ rfl
        walk_at "ts"
        refine ⟨([o1, o2, o3, o4], false), rfl, ⟨Nat.le_of_ble_eq_true rfl, by simp; exact ⟨S1, S2, S3, S4⟩⟩, ?_⟩
        rintro _ rfl
        walk_at "ts"
        refine ⟨([o1, o2, o3, o4], true), rfl, ⟨Nat.le_of_ble_eq_true rfl, by simp; exact ⟨S1, S2, S3, S4⟩⟩, ?_⟩
        rintro _ rfl
        refine a_cons (e_call (a_cons (e_new (n_slL (e_var rfl (p_no (p_some (e_int ⟨3, rfl, [ofr o1, ofr o2, ofr o3, ofr o4], rfl, ?_⟩))))))))
        walk_at "ts"
        refine ⟨([o1, o2, o3], false), rfl, ⟨Nat.le_of_ble_eq_true rfl, by simp; exact ⟨S1, S2, S3⟩⟩, ?_⟩
        rintro _ rfl
        refine a_cons (e_call (a_cons (e_new (n_slL (e_var rfl (p_some (e_int ⟨1, rfl, p_no ⟨[ofr o1, ofr o2, ofr o3, ofr o4], rfl, ?_⟩⟩)))))))
        walk_at "ts"
        refine ⟨([o2, o3, o4], true), rfl, ⟨Nat.le_of_ble_eq_true rfl, by simp; exact ⟨S2, S3, S4⟩⟩, ?_⟩
        rintro _ rfl
        walk_at "ts"
        refine e_new (n_slL (e_var rfl (p_no (p_some (e_int ⟨2, rfl, [ofr o1, ofr o2, ofr o3, ofr o4], rfl, ?_⟩)))))
        walk_at "ts"
        refine ⟨([o1, o2], false), rfl, ⟨Nat.le_of_ble_eq_true rfl, by simp; exact ⟨S1, S2⟩⟩, ?_⟩
        rintro _ rfl
        walk_at "ts"
        refine e_new (n_slL (e_var rfl (p_no (p_some (e_int ⟨2, rfl, [ofr o1, ofr o2, ofr o3, ofr o4], rfl, ?_⟩)))))
        walk_at "ts"
        refine ⟨([o1, o2], true), rfl, ⟨Nat.le_of_ble_eq_true rfl, by simp; exact ⟨S1, S2⟩⟩, ?_⟩
        rintro _ rfl
        walk_at "ts"
        refine o_add_l (Nat.le_of_ble_eq_true rfl) ?_
        walk_at "ts"
        refine ⟨.lst (List.map ofr [[o1, o2, o3, o4].foldl lesO none, [o1, o2, o3, o4].foldl grtO none, [o1, o2, o3].foldl lesO none, [o2, o3, o4].foldl grtO none, [o1, o2].foldl lesO none, [o1, o2].foldl grtO none]), rfl, ok_ofrs (Nat.le_of_ble_eq_true rfl) 6, ?_⟩
        rintro _ rfl
        walk_at "ts"
        refine ⟨[o4], rfl, ⟨Nat.le_of_ble_eq_true rfl, fun o h => ?_⟩, ?_⟩
        · rw [List.mem_singleton.mp h]; exact S4
        rintro _ rfl
        walk_at "ts"
        refine ⟨[o3], rfl, ⟨Nat.le_of_ble_eq_true rfl, fun o h => ?_⟩, ?_⟩
        · rw [List.mem_singleton.mp h]; exact S3
        rintro _ rfl
        walk_at "ts"
        refine ⟨.lst (List.map ofr [o4, o3]), ?_, ok_ofrs (Nat.le_of_ble_eq_true rfl) 6, ?_⟩
        · show [D.lst [ofr (lesO none o4), ofr (grtO none o3)], D.lst [ofr o4, ofr o3]] = _
          rw [les1, grt1]
          rfl
        rintro _ rfl
        walk_at "ts"
        exact ⟨_, _, _, _, _, _, _, _, _, rfl⟩
  · rintro _ ⟨s2, s3, s4, s5, s6, s7, s8, s9, s10, rfl⟩
    walk_at "ts"
    refine ⟨[], rfl, ⟨by decide, fun o h => nomatch h⟩, ?_⟩
    rintro _ rfl
    walk_at "ts"
    refine ⟨[], rfl, ⟨by decide, fun o h => nomatch h⟩, ?_⟩
    rintro _ rfl
    walk_at "ts"
    refine ⟨[none], rfl, ⟨by decide, fun o h => ?_⟩, ?_⟩
    · rw [List.mem_singleton.mp h]; exact fun p z => nomatch z
    rintro _ rfl
    walk_at "ts"
    refine ⟨[none, none], rfl, ⟨by decide, fun o h => ?_⟩, ?_⟩
    · simp at h; rw [h]; exact fun p z => nomatch z
    rintro _ rfl
    walk_at "ts"
    refine o_rep (n := 4) (by decide) (by decide) ?_
    walk_at "ts"
    refine ⟨.lst [.non, .non, .non, .non], rfl, ok_ofrs (l := [none, none, none, none]) (by decide) 6, ?_⟩
    rintro _ rfl
    rfl

/-! ### the text by places -/
def top (i : Nat) : Stmt := PySem.Challenge.pw_tiespan_k03_least_and_greatest.main.body.getD i (.Pass ⟨0, 0, 0, 0⟩)
abbrev s_is_less : Stmt := top 1
abbrev N_is_less : List Str := ["one", "other"]
theorem sc_is_less : FnScope N_is_less ["one", "other"] (defScope s_is_less) := ⟨rfl, rfl, rfl, by decide +kernel, rfl, by decide +kernel, by decide +kernel⟩
abbrev s_least : Stmt := top 2
abbrev N_least : List Str := ["values", "found", "value"]
theorem sc_least : FnScope N_least ["values"] (defScope s_least) := ⟨rfl, rfl, rfl, by decide +kernel, rfl, by decide +kernel, by decide +kernel⟩
abbrev s_greatest : Stmt := top 3
abbrev N_greatest : List Str := ["values", "found", "value"]
theorem sc_greatest : FnScope N_greatest ["values"] (defScope s_greatest) := ⟨rfl, rfl, rfl, by decide +kernel, rfl, by decide +kernel, by decide +kernel⟩
abbrev s__law_feed : Stmt := top 5
abbrev N__law_feed : List Str := ["_law_script", "_law_cells", "_law_mark", "_law_cell"]
theorem sc__law_feed : FnScope N__law_feed ["_law_script"] (defScope s__law_feed) := ⟨rfl, rfl, rfl, by decide +kernel, rfl, by decide +kernel, by decide +kernel⟩
abbrev s__law_draw : Stmt := top 6
abbrev N__law_draw : List Str := ["_law_feed_here", "_law_many", "_law_cell", "_law_one", "_law_two", "_law_drawn"]
theorem sc__law_draw : FnScope N__law_draw ["_law_feed_here", "_law_many"] (defScope s__law_draw) := ⟨rfl, rfl, rfl, by decide +kernel, rfl, by decide +kernel, by decide +kernel⟩
abbrev s__law_any : Stmt := top 7
abbrev N__law_any : List Str := ["_law_feed_here", "_law_row"]
theorem sc__law_any : FnScope N__law_any ["_law_feed_here", "_law_row"] (defScope s__law_any) := ⟨rfl, rfl, rfl, by decide +kernel, rfl, by decide +kernel, by decide +kernel⟩
abbrev s__law_same : Stmt := top 8
abbrev N__law_same : List Str := ["_law_found", "_law_due", "_law_key", "_law_one", "_law_two"]
theorem sc__law_same : FnScope N__law_same ["_law_found", "_law_due"] (defScope s__law_same) := ⟨rfl, rfl, rfl, by decide +kernel, rfl, by decide +kernel, by decide +kernel⟩
abbrev s__law_gcd : Stmt := top 9
abbrev N__law_gcd : List Str := ["_law_one", "_law_two"]
theorem sc__law_gcd : FnScope N__law_gcd ["_law_one", "_law_two"] (defScope s__law_gcd) := ⟨rfl, rfl, rfl, by decide +kernel, rfl, by decide +kernel, by decide +kernel⟩
abbrev s__law_low : Stmt := top 10
abbrev N__law_low : List Str := ["_law_upper", "_law_lower", "_law_part_here"]
theorem sc__law_low : FnScope N__law_low ["_law_upper", "_law_lower"] (defScope s__law_low) := ⟨rfl, rfl, rfl, by decide +kernel, rfl, by decide +kernel, by decide +kernel⟩
abbrev s__law_under : Stmt := top 11
abbrev N__law_under : List Str := ["_law_one", "_law_two"]
theorem sc__law_under : FnScope N__law_under ["_law_one", "_law_two"] (defScope s__law_under) := ⟨rfl, rfl, rfl, by decide +kernel, rfl, by decide +kernel, by decide +kernel⟩
abbrev s__law_lesser : Stmt := top 12
abbrev N__law_lesser : List Str := ["_law_one", "_law_two"]
theorem sc__law_lesser : FnScope N__law_lesser ["_law_one", "_law_two"] (defScope s__law_lesser) := ⟨rfl, rfl, rfl, by decide +kernel, rfl, by decide +kernel, by decide +kernel⟩
abbrev s__law_bigger : Stmt := top 13
abbrev N__law_bigger : List Str := ["_law_one", "_law_two"]
theorem sc__law_bigger : FnScope N__law_bigger ["_law_one", "_law_two"] (defScope s__law_bigger) := ⟨rfl, rfl, rfl, by decide +kernel, rfl, by decide +kernel, by decide +kernel⟩
abbrev s__law_part : Stmt := top 14
abbrev N__law_part : List Str := ["_law_feed_here", "_law_size", "_law_upper"]
theorem sc__law_part : FnScope N__law_part ["_law_feed_here", "_law_size"] (defScope s__law_part) := ⟨rfl, rfl, rfl, by decide +kernel, rfl, by decide +kernel, by decide +kernel⟩
abbrev s__law_best : Stmt := top 15
abbrev N__law_best : List Str := ["_law_values", "_law_is_top", "_law_found", "_law_value"]
theorem sc__law_best : FnScope N__law_best ["_law_values", "_law_is_top"] (defScope s__law_best) := ⟨rfl, rfl, rfl, by decide +kernel, rfl, by decide +kernel, by decide +kernel⟩
abbrev s_law : Stmt := top 16
abbrev N_law : List Str := ["_law_script", "_law_feed_here", "_law_turn", "_law_some", "_law_a", "_law_b", "_law_c", "_law_d", "_law_told", "_law_due", "_law_k"]
theorem sc_law : FnScope N_law ["_law_script"] (defScope s_law) := ⟨rfl, rfl, rfl, by decide +kernel, rfl, by decide +kernel, by decide +kernel⟩
abbrev FnP (K : PySem.W.Frag) (x : Str) (st : Stmt) (f : Addr) (fd : FuncData) : Prop := FunD K x x (defArgs st) (defBody st) (defScope st) [] [] f fd
structure Tx (K : PySem.W.Frag) (mg : Str → Option Value) : Prop where
  f_abs : mg "abs" = none
  f_all : mg "all" = none
  f_bool : mg "bool" = none
  f_dict : mg "dict" = none
  f_int : mg "int" = none
  f_isinstance : mg "isinstance" = none
  f_len : mg "len" = none
  f_list : mg "list" = none
  f_range : mg "range" = none
  f_str : mg "str" = none
  f_tuple : mg "tuple" = none
  f_zip : mg "zip" = none
  g_is_less : ∃ f fd, mg "is_less" = some (.ref f) ∧ FnP K "is_less" s_is_less f fd
  g_least : ∃ f fd, mg "least" = some (.ref f) ∧ FnP K "least" s_least f fd
  g_greatest : ∃ f fd, mg "greatest" = some (.ref f) ∧ FnP K "greatest" s_greatest f fd
  g__law_feed : ∃ f fd, mg "_law_feed" = some (.ref f) ∧ FnP K "_law_feed" s__law_feed f fd
  g__law_draw : ∃ f fd, mg "_law_draw" = some (.ref f) ∧ FnP K "_law_draw" s__law_draw f fd
  g__law_any : ∃ f fd, mg "_law_any" = some (.ref f) ∧ FnP K "_law_any" s__law_any f fd
  g__law_same : ∃ f fd, mg "_law_same" = some (.ref f) ∧ FnP K "_law_same" s__law_same f fd
  g__law_gcd : ∃ f fd, mg "_law_gcd" = some (.ref f) ∧ FnP K "_law_gcd" s__law_gcd f fd
  g__law_low : ∃ f fd, mg "_law_low" = some (.ref f) ∧ FnP K "_law_low" s__law_low f fd
  g__law_under : ∃ f fd, mg "_law_under" = some (.ref f) ∧ FnP K "_law_under" s__law_under f fd
  g__law_lesser : ∃ f fd, mg "_law_lesser" = some (.ref f) ∧ FnP K "_law_lesser" s__law_lesser f fd
  g__law_bigger : ∃ f fd, mg "_law_bigger" = some (.ref f) ∧ FnP K "_law_bigger" s__law_bigger f fd
  g__law_part : ∃ f fd, mg "_law_part" = some (.ref f) ∧ FnP K "_law_part" s__law_part f fd
  g__law_best : ∃ f fd, mg "_law_best" = some (.ref f) ∧ FnP K "_law_best" s__law_best f fd
  g_law : ∃ f fd, mg "law" = some (.ref f) ∧ FnP K "law" s_law f fd
section
variable {P : Program} {w : World} {K : PySem.W.Frag} {mg : Str → Option Value} {base : Heap}
theorem ok_is_less (T : Tx K mg) : Fn P w K mg base "is_less" 1 (sp_is_less K) := by
  obtain ⟨f, fd, hm, F⟩ := T.g_is_less
  exact Fn.mk1 hm F.kp (FunD.bindsN F fun _ _ _ _ _ _ us hl => match us, hl with | [_, _], _ => rfl) (fn_T F sc_is_less (fun _ => rfl) fun cdv A outer s H E hr => ⟨t_is_less K,
    (pss_one (ps_ret (pe_cmpR ox_lt (pe_op ox_mul (pe_ix ix_seq (pv 0) pe_int (fun _ _ => rfl)) (pe_ix ix_seq (pv 1) pe_int (fun _ _ => rfl))) (pe_op ox_mul (pe_ix ix_seq (pv 1) pe_int (fun _ _ => rfl)) (pe_ix ix_seq (pv 0) pe_int (fun _ _ => rfl))) (nomark _)))), fun x hx => w_is_less x hx⟩)
theorem ok_least (T : Tx K mg) : Fn P w K mg base "least" 2 (sp_least K) := by
  obtain ⟨f, fd, hm, F⟩ := T.g_least
  exact ⟨f, hm, F.kp, fn_S F sc_least (fun x hx => by simpa using hx.1) (fun _ _ _ _ _ _ rest => match rest with | [] => rfl | _ :: _ => rfl) fun cdv A outer s H E hr => ⟨t_least K,
    (pss_cons (ps_set (i := 1) sc_least.nd rfl (Or.inl rfl) pe_non)
      (pss_cons (ps_for PassesOwn.never rfl (pi_tup (pv 0)) (pg_name (i := 2) sc_least.nd rfl (Or.inl rfl))
      (pss_one (ps_if (PW.pt (pw_and (pt_cmpR ox_isnot (pv 2) pe_non (nomark _)) (pw_and1 (PW.pt (pw_or (pt_cmpR ox_is (pv 1) pe_non (nomark _)) (pw_or1 (pt_val (pe_fn (ok_is_less T) (hr.mono (by decide)) (by rfl) (pa_cons (pv 2) (pa_cons (pv 1) pa_nil)))))))))) (pss_one (ps_set (i := 1) sc_least.nd rfl (Or.inl rfl) (pv 2))) pss_nil)))
      (pss_one (ps_ret (pv 1))))), fun x hx => w_least x hx⟩⟩
theorem ok_greatest (T : Tx K mg) : Fn P w K mg base "greatest" 2 (sp_greatest K) := by
  obtain ⟨f, fd, hm, F⟩ := T.g_greatest
  exact ⟨f, hm, F.kp, fn_S F sc_greatest (fun x hx => by simpa using hx.1) (fun _ _ _ _ _ _ rest => match rest with | [] => rfl | _ :: _ => rfl) fun cdv A outer s H E hr => ⟨t_greatest K,
    (pss_cons (ps_set (i := 1) sc_greatest.nd rfl (Or.inl rfl) pe_non)
      (pss_cons (ps_for PassesOwn.never rfl (pi_tup (pv 0)) (pg_name (i := 2) sc_greatest.nd rfl (Or.inl rfl))
      (pss_one (ps_if (PW.pt (pw_and (pt_cmpR ox_isnot (pv 2) pe_non (nomark _)) (pw_and1 (PW.pt (pw_or (pt_cmpR ox_is (pv 1) pe_non (nomark _)) (pw_or1 (pt_val (pe_fn (ok_is_less T) (hr.mono (by decide)) (by rfl) (pa_cons (pv 1) (pa_cons (pv 2) pa_nil)))))))))) (pss_one (ps_set (i := 1) sc_greatest.nd rfl (Or.inl rfl) (pv 2))) pss_nil)))
      (pss_one (ps_ret (pv 1))))), fun x hx => w_greatest x hx⟩⟩
theorem ok__law_feed (T : Tx K mg) : Fn P w K mg base "_law_feed" 1 (sp__law_feed K) := by
  obtain ⟨f, fd, hm, F⟩ := T.g__law_feed
  exact Fn.mk1 hm F.kp (FunD.bindsN F fun _ _ _ _ _ _ us hl => match us, hl with | [_], _ => rfl) (feed_shift rfl (fn_L F sc__law_feed (fun _ => rfl) fun cdv A outer s H E hr => ⟨t__law_feed K,
    (pss_cons (ps_setLc (i := 1) (own := [("_law_cell", 3)]) (g := (gName 3)) (tt := tYes) rfl sc__law_feed.nd rfl rfl (sw_true rfl rfl rfl (by decide +kernel)) (pi_list (pe_slice sl_list (pv 0) po_none (po_some pe_int))) (blkOk_by (own := [("_law_cell", 3)]) (N := N__law_feed) (sc := defScope s__law_feed) (by decide +kernel)) (fun _ _ _ _ _ => (pg_name (i := 3) sc__law_feed.nd rfl (Or.inl rfl))) (fun _ _ _ _ _ => pts_nil) (fun _ _ _ _ _ => (pe_callTy cx_int (by rfl) T.f_int (by decide +kernel) (pa_cons (pv 3) pa_nil))))
      (pss_cons (ps_set (i := 2) sc__law_feed.nd rfl (Or.inl rfl) (pe_op ox_add pe_int (pe_op ox_mul pe_int (pe_callB cx_len (by rfl) T.f_len (by decide +kernel) (pa_cons (pv 1) pa_nil)))))
      (pss_cons (ps_for PassesOwn.never rfl (pi_list (pv 1)) (pg_name (i := 3) sc__law_feed.nd rfl (Or.inl rfl))
      (pss_one (ps_set (i := 2) sc__law_feed.nd rfl (Or.inl rfl) (pe_op ox_mod (pe_callTy cx_int (by rfl) T.f_int (by decide +kernel) (pa_cons (pe_op ox_add (pe_op ox_mul (pv 2) pe_int) (pv 3)) pa_nil)) pe_int))))
      (pss_one (ps_ret (pe_lst (pa_cons (pv 1) (pa_cons pe_int (pa_cons pe_int (pa_cons (pv 2) pa_nil)))))))))), fun x hx => w__law_feed x.1 x.2 hx⟩))
theorem ok__law_draw (T : Tx K mg) : Fn P w K mg base "_law_draw" 1 (sp__law_draw K) := by
  obtain ⟨f, fd, hm, F⟩ := T.g__law_draw
  exact Fn.mk1 hm F.kp (FunD.bindsN F fun _ _ _ _ _ _ us hl => match us, hl with | [_, _], _ => rfl) (fn_draw F sc__law_draw rfl (by decide) fun cdv A outer s H E hr => ⟨t__law_draw K,
    (pss_cons (ps_if (pt_cmpR ox_lt (pe_ix ix_seq (pv 0) pe_int (fun _ _ => rfl)) pe_int (nomark _)) (pss_cons (ps_asg (pe_op ox_add (pe_ix ix_seq (pv 0) pe_int (fun _ _ => rfl)) pe_int) (pg_sub (pv 0) pe_int set_list))
      (pss_cons (ps_set (i := 2) sc__law_draw.nd rfl (Or.inl rfl) (pe_op ox_add (pe_ix ix_seq (pv 0) pe_int (fun _ _ => rfl)) (pe_op ox_mul (pe_ix ix_seq (pv 0) pe_int (fun _ _ => rfl)) pe_int)))
      (pss_cons (ps_if (pt_cmpR ox_le (pe_ix ix_seq (pv 0) pe_int (fun _ _ => rfl)) (pe_callB cx_len (by rfl) T.f_len (by decide +kernel) (pa_cons (pe_ix ix_seq (pv 0) pe_int (fun _ _ => rfl)) pa_nil)) (nomark _)) (pss_one (ps_set (i := 2) sc__law_draw.nd rfl (Or.inl rfl) (pe_ix ix_seq (pe_ix ix_seq (pv 0) pe_int (fun _ _ => rfl)) (pe_op ox_sub (pe_ix ix_seq (pv 0) pe_int (fun _ _ => rfl)) pe_int) (fun _ _ => rfl)))) pss_nil)
      (pss_cons (ps_if (PW.pt (pw_or (pt_cmpR ox_gt (pe_ix ix_seq (pv 0) pe_int (fun _ _ => rfl)) (pe_callB cx_len (by rfl) T.f_len (by decide +kernel) (pa_cons (pe_ix ix_seq (pv 0) pe_int (fun _ _ => rfl)) pa_nil)) (nomark _)) (pw_or1 (pt_cmpR ox_lt (pv 2) (pe_op ox_pow pe_int pe_int) (nomark _))))) (pss_cons (ps_set (i := 3) sc__law_draw.nd rfl (Or.inl rfl) (pe_op ox_mod (pe_callTy cx_int (by rfl) T.f_int (by decide +kernel) (pa_cons (pe_op ox_add (pe_op ox_add (pe_op ox_mul (pv 2) pe_int) (pe_op ox_mul (pe_ix ix_seq (pv 0) pe_int (fun _ _ => rfl)) pe_int)) (pe_ix ix_seq (pv 0) pe_int (fun _ _ => rfl))) pa_nil)) pe_int))
      (pss_cons (ps_set (i := 4) sc__law_draw.nd rfl (Or.inl rfl) (pe_op ox_mod (pe_callTy cx_int (by rfl) T.f_int (by decide +kernel) (pa_cons (pe_op ox_add (pe_op ox_mul (pv 3) (pv 3)) (pe_op ox_mul (pe_ix ix_seq (pv 0) pe_int (fun _ _ => rfl)) pe_int)) pa_nil)) pe_int))
      (pss_one (ps_ret (pe_op ox_mod (pe_op ox_fdiv (pe_op ox_mod (pe_callTy cx_int (by rfl) T.f_int (by decide +kernel) (pa_cons (pe_op ox_add (pe_op ox_mul (pv 4) pe_int) (pv 3)) pa_nil)) pe_int) pe_int) (pv 1)))))) pss_nil)
      (pss_one (ps_asg (pv 2) (pg_sub (pv 0) pe_int set_list))))))) pss_nil)
      (pss_cons (ps_set (i := 5) sc__law_draw.nd rfl (Or.inl rfl) (pe_op ox_mod (pe_callTy cx_int (by rfl) T.f_int (by decide +kernel) (pa_cons (pe_ix ix_seq (pv 0) pe_int (fun _ _ => rfl)) pa_nil)) (pv 1)))
      (pss_cons (ps_asg (pe_op ox_fdiv (pe_callTy cx_int (by rfl) T.f_int (by decide +kernel) (pa_cons (pe_ix ix_seq (pv 0) pe_int (fun _ _ => rfl)) pa_nil)) (pv 1)) (pg_sub (pv 0) pe_int set_list))
      (pss_one (ps_ret (pv 5)))))), fun a cs m i j mk ns hm hi => w__law_draw a cs m i j mk ns hm hi⟩)
theorem ok__law_any (T : Tx K mg) : Fn P w K mg base "_law_any" 2 (sp__law_any K) := by
  obtain ⟨f, fd, hm, F⟩ := T.g__law_any
  exact Fn.mk1 hm F.kp (FunD.bindsN F fun _ _ _ _ _ _ us hl => match us, hl with | [_, _], _ => rfl) (fn_T F sc__law_any (fun _ => rfl) fun cdv A outer s H E hr => ⟨t__law_any K,
    (pss_one (ps_ret (pe_ix ix_seq (pv 1) (pe_fn (ok__law_draw T) (hr.mono (by decide)) (by rfl) (pa_cons (pv 0) (pa_cons (pe_callB cx_len (by rfl) T.f_len (by decide +kernel) (pa_cons (pv 1) pa_nil)) pa_nil))) (fun _ _ => rfl)))), fun x hx => w__law_any x hx⟩)
theorem ok__law_same (T : Tx K mg) : ∀ n : Nat, Fn P w K mg base "_law_same" (n + 1) (sp__law_same K n)
  | 0 => by
    obtain ⟨f, fd, hm, F⟩ := T.g__law_same
    have ih : Fn P w K mg base "_law_same" 0 (fun _ _ _ _ => False) := ⟨f, hm, F.kp, fun _ _ _ _ _ _ _ _ _ _ _ z => z.elim⟩
    exact Fn.mk1 hm F.kp (FunD.bindsN F fun _ _ _ _ _ _ us hl => match us, hl with | [_, _], _ => rfl) (fn_T F sc__law_same (fun _ => rfl) fun cdv A outer s H E hr => ⟨t__law_same K (fun _ _ _ _ => False),
    (pss_cons (ps_if (pt_cmpR ox_is (pv 1) pe_non (nomark _)) (pss_one (ps_ret (pe_cmpR ox_is (pv 0) pe_non (nomark _)))) pss_nil)
      (pss_cons (ps_if (PW.pt (pw_or (pt_val (pe_callB call_isi (by rfl) T.f_isinstance (by decide +kernel) (pa_cons (pv 1) (pa_cons (pe_bltn (v := .ty "bool") (by rfl) T.f_bool (by decide +kernel) rfl) pa_nil)))) (pw_or1 (pt_val (pe_callB call_isi (by rfl) T.f_isinstance (by decide +kernel) (pa_cons (pv 0) (pa_cons (pe_bltn (v := .ty "bool") (by rfl) T.f_bool (by decide +kernel) rfl) pa_nil))))))) (pss_one (ps_ret (pe_and (pe_callB call_isi (by rfl) T.f_isinstance (by decide +kernel) (pa_cons (pv 1) (pa_cons (pe_bltn (v := .ty "bool") (by rfl) T.f_bool (by decide +kernel) rfl) pa_nil))) (pe_and (pe_callB call_isi (by rfl) T.f_isinstance (by decide +kernel) (pa_cons (pv 0) (pa_cons (pe_bltn (v := .ty "bool") (by rfl) T.f_bool (by decide +kernel) rfl) pa_nil))) (pe_one (pe_cmpR (ox_eq hr.units) (pv 0) (pv 1) (nomark _))))))) pss_nil)
      (pss_cons (ps_if (pt_val (pe_callB call_isiT (by rfl) T.f_isinstance (by decide +kernel) (pa_cons (pv 1) (pa_cons (pe_tup (pa_cons (pe_bltn (v := .ty "int") (by rfl) T.f_int (by decide +kernel) rfl) (pa_cons (pe_bltn (v := .ty "str") (by rfl) T.f_str (by decide +kernel) rfl) pa_nil))) pa_nil)))) (pss_one (ps_ret (pe_and (pe_callB call_isiT (by rfl) T.f_isinstance (by decide +kernel) (pa_cons (pv 0) (pa_cons (pe_tup (pa_cons (pe_bltn (v := .ty "int") (by rfl) T.f_int (by decide +kernel) rfl) (pa_cons (pe_bltn (v := .ty "str") (by rfl) T.f_str (by decide +kernel) rfl) pa_nil))) pa_nil))) (pe_and (pe_cmpR (ox_eq hr.units) (pe_callB call_isi (by rfl) T.f_isinstance (by decide +kernel) (pa_cons (pv 0) (pa_cons (pe_bltn (v := .ty "int") (by rfl) T.f_int (by decide +kernel) rfl) pa_nil))) (pe_callB call_isi (by rfl) T.f_isinstance (by decide +kernel) (pa_cons (pv 1) (pa_cons (pe_bltn (v := .ty "int") (by rfl) T.f_int (by decide +kernel) rfl) pa_nil))) (nomark _)) (pe_one (pe_cmpR (ox_eq hr.units) (pv 0) (pv 1) (nomark _))))))) pss_nil)
      (pss_cons (ps_if (pt_val (pe_callB call_isi (by rfl) T.f_isinstance (by decide +kernel) (pa_cons (pv 1) (pa_cons (pe_bltn (v := .ty "dict") (by rfl) T.f_dict (by decide +kernel) rfl) pa_nil)))) pss_never pss_nil)
      (pss_cons (ps_if (PW.pt (pw_or (pt_cmpR (ox_ne hr.units) (pe_callB call_isi (by rfl) T.f_isinstance (by decide +kernel) (pa_cons (pv 1) (pa_cons (pe_bltn (v := .ty "list") (by rfl) T.f_list (by decide +kernel) rfl) pa_nil))) (pe_callB call_isi (by rfl) T.f_isinstance (by decide +kernel) (pa_cons (pv 0) (pa_cons (pe_bltn (v := .ty "list") (by rfl) T.f_list (by decide +kernel) rfl) pa_nil))) (nomark _)) (pw_or1 (pt_cmpR (ox_ne hr.units) (pe_callB call_isi (by rfl) T.f_isinstance (by decide +kernel) (pa_cons (pv 1) (pa_cons (pe_bltn (v := .ty "tuple") (by rfl) T.f_tuple (by decide +kernel) rfl) pa_nil))) (pe_callB call_isi (by rfl) T.f_isinstance (by decide +kernel) (pa_cons (pv 0) (pa_cons (pe_bltn (v := .ty "tuple") (by rfl) T.f_tuple (by decide +kernel) rfl) pa_nil))) (nomark _))))) (pss_one (ps_ret pe_bl)) pss_nil)
      (pss_one (ps_ret (pe_and (pe_cmpR (ox_eq hr.units) (pe_callB cx_len (by rfl) T.f_len (by decide +kernel) (pa_cons (pv 0) pa_nil)) (pe_callB cx_len (by rfl) T.f_len (by decide +kernel) (pa_cons (pv 1) pa_nil)) (nomark _)) (pe_one (pe_callB (cx_all rfl) (by rfl) T.f_all (by decide +kernel) (pa_cons (pe_lc (own := [("_law_one", 3), ("_law_two", 4)]) (g := (gTup K 2 (gCons (gName 3) (gCons (gName 4) gNil)))) (tt := tYes) rfl sc__law_same.nd (RZ.pi_zipA (by rfl) T.f_zip (pa_cons (pv 0) (pa_cons (pv 1) pa_nil))) (blkOk_by (own := [("_law_one", 3), ("_law_two", 4)]) (N := N__law_same) (sc := defScope s__law_same) (by decide +kernel)) (fun _ _ _ _ _ => (pg_tup rfl (pgs_cons (pg_name (i := 3) sc__law_same.nd rfl (Or.inl rfl)) (pgs_cons (pg_name (i := 4) sc__law_same.nd rfl (Or.inl rfl)) pgs_nil)))) (fun _ _ _ _ _ => pts_nil) (fun _ _ _ _ _ => (pe_fn (ih) (hr.mono (by omega)) (by rfl) (pa_cons (pv 3) (pa_cons (pv 4) pa_nil))))) pa_nil))))))))))), fun d hd => w__law_same (fun m z => by omega) d hd⟩)
  | n + 1 => by
    obtain ⟨f, fd, hm, F⟩ := T.g__law_same
    have ih : Fn P w K mg base "_law_same" (n + 1) (sp__law_same K n) := ok__law_same T n
    exact Fn.mk1 hm F.kp (FunD.bindsN F fun _ _ _ _ _ _ us hl => match us, hl with | [_, _], _ => rfl) (fn_T F sc__law_same (fun _ => rfl) fun cdv A outer s H E hr => ⟨t__law_same K (sp__law_same K n),
    (pss_cons (ps_if (pt_cmpR ox_is (pv 1) pe_non (nomark _)) (pss_one (ps_ret (pe_cmpR ox_is (pv 0) pe_non (nomark _)))) pss_nil)
      (pss_cons (ps_if (PW.pt (pw_or (pt_val (pe_callB call_isi (by rfl) T.f_isinstance (by decide +kernel) (pa_cons (pv 1) (pa_cons (pe_bltn (v := .ty "bool") (by rfl) T.f_bool (by decide +kernel) rfl) pa_nil)))) (pw_or1 (pt_val (pe_callB call_isi (by rfl) T.f_isinstance (by decide +kernel) (pa_cons (pv 0) (pa_cons (pe_bltn (v := .ty "bool") (by rfl) T.f_bool (by decide +kernel) rfl) pa_nil))))))) (pss_one (ps_ret (pe_and (pe_callB call_isi (by rfl) T.f_isinstance (by decide +kernel) (pa_cons (pv 1) (pa_cons (pe_bltn (v := .ty "bool") (by rfl) T.f_bool (by decide +kernel) rfl) pa_nil))) (pe_and (pe_callB call_isi (by rfl) T.f_isinstance (by decide +kernel) (pa_cons (pv 0) (pa_cons (pe_bltn (v := .ty "bool") (by rfl) T.f_bool (by decide +kernel) rfl) pa_nil))) (pe_one (pe_cmpR (ox_eq hr.units) (pv 0) (pv 1) (nomark _))))))) pss_nil)
      (pss_cons (ps_if (pt_val (pe_callB call_isiT (by rfl) T.f_isinstance (by decide +kernel) (pa_cons (pv 1) (pa_cons (pe_tup (pa_cons (pe_bltn (v := .ty "int") (by rfl) T.f_int (by decide +kernel) rfl) (pa_cons (pe_bltn (v := .ty "str") (by rfl) T.f_str (by decide +kernel) rfl) pa_nil))) pa_nil)))) (pss_one (ps_ret (pe_and (pe_callB call_isiT (by rfl) T.f_isinstance (by decide +kernel) (pa_cons (pv 0) (pa_cons (pe_tup (pa_cons (pe_bltn (v := .ty "int") (by rfl) T.f_int (by decide +kernel) rfl) (pa_cons (pe_bltn (v := .ty "str") (by rfl) T.f_str (by decide +kernel) rfl) pa_nil))) pa_nil))) (pe_and (pe_cmpR (ox_eq hr.units) (pe_callB call_isi (by rfl) T.f_isinstance (by decide +kernel) (pa_cons (pv 0) (pa_cons (pe_bltn (v := .ty "int") (by rfl) T.f_int (by decide +kernel) rfl) pa_nil))) (pe_callB call_isi (by rfl) T.f_isinstance (by decide +kernel) (pa_cons (pv 1) (pa_cons (pe_bltn (v := .ty "int") (by rfl) T.f_int (by decide +kernel) rfl) pa_nil))) (nomark _)) (pe_one (pe_cmpR (ox_eq hr.units) (pv 0) (pv 1) (nomark _))))))) pss_nil)
      (pss_cons (ps_if (pt_val (pe_callB call_isi (by rfl) T.f_isinstance (by decide +kernel) (pa_cons (pv 1) (pa_cons (pe_bltn (v := .ty "dict") (by rfl) T.f_dict (by decide +kernel) rfl) pa_nil)))) pss_never pss_nil)
      (pss_cons (ps_if (PW.pt (pw_or (pt_cmpR (ox_ne hr.units) (pe_callB call_isi (by rfl) T.f_isinstance (by decide +kernel) (pa_cons (pv 1) (pa_cons (pe_bltn (v := .ty "list") (by rfl) T.f_list (by decide +kernel) rfl) pa_nil))) (pe_callB call_isi (by rfl) T.f_isinstance (by decide +kernel) (pa_cons (pv 0) (pa_cons (pe_bltn (v := .ty "list") (by rfl) T.f_list (by decide +kernel) rfl) pa_nil))) (nomark _)) (pw_or1 (pt_cmpR (ox_ne hr.units) (pe_callB call_isi (by rfl) T.f_isinstance (by decide +kernel) (pa_cons (pv 1) (pa_cons (pe_bltn (v := .ty "tuple") (by rfl) T.f_tuple (by decide +kernel) rfl) pa_nil))) (pe_callB call_isi (by rfl) T.f_isinstance (by decide +kernel) (pa_cons (pv 0) (pa_cons (pe_bltn (v := .ty "tuple") (by rfl) T.f_tuple (by decide +kernel) rfl) pa_nil))) (nomark _))))) (pss_one (ps_ret pe_bl)) pss_nil)
      (pss_one (ps_ret (pe_and (pe_cmpR (ox_eq hr.units) (pe_callB cx_len (by rfl) T.f_len (by decide +kernel) (pa_cons (pv 0) pa_nil)) (pe_callB cx_len (by rfl) T.f_len (by decide +kernel) (pa_cons (pv 1) pa_nil)) (nomark _)) (pe_one (pe_callB (cx_all rfl) (by rfl) T.f_all (by decide +kernel) (pa_cons (pe_lc (own := [("_law_one", 3), ("_law_two", 4)]) (g := (gTup K 2 (gCons (gName 3) (gCons (gName 4) gNil)))) (tt := tYes) rfl sc__law_same.nd (RZ.pi_zipA (by rfl) T.f_zip (pa_cons (pv 0) (pa_cons (pv 1) pa_nil))) (blkOk_by (own := [("_law_one", 3), ("_law_two", 4)]) (N := N__law_same) (sc := defScope s__law_same) (by decide +kernel)) (fun _ _ _ _ _ => (pg_tup rfl (pgs_cons (pg_name (i := 3) sc__law_same.nd rfl (Or.inl rfl)) (pgs_cons (pg_name (i := 4) sc__law_same.nd rfl (Or.inl rfl)) pgs_nil)))) (fun _ _ _ _ _ => pts_nil) (fun _ _ _ _ _ => (pe_fn (ih) (hr.mono (by omega)) (by rfl) (pa_cons (pv 3) (pa_cons (pv 4) pa_nil))))) pa_nil))))))))))), fun d hd => w__law_same (fun m z δ ta k h => by cases z; exact same_call h) d hd⟩)
theorem ok__law_gcd (T : Tx K mg) : Fn P w K mg base "_law_gcd" 1 (sp__law_gcd K) := by
  obtain ⟨f, fd, hm, F⟩ := T.g__law_gcd
  exact Fn.mk1 hm F.kp (FunD.bindsN F fun _ _ _ _ _ _ us hl => match us, hl with | [_, _], _ => rfl) (fn_T F sc__law_gcd (fun _ => rfl) fun cdv A outer s H E hr => ⟨t__law_gcd K,
    (pss_cons (ps_par (i := 0) (j := 1) (by rfl) sc__law_gcd.nd rfl rfl (by decide) rfl rfl (pa_cons (pe_callB cx_abs (by rfl) T.f_abs (by decide +kernel) (pa_cons (pv 0) pa_nil)) (pa_cons (pe_callB cx_abs (by rfl) T.f_abs (by decide +kernel) (pa_cons (pv 1) pa_nil)) pa_nil)) (by rfl))
      (pss_cons (ps_while PassesOwn.never (pt_cmpR (ox_ne hr.units) (pv 1) pe_int (nomark _)) (pss_one (ps_par (i := 0) (j := 1) (by rfl) sc__law_gcd.nd rfl rfl (by decide) rfl rfl (pa_cons (pv 1) (pa_cons (pe_op ox_mod (pe_callTy cx_int (by rfl) T.f_int (by decide +kernel) (pa_cons (pv 0) pa_nil)) (pv 1)) pa_nil)) (by rfl))))
      (pss_one (ps_ret (pv 0))))), fun x hx => w__law_gcd x⟩)
theorem ok__law_low (T : Tx K mg) : Fn P w K mg base "_law_low" 2 (sp__law_low K) := by
  obtain ⟨f, fd, hm, F⟩ := T.g__law_low
  exact Fn.mk1 hm F.kp (FunD.bindsN F fun _ _ _ _ _ _ us hl => match us, hl with | [_, _], _ => rfl) (fn_T F sc__law_low (fun _ => rfl) fun cdv A outer s H E hr => ⟨t__law_low K,
    (pss_cons (ps_set (i := 2) sc__law_low.nd rfl (Or.inl rfl) (pe_fn (ok__law_gcd T) (hr.mono (by decide)) (by rfl) (pa_cons (pv 0) (pa_cons (pv 1) pa_nil))))
      (pss_cons (ps_if (pt_cmpR ox_lt (pv 1) pe_int (nomark _)) (pss_one (ps_set (i := 2) sc__law_low.nd rfl (Or.inl rfl) (pe_un un_neg (pv 2)))) pss_nil)
      (pss_one (ps_ret (pe_tup (pa_cons (pe_op ox_fdiv (pv 0) (pv 2)) (pa_cons (pe_op ox_fdiv (pv 1) (pv 2)) pa_nil))))))), fun x hx => w__law_low x hx⟩)
theorem ok__law_under (T : Tx K mg) : Fn P w K mg base "_law_under" 1 (sp__law_under K) := by
  obtain ⟨f, fd, hm, F⟩ := T.g__law_under
  exact Fn.mk1 hm F.kp (FunD.bindsN F fun _ _ _ _ _ _ us hl => match us, hl with | [_, _], _ => rfl) (fn_T F sc__law_under (fun _ => rfl) fun cdv A outer s H E hr => ⟨t__law_under K,
    (pss_one (ps_ret (pe_cmpR ox_lt (pe_op ox_mul (pe_ix ix_seq (pv 0) pe_int (fun _ _ => rfl)) (pe_ix ix_seq (pv 1) pe_int (fun _ _ => rfl))) (pe_op ox_mul (pe_ix ix_seq (pv 1) pe_int (fun _ _ => rfl)) (pe_ix ix_seq (pv 0) pe_int (fun _ _ => rfl))) (nomark _)))), fun x hx => w__law_under x hx⟩)
theorem ok__law_lesser (T : Tx K mg) : Fn P w K mg base "_law_lesser" 2 (sp__law_lesser K) := by
  obtain ⟨f, fd, hm, F⟩ := T.g__law_lesser
  exact Fn.mk1 hm F.kp (FunD.bindsN F fun _ _ _ _ _ _ us hl => match us, hl with | [_, _], _ => rfl) (fn_T F sc__law_lesser (fun _ => rfl) fun cdv A outer s H E hr => ⟨t__law_lesser K,
    (pss_one (ps_ret (pe_ifExp (pt_val (pe_fn (ok__law_under T) (hr.mono (by decide)) (by rfl) (pa_cons (pv 1) (pa_cons (pv 0) pa_nil)))) (pv 1) (pv 0)))), fun x hx => w__law_lesser x hx⟩)
theorem ok__law_bigger (T : Tx K mg) : Fn P w K mg base "_law_bigger" 2 (sp__law_bigger K) := by
  obtain ⟨f, fd, hm, F⟩ := T.g__law_bigger
  exact Fn.mk1 hm F.kp (FunD.bindsN F fun _ _ _ _ _ _ us hl => match us, hl with | [_, _], _ => rfl) (fn_T F sc__law_bigger (fun _ => rfl) fun cdv A outer s H E hr => ⟨t__law_bigger K,
    (pss_one (ps_ret (pe_ifExp (pt_val (pe_fn (ok__law_under T) (hr.mono (by decide)) (by rfl) (pa_cons (pv 0) (pa_cons (pv 1) pa_nil)))) (pv 1) (pv 0)))), fun x hx => w__law_bigger x hx⟩)
theorem ok__law_part (T : Tx K mg) : Fn P w K mg base "_law_part" 3 (sp__law_part K) := by
  obtain ⟨f, fd, hm, F⟩ := T.g__law_part
  exact Fn.mk1 hm F.kp (FunD.bindsN F fun _ _ _ _ _ _ us hl => match us, hl with | [_, _], _ => rfl) (fn_T F sc__law_part (fun _ => rfl) fun cdv A outer s H E hr => ⟨t__law_part K,
    (pss_cons (ps_set (i := 2) sc__law_part.nd rfl (Or.inl rfl) (pe_op ox_sub (pe_fn (ok__law_draw T) (hr.mono (by decide)) (by rfl) (pa_cons (pv 0) (pa_cons (pe_op ox_add (pe_op ox_mul pe_int (pv 1)) pe_int) pa_nil))) (pv 1)))
      (pss_one (ps_ret (pe_fn (ok__law_low T) (hr.mono (by decide)) (by rfl) (pa_cons (pv 2) (pa_cons (pe_ifExp (pt_cmpR (ox_eq hr.units) (pe_fn (ok__law_draw T) (hr.mono (by decide)) (by rfl) (pa_cons (pv 0) (pa_cons pe_int pa_nil))) pe_int (nomark _)) pe_int (pe_op ox_add pe_int (pe_fn (ok__law_draw T) (hr.mono (by decide)) (by rfl) (pa_cons (pv 0) (pa_cons pe_int pa_nil))))) pa_nil)))))), fun x hx => w__law_part x hx⟩)
theorem ok__law_best (T : Tx K mg) : Fn P w K mg base "_law_best" 3 (sp__law_best K) := by
  obtain ⟨f, fd, hm, F⟩ := T.g__law_best
  exact Fn.mk1 hm F.kp (FunD.bindsN F fun _ _ _ _ _ _ us hl => match us, hl with | [_, _], _ => rfl) (fn_T F sc__law_best (fun _ => rfl) fun cdv A outer s H E hr => ⟨t__law_best K,
    (pss_cons (ps_set (i := 2) sc__law_best.nd rfl (Or.inl rfl) pe_non)
      (pss_cons (ps_for PassesOwn.never rfl (pi_list (pv 0)) (pg_name (i := 3) sc__law_best.nd rfl (Or.inl rfl))
      (pss_one (ps_if (pt_cmpR ox_isnot (pv 3) pe_non (nomark _)) (pss_one (ps_if (pt_cmpR ox_is (pv 2) pe_non (nomark _)) (pss_one (ps_set (i := 2) sc__law_best.nd rfl (Or.inl rfl) (pv 3))) (pss_one (ps_set (i := 2) sc__law_best.nd rfl (Or.inl rfl) (pe_ifExp (pt_val (pv 1)) (pe_fn (ok__law_bigger T) (hr.mono (by decide)) (by rfl) (pa_cons (pv 2) (pa_cons (pv 3) pa_nil))) (pe_fn (ok__law_lesser T) (hr.mono (by decide)) (by rfl) (pa_cons (pv 2) (pa_cons (pv 3) pa_nil)))))))) pss_nil)))
      (pss_one (ps_ret (pv 2))))), fun x hx => w__law_best x hx⟩)
theorem ok_law {f : Addr} {fd : FuncData} (T : Tx K mg) (F : FnP K "law" s_law f fd) : FnOk P w K mg base CX0 10 f fd ["_law_script"] (SpLaw K) :=
  fn_law F sc_law fun cdv A outer s H E hr => ⟨t_law K,
    (pss_cons (ps_set (i := 1) sc_law.nd rfl (Or.inr rfl) (pe_fn (ok__law_feed T) (hr.mono (by decide)) (by rfl) (pa_cons (pv 0) pa_nil)))
      (pss_cons (ps_for PassesOwn.never rfl (pi_range1 rfl T.f_range (pa_cons pe_int pa_nil)) (pg_name (i := 2) sc_law.nd rfl (Or.inl rfl))
      (pss_cons (ps_setLc (i := 3) (own := [("_law_k", 10)]) (g := (gName 10)) (tt := tYes) rfl sc_law.nd rfl rfl (sw_true rfl rfl rfl (by decide +kernel)) (pi_range1 rfl T.f_range (pa_cons pe_int pa_nil)) (blkOk_by (own := [("_law_k", 10)]) (N := N_law) (sc := defScope s_law) (by decide +kernel)) (fun _ _ _ _ _ => (pg_name (i := 10) sc_law.nd rfl (Or.inl rfl))) (fun _ _ _ _ _ => pts_nil) (fun _ _ _ _ _ => (pe_ifExp (pt_cmpR (ox_eq hr.units) (pe_fn (ok__law_draw T) (hr.mono (by decide)) (by rfl) (pa_cons (pv 1) (pa_cons pe_int pa_nil))) pe_int (nomark _)) pe_non (pe_fn (ok__law_part T) (hr.mono (by decide)) (by rfl) (pa_cons (pv 1) (pa_cons (pe_fn (ok__law_any T) (hr.mono (by decide)) (by rfl) (pa_cons (pv 1) (pa_cons (pe_lst (pa_cons pe_int (pa_cons pe_int pa_nil))) pa_nil))) pa_nil))))))
      (pss_cons (ps_asg (pe_ifExp (pt_cmpR (ox_eq hr.units) (pe_fn (ok__law_draw T) (hr.mono (by decide)) (by rfl) (pa_cons (pv 1) (pa_cons pe_int pa_nil))) pe_int (nomark _)) (pe_ix ix_seq (pv 3) pe_int (fun _ _ => rfl)) (pe_ix ix_seq (pv 3) pe_int (fun _ _ => rfl))) (pg_sub (pv 3) pe_int set_list))
      (pss_cons (ps_asg (pv 3) (pg_unl rfl (pgs_cons (pg_name (i := 4) sc_law.nd rfl (Or.inl rfl)) (pgs_cons (pg_name (i := 5) sc_law.nd rfl (Or.inl rfl)) (pgs_cons (pg_name (i := 6) sc_law.nd rfl (Or.inl rfl)) (pgs_cons (pg_name (i := 7) sc_law.nd rfl (Or.inl rfl)) pgs_nil))))))
      (pss_cons (ps_set (i := 8) sc_law.nd rfl (Or.inl rfl) (pe_lst (pa_cons (pe_fn (ok_least T) (hr.mono (by decide)) (by rfl) (pa_cons (pv 4) (pa_cons (pv 5) (pa_cons (pv 6) (pa_cons (pv 7) pa_nil))))) (pa_cons (pe_fn (ok_greatest T) (hr.mono (by decide)) (by rfl) (pa_cons (pv 4) (pa_cons (pv 5) (pa_cons (pv 6) (pa_cons (pv 7) pa_nil))))) (pa_cons (pe_fn (ok_least T) (hr.mono (by decide)) (by rfl) (pa_cons (pv 4) (pa_cons (pv 5) (pa_cons (pv 6) pa_nil)))) (pa_cons (pe_fn (ok_greatest T) (hr.mono (by decide)) (by rfl) (pa_cons (pv 5) (pa_cons (pv 6) (pa_cons (pv 7) pa_nil)))) (pa_cons (pe_fn (ok_least T) (hr.mono (by decide)) (by rfl) (pa_cons (pv 4) (pa_cons (pv 5) pa_nil))) (pa_cons (pe_fn (ok_greatest T) (hr.mono (by decide)) (by rfl) (pa_cons (pv 4) (pa_cons (pv 5) pa_nil))) pa_nil))))))))
      (pss_cons (ps_set (i := 9) sc_law.nd rfl (Or.inl rfl) (pe_lst (pa_cons (pe_fn (ok__law_best T) (hr.mono (by decide)) (by rfl) (pa_cons (pv 3) (pa_cons pe_bl pa_nil))) (pa_cons (pe_fn (ok__law_best T) (hr.mono (by decide)) (by rfl) (pa_cons (pv 3) (pa_cons pe_bl pa_nil))) (pa_cons (pe_fn (ok__law_best T) (hr.mono (by decide)) (by rfl) (pa_cons (pe_slice sl_list (pv 3) po_none (po_some pe_int)) (pa_cons pe_bl pa_nil))) (pa_cons (pe_fn (ok__law_best T) (hr.mono (by decide)) (by rfl) (pa_cons (pe_slice sl_list (pv 3) (po_some pe_int) po_none) (pa_cons pe_bl pa_nil))) pa_nil))))))
      (pss_cons (ps_set (i := 9) sc_law.nd rfl (Or.inl rfl) (pe_op ox_add (pv 9) (pe_lst (pa_cons (pe_fn (ok__law_best T) (hr.mono (by decide)) (by rfl) (pa_cons (pe_slice sl_list (pv 3) po_none (po_some pe_int)) (pa_cons pe_bl pa_nil))) (pa_cons (pe_fn (ok__law_best T) (hr.mono (by decide)) (by rfl) (pa_cons (pe_slice sl_list (pv 3) po_none (po_some pe_int)) (pa_cons pe_bl pa_nil))) pa_nil)))))
      (pss_one (ps_if (PW.pt (pw_or (pt_not (pt_val (pe_fn (ok__law_same T 8) (hr.mono (by decide)) (by rfl) (pa_cons (pv 8) (pa_cons (pv 9) pa_nil))))) (pw_or1 (pt_not (pt_val (pe_fn (ok__law_same T 8) (hr.mono (by decide)) (by rfl) (pa_cons (pe_lst (pa_cons (pe_fn (ok_least T) (hr.mono (by decide)) (by rfl) (pa_cons (pv 7) pa_nil)) (pa_cons (pe_fn (ok_greatest T) (hr.mono (by decide)) (by rfl) (pa_cons (pv 6) pa_nil)) pa_nil))) (pa_cons (pe_lst (pa_cons (pv 7) (pa_cons (pv 6) pa_nil))) pa_nil)))))))) (pss_one (ps_ret pe_bl)) pss_nil)))))))))
      (pss_one (ps_ret (pe_fn (ok__law_same T 8) (hr.mono (by decide)) (by rfl) (pa_cons (pe_lst (pa_cons (pe_fn0 (ok_least T) (hr.mono (by decide)) (by rfl)) (pa_cons (pe_fn0 (ok_greatest T) (hr.mono (by decide)) (by rfl)) (pa_cons (pe_fn (ok_least T) (hr.mono (by decide)) (by rfl) (pa_cons pe_non pa_nil)) (pa_cons (pe_fn (ok_greatest T) (hr.mono (by decide)) (by rfl) (pa_cons pe_non (pa_cons pe_non pa_nil))) pa_nil))))) (pa_cons (pe_op ox_mul (pe_lst (pa_cons pe_non pa_nil)) pe_int) pa_nil))))))), fun a ns hl => w_law a ns hl⟩
end
/-! ### the head: facts by names, the run -/
def d_is_less : He.DefD := ⟨("is_less", none), "is_less", "is_less", defArgs s_is_less, defBody s_is_less, defScope s_is_less, [], []⟩
def d_least : He.DefD := ⟨("least", none), "least", "least", defArgs s_least, defBody s_least, defScope s_least, [], []⟩
def d_greatest : He.DefD := ⟨("greatest", none), "greatest", "greatest", defArgs s_greatest, defBody s_greatest, defScope s_greatest, [], []⟩
def d__law_feed : He.DefD := ⟨("_law_feed", none), "_law_feed", "_law_feed", defArgs s__law_feed, defBody s__law_feed, defScope s__law_feed, [], []⟩
def d__law_draw : He.DefD := ⟨("_law_draw", none), "_law_draw", "_law_draw", defArgs s__law_draw, defBody s__law_draw, defScope s__law_draw, [], []⟩
def d__law_any : He.DefD := ⟨("_law_any", none), "_law_any", "_law_any", defArgs s__law_any, defBody s__law_any, defScope s__law_any, [], []⟩
def d__law_same : He.DefD := ⟨("_law_same", none), "_law_same", "_law_same", defArgs s__law_same, defBody s__law_same, defScope s__law_same, [], []⟩
def d__law_gcd : He.DefD := ⟨("_law_gcd", none), "_law_gcd", "_law_gcd", defArgs s__law_gcd, defBody s__law_gcd, defScope s__law_gcd, [], []⟩
def d__law_low : He.DefD := ⟨("_law_low", none), "_law_low", "_law_low", defArgs s__law_low, defBody s__law_low, defScope s__law_low, [], []⟩
def d__law_under : He.DefD := ⟨("_law_under", none), "_law_under", "_law_under", defArgs s__law_under, defBody s__law_under, defScope s__law_under, [], []⟩
def d__law_lesser : He.DefD := ⟨("_law_lesser", none), "_law_lesser", "_law_lesser", defArgs s__law_lesser, defBody s__law_lesser, defScope s__law_lesser, [], []⟩
def d__law_bigger : He.DefD := ⟨("_law_bigger", none), "_law_bigger", "_law_bigger", defArgs s__law_bigger, defBody s__law_bigger, defScope s__law_bigger, [], []⟩
def d__law_part : He.DefD := ⟨("_law_part", none), "_law_part", "_law_part", defArgs s__law_part, defBody s__law_part, defScope s__law_part, [], []⟩
def d__law_best : He.DefD := ⟨("_law_best", none), "_law_best", "_law_best", defArgs s__law_best, defBody s__law_best, defScope s__law_best, [], []⟩
def d_law : He.DefD := ⟨("law", none), "law", "law", defArgs s_law, defBody s_law, defScope s_law, [], []⟩
def fns : List He.DefD := [d_is_less, d_least, d_greatest, d__law_feed, d__law_draw, d__law_any, d__law_same, d__law_gcd, d__law_low, d__law_under, d__law_lesser, d__law_bigger, d__law_part, d__law_best, d_law]
def fas : List He.Fa := [.glo "is_less", .glo "least", .glo "greatest", .glo "_law_feed", .glo "_law_draw", .glo "_law_any", .glo "_law_same", .glo "_law_gcd", .glo "_law_low", .glo "_law_under", .glo "_law_lesser", .glo "_law_bigger", .glo "_law_part", .glo "_law_best", .glo "law", .free "abs", .free "all", .free "bool", .free "dict", .free "int", .free "isinstance", .free "len", .free "list", .free "range", .free "str", .free "tuple", .free "zip"]
abbrev RR : PySem.W.OpenRow := PySem.W.OpenLaw.row PySem.Challenge.rw_tiespan_k03_least_and_greatest
abbrev hkk : PySem.W.Hook := He.hookD 4 fas fns
def obb (s : PySem.W.SharedT) : He.AlD := He.obsDG 4 fas fns (HandSHeadRun.getT s)
theorem ob_eq (s : PySem.W.SharedT) : obb s = hkk.obs s.abs := He.obsDG_eq (HandSHeadRun.getT_eq s)
def looseN : List Str := ["is_less", "least", "greatest", "_law_feed", "_law_draw", "_law_any", "_law_same", "_law_gcd", "_law_low", "_law_under", "_law_lesser", "_law_bigger", "_law_part", "_law_best"]
theorem runE (w : World) : HandSHeadRun.RunEq RR (PySem.W.view RR.prog [16]) hkk obb 2000 looseN w := by
  intro os
  kernel_rfl
theorem facts {P : Program} {w : World} {K : PySem.W.Frag} {h : Heap} {mg : Str → Option Value} {f : Addr} (X : K.In h) (G : h.Ns mainGlobals mg) (hfa : mg ("law" : Str) = some (.ref f)) (c : He.SaysD fas fns K) :
    ∃ fd : FuncData, (∀ (s : Shared) (v : Value), BindsTo s fd ⟨[v], []⟩ [("_law_script", v)]) ∧ ∀ base : Heap, K.In base → base.Ns mainGlobals mg → FnOk P w K mg base CX0 10 f fd ["_law_script"] (SpLaw K) := by
  obtain ⟨fd_0, F_0⟩ := c.def_ 0 (d := d_is_less) rfl
  obtain ⟨fd_1, F_1⟩ := c.def_ 1 (d := d_least) rfl
  obtain ⟨fd_2, F_2⟩ := c.def_ 2 (d := d_greatest) rfl
  obtain ⟨fd_3, F_3⟩ := c.def_ 3 (d := d__law_feed) rfl
  obtain ⟨fd_4, F_4⟩ := c.def_ 4 (d := d__law_draw) rfl
  obtain ⟨fd_5, F_5⟩ := c.def_ 5 (d := d__law_any) rfl
  obtain ⟨fd_6, F_6⟩ := c.def_ 6 (d := d__law_same) rfl
  obtain ⟨fd_7, F_7⟩ := c.def_ 7 (d := d__law_gcd) rfl
  obtain ⟨fd_8, F_8⟩ := c.def_ 8 (d := d__law_low) rfl
  obtain ⟨fd_9, F_9⟩ := c.def_ 9 (d := d__law_under) rfl
  obtain ⟨fd_10, F_10⟩ := c.def_ 10 (d := d__law_lesser) rfl
  obtain ⟨fd_11, F_11⟩ := c.def_ 11 (d := d__law_bigger) rfl
  obtain ⟨fd_12, F_12⟩ := c.def_ 12 (d := d__law_part) rfl
  obtain ⟨fd_13, F_13⟩ := c.def_ 13 (d := d__law_best) rfl
  obtain ⟨fd_14, F_14⟩ := c.def_ 14 (d := d_law) rfl
  have T : Tx K mg := ⟨He.free_ok X G (c.fact 15 (f := .free "abs") rfl), He.free_ok X G (c.fact 16 (f := .free "all") rfl), He.free_ok X G (c.fact 17 (f := .free "bool") rfl), He.free_ok X G (c.fact 18 (f := .free "dict") rfl), He.free_ok X G (c.fact 19 (f := .free "int") rfl), He.free_ok X G (c.fact 20 (f := .free "isinstance") rfl), He.free_ok X G (c.fact 21 (f := .free "len") rfl), He.free_ok X G (c.fact 22 (f := .free "list") rfl), He.free_ok X G (c.fact 23 (f := .free "range") rfl), He.free_ok X G (c.fact 24 (f := .free "str") rfl), He.free_ok X G (c.fact 25 (f := .free "tuple") rfl), He.free_ok X G (c.fact 26 (f := .free "zip") rfl), ⟨_, _, He.glo_ok X G (c.fact 0 (f := .glo "is_less") rfl), F_0⟩, ⟨_, _, He.glo_ok X G (c.fact 1 (f := .glo "least") rfl), F_1⟩, ⟨_, _, He.glo_ok X G (c.fact 2 (f := .glo "greatest") rfl), F_2⟩, ⟨_, _, He.glo_ok X G (c.fact 3 (f := .glo "_law_feed") rfl), F_3⟩, ⟨_, _, He.glo_ok X G (c.fact 4 (f := .glo "_law_draw") rfl), F_4⟩, ⟨_, _, He.glo_ok X G (c.fact 5 (f := .glo "_law_any") rfl), F_5⟩, ⟨_, _, He.glo_ok X G (c.fact 6 (f := .glo "_law_same") rfl), F_6⟩, ⟨_, _, He.glo_ok X G (c.fact 7 (f := .glo "_law_gcd") rfl), F_7⟩, ⟨_, _, He.glo_ok X G (c.fact 8 (f := .glo "_law_low") rfl), F_8⟩, ⟨_, _, He.glo_ok X G (c.fact 9 (f := .glo "_law_under") rfl), F_9⟩, ⟨_, _, He.glo_ok X G (c.fact 10 (f := .glo "_law_lesser") rfl), F_10⟩, ⟨_, _, He.glo_ok X G (c.fact 11 (f := .glo "_law_bigger") rfl), F_11⟩, ⟨_, _, He.glo_ok X G (c.fact 12 (f := .glo "_law_part") rfl), F_12⟩, ⟨_, _, He.glo_ok X G (c.fact 13 (f := .glo "_law_best") rfl), F_13⟩, ⟨_, _, He.glo_ok X G (c.fact 14 (f := .glo "law") rfl), F_14⟩⟩
  have e := hfa.symm.trans (He.glo_ok X G (c.fact 14 (f := .glo "law") rfl))
  cases e
  have b := FunD.bindsA (ps := ["_law_script"]) F_14 fun _ _ _ _ _ _ us hl => match us, hl with | [_], _ => rfl
  exact ⟨fd_14, fun s v => b s [v] rfl, fun base _ _ => ok_law T F_14⟩
end Ts
open PySem PySem.W PySem.Calls PyProof.Rows
set_option maxRecDepth 100000 in
set_option maxHeartbeats 0 in
theorem PySem.Challenge.cw_tiespan_k03_least_and_greatest_holds : PySem.Challenge.rw_tiespan_k03_least_and_greatest.Holds := by
  w_on; o_law
  refine HandSHeadRun.head_any (r := OpenLaw.row PySem.Challenge.rw_tiespan_k03_least_and_greatest) (q := view (OpenLaw.row PySem.Challenge.rw_tiespan_k03_least_and_greatest).prog [16]) (H := Ts.hkk) (ob := Ts.obb) (M := 2000) (loose := Ts.looseN) (d := HandSHeadRun.topDef (OpenLaw.row PySem.Challenge.rw_tiespan_k03_least_and_greatest).prog 16) (kwd := []) Ts.ob_eq
    (by kernel_rfl) (fun s => by kernel_rfl) Ts.runE (by kernel_rfl) (by kernel_rfl) (by kernel_rfl) (by rfl) (by first | assumption | decide +kernel) (by decide +kernel) ⟨rfl, rfl, rfl, rfl, rfl, by decide +kernel⟩ ?hw ?hc
  case hw => w_witness2
  case hc =>
    refine Ts.walk_ofEB (l := PySem.Challenge.rw_tiespan_k03_least_and_greatest) (n := 63) (k := 10) (x := "_law_script") rfl (by decide) (by kernel_rfl) ⟨rfl, by decide, by decide⟩ ?F
    intro w mg fa h Y G hmg0
    obtain ⟨K, KX, c⟩ := Y
    have hmg : mg ("law" : PySem.Str) = some (.ref fa) := by
      have e : (HandSHeadRun.topDef (OpenLaw.row PySem.Challenge.rw_tiespan_k03_least_and_greatest).prog 16).name = ("law" : PySem.Str) := by kernel_rfl
      rw [← e]
      exact hmg0
    obtain ⟨fd, hb, hF⟩ := Ts.facts (P := (PySem.Challenge.rw_tiespan_k03_least_and_greatest).prog) (w := w) KX G hmg c
    exact ⟨K, fd, Ts.SpLaw K, KX, hb, fun H a ns hl hS => ⟨a, ns, rfl, hS, hl, fun _ => rfl⟩, hF⟩

