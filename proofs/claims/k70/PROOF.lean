import PyProof.Rows.All
import Wide.All
import OpenK.AllK
import Wide.FinOn
import HandS.ForMost
import HandS.ForExc
import HandS.Wide
import HandS.WideBits
import HandS.IsInst
import HandS.Defaults
import HandS.EndBits
import HandS.Star
import HandS.Zip
import HandS.Flow
import HandS.Lambda
import HandS.HeadEnd
import HandS.NoneIn
import HandS.More
import HandS.Text
import HandS.Codes
import HandS.Style
import HandS.Deep
import HandS.SetFor
import HandS.SetTxt0
import KE.KSuperObj
import HandS.SortInts
import HandS.FStr
import HandS.RaiseMore
import HandS.Dict
import HandS.HeadHook2
import KE.LtData
import HandS.DictComp
import HandS.ExcInit
import HandS.ExcSuper
import KE.KExcSuper
import KE.KExcInit
import HandS.TryMany
import HandS.ExcField
import KE.KTryMore
import PyProof.Rows.News
import HandS.HotCalls
import HandS.EndTab
import KE.KNestM
import PyProof.ListStr
import PyProof.EnumMake
import PyProof.Draws
import KE.GoesMore
import KE.KDictPairs
import PyProof.DictUpdate
import PyProof.DictDisplay
import PyProof.Rows.SortShellAny
import HandS.ClsMeth
import KE.KStateDown
import HandS.Head0
import HandS.Head1
import HandS.Head2
import HandS.HeadHook1
import PySem.Challenge.RW_tiespan_k70_blocks_four_deep
set_option Elab.async false
set_option linter.all false
set_option maxRecDepth 100000
set_option maxHeartbeats 2000000
set_option maxHeartbeats 8000000
/-! Fractions in lowest terms, plain. -/
namespace Fr
/-- what lowest computes -/
def low (a b : Int) : Int × Int := let g : Int := (Int.gcd a b : Int); let p := if b < 0 then -g else g; (a.fdiv p, b.fdiv p)
theorem fdiv_of_mul {a p q : Int} (hp : p ≠ 0) (h : a = q * p) : a.fdiv p = q := by
  rw [h, Int.mul_fdiv_cancel q hp]
/-- a fraction: the denominator above 0, lowest terms -/
def Ok (f : Int × Int) : Prop := 0 < f.2 ∧ Int.gcd f.1 f.2 = 1
theorem low_spec {a b : Int} (hb : b ≠ 0) : ∃ p : Int, p ≠ 0 ∧ a = (low a b).1 * p ∧ b = (low a b).2 * p ∧ 0 < (low a b).2 ∧ Int.gcd (low a b).1 (low a b).2 = 1 ∧ p.natAbs = Int.gcd a b := by
  have hg : 0 < Int.gcd a b := Int.gcd_pos_of_ne_zero_right a hb
  obtain ⟨a', ha⟩ := Int.gcd_dvd_left (a := a) (b := b)
  obtain ⟨b', hb'⟩ := Int.gcd_dvd_right (a := a) (b := b)
  have hco : Int.gcd a' b' = 1 := by
    have h1 : Int.gcd (((Int.gcd a b : Nat) : Int) * a') (((Int.gcd a b : Nat) : Int) * b') = Int.gcd a b * Int.gcd a' b' := by
      rw [Int.gcd_mul_left, Int.natAbs_natCast]
    rw [← ha, ← hb'] at h1
    have h2 : Int.gcd a b * 1 = Int.gcd a b * Int.gcd a' b' := by rw [Nat.mul_one]; exact h1
    exact (Nat.eq_of_mul_eq_mul_left hg h2).symm
  generalize hG : ((Int.gcd a b : Nat) : Int) = g at ha hb'
  have hgp : 0 < g := by omega
  by_cases hn : b < 0
  · have e : low a b = (-a', -b') := by
      unfold low
      simp only [hG, if_pos hn]
      rw [fdiv_of_mul (q := -a') (by omega) (by rw [Int.neg_mul_neg, Int.mul_comm]; exact ha), fdiv_of_mul (q := -b') (by omega) (by rw [Int.neg_mul_neg, Int.mul_comm]; exact hb')]
    rw [e]
    refine ⟨-g, by omega, by show a = -a' * -g; rw [Int.neg_mul_neg, Int.mul_comm]; exact ha, by show b = -b' * -g; rw [Int.neg_mul_neg, Int.mul_comm]; exact hb', ?_, ?_, ?_⟩
    · show 0 < -b'
      have : ¬ 0 ≤ b' := fun z => by
        have := Int.mul_nonneg (Int.le_of_lt hgp) z
        omega
      omega
    · show Int.gcd (-a') (-b') = 1
      rw [Int.gcd_neg, Int.neg_gcd]; exact hco
    · rw [Int.natAbs_neg, ← hG]; simp
  · have e : low a b = (a', b') := by
      unfold low
      simp only [hG, if_neg hn]
      rw [fdiv_of_mul (q := a') (by omega) (by rw [Int.mul_comm]; exact ha), fdiv_of_mul (q := b') (by omega) (by rw [Int.mul_comm]; exact hb')]
    rw [e]
    refine ⟨g, by omega, by show a = a' * g; rw [Int.mul_comm]; exact ha, by show b = b' * g; rw [Int.mul_comm]; exact hb', ?_, hco, by rw [← hG]; simp⟩
    show 0 < b'
    have h0 : ¬ b' ≤ 0 := fun z => by
      have := Int.mul_nonneg (Int.le_of_lt hgp) (show 0 ≤ -b' by omega)
      rw [Int.mul_neg] at this
      omega
    omega
theorem low_ok {a b : Int} (hb : b ≠ 0) : Ok (low a b) := by
  obtain ⟨p, h1, h2, h3, h4, h5, _⟩ := low_spec (a := a) hb
  exact ⟨h4, h5⟩
theorem low_eq {a b : Int} (hb : b ≠ 0) : (low a b).1 * b = a * (low a b).2 := by
  obtain ⟨p, h1, h2, h3, _⟩ := low_spec (a := a) hb
  rw [show (low a b).1 * b = (low a b).1 * ((low a b).2 * p) by rw [← h3], show a * (low a b).2 = (low a b).1 * p * (low a b).2 by rw [← h2]]
  rw [Int.mul_assoc, Int.mul_comm p]
theorem low_abs {a b : Int} (hb : b ≠ 0) : (low a b).1.natAbs ≤ a.natAbs ∧ (low a b).2.natAbs ≤ b.natAbs := by
  obtain ⟨p, h1, h2, h3, _⟩ := low_spec (a := a) hb
  have hp : 0 < p.natAbs := by omega
  constructor
  · have : a.natAbs = (low a b).1.natAbs * p.natAbs := by rw [← Int.natAbs_mul, ← h2]
    rw [this]; exact Nat.le_mul_of_pos_right _ hp
  · have : b.natAbs = (low a b).2.natAbs * p.natAbs := by rw [← Int.natAbs_mul, ← h3]
    rw [this]; exact Nat.le_mul_of_pos_right _ hp
theorem dvd_co {a b d : Int} (h : Int.gcd a b = 1) (hd : b ∣ a * d) : b ∣ d := by
  have h1 : b.natAbs ∣ a.natAbs * d.natAbs := by rw [← Int.natAbs_mul]; exact Int.natAbs_dvd_natAbs.mpr hd
  have h2 : Nat.Coprime b.natAbs a.natAbs := by show Nat.gcd b.natAbs a.natAbs = 1; rw [Nat.gcd_comm]; exact h
  exact Int.natAbs_dvd_natAbs.mp (h2.dvd_of_dvd_mul_left h1)
/-- two fractions that are worth the same are one -/
theorem Ok.ext {f g : Int × Int} (hf : Ok f) (hg : Ok g) (h : f.1 * g.2 = g.1 * f.2) : f = g := by
  obtain ⟨a, b⟩ := f
  obtain ⟨c, d⟩ := g
  obtain ⟨h1, h2⟩ := hf
  obtain ⟨h3, h4⟩ := hg
  simp only at h1 h2 h3 h4 h
  have d1 : b ∣ d := by
    have : b ∣ a * d := ⟨c, by rw [h, Int.mul_comm]⟩
    exact dvd_co h2 this
  have d2 : d ∣ b := by
    have : d ∣ c * b := ⟨a, by rw [← h, Int.mul_comm]⟩
    exact dvd_co h4 this
  have e : b = d := Int.dvd_antisymm (by omega) (by omega) d1 d2
  subst e
  have : a = c := Int.eq_of_mul_eq_mul_right (by omega) h
  rw [this]
theorem low_unique {a b : Int} {f : Int × Int} (hb : b ≠ 0) (hf : Ok f) (h : f.1 * b = a * f.2) : low a b = f := by
  have h1 := low_ok (a := a) hb
  have h2 := low_eq (a := a) hb
  refine h1.ext hf ?_
  have : (low a b).1 * f.2 * b = f.1 * (low a b).2 * b := by
    rw [Int.mul_assoc, Int.mul_comm f.2, ← Int.mul_assoc, h2, Int.mul_assoc, Int.mul_comm (low a b).2, ← Int.mul_assoc, ← h, Int.mul_assoc, Int.mul_comm b, ← Int.mul_assoc]
  exact Int.eq_of_mul_eq_mul_right hb this
end Fr
/-! Ts: data, what stands for it in a frozen part of the heap, a memory of things that change, and a calculus over both. -/
namespace Ts
open PySem L2

/-- data -/
inductive D where
  | non | bl (b : Bool) | int (i : Int) | str (x : Str)
  | lst (ds : List D) | tup (ds : List D)
  /-- a tuple of which nothing more is known (a pair of zip, a star's) -/
  | pr (ds : List D)
  | dic (kvs : List (Key × D)) | dit (kvs : List (List Key × D))
  | obj (C : Str) (fs : List (Str × D))
  | feed
  | lat (a : Addr) (ds : List D)
  | ref (a : Addr)
  /-- an exception: where it stands, its dict, its fields -/
  | exn (a dd : Addr) (fs : List (Str × D))
  /-- a lambda of no parameters: its code object, the names of the frame that made it -/
  | clo (f c : Addr) (q : Str) (σ : List (Option V)) (sl : List (Option D))
  | oth (v : V)
/-- a thing that changes -/
inductive MO where
  | lst (ds : List D) | dic (kvs : List (Key × D)) | dit (kvs : List (List Key × D)) | ins (C : Str) (fs : List (Str × D))
  /-- a dict while it is walked -/
  | lck (kvs : List (Key × D))
  /-- the table of code objects of the name q -/
  | tab (q : Str)
/-- the memory: the things that change, by their addresses -/
abbrev Mem := Addr → Option MO
def mset (m : Mem) (a : Addr) (o : MO) : Mem := fun b => if b = a then some o else m b
def mdel (m : Mem) (a : Addr) : Mem := fun b => if b = a then none else m b
theorem mset_same {m : Mem} {a : Addr} {o : MO} : mset m a o a = some o := if_pos rfl
theorem mset_ne {m : Mem} {a b : Addr} {o : MO} (h : b ≠ a) : mset m a o b = m b := if_neg h
theorem mdel_same {m : Mem} {a : Addr} : mdel m a a = none := if_pos rfl
theorem mdel_ne {m : Mem} {a b : Addr} (h : b ≠ a) : mdel m a b = m b := if_neg h
theorem mset_mset {m : Mem} {a : Addr} {o u : MO} : mset (mset m a o) a u = mset m a u := by
  funext b; unfold mset; split <;> rfl
def MLe (m m' : Mem) : Prop := ∀ a o, m a = some o → m' a = some o
theorem MLe.refl (m : Mem) : MLe m m := fun _ _ h => h
theorem mle_new {m : Mem} {a : Addr} {o : MO} (h : m a = none) : MLe m (mset m a o) := fun b u e => by
  have : b ≠ a := fun z => by rw [z, h] at e; cases e
  rw [mset_ne this]; exact e
/-- an exception: its class by name, its attributes -/
structure XD where
  cls : Str
  fs : List (Str × D)

/-- what the law's feed is, whatever it holds: a list of four, its cells a list of ints -/
def feedP (cs : Addr) (a : Addr) (h : Heap) : Prop := ∃ (its : List Value) (n : Nat) (i j m : Int), h.get? a = some { cls := .type "list", data := .seq its.toArray n } ∧ Vals [.ref cs, .int i, .int j, .int m] its ∧ 0 ≤ i
def feedO (cs a : Addr) : HO := .ext (feedP cs a)

/-- a tuple that has no dict -/
def SqN (K : PySem.W.Frag) (F : Hp) (a : Addr) (xs : List V) : Prop := (∃ o : Obj, F a = some (.frz o (.tup xs)) ∧ o.dict = none) ∨
  ∃ (o : Obj) (its : Array Value) (n : Nat), K.lookup a = some o ∧ o.cls = .type "tuple" ∧ o.dict = none ∧ o.data = .seq its n ∧ its.size ≤ sizeLine ∧ Vals xs its.toList
theorem SqN.sqt {K : PySem.W.Frag} {F : Hp} {a : Addr} {xs : List V} (h : SqN K F a xs) : SqT K F a xs := by
  rcases h with ⟨o, h, _⟩ | ⟨o, its, n, h1, h2, _, h3, h4, h5⟩
  · exact .inl (.inr ⟨o, h⟩)
  · exact .inr ⟨o, its, n, h1, h2, h3, h4, h5⟩
mutual
inductive Rp (K : PySem.W.Frag) (mg : Str → Option Value) (F : Hp) : V → D → Prop
  | non : Rp K mg F .non .non
  | bl (b : Bool) : Rp K mg F (.bl b) (.bl b)
  | int (i : Int) : Rp K mg F (.int i) (.int i)
  | str (x : Str) : Rp K mg F (.str x) (.str x)
  | lst {a : Addr} {xs : List V} {ds : List D} : F a = some (.lst xs) → RpL K mg F xs ds → Rp K mg F (.ref a) (.lst ds)
  | tup {a : Addr} {xs : List V} {ds : List D} : SqN K F a xs → RpL K mg F xs ds → Rp K mg F (.ref a) (.tup ds)
  | pr {a : Addr} {xs : List V} {ds : List D} : F a = some (.tup xs) → RpL K mg F xs ds → Rp K mg F (.ref a) (.pr ds)
  | dic {a : Addr} {o : Obj} {xs : List (Key × V)} {ds : List (Key × D)} : F a = some (.frz o (.dK xs)) → RpK K mg F xs ds → Rp K mg F (.ref a) (.dic ds)
  | dit {a : Addr} {xs : List (List Key × V)} {ds : List (List Key × D)} : F a = some (.dT xs) → RpK K mg F xs ds → Rp K mg F (.ref a) (.dit ds)
  | obj {a Ca dx : Addr} {C : Str} {xs : List (Str × V)} {ds : List (Str × D)} : mg C = some (.ref Ca) → F a = some (.ins Ca dx xs) → RpK K mg F xs ds → Rp K mg F (.ref a) (.obj C ds)
  | feed {a cs : Addr} {ns : List Int} : F a = some (feedO cs a) → SqL K F cs (ns.map V.int) → Rp K mg F (.ref a) .feed
  | lat {a : Addr} {xs : List V} {ds : List D} : SqL K F a xs → RpL K mg F xs ds → Rp K mg F (.ref a) (.lat a ds)
  | ref (a : Addr) : Rp K mg F (.ref a) (.ref a)
  | exn {a dd : Addr} {xs : List (Str × V)} {ds : List (Str × D)} : F dd = some (.xd xs) → RpK K mg F xs ds → Rp K mg F (.ref a) (.exn a dd ds)
  | clo {f c : Addr} {q : Str} {σ : List (Option V)} {sl : List (Option D)} : F c = some (LamX.CodeO c q) → RpS K mg F σ sl → Rp K mg F (.ref f) (.clo f c q σ sl)
  | oth (v : V) : Rp K mg F v (.oth v)
inductive RpL (K : PySem.W.Frag) (mg : Str → Option Value) (F : Hp) : List V → List D → Prop
  | nil : RpL K mg F [] []
  | cons {v : V} {vs : List V} {d : D} {ds : List D} : Rp K mg F v d → RpL K mg F vs ds → RpL K mg F (v :: vs) (d :: ds)
inductive RpS (K : PySem.W.Frag) (mg : Str → Option Value) (F : Hp) : List (Option V) → List (Option D) → Prop
  | nil : RpS K mg F [] []
  | no {o : Option V} {vs : List (Option V)} {ds : List (Option D)} : RpS K mg F vs ds → RpS K mg F (o :: vs) (none :: ds)
  | yes {v : V} {vs : List (Option V)} {d : D} {ds : List (Option D)} : Rp K mg F v d → RpS K mg F vs ds → RpS K mg F (some v :: vs) (some d :: ds)
inductive RpK (K : PySem.W.Frag) (mg : Str → Option Value) (F : Hp) : {κ : Type} → List (κ × V) → List (κ × D) → Prop
  | nil {κ : Type} : RpK K mg F (κ := κ) [] []
  | cons {κ : Type} {k : κ} {v : V} {vs : List (κ × V)} {d : D} {ds : List (κ × D)} : Rp K mg F v d → RpK K mg F vs ds → RpK K mg F ((k, v) :: vs) ((k, d) :: ds)
end

/-- more is frozen -/
def Gr (F F' : Hp) : Prop := ∀ a o, F a = some o → F' a = some o
theorem Gr.refl (F : Hp) : Gr F F := fun _ _ h => h
theorem Gr.trans {F F1 F2 : Hp} (a : Gr F F1) (b : Gr F1 F2) : Gr F F2 := fun x o h => b x o (a x o h)
theorem Gr.rd {F F' : Hp} (g : Gr F F') {a : Addr} {o : HO} (h : Rd F a o) : Rd F' a o := by
  rcases h with h | ⟨od, h⟩
  · exact .inl (g _ _ h)
  · exact .inr ⟨od, g _ _ h⟩
theorem Gr.sql {K : PySem.W.Frag} {F F' : Hp} (g : Gr F F') {a : Addr} {xs : List V} (h : SqL K F a xs) : SqL K F' a xs := h.imp g.rd id
theorem Gr.sqn {K : PySem.W.Frag} {F F' : Hp} (g : Gr F F') {a : Addr} {xs : List V} (h : SqN K F a xs) : SqN K F' a xs := h.imp (fun ⟨o, h, d⟩ => ⟨o, g _ _ h, d⟩) id
theorem Gr.sqt {K : PySem.W.Frag} {F F' : Hp} (g : Gr F F') {a : Addr} {xs : List V} (h : SqT K F a xs) : SqT K F' a xs := h.imp g.rd id

section
variable {K : PySem.W.Frag} {mg : Str → Option Value} {F F' : Hp}
mutual
theorem Rp.mono (g : Gr F F') : ∀ {v : V} {d : D}, Rp K mg F v d → Rp K mg F' v d
  | _, _, .non => .non
  | _, _, .bl b => .bl b
  | _, _, .int i => .int i
  | _, _, .str x => .str x
  | _, _, .lst s r => .lst (g _ _ s) (RpL.mono g r)
  | _, _, .tup s r => .tup (g.sqn s) (RpL.mono g r)
  | _, _, .pr s r => .pr (g _ _ s) (RpL.mono g r)
  | _, _, .dic s r => .dic (g _ _ s) (RpK.mono g r)
  | _, _, .dit s r => .dit (g _ _ s) (RpK.mono g r)
  | _, _, .obj n s r => .obj n (g _ _ s) (RpK.mono g r)
  | _, _, .feed s r => .feed (g _ _ s) (g.sql r)
  | _, _, .lat s r => .lat (g.sql s) (RpL.mono g r)
  | _, _, .ref a => .ref a
  | _, _, .exn s r => .exn (g _ _ s) (RpK.mono g r)
  | _, _, .clo s r => .clo (g _ _ s) (RpS.mono g r)
  | _, _, .oth v => .oth v
theorem RpL.mono (g : Gr F F') : ∀ {v : List V} {d : List D}, RpL K mg F v d → RpL K mg F' v d
  | _, _, .nil => .nil
  | _, _, .cons r s => .cons (Rp.mono g r) (RpL.mono g s)
theorem RpS.mono (g : Gr F F') : ∀ {v : List (Option V)} {d : List (Option D)}, RpS K mg F v d → RpS K mg F' v d
  | _, _, .nil => .nil
  | _, _, .no s => .no (RpS.mono g s)
  | _, _, .yes r s => .yes (Rp.mono g r) (RpS.mono g s)
theorem RpK.mono (g : Gr F F') : ∀ {κ : Type} {v : List (κ × V)} {d : List (κ × D)}, RpK K mg F v d → RpK K mg F' v d
  | _, _, _, .nil => .nil
  | _, _, _, .cons r s => .cons (Rp.mono g r) (RpK.mono g s)
end
theorem RpS.len : ∀ {vs : List (Option V)} {ds : List (Option D)}, RpS K mg F vs ds → vs.length = ds.length
  | _, _, .nil => rfl
  | _, _, .no s => congrArg Nat.succ (RpS.len s)
  | _, _, .yes _ s => congrArg Nat.succ (RpS.len s)
theorem RpS.at : ∀ {vs : List (Option V)} {ds : List (Option D)} {i : Nat} {d : D}, RpS K mg F vs ds → ds[i]? = some (some d) → ∃ v, vs[i]? = some (some v) ∧ Rp K mg F v d
  | _, _, _, _, .nil, h => by simp at h
  | _, _, 0, _, .no _, h => by simp at h
  | _, _, 0, _, .yes r _, h => by simp at h; subst h; exact ⟨_, rfl, r⟩
  | _, _, i + 1, _, .no s, h => by
    obtain ⟨v, h1, h2⟩ := RpS.at (i := i) s (by simpa using h)
    exact ⟨v, by simpa using h1, h2⟩
  | _, _, i + 1, _, .yes _ s, h => by
    obtain ⟨v, h1, h2⟩ := RpS.at (i := i) s (by simpa using h)
    exact ⟨v, by simpa using h1, h2⟩
theorem RpS.of : ∀ {vs : List (Option V)} {ds : List (Option D)}, vs.length = ds.length → (∀ (i : Nat) d, ds[i]? = some (some d) → ∃ v, vs[i]? = some (some v) ∧ Rp K mg F v d) → RpS K mg F vs ds
  | [], [], _, _ => .nil
  | [], _ :: _, h, _ => by simp at h
  | _ :: _, [], h, _ => by simp at h
  | o :: vs, none :: ds, h, hi => .no (RpS.of (by simpa using h) fun i d e => by
    obtain ⟨v, h1, h2⟩ := hi (i + 1) d (by simpa using e)
    exact ⟨v, by simpa using h1, h2⟩)
  | o :: vs, some d :: ds, h, hi => by
    obtain ⟨v, h1, h2⟩ := hi 0 d (by simp)
    have h1 : o = some v := by simpa using h1
    subst h1
    exact .yes h2 (RpS.of (by simpa using h) fun i d e => by
      obtain ⟨v, h1, h2⟩ := hi (i + 1) d (by simpa using e)
      exact ⟨v, by simpa using h1, h2⟩)
theorem RpL.len : ∀ {vs : List V} {ds : List D}, RpL K mg F vs ds → vs.length = ds.length
  | _, _, .nil => rfl
  | _, _, .cons _ s => congrArg Nat.succ (RpL.len s)
theorem RpL.at : ∀ {vs : List V} {ds : List D} {i : Nat} {d : D}, RpL K mg F vs ds → ds[i]? = some d → ∃ v, vs[i]? = some v ∧ Rp K mg F v d
  | _, _, _, _, .nil, h => by simp at h
  | _, _, 0, _, .cons r _, h => by simp at h; subst h; exact ⟨_, rfl, r⟩
  | _, _, i + 1, _, .cons _ s, h => by
    obtain ⟨v, h1, h2⟩ := RpL.at (i := i) s (by simpa using h)
    exact ⟨v, by simpa using h1, h2⟩
theorem RpL.atV : ∀ {vs : List V} {ds : List D} {i : Nat} {v : V}, RpL K mg F vs ds → vs[i]? = some v → ∃ d, ds[i]? = some d ∧ Rp K mg F v d
  | _, _, _, _, .nil, h => by simp at h
  | _, _, 0, _, .cons r _, h => by simp at h; subst h; exact ⟨_, rfl, r⟩
  | _, _, i + 1, _, .cons _ s, h => by
    obtain ⟨v, h1, h2⟩ := RpL.atV (i := i) s (by simpa using h)
    exact ⟨v, by simpa using h1, h2⟩
theorem RpL.app : ∀ {vs ws : List V} {ds es : List D}, RpL K mg F vs ds → RpL K mg F ws es → RpL K mg F (vs ++ ws) (ds ++ es)
  | _, _, _, _, .nil, s => s
  | _, _, _, _, .cons r t, s => .cons r (RpL.app t s)
theorem RpL.drop : ∀ {vs : List V} {ds : List D} (n : Nat), RpL K mg F vs ds → RpL K mg F (vs.drop n) (ds.drop n)
  | _, _, 0, r => r
  | _, _, _ + 1, .nil => .nil
  | _, _, n + 1, .cons _ s => RpL.drop n s
theorem RpL.take : ∀ {vs : List V} {ds : List D} (n : Nat), RpL K mg F vs ds → RpL K mg F (vs.take n) (ds.take n)
  | _, _, 0, _ => .nil
  | _, _, _ + 1, .nil => .nil
  | _, _, n + 1, .cons r s => .cons r (RpL.take n s)
theorem RpL.set {v : V} {d : D} (r : Rp K mg F v d) : ∀ {vs : List V} {ds : List D} (i : Nat), RpL K mg F vs ds → RpL K mg F (vs.set i v) (ds.set i d)
  | _, _, _, .nil => .nil
  | _, _, 0, .cons _ s => .cons r s
  | _, _, i + 1, .cons q s => .cons q (RpL.set r i s)
theorem RpL.rep {v : V} {d : D} (r : Rp K mg F v d) : ∀ n : Nat, RpL K mg F (List.replicate n v) (List.replicate n d)
  | 0 => .nil
  | n + 1 => .cons r (RpL.rep r n)
theorem RpL.ints : ∀ ns : List Int, RpL K mg F (ns.map V.int) (ns.map D.int)
  | [] => .nil
  | n :: ns => .cons (.int n) (RpL.ints ns)
theorem RpL.strs : ∀ ns : List Str, RpL K mg F (ns.map V.str) (ns.map D.str)
  | [] => .nil
  | n :: ns => .cons (.str n) (RpL.strs ns)
theorem RpL.atI {vs : List V} {ds : List D} {i : Int} {d : D} (r : RpL K mg F vs ds) (h : L2.atI ds i = some d) : ∃ v, L2.atI vs i = some v ∧ Rp K mg F v d := by
  unfold L2.atI at h ⊢
  rw [r.len]
  cases e : ixN ds.length i with
  | none => rw [e] at h; cases h
  | some j =>
    rw [e] at h
    obtain ⟨v, h1, h2⟩ := r.at (i := j) h
    exact ⟨v, h1, h2⟩
theorem RpK.len : ∀ {κ : Type} {vs : List (κ × V)} {ds : List (κ × D)}, RpK K mg F vs ds → vs.length = ds.length
  | _, _, _, .nil => rfl
  | _, _, _, .cons _ s => congrArg Nat.succ (RpK.len s)
theorem RpK.keys : ∀ {κ : Type} {vs : List (κ × V)} {ds : List (κ × D)}, RpK K mg F vs ds → vs.map (·.1) = ds.map (·.1)
  | _, _, _, .nil => rfl
  | _, _, _, .cons _ s => by rw [List.map_cons, List.map_cons, RpK.keys s]
theorem RpK.lookup {κ : Type} [BEq κ] {k : κ} : ∀ {vs : List (κ × V)} {ds : List (κ × D)} {d : D}, RpK K mg F vs ds → ds.lookup k = some d → ∃ v, vs.lookup k = some v ∧ Rp K mg F v d
  | _, _, _, .nil, h => by cases h
  | _, _, d, .cons (k := k') (v := v) (d := d') r s, h => by
    simp only [List.lookup_cons] at h ⊢
    cases e : (k == k') with
    | true => rw [e] at h; cases h; exact ⟨v, rfl, r⟩
    | false => rw [e] at h; exact RpK.lookup s h
theorem RpK.lookupN {κ : Type} [BEq κ] {k : κ} : ∀ {vs : List (κ × V)} {ds : List (κ × D)}, RpK K mg F vs ds → ds.lookup k = none → vs.lookup k = none
  | _, _, .nil, _ => rfl
  | _, _, .cons (k := k') r s, h => by
    simp only [List.lookup_cons] at h ⊢
    cases e : (k == k') with
    | true => rw [e] at h; cases h
    | false => rw [e] at h; exact RpK.lookupN s h
end

/-- what is frozen stands (a dict may be locked while it is walked) -/
def isD : HO → Prop
  | .dK _ => True
  | .dT _ => True
  | _ => False
def Le (F H : Hp) : Prop := ∀ a o, F a = some o → H a = some o ∨ (isD o ∧ ∃ od, H a = some (.frz od o))
theorem Le.at {F H : Hp} (l : Le F H) {a : Addr} {o : HO} (h : F a = some o) (n : ¬ isD o) : H a = some o := (l _ _ h).elim id fun z => absurd z.1 n
theorem Le.rdl {F H : Hp} (l : Le F H) {a : Addr} {xs : List V} (h : Rd F a (.lst xs)) : Rd H a (.lst xs) := by
  rcases h with h | ⟨od, h⟩
  · exact .inl (l.at h id)
  · exact .inr ⟨od, l.at h id⟩
theorem Le.rdt {F H : Hp} (l : Le F H) {a : Addr} {xs : List V} (h : Rd F a (.tup xs)) : Rd H a (.tup xs) := by
  rcases h with h | ⟨od, h⟩
  · exact .inl (l.at h id)
  · exact .inr ⟨od, l.at h id⟩
theorem Le.lst {F H : Hp} (l : Le F H) {a : Addr} {xs : List V} (h : F a = some (.lst xs)) : H a = some (.lst xs) := l.at h id
theorem Le.ins {F H : Hp} (l : Le F H) {a C dx : Addr} {fs : List (Str × V)} (h : F a = some (.ins C dx fs)) : H a = some (.ins C dx fs) := l.at h id
theorem Le.ext {F H : Hp} (l : Le F H) {a : Addr} {p : Heap → Prop} (h : F a = some (.ext p)) : H a = some (.ext p) := l.at h id
theorem Le.some {F H : Hp} (l : Le F H) {a : Addr} {o : HO} (h : F a = some o) : H a ≠ none := by
  rcases l _ _ h with h | ⟨_, od, h⟩ <;> rw [h] <;> simp
theorem Le.none {F H : Hp} (l : Le F H) {a : Addr} (h : H a = none) : F a = none := by
  cases e : F a with
  | none => rfl
  | some o => exact absurd h (l.some e)
section
variable {K : PySem.W.Frag}
theorem Le.sql {F H : Hp} (l : Le F H) {a : Addr} {xs : List V} (h : SqL K F a xs) : SqL K H a xs := h.imp l.rdl id
theorem Le.sqt {F H : Hp} (l : Le F H) {a : Addr} {xs : List V} (h : SqT K F a xs) : SqT K H a xs := h.imp l.rdt id
end

/-- a step that changes nothing of what was tracked; what is newly frozen is new -/
structure Step (F H F' H' : Hp) : Prop where
  ex : ∀ a o, H a = some o → H' a = some o
  gr : Gr F F'
  le : Le F' H'
  nw : ∀ a o, F' a = some o → F a = some o ∨ H a = none
theorem Step.refl {F H : Hp} (l : Le F H) : Step F H F H := ⟨fun _ _ h => h, Gr.refl F, l, fun _ _ h => .inl h⟩
theorem Step.back {F H F' H' : Hp} (s : Step F H F' H') {a : Addr} (h : H' a = none) : H a = none := by
  cases e : H a with
  | none => rfl
  | some o => rw [s.ex _ _ e] at h; cases h
theorem Step.trans {F H F1 H1 F2 H2 : Hp} (s : Step F H F1 H1) (t : Step F1 H1 F2 H2) : Step F H F2 H2 :=
  ⟨fun a o h => t.ex a o (s.ex a o h), s.gr.trans t.gr, t.le, fun a o h => by
    rcases t.nw a o h with h | h
    · exact s.nw a o h
    · exact .inr (s.back h)⟩
theorem Step.ext {F H H' : Hp} (l : Le F H) (h : ∀ a o, H a = some o → H' a = some o) : Step F H F H' :=
  ⟨h, Gr.refl F, fun a o e => (l a o e).imp (h _ _) (fun ⟨x, od, y⟩ => ⟨x, od, h _ _ y⟩), fun _ _ h => .inl h⟩
/-- a new object is laid and frozen -/
theorem Step.new {F H : Hp} {p : Addr} {o : HO} (l : Le F H) (h : H p = none) : Step F H (upd F p o) (upd H p o) := by
  have fp := l.none h
  refine ⟨fun a u e => by rw [upd_ne (ne_of_none e h)]; exact e, fun a u e => by rw [upd_ne (ne_of_none e fp)]; exact e, fun a u e => ?_, fun a u e => ?_⟩
  · by_cases ha : a = p
    · subst ha; rw [upd_same] at e ⊢; exact .inl e
    · rw [upd_ne ha] at e ⊢
      exact l a u e
  · by_cases ha : a = p
    · subst ha; exact .inr h
    · rw [upd_ne ha] at e; exact .inl e
theorem gr_upd {F : Hp} {p : Addr} {o : HO} (hf : F p = none) : Gr F (upd F p o) := fun a u e => by rw [upd_ne (ne_of_none e hf)]; exact e

/-! ### the memory -/
def MoR (K : PySem.W.Frag) (mg : Str → Option Value) (F H : Hp) (a : Addr) : MO → Prop
  | .lst ds => ∃ xs, H a = some (.lst xs) ∧ RpL K mg F xs ds
  | .dic ds => ∃ xs, H a = some (.dK xs) ∧ RpK K mg F xs ds
  | .dit ds => ∃ xs, H a = some (.dT xs) ∧ RpK K mg F xs ds
  | .ins C ds => ∃ Ca dx xs, mg C = some (.ref Ca) ∧ H a = some (.ins Ca dx xs) ∧ RpK K mg F xs ds
  | .lck ds => ∃ o xs, H a = some (.frz o (.dK xs)) ∧ RpK K mg F xs ds
  | .tab q => ∃ ps : Array Value, H a = some (.tbl ps) ∧ TriplesOk ps.toList ∧ ∀ (pos : Pos) (cv : Value), codeAmong pos ps.toList = some cv → ∃ c, cv = .ref c ∧ F c = some (LamX.CodeO c q)
def MO.isL : MO → Bool
  | .lck _ => true
  | _ => false
def MO.isK : MO → Bool
  | .dic _ => true
  | _ => false
def MemR (K : PySem.W.Frag) (mg : Str → Option Value) (F H : Hp) (m : Mem) : Prop := ∀ a o, m a = some o → F a = none ∧ MoR K mg F H a o
section
variable {K : PySem.W.Frag} {mg : Str → Option Value} {F H F' H' : Hp} {m m' : Mem}
theorem MoR.there {a : Addr} {o : MO} (h : MoR K mg F H a o) : H a ≠ none := by
  cases o with
  | lst ds => obtain ⟨_, e, _⟩ := h; rw [e]; simp
  | dic ds => obtain ⟨_, e, _⟩ := h; rw [e]; simp
  | dit ds => obtain ⟨_, e, _⟩ := h; rw [e]; simp
  | ins C ds => obtain ⟨_, _, _, _, e, _⟩ := h; rw [e]; simp
  | lck ds => obtain ⟨_, _, e, _⟩ := h; rw [e]; simp
  | tab q => obtain ⟨_, e, _⟩ := h; rw [e]; simp
theorem MoR.notz {a : Addr} {o : MO} (h : MoR K mg F H a o) (n : o.isL = false) (ob : Obj) (u : HO) : H a ≠ some (.frz ob u) := by
  cases o with
  | lst ds => obtain ⟨_, e, _⟩ := h; rw [e]; simp
  | dic ds => obtain ⟨_, e, _⟩ := h; rw [e]; simp
  | dit ds => obtain ⟨_, e, _⟩ := h; rw [e]; simp
  | ins C ds => obtain ⟨_, _, _, _, e, _⟩ := h; rw [e]; simp
  | lck ds => cases n
  | tab q => obtain ⟨_, e, _⟩ := h; rw [e]; simp
theorem MoR.keep {a : Addr} {o : MO} (h : MoR K mg F H a o) (g : Gr F F') (e : ∀ u, H a = some u → H' a = some u) : MoR K mg F' H' a o := by
  cases o with
  | lst ds => obtain ⟨xs, q, r⟩ := h; exact ⟨xs, e _ q, r.mono g⟩
  | dic ds => obtain ⟨xs, q, r⟩ := h; exact ⟨xs, e _ q, r.mono g⟩
  | dit ds => obtain ⟨xs, q, r⟩ := h; exact ⟨xs, e _ q, r.mono g⟩
  | ins C ds => obtain ⟨Ca, dx, xs, z, q, r⟩ := h; exact ⟨Ca, dx, xs, z, e _ q, r.mono g⟩
  | lck ds => obtain ⟨o, xs, q, r⟩ := h; exact ⟨o, xs, e _ q, r.mono g⟩
  | tab q => obtain ⟨ps, h1, h2, h3⟩ := h; exact ⟨ps, e _ h1, h2, fun pos cv hc => let ⟨c, e1, e2⟩ := h3 pos cv hc; ⟨c, e1, g _ _ e2⟩⟩
theorem MemR.there (h : MemR K mg F H m) {a : Addr} {o : MO} (e : m a = some o) : H a ≠ none := (h a o e).2.there
theorem MemR.free (h : MemR K mg F H m) {a : Addr} (e : H a = none) : m a = none := by
  cases q : m a with
  | none => rfl
  | some o => exact absurd e (h.there q)
theorem MemR.sub (h : MemR K mg F H m) (s : MLe m' m) : MemR K mg F H m' := fun a o e => h a o (s a o e)
theorem MemR.step (h : MemR K mg F H m) (s : Step F H F' H') : MemR K mg F' H' m := fun a o e => by
  obtain ⟨h1, h2⟩ := h a o e
  refine ⟨?_, h2.keep s.gr fun u q => s.ex _ _ q⟩
  cases q : F' a with
  | none => rfl
  | some u =>
    rcases s.nw a u q with z | z
    · rw [h1] at z; cases z
    · exact absurd z h2.there
end
/-- a step that may change the memory -/
structure StM (K : PySem.W.Frag) (mg : Str → Option Value) (m : Mem) (F H F' H' : Hp) (m' : Mem) : Prop where
  ex : ∀ a o, H a = some o → m a = none → H' a = some o
  th : ∀ a, H a ≠ none → H' a ≠ none
  gr : Gr F F'
  le : Le F' H'
  mr : MemR K mg F' H' m'
  nw : ∀ a o, F' a = some o → F a = some o ∨ H a = none ∨ m a ≠ none
  nm : ∀ a, m' a ≠ none → m a ≠ none ∨ H a = none
  fz : ∀ a o u, H a = some (.frz o u) → H' a = some (.frz o u)
section
variable {K : PySem.W.Frag} {mg : Str → Option Value} {F H F1 H1 F2 H2 F' H' : Hp} {m m1 m2 m' : Mem}
theorem StM.refl (l : Le F H) (r : MemR K mg F H m) : StM K mg m F H F H m := ⟨fun _ _ h _ => h, fun _ h => h, Gr.refl F, l, r, fun _ _ h => .inl h, fun _ h => .inl h, fun _ _ _ h => h⟩
theorem StM.back (s : StM K mg m F H F' H' m') {a : Addr} (h : H' a = none) : H a = none := by
  cases e : H a with
  | none => rfl
  | some o => exact absurd h (s.th a (by rw [e]; simp))
theorem Step.stm (s : Step F H F' H') (r : MemR K mg F H m) : StM K mg m F H F' H' m :=
  ⟨fun a o h _ => s.ex a o h, fun a h z => h (s.back z), s.gr, s.le, r.step s, fun a o h => (s.nw a o h).imp id .inl, fun _ h => .inl h, fun a _ _ h => s.ex a _ h⟩
theorem StM.trans (s : StM K mg m F H F1 H1 m1) (t : StM K mg m1 F1 H1 F2 H2 m2) : StM K mg m F H F2 H2 m2 := by
  refine ⟨fun a o h n => t.ex a o (s.ex a o h n) ?_, fun a h => t.th a (s.th a h), s.gr.trans t.gr, t.le, t.mr, fun a o h => ?_, fun a h => ?_, fun a o u h => t.fz a o u (s.fz a o u h)⟩
  · cases q : m1 a with
    | none => rfl
    | some u =>
      rcases s.nm a (by rw [q]; simp) with z | z
      · exact absurd n z
      · rw [h] at z; cases z
  · rcases t.nw a o h with h | h | h
    · exact s.nw a o h
    · exact .inr (.inl (s.back h))
    · rcases s.nm a h with h | h
      · exact .inr (.inr h)
      · exact .inr (.inl h)
  · rcases t.nm a h with h | h
    · exact s.nm a h
    · exact .inr (s.back h)
theorem StM.sub (s : StM K mg m F H F' H' m1) (h : MLe m2 m1) : StM K mg m F H F' H' m2 :=
  ⟨s.ex, s.th, s.gr, s.le, s.mr.sub h, s.nw, fun a z => s.nm a fun e => z (by
    cases q : m2 a with
    | none => rfl
    | some o => rw [h a o q] at e; cases e), s.fz⟩
/-- a new object is laid: the memory has it -/
theorem StM.new {p : Addr} {o : HO} {u : MO} (l : Le F H) (r : MemR K mg F H m) (h : H p = none) (ho : MoR K mg F (upd H p o) p u) : StM K mg m F H F (upd H p o) (mset m p u) := by
  have ex : ∀ a v, H a = some v → upd H p o a = some v := fun a v e => by rw [upd_ne (ne_of_none e h)]; exact e
  have s : Step F H F (upd H p o) := Step.ext l ex
  refine ⟨fun a v e _ => ex a v e, fun a n z => n (s.back z), Gr.refl F, s.le, fun a v e => ?_, fun _ _ e => .inl e, fun a e => ?_, fun a _ _ e => ex a _ e⟩
  · by_cases ha : a = p
    · subst ha; rw [mset_same] at e; cases e; exact ⟨l.none h, ho⟩
    · rw [mset_ne ha] at e; exact r.step s a v e
  · by_cases ha : a = p
    · subst ha; exact .inr h
    · rw [mset_ne ha] at e; exact .inl e
/-- a thing of the memory is changed -/
theorem StM.put {p : Addr} {o : HO} {u v : MO} (l : Le F H) (r : MemR K mg F H m) (h : m p = some v) (hL : v.isL = false) (ho : MoR K mg F (upd H p o) p u) : StM K mg m F H F (upd H p o) (mset m p u) := by
  obtain ⟨fp, hv⟩ := r p v h
  refine ⟨fun a w e n => ?_, fun a n => ?_, Gr.refl F, fun a w e => ?_, fun a w e => ?_, fun _ _ e => .inl e, fun a e => ?_, fun a ob w e => ?_⟩
  · have : a ≠ p := fun z => by rw [z, h] at n; cases n
    rw [upd_ne this]; exact e
  · by_cases ha : a = p
    · subst ha; rw [upd_same]; simp
    · rw [upd_ne ha]; exact n
  · have : a ≠ p := fun z => by rw [z, fp] at e; cases e
    rw [upd_ne this]; exact l a w e
  · by_cases ha : a = p
    · subst ha; rw [mset_same] at e; cases e; exact ⟨fp, ho⟩
    · rw [mset_ne ha] at e
      obtain ⟨h1, h2⟩ := r a w e
      exact ⟨h1, h2.keep (Gr.refl F) fun u q => by rw [upd_ne ha]; exact q⟩
  · by_cases ha : a = p
    · subst ha; exact .inl (by rw [h]; simp)
    · rw [mset_ne ha] at e; exact .inl e
  · have : a ≠ p := fun z => by rw [z] at e; exact hv.notz hL ob w e
    rw [upd_ne this]; exact e
/-- a dict of the memory is locked for good -/
theorem StM.lock {p : Addr} {ds : List (Key × D)} (l : Le F H) (r : MemR K mg F H m) (h : m p = some (.dic ds)) : ∃ xs, H p = some (.dK xs) ∧ ∀ od, StM K mg m F H F (upd H p (.frz od (.dK xs))) (mset m p (.lck ds)) := by
  obtain ⟨fp, xs, e, rl⟩ := r p _ h
  exact ⟨xs, e, fun od => StM.put l r h rfl ⟨od, xs, upd_same, rl⟩⟩
/-- from now on nobody changes it -/
def MO.onF : MO → (D → Prop) → Prop
  | .lst ds, k => k (.lst ds)
  | .dic ds, k => k (.dic ds)
  | .dit ds, k => k (.dit ds)
  | .ins C fs, k => k (.obj C fs)
  | .lck ds, k => k (.dic ds)
  | .tab _, _ => False
theorem StM.frz {p : Addr} {u : MO} (l : Le F H) (r : MemR K mg F H m) (h : m p = some u) (hd : u.isK = false) {k : D → Prop} (hk : u.onF k) : ∃ F' d, StM K mg m F H F' H (mdel m p) ∧ Rp K mg F' (.ref p) d ∧ k d := by
  obtain ⟨fp, hv⟩ := r p u h
  have key : ∀ (o : HO) (d : D), (H p = some o ∨ (isD o ∧ ∃ od, H p = some (.frz od o))) → (Rp K mg (upd F p o) (.ref p) d) → k d → ∃ F' d, StM K mg m F H F' H (mdel m p) ∧ Rp K mg F' (.ref p) d ∧ k d := fun o d ho hr hd => by
    refine ⟨upd F p o, d, ⟨fun a w e _ => e, fun a n => n, gr_upd fp, fun a w e => ?_, fun a w e => ?_, fun a w e => ?_, fun a e => ?_, fun _ _ _ e => e⟩, hr, hd⟩
    · by_cases ha : a = p
      · subst ha; rw [upd_same] at e; cases e; exact ho
      · rw [upd_ne ha] at e; exact l a w e
    · have ha : a ≠ p := fun z => by rw [z, mdel_same] at e; cases e
      rw [mdel_ne ha] at e
      obtain ⟨h1, h2⟩ := r a w e
      exact ⟨by rw [upd_ne ha]; exact h1, h2.keep (gr_upd fp) fun _ q => q⟩
    · by_cases ha : a = p
      · subst ha; exact .inr (.inr (by rw [h]; simp))
      · rw [upd_ne ha] at e; exact .inl e
    · by_cases ha : a = p
      · subst ha; rw [mdel_same] at e; exact absurd rfl e
      · rw [mdel_ne ha] at e; exact .inl e
  cases u with
  | lst ds => obtain ⟨xs, e, rl⟩ := hv; exact key _ _ (.inl e) (.lst upd_same (rl.mono (gr_upd fp))) hk
  | dic ds => cases hd
  | dit ds => obtain ⟨xs, e, rl⟩ := hv; exact key _ _ (.inl e) (.dit upd_same (rl.mono (gr_upd fp))) hk
  | ins C ds => obtain ⟨Ca, dx, xs, z, e, rl⟩ := hv; exact key _ _ (.inl e) (.obj z upd_same (rl.mono (gr_upd fp))) hk
  | lck ds => obtain ⟨o, xs, e, rl⟩ := hv; exact key (.frz o (.dK xs)) _ (.inl e) (.dic upd_same (rl.mono (gr_upd fp))) hk
  | tab q => exact hk.elim
end

/-! ### the frame's names -/
abbrev SL := List (Option D)
structure EnvR (K : PySem.W.Frag) (mg : Str → Option Value) (F H : Hp) (σ : L2.St) (s : SL) (m : Mem) : Prop where
  len : σ.length = s.length
  val : ∀ (i : Nat) d, s[i]? = some (some d) → ∃ v, σ[i]? = some (some v) ∧ Rp K mg F v d
  mem : MemR K mg F H m
section
variable {K : PySem.W.Frag} {mg : Str → Option Value} {F H F' H' : Hp} {σ : L2.St} {s : SL} {m m' : Mem}
theorem EnvR.stm (e : EnvR K mg F H σ s m) (t : StM K mg m F H F' H' m') : EnvR K mg F' H' σ s m' := ⟨e.len, fun i d h => by
  obtain ⟨v, h1, h2⟩ := e.val i d h
  exact ⟨v, h1, h2.mono t.gr⟩, t.mr⟩
theorem set_cases {α : Type} {l : List α} {i j : Nat} {a b : α} (h : (l.set i a)[j]? = some b) : (j = i ∧ b = a ∧ i < l.length) ∨ (j ≠ i ∧ l[j]? = some b) := by
  rw [List.getElem?_set] at h
  split at h
  · rename_i e
    split at h
    · rename_i hl
      exact .inl ⟨e.symm, (Option.some.inj h).symm, hl⟩
    · cases h
  · rename_i e
    exact .inr ⟨fun z => e z.symm, h⟩
/-- a slot gets a value -/
theorem EnvR.set {i : Nat} {v : V} {d : D} (e : EnvR K mg F H σ s m) (r : Rp K mg F v d) : EnvR K mg F H (σ.set i (some v)) (s.set i (some d)) m := by
  refine ⟨by rw [List.length_set, List.length_set, e.len], fun j d' h => ?_, e.mem⟩
  rcases set_cases h with ⟨rfl, hb, hl⟩ | ⟨hj, hb⟩
  · cases hb
    exact ⟨v, by rw [List.getElem?_set_self (by rw [e.len]; exact hl)], r⟩
  · obtain ⟨w, h1, h2⟩ := e.val j d' hb
    exact ⟨w, by rw [List.getElem?_set_ne (fun z => hj z.symm)]; exact h1, h2⟩
/-- the data of a slot are told otherwise -/
theorem EnvR.told {i : Nat} {v : V} {d : D} (e : EnvR K mg F H σ s m) (h : σ[i]? = some (some v)) (r : Rp K mg F v d) : EnvR K mg F H σ (s.set i (some d)) m := by
  refine ⟨by rw [List.length_set, e.len], fun j d' h' => ?_, e.mem⟩
  rcases set_cases h' with ⟨rfl, hb, hl⟩ | ⟨hj, hb⟩
  · cases hb; exact ⟨v, h, r⟩
  · exact e.val j d' hb
/-- a slot is forgotten -/
theorem EnvR.drop {i : Nat} (e : EnvR K mg F H σ s m) : EnvR K mg F H (σ.set i none) (s.set i none) m := by
  refine ⟨by rw [List.length_set, List.length_set, e.len], fun j d' h => ?_, e.mem⟩
  rcases set_cases h with ⟨rfl, hb, hl⟩ | ⟨hj, hb⟩
  · cases hb
  · obtain ⟨w, h1, h2⟩ := e.val j d' hb
    exact ⟨w, by rw [List.getElem?_set_ne (fun z => hj z.symm)]; exact h1, h2⟩
def wipeD (s : SL) : List Nat → SL
  | [] => s
  | v :: vs => (wipeD s vs).set v none
theorem EnvR.wipe (e : EnvR K mg F H σ s m) : ∀ vs : List Nat, EnvR K mg F H (L2.wipe σ vs) (wipeD s vs) m
  | [] => e
  | v :: vs => (EnvR.wipe e vs).drop
end
end Ts
namespace Ts
open PySem L2
/-! ### what is wanted, over data and memory -/
abbrev KD := D → Mem → Prop
abbrev KX := XD → Mem → Prop
abbrev VE := SL → Mem → KD → KX → Prop
abbrev VA := SL → Mem → (List D → Mem → Prop) → KX → Prop
abbrev VT := SL → Mem → (Bool → Mem → Prop) → KX → Prop
abbrev VO := SL → Mem → (Option Int → Mem → Prop) → KX → Prop
/-- operators, calls by values: they raise nothing -/
abbrev O1 := D → Mem → KD → Prop
abbrev O2 := D → D → Mem → KD → Prop
abbrev OA := List D → Mem → KD → Prop
/-- an exception's data -/
def RpX (K : PySem.W.Frag) (mg : Str → Option Value) (F H : Hp) (cls : Value) (d : Option Addr) (e : XD) : Prop :=
  ∃ Ca dd xs, cls = .ref Ca ∧ mg e.cls = some (.ref Ca) ∧ d = some dd ∧ F dd = some (.xd xs) ∧ RpK K mg F xs e.fs
def XOk (K : PySem.W.Frag) (mg : Str → Option Value) (W : WX) (σ : L2.St) (F H : Hp) (m : Mem) (x : KX) : Prop :=
  ∀ cls dd e F' H' m', StM K mg m F H F' H' m' → RpX K mg F' H' cls dd e → x e m' → W cls dd σ H'
section
variable {K : PySem.W.Frag} {mg : Str → Option Value} {W : WX} {σ : L2.St} {F H F1 H1 : Hp} {m m1 : Mem} {x : KX}
theorem XOk.after (h : XOk K mg W σ F H m x) (s : StM K mg m F H F1 H1 m1) : XOk K mg W σ F1 H1 m1 x := fun cls dd e F' H' m' t r q => h cls dd e F' H' m' (s.trans t) r q
theorem XOk.no : XOk K mg W σ F H m (fun _ _ => False) := fun _ _ _ _ _ _ _ _ q => q.elim
end
def SndE (K : PySem.W.Frag) (mg : Str → Option Value) (W : WX) (te : TE) (ve : VE) : Prop := ∀ (σ : L2.St) (F H : Hp) (s : SL) (m : Mem) (k : KD) (x : KX), Le F H → EnvR K mg F H σ s m → ve s m k x → XOk K mg W σ F H m x → ∀ Q : VK,
  (∀ v d F' H' m', StM K mg m F H F' H' m' → Rp K mg F' v d → k d m' → Q v H') → te σ H Q
def SndT (K : PySem.W.Frag) (mg : Str → Option Value) (W : WX) (te : TT) (ve : VT) : Prop := ∀ (σ : L2.St) (F H : Hp) (s : SL) (m : Mem) (k : Bool → Mem → Prop) (x : KX), Le F H → EnvR K mg F H σ s m → ve s m k x → XOk K mg W σ F H m x → ∀ Q : Bool → Hp → Prop,
  (∀ b F' H' m', StM K mg m F H F' H' m' → k b m' → Q b H') → te σ H Q
def SndA (K : PySem.W.Frag) (mg : Str → Option Value) (W : WX) (te : TA) (ve : VA) : Prop := ∀ (σ : L2.St) (F H : Hp) (s : SL) (m : Mem) (k : List D → Mem → Prop) (x : KX), Le F H → EnvR K mg F H σ s m → ve s m k x → XOk K mg W σ F H m x → ∀ Q : List V → Hp → Prop,
  (∀ vs ds F' H' m', StM K mg m F H F' H' m' → RpL K mg F' vs ds → k ds m' → Q vs H') → te σ H Q
def SndP (K : PySem.W.Frag) (mg : Str → Option Value) (W : WX) (te : TO) (ve : VO) : Prop := ∀ (σ : L2.St) (F H : Hp) (s : SL) (m : Mem) (k : Option Int → Mem → Prop) (x : KX), Le F H → EnvR K mg F H σ s m → ve s m k x → XOk K mg W σ F H m x → ∀ Q : Option Int → Hp → Prop,
  (∀ b F' H' m', StM K mg m F H F' H' m' → k b m' → Q b H') → te σ H Q
def SndO2 (K : PySem.W.Frag) (mg : Str → Option Value) (r : R2) (o : O2) : Prop := ∀ (F H : Hp) (m : Mem) (x y : D) (u v : V) (k : KD), Le F H → MemR K mg F H m → Rp K mg F u x → Rp K mg F v y → o x y m k → ∀ Q : VK,
  (∀ w d F' H' m', StM K mg m F H F' H' m' → Rp K mg F' w d → k d m' → Q w H') → r u v H Q
def SndO1 (K : PySem.W.Frag) (mg : Str → Option Value) (r : V → Hp → VK → Prop) (o : O1) : Prop := ∀ (F H : Hp) (m : Mem) (x : D) (u : V) (k : KD), Le F H → MemR K mg F H m → Rp K mg F u x → o x m k → ∀ Q : VK,
  (∀ w d F' H' m', StM K mg m F H F' H' m' → Rp K mg F' w d → k d m' → Q w H') → r u H Q
def SndOA (K : PySem.W.Frag) (mg : Str → Option Value) (r : List V → Hp → VK → Prop) (o : OA) : Prop := ∀ (F H : Hp) (m : Mem) (xs : List D) (us : List V) (k : KD), Le F H → MemR K mg F H m → RpL K mg F us xs → o xs m k → ∀ Q : VK,
  (∀ w d F' H' m', StM K mg m F H F' H' m' → Rp K mg F' w d → k d m' → Q w H') → r us H Q
/-! ### the judgements -/
def JE (X : Cx) (W : WX) (e : Expr) (ve : VE) : Prop := ∃ te, PE X e te ∧ SndE X.K X.mg W te ve
def JT (X : Cx) (W : WX) (e : Expr) (ve : VT) : Prop := ∃ te, PT X e te ∧ SndT X.K X.mg W te ve
def JW (X : Cx) (W : WX) (e : Expr) (ve : VT) : Prop := ∃ te, PW X e te ∧ SndT X.K X.mg W te ve
def JA (X : Cx) (W : WX) (e : List Expr) (ve : VA) : Prop := ∃ te, PA X e te ∧ SndA X.K X.mg W te ve
def JP (X : Cx) (W : WX) (e : Option Expr) (ve : VO) : Prop := ∃ te, PO X e te ∧ SndP X.K X.mg W te ve
def JO2 (X : Cx) (f : Value → Value → Sem Value) (o : O2) : Prop := ∃ r, OpR X f r ∧ SndO2 X.K X.mg r o
def JO1 (X : Cx) (f : Value → Sem Value) (o : O1) : Prop := ∃ r, UnR X f r ∧ SndO1 X.K X.mg r o
def JOA (X : Cx) (f : Value) (o : OA) : Prop := ∃ r, CallR X f r ∧ SndOA X.K X.mg r o

/-! ### the forms -/
@[reducible] def vC (d : D) : VE := fun _ m k _ => k d m
def vGet : Option (Option D) → (D → Prop) → Prop
  | some (some d), k => k d
  | _, _ => False
@[reducible] def vVar (i : Nat) : VE := fun s m k _ => vGet s[i]? fun d => k d m
@[reducible] def vOp (o : O2) (a b : VE) : VE := fun s m k x => a s m (fun d m1 => b s m1 (fun e m2 => o d e m2 k) x) x
@[reducible] def vUn (o : O1) (a : VE) : VE := fun s m k x => a s m (fun d m1 => o d m1 k) x
@[reducible] def vNil : VA := fun _ m k _ => k [] m
@[reducible] def vCons (a : VE) (r : VA) : VA := fun s m k x => a s m (fun d m1 => r s m1 (fun ds m2 => k (d :: ds) m2) x) x
@[reducible] def vTup (a : VA) : VE := fun s m k x => a s m (fun ds m1 => ds.length ≤ 1000000 ∧ k (.tup ds) m1) x
@[reducible] def vLst (a : VA) : VE := fun s m k x => a s m (fun ds m1 => ds.length ≤ 1000000 ∧ k (.lst ds) m1) x
/-- a new list that changes -/
@[reducible] def vLstO (a : VA) : VE := fun s m k x => a s m (fun ds m1 => ds.length ≤ 1000000 ∧ ∀ p, m1 p = none → k (.ref p) (mset m1 p (.lst ds))) x
@[reducible] def vCB (o : OA) (a : VA) : VE := fun s m k x => a s m (fun ds m1 => o ds m1 k) x
/-- a bool -/
def isB : D → (Bool → Prop) → Prop
  | .bl b, k => k b
  | _, _ => False
@[reducible] def tV (a : VE) : VT := fun s m k x => a s m (fun d m1 => isB d fun b => k b m1) x
@[reducible] def vAnd (a b : VT) : VT := fun s m k x => a s m (fun c m1 => if c = true then b s m1 k x else k false m1) x
@[reducible] def vOr (a b : VT) : VT := fun s m k x => a s m (fun c m1 => if c = true then k true m1 else b s m1 k x) x
@[reducible] def vNot (a : VT) : VT := fun s m k x => a s m (fun c m1 => k (!c) m1) x
@[reducible] def vYes : VT := fun _ m k _ => k true m
@[reducible] def vAndV (a b : VE) : VE := fun s m k x => a s m (fun d m1 => isB d fun c => if c = true then b s m1 k x else k (.bl false) m1) x
@[reducible] def vOrV (a b : VE) : VE := fun s m k x => a s m (fun d m1 => isB d fun c => if c = true then k (.bl true) m1 else b s m1 k x) x
@[reducible] def vNotV (a : VE) : VE := fun s m k x => a s m (fun d m1 => isB d fun c => k (.bl (!c)) m1) x
@[reducible] def vIf (t : VT) (a b : VE) : VE := fun s m k x => t s m (fun c m1 => if c = true then a s m1 k x else b s m1 k x) x
@[reducible] def vChain (o o' : O2) (a b c : VE) : VE := fun s m k x => a s m (fun d m1 => b s m1 (fun e m2 => o d e m2 fun z m3 => isB z fun q => if q = true then c s m3 (fun g m4 => o' e g m4 k) x else k (.bl false) m3) x) x
@[reducible] def vNoP : VO := fun _ m k _ => k none m
@[reducible] def vP (a : VE) : VO := fun s m k x => a s m (fun d m1 => match d with | .int i => k (some i) m1 | _ => False) x

section
variable {K : PySem.W.Frag} {mg : Str → Option Value} {F H : Hp} {v : V} {m : Mem}
theorem Rp.blI {b : Bool} (h : Rp K mg F v (.bl b)) : v = .bl b := by cases h; rfl
theorem Rp.intI {b : Int} (h : Rp K mg F v (.int b)) : v = .int b := by cases h; rfl
theorem Rp.strI {b : Str} (h : Rp K mg F v (.str b)) : v = .str b := by cases h; rfl
theorem Rp.nonI (h : Rp K mg F v .non) : v = .non := by cases h; rfl
theorem Rp.refI {a : Addr} (h : Rp K mg F v (.ref a)) : v = .ref a := by cases h; rfl
theorem Rp.lstI {ds : List D} (h : Rp K mg F v (.lst ds)) : ∃ a xs, v = .ref a ∧ F a = some (.lst xs) ∧ RpL K mg F xs ds := by cases h with | lst s r => exact ⟨_, _, rfl, s, r⟩
theorem Rp.latI {a : Addr} {ds : List D} (h : Rp K mg F v (.lat a ds)) : ∃ xs, v = .ref a ∧ SqL K F a xs ∧ RpL K mg F xs ds := by cases h with | lat s r => exact ⟨_, rfl, s, r⟩
theorem Rp.tupI {ds : List D} (h : Rp K mg F v (.tup ds)) : ∃ a xs, v = .ref a ∧ SqT K F a xs ∧ RpL K mg F xs ds := by cases h with | tup s r => exact ⟨_, _, rfl, s.sqt, r⟩
theorem Rp.tupN {ds : List D} (h : Rp K mg F v (.tup ds)) : ∃ a xs, v = .ref a ∧ SqN K F a xs ∧ RpL K mg F xs ds := by cases h with | tup s r => exact ⟨_, _, rfl, s, r⟩
theorem Rp.prI {ds : List D} (h : Rp K mg F v (.pr ds)) : ∃ a xs, v = .ref a ∧ F a = some (.tup xs) ∧ RpL K mg F xs ds := by cases h with | pr s r => exact ⟨_, _, rfl, s, r⟩
/-- a list's items: frozen, the script, or of the memory -/
def asL (m : Mem) : D → Option (List D)
  | .lst ds => some ds
  | .lat _ ds => some ds
  | .ref p => match m p with
    | some (.lst ds) => some ds
    | _ => none
  | _ => none
theorem Rp.asL {d : D} {ds : List D} (l : Le F H) (r : MemR K mg F H m) (h : Rp K mg F v d) (e : asL m d = some ds) : ∃ a xs, v = .ref a ∧ SqL K H a xs ∧ RpL K mg F xs ds := by
  cases h with
  | lst s r => cases e; exact ⟨_, _, rfl, l.sql (SqL.of s), r⟩
  | lat s r => cases e; exact ⟨_, _, rfl, l.sql s, r⟩
  | ref p =>
    cases q : m p with
    | none => simp only [Ts.asL, q] at e; cases e
    | some o =>
      simp only [Ts.asL, q] at e
      cases o with
      | lst es =>
        cases e
        obtain ⟨_, xs, e1, e2⟩ := r p _ q
        exact ⟨p, xs, rfl, SqL.of e1, e2⟩
      | _ => cases e
  | _ => cases e
/-- a list that may be joined with another: not the script -/
def asO (m : Mem) : D → Option (List D)
  | .lst ds => some ds
  | .ref p => match m p with
    | some (.lst ds) => some ds
    | _ => none
  | _ => none
theorem Rp.asO {d : D} {ds : List D} (l : Le F H) (r : MemR K mg F H m) (h : Rp K mg F v d) (e : asO m d = some ds) : ∃ a xs, v = .ref a ∧ H a = some (.lst xs) ∧ RpL K mg F xs ds := by
  cases h with
  | lst s r => cases e; exact ⟨_, _, rfl, l.lst s, r⟩
  | ref p =>
    cases q : m p with
    | none => simp only [Ts.asO, q] at e; cases e
    | some o =>
      simp only [Ts.asO, q] at e
      cases o with
      | lst es =>
        cases e
        obtain ⟨_, xs, e1, e2⟩ := r p _ q
        exact ⟨p, xs, rfl, e1, e2⟩
      | _ => cases e
  | _ => cases e
theorem RpL.one {us : List V} {x : D} (r : RpL K mg F us [x]) : ∃ u, us = [u] ∧ Rp K mg F u x := by
  cases r with
  | cons a r => cases r; exact ⟨_, rfl, a⟩
theorem RpL.two {us : List V} {x y : D} (r : RpL K mg F us [x, y]) : ∃ u v, us = [u, v] ∧ Rp K mg F u x ∧ Rp K mg F v y := by
  cases r with
  | cons a r => cases r with
    | cons b r => cases r; exact ⟨_, _, rfl, a, b⟩
theorem RpL.three {us : List V} {x y z : D} (r : RpL K mg F us [x, y, z]) : ∃ u v w, us = [u, v, w] ∧ Rp K mg F u x ∧ Rp K mg F v y ∧ Rp K mg F w z := by
  cases r with
  | cons a r => cases r with
    | cons b r => cases r with
      | cons c r => cases r; exact ⟨_, _, _, rfl, a, b, c⟩
end
section
variable {X : Cx} {W : WX} {e a b c : Expr} {es rest : List Expr} {va vb vc ve : VE} {vt vu : VT} {vs : VA} {pos : Pos}
theorem je_var {i : Nat} (h : PE X e (tVar i)) : JE X W e (vVar i) := ⟨_, h, fun σ F H s m k x l en hv _ Q q => by
  unfold vVar vGet at hv
  split at hv
  · rename_i d hs
    obtain ⟨v, h1, h2⟩ := en.val i d hs
    exact ⟨v, h1, q v d F H m (StM.refl l en.mem) h2 hv⟩
  · exact hv.elim⟩
theorem je_c {v : V} {d : D} (h : PE X e (tC v)) (r : ∀ F, Rp X.K X.mg F v d) : JE X W e (vC d) := ⟨_, h, fun σ F H s m k x l en hv _ Q q => q v d F H m (StM.refl l en.mem) (r F) hv⟩
theorem je_int {i j} : JE X W (.Constant (.int i) j pos) (vC (.int i)) := je_c pe_int fun _ => .int i
theorem je_bl {i j} : JE X W (.Constant (.bool i) j pos) (vC (.bl i)) := je_c pe_bl fun _ => .bl i
theorem je_non {j} : JE X W (.Constant .none j pos) (vC .non) := je_c pe_non fun _ => .non
theorem je_str {i j} : JE X W (.Constant (.str i) j pos) (vC (.str i)) := je_c pe_str fun _ => .str i
theorem jv (i : Nat) {x : Str} {pos : Pos} (hN : X.N[i]? = some x := by rfl) (hv : Vis X.env.scope x := by first | exact Or.inl rfl | exact Or.inr (Or.inl rfl) | exact Or.inr (Or.inr rfl)) (hd : (x == ("__debug__" : Str)) = false := by decide)
    (hcd : (x == ("__classdict__" : Str)) = false := by decide) : JE X W (.Name x pos) (vVar i) := je_var (pe_var hN hv hd hcd)
theorem SndE.op {r : R2} {o : O2} {ta tb : TE} (ho : SndO2 X.K X.mg r o) (h1 : SndE X.K X.mg W ta va) (h2 : SndE X.K X.mg W tb vb) : SndE X.K X.mg W (tOp r ta tb) (vOp o va vb) := fun σ F H s m k x l en hv hx Q q =>
  h1 σ F H s m _ x l en hv hx _ fun u d F1 H1 m1 s1 r1 k1 => h2 σ F1 H1 s m1 _ x s1.le (en.stm s1) k1 (hx.after s1) _ fun w e F2 H2 m2 s2 r2 k2 =>
    ho F2 H2 m2 d e u w k s2.le s2.mr (r1.mono s2.gr) r2 k2 Q fun z g F3 H3 m3 s3 r3 k3 => q z g F3 H3 m3 ((s1.trans s2).trans s3) r3 k3
theorem je_op {op : Operator} {o : O2} (ho : JO2 X (binaryOp op) o) (ha : JE X W a va) (hb : JE X W b vb) : JE X W (.BinOp a op b pos) (vOp o va vb) := by
  obtain ⟨r, h0, h1⟩ := ho; obtain ⟨ta, p1, s1⟩ := ha; obtain ⟨tb, p2, s2⟩ := hb
  exact ⟨_, pe_op h0 p1 p2, SndE.op h1 s1 s2⟩
theorem je_cmp {op : CmpOp} {o : O2} (ho : JO2 X (compareOp op) o) (ha : JE X W a va) (hb : JE X W b vb) (hm : behindInMarks op b = false) : JE X W (.Compare a [op] [b] pos) (vOp o va vb) := by
  obtain ⟨r, h0, h1⟩ := ho; obtain ⟨ta, p1, s1⟩ := ha; obtain ⟨tb, p2, s2⟩ := hb
  exact ⟨_, pe_cmpR h0 p1 p2 hm, SndE.op h1 s1 s2⟩
theorem je_un {op : UnaryOp} {o : O1} (ho : JO1 X (unaryOp op) o) (ha : JE X W a va) : JE X W (.UnaryOp op a pos) (vUn o va) := by
  obtain ⟨r, h0, h1⟩ := ho; obtain ⟨ta, p1, s1⟩ := ha
  exact ⟨_, pe_un h0 p1, fun σ F H s m k x l en hv hx Q q => s1 σ F H s m _ x l en hv hx _ fun u d F1 H1 m1 t1 r1 k1 => h1 F1 H1 m1 d u k t1.le t1.mr r1 k1 Q fun z g F3 H3 m3 s3 r3 k3 => q z g F3 H3 m3 (t1.trans s3) r3 k3⟩
theorem ja_nil : JA X W [] vNil := ⟨_, pa_nil, fun σ F H s m k x l en hv _ Q q => q [] [] F H m (StM.refl l en.mem) .nil hv⟩
theorem ja_cons (ha : JE X W e va) (hr : JA X W es vs) (hs : starEach (e :: es) X.env = (false, eval e X.env) :: starEach es X.env := by rfl) : JA X W (e :: es) (vCons va vs) := by
  obtain ⟨ta, p1, s1⟩ := ha; obtain ⟨tr, p2, s2⟩ := hr
  exact ⟨_, pa_cons p1 p2 hs, fun σ F H s m k x l en hv hx Q q => s1 σ F H s m _ x l en hv hx _ fun u d F1 H1 m1 t1 r1 k1 => s2 σ F1 H1 s m1 _ x t1.le (en.stm t1) k1 (hx.after t1) _ fun us ds F2 H2 m2 t2 r2 k2 => q (u :: us) (d :: ds) F2 H2 m2 (t1.trans t2) (.cons (r1.mono t2.gr) r2) k2⟩
def tTupN (t : TA) : TE := fun σ H Q => t σ H fun us H1 => us.length ≤ sizeLine ∧ ∀ (p : Addr) (o : Obj), H1 p = none → o.dict = none → Q (.ref p) (upd H1 p (.frz o (.tup us)))
theorem pe_tupN {x1} {t : TA} (h : PA X es t) : PE X (.Tuple es x1 pos) (tTupN t) := by
  refine ⟨fun pins s σ H Q I hq => ?_⟩
  refine wpAny_Tuple_spliced (thn (h.run pos pins s σ H _ I hq) fun us s1 ⟨xs, H1, I1, r, z, q⟩ => ⟨by rw [← r.length]; exact z, ?_⟩)
  have hf : H1 s1.heap.objs.size = none := I1.hok.fresh (Nat.le_refl _)
  refine ⟨.ref s1.heap.objs.size, upd H1 s1.heap.objs.size (.frz _ (.tup xs)), I1.laid (t' := s1.toks) (fun b u e => Heap.get?_push_of_some _ e) (Nat.le_refl _) ⟨Heap.get?_push_size _ rfl, ?_⟩, rfl, q _ _ hf rfl⟩
  exact ⟨z, us, r, ⟨_, Heap.get?_push_size _ rfl, rfl, _, rfl⟩⟩
theorem je_tup {x1} (h : JA X W es vs) : JE X W (.Tuple es x1 pos) (vTup vs) := by
  obtain ⟨ta, p1, s1⟩ := h
  refine ⟨_, pe_tupN p1, fun σ F H s m k x l en hv hx Q q => s1 σ F H s m _ x l en hv hx _ fun us ds F1 H1 m1 t1 r1 ⟨h0, k1⟩ => ⟨by rw [r1.len]; exact Nat.le_trans h0 (by decide), fun p o hp ho => ?_⟩⟩
  have s2 : Step F1 H1 (upd F1 p (.frz o (.tup us))) (upd H1 p (.frz o (.tup us))) := Step.new t1.le hp
  exact q (.ref p) (.tup ds) _ _ m1 (t1.trans (s2.stm t1.mr)) (.tup (.inl ⟨o, upd_same, ho⟩) (r1.mono s2.gr)) k1
/-- a tuple that becomes a key -/
@[reducible] def vTupK (a : VA) : VE := fun s m k x => a s m (fun ds m1 => ds.length ≤ 1000000 ∧ k (.pr ds) m1) x
theorem je_lst (h : JA X W es vs) : JE X W (.List es pos) (vLst vs) := by
  obtain ⟨ta, p1, s1⟩ := h
  refine ⟨_, pe_lst p1, fun σ F H s m k x l en hv hx Q q => s1 σ F H s m _ x l en hv hx _ fun us ds F1 H1 m1 t1 r1 ⟨h0, k1⟩ => ⟨by rw [r1.len]; exact Nat.le_trans h0 (by decide), fun p hp => ?_⟩⟩
  have s2 : Step F1 H1 (upd F1 p (.lst us)) (upd H1 p (.lst us)) := Step.new t1.le hp
  exact q (.ref p) (.lst ds) _ _ m1 (t1.trans (s2.stm t1.mr)) (.lst upd_same (r1.mono s2.gr)) k1
theorem je_lstO (h : JA X W es vs) : JE X W (.List es pos) (vLstO vs) := by
  obtain ⟨ta, p1, s1⟩ := h
  refine ⟨_, pe_lst p1, fun σ F H s m k x l en hv hx Q q => s1 σ F H s m _ x l en hv hx _ fun us ds F1 H1 m1 t1 r1 ⟨h0, k1⟩ => ⟨by rw [r1.len]; exact Nat.le_trans h0 (by decide), fun p hp => ?_⟩⟩
  exact q (.ref p) (.ref p) _ _ _ (t1.trans (StM.new t1.le t1.mr hp (u := .lst ds) ⟨us, upd_same, r1⟩)) (.ref p) (k1 p (t1.mr.free hp))
theorem je_callB {x : Str} {id : String} {o : OA} {p : Pos} (ho : JOA X (.builtin id) o) (hg : Gl X x) (hm : X.mg x = none) (hv : bootBuiltins x = some (.builtin id)) (ha : JA X W (e :: es) vs) (hn : x ≠ "__name__" := by decide) (hdb : (x == ("__debug__" : Str)) = false := by decide)
    (he : starEach (e :: es) X.env = (false, eval e X.env) :: starEach es X.env := by rfl) (hpl : (backTo pos (starEach es X.env)).any (·.1) = false := by rfl) : JE X W (.Call (.Name x p) (e :: es) [] pos) (vCB o vs) := by
  obtain ⟨r, h0, h1⟩ := ho; obtain ⟨ta, p1, s1⟩ := ha
  exact ⟨_, pe_callB h0 hg hm hv p1 hn hdb he hpl, fun σ F H s m k x l en hv hx Q q => s1 σ F H s m _ x l en hv hx _ fun us ds F1 H1 m1 t1 r1 k1 => h1 F1 H1 m1 ds us k t1.le t1.mr r1 k1 Q fun z g F3 H3 m3 s3 r3 k3 => q z g F3 H3 m3 (t1.trans s3) r3 k3⟩
theorem je_callTy {x : Str} {T : String} {o : OA} {p : Pos} (ho : JOA X (.type T) o) (hg : Gl X x) (hm : X.mg x = none) (hv : bootBuiltins x = some (.type T)) (ha : JA X W (e :: es) vs) (hn : x ≠ "__name__" := by decide) (hdb : (x == ("__debug__" : Str)) = false := by decide)
    (he : starEach (e :: es) X.env = (false, eval e X.env) :: starEach es X.env := by rfl) (hpl : (backTo pos (starEach es X.env)).any (·.1) = false := by rfl) : JE X W (.Call (.Name x p) (e :: es) [] pos) (vCB o vs) := by
  obtain ⟨r, h0, h1⟩ := ho; obtain ⟨ta, p1, s1⟩ := ha
  exact ⟨_, pe_callTy h0 hg hm hv p1 hn hdb he hpl, fun σ F H s m k x l en hv hx Q q => s1 σ F H s m _ x l en hv hx _ fun us ds F1 H1 m1 t1 r1 k1 => h1 F1 H1 m1 ds us k t1.le t1.mr r1 k1 Q fun z g F3 H3 m3 s3 r3 k3 => q z g F3 H3 m3 (t1.trans s3) r3 k3⟩
/-! tests -/
theorem isB_of {d : D} {k : Bool → Prop} (h : isB d k) : ∃ b, d = .bl b ∧ k b := by
  cases d with
  | bl b => exact ⟨b, rfl, h⟩
  | _ => exact h.elim
theorem SndE.test {te : TE} (h : SndE X.K X.mg W te ve) : SndT X.K X.mg W (tTest te) (tV ve) := fun σ F H s m k x l en hv hx Q q => h σ F H s m _ x l en hv hx _ fun v d F1 H1 m1 t1 r1 k1 => by
  obtain ⟨b, rfl, hk⟩ := isB_of k1
  exact ⟨b, r1.blI, q b F1 H1 m1 t1 hk⟩
theorem jt_cmp {op : CmpOp} {o : O2} (ho : JO2 X (compareOp op) o) (ha : JE X W a va) (hb : JE X W b vb) (hm : behindInMarks op b = false) : JT X W (.Compare a [op] [b] pos) (tV (vOp o va vb)) := by
  obtain ⟨r, h0, h1⟩ := ho; obtain ⟨ta, p1, s1⟩ := ha; obtain ⟨tb, p2, s2⟩ := hb
  exact ⟨_, pt_cmpR h0 p1 p2 hm, (SndE.op h1 s1 s2).test⟩
theorem jt_val (h : JE X W e ve) (he : ∀ whole, isTrue e X.env whole = (do let v ← whole; standAt e.pos; holding [v] (truthy v)) := by intro _; rfl) : JT X W e (tV ve) := by
  obtain ⟨te, p1, s1⟩ := h
  exact ⟨_, pt_val p1 he, s1.test⟩
theorem SndT.and {t u : TT} (h1 : SndT X.K X.mg W t vt) (h2 : SndT X.K X.mg W u vu) : SndT X.K X.mg W (tAnd t u) (vAnd vt vu) := fun σ F H s m k x l en hv hx Q q => h1 σ F H s m _ x l en hv hx _ fun b F1 H1 m1 t1 k1 => by
  cases b with
  | true =>
    rw [if_pos rfl] at k1 ⊢
    exact h2 σ F1 H1 s m1 k x t1.le (en.stm t1) k1 (hx.after t1) Q fun b F2 H2 m2 t2 k2 => q b F2 H2 m2 (t1.trans t2) k2
  | false =>
    rw [if_neg (by decide)] at k1 ⊢
    exact q false F1 H1 m1 t1 k1
theorem SndT.or {t u : TT} (h1 : SndT X.K X.mg W t vt) (h2 : SndT X.K X.mg W u vu) : SndT X.K X.mg W (tOr t u) (vOr vt vu) := fun σ F H s m k x l en hv hx Q q => h1 σ F H s m _ x l en hv hx _ fun b F1 H1 m1 t1 k1 => by
  cases b with
  | true =>
    rw [if_pos rfl] at k1 ⊢
    exact q true F1 H1 m1 t1 k1
  | false =>
    rw [if_neg (by decide)] at k1 ⊢
    exact h2 σ F1 H1 s m1 k x t1.le (en.stm t1) k1 (hx.after t1) Q fun b F2 H2 m2 t2 k2 => q b F2 H2 m2 (t1.trans t2) k2
theorem jw_and1 (ha : JT X W a vt) : JW X W (.BoolOp .And [a] pos) vt := by obtain ⟨t, p, s⟩ := ha; exact ⟨_, pw_and1 p, s⟩
theorem jw_or1 (ha : JT X W a vt) : JW X W (.BoolOp .Or [a] pos) vt := by obtain ⟨t, p, s⟩ := ha; exact ⟨_, pw_or1 p, s⟩
theorem jw_and (ha : JT X W a vt) (hb : JW X W (.BoolOp .And (b :: rest) pos) vu) : JW X W (.BoolOp .And (a :: b :: rest) pos) (vAnd vt vu) := by
  obtain ⟨t, p, s⟩ := ha; obtain ⟨u, p2, s2⟩ := hb; exact ⟨_, pw_and p p2, s.and s2⟩
theorem jw_or (ha : JT X W a vt) (hb : JW X W (.BoolOp .Or (b :: rest) pos) vu) : JW X W (.BoolOp .Or (a :: b :: rest) pos) (vOr vt vu) := by
  obtain ⟨t, p, s⟩ := ha; obtain ⟨u, p2, s2⟩ := hb; exact ⟨_, pw_or p p2, s.or s2⟩
theorem JW.jt (h : JW X W e vt) : JT X W e vt := by obtain ⟨t, p, s⟩ := h; exact ⟨_, p.pt, s⟩
theorem jt_not (ha : JT X W a vt) : JT X W (.UnaryOp .Not a pos) (vNot vt) := by
  obtain ⟨t, p, s1⟩ := ha
  exact ⟨_, pt_not p, fun σ F H s m k x l en hv hx Q q => s1 σ F H s m _ x l en hv hx _ fun b F1 H1 m1 t1 k1 => q (!b) F1 H1 m1 t1 k1⟩
theorem je_one {op} (h : JE X W a va) : JE X W (.BoolOp op [a] pos) va := by obtain ⟨t, p, s⟩ := h; exact ⟨_, pe_one p, s⟩
theorem je_and (ha : JE X W a va) (hb : JE X W (.BoolOp .And (b :: rest) pos) vb) : JE X W (.BoolOp .And (a :: b :: rest) pos) (vAndV va vb) := by
  obtain ⟨t, p, s1⟩ := ha; obtain ⟨u, p2, s2⟩ := hb
  refine ⟨_, pe_and p p2, fun σ F H s m k x l en hv hx Q q => s1 σ F H s m _ x l en hv hx _ fun v d F1 H1 m1 t1 r1 k1 => ?_⟩
  replace k1 := isB_of k1
  obtain ⟨b, rfl, k1⟩ := k1
  refine ⟨b, r1.blI, ?_⟩
  cases b with
  | true =>
    rw [if_pos rfl] at k1 ⊢
    exact s2 σ F1 H1 s m1 k x t1.le (en.stm t1) k1 (hx.after t1) Q fun v d F2 H2 m2 t2 r2 k2 => q v d F2 H2 m2 (t1.trans t2) r2 k2
  | false =>
    rw [if_neg (by decide)] at k1 ⊢
    exact q _ _ F1 H1 m1 t1 (.bl false) k1
theorem je_if (ht : JT X W c vt) (ha : JE X W a va) (hb : JE X W b vb) : JE X W (.IfExp c a b pos) (vIf vt va vb) := by
  obtain ⟨t, p, s0⟩ := ht; obtain ⟨ta, p1, s1⟩ := ha; obtain ⟨tb, p2, s2⟩ := hb
  refine ⟨_, pe_ifExp p p1 p2, fun σ F H s m k x l en hv hx Q q => s0 σ F H s m _ x l en hv hx _ fun b F1 H1 m1 t1 k1 => ?_⟩
  cases b with
  | true =>
    rw [if_pos rfl] at k1 ⊢
    exact s1 σ F1 H1 s m1 k x t1.le (en.stm t1) k1 (hx.after t1) Q fun v d F2 H2 m2 t2 r2 k2 => q v d F2 H2 m2 (t1.trans t2) r2 k2
  | false =>
    rw [if_neg (by decide)] at k1 ⊢
    exact s2 σ F1 H1 s m1 k x t1.le (en.stm t1) k1 (hx.after t1) Q fun v d F2 H2 m2 t2 r2 k2 => q v d F2 H2 m2 (t1.trans t2) r2 k2
theorem SndE.chain {r r' : R2} {o o' : O2} {ta tb tc : TE} (ho : SndO2 X.K X.mg r o) (ho' : SndO2 X.K X.mg r' o') (h1 : SndE X.K X.mg W ta va) (h2 : SndE X.K X.mg W tb vb) (h3 : SndE X.K X.mg W tc vc) : SndE X.K X.mg W (tChain r r' ta tb tc) (vChain o o' va vb vc) := fun σ F H s m k x l en hv hx Q q =>
  h1 σ F H s m _ x l en hv hx _ fun u d F1 H1 m1 s1 r1 k1 => h2 σ F1 H1 s m1 _ x s1.le (en.stm s1) k1 (hx.after s1) _ fun w e F2 H2 m2 s2 r2 k2 =>
    ho F2 H2 m2 d e u w _ s2.le s2.mr (r1.mono s2.gr) r2 k2 _ fun z g F3 H3 m3 s3 r3 k3 => by
      replace k3 := isB_of k3
      obtain ⟨b, rfl, k3⟩ := k3
      have st := (s1.trans s2).trans s3
      refine ⟨b, r3.blI, ?_⟩
      cases b with
      | true =>
        rw [if_pos rfl] at k3 ⊢
        exact h3 σ F3 H3 s m3 _ x s3.le (en.stm st) k3 (hx.after st) _ fun u' c' F4 H4 m4 s4 r4 k4 => ho' F4 H4 m4 e c' w u' k s4.le s4.mr (r2.mono (s3.gr.trans s4.gr)) r4 k4 Q fun o' d' F5 H5 m5 s5 r5 k5 => q o' d' F5 H5 m5 ((st.trans s4).trans s5) r5 k5
      | false =>
        rw [if_neg (by decide)] at k3 ⊢
        exact q _ _ F3 H3 m3 st (.bl false) k3
theorem je_chain {op op' : CmpOp} {o o' : O2} (ho : JO2 X (compareOp op) o) (ho' : JO2 X (compareOp op') o') (ha : JE X W a va) (hb : JE X W b vb) (hc : JE X W c vc) (hm : lastMarks [op, op'] [b, c] = false := by with_unfolding_all rfl) : JE X W (.Compare a [op, op'] [b, c] pos) (vChain o o' va vb vc) := by
  obtain ⟨r, h0, h1⟩ := ho; obtain ⟨r', h0', h1'⟩ := ho'; obtain ⟨ta, p1, s1⟩ := ha; obtain ⟨tb, p2, s2⟩ := hb; obtain ⟨tc, p3, s3⟩ := hc
  exact ⟨_, pe_chain h0 h0' p1 p2 p3 hm, SndE.chain h1 h1' s1 s2 s3⟩
theorem jp_no : JP X W none vNoP := ⟨_, po_none, fun σ F H s m k x l en hv _ Q q => q none F H m (StM.refl l en.mem) hv⟩
theorem jp_some (h : JE X W e ve) : JP X W (some e) (vP ve) := by
  obtain ⟨t, p, s1⟩ := h
  refine ⟨_, po_some p, fun σ F H s m k x l en hv hx Q q => s1 σ F H s m _ x l en hv hx _ fun v d F1 H1 m1 t1 r1 k1 => ?_⟩
  cases d with
  | int i => exact ⟨i, r1.intI, q (some i) F1 H1 m1 t1 k1⟩
  | _ => exact k1.elim
end
end Ts
namespace Ts
open PySem PySem.Spec PyProof.Rows L2
/-! ### statements -/
structure DE where
  nx : SL → Mem → Prop
  rt : D → Mem → Prop
  bk : SL → Mem → Prop := fun _ _ => False
  ct : SL → Mem → Prop := fun _ _ => False
  ex : XD → SL → Mem → Prop := fun _ _ _ => False
abbrev VS := SL → Mem → DE → Prop
structure Lk (K : PySem.W.Frag) (mg : Str → Option Value) (W : WX) (F H : Hp) (m : Mem) (G : DE) (E : Ends) : Prop where
  nx : ∀ σ' s' F' H' m', StM K mg m F H F' H' m' → EnvR K mg F' H' σ' s' m' → G.nx s' m' → E.nx σ' H'
  rt : ∀ v d F' H' m', StM K mg m F H F' H' m' → Rp K mg F' v d → G.rt d m' → E.rt v H'
  bk : ∀ σ' s' F' H' m', StM K mg m F H F' H' m' → EnvR K mg F' H' σ' s' m' → G.bk s' m' → E.bk σ' H'
  ct : ∀ σ' s' F' H' m', StM K mg m F H F' H' m' → EnvR K mg F' H' σ' s' m' → G.ct s' m' → E.ct σ' H'
  ex : ∀ cls dd e σ' s' F' H' m', StM K mg m F H F' H' m' → EnvR K mg F' H' σ' s' m' → RpX K mg F' H' cls dd e → G.ex e s' m' → W cls dd σ' H'
def SndS (K : PySem.W.Frag) (mg : Str → Option Value) (W : WX) (t : TS) (v : VS) : Prop := ∀ (σ : L2.St) (F H : Hp) (s : SL) (m : Mem) (G : DE), Le F H → EnvR K mg F H σ s m → v s m G → ∀ E : Ends, Lk K mg W F H m G E → t E σ H
def JS (X : Cx) (W : WX) (st : Stmt) (v : VS) : Prop := ∃ t, PS X st t ∧ SndS X.K X.mg W t v
def JSs (X : Cx) (W : WX) (st : List Stmt) (v : VS) : Prop := ∃ t, PSs X st t ∧ SndS X.K X.mg W t v
section
variable {K : PySem.W.Frag} {mg : Str → Option Value} {W : WX} {F H F1 H1 : Hp} {m m1 : Mem} {G : DE} {E : Ends} {σ : L2.St} {s : SL}
theorem Lk.after (L : Lk K mg W F H m G E) (t : StM K mg m F H F1 H1 m1) : Lk K mg W F1 H1 m1 G E :=
  ⟨fun σ' s' F' H' m' u e g => L.nx σ' s' F' H' m' (t.trans u) e g, fun v d F' H' m' u r g => L.rt v d F' H' m' (t.trans u) r g, fun σ' s' F' H' m' u e g => L.bk σ' s' F' H' m' (t.trans u) e g, fun σ' s' F' H' m' u e g => L.ct σ' s' F' H' m' (t.trans u) e g,
   fun cls dd e σ' s' F' H' m' u en r g => L.ex cls dd e σ' s' F' H' m' (t.trans u) en r g⟩
theorem Lk.x (L : Lk K mg W F H m G E) (en : EnvR K mg F H σ s m) : XOk K mg W σ F H m (fun e m' => G.ex e s m') := fun cls dd e F' H' m' t r g => L.ex cls dd e σ s F' H' m' t (en.stm t) r g
end
@[reducible] def vNext : VS := fun s m G => G.nx s m
@[reducible] def vBreak : VS := fun s m G => G.bk s m
@[reducible] def vCont : VS := fun s m G => G.ct s m
@[reducible] def vSeq (a b : VS) : VS := fun s m G => a s m { G with nx := fun s' m' => b s' m' G }
@[reducible] def vRet (a : VE) : VS := fun s m G => a s m G.rt fun e m' => G.ex e s m'
@[reducible] def vRetN : VS := fun _ m G => G.rt .non m
@[reducible] def vDrop (a : VE) : VS := fun s m G => a s m (fun _ m' => G.nx s m') fun e m' => G.ex e s m'
@[reducible] def vIfS (t : VT) (a b : VS) : VS := fun s m G => t s m (fun c m1 => if c = true then a s m1 G else b s m1 G) fun e m' => G.ex e s m'
@[reducible] def vNever : VS := fun _ _ _ => False
/-! ### targets -/
abbrev VG := D → SL → (SL → Prop) → Prop
abbrev VGs := List D → SL → (SL → Prop) → Prop
def SndG (K : PySem.W.Frag) (mg : Str → Option Value) (g : TG) (js : List Nat) (v : VG) : Prop := ∀ (u : V) (σ : L2.St) (F H : Hp) (d : D) (s : SL) (m : Mem) (k : SL → Prop), Le F H → EnvR K mg F H σ s m → Rp K mg F u d → v d s k → ∀ Q : L2.St → Hp → Prop,
  (∀ σ' s', EnvR K mg F H σ' s' m → (∀ vs : List Nat, (∀ j ∈ js, j ∈ vs) → L2.wipe σ' vs = L2.wipe σ vs) → k s' → Q σ' H) → g u σ H Q
def SndGs (K : PySem.W.Frag) (mg : Str → Option Value) (g : TGs) (js : List Nat) (v : VGs) : Prop := ∀ (u : List V) (σ : L2.St) (F H : Hp) (d : List D) (s : SL) (m : Mem) (k : SL → Prop), Le F H → EnvR K mg F H σ s m → RpL K mg F u d → v d s k → ∀ Q : L2.St → Hp → Prop,
  (∀ σ' s', EnvR K mg F H σ' s' m → (∀ vs : List Nat, (∀ j ∈ js, j ∈ vs) → L2.wipe σ' vs = L2.wipe σ vs) → k s' → Q σ' H) → g u σ H Q
def JG (X : Cx) (e : Expr) (js : List Nat) (v : VG) : Prop := ∃ g, PG X e g ∧ SndG X.K X.mg g js v
def JGs (X : Cx) (e : List Expr) (js : List Nat) (v : VGs) : Prop := ∃ g, PGs X e g ∧ SndGs X.K X.mg g js v
@[reducible] def gN (i : Nat) : VG := fun d s k => k (s.set i (some d))
def gNl : VGs
  | [], s, k => k s
  | _, _, _ => False
def gCn (a : VG) (r : VGs) : VGs
  | d :: ds, s, k => a d s fun s' => r ds s' k
  | _, _, _ => False
def gTp (n : Nat) (r : VGs) : VG
  | .tup ds, s, k => ds.length = n ∧ r ds s k
  | .pr ds, s, k => ds.length = n ∧ r ds s k
  | _, _, _ => False
theorem wipe_ix {σ : L2.St} {j : Nat} : ∀ {vs : List Nat}, j ∉ vs → (L2.wipe σ vs)[j]? = σ[j]?
  | [], _ => rfl
  | v :: vs, h => by
    have h1 : j ≠ v := fun z => h (by rw [z]; exact List.mem_cons_self)
    show ((L2.wipe σ vs).set v none)[j]? = σ[j]?
    rw [List.getElem?_set_ne (fun z => h1 z.symm), wipe_ix fun z => h (List.mem_cons_of_mem _ z)]
theorem wipe_in {σ : L2.St} {j : Nat} : ∀ {vs : List Nat}, j ∈ vs → j < σ.length → (L2.wipe σ vs)[j]? = some none
  | v :: vs, h, hl => by
    show ((L2.wipe σ vs).set v none)[j]? = some none
    by_cases e : j = v
    · subst e
      rw [List.getElem?_set_self (by rw [L2.wipe_length]; exact hl)]
    · rw [List.getElem?_set_ne (fun z => e z.symm)]
      rcases List.mem_cons.mp h with z | z
      · exact absurd z e
      · exact wipe_in z hl
theorem wipe_set {σ : L2.St} {i : Nat} {x : Option V} {vs : List Nat} (h : i ∈ vs) : L2.wipe (σ.set i x) vs = L2.wipe σ vs := by
  apply List.ext_getElem?
  intro j
  by_cases hj : j ∈ vs
  · by_cases hl : j < σ.length
    · rw [wipe_in hj (by rw [List.length_set]; exact hl), wipe_in hj hl]
    · rw [List.getElem?_eq_none (by rw [L2.wipe_length, List.length_set]; omega), List.getElem?_eq_none (by rw [L2.wipe_length]; omega)]
  · rw [wipe_ix hj, wipe_ix hj, List.getElem?_set_ne (fun z => hj (by rw [← z]; exact h))]
theorem wipe_wipe {σ : L2.St} {vs : List Nat} : L2.wipe (L2.wipe σ vs) vs = L2.wipe σ vs := by
  apply List.ext_getElem?
  intro j
  by_cases hj : j ∈ vs
  · by_cases hl : j < σ.length
    · rw [wipe_in hj (by rw [L2.wipe_length]; exact hl), wipe_in hj hl]
    · rw [List.getElem?_eq_none (by rw [L2.wipe_length, L2.wipe_length]; omega), List.getElem?_eq_none (by rw [L2.wipe_length]; omega)]
  · rw [wipe_ix hj]
section
variable {X : Cx} {W : WX} {e a : Expr} {es : List Expr} {pos : Pos} {ve va : VE} {vt : VT} {st : Stmt} {rest : List Stmt} {v v1 v2 : VS} {js js' : List Nat} {vg : VG} {vgs : VGs} {vs : VA}
theorem jg_name {i : Nat} {x : Str} (hN : X.N.Nodup) (hi : X.N[i]? = some x) (hx : Loc X.env.scope x) (hf : X.fn x = true ∨ X.env.scope.names.lookup x = some .local := by first | exact .inl rfl | exact .inr rfl | assumption) : JG X (.Name x pos) [i] (gN i) :=
  ⟨_, pg_name hN hi hx hf, fun u σ F H d s m k l en r h Q q => q _ _ (en.set r) (fun vs hv => wipe_set (hv i (List.mem_singleton.mpr rfl))) h⟩
theorem jgs_nil : JGs X [] [] gNl := ⟨_, pgs_nil, fun u σ F H d s m k l en r h Q q => by
  cases r with
  | nil => exact ⟨rfl, q σ s en (fun _ _ => rfl) h⟩
  | cons _ _ => exact h.elim⟩
theorem jgs_cons (h1 : JG X e js vg) (h2 : JGs X es js' vgs) (hs : (assignEach (e :: es) X.env).map (·.2) = assign e X.env :: (assignEach es X.env).map (·.2) := by rfl) : JGs X (e :: es) (js ++ js') (gCn vg vgs) := by
  obtain ⟨g1, p1, s1⟩ := h1; obtain ⟨g2, p2, s2⟩ := h2
  refine ⟨_, pgs_cons p1 p2 hs, fun u σ F H d s m k l en r h Q q => ?_⟩
  cases r with
  | nil => exact h.elim
  | cons ra rb =>
    refine ⟨_, _, rfl, s1 _ σ F H _ s m _ l en ra h _ fun σ1 s1' e1 w1 k1 => ?_⟩
    refine s2 _ σ1 F H _ s1' m k l e1 rb k1 Q fun σ2 s2' e2 w2 k2 => q σ2 s2' e2 (fun vs hv => ?_) k2
    rw [w2 vs (fun j hj => hv j (List.mem_append_right _ hj)), w1 vs (fun j hj => hv j (List.mem_append_left _ hj))]
theorem jg_tup {k n : Nat} (hc : X.calm = true) (h : JGs X es js vgs) (hn : (assignEach es X.env).length = n := by rfl) (hst : (assignEach es X.env).findIdx? (·.1) = none := by rfl) : JG X (.Tuple es k pos) js (gTp n vgs) := by
  obtain ⟨g, p, s1⟩ := h
  refine ⟨_, pg_tup hc p hn hst, fun u σ F H d s m k l en r h Q q => ?_⟩
  cases d with
  | tup ds =>
    obtain ⟨a, xs, rfl, sq, rl⟩ := r.tupI
    exact ⟨a, xs, rfl, l.sqt sq, by rw [rl.len]; exact h.1, s1 xs σ F H ds s m k l en rl h.2 Q q⟩
  | pr ds =>
    obtain ⟨a, xs, rfl, sq, rl⟩ := r.prI
    exact ⟨a, xs, rfl, l.sqt (SqT.of sq), by rw [rl.len]; exact h.1, s1 xs σ F H ds s m k l en rl h.2 Q q⟩
  | _ => exact h.elim
/-! ### statements, one by one -/
theorem jss_nil : JSs X W [] vNext := ⟨_, pss_nil, fun σ F H s m G l en h E L => L.nx σ s F H m (StM.refl l en.mem) en h⟩
theorem SndS.seq {t u : TS} (h1 : SndS X.K X.mg W t v1) (h2 : SndS X.K X.mg W u v2) : SndS X.K X.mg W (tSeq t u) (vSeq v1 v2) := fun σ F H s m G l en h E L =>
  h1 σ F H s m _ l en h { E with nx := u E } ⟨fun σ' s' F' H' m' t e g => h2 σ' F' H' s' m' G t.le e g E (L.after t), L.rt, L.bk, L.ct, L.ex⟩
theorem jss_cons (h1 : JS X W st v1) (h2 : JSs X W rest v2) : JSs X W (st :: rest) (vSeq v1 v2) := by
  obtain ⟨t, p1, s1⟩ := h1; obtain ⟨u, p2, s2⟩ := h2
  exact ⟨_, pss_cons p1 p2, s1.seq s2⟩
theorem jss_one (h1 : JS X W st v) : JSs X W [st] v := by obtain ⟨t, p1, s1⟩ := h1; exact ⟨_, pss_one p1, s1⟩
theorem js_ret (he : JE X W e ve) : JS X W (.Return (some e) pos) (vRet ve) := by
  obtain ⟨t, p1, s1⟩ := he
  exact ⟨_, ps_ret p1, fun σ F H s m G l en h E L => s1 σ F H s m _ _ l en h (L.x en) _ fun v d F' H' m' t r g => L.rt v d F' H' m' t r g⟩
theorem js_expr (he : JE X W e ve) (hs : swapsWith e none pos.line X.env = pure false := by rfl) : JS X W (.Expr e pos) (vDrop ve) := by
  obtain ⟨t, p1, s1⟩ := he
  exact ⟨_, ps_expr p1 hs, fun σ F H s m G l en h E L => s1 σ F H s m _ _ l en h (L.x en) _ fun v d F' H' m' t r g => L.nx σ s F' H' m' t (en.stm t) g⟩
theorem js_if {a b : List Stmt} (hc : JT X W e vt) (ha : JSs X W a v1) (hb : JSs X W b v2) : JS X W (.If e a b pos) (vIfS vt v1 v2) := by
  obtain ⟨t, p0, s0⟩ := hc; obtain ⟨t1, p1, s1⟩ := ha; obtain ⟨t2, p2, s2⟩ := hb
  refine ⟨_, ps_if p0 p1 p2, fun σ F H s m G l en h E L => s0 σ F H s m _ _ l en h (L.x en) _ fun b F1 H1 m1 t1 k1 => ?_⟩
  cases b with
  | true =>
    rw [if_pos rfl] at k1 ⊢
    exact s1 σ F1 H1 s m1 G t1.le (en.stm t1) k1 E (L.after t1)
  | false =>
    rw [if_neg (by decide)] at k1 ⊢
    exact s2 σ F1 H1 s m1 G t1.le (en.stm t1) k1 E (L.after t1)
theorem jss_never {sts : List Stmt} : JSs X W sts vNever := ⟨_, pss_never, fun _ _ _ _ _ _ _ _ h _ _ => h.elim⟩
/-- target = e -/
@[reducible] def vAsg (a : VE) (g : VG) : VS := fun s m G => a s m (fun d m' => g d s fun s' => G.nx s' m') fun e m' => G.ex e s m'
theorem js_asg {tg : Expr} (he : JE X W e ve) (hg : JG X tg js vg) (hs : swapsWithSole [tg] e pos.line X.env = pure false := by rfl) (hw : swappedStores [tg] e X.env = pure none := by rfl) (h1 : (assignEach [tg] X.env).map (·.2) = [assign tg X.env] := by rfl) : JS X W (.Assign [tg] e pos) (vAsg ve vg) := by
  obtain ⟨t, p1, s1⟩ := he; obtain ⟨g, p2, s2⟩ := hg
  exact ⟨_, ps_asg p1 p2 hs hw h1, fun σ F H s m G l en h E L => s1 σ F H s m _ _ l en h (L.x en) _ fun v d F' H' m' t r k => s2 v σ F' H' d s m' _ t.le (en.stm t) r k _ fun σ' s' e' _ g => L.nx σ' s' F' H' m' t e' g⟩
@[reducible] def vSet (i : Nat) (a : VE) : VS := fun s m G => a s m (fun d m' => G.nx (s.set i (some d)) m') fun e m' => G.ex e s m'
theorem js_set {i : Nat} {x : Str} {pos' : Pos} (hN : X.N.Nodup) (hi : X.N[i]? = some x) (hx : Loc X.env.scope x) (he : JE X W e ve) (hs : swapsWith e (some (.Name x pos')) pos.line X.env = pure false := by rfl) (hf : X.fn x = true ∨ X.env.scope.names.lookup x = some .local := by first | exact .inl rfl | exact .inr rfl | assumption) :
    JS X W (.Assign [.Name x pos'] e pos) (vSet i ve) := by
  obtain ⟨t, p1, s1⟩ := he
  exact ⟨_, ps_set hN hi hx p1 hs hf, fun σ F H s m G l en h E L => s1 σ F H s m _ _ l en h (L.x en) _ fun v d F' H' m' t r k => L.nx _ _ F' H' m' t ((en.stm t).set r) k⟩
@[reducible] def vPar (i j : Nat) (a : VA) : VS := fun s m G => a s m (fun ds m' => match ds with
  | [d, e] => G.nx ((s.set i (some d)).set j (some e)) m'
  | _ => False) fun e m' => G.ex e s m'
theorem SndS.par {i j : Nat} {ta : TA} (h1 : SndA X.K X.mg W ta vs) : SndS X.K X.mg W (tPar i j ta) (vPar i j vs) := fun σ F H s m G l en h E L => h1 σ F H s m _ _ l en h (L.x en) _ fun us ds F' H' m' t r k => by
  cases r with
  | nil => exact k.elim
  | cons ra r => cases r with
    | nil => exact k.elim
    | cons rb r => cases r with
      | nil => exact ⟨_, _, rfl, L.nx _ _ F' H' m' t (((en.stm t).set ra).set rb) k⟩
      | cons _ _ => exact k.elim
/-- name op= e -/
@[reducible] def vAug (i : Nat) (o : O2) (a : VE) : VS := fun s m G => vGet s[i]? fun d => a s m (fun e m1 => o d e m1 fun z m2 => G.nx (s.set i (some z)) m2) fun e m' => G.ex e s m'
/-- from now on nobody changes what the slot holds -/
@[reducible] def vFrz (i : Nat) (v : VS) : VS := fun s m G => vGet s[i]? fun d => match d with
  | .ref p => match m p with
    | some o => o.onF fun d => v (s.set i (some d)) (mdel m p) G
    | none => False
  | _ => False
/-- a dict may be locked for good ahead of a block -/
def tLk (t : TS) : TS := fun D σ H => t D σ H ∨ ∃ d u, H d = some u ∧ Mut (some u) ∧ ∀ od, t D σ (upd H d (.frz od u))
theorem SndS.frz {i : Nat} {t : TS} (h1 : SndS X.K X.mg W t v) : SndS X.K X.mg W (tLk t) (vFrz i v) := fun σ F H s m G l en h E L => by
  unfold vFrz vGet at h
  split at h
  · rename_i d hs
    cases d with
    | ref p =>
      cases hm : m p with
      | none => simp only [hm] at h
      | some o =>
        simp only [hm] at h
        obtain ⟨w, h2, h3⟩ := en.val i _ hs
        obtain rfl := h3.refI
        cases hk0 : o.isK with
        | false =>
          obtain ⟨F', d', st, r, hk⟩ := StM.frz l en.mem hm hk0 h
          exact .inl (h1 σ F' H _ _ G st.le ((en.stm st).told h2 r) hk E (L.after st))
        | true =>
          cases o with
          | dic ds =>
            obtain ⟨xs, hp, st0⟩ := StM.lock l en.mem hm
            refine .inr ⟨p, _, hp, trivial, fun od => ?_⟩
            obtain ⟨F', d', st, r, hk⟩ := StM.frz (u := .lck ds) (st0 od).le (st0 od).mr mset_same rfl (k := fun d => v (s.set i (some d)) (mdel m p) G) h
            have e : mdel (mset m p (.lck ds)) p = mdel m p := by funext b; unfold mdel mset; split <;> rfl
            rw [e] at st
            have st2 := (st0 od).trans st
            exact h1 σ F' _ _ _ G st2.le ((en.stm st2).told h2 r) hk E (L.after st2)
          | _ => cases hk0
    | _ => exact h.elim
  · exact h.elim
/-- .. of an expression's value -/
@[reducible] def vFz (a : VE) : VE := fun s m k x => a s m (fun d m' => match d with
  | .ref p => match m' p with
    | some o => o.onF fun d => k d (mdel m' p)
    | none => False
  | _ => False) x
end
/-! ### loops -/
/-- a for over data; dep: what must stand at each turn -/
def forV (b : D → VS) : List D → VS
  | [], s, m, G => G.nx s m
  | d :: ds, s, m, G => b d s m { G with nx := fun s' m' => forV b ds s' m' G, ct := fun s' m' => forV b ds s' m' G, bk := G.nx }
def forM (dep : Mem → Prop) (b : D → VS) : List D → VS
  | [], s, m, G => dep m ∧ G.nx s m
  | d :: ds, s, m, G => dep m ∧ b d s m { G with nx := fun s' m' => forM dep b ds s' m' G, ct := fun s' m' => forM dep b ds s' m' G, bk := G.nx }
/-- what is walked, over data: it gives ds, item by item, as long as dep stands -/
def ItD (K : PySem.W.Frag) (mg : Str → Option Value) (J : It) (F1 : Hp) (dep : Mem → Prop) (ds : List D) : Prop := ∀ F' H' m' i, Gr F1 F' → Le F' H' → MemR K mg F' H' m' → dep m' →
  (i < ds.length → J.go i H') ∧ (ds.length ≤ i → J.stop i H') ∧ ∀ x H2, i < ds.length → J.yld i H' x H2 → ∃ d F2, ds[i]? = some d ∧ Step F' H' F2 H2 ∧ Rp K mg F2 x d
abbrev VI := SL → Mem → (List D → (Mem → Prop) → Mem → Prop) → KX → Prop
/-- the same over what is frozen -/
abbrev VF := SL → Mem → (List D → Mem → Prop) → KX → Prop
def SndF (K : PySem.W.Frag) (mg : Str → Option Value) (W : WX) (wi : TI) (v : VF) : Prop := ∀ (σ : L2.St) (F H : Hp) (s : SL) (m : Mem) (k : List D → Mem → Prop) (x : KX), Le F H → EnvR K mg F H σ s m → v s m k x → XOk K mg W σ F H m x → ∀ R : It → Hp → Prop,
  (∀ J ds F' H' m', StM K mg m F H F' H' m' → ItD K mg J F' (fun _ => True) ds → k ds m' → R J H') → wi σ H R
def JF (X : Cx) (W : WX) (tg e : Expr) (v : VF) : Prop := ∃ wi, PI X tg e wi ∧ SndF X.K X.mg W wi v
theorem drop_of {α : Type} {ds : List α} {i : Nat} {d : α} (hi : ds[i]? = some d) : ds.drop i = d :: ds.drop (i + 1) := by
  obtain ⟨h1, h2⟩ := List.getElem?_eq_some_iff.mp hi
  rw [List.drop_eq_getElem_cons h1, h2]
section
variable {X : Cx} {W : WX} {e tg : Expr} {body : List Stmt} {pos : Pos} {vi : VI} {v : VS} {js : List Nat} {vg : VG} {vt : VT}
@[reducible] def vForM (i : VI) (g : VG) (b : VS) : VS := fun s m G => i s m (fun ds dep m1 => forM dep (fun d s m G => g d s fun s1 => b s1 m G) ds s m1 G) fun e m' => G.ex e s m'
/-- over what is frozen -/
@[reducible] def vFor (i : VF) (g : VG) (b : VS) : VS := fun s m G => i s m (fun ds m1 => forV (fun d s m G => g d s fun s1 => b s1 m G) ds s m1 G) fun e m' => G.ex e s m'
theorem js_for {vi : VF} (hp : PassesOwn (model X.prog X.w) X.A X.env X.xe) (hc : X.calm = true) (hi : JF X W tg e vi) (hg : JG X tg js vg) (hb : JSs X W body v) (hs : ∀ x, foldedSetIterable e X.env x = pure x := by intro _; rfl) : JS X W (.For tg e body [] pos) (vFor vi vg v) := by
  obtain ⟨wi, p0, s0⟩ := hi; obtain ⟨g, p1, s1⟩ := hg; obtain ⟨tb, p2, s2⟩ := hb
  refine ⟨_, ps_for hp hc p0 p1 p2 hs, fun σ F H s m G l en h E L => s0 σ F H s m _ _ l en h (L.x en) _ fun J ds F1 H1 m1 t1 J1 h1 => ?_⟩
  have L1 := L.after t1
  refine ⟨fun i n σ' H' => n = ds.length - i ∧ i ≤ ds.length ∧ ∃ s' F' m', StM X.K X.mg m1 F1 H1 F' H' m' ∧ EnvR X.K X.mg F' H' σ' s' m' ∧ forV (fun d s m G => vg d s fun s1 => v s1 m G) (ds.drop i) s' m' G,
    ⟨ds.length, rfl, Nat.zero_le _, s, F1, m1, StM.refl t1.le t1.mr, en.stm t1, h1⟩, ?_⟩
  rintro i n σ' H' ⟨rfl, hi, s', F', m', st, e', w⟩
  obtain ⟨j1, j2, j3⟩ := J1 F' H' m' i st.gr st.le st.mr trivial
  by_cases hlt : i < ds.length
  · refine .inr ⟨j1 hlt, fun σ3 H3 => ∃ s' F' m', StM X.K X.mg m1 F1 H1 F' H3 m' ∧ EnvR X.K X.mg F' H3 σ3 s' m' ∧ forV (fun d s m G => vg d s fun s1 => v s1 m G) (ds.drop (i + 1)) s' m' G, fun σ3 H3 p => ⟨ds.length - (i + 1), by omega, rfl, hlt, p⟩, fun x H2 y => ?_⟩
    obtain ⟨d, F2, hd, sp, r2⟩ := j3 x H2 hlt y
    rw [drop_of hd] at w
    have st2 := st.trans (sp.stm st.mr)
    refine s1 x σ' F2 H2 d s' m' _ sp.le (e'.stm (sp.stm st.mr)) r2 w _ fun σ2 s2' e2 _ w2 => ?_
    have L2' := L1.after st2
    refine s2 σ2 F2 H2 s2' m' _ sp.le e2 w2 _ ⟨fun σ3 s3 F3 H3 m3 t3 e3 g3 => ⟨s3, F3, m3, st2.trans t3, e3, g3⟩, L2'.rt, L2'.nx, fun σ3 s3 F3 H3 m3 t3 e3 g3 => ⟨s3, F3, m3, st2.trans t3, e3, g3⟩, L2'.ex⟩
  · refine .inl ⟨j2 (by omega), ?_⟩
    rw [List.drop_of_length_le (by omega)] at w
    exact L1.nx σ' s' F' H' m' st e' w
/-- a while by an invariant and a measure -/
@[reducible] def vWhile (t : VT) (b : VS) : VS := fun s m G => ∃ I : Nat → SL → Mem → Prop, (∃ n, I n s m) ∧ ∀ n s m, I n s m → t s m (fun c m1 => if c = true then b s m1 { G with nx := fun s' m' => ∃ n', n' < n ∧ I n' s' m', ct := fun s' m' => ∃ n', n' < n ∧ I n' s' m', bk := G.nx } else G.nx s m1) fun e m' => G.ex e s m'
theorem js_while (hp : PassesOwn (model X.prog X.w) X.A X.env X.xe) (hc : JT X W e vt) (hb : JSs X W body v) : JS X W (.While e body [] pos) (vWhile vt v) := by
  obtain ⟨tc, p0, s0⟩ := hc; obtain ⟨tb, p2, s2⟩ := hb
  refine ⟨_, ps_while hp p0 p2, fun σ F H s m G l en h E L => ?_⟩
  obtain ⟨I, ⟨n0, h0⟩, hI⟩ := h
  refine ⟨fun n σ' H' => ∃ s' F' m', StM X.K X.mg m F H F' H' m' ∧ EnvR X.K X.mg F' H' σ' s' m' ∧ I n s' m', ⟨n0, s, F, m, StM.refl l en.mem, en, h0⟩, ?_⟩
  rintro n σ' H' ⟨s', F', m', st, e', i⟩
  refine s0 σ' F' H' s' m' _ _ st.le e' (hI n s' m' i) ((L.after st).x e') _ fun b F1 H1 m1 t1 k1 => ?_
  have st1 := st.trans t1
  have L1 := L.after st1
  cases b with
  | true =>
    rw [if_pos rfl] at k1 ⊢
    refine ⟨fun σ2 H2 => ∃ n', n' < n ∧ ∃ s' F' m', StM X.K X.mg m F H F' H2 m' ∧ EnvR X.K X.mg F' H2 σ2 s' m' ∧ I n' s' m', fun _ _ h => h, ?_⟩
    exact s2 σ' F1 H1 s' m1 _ t1.le (e'.stm t1) k1 _ ⟨fun σ3 s3 F3 H3 m3 t3 e3 ⟨n', hn, g3⟩ => ⟨n', hn, s3, F3, m3, st1.trans t3, e3, g3⟩, L1.rt, L1.nx, fun σ3 s3 F3 H3 m3 t3 e3 ⟨n', hn, g3⟩ => ⟨n', hn, s3, F3, m3, st1.trans t3, e3, g3⟩, L1.ex⟩
  | false =>
    rw [if_neg (by decide)] at k1 ⊢
    exact L1.nx σ' s' F1 H1 m1 (StM.refl t1.le t1.mr) (e'.stm t1) k1
end
end Ts
namespace Ts
open PySem PySem.Spec PyProof.Rows L2
/-! ### what may be walked -/
/-- a list, a tuple or a text -/
def iSeq (K : PySem.W.Frag) (tl : TE) : TI := fun σ H R => tl σ H fun x H1 => (∃ a, x = .ref a ∧ (∃ xs, SqL K H1 a xs) ∧ R (Itl K a) H1) ∨ (∃ a, x = .ref a ∧ (∃ xs, SqT K H1 a xs) ∧ R (Itt K a) H1) ∨ ∃ z, x = .str z ∧ R (Its z) H1
theorem pi_seq {X : Cx} {tg l : Expr} {tl : TE} (hl : PE X l tl) : PI X tg l (iSeq X.K tl) := by
  refine ⟨fun pins s σ H R I h => ?_⟩
  refine thn (hl.run pins s σ H _ I h) fun v s1 ⟨x, H1, I1, r1, q1⟩ => ?_
  rcases q1 with ⟨a, e, ⟨xs, hq⟩, q⟩ | ⟨a, e, ⟨xs, hq⟩, q⟩ | ⟨z, e, q⟩
  · subst e
    cases r1
    obtain ⟨its, rv, p, hz⟩ := I1.list hq
    refine wpAny_pyIter_list p.isList ?_
    refine ⟨s1.heap.objs.size, [s1.heap.objs.size], _, _, H1, rfl, I1.kept (t' := s1.toks) fun b o e => Heap.get?_push_of_some _ e, turn_list a _, ⟨_, Heap.get?_push_size _ rfl, rfl, rfl⟩, fun b hb => ?_, q⟩
    have e : b = s1.heap.objs.size := by simpa using hb
    subst e
    exact I1.fpOk (Nat.le_refl _) (I1.hok.fresh (Nat.le_refl _))
  · subst e
    cases r1
    obtain ⟨its, rv, p, hz⟩ := I1.tuple hq
    refine wpAny_pyIter_tuple (show s1.heap.IsTuple a its.toArray from p) ?_
    refine ⟨s1.heap.objs.size, [s1.heap.objs.size], _, _, H1, rfl, I1.kept (t' := s1.toks) fun b o e => Heap.get?_push_of_some _ e, turn_tuple a _, ⟨_, Heap.get?_push_size _ rfl, rfl, rfl⟩, fun b hb => ?_, q⟩
    have e : b = s1.heap.objs.size := by simpa using hb
    subst e
    exact I1.fpOk (Nat.le_refl _) (I1.hok.fresh (Nat.le_refl _))
  · subst e
    obtain ⟨t, rfl⟩ := r1
    cases ha : z.cps.all (· < 128)
    · exact wpAny_pyIter_wide ha (pi_one (tk := s1.toks) I1 _ (turn_str _ z t "str_iterator" (.inr rfl)) ⟨_, Heap.get?_push_size _ rfl, rfl, rfl⟩ q)
    · exact wpAny_pyIter_ascii ha (pi_one (tk := s1.toks) I1 _ (turn_str _ z t "str_ascii_iterator" (.inl rfl)) ⟨_, Heap.get?_push_size _ rfl, rfl, rfl⟩ q)
/-- the signs of a text -/
def signs (x : Str) : List D := x.cps.toList.map fun c => .str ⟨#[c]⟩
def wkD : D → (List D → Prop) → Prop
  | .lst ds, k => k ds
  | .lat _ ds, k => k ds
  | .tup ds, k => k ds
  | .pr ds, k => k ds
  | .str z, k => k (signs z)
  | _, _ => False
@[reducible] def vWalk (a : VE) : VF := fun s m k x => a s m (fun d m' => wkD d fun ds => k ds m') x
section
variable {K : PySem.W.Frag} {mg : Str → Option Value} {F1 : Hp}
theorem it_list {a : Addr} {xs : List V} {ds : List D} (sq : SqL K F1 a xs) (rl : RpL K mg F1 xs ds) : ItD K mg (Itl K a) F1 (fun _ => True) ds := fun F' H' m' i gr le _ _ => by
  have sq' : SqL K H' a xs := le.sql (gr.sql sq)
  refine ⟨fun hi => ?_, fun hi => ⟨xs, sq', by rw [rl.len]; exact hi⟩, fun x H2 hi y => ?_⟩
  · have hi' : i < xs.length := by rw [rl.len]; exact hi
    exact ⟨xs, xs[i], sq', List.getElem?_eq_getElem hi'⟩
  · obtain ⟨eH, y⟩ := y
    subst eH
    obtain ⟨d, hd, rd⟩ := rl.atV (y xs sq')
    exact ⟨d, F', hd, Step.refl le, rd.mono gr⟩
theorem it_tup {a : Addr} {xs : List V} {ds : List D} (sq : SqT K F1 a xs) (rl : RpL K mg F1 xs ds) : ItD K mg (Itt K a) F1 (fun _ => True) ds := fun F' H' m' i gr le _ _ => by
  have sq' : SqT K H' a xs := le.sqt (gr.sqt sq)
  refine ⟨fun hi => ?_, fun hi => ⟨xs, sq', by rw [rl.len]; exact hi⟩, fun x H2 hi y => ?_⟩
  · have hi' : i < xs.length := by rw [rl.len]; exact hi
    exact ⟨xs, xs[i], sq', List.getElem?_eq_getElem hi'⟩
  · obtain ⟨eH, y⟩ := y
    subst eH
    obtain ⟨d, hd, rd⟩ := rl.atV (y xs sq')
    exact ⟨d, F', hd, Step.refl le, rd.mono gr⟩
theorem it_str {z : Str} : ItD K mg (Its z) F1 (fun _ => True) (signs z) := fun F' H' m' i gr le _ _ => by
  have hl : (signs z).length = z.cps.size := by simp [signs]
  refine ⟨fun hi => by rw [hl] at hi; exact hi, fun hi => by rw [hl] at hi; exact hi, fun y H2 hi w => ?_⟩
  obtain ⟨eH, c, hc, ey⟩ := w
  subst eH ey
  refine ⟨.str ⟨#[c]⟩, F', ?_, Step.refl le, .str _⟩
  have hc' : z.cps.toList[i]? = some c := by simpa using hc
  simp [signs, hc']
/-- the ints from lo on -/
def rngD (lo : Int) (n : Nat) : List D := (List.range n).map fun (i : Nat) => .int (lo + (i : Int))
theorem rngD_len (lo : Int) (n : Nat) : (rngD lo n).length = n := by simp [rngD]
theorem rngD_at {lo : Int} {n i : Nat} (h : i < n) : (rngD lo n)[i]? = some (.int (lo + (i : Int))) := by simp [rngD, h]
theorem it_rng {lo : Int} {n : Nat} : ItD K mg (Itr lo n) F1 (fun _ => True) (rngD lo n) := fun F' H' m' i gr le _ _ =>
  ⟨fun hi => by rw [rngD_len] at hi; exact hi, fun hi => by rw [rngD_len] at hi; exact hi, fun x H2 hi y => by
    obtain ⟨eH, ex⟩ := y
    subst eH ex
    rw [rngD_len] at hi
    exact ⟨_, F', rngD_at hi, Step.refl le, .int _⟩⟩
/-- pairs -/
def zipD (xs ys : List D) : List D := List.zipWith (fun x y => .pr [x, y]) xs ys
def enumD (n : Nat) : List D → List D
  | [] => []
  | d :: ds => .pr [.int (n : Int), d] :: enumD (n + 1) ds
theorem pair_step {F' H' : Hp} {T : Addr} {x y : V} {dx dy : D} (le : Le F' H') (hT : H' T = none) (rx : Rp K mg F' x dx) (ry : Rp K mg F' y dy) :
    Step F' H' (upd F' T (.tup [x, y])) (upd H' T (.tup [x, y])) ∧ Rp K mg (upd F' T (.tup [x, y])) (.ref T) (.pr [dx, dy]) := by
  have s := Step.new (F := F') (o := .tup [x, y]) le hT
  exact ⟨s, .pr upd_same (.cons (rx.mono s.gr) (.cons (ry.mono s.gr) .nil))⟩
end
section
variable {X : Cx} {W : WX} {e tg : Expr} {ve : VE} {vs : VA} {pos p : Pos}
theorem jf_seq (h : JE X W e ve) : JF X W tg e (vWalk ve) := by
  obtain ⟨t, p, s1⟩ := h
  refine ⟨_, pi_seq p, fun σ F H s m k x l en hv hx R q => s1 σ F H s m _ x l en hv hx _ fun v d F1 H1 m1 t1 r1 k1 => ?_⟩
  cases d with
  | lst ds =>
    obtain ⟨a, xs, rfl, sq, rl⟩ := r1.lstI
    exact .inl ⟨a, rfl, ⟨xs, t1.le.sql (SqL.of sq)⟩, q _ ds F1 H1 m1 t1 (it_list (SqL.of sq) rl) k1⟩
  | lat a ds =>
    obtain ⟨xs, rfl, sq, rl⟩ := r1.latI
    exact .inl ⟨a, rfl, ⟨xs, t1.le.sql sq⟩, q _ ds F1 H1 m1 t1 (it_list sq rl) k1⟩
  | tup ds =>
    obtain ⟨a, xs, rfl, sq, rl⟩ := r1.tupI
    exact .inr (.inl ⟨a, rfl, ⟨xs, t1.le.sqt sq⟩, q _ ds F1 H1 m1 t1 (it_tup sq rl) k1⟩)
  | pr ds =>
    obtain ⟨a, xs, rfl, sq, rl⟩ := r1.prI
    exact .inr (.inl ⟨a, rfl, ⟨xs, t1.le.sqt (SqT.of sq)⟩, q _ ds F1 H1 m1 t1 (it_tup (SqT.of sq) rl) k1⟩)
  | str z => exact .inr (.inr ⟨z, r1.strI, q _ (signs z) F1 H1 m1 t1 it_str k1⟩)
  | _ => exact False.elim k1
@[reducible] def vRng1 (a : VA) : VF := fun s m k x => a s m (fun ds m' => match ds with
  | [.int n] => (-(2 ^ 62) ≤ n ∧ n < 2 ^ 62) ∧ k (rngD 0 n.toNat) m'
  | _ => False) x
@[reducible] def vRng2 (a : VA) : VF := fun s m k x => a s m (fun ds m' => match ds with
  | [.int i, .int n] => (-(2 ^ 62) ≤ i ∧ i < 2 ^ 62 ∧ -(2 ^ 62) ≤ n ∧ n < 2 ^ 62) ∧ k (rngD i (n - i).toNat) m'
  | _ => False) x
theorem jf_rng1 {a : Expr} (hg : Gl X "range") (hm : X.mg "range" = none) (ha : JA X W [a] vs) (hs : starEach [a] X.env = [(false, eval a X.env)] := by rfl) : JF X W tg (.Call (.Name "range" p) [a] [] pos) (vRng1 vs) := by
  obtain ⟨t, p, s1⟩ := ha
  refine ⟨_, pi_range1 hg hm p hs, fun σ F H s m k x l en hv hx R q => s1 σ F H s m _ x l en hv hx _ fun us ds F1 H1 m1 t1 r1 k1 => ?_⟩
  split at k1
  · rename_i n
    obtain ⟨u, rfl, r⟩ := r1.one
    exact ⟨n, by rw [r.intI], k1.1.1, k1.1.2, q _ _ F1 H1 m1 t1 it_rng k1.2⟩
  · exact k1.elim
/-- enumerate of a list -/
@[reducible] def vEnum (a : VA) : VF := fun s m k x => a s m (fun ds m' => match ds with
  | [.lst es] => k (enumD 0 es) m'
  | _ => False) x
/-- zip of two lists, of two tuples; of one length -/
def zpD : List D → (List D → Prop) → Prop
  | [.lst xs, .lst ys], k => xs.length = ys.length ∧ k (zipD xs ys)
  | [.tup xs, .tup ys], k => xs.length = ys.length ∧ k (zipD xs ys)
  | _, _ => False
@[reducible] def vZip (a : VA) : VF := fun s m k x => a s m (fun ds m' => zpD ds fun zs => k zs m') x
theorem jf_zip {elts : List Expr} {kk : Nat} {tpos : Pos} {e2 : Expr} (hg : Gl X "zip") (hm : X.mg "zip" = none) (ha : JA X W [e, e2] vs) (hs : starEach [e, e2] X.env = (false, eval e X.env) :: starEach [e2] X.env := by rfl) (hpl : (backTo pos (starEach [e2] X.env)).any (·.1) = false := by rfl) : JF X W (.Tuple elts kk tpos) (.Call (.Name "zip" p) [e, e2] [] pos) (vZip vs) := by
  obtain ⟨t, p, s1⟩ := ha
  refine ⟨_, RZ.pi_zipA hg hm p hs hpl, fun σ F H s m k x l en hv hx R q => s1 σ F H s m _ x l en hv hx _ fun us ds F1 H1 m1 t1 r1 k1 => ?_⟩
  unfold zpD at k1
  split at k1
  · rename_i dx dy
    obtain ⟨hn, k1⟩ := k1
    have hl : (zipD dx dy).length = dx.length := by simp [zipD, hn]
    obtain ⟨u, w, rfl, ra, rb⟩ := r1.two
    obtain ⟨a, xs, rfl, sa, ra⟩ := ra.lstI
    obtain ⟨b, ys, rfl, sb, rb⟩ := rb.lstI
    refine ⟨a, b, xs, ys, rfl, .inl ⟨t1.le.sql (SqL.of sa), t1.le.sql (SqL.of sb), q _ _ F1 H1 m1 t1 (fun F' H' m' i gr le _ _ => ?_) k1⟩⟩
    have sa' : SqL X.K H' a xs := le.sql (gr.sql (SqL.of sa))
    have sb' : SqL X.K H' b ys := le.sql (gr.sql (SqL.of sb))
    refine ⟨fun hi => ?_, fun hi => ⟨xs, ys, sa', sb', .inl (by rw [ra.len]; omega)⟩, fun x H2 hi y => ?_⟩
    · have h3 : i < xs.length := by rw [ra.len]; omega
      have h4 : i < ys.length := by rw [rb.len]; omega
      exact ⟨xs, ys, xs[i], ys[i], sa', sb', List.getElem?_eq_getElem h3, List.getElem?_eq_getElem h4⟩
    · obtain ⟨T, u, w, rfl, hT, rfl, f1, f2⟩ := y
      obtain ⟨d1, hd1, rd1⟩ := ra.atV (f1 xs sa')
      obtain ⟨d2, hd2, rd2⟩ := rb.atV (f2 ys sb')
      obtain ⟨s, r⟩ := pair_step le hT (rd1.mono gr) (rd2.mono gr)
      exact ⟨.pr [d1, d2], _, by simp [zipD, List.getElem?_zipWith, hd1, hd2], s, r⟩
  · rename_i dx dy
    obtain ⟨hn, k1⟩ := k1
    have hl : (zipD dx dy).length = dx.length := by simp [zipD, hn]
    obtain ⟨u, w, rfl, ra, rb⟩ := r1.two
    obtain ⟨a, xs, rfl, sa, ra⟩ := ra.tupI
    obtain ⟨b, ys, rfl, sb, rb⟩ := rb.tupI
    refine ⟨a, b, xs, ys, rfl, .inr ⟨t1.le.sqt sa, t1.le.sqt sb, q _ _ F1 H1 m1 t1 (fun F' H' m' i gr le _ _ => ?_) k1⟩⟩
    have sa' : SqT X.K H' a xs := le.sqt (gr.sqt sa)
    have sb' : SqT X.K H' b ys := le.sqt (gr.sqt sb)
    refine ⟨fun hi => ?_, fun hi => ⟨xs, ys, sa', sb', .inl (by rw [ra.len]; omega)⟩, fun x H2 hi y => ?_⟩
    · have h3 : i < xs.length := by rw [ra.len]; omega
      have h4 : i < ys.length := by rw [rb.len]; omega
      exact ⟨xs, ys, xs[i], ys[i], sa', sb', List.getElem?_eq_getElem h3, List.getElem?_eq_getElem h4⟩
    · obtain ⟨T, u, w, rfl, hT, rfl, f1, f2⟩ := y
      obtain ⟨d1, hd1, rd1⟩ := ra.atV (f1 xs sa')
      obtain ⟨d2, hd2, rd2⟩ := rb.atV (f2 ys sb')
      obtain ⟨s, r⟩ := pair_step le hT (rd1.mono gr) (rd2.mono gr)
      exact ⟨.pr [d1, d2], _, by simp [zipD, List.getElem?_zipWith, hd1, hd2], s, r⟩
  · exact k1.elim
end
/-! ### comprehensions -/
abbrev nox : KX := fun _ _ => False
def lcV (g : VG) (t : VT) (e : VE) (s : SL) : List D → List D → Mem → (List D → Mem → Prop) → Prop
  | [], acc, m, k => k acc m
  | d :: ds, acc, m, k => g d s fun s1 => t s1 m (fun b m1 => if b = true then e s1 m1 (fun y m2 => lcV g t e s ds (acc ++ [y]) m2 k) nox else lcV g t e s ds acc m1 k) nox
section
variable {K : PySem.W.Frag} {mg : Str → Option Value} {F H F' H' : Hp} {m m' : Mem}
/-- an object of ours that is neither frozen nor in the memory -/
theorem StM.side {p : Addr} {o : HO} (s : StM K mg m F H F' H' m') (h : H p = none) (hf : F' p = none) (hm : m' p = none) : StM K mg m F H F' (upd H' p o) m' := by
  refine ⟨fun a u e n => by rw [upd_ne (ne_of_none e h)]; exact s.ex a u e n, fun a e => ?_, s.gr, fun a u e => ?_, fun a u e => ?_, s.nw, s.nm, fun a ob u e => by rw [upd_ne (ne_of_none e h)]; exact s.fz a ob u e⟩
  · by_cases ha : a = p
    · subst ha; rw [upd_same]; simp
    · rw [upd_ne ha]; exact s.th a e
  · rw [upd_ne (ne_of_none e hf)]; exact s.le a u e
  · have ha : a ≠ p := fun z => by rw [z, hm] at e; cases e
    obtain ⟨h1, h2⟩ := s.mr a u e
    exact ⟨h1, h2.keep (Gr.refl _) fun w q => by rw [upd_ne ha]; exact q⟩
theorem StM.nofz (s : StM K mg m F H F' H' m') {p : Addr} (h : F p = none) (h' : H p ≠ none) (hm : m p = none) : F' p = none ∧ m' p = none := by
  constructor
  · cases e : F' p with
    | none => rfl
    | some o =>
      rcases s.nw p o e with z | z | z
      · rw [h] at z; cases z
      · exact absurd z h'
      · exact absurd hm z
  · cases e : m' p with
    | none => rfl
    | some o =>
      rcases s.nm p (by rw [e]; simp) with z | z
      · exact absurd hm z
      · exact absurd z h'
theorem StM.fzn {p : Addr} {o : HO} (s : StM K mg m F H F' H' m') (h : H p = none) (hf : F' p = none) (hm : m' p = none) (ho : H' p = some o) : StM K mg m F H (upd F' p o) H' m' := by
  refine ⟨s.ex, s.th, s.gr.trans (gr_upd hf), fun a u e => ?_, fun a u e => ?_, fun a u e => ?_, s.nm, s.fz⟩
  · by_cases ha : a = p
    · subst ha; rw [upd_same] at e; cases e; exact .inl ho
    · rw [upd_ne ha] at e; exact s.le a u e
  · have ha : a ≠ p := fun z => by rw [z, hm] at e; cases e
    obtain ⟨h1, h2⟩ := s.mr a u e
    exact ⟨by rw [upd_ne ha]; exact h1, h2.keep (gr_upd hf) fun w q => q⟩
  · by_cases ha : a = p
    · subst ha; exact .inr (.inl h)
    · rw [upd_ne ha] at e; exact s.nw a u e
theorem StM.mem {p : Addr} {u : MO} (s : StM K mg m F H F' H' m') (h : H p = none) (hf : F' p = none) (ho : MoR K mg F' H' p u) : StM K mg m F H F' H' (mset m' p u) := by
  refine ⟨s.ex, s.th, s.gr, s.le, fun a w e => ?_, s.nw, fun a e => ?_, s.fz⟩
  · by_cases ha : a = p
    · subst ha; rw [mset_same] at e; cases e; exact ⟨hf, ho⟩
    · rw [mset_ne ha] at e; exact s.mr a w e
  · by_cases ha : a = p
    · subst ha; exact .inr h
    · rw [mset_ne ha] at e; exact s.nm a e
end
section
variable {X : Cx} {W : WX} {elt tg iter : Expr} {ifs : List Expr} {scope : Scope} {own : List (Str × Nat)} {pos : Pos} {vf : VF} {vg : VG} {vt : VT} {ve : VE} {js : List Nat}
/-- a clause's tests -/
def JTs (X : Cx) (W : WX) (ifs : List Expr) (v : VT) : Prop := ∃ t, PTs X ifs t ∧ SndT X.K X.mg W t v
theorem jts_nil : JTs X W [] vYes := ⟨_, pts_nil, fun σ F H s m k x l en hv _ Q q => q true F H m (StM.refl l en.mem) hv⟩
@[reducible] def vLc (i : VF) (g : VG) (t : VT) (e : VE) (own : List Nat) : VE := fun s m k x => i s m (fun ds m1 => ds.length ≤ 1000000 ∧ lcV g t e (wipeD s own) ds [] m1 fun es m2 => k (.lst es) m2) x
@[reducible] def vLcO (i : VF) (g : VG) (t : VT) (e : VE) (own : List Nat) : VE := fun s m k x => i s m (fun ds m1 => ds.length ≤ 1000000 ∧ lcV g t e (wipeD s own) ds [] m1 fun es m2 => ∀ p, m2 p = none → k (.ref p) (mset m2 p (.lst es))) x
/-- a new list that nobody holds yet -/
def SndN (K : PySem.W.Frag) (mg : Str → Option Value) (W : WX) (te : TE) (v : SL → Mem → (List D → Mem → Prop) → KX → Prop) : Prop := ∀ (σ : L2.St) (F H : Hp) (s : SL) (m : Mem) (k : List D → Mem → Prop) (x : KX), Le F H → EnvR K mg F H σ s m → v s m k x → XOk K mg W σ F H m x → ∀ Q : VK,
  (∀ p xs ds F' H' m', StM K mg m F H F' H' m' → H p = none → F' p = none → m' p = none → H' p = some (.lst xs) → RpL K mg F' xs ds → k ds m' → Q (.ref p) H') → te σ H Q
theorem SndN.frz {te : TE} {v : SL → Mem → (List D → Mem → Prop) → KX → Prop} (h : SndN X.K X.mg W te v) : SndE X.K X.mg W te (fun s m k x => v s m (fun ds m' => k (.lst ds) m') x) := fun σ F H s m k x l en hv hx Q q =>
  h σ F H s m _ x l en hv hx Q fun p xs ds F' H' m' st h0 hf hm hh r hk => q (.ref p) (.lst ds) _ H' m' (st.fzn h0 hf hm hh) (.lst upd_same (r.mono (gr_upd hf))) hk
theorem SndN.keep {te : TE} {v : SL → Mem → (List D → Mem → Prop) → KX → Prop} (h : SndN X.K X.mg W te v) : SndE X.K X.mg W te (fun s m k x => v s m (fun ds m' => ∀ p, m' p = none → k (.ref p) (mset m' p (.lst ds))) x) := fun σ F H s m k x l en hv hx Q q =>
  h σ F H s m _ x l en hv hx Q fun p xs ds F' H' m' st h0 hf hm hh r hk => q (.ref p) (.ref p) F' H' _ (st.mem h0 hf (u := .lst ds) ⟨xs, hh, r⟩) (.ref p) (hk p hm)
theorem lc_snd {wi : TI} {g : TG} {tt : TT} {te : TE} {vs : List Nat} (hj : ∀ j ∈ js, j ∈ vs) (hi : SndF X.K X.mg W wi vf) (hg : SndG X.K X.mg g js vg) (ht : SndT X.K X.mg W tt vt) (he : SndE X.K X.mg W te ve) :
    SndN X.K X.mg W (tLc wi g tt te vs) (fun s m k x => vf s m (fun ds m1 => ds.length ≤ 1000000 ∧ lcV vg vt ve (wipeD s vs) ds [] m1 k) x) := fun σ F H s m k x l en hv hx Q q =>
  hi σ F H s m _ x l en hv hx _ fun J ds F1 H1 m1 t1 J1 ⟨hz, h1⟩ => fun Dd hD => by
    have e1 := en.stm t1
    have fD : F1 Dd = none := t1.le.none hD
    have mD : m1 Dd = none := t1.mr.free hD
    refine ⟨fun i n H' => n = ds.length - i ∧ i ≤ ds.length ∧ ∃ F' ys acc m', StM X.K X.mg m1 F1 H1 F' H' m' ∧ F' Dd = none ∧ m' Dd = none ∧ H' Dd = some (.lst ys) ∧ RpL X.K X.mg F' ys acc ∧ acc.length ≤ i ∧ lcV vg vt ve (wipeD s vs) (ds.drop i) acc m' k,
      ⟨ds.length, rfl, Nat.zero_le _, F1, [], [], m1, (StM.refl t1.le t1.mr).side hD fD mD, fD, mD, upd_same, .nil, Nat.le_refl _, h1⟩, ?_⟩
    rintro i n H' ⟨rfl, hi, F', ys, acc, m', st, hf, hm, hh, r, hl, w⟩
    obtain ⟨j1, j2, j3⟩ := J1 F' H' m' i st.gr st.le st.mr trivial
    by_cases hlt : i < ds.length
    · refine .inr ⟨j1 hlt, fun H3 => ∃ F' ys acc m', StM X.K X.mg m1 F1 H1 F' H3 m' ∧ F' Dd = none ∧ m' Dd = none ∧ H3 Dd = some (.lst ys) ∧ RpL X.K X.mg F' ys acc ∧ acc.length ≤ i + 1 ∧ lcV vg vt ve (wipeD s vs) (ds.drop (i + 1)) acc m' k, fun H3 p => ⟨ds.length - (i + 1), by omega, rfl, hlt, p⟩, fun x H2 y => ?_⟩
      obtain ⟨d, F2, hd, sp, r2⟩ := j3 x H2 hlt y
      rw [drop_of hd] at w
      have s2 := sp.stm st.mr
      have sa := st.trans s2
      have hne : H' Dd ≠ none := by rw [hh]; simp
      obtain ⟨nf2, nm2⟩ := s2.nofz hf hne hm
      have hh2 : H2 Dd = some (.lst ys) := sp.ex _ _ hh
      refine hg x _ F2 H2 d _ m' _ sp.le ((e1.stm sa).wipe vs) r2 w _ fun σ2 sl2 e2 w2 t2 => ⟨by rw [w2 vs hj]; exact wipe_wipe, ?_⟩
      refine ht σ2 F2 H2 sl2 m' _ _ sp.le e2 t2 XOk.no _ fun b F3 H3 m3 s3 h3 => ?_
      obtain ⟨nf3, nm3⟩ := s3.nofz nf2 (by rw [hh2]; simp) hm
      have hh3 : H3 Dd = some (.lst ys) := s3.ex _ _ hh2 hm
      cases b with
      | true =>
        rw [if_pos rfl] at h3 ⊢
        refine he σ2 F3 H3 sl2 m3 _ _ s3.le (e2.stm s3) h3 XOk.no _ fun v d' F4 H4 m4 s4 r4 h4 => ?_
        obtain ⟨nf4, nm4⟩ := s4.nofz nf3 (by rw [hh3]; simp) nm3
        have hh4 : H4 Dd = some (.lst ys) := s4.ex _ _ hh3 nm3
        have r' : RpL X.K X.mg F4 ys acc := r.mono (sp.gr.trans (s3.gr.trans s4.gr))
        have stt : StM X.K X.mg m1 F1 H1 F4 H4 m4 := (sa.trans s3).trans s4
        refine ⟨ys, hh4, ?_, F4, ys ++ [v], acc ++ [d'], m4, stt.side hD nf4 nm4, nf4, nm4, upd_same, r'.app (.cons r4 .nil), by simp; omega, h4⟩
        rw [r'.len]
        have : sizeLine > 1000000 := by decide
        omega
      | false =>
        rw [if_neg (by decide)] at h3 ⊢
        exact ⟨F3, ys, acc, m3, sa.trans s3, nf3, nm3, hh3, r.mono (sp.gr.trans s3.gr), by omega, h3⟩
    · refine .inl ⟨j2 (by omega), ?_⟩
      rw [List.drop_of_length_le (by omega)] at w
      exact q Dd ys acc F' H' m' (t1.trans st) (t1.back hD) hf hm hh r w
/-- the parts of a comprehension, in every block's context -/
theorem all_je {ι : Type} (Y : ι → Cx) {K : PySem.W.Frag} {mg : Str → Option Value} (hK : ∀ c, (Y c).K = K) (hm : ∀ c, (Y c).mg = mg) {e : Expr} {v : VE} (h : ∀ c, JE (Y c) W e v) : ∃ te, (∀ c, PE (Y c) e te) ∧ SndE K mg W te v := by
  refine ⟨fun σ H Q => ∀ te, SndE K mg W te v → te σ H Q, fun c => ?_, fun σ F H s m k x l en hv hx Q q te hte => hte σ F H s m k x l en hv hx Q q⟩
  obtain ⟨te, p, s⟩ := h c
  rw [hK, hm] at s
  exact ⟨fun pins s' σ H Q I hq => p.run pins s' σ H Q I (hq te s)⟩
theorem all_jts {ι : Type} (Y : ι → Cx) {K : PySem.W.Frag} {mg : Str → Option Value} (hK : ∀ c, (Y c).K = K) (hm : ∀ c, (Y c).mg = mg) {e : List Expr} {v : VT} (h : ∀ c, JTs (Y c) W e v) : ∃ te, (∀ c, PTs (Y c) e te) ∧ SndT K mg W te v := by
  refine ⟨fun σ H Q => ∀ te, SndT K mg W te v → te σ H Q, fun c => ?_, fun σ F H s m k x l en hv hx Q q te hte => hte σ F H s m k x l en hv hx Q q⟩
  obtain ⟨te, p, s⟩ := h c
  rw [hK, hm] at s
  exact ⟨fun pins s' σ H Q I hq => p.run pins s' σ H Q I (hq te s)⟩
theorem all_jg {ι : Type} (Y : ι → Cx) {K : PySem.W.Frag} {mg : Str → Option Value} (hK : ∀ c, (Y c).K = K) (hm : ∀ c, (Y c).mg = mg) {e : Expr} {v : VG} (h : ∀ c, JG (Y c) e js v) : ∃ te, (∀ c, PG (Y c) e te) ∧ SndG K mg te js v := by
  refine ⟨fun u σ H Q => ∀ te, SndG K mg te js v → te u σ H Q, fun c => ?_, fun u σ F H d s m k l en r hv Q q te hte => hte u σ F H d s m k l en r hv Q q⟩
  obtain ⟨te, p, s⟩ := h c
  rw [hK, hm] at s
  exact ⟨fun pins s' σ H v u Q I r hq => p.run pins s' σ H v u Q I r (hq te s)⟩
abbrev BX (X : Cx) (scope : Scope) (c : Shared × Hp × Addr × List (Str × Addr) × List Addr) : Cx := X.blk c.1 c.2.1 scope (compEnvC scope c.2.2.2.1 c.2.2.1 X.env) c.2.2.2.2
theorem lc_core {vs : List Nat} (hvs : vs = own.map (·.2)) (hj : ∀ j ∈ js, j ∈ vs) (hc : X.calm = true) (hN : X.N.Nodup) (hi : JF X W tg iter vf) (ok : BlkOk X.N X.env.scope scope own) (hg : ∀ c, JG (BX X scope c) tg js vg) (ht : ∀ c, JTs (BX X scope c) W ifs vt) (he : ∀ c, JE (BX X scope c) W elt ve) :
    ∃ wi g tt te, PI X tg iter wi ∧ (∀ c, PG (BX X scope c) tg g) ∧ (∀ c, PTs (BX X scope c) ifs tt) ∧ (∀ c, PE (BX X scope c) elt te) ∧ SndN X.K X.mg W (tLc wi g tt te vs) (fun s m k x => vf s m (fun ds m1 => ds.length ≤ 1000000 ∧ lcV vg vt ve (wipeD s vs) ds [] m1 k) x) := by
  obtain ⟨wi, p0, s0⟩ := hi
  obtain ⟨g, p1, s1⟩ := all_jg (BX X scope) (fun _ => rfl) (fun _ => rfl) hg
  obtain ⟨tt, p2, s2⟩ := all_jts (BX X scope) (fun _ => rfl) (fun _ => rfl) ht
  obtain ⟨te, p3, s3⟩ := all_je (BX X scope) (fun _ => rfl) (fun _ => rfl) he
  exact ⟨wi, g, tt, te, p0, p1, p2, p3, lc_snd hj s0 s1 s2 s3⟩
theorem je_lc {vs : List Nat} (hvs : vs = own.map (·.2)) (hj : ∀ j ∈ js, j ∈ vs) (hc : X.calm = true) (hN : X.N.Nodup) (hi : JF X W tg iter vf) (ok : BlkOk X.N X.env.scope scope own) (hg : ∀ c, JG (BX X scope c) tg js vg) (ht : ∀ c, JTs (BX X scope c) W ifs vt) (he : ∀ c, JE (BX X scope c) W elt ve)
    (hs : ∀ x, foldedSetIterable iter X.env x = pure x := by intro _; rfl) : JE X W (.ListComp elt [⟨tg, iter, ifs, 0⟩] scope pos) (vLc vf vg vt ve vs) := by
  obtain ⟨wi, g, tt, te, p0, p1, p2, p3, sn⟩ := lc_core hvs hj hc hN hi ok hg ht he
  subst hvs
  exact ⟨_, pe_lc hc hN p0 ok (fun s H C cl fp => p1 (s, H, C, cl, fp)) (fun s H C cl fp => p2 (s, H, C, cl, fp)) (fun s H C cl fp => p3 (s, H, C, cl, fp)) hs, sn.frz⟩
theorem js_setLc {i : Nat} {y : Str} {py spos : Pos} {vs : List Nat} (hyl : X.env.scope.names.lookup y = some .local) (hsw : swapsWith (.ListComp elt [⟨tg, iter, ifs, 0⟩] scope pos) (some (.Name y py)) spos.line X.env = pure true) (hy : X.N[i]? = some y)
    (hvs : vs = own.map (·.2)) (hj : ∀ j ∈ js, j ∈ vs) (hc : X.calm = true) (hN : X.N.Nodup) (hi : JF X W tg iter vf) (ok : BlkOk X.N X.env.scope scope own) (hg : ∀ c, JG (BX X scope c) tg js vg) (ht : ∀ c, JTs (BX X scope c) W ifs vt) (he : ∀ c, JE (BX X scope c) W elt ve)
    (hs : ∀ x, foldedSetIterable iter X.env x = pure x := by intro _; rfl) : JS X W (.Assign [.Name y py] (.ListComp elt [⟨tg, iter, ifs, 0⟩] scope pos) spos) (vSet i (vLc vf vg vt ve vs)) := by
  obtain ⟨wi, g, tt, te, p0, p1, p2, p3, sn⟩ := lc_core hvs hj hc hN hi ok hg ht he
  subst hvs
  exact ⟨_, ps_setLc hc hN hy hyl hsw p0 ok (fun s H C cl fp => p1 (s, H, C, cl, fp)) (fun s H C cl fp => p2 (s, H, C, cl, fp)) (fun s H C cl fp => p3 (s, H, C, cl, fp)) hs, fun σ F H s m G l en h E L =>
    sn.frz σ F H s m (fun d m' => G.nx (s.set i (some d)) m') _ l en h (L.x en) _ fun v d F' H' m' t r k => L.nx _ _ F' H' m' t ((en.stm t).set r) k⟩
end
end Ts
namespace Ts
open PySem PySem.Spec PyProof.Rows L2
/-! ### what a def promises, over data -/
abbrev P0 := List D → Mem → KD → Prop
abbrev PX := List D → Mem → KD → KX → Prop
/-- it raises nothing -/
def Sp0 (K : PySem.W.Frag) (mg : Str → Option Value) (φ : P0) : Sp := fun vs H Q _ => ∃ F ds m k, Le F H ∧ RpL K mg F vs ds ∧ MemR K mg F H m ∧ φ ds m k ∧ ∀ v d F' H' m', StM K mg m F H F' H' m' → Rp K mg F' v d → k d m' → Q v H'
/-- it may raise -/
def SpX (K : PySem.W.Frag) (mg : Str → Option Value) (φ : PX) : Sp := fun vs H Q E => ∃ F ds m k x, Le F H ∧ RpL K mg F vs ds ∧ MemR K mg F H m ∧ φ ds m k x ∧ (∀ v d F' H' m', StM K mg m F H F' H' m' → Rp K mg F' v d → k d m' → Q v H') ∧
  ∀ cls dd e F' H' m', StM K mg m F H F' H' m' → RpX K mg F' H' cls dd e → x e m' → E cls dd H'
/-- a def by its name: where it stands, what it promises to positional arguments -/
structure Fn (P : Program) (w : World) (K : PySem.W.Frag) (mg : Str → Option Value) (base : Heap) (x : Str) (k : Nat) (φ : P0) : Prop where
  ex : ∃ f, mg x = some (.ref f) ∧ PySem.W.keepIn K (.ref f) = true ∧ FnR P w K mg base CX0 k f (Sp0 K mg φ)
structure FnX (P : Program) (w : World) (K : PySem.W.Frag) (mg : Str → Option Value) (base : Heap) (x : Str) (k : Nat) (φ : PX) : Prop where
  ex : ∃ f, mg x = some (.ref f) ∧ PySem.W.keepIn K (.ref f) = true ∧ FnR P w K mg base (L2.CX P w) k f (SpX K mg φ)
section
variable {P : Program} {w : World} {K : PySem.W.Frag} {mg : Str → Option Value} {base : Heap} {x : Str} {k : Nat}
theorem Fn.mk1 {φ : P0} {f : Addr} {fd : FuncData} {ps : List Str} (hm : mg x = some (.ref f)) (kp : PySem.W.keepIn K (.ref f) = true) (b : Binds K fd ps []) (F : FnOk P w K mg base CX0 k f fd ps (Sp0 K mg φ)) : Fn P w K mg base x k φ :=
  ⟨f, hm, kp, (F.raw b .nil).imp fun vs H Q E h => by rw [List.append_nil]; exact h⟩
theorem FnX.mk1 {φ : PX} {f : Addr} {fd : FuncData} {ps : List Str} (hm : mg x = some (.ref f)) (kp : PySem.W.keepIn K (.ref f) = true) (b : Binds K fd ps []) (F : FnOk P w K mg base (L2.CX P w) k f fd ps (SpX K mg φ)) : FnX P w K mg base x k φ :=
  ⟨f, hm, kp, (F.raw b .nil).imp fun vs H Q E h => by rw [List.append_nil]; exact h⟩
theorem Fn.imp {φ φ' : P0} (h : Fn P w K mg base x k φ) (i : ∀ ds m k, φ' ds m k → φ ds m k) : Fn P w K mg base x k φ' := by
  obtain ⟨f, h1, h2, h3⟩ := h.ex
  exact ⟨f, h1, h2, h3.imp fun vs H Q E ⟨F, ds, m, k, l, r, mr, p, q⟩ => ⟨F, ds, m, k, l, r, mr, i _ _ _ p, q⟩⟩
theorem Fn.mono {φ : P0} {j : Nat} (h : Fn P w K mg base x k φ) (hj : k ≤ j) : Fn P w K mg base x j φ := by
  obtain ⟨f, h1, h2, h3⟩ := h.ex
  exact ⟨f, h1, h2, h3.mono hj⟩
end
@[reducible] def vCall (φ : P0) (a : VA) : VE := fun s m k x => a s m (fun ds m1 => φ ds m1 k) x
@[reducible] def vCallX (φ : PX) (a : VA) : VE := fun s m k x => a s m (fun ds m1 => φ ds m1 k x) x
section
variable {X : Cx} {W : WX} {x : Str} {k : Nat} {e : Expr} {es : List Expr} {vs : VA} {p pos : Pos}
theorem run_Fn {sp : Sp} {E : L2.St → XK} {pins : List (Addr × Obj)} {σ : L2.St} {H : Hp} {s : Shared} {Q : VK} {us : List Value} {vs : List V} {f : Addr} {CX : CXT} (F : FnR X.prog X.w X.K X.mg X.base CX k f sp) (hr : Room k X.A) (hx : PassesAt CX X σ (E σ)) (I : Inv X pins σ H s) (r : Vals vs us) (h : sp vs H Q (E σ)) : wpAny (model X.prog X.w) X.A (call (.ref f) us) (EP X pins σ Q) X.xe s := by
  refine wpAny_call (codeAny_mono (F X.A X.stack s H us vs Q (E σ) hr I.env0 r h) fun r s' hq => ?_)
  cases r with
  | error e => exact hx pins H s e s' I hq
  | ok fl =>
    cases fl with
    | ret u => exact I.after hq
    | next => exact False.elim hq
    | brk => exact False.elim hq
    | cont => exact False.elim hq
theorem pe_fnR {sp : Sp} {E : L2.St → XK} {CX : CXT} {t : TA} {f : Addr} (F : FnR X.prog X.w X.K X.mg X.base CX k f sp) (h1 : X.mg x = some (.ref f)) (h2 : PySem.W.keepIn X.K (.ref f) = true) (hr : Room k X.A) (hx : ∀ σ, PassesAt CX X σ (E σ)) (hg : Gl X x) (ha : PA X (e :: es) t) (hdb : (x == ("__debug__" : Str)) = false := by decide) (he : starEach (e :: es) X.env = (false, eval e X.env) :: starEach es X.env := by rfl) (hpl : (backTo pos (starEach es X.env)).any (·.1) = false := by rfl) :
    PE X (.Call (.Name x p) (e :: es) [] pos) (tCallS sp E t) := by
  refine ⟨fun pins s σ H Q I h => ?_⟩
  refine wpAny_Call_Name_kw (ld_glob I hg h1 ?_ hdb)
  refine PySem.W.callWith_K (h₀ := X.base) I.ok.mod.kin h2 (thn (ha.run pos pins s σ H _ I h) fun us s1 ⟨vs, H1, I1, r, q⟩ => ⟨I1.kIn, ?_⟩) he hpl
  exact run_Fn F hr (hx σ) I1 r q
theorem passAt0 {σ : L2.St} : PassesAt CX0 X σ E0 := fun _ _ _ _ _ _ h => h.elim
theorem SndA.call0 {φ : P0} {ta : TA} (s1 : SndA X.K X.mg W ta vs) : SndE X.K X.mg W (tCallS (Sp0 X.K X.mg φ) (fun _ => E0) ta) (vCall φ vs) := fun σ F H s m k x l en hv hx Q q => s1 σ F H s m _ x l en hv hx _ fun us ds F1 H1 m1 t1 r1 k1 =>
  ⟨F1, ds, m1, k, t1.le, r1, t1.mr, k1, fun v d F' H' m' st r hk => q v d F' H' m' (t1.trans st) r hk⟩
theorem SndA.callX {φ : PX} {ta : TA} (s1 : SndA X.K X.mg W ta vs) : SndE X.K X.mg W (tCallS (SpX X.K X.mg φ) (WE W) ta) (vCallX φ vs) := fun σ F H s m k x l en hv hx Q q => s1 σ F H s m _ x l en hv hx _ fun us ds F1 H1 m1 t1 r1 k1 =>
  ⟨F1, ds, m1, k, x, t1.le, r1, t1.mr, k1, fun v d F' H' m' st r hk => q v d F' H' m' (t1.trans st) r hk, fun cls dd e F' H' m' st r hk => hx cls dd e F' H' m' (t1.trans st) r hk⟩
theorem je_fn {φ : P0} (G : Fn X.prog X.w X.K X.mg X.base x k φ) (hr : Room k X.A) (hg : Gl X x) (ha : JA X W (e :: es) vs) (hdb : (x == ("__debug__" : Str)) = false := by decide) (he : starEach (e :: es) X.env = (false, eval e X.env) :: starEach es X.env := by rfl) (hpl : (backTo pos (starEach es X.env)).any (·.1) = false := by rfl) :
    JE X W (.Call (.Name x p) (e :: es) [] pos) (vCall φ vs) := by
  obtain ⟨f, h1, h2, h3⟩ := G.ex; obtain ⟨ta, p1, s1⟩ := ha
  exact ⟨_, pe_fnR h3 h1 h2 hr (fun _ => passAt0) hg p1 hdb he hpl, s1.call0⟩
theorem je_fnX {φ : PX} (tk : Takes X W) (G : FnX X.prog X.w X.K X.mg X.base x k φ) (hr : Room k X.A) (hg : Gl X x) (ha : JA X W (e :: es) vs) (hdb : (x == ("__debug__" : Str)) = false := by decide) (he : starEach (e :: es) X.env = (false, eval e X.env) :: starEach es X.env := by rfl) (hpl : (backTo pos (starEach es X.env)).any (·.1) = false := by rfl) :
    JE X W (.Call (.Name x p) (e :: es) [] pos) (vCallX φ vs) := by
  obtain ⟨f, h1, h2, h3⟩ := G.ex; obtain ⟨ta, p1, s1⟩ := ha
  exact ⟨_, pe_fnR h3 h1 h2 hr (fun σ => passAt tk σ) hg p1 hdb he hpl, s1.callX⟩
end
/-! ### a def's body -/
/-- the slots at a def's entry -/
def dstart (n : Nat) (ds : List D) : SL := ds.map some ++ List.replicate (n - ds.length) none
theorem env_start {K : PySem.W.Frag} {mg : Str → Option Value} {F H : Hp} {m : Mem} {N : List Str} {vs : List V} {ds : List D} (mr : MemR K mg F H m) (r : RpL K mg F vs ds) : EnvR K mg F H (L2.start N vs) (dstart N.length ds) m := by
  have hl := r.len
  refine ⟨by simp [L2.start, dstart, hl], fun i d h => ?_, mr⟩
  unfold dstart at h
  rw [List.getElem?_append] at h
  split at h
  · rw [List.getElem?_map] at h
    cases hd : ds[i]? with
    | none => rw [hd] at h; cases h
    | some d' =>
      rw [hd] at h
      cases h
      obtain ⟨v, h1, h2⟩ := r.at hd
      refine ⟨v, ?_, h2⟩
      unfold L2.start
      rw [List.getElem?_append_left (by rw [List.length_map]; exact (List.getElem?_eq_some_iff.mp h1).1), List.getElem?_map, h1]
      rfl
  · cases List.eq_of_mem_replicate (List.mem_of_getElem? h)
/-- the end of a def's body: what it does not need any more may be forgotten -/
abbrev endV (k : KD) : DE := { nx := fun _ m' => ∃ m'', MLe m'' m' ∧ k .non m'', rt := fun d m' => ∃ m'', MLe m'' m' ∧ k d m'' }
abbrev endX (k : KD) (x : KX) : DE := { nx := fun _ m' => ∃ m'', MLe m'' m' ∧ k .non m'', rt := fun d m' => ∃ m'', MLe m'' m' ∧ k d m'', ex := fun e _ m' => ∃ m'', MLe m'' m' ∧ x e m'' }
section
variable {P : Program} {w : World} {K : PySem.W.Frag} {mg : Str → Option Value} {base : Heap} {x qual : Str} {params : Arguments} {body : List Stmt} {scope : Scope} {dvs : List V} {kws : List (Str × V)} {f : Addr} {fd : FuncData}
theorem fn_0 {φ : P0} {v : VS} {N ps : List Str} {k : Nat} (F : FunD K x qual params body scope dvs kws f fd) (S : FnScope N ps scope) (hl : ∀ ds m k, φ ds m k → ds.length = ps.length)
    (hb : ∀ (cdv : Value) (A : Around) (outer : List Env) (s : Shared) (H : Hp) (E : XK), Room k (A.deeper (envOfC qual scope s.heap.objs.size f cdv)) → JSs (cxOf CX0 P w K mg base N qual scope f cdv A outer s H E).nox (fun _ _ _ _ => False) body v)
    (hw : ∀ ds m k, φ ds m k → v (dstart N.length ds) m (endV k)) : FnOk P w K mg base CX0 (k + 1) f fd ps (Sp0 K mg φ) := by
  refine F.ok S (fun vs H Q E ⟨F, ds, m, k, l, r, mr, p, q⟩ => by rw [r.len, hl _ _ _ p]) fun cdv A outer s H vs Q E hr ⟨F, ds, m, k, l, r, mr, p, q⟩ => ?_
  obtain ⟨t, ht, hs⟩ := hb cdv A outer s H E hr
  refine ⟨t, ht.nox, hs _ F H _ m _ l (env_start mr r) (hw _ _ _ p) _ ⟨fun σ' s' F' H' m' st e ⟨m'', hm, g⟩ => q _ _ F' H' m'' (st.sub hm) .non g, fun v d F' H' m' st rd ⟨m'', hm, g⟩ => q v d F' H' m'' (st.sub hm) rd g, fun _ _ _ _ _ _ _ g => g.elim, fun _ _ _ _ _ _ _ g => g.elim, fun _ _ _ _ _ _ _ _ _ _ _ g => g.elim⟩⟩
/-- .. of a def that leaves the memory as it is -/
abbrev endP (k : KD) : DE := { nx := fun _ m' => k .non m', rt := fun d m' => k d m' }
theorem fn_P {φ : P0} {v : VS} {N ps : List Str} {k : Nat} (F : FunD K x qual params body scope dvs kws f fd) (S : FnScope N ps scope) (hl : ∀ ds m k, φ ds m k → ds.length = ps.length)
    (hb : ∀ (cdv : Value) (A : Around) (outer : List Env) (s : Shared) (H : Hp) (E : XK), Room k (A.deeper (envOfC qual scope s.heap.objs.size f cdv)) → JSs (cxOf CX0 P w K mg base N qual scope f cdv A outer s H E).nox (fun _ _ _ _ => False) body v)
    (hw : ∀ ds m k, φ ds m k → v (dstart N.length ds) m (endP k)) : FnOk P w K mg base CX0 (k + 1) f fd ps (Sp0 K mg φ) := by
  refine F.ok S (fun vs H Q E ⟨F, ds, m, k, l, r, mr, p, q⟩ => by rw [r.len, hl _ _ _ p]) fun cdv A outer s H vs Q E hr ⟨F, ds, m, k, l, r, mr, p, q⟩ => ?_
  obtain ⟨t, ht, hs⟩ := hb cdv A outer s H E hr
  refine ⟨t, ht.nox, hs _ F H _ m _ l (env_start mr r) (hw _ _ _ p) _ ⟨fun σ' s' F' H' m' st e g => q _ _ F' H' m' st .non g, fun v d F' H' m' st rd g => q v d F' H' m' st rd g, fun _ _ _ _ _ _ _ g => g.elim, fun _ _ _ _ _ _ _ g => g.elim, fun _ _ _ _ _ _ _ _ _ _ _ g => g.elim⟩⟩
theorem fn_X {φ : PX} {v : VS} {N ps : List Str} {k : Nat} (F : FunD K x qual params body scope dvs kws f fd) (S : FnScope N ps scope) (hl : ∀ ds m k x, φ ds m k x → ds.length = ps.length)
    (hb : ∀ (cdv : Value) (A : Around) (outer : List Env) (s : Shared) (H : Hp) (E : XK), Room k (A.deeper (envOfC qual scope s.heap.objs.size f cdv)) → JSs (cxOf (L2.CX P w) P w K mg base N qual scope f cdv A outer s H E) (fun cls d _ H => E cls d H) body v)
    (hw : ∀ ds m k x, φ ds m k x → v (dstart N.length ds) m (endX k x)) : FnOk P w K mg base (L2.CX P w) (k + 1) f fd ps (SpX K mg φ) := by
  refine F.ok S (fun vs H Q E ⟨F, ds, m, k, x, l, r, mr, p, q⟩ => by rw [r.len, hl _ _ _ _ p]) fun cdv A outer s H vs Q E hr ⟨F, ds, m, k, x, l, r, mr, p, q, qx⟩ => ?_
  obtain ⟨t, ht, hs⟩ := hb cdv A outer s H E hr
  refine ⟨t, ht, hs _ F H _ m _ l (env_start mr r) (hw _ _ _ _ p) _ ⟨fun σ' s' F' H' m' st e ⟨m'', hm, g⟩ => q _ _ F' H' m'' (st.sub hm) .non g, fun v d F' H' m' st rd ⟨m'', hm, g⟩ => q v d F' H' m'' (st.sub hm) rd g, fun _ _ _ _ _ _ _ g => g.elim, fun _ _ _ _ _ _ _ g => g.elim, fun cls dd e σ' s' F' H' m' st _ rx ⟨m'', hm, g⟩ => qx cls dd e F' H' m'' (st.sub hm) rx g⟩⟩
end
/-! ### the feed -/
section
variable {P : Program} {w : World} {K : PySem.W.Frag} {mg : Str → Option Value} {base : Heap} {k : Nat} {f : Addr} {fd : FuncData} {ps : List Str}
theorem feedP_stable {cs a : Addr} : ∀ h1 h2 : Heap, feedP cs a h1 → (∀ o, h1.get? a = some o → h2.get? a = some o) → feedP cs a h2 := fun h1 h2 ⟨its, n, i, j, m, e, r⟩ g => ⟨its, n, i, j, m, g _ e, r⟩
/-- one tracked object is told otherwise: its own description holds, nothing else speaks of it -/
theorem hok_told {H : Hp} {h : Heap} {a : Addr} {o u : HO} (hok : HOk P w H h) (e : H a = some o) (ho : ∀ y, o ≠ .own y) (ht : ∀ xs, o ≠ .tup xs) (new : ObjOk P w (upd H a u) h a u) : HOk P w (upd H a u) h := fun b v q => by
  by_cases hb : b = a
  · subst hb; rw [upd_same] at q; cases q; exact new
  · rw [upd_ne hb] at q
    refine (hok b v q).stay (fun c x _ z => z) (fun c z => ?_) fun c xs z => ?_
    · have : c ≠ a := fun y => by subst y; rw [e] at z; exact ho b (Option.some.inj z)
      rw [upd_ne this]; exact z
    · have : c ≠ a := fun y => by subst y; rw [e] at z; exact ht xs (Option.some.inj z)
      rw [upd_ne this]; exact z
/-- a draw, over the feed as a list of the memory -/
abbrev phDrawM (pre : Int → Prop) : P0 := fun ds m k => ∃ (a cs : Addr) (n i j mk : Int) (ns : List Int), ds = [.ref a, .int n] ∧ m a = some (.lst [.lat cs (ns.map D.int), .int i, .int j, .int mk]) ∧ 0 ≤ i ∧ pre n ∧
  ∀ r i' j' : Int, 0 ≤ r → r < n → 0 ≤ i' → k (.int r) (mset m a (.lst [.lat cs (ns.map D.int), .int i', .int j', .int mk]))
/-- .. over the feed, whatever it holds -/
abbrev phDraw (pre : Int → Prop) : P0 := fun ds m k => match ds with
  | [.feed, .int n] => pre n ∧ ∀ r : Int, 0 ≤ r → r < n → k (.int r) m
  | _ => False
theorem draw_shift {pre : Int → Prop} (hp : ps.length = 2) (G : FnOk P w K mg base CX0 k f fd ps (Sp0 K mg (phDrawM pre))) : FnOk P w K mg base CX0 k f fd ps (Sp0 K mg (phDraw pre)) := by
  refine ⟨fun vs H Q E ⟨F, ds, m, k, l, r, mr, p, q⟩ => ?_, fun A outer s H args us vs Q E hr e0 hb hv ⟨F, ds, mm, k, l, r, mr, p, q⟩ => ?_⟩
  · unfold phDraw at p
    split at p
    · rw [r.len, hp]; rfl
    · exact p.elim
  unfold phDraw at p
  split at p
  case h_2 => exact p.elim
  rename_i m
  obtain ⟨hpre, hk⟩ := p
  obtain ⟨u1, u2, rfl, ra, rm⟩ := r.two
  obtain rfl := rm.intI
  cases ra with
  | @feed a cs ns fa sq =>
    have ha : H a = some (feedO cs a) := l.ext fa
    obtain ⟨⟨its, n, i, j, mk, hg, rv, hi⟩, _, _⟩ := (show ObjOk P w H s.heap a (.ext (feedP cs a)) from e0.hok a _ ha)
    have nz : ∀ b, H b = none → b ≠ a := fun b hb z => by subst z; rw [ha] at hb; cases hb
    have ma : mm a = none := by
      cases q : mm a with
      | none => rfl
      | some o => rw [(mr a o q).1] at fa; cases fa
    have e2 : Env0 P w K mg base A outer s (upd H a (.lst [.ref cs, .int i, .int j, .int mk])) :=
      ⟨e0.frames, e0.mod, fun b o e => ⟨(e0.bs b o e).1, by rw [upd_ne (nz b (e0.bs b o e).2)]; exact (e0.bs b o e).2⟩, e0.bsz, e0.funs, fun b hb => by rw [upd_ne (nz b (e0.frf b hb))]; exact e0.frf b hb,
        hok_told e0.hok ha (fun y z => by unfold feedO at z; cases z) (fun y z => by unfold feedO at z; cases z) ⟨by show 4 ≤ sizeLine; decide, its, n, rv, hg⟩, e0.bare⟩
    have l2 : Le (fun b => if b = a then none else F b) (upd H a (.lst [.ref cs, .int i, .int j, .int mk])) := fun b o e => by
      have e : (if b = a then none else F b) = some o := e
      by_cases hb : b = a
      · rw [if_pos hb] at e; cases e
      · rw [if_neg hb] at e; rw [upd_ne hb]; exact l b o e
    have cne : ∀ (o : HO), F cs = some o → (∀ p, o ≠ .ext p) → cs ≠ a := fun o e n z => by subst z; rw [fa] at e; cases e; exact n _ rfl
    have sq2 : SqL K (fun b => if b = a then none else F b) cs (ns.map V.int) := by
      rcases sq with (h | ⟨od, h⟩) | h
      · exact .inl (.inl (by show (if cs = a then none else F cs) = _; rw [if_neg (cne _ h (fun p z => by cases z))]; exact h))
      · exact .inl (.inr ⟨od, by show (if cs = a then none else F cs) = _; rw [if_neg (cne _ h (fun p z => by cases z))]; exact h⟩)
      · exact .inr h
    have mr2 : MemR K mg (fun b => if b = a then none else F b) (upd H a (.lst [.ref cs, .int i, .int j, .int mk])) (mset (fun _ => none) a (.lst [.lat cs (ns.map D.int), .int i, .int j, .int mk])) := fun b o e => by
      by_cases hb : b = a
      · subst hb
        rw [mset_same] at e
        cases e
        exact ⟨if_pos rfl, _, upd_same, .cons (.lat sq2 (RpL.ints ns)) (.cons (.int i) (.cons (.int j) (.cons (.int mk) .nil)))⟩
      · rw [mset_ne hb] at e; cases e
    refine codeAny_mono (G.run A outer s _ args us [.ref a, .int m] (fun v H' => ∃ i' j', 0 ≤ i' ∧ H' a = some (.lst [.ref cs, .int i', .int j', .int mk]) ∧ Q v (upd H' a (feedO cs a))) E hr e2 hb hv
      ⟨_, [.ref a, .int m], _, fun d m' => ∃ r i' j' : Int, d = .int r ∧ 0 ≤ r ∧ r < m ∧ 0 ≤ i' ∧ m' a = some (.lst [.lat cs (ns.map D.int), .int i', .int j', .int mk]), l2, .cons (.ref a) (.cons (.int m) .nil), mr2, ⟨a, cs, m, i, j, mk, ns, rfl, mset_same, hi, hpre, fun r i' j' h0 h1 h2 => ⟨r, i', j', rfl, h0, h1, h2, mset_same⟩⟩,
        fun v d F' H' m' st rd ⟨r, i', j', hd, h0, h1, h2, hm⟩ => ?_⟩) fun res s' hq => ?_
    · subst hd
      obtain rfl := rd.intI
      obtain ⟨f2, ys, h4, rr⟩ := st.mr a _ hm
      have e4 : ys = [.ref cs, .int i', .int j', .int mk] := by
        cases rr with
        | cons r1 rr => cases rr with
          | cons r2 rr => cases rr with
            | cons r3 rr => cases rr with
              | cons r4 rr =>
                cases rr
                rw [r2.intI, r3.intI, r4.intI]
                cases r1
                rfl
      rw [e4] at h4
      have mne : ∀ b, b ≠ a → mset (fun _ => none) a (MO.lst [.lat cs (ns.map D.int), .int i, .int j, .int mk]) b = none := fun b hb => by rw [mset_ne hb]
      have ex' : ∀ b o, b ≠ a → H b = some o → H' b = some o := fun b o hb e => st.ex b o (by rw [upd_ne hb]; exact e) (mne b hb)
      have gr' : Gr F (upd F' a (feedO cs a)) := fun b o e => by
        by_cases hb : b = a
        · subst hb; rw [fa] at e; cases e; exact upd_same
        · rw [upd_ne hb]; exact st.gr b o (by show (if b = a then none else F b) = _; rw [if_neg hb]; exact e)
      refine ⟨i', j', h2, h4, q _ _ (upd F' a (feedO cs a)) _ mm ⟨fun b o e n => ?_, fun b n => ?_, gr', fun b o e => ?_, fun b o e => ?_, fun b o e => ?_, fun _ z => .inl z, fun b ob u e => ?_⟩ (.int r) (hk r h0 h1)⟩
      · by_cases hb : b = a
        · subst hb; rw [ha] at e; cases e; exact upd_same
        · rw [upd_ne hb]; exact ex' b o hb e
      · by_cases hb : b = a
        · subst hb; rw [upd_same]; simp
        · rw [upd_ne hb]; exact st.th b (by rw [upd_ne hb]; exact n)
      · by_cases hb : b = a
        · subst hb; rw [upd_same] at e; cases e; exact .inl upd_same
        · rw [upd_ne hb] at e ⊢; exact st.le b o e
      · have hb : b ≠ a := fun z => by subst z; rw [ma] at e; cases e
        obtain ⟨z1, z2⟩ := mr b o e
        refine ⟨?_, z2.keep gr' fun u hu => ?_⟩
        · rw [upd_ne hb]
          cases q : F' b with
          | none => rfl
          | some w' =>
            rcases st.nw b w' q with z | z | z
            · have z : (if b = a then none else F b) = some w' := z
              rw [if_neg hb, z1] at z; cases z
            · rw [upd_ne hb] at z; exact absurd z z2.there
            · exact absurd (mne b hb) z
        · rw [upd_ne hb]
          exact ex' b u hb hu
      · by_cases hb : b = a
        · subst hb; rw [upd_same] at e; cases e; exact .inl fa
        · rw [upd_ne hb] at e
          rcases st.nw b o e with z | z | z
          · exact .inl (by have z : (if b = a then none else F b) = some o := z; rw [if_neg hb] at z; exact z)
          · exact .inr (.inl (by rw [upd_ne hb] at z; exact z))
          · exact absurd (mne b hb) z
      · have hb : b ≠ a := fun z => by subst z; rw [ha] at e; unfold feedO at e; cases e
        rw [upd_ne hb]; exact st.fz b ob u (by rw [upd_ne hb]; exact e)
    · cases res with
      | error e => exact hq
      | ok fl =>
        cases fl with
        | next => exact hq
        | brk => exact hq
        | cont => exact hq
        | ret u =>
          obtain ⟨v, H', os, bare, un, hok, rv, i', j', h2, hh, hQ⟩ := hq
          have nb : ∀ b u, H b = some u → (∀ p, u ≠ .ext p) → b ≠ a := fun b u e n z => by subst z; rw [ha] at e; cases e; exact n _ rfl
          obtain ⟨_, its', n', rv', hg'⟩ := hok a _ hh
          refine ⟨v, upd H' a (feedO cs a), os, bare, ⟨fun b o e n => un.keep b o e (by rw [upd_ne (nz b n)]; exact n), fun b o e n => un.slot b o e (by rw [upd_ne (nz b n)]; exact n), fun b o e n hx => ?_, un.there, fun b xs e => ?_, fun b o x e => ?_, fun b ps e => ?_⟩, ?_, rv, hQ⟩
          · rw [upd_ne (nz b n)]; exact un.free b o e (by rw [upd_ne (nz b n)]; exact n) hx
          · have hb := nb b _ e (fun p z => by cases z)
            rw [upd_ne hb]; exact un.tups b xs (by rw [upd_ne hb]; exact e)
          · have hb := nb b _ e (fun p z => by cases z)
            rw [upd_ne hb]; exact un.frzs b o x (by rw [upd_ne hb]; exact e)
          · have hb := nb b _ e (fun p z => by cases z)
            rw [upd_ne hb]; exact un.tbls b ps (by rw [upd_ne hb]; exact e)
          · exact hok_told hok hh (fun y z => by cases z) (fun y z => by cases z) ⟨⟨its', n', i', j', mk, hg', rv', h2⟩, ⟨_, hg'⟩, feedP_stable⟩
/-- a new feed: as a new list, as a feed -/
abbrev phFeedL : P0 := fun ds m k => ∃ (a : Addr) (ns : List Int), ds = [.lat a (ns.map D.int)] ∧ ns.length ≤ 100 ∧ ∀ (ms : List Int) (mk : Int) (p : Addr), m p = none → k (.ref p) (mset m p (.lst [.lst (ms.map D.int), .int 0, .int 0, .int mk]))
abbrev phFeed : P0 := fun ds m k => ∃ (a : Addr) (ns : List Int), ds = [.lat a (ns.map D.int)] ∧ ns.length ≤ 100 ∧ k .feed m
theorem RpL.intsV {F : Hp} : ∀ {xs : List V} {ns : List Int}, RpL K mg F xs (ns.map D.int) → xs = ns.map V.int
  | _, [], .nil => rfl
  | _, n :: ns, .cons r s => by rw [r.intI, RpL.intsV s]; rfl
theorem feed_shift (hp : ps.length = 1) (G : FnOk P w K mg base CX0 k f fd ps (Sp0 K mg phFeedL)) : FnOk P w K mg base CX0 k f fd ps (Sp0 K mg phFeed) := by
  refine ⟨fun vs H Q E ⟨F, ds, m, k, l, r, mr, ⟨a, ns, e, _⟩, q⟩ => by subst e; rw [r.len, hp]; rfl, fun A outer s H args us vs Q E hr e0 hb hv ⟨F, ds, mm, k, l, r, mr, ⟨a, ns, e, hn, hk⟩, q⟩ => ?_⟩
  subst e
  refine codeAny_mono (G.run A outer s H args us vs (fun v H' => ∃ (p cs : Addr) (mk : Int), v = .ref p ∧ H p = none ∧ H' p = some (.lst [.ref cs, .int 0, .int 0, .int mk]) ∧ Q v (upd H' p (feedO cs p))) E hr e0 hb hv
    ⟨F, _, fun _ => none, fun d m' => ∃ (ms : List Int) (mk : Int) (p : Addr), d = .ref p ∧ m' p = some (.lst [.lst (ms.map D.int), .int 0, .int 0, .int mk]), l, r, (fun _ _ e => by cases e), ⟨a, ns, rfl, hn, fun ms mk p _ => ⟨ms, mk, p, rfl, mset_same⟩⟩, fun v d F' H' m' st rd ⟨ms, mk, p, hd, hm⟩ => ?_⟩) fun res s' hq => ?_
  · subst hd
    obtain rfl := rd.refI
    obtain ⟨f2, ys, h4, rr⟩ := st.mr p _ hm
    have hp : H p = none := (st.nm p (by rw [hm]; simp)).elim (fun z => absurd rfl z) id
    cases rr with
    | cons r1 rr => cases rr with
      | cons r2 rr => cases rr with
        | cons r3 rr => cases rr with
          | cons r4 rr =>
            cases rr
            obtain ⟨cs, zs, rfl, sq, rl⟩ := r1.lstI
            obtain rfl := r2.intI
            obtain rfl := r3.intI
            obtain rfl := r4.intI
            obtain rfl := RpL.intsV rl
            refine ⟨p, cs, mk, rfl, hp, h4, ?_⟩
            have gr : Gr F' (upd F' p (feedO cs p)) := gr_upd f2
            have hmp : mm p = none := mr.free hp
            refine q _ _ (upd F' p (feedO cs p)) _ mm ⟨fun b o e _ => ?_, fun b n => ?_, st.gr.trans gr, fun b o e => ?_, fun b o e => ?_, fun b o e => ?_, fun _ z => .inl z, fun b ob u e => ?_⟩ (.feed (ns := ms) upd_same (gr.sql (SqL.of sq))) hk
            · rw [upd_ne (ne_of_none e hp)]; exact st.ex b o e rfl
            · by_cases hb : b = p
              · subst hb; exact absurd hp n
              · rw [upd_ne hb]; exact st.th b n
            · by_cases hb : b = p
              · subst hb; rw [upd_same] at e; cases e; exact .inl upd_same
              · rw [upd_ne hb] at e ⊢; exact st.le b o e
            · have hb : b ≠ p := fun z => by subst z; rw [hmp] at e; cases e
              obtain ⟨z1, z2⟩ := mr b o e
              refine ⟨?_, z2.keep (st.gr.trans gr) fun u hu => ?_⟩
              · rw [upd_ne hb]
                cases q : F' b with
                | none => rfl
                | some w' =>
                  rcases st.nw b w' q with z | z | z
                  · rw [z1] at z; cases z
                  · exact absurd z z2.there
                  · exact absurd rfl z
              · rw [upd_ne hb]
                exact st.ex b u hu rfl
            · by_cases hb : b = p
              · subst hb; exact .inr (.inl hp)
              · rw [upd_ne hb] at e
                rcases st.nw b o e with z | z | z
                · exact .inl z
                · exact .inr (.inl z)
                · exact absurd rfl z
            · rw [upd_ne (ne_of_none e hp)]; exact st.fz b ob u e
  · cases res with
    | error e => exact hq
    | ok fl =>
      cases fl with
      | next => exact hq
      | brk => exact hq
      | cont => exact hq
      | ret u =>
        obtain ⟨v, H', os, bare, un, hok, rv, p, cs, mk, ev, hp, hh, hQ⟩ := hq
        obtain ⟨_, its', n', rv', hg'⟩ := hok p _ hh
        refine ⟨v, upd H' p (feedO cs p), os, bare, ⟨un.keep, un.slot, fun b o e n hx => ?_, un.there, fun b xs e => ?_, fun b o x e => ?_, fun b ps e => ?_⟩, ?_, rv, hQ⟩
        · have h1 := un.free b o e n hx
          have : b ≠ p := fun z => by subst z; rw [hh] at h1; cases h1
          rw [upd_ne this]; exact h1
        · rw [upd_ne (ne_of_none e hp)]; exact un.tups b xs e
        · rw [upd_ne (ne_of_none e hp)]; exact un.frzs b o x e
        · rw [upd_ne (ne_of_none e hp)]; exact un.tbls b ps e
        · exact hok_told hok hh (fun y z => by cases z) (fun y z => by cases z) ⟨⟨its', n', 0, 0, mk, hg', rv', Int.le_refl 0⟩, ⟨_, hg'⟩, feedP_stable⟩
end
end Ts
namespace Ts
open PySem PySem.Spec PyProof.Rows L2
/-! ### operators that serve several kinds -/
def r2or (r1 r2 : R2) : R2 := fun x y H Q => r1 x y H Q ∨ r2 x y H Q
section
variable {X : Cx}
theorem opr_or {f : Value → Value → Sem Value} {r1 r2 : R2} (h1 : OpR X f r1) (h2 : OpR X f r2) : OpR X f (r2or r1 r2) := fun pins s σ H x y v u Q I rx ry h => by
  rcases h with h | h
  · exact h1 pins s σ H x y v u Q I rx ry h
  · exact h2 pins s σ H x y v u Q I rx ry h
def rAddS : R2 := fun x y H Q => ∃ i j, x = .str i ∧ y = .str j ∧ i.length + j.length ≤ sizeLine ∧ Q (.str (i ++ j)) H
def rCatN (K : PySem.W.Frag) : R2 := fun x y H Q => ∃ a b xs ys, x = .ref a ∧ y = .ref b ∧ SqT K H a xs ∧ SqT K H b ys ∧ xs ≠ [] ∧ xs.length + ys.length ≤ sizeLine ∧
  (ys = [] → Q (.ref a) H) ∧ (ys ≠ [] → ∀ (p : Addr) (o : Obj), H p = none → o.dict = none → Q (.ref p) (upd H p (.frz o (.tup (xs ++ ys)))))
theorem op_catN : OpR X (binaryOp .Add) (rCatN X.K) := by
  intro pins s σ H x y v u Q I rx ry h
  obtain ⟨a, b, xs, ys, rfl, rfl, ha, hb, hx, hz, q1, q2⟩ := h
  cases rx
  cases ry
  obtain ⟨its, r1, p1, _⟩ := I.tuple ha
  obtain ⟨its2, r2, p2, _⟩ := I.tuple hb
  refine HT.cat_tup p1 p2 (fun z => hx (r1.nil_iff.mp z)) (fun z => ⟨.ref a, H, I, rfl, q1 (r2.nil_iff.mp z)⟩) (fun z => ?_) (by rw [← r1.length, ← r2.length]; exact hz)
  refine ⟨.ref s.heap.objs.size, _, I.laid (t' := s.toks) (o := .frz _ (.tup (xs ++ ys))) (fun b ob q => Heap.get?_push_of_some _ q) (Nat.le_refl _) ⟨Heap.get?_push_size _ rfl, ?_⟩, rfl, q2 (fun w => z (r2.nil_iff.mpr w)) _ _ (I.hok.fresh (Nat.le_refl _)) rfl⟩
  exact ⟨by rw [List.length_append]; exact hz, _, r1.append r2, IsTup.new _ _⟩
theorem call_tupleN : CallR X (.type "tuple") (fun xs H Q => ∃ p ys, xs = [.ref p] ∧ ((SqL X.K H p ys ∧ ∀ (l : Addr) (o : Obj), H l = none → o.dict = none → Q (.ref l) (upd H l (.frz o (.tup ys)))) ∨ (SqT X.K H p ys ∧ Q (.ref p) H))) := by
  intro pins s σ H xs us Q I r h
  obtain ⟨p, ys, rfl, h⟩ := h
  obtain ⟨u, rfl, rx⟩ := vals1 r
  cases rx
  rcases h with ⟨hq, q⟩ | ⟨hq, q⟩
  · obtain ⟨its, r', pl, hz⟩ := I.list hq
    have hlen := r'.length
    refine call_tuple_list pl.isList (fun h' kp => ?_) (by simp only [List.size_toArray] <;> omega)
    have I1 : Inv X pins σ H { s with heap := h' } := I.kept (t' := s.toks) kp
    have I2 : Inv X pins σ (upd H h'.objs.size (.frz { cls := .type "tuple", data := .seq its.toArray } (.tup ys))) { s with heap := h'.push { cls := .type "tuple", data := .seq its.toArray } } :=
      I1.laid (t' := s.toks) (fun b o e => Heap.get?_push_of_some _ e) (Nat.le_refl _) (show ObjOk X.prog X.w _ _ _ (.frz _ (.tup ys)) from ⟨Heap.get?_push_size _ rfl, hz, its, r', IsTup.new _ _⟩)
    exact ⟨.ref h'.objs.size, _, I2, rfl, q _ _ (I1.hok.fresh (Nat.le_refl _)) rfl⟩
  · obtain ⟨its, _, p1, _⟩ := I.tuple hq
    exact call_tuple_same (items := its.toArray) p1 ⟨.ref p, H, I, rfl, q⟩
def uAdd (K : PySem.W.Frag) : R2 := r2or (rI0 fun i j => .int (i + j)) (r2or rAddS (r2or rCat (rCatN K)))
theorem ox_add : OpR X (binaryOp .Add) (uAdd X.K) := opr_or op_add (opr_or op_add_str (opr_or op_cat op_catN))
def MulOk (i j : Int) : Prop := CMul i j ∨ CMulX i j
theorem MulOk.ok {i j : Int} (h : MulOk i j) : IntMulOk i j := h.elim CMul.ok CMulX.ok
/-- a text, so many times -/
def repS (z : Str) (n : Nat) : Str := ⟨(List.replicate n z.cps.toList).flatten.toArray⟩
def rMulS : R2 := fun x y H Q => ∃ z i, x = .str z ∧ y = .int i ∧ 0 ≤ i ∧ i ≤ 1000 ∧ z.length ≤ 1000 ∧ Q (.str (repS z i.toNat)) H
theorem fold_rep (c : Array Nat) : ∀ (n : Nat) (acc : Array Nat), ((List.replicate n c).foldl (· ++ ·) acc).toList = acc.toList ++ (List.replicate n c.toList).flatten
  | 0, acc => by simp
  | n + 1, acc => by
    rw [List.replicate_succ, List.foldl_cons, fold_rep c n, List.replicate_succ, List.flatten_cons, Array.toList_append, List.append_assoc]
theorem str_ext {a b : Str} (h : a.cps.toList = b.cps.toList) : a = b := by
  obtain ⟨⟨a⟩⟩ := a
  obtain ⟨⟨b⟩⟩ := b
  have h : a = b := h
  rw [h]
theorem op_mulS : OpR X (binaryOp .Mult) rMulS := by
  intro pins s σ H x y v u Q I rx ry h
  obtain ⟨z, i, rfl, rfl, h0, h1, hz, q⟩ := h
  obtain ⟨t, rfl⟩ := rx
  obtain ⟨t', rfl⟩ := ry
  have hb : z.length * i.toNat ≤ 1000000 := Nat.le_trans (Nat.mul_le_mul hz (by omega : i.toNat ≤ 1000)) (by decide)
  have hl : Builtin.Str.tooLong (z.length * i.toNat) = false := decide_eq_false (Nat.not_lt.mpr (Nat.le_trans hb (by decide)))
  refine P.mul_str (by rw [decide_eq_false (by omega), decide_eq_false (by omega)]; rfl) (fun hn _ hc => ?_) (fun _ _ => hl) ?_
  · have e : (2 ^ 63 - 1 : Int) / i ≥ (2 ^ 63 - 1) / 1000 := by
      have hp : 0 < i := by omega
      rw [ge_iff_le, Int.le_ediv_iff_mul_le hp]
      have : (2 ^ 63 - 1 : Int) / 1000 * i ≤ (2 ^ 63 - 1) / 1000 * 1000 := Int.mul_le_mul_of_nonneg_left h1 (by decide)
      exact Int.le_trans this (by decide)
    have : ((z.length : Nat) : Int) ≤ 1000 := by omega
    have d : (2 ^ 63 - 1 : Int) / 1000 = 9223372036854775 := by decide
    omega
  · by_cases hn : i < 1
    · rw [if_pos hn]
      have e : i = 0 := by omega
      subst e
      exact ⟨by decide, .str _, H, I.tok _, ⟨_, rfl⟩, q⟩
    · rw [if_neg hn]
      by_cases hc : (i == 1 || z.length == 0) = true
      · rw [if_pos hc]
        have e : repS z i.toNat = z := by
          apply str_ext
          show (List.replicate i.toNat z.cps.toList).flatten = _
          rcases Bool.or_eq_true_iff.mp hc with c | c
          · have : i = 1 := by simpa using c
            subst this
            simp
          · have c : z.length = 0 := beq_iff_eq.mp c
            have : z.cps.toList = [] := by exact List.length_eq_zero_iff.mp (by rw [Array.length_toList]; exact c)
            rw [this]
            simp
        exact ⟨.str z, H, I, ⟨_, rfl⟩, by rw [← e]; exact q⟩
      · rw [if_neg hc]
        have e : repS z i.toNat = ⟨(List.replicate i.toNat z.cps).foldl (· ++ ·) #[]⟩ := by
          apply str_ext
          show (List.replicate i.toNat z.cps.toList).flatten = _
          rw [fold_rep]
          rfl
        rw [e] at q
        exact ⟨by first | exact fits_reps hl | exact PySem.fits_reps hl, .str _, H, I.tok _, ⟨_, rfl⟩, q⟩
def uMul : R2 := r2or (rI MulOk fun i j => .int (i * j)) (r2or rRep rMulS)
theorem ox_mul : OpR X (binaryOp .Mult) uMul := opr_or (opI fun _ _ _ _ _ _ _ hc q => mul_int q hc.ok) (opr_or op_rep op_mulS)
/-- a divisor below 2 ^ 9000 -/
def DivOk (j : Int) : Prop := j ≠ 0 ∧ j.natAbs.log2 < 9000
def uFdiv : R2 := rI (fun _ j => DivOk j) fun i j => .int (i.fdiv j)
theorem ox_fdiv : OpR X (binaryOp .FloorDiv) uFdiv := opI fun i j _ _ _ _ _ hc q => floordiv_int hc.1 q (.inl (PyProof.noPylong_of_log2 hc.2))
def rLtS : R2 := fun x y H Q => ∃ i j, x = .str i ∧ y = .str j ∧ Q (.bl (decide (i.cps.toList < j.cps.toList))) H
def uLt : R2 := r2or (rI0 fun i j => .bl (decide (i < j))) rLtS
theorem ox_lt : OpR X (compareOp .Lt) uLt := opr_or op_lt op_lt_str
def uEq (K : PySem.W.Frag) : R2 := r2or rEq (rEqD K)
theorem ox_eq (hu : X.A.units + 64 < cLine) : OpR X (compareOp .Eq) (uEq X.K) := opr_or op_eq (op_eqD hu)
def uNe (K : PySem.W.Frag) : R2 := r2or rNe (rNeD K)
theorem ox_ne (hu : X.A.units + 64 < cLine) : OpR X (compareOp .NotEq) (uNe X.K) := opr_or op_ne (op_neD hu)
end
/-! ### .. over data -/
def onO {α : Type} : Option α → (α → Prop) → Prop
  | some a, k => k a
  | none, _ => False
/-- what stands at an address is a list -/
def onM : Option MO → (List D → Prop) → Prop
  | some (.lst ds), k => k ds
  | _, _ => False
theorem onO_of {α : Type} {o : Option α} {k : α → Prop} (h : onO o k) : ∃ a, o = some a ∧ k a := by
  cases o with
  | some a => exact ⟨a, rfl, h⟩
  | none => exact h.elim
theorem onM_of {o : Option MO} {k : List D → Prop} (h : onM o k) : ∃ ds, o = some (.lst ds) ∧ k ds := by
  cases o with
  | some a =>
    cases a with
    | lst ds => exact ⟨ds, rfl, h⟩
    | _ => exact h.elim
  | none => exact h.elim
section
variable {K : PySem.W.Frag} {mg : Str → Option Value} {X : Cx}
def oAdd : O2
  | .int i, .int j, m, k => k (.int (i + j)) m
  | .str a, .str b, m, k => a.length + b.length ≤ 1000000 ∧ k (.str (a ++ b)) m
  | .tup a, .tup b, m, k => a ≠ [] ∧ a.length + b.length ≤ 1000000 ∧ k (.tup (a ++ b)) m
  | .lst a, .lst b, m, k => a.length + b.length ≤ 1000000 ∧ k (.lst (a ++ b)) m
  | .ref p, .lst b, m, k => onM (m p) fun a => a.length + b.length ≤ 1000000 ∧ k (.lst (a ++ b)) m
  | .lst a, .ref p, m, k => onM (m p) fun b => a.length + b.length ≤ 1000000 ∧ k (.lst (a ++ b)) m
  | _, _, _, _ => False
theorem cat_snd {F H : Hp} {m : Mem} {x y : D} {u v : V} {xs ys : List D} {k : KD} {Q : VK} (l : Le F H) (mr : MemR K mg F H m) (a : Rp K mg F u x) (b : Rp K mg F v y) (hx : asO m x = some xs) (hy : asO m y = some ys) (hz : xs.length + ys.length ≤ 1000000) (h : k (.lst (xs ++ ys)) m)
    (q : ∀ w d F' H' m', StM K mg m F H F' H' m' → Rp K mg F' w d → k d m' → Q w H') : rCat u v H Q := by
  obtain ⟨p, vs, rfl, sp, rp⟩ := a.asO l mr hx
  obtain ⟨p', vs', rfl, sp', rp'⟩ := b.asO l mr hy
  refine ⟨p, p', vs, vs', rfl, rfl, sp, sp', by rw [rp.len, rp'.len]; exact Nat.le_trans hz (by decide), fun n hn => ?_⟩
  have st := Step.new (F := F) (o := .lst (vs ++ vs')) l hn
  exact q _ _ _ _ m (st.stm mr) (.lst upd_same ((rp.app rp').mono st.gr)) h
theorem s_add : SndO2 K mg (uAdd K) oAdd := fun F H m x y u v k l mr a b h Q q => by
  unfold oAdd at h
  split at h
  · exact .inl ⟨_, _, a.intI, b.intI, q _ _ F H m (StM.refl l mr) (.int _) h⟩
  · exact .inr (.inl ⟨_, _, a.strI, b.strI, Nat.le_trans h.1 (by decide), q _ _ F H m (StM.refl l mr) (.str _) h.2⟩)
  · rename_i xs ys
    obtain ⟨hx, hz, h⟩ := h
    obtain ⟨p, vs, rfl, sn, rp⟩ := a.tupN
    have sp := sn.sqt
    obtain ⟨p', vs', rfl, sp', rp'⟩ := b.tupI
    have hv : vs ≠ [] := fun z => hx (List.length_eq_zero_iff.mp (by rw [← rp.len, z]; rfl))
    refine .inr (.inr (.inr ⟨p, p', vs, vs', rfl, rfl, l.sqt sp, l.sqt sp', hv, by rw [rp.len, rp'.len]; exact Nat.le_trans hz (by decide), ?_⟩))
    refine ⟨fun e => ?_, fun e n o hn ho => ?_⟩
    · have : ys = [] := List.length_eq_zero_iff.mp (by rw [← rp'.len, e]; rfl)
      subst this
      rw [List.append_nil] at h
      exact q _ _ F H m (StM.refl l mr) (.tup sn rp) h
    · have st := Step.new (F := F) (o := .frz o (.tup (vs ++ vs'))) l hn
      exact q _ _ _ _ m (st.stm mr) (.tup (.inl ⟨o, upd_same, ho⟩) ((rp.app rp').mono st.gr)) h
  · exact .inr (.inr (.inl (cat_snd l mr a b rfl rfl h.1 h.2 q)))
  · obtain ⟨a', hm, h⟩ := onM_of h
    exact .inr (.inr (.inl (cat_snd l mr a b (by simp only [asO, hm]) rfl h.1 h.2 q)))
  · obtain ⟨b', hm, h⟩ := onM_of h
    exact .inr (.inr (.inl (cat_snd l mr a b rfl (by simp only [asO, hm]) h.1 h.2 q)))
  · exact h.elim
theorem jo_add : JO2 X (binaryOp .Add) oAdd := ⟨_, ox_add, s_add⟩
theorem s_I0 {g : Int → Int → V} {g' : Int → Int → D} (hg : ∀ i j F, Rp K mg F (g i j) (g' i j)) {o : O2} (ho : ∀ x y m k, o x y m k → ∃ i j, x = .int i ∧ y = .int j ∧ k (g' i j) m) : SndO2 K mg (rI0 g) o := fun F H m x y u v k l mr a b h Q q => by
  obtain ⟨i, j, rfl, rfl, h'⟩ := ho _ _ _ _ h
  exact ⟨i, j, a.intI, b.intI, q _ _ F H m (StM.refl l mr) (hg i j F) h'⟩
theorem s_I {C : Int → Int → Prop} {g : Int → Int → V} {g' : Int → Int → D} (hg : ∀ i j F, Rp K mg F (g i j) (g' i j)) {o : O2} (ho : ∀ x y m k, o x y m k → ∃ i j, x = .int i ∧ y = .int j ∧ C i j ∧ k (g' i j) m) : SndO2 K mg (rI C g) o := fun F H m x y u v k l mr a b h Q q => by
  obtain ⟨i, j, rfl, rfl, hc, h'⟩ := ho _ _ _ _ h
  exact ⟨i, j, a.intI, b.intI, hc, q _ _ F H m (StM.refl l mr) (hg i j F) h'⟩
def oSub : O2
  | .int i, .int j, m, k => k (.int (i - j)) m
  | _, _, _, _ => False
theorem jo_sub : JO2 X (binaryOp .Sub) oSub := ⟨_, op_sub, s_I0 (g' := fun i j => .int (i - j)) (fun _ _ _ => .int _) fun x y m k h => by
  unfold oSub at h
  split at h
  · exact ⟨_, _, rfl, rfl, h⟩
  · exact h.elim⟩
def oMul : O2
  | .int i, .int j, m, k => MulOk i j ∧ k (.int (i * j)) m
  | .lst xs, .int j, m, k => 0 ≤ j ∧ j ≤ 1000 ∧ xs.length ≤ 1000 ∧ k (.lst (List.replicate j.toNat xs).flatten) m
  | .str z, .int j, m, k => 0 ≤ j ∧ j ≤ 1000 ∧ z.length ≤ 1000 ∧ k (.str (repS z j.toNat)) m
  | _, _, _, _ => False
theorem s_mul : SndO2 K mg uMul oMul := fun F H m x y u v k l mr a b h Q q => by
  unfold oMul at h
  split at h
  · exact .inl ⟨_, _, a.intI, b.intI, h.1, q _ _ F H m (StM.refl l mr) (.int _) h.2⟩
  · rename_i xs j
    obtain ⟨h0, h1, hz, h⟩ := h
    obtain ⟨p, vs, rfl, sp, rp⟩ := a.lstI
    obtain rfl := b.intI
    refine .inr (.inl ⟨p, j, vs, rfl, rfl, l.lst sp, by omega, by omega, ?_, fun n hn => ?_⟩)
    · rw [rp.len]
      exact Nat.le_trans (Nat.mul_le_mul hz (by omega : j.toNat ≤ 1000)) (by decide)
    · have st := Step.new (F := F) (o := .lst (List.replicate j.toNat vs).flatten) l hn
      refine q _ _ _ _ m (st.stm mr) (.lst upd_same (RpL.mono st.gr ?_)) h
      have key : ∀ n : Nat, RpL K mg F (List.replicate n vs).flatten (List.replicate n xs).flatten := fun n => by
        induction n with
        | zero => exact .nil
        | succ n ih => rw [List.replicate_succ, List.replicate_succ, List.flatten_cons, List.flatten_cons]; exact rp.app ih
      exact key _
  · exact .inr (.inr ⟨_, _, a.strI, b.intI, h.1, h.2.1, h.2.2.1, q _ _ F H m (StM.refl l mr) (.str _) h.2.2.2⟩)
  · exact h.elim
theorem jo_mul : JO2 X (binaryOp .Mult) oMul := ⟨_, ox_mul, s_mul⟩
def oFdiv : O2
  | .int i, .int j, m, k => DivOk j ∧ k (.int (i.fdiv j)) m
  | _, _, _, _ => False
theorem jo_fdiv : JO2 X (binaryOp .FloorDiv) oFdiv := ⟨_, ox_fdiv, s_I (g' := fun i j => .int (i.fdiv j)) (fun _ _ _ => .int _) fun x y m k h => by
  unfold oFdiv at h
  split at h
  · exact ⟨_, _, rfl, rfl, h.1, h.2⟩
  · exact h.elim⟩
def oMod : O2
  | .int i, .int j, m, k => j ≠ 0 ∧ k (.int (i.fmod j)) m
  | _, _, _, _ => False
theorem jo_mod : JO2 X (binaryOp .Mod) oMod := ⟨_, op_modN, s_I (g' := fun i j => .int (i.fmod j)) (fun _ _ _ => .int _) fun x y m k h => by
  unfold oMod at h
  split at h
  · exact ⟨_, _, rfl, rfl, h.1, h.2⟩
  · exact h.elim⟩
def oPow : O2
  | .int i, .int j, m, k => CPow i j ∧ k (.int (i ^ j.toNat)) m
  | _, _, _, _ => False
theorem jo_pow : JO2 X (binaryOp .Pow) oPow := ⟨_, op_pow, s_I (g' := fun i j => .int (i ^ j.toNat)) (fun _ _ _ => .int _) fun x y m k h => by
  unfold oPow at h
  split at h
  · exact ⟨_, _, rfl, rfl, h.1, h.2⟩
  · exact h.elim⟩
def oNeg : O1
  | .int i, m, k => k (.int (-i)) m
  | _, _, _ => False
theorem jo_neg : JO1 X (unaryOp .USub) oNeg := ⟨_, un_neg, fun F H m x u k l mr a h Q q => by
  unfold oNeg at h
  split at h
  · exact ⟨_, a.intI, q _ _ F H m (StM.refl l mr) (.int _) h⟩
  · exact h.elim⟩
def oLt : O2
  | .int i, .int j, m, k => k (.bl (decide (i < j))) m
  | .str i, .str j, m, k => k (.bl (decide (i.cps.toList < j.cps.toList))) m
  | _, _, _, _ => False
theorem jo_lt : JO2 X (compareOp .Lt) oLt := ⟨_, ox_lt, fun F H m x y u v k l mr a b h Q q => by
  unfold oLt at h
  split at h
  · exact .inl ⟨_, _, a.intI, b.intI, q _ _ F H m (StM.refl l mr) (.bl _) h⟩
  · exact .inr ⟨_, _, a.strI, b.strI, q _ _ F H m (StM.refl l mr) (.bl _) h⟩
  · exact h.elim⟩
def oLe : O2
  | .int i, .int j, m, k => k (.bl (decide (i ≤ j))) m
  | _, _, _, _ => False
theorem jo_le : JO2 X (compareOp .LtE) oLe := ⟨_, op_le, s_I0 (g' := fun i j => .bl (decide (i ≤ j))) (fun _ _ _ => .bl _) fun x y m k h => by
  unfold oLe at h
  split at h
  · exact ⟨_, _, rfl, rfl, h⟩
  · exact h.elim⟩
def oGt : O2
  | .int i, .int j, m, k => k (.bl (decide (j < i))) m
  | .str i, .str j, m, k => k (.bl (decide (j.cps.toList < i.cps.toList))) m
  | _, _, _, _ => False
def rGtS : R2 := fun x y H Q => ∃ i j, x = .str i ∧ y = .str j ∧ Q (.bl (decide (j.cps.toList < i.cps.toList))) H
theorem jo_gt : JO2 X (compareOp .Gt) oGt := ⟨_, opr_or op_gt (show OpR X (compareOp .Gt) rGtS from op_gt_str), fun F H m x y u v k l mr a b h Q q => by
  unfold oGt at h
  split at h
  · exact .inl ⟨_, _, a.intI, b.intI, q _ _ F H m (StM.refl l mr) (.bl _) h⟩
  · exact .inr ⟨_, _, a.strI, b.strI, q _ _ F H m (StM.refl l mr) (.bl _) h⟩
  · exact h.elim⟩
def oGe : O2
  | .int i, .int j, m, k => k (.bl (decide (j ≤ i))) m
  | _, _, _, _ => False
/-! ### == -/
mutual
def toPy : D → Option PyData
  | .non => some .none
  | .bl b => some (.bool b)
  | .int i => some (.int i)
  | .str x => some (.str x)
  | .lst ds => (toPyL ds).map .list
  | .tup ds => (toPyL ds).map .tuple
  | _ => none
def toPyL : List D → Option (List PyData)
  | [] => some []
  | d :: ds => match toPy d, toPyL ds with
    | some p, some ps => some (p :: ps)
    | _, _ => none
end
/-- a list of the memory as it stands -/
def now (m : Mem) : D → D
  | .ref p => match m p with
    | some (.lst ds) => .lst ds
    | _ => .ref p
  | d => d
mutual
theorem Rp.dp {F H : Hp} (l : Le F H) : ∀ {d : D} {p : PyData}, toPy d = some p → ∀ {v : V}, Rp K mg F v d → Dp K H v p
  | .non, p, h, v, r => by simp only [toPy] at h; cases h; rw [r.nonI]; exact .non
  | .bl b, p, h, v, r => by simp only [toPy] at h; cases h; rw [r.blI]; exact .bl b
  | .int i, p, h, v, r => by simp only [toPy] at h; cases h; rw [r.intI]; exact .int i
  | .str x, p, h, v, r => by simp only [toPy] at h; cases h; rw [r.strI]; exact .str x
  | .lst ds, p, h, v, r => by
    simp only [toPy, Option.map_eq_some_iff] at h
    obtain ⟨ps, h1, rfl⟩ := h
    obtain ⟨a, xs, rfl, e, rl⟩ := r.lstI
    exact .lst (SqL.of (l.lst e)) (RpL.dp l h1 rl)
  | .tup ds, p, h, v, r => by
    simp only [toPy, Option.map_eq_some_iff] at h
    obtain ⟨ps, h1, rfl⟩ := h
    obtain ⟨a, xs, rfl, e, rl⟩ := r.tupI
    exact .tup (l.sqt e) (RpL.dp l h1 rl)
  | .dic _, p, h, v, r => by simp only [toPy] at h; cases h
  | .dit _, p, h, v, r => by simp only [toPy] at h; cases h
  | .obj _ _, p, h, v, r => by simp only [toPy] at h; cases h
  | .feed, p, h, v, r => by simp only [toPy] at h; cases h
  | .lat _ _, p, h, v, r => by simp only [toPy] at h; cases h
  | .ref _, p, h, v, r => by simp only [toPy] at h; cases h
  | .oth _, p, h, v, r => by simp only [toPy] at h; cases h
  | .exn _ _ _, p, h, v, r => by simp only [toPy] at h; cases h
  | .clo _ _ _ _ _, p, h, v, r => by simp only [toPy] at h; cases h
theorem RpL.dp {F H : Hp} (l : Le F H) : ∀ {d : List D} {p : List PyData}, toPyL d = some p → ∀ {v : List V}, RpL K mg F v d → DpAll K H v p
  | [], p, h, v, r => by simp only [toPyL] at h; cases h; cases r; exact .nil
  | d :: ds, p, h, v, r => by
    simp only [toPyL] at h
    cases h1 : toPy d with
    | none => simp only [h1] at h; cases h
    | some q =>
      cases h2 : toPyL ds with
      | none => simp only [h1, h2] at h; cases h
      | some qs =>
        simp only [h1, h2] at h
        cases h
        cases r with
        | cons ra rb => exact .cons (Rp.dp l h1 ra) (RpL.dp l h2 rb)
end
theorem Rp.dpM {F H : Hp} {m : Mem} (l : Le F H) (mr : MemR K mg F H m) {d : D} {p : PyData} (h : toPy (now m d) = some p) {v : V} (r : Rp K mg F v d) : Dp K H v p := by
  cases d with
  | ref a =>
    cases hm : m a with
    | none => simp only [now, hm, toPy] at h; cases h
    | some o =>
      cases o with
      | lst ds =>
        simp only [now, hm, toPy, Option.map_eq_some_iff] at h
        obtain ⟨ps, h1, rfl⟩ := h
        obtain ⟨_, xs, e, rl⟩ := mr a _ hm
        obtain rfl := r.refI
        exact .lst (SqL.of e) (RpL.dp l h1 rl)
      | _ => simp only [now, hm, toPy] at h; cases h
  | _ => exact r.dp l h
/-- == of data -/
def eqP (m : Mem) (x y : D) (k : Bool → Prop) : Prop := ∃ p q, toPy (now m x) = some p ∧ toPy (now m y) = some q ∧ SeqAt.shaped p = true ∧ SeqAt.shaped q = true ∧ k (PyData.eqv p q)
def scEq : D → D → Option Bool
  | .int i, .int j => some (decide (i = j))
  | .str i, .str j => some (decide (i = j))
  | .bl i, .bl j => some (decide (i = j))
  | _, _ => none
def eqA : Option Bool → (Bool → Prop) → Prop → Prop
  | some b, k, _ => k b
  | none, _, p => p
def eqK (x y : D) (m : Mem) (k : Bool → Prop) : Prop := eqA (scEq x y) k (eqP m x y k)
def oEq : O2 := fun x y m k => eqK x y m fun b => k (.bl b) m
def oNe : O2 := fun x y m k => eqK x y m fun b => k (.bl (!b)) m
theorem eqK_i {i j : Int} {m : Mem} {k : Bool → Prop} : eqK (.int i) (.int j) m k = k (decide (i = j)) := rfl
theorem eqK_s {i j : Str} {m : Mem} {k : Bool → Prop} : eqK (.str i) (.str j) m k = k (decide (i = j)) := rfl
theorem eqK_b {i j : Bool} {m : Mem} {k : Bool → Prop} : eqK (.bl i) (.bl j) m k = k (decide (i = j)) := rfl
theorem eqK_t {i j : List D} {m : Mem} {k : Bool → Prop} : eqK (.tup i) (.tup j) m k = eqP m (.tup i) (.tup j) k := rfl
theorem eqK_l {i j : List D} {m : Mem} {k : Bool → Prop} : eqK (.lst i) (.lst j) m k = eqP m (.lst i) (.lst j) k := rfl
theorem scEq_of {F : Hp} {x y : D} {u v : V} {c : Bool} (a : Rp K mg F u x) (b : Rp K mg F v y) (h : scEq x y = some c) : scal u v = true ∧ decide (u = v) = c := by
  unfold scEq at h
  split at h
  · cases h; rw [a.intI, b.intI]; exact ⟨rfl, by simp⟩
  · cases h; rw [a.strI, b.strI]; exact ⟨rfl, by simp⟩
  · cases h; rw [a.blI, b.blI]; exact ⟨rfl, by simp⟩
  · cases h
theorem jo_eq (hu : X.A.units + 64 < cLine) : JO2 X (compareOp .Eq) oEq := ⟨_, ox_eq hu, fun F H m x y u v k l mr a b h Q q => by
  unfold oEq eqK at h
  cases hc : scEq x y with
  | some c =>
    rw [hc] at h
    obtain ⟨h1, h2⟩ := scEq_of a b hc
    refine .inl ⟨h1, ?_⟩
    rw [h2]
    exact q _ _ F H m (StM.refl l mr) (.bl _) h
  | none =>
    rw [hc] at h
    obtain ⟨p, p', h1, h2, h3, h4, h5⟩ := h
    exact .inr ⟨p, p', a.dpM l mr h1, b.dpM l mr h2, h3, h4, q _ _ F H m (StM.refl l mr) (.bl _) h5⟩⟩
theorem jo_ne (hu : X.A.units + 64 < cLine) : JO2 X (compareOp .NotEq) oNe := ⟨_, ox_ne hu, fun F H m x y u v k l mr a b h Q q => by
  unfold oNe eqK at h
  cases hc : scEq x y with
  | some c =>
    rw [hc] at h
    obtain ⟨h1, h2⟩ := scEq_of a b hc
    refine .inl ⟨h1, ?_⟩
    rw [h2]
    exact q _ _ F H m (StM.refl l mr) (.bl _) h
  | none =>
    rw [hc] at h
    obtain ⟨p, p', h1, h2, h3, h4, h5⟩ := h
    exact .inr ⟨p, p', a.dpM l mr h1, b.dpM l mr h2, h3, h4, q _ _ F H m (StM.refl l mr) (.bl _) h5⟩⟩
/-- is None -/
def noneB : D → Bool
  | .non => true
  | .oth .non => true
  | _ => false
theorem rp_none {F : Hp} {v : V} {d : D} (r : Rp K mg F v d) : decide (v = V.non) = noneB d := by
  cases r with
  | oth v => cases v <;> rfl
  | _ => rfl
def oIs : O2
  | x, .non, m, k => k (.bl (noneB x)) m
  | _, _, _, _ => False
def oIsNot : O2
  | x, .non, m, k => k (.bl (!noneB x)) m
  | _, _, _, _ => False
theorem jo_is : JO2 X (compareOp .Is) oIs := ⟨_, op_isN, fun F H m x y u v k l mr a b h Q q => by
  unfold oIs at h
  split at h
  · exact ⟨b.nonI, by rw [rp_none a]; exact q _ _ F H m (StM.refl l mr) (.bl _) h⟩
  · exact h.elim⟩
/-! ### items and slices -/
def oIx : O2
  | .tup ds, .int i, m, k => onO (atI ds i) fun d => k d m
  | .lst ds, .int i, m, k => onO (atI ds i) fun d => k d m
  | .lat _ ds, .int i, m, k => onO (atI ds i) fun d => k d m
  | .ref p, .int i, m, k => onM (m p) fun ds => onO (atI ds i) fun d => k d m
  | .str z, .int i, m, k => z.length ≤ 1000000 ∧ onO (atI z.cps.toList i) fun c => k (.str ⟨#[c]⟩) m
  | _, _, _, _ => False
theorem ixl_snd {F H : Hp} {m : Mem} {x : D} {u v : V} {xs : List D} {i : Int} {d : D} {k : KD} {Q : VK} (l : Le F H) (mr : MemR K mg F H m) (a : Rp K mg F u x) (b : Rp K mg F v (.int i)) (hx : asL m x = some xs) (hd : atI xs i = some d) (h : k d m)
    (q : ∀ w d F' H' m', StM K mg m F H F' H' m' → Rp K mg F' w d → k d m' → Q w H') : rIxL K u v H Q := by
  obtain ⟨p, vs, rfl, sp, rp⟩ := a.asL l mr hx
  obtain ⟨w, h1, h2⟩ := rp.atI hd
  exact ⟨p, vs, i, w, rfl, b.intI, sp, h1, q _ _ F H m (StM.refl l mr) h2 h⟩
theorem s_ix : SndO2 K mg (rIx K) oIx := fun F H m x y u v k l mr a b h Q q => by
  unfold oIx at h
  split at h
  · obtain ⟨d, hd, h⟩ := onO_of h
    obtain ⟨p, vs, rfl, sp, rp⟩ := a.tupI
    obtain ⟨w, h1, h2⟩ := rp.atI hd
    exact .inr (.inl ⟨p, vs, _, w, rfl, b.intI, l.sqt sp, h1, q _ _ F H m (StM.refl l mr) h2 h⟩)
  · obtain ⟨d, hd, h⟩ := onO_of h; exact .inl (ixl_snd l mr a b rfl hd h q)
  · obtain ⟨d, hd, h⟩ := onO_of h; exact .inl (ixl_snd l mr a b rfl hd h q)
  · obtain ⟨ds, hm, h⟩ := onM_of h
    obtain ⟨d, hd, h⟩ := onO_of h
    exact .inl (ixl_snd l mr a b (by simp only [asL, hm]) hd h q)
  · obtain ⟨hz, h⟩ := h
    obtain ⟨d, hd, h⟩ := onO_of h
    exact .inr (.inr ⟨_, _, _, a.strI, b.intI, Nat.le_trans hz (by decide), hd, q _ _ F H m (StM.refl l mr) (.str _) h⟩)
  · exact h.elim
theorem je_ix {W : WX} {a b : Expr} {va vb : VE} {pos : Pos} (ha : JE X W a va) (hb : JE X W b vb) (hs : PlainIx b) : JE X W (.Subscript a b pos) (vOp oIx va vb) := by
  obtain ⟨ta, p1, s1⟩ := ha; obtain ⟨tb, p2, s2⟩ := hb
  exact ⟨_, pe_ix ix_seq p1 p2 hs, SndE.op s_ix s1 s2⟩
def cutD {α : Type} (xs : List α) (lo hi : Option Int) : List α := (xs.drop (HT.sIx xs.length 0 lo)).take (HT.sIx xs.length xs.length hi - HT.sIx xs.length 0 lo)
theorem RpL.cut {F : Hp} {vs : List V} {ds : List D} (r : RpL K mg F vs ds) (lo hi : Option Int) : RpL K mg F (cutV vs lo hi) (cutD ds lo hi) := by
  unfold cutV cutD
  rw [r.len]
  exact (r.drop _).take _
abbrev OS := D → Option Int → Option Int → Mem → KD → Prop
def oSl : OS
  | .lst ds, lo, hi, m, k => k (.lst (cutD ds lo hi)) m
  | .lat _ ds, lo, hi, m, k => k (.lst (cutD ds lo hi)) m
  | .ref p, lo, hi, m, k => onM (m p) fun ds => k (.lst (cutD ds lo hi)) m
  | .str z, lo, hi, m, k => z.length ≤ 1000000 ∧ k (.str (cutS z lo hi)) m
  | _, _, _, _, _ => False
@[reducible] def vSl (a : VE) (l h : VO) : VE := fun s m k x => a s m (fun d m1 => l s m1 (fun lo m2 => h s m2 (fun hi m3 => oSl d lo hi m3 k) x) x) x
theorem sl_snd {F H : Hp} {m : Mem} {x : D} {u : V} {xs : List D} {lo hi : Option Int} {k : KD} {Q : VK} (l : Le F H) (mr : MemR K mg F H m) (a : Rp K mg F u x) (hx : asL m x = some xs) (h : k (.lst (cutD xs lo hi)) m)
    (q : ∀ w d F' H' m', StM K mg m F H F' H' m' → Rp K mg F' w d → k d m' → Q w H') : rSlL K u lo hi H Q := by
  obtain ⟨p, vs, rfl, sp, rp⟩ := a.asL l mr hx
  refine ⟨p, vs, rfl, sp, fun n hn => ?_⟩
  have st := Step.new (F := F) (o := .lst (cutV vs lo hi)) l hn
  exact q _ _ _ _ m (st.stm mr) (.lst upd_same ((rp.cut lo hi).mono st.gr)) h
theorem je_sl {W : WX} {e : Expr} {lo hi : Option Expr} {ve : VE} {vl vh : VO} {p2 pos : Pos} (he : JE X W e ve) (hl : JP X W lo vl) (hh : JP X W hi vh) : JE X W (.Subscript e (.Slice lo hi none p2) pos) (vSl ve vl vh) := by
  obtain ⟨t, p, s1⟩ := he; obtain ⟨tl, pl, s2⟩ := hl; obtain ⟨th, ph, s3⟩ := hh
  refine ⟨_, pe_slice (SlR.or sl_list sl_str) p pl ph, fun σ F H s m k x l en hv hx Q q => s1 σ F H s m _ x l en hv hx _ fun v d F1 H1 m1 t1 r1 k1 => s2 σ F1 H1 s m1 _ x t1.le (en.stm t1) k1 (hx.after t1) _ fun lo F2 H2 m2 t2 k2 =>
    s3 σ F2 H2 s m2 _ x t2.le ((en.stm t1).stm t2) k2 ((hx.after t1).after t2) _ fun hi F3 H3 m3 t3 k3 => ?_⟩
  have st := (t1.trans t2).trans t3
  have q' : ∀ w d F' H' m', StM X.K X.mg m3 F3 H3 F' H' m' → Rp X.K X.mg F' w d → k d m' → Q w H' := fun w d F' H' m' t r hk => q w d F' H' m' (st.trans t) r hk
  have r3 := r1.mono (t2.gr.trans t3.gr)
  unfold oSl at k3
  split at k3
  · exact .inl (sl_snd t3.le t3.mr r3 rfl k3 q')
  · exact .inl (sl_snd t3.le t3.mr r3 rfl k3 q')
  · obtain ⟨ds, hm, k3⟩ := onM_of k3
    exact .inl (sl_snd t3.le t3.mr r3 (by simp only [asL, hm]) k3 q')
  · exact .inr ⟨_, r3.strI, Nat.le_trans k3.1 (by decide), q' _ _ F3 H3 m3 (StM.refl t3.le t3.mr) (.str _) k3.2⟩
  · exact k3.elim
/-! ### built-ins by name -/
def oLen : OA
  | [.lst ds], m, k => k (.int (ds.length : Int)) m
  | [.lat _ ds], m, k => k (.int (ds.length : Int)) m
  | [.tup ds], m, k => k (.int (ds.length : Int)) m
  | [.pr ds], m, k => k (.int (ds.length : Int)) m
  | [.str z], m, k => z.length ≤ 1000000 ∧ k (.int (z.length : Int)) m
  | [.ref p], m, k => onM (m p) fun ds => k (.int (ds.length : Int)) m
  | _, _, _ => False
theorem len_snd {F H : Hp} {m : Mem} {x : D} {u : V} {xs : List D} {k : KD} {Q : VK} (l : Le F H) (mr : MemR K mg F H m) (a : Rp K mg F u x) (hx : asL m x = some xs) (h : k (.int (xs.length : Int)) m)
    (q : ∀ w d F' H' m', StM K mg m F H F' H' m' → Rp K mg F' w d → k d m' → Q w H') : ∃ x n, [u] = [x] ∧ LenV K x H n ∧ Q (.int n) H := by
  obtain ⟨p, vs, rfl, sp, rp⟩ := a.asL l mr hx
  refine ⟨_, vs.length, rfl, .inl ⟨vs, sp, rfl⟩, q _ _ F H m (StM.refl l mr) (.int _) ?_⟩
  rw [rp.len]; exact h
theorem jo_len : JOA X (.builtin "len") oLen := ⟨_, call_len, fun F H m xs us k l mr r h Q q => by
  unfold oLen at h
  split at h
  · obtain ⟨u, rfl, a⟩ := r.one
    exact len_snd l mr a rfl h q
  · obtain ⟨u, rfl, a⟩ := r.one
    exact len_snd l mr a rfl h q
  · obtain ⟨u, rfl, a⟩ := r.one
    obtain ⟨p, vs, rfl, sp, rp⟩ := a.tupI
    refine ⟨_, vs.length, rfl, .inr ⟨vs, l.sqt sp, rfl⟩, q _ _ F H m (StM.refl l mr) (.int _) ?_⟩
    rw [rp.len]; exact h
  · obtain ⟨u, rfl, a⟩ := r.one
    obtain ⟨p, vs, rfl, sp, rp⟩ := a.prI
    refine ⟨_, vs.length, rfl, .inr ⟨vs, l.sqt (SqT.of sp), rfl⟩, q _ _ F H m (StM.refl l mr) (.int _) ?_⟩
    rw [rp.len]; exact h
  · obtain ⟨u, rfl, a⟩ := r.one
    obtain rfl := a.strI
    exact ⟨_, _, rfl, ⟨Nat.le_trans h.1 (by decide), rfl⟩, q _ _ F H m (StM.refl l mr) (.int _) h.2⟩
  · obtain ⟨u, rfl, a⟩ := r.one
    obtain ⟨ds, hm, h⟩ := onM_of h
    exact len_snd l mr a (by simp only [asL, hm]) h q
  · exact h.elim⟩
def rcor (r1 r2 : List V → Hp → VK → Prop) : List V → Hp → VK → Prop := fun xs H Q => r1 xs H Q ∨ r2 xs H Q
theorem cr_or {f : Value} {r1 r2 : List V → Hp → VK → Prop} (h1 : CallR X f r1) (h2 : CallR X f r2) : CallR X f (rcor r1 r2) := fun pins s σ H xs us Q I r h => by
  rcases h with h | h
  · exact h1 pins s σ H xs us Q I r h
  · exact h2 pins s σ H xs us Q I r h
def oInt : OA
  | [.int i], m, k => k (.int i) m
  | [.bl b], m, k => k (.int (if b then 1 else 0)) m
  | [.str z], m, k => z.length ≤ 640 ∧ ∃ n, PySem.intText? z = some n ∧ k (.int n) m
  | _, _, _ => False
theorem jo_int : JOA X (.type "int") oInt := ⟨_, cr_or call_int1 call_int_str, fun F H m xs us k l mr r h Q q => by
  unfold oInt at h
  split at h
  · obtain ⟨u, rfl, a⟩ := r.one
    obtain rfl := a.intI
    exact .inl (.inl ⟨_, rfl, q _ _ F H m (StM.refl l mr) (.int _) h⟩)
  · obtain ⟨u, rfl, a⟩ := r.one
    obtain rfl := a.blI
    exact .inl (.inr ⟨_, rfl, q _ _ F H m (StM.refl l mr) (.int _) h⟩)
  · obtain ⟨u, rfl, a⟩ := r.one
    obtain rfl := a.strI
    obtain ⟨hz, n, hn, h⟩ := h
    exact .inr ⟨_, n, rfl, hn, hz, q _ _ F H m (StM.refl l mr) (.int _) h⟩
  · exact h.elim⟩
def oAbs : OA
  | [.int i], m, k => k (.int (i.natAbs : Int)) m
  | _, _, _ => False
/-- bools -/
def blsOf : List D → Option (List Bool)
  | [] => some []
  | .bl b :: ds => (blsOf ds).map (b :: ·)
  | _ :: _ => none
theorem blsOf_map : ∀ bs : List Bool, blsOf (bs.map D.bl) = some bs
  | [] => rfl
  | b :: bs => by simp only [List.map_cons, blsOf, blsOf_map bs, Option.map_some]
theorem RpL.bls {F : Hp} : ∀ {xs : List V} {ds : List D} {bs : List Bool}, blsOf ds = some bs → RpL K mg F xs ds → xs = bs.map V.bl
  | _, [], bs, h, .nil => by simp only [blsOf] at h; cases h; rfl
  | _, .bl b :: ds, bs, h, .cons r s => by
    simp only [blsOf, Option.map_eq_some_iff] at h
    obtain ⟨cs, h1, rfl⟩ := h
    rw [r.blI, RpL.bls h1 s]; rfl
def oAll : OA
  | [.lst ds], m, k => onO (blsOf ds) fun bs => k (.bl (bs.all id)) m
  | _, _, _ => False
theorem jo_all (hc : X.calm = true) : JOA X (.builtin "all") oAll := ⟨_, cr_all hc, fun F H m xs us k l mr r h Q q => by
  unfold oAll at h
  split at h
  · obtain ⟨bs, hb, h⟩ := onO_of h
    obtain ⟨u, rfl, a⟩ := r.one
    obtain ⟨p, vs, rfl, sp, rp⟩ := a.lstI
    obtain rfl := rp.bls hb
    exact ⟨p, bs, rfl, SqL.of (l.lst sp), q _ _ F H m (StM.refl l mr) (.bl _) h⟩
  · exact h.elim⟩
def oTuple : OA
  | [.lst ds], m, k => k (.tup ds) m
  | [.lat _ ds], m, k => k (.tup ds) m
  | [.tup ds], m, k => k (.tup ds) m
  | [.ref p], m, k => onM (m p) fun ds => k (.tup ds) m
  | _, _, _ => False
theorem tuple_snd {F H : Hp} {m : Mem} {x : D} {u : V} {xs : List D} {k : KD} {Q : VK} (l : Le F H) (mr : MemR K mg F H m) (a : Rp K mg F u x) (hx : asL m x = some xs) (h : k (.tup xs) m)
    (q : ∀ w d F' H' m', StM K mg m F H F' H' m' → Rp K mg F' w d → k d m' → Q w H') : ∃ p ys, [u] = [.ref p] ∧ ((SqL K H p ys ∧ ∀ (l : Addr) (o : Obj), H l = none → o.dict = none → Q (.ref l) (upd H l (.frz o (.tup ys)))) ∨ (SqT K H p ys ∧ Q (.ref p) H)) := by
  obtain ⟨p, vs, rfl, sp, rp⟩ := a.asL l mr hx
  refine ⟨p, vs, rfl, .inl ⟨sp, fun n o hn ho => ?_⟩⟩
  have st := Step.new (F := F) (o := .frz o (.tup vs)) l hn
  exact q _ _ _ _ m (st.stm mr) (.tup (.inl ⟨o, upd_same, ho⟩) (rp.mono st.gr)) h
theorem jo_tuple : JOA X (.type "tuple") oTuple := ⟨_, call_tupleN, fun F H m xs us k l mr r h Q q => by
  unfold oTuple at h
  split at h
  · obtain ⟨u, rfl, a⟩ := r.one
    exact tuple_snd l mr a rfl h q
  · obtain ⟨u, rfl, a⟩ := r.one
    exact tuple_snd l mr a rfl h q
  · obtain ⟨u, rfl, a⟩ := r.one
    obtain ⟨p, vs, rfl, sp, rp⟩ := a.tupN
    exact ⟨p, vs, rfl, .inr ⟨l.sqt sp.sqt, q _ _ F H m (StM.refl l mr) (.tup sp rp) h⟩⟩
  · obtain ⟨u, rfl, a⟩ := r.one
    obtain ⟨ds, hm, h⟩ := onM_of h
    exact tuple_snd l mr a (by simp only [asL, hm]) h q
  · exact h.elim⟩
/-- list(x): a new list; frozen, or one that changes -/
def oList : OA
  | [.lst ds], m, k => k (.lst ds) m
  | [.lat _ ds], m, k => k (.lst ds) m
  | [.tup ds], m, k => k (.lst ds) m
  | [.pr ds], m, k => k (.lst ds) m
  | [.ref p], m, k => onM (m p) fun ds => k (.lst ds) m
  | _, _, _ => False
def oListO : OA
  | [.lst ds], m, k => ∀ p, m p = none → k (.ref p) (mset m p (.lst ds))
  | [.lat _ ds], m, k => ∀ p, m p = none → k (.ref p) (mset m p (.lst ds))
  | [.tup ds], m, k => ∀ p, m p = none → k (.ref p) (mset m p (.lst ds))
  | [.pr ds], m, k => ∀ p, m p = none → k (.ref p) (mset m p (.lst ds))
  | [.ref p], m, k => onM (m p) fun ds => ∀ p, m p = none → k (.ref p) (mset m p (.lst ds))
  | _, _, _ => False
def itemsOf (m : Mem) : D → Option (List D)
  | .tup ds => some ds
  | .pr ds => some ds
  | d => asL m d
theorem Rp.items {F H : Hp} {m : Mem} {x : D} {u : V} {xs : List D} (l : Le F H) (mr : MemR K mg F H m) (a : Rp K mg F u x) (hx : itemsOf m x = some xs) : ∃ p vs, u = .ref p ∧ (SqL K H p vs ∨ SqT K H p vs) ∧ RpL K mg F vs xs := by
  cases x with
  | tup ds =>
    cases hx
    obtain ⟨p, vs, rfl, sp, rp⟩ := a.tupI
    exact ⟨p, vs, rfl, .inr (l.sqt sp), rp⟩
  | pr ds =>
    cases hx
    obtain ⟨p, vs, rfl, sp, rp⟩ := a.prI
    exact ⟨p, vs, rfl, .inr (l.sqt (SqT.of sp)), rp⟩
  | _ =>
    obtain ⟨p, vs, rfl, sp, rp⟩ := a.asL l mr hx
    exact ⟨p, vs, rfl, .inl sp, rp⟩
end
end Ts
namespace Ts
open PySem PySem.Spec PyProof.Rows L2
/-! ### isinstance -/
inductive Ty where
  | non | bl | int | str | lst | tup | dic
def Ty.name : Ty → String
  | .non => "NoneType"
  | .bl => "bool"
  | .int => "int"
  | .str => "str"
  | .lst => "list"
  | .tup => "tuple"
  | .dic => "dict"
def Ty.is : Ty → Ty → Bool
  | .bl, .bl => true
  | .bl, .int => true
  | .int, .int => true
  | .str, .str => true
  | .lst, .lst => true
  | .tup, .tup => true
  | .dic, .dic => true
  | .non, .non => true
  | _, _ => false
theorem kit_ok (a b : Ty) (h : b.name ≠ "NoneType") : kitB a.name b.name = some (a.is b) := by
  cases b with
  | non => exact absurd rfl h
  | _ => cases a <;> decide +kernel
def tyM (m : Mem) : D → Option Ty
  | .non => some .non
  | .bl _ => some .bl
  | .int _ => some .int
  | .str _ => some .str
  | .lst _ => some .lst
  | .lat _ _ => some .lst
  | .tup _ => some .tup
  | .dic _ => some .dic
  | .dit _ => some .dic
  | .ref p => match m p with
    | some (.lst _) => some .lst
    | some (.dic _) => some .dic
    | some (.dit _) => some .dic
    | some (.lck _) => some .dic
    | _ => none
  | _ => none
section
variable {K : PySem.W.Frag} {mg : Str → Option Value} {X : Cx} {W : WX}
theorem tyX_of {F H : Hp} {m : Mem} {v : V} {d : D} {T : Ty} (l : Le F H) (mr : MemR K mg F H m) (r : Rp K mg F v d) (h : tyM m d = some T) (nd : ∀ kvs, d ≠ .dit kvs) : TyX K H v (.type T.name) := by
  cases r with
  | non => cases h; exact .base .non
  | bl b => cases h; exact .base (.bl b)
  | int i => cases h; exact .base (.int i)
  | str x => cases h; exact .base (.str x)
  | lst s r => cases h; exact .base (.lst (l.lst s))
  | tup s r =>
    cases h
    rcases l.sqt s.sqt with (z | ⟨o, z⟩) | ⟨o, its, n, z1, z2, _⟩
    · exact .base (.tup z)
    · exact .fTuple z
    · exact .kTuple z1 z2
  | lat s r =>
    cases h
    rcases l.sql s with (z | ⟨o, z⟩) | ⟨o, its, n, z1, z2, _⟩
    · exact .base (.lst z)
    · exact .base (.frz z)
    · exact .kList z1 z2
  | dic s r =>
    cases h
    exact .fDict (l.at s id)
  | dit s r => exact absurd rfl (nd _)
  | ref p =>
    cases hm : m p with
    | none => simp only [tyM, hm] at h; cases h
    | some o =>
      cases o with
      | lst ds => simp only [tyM, hm] at h; cases h; obtain ⟨_, xs, e, _⟩ := mr p _ hm; exact .base (.lst e)
      | dic ds => simp only [tyM, hm] at h; cases h; obtain ⟨_, xs, e, _⟩ := mr p _ hm; exact .base (.dK e)
      | dit ds => simp only [tyM, hm] at h; cases h; obtain ⟨_, xs, e, _⟩ := mr p _ hm; exact .base (.dT e)
      | lck ds => simp only [tyM, hm] at h; cases h; obtain ⟨_, o, xs, e, _⟩ := mr p _ hm; exact .fDict e
      | ins C ds => simp only [tyM, hm] at h; cases h
      | tab q => simp only [tyM, hm] at h; cases h
  | _ => cases h
def isDit : D → Bool
  | .dit _ => true
  | _ => false
/-- isinstance(x, T) -/
@[reducible] def vIsi (c : Ty) (a : VE) : VE := fun s m k x => a s m (fun d m' => isDit d = false ∧ onO (tyM m' d) fun t => k (.bl (t.is c)) m') x
theorem je_isi (c : Ty) (hn : c.name ≠ "NoneType") {a : Expr} {va : VE} {p p2 pos : Pos} {x : Str} (hx : bootBuiltins x = some (.type c.name)) (hg : Gl X "isinstance") (hm : X.mg "isinstance" = none) (hgx : Gl X x) (hmx : X.mg x = none) (ha : JE X W a va)
    (h1 : x ≠ "__name__" := by decide) (h2 : (x == ("__debug__" : Str)) = false := by decide) (he : starEach [a, .Name x p2] X.env = (false, eval a X.env) :: starEach [.Name x p2] X.env := by rfl) :
    JE X W (.Call (.Name "isinstance" p) [a, .Name x p2] [] pos) (vIsi c va) := by
  obtain ⟨ta, p1, s1⟩ := ha
  refine ⟨_, pe_callB call_isi hg hm (by decide +kernel) (pa_cons p1 (pa_cons (pe_bltn (v := .ty c.name) hgx hmx hx rfl h1 h2) pa_nil) he) (he := he), fun σ F H s m k x l en hv hx Q q => s1 σ F H s m _ x l en hv hx _ fun v d F1 H1 m1 t1 r1 k1 => ?_⟩
  obtain ⟨hd, k1⟩ := k1
  obtain ⟨t, ht, k1⟩ := onO_of k1
  · exact ⟨v, _, .type t.name, .type c.name, t.is c, rfl, .ty _, tyX_of t1.le t1.mr r1 ht (fun kvs z => by subst z; cases hd), kit_ty (kit_ok t c hn), q _ _ F1 H1 m1 t1 (.bl _) k1⟩
/-- isinstance(x, (T1, T2)) -/
@[reducible] def vIsi2 (c c' : Ty) (a : VE) : VE := fun s m k x => a s m (fun d m' => isDit d = false ∧ onO (tyM m' d) fun t => k (.bl (t.is c || t.is c')) m') x
theorem je_isi2 (c c' : Ty) (hn : c.name ≠ "NoneType") (hn' : c'.name ≠ "NoneType") {a : Expr} {va : VE} {p p2 p3 pos pt : Pos} {kt : Nat} {x y : Str} (hx : bootBuiltins x = some (.type c.name)) (hy : bootBuiltins y = some (.type c'.name)) (hg : Gl X "isinstance") (hm : X.mg "isinstance" = none) (hgx : Gl X x) (hmx : X.mg x = none) (hgy : Gl X y) (hmy : X.mg y = none) (ha : JE X W a va)
    (h1 : x ≠ "__name__" := by decide) (h2 : (x == ("__debug__" : Str)) = false := by decide) (h3 : y ≠ "__name__" := by decide) (h4 : (y == ("__debug__" : Str)) = false := by decide) (he : starEach [a, .Tuple [.Name x p2, .Name y p3] kt pt] X.env = (false, eval a X.env) :: starEach [.Tuple [.Name x p2, .Name y p3] kt pt] X.env := by rfl) :
    JE X W (.Call (.Name "isinstance" p) [a, .Tuple [.Name x p2, .Name y p3] kt pt] [] pos) (vIsi2 c c' va) := by
  obtain ⟨ta, p1, s1⟩ := ha
  refine ⟨_, pe_callB call_isiT hg hm (by decide +kernel) (pa_cons p1 (pa_cons (pe_tup (pa_cons (pe_bltn (v := .ty c.name) hgx hmx hx rfl h1 h2) (pa_cons (pe_bltn (v := .ty c'.name) hgy hmy hy rfl h3 h4) pa_nil))) pa_nil) he) (he := he), fun σ F H s m k x l en hv hx Q q => s1 σ F H s m _ x l en hv hx _ fun v d F1 H1 m1 t1 r1 k1 => ?_⟩
  obtain ⟨hd, k1⟩ := k1
  obtain ⟨t, ht, k1⟩ := onO_of k1
  · refine ⟨by show 2 ≤ sizeLine; decide, fun p hp => ?_⟩
    have st : Step F1 H1 F1 (upd H1 p (.tup [.ty c.name, .ty c'.name])) := Step.ext t1.le fun a o ha => by rw [upd_ne (ne_of_none ha hp)]; exact ha
    have kk : PySem.W.kitAny X.K (.type t.name) [.type c.name, .type c'.name] = some (t.is c || t.is c') := kitAny_cons (kit_ty (kit_ok t c hn)) (fun e => kitAny_cons (kit_ty (kit_ok t c' hn')) (fun e2 => by rw [e, e2]; exact kitAny_nil) fun e2 => by rw [e2, Bool.or_true]) fun e => by rw [e, Bool.true_or]
    exact ⟨v, p, _, .type t.name, [.type c.name, .type c'.name], _, rfl, upd_same, .cons (.ty _) (.cons (.ty _) .nil), tyX_of st.le (t1.mr.step st) r1 ht (fun kvs z => by subst z; cases hd), kk, q _ _ F1 _ m1 (t1.trans (st.stm t1.mr)) (.bl _) k1⟩
/-! ### methods of built-in types -/
abbrev OM := D → List D → Mem → KD → Prop
def SndM (K : PySem.W.Frag) (mg : Str → Option Value) (r : V → List V → Hp → VK → Prop) (o : OM) : Prop := ∀ (F H : Hp) (m : Mem) (x : D) (xs : List D) (u : V) (us : List V) (k : KD), Le F H → MemR K mg F H m → Rp K mg F u x → RpL K mg F us xs → o x xs m k → ∀ Q : VK,
  (∀ w d F' H' m', StM K mg m F H F' H' m' → Rp K mg F' w d → k d m' → Q w H') → r u us H Q
def JM (X : Cx) (id : String) (o : OM) : Prop := ∃ r, MtR X id r ∧ SndM X.K X.mg r o
/-- the value is of that built-in type -/
def isTy (m : Mem) (d : D) : String → Prop
  | "list" => match d with
    | .ref p => onM (m p) fun _ => True
    | .lst _ => True
    | _ => False
  | "str" => match d with
    | .str _ => True
    | _ => False
  | _ => False
theorem isTy_ok {F H : Hp} {m : Mem} {u : V} {d : D} {T : String} (l : Le F H) (mr : MemR K mg F H m) (r : Rp K mg F u d) (h : isTy m d T) : tyV K T u H := by
  unfold isTy at h
  split at h
  · cases d with
    | ref p =>
      obtain ⟨ds, hm, _⟩ := onM_of h
      obtain ⟨_, xs, e, _⟩ := mr p _ hm
      rw [r.refI]
      exact .inl ⟨rfl, xs, SqL.of e⟩
    | lst ds =>
      obtain ⟨a, xs, rfl, e, _⟩ := r.lstI
      exact .inl ⟨rfl, xs, SqL.of (l.lst e)⟩
    | _ => exact h.elim
  · cases d with
    | str z => rw [r.strI]; rfl
    | _ => exact h.elim
  · exact h.elim
@[reducible] def vBM (T : String) (o : OM) (a : VE) (r : VA) : VE := fun s m k x => a s m (fun d m1 => isTy m1 d T ∧ r s m1 (fun ds m2 => o d ds m2 k) x) x
@[reducible] def vBM0 (T : String) (o : OM) (a : VE) : VE := fun s m k x => a s m (fun d m1 => isTy m1 d T ∧ o d [] m1 k) x
theorem je_bm {o e : Expr} {es : List Expr} {vo : VE} {va : VA} {name : Str} {apos cpos : Pos} {T id : String} {om : OM} (pa : PlainAttrs T) (slot : Slot T name id) (hty : typeOf (.builtin id) = pure (.type "method_descriptor")) (hm : JM X id om) (ho : JE X W o vo) (ha : JA X W (e :: es) va)
    (hbase : attributeBase o name X.env (eval o X.env) = eval o X.env := by rfl)
    (hfew : ((backTo cpos (starEach (e :: es) X.env)).all (fun x => !x.1) && (backToKw cpos (keywordEach [] X.env)).all (fun x => x.1.isSome)
      && decide ((e :: es).length + ([] : List Keyword).length + (if ([] : List Keyword).isEmpty then 0 else 1) < 30)) = true := by rfl)
    (hline : (apos.endLine == cpos.line) = true := by rfl) (hs : starEach (e :: es) X.env = (false, eval e X.env) :: starEach es X.env := by rfl) (hplain : (backTo cpos (starEach es X.env)).any (·.1) = false := by rfl) :
    JE X W (.Call (.Attribute o name apos) (e :: es) [] cpos) (vBM T om vo va) := by
  obtain ⟨r, h0, h1⟩ := hm; obtain ⟨to, p1, s1⟩ := ho; obtain ⟨ta, p2, s2⟩ := ha
  exact ⟨_, pe_bm pa slot hty h0 p1 p2 hbase hfew hline hs hplain, fun σ F H s m k x l en hv hx Q q => s1 σ F H s m _ x l en hv hx _ fun u d F1 H1 m1 t1 r1 k1 => ⟨isTy_ok t1.le t1.mr r1 k1.1, s2 σ F1 H1 s m1 _ x t1.le (en.stm t1) k1.2 (hx.after t1) _ fun us ds F2 H2 m2 t2 r2 k2 =>
    h1 F2 H2 m2 d ds u us k t2.le t2.mr (r1.mono t2.gr) r2 k2 Q fun w d' F3 H3 m3 t3 r3 k3 => q w d' F3 H3 m3 ((t1.trans t2).trans t3) r3 k3⟩⟩
/-- the list of the memory that a value is -/
def onL (m : Mem) : D → (Addr → List D → Prop) → Prop
  | .ref p, k => onM (m p) fun ds => k p ds
  | _, _ => False
theorem onL_of {m : Mem} {d : D} {k : Addr → List D → Prop} (h : onL m d k) : ∃ p ds, d = .ref p ∧ m p = some (.lst ds) ∧ k p ds := by
  cases d with
  | ref p =>
    obtain ⟨ds, hm, h⟩ := onM_of h
    exact ⟨p, ds, rfl, hm, h⟩
  | _ => exact h.elim
def oAppend : OM := fun x vs m k => match vs with
  | [y] => onL m x fun p ds => ds.length < 1000000 ∧ k .non (mset m p (.lst (ds ++ [y])))
  | _ => False
theorem jm_append : JM X "list.append" oAppend := ⟨_, mt_append, fun F H m x xs u us k l mr r rs h Q q => by
  unfold oAppend at h
  split at h
  · rename_i y
    obtain ⟨p, ds, rfl, hm, hz, h⟩ := onL_of h
    obtain ⟨w, rfl, ra⟩ := rs.one
    obtain ⟨_, ys, e, rl⟩ := mr p _ hm
    exact ⟨p, ys, w, r.refI, rfl, e, by rw [rl.len]; exact Nat.lt_of_lt_of_le hz (by decide), q _ _ F _ _ (StM.put l mr hm rfl (u := .lst (ds ++ [y])) ⟨_, upd_same, rl.app (.cons ra .nil)⟩) .non h⟩
  · exact h.elim⟩
def oClear : OM := fun x vs m k => match vs with
  | [] => onL m x fun p _ => k .non (mset m p (.lst []))
  | _ => False
def oExtend : OM := fun x vs m k => match vs with
  | [.lst es] => onL m x fun p ds => ds.length + es.length ≤ 1000000 ∧ k .non (mset m p (.lst (ds ++ es)))
  | _ => False
def oInsert : OM := fun x vs m k => match vs with
  | [.int i, y] => onL m x fun p ds => ds.length < 1000000 ∧ 0 ≤ i ∧ i < 2 ^ 63 ∧ k .non (mset m p (.lst (ds.take i.toNat ++ [y] ++ ds.drop i.toNat)))
  | _ => False
theorem RpL.dropLast {F : Hp} : ∀ {vs : List V} {ds : List D}, RpL K mg F vs ds → RpL K mg F vs.dropLast ds.dropLast
  | _, _, .nil => .nil
  | _, _, .cons _ .nil => .nil
  | _, _, .cons r (.cons a s) => .cons r (RpL.dropLast (.cons a s))
theorem RpL.eraseIdx {F : Hp} : ∀ {vs : List V} {ds : List D} (i : Nat), RpL K mg F vs ds → RpL K mg F (vs.eraseIdx i) (ds.eraseIdx i)
  | _, _, _, .nil => .nil
  | _, _, 0, .cons _ s => s
  | _, _, i + 1, .cons r s => .cons r (RpL.eraseIdx i s)
def oPop : OM := fun x vs m k => match vs with
  | [] => onL m x fun p ds => ∃ y, ds[ds.length - 1]? = some y ∧ k y (mset m p (.lst ds.dropLast))
  | [.int i] => onL m x fun p ds => -(2 ^ 63) ≤ i ∧ i < 2 ^ 63 ∧ ∃ j y, seqIndex? i ds.length = some j ∧ ds[j]? = some y ∧ k y (mset m p (.lst (ds.eraseIdx j)))
  | _ => False
/-! ### xs[i] = e, del xs[i] -/
@[reducible] def vSetIx (o i a : VE) : VS := fun s m G => a s m (fun e m1 => o s m1 (fun d m2 => i s m2 (fun j m3 => onL m3 d fun p ds => match j with
  | .int n => onO (ixN ds.length n) fun t => G.nx s (mset m3 p (.lst (ds.set t e)))
  | _ => False) fun e m' => G.ex e s m') fun e m' => G.ex e s m') fun e m' => G.ex e s m'
theorem js_setIx {o i e : Expr} {vo vi ve : VE} {pos pos' : Pos} (he : JE X W e ve) (ho : JE X W o vo) (hi : JE X W i vi)
    (ha : ∀ v, assign (.Subscript o i pos') X.env v = (do
      let ov ← holding [v] (eval o X.env)
      let iv ← holding [v, ov] (eval i X.env)
      standAt pos'
      holding [v, ov, iv] (setItem ov iv v)
      release [v, ov, iv] []) := by intro _; rfl)
    (hs : swapsWithSole [.Subscript o i pos'] e pos.line X.env = pure false := by rfl) (hw : swappedStores [.Subscript o i pos'] e X.env = pure none := by rfl) (h1 : (assignEach [.Subscript o i pos'] X.env).map (·.2) = [assign (.Subscript o i pos') X.env] := by rfl) : JS X W (.Assign [.Subscript o i pos'] e pos) (vSetIx vo vi ve) := by
  obtain ⟨t, p1, s1⟩ := he; obtain ⟨to, p2, s2⟩ := ho; obtain ⟨ti, p3, s3⟩ := hi
  refine ⟨_, ps_asg p1 (pg_sub p2 p3 set_list ha) hs hw h1, fun σ F H s m G l en h E L => s1 σ F H s m _ _ l en h (L.x en) _ fun v d F1 H1 m1 t1 r1 k1 => s2 σ F1 H1 s m1 _ _ t1.le (en.stm t1) k1 ((L.x en).after t1) _ fun w d' F2 H2 m2 t2 r2 k2 =>
    s3 σ F2 H2 s m2 _ _ t2.le ((en.stm t1).stm t2) k2 (((L.x en).after t1).after t2) _ fun y j F3 H3 m3 t3 r3 k3 => ?_⟩
  obtain ⟨p, ds, rfl, hm, k3⟩ := onL_of k3
  cases j with
  | int n =>
    obtain ⟨t, hn, k3⟩ := onO_of k3
    · obtain ⟨_, ys, e', rl⟩ := t3.mr p _ hm
      have st := (t1.trans t2).trans t3
      have sp := StM.put (o := .lst (ys.set t v)) t3.le t3.mr hm rfl (u := .lst (ds.set t d)) ⟨_, upd_same, rl.set (r1.mono (t2.gr.trans t3.gr)) t⟩
      exact ⟨p, ys, n, t, r2.refI, r3.intI, e', by rw [rl.len]; exact hn, L.nx σ s F3 _ _ (st.trans sp) (en.stm (st.trans sp)) k3⟩
  | _ => exact k3.elim
@[reducible] def vDelIx (o i : VE) : VS := fun s m G => o s m (fun d m1 => i s m1 (fun j m2 => onL m2 d fun p ds => match j with
  | .int n => -(2 ^ 63) ≤ n ∧ n < 2 ^ 63 ∧ ∃ t, seqIndex? n ds.length = some t ∧ G.nx s (mset m2 p (.lst (ds.eraseIdx t)))
  | _ => False) fun e m' => G.ex e s m') fun e m' => G.ex e s m'
/-! ### unpacking a list -/
def gUl (n : Nat) (r : VGs) : VG
  | .lst ds, s, k => ds.length = n ∧ r ds s k
  | .lat _ ds, s, k => ds.length = n ∧ r ds s k
  | _, _, _ => False
end
/-! ### the law's own end -/
abbrev endLaw : DE := { nx := fun _ _ => False, rt := fun d _ => d = .bl true }
section
variable {P : Program} {w : World} {K : PySem.W.Frag} {mg : Str → Option Value} {base : Heap} {x qual : Str} {params : Arguments} {body : List Stmt} {scope : Scope} {dvs : List V} {kws : List (Str × V)} {f : Addr} {fd : FuncData}
end
end Ts
namespace Ts
open PySem PySem.Spec PyProof.Rows L2
section
variable {K : PySem.W.Frag} {mg : Str → Option Value} {X : Cx} {W : WX}
@[reducible] def vPar3 (i j l : Nat) (a : VA) : VS := fun s m G => a s m (fun ds m' => match ds with
  | [d, e, f] => G.nx (((s.set i (some d)).set j (some e)).set l (some f)) m'
  | _ => False) fun e m' => G.ex e s m'
/-! constants of the module -/
theorem je_gstr {x z : Str} {pos : Pos} (hg : Gl X x) (h : ∃ t, X.mg x = some (.str z t)) (hd : (x == ("__debug__" : Str)) = false := by decide) : JE X W (.Name x pos) (vC (.str z)) := by
  obtain ⟨t, e⟩ := h
  exact je_c (pe_glob (v := .str z) hg e ⟨t, rfl⟩ hd) fun _ => .str z
theorem je_gint {x : Str} {i : Int} {pos : Pos} (hg : Gl X x) (h : ∃ t, X.mg x = some (.int i t)) (hd : (x == ("__debug__" : Str)) = false := by decide) : JE X W (.Name x pos) (vC (.int i)) := by
  obtain ⟨t, e⟩ := h
  exact je_c (pe_glob (v := .int i) hg e ⟨t, rfl⟩ hd) fun _ => .int i
/-! x op= e -/
def oIadd : O2
  | .int i, .int j, m, k => k (.int (i + j)) m
  | .str a, .str b, m, k => a.length + b.length ≤ 1000000 ∧ k (.str (a ++ b)) m
  | _, _, _, _ => False
end
theorem atI_0 {α : Type} {a : α} {l : List α} : atI (a :: l) 0 = some a := atI_nat (j := 0) rfl
theorem atI_1 {α : Type} {a b : α} {l : List α} : atI (a :: b :: l) 1 = some b := atI_nat (j := 1) rfl
theorem atI_2 {α : Type} {a b c : α} {l : List α} : atI (a :: b :: c :: l) 2 = some c := atI_nat (j := 2) rfl
theorem atI_3 {α : Type} {a b c d : α} {l : List α} : atI (a :: b :: c :: d :: l) 3 = some d := atI_nat (j := 3) rfl
theorem ixN_k {n j : Nat} (hj : j < n) : ixN n (j : Int) = some j := by
  unfold ixN
  rw [if_pos (Int.natCast_nonneg j), if_pos (Int.ofNat_lt.mpr hj), Int.toNat_natCast]
theorem ixN_0 {n : Nat} : ixN (n + 1) 0 = some 0 := ixN_k (j := 0) (by omega)
theorem ixN_1 {n : Nat} : ixN (n + 2) 1 = some 1 := ixN_k (j := 1) (by omega)
theorem ixN_2 {n : Nat} : ixN (n + 3) 2 = some 2 := ixN_k (j := 2) (by omega)
theorem ixN_3 {n : Nat} : ixN (n + 4) 3 = some 3 := ixN_k (j := 3) (by omega)
theorem mset_twice {m : Mem} {a : Addr} {x y : MO} : mset (mset m a x) a y = mset m a y := by
  funext b
  by_cases h : b = a
  · subst h; rw [mset_same, mset_same]
  · rw [mset_ne h, mset_ne h, mset_ne h]
theorem atI_of {α : Type} {xs : List α} {z : Int} {j : Nat} {v : α} (e : z = (j : Int)) (h : xs[j]? = some v) : atI xs z = some v := by
  subst e
  exact atI_nat h
theorem itP {p : Prop} [Decidable p] {A B : Prop} (h1 : p → A) (h2 : ¬ p → B) : if p then A else B := by
  by_cases h : p
  · rw [if_pos h]; exact h1 h
  · rw [if_neg h]; exact h2 h
theorem cmul_r {i j : Int} (h1 : -(2 ^ 64) < j) (h2 : j < 2 ^ 64) : MulOk i j := .inl (.inr ⟨h1, h2⟩)
theorem cmul_l {i j : Int} (h1 : -(2 ^ 64) < i) (h2 : i < 2 ^ 64) : MulOk i j := .inl (.inl ⟨h1, h2⟩)
theorem fmod_nn {a b : Int} (hb : 0 < b) : 0 ≤ a.fmod b ∧ a.fmod b < b := by
  rw [Int.fmod_eq_emod_of_nonneg a (Int.le_of_lt hb)]
  exact ⟨Int.emod_nonneg _ (by omega), Int.emod_lt_of_pos _ hb⟩
theorem cmul_fm {c p j : Int} (h0 : 0 < p) (h : p ≤ 2 ^ 64) : MulOk (c.fmod p) j := cmul_l (Int.lt_of_lt_of_le (by decide) (fmod_nn h0).1) (Int.lt_of_lt_of_le (fmod_nn h0).2 h)
theorem div_sm {j : Int} (h0 : j ≠ 0) (h : j.natAbs < 2 ^ 64) : DivOk j := ⟨h0, Nat.lt_trans (PySem.Flt.log2_lt_of (by decide) h) (by decide)⟩
theorem log2_lt {n k : Nat} (h : n < 2 ^ k) (hk : 0 < k) : n.log2 < k := PySem.Flt.log2_lt_of hk h
theorem div_ok {j : Int} (h0 : j ≠ 0) (h : j.natAbs < 2 ^ 9000) : DivOk j := ⟨h0, log2_lt h (by decide)⟩
/-! ### loops by induction over what is walked -/
/-- .. over a list of things of a kind -/
theorem forV_map {α : Type} {f : α → D} {b : D → VS} {G : DE} (I : List α → SL → Mem → Prop) (h0 : ∀ s m, I [] s m → G.nx s m)
    (hs : ∀ a as s m, I (a :: as) s m → (∀ s' m', I as s' m' → forV b (as.map f) s' m' G) → b (f a) s m { G with nx := fun s' m' => forV b (as.map f) s' m' G, ct := fun s' m' => forV b (as.map f) s' m' G, bk := G.nx }) :
    ∀ {as : List α} {s : SL} {m : Mem}, I as s m → forV b (as.map f) s m G
  | [], s, m, h => h0 s m h
  | a :: as, s, m, h => hs a as s m h fun s' m' h' => forV_map I h0 hs h'
/-! ### comprehensions by induction -/
/-- .. with the step as it stands: what remains is at hand as a hypothesis -/
theorem lcV_map {α : Type} {f : α → D} {g : VG} {t : VT} {e : VE} {s : SL} {k : List D → Mem → Prop} (I : List α → List D → Mem → Prop) (h0 : ∀ acc m, I [] acc m → k acc m)
    (hs : ∀ a as acc m, I (a :: as) acc m → (∀ acc' m', I as acc' m' → lcV g t e s (as.map f) acc' m' k) → g (f a) s fun s1 => t s1 m (fun b m1 => if b = true then e s1 m1 (fun y m2 => lcV g t e s (as.map f) (acc ++ [y]) m2 k) nox else lcV g t e s (as.map f) acc m1 k) nox) :
    ∀ {as : List α} {acc : List D} {m : Mem}, I as acc m → lcV g t e s (as.map f) acc m k
  | [], acc, m, h => h0 acc m h
  | a :: as, acc, m, h => hs a as acc m h fun acc' m' h' => lcV_map I h0 hs h'
end Ts
/-! Ts: sets of texts, as far as len(sorted(set(texts))) goes -/
namespace Ts
open PySem PySem.Spec PyProof.Rows L2
/-- at a: a set that holds the texts l -/
structure TxS (P : Program) (w : World) (h : Heap) (a : Addr) (l : List Str) : Prop where
  ex : ∃ D : Froz.SD, h.get? a = some (Froz.sObj "set" D) ∧ Froz.TxOk P w D l ∧ L2.Ris D.2.2.place.toList ∧ (w.params.followText "set-order" = true ∨ D.2.2.led = true)
  nd : l.Nodup
section
variable {P : Program} {w : World} {A : Around} {E : Value → Shared → Prop} {s : Shared} {a : Addr} {l : List Str} {k : Str} {u : Tok}
theorem TxS.at {h h' : Heap} (T : TxS P w h a l) (g : ∀ o, h.get? a = some o → h'.get? a = some o) : TxS P w h' a l := by
  obtain ⟨⟨D, e, r⟩, nd⟩ := T
  exact ⟨⟨D, g _ e, r⟩, nd⟩
/-- the texts with one more -/
def more (l : List Str) (k : Str) : List Str := if k ∈ l then l else k :: l
end
/-! ### as rules -/
section
variable {X : Cx}
end
end Ts
namespace Ts
open PySem PySem.Spec PyProof.Rows L2
/-! ### texts -/
abbrev S (l : List Nat) : Str := SX.S l
theorem S_len (l : List Nat) : (S l).length = l.length := SX.S_len l
theorem S_app (a b : List Nat) : S a ++ S b = S (a ++ b) := str_ext (by
  show ((S a).cps ++ (S b).cps).toList = _
  simp)
theorem S_inj {a b : List Nat} (h : S a = S b) : a = b := by
  have := congrArg (fun z : Str => z.cps.toList) h
  simpa using this
theorem S_of (z : Str) : ∃ l, z = S l := ⟨z.cps.toList, by obtain ⟨⟨l⟩⟩ := z; rfl⟩
theorem cutS_S (l : List Nat) (lo hi : Option Int) : cutS (S l) lo hi = S (cutD l lo hi) := by
  unfold cutS cutD
  rw [S_len]
theorem repS_S (l : List Nat) (n : Nat) : repS (S l) n = S (List.replicate n l).flatten := rfl
theorem S1 (c : Nat) : (⟨#[c]⟩ : Str) = S [c] := rfl
/-- a text in a text -/
def inS (i j : Str) : Bool := !(Builtin.Str.occurrences j i 0 j.length 1).isEmpty
theorem inS_one (c : Nat) (a : List Nat) : inS (S [c]) (S a) = decide (c ∈ a) := SX.in_one a c
/-- flat data -/
def flD : D → Option V
  | .non => some .non
  | .bl b => some (.bl b)
  | .int i => some (.int i)
  | .str z => some (.str z)
  | _ => none
def flDs : List D → Option (List V)
  | [] => some []
  | d :: ds => match flD d, flDs ds with
    | some v, some vs => some (v :: vs)
    | _, _ => none
def strD : D → Option Str
  | .str z => some z
  | _ => none
def strDs : List D → Option (List Str)
  | [] => some []
  | d :: ds => match strD d, strDs ds with
    | some v, some vs => some (v :: vs)
    | _, _ => none
def intDs : List D → Option (List Int)
  | [] => some []
  | .int i :: ds => (intDs ds).map (i :: ·)
  | _ :: _ => none
theorem strDs_map : ∀ xs : List Str, strDs (xs.map D.str) = some xs
  | [] => rfl
  | x :: xs => by simp only [List.map_cons, strDs, strD, strDs_map xs]
theorem intDs_map : ∀ xs : List Int, intDs (xs.map D.int) = some xs
  | [] => rfl
  | x :: xs => by simp only [List.map_cons, intDs, intDs_map xs, Option.map_some]
theorem flDs_str : ∀ xs : List Str, flDs (xs.map D.str) = some (xs.map V.str)
  | [] => rfl
  | x :: xs => by simp only [List.map_cons, flDs, flD, flDs_str xs]
theorem flDs_int : ∀ xs : List Int, flDs (xs.map D.int) = some (xs.map V.int)
  | [] => rfl
  | x :: xs => by simp only [List.map_cons, flDs, flD, flDs_int xs]
theorem inV_str (x : Str) (xs : List Str) : inV (.str x) (xs.map V.str) = decide (x ∈ xs) := by
  unfold inV
  induction xs with
  | nil => simp
  | cons y ys ih =>
    rw [List.map_cons, List.any_cons, ih]
    simp only [eqV]
    by_cases h : y = x
    · subst h; simp
    · have : (y == x) = false := by simpa using h
      rw [this]
      simp [List.mem_cons, Ne.symm h]
section
variable {K : PySem.W.Frag} {mg : Str → Option Value} {X : Cx} {W : WX} {F H : Hp}
theorem flD_ok {d : D} {v u : V} (h : flD d = some v) (r : Rp K mg F u d) : u = v ∧ flatV v = true := by
  unfold flD at h
  split at h
  · cases h; exact ⟨r.nonI, rfl⟩
  · cases h; exact ⟨r.blI, rfl⟩
  · cases h; exact ⟨r.intI, rfl⟩
  · cases h; exact ⟨r.strI, rfl⟩
  · cases h
theorem flDs_ok : ∀ {ds : List D} {vs us : List V}, flDs ds = some vs → RpL K mg F us ds → us = vs ∧ vs.all flatV = true
  | [], vs, us, h, r => by simp only [flDs] at h; cases h; cases r; exact ⟨rfl, rfl⟩
  | d :: ds, vs, us, h, r => by
    simp only [flDs] at h
    split at h
    · rename_i v vs' h1 h2
      cases h
      cases r with
      | cons ra rb =>
        obtain ⟨rfl, f1⟩ := flD_ok h1 ra
        obtain ⟨rfl, f2⟩ := flDs_ok h2 rb
        exact ⟨rfl, by rw [List.all_cons, f1, f2]; rfl⟩
    · cases h
/-! in -/
def oInS : O2
  | .str i, .str j, m, k => k (.bl (inS i j)) m
  | _, _, _, _ => False
def oNotInS : O2
  | .str i, .str j, m, k => k (.bl (!inS i j)) m
  | _, _, _, _ => False
theorem jo_inS : JO2 X (compareOp .In) oInS := ⟨_, op_in_str, fun F H m x y u v k l mr a b h Q q => by
  unfold oInS at h
  split at h
  · exact ⟨_, _, a.strI, b.strI, q _ _ F H m (StM.refl l mr) (.bl _) h⟩
  · exact h.elim⟩
/-- in a list or a tuple of flat things -/
def oInL : O2 := fun x y m k => onO (flD x) fun v => onO (itemsOf m y) fun ds => onO (flDs ds) fun vs => k (.bl (inV v vs)) m
def oNotInL : O2 := fun x y m k => onO (flD x) fun v => onO (itemsOf m y) fun ds => onO (flDs ds) fun vs => k (.bl (!inV v vs)) m
theorem inl_snd {m : Mem} {x y : D} {u v : V} {w : V} {ds : List D} {vs : List V} (l : Le F H) (mr : MemR K mg F H m) (a : Rp K mg F u x) (b : Rp K mg F v y) (h1 : flD x = some w) (h2 : itemsOf m y = some ds) (h3 : flDs ds = some vs) :
    u = w ∧ flatV w = true ∧ ∃ p, v = .ref p ∧ (SqL K H p vs ∨ SqT K H p vs) ∧ vs.all flatV = true := by
  obtain ⟨rfl, f1⟩ := flD_ok h1 a
  obtain ⟨p, us, rfl, sp, rp⟩ := b.items l mr h2
  obtain ⟨rfl, f2⟩ := flDs_ok h3 rp
  exact ⟨rfl, f1, p, rfl, sp, f2⟩
theorem jo_inL : JO2 X (compareOp .In) oInL := ⟨_, op_in_seq, fun F H m x y u v k l mr a b h Q q => by
  obtain ⟨w, h1, h⟩ := onO_of h
  obtain ⟨ds, h2, h⟩ := onO_of h
  obtain ⟨vs, h3, h⟩ := onO_of h
  obtain ⟨rfl, f1, p, rfl, sp, f2⟩ := inl_snd l mr a b h1 h2 h3
  exact ⟨p, vs, rfl, sp, f1, f2, q _ _ F H m (StM.refl l mr) (.bl _) h⟩⟩
theorem jo_notinL : JO2 X (compareOp .NotIn) oNotInL := ⟨_, op_notIn_seq, fun F H m x y u v k l mr a b h Q q => by
  obtain ⟨w, h1, h⟩ := onO_of h
  obtain ⟨ds, h2, h⟩ := onO_of h
  obtain ⟨vs, h3, h⟩ := onO_of h
  obtain ⟨rfl, f1, p, rfl, sp, f2⟩ := inl_snd l mr a b h1 h2 h3
  exact ⟨p, vs, rfl, sp, f1, f2, q _ _ F H m (StM.refl l mr) (.bl _) h⟩⟩
/-! sep.join(texts) -/
def onS : D → (Str → Prop) → Prop
  | .str z, k => k z
  | _, _ => False
theorem onS_of {d : D} {k : Str → Prop} (h : onS d k) : ∃ z, d = .str z ∧ k z := by
  unfold onS at h
  split at h
  · exact ⟨_, rfl, h⟩
  · exact h.elim
def oJoin (sep : Str) (d : D) (m : Mem) (k : KD) : Prop := onO (itemsOf m d) fun ds => onO (strDs ds) fun ys => (ys.map (·.length)).sum + ys.length * sep.length ≤ 1000000 ∧ k (.str (Txt.join sep ys)) m
@[reducible] def vJoin (a b : VE) : VE := fun s m k x => a s m (fun d m1 => onS d fun sep => b s m1 (fun e m2 => oJoin sep e m2 k) x) x
/-! sorted(texts), sorted(ints) -/
def oSortS : OA := fun ds m k => match ds with
  | [d] => onO (asL m d) fun ds => onO (strDs ds) fun xs => xs.length < 64 ∧ ∀ ys : List Str, ys.Perm xs → sortedS ys = true → k (.lst (ys.map D.str)) m
  | _ => False
def oSortI : OA := fun ds m k => match ds with
  | [d] => onO (asL m d) fun ds => onO (intDs ds) fun xs => ∀ ys : List Int, ys.Perm xs → ys.Pairwise (· ≤ ·) → k (.lst (ys.map D.int)) m
  | _ => False
/-! len(sorted(set(texts))) -/
/-- a reading, made monotone -/
def clo (t : TE) : TE := fun σ H Q => ∃ Q0 : VK, t σ H Q0 ∧ ∀ v H', Q0 v H' → Q v H'
@[reducible] def vLs (a : VE) : VE := fun s m k x => a s m (fun d m1 => onO (asL m1 d) fun ds => onO (strDs ds) fun xs => xs.length < 64 ∧ ∀ ns : List Str, ns.Nodup → (∀ z, z ∈ ns ↔ z ∈ xs) → k (.int (ns.length : Int)) m1) x
end
theorem its_tup {m : Mem} {ds : List D} : itemsOf m (.tup ds) = some ds := rfl
theorem its_pr {m : Mem} {ds : List D} : itemsOf m (.pr ds) = some ds := rfl
theorem its_lst {m : Mem} {ds : List D} : itemsOf m (.lst ds) = some ds := rfl
theorem its_lat {m : Mem} {a : Addr} {ds : List D} : itemsOf m (.lat a ds) = some ds := rfl
theorem asL_lst {m : Mem} {ds : List D} : asL m (.lst ds) = some ds := rfl
theorem asL_lat {m : Mem} {a : Addr} {ds : List D} : asL m (.lat a ds) = some ds := rfl
def lstO : Option MO → Option (List D)
  | some (.lst ds) => some ds
  | _ => none
theorem lstO_l {ds : List D} : lstO (some (.lst ds)) = some ds := rfl
theorem asL_rf {m : Mem} {p : Addr} : asL m (.ref p) = lstO (m p) := by
  unfold asL lstO
  rfl
theorem its_rf {m : Mem} {p : Addr} : itemsOf m (.ref p) = lstO (m p) := asL_rf
theorem MLe.fresh {m : Mem} {p : Addr} {o : MO} (h : m p = none) : MLe m (mset m p o) := fun a u e => by rw [mset_ne (fun z => by rw [z, h] at e; cases e)]; exact e
/-! ### comprehensions: what each item may come to -/
inductive Al2 {α β : Type} (R : α → β → Prop) : List α → List β → Prop
  | nil : Al2 R [] []
  | cons {a : α} {b : β} {as : List α} {bs : List β} : R a b → Al2 R as bs → Al2 R (a :: as) (b :: bs)
theorem Al2.len {α β : Type} {R : α → β → Prop} {as : List α} {bs : List β} (h : Al2 R as bs) : bs.length = as.length := by
  induction h with
  | nil => rfl
  | cons _ _ ih => simp [ih]
theorem Al2.mem {α β : Type} {R : α → β → Prop} {as : List α} {bs : List β} (h : Al2 R as bs) : ∀ b ∈ bs, ∃ a ∈ as, R a b := by
  induction h with
  | nil => intro b hb; cases hb
  | cons r _ ih =>
    intro b hb
    rcases List.mem_cons.mp hb with rfl | hb
    · exact ⟨_, List.mem_cons_self, r⟩
    · obtain ⟨a, ha, hr⟩ := ih b hb
      exact ⟨a, List.mem_cons_of_mem _ ha, hr⟩
/-- .. to what is told -/
theorem lc_map {α : Type} {f h : α → D} {g : VG} {t : VT} {e : VE} {s : SL} {m : Mem} {k : List D → Mem → Prop} :
    ∀ (as : List α) (acc : List D), (∀ a ∈ as, ∀ (k' : KD) (kn : Mem → Prop), k' (h a) m → g (f a) s fun s1 => t s1 m (fun b m1 => if b = true then e s1 m1 k' nox else kn m1) nox) →
    k (acc ++ as.map h) m → lcV g t e s (as.map f) acc m k
  | [], acc, _, hk => by rw [List.map_nil, List.append_nil] at hk; exact hk
  | a :: as, acc, hs, hk => hs a List.mem_cons_self _ _ (lc_map as (acc ++ [h a]) (fun b hb => hs b (List.mem_cons_of_mem _ hb)) (by rw [List.append_assoc]; exact hk))
theorem frz_l {ds : List D} {k : D → Prop} : (MO.lst ds).onF k = k (.lst ds) := rfl
end Ts
namespace Ts
open PySem PySem.Spec PyProof.Rows L2
/-! ### str(x), f-strings -/
/-- an int as a text -/
def intS (i : Int) : Str := Str.ofString (toString i)
def oStr : OA
  | [.int i], m, k => i.natAbs.log2 < 1920 ∧ k (.str (intS i)) m
  | [.str z], m, k => k (.str z) m
  | _, _, _ => False
section
variable {K : PySem.W.Frag} {mg : Str → Option Value} {X : Cx} {W : WX} {F H : Hp}
def oFmt : D → (Str → Prop) → Prop
  | .str y, k => y.length ≤ 1000000 ∧ k y
  | .int i, k => i.natAbs.log2 < 1920 ∧ k (intS i)
  | _, _ => False
@[reducible] def vFmt (a : VE) : VE := fun s m k x => a s m (fun d m1 => oFmt d fun z => k (.str z) m1) x
/-- the parts one behind the other -/
def vJs : List VE → Str → SL → Mem → (Str → Mem → Prop) → KX → Prop
  | [], acc, _, m, k, _ => k acc m
  | v :: vs, acc, s, m, k, x => v s m (fun d m1 => onS d fun y => (acc ++ y).length ≤ 1000000 ∧ vJs vs (acc ++ y) s m1 k x) x
inductive JJ (X : Cx) (W : WX) : List Expr → List VE → Prop
  | nil : JJ X W [] []
  | cons {e : Expr} {v : VE} {es : List Expr} {vs : List VE} : JE X W e v → JJ X W es vs → JJ X W (e :: es) (v :: vs)
theorem JJ.run {es : List Expr} {vs : List VE} (h : JJ X W es vs) : ∃ ts, PJ X es ts ∧ ∀ (acc : Str) (σ : L2.St) (F H : Hp) (s : SL) (m : Mem) (k : Str → Mem → Prop) (x : KX), Le F H → EnvR X.K X.mg F H σ s m → vJs vs acc s m k x → XOk X.K X.mg W σ F H m x → ∀ Q : Str → Hp → Prop,
    (∀ z F' H' m', StM X.K X.mg m F H F' H' m' → k z m' → Q z H') → tJs ts acc σ H Q := by
  induction h with
  | nil => exact ⟨[], .nil, fun acc σ F H s m k x l en hv hx Q q => q acc F H m (StM.refl l en.mem) hv⟩
  | cons he _ ih =>
    obtain ⟨t, p, s1⟩ := he
    obtain ⟨ts, ps, r⟩ := ih
    refine ⟨t :: ts, .cons p ps, fun acc σ F H s m k x l en hv hx Q q => s1 σ F H s m _ x l en hv hx _ fun v d F1 H1 m1 t1 r1 k1 => ?_⟩
    obtain ⟨y, rfl, hz, k1⟩ := onS_of k1
    exact ⟨y, r1.strI, Nat.le_trans hz (by decide), r _ σ F1 H1 s m1 k x t1.le (en.stm t1) k1 (hx.after t1) Q fun z F' H' m' st hk => q z F' H' m' (t1.trans st) hk⟩
@[reducible] def vJoined (vs : List VE) : VE := fun s m k x => vJs vs (S []) s m (fun z m1 => k (.str z) m1) x
/-! ### tuples of the module -/
/-! ### dicts -/
def keyD : D → Option Key
  | .int i => some (.inl i)
  | .str z => some (.inr z)
  | _ => none
/-- the pairs of a dict, frozen or in the memory -/
def dicO : Option MO → Option (List (Key × D))
  | some (.dic ds) => some ds
  | _ => none
def asK (m : Mem) : D → Option (List (Key × D))
  | .dic ds => some ds
  | .ref p => dicO (m p)
  | _ => none
/-- what stands under a key -/
def valD {κ α : Type} [DecidableEq κ] (kvs : List (κ × α)) (k : κ) : Option α := (kvs.find? fun kv => decide (kv.1 = k)).map (·.2)
theorem RpK.val {κ : Type} [DecidableEq κ] {c : κ} : ∀ {xs : List (κ × V)} {ds : List (κ × D)} {d : D}, RpK K mg F xs ds → valD ds c = some d → ∃ v, valV xs c = some v ∧ Rp K mg F v d
  | _, _, d, .nil, h => by cases h
  | _, _, d, .cons (k := k') (ds := ds) r s, h => by
    by_cases e : k' = c
    · subst e
      simp [valD] at h
      subst h
      exact ⟨_, valV_pos rfl, r⟩
    · have h2 : valD ds c = some d := by simpa [valD, List.find?_cons, e] using h
      obtain ⟨v, h3, h4⟩ := RpK.val s h2
      exact ⟨v, by rw [valV_neg e]; exact h3, h4⟩
theorem RpK.valN {κ : Type} [DecidableEq κ] {c : κ} : ∀ {xs : List (κ × V)} {ds : List (κ × D)}, RpK K mg F xs ds → valD ds c = none → valV xs c = none
  | _, _, .nil, h => rfl
  | _, _, .cons (k := k') r s, h => by
    by_cases e : k' = c
    · subst e
      simp [valD] at h
    · rw [valV_neg e]
      exact RpK.valN s (by simpa [valD, List.find?_cons, e] using h)
def oDGet : O2 := fun x y m k => onO (asK m x) fun kvs => onO (keyD y) fun c => onO (valD kvs c) fun d => k d m
@[reducible] def vDGet (a b : VE) : VE := vOp oDGet a b
/-! dict(d), dict(list of pairs): a new dict, frozen -/
theorem RpK.any {κ : Type} [DecidableEq κ] {c : κ} {xs : List (κ × V)} {ds : List (κ × D)} (r : RpK K mg F xs ds) : (xs.any fun kv => decide (kv.1 = c)) = (ds.any fun kv => decide (kv.1 = c)) := by
  have h := r.keys
  have e1 : (xs.any fun kv => decide (kv.1 = c)) = ((xs.map (·.1)).any fun z => decide (z = c)) := by rw [List.any_map]; rfl
  have e2 : (ds.any fun kv => decide (kv.1 = c)) = ((ds.map (·.1)).any fun z => decide (z = c)) := by rw [List.any_map]; rfl
  rw [e1, e2, h]
/-- a pair put in its place, or at the end -/
def putD {κ α : Type} [DecidableEq κ] (kvs : List (κ × α)) (k : κ) (v : α) : List (κ × α) :=
  if (kvs.any fun kv => decide (kv.1 = k)) = true then kvs.map (fun kv => if kv.1 = k then (kv.1, v) else kv) else kvs ++ [(k, v)]
theorem RpK.mapPut {κ : Type} [DecidableEq κ] {c : κ} {u : V} {d : D} (ru : Rp K mg F u d) : ∀ {xs : List (κ × V)} {ds : List (κ × D)}, RpK K mg F xs ds → RpK K mg F (xs.map fun kv => if kv.1 = c then (kv.1, u) else kv) (ds.map fun kv => if kv.1 = c then (kv.1, d) else kv)
  | _, _, .nil => .nil
  | _, _, .cons (k := k') r s => by
    rw [List.map_cons, List.map_cons]
    by_cases e : k' = c
    · rw [if_pos (show (k', _).1 = c from e), if_pos (show (k', _).1 = c from e)]
      exact .cons ru (RpK.mapPut ru s)
    · rw [if_neg (show ¬ (k', _).1 = c from e), if_neg (show ¬ (k', _).1 = c from e)]
      exact .cons r (RpK.mapPut ru s)
theorem RpK.app {κ : Type} : ∀ {xs ys : List (κ × V)} {ds es : List (κ × D)}, RpK K mg F xs ds → RpK K mg F ys es → RpK K mg F (xs ++ ys) (ds ++ es)
  | _, _, _, _, .nil, h => h
  | _, _, _, _, .cons r s, h => .cons r (RpK.app s h)
theorem RpK.put {κ : Type} [DecidableEq κ] {c : κ} {u : V} {d : D} {xs : List (κ × V)} {ds : List (κ × D)} (r : RpK K mg F xs ds) (ru : Rp K mg F u d) : RpK K mg F (putK xs c u) (putD ds c d) := by
  unfold putK putD
  rw [r.any]
  split
  · exact RpK.mapPut ru r
  · exact r.app (.cons ru .nil)
def mergeD (kvs more : List (Key × D)) : List (Key × D) := more.foldl (fun acc kv => putD acc kv.1 kv.2) kvs
end
end Ts
namespace Ts
open PySem PySem.Spec PyProof.Rows L2
/-! ### the head: facts, defs, tables of the module -/
abbrev Tb : Type := PySem.W.Frag → Bool
abbrev AlB : Type := He.AlD × Bool
def obsB (fa : List He.Fa) (fn : List He.DefD) (tb : List Tb) (K : PySem.W.Frag) : AlB := (He.obsD fa fn K, tb.all fun t => t K)
def SaysB (fa : List He.Fa) (fn : List He.DefD) (tb : List Tb) (K : PySem.W.Frag) : Prop := obsB fa fn tb K = (He.valD fn, true)
section
variable {fa : List He.Fa} {fn : List He.DefD} {tb : List Tb} {K : PySem.W.Frag}
theorem SaysB.d (c : SaysB fa fn tb K) : He.SaysD fa fn K := congrArg (fun z : AlB => z.1) c
theorem SaysB.tab (c : SaysB fa fn tb K) (i : Nat) {t : Tb} (h : tb[i]? = some t) : t K = true :=
  List.all_eq_true.mp (show (tb.all fun t => t K) = true from congrArg (fun z : AlB => z.2) c) t (List.mem_of_getElem? h)
end
/-! ### is True, is False -/
section
variable {X : Cx}
def oIsB : O2
  | .bl a, .bl b, m, k => k (.bl (decide (a = b))) m
  | _, _, _, _ => False
def oIsNotB : O2
  | .bl a, .bl b, m, k => k (.bl (!decide (a = b))) m
  | _, _, _, _ => False
end
end Ts
namespace Ts
open PySem PySem.Spec PyProof.Rows L2
/-! ### two dicts compared, value by value -/
section
variable {X : Cx}
def SameD (K : PySem.W.Frag) (H : Hp) (v w : V) (b : Bool) : Prop := ∃ d e, Dp K H v d ∧ Dp K H w e ∧ PySem.W.alike d e = true ∧ d.depth ≤ 20 ∧ PyData.eqv d e = b
inductive HitV (K : PySem.W.Frag) (H : Hp) (ls : List (Key × V)) : List (Key × V) → Bool → Prop
  | nil : HitV K H ls [] true
  | miss {c : Key} {v : V} {ps : List (Key × V)} : valV ls c = none → HitV K H ls ((c, v) :: ps) false
  | hit {c : Key} {v w : V} {ps : List (Key × V)} {e b : Bool} : valV ls c = some w → SameD K H v w e → HitV K H ls ps b → HitV K H ls ((c, v) :: ps) (e && b)
/-- the same over data -/
inductive HitD (ls : List (Key × D)) : List (Key × D) → Bool → Prop
  | nil : HitD ls [] true
  | miss {c : Key} {v : D} {ps : List (Key × D)} : valD ls c = none → HitD ls ((c, v) :: ps) false
  | hit {c : Key} {v w : D} {ps : List (Key × D)} {p q : PyData} {b : Bool} : valD ls c = some w → toPy v = some p → toPy w = some q → PySem.W.alike p q = true → p.depth ≤ 20 → HitD ls ps b → HitD ls ((c, v) :: ps) (PyData.eqv p q && b)
theorem HitD.v {K : PySem.W.Frag} {mg : Str → Option Value} {F H : Hp} (l : Le F H) {ls : List (Key × D)} {vs : List (Key × V)} (rl : RpK K mg F vs ls) : ∀ {ks : List (Key × D)} {b : Bool}, HitD ls ks b → ∀ {us : List (Key × V)}, RpK K mg F us ks → HitV K H vs us b := by
  intro ks b h
  induction h with
  | nil => intro us r; cases r; exact .nil
  | miss hn => intro us r; cases r with
    | cons ru rs => exact .miss (rl.valN hn)
  | hit e h1 h2 al dd _ ih => intro us r; cases r with
    | cons ru rs =>
      obtain ⟨w, e2, rw2⟩ := rl.val e
      exact .hit e2 ⟨_, _, ru.dp l h1, rw2.dp l h2, al, dd, rfl⟩ (ih rs)
def eqDK (n : Bool) : O2 := fun x y m k => onO (asK m x) fun ks => onO (asK m y) fun ls => ∃ c, (ks.length = ls.length → HitD ls ks c) ∧ k (.bl (n ^^ (ks.length == ls.length && c))) m
def oNeK : O2 := eqDK true
def oEqK : O2 := eqDK false
end
end Ts
/-! ### an own exception is made: over the heap -/
namespace Ts
section
open PySem PySem.W PySem.Calls PyProof.Rows
open Builtin Builtin.ObjectAttr
variable {prog : Program} {w : World} {A : Around} {E : Value → Shared → Prop} {hp : Heap} {g : Array GenState} {d : Drawn} {t : Nat} {os : OsState} {K : Frag} {C x : Addr} {B newId initId : String} {bmB : List Value}
/-- what the written part says of an own exception class at C over the built-in B -/
structure XCls (K : Frag) (C : Addr) (B newId initId : String) (bmB : List Value) : Prop where
  q : excInitIn K C bmB newId = true
  ov : excOver K C bmB = true
  sa : findIn K (.ref C) "__setattr__" = some (some (.builtin "object.__setattr__"))
  hd : hasDictIn K C = true
  exC : subIn K (.ref C) (.type "BaseException") = some true
  exB : subIn K (.ref C) (.type B) = some true
  tyC : typeIn K (.ref C) = some (.type "type")
  kC : keepIn K (.ref C) = true
  sup : ks_superIn K C C "__init__" = some (some (.builtin initId))
  sub : mroIn K C (.ref C) = some true
  op : nsIn K cStatics "thirdparty.any" = some none
  su : nsIn K mainGlobals "super" = some none
/-- self.name = v, the first -/
theorem xset_new {tt : Addr} {name : Str} {v : Value} {Q : Unit → Shared → Prop} (SF : StoreFacts B bmB "object.__setattr__" "object") (T : XCls K C B newId initId bmB) (X : K.In hp) (hx : hp.get? x = some (excObj C tt none .none)) (ht : takerIn K C name = some none)
    (hq : ∀ h' tk' dx, (∀ b o, b ≠ x → hp.get? b = some o → h'.get? b = some o) → hp.get? dx = none → dx ≠ x → h'.get? x = some (excObj C tt (some dx) .none) → h'.Ns1 dx (fun y => if y = name then some v else none) → Q () ⟨h', g, d, tk', os⟩) :
    wpAny (model prog w) A (setAttr (.ref x) name v) Q E ⟨hp, g, d, t, os⟩ := by
  have hxs : x ≠ hp.objs.size := Nat.ne_of_lt (Heap.lt_size hx)
  refine set_plain (od := none) X ⟨hx, rfl, rfl, trivial⟩ T.sa (osa_openX (s := ⟨hp, g, d, t + 1, os⟩) (od := none) SF X ⟨hx, rfl, rfl, trivial⟩ T.ov ht fun b => ?_)
  obtain ⟨cd, hc, hd'⟩ := any_some T.hd
  refine wpAny_bind (wpAny_pure (wpAny_bind (instanceDict_exc (s := ⟨hp, g, d, t + 1, os⟩) hx (looks_clsIn X hc) hd' ?_)))
  show wpAny _ _ (storeInDict hp.objs.size (.str name t) name v) _ _ _
  refine PySem.HandSPX.store_in_new ?_ fun h' tk' hn' hs => ?_
  · exact ⟨_, #[], _, (Heap.get?_update_ne _ _ _ _ hxs.symm).trans (Heap.get?_push_at rfl rfl), rfl, fun e he => absurd he (by simp), fun _ => rfl⟩
  · have hx₁ : (hp.push (dictOf [] 0)).get? x = some (excObj C tt none .none) := Heap.get?_push_of_some _ hx
    refine hq h' tk' hp.objs.size (fun b o hb ho => ?_) ?_ hxs.symm ?_ hn'
    · exact (hs.2 b (Nat.ne_of_lt (Heap.lt_size ho))).trans ((Heap.get?_update_ne _ _ _ _ hb).trans (Heap.get?_push_of_some _ ho))
    · cases e : hp.get? hp.objs.size with
      | none => rfl
      | some o => exact absurd (Heap.lt_size e) (Nat.lt_irrefl _)
    · exact (hs.2 x hxs).trans (Heap.get?_update_self _ hx₁ rfl)
/-- a further one -/
theorem xset_old {tt dx : Addr} {name : Str} {v : Value} {m0 : Str → Option Value} {nl : List Str} {Q : Unit → Shared → Prop} (SF : StoreFacts B bmB "object.__setattr__" "object") (T : XCls K C B newId initId bmB) (X : K.In hp) (hx : hp.get? x = some (excObj C tt (some dx) .none)) (hns : hp.Ns1 dx m0) (hw : Within m0 nl) (hz : nl.length ≤ 900)
    (ht : takerIn K C name = some none)
    (hq : ∀ h' tk', (∀ b o, b ≠ dx → hp.get? b = some o → h'.get? b = some o) → h'.Ns1 dx (fun y => if y = name then some v else m0 y) → Q () ⟨h', g, d, tk', os⟩) :
    wpAny (model prog w) A (setAttr (.ref x) name v) Q E ⟨hp, g, d, t, os⟩ := by
  obtain ⟨oD, esD, epD, hoD, hdD, _⟩ := hns.count hw
  have I : InstAt hp x (excObj C tt (some dx) .none) C (some oD) := ⟨hx, rfl, rfl, hoD⟩
  refine set_plain (s := ⟨hp, g, d, t, os⟩) (od := some oD) X I T.sa (osa_openX (s := ⟨hp, g, d, t + 1, os⟩) (od := some oD) SF X I T.ov ht fun b => ?_)
  obtain ⟨cd, hc, hd'⟩ := any_some T.hd
  refine wpAny_bind (wpAny_pure (wpAny_bind (wpAny_bind (wpAny_loadPart hx (wpAny_bind ((looks_clsIn X hc).here ?_))))))
  rw [hd']
  refine wpAny_pure (a := some dx) ?_
  exact OEX.store_in_old hns hw (by omega) fun h' tk' hn' hs => hq h' tk' (fun b o hb ho => (hs.2 b hb).trans ho) hn'
/-- what the written part says of its __init__ -/
structure XIni (K : Frag) (P : Program) (C fI : Addr) (qual : Str) (params : Arguments) (body : List Stmt) (scope : Scope) (cda cc : Addr) (fd : FuncData) : Prop where
  at_ : findIn K (.ref C) "__init__" = some (some (.ref fI))
  fn : isFn K (.ref fI) = true
  fd : ∃ oc od osl dV kV doc pm an ct, K.lookup fI = some ⟨oc, od, .func fd, osl⟩ ∧ fd = ksFn "__init__" qual params body scope dV kV doc pm an (.ref cda) ct cc
  cod : codeIn K (.ref cda) qual = true
  fil : ∃ ccl cdd vs ccs file tf, K.lookup cda = some ⟨ccl, cdd, .fields vs, ccs⟩ ∧ vs[2]? = some (.str file tf) ∧ ((P.main.file : Str) == file) = true
  cel : ∃ cl cld csl, K.lookup cc = some ⟨cl, cld, .cell (some (.ref C)), csl⟩
/-- super() within it -/
theorem xnode {h₀ : Heap} {L f cda cc : Addr} {m mg : Str → Option Value} {news : List (Addr × Obj)} {ox : Obj} {odx : Option Obj} {s : Shared} {body : List Stmt} {q : Str} {scope : Scope} {p0 p1 : Pos} {attr : Str} {whole : Sem Value} {fd : FuncData} {ar : Arg} {vs : Array Value} {file : Str} {tf : Tok} {oc ccl cl : Value} {od cdd cld : Option Addr} {osl ccs csl : Array (Option Value)} {cdD : ClassData} {Q : Value → Shared → Prop}
    (F : Fr h₀ L s.heap m) (X₀ : K.In h₀) (N : News h₀ L s.heap news) (hg : h₀.Ns mainGlobals mg) (hb : ∃ mb, h₀.Ns builtinsNs mb ∧ ∀ x : Str, x ≠ "__name__" → mb x = bootBuiltins x)
    (hf : K.lookup f = some ⟨oc, od, .func fd, osl⟩) (hp : (fd.params.posonlyargs ++ fd.params.args).head? = some ar) (hv : m ar.arg = some (.ref x)) (I : InstAt s.heap x ox C odx)
    (hcode : K.lookup cda = some ⟨ccl, cdd, .fields vs, ccs⟩) (hvs : vs[2]? = some (.str file tf)) (hfile : ((prog.main.file : Str) == file) = true)
    (hcell : K.lookup cc = some ⟨cl, cld, .cell (some (.ref C)), csl⟩) (hD : clsIn K C = some cdD) (hsub : mroIn K C (.ref C) = some true) (hsuper : nsIn K mainGlobals "super" = some none)
    (hat : (attr == ("__class__" : Str)) = false) (hks : scope.names.lookup ("super" : Str) = some .globalImplicit) (hkc : scope.names.lookup ("__class__" : Str) = some .free) (hka : scope.names.lookup ar.arg = some .local) (hk : scope.kind = .function)
    (htop : (prog.main.scope.names.lookup ("super" : Str)).isSome = false)
    (h : ∀ so h', Fr h₀ L h' m → News h₀ L h' ((so, ks_superObj C x C) :: news) → (∀ p ∈ news, p.1 < so) → Q (.ref so) { s with heap := h' }) :
    _root_.PySem.wpAt (model prog w) A (.func body (ksEnv q scope L f (.ref cda) cc)) (attributeBase (.Call (.Name "super" p0) [] [] p1) attr (ksEnv q scope L f (.ref cda) cc) whole) Q E s := by
  have X : K.In s.heap := X₀.keeps F.keep
  obtain ⟨mb, hb1, hb2⟩ := hb
  obtain ⟨hh, g, d, t, os⟩ := s
  obtain ⟨oD, hD1, hD2⟩ : ∃ oD, hh.get? C = some oD ∧ oD.data = .cls cdD := by
    unfold clsIn at hD
    split at hD
    · rename_i c d cd' sl ho
      cases hD
      exact ⟨_, X _ _ ho, rfl⟩
    · cases hD
  refine ks_wpAt_super_base (env := ksEnv q scope L f (.ref cda) cc) hks hkc hat rfl (X _ _ hf) rfl hp rfl (X _ _ hcode) rfl hvs hfile htop ?_
  refine ks_loadName_global hk hks (loadGlobal_builtin (env := ksEnv q scope L f (.ref cda) cc) (hg.keeps F.keep) (mg_none_of X₀ hg hsuper) (hb1.keeps F.keep) ((hb2 _ (by decide +kernel)).trans PyProof.Rows.Boot.«super») ⟨rfl, ?_⟩)
  refine wpAny_loadName_free hk hkc rfl ⟨_, X _ _ hcell, rfl⟩ ?_
  refine wpAny_loadName_local hk hka F.ns hv ?_
  refine ks_wpAny_isType_cls hD1 hD2 ⟨rfl, ?_⟩
  refine ks_wpAny_call_super hD1 hD2 I.at_ I.cls (fun c e => ?_) (looks_mroIn X hsub) (fun h' e k => ?_)
  · have := I.no
    unfold notCls at this
    rw [e] at this
    exact Bool.noConfusion this
  · obtain ⟨F', N', l'⟩ := ks_newsPush (s := ⟨hh, g, d, t, os⟩) F N rfl e k
    exact h _ _ F' N' l'
/-- the body's first row: super().__init__(msg) -/
abbrev xrow (msg : Str) (j : Nat) (p0 p1 p2 p3 p4 p5 : Pos) : Stmt := .Expr (.Call (.Attribute (.Call (.Name "super" p0) [] [] p1) "__init__" p2) [.Constant (.str msg) j p3] [] p4) p5
/-- what the scope says of the names -/
structure XSc (scope : Scope) (sf : Str) : Prop where
  su : scope.names.lookup ("super" : Str) = some .globalImplicit
  cl : scope.names.lookup ("__class__" : Str) = some .free
  sf : scope.names.lookup sf = some .local
  k : scope.kind = .function
  ce : ∀ x ∈ scope.names, x.2 ≠ .cell
  co : scope.isCoroutine = false
  ge : scope.isGenerator = false
/-- what stands ahead of the call -/
structure XHp (K : Frag) (mg : Str → Option Value) (hp : Heap) : Prop where
  K : K.In hp
  g : hp.Ns mainGlobals mg
  b : ∃ mb, hp.Ns builtinsNs mb ∧ ∀ x : Str, x ≠ "__name__" → mb x = bootBuiltins x
  lim : hp.NoLimit
/-- __init__ is run: its first row, then the rest over a frame in which the exception is new -/
theorem xinit {mg : Str → Option Value} {h1 : Heap} {e t0 fI cda cc : Addr} {qual sf : Str} {params : Arguments} {rest : List Stmt} {scope : Scope} {fd : FuncData} {msg : Str} {j : Nat} {p0 p1 p2 p3 p4 p5 : Pos} {R : Result → Shared → Prop} {binds : List (Str × Value)} {args : Args} {ar : Arg} {pl : Sem Bool}
    (hev : ∀ env : Env, PySem.eval (.Call (.Attribute (.Call (.Name "super" p0) [] [] p1) "__init__" p2) [.Constant (.str msg) j p3] [] p4) env = (do
      let ov ← attributeBase (.Call (.Name "super" p0) [] [] p1) "__init__" env (PySem.eval (.Call (.Name "super" p0) [] [] p1) env)
      standAt p2.atName
      let (f, first) ← holding [ov] (getMethod ov "__init__" pl)
      callWith p4 f first (backTo p4 (starEach [.Constant (.str msg) j p3] env)) []))
    (FB : ExcBaseFacts B newId initId bmB) (KF : KxsFacts B initId) (T : XCls K C B newId initId bmB) (J : XIni K prog C fI qual params (xrow msg j p0 p1 p2 p3 p4 p5 :: rest) scope cda cc fd) (S : XSc scope sf) (Y : XHp K mg hp)
    (hpar : (params.posonlyargs ++ params.args).head? = some ar) (har : ar.arg = sf) (htop : (prog.main.scope.names.lookup ("super" : Str)).isSome = false)
    (k1 : ∀ b o, hp.get? b = some o → h1.get? b = some o) (sz : hp.objs.size ≤ h1.objs.size) (he : h1.get? e = some (excObj C t0 none .none)) (hn : hp.get? e = none) (hd : A.depth < recursionLimit)
    (hb : BindsTo ⟨h1, g, d, t, os⟩ fd args binds) (hloc : ∀ y ∈ binds, scope.names.lookup y.1 = some .local) (hself : binds.reverse.lookup sf = some (.ref e))
    (hR : ∀ (L : Addr) (h' : Heap) (tk' : Nat) (t1 : Addr), Fr hp L h' (fun y => binds.reverse.lookup y) → h'.get? e = some (excObj C t1 none .none) → e ≠ L →
      wpAny (model prog w) (A.deeper (ksEnv qual scope L fI (.ref cda) cc)) (execs rest (ksEnv qual scope L fI (.ref cda) cc)) (fun f s' => R (.ok (.ret (match f with | .ret v => v | _ => .none))) s')
        (fun e s' => wpAny (model prog w) (A.deeper (ksEnv qual scope L fI (.ref cda) cc)) (leaving (ksEnv qual scope L fI (.ref cda) cc) e) (fun _ s'' => R (.error e) s'') (fun e' s'' => R (.error e') s'') s') ⟨h', g, d, tk', os⟩) :
    codeAny (model prog w) A (.call (.ref fI) args) R ⟨h1, g, d, t, os⟩ := by
  obtain ⟨oc, od, osl, dV, kV, doc, pm, an, ct, lk, rfl⟩ := J.fd
  obtain ⟨ccl, cdd, vs, ccs, file, tf, hcode, hvs, hfile⟩ := J.fil
  obtain ⟨cl, cld, csl, hcell⟩ := J.cel
  have KX : K.In h1 := Y.K.keeps k1
  obtain ⟨cdC, hcl, _⟩ := any_some T.hd
  refine ks_codeAny_call_defAt (fd := ksFn "__init__" qual params (xrow msg j p0 p1 p2 p3 p4 p5 :: rest) scope dV kV doc pm an (.ref cda) ct cc) (body := xrow msg j p0 p1 p2 p3 p4 p5 :: rest) (binds := binds) hd (KX _ _ lk) rfl (Y.lim.keeps k1) (codeRec_of KX J.cod) rfl hb S.ce hloc (fun h₂ hns hk₂ => ?_) S.co S.ge S.k
  have F : Fr hp h1.objs.size h₂ (fun y => binds.reverse.lookup y) := ⟨hns, fun b o z => hk₂ b o (k1 b o z), sz⟩
  have ne : e ≠ h1.objs.size := Nat.ne_of_lt (Heap.lt_size he)
  have N : News hp h1.objs.size h₂ [(e, excObj C t0 none .none)] := fun p hp => by
    rw [List.mem_singleton.mp hp]
    exact ⟨hk₂ _ _ he, ne, hn⟩
  have hi : interactive (callEnv (ksFn "__init__" qual params (xrow msg j p0 p1 p2 p3 p4 p5 :: rest) scope dV kV doc pm an (.ref cda) ct cc) h1.objs.size fI) = false := by
    show (scope.kind == .module && _) = false
    rw [S.k]; rfl
  refine ks_wpAt_execs_cons (ks_wpAt_Expr_any (hi := hi) (ks_wpAt_MethodCall (he := hev _) (xnode (odx := none) F Y.K N Y.g Y.b lk hpar (by rw [har]; exact hself) (InstAt.of_exc0 (t := t0) (c2 := .none) N (by simp)) hcode hvs hfile hcell hcl T.sub T.su (by decide) S.su S.cl (by rw [har]; exact S.sf) S.k htop fun so h3 F3 N3 lt3 => ?_)))
  refine kxs_method (x := e) (C := C) (D := C) (so := so) (odx := none) KF F3 Y.K N3 (by simp) (InstAt.of_exc0 (t := t0) (c2 := .none) N3 (by simp)) T.op T.sup T.exB (by decide) fun u h4 F4 N4 lt4 => ?_
  refine kxs_callWith1 (u := u) (i := initId) (x := e) N4 (by simp) ?_
  refine Calls.spliced_cons (x := PySem.eval (.Constant (.str msg) j p3) _) (Calls.Constant_str (Calls.spliced_nil ⟨kxs_at N4 (by simp), ?_⟩))
  have e1 : so ≠ e := by have := lt3 (e, excObj C t0 none .none) (by simp); exact Nat.ne_of_gt this
  have e2 : u ≠ e := by have := lt4 (e, excObj C t0 none .none) (by simp); exact Nat.ne_of_gt this
  refine kxs_call F4 Y.K N4 FB T.q (by simp) (UpdF.tail e2 (UpdF.tail e1 (UpdF.head (by simp)))) (by rw [sizeLine_eq]; simp) fun t1 h5 F5 N5 lt5 => ?_
  exact wpAt_of_wpAny (hR _ h5 _ t1 F5 (N5 (e, excObj C t1 none .none) (by simp)).1 ne)
end
end Ts
/-! ### an own exception is made: the call -/
namespace Ts
section
open PySem PySem.W PySem.Calls PyProof.Rows
variable {prog : Program} {w : World} {A : Around} {E : Value → Shared → Prop} {hp : Heap} {g : Array GenState} {d : Drawn} {t : Nat} {os : OsState} {K : Frag} {C : Addr} {B newId initId : String} {bmB : List Value}
/-- self.f = e -/
abbrev srow (sf f : Str) (v : Expr) (q1 q2 q4 : Pos) : Stmt := .Assign [.Attribute (.Name sf q1) f q2] v q4
/-- C(u ..) over its __init__ -/
theorem xmade {mg : Str → Option Value} {fI cda cc : Addr} {qual sf : Str} {params : Arguments} {rest : List Stmt} {scope : Scope} {fd : FuncData} {msg : Str} {j : Nat} {p0 p1 p2 p3 p4 p5 : Pos} {Q : Value → Shared → Prop} {ps : List Str} {us : List Value} {ar : Arg} {pl : Sem Bool}
    (hev : ∀ env : Env, PySem.eval (.Call (.Attribute (.Call (.Name "super" p0) [] [] p1) "__init__" p2) [.Constant (.str msg) j p3] [] p4) env = (do
      let ov ← attributeBase (.Call (.Name "super" p0) [] [] p1) "__init__" env (PySem.eval (.Call (.Name "super" p0) [] [] p1) env)
      standAt p2.atName
      let (f, first) ← holding [ov] (getMethod ov "__init__" pl)
      callWith p4 f first (backTo p4 (starEach [.Constant (.str msg) j p3] env)) []))
    (FB : ExcBaseFacts B newId initId bmB) (KF : KxsFacts B initId) (T : XCls K C B newId initId bmB) (J : XIni K prog C fI qual params (xrow msg j p0 p1 p2 p3 p4 p5 :: rest) scope cda cc fd) (S : XSc scope sf) (Y : XHp K mg hp)
    (hpar : (params.posonlyargs ++ params.args).head? = some ar) (har : ar.arg = sf) (htop : (prog.main.scope.names.lookup ("super" : Str)).isSome = false) (hd : A.depth + 5 < recursionLimit) (hu : us.length ≤ 1000)
    (hb : ∀ (s : Shared) (e : Value), BindsTo s fd ⟨e :: us, []⟩ ((sf :: ps).zip (e :: us))) (hps : ∀ y ∈ sf :: ps, scope.names.lookup y = some .local) (hsf : sf ∉ ps)
    (hR : ∀ (A' : Around) (E' : Value → Shared → Prop) (L e : Addr) (h' : Heap) (tk' : Nat) (t1 : Addr), Fr hp L h' (fun y => ((sf :: ps).zip (.ref e :: us)).reverse.lookup y) → h'.get? e = some (excObj C t1 none .none) → e ≠ L → hp.get? e = none → ((sf :: ps).zip (Value.ref e :: us)).reverse.lookup sf = some (.ref e) →
      wpAny (model prog w) A' (execs rest (ksEnv qual scope L fI (.ref cda) cc)) (fun f s' => (match f with | .ret v => v | _ => Value.none) = .none ∧ Q (.ref e) s') E' ⟨h', g, d, tk', os⟩) :
    wpAny (model prog w) A (call (.ref C) us) Q E ⟨hp, g, d, t, os⟩ := by
  obtain ⟨nm, N', qn, bs, bm, hdct, sn, sub, ab, col, dd, k0, k1, k2, k3, k5, hC, hT⟩ := excInit_of Y.K T.q
  obtain ⟨oI, hoI, hcI⟩ : ∃ oI, hp.get? fI = some oI ∧ oI.cls = .type "function" := by
    obtain ⟨o, ho, hc⟩ := Option.map_eq_some_iff.mp (show (K.lookup fI).map (·.cls) = some (.type "function") from beq_iff_eq.mp J.fn)
    exact ⟨o, Y.K _ _ ho, hc⟩
  have hi' : Looks (model prog w) hp (typeLookup (.ref C) "__init__") (some (.ref fI)) := looks_findIn Y.K J.at_
  have hget : ((hp.push (kdv_tup us)).push (PySem.HandSPX.excO C hp.objs.size)).get? (hp.objs.size + 1) = some (excObj C hp.objs.size none .none) := by heap_get
  have hne : hp.get? (hp.objs.size + 1) = none := by
    cases e : hp.get? (hp.objs.size + 1) with
    | none => rfl
    | some o => exact absurd (Heap.lt_size e) (Nat.not_lt_of_le (Nat.le_succ _))
  have hself : ((sf :: ps).zip (Value.ref (hp.objs.size + 1) :: us)).reverse.lookup sf = some (.ref (hp.objs.size + 1)) := by
    rw [List.zip_cons_cons, List.reverse_cons, List.lookup_append]
    have nl : ((ps.zip us).reverse).lookup sf = none := by
      cases e : ((ps.zip us).reverse).lookup sf with
      | none => rfl
      | some v =>
        exfalso
        have go : ∀ l : List (Str × Value), l.lookup sf = some v → sf ∈ l.map (·.1) := by
          intro l
          induction l with
          | nil => intro h; cases h
          | cons p l ih =>
            obtain ⟨a, b⟩ := p
            intro h
            rw [List.lookup_cons] at h
            cases q : (sf == a) with
            | true => rw [beq_iff_eq.mp q]; exact List.mem_cons_self
            | false => rw [q] at h; exact List.mem_cons_of_mem _ (ih h)
        have h1 := go _ e
        rw [List.map_reverse, List.mem_reverse] at h1
        obtain ⟨p, hp1, hp2⟩ := List.mem_map.mp h1
        exact hsf (hp2 ▸ (List.of_mem_zip (a := p.1) (b := p.2) hp1).1)
    rw [nl]
    simp
  refine wpAny_call (PySem.HandSPX.call_own FB hT hC hi' (fun self => exc_bind hoI hcI self) (by rw [sizeLine_eq]; omega)
    (xinit (e := hp.objs.size + 1) (t0 := hp.objs.size) (binds := (sf :: ps).zip (.ref (hp.objs.size + 1) :: us)) hev FB KF T J S Y hpar har htop (fun b o z => Heap.get?_push_of_some _ (Heap.get?_push_of_some _ z)) (by rw [Heap.size_push, Heap.size_push]; omega) hget hne ?_ (hb _ _) (fun y hy => hps _ (List.of_mem_zip (a := y.1) (b := y.2) hy).1) hself fun L h' tk' t1 F he ne => ?_))
  · rw [L2.make_depth]; omega
  · exact hR _ _ L _ h' tk' t1 F he ne hne hself
theorem fr_but {L e : Addr} {h h2 : Heap} {m : Str → Option Value} (F : Fr hp L h m) (hn : hp.get? e = none) (ne : e ≠ L) (k : ∀ b o, b ≠ e → h.get? b = some o → h2.get? b = some o) : Fr hp L h2 m := by
  obtain ⟨oL, es, ep, hL, r⟩ := F.ns
  exact ⟨⟨oL, es, ep, k _ _ (Ne.symm ne) hL, r⟩, fun b o z => k b o (fun y => by rw [y, hn] at z; cases z) (F.keep b o z), F.above⟩
theorem none_of {h h2 : Heap} {b : Addr} (k : ∀ b o, h.get? b = some o → h2.get? b = some o) (n : h2.get? b = none) : h.get? b = none := by
  cases e : h.get? b with
  | none => rfl
  | some o => rw [k b o e] at n; cases n
/-- C(u): __init__(self, a) says super().__init__(msg), self.f = a, self.tg = tv -/
theorem xmade1 {f a : Str} {u : Value} {q1 q2 q3 q4 : Pos} {mg : Str → Option Value} {fI cda cc : Addr} {qual sf tg tv : Str} {params : Arguments} {scope : Scope} {fd : FuncData} {msg : Str} {j j2 : Nat} {p0 p1 p2 p3 p4 p5 r1 r2 r3 r4 : Pos} {Q : Value → Shared → Prop} {ar : Arg} {pl : Sem Bool}
    (hev : ∀ env : Env, PySem.eval (.Call (.Attribute (.Call (.Name "super" p0) [] [] p1) "__init__" p2) [.Constant (.str msg) j p3] [] p4) env = (do
      let ov ← attributeBase (.Call (.Name "super" p0) [] [] p1) "__init__" env (PySem.eval (.Call (.Name "super" p0) [] [] p1) env)
      standAt p2.atName
      let (f, first) ← holding [ov] (getMethod ov "__init__" pl)
      callWith p4 f first (backTo p4 (starEach [.Constant (.str msg) j p3] env)) []))
    (FB : ExcBaseFacts B newId initId bmB) (KF : KxsFacts B initId) (SF : StoreFacts B bmB "object.__setattr__" "object") (T : XCls K C B newId initId bmB)
    (J : XIni K prog C fI qual params [xrow msg j p0 p1 p2 p3 p4 p5, srow sf f (.Name a q3) q1 q2 q4, srow sf tg (.Constant (.str tv) j2 r3) r1 r2 r4] scope cda cc fd) (S : XSc scope sf) (Y : XHp K mg hp)
    (hpar : (params.posonlyargs ++ params.args).head? = some ar) (har : ar.arg = sf) (htop : (prog.main.scope.names.lookup ("super" : Str)).isSome = false) (hd : A.depth + 5 < recursionLimit)
    (hb : ∀ (s : Shared) (e : Value), BindsTo s fd ⟨[e, u], []⟩ [(sf, e), (a, u)]) (ha : scope.names.lookup a = some .local) (hsf : a ≠ sf) (da : (a == ("__debug__" : Str)) = false) (ds : (sf == ("__debug__" : Str)) = false)
    (s1 : ∀ env : Env, swapsWith (.Name a q3) (some (.Attribute (.Name sf q1) f q2)) q4.line env = pure false) (s2 : ∀ env : Env, swapsWith (.Constant (.str tv) j2 r3) (some (.Attribute (.Name sf r1) tg r2)) r4.line env = pure false)
    (k1 : takerIn K C f = some none) (k2 : takerIn K C tg = some none)
    (hQ : ∀ (h' : Heap) (tk' : Nat) (e t1 dx : Addr) (tok : Tok), (∀ b o, hp.get? b = some o → h'.get? b = some o) → hp.get? e = none → hp.get? dx = none → dx ≠ e → h'.get? e = some (excObj C t1 (some dx) .none) →
      h'.Ns1 dx (fun y => if y = tg then some (.str tv tok) else if y = f then some u else none) → Q (.ref e) ⟨h', g, d, tk', os⟩) :
    wpAny (model prog w) A (call (.ref C) [u]) Q E ⟨hp, g, d, t, os⟩ := by
  refine xmade (ps := [a]) hev FB KF T J S Y hpar har htop hd (by simp) hb (fun y hy => ?_) (by simpa using Ne.symm hsf) fun A' E' L e h' tk' t1 F he ne hn hself => ?_
  · simp only [List.mem_cons, List.not_mem_nil, or_false] at hy
    rcases hy with rfl | rfl
    · exact S.sf
    · exact ha
  have hva : (([sf, a].zip [Value.ref e, u]).reverse).lookup a = some u := by simp [List.lookup]
  refine wpAny_execs_cons (plainObj_wpAny_Assign_Attribute (wpAny_Name (wpAny_loadName_local (env := ksEnv qual scope L fI (.ref cda) cc) S.k ha F.ns hva (wpAny_Name (wpAny_loadName_local (env := ksEnv qual scope L fI (.ref cda) cc) S.k S.sf F.ns hself ?_) ds)) da) (s1 _))
  refine xset_new SF T (Y.K.keeps F.keep) he k1 fun h2 tk2 dx kk hdx nedx he2 hns2 => ?_
  have F2 := fr_but F hn ne kk
  refine wpAny_execs_cons (plainObj_wpAny_Assign_Attribute (Calls.Constant_str (wpAny_Name (wpAny_loadName_local (env := ksEnv qual scope L fI (.ref cda) cc) S.k S.sf F2.ns hself ?_) ds)) (s2 _))
  refine xset_old (nl := [f]) SF T (Y.K.keeps F2.keep) he2 hns2 (fun y hy => ?_) (by simp) k2 fun h3 tk3 kk3 hns3 => ?_
  · by_cases e : y = f
    · rw [e]; exact List.mem_cons_self
    · exact absurd (if_neg e) hy
  have hdx' : hp.get? dx = none := none_of F.keep hdx
  exact wpAny_execs_nil ⟨rfl, hQ h3 tk3 e t1 dx _ (fun b o z => kk3 b o (fun y => by rw [y, hdx'] at z; cases z) (F2.keep b o z)) hn hdx' nedx (kk3 e _ (Ne.symm nedx) he2) hns3⟩
end
end Ts
/-! ### raise C(..) -/
namespace Ts
open PySem PySem.Spec PyProof.Rows L2
/-- the class x makes exceptions of one value: fields tg = tv, f = the value -/
structure Mk1 (P : Program) (w : World) (K : PySem.W.Frag) (mg : Str → Option Value) (x f tg tv : Str) : Prop where
  ex : ∃ C : Addr, mg x = some (.ref C) ∧ PySem.W.keepIn K (.ref C) = true ∧ PySem.W.subIn K (.ref C) (.type "BaseException") = some true ∧ PySem.W.typeIn K (.ref C) = some (.type "type") ∧
    ∀ (A : Around) (E : Value → Shared → Prop) (hp : Heap) (g : Array GenState) (d : Drawn) (t : Nat) (os : OsState) (u : Value) (Q : Value → Shared → Prop), XHp K mg hp → A.depth + 5 < recursionLimit →
      (∀ (h' : Heap) (tk' : Nat) (e t1 dx : Addr) (tok : Tok), (∀ b o, hp.get? b = some o → h'.get? b = some o) → hp.get? e = none → hp.get? dx = none → dx ≠ e → h'.get? e = some (PySem.W.excObj C t1 (some dx) .none) →
        h'.Ns1 dx (fun y => if y = tg then some (.str tv tok) else if y = f then some u else none) → Q (.ref e) ⟨h', g, d, tk', os⟩) →
      wpAny (model P w) A (call (.ref C) [u]) Q E ⟨hp, g, d, t, os⟩
section
variable {X : Cx} {W : WX}
theorem mk_done {pins : List (Addr × Obj)} {σ : L2.St} {H1 : Hp} {Q : XK} {hp h' : Heap} {g : Array GenState} {dr dr' : Drawn} {tk tk' : Nat} {os : OsState} {C e t1 dx : Addr} {fs : List (Str × V)} {mA : Str → Option Value} (I1 : Inv X pins σ H1 ⟨hp, g, dr, tk, os⟩)
    (k : ∀ b o, hp.get? b = some o → h'.get? b = some o) (hne : hp.get? e = none) (hdx : hp.get? dx = none) (nd : dx ≠ e) (he : h'.get? e = some (PySem.W.excObj C t1 (some dx) .none)) (hns : h'.Ns1 dx mA) (rel : ∀ f, RelO (fs.lookup f) (mA f)) (T : Raises X (.ref C))
    (q : H1 dx = none → Q (.ref C) (some dx) (upd H1 dx (.xd fs))) : MkP X pins σ Q (.ref e) ⟨h', g, dr', tk', os⟩ := by
  obtain ⟨G, g1, g2⟩ := restrict h' fun b => decide (b ≠ e)
  have gk : ∀ b, b ≠ e → G.get? b = h'.get? b := fun b hb => g1 b (decide_eq_true hb)
  have ge : G.get? e = none := g2 e (by simp)
  have nha : ∀ {b : Addr} {o : Obj}, hp.get? b = some o → b ≠ e := fun {b o} z y => by rw [y, hne] at z; cases z
  have ndx : ∀ {b : Addr} {o : Obj}, hp.get? b = some o → b ≠ dx := fun {b o} z y => by rw [y, hdx] at z; cases z
  have kG : ∀ b o, hp.get? b = some o → G.get? b = some o := fun b o z => (gk b (nha z)).trans (k b o z)
  have Hd : H1 dx = none := I1.hok.gone hdx
  have He : H1 e = none := I1.hok.gone hne
  have U : Un (frs X.stack) [] H1 (upd H1 dx (.xd fs)) hp G := {
    keep := fun b o z n hf hx => kG b o z
    slot := fun b o z n hf hx => ⟨o.slots, kG b o z⟩
    free := fun b o z n hx => by rw [upd_ne (ndx z)]; exact n
    there := fun b o z hx => ⟨o, kG b o z⟩
    tups := fun b xs z => by rw [upd_ne (ne_of_none z Hd)]; exact z
    frzs := fun b o v z => by rw [upd_ne (ne_of_none z Hd)]; exact z
    tbls := fun b ps z => ⟨#[], by rw [upd_ne (ne_of_none z Hd), z]; simp⟩ }
  have hok3 : HOk X.prog X.w (upd H1 dx (.xd fs)) G := fun b o z => by
    by_cases hbd : b = dx
    · subst hbd
      rw [upd_same] at z
      cases z
      exact ⟨mA, hns.at fun o y => (gk b nd).trans y, rel⟩
    · rw [upd_ne hbd] at z
      exact (I1.hok b o z).stay (fun c v hc y => kG c v y) (fun c hc => by rw [upd_ne (ne_of_none hc Hd)]; exact hc) (fun c xs hc => by rw [upd_ne (ne_of_none hc Hd)]; exact hc)
  have J : Inv X pins σ (upd H1 dx (.xd fs)) ⟨G, g, dr', tk', os⟩ := I1.call' (ch := []) rfl U hok3 I1.bare (fun b z => absurd z (by simp))
  refine ⟨e, _, _, ⟨G, g, dr', tk', os⟩, _, .ref C, some dx, rfl, J, fun b o z => ?_, ge, he, ⟨rfl, rfl⟩, rfl, rfl, ?_, rfl, I1.bare, T, q Hd⟩
  · by_cases hb : b = e
    · rw [hb, ge] at z; cases z
    · exact (gk b hb).symm.trans z
  · rw [upd_ne (Ne.symm nd)]; exact He
theorem xhp_of {pins : List (Addr × Obj)} {σ : L2.St} {H1 : Hp} {s : Shared} (I1 : Inv X pins σ H1 s) : XHp X.K X.mg s.heap :=
  ⟨I1.kIn, I1.ok.mod.glob.keeps I1.bk, let ⟨mb, h1, h2⟩ := I1.ok.mod.blt; ⟨mb, h1.keeps I1.bk, h2⟩, I1.nolimit⟩
theorem pmk1 {x f tg tv : Str} {e : Expr} {te : TE} {p pos : Pos} {C : Addr} (M : Mk1 X.prog X.w X.K X.mg x f tg tv) (hC : X.mg x = some (.ref C)) (hr : X.A.depth + 5 < recursionLimit) (hg : Gl X x) (ha : PE X e te)
    (hdb : (x == ("__debug__" : Str)) = false := by decide) (he : starEach [e] X.env = (false, eval e X.env) :: starEach [] X.env := by rfl) :
    PMk X (.Call (.Name x p) [e] [] pos) (fun σ H Q => te σ H fun v0 H1 => ∃ v, [v0] = [v] ∧ ∀ dx, H1 dx = none → Q (.ref C) (some dx) (upd H1 dx (.xd [(tg, .str tv), (f, v)]))) := by
  intro pins s σ H Q I h
  obtain ⟨C', hm, kp, ex, ty, mk⟩ := M.ex
  have hm := hm
  rw [hC] at hm
  cases hm
  refine wpAny_Call_Name_kw (ld_glob I hg hC ?_ hdb)
  refine PySem.W.callWith_K (h₀ := X.base) I.ok.mod.kin kp (thn ((pa_cons ha pa_nil he).run pos pins s σ H (fun vs H1 => ∃ v, vs = [v] ∧ ∀ dx, H1 dx = none → Q (.ref C) (some dx) (upd H1 dx (.xd [(tg, .str tv), (f, v)]))) I h) fun us s1 ⟨vs, H1, I1, r1, v, ev, q1⟩ => ⟨I1.kIn, ?_⟩) he rfl
  subst ev
  cases r1 with
  | @cons _ u _ us' ru rn =>
    cases rn
    show wpAny _ _ (call (.ref C) [u]) _ _ _
    obtain ⟨hp, g, dr, tk, os⟩ := s1
    refine mk _ _ hp g dr tk os u _ (xhp_of I1) hr fun h' tk' e t1 dx tok k hne hdx ndx he hns => ?_
    exact mk_done I1 k hne hdx ndx he hns (fs := [(tg, .str tv), (f, v)]) (relO_put (y := .str tv) (show RelV (.str tv) (.str tv tok) from ⟨tok, rfl⟩) (relO_put ru (fs := []) fun _ => trivial)) (raises_own ex ty) (q1 dx)
/-- raise C(e) -/
@[reducible] def vRaise1 (x f tg tv : Str) (a : VE) : VS := fun s m G => a s m (fun d m1 => G.ex ⟨x, [(tg, .str tv), (f, d)]⟩ s m1) fun e m' => G.ex e s m'
/-- raise C() -/
@[reducible] def vRaise0 (x tg tv : Str) : VS := fun s m G => G.ex ⟨x, [(tg, .str tv)]⟩ s m
theorem StM.xd {K : PySem.W.Frag} {mg : Str → Option Value} {m : Mem} {F H : Hp} {dx : Addr} {fs : List (Str × V)} (l : Le F H) (mr : MemR K mg F H m) (hn : H dx = none) : StM K mg m F H (upd F dx (.xd fs)) (upd H dx (.xd fs)) m :=
  (Step.new l hn).stm mr
theorem js_raise1 {x f tg tv : Str} {e : Expr} {ve : VE} {p p' pos : Pos} {k : Nat} (hc : X.calm = true) (tk : Takes X W) (M : Mk1 X.prog X.w X.K X.mg x f tg tv) (hr : Room k X.A) (hg : Gl X x) (ha : JE X W e ve)
    (hdb : (x == ("__debug__" : Str)) = false := by decide) (he : starEach [e] X.env = (false, eval e X.env) :: starEach [] X.env := by rfl) : JS X W (.Raise (some (.Call (.Name x p) [e] [] p')) none pos) (vRaise1 x f tg tv ve) := by
  obtain ⟨te, p1, s1⟩ := ha
  obtain ⟨C, hm, _⟩ := M.ex
  refine ⟨_, ps_raise hc tk (pmk1 (pos := p') M hm (by have := hr.dp; omega) hg p1 hdb he), fun σ F H s m G l en h E L => s1 σ F H s m _ _ l en h (L.x en) _ fun v d F1 H1 m1 st r k => ⟨v, rfl, fun dx hd => ?_⟩⟩
  have st2 := StM.xd (fs := [(tg, .str tv), (f, v)]) st.le st.mr hd
  exact L.ex (.ref C) (some dx) _ σ s _ _ m1 (st.trans st2) (en.stm (st.trans st2)) ⟨C, dx, _, rfl, hm, rfl, upd_same, .cons (.str tv) (.cons (r.mono st2.gr) .nil)⟩ k
end
end Ts
/-! ### try .. except (A, B) as n: .. except C as n: .. -/
namespace Ts
open PySem PySem.Spec PyProof.Rows L2
/-- the classes that a clause names -/
inductive Ce (X : Cx) : Expr → List Value → Prop
  | one {x : Str} {c : Value} {np : Pos} : Names X x c → Ce X (.Name x np) [c]
  | two {x y : Str} {c c' : Value} {np np' tp : Pos} {j : Nat} : Names X x c → Names X y c' → Ce X (.Tuple [.Name x np, .Name y np'] j tp) [c, c']
/-- what the clauses wish of an exception of the body, one after the other: slot i holds it -/
def wAsMany (K : PySem.W.Frag) (i : Nat) (Wout : WX) (D : Ends) : List (List Value × (Addr → Value → Option Addr → TS)) → WX
  | [] => Wout
  | (cs, ts) :: r => fun cls d σ H => ∃ b, PySem.W.exmAny K cls cs = some b ∧
      (b = true → ∀ a, H a = none → ts a cls d { nx := fun σ' H' => D.nx (σ'.set i none) H', rt := D.rt, bk := fun σ' H' => D.bk (σ'.set i none) H', ct := fun σ' H' => D.ct (σ'.set i none) H' } (σ.set i (some (.ref a))) H) ∧
      (b = false → wAsMany K i Wout D r cls d σ H)
inductive AsOk (X : Cx) (n : Str) : List ExceptHandler → List (List Value × (Addr → Value → Option Addr → TS)) → Prop
  | nil : AsOk X n [] []
  | cons {ce : Expr} {cs : List Value} {ts : Addr → Value → Option Addr → TS} {b₀ : Stmt} {suite : List Stmt} {pos' : Pos} {hds : List ExceptHandler} {l : List (List Value × (Addr → Value → Option Addr → TS))} (hc : Ce X ce cs)
      (hsu : ∀ (a : Addr) (oe : Obj) (cls : Value) (d : Option Addr) (pn : List (Addr × Obj)), Zc cls d oe → (∃ vs, oe.data = .fields vs) → PSs (X.suite a ((a, oe) :: pn)) (b₀ :: suite) (ts a cls d)) (r : AsOk X n hds l) :
      AsOk X n (.ExceptHandler (some ce) (some n) (b₀ :: suite) pos' :: hds) ((cs, ts) :: l)
theorem fly_kept {B h h' : Heap} {l : List Env} {a : Addr} {Z : Obj → Prop} (x : HandSPX.FlyingZ B l a Z h) (k : ∀ b o, h.get? b = some o → h'.get? b = some o) : HandSPX.FlyingZ B l a Z h' := by
  obtain ⟨f1, f2, f3, oe, vs, T, oT, ts, h1, h2, h3, h4, h5, h6, h7, h8, h9⟩ := x
  exact ⟨fun b o e => k b o (f1 b o e), f2, Heap.FunFrames.of_keeps (fun b o e _ => ⟨o, k b o e, rfl⟩) f3, oe, vs, T, oT, ts, k _ _ h1, h2, h3, h4, h5, h6, k _ _ h7, h8, h9⟩
section
variable {X : Cx}
/-- the clause's classes are looked up, the exception is held against them -/
theorem ce_run {a : Addr} {oe : Obj} {pn pins : List (Addr × Obj)} {σ : L2.St} {H : Hp} {s : Shared} {ce : Expr} {cs : List Value} {cls : Value} {b : Bool} {E E' : Value → Shared → Prop} {Q : Bool → Shared → Prop} (c : Ce X ce cs) (S : Inv (X.suite a ((a, oe) :: pn)) pins σ H s) (hcls : oe.cls = cls) (hx : PySem.W.exmAny X.K cls cs = some b)
    (q : ∀ h', (∀ b o, s.heap.get? b = some o → h'.get? b = some o) → Q b { s with heap := h' }) :
    wpAny (model X.prog X.w) (X.A.mark (some (.ref a))) (eval ce X.env) (fun c s₁ => wpAny (model X.prog X.w) (X.A.mark (some (.ref a))) (excMatches (.ref a) c) Q E s₁) E' s := by
  have ha : s.heap.get? a = some oe := (S.pin (a, oe) (List.mem_append_left _ List.mem_cons_self)).1
  have ld : ∀ {x : Str} {c : Value} {np : Pos} {Q : Value → Shared → Prop} {E : Value → Shared → Prop}, Names X x c → Q c s → wpAny (model X.prog X.w) (X.A.mark (some (.ref a))) (eval (.Name x np) X.env) Q E s := fun {x c np Q E} hc q => by
    obtain ⟨hg, hdbg, hm | ⟨hm, hv, hnn⟩⟩ := hc
    · exact ld_glob (X := X.suite a ((a, oe) :: pn)) S hg hm q hdbg
    · exact ld_blt (X := X.suite a ((a, oe) :: pn)) S hg hm hv q hnn hdbg
  have lt : ∀ h' : Heap, (∀ b o, s.heap.get? b = some o → h'.get? b = some o) → PySem.W.Looks (model X.prog X.w) h' (typeOf (.ref a)) cls := fun h' k A Q E s k' q => wpAny_typeOf_ref (k' _ _ (k _ _ ha)) (by rw [hcls]; exact q)
  have kin : X.K.In s.heap := S.kIn
  obtain ⟨hp, g, dr, tk, os⟩ := s
  cases c with
  | one hc =>
    obtain ⟨b1, d1, x1, y1, z1⟩ := PySem.W.exmAny_cons hx
    cases y1
    rw [Bool.or_false] at z1
    subst z1
    exact ld hc ((PySem.W.exm_one kin (lt hp fun _ _ e => e) x1).here (q hp fun _ _ e => e))
  | two hc hc' =>
    refine Tuple_ (Calls.spliced_cons (ld hc (Calls.spliced_cons (ld hc' (Calls.spliced_nil ?_)))))
    refine wpAny_newObj_type ?_
    have k : ∀ (ob : Obj) b o, hp.get? b = some o → (hp.push ob).get? b = some o := fun ob b o e => Heap.get?_push_of_some _ e
    exact (PySem.W.exm_tup2 (kin.keeps (k _)) (lt _ (k _)) (Heap.get?_push_at rfl rfl) hx).here (q _ (k _))
theorem ps_tryAs {n : Str} {i : Nat} {body : List Stmt} {h₀ : ExceptHandler} {hds : List ExceptHandler} {l : List (List Value × (Addr → Value → Option Addr → TS))} {pos : Pos} {tb : WX → TS} {Wout : WX} (hs : X.stack = X.env :: X.outer) (hf : X.env.frame = some X.env.locals) (hN : X.N.Nodup) (hi : X.N[i]? = some n) (hln : X.env.kindOf n = some .local) (tk : Takes X Wout)
    (hb : ∀ (W : WX) (pn : List (Addr × Obj)) (xe : Value → Shared → Prop), Takes (X.tr pn xe) W → PassesOwn (model X.prog X.w) X.A X.env xe → PSs (X.tr pn xe) body (tb W))
    (hh : AsOk X n (h₀ :: hds) l) : PS X (.Try body (h₀ :: hds) [] [] pos) (fun D σ H => tb (wAsMany X.K i Wout D l) D σ H) := by
  refine ⟨fun pins s σ H D I h => ?_⟩
  have ok := I.ok
  have hfr : X.A.frames = some (X.env :: X.outer) := by rw [ok.frames, hs]
  have hloc : Loc X.env.scope n := .inl hln
  have back : ∀ {f : Flow} {s1 : Shared} {pn : List (Addr × Obj)} {xe : Value → Shared → Prop}, SP (X.tr (X.pn ++ pins) xe) [] D f s1 → SP X pins D f s1 := fun {f s1 pn xe} hsp => by
    cases f with
    | next => obtain ⟨σ', H', J', q⟩ := hsp; exact ⟨σ', H', J'.ofTry ok, q⟩
    | brk => obtain ⟨σ', H', J', q⟩ := hsp; exact ⟨σ', H', J'.ofTry ok, q⟩
    | cont => obtain ⟨σ', H', J', q⟩ := hsp; exact ⟨σ', H', J'.ofTry ok, q⟩
    | ret u => obtain ⟨v, σ', H', J', r, q⟩ := hsp; exact ⟨v, σ', H', J'.ofTry ok, r, q⟩
  refine wpAny_Try_except ?_
  refine wpAny_mono ((hb (wAsMany X.K i Wout D l) (X.pn ++ pins) (fun e s₁ => wpAny (model X.prog X.w) X.A (noteFrame e X.env) (fun _ s₂ => wpAny (model X.prog X.w) X.A (setFlight e none) (fun _ s₃ =>
    wpAny (model X.prog X.w) X.A (handleBy e X.env (h₀ :: hds)) (SP X pins D) X.xe s₃) X.xe s₂) X.xe s₁) (fun u s' xx => ?_) PassesOwn.looking).run [] s σ H D (I.toTry _) h) (fun f s1 hsp => ?_) (fun e s1 he => he)
  · obtain ⟨a, B, sI, pins', σ', H', cls, d, rfl, J', nb, up, sky, na, os, ag, w⟩ := xx
    have J : Inv X pins σ' H' sI := J'.ofTry ok
    have sky' : Sky B (X.env :: X.outer) a (Zc cls d) X.env.locals s'.heap := by rw [← hs]; exact sky
    show wpAny (model X.prog X.w) X.A (noteFrame (.ref a) X.env) _ _ _
    refine Sky.land Zc.steady hfr hf sky' fun h3 fl3 up3 => ?_
    have notFr : a ∉ frs (X.env :: X.outer) := fun hm => by
      obtain ⟨oe3, vs3, he3, hz3, hd3⟩ := fl3.there
      obtain ⟨_, o', e', hnf⟩ := fl3.2.2.1.mem hm
      rw [he3] at e'; cases e'
      exact hnf _ hd3
    have nL : a ≠ X.env.locals := fun z => notFr (List.mem_filterMap.mpr ⟨X.env, List.mem_cons_self, by rw [hf, z]⟩)
    have nF : a ∉ X.fs := fun hm => by
      obtain ⟨e, he, q⟩ := List.mem_filterMap.mp hm
      exact notFr (List.mem_filterMap.mpr ⟨e, List.mem_cons_of_mem _ he, q⟩)
    have go : ∀ {hds' : List ExceptHandler} {l' : List (List Value × (Addr → Value → Option Addr → TS))}, AsOk X n hds' l' → wAsMany X.K i Wout D l' cls d σ' H' → ∀ h3 : Heap, HandSPX.FlyingZ B (X.env :: X.outer) a (Zc cls d) h3 → sI.heap.UpToSlots h3 →
        wpAny (model X.prog X.w) X.A (handleBy (.ref a) X.env hds') (SP X pins D) X.xe { s' with heap := h3 } := by
      intro hds' l' hk
      induction hk with
      | nil =>
        intro w h3 fl3 up3
        refine wpAny_handleBy_nil ?_
        obtain ⟨k1, k2, k3, oe, vs, T, oT, ts', he, hz, hd, h1, hr⟩ := id fl3
        unfold PySem.passOn
        refine wpAny_bind (wpAny_field he hd h1 ?_)
        rw [if_neg (show ¬ ((Value.ref T == Value.none) = true) from by simp)]
        have fin : wpAny (model X.prog X.w) X.A (setFlight (.ref a) X.env.frame) (fun _ s4 => wpAny (model X.prog X.w) X.A (throw (.ref a) : Sem Flow) (SP X pins D) X.xe s4) X.xe { s' with heap := h3 } := by
          rw [hf]
          refine HandSPX.setFlight_upZ fl3 fun h4 hh4 up4 => wpAny_throw (tk _ _ ?_)
          exact ⟨a, B, sI, pins, σ', H', cls, d, rfl, J, nb, up3.trans up4, .inr (.inr (by rw [hs]; exact hh4)), na, os, ag, w⟩
        first
          | exact wpAny_bind (wpAny_pure (wpAny_bind fin))
          | exact wpAny_bind fin
      | @cons ce cs ts b₀ suite pos' hds2 l2 hc hsu r ih =>
        intro w h3 fl3 up3
        obtain ⟨b, hb1, hyes, hno⟩ := w
        obtain ⟨oe3, vs3, he3, hz3, hd3⟩ := fl3.there
        have S3 := (J.landed (s' := { s' with heap := h3 }) nb fl3.1 up3 os ag).suite he3 hd3 na nL nF
        refine wpAny_handleBy_cons (codeAny_handlers_test (ce_run hc S3 hz3.1 hb1 fun h3' k3 => ?_)) (by intro q; cases q)
        have fl3' := fly_kept fl3 k3
        have up3' : sI.heap.UpToSlots h3' := up3.trans (Heap.UpToSlots.of_keeps k3)
        cases b with
        | true =>
          refine codeAny_handlers_suite_as ?_
          refine HandSPX.lands_againZ (s := { s' with heap := h3' }) fl3' fun h4 fl4 up4 => ?_
          have J4 : Inv X pins σ' H' { s' with heap := h4 } := J.landed nb fl4.1 (up3'.trans up4) os ag
          obtain ⟨oe4, vs4, he4, hz4, hd4⟩ := fl4.there
          have S4 := J4.suite he4 hd4 na nL nF
          refine store_ok (X := X.suite a ((a, oe4) :: (X.pn ++ pins))) (v := .ref a) S4 hN hi hloc rfl (fun s5 S5 => ?_) (.inr hln)
          refine wpAny_mono ((hsu a oe4 cls d (X.pn ++ pins) hz4 ⟨_, hd4⟩).run [] s5 _ H' _ S5 (hyes rfl a na)) (fun f s6 hsp => ?_) (fun _ _ z => False.elim z)
          have end_ : ∀ {σ6 : L2.St} {H6 : Hp} {Q : Shared → Prop}, Inv (X.suite a ((a, oe4) :: (X.pn ++ pins))) [] σ6 H6 s6 → (∀ s7, Inv X pins (σ6.set i none) H6 s7 → Q s7) →
              wpAny (model X.prog X.w) X.A (do bindName X.env n .none; unbindBehindTheSuite X.env n pos') (fun _ s7 => Q s7) X.xe s6 := fun {σ6 H6 Q} S6 hq => gone_ok (S6.unsuite ok) hN hi hln hq
          cases f with
          | next => obtain ⟨σ6, H6, S6, q6⟩ := hsp; exact end_ S6 fun s7 J7 => ⟨_, _, J7, q6⟩
          | brk => obtain ⟨σ6, H6, S6, q6⟩ := hsp; exact end_ S6 fun s7 J7 => ⟨_, _, J7, q6⟩
          | cont => obtain ⟨σ6, H6, S6, q6⟩ := hsp; exact end_ S6 fun s7 J7 => ⟨_, _, J7, q6⟩
          | ret u => obtain ⟨v6, σ6, H6, S6, r6, q6⟩ := hsp; exact end_ S6 fun s7 J7 => ⟨_, _, _, J7, r6, q6⟩
        | false =>
          show wpAny _ X.A (handleBy (.ref a) X.env hds2) _ _ _
          exact ih (hno rfl) h3' fl3' up3'
    exact go hh w h3 fl3 (up.trans up3)
  · cases f with
    | next => exact wpAny_execs_nil (back (pn := []) hsp)
    | brk => exact back (pn := []) hsp
    | cont => exact back (pn := []) hsp
    | ret u => exact back (pn := []) hsp
end
end Ts
/-! ### try over data -/
namespace Ts
open PySem PySem.Spec PyProof.Rows L2
/-- what a VC wants, as a reading -/
def tVC (K : PySem.W.Frag) (mg : Str → Option Value) (W : WX) (v : VS) : TS := fun D σ H => ∃ F s m G, Le F H ∧ EnvR K mg F H σ s m ∧ v s m G ∧ Lk K mg W F H m G D
theorem JSs.tvc {X : Cx} {W : WX} {st : List Stmt} {v : VS} (h : JSs X W st v) : PSs X st (tVC X.K X.mg W v) := by
  obtain ⟨t, p, sn⟩ := h
  exact ⟨fun pins s σ H D I ⟨F, sl, m, G, l, en, hv, L⟩ => p.run pins s σ H D I (sn σ F H sl m G l en hv D L)⟩
/-- the fields of the class at C can be read -/
def Xfl (K : PySem.W.Frag) (C : Addr) (ns : List Str) : Prop := XfC K C ∧ ∀ n ∈ ns, PySem.W.findIn K (.ref C) n = some none
/-- which classes a clause takes -/
def onB : Option Bool → Prop → Prop → Prop
  | some true, p, _ => p
  | some false, _, q => q
  | none, _, _ => False
theorem onB_of {o : Option Bool} {p q : Prop} (h : onB o p q) : ∃ b, o = some b ∧ (b = true → p) ∧ (b = false → q) := by
  cases o with
  | none => exact h.elim
  | some b =>
    cases b with
    | true => exact ⟨true, rfl, fun _ => h, fun z => by cases z⟩
    | false => exact ⟨false, rfl, (fun z => by cases z), fun _ => h⟩
/-- the clauses, one after the other -/
def hdV (i : Nat) : List (List (Str × Bool) × (Addr → Addr → VS)) → DE → XD → SL → Mem → Prop
  | [], G, e, s, m => G.ex e s m
  | (mt, v) :: r, G, e, s, m => onB (mt.lookup e.cls) (∀ a dd, v a dd (s.set i (some (.exn a dd e.fs))) m { nx := fun s' m' => G.nx (s'.set i none) m', rt := G.rt, bk := fun s' m' => G.bk (s'.set i none) m', ct := fun s' m' => G.ct (s'.set i none) m' }) (hdV i r G e s m)
@[reducible] def vTry (i : Nat) (vb : VS) (cl : List (List (Str × Bool) × (Addr → Addr → VS))) : VS := fun s m G => vb s m { G with ex := hdV i cl G }
/-- the clause's table tells true -/
def MtOk (K : PySem.W.Frag) (mg : Str → Option Value) (mt : List (Str × Bool)) (cs : List Value) (ns : List Str) : Prop := ∀ p ∈ mt, ∃ C, mg p.1 = some (.ref C) ∧ PySem.W.exmAny K (.ref C) cs = some p.2 ∧ Xfl K C ns
inductive JHs (X : Cx) (n : Str) (ns : List Str) : List ExceptHandler → List (List (Str × Bool) × (Addr → Addr → VS)) → Prop
  | nil : JHs X n ns [] []
  | cons {ce : Expr} {cs : List Value} {mt : List (Str × Bool)} {v : Addr → Addr → VS} {b₀ : Stmt} {suite : List Stmt} {pos' : Pos} {hds : List ExceptHandler} {l : List (List (Str × Bool) × (Addr → Addr → VS))} (hc : Ce X ce cs) (hm : MtOk X.K X.mg mt cs ns)
      (hsu : ∀ (a dd C : Addr) (oe : Obj) (pn : List (Addr × Obj)), Zc (.ref C) (some dd) oe → (∃ vs, oe.data = .fields vs) → Xfl X.K C ns → JSs (X.suite a ((a, oe) :: pn)) (fun _ _ _ _ => False) (b₀ :: suite) (v a dd)) (r : JHs X n ns hds l) :
      JHs X n ns (.ExceptHandler (some ce) (some n) (b₀ :: suite) pos' :: hds) ((mt, v) :: l)
section
variable {X : Cx} {W : WX}
/-- a suite's reading -/
def tSu (K : PySem.W.Frag) (mg : Str → Option Value) (ns : List Str) (v : Addr → Addr → VS) : Addr → Value → Option Addr → TS := fun a cls d D σ H => ∃ C dd, cls = .ref C ∧ d = some dd ∧ Xfl K C ns ∧ tVC K mg (fun _ _ _ _ => False) (v a dd) D σ H
theorem JHs.as {n : Str} {ns : List Str} {hds : List ExceptHandler} {l : List (List (Str × Bool) × (Addr → Addr → VS))} (h : JHs X n ns hds l) : ∃ cl : List (List Value), AsOk X n hds ((cl.zip l).map fun p => (p.1, tSu X.K X.mg ns p.2.2)) ∧ cl.length = l.length ∧ ∀ p ∈ cl.zip l, MtOk X.K X.mg p.2.1 p.1 ns := by
  induction h with
  | nil => exact ⟨[], .nil, rfl, fun _ h => by cases h⟩
  | @cons ce cs mt v b₀ suite pos' hds l hc hm hsu _ ih =>
    obtain ⟨cl, h1, h2, h3⟩ := ih
    refine ⟨cs :: cl, ?_, by simp [h2], fun p hp => ?_⟩
    · refine .cons hc (fun a oe cls d pn hz hf => ?_) h1
      exact ⟨fun pins s σ H D I ⟨C, dd, ec, ed, hx, ht⟩ => by
        subst ec ed
        exact (hsu a dd C oe pn hz hf hx).tvc.run pins s σ H D I ht⟩
    · rw [List.zip_cons_cons] at hp
      rcases List.mem_cons.mp hp with rfl | hp
      · exact hm
      · exact h3 p hp
theorem mem_look {mt : List (Str × Bool)} {c : Str} {b : Bool} (h : mt.lookup c = some b) : (c, b) ∈ mt := by
  induction mt with
  | nil => cases h
  | cons p mt ih =>
    obtain ⟨x, y⟩ := p
    rw [List.lookup_cons] at h
    cases q : (c == x) with
    | true => rw [q] at h; cases h; rw [beq_iff_eq.mp q]; exact List.mem_cons_self
    | false => rw [q] at h; exact List.mem_cons_of_mem _ (ih h)
/-- the clauses' wish follows from their VC -/
theorem hdV_snd {i : Nat} {ns : List Str} {Wout : WX} {F H : Hp} {m0 : Mem} {G : DE} {D : Ends} (L : Lk X.K X.mg Wout F H m0 G D) :
    ∀ (l : List (List (Str × Bool) × (Addr → Addr → VS))) (cl : List (List Value)), cl.length = l.length → (∀ p ∈ cl.zip l, MtOk X.K X.mg p.2.1 p.1 ns) →
    ∀ (cls : Value) (dd : Option Addr) (e : XD) (σ : L2.St) (s : SL) (F' H' : Hp) (m' : Mem), StM X.K X.mg m0 F H F' H' m' → EnvR X.K X.mg F' H' σ s m' → RpX X.K X.mg F' H' cls dd e → hdV i l G e s m' →
      wAsMany X.K i Wout D ((cl.zip l).map fun p => (p.1, tSu X.K X.mg ns p.2.2)) cls dd σ H'
  | [], cl, hl, hm, cls, dd, e, σ, s, F', H', m', st, en, rx, h => by
    have : cl = [] := List.length_eq_zero_iff.mp hl
    subst this
    exact L.ex cls dd e σ s F' H' m' st en rx h
  | (mt, v) :: l, cs :: cl, hl, hm, cls, dd, e, σ, s, F', H', m', st, en, rx, h => by
    obtain ⟨b, hb, hy, hn⟩ := onB_of h
    obtain ⟨Ca, d, xs, rfl, hmg, rfl, hF, rk⟩ := rx
    obtain ⟨C, h1, h2, h3⟩ := hm (cs, (mt, v)) List.mem_cons_self _ (mem_look hb)
    have h1 : X.mg e.cls = some (.ref C) := h1
    rw [hmg] at h1
    cases h1
    refine ⟨b, h2, fun z a ha => ?_, fun z => hdV_snd L l cl (by simpa using hl) (fun p hp => hm p (List.mem_cons_of_mem _ hp)) _ _ e σ s F' H' m' st en ⟨Ca, d, xs, rfl, hmg, rfl, hF, rk⟩ (hn z)⟩
    refine ⟨Ca, d, rfl, rfl, h3, F', _, m', _, st.le, en.set (.exn (a := a) hF rk), hy z a d, ?_⟩
    exact ⟨fun σ' s' F2 H2 m2 t2 e2 g => L.nx _ _ F2 H2 m2 (st.trans t2) e2.drop g, fun w d2 F2 H2 m2 t2 r2 g => L.rt w d2 F2 H2 m2 (st.trans t2) r2 g, fun σ' s' F2 H2 m2 t2 e2 g => L.bk _ _ F2 H2 m2 (st.trans t2) e2.drop g,
      fun σ' s' F2 H2 m2 t2 e2 g => L.ct _ _ F2 H2 m2 (st.trans t2) e2.drop g, fun _ _ _ _ _ _ _ _ _ _ _ g => g.elim⟩
theorem js_try {n : Str} {i : Nat} {ns : List Str} {body : List Stmt} {h₀ : ExceptHandler} {hds : List ExceptHandler} {l : List (List (Str × Bool) × (Addr → Addr → VS))} {pos : Pos} {vb : VS} (hs : X.stack = X.env :: X.outer) (hf : X.env.frame = some X.env.locals) (hN : X.N.Nodup) (hi : X.N[i]? = some n) (hln : X.env.kindOf n = some .local) (tk : Takes X W)
    (hb : ∀ (W' : WX) (pn : List (Addr × Obj)) (xe : Value → Shared → Prop), Takes (X.tr pn xe) W' → PassesOwn (model X.prog X.w) X.A X.env xe → JSs (X.tr pn xe) W' body vb) (hh : JHs X n ns (h₀ :: hds) l) : JS X W (.Try body (h₀ :: hds) [] [] pos) (vTry i vb l) := by
  obtain ⟨cl, h1, h2, h3⟩ := hh.as
  refine ⟨_, ps_tryAs (tb := fun W' => tVC X.K X.mg W' vb) hs hf hN hi hln tk (fun W' pn xe t p => (hb W' pn xe t p).tvc) h1, fun σ F H s m G l en h E L => ?_⟩
  exact ⟨F, s, m, _, l, en, h, ⟨L.nx, L.rt, L.bk, L.ct, fun cls dd e σ' s' F' H' m' st e2 rx hv => hdV_snd L _ cl h2 h3 cls dd e σ' s' F' H' m' st e2 rx hv⟩⟩
/-! ### e.f of an exception in hand -/
@[reducible] def vXf (a dd : Addr) (n : Str) (ve : VE) : VE := fun s m k x => ve s m (fun d m1 => ∃ fs, d = .exn a dd fs ∧ ∃ d', fs.lookup n = some d' ∧ k d' m1) x
theorem pe_xfP {a C : Addr} {oe : Obj} {dd : Addr} {e : Expr} {te : TE} {pos : Pos} {n : Str} {ns : List Str} (hp : (a, oe) ∈ X.pn) (T : Xfl X.K C ns) (hn : n ∈ ns) (hz : Zc (.ref C) (some dd) oe) (hf : ∃ vs, oe.data = .fields vs) (he : PE X e te) (hb : attributeBase e n X.env (eval e X.env) = eval e X.env := by rfl) :
    PE X (.Attribute e n pos) (fun σ H Q => te σ H fun x H1 => x = .ref a ∧ ∃ (fs : List (Str × V)) (v : V), H1 dd = some (.xd fs) ∧ fs.lookup n = some v ∧ Q v H1) := by
  refine ⟨fun pins s σ H Q I h => ?_⟩
  refine attr_of hb (thn (he.run pins s σ H _ I h) fun u s1 ⟨x, H1, I1, rx, ex, fs, v, ea, lk, q⟩ => ?_)
  subst ex
  obtain rfl : u = Value.ref a := rx
  have ha := (I1.pin (a, oe) (List.mem_append_left _ hp)).1
  obtain ⟨vs, hd⟩ := hf
  obtain ⟨mA, hns, hr⟩ := (show ObjOk X.prog X.w H1 s1.heap dd (.xd fs) from I1.hok dd _ ea)
  obtain ⟨od, ho, hl⟩ := lookIn_ns hns
  obtain ⟨w, hu, ru⟩ := RelO.some_of (v := v) (o := mA n) (by rw [← lk]; exact hr n)
  have J : PySem.W.InstAt s1.heap a oe C (some od) := ⟨ha, hz.1, by unfold PySem.W.notCls; rw [hd] <;> rfl, by rw [hz.2]; exact ho⟩
  exact HandSPX.exc_get I1.kIn J T.1.ga T.1.gg T.1.exC (PySem.W.findObj_own T.1.hdC (T.2 n hn) rfl (by rw [hl, hu])) (handed_of ru) ⟨v, H1, I1.tok _, ru, q⟩
theorem je_xf {a C : Addr} {oe : Obj} {dd : Addr} {e : Expr} {ve : VE} {pos : Pos} {n : Str} {ns : List Str} (hp : (a, oe) ∈ X.pn) (T : Xfl X.K C ns) (hn : n ∈ ns) (hz : Zc (.ref C) (some dd) oe) (hf : ∃ vs, oe.data = .fields vs) (he : JE X W e ve) (hb : attributeBase e n X.env (eval e X.env) = eval e X.env := by rfl) :
    JE X W (.Attribute e n pos) (vXf a dd n ve) := by
  obtain ⟨te, p, s1⟩ := he
  refine ⟨_, pe_xfP hp T hn hz hf p hb, fun σ F H s m k x l en hv hx Q q => s1 σ F H s m _ x l en hv hx _ fun v d F1 H1 m1 t1 r1 ⟨fs, ed, d', lk, k1⟩ => ?_⟩
  subst ed
  cases r1 with
  | exn hF rk =>
    obtain ⟨w, h1, h2⟩ := rk.lookup lk
    exact ⟨rfl, _, w, t1.le.at hF id, h1, q _ _ F1 H1 m1 t1 h2 k1⟩
end
end Ts
/-! ### a def that is handed the exception in hand -/
namespace Ts
open PySem PySem.Spec PyProof.Rows L2
structure FnF (P : Program) (w : World) (K : PySem.W.Frag) (mg : Str → Option Value) (base : Heap) (x : Str) (k : Nat) (ns : List Str) (φ : Addr → Addr → P0) : Prop where
  ex : ∃ f, mg x = some (.ref f) ∧ PySem.W.keepIn K (.ref f) = true ∧ ∀ (A : Around) (outer : List Env) (s : Shared) (H : Hp) (us : List Value) (vs : List V) (Q : VK) (p : Addr × Obj) (C dd : Addr), L2H.RoomH k A → L2H.PinOk outer H s p → Zc (.ref C) (some dd) p.2 → (∃ vs, p.2.data = .fields vs) → Xfl K C ns → Env0 P w K mg base A outer s H → Vals vs us →
    Sp0 K mg (φ p.1 dd) vs H Q (fun _ _ _ => False) → codeAny (model P w) A (.call (.ref f) ⟨us, []⟩) (CR CX0 outer P w H s Q (fun _ _ _ => False)) s
section
variable {P : Program} {w : World} {K : PySem.W.Frag} {mg : Str → Option Value} {base : Heap} {x qual : Str} {params : Arguments} {body : List Stmt} {scope : Scope} {dvs : List V} {kws : List (Str × V)} {f : Addr} {fd : FuncData}
theorem fn_F {φ : Addr → Addr → P0} {v : Addr → Addr → VS} {N ps : List Str} {k : Nat} {ns : List Str} (hm : mg x = some (.ref f)) (F : FunD K x qual params body scope dvs kws f fd) (S : FnScope N ps scope) (hbd : Binds K fd ps []) (hl : ∀ a dd ds m k, φ a dd ds m k → ds.length = ps.length)
    (hb : ∀ (cdv : Value) (A : Around) (outer : List Env) (s : Shared) (H : Hp) (p : Addr × Obj) (C dd : Addr), L2H.RoomH k (A.deeper (envOfC qual scope s.heap.objs.size f cdv)) → Zc (.ref C) (some dd) p.2 → (∃ vs, p.2.data = .fields vs) → Xfl K C ns →
      JSs (L2H.cxH CX0 P w K mg base N qual scope f cdv A outer s H (fun _ _ _ => False) p).nox (fun _ _ _ _ => False) body (v p.1 dd))
    (hw : ∀ a dd ds m k, φ a dd ds m k → v a dd (dstart N.length ds) m (endP k)) : FnF P w K mg base x (k + 1) ns φ := by
  refine ⟨f, hm, F.kp, fun A outer s H us vs Q p C dd hr hpin hz hf hx e0 r hsp => ?_⟩
  obtain ⟨oc, od, dV, kV, doc, pm, an, cdv, ct, osl, rfl, lk, hcd, hD, hK⟩ := F.ex
  obtain ⟨F0, ds, m, kk, l, rl, mr, hφ, q⟩ := hsp
  have hlen : vs.length = ps.length := by rw [rl.len, hl _ _ _ _ _ hφ]
  have KX : K.In s.heap := e0.mod.kin.keeps fun b o e => (e0.bs b o e).1
  have lim : s.heap.NoLimit := e0.mod.nolimit.keeps fun b o e => (e0.bs b o e).1
  have hbs := hbd s us KX (by rw [List.append_nil, ← r.length]; exact hlen)
  rw [List.append_nil] at hbs
  have hkind : ∀ y ∈ ps.zip us, scope.names.lookup y.1 = some .local ∨ (scope.names.lookup y.1 = some .cell ∧ ((cellsFrom (s.heap.objs.size + 1) scope.names []).lookup y.1).isSome = true) := fun ⟨n, v⟩ hy => (S.par n (List.of_mem_zip hy).1).imp id fun q => ⟨q, PySem.W.cellsFrom_some _ _ _ (.inl q)⟩
  refine codeAny_call_function hr.depth (KX _ _ lk) rfl S.co S.gen rfl (PySem.W.codeRec_of KX hcd) (hbs _ _ _ _ ?_)
  refine wpAny_newFunctionEnv_cells S.kind hkind fun env he s1 x => ?_
  subst he
  refine ⟨lim.keeps x.toInCall.keep, codeAny_func ?_⟩
  obtain ⟨t, ht, sn⟩ := hb cdv A outer s H p C dd (hr.deeper _) hz hf hx
  have I := L2H.inv_startH (CX := CX0) (E := fun _ _ _ => False) S hpin e0 hlen r x
  have hq : t { nx := fun _ H' => Q .non H', rt := Q } (L2.start N vs) H := sn _ F0 H _ m _ l (env_start mr rl) (hw _ _ _ _ _ hφ) _ ⟨fun σ' s' F' H' m' st e g => q _ _ F' H' m' st .non g, fun v d F' H' m' st rd g => q v d F' H' m' st rd g, fun _ _ _ _ _ _ _ g => g.elim, fun _ _ _ _ _ _ _ g => g.elim, fun _ _ _ _ _ _ _ _ _ _ _ g => g.elim⟩
  refine wpAny_mono (ht.nox.run [] s1 (L2.start N vs) H _ I hq) (fun fl s' hs => ?_) fun e s' hs => hs
  cases fl with
  | ret u => obtain ⟨v, σ', H', J, rv, q⟩ := hs; exact ⟨v, H', J.os, J.bare, J.base, J.hok, rv, q⟩
  | next => obtain ⟨σ', H', J, q⟩ := hs; exact ⟨.non, H', J.os, J.bare, J.base, J.hok, rfl, q⟩
  | brk => obtain ⟨_, _, _, q⟩ := hs; exact q.elim
  | cont => obtain ⟨_, _, _, q⟩ := hs; exact q.elim
end
section
variable {X : Cx} {W : WX}
theorem je_fnF {φ : Addr → Addr → P0} {x : Str} {k : Nat} {ns : List Str} {a C dd : Addr} {oe : Obj} {e : Expr} {es : List Expr} {va : VA} {p pos : Pos} (G : FnF X.prog X.w X.K X.mg X.base x k ns φ) (hr : L2H.RoomH k X.A) (hp : (a, oe) ∈ X.pn) (hz : Zc (.ref C) (some dd) oe) (hf : ∃ vs, oe.data = .fields vs) (T : Xfl X.K C ns) (hg : Gl X x) (ha : JA X W (e :: es) va)
    (hdb : (x == ("__debug__" : Str)) = false := by decide) (he : starEach (e :: es) X.env = (false, eval e X.env) :: starEach es X.env := by rfl) (hpl : (backTo pos (starEach es X.env)).any (·.1) = false := by rfl) :
    JE X W (.Call (.Name x p) (e :: es) [] pos) (vCall (φ a dd) va) := by
  obtain ⟨ta, p1, s1⟩ := ha
  obtain ⟨f, hm, kp, run⟩ := G.ex
  refine ⟨fun σ H Q => ta σ H fun vs H1 => Sp0 X.K X.mg (φ a dd) vs H1 Q (fun _ _ _ => False), ⟨fun pins s σ H Q I h => ?_⟩, fun σ F H s m k x l en hv hx Q q => s1 σ F H s m _ x l en hv hx _ fun us ds F1 H1 m1 t1 r1 k1 =>
    ⟨F1, ds, m1, _, t1.le, r1, t1.mr, k1, fun v d F2 H2 m2 t2 r2 k2 => q v d F2 H2 m2 (t1.trans t2) r2 k2⟩⟩
  refine wpAny_Call_Name_kw (ld_glob I hg hm ?_ hdb)
  refine PySem.W.callWith_K (h₀ := X.base) I.ok.mod.kin kp (thn (p1.run pos pins s σ H _ I h) fun us s1 ⟨vs, H1, I1, r, q⟩ => ⟨I1.kIn, ?_⟩) he hpl
  have P1 := I1.pin (a, oe) (List.mem_append_left _ hp)
  have hpin : L2H.PinOk X.stack H1 s1 (a, oe) := ⟨P1.1, P1.2.1, fun hm => (List.mem_cons.mp (I1.stkSub a hm)).elim P1.2.2.1 P1.2.2.2.1, P1.2.2.2.2⟩
  refine wpAny_call (codeAny_mono (run X.A X.stack s1 H1 us vs Q (a, oe) C dd hr hpin hz hf T I1.env0 r q) fun r s' hq => ?_)
  cases r with
  | error e => exact (show False from hq).elim
  | ok fl =>
    cases fl with
    | ret u => exact I1.after hq
    | next => exact False.elim hq
    | brk => exact False.elim hq
    | cont => exact False.elim hq
end
end Ts
/-! ### x(lambda: e) -/
namespace Ts
open PySem PySem.Spec PyProof.Rows L2
/-- what the making of a lambda does to what is tracked -/
def LamH (P : Addr) (q : Str) (ps : Array Value) (H H1 : Hp) (c : Addr) : Prop :=
  (H1 = H ∧ ∃ pos, codeAmong pos ps.toList = some (.ref c)) ∨
    ∃ more : Array Value, H c = none ∧ H1 = upd (upd H P (.tbl more)) c (LamX.CodeO c q) ∧ TriplesOk more.toList ∧ ∀ (pos : Pos) (cv : Value), codeAmong pos more.toList = some cv → codeAmong pos ps.toList = some cv ∨ cv = .ref c
section
variable {X : Cx} {pins : List (Addr × Obj)} {σ : L2.St} {H : Hp} {s : Shared}
theorem lam_mk {c P : Addr} {ps : Array Value} {params : Arguments} {body : Expr} {scope : Scope} {pos : Pos} {E : Value → Shared → Prop} {Q : Value → Shared → Prop} (I : Inv X pins σ H s) (TB : LamX.TabB X.base X.mg c P) (hcode : X.env.code = .ref c)
    (hP : H P = some (.tbl ps)) (ht : TriplesOk ps.toList) (ha : ∀ (pos : Pos) (cv : Value), codeAmong pos ps.toList = some cv → ∃ c, cv = .ref c ∧ H c = some (LamX.CodeO c (X.env.qual ++ "<lambda>"))) (hdef : defaultsOf params X.env = ([], [])) (hfree : ∀ y ∈ scope.names, y.2 = .free → ∃ c, X.env.cells.lookup y.1 = some c)
    (h : ∀ (f c' : Addr) (pm ctv : Value) (H1 : Hp) (s' : Shared), Inv X pins σ H1 s' → LamH P (X.env.qual ++ "<lambda>") ps H H1 c' →
      s'.heap.get? f = some (PySem.W.kla_obj "<lambda>" (X.env.qual ++ "<lambda>") params body scope (cloFrom X.env.cells scope.names []) pm c' ctv) → H1 f = none → f ∉ frs X.stack → Q (.ref f) s') :
    wpAny (model X.prog X.w) X.A (eval (.Lambda params body scope pos) X.env) Q E s := by
  refine PySem.W.kla_eval hdef ?_
  have bP : s.heap.BuiltinsAt X.mg P := TB.bm.keeps I.bk
  have hP' : s.heap.get? P = some { cls := .none, data := .fields ps } := I.hok P _ hP
  have far : ∀ f, s.heap.objs.size ≤ f → f ∉ frs X.stack := fun f hf z => (List.mem_cons.mp (I.stkSub _ z)).elim (fun e => Nat.lt_irrefl _ (Nat.lt_of_lt_of_le (e ▸ I.lt) hf)) (I.nofs hf)
  cases hc : codeAmong pos ps.toList with
  | none =>
    refine PySem.W.kla_makeFunction (mg := X.mg) (c := c) (P := P) (ps := ps) (closure_ok hfree) I.ok.glob (I.mod.glob.keeps I.bk) hcode (TB.code.keeps I.bk) hP' ht hc TB.gP bP fun c' ctv h' tk hx hge hlt hrec htb => ?_
    obtain ⟨c2, oc, vs, t, e2, hoc, hd, hv⟩ := hrec
    cases e2
    have hsz : s.heap.objs.size ≤ h'.objs.size := Nat.le_trans hge (Nat.le_of_lt hlt)
    have I1 := LamX.inv_table (t' := tk) (more := #[rawInt pos.line, rawInt pos.col, .ref c']) (h' := h'.push (PySem.W.kla_obj "<lambda>" (X.env.qual ++ "<lambda>") params body scope (cloFrom X.env.cells scope.names []) ((X.mg "__name__").getD .none) c' ctv)) I hP
      (fun b o hb e => Heap.get?_push_of_some _ (hx b o hb e)) (Heap.get?_push_of_some _ htb) hge ⟨oc, vs, t, Heap.get?_push_of_some _ hoc, hd, hv⟩
    have eL : (ps ++ #[rawInt pos.line, rawInt pos.col, .ref c']).toList = ps.toList ++ [rawInt pos.line, rawInt pos.col, .ref c'] := by simp
    refine h h'.objs.size c' ((X.mg "__name__").getD .none) ctv _ _ I1 (.inr ⟨_, I.hok.fresh hge, rfl, by rw [eL]; exact PySem.TriplesOk_snoc _ _ _ _ ht, fun p' cv hcv => LamX.among_app _ ht (by rw [← eL]; exact hcv)⟩) (Heap.get?_push_size _ rfl) ?_ (far _ hsz)
    rw [upd_ne (Nat.ne_of_gt hlt), upd_ne (Nat.ne_of_gt (Nat.lt_of_lt_of_le (Heap.lt_size hP') hsz))]
    exact I.hok.fresh hsz
  | some cv =>
    obtain ⟨c', e, hco⟩ := ha pos cv hc
    subst e
    refine PySem.W.kla_makeFunctionHit (mg := X.mg) (c := c) (P := P) (ps := ps) (closure_ok hfree) I.ok.glob (I.mod.glob.keeps I.bk) hcode (TB.code.keeps I.bk) hP' ht hc bP fun ctv h' tk hx hsz => ?_
    have I1 : Inv X pins σ H { s with heap := h'.push (PySem.W.kla_obj "<lambda>" (X.env.qual ++ "<lambda>") params body scope (cloFrom X.env.cells scope.names []) ((X.mg "__name__").getD .none) c' ctv), toks := tk } := I.kept fun b o e => Heap.get?_push_of_some _ (hx b o e)
    exact h h'.objs.size c' _ ctv H _ I1 (.inl ⟨rfl, pos, hc⟩) (Heap.get?_push_size _ rfl) (I.hok.fresh hsz) (far _ hsz)
/-- the lambda is called by its name in the def that got it -/
theorem pe_ask {Ng : List Str} {qg : Str} {sg : Scope} {g f c' : Addr} {cdg pm ctv : Value} {params : Arguments} {body : Expr} {scope : Scope} {k i : Nat} {a : Str} {pn : List (Addr × Obj)} {xe : Value → Shared → Prop} {W : WX} {tb : XK → TE} {p1 p2 : Pos}
    (I : Inv X pins σ H s) (L : LamX.LamS X.env.scope scope) (hf : s.heap.get? f = some (PySem.W.kla_obj "<lambda>" (X.env.qual ++ "<lambda>") params body scope (cloFrom X.env.cells scope.names []) pm c' ctv)) (hfn : H f = none) (hfr : f ∉ frs X.stack)
    (hbind : bindArgs (PySem.W.kla_fn "<lambda>" (X.env.qual ++ "<lambda>") params body scope (cloFrom X.env.cells scope.names []) pm (.ref c') ctv) ⟨[], []⟩ = pure [])
    (tk : Takes ((cxOf CX0 X.prog X.w X.K X.mg X.base Ng qg sg g cdg X.A X.stack s H E0).tr pn xe) W) (hr : Room (k + 1) (X.A.deeper (envOfC qg sg s.heap.objs.size g cdg)))
    (hbody : ∀ (A : Around) (outer : List Env) (s : Shared) (H : Hp) (E : XK), Room k (A.deeper (LamX.lamEnv X scope s.heap.objs.size f c')) → PE (LamX.lamCx X A outer s H E scope f c') body (tb E))
    (hN : Ng[i]? = some a) (hv : Vis sg a) (hd : (a == ("__debug__" : Str)) = false := by decide) (hcd : (a == ("__classdict__" : Str)) = false := by decide) :
    PE ((cxOf CX0 X.prog X.w X.K X.mg X.base Ng qg sg g cdg X.A X.stack s H E0).tr pn xe) (.Call (.Name a p1) [] [] p2)
      (fun σZ HZ Q => σZ[i]? = some (some (.ref f)) ∧ HZ c' = some (LamX.CodeO c' (X.env.qual ++ "<lambda>")) ∧ tb (fun cls d H' => W cls d σZ H') σ HZ Q) := by
  refine ⟨fun pinsZ sZ σZ HZ Q IZ ⟨hs, hc, ht⟩ => ?_⟩
  refine wpAny_Call_Name_kw (thn ((pe_var (pos := p1) (i := i) hN hv hd hcd).run pinsZ sZ σZ HZ (fun v H1 => v = .ref f ∧ H1 = HZ) IZ ⟨.ref f, hs, rfl, rfl⟩) fun u s1 ⟨v, H1, I1, r1, ev, eH⟩ => ?_)
  subst ev
  rw [eH] at I1
  obtain rfl : u = Value.ref f := r1
  have of1 : s1.heap.get? f = some (PySem.W.kla_obj "<lambda>" (X.env.qual ++ "<lambda>") params body scope (cloFrom X.env.cells scope.names []) pm c' ctv) := I1.base.keep f _ hf hfn hfr (fun z => nomatch (show f ∈ ([] : List Addr) from z))
  refine PySem.W.callWith_F0 ⟨_, _, _, _, of1⟩ ?_
  have un : Un (frs X.stack) [] H HZ s.heap s1.heap := I1.base
  obtain ⟨⟨oc, vs, t, hoc, hdc, hvc⟩, _, _⟩ := I1.hok c' _ hc
  have rc : codeAny (model X.prog X.w) (X.A.deeper (envOfC qg sg s.heap.objs.size g cdg)) (.call (.ref f) ⟨[], []⟩) (CR (L2.CX X.prog X.w) (envOfC qg sg s.heap.objs.size g cdg :: X.stack) X.prog X.w HZ s1 Q (fun cls d H' => W cls d σZ H')) s1 := by
    refine PySem.W.kla_callFunE hr.depth of1 rfl L.co L.gen rfl ⟨c', oc, vs, t, rfl, hoc, hdc, hvc⟩ ?_
    rw [hbind]
    refine wpAny_pure (wpAny_newFunctionEnv (fun y hy => (L.own y hy).2) (fun y hy => absurd hy (by simp)) (fun h₁ hns hsb => ⟨I1.nolimit.fresh _ hsb, ?_⟩) L.kind)
    show codeAny _ _ (.expr body (LamX.lamEnv X scope s1.heap.objs.size f c')) _ _
    have kp : ∀ b o, s1.heap.get? b = some o → h₁.get? b = some o := fun b o e => hsb.extBut b o (Nat.ne_of_lt (Heap.lt_size e)) (Heap.get?_push_of_some _ e)
    have J := LamX.lam_start2 (E := fun cls d H' => W cls d σZ H') (f := f) (c' := c') (tk := s1.toks + ([] : List (Str × Value)).length) I L I1.env0 hr.hd un hns kp
    refine PySem.W.kla_codeExpr (wpAny_mono ((hbody _ _ s1 HZ _ (hr.deeper _)).run [] _ _ HZ Q J ht) (fun v s' ⟨w', H', J', rv, q⟩ => ?_) fun e s' hq => hq)
    exact ⟨w', H', J'.os, J'.bare, J'.base, J'.hok, rv, q⟩
  refine wpAny_call (codeAny_mono rc fun r s' hq => ?_)
  cases r with
  | error e => exact tk e s' (XE.of_call I1 (fun cls d H' h => h) hq)
  | ok fl =>
    cases fl with
    | ret u => exact I1.after hq
    | next => exact False.elim hq
    | brk => exact False.elim hq
    | cont => exact False.elim hq
end
/-- the step that makes a lambda -/
theorem lam_stm {K : PySem.W.Frag} {mg : Str → Option Value} {F H H1 : Hp} {m : Mem} {P c : Addr} {q : Str} {ps : Array Value} (l : Le F H) (mr : MemR K mg F H m) (hm : m P = some (.tab q)) (hP : H P = some (.tbl ps)) (hc : ∀ (pos : Pos) (cv : Value), codeAmong pos ps.toList = some cv → ∃ c, cv = .ref c ∧ F c = some (LamX.CodeO c q))
    (h : LamH P q ps H H1 c) : ∃ F1, StM K mg m F H F1 H1 m ∧ F1 c = some (LamX.CodeO c q) := by
  rcases h with ⟨rfl, pos, e⟩ | ⟨more, nc, rfl, tr, ha⟩
  · obtain ⟨c2, e2, hF⟩ := hc _ _ e
    cases e2
    exact ⟨F, StM.refl l mr, hF⟩
  · have fc : F c = none := l.none nc
    have fP : F P = none := (mr P _ hm).1
    have nPc : P ≠ c := ne_of_none hP nc
    have at_ : ∀ b, b ≠ P → b ≠ c → upd (upd H P (.tbl more)) c (LamX.CodeO c q) b = H b := fun b h1 h2 => by rw [upd_ne h2, upd_ne h1]
    have atP : upd (upd H P (.tbl more)) c (LamX.CodeO c q) P = some (.tbl more) := by rw [upd_ne nPc, upd_same]
    refine ⟨upd F c (LamX.CodeO c q), ⟨fun a o e n => ?_, fun a e => ?_, gr_upd fc, fun a o e => ?_, fun a o e => ?_, fun a o e => ?_, fun a e => .inl e, fun a ob u e => ?_⟩, upd_same⟩
    · rw [at_ a (fun z => by rw [z, hm] at n; cases n) (ne_of_none e nc)]; exact e
    · by_cases h1 : a = P
      · rw [h1, atP]; simp
      · rw [at_ a h1 (fun z => e (by rw [z]; exact nc))]; exact e
    · by_cases h1 : a = c
      · subst h1; rw [upd_same] at e; cases e; exact .inl upd_same
      · rw [upd_ne h1] at e
        rw [at_ a (fun z => by rw [z, fP] at e; cases e) h1]
        exact l a o e
    · obtain ⟨z1, z2⟩ := mr a o e
      have h1 : a ≠ c := fun z => z2.there (by rw [z]; exact nc)
      refine ⟨by rw [upd_ne h1]; exact z1, ?_⟩
      by_cases h2 : a = P
      · subst h2
        rw [hm] at e
        cases e
        refine ⟨more, atP, tr, fun pos cv hcv => ?_⟩
        rcases ha pos cv hcv with z | z
        · obtain ⟨c0, e1, e2⟩ := hc pos cv z
          exact ⟨c0, e1, gr_upd fc _ _ e2⟩
        · exact ⟨c, z, upd_same⟩
      · exact z2.keep (gr_upd fc) fun u hu => by rw [at_ a h2 h1]; exact hu
    · by_cases h1 : a = c
      · subst h1; exact .inr (.inl nc)
      · rw [upd_ne h1] at e; exact .inl e
    · rw [at_ a (fun z => by rw [z, hP] at e; cases e) (ne_of_none e nc)]; exact e
/-- the lambda is called: what it wants of the names of the frame that made it -/
@[reducible] def vAsk (i : Nat) (f c : Addr) (q : Str) (σ : L2.St) (sl : SL) (ve : VE) : VE := fun s m k x => s[i]? = some (some (.clo f c q σ sl)) ∧ ve sl m k x
/-- x(lambda: e): vg is what x's body wants, its parameter's call told -/
@[reducible] def vLam (P : Addr) (q : Str) (n : Nat) (ve : VE) (vg : VE → VS) : VE := fun s m k x => m P = some (.tab q) ∧ ∀ f c σ, vg (vAsk 0 f c q σ s ve) (dstart n [.clo f c q σ s]) m (endP k)
section
variable {X : Cx} {W : WX}
theorem je_lam {P c g : Addr} {x a : Str} {k : Nat} {pg : Arguments} {bg : List Stmt} {sg : Scope} {fd : FuncData} {Ng : List Str} {kws : List (Str × V)} {params : Arguments} {body : Expr} {scope : Scope} {ve : VE} {vg : VE → VS} {p lpos pos : Pos} (hg : Gl X x) (hm : X.mg x = some (.ref g)) (D : FunD X.K x x pg bg sg [] kws g fd) (hb : Binds X.K fd [a] []) (Sg : FnScope Ng [a] sg) (hNg : Ng[0]? = some a) (hva : Vis sg a)
    (hG : ∀ (cdv : Value) (A : Around) (outer : List Env) (s : Shared) (H : Hp) (ask : VE), Room (k + 1) (A.deeper (envOfC x sg s.heap.objs.size g cdv)) →
      (∀ (W' : WX) (pn : List (Addr × Obj)) (xe : Value → Shared → Prop) (p1 p2 : Pos), Takes ((cxOf CX0 X.prog X.w X.K X.mg X.base Ng x sg g cdv A outer s H E0).tr pn xe) W' → JE ((cxOf CX0 X.prog X.w X.K X.mg X.base Ng x sg g cdv A outer s H E0).tr pn xe) W' (.Call (.Name a p1) [] [] p2) ask) →
      JSs (cxOf CX0 X.prog X.w X.K X.mg X.base Ng x sg g cdv A outer s H E0).nox (fun _ _ _ _ => False) bg (vg ask))
    (TB : LamX.TabB X.base X.mg c P) (hcode : X.env.code = .ref c) (hr : Room (k + 2) X.A) (L : LamX.LamS X.env.scope scope) (hdef : defaultsOf params X.env = ([], []))
    (hbind : ∀ (q : Str) (cl : List (Str × Addr)) (pm cv ctv : Value), bindArgs (PySem.W.kla_fn "<lambda>" q params body scope cl pm cv ctv) ⟨[], []⟩ = pure [])
    (hbody : ∀ (A : Around) (outer : List Env) (s : Shared) (H : Hp) (E : XK) (f c' : Addr), Room k (A.deeper (LamX.lamEnv X scope s.heap.objs.size f c')) → JE (LamX.lamCx X A outer s H E scope f c') (fun cls d _ H => E cls d H) body ve)
    (hdb : (x == ("__debug__" : Str)) = false := by decide) (hd : (a == ("__debug__" : Str)) = false := by decide) (hcd : (a == ("__classdict__" : Str)) = false := by decide) :
    JE X W (.Call (.Name x p) [.Lambda params body scope lpos] [] pos) (vLam P (X.env.qual ++ "<lambda>") Ng.length ve vg) := by
  refine ⟨fun σ H Q => ∃ F sl m k, Le F H ∧ EnvR X.K X.mg F H σ sl m ∧ vLam P (X.env.qual ++ "<lambda>") Ng.length ve vg sl m k (fun _ _ => False) ∧ ∀ v d F' H' m', StM X.K X.mg m F H F' H' m' → Rp X.K X.mg F' v d → k d m' → Q v H', ⟨fun pins s σ H Q I ⟨F, sl, m, kk, l, en, ⟨hmP, hv⟩, q⟩ => ?_⟩,
    fun σ F H s m k x l en hv hx Q q => ⟨F, s, m, k, l, en, hv, q⟩⟩
  obtain ⟨fP, ps, hP, ht, hc⟩ := en.mem P _ hmP
  obtain ⟨oc, od, dV, kV, doc, pm, an, cdv, ct, osl, rfl, lk, hcd', hD, hK⟩ := D.ex
  refine wpAny_Call_Name_kw (ld_glob I hg hm ?_ hdb)
  refine PySem.W.callWith_K (h₀ := X.base) I.ok.mod.kin D.kp ?_ (by rfl) (by rfl)
  refine Calls.spliced_cons (x := eval (.Lambda params body scope lpos) X.env) (lam_mk I TB hcode hP ht (fun pos cv h => let ⟨c, e1, e2⟩ := hc pos cv h; ⟨c, e1, l.ext e2⟩) hdef (L.has I.ok) fun f c' pm' ctv H1 s' I1 hL hf hfn hfr => ?_)
  refine Calls.spliced_nil ⟨I1.kIn, ?_⟩
  obtain ⟨F1, st1, hF1⟩ := lam_stm l en.mem hmP hP hc hL
  have rc : codeAny (model X.prog X.w) X.A (.call (.ref g) ⟨[.ref f], []⟩) (CR CX0 X.stack X.prog X.w H1 s' Q E0) s' := by
    refine LamX.run_ofS (N := Ng) (ps := [a]) (us := [.ref f]) (vs := [.ref f]) lk hcd' Sg hr I1.env0 (hb s' [.ref f] I1.kIn rfl) (.cons rfl .nil) rfl fun hr' => ?_
    obtain ⟨t, ht', sn⟩ := hG cdv X.A X.stack s' H1 (vAsk 0 f c' (X.env.qual ++ "<lambda>") σ sl ve) hr' fun W' pn xe p1 p2 tk =>
      ⟨_, pe_ask (i := 0) (W := W') (tb := fun E σ HZ Q => ∃ F sl m k x, Le F HZ ∧ EnvR X.K X.mg F HZ σ sl m ∧ ve sl m k x ∧ XOk X.K X.mg (fun cls d _ H => E cls d H) σ F HZ m x ∧ ∀ v d F' H' m', StM X.K X.mg m F HZ F' H' m' → Rp X.K X.mg F' v d → k d m' → Q v H') I1 L hf hfn hfr (hbind _ _ _ _ _) tk hr'
          (fun A outer s H E hr2 => by
            obtain ⟨te, pe, se⟩ := hbody A outer s H E f c' hr2
            exact ⟨fun pins s σ H Q I ⟨F, sl, m, k, x, l, en, hv, hx, q⟩ => pe.run pins s σ H Q I (se σ F H sl m k x l en hv hx Q q)⟩) hNg hva hd hcd,
        fun σZ F2 H2 sZ m2 k2 x2 l2 en2 ⟨h0, hv2⟩ hx2 Q2 q2 => by
          obtain ⟨v, e1, e2⟩ := en2.val 0 _ h0
          cases e2 with
          | clo hc2 rs => exact ⟨e1, l2.ext hc2, F2, sl, m2, k2, x2, l2, ⟨rs.len, fun i d h => rs.at h, en2.mem⟩, hv2, fun cls dd e F' H' m' st rx hxe => hx2 cls dd e F' H' m' st rx hxe, q2⟩⟩
    refine ⟨t, ht'.nox, sn _ F1 H1 _ m _ st1.le (env_start st1.mr (.cons (.clo (f := f) hF1 ((RpS.of en.len en.val).mono st1.gr)) .nil)) (hv f c' σ) _ ?_⟩
    exact ⟨fun σ' s' F' H' m' st e g => q _ _ F' H' m' (st1.trans st) .non g, fun v d F' H' m' st rd g => q v d F' H' m' (st1.trans st) rd g, fun _ _ _ _ _ _ _ g => g.elim, fun _ _ _ _ _ _ _ g => g.elim, fun _ _ _ _ _ _ _ _ _ _ _ g => g.elim⟩
  refine wpAny_call (codeAny_mono rc fun r s2 hq => ?_)
  cases r with
  | error e => exact (show False from hq).elim
  | ok fl =>
    cases fl with
    | ret u => exact I1.after hq
    | next => exact False.elim hq
    | brk => exact False.elim hq
    | cont => exact False.elim hq
end
end Ts
/-! ### the head: exception classes, the law's table of code objects -/
namespace Ts
open PySem PySem.Spec PyProof.Rows L2
/-- an own exception class: its name, the __init__ that it has, the built-in class that it is over, its fields -/
structure XDef where
  x : Str
  qual : Str
  params : Arguments
  body : List Stmt
  scope : Scope
  B : String
  newId : String
  initId : String
  bmB : List Value
  flds : List Str
abbrev XV : Type := Option (Str × Str × Arguments × FuncBody × Scope × Addr × List Str × Addr)
def XDef.fI (K : PySem.W.Frag) (x : Str) : Addr := He.ma K (He.ga K x) "__init__"
def fnC (K : PySem.W.Frag) (x : Str) : XV := match K.lookup (XDef.fI K x) with
  | some ⟨_, _, .func fd, _⟩ => some (fd.name, fd.qualname, fd.params, fd.body, fd.scope, fd.globals, fd.closure.map (·.1), fd.builtins)
  | _ => none
def XDef.val (d : XDef) : XV := some ("__init__", d.qual, d.params, .stmts d.body, d.scope, mainGlobals, ["__class__"], builtinsNs)
/-- where its code and its cell stand -/
def XDef.at_ (K : PySem.W.Frag) (x : Str) : Option (Addr × Addr) := match K.lookup (XDef.fI K x) with
  | some ⟨_, _, .func fd, _⟩ => (match fd.code, fd.closure, fd.defaults with
    | .ref c, [(_, cc)], .none => some (c, cc)
    | _, _, _ => none)
  | _ => none
def codeF (K : PySem.W.Frag) (file : Str) (c : Addr) : Bool := match K.lookup c with
  | some ⟨_, _, .fields vs, _⟩ => (match (vs[2]? : Option Value) with
    | some (.str f _) => decide (f = file)
    | _ => false)
  | _ => false
def cellF (K : PySem.W.Frag) (cc C : Addr) : Bool := match K.lookup cc with
  | some ⟨_, _, .cell (some (.ref c)), _⟩ => decide (c = C)
  | _ => false
def XDef.clsB (K : PySem.W.Frag) (d : XDef) : Bool := (He.Fa.glo d.x).ok K && PySem.W.excInitIn K (He.ga K d.x) d.bmB d.newId && PySem.W.excOver K (He.ga K d.x) d.bmB && decide (PySem.W.findIn K (.ref (He.ga K d.x)) "__setattr__" = some (some (.builtin "object.__setattr__"))) &&
  PySem.W.hasDictIn K (He.ga K d.x) && decide (PySem.W.subIn K (.ref (He.ga K d.x)) (.type "BaseException") = some true) && decide (PySem.W.subIn K (.ref (He.ga K d.x)) (.type d.B) = some true) && decide (PySem.W.typeIn K (.ref (He.ga K d.x)) = some (.type "type")) && PySem.W.keepIn K (.ref (He.ga K d.x)) &&
  decide (PySem.W.ks_superIn K (He.ga K d.x) (He.ga K d.x) "__init__" = some (some (.builtin d.initId))) && decide (PySem.W.mroIn K (He.ga K d.x) (.ref (He.ga K d.x)) = some true) && decide (PySem.W.nsIn K cStatics "thirdparty.any" = some none) && decide (PySem.W.nsIn K mainGlobals "super" = some none) && d.flds.all fun f => decide (PySem.W.takerIn K (He.ga K d.x) f = some none)
def XDef.iniB (K : PySem.W.Frag) (file : Str) (d : XDef) : Bool := decide (PySem.W.findIn K (.ref (He.ga K d.x)) "__init__" = some (some (.ref (XDef.fI K d.x)))) && PySem.W.isFn K (.ref (XDef.fI K d.x)) && (match XDef.at_ K d.x with
  | some (c, cc) => PySem.W.codeIn K (.ref c) d.qual && codeF K file c && cellF K cc (He.ga K d.x)
  | none => false)
/-- all that is known of it -/
structure XF (P : Program) (K : PySem.W.Frag) (mg : Str → Option Value) (d : XDef) : Prop where
  ex : ∃ C fI cda cc kV doc pm an ct oc od osl, mg d.x = some (.ref C) ∧ XCls K C d.B d.newId d.initId d.bmB ∧ (∀ f ∈ d.flds, PySem.W.takerIn K C f = some none) ∧ K.lookup fI = some ⟨oc, od, .func (PySem.W.ksFn "__init__" d.qual d.params d.body d.scope .none kV doc pm an (.ref cda) ct cc), osl⟩ ∧
    XIni K P C fI d.qual d.params d.body d.scope cda cc (PySem.W.ksFn "__init__" d.qual d.params d.body d.scope .none kV doc pm an (.ref cda) ct cc)
theorem xf_of {P : Program} {K : PySem.W.Frag} {h : Heap} {mg : Str → Option Value} {file : Str} {d : XDef} (X : K.In h) (G : h.Ns mainGlobals mg) (hP : P.main.file = file) (e : fnC K d.x = d.val) (h1 : d.clsB K = true) (h2 : d.iniB K file = true) : XF P K mg d := by
  unfold XDef.clsB at h1
  simp only [Bool.and_eq_true, decide_eq_true_eq, List.all_eq_true] at h1
  obtain ⟨⟨⟨⟨⟨⟨⟨⟨⟨⟨⟨⟨⟨c1, c2⟩, c3⟩, c4⟩, c5⟩, c6⟩, c7⟩, c8⟩, c9⟩, c10⟩, c11⟩, c12⟩, c13⟩, c14⟩ := h1
  unfold XDef.iniB at h2
  simp only [Bool.and_eq_true, decide_eq_true_eq] at h2
  obtain ⟨⟨i1, i2⟩, i3⟩ := h2
  unfold XDef.at_ at i3
  unfold fnC XDef.val at e
  cases q : K.lookup (XDef.fI K d.x) with
  | none => rw [q] at e; cases e
  | some o =>
    obtain ⟨oc, od, dt, osl⟩ := o
    rw [q] at e i3
    cases dt with
    | func fd =>
      obtain ⟨name, qn, pr, bd, sc, gl, clos, dfl, kV, doc, pm, an, cdv, ct, bl⟩ := fd
      simp only [Option.some.injEq, Prod.mk.injEq] at e
      obtain ⟨rfl, rfl, rfl, rfl, rfl, rfl, ecl, rfl⟩ := e
      dsimp only at i3
      split at i3
      · rename_i c cc e3
        split at e3
        · rename_i c' y cc' 
          cases e3
          simp only [Bool.and_eq_true] at i3
          obtain ⟨⟨j1, j2⟩, j3⟩ := i3
          have ey : y = "__class__" := by simpa using ecl
          subst ey
          have hcF : ∃ ccl cdd vs ccs file tf, K.lookup c = some ⟨ccl, cdd, .fields vs, ccs⟩ ∧ vs[2]? = some (.str file tf) ∧ ((P.main.file : Str) == file) = true := by
            unfold codeF at j2
            split at j2
            · rename_i ccl cdd vs ccs e4
              split at j2
              · rename_i f tf e5
                exact ⟨ccl, cdd, vs, ccs, f, tf, e4, e5, by rw [hP, of_decide_eq_true j2]; exact beq_self_eq_true _⟩
              · cases j2
            · cases j2
          have hcC : ∃ cl cld csl, K.lookup cc = some ⟨cl, cld, .cell (some (.ref (He.ga K d.x))), csl⟩ := by
            unfold cellF at j3
            split at j3
            · rename_i cl cld c2 csl e4
              rw [of_decide_eq_true j3] at e4
              exact ⟨cl, cld, csl, e4⟩
            · cases j3
          exact ⟨He.ga K d.x, XDef.fI K d.x, c, cc, kV, doc, pm, an, ct, oc, od, osl, He.glo_ok X G c1, ⟨c2, c3, c4, c5, c6, c7, c8, c9, c10, c11, c12, c13⟩, c14, q, ⟨i1, i2, ⟨oc, od, osl, .none, kV, doc, pm, an, ct, q, rfl⟩, j1, hcF, hcC⟩⟩
        · cases e3
      · cases i3
    | _ => cases e
theorem XF.mk1 {P : Program} {w : World} {K : PySem.W.Frag} {mg : Str → Option Value} {d : XDef} (Z : XF P K mg d) {f a sf tg tv msg : Str} {j j2 : Nat} {p0 p1 p2 p3 p4 p5 q1 q2 q3 q4 r1 r2 r3 r4 : Pos} {ar : Arg} {pl : Sem Bool}
    (hbody : d.body = [xrow msg j p0 p1 p2 p3 p4 p5, srow sf f (.Name a q3) q1 q2 q4, srow sf tg (.Constant (.str tv) j2 r3) r1 r2 r4])
    (hev : ∀ env : Env, PySem.eval (.Call (.Attribute (.Call (.Name "super" p0) [] [] p1) "__init__" p2) [.Constant (.str msg) j p3] [] p4) env = (do
      let ov ← attributeBase (.Call (.Name "super" p0) [] [] p1) "__init__" env (PySem.eval (.Call (.Name "super" p0) [] [] p1) env)
      standAt p2.atName
      let (f, first) ← holding [ov] (getMethod ov "__init__" pl)
      callWith p4 f first (backTo p4 (starEach [.Constant (.str msg) j p3] env)) []))
    (FB : ExcBaseFacts d.B d.newId d.initId d.bmB) (KF : PySem.W.KxsFacts d.B d.initId) (SF : StoreFacts d.B d.bmB "object.__setattr__" "object") (S : XSc d.scope sf) (hpar : (d.params.posonlyargs ++ d.params.args).head? = some ar) (har : ar.arg = sf) (htop : (P.main.scope.names.lookup ("super" : Str)).isSome = false)
    (hb : ∀ (kV doc pm : Value) (an : Option Addr) (cd ct : Value) (cc : Addr) (e u : Value), bindArgs (PySem.W.ksFn "__init__" d.qual d.params d.body d.scope .none kV doc pm an cd ct cc) ⟨[e, u], []⟩ = pure [(sf, e), (a, u)]) (ha : d.scope.names.lookup a = some .local) (hsf : a ≠ sf) (da : (a == ("__debug__" : Str)) = false) (ds : (sf == ("__debug__" : Str)) = false)
    (s1 : ∀ env : Env, swapsWith (.Name a q3) (some (.Attribute (.Name sf q1) f q2)) q4.line env = pure false) (s2 : ∀ env : Env, swapsWith (.Constant (.str tv) j2 r3) (some (.Attribute (.Name sf r1) tg r2)) r4.line env = pure false) (m1 : f ∈ d.flds) (m2 : tg ∈ d.flds) : Mk1 P w K mg d.x f tg tv := by
  obtain ⟨C, fI, cda, cc, kV, doc, pm, an, ct, oc, od, osl, hm, T, tk, lk, J⟩ := Z.ex
  refine ⟨C, hm, T.kC, T.exC, T.tyC, fun A E hp g dr t os u Q Y hd hQ => ?_⟩
  have hb' := hb
  rw [hbody] at J hb'
  exact xmade1 hev FB KF SF T J S Y hpar har htop hd (fun s e => .of_eq (hb' kV doc pm an (.ref cda) ct cc e u)) ha hsf da ds s1 s2 (tk f m1) (tk tg m2) hQ
/-- which classes a clause takes, by the head -/
def mtT (names : List Str) (mt : List (Str × Bool)) (ns : List Str) : Tb := fun K => (names.all fun n => (He.Fa.glo n).ok K) && mt.all fun p => (He.Fa.glo p.1).ok K && decide (PySem.W.exmAny K (.ref (He.ga K p.1)) (names.map fun n => .ref (He.ga K n)) = some p.2) && xfB K (He.ga K p.1) && ns.all fun n => decide (PySem.W.findIn K (.ref (He.ga K p.1)) n = some none)
theorem mtT_ok {names : List Str} {mt : List (Str × Bool)} {ns : List Str} {K : PySem.W.Frag} {h : Heap} {mg : Str → Option Value} (X : K.In h) (G : h.Ns mainGlobals mg) (c : mtT names mt ns K = true) : (∀ n ∈ names, mg n = some (.ref (He.ga K n))) ∧ MtOk K mg mt (names.map fun n => .ref (He.ga K n)) ns := by
  obtain ⟨h1, h2⟩ := Bool.and_eq_true_iff.mp c
  refine ⟨fun n hn => He.glo_ok X G (List.all_eq_true.mp h1 n hn), fun p hp => ?_⟩
  have z := List.all_eq_true.mp h2 p hp
  simp only [Bool.and_eq_true, decide_eq_true_eq, List.all_eq_true] at z
  obtain ⟨⟨⟨z1, z2⟩, z3⟩, z4⟩ := z
  exact ⟨_, He.glo_ok X G z1, z2, xfB_ok z3, fun n hn => of_decide_eq_true (decide_eq_true (z4 n hn))⟩
/-! the hook -/
def lawTab (K : PySem.W.Frag) : Option (Addr × Addr) := match K.lookup (He.ga K "law") with
  | some ⟨_, _, .func fd, _⟩ => (match fd.code with
    | .ref c => (match K.lookup c with
      | some ⟨_, _, .fields vs, _⟩ => (match (vs[11]? : Option Value) with
        | some (.ref P) => some (c, P)
        | _ => none)
      | _ => none)
    | _ => none)
  | _ => none
def asX (g : Addr → Option Obj) (n : Nat) : List Addr := match lawTab (He.frG g (He.asD g n)) with
  | some (_, P) => cStatics :: (He.asD g n).filter fun a => a != P
  | none => cStatics :: He.asD g n
def emptyT : Option Obj → Bool
  | some ⟨.none, none, .fields vs, sl⟩ => vs.isEmpty && sl.isEmpty
  | _ => false
theorem emptyT_ok {o : Option Obj} (h : emptyT o = true) : o = some { cls := .none, data := .fields #[] } := by
  unfold emptyT at h
  split at h
  · rename_i vs sl
    obtain ⟨h1, h2⟩ := Bool.and_eq_true_iff.mp h
    rw [Array.isEmpty_iff.mp h1, Array.isEmpty_iff.mp h2]
  · cases h
def tabOk (g : Addr → Option Obj) (K : PySem.W.Frag) : Bool := match lawTab K with
  | some (c, P) => PySem.W.codeHdIn K c P && (K.lookup P).isNone && emptyT (g P)
  | none => false
abbrev AlX : Type := He.AlD × Bool × List XV
def boolX (tb : List Tb) (xs : List XDef) (file : Str) (K : PySem.W.Frag) : Bool := (tb.all fun t => t K) && xs.all fun d => d.clsB K && d.iniB K file
def obsXG (n : Nat) (fa : List He.Fa) (fn : List He.DefD) (tb : List Tb) (xs : List XDef) (file : Str) (g : Addr → Option Obj) : AlX :=
  (He.obsD fa fn (He.frG g (asX g n)), boolX tb xs file (He.frG g (asX g n)) && tabOk g (He.frG g (asX g n)), xs.map fun d => fnC (He.frG g (asX g n)) d.x)
structure SaysX (fa : List He.Fa) (fn : List He.DefD) (tb : List Tb) (xs : List XDef) (file : Str) (K : PySem.W.Frag) : Prop where
  d : He.SaysD fa fn K
  b : boolX tb xs file K = true
  x : (xs.map fun d => fnC K d.x) = xs.map XDef.val
def hookX (n : Nat) (fa : List He.Fa) (fn : List He.DefD) (tb : List Tb) (xs : List XDef) (file : Str) : PySem.W.Hook where
  α := AlX
  obs := fun s => obsXG n fa fn tb xs file s.heap.get?
  val := fun _ => (He.valD fn, true, xs.map XDef.val)
  says := fun _ h => ∃ (K : PySem.W.Frag) (c P : Addr), K.In h ∧ SaysX fa fn tb xs file K ∧ lawTab K = some (c, P) ∧ PySem.W.codeHdIn K c P = true ∧ K.lookup P = none ∧ h.get? P = some { cls := .none, data := .fields #[] }
  of := fun _ s e => by
    obtain ⟨e1, e2⟩ := Prod.mk.inj e
    obtain ⟨e2, e3⟩ := Prod.mk.inj e2
    obtain ⟨e4, e5⟩ := Bool.and_eq_true_iff.mp e2
    unfold tabOk at e5
    split at e5
    · rename_i c P q
      simp only [Bool.and_eq_true] at e5
      obtain ⟨⟨h1, h2⟩, h3⟩ := e5
      exact ⟨_, c, P, He.frG_in, ⟨e1, e4, e3⟩, q, h1, Option.isNone_iff_eq_none.mp h2, emptyT_ok h3⟩
    · cases e5
  keeps := fun _ _ _ ⟨K, c, P, hK, x, q, h1, h2, h3⟩ k => ⟨K, c, P, PySem.W.Frag.In.keeps hK k, x, q, h1, h2, k _ _ h3⟩
theorem obsXG_eq {n : Nat} {fa : List He.Fa} {fn : List He.DefD} {tb : List Tb} {xs : List XDef} {file : Str} {g : Addr → Option Obj} {s : Shared} (h : ∀ a, g a = s.heap.get? a) : obsXG n fa fn tb xs file g = (hookX n fa fn tb xs file).obs s := by
  have e : g = s.heap.get? := funext h
  rw [e] <;> rfl
section
variable {fa : List He.Fa} {fn : List He.DefD} {tb : List Tb} {xs : List XDef} {file : Str} {K : PySem.W.Frag}
theorem SaysX.tab (c : SaysX fa fn tb xs file K) (i : Nat) {t : Tb} (h : tb[i]? = some t) : t K = true :=
  List.all_eq_true.mp (Bool.and_eq_true_iff.mp c.b).1 t (List.mem_of_getElem? h)
theorem SaysX.xf {P : Program} {h : Heap} {mg : Str → Option Value} (c : SaysX fa fn tb xs file K) (X : K.In h) (G : h.Ns mainGlobals mg) (hP : P.main.file = file) (i : Nat) {d : XDef} (hi : xs[i]? = some d) : XF P K mg d := by
  have m := List.mem_of_getElem? hi
  obtain ⟨h1, h2⟩ := Bool.and_eq_true_iff.mp (List.all_eq_true.mp (Bool.and_eq_true_iff.mp c.b).2 d m)
  exact xf_of X G hP (List.map_inj_left.mp c.x d m) h1 h2
end
/-! the law with a table -/
def SpLawT (K : PySem.W.Frag) (P : Addr) : Sp := fun vs H Q _ => ∃ (a : Addr) (ns : List Int), vs = [.ref a] ∧ SqL K H a (ns.map V.int) ∧ H P = some (.tbl #[]) ∧ ns.length ≤ 63 ∧ ∀ H', Q (.bl true) H'
section
variable {P : Program} {w : World} {K : PySem.W.Frag} {mg : Str → Option Value} {base : Heap} {x qual : Str} {params : Arguments} {body : List Stmt} {scope : Scope} {dvs : List V} {kws : List (Str × V)} {f : Addr} {fd : FuncData}
theorem fn_lawT {v : Addr → VS} {N : List Str} {s q : Str} {k : Nat} {c Pt : Addr} (F : FunD K x qual params body scope dvs kws f fd) (S : FnScope N [s] scope) (hc : fd.code = .ref c)
    (hb : ∀ (A : Around) (outer : List Env) (s : Shared) (H : Hp) (E : XK), Room k (A.deeper (envOfC qual scope s.heap.objs.size f (.ref c))) → JSs (cxOf CX0 P w K mg base N qual scope f (.ref c) A outer s H E).nox (fun _ _ _ _ => False) body (v Pt))
    (hw : ∀ (Pt a : Addr) (ns : List Int), ns.length ≤ 63 → v Pt (dstart N.length [.lat a (ns.map D.int)]) (mset (fun _ => none) Pt (.tab q)) endLaw) : FnOk P w K mg base CX0 (k + 1) f fd [s] (SpLawT K Pt) := by
  obtain ⟨oc, od, dV, kV, doc, pm, an, cdv, ct, osl, rfl, lk, hcd, _, _⟩ := F.ex
  obtain rfl : cdv = .ref c := hc
  refine fn_of lk hcd S (fun vs H Q E ⟨a, ns, e, _⟩ => by rw [e]; rfl) fun A outer s H vs Q E hr ⟨a, ns, ev, sq, hP, hl, fin⟩ => ?_
  subst ev
  obtain ⟨t, ht, hs⟩ := hb A outer s H E hr
  refine ⟨t, ht.nox, ?_⟩
  have key : ∃ F : Hp, Le F H ∧ SqL K F a (ns.map V.int) ∧ F Pt = none := by
    have one : ∀ u : HO, H a = some u → Le (fun b => if b = a then some u else none) H := fun u h b o e => by
      have e : (if b = a then some u else none) = some o := e
      by_cases hb : b = a
      · rw [if_pos hb] at e; cases e; rw [hb]; exact .inl h
      · rw [if_neg hb] at e; cases e
    have off : ∀ u : HO, H a = some u → (∀ ps, u ≠ .tbl ps) → (fun b => if b = a then some u else (none : Option HO)) Pt = none := fun u h n => if_neg fun z => by
      rw [← z, hP] at h
      exact n _ (Option.some.inj h).symm
    rcases sq with (h | ⟨o, h⟩) | h
    · exact ⟨_, one _ h, .inl (.inl (if_pos rfl)), off _ h fun ps z => by cases z⟩
    · exact ⟨_, one _ h, .inl (.inr ⟨o, if_pos rfl⟩), off _ h fun ps z => by cases z⟩
    · exact ⟨fun _ => none, fun _ _ e => (nomatch e), .inr h, rfl⟩
  obtain ⟨F, l, sf, fP⟩ := key
  have mr : MemR K mg F H (mset (fun _ => none) Pt (.tab q)) := fun b o e => by
    by_cases hb : b = Pt
    · subst hb
      rw [mset_same] at e
      cases e
      exact ⟨fP, #[], hP, True.intro, fun pos cv z => by simp [codeAmong] at z⟩
    · rw [mset_ne hb] at e; cases e
  refine hs _ F H _ _ _ l (env_start mr (.cons (.lat sf (RpL.ints ns)) .nil)) (hw Pt a ns hl) _ ⟨fun _ _ _ _ _ _ _ g => g.elim, fun v d F' H' m' st r g => ?_, fun _ _ _ _ _ _ _ g => g.elim, fun _ _ _ _ _ _ _ g => g.elim, fun _ _ _ _ _ _ _ _ _ _ _ g => g.elim⟩
  have g : d = .bl true := g
  subst g
  rw [r.blI]
  exact fin H'
end
theorem walk_ofTB {l : PySem.W.OpenLaw} {n k : Nat} {q : Program} {loose : List Str} {XP : (Str → Option Value) → Heap → Prop} {YP : World → Heap → Prop} {d : DefRec} {x : Str}
    (hn : l.most = some n) (hn2 : n ≤ sizeLine) (hdf : d.params.defaults = []) (hr : Room k callerA)
    (F : ∀ (w : World) (mg : Str → Option Value) (fa : Addr) (h : Heap), YP w h → h.Ns mainGlobals mg → mg d.name = some (.ref fa) →
      ∃ (K : PySem.W.Frag) (fd : FuncData) (c P : Addr) (sp : Sp), K.In h ∧ h.get? P = some { cls := .none, data := .fields #[] } ∧ K.lookup P = none ∧ PySem.W.CodeHd h c P ∧ (∀ (s : Shared) (u : Value), BindsTo s fd ⟨[u], []⟩ [(x, u)]) ∧
        (∀ (H : Hp) (a : Addr) (ns : List Int), ns.length ≤ n → H P = some (.tbl #[]) → SqL K H a (ns.map V.int) → sp [.ref a] H (fun v _ => v = .bl true) fun _ _ _ => False) ∧
        ∀ base : Heap, K.In base → base.Ns mainGlobals mg → LamX.TabB base mg c P → FnOk l.prog w K mg base CX0 k fa fd [x] sp) :
    PySem.W.WalkO q loose XP YP l.row.toRowW d [] (fun f vs => PySem.call f vs) := by
  refine Att.attach_callB hn hdf fun w s₀ s₁ mg mb fa o pm cd doc a vs ns G Y ho hd hcd hmg hobj hints hlen hbits hg => ?_
  obtain ⟨K, fd, c, P, sp, KX, hT, nT, C, hb, hsp, hF⟩ := F w mg fa _ Y G.T.g hmg
  have one : ∀ {φ : Addr × Addr → Prop}, φ (c, P) → ∀ p ∈ [(c, P)], φ p := fun {φ} h p hp => by rw [List.mem_singleton.mp hp]; exact h
  exact LamX.law_callTs (cs := [(c, P)]) KX G.T.g G.T.b G.T.builtins G.T.nolimit hg (one hT) (one nT) (one C) G.T.bmain hobj hints (Nat.le_trans hlen hn2) hr (fun base h1 h2 h3 => hF base h1 h2 (h3 _ List.mem_cons_self)) hb (fun H hH hS => hsp H a ns hlen (hH _ List.mem_cons_self) hS) fun H e s' z => z
end Ts
/-! ### a def that is handed a lambda, by its name -/
theorem L2H.RoomH.units {k : Nat} {A : PySem.Around} (r : L2H.RoomH k A) : A.units + 64 < PySem.cLine := by have := r.un; omega
namespace Ts
open PySem PySem.Spec PyProof.Rows L2
theorem roomM {k : Nat} {A : Around} {v : Option Value} (r : L2H.RoomH k A) : L2H.RoomH k (A.mark v) := ⟨r.dp, r.un⟩
@[reducible] def lamQ (x : Str) : Str := x ++ ".<locals>." ++ "<lambda>"
/-- the def's context -/
abbrev whyCx (P : Program) (w : World) (K : PySem.W.Frag) (mg : Str → Option Value) (base : Heap) (Ng : List Str) (x : Str) (sg : Scope) (g : Addr) (cdv : Value) (A : Around) (outer : List Env) (s : Shared) (H : Hp) : Cx := cxOf CX0 P w K mg base Ng x sg g cdv A outer s H E0
structure FnL (P : Program) (w : World) (K : PySem.W.Frag) (mg : Str → Option Value) (base : Heap) (x : Str) (k n : Nat) (vg : VE → VS) : Prop where
  ex : ∃ (g : Addr) (fd : FuncData) (a : Str) (pg : Arguments) (bg : List Stmt) (sg : Scope) (Ng : List Str) (kws : List (Str × V)), mg x = some (.ref g) ∧ FunD K x x pg bg sg [] kws g fd ∧ Binds K fd [a] [] ∧ FnScope Ng [a] sg ∧ Ng[0]? = some a ∧ Vis sg a ∧ (a == ("__debug__" : Str)) = false ∧ (a == ("__classdict__" : Str)) = false ∧ Ng.length = n ∧
    ∀ (cdv : Value) (A : Around) (outer : List Env) (s : Shared) (H : Hp) (ask : VE), Room (k + 1) (A.deeper (envOfC x sg s.heap.objs.size g cdv)) →
      (∀ (W' : WX) (pn : List (Addr × Obj)) (xe : Value → Shared → Prop) (p1 p2 : Pos), Takes ((whyCx P w K mg base Ng x sg g cdv A outer s H).tr pn xe) W' → JE ((whyCx P w K mg base Ng x sg g cdv A outer s H).tr pn xe) W' (.Call (.Name a p1) [] [] p2) ask) →
      JSs (whyCx P w K mg base Ng x sg g cdv A outer s H).nox (fun _ _ _ _ => False) bg (vg ask)
section
variable {X : Cx} {W : WX}
theorem je_lamF {P c : Addr} {x : Str} {k n : Nat} {params : Arguments} {body : Expr} {scope : Scope} {ve : VE} {vg : VE → VS} {p lpos pos : Pos} (G : FnL X.prog X.w X.K X.mg X.base x k n vg) (hg : Gl X x) (TB : LamX.TabB X.base X.mg c P) (hcode : X.env.code = .ref c) (hr : Room (k + 2) X.A) (L : LamX.LamS X.env.scope scope) (hdef : defaultsOf params X.env = ([], []))
    (hbind : ∀ (q : Str) (cl : List (Str × Addr)) (pm cv ctv : Value), bindArgs (PySem.W.kla_fn "<lambda>" q params body scope cl pm cv ctv) ⟨[], []⟩ = pure [])
    (hbody : ∀ (A : Around) (outer : List Env) (s : Shared) (H : Hp) (E : XK) (f c' : Addr), Room k (A.deeper (LamX.lamEnv X scope s.heap.objs.size f c')) → JE (LamX.lamCx X A outer s H E scope f c') (fun cls d _ H => E cls d H) body ve)
    (hdb : (x == ("__debug__" : Str)) = false := by decide) : JE X W (.Call (.Name x p) [.Lambda params body scope lpos] [] pos) (vLam P (X.env.qual ++ "<lambda>") n ve vg) := by
  obtain ⟨g, fd, a, pg, bg, sg, Ng, kws, hm, D, hb, Sg, hNg, hva, ha1, ha2, rfl, hG⟩ := G.ex
  exact je_lam hg hm D hb Sg hNg hva hG TB hcode hr L hdef hbind hbody hdb ha1 ha2
end
theorem lawTab_code {K : PySem.W.Frag} {fd : FuncData} {c Pt : Addr} {oc : Value} {od : Option Addr} {osl : Array (Option Value)} (h : lawTab K = some (c, Pt)) (lk : K.lookup (He.ga K "law") = some ⟨oc, od, .func fd, osl⟩) : fd.code = .ref c := by
  unfold lawTab at h
  rw [lk] at h
  dsimp only at h
  split at h
  · rename_i c' e
    split at h
    · split at h
      · cases h; exact e
      · cases h
    · cases h
  · cases h
end Ts
/-! ### defaults, calls by keywords -/
namespace Ts
open PySem PySem.Spec PyProof.Rows L2
section
variable {K : PySem.W.Frag} {x qual : Str} {params : Arguments} {body : List Stmt} {scope : Scope} {dvs : List V} {f : Addr} {fd : FuncData} {ps : List Str}
end
/-- the order of the parameters out of the order of the keywords -/
structure PermF where
  g : {α : Type} → List α → List α
  p : ∀ {α β : Type} {R : α → β → Prop} {xs : List α} {ys : List β}, Paired R xs ys → Paired R (g xs) (g ys)
  r : ∀ {K : PySem.W.Frag} {mg : Str → Option Value} {F : Hp} {xs : List V} {ys : List D}, RpL K mg F xs ys → RpL K mg F (g xs) (g ys)
structure FnKX (P : Program) (w : World) (K : PySem.W.Frag) (mg : Str → Option Value) (base : Heap) (x : Str) (k : Nat) (ks : List Str) (g : PermF) (φ : PX) : Prop where
  ex : ∃ f, mg x = some (.ref f) ∧ PySem.W.keepIn K (.ref f) = true ∧ ∀ (A : Around) (outer : List Env) (s : Shared) (H : Hp) (ws : List Value) (zs : List V) (Q : VK) (E : XK), Room k A → Env0 P w K mg base A outer s H → Vals zs ws → zs.length = ks.length → SpX K mg φ (g.g zs) H Q E →
    codeAny (model P w) A (.call (.ref f) ⟨[], ks.zip ws⟩) (CR (L2.CX P w) outer P w H s Q E) s
section
variable {P : Program} {w : World} {K : PySem.W.Frag} {mg : Str → Option Value} {base : Heap} {x : Str} {k : Nat}
theorem FnKX.mk1 {φ : PX} {f : Addr} {fd : FuncData} {ps ks : List Str} {g : PermF} (hm : mg x = some (.ref f)) (kp : PySem.W.keepIn K (.ref f) = true) (F : FnOk P w K mg base (L2.CX P w) k f fd ps (SpX K mg φ)) (hb : ∀ (s : Shared) (ws : List Value), K.In s.heap → ws.length = ks.length → BindsTo s fd ⟨[], ks.zip ws⟩ (ps.zip (g.g ws))) : FnKX P w K mg base x k ks g φ :=
  ⟨f, hm, kp, fun A outer s H ws zs Q E hr e0 r hl hsp => F.run A outer s H ⟨[], ks.zip ws⟩ (g.g ws) (g.g zs) Q E hr e0 (hb s ws (e0.mod.kin.keeps fun b o e => (e0.bs b o e).1) (r.length.symm.trans hl)) (g.p r) hsp⟩
end
section
variable {X : Cx} {W : WX}
/-- x(k = e, ..) -/
@[reducible] def vCallKX (n : Nat) (g : PermF) (φ : PX) (a : VA) : VE := fun s m k x => a s m (fun ds m1 => ds.length = n ∧ φ (g.g ds) m1 k x) x
end
end Ts
/-! ### partition -/
namespace Ts
open PySem PySem.Spec PyProof.Rows L2
/-- the text ahead of the first sep, sep, the text behind it -/
def partL (b a : List Nat) : List Nat × List Nat × List Nat := match TL.par b [] a with
  | some (p, q) => (p, b, q)
  | none => (a, [], [])
def oPartn (x y : Str) (k : D → Prop) : Prop := ∃ a b : List Nat, x = S a ∧ y = S b ∧ b ≠ [] ∧ a.length ≤ 1000000 ∧ k (.pr [.str (S (partL b a).1), .str (S (partL b a).2.1), .str (S (partL b a).2.2)])
@[reducible] def vPartn (a b : VE) : VE := fun s m k x => a s m (fun d m1 => onS d fun z => b s m1 (fun e m2 => onS e fun y => oPartn z y fun r => k r m2) x) x
section
variable {X : Cx} {W : WX}
end
end Ts
/-! ### dicts that change; keys walked; dict comprehensions; xs[::-1] -/
namespace Ts
open PySem PySem.Spec PyProof.Rows L2
section
variable {X : Cx} {W : WX} {pos : Pos}
/-- {}: a new dict of the memory -/
@[reducible] def vDNewO : VE := fun _ m k _ => ∀ p, m p = none → k (.ref p) (mset m p (.dic []))
/-- d.get(k, x) -/
@[reducible] def vDGet2 (a b c : VE) : VE := fun s m k x => a s m (fun d m1 => onO (asK m1 d) fun _ => b s m1 (fun y m2 => c s m2 (fun z m3 => onO (asK m3 d) fun kvs => onO (keyD y) fun c => k ((valD kvs c).getD z) m3) x) x) x
/-- d[k] = v -/
def onDo : Option MO → (List (Key × D) → Prop) → Prop
  | some (.dic kvs), k => k kvs
  | _, _ => False
def onD : Mem → D → (Addr → List (Key × D) → Prop) → Prop
  | m, .ref p, k => onDo (m p) (k p)
  | _, _, _ => False
@[reducible] def vDPut (o i a : VE) : VS := fun s m G => a s m (fun e m1 => o s m1 (fun d m2 => i s m2 (fun j m3 => onD m3 d fun p kvs => onO (keyD j) fun c => kvs.length < 1000000 ∧ G.nx s (mset m3 p (.dic (putD kvs c e)))) fun e m' => G.ex e s m') fun e m' => G.ex e s m') fun e m' => G.ex e s m'
/-- keys as data -/
def kD : Key → D
  | .inl i => .int i
  | .inr z => .str z
def keysD (kvs : List (Key × D)) : List D := kvs.map fun kv => kD kv.1
/-- for k in d: a frozen dict -/
def kyD : D → (List D → Prop) → Prop
  | .dic kvs, k => k (keysD kvs)
  | _, _ => False
@[reducible] def vKeys (a : VE) : VF := fun s m k x => a s m (fun d m' => kyD d fun ds => k ds m') x
/-- list(d) -/
def oListD : OA
  | [d], m, k => onO (asK m d) fun kvs => k (.lst (keysD kvs)) m
  | _, _, _ => False
/-- xs[::-1] -/
def oRev (d : D) (m : Mem) (k : D → Mem → Prop) : Prop := onO (asL m d) fun ds => k (.lst ds.reverse) m
@[reducible] def vRev (a : VE) : VE := fun s m k x => a s m (fun d m' => oRev d m' k) x
end
/-! ### {k: v for ..} -/
def dcV (g : VG) (t : VT) (ek ev : VE) (s : SL) : List D → List (Key × D) → Mem → (List (Key × D) → Mem → Prop) → Prop
  | [], acc, m, k => k acc m
  | d :: ds, acc, m, k => g d s fun s1 => t s1 m (fun b m2 => if b = true then ek s1 m2 (fun y m3 => ev s1 m3 (fun z m4 => onO (keyD y) fun c => dcV g t ek ev s ds (putD acc c z) m4 k) fun _ _ => False) fun _ _ => False else dcV g t ek ev s ds acc m2 k) fun _ _ => False
@[reducible] def vDc (i : VF) (g : VG) (t : VT) (ek ev : VE) (own : List Nat) : VE := fun s m k x => i s m (fun ds m1 => ds.length ≤ 1000000 ∧ dcV g t ek ev (wipeD s own) ds [] m1 fun es m2 => k (.dic es) m2) x
section
variable {X : Cx} {W : WX} {kx vx tg iter : Expr} {ifs : List Expr} {scope : Scope} {own : List (Str × Nat)} {pos : Pos} {vf : VF} {vg : VG} {vt : VT} {vk ve : VE} {js : List Nat}
end
end Ts
/-! ### list(text); a lambda within a comprehension -/
namespace Ts
open PySem PySem.Spec PyProof.Rows L2
section
variable {X : Cx} {W : WX}
def oListS : OA
  | [.str z], m, k => z.length ≤ 1000000 ∧ k (.lst (signs z)) m
  | _, _, _ => False
end
end Ts
/-! ### own classes: instances, their fields, methods, making them -/
namespace Ts
open PySem PySem.Spec PyProof.Rows L2
/-- a class by its name; no class of it has the names fl -/
structure ClN (K : PySem.W.Frag) (mg : Str → Option Value) (C : Str) (fl : List Str) : Prop where
  ex : ∃ Ca, mg C = some (.ref Ca) ∧ Cls K Ca ∧ ∀ f ∈ fl, NoAttr K Ca f
/-- the fields of an instance of the class C, frozen or in the memory -/
def insO (C : Str) : Option MO → Option (List (Str × D))
  | some (.ins C' fs) => if C' = C then some fs else none
  | _ => none
def asI (C : Str) (m : Mem) : D → Option (List (Str × D))
  | .obj C' fs => if C' = C then some fs else none
  | .ref p => insO C (m p)
  | _ => none
theorem insO_1 {C : Str} {fs : List (Str × D)} : insO C (some (.ins C fs)) = some fs := if_pos rfl
theorem asI_1 {C : Str} {m : Mem} {fs : List (Str × D)} : asI C m (.obj C fs) = some fs := if_pos rfl
theorem asI_2 {C : Str} {m : Mem} {p : Addr} : asI C m (.ref p) = insO C (m p) := rfl
section
variable {K : PySem.W.Frag} {mg : Str → Option Value} {F H : Hp}
theorem Rp.asIns {m : Mem} {C : Str} {d : D} {ds : List (Str × D)} {v : V} (l : Le F H) (mr : MemR K mg F H m) (r : Rp K mg F v d) (h : asI C m d = some ds) : ∃ a Ca dx xs, v = .ref a ∧ mg C = some (.ref Ca) ∧ H a = some (.ins Ca dx xs) ∧ RpK K mg F xs ds := by
  unfold asI at h
  split at h
  · split at h
    · rename_i e
      subst e
      cases h
      cases r with
      | obj hm hf rk => exact ⟨_, _, _, _, rfl, hm, l.ins hf, rk⟩
    · cases h
  · rename_i p
    obtain rfl := r.refI
    cases q : m p with
    | none => rw [q] at h; cases h
    | some o =>
      rw [q] at h
      cases o with
      | ins C' fs =>
        unfold insO at h
        dsimp only at h
        split at h
        · rename_i e
          subst e
          cases h
          obtain ⟨_, Ca, dx, xs, h1, h2, h3⟩ := mr p _ q
          exact ⟨p, Ca, dx, xs, rfl, h1, h2, h3⟩
        · cases h
      | _ => cases h
  · cases h
def putFD (f : Str) (v : D) : List (Str × D) → List (Str × D)
  | [] => [(f, v)]
  | (g, x) :: r => if g = f then (g, v) :: r else (g, x) :: putFD f v r
theorem RpK.putF {f : Str} {u : V} {d : D} (ru : Rp K mg F u d) : ∀ {xs : List (Str × V)} {ds : List (Str × D)}, RpK K mg F xs ds → RpK K mg F (L2.putF f u xs) (putFD f d ds)
  | _, _, .nil => .cons ru .nil
  | _, _, .cons (k := g) r s => by
    show RpK K mg F (if g = f then _ else _) (if g = f then _ else _)
    split
    · exact .cons ru s
    · exact .cons r (RpK.putF ru s)
end
section
variable {X : Cx} {W : WX} {pos pos' : Pos}
/-- o.f -/
@[reducible] def vFld (C f : Str) (a : VE) : VE := fun s m k x => a s m (fun d m1 => onO (asI C m1 d) fun fs => onO (fs.lookup f) fun v => k v m1) x
theorem je_fld {C f : Str} {fl : List Str} {e : Expr} {ve : VE} (c : ClN X.K X.mg C fl) (hf : f ∈ fl) (he : JE X W e ve) (hb : attributeBase e f X.env (eval e X.env) = eval e X.env := by rfl) : JE X W (.Attribute e f pos) (vFld C f ve) := by
  obtain ⟨Ca, h1, h2, h3⟩ := c.ex; obtain ⟨t, p, s1⟩ := he
  refine ⟨_, pe_fld p hb, fun σ F H s m k x l en hv hx Q q => s1 σ F H s m _ x l en hv hx _ fun v d F1 H1 m1 t1 r1 k1 => ?_⟩
  obtain ⟨fs, e1, k1⟩ := onO_of k1
  obtain ⟨z, e2, k1⟩ := onO_of k1
  obtain ⟨a, Ca', dx, xs, rfl, hm, hH, rk⟩ := r1.asIns t1.le t1.mr e1
  rw [h1] at hm
  cases hm
  obtain ⟨u, e3, r3⟩ := rk.lookup e2
  exact ⟨a, Ca, dx, xs, u, rfl, hH, h2, h3 f hf, e3, q _ _ F1 H1 m1 t1 r3 k1⟩
/-- an instance of the memory -/
def onIo (C : Str) : Option MO → (List (Str × D) → Prop) → Prop
  | some (.ins C' fs), k => C' = C ∧ k fs
  | _, _ => False
def onI (C : Str) : Mem → D → (Addr → List (Str × D) → Prop) → Prop
  | m, .ref p, k => onIo C (m p) (k p)
  | _, _, _ => False
theorem onI_of {C : Str} {m : Mem} {d : D} {k : Addr → List (Str × D) → Prop} (h : onI C m d k) : ∃ p fs, d = .ref p ∧ m p = some (.ins C fs) ∧ k p fs := by
  cases d with
  | ref p =>
    have h : onIo C (m p) (k p) := h
    cases hm : m p with
    | none => rw [hm] at h; exact h.elim
    | some o =>
      rw [hm] at h
      cases o with
      | ins C' fs => obtain ⟨e, h2⟩ := (show C' = C ∧ k p fs from h); subst e; exact ⟨p, fs, rfl, hm, h2⟩
      | _ => exact h.elim
  | _ => exact h.elim
/-- o.f = e -/
@[reducible] def vSetF (C f : Str) (o a : VE) : VS := fun s m G => a s m (fun e m1 => o s m1 (fun d m2 => onI C m2 d fun p fs => fs.length < 1000 ∧ G.nx s (mset m2 p (.ins C (putFD f e fs)))) fun e m' => G.ex e s m') fun e m' => G.ex e s m'
theorem js_fld {C f : Str} {fl : List Str} {o e : Expr} {vo ve : VE} (c : ClN X.K X.mg C fl) (hf : f ∈ fl) (he : JE X W e ve) (ho : JE X W o vo) (hs : swapsWith e (some (.Attribute o f pos')) pos.line X.env = pure false := by rfl) : JS X W (.Assign [.Attribute o f pos'] e pos) (vSetF C f vo ve) := by
  obtain ⟨Ca, h1, h2, h3⟩ := c.ex; obtain ⟨t, p1, s1⟩ := he; obtain ⟨to, p2, s2⟩ := ho
  refine ⟨_, ps_fld p2 p1 hs, fun σ F H s m G l en h E L => s1 σ F H s m _ _ l en h (L.x en) _ fun v d F1 H1 m1 t1 r1 k1 => s2 σ F1 H1 s m1 _ _ t1.le (en.stm t1) k1 ((L.x en).after t1) _ fun w d' F2 H2 m2 t2 r2 k2 => ?_⟩
  obtain ⟨p, fs, rfl, hm, hz, k2⟩ := onI_of k2
  obtain ⟨_, Ca', dx, xs, e1, e2, rk⟩ := t2.mr p _ hm
  rw [h1] at e1
  cases e1
  have st := t1.trans t2
  have sp := StM.put (o := .ins Ca dx (putF f v xs)) t2.le t2.mr hm rfl (u := .ins C (putFD f d fs)) ⟨Ca, dx, _, h1, upd_same, rk.putF (r1.mono t2.gr)⟩
  exact ⟨p, Ca, dx, xs, r2.refI, e2, h2, h3 f hf, by rw [rk.len]; exact hz, L.nx σ s F2 _ _ (st.trans sp) (en.stm (st.trans sp)) k2⟩
/-! methods -/
structure Mt0 (P : Program) (w : World) (K : PySem.W.Frag) (mg : Str → Option Value) (base : Heap) (C mt : Str) (k : Nat) (φ : P0) : Prop where
  ex : ∃ Ca f, mg C = some (.ref Ca) ∧ Cls K Ca ∧ Meth K Ca mt f ∧ FnR P w K mg base CX0 k f (Sp0 K mg φ)
structure MtX (P : Program) (w : World) (K : PySem.W.Frag) (mg : Str → Option Value) (base : Heap) (C mt : Str) (k : Nat) (φ : PX) : Prop where
  ex : ∃ Ca f, mg C = some (.ref Ca) ∧ Cls K Ca ∧ Meth K Ca mt f ∧ FnR P w K mg base (L2.CX P w) k f (SpX K mg φ)
structure Mk0C (P : Program) (w : World) (K : PySem.W.Frag) (mg : Str → Option Value) (base : Heap) (C : Str) (k : Nat) (φ : P0) : Prop where
  ex : ∃ Ca f, mg C = some (.ref Ca) ∧ L2.Mk K Ca f ∧ FnR P w K mg base CX0 k f (Sp0 K mg φ)
structure MkXC (P : Program) (w : World) (K : PySem.W.Frag) (mg : Str → Option Value) (base : Heap) (C : Str) (k : Nat) (φ : PX) : Prop where
  ex : ∃ Ca f, mg C = some (.ref Ca) ∧ L2.Mk K Ca f ∧ FnR P w K mg base (L2.CX P w) k f (SpX K mg φ)
def tMethW (C : Addr) (m : Str) (sp : Sp) (E : L2.St → XK) (ta : TE) (t : TA) : TE := fun σ H Q => ta σ H fun x H1 => ∃ a dx fs, x = .ref a ∧ H1 a = some (.ins C dx fs) ∧ fs.lookup m = none ∧ t σ H1 fun vs H2 => sp (x :: vs) H2 Q (E σ)
section
variable {CX : CXT} {k : Nat} {C f : Addr} {m : Str} {sp : Sp} {E : L2.St → XK} {o e : Expr} {es : List Expr} {ta : TE} {t : TA} {apos : Pos} {pl : Sem Bool}
theorem pe_methW (he : PE X o ta) (c : Cls X.K C) (hm : Meth X.K C m f) (F : FnR X.prog X.w X.K X.mg X.base CX k f sp) (hr : Room k X.A) (hx : ∀ σ, PassesAt CX X σ (E σ)) (ha : PA X (e :: es) t)
    (hst : starEach (e :: es) X.env = (false, eval e X.env) :: starEach es X.env := by rfl) (hpl : (backTo pos (starEach es X.env)).any (·.1) = false := by rfl)
    (ht : eval (.Call (.Attribute o m apos) (e :: es) [] pos) X.env = (do
      let ov ← eval o X.env
      standAt apos.atName
      let (f, first) ← holding [ov] (getMethod ov m pl)
      callWith pos f first (backTo pos (starEach (e :: es) X.env)) (backToKw pos (keywordEach [] X.env))) := by rfl) :
    PE X (.Call (.Attribute o m apos) (e :: es) [] pos) (tMethW C m sp E ta t) := by
  refine ⟨fun pins s σ H Q I h => ?_⟩
  refine PySem.W.methodCall_KW (pl := pl) (thn (he.run pins s σ H _ I h) fun u s1 ⟨x, H1, I1, rx, a, dx, fs, ex, ea, l, q⟩ => ?_) ht
  subst ex
  obtain rfl : u = Value.ref a := rx
  refine getmeth_ok I1 ea c hm l ?_
  refine PySem.W.callWith_K (first := [.ref a]) (h₀ := X.base) I.ok.mod.kin hm.kp (thn (ha.run pos pins s1 σ H1 _ I1 q) fun us s2 ⟨vs, H2, I2, r, q2⟩ => ⟨I2.kIn, ?_⟩) hst hpl
  exact run_Fn (us := .ref a :: us) (vs := .ref a :: vs) F hr (hx σ) I2 (.cons rfl r) q2
theorem pe_methW0 (he : PE X o ta) (c : Cls X.K C) (hm : Meth X.K C m f) (F : FnR X.prog X.w X.K X.mg X.base CX k f sp) (hr : Room k X.A) (hx : ∀ σ, PassesAt CX X σ (E σ))
    (ht : eval (.Call (.Attribute o m apos) [] [] pos) X.env = (do
      let ov ← eval o X.env
      standAt apos.atName
      let (f, first) ← holding [ov] (getMethod ov m pl)
      callWith pos f first (backTo pos (starEach [] X.env)) (backToKw pos (keywordEach [] X.env))) := by rfl) :
    PE X (.Call (.Attribute o m apos) [] [] pos) (tMethW C m sp E ta tNil) := by
  refine ⟨fun pins s σ H Q I h => ?_⟩
  refine PySem.W.methodCall_KW (pl := pl) (thn (he.run pins s σ H _ I h) fun u s1 ⟨x, H1, I1, rx, a, dx, fs, ex, ea, l, q⟩ => ?_) ht
  subst ex
  obtain rfl : u = Value.ref a := rx
  refine getmeth_ok I1 ea c hm l ?_
  exact PySem.W.callWith_K0 (first := [.ref a]) I1.kIn hm.kp (run_Fn (us := [.ref a]) (vs := [.ref a]) F hr (hx σ) I1 (.cons rfl .nil) q)
end
/-- o.m(..) of an instance of C -/
@[reducible] def vMeth (C mt : Str) (φ : P0) (o : VE) (a : VA) : VE := fun s m k x => o s m (fun d m1 => onO (asI C m1 d) fun fs => fs.lookup mt = none ∧ a s m1 (fun ds m2 => φ (d :: ds) m2 k) x) x
@[reducible] def vMethX (C mt : Str) (φ : PX) (o : VE) (a : VA) : VE := fun s m k x => o s m (fun d m1 => onO (asI C m1 d) fun fs => fs.lookup mt = none ∧ a s m1 (fun ds m2 => φ (d :: ds) m2 k x) x) x
theorem snd_meth {C mt : Str} {Ca : Addr} {φ : P0} {to : TE} {ta : TA} {vo : VE} {va : VA} (h1 : X.mg C = some (.ref Ca)) (s1 : SndE X.K X.mg W to vo) (s2 : SndA X.K X.mg W ta va) : SndE X.K X.mg W (tMethW Ca mt (Sp0 X.K X.mg φ) (fun _ => E0) to ta) (vMeth C mt φ vo va) := fun σ F H s m k x l en hv hx Q q => s1 σ F H s m _ x l en hv hx _ fun v d F1 H1 m1 t1 r1 k1 => by
  obtain ⟨fs, e1, e2, k1⟩ := onO_of k1
  obtain ⟨a, Ca', dx, xs, rfl, hm, hH, rk⟩ := r1.asIns t1.le t1.mr e1
  rw [h1] at hm
  cases hm
  refine ⟨a, dx, xs, rfl, hH, rk.lookupN e2, s2 σ F1 H1 s m1 _ x t1.le (en.stm t1) k1 (hx.after t1) _ fun us ds F2 H2 m2 t2 r2 k2 => ?_⟩
  exact ⟨F2, d :: ds, m2, k, t2.le, .cons (r1.mono t2.gr) r2, t2.mr, k2, fun v d F' H' m' st r hk => q v d F' H' m' ((t1.trans t2).trans st) r hk⟩
theorem snd_methX {C mt : Str} {Ca : Addr} {φ : PX} {to : TE} {ta : TA} {vo : VE} {va : VA} (h1 : X.mg C = some (.ref Ca)) (s1 : SndE X.K X.mg W to vo) (s2 : SndA X.K X.mg W ta va) : SndE X.K X.mg W (tMethW Ca mt (SpX X.K X.mg φ) (WE W) to ta) (vMethX C mt φ vo va) := fun σ F H s m k x l en hv hx Q q => s1 σ F H s m _ x l en hv hx _ fun v d F1 H1 m1 t1 r1 k1 => by
  obtain ⟨fs, e1, e2, k1⟩ := onO_of k1
  obtain ⟨a, Ca', dx, xs, rfl, hm, hH, rk⟩ := r1.asIns t1.le t1.mr e1
  rw [h1] at hm
  cases hm
  refine ⟨a, dx, xs, rfl, hH, rk.lookupN e2, s2 σ F1 H1 s m1 _ x t1.le (en.stm t1) k1 (hx.after t1) _ fun us ds F2 H2 m2 t2 r2 k2 => ?_⟩
  exact ⟨F2, d :: ds, m2, k, x, t2.le, .cons (r1.mono t2.gr) r2, t2.mr, k2, fun v d F' H' m' st r hk => q v d F' H' m' ((t1.trans t2).trans st) r hk, fun cls dd e F' H' m' st r hk => hx cls dd e F' H' m' ((t1.trans t2).trans st) r hk⟩
theorem sndA_nil : SndA X.K X.mg W tNil vNil := fun σ F H s m k x l en hv _ Q q => q [] [] F H m (StM.refl l en.mem) .nil hv
theorem je_meth0 {C mt : Str} {k : Nat} {φ : P0} {o : Expr} {vo : VE} {apos : Pos} {pl : Sem Bool} (G : Mt0 X.prog X.w X.K X.mg X.base C mt k φ) (hr : Room k X.A) (ho : JE X W o vo)
    (ht : eval (.Call (.Attribute o mt apos) [] [] pos) X.env = (do
      let ov ← eval o X.env
      standAt apos.atName
      let (f, first) ← holding [ov] (getMethod ov mt pl)
      callWith pos f first (backTo pos (starEach [] X.env)) (backToKw pos (keywordEach [] X.env))) := by rfl) :
    JE X W (.Call (.Attribute o mt apos) [] [] pos) (vMeth C mt φ vo vNil) := by
  obtain ⟨Ca, f, h1, h2, h3, h4⟩ := G.ex; obtain ⟨to, p1, s1⟩ := ho
  exact ⟨_, pe_methW0 p1 h2 h3 h4 hr (fun _ => passAt0) ht, snd_meth h1 s1 sndA_nil⟩
theorem je_methX {C mt : Str} {k : Nat} {φ : PX} {o e : Expr} {es : List Expr} {vo : VE} {va : VA} {apos : Pos} {pl : Sem Bool} (tk : Takes X W) (G : MtX X.prog X.w X.K X.mg X.base C mt k φ) (hr : Room k X.A) (ho : JE X W o vo) (ha : JA X W (e :: es) va)
    (hst : starEach (e :: es) X.env = (false, eval e X.env) :: starEach es X.env := by rfl) (hpl : (backTo pos (starEach es X.env)).any (·.1) = false := by rfl)
    (ht : eval (.Call (.Attribute o mt apos) (e :: es) [] pos) X.env = (do
      let ov ← eval o X.env
      standAt apos.atName
      let (f, first) ← holding [ov] (getMethod ov mt pl)
      callWith pos f first (backTo pos (starEach (e :: es) X.env)) (backToKw pos (keywordEach [] X.env))) := by rfl) :
    JE X W (.Call (.Attribute o mt apos) (e :: es) [] pos) (vMethX C mt φ vo va) := by
  obtain ⟨Ca, f, h1, h2, h3, h4⟩ := G.ex; obtain ⟨to, p1, s1⟩ := ho; obtain ⟨ta, p2, s2⟩ := ha
  exact ⟨_, pe_methW p1 h2 h3 h4 hr (fun σ => passAt tk σ) p2 hst hpl ht, snd_methX h1 s1 s2⟩
theorem je_methX0 {C mt : Str} {k : Nat} {φ : PX} {o : Expr} {vo : VE} {apos : Pos} {pl : Sem Bool} (tk : Takes X W) (G : MtX X.prog X.w X.K X.mg X.base C mt k φ) (hr : Room k X.A) (ho : JE X W o vo)
    (ht : eval (.Call (.Attribute o mt apos) [] [] pos) X.env = (do
      let ov ← eval o X.env
      standAt apos.atName
      let (f, first) ← holding [ov] (getMethod ov mt pl)
      callWith pos f first (backTo pos (starEach [] X.env)) (backToKw pos (keywordEach [] X.env))) := by rfl) :
    JE X W (.Call (.Attribute o mt apos) [] [] pos) (vMethX C mt φ vo vNil) := by
  obtain ⟨Ca, f, h1, h2, h3, h4⟩ := G.ex; obtain ⟨to, p1, s1⟩ := ho
  exact ⟨_, pe_methW0 p1 h2 h3 h4 hr (fun σ => passAt tk σ) ht, snd_methX h1 s1 sndA_nil⟩
/-! making -/
section
variable {CX : CXT} {k : Nat} {C f : Addr} {sp : Sp} {E : L2.St → XK}
theorem run_mk {pins : List (Addr × Obj)} {σ : L2.St} {H : Hp} {s : Shared} {Q : VK} {us : List Value} {vs : List V} (M : L2.Mk X.K C f) (F : FnR X.prog X.w X.K X.mg X.base CX k f sp) (hr : Room (k + 1) X.A) (hx : PassesAt CX X σ (E σ)) (I : Inv X pins σ H s) (r : Vals vs us)
    (h : ∀ x dx, H x = none → H dx = none → dx ≠ x → sp (.ref x :: vs) (upd (upd H dx (.own x)) x (.ins C dx [])) (fun v H2 => v = .non ∧ Q (.ref x) H2) (E σ)) :
    wpAny (model X.prog X.w) X.A (call (.ref C) us) (EP X pins σ Q) X.xe s := by
  have hq := h (s.heap.objs.size + 1) s.heap.objs.size (I.hok.fresh (Nat.le_succ _)) (I.hok.fresh (Nat.le_refl _)) (Nat.ne_of_lt (Nat.lt_succ_self _))
  have I2 := Inv.made (C := C) I
  have r2 : Vals (V.ref (s.heap.objs.size + 1) :: vs) (Value.ref (s.heap.objs.size + 1) :: us) := .cons rfl r
  refine wpAny_call (make_map (f := f) I.kIn M.makes M.init (beq_iff_eq.mp M.fn) (codeAny_mono (F _ X.stack _ _ (Value.ref (s.heap.objs.size + 1) :: us) _ _ (E σ) (hr.make C us []) (I2.env0.make C us []) r2 hq) fun r s' hq' => ?_))
  cases r with
  | error e => exact hx pins _ _ e s' I2 hq'
  | ok fl =>
    cases fl with
    | ret u =>
      obtain ⟨v, H', I3, rv, ev, q3⟩ := I2.after hq'
      subst ev
      exact ⟨rv, ⟨V.ref (s.heap.objs.size + 1), H', I3, rfl, q3⟩⟩
    | next => exact False.elim hq'
    | brk => exact False.elim hq'
    | cont => exact False.elim hq'
def tMakeW (C : Addr) (sp : Sp) (E : L2.St → XK) (t : TA) : TE := fun σ H Q => t σ H fun vs H1 => ∀ x dx, H1 x = none → H1 dx = none → dx ≠ x → sp (.ref x :: vs) (upd (upd H1 dx (.own x)) x (.ins C dx [])) (fun v H2 => v = .non ∧ Q (.ref x) H2) (E σ)
theorem pe_mkW {x : Str} {e : Expr} {es : List Expr} {t : TA} {p : Pos} (M : L2.Mk X.K C f) (F : FnR X.prog X.w X.K X.mg X.base CX k f sp) (hr : Room (k + 1) X.A) (hx : ∀ σ, PassesAt CX X σ (E σ)) (hg : Gl X x) (hm : X.mg x = some (.ref C)) (ha : PA X (e :: es) t)
    (hdb : (x == ("__debug__" : Str)) = false := by decide) (he : starEach (e :: es) X.env = (false, eval e X.env) :: starEach es X.env := by rfl) (hpl : (backTo pos (starEach es X.env)).any (·.1) = false := by rfl) : PE X (.Call (.Name x p) (e :: es) [] pos) (tMakeW C sp E t) := by
  refine ⟨fun pins s σ H Q I h => ?_⟩
  refine wpAny_Call_Name_kw (ld_glob I hg hm ?_ hdb)
  refine PySem.W.callWith_K (h₀ := X.base) I.ok.mod.kin M.kp (thn (ha.run pos pins s σ H _ I h) fun us s1 ⟨vs, H1, I1, r, q⟩ => ⟨I1.kIn, ?_⟩) he hpl
  exact run_mk M F hr (hx σ) I1 r q
end
/-- the step that lays a new instance -/
theorem StM.ins {K : PySem.W.Frag} {mg : Str → Option Value} {F H : Hp} {m : Mem} {C : Str} {Ca p dx : Addr} (l : Le F H) (mr : MemR K mg F H m) (hp : H p = none) (hd : H dx = none) (ne : dx ≠ p) (hm : mg C = some (.ref Ca)) :
    StM K mg m F H F (upd (upd H dx (.own p)) p (.ins Ca dx [])) (mset m p (.ins C [])) := by
  have s0 : StM K mg m F H F (upd H dx (.own p)) m := (StM.refl l mr).side hd (l.none hd) (mr.free hd)
  have hp2 : upd H dx (.own p) p = none := by rw [upd_ne (Ne.symm ne)]; exact hp
  exact s0.trans (StM.new s0.le s0.mr hp2 (u := .ins C []) ⟨Ca, dx, [], hm, upd_same, .nil⟩)
/-- C(..) -/
@[reducible] def vMake (C : Str) (φ : P0) (a : VA) : VE := fun s m k x => a s m (fun ds m1 => ∀ p, m1 p = none → φ (.ref p :: ds) (mset m1 p (.ins C [])) fun d m2 => d = .non ∧ k (.ref p) m2) x
@[reducible] def vMakeX (C : Str) (φ : PX) (a : VA) : VE := fun s m k x => a s m (fun ds m1 => ∀ p, m1 p = none → φ (.ref p :: ds) (mset m1 p (.ins C [])) (fun d m2 => d = .non ∧ k (.ref p) m2) x) x
theorem rp_non {K : PySem.W.Frag} {mg : Str → Option Value} {F : Hp} {v : V} (r : Rp K mg F v .non) : v = .non := by cases r; rfl
theorem je_make {C : Str} {k : Nat} {φ : P0} {e : Expr} {es : List Expr} {va : VA} {p : Pos} (G : Mk0C X.prog X.w X.K X.mg X.base C k φ) (hr : Room (k + 1) X.A) (hg : Gl X C) (ha : JA X W (e :: es) va)
    (hdb : (C == ("__debug__" : Str)) = false := by decide) (he : starEach (e :: es) X.env = (false, eval e X.env) :: starEach es X.env := by rfl) (hpl : (backTo pos (starEach es X.env)).any (·.1) = false := by rfl) : JE X W (.Call (.Name C p) (e :: es) [] pos) (vMake C φ va) := by
  obtain ⟨Ca, f, h1, h2, h3⟩ := G.ex; obtain ⟨ta, p1, s1⟩ := ha
  refine ⟨_, pe_mkW h2 h3 hr (fun _ => passAt0) hg h1 p1 hdb he hpl, fun σ F H s m k x l en hv hx Q q => s1 σ F H s m _ x l en hv hx _ fun us ds F1 H1 m1 t1 r1 k1 a dx ha hd ne => ?_⟩
  have si := StM.ins t1.le t1.mr ha hd ne h1
  exact ⟨F1, .ref a :: ds, _, _, si.le, .cons (.ref a) r1, si.mr, k1 a (t1.mr.free ha), fun v d F' H' m' st r ⟨hd, hk⟩ => by subst hd; exact ⟨rp_non r, q _ _ F' H' m' ((t1.trans si).trans st) (.ref a) hk⟩⟩
end
section
variable {P : Program} {w : World} {K : PySem.W.Frag} {mg : Str → Option Value} {base : Heap} {C mt : Str} {k : Nat} {Ca f : Addr} {fd : FuncData} {ps : List Str}
theorem Mt0.mk1 {φ : P0} (hm : mg C = some (.ref Ca)) (c : Cls K Ca) (hf : Meth K Ca mt f) (b : Binds K fd ps []) (F : FnOk P w K mg base CX0 k f fd ps (Sp0 K mg φ)) : Mt0 P w K mg base C mt k φ :=
  ⟨Ca, f, hm, c, hf, (F.raw b .nil).imp fun vs H Q E h => by rw [List.append_nil]; exact h⟩
theorem MtX.mk1 {φ : PX} (hm : mg C = some (.ref Ca)) (c : Cls K Ca) (hf : Meth K Ca mt f) (b : Binds K fd ps []) (F : FnOk P w K mg base (L2.CX P w) k f fd ps (SpX K mg φ)) : MtX P w K mg base C mt k φ :=
  ⟨Ca, f, hm, c, hf, (F.raw b .nil).imp fun vs H Q E h => by rw [List.append_nil]; exact h⟩
theorem Mk0C.mk1 {φ : P0} (hm : mg C = some (.ref Ca)) (M : L2.Mk K Ca f) (b : Binds K fd ps []) (F : FnOk P w K mg base CX0 k f fd ps (Sp0 K mg φ)) : Mk0C P w K mg base C k φ :=
  ⟨Ca, f, hm, M, (F.raw b .nil).imp fun vs H Q E h => by rw [List.append_nil]; exact h⟩
theorem MkXC.mk1 {φ : PX} (hm : mg C = some (.ref Ca)) (M : L2.Mk K Ca f) (b : Binds K fd ps []) (F : FnOk P w K mg base (L2.CX P w) k f fd ps (SpX K mg φ)) : MkXC P w K mg base C k φ :=
  ⟨Ca, f, hm, M, (F.raw b .nil).imp fun vs H Q E h => by rw [List.append_nil]; exact h⟩
/-- C(k = e, ..): all but self by keywords, in the parameters' order -/
structure MkKC (P : Program) (w : World) (K : PySem.W.Frag) (mg : Str → Option Value) (base : Heap) (C : Str) (k : Nat) (ks : List Str) (φ : PX) : Prop where
  ex : ∃ Ca f, mg C = some (.ref Ca) ∧ L2.Mk K Ca f ∧ ∀ (A : Around) (outer : List Env) (s : Shared) (H : Hp) (a : Addr) (ws : List Value) (zs : List V) (Q : VK) (E : XK), Room k A → Env0 P w K mg base A outer s H → Vals zs ws → zs.length = ks.length → SpX K mg φ (.ref a :: zs) H Q E →
    codeAny (model P w) A (.call (.ref f) ⟨[.ref a], ks.zip ws⟩) (CR (L2.CX P w) outer P w H s Q E) s
theorem MkKC.mk1 {φ : PX} {ks : List Str} (hm : mg C = some (.ref Ca)) (M : L2.Mk K Ca f) (F : FnOk P w K mg base (L2.CX P w) k f fd ps (SpX K mg φ)) (hb : ∀ (s : Shared) (u : Value) (ws : List Value), K.In s.heap → ws.length = ks.length → BindsTo s fd ⟨[u], ks.zip ws⟩ (ps.zip (u :: ws))) : MkKC P w K mg base C k ks φ :=
  ⟨Ca, f, hm, M, fun A outer s H a ws zs Q E hr e0 r hl hsp => F.run A outer s H ⟨[.ref a], ks.zip ws⟩ (.ref a :: ws) (.ref a :: zs) Q E hr e0 (hb s _ ws (e0.mod.kin.keeps fun b o e => (e0.bs b o e).1) (r.length.symm.trans hl)) (.cons rfl r) hsp⟩
end
section
variable {X : Cx} {W : WX} {pos : Pos}
@[reducible] def vMakeK (C : Str) (n : Nat) (φ : PX) (a : VA) : VE := fun s m k x => a s m (fun ds m1 => ds.length = n ∧ ∀ p, m1 p = none → φ (.ref p :: ds) (mset m1 p (.ins C [])) (fun d m2 => d = .non ∧ k (.ref p) m2) x) x
end
end Ts
/-! ### enumerate of a tuple, of a list of the memory -/
namespace Ts
open PySem PySem.Spec PyProof.Rows L2
open AutoSeq1 (wpAny_loadPart')
section
variable {prog : Program} {w : World} {A : Around} {E : Value → Shared → Prop} {s : Shared}
end
section
variable {X : Cx} {W : WX} {e : Expr} {vs : VA} {pos p tpos : Pos}
/-- enumerate(x): x a list, frozen or of the memory, or a tuple; dep: it stays -/
def enmD (m : Mem) (ds : List D) (k : List D → (Mem → Prop) → Prop) : Prop := match ds with
  | [d] => onO (itemsOf m d) fun es => k (enumD 0 es) fun m' => itemsOf m' d = some es
  | _ => False
@[reducible] def vEnumM (a : VA) : VI := fun s m k x => a s m (fun ds m' => enmD m' ds fun es dep => k es dep m') x
end
end Ts
/-! ### dict(tuple of pairs) -/
namespace Ts
open PySem PySem.Spec PyProof.Rows L2
theorem Le.sqn {K : PySem.W.Frag} {F H : Hp} (l : Le F H) {a : Addr} {xs : List V} (h : SqN K F a xs) : SqN K H a xs := h.imp (fun ⟨o, h, d⟩ => ⟨o, l.at h id, d⟩) id
section
variable {X : Cx} {W : WX}
end
end Ts
/-! ### loops: the rest as a letter -/
namespace Ts
open PySem PySem.Spec PyProof.Rows L2
theorem forV_mapP {α : Type} {f : α → D} {b : D → VS} {G : DE} (I : List α → SL → Mem → Prop) (h0 : ∀ s m, I [] s m → G.nx s m)
    (hs : ∀ a as s m (P : SL → Mem → Prop), I (a :: as) s m → (∀ s' m', I as s' m' → P s' m') → b (f a) s m { G with nx := P, ct := P, bk := G.nx }) :
    ∀ {as : List α} {s : SL} {m : Mem}, I as s m → forV b (as.map f) s m G
  | [], s, m, h => h0 s m h
  | a :: as, s, m, h => hs a as s m (fun s' m' => forV b (as.map f) s' m' G) h fun s' m' h' => forV_mapP I h0 hs h'
theorem forV_indP {b : D → VS} {G : DE} (I : List D → SL → Mem → Prop) (h0 : ∀ s m, I [] s m → G.nx s m)
    (hs : ∀ d ds s m (P : SL → Mem → Prop), I (d :: ds) s m → (∀ s' m', I ds s' m' → P s' m') → b d s m { G with nx := P, ct := P, bk := G.nx }) :
    ∀ {ds : List D} {s : SL} {m : Mem}, I ds s m → forV b ds s m G
  | [], s, m, h => h0 s m h
  | d :: ds, s, m, h => hs d ds s m (fun s' m' => forV b ds s' m' G) h fun s' m' h' => forV_indP I h0 hs h'
theorem atI_map {α β : Type} {f : α → β} {xs : List α} {i : Nat} (h : i < xs.length) : atI (xs.map f) (i : Int) = some (f xs[i]) := atI_of rfl (by simp [h])
theorem frz_d {ds : List (Key × D)} {k : D → Prop} : (MO.dic ds).onF k = k (.dic ds) := rfl
theorem frz_i {C : Str} {fs : List (Str × D)} {k : D → Prop} : (MO.ins C fs).onF k = k (.obj C fs) := rfl
end Ts
/-! ### match on a text: cases that are texts -/
namespace Ts
open PySem PySem.Spec PyProof.Rows L2
section
variable {X : Cx} {W : WX}
structure PMs (X : Cx) (cs : List MatchCase) (t : Str → TS) : Prop where
  run : ∀ (first : Bool) (pins : List (Addr × Obj)) (s : Shared) (σ : L2.St) (H : Hp) (D : Ends) (z : Str) (tk : Tok), Inv X pins σ H s → t z D σ H → wpAny (model X.prog X.w) X.A (matchCases cs X.env (.str z tk) first) (SP X pins D) X.xe s
theorem pms_nil : PMs X [] (fun _ => tNext) := ⟨fun first pins s σ H D z tk I h => by
  have e : matchCases [] X.env (.str z tk) first = pure .next := by unfold matchCases; rfl
  rw [e]
  exact wpAny_pure ⟨σ, H, I, h⟩⟩
def tMc (c : Str) (t : TS) (u : Str → TS) : Str → TS := fun z => if z = c then t else u z
theorem pms_val {c : Str} {j : Nat} {cp pp : Pos} {body : List Stmt} {rest : List MatchCase} {t : TS} {u : Str → TS} (hb : PSs X body t) (hr : PMs X rest u) : PMs X (⟨.MatchValue (.Constant (.str c) j cp) pp, none, body⟩ :: rest) (tMc c t u) := ⟨fun first pins s σ H D z tk I h => by
  have pc : PE X (.Constant (.str c) j cp) (tC (.str c)) := pe_str
  unfold matchCases
  refine wpAny_bind (wpAny_holding ?_)
  unfold matchPattern
  refine wpAny_bind (thn (pc.run pins s σ H (fun v H' => v = .str c ∧ H' = H) I ⟨rfl, rfl⟩) fun v s1 ⟨x, H1, I1, r1, e1, e2⟩ => ?_)
  subst e1 e2
  refine wpAny_bind (wpAny_standAt ?_)
  refine wpAny_bind (thn (op_eq pins s1 σ H1 (.str z) (.str c) (.str z tk) v (fun w H' => w = .bl (decide (z = c)) ∧ H' = H1) I1 ⟨tk, rfl⟩ r1 ⟨rfl, by simp, rfl⟩) fun b s2 ⟨y, H2, I2, r2, e3, e4⟩ => ?_)
  subst e3 e4
  cases r2
  refine wpAny_bind (wpAny_truthy_bool ?_)
  unfold tMc at h
  by_cases e : z = c
  · rw [if_pos e] at h
    simp only [e, decide_true, if_true]
    refine wpAny_pure ?_
    dsimp only
    refine wpAny_bind (wpAny_holding ?_)
    have e2 : assignInOrder (List.map (fun x : Str × Value => bindName X.env x.1) []) (List.map (fun x : Str × Value => x.2) []) = pure () := by first | rfl | (simp [assignInOrder])
    rw [e2]
    refine wpAny_pure ?_
    refine wpAny_bind (wpAny_pure ?_)
    rw [if_pos rfl]
    exact hb.run pins s2 σ H2 D I2 h
  · rw [if_neg e] at h
    simp only [e, decide_false, Bool.false_eq_true, if_false]
    refine wpAny_pure ?_
    exact hr.run false pins s2 σ H2 D z tk I2 h⟩
theorem ps_match {e : Expr} {cs : List MatchCase} {pos : Pos} {te : TE} {t : Str → TS} (he : PE X e te) (hc : PMs X cs t) : PS X (.Match e cs pos) (fun D σ H => te σ H fun x H1 => ∃ z, x = .str z ∧ t z D σ H1) := ⟨fun pins s σ H D I h => by
  unfold exec
  refine wpAny_bind (wpAny_standAt ?_)
  refine wpAny_bind (thn (he.run pins s σ H _ I h) fun v s1 ⟨x, H1, I1, r1, z, ex, q⟩ => ?_)
  subst ex
  obtain ⟨tk, rfl⟩ := r1
  exact hc.run true pins s1 σ H1 D z tk I1 q⟩
abbrev VM := Str → VS
def JMs (X : Cx) (W : WX) (cs : List MatchCase) (v : VM) : Prop := ∃ t, PMs X cs t ∧ ∀ z, SndS X.K X.mg W (t z) (v z)
@[reducible] def vMn : VM := fun _ => vNext
@[reducible] def vMc (c : Str) (a : VS) (u : VM) : VM := fun z s m G => if z = c then a s m G else u z s m G
@[reducible] def vMatch (a : VE) (v : VM) : VS := fun s m G => a s m (fun d m1 => onS d fun z => v z s m1 G) fun e m' => G.ex e s m'
theorem jms_nil : JMs X W [] vMn := ⟨_, pms_nil, fun z σ F H s m G l en h E L => L.nx σ s F H m (StM.refl l en.mem) en h⟩
theorem jms_val {c : Str} {j : Nat} {cp pp : Pos} {body : List Stmt} {rest : List MatchCase} {v : VS} {u : VM} (hb : JSs X W body v) (hr : JMs X W rest u) : JMs X W (⟨.MatchValue (.Constant (.str c) j cp) pp, none, body⟩ :: rest) (vMc c v u) := by
  obtain ⟨t, p1, s1⟩ := hb; obtain ⟨tu, p2, s2⟩ := hr
  refine ⟨_, pms_val p1 p2, fun z σ F H s m G l en h E L => ?_⟩
  unfold tMc
  by_cases e : z = c
  · rw [if_pos e]
    have h : v s m G := by have h : (if z = c then _ else _) := h; rw [if_pos e] at h; exact h
    exact s1 σ F H s m G l en h E L
  · rw [if_neg e]
    have h : u z s m G := by have h : (if z = c then _ else _) := h; rw [if_neg e] at h; exact h
    exact s2 z σ F H s m G l en h E L
theorem js_match {e : Expr} {cs : List MatchCase} {pos : Pos} {ve : VE} {v : VM} (he : JE X W e ve) (hc : JMs X W cs v) : JS X W (.Match e cs pos) (vMatch ve v) := by
  obtain ⟨te, p1, s1⟩ := he; obtain ⟨t, p2, s2⟩ := hc
  refine ⟨_, ps_match p1 p2, fun σ F H s m G l en h E L => s1 σ F H s m _ _ l en h (L.x en) _ fun w d F1 H1 m1 t1 r1 k1 => ?_⟩
  obtain ⟨z, rfl, k1⟩ := onS_of k1
  exact ⟨z, r1.strI, s2 z σ F1 H1 s m1 G t1.le (en.stm t1) k1 E (L.after t1)⟩
def oAddI : O2
  | .int i, .int j, m, k => k (.int (i + j)) m
  | _, _, _, _ => False
/-! o.f op= e -/
@[reducible] def vAugF (C f : Str) (o : VE) (op : O2) (a : VE) : VS := fun s m G => o s m (fun d m1 => onI C m1 d fun p fs => onO (fs.lookup f) fun v => a s m1 (fun e m2 => op v e m2 fun z m3 => onI C m3 d fun p' fs' => fs'.length < 1000 ∧ G.nx s (mset m3 p (.ins C (putFD f z fs')))) fun e m' => G.ex e s m') fun e m' => G.ex e s m'
theorem js_augF {C f : Str} {fl : List Str} {o e : Expr} {vo ve : VE} {op : Operator} {ov : O2} {rd : V → V → Hp → VK → Prop} {tpos pos : Pos} (c : ClN X.K X.mg C fl) (hf : f ∈ fl) (ho : JE X W o vo) (he : JE X W e ve) (hop : InOp X op rd) (hr : SndO2 X.K X.mg rd ov) : JS X W (.AugAssign (.Attribute o f tpos) op e pos) (vAugF C f vo ov ve) := by
  obtain ⟨Ca, h1, h2, h3⟩ := c.ex; obtain ⟨to, p1, s1⟩ := ho; obtain ⟨te, p2, s2⟩ := he
  refine ⟨_, ps_fldaug p1 p2 hop, fun σ F H s m G l en h E L => s1 σ F H s m _ _ l en h (L.x en) _ fun w d F1 H1 m1 t1 r1 k1 => ?_⟩
  obtain ⟨p, fs, rfl, hm, k1⟩ := onI_of k1
  obtain ⟨v, hv, k1⟩ := onO_of k1
  obtain ⟨_, Ca', dx, xs, e1, e2, rk⟩ := t1.mr p _ hm
  rw [h1] at e1
  cases e1
  obtain ⟨u, hu, ru⟩ := rk.lookup hv
  refine ⟨p, Ca, dx, xs, u, r1.refI, e2, h2, h3 f hf, hu, s2 σ F1 H1 s m1 _ _ t1.le (en.stm t1) k1 ((L.x en).after t1) _ fun w2 d2 F2 H2 m2 t2 r2 k2 => ?_⟩
  refine hr F2 H2 m2 v d2 u w2 _ t2.le t2.mr (ru.mono t2.gr) r2 k2 _ fun z dz F3 H3 m3 t3 r3 k3 => ?_
  obtain ⟨p', fs', ep, hm3, hz, k3⟩ := onI_of k3
  cases ep
  obtain ⟨_, Ca', dx', xs', e1, e3, rk'⟩ := t3.mr p _ hm3
  rw [h1] at e1
  cases e1
  have st := (t1.trans t2).trans t3
  have sp := StM.put (o := .ins Ca dx' (putF f z xs')) t3.le t3.mr hm3 rfl (u := .ins C (putFD f dz fs')) ⟨Ca, dx', _, h1, upd_same, rk'.putF r3⟩
  exact ⟨dx', xs', e3, by rw [rk'.len]; exact hz, L.nx σ s F3 _ _ (st.trans sp) (en.stm (st.trans sp)) k3⟩
theorem sx_add : SndO2 X.K X.mg rAdd oAddI := fun F H m x y u v k l mr a b h Q q => by
  unfold oAddI at h
  split at h
  · exact ⟨_, _, a.intI, b.intI, q _ _ F H m (StM.refl l mr) (.int _) h⟩
  · exact h.elim
/-! x.split(y) -/
def oSplit : OM := fun d ds m k => match d, ds with
  | .str x, [.str y] => ∃ a b : List Nat, x = S a ∧ y = S b ∧ b ≠ [] ∧ b.all (· < 256) = true ∧ a.length ≤ 1000000 ∧ k (.lst ((TL.spl b 0 [] a).map fun w => .str (S w))) m
  | _, _ => False
theorem jm_split : JM X "str.split" oSplit := ⟨_, mt_split, fun F H m x xs u us k l mr r rs h Q q => by
  unfold oSplit at h
  split at h
  · obtain ⟨a, b, rfl, rfl, hb, hk, ha, h⟩ := h
    obtain ⟨w, rfl, rw_⟩ := rs.one
    obtain rfl := r.strI
    obtain rfl := rw_.strI
    refine ⟨S a, S b, rfl, rfl, ?_, by rw [S_len]; exact Nat.le_trans (Nat.add_le_add_right ha 2) (by decide), fun p hp => ?_⟩
    · rw [S_len]; cases b with
      | nil => exact absurd rfl hb
      | cons c b => rfl
    · rw [SX.split_S hb hk]
      have st := Step.new (F := F) (o := .lst (((TL.spl b 0 [] a).map S).map V.str)) l hp
      refine q _ _ _ _ m (st.stm mr) (.lst upd_same ?_) h
      rw [show ((TL.spl b 0 [] a).map fun w => D.str (S w)) = ((TL.spl b 0 [] a).map S).map D.str by rw [List.map_map]; rfl]
      exact RpL.strs _
  · exact h.elim⟩
end
end Ts
/-! ### {**a, **b}; sorted of any length; self.f, self.g = x, y; max(xs) -/
namespace PySem
open Sem (wp)
section
variable {prog : Program} {w : World} {K : Type} [DecidableEq K] {knd : KeyKind prog w K} {A : Around} {E : Value → Shared → Prop} {s : Shared}
end
end PySem
namespace L2
open PySem PyProof.Rows
section
variable {X : Cx} {pos : Pos} {a b : Expr} {ta tb : TE}
end
end L2

namespace L2
open PySem PyProof.Rows
section
variable {X : Cx}
end
end L2
namespace Ts
open PySem PySem.Spec PyProof.Rows L2
section
variable {X : Cx} {W : WX} {pos : Pos}
/-! self.f, self.g = x, y -/
@[reducible] def vParF (C f g : Str) (o1 o2 : VE) (a : VA) : VS := fun s m G => a s m (fun ds m1 => match ds with
  | [d, e] => o1 s m1 (fun r m2 => onI C m2 r fun p fs => fs.length < 1000 ∧ o2 s (mset m2 p (.ins C (putFD f d fs))) (fun r' m3 => onI C m3 r' fun p' fs' => fs'.length < 1000 ∧ G.nx s (mset m3 p' (.ins C (putFD g e fs')))) fun e m' => G.ex e s m') fun e m' => G.ex e s m'
  | _ => False) fun e m' => G.ex e s m'
/-! {**a, **b} -/
def notR (p : Addr) : D → Prop
  | .ref q => q ≠ p
  | _ => True
@[reducible] def vSpread (a b : VE) : VE := fun s m k x => ∀ p, m p = none → a s (mset m p (.dic [])) (fun d1 m1 => onO (asK m1 d1) fun k1 => notR p d1 ∧ m1 p = some (.dic []) ∧
  b s (mset m1 p (.dic (mergeD [] k1))) (fun d2 m2 => onO (asK m2 d2) fun k2 => notR p d2 ∧ ∃ kp, m2 p = some (.dic kp) ∧ kp.length + k2.length ≤ 1000000 ∧ k (.ref p) (mset m2 p (.dic (mergeD kp k2)))) x) x
/-! sorted -/
def strKs : List (Key × D) → Option (List Str)
  | [] => some []
  | (.inr z, _) :: r => (strKs r).map (z :: ·)
  | _ => none
/-- sorted(d), keys texts -/
def oSortD : OA := fun ds m k => match ds with
  | [d] => onO (asK m d) fun kvs => onO (strKs kvs) fun xs => xs.length ≤ 1000000 ∧ ∀ ys : List Str, ys.Perm xs → sortedS ys = true → k (.lst (ys.map D.str)) m
  | _ => False
/-- sorted(xs), texts -/
def oSortA : OA := fun ds m k => match ds with
  | [d] => onO (asL m d) fun ds => onO (strDs ds) fun xs => xs.length ≤ 1000000 ∧ ∀ ys : List Str, ys.Perm xs → sortedS ys = true → k (.lst (ys.map D.str)) m
  | _ => False
/-- max(xs), ints -/
def oMaxL : OA := fun ds m k => match ds with
  | [d] => onO (asL m d) fun ds => onO (intDs ds) fun xs => 0 < xs.length ∧ ∀ i : Int, i ∈ xs → (∀ y ∈ xs, y ≤ i) → k (.int i) m
  | _ => False
/-! a call that is lent the lists of the memory: it is pure, it hands back flat data -/
def rdD (m : Mem) : Nat → D → D
  | 0, d => d
  | n + 1, .ref p => match m p with
    | some (.lst es) => .lst (es.map (rdD m n))
    | _ => .ref p
  | n + 1, .lst ds => .lst (ds.map (rdD m n))
  | n + 1, .tup ds => .tup (ds.map (rdD m n))
  | _ + 1, d => d
def flatD : D → Prop
  | .non => True
  | .bl _ => True
  | .int _ => True
  | .str _ => True
  | _ => False
@[reducible] def vCallL (n : Nat) (φ : P0) (a : VA) : VE := fun s m k x => a s m (fun ds m1 => φ (ds.map (rdD m1 n)) (fun _ => none) (fun d _ => flatD d ∧ k d m1)) x
end
end Ts
/-! ### ==, len, repr of own instances -/
namespace Ts
open PySem PySem.Spec PyProof.Rows L2
section
variable {X : Cx} {k : Nat} {sp : Sp} {E : L2.St → XK} {pins : List (Addr × Obj)} {σ : L2.St} {H : Hp} {s : Shared} {Q : VK} {us : List Value} {vs : List V} {f : Addr} {CX : CXT}
end
/-! the judgements -/
def blD : D → (D → Prop) → Prop
  | .bl b, k => k (.bl b)
  | _, _ => False
def inD : D → (D → Prop) → Prop
  | .int n, k => (0 ≤ n ∧ n < 2 ^ 62) ∧ k (.int n)
  | _, _ => False
def txD : D → (D → Prop) → Prop
  | .str z, k => k (.str z)
  | _, _ => False
/-- an instance of C or a list -/
def insL (C : Str) (m : Mem) (e : D) : Prop := (asI C m e).isSome = true ∨ (asL m e).isSome = true
@[reducible] def oEqI (C : Str) (φ : P0) : O2 := fun d e m k => onO (asI C m d) fun _ => insL C m e ∧ φ [d, e] m fun y m1 => blD y fun y => k y m1
def oLenI (C : Str) (φ : P0) : OA
  | [d], m, k => onO (asI C m d) fun _ => φ [d] m fun y m1 => inD y fun y => k y m1
  | _, _, _ => False
def oReprI (C : Str) (φ : P0) : OA
  | [d], m, k => onO (asI C m d) fun _ => φ [d] m fun y m1 => txD y fun y => k y m1
  | _, _, _ => False
section
variable {X : Cx} {C : Str} {k : Nat} {φ : P0}
end
/-! ### C.m(..), m a staticmethod -/
/-- C.m is a staticmethod: its record at p, its def at g -/
structure SMet (K : PySem.W.Frag) (C : Addr) (mc : Value) (m : Str) (p g : Addr) : Prop where
  at_ : PySem.W.findCls K (.ref C) mc m = some (.get (.builtin "staticmethod.__get__") (.ref p) .none (.ref C))
  rc : ∃ rest, PySem.W.recIn K p "staticmethod" = some (.ref g :: rest)
  kp : PySem.W.keepIn K (.ref g) = true
section
variable {X : Cx} {CX : CXT} {k : Nat} {C p g : Addr} {mc : Value} {sp : Sp} {E : L2.St → XK} {o e : Expr} {es : List Expr} {m : Str} {pos apos : Pos} {ta : TE} {t : TA} {pl : Sem Bool} {pins : List (Addr × Obj)} {σ : L2.St} {H : Hp} {s : Shared}
end
/-- a staticmethod that may raise -/
structure SmX (P : Program) (w : World) (K : PySem.W.Frag) (mg : Str → Option Value) (base : Heap) (C mt : Str) (k : Nat) (φ : PX) : Prop where
  ex : ∃ Ca mc p g, mg C = some (.ref Ca) ∧ ClX.CRead K Ca mc ∧ SMet K Ca mc mt p g ∧ FnR P w K mg base (L2.CX P w) k g (SpX K mg φ)
section
variable {X : Cx} {W : WX} {pos : Pos}
end
end Ts
/-! ### the head: staticmethods -/
namespace Ts
open PySem PySem.Spec PyProof.Rows L2
/-- a staticmethod: its class, its name, what its def says -/
structure SDf where
  C : Str
  m : Str
  qual : Str
  params : Arguments
  body : List Stmt
  scope : Scope
def SDf.val (d : SDf) : He.FnW := some (d.m, d.qual, d.params, .stmts d.body, d.scope, mainGlobals, [], builtinsNs)
theorem SmX.mk1 {P : Program} {w : World} {K : PySem.W.Frag} {mg : Str → Option Value} {base : Heap} {C mt : Str} {k : Nat} {φ : PX} {Ca p g : Addr} {mc : Value} {fd : FuncData} {ps : List Str} (hm : mg C = some (.ref Ca)) (r : ClX.CRead K Ca mc) (c : SMet K Ca mc mt p g) (b : Binds K fd ps []) (F : FnOk P w K mg base (L2.CX P w) k g fd ps (SpX K mg φ)) : SmX P w K mg base C mt k φ :=
  ⟨Ca, mc, p, g, hm, r, c, (F.raw b .nil).imp fun vs H Q E h => by rw [List.append_nil]; exact h⟩
/-! the hook: as hookX, with staticmethods -/
/-! ### C(k2 = .., k1 = ..): two keywords in the other order -/
def swapX (φ : PX) : PX := fun ds m k x => match ds with
  | [p, b, a] => φ [p, a, b] m k x
  | _ => False
section
variable {P : Program} {w : World} {K : PySem.W.Frag} {mg : Str → Option Value} {base : Heap} {C k1 k2 : Str} {k : Nat} {Ca f : Addr} {fd : FuncData} {ps : List Str}
end
end Ts
/-! ### isinstance(x, C), C an own class -/
namespace Ts
open PySem PySem.Spec PyProof.Rows L2
/-- is it an instance of C? -/
def isiD (C : Str) (m : Mem) (d : D) (k : Bool → Prop) : Prop := match asI C m d with
  | some _ => k true
  | none => isDit d = false ∧ onO (tyM m d) fun _ => k false
@[reducible] def vIsiC (C : Str) (a : VE) : VE := fun s m k x => a s m (fun d m1 => isiD C m1 d fun b => k (.bl b) m1) x
section
variable {X : Cx} {W : WX} {pos : Pos}
end
end Ts
/-! ### defaults: an empty tuple; a class made with the last arguments left out -/
namespace Ts
open PySem PySem.Spec PyProof.Rows L2
section
variable {P : Program} {w : World} {K : PySem.W.Frag} {mg : Str → Option Value} {base : Heap} {C mt : Str} {k : Nat} {Ca f : Addr} {fd : FuncData} {ps : List Str} {dvs : List V} {des : List D}
end
end Ts
/-! ### a list, frozen or of the memory, or a tuple, walked as it stands -/
namespace Ts
open PySem PySem.Spec PyProof.Rows L2
@[reducible] def vWalkI (a : VE) : VI := fun s m k x => a s m (fun d m' => onO (itemsOf m' d) fun es => k es (fun m2 => itemsOf m2 d = some es) m') x
section
variable {X : Cx} {W : WX} {tg e : Expr} {ve : VE}
theorem ItD.dep {K : PySem.W.Frag} {mg : Str → Option Value} {J : It} {F : Hp} {ds : List D} {dep : Mem → Prop} (h : ItD K mg J F (fun _ => True) ds) : ItD K mg J F dep ds := fun F' H' m' i gr le mr _ => h F' H' m' i gr le mr trivial
end
/-! items stand in a larger memory -/
end Ts
namespace Ts
open PySem PySem.Spec PyProof.Rows L2
theorem oLenI_1 : type_of% @oLenI.eq_1 := @oLenI.eq_1
theorem oReprI_1 : type_of% @oReprI.eq_1 := @oReprI.eq_1
theorem blD_1 : type_of% @blD.eq_1 := @blD.eq_1
theorem inD_1 : type_of% @inD.eq_1 := @inD.eq_1
theorem txD_1 : type_of% @txD.eq_1 := @txD.eq_1
theorem swapX_1 : type_of% @swapX.eq_1 := @swapX.eq_1
theorem oAdd_1 : type_of% @oAdd.eq_1 := @oAdd.eq_1
theorem oAdd_2 : type_of% @oAdd.eq_2 := @oAdd.eq_2
theorem oAdd_3 : type_of% @oAdd.eq_3 := @oAdd.eq_3
theorem oAdd_4 : type_of% @oAdd.eq_4 := @oAdd.eq_4
theorem oAdd_5 : type_of% @oAdd.eq_5 := @oAdd.eq_5
theorem oAdd_6 : type_of% @oAdd.eq_6 := @oAdd.eq_6
theorem oSub_1 : type_of% @oSub.eq_1 := @oSub.eq_1
theorem oMul_1 : type_of% @oMul.eq_1 := @oMul.eq_1
theorem oMul_2 : type_of% @oMul.eq_2 := @oMul.eq_2
theorem oMul_3 : type_of% @oMul.eq_3 := @oMul.eq_3
theorem oFdiv_1 : type_of% @oFdiv.eq_1 := @oFdiv.eq_1
theorem oMod_1 : type_of% @oMod.eq_1 := @oMod.eq_1
theorem oPow_1 : type_of% @oPow.eq_1 := @oPow.eq_1
theorem oNeg_1 : type_of% @oNeg.eq_1 := @oNeg.eq_1
theorem oLt_1 : type_of% @oLt.eq_1 := @oLt.eq_1
theorem oLt_2 : type_of% @oLt.eq_2 := @oLt.eq_2
theorem oLe_1 : type_of% @oLe.eq_1 := @oLe.eq_1
theorem oGt_1 : type_of% @oGt.eq_1 := @oGt.eq_1
theorem oGt_2 : type_of% @oGt.eq_2 := @oGt.eq_2
theorem oGe_1 : type_of% @oGe.eq_1 := @oGe.eq_1
theorem oIs_1 : type_of% @oIs.eq_1 := @oIs.eq_1
theorem oIsNot_1 : type_of% @oIsNot.eq_1 := @oIsNot.eq_1
theorem oIx_1 : type_of% @oIx.eq_1 := @oIx.eq_1
theorem oIx_2 : type_of% @oIx.eq_2 := @oIx.eq_2
theorem oIx_3 : type_of% @oIx.eq_3 := @oIx.eq_3
theorem oIx_4 : type_of% @oIx.eq_4 := @oIx.eq_4
theorem oIx_5 : type_of% @oIx.eq_5 := @oIx.eq_5
theorem oSl_1 : type_of% @oSl.eq_1 := @oSl.eq_1
theorem oSl_2 : type_of% @oSl.eq_2 := @oSl.eq_2
theorem oSl_3 : type_of% @oSl.eq_3 := @oSl.eq_3
theorem oSl_4 : type_of% @oSl.eq_4 := @oSl.eq_4
theorem oLen_1 : type_of% @oLen.eq_1 := @oLen.eq_1
theorem oLen_2 : type_of% @oLen.eq_2 := @oLen.eq_2
theorem oLen_3 : type_of% @oLen.eq_3 := @oLen.eq_3
theorem oLen_4 : type_of% @oLen.eq_4 := @oLen.eq_4
theorem oLen_5 : type_of% @oLen.eq_5 := @oLen.eq_5
theorem oLen_6 : type_of% @oLen.eq_6 := @oLen.eq_6
theorem oInt_1 : type_of% @oInt.eq_1 := @oInt.eq_1
theorem oInt_2 : type_of% @oInt.eq_2 := @oInt.eq_2
theorem oInt_3 : type_of% @oInt.eq_3 := @oInt.eq_3
theorem oAbs_1 : type_of% @oAbs.eq_1 := @oAbs.eq_1
theorem oAll_1 : type_of% @oAll.eq_1 := @oAll.eq_1
theorem oTuple_1 : type_of% @oTuple.eq_1 := @oTuple.eq_1
theorem oTuple_2 : type_of% @oTuple.eq_2 := @oTuple.eq_2
theorem oTuple_3 : type_of% @oTuple.eq_3 := @oTuple.eq_3
theorem oTuple_4 : type_of% @oTuple.eq_4 := @oTuple.eq_4
theorem oList_1 : type_of% @oList.eq_1 := @oList.eq_1
theorem oList_2 : type_of% @oList.eq_2 := @oList.eq_2
theorem oList_3 : type_of% @oList.eq_3 := @oList.eq_3
theorem oList_4 : type_of% @oList.eq_4 := @oList.eq_4
theorem oList_5 : type_of% @oList.eq_5 := @oList.eq_5
theorem oListO_1 : type_of% @oListO.eq_1 := @oListO.eq_1
theorem oListO_2 : type_of% @oListO.eq_2 := @oListO.eq_2
theorem oListO_3 : type_of% @oListO.eq_3 := @oListO.eq_3
theorem oListO_4 : type_of% @oListO.eq_4 := @oListO.eq_4
theorem oListO_5 : type_of% @oListO.eq_5 := @oListO.eq_5
theorem vGet_1 : type_of% @vGet.eq_1 := @vGet.eq_1
theorem isB_1 : type_of% @isB.eq_1 := @isB.eq_1
theorem gNl_1 : type_of% @gNl.eq_1 := @gNl.eq_1
theorem gCn_1 : type_of% @gCn.eq_1 := @gCn.eq_1
theorem gTp_1 : type_of% @gTp.eq_1 := @gTp.eq_1
theorem gTp_2 : type_of% @gTp.eq_2 := @gTp.eq_2
theorem gUl_1 : type_of% @gUl.eq_1 := @gUl.eq_1
theorem gUl_2 : type_of% @gUl.eq_2 := @gUl.eq_2
theorem onL_1 : type_of% @onL.eq_1 := @onL.eq_1
theorem onO_1 : type_of% @onO.eq_1 := @onO.eq_1
theorem onO_2 : type_of% @onO.eq_2 := @onO.eq_2
theorem onM_1 : type_of% @onM.eq_1 := @onM.eq_1
theorem oIadd_1 : type_of% @oIadd.eq_1 := @oIadd.eq_1
theorem oIadd_2 : type_of% @oIadd.eq_2 := @oIadd.eq_2
theorem oInS_1 : type_of% @oInS.eq_1 := @oInS.eq_1
theorem oNotInS_1 : type_of% @oNotInS.eq_1 := @oNotInS.eq_1
theorem onS_1 : type_of% @onS.eq_1 := @onS.eq_1
theorem flD_1 : type_of% @flD.eq_1 := @flD.eq_1
theorem flD_2 : type_of% @flD.eq_2 := @flD.eq_2
theorem flD_3 : type_of% @flD.eq_3 := @flD.eq_3
theorem flD_4 : type_of% @flD.eq_4 := @flD.eq_4
theorem strD_1 : type_of% @strD.eq_1 := @strD.eq_1
theorem wkD_1 : type_of% @wkD.eq_1 := @wkD.eq_1
theorem wkD_2 : type_of% @wkD.eq_2 := @wkD.eq_2
theorem wkD_3 : type_of% @wkD.eq_3 := @wkD.eq_3
theorem wkD_4 : type_of% @wkD.eq_4 := @wkD.eq_4
theorem wkD_5 : type_of% @wkD.eq_5 := @wkD.eq_5
theorem zpD_1 : type_of% @zpD.eq_1 := @zpD.eq_1
theorem zpD_2 : type_of% @zpD.eq_2 := @zpD.eq_2
theorem oStr_1 : type_of% @oStr.eq_1 := @oStr.eq_1
theorem oStr_2 : type_of% @oStr.eq_2 := @oStr.eq_2
theorem oFmt_1 : type_of% @oFmt.eq_1 := @oFmt.eq_1
theorem oFmt_2 : type_of% @oFmt.eq_2 := @oFmt.eq_2
theorem vJs_1 : type_of% @vJs.eq_1 := @vJs.eq_1
theorem vJs_2 : type_of% @vJs.eq_2 := @vJs.eq_2
theorem keyD_1 : type_of% @keyD.eq_1 := @keyD.eq_1
theorem keyD_2 : type_of% @keyD.eq_2 := @keyD.eq_2
theorem asK_1 : type_of% @asK.eq_1 := @asK.eq_1
theorem asK_2 : type_of% @asK.eq_2 := @asK.eq_2
theorem dicO_1 : type_of% @dicO.eq_1 := @dicO.eq_1
theorem oIsB_1 : type_of% @oIsB.eq_1 := @oIsB.eq_1
theorem oIsNotB_1 : type_of% @oIsNotB.eq_1 := @oIsNotB.eq_1
theorem hdV_1 : type_of% @hdV.eq_1 := @hdV.eq_1
theorem hdV_2 : type_of% @hdV.eq_2 := @hdV.eq_2
theorem onB_1 : type_of% @onB.eq_1 := @onB.eq_1
theorem onB_2 : type_of% @onB.eq_2 := @onB.eq_2
theorem onB_3 : type_of% @onB.eq_3 := @onB.eq_3
theorem flDs_1 : type_of% @flDs.eq_1 := @flDs.eq_1
theorem flDs_2 : type_of% @flDs.eq_2 := @flDs.eq_2
theorem onD_1 : type_of% @onD.eq_1 := @onD.eq_1
theorem onDo_1 : type_of% @onDo.eq_1 := @onDo.eq_1
theorem kyD_1 : type_of% @kyD.eq_1 := @kyD.eq_1
theorem oListD_1 : type_of% @oListD.eq_1 := @oListD.eq_1
theorem oListS_1 : type_of% @oListS.eq_1 := @oListS.eq_1
theorem enmD_1 : type_of% @enmD.eq_1 := @enmD.eq_1
theorem onI_1 : type_of% @onI.eq_1 := @onI.eq_1
theorem onIo_1 : type_of% @onIo.eq_1 := @onIo.eq_1
theorem oAddI_1 : type_of% @oAddI.eq_1 := @oAddI.eq_1
theorem oSortD_1 : type_of% @oSortD.eq_1 := @oSortD.eq_1
theorem oSortA_1 : type_of% @oSortA.eq_1 := @oSortA.eq_1
theorem oMaxL_1 : type_of% @oMaxL.eq_1 := @oMaxL.eq_1
theorem flatD_1 : type_of% @flatD.eq_1 := @flatD.eq_1
theorem flatD_2 : type_of% @flatD.eq_2 := @flatD.eq_2
theorem flatD_3 : type_of% @flatD.eq_3 := @flatD.eq_3
theorem flatD_4 : type_of% @flatD.eq_4 := @flatD.eq_4
theorem flatD_5 : type_of% @flatD.eq_5 := @flatD.eq_5
theorem strKs_1 : type_of% @strKs.eq_1 := @strKs.eq_1
theorem strKs_2 : type_of% @strKs.eq_2 := @strKs.eq_2
theorem rdD_1 : type_of% @rdD.eq_1 := @rdD.eq_1
theorem rdD_2 : type_of% @rdD.eq_2 := @rdD.eq_2
theorem rdD_3 : type_of% @rdD.eq_3 := @rdD.eq_3
theorem rdD_4 : type_of% @rdD.eq_4 := @rdD.eq_4
theorem rdD_5 : type_of% @rdD.eq_5 := @rdD.eq_5
theorem notR_1 : type_of% @notR.eq_1 := @notR.eq_1
theorem notR_2 : type_of% @notR.eq_2 := @notR.eq_2
end Ts
namespace Ts
open PySem PySem.Spec PyProof.Rows L2
local macro_rules | `(tactic| walk_at "vc") => `(tactic| ((try dsimp only [vNext, vBreak, vCont, vSeq, vRet, vRetN, vDrop, vIfS, vNever, vAsg, vSet, vPar, vPar3, vAug, vFrz, vFz, vSetIx, vDelIx, gN, vC, vVar, vOp, vUn, vNil, vCons, vTup, vLst, vLstO, vCB, tV, vAnd, vOr, vNot, vYes, vAndV, vOrV, vNotV, vIf, vChain, vNoP, vP, vSl, vCall, vCallX, vBM, vBM0, vIsi, vIsi2, vWalk, vFor, vLc, vLcO, vRng1, vRng2, vEnum, vZip, oEq, oNe, oAppend, oClear, oExtend, oInsert, oPop, isTy, vJoin, vLs, oJoin, oSortS, oSortI, oInL, oNotInL, vFmt, vJoined, vDGet, oDGet, oNeK, oEqK, eqDK, vLam, vAsk, vTry, vXf, vRaise1, vRaise0, vCallKX, vDNewO, vDGet2, vDPut, vKeys, vRev, oRev, vDc, vPartn, oPartn, vForM, vEnumM, vFld, vSetF, vMeth, vMethX, vMake, vMakeX, vMakeK, vTupK, vMn, vMc, vMatch, vAugF, vParF, vSpread, vIsiC, oEqI, vCallL, vWalkI]); try simp only [vNext, vBreak, vCont, vSeq, vRet, vRetN, vDrop, vIfS, vNever, vAsg, vSet, vPar, vPar3, vAug, vFrz, vFz, vSetIx, vDelIx, gN, vC, vVar, vOp, vUn, vNil, vCons, vTup, vLst, vLstO, vCB, tV, vAnd, vOr, vNot, vYes, vAndV, vOrV, vNotV, vIf, vChain, vNoP, vP, vSl, vCall, vCallX, vBM, vBM0, vIsi, vIsi2, vWalk, vFor, vLc, vLcO, vRng1, vRng2, vEnum, vZip, oEq, oNe, oAppend, oClear, oExtend, oInsert, oPop, isTy, vJoin, vLs, oJoin, oSortS, oSortI, oInL, oNotInL, vFmt, vJoined, vDGet, oDGet, oNeK, oEqK, eqDK, vLam, vAsk, vTry, vXf, vRaise1, vRaise0, vCallKX, vDNewO, vDGet2, vDPut, vKeys, vRev, oRev, vDc, vPartn, oPartn, vForM, vEnumM, vFld, vSetF, vMeth, vMethX, vMake, vMakeX, vMakeK, vTupK, vMn, vMc, vMatch, vAugF, vParF, vSpread, vIsiC, oEqI, vCallL, vWalkI, oLenI_1, oReprI_1, blD_1, inD_1, txD_1, swapX_1, oAdd_1, oAdd_2, oAdd_3, oAdd_4, oAdd_5, oAdd_6, oSub_1, oMul_1, oMul_2, oMul_3, oFdiv_1, oMod_1, oPow_1, oNeg_1, oLt_1, oLt_2, oLe_1, oGt_1, oGt_2, oGe_1, oIs_1, oIsNot_1, oIx_1, oIx_2, oIx_3, oIx_4, oIx_5, oSl_1, oSl_2, oSl_3, oSl_4, oLen_1, oLen_2, oLen_3, oLen_4, oLen_5, oLen_6, oInt_1, oInt_2, oInt_3, oAbs_1, oAll_1, oTuple_1, oTuple_2, oTuple_3, oTuple_4, oList_1, oList_2, oList_3, oList_4, oList_5, oListO_1, oListO_2, oListO_3, oListO_4, oListO_5, vGet_1, isB_1, gNl_1, gCn_1, gTp_1, gTp_2, gUl_1, gUl_2, onL_1, onO_1, onO_2, onM_1, oIadd_1, oIadd_2, oInS_1, oNotInS_1, onS_1, flD_1, flD_2, flD_3, flD_4, strD_1, wkD_1, wkD_2, wkD_3, wkD_4, wkD_5, zpD_1, zpD_2, oStr_1, oStr_2, oFmt_1, oFmt_2, vJs_1, vJs_2, keyD_1, keyD_2, asK_1, asK_2, dicO_1, oIsB_1, oIsNotB_1, hdV_1, hdV_2, onB_1, onB_2, onB_3, flDs_1, flDs_2, onD_1, onDo_1, kyD_1, oListD_1, oListS_1, enmD_1, onI_1, onIo_1, oAddI_1, oSortD_1, oSortA_1, oMaxL_1, flatD_1, flatD_2, flatD_3, flatD_4, flatD_5, strKs_1, strKs_2, rdD_1, rdD_2, rdD_3, rdD_4, rdD_5, notR_1, notR_2, insO_1, asI_1, asI_2, noneB, atI_0, atI_1, atI_2, atI_3, ixN_0, ixN_1, ixN_2, ixN_3, mset_twice, frz_l, frz_d, frz_i, eqK_i, eqK_s, eqK_b, eqK_t, eqK_l, its_tup, its_pr, its_lst, its_lat, asL_lst, asL_lat, asL_rf, its_rf, lstO_l, strDs_map, intDs_map, flDs_str, flDs_int, S1, S_len, S_app, cutS_S, repS_S, tyM, Ty.is, isDit, dstart, wipeD, mset_same, List.map, List.length, List.replicate, List.cons_append, List.nil_append, List.set_cons_zero, List.set_cons_succ, List.getElem?_cons_zero, List.getElem?_cons_succ, Nat.reduceSub, Nat.reduceAdd, Nat.reduceLeDiff, true_and, and_true, if_true, if_false, ite_true, ite_false, Bool.false_eq_true, decide_eq_true_eq, Bool.or_true, Bool.true_or, Bool.or_false, Bool.false_or, Bool.not_true, Bool.not_false, Bool.not_eq_true', decide_eq_false_iff_not, decide_true, decide_false, not_true_eq_false, not_false_eq_true, and_self, ne_eq, Int.cast_ofNat_Int, Int.reduceLE, Int.reduceLT, Int.reduceEq, Int.reduceNe, Int.reduceNeg, Int.reduceAdd, Int.reduceSub, Int.reduceMul, reduceCtorEq]))
local macro_rules | `(tactic| walk_at "vc*") => `(tactic| ((try dsimp only [vNext, vBreak, vCont, vSeq, vRet, vRetN, vDrop, vIfS, vNever, vAsg, vSet, vPar, vPar3, vAug, vFrz, vFz, vSetIx, vDelIx, gN, vC, vVar, vOp, vUn, vNil, vCons, vTup, vLst, vLstO, vCB, tV, vAnd, vOr, vNot, vYes, vAndV, vOrV, vNotV, vIf, vChain, vNoP, vP, vSl, vCall, vCallX, vBM, vBM0, vIsi, vIsi2, vWalk, vFor, vLc, vLcO, vRng1, vRng2, vEnum, vZip, oEq, oNe, oAppend, oClear, oExtend, oInsert, oPop, isTy, vJoin, vLs, oJoin, oSortS, oSortI, oInL, oNotInL, vFmt, vJoined, vDGet, oDGet, oNeK, oEqK, eqDK, vLam, vAsk, vTry, vXf, vRaise1, vRaise0, vCallKX, vDNewO, vDGet2, vDPut, vKeys, vRev, oRev, vDc, vPartn, oPartn, vForM, vEnumM, vFld, vSetF, vMeth, vMethX, vMake, vMakeX, vMakeK, vTupK, vMn, vMc, vMatch, vAugF, vParF, vSpread, vIsiC, oEqI, vCallL, vWalkI]); try simp only [vNext, vBreak, vCont, vSeq, vRet, vRetN, vDrop, vIfS, vNever, vAsg, vSet, vPar, vPar3, vAug, vFrz, vFz, vSetIx, vDelIx, gN, vC, vVar, vOp, vUn, vNil, vCons, vTup, vLst, vLstO, vCB, tV, vAnd, vOr, vNot, vYes, vAndV, vOrV, vNotV, vIf, vChain, vNoP, vP, vSl, vCall, vCallX, vBM, vBM0, vIsi, vIsi2, vWalk, vFor, vLc, vLcO, vRng1, vRng2, vEnum, vZip, oEq, oNe, oAppend, oClear, oExtend, oInsert, oPop, isTy, vJoin, vLs, oJoin, oSortS, oSortI, oInL, oNotInL, vFmt, vJoined, vDGet, oDGet, oNeK, oEqK, eqDK, vLam, vAsk, vTry, vXf, vRaise1, vRaise0, vCallKX, vDNewO, vDGet2, vDPut, vKeys, vRev, oRev, vDc, vPartn, oPartn, vForM, vEnumM, vFld, vSetF, vMeth, vMethX, vMake, vMakeX, vMakeK, vTupK, vMn, vMc, vMatch, vAugF, vParF, vSpread, vIsiC, oEqI, vCallL, vWalkI, oLenI_1, oReprI_1, blD_1, inD_1, txD_1, swapX_1, oAdd_1, oAdd_2, oAdd_3, oAdd_4, oAdd_5, oAdd_6, oSub_1, oMul_1, oMul_2, oMul_3, oFdiv_1, oMod_1, oPow_1, oNeg_1, oLt_1, oLt_2, oLe_1, oGt_1, oGt_2, oGe_1, oIs_1, oIsNot_1, oIx_1, oIx_2, oIx_3, oIx_4, oIx_5, oSl_1, oSl_2, oSl_3, oSl_4, oLen_1, oLen_2, oLen_3, oLen_4, oLen_5, oLen_6, oInt_1, oInt_2, oInt_3, oAbs_1, oAll_1, oTuple_1, oTuple_2, oTuple_3, oTuple_4, oList_1, oList_2, oList_3, oList_4, oList_5, oListO_1, oListO_2, oListO_3, oListO_4, oListO_5, vGet_1, isB_1, gNl_1, gCn_1, gTp_1, gTp_2, gUl_1, gUl_2, onL_1, onO_1, onO_2, onM_1, oIadd_1, oIadd_2, oInS_1, oNotInS_1, onS_1, flD_1, flD_2, flD_3, flD_4, strD_1, wkD_1, wkD_2, wkD_3, wkD_4, wkD_5, zpD_1, zpD_2, oStr_1, oStr_2, oFmt_1, oFmt_2, vJs_1, vJs_2, keyD_1, keyD_2, asK_1, asK_2, dicO_1, oIsB_1, oIsNotB_1, hdV_1, hdV_2, onB_1, onB_2, onB_3, flDs_1, flDs_2, onD_1, onDo_1, kyD_1, oListD_1, oListS_1, enmD_1, onI_1, onIo_1, oAddI_1, oSortD_1, oSortA_1, oMaxL_1, flatD_1, flatD_2, flatD_3, flatD_4, flatD_5, strKs_1, strKs_2, rdD_1, rdD_2, rdD_3, rdD_4, rdD_5, notR_1, notR_2, insO_1, asI_1, asI_2, noneB, atI_0, atI_1, atI_2, atI_3, ixN_0, ixN_1, ixN_2, ixN_3, mset_twice, frz_l, frz_d, frz_i, eqK_i, eqK_s, eqK_b, eqK_t, eqK_l, its_tup, its_pr, its_lst, its_lat, asL_lst, asL_lat, asL_rf, its_rf, lstO_l, strDs_map, intDs_map, flDs_str, flDs_int, S1, S_len, S_app, cutS_S, repS_S, tyM, Ty.is, isDit, dstart, wipeD, mset_same, List.map, List.length, List.replicate, List.cons_append, List.nil_append, List.set_cons_zero, List.set_cons_succ, List.getElem?_cons_zero, List.getElem?_cons_succ, Nat.reduceSub, Nat.reduceAdd, Nat.reduceLeDiff, true_and, and_true, if_true, if_false, ite_true, ite_false, Bool.false_eq_true, decide_eq_true_eq, Bool.or_true, Bool.true_or, Bool.or_false, Bool.false_or, Bool.not_true, Bool.not_false, Bool.not_eq_true', decide_eq_false_iff_not, decide_true, decide_false, not_true_eq_false, not_false_eq_true, and_self, ne_eq, Int.cast_ofNat_Int, Int.reduceLE, Int.reduceLT, Int.reduceEq, Int.reduceNe, Int.reduceNeg, Int.reduceAdd, Int.reduceSub, Int.reduceMul, reduceCtorEq, *]))
local macro_rules | `(tactic| walk_at "side") => `(tactic| first | exact cmul_r (by decide) (by decide) | exact cmul_l (by decide) (by decide) | exact cmul_fm (by decide) (by decide) | assumption | omega | decide)
local macro_rules | `(tactic| walk_at "sides") => `(tactic| repeat' (first | (refine And.intro (by walk_at "side") ?_) | refine itP (fun _ => ?_) (fun _ => ?_)))
/-! ### the law's common helpers -/
/-- what a draw may be asked: 0 < many < 2 ^ 9000 -/
abbrev preDraw (m : Int) : Prop := 0 < m ∧ m.natAbs < 2 ^ 9000
def ph__law_feed : P0 := phFeed
def ph__law_draw : P0 := phDraw preDraw
@[reducible] def v__law_feed_b1 : VS :=
  (vSet 2 (vOp oMod (vCB oInt (vCons (vOp oAdd (vOp oMul (vVar 2) (vC (.int 8117))) (vVar 3)) vNil)) (vC (.int 2147483629))))
/- def _law_feed, slots 0 _law_script 1 _law_cells 2 _law_mark 3 _law_cell -/
@[reducible] def v__law_feed : VS :=
  (vSeq (vSet 1 (vLc (vWalk (vSl (vVar 0) vNoP (vP (vC (.int 63))))) (gN 3) vYes (vCB oInt (vCons (vVar 3) vNil)) [3]))
    (vSeq (vSet 2 (vOp oAdd (vC (.int 3834)) (vOp oMul (vC (.int 53)) (vCB oLen (vCons (vVar 1) vNil)))))
    (vSeq (vFor (vWalk (vVar 1)) (gN 3) v__law_feed_b1)
    (vRet (vLstO (vCons (vVar 1) (vCons (vC (.int 0)) (vCons (vC (.int 0)) (vCons (vVar 2) vNil)))))))))
/- def _law_draw, slots 0 _law_feed_here 1 _law_many 2 _law_cell 3 _law_one 4 _law_two 5 _law_drawn -/
@[reducible] def v__law_draw : VS :=
  (vSeq (vIfS (tV (vOp oLt (vOp oIx (vVar 0) (vC (.int 2))) (vC (.int 2)))) (vSeq (vSetIx (vVar 0) (vC (.int 1)) (vOp oAdd (vOp oIx (vVar 0) (vC (.int 1))) (vC (.int 1))))
    (vSeq (vSet 2 (vOp oAdd (vOp oIx (vVar 0) (vC (.int 3))) (vOp oMul (vOp oIx (vVar 0) (vC (.int 1))) (vC (.int 7919)))))
    (vSeq (vIfS (tV (vOp oLe (vOp oIx (vVar 0) (vC (.int 1))) (vCB oLen (vCons (vOp oIx (vVar 0) (vC (.int 0))) vNil)))) (vSet 2 (vOp oIx (vOp oIx (vVar 0) (vC (.int 0))) (vOp oSub (vOp oIx (vVar 0) (vC (.int 1))) (vC (.int 1))))) vNext)
    (vSeq (vIfS (vOr (tV (vOp oGt (vOp oIx (vVar 0) (vC (.int 1))) (vCB oLen (vCons (vOp oIx (vVar 0) (vC (.int 0))) vNil)))) (tV (vOp oLt (vVar 2) (vOp oPow (vC (.int 10)) (vC (.int 18)))))) (vSeq (vSet 3 (vOp oMod (vCB oInt (vCons (vOp oAdd (vOp oAdd (vOp oMul (vVar 2) (vC (.int 48271))) (vOp oMul (vOp oIx (vVar 0) (vC (.int 1))) (vC (.int 69621)))) (vOp oIx (vVar 0) (vC (.int 3)))) vNil)) (vC (.int 2147483647))))
    (vSeq (vSet 4 (vOp oMod (vCB oInt (vCons (vOp oAdd (vOp oMul (vVar 3) (vVar 3)) (vOp oMul (vOp oIx (vVar 0) (vC (.int 1))) (vC (.int 16807)))) vNil)) (vC (.int 998244353))))
    (vRet (vOp oMod (vOp oFdiv (vOp oMod (vCB oInt (vCons (vOp oAdd (vOp oMul (vVar 4) (vC (.int 40692))) (vVar 3)) vNil)) (vC (.int 2147483629))) (vC (.int 11))) (vVar 1))))) vNext)
    (vSetIx (vVar 0) (vC (.int 2)) (vVar 2)))))) vNext)
    (vSeq (vSet 5 (vOp oMod (vCB oInt (vCons (vOp oIx (vVar 0) (vC (.int 2))) vNil)) (vVar 1)))
    (vSeq (vSetIx (vVar 0) (vC (.int 2)) (vOp oFdiv (vCB oInt (vCons (vOp oIx (vVar 0) (vC (.int 2))) vNil)) (vVar 1)))
    (vRet (vVar 5)))))


theorem l__law_feed : ∀ ds m k, phFeedL ds m k → ds.length = 1 := by rintro _ m k ⟨a, ns, rfl, _⟩; rfl
theorem lc_ints {j : Nat} {s : SL} (hj : j < s.length) : ∀ (ns acc : List Int) (m : Mem) (k : List D → Mem → Prop), k ((acc ++ ns).map D.int) m → lcV (gN j) vYes (vCB oInt (vCons (vVar j) vNil)) s (ns.map D.int) (acc.map D.int) m k
  | [], acc, m, k, h => by rw [List.append_nil] at h; exact h
  | n :: ns, acc, m, k, h => by
    have := lc_ints hj ns (acc ++ [n]) m k (by simpa using h)
    rw [List.map_append] at this
    simp only [List.map_cons, lcV, gN, vYes, vCB, vCons, vVar, vNil, List.getElem?_set_self hj, vGet, oInt, if_true]
    exact this
theorem w__law_feed : ∀ ds m k, phFeedL ds m k → v__law_feed (dstart 4 ds) m (endV k) := by
  rintro _ m k ⟨a, ns, rfl, hl, hk⟩
  unfold v__law_feed v__law_feed_b1
  have cut : ∃ ms : List Int, ms.length ≤ 100 ∧ cutD (ns.map D.int) none (some 63) = ms.map D.int := ⟨cutD ns none (some 63), by unfold cutD; rw [List.length_take, List.length_drop]; omega, by
    unfold cutD
    rw [List.length_map, List.map_take, List.map_drop]⟩
  obtain ⟨ms, hm, hc⟩ := cut
  walk_at "vc"
  rw [hc]
  refine ⟨by rw [List.length_map]; omega, ?_⟩
  refine lc_ints (by simp) ms [] m _ ?_
  walk_at "vc"
  refine ⟨cmul_l (by decide) (by decide), ?_⟩
  refine forV_map (fun _ s m' => m' = m ∧ ∃ (x : Option D) (mk : Int), s = [some (.lat a (ns.map D.int)), some (.lst (ms.map D.int)), some (.int mk), x]) ?_ ?_ ⟨rfl, _, _, rfl⟩
  · rintro s _ ⟨rfl, x, mk, rfl⟩
    walk_at "vc"
    exact fun p hp => ⟨_, MLe.refl _, hk ms mk p hp⟩
  · rintro n _ s _ ⟨rfl, x, mk, rfl⟩ ih
    walk_at "vc"
    exact ⟨cmul_r (by decide) (by decide), ih _ _ ⟨rfl, _, _, rfl⟩⟩
theorem l__law_draw : ∀ ds m k, phDrawM preDraw ds m k → ds.length = 2 := by rintro _ m k ⟨a, cs, n, i, j, mk, ns, rfl, _⟩; rfl
theorem w__law_draw : ∀ ds m k, phDrawM preDraw ds m k → v__law_draw (dstart 6 ds) m (endV k) := by
  rintro _ m k ⟨a, cs, n, i, j, mk, ns, rfl, hm, hi, ⟨hn0, hn1⟩, hk⟩
  unfold v__law_draw
  walk_at "vc*"
  have fin : ∀ c i' j' : Int, 0 ≤ i' → ∃ m'', MLe m'' (mset m a (MO.lst [D.lat cs (List.map D.int ns), D.int i', D.int j', D.int mk])) ∧ k (D.int (c.fmod n)) m'' := fun c i' j' h => ⟨_, MLe.refl _, hk _ _ _ (fmod_nn hn0).1 (fmod_nn hn0).2 h⟩
  have n0 : n ≠ 0 := by omega
  have dn : DivOk n := div_ok n0 hn1
  have d11 : DivOk 11 := div_sm (by decide) (by decide)
  have cp : CPow 10 18 := ⟨by decide, by decide, by decide⟩
  refine itP (fun _ => ⟨cmul_r (by decide) (by decide), itP (fun hl => ?_) fun _ => ?_⟩) fun _ => ⟨n0, dn, fin _ _ _ hi⟩
  · rw [List.length_map] at hl
    obtain ⟨t, rfl⟩ : ∃ t : Nat, i = t := ⟨i.toNat, by omega⟩
    have ht : t < ns.length := by omega
    have e : atI (ns.map D.int) ((t : Int) + 1 - 1) = some (.int ns[t]) := atI_of (j := t) (by omega) (by rw [List.getElem?_map, List.getElem?_eq_getElem ht]; rfl)
    rw [e]
    walk_at "vc*"
    walk_at "sides"
    all_goals exact fin _ _ _ (by omega)
  · walk_at "sides"
    all_goals exact fin _ _ _ (by omega)

def ph__law_any : P0 := fun ds m k => match ds with
  | [.feed, .lst row] => row ≠ [] ∧ row.length ≤ 100000 ∧ ∀ d ∈ row, k d m
  | [.feed, .tup row] => row ≠ [] ∧ row.length ≤ 100000 ∧ ∀ d ∈ row, k d m
  | [.feed, .str z] => z.length ≠ 0 ∧ z.length ≤ 100000 ∧ ∀ c ∈ z.cps.toList, k (.str ⟨#[c]⟩) m
  | _ => False
/-- plain data, so deep -/
def Pl : Nat → D → Prop
  | _, .non => True
  | _, .bl _ => True
  | _, .int _ => True
  | _, .str _ => True
  | n + 1, .lst ds => ds.length ≤ 100000 ∧ ∀ d ∈ ds, Pl n d
  | n + 1, .tup ds => ds.length ≤ 100000 ∧ ∀ d ∈ ds, Pl n d
  | _, _ => False
def ph__law_same (n : Nat) : P0 := fun ds m k => ∃ x, ds = [x, x] ∧ Pl n x ∧ k (.bl true) m
/- def _law_any, slots 0 _law_feed_here 1 _law_row -/
@[reducible] def v__law_any : VS :=
  (vRet (vOp oIx (vVar 1) (vCall ph__law_draw (vCons (vVar 0) (vCons (vCB oLen (vCons (vVar 1) vNil)) vNil)))))
/- def _law_same, slots 0 _law_found 1 _law_due 2 _law_key 3 _law_one 4 _law_two -/
@[reducible] def v__law_same (φ : P0) : VS :=
  (vSeq (vIfS (tV (vOp oIs (vVar 1) (vC .non))) (vRet (vOp oIs (vVar 0) (vC .non))) vNext)
    (vSeq (vIfS (vOr (tV (vIsi .bl (vVar 1))) (tV (vIsi .bl (vVar 0)))) (vRet (vAndV (vIsi .bl (vVar 1)) (vAndV (vIsi .bl (vVar 0)) (vOp oEq (vVar 0) (vVar 1))))) vNext)
    (vSeq (vIfS (tV (vIsi2 .int .str (vVar 1))) (vRet (vAndV (vIsi2 .int .str (vVar 0)) (vAndV (vOp oEq (vIsi .int (vVar 0)) (vIsi .int (vVar 1))) (vOp oEq (vVar 0) (vVar 1))))) vNext)
    (vSeq (vIfS (tV (vIsi .dic (vVar 1))) vNever vNext)
    (vSeq (vIfS (vOr (tV (vOp oNe (vIsi .lst (vVar 1)) (vIsi .lst (vVar 0)))) (tV (vOp oNe (vIsi .tup (vVar 1)) (vIsi .tup (vVar 0))))) (vRet (vC (.bl false))) vNext)
    (vRet (vAndV (vOp oEq (vCB oLen (vCons (vVar 0) vNil)) (vCB oLen (vCons (vVar 1) vNil))) (vCB oAll (vCons (vLc (vZip (vCons (vVar 0) (vCons (vVar 1) vNil))) (gTp 2 (gCn (gN 3) (gCn (gN 4) gNl))) vYes (vCall φ (vCons (vVar 3) (vCons (vVar 4) vNil))) [3, 4]) vNil)))))))))
/- lent by k06 -/
/- def _law_gcd, slots 0 _law_one 1 _law_two -/
/- lent by k06 -/
/- def _law_low, slots 0 _law_upper 1 _law_lower 2 _law_part_here -/
theorem l__law_any : ∀ ds m k, ph__law_any ds m k → ds.length = 2 := by
  intro ds m k h
  unfold ph__law_any at h
  split at h
  · rfl
  · rfl
  · rfl
  · exact h.elim
theorem natAbs_small {n : Nat} (h : n ≤ 100000) : ((n : Nat) : Int).natAbs < 2 ^ 9000 := by
  rw [Int.natAbs_natCast]
  exact Nat.lt_of_lt_of_le (Nat.lt_of_le_of_lt h (by decide : 100000 < 2 ^ 20)) (Nat.pow_le_pow_right (by decide) (by decide))
theorem at_draw {α : Type} {xs : List α} {r : Int} (h0 : 0 ≤ r) (h1 : r < xs.length) : ∃ x, atI xs r = some x ∧ x ∈ xs := by
  have ht : r.toNat < xs.length := by omega
  exact ⟨xs[r.toNat], atI_of (j := r.toNat) (by omega) (List.getElem?_eq_getElem ht), List.getElem_mem ht⟩
theorem w__law_any : ∀ ds m k, ph__law_any ds m k → v__law_any (dstart 2 ds) m (endP k) := by
  intro ds m k h
  unfold ph__law_any at h
  split at h
  case h_4 => exact h.elim
  all_goals
    rename_i row
    obtain ⟨h1, h2, hk⟩ := h
    unfold v__law_any
    simp only [ph__law_draw]
    walk_at "vc"
  · refine ⟨⟨by have := List.length_pos_iff.mpr h1; omega, natAbs_small h2⟩, fun r h0 h1 => ?_⟩
    obtain ⟨x, e, hx⟩ := at_draw h0 h1
    walk_at "vc*"
  · refine ⟨⟨by have := List.length_pos_iff.mpr h1; omega, natAbs_small h2⟩, fun r h0 h1 => ?_⟩
    obtain ⟨x, e, hx⟩ := at_draw h0 h1
    walk_at "vc*"
  · refine ⟨by omega, ⟨by omega, natAbs_small h2⟩, fun r h0 h1 => ⟨by omega, ?_⟩⟩
    obtain ⟨x, e, hx⟩ := at_draw (xs := row.cps.toList) h0 (by rw [Array.length_toList]; exact h1)
    rw [e]
    exact hk x hx
theorem l__law_same (n : Nat) : ∀ ds m k, ph__law_same n ds m k → ds.length = 2 := by rintro _ m k ⟨x, rfl, _⟩; rfl
theorem zipD_self (xs : List D) : zipD xs xs = xs.map fun d => .pr [d, d] := by
  unfold zipD
  induction xs with
  | nil => rfl
  | cons x xs ih => simp [List.zipWith_cons_cons, ih]
theorem trues (n : Nat) : blsOf (List.replicate n (D.bl true)) = some (List.replicate n true) := by
  rw [← List.map_replicate]; exact blsOf_map _
/-- the comparison of two rows -/
theorem same_row {φ : P0} {s : SL} (h3 : 3 < s.length) (h4 : 4 < s.length) {m : Mem} {k : List D → Mem → Prop} (xs : List D) (hx : ∀ x ∈ xs, ∀ k' : KD, k' (.bl true) m → φ [x, x] m k') (hk : k (List.replicate xs.length (.bl true)) m) :
    lcV (gTp 2 (gCn (gN 3) (gCn (gN 4) gNl))) vYes (vCall φ (vCons (vVar 3) (vCons (vVar 4) vNil))) s (zipD xs xs) [] m k := by
  rw [zipD_self]
  refine lcV_map (fun as acc m' => m' = m ∧ (∀ a ∈ as, a ∈ xs) ∧ acc = List.replicate (xs.length - as.length) (.bl true) ∧ as.length ≤ xs.length) ?_ ?_ ⟨rfl, fun _ z => z, by simp, Nat.le_refl _⟩
  · rintro acc _ ⟨rfl, _, rfl, _⟩
    simpa using hk
  · rintro a as acc _ ⟨rfl, ha, rfl, hl⟩ ih
    walk_at "vc"
    have e3 : ((s.set 3 (some a)).set 4 (some a))[3]? = some (some a) := by rw [List.getElem?_set_ne (by decide), List.getElem?_set_self h3]
    have e4 : ((s.set 3 (some a)).set 4 (some a))[4]? = some (some a) := by rw [List.getElem?_set_self (by rw [List.length_set]; exact h4)]
    simp only [e3, e4]
    walk_at "vc"
    refine hx a (ha a List.mem_cons_self) _ ?_
    refine ih _ _ ⟨rfl, fun z hz => ha z (List.mem_cons_of_mem _ hz), ?_, by simp at hl; omega⟩
    rw [← List.replicate_succ']
    simp at hl ⊢
    omega
theorem w__law_same (n : Nat) : ∀ ds m k, ph__law_same (n + 1) ds m k → v__law_same (ph__law_same n) (dstart 5 ds) m (endP k) := by
  rintro _ m k ⟨x, rfl, hp, hk⟩
  unfold v__law_same
  cases x with
  | non => walk_at "vc*"
  | bl b => walk_at "vc*"
  | int b => walk_at "vc*"
  | str b => walk_at "vc*"
  | lst xs =>
    obtain ⟨h1, h2⟩ := hp
    walk_at "vc*"
    refine ⟨by rw [zipD_self, List.length_map]; omega, same_row (by simp) (by simp) xs (fun x hx k' h => ⟨x, rfl, h2 x hx, h⟩) ?_⟩
    rw [trues]
    have e : (List.replicate xs.length true).all id = true := by simp
    walk_at "vc*"
  | tup xs =>
    obtain ⟨h1, h2⟩ := hp
    walk_at "vc*"
    refine ⟨by rw [zipD_self, List.length_map]; omega, same_row (by simp) (by simp) xs (fun x hx k' h => ⟨x, rfl, h2 x hx, h⟩) ?_⟩
    rw [trues]
    have e : (List.replicate xs.length true).all id = true := by simp
    walk_at "vc*"
  | _ => exact hp.elim
theorem w__law_same_0 : ∀ ds m k, ph__law_same 0 ds m k → v__law_same (fun _ _ _ => False) (dstart 5 ds) m (endP k) := by
  rintro _ m k ⟨x, rfl, hp, hk⟩
  unfold v__law_same
  cases x with
  | non => walk_at "vc*"
  | bl b => walk_at "vc*"
  | int b => walk_at "vc*"
  | str b => walk_at "vc*"
  | _ => exact hp.elim
theorem pre_s {n : Int} (h0 : 0 < n) (h1 : n < 2 ^ 62) : preDraw n := ⟨h0, Nat.lt_of_lt_of_le (m := 2 ^ 62) (by omega) (Nat.pow_le_pow_right (by decide) (by decide))⟩
/-! ### the program's divisor -/
/- def divisor, slots 0 one 1 other -/
/-! ### a fraction's text read -/
def dig (c : Nat) : Bool := decide (48 ≤ c) && decide (c ≤ 57)
def nums : List Nat := [48, 49, 50, 51, 52, 53, 54, 55, 56, 57]
theorem nums_S : ("0123456789" : Str) = S nums := by decide +kernel
theorem nums_mem (c : Nat) : decide (c ∈ nums) = dig c := by
  unfold dig
  rw [← Bool.decide_and, decide_eq_decide]
  simp only [nums, List.mem_cons, List.not_mem_nil, or_false]
  omega
/-- a word that is no number -/
def badW (l : List Nat) : Bool := decide (l = []) || (!l.all dig || (decide (1 < l.length) && decide (l.take 1 = [48])))
def wholeL (l : List Nat) : Option Nat := if badW l = true then none else some (NumText.digitsVal l)
def optN : Option Nat → D
  | none => .non
  | some n => .int (n : Int)
theorem nil_S : ("" : Str) = S [] := by decide +kernel
theorem zero_S : ("0" : Str) = S [48] := by decide +kernel
theorem signs_S (l : List Nat) : signs (S l) = l.map fun c => .str (S [c]) := rfl
/-- all([c in '0123456789' for c in text]) -/
theorem all_dig {s : SL} {j : Nat} (hj : j < s.length) {m : Mem} {K : List Bool → Mem → Prop} (l : List Nat) (h : K (l.map dig) m) :
    lcV (gN j) vYes (vOp oInS (vVar j) (vC (.str (S nums)))) s (l.map fun c => .str (S [c])) [] m (fun es m2 => onO (blsOf es) fun bs => K bs m2) := by
  refine lc_map (h := fun c => .bl (dig c)) l [] (fun c hc k' _ hk => ?_) ?_
  · walk_at "vc"
    rw [List.getElem?_set_self hj]
    walk_at "vc"
    rw [inS_one, nums_mem]
    exact hk
  · rw [List.nil_append, show l.map (fun c => D.bl (dig c)) = (l.map dig).map D.bl by rw [List.map_map]; rfl, blsOf_map]
    exact h
theorem S_ne {a b : List Nat} : (S a = S b) = (a = b) := propext ⟨S_inj, fun h => by rw [h]⟩
theorem int_dig {l : List Nat} (h : badW l = false) (hl : l.length ≤ 640) : PySem.intText? (S l) = some ((NumText.digitsVal l : Nat) : Int) := by
  unfold badW at h
  simp only [Bool.or_eq_false_iff, Bool.not_eq_false', decide_eq_false_iff_not] at h
  exact SX.int_S h.2.1 h.1 (by omega)
def ph_whole_in : P0 := fun ds m k => ∃ l, ds = [.str (S l)] ∧ l.length ≤ 640 ∧ k (optN (wholeL l)) m
theorem l_whole_in : ∀ ds m k, ph_whole_in ds m k → ds.length = 1 := by rintro _ m k ⟨_, rfl, _⟩; rfl
/- def whole_in, slots 0 text 1 sign -/
@[reducible] def v_whole_in : VS :=
  (vSeq (vIfS (vOr (tV (vOp oEq (vVar 0) (vC (.str "")))) (vNot (tV (vCB oAll (vCons (vLc (vWalk (vVar 0)) (gN 1) vYes (vOp oInS (vVar 1) (vC (.str "0123456789"))) [1]) vNil))))) (vRet (vC .non)) vNext)
    (vRet (vIf (vAnd (tV (vOp oGt (vCB oLen (vCons (vVar 0) vNil)) (vC (.int 1)))) (tV (vOp oEq (vOp oIx (vVar 0) (vC (.int 0))) (vC (.str "0"))))) (vC .non) (vCB oInt (vCons (vVar 0) vNil)))))


theorem all_id (l : List Nat) : ((l.map dig).all id) = l.all dig := by rw [List.all_map]; rfl
/-- what is wanted of a word: bad, or not -/
theorem word {l : List Nat} (hl : l.length ≤ 640) {P Q : Prop} (hb : badW l = true → P) (hg : badW l = false → Q) : if l = [] then P else if (l.all dig) = false then P else l.length ≤ 1000000 ∧ if (1 : Int) < l.length then l.length ≤ 1000000 ∧ onO (atI l 0) fun c => if [c] = [48] then P else Q else Q := by
  unfold badW at hb hg
  refine itP (fun e => hb (by simp [e])) fun e => itP (fun e2 => hb (by simp [e2])) fun e2 => ⟨by omega, itP (fun e3 => ⟨by omega, ?_⟩) fun e3 => hg ?_⟩
  · cases l with
    | nil => exact absurd rfl e
    | cons c r =>
      rw [show atI (c :: r) 0 = some c from atI_0, onO_1]
      have e3 : 1 < (c :: r).length := by omega
      refine itP (fun e4 => hb ?_) fun e4 => hg ?_
      · rw [decide_eq_true e3, decide_eq_true (show (c :: r).take 1 = [48] from e4)]; simp
      · rw [decide_eq_false (show ¬ (c :: r).take 1 = [48] from e4), decide_eq_false e]; simpa using e2
  · rw [decide_eq_false (show ¬ 1 < l.length by omega), decide_eq_false e]; simpa using e2
theorem w_whole_in : ∀ ds m k, ph_whole_in ds m k → v_whole_in (dstart 2 ds) m (endP k) := by
  rintro _ m k ⟨l, rfl, hl, hk⟩
  unfold v_whole_in
  rw [nums_S, nil_S, zero_S]
  walk_at "vc"
  simp only [S_ne, signs_S]
  have key := word hl (P := k .non m) (Q := l.length ≤ 640 ∧ ∃ n, intText? (S l) = some n ∧ k (.int n) m) (fun h => by unfold wholeL at hk; rw [if_pos h] at hk; exact hk) (fun h => ⟨hl, _, int_dig h hl, by unfold wholeL at hk; rw [if_neg (by rw [h]; decide)] at hk; exact hk⟩)
  refine itP (fun e => by rw [if_pos e] at key; exact key) fun e => ⟨by rw [List.length_map]; omega, all_dig (by simp) l ?_⟩
  rw [if_neg e] at key
  rw [all_id]
  exact key
/- def unsigned_in, slots 0 text 1 first 2 stroke 3 second 4 top 5 under -/
/-! ### names and ties, judged -/
/-- plain data, its texts short -/
def okT : Nat → D → Prop
  | _, .non => True
  | _, .bl _ => True
  | _, .int _ => True
  | _, .str z => z.length ≤ 1000
  | n + 1, .lst ds => ds.length ≤ 1000 ∧ ∀ d ∈ ds, okT n d
  | n + 1, .tup ds => ds.length ≤ 1000 ∧ ∀ d ∈ ds, okT n d
  | _, _ => False
def Pn (d : D) : Prop := ∃ n, okT n d
theorem Pn.tup {ds : List D} (h : Pn (.tup ds)) : ds.length ≤ 1000 ∧ ∀ d ∈ ds, Pn d := by
  obtain ⟨n, h⟩ := h
  cases n with
  | zero => exact h.elim
  | succ n => exact ⟨h.1, fun d hd => ⟨n, h.2 d hd⟩⟩
theorem Pn.str {z : Str} (h : Pn (.str z)) : z.length ≤ 1000 := by
  obtain ⟨n, h⟩ := h
  cases n <;> exact h
/- lent by k05 -/
/- def is_whole, slots 0 thing -/
/- lent by k05 -/
/- def is_ratio, slots 0 thing -/
/-! ### rates, parts, words -/
def rates : List (Int × Int) := [(1, 1), (-1, 1), (1, 1), (2, 1), (-2, 1), (3, 1), (1, 2), (-3, 2), (-1, 1), (5, 3)]
/- lent by k06 -/
/- def _law_rate, slots 0 _law_feed_here -/
/- lent by k06 -/
/- def _law_words, slots 0 _law_feed_here 1 _law_many 2 _law_letters 3 _law_stem 4 _law_spot 5 _law_first 6 _law_way 7 _law_found 8 _law_k -/
abbrev abc : List Nat := (List.range 26).map (· + 97)
theorem abc_S : ("abcdefghijklmnopqrstuvwxyz" : Str) = S abc := by decide +kernel
theorem emp_S : ("" : Str) = S [] := by decide +kernel
/-! ### names judged -/
def nmR (l : List Nat) : Bool := decide (1 ≤ l.length) && decide (l.length ≤ 6) && l.all fun c => decide (97 ≤ c) && decide (c ≤ 122)
/-- small letters, one to six, perhaps an apostrophe behind -/
def nmL (l : List Nat) : Bool := nmR (if l.drop (l.length - 1) = [39] then l.dropLast else l)
def isNm : D → Bool
  | .str z => nmL z.cps.toList
  | _ => false
theorem abc_mem (c : Nat) : decide (c ∈ abc) = (decide (97 ≤ c) && decide (c ≤ 122)) := by
  rw [← Bool.decide_and, decide_eq_decide]
  unfold abc
  rw [List.mem_map]
  constructor
  · rintro ⟨i, hi, rfl⟩
    have := List.mem_range.mp hi
    omega
  · rintro ⟨h1, h2⟩
    exact ⟨c - 97, List.mem_range.mpr (by omega), by omega⟩
theorem sIx_m1 (n d : Nat) : HT.sIx n d (some (-1)) = n - 1 := by
  show (if (-1 : Int) < 0 then (-1 + (n : Int)).toNat else min (-1 : Int).toNat n) = n - 1
  rw [if_pos (by decide)]
  omega
theorem cut_but {α : Type} (l : List α) : cutD l none (some (-1)) = l.dropLast := by
  unfold cutD
  rw [sIx_m1, HT.sIx_none, List.drop_zero, List.dropLast_eq_take, Nat.sub_zero]
theorem cut_last {α : Type} (l : List α) : cutD l (some (-1)) none = l.drop (l.length - 1) := by
  unfold cutD
  rw [sIx_m1, HT.sIx_none]
  exact List.take_of_length_le (by rw [List.length_drop]; exact Nat.le_refl _)
/-- the signs ahead of an apostrophe -/
def stem39 (l : List Nat) : List Nat := if l.drop (l.length - 1) = [39] then l.dropLast else l
theorem apo_S : ("'" : Str) = S [39] := by decide +kernel
theorem sgn_S (l : List Nat) : signs (S l) = l.map fun c => .str (S [c]) := rfl
/-- all([c in abc for c in text]) -/
theorem all_in {s : SL} {j : Nat} (hj : j < s.length) {m : Mem} {k : List D → Mem → Prop} (l : List Nat) (h : k ((l.map fun c => decide (97 ≤ c) && decide (c ≤ 122)).map D.bl) m) :
    lcV (gN j) vYes (vOp oInS (vVar j) (vC (.str (S abc)))) s (l.map fun c => .str (S [c])) [] m k := by
  refine lc_map (h := fun c => .bl (decide (97 ≤ c) && decide (c ≤ 122))) l [] (fun c hc k' _ hk => ?_) (by rw [List.map_map] at h; exact h)
  walk_at "vc"
  rw [List.getElem?_set_self hj]
  walk_at "vc"
  rw [inS_one, abc_mem]
  exact hk
/-- the judgement of the stem: 1 <= len(x) <= 6 and all([..]) -/
theorem nmR_in {s : SL} {j : Nat} (hj : j < s.length) {m : Mem} {k : KD} (l : List Nat) (hl : l.length ≤ 1000) (h : k (.bl (nmR l)) m) :
    l.length ≤ 1000000 ∧ (if (1 : Int) ≤ l.length then if (l.length : Int) ≤ 6 then (l.map fun c => D.str (S [c])).length ≤ 1000000 ∧ lcV (gN j) vYes (vOp oInS (vVar j) (vC (.str (S abc)))) s (l.map fun c => .str (S [c])) [] m (fun es m2 => onO (blsOf es) fun bs => k (.bl (bs.all id)) m2) else k (.bl false) m else k (.bl false) m) := by
  refine ⟨by omega, ?_⟩
  unfold nmR at h
  refine itP (fun h1 => itP (fun h2 => ⟨by rw [List.length_map]; omega, all_in hj l ?_⟩) fun h2 => ?_) fun h1 => ?_
  · rw [decide_eq_true (show 1 ≤ l.length by omega), decide_eq_true (show l.length ≤ 6 by omega), Bool.true_and, Bool.true_and] at h
    rw [blsOf_map]
    show k (.bl ((l.map _).all id)) m
    rw [List.all_map]
    exact h
  · rw [decide_eq_false (show ¬ l.length ≤ 6 by omega), Bool.and_false, Bool.false_and] at h
    exact h
  · rw [decide_eq_false (show ¬ 1 ≤ l.length by omega), Bool.false_and] at h
    exact h
def ph_is_name : P0 := fun ds m k => ∃ d, ds = [d] ∧ Pn d ∧ k (.bl (isNm d)) m
theorem l_is_name : ∀ ds m k, ph_is_name ds m k → ds.length = 1 := by rintro _ m k ⟨_, rfl, _⟩; rfl
/- def is_name, slots 0 text 1 letters 2 sign -/
@[reducible] def v_is_name : VS :=
  (vSeq (vIfS (vNot (tV (vIsi .str (vVar 0)))) (vRet (vC (.bl false))) vNext)
    (vSeq (vSet 1 (vIf (tV (vOp oEq (vSl (vVar 0) (vP (vUn oNeg (vC (.int 1)))) vNoP) (vC (.str "'")))) (vSl (vVar 0) vNoP (vP (vUn oNeg (vC (.int 1))))) (vVar 0)))
    (vRet (vAndV (vChain oLe oLe (vC (.int 1)) (vCB oLen (vCons (vVar 1) vNil)) (vC (.int 6))) (vCB oAll (vCons (vLc (vWalk (vVar 1)) (gN 2) vYes (vOp oInS (vVar 2) (vC (.str "abcdefghijklmnopqrstuvwxyz"))) [2]) vNil))))))


theorem w_is_name : ∀ ds m k, ph_is_name ds m k → v_is_name (dstart 3 ds) m (endP k) := by
  rintro _ m k ⟨d, rfl, h', hk⟩
  have h := h'
  obtain ⟨n, h⟩ := h
  unfold v_is_name
  rw [abc_S, apo_S]
  cases d with
  | non => walk_at "vc"; exact hk
  | bl b => walk_at "vc"; exact hk
  | int i => walk_at "vc"; exact hk
  | lst ds => walk_at "vc"; exact hk
  | tup ds => walk_at "vc"; exact hk
  | str z =>
    obtain ⟨l, rfl⟩ := S_of z
    have hl : l.length ≤ 1000 := by rw [← S_len]; exact h'.str
    walk_at "vc"
    have hk : k (.bl (nmR (stem39 l))) m := hk
    rw [cut_last, cut_but, sgn_S, sgn_S]
    refine ⟨by omega, itP (fun e => ⟨by omega, nmR_in (by simp) _ (by rw [List.length_dropLast]; omega) ?_⟩) fun e => nmR_in (by simp) _ hl ?_⟩
    · unfold stem39 at hk
      rw [if_pos (S_inj e)] at hk
      exact hk
    · unfold stem39 at hk
      rw [if_neg (fun z => e (by rw [z]))] at hk
      exact hk
  | _ => cases n <;> exact h.elim

/-! ### why: an exception told by its tag and its field -/
def xfields : List Str := ["tag", "given", "at", "name", "label", "many", "most", "first"]
def fldK (t : Str) (fs : List (Str × D)) (k : D → Prop) : Prop :=
  if inV (.str t) [.str "InvalidRatio", .str "InvalidTimes", .str "InvalidLimit"] = true then ∃ d, fs.lookup ("given" : Str) = some d ∧ k d
  else if inV (.str t) [.str "InvalidRow", .str "InvalidTie", .str "InvalidWish", .str "ParseError"] = true then ∃ d, fs.lookup ("at" : Str) = some d ∧ k d
  else if inV (.str t) [.str "InvalidName", .str "SameName", .str "UnknownName"] = true then ∃ d, fs.lookup ("name" : Str) = some d ∧ k d
  else if inV (.str t) [.str "DuplicateLabel", .str "UnknownLabel"] = true then ∃ d, fs.lookup ("label" : Str) = some d ∧ k d
  else if t = "NotTied" then ∃ d, fs.lookup ("many" : Str) = some d ∧ k d
  else if t = "CapacityExceeded" then ∃ d, fs.lookup ("most" : Str) = some d ∧ k d
  else if t = "InvalidCommand" then ∃ d, fs.lookup ("first" : Str) = some d ∧ k d
  else k .non
def ph__law_field (a dd : Addr) : P0 := fun ds m k => ∃ (fs : List (Str × D)) (t : Str), ds = [.exn a dd fs] ∧ fs.lookup ("tag" : Str) = some (.str t) ∧ fldK t fs fun d => k d m
theorem l__law_field : ∀ a dd ds m k, ph__law_field a dd ds m k → ds.length = 1 := by rintro a dd _ m k ⟨_, _, rfl, _⟩; rfl
/- def _law_field, slots 0 _law_e -/
@[reducible] def v__law_field (a dd : Addr) : VS :=
  (vSeq (vIfS (tV (vOp oInL (vXf a dd "tag" (vVar 0)) (vTup (vCons (vC (.str "InvalidRatio")) (vCons (vC (.str "InvalidTimes")) (vCons (vC (.str "InvalidLimit")) vNil)))))) (vRet (vXf a dd "given" (vVar 0))) vNext)
    (vSeq (vIfS (tV (vOp oInL (vXf a dd "tag" (vVar 0)) (vTup (vCons (vC (.str "InvalidRow")) (vCons (vC (.str "InvalidTie")) (vCons (vC (.str "InvalidWish")) (vCons (vC (.str "ParseError")) vNil))))))) (vRet (vXf a dd "at" (vVar 0))) vNext)
    (vSeq (vIfS (tV (vOp oInL (vXf a dd "tag" (vVar 0)) (vTup (vCons (vC (.str "InvalidName")) (vCons (vC (.str "SameName")) (vCons (vC (.str "UnknownName")) vNil)))))) (vRet (vXf a dd "name" (vVar 0))) vNext)
    (vSeq (vIfS (tV (vOp oInL (vXf a dd "tag" (vVar 0)) (vTup (vCons (vC (.str "DuplicateLabel")) (vCons (vC (.str "UnknownLabel")) vNil))))) (vRet (vXf a dd "label" (vVar 0))) vNext)
    (vSeq (vIfS (tV (vOp oEq (vXf a dd "tag" (vVar 0)) (vC (.str "NotTied")))) (vRet (vXf a dd "many" (vVar 0))) vNext)
    (vSeq (vIfS (tV (vOp oEq (vXf a dd "tag" (vVar 0)) (vC (.str "CapacityExceeded")))) (vRet (vXf a dd "most" (vVar 0))) vNext)
    (vRet (vIf (tV (vOp oEq (vXf a dd "tag" (vVar 0)) (vC (.str "InvalidCommand")))) (vXf a dd "first" (vVar 0)) (vC .non)))))))))
def mt_0 : List (Str × Bool) := [("NotTied", true), ("ParseError", true), ("NothingLeft", false)]
def mt_1 : List (Str × Bool) := [("NotTied", false), ("ParseError", false), ("NothingLeft", true)]
/- def _law_why, slots 0 _law_ask 1 _law_told 2 _law_e -/
@[reducible] def v__law_why (ask : VE) : VS :=
  (vSeq (vSet 1 (vTup (vCons (vC (.str "")) (vCons (vC .non) vNil))))
    (vSeq (vTry 2 (vSet 1 (vTup (vCons (vC (.str "")) (vCons ask vNil)))) [(mt_0, fun a dd => (vSet 1 (vTup (vCons (vXf a dd "tag" (vVar 2)) (vCons (vCall (ph__law_field a dd) (vCons (vVar 2) vNil)) vNil))))), (mt_1, fun a dd => (vSet 1 (vTup (vCons (vXf a dd "tag" (vVar 2)) (vCons (vC .non) vNil)))))])
    (vRet (vVar 1))))


theorem w__law_field : ∀ a dd ds m k, ph__law_field a dd ds m k → v__law_field a dd (dstart 1 ds) m (endP k) := by
  rintro a dd _ m k ⟨fs, t, rfl, ht, hk⟩
  unfold fldK at hk
  unfold v__law_field
  walk_at "vc"
  refine ⟨fs, rfl, _, ht, ?_⟩
  walk_at "vc"
  refine itP (fun e => ?_) (fun e => ?_)
  · rw [if_pos e] at hk; obtain ⟨d, h1, h2⟩ := hk; exact ⟨fs, rfl, d, h1, h2⟩
  rw [if_neg e] at hk
  refine ⟨fs, rfl, _, ht, ?_⟩
  walk_at "vc"
  refine itP (fun e => ?_) (fun e => ?_)
  · rw [if_pos e] at hk; obtain ⟨d, h1, h2⟩ := hk; exact ⟨fs, rfl, d, h1, h2⟩
  rw [if_neg e] at hk
  refine ⟨fs, rfl, _, ht, ?_⟩
  walk_at "vc"
  refine itP (fun e => ?_) (fun e => ?_)
  · rw [if_pos e] at hk; obtain ⟨d, h1, h2⟩ := hk; exact ⟨fs, rfl, d, h1, h2⟩
  rw [if_neg e] at hk
  refine ⟨fs, rfl, _, ht, ?_⟩
  walk_at "vc"
  refine itP (fun e => ?_) (fun e => ?_)
  · rw [if_pos e] at hk; obtain ⟨d, h1, h2⟩ := hk; exact ⟨fs, rfl, d, h1, h2⟩
  rw [if_neg e] at hk
  refine ⟨fs, rfl, _, ht, ?_⟩
  walk_at "vc"
  refine itP (fun e => ?_) (fun e => ?_)
  · rw [if_pos e] at hk; obtain ⟨d, h1, h2⟩ := hk; exact ⟨fs, rfl, d, h1, h2⟩
  rw [if_neg e] at hk
  refine ⟨fs, rfl, _, ht, ?_⟩
  walk_at "vc"
  refine itP (fun e => ?_) (fun e => ?_)
  · rw [if_pos e] at hk; obtain ⟨d, h1, h2⟩ := hk; exact ⟨fs, rfl, d, h1, h2⟩
  rw [if_neg e] at hk
  refine ⟨fs, rfl, _, ht, ?_⟩
  walk_at "vc"
  refine itP (fun e => ?_) (fun e => ?_)
  · rw [if_pos e] at hk; obtain ⟨d, h1, h2⟩ := hk; exact ⟨fs, rfl, d, h1, h2⟩
  rw [if_neg e] at hk
  exact hk
/-! ### plain data without booleans, compared: equal as data -/
mutual
/-- how deep -/
def dpD : D → Nat
  | .lst ds => dpDs ds + 1
  | .tup ds => dpDs ds + 1
  | _ => 0
def dpDs : List D → Nat
  | [] => 0
  | d :: ds => max (dpD d) (dpDs ds)
end
/-! ### why: any exception of one field, told; no exception -/
/-- an exception of the class C whose field f is d -/
abbrev exX (C f : Str) (d : D) : XD := ⟨C, [("tag", .str C), (f, d)]⟩
theorem tag_x {C f : Str} {d : D} : List.lookup ("tag" : Str) [(("tag" : Str), D.str C), (f, d)] = some (.str C) := by simp [List.lookup]
theorem fld_x {C f : Str} {d : D} (hf : (f == ("tag" : Str)) = false) : List.lookup f [(("tag" : Str), D.str C), (f, d)] = some d := by simp [List.lookup, hf]
theorem why_x {C f : Str} {d : D} {ask : VE} {c : Option D} {m : Mem} {k : KD} (Q : Mem → Prop) (hc : List.lookup C mt_0 = some true) (hf : ∀ k : D → Prop, k d → fldK C [("tag", .str C), (f, d)] k) (h : ∀ (kk : KD) (x : KX), (∀ m', Q m' → x (exX C f d) m') → ask [c, some (.tup [.str "", .non]), none] m kk x) (hk : ∀ m', Q m' → k (.tup [.str C, d]) m') : v__law_why ask [c, none, none] m (endP k) := by
  unfold v__law_why
  walk_at "vc"
  refine h _ _ fun m' hm => ?_
  show onB (List.lookup C mt_0) _ _
  rw [hc, onB_1]
  intro a dd
  refine ⟨_, rfl, _, tag_x, ⟨_, _, rfl, tag_x, ?_⟩⟩
  exact hf _ (hk m' hm)
/-! the fields -/
theorem fldK_at {C : Str} {d : D} (h1 : inV (.str C) [.str "InvalidRatio", .str "InvalidTimes", .str "InvalidLimit"] = false) (h2 : inV (.str C) [.str "InvalidRow", .str "InvalidTie", .str "InvalidWish", .str "ParseError"] = true) (k : D → Prop) (hk : k d) : fldK C [("tag", .str C), ("at", d)] k := by
  unfold fldK
  rw [if_neg (by rw [h1]; decide), if_pos h2]
  exact ⟨d, fld_x (by decide +kernel), hk⟩
/-! plain data compared with itself -/
mutual
def cB : D → Bool
  | .non => true
  | .bl _ => true
  | .int _ => true
  | .str z => PyData.strOk z
  | .lst ds => cBs ds
  | .tup ds => cBs ds
  | _ => false
def cBs : List D → Bool
  | [] => true
  | d :: ds => cB d && cBs ds
end
mutual
theorem cB_py : ∀ d : D, cB d = true → ∃ p, toPy d = some p ∧ p.canLay0 = true ∧ p.depth = dpD d ∧ PyData.eqv p p = true
  | .non, _ => ⟨.none, rfl, rfl, rfl, rfl⟩
  | .bl i, _ => ⟨.bool i, rfl, rfl, rfl, by simp [PyData.eqv]⟩
  | .int i, _ => ⟨.int i, rfl, rfl, rfl, by simp [PyData.eqv]⟩
  | .str z, h => ⟨.str z, rfl, h, rfl, by simp [PyData.eqv]⟩
  | .lst ds, h => by
    obtain ⟨ps, h1, h2, h3, h4⟩ := cBs_py ds h
    exact ⟨.list ps, by simp only [toPy, h1]; rfl, by simp only [PyData.canLay0]; exact h2, by simp only [PyData.depth, dpD, h3], by simp only [PyData.eqv]; exact h4⟩
  | .tup ds, h => by
    obtain ⟨ps, h1, h2, h3, h4⟩ := cBs_py ds h
    exact ⟨.tuple ps, by simp only [toPy, h1]; rfl, by simp only [PyData.canLay0]; exact h2, by simp only [PyData.depth, dpD, h3], by simp only [PyData.eqv]; exact h4⟩
  | .pr _, h => by simp [cB] at h
  | .dic _, h => by simp [cB] at h
  | .dit _, h => by simp [cB] at h
  | .obj _ _, h => by simp [cB] at h
  | .feed, h => by simp [cB] at h
  | .lat _ _, h => by simp [cB] at h
  | .ref _, h => by simp [cB] at h
  | .exn _ _ _, h => by simp [cB] at h
  | .clo _ _ _ _ _, h => by simp [cB] at h
  | .oth _, h => by simp [cB] at h
theorem cBs_py : ∀ ds : List D, cBs ds = true → ∃ ps, toPyL ds = some ps ∧ PyData.canLayAll0 ps = true ∧ PyData.depthAll ps = dpDs ds ∧ PyData.eqvAll ps ps = true
  | [], _ => ⟨[], rfl, rfl, rfl, rfl⟩
  | d :: ds, h => by
    simp only [cBs, Bool.and_eq_true] at h
    obtain ⟨p, h1, h2, h3, h7⟩ := cB_py d h.1
    obtain ⟨ps, h4, h5, h6, h8⟩ := cBs_py ds h.2
    exact ⟨p :: ps, by simp only [toPyL, h1, h4], by simp only [PyData.canLayAll0, h2, h5]; rfl, by simp only [PyData.depthAll, h3, h6, dpDs], by simp only [PyData.eqvAll, h7, h8]; rfl⟩
end
theorem cB_now {m : Mem} {x : D} (h : cB x = true) : now m x = x := by
  cases x with
  | ref p => simp [cB] at h
  | _ => rfl
theorem eqP_refl {m : Mem} {x : D} {k : Bool → Prop} (hx : cB x = true) (dx : dpD x ≤ 64) (hk : k true) : eqP m x x k := by
  obtain ⟨p, h1, h2, h3, h4⟩ := cB_py x hx
  have sh : SeqAt.shaped p = true := by simp only [SeqAt.shaped, h2, h3, Bool.true_and, decide_eq_true_eq]; exact dx
  exact ⟨p, p, by rw [cB_now hx]; exact h1, by rw [cB_now hx]; exact h1, sh, sh, by rw [h4]; exact hk⟩
/-! ### sums, products, order of fractions -/
def fadd (f g : Int × Int) : Int × Int := Fr.low (f.1 * g.2 + g.1 * f.2) (f.2 * g.2)
/-- of so many bits -/
def Bd (n : Nat) (f : Int × Int) : Prop := f.1.natAbs < 2 ^ n ∧ f.2.natAbs < 2 ^ n
theorem Bd.mono {n m : Nat} {f : Int × Int} (h : Bd n f) (l : n ≤ m) : Bd m f := ⟨Nat.lt_of_lt_of_le h.1 (Nat.pow_le_pow_right (by decide) l), Nat.lt_of_lt_of_le h.2 (Nat.pow_le_pow_right (by decide) l)⟩
theorem abs_mul {a b : Int} {n m : Nat} (ha : a.natAbs < 2 ^ n) (hb : b.natAbs < 2 ^ m) : (a * b).natAbs < 2 ^ (n + m) := by
  rw [Int.natAbs_mul, Nat.pow_add]
  exact Nat.mul_lt_mul'' ha hb
theorem Bd.add {n m : Nat} {f g : Int × Int} (hf : Bd n f) (hg : Bd m g) (h1 : f.2 ≠ 0) (h2 : g.2 ≠ 0) : Bd (n + m + 1) (fadd f g) := by
  have h := Fr.low_abs (a := f.1 * g.2 + g.1 * f.2) (b := f.2 * g.2) (Int.mul_ne_zero h1 h2)
  have a1 := abs_mul hf.1 hg.2
  have a2 : (g.1 * f.2).natAbs < 2 ^ (n + m) := by rw [Nat.add_comm n m]; exact abs_mul hg.1 hf.2
  have a3 := abs_mul hf.2 hg.2
  have e : 2 ^ (n + m + 1) = 2 ^ (n + m) + 2 ^ (n + m) := by rw [Nat.pow_succ]; omega
  refine ⟨Nat.lt_of_le_of_lt h.1 (Nat.lt_of_le_of_lt (Int.natAbs_add_le _ _) (by omega)), Nat.lt_of_le_of_lt h.2 (by omega)⟩

/- def lowest, slots 0 top 1 under 2 part -/
/- def add, slots 0 one 1 other -/
/- def multiply, slots 0 one 1 other -/
/- lent by k06 -/
/- def is_less, slots 0 one 1 other -/
/-! ### negative, subtract -/
/- def negative, slots 0 one -/
/- def subtract, slots 0 one 1 other -/
/-! ### divide, never by 0 -/
/- lent by k02 -/
/- def divide, slots 0 one 1 other -/
/-! ### fractions as rationals -/
abbrev rf (q : Rat) : Int × Int := (q.num, (q.den : Int))
theorem rf_ok (q : Rat) : Fr.Ok (rf q) := ⟨by show (0 : Int) < (q.den : Int); have := q.den_nz; omega, q.reduced⟩
theorem rf_nz (q : Rat) : (rf q).2 ≠ 0 := by have := (rf_ok q).1; show (rf q).2 ≠ 0; omega
theorem rf_div (q : Rat) : ((q.num : Int) : Rat) / ((q.den : Int) : Rat) = q := by
  rw [← Rat.divInt_eq_div]; exact (Rat.mk_eq_divInt (nz := q.den_nz) (c := q.reduced)).symm
theorem icast_ne {b : Int} (hb : b ≠ 0) : (b : Rat) ≠ 0 := fun h => hb (by have := Rat.intCast_inj.mp (h.trans Rat.intCast_zero.symm); exact this)
theorem low_rat {a b : Int} (hb : b ≠ 0) : Fr.low a b = rf ((a : Rat) / (b : Rat)) := by
  refine Fr.low_unique hb (rf_ok _) ?_
  have e := rf_div ((a : Rat) / (b : Rat))
  have h2 : ((((a : Rat) / (b : Rat)).den : Int) : Rat) ≠ 0 := icast_ne (rf_nz _)
  have hb' := icast_ne hb
  have : ((((a : Rat) / (b : Rat)).num : Int) : Rat) * (b : Rat) = (a : Rat) * ((((a : Rat) / (b : Rat)).den : Int) : Rat) := by
    generalize (((a : Rat) / (b : Rat)).num : Int) = n at e ⊢
    generalize ((((a : Rat) / (b : Rat)).den : Nat) : Int) = d at e h2 ⊢
    generalize ((n : Int) : Rat) = x at e ⊢
    generalize ((d : Int) : Rat) = y at e h2 ⊢
    grind
  exact Rat.intCast_inj.mp (by rw [Rat.intCast_mul, Rat.intCast_mul]; exact this)
theorem fadd_q (a b : Rat) : fadd (rf a) (rf b) = rf (a + b) := by
  unfold fadd
  rw [low_rat (Int.mul_ne_zero (rf_nz a) (rf_nz b))]
  congr 1
  have ha := rf_div a; have hb := rf_div b
  have h1 := icast_ne (rf_nz a); have h2 := icast_ne (rf_nz b)
  simp only [Rat.intCast_add, Rat.intCast_mul, rf] at h1 h2 ⊢
  grind
/-- of so many bits -/
abbrev Bq (n : Nat) (q : Rat) : Prop := Bd n (rf q)
theorem Bq.add {n m : Nat} {a b : Rat} (h : Bq n a) (h' : Bq m b) : Bq (n + m + 1) (a + b) := by show Bd _ _; rw [← fadd_q]; exact Bd.add h h' (rf_nz a) (rf_nz b)
theorem Bq.int {n : Nat} {a : Int} (hn : 0 < n) (h1 : a.natAbs < 2 ^ n) : Bq n (a : Rat) := ⟨h1, by show (1 : Int).natAbs < 2 ^ n; exact Nat.one_lt_two_pow (by omega)⟩
/-! the promises over rationals -/
section
variable {a b : Rat} {m : Mem} {k : KD} {x : KX}
end
/-! ### dicts of fractions by names -/
abbrev Nm := List Nat
/-! ### programs read from words -/
def hereW (W : List Nm) (i : Nat) : Nm := W.getD i []
theorem hereW_lt {W : List Nm} {i : Nat} (h : i < W.length) : hereW W i = W[i] := by
  unfold hereW
  rw [List.getD_eq_getElem?_getD, List.getElem?_eq_getElem h]; rfl
theorem hereW_ge {W : List Nm} {i : Nat} (h : W.length ≤ i) : hereW W i = [] := by
  unfold hereW
  rw [List.getD_eq_getElem?_getD, List.getElem?_eq_none h]; rfl
inductive Md where
  | sts | st | blk
/-- a plain name -/
def plN (w : Nm) : Bool := nmL w && !decide (w.drop (w.length - 1) = [39])
def endW (w : Nm) : Prop := w = [] ∨ w = [125]
instance (w : Nm) : Decidable (endW w) := by unfold endW; infer_instance
/-- what is read at a place: the items and the place behind them, or the place of the fault -/
inductive RdP (W : List Nm) : Md → Nat → Nat → Except Nat (List D × Nat) → Prop where
  | nil {d i : Nat} : endW (hereW W i) → RdP W .sts d i (.ok ([], i))
  | bad {d i j : Nat} : ¬ endW (hereW W i) → RdP W .st d i (.error j) → RdP W .sts d i (.error j)
  | more {d i i' j : Nat} {x : D} : ¬ endW (hereW W i) → RdP W .st d i (.ok ([x], i')) → RdP W .sts d i' (.error j) → RdP W .sts d i (.error j)
  | cons {d i i' i2 : Nat} {x : D} {xs : List D} : ¬ endW (hereW W i) → RdP W .st d i (.ok ([x], i')) → RdP W .sts d i' (.ok (xs, i2)) → RdP W .sts d i (.ok (x :: xs, i2))
  | deep {d i : Nat} : 4 < d → RdP W .blk d i (.error i)
  | open_ {d i : Nat} : d ≤ 4 → hereW W i ≠ [123] → RdP W .blk d i (.error i)
  | in_ {d i j : Nat} : d ≤ 4 → hereW W i = [123] → RdP W .sts d (i + 1) (.error j) → RdP W .blk d i (.error j)
  | shut {d i i' : Nat} {xs : List D} : d ≤ 4 → hereW W i = [123] → RdP W .sts d (i + 1) (.ok (xs, i')) → hereW W i' ≠ [125] → RdP W .blk d i (.error i')
  | blk {d i i' : Nat} {xs : List D} : d ≤ 4 → hereW W i = [123] → RdP W .sts d (i + 1) (.ok (xs, i')) → hereW W i' = [125] → RdP W .blk d i (.ok (xs, i' + 1))
  | odd {d i : Nat} : hereW W i ∉ [[115, 101, 116], [97, 110, 121], [99, 104, 101, 99, 107], [101, 105, 116, 104, 101, 114], [114, 101, 112, 101, 97, 116]] → RdP W .st d i (.error i)
  | any0 {d i : Nat} : hereW W i = [97, 110, 121] → plN (hereW W (i + 1)) = false → RdP W .st d i (.error (i + 1))
  | any1 {d i : Nat} : hereW W i = [97, 110, 121] → plN (hereW W (i + 1)) = true → RdP W .st d i (.ok ([.tup [.str "any", .str (S (hereW W (i + 1)))]], i + 2))
  | rep0 {d i : Nat} : hereW W i = [114, 101, 112, 101, 97, 116] → (∀ n, wholeL (hereW W (i + 1)) = some n → 4 < n) → RdP W .st d i (.error (i + 1))
  | rep1 {d i n j : Nat} : hereW W i = [114, 101, 112, 101, 97, 116] → wholeL (hereW W (i + 1)) = some n → n ≤ 4 → RdP W .blk (d + 1) (i + 2) (.error j) → RdP W .st d i (.error j)
  | rep2 {d i n i' : Nat} {xs : List D} : hereW W i = [114, 101, 112, 101, 97, 116] → wholeL (hereW W (i + 1)) = some n → n ≤ 4 → RdP W .blk (d + 1) (i + 2) (.ok (xs, i')) → RdP W .st d i (.ok ([.tup [.str "repeat", .int (n : Int), .tup xs]], i'))
  | eit0 {d i j : Nat} : hereW W i = [101, 105, 116, 104, 101, 114] → RdP W .blk (d + 1) (i + 1) (.error j) → RdP W .st d i (.error j)
  | eit1 {d i i' : Nat} {xs : List D} : hereW W i = [101, 105, 116, 104, 101, 114] → RdP W .blk (d + 1) (i + 1) (.ok (xs, i')) → hereW W i' ≠ [111, 114] → RdP W .st d i (.error i')
  | eit2 {d i i' j : Nat} {xs : List D} : hereW W i = [101, 105, 116, 104, 101, 114] → RdP W .blk (d + 1) (i + 1) (.ok (xs, i')) → hereW W i' = [111, 114] → RdP W .blk (d + 1) (i' + 1) (.error j) → RdP W .st d i (.error j)
  | eit3 {d i i' i2 : Nat} {xs ys : List D} : hereW W i = [101, 105, 116, 104, 101, 114] → RdP W .blk (d + 1) (i + 1) (.ok (xs, i')) → hereW W i' = [111, 114] → RdP W .blk (d + 1) (i' + 1) (.ok (ys, i2)) → RdP W .st d i (.ok ([.tup [.str "either", .tup xs, .tup ys]], i2))
/-! the reader's methods -/
abbrev wsP (W : List Nm) : List D := W.map fun w => .str (S w)
abbrev prF (W : List Nm) (i : Nat) : List (Str × D) := [(("source" : Str), D.lst (wsP W)), (("spot" : Str), D.int (i : Int))]
theorem lk_source {W : List Nm} {i : Nat} : List.lookup ("source" : Str) (prF W i) = some (.lst (wsP W)) := by simp [List.lookup]
theorem lk_spot {W : List Nm} {i : Nat} : List.lookup ("spot" : Str) (prF W i) = some (.int (i : Int)) := by
  have : (("spot" : Str) == ("source" : Str)) = false := by decide +kernel
  simp [List.lookup, this]
theorem pt_spot {W : List Nm} {i : Nat} {j : Int} : putFD "spot" (.int j) (prF W i) = [(("source" : Str), D.lst (wsP W)), (("spot" : Str), D.int j)] := by
  have : (("source" : Str) = ("spot" : Str)) ↔ False := by decide +kernel
  simp [putFD, this]
/-- the words are not too long -/
structure WOk (W : List Nm) : Prop where
  len : W.length ≤ 100000
  wl : ∀ w ∈ W, w.length ≤ 600
theorem WOk.here {W : List Nm} (h : WOk W) (i : Nat) : (hereW W i).length ≤ 600 := by
  by_cases e : i < W.length
  · rw [hereW_lt e]; exact h.wl _ (List.getElem_mem e)
  · rw [hereW_ge (by omega)]; simp
def ph_ProgramReader___init__ : P0 := fun ds m k => ∃ (p : Addr) (W : List Nm), ds = [.ref p, .lst (wsP W)] ∧ m p = some (.ins "ProgramReader" []) ∧ k .non (mset m p (.ins "ProgramReader" (prF W 0)))
def ph_ProgramReader_here : P0 := fun ds m k => ∃ (p : Addr) (W : List Nm) (i : Nat), ds = [.ref p] ∧ m p = some (.ins "ProgramReader" (prF W i)) ∧ WOk W ∧ k (.str (S (hereW W i))) m
def ph_ProgramReader_take : P0 := fun ds m k => ∃ (p : Addr) (W : List Nm) (i : Nat), ds = [.ref p] ∧ m p = some (.ins "ProgramReader" (prF W i)) ∧ WOk W ∧ k (.str (S (hereW W i))) (mset m p (.ins "ProgramReader" (prF W (i + 1))))
def ph_ProgramReader_expect : PX := fun ds m k x => ∃ (p : Addr) (W : List Nm) (i : Nat) (w : Nm), ds = [.ref p, .str (S w)] ∧ m p = some (.ins "ProgramReader" (prF W i)) ∧ WOk W ∧ (hereW W i ≠ w → x (exX "ParseError" "at" (.int (i : Int))) m) ∧ (hereW W i = w → k .non (mset m p (.ins "ProgramReader" (prF W (i + 1)))))
def ph_ProgramReader_plain_name : PX := fun ds m k x => ∃ (p : Addr) (W : List Nm) (i : Nat), ds = [.ref p] ∧ m p = some (.ins "ProgramReader" (prF W i)) ∧ WOk W ∧ (plN (hereW W i) = false → x (exX "ParseError" "at" (.int (i : Int))) (mset m p (.ins "ProgramReader" (prF W (i + 1))))) ∧ (plN (hereW W i) = true → k (.str (S (hereW W i))) (mset m p (.ins "ProgramReader" (prF W (i + 1)))))
theorem l_ProgramReader___init__ : ∀ ds m k, ph_ProgramReader___init__ ds m k → ds.length = 2 := by rintro _ m k ⟨_, _, rfl, _⟩; rfl
theorem l_ProgramReader_here : ∀ ds m k, ph_ProgramReader_here ds m k → ds.length = 1 := by rintro _ m k ⟨_, _, _, rfl, _⟩; rfl
theorem l_ProgramReader_take : ∀ ds m k, ph_ProgramReader_take ds m k → ds.length = 1 := by rintro _ m k ⟨_, _, _, rfl, _⟩; rfl
theorem l_ProgramReader_expect : ∀ ds m k x, ph_ProgramReader_expect ds m k x → ds.length = 2 := by rintro _ m k x ⟨_, _, _, _, rfl, _⟩; rfl
theorem l_ProgramReader_plain_name : ∀ ds m k x, ph_ProgramReader_plain_name ds m k x → ds.length = 1 := by rintro _ m k x ⟨_, _, _, rfl, _⟩; rfl
/- def ProgramReader.__init__, slots 0 self 1 words -/
@[reducible] def v_ProgramReader___init__ : VS :=
  (vSeq (vSetF "ProgramReader" "source" (vVar 0) (vVar 1))
    (vSetF "ProgramReader" "spot" (vVar 0) (vC (.int 0))))
/- def ProgramReader.here, slots 0 self -/
@[reducible] def v_ProgramReader_here : VS :=
  (vRet (vIf (tV (vOp oLt (vFld "ProgramReader" "spot" (vVar 0)) (vCB oLen (vCons (vFld "ProgramReader" "source" (vVar 0)) vNil)))) (vOp oIx (vFld "ProgramReader" "source" (vVar 0)) (vFld "ProgramReader" "spot" (vVar 0))) (vC (.str ""))))
/- def ProgramReader.take, slots 0 self 1 word -/
@[reducible] def v_ProgramReader_take : VS :=
  (vSeq (vSet 1 (vMeth "ProgramReader" "here" ph_ProgramReader_here (vVar 0) vNil))
    (vSeq (vAugF "ProgramReader" "spot" (vVar 0) oAddI (vC (.int 1)))
    (vRet (vVar 1))))
/- def ProgramReader.expect, slots 0 self 1 word -/
@[reducible] def v_ProgramReader_expect : VS :=
  (vSeq (vIfS (tV (vOp oNe (vMeth "ProgramReader" "here" ph_ProgramReader_here (vVar 0) vNil) (vVar 1))) (vRaise1 "ParseError" "at" "tag" "ParseError" (vFld "ProgramReader" "spot" (vVar 0))) vNext)
    (vAugF "ProgramReader" "spot" (vVar 0) oAddI (vC (.int 1))))
/- def ProgramReader.plain_name, slots 0 self 1 word -/
@[reducible] def v_ProgramReader_plain_name : VS :=
  (vSeq (vSet 1 (vMeth "ProgramReader" "take" ph_ProgramReader_take (vVar 0) vNil))
    (vSeq (vIfS (vOr (vNot (tV (vCall ph_is_name (vCons (vVar 1) vNil)))) (tV (vOp oEq (vSl (vVar 1) (vP (vUn oNeg (vC (.int 1)))) vNoP) (vC (.str "'"))))) (vRaise1 "ParseError" "at" "tag" "ParseError" (vOp oSub (vFld "ProgramReader" "spot" (vVar 0)) (vC (.int 1)))) vNext)
    (vRet (vVar 1))))


theorem lk_noP {f : Str} {W : List Nm} {i : Nat} (h1 : (f == ("source" : Str)) = false) (h2 : (f == ("spot" : Str)) = false) : List.lookup f (prF W i) = none := by
  simp only [List.lookup, h1, h2]
theorem w_ProgramReader___init__ : ∀ ds m k, ph_ProgramReader___init__ ds m k → v_ProgramReader___init__ (dstart 2 ds) m (endP k) := by
  rintro _ m k ⟨p, W, rfl, hp, hk⟩
  unfold v_ProgramReader___init__
  walk_at "vc"
  rw [hp, onIo_1]
  exact ⟨rfl, by decide, by show 1 < 1000; decide, hk⟩
theorem w_ProgramReader_here : ∀ ds m k, ph_ProgramReader_here ds m k → v_ProgramReader_here (dstart 1 ds) m (endP k) := by
  rintro _ m k ⟨p, W, i, rfl, hp, hw, hk⟩
  unfold v_ProgramReader_here
  walk_at "vc"
  rw [hp, insO_1, onO_1, lk_spot, onO_1, onO_1, lk_source, onO_1]
  walk_at "vc"
  rw [hp, insO_1, onO_1, lk_source, onO_1, onO_1, lk_spot, onO_1]
  walk_at "vc"
  rw [List.length_map]
  refine itP (fun h => ?_) fun h => ?_
  · have h : i < W.length := by omega
    rw [atI_map h, onO_1]
    rw [hereW_lt h] at hk
    exact hk
  · rw [hereW_ge (by omega)] at hk
    exact hk
theorem w_ProgramReader_take : ∀ ds m k, ph_ProgramReader_take ds m k → v_ProgramReader_take (dstart 2 ds) m (endP k) := by
  rintro _ m k ⟨p, W, i, rfl, hp, hw, hk⟩
  unfold v_ProgramReader_take
  walk_at "vc"
  rw [hp, insO_1, onO_1]
  refine ⟨lk_noP (by decide +kernel) (by decide +kernel), p, W, i, rfl, hp, hw, ?_⟩
  dsimp only
  rw [hp, onIo_1]
  refine ⟨rfl, ?_⟩
  rw [lk_spot, onO_1]
  walk_at "vc"
  rw [hp, onIo_1, pt_spot]
  exact ⟨rfl, by show 2 < 1000; decide, hk⟩
theorem w_ProgramReader_expect : ∀ ds m k x, ph_ProgramReader_expect ds m k x → v_ProgramReader_expect (dstart 2 ds) m (endX k x) := by
  rintro _ m k x ⟨p, W, i, w, rfl, hp, hw, hx, hk⟩
  unfold v_ProgramReader_expect
  walk_at "vc"
  rw [hp, insO_1, onO_1]
  refine ⟨lk_noP (by decide +kernel) (by decide +kernel), p, W, i, rfl, hp, hw, ?_⟩
  walk_at "vc"
  rw [hp, insO_1, onO_1, lk_spot, onO_1]
  refine itP (fun h => ⟨m, MLe.refl _, hx fun z => h (by rw [z])⟩) fun h => ?_
  have h := S_inj (Decidable.of_not_not h)
  rw [onIo_1, lk_spot, onO_1]
  refine ⟨rfl, ?_⟩
  walk_at "vc"
  rw [hp, onIo_1, pt_spot]
  exact ⟨rfl, by show 2 < 1000; decide, _, MLe.refl _, hk h⟩
theorem w_ProgramReader_plain_name : ∀ ds m k x, ph_ProgramReader_plain_name ds m k x → v_ProgramReader_plain_name (dstart 2 ds) m (endX k x) := by
  rintro _ m k x ⟨p, W, i, rfl, hp, hw, hx, hk⟩
  unfold v_ProgramReader_plain_name
  rw [apo_S]
  walk_at "vc"
  rw [hp, insO_1, onO_1]
  refine ⟨lk_noP (by decide +kernel) (by decide +kernel), p, W, i, rfl, hp, hw, ?_⟩
  walk_at "vc"
  have hl := hw.here i
  refine ⟨_, rfl, ⟨0, by show (S (hereW W i)).length ≤ 1000; rw [S_len]; omega⟩, ?_⟩
  have hn : isNm (.str (S (hereW W i))) = nmL (hereW W i) := rfl
  rw [hn]
  have bad : plN (hereW W i) = false → onO (List.lookup ("spot" : Str) (prF W (i + 1))) fun v => oSub v (.int 1) (mset m p (.ins "ProgramReader" (prF W (i + 1)))) fun d m1 => ∃ m'', MLe m'' m1 ∧ x (exX "ParseError" "at" d) m'' := fun e => by
    rw [lk_spot, onO_1]
    walk_at "vc"
    rw [show ((i + 1 : Nat) : Int) - 1 = (i : Int) by omega]
    exact ⟨_, MLe.refl _, hx e⟩
  have pe : plN (hereW W i) = (nmL (hereW W i) && !decide ((hereW W i).drop ((hereW W i).length - 1) = [39])) := rfl
  cases h : nmL (hereW W i) with
  | false =>
    walk_at "vc"
    exact bad (by rw [pe, h]; rfl)
  | true =>
    walk_at "vc"
    rw [cut_last]
    refine ⟨by omega, itP (fun e => ?_) fun e => ?_⟩
    · exact bad (by rw [pe, h, decide_eq_true (S_inj e)]; rfl)
    · exact ⟨_, MLe.refl _, hk (by rw [pe, h, decide_eq_false (fun z => e (by rw [z]))]; rfl)⟩
/-! the three that call each other -/
/-- what comes of a reading -/
def rdO (p : Addr) (W : List Nm) (m : Mem) (r : Except Nat (List D × Nat)) (k : List D → Mem → Prop) (x : KX) : Prop :=
  (∀ j, r = .error j → ∀ i' : Nat, x (exX "ParseError" "at" (.int (j : Int))) (mset m p (.ins "ProgramReader" (prF W i')))) ∧ ∀ ds i', r = .ok (ds, i') → k ds (mset m p (.ins "ProgramReader" (prF W i')))
def ph_ProgramReader_statements (n : Nat) : PX := fun ds m k x => ∃ (p : Addr) (W : List Nm) (d i : Nat) (r : Except Nat (List D × Nat)), ds = [.ref p, .int (d : Int)] ∧ m p = some (.ins "ProgramReader" (prF W i)) ∧ WOk W ∧ 1 ≤ n ∧ d + n = 5 ∧ RdP W .sts d i r ∧ rdO p W m r (fun es m' => k (.tup es) m') x
def ph_ProgramReader_block (n : Nat) : PX := fun ds m k x => ∃ (p : Addr) (W : List Nm) (d i : Nat) (r : Except Nat (List D × Nat)), ds = [.ref p, .int (d : Int)] ∧ m p = some (.ins "ProgramReader" (prF W i)) ∧ WOk W ∧ d + n = 5 ∧ RdP W .blk d i r ∧ rdO p W m r (fun es m' => k (.tup es) m') x
def ph_ProgramReader_statement (n : Nat) : PX := fun ds m k x => ∃ (p : Addr) (W : List Nm) (d i : Nat) (r : Except Nat (List D × Nat)), ds = [.ref p, .int (d : Int)] ∧ m p = some (.ins "ProgramReader" (prF W i)) ∧ WOk W ∧ 1 ≤ n ∧ d + n = 5 ∧ RdP W .st d i r ∧ rdO p W m r (fun es m' => ∀ e, es = [e] → k e m') x
theorem l_ProgramReader_statements (n : Nat) : ∀ ds m k x, ph_ProgramReader_statements n ds m k x → ds.length = 2 := by rintro _ m k x ⟨_, _, _, _, _, rfl, _⟩; rfl
theorem l_ProgramReader_block (n : Nat) : ∀ ds m k x, ph_ProgramReader_block n ds m k x → ds.length = 2 := by rintro _ m k x ⟨_, _, _, _, _, rfl, _⟩; rfl
theorem l_ProgramReader_statement (n : Nat) : ∀ ds m k x, ph_ProgramReader_statement n ds m k x → ds.length = 2 := by rintro _ m k x ⟨_, _, _, _, _, rfl, _⟩; rfl
theorem w_ProgramReader_statement_0 : ∀ ds m k x, ph_ProgramReader_statement 0 ds m k x → False := by rintro _ m k x ⟨_, _, _, _, _, _, _, _, h, _⟩; omega
/- def ProgramReader.block, slots 0 self 1 depth 2 found -/
@[reducible] def v_ProgramReader_block (φ : PX) : VS :=
  (vSeq (vIfS (tV (vOp oGt (vVar 1) (vC (.int 4)))) (vRaise1 "ParseError" "at" "tag" "ParseError" (vFld "ProgramReader" "spot" (vVar 0))) vNext)
    (vSeq (vDrop (vMethX "ProgramReader" "expect" ph_ProgramReader_expect (vVar 0) (vCons (vC (.str "{")) vNil)))
    (vSeq (vSet 2 (vMethX "ProgramReader" "statements" φ (vVar 0) (vCons (vVar 1) vNil)))
    (vSeq (vDrop (vMethX "ProgramReader" "expect" ph_ProgramReader_expect (vVar 0) (vCons (vC (.str "}")) vNil)))
    (vRet (vVar 2))))))
@[reducible] def v_ProgramReader_statements_b1 (φ : PX) : VS :=
  (vDrop (vBM "list" oAppend (vVar 2) (vCons (vMethX "ProgramReader" "statement" φ (vVar 0) (vCons (vVar 1) vNil)) vNil)))
/- def ProgramReader.statements, slots 0 self 1 depth 2 found -/
@[reducible] def v_ProgramReader_statements (φ : PX) : VS :=
  (vSeq (vSet 2 (vLstO vNil))
    (vSeq (vWhile (tV (vOp oNotInL (vMeth "ProgramReader" "here" ph_ProgramReader_here (vVar 0) vNil) (vTup (vCons (vC (.str "")) (vCons (vC (.str "}")) vNil))))) (v_ProgramReader_statements_b1 φ))
    (vRet (vCB oTuple (vCons (vVar 2) vNil)))))
/- def ProgramReader.statement, slots 0 self 1 depth 2 first 3 times -/
@[reducible] def v_ProgramReader_statement (φ : PX) : VS :=
  (vSeq (vMatch (vMeth "ProgramReader" "take" ph_ProgramReader_take (vVar 0) vNil) (vMc "set" vNever
    (vMc "any" (vRet (vTup (vCons (vC (.str "any")) (vCons (vMethX "ProgramReader" "plain_name" ph_ProgramReader_plain_name (vVar 0) vNil) vNil))))
    (vMc "check" vNever
    (vMc "either" (vSeq (vSet 2 (vMethX "ProgramReader" "block" φ (vVar 0) (vCons (vOp oAdd (vVar 1) (vC (.int 1))) vNil)))
    (vSeq (vDrop (vMethX "ProgramReader" "expect" ph_ProgramReader_expect (vVar 0) (vCons (vC (.str "or")) vNil)))
    (vRet (vTup (vCons (vC (.str "either")) (vCons (vVar 2) (vCons (vMethX "ProgramReader" "block" φ (vVar 0) (vCons (vOp oAdd (vVar 1) (vC (.int 1))) vNil)) vNil)))))))
    (vMc "repeat" (vSeq (vSet 3 (vCall ph_whole_in (vCons (vMeth "ProgramReader" "here" ph_ProgramReader_here (vVar 0) vNil) vNil)))
    (vSeq (vIfS (vOr (tV (vOp oIs (vVar 3) (vC .non))) (tV (vOp oGt (vVar 3) (vC (.int 4))))) (vRaise1 "ParseError" "at" "tag" "ParseError" (vFld "ProgramReader" "spot" (vVar 0))) vNext)
    (vSeq (vAugF "ProgramReader" "spot" (vVar 0) oAddI (vC (.int 1)))
    (vRet (vTup (vCons (vC (.str "repeat")) (vCons (vVar 3) (vCons (vMethX "ProgramReader" "block" φ (vVar 0) (vCons (vOp oAdd (vVar 1) (vC (.int 1))) vNil)) vNil))))))))
    vMn))))))
    (vRaise1 "ParseError" "at" "tag" "ParseError" (vOp oSub (vFld "ProgramReader" "spot" (vVar 0)) (vC (.int 1)))))


theorem ob_S : ("{" : Str) = S [123] := by decide +kernel
theorem cb_S : ("}" : Str) = S [125] := by decide +kernel
theorem w_ProgramReader_block (n : Nat) : ∀ ds m k x, ph_ProgramReader_block n ds m k x → v_ProgramReader_block (ph_ProgramReader_statements n) (dstart 3 ds) m (endX k x) := by
  rintro _ m k x ⟨p, W, d, i, r, rfl, hp, hw, hn, hr, hx, hk⟩
  unfold v_ProgramReader_block
  rw [ob_S, cb_S]
  walk_at "vc"
  rw [hp, insO_1, onO_1, lk_spot, onO_1, onO_1]
  have nx : List.lookup ("expect" : Str) (prF W i) = none := lk_noP (by decide +kernel) (by decide +kernel)
  have ex : ∀ (m1 : Mem) (i1 : Nat) (w : Nm) (k1 : KD) (x1 : KX), m1 p = some (.ins "ProgramReader" (prF W i1)) → (hereW W i1 ≠ w → x1 (exX "ParseError" "at" (.int (i1 : Int))) m1) → (hereW W i1 = w → k1 .non (mset m1 p (.ins "ProgramReader" (prF W (i1 + 1))))) → ph_ProgramReader_expect [.ref p, .str (S w)] m1 k1 x1 := fun m1 i1 w k1 x1 h1 h2 h3 => ⟨p, W, i1, w, rfl, h1, hw, h2, h3⟩
  have self : mset m p (.ins "ProgramReader" (prF W i)) = m := by
    funext b
    by_cases e : b = p
    · subst e; rw [mset_same, hp]
    · rw [mset_ne e]
  cases hr with
  | deep hd =>
    rw [if_pos (by omega)]
    have := hx i rfl i
    rw [self] at this
    exact ⟨_, MLe.refl _, this⟩
  | open_ hd h =>
    rw [if_neg (by omega)]
    have := hx i rfl i
    rw [self] at this
    exact ⟨nx, ex m i _ _ _ hp (fun _ => ⟨_, MLe.refl _, this⟩) fun e => absurd e h⟩
  | in_ hd h hr =>
    rw [if_neg (by omega)]
    refine ⟨nx, ex m i _ _ _ hp (fun e => absurd h e) fun _ => ?_⟩
    rw [mset_same, insO_1, onO_1]
    refine ⟨lk_noP (by decide +kernel) (by decide +kernel), p, W, d, i + 1, _, rfl, mset_same, hw, by omega, hn, hr, fun j hj i' => ⟨_, MLe.refl _, ?_⟩, (fun ds i' e => by cases e)⟩
    cases hj
    rw [mset_mset]
    exact hx _ rfl i'
  | shut hd h hr hs =>
    rename_i i' xs
    rw [if_neg (by omega)]
    refine ⟨nx, ex m i _ _ _ hp (fun e => absurd h e) fun _ => ?_⟩
    rw [mset_same, insO_1, onO_1]
    refine ⟨lk_noP (by decide +kernel) (by decide +kernel), p, W, d, i + 1, _, rfl, mset_same, hw, by omega, hn, hr, (fun j hj => by cases hj), fun ds i2 e => ?_⟩
    cases e
    rw [mset_same, insO_1, onO_1]
    refine ⟨lk_noP (by decide +kernel) (by decide +kernel), ex _ i' _ _ _ mset_same (fun _ => ⟨_, MLe.refl _, ?_⟩) fun e => absurd e hs⟩
    rw [mset_mset]
    exact hx _ rfl i'
  | blk hd h hr hs =>
    rename_i i' xs
    rw [if_neg (by omega)]
    refine ⟨nx, ex m i _ _ _ hp (fun e => absurd h e) fun _ => ?_⟩
    rw [mset_same, insO_1, onO_1]
    refine ⟨lk_noP (by decide +kernel) (by decide +kernel), p, W, d, i + 1, _, rfl, mset_same, hw, by omega, hn, hr, (fun j hj => by cases hj), fun ds i2 e => ?_⟩
    cases e
    rw [mset_same, insO_1, onO_1]
    refine ⟨lk_noP (by decide +kernel) (by decide +kernel), ex _ i' _ _ _ mset_same (fun e => absurd hs e) fun e => ⟨_, MLe.refl _, ?_⟩⟩
    rw [mset_mset, mset_mset]
    exact hk _ _ rfl
theorem RdP.lt {W : List Nm} {M : Md} {d i : Nat} {r : Except Nat (List D × Nat)} (h : RdP W M d i r) : ∀ xs i', r = .ok (xs, i') → i ≤ i' ∧ (M = .st → i < i') := by
  induction h with
  | nil => intro _ _ e; cases e; exact ⟨Nat.le_refl _, fun z => nomatch z⟩
  | cons _ _ _ h1 h2 => intro _ _ e; cases e; have a := h1 _ _ rfl; have b := h2 _ _ rfl; exact ⟨by omega, fun z => nomatch z⟩
  | blk _ _ _ _ h1 => intro _ _ e; cases e; have a := h1 _ _ rfl; exact ⟨by omega, fun z => nomatch z⟩
  | any1 => intro _ _ e; cases e; exact ⟨by omega, fun _ => by omega⟩
  | rep2 _ _ _ _ h1 => intro _ _ e; cases e; have a := h1 _ _ rfl; exact ⟨by omega, fun _ => by omega⟩
  | eit3 _ _ _ _ h1 h2 => intro _ _ e; cases e; have a := h1 _ _ rfl; have b := h2 _ _ rfl; exact ⟨by omega, fun _ => by omega⟩
  | _ => intro _ _ e; cases e
theorem endW_in {w : Nm} : inV (.str (S w)) [.str (S []), .str (S [125])] = decide (endW w) := by
  have := inV_str (S w) [S [], S [125]]
  rw [show ([S [], S [125]].map V.str) = [.str (S []), .str (S [125])] from rfl] at this
  rw [this, decide_eq_decide]
  unfold endW
  simp only [List.mem_cons, List.not_mem_nil, or_false]
  exact ⟨fun h => h.imp S_inj S_inj, fun h => h.imp (fun z => by rw [z]) fun z => by rw [z]⟩
theorem w_ProgramReader_statements (n : Nat) : ∀ ds m k x, ph_ProgramReader_statements n ds m k x → v_ProgramReader_statements (ph_ProgramReader_statement n) (dstart 3 ds) m (endX k x) := by
  rintro _ m k x ⟨p, W, d, i, r, rfl, hp, hw, hn1, hn, hr, hx, hk⟩
  unfold v_ProgramReader_statements
  rw [emp_S, cb_S]
  walk_at "vc"
  intro q hq
  have hpq : p ≠ q := fun z => by rw [z, hq] at hp; cases hp
  have self : mset m p (.ins "ProgramReader" (prF W i)) = m := by
    funext b
    by_cases e : b = p
    · subst e; rw [mset_same, hp]
    · rw [mset_ne e]
  have tw : ∀ a b c : MO, mset (mset (mset m p a) q b) p c = mset (mset m p c) q b := fun a b c => by
    funext z
    by_cases e : z = p
    · subst e; rw [mset_same, mset_ne hpq, mset_same]
    · rw [mset_ne e]
      by_cases e2 : z = q
      · subst e2; rw [mset_same, mset_same]
      · rw [mset_ne e2, mset_ne e2, mset_ne e, mset_ne e]
  have inW : ∀ {j : Nat}, ¬ endW (hereW W j) → j < W.length := fun {j} h => Nat.lt_of_not_le fun z => h (by rw [hereW_ge z]; exact .inl rfl)
  have back : ∀ (i' : Nat) (o : MO), MLe (mset m p (.ins "ProgramReader" (prF W i'))) (mset (mset m p (.ins "ProgramReader" (prF W i'))) q o) := fun i' o => mle_new (by rw [mset_ne (Ne.symm hpq)]; exact hq)
  refine ⟨fun k s m' => ∃ (i1 : Nat) (acc : List D) (r1 : Except Nat (List D × Nat)), k = W.length - i1 ∧ s = [some (.ref p), some (.int (d : Int)), some (.ref q)] ∧ m' = mset (mset m p (.ins "ProgramReader" (prF W i1))) q (.lst acc) ∧ acc.length ≤ i1 ∧ RdP W .sts d i1 r1 ∧ (∀ j, r1 = .error j → r = .error j) ∧ (∀ xs i', r1 = .ok (xs, i') → r = .ok (acc ++ xs, i')), ⟨_, i, [], r, rfl, rfl, ?_, Nat.zero_le _, hr, fun _ e => e, fun _ _ e => e⟩, ?_⟩
  · rw [self]
  rintro c _ _ ⟨i1, acc, r1, rfl, rfl, rfl, ha, hr1, he, ho⟩
  have p1 : mset (mset m p (.ins "ProgramReader" (prF W i1))) q (.lst acc) p = some (.ins "ProgramReader" (prF W i1)) := by rw [mset_ne hpq, mset_same]
  have q1 : mset (mset m p (.ins "ProgramReader" (prF W i1))) q (.lst acc) q = some (.lst acc) := mset_same
  walk_at "vc"
  rw [p1, insO_1, onO_1]
  refine ⟨lk_noP (by decide +kernel) (by decide +kernel), p, W, i1, rfl, p1, hw, ?_⟩
  walk_at "vc"
  rw [endW_in]
  cases hr1 with
  | nil h =>
    rw [decide_eq_true h]
    walk_at "vc"
    refine ⟨_, back i1 _, ?_⟩
    have := hk acc i1 (by have := ho [] i1 rfl; rw [List.append_nil] at this; exact this)
    exact this
  | bad h hs =>
    rw [decide_eq_false h]
    walk_at "vc"
    unfold v_ProgramReader_statements_b1
    walk_at "vc"
    rw [p1, insO_1, onO_1]
    refine ⟨lk_noP (by decide +kernel) (by decide +kernel), p, W, d, i1, _, rfl, p1, hw, hn1, hn, hs, fun j e i' => ⟨_, ?_, hx j (he j e) i'⟩, (fun _ _ e => by cases e)⟩
    rw [tw]
    exact back i' _
  | more h hs ht =>
    rename_i i' j0 e0
    rw [decide_eq_false h]
    walk_at "vc"
    unfold v_ProgramReader_statements_b1
    walk_at "vc"
    rw [p1, insO_1, onO_1]
    refine ⟨lk_noP (by decide +kernel) (by decide +kernel), p, W, d, i1, _, rfl, p1, hw, hn1, hn, hs, (fun _ e => by cases e), fun es i2 e y ey => ?_⟩
    cases e
    cases ey
    have lt := (hs.lt _ _ rfl).2 rfl
    have iw := inW h
    rw [tw, mset_same]
    walk_at "vc"
    refine ⟨by have := hw.len; omega, W.length - i', by omega, i', acc ++ [e0], _, rfl, rfl, by rw [List.length_append, List.length_cons, List.length_nil]; omega, ht, fun j e => he j e, (fun xs i2 e => by cases e)⟩
  | cons h hs ht =>
    rename_i i' i2 e0 xs0
    rw [decide_eq_false h]
    walk_at "vc"
    unfold v_ProgramReader_statements_b1
    walk_at "vc"
    rw [p1, insO_1, onO_1]
    refine ⟨lk_noP (by decide +kernel) (by decide +kernel), p, W, d, i1, _, rfl, p1, hw, hn1, hn, hs, (fun _ e => by cases e), fun es i3 e y ey => ?_⟩
    cases e
    cases ey
    have lt := (hs.lt _ _ rfl).2 rfl
    have iw := inW h
    rw [tw, mset_same]
    walk_at "vc"
    refine ⟨by have := hw.len; omega, W.length - i', by omega, i', acc ++ [e0], _, rfl, rfl, by rw [List.length_append, List.length_cons, List.length_nil]; omega, ht, (fun j e => by cases e), fun xs i3 e => ?_⟩
    cases e
    rw [List.append_assoc]
    exact ho _ _ rfl
theorem any_S : ("any" : Str) = S [97, 110, 121] := by decide +kernel
theorem set_S : ("set" : Str) = S [115, 101, 116] := by decide +kernel
theorem chk_S : ("check" : Str) = S [99, 104, 101, 99, 107] := by decide +kernel
theorem eit_S : ("either" : Str) = S [101, 105, 116, 104, 101, 114] := by decide +kernel
theorem rep_S : ("repeat" : Str) = S [114, 101, 112, 101, 97, 116] := by decide +kernel
theorem or_S : ("or" : Str) = S [111, 114] := by decide +kernel
theorem w_ProgramReader_statement (n : Nat) : ∀ ds m k x, ph_ProgramReader_statement (n + 1) ds m k x → v_ProgramReader_statement (ph_ProgramReader_block n) (dstart 4 ds) m (endX k x) := by
  rintro _ m k x ⟨p, W, d, i, r, rfl, hp, hw, hn1, hn, hr, hx, hk⟩
  unfold v_ProgramReader_statement
  walk_at "vc"
  rw [hp, insO_1, onO_1]
  refine ⟨lk_noP (by decide +kernel) (by decide +kernel), p, W, i, rfl, hp, hw, ?_⟩
  have m1 : mset m p (.ins "ProgramReader" (prF W (i + 1))) p = some (.ins "ProgramReader" (prF W (i + 1))) := mset_same
  have tw : ∀ (m' : Mem) (a b : MO), mset (mset m' p a) p b = mset m' p b := fun _ _ _ => mset_mset
  have lb : ∀ j : Nat, List.lookup ("block" : Str) (prF W j) = none := fun j => lk_noP (by decide +kernel) (by decide +kernel)
  have le : ∀ j : Nat, List.lookup ("expect" : Str) (prF W j) = none := fun j => lk_noP (by decide +kernel) (by decide +kernel)
  have lh : ∀ j : Nat, List.lookup ("here" : Str) (prF W j) = none := fun j => lk_noP (by decide +kernel) (by decide +kernel)
  have lp : ∀ j : Nat, List.lookup ("plain_name" : Str) (prF W j) = none := fun j => lk_noP (by decide +kernel) (by decide +kernel)
  have blk : ∀ (m1 : Mem) (i1 : Nat) (r1 : Except Nat (List D × Nat)) (k1 : KD) (x1 : KX), m1 p = some (.ins "ProgramReader" (prF W i1)) → RdP W .blk (d + 1) i1 r1 → rdO p W m1 r1 (fun es m' => k1 (.tup es) m') x1 → ph_ProgramReader_block n [.ref p, .int ((d : Int) + 1)] m1 k1 x1 := fun m1 i1 r1 k1 x1 h1 h2 h3 => ⟨p, W, d + 1, i1, r1, rfl, h1, hw, by omega, h2, h3⟩
  have ex : ∀ (m1 : Mem) (i1 : Nat) (w : Nm) (k1 : KD) (x1 : KX), m1 p = some (.ins "ProgramReader" (prF W i1)) → (hereW W i1 ≠ w → x1 (exX "ParseError" "at" (.int (i1 : Int))) m1) → (hereW W i1 = w → k1 .non (mset m1 p (.ins "ProgramReader" (prF W (i1 + 1))))) → ph_ProgramReader_expect [.ref p, .str (S w)] m1 k1 x1 := fun m1 i1 w k1 x1 h1 h2 h3 => ⟨p, W, i1, w, rfl, h1, hw, h2, h3⟩
  rw [or_S]
  walk_at "vc"
  have rep : ∀ z : Nat, z ≤ 4 → ph_ProgramReader_block n [.ref p, .int ((d : Int) + 1)] (mset (mset m p (.ins "ProgramReader" (prF W (i + 1)))) p (.ins "ProgramReader" (prF W (i + 2)))) (fun d m1 => ∃ m'', MLe m'' m1 ∧ k (.tup [.str "repeat", .int (z : Int), d]) m'') (fun e m' => ∃ m'', MLe m'' m' ∧ x e m'') →
      (if (match optN (some z) with | D.non => true | D.oth V.non => true | _ => false) = true then onO (insO "ProgramReader" (mset m p (.ins "ProgramReader" (prF W (i + 1))) p)) fun fs => onO (List.lookup ("spot" : Str) fs) fun v => ∃ m'', MLe m'' (mset m p (.ins "ProgramReader" (prF W (i + 1)))) ∧ x ⟨"ParseError", [("tag", .str "ParseError"), ("at", v)]⟩ m''
       else oGt (optN (some z)) (.int 4) (mset m p (.ins "ProgramReader" (prF W (i + 1)))) fun d_1 m1 => isB d_1 fun b => if b = true then onO (insO "ProgramReader" (m1 p)) fun fs => onO (List.lookup ("spot" : Str) fs) fun v => ∃ m'', MLe m'' m1 ∧ x ⟨"ParseError", [("tag", .str "ParseError"), ("at", v)]⟩ m''
        else onIo "ProgramReader" (m1 p) fun fs => onO (List.lookup ("spot" : Str) fs) fun v => oAddI v (.int 1) m1 fun z_1 m3 => onIo "ProgramReader" (m3 p) fun fs' => fs'.length < 1000 ∧ List.lookup ("block" : Str) (putFD "spot" z_1 fs') = none ∧
          ph_ProgramReader_block n [.ref p, .int ((d : Int) + 1)] (mset m3 p (.ins "ProgramReader" (putFD "spot" z_1 fs'))) (fun d m1 => ∃ m'', MLe m'' m1 ∧ k (.tup [.str "repeat", optN (some z), d]) m'') fun e m' => ∃ m'', MLe m'' m' ∧ x e m'') := fun z h4 h => by
    rw [if_neg (by simp [optN])]
    show oGt (.int (z : Int)) _ _ _
    walk_at "vc"
    rw [if_neg (by omega), lk_spot, onO_1]
    walk_at "vc"
    rw [pt_spot]
    refine ⟨by show 2 < 1000; decide, lb (i + 2), ?_⟩
    rw [tw] at h
    exact h
  cases hr with
  | odd h =>
    simp only [List.mem_cons, List.not_mem_nil, or_false, not_or] at h
    obtain ⟨h1, h2, h3, h4, h5⟩ := h
    rw [set_S, any_S, chk_S, eit_S, rep_S, if_neg (fun z => h1 (S_inj z)), if_neg (fun z => h2 (S_inj z)), if_neg (fun z => h3 (S_inj z)), if_neg (fun z => h4 (S_inj z)), if_neg (fun z => h5 (S_inj z)), lk_spot, onO_1]
    walk_at "vc"
    rw [show ((i + 1 : Nat) : Int) - 1 = (i : Int) by omega]
    exact ⟨_, MLe.refl _, hx i rfl (i + 1)⟩
  | any0 h h2 =>
    rw [h, if_neg (by decide +kernel), if_pos (by decide +kernel)]
    refine ⟨lp _, p, W, i + 1, rfl, m1, hw, fun _ => ⟨_, MLe.refl _, ?_⟩, fun e => by rw [h2] at e; cases e⟩
    rw [tw]
    exact hx _ rfl _
  | any1 h h2 =>
    rw [h, if_neg (by decide +kernel), if_pos (by decide +kernel)]
    refine ⟨lp _, p, W, i + 1, rfl, m1, hw, (fun e => by rw [h2] at e; cases e), fun _ => ⟨_, MLe.refl _, ?_⟩⟩
    rw [tw]
    exact hk _ _ rfl _ rfl
  | rep0 h h2 =>
    rw [h, if_neg (by decide +kernel), if_neg (by decide +kernel), if_neg (by decide +kernel), if_neg (by decide +kernel), if_pos (by decide +kernel)]
    refine ⟨lh _, p, W, i + 1, rfl, m1, hw, hereW W (i + 1), rfl, by have := hw.here (i + 1); omega, ?_⟩
    have bad : ∃ m'', MLe m'' (mset m p (.ins "ProgramReader" (prF W (i + 1)))) ∧ x (exX "ParseError" "at" (.int ((i + 1 : Nat) : Int))) m'' := ⟨_, MLe.refl _, hx _ rfl _⟩
    cases hl : wholeL (hereW W (i + 1)) with
    | none =>
      show (if (match optN none with | D.non => true | D.oth V.non => true | _ => false) = true then _ else _)
      rw [if_pos (by rfl), m1, insO_1, onO_1, lk_spot, onO_1]
      exact bad
    | some z =>
      have := h2 z hl
      show (if (match optN (some z) with | D.non => true | D.oth V.non => true | _ => false) = true then _ else _)
      rw [if_neg (by simp [optN])]
      show oGt (.int (z : Int)) _ _ _
      walk_at "vc"
      rw [if_pos (by omega), lk_spot, onO_1]
      exact bad
  | rep1 h hl h4 hb =>
    rename_i z j
    rw [h, if_neg (by decide +kernel), if_neg (by decide +kernel), if_neg (by decide +kernel), if_neg (by decide +kernel), if_pos (by decide +kernel)]
    refine ⟨lh _, p, W, i + 1, rfl, m1, hw, hereW W (i + 1), rfl, by have := hw.here (i + 1); omega, ?_⟩
    rw [hl]
    refine rep z h4 ?_
    refine blk _ (i + 2) _ _ _ mset_same hb ⟨fun j' e i' => ⟨_, MLe.refl _, ?_⟩, (fun _ _ e => by cases e)⟩
    cases e
    rw [tw, tw]
    exact hx _ rfl _
  | rep2 h hl h4 hb =>
    rename_i z i' xs
    rw [h, if_neg (by decide +kernel), if_neg (by decide +kernel), if_neg (by decide +kernel), if_neg (by decide +kernel), if_pos (by decide +kernel)]
    refine ⟨lh _, p, W, i + 1, rfl, m1, hw, hereW W (i + 1), rfl, by have := hw.here (i + 1); omega, ?_⟩
    rw [hl]
    refine rep z h4 ?_
    refine blk _ (i + 2) _ _ _ mset_same hb ⟨(fun _ e => by cases e), fun es i2 e => ⟨_, MLe.refl _, ?_⟩⟩
    cases e
    rw [tw, tw]
    exact hk _ _ rfl _ rfl
  | eit0 h hb =>
    rw [h, if_neg (by decide +kernel), if_neg (by decide +kernel), if_neg (by decide +kernel), if_pos (by decide +kernel)]
    refine ⟨lb _, blk _ (i + 1) _ _ _ m1 hb ⟨fun j' e i' => ⟨_, MLe.refl _, ?_⟩, (fun _ _ e => by cases e)⟩⟩
    cases e
    rw [tw]
    exact hx _ rfl _
  | eit1 h hb ho =>
    rename_i i' xs
    rw [h, if_neg (by decide +kernel), if_neg (by decide +kernel), if_neg (by decide +kernel), if_pos (by decide +kernel)]
    refine ⟨lb _, blk _ (i + 1) _ _ _ m1 hb ⟨(fun _ e => by cases e), fun es i2 e => ?_⟩⟩
    cases e
    rw [mset_same, insO_1, onO_1]
    refine ⟨le _, ex _ i' _ _ _ mset_same (fun _ => ⟨_, MLe.refl _, ?_⟩) fun e => absurd e ho⟩
    rw [tw]
    exact hx _ rfl _
  | eit2 h hb ho hb2 =>
    rename_i i' j xs
    rw [h, if_neg (by decide +kernel), if_neg (by decide +kernel), if_neg (by decide +kernel), if_pos (by decide +kernel)]
    refine ⟨lb _, blk _ (i + 1) _ _ _ m1 hb ⟨(fun _ e => by cases e), fun es i2 e => ?_⟩⟩
    cases e
    rw [mset_same, insO_1, onO_1]
    refine ⟨le _, ex _ i' _ _ _ mset_same (fun e => absurd ho e) fun _ => ?_⟩
    rw [mset_same, insO_1, onO_1]
    refine ⟨lb _, blk _ (i' + 1) _ _ _ mset_same hb2 ⟨fun j' e i3 => ⟨_, MLe.refl _, ?_⟩, (fun _ _ e => by cases e)⟩⟩
    cases e
    rw [tw, tw, tw]
    exact hx _ rfl _
  | eit3 h hb ho hb2 =>
    rename_i i' i2 xs ys
    rw [h, if_neg (by decide +kernel), if_neg (by decide +kernel), if_neg (by decide +kernel), if_pos (by decide +kernel)]
    refine ⟨lb _, blk _ (i + 1) _ _ _ m1 hb ⟨(fun _ e => by cases e), fun es i2 e => ?_⟩⟩
    cases e
    rw [mset_same, insO_1, onO_1]
    refine ⟨le _, ex _ i' _ _ _ mset_same (fun e => absurd ho e) fun _ => ?_⟩
    rw [mset_same, insO_1, onO_1]
    refine ⟨lb _, blk _ (i' + 1) _ _ _ mset_same hb2 ⟨(fun _ e => by cases e), fun es i3 e => ⟨_, MLe.refl _, ?_⟩⟩⟩
    cases e
    rw [tw, tw, tw]
    exact hk _ _ rfl _ rfl

/-! ### nested program texts (plain) -/
theorem here_cons {W : List Nm} {i : Nat} {w : Nm} {r : List Nm} (h : W.drop i = w :: r) : hereW W i = w := by
  unfold hereW
  rw [List.getD_eq_getElem?_getD]
  have : (W.drop i)[0]? = W[i]? := by rw [List.getElem?_drop, Nat.add_zero]
  rw [← this, h]; rfl
theorem here_nil {W : List Nm} {i : Nat} (h : W.drop i = []) : hereW W i = [] := hereW_ge (by rw [List.drop_eq_nil_iff] at h; exact h)
theorem dropA {W u r : List Nm} {i : Nat} (h : W.drop i = u ++ r) : W.drop (i + u.length) = r := by
  rw [← List.drop_drop, h, List.drop_left]
/-- the words behind are none, or a closing brace stands there -/
def Cl (post : List Nm) : Prop := post = [] ∨ ∃ q, post = [125] :: q
def Good (ds : List D) (ws : List Nm) (d : Nat) : Prop := ∀ (W : List Nm) (i : Nat) (post : List Nm), W.drop i = ws ++ post → Cl post → RdP W .sts d i (.ok (ds, i + ws.length))
def Bad (ws : List Nm) (j d : Nat) : Prop := ∀ (W : List Nm) (i : Nat) (post : List Nm), W.drop i = ws ++ post → RdP W .sts d i (.error (i + j))
theorem cl_end {W : List Nm} {i : Nat} {post : List Nm} (h : W.drop i = post) (c : Cl post) : endW (hereW W i) := by
  rcases c with rfl | ⟨q, rfl⟩
  · exact .inl (here_nil h)
  · exact .inr (here_cons h)
theorem good_nil (d : Nat) : Good [] [] d := fun W i post h c => .nil (cl_end (by simpa using h) c)
/-- one statement alone -/
theorem good_one {W : List Nm} {i i' d : Nat} {x : D} {post : List Nm} (hn : ¬ endW (hereW W i)) (hs : RdP W .st d i (.ok ([x], i'))) (h : W.drop i' = post) (c : Cl post) : RdP W .sts d i (.ok ([x], i')) := .cons hn hs (.nil (cl_end h c))
abbrev anyW : Nm := [97, 110, 121]
abbrev eitW : Nm := [101, 105, 116, 104, 101, 114]
abbrev repW : Nm := [114, 101, 112, 101, 97, 116]
abbrev orW : Nm := [111, 114]
abbrev oB : Nm := [123]
abbrev cB' : Nm := [125]
abbrev anyD (w : Nm) : D := .tup [.str "any", .str (S w)]
abbrev repD (n : Nat) (ds : List D) : D := .tup [.str "repeat", .int (n : Int), .tup ds]
abbrev eitD (xs ys : List D) : D := .tup [.str "either", .tup xs, .tup ys]
theorem good_any {w : Nm} (hw : plN w = true) (d : Nat) : Good [anyD w] [anyW, w] d := fun W i post h c => by
  have h0 : hereW W i = anyW := here_cons h
  have h1 : W.drop (i + 1) = w :: post := dropA (u := [anyW]) h
  have h2 : W.drop (i + 2) = post := dropA (u := [anyW, w]) h
  have e := here_cons h1
  have s := RdP.any1 (d := d) h0 (by rw [e]; exact hw)
  rw [e] at s
  exact good_one (by rw [h0]; decide) s h2 c
/-- a block -/
theorem blk_good {W : List Nm} {i d : Nat} {ds : List D} {ws r : List Nm} (g : Good ds ws d) (hd : d ≤ 4) (h : W.drop i = oB :: (ws ++ cB' :: r)) : RdP W .blk d i (.ok (ds, i + 1 + ws.length + 1)) ∧ W.drop (i + 1 + ws.length + 1) = r := by
  have h1 : W.drop (i + 1) = ws ++ cB' :: r := dropA (u := [oB]) h
  have h2 : W.drop (i + 1 + ws.length) = cB' :: r := dropA h1
  have h3 : W.drop (i + 1 + ws.length + 1) = r := dropA (u := [cB']) h2
  exact ⟨.blk hd (here_cons h) (g W (i + 1) _ h1 (.inr ⟨r, rfl⟩)) (here_cons h2), h3⟩
theorem blk_bad {W : List Nm} {i d j : Nat} {ws r : List Nm} (g : Bad ws j d) (hd : d ≤ 4) (h : W.drop i = oB :: (ws ++ r)) : RdP W .blk d i (.error (i + 1 + j)) := .in_ hd (here_cons h) (g W (i + 1) r (dropA (u := [oB]) h))
theorem two_w : wholeL [50] = some 2 := by decide +kernel
theorem good_rep {ds : List D} {ws : List Nm} {d : Nat} (hd : d + 1 ≤ 4) (g : Good ds ws (d + 1)) : Good [repD 2 ds] ([repW, [50], oB] ++ ws ++ [cB']) d := fun W i post h c => by
  have h : W.drop i = [repW, [50]] ++ (oB :: (ws ++ cB' :: post)) := by rw [h]; simp
  have h0 : hereW W i = repW := here_cons h
  have h1 : W.drop (i + 1) = [50] :: (oB :: (ws ++ cB' :: post)) := dropA (u := [repW]) h
  have h2 : W.drop (i + 2) = oB :: (ws ++ cB' :: post) := dropA h
  obtain ⟨b, h3⟩ := blk_good g hd h2
  have s := RdP.rep2 h0 (by rw [here_cons h1]; exact two_w) (by decide) b
  have e : i + ([repW, [50], oB] ++ ws ++ [cB']).length = i + 2 + 1 + ws.length + 1 := by simp; omega
  rw [e]
  exact good_one (by rw [h0]; decide) s h3 c
theorem good_e1 {ds : List D} {ws : List Nm} {d : Nat} (hd : d + 1 ≤ 4) (g : Good ds ws (d + 1)) : Good [eitD ds []] ([eitW, oB] ++ ws ++ [cB', orW, oB, cB']) d := fun W i post h c => by
  have h : W.drop i = [eitW] ++ (oB :: (ws ++ cB' :: ([orW] ++ (oB :: ([] ++ cB' :: post))))) := by rw [h]; simp
  have h0 : hereW W i = eitW := here_cons h
  have h1 : W.drop (i + 1) = oB :: (ws ++ cB' :: ([orW] ++ (oB :: ([] ++ cB' :: post)))) := dropA h
  obtain ⟨b, h2⟩ := blk_good g hd h1
  have h3 := dropA h2
  obtain ⟨b2, h4⟩ := blk_good (good_nil (d + 1)) hd h3
  have s := RdP.eit3 h0 b (here_cons h2) b2
  have e : i + ([eitW, oB] ++ ws ++ [cB', orW, oB, cB']).length = i + 1 + 1 + ws.length + 1 + 1 + 1 + 0 + 1 := by simp; omega
  rw [e]
  exact good_one (by rw [h0]; decide) s h4 c
theorem good_e2 {ds : List D} {ws : List Nm} {d : Nat} (hd : d + 1 ≤ 4) (g : Good ds ws (d + 1)) : Good [eitD [] ds] ([eitW, oB, cB', orW, oB] ++ ws ++ [cB']) d := fun W i post h c => by
  have h : W.drop i = [eitW] ++ (oB :: ([] ++ cB' :: ([orW] ++ (oB :: (ws ++ cB' :: post))))) := by rw [h]; simp
  have h0 : hereW W i = eitW := here_cons h
  have h1 : W.drop (i + 1) = oB :: ([] ++ cB' :: ([orW] ++ (oB :: (ws ++ cB' :: post)))) := dropA h
  obtain ⟨b, h2⟩ := blk_good (good_nil (d + 1)) hd h1
  have h3 := dropA h2
  obtain ⟨b2, h4⟩ := blk_good g hd h3
  have s := RdP.eit3 h0 b (here_cons h2) b2
  have e : i + ([eitW, oB, cB', orW, oB] ++ ws ++ [cB']).length = i + 1 + 1 + 0 + 1 + 1 + 1 + ws.length + 1 := by simp; omega
  rw [e]
  exact good_one (by rw [h0]; decide) s h4 c
theorem bad_rep {ws z : List Nm} {j d : Nat} (hd : d + 1 ≤ 4) (g : Bad ws j (d + 1)) : Bad ([repW, [50], oB] ++ ws ++ z) (3 + j) d := fun W i post h => by
  have h : W.drop i = [repW, [50]] ++ (oB :: (ws ++ (z ++ post))) := by rw [h]; simp
  have h0 : hereW W i = repW := here_cons h
  have h1 : W.drop (i + 1) = [50] :: (oB :: (ws ++ (z ++ post))) := dropA (u := [repW]) h
  have h2 : W.drop (i + 2) = oB :: (ws ++ (z ++ post)) := dropA h
  rw [show i + (3 + j) = i + 2 + 1 + j by omega]
  exact .bad (by rw [h0]; decide) (.rep1 h0 (by rw [here_cons h1]; exact two_w) (by decide) (blk_bad g hd h2))
theorem bad_e1 {ws z : List Nm} {j d : Nat} (hd : d + 1 ≤ 4) (g : Bad ws j (d + 1)) : Bad ([eitW, oB] ++ ws ++ z) (2 + j) d := fun W i post h => by
  have h : W.drop i = [eitW] ++ (oB :: (ws ++ (z ++ post))) := by rw [h]; simp
  have h0 : hereW W i = eitW := here_cons h
  have h1 : W.drop (i + 1) = oB :: (ws ++ (z ++ post)) := dropA h
  rw [show i + (2 + j) = i + 1 + 1 + j by omega]
  exact .bad (by rw [h0]; decide) (.eit0 h0 (blk_bad g hd h1))
theorem bad_e2 {ws z : List Nm} {j d : Nat} (hd : d + 1 ≤ 4) (g : Bad ws j (d + 1)) : Bad ([eitW, oB, cB', orW, oB] ++ ws ++ z) (5 + j) d := fun W i post h => by
  have h : W.drop i = [eitW] ++ (oB :: ([] ++ cB' :: ([orW] ++ (oB :: (ws ++ (z ++ post)))))) := by rw [h]; simp
  have h0 : hereW W i = eitW := here_cons h
  have h1 : W.drop (i + 1) = oB :: ([] ++ cB' :: ([orW] ++ (oB :: (ws ++ (z ++ post))))) := dropA h
  obtain ⟨b, h2⟩ := blk_good (good_nil (d + 1)) hd h1
  have h3 := dropA h2
  rw [show i + (5 + j) = i + 1 + 1 + 0 + 1 + 1 + 1 + j by omega]
  exact .bad (by rw [h0]; decide) (.eit2 h0 b (here_cons h2) (blk_bad g hd h3))
/-- five deep -/
theorem bad_rep4 (z : List Nm) : Bad ([repW, [48], oB] ++ z) 2 4 := fun W i post h => by
  have h : W.drop i = repW :: ([48] :: oB :: (z ++ post)) := by rw [h]; simp
  have h0 : hereW W i = repW := here_cons h
  have h1 : W.drop (i + 1) = [48] :: (oB :: (z ++ post)) := dropA (u := [repW]) h
  exact .bad (by rw [h0]; decide) (.rep1 h0 (by rw [here_cons h1]; exact (by decide +kernel : wholeL [48] = some 0)) (by decide) (.deep (by decide)))
theorem bad_eit4 (z : List Nm) : Bad ([eitW, oB] ++ z) 1 4 := fun W i post h => by
  have h : W.drop i = eitW :: (oB :: (z ++ post)) := by rw [h]; simp
  have h0 : hereW W i = eitW := here_cons h
  exact .bad (by rw [h0]; decide) (.eit0 h0 (.deep (by decide)))
/-! words and texts -/
def flA (ws : List Nm) : List Nat := (ws.map (· ++ [32])).flatten
def flB (ws : List Nm) : List Nat := (ws.map ([32] ++ ·)).flatten
theorem flA_app (a b : List Nm) : flA (a ++ b) = flA a ++ flA b := by unfold flA; simp
theorem flB_app (a b : List Nm) : flB (a ++ b) = flB a ++ flB b := by unfold flB; simp
theorem join_B (w : Nm) : ∀ b : List Nm, TL.joinL [32] (w :: b) = w ++ flB b
  | [] => by simp [TL.joinL, flB]
  | v :: b => by
    show w ++ ([32] ++ TL.joinL [32] (v :: b)) = _
    rw [join_B v b]
    simp [flB]
theorem join_A (w : Nm) (b : List Nm) : ∀ a : List Nm, TL.joinL [32] (a ++ (w :: b)) = flA a ++ (w ++ flB b)
  | [] => by rw [List.nil_append, join_B]; simp [flA]
  | v :: a => by
    have ih := join_A w b a
    obtain ⟨u, r, e⟩ : ∃ u r, a ++ (w :: b) = u :: r := by cases a with
      | nil => exact ⟨w, b, rfl⟩
      | cons u r => exact ⟨u, r ++ (w :: b), rfl⟩
    rw [List.cons_append, e]
    show v ++ ([32] ++ TL.joinL [32] (u :: r)) = _
    rw [← e, ih]
    simp [flA]
theorem spl_W {ws : List Nm} (h0 : ws ≠ []) (h : ∀ w ∈ ws, (32 : Nat) ∉ w) : TL.spl [32] 0 [] (TL.joinL [32] ws) = ws := TL.spl_join h0 h

/-! ### k70 -/
def ph_read_program : PX := fun ds m k x => ∃ (l : List Nat) (W : List Nm) (r : Except Nat (List D × Nat)), ds = [.str (S l)] ∧ l ≠ [] ∧ l.length ≤ 100000 ∧ TL.spl [32] 0 [] l = W ∧ WOk W ∧ RdP W .sts 0 0 r ∧ (∀ j, r = .error j → x (exX "ParseError" "at" (.int (j : Int))) m) ∧
  ∀ es i, r = .ok (es, i) → (i < W.length → x (exX "ParseError" "at" (.int (i : Int))) m) ∧ (W.length ≤ i → k (.tup es) m)
theorem l_read_program : ∀ ds m k x, ph_read_program ds m k x → ds.length = 1 := by rintro _ m k x ⟨_, _, _, rfl, _⟩; rfl
/- def read_program, slots 0 text 1 reader 2 found -/
@[reducible] def v_read_program : VS :=
  (vSeq (vIfS (tV (vOp oEq (vVar 0) (vC (.str "")))) (vRet (vTup vNil)) vNext)
    (vSeq (vSet 1 (vMake "ProgramReader" ph_ProgramReader___init__ (vCons (vBM "str" oSplit (vVar 0) (vCons (vC (.str " ")) vNil)) vNil)))
    (vSeq (vSet 2 (vMethX "ProgramReader" "statements" (ph_ProgramReader_statements 5) (vVar 1) (vCons (vC (.int 0)) vNil)))
    (vSeq (vIfS (tV (vOp oLt (vFld "ProgramReader" "spot" (vVar 1)) (vCB oLen (vCons (vFld "ProgramReader" "source" (vVar 1)) vNil)))) (vRaise1 "ParseError" "at" "tag" "ParseError" (vFld "ProgramReader" "spot" (vVar 1))) vNext)
    (vRet (vVar 2))))))
@[reducible] def v_law_b1 (Pt : Addr) : VS :=
  (vSeq (vSet 7 (vCall ph__law_draw (vCons (vVar 1) (vCons (vC (.int 3)) vNil))))
    (vSeq (vSet 3 (vOp oAdd (vOp oIx (vLst (vCons (vC (.str "repeat 2 { ")) (vCons (vC (.str "either { ")) (vCons (vC (.str "either { } or { ")) vNil)))) (vVar 7)) (vVar 3)))
    (vSeq (vSet 4 (vOp oAdd (vVar 4) (vOp oIx (vLst (vCons (vC (.str " }")) (vCons (vC (.str " } or { }")) (vCons (vC (.str " }")) vNil)))) (vVar 7))))
    (vSet 5 (vTup (vCons (vOp oIx (vLst (vCons (vTup (vCons (vC (.str "repeat")) (vCons (vC (.int 2)) (vCons (vVar 5) vNil)))) (vCons (vTup (vCons (vC (.str "either")) (vCons (vVar 5) (vCons (vTup vNil) vNil)))) (vCons (vTup (vCons (vC (.str "either")) (vCons (vTup vNil) (vCons (vVar 5) vNil)))) vNil)))) (vVar 7)) vNil))))))
@[reducible] def v_law_b2 (Pt : Addr) : VS :=
  (vSeq (vAsg (vTup (vCons (vC (.str "")) (vCons (vC (.str "")) (vCons (vTup (vCons (vTup (vCons (vC (.str "any")) (vCons (vC (.str "x")) vNil))) vNil)) vNil)))) (gTp 3 (gCn (gN 3) (gCn (gN 4) (gCn (gN 5) gNl)))))
    (vSeq (vFor (vRng1 (vCons (vC (.int 4)) vNil)) (gN 6) (v_law_b1 Pt))
    (vSeq (vIfS (vNot (tV (vCall (ph__law_same 12) (vCons (vCallX ph_read_program (vCons (vOp oAdd (vOp oAdd (vVar 3) (vC (.str "any x"))) (vVar 4)) vNil)) (vCons (vVar 5) vNil))))) (vRet (vC (.bl false))) vNext)
    (vSeq (vSet 8 (vCall ph__law_any (vCons (vVar 1) (vCons (vLst (vCons (vC (.str "repeat 0 { any x }")) (vCons (vC (.str "either { any x } or { }")) vNil))) vNil))))
    (vSeq (vSet 9 (vOp oAdd (vOp oSub (vCB oLen (vCons (vBM "str" oSplit (vVar 3) (vCons (vC (.str " ")) vNil)) vNil)) (vC (.int 1))) (vIf (tV (vOp oEq (vSl (vVar 8) vNoP (vP (vC (.int 6)))) (vC (.str "repeat")))) (vC (.int 2)) (vC (.int 1)))))
    (vIfS (tV (vOp oNe (vLam Pt (lamQ "law") 3 (vCallX ph_read_program (vCons (vOp oAdd (vOp oAdd (vVar 3) (vVar 8)) (vVar 4)) vNil)) v__law_why) (vTup (vCons (vC (.str "ParseError")) (vCons (vVar 9) vNil))))) (vRet (vC (.bl false))) vNext))))))
/- def law, slots 0 _law_script 1 _law_feed_here 2 _law_turn 3 _law_ahead 4 _law_behind 5 _law_due 6 _law_level 7 _law_way 8 _law_wrong 9 _law_at -/
@[reducible] def v_law (Pt : Addr) : VS :=
  (vSeq (vSet 1 (vCall ph__law_feed (vCons (vVar 0) vNil)))
    (vSeq (vFor (vRng1 (vCons (vC (.int 4)) vNil)) (gN 2) (v_law_b2 Pt))
    (vRet (vC (.bl true)))))


theorem w_read_program : ∀ ds m k x, ph_read_program ds m k x → v_read_program (dstart 3 ds) m (endX k x) := by
  rintro _ m k x ⟨l, W, r, rfl, hl, ll, rfl, hw, hr, hx, hk⟩
  generalize hW : TL.spl [32] 0 [] l = W at hw hr hk
  have sp : (" " : Str) = S [32] := by decide +kernel
  unfold v_read_program
  rw [emp_S, sp]
  walk_at "vc"
  rw [if_neg (fun z => hl (S_inj z))]
  refine ⟨l, [32], rfl, rfl, by simp, by decide, by omega, ?_⟩
  rw [hW]
  intro p hp
  have back : ∀ o, MLe m (mset m p o) := fun o => mle_new hp
  refine ⟨p, W, rfl, mset_same, rfl, ?_⟩
  rw [mset_mset]
  have p1 : ∀ o, mset m p o p = some o := fun o => mset_same
  rw [p1, insO_1, onO_1]
  refine ⟨lk_noP (by decide +kernel) (by decide +kernel), p, W, 0, 0, r, rfl, mset_same, hw, by decide, by decide, hr, fun j e i' => ⟨m, ?_, hx j e⟩, fun es i e => ?_⟩
  · rw [mset_mset]; exact back _
  · obtain ⟨h1, h2⟩ := hk es i e
    rw [mset_mset]
    walk_at "vc"
    rw [lk_spot, onO_1, lk_source, onO_1]
    walk_at "vc"
    rw [List.length_map]
    refine itP (fun h => ?_) fun h => ⟨m, back _, h2 (by omega)⟩
    rw [lk_spot, onO_1]
    exact ⟨m, back _, h1 (by omega)⟩
/-- words of the texts -/
def wd8 (w : Nm) : Bool := decide (w.length ≤ 8) && (!w.contains 32 && w.all fun c => decide (c < 256))
structure Lv (k : Nat) (a b : List Nm) (ds : List D) : Prop where
  la : a.length ≤ 5 * k
  lb : b.length ≤ 4 * k
  wa : ∀ w ∈ a, wd8 w = true
  wb : ∀ w ∈ b, wd8 w = true
  good : Good ds (a ++ [anyW, [120]] ++ b) (4 - k)
  bad : ∀ c j, Bad c j 4 → Bad (a ++ c ++ b) (a.length + j) (4 - k)
  pl : ∃ d, ds = [d] ∧ Pl (2 * k + 1) d
theorem fl_len {ws : List Nm} (h : ∀ w ∈ ws, wd8 w = true) : (flA ws).length ≤ 9 * ws.length ∧ (flB ws).length ≤ 9 * ws.length := by
  induction ws with
  | nil => exact ⟨Nat.le_refl 0, Nat.le_refl 0⟩
  | cons w ws ih =>
    obtain ⟨i1, i2⟩ := ih fun x hx => h x (List.mem_cons_of_mem _ hx)
    have h0 := h w List.mem_cons_self
    unfold wd8 at h0
    simp only [Bool.and_eq_true, decide_eq_true_eq] at h0
    have h1 := h0.1
    unfold flA flB at *
    simp only [List.map_cons, List.flatten_cons, List.length_append, List.length_cons, List.length_nil]
    omega
theorem wd_ok {ws : List Nm} (h : ∀ w ∈ ws, wd8 w = true) (hl : ws.length ≤ 1000) : WOk ws := ⟨by omega, fun w hw => by
  have h0 := h w hw
  unfold wd8 at h0
  simp only [Bool.and_eq_true, decide_eq_true_eq] at h0
  omega⟩
theorem wd_sp {ws : List Nm} (h : ∀ w ∈ ws, wd8 w = true) : ∀ w ∈ ws, (32 : Nat) ∉ w := fun w hw => by
  have h0 := h w hw
  unfold wd8 at h0
  simp only [Bool.and_eq_true, Bool.not_eq_true'] at h0
  exact fun z => by have := h0.2.1; rw [List.contains_iff_mem.mpr z] at this; cases this
theorem lv_0 : Lv 0 [] [] [anyD [120]] := ⟨by decide, by decide, by simp, by simp, good_any (by decide +kernel) 4, fun c j h => by simpa using h, _, rfl, by
  refine ⟨by simp, fun e he => ?_⟩
  simp only [List.mem_cons, List.not_mem_nil, or_false] at he
  rcases he with rfl | rfl <;> trivial⟩
theorem pl_mono : ∀ {n : Nat} {d : D}, Pl n d → Pl (n + 1) d
  | n, .non, _ => by cases n <;> trivial
  | n, .bl _, _ => by cases n <;> trivial
  | n, .int _, _ => by cases n <;> trivial
  | n, .str _, _ => by cases n <;> trivial
  | n + 1, .lst ds, h => ⟨h.1, fun d hd => pl_mono (h.2 d hd)⟩
  | n + 1, .tup ds, h => ⟨h.1, fun d hd => pl_mono (h.2 d hd)⟩
  | 0, .lst _, h => h.elim
  | 0, .tup _, h => h.elim
  | n, .pr _, h => by cases n <;> exact h.elim
  | n, .dic _, h => by cases n <;> exact h.elim
  | n, .dit _, h => by cases n <;> exact h.elim
  | n, .obj _ _, h => by cases n <;> exact h.elim
  | n, .feed, h => by cases n <;> exact h.elim
  | n, .lat _ _, h => by cases n <;> exact h.elim
  | n, .ref _, h => by cases n <;> exact h.elim
  | n, .exn _ _ _, h => by cases n <;> exact h.elim
  | n, .clo _ _ _ _ _, h => by cases n <;> exact h.elim
  | n, .oth _, h => by cases n <;> exact h.elim
theorem pl_le {n k : Nat} {d : D} (h : Pl n d) (hk : n ≤ k) : Pl k d := by
  obtain ⟨j, rfl⟩ := Nat.exists_eq_add_of_le hk
  induction j with
  | zero => exact h
  | succ j ih => exact pl_mono (ih (by omega))
theorem wd_app {a b : List Nm} (h : ∀ w ∈ a, wd8 w = true) (h2 : ∀ w ∈ b, wd8 w = true) : ∀ w ∈ a ++ b, wd8 w = true := fun w hw => (List.mem_append.mp hw).elim (h w) (h2 w)
theorem pl_in {n : Nat} {ds : List D} (h : ∃ d, ds = [d] ∧ Pl n d) : Pl (n + 1) (.tup ds) := by
  obtain ⟨d, rfl, h⟩ := h
  exact ⟨by simp, fun e he => by rw [List.mem_singleton] at he; rw [he]; exact h⟩
theorem pl_nil (n : Nat) : Pl (n + 1) (.tup []) := ⟨by simp, by simp⟩
theorem lv_rep {k : Nat} {a b : List Nm} {ds : List D} (h : Lv k a b ds) (hk : k < 4) : Lv (k + 1) ([repW, [50], oB] ++ a) (b ++ [cB']) [repD 2 ds] := by
  have e : 4 - k = (4 - (k + 1)) + 1 := by omega
  refine ⟨by have := h.la; simp; omega, by have := h.lb; simp; omega, wd_app (by decide) h.wa, wd_app h.wb (by decide), ?_, fun c j hc => ?_, _, rfl, ⟨by simp, fun x hx => ?_⟩⟩
  · have := good_rep (d := 4 - (k + 1)) (by omega) (by rw [← e]; exact h.good)
    simpa using this
  · have := bad_rep (z := [cB']) (d := 4 - (k + 1)) (by omega) (by rw [← e]; exact h.bad c j hc)
    have e2 : ([repW, [50], oB] ++ a).length + j = 3 + (a.length + j) := by simp; omega
    rw [e2]
    simpa using this
  · simp only [List.mem_cons, List.not_mem_nil, or_false] at hx
    rcases hx with rfl | rfl | rfl
    · trivial
    · trivial
    · exact pl_in h.pl
theorem lv_e1 {k : Nat} {a b : List Nm} {ds : List D} (h : Lv k a b ds) (hk : k < 4) : Lv (k + 1) ([eitW, oB] ++ a) (b ++ [cB', orW, oB, cB']) [eitD ds []] := by
  have e : 4 - k = (4 - (k + 1)) + 1 := by omega
  refine ⟨by have := h.la; simp; omega, by have := h.lb; simp; omega, wd_app (by decide) h.wa, wd_app h.wb (by decide), ?_, fun c j hc => ?_, _, rfl, ⟨by simp, fun x hx => ?_⟩⟩
  · have := good_e1 (d := 4 - (k + 1)) (by omega) (by rw [← e]; exact h.good)
    simpa using this
  · have := bad_e1 (z := [cB', orW, oB, cB']) (d := 4 - (k + 1)) (by omega) (by rw [← e]; exact h.bad c j hc)
    have e2 : ([eitW, oB] ++ a).length + j = 2 + (a.length + j) := by simp; omega
    rw [e2]
    simpa using this
  · simp only [List.mem_cons, List.not_mem_nil, or_false] at hx
    rcases hx with rfl | rfl | rfl
    · trivial
    · exact pl_in h.pl
    · exact pl_nil _
theorem lv_e2 {k : Nat} {a b : List Nm} {ds : List D} (h : Lv k a b ds) (hk : k < 4) : Lv (k + 1) ([eitW, oB, cB', orW, oB] ++ a) (b ++ [cB']) [eitD [] ds] := by
  have e : 4 - k = (4 - (k + 1)) + 1 := by omega
  refine ⟨by have := h.la; simp; omega, by have := h.lb; simp; omega, wd_app (by decide) h.wa, wd_app h.wb (by decide), ?_, fun c j hc => ?_, _, rfl, ⟨by simp, fun x hx => ?_⟩⟩
  · have := good_e2 (d := 4 - (k + 1)) (by omega) (by rw [← e]; exact h.good)
    simpa using this
  · have := bad_e2 (z := [cB']) (d := 4 - (k + 1)) (by omega) (by rw [← e]; exact h.bad c j hc)
    have e2 : ([eitW, oB, cB', orW, oB] ++ a).length + j = 5 + (a.length + j) := by simp; omega
    rw [e2]
    simpa using this
  · simp only [List.mem_cons, List.not_mem_nil, or_false] at hx
    rcases hx with rfl | rfl | rfl
    · trivial
    · exact pl_nil _
    · exact pl_in h.pl
/-- a text of words is read -/
theorem read_ws {ws : List Nm} {r : Except Nat (List D × Nat)} {m : Mem} {k : KD} {x : KX} (h0 : ws ≠ []) (h1 : ws.length ≤ 1000) (hw : ∀ w ∈ ws, wd8 w = true) (hj : (TL.joinL [32] ws).length ≤ 100000) (hne : TL.joinL [32] ws ≠ []) (hr : RdP ws .sts 0 0 r)
    (hx : ∀ j, r = .error j → x (exX "ParseError" "at" (.int (j : Int))) m) (hk : ∀ es i, r = .ok (es, i) → (i < ws.length → x (exX "ParseError" "at" (.int (i : Int))) m) ∧ (ws.length ≤ i → k (.tup es) m)) : ph_read_program [.str (S (TL.joinL [32] ws))] m k x :=
  ⟨_, ws, r, rfl, hne, hj, spl_W h0 (wd_sp hw), wd_ok hw h1, hr, hx, hk⟩
theorem t_rep : ("repeat 2 { " : Str) = S (flA [repW, [50], oB]) := by decide +kernel
theorem t_e1 : ("either { " : Str) = S (flA [eitW, oB]) := by decide +kernel
theorem t_e2 : ("either { } or { " : Str) = S (flA [eitW, oB, cB', orW, oB]) := by decide +kernel
theorem t_c : (" }" : Str) = S (flB [cB']) := by decide +kernel
theorem t_c1 : (" } or { }" : Str) = S (flB [cB', orW, oB, cB']) := by decide +kernel
theorem t_ax : ("any x" : Str) = S (anyW ++ flB [[120]]) := by decide +kernel
theorem t_w1 : ("repeat 0 { any x }" : Str) = S (repW ++ flB [[48], oB, anyW, [120], cB']) := by decide +kernel
theorem t_w2 : ("either { any x } or { }" : Str) = S (eitW ++ flB [oB, anyW, [120], cB', orW, oB, cB']) := by decide +kernel
theorem wc_ne {c : Nm} {r : List Nm} {j d : Nat} (h : Bad (c :: r) j d) : c ≠ [] := fun z => by
  subst z
  have := h ([] :: r) 0 [] (by simp)
  cases this with
  | bad hn _ => exact hn (.inl (here_cons rfl))
  | more hn _ _ => exact hn (.inl (here_cons rfl))
section
variable {Pt : Addr}
theorem w_lev {sc x2 x6 x7 x8 x9 : Option D} {m : Mem} {G : DE} {k : Nat} {a b : List Nm} {ds : List D} (h : Lv k a b ds) (hk : k < 4)
    (hG : ∀ a b ds x7, Lv (k + 1) a b ds → G.nx [sc, some .feed, x2, some (.str (S (flA a))), some (.str (S (flB b))), some (.tup ds), x6, x7, x8, x9] m) :
    v_law_b1 Pt [sc, some .feed, x2, some (.str (S (flA a))), some (.str (S (flB b))), some (.tup ds), x6, x7, x8, x9] m G := by
  have l1 := (fl_len h.wa).1
  have l2 := (fl_len h.wb).2
  have la := h.la
  have lb := h.lb
  have fa : ∀ u : List Nm, u.length ≤ 5 → (∀ w ∈ u, wd8 w = true) → (flA u).length ≤ 45 ∧ (flB u).length ≤ 45 := fun u h1 h2 => by have := fl_len h2; omega
  have n1 := fa [repW, [50], oB] (by decide) (by decide)
  have n2 := fa [eitW, oB] (by decide) (by decide)
  have n3 := fa [eitW, oB, cB', orW, oB] (by decide) (by decide)
  have n4 := fa [cB'] (by decide) (by decide)
  have n5 := fa [cB', orW, oB, cB'] (by decide) (by decide)
  unfold v_law_b1
  rw [t_rep, t_e1, t_e2, t_c, t_c1]
  walk_at "vc"
  refine ⟨pre_s (by decide) (by decide), fun w w0 w1 => ?_⟩
  have hw : w = 0 ∨ w = 1 ∨ w = 2 := by omega
  rcases hw with rfl | rfl | rfl
  · walk_at "vc"
    rw [← flA_app, ← flB_app]
    refine ⟨by (try simp only [S_len]); omega, by (try simp only [S_len]); omega, ?_⟩
    exact hG _ _ _ _ (lv_rep h hk)
  · walk_at "vc"
    rw [← flA_app, ← flB_app]
    refine ⟨by (try simp only [S_len]); omega, by (try simp only [S_len]); omega, ?_⟩
    exact hG _ _ _ _ (lv_e1 h hk)
  · walk_at "vc"
    rw [← flA_app, ← flB_app]
    refine ⟨by (try simp only [S_len]); omega, by (try simp only [S_len]); omega, ?_⟩
    exact hG _ _ _ _ (lv_e2 h hk)
theorem w_turn {sc x2 x3 x4 x5 x6 x7 x8 x9 : Option D} {m : Mem} {G : DE} (hm : m Pt = some (.tab (lamQ "law")))
    (hG : ∀ x3 x4 x5 x6 x7 x8 x9 m', m' Pt = some (.tab (lamQ "law")) → G.nx [sc, some .feed, x2, x3, x4, x5, x6, x7, x8, x9] m') :
    v_law_b2 Pt [sc, some .feed, x2, x3, x4, x5, x6, x7, x8, x9] m G := by
  unfold v_law_b2
  have sp : (" " : Str) = S [32] := by decide +kernel
  have e0 : ("" : Str) = S (flA []) := by decide +kernel
  have ex : ("x" : Str) = S [120] := by decide +kernel
  rw [t_ax, sp, e0, ex]
  walk_at "vc"
  refine ⟨by decide, ?_⟩
  refine forV_mapP (f := fun (i : Nat) => D.int ((0 : Int) + (i : Int))) (fun as s m' => m' = m ∧ ∃ (j n : Nat) (a b : List Nm) (ds : List D) (x6 x7 : Option D), as = List.range' j n ∧ j + n = 4 ∧ Lv j a b ds ∧ s = [sc, some .feed, x2, some (.str (S (flA a))), some (.str (S (flB b))), some (.tup ds), x6, x7, x8, x9]) ?_ ?_ (as := List.range' 0 4) ⟨rfl, 0, 4, [], [], _, _, _, rfl, rfl, lv_0, rfl⟩
  · rintro s m ⟨rfl, j, n, a, b, ds, x6, x7, hn, hj, hL, rfl⟩
    obtain rfl : n = 0 := by cases n with
      | zero => rfl
      | succ n => cases hn
    obtain rfl : j = 4 := by omega
    have la := hL.la
    have lb := hL.lb
    have l1 := (fl_len hL.wa).1
    have l2 := (fl_len hL.wb).2
    walk_at "vc"
    have fx : (flB [[120]]).length = 2 := by decide
    have e1 : flA a ++ 97 :: 110 :: 121 :: flB [[120]] ++ flB b = TL.joinL [32] (a ++ (anyW :: ([120] :: b))) := by
      rw [join_A, show ([120] :: b) = [[120]] ++ b from rfl, flB_app]
      simp
    rw [e1]
    refine ⟨by omega, by simp only [List.length_append, List.length_cons]; omega, ?_⟩
    have ww : ∀ w ∈ a ++ (anyW :: ([120] :: b)), wd8 w = true := wd_app hL.wa (wd_app (a := [anyW, [120]]) (by decide) hL.wb)
    have jl : ∀ (c : Nm) (r : List Nm), (TL.joinL [32] (a ++ (c :: r))).length = (flA a).length + (c.length + (flB r).length) := fun c r => by rw [join_A]; simp
    refine read_ws (by simp) (by simp; omega) ww (by rw [← e1]; simp only [List.length_append, List.length_cons]; omega) (by rw [← e1]; simp) (hL.good _ 0 [] (by simp) (.inl rfl)) (fun j e => by cases e) fun es i e => ?_
    cases e
    refine ⟨fun z => by (try simp at z); (try omega), fun _ => ?_⟩
    refine ⟨_, rfl, pl_le (pl_in hL.pl) (by decide), ?_⟩
    walk_at "vc"
    refine ⟨by simp, by simp, fun d hd => ?_⟩
    have sA : TL.spl [32] 0 [] (flA a) = a ++ [[]] := by
      have := spl_W (ws := a ++ [[]]) (by simp) (fun w hw => by
        rcases List.mem_append.mp hw with hw | hw
        · exact wd_sp hL.wa w hw
        · rw [List.mem_singleton] at hw; subst hw; simp)
      rw [join_A] at this
      simpa [flB] using this
    have fin : ∀ (z : List Nat) (c : Nm) (r : List Nm) (j : Nat) (n : Int), z = c ++ flB r → n = ((a.length + j : Nat) : Int) → c.length ≤ 8 → r.length ≤ 10 → (∀ w ∈ c :: r, wd8 w = true) → Bad (c :: r) j 4 →
        (m Pt = some (.tab (lamQ "law")) ∧ ∀ (f c : Addr) (σ : L2.St), v__law_why (vAsk 0 f c (lamQ "law") σ [sc, some .feed, x2, some (.str (S (flA a))), some (.str (S (flB b))), some (.tup ds), x6, x7, some (.str (S z)), some (.int n)] (vCallX ph_read_program (vCons (vOp oAdd (vOp oAdd (vVar 3) (vVar 8)) (vVar 4)) vNil)))
          [some (.clo f c (lamQ "law") σ [sc, some .feed, x2, some (.str (S (flA a))), some (.str (S (flB b))), some (.tup ds), x6, x7, some (.str (S z)), some (.int n)]), none, none] m
          (endP fun d_6 m1 => eqK d_6 (.tup [.str "ParseError", .int n]) m1 fun b_3 => if b_3 = false then G.rt (.bl false) m1 else G.nx [sc, some .feed, x2, some (.str (S (flA a))), some (.str (S (flB b))), some (.tup ds), x6, x7, some (.str (S z)), some (.int n)] m1)) := fun z c r j n ez en lc lr wc hb => by
      have lz := fl_len (ws := r) fun w hw => wc w (List.mem_cons_of_mem _ hw)
      have e2 : flA a ++ z ++ flB b = TL.joinL [32] (a ++ (c :: (r ++ b))) := by rw [join_A, flB_app, ez]; simp
      have ww2 : ∀ w ∈ a ++ (c :: (r ++ b)), wd8 w = true := wd_app hL.wa (wd_app (a := c :: r) wc hL.wb)
      refine ⟨hm, fun f c' σ => ?_⟩
      refine why_x (C := "ParseError") (f := "at") (d := .int n) (fun m' => m' Pt = some (.tab (lamQ "law"))) (by decide +kernel) (fldK_at (by decide +kernel) (by decide +kernel)) (fun kk x hx => ?_) fun m' hm' => ?_
      · refine ⟨rfl, ?_⟩
        walk_at "vc"
        rw [e2]
        have lzz : z.length ≤ 98 := by rw [ez, List.length_append]; omega
        refine ⟨by omega, by simp only [List.length_append]; omega, ?_⟩
        refine read_ws (by simp) (by simp; omega) ww2 (by rw [← e2]; simp only [List.length_append]; omega) (by
          rw [join_A]
          intro h0
          exact wc_ne hb (List.append_eq_nil_iff.mp (List.append_eq_nil_iff.mp h0).2).1) ((hL.bad (c :: r) j hb) _ 0 [] (by simp)) (fun j' e => ?_) (fun es i e => by cases e)
        cases e
        rw [Nat.zero_add, ← en]
        exact hx _ hm
      · rw [eqK_t]
        refine eqP_refl (by show (PyData.strOk "ParseError" && (true && true)) = true; decide +kernel) (by show 1 ≤ 64; decide) ?_
        rw [if_neg (by decide)]
        exact hG _ _ _ _ _ _ _ _ hm'
    simp only [List.mem_cons, List.not_mem_nil, or_false] at hd
    rcases hd with rfl | rfl
    · rw [t_w1]
      refine ⟨flA a, [32], rfl, rfl, by simp, by decide, by omega, ?_⟩
      rw [sA]
      walk_at "vc"
      rw [if_pos (by decide +kernel)]
      walk_at "vc"
      refine ⟨by have := (fl_len (ws := [[48], oB, anyW, [120], cB']) (by decide)).2; simp at this; omega, ?_⟩
      refine fin _ repW [[48], oB, anyW, [120], cB'] 2 _ rfl ?_ (by decide) (by decide) (by decide) (bad_rep4 [anyW, [120], cB'])
      simp; (try omega)
    · rw [t_w2]
      refine ⟨flA a, [32], rfl, rfl, by simp, by decide, by omega, ?_⟩
      rw [sA]
      walk_at "vc"
      rw [if_neg (by decide +kernel)]
      walk_at "vc"
      refine ⟨by have := (fl_len (ws := [oB, anyW, [120], cB', orW, oB, cB']) (by decide)).2; simp at this; omega, ?_⟩
      refine fin _ eitW [oB, anyW, [120], cB', orW, oB, cB'] 1 _ rfl ?_ (by decide) (by decide) (by decide) (bad_eit4 [anyW, [120], cB', orW, oB, cB'])
      simp; (try omega)
  · rintro i as s _ P ⟨rfl, j, n, a, b, ds, x6, x7, hn, hj, hL, rfl⟩ ih
    obtain ⟨n, rfl⟩ : ∃ n', n = n' + 1 := by cases n with
      | zero => cases hn
      | succ n => exact ⟨n, rfl⟩
    rw [List.range'_succ] at hn
    obtain ⟨e1, e2⟩ := List.cons.inj hn
    subst e1
    walk_at "vc"
    exact w_lev hL (by omega) fun a b ds x7 h => ih _ _ ⟨rfl, i + 1, n, a, b, ds, _, _, e2, by omega, h, rfl⟩
end
theorem w_law : ∀ (Pt a : Addr) (ns : List Int), ns.length ≤ 63 → v_law Pt (dstart 10 [.lat a (ns.map D.int)]) (mset (fun _ => none) Pt (.tab (lamQ "law"))) endLaw := by
  intro Pt a ns hl
  have hm : mset (fun _ => none) Pt (.tab (lamQ "law")) Pt = some (.tab (lamQ "law")) := mset_same
  generalize mset (fun _ => none) Pt (.tab (lamQ "law")) = m at hm ⊢
  unfold v_law
  walk_at "vc"
  refine ⟨a, ns, rfl, by omega, ?_⟩
  walk_at "vc"
  refine ⟨by decide, ?_⟩
  refine forV_indP (fun _ s m' => ∃ (x2 x3 x4 x5 x6 x7 x8 x9 : Option D), s = [some (.lat a (ns.map D.int)), some .feed, x2, x3, x4, x5, x6, x7, x8, x9] ∧ m' Pt = some (.tab (lamQ "law"))) ?_ ?_ ⟨_, _, _, _, _, _, _, _, rfl, hm⟩
  · rintro s m' ⟨x2, x3, x4, x5, x6, x7, x8, x9, rfl, hm⟩
    walk_at "vc"
  · rintro d ds s m' P ⟨x2, x3, x4, x5, x6, x7, x8, x9, rfl, hm⟩ ih
    walk_at "vc"
    exact w_turn hm fun x3 x4 x5 x6 x7 x8 x9 m' hm => ih _ _ ⟨_, _, _, _, _, _, _, _, rfl, hm⟩


/-! ### the text by places -/
def top (i : Nat) : Stmt := PySem.Challenge.pw_tiespan_k70_blocks_four_deep.main.body.getD i (.Pass ⟨0, 0, 0, 0⟩)
def meth (i j : Nat) : Stmt := (C8.clsBody (top i)).getD j (.Pass ⟨0, 0, 0, 0⟩)
def fileN : Str := PySem.Challenge.pw_tiespan_k70_blocks_four_deep.main.file
abbrev sT_whole_in : Stmt := top 16
abbrev N_whole_in : List Str := ["text", "sign"]
theorem sc_whole_in : FnScope N_whole_in ["text"] (defScope sT_whole_in) := ⟨rfl, rfl, rfl, by decide +kernel, rfl, by decide +kernel, by decide +kernel⟩
abbrev sT_is_name : Stmt := top 22
abbrev N_is_name : List Str := ["text", "letters", "sign"]
theorem sc_is_name : FnScope N_is_name ["text"] (defScope sT_is_name) := ⟨rfl, rfl, rfl, by decide +kernel, rfl, by decide +kernel, by decide +kernel⟩
abbrev sT_ProgramReader___init__ : Stmt := meth 34 0
abbrev N_ProgramReader___init__ : List Str := ["self", "words"]
theorem sc_ProgramReader___init__ : FnScope N_ProgramReader___init__ ["self", "words"] (defScope sT_ProgramReader___init__) := ⟨rfl, rfl, rfl, by decide +kernel, rfl, by decide +kernel, by decide +kernel⟩
abbrev sT_ProgramReader_here : Stmt := meth 34 1
abbrev N_ProgramReader_here : List Str := ["self"]
theorem sc_ProgramReader_here : FnScope N_ProgramReader_here ["self"] (defScope sT_ProgramReader_here) := ⟨rfl, rfl, rfl, by decide +kernel, rfl, by decide +kernel, by decide +kernel⟩
abbrev sT_ProgramReader_take : Stmt := meth 34 2
abbrev N_ProgramReader_take : List Str := ["self", "word"]
theorem sc_ProgramReader_take : FnScope N_ProgramReader_take ["self"] (defScope sT_ProgramReader_take) := ⟨rfl, rfl, rfl, by decide +kernel, rfl, by decide +kernel, by decide +kernel⟩
abbrev sT_ProgramReader_expect : Stmt := meth 34 3
abbrev N_ProgramReader_expect : List Str := ["self", "word"]
theorem sc_ProgramReader_expect : FnScope N_ProgramReader_expect ["self", "word"] (defScope sT_ProgramReader_expect) := ⟨rfl, rfl, rfl, by decide +kernel, rfl, by decide +kernel, by decide +kernel⟩
abbrev sT_ProgramReader_plain_name : Stmt := meth 34 4
abbrev N_ProgramReader_plain_name : List Str := ["self", "word"]
theorem sc_ProgramReader_plain_name : FnScope N_ProgramReader_plain_name ["self"] (defScope sT_ProgramReader_plain_name) := ⟨rfl, rfl, rfl, by decide +kernel, rfl, by decide +kernel, by decide +kernel⟩
abbrev sT_ProgramReader_block : Stmt := meth 34 7
abbrev N_ProgramReader_block : List Str := ["self", "depth", "found"]
theorem sc_ProgramReader_block : FnScope N_ProgramReader_block ["self", "depth"] (defScope sT_ProgramReader_block) := ⟨rfl, rfl, rfl, by decide +kernel, rfl, by decide +kernel, by decide +kernel⟩
abbrev sT_ProgramReader_statements : Stmt := meth 34 8
abbrev N_ProgramReader_statements : List Str := ["self", "depth", "found"]
theorem sc_ProgramReader_statements : FnScope N_ProgramReader_statements ["self", "depth"] (defScope sT_ProgramReader_statements) := ⟨rfl, rfl, rfl, by decide +kernel, rfl, by decide +kernel, by decide +kernel⟩
abbrev sT_ProgramReader_statement : Stmt := meth 34 9
abbrev N_ProgramReader_statement : List Str := ["self", "depth", "first", "times"]
theorem sc_ProgramReader_statement : FnScope N_ProgramReader_statement ["self", "depth"] (defScope sT_ProgramReader_statement) := ⟨rfl, rfl, rfl, by decide +kernel, rfl, by decide +kernel, by decide +kernel⟩
abbrev sT_read_program : Stmt := top 35
abbrev N_read_program : List Str := ["text", "reader", "found"]
theorem sc_read_program : FnScope N_read_program ["text"] (defScope sT_read_program) := ⟨rfl, rfl, rfl, by decide +kernel, rfl, by decide +kernel, by decide +kernel⟩
abbrev sT__law_feed : Stmt := top 37
abbrev N__law_feed : List Str := ["_law_script", "_law_cells", "_law_mark", "_law_cell"]
theorem sc__law_feed : FnScope N__law_feed ["_law_script"] (defScope sT__law_feed) := ⟨rfl, rfl, rfl, by decide +kernel, rfl, by decide +kernel, by decide +kernel⟩
abbrev sT__law_draw : Stmt := top 38
abbrev N__law_draw : List Str := ["_law_feed_here", "_law_many", "_law_cell", "_law_one", "_law_two", "_law_drawn"]
theorem sc__law_draw : FnScope N__law_draw ["_law_feed_here", "_law_many"] (defScope sT__law_draw) := ⟨rfl, rfl, rfl, by decide +kernel, rfl, by decide +kernel, by decide +kernel⟩
abbrev sT__law_any : Stmt := top 39
abbrev N__law_any : List Str := ["_law_feed_here", "_law_row"]
theorem sc__law_any : FnScope N__law_any ["_law_feed_here", "_law_row"] (defScope sT__law_any) := ⟨rfl, rfl, rfl, by decide +kernel, rfl, by decide +kernel, by decide +kernel⟩
abbrev sT__law_same : Stmt := top 40
abbrev N__law_same : List Str := ["_law_found", "_law_due", "_law_key", "_law_one", "_law_two"]
theorem sc__law_same : FnScope N__law_same ["_law_found", "_law_due"] (defScope sT__law_same) := ⟨rfl, rfl, rfl, by decide +kernel, rfl, by decide +kernel, by decide +kernel⟩
abbrev sT__law_field : Stmt := top 41
abbrev N__law_field : List Str := ["_law_e"]
theorem sc__law_field : FnScope N__law_field ["_law_e"] (defScope sT__law_field) := ⟨rfl, rfl, rfl, by decide +kernel, rfl, by decide +kernel, by decide +kernel⟩
abbrev sT__law_why : Stmt := top 42
abbrev N__law_why : List Str := ["_law_ask", "_law_told", "_law_e"]
theorem sc__law_why : FnScope N__law_why ["_law_ask"] (defScope sT__law_why) := ⟨rfl, rfl, rfl, by decide +kernel, rfl, by decide +kernel, by decide +kernel⟩
abbrev sT_law : Stmt := top 43
abbrev N_law : List Str := ["_law_script", "_law_feed_here", "_law_turn", "_law_ahead", "_law_behind", "_law_due", "_law_level", "_law_way", "_law_wrong", "_law_at"]
theorem sc_law : FnScope N_law ["_law_script"] (defScope sT_law) := ⟨rfl, rfl, rfl, by decide +kernel, rfl, by decide +kernel, by decide +kernel⟩
abbrev x_ParseError : XDef := ⟨"ParseError", "ParseError.__init__", defArgs (meth 4 0), defBody (meth 4 0), defScope (meth 4 0), "ValueError", "ValueError.__new__", "ValueError.__init__", [.type "ValueError", .type "Exception", .type "BaseException", .type "object"], ["tag", "at"]⟩
abbrev FnP (K : PySem.W.Frag) (x : Str) (st : Stmt) (f : Addr) (fd : FuncData) : Prop := FunD K x x (defArgs st) (defBody st) (defScope st) [] [] f fd
structure Tx (P : Program) (K : PySem.W.Frag) (mg : Str → Option Value) : Prop where
  f_all : mg "all" = none
  f_bool : mg "bool" = none
  f_dict : mg "dict" = none
  f_int : mg "int" = none
  f_isinstance : mg "isinstance" = none
  f_len : mg "len" = none
  f_list : mg "list" = none
  f_range : mg "range" = none
  f_str : mg "str" = none
  f_tuple : mg "tuple" = none
  f_zip : mg "zip" = none
  c_DIGITS : ∃ t, mg "DIGITS" = some (.str "0123456789" t)
  c_MAX_DEPTH : ∃ t, mg "MAX_DEPTH" = some (.int 4 t)
  c_MAX_LETTERS : ∃ t, mg "MAX_LETTERS" = some (.int 6 t)
  c_MAX_ROUNDS : ∃ t, mg "MAX_ROUNDS" = some (.int 4 t)
  c_NEW : ∃ t, mg "NEW" = some (.str "'" t)
  c_SMALL : ∃ t, mg "SMALL" = some (.str "abcdefghijklmnopqrstuvwxyz" t)
  x_ParseError : XF P K mg x_ParseError
  m_0 : ∃ C0 C1, mg "TieError" = some (.ref C0) ∧ mg "Missing" = some (.ref C1) ∧ MtOk K mg mt_0 [.ref C0, .ref C1] xfields
  m_1 : ∃ C0, mg "NothingLeft" = some (.ref C0) ∧ MtOk K mg mt_1 [.ref C0] xfields
  sup : (P.main.scope.names.lookup ("super" : Str)).isSome = false
  cl_ProgramReader : ClN K mg "ProgramReader" ["source", "spot"]
  g_whole_in : ∃ f fd, mg "whole_in" = some (.ref f) ∧ FunD K "whole_in" "whole_in" (defArgs sT_whole_in) (defBody sT_whole_in) (defScope sT_whole_in) [] [] f fd
  g_is_name : ∃ f fd, mg "is_name" = some (.ref f) ∧ FunD K "is_name" "is_name" (defArgs sT_is_name) (defBody sT_is_name) (defScope sT_is_name) [] [] f fd
  g_ProgramReader___init__ : ∃ Ca f fd, mg "ProgramReader" = some (.ref Ca) ∧ L2.Mk K Ca f ∧ FunD K "__init__" "ProgramReader.__init__" (defArgs sT_ProgramReader___init__) (defBody sT_ProgramReader___init__) (defScope sT_ProgramReader___init__) [] [] f fd
  g_ProgramReader_here : ∃ Ca f fd, mg "ProgramReader" = some (.ref Ca) ∧ Cls K Ca ∧ Meth K Ca "here" f ∧ FunD K "here" "ProgramReader.here" (defArgs sT_ProgramReader_here) (defBody sT_ProgramReader_here) (defScope sT_ProgramReader_here) [] [] f fd
  g_ProgramReader_take : ∃ Ca f fd, mg "ProgramReader" = some (.ref Ca) ∧ Cls K Ca ∧ Meth K Ca "take" f ∧ FunD K "take" "ProgramReader.take" (defArgs sT_ProgramReader_take) (defBody sT_ProgramReader_take) (defScope sT_ProgramReader_take) [] [] f fd
  g_ProgramReader_expect : ∃ Ca f fd, mg "ProgramReader" = some (.ref Ca) ∧ Cls K Ca ∧ Meth K Ca "expect" f ∧ FunD K "expect" "ProgramReader.expect" (defArgs sT_ProgramReader_expect) (defBody sT_ProgramReader_expect) (defScope sT_ProgramReader_expect) [] [] f fd
  g_ProgramReader_plain_name : ∃ Ca f fd, mg "ProgramReader" = some (.ref Ca) ∧ Cls K Ca ∧ Meth K Ca "plain_name" f ∧ FunD K "plain_name" "ProgramReader.plain_name" (defArgs sT_ProgramReader_plain_name) (defBody sT_ProgramReader_plain_name) (defScope sT_ProgramReader_plain_name) [] [] f fd
  g_ProgramReader_block : ∃ Ca f fd, mg "ProgramReader" = some (.ref Ca) ∧ Cls K Ca ∧ Meth K Ca "block" f ∧ FunD K "block" "ProgramReader.block" (defArgs sT_ProgramReader_block) (defBody sT_ProgramReader_block) (defScope sT_ProgramReader_block) [] [] f fd
  g_ProgramReader_statements : ∃ Ca f fd, mg "ProgramReader" = some (.ref Ca) ∧ Cls K Ca ∧ Meth K Ca "statements" f ∧ FunD K "statements" "ProgramReader.statements" (defArgs sT_ProgramReader_statements) (defBody sT_ProgramReader_statements) (defScope sT_ProgramReader_statements) [] [] f fd
  g_ProgramReader_statement : ∃ Ca f fd, mg "ProgramReader" = some (.ref Ca) ∧ Cls K Ca ∧ Meth K Ca "statement" f ∧ FunD K "statement" "ProgramReader.statement" (defArgs sT_ProgramReader_statement) (defBody sT_ProgramReader_statement) (defScope sT_ProgramReader_statement) [] [] f fd
  g_read_program : ∃ f fd, mg "read_program" = some (.ref f) ∧ FunD K "read_program" "read_program" (defArgs sT_read_program) (defBody sT_read_program) (defScope sT_read_program) [] [] f fd
  g__law_feed : ∃ f fd, mg "_law_feed" = some (.ref f) ∧ FunD K "_law_feed" "_law_feed" (defArgs sT__law_feed) (defBody sT__law_feed) (defScope sT__law_feed) [] [] f fd
  g__law_draw : ∃ f fd, mg "_law_draw" = some (.ref f) ∧ FunD K "_law_draw" "_law_draw" (defArgs sT__law_draw) (defBody sT__law_draw) (defScope sT__law_draw) [] [] f fd
  g__law_any : ∃ f fd, mg "_law_any" = some (.ref f) ∧ FunD K "_law_any" "_law_any" (defArgs sT__law_any) (defBody sT__law_any) (defScope sT__law_any) [] [] f fd
  g__law_same : ∃ f fd, mg "_law_same" = some (.ref f) ∧ FunD K "_law_same" "_law_same" (defArgs sT__law_same) (defBody sT__law_same) (defScope sT__law_same) [] [] f fd
  g__law_field : ∃ f fd, mg "_law_field" = some (.ref f) ∧ FunD K "_law_field" "_law_field" (defArgs sT__law_field) (defBody sT__law_field) (defScope sT__law_field) [] [] f fd
  g__law_why : ∃ f fd, mg "_law_why" = some (.ref f) ∧ FunD K "_law_why" "_law_why" (defArgs sT__law_why) (defBody sT__law_why) (defScope sT__law_why) [] [] f fd
  g_law : ∃ f fd, mg "law" = some (.ref f) ∧ FunD K "law" "law" (defArgs sT_law) (defBody sT_law) (defScope sT_law) [] [] f fd
section
variable {P : Program} {w : World} {K : PySem.W.Frag} {mg : Str → Option Value} {base : Heap}
theorem ok_ParseError (T : Tx P K mg) : Mk1 P w K mg "ParseError" "at" "tag" "ParseError" :=
  T.x_ParseError.mk1 (d := x_ParseError) rfl (fun _ => rfl) F.excBase_ValueError PySem.W.kxs_ValueError F.store_ValueError ⟨rfl, rfl, rfl, rfl, by decide +kernel, rfl, rfl⟩ rfl rfl T.sup (fun _ _ _ _ _ _ _ _ _ => rfl) rfl (by decide) (by decide) (by decide) (fun _ => rfl) (fun _ => rfl) (by decide +kernel) (by decide +kernel)
theorem ok_whole_in (T : Tx P K mg) : Fn P w K mg base "whole_in" 1 ph_whole_in := by
  obtain ⟨f, fd, hm, F⟩ := T.g_whole_in
  exact Fn.mk1 hm F.kp (FunD.bindsN F fun _ _ _ _ _ _ us hl => match us, hl with | [_], _ => rfl) (fn_P (v := v_whole_in) F sc_whole_in l_whole_in (fun cdv A outer s H E hr =>
    (jss_cons (js_if (JW.jt (jw_or (jt_cmp (jo_eq hr.units) (jv 0) je_str (nomark _)) (jw_or1 (jt_not (jt_val (je_callB (jo_all rfl) (by rfl) T.f_all (by decide +kernel) (ja_cons (je_lc (own := [("sign", 1)]) (vs := [1]) rfl (by decide) rfl sc_whole_in.nd (jf_seq (jv 0)) (blkOk_by (own := [("sign", 1)]) (N := N_whole_in) (sc := defScope sT_whole_in) (by decide +kernel)) (fun _ => (jg_name (i := 1) sc_whole_in.nd rfl (Or.inl rfl))) (fun _ => jts_nil) (fun _ => (je_cmp (jo_inS) (jv 1) (je_gstr (by rfl) T.c_DIGITS) (by rfl)))) ja_nil))))))) (jss_one (js_ret je_non)) jss_nil)
      (jss_one (js_ret (je_if (JW.jt (jw_and (jt_cmp jo_gt (je_callB jo_len (by rfl) T.f_len (by decide +kernel) (ja_cons (jv 0) ja_nil)) je_int (nomark _)) (jw_and1 (jt_cmp (jo_eq hr.units) (je_ix (jv 0) je_int (fun _ _ => rfl)) je_str (nomark _))))) je_non (je_callTy jo_int (by rfl) T.f_int (by decide +kernel) (ja_cons (jv 0) ja_nil))))))) w_whole_in)
theorem ok_is_name (T : Tx P K mg) : Fn P w K mg base "is_name" 1 ph_is_name := by
  obtain ⟨f, fd, hm, F⟩ := T.g_is_name
  exact Fn.mk1 hm F.kp (FunD.bindsN F fun _ _ _ _ _ _ us hl => match us, hl with | [_], _ => rfl) (fn_P (v := v_is_name) F sc_is_name l_is_name (fun cdv A outer s H E hr =>
    (jss_cons (js_if (jt_not (jt_val (je_isi .str (by decide) (by decide +kernel) (by rfl) T.f_isinstance (by rfl) T.f_str (jv 0)))) (jss_one (js_ret je_bl)) jss_nil)
      (jss_cons (js_set (i := 1) sc_is_name.nd rfl (Or.inl rfl) (je_if (jt_cmp (jo_eq hr.units) (je_sl (jv 0) (jp_some (je_un jo_neg je_int)) jp_no) je_str (nomark _)) (je_sl (jv 0) jp_no (jp_some (je_un jo_neg je_int))) (jv 0)))
      (jss_one (js_ret (je_and (je_chain jo_le jo_le je_int (je_callB jo_len (by rfl) T.f_len (by decide +kernel) (ja_cons (jv 1) ja_nil)) (je_gint (by rfl) T.c_MAX_LETTERS)) (je_one (je_callB (jo_all rfl) (by rfl) T.f_all (by decide +kernel) (ja_cons (je_lc (own := [("sign", 2)]) (vs := [2]) rfl (by decide) rfl sc_is_name.nd (jf_seq (jv 1)) (blkOk_by (own := [("sign", 2)]) (N := N_is_name) (sc := defScope sT_is_name) (by decide +kernel)) (fun _ => (jg_name (i := 2) sc_is_name.nd rfl (Or.inl rfl))) (fun _ => jts_nil) (fun _ => (je_cmp (jo_inS) (jv 2) (je_gstr (by rfl) T.c_SMALL) (by rfl)))) ja_nil))))))))) w_is_name)
theorem ok_ProgramReader___init__ (T : Tx P K mg) : Mk0C P w K mg base "ProgramReader" 1 ph_ProgramReader___init__ := by
  obtain ⟨Ca, f, fd, hm, M, F⟩ := T.g_ProgramReader___init__
  exact Mk0C.mk1 hm M (FunD.bindsN F fun _ _ _ _ _ _ us hl => match us, hl with | [_, _], _ => rfl) (fn_P (v := v_ProgramReader___init__) F sc_ProgramReader___init__ l_ProgramReader___init__ (fun cdv A outer s H E hr =>
    (jss_cons (js_fld T.cl_ProgramReader (by decide +kernel) (jv 1) (jv 0))
      (jss_one (js_fld T.cl_ProgramReader (by decide +kernel) je_int (jv 0))))) w_ProgramReader___init__)
theorem ok_ProgramReader_here (T : Tx P K mg) : Mt0 P w K mg base "ProgramReader" "here" 1 ph_ProgramReader_here := by
  obtain ⟨Ca, f, fd, hm, c, M, F⟩ := T.g_ProgramReader_here
  exact Mt0.mk1 hm c M (FunD.bindsN F fun _ _ _ _ _ _ us hl => match us, hl with | [_], _ => rfl) (fn_P (v := v_ProgramReader_here) F sc_ProgramReader_here l_ProgramReader_here (fun cdv A outer s H E hr =>
    (jss_one (js_ret (je_if (jt_cmp jo_lt (je_fld T.cl_ProgramReader (by decide +kernel) (jv 0)) (je_callB jo_len (by rfl) T.f_len (by decide +kernel) (ja_cons (je_fld T.cl_ProgramReader (by decide +kernel) (jv 0)) ja_nil)) (nomark _)) (je_ix (je_fld T.cl_ProgramReader (by decide +kernel) (jv 0)) (je_fld T.cl_ProgramReader (by decide +kernel) (jv 0)) (fun _ _ => rfl)) je_str)))) w_ProgramReader_here)
theorem ok__law_feed (T : Tx P K mg) : Fn P w K mg base "_law_feed" 1 ph__law_feed := by
  obtain ⟨f, fd, hm, F⟩ := T.g__law_feed
  exact Fn.mk1 hm F.kp (FunD.bindsN F fun _ _ _ _ _ _ us hl => match us, hl with | [_], _ => rfl) (feed_shift rfl (fn_0 (v := v__law_feed) F sc__law_feed l__law_feed (fun cdv A outer s H E hr =>
    (jss_cons (js_setLc (i := 1) rfl (sw_true rfl rfl rfl (by decide +kernel)) rfl (own := [("_law_cell", 3)]) (vs := [3]) rfl (by decide) rfl sc__law_feed.nd (jf_seq (je_sl (jv 0) jp_no (jp_some je_int))) (blkOk_by (own := [("_law_cell", 3)]) (N := N__law_feed) (sc := defScope sT__law_feed) (by decide +kernel)) (fun _ => (jg_name (i := 3) sc__law_feed.nd rfl (Or.inl rfl))) (fun _ => jts_nil) (fun _ => (je_callTy jo_int (by rfl) T.f_int (by decide +kernel) (ja_cons (jv 3) ja_nil))))
      (jss_cons (js_set (i := 2) sc__law_feed.nd rfl (Or.inl rfl) (je_op jo_add je_int (je_op jo_mul je_int (je_callB jo_len (by rfl) T.f_len (by decide +kernel) (ja_cons (jv 1) ja_nil)))))
      (jss_cons (js_for PassesOwn.never rfl (jf_seq (jv 1)) (jg_name (i := 3) sc__law_feed.nd rfl (Or.inl rfl))
      (jss_one (js_set (i := 2) sc__law_feed.nd rfl (Or.inl rfl) (je_op jo_mod (je_callTy jo_int (by rfl) T.f_int (by decide +kernel) (ja_cons (je_op jo_add (je_op jo_mul (jv 2) je_int) (jv 3)) ja_nil)) je_int))))
      (jss_one (js_ret (je_lstO (ja_cons (jv 1) (ja_cons je_int (ja_cons je_int (ja_cons (jv 2) ja_nil))))))))))) w__law_feed))
theorem ok__law_draw (T : Tx P K mg) : Fn P w K mg base "_law_draw" 1 ph__law_draw := by
  obtain ⟨f, fd, hm, F⟩ := T.g__law_draw
  exact Fn.mk1 hm F.kp (FunD.bindsN F fun _ _ _ _ _ _ us hl => match us, hl with | [_, _], _ => rfl) (draw_shift rfl (fn_0 (v := v__law_draw) F sc__law_draw l__law_draw (fun cdv A outer s H E hr =>
    (jss_cons (js_if (jt_cmp jo_lt (je_ix (jv 0) je_int (fun _ _ => rfl)) je_int (nomark _)) (jss_cons (js_setIx (je_op jo_add (je_ix (jv 0) je_int (fun _ _ => rfl)) je_int) (jv 0) je_int)
      (jss_cons (js_set (i := 2) sc__law_draw.nd rfl (Or.inl rfl) (je_op jo_add (je_ix (jv 0) je_int (fun _ _ => rfl)) (je_op jo_mul (je_ix (jv 0) je_int (fun _ _ => rfl)) je_int)))
      (jss_cons (js_if (jt_cmp jo_le (je_ix (jv 0) je_int (fun _ _ => rfl)) (je_callB jo_len (by rfl) T.f_len (by decide +kernel) (ja_cons (je_ix (jv 0) je_int (fun _ _ => rfl)) ja_nil)) (nomark _)) (jss_one (js_set (i := 2) sc__law_draw.nd rfl (Or.inl rfl) (je_ix (je_ix (jv 0) je_int (fun _ _ => rfl)) (je_op jo_sub (je_ix (jv 0) je_int (fun _ _ => rfl)) je_int) (fun _ _ => rfl)))) jss_nil)
      (jss_cons (js_if (JW.jt (jw_or (jt_cmp jo_gt (je_ix (jv 0) je_int (fun _ _ => rfl)) (je_callB jo_len (by rfl) T.f_len (by decide +kernel) (ja_cons (je_ix (jv 0) je_int (fun _ _ => rfl)) ja_nil)) (nomark _)) (jw_or1 (jt_cmp jo_lt (jv 2) (je_op jo_pow je_int je_int) (nomark _))))) (jss_cons (js_set (i := 3) sc__law_draw.nd rfl (Or.inl rfl) (je_op jo_mod (je_callTy jo_int (by rfl) T.f_int (by decide +kernel) (ja_cons (je_op jo_add (je_op jo_add (je_op jo_mul (jv 2) je_int) (je_op jo_mul (je_ix (jv 0) je_int (fun _ _ => rfl)) je_int)) (je_ix (jv 0) je_int (fun _ _ => rfl))) ja_nil)) je_int))
      (jss_cons (js_set (i := 4) sc__law_draw.nd rfl (Or.inl rfl) (je_op jo_mod (je_callTy jo_int (by rfl) T.f_int (by decide +kernel) (ja_cons (je_op jo_add (je_op jo_mul (jv 3) (jv 3)) (je_op jo_mul (je_ix (jv 0) je_int (fun _ _ => rfl)) je_int)) ja_nil)) je_int))
      (jss_one (js_ret (je_op jo_mod (je_op jo_fdiv (je_op jo_mod (je_callTy jo_int (by rfl) T.f_int (by decide +kernel) (ja_cons (je_op jo_add (je_op jo_mul (jv 4) je_int) (jv 3)) ja_nil)) je_int) je_int) (jv 1)))))) jss_nil)
      (jss_one (js_setIx (jv 2) (jv 0) je_int)))))) jss_nil)
      (jss_cons (js_set (i := 5) sc__law_draw.nd rfl (Or.inl rfl) (je_op jo_mod (je_callTy jo_int (by rfl) T.f_int (by decide +kernel) (ja_cons (je_ix (jv 0) je_int (fun _ _ => rfl)) ja_nil)) (jv 1)))
      (jss_cons (js_setIx (je_op jo_fdiv (je_callTy jo_int (by rfl) T.f_int (by decide +kernel) (ja_cons (je_ix (jv 0) je_int (fun _ _ => rfl)) ja_nil)) (jv 1)) (jv 0) je_int)
      (jss_one (js_ret (jv 5))))))) w__law_draw))
theorem ok__law_field (T : Tx P K mg) : FnF P w K mg base "_law_field" 1 xfields ph__law_field := by
  obtain ⟨f, fd, hm, F⟩ := T.g__law_field
  exact fn_F (v := v__law_field) hm F sc__law_field (FunD.bindsN F fun _ _ _ _ _ _ us hl => match us, hl with | [_], _ => rfl) l__law_field (fun cdv A outer s H p C dd hr hz hf hx =>
    (jss_cons (js_if (jt_cmp (jo_inL) (je_xf List.mem_cons_self hx (by decide +kernel) hz hf (jv 0)) (je_tup (ja_cons je_str (ja_cons je_str (ja_cons je_str ja_nil)))) (by rfl)) (jss_one (js_ret (je_xf List.mem_cons_self hx (by decide +kernel) hz hf (jv 0)))) jss_nil)
      (jss_cons (js_if (jt_cmp (jo_inL) (je_xf List.mem_cons_self hx (by decide +kernel) hz hf (jv 0)) (je_tup (ja_cons je_str (ja_cons je_str (ja_cons je_str (ja_cons je_str ja_nil))))) (by rfl)) (jss_one (js_ret (je_xf List.mem_cons_self hx (by decide +kernel) hz hf (jv 0)))) jss_nil)
      (jss_cons (js_if (jt_cmp (jo_inL) (je_xf List.mem_cons_self hx (by decide +kernel) hz hf (jv 0)) (je_tup (ja_cons je_str (ja_cons je_str (ja_cons je_str ja_nil)))) (by rfl)) (jss_one (js_ret (je_xf List.mem_cons_self hx (by decide +kernel) hz hf (jv 0)))) jss_nil)
      (jss_cons (js_if (jt_cmp (jo_inL) (je_xf List.mem_cons_self hx (by decide +kernel) hz hf (jv 0)) (je_tup (ja_cons je_str (ja_cons je_str ja_nil))) (by rfl)) (jss_one (js_ret (je_xf List.mem_cons_self hx (by decide +kernel) hz hf (jv 0)))) jss_nil)
      (jss_cons (js_if (jt_cmp (jo_eq hr.units) (je_xf List.mem_cons_self hx (by decide +kernel) hz hf (jv 0)) je_str (nomark _)) (jss_one (js_ret (je_xf List.mem_cons_self hx (by decide +kernel) hz hf (jv 0)))) jss_nil)
      (jss_cons (js_if (jt_cmp (jo_eq hr.units) (je_xf List.mem_cons_self hx (by decide +kernel) hz hf (jv 0)) je_str (nomark _)) (jss_one (js_ret (je_xf List.mem_cons_self hx (by decide +kernel) hz hf (jv 0)))) jss_nil)
      (jss_one (js_ret (je_if (jt_cmp (jo_eq hr.units) (je_xf List.mem_cons_self hx (by decide +kernel) hz hf (jv 0)) je_str (nomark _)) (je_xf List.mem_cons_self hx (by decide +kernel) hz hf (jv 0)) je_non)))))))))) w__law_field
theorem ok_ProgramReader_take (T : Tx P K mg) : Mt0 P w K mg base "ProgramReader" "take" 2 ph_ProgramReader_take := by
  obtain ⟨Ca, f, fd, hm, c, M, F⟩ := T.g_ProgramReader_take
  exact Mt0.mk1 hm c M (FunD.bindsN F fun _ _ _ _ _ _ us hl => match us, hl with | [_], _ => rfl) (fn_P (v := v_ProgramReader_take) F sc_ProgramReader_take l_ProgramReader_take (fun cdv A outer s H E hr =>
    (jss_cons (js_set (i := 1) sc_ProgramReader_take.nd rfl (Or.inl rfl) (je_meth0 (ok_ProgramReader_here T) (hr.mono (by decide)) (jv 0)))
      (jss_cons (js_augF T.cl_ProgramReader (by decide +kernel) (jv 0) je_int in_add sx_add)
      (jss_one (js_ret (jv 1)))))) w_ProgramReader_take)
theorem ok_ProgramReader_expect (T : Tx P K mg) : MtX P w K mg base "ProgramReader" "expect" 2 ph_ProgramReader_expect := by
  obtain ⟨Ca, f, fd, hm, c, M, F⟩ := T.g_ProgramReader_expect
  exact MtX.mk1 hm c M (FunD.bindsN F fun _ _ _ _ _ _ us hl => match us, hl with | [_, _], _ => rfl) (fn_X (v := v_ProgramReader_expect) F sc_ProgramReader_expect l_ProgramReader_expect (fun cdv A outer s H E hr =>
    (jss_cons (js_if (jt_cmp (jo_ne hr.units) (je_meth0 (ok_ProgramReader_here T) (hr.mono (by decide)) (jv 0)) (jv 1) (nomark _)) (jss_one (js_raise1 rfl (takes_of rfl rfl rfl rfl) (ok_ParseError T) hr (by rfl) (je_fld T.cl_ProgramReader (by decide +kernel) (jv 0)))) jss_nil)
      (jss_one (js_augF T.cl_ProgramReader (by decide +kernel) (jv 0) je_int in_add sx_add)))) w_ProgramReader_expect)
theorem ok__law_any (T : Tx P K mg) : Fn P w K mg base "_law_any" 2 ph__law_any := by
  obtain ⟨f, fd, hm, F⟩ := T.g__law_any
  exact Fn.mk1 hm F.kp (FunD.bindsN F fun _ _ _ _ _ _ us hl => match us, hl with | [_, _], _ => rfl) (fn_P (v := v__law_any) F sc__law_any l__law_any (fun cdv A outer s H E hr =>
    (jss_one (js_ret (je_ix (jv 1) (je_fn (ok__law_draw T) (hr.mono (by decide)) (by rfl) (ja_cons (jv 0) (ja_cons (je_callB jo_len (by rfl) T.f_len (by decide +kernel) (ja_cons (jv 1) ja_nil)) ja_nil))) (fun _ _ => rfl))))) w__law_any)
theorem ok_ProgramReader_plain_name (T : Tx P K mg) : MtX P w K mg base "ProgramReader" "plain_name" 3 ph_ProgramReader_plain_name := by
  obtain ⟨Ca, f, fd, hm, c, M, F⟩ := T.g_ProgramReader_plain_name
  exact MtX.mk1 hm c M (FunD.bindsN F fun _ _ _ _ _ _ us hl => match us, hl with | [_], _ => rfl) (fn_X (v := v_ProgramReader_plain_name) F sc_ProgramReader_plain_name l_ProgramReader_plain_name (fun cdv A outer s H E hr =>
    (jss_cons (js_set (i := 1) sc_ProgramReader_plain_name.nd rfl (Or.inl rfl) (je_meth0 (ok_ProgramReader_take T) (hr.mono (by decide)) (jv 0)))
      (jss_cons (js_if (JW.jt (jw_or (jt_not (jt_val (je_fn (ok_is_name T) (hr.mono (by decide)) (by rfl) (ja_cons (jv 1) ja_nil)))) (jw_or1 (jt_cmp (jo_eq hr.units) (je_sl (jv 1) (jp_some (je_un jo_neg je_int)) jp_no) (je_gstr (by rfl) T.c_NEW) (nomark _))))) (jss_one (js_raise1 rfl (takes_of rfl rfl rfl rfl) (ok_ParseError T) hr (by rfl) (je_op jo_sub (je_fld T.cl_ProgramReader (by decide +kernel) (jv 0)) je_int))) jss_nil)
      (jss_one (js_ret (jv 1)))))) w_ProgramReader_plain_name)
theorem okr_ProgramReader_statements (T : Tx P K mg) (n : Nat) (ih : MtX P w K mg base "ProgramReader" "statement" (3 + 3 * n + 0) (ph_ProgramReader_statement n)) : MtX P w K mg base "ProgramReader" "statements" (3 + 3 * n + 1) (ph_ProgramReader_statements n) := by
  obtain ⟨Ca, f, fd, hm, c, M, F⟩ := T.g_ProgramReader_statements
  exact MtX.mk1 hm c M (FunD.bindsN F fun _ _ _ _ _ _ us hl => match us, hl with | [_, _], _ => rfl) (fn_X (v := v_ProgramReader_statements (ph_ProgramReader_statement n)) F sc_ProgramReader_statements (l_ProgramReader_statements n) (fun cdv A outer s H E hr =>
    (jss_cons (js_set (i := 2) sc_ProgramReader_statements.nd rfl (Or.inl rfl) (je_lstO ja_nil))
      (jss_cons (js_while (passes_of rfl) (jt_cmp (jo_notinL) (je_meth0 (ok_ProgramReader_here T) (hr.mono (by (try simp only [Nat.add_eq, Nat.mul_eq]); omega)) (jv 0)) (je_tup (ja_cons je_str (ja_cons je_str ja_nil))) (by rfl)) (jss_one (js_expr (je_bm PySem.F.plainAttrs_list PySem.F.slot_list_append PySem.F.type_list_append jm_append (jv 2) (ja_cons (je_methX (takes_of rfl rfl rfl rfl) (ih) (hr.mono (by (try simp only [Nat.add_eq, Nat.mul_eq]); omega)) (jv 0) (ja_cons (jv 1) ja_nil)) ja_nil)))))
      (jss_one (js_ret (je_callTy jo_tuple (by rfl) T.f_tuple (by decide +kernel) (ja_cons (jv 2) ja_nil))))))) (w_ProgramReader_statements n))
theorem okr_ProgramReader_block (T : Tx P K mg) (n : Nat) (ih : MtX P w K mg base "ProgramReader" "statements" (3 + 3 * n + 1) (ph_ProgramReader_statements n)) : MtX P w K mg base "ProgramReader" "block" (3 + 3 * n + 2) (ph_ProgramReader_block n) := by
  obtain ⟨Ca, f, fd, hm, c, M, F⟩ := T.g_ProgramReader_block
  exact MtX.mk1 hm c M (FunD.bindsN F fun _ _ _ _ _ _ us hl => match us, hl with | [_, _], _ => rfl) (fn_X (v := v_ProgramReader_block (ph_ProgramReader_statements n)) F sc_ProgramReader_block (l_ProgramReader_block n) (fun cdv A outer s H E hr =>
    (jss_cons (js_if (jt_cmp jo_gt (jv 1) (je_gint (by rfl) T.c_MAX_DEPTH) (nomark _)) (jss_one (js_raise1 rfl (takes_of rfl rfl rfl rfl) (ok_ParseError T) hr (by rfl) (je_fld T.cl_ProgramReader (by decide +kernel) (jv 0)))) jss_nil)
      (jss_cons (js_expr (je_methX (takes_of rfl rfl rfl rfl) (ok_ProgramReader_expect T) (hr.mono (by (try simp only [Nat.add_eq, Nat.mul_eq]); omega)) (jv 0) (ja_cons je_str ja_nil)))
      (jss_cons (js_set (i := 2) sc_ProgramReader_block.nd rfl (Or.inl rfl) (je_methX (takes_of rfl rfl rfl rfl) (ih) (hr.mono (by (try simp only [Nat.add_eq, Nat.mul_eq]); omega)) (jv 0) (ja_cons (jv 1) ja_nil)))
      (jss_cons (js_expr (je_methX (takes_of rfl rfl rfl rfl) (ok_ProgramReader_expect T) (hr.mono (by (try simp only [Nat.add_eq, Nat.mul_eq]); omega)) (jv 0) (ja_cons je_str ja_nil)))
      (jss_one (js_ret (jv 2)))))))) (w_ProgramReader_block n))
theorem okm_ProgramReader_statement (T : Tx P K mg) : ∀ n : Nat, MtX P w K mg base "ProgramReader" "statement" (3 + 3 * n) (ph_ProgramReader_statement n)
  | 0 => by
    obtain ⟨Ca, f, fd, hm, c, M, F⟩ := T.g_ProgramReader_statement
    exact ⟨Ca, f, hm, c, M, fun _ _ _ _ _ _ _ _ _ _ _ ⟨_, _, _, _, _, _, _, _, z, _⟩ => (w_ProgramReader_statement_0 _ _ _ _ z).elim⟩
  | n + 1 => by
    obtain ⟨Ca, f, fd, hm, c, M, F⟩ := T.g_ProgramReader_statement
    have ih0 := okm_ProgramReader_statement T n
    have ih := okr_ProgramReader_block T n (okr_ProgramReader_statements T n (ih0))
    exact MtX.mk1 hm c M (FunD.bindsN F fun _ _ _ _ _ _ us hl => match us, hl with | [_, _], _ => rfl) (fn_X (v := v_ProgramReader_statement (ph_ProgramReader_block n)) F sc_ProgramReader_statement (l_ProgramReader_statement _) (fun cdv A outer s H E hr =>
    (jss_cons (js_match (je_meth0 (ok_ProgramReader_take T) (hr.mono (by (try simp only [Nat.add_eq, Nat.mul_eq]); omega)) (jv 0)) (jms_val jss_never
      (jms_val (jss_one (js_ret (je_tup (ja_cons je_str (ja_cons (je_methX0 (takes_of rfl rfl rfl rfl) (ok_ProgramReader_plain_name T) (hr.mono (by (try simp only [Nat.add_eq, Nat.mul_eq]); omega)) (jv 0)) ja_nil)))))
      (jms_val jss_never
      (jms_val (jss_cons (js_set (i := 2) sc_ProgramReader_statement.nd rfl (Or.inl rfl) (je_methX (takes_of rfl rfl rfl rfl) (ih) (hr.mono (by (try simp only [Nat.add_eq, Nat.mul_eq]); omega)) (jv 0) (ja_cons (je_op jo_add (jv 1) je_int) ja_nil)))
      (jss_cons (js_expr (je_methX (takes_of rfl rfl rfl rfl) (ok_ProgramReader_expect T) (hr.mono (by (try simp only [Nat.add_eq, Nat.mul_eq]); omega)) (jv 0) (ja_cons je_str ja_nil)))
      (jss_one (js_ret (je_tup (ja_cons je_str (ja_cons (jv 2) (ja_cons (je_methX (takes_of rfl rfl rfl rfl) (ih) (hr.mono (by (try simp only [Nat.add_eq, Nat.mul_eq]); omega)) (jv 0) (ja_cons (je_op jo_add (jv 1) je_int) ja_nil)) ja_nil))))))))
      (jms_val (jss_cons (js_set (i := 3) sc_ProgramReader_statement.nd rfl (Or.inl rfl) (je_fn (ok_whole_in T) (hr.mono (by (try simp only [Nat.add_eq, Nat.mul_eq]); omega)) (by rfl) (ja_cons (je_meth0 (ok_ProgramReader_here T) (hr.mono (by (try simp only [Nat.add_eq, Nat.mul_eq]); omega)) (jv 0)) ja_nil)))
      (jss_cons (js_if (JW.jt (jw_or (jt_cmp jo_is (jv 3) je_non (nomark _)) (jw_or1 (jt_cmp jo_gt (jv 3) (je_gint (by rfl) T.c_MAX_ROUNDS) (nomark _))))) (jss_one (js_raise1 rfl (takes_of rfl rfl rfl rfl) (ok_ParseError T) hr (by rfl) (je_fld T.cl_ProgramReader (by decide +kernel) (jv 0)))) jss_nil)
      (jss_cons (js_augF T.cl_ProgramReader (by decide +kernel) (jv 0) je_int in_add sx_add)
      (jss_one (js_ret (je_tup (ja_cons je_str (ja_cons (jv 3) (ja_cons (je_methX (takes_of rfl rfl rfl rfl) (ih) (hr.mono (by (try simp only [Nat.add_eq, Nat.mul_eq]); omega)) (jv 0) (ja_cons (je_op jo_add (jv 1) je_int) ja_nil)) ja_nil)))))))))
      jms_nil))))))
      (jss_one (js_raise1 rfl (takes_of rfl rfl rfl rfl) (ok_ParseError T) hr (by rfl) (je_op jo_sub (je_fld T.cl_ProgramReader (by decide +kernel) (jv 0)) je_int))))) (w_ProgramReader_statement n))
theorem okm_ProgramReader_statements (T : Tx P K mg) (n : Nat) : MtX P w K mg base "ProgramReader" "statements" (3 + 3 * n + 1) (ph_ProgramReader_statements n) := okr_ProgramReader_statements T n (okm_ProgramReader_statement T n)
theorem okm_ProgramReader_block (T : Tx P K mg) (n : Nat) : MtX P w K mg base "ProgramReader" "block" (3 + 3 * n + 2) (ph_ProgramReader_block n) := okr_ProgramReader_block T n (okr_ProgramReader_statements T n (okm_ProgramReader_statement T n))
theorem ok__law_same (T : Tx P K mg) : ∀ n : Nat, Fn P w K mg base "_law_same" (n + 1) (ph__law_same n)
  | 0 => by
    obtain ⟨f, fd, hm, F⟩ := T.g__law_same
    have ih : Fn P w K mg base "_law_same" 0 (fun _ _ _ => False) := ⟨f, hm, F.kp, fun _ _ _ _ _ _ _ _ _ _ _ ⟨_, _, _, _, _, _, _, z, _⟩ => z.elim⟩
    exact Fn.mk1 hm F.kp (FunD.bindsN F fun _ _ _ _ _ _ us hl => match us, hl with | [_, _], _ => rfl) (fn_P (v := v__law_same (fun _ _ _ => False)) F sc__law_same (l__law_same _) (fun cdv A outer s H E hr =>
    (jss_cons (js_if (jt_cmp jo_is (jv 1) je_non (nomark _)) (jss_one (js_ret (je_cmp jo_is (jv 0) je_non (nomark _)))) jss_nil)
      (jss_cons (js_if (JW.jt (jw_or (jt_val (je_isi .bl (by decide) (by decide +kernel) (by rfl) T.f_isinstance (by rfl) T.f_bool (jv 1))) (jw_or1 (jt_val (je_isi .bl (by decide) (by decide +kernel) (by rfl) T.f_isinstance (by rfl) T.f_bool (jv 0)))))) (jss_one (js_ret (je_and (je_isi .bl (by decide) (by decide +kernel) (by rfl) T.f_isinstance (by rfl) T.f_bool (jv 1)) (je_and (je_isi .bl (by decide) (by decide +kernel) (by rfl) T.f_isinstance (by rfl) T.f_bool (jv 0)) (je_one (je_cmp (jo_eq hr.units) (jv 0) (jv 1) (nomark _))))))) jss_nil)
      (jss_cons (js_if (jt_val (je_isi2 .int .str (by decide) (by decide) (by decide +kernel) (by decide +kernel) (by rfl) T.f_isinstance (by rfl) T.f_int (by rfl) T.f_str (jv 1))) (jss_one (js_ret (je_and (je_isi2 .int .str (by decide) (by decide) (by decide +kernel) (by decide +kernel) (by rfl) T.f_isinstance (by rfl) T.f_int (by rfl) T.f_str (jv 0)) (je_and (je_cmp (jo_eq hr.units) (je_isi .int (by decide) (by decide +kernel) (by rfl) T.f_isinstance (by rfl) T.f_int (jv 0)) (je_isi .int (by decide) (by decide +kernel) (by rfl) T.f_isinstance (by rfl) T.f_int (jv 1)) (nomark _)) (je_one (je_cmp (jo_eq hr.units) (jv 0) (jv 1) (nomark _))))))) jss_nil)
      (jss_cons (js_if (jt_val (je_isi .dic (by decide) (by decide +kernel) (by rfl) T.f_isinstance (by rfl) T.f_dict (jv 1))) jss_never jss_nil)
      (jss_cons (js_if (JW.jt (jw_or (jt_cmp (jo_ne hr.units) (je_isi .lst (by decide) (by decide +kernel) (by rfl) T.f_isinstance (by rfl) T.f_list (jv 1)) (je_isi .lst (by decide) (by decide +kernel) (by rfl) T.f_isinstance (by rfl) T.f_list (jv 0)) (nomark _)) (jw_or1 (jt_cmp (jo_ne hr.units) (je_isi .tup (by decide) (by decide +kernel) (by rfl) T.f_isinstance (by rfl) T.f_tuple (jv 1)) (je_isi .tup (by decide) (by decide +kernel) (by rfl) T.f_isinstance (by rfl) T.f_tuple (jv 0)) (nomark _))))) (jss_one (js_ret je_bl)) jss_nil)
      (jss_one (js_ret (je_and (je_cmp (jo_eq hr.units) (je_callB jo_len (by rfl) T.f_len (by decide +kernel) (ja_cons (jv 0) ja_nil)) (je_callB jo_len (by rfl) T.f_len (by decide +kernel) (ja_cons (jv 1) ja_nil)) (nomark _)) (je_one (je_callB (jo_all rfl) (by rfl) T.f_all (by decide +kernel) (ja_cons (je_lc (own := [("_law_one", 3), ("_law_two", 4)]) (vs := [3, 4]) rfl (by decide) rfl sc__law_same.nd (jf_zip (by rfl) T.f_zip (ja_cons (jv 0) (ja_cons (jv 1) ja_nil))) (blkOk_by (own := [("_law_one", 3), ("_law_two", 4)]) (N := N__law_same) (sc := defScope sT__law_same) (by decide +kernel)) (fun _ => (jg_tup rfl (jgs_cons (jg_name (i := 3) sc__law_same.nd rfl (Or.inl rfl)) (jgs_cons (jg_name (i := 4) sc__law_same.nd rfl (Or.inl rfl)) jgs_nil)))) (fun _ => jts_nil) (fun _ => (je_fn (ih) (hr.mono (by omega)) (by rfl) (ja_cons (jv 3) (ja_cons (jv 4) ja_nil))))) ja_nil)))))))))))) (w__law_same_0))
  | n + 1 => by
    obtain ⟨f, fd, hm, F⟩ := T.g__law_same
    have ih : Fn P w K mg base "_law_same" (n + 1) (ph__law_same n) := ok__law_same T n
    exact Fn.mk1 hm F.kp (FunD.bindsN F fun _ _ _ _ _ _ us hl => match us, hl with | [_, _], _ => rfl) (fn_P (v := v__law_same (ph__law_same n)) F sc__law_same (l__law_same _) (fun cdv A outer s H E hr =>
    (jss_cons (js_if (jt_cmp jo_is (jv 1) je_non (nomark _)) (jss_one (js_ret (je_cmp jo_is (jv 0) je_non (nomark _)))) jss_nil)
      (jss_cons (js_if (JW.jt (jw_or (jt_val (je_isi .bl (by decide) (by decide +kernel) (by rfl) T.f_isinstance (by rfl) T.f_bool (jv 1))) (jw_or1 (jt_val (je_isi .bl (by decide) (by decide +kernel) (by rfl) T.f_isinstance (by rfl) T.f_bool (jv 0)))))) (jss_one (js_ret (je_and (je_isi .bl (by decide) (by decide +kernel) (by rfl) T.f_isinstance (by rfl) T.f_bool (jv 1)) (je_and (je_isi .bl (by decide) (by decide +kernel) (by rfl) T.f_isinstance (by rfl) T.f_bool (jv 0)) (je_one (je_cmp (jo_eq hr.units) (jv 0) (jv 1) (nomark _))))))) jss_nil)
      (jss_cons (js_if (jt_val (je_isi2 .int .str (by decide) (by decide) (by decide +kernel) (by decide +kernel) (by rfl) T.f_isinstance (by rfl) T.f_int (by rfl) T.f_str (jv 1))) (jss_one (js_ret (je_and (je_isi2 .int .str (by decide) (by decide) (by decide +kernel) (by decide +kernel) (by rfl) T.f_isinstance (by rfl) T.f_int (by rfl) T.f_str (jv 0)) (je_and (je_cmp (jo_eq hr.units) (je_isi .int (by decide) (by decide +kernel) (by rfl) T.f_isinstance (by rfl) T.f_int (jv 0)) (je_isi .int (by decide) (by decide +kernel) (by rfl) T.f_isinstance (by rfl) T.f_int (jv 1)) (nomark _)) (je_one (je_cmp (jo_eq hr.units) (jv 0) (jv 1) (nomark _))))))) jss_nil)
      (jss_cons (js_if (jt_val (je_isi .dic (by decide) (by decide +kernel) (by rfl) T.f_isinstance (by rfl) T.f_dict (jv 1))) jss_never jss_nil)
      (jss_cons (js_if (JW.jt (jw_or (jt_cmp (jo_ne hr.units) (je_isi .lst (by decide) (by decide +kernel) (by rfl) T.f_isinstance (by rfl) T.f_list (jv 1)) (je_isi .lst (by decide) (by decide +kernel) (by rfl) T.f_isinstance (by rfl) T.f_list (jv 0)) (nomark _)) (jw_or1 (jt_cmp (jo_ne hr.units) (je_isi .tup (by decide) (by decide +kernel) (by rfl) T.f_isinstance (by rfl) T.f_tuple (jv 1)) (je_isi .tup (by decide) (by decide +kernel) (by rfl) T.f_isinstance (by rfl) T.f_tuple (jv 0)) (nomark _))))) (jss_one (js_ret je_bl)) jss_nil)
      (jss_one (js_ret (je_and (je_cmp (jo_eq hr.units) (je_callB jo_len (by rfl) T.f_len (by decide +kernel) (ja_cons (jv 0) ja_nil)) (je_callB jo_len (by rfl) T.f_len (by decide +kernel) (ja_cons (jv 1) ja_nil)) (nomark _)) (je_one (je_callB (jo_all rfl) (by rfl) T.f_all (by decide +kernel) (ja_cons (je_lc (own := [("_law_one", 3), ("_law_two", 4)]) (vs := [3, 4]) rfl (by decide) rfl sc__law_same.nd (jf_zip (by rfl) T.f_zip (ja_cons (jv 0) (ja_cons (jv 1) ja_nil))) (blkOk_by (own := [("_law_one", 3), ("_law_two", 4)]) (N := N__law_same) (sc := defScope sT__law_same) (by decide +kernel)) (fun _ => (jg_tup rfl (jgs_cons (jg_name (i := 3) sc__law_same.nd rfl (Or.inl rfl)) (jgs_cons (jg_name (i := 4) sc__law_same.nd rfl (Or.inl rfl)) jgs_nil)))) (fun _ => jts_nil) (fun _ => (je_fn (ih) (hr.mono (by omega)) (by rfl) (ja_cons (jv 3) (ja_cons (jv 4) ja_nil))))) ja_nil)))))))))))) (w__law_same n))
theorem ok_read_program (T : Tx P K mg) : FnX P w K mg base "read_program" 22 ph_read_program := by
  obtain ⟨f, fd, hm, F⟩ := T.g_read_program
  exact FnX.mk1 hm F.kp (FunD.bindsN F fun _ _ _ _ _ _ us hl => match us, hl with | [_], _ => rfl) (fn_X (v := v_read_program) F sc_read_program l_read_program (fun cdv A outer s H E hr =>
    (jss_cons (js_if (jt_cmp (jo_eq hr.units) (jv 0) je_str (nomark _)) (jss_one (js_ret (je_tup ja_nil))) jss_nil)
      (jss_cons (js_set (i := 1) sc_read_program.nd rfl (Or.inl rfl) (je_make (ok_ProgramReader___init__ T) (hr.mono (by decide)) (by rfl) (ja_cons (je_bm PySem.F.plainAttrs_str PySem.F.slot_str_split PySem.F.type_str_split jm_split (jv 0) (ja_cons je_str ja_nil)) ja_nil)))
      (jss_cons (js_set (i := 2) sc_read_program.nd rfl (Or.inl rfl) (je_methX (takes_of rfl rfl rfl rfl) (okm_ProgramReader_statements T 5) (hr.mono (by decide)) (jv 1) (ja_cons je_int ja_nil)))
      (jss_cons (js_if (jt_cmp jo_lt (je_fld T.cl_ProgramReader (by decide +kernel) (jv 1)) (je_callB jo_len (by rfl) T.f_len (by decide +kernel) (ja_cons (je_fld T.cl_ProgramReader (by decide +kernel) (jv 1)) ja_nil)) (nomark _)) (jss_one (js_raise1 rfl (takes_of rfl rfl rfl rfl) (ok_ParseError T) hr (by rfl) (je_fld T.cl_ProgramReader (by decide +kernel) (jv 1)))) jss_nil)
      (jss_one (js_ret (jv 2)))))))) w_read_program)
theorem ok__law_why (T : Tx P K mg) : FnL P w K mg base "_law_why" 22 3 v__law_why := by
  obtain ⟨f, fd, hm, F⟩ := T.g__law_why
  obtain ⟨C0_0, C0_1, n0_0, n0_1, mt0⟩ := T.m_0
  obtain ⟨C1_0, n1_0, mt1⟩ := T.m_1
  exact ⟨f, fd, "_law_ask", _, _, _, _, _, hm, F, (FunD.bindsN F fun _ _ _ _ _ _ us hl => match us, hl with | [_], _ => rfl), sc__law_why, rfl, Or.inl rfl, by decide, by decide, rfl, fun cdv A outer s H ask hr act =>
    (jss_cons (js_set (i := 1) sc__law_why.nd rfl (Or.inl rfl) (je_tup (ja_cons je_str (ja_cons je_non ja_nil))))
      (jss_cons (js_try (i := 2) (ns := xfields) rfl rfl sc__law_why.nd rfl rfl takes_none5 (fun W' pn xe tk ps =>
      (jss_one (js_set (i := 1) sc__law_why.nd rfl (Or.inl rfl) (je_tup (ja_cons je_str (ja_cons (act _ _ _ _ _ tk) ja_nil))))))
      (JHs.cons (Ce.two ⟨by rfl, by decide, Or.inl n0_0⟩ ⟨by rfl, by decide, Or.inl n0_1⟩) mt0 (fun a dd C oe pn hz hf hx =>
      (jss_one (js_set (i := 1) sc__law_why.nd rfl (Or.inl rfl) (je_tup (ja_cons (je_xf List.mem_cons_self hx (by decide +kernel) hz hf (jv 2)) (ja_cons (je_fnF (ok__law_field T) (roomM (L2H.roomH_of (hr.mono (by decide)))) List.mem_cons_self hz hf hx (by rfl) (ja_cons (jv 2) ja_nil)) ja_nil))))))
      (JHs.cons (Ce.one ⟨by rfl, by decide, Or.inl n1_0⟩) mt1 (fun a dd C oe pn hz hf hx =>
      (jss_one (js_set (i := 1) sc__law_why.nd rfl (Or.inl rfl) (je_tup (ja_cons (je_xf List.mem_cons_self hx (by decide +kernel) hz hf (jv 2)) (ja_cons je_non ja_nil))))))
      JHs.nil)))
      (jss_one (js_ret (jv 1)))))⟩
theorem ok_law {f c Pt : Addr} {fd : FuncData} (T : Tx P K mg) (F : FnP K "law" sT_law f fd) (hc : fd.code = .ref c) (TB : LamX.TabB base mg c Pt) : FnOk P w K mg base CX0 25 f fd ["_law_script"] (SpLawT K Pt) :=
  fn_lawT (v := v_law) (q := lamQ "law") F sc_law hc (fun A outer s H E hr =>
    (jss_cons (js_set (i := 1) sc_law.nd rfl (Or.inl rfl) (je_fn (ok__law_feed T) (hr.mono (by decide)) (by rfl) (ja_cons (jv 0) ja_nil)))
      (jss_cons (js_for PassesOwn.never rfl (jf_rng1 rfl T.f_range (ja_cons je_int ja_nil)) (jg_name (i := 2) sc_law.nd rfl (Or.inl rfl))
      (jss_cons (js_asg (je_tup (ja_cons je_str (ja_cons je_str (ja_cons (je_tup (ja_cons (je_tup (ja_cons je_str (ja_cons je_str ja_nil))) ja_nil)) ja_nil)))) (jg_tup rfl (jgs_cons (jg_name (i := 3) sc_law.nd rfl (Or.inr rfl)) (jgs_cons (jg_name (i := 4) sc_law.nd rfl (Or.inr rfl)) (jgs_cons (jg_name (i := 5) sc_law.nd rfl (Or.inl rfl)) jgs_nil)))))
      (jss_cons (js_for PassesOwn.never rfl (jf_rng1 rfl T.f_range (ja_cons je_int ja_nil)) (jg_name (i := 6) sc_law.nd rfl (Or.inl rfl))
      (jss_cons (js_set (i := 7) sc_law.nd rfl (Or.inl rfl) (je_fn (ok__law_draw T) (hr.mono (by decide)) (by rfl) (ja_cons (jv 1) (ja_cons je_int ja_nil))))
      (jss_cons (js_set (i := 3) sc_law.nd rfl (Or.inr rfl) (je_op jo_add (je_ix (je_lst (ja_cons je_str (ja_cons je_str (ja_cons je_str ja_nil)))) (jv 7) (fun _ _ => rfl)) (jv 3)))
      (jss_cons (js_set (i := 4) sc_law.nd rfl (Or.inr rfl) (je_op jo_add (jv 4) (je_ix (je_lst (ja_cons je_str (ja_cons je_str (ja_cons je_str ja_nil)))) (jv 7) (fun _ _ => rfl))))
      (jss_one (js_set (i := 5) sc_law.nd rfl (Or.inl rfl) (je_tup (ja_cons (je_ix (je_lst (ja_cons (je_tup (ja_cons je_str (ja_cons je_int (ja_cons (jv 5) ja_nil)))) (ja_cons (je_tup (ja_cons je_str (ja_cons (jv 5) (ja_cons (je_tup ja_nil) ja_nil)))) (ja_cons (je_tup (ja_cons je_str (ja_cons (je_tup ja_nil) (ja_cons (jv 5) ja_nil)))) ja_nil)))) (jv 7) (fun _ _ => rfl)) ja_nil))))))))
      (jss_cons (js_if (jt_not (jt_val (je_fn (ok__law_same T 12) (hr.mono (by decide)) (by rfl) (ja_cons (je_fnX takes_none5 (ok_read_program T) (hr.mono (by decide)) (by rfl) (ja_cons (je_op jo_add (je_op jo_add (jv 3) je_str) (jv 4)) ja_nil)) (ja_cons (jv 5) ja_nil))))) (jss_one (js_ret je_bl)) jss_nil)
      (jss_cons (js_set (i := 8) sc_law.nd rfl (Or.inr rfl) (je_fn (ok__law_any T) (hr.mono (by decide)) (by rfl) (ja_cons (jv 1) (ja_cons (je_lst (ja_cons je_str (ja_cons je_str ja_nil))) ja_nil))))
      (jss_cons (js_set (i := 9) sc_law.nd rfl (Or.inl rfl) (je_op jo_add (je_op jo_sub (je_callB jo_len (by rfl) T.f_len (by decide +kernel) (ja_cons (je_bm PySem.F.plainAttrs_str PySem.F.slot_str_split PySem.F.type_str_split jm_split (jv 3) (ja_cons je_str ja_nil)) ja_nil)) je_int) (je_if (jt_cmp (jo_eq hr.units) (je_sl (jv 8) jp_no (jp_some je_int)) je_str (nomark _)) je_int je_int)))
      (jss_one (js_if (jt_cmp (jo_ne hr.units) (je_lamF (ok__law_why T) (by rfl) TB rfl (hr.mono (by decide)) (LamX.lamS_by (sc := defScope sT_law) (by decide +kernel)) rfl (fun _ _ _ _ _ => rfl) (fun A outer s H E f c' hr =>
      (je_fnX (takes_of rfl rfl rfl rfl) (ok_read_program T) (hr.mono (by decide)) (by rfl) (ja_cons (je_op jo_add (je_op jo_add (jv 3) (jv 8)) (jv 4)) ja_nil)))) (je_tup (ja_cons je_str (ja_cons (jv 9) ja_nil))) (nomark _)) (jss_one (js_ret je_bl)) jss_nil))))))))
      (jss_one (js_ret je_bl))))) w_law
end
/-! ### the head: facts by names, the run -/
def d_whole_in : He.DefD := ⟨("whole_in", none), "whole_in", "whole_in", defArgs sT_whole_in, defBody sT_whole_in, defScope sT_whole_in, [], []⟩
def d_is_name : He.DefD := ⟨("is_name", none), "is_name", "is_name", defArgs sT_is_name, defBody sT_is_name, defScope sT_is_name, [], []⟩
def d_ProgramReader___init__ : He.DefD := ⟨("ProgramReader", some "__init__"), "__init__", "ProgramReader.__init__", defArgs sT_ProgramReader___init__, defBody sT_ProgramReader___init__, defScope sT_ProgramReader___init__, [], []⟩
def d_ProgramReader_here : He.DefD := ⟨("ProgramReader", some "here"), "here", "ProgramReader.here", defArgs sT_ProgramReader_here, defBody sT_ProgramReader_here, defScope sT_ProgramReader_here, [], []⟩
def d_ProgramReader_take : He.DefD := ⟨("ProgramReader", some "take"), "take", "ProgramReader.take", defArgs sT_ProgramReader_take, defBody sT_ProgramReader_take, defScope sT_ProgramReader_take, [], []⟩
def d_ProgramReader_expect : He.DefD := ⟨("ProgramReader", some "expect"), "expect", "ProgramReader.expect", defArgs sT_ProgramReader_expect, defBody sT_ProgramReader_expect, defScope sT_ProgramReader_expect, [], []⟩
def d_ProgramReader_plain_name : He.DefD := ⟨("ProgramReader", some "plain_name"), "plain_name", "ProgramReader.plain_name", defArgs sT_ProgramReader_plain_name, defBody sT_ProgramReader_plain_name, defScope sT_ProgramReader_plain_name, [], []⟩
def d_ProgramReader_block : He.DefD := ⟨("ProgramReader", some "block"), "block", "ProgramReader.block", defArgs sT_ProgramReader_block, defBody sT_ProgramReader_block, defScope sT_ProgramReader_block, [], []⟩
def d_ProgramReader_statements : He.DefD := ⟨("ProgramReader", some "statements"), "statements", "ProgramReader.statements", defArgs sT_ProgramReader_statements, defBody sT_ProgramReader_statements, defScope sT_ProgramReader_statements, [], []⟩
def d_ProgramReader_statement : He.DefD := ⟨("ProgramReader", some "statement"), "statement", "ProgramReader.statement", defArgs sT_ProgramReader_statement, defBody sT_ProgramReader_statement, defScope sT_ProgramReader_statement, [], []⟩
def d_read_program : He.DefD := ⟨("read_program", none), "read_program", "read_program", defArgs sT_read_program, defBody sT_read_program, defScope sT_read_program, [], []⟩
def d__law_feed : He.DefD := ⟨("_law_feed", none), "_law_feed", "_law_feed", defArgs sT__law_feed, defBody sT__law_feed, defScope sT__law_feed, [], []⟩
def d__law_draw : He.DefD := ⟨("_law_draw", none), "_law_draw", "_law_draw", defArgs sT__law_draw, defBody sT__law_draw, defScope sT__law_draw, [], []⟩
def d__law_any : He.DefD := ⟨("_law_any", none), "_law_any", "_law_any", defArgs sT__law_any, defBody sT__law_any, defScope sT__law_any, [], []⟩
def d__law_same : He.DefD := ⟨("_law_same", none), "_law_same", "_law_same", defArgs sT__law_same, defBody sT__law_same, defScope sT__law_same, [], []⟩
def d__law_field : He.DefD := ⟨("_law_field", none), "_law_field", "_law_field", defArgs sT__law_field, defBody sT__law_field, defScope sT__law_field, [], []⟩
def d__law_why : He.DefD := ⟨("_law_why", none), "_law_why", "_law_why", defArgs sT__law_why, defBody sT__law_why, defScope sT__law_why, [], []⟩
def d_law : He.DefD := ⟨("law", none), "law", "law", defArgs sT_law, defBody sT_law, defScope sT_law, [], []⟩
def fns : List He.DefD := [d_whole_in, d_is_name, d_ProgramReader___init__, d_ProgramReader_here, d_ProgramReader_take, d_ProgramReader_expect, d_ProgramReader_plain_name, d_ProgramReader_block, d_ProgramReader_statements, d_ProgramReader_statement, d_read_program, d__law_feed, d__law_draw, d__law_any, d__law_same, d__law_field, d__law_why, d_law]
def fas : List He.Fa := [.glo "whole_in", .glo "is_name", .glo "ProgramReader", .glo "ProgramReader", .glo "ProgramReader", .glo "ProgramReader", .glo "ProgramReader", .glo "ProgramReader", .glo "ProgramReader", .glo "ProgramReader", .glo "read_program", .glo "_law_feed", .glo "_law_draw", .glo "_law_any", .glo "_law_same", .glo "_law_field", .glo "_law_why", .glo "law", .free "all", .free "bool", .free "dict", .free "int", .free "isinstance", .free "len", .free "list", .free "range", .free "str", .free "tuple", .free "zip", .str "DIGITS" "0123456789", .int "MAX_DEPTH" 4, .int "MAX_LETTERS" 6, .int "MAX_ROUNDS" 4, .str "NEW" "'", .str "SMALL" "abcdefghijklmnopqrstuvwxyz", .glo "ProgramReader", .cls "ProgramReader", .noat "ProgramReader" "source", .noat "ProgramReader" "spot", .mkr "ProgramReader", .meth "ProgramReader" "here", .meth "ProgramReader" "take", .meth "ProgramReader" "expect", .meth "ProgramReader" "plain_name", .meth "ProgramReader" "block", .meth "ProgramReader" "statements", .meth "ProgramReader" "statement"]
abbrev ORowW : PySem.W.OpenRow := PySem.W.OpenLaw.row PySem.Challenge.rw_tiespan_k70_blocks_four_deep
def tbs : List Tb := [mtT ["TieError", "Missing"] mt_0 xfields, mtT ["NothingLeft"] mt_1 xfields]
def xds : List XDef := [x_ParseError]
abbrev hkk : PySem.W.Hook := hookX 4 fas fns tbs xds fileN
def obb (s : PySem.W.SharedT) : AlX := obsXG 4 fas fns tbs xds fileN (HandSHeadRun.getT s)
theorem ob_eq (s : PySem.W.SharedT) : obb s = hkk.obs s.abs := obsXG_eq (HandSHeadRun.getT_eq s)
def looseN : List Str := [("divisor" : Str), ("lowest" : Str), ("add" : Str), ("negative" : Str), ("subtract" : Str), ("multiply" : Str), ("whole_in" : Str), ("unsigned_in" : Str), ("is_name" : Str), ("scale_of" : Str), ("reduced" : Str), ("turned" : Str), ("read_sum" : Str), ("read_ties" : Str), ("form_in" : Str), ("read_program" : Str), ("_law_feed" : Str), ("_law_draw" : Str), ("_law_any" : Str), ("_law_same" : Str), ("_law_field" : Str), ("_law_why" : Str), ("DIGITS" : Str), ("ZERO" : Str), ("ONE" : Str), ("SMALL" : Str), ("MAX_LETTERS" : Str), ("MAX_DIGITS" : Str), ("NEW" : Str), ("MAX_ROUNDS" : Str), ("MAX_DEPTH" : Str), ("TieError" : Str), ("Missing" : Str), ("NotTied" : Str), ("ParseError" : Str), ("NothingLeft" : Str), ("SumReader" : Str), ("ProgramReader" : Str)]
theorem runEqW (w : World) : HandSHeadRun.RunEq ORowW (PySem.W.view ORowW.prog [43]) hkk obb 6000 looseN w := by
  intro os
  kernel_rfl
theorem facts {P : Program} {w : World} {K : PySem.W.Frag} {h : Heap} {mg : Str → Option Value} {f : Addr} (hP : P.main.file = fileN) (hsup : (P.main.scope.names.lookup ("super" : Str)).isSome = false) (X : K.In h) (G : h.Ns mainGlobals mg) (hfa : mg ("law" : Str) = some (.ref f)) (c : SaysX fas fns tbs xds fileN K) :
    ∃ fd : FuncData, (∀ (s : Shared) (v : Value), BindsTo s fd ⟨[v], []⟩ [("_law_script", v)]) ∧ ∀ c Pt : Addr, lawTab K = some (c, Pt) → ∀ base : Heap, LamX.TabB base mg c Pt → FnOk P w K mg base CX0 25 f fd ["_law_script"] (SpLawT K Pt) := by
  obtain ⟨fd_0, F_0⟩ := c.d.def_ 0 (d := d_whole_in) rfl
  obtain ⟨fd_1, F_1⟩ := c.d.def_ 1 (d := d_is_name) rfl
  obtain ⟨fd_2, F_2⟩ := c.d.def_ 2 (d := d_ProgramReader___init__) rfl
  obtain ⟨fd_3, F_3⟩ := c.d.def_ 3 (d := d_ProgramReader_here) rfl
  obtain ⟨fd_4, F_4⟩ := c.d.def_ 4 (d := d_ProgramReader_take) rfl
  obtain ⟨fd_5, F_5⟩ := c.d.def_ 5 (d := d_ProgramReader_expect) rfl
  obtain ⟨fd_6, F_6⟩ := c.d.def_ 6 (d := d_ProgramReader_plain_name) rfl
  obtain ⟨fd_7, F_7⟩ := c.d.def_ 7 (d := d_ProgramReader_block) rfl
  obtain ⟨fd_8, F_8⟩ := c.d.def_ 8 (d := d_ProgramReader_statements) rfl
  obtain ⟨fd_9, F_9⟩ := c.d.def_ 9 (d := d_ProgramReader_statement) rfl
  obtain ⟨fd_10, F_10⟩ := c.d.def_ 10 (d := d_read_program) rfl
  obtain ⟨fd_11, F_11⟩ := c.d.def_ 11 (d := d__law_feed) rfl
  obtain ⟨fd_12, F_12⟩ := c.d.def_ 12 (d := d__law_draw) rfl
  obtain ⟨fd_13, F_13⟩ := c.d.def_ 13 (d := d__law_any) rfl
  obtain ⟨fd_14, F_14⟩ := c.d.def_ 14 (d := d__law_same) rfl
  obtain ⟨fd_15, F_15⟩ := c.d.def_ 15 (d := d__law_field) rfl
  obtain ⟨fd_16, F_16⟩ := c.d.def_ 16 (d := d__law_why) rfl
  obtain ⟨fd_17, F_17⟩ := c.d.def_ 17 (d := d_law) rfl
  obtain ⟨hn0, hm0⟩ := mtT_ok X G (c.tab 0 (t := mtT ["TieError", "Missing"] mt_0 xfields) rfl)
  obtain ⟨hn1, hm1⟩ := mtT_ok X G (c.tab 1 (t := mtT ["NothingLeft"] mt_1 xfields) rfl)
  have T : Tx P K mg := ⟨He.free_ok X G (c.d.fact 18 (f := .free "all") rfl), He.free_ok X G (c.d.fact 19 (f := .free "bool") rfl), He.free_ok X G (c.d.fact 20 (f := .free "dict") rfl), He.free_ok X G (c.d.fact 21 (f := .free "int") rfl), He.free_ok X G (c.d.fact 22 (f := .free "isinstance") rfl), He.free_ok X G (c.d.fact 23 (f := .free "len") rfl), He.free_ok X G (c.d.fact 24 (f := .free "list") rfl), He.free_ok X G (c.d.fact 25 (f := .free "range") rfl), He.free_ok X G (c.d.fact 26 (f := .free "str") rfl), He.free_ok X G (c.d.fact 27 (f := .free "tuple") rfl), He.free_ok X G (c.d.fact 28 (f := .free "zip") rfl), He.str_ok X G (c.d.fact 29 (f := .str "DIGITS" "0123456789") rfl), He.int_ok X G (c.d.fact 30 (f := .int "MAX_DEPTH" 4) rfl), He.int_ok X G (c.d.fact 31 (f := .int "MAX_LETTERS" 6) rfl), He.int_ok X G (c.d.fact 32 (f := .int "MAX_ROUNDS" 4) rfl), He.str_ok X G (c.d.fact 33 (f := .str "NEW" "'") rfl), He.str_ok X G (c.d.fact 34 (f := .str "SMALL" "abcdefghijklmnopqrstuvwxyz") rfl), c.xf X G hP 0 (d := x_ParseError) rfl, ⟨_, _, hn0 "TieError" (by decide +kernel), hn0 "Missing" (by decide +kernel), hm0⟩, ⟨_, hn1 "NothingLeft" (by decide +kernel), hm1⟩, hsup, ⟨_, He.glo_ok X G (c.d.fact 35 (f := .glo "ProgramReader") rfl), He.cls_ok (c.d.fact 36 (f := .cls "ProgramReader") rfl), List.forall_mem_cons.mpr ⟨He.noat_ok (c.d.fact 37 (f := .noat "ProgramReader" "source") rfl), List.forall_mem_cons.mpr ⟨He.noat_ok (c.d.fact 38 (f := .noat "ProgramReader" "spot") rfl), fun _ hz => nomatch hz⟩⟩⟩, ⟨_, _, He.glo_ok X G (c.d.fact 0 (f := .glo "whole_in") rfl), F_0⟩, ⟨_, _, He.glo_ok X G (c.d.fact 1 (f := .glo "is_name") rfl), F_1⟩, ⟨_, _, _, He.glo_ok X G (c.d.fact 2 (f := .glo "ProgramReader") rfl), He.mkr_ok (c.d.fact 39 (f := .mkr "ProgramReader") rfl), F_2⟩, ⟨_, _, _, He.glo_ok X G (c.d.fact 3 (f := .glo "ProgramReader") rfl), He.cls_ok (c.d.fact 36 (f := .cls "ProgramReader") rfl), He.meth_ok (c.d.fact 40 (f := .meth "ProgramReader" "here") rfl), F_3⟩, ⟨_, _, _, He.glo_ok X G (c.d.fact 4 (f := .glo "ProgramReader") rfl), He.cls_ok (c.d.fact 36 (f := .cls "ProgramReader") rfl), He.meth_ok (c.d.fact 41 (f := .meth "ProgramReader" "take") rfl), F_4⟩, ⟨_, _, _, He.glo_ok X G (c.d.fact 5 (f := .glo "ProgramReader") rfl), He.cls_ok (c.d.fact 36 (f := .cls "ProgramReader") rfl), He.meth_ok (c.d.fact 42 (f := .meth "ProgramReader" "expect") rfl), F_5⟩, ⟨_, _, _, He.glo_ok X G (c.d.fact 6 (f := .glo "ProgramReader") rfl), He.cls_ok (c.d.fact 36 (f := .cls "ProgramReader") rfl), He.meth_ok (c.d.fact 43 (f := .meth "ProgramReader" "plain_name") rfl), F_6⟩, ⟨_, _, _, He.glo_ok X G (c.d.fact 7 (f := .glo "ProgramReader") rfl), He.cls_ok (c.d.fact 36 (f := .cls "ProgramReader") rfl), He.meth_ok (c.d.fact 44 (f := .meth "ProgramReader" "block") rfl), F_7⟩, ⟨_, _, _, He.glo_ok X G (c.d.fact 8 (f := .glo "ProgramReader") rfl), He.cls_ok (c.d.fact 36 (f := .cls "ProgramReader") rfl), He.meth_ok (c.d.fact 45 (f := .meth "ProgramReader" "statements") rfl), F_8⟩, ⟨_, _, _, He.glo_ok X G (c.d.fact 9 (f := .glo "ProgramReader") rfl), He.cls_ok (c.d.fact 36 (f := .cls "ProgramReader") rfl), He.meth_ok (c.d.fact 46 (f := .meth "ProgramReader" "statement") rfl), F_9⟩, ⟨_, _, He.glo_ok X G (c.d.fact 10 (f := .glo "read_program") rfl), F_10⟩, ⟨_, _, He.glo_ok X G (c.d.fact 11 (f := .glo "_law_feed") rfl), F_11⟩, ⟨_, _, He.glo_ok X G (c.d.fact 12 (f := .glo "_law_draw") rfl), F_12⟩, ⟨_, _, He.glo_ok X G (c.d.fact 13 (f := .glo "_law_any") rfl), F_13⟩, ⟨_, _, He.glo_ok X G (c.d.fact 14 (f := .glo "_law_same") rfl), F_14⟩, ⟨_, _, He.glo_ok X G (c.d.fact 15 (f := .glo "_law_field") rfl), F_15⟩, ⟨_, _, He.glo_ok X G (c.d.fact 16 (f := .glo "_law_why") rfl), F_16⟩, ⟨_, _, He.glo_ok X G (c.d.fact 17 (f := .glo "law") rfl), F_17⟩⟩
  have e := hfa.symm.trans (He.glo_ok X G (c.d.fact 17 (f := .glo "law") rfl))
  cases e
  have b := FunD.bindsA (ps := ["_law_script"]) F_17 fun _ _ _ _ _ _ us hl => match us, hl with | [_], _ => rfl
  refine ⟨fd_17, fun s v => b s [v] rfl, fun c Pt hl base TB => ?_⟩
  have F' := F_17
  obtain ⟨oc, od, dV, kV, doc, pm, an, cdv, ct, osl, e1, lk, _⟩ := F'.ex
  exact ok_law T F_17 (lawTab_code hl lk) TB
end Ts
open PySem PySem.W PySem.Calls PyProof.Rows
set_option maxRecDepth 100000 in
set_option maxHeartbeats 0 in
theorem PySem.Challenge.cw_tiespan_k70_blocks_four_deep_holds : PySem.Challenge.rw_tiespan_k70_blocks_four_deep.Holds := by
  w_on; o_law
  refine HandSHeadRun.head_any (r := OpenLaw.row PySem.Challenge.rw_tiespan_k70_blocks_four_deep) (q := view (OpenLaw.row PySem.Challenge.rw_tiespan_k70_blocks_four_deep).prog [43]) (H := Ts.hkk) (ob := Ts.obb) (M := 6000) (loose := Ts.looseN) (d := HandSHeadRun.topDef (OpenLaw.row PySem.Challenge.rw_tiespan_k70_blocks_four_deep).prog 43) (kwd := []) Ts.ob_eq
    (by kernel_rfl) (fun s => by kernel_rfl) Ts.runEqW (by kernel_rfl) (by kernel_rfl) (by kernel_rfl) (by rfl) (by first | assumption | decide +kernel) (by decide +kernel) ⟨rfl, rfl, rfl, rfl, rfl, by decide +kernel⟩ ?hw ?hc
  case hw => w_witness2
  case hc =>
    refine Ts.walk_ofTB (l := PySem.Challenge.rw_tiespan_k70_blocks_four_deep) (n := 63) (k := 25) (x := "_law_script") rfl (by decide) (by kernel_rfl) ⟨rfl, by decide, by decide⟩ ?F
    intro w mg fa h Y G hmg0
    obtain ⟨K, c, Pt, KX, sx, hlt, hch, hno, hPt⟩ := Y
    have hmg : mg ("law" : PySem.Str) = some (.ref fa) := by
      have e : (HandSHeadRun.topDef (OpenLaw.row PySem.Challenge.rw_tiespan_k70_blocks_four_deep).prog 43).name = ("law" : PySem.Str) := by kernel_rfl
      rw [← e]
      exact hmg0
    obtain ⟨fd, hb, hF⟩ := Ts.facts (P := (PySem.Challenge.rw_tiespan_k70_blocks_four_deep).prog) (w := w) (by kernel_rfl) (by kernel_rfl) KX G hmg sx
    exact ⟨K, fd, c, Pt, Ts.SpLawT K Pt, KX, hPt, hno, PySem.W.codeHd_of_K KX hch, hb, fun H a ns hl hT hS => ⟨a, ns, rfl, hS, hT, hl, fun _ => rfl⟩, fun base _ _ TB => hF c Pt hlt base TB⟩

