import PyProof.Rows.All
import Wide.All
import OpenK.AllK
import Wide.FinOn
import HandS.ForMost
import HandS.ForExc
import HandS.Wide
import HandS.WideBits
import HandS.IsInst
import HandS.Defaults
import HandS.EndBits
import HandS.Star
import HandS.Zip
import HandS.Flow
import HandS.Lambda
import HandS.HeadEnd
import HandS.NoneIn
import HandS.More
import HandS.Text
import HandS.Codes
import HandS.Style
import HandS.Deep
import HandS.SetFor
import HandS.SetTxt0
import KE.KSuperObj
import HandS.SortInts
import HandS.FStr
import HandS.RaiseMore
import HandS.Dict
import HandS.HeadHook2
import KE.LtData
import HandS.DictComp
import HandS.ExcInit
import HandS.ExcSuper
import KE.KExcSuper
import KE.KExcInit
import HandS.TryMany
import HandS.ExcField
import KE.KTryMore
import PyProof.Rows.News
import HandS.HotCalls
import HandS.EndTab
import KE.KNestM
import PyProof.ListStr
import PyProof.EnumMake
import PyProof.Draws
import KE.GoesMore
import KE.KDictPairs
import PyProof.DictUpdate
import PyProof.DictDisplay
import PyProof.Rows.SortShellAny
import HandS.ClsMeth
import HandS.Head0
import PyProof.CollectIter
import PyProof.WalksMore
import HandS.Finally
import PyProof.RulesMatchSeq
import PyProof.Rows.MatchSeqLen
import KE.KStateDown
import HandS.Head1
import HandS.Head2
import HandS.HeadHook1
import PySem.Challenge.RW_tiespan_k40_programs_run
set_option Elab.async false
set_option linter.all false
set_option maxRecDepth 100000
set_option maxHeartbeats 2000000
set_option maxHeartbeats 8000000
/-! Fractions in lowest terms, plain. -/
namespace Fr
/-- what lowest computes -/
def low (a b : Int) : Int × Int := let g : Int := (Int.gcd a b : Int); let p := if b < 0 then -g else g; (a.fdiv p, b.fdiv p)
theorem fdiv_of_mul {a p q : Int} (hp : p ≠ 0) (h : a = q * p) : a.fdiv p = q := by
  rw [h, Int.mul_fdiv_cancel q hp]
/-- a fraction: the denominator above 0, lowest terms -/
def Ok (f : Int × Int) : Prop := 0 < f.2 ∧ Int.gcd f.1 f.2 = 1
theorem low_spec {a b : Int} (hb : b ≠ 0) : ∃ p : Int, p ≠ 0 ∧ a = (low a b).1 * p ∧ b = (low a b).2 * p ∧ 0 < (low a b).2 ∧ Int.gcd (low a b).1 (low a b).2 = 1 ∧ p.natAbs = Int.gcd a b := by
  have hg : 0 < Int.gcd a b := Int.gcd_pos_of_ne_zero_right a hb
  obtain ⟨a', ha⟩ := Int.gcd_dvd_left (a := a) (b := b)
  obtain ⟨b', hb'⟩ := Int.gcd_dvd_right (a := a) (b := b)
  have hco : Int.gcd a' b' = 1 := by
    have h1 : Int.gcd (((Int.gcd a b : Nat) : Int) * a') (((Int.gcd a b : Nat) : Int) * b') = Int.gcd a b * Int.gcd a' b' := by
      rw [Int.gcd_mul_left, Int.natAbs_natCast]
    rw [← ha, ← hb'] at h1
    have h2 : Int.gcd a b * 1 = Int.gcd a b * Int.gcd a' b' := by rw [Nat.mul_one]; exact h1
    exact (Nat.eq_of_mul_eq_mul_left hg h2).symm
  generalize hG : ((Int.gcd a b : Nat) : Int) = g at ha hb'
  have hgp : 0 < g := by omega
  by_cases hn : b < 0
  · have e : low a b = (-a', -b') := by
      unfold low
      simp only [hG, if_pos hn]
      rw [fdiv_of_mul (q := -a') (by omega) (by rw [Int.neg_mul_neg, Int.mul_comm]; exact ha), fdiv_of_mul (q := -b') (by omega) (by rw [Int.neg_mul_neg, Int.mul_comm]; exact hb')]
    rw [e]
    refine ⟨-g, by omega, by show a = -a' * -g; rw [Int.neg_mul_neg, Int.mul_comm]; exact ha, by show b = -b' * -g; rw [Int.neg_mul_neg, Int.mul_comm]; exact hb', ?_, ?_, ?_⟩
    · show 0 < -b'
      have : ¬ 0 ≤ b' := fun z => by
        have := Int.mul_nonneg (Int.le_of_lt hgp) z
        omega
      omega
    · show Int.gcd (-a') (-b') = 1
      rw [Int.gcd_neg, Int.neg_gcd]; exact hco
    · rw [Int.natAbs_neg, ← hG]; simp
  · have e : low a b = (a', b') := by
      unfold low
      simp only [hG, if_neg hn]
      rw [fdiv_of_mul (q := a') (by omega) (by rw [Int.mul_comm]; exact ha), fdiv_of_mul (q := b') (by omega) (by rw [Int.mul_comm]; exact hb')]
    rw [e]
    refine ⟨g, by omega, by show a = a' * g; rw [Int.mul_comm]; exact ha, by show b = b' * g; rw [Int.mul_comm]; exact hb', ?_, hco, by rw [← hG]; simp⟩
    show 0 < b'
    have h0 : ¬ b' ≤ 0 := fun z => by
      have := Int.mul_nonneg (Int.le_of_lt hgp) (show 0 ≤ -b' by omega)
      rw [Int.mul_neg] at this
      omega
    omega
theorem low_ok {a b : Int} (hb : b ≠ 0) : Ok (low a b) := by
  obtain ⟨p, h1, h2, h3, h4, h5, _⟩ := low_spec (a := a) hb
  exact ⟨h4, h5⟩
theorem low_eq {a b : Int} (hb : b ≠ 0) : (low a b).1 * b = a * (low a b).2 := by
  obtain ⟨p, h1, h2, h3, _⟩ := low_spec (a := a) hb
  rw [show (low a b).1 * b = (low a b).1 * ((low a b).2 * p) by rw [← h3], show a * (low a b).2 = (low a b).1 * p * (low a b).2 by rw [← h2]]
  rw [Int.mul_assoc, Int.mul_comm p]
theorem low_abs {a b : Int} (hb : b ≠ 0) : (low a b).1.natAbs ≤ a.natAbs ∧ (low a b).2.natAbs ≤ b.natAbs := by
  obtain ⟨p, h1, h2, h3, _⟩ := low_spec (a := a) hb
  have hp : 0 < p.natAbs := by omega
  constructor
  · have : a.natAbs = (low a b).1.natAbs * p.natAbs := by rw [← Int.natAbs_mul, ← h2]
    rw [this]; exact Nat.le_mul_of_pos_right _ hp
  · have : b.natAbs = (low a b).2.natAbs * p.natAbs := by rw [← Int.natAbs_mul, ← h3]
    rw [this]; exact Nat.le_mul_of_pos_right _ hp
theorem dvd_co {a b d : Int} (h : Int.gcd a b = 1) (hd : b ∣ a * d) : b ∣ d := by
  have h1 : b.natAbs ∣ a.natAbs * d.natAbs := by rw [← Int.natAbs_mul]; exact Int.natAbs_dvd_natAbs.mpr hd
  have h2 : Nat.Coprime b.natAbs a.natAbs := by show Nat.gcd b.natAbs a.natAbs = 1; rw [Nat.gcd_comm]; exact h
  exact Int.natAbs_dvd_natAbs.mp (h2.dvd_of_dvd_mul_left h1)
/-- two fractions that are worth the same are one -/
theorem Ok.ext {f g : Int × Int} (hf : Ok f) (hg : Ok g) (h : f.1 * g.2 = g.1 * f.2) : f = g := by
  obtain ⟨a, b⟩ := f
  obtain ⟨c, d⟩ := g
  obtain ⟨h1, h2⟩ := hf
  obtain ⟨h3, h4⟩ := hg
  simp only at h1 h2 h3 h4 h
  have d1 : b ∣ d := by
    have : b ∣ a * d := ⟨c, by rw [h, Int.mul_comm]⟩
    exact dvd_co h2 this
  have d2 : d ∣ b := by
    have : d ∣ c * b := ⟨a, by rw [← h, Int.mul_comm]⟩
    exact dvd_co h4 this
  have e : b = d := Int.dvd_antisymm (by omega) (by omega) d1 d2
  subst e
  have : a = c := Int.eq_of_mul_eq_mul_right (by omega) h
  rw [this]
theorem low_unique {a b : Int} {f : Int × Int} (hb : b ≠ 0) (hf : Ok f) (h : f.1 * b = a * f.2) : low a b = f := by
  have h1 := low_ok (a := a) hb
  have h2 := low_eq (a := a) hb
  refine h1.ext hf ?_
  have : (low a b).1 * f.2 * b = f.1 * (low a b).2 * b := by
    rw [Int.mul_assoc, Int.mul_comm f.2, ← Int.mul_assoc, h2, Int.mul_assoc, Int.mul_comm (low a b).2, ← Int.mul_assoc, ← h, Int.mul_assoc, Int.mul_comm b, ← Int.mul_assoc]
  exact Int.eq_of_mul_eq_mul_right hb this
end Fr
/-! Ts: data, what stands for it in a frozen part of the heap, a memory of things that change, and a calculus over both. -/
namespace Ts
open PySem L2

/-- data -/
inductive D where
  | non | bl (b : Bool) | int (i : Int) | str (x : Str)
  | lst (ds : List D) | tup (ds : List D)
  /-- a tuple of which nothing more is known (a pair of zip, a star's) -/
  | pr (ds : List D)
  | dic (kvs : List (Key × D)) | dit (kvs : List (List Key × D))
  | obj (C : Str) (fs : List (Str × D))
  | feed
  | lat (a : Addr) (ds : List D)
  | ref (a : Addr)
  /-- an exception: where it stands, its dict, its fields -/
  | exn (a dd : Addr) (fs : List (Str × D))
  /-- a lambda of no parameters: its code object, the names of the frame that made it -/
  | clo (f c : Addr) (q : Str) (σ : List (Option V)) (sl : List (Option D))
  | oth (v : V)
/-- a thing that changes -/
inductive MO where
  | lst (ds : List D) | dic (kvs : List (Key × D)) | dit (kvs : List (List Key × D)) | ins (C : Str) (fs : List (Str × D))
  /-- a dict while it is walked -/
  | lck (kvs : List (Key × D))
  /-- the table of code objects of the name q -/
  | tab (q : Str)
/-- the memory: the things that change, by their addresses -/
abbrev Mem := Addr → Option MO
def mset (m : Mem) (a : Addr) (o : MO) : Mem := fun b => if b = a then some o else m b
def mdel (m : Mem) (a : Addr) : Mem := fun b => if b = a then none else m b
theorem mset_same {m : Mem} {a : Addr} {o : MO} : mset m a o a = some o := if_pos rfl
theorem mset_ne {m : Mem} {a b : Addr} {o : MO} (h : b ≠ a) : mset m a o b = m b := if_neg h
theorem mdel_same {m : Mem} {a : Addr} : mdel m a a = none := if_pos rfl
theorem mdel_ne {m : Mem} {a b : Addr} (h : b ≠ a) : mdel m a b = m b := if_neg h
theorem mset_mset {m : Mem} {a : Addr} {o u : MO} : mset (mset m a o) a u = mset m a u := by
  funext b; unfold mset; split <;> rfl
theorem mdel_mset {m : Mem} {a : Addr} {o : MO} (h : m a = none) : mdel (mset m a o) a = m := by
  funext b; unfold mdel mset; split
  · rename_i e; rw [e, h]
  · rfl
def MLe (m m' : Mem) : Prop := ∀ a o, m a = some o → m' a = some o
theorem MLe.refl (m : Mem) : MLe m m := fun _ _ h => h
/-- an exception: its class by name, its attributes -/
structure XD where
  cls : Str
  fs : List (Str × D)

/-- what the law's feed is, whatever it holds: a list of four, its cells a list of ints -/
def feedP (cs : Addr) (a : Addr) (h : Heap) : Prop := ∃ (its : List Value) (n : Nat) (i j m : Int), h.get? a = some { cls := .type "list", data := .seq its.toArray n } ∧ Vals [.ref cs, .int i, .int j, .int m] its ∧ 0 ≤ i
def feedO (cs a : Addr) : HO := .ext (feedP cs a)

/-- a tuple that has no dict -/
def SqN (K : PySem.W.Frag) (F : Hp) (a : Addr) (xs : List V) : Prop := (∃ o : Obj, F a = some (.frz o (.tup xs)) ∧ o.dict = none) ∨
  ∃ (o : Obj) (its : Array Value) (n : Nat), K.lookup a = some o ∧ o.cls = .type "tuple" ∧ o.dict = none ∧ o.data = .seq its n ∧ its.size ≤ sizeLine ∧ Vals xs its.toList
theorem SqN.sqt {K : PySem.W.Frag} {F : Hp} {a : Addr} {xs : List V} (h : SqN K F a xs) : SqT K F a xs := by
  rcases h with ⟨o, h, _⟩ | ⟨o, its, n, h1, h2, _, h3, h4, h5⟩
  · exact .inl (.inr ⟨o, h⟩)
  · exact .inr ⟨o, its, n, h1, h2, h3, h4, h5⟩
mutual
inductive Rp (K : PySem.W.Frag) (mg : Str → Option Value) (F : Hp) : V → D → Prop
  | non : Rp K mg F .non .non
  | bl (b : Bool) : Rp K mg F (.bl b) (.bl b)
  | int (i : Int) : Rp K mg F (.int i) (.int i)
  | str (x : Str) : Rp K mg F (.str x) (.str x)
  | lst {a : Addr} {xs : List V} {ds : List D} : F a = some (.lst xs) → RpL K mg F xs ds → Rp K mg F (.ref a) (.lst ds)
  | tup {a : Addr} {xs : List V} {ds : List D} : SqN K F a xs → RpL K mg F xs ds → Rp K mg F (.ref a) (.tup ds)
  | pr {a : Addr} {xs : List V} {ds : List D} : F a = some (.tup xs) → RpL K mg F xs ds → Rp K mg F (.ref a) (.pr ds)
  | dic {a : Addr} {o : Obj} {xs : List (Key × V)} {ds : List (Key × D)} : F a = some (.frz o (.dK xs)) → RpK K mg F xs ds → Rp K mg F (.ref a) (.dic ds)
  | dit {a : Addr} {xs : List (List Key × V)} {ds : List (List Key × D)} : F a = some (.dT xs) → RpK K mg F xs ds → Rp K mg F (.ref a) (.dit ds)
  | obj {a Ca dx : Addr} {C : Str} {xs : List (Str × V)} {ds : List (Str × D)} : mg C = some (.ref Ca) → F a = some (.ins Ca dx xs) → RpK K mg F xs ds → Rp K mg F (.ref a) (.obj C ds)
  | feed {a cs : Addr} {ns : List Int} : F a = some (feedO cs a) → SqL K F cs (ns.map V.int) → Rp K mg F (.ref a) .feed
  | lat {a : Addr} {xs : List V} {ds : List D} : SqL K F a xs → RpL K mg F xs ds → Rp K mg F (.ref a) (.lat a ds)
  | ref (a : Addr) : Rp K mg F (.ref a) (.ref a)
  | exn {a dd : Addr} {xs : List (Str × V)} {ds : List (Str × D)} : F dd = some (.xd xs) → RpK K mg F xs ds → Rp K mg F (.ref a) (.exn a dd ds)
  | clo {f c : Addr} {q : Str} {σ : List (Option V)} {sl : List (Option D)} : F c = some (LamX.CodeO c q) → RpS K mg F σ sl → Rp K mg F (.ref f) (.clo f c q σ sl)
  | oth (v : V) : Rp K mg F v (.oth v)
inductive RpL (K : PySem.W.Frag) (mg : Str → Option Value) (F : Hp) : List V → List D → Prop
  | nil : RpL K mg F [] []
  | cons {v : V} {vs : List V} {d : D} {ds : List D} : Rp K mg F v d → RpL K mg F vs ds → RpL K mg F (v :: vs) (d :: ds)
inductive RpS (K : PySem.W.Frag) (mg : Str → Option Value) (F : Hp) : List (Option V) → List (Option D) → Prop
  | nil : RpS K mg F [] []
  | no {o : Option V} {vs : List (Option V)} {ds : List (Option D)} : RpS K mg F vs ds → RpS K mg F (o :: vs) (none :: ds)
  | yes {v : V} {vs : List (Option V)} {d : D} {ds : List (Option D)} : Rp K mg F v d → RpS K mg F vs ds → RpS K mg F (some v :: vs) (some d :: ds)
inductive RpK (K : PySem.W.Frag) (mg : Str → Option Value) (F : Hp) : {κ : Type} → List (κ × V) → List (κ × D) → Prop
  | nil {κ : Type} : RpK K mg F (κ := κ) [] []
  | cons {κ : Type} {k : κ} {v : V} {vs : List (κ × V)} {d : D} {ds : List (κ × D)} : Rp K mg F v d → RpK K mg F vs ds → RpK K mg F ((k, v) :: vs) ((k, d) :: ds)
end

/-- more is frozen -/
def Gr (F F' : Hp) : Prop := ∀ a o, F a = some o → F' a = some o
theorem Gr.refl (F : Hp) : Gr F F := fun _ _ h => h
theorem Gr.trans {F F1 F2 : Hp} (a : Gr F F1) (b : Gr F1 F2) : Gr F F2 := fun x o h => b x o (a x o h)
theorem Gr.rd {F F' : Hp} (g : Gr F F') {a : Addr} {o : HO} (h : Rd F a o) : Rd F' a o := by
  rcases h with h | ⟨od, h⟩
  · exact .inl (g _ _ h)
  · exact .inr ⟨od, g _ _ h⟩
theorem Gr.sql {K : PySem.W.Frag} {F F' : Hp} (g : Gr F F') {a : Addr} {xs : List V} (h : SqL K F a xs) : SqL K F' a xs := h.imp g.rd id
theorem Gr.sqn {K : PySem.W.Frag} {F F' : Hp} (g : Gr F F') {a : Addr} {xs : List V} (h : SqN K F a xs) : SqN K F' a xs := h.imp (fun ⟨o, h, d⟩ => ⟨o, g _ _ h, d⟩) id
theorem Gr.sqt {K : PySem.W.Frag} {F F' : Hp} (g : Gr F F') {a : Addr} {xs : List V} (h : SqT K F a xs) : SqT K F' a xs := h.imp g.rd id

section
variable {K : PySem.W.Frag} {mg : Str → Option Value} {F F' : Hp}
mutual
theorem Rp.mono (g : Gr F F') : ∀ {v : V} {d : D}, Rp K mg F v d → Rp K mg F' v d
  | _, _, .non => .non
  | _, _, .bl b => .bl b
  | _, _, .int i => .int i
  | _, _, .str x => .str x
  | _, _, .lst s r => .lst (g _ _ s) (RpL.mono g r)
  | _, _, .tup s r => .tup (g.sqn s) (RpL.mono g r)
  | _, _, .pr s r => .pr (g _ _ s) (RpL.mono g r)
  | _, _, .dic s r => .dic (g _ _ s) (RpK.mono g r)
  | _, _, .dit s r => .dit (g _ _ s) (RpK.mono g r)
  | _, _, .obj n s r => .obj n (g _ _ s) (RpK.mono g r)
  | _, _, .feed s r => .feed (g _ _ s) (g.sql r)
  | _, _, .lat s r => .lat (g.sql s) (RpL.mono g r)
  | _, _, .ref a => .ref a
  | _, _, .exn s r => .exn (g _ _ s) (RpK.mono g r)
  | _, _, .clo s r => .clo (g _ _ s) (RpS.mono g r)
  | _, _, .oth v => .oth v
theorem RpL.mono (g : Gr F F') : ∀ {v : List V} {d : List D}, RpL K mg F v d → RpL K mg F' v d
  | _, _, .nil => .nil
  | _, _, .cons r s => .cons (Rp.mono g r) (RpL.mono g s)
theorem RpS.mono (g : Gr F F') : ∀ {v : List (Option V)} {d : List (Option D)}, RpS K mg F v d → RpS K mg F' v d
  | _, _, .nil => .nil
  | _, _, .no s => .no (RpS.mono g s)
  | _, _, .yes r s => .yes (Rp.mono g r) (RpS.mono g s)
theorem RpK.mono (g : Gr F F') : ∀ {κ : Type} {v : List (κ × V)} {d : List (κ × D)}, RpK K mg F v d → RpK K mg F' v d
  | _, _, _, .nil => .nil
  | _, _, _, .cons r s => .cons (Rp.mono g r) (RpK.mono g s)
end
theorem RpS.len : ∀ {vs : List (Option V)} {ds : List (Option D)}, RpS K mg F vs ds → vs.length = ds.length
  | _, _, .nil => rfl
  | _, _, .no s => congrArg Nat.succ (RpS.len s)
  | _, _, .yes _ s => congrArg Nat.succ (RpS.len s)
theorem RpS.at : ∀ {vs : List (Option V)} {ds : List (Option D)} {i : Nat} {d : D}, RpS K mg F vs ds → ds[i]? = some (some d) → ∃ v, vs[i]? = some (some v) ∧ Rp K mg F v d
  | _, _, _, _, .nil, h => by simp at h
  | _, _, 0, _, .no _, h => by simp at h
  | _, _, 0, _, .yes r _, h => by simp at h; subst h; exact ⟨_, rfl, r⟩
  | _, _, i + 1, _, .no s, h => by
    obtain ⟨v, h1, h2⟩ := RpS.at (i := i) s (by simpa using h)
    exact ⟨v, by simpa using h1, h2⟩
  | _, _, i + 1, _, .yes _ s, h => by
    obtain ⟨v, h1, h2⟩ := RpS.at (i := i) s (by simpa using h)
    exact ⟨v, by simpa using h1, h2⟩
theorem RpS.of : ∀ {vs : List (Option V)} {ds : List (Option D)}, vs.length = ds.length → (∀ (i : Nat) d, ds[i]? = some (some d) → ∃ v, vs[i]? = some (some v) ∧ Rp K mg F v d) → RpS K mg F vs ds
  | [], [], _, _ => .nil
  | [], _ :: _, h, _ => by simp at h
  | _ :: _, [], h, _ => by simp at h
  | o :: vs, none :: ds, h, hi => .no (RpS.of (by simpa using h) fun i d e => by
    obtain ⟨v, h1, h2⟩ := hi (i + 1) d (by simpa using e)
    exact ⟨v, by simpa using h1, h2⟩)
  | o :: vs, some d :: ds, h, hi => by
    obtain ⟨v, h1, h2⟩ := hi 0 d (by simp)
    have h1 : o = some v := by simpa using h1
    subst h1
    exact .yes h2 (RpS.of (by simpa using h) fun i d e => by
      obtain ⟨v, h1, h2⟩ := hi (i + 1) d (by simpa using e)
      exact ⟨v, by simpa using h1, h2⟩)
theorem RpL.len : ∀ {vs : List V} {ds : List D}, RpL K mg F vs ds → vs.length = ds.length
  | _, _, .nil => rfl
  | _, _, .cons _ s => congrArg Nat.succ (RpL.len s)
theorem RpL.at : ∀ {vs : List V} {ds : List D} {i : Nat} {d : D}, RpL K mg F vs ds → ds[i]? = some d → ∃ v, vs[i]? = some v ∧ Rp K mg F v d
  | _, _, _, _, .nil, h => by simp at h
  | _, _, 0, _, .cons r _, h => by simp at h; subst h; exact ⟨_, rfl, r⟩
  | _, _, i + 1, _, .cons _ s, h => by
    obtain ⟨v, h1, h2⟩ := RpL.at (i := i) s (by simpa using h)
    exact ⟨v, by simpa using h1, h2⟩
theorem RpL.atV : ∀ {vs : List V} {ds : List D} {i : Nat} {v : V}, RpL K mg F vs ds → vs[i]? = some v → ∃ d, ds[i]? = some d ∧ Rp K mg F v d
  | _, _, _, _, .nil, h => by simp at h
  | _, _, 0, _, .cons r _, h => by simp at h; subst h; exact ⟨_, rfl, r⟩
  | _, _, i + 1, _, .cons _ s, h => by
    obtain ⟨v, h1, h2⟩ := RpL.atV (i := i) s (by simpa using h)
    exact ⟨v, by simpa using h1, h2⟩
theorem RpL.app : ∀ {vs ws : List V} {ds es : List D}, RpL K mg F vs ds → RpL K mg F ws es → RpL K mg F (vs ++ ws) (ds ++ es)
  | _, _, _, _, .nil, s => s
  | _, _, _, _, .cons r t, s => .cons r (RpL.app t s)
theorem RpL.drop : ∀ {vs : List V} {ds : List D} (n : Nat), RpL K mg F vs ds → RpL K mg F (vs.drop n) (ds.drop n)
  | _, _, 0, r => r
  | _, _, _ + 1, .nil => .nil
  | _, _, n + 1, .cons _ s => RpL.drop n s
theorem RpL.take : ∀ {vs : List V} {ds : List D} (n : Nat), RpL K mg F vs ds → RpL K mg F (vs.take n) (ds.take n)
  | _, _, 0, _ => .nil
  | _, _, _ + 1, .nil => .nil
  | _, _, n + 1, .cons r s => .cons r (RpL.take n s)
theorem RpL.set {v : V} {d : D} (r : Rp K mg F v d) : ∀ {vs : List V} {ds : List D} (i : Nat), RpL K mg F vs ds → RpL K mg F (vs.set i v) (ds.set i d)
  | _, _, _, .nil => .nil
  | _, _, 0, .cons _ s => .cons r s
  | _, _, i + 1, .cons q s => .cons q (RpL.set r i s)
theorem RpL.rep {v : V} {d : D} (r : Rp K mg F v d) : ∀ n : Nat, RpL K mg F (List.replicate n v) (List.replicate n d)
  | 0 => .nil
  | n + 1 => .cons r (RpL.rep r n)
theorem RpL.ints : ∀ ns : List Int, RpL K mg F (ns.map V.int) (ns.map D.int)
  | [] => .nil
  | n :: ns => .cons (.int n) (RpL.ints ns)
theorem RpL.strs : ∀ ns : List Str, RpL K mg F (ns.map V.str) (ns.map D.str)
  | [] => .nil
  | n :: ns => .cons (.str n) (RpL.strs ns)
theorem RpL.atI {vs : List V} {ds : List D} {i : Int} {d : D} (r : RpL K mg F vs ds) (h : L2.atI ds i = some d) : ∃ v, L2.atI vs i = some v ∧ Rp K mg F v d := by
  unfold L2.atI at h ⊢
  rw [r.len]
  cases e : ixN ds.length i with
  | none => rw [e] at h; cases h
  | some j =>
    rw [e] at h
    obtain ⟨v, h1, h2⟩ := r.at (i := j) h
    exact ⟨v, h1, h2⟩
theorem RpK.len : ∀ {κ : Type} {vs : List (κ × V)} {ds : List (κ × D)}, RpK K mg F vs ds → vs.length = ds.length
  | _, _, _, .nil => rfl
  | _, _, _, .cons _ s => congrArg Nat.succ (RpK.len s)
theorem RpK.keys : ∀ {κ : Type} {vs : List (κ × V)} {ds : List (κ × D)}, RpK K mg F vs ds → vs.map (·.1) = ds.map (·.1)
  | _, _, _, .nil => rfl
  | _, _, _, .cons _ s => by rw [List.map_cons, List.map_cons, RpK.keys s]
theorem RpK.lookup {κ : Type} [BEq κ] {k : κ} : ∀ {vs : List (κ × V)} {ds : List (κ × D)} {d : D}, RpK K mg F vs ds → ds.lookup k = some d → ∃ v, vs.lookup k = some v ∧ Rp K mg F v d
  | _, _, _, .nil, h => by cases h
  | _, _, d, .cons (k := k') (v := v) (d := d') r s, h => by
    simp only [List.lookup_cons] at h ⊢
    cases e : (k == k') with
    | true => rw [e] at h; cases h; exact ⟨v, rfl, r⟩
    | false => rw [e] at h; exact RpK.lookup s h
theorem RpK.lookupN {κ : Type} [BEq κ] {k : κ} : ∀ {vs : List (κ × V)} {ds : List (κ × D)}, RpK K mg F vs ds → ds.lookup k = none → vs.lookup k = none
  | _, _, .nil, _ => rfl
  | _, _, .cons (k := k') r s, h => by
    simp only [List.lookup_cons] at h ⊢
    cases e : (k == k') with
    | true => rw [e] at h; cases h
    | false => rw [e] at h; exact RpK.lookupN s h
end

/-- what is frozen stands (a dict may be locked while it is walked) -/
def isD : HO → Prop
  | .dK _ => True
  | .dT _ => True
  | _ => False
def Le (F H : Hp) : Prop := ∀ a o, F a = some o → H a = some o ∨ (isD o ∧ ∃ od, H a = some (.frz od o))
theorem Le.at {F H : Hp} (l : Le F H) {a : Addr} {o : HO} (h : F a = some o) (n : ¬ isD o) : H a = some o := (l _ _ h).elim id fun z => absurd z.1 n
theorem Le.rdl {F H : Hp} (l : Le F H) {a : Addr} {xs : List V} (h : Rd F a (.lst xs)) : Rd H a (.lst xs) := by
  rcases h with h | ⟨od, h⟩
  · exact .inl (l.at h id)
  · exact .inr ⟨od, l.at h id⟩
theorem Le.rdt {F H : Hp} (l : Le F H) {a : Addr} {xs : List V} (h : Rd F a (.tup xs)) : Rd H a (.tup xs) := by
  rcases h with h | ⟨od, h⟩
  · exact .inl (l.at h id)
  · exact .inr ⟨od, l.at h id⟩
theorem Le.lst {F H : Hp} (l : Le F H) {a : Addr} {xs : List V} (h : F a = some (.lst xs)) : H a = some (.lst xs) := l.at h id
theorem Le.ins {F H : Hp} (l : Le F H) {a C dx : Addr} {fs : List (Str × V)} (h : F a = some (.ins C dx fs)) : H a = some (.ins C dx fs) := l.at h id
theorem Le.ext {F H : Hp} (l : Le F H) {a : Addr} {p : Heap → Prop} (h : F a = some (.ext p)) : H a = some (.ext p) := l.at h id
theorem Le.some {F H : Hp} (l : Le F H) {a : Addr} {o : HO} (h : F a = some o) : H a ≠ none := by
  rcases l _ _ h with h | ⟨_, od, h⟩ <;> rw [h] <;> simp
theorem Le.none {F H : Hp} (l : Le F H) {a : Addr} (h : H a = none) : F a = none := by
  cases e : F a with
  | none => rfl
  | some o => exact absurd h (l.some e)
section
variable {K : PySem.W.Frag}
theorem Le.sql {F H : Hp} (l : Le F H) {a : Addr} {xs : List V} (h : SqL K F a xs) : SqL K H a xs := h.imp l.rdl id
theorem Le.sqt {F H : Hp} (l : Le F H) {a : Addr} {xs : List V} (h : SqT K F a xs) : SqT K H a xs := h.imp l.rdt id
end

/-- a step that changes nothing of what was tracked; what is newly frozen is new -/
structure Step (F H F' H' : Hp) : Prop where
  ex : ∀ a o, H a = some o → H' a = some o
  gr : Gr F F'
  le : Le F' H'
  nw : ∀ a o, F' a = some o → F a = some o ∨ H a = none
theorem Step.refl {F H : Hp} (l : Le F H) : Step F H F H := ⟨fun _ _ h => h, Gr.refl F, l, fun _ _ h => .inl h⟩
theorem Step.back {F H F' H' : Hp} (s : Step F H F' H') {a : Addr} (h : H' a = none) : H a = none := by
  cases e : H a with
  | none => rfl
  | some o => rw [s.ex _ _ e] at h; cases h
theorem Step.trans {F H F1 H1 F2 H2 : Hp} (s : Step F H F1 H1) (t : Step F1 H1 F2 H2) : Step F H F2 H2 :=
  ⟨fun a o h => t.ex a o (s.ex a o h), s.gr.trans t.gr, t.le, fun a o h => by
    rcases t.nw a o h with h | h
    · exact s.nw a o h
    · exact .inr (s.back h)⟩
theorem Step.ext {F H H' : Hp} (l : Le F H) (h : ∀ a o, H a = some o → H' a = some o) : Step F H F H' :=
  ⟨h, Gr.refl F, fun a o e => (l a o e).imp (h _ _) (fun ⟨x, od, y⟩ => ⟨x, od, h _ _ y⟩), fun _ _ h => .inl h⟩
/-- a new object is laid and frozen -/
theorem Step.new {F H : Hp} {p : Addr} {o : HO} (l : Le F H) (h : H p = none) : Step F H (upd F p o) (upd H p o) := by
  have fp := l.none h
  refine ⟨fun a u e => by rw [upd_ne (ne_of_none e h)]; exact e, fun a u e => by rw [upd_ne (ne_of_none e fp)]; exact e, fun a u e => ?_, fun a u e => ?_⟩
  · by_cases ha : a = p
    · subst ha; rw [upd_same] at e ⊢; exact .inl e
    · rw [upd_ne ha] at e ⊢
      exact l a u e
  · by_cases ha : a = p
    · subst ha; exact .inr h
    · rw [upd_ne ha] at e; exact .inl e
theorem gr_upd {F : Hp} {p : Addr} {o : HO} (hf : F p = none) : Gr F (upd F p o) := fun a u e => by rw [upd_ne (ne_of_none e hf)]; exact e

/-! ### the memory -/
def MoR (K : PySem.W.Frag) (mg : Str → Option Value) (F H : Hp) (a : Addr) : MO → Prop
  | .lst ds => ∃ xs, H a = some (.lst xs) ∧ RpL K mg F xs ds
  | .dic ds => ∃ xs, H a = some (.dK xs) ∧ RpK K mg F xs ds
  | .dit ds => ∃ xs, H a = some (.dT xs) ∧ RpK K mg F xs ds
  | .ins C ds => ∃ Ca dx xs, mg C = some (.ref Ca) ∧ H a = some (.ins Ca dx xs) ∧ RpK K mg F xs ds
  | .lck ds => ∃ o xs, H a = some (.frz o (.dK xs)) ∧ RpK K mg F xs ds
  | .tab q => ∃ ps : Array Value, H a = some (.tbl ps) ∧ TriplesOk ps.toList ∧ ∀ (pos : Pos) (cv : Value), codeAmong pos ps.toList = some cv → ∃ c, cv = .ref c ∧ F c = some (LamX.CodeO c q)
def MO.isL : MO → Bool
  | .lck _ => true
  | _ => false
def MO.isK : MO → Bool
  | .dic _ => true
  | _ => false
def MemR (K : PySem.W.Frag) (mg : Str → Option Value) (F H : Hp) (m : Mem) : Prop := ∀ a o, m a = some o → F a = none ∧ MoR K mg F H a o
section
variable {K : PySem.W.Frag} {mg : Str → Option Value} {F H F' H' : Hp} {m m' : Mem}
theorem MoR.there {a : Addr} {o : MO} (h : MoR K mg F H a o) : H a ≠ none := by
  cases o with
  | lst ds => obtain ⟨_, e, _⟩ := h; rw [e]; simp
  | dic ds => obtain ⟨_, e, _⟩ := h; rw [e]; simp
  | dit ds => obtain ⟨_, e, _⟩ := h; rw [e]; simp
  | ins C ds => obtain ⟨_, _, _, _, e, _⟩ := h; rw [e]; simp
  | lck ds => obtain ⟨_, _, e, _⟩ := h; rw [e]; simp
  | tab q => obtain ⟨_, e, _⟩ := h; rw [e]; simp
theorem MoR.notz {a : Addr} {o : MO} (h : MoR K mg F H a o) (n : o.isL = false) (ob : Obj) (u : HO) : H a ≠ some (.frz ob u) := by
  cases o with
  | lst ds => obtain ⟨_, e, _⟩ := h; rw [e]; simp
  | dic ds => obtain ⟨_, e, _⟩ := h; rw [e]; simp
  | dit ds => obtain ⟨_, e, _⟩ := h; rw [e]; simp
  | ins C ds => obtain ⟨_, _, _, _, e, _⟩ := h; rw [e]; simp
  | lck ds => cases n
  | tab q => obtain ⟨_, e, _⟩ := h; rw [e]; simp
theorem MoR.keep {a : Addr} {o : MO} (h : MoR K mg F H a o) (g : Gr F F') (e : ∀ u, H a = some u → H' a = some u) : MoR K mg F' H' a o := by
  cases o with
  | lst ds => obtain ⟨xs, q, r⟩ := h; exact ⟨xs, e _ q, r.mono g⟩
  | dic ds => obtain ⟨xs, q, r⟩ := h; exact ⟨xs, e _ q, r.mono g⟩
  | dit ds => obtain ⟨xs, q, r⟩ := h; exact ⟨xs, e _ q, r.mono g⟩
  | ins C ds => obtain ⟨Ca, dx, xs, z, q, r⟩ := h; exact ⟨Ca, dx, xs, z, e _ q, r.mono g⟩
  | lck ds => obtain ⟨o, xs, q, r⟩ := h; exact ⟨o, xs, e _ q, r.mono g⟩
  | tab q => obtain ⟨ps, h1, h2, h3⟩ := h; exact ⟨ps, e _ h1, h2, fun pos cv hc => let ⟨c, e1, e2⟩ := h3 pos cv hc; ⟨c, e1, g _ _ e2⟩⟩
theorem MemR.there (h : MemR K mg F H m) {a : Addr} {o : MO} (e : m a = some o) : H a ≠ none := (h a o e).2.there
theorem MemR.free (h : MemR K mg F H m) {a : Addr} (e : H a = none) : m a = none := by
  cases q : m a with
  | none => rfl
  | some o => exact absurd e (h.there q)
theorem MemR.sub (h : MemR K mg F H m) (s : MLe m' m) : MemR K mg F H m' := fun a o e => h a o (s a o e)
theorem MemR.step (h : MemR K mg F H m) (s : Step F H F' H') : MemR K mg F' H' m := fun a o e => by
  obtain ⟨h1, h2⟩ := h a o e
  refine ⟨?_, h2.keep s.gr fun u q => s.ex _ _ q⟩
  cases q : F' a with
  | none => rfl
  | some u =>
    rcases s.nw a u q with z | z
    · rw [h1] at z; cases z
    · exact absurd z h2.there
end
/-- a step that may change the memory -/
structure StM (K : PySem.W.Frag) (mg : Str → Option Value) (m : Mem) (F H F' H' : Hp) (m' : Mem) : Prop where
  ex : ∀ a o, H a = some o → m a = none → H' a = some o
  th : ∀ a, H a ≠ none → H' a ≠ none
  gr : Gr F F'
  le : Le F' H'
  mr : MemR K mg F' H' m'
  nw : ∀ a o, F' a = some o → F a = some o ∨ H a = none ∨ m a ≠ none
  nm : ∀ a, m' a ≠ none → m a ≠ none ∨ H a = none
  fz : ∀ a o u, H a = some (.frz o u) → H' a = some (.frz o u)
section
variable {K : PySem.W.Frag} {mg : Str → Option Value} {F H F1 H1 F2 H2 F' H' : Hp} {m m1 m2 m' : Mem}
theorem StM.refl (l : Le F H) (r : MemR K mg F H m) : StM K mg m F H F H m := ⟨fun _ _ h _ => h, fun _ h => h, Gr.refl F, l, r, fun _ _ h => .inl h, fun _ h => .inl h, fun _ _ _ h => h⟩
theorem StM.back (s : StM K mg m F H F' H' m') {a : Addr} (h : H' a = none) : H a = none := by
  cases e : H a with
  | none => rfl
  | some o => exact absurd h (s.th a (by rw [e]; simp))
theorem Step.stm (s : Step F H F' H') (r : MemR K mg F H m) : StM K mg m F H F' H' m :=
  ⟨fun a o h _ => s.ex a o h, fun a h z => h (s.back z), s.gr, s.le, r.step s, fun a o h => (s.nw a o h).imp id .inl, fun _ h => .inl h, fun a _ _ h => s.ex a _ h⟩
theorem StM.trans (s : StM K mg m F H F1 H1 m1) (t : StM K mg m1 F1 H1 F2 H2 m2) : StM K mg m F H F2 H2 m2 := by
  refine ⟨fun a o h n => t.ex a o (s.ex a o h n) ?_, fun a h => t.th a (s.th a h), s.gr.trans t.gr, t.le, t.mr, fun a o h => ?_, fun a h => ?_, fun a o u h => t.fz a o u (s.fz a o u h)⟩
  · cases q : m1 a with
    | none => rfl
    | some u =>
      rcases s.nm a (by rw [q]; simp) with z | z
      · exact absurd n z
      · rw [h] at z; cases z
  · rcases t.nw a o h with h | h | h
    · exact s.nw a o h
    · exact .inr (.inl (s.back h))
    · rcases s.nm a h with h | h
      · exact .inr (.inr h)
      · exact .inr (.inl h)
  · rcases t.nm a h with h | h
    · exact s.nm a h
    · exact .inr (s.back h)
theorem StM.sub (s : StM K mg m F H F' H' m1) (h : MLe m2 m1) : StM K mg m F H F' H' m2 :=
  ⟨s.ex, s.th, s.gr, s.le, s.mr.sub h, s.nw, fun a z => s.nm a fun e => z (by
    cases q : m2 a with
    | none => rfl
    | some o => rw [h a o q] at e; cases e), s.fz⟩
/-- a new object is laid: the memory has it -/
theorem StM.new {p : Addr} {o : HO} {u : MO} (l : Le F H) (r : MemR K mg F H m) (h : H p = none) (ho : MoR K mg F (upd H p o) p u) : StM K mg m F H F (upd H p o) (mset m p u) := by
  have ex : ∀ a v, H a = some v → upd H p o a = some v := fun a v e => by rw [upd_ne (ne_of_none e h)]; exact e
  have s : Step F H F (upd H p o) := Step.ext l ex
  refine ⟨fun a v e _ => ex a v e, fun a n z => n (s.back z), Gr.refl F, s.le, fun a v e => ?_, fun _ _ e => .inl e, fun a e => ?_, fun a _ _ e => ex a _ e⟩
  · by_cases ha : a = p
    · subst ha; rw [mset_same] at e; cases e; exact ⟨l.none h, ho⟩
    · rw [mset_ne ha] at e; exact r.step s a v e
  · by_cases ha : a = p
    · subst ha; exact .inr h
    · rw [mset_ne ha] at e; exact .inl e
/-- a thing of the memory is changed -/
theorem StM.put {p : Addr} {o : HO} {u v : MO} (l : Le F H) (r : MemR K mg F H m) (h : m p = some v) (hL : v.isL = false) (ho : MoR K mg F (upd H p o) p u) : StM K mg m F H F (upd H p o) (mset m p u) := by
  obtain ⟨fp, hv⟩ := r p v h
  refine ⟨fun a w e n => ?_, fun a n => ?_, Gr.refl F, fun a w e => ?_, fun a w e => ?_, fun _ _ e => .inl e, fun a e => ?_, fun a ob w e => ?_⟩
  · have : a ≠ p := fun z => by rw [z, h] at n; cases n
    rw [upd_ne this]; exact e
  · by_cases ha : a = p
    · subst ha; rw [upd_same]; simp
    · rw [upd_ne ha]; exact n
  · have : a ≠ p := fun z => by rw [z, fp] at e; cases e
    rw [upd_ne this]; exact l a w e
  · by_cases ha : a = p
    · subst ha; rw [mset_same] at e; cases e; exact ⟨fp, ho⟩
    · rw [mset_ne ha] at e
      obtain ⟨h1, h2⟩ := r a w e
      exact ⟨h1, h2.keep (Gr.refl F) fun u q => by rw [upd_ne ha]; exact q⟩
  · by_cases ha : a = p
    · subst ha; exact .inl (by rw [h]; simp)
    · rw [mset_ne ha] at e; exact .inl e
  · have : a ≠ p := fun z => by rw [z] at e; exact hv.notz hL ob w e
    rw [upd_ne this]; exact e
/-- a dict of the memory is locked for good -/
theorem StM.lock {p : Addr} {ds : List (Key × D)} (l : Le F H) (r : MemR K mg F H m) (h : m p = some (.dic ds)) : ∃ xs, H p = some (.dK xs) ∧ ∀ od, StM K mg m F H F (upd H p (.frz od (.dK xs))) (mset m p (.lck ds)) := by
  obtain ⟨fp, xs, e, rl⟩ := r p _ h
  exact ⟨xs, e, fun od => StM.put l r h rfl ⟨od, xs, upd_same, rl⟩⟩
/-- from now on nobody changes it -/
def MO.onF : MO → (D → Prop) → Prop
  | .lst ds, k => k (.lst ds)
  | .dic ds, k => k (.dic ds)
  | .dit ds, k => k (.dit ds)
  | .ins C fs, k => k (.obj C fs)
  | .lck ds, k => k (.dic ds)
  | .tab _, _ => False
theorem StM.frz {p : Addr} {u : MO} (l : Le F H) (r : MemR K mg F H m) (h : m p = some u) (hd : u.isK = false) {k : D → Prop} (hk : u.onF k) : ∃ F' d, StM K mg m F H F' H (mdel m p) ∧ Rp K mg F' (.ref p) d ∧ k d := by
  obtain ⟨fp, hv⟩ := r p u h
  have key : ∀ (o : HO) (d : D), (H p = some o ∨ (isD o ∧ ∃ od, H p = some (.frz od o))) → (Rp K mg (upd F p o) (.ref p) d) → k d → ∃ F' d, StM K mg m F H F' H (mdel m p) ∧ Rp K mg F' (.ref p) d ∧ k d := fun o d ho hr hd => by
    refine ⟨upd F p o, d, ⟨fun a w e _ => e, fun a n => n, gr_upd fp, fun a w e => ?_, fun a w e => ?_, fun a w e => ?_, fun a e => ?_, fun _ _ _ e => e⟩, hr, hd⟩
    · by_cases ha : a = p
      · subst ha; rw [upd_same] at e; cases e; exact ho
      · rw [upd_ne ha] at e; exact l a w e
    · have ha : a ≠ p := fun z => by rw [z, mdel_same] at e; cases e
      rw [mdel_ne ha] at e
      obtain ⟨h1, h2⟩ := r a w e
      exact ⟨by rw [upd_ne ha]; exact h1, h2.keep (gr_upd fp) fun _ q => q⟩
    · by_cases ha : a = p
      · subst ha; exact .inr (.inr (by rw [h]; simp))
      · rw [upd_ne ha] at e; exact .inl e
    · by_cases ha : a = p
      · subst ha; rw [mdel_same] at e; exact absurd rfl e
      · rw [mdel_ne ha] at e; exact .inl e
  cases u with
  | lst ds => obtain ⟨xs, e, rl⟩ := hv; exact key _ _ (.inl e) (.lst upd_same (rl.mono (gr_upd fp))) hk
  | dic ds => cases hd
  | dit ds => obtain ⟨xs, e, rl⟩ := hv; exact key _ _ (.inl e) (.dit upd_same (rl.mono (gr_upd fp))) hk
  | ins C ds => obtain ⟨Ca, dx, xs, z, e, rl⟩ := hv; exact key _ _ (.inl e) (.obj z upd_same (rl.mono (gr_upd fp))) hk
  | lck ds => obtain ⟨o, xs, e, rl⟩ := hv; exact key (.frz o (.dK xs)) _ (.inl e) (.dic upd_same (rl.mono (gr_upd fp))) hk
  | tab q => exact hk.elim
end

/-! ### the frame's names -/
abbrev SL := List (Option D)
structure EnvR (K : PySem.W.Frag) (mg : Str → Option Value) (F H : Hp) (σ : L2.St) (s : SL) (m : Mem) : Prop where
  len : σ.length = s.length
  val : ∀ (i : Nat) d, s[i]? = some (some d) → ∃ v, σ[i]? = some (some v) ∧ Rp K mg F v d
  mem : MemR K mg F H m
section
variable {K : PySem.W.Frag} {mg : Str → Option Value} {F H F' H' : Hp} {σ : L2.St} {s : SL} {m m' : Mem}
theorem EnvR.stm (e : EnvR K mg F H σ s m) (t : StM K mg m F H F' H' m') : EnvR K mg F' H' σ s m' := ⟨e.len, fun i d h => by
  obtain ⟨v, h1, h2⟩ := e.val i d h
  exact ⟨v, h1, h2.mono t.gr⟩, t.mr⟩
theorem set_cases {α : Type} {l : List α} {i j : Nat} {a b : α} (h : (l.set i a)[j]? = some b) : (j = i ∧ b = a ∧ i < l.length) ∨ (j ≠ i ∧ l[j]? = some b) := by
  rw [List.getElem?_set] at h
  split at h
  · rename_i e
    split at h
    · rename_i hl
      exact .inl ⟨e.symm, (Option.some.inj h).symm, hl⟩
    · cases h
  · rename_i e
    exact .inr ⟨fun z => e z.symm, h⟩
/-- a slot gets a value -/
theorem EnvR.set {i : Nat} {v : V} {d : D} (e : EnvR K mg F H σ s m) (r : Rp K mg F v d) : EnvR K mg F H (σ.set i (some v)) (s.set i (some d)) m := by
  refine ⟨by rw [List.length_set, List.length_set, e.len], fun j d' h => ?_, e.mem⟩
  rcases set_cases h with ⟨rfl, hb, hl⟩ | ⟨hj, hb⟩
  · cases hb
    exact ⟨v, by rw [List.getElem?_set_self (by rw [e.len]; exact hl)], r⟩
  · obtain ⟨w, h1, h2⟩ := e.val j d' hb
    exact ⟨w, by rw [List.getElem?_set_ne (fun z => hj z.symm)]; exact h1, h2⟩
/-- the data of a slot are told otherwise -/
theorem EnvR.told {i : Nat} {v : V} {d : D} (e : EnvR K mg F H σ s m) (h : σ[i]? = some (some v)) (r : Rp K mg F v d) : EnvR K mg F H σ (s.set i (some d)) m := by
  refine ⟨by rw [List.length_set, e.len], fun j d' h' => ?_, e.mem⟩
  rcases set_cases h' with ⟨rfl, hb, hl⟩ | ⟨hj, hb⟩
  · cases hb; exact ⟨v, h, r⟩
  · exact e.val j d' hb
/-- a slot is forgotten -/
theorem EnvR.drop {i : Nat} (e : EnvR K mg F H σ s m) : EnvR K mg F H (σ.set i none) (s.set i none) m := by
  refine ⟨by rw [List.length_set, List.length_set, e.len], fun j d' h => ?_, e.mem⟩
  rcases set_cases h with ⟨rfl, hb, hl⟩ | ⟨hj, hb⟩
  · cases hb
  · obtain ⟨w, h1, h2⟩ := e.val j d' hb
    exact ⟨w, by rw [List.getElem?_set_ne (fun z => hj z.symm)]; exact h1, h2⟩
def wipeD (s : SL) : List Nat → SL
  | [] => s
  | v :: vs => (wipeD s vs).set v none
theorem EnvR.wipe (e : EnvR K mg F H σ s m) : ∀ vs : List Nat, EnvR K mg F H (L2.wipe σ vs) (wipeD s vs) m
  | [] => e
  | v :: vs => (EnvR.wipe e vs).drop
end
end Ts
namespace Ts
open PySem L2
/-! ### what is wanted, over data and memory -/
abbrev KD := D → Mem → Prop
abbrev KX := XD → Mem → Prop
abbrev VE := SL → Mem → KD → KX → Prop
abbrev VA := SL → Mem → (List D → Mem → Prop) → KX → Prop
abbrev VT := SL → Mem → (Bool → Mem → Prop) → KX → Prop
abbrev VO := SL → Mem → (Option Int → Mem → Prop) → KX → Prop
/-- operators, calls by values: they raise nothing -/
abbrev O1 := D → Mem → KD → Prop
abbrev O2 := D → D → Mem → KD → Prop
abbrev OA := List D → Mem → KD → Prop
/-- an exception's data -/
def RpX (K : PySem.W.Frag) (mg : Str → Option Value) (F H : Hp) (cls : Value) (d : Option Addr) (e : XD) : Prop :=
  ∃ Ca dd xs, cls = .ref Ca ∧ mg e.cls = some (.ref Ca) ∧ d = some dd ∧ F dd = some (.xd xs) ∧ RpK K mg F xs e.fs
def XOk (K : PySem.W.Frag) (mg : Str → Option Value) (W : WX) (σ : L2.St) (F H : Hp) (m : Mem) (x : KX) : Prop :=
  ∀ cls dd e F' H' m', StM K mg m F H F' H' m' → RpX K mg F' H' cls dd e → x e m' → W cls dd σ H'
section
variable {K : PySem.W.Frag} {mg : Str → Option Value} {W : WX} {σ : L2.St} {F H F1 H1 : Hp} {m m1 : Mem} {x : KX}
theorem XOk.after (h : XOk K mg W σ F H m x) (s : StM K mg m F H F1 H1 m1) : XOk K mg W σ F1 H1 m1 x := fun cls dd e F' H' m' t r q => h cls dd e F' H' m' (s.trans t) r q
theorem XOk.no : XOk K mg W σ F H m (fun _ _ => False) := fun _ _ _ _ _ _ _ _ q => q.elim
end
def SndE (K : PySem.W.Frag) (mg : Str → Option Value) (W : WX) (te : TE) (ve : VE) : Prop := ∀ (σ : L2.St) (F H : Hp) (s : SL) (m : Mem) (k : KD) (x : KX), Le F H → EnvR K mg F H σ s m → ve s m k x → XOk K mg W σ F H m x → ∀ Q : VK,
  (∀ v d F' H' m', StM K mg m F H F' H' m' → Rp K mg F' v d → k d m' → Q v H') → te σ H Q
def SndT (K : PySem.W.Frag) (mg : Str → Option Value) (W : WX) (te : TT) (ve : VT) : Prop := ∀ (σ : L2.St) (F H : Hp) (s : SL) (m : Mem) (k : Bool → Mem → Prop) (x : KX), Le F H → EnvR K mg F H σ s m → ve s m k x → XOk K mg W σ F H m x → ∀ Q : Bool → Hp → Prop,
  (∀ b F' H' m', StM K mg m F H F' H' m' → k b m' → Q b H') → te σ H Q
def SndA (K : PySem.W.Frag) (mg : Str → Option Value) (W : WX) (te : TA) (ve : VA) : Prop := ∀ (σ : L2.St) (F H : Hp) (s : SL) (m : Mem) (k : List D → Mem → Prop) (x : KX), Le F H → EnvR K mg F H σ s m → ve s m k x → XOk K mg W σ F H m x → ∀ Q : List V → Hp → Prop,
  (∀ vs ds F' H' m', StM K mg m F H F' H' m' → RpL K mg F' vs ds → k ds m' → Q vs H') → te σ H Q
def SndP (K : PySem.W.Frag) (mg : Str → Option Value) (W : WX) (te : TO) (ve : VO) : Prop := ∀ (σ : L2.St) (F H : Hp) (s : SL) (m : Mem) (k : Option Int → Mem → Prop) (x : KX), Le F H → EnvR K mg F H σ s m → ve s m k x → XOk K mg W σ F H m x → ∀ Q : Option Int → Hp → Prop,
  (∀ b F' H' m', StM K mg m F H F' H' m' → k b m' → Q b H') → te σ H Q
def SndO2 (K : PySem.W.Frag) (mg : Str → Option Value) (r : R2) (o : O2) : Prop := ∀ (F H : Hp) (m : Mem) (x y : D) (u v : V) (k : KD), Le F H → MemR K mg F H m → Rp K mg F u x → Rp K mg F v y → o x y m k → ∀ Q : VK,
  (∀ w d F' H' m', StM K mg m F H F' H' m' → Rp K mg F' w d → k d m' → Q w H') → r u v H Q
def SndO1 (K : PySem.W.Frag) (mg : Str → Option Value) (r : V → Hp → VK → Prop) (o : O1) : Prop := ∀ (F H : Hp) (m : Mem) (x : D) (u : V) (k : KD), Le F H → MemR K mg F H m → Rp K mg F u x → o x m k → ∀ Q : VK,
  (∀ w d F' H' m', StM K mg m F H F' H' m' → Rp K mg F' w d → k d m' → Q w H') → r u H Q
def SndOA (K : PySem.W.Frag) (mg : Str → Option Value) (r : List V → Hp → VK → Prop) (o : OA) : Prop := ∀ (F H : Hp) (m : Mem) (xs : List D) (us : List V) (k : KD), Le F H → MemR K mg F H m → RpL K mg F us xs → o xs m k → ∀ Q : VK,
  (∀ w d F' H' m', StM K mg m F H F' H' m' → Rp K mg F' w d → k d m' → Q w H') → r us H Q
/-! ### the judgements -/
def JE (X : Cx) (W : WX) (e : Expr) (ve : VE) : Prop := ∃ te, PE X e te ∧ SndE X.K X.mg W te ve
def JT (X : Cx) (W : WX) (e : Expr) (ve : VT) : Prop := ∃ te, PT X e te ∧ SndT X.K X.mg W te ve
def JW (X : Cx) (W : WX) (e : Expr) (ve : VT) : Prop := ∃ te, PW X e te ∧ SndT X.K X.mg W te ve
def JA (X : Cx) (W : WX) (e : List Expr) (ve : VA) : Prop := ∃ te, PA X e te ∧ SndA X.K X.mg W te ve
def JP (X : Cx) (W : WX) (e : Option Expr) (ve : VO) : Prop := ∃ te, PO X e te ∧ SndP X.K X.mg W te ve
def JO2 (X : Cx) (f : Value → Value → Sem Value) (o : O2) : Prop := ∃ r, OpR X f r ∧ SndO2 X.K X.mg r o
def JO1 (X : Cx) (f : Value → Sem Value) (o : O1) : Prop := ∃ r, UnR X f r ∧ SndO1 X.K X.mg r o
def JOA (X : Cx) (f : Value) (o : OA) : Prop := ∃ r, CallR X f r ∧ SndOA X.K X.mg r o

/-! ### the forms -/
@[reducible] def vC (d : D) : VE := fun _ m k _ => k d m
def vGet : Option (Option D) → (D → Prop) → Prop
  | some (some d), k => k d
  | _, _ => False
@[reducible] def vVar (i : Nat) : VE := fun s m k _ => vGet s[i]? fun d => k d m
@[reducible] def vOp (o : O2) (a b : VE) : VE := fun s m k x => a s m (fun d m1 => b s m1 (fun e m2 => o d e m2 k) x) x
@[reducible] def vUn (o : O1) (a : VE) : VE := fun s m k x => a s m (fun d m1 => o d m1 k) x
@[reducible] def vNil : VA := fun _ m k _ => k [] m
@[reducible] def vCons (a : VE) (r : VA) : VA := fun s m k x => a s m (fun d m1 => r s m1 (fun ds m2 => k (d :: ds) m2) x) x
@[reducible] def vTup (a : VA) : VE := fun s m k x => a s m (fun ds m1 => ds.length ≤ 1000000 ∧ k (.tup ds) m1) x
@[reducible] def vLst (a : VA) : VE := fun s m k x => a s m (fun ds m1 => ds.length ≤ 1000000 ∧ k (.lst ds) m1) x
/-- a new list that changes -/
@[reducible] def vLstO (a : VA) : VE := fun s m k x => a s m (fun ds m1 => ds.length ≤ 1000000 ∧ ∀ p, m1 p = none → k (.ref p) (mset m1 p (.lst ds))) x
@[reducible] def vCB (o : OA) (a : VA) : VE := fun s m k x => a s m (fun ds m1 => o ds m1 k) x
/-- a bool -/
def isB : D → (Bool → Prop) → Prop
  | .bl b, k => k b
  | _, _ => False
@[reducible] def tV (a : VE) : VT := fun s m k x => a s m (fun d m1 => isB d fun b => k b m1) x
@[reducible] def vAnd (a b : VT) : VT := fun s m k x => a s m (fun c m1 => if c = true then b s m1 k x else k false m1) x
@[reducible] def vOr (a b : VT) : VT := fun s m k x => a s m (fun c m1 => if c = true then k true m1 else b s m1 k x) x
@[reducible] def vNot (a : VT) : VT := fun s m k x => a s m (fun c m1 => k (!c) m1) x
@[reducible] def vYes : VT := fun _ m k _ => k true m
@[reducible] def vAndV (a b : VE) : VE := fun s m k x => a s m (fun d m1 => isB d fun c => if c = true then b s m1 k x else k (.bl false) m1) x
@[reducible] def vOrV (a b : VE) : VE := fun s m k x => a s m (fun d m1 => isB d fun c => if c = true then k (.bl true) m1 else b s m1 k x) x
@[reducible] def vNotV (a : VE) : VE := fun s m k x => a s m (fun d m1 => isB d fun c => k (.bl (!c)) m1) x
@[reducible] def vIf (t : VT) (a b : VE) : VE := fun s m k x => t s m (fun c m1 => if c = true then a s m1 k x else b s m1 k x) x
@[reducible] def vChain (o o' : O2) (a b c : VE) : VE := fun s m k x => a s m (fun d m1 => b s m1 (fun e m2 => o d e m2 fun z m3 => isB z fun q => if q = true then c s m3 (fun g m4 => o' e g m4 k) x else k (.bl false) m3) x) x
@[reducible] def vNoP : VO := fun _ m k _ => k none m
@[reducible] def vP (a : VE) : VO := fun s m k x => a s m (fun d m1 => match d with | .int i => k (some i) m1 | _ => False) x

section
variable {K : PySem.W.Frag} {mg : Str → Option Value} {F H : Hp} {v : V} {m : Mem}
theorem Rp.blI {b : Bool} (h : Rp K mg F v (.bl b)) : v = .bl b := by cases h; rfl
theorem Rp.intI {b : Int} (h : Rp K mg F v (.int b)) : v = .int b := by cases h; rfl
theorem Rp.strI {b : Str} (h : Rp K mg F v (.str b)) : v = .str b := by cases h; rfl
theorem Rp.nonI (h : Rp K mg F v .non) : v = .non := by cases h; rfl
theorem Rp.refI {a : Addr} (h : Rp K mg F v (.ref a)) : v = .ref a := by cases h; rfl
theorem Rp.lstI {ds : List D} (h : Rp K mg F v (.lst ds)) : ∃ a xs, v = .ref a ∧ F a = some (.lst xs) ∧ RpL K mg F xs ds := by cases h with | lst s r => exact ⟨_, _, rfl, s, r⟩
theorem Rp.latI {a : Addr} {ds : List D} (h : Rp K mg F v (.lat a ds)) : ∃ xs, v = .ref a ∧ SqL K F a xs ∧ RpL K mg F xs ds := by cases h with | lat s r => exact ⟨_, rfl, s, r⟩
theorem Rp.tupI {ds : List D} (h : Rp K mg F v (.tup ds)) : ∃ a xs, v = .ref a ∧ SqT K F a xs ∧ RpL K mg F xs ds := by cases h with | tup s r => exact ⟨_, _, rfl, s.sqt, r⟩
theorem Rp.tupN {ds : List D} (h : Rp K mg F v (.tup ds)) : ∃ a xs, v = .ref a ∧ SqN K F a xs ∧ RpL K mg F xs ds := by cases h with | tup s r => exact ⟨_, _, rfl, s, r⟩
theorem Rp.prI {ds : List D} (h : Rp K mg F v (.pr ds)) : ∃ a xs, v = .ref a ∧ F a = some (.tup xs) ∧ RpL K mg F xs ds := by cases h with | pr s r => exact ⟨_, _, rfl, s, r⟩
theorem Rp.dicI {ds : List (Key × D)} (h : Rp K mg F v (.dic ds)) : ∃ a o xs, v = .ref a ∧ F a = some (.frz o (.dK xs)) ∧ RpK K mg F xs ds := by cases h with | dic s r => exact ⟨_, _, _, rfl, s, r⟩
/-- a list's items: frozen, the script, or of the memory -/
def asL (m : Mem) : D → Option (List D)
  | .lst ds => some ds
  | .lat _ ds => some ds
  | .ref p => match m p with
    | some (.lst ds) => some ds
    | _ => none
  | _ => none
theorem Rp.asL {d : D} {ds : List D} (l : Le F H) (r : MemR K mg F H m) (h : Rp K mg F v d) (e : asL m d = some ds) : ∃ a xs, v = .ref a ∧ SqL K H a xs ∧ RpL K mg F xs ds := by
  cases h with
  | lst s r => cases e; exact ⟨_, _, rfl, l.sql (SqL.of s), r⟩
  | lat s r => cases e; exact ⟨_, _, rfl, l.sql s, r⟩
  | ref p =>
    cases q : m p with
    | none => simp only [Ts.asL, q] at e; cases e
    | some o =>
      simp only [Ts.asL, q] at e
      cases o with
      | lst es =>
        cases e
        obtain ⟨_, xs, e1, e2⟩ := r p _ q
        exact ⟨p, xs, rfl, SqL.of e1, e2⟩
      | _ => cases e
  | _ => cases e
/-- a list that may be joined with another: not the script -/
def asO (m : Mem) : D → Option (List D)
  | .lst ds => some ds
  | .ref p => match m p with
    | some (.lst ds) => some ds
    | _ => none
  | _ => none
theorem Rp.asO {d : D} {ds : List D} (l : Le F H) (r : MemR K mg F H m) (h : Rp K mg F v d) (e : asO m d = some ds) : ∃ a xs, v = .ref a ∧ H a = some (.lst xs) ∧ RpL K mg F xs ds := by
  cases h with
  | lst s r => cases e; exact ⟨_, _, rfl, l.lst s, r⟩
  | ref p =>
    cases q : m p with
    | none => simp only [Ts.asO, q] at e; cases e
    | some o =>
      simp only [Ts.asO, q] at e
      cases o with
      | lst es =>
        cases e
        obtain ⟨_, xs, e1, e2⟩ := r p _ q
        exact ⟨p, xs, rfl, e1, e2⟩
      | _ => cases e
  | _ => cases e
theorem RpL.one {us : List V} {x : D} (r : RpL K mg F us [x]) : ∃ u, us = [u] ∧ Rp K mg F u x := by
  cases r with
  | cons a r => cases r; exact ⟨_, rfl, a⟩
theorem RpL.two {us : List V} {x y : D} (r : RpL K mg F us [x, y]) : ∃ u v, us = [u, v] ∧ Rp K mg F u x ∧ Rp K mg F v y := by
  cases r with
  | cons a r => cases r with
    | cons b r => cases r; exact ⟨_, _, rfl, a, b⟩
theorem RpL.three {us : List V} {x y z : D} (r : RpL K mg F us [x, y, z]) : ∃ u v w, us = [u, v, w] ∧ Rp K mg F u x ∧ Rp K mg F v y ∧ Rp K mg F w z := by
  cases r with
  | cons a r => cases r with
    | cons b r => cases r with
      | cons c r => cases r; exact ⟨_, _, _, rfl, a, b, c⟩
end
section
variable {X : Cx} {W : WX} {e a b c : Expr} {es rest : List Expr} {va vb vc ve : VE} {vt vu : VT} {vs : VA} {pos : Pos}
theorem je_var {i : Nat} (h : PE X e (tVar i)) : JE X W e (vVar i) := ⟨_, h, fun σ F H s m k x l en hv _ Q q => by
  unfold vVar vGet at hv
  split at hv
  · rename_i d hs
    obtain ⟨v, h1, h2⟩ := en.val i d hs
    exact ⟨v, h1, q v d F H m (StM.refl l en.mem) h2 hv⟩
  · exact hv.elim⟩
theorem je_c {v : V} {d : D} (h : PE X e (tC v)) (r : ∀ F, Rp X.K X.mg F v d) : JE X W e (vC d) := ⟨_, h, fun σ F H s m k x l en hv _ Q q => q v d F H m (StM.refl l en.mem) (r F) hv⟩
theorem je_int {i j} : JE X W (.Constant (.int i) j pos) (vC (.int i)) := je_c pe_int fun _ => .int i
theorem je_bl {i j} : JE X W (.Constant (.bool i) j pos) (vC (.bl i)) := je_c pe_bl fun _ => .bl i
theorem je_non {j} : JE X W (.Constant .none j pos) (vC .non) := je_c pe_non fun _ => .non
theorem je_str {i j} : JE X W (.Constant (.str i) j pos) (vC (.str i)) := je_c pe_str fun _ => .str i
theorem jv (i : Nat) {x : Str} {pos : Pos} (hN : X.N[i]? = some x := by rfl) (hv : Vis X.env.scope x := by first | exact Or.inl rfl | exact Or.inr (Or.inl rfl) | exact Or.inr (Or.inr rfl)) (hd : (x == ("__debug__" : Str)) = false := by decide)
    (hcd : (x == ("__classdict__" : Str)) = false := by decide) : JE X W (.Name x pos) (vVar i) := je_var (pe_var hN hv hd hcd)
theorem SndE.op {r : R2} {o : O2} {ta tb : TE} (ho : SndO2 X.K X.mg r o) (h1 : SndE X.K X.mg W ta va) (h2 : SndE X.K X.mg W tb vb) : SndE X.K X.mg W (tOp r ta tb) (vOp o va vb) := fun σ F H s m k x l en hv hx Q q =>
  h1 σ F H s m _ x l en hv hx _ fun u d F1 H1 m1 s1 r1 k1 => h2 σ F1 H1 s m1 _ x s1.le (en.stm s1) k1 (hx.after s1) _ fun w e F2 H2 m2 s2 r2 k2 =>
    ho F2 H2 m2 d e u w k s2.le s2.mr (r1.mono s2.gr) r2 k2 Q fun z g F3 H3 m3 s3 r3 k3 => q z g F3 H3 m3 ((s1.trans s2).trans s3) r3 k3
theorem je_op {op : Operator} {o : O2} (ho : JO2 X (binaryOp op) o) (ha : JE X W a va) (hb : JE X W b vb) : JE X W (.BinOp a op b pos) (vOp o va vb) := by
  obtain ⟨r, h0, h1⟩ := ho; obtain ⟨ta, p1, s1⟩ := ha; obtain ⟨tb, p2, s2⟩ := hb
  exact ⟨_, pe_op h0 p1 p2, SndE.op h1 s1 s2⟩
theorem je_cmp {op : CmpOp} {o : O2} (ho : JO2 X (compareOp op) o) (ha : JE X W a va) (hb : JE X W b vb) (hm : behindInMarks op b = false) : JE X W (.Compare a [op] [b] pos) (vOp o va vb) := by
  obtain ⟨r, h0, h1⟩ := ho; obtain ⟨ta, p1, s1⟩ := ha; obtain ⟨tb, p2, s2⟩ := hb
  exact ⟨_, pe_cmpR h0 p1 p2 hm, SndE.op h1 s1 s2⟩
theorem je_un {op : UnaryOp} {o : O1} (ho : JO1 X (unaryOp op) o) (ha : JE X W a va) : JE X W (.UnaryOp op a pos) (vUn o va) := by
  obtain ⟨r, h0, h1⟩ := ho; obtain ⟨ta, p1, s1⟩ := ha
  exact ⟨_, pe_un h0 p1, fun σ F H s m k x l en hv hx Q q => s1 σ F H s m _ x l en hv hx _ fun u d F1 H1 m1 t1 r1 k1 => h1 F1 H1 m1 d u k t1.le t1.mr r1 k1 Q fun z g F3 H3 m3 s3 r3 k3 => q z g F3 H3 m3 (t1.trans s3) r3 k3⟩
theorem ja_nil : JA X W [] vNil := ⟨_, pa_nil, fun σ F H s m k x l en hv _ Q q => q [] [] F H m (StM.refl l en.mem) .nil hv⟩
theorem ja_cons (ha : JE X W e va) (hr : JA X W es vs) (hs : starEach (e :: es) X.env = (false, eval e X.env) :: starEach es X.env := by rfl) : JA X W (e :: es) (vCons va vs) := by
  obtain ⟨ta, p1, s1⟩ := ha; obtain ⟨tr, p2, s2⟩ := hr
  exact ⟨_, pa_cons p1 p2 hs, fun σ F H s m k x l en hv hx Q q => s1 σ F H s m _ x l en hv hx _ fun u d F1 H1 m1 t1 r1 k1 => s2 σ F1 H1 s m1 _ x t1.le (en.stm t1) k1 (hx.after t1) _ fun us ds F2 H2 m2 t2 r2 k2 => q (u :: us) (d :: ds) F2 H2 m2 (t1.trans t2) (.cons (r1.mono t2.gr) r2) k2⟩
def tTupN (t : TA) : TE := fun σ H Q => t σ H fun us H1 => us.length ≤ sizeLine ∧ ∀ (p : Addr) (o : Obj), H1 p = none → o.dict = none → Q (.ref p) (upd H1 p (.frz o (.tup us)))
theorem pe_tupN {x1} {t : TA} (h : PA X es t) : PE X (.Tuple es x1 pos) (tTupN t) := by
  refine ⟨fun pins s σ H Q I hq => ?_⟩
  refine wpAny_Tuple_spliced (thn (h.run pos pins s σ H _ I hq) fun us s1 ⟨xs, H1, I1, r, z, q⟩ => ⟨by rw [← r.length]; exact z, ?_⟩)
  have hf : H1 s1.heap.objs.size = none := I1.hok.fresh (Nat.le_refl _)
  refine ⟨.ref s1.heap.objs.size, upd H1 s1.heap.objs.size (.frz _ (.tup xs)), I1.laid (t' := s1.toks) (fun b u e => Heap.get?_push_of_some _ e) (Nat.le_refl _) ⟨Heap.get?_push_size _ rfl, ?_⟩, rfl, q _ _ hf rfl⟩
  exact ⟨z, us, r, ⟨_, Heap.get?_push_size _ rfl, rfl, _, rfl⟩⟩
theorem je_tup {x1} (h : JA X W es vs) : JE X W (.Tuple es x1 pos) (vTup vs) := by
  obtain ⟨ta, p1, s1⟩ := h
  refine ⟨_, pe_tupN p1, fun σ F H s m k x l en hv hx Q q => s1 σ F H s m _ x l en hv hx _ fun us ds F1 H1 m1 t1 r1 ⟨h0, k1⟩ => ⟨by rw [r1.len]; exact Nat.le_trans h0 (by decide), fun p o hp ho => ?_⟩⟩
  have s2 : Step F1 H1 (upd F1 p (.frz o (.tup us))) (upd H1 p (.frz o (.tup us))) := Step.new t1.le hp
  exact q (.ref p) (.tup ds) _ _ m1 (t1.trans (s2.stm t1.mr)) (.tup (.inl ⟨o, upd_same, ho⟩) (r1.mono s2.gr)) k1
/-- a tuple that becomes a key -/
@[reducible] def vTupK (a : VA) : VE := fun s m k x => a s m (fun ds m1 => ds.length ≤ 1000000 ∧ k (.pr ds) m1) x
theorem je_lst (h : JA X W es vs) : JE X W (.List es pos) (vLst vs) := by
  obtain ⟨ta, p1, s1⟩ := h
  refine ⟨_, pe_lst p1, fun σ F H s m k x l en hv hx Q q => s1 σ F H s m _ x l en hv hx _ fun us ds F1 H1 m1 t1 r1 ⟨h0, k1⟩ => ⟨by rw [r1.len]; exact Nat.le_trans h0 (by decide), fun p hp => ?_⟩⟩
  have s2 : Step F1 H1 (upd F1 p (.lst us)) (upd H1 p (.lst us)) := Step.new t1.le hp
  exact q (.ref p) (.lst ds) _ _ m1 (t1.trans (s2.stm t1.mr)) (.lst upd_same (r1.mono s2.gr)) k1
theorem je_lstO (h : JA X W es vs) : JE X W (.List es pos) (vLstO vs) := by
  obtain ⟨ta, p1, s1⟩ := h
  refine ⟨_, pe_lst p1, fun σ F H s m k x l en hv hx Q q => s1 σ F H s m _ x l en hv hx _ fun us ds F1 H1 m1 t1 r1 ⟨h0, k1⟩ => ⟨by rw [r1.len]; exact Nat.le_trans h0 (by decide), fun p hp => ?_⟩⟩
  exact q (.ref p) (.ref p) _ _ _ (t1.trans (StM.new t1.le t1.mr hp (u := .lst ds) ⟨us, upd_same, r1⟩)) (.ref p) (k1 p (t1.mr.free hp))
theorem je_callB {x : Str} {id : String} {o : OA} {p : Pos} (ho : JOA X (.builtin id) o) (hg : Gl X x) (hm : X.mg x = none) (hv : bootBuiltins x = some (.builtin id)) (ha : JA X W (e :: es) vs) (hn : x ≠ "__name__" := by decide) (hdb : (x == ("__debug__" : Str)) = false := by decide)
    (he : starEach (e :: es) X.env = (false, eval e X.env) :: starEach es X.env := by rfl) (hpl : (backTo pos (starEach es X.env)).any (·.1) = false := by rfl) : JE X W (.Call (.Name x p) (e :: es) [] pos) (vCB o vs) := by
  obtain ⟨r, h0, h1⟩ := ho; obtain ⟨ta, p1, s1⟩ := ha
  exact ⟨_, pe_callB h0 hg hm hv p1 hn hdb he hpl, fun σ F H s m k x l en hv hx Q q => s1 σ F H s m _ x l en hv hx _ fun us ds F1 H1 m1 t1 r1 k1 => h1 F1 H1 m1 ds us k t1.le t1.mr r1 k1 Q fun z g F3 H3 m3 s3 r3 k3 => q z g F3 H3 m3 (t1.trans s3) r3 k3⟩
theorem je_callTy {x : Str} {T : String} {o : OA} {p : Pos} (ho : JOA X (.type T) o) (hg : Gl X x) (hm : X.mg x = none) (hv : bootBuiltins x = some (.type T)) (ha : JA X W (e :: es) vs) (hn : x ≠ "__name__" := by decide) (hdb : (x == ("__debug__" : Str)) = false := by decide)
    (he : starEach (e :: es) X.env = (false, eval e X.env) :: starEach es X.env := by rfl) (hpl : (backTo pos (starEach es X.env)).any (·.1) = false := by rfl) : JE X W (.Call (.Name x p) (e :: es) [] pos) (vCB o vs) := by
  obtain ⟨r, h0, h1⟩ := ho; obtain ⟨ta, p1, s1⟩ := ha
  exact ⟨_, pe_callTy h0 hg hm hv p1 hn hdb he hpl, fun σ F H s m k x l en hv hx Q q => s1 σ F H s m _ x l en hv hx _ fun us ds F1 H1 m1 t1 r1 k1 => h1 F1 H1 m1 ds us k t1.le t1.mr r1 k1 Q fun z g F3 H3 m3 s3 r3 k3 => q z g F3 H3 m3 (t1.trans s3) r3 k3⟩
/-! tests -/
theorem isB_of {d : D} {k : Bool → Prop} (h : isB d k) : ∃ b, d = .bl b ∧ k b := by
  cases d with
  | bl b => exact ⟨b, rfl, h⟩
  | _ => exact h.elim
theorem SndE.test {te : TE} (h : SndE X.K X.mg W te ve) : SndT X.K X.mg W (tTest te) (tV ve) := fun σ F H s m k x l en hv hx Q q => h σ F H s m _ x l en hv hx _ fun v d F1 H1 m1 t1 r1 k1 => by
  obtain ⟨b, rfl, hk⟩ := isB_of k1
  exact ⟨b, r1.blI, q b F1 H1 m1 t1 hk⟩
theorem jt_cmp {op : CmpOp} {o : O2} (ho : JO2 X (compareOp op) o) (ha : JE X W a va) (hb : JE X W b vb) (hm : behindInMarks op b = false) : JT X W (.Compare a [op] [b] pos) (tV (vOp o va vb)) := by
  obtain ⟨r, h0, h1⟩ := ho; obtain ⟨ta, p1, s1⟩ := ha; obtain ⟨tb, p2, s2⟩ := hb
  exact ⟨_, pt_cmpR h0 p1 p2 hm, (SndE.op h1 s1 s2).test⟩
theorem jt_val (h : JE X W e ve) (he : ∀ whole, isTrue e X.env whole = (do let v ← whole; standAt e.pos; holding [v] (truthy v)) := by intro _; rfl) : JT X W e (tV ve) := by
  obtain ⟨te, p1, s1⟩ := h
  exact ⟨_, pt_val p1 he, s1.test⟩
theorem SndT.and {t u : TT} (h1 : SndT X.K X.mg W t vt) (h2 : SndT X.K X.mg W u vu) : SndT X.K X.mg W (tAnd t u) (vAnd vt vu) := fun σ F H s m k x l en hv hx Q q => h1 σ F H s m _ x l en hv hx _ fun b F1 H1 m1 t1 k1 => by
  cases b with
  | true =>
    rw [if_pos rfl] at k1 ⊢
    exact h2 σ F1 H1 s m1 k x t1.le (en.stm t1) k1 (hx.after t1) Q fun b F2 H2 m2 t2 k2 => q b F2 H2 m2 (t1.trans t2) k2
  | false =>
    rw [if_neg (by decide)] at k1 ⊢
    exact q false F1 H1 m1 t1 k1
theorem SndT.or {t u : TT} (h1 : SndT X.K X.mg W t vt) (h2 : SndT X.K X.mg W u vu) : SndT X.K X.mg W (tOr t u) (vOr vt vu) := fun σ F H s m k x l en hv hx Q q => h1 σ F H s m _ x l en hv hx _ fun b F1 H1 m1 t1 k1 => by
  cases b with
  | true =>
    rw [if_pos rfl] at k1 ⊢
    exact q true F1 H1 m1 t1 k1
  | false =>
    rw [if_neg (by decide)] at k1 ⊢
    exact h2 σ F1 H1 s m1 k x t1.le (en.stm t1) k1 (hx.after t1) Q fun b F2 H2 m2 t2 k2 => q b F2 H2 m2 (t1.trans t2) k2
theorem jw_and1 (ha : JT X W a vt) : JW X W (.BoolOp .And [a] pos) vt := by obtain ⟨t, p, s⟩ := ha; exact ⟨_, pw_and1 p, s⟩
theorem jw_or1 (ha : JT X W a vt) : JW X W (.BoolOp .Or [a] pos) vt := by obtain ⟨t, p, s⟩ := ha; exact ⟨_, pw_or1 p, s⟩
theorem jw_and (ha : JT X W a vt) (hb : JW X W (.BoolOp .And (b :: rest) pos) vu) : JW X W (.BoolOp .And (a :: b :: rest) pos) (vAnd vt vu) := by
  obtain ⟨t, p, s⟩ := ha; obtain ⟨u, p2, s2⟩ := hb; exact ⟨_, pw_and p p2, s.and s2⟩
theorem jw_or (ha : JT X W a vt) (hb : JW X W (.BoolOp .Or (b :: rest) pos) vu) : JW X W (.BoolOp .Or (a :: b :: rest) pos) (vOr vt vu) := by
  obtain ⟨t, p, s⟩ := ha; obtain ⟨u, p2, s2⟩ := hb; exact ⟨_, pw_or p p2, s.or s2⟩
theorem JW.jt (h : JW X W e vt) : JT X W e vt := by obtain ⟨t, p, s⟩ := h; exact ⟨_, p.pt, s⟩
theorem jt_not (ha : JT X W a vt) : JT X W (.UnaryOp .Not a pos) (vNot vt) := by
  obtain ⟨t, p, s1⟩ := ha
  exact ⟨_, pt_not p, fun σ F H s m k x l en hv hx Q q => s1 σ F H s m _ x l en hv hx _ fun b F1 H1 m1 t1 k1 => q (!b) F1 H1 m1 t1 k1⟩
theorem je_one {op} (h : JE X W a va) : JE X W (.BoolOp op [a] pos) va := by obtain ⟨t, p, s⟩ := h; exact ⟨_, pe_one p, s⟩
theorem je_and (ha : JE X W a va) (hb : JE X W (.BoolOp .And (b :: rest) pos) vb) : JE X W (.BoolOp .And (a :: b :: rest) pos) (vAndV va vb) := by
  obtain ⟨t, p, s1⟩ := ha; obtain ⟨u, p2, s2⟩ := hb
  refine ⟨_, pe_and p p2, fun σ F H s m k x l en hv hx Q q => s1 σ F H s m _ x l en hv hx _ fun v d F1 H1 m1 t1 r1 k1 => ?_⟩
  replace k1 := isB_of k1
  obtain ⟨b, rfl, k1⟩ := k1
  refine ⟨b, r1.blI, ?_⟩
  cases b with
  | true =>
    rw [if_pos rfl] at k1 ⊢
    exact s2 σ F1 H1 s m1 k x t1.le (en.stm t1) k1 (hx.after t1) Q fun v d F2 H2 m2 t2 r2 k2 => q v d F2 H2 m2 (t1.trans t2) r2 k2
  | false =>
    rw [if_neg (by decide)] at k1 ⊢
    exact q _ _ F1 H1 m1 t1 (.bl false) k1
theorem je_not (ha : JE X W a va) : JE X W (.UnaryOp .Not a pos) (vNotV va) := by
  obtain ⟨t, p, s1⟩ := ha
  refine ⟨_, pe_not p, fun σ F H s m k x l en hv hx Q q => s1 σ F H s m _ x l en hv hx _ fun v d F1 H1 m1 t1 r1 k1 => ?_⟩
  replace k1 := isB_of k1
  obtain ⟨b, rfl, k1⟩ := k1
  exact ⟨b, r1.blI, q _ _ F1 H1 m1 t1 (.bl _) k1⟩
theorem je_if (ht : JT X W c vt) (ha : JE X W a va) (hb : JE X W b vb) : JE X W (.IfExp c a b pos) (vIf vt va vb) := by
  obtain ⟨t, p, s0⟩ := ht; obtain ⟨ta, p1, s1⟩ := ha; obtain ⟨tb, p2, s2⟩ := hb
  refine ⟨_, pe_ifExp p p1 p2, fun σ F H s m k x l en hv hx Q q => s0 σ F H s m _ x l en hv hx _ fun b F1 H1 m1 t1 k1 => ?_⟩
  cases b with
  | true =>
    rw [if_pos rfl] at k1 ⊢
    exact s1 σ F1 H1 s m1 k x t1.le (en.stm t1) k1 (hx.after t1) Q fun v d F2 H2 m2 t2 r2 k2 => q v d F2 H2 m2 (t1.trans t2) r2 k2
  | false =>
    rw [if_neg (by decide)] at k1 ⊢
    exact s2 σ F1 H1 s m1 k x t1.le (en.stm t1) k1 (hx.after t1) Q fun v d F2 H2 m2 t2 r2 k2 => q v d F2 H2 m2 (t1.trans t2) r2 k2
theorem jp_no : JP X W none vNoP := ⟨_, po_none, fun σ F H s m k x l en hv _ Q q => q none F H m (StM.refl l en.mem) hv⟩
theorem jp_some (h : JE X W e ve) : JP X W (some e) (vP ve) := by
  obtain ⟨t, p, s1⟩ := h
  refine ⟨_, po_some p, fun σ F H s m k x l en hv hx Q q => s1 σ F H s m _ x l en hv hx _ fun v d F1 H1 m1 t1 r1 k1 => ?_⟩
  cases d with
  | int i => exact ⟨i, r1.intI, q (some i) F1 H1 m1 t1 k1⟩
  | _ => exact k1.elim
end
end Ts
namespace Ts
open PySem PySem.Spec PyProof.Rows L2
/-! ### statements -/
structure DE where
  nx : SL → Mem → Prop
  rt : D → Mem → Prop
  bk : SL → Mem → Prop := fun _ _ => False
  ct : SL → Mem → Prop := fun _ _ => False
  ex : XD → SL → Mem → Prop := fun _ _ _ => False
abbrev VS := SL → Mem → DE → Prop
structure Lk (K : PySem.W.Frag) (mg : Str → Option Value) (W : WX) (F H : Hp) (m : Mem) (G : DE) (E : Ends) : Prop where
  nx : ∀ σ' s' F' H' m', StM K mg m F H F' H' m' → EnvR K mg F' H' σ' s' m' → G.nx s' m' → E.nx σ' H'
  rt : ∀ v d F' H' m', StM K mg m F H F' H' m' → Rp K mg F' v d → G.rt d m' → E.rt v H'
  bk : ∀ σ' s' F' H' m', StM K mg m F H F' H' m' → EnvR K mg F' H' σ' s' m' → G.bk s' m' → E.bk σ' H'
  ct : ∀ σ' s' F' H' m', StM K mg m F H F' H' m' → EnvR K mg F' H' σ' s' m' → G.ct s' m' → E.ct σ' H'
  ex : ∀ cls dd e σ' s' F' H' m', StM K mg m F H F' H' m' → EnvR K mg F' H' σ' s' m' → RpX K mg F' H' cls dd e → G.ex e s' m' → W cls dd σ' H'
def SndS (K : PySem.W.Frag) (mg : Str → Option Value) (W : WX) (t : TS) (v : VS) : Prop := ∀ (σ : L2.St) (F H : Hp) (s : SL) (m : Mem) (G : DE), Le F H → EnvR K mg F H σ s m → v s m G → ∀ E : Ends, Lk K mg W F H m G E → t E σ H
def JS (X : Cx) (W : WX) (st : Stmt) (v : VS) : Prop := ∃ t, PS X st t ∧ SndS X.K X.mg W t v
def JSs (X : Cx) (W : WX) (st : List Stmt) (v : VS) : Prop := ∃ t, PSs X st t ∧ SndS X.K X.mg W t v
section
variable {K : PySem.W.Frag} {mg : Str → Option Value} {W : WX} {F H F1 H1 : Hp} {m m1 : Mem} {G : DE} {E : Ends} {σ : L2.St} {s : SL}
theorem Lk.after (L : Lk K mg W F H m G E) (t : StM K mg m F H F1 H1 m1) : Lk K mg W F1 H1 m1 G E :=
  ⟨fun σ' s' F' H' m' u e g => L.nx σ' s' F' H' m' (t.trans u) e g, fun v d F' H' m' u r g => L.rt v d F' H' m' (t.trans u) r g, fun σ' s' F' H' m' u e g => L.bk σ' s' F' H' m' (t.trans u) e g, fun σ' s' F' H' m' u e g => L.ct σ' s' F' H' m' (t.trans u) e g,
   fun cls dd e σ' s' F' H' m' u en r g => L.ex cls dd e σ' s' F' H' m' (t.trans u) en r g⟩
theorem Lk.x (L : Lk K mg W F H m G E) (en : EnvR K mg F H σ s m) : XOk K mg W σ F H m (fun e m' => G.ex e s m') := fun cls dd e F' H' m' t r g => L.ex cls dd e σ s F' H' m' t (en.stm t) r g
end
@[reducible] def vNext : VS := fun s m G => G.nx s m
@[reducible] def vBreak : VS := fun s m G => G.bk s m
@[reducible] def vCont : VS := fun s m G => G.ct s m
@[reducible] def vSeq (a b : VS) : VS := fun s m G => a s m { G with nx := fun s' m' => b s' m' G }
@[reducible] def vRet (a : VE) : VS := fun s m G => a s m G.rt fun e m' => G.ex e s m'
@[reducible] def vRetN : VS := fun _ m G => G.rt .non m
@[reducible] def vDrop (a : VE) : VS := fun s m G => a s m (fun _ m' => G.nx s m') fun e m' => G.ex e s m'
@[reducible] def vIfS (t : VT) (a b : VS) : VS := fun s m G => t s m (fun c m1 => if c = true then a s m1 G else b s m1 G) fun e m' => G.ex e s m'
@[reducible] def vNever : VS := fun _ _ _ => False
/-! ### targets -/
abbrev VG := D → SL → (SL → Prop) → Prop
abbrev VGs := List D → SL → (SL → Prop) → Prop
def SndG (K : PySem.W.Frag) (mg : Str → Option Value) (g : TG) (js : List Nat) (v : VG) : Prop := ∀ (u : V) (σ : L2.St) (F H : Hp) (d : D) (s : SL) (m : Mem) (k : SL → Prop), Le F H → EnvR K mg F H σ s m → Rp K mg F u d → v d s k → ∀ Q : L2.St → Hp → Prop,
  (∀ σ' s', EnvR K mg F H σ' s' m → (∀ vs : List Nat, (∀ j ∈ js, j ∈ vs) → L2.wipe σ' vs = L2.wipe σ vs) → k s' → Q σ' H) → g u σ H Q
def SndGs (K : PySem.W.Frag) (mg : Str → Option Value) (g : TGs) (js : List Nat) (v : VGs) : Prop := ∀ (u : List V) (σ : L2.St) (F H : Hp) (d : List D) (s : SL) (m : Mem) (k : SL → Prop), Le F H → EnvR K mg F H σ s m → RpL K mg F u d → v d s k → ∀ Q : L2.St → Hp → Prop,
  (∀ σ' s', EnvR K mg F H σ' s' m → (∀ vs : List Nat, (∀ j ∈ js, j ∈ vs) → L2.wipe σ' vs = L2.wipe σ vs) → k s' → Q σ' H) → g u σ H Q
def JG (X : Cx) (e : Expr) (js : List Nat) (v : VG) : Prop := ∃ g, PG X e g ∧ SndG X.K X.mg g js v
def JGs (X : Cx) (e : List Expr) (js : List Nat) (v : VGs) : Prop := ∃ g, PGs X e g ∧ SndGs X.K X.mg g js v
@[reducible] def gN (i : Nat) : VG := fun d s k => k (s.set i (some d))
def gNl : VGs
  | [], s, k => k s
  | _, _, _ => False
def gCn (a : VG) (r : VGs) : VGs
  | d :: ds, s, k => a d s fun s' => r ds s' k
  | _, _, _ => False
def gTp (n : Nat) (r : VGs) : VG
  | .tup ds, s, k => ds.length = n ∧ r ds s k
  | .pr ds, s, k => ds.length = n ∧ r ds s k
  | _, _, _ => False
theorem wipe_ix {σ : L2.St} {j : Nat} : ∀ {vs : List Nat}, j ∉ vs → (L2.wipe σ vs)[j]? = σ[j]?
  | [], _ => rfl
  | v :: vs, h => by
    have h1 : j ≠ v := fun z => h (by rw [z]; exact List.mem_cons_self)
    show ((L2.wipe σ vs).set v none)[j]? = σ[j]?
    rw [List.getElem?_set_ne (fun z => h1 z.symm), wipe_ix fun z => h (List.mem_cons_of_mem _ z)]
theorem wipe_in {σ : L2.St} {j : Nat} : ∀ {vs : List Nat}, j ∈ vs → j < σ.length → (L2.wipe σ vs)[j]? = some none
  | v :: vs, h, hl => by
    show ((L2.wipe σ vs).set v none)[j]? = some none
    by_cases e : j = v
    · subst e
      rw [List.getElem?_set_self (by rw [L2.wipe_length]; exact hl)]
    · rw [List.getElem?_set_ne (fun z => e z.symm)]
      rcases List.mem_cons.mp h with z | z
      · exact absurd z e
      · exact wipe_in z hl
theorem wipe_set {σ : L2.St} {i : Nat} {x : Option V} {vs : List Nat} (h : i ∈ vs) : L2.wipe (σ.set i x) vs = L2.wipe σ vs := by
  apply List.ext_getElem?
  intro j
  by_cases hj : j ∈ vs
  · by_cases hl : j < σ.length
    · rw [wipe_in hj (by rw [List.length_set]; exact hl), wipe_in hj hl]
    · rw [List.getElem?_eq_none (by rw [L2.wipe_length, List.length_set]; omega), List.getElem?_eq_none (by rw [L2.wipe_length]; omega)]
  · rw [wipe_ix hj, wipe_ix hj, List.getElem?_set_ne (fun z => hj (by rw [← z]; exact h))]
theorem wipe_wipe {σ : L2.St} {vs : List Nat} : L2.wipe (L2.wipe σ vs) vs = L2.wipe σ vs := by
  apply List.ext_getElem?
  intro j
  by_cases hj : j ∈ vs
  · by_cases hl : j < σ.length
    · rw [wipe_in hj (by rw [L2.wipe_length]; exact hl), wipe_in hj hl]
    · rw [List.getElem?_eq_none (by rw [L2.wipe_length, L2.wipe_length]; omega), List.getElem?_eq_none (by rw [L2.wipe_length]; omega)]
  · rw [wipe_ix hj]
section
variable {X : Cx} {W : WX} {e a : Expr} {es : List Expr} {pos : Pos} {ve va : VE} {vt : VT} {st : Stmt} {rest : List Stmt} {v v1 v2 : VS} {js js' : List Nat} {vg : VG} {vgs : VGs} {vs : VA}
theorem jg_name {i : Nat} {x : Str} (hN : X.N.Nodup) (hi : X.N[i]? = some x) (hx : Loc X.env.scope x) (hf : X.fn x = true ∨ X.env.scope.names.lookup x = some .local := by first | exact .inl rfl | exact .inr rfl | assumption) : JG X (.Name x pos) [i] (gN i) :=
  ⟨_, pg_name hN hi hx hf, fun u σ F H d s m k l en r h Q q => q _ _ (en.set r) (fun vs hv => wipe_set (hv i (List.mem_singleton.mpr rfl))) h⟩
theorem jgs_nil : JGs X [] [] gNl := ⟨_, pgs_nil, fun u σ F H d s m k l en r h Q q => by
  cases r with
  | nil => exact ⟨rfl, q σ s en (fun _ _ => rfl) h⟩
  | cons _ _ => exact h.elim⟩
theorem jgs_cons (h1 : JG X e js vg) (h2 : JGs X es js' vgs) (hs : (assignEach (e :: es) X.env).map (·.2) = assign e X.env :: (assignEach es X.env).map (·.2) := by rfl) : JGs X (e :: es) (js ++ js') (gCn vg vgs) := by
  obtain ⟨g1, p1, s1⟩ := h1; obtain ⟨g2, p2, s2⟩ := h2
  refine ⟨_, pgs_cons p1 p2 hs, fun u σ F H d s m k l en r h Q q => ?_⟩
  cases r with
  | nil => exact h.elim
  | cons ra rb =>
    refine ⟨_, _, rfl, s1 _ σ F H _ s m _ l en ra h _ fun σ1 s1' e1 w1 k1 => ?_⟩
    refine s2 _ σ1 F H _ s1' m k l e1 rb k1 Q fun σ2 s2' e2 w2 k2 => q σ2 s2' e2 (fun vs hv => ?_) k2
    rw [w2 vs (fun j hj => hv j (List.mem_append_right _ hj)), w1 vs (fun j hj => hv j (List.mem_append_left _ hj))]
theorem jg_tup {k n : Nat} (hc : X.calm = true) (h : JGs X es js vgs) (hn : (assignEach es X.env).length = n := by rfl) (hst : (assignEach es X.env).findIdx? (·.1) = none := by rfl) : JG X (.Tuple es k pos) js (gTp n vgs) := by
  obtain ⟨g, p, s1⟩ := h
  refine ⟨_, pg_tup hc p hn hst, fun u σ F H d s m k l en r h Q q => ?_⟩
  cases d with
  | tup ds =>
    obtain ⟨a, xs, rfl, sq, rl⟩ := r.tupI
    exact ⟨a, xs, rfl, l.sqt sq, by rw [rl.len]; exact h.1, s1 xs σ F H ds s m k l en rl h.2 Q q⟩
  | pr ds =>
    obtain ⟨a, xs, rfl, sq, rl⟩ := r.prI
    exact ⟨a, xs, rfl, l.sqt (SqT.of sq), by rw [rl.len]; exact h.1, s1 xs σ F H ds s m k l en rl h.2 Q q⟩
  | _ => exact h.elim
/-! ### statements, one by one -/
theorem jss_nil : JSs X W [] vNext := ⟨_, pss_nil, fun σ F H s m G l en h E L => L.nx σ s F H m (StM.refl l en.mem) en h⟩
theorem SndS.seq {t u : TS} (h1 : SndS X.K X.mg W t v1) (h2 : SndS X.K X.mg W u v2) : SndS X.K X.mg W (tSeq t u) (vSeq v1 v2) := fun σ F H s m G l en h E L =>
  h1 σ F H s m _ l en h { E with nx := u E } ⟨fun σ' s' F' H' m' t e g => h2 σ' F' H' s' m' G t.le e g E (L.after t), L.rt, L.bk, L.ct, L.ex⟩
theorem jss_cons (h1 : JS X W st v1) (h2 : JSs X W rest v2) : JSs X W (st :: rest) (vSeq v1 v2) := by
  obtain ⟨t, p1, s1⟩ := h1; obtain ⟨u, p2, s2⟩ := h2
  exact ⟨_, pss_cons p1 p2, s1.seq s2⟩
theorem jss_one (h1 : JS X W st v) : JSs X W [st] v := by obtain ⟨t, p1, s1⟩ := h1; exact ⟨_, pss_one p1, s1⟩
theorem js_ret (he : JE X W e ve) : JS X W (.Return (some e) pos) (vRet ve) := by
  obtain ⟨t, p1, s1⟩ := he
  exact ⟨_, ps_ret p1, fun σ F H s m G l en h E L => s1 σ F H s m _ _ l en h (L.x en) _ fun v d F' H' m' t r g => L.rt v d F' H' m' t r g⟩
theorem js_expr (he : JE X W e ve) (hs : swapsWith e none pos.line X.env = pure false := by rfl) : JS X W (.Expr e pos) (vDrop ve) := by
  obtain ⟨t, p1, s1⟩ := he
  exact ⟨_, ps_expr p1 hs, fun σ F H s m G l en h E L => s1 σ F H s m _ _ l en h (L.x en) _ fun v d F' H' m' t r g => L.nx σ s F' H' m' t (en.stm t) g⟩
theorem js_if {a b : List Stmt} (hc : JT X W e vt) (ha : JSs X W a v1) (hb : JSs X W b v2) : JS X W (.If e a b pos) (vIfS vt v1 v2) := by
  obtain ⟨t, p0, s0⟩ := hc; obtain ⟨t1, p1, s1⟩ := ha; obtain ⟨t2, p2, s2⟩ := hb
  refine ⟨_, ps_if p0 p1 p2, fun σ F H s m G l en h E L => s0 σ F H s m _ _ l en h (L.x en) _ fun b F1 H1 m1 t1 k1 => ?_⟩
  cases b with
  | true =>
    rw [if_pos rfl] at k1 ⊢
    exact s1 σ F1 H1 s m1 G t1.le (en.stm t1) k1 E (L.after t1)
  | false =>
    rw [if_neg (by decide)] at k1 ⊢
    exact s2 σ F1 H1 s m1 G t1.le (en.stm t1) k1 E (L.after t1)
/-- target = e -/
@[reducible] def vAsg (a : VE) (g : VG) : VS := fun s m G => a s m (fun d m' => g d s fun s' => G.nx s' m') fun e m' => G.ex e s m'
theorem js_asg {tg : Expr} (he : JE X W e ve) (hg : JG X tg js vg) (hs : swapsWithSole [tg] e pos.line X.env = pure false := by rfl) (hw : swappedStores [tg] e X.env = pure none := by rfl) (h1 : (assignEach [tg] X.env).map (·.2) = [assign tg X.env] := by rfl) : JS X W (.Assign [tg] e pos) (vAsg ve vg) := by
  obtain ⟨t, p1, s1⟩ := he; obtain ⟨g, p2, s2⟩ := hg
  exact ⟨_, ps_asg p1 p2 hs hw h1, fun σ F H s m G l en h E L => s1 σ F H s m _ _ l en h (L.x en) _ fun v d F' H' m' t r k => s2 v σ F' H' d s m' _ t.le (en.stm t) r k _ fun σ' s' e' _ g => L.nx σ' s' F' H' m' t e' g⟩
@[reducible] def vSet (i : Nat) (a : VE) : VS := fun s m G => a s m (fun d m' => G.nx (s.set i (some d)) m') fun e m' => G.ex e s m'
theorem js_set {i : Nat} {x : Str} {pos' : Pos} (hN : X.N.Nodup) (hi : X.N[i]? = some x) (hx : Loc X.env.scope x) (he : JE X W e ve) (hs : swapsWith e (some (.Name x pos')) pos.line X.env = pure false := by rfl) (hf : X.fn x = true ∨ X.env.scope.names.lookup x = some .local := by first | exact .inl rfl | exact .inr rfl | assumption) :
    JS X W (.Assign [.Name x pos'] e pos) (vSet i ve) := by
  obtain ⟨t, p1, s1⟩ := he
  exact ⟨_, ps_set hN hi hx p1 hs hf, fun σ F H s m G l en h E L => s1 σ F H s m _ _ l en h (L.x en) _ fun v d F' H' m' t r k => L.nx _ _ F' H' m' t ((en.stm t).set r) k⟩
@[reducible] def vPar (i j : Nat) (a : VA) : VS := fun s m G => a s m (fun ds m' => match ds with
  | [d, e] => G.nx ((s.set i (some d)).set j (some e)) m'
  | _ => False) fun e m' => G.ex e s m'
theorem SndS.par {i j : Nat} {ta : TA} (h1 : SndA X.K X.mg W ta vs) : SndS X.K X.mg W (tPar i j ta) (vPar i j vs) := fun σ F H s m G l en h E L => h1 σ F H s m _ _ l en h (L.x en) _ fun us ds F' H' m' t r k => by
  cases r with
  | nil => exact k.elim
  | cons ra r => cases r with
    | nil => exact k.elim
    | cons rb r => cases r with
      | nil => exact ⟨_, _, rfl, L.nx _ _ F' H' m' t (((en.stm t).set ra).set rb) k⟩
      | cons _ _ => exact k.elim
/-- name op= e -/
@[reducible] def vAug (i : Nat) (o : O2) (a : VE) : VS := fun s m G => vGet s[i]? fun d => a s m (fun e m1 => o d e m1 fun z m2 => G.nx (s.set i (some z)) m2) fun e m' => G.ex e s m'
/-- from now on nobody changes what the slot holds -/
@[reducible] def vFrz (i : Nat) (v : VS) : VS := fun s m G => vGet s[i]? fun d => match d with
  | .ref p => match m p with
    | some o => o.onF fun d => v (s.set i (some d)) (mdel m p) G
    | none => False
  | _ => False
/-- a dict may be locked for good ahead of a block -/
def tLk (t : TS) : TS := fun D σ H => t D σ H ∨ ∃ d u, H d = some u ∧ Mut (some u) ∧ ∀ od, t D σ (upd H d (.frz od u))
theorem pss_lk {sts : List Stmt} {t : TS} (h : PSs X sts t) : PSs X sts (tLk t) := ⟨fun pins s σ H D I hw => by
  rcases hw with hw | ⟨d, u, hd, mu, hw⟩
  · exact h.run pins s σ H D I hw
  · obtain ⟨od, I1⟩ := I.lock hd mu
    exact h.run pins s σ _ D I1 (hw od)⟩
theorem SndS.frz {i : Nat} {t : TS} (h1 : SndS X.K X.mg W t v) : SndS X.K X.mg W (tLk t) (vFrz i v) := fun σ F H s m G l en h E L => by
  unfold vFrz vGet at h
  split at h
  · rename_i d hs
    cases d with
    | ref p =>
      cases hm : m p with
      | none => simp only [hm] at h
      | some o =>
        simp only [hm] at h
        obtain ⟨w, h2, h3⟩ := en.val i _ hs
        obtain rfl := h3.refI
        cases hk0 : o.isK with
        | false =>
          obtain ⟨F', d', st, r, hk⟩ := StM.frz l en.mem hm hk0 h
          exact .inl (h1 σ F' H _ _ G st.le ((en.stm st).told h2 r) hk E (L.after st))
        | true =>
          cases o with
          | dic ds =>
            obtain ⟨xs, hp, st0⟩ := StM.lock l en.mem hm
            refine .inr ⟨p, _, hp, trivial, fun od => ?_⟩
            obtain ⟨F', d', st, r, hk⟩ := StM.frz (u := .lck ds) (st0 od).le (st0 od).mr mset_same rfl (k := fun d => v (s.set i (some d)) (mdel m p) G) h
            have e : mdel (mset m p (.lck ds)) p = mdel m p := by funext b; unfold mdel mset; split <;> rfl
            rw [e] at st
            have st2 := (st0 od).trans st
            exact h1 σ F' _ _ _ G st2.le ((en.stm st2).told h2 r) hk E (L.after st2)
          | _ => cases hk0
    | _ => exact h.elim
  · exact h.elim
theorem jss_frz {sts : List Stmt} (i : Nat) (h : JSs X W sts v) : JSs X W sts (vFrz i v) := by obtain ⟨t, p, s⟩ := h; exact ⟨_, pss_lk p, s.frz⟩
/-- .. of an expression's value -/
@[reducible] def vFz (a : VE) : VE := fun s m k x => a s m (fun d m' => match d with
  | .ref p => match m' p with
    | some o => o.onF fun d => k d (mdel m' p)
    | none => False
  | _ => False) x
/-- a new dict may be locked for good -/
def tLkE (t : TE) : TE := fun σ H Q => t σ H fun v H1 => Q v H1 ∨ ∃ d u, v = .ref d ∧ H1 d = some u ∧ Mut (some u) ∧ ∀ od, Q v (upd H1 d (.frz od u))
theorem pe_lk {e : Expr} {t : TE} (h : PE X e t) : PE X e (tLkE t) := ⟨fun pins s σ H Q I hw => by
  refine thn (h.run pins s σ H _ I hw) fun v s1 ⟨x, H1, I1, r1, q1⟩ => ?_
  rcases q1 with q1 | ⟨d, u, rfl, hd, mu, q1⟩
  · exact ⟨x, H1, I1, r1, q1⟩
  · obtain ⟨od, I2⟩ := I1.lock hd mu
    exact ⟨_, _, I2, r1, q1 od⟩⟩
theorem mdel_lk {m : Mem} {p : Addr} {o : MO} : mdel (mset m p o) p = mdel m p := by funext b; unfold mdel mset; split <;> rfl
theorem je_fz (h : JE X W e ve) : JE X W e (vFz ve) := by
  obtain ⟨t, p, s1⟩ := h
  refine ⟨_, pe_lk p, fun σ F H s m k x l en hv hx Q q => s1 σ F H s m _ x l en hv hx _ fun v d F1 H1 m1 t1 r1 k1 => ?_⟩
  cases d with
  | ref p =>
    cases hm : m1 p with
    | none => simp only [hm] at k1
    | some o =>
      simp only [hm] at k1
      obtain rfl := r1.refI
      cases hk0 : o.isK with
      | false =>
        obtain ⟨F', d', st, r, hk⟩ := StM.frz t1.le t1.mr hm hk0 k1
        exact .inl (q _ _ F' H1 _ (t1.trans st) r hk)
      | true =>
        cases o with
        | dic ds =>
          obtain ⟨xs, hp, st0⟩ := StM.lock t1.le t1.mr hm
          refine .inr ⟨p, _, rfl, hp, trivial, fun od => ?_⟩
          obtain ⟨F', d', st, r, hk⟩ := StM.frz (u := .lck ds) (st0 od).le (st0 od).mr mset_same rfl (k := fun d => k d (mdel m1 p)) k1
          rw [mdel_lk] at st
          exact q _ _ F' _ _ (t1.trans ((st0 od).trans st)) r hk
        | _ => cases hk0
  | _ => exact k1.elim
end
/-! ### loops -/
/-- a for over data; dep: what must stand at each turn -/
def forV (b : D → VS) : List D → VS
  | [], s, m, G => G.nx s m
  | d :: ds, s, m, G => b d s m { G with nx := fun s' m' => forV b ds s' m' G, ct := fun s' m' => forV b ds s' m' G, bk := G.nx }
def forM (dep : Mem → Prop) (b : D → VS) : List D → VS
  | [], s, m, G => dep m ∧ G.nx s m
  | d :: ds, s, m, G => dep m ∧ b d s m { G with nx := fun s' m' => forM dep b ds s' m' G, ct := fun s' m' => forM dep b ds s' m' G, bk := G.nx }
/-- what is walked, over data: it gives ds, item by item, as long as dep stands -/
def ItD (K : PySem.W.Frag) (mg : Str → Option Value) (J : It) (F1 : Hp) (dep : Mem → Prop) (ds : List D) : Prop := ∀ F' H' m' i, Gr F1 F' → Le F' H' → MemR K mg F' H' m' → dep m' →
  (i < ds.length → J.go i H') ∧ (ds.length ≤ i → J.stop i H') ∧ ∀ x H2, i < ds.length → J.yld i H' x H2 → ∃ d F2, ds[i]? = some d ∧ Step F' H' F2 H2 ∧ Rp K mg F2 x d
abbrev VI := SL → Mem → (List D → (Mem → Prop) → Mem → Prop) → KX → Prop
/-- the same over what is frozen -/
abbrev VF := SL → Mem → (List D → Mem → Prop) → KX → Prop
def SndF (K : PySem.W.Frag) (mg : Str → Option Value) (W : WX) (wi : TI) (v : VF) : Prop := ∀ (σ : L2.St) (F H : Hp) (s : SL) (m : Mem) (k : List D → Mem → Prop) (x : KX), Le F H → EnvR K mg F H σ s m → v s m k x → XOk K mg W σ F H m x → ∀ R : It → Hp → Prop,
  (∀ J ds F' H' m', StM K mg m F H F' H' m' → ItD K mg J F' (fun _ => True) ds → k ds m' → R J H') → wi σ H R
def JF (X : Cx) (W : WX) (tg e : Expr) (v : VF) : Prop := ∃ wi, PI X tg e wi ∧ SndF X.K X.mg W wi v
theorem drop_of {α : Type} {ds : List α} {i : Nat} {d : α} (hi : ds[i]? = some d) : ds.drop i = d :: ds.drop (i + 1) := by
  obtain ⟨h1, h2⟩ := List.getElem?_eq_some_iff.mp hi
  rw [List.drop_eq_getElem_cons h1, h2]
section
variable {X : Cx} {W : WX} {e tg : Expr} {body : List Stmt} {pos : Pos} {vi : VI} {v : VS} {js : List Nat} {vg : VG} {vt : VT}
@[reducible] def vForM (i : VI) (g : VG) (b : VS) : VS := fun s m G => i s m (fun ds dep m1 => forM dep (fun d s m G => g d s fun s1 => b s1 m G) ds s m1 G) fun e m' => G.ex e s m'
/-- over what is frozen -/
@[reducible] def vFor (i : VF) (g : VG) (b : VS) : VS := fun s m G => i s m (fun ds m1 => forV (fun d s m G => g d s fun s1 => b s1 m G) ds s m1 G) fun e m' => G.ex e s m'
theorem js_for {vi : VF} (hp : PassesOwn (model X.prog X.w) X.A X.env X.xe) (hc : X.calm = true) (hi : JF X W tg e vi) (hg : JG X tg js vg) (hb : JSs X W body v) (hs : ∀ x, foldedSetIterable e X.env x = pure x := by intro _; rfl) : JS X W (.For tg e body [] pos) (vFor vi vg v) := by
  obtain ⟨wi, p0, s0⟩ := hi; obtain ⟨g, p1, s1⟩ := hg; obtain ⟨tb, p2, s2⟩ := hb
  refine ⟨_, ps_for hp hc p0 p1 p2 hs, fun σ F H s m G l en h E L => s0 σ F H s m _ _ l en h (L.x en) _ fun J ds F1 H1 m1 t1 J1 h1 => ?_⟩
  have L1 := L.after t1
  refine ⟨fun i n σ' H' => n = ds.length - i ∧ i ≤ ds.length ∧ ∃ s' F' m', StM X.K X.mg m1 F1 H1 F' H' m' ∧ EnvR X.K X.mg F' H' σ' s' m' ∧ forV (fun d s m G => vg d s fun s1 => v s1 m G) (ds.drop i) s' m' G,
    ⟨ds.length, rfl, Nat.zero_le _, s, F1, m1, StM.refl t1.le t1.mr, en.stm t1, h1⟩, ?_⟩
  rintro i n σ' H' ⟨rfl, hi, s', F', m', st, e', w⟩
  obtain ⟨j1, j2, j3⟩ := J1 F' H' m' i st.gr st.le st.mr trivial
  by_cases hlt : i < ds.length
  · refine .inr ⟨j1 hlt, fun σ3 H3 => ∃ s' F' m', StM X.K X.mg m1 F1 H1 F' H3 m' ∧ EnvR X.K X.mg F' H3 σ3 s' m' ∧ forV (fun d s m G => vg d s fun s1 => v s1 m G) (ds.drop (i + 1)) s' m' G, fun σ3 H3 p => ⟨ds.length - (i + 1), by omega, rfl, hlt, p⟩, fun x H2 y => ?_⟩
    obtain ⟨d, F2, hd, sp, r2⟩ := j3 x H2 hlt y
    rw [drop_of hd] at w
    have st2 := st.trans (sp.stm st.mr)
    refine s1 x σ' F2 H2 d s' m' _ sp.le (e'.stm (sp.stm st.mr)) r2 w _ fun σ2 s2' e2 _ w2 => ?_
    have L2' := L1.after st2
    refine s2 σ2 F2 H2 s2' m' _ sp.le e2 w2 _ ⟨fun σ3 s3 F3 H3 m3 t3 e3 g3 => ⟨s3, F3, m3, st2.trans t3, e3, g3⟩, L2'.rt, L2'.nx, fun σ3 s3 F3 H3 m3 t3 e3 g3 => ⟨s3, F3, m3, st2.trans t3, e3, g3⟩, L2'.ex⟩
  · refine .inl ⟨j2 (by omega), ?_⟩
    rw [List.drop_of_length_le (by omega)] at w
    exact L1.nx σ' s' F' H' m' st e' w
/-- a while by an invariant and a measure -/
@[reducible] def vWhile (t : VT) (b : VS) : VS := fun s m G => ∃ I : Nat → SL → Mem → Prop, (∃ n, I n s m) ∧ ∀ n s m, I n s m → t s m (fun c m1 => if c = true then b s m1 { G with nx := fun s' m' => ∃ n', n' < n ∧ I n' s' m', ct := fun s' m' => ∃ n', n' < n ∧ I n' s' m', bk := G.nx } else G.nx s m1) fun e m' => G.ex e s m'
theorem js_while (hp : PassesOwn (model X.prog X.w) X.A X.env X.xe) (hc : JT X W e vt) (hb : JSs X W body v) : JS X W (.While e body [] pos) (vWhile vt v) := by
  obtain ⟨tc, p0, s0⟩ := hc; obtain ⟨tb, p2, s2⟩ := hb
  refine ⟨_, ps_while hp p0 p2, fun σ F H s m G l en h E L => ?_⟩
  obtain ⟨I, ⟨n0, h0⟩, hI⟩ := h
  refine ⟨fun n σ' H' => ∃ s' F' m', StM X.K X.mg m F H F' H' m' ∧ EnvR X.K X.mg F' H' σ' s' m' ∧ I n s' m', ⟨n0, s, F, m, StM.refl l en.mem, en, h0⟩, ?_⟩
  rintro n σ' H' ⟨s', F', m', st, e', i⟩
  refine s0 σ' F' H' s' m' _ _ st.le e' (hI n s' m' i) ((L.after st).x e') _ fun b F1 H1 m1 t1 k1 => ?_
  have st1 := st.trans t1
  have L1 := L.after st1
  cases b with
  | true =>
    rw [if_pos rfl] at k1 ⊢
    refine ⟨fun σ2 H2 => ∃ n', n' < n ∧ ∃ s' F' m', StM X.K X.mg m F H F' H2 m' ∧ EnvR X.K X.mg F' H2 σ2 s' m' ∧ I n' s' m', fun _ _ h => h, ?_⟩
    exact s2 σ' F1 H1 s' m1 _ t1.le (e'.stm t1) k1 _ ⟨fun σ3 s3 F3 H3 m3 t3 e3 ⟨n', hn, g3⟩ => ⟨n', hn, s3, F3, m3, st1.trans t3, e3, g3⟩, L1.rt, L1.nx, fun σ3 s3 F3 H3 m3 t3 e3 ⟨n', hn, g3⟩ => ⟨n', hn, s3, F3, m3, st1.trans t3, e3, g3⟩, L1.ex⟩
  | false =>
    rw [if_neg (by decide)] at k1 ⊢
    exact L1.nx σ' s' F1 H1 m1 (StM.refl t1.le t1.mr) (e'.stm t1) k1
end
end Ts
namespace Ts
open PySem PySem.Spec PyProof.Rows L2
/-! ### what may be walked -/
/-- a list, a tuple or a text -/
def iSeq (K : PySem.W.Frag) (tl : TE) : TI := fun σ H R => tl σ H fun x H1 => (∃ a, x = .ref a ∧ (∃ xs, SqL K H1 a xs) ∧ R (Itl K a) H1) ∨ (∃ a, x = .ref a ∧ (∃ xs, SqT K H1 a xs) ∧ R (Itt K a) H1) ∨ ∃ z, x = .str z ∧ R (Its z) H1
theorem pi_seq {X : Cx} {tg l : Expr} {tl : TE} (hl : PE X l tl) : PI X tg l (iSeq X.K tl) := by
  refine ⟨fun pins s σ H R I h => ?_⟩
  refine thn (hl.run pins s σ H _ I h) fun v s1 ⟨x, H1, I1, r1, q1⟩ => ?_
  rcases q1 with ⟨a, e, ⟨xs, hq⟩, q⟩ | ⟨a, e, ⟨xs, hq⟩, q⟩ | ⟨z, e, q⟩
  · subst e
    cases r1
    obtain ⟨its, rv, p, hz⟩ := I1.list hq
    refine wpAny_pyIter_list p.isList ?_
    refine ⟨s1.heap.objs.size, [s1.heap.objs.size], _, _, H1, rfl, I1.kept (t' := s1.toks) fun b o e => Heap.get?_push_of_some _ e, turn_list a _, ⟨_, Heap.get?_push_size _ rfl, rfl, rfl⟩, fun b hb => ?_, q⟩
    have e : b = s1.heap.objs.size := by simpa using hb
    subst e
    exact I1.fpOk (Nat.le_refl _) (I1.hok.fresh (Nat.le_refl _))
  · subst e
    cases r1
    obtain ⟨its, rv, p, hz⟩ := I1.tuple hq
    refine wpAny_pyIter_tuple (show s1.heap.IsTuple a its.toArray from p) ?_
    refine ⟨s1.heap.objs.size, [s1.heap.objs.size], _, _, H1, rfl, I1.kept (t' := s1.toks) fun b o e => Heap.get?_push_of_some _ e, turn_tuple a _, ⟨_, Heap.get?_push_size _ rfl, rfl, rfl⟩, fun b hb => ?_, q⟩
    have e : b = s1.heap.objs.size := by simpa using hb
    subst e
    exact I1.fpOk (Nat.le_refl _) (I1.hok.fresh (Nat.le_refl _))
  · subst e
    obtain ⟨t, rfl⟩ := r1
    cases ha : z.cps.all (· < 128)
    · exact wpAny_pyIter_wide ha (pi_one (tk := s1.toks) I1 _ (turn_str _ z t "str_iterator" (.inr rfl)) ⟨_, Heap.get?_push_size _ rfl, rfl, rfl⟩ q)
    · exact wpAny_pyIter_ascii ha (pi_one (tk := s1.toks) I1 _ (turn_str _ z t "str_ascii_iterator" (.inl rfl)) ⟨_, Heap.get?_push_size _ rfl, rfl, rfl⟩ q)
/-- the signs of a text -/
def signs (x : Str) : List D := x.cps.toList.map fun c => .str ⟨#[c]⟩
def wkD : D → (List D → Prop) → Prop
  | .lst ds, k => k ds
  | .lat _ ds, k => k ds
  | .tup ds, k => k ds
  | .pr ds, k => k ds
  | .str z, k => k (signs z)
  | _, _ => False
@[reducible] def vWalk (a : VE) : VF := fun s m k x => a s m (fun d m' => wkD d fun ds => k ds m') x
section
variable {K : PySem.W.Frag} {mg : Str → Option Value} {F1 : Hp}
theorem it_list {a : Addr} {xs : List V} {ds : List D} (sq : SqL K F1 a xs) (rl : RpL K mg F1 xs ds) : ItD K mg (Itl K a) F1 (fun _ => True) ds := fun F' H' m' i gr le _ _ => by
  have sq' : SqL K H' a xs := le.sql (gr.sql sq)
  refine ⟨fun hi => ?_, fun hi => ⟨xs, sq', by rw [rl.len]; exact hi⟩, fun x H2 hi y => ?_⟩
  · have hi' : i < xs.length := by rw [rl.len]; exact hi
    exact ⟨xs, xs[i], sq', List.getElem?_eq_getElem hi'⟩
  · obtain ⟨eH, y⟩ := y
    subst eH
    obtain ⟨d, hd, rd⟩ := rl.atV (y xs sq')
    exact ⟨d, F', hd, Step.refl le, rd.mono gr⟩
theorem it_tup {a : Addr} {xs : List V} {ds : List D} (sq : SqT K F1 a xs) (rl : RpL K mg F1 xs ds) : ItD K mg (Itt K a) F1 (fun _ => True) ds := fun F' H' m' i gr le _ _ => by
  have sq' : SqT K H' a xs := le.sqt (gr.sqt sq)
  refine ⟨fun hi => ?_, fun hi => ⟨xs, sq', by rw [rl.len]; exact hi⟩, fun x H2 hi y => ?_⟩
  · have hi' : i < xs.length := by rw [rl.len]; exact hi
    exact ⟨xs, xs[i], sq', List.getElem?_eq_getElem hi'⟩
  · obtain ⟨eH, y⟩ := y
    subst eH
    obtain ⟨d, hd, rd⟩ := rl.atV (y xs sq')
    exact ⟨d, F', hd, Step.refl le, rd.mono gr⟩
theorem it_str {z : Str} : ItD K mg (Its z) F1 (fun _ => True) (signs z) := fun F' H' m' i gr le _ _ => by
  have hl : (signs z).length = z.cps.size := by simp [signs]
  refine ⟨fun hi => by rw [hl] at hi; exact hi, fun hi => by rw [hl] at hi; exact hi, fun y H2 hi w => ?_⟩
  obtain ⟨eH, c, hc, ey⟩ := w
  subst eH ey
  refine ⟨.str ⟨#[c]⟩, F', ?_, Step.refl le, .str _⟩
  have hc' : z.cps.toList[i]? = some c := by simpa using hc
  simp [signs, hc']
/-- the ints from lo on -/
def rngD (lo : Int) (n : Nat) : List D := (List.range n).map fun (i : Nat) => .int (lo + (i : Int))
theorem rngD_len (lo : Int) (n : Nat) : (rngD lo n).length = n := by simp [rngD]
theorem rngD_at {lo : Int} {n i : Nat} (h : i < n) : (rngD lo n)[i]? = some (.int (lo + (i : Int))) := by simp [rngD, h]
theorem it_rng {lo : Int} {n : Nat} : ItD K mg (Itr lo n) F1 (fun _ => True) (rngD lo n) := fun F' H' m' i gr le _ _ =>
  ⟨fun hi => by rw [rngD_len] at hi; exact hi, fun hi => by rw [rngD_len] at hi; exact hi, fun x H2 hi y => by
    obtain ⟨eH, ex⟩ := y
    subst eH ex
    rw [rngD_len] at hi
    exact ⟨_, F', rngD_at hi, Step.refl le, .int _⟩⟩
/-- pairs -/
def zipD (xs ys : List D) : List D := List.zipWith (fun x y => .pr [x, y]) xs ys
def enumD (n : Nat) : List D → List D
  | [] => []
  | d :: ds => .pr [.int (n : Int), d] :: enumD (n + 1) ds
theorem pair_step {F' H' : Hp} {T : Addr} {x y : V} {dx dy : D} (le : Le F' H') (hT : H' T = none) (rx : Rp K mg F' x dx) (ry : Rp K mg F' y dy) :
    Step F' H' (upd F' T (.tup [x, y])) (upd H' T (.tup [x, y])) ∧ Rp K mg (upd F' T (.tup [x, y])) (.ref T) (.pr [dx, dy]) := by
  have s := Step.new (F := F') (o := .tup [x, y]) le hT
  exact ⟨s, .pr upd_same (.cons (rx.mono s.gr) (.cons (ry.mono s.gr) .nil))⟩
end
section
variable {X : Cx} {W : WX} {e tg : Expr} {ve : VE} {vs : VA} {pos p : Pos}
theorem jf_seq (h : JE X W e ve) : JF X W tg e (vWalk ve) := by
  obtain ⟨t, p, s1⟩ := h
  refine ⟨_, pi_seq p, fun σ F H s m k x l en hv hx R q => s1 σ F H s m _ x l en hv hx _ fun v d F1 H1 m1 t1 r1 k1 => ?_⟩
  cases d with
  | lst ds =>
    obtain ⟨a, xs, rfl, sq, rl⟩ := r1.lstI
    exact .inl ⟨a, rfl, ⟨xs, t1.le.sql (SqL.of sq)⟩, q _ ds F1 H1 m1 t1 (it_list (SqL.of sq) rl) k1⟩
  | lat a ds =>
    obtain ⟨xs, rfl, sq, rl⟩ := r1.latI
    exact .inl ⟨a, rfl, ⟨xs, t1.le.sql sq⟩, q _ ds F1 H1 m1 t1 (it_list sq rl) k1⟩
  | tup ds =>
    obtain ⟨a, xs, rfl, sq, rl⟩ := r1.tupI
    exact .inr (.inl ⟨a, rfl, ⟨xs, t1.le.sqt sq⟩, q _ ds F1 H1 m1 t1 (it_tup sq rl) k1⟩)
  | pr ds =>
    obtain ⟨a, xs, rfl, sq, rl⟩ := r1.prI
    exact .inr (.inl ⟨a, rfl, ⟨xs, t1.le.sqt (SqT.of sq)⟩, q _ ds F1 H1 m1 t1 (it_tup (SqT.of sq) rl) k1⟩)
  | str z => exact .inr (.inr ⟨z, r1.strI, q _ (signs z) F1 H1 m1 t1 it_str k1⟩)
  | _ => exact False.elim k1
@[reducible] def vRng1 (a : VA) : VF := fun s m k x => a s m (fun ds m' => match ds with
  | [.int n] => (-(2 ^ 62) ≤ n ∧ n < 2 ^ 62) ∧ k (rngD 0 n.toNat) m'
  | _ => False) x
@[reducible] def vRng2 (a : VA) : VF := fun s m k x => a s m (fun ds m' => match ds with
  | [.int i, .int n] => (-(2 ^ 62) ≤ i ∧ i < 2 ^ 62 ∧ -(2 ^ 62) ≤ n ∧ n < 2 ^ 62) ∧ k (rngD i (n - i).toNat) m'
  | _ => False) x
theorem jf_rng1 {a : Expr} (hg : Gl X "range") (hm : X.mg "range" = none) (ha : JA X W [a] vs) (hs : starEach [a] X.env = [(false, eval a X.env)] := by rfl) : JF X W tg (.Call (.Name "range" p) [a] [] pos) (vRng1 vs) := by
  obtain ⟨t, p, s1⟩ := ha
  refine ⟨_, pi_range1 hg hm p hs, fun σ F H s m k x l en hv hx R q => s1 σ F H s m _ x l en hv hx _ fun us ds F1 H1 m1 t1 r1 k1 => ?_⟩
  split at k1
  · rename_i n
    obtain ⟨u, rfl, r⟩ := r1.one
    exact ⟨n, by rw [r.intI], k1.1.1, k1.1.2, q _ _ F1 H1 m1 t1 it_rng k1.2⟩
  · exact k1.elim
/-- enumerate of a list -/
@[reducible] def vEnum (a : VA) : VF := fun s m k x => a s m (fun ds m' => match ds with
  | [.lst es] => k (enumD 0 es) m'
  | _ => False) x
/-- zip of two lists, of two tuples; of one length -/
def zpD : List D → (List D → Prop) → Prop
  | [.lst xs, .lst ys], k => xs.length = ys.length ∧ k (zipD xs ys)
  | [.tup xs, .tup ys], k => xs.length = ys.length ∧ k (zipD xs ys)
  | _, _ => False
@[reducible] def vZip (a : VA) : VF := fun s m k x => a s m (fun ds m' => zpD ds fun zs => k zs m') x
theorem jf_zip {elts : List Expr} {kk : Nat} {tpos : Pos} {e2 : Expr} (hg : Gl X "zip") (hm : X.mg "zip" = none) (ha : JA X W [e, e2] vs) (hs : starEach [e, e2] X.env = (false, eval e X.env) :: starEach [e2] X.env := by rfl) (hpl : (backTo pos (starEach [e2] X.env)).any (·.1) = false := by rfl) : JF X W (.Tuple elts kk tpos) (.Call (.Name "zip" p) [e, e2] [] pos) (vZip vs) := by
  obtain ⟨t, p, s1⟩ := ha
  refine ⟨_, RZ.pi_zipA hg hm p hs hpl, fun σ F H s m k x l en hv hx R q => s1 σ F H s m _ x l en hv hx _ fun us ds F1 H1 m1 t1 r1 k1 => ?_⟩
  unfold zpD at k1
  split at k1
  · rename_i dx dy
    obtain ⟨hn, k1⟩ := k1
    have hl : (zipD dx dy).length = dx.length := by simp [zipD, hn]
    obtain ⟨u, w, rfl, ra, rb⟩ := r1.two
    obtain ⟨a, xs, rfl, sa, ra⟩ := ra.lstI
    obtain ⟨b, ys, rfl, sb, rb⟩ := rb.lstI
    refine ⟨a, b, xs, ys, rfl, .inl ⟨t1.le.sql (SqL.of sa), t1.le.sql (SqL.of sb), q _ _ F1 H1 m1 t1 (fun F' H' m' i gr le _ _ => ?_) k1⟩⟩
    have sa' : SqL X.K H' a xs := le.sql (gr.sql (SqL.of sa))
    have sb' : SqL X.K H' b ys := le.sql (gr.sql (SqL.of sb))
    refine ⟨fun hi => ?_, fun hi => ⟨xs, ys, sa', sb', .inl (by rw [ra.len]; omega)⟩, fun x H2 hi y => ?_⟩
    · have h3 : i < xs.length := by rw [ra.len]; omega
      have h4 : i < ys.length := by rw [rb.len]; omega
      exact ⟨xs, ys, xs[i], ys[i], sa', sb', List.getElem?_eq_getElem h3, List.getElem?_eq_getElem h4⟩
    · obtain ⟨T, u, w, rfl, hT, rfl, f1, f2⟩ := y
      obtain ⟨d1, hd1, rd1⟩ := ra.atV (f1 xs sa')
      obtain ⟨d2, hd2, rd2⟩ := rb.atV (f2 ys sb')
      obtain ⟨s, r⟩ := pair_step le hT (rd1.mono gr) (rd2.mono gr)
      exact ⟨.pr [d1, d2], _, by simp [zipD, List.getElem?_zipWith, hd1, hd2], s, r⟩
  · rename_i dx dy
    obtain ⟨hn, k1⟩ := k1
    have hl : (zipD dx dy).length = dx.length := by simp [zipD, hn]
    obtain ⟨u, w, rfl, ra, rb⟩ := r1.two
    obtain ⟨a, xs, rfl, sa, ra⟩ := ra.tupI
    obtain ⟨b, ys, rfl, sb, rb⟩ := rb.tupI
    refine ⟨a, b, xs, ys, rfl, .inr ⟨t1.le.sqt sa, t1.le.sqt sb, q _ _ F1 H1 m1 t1 (fun F' H' m' i gr le _ _ => ?_) k1⟩⟩
    have sa' : SqT X.K H' a xs := le.sqt (gr.sqt sa)
    have sb' : SqT X.K H' b ys := le.sqt (gr.sqt sb)
    refine ⟨fun hi => ?_, fun hi => ⟨xs, ys, sa', sb', .inl (by rw [ra.len]; omega)⟩, fun x H2 hi y => ?_⟩
    · have h3 : i < xs.length := by rw [ra.len]; omega
      have h4 : i < ys.length := by rw [rb.len]; omega
      exact ⟨xs, ys, xs[i], ys[i], sa', sb', List.getElem?_eq_getElem h3, List.getElem?_eq_getElem h4⟩
    · obtain ⟨T, u, w, rfl, hT, rfl, f1, f2⟩ := y
      obtain ⟨d1, hd1, rd1⟩ := ra.atV (f1 xs sa')
      obtain ⟨d2, hd2, rd2⟩ := rb.atV (f2 ys sb')
      obtain ⟨s, r⟩ := pair_step le hT (rd1.mono gr) (rd2.mono gr)
      exact ⟨.pr [d1, d2], _, by simp [zipD, List.getElem?_zipWith, hd1, hd2], s, r⟩
  · exact k1.elim
end
/-! ### comprehensions -/
abbrev nox : KX := fun _ _ => False
def lcV (g : VG) (t : VT) (e : VE) (s : SL) : List D → List D → Mem → (List D → Mem → Prop) → Prop
  | [], acc, m, k => k acc m
  | d :: ds, acc, m, k => g d s fun s1 => t s1 m (fun b m1 => if b = true then e s1 m1 (fun y m2 => lcV g t e s ds (acc ++ [y]) m2 k) nox else lcV g t e s ds acc m1 k) nox
section
variable {K : PySem.W.Frag} {mg : Str → Option Value} {F H F' H' : Hp} {m m' : Mem}
/-- an object of ours that is neither frozen nor in the memory -/
theorem StM.side {p : Addr} {o : HO} (s : StM K mg m F H F' H' m') (h : H p = none) (hf : F' p = none) (hm : m' p = none) : StM K mg m F H F' (upd H' p o) m' := by
  refine ⟨fun a u e n => by rw [upd_ne (ne_of_none e h)]; exact s.ex a u e n, fun a e => ?_, s.gr, fun a u e => ?_, fun a u e => ?_, s.nw, s.nm, fun a ob u e => by rw [upd_ne (ne_of_none e h)]; exact s.fz a ob u e⟩
  · by_cases ha : a = p
    · subst ha; rw [upd_same]; simp
    · rw [upd_ne ha]; exact s.th a e
  · rw [upd_ne (ne_of_none e hf)]; exact s.le a u e
  · have ha : a ≠ p := fun z => by rw [z, hm] at e; cases e
    obtain ⟨h1, h2⟩ := s.mr a u e
    exact ⟨h1, h2.keep (Gr.refl _) fun w q => by rw [upd_ne ha]; exact q⟩
theorem StM.nofz (s : StM K mg m F H F' H' m') {p : Addr} (h : F p = none) (h' : H p ≠ none) (hm : m p = none) : F' p = none ∧ m' p = none := by
  constructor
  · cases e : F' p with
    | none => rfl
    | some o =>
      rcases s.nw p o e with z | z | z
      · rw [h] at z; cases z
      · exact absurd z h'
      · exact absurd hm z
  · cases e : m' p with
    | none => rfl
    | some o =>
      rcases s.nm p (by rw [e]; simp) with z | z
      · exact absurd hm z
      · exact absurd z h'
theorem StM.fzn {p : Addr} {o : HO} (s : StM K mg m F H F' H' m') (h : H p = none) (hf : F' p = none) (hm : m' p = none) (ho : H' p = some o) : StM K mg m F H (upd F' p o) H' m' := by
  refine ⟨s.ex, s.th, s.gr.trans (gr_upd hf), fun a u e => ?_, fun a u e => ?_, fun a u e => ?_, s.nm, s.fz⟩
  · by_cases ha : a = p
    · subst ha; rw [upd_same] at e; cases e; exact .inl ho
    · rw [upd_ne ha] at e; exact s.le a u e
  · have ha : a ≠ p := fun z => by rw [z, hm] at e; cases e
    obtain ⟨h1, h2⟩ := s.mr a u e
    exact ⟨by rw [upd_ne ha]; exact h1, h2.keep (gr_upd hf) fun w q => q⟩
  · by_cases ha : a = p
    · subst ha; exact .inr (.inl h)
    · rw [upd_ne ha] at e; exact s.nw a u e
theorem StM.mem {p : Addr} {u : MO} (s : StM K mg m F H F' H' m') (h : H p = none) (hf : F' p = none) (ho : MoR K mg F' H' p u) : StM K mg m F H F' H' (mset m' p u) := by
  refine ⟨s.ex, s.th, s.gr, s.le, fun a w e => ?_, s.nw, fun a e => ?_, s.fz⟩
  · by_cases ha : a = p
    · subst ha; rw [mset_same] at e; cases e; exact ⟨hf, ho⟩
    · rw [mset_ne ha] at e; exact s.mr a w e
  · by_cases ha : a = p
    · subst ha; exact .inr h
    · rw [mset_ne ha] at e; exact s.nm a e
end
section
variable {X : Cx} {W : WX} {elt tg iter : Expr} {ifs : List Expr} {scope : Scope} {own : List (Str × Nat)} {pos : Pos} {vf : VF} {vg : VG} {vt : VT} {ve : VE} {js : List Nat}
/-- a clause's tests -/
def JTs (X : Cx) (W : WX) (ifs : List Expr) (v : VT) : Prop := ∃ t, PTs X ifs t ∧ SndT X.K X.mg W t v
theorem jts_nil : JTs X W [] vYes := ⟨_, pts_nil, fun σ F H s m k x l en hv _ Q q => q true F H m (StM.refl l en.mem) hv⟩
@[reducible] def vLc (i : VF) (g : VG) (t : VT) (e : VE) (own : List Nat) : VE := fun s m k x => i s m (fun ds m1 => ds.length ≤ 1000000 ∧ lcV g t e (wipeD s own) ds [] m1 fun es m2 => k (.lst es) m2) x
@[reducible] def vLcO (i : VF) (g : VG) (t : VT) (e : VE) (own : List Nat) : VE := fun s m k x => i s m (fun ds m1 => ds.length ≤ 1000000 ∧ lcV g t e (wipeD s own) ds [] m1 fun es m2 => ∀ p, m2 p = none → k (.ref p) (mset m2 p (.lst es))) x
/-- a new list that nobody holds yet -/
def SndN (K : PySem.W.Frag) (mg : Str → Option Value) (W : WX) (te : TE) (v : SL → Mem → (List D → Mem → Prop) → KX → Prop) : Prop := ∀ (σ : L2.St) (F H : Hp) (s : SL) (m : Mem) (k : List D → Mem → Prop) (x : KX), Le F H → EnvR K mg F H σ s m → v s m k x → XOk K mg W σ F H m x → ∀ Q : VK,
  (∀ p xs ds F' H' m', StM K mg m F H F' H' m' → H p = none → F' p = none → m' p = none → H' p = some (.lst xs) → RpL K mg F' xs ds → k ds m' → Q (.ref p) H') → te σ H Q
theorem SndN.frz {te : TE} {v : SL → Mem → (List D → Mem → Prop) → KX → Prop} (h : SndN X.K X.mg W te v) : SndE X.K X.mg W te (fun s m k x => v s m (fun ds m' => k (.lst ds) m') x) := fun σ F H s m k x l en hv hx Q q =>
  h σ F H s m _ x l en hv hx Q fun p xs ds F' H' m' st h0 hf hm hh r hk => q (.ref p) (.lst ds) _ H' m' (st.fzn h0 hf hm hh) (.lst upd_same (r.mono (gr_upd hf))) hk
theorem SndN.keep {te : TE} {v : SL → Mem → (List D → Mem → Prop) → KX → Prop} (h : SndN X.K X.mg W te v) : SndE X.K X.mg W te (fun s m k x => v s m (fun ds m' => ∀ p, m' p = none → k (.ref p) (mset m' p (.lst ds))) x) := fun σ F H s m k x l en hv hx Q q =>
  h σ F H s m _ x l en hv hx Q fun p xs ds F' H' m' st h0 hf hm hh r hk => q (.ref p) (.ref p) F' H' _ (st.mem h0 hf (u := .lst ds) ⟨xs, hh, r⟩) (.ref p) (hk p hm)
theorem lc_snd {wi : TI} {g : TG} {tt : TT} {te : TE} {vs : List Nat} (hj : ∀ j ∈ js, j ∈ vs) (hi : SndF X.K X.mg W wi vf) (hg : SndG X.K X.mg g js vg) (ht : SndT X.K X.mg W tt vt) (he : SndE X.K X.mg W te ve) :
    SndN X.K X.mg W (tLc wi g tt te vs) (fun s m k x => vf s m (fun ds m1 => ds.length ≤ 1000000 ∧ lcV vg vt ve (wipeD s vs) ds [] m1 k) x) := fun σ F H s m k x l en hv hx Q q =>
  hi σ F H s m _ x l en hv hx _ fun J ds F1 H1 m1 t1 J1 ⟨hz, h1⟩ => fun Dd hD => by
    have e1 := en.stm t1
    have fD : F1 Dd = none := t1.le.none hD
    have mD : m1 Dd = none := t1.mr.free hD
    refine ⟨fun i n H' => n = ds.length - i ∧ i ≤ ds.length ∧ ∃ F' ys acc m', StM X.K X.mg m1 F1 H1 F' H' m' ∧ F' Dd = none ∧ m' Dd = none ∧ H' Dd = some (.lst ys) ∧ RpL X.K X.mg F' ys acc ∧ acc.length ≤ i ∧ lcV vg vt ve (wipeD s vs) (ds.drop i) acc m' k,
      ⟨ds.length, rfl, Nat.zero_le _, F1, [], [], m1, (StM.refl t1.le t1.mr).side hD fD mD, fD, mD, upd_same, .nil, Nat.le_refl _, h1⟩, ?_⟩
    rintro i n H' ⟨rfl, hi, F', ys, acc, m', st, hf, hm, hh, r, hl, w⟩
    obtain ⟨j1, j2, j3⟩ := J1 F' H' m' i st.gr st.le st.mr trivial
    by_cases hlt : i < ds.length
    · refine .inr ⟨j1 hlt, fun H3 => ∃ F' ys acc m', StM X.K X.mg m1 F1 H1 F' H3 m' ∧ F' Dd = none ∧ m' Dd = none ∧ H3 Dd = some (.lst ys) ∧ RpL X.K X.mg F' ys acc ∧ acc.length ≤ i + 1 ∧ lcV vg vt ve (wipeD s vs) (ds.drop (i + 1)) acc m' k, fun H3 p => ⟨ds.length - (i + 1), by omega, rfl, hlt, p⟩, fun x H2 y => ?_⟩
      obtain ⟨d, F2, hd, sp, r2⟩ := j3 x H2 hlt y
      rw [drop_of hd] at w
      have s2 := sp.stm st.mr
      have sa := st.trans s2
      have hne : H' Dd ≠ none := by rw [hh]; simp
      obtain ⟨nf2, nm2⟩ := s2.nofz hf hne hm
      have hh2 : H2 Dd = some (.lst ys) := sp.ex _ _ hh
      refine hg x _ F2 H2 d _ m' _ sp.le ((e1.stm sa).wipe vs) r2 w _ fun σ2 sl2 e2 w2 t2 => ⟨by rw [w2 vs hj]; exact wipe_wipe, ?_⟩
      refine ht σ2 F2 H2 sl2 m' _ _ sp.le e2 t2 XOk.no _ fun b F3 H3 m3 s3 h3 => ?_
      obtain ⟨nf3, nm3⟩ := s3.nofz nf2 (by rw [hh2]; simp) hm
      have hh3 : H3 Dd = some (.lst ys) := s3.ex _ _ hh2 hm
      cases b with
      | true =>
        rw [if_pos rfl] at h3 ⊢
        refine he σ2 F3 H3 sl2 m3 _ _ s3.le (e2.stm s3) h3 XOk.no _ fun v d' F4 H4 m4 s4 r4 h4 => ?_
        obtain ⟨nf4, nm4⟩ := s4.nofz nf3 (by rw [hh3]; simp) nm3
        have hh4 : H4 Dd = some (.lst ys) := s4.ex _ _ hh3 nm3
        have r' : RpL X.K X.mg F4 ys acc := r.mono (sp.gr.trans (s3.gr.trans s4.gr))
        have stt : StM X.K X.mg m1 F1 H1 F4 H4 m4 := (sa.trans s3).trans s4
        refine ⟨ys, hh4, ?_, F4, ys ++ [v], acc ++ [d'], m4, stt.side hD nf4 nm4, nf4, nm4, upd_same, r'.app (.cons r4 .nil), by simp; omega, h4⟩
        rw [r'.len]
        have : sizeLine > 1000000 := by decide
        omega
      | false =>
        rw [if_neg (by decide)] at h3 ⊢
        exact ⟨F3, ys, acc, m3, sa.trans s3, nf3, nm3, hh3, r.mono (sp.gr.trans s3.gr), by omega, h3⟩
    · refine .inl ⟨j2 (by omega), ?_⟩
      rw [List.drop_of_length_le (by omega)] at w
      exact q Dd ys acc F' H' m' (t1.trans st) (t1.back hD) hf hm hh r w
/-- the parts of a comprehension, in every block's context -/
theorem all_je {ι : Type} (Y : ι → Cx) {K : PySem.W.Frag} {mg : Str → Option Value} (hK : ∀ c, (Y c).K = K) (hm : ∀ c, (Y c).mg = mg) {e : Expr} {v : VE} (h : ∀ c, JE (Y c) W e v) : ∃ te, (∀ c, PE (Y c) e te) ∧ SndE K mg W te v := by
  refine ⟨fun σ H Q => ∀ te, SndE K mg W te v → te σ H Q, fun c => ?_, fun σ F H s m k x l en hv hx Q q te hte => hte σ F H s m k x l en hv hx Q q⟩
  obtain ⟨te, p, s⟩ := h c
  rw [hK, hm] at s
  exact ⟨fun pins s' σ H Q I hq => p.run pins s' σ H Q I (hq te s)⟩
theorem all_jts {ι : Type} (Y : ι → Cx) {K : PySem.W.Frag} {mg : Str → Option Value} (hK : ∀ c, (Y c).K = K) (hm : ∀ c, (Y c).mg = mg) {e : List Expr} {v : VT} (h : ∀ c, JTs (Y c) W e v) : ∃ te, (∀ c, PTs (Y c) e te) ∧ SndT K mg W te v := by
  refine ⟨fun σ H Q => ∀ te, SndT K mg W te v → te σ H Q, fun c => ?_, fun σ F H s m k x l en hv hx Q q te hte => hte σ F H s m k x l en hv hx Q q⟩
  obtain ⟨te, p, s⟩ := h c
  rw [hK, hm] at s
  exact ⟨fun pins s' σ H Q I hq => p.run pins s' σ H Q I (hq te s)⟩
theorem all_jg {ι : Type} (Y : ι → Cx) {K : PySem.W.Frag} {mg : Str → Option Value} (hK : ∀ c, (Y c).K = K) (hm : ∀ c, (Y c).mg = mg) {e : Expr} {v : VG} (h : ∀ c, JG (Y c) e js v) : ∃ te, (∀ c, PG (Y c) e te) ∧ SndG K mg te js v := by
  refine ⟨fun u σ H Q => ∀ te, SndG K mg te js v → te u σ H Q, fun c => ?_, fun u σ F H d s m k l en r hv Q q te hte => hte u σ F H d s m k l en r hv Q q⟩
  obtain ⟨te, p, s⟩ := h c
  rw [hK, hm] at s
  exact ⟨fun pins s' σ H v u Q I r hq => p.run pins s' σ H v u Q I r (hq te s)⟩
abbrev BX (X : Cx) (scope : Scope) (c : Shared × Hp × Addr × List (Str × Addr) × List Addr) : Cx := X.blk c.1 c.2.1 scope (compEnvC scope c.2.2.2.1 c.2.2.1 X.env) c.2.2.2.2
theorem lc_core {vs : List Nat} (hvs : vs = own.map (·.2)) (hj : ∀ j ∈ js, j ∈ vs) (hc : X.calm = true) (hN : X.N.Nodup) (hi : JF X W tg iter vf) (ok : BlkOk X.N X.env.scope scope own) (hg : ∀ c, JG (BX X scope c) tg js vg) (ht : ∀ c, JTs (BX X scope c) W ifs vt) (he : ∀ c, JE (BX X scope c) W elt ve) :
    ∃ wi g tt te, PI X tg iter wi ∧ (∀ c, PG (BX X scope c) tg g) ∧ (∀ c, PTs (BX X scope c) ifs tt) ∧ (∀ c, PE (BX X scope c) elt te) ∧ SndN X.K X.mg W (tLc wi g tt te vs) (fun s m k x => vf s m (fun ds m1 => ds.length ≤ 1000000 ∧ lcV vg vt ve (wipeD s vs) ds [] m1 k) x) := by
  obtain ⟨wi, p0, s0⟩ := hi
  obtain ⟨g, p1, s1⟩ := all_jg (BX X scope) (fun _ => rfl) (fun _ => rfl) hg
  obtain ⟨tt, p2, s2⟩ := all_jts (BX X scope) (fun _ => rfl) (fun _ => rfl) ht
  obtain ⟨te, p3, s3⟩ := all_je (BX X scope) (fun _ => rfl) (fun _ => rfl) he
  exact ⟨wi, g, tt, te, p0, p1, p2, p3, lc_snd hj s0 s1 s2 s3⟩
theorem je_lc {vs : List Nat} (hvs : vs = own.map (·.2)) (hj : ∀ j ∈ js, j ∈ vs) (hc : X.calm = true) (hN : X.N.Nodup) (hi : JF X W tg iter vf) (ok : BlkOk X.N X.env.scope scope own) (hg : ∀ c, JG (BX X scope c) tg js vg) (ht : ∀ c, JTs (BX X scope c) W ifs vt) (he : ∀ c, JE (BX X scope c) W elt ve)
    (hs : ∀ x, foldedSetIterable iter X.env x = pure x := by intro _; rfl) : JE X W (.ListComp elt [⟨tg, iter, ifs, 0⟩] scope pos) (vLc vf vg vt ve vs) := by
  obtain ⟨wi, g, tt, te, p0, p1, p2, p3, sn⟩ := lc_core hvs hj hc hN hi ok hg ht he
  subst hvs
  exact ⟨_, pe_lc hc hN p0 ok (fun s H C cl fp => p1 (s, H, C, cl, fp)) (fun s H C cl fp => p2 (s, H, C, cl, fp)) (fun s H C cl fp => p3 (s, H, C, cl, fp)) hs, sn.frz⟩
theorem js_setLc {i : Nat} {y : Str} {py spos : Pos} {vs : List Nat} (hyl : X.env.scope.names.lookup y = some .local) (hsw : swapsWith (.ListComp elt [⟨tg, iter, ifs, 0⟩] scope pos) (some (.Name y py)) spos.line X.env = pure true) (hy : X.N[i]? = some y)
    (hvs : vs = own.map (·.2)) (hj : ∀ j ∈ js, j ∈ vs) (hc : X.calm = true) (hN : X.N.Nodup) (hi : JF X W tg iter vf) (ok : BlkOk X.N X.env.scope scope own) (hg : ∀ c, JG (BX X scope c) tg js vg) (ht : ∀ c, JTs (BX X scope c) W ifs vt) (he : ∀ c, JE (BX X scope c) W elt ve)
    (hs : ∀ x, foldedSetIterable iter X.env x = pure x := by intro _; rfl) : JS X W (.Assign [.Name y py] (.ListComp elt [⟨tg, iter, ifs, 0⟩] scope pos) spos) (vSet i (vLc vf vg vt ve vs)) := by
  obtain ⟨wi, g, tt, te, p0, p1, p2, p3, sn⟩ := lc_core hvs hj hc hN hi ok hg ht he
  subst hvs
  exact ⟨_, ps_setLc hc hN hy hyl hsw p0 ok (fun s H C cl fp => p1 (s, H, C, cl, fp)) (fun s H C cl fp => p2 (s, H, C, cl, fp)) (fun s H C cl fp => p3 (s, H, C, cl, fp)) hs, fun σ F H s m G l en h E L =>
    sn.frz σ F H s m (fun d m' => G.nx (s.set i (some d)) m') _ l en h (L.x en) _ fun v d F' H' m' t r k => L.nx _ _ F' H' m' t ((en.stm t).set r) k⟩
end
end Ts
namespace Ts
open PySem PySem.Spec PyProof.Rows L2
/-! ### what a def promises, over data -/
abbrev P0 := List D → Mem → KD → Prop
abbrev PX := List D → Mem → KD → KX → Prop
/-- it raises nothing -/
def Sp0 (K : PySem.W.Frag) (mg : Str → Option Value) (φ : P0) : Sp := fun vs H Q _ => ∃ F ds m k, Le F H ∧ RpL K mg F vs ds ∧ MemR K mg F H m ∧ φ ds m k ∧ ∀ v d F' H' m', StM K mg m F H F' H' m' → Rp K mg F' v d → k d m' → Q v H'
/-- it may raise -/
def SpX (K : PySem.W.Frag) (mg : Str → Option Value) (φ : PX) : Sp := fun vs H Q E => ∃ F ds m k x, Le F H ∧ RpL K mg F vs ds ∧ MemR K mg F H m ∧ φ ds m k x ∧ (∀ v d F' H' m', StM K mg m F H F' H' m' → Rp K mg F' v d → k d m' → Q v H') ∧
  ∀ cls dd e F' H' m', StM K mg m F H F' H' m' → RpX K mg F' H' cls dd e → x e m' → E cls dd H'
/-- a def by its name: where it stands, what it promises to positional arguments -/
structure Fn (P : Program) (w : World) (K : PySem.W.Frag) (mg : Str → Option Value) (base : Heap) (x : Str) (k : Nat) (φ : P0) : Prop where
  ex : ∃ f, mg x = some (.ref f) ∧ PySem.W.keepIn K (.ref f) = true ∧ FnR P w K mg base CX0 k f (Sp0 K mg φ)
structure FnX (P : Program) (w : World) (K : PySem.W.Frag) (mg : Str → Option Value) (base : Heap) (x : Str) (k : Nat) (φ : PX) : Prop where
  ex : ∃ f, mg x = some (.ref f) ∧ PySem.W.keepIn K (.ref f) = true ∧ FnR P w K mg base (L2.CX P w) k f (SpX K mg φ)
section
variable {P : Program} {w : World} {K : PySem.W.Frag} {mg : Str → Option Value} {base : Heap} {x : Str} {k : Nat}
theorem Fn.mk1 {φ : P0} {f : Addr} {fd : FuncData} {ps : List Str} (hm : mg x = some (.ref f)) (kp : PySem.W.keepIn K (.ref f) = true) (b : Binds K fd ps []) (F : FnOk P w K mg base CX0 k f fd ps (Sp0 K mg φ)) : Fn P w K mg base x k φ :=
  ⟨f, hm, kp, (F.raw b .nil).imp fun vs H Q E h => by rw [List.append_nil]; exact h⟩
theorem FnX.mk1 {φ : PX} {f : Addr} {fd : FuncData} {ps : List Str} (hm : mg x = some (.ref f)) (kp : PySem.W.keepIn K (.ref f) = true) (b : Binds K fd ps []) (F : FnOk P w K mg base (L2.CX P w) k f fd ps (SpX K mg φ)) : FnX P w K mg base x k φ :=
  ⟨f, hm, kp, (F.raw b .nil).imp fun vs H Q E h => by rw [List.append_nil]; exact h⟩
theorem Fn.imp {φ φ' : P0} (h : Fn P w K mg base x k φ) (i : ∀ ds m k, φ' ds m k → φ ds m k) : Fn P w K mg base x k φ' := by
  obtain ⟨f, h1, h2, h3⟩ := h.ex
  exact ⟨f, h1, h2, h3.imp fun vs H Q E ⟨F, ds, m, k, l, r, mr, p, q⟩ => ⟨F, ds, m, k, l, r, mr, i _ _ _ p, q⟩⟩
theorem Fn.mono {φ : P0} {j : Nat} (h : Fn P w K mg base x k φ) (hj : k ≤ j) : Fn P w K mg base x j φ := by
  obtain ⟨f, h1, h2, h3⟩ := h.ex
  exact ⟨f, h1, h2, h3.mono hj⟩
end
@[reducible] def vCall (φ : P0) (a : VA) : VE := fun s m k x => a s m (fun ds m1 => φ ds m1 k) x
@[reducible] def vCallX (φ : PX) (a : VA) : VE := fun s m k x => a s m (fun ds m1 => φ ds m1 k x) x
section
variable {X : Cx} {W : WX} {x : Str} {k : Nat} {e : Expr} {es : List Expr} {vs : VA} {p pos : Pos}
theorem run_Fn {sp : Sp} {E : L2.St → XK} {pins : List (Addr × Obj)} {σ : L2.St} {H : Hp} {s : Shared} {Q : VK} {us : List Value} {vs : List V} {f : Addr} {CX : CXT} (F : FnR X.prog X.w X.K X.mg X.base CX k f sp) (hr : Room k X.A) (hx : PassesAt CX X σ (E σ)) (I : Inv X pins σ H s) (r : Vals vs us) (h : sp vs H Q (E σ)) : wpAny (model X.prog X.w) X.A (call (.ref f) us) (EP X pins σ Q) X.xe s := by
  refine wpAny_call (codeAny_mono (F X.A X.stack s H us vs Q (E σ) hr I.env0 r h) fun r s' hq => ?_)
  cases r with
  | error e => exact hx pins H s e s' I hq
  | ok fl =>
    cases fl with
    | ret u => exact I.after hq
    | next => exact False.elim hq
    | brk => exact False.elim hq
    | cont => exact False.elim hq
theorem pe_fnR {sp : Sp} {E : L2.St → XK} {CX : CXT} {t : TA} {f : Addr} (F : FnR X.prog X.w X.K X.mg X.base CX k f sp) (h1 : X.mg x = some (.ref f)) (h2 : PySem.W.keepIn X.K (.ref f) = true) (hr : Room k X.A) (hx : ∀ σ, PassesAt CX X σ (E σ)) (hg : Gl X x) (ha : PA X (e :: es) t) (hdb : (x == ("__debug__" : Str)) = false := by decide) (he : starEach (e :: es) X.env = (false, eval e X.env) :: starEach es X.env := by rfl) (hpl : (backTo pos (starEach es X.env)).any (·.1) = false := by rfl) :
    PE X (.Call (.Name x p) (e :: es) [] pos) (tCallS sp E t) := by
  refine ⟨fun pins s σ H Q I h => ?_⟩
  refine wpAny_Call_Name_kw (ld_glob I hg h1 ?_ hdb)
  refine PySem.W.callWith_K (h₀ := X.base) I.ok.mod.kin h2 (thn (ha.run pos pins s σ H _ I h) fun us s1 ⟨vs, H1, I1, r, q⟩ => ⟨I1.kIn, ?_⟩) he hpl
  exact run_Fn F hr (hx σ) I1 r q
theorem passAt0 {σ : L2.St} : PassesAt CX0 X σ E0 := fun _ _ _ _ _ _ h => h.elim
theorem SndA.call0 {φ : P0} {ta : TA} (s1 : SndA X.K X.mg W ta vs) : SndE X.K X.mg W (tCallS (Sp0 X.K X.mg φ) (fun _ => E0) ta) (vCall φ vs) := fun σ F H s m k x l en hv hx Q q => s1 σ F H s m _ x l en hv hx _ fun us ds F1 H1 m1 t1 r1 k1 =>
  ⟨F1, ds, m1, k, t1.le, r1, t1.mr, k1, fun v d F' H' m' st r hk => q v d F' H' m' (t1.trans st) r hk⟩
theorem je_fn {φ : P0} (G : Fn X.prog X.w X.K X.mg X.base x k φ) (hr : Room k X.A) (hg : Gl X x) (ha : JA X W (e :: es) vs) (hdb : (x == ("__debug__" : Str)) = false := by decide) (he : starEach (e :: es) X.env = (false, eval e X.env) :: starEach es X.env := by rfl) (hpl : (backTo pos (starEach es X.env)).any (·.1) = false := by rfl) :
    JE X W (.Call (.Name x p) (e :: es) [] pos) (vCall φ vs) := by
  obtain ⟨f, h1, h2, h3⟩ := G.ex; obtain ⟨ta, p1, s1⟩ := ha
  exact ⟨_, pe_fnR h3 h1 h2 hr (fun _ => passAt0) hg p1 hdb he hpl, s1.call0⟩
end
/-! ### a def's body -/
/-- the slots at a def's entry -/
def dstart (n : Nat) (ds : List D) : SL := ds.map some ++ List.replicate (n - ds.length) none
theorem env_start {K : PySem.W.Frag} {mg : Str → Option Value} {F H : Hp} {m : Mem} {N : List Str} {vs : List V} {ds : List D} (mr : MemR K mg F H m) (r : RpL K mg F vs ds) : EnvR K mg F H (L2.start N vs) (dstart N.length ds) m := by
  have hl := r.len
  refine ⟨by simp [L2.start, dstart, hl], fun i d h => ?_, mr⟩
  unfold dstart at h
  rw [List.getElem?_append] at h
  split at h
  · rw [List.getElem?_map] at h
    cases hd : ds[i]? with
    | none => rw [hd] at h; cases h
    | some d' =>
      rw [hd] at h
      cases h
      obtain ⟨v, h1, h2⟩ := r.at hd
      refine ⟨v, ?_, h2⟩
      unfold L2.start
      rw [List.getElem?_append_left (by rw [List.length_map]; exact (List.getElem?_eq_some_iff.mp h1).1), List.getElem?_map, h1]
      rfl
  · cases List.eq_of_mem_replicate (List.mem_of_getElem? h)
/-- the end of a def's body: what it does not need any more may be forgotten -/
abbrev endV (k : KD) : DE := { nx := fun _ m' => ∃ m'', MLe m'' m' ∧ k .non m'', rt := fun d m' => ∃ m'', MLe m'' m' ∧ k d m'' }
abbrev endX (k : KD) (x : KX) : DE := { nx := fun _ m' => ∃ m'', MLe m'' m' ∧ k .non m'', rt := fun d m' => ∃ m'', MLe m'' m' ∧ k d m'', ex := fun e _ m' => ∃ m'', MLe m'' m' ∧ x e m'' }
section
variable {P : Program} {w : World} {K : PySem.W.Frag} {mg : Str → Option Value} {base : Heap} {x qual : Str} {params : Arguments} {body : List Stmt} {scope : Scope} {dvs : List V} {kws : List (Str × V)} {f : Addr} {fd : FuncData}
theorem fn_0 {φ : P0} {v : VS} {N ps : List Str} {k : Nat} (F : FunD K x qual params body scope dvs kws f fd) (S : FnScope N ps scope) (hl : ∀ ds m k, φ ds m k → ds.length = ps.length)
    (hb : ∀ (cdv : Value) (A : Around) (outer : List Env) (s : Shared) (H : Hp) (E : XK), Room k (A.deeper (envOfC qual scope s.heap.objs.size f cdv)) → JSs (cxOf CX0 P w K mg base N qual scope f cdv A outer s H E).nox (fun _ _ _ _ => False) body v)
    (hw : ∀ ds m k, φ ds m k → v (dstart N.length ds) m (endV k)) : FnOk P w K mg base CX0 (k + 1) f fd ps (Sp0 K mg φ) := by
  refine F.ok S (fun vs H Q E ⟨F, ds, m, k, l, r, mr, p, q⟩ => by rw [r.len, hl _ _ _ p]) fun cdv A outer s H vs Q E hr ⟨F, ds, m, k, l, r, mr, p, q⟩ => ?_
  obtain ⟨t, ht, hs⟩ := hb cdv A outer s H E hr
  refine ⟨t, ht.nox, hs _ F H _ m _ l (env_start mr r) (hw _ _ _ p) _ ⟨fun σ' s' F' H' m' st e ⟨m'', hm, g⟩ => q _ _ F' H' m'' (st.sub hm) .non g, fun v d F' H' m' st rd ⟨m'', hm, g⟩ => q v d F' H' m'' (st.sub hm) rd g, fun _ _ _ _ _ _ _ g => g.elim, fun _ _ _ _ _ _ _ g => g.elim, fun _ _ _ _ _ _ _ _ _ _ _ g => g.elim⟩⟩
/-- .. of a def that leaves the memory as it is -/
abbrev endP (k : KD) : DE := { nx := fun _ m' => k .non m', rt := fun d m' => k d m' }
theorem fn_P {φ : P0} {v : VS} {N ps : List Str} {k : Nat} (F : FunD K x qual params body scope dvs kws f fd) (S : FnScope N ps scope) (hl : ∀ ds m k, φ ds m k → ds.length = ps.length)
    (hb : ∀ (cdv : Value) (A : Around) (outer : List Env) (s : Shared) (H : Hp) (E : XK), Room k (A.deeper (envOfC qual scope s.heap.objs.size f cdv)) → JSs (cxOf CX0 P w K mg base N qual scope f cdv A outer s H E).nox (fun _ _ _ _ => False) body v)
    (hw : ∀ ds m k, φ ds m k → v (dstart N.length ds) m (endP k)) : FnOk P w K mg base CX0 (k + 1) f fd ps (Sp0 K mg φ) := by
  refine F.ok S (fun vs H Q E ⟨F, ds, m, k, l, r, mr, p, q⟩ => by rw [r.len, hl _ _ _ p]) fun cdv A outer s H vs Q E hr ⟨F, ds, m, k, l, r, mr, p, q⟩ => ?_
  obtain ⟨t, ht, hs⟩ := hb cdv A outer s H E hr
  refine ⟨t, ht.nox, hs _ F H _ m _ l (env_start mr r) (hw _ _ _ p) _ ⟨fun σ' s' F' H' m' st e g => q _ _ F' H' m' st .non g, fun v d F' H' m' st rd g => q v d F' H' m' st rd g, fun _ _ _ _ _ _ _ g => g.elim, fun _ _ _ _ _ _ _ g => g.elim, fun _ _ _ _ _ _ _ _ _ _ _ g => g.elim⟩⟩
theorem fn_X {φ : PX} {v : VS} {N ps : List Str} {k : Nat} (F : FunD K x qual params body scope dvs kws f fd) (S : FnScope N ps scope) (hl : ∀ ds m k x, φ ds m k x → ds.length = ps.length)
    (hb : ∀ (cdv : Value) (A : Around) (outer : List Env) (s : Shared) (H : Hp) (E : XK), Room k (A.deeper (envOfC qual scope s.heap.objs.size f cdv)) → JSs (cxOf (L2.CX P w) P w K mg base N qual scope f cdv A outer s H E) (fun cls d _ H => E cls d H) body v)
    (hw : ∀ ds m k x, φ ds m k x → v (dstart N.length ds) m (endX k x)) : FnOk P w K mg base (L2.CX P w) (k + 1) f fd ps (SpX K mg φ) := by
  refine F.ok S (fun vs H Q E ⟨F, ds, m, k, x, l, r, mr, p, q⟩ => by rw [r.len, hl _ _ _ _ p]) fun cdv A outer s H vs Q E hr ⟨F, ds, m, k, x, l, r, mr, p, q, qx⟩ => ?_
  obtain ⟨t, ht, hs⟩ := hb cdv A outer s H E hr
  refine ⟨t, ht, hs _ F H _ m _ l (env_start mr r) (hw _ _ _ _ p) _ ⟨fun σ' s' F' H' m' st e ⟨m'', hm, g⟩ => q _ _ F' H' m'' (st.sub hm) .non g, fun v d F' H' m' st rd ⟨m'', hm, g⟩ => q v d F' H' m'' (st.sub hm) rd g, fun _ _ _ _ _ _ _ g => g.elim, fun _ _ _ _ _ _ _ g => g.elim, fun cls dd e σ' s' F' H' m' st _ rx ⟨m'', hm, g⟩ => qx cls dd e F' H' m'' (st.sub hm) rx g⟩⟩
end
/-! ### the feed -/
section
variable {P : Program} {w : World} {K : PySem.W.Frag} {mg : Str → Option Value} {base : Heap} {k : Nat} {f : Addr} {fd : FuncData} {ps : List Str}
theorem feedP_stable {cs a : Addr} : ∀ h1 h2 : Heap, feedP cs a h1 → (∀ o, h1.get? a = some o → h2.get? a = some o) → feedP cs a h2 := fun h1 h2 ⟨its, n, i, j, m, e, r⟩ g => ⟨its, n, i, j, m, g _ e, r⟩
/-- one tracked object is told otherwise: its own description holds, nothing else speaks of it -/
theorem hok_told {H : Hp} {h : Heap} {a : Addr} {o u : HO} (hok : HOk P w H h) (e : H a = some o) (ho : ∀ y, o ≠ .own y) (ht : ∀ xs, o ≠ .tup xs) (new : ObjOk P w (upd H a u) h a u) : HOk P w (upd H a u) h := fun b v q => by
  by_cases hb : b = a
  · subst hb; rw [upd_same] at q; cases q; exact new
  · rw [upd_ne hb] at q
    refine (hok b v q).stay (fun c x _ z => z) (fun c z => ?_) fun c xs z => ?_
    · have : c ≠ a := fun y => by subst y; rw [e] at z; exact ho b (Option.some.inj z)
      rw [upd_ne this]; exact z
    · have : c ≠ a := fun y => by subst y; rw [e] at z; exact ht xs (Option.some.inj z)
      rw [upd_ne this]; exact z
/-- a draw, over the feed as a list of the memory -/
abbrev phDrawM (pre : Int → Prop) : P0 := fun ds m k => ∃ (a cs : Addr) (n i j mk : Int) (ns : List Int), ds = [.ref a, .int n] ∧ m a = some (.lst [.lat cs (ns.map D.int), .int i, .int j, .int mk]) ∧ 0 ≤ i ∧ pre n ∧
  ∀ r i' j' : Int, 0 ≤ r → r < n → 0 ≤ i' → k (.int r) (mset m a (.lst [.lat cs (ns.map D.int), .int i', .int j', .int mk]))
/-- .. over the feed, whatever it holds -/
abbrev phDraw (pre : Int → Prop) : P0 := fun ds m k => match ds with
  | [.feed, .int n] => pre n ∧ ∀ r : Int, 0 ≤ r → r < n → k (.int r) m
  | _ => False
theorem draw_shift {pre : Int → Prop} (hp : ps.length = 2) (G : FnOk P w K mg base CX0 k f fd ps (Sp0 K mg (phDrawM pre))) : FnOk P w K mg base CX0 k f fd ps (Sp0 K mg (phDraw pre)) := by
  refine ⟨fun vs H Q E ⟨F, ds, m, k, l, r, mr, p, q⟩ => ?_, fun A outer s H args us vs Q E hr e0 hb hv ⟨F, ds, mm, k, l, r, mr, p, q⟩ => ?_⟩
  · unfold phDraw at p
    split at p
    · rw [r.len, hp]; rfl
    · exact p.elim
  unfold phDraw at p
  split at p
  case h_2 => exact p.elim
  rename_i m
  obtain ⟨hpre, hk⟩ := p
  obtain ⟨u1, u2, rfl, ra, rm⟩ := r.two
  obtain rfl := rm.intI
  cases ra with
  | @feed a cs ns fa sq =>
    have ha : H a = some (feedO cs a) := l.ext fa
    obtain ⟨⟨its, n, i, j, mk, hg, rv, hi⟩, _, _⟩ := (show ObjOk P w H s.heap a (.ext (feedP cs a)) from e0.hok a _ ha)
    have nz : ∀ b, H b = none → b ≠ a := fun b hb z => by subst z; rw [ha] at hb; cases hb
    have ma : mm a = none := by
      cases q : mm a with
      | none => rfl
      | some o => rw [(mr a o q).1] at fa; cases fa
    have e2 : Env0 P w K mg base A outer s (upd H a (.lst [.ref cs, .int i, .int j, .int mk])) :=
      ⟨e0.frames, e0.mod, fun b o e => ⟨(e0.bs b o e).1, by rw [upd_ne (nz b (e0.bs b o e).2)]; exact (e0.bs b o e).2⟩, e0.bsz, e0.funs, fun b hb => by rw [upd_ne (nz b (e0.frf b hb))]; exact e0.frf b hb,
        hok_told e0.hok ha (fun y z => by unfold feedO at z; cases z) (fun y z => by unfold feedO at z; cases z) ⟨by show 4 ≤ sizeLine; decide, its, n, rv, hg⟩, e0.bare⟩
    have l2 : Le (fun b => if b = a then none else F b) (upd H a (.lst [.ref cs, .int i, .int j, .int mk])) := fun b o e => by
      have e : (if b = a then none else F b) = some o := e
      by_cases hb : b = a
      · rw [if_pos hb] at e; cases e
      · rw [if_neg hb] at e; rw [upd_ne hb]; exact l b o e
    have cne : ∀ (o : HO), F cs = some o → (∀ p, o ≠ .ext p) → cs ≠ a := fun o e n z => by subst z; rw [fa] at e; cases e; exact n _ rfl
    have sq2 : SqL K (fun b => if b = a then none else F b) cs (ns.map V.int) := by
      rcases sq with (h | ⟨od, h⟩) | h
      · exact .inl (.inl (by show (if cs = a then none else F cs) = _; rw [if_neg (cne _ h (fun p z => by cases z))]; exact h))
      · exact .inl (.inr ⟨od, by show (if cs = a then none else F cs) = _; rw [if_neg (cne _ h (fun p z => by cases z))]; exact h⟩)
      · exact .inr h
    have mr2 : MemR K mg (fun b => if b = a then none else F b) (upd H a (.lst [.ref cs, .int i, .int j, .int mk])) (mset (fun _ => none) a (.lst [.lat cs (ns.map D.int), .int i, .int j, .int mk])) := fun b o e => by
      by_cases hb : b = a
      · subst hb
        rw [mset_same] at e
        cases e
        exact ⟨if_pos rfl, _, upd_same, .cons (.lat sq2 (RpL.ints ns)) (.cons (.int i) (.cons (.int j) (.cons (.int mk) .nil)))⟩
      · rw [mset_ne hb] at e; cases e
    refine codeAny_mono (G.run A outer s _ args us [.ref a, .int m] (fun v H' => ∃ i' j', 0 ≤ i' ∧ H' a = some (.lst [.ref cs, .int i', .int j', .int mk]) ∧ Q v (upd H' a (feedO cs a))) E hr e2 hb hv
      ⟨_, [.ref a, .int m], _, fun d m' => ∃ r i' j' : Int, d = .int r ∧ 0 ≤ r ∧ r < m ∧ 0 ≤ i' ∧ m' a = some (.lst [.lat cs (ns.map D.int), .int i', .int j', .int mk]), l2, .cons (.ref a) (.cons (.int m) .nil), mr2, ⟨a, cs, m, i, j, mk, ns, rfl, mset_same, hi, hpre, fun r i' j' h0 h1 h2 => ⟨r, i', j', rfl, h0, h1, h2, mset_same⟩⟩,
        fun v d F' H' m' st rd ⟨r, i', j', hd, h0, h1, h2, hm⟩ => ?_⟩) fun res s' hq => ?_
    · subst hd
      obtain rfl := rd.intI
      obtain ⟨f2, ys, h4, rr⟩ := st.mr a _ hm
      have e4 : ys = [.ref cs, .int i', .int j', .int mk] := by
        cases rr with
        | cons r1 rr => cases rr with
          | cons r2 rr => cases rr with
            | cons r3 rr => cases rr with
              | cons r4 rr =>
                cases rr
                rw [r2.intI, r3.intI, r4.intI]
                cases r1
                rfl
      rw [e4] at h4
      have mne : ∀ b, b ≠ a → mset (fun _ => none) a (MO.lst [.lat cs (ns.map D.int), .int i, .int j, .int mk]) b = none := fun b hb => by rw [mset_ne hb]
      have ex' : ∀ b o, b ≠ a → H b = some o → H' b = some o := fun b o hb e => st.ex b o (by rw [upd_ne hb]; exact e) (mne b hb)
      have gr' : Gr F (upd F' a (feedO cs a)) := fun b o e => by
        by_cases hb : b = a
        · subst hb; rw [fa] at e; cases e; exact upd_same
        · rw [upd_ne hb]; exact st.gr b o (by show (if b = a then none else F b) = _; rw [if_neg hb]; exact e)
      refine ⟨i', j', h2, h4, q _ _ (upd F' a (feedO cs a)) _ mm ⟨fun b o e n => ?_, fun b n => ?_, gr', fun b o e => ?_, fun b o e => ?_, fun b o e => ?_, fun _ z => .inl z, fun b ob u e => ?_⟩ (.int r) (hk r h0 h1)⟩
      · by_cases hb : b = a
        · subst hb; rw [ha] at e; cases e; exact upd_same
        · rw [upd_ne hb]; exact ex' b o hb e
      · by_cases hb : b = a
        · subst hb; rw [upd_same]; simp
        · rw [upd_ne hb]; exact st.th b (by rw [upd_ne hb]; exact n)
      · by_cases hb : b = a
        · subst hb; rw [upd_same] at e; cases e; exact .inl upd_same
        · rw [upd_ne hb] at e ⊢; exact st.le b o e
      · have hb : b ≠ a := fun z => by subst z; rw [ma] at e; cases e
        obtain ⟨z1, z2⟩ := mr b o e
        refine ⟨?_, z2.keep gr' fun u hu => ?_⟩
        · rw [upd_ne hb]
          cases q : F' b with
          | none => rfl
          | some w' =>
            rcases st.nw b w' q with z | z | z
            · have z : (if b = a then none else F b) = some w' := z
              rw [if_neg hb, z1] at z; cases z
            · rw [upd_ne hb] at z; exact absurd z z2.there
            · exact absurd (mne b hb) z
        · rw [upd_ne hb]
          exact ex' b u hb hu
      · by_cases hb : b = a
        · subst hb; rw [upd_same] at e; cases e; exact .inl fa
        · rw [upd_ne hb] at e
          rcases st.nw b o e with z | z | z
          · exact .inl (by have z : (if b = a then none else F b) = some o := z; rw [if_neg hb] at z; exact z)
          · exact .inr (.inl (by rw [upd_ne hb] at z; exact z))
          · exact absurd (mne b hb) z
      · have hb : b ≠ a := fun z => by subst z; rw [ha] at e; unfold feedO at e; cases e
        rw [upd_ne hb]; exact st.fz b ob u (by rw [upd_ne hb]; exact e)
    · cases res with
      | error e => exact hq
      | ok fl =>
        cases fl with
        | next => exact hq
        | brk => exact hq
        | cont => exact hq
        | ret u =>
          obtain ⟨v, H', os, bare, un, hok, rv, i', j', h2, hh, hQ⟩ := hq
          have nb : ∀ b u, H b = some u → (∀ p, u ≠ .ext p) → b ≠ a := fun b u e n z => by subst z; rw [ha] at e; cases e; exact n _ rfl
          obtain ⟨_, its', n', rv', hg'⟩ := hok a _ hh
          refine ⟨v, upd H' a (feedO cs a), os, bare, ⟨fun b o e n => un.keep b o e (by rw [upd_ne (nz b n)]; exact n), fun b o e n => un.slot b o e (by rw [upd_ne (nz b n)]; exact n), fun b o e n hx => ?_, un.there, fun b xs e => ?_, fun b o x e => ?_, fun b ps e => ?_⟩, ?_, rv, hQ⟩
          · rw [upd_ne (nz b n)]; exact un.free b o e (by rw [upd_ne (nz b n)]; exact n) hx
          · have hb := nb b _ e (fun p z => by cases z)
            rw [upd_ne hb]; exact un.tups b xs (by rw [upd_ne hb]; exact e)
          · have hb := nb b _ e (fun p z => by cases z)
            rw [upd_ne hb]; exact un.frzs b o x (by rw [upd_ne hb]; exact e)
          · have hb := nb b _ e (fun p z => by cases z)
            rw [upd_ne hb]; exact un.tbls b ps (by rw [upd_ne hb]; exact e)
          · exact hok_told hok hh (fun y z => by cases z) (fun y z => by cases z) ⟨⟨its', n', i', j', mk, hg', rv', h2⟩, ⟨_, hg'⟩, feedP_stable⟩
/-- a new feed: as a new list, as a feed -/
abbrev phFeedL : P0 := fun ds m k => ∃ (a : Addr) (ns : List Int), ds = [.lat a (ns.map D.int)] ∧ ns.length ≤ 100 ∧ ∀ (ms : List Int) (mk : Int) (p : Addr), m p = none → k (.ref p) (mset m p (.lst [.lst (ms.map D.int), .int 0, .int 0, .int mk]))
abbrev phFeed : P0 := fun ds m k => ∃ (a : Addr) (ns : List Int), ds = [.lat a (ns.map D.int)] ∧ ns.length ≤ 100 ∧ k .feed m
theorem RpL.intsV {F : Hp} : ∀ {xs : List V} {ns : List Int}, RpL K mg F xs (ns.map D.int) → xs = ns.map V.int
  | _, [], .nil => rfl
  | _, n :: ns, .cons r s => by rw [r.intI, RpL.intsV s]; rfl
theorem feed_shift (hp : ps.length = 1) (G : FnOk P w K mg base CX0 k f fd ps (Sp0 K mg phFeedL)) : FnOk P w K mg base CX0 k f fd ps (Sp0 K mg phFeed) := by
  refine ⟨fun vs H Q E ⟨F, ds, m, k, l, r, mr, ⟨a, ns, e, _⟩, q⟩ => by subst e; rw [r.len, hp]; rfl, fun A outer s H args us vs Q E hr e0 hb hv ⟨F, ds, mm, k, l, r, mr, ⟨a, ns, e, hn, hk⟩, q⟩ => ?_⟩
  subst e
  refine codeAny_mono (G.run A outer s H args us vs (fun v H' => ∃ (p cs : Addr) (mk : Int), v = .ref p ∧ H p = none ∧ H' p = some (.lst [.ref cs, .int 0, .int 0, .int mk]) ∧ Q v (upd H' p (feedO cs p))) E hr e0 hb hv
    ⟨F, _, fun _ => none, fun d m' => ∃ (ms : List Int) (mk : Int) (p : Addr), d = .ref p ∧ m' p = some (.lst [.lst (ms.map D.int), .int 0, .int 0, .int mk]), l, r, (fun _ _ e => by cases e), ⟨a, ns, rfl, hn, fun ms mk p _ => ⟨ms, mk, p, rfl, mset_same⟩⟩, fun v d F' H' m' st rd ⟨ms, mk, p, hd, hm⟩ => ?_⟩) fun res s' hq => ?_
  · subst hd
    obtain rfl := rd.refI
    obtain ⟨f2, ys, h4, rr⟩ := st.mr p _ hm
    have hp : H p = none := (st.nm p (by rw [hm]; simp)).elim (fun z => absurd rfl z) id
    cases rr with
    | cons r1 rr => cases rr with
      | cons r2 rr => cases rr with
        | cons r3 rr => cases rr with
          | cons r4 rr =>
            cases rr
            obtain ⟨cs, zs, rfl, sq, rl⟩ := r1.lstI
            obtain rfl := r2.intI
            obtain rfl := r3.intI
            obtain rfl := r4.intI
            obtain rfl := RpL.intsV rl
            refine ⟨p, cs, mk, rfl, hp, h4, ?_⟩
            have gr : Gr F' (upd F' p (feedO cs p)) := gr_upd f2
            have hmp : mm p = none := mr.free hp
            refine q _ _ (upd F' p (feedO cs p)) _ mm ⟨fun b o e _ => ?_, fun b n => ?_, st.gr.trans gr, fun b o e => ?_, fun b o e => ?_, fun b o e => ?_, fun _ z => .inl z, fun b ob u e => ?_⟩ (.feed (ns := ms) upd_same (gr.sql (SqL.of sq))) hk
            · rw [upd_ne (ne_of_none e hp)]; exact st.ex b o e rfl
            · by_cases hb : b = p
              · subst hb; exact absurd hp n
              · rw [upd_ne hb]; exact st.th b n
            · by_cases hb : b = p
              · subst hb; rw [upd_same] at e; cases e; exact .inl upd_same
              · rw [upd_ne hb] at e ⊢; exact st.le b o e
            · have hb : b ≠ p := fun z => by subst z; rw [hmp] at e; cases e
              obtain ⟨z1, z2⟩ := mr b o e
              refine ⟨?_, z2.keep (st.gr.trans gr) fun u hu => ?_⟩
              · rw [upd_ne hb]
                cases q : F' b with
                | none => rfl
                | some w' =>
                  rcases st.nw b w' q with z | z | z
                  · rw [z1] at z; cases z
                  · exact absurd z z2.there
                  · exact absurd rfl z
              · rw [upd_ne hb]
                exact st.ex b u hu rfl
            · by_cases hb : b = p
              · subst hb; exact .inr (.inl hp)
              · rw [upd_ne hb] at e
                rcases st.nw b o e with z | z | z
                · exact .inl z
                · exact .inr (.inl z)
                · exact absurd rfl z
            · rw [upd_ne (ne_of_none e hp)]; exact st.fz b ob u e
  · cases res with
    | error e => exact hq
    | ok fl =>
      cases fl with
      | next => exact hq
      | brk => exact hq
      | cont => exact hq
      | ret u =>
        obtain ⟨v, H', os, bare, un, hok, rv, p, cs, mk, ev, hp, hh, hQ⟩ := hq
        obtain ⟨_, its', n', rv', hg'⟩ := hok p _ hh
        refine ⟨v, upd H' p (feedO cs p), os, bare, ⟨un.keep, un.slot, fun b o e n hx => ?_, un.there, fun b xs e => ?_, fun b o x e => ?_, fun b ps e => ?_⟩, ?_, rv, hQ⟩
        · have h1 := un.free b o e n hx
          have : b ≠ p := fun z => by subst z; rw [hh] at h1; cases h1
          rw [upd_ne this]; exact h1
        · rw [upd_ne (ne_of_none e hp)]; exact un.tups b xs e
        · rw [upd_ne (ne_of_none e hp)]; exact un.frzs b o x e
        · rw [upd_ne (ne_of_none e hp)]; exact un.tbls b ps e
        · exact hok_told hok hh (fun y z => by cases z) (fun y z => by cases z) ⟨⟨its', n', 0, 0, mk, hg', rv', Int.le_refl 0⟩, ⟨_, hg'⟩, feedP_stable⟩
end
end Ts
namespace Ts
open PySem PySem.Spec PyProof.Rows L2
/-! ### operators that serve several kinds -/
def r2or (r1 r2 : R2) : R2 := fun x y H Q => r1 x y H Q ∨ r2 x y H Q
section
variable {X : Cx}
theorem opr_or {f : Value → Value → Sem Value} {r1 r2 : R2} (h1 : OpR X f r1) (h2 : OpR X f r2) : OpR X f (r2or r1 r2) := fun pins s σ H x y v u Q I rx ry h => by
  rcases h with h | h
  · exact h1 pins s σ H x y v u Q I rx ry h
  · exact h2 pins s σ H x y v u Q I rx ry h
def rAddS : R2 := fun x y H Q => ∃ i j, x = .str i ∧ y = .str j ∧ i.length + j.length ≤ sizeLine ∧ Q (.str (i ++ j)) H
def rCatN (K : PySem.W.Frag) : R2 := fun x y H Q => ∃ a b xs ys, x = .ref a ∧ y = .ref b ∧ SqT K H a xs ∧ SqT K H b ys ∧ xs ≠ [] ∧ xs.length + ys.length ≤ sizeLine ∧
  (ys = [] → Q (.ref a) H) ∧ (ys ≠ [] → ∀ (p : Addr) (o : Obj), H p = none → o.dict = none → Q (.ref p) (upd H p (.frz o (.tup (xs ++ ys)))))
theorem op_catN : OpR X (binaryOp .Add) (rCatN X.K) := by
  intro pins s σ H x y v u Q I rx ry h
  obtain ⟨a, b, xs, ys, rfl, rfl, ha, hb, hx, hz, q1, q2⟩ := h
  cases rx
  cases ry
  obtain ⟨its, r1, p1, _⟩ := I.tuple ha
  obtain ⟨its2, r2, p2, _⟩ := I.tuple hb
  refine HT.cat_tup p1 p2 (fun z => hx (r1.nil_iff.mp z)) (fun z => ⟨.ref a, H, I, rfl, q1 (r2.nil_iff.mp z)⟩) (fun z => ?_) (by rw [← r1.length, ← r2.length]; exact hz)
  refine ⟨.ref s.heap.objs.size, _, I.laid (t' := s.toks) (o := .frz _ (.tup (xs ++ ys))) (fun b ob q => Heap.get?_push_of_some _ q) (Nat.le_refl _) ⟨Heap.get?_push_size _ rfl, ?_⟩, rfl, q2 (fun w => z (r2.nil_iff.mpr w)) _ _ (I.hok.fresh (Nat.le_refl _)) rfl⟩
  exact ⟨by rw [List.length_append]; exact hz, _, r1.append r2, IsTup.new _ _⟩
theorem call_tupleN : CallR X (.type "tuple") (fun xs H Q => ∃ p ys, xs = [.ref p] ∧ ((SqL X.K H p ys ∧ ∀ (l : Addr) (o : Obj), H l = none → o.dict = none → Q (.ref l) (upd H l (.frz o (.tup ys)))) ∨ (SqT X.K H p ys ∧ Q (.ref p) H))) := by
  intro pins s σ H xs us Q I r h
  obtain ⟨p, ys, rfl, h⟩ := h
  obtain ⟨u, rfl, rx⟩ := vals1 r
  cases rx
  rcases h with ⟨hq, q⟩ | ⟨hq, q⟩
  · obtain ⟨its, r', pl, hz⟩ := I.list hq
    have hlen := r'.length
    refine call_tuple_list pl.isList (fun h' kp => ?_) (by simp only [List.size_toArray] <;> omega)
    have I1 : Inv X pins σ H { s with heap := h' } := I.kept (t' := s.toks) kp
    have I2 : Inv X pins σ (upd H h'.objs.size (.frz { cls := .type "tuple", data := .seq its.toArray } (.tup ys))) { s with heap := h'.push { cls := .type "tuple", data := .seq its.toArray } } :=
      I1.laid (t' := s.toks) (fun b o e => Heap.get?_push_of_some _ e) (Nat.le_refl _) (show ObjOk X.prog X.w _ _ _ (.frz _ (.tup ys)) from ⟨Heap.get?_push_size _ rfl, hz, its, r', IsTup.new _ _⟩)
    exact ⟨.ref h'.objs.size, _, I2, rfl, q _ _ (I1.hok.fresh (Nat.le_refl _)) rfl⟩
  · obtain ⟨its, _, p1, _⟩ := I.tuple hq
    exact call_tuple_same (items := its.toArray) p1 ⟨.ref p, H, I, rfl, q⟩
def uAdd (K : PySem.W.Frag) : R2 := r2or (rI0 fun i j => .int (i + j)) (r2or rAddS (r2or rCat (rCatN K)))
theorem ox_add : OpR X (binaryOp .Add) (uAdd X.K) := opr_or op_add (opr_or op_add_str (opr_or op_cat op_catN))
def MulOk (i j : Int) : Prop := CMul i j ∨ CMulX i j
theorem MulOk.ok {i j : Int} (h : MulOk i j) : IntMulOk i j := h.elim CMul.ok CMulX.ok
/-- a text, so many times -/
def repS (z : Str) (n : Nat) : Str := ⟨(List.replicate n z.cps.toList).flatten.toArray⟩
def rMulS : R2 := fun x y H Q => ∃ z i, x = .str z ∧ y = .int i ∧ 0 ≤ i ∧ i ≤ 1000 ∧ z.length ≤ 1000 ∧ Q (.str (repS z i.toNat)) H
theorem fold_rep (c : Array Nat) : ∀ (n : Nat) (acc : Array Nat), ((List.replicate n c).foldl (· ++ ·) acc).toList = acc.toList ++ (List.replicate n c.toList).flatten
  | 0, acc => by simp
  | n + 1, acc => by
    rw [List.replicate_succ, List.foldl_cons, fold_rep c n, List.replicate_succ, List.flatten_cons, Array.toList_append, List.append_assoc]
theorem str_ext {a b : Str} (h : a.cps.toList = b.cps.toList) : a = b := by
  obtain ⟨⟨a⟩⟩ := a
  obtain ⟨⟨b⟩⟩ := b
  have h : a = b := h
  rw [h]
theorem op_mulS : OpR X (binaryOp .Mult) rMulS := by
  intro pins s σ H x y v u Q I rx ry h
  obtain ⟨z, i, rfl, rfl, h0, h1, hz, q⟩ := h
  obtain ⟨t, rfl⟩ := rx
  obtain ⟨t', rfl⟩ := ry
  have hb : z.length * i.toNat ≤ 1000000 := Nat.le_trans (Nat.mul_le_mul hz (by omega : i.toNat ≤ 1000)) (by decide)
  have hl : Builtin.Str.tooLong (z.length * i.toNat) = false := decide_eq_false (Nat.not_lt.mpr (Nat.le_trans hb (by decide)))
  refine P.mul_str (by rw [decide_eq_false (by omega), decide_eq_false (by omega)]; rfl) (fun hn _ hc => ?_) (fun _ _ => hl) ?_
  · have e : (2 ^ 63 - 1 : Int) / i ≥ (2 ^ 63 - 1) / 1000 := by
      have hp : 0 < i := by omega
      rw [ge_iff_le, Int.le_ediv_iff_mul_le hp]
      have : (2 ^ 63 - 1 : Int) / 1000 * i ≤ (2 ^ 63 - 1) / 1000 * 1000 := Int.mul_le_mul_of_nonneg_left h1 (by decide)
      exact Int.le_trans this (by decide)
    have : ((z.length : Nat) : Int) ≤ 1000 := by omega
    have d : (2 ^ 63 - 1 : Int) / 1000 = 9223372036854775 := by decide
    omega
  · by_cases hn : i < 1
    · rw [if_pos hn]
      have e : i = 0 := by omega
      subst e
      exact ⟨by decide, .str _, H, I.tok _, ⟨_, rfl⟩, q⟩
    · rw [if_neg hn]
      by_cases hc : (i == 1 || z.length == 0) = true
      · rw [if_pos hc]
        have e : repS z i.toNat = z := by
          apply str_ext
          show (List.replicate i.toNat z.cps.toList).flatten = _
          rcases Bool.or_eq_true_iff.mp hc with c | c
          · have : i = 1 := by simpa using c
            subst this
            simp
          · have c : z.length = 0 := beq_iff_eq.mp c
            have : z.cps.toList = [] := by exact List.length_eq_zero_iff.mp (by rw [Array.length_toList]; exact c)
            rw [this]
            simp
        exact ⟨.str z, H, I, ⟨_, rfl⟩, by rw [← e]; exact q⟩
      · rw [if_neg hc]
        have e : repS z i.toNat = ⟨(List.replicate i.toNat z.cps).foldl (· ++ ·) #[]⟩ := by
          apply str_ext
          show (List.replicate i.toNat z.cps.toList).flatten = _
          rw [fold_rep]
          rfl
        rw [e] at q
        exact ⟨by first | exact fits_reps hl | exact PySem.fits_reps hl, .str _, H, I.tok _, ⟨_, rfl⟩, q⟩
def uMul : R2 := r2or (rI MulOk fun i j => .int (i * j)) (r2or rRep rMulS)
theorem ox_mul : OpR X (binaryOp .Mult) uMul := opr_or (opI fun _ _ _ _ _ _ _ hc q => mul_int q hc.ok) (opr_or op_rep op_mulS)
/-- a divisor below 2 ^ 9000 -/
def DivOk (j : Int) : Prop := j ≠ 0 ∧ j.natAbs.log2 < 9000
def uFdiv : R2 := rI (fun _ j => DivOk j) fun i j => .int (i.fdiv j)
theorem ox_fdiv : OpR X (binaryOp .FloorDiv) uFdiv := opI fun i j _ _ _ _ _ hc q => floordiv_int hc.1 q (.inl (PyProof.noPylong_of_log2 hc.2))
def rLtS : R2 := fun x y H Q => ∃ i j, x = .str i ∧ y = .str j ∧ Q (.bl (decide (i.cps.toList < j.cps.toList))) H
def uLt : R2 := r2or (rI0 fun i j => .bl (decide (i < j))) rLtS
theorem ox_lt : OpR X (compareOp .Lt) uLt := opr_or op_lt op_lt_str
def uEq (K : PySem.W.Frag) : R2 := r2or rEq (rEqD K)
theorem ox_eq (hu : X.A.units + 64 < cLine) : OpR X (compareOp .Eq) (uEq X.K) := opr_or op_eq (op_eqD hu)
def uNe (K : PySem.W.Frag) : R2 := r2or rNe (rNeD K)
theorem ox_ne (hu : X.A.units + 64 < cLine) : OpR X (compareOp .NotEq) (uNe X.K) := opr_or op_ne (op_neD hu)
end
/-! ### .. over data -/
def onO {α : Type} : Option α → (α → Prop) → Prop
  | some a, k => k a
  | none, _ => False
/-- what stands at an address is a list -/
def onM : Option MO → (List D → Prop) → Prop
  | some (.lst ds), k => k ds
  | _, _ => False
theorem onO_of {α : Type} {o : Option α} {k : α → Prop} (h : onO o k) : ∃ a, o = some a ∧ k a := by
  cases o with
  | some a => exact ⟨a, rfl, h⟩
  | none => exact h.elim
theorem onM_of {o : Option MO} {k : List D → Prop} (h : onM o k) : ∃ ds, o = some (.lst ds) ∧ k ds := by
  cases o with
  | some a =>
    cases a with
    | lst ds => exact ⟨ds, rfl, h⟩
    | _ => exact h.elim
  | none => exact h.elim
section
variable {K : PySem.W.Frag} {mg : Str → Option Value} {X : Cx}
def oAdd : O2
  | .int i, .int j, m, k => k (.int (i + j)) m
  | .str a, .str b, m, k => a.length + b.length ≤ 1000000 ∧ k (.str (a ++ b)) m
  | .tup a, .tup b, m, k => a ≠ [] ∧ a.length + b.length ≤ 1000000 ∧ k (.tup (a ++ b)) m
  | .lst a, .lst b, m, k => a.length + b.length ≤ 1000000 ∧ k (.lst (a ++ b)) m
  | .ref p, .lst b, m, k => onM (m p) fun a => a.length + b.length ≤ 1000000 ∧ k (.lst (a ++ b)) m
  | .lst a, .ref p, m, k => onM (m p) fun b => a.length + b.length ≤ 1000000 ∧ k (.lst (a ++ b)) m
  | _, _, _, _ => False
theorem cat_snd {F H : Hp} {m : Mem} {x y : D} {u v : V} {xs ys : List D} {k : KD} {Q : VK} (l : Le F H) (mr : MemR K mg F H m) (a : Rp K mg F u x) (b : Rp K mg F v y) (hx : asO m x = some xs) (hy : asO m y = some ys) (hz : xs.length + ys.length ≤ 1000000) (h : k (.lst (xs ++ ys)) m)
    (q : ∀ w d F' H' m', StM K mg m F H F' H' m' → Rp K mg F' w d → k d m' → Q w H') : rCat u v H Q := by
  obtain ⟨p, vs, rfl, sp, rp⟩ := a.asO l mr hx
  obtain ⟨p', vs', rfl, sp', rp'⟩ := b.asO l mr hy
  refine ⟨p, p', vs, vs', rfl, rfl, sp, sp', by rw [rp.len, rp'.len]; exact Nat.le_trans hz (by decide), fun n hn => ?_⟩
  have st := Step.new (F := F) (o := .lst (vs ++ vs')) l hn
  exact q _ _ _ _ m (st.stm mr) (.lst upd_same ((rp.app rp').mono st.gr)) h
theorem s_add : SndO2 K mg (uAdd K) oAdd := fun F H m x y u v k l mr a b h Q q => by
  unfold oAdd at h
  split at h
  · exact .inl ⟨_, _, a.intI, b.intI, q _ _ F H m (StM.refl l mr) (.int _) h⟩
  · exact .inr (.inl ⟨_, _, a.strI, b.strI, Nat.le_trans h.1 (by decide), q _ _ F H m (StM.refl l mr) (.str _) h.2⟩)
  · rename_i xs ys
    obtain ⟨hx, hz, h⟩ := h
    obtain ⟨p, vs, rfl, sn, rp⟩ := a.tupN
    have sp := sn.sqt
    obtain ⟨p', vs', rfl, sp', rp'⟩ := b.tupI
    have hv : vs ≠ [] := fun z => hx (List.length_eq_zero_iff.mp (by rw [← rp.len, z]; rfl))
    refine .inr (.inr (.inr ⟨p, p', vs, vs', rfl, rfl, l.sqt sp, l.sqt sp', hv, by rw [rp.len, rp'.len]; exact Nat.le_trans hz (by decide), ?_⟩))
    refine ⟨fun e => ?_, fun e n o hn ho => ?_⟩
    · have : ys = [] := List.length_eq_zero_iff.mp (by rw [← rp'.len, e]; rfl)
      subst this
      rw [List.append_nil] at h
      exact q _ _ F H m (StM.refl l mr) (.tup sn rp) h
    · have st := Step.new (F := F) (o := .frz o (.tup (vs ++ vs'))) l hn
      exact q _ _ _ _ m (st.stm mr) (.tup (.inl ⟨o, upd_same, ho⟩) ((rp.app rp').mono st.gr)) h
  · exact .inr (.inr (.inl (cat_snd l mr a b rfl rfl h.1 h.2 q)))
  · obtain ⟨a', hm, h⟩ := onM_of h
    exact .inr (.inr (.inl (cat_snd l mr a b (by simp only [asO, hm]) rfl h.1 h.2 q)))
  · obtain ⟨b', hm, h⟩ := onM_of h
    exact .inr (.inr (.inl (cat_snd l mr a b rfl (by simp only [asO, hm]) h.1 h.2 q)))
  · exact h.elim
theorem jo_add : JO2 X (binaryOp .Add) oAdd := ⟨_, ox_add, s_add⟩
theorem s_I0 {g : Int → Int → V} {g' : Int → Int → D} (hg : ∀ i j F, Rp K mg F (g i j) (g' i j)) {o : O2} (ho : ∀ x y m k, o x y m k → ∃ i j, x = .int i ∧ y = .int j ∧ k (g' i j) m) : SndO2 K mg (rI0 g) o := fun F H m x y u v k l mr a b h Q q => by
  obtain ⟨i, j, rfl, rfl, h'⟩ := ho _ _ _ _ h
  exact ⟨i, j, a.intI, b.intI, q _ _ F H m (StM.refl l mr) (hg i j F) h'⟩
theorem s_I {C : Int → Int → Prop} {g : Int → Int → V} {g' : Int → Int → D} (hg : ∀ i j F, Rp K mg F (g i j) (g' i j)) {o : O2} (ho : ∀ x y m k, o x y m k → ∃ i j, x = .int i ∧ y = .int j ∧ C i j ∧ k (g' i j) m) : SndO2 K mg (rI C g) o := fun F H m x y u v k l mr a b h Q q => by
  obtain ⟨i, j, rfl, rfl, hc, h'⟩ := ho _ _ _ _ h
  exact ⟨i, j, a.intI, b.intI, hc, q _ _ F H m (StM.refl l mr) (hg i j F) h'⟩
def oSub : O2
  | .int i, .int j, m, k => k (.int (i - j)) m
  | _, _, _, _ => False
theorem jo_sub : JO2 X (binaryOp .Sub) oSub := ⟨_, op_sub, s_I0 (g' := fun i j => .int (i - j)) (fun _ _ _ => .int _) fun x y m k h => by
  unfold oSub at h
  split at h
  · exact ⟨_, _, rfl, rfl, h⟩
  · exact h.elim⟩
def oMul : O2
  | .int i, .int j, m, k => MulOk i j ∧ k (.int (i * j)) m
  | .lst xs, .int j, m, k => 0 ≤ j ∧ j ≤ 1000 ∧ xs.length ≤ 1000 ∧ k (.lst (List.replicate j.toNat xs).flatten) m
  | .str z, .int j, m, k => 0 ≤ j ∧ j ≤ 1000 ∧ z.length ≤ 1000 ∧ k (.str (repS z j.toNat)) m
  | _, _, _, _ => False
theorem s_mul : SndO2 K mg uMul oMul := fun F H m x y u v k l mr a b h Q q => by
  unfold oMul at h
  split at h
  · exact .inl ⟨_, _, a.intI, b.intI, h.1, q _ _ F H m (StM.refl l mr) (.int _) h.2⟩
  · rename_i xs j
    obtain ⟨h0, h1, hz, h⟩ := h
    obtain ⟨p, vs, rfl, sp, rp⟩ := a.lstI
    obtain rfl := b.intI
    refine .inr (.inl ⟨p, j, vs, rfl, rfl, l.lst sp, by omega, by omega, ?_, fun n hn => ?_⟩)
    · rw [rp.len]
      exact Nat.le_trans (Nat.mul_le_mul hz (by omega : j.toNat ≤ 1000)) (by decide)
    · have st := Step.new (F := F) (o := .lst (List.replicate j.toNat vs).flatten) l hn
      refine q _ _ _ _ m (st.stm mr) (.lst upd_same (RpL.mono st.gr ?_)) h
      have key : ∀ n : Nat, RpL K mg F (List.replicate n vs).flatten (List.replicate n xs).flatten := fun n => by
        induction n with
        | zero => exact .nil
        | succ n ih => rw [List.replicate_succ, List.replicate_succ, List.flatten_cons, List.flatten_cons]; exact rp.app ih
      exact key _
  · exact .inr (.inr ⟨_, _, a.strI, b.intI, h.1, h.2.1, h.2.2.1, q _ _ F H m (StM.refl l mr) (.str _) h.2.2.2⟩)
  · exact h.elim
theorem jo_mul : JO2 X (binaryOp .Mult) oMul := ⟨_, ox_mul, s_mul⟩
def oFdiv : O2
  | .int i, .int j, m, k => DivOk j ∧ k (.int (i.fdiv j)) m
  | _, _, _, _ => False
theorem jo_fdiv : JO2 X (binaryOp .FloorDiv) oFdiv := ⟨_, ox_fdiv, s_I (g' := fun i j => .int (i.fdiv j)) (fun _ _ _ => .int _) fun x y m k h => by
  unfold oFdiv at h
  split at h
  · exact ⟨_, _, rfl, rfl, h.1, h.2⟩
  · exact h.elim⟩
def oMod : O2
  | .int i, .int j, m, k => j ≠ 0 ∧ k (.int (i.fmod j)) m
  | _, _, _, _ => False
theorem jo_mod : JO2 X (binaryOp .Mod) oMod := ⟨_, op_modN, s_I (g' := fun i j => .int (i.fmod j)) (fun _ _ _ => .int _) fun x y m k h => by
  unfold oMod at h
  split at h
  · exact ⟨_, _, rfl, rfl, h.1, h.2⟩
  · exact h.elim⟩
def oPow : O2
  | .int i, .int j, m, k => CPow i j ∧ k (.int (i ^ j.toNat)) m
  | _, _, _, _ => False
theorem jo_pow : JO2 X (binaryOp .Pow) oPow := ⟨_, op_pow, s_I (g' := fun i j => .int (i ^ j.toNat)) (fun _ _ _ => .int _) fun x y m k h => by
  unfold oPow at h
  split at h
  · exact ⟨_, _, rfl, rfl, h.1, h.2⟩
  · exact h.elim⟩
def oNeg : O1
  | .int i, m, k => k (.int (-i)) m
  | _, _, _ => False
theorem jo_neg : JO1 X (unaryOp .USub) oNeg := ⟨_, un_neg, fun F H m x u k l mr a h Q q => by
  unfold oNeg at h
  split at h
  · exact ⟨_, a.intI, q _ _ F H m (StM.refl l mr) (.int _) h⟩
  · exact h.elim⟩
def oLt : O2
  | .int i, .int j, m, k => k (.bl (decide (i < j))) m
  | .str i, .str j, m, k => k (.bl (decide (i.cps.toList < j.cps.toList))) m
  | _, _, _, _ => False
theorem jo_lt : JO2 X (compareOp .Lt) oLt := ⟨_, ox_lt, fun F H m x y u v k l mr a b h Q q => by
  unfold oLt at h
  split at h
  · exact .inl ⟨_, _, a.intI, b.intI, q _ _ F H m (StM.refl l mr) (.bl _) h⟩
  · exact .inr ⟨_, _, a.strI, b.strI, q _ _ F H m (StM.refl l mr) (.bl _) h⟩
  · exact h.elim⟩
def oLe : O2
  | .int i, .int j, m, k => k (.bl (decide (i ≤ j))) m
  | _, _, _, _ => False
theorem jo_le : JO2 X (compareOp .LtE) oLe := ⟨_, op_le, s_I0 (g' := fun i j => .bl (decide (i ≤ j))) (fun _ _ _ => .bl _) fun x y m k h => by
  unfold oLe at h
  split at h
  · exact ⟨_, _, rfl, rfl, h⟩
  · exact h.elim⟩
def oGt : O2
  | .int i, .int j, m, k => k (.bl (decide (j < i))) m
  | .str i, .str j, m, k => k (.bl (decide (j.cps.toList < i.cps.toList))) m
  | _, _, _, _ => False
def rGtS : R2 := fun x y H Q => ∃ i j, x = .str i ∧ y = .str j ∧ Q (.bl (decide (j.cps.toList < i.cps.toList))) H
theorem jo_gt : JO2 X (compareOp .Gt) oGt := ⟨_, opr_or op_gt (show OpR X (compareOp .Gt) rGtS from op_gt_str), fun F H m x y u v k l mr a b h Q q => by
  unfold oGt at h
  split at h
  · exact .inl ⟨_, _, a.intI, b.intI, q _ _ F H m (StM.refl l mr) (.bl _) h⟩
  · exact .inr ⟨_, _, a.strI, b.strI, q _ _ F H m (StM.refl l mr) (.bl _) h⟩
  · exact h.elim⟩
def oGe : O2
  | .int i, .int j, m, k => k (.bl (decide (j ≤ i))) m
  | _, _, _, _ => False
/-! ### == -/
mutual
def toPy : D → Option PyData
  | .non => some .none
  | .bl b => some (.bool b)
  | .int i => some (.int i)
  | .str x => some (.str x)
  | .lst ds => (toPyL ds).map .list
  | .tup ds => (toPyL ds).map .tuple
  | _ => none
def toPyL : List D → Option (List PyData)
  | [] => some []
  | d :: ds => match toPy d, toPyL ds with
    | some p, some ps => some (p :: ps)
    | _, _ => none
end
/-- a list of the memory as it stands -/
def now (m : Mem) : D → D
  | .ref p => match m p with
    | some (.lst ds) => .lst ds
    | _ => .ref p
  | d => d
mutual
theorem Rp.dp {F H : Hp} (l : Le F H) : ∀ {d : D} {p : PyData}, toPy d = some p → ∀ {v : V}, Rp K mg F v d → Dp K H v p
  | .non, p, h, v, r => by simp only [toPy] at h; cases h; rw [r.nonI]; exact .non
  | .bl b, p, h, v, r => by simp only [toPy] at h; cases h; rw [r.blI]; exact .bl b
  | .int i, p, h, v, r => by simp only [toPy] at h; cases h; rw [r.intI]; exact .int i
  | .str x, p, h, v, r => by simp only [toPy] at h; cases h; rw [r.strI]; exact .str x
  | .lst ds, p, h, v, r => by
    simp only [toPy, Option.map_eq_some_iff] at h
    obtain ⟨ps, h1, rfl⟩ := h
    obtain ⟨a, xs, rfl, e, rl⟩ := r.lstI
    exact .lst (SqL.of (l.lst e)) (RpL.dp l h1 rl)
  | .tup ds, p, h, v, r => by
    simp only [toPy, Option.map_eq_some_iff] at h
    obtain ⟨ps, h1, rfl⟩ := h
    obtain ⟨a, xs, rfl, e, rl⟩ := r.tupI
    exact .tup (l.sqt e) (RpL.dp l h1 rl)
  | .dic _, p, h, v, r => by simp only [toPy] at h; cases h
  | .dit _, p, h, v, r => by simp only [toPy] at h; cases h
  | .obj _ _, p, h, v, r => by simp only [toPy] at h; cases h
  | .feed, p, h, v, r => by simp only [toPy] at h; cases h
  | .lat _ _, p, h, v, r => by simp only [toPy] at h; cases h
  | .ref _, p, h, v, r => by simp only [toPy] at h; cases h
  | .oth _, p, h, v, r => by simp only [toPy] at h; cases h
  | .exn _ _ _, p, h, v, r => by simp only [toPy] at h; cases h
  | .clo _ _ _ _ _, p, h, v, r => by simp only [toPy] at h; cases h
theorem RpL.dp {F H : Hp} (l : Le F H) : ∀ {d : List D} {p : List PyData}, toPyL d = some p → ∀ {v : List V}, RpL K mg F v d → DpAll K H v p
  | [], p, h, v, r => by simp only [toPyL] at h; cases h; cases r; exact .nil
  | d :: ds, p, h, v, r => by
    simp only [toPyL] at h
    cases h1 : toPy d with
    | none => simp only [h1] at h; cases h
    | some q =>
      cases h2 : toPyL ds with
      | none => simp only [h1, h2] at h; cases h
      | some qs =>
        simp only [h1, h2] at h
        cases h
        cases r with
        | cons ra rb => exact .cons (Rp.dp l h1 ra) (RpL.dp l h2 rb)
end
theorem Rp.dpM {F H : Hp} {m : Mem} (l : Le F H) (mr : MemR K mg F H m) {d : D} {p : PyData} (h : toPy (now m d) = some p) {v : V} (r : Rp K mg F v d) : Dp K H v p := by
  cases d with
  | ref a =>
    cases hm : m a with
    | none => simp only [now, hm, toPy] at h; cases h
    | some o =>
      cases o with
      | lst ds =>
        simp only [now, hm, toPy, Option.map_eq_some_iff] at h
        obtain ⟨ps, h1, rfl⟩ := h
        obtain ⟨_, xs, e, rl⟩ := mr a _ hm
        obtain rfl := r.refI
        exact .lst (SqL.of e) (RpL.dp l h1 rl)
      | _ => simp only [now, hm, toPy] at h; cases h
  | _ => exact r.dp l h
/-- == of data -/
def eqP (m : Mem) (x y : D) (k : Bool → Prop) : Prop := ∃ p q, toPy (now m x) = some p ∧ toPy (now m y) = some q ∧ SeqAt.shaped p = true ∧ SeqAt.shaped q = true ∧ k (PyData.eqv p q)
def scEq : D → D → Option Bool
  | .int i, .int j => some (decide (i = j))
  | .str i, .str j => some (decide (i = j))
  | .bl i, .bl j => some (decide (i = j))
  | _, _ => none
def eqA : Option Bool → (Bool → Prop) → Prop → Prop
  | some b, k, _ => k b
  | none, _, p => p
def eqK (x y : D) (m : Mem) (k : Bool → Prop) : Prop := eqA (scEq x y) k (eqP m x y k)
def oEq : O2 := fun x y m k => eqK x y m fun b => k (.bl b) m
def oNe : O2 := fun x y m k => eqK x y m fun b => k (.bl (!b)) m
theorem eqK_i {i j : Int} {m : Mem} {k : Bool → Prop} : eqK (.int i) (.int j) m k = k (decide (i = j)) := rfl
theorem eqK_s {i j : Str} {m : Mem} {k : Bool → Prop} : eqK (.str i) (.str j) m k = k (decide (i = j)) := rfl
theorem eqK_b {i j : Bool} {m : Mem} {k : Bool → Prop} : eqK (.bl i) (.bl j) m k = k (decide (i = j)) := rfl
theorem eqK_t {i j : List D} {m : Mem} {k : Bool → Prop} : eqK (.tup i) (.tup j) m k = eqP m (.tup i) (.tup j) k := rfl
theorem eqK_l {i j : List D} {m : Mem} {k : Bool → Prop} : eqK (.lst i) (.lst j) m k = eqP m (.lst i) (.lst j) k := rfl
theorem scEq_of {F : Hp} {x y : D} {u v : V} {c : Bool} (a : Rp K mg F u x) (b : Rp K mg F v y) (h : scEq x y = some c) : scal u v = true ∧ decide (u = v) = c := by
  unfold scEq at h
  split at h
  · cases h; rw [a.intI, b.intI]; exact ⟨rfl, by simp⟩
  · cases h; rw [a.strI, b.strI]; exact ⟨rfl, by simp⟩
  · cases h; rw [a.blI, b.blI]; exact ⟨rfl, by simp⟩
  · cases h
theorem jo_eq (hu : X.A.units + 64 < cLine) : JO2 X (compareOp .Eq) oEq := ⟨_, ox_eq hu, fun F H m x y u v k l mr a b h Q q => by
  unfold oEq eqK at h
  cases hc : scEq x y with
  | some c =>
    rw [hc] at h
    obtain ⟨h1, h2⟩ := scEq_of a b hc
    refine .inl ⟨h1, ?_⟩
    rw [h2]
    exact q _ _ F H m (StM.refl l mr) (.bl _) h
  | none =>
    rw [hc] at h
    obtain ⟨p, p', h1, h2, h3, h4, h5⟩ := h
    exact .inr ⟨p, p', a.dpM l mr h1, b.dpM l mr h2, h3, h4, q _ _ F H m (StM.refl l mr) (.bl _) h5⟩⟩
theorem jo_ne (hu : X.A.units + 64 < cLine) : JO2 X (compareOp .NotEq) oNe := ⟨_, ox_ne hu, fun F H m x y u v k l mr a b h Q q => by
  unfold oNe eqK at h
  cases hc : scEq x y with
  | some c =>
    rw [hc] at h
    obtain ⟨h1, h2⟩ := scEq_of a b hc
    refine .inl ⟨h1, ?_⟩
    rw [h2]
    exact q _ _ F H m (StM.refl l mr) (.bl _) h
  | none =>
    rw [hc] at h
    obtain ⟨p, p', h1, h2, h3, h4, h5⟩ := h
    exact .inr ⟨p, p', a.dpM l mr h1, b.dpM l mr h2, h3, h4, q _ _ F H m (StM.refl l mr) (.bl _) h5⟩⟩
/-- is None -/
def noneB : D → Bool
  | .non => true
  | .oth .non => true
  | _ => false
theorem rp_none {F : Hp} {v : V} {d : D} (r : Rp K mg F v d) : decide (v = V.non) = noneB d := by
  cases r with
  | oth v => cases v <;> rfl
  | _ => rfl
def oIs : O2
  | x, .non, m, k => k (.bl (noneB x)) m
  | _, _, _, _ => False
def oIsNot : O2
  | x, .non, m, k => k (.bl (!noneB x)) m
  | _, _, _, _ => False
theorem jo_is : JO2 X (compareOp .Is) oIs := ⟨_, op_isN, fun F H m x y u v k l mr a b h Q q => by
  unfold oIs at h
  split at h
  · exact ⟨b.nonI, by rw [rp_none a]; exact q _ _ F H m (StM.refl l mr) (.bl _) h⟩
  · exact h.elim⟩
theorem jo_isnot : JO2 X (compareOp .IsNot) oIsNot := ⟨_, op_notN, fun F H m x y u v k l mr a b h Q q => by
  unfold oIsNot at h
  split at h
  · exact ⟨b.nonI, by rw [rp_none a]; exact q _ _ F H m (StM.refl l mr) (.bl _) h⟩
  · exact h.elim⟩
/-! ### items and slices -/
def oIx : O2
  | .tup ds, .int i, m, k => onO (atI ds i) fun d => k d m
  | .lst ds, .int i, m, k => onO (atI ds i) fun d => k d m
  | .lat _ ds, .int i, m, k => onO (atI ds i) fun d => k d m
  | .ref p, .int i, m, k => onM (m p) fun ds => onO (atI ds i) fun d => k d m
  | .str z, .int i, m, k => z.length ≤ 1000000 ∧ onO (atI z.cps.toList i) fun c => k (.str ⟨#[c]⟩) m
  | _, _, _, _ => False
theorem ixl_snd {F H : Hp} {m : Mem} {x : D} {u v : V} {xs : List D} {i : Int} {d : D} {k : KD} {Q : VK} (l : Le F H) (mr : MemR K mg F H m) (a : Rp K mg F u x) (b : Rp K mg F v (.int i)) (hx : asL m x = some xs) (hd : atI xs i = some d) (h : k d m)
    (q : ∀ w d F' H' m', StM K mg m F H F' H' m' → Rp K mg F' w d → k d m' → Q w H') : rIxL K u v H Q := by
  obtain ⟨p, vs, rfl, sp, rp⟩ := a.asL l mr hx
  obtain ⟨w, h1, h2⟩ := rp.atI hd
  exact ⟨p, vs, i, w, rfl, b.intI, sp, h1, q _ _ F H m (StM.refl l mr) h2 h⟩
theorem s_ix : SndO2 K mg (rIx K) oIx := fun F H m x y u v k l mr a b h Q q => by
  unfold oIx at h
  split at h
  · obtain ⟨d, hd, h⟩ := onO_of h
    obtain ⟨p, vs, rfl, sp, rp⟩ := a.tupI
    obtain ⟨w, h1, h2⟩ := rp.atI hd
    exact .inr (.inl ⟨p, vs, _, w, rfl, b.intI, l.sqt sp, h1, q _ _ F H m (StM.refl l mr) h2 h⟩)
  · obtain ⟨d, hd, h⟩ := onO_of h; exact .inl (ixl_snd l mr a b rfl hd h q)
  · obtain ⟨d, hd, h⟩ := onO_of h; exact .inl (ixl_snd l mr a b rfl hd h q)
  · obtain ⟨ds, hm, h⟩ := onM_of h
    obtain ⟨d, hd, h⟩ := onO_of h
    exact .inl (ixl_snd l mr a b (by simp only [asL, hm]) hd h q)
  · obtain ⟨hz, h⟩ := h
    obtain ⟨d, hd, h⟩ := onO_of h
    exact .inr (.inr ⟨_, _, _, a.strI, b.intI, Nat.le_trans hz (by decide), hd, q _ _ F H m (StM.refl l mr) (.str _) h⟩)
  · exact h.elim
theorem je_ix {W : WX} {a b : Expr} {va vb : VE} {pos : Pos} (ha : JE X W a va) (hb : JE X W b vb) (hs : PlainIx b) : JE X W (.Subscript a b pos) (vOp oIx va vb) := by
  obtain ⟨ta, p1, s1⟩ := ha; obtain ⟨tb, p2, s2⟩ := hb
  exact ⟨_, pe_ix ix_seq p1 p2 hs, SndE.op s_ix s1 s2⟩
def cutD {α : Type} (xs : List α) (lo hi : Option Int) : List α := (xs.drop (HT.sIx xs.length 0 lo)).take (HT.sIx xs.length xs.length hi - HT.sIx xs.length 0 lo)
theorem RpL.cut {F : Hp} {vs : List V} {ds : List D} (r : RpL K mg F vs ds) (lo hi : Option Int) : RpL K mg F (cutV vs lo hi) (cutD ds lo hi) := by
  unfold cutV cutD
  rw [r.len]
  exact (r.drop _).take _
abbrev OS := D → Option Int → Option Int → Mem → KD → Prop
def oSl : OS
  | .lst ds, lo, hi, m, k => k (.lst (cutD ds lo hi)) m
  | .lat _ ds, lo, hi, m, k => k (.lst (cutD ds lo hi)) m
  | .ref p, lo, hi, m, k => onM (m p) fun ds => k (.lst (cutD ds lo hi)) m
  | .str z, lo, hi, m, k => z.length ≤ 1000000 ∧ k (.str (cutS z lo hi)) m
  | _, _, _, _, _ => False
@[reducible] def vSl (a : VE) (l h : VO) : VE := fun s m k x => a s m (fun d m1 => l s m1 (fun lo m2 => h s m2 (fun hi m3 => oSl d lo hi m3 k) x) x) x
theorem sl_snd {F H : Hp} {m : Mem} {x : D} {u : V} {xs : List D} {lo hi : Option Int} {k : KD} {Q : VK} (l : Le F H) (mr : MemR K mg F H m) (a : Rp K mg F u x) (hx : asL m x = some xs) (h : k (.lst (cutD xs lo hi)) m)
    (q : ∀ w d F' H' m', StM K mg m F H F' H' m' → Rp K mg F' w d → k d m' → Q w H') : rSlL K u lo hi H Q := by
  obtain ⟨p, vs, rfl, sp, rp⟩ := a.asL l mr hx
  refine ⟨p, vs, rfl, sp, fun n hn => ?_⟩
  have st := Step.new (F := F) (o := .lst (cutV vs lo hi)) l hn
  exact q _ _ _ _ m (st.stm mr) (.lst upd_same ((rp.cut lo hi).mono st.gr)) h
theorem je_sl {W : WX} {e : Expr} {lo hi : Option Expr} {ve : VE} {vl vh : VO} {p2 pos : Pos} (he : JE X W e ve) (hl : JP X W lo vl) (hh : JP X W hi vh) : JE X W (.Subscript e (.Slice lo hi none p2) pos) (vSl ve vl vh) := by
  obtain ⟨t, p, s1⟩ := he; obtain ⟨tl, pl, s2⟩ := hl; obtain ⟨th, ph, s3⟩ := hh
  refine ⟨_, pe_slice (SlR.or sl_list sl_str) p pl ph, fun σ F H s m k x l en hv hx Q q => s1 σ F H s m _ x l en hv hx _ fun v d F1 H1 m1 t1 r1 k1 => s2 σ F1 H1 s m1 _ x t1.le (en.stm t1) k1 (hx.after t1) _ fun lo F2 H2 m2 t2 k2 =>
    s3 σ F2 H2 s m2 _ x t2.le ((en.stm t1).stm t2) k2 ((hx.after t1).after t2) _ fun hi F3 H3 m3 t3 k3 => ?_⟩
  have st := (t1.trans t2).trans t3
  have q' : ∀ w d F' H' m', StM X.K X.mg m3 F3 H3 F' H' m' → Rp X.K X.mg F' w d → k d m' → Q w H' := fun w d F' H' m' t r hk => q w d F' H' m' (st.trans t) r hk
  have r3 := r1.mono (t2.gr.trans t3.gr)
  unfold oSl at k3
  split at k3
  · exact .inl (sl_snd t3.le t3.mr r3 rfl k3 q')
  · exact .inl (sl_snd t3.le t3.mr r3 rfl k3 q')
  · obtain ⟨ds, hm, k3⟩ := onM_of k3
    exact .inl (sl_snd t3.le t3.mr r3 (by simp only [asL, hm]) k3 q')
  · exact .inr ⟨_, r3.strI, Nat.le_trans k3.1 (by decide), q' _ _ F3 H3 m3 (StM.refl t3.le t3.mr) (.str _) k3.2⟩
  · exact k3.elim
/-! ### built-ins by name -/
def oLen : OA
  | [.lst ds], m, k => k (.int (ds.length : Int)) m
  | [.lat _ ds], m, k => k (.int (ds.length : Int)) m
  | [.tup ds], m, k => k (.int (ds.length : Int)) m
  | [.pr ds], m, k => k (.int (ds.length : Int)) m
  | [.str z], m, k => z.length ≤ 1000000 ∧ k (.int (z.length : Int)) m
  | [.ref p], m, k => onM (m p) fun ds => k (.int (ds.length : Int)) m
  | _, _, _ => False
theorem len_snd {F H : Hp} {m : Mem} {x : D} {u : V} {xs : List D} {k : KD} {Q : VK} (l : Le F H) (mr : MemR K mg F H m) (a : Rp K mg F u x) (hx : asL m x = some xs) (h : k (.int (xs.length : Int)) m)
    (q : ∀ w d F' H' m', StM K mg m F H F' H' m' → Rp K mg F' w d → k d m' → Q w H') : ∃ x n, [u] = [x] ∧ LenV K x H n ∧ Q (.int n) H := by
  obtain ⟨p, vs, rfl, sp, rp⟩ := a.asL l mr hx
  refine ⟨_, vs.length, rfl, .inl ⟨vs, sp, rfl⟩, q _ _ F H m (StM.refl l mr) (.int _) ?_⟩
  rw [rp.len]; exact h
theorem jo_len : JOA X (.builtin "len") oLen := ⟨_, call_len, fun F H m xs us k l mr r h Q q => by
  unfold oLen at h
  split at h
  · obtain ⟨u, rfl, a⟩ := r.one
    exact len_snd l mr a rfl h q
  · obtain ⟨u, rfl, a⟩ := r.one
    exact len_snd l mr a rfl h q
  · obtain ⟨u, rfl, a⟩ := r.one
    obtain ⟨p, vs, rfl, sp, rp⟩ := a.tupI
    refine ⟨_, vs.length, rfl, .inr ⟨vs, l.sqt sp, rfl⟩, q _ _ F H m (StM.refl l mr) (.int _) ?_⟩
    rw [rp.len]; exact h
  · obtain ⟨u, rfl, a⟩ := r.one
    obtain ⟨p, vs, rfl, sp, rp⟩ := a.prI
    refine ⟨_, vs.length, rfl, .inr ⟨vs, l.sqt (SqT.of sp), rfl⟩, q _ _ F H m (StM.refl l mr) (.int _) ?_⟩
    rw [rp.len]; exact h
  · obtain ⟨u, rfl, a⟩ := r.one
    obtain rfl := a.strI
    exact ⟨_, _, rfl, ⟨Nat.le_trans h.1 (by decide), rfl⟩, q _ _ F H m (StM.refl l mr) (.int _) h.2⟩
  · obtain ⟨u, rfl, a⟩ := r.one
    obtain ⟨ds, hm, h⟩ := onM_of h
    exact len_snd l mr a (by simp only [asL, hm]) h q
  · exact h.elim⟩
def rcor (r1 r2 : List V → Hp → VK → Prop) : List V → Hp → VK → Prop := fun xs H Q => r1 xs H Q ∨ r2 xs H Q
theorem cr_or {f : Value} {r1 r2 : List V → Hp → VK → Prop} (h1 : CallR X f r1) (h2 : CallR X f r2) : CallR X f (rcor r1 r2) := fun pins s σ H xs us Q I r h => by
  rcases h with h | h
  · exact h1 pins s σ H xs us Q I r h
  · exact h2 pins s σ H xs us Q I r h
def oInt : OA
  | [.int i], m, k => k (.int i) m
  | [.bl b], m, k => k (.int (if b then 1 else 0)) m
  | [.str z], m, k => z.length ≤ 640 ∧ ∃ n, PySem.intText? z = some n ∧ k (.int n) m
  | _, _, _ => False
theorem jo_int : JOA X (.type "int") oInt := ⟨_, cr_or call_int1 call_int_str, fun F H m xs us k l mr r h Q q => by
  unfold oInt at h
  split at h
  · obtain ⟨u, rfl, a⟩ := r.one
    obtain rfl := a.intI
    exact .inl (.inl ⟨_, rfl, q _ _ F H m (StM.refl l mr) (.int _) h⟩)
  · obtain ⟨u, rfl, a⟩ := r.one
    obtain rfl := a.blI
    exact .inl (.inr ⟨_, rfl, q _ _ F H m (StM.refl l mr) (.int _) h⟩)
  · obtain ⟨u, rfl, a⟩ := r.one
    obtain rfl := a.strI
    obtain ⟨hz, n, hn, h⟩ := h
    exact .inr ⟨_, n, rfl, hn, hz, q _ _ F H m (StM.refl l mr) (.int _) h⟩
  · exact h.elim⟩
def oAbs : OA
  | [.int i], m, k => k (.int (i.natAbs : Int)) m
  | _, _, _ => False
theorem jo_abs : JOA X (.builtin "abs") oAbs := ⟨_, call_abs, fun F H m xs us k l mr r h Q q => by
  unfold oAbs at h
  split at h
  · rename_i i
    obtain ⟨u, rfl, a⟩ := r.one
    obtain rfl := a.intI
    refine ⟨i, rfl, q _ _ F H m (StM.refl l mr) (.int _) ?_⟩
    have e : (if i < 0 then -i else i) = (i.natAbs : Int) := by split <;> omega
    rw [e]; exact h
  · exact h.elim⟩
/-- bools -/
def blsOf : List D → Option (List Bool)
  | [] => some []
  | .bl b :: ds => (blsOf ds).map (b :: ·)
  | _ :: _ => none
theorem blsOf_map : ∀ bs : List Bool, blsOf (bs.map D.bl) = some bs
  | [] => rfl
  | b :: bs => by simp only [List.map_cons, blsOf, blsOf_map bs, Option.map_some]
theorem RpL.bls {F : Hp} : ∀ {xs : List V} {ds : List D} {bs : List Bool}, blsOf ds = some bs → RpL K mg F xs ds → xs = bs.map V.bl
  | _, [], bs, h, .nil => by simp only [blsOf] at h; cases h; rfl
  | _, .bl b :: ds, bs, h, .cons r s => by
    simp only [blsOf, Option.map_eq_some_iff] at h
    obtain ⟨cs, h1, rfl⟩ := h
    rw [r.blI, RpL.bls h1 s]; rfl
def oAll : OA
  | [.lst ds], m, k => onO (blsOf ds) fun bs => k (.bl (bs.all id)) m
  | _, _, _ => False
theorem jo_all (hc : X.calm = true) : JOA X (.builtin "all") oAll := ⟨_, cr_all hc, fun F H m xs us k l mr r h Q q => by
  unfold oAll at h
  split at h
  · obtain ⟨bs, hb, h⟩ := onO_of h
    obtain ⟨u, rfl, a⟩ := r.one
    obtain ⟨p, vs, rfl, sp, rp⟩ := a.lstI
    obtain rfl := rp.bls hb
    exact ⟨p, bs, rfl, SqL.of (l.lst sp), q _ _ F H m (StM.refl l mr) (.bl _) h⟩
  · exact h.elim⟩
def oTuple : OA
  | [.lst ds], m, k => k (.tup ds) m
  | [.lat _ ds], m, k => k (.tup ds) m
  | [.tup ds], m, k => k (.tup ds) m
  | [.ref p], m, k => onM (m p) fun ds => k (.tup ds) m
  | _, _, _ => False
theorem tuple_snd {F H : Hp} {m : Mem} {x : D} {u : V} {xs : List D} {k : KD} {Q : VK} (l : Le F H) (mr : MemR K mg F H m) (a : Rp K mg F u x) (hx : asL m x = some xs) (h : k (.tup xs) m)
    (q : ∀ w d F' H' m', StM K mg m F H F' H' m' → Rp K mg F' w d → k d m' → Q w H') : ∃ p ys, [u] = [.ref p] ∧ ((SqL K H p ys ∧ ∀ (l : Addr) (o : Obj), H l = none → o.dict = none → Q (.ref l) (upd H l (.frz o (.tup ys)))) ∨ (SqT K H p ys ∧ Q (.ref p) H)) := by
  obtain ⟨p, vs, rfl, sp, rp⟩ := a.asL l mr hx
  refine ⟨p, vs, rfl, .inl ⟨sp, fun n o hn ho => ?_⟩⟩
  have st := Step.new (F := F) (o := .frz o (.tup vs)) l hn
  exact q _ _ _ _ m (st.stm mr) (.tup (.inl ⟨o, upd_same, ho⟩) (rp.mono st.gr)) h
theorem jo_tuple : JOA X (.type "tuple") oTuple := ⟨_, call_tupleN, fun F H m xs us k l mr r h Q q => by
  unfold oTuple at h
  split at h
  · obtain ⟨u, rfl, a⟩ := r.one
    exact tuple_snd l mr a rfl h q
  · obtain ⟨u, rfl, a⟩ := r.one
    exact tuple_snd l mr a rfl h q
  · obtain ⟨u, rfl, a⟩ := r.one
    obtain ⟨p, vs, rfl, sp, rp⟩ := a.tupN
    exact ⟨p, vs, rfl, .inr ⟨l.sqt sp.sqt, q _ _ F H m (StM.refl l mr) (.tup sp rp) h⟩⟩
  · obtain ⟨u, rfl, a⟩ := r.one
    obtain ⟨ds, hm, h⟩ := onM_of h
    exact tuple_snd l mr a (by simp only [asL, hm]) h q
  · exact h.elim⟩
/-- list(x): a new list; frozen, or one that changes -/
def oList : OA
  | [.lst ds], m, k => k (.lst ds) m
  | [.lat _ ds], m, k => k (.lst ds) m
  | [.tup ds], m, k => k (.lst ds) m
  | [.pr ds], m, k => k (.lst ds) m
  | [.ref p], m, k => onM (m p) fun ds => k (.lst ds) m
  | _, _, _ => False
def oListO : OA
  | [.lst ds], m, k => ∀ p, m p = none → k (.ref p) (mset m p (.lst ds))
  | [.lat _ ds], m, k => ∀ p, m p = none → k (.ref p) (mset m p (.lst ds))
  | [.tup ds], m, k => ∀ p, m p = none → k (.ref p) (mset m p (.lst ds))
  | [.pr ds], m, k => ∀ p, m p = none → k (.ref p) (mset m p (.lst ds))
  | [.ref p], m, k => onM (m p) fun ds => ∀ p, m p = none → k (.ref p) (mset m p (.lst ds))
  | _, _, _ => False
def itemsOf (m : Mem) : D → Option (List D)
  | .tup ds => some ds
  | .pr ds => some ds
  | d => asL m d
theorem Rp.items {F H : Hp} {m : Mem} {x : D} {u : V} {xs : List D} (l : Le F H) (mr : MemR K mg F H m) (a : Rp K mg F u x) (hx : itemsOf m x = some xs) : ∃ p vs, u = .ref p ∧ (SqL K H p vs ∨ SqT K H p vs) ∧ RpL K mg F vs xs := by
  cases x with
  | tup ds =>
    cases hx
    obtain ⟨p, vs, rfl, sp, rp⟩ := a.tupI
    exact ⟨p, vs, rfl, .inr (l.sqt sp), rp⟩
  | pr ds =>
    cases hx
    obtain ⟨p, vs, rfl, sp, rp⟩ := a.prI
    exact ⟨p, vs, rfl, .inr (l.sqt (SqT.of sp)), rp⟩
  | _ =>
    obtain ⟨p, vs, rfl, sp, rp⟩ := a.asL l mr hx
    exact ⟨p, vs, rfl, .inl sp, rp⟩
theorem listO_cases {xs : List D} {m : Mem} {k : KD} (h : oListO xs m k) : ∃ x ds, xs = [x] ∧ itemsOf m x = some ds ∧ ∀ p, m p = none → k (.ref p) (mset m p (.lst ds)) := by
  unfold oListO at h
  split at h
  · exact ⟨_, _, rfl, rfl, h⟩
  · exact ⟨_, _, rfl, rfl, h⟩
  · exact ⟨_, _, rfl, rfl, h⟩
  · exact ⟨_, _, rfl, rfl, h⟩
  · obtain ⟨ds, hm, h⟩ := onM_of h
    exact ⟨_, ds, rfl, by simp only [itemsOf, asL, hm], h⟩
  · exact h.elim
theorem jo_listO : JOA X (.type "list") oListO := ⟨_, call_list_of, fun F H m xs us k l mr r h Q q => by
  obtain ⟨x, ds, rfl, hx, h⟩ := listO_cases h
  obtain ⟨u, rfl, a⟩ := r.one
  obtain ⟨p, vs, rfl, sp, rp⟩ := a.items l mr hx
  exact ⟨p, vs, rfl, sp, fun n hn => q _ _ _ _ _ (StM.new l mr hn (u := .lst ds) ⟨vs, upd_same, rp⟩) (.ref n) (h n (mr.free hn))⟩⟩
end
end Ts
namespace Ts
open PySem PySem.Spec PyProof.Rows L2
/-! ### isinstance -/
inductive Ty where
  | non | bl | int | str | lst | tup | dic
def Ty.name : Ty → String
  | .non => "NoneType"
  | .bl => "bool"
  | .int => "int"
  | .str => "str"
  | .lst => "list"
  | .tup => "tuple"
  | .dic => "dict"
def Ty.is : Ty → Ty → Bool
  | .bl, .bl => true
  | .bl, .int => true
  | .int, .int => true
  | .str, .str => true
  | .lst, .lst => true
  | .tup, .tup => true
  | .dic, .dic => true
  | .non, .non => true
  | _, _ => false
theorem kit_ok (a b : Ty) (h : b.name ≠ "NoneType") : kitB a.name b.name = some (a.is b) := by
  cases b with
  | non => exact absurd rfl h
  | _ => cases a <;> decide +kernel
def tyM (m : Mem) : D → Option Ty
  | .non => some .non
  | .bl _ => some .bl
  | .int _ => some .int
  | .str _ => some .str
  | .lst _ => some .lst
  | .lat _ _ => some .lst
  | .tup _ => some .tup
  | .dic _ => some .dic
  | .dit _ => some .dic
  | .ref p => match m p with
    | some (.lst _) => some .lst
    | some (.dic _) => some .dic
    | some (.dit _) => some .dic
    | some (.lck _) => some .dic
    | _ => none
  | _ => none
section
variable {K : PySem.W.Frag} {mg : Str → Option Value} {X : Cx} {W : WX}
theorem tyX_of {F H : Hp} {m : Mem} {v : V} {d : D} {T : Ty} (l : Le F H) (mr : MemR K mg F H m) (r : Rp K mg F v d) (h : tyM m d = some T) (nd : ∀ kvs, d ≠ .dit kvs) : TyX K H v (.type T.name) := by
  cases r with
  | non => cases h; exact .base .non
  | bl b => cases h; exact .base (.bl b)
  | int i => cases h; exact .base (.int i)
  | str x => cases h; exact .base (.str x)
  | lst s r => cases h; exact .base (.lst (l.lst s))
  | tup s r =>
    cases h
    rcases l.sqt s.sqt with (z | ⟨o, z⟩) | ⟨o, its, n, z1, z2, _⟩
    · exact .base (.tup z)
    · exact .fTuple z
    · exact .kTuple z1 z2
  | lat s r =>
    cases h
    rcases l.sql s with (z | ⟨o, z⟩) | ⟨o, its, n, z1, z2, _⟩
    · exact .base (.lst z)
    · exact .base (.frz z)
    · exact .kList z1 z2
  | dic s r =>
    cases h
    exact .fDict (l.at s id)
  | dit s r => exact absurd rfl (nd _)
  | ref p =>
    cases hm : m p with
    | none => simp only [tyM, hm] at h; cases h
    | some o =>
      cases o with
      | lst ds => simp only [tyM, hm] at h; cases h; obtain ⟨_, xs, e, _⟩ := mr p _ hm; exact .base (.lst e)
      | dic ds => simp only [tyM, hm] at h; cases h; obtain ⟨_, xs, e, _⟩ := mr p _ hm; exact .base (.dK e)
      | dit ds => simp only [tyM, hm] at h; cases h; obtain ⟨_, xs, e, _⟩ := mr p _ hm; exact .base (.dT e)
      | lck ds => simp only [tyM, hm] at h; cases h; obtain ⟨_, o, xs, e, _⟩ := mr p _ hm; exact .fDict e
      | ins C ds => simp only [tyM, hm] at h; cases h
      | tab q => simp only [tyM, hm] at h; cases h
  | _ => cases h
def isDit : D → Bool
  | .dit _ => true
  | _ => false
/-- isinstance(x, T) -/
@[reducible] def vIsi (c : Ty) (a : VE) : VE := fun s m k x => a s m (fun d m' => isDit d = false ∧ onO (tyM m' d) fun t => k (.bl (t.is c)) m') x
theorem je_isi (c : Ty) (hn : c.name ≠ "NoneType") {a : Expr} {va : VE} {p p2 pos : Pos} {x : Str} (hx : bootBuiltins x = some (.type c.name)) (hg : Gl X "isinstance") (hm : X.mg "isinstance" = none) (hgx : Gl X x) (hmx : X.mg x = none) (ha : JE X W a va)
    (h1 : x ≠ "__name__" := by decide) (h2 : (x == ("__debug__" : Str)) = false := by decide) (he : starEach [a, .Name x p2] X.env = (false, eval a X.env) :: starEach [.Name x p2] X.env := by rfl) :
    JE X W (.Call (.Name "isinstance" p) [a, .Name x p2] [] pos) (vIsi c va) := by
  obtain ⟨ta, p1, s1⟩ := ha
  refine ⟨_, pe_callB call_isi hg hm (by decide +kernel) (pa_cons p1 (pa_cons (pe_bltn (v := .ty c.name) hgx hmx hx rfl h1 h2) pa_nil) he) (he := he), fun σ F H s m k x l en hv hx Q q => s1 σ F H s m _ x l en hv hx _ fun v d F1 H1 m1 t1 r1 k1 => ?_⟩
  obtain ⟨hd, k1⟩ := k1
  obtain ⟨t, ht, k1⟩ := onO_of k1
  · exact ⟨v, _, .type t.name, .type c.name, t.is c, rfl, .ty _, tyX_of t1.le t1.mr r1 ht (fun kvs z => by subst z; cases hd), kit_ty (kit_ok t c hn), q _ _ F1 H1 m1 t1 (.bl _) k1⟩
/-- isinstance(x, (T1, T2)) -/
@[reducible] def vIsi2 (c c' : Ty) (a : VE) : VE := fun s m k x => a s m (fun d m' => isDit d = false ∧ onO (tyM m' d) fun t => k (.bl (t.is c || t.is c')) m') x
theorem je_isi2 (c c' : Ty) (hn : c.name ≠ "NoneType") (hn' : c'.name ≠ "NoneType") {a : Expr} {va : VE} {p p2 p3 pos pt : Pos} {kt : Nat} {x y : Str} (hx : bootBuiltins x = some (.type c.name)) (hy : bootBuiltins y = some (.type c'.name)) (hg : Gl X "isinstance") (hm : X.mg "isinstance" = none) (hgx : Gl X x) (hmx : X.mg x = none) (hgy : Gl X y) (hmy : X.mg y = none) (ha : JE X W a va)
    (h1 : x ≠ "__name__" := by decide) (h2 : (x == ("__debug__" : Str)) = false := by decide) (h3 : y ≠ "__name__" := by decide) (h4 : (y == ("__debug__" : Str)) = false := by decide) (he : starEach [a, .Tuple [.Name x p2, .Name y p3] kt pt] X.env = (false, eval a X.env) :: starEach [.Tuple [.Name x p2, .Name y p3] kt pt] X.env := by rfl) :
    JE X W (.Call (.Name "isinstance" p) [a, .Tuple [.Name x p2, .Name y p3] kt pt] [] pos) (vIsi2 c c' va) := by
  obtain ⟨ta, p1, s1⟩ := ha
  refine ⟨_, pe_callB call_isiT hg hm (by decide +kernel) (pa_cons p1 (pa_cons (pe_tup (pa_cons (pe_bltn (v := .ty c.name) hgx hmx hx rfl h1 h2) (pa_cons (pe_bltn (v := .ty c'.name) hgy hmy hy rfl h3 h4) pa_nil))) pa_nil) he) (he := he), fun σ F H s m k x l en hv hx Q q => s1 σ F H s m _ x l en hv hx _ fun v d F1 H1 m1 t1 r1 k1 => ?_⟩
  obtain ⟨hd, k1⟩ := k1
  obtain ⟨t, ht, k1⟩ := onO_of k1
  · refine ⟨by show 2 ≤ sizeLine; decide, fun p hp => ?_⟩
    have st : Step F1 H1 F1 (upd H1 p (.tup [.ty c.name, .ty c'.name])) := Step.ext t1.le fun a o ha => by rw [upd_ne (ne_of_none ha hp)]; exact ha
    have kk : PySem.W.kitAny X.K (.type t.name) [.type c.name, .type c'.name] = some (t.is c || t.is c') := kitAny_cons (kit_ty (kit_ok t c hn)) (fun e => kitAny_cons (kit_ty (kit_ok t c' hn')) (fun e2 => by rw [e, e2]; exact kitAny_nil) fun e2 => by rw [e2, Bool.or_true]) fun e => by rw [e, Bool.true_or]
    exact ⟨v, p, _, .type t.name, [.type c.name, .type c'.name], _, rfl, upd_same, .cons (.ty _) (.cons (.ty _) .nil), tyX_of st.le (t1.mr.step st) r1 ht (fun kvs z => by subst z; cases hd), kk, q _ _ F1 _ m1 (t1.trans (st.stm t1.mr)) (.bl _) k1⟩
/-! ### methods of built-in types -/
abbrev OM := D → List D → Mem → KD → Prop
def SndM (K : PySem.W.Frag) (mg : Str → Option Value) (r : V → List V → Hp → VK → Prop) (o : OM) : Prop := ∀ (F H : Hp) (m : Mem) (x : D) (xs : List D) (u : V) (us : List V) (k : KD), Le F H → MemR K mg F H m → Rp K mg F u x → RpL K mg F us xs → o x xs m k → ∀ Q : VK,
  (∀ w d F' H' m', StM K mg m F H F' H' m' → Rp K mg F' w d → k d m' → Q w H') → r u us H Q
def JM (X : Cx) (id : String) (o : OM) : Prop := ∃ r, MtR X id r ∧ SndM X.K X.mg r o
/-- the value is of that built-in type -/
def isTy (m : Mem) (d : D) : String → Prop
  | "list" => match d with
    | .ref p => onM (m p) fun _ => True
    | .lst _ => True
    | _ => False
  | "str" => match d with
    | .str _ => True
    | _ => False
  | _ => False
theorem isTy_ok {F H : Hp} {m : Mem} {u : V} {d : D} {T : String} (l : Le F H) (mr : MemR K mg F H m) (r : Rp K mg F u d) (h : isTy m d T) : tyV K T u H := by
  unfold isTy at h
  split at h
  · cases d with
    | ref p =>
      obtain ⟨ds, hm, _⟩ := onM_of h
      obtain ⟨_, xs, e, _⟩ := mr p _ hm
      rw [r.refI]
      exact .inl ⟨rfl, xs, SqL.of e⟩
    | lst ds =>
      obtain ⟨a, xs, rfl, e, _⟩ := r.lstI
      exact .inl ⟨rfl, xs, SqL.of (l.lst e)⟩
    | _ => exact h.elim
  · cases d with
    | str z => rw [r.strI]; rfl
    | _ => exact h.elim
  · exact h.elim
@[reducible] def vBM (T : String) (o : OM) (a : VE) (r : VA) : VE := fun s m k x => a s m (fun d m1 => isTy m1 d T ∧ r s m1 (fun ds m2 => o d ds m2 k) x) x
@[reducible] def vBM0 (T : String) (o : OM) (a : VE) : VE := fun s m k x => a s m (fun d m1 => isTy m1 d T ∧ o d [] m1 k) x
theorem je_bm {o e : Expr} {es : List Expr} {vo : VE} {va : VA} {name : Str} {apos cpos : Pos} {T id : String} {om : OM} (pa : PlainAttrs T) (slot : Slot T name id) (hty : typeOf (.builtin id) = pure (.type "method_descriptor")) (hm : JM X id om) (ho : JE X W o vo) (ha : JA X W (e :: es) va)
    (hbase : attributeBase o name X.env (eval o X.env) = eval o X.env := by rfl)
    (hfew : ((backTo cpos (starEach (e :: es) X.env)).all (fun x => !x.1) && (backToKw cpos (keywordEach [] X.env)).all (fun x => x.1.isSome)
      && decide ((e :: es).length + ([] : List Keyword).length + (if ([] : List Keyword).isEmpty then 0 else 1) < 30)) = true := by rfl)
    (hline : (apos.endLine == cpos.line) = true := by rfl) (hs : starEach (e :: es) X.env = (false, eval e X.env) :: starEach es X.env := by rfl) (hplain : (backTo cpos (starEach es X.env)).any (·.1) = false := by rfl) :
    JE X W (.Call (.Attribute o name apos) (e :: es) [] cpos) (vBM T om vo va) := by
  obtain ⟨r, h0, h1⟩ := hm; obtain ⟨to, p1, s1⟩ := ho; obtain ⟨ta, p2, s2⟩ := ha
  exact ⟨_, pe_bm pa slot hty h0 p1 p2 hbase hfew hline hs hplain, fun σ F H s m k x l en hv hx Q q => s1 σ F H s m _ x l en hv hx _ fun u d F1 H1 m1 t1 r1 k1 => ⟨isTy_ok t1.le t1.mr r1 k1.1, s2 σ F1 H1 s m1 _ x t1.le (en.stm t1) k1.2 (hx.after t1) _ fun us ds F2 H2 m2 t2 r2 k2 =>
    h1 F2 H2 m2 d ds u us k t2.le t2.mr (r1.mono t2.gr) r2 k2 Q fun w d' F3 H3 m3 t3 r3 k3 => q w d' F3 H3 m3 ((t1.trans t2).trans t3) r3 k3⟩⟩
/-- the list of the memory that a value is -/
def onL (m : Mem) : D → (Addr → List D → Prop) → Prop
  | .ref p, k => onM (m p) fun ds => k p ds
  | _, _ => False
theorem onL_of {m : Mem} {d : D} {k : Addr → List D → Prop} (h : onL m d k) : ∃ p ds, d = .ref p ∧ m p = some (.lst ds) ∧ k p ds := by
  cases d with
  | ref p =>
    obtain ⟨ds, hm, h⟩ := onM_of h
    exact ⟨p, ds, rfl, hm, h⟩
  | _ => exact h.elim
def oAppend : OM := fun x vs m k => match vs with
  | [y] => onL m x fun p ds => ds.length < 1000000 ∧ k .non (mset m p (.lst (ds ++ [y])))
  | _ => False
theorem jm_append : JM X "list.append" oAppend := ⟨_, mt_append, fun F H m x xs u us k l mr r rs h Q q => by
  unfold oAppend at h
  split at h
  · rename_i y
    obtain ⟨p, ds, rfl, hm, hz, h⟩ := onL_of h
    obtain ⟨w, rfl, ra⟩ := rs.one
    obtain ⟨_, ys, e, rl⟩ := mr p _ hm
    exact ⟨p, ys, w, r.refI, rfl, e, by rw [rl.len]; exact Nat.lt_of_lt_of_le hz (by decide), q _ _ F _ _ (StM.put l mr hm rfl (u := .lst (ds ++ [y])) ⟨_, upd_same, rl.app (.cons ra .nil)⟩) .non h⟩
  · exact h.elim⟩
def oClear : OM := fun x vs m k => match vs with
  | [] => onL m x fun p _ => k .non (mset m p (.lst []))
  | _ => False
def oExtend : OM := fun x vs m k => match vs with
  | [.lst es] => onL m x fun p ds => ds.length + es.length ≤ 1000000 ∧ k .non (mset m p (.lst (ds ++ es)))
  | _ => False
def oInsert : OM := fun x vs m k => match vs with
  | [.int i, y] => onL m x fun p ds => ds.length < 1000000 ∧ 0 ≤ i ∧ i < 2 ^ 63 ∧ k .non (mset m p (.lst (ds.take i.toNat ++ [y] ++ ds.drop i.toNat)))
  | _ => False
theorem RpL.dropLast {F : Hp} : ∀ {vs : List V} {ds : List D}, RpL K mg F vs ds → RpL K mg F vs.dropLast ds.dropLast
  | _, _, .nil => .nil
  | _, _, .cons _ .nil => .nil
  | _, _, .cons r (.cons a s) => .cons r (RpL.dropLast (.cons a s))
theorem RpL.eraseIdx {F : Hp} : ∀ {vs : List V} {ds : List D} (i : Nat), RpL K mg F vs ds → RpL K mg F (vs.eraseIdx i) (ds.eraseIdx i)
  | _, _, _, .nil => .nil
  | _, _, 0, .cons _ s => s
  | _, _, i + 1, .cons r s => .cons r (RpL.eraseIdx i s)
def oPop : OM := fun x vs m k => match vs with
  | [] => onL m x fun p ds => ∃ y, ds[ds.length - 1]? = some y ∧ k y (mset m p (.lst ds.dropLast))
  | [.int i] => onL m x fun p ds => -(2 ^ 63) ≤ i ∧ i < 2 ^ 63 ∧ ∃ j y, seqIndex? i ds.length = some j ∧ ds[j]? = some y ∧ k y (mset m p (.lst (ds.eraseIdx j)))
  | _ => False
theorem jm_pop : JM X "list.pop" oPop := ⟨_, MtR.or mt_pop mt_popAt, fun F H m x xs u us k l mr r rs h Q q => by
  unfold oPop at h
  split at h
  · obtain ⟨p, ds, rfl, hm, y, hy, h⟩ := onL_of h
    cases rs
    obtain ⟨_, ys, e, rl⟩ := mr p _ hm
    obtain ⟨w, hw, rw'⟩ := rl.at hy
    exact .inl ⟨p, ys, w, r.refI, rfl, e, by rw [rl.len]; exact hw, q _ _ F _ _ (StM.put l mr hm rfl (u := .lst ds.dropLast) ⟨_, upd_same, rl.dropLast⟩) rw' h⟩
  · rename_i i
    obtain ⟨p, ds, rfl, hm, h0, h1, j, y, hj, hy, h⟩ := onL_of h
    obtain ⟨w, rfl, ri⟩ := rs.one
    obtain ⟨_, ys, e, rl⟩ := mr p _ hm
    obtain ⟨w', hw, rw'⟩ := rl.at hy
    exact .inr ⟨p, ys, i, j, w', r.refI, by rw [ri.intI], e, h0, h1, by rw [rl.len]; exact hj, hw, q _ _ F _ _ (StM.put l mr hm rfl (u := .lst (ds.eraseIdx j)) ⟨_, upd_same, rl.eraseIdx j⟩) rw' h⟩
  · exact h.elim⟩
/-! ### xs[i] = e, del xs[i] -/
@[reducible] def vSetIx (o i a : VE) : VS := fun s m G => a s m (fun e m1 => o s m1 (fun d m2 => i s m2 (fun j m3 => onL m3 d fun p ds => match j with
  | .int n => onO (ixN ds.length n) fun t => G.nx s (mset m3 p (.lst (ds.set t e)))
  | _ => False) fun e m' => G.ex e s m') fun e m' => G.ex e s m') fun e m' => G.ex e s m'
theorem js_setIx {o i e : Expr} {vo vi ve : VE} {pos pos' : Pos} (he : JE X W e ve) (ho : JE X W o vo) (hi : JE X W i vi)
    (ha : ∀ v, assign (.Subscript o i pos') X.env v = (do
      let ov ← holding [v] (eval o X.env)
      let iv ← holding [v, ov] (eval i X.env)
      standAt pos'
      holding [v, ov, iv] (setItem ov iv v)
      release [v, ov, iv] []) := by intro _; rfl)
    (hs : swapsWithSole [.Subscript o i pos'] e pos.line X.env = pure false := by rfl) (hw : swappedStores [.Subscript o i pos'] e X.env = pure none := by rfl) (h1 : (assignEach [.Subscript o i pos'] X.env).map (·.2) = [assign (.Subscript o i pos') X.env] := by rfl) : JS X W (.Assign [.Subscript o i pos'] e pos) (vSetIx vo vi ve) := by
  obtain ⟨t, p1, s1⟩ := he; obtain ⟨to, p2, s2⟩ := ho; obtain ⟨ti, p3, s3⟩ := hi
  refine ⟨_, ps_asg p1 (pg_sub p2 p3 set_list ha) hs hw h1, fun σ F H s m G l en h E L => s1 σ F H s m _ _ l en h (L.x en) _ fun v d F1 H1 m1 t1 r1 k1 => s2 σ F1 H1 s m1 _ _ t1.le (en.stm t1) k1 ((L.x en).after t1) _ fun w d' F2 H2 m2 t2 r2 k2 =>
    s3 σ F2 H2 s m2 _ _ t2.le ((en.stm t1).stm t2) k2 (((L.x en).after t1).after t2) _ fun y j F3 H3 m3 t3 r3 k3 => ?_⟩
  obtain ⟨p, ds, rfl, hm, k3⟩ := onL_of k3
  cases j with
  | int n =>
    obtain ⟨t, hn, k3⟩ := onO_of k3
    · obtain ⟨_, ys, e', rl⟩ := t3.mr p _ hm
      have st := (t1.trans t2).trans t3
      have sp := StM.put (o := .lst (ys.set t v)) t3.le t3.mr hm rfl (u := .lst (ds.set t d)) ⟨_, upd_same, rl.set (r1.mono (t2.gr.trans t3.gr)) t⟩
      exact ⟨p, ys, n, t, r2.refI, r3.intI, e', by rw [rl.len]; exact hn, L.nx σ s F3 _ _ (st.trans sp) (en.stm (st.trans sp)) k3⟩
  | _ => exact k3.elim
@[reducible] def vDelIx (o i : VE) : VS := fun s m G => o s m (fun d m1 => i s m1 (fun j m2 => onL m2 d fun p ds => match j with
  | .int n => -(2 ^ 63) ≤ n ∧ n < 2 ^ 63 ∧ ∃ t, seqIndex? n ds.length = some t ∧ G.nx s (mset m2 p (.lst (ds.eraseIdx t)))
  | _ => False) fun e m' => G.ex e s m') fun e m' => G.ex e s m'
/-! ### unpacking a list -/
def gUl (n : Nat) (r : VGs) : VG
  | .lst ds, s, k => ds.length = n ∧ r ds s k
  | .lat _ ds, s, k => ds.length = n ∧ r ds s k
  | _, _, _ => False
theorem jg_unl {es : List Expr} {k n : Nat} {js : List Nat} {vgs : VGs} {pos : Pos} (hc : X.calm = true) (h : JGs X es js vgs) (hn : (assignEach es X.env).length = n := by rfl) (hst : (assignEach es X.env).findIdx? (·.1) = none := by rfl) : JG X (.Tuple es k pos) js (gUl n vgs) := by
  obtain ⟨g, p, s1⟩ := h
  refine ⟨_, pg_unl hc p hn hst, fun u σ F H d s m k l en r h Q q => ?_⟩
  cases d with
  | lst ds =>
    obtain ⟨a, xs, rfl, sq, rl⟩ := r.lstI
    exact ⟨a, xs, rfl, SqL.of (l.lst sq), by rw [rl.len]; exact h.1, s1 xs σ F H ds s m k l en rl h.2 Q q⟩
  | lat a ds =>
    obtain ⟨xs, rfl, sq, rl⟩ := r.latI
    exact ⟨a, xs, rfl, l.sql sq, by rw [rl.len]; exact h.1, s1 xs σ F H ds s m k l en rl h.2 Q q⟩
  | _ => exact h.elim
end
/-! ### the law's own end -/
abbrev endLaw : DE := { nx := fun _ _ => False, rt := fun d _ => d = .bl true }
section
variable {P : Program} {w : World} {K : PySem.W.Frag} {mg : Str → Option Value} {base : Heap} {x qual : Str} {params : Arguments} {body : List Stmt} {scope : Scope} {dvs : List V} {kws : List (Str × V)} {f : Addr} {fd : FuncData}
end
end Ts
namespace Ts
open PySem PySem.Spec PyProof.Rows L2
section
variable {K : PySem.W.Frag} {mg : Str → Option Value} {X : Cx} {W : WX}
theorem js_par {i j : Nat} {x y : Str} {a b : Expr} {va : VA} {px py pt pos : Pos} {kt k2 pt2} (hc : X.calm = true) (hN : X.N.Nodup) (hi : X.N[i]? = some x) (hj : X.N[j]? = some y) (hij : i ≠ j)
    (hx : X.env.scope.names.lookup x = some .local) (hy : X.env.scope.names.lookup y = some .local) (ha : JA X W [a, b] va)
    (hw : swappedStores [.Tuple [.Name x px, .Name y py] kt pt] (.Tuple [a, b] k2 pt2) X.env = pure (some [x, y]))
    (hs : swapsWithSole [.Tuple [.Name x px, .Name y py] kt pt] (.Tuple [a, b] k2 pt2) pos.line X.env = pure false := by rfl) :
    JS X W (.Assign [.Tuple [.Name x px, .Name y py] kt pt] (.Tuple [a, b] k2 pt2) pos) (vPar i j va) := by
  obtain ⟨ta, p1, s1⟩ := ha
  exact ⟨_, ps_par hc hN hi hj hij hx hy p1 hw hs, SndS.par s1⟩
@[reducible] def vPar3 (i j l : Nat) (a : VA) : VS := fun s m G => a s m (fun ds m' => match ds with
  | [d, e, f] => G.nx (((s.set i (some d)).set j (some e)).set l (some f)) m'
  | _ => False) fun e m' => G.ex e s m'
/-! constants of the module -/
/-! x op= e -/
def oIadd : O2
  | .int i, .int j, m, k => k (.int (i + j)) m
  | .str a, .str b, m, k => a.length + b.length ≤ 1000000 ∧ k (.str (a ++ b)) m
  | _, _, _, _ => False
end
theorem atI_0 {α : Type} {a : α} {l : List α} : atI (a :: l) 0 = some a := atI_nat (j := 0) rfl
theorem atI_1 {α : Type} {a b : α} {l : List α} : atI (a :: b :: l) 1 = some b := atI_nat (j := 1) rfl
theorem atI_2 {α : Type} {a b c : α} {l : List α} : atI (a :: b :: c :: l) 2 = some c := atI_nat (j := 2) rfl
theorem atI_3 {α : Type} {a b c d : α} {l : List α} : atI (a :: b :: c :: d :: l) 3 = some d := atI_nat (j := 3) rfl
theorem ixN_k {n j : Nat} (hj : j < n) : ixN n (j : Int) = some j := by
  unfold ixN
  rw [if_pos (Int.natCast_nonneg j), if_pos (Int.ofNat_lt.mpr hj), Int.toNat_natCast]
theorem ixN_0 {n : Nat} : ixN (n + 1) 0 = some 0 := ixN_k (j := 0) (by omega)
theorem ixN_1 {n : Nat} : ixN (n + 2) 1 = some 1 := ixN_k (j := 1) (by omega)
theorem ixN_2 {n : Nat} : ixN (n + 3) 2 = some 2 := ixN_k (j := 2) (by omega)
theorem ixN_3 {n : Nat} : ixN (n + 4) 3 = some 3 := ixN_k (j := 3) (by omega)
theorem mset_twice {m : Mem} {a : Addr} {x y : MO} : mset (mset m a x) a y = mset m a y := by
  funext b
  by_cases h : b = a
  · subst h; rw [mset_same, mset_same]
  · rw [mset_ne h, mset_ne h, mset_ne h]
theorem atI_of {α : Type} {xs : List α} {z : Int} {j : Nat} {v : α} (e : z = (j : Int)) (h : xs[j]? = some v) : atI xs z = some v := by
  subst e
  exact atI_nat h
theorem itP {p : Prop} [Decidable p] {A B : Prop} (h1 : p → A) (h2 : ¬ p → B) : if p then A else B := by
  by_cases h : p
  · rw [if_pos h]; exact h1 h
  · rw [if_neg h]; exact h2 h
theorem cmul_r {i j : Int} (h1 : -(2 ^ 64) < j) (h2 : j < 2 ^ 64) : MulOk i j := .inl (.inr ⟨h1, h2⟩)
theorem cmul_l {i j : Int} (h1 : -(2 ^ 64) < i) (h2 : i < 2 ^ 64) : MulOk i j := .inl (.inl ⟨h1, h2⟩)
theorem cmul_x {i j : Int} {a b : Nat} (ha : i.natAbs < 2 ^ a) (hb : j.natAbs < 2 ^ b) (h : a + b ≤ 134217728) : MulOk i j := .inr (mulx_ok ha hb h)
theorem fmod_nn {a b : Int} (hb : 0 < b) : 0 ≤ a.fmod b ∧ a.fmod b < b := by
  rw [Int.fmod_eq_emod_of_nonneg a (Int.le_of_lt hb)]
  exact ⟨Int.emod_nonneg _ (by omega), Int.emod_lt_of_pos _ hb⟩
theorem cmul_fm {c p j : Int} (h0 : 0 < p) (h : p ≤ 2 ^ 64) : MulOk (c.fmod p) j := cmul_l (Int.lt_of_lt_of_le (by decide) (fmod_nn h0).1) (Int.lt_of_lt_of_le (fmod_nn h0).2 h)
theorem div_sm {j : Int} (h0 : j ≠ 0) (h : j.natAbs < 2 ^ 64) : DivOk j := ⟨h0, Nat.lt_trans (PySem.Flt.log2_lt_of (by decide) h) (by decide)⟩
theorem log2_lt {n k : Nat} (h : n < 2 ^ k) (hk : 0 < k) : n.log2 < k := PySem.Flt.log2_lt_of hk h
theorem div_ok {j : Int} (h0 : j ≠ 0) (h : j.natAbs < 2 ^ 9000) : DivOk j := ⟨h0, log2_lt h (by decide)⟩
/-! ### loops by induction over what is walked -/
theorem forV_ind {b : D → VS} {G : DE} (I : List D → SL → Mem → Prop) (h0 : ∀ s m, I [] s m → G.nx s m)
    (hs : ∀ d ds s m, I (d :: ds) s m → (∀ s' m', I ds s' m' → forV b ds s' m' G) → b d s m { G with nx := fun s' m' => forV b ds s' m' G, ct := fun s' m' => forV b ds s' m' G, bk := G.nx }) :
    ∀ {ds : List D} {s : SL} {m : Mem}, I ds s m → forV b ds s m G
  | [], s, m, h => h0 s m h
  | d :: ds, s, m, h => hs d ds s m h fun s' m' h' => forV_ind I h0 hs h'
/-- .. over a list of things of a kind -/
theorem forV_map {α : Type} {f : α → D} {b : D → VS} {G : DE} (I : List α → SL → Mem → Prop) (h0 : ∀ s m, I [] s m → G.nx s m)
    (hs : ∀ a as s m, I (a :: as) s m → (∀ s' m', I as s' m' → forV b (as.map f) s' m' G) → b (f a) s m { G with nx := fun s' m' => forV b (as.map f) s' m' G, ct := fun s' m' => forV b (as.map f) s' m' G, bk := G.nx }) :
    ∀ {as : List α} {s : SL} {m : Mem}, I as s m → forV b (as.map f) s m G
  | [], s, m, h => h0 s m h
  | a :: as, s, m, h => hs a as s m h fun s' m' h' => forV_map I h0 hs h'
/-! ### comprehensions by induction -/
/-- .. with the step as it stands: what remains is at hand as a hypothesis -/
theorem lcV_map {α : Type} {f : α → D} {g : VG} {t : VT} {e : VE} {s : SL} {k : List D → Mem → Prop} (I : List α → List D → Mem → Prop) (h0 : ∀ acc m, I [] acc m → k acc m)
    (hs : ∀ a as acc m, I (a :: as) acc m → (∀ acc' m', I as acc' m' → lcV g t e s (as.map f) acc' m' k) → g (f a) s fun s1 => t s1 m (fun b m1 => if b = true then e s1 m1 (fun y m2 => lcV g t e s (as.map f) (acc ++ [y]) m2 k) nox else lcV g t e s (as.map f) acc m1 k) nox) :
    ∀ {as : List α} {acc : List D} {m : Mem}, I as acc m → lcV g t e s (as.map f) acc m k
  | [], acc, m, h => h0 acc m h
  | a :: as, acc, m, h => hs a as acc m h fun acc' m' h' => lcV_map I h0 hs h'
end Ts
/-! Ts: sets of texts, as far as len(sorted(set(texts))) goes -/
namespace Ts
open PySem PySem.Spec PyProof.Rows L2
/-- at a: a set that holds the texts l -/
structure TxS (P : Program) (w : World) (h : Heap) (a : Addr) (l : List Str) : Prop where
  ex : ∃ D : Froz.SD, h.get? a = some (Froz.sObj "set" D) ∧ Froz.TxOk P w D l ∧ L2.Ris D.2.2.place.toList ∧ (w.params.followText "set-order" = true ∨ D.2.2.led = true)
  nd : l.Nodup
theorem off_place {t : SetTable} : (if t.plain = true then { t with plain := false } else t).place = t.place ∧ (if t.plain = true then { t with plain := false } else t).led = t.led := by
  by_cases c : t.plain = true
  · rw [if_pos c]; exact ⟨rfl, rfl⟩
  · rw [if_neg c]; exact ⟨rfl, rfl⟩
theorem addTx_tab {D : Froz.SD} {h : Int} {v : Value} (r : L2.Ris D.2.2.place.toList) : L2.Ris (Froz.addTx h v D).2.2.place.toList ∧ (Froz.addTx h v D).2.2.led = D.2.2.led := by
  have e := off_place (t := (layNew D.2.2 D.1 h v).2.1)
  unfold Froz.addTx Froz.tailTx
  by_cases c : (!(layNew D.2.2 D.1 h v).2.2.1 && (if (layNew D.2.2 D.1 h v).2.1.plain = true then { (layNew D.2.2 D.1 h v).2.1 with plain := false } else (layNew D.2.2 D.1 h v).2.1).tooFull) = true
  · rw [if_pos c]
    exact ⟨L2.relayAll_ris _ _ _, (L2.relayAll_led _ _ _).trans (e.2.trans (L2.layNew_led _ _ _ _))⟩
  · rw [if_neg c]
    exact ⟨by rw [show (if (layNew D.2.2 D.1 h v).2.1.plain = true then { (layNew D.2.2 D.1 h v).2.1 with plain := false } else (layNew D.2.2 D.1 h v).2.1).place = _ from e.1]; exact L2.layNew_ris _ _ _ _ r, e.2.trans (L2.layNew_led _ _ _ _)⟩
section
variable {P : Program} {w : World} {A : Around} {E : Value → Shared → Prop} {s : Shared} {a : Addr} {l : List Str} {k : Str} {u : Tok}
theorem TxS.at {h h' : Heap} (T : TxS P w h a l) (g : ∀ o, h.get? a = some o → h'.get? a = some o) : TxS P w h' a l := by
  obtain ⟨⟨D, e, r⟩, nd⟩ := T
  exact ⟨⟨D, g _ e, r⟩, nd⟩
/-- one that is there already -/
theorem add_again {Q : Bool → Shared → Prop} (T : TxS P w s.heap a l) (hk : k ∈ l) (hb : l.length < scanBound) (h : Q false s) : wpAny (model P w) A (setAddHashed a (.str k u) (hashStr w k)) Q E s := by
  obtain ⟨⟨⟨es, ep, t⟩, ho, F, _⟩, _⟩ := T
  have key : (strKind P w).is k (.str k u) = true := Froz.is_str k u
  have el : ElemsOf (strKind P w) es.toList := F.el
  have z : es.size = l.length := F.sz
  obtain ⟨e, he, q⟩ := (F.mem k).mp hk
  unfold setAddHashed setAddHashedIn
  refine wpAny_holding (wpAny_bind (wpAny_setState_of ho rfl F.fit ?_))
  dsimp only
  rw [byScan_of rfl (by rw [z]; exact hb) el, if_pos rfl]
  unfold setAddByScan
  refine wpAny_bind (wpAny_bind (wpAny_rule (wpAny_bind (wpAny_setScan_of key ho rfl F.fit el ?_))))
  cases c : List.findIdx? (fun e => (strKind P w).is k e.2) es.toList with
  | none => exact absurd q (by rw [List.findIdx?_eq_none_iff.mp c e he]; exact Bool.false_ne_true)
  | some j => exact wpAny_pure (wpAny_pure h)
/-- the texts with one more -/
def more (l : List Str) (k : Str) : List Str := if k ∈ l then l else k :: l
theorem add_any {Q : Bool → Shared → Prop} (T : TxS P w s.heap a l) (hb : l.length + 1 < scanBound) (h : ∀ b h', Heap.SameBut a s.heap h' → TxS P w h' a (more l k) → Q b { s with heap := h' }) : wpAny (model P w) A (setAddHashed a (.str k u) (hashStr w k)) Q E s := by
  by_cases hk : k ∈ l
  · refine add_again T hk (by omega) (h _ s.heap (Heap.SameBut.refl a _) ?_)
    unfold more
    rw [if_pos hk]
    exact T
  · obtain ⟨⟨D, ho, F, r, o⟩, nd⟩ := T
    have tb := addTx_tab (h := hashStr w k) (v := .str k u) r
    refine Froz.add_x ho F hk hb (h _ _ (Heap.SameBut.update _ _ _) ?_)
    unfold more
    rw [if_neg hk]
    exact ⟨⟨_, Heap.get?_update_self _ ho rfl, Froz.add_ok u F, tb.1, o.imp id fun z => tb.2.trans z⟩, List.nodup_cons.mpr ⟨hk, nd⟩⟩
/-- the members of a walk's texts -/
def grown : List Str → List Str → List Str
  | l, [] => l
  | l, k :: r => grown (more l k) r
theorem more_mem {x : Str} : x ∈ more l k ↔ x = k ∨ x ∈ l := by
  unfold more
  split
  · rename_i c
    exact ⟨.inr, fun z => z.elim (fun e => e ▸ c) id⟩
  · exact List.mem_cons
theorem more_len : (more l k).length ≤ l.length + 1 := by
  unfold more
  split <;> simp
theorem grown_mem {x : Str} : ∀ {r l : List Str}, x ∈ grown l r ↔ x ∈ l ∨ x ∈ r
  | [], l => by simp [grown]
  | k :: r, l => by
    rw [grown, grown_mem, more_mem, List.mem_cons]
    constructor
    · rintro ((z | z) | z)
      · exact .inr (.inl z)
      · exact .inl z
      · exact .inr (.inr z)
    · rintro (z | z | z)
      · exact .inl (.inr z)
      · exact .inl (.inl z)
      · exact .inr z
/-- set.update's walk over texts -/
theorem upd_loop {I : Addr} {fp wr : List Addr} {G : Array GenState → Array GenState → Prop} {n : Nat} {Pv : Nat → Value → Prop} {St : Nat → Shared → Prop} {R : Result → Shared → Prop} (W : WalksS P w A.in1 I fp wr G n Pv St) (hf : a ∉ fp) (xs : List Str) (hn : n = xs.length)
    (hv : ∀ i v, Pv i v → ∃ x t, xs[i]? = some x ∧ v = .str x t) :
    ∀ (r : List Str) (i : Nat) (s : Shared) (l : List Str), xs.drop i = r → i ≤ n → l.length + r.length + 1 < scanBound → St i s → TxS P w s.heap a l → (∀ s', Moved (a :: wr) G s s' → TxS P w s'.heap a (grown l r) → R (.ok (.ret .none)) s') →
      codeAny (model P w) A (.builtin "set.update.loop" ⟨[.ref a, .ref I], []⟩) R s := by
  have nw : a ∉ wr := fun z => hf (W.sub _ z)
  have up : ∀ b ∈ wr, b ∈ a :: wr := fun b z => .tail _ z
  intro r
  induction r with
  | nil =>
    intro i s l hd hi _ st T fin
    have : i = n := by
      have := List.drop_eq_nil_iff.mp hd
      omega
    subst this
    refine codeAny_builtin F.entry_set_update_loop ?_
    rw [Around.under_plainId F.plain_set_update_loop _]
    exact wpAny_bind (W.done s _ _ st fun s' mv => wpAny_pure (fin s' (mv.mono up) (T.at fun o e => mv.heap a o nw e)))
  | cons x r ih =>
    intro i s l hd hi hb st T fin
    have lt : i < n := by
      rcases Nat.lt_or_ge i n with z | z
      · exact z
      · rw [List.drop_eq_nil_iff.mpr (by omega)] at hd; cases hd
    have hx : xs[i]? = some x := by
      have q := List.getElem?_drop (xs := xs) (i := i) (j := 0)
      rw [hd] at q
      simpa using q.symm
    have hd' : xs.drop (i + 1) = r := by rw [← List.tail_drop, hd] <;> rfl
    refine codeAny_builtin F.entry_set_update_loop ?_
    rw [Around.under_plainId F.plain_set_update_loop _]
    refine wpAny_bind (W.item i s _ _ lt st fun v s1 pv st1 mv => ?_)
    obtain ⟨y, t, hy, rfl⟩ := hv i v pv
    rw [hx] at hy
    cases hy
    have T1 : TxS P w s1.heap a l := T.at fun o e => mv.heap a o nw e
    refine wpAny_bind (wpAny_holding ?_)
    unfold setAdd
    refine wpAny_holding (wpAny_bind ((strKind P w).pyHash (k := x) (Froz.is_str x t) ?_))
    refine add_any (s := { s1 with toks := s1.toks + 1 }) T1 (by simp only [List.length_cons] at hb; omega) fun b h' sb T2 => ?_
    refine wpAny_pure ⟨plainId_quiet F.plain_set_update_loop _, ih (i + 1) _ (more l x) hd' lt (by have := more_len (l := l) (k := x); simp only [List.length_cons] at hb; omega) (W.frame _ s1 _ _ st1 (Nat.le_succ _) fun c hc o e => ?_) T2 fun s2 mv2 T3 => fin s2 (Moved.trans W.gtrans ((mv.mono up).then_heap (Nat.le_succ _) fun c o hc e => ?_) mv2) T3⟩
    · rw [sb.2 c fun z => hf (z ▸ hc)]; exact e
    · rw [sb.2 c fun z => hc (z ▸ List.mem_cons_self)]; exact e
theorem strs_len : ∀ {us : List Value} {xs : List Str}, StrsAre us xs → us.length = xs.length
  | _, _, .nil => rfl
  | _, _, .cons _ _ t => congrArg Nat.succ (strs_len t)
theorem strs_get : ∀ {us : List Value} {xs : List Str} {i : Nat} {v : Value}, StrsAre us xs → us[i]? = some v → ∃ k t, xs[i]? = some k ∧ v = .str k t
  | _, _, _, _, .nil, h => by simp at h
  | _, _, 0, _, .cons x k _, h => by simp at h; subst h; exact ⟨x, k, rfl, rfl⟩
  | _, _, i + 1, _, .cons _ _ t, h => by
    obtain ⟨k, t', h1, h2⟩ := strs_get (i := i) t (by simpa using h)
    exact ⟨k, t', by simpa using h1, h2⟩
abbrev set0 (w : World) : Obj := { cls := .type "set", dict := none, data := .set #[] 0 (.fresh 0 0 (!w.params.followText "set-order")) }
theorem set0_ok {h : Heap} {a : Addr} (e : h.get? a = some (set0 w)) : TxS P w h a [] := by
  refine ⟨⟨(#[], 0, .fresh 0 0 (!w.params.followText "set-order")), e, Froz.TxOk.nil rfl, .nil, ?_⟩, .nil⟩
  cases w.params.followText "set-order"
  · exact .inr rfl
  · exact .inl rfl
/-- set(x): the empty one, then its __init__ -/
theorem set_one {x : Value} {Q : Value → Shared → Prop}
    (h : wpAny (model P w) A.in1.in1 (Builtin.«set.__init__» ⟨[.ref s.heap.objs.size, x], []⟩)
      (fun fin s' => match fin with
        | .done f => wants (fun r s2 => r = .none ∧ Q (.ref s.heap.objs.size) s2) E (.ok f) s'
        | .again c => c.quiet = true ∧ codeAny (model P w) A.in1 c (wants (fun r s2 => r = .none ∧ Q (.ref s.heap.objs.size) s2) E) s')
      (fun e s' => wants (fun r s2 => r = .none ∧ Q (.ref s.heap.objs.size) s2) E (.error e) s') { s with heap := s.heap.push (set0 w) }) :
    wpAny (model P w) A (call (.type "set") [x]) Q E s := by
  have T := F.called_set
  have m := T.mro
  have m1 := T.made; have m2 := T.sub; have m3 := T.notType; have m4 := T.canCreate; have m5 := F.typeCall_set_1 x
  obtain ⟨_, _, m6⟩ := m
  have tIs : Shared.TypeIs { s with heap := s.heap.push (set0 w) } (.ref s.heap.objs.size) "set" := ⟨_, Heap.get?_push_size _ rfl, rfl⟩
  refine wpAny_call (codeAny_of_tree (wpAny_pure ⟨Code.quiet_builtin _ (by decide +kernel), codeAny_builtin F.entry_type_call ?_⟩))
  rw [Around.under_plain (weight_type_call_type "set" [x] []) rfl]
  repeat (any_goals (first | assumption | wp_step))
  refine codeAny_mono (L2.code_set_led1 x (E := E) (Q₁ := fun o s1 => o = .ref s.heap.objs.size ∧ s1 = { s with heap := s.heap.push (set0 w) }) ⟨rfl, rfl⟩) fun r s1 hr => ?_
  match r, hr with
  | .error e, hr => exact hr
  | .ok (.ret o1), hr =>
    obtain ⟨rfl, rfl⟩ := hr
    have n1 := T.init.lookup
    have n2 := T.init.bind (.ref s.heap.objs.size)
    repeat (any_goals (first | assumption | wp_step))
    refine codeAny_mono (codeAny_call_builtin T.init.plain F.entry_set_init (check_set_init_1 tIs h)) fun r2 s2 hr2 => ?_
    match r2, hr2 with
    | .error e, hr2 => exact hr2
    | .ok (.ret o2), hr2 =>
      obtain ⟨rfl, q⟩ := hr2
      repeat (any_goals (first | assumption | wp_step))
    | .ok .next, hr2 => exact hr2.elim
    | .ok .brk, hr2 => exact hr2.elim
    | .ok .cont, hr2 => exact hr2.elim
  | .ok .next, hr => exact hr.elim
  | .ok .brk, hr => exact hr.elim
  | .ok .cont, hr => exact hr.elim
/-- set(xs), xs a list of texts -/
theorem set_texts {p : Addr} {its : Array Value} {xs : List Str} {Q : Value → Shared → Prop} (hh : A.handled = none) (hl : s.heap.IsList p its) (hx : StrsAre its.toList xs) (hb : xs.length + 1 < scanBound)
    (h : ∀ h' tk, (∀ b o, s.heap.get? b = some o → h'.get? b = some o) → TxS P w h' s.heap.objs.size (grown [] xs) → Q (.ref s.heap.objs.size) { s with heap := h', toks := tk }) : wpAny (model P w) A (call (.type "set") [.ref p]) Q E s := by
  refine set_one ?_
  obtain ⟨⟨oc, od, odt, osl⟩, ho, hc, c, hd⟩ := hl
  dsimp only at hc hd
  subst hc hd
  have ho' : (s.heap.push (set0 w)).get? p = some { cls := .type "list", dict := od, data := .seq its c, slots := osl } := Heap.get?_push_of_some _ ho
  have L1 : (s.heap.push (set0 w)).IsList p its := ⟨_, ho', rfl, c, rfl⟩
  have f1 := F.sub_list_set
  have f2 := F.sub_list_frozenset
  have f3 : (Value.type "list" == Value.type "dict") = false := by decide
  unfold Builtin.«set.__init__» noKeywords Builtin.Frozenset.updateFrom
  generalize hPI : pyIter = PI
  wp_walk
  subst hPI
  have pl : p < s.heap.objs.size := Heap.lt_size ho
  have z1 : (s.heap.push (set0 w)).objs.size = s.heap.objs.size + 1 := Heap.size_push ..
  refine wpAny_pyIter_list L1 (wpAny_bind (wpAny_runValue ?_))
  refine upd_loop (a := s.heap.objs.size) ((Walks.list (by simp [hh]) _ p (by rw [z1]; exact Nat.ne_of_lt (Nat.lt_succ_of_lt pl)) its).toS) (by rw [z1]; simp only [List.mem_cons, List.not_mem_nil, or_false, not_or]; exact ⟨Nat.ne_of_lt (Nat.lt_succ_self _), Nat.ne_of_gt pl⟩) xs ?_ (fun i v e => strs_get hx (by rw [Array.getElem?_toList]; exact e)) xs 0 _ [] rfl (Nat.zero_le _) (by simpa using hb) ⟨⟨_, Heap.get?_push_size _ rfl, rfl, rfl⟩, L1.push _⟩ (set0_ok (Heap.get?_push_of_some _ (Heap.get?_push_size _ rfl))) ?_
  · have q := strs_len hx
    rw [Array.length_toList] at q
    exact q
  · rintro ⟨h2, g2, d2, t2, o2⟩ mv T
    obtain rfl : g2 = s.gens := mv.gens
    obtain rfl : d2 = s.drawn := mv.drawn
    obtain rfl : o2 = s.os := mv.os
    refine wpAny_pure (wpAny_pure ⟨rfl, h h2 t2 (fun b o e => ?_) T⟩)
    have hb0 : b < s.heap.objs.size := Heap.lt_size e
    exact mv.heap b o (by rw [z1]; simp only [List.mem_cons, List.not_mem_nil, or_false, not_or]; exact ⟨Nat.ne_of_lt hb0, Nat.ne_of_lt (Nat.lt_succ_of_lt hb0)⟩) (Heap.get?_push_of_some _ (Heap.get?_push_of_some _ e))
theorem nd_len : ∀ (l xs : List Str), l.Nodup → (∀ k ∈ l, k ∈ xs) → l.length ≤ xs.length
  | [], _, _, _ => Nat.zero_le _
  | x :: l, xs, nd, h => by
    obtain ⟨n1, n2⟩ := List.nodup_cons.mp nd
    have hx := h x List.mem_cons_self
    have q := nd_len l (xs.erase x) n2 fun k hk => (List.mem_erase_of_ne (show k ≠ x from fun z => n1 (by rw [← z]; exact hk))).mpr (h k (List.mem_cons_of_mem _ hk))
    rw [List.length_erase_of_mem hx] at q
    have := List.length_pos_of_mem hx
    simp only [List.length_cons]
    omega
theorem nodup_of : ∀ {xs l : List Str}, (∀ k, k ∈ xs ↔ k ∈ l) → xs.length = l.length → l.Nodup → xs.Nodup
  | [], _, _, _, _ => .nil
  | x :: r, l, h, e, nd => by
    have hl : x ∈ l := (h x).mp List.mem_cons_self
    have hx : x ∉ r := fun z => by
      have q := nd_len l r nd fun k hk => by
        rcases List.mem_cons.mp ((h k).mpr hk) with e' | e'
        · rw [e']; exact z
        · exact e'
      simp only [List.length_cons] at e
      omega
    refine List.nodup_cons.mpr ⟨hx, nodup_of (l := l.erase x) (fun k => ?_) ?_ (nd.erase x)⟩
    · rw [nd.mem_erase_iff]
      constructor
      · intro hk
        exact ⟨fun z => hx (z ▸ hk), (h k).mp (List.mem_cons_of_mem _ hk)⟩
      · rintro ⟨n, hk⟩
        rcases List.mem_cons.mp ((h k).mpr hk) with e' | e'
        · exact absurd e' n
        · exact e'
    · rw [List.length_erase_of_mem hl]
      simp only [List.length_cons] at e
      omega
/-- sorted(S), S a set of texts -/
theorem sorted_txs {Q : Value → Shared → Prop} (T : TxS P w s.heap a l) (hh : A.handled = none) (h64 : l.length < 64)
    (h : ∀ s' p (out : Array Value) c (ys : List Str), (∀ b o, s.heap.get? b = some o → s'.heap.get? b = some o) → s'.gens = s.gens → s'.os = s.os → s.heap.objs.size ≤ p → s'.heap.get? p = some (seqObj "list" out c) → StrsAre out.toList ys → ys.Nodup → (∀ k, k ∈ ys ↔ k ∈ l) → Q (.ref p) s') :
    wpAny (model P w) A (call (.builtin "sorted") [.ref a]) Q E s := by
  obtain ⟨⟨⟨es, ep, t⟩, ho, F, ri, o⟩, nd⟩ := T
  have z : es.size = l.length := F.sz
  have sb : es.size < scanBound := by rw [z]; exact Nat.lt_trans h64 (by decide)
  refine Calls.call_function_entry kind_sorted plain_sorted entry_sorted (args_sorted1 _) ?_
  unfold Builtin.«sorted»
  refine wpAny_bind (m := checkCount "sorted" 1 1 _) (wpAny_pure (wpAny_bind (L2.collect_set (A := A.in1) hh ⟨_, ho, rfl, rfl⟩ F.fit sb ri o fun s1 vs k1 z1 g1 o1 pm => ?_)))
  -- the texts of what was gathered
  have tx : ∀ v ∈ es.toList.map (·.2), ∃ k tk, v = Value.str k tk := fun v hv => by
    obtain ⟨e, he, rfl⟩ := List.mem_map.mp hv
    obtain ⟨⟨k, hk, _⟩, _⟩ := F.el e he
    obtain ⟨u, hu⟩ := Value.isStrOf_shape (x := k) (v := e.2) hk
    exact ⟨k, u, hu⟩
  have mk : ∀ vs : List Value, (∀ v ∈ vs, ∃ k tk, v = Value.str k tk) → ∃ xs, StrsAre vs xs := by
    intro vs
    induction vs with
    | nil => exact fun _ => ⟨[], .nil⟩
    | cons v vs ih =>
      intro q
      obtain ⟨k, tk, rfl⟩ := q v List.mem_cons_self
      obtain ⟨xs, hx⟩ := ih fun u hu => q u (List.mem_cons_of_mem _ hu)
      exact ⟨k :: xs, .cons k tk hx⟩
  have mem : ∀ {vs : List Value} {xs : List Str} {k : Str}, StrsAre vs xs → (k ∈ xs ↔ ∃ tk, Value.str k tk ∈ vs) := by
    intro vs xs k hx
    induction hx with
    | nil => simp
    | cons x tk t ih =>
      rw [List.mem_cons, ih]
      constructor
      · rintro (rfl | ⟨t', h'⟩)
        · exact ⟨tk, List.mem_cons_self⟩
        · exact ⟨t', List.mem_cons_of_mem _ h'⟩
      · rintro ⟨t', h'⟩
        rcases List.mem_cons.mp h' with e | e
        · cases e; exact .inl rfl
        · exact .inr ⟨t', e⟩
  obtain ⟨xs, hx⟩ := mk vs fun v hv => tx v (pm.mem_iff.mp hv)
  have ml : ∀ k, k ∈ xs ↔ k ∈ l := fun k => by
    rw [mem hx, F.mem k]
    constructor
    · rintro ⟨tk, q⟩
      obtain ⟨e, he, q⟩ := List.mem_map.mp (pm.mem_iff.mp q)
      exact ⟨e, he, by rw [q]; exact Froz.is_str k tk⟩
    · rintro ⟨e, he, q⟩
      obtain ⟨u, hu⟩ := Value.isStrOf_shape (x := k) (v := e.2) q
      exact ⟨u, pm.mem_iff.mpr (List.mem_map.mpr ⟨e, he, hu⟩)⟩
  have lx : xs.length = l.length := by rw [← strs_len hx, pm.length_eq, List.length_map, Array.length_toList, z]
  have ndx : xs.Nodup := nodup_of ml lx nd
  have lv : vs.length < 64 := by rw [strs_len hx, lx]; exact h64
  refine wpAny_bind (wpAny_newList ?_ (by rw [sizeLine_eq]; omega))
  have oL : (s1.heap.push (seqObj "list" vs.toArray 0)).get? s1.heap.objs.size = some (seqObj "list" vs.toArray 0) := Heap.get?_push_size _ rfl
  refine wpAny_bind (wpAny_holding (wpAny_call_entry slot_list_sort ⟨_, oL, rfl⟩ entry_list_sort (list_sort_treeK strKind_oneLt oL hx.keysOf (fun v1 v2 r e => keyKind_strs (by rw [← e]; exact hx)) lv fun st hp hs => ⟨_, rfl, ?_⟩) (args_list_sort _)))
  obtain ⟨ys, y1, y2, _⟩ := sorted_out_str hx hp hs
  obtain ⟨c, hc⟩ := sortedHeap_at (vs := vs) (out := (arrOf st).map (·.2)) oL
  refine wpAny_pure ⟨_, rfl, h _ s1.heap.objs.size _ c ys (fun b u e => ?_) g1 o1 z1 hc y1 (y2.nodup_iff.mpr ndx) fun k => (y2.mem_iff).trans (ml k)⟩
  have e1 := k1 b u e
  have lt := Heap.lt_size e1
  show (sortedHeap (s1.heap.push (seqObj "list" vs.toArray 0)) s1.heap.objs.size vs ((arrOf st).map (·.2))).get? b = some u
  rw [sortedHeap_old (Nat.ne_of_lt lt) (by rw [Heap.size_push]; exact Nat.lt_succ_of_lt lt)]
  exact Heap.get?_push_of_some _ e1
end
/-! ### as rules -/
def TxO (P : Program) (w : World) (a : Addr) (l : List Str) : HO := .ext fun h => TxS P w h a l
def rSetT (X : Cx) : List V → Hp → VK → Prop := fun vs H Q => ∃ (a : Addr) (xs : List Str), vs = [.ref a] ∧ SqL X.K H a (xs.map V.str) ∧ xs.length ≤ 1000 ∧ ∀ p, H p = none → Q (.ref p) (upd H p (TxO X.prog X.w p (grown [] xs)))
def rSrtT (X : Cx) : List V → Hp → VK → Prop := fun vs H Q => ∃ (a : Addr) (l : List Str), vs = [.ref a] ∧ H a = some (TxO X.prog X.w a l) ∧ l.length < 64 ∧ ∀ (p : Addr) (ys : List Str), ys.Nodup → (∀ k, k ∈ ys ↔ k ∈ l) → H p = none → Q (.ref p) (upd H p (.lst (ys.map V.str)))
section
variable {X : Cx}
theorem cr_setT (hc : X.calm = true) : CallR X (.type "set") (rSetT X) := by
  intro pins s σ H vs us Q I r h
  obtain ⟨a, xs, rfl, hs, hl, q⟩ := h
  obtain ⟨its, rv, l, _⟩ := I.list hs
  rw [Vals.ref1 r]
  refine set_texts (I.ok.hd hc) l.isList rv.strs (Nat.lt_of_le_of_lt (Nat.succ_le_succ hl) (by decide)) fun h' tk k T => ?_
  have ok : ObjOk X.prog X.w (upd H s.heap.objs.size (TxO X.prog X.w s.heap.objs.size (grown [] xs))) h' s.heap.objs.size (TxO X.prog X.w s.heap.objs.size (grown [] xs)) :=
    ⟨T, (let ⟨_, e, _⟩ := T.ex; ⟨_, e⟩), fun h1 h2 p k => TxS.at p k⟩
  exact ⟨.ref _, _, I.laid (t' := tk) k (Nat.le_refl _) ok, rfl, q _ (I.hok.fresh (Nat.le_refl _))⟩
theorem cr_srtT (hc : X.calm = true) : CallR X (.builtin "sorted") (rSrtT X) := by
  intro pins s σ H vs us Q I r h
  obtain ⟨a, l, rfl, ha, h64, q⟩ := h
  have T : TxS X.prog X.w s.heap a l := (I.hok a _ ha).1
  rw [Vals.ref1 r]
  refine sorted_txs T (I.ok.hd hc) h64 fun s' p out c ys k g o hp hg hi nd ml => ?_
  have n := I.hok.fresh hp
  have len : (ys.map V.str).length ≤ sizeLine := by
    rw [List.length_map, sizeLine_eq]
    have := nd_len ys l nd fun k hk => (ml k).mp hk
    omega
  have J : Inv X pins σ (upd H p (.lst (ys.map V.str))) { s with heap := s'.heap, gens := s'.gens, drawn := s'.drawn, toks := s'.toks } :=
    I.call (ch := []) (Un.laid k hp n) (I.hok.laid k hp ⟨len, out.toList, c, vals_of_strs hi, hg⟩) (by rw [g]; exact I.bare) (fun _ z => nomatch z)
  obtain ⟨h2, g2, d2, t2, o2⟩ := s'
  obtain rfl : o2 = s.os := o
  exact ⟨.ref p, _, J, rfl, q p ys nd ml n⟩
end
end Ts
namespace Ts
open PySem PySem.Spec PyProof.Rows L2
/-! ### texts -/
abbrev S (l : List Nat) : Str := SX.S l
theorem S_len (l : List Nat) : (S l).length = l.length := SX.S_len l
theorem S_app (a b : List Nat) : S a ++ S b = S (a ++ b) := str_ext (by
  show ((S a).cps ++ (S b).cps).toList = _
  simp)
theorem S_inj {a b : List Nat} (h : S a = S b) : a = b := by
  have := congrArg (fun z : Str => z.cps.toList) h
  simpa using this
theorem S_of (z : Str) : ∃ l, z = S l := ⟨z.cps.toList, by obtain ⟨⟨l⟩⟩ := z; rfl⟩
theorem cutS_S (l : List Nat) (lo hi : Option Int) : cutS (S l) lo hi = S (cutD l lo hi) := by
  unfold cutS cutD
  rw [S_len]
theorem repS_S (l : List Nat) (n : Nat) : repS (S l) n = S (List.replicate n l).flatten := rfl
theorem join_S (a : List Nat) (ys : List (List Nat)) : Txt.join (S a) (ys.map S) = S (TL.joinL a ys) := SX.join_S a ys
theorem S1 (c : Nat) : (⟨#[c]⟩ : Str) = S [c] := rfl
/-- a text in a text -/
def inS (i j : Str) : Bool := !(Builtin.Str.occurrences j i 0 j.length 1).isEmpty
/-- flat data -/
def flD : D → Option V
  | .non => some .non
  | .bl b => some (.bl b)
  | .int i => some (.int i)
  | .str z => some (.str z)
  | _ => none
def flDs : List D → Option (List V)
  | [] => some []
  | d :: ds => match flD d, flDs ds with
    | some v, some vs => some (v :: vs)
    | _, _ => none
def strD : D → Option Str
  | .str z => some z
  | _ => none
def strDs : List D → Option (List Str)
  | [] => some []
  | d :: ds => match strD d, strDs ds with
    | some v, some vs => some (v :: vs)
    | _, _ => none
def intDs : List D → Option (List Int)
  | [] => some []
  | .int i :: ds => (intDs ds).map (i :: ·)
  | _ :: _ => none
theorem strDs_map : ∀ xs : List Str, strDs (xs.map D.str) = some xs
  | [] => rfl
  | x :: xs => by simp only [List.map_cons, strDs, strD, strDs_map xs]
theorem intDs_map : ∀ xs : List Int, intDs (xs.map D.int) = some xs
  | [] => rfl
  | x :: xs => by simp only [List.map_cons, intDs, intDs_map xs, Option.map_some]
theorem flDs_str : ∀ xs : List Str, flDs (xs.map D.str) = some (xs.map V.str)
  | [] => rfl
  | x :: xs => by simp only [List.map_cons, flDs, flD, flDs_str xs]
theorem flDs_int : ∀ xs : List Int, flDs (xs.map D.int) = some (xs.map V.int)
  | [] => rfl
  | x :: xs => by simp only [List.map_cons, flDs, flD, flDs_int xs]
section
variable {K : PySem.W.Frag} {mg : Str → Option Value} {X : Cx} {W : WX} {F H : Hp}
theorem strDs_eq : ∀ {ds : List D} {xs : List Str}, strDs ds = some xs → ds = xs.map D.str
  | [], xs, h => by simp only [strDs] at h; cases h; rfl
  | d :: ds, xs, h => by
    simp only [strDs] at h
    split at h
    · rename_i v vs' h1 h2
      cases h
      unfold strD at h1
      split at h1
      · cases h1; rw [strDs_eq h2]; rfl
      · cases h1
    · cases h
theorem RpL.strsV : ∀ {xs : List V} {ys : List Str}, RpL K mg F xs (ys.map D.str) → xs = ys.map V.str
  | _, [], .nil => rfl
  | _, n :: ns, .cons r s => by rw [r.strI, RpL.strsV s]; rfl
/-! in -/
def oInS : O2
  | .str i, .str j, m, k => k (.bl (inS i j)) m
  | _, _, _, _ => False
def oNotInS : O2
  | .str i, .str j, m, k => k (.bl (!inS i j)) m
  | _, _, _, _ => False
/-- in a list or a tuple of flat things -/
def oInL : O2 := fun x y m k => onO (flD x) fun v => onO (itemsOf m y) fun ds => onO (flDs ds) fun vs => k (.bl (inV v vs)) m
def oNotInL : O2 := fun x y m k => onO (flD x) fun v => onO (itemsOf m y) fun ds => onO (flDs ds) fun vs => k (.bl (!inV v vs)) m
/-! sep.join(texts) -/
def onS : D → (Str → Prop) → Prop
  | .str z, k => k z
  | _, _ => False
theorem onS_of {d : D} {k : Str → Prop} (h : onS d k) : ∃ z, d = .str z ∧ k z := by
  unfold onS at h
  split at h
  · exact ⟨_, rfl, h⟩
  · exact h.elim
def oJoin (sep : Str) (d : D) (m : Mem) (k : KD) : Prop := onO (itemsOf m d) fun ds => onO (strDs ds) fun ys => (ys.map (·.length)).sum + ys.length * sep.length ≤ 1000000 ∧ k (.str (Txt.join sep ys)) m
@[reducible] def vJoin (a b : VE) : VE := fun s m k x => a s m (fun d m1 => onS d fun sep => b s m1 (fun e m2 => oJoin sep e m2 k) x) x
theorem je_join {o e : Expr} {vo ve : VE} {apos pos : Pos} (ho : JE X W o vo) (he : JE X W e ve) (hs : starEach [e] X.env = [(false, eval e X.env)] := by rfl) (hbase : attributeBase o "join" X.env (eval o X.env) = eval o X.env := by rfl) (hline : (apos.endLine == pos.line) = true := by rfl) :
    JE X W (.Call (.Attribute o "join" apos) [e] [] pos) (vJoin vo ve) := by
  obtain ⟨to, p1, s1⟩ := ho; obtain ⟨te, p2, s2⟩ := he
  refine ⟨_, pe_join p1 p2 hs hbase hline, fun σ F H s m k x l en hv hx Q q => s1 σ F H s m _ x l en hv hx _ fun u d F1 H1 m1 t1 r1 k1 => ?_⟩
  obtain ⟨sep, rfl, k1⟩ := onS_of k1
  refine ⟨⟨sep, r1.strI⟩, s2 σ F1 H1 s m1 _ x t1.le (en.stm t1) k1 (hx.after t1) _ fun w e F2 H2 m2 t2 r2 k2 => ?_⟩
  obtain ⟨ds, h1, k2⟩ := onO_of k2
  obtain ⟨ys, h2, hz, k3⟩ := onO_of k2
  clear k2
  obtain rfl := strDs_eq h2
  obtain ⟨p, us, rfl, sp, rp⟩ := r2.items t2.le t2.mr h1
  obtain rfl := rp.strsV
  exact ⟨sep, p, ys, r1.strI, rfl, sp, Nat.le_trans hz (by decide), q _ _ F2 H2 m2 (t1.trans t2) (.str _) k3⟩
/-! sorted(texts), sorted(ints) -/
def oSortS : OA := fun ds m k => match ds with
  | [d] => onO (asL m d) fun ds => onO (strDs ds) fun xs => xs.length < 64 ∧ ∀ ys : List Str, ys.Perm xs → sortedS ys = true → k (.lst (ys.map D.str)) m
  | _ => False
def oSortI : OA := fun ds m k => match ds with
  | [d] => onO (asL m d) fun ds => onO (intDs ds) fun xs => ∀ ys : List Int, ys.Perm xs → ys.Pairwise (· ≤ ·) → k (.lst (ys.map D.int)) m
  | _ => False
theorem jo_sortS : JOA X (.builtin "sorted") oSortS := ⟨_, cr_sortedS, fun F H m xs us k l mr r h Q q => by
  unfold oSortS at h
  split at h
  · obtain ⟨u, rfl, a⟩ := r.one
    obtain ⟨ds, h1, h⟩ := onO_of h
    obtain ⟨ys, h2, hz, h'⟩ := onO_of h
    clear h
    obtain rfl := strDs_eq h2
    obtain ⟨p, vs, rfl, sp, rp⟩ := a.asL l mr h1
    obtain rfl := rp.strsV
    refine ⟨p, ys, rfl, sp, hz, fun zs n hp hs hn => ?_⟩
    have st := Step.new (F := F) (o := .lst (zs.map V.str)) l hn
    exact q _ _ _ _ m (st.stm mr) (.lst upd_same (RpL.strs zs)) (h' zs hp hs)
  · exact h.elim⟩
/-! len(sorted(set(texts))) -/
def tLs (K : PySem.W.Frag) (ta : TE) : TE := fun σ H Q => ta σ H fun v H1 => ∃ (a : Addr) (xs : List Str), v = .ref a ∧ SqL K H1 a (xs.map V.str) ∧ xs.length < 64 ∧ ∀ (ns : List Str) H2, ns.Nodup → (∀ z, z ∈ ns ↔ z ∈ xs) → (∃ p p2 o o2, H1 p = none ∧ upd H1 p o p2 = none ∧ H2 = upd (upd H1 p o) p2 o2) → Q (.int ns.length) H2
theorem grown_len : ∀ {r l : List Str}, (grown l r).length ≤ l.length + r.length
  | [], _ => Nat.le_refl _
  | x :: r, l => by
    have h1 := grown_len (r := r) (l := more l x)
    have h2 := more_len (l := l) (k := x)
    show (grown (more l x) r).length ≤ _
    simp only [List.length_cons]
    omega
/-- a reading, made monotone -/
def clo (t : TE) : TE := fun σ H Q => ∃ Q0 : VK, t σ H Q0 ∧ ∀ v H', Q0 v H' → Q v H'
theorem pe_clo {a : Expr} {ta : TE} (h : PE X a ta) : PE X a (clo ta) := ⟨fun pins s σ H Q I ⟨Q0, q0, m⟩ => wpAny_mono (h.run pins s σ H Q0 I q0) (fun u s' ⟨v, H', I', r, q⟩ => ⟨v, H', I', r, m v H' q⟩) fun _ _ z => z⟩
theorem pe_weak {a : Expr} {ta t : TE} (h : PE X a t) (w : ∀ σ H Q, ta σ H Q → t σ H Q) : PE X a ta := ⟨fun pins s σ H Q I q => h.run pins s σ H Q I (w σ H Q q)⟩
theorem pe_ls {a : Expr} {ta : TE} {p1 p2 p3 q1 q2 q3 : Pos} (hc : X.calm = true) (g1 : Gl X "len") (m1 : X.mg "len" = none) (g2 : Gl X "sorted") (m2 : X.mg "sorted" = none) (g3 : Gl X "set") (m3 : X.mg "set" = none) (ha : PE X a ta)
    (s3 : starEach [a] X.env = (false, eval a X.env) :: starEach [] X.env := by rfl) :
    PE X (.Call (.Name "len" p1) [.Call (.Name "sorted" p2) [.Call (.Name "set" p3) [a] [] q3] [] q2] [] q1) (tLs X.K ta) := by
  refine pe_weak (pe_callB call_len g1 m1 (by decide +kernel) (pa_cons (pe_callB (cr_srtT hc) g2 m2 (by decide +kernel) (pa_cons (pe_callTy (cr_setT hc) g3 m3 (by decide +kernel) (pa_cons (pe_clo ha) pa_nil (hs := s3)) (he := s3)) pa_nil)) pa_nil)) fun σ H Q h => ?_
  refine ⟨_, h, ?_⟩
  rintro v H1 ⟨a, xs, rfl, sq, hl, q⟩
  refine ⟨a, xs, rfl, sq, by omega, fun p hp => ?_⟩
  refine ⟨p, grown [] xs, rfl, upd_same, Nat.lt_of_le_of_lt (grown_len (r := xs) (l := [])) (by simpa using hl), fun p2 ys nd mem hp2 => ?_⟩
  refine ⟨_, _, rfl, .inl ⟨_, SqL.of upd_same, rfl⟩, ?_⟩
  rw [List.length_map]
  exact q ys _ nd (fun z => by rw [mem z, grown_mem]; simp) ⟨p, p2, _, _, hp, hp2, rfl⟩
@[reducible] def vLs (a : VE) : VE := fun s m k x => a s m (fun d m1 => onO (asL m1 d) fun ds => onO (strDs ds) fun xs => xs.length < 64 ∧ ∀ ns : List Str, ns.Nodup → (∀ z, z ∈ ns ↔ z ∈ xs) → k (.int (ns.length : Int)) m1) x
theorem je_ls {a : Expr} {va : VE} {p1 p2 p3 q1 q2 q3 : Pos} (hc : X.calm = true) (g1 : Gl X "len") (m1 : X.mg "len" = none) (g2 : Gl X "sorted") (m2 : X.mg "sorted" = none) (g3 : Gl X "set") (m3 : X.mg "set" = none) (ha : JE X W a va)
    (s3 : starEach [a] X.env = (false, eval a X.env) :: starEach [] X.env := by rfl) :
    JE X W (.Call (.Name "len" p1) [.Call (.Name "sorted" p2) [.Call (.Name "set" p3) [a] [] q3] [] q2] [] q1) (vLs va) := by
  obtain ⟨ta, p, s1⟩ := ha
  refine ⟨_, pe_ls hc g1 m1 g2 m2 g3 m3 p s3, fun σ F H s m k x l en hv hx Q q => s1 σ F H s m _ x l en hv hx _ fun u d F1 H1 m1 t1 r1 k1 => ?_⟩
  obtain ⟨ds, h1, k1⟩ := onO_of k1
  obtain ⟨ys, h2, hz, k2⟩ := onO_of k1
  clear k1
  obtain rfl := strDs_eq h2
  obtain ⟨p, vs, rfl, sp, rp⟩ := r1.asL t1.le t1.mr h1
  obtain rfl := rp.strsV
  refine ⟨p, ys, rfl, sp, hz, fun ns H2 nd mem ⟨a, b, o, o2, ha, hb, e⟩ => ?_⟩
  subst e
  have st1 : StM X.K X.mg m1 F1 H1 F1 (upd H1 a o) m1 := (StM.refl t1.le t1.mr).side ha (t1.le.none ha) (t1.mr.free ha)
  have st2 : StM X.K X.mg m1 F1 (upd H1 a o) F1 (upd (upd H1 a o) b o2) m1 := (StM.refl st1.le st1.mr).side hb (st1.le.none hb) (st1.mr.free hb)
  exact q _ _ F1 _ m1 (t1.trans (st1.trans st2)) (.int _) (k2 ns nd mem)
end
theorem its_tup {m : Mem} {ds : List D} : itemsOf m (.tup ds) = some ds := rfl
theorem its_pr {m : Mem} {ds : List D} : itemsOf m (.pr ds) = some ds := rfl
theorem its_lst {m : Mem} {ds : List D} : itemsOf m (.lst ds) = some ds := rfl
theorem its_lat {m : Mem} {a : Addr} {ds : List D} : itemsOf m (.lat a ds) = some ds := rfl
theorem asL_lst {m : Mem} {ds : List D} : asL m (.lst ds) = some ds := rfl
theorem asL_lat {m : Mem} {a : Addr} {ds : List D} : asL m (.lat a ds) = some ds := rfl
def lstO : Option MO → Option (List D)
  | some (.lst ds) => some ds
  | _ => none
theorem lstO_l {ds : List D} : lstO (some (.lst ds)) = some ds := rfl
theorem asL_rf {m : Mem} {p : Addr} : asL m (.ref p) = lstO (m p) := by
  unfold asL lstO
  rfl
theorem its_rf {m : Mem} {p : Addr} : itemsOf m (.ref p) = lstO (m p) := asL_rf
theorem MLe.fresh {m : Mem} {p : Addr} {o : MO} (h : m p = none) : MLe m (mset m p o) := fun a u e => by rw [mset_ne (fun z => by rw [z, h] at e; cases e)]; exact e
/-! ### comprehensions: what each item may come to -/
inductive Al2 {α β : Type} (R : α → β → Prop) : List α → List β → Prop
  | nil : Al2 R [] []
  | cons {a : α} {b : β} {as : List α} {bs : List β} : R a b → Al2 R as bs → Al2 R (a :: as) (b :: bs)
theorem Al2.len {α β : Type} {R : α → β → Prop} {as : List α} {bs : List β} (h : Al2 R as bs) : bs.length = as.length := by
  induction h with
  | nil => rfl
  | cons _ _ ih => simp [ih]
theorem Al2.mem {α β : Type} {R : α → β → Prop} {as : List α} {bs : List β} (h : Al2 R as bs) : ∀ b ∈ bs, ∃ a ∈ as, R a b := by
  induction h with
  | nil => intro b hb; cases hb
  | cons r _ ih =>
    intro b hb
    rcases List.mem_cons.mp hb with rfl | hb
    · exact ⟨_, List.mem_cons_self, r⟩
    · obtain ⟨a, ha, hr⟩ := ih b hb
      exact ⟨a, List.mem_cons_of_mem _ ha, hr⟩
theorem Al2.unmap {α β γ : Type} {R : α → β → Prop} {f : γ → β} (h : ∀ x y, R x y → ∃ c, y = f c) {as : List α} {bs : List β} (al : Al2 R as bs) : ∃ cs : List γ, bs = cs.map f := by
  induction al with
  | nil => exact ⟨[], rfl⟩
  | cons r _ ih =>
    obtain ⟨c, rfl⟩ := h _ _ r
    obtain ⟨cs, rfl⟩ := ih
    exact ⟨c :: cs, rfl⟩
/-- each item comes to something -/
theorem lc_rel {α : Type} {f : α → D} {g : VG} {t : VT} {e : VE} {s : SL} {m : Mem} {k : List D → Mem → Prop} (R : α → D → Prop) :
    ∀ (as : List α) (acc : List D), (∀ a ∈ as, ∀ (k' : KD) (kn : Mem → Prop), (∀ y, R a y → k' y m) → g (f a) s fun s1 => t s1 m (fun b m1 => if b = true then e s1 m1 k' nox else kn m1) nox) →
    (∀ ys : List D, Al2 R as ys → k (acc ++ ys) m) → lcV g t e s (as.map f) acc m k
  | [], acc, _, hk => by have := hk [] .nil; rw [List.append_nil] at this; exact this
  | a :: as, acc, hs, hk => hs a List.mem_cons_self _ _
      (fun y hy => lc_rel R as (acc ++ [y]) (fun b hb => hs b (List.mem_cons_of_mem _ hb)) fun os al => by
        have := hk (y :: os) (.cons hy al)
        rw [List.append_assoc]; exact this)
/-- .. to what is told -/
theorem lc_map {α : Type} {f h : α → D} {g : VG} {t : VT} {e : VE} {s : SL} {m : Mem} {k : List D → Mem → Prop} :
    ∀ (as : List α) (acc : List D), (∀ a ∈ as, ∀ (k' : KD) (kn : Mem → Prop), k' (h a) m → g (f a) s fun s1 => t s1 m (fun b m1 => if b = true then e s1 m1 k' nox else kn m1) nox) →
    k (acc ++ as.map h) m → lcV g t e s (as.map f) acc m k
  | [], acc, _, hk => by rw [List.map_nil, List.append_nil] at hk; exact hk
  | a :: as, acc, hs, hk => hs a List.mem_cons_self _ _ (lc_map as (acc ++ [h a]) (fun b hb => hs b (List.mem_cons_of_mem _ hb)) (by rw [List.append_assoc]; exact hk))
theorem frz_l {ds : List D} {k : D → Prop} : (MO.lst ds).onF k = k (.lst ds) := rfl
theorem strOk_S {l : List Nat} (h : ∀ c ∈ l, c < 256) : PyData.strOk (S l) = true := by
  unfold PyData.strOk
  rw [← Array.all_toList, List.all_eq_true]
  intro c hc
  have := h c (by simpa using hc)
  simp only [decide_eq_true_eq]
  omega
end Ts
namespace Ts
open PySem PySem.Spec PyProof.Rows L2
/-! ### str(x), f-strings -/
/-- an int as a text -/
def intS (i : Int) : Str := Str.ofString (toString i)
def oStr : OA
  | [.int i], m, k => i.natAbs.log2 < 1920 ∧ k (.str (intS i)) m
  | [.str z], m, k => k (.str z) m
  | _, _, _ => False
section
variable {K : PySem.W.Frag} {mg : Str → Option Value} {X : Cx} {W : WX} {F H : Hp}
def oFmt : D → (Str → Prop) → Prop
  | .str y, k => y.length ≤ 1000000 ∧ k y
  | .int i, k => i.natAbs.log2 < 1920 ∧ k (intS i)
  | _, _ => False
@[reducible] def vFmt (a : VE) : VE := fun s m k x => a s m (fun d m1 => oFmt d fun z => k (.str z) m1) x
/-- the parts one behind the other -/
def vJs : List VE → Str → SL → Mem → (Str → Mem → Prop) → KX → Prop
  | [], acc, _, m, k, _ => k acc m
  | v :: vs, acc, s, m, k, x => v s m (fun d m1 => onS d fun y => (acc ++ y).length ≤ 1000000 ∧ vJs vs (acc ++ y) s m1 k x) x
inductive JJ (X : Cx) (W : WX) : List Expr → List VE → Prop
  | nil : JJ X W [] []
  | cons {e : Expr} {v : VE} {es : List Expr} {vs : List VE} : JE X W e v → JJ X W es vs → JJ X W (e :: es) (v :: vs)
theorem JJ.run {es : List Expr} {vs : List VE} (h : JJ X W es vs) : ∃ ts, PJ X es ts ∧ ∀ (acc : Str) (σ : L2.St) (F H : Hp) (s : SL) (m : Mem) (k : Str → Mem → Prop) (x : KX), Le F H → EnvR X.K X.mg F H σ s m → vJs vs acc s m k x → XOk X.K X.mg W σ F H m x → ∀ Q : Str → Hp → Prop,
    (∀ z F' H' m', StM X.K X.mg m F H F' H' m' → k z m' → Q z H') → tJs ts acc σ H Q := by
  induction h with
  | nil => exact ⟨[], .nil, fun acc σ F H s m k x l en hv hx Q q => q acc F H m (StM.refl l en.mem) hv⟩
  | cons he _ ih =>
    obtain ⟨t, p, s1⟩ := he
    obtain ⟨ts, ps, r⟩ := ih
    refine ⟨t :: ts, .cons p ps, fun acc σ F H s m k x l en hv hx Q q => s1 σ F H s m _ x l en hv hx _ fun v d F1 H1 m1 t1 r1 k1 => ?_⟩
    obtain ⟨y, rfl, hz, k1⟩ := onS_of k1
    exact ⟨y, r1.strI, Nat.le_trans hz (by decide), r _ σ F1 H1 s m1 k x t1.le (en.stm t1) k1 (hx.after t1) Q fun z F' H' m' st hk => q z F' H' m' (t1.trans st) hk⟩
@[reducible] def vJoined (vs : List VE) : VE := fun s m k x => vJs vs (S []) s m (fun z m1 => k (.str z) m1) x
/-! ### tuples of the module -/
theorem je_gtup {x : Str} {vs : List V} {ds : List D} {pos : Pos} (hg : Gl X x) (h : ∃ a, X.mg x = some (.ref a) ∧ (∀ H : Hp, SqN X.K H a vs)) (r : ∀ F, RpL X.K X.mg F vs ds) (hd : (x == ("__debug__" : Str)) = false := by decide) : JE X W (.Name x pos) (vC (.tup ds)) := by
  obtain ⟨a, e, sq⟩ := h
  exact je_c (pe_glob (v := .ref a) hg e rfl hd) fun F => .tup (sq F) (r F)
/-! ### dicts -/
def keyD : D → Option Key
  | .int i => some (.inl i)
  | .str z => some (.inr z)
  | _ => none
theorem keyD_ok {d : D} {c : Key} {u : V} (h : keyD d = some c) (r : Rp K mg F u d) : u = kV c := by
  unfold keyD at h
  split at h
  · cases h; exact r.intI
  · cases h; exact r.strI
  · cases h
/-- the pairs of a dict, frozen or in the memory -/
def dicO : Option MO → Option (List (Key × D))
  | some (.dic ds) => some ds
  | _ => none
def asK (m : Mem) : D → Option (List (Key × D))
  | .dic ds => some ds
  | .ref p => dicO (m p)
  | _ => none
theorem Rp.asKD {m : Mem} {d : D} {ds : List (Key × D)} {v : V} (l : Le F H) (mr : MemR K mg F H m) (r : Rp K mg F v d) (h : asK m d = some ds) : ∃ a xs, v = .ref a ∧ Rd H a (.dK xs) ∧ RpK K mg F xs ds := by
  unfold asK at h
  split at h
  · cases h
    cases r with
    | dic e rk => exact ⟨_, _, rfl, .inr ⟨_, l.at e id⟩, rk⟩
  · rename_i p
    obtain rfl := r.refI
    cases q : m p with
    | none => rw [q] at h; cases h
    | some o =>
      cases o with
      | dic es =>
        rw [q] at h
        cases h
        obtain ⟨_, xs, e, rk⟩ := mr p _ q
        exact ⟨p, xs, rfl, .inl e, rk⟩
      | _ => rw [q] at h; cases h
  · cases h
/-- what stands under a key -/
def valD {κ α : Type} [DecidableEq κ] (kvs : List (κ × α)) (k : κ) : Option α := (kvs.find? fun kv => decide (kv.1 = k)).map (·.2)
theorem RpK.val {κ : Type} [DecidableEq κ] {c : κ} : ∀ {xs : List (κ × V)} {ds : List (κ × D)} {d : D}, RpK K mg F xs ds → valD ds c = some d → ∃ v, valV xs c = some v ∧ Rp K mg F v d
  | _, _, d, .nil, h => by cases h
  | _, _, d, .cons (k := k') (ds := ds) r s, h => by
    by_cases e : k' = c
    · subst e
      simp [valD] at h
      subst h
      exact ⟨_, valV_pos rfl, r⟩
    · have h2 : valD ds c = some d := by simpa [valD, List.find?_cons, e] using h
      obtain ⟨v, h3, h4⟩ := RpK.val s h2
      exact ⟨v, by rw [valV_neg e]; exact h3, h4⟩
theorem RpK.valN {κ : Type} [DecidableEq κ] {c : κ} : ∀ {xs : List (κ × V)} {ds : List (κ × D)}, RpK K mg F xs ds → valD ds c = none → valV xs c = none
  | _, _, .nil, h => rfl
  | _, _, .cons (k := k') r s, h => by
    by_cases e : k' = c
    · subst e
      simp [valD] at h
    · rw [valV_neg e]
      exact RpK.valN s (by simpa [valD, List.find?_cons, e] using h)
def oDGet : O2 := fun x y m k => onO (asK m x) fun kvs => onO (keyD y) fun c => onO (valD kvs c) fun d => k d m
@[reducible] def vDGet (a b : VE) : VE := vOp oDGet a b
theorem je_dget {o i : Expr} {va vb : VE} {pos : Pos} (hu : X.A.units + 1 < cLine) (ha : JE X W o va) (hb : JE X W i vb) (hs : NoSl i) : JE X W (.Subscript o i pos) (vDGet va vb) := by
  obtain ⟨ta, p1, s1⟩ := ha; obtain ⟨tb, p2, s2⟩ := hb
  refine ⟨_, pe_dget hu p1 p2 hs, fun σ F H s m k x l en hv hx Q q => s1 σ F H s m _ x l en hv hx _ fun u d F1 H1 m1 t1 r1 k1 => s2 σ F1 H1 s m1 _ x t1.le (en.stm t1) k1 (hx.after t1) _ fun w e F2 H2 m2 t2 r2 k2 => ?_⟩
  obtain ⟨kvs, h1, k2⟩ := onO_of k2
  obtain ⟨c, h2, k2⟩ := onO_of k2
  obtain ⟨z, h3, k2⟩ := onO_of k2
  obtain ⟨a, xs, rfl, rd, rk⟩ := (r1.mono t2.gr).asKD t2.le t2.mr h1
  obtain ⟨v, h4, h5⟩ := rk.val h3
  exact ⟨a, v, rfl, .inl ⟨xs, c, rd, keyD_ok h2 r2, h4.symm⟩, q _ _ F2 H2 m2 (t1.trans t2) h5 k2⟩
/-! dict(d), dict(list of pairs): a new dict, frozen -/
theorem RpK.any {κ : Type} [DecidableEq κ] {c : κ} {xs : List (κ × V)} {ds : List (κ × D)} (r : RpK K mg F xs ds) : (xs.any fun kv => decide (kv.1 = c)) = (ds.any fun kv => decide (kv.1 = c)) := by
  have h := r.keys
  have e1 : (xs.any fun kv => decide (kv.1 = c)) = ((xs.map (·.1)).any fun z => decide (z = c)) := by rw [List.any_map]; rfl
  have e2 : (ds.any fun kv => decide (kv.1 = c)) = ((ds.map (·.1)).any fun z => decide (z = c)) := by rw [List.any_map]; rfl
  rw [e1, e2, h]
/-- a pair put in its place, or at the end -/
def putD {κ α : Type} [DecidableEq κ] (kvs : List (κ × α)) (k : κ) (v : α) : List (κ × α) :=
  if (kvs.any fun kv => decide (kv.1 = k)) = true then kvs.map (fun kv => if kv.1 = k then (kv.1, v) else kv) else kvs ++ [(k, v)]
theorem RpK.mapPut {κ : Type} [DecidableEq κ] {c : κ} {u : V} {d : D} (ru : Rp K mg F u d) : ∀ {xs : List (κ × V)} {ds : List (κ × D)}, RpK K mg F xs ds → RpK K mg F (xs.map fun kv => if kv.1 = c then (kv.1, u) else kv) (ds.map fun kv => if kv.1 = c then (kv.1, d) else kv)
  | _, _, .nil => .nil
  | _, _, .cons (k := k') r s => by
    rw [List.map_cons, List.map_cons]
    by_cases e : k' = c
    · rw [if_pos (show (k', _).1 = c from e), if_pos (show (k', _).1 = c from e)]
      exact .cons ru (RpK.mapPut ru s)
    · rw [if_neg (show ¬ (k', _).1 = c from e), if_neg (show ¬ (k', _).1 = c from e)]
      exact .cons r (RpK.mapPut ru s)
theorem RpK.app {κ : Type} : ∀ {xs ys : List (κ × V)} {ds es : List (κ × D)}, RpK K mg F xs ds → RpK K mg F ys es → RpK K mg F (xs ++ ys) (ds ++ es)
  | _, _, _, _, .nil, h => h
  | _, _, _, _, .cons r s, h => .cons r (RpK.app s h)
theorem RpK.put {κ : Type} [DecidableEq κ] {c : κ} {u : V} {d : D} {xs : List (κ × V)} {ds : List (κ × D)} (r : RpK K mg F xs ds) (ru : Rp K mg F u d) : RpK K mg F (putK xs c u) (putD ds c d) := by
  unfold putK putD
  rw [r.any]
  split
  · exact RpK.mapPut ru r
  · exact r.app (.cons ru .nil)
def mergeD (kvs more : List (Key × D)) : List (Key × D) := more.foldl (fun acc kv => putD acc kv.1 kv.2) kvs
theorem RpK.merge : ∀ {ys : List (Key × V)} {es : List (Key × D)} {xs : List (Key × V)} {ds : List (Key × D)}, RpK K mg F ys es → RpK K mg F xs ds → RpK K mg F (mergeK xs ys) (mergeD ds es)
  | _, _, _, _, .nil, h => h
  | _, _, _, _, .cons (k := c) r s, h => by
    have := RpK.merge s (h.put (c := c) r)
    exact this
/-- the pairs of a list of pairs -/
def pairD : D → Option (Key × D)
  | .tup [a, b] => (keyD a).map fun c => (c, b)
  | _ => none
def pairsD : List D → Option (List (Key × D))
  | [] => some []
  | d :: ds => match pairD d, pairsD ds with
    | some p, some ps => some (p :: ps)
    | _, _ => none
theorem pairD_ok {d : D} {c : Key × D} {u : V} (h : pairD d = some c) (l : Le F H) (r : Rp K mg F u d) : ∃ p v, u = .ref p ∧ SqT K H p [kV c.1, v] ∧ Rp K mg F v c.2 := by
  unfold pairD at h
  split at h
  · rename_i a b
    simp only [Option.map_eq_some_iff] at h
    obtain ⟨k, h1, rfl⟩ := h
    obtain ⟨p, vs, rfl, sq, rl⟩ := r.tupI
    obtain ⟨x, y, rfl, rx, ry⟩ := rl.two
    rw [keyD_ok h1 rx] at sq
    exact ⟨p, y, rfl, l.sqt sq, ry⟩
  · cases h
theorem pairsD_ok (l : Le F H) : ∀ {ds : List D} {cs : List (Key × D)} {us : List V}, pairsD ds = some cs → RpL K mg F us ds → ∃ (ps : List Addr) (kvs : List (Key × V)), us = ps.map V.ref ∧ Paired (fun p kv => SqT K H p [kV kv.1, kv.2]) ps kvs ∧ RpK K mg F kvs cs
  | [], cs, us, h, r => by simp only [pairsD] at h; cases h; cases r; exact ⟨[], [], rfl, .nil, .nil⟩
  | d :: ds, cs, us, h, r => by
    simp only [pairsD] at h
    split at h
    · rename_i p ps h1 h2
      cases h
      cases r with
      | cons ra rb =>
        obtain ⟨a, v, rfl, sq, rv⟩ := pairD_ok h1 l ra
        obtain ⟨as, kvs, rfl, pr, rk⟩ := pairsD_ok l h2 rb
        obtain ⟨c, b⟩ := p
        exact ⟨a :: as, (c, v) :: kvs, rfl, .cons sq pr, .cons rv rk⟩
    · cases h
/-- what a call lays may be locked for good -/
theorem cr_lk {f : Value} {r : List V → Hp → VK → Prop} (h : CallR X f r) : CallR X f (fun xs H Q => r xs H fun v H1 => Q v H1 ∨ ∃ d u, v = .ref d ∧ H1 d = some u ∧ Mut (some u) ∧ ∀ od, Q v (upd H1 d (.frz od u))) := fun pins s σ H xs us Q I hv hw => by
  refine thn (h pins s σ H xs us _ I hv hw) fun v s1 ⟨x, H1, I1, r1, q1⟩ => ?_
  rcases q1 with q1 | ⟨d, u, rfl, hd, mu, q1⟩
  · exact ⟨x, H1, I1, r1, q1⟩
  · obtain ⟨od, I2⟩ := I1.lock hd mu
    exact ⟨_, _, I2, r1, q1 od⟩
theorem upd_upd {H : Hp} {p : Addr} {a b : HO} : upd (upd H p a) p b = upd H p b := by funext c; unfold upd; split <;> rfl
/-- a new dict, locked and frozen -/
theorem dic_new {m : Mem} {F H : Hp} {p : Addr} {xs : List (Key × V)} {ds : List (Key × D)} (l : Le F H) (hn : H p = none) (rk : RpK K mg F xs ds) {k : D → Mem → Prop} {Q : VK} (mr : MemR K mg F H m) (q : ∀ v d F' H' m', StM K mg m F H F' H' m' → Rp K mg F' v d → k d m' → Q v H') (h : k (.dic ds) m) :
    Q (.ref p) (upd H p (.dK xs)) ∨ ∃ d u, (V.ref p) = .ref d ∧ (upd H p (.dK xs)) d = some u ∧ Mut (some u) ∧ ∀ od, Q (.ref p) (upd (upd H p (.dK xs)) d (.frz od u)) := by
  refine .inr ⟨p, .dK xs, rfl, upd_same, trivial, fun od => ?_⟩
  rw [upd_upd]
  have st := Step.new (F := F) (o := .frz od (.dK xs)) l hn
  exact q _ _ _ _ m (st.stm mr) (.dic upd_same (rk.mono st.gr)) h
def oDict : OA := fun ds m k => match ds with
  | [d] => (∃ kvs, asK m d = some kvs ∧ k (.dic kvs) m) ∨ ∃ es cs, asL m d = some es ∧ pairsD es = some cs ∧ k (.dic (mergeD [] cs)) m
  | _ => False
theorem jo_dict (hc : X.calm = true) : JOA X (.type "dict") oDict := ⟨_, cr_lk (cr_or call_dictD (call_dictP hc)), fun F H m xs us k l mr r h Q q => by
  unfold oDict at h
  split at h
  · obtain ⟨u, rfl, a⟩ := r.one
    rcases h with ⟨kvs, h1, h⟩ | ⟨es, cs, h1, h2, h⟩
    · obtain ⟨p, xs, rfl, rd, rk⟩ := a.asKD l mr h1
      exact .inl ⟨p, xs, rfl, rd, fun n hn => dic_new l hn rk mr q h⟩
    · obtain ⟨p, vs, rfl, sp, rp⟩ := a.asL l mr h1
      obtain ⟨ps, kvs, rfl, pr, rk⟩ := pairsD_ok l h2 rp
      exact .inr ⟨p, ps, kvs, rfl, sp, pr, fun n hn => dic_new l hn (RpK.merge rk .nil) mr q h⟩
  · exact h.elim⟩
end
end Ts
namespace Ts
open PySem PySem.Spec PyProof.Rows L2
/-! ### the head: facts, defs, tables of the module -/
abbrev Tb : Type := PySem.W.Frag → Bool
abbrev AlB : Type := He.AlD × Bool
def obsB (fa : List He.Fa) (fn : List He.DefD) (tb : List Tb) (K : PySem.W.Frag) : AlB := (He.obsD fa fn K, tb.all fun t => t K)
def SaysB (fa : List He.Fa) (fn : List He.DefD) (tb : List Tb) (K : PySem.W.Frag) : Prop := obsB fa fn tb K = (He.valD fn, true)
section
variable {fa : List He.Fa} {fn : List He.DefD} {tb : List Tb} {K : PySem.W.Frag}
theorem SaysB.d (c : SaysB fa fn tb K) : He.SaysD fa fn K := congrArg (fun z : AlB => z.1) c
theorem SaysB.tab (c : SaysB fa fn tb K) (i : Nat) {t : Tb} (h : tb[i]? = some t) : t K = true :=
  List.all_eq_true.mp (show (tb.all fun t => t K) = true from congrArg (fun z : AlB => z.2) c) t (List.mem_of_getElem? h)
end
/-- .. without a dict -/
def noD (K : PySem.W.Frag) (a : Addr) : Bool := match K.lookup a with
  | some o => o.dict.isNone
  | none => false
theorem tupB_okN {K : PySem.W.Frag} {x : Str} {vs : List He.Dv} (h : He.tupB K x vs = true) (hd : noD K (He.ga K x) = true) (H : Hp) : SqN K H (He.ga K x) (vs.map (He.Dv.v K)) := by
  unfold noD at hd
  rcases He.tupB_ok h (fun _ => none) with (h1 | ⟨_, h1⟩) | ⟨o, its, n, h1, h2, h3, h4, h5⟩
  · cases h1
  · cases h1
  · rw [h1] at hd
    exact .inr ⟨_, its, n, h1, h2, Option.isNone_iff_eq_none.mp hd, h3, h4, h5⟩
/-- a tuple of ints of the module -/
def tupT (x : Str) (is : List Int) : Tb := fun K => (He.Fa.glo x).ok K && (He.tupB K x (is.map He.Dv.int) && noD K (He.ga K x))
theorem tupT_ok {x : Str} {is : List Int} {K : PySem.W.Frag} {h : Heap} {mg : Str → Option Value} (X : K.In h) (G : h.Ns mainGlobals mg) (c : tupT x is K = true) : ∃ a, mg x = some (.ref a) ∧ ∀ H : Hp, SqN K H a (is.map V.int) := by
  obtain ⟨h1, h2⟩ := Bool.and_eq_true_iff.mp c
  obtain ⟨h2, h3⟩ := Bool.and_eq_true_iff.mp h2
  refine ⟨_, He.glo_ok X G h1, fun H => ?_⟩
  have e : (is.map He.Dv.int).map (He.Dv.v K) = is.map V.int := by rw [List.map_map]; rfl
  rw [← e]
  exact tupB_okN h2 h3 H
theorem RpL.intsG {K : PySem.W.Frag} {mg : Str → Option Value} (is : List Int) : ∀ F, RpL K mg F (is.map V.int) (is.map D.int) := fun F => RpL.ints is
/-! ### is True, is False -/
section
variable {X : Cx}
def oIsB : O2
  | .bl a, .bl b, m, k => k (.bl (decide (a = b))) m
  | _, _, _, _ => False
def oIsNotB : O2
  | .bl a, .bl b, m, k => k (.bl (!decide (a = b))) m
  | _, _, _, _ => False
end
end Ts
namespace Ts
open PySem PySem.Spec PyProof.Rows L2
theorem hu1 {A : Around} (h : A.units + 64 < cLine) : A.units + 1 < cLine := by omega
/-! ### two dicts compared, value by value -/
section
variable {X : Cx}
def SameD (K : PySem.W.Frag) (H : Hp) (v w : V) (b : Bool) : Prop := ∃ d e, Dp K H v d ∧ Dp K H w e ∧ PySem.W.alike d e = true ∧ d.depth ≤ 20 ∧ PyData.eqv d e = b
inductive HitV (K : PySem.W.Frag) (H : Hp) (ls : List (Key × V)) : List (Key × V) → Bool → Prop
  | nil : HitV K H ls [] true
  | miss {c : Key} {v : V} {ps : List (Key × V)} : valV ls c = none → HitV K H ls ((c, v) :: ps) false
  | hit {c : Key} {v w : V} {ps : List (Key × V)} {e b : Bool} : valV ls c = some w → SameD K H v w e → HitV K H ls ps b → HitV K H ls ((c, v) :: ps) (e && b)
theorem hits_data {A : Around} {pins : List (Addr × Obj)} {σ : L2.St} {s : Shared} {H : Hp} (I : Inv X pins σ H s) (hu : A.units + 20 < cLine) {kvs : List (Key × V)} {vb : List (Key × Value)} (rb : KV kvs vb) {ks : List (Key × V)} {va : List (Key × Value)} (ra : KV ks va) :
    ∀ {b : Bool}, HitV X.K H kvs ks b → PySem.W.KeqHits A s vb va b := by
  unfold KV at ra
  induction ra with
  | nil => intro b h; cases h; exact .nil
  | @cons p q ps qs h t ih =>
    intro b hp
    obtain ⟨h1, h2⟩ := h
    obtain ⟨k, v⟩ := q
    obtain ⟨c, z⟩ := p
    have h1' : c = k := h1
    subst h1'
    cases hp with
    | miss hn =>
      refine .miss ?_
      have rr : RelO (valV kvs c) (valueAt vb c) := rb.val c
      rw [hn] at rr
      cases e : valueAt vb c with
      | none => rfl
      | some y => rw [e] at rr; exact rr.elim
    | @hit _ _ wz _ _ _ e hd hr =>
      obtain ⟨d, d', dp, dw, al, dd, ev⟩ := hd
      have rr : RelO (some wz) (valueAt vb c) := by rw [← e]; exact rb.val c
      obtain ⟨y, hy, ry⟩ := rr.some_of
      obtain ⟨as, r1⟩ := Dp.reads I d _ v dp h2
      obtain ⟨bs, r2⟩ := Dp.reads I d' _ y dw ry
      have q := PySem.W.eqAt_alike d d' A s v y as bs r1 r2 al (by omega)
      rw [ev] at q
      exact .hit hy q (ih hr)
def rEqDD (K : PySem.W.Frag) (n : Bool) : R2 := fun x y H Q => ∃ a b ks ls c, x = .ref a ∧ y = .ref b ∧ Rd H a (.dK ks) ∧ Rd H b (.dK ls) ∧ (ks.length = ls.length → HitV K H ls ks c) ∧ Q (.bl (n ^^ (ks.length == ls.length && c))) H
theorem op_neDD (hu : X.A.units + 64 < cLine) : OpR X (compareOp .NotEq) (rEqDD X.K true) := by
  intro pins s σ H x y v u Q I rx ry h
  obtain ⟨a, b, ks, ls, c, rfl, rfl, ea, eb, hp, q⟩ := h
  obtain rfl : v = Value.ref a := rx
  obtain rfl : u = Value.ref b := ry
  obtain ⟨_, ya, va, ra, da⟩ := (show ObjOk X.prog X.w H s.heap a (.dK ks) from ea.ok I.hok)
  obtain ⟨_, yb, vb, rb, db⟩ := (show ObjOk X.prog X.w H s.heap b (.dK ls) from eb.ok I.hok)
  exact PySem.W.keq_ne (knd := mixKind X.prog X.w) (r := c) ya yb da db (by omega) (fun hl => hits_data I (by show X.A.units + 1 + 20 < cLine; omega) rb ra (hp (by rw [ra.length, rb.length]; exact hl))) (fin_bl I q (by rw [ra.length, rb.length]; simp))
/-- the same over data -/
inductive HitD (ls : List (Key × D)) : List (Key × D) → Bool → Prop
  | nil : HitD ls [] true
  | miss {c : Key} {v : D} {ps : List (Key × D)} : valD ls c = none → HitD ls ((c, v) :: ps) false
  | hit {c : Key} {v w : D} {ps : List (Key × D)} {p q : PyData} {b : Bool} : valD ls c = some w → toPy v = some p → toPy w = some q → PySem.W.alike p q = true → p.depth ≤ 20 → HitD ls ps b → HitD ls ((c, v) :: ps) (PyData.eqv p q && b)
theorem HitD.v {K : PySem.W.Frag} {mg : Str → Option Value} {F H : Hp} (l : Le F H) {ls : List (Key × D)} {vs : List (Key × V)} (rl : RpK K mg F vs ls) : ∀ {ks : List (Key × D)} {b : Bool}, HitD ls ks b → ∀ {us : List (Key × V)}, RpK K mg F us ks → HitV K H vs us b := by
  intro ks b h
  induction h with
  | nil => intro us r; cases r; exact .nil
  | miss hn => intro us r; cases r with
    | cons ru rs => exact .miss (rl.valN hn)
  | hit e h1 h2 al dd _ ih => intro us r; cases r with
    | cons ru rs =>
      obtain ⟨w, e2, rw2⟩ := rl.val e
      exact .hit e2 ⟨_, _, ru.dp l h1, rw2.dp l h2, al, dd, rfl⟩ (ih rs)
def eqDK (n : Bool) : O2 := fun x y m k => onO (asK m x) fun ks => onO (asK m y) fun ls => ∃ c, (ks.length = ls.length → HitD ls ks c) ∧ k (.bl (n ^^ (ks.length == ls.length && c))) m
def oNeK : O2 := eqDK true
def oEqK : O2 := eqDK false
theorem eqDK_snd {n : Bool} {K : PySem.W.Frag} {mg : Str → Option Value} : SndO2 K mg (rEqDD K n) (eqDK n) := fun F H m x y u v k l mr a b h Q q => by
  obtain ⟨ks, h1, h⟩ := onO_of h
  obtain ⟨ls, h2, c, hp, h⟩ := onO_of h
  obtain ⟨p, xs, rfl, rd, rk⟩ := a.asKD l mr h1
  obtain ⟨p', ys, rfl, rd', rk'⟩ := b.asKD l mr h2
  refine ⟨p, p', xs, ys, c, rfl, rfl, rd, rd', fun hl => (hp (by rw [← rk.len, ← rk'.len]; exact hl)).v l rk' rk, ?_⟩
  rw [rk.len, rk'.len]
  exact q _ _ F H m (StM.refl l mr) (.bl _) h
theorem jo_neK (hu : X.A.units + 64 < cLine) : JO2 X (compareOp .NotEq) oNeK := ⟨_, op_neDD hu, eqDK_snd⟩
end
end Ts
/-! ### an own exception is made: over the heap -/
namespace Ts
section
open PySem PySem.W PySem.Calls PyProof.Rows
open Builtin Builtin.ObjectAttr
variable {prog : Program} {w : World} {A : Around} {E : Value → Shared → Prop} {hp : Heap} {g : Array GenState} {d : Drawn} {t : Nat} {os : OsState} {K : Frag} {C x : Addr} {B newId initId : String} {bmB : List Value}
/-- what the written part says of an own exception class at C over the built-in B -/
structure XCls (K : Frag) (C : Addr) (B newId initId : String) (bmB : List Value) : Prop where
  q : excInitIn K C bmB newId = true
  ov : excOver K C bmB = true
  sa : findIn K (.ref C) "__setattr__" = some (some (.builtin "object.__setattr__"))
  hd : hasDictIn K C = true
  exC : subIn K (.ref C) (.type "BaseException") = some true
  exB : subIn K (.ref C) (.type B) = some true
  tyC : typeIn K (.ref C) = some (.type "type")
  kC : keepIn K (.ref C) = true
  sup : ks_superIn K C C "__init__" = some (some (.builtin initId))
  sub : mroIn K C (.ref C) = some true
  op : nsIn K cStatics "thirdparty.any" = some none
  su : nsIn K mainGlobals "super" = some none
/-- self.name = v, the first -/
theorem xset_new {tt : Addr} {name : Str} {v : Value} {Q : Unit → Shared → Prop} (SF : StoreFacts B bmB "object.__setattr__" "object") (T : XCls K C B newId initId bmB) (X : K.In hp) (hx : hp.get? x = some (excObj C tt none .none)) (ht : takerIn K C name = some none)
    (hq : ∀ h' tk' dx, (∀ b o, b ≠ x → hp.get? b = some o → h'.get? b = some o) → hp.get? dx = none → dx ≠ x → h'.get? x = some (excObj C tt (some dx) .none) → h'.Ns1 dx (fun y => if y = name then some v else none) → Q () ⟨h', g, d, tk', os⟩) :
    wpAny (model prog w) A (setAttr (.ref x) name v) Q E ⟨hp, g, d, t, os⟩ := by
  have hxs : x ≠ hp.objs.size := Nat.ne_of_lt (Heap.lt_size hx)
  refine set_plain (od := none) X ⟨hx, rfl, rfl, trivial⟩ T.sa (osa_openX (s := ⟨hp, g, d, t + 1, os⟩) (od := none) SF X ⟨hx, rfl, rfl, trivial⟩ T.ov ht fun b => ?_)
  obtain ⟨cd, hc, hd'⟩ := any_some T.hd
  refine wpAny_bind (wpAny_pure (wpAny_bind (instanceDict_exc (s := ⟨hp, g, d, t + 1, os⟩) hx (looks_clsIn X hc) hd' ?_)))
  show wpAny _ _ (storeInDict hp.objs.size (.str name t) name v) _ _ _
  refine PySem.HandSPX.store_in_new ?_ fun h' tk' hn' hs => ?_
  · exact ⟨_, #[], _, (Heap.get?_update_ne _ _ _ _ hxs.symm).trans (Heap.get?_push_at rfl rfl), rfl, fun e he => absurd he (by simp), fun _ => rfl⟩
  · have hx₁ : (hp.push (dictOf [] 0)).get? x = some (excObj C tt none .none) := Heap.get?_push_of_some _ hx
    refine hq h' tk' hp.objs.size (fun b o hb ho => ?_) ?_ hxs.symm ?_ hn'
    · exact (hs.2 b (Nat.ne_of_lt (Heap.lt_size ho))).trans ((Heap.get?_update_ne _ _ _ _ hb).trans (Heap.get?_push_of_some _ ho))
    · cases e : hp.get? hp.objs.size with
      | none => rfl
      | some o => exact absurd (Heap.lt_size e) (Nat.lt_irrefl _)
    · exact (hs.2 x hxs).trans (Heap.get?_update_self _ hx₁ rfl)
/-- a further one -/
theorem xset_old {tt dx : Addr} {name : Str} {v : Value} {m0 : Str → Option Value} {nl : List Str} {Q : Unit → Shared → Prop} (SF : StoreFacts B bmB "object.__setattr__" "object") (T : XCls K C B newId initId bmB) (X : K.In hp) (hx : hp.get? x = some (excObj C tt (some dx) .none)) (hns : hp.Ns1 dx m0) (hw : Within m0 nl) (hz : nl.length ≤ 900)
    (ht : takerIn K C name = some none)
    (hq : ∀ h' tk', (∀ b o, b ≠ dx → hp.get? b = some o → h'.get? b = some o) → h'.Ns1 dx (fun y => if y = name then some v else m0 y) → Q () ⟨h', g, d, tk', os⟩) :
    wpAny (model prog w) A (setAttr (.ref x) name v) Q E ⟨hp, g, d, t, os⟩ := by
  obtain ⟨oD, esD, epD, hoD, hdD, _⟩ := hns.count hw
  have I : InstAt hp x (excObj C tt (some dx) .none) C (some oD) := ⟨hx, rfl, rfl, hoD⟩
  refine set_plain (s := ⟨hp, g, d, t, os⟩) (od := some oD) X I T.sa (osa_openX (s := ⟨hp, g, d, t + 1, os⟩) (od := some oD) SF X I T.ov ht fun b => ?_)
  obtain ⟨cd, hc, hd'⟩ := any_some T.hd
  refine wpAny_bind (wpAny_pure (wpAny_bind (wpAny_bind (wpAny_loadPart hx (wpAny_bind ((looks_clsIn X hc).here ?_))))))
  rw [hd']
  refine wpAny_pure (a := some dx) ?_
  exact OEX.store_in_old hns hw (by omega) fun h' tk' hn' hs => hq h' tk' (fun b o hb ho => (hs.2 b hb).trans ho) hn'
/-- what the written part says of its __init__ -/
structure XIni (K : Frag) (P : Program) (C fI : Addr) (qual : Str) (params : Arguments) (body : List Stmt) (scope : Scope) (cda cc : Addr) (fd : FuncData) : Prop where
  at_ : findIn K (.ref C) "__init__" = some (some (.ref fI))
  fn : isFn K (.ref fI) = true
  fd : ∃ oc od osl dV kV doc pm an ct, K.lookup fI = some ⟨oc, od, .func fd, osl⟩ ∧ fd = ksFn "__init__" qual params body scope dV kV doc pm an (.ref cda) ct cc
  cod : codeIn K (.ref cda) qual = true
  fil : ∃ ccl cdd vs ccs file tf, K.lookup cda = some ⟨ccl, cdd, .fields vs, ccs⟩ ∧ vs[2]? = some (.str file tf) ∧ ((P.main.file : Str) == file) = true
  cel : ∃ cl cld csl, K.lookup cc = some ⟨cl, cld, .cell (some (.ref C)), csl⟩
/-- super() within it -/
theorem xnode {h₀ : Heap} {L f cda cc : Addr} {m mg : Str → Option Value} {news : List (Addr × Obj)} {ox : Obj} {odx : Option Obj} {s : Shared} {body : List Stmt} {q : Str} {scope : Scope} {p0 p1 : Pos} {attr : Str} {whole : Sem Value} {fd : FuncData} {ar : Arg} {vs : Array Value} {file : Str} {tf : Tok} {oc ccl cl : Value} {od cdd cld : Option Addr} {osl ccs csl : Array (Option Value)} {cdD : ClassData} {Q : Value → Shared → Prop}
    (F : Fr h₀ L s.heap m) (X₀ : K.In h₀) (N : News h₀ L s.heap news) (hg : h₀.Ns mainGlobals mg) (hb : ∃ mb, h₀.Ns builtinsNs mb ∧ ∀ x : Str, x ≠ "__name__" → mb x = bootBuiltins x)
    (hf : K.lookup f = some ⟨oc, od, .func fd, osl⟩) (hp : (fd.params.posonlyargs ++ fd.params.args).head? = some ar) (hv : m ar.arg = some (.ref x)) (I : InstAt s.heap x ox C odx)
    (hcode : K.lookup cda = some ⟨ccl, cdd, .fields vs, ccs⟩) (hvs : vs[2]? = some (.str file tf)) (hfile : ((prog.main.file : Str) == file) = true)
    (hcell : K.lookup cc = some ⟨cl, cld, .cell (some (.ref C)), csl⟩) (hD : clsIn K C = some cdD) (hsub : mroIn K C (.ref C) = some true) (hsuper : nsIn K mainGlobals "super" = some none)
    (hat : (attr == ("__class__" : Str)) = false) (hks : scope.names.lookup ("super" : Str) = some .globalImplicit) (hkc : scope.names.lookup ("__class__" : Str) = some .free) (hka : scope.names.lookup ar.arg = some .local) (hk : scope.kind = .function)
    (htop : (prog.main.scope.names.lookup ("super" : Str)).isSome = false)
    (h : ∀ so h', Fr h₀ L h' m → News h₀ L h' ((so, ks_superObj C x C) :: news) → (∀ p ∈ news, p.1 < so) → Q (.ref so) { s with heap := h' }) :
    _root_.PySem.wpAt (model prog w) A (.func body (ksEnv q scope L f (.ref cda) cc)) (attributeBase (.Call (.Name "super" p0) [] [] p1) attr (ksEnv q scope L f (.ref cda) cc) whole) Q E s := by
  have X : K.In s.heap := X₀.keeps F.keep
  obtain ⟨mb, hb1, hb2⟩ := hb
  obtain ⟨hh, g, d, t, os⟩ := s
  obtain ⟨oD, hD1, hD2⟩ : ∃ oD, hh.get? C = some oD ∧ oD.data = .cls cdD := by
    unfold clsIn at hD
    split at hD
    · rename_i c d cd' sl ho
      cases hD
      exact ⟨_, X _ _ ho, rfl⟩
    · cases hD
  refine ks_wpAt_super_base (env := ksEnv q scope L f (.ref cda) cc) hks hkc hat rfl (X _ _ hf) rfl hp rfl (X _ _ hcode) rfl hvs hfile htop ?_
  refine ks_loadName_global hk hks (loadGlobal_builtin (env := ksEnv q scope L f (.ref cda) cc) (hg.keeps F.keep) (mg_none_of X₀ hg hsuper) (hb1.keeps F.keep) ((hb2 _ (by decide +kernel)).trans PyProof.Rows.Boot.«super») ⟨rfl, ?_⟩)
  refine wpAny_loadName_free hk hkc rfl ⟨_, X _ _ hcell, rfl⟩ ?_
  refine wpAny_loadName_local hk hka F.ns hv ?_
  refine ks_wpAny_isType_cls hD1 hD2 ⟨rfl, ?_⟩
  refine ks_wpAny_call_super hD1 hD2 I.at_ I.cls (fun c e => ?_) (looks_mroIn X hsub) (fun h' e k => ?_)
  · have := I.no
    unfold notCls at this
    rw [e] at this
    exact Bool.noConfusion this
  · obtain ⟨F', N', l'⟩ := ks_newsPush (s := ⟨hh, g, d, t, os⟩) F N rfl e k
    exact h _ _ F' N' l'
/-- the body's first row: super().__init__(msg) -/
abbrev xrow (msg : Str) (j : Nat) (p0 p1 p2 p3 p4 p5 : Pos) : Stmt := .Expr (.Call (.Attribute (.Call (.Name "super" p0) [] [] p1) "__init__" p2) [.Constant (.str msg) j p3] [] p4) p5
/-- what the scope says of the names -/
structure XSc (scope : Scope) (sf : Str) : Prop where
  su : scope.names.lookup ("super" : Str) = some .globalImplicit
  cl : scope.names.lookup ("__class__" : Str) = some .free
  sf : scope.names.lookup sf = some .local
  k : scope.kind = .function
  ce : ∀ x ∈ scope.names, x.2 ≠ .cell
  co : scope.isCoroutine = false
  ge : scope.isGenerator = false
/-- what stands ahead of the call -/
structure XHp (K : Frag) (mg : Str → Option Value) (hp : Heap) : Prop where
  K : K.In hp
  g : hp.Ns mainGlobals mg
  b : ∃ mb, hp.Ns builtinsNs mb ∧ ∀ x : Str, x ≠ "__name__" → mb x = bootBuiltins x
  lim : hp.NoLimit
/-- __init__ is run: its first row, then the rest over a frame in which the exception is new -/
theorem xinit {mg : Str → Option Value} {h1 : Heap} {e t0 fI cda cc : Addr} {qual sf : Str} {params : Arguments} {rest : List Stmt} {scope : Scope} {fd : FuncData} {msg : Str} {j : Nat} {p0 p1 p2 p3 p4 p5 : Pos} {R : Result → Shared → Prop} {binds : List (Str × Value)} {args : Args} {ar : Arg} {pl : Sem Bool}
    (hev : ∀ env : Env, PySem.eval (.Call (.Attribute (.Call (.Name "super" p0) [] [] p1) "__init__" p2) [.Constant (.str msg) j p3] [] p4) env = (do
      let ov ← attributeBase (.Call (.Name "super" p0) [] [] p1) "__init__" env (PySem.eval (.Call (.Name "super" p0) [] [] p1) env)
      standAt p2.atName
      let (f, first) ← holding [ov] (getMethod ov "__init__" pl)
      callWith p4 f first (backTo p4 (starEach [.Constant (.str msg) j p3] env)) []))
    (FB : ExcBaseFacts B newId initId bmB) (KF : KxsFacts B initId) (T : XCls K C B newId initId bmB) (J : XIni K prog C fI qual params (xrow msg j p0 p1 p2 p3 p4 p5 :: rest) scope cda cc fd) (S : XSc scope sf) (Y : XHp K mg hp)
    (hpar : (params.posonlyargs ++ params.args).head? = some ar) (har : ar.arg = sf) (htop : (prog.main.scope.names.lookup ("super" : Str)).isSome = false)
    (k1 : ∀ b o, hp.get? b = some o → h1.get? b = some o) (sz : hp.objs.size ≤ h1.objs.size) (he : h1.get? e = some (excObj C t0 none .none)) (hn : hp.get? e = none) (hd : A.depth < recursionLimit)
    (hb : BindsTo ⟨h1, g, d, t, os⟩ fd args binds) (hloc : ∀ y ∈ binds, scope.names.lookup y.1 = some .local) (hself : binds.reverse.lookup sf = some (.ref e))
    (hR : ∀ (L : Addr) (h' : Heap) (tk' : Nat) (t1 : Addr), Fr hp L h' (fun y => binds.reverse.lookup y) → h'.get? e = some (excObj C t1 none .none) → e ≠ L →
      wpAny (model prog w) (A.deeper (ksEnv qual scope L fI (.ref cda) cc)) (execs rest (ksEnv qual scope L fI (.ref cda) cc)) (fun f s' => R (.ok (.ret (match f with | .ret v => v | _ => .none))) s')
        (fun e s' => wpAny (model prog w) (A.deeper (ksEnv qual scope L fI (.ref cda) cc)) (leaving (ksEnv qual scope L fI (.ref cda) cc) e) (fun _ s'' => R (.error e) s'') (fun e' s'' => R (.error e') s'') s') ⟨h', g, d, tk', os⟩) :
    codeAny (model prog w) A (.call (.ref fI) args) R ⟨h1, g, d, t, os⟩ := by
  obtain ⟨oc, od, osl, dV, kV, doc, pm, an, ct, lk, rfl⟩ := J.fd
  obtain ⟨ccl, cdd, vs, ccs, file, tf, hcode, hvs, hfile⟩ := J.fil
  obtain ⟨cl, cld, csl, hcell⟩ := J.cel
  have KX : K.In h1 := Y.K.keeps k1
  obtain ⟨cdC, hcl, _⟩ := any_some T.hd
  refine ks_codeAny_call_defAt (fd := ksFn "__init__" qual params (xrow msg j p0 p1 p2 p3 p4 p5 :: rest) scope dV kV doc pm an (.ref cda) ct cc) (body := xrow msg j p0 p1 p2 p3 p4 p5 :: rest) (binds := binds) hd (KX _ _ lk) rfl (Y.lim.keeps k1) (codeRec_of KX J.cod) rfl hb S.ce hloc (fun h₂ hns hk₂ => ?_) S.co S.ge S.k
  have F : Fr hp h1.objs.size h₂ (fun y => binds.reverse.lookup y) := ⟨hns, fun b o z => hk₂ b o (k1 b o z), sz⟩
  have ne : e ≠ h1.objs.size := Nat.ne_of_lt (Heap.lt_size he)
  have N : News hp h1.objs.size h₂ [(e, excObj C t0 none .none)] := fun p hp => by
    rw [List.mem_singleton.mp hp]
    exact ⟨hk₂ _ _ he, ne, hn⟩
  have hi : interactive (callEnv (ksFn "__init__" qual params (xrow msg j p0 p1 p2 p3 p4 p5 :: rest) scope dV kV doc pm an (.ref cda) ct cc) h1.objs.size fI) = false := by
    show (scope.kind == .module && _) = false
    rw [S.k]; rfl
  refine ks_wpAt_execs_cons (ks_wpAt_Expr_any (hi := hi) (ks_wpAt_MethodCall (he := hev _) (xnode (odx := none) F Y.K N Y.g Y.b lk hpar (by rw [har]; exact hself) (InstAt.of_exc0 (t := t0) (c2 := .none) N (by simp)) hcode hvs hfile hcell hcl T.sub T.su (by decide) S.su S.cl (by rw [har]; exact S.sf) S.k htop fun so h3 F3 N3 lt3 => ?_)))
  refine kxs_method (x := e) (C := C) (D := C) (so := so) (odx := none) KF F3 Y.K N3 (by simp) (InstAt.of_exc0 (t := t0) (c2 := .none) N3 (by simp)) T.op T.sup T.exB (by decide) fun u h4 F4 N4 lt4 => ?_
  refine kxs_callWith1 (u := u) (i := initId) (x := e) N4 (by simp) ?_
  refine Calls.spliced_cons (x := PySem.eval (.Constant (.str msg) j p3) _) (Calls.Constant_str (Calls.spliced_nil ⟨kxs_at N4 (by simp), ?_⟩))
  have e1 : so ≠ e := by have := lt3 (e, excObj C t0 none .none) (by simp); exact Nat.ne_of_gt this
  have e2 : u ≠ e := by have := lt4 (e, excObj C t0 none .none) (by simp); exact Nat.ne_of_gt this
  refine kxs_call F4 Y.K N4 FB T.q (by simp) (UpdF.tail e2 (UpdF.tail e1 (UpdF.head (by simp)))) (by rw [sizeLine_eq]; simp) fun t1 h5 F5 N5 lt5 => ?_
  exact wpAt_of_wpAny (hR _ h5 _ t1 F5 (N5 (e, excObj C t1 none .none) (by simp)).1 ne)
end
end Ts
/-! ### an own exception is made: the call -/
namespace Ts
section
open PySem PySem.W PySem.Calls PyProof.Rows
variable {prog : Program} {w : World} {A : Around} {E : Value → Shared → Prop} {hp : Heap} {g : Array GenState} {d : Drawn} {t : Nat} {os : OsState} {K : Frag} {C : Addr} {B newId initId : String} {bmB : List Value}
/-- self.f = e -/
abbrev srow (sf f : Str) (v : Expr) (q1 q2 q4 : Pos) : Stmt := .Assign [.Attribute (.Name sf q1) f q2] v q4
/-- C(u ..) over its __init__ -/
theorem xmade {mg : Str → Option Value} {fI cda cc : Addr} {qual sf : Str} {params : Arguments} {rest : List Stmt} {scope : Scope} {fd : FuncData} {msg : Str} {j : Nat} {p0 p1 p2 p3 p4 p5 : Pos} {Q : Value → Shared → Prop} {ps : List Str} {us : List Value} {ar : Arg} {pl : Sem Bool}
    (hev : ∀ env : Env, PySem.eval (.Call (.Attribute (.Call (.Name "super" p0) [] [] p1) "__init__" p2) [.Constant (.str msg) j p3] [] p4) env = (do
      let ov ← attributeBase (.Call (.Name "super" p0) [] [] p1) "__init__" env (PySem.eval (.Call (.Name "super" p0) [] [] p1) env)
      standAt p2.atName
      let (f, first) ← holding [ov] (getMethod ov "__init__" pl)
      callWith p4 f first (backTo p4 (starEach [.Constant (.str msg) j p3] env)) []))
    (FB : ExcBaseFacts B newId initId bmB) (KF : KxsFacts B initId) (T : XCls K C B newId initId bmB) (J : XIni K prog C fI qual params (xrow msg j p0 p1 p2 p3 p4 p5 :: rest) scope cda cc fd) (S : XSc scope sf) (Y : XHp K mg hp)
    (hpar : (params.posonlyargs ++ params.args).head? = some ar) (har : ar.arg = sf) (htop : (prog.main.scope.names.lookup ("super" : Str)).isSome = false) (hd : A.depth + 5 < recursionLimit) (hu : us.length ≤ 1000)
    (hb : ∀ (s : Shared) (e : Value), BindsTo s fd ⟨e :: us, []⟩ ((sf :: ps).zip (e :: us))) (hps : ∀ y ∈ sf :: ps, scope.names.lookup y = some .local) (hsf : sf ∉ ps)
    (hR : ∀ (A' : Around) (E' : Value → Shared → Prop) (L e : Addr) (h' : Heap) (tk' : Nat) (t1 : Addr), Fr hp L h' (fun y => ((sf :: ps).zip (.ref e :: us)).reverse.lookup y) → h'.get? e = some (excObj C t1 none .none) → e ≠ L → hp.get? e = none → ((sf :: ps).zip (Value.ref e :: us)).reverse.lookup sf = some (.ref e) →
      wpAny (model prog w) A' (execs rest (ksEnv qual scope L fI (.ref cda) cc)) (fun f s' => (match f with | .ret v => v | _ => Value.none) = .none ∧ Q (.ref e) s') E' ⟨h', g, d, tk', os⟩) :
    wpAny (model prog w) A (call (.ref C) us) Q E ⟨hp, g, d, t, os⟩ := by
  obtain ⟨nm, N', qn, bs, bm, hdct, sn, sub, ab, col, dd, k0, k1, k2, k3, k5, hC, hT⟩ := excInit_of Y.K T.q
  obtain ⟨oI, hoI, hcI⟩ : ∃ oI, hp.get? fI = some oI ∧ oI.cls = .type "function" := by
    obtain ⟨o, ho, hc⟩ := Option.map_eq_some_iff.mp (show (K.lookup fI).map (·.cls) = some (.type "function") from beq_iff_eq.mp J.fn)
    exact ⟨o, Y.K _ _ ho, hc⟩
  have hi' : Looks (model prog w) hp (typeLookup (.ref C) "__init__") (some (.ref fI)) := looks_findIn Y.K J.at_
  have hget : ((hp.push (kdv_tup us)).push (PySem.HandSPX.excO C hp.objs.size)).get? (hp.objs.size + 1) = some (excObj C hp.objs.size none .none) := by heap_get
  have hne : hp.get? (hp.objs.size + 1) = none := by
    cases e : hp.get? (hp.objs.size + 1) with
    | none => rfl
    | some o => exact absurd (Heap.lt_size e) (Nat.not_lt_of_le (Nat.le_succ _))
  have hself : ((sf :: ps).zip (Value.ref (hp.objs.size + 1) :: us)).reverse.lookup sf = some (.ref (hp.objs.size + 1)) := by
    rw [List.zip_cons_cons, List.reverse_cons, List.lookup_append]
    have nl : ((ps.zip us).reverse).lookup sf = none := by
      cases e : ((ps.zip us).reverse).lookup sf with
      | none => rfl
      | some v =>
        exfalso
        have go : ∀ l : List (Str × Value), l.lookup sf = some v → sf ∈ l.map (·.1) := by
          intro l
          induction l with
          | nil => intro h; cases h
          | cons p l ih =>
            obtain ⟨a, b⟩ := p
            intro h
            rw [List.lookup_cons] at h
            cases q : (sf == a) with
            | true => rw [beq_iff_eq.mp q]; exact List.mem_cons_self
            | false => rw [q] at h; exact List.mem_cons_of_mem _ (ih h)
        have h1 := go _ e
        rw [List.map_reverse, List.mem_reverse] at h1
        obtain ⟨p, hp1, hp2⟩ := List.mem_map.mp h1
        exact hsf (hp2 ▸ (List.of_mem_zip (a := p.1) (b := p.2) hp1).1)
    rw [nl]
    simp
  refine wpAny_call (PySem.HandSPX.call_own FB hT hC hi' (fun self => exc_bind hoI hcI self) (by rw [sizeLine_eq]; omega)
    (xinit (e := hp.objs.size + 1) (t0 := hp.objs.size) (binds := (sf :: ps).zip (.ref (hp.objs.size + 1) :: us)) hev FB KF T J S Y hpar har htop (fun b o z => Heap.get?_push_of_some _ (Heap.get?_push_of_some _ z)) (by rw [Heap.size_push, Heap.size_push]; omega) hget hne ?_ (hb _ _) (fun y hy => hps _ (List.of_mem_zip (a := y.1) (b := y.2) hy).1) hself fun L h' tk' t1 F he ne => ?_))
  · rw [L2.make_depth]; omega
  · exact hR _ _ L _ h' tk' t1 F he ne hne hself
theorem fr_but {L e : Addr} {h h2 : Heap} {m : Str → Option Value} (F : Fr hp L h m) (hn : hp.get? e = none) (ne : e ≠ L) (k : ∀ b o, b ≠ e → h.get? b = some o → h2.get? b = some o) : Fr hp L h2 m := by
  obtain ⟨oL, es, ep, hL, r⟩ := F.ns
  exact ⟨⟨oL, es, ep, k _ _ (Ne.symm ne) hL, r⟩, fun b o z => k b o (fun y => by rw [y, hn] at z; cases z) (F.keep b o z), F.above⟩
theorem none_of {h h2 : Heap} {b : Addr} (k : ∀ b o, h.get? b = some o → h2.get? b = some o) (n : h2.get? b = none) : h.get? b = none := by
  cases e : h.get? b with
  | none => rfl
  | some o => rw [k b o e] at n; cases n
/-- C(u): __init__(self, a) says super().__init__(msg), self.f = a, self.tg = tv -/
theorem xmade1 {f a : Str} {u : Value} {q1 q2 q3 q4 : Pos} {mg : Str → Option Value} {fI cda cc : Addr} {qual sf tg tv : Str} {params : Arguments} {scope : Scope} {fd : FuncData} {msg : Str} {j j2 : Nat} {p0 p1 p2 p3 p4 p5 r1 r2 r3 r4 : Pos} {Q : Value → Shared → Prop} {ar : Arg} {pl : Sem Bool}
    (hev : ∀ env : Env, PySem.eval (.Call (.Attribute (.Call (.Name "super" p0) [] [] p1) "__init__" p2) [.Constant (.str msg) j p3] [] p4) env = (do
      let ov ← attributeBase (.Call (.Name "super" p0) [] [] p1) "__init__" env (PySem.eval (.Call (.Name "super" p0) [] [] p1) env)
      standAt p2.atName
      let (f, first) ← holding [ov] (getMethod ov "__init__" pl)
      callWith p4 f first (backTo p4 (starEach [.Constant (.str msg) j p3] env)) []))
    (FB : ExcBaseFacts B newId initId bmB) (KF : KxsFacts B initId) (SF : StoreFacts B bmB "object.__setattr__" "object") (T : XCls K C B newId initId bmB)
    (J : XIni K prog C fI qual params [xrow msg j p0 p1 p2 p3 p4 p5, srow sf f (.Name a q3) q1 q2 q4, srow sf tg (.Constant (.str tv) j2 r3) r1 r2 r4] scope cda cc fd) (S : XSc scope sf) (Y : XHp K mg hp)
    (hpar : (params.posonlyargs ++ params.args).head? = some ar) (har : ar.arg = sf) (htop : (prog.main.scope.names.lookup ("super" : Str)).isSome = false) (hd : A.depth + 5 < recursionLimit)
    (hb : ∀ (s : Shared) (e : Value), BindsTo s fd ⟨[e, u], []⟩ [(sf, e), (a, u)]) (ha : scope.names.lookup a = some .local) (hsf : a ≠ sf) (da : (a == ("__debug__" : Str)) = false) (ds : (sf == ("__debug__" : Str)) = false)
    (s1 : ∀ env : Env, swapsWith (.Name a q3) (some (.Attribute (.Name sf q1) f q2)) q4.line env = pure false) (s2 : ∀ env : Env, swapsWith (.Constant (.str tv) j2 r3) (some (.Attribute (.Name sf r1) tg r2)) r4.line env = pure false)
    (k1 : takerIn K C f = some none) (k2 : takerIn K C tg = some none)
    (hQ : ∀ (h' : Heap) (tk' : Nat) (e t1 dx : Addr) (tok : Tok), (∀ b o, hp.get? b = some o → h'.get? b = some o) → hp.get? e = none → hp.get? dx = none → dx ≠ e → h'.get? e = some (excObj C t1 (some dx) .none) →
      h'.Ns1 dx (fun y => if y = tg then some (.str tv tok) else if y = f then some u else none) → Q (.ref e) ⟨h', g, d, tk', os⟩) :
    wpAny (model prog w) A (call (.ref C) [u]) Q E ⟨hp, g, d, t, os⟩ := by
  refine xmade (ps := [a]) hev FB KF T J S Y hpar har htop hd (by simp) hb (fun y hy => ?_) (by simpa using Ne.symm hsf) fun A' E' L e h' tk' t1 F he ne hn hself => ?_
  · simp only [List.mem_cons, List.not_mem_nil, or_false] at hy
    rcases hy with rfl | rfl
    · exact S.sf
    · exact ha
  have hva : (([sf, a].zip [Value.ref e, u]).reverse).lookup a = some u := by simp [List.lookup]
  refine wpAny_execs_cons (plainObj_wpAny_Assign_Attribute (wpAny_Name (wpAny_loadName_local (env := ksEnv qual scope L fI (.ref cda) cc) S.k ha F.ns hva (wpAny_Name (wpAny_loadName_local (env := ksEnv qual scope L fI (.ref cda) cc) S.k S.sf F.ns hself ?_) ds)) da) (s1 _))
  refine xset_new SF T (Y.K.keeps F.keep) he k1 fun h2 tk2 dx kk hdx nedx he2 hns2 => ?_
  have F2 := fr_but F hn ne kk
  refine wpAny_execs_cons (plainObj_wpAny_Assign_Attribute (Calls.Constant_str (wpAny_Name (wpAny_loadName_local (env := ksEnv qual scope L fI (.ref cda) cc) S.k S.sf F2.ns hself ?_) ds)) (s2 _))
  refine xset_old (nl := [f]) SF T (Y.K.keeps F2.keep) he2 hns2 (fun y hy => ?_) (by simp) k2 fun h3 tk3 kk3 hns3 => ?_
  · by_cases e : y = f
    · rw [e]; exact List.mem_cons_self
    · exact absurd (if_neg e) hy
  have hdx' : hp.get? dx = none := none_of F.keep hdx
  exact wpAny_execs_nil ⟨rfl, hQ h3 tk3 e t1 dx _ (fun b o z => kk3 b o (fun y => by rw [y, hdx'] at z; cases z) (F2.keep b o z)) hn hdx' nedx (kk3 e _ (Ne.symm nedx) he2) hns3⟩
end
end Ts
/-! ### raise C(..) -/
namespace Ts
open PySem PySem.Spec PyProof.Rows L2
/-- the class x makes exceptions of one value: fields tg = tv, f = the value -/
structure Mk1 (P : Program) (w : World) (K : PySem.W.Frag) (mg : Str → Option Value) (x f tg tv : Str) : Prop where
  ex : ∃ C : Addr, mg x = some (.ref C) ∧ PySem.W.keepIn K (.ref C) = true ∧ PySem.W.subIn K (.ref C) (.type "BaseException") = some true ∧ PySem.W.typeIn K (.ref C) = some (.type "type") ∧
    ∀ (A : Around) (E : Value → Shared → Prop) (hp : Heap) (g : Array GenState) (d : Drawn) (t : Nat) (os : OsState) (u : Value) (Q : Value → Shared → Prop), XHp K mg hp → A.depth + 5 < recursionLimit →
      (∀ (h' : Heap) (tk' : Nat) (e t1 dx : Addr) (tok : Tok), (∀ b o, hp.get? b = some o → h'.get? b = some o) → hp.get? e = none → hp.get? dx = none → dx ≠ e → h'.get? e = some (PySem.W.excObj C t1 (some dx) .none) →
        h'.Ns1 dx (fun y => if y = tg then some (.str tv tok) else if y = f then some u else none) → Q (.ref e) ⟨h', g, d, tk', os⟩) →
      wpAny (model P w) A (call (.ref C) [u]) Q E ⟨hp, g, d, t, os⟩
section
variable {X : Cx} {W : WX}
/-- raise C(e) -/
@[reducible] def vRaise1 (x f tg tv : Str) (a : VE) : VS := fun s m G => a s m (fun d m1 => G.ex ⟨x, [(tg, .str tv), (f, d)]⟩ s m1) fun e m' => G.ex e s m'
/-- raise C() -/
@[reducible] def vRaise0 (x tg tv : Str) : VS := fun s m G => G.ex ⟨x, [(tg, .str tv)]⟩ s m
theorem StM.xd {K : PySem.W.Frag} {mg : Str → Option Value} {m : Mem} {F H : Hp} {dx : Addr} {fs : List (Str × V)} (l : Le F H) (mr : MemR K mg F H m) (hn : H dx = none) : StM K mg m F H (upd F dx (.xd fs)) (upd H dx (.xd fs)) m :=
  (Step.new l hn).stm mr
end
end Ts
/-! ### try .. except (A, B) as n: .. except C as n: .. -/
namespace Ts
open PySem PySem.Spec PyProof.Rows L2
/-- the classes that a clause names -/
inductive Ce (X : Cx) : Expr → List Value → Prop
  | one {x : Str} {c : Value} {np : Pos} : Names X x c → Ce X (.Name x np) [c]
  | two {x y : Str} {c c' : Value} {np np' tp : Pos} {j : Nat} : Names X x c → Names X y c' → Ce X (.Tuple [.Name x np, .Name y np'] j tp) [c, c']
inductive AsOk (X : Cx) (n : Str) : List ExceptHandler → List (List Value × (Addr → Value → Option Addr → TS)) → Prop
  | nil : AsOk X n [] []
  | cons {ce : Expr} {cs : List Value} {ts : Addr → Value → Option Addr → TS} {b₀ : Stmt} {suite : List Stmt} {pos' : Pos} {hds : List ExceptHandler} {l : List (List Value × (Addr → Value → Option Addr → TS))} (hc : Ce X ce cs)
      (hsu : ∀ (a : Addr) (oe : Obj) (cls : Value) (d : Option Addr) (pn : List (Addr × Obj)), Zc cls d oe → (∃ vs, oe.data = .fields vs) → PSs (X.suite a ((a, oe) :: pn)) (b₀ :: suite) (ts a cls d)) (r : AsOk X n hds l) :
      AsOk X n (.ExceptHandler (some ce) (some n) (b₀ :: suite) pos' :: hds) ((cs, ts) :: l)
section
variable {X : Cx}
end
end Ts
/-! ### try over data -/
namespace Ts
open PySem PySem.Spec PyProof.Rows L2
/-- what a VC wants, as a reading -/
def tVC (K : PySem.W.Frag) (mg : Str → Option Value) (W : WX) (v : VS) : TS := fun D σ H => ∃ F s m G, Le F H ∧ EnvR K mg F H σ s m ∧ v s m G ∧ Lk K mg W F H m G D
theorem JSs.tvc {X : Cx} {W : WX} {st : List Stmt} {v : VS} (h : JSs X W st v) : PSs X st (tVC X.K X.mg W v) := by
  obtain ⟨t, p, sn⟩ := h
  exact ⟨fun pins s σ H D I ⟨F, sl, m, G, l, en, hv, L⟩ => p.run pins s σ H D I (sn σ F H sl m G l en hv D L)⟩
/-- the fields of the class at C can be read -/
def Xfl (K : PySem.W.Frag) (C : Addr) (ns : List Str) : Prop := XfC K C ∧ ∀ n ∈ ns, PySem.W.findIn K (.ref C) n = some none
/-- which classes a clause takes -/
def onB : Option Bool → Prop → Prop → Prop
  | some true, p, _ => p
  | some false, _, q => q
  | none, _, _ => False
/-- the clauses, one after the other -/
def hdV (i : Nat) : List (List (Str × Bool) × (Addr → Addr → VS)) → DE → XD → SL → Mem → Prop
  | [], G, e, s, m => G.ex e s m
  | (mt, v) :: r, G, e, s, m => onB (mt.lookup e.cls) (∀ a dd, v a dd (s.set i (some (.exn a dd e.fs))) m { nx := fun s' m' => G.nx (s'.set i none) m', rt := G.rt, bk := fun s' m' => G.bk (s'.set i none) m', ct := fun s' m' => G.ct (s'.set i none) m' }) (hdV i r G e s m)
@[reducible] def vTry (i : Nat) (vb : VS) (cl : List (List (Str × Bool) × (Addr → Addr → VS))) : VS := fun s m G => vb s m { G with ex := hdV i cl G }
/-- the clause's table tells true -/
def MtOk (K : PySem.W.Frag) (mg : Str → Option Value) (mt : List (Str × Bool)) (cs : List Value) (ns : List Str) : Prop := ∀ p ∈ mt, ∃ C, mg p.1 = some (.ref C) ∧ PySem.W.exmAny K (.ref C) cs = some p.2 ∧ Xfl K C ns
inductive JHs (X : Cx) (n : Str) (ns : List Str) : List ExceptHandler → List (List (Str × Bool) × (Addr → Addr → VS)) → Prop
  | nil : JHs X n ns [] []
  | cons {ce : Expr} {cs : List Value} {mt : List (Str × Bool)} {v : Addr → Addr → VS} {b₀ : Stmt} {suite : List Stmt} {pos' : Pos} {hds : List ExceptHandler} {l : List (List (Str × Bool) × (Addr → Addr → VS))} (hc : Ce X ce cs) (hm : MtOk X.K X.mg mt cs ns)
      (hsu : ∀ (a dd C : Addr) (oe : Obj) (pn : List (Addr × Obj)), Zc (.ref C) (some dd) oe → (∃ vs, oe.data = .fields vs) → Xfl X.K C ns → JSs (X.suite a ((a, oe) :: pn)) (fun _ _ _ _ => False) (b₀ :: suite) (v a dd)) (r : JHs X n ns hds l) :
      JHs X n ns (.ExceptHandler (some ce) (some n) (b₀ :: suite) pos' :: hds) ((mt, v) :: l)
section
variable {X : Cx} {W : WX}
/-- a suite's reading -/
def tSu (K : PySem.W.Frag) (mg : Str → Option Value) (ns : List Str) (v : Addr → Addr → VS) : Addr → Value → Option Addr → TS := fun a cls d D σ H => ∃ C dd, cls = .ref C ∧ d = some dd ∧ Xfl K C ns ∧ tVC K mg (fun _ _ _ _ => False) (v a dd) D σ H
theorem JHs.as {n : Str} {ns : List Str} {hds : List ExceptHandler} {l : List (List (Str × Bool) × (Addr → Addr → VS))} (h : JHs X n ns hds l) : ∃ cl : List (List Value), AsOk X n hds ((cl.zip l).map fun p => (p.1, tSu X.K X.mg ns p.2.2)) ∧ cl.length = l.length ∧ ∀ p ∈ cl.zip l, MtOk X.K X.mg p.2.1 p.1 ns := by
  induction h with
  | nil => exact ⟨[], .nil, rfl, fun _ h => by cases h⟩
  | @cons ce cs mt v b₀ suite pos' hds l hc hm hsu _ ih =>
    obtain ⟨cl, h1, h2, h3⟩ := ih
    refine ⟨cs :: cl, ?_, by simp [h2], fun p hp => ?_⟩
    · refine .cons hc (fun a oe cls d pn hz hf => ?_) h1
      exact ⟨fun pins s σ H D I ⟨C, dd, ec, ed, hx, ht⟩ => by
        subst ec ed
        exact (hsu a dd C oe pn hz hf hx).tvc.run pins s σ H D I ht⟩
    · rw [List.zip_cons_cons] at hp
      rcases List.mem_cons.mp hp with rfl | hp
      · exact hm
      · exact h3 p hp
/-! ### e.f of an exception in hand -/
@[reducible] def vXf (a dd : Addr) (n : Str) (ve : VE) : VE := fun s m k x => ve s m (fun d m1 => ∃ fs, d = .exn a dd fs ∧ ∃ d', fs.lookup n = some d' ∧ k d' m1) x
end
end Ts
/-! ### a def that is handed the exception in hand -/
namespace Ts
open PySem PySem.Spec PyProof.Rows L2
section
variable {P : Program} {w : World} {K : PySem.W.Frag} {mg : Str → Option Value} {base : Heap} {x qual : Str} {params : Arguments} {body : List Stmt} {scope : Scope} {dvs : List V} {kws : List (Str × V)} {f : Addr} {fd : FuncData}
end
section
variable {X : Cx} {W : WX}
end
end Ts
/-! ### x(lambda: e) -/
namespace Ts
open PySem PySem.Spec PyProof.Rows L2
section
variable {X : Cx} {pins : List (Addr × Obj)} {σ : L2.St} {H : Hp} {s : Shared}
end
/-- the lambda is called: what it wants of the names of the frame that made it -/
@[reducible] def vAsk (i : Nat) (f c : Addr) (q : Str) (σ : L2.St) (sl : SL) (ve : VE) : VE := fun s m k x => s[i]? = some (some (.clo f c q σ sl)) ∧ ve sl m k x
/-- x(lambda: e): vg is what x's body wants, its parameter's call told -/
@[reducible] def vLam (P : Addr) (q : Str) (n : Nat) (ve : VE) (vg : VE → VS) : VE := fun s m k x => m P = some (.tab q) ∧ ∀ f c σ, vg (vAsk 0 f c q σ s ve) (dstart n [.clo f c q σ s]) m (endP k)
section
variable {X : Cx} {W : WX}
end
end Ts
/-! ### the head: exception classes, the law's table of code objects -/
namespace Ts
open PySem PySem.Spec PyProof.Rows L2
/-- an own exception class: its name, the __init__ that it has, the built-in class that it is over, its fields -/
structure XDef where
  x : Str
  qual : Str
  params : Arguments
  body : List Stmt
  scope : Scope
  B : String
  newId : String
  initId : String
  bmB : List Value
  flds : List Str
abbrev XV : Type := Option (Str × Str × Arguments × FuncBody × Scope × Addr × List Str × Addr)
def XDef.fI (K : PySem.W.Frag) (x : Str) : Addr := He.ma K (He.ga K x) "__init__"
def fnC (K : PySem.W.Frag) (x : Str) : XV := match K.lookup (XDef.fI K x) with
  | some ⟨_, _, .func fd, _⟩ => some (fd.name, fd.qualname, fd.params, fd.body, fd.scope, fd.globals, fd.closure.map (·.1), fd.builtins)
  | _ => none
def XDef.val (d : XDef) : XV := some ("__init__", d.qual, d.params, .stmts d.body, d.scope, mainGlobals, ["__class__"], builtinsNs)
/-- where its code and its cell stand -/
def XDef.at_ (K : PySem.W.Frag) (x : Str) : Option (Addr × Addr) := match K.lookup (XDef.fI K x) with
  | some ⟨_, _, .func fd, _⟩ => (match fd.code, fd.closure, fd.defaults with
    | .ref c, [(_, cc)], .none => some (c, cc)
    | _, _, _ => none)
  | _ => none
def codeF (K : PySem.W.Frag) (file : Str) (c : Addr) : Bool := match K.lookup c with
  | some ⟨_, _, .fields vs, _⟩ => (match (vs[2]? : Option Value) with
    | some (.str f _) => decide (f = file)
    | _ => false)
  | _ => false
def cellF (K : PySem.W.Frag) (cc C : Addr) : Bool := match K.lookup cc with
  | some ⟨_, _, .cell (some (.ref c)), _⟩ => decide (c = C)
  | _ => false
def XDef.clsB (K : PySem.W.Frag) (d : XDef) : Bool := (He.Fa.glo d.x).ok K && PySem.W.excInitIn K (He.ga K d.x) d.bmB d.newId && PySem.W.excOver K (He.ga K d.x) d.bmB && decide (PySem.W.findIn K (.ref (He.ga K d.x)) "__setattr__" = some (some (.builtin "object.__setattr__"))) &&
  PySem.W.hasDictIn K (He.ga K d.x) && decide (PySem.W.subIn K (.ref (He.ga K d.x)) (.type "BaseException") = some true) && decide (PySem.W.subIn K (.ref (He.ga K d.x)) (.type d.B) = some true) && decide (PySem.W.typeIn K (.ref (He.ga K d.x)) = some (.type "type")) && PySem.W.keepIn K (.ref (He.ga K d.x)) &&
  decide (PySem.W.ks_superIn K (He.ga K d.x) (He.ga K d.x) "__init__" = some (some (.builtin d.initId))) && decide (PySem.W.mroIn K (He.ga K d.x) (.ref (He.ga K d.x)) = some true) && decide (PySem.W.nsIn K cStatics "thirdparty.any" = some none) && decide (PySem.W.nsIn K mainGlobals "super" = some none) && d.flds.all fun f => decide (PySem.W.takerIn K (He.ga K d.x) f = some none)
def XDef.iniB (K : PySem.W.Frag) (file : Str) (d : XDef) : Bool := decide (PySem.W.findIn K (.ref (He.ga K d.x)) "__init__" = some (some (.ref (XDef.fI K d.x)))) && PySem.W.isFn K (.ref (XDef.fI K d.x)) && (match XDef.at_ K d.x with
  | some (c, cc) => PySem.W.codeIn K (.ref c) d.qual && codeF K file c && cellF K cc (He.ga K d.x)
  | none => false)
/-- all that is known of it -/
structure XF (P : Program) (K : PySem.W.Frag) (mg : Str → Option Value) (d : XDef) : Prop where
  ex : ∃ C fI cda cc kV doc pm an ct oc od osl, mg d.x = some (.ref C) ∧ XCls K C d.B d.newId d.initId d.bmB ∧ (∀ f ∈ d.flds, PySem.W.takerIn K C f = some none) ∧ K.lookup fI = some ⟨oc, od, .func (PySem.W.ksFn "__init__" d.qual d.params d.body d.scope .none kV doc pm an (.ref cda) ct cc), osl⟩ ∧
    XIni K P C fI d.qual d.params d.body d.scope cda cc (PySem.W.ksFn "__init__" d.qual d.params d.body d.scope .none kV doc pm an (.ref cda) ct cc)
theorem XF.mk1 {P : Program} {w : World} {K : PySem.W.Frag} {mg : Str → Option Value} {d : XDef} (Z : XF P K mg d) {f a sf tg tv msg : Str} {j j2 : Nat} {p0 p1 p2 p3 p4 p5 q1 q2 q3 q4 r1 r2 r3 r4 : Pos} {ar : Arg} {pl : Sem Bool}
    (hbody : d.body = [xrow msg j p0 p1 p2 p3 p4 p5, srow sf f (.Name a q3) q1 q2 q4, srow sf tg (.Constant (.str tv) j2 r3) r1 r2 r4])
    (hev : ∀ env : Env, PySem.eval (.Call (.Attribute (.Call (.Name "super" p0) [] [] p1) "__init__" p2) [.Constant (.str msg) j p3] [] p4) env = (do
      let ov ← attributeBase (.Call (.Name "super" p0) [] [] p1) "__init__" env (PySem.eval (.Call (.Name "super" p0) [] [] p1) env)
      standAt p2.atName
      let (f, first) ← holding [ov] (getMethod ov "__init__" pl)
      callWith p4 f first (backTo p4 (starEach [.Constant (.str msg) j p3] env)) []))
    (FB : ExcBaseFacts d.B d.newId d.initId d.bmB) (KF : PySem.W.KxsFacts d.B d.initId) (SF : StoreFacts d.B d.bmB "object.__setattr__" "object") (S : XSc d.scope sf) (hpar : (d.params.posonlyargs ++ d.params.args).head? = some ar) (har : ar.arg = sf) (htop : (P.main.scope.names.lookup ("super" : Str)).isSome = false)
    (hb : ∀ (kV doc pm : Value) (an : Option Addr) (cd ct : Value) (cc : Addr) (e u : Value), bindArgs (PySem.W.ksFn "__init__" d.qual d.params d.body d.scope .none kV doc pm an cd ct cc) ⟨[e, u], []⟩ = pure [(sf, e), (a, u)]) (ha : d.scope.names.lookup a = some .local) (hsf : a ≠ sf) (da : (a == ("__debug__" : Str)) = false) (ds : (sf == ("__debug__" : Str)) = false)
    (s1 : ∀ env : Env, swapsWith (.Name a q3) (some (.Attribute (.Name sf q1) f q2)) q4.line env = pure false) (s2 : ∀ env : Env, swapsWith (.Constant (.str tv) j2 r3) (some (.Attribute (.Name sf r1) tg r2)) r4.line env = pure false) (m1 : f ∈ d.flds) (m2 : tg ∈ d.flds) : Mk1 P w K mg d.x f tg tv := by
  obtain ⟨C, fI, cda, cc, kV, doc, pm, an, ct, oc, od, osl, hm, T, tk, lk, J⟩ := Z.ex
  refine ⟨C, hm, T.kC, T.exC, T.tyC, fun A E hp g dr t os u Q Y hd hQ => ?_⟩
  have hb' := hb
  rw [hbody] at J hb'
  exact xmade1 hev FB KF SF T J S Y hpar har htop hd (fun s e => .of_eq (hb' kV doc pm an (.ref cda) ct cc e u)) ha hsf da ds s1 s2 (tk f m1) (tk tg m2) hQ
/-! the hook -/
def lawTab (K : PySem.W.Frag) : Option (Addr × Addr) := match K.lookup (He.ga K "law") with
  | some ⟨_, _, .func fd, _⟩ => (match fd.code with
    | .ref c => (match K.lookup c with
      | some ⟨_, _, .fields vs, _⟩ => (match (vs[11]? : Option Value) with
        | some (.ref P) => some (c, P)
        | _ => none)
      | _ => none)
    | _ => none)
  | _ => none
def asX (g : Addr → Option Obj) (n : Nat) : List Addr := match lawTab (He.frG g (He.asD g n)) with
  | some (_, P) => cStatics :: (He.asD g n).filter fun a => a != P
  | none => cStatics :: He.asD g n
def emptyT : Option Obj → Bool
  | some ⟨.none, none, .fields vs, sl⟩ => vs.isEmpty && sl.isEmpty
  | _ => false
theorem emptyT_ok {o : Option Obj} (h : emptyT o = true) : o = some { cls := .none, data := .fields #[] } := by
  unfold emptyT at h
  split at h
  · rename_i vs sl
    obtain ⟨h1, h2⟩ := Bool.and_eq_true_iff.mp h
    rw [Array.isEmpty_iff.mp h1, Array.isEmpty_iff.mp h2]
  · cases h
def tabOk (g : Addr → Option Obj) (K : PySem.W.Frag) : Bool := match lawTab K with
  | some (c, P) => PySem.W.codeHdIn K c P && (K.lookup P).isNone && emptyT (g P)
  | none => false
abbrev AlX : Type := He.AlD × Bool × List XV
def boolX (tb : List Tb) (xs : List XDef) (file : Str) (K : PySem.W.Frag) : Bool := (tb.all fun t => t K) && xs.all fun d => d.clsB K && d.iniB K file
def obsXG (n : Nat) (fa : List He.Fa) (fn : List He.DefD) (tb : List Tb) (xs : List XDef) (file : Str) (g : Addr → Option Obj) : AlX :=
  (He.obsD fa fn (He.frG g (asX g n)), boolX tb xs file (He.frG g (asX g n)) && tabOk g (He.frG g (asX g n)), xs.map fun d => fnC (He.frG g (asX g n)) d.x)
structure SaysX (fa : List He.Fa) (fn : List He.DefD) (tb : List Tb) (xs : List XDef) (file : Str) (K : PySem.W.Frag) : Prop where
  d : He.SaysD fa fn K
  b : boolX tb xs file K = true
  x : (xs.map fun d => fnC K d.x) = xs.map XDef.val
def hookX (n : Nat) (fa : List He.Fa) (fn : List He.DefD) (tb : List Tb) (xs : List XDef) (file : Str) : PySem.W.Hook where
  α := AlX
  obs := fun s => obsXG n fa fn tb xs file s.heap.get?
  val := fun _ => (He.valD fn, true, xs.map XDef.val)
  says := fun _ h => ∃ (K : PySem.W.Frag) (c P : Addr), K.In h ∧ SaysX fa fn tb xs file K ∧ lawTab K = some (c, P) ∧ PySem.W.codeHdIn K c P = true ∧ K.lookup P = none ∧ h.get? P = some { cls := .none, data := .fields #[] }
  of := fun _ s e => by
    obtain ⟨e1, e2⟩ := Prod.mk.inj e
    obtain ⟨e2, e3⟩ := Prod.mk.inj e2
    obtain ⟨e4, e5⟩ := Bool.and_eq_true_iff.mp e2
    unfold tabOk at e5
    split at e5
    · rename_i c P q
      simp only [Bool.and_eq_true] at e5
      obtain ⟨⟨h1, h2⟩, h3⟩ := e5
      exact ⟨_, c, P, He.frG_in, ⟨e1, e4, e3⟩, q, h1, Option.isNone_iff_eq_none.mp h2, emptyT_ok h3⟩
    · cases e5
  keeps := fun _ _ _ ⟨K, c, P, hK, x, q, h1, h2, h3⟩ k => ⟨K, c, P, PySem.W.Frag.In.keeps hK k, x, q, h1, h2, k _ _ h3⟩
section
variable {fa : List He.Fa} {fn : List He.DefD} {tb : List Tb} {xs : List XDef} {file : Str} {K : PySem.W.Frag}
theorem SaysX.tab (c : SaysX fa fn tb xs file K) (i : Nat) {t : Tb} (h : tb[i]? = some t) : t K = true :=
  List.all_eq_true.mp (Bool.and_eq_true_iff.mp c.b).1 t (List.mem_of_getElem? h)
end
/-! the law with a table -/
def SpLawT (K : PySem.W.Frag) (P : Addr) : Sp := fun vs H Q _ => ∃ (a : Addr) (ns : List Int), vs = [.ref a] ∧ SqL K H a (ns.map V.int) ∧ H P = some (.tbl #[]) ∧ ns.length ≤ 63 ∧ ∀ H', Q (.bl true) H'
section
variable {P : Program} {w : World} {K : PySem.W.Frag} {mg : Str → Option Value} {base : Heap} {x qual : Str} {params : Arguments} {body : List Stmt} {scope : Scope} {dvs : List V} {kws : List (Str × V)} {f : Addr} {fd : FuncData}
theorem fn_lawT {v : Addr → VS} {N : List Str} {s q : Str} {k : Nat} {c Pt : Addr} (F : FunD K x qual params body scope dvs kws f fd) (S : FnScope N [s] scope) (hc : fd.code = .ref c)
    (hb : ∀ (A : Around) (outer : List Env) (s : Shared) (H : Hp) (E : XK), Room k (A.deeper (envOfC qual scope s.heap.objs.size f (.ref c))) → JSs (cxOf CX0 P w K mg base N qual scope f (.ref c) A outer s H E).nox (fun _ _ _ _ => False) body (v Pt))
    (hw : ∀ (Pt a : Addr) (ns : List Int), ns.length ≤ 63 → v Pt (dstart N.length [.lat a (ns.map D.int)]) (mset (fun _ => none) Pt (.tab q)) endLaw) : FnOk P w K mg base CX0 (k + 1) f fd [s] (SpLawT K Pt) := by
  obtain ⟨oc, od, dV, kV, doc, pm, an, cdv, ct, osl, rfl, lk, hcd, _, _⟩ := F.ex
  obtain rfl : cdv = .ref c := hc
  refine fn_of lk hcd S (fun vs H Q E ⟨a, ns, e, _⟩ => by rw [e]; rfl) fun A outer s H vs Q E hr ⟨a, ns, ev, sq, hP, hl, fin⟩ => ?_
  subst ev
  obtain ⟨t, ht, hs⟩ := hb A outer s H E hr
  refine ⟨t, ht.nox, ?_⟩
  have key : ∃ F : Hp, Le F H ∧ SqL K F a (ns.map V.int) ∧ F Pt = none := by
    have one : ∀ u : HO, H a = some u → Le (fun b => if b = a then some u else none) H := fun u h b o e => by
      have e : (if b = a then some u else none) = some o := e
      by_cases hb : b = a
      · rw [if_pos hb] at e; cases e; rw [hb]; exact .inl h
      · rw [if_neg hb] at e; cases e
    have off : ∀ u : HO, H a = some u → (∀ ps, u ≠ .tbl ps) → (fun b => if b = a then some u else (none : Option HO)) Pt = none := fun u h n => if_neg fun z => by
      rw [← z, hP] at h
      exact n _ (Option.some.inj h).symm
    rcases sq with (h | ⟨o, h⟩) | h
    · exact ⟨_, one _ h, .inl (.inl (if_pos rfl)), off _ h fun ps z => by cases z⟩
    · exact ⟨_, one _ h, .inl (.inr ⟨o, if_pos rfl⟩), off _ h fun ps z => by cases z⟩
    · exact ⟨fun _ => none, fun _ _ e => (nomatch e), .inr h, rfl⟩
  obtain ⟨F, l, sf, fP⟩ := key
  have mr : MemR K mg F H (mset (fun _ => none) Pt (.tab q)) := fun b o e => by
    by_cases hb : b = Pt
    · subst hb
      rw [mset_same] at e
      cases e
      exact ⟨fP, #[], hP, True.intro, fun pos cv z => by simp [codeAmong] at z⟩
    · rw [mset_ne hb] at e; cases e
  refine hs _ F H _ _ _ l (env_start mr (.cons (.lat sf (RpL.ints ns)) .nil)) (hw Pt a ns hl) _ ⟨fun _ _ _ _ _ _ _ g => g.elim, fun v d F' H' m' st r g => ?_, fun _ _ _ _ _ _ _ g => g.elim, fun _ _ _ _ _ _ _ g => g.elim, fun _ _ _ _ _ _ _ _ _ _ _ g => g.elim⟩
  have g : d = .bl true := g
  subst g
  rw [r.blI]
  exact fin H'
end
theorem walk_ofTB {l : PySem.W.OpenLaw} {n k : Nat} {q : Program} {loose : List Str} {XP : (Str → Option Value) → Heap → Prop} {YP : World → Heap → Prop} {d : DefRec} {x : Str}
    (hn : l.most = some n) (hn2 : n ≤ sizeLine) (hdf : d.params.defaults = []) (hr : Room k callerA)
    (F : ∀ (w : World) (mg : Str → Option Value) (fa : Addr) (h : Heap), YP w h → h.Ns mainGlobals mg → mg d.name = some (.ref fa) →
      ∃ (K : PySem.W.Frag) (fd : FuncData) (c P : Addr) (sp : Sp), K.In h ∧ h.get? P = some { cls := .none, data := .fields #[] } ∧ K.lookup P = none ∧ PySem.W.CodeHd h c P ∧ (∀ (s : Shared) (u : Value), BindsTo s fd ⟨[u], []⟩ [(x, u)]) ∧
        (∀ (H : Hp) (a : Addr) (ns : List Int), ns.length ≤ n → H P = some (.tbl #[]) → SqL K H a (ns.map V.int) → sp [.ref a] H (fun v _ => v = .bl true) fun _ _ _ => False) ∧
        ∀ base : Heap, K.In base → base.Ns mainGlobals mg → LamX.TabB base mg c P → FnOk l.prog w K mg base CX0 k fa fd [x] sp) :
    PySem.W.WalkO q loose XP YP l.row.toRowW d [] (fun f vs => PySem.call f vs) := by
  refine Att.attach_callB hn hdf fun w s₀ s₁ mg mb fa o pm cd doc a vs ns G Y ho hd hcd hmg hobj hints hlen hbits hg => ?_
  obtain ⟨K, fd, c, P, sp, KX, hT, nT, C, hb, hsp, hF⟩ := F w mg fa _ Y G.T.g hmg
  have one : ∀ {φ : Addr × Addr → Prop}, φ (c, P) → ∀ p ∈ [(c, P)], φ p := fun {φ} h p hp => by rw [List.mem_singleton.mp hp]; exact h
  exact LamX.law_callTs (cs := [(c, P)]) KX G.T.g G.T.b G.T.builtins G.T.nolimit hg (one hT) (one nT) (one C) G.T.bmain hobj hints (Nat.le_trans hlen hn2) hr (fun base h1 h2 h3 => hF base h1 h2 (h3 _ List.mem_cons_self)) hb (fun H hH hS => hsp H a ns hlen (hH _ List.mem_cons_self) hS) fun H e s' z => z
end Ts
/-! ### a def that is handed a lambda, by its name -/
theorem L2H.RoomH.units {k : Nat} {A : PySem.Around} (r : L2H.RoomH k A) : A.units + 64 < PySem.cLine := by have := r.un; omega
namespace Ts
open PySem PySem.Spec PyProof.Rows L2
@[reducible] def lamQ (x : Str) : Str := x ++ ".<locals>." ++ "<lambda>"
section
variable {X : Cx} {W : WX}
end
theorem lawTab_code {K : PySem.W.Frag} {fd : FuncData} {c Pt : Addr} {oc : Value} {od : Option Addr} {osl : Array (Option Value)} (h : lawTab K = some (c, Pt)) (lk : K.lookup (He.ga K "law") = some ⟨oc, od, .func fd, osl⟩) : fd.code = .ref c := by
  unfold lawTab at h
  rw [lk] at h
  dsimp only at h
  split at h
  · rename_i c' e
    split at h
    · split at h
      · cases h; exact e
      · cases h
    · cases h
  · cases h
end Ts
/-! ### defaults, calls by keywords -/
namespace Ts
open PySem PySem.Spec PyProof.Rows L2
section
variable {K : PySem.W.Frag} {x qual : Str} {params : Arguments} {body : List Stmt} {scope : Scope} {dvs : List V} {f : Addr} {fd : FuncData} {ps : List Str}
end
/-- the order of the parameters out of the order of the keywords -/
structure PermF where
  g : {α : Type} → List α → List α
  p : ∀ {α β : Type} {R : α → β → Prop} {xs : List α} {ys : List β}, Paired R xs ys → Paired R (g xs) (g ys)
  r : ∀ {K : PySem.W.Frag} {mg : Str → Option Value} {F : Hp} {xs : List V} {ys : List D}, RpL K mg F xs ys → RpL K mg F (g xs) (g ys)
structure FnKX (P : Program) (w : World) (K : PySem.W.Frag) (mg : Str → Option Value) (base : Heap) (x : Str) (k : Nat) (ks : List Str) (g : PermF) (φ : PX) : Prop where
  ex : ∃ f, mg x = some (.ref f) ∧ PySem.W.keepIn K (.ref f) = true ∧ ∀ (A : Around) (outer : List Env) (s : Shared) (H : Hp) (ws : List Value) (zs : List V) (Q : VK) (E : XK), Room k A → Env0 P w K mg base A outer s H → Vals zs ws → zs.length = ks.length → SpX K mg φ (g.g zs) H Q E →
    codeAny (model P w) A (.call (.ref f) ⟨[], ks.zip ws⟩) (CR (L2.CX P w) outer P w H s Q E) s
section
variable {P : Program} {w : World} {K : PySem.W.Frag} {mg : Str → Option Value} {base : Heap} {x : Str} {k : Nat}
theorem FnKX.mk1 {φ : PX} {f : Addr} {fd : FuncData} {ps ks : List Str} {g : PermF} (hm : mg x = some (.ref f)) (kp : PySem.W.keepIn K (.ref f) = true) (F : FnOk P w K mg base (L2.CX P w) k f fd ps (SpX K mg φ)) (hb : ∀ (s : Shared) (ws : List Value), K.In s.heap → ws.length = ks.length → BindsTo s fd ⟨[], ks.zip ws⟩ (ps.zip (g.g ws))) : FnKX P w K mg base x k ks g φ :=
  ⟨f, hm, kp, fun A outer s H ws zs Q E hr e0 r hl hsp => F.run A outer s H ⟨[], ks.zip ws⟩ (g.g ws) (g.g zs) Q E hr e0 (hb s ws (e0.mod.kin.keeps fun b o e => (e0.bs b o e).1) (r.length.symm.trans hl)) (g.p r) hsp⟩
end
section
variable {X : Cx} {W : WX}
/-- x(k = e, ..) -/
@[reducible] def vCallKX (n : Nat) (g : PermF) (φ : PX) (a : VA) : VE := fun s m k x => a s m (fun ds m1 => ds.length = n ∧ φ (g.g ds) m1 k x) x
end
end Ts
/-! ### partition -/
namespace Ts
open PySem PySem.Spec PyProof.Rows L2
/-- the text ahead of the first sep, sep, the text behind it -/
def partL (b a : List Nat) : List Nat × List Nat × List Nat := match TL.par b [] a with
  | some (p, q) => (p, b, q)
  | none => (a, [], [])
def oPartn (x y : Str) (k : D → Prop) : Prop := ∃ a b : List Nat, x = S a ∧ y = S b ∧ b ≠ [] ∧ a.length ≤ 1000000 ∧ k (.pr [.str (S (partL b a).1), .str (S (partL b a).2.1), .str (S (partL b a).2.2)])
@[reducible] def vPartn (a b : VE) : VE := fun s m k x => a s m (fun d m1 => onS d fun z => b s m1 (fun e m2 => onS e fun y => oPartn z y fun r => k r m2) x) x
section
variable {X : Cx} {W : WX}
end
end Ts
/-! ### dicts that change; keys walked; dict comprehensions; xs[::-1] -/
namespace Ts
open PySem PySem.Spec PyProof.Rows L2
section
variable {X : Cx} {W : WX} {pos : Pos}
/-- {}: a new dict of the memory -/
@[reducible] def vDNewO : VE := fun _ m k _ => ∀ p, m p = none → k (.ref p) (mset m p (.dic []))
/-- d.get(k, x) -/
@[reducible] def vDGet2 (a b c : VE) : VE := fun s m k x => a s m (fun d m1 => onO (asK m1 d) fun _ => b s m1 (fun y m2 => c s m2 (fun z m3 => onO (asK m3 d) fun kvs => onO (keyD y) fun c => k ((valD kvs c).getD z) m3) x) x) x
/-- d[k] = v -/
def onDo : Option MO → (List (Key × D) → Prop) → Prop
  | some (.dic kvs), k => k kvs
  | _, _ => False
def onD : Mem → D → (Addr → List (Key × D) → Prop) → Prop
  | m, .ref p, k => onDo (m p) (k p)
  | _, _, _ => False
theorem onD_of {m : Mem} {d : D} {k : Addr → List (Key × D) → Prop} (h : onD m d k) : ∃ p kvs, d = .ref p ∧ m p = some (.dic kvs) ∧ k p kvs := by
  cases d with
  | ref p =>
    have h : onDo (m p) (k p) := h
    cases hm : m p with
    | none => rw [hm] at h; exact h.elim
    | some o =>
      rw [hm] at h
      cases o with
      | dic kvs => exact ⟨p, kvs, rfl, hm, h⟩
      | _ => exact h.elim
  | _ => exact h.elim
@[reducible] def vDPut (o i a : VE) : VS := fun s m G => a s m (fun e m1 => o s m1 (fun d m2 => i s m2 (fun j m3 => onD m3 d fun p kvs => onO (keyD j) fun c => kvs.length < 1000000 ∧ G.nx s (mset m3 p (.dic (putD kvs c e)))) fun e m' => G.ex e s m') fun e m' => G.ex e s m') fun e m' => G.ex e s m'
theorem js_dput {o i e : Expr} {vo vi ve : VE} {pos pos' : Pos} (hu : X.A.units + 1 < cLine) (he : JE X W e ve) (ho : JE X W o vo) (hi : JE X W i vi) (hs : swapsWith e (some (.Subscript o i pos')) pos.line X.env = pure false := by rfl) : JS X W (.Assign [.Subscript o i pos'] e pos) (vDPut vo vi ve) := by
  obtain ⟨t, p1, s1⟩ := he; obtain ⟨to, p2, s2⟩ := ho; obtain ⟨ti, p3, s3⟩ := hi
  refine ⟨_, ps_dput hu p2 p3 p1 hs, fun σ F H s m G l en h E L => s1 σ F H s m _ _ l en h (L.x en) _ fun v d F1 H1 m1 t1 r1 k1 => s2 σ F1 H1 s m1 _ _ t1.le (en.stm t1) k1 ((L.x en).after t1) _ fun w d' F2 H2 m2 t2 r2 k2 =>
    s3 σ F2 H2 s m2 _ _ t2.le ((en.stm t1).stm t2) k2 (((L.x en).after t1).after t2) _ fun y j F3 H3 m3 t3 r3 k3 => ?_⟩
  obtain ⟨p, kvs, rfl, hm, k3⟩ := onD_of k3
  obtain ⟨c, hc, hz, k3⟩ := onO_of k3
  obtain ⟨_, ys, e', rl⟩ := t3.mr p _ hm
  have st := (t1.trans t2).trans t3
  have sp := StM.put (o := .dK (putK ys c v)) t3.le t3.mr hm rfl (u := .dic (putD kvs c d)) ⟨_, upd_same, rl.put (r1.mono (t2.gr.trans t3.gr))⟩
  refine ⟨p, _, r2.refI, .inl ⟨ys, c, e', keyD_ok hc r3, ?_, rfl⟩, L.nx σ s F3 _ _ (st.trans sp) (en.stm (st.trans sp)) k3⟩
  rw [rl.len]
  have : sizeLine > 1000000 := by decide
  omega
/-- keys as data -/
def kD : Key → D
  | .inl i => .int i
  | .inr z => .str z
theorem kD_rp {K : PySem.W.Frag} {mg : Str → Option Value} {F : Hp} (c : Key) : Rp K mg F (kV c) (kD c) := by
  cases c with
  | inl i => exact .int i
  | inr z => exact .str z
def keysD (kvs : List (Key × D)) : List D := kvs.map fun kv => kD kv.1
theorem keysD_len (kvs : List (Key × D)) : (keysD kvs).length = kvs.length := by simp [keysD]
/-- for k in d: a frozen dict -/
def kyD : D → (List D → Prop) → Prop
  | .dic kvs, k => k (keysD kvs)
  | _, _ => False
@[reducible] def vKeys (a : VE) : VF := fun s m k x => a s m (fun d m' => kyD d fun ds => k ds m') x
theorem jf_keys {e tg : Expr} {ve : VE} (h : JE X W e ve) : JF X W tg e (vKeys ve) := by
  obtain ⟨t, p, s1⟩ := h
  refine ⟨_, pi_keys p, fun σ F H s m k x l en hv hx R q => s1 σ F H s m _ x l en hv hx _ fun v d F1 H1 m1 t1 r1 k1 => ?_⟩
  cases d with
  | dic kvs =>
    obtain ⟨a, o, xs, rfl, hf, rk⟩ := r1.dicI
    refine ⟨a, o, rfl, .inl ⟨xs, t1.le.at hf id, q _ (keysD kvs) F1 H1 m1 t1 ?_ k1⟩⟩
    intro F' H' m' i gr le _ _
    have hH : H' a = some (.frz o (.dK xs)) := le.at (gr _ _ hf) id
    refine ⟨fun hi => ⟨hH, by rw [rk.len]; rw [keysD_len] at hi; exact hi⟩, fun hi => ⟨hH, by rw [rk.len]; rw [keysD_len] at hi; exact hi⟩, fun x H2 hi y => ?_⟩
    obtain ⟨eH, c, v, hc, ex⟩ := y
    subst eH ex
    refine ⟨kD c, F', ?_, Step.refl le, kD_rp c⟩
    have hk := rk.keys
    have h1 : (xs.map (·.1))[i]? = some c := by rw [List.getElem?_map, hc]; rfl
    rw [hk] at h1
    rw [keysD, List.getElem?_map]
    rw [List.getElem?_map] at h1
    cases hq : kvs[i]? with
    | none => rw [hq] at h1; cases h1
    | some z => rw [hq] at h1; cases h1; rfl
  | _ => exact k1.elim
theorem keys_rp {K : PySem.W.Frag} {mg : Str → Option Value} {F : Hp} : ∀ {xs : List (Key × V)} {ds : List (Key × D)}, RpK K mg F xs ds → RpL K mg F (xs.map fun kv => kV kv.1) (keysD ds)
  | _, _, .nil => .nil
  | _, _, .cons (k := c) r s => .cons (kD_rp c) (keys_rp s)
/-- list(d) -/
def oListD : OA
  | [d], m, k => onO (asK m d) fun kvs => k (.lst (keysD kvs)) m
  | _, _, _ => False
theorem jo_listD (hc : X.calm = true) : JOA X (.type "list") oListD := ⟨_, call_listD hc, fun F H m xs us k l mr r h Q q => by
  unfold oListD at h
  split at h
  · obtain ⟨u, rfl, a⟩ := r.one
    obtain ⟨kvs, h1, h⟩ := onO_of h
    obtain ⟨p, xs, rfl, rd, rk⟩ := a.asKD l mr h1
    refine ⟨p, xs, rfl, rd, fun n hn => ?_⟩
    have st := Step.new (F := F) (o := .lst (xs.map fun kv => kV kv.1)) l hn
    exact q _ _ _ _ m (st.stm mr) (.lst upd_same ((keys_rp rk).mono st.gr)) h
  · exact h.elim⟩
/-- xs[::-1] -/
def oRev (d : D) (m : Mem) (k : D → Mem → Prop) : Prop := onO (asL m d) fun ds => k (.lst ds.reverse) m
@[reducible] def vRev (a : VE) : VE := fun s m k x => a s m (fun d m' => oRev d m' k) x
end
/-! ### {k: v for ..} -/
def dcV (g : VG) (t : VT) (ek ev : VE) (s : SL) : List D → List (Key × D) → Mem → (List (Key × D) → Mem → Prop) → Prop
  | [], acc, m, k => k acc m
  | d :: ds, acc, m, k => g d s fun s1 => t s1 m (fun b m2 => if b = true then ek s1 m2 (fun y m3 => ev s1 m3 (fun z m4 => onO (keyD y) fun c => dcV g t ek ev s ds (putD acc c z) m4 k) fun _ _ => False) fun _ _ => False else dcV g t ek ev s ds acc m2 k) fun _ _ => False
@[reducible] def vDc (i : VF) (g : VG) (t : VT) (ek ev : VE) (own : List Nat) : VE := fun s m k x => i s m (fun ds m1 => ds.length ≤ 1000000 ∧ dcV g t ek ev (wipeD s own) ds [] m1 fun es m2 => k (.dic es) m2) x
section
variable {X : Cx} {W : WX} {kx vx tg iter : Expr} {ifs : List Expr} {scope : Scope} {own : List (Str × Nat)} {pos : Pos} {vf : VF} {vg : VG} {vt : VT} {vk ve : VE} {js : List Nat}
end
end Ts
/-! ### list(text); a lambda within a comprehension -/
namespace Ts
open PySem PySem.Spec PyProof.Rows L2
section
variable {X : Cx} {W : WX}
def oListS : OA
  | [.str z], m, k => z.length ≤ 1000000 ∧ k (.lst (signs z)) m
  | _, _, _ => False
end
end Ts
/-! ### own classes: instances, their fields, methods, making them -/
namespace Ts
open PySem PySem.Spec PyProof.Rows L2
/-- a class by its name; no class of it has the names fl -/
structure ClN (K : PySem.W.Frag) (mg : Str → Option Value) (C : Str) (fl : List Str) : Prop where
  ex : ∃ Ca, mg C = some (.ref Ca) ∧ Cls K Ca ∧ ∀ f ∈ fl, NoAttr K Ca f
/-- the fields of an instance of the class C, frozen or in the memory -/
def insO (C : Str) : Option MO → Option (List (Str × D))
  | some (.ins C' fs) => if C' = C then some fs else none
  | _ => none
def asI (C : Str) (m : Mem) : D → Option (List (Str × D))
  | .obj C' fs => if C' = C then some fs else none
  | .ref p => insO C (m p)
  | _ => none
theorem insO_1 {C : Str} {fs : List (Str × D)} : insO C (some (.ins C fs)) = some fs := if_pos rfl
theorem asI_1 {C : Str} {m : Mem} {fs : List (Str × D)} : asI C m (.obj C fs) = some fs := if_pos rfl
theorem asI_2 {C : Str} {m : Mem} {p : Addr} : asI C m (.ref p) = insO C (m p) := rfl
section
variable {K : PySem.W.Frag} {mg : Str → Option Value} {F H : Hp}
theorem Rp.asIns {m : Mem} {C : Str} {d : D} {ds : List (Str × D)} {v : V} (l : Le F H) (mr : MemR K mg F H m) (r : Rp K mg F v d) (h : asI C m d = some ds) : ∃ a Ca dx xs, v = .ref a ∧ mg C = some (.ref Ca) ∧ H a = some (.ins Ca dx xs) ∧ RpK K mg F xs ds := by
  unfold asI at h
  split at h
  · split at h
    · rename_i e
      subst e
      cases h
      cases r with
      | obj hm hf rk => exact ⟨_, _, _, _, rfl, hm, l.ins hf, rk⟩
    · cases h
  · rename_i p
    obtain rfl := r.refI
    cases q : m p with
    | none => rw [q] at h; cases h
    | some o =>
      rw [q] at h
      cases o with
      | ins C' fs =>
        unfold insO at h
        dsimp only at h
        split at h
        · rename_i e
          subst e
          cases h
          obtain ⟨_, Ca, dx, xs, h1, h2, h3⟩ := mr p _ q
          exact ⟨p, Ca, dx, xs, rfl, h1, h2, h3⟩
        · cases h
      | _ => cases h
  · cases h
def putFD (f : Str) (v : D) : List (Str × D) → List (Str × D)
  | [] => [(f, v)]
  | (g, x) :: r => if g = f then (g, v) :: r else (g, x) :: putFD f v r
theorem RpK.putF {f : Str} {u : V} {d : D} (ru : Rp K mg F u d) : ∀ {xs : List (Str × V)} {ds : List (Str × D)}, RpK K mg F xs ds → RpK K mg F (L2.putF f u xs) (putFD f d ds)
  | _, _, .nil => .cons ru .nil
  | _, _, .cons (k := g) r s => by
    show RpK K mg F (if g = f then _ else _) (if g = f then _ else _)
    split
    · exact .cons ru s
    · exact .cons r (RpK.putF ru s)
end
section
variable {X : Cx} {W : WX} {pos pos' : Pos}
/-- o.f -/
@[reducible] def vFld (C f : Str) (a : VE) : VE := fun s m k x => a s m (fun d m1 => onO (asI C m1 d) fun fs => onO (fs.lookup f) fun v => k v m1) x
theorem je_fld {C f : Str} {fl : List Str} {e : Expr} {ve : VE} (c : ClN X.K X.mg C fl) (hf : f ∈ fl) (he : JE X W e ve) (hb : attributeBase e f X.env (eval e X.env) = eval e X.env := by rfl) : JE X W (.Attribute e f pos) (vFld C f ve) := by
  obtain ⟨Ca, h1, h2, h3⟩ := c.ex; obtain ⟨t, p, s1⟩ := he
  refine ⟨_, pe_fld p hb, fun σ F H s m k x l en hv hx Q q => s1 σ F H s m _ x l en hv hx _ fun v d F1 H1 m1 t1 r1 k1 => ?_⟩
  obtain ⟨fs, e1, k1⟩ := onO_of k1
  obtain ⟨z, e2, k1⟩ := onO_of k1
  obtain ⟨a, Ca', dx, xs, rfl, hm, hH, rk⟩ := r1.asIns t1.le t1.mr e1
  rw [h1] at hm
  cases hm
  obtain ⟨u, e3, r3⟩ := rk.lookup e2
  exact ⟨a, Ca, dx, xs, u, rfl, hH, h2, h3 f hf, e3, q _ _ F1 H1 m1 t1 r3 k1⟩
/-- an instance of the memory -/
def onIo (C : Str) : Option MO → (List (Str × D) → Prop) → Prop
  | some (.ins C' fs), k => C' = C ∧ k fs
  | _, _ => False
def onI (C : Str) : Mem → D → (Addr → List (Str × D) → Prop) → Prop
  | m, .ref p, k => onIo C (m p) (k p)
  | _, _, _ => False
theorem onI_of {C : Str} {m : Mem} {d : D} {k : Addr → List (Str × D) → Prop} (h : onI C m d k) : ∃ p fs, d = .ref p ∧ m p = some (.ins C fs) ∧ k p fs := by
  cases d with
  | ref p =>
    have h : onIo C (m p) (k p) := h
    cases hm : m p with
    | none => rw [hm] at h; exact h.elim
    | some o =>
      rw [hm] at h
      cases o with
      | ins C' fs => obtain ⟨e, h2⟩ := (show C' = C ∧ k p fs from h); subst e; exact ⟨p, fs, rfl, hm, h2⟩
      | _ => exact h.elim
  | _ => exact h.elim
/-- o.f = e -/
@[reducible] def vSetF (C f : Str) (o a : VE) : VS := fun s m G => a s m (fun e m1 => o s m1 (fun d m2 => onI C m2 d fun p fs => fs.length < 1000 ∧ G.nx s (mset m2 p (.ins C (putFD f e fs)))) fun e m' => G.ex e s m') fun e m' => G.ex e s m'
theorem js_fld {C f : Str} {fl : List Str} {o e : Expr} {vo ve : VE} (c : ClN X.K X.mg C fl) (hf : f ∈ fl) (he : JE X W e ve) (ho : JE X W o vo) (hs : swapsWith e (some (.Attribute o f pos')) pos.line X.env = pure false := by rfl) : JS X W (.Assign [.Attribute o f pos'] e pos) (vSetF C f vo ve) := by
  obtain ⟨Ca, h1, h2, h3⟩ := c.ex; obtain ⟨t, p1, s1⟩ := he; obtain ⟨to, p2, s2⟩ := ho
  refine ⟨_, ps_fld p2 p1 hs, fun σ F H s m G l en h E L => s1 σ F H s m _ _ l en h (L.x en) _ fun v d F1 H1 m1 t1 r1 k1 => s2 σ F1 H1 s m1 _ _ t1.le (en.stm t1) k1 ((L.x en).after t1) _ fun w d' F2 H2 m2 t2 r2 k2 => ?_⟩
  obtain ⟨p, fs, rfl, hm, hz, k2⟩ := onI_of k2
  obtain ⟨_, Ca', dx, xs, e1, e2, rk⟩ := t2.mr p _ hm
  rw [h1] at e1
  cases e1
  have st := t1.trans t2
  have sp := StM.put (o := .ins Ca dx (putF f v xs)) t2.le t2.mr hm rfl (u := .ins C (putFD f d fs)) ⟨Ca, dx, _, h1, upd_same, rk.putF (r1.mono t2.gr)⟩
  exact ⟨p, Ca, dx, xs, r2.refI, e2, h2, h3 f hf, by rw [rk.len]; exact hz, L.nx σ s F2 _ _ (st.trans sp) (en.stm (st.trans sp)) k2⟩
/-! methods -/
structure Mt0 (P : Program) (w : World) (K : PySem.W.Frag) (mg : Str → Option Value) (base : Heap) (C mt : Str) (k : Nat) (φ : P0) : Prop where
  ex : ∃ Ca f, mg C = some (.ref Ca) ∧ Cls K Ca ∧ Meth K Ca mt f ∧ FnR P w K mg base CX0 k f (Sp0 K mg φ)
structure MtX (P : Program) (w : World) (K : PySem.W.Frag) (mg : Str → Option Value) (base : Heap) (C mt : Str) (k : Nat) (φ : PX) : Prop where
  ex : ∃ Ca f, mg C = some (.ref Ca) ∧ Cls K Ca ∧ Meth K Ca mt f ∧ FnR P w K mg base (L2.CX P w) k f (SpX K mg φ)
structure Mk0C (P : Program) (w : World) (K : PySem.W.Frag) (mg : Str → Option Value) (base : Heap) (C : Str) (k : Nat) (φ : P0) : Prop where
  ex : ∃ Ca f, mg C = some (.ref Ca) ∧ L2.Mk K Ca f ∧ FnR P w K mg base CX0 k f (Sp0 K mg φ)
structure MkXC (P : Program) (w : World) (K : PySem.W.Frag) (mg : Str → Option Value) (base : Heap) (C : Str) (k : Nat) (φ : PX) : Prop where
  ex : ∃ Ca f, mg C = some (.ref Ca) ∧ L2.Mk K Ca f ∧ FnR P w K mg base (L2.CX P w) k f (SpX K mg φ)
def tMethW (C : Addr) (m : Str) (sp : Sp) (E : L2.St → XK) (ta : TE) (t : TA) : TE := fun σ H Q => ta σ H fun x H1 => ∃ a dx fs, x = .ref a ∧ H1 a = some (.ins C dx fs) ∧ fs.lookup m = none ∧ t σ H1 fun vs H2 => sp (x :: vs) H2 Q (E σ)
section
variable {CX : CXT} {k : Nat} {C f : Addr} {m : Str} {sp : Sp} {E : L2.St → XK} {o e : Expr} {es : List Expr} {ta : TE} {t : TA} {apos : Pos} {pl : Sem Bool}
theorem pe_methW (he : PE X o ta) (c : Cls X.K C) (hm : Meth X.K C m f) (F : FnR X.prog X.w X.K X.mg X.base CX k f sp) (hr : Room k X.A) (hx : ∀ σ, PassesAt CX X σ (E σ)) (ha : PA X (e :: es) t)
    (hst : starEach (e :: es) X.env = (false, eval e X.env) :: starEach es X.env := by rfl) (hpl : (backTo pos (starEach es X.env)).any (·.1) = false := by rfl)
    (ht : eval (.Call (.Attribute o m apos) (e :: es) [] pos) X.env = (do
      let ov ← eval o X.env
      standAt apos.atName
      let (f, first) ← holding [ov] (getMethod ov m pl)
      callWith pos f first (backTo pos (starEach (e :: es) X.env)) (backToKw pos (keywordEach [] X.env))) := by rfl) :
    PE X (.Call (.Attribute o m apos) (e :: es) [] pos) (tMethW C m sp E ta t) := by
  refine ⟨fun pins s σ H Q I h => ?_⟩
  refine PySem.W.methodCall_KW (pl := pl) (thn (he.run pins s σ H _ I h) fun u s1 ⟨x, H1, I1, rx, a, dx, fs, ex, ea, l, q⟩ => ?_) ht
  subst ex
  obtain rfl : u = Value.ref a := rx
  refine getmeth_ok I1 ea c hm l ?_
  refine PySem.W.callWith_K (first := [.ref a]) (h₀ := X.base) I.ok.mod.kin hm.kp (thn (ha.run pos pins s1 σ H1 _ I1 q) fun us s2 ⟨vs, H2, I2, r, q2⟩ => ⟨I2.kIn, ?_⟩) hst hpl
  exact run_Fn (us := .ref a :: us) (vs := .ref a :: vs) F hr (hx σ) I2 (.cons rfl r) q2
theorem pe_methW0 (he : PE X o ta) (c : Cls X.K C) (hm : Meth X.K C m f) (F : FnR X.prog X.w X.K X.mg X.base CX k f sp) (hr : Room k X.A) (hx : ∀ σ, PassesAt CX X σ (E σ))
    (ht : eval (.Call (.Attribute o m apos) [] [] pos) X.env = (do
      let ov ← eval o X.env
      standAt apos.atName
      let (f, first) ← holding [ov] (getMethod ov m pl)
      callWith pos f first (backTo pos (starEach [] X.env)) (backToKw pos (keywordEach [] X.env))) := by rfl) :
    PE X (.Call (.Attribute o m apos) [] [] pos) (tMethW C m sp E ta tNil) := by
  refine ⟨fun pins s σ H Q I h => ?_⟩
  refine PySem.W.methodCall_KW (pl := pl) (thn (he.run pins s σ H _ I h) fun u s1 ⟨x, H1, I1, rx, a, dx, fs, ex, ea, l, q⟩ => ?_) ht
  subst ex
  obtain rfl : u = Value.ref a := rx
  refine getmeth_ok I1 ea c hm l ?_
  exact PySem.W.callWith_K0 (first := [.ref a]) I1.kIn hm.kp (run_Fn (us := [.ref a]) (vs := [.ref a]) F hr (hx σ) I1 (.cons rfl .nil) q)
end
/-- o.m(..) of an instance of C -/
@[reducible] def vMeth (C mt : Str) (φ : P0) (o : VE) (a : VA) : VE := fun s m k x => o s m (fun d m1 => onO (asI C m1 d) fun fs => fs.lookup mt = none ∧ a s m1 (fun ds m2 => φ (d :: ds) m2 k) x) x
@[reducible] def vMethX (C mt : Str) (φ : PX) (o : VE) (a : VA) : VE := fun s m k x => o s m (fun d m1 => onO (asI C m1 d) fun fs => fs.lookup mt = none ∧ a s m1 (fun ds m2 => φ (d :: ds) m2 k x) x) x
theorem snd_meth {C mt : Str} {Ca : Addr} {φ : P0} {to : TE} {ta : TA} {vo : VE} {va : VA} (h1 : X.mg C = some (.ref Ca)) (s1 : SndE X.K X.mg W to vo) (s2 : SndA X.K X.mg W ta va) : SndE X.K X.mg W (tMethW Ca mt (Sp0 X.K X.mg φ) (fun _ => E0) to ta) (vMeth C mt φ vo va) := fun σ F H s m k x l en hv hx Q q => s1 σ F H s m _ x l en hv hx _ fun v d F1 H1 m1 t1 r1 k1 => by
  obtain ⟨fs, e1, e2, k1⟩ := onO_of k1
  obtain ⟨a, Ca', dx, xs, rfl, hm, hH, rk⟩ := r1.asIns t1.le t1.mr e1
  rw [h1] at hm
  cases hm
  refine ⟨a, dx, xs, rfl, hH, rk.lookupN e2, s2 σ F1 H1 s m1 _ x t1.le (en.stm t1) k1 (hx.after t1) _ fun us ds F2 H2 m2 t2 r2 k2 => ?_⟩
  exact ⟨F2, d :: ds, m2, k, t2.le, .cons (r1.mono t2.gr) r2, t2.mr, k2, fun v d F' H' m' st r hk => q v d F' H' m' ((t1.trans t2).trans st) r hk⟩
theorem snd_methX {C mt : Str} {Ca : Addr} {φ : PX} {to : TE} {ta : TA} {vo : VE} {va : VA} (h1 : X.mg C = some (.ref Ca)) (s1 : SndE X.K X.mg W to vo) (s2 : SndA X.K X.mg W ta va) : SndE X.K X.mg W (tMethW Ca mt (SpX X.K X.mg φ) (WE W) to ta) (vMethX C mt φ vo va) := fun σ F H s m k x l en hv hx Q q => s1 σ F H s m _ x l en hv hx _ fun v d F1 H1 m1 t1 r1 k1 => by
  obtain ⟨fs, e1, e2, k1⟩ := onO_of k1
  obtain ⟨a, Ca', dx, xs, rfl, hm, hH, rk⟩ := r1.asIns t1.le t1.mr e1
  rw [h1] at hm
  cases hm
  refine ⟨a, dx, xs, rfl, hH, rk.lookupN e2, s2 σ F1 H1 s m1 _ x t1.le (en.stm t1) k1 (hx.after t1) _ fun us ds F2 H2 m2 t2 r2 k2 => ?_⟩
  exact ⟨F2, d :: ds, m2, k, x, t2.le, .cons (r1.mono t2.gr) r2, t2.mr, k2, fun v d F' H' m' st r hk => q v d F' H' m' ((t1.trans t2).trans st) r hk, fun cls dd e F' H' m' st r hk => hx cls dd e F' H' m' ((t1.trans t2).trans st) r hk⟩
theorem sndA_nil : SndA X.K X.mg W tNil vNil := fun σ F H s m k x l en hv _ Q q => q [] [] F H m (StM.refl l en.mem) .nil hv
theorem je_meth {C mt : Str} {k : Nat} {φ : P0} {o e : Expr} {es : List Expr} {vo : VE} {va : VA} {apos : Pos} {pl : Sem Bool} (G : Mt0 X.prog X.w X.K X.mg X.base C mt k φ) (hr : Room k X.A) (ho : JE X W o vo) (ha : JA X W (e :: es) va)
    (hst : starEach (e :: es) X.env = (false, eval e X.env) :: starEach es X.env := by rfl) (hpl : (backTo pos (starEach es X.env)).any (·.1) = false := by rfl)
    (ht : eval (.Call (.Attribute o mt apos) (e :: es) [] pos) X.env = (do
      let ov ← eval o X.env
      standAt apos.atName
      let (f, first) ← holding [ov] (getMethod ov mt pl)
      callWith pos f first (backTo pos (starEach (e :: es) X.env)) (backToKw pos (keywordEach [] X.env))) := by rfl) :
    JE X W (.Call (.Attribute o mt apos) (e :: es) [] pos) (vMeth C mt φ vo va) := by
  obtain ⟨Ca, f, h1, h2, h3, h4⟩ := G.ex; obtain ⟨to, p1, s1⟩ := ho; obtain ⟨ta, p2, s2⟩ := ha
  exact ⟨_, pe_methW p1 h2 h3 h4 hr (fun _ => passAt0) p2 hst hpl ht, snd_meth h1 s1 s2⟩
theorem je_meth0 {C mt : Str} {k : Nat} {φ : P0} {o : Expr} {vo : VE} {apos : Pos} {pl : Sem Bool} (G : Mt0 X.prog X.w X.K X.mg X.base C mt k φ) (hr : Room k X.A) (ho : JE X W o vo)
    (ht : eval (.Call (.Attribute o mt apos) [] [] pos) X.env = (do
      let ov ← eval o X.env
      standAt apos.atName
      let (f, first) ← holding [ov] (getMethod ov mt pl)
      callWith pos f first (backTo pos (starEach [] X.env)) (backToKw pos (keywordEach [] X.env))) := by rfl) :
    JE X W (.Call (.Attribute o mt apos) [] [] pos) (vMeth C mt φ vo vNil) := by
  obtain ⟨Ca, f, h1, h2, h3, h4⟩ := G.ex; obtain ⟨to, p1, s1⟩ := ho
  exact ⟨_, pe_methW0 p1 h2 h3 h4 hr (fun _ => passAt0) ht, snd_meth h1 s1 sndA_nil⟩
theorem je_methX {C mt : Str} {k : Nat} {φ : PX} {o e : Expr} {es : List Expr} {vo : VE} {va : VA} {apos : Pos} {pl : Sem Bool} (tk : Takes X W) (G : MtX X.prog X.w X.K X.mg X.base C mt k φ) (hr : Room k X.A) (ho : JE X W o vo) (ha : JA X W (e :: es) va)
    (hst : starEach (e :: es) X.env = (false, eval e X.env) :: starEach es X.env := by rfl) (hpl : (backTo pos (starEach es X.env)).any (·.1) = false := by rfl)
    (ht : eval (.Call (.Attribute o mt apos) (e :: es) [] pos) X.env = (do
      let ov ← eval o X.env
      standAt apos.atName
      let (f, first) ← holding [ov] (getMethod ov mt pl)
      callWith pos f first (backTo pos (starEach (e :: es) X.env)) (backToKw pos (keywordEach [] X.env))) := by rfl) :
    JE X W (.Call (.Attribute o mt apos) (e :: es) [] pos) (vMethX C mt φ vo va) := by
  obtain ⟨Ca, f, h1, h2, h3, h4⟩ := G.ex; obtain ⟨to, p1, s1⟩ := ho; obtain ⟨ta, p2, s2⟩ := ha
  exact ⟨_, pe_methW p1 h2 h3 h4 hr (fun σ => passAt tk σ) p2 hst hpl ht, snd_methX h1 s1 s2⟩
/-! making -/
section
variable {CX : CXT} {k : Nat} {C f : Addr} {sp : Sp} {E : L2.St → XK}
theorem run_mk {pins : List (Addr × Obj)} {σ : L2.St} {H : Hp} {s : Shared} {Q : VK} {us : List Value} {vs : List V} (M : L2.Mk X.K C f) (F : FnR X.prog X.w X.K X.mg X.base CX k f sp) (hr : Room (k + 1) X.A) (hx : PassesAt CX X σ (E σ)) (I : Inv X pins σ H s) (r : Vals vs us)
    (h : ∀ x dx, H x = none → H dx = none → dx ≠ x → sp (.ref x :: vs) (upd (upd H dx (.own x)) x (.ins C dx [])) (fun v H2 => v = .non ∧ Q (.ref x) H2) (E σ)) :
    wpAny (model X.prog X.w) X.A (call (.ref C) us) (EP X pins σ Q) X.xe s := by
  have hq := h (s.heap.objs.size + 1) s.heap.objs.size (I.hok.fresh (Nat.le_succ _)) (I.hok.fresh (Nat.le_refl _)) (Nat.ne_of_lt (Nat.lt_succ_self _))
  have I2 := Inv.made (C := C) I
  have r2 : Vals (V.ref (s.heap.objs.size + 1) :: vs) (Value.ref (s.heap.objs.size + 1) :: us) := .cons rfl r
  refine wpAny_call (make_map (f := f) I.kIn M.makes M.init (beq_iff_eq.mp M.fn) (codeAny_mono (F _ X.stack _ _ (Value.ref (s.heap.objs.size + 1) :: us) _ _ (E σ) (hr.make C us []) (I2.env0.make C us []) r2 hq) fun r s' hq' => ?_))
  cases r with
  | error e => exact hx pins _ _ e s' I2 hq'
  | ok fl =>
    cases fl with
    | ret u =>
      obtain ⟨v, H', I3, rv, ev, q3⟩ := I2.after hq'
      subst ev
      exact ⟨rv, ⟨V.ref (s.heap.objs.size + 1), H', I3, rfl, q3⟩⟩
    | next => exact False.elim hq'
    | brk => exact False.elim hq'
    | cont => exact False.elim hq'
def tMakeW (C : Addr) (sp : Sp) (E : L2.St → XK) (t : TA) : TE := fun σ H Q => t σ H fun vs H1 => ∀ x dx, H1 x = none → H1 dx = none → dx ≠ x → sp (.ref x :: vs) (upd (upd H1 dx (.own x)) x (.ins C dx [])) (fun v H2 => v = .non ∧ Q (.ref x) H2) (E σ)
theorem pe_mkW {x : Str} {e : Expr} {es : List Expr} {t : TA} {p : Pos} (M : L2.Mk X.K C f) (F : FnR X.prog X.w X.K X.mg X.base CX k f sp) (hr : Room (k + 1) X.A) (hx : ∀ σ, PassesAt CX X σ (E σ)) (hg : Gl X x) (hm : X.mg x = some (.ref C)) (ha : PA X (e :: es) t)
    (hdb : (x == ("__debug__" : Str)) = false := by decide) (he : starEach (e :: es) X.env = (false, eval e X.env) :: starEach es X.env := by rfl) (hpl : (backTo pos (starEach es X.env)).any (·.1) = false := by rfl) : PE X (.Call (.Name x p) (e :: es) [] pos) (tMakeW C sp E t) := by
  refine ⟨fun pins s σ H Q I h => ?_⟩
  refine wpAny_Call_Name_kw (ld_glob I hg hm ?_ hdb)
  refine PySem.W.callWith_K (h₀ := X.base) I.ok.mod.kin M.kp (thn (ha.run pos pins s σ H _ I h) fun us s1 ⟨vs, H1, I1, r, q⟩ => ⟨I1.kIn, ?_⟩) he hpl
  exact run_mk M F hr (hx σ) I1 r q
end
/-- the step that lays a new instance -/
theorem StM.ins {K : PySem.W.Frag} {mg : Str → Option Value} {F H : Hp} {m : Mem} {C : Str} {Ca p dx : Addr} (l : Le F H) (mr : MemR K mg F H m) (hp : H p = none) (hd : H dx = none) (ne : dx ≠ p) (hm : mg C = some (.ref Ca)) :
    StM K mg m F H F (upd (upd H dx (.own p)) p (.ins Ca dx [])) (mset m p (.ins C [])) := by
  have s0 : StM K mg m F H F (upd H dx (.own p)) m := (StM.refl l mr).side hd (l.none hd) (mr.free hd)
  have hp2 : upd H dx (.own p) p = none := by rw [upd_ne (Ne.symm ne)]; exact hp
  exact s0.trans (StM.new s0.le s0.mr hp2 (u := .ins C []) ⟨Ca, dx, [], hm, upd_same, .nil⟩)
/-- C(..) -/
@[reducible] def vMake (C : Str) (φ : P0) (a : VA) : VE := fun s m k x => a s m (fun ds m1 => ∀ p, m1 p = none → φ (.ref p :: ds) (mset m1 p (.ins C [])) fun d m2 => d = .non ∧ k (.ref p) m2) x
@[reducible] def vMakeX (C : Str) (φ : PX) (a : VA) : VE := fun s m k x => a s m (fun ds m1 => ∀ p, m1 p = none → φ (.ref p :: ds) (mset m1 p (.ins C [])) (fun d m2 => d = .non ∧ k (.ref p) m2) x) x
theorem rp_non {K : PySem.W.Frag} {mg : Str → Option Value} {F : Hp} {v : V} (r : Rp K mg F v .non) : v = .non := by cases r; rfl
theorem je_make {C : Str} {k : Nat} {φ : P0} {e : Expr} {es : List Expr} {va : VA} {p : Pos} (G : Mk0C X.prog X.w X.K X.mg X.base C k φ) (hr : Room (k + 1) X.A) (hg : Gl X C) (ha : JA X W (e :: es) va)
    (hdb : (C == ("__debug__" : Str)) = false := by decide) (he : starEach (e :: es) X.env = (false, eval e X.env) :: starEach es X.env := by rfl) (hpl : (backTo pos (starEach es X.env)).any (·.1) = false := by rfl) : JE X W (.Call (.Name C p) (e :: es) [] pos) (vMake C φ va) := by
  obtain ⟨Ca, f, h1, h2, h3⟩ := G.ex; obtain ⟨ta, p1, s1⟩ := ha
  refine ⟨_, pe_mkW h2 h3 hr (fun _ => passAt0) hg h1 p1 hdb he hpl, fun σ F H s m k x l en hv hx Q q => s1 σ F H s m _ x l en hv hx _ fun us ds F1 H1 m1 t1 r1 k1 a dx ha hd ne => ?_⟩
  have si := StM.ins t1.le t1.mr ha hd ne h1
  exact ⟨F1, .ref a :: ds, _, _, si.le, .cons (.ref a) r1, si.mr, k1 a (t1.mr.free ha), fun v d F' H' m' st r ⟨hd, hk⟩ => by subst hd; exact ⟨rp_non r, q _ _ F' H' m' ((t1.trans si).trans st) (.ref a) hk⟩⟩
end
section
variable {P : Program} {w : World} {K : PySem.W.Frag} {mg : Str → Option Value} {base : Heap} {C mt : Str} {k : Nat} {Ca f : Addr} {fd : FuncData} {ps : List Str}
theorem Mt0.mk1 {φ : P0} (hm : mg C = some (.ref Ca)) (c : Cls K Ca) (hf : Meth K Ca mt f) (b : Binds K fd ps []) (F : FnOk P w K mg base CX0 k f fd ps (Sp0 K mg φ)) : Mt0 P w K mg base C mt k φ :=
  ⟨Ca, f, hm, c, hf, (F.raw b .nil).imp fun vs H Q E h => by rw [List.append_nil]; exact h⟩
theorem MtX.mk1 {φ : PX} (hm : mg C = some (.ref Ca)) (c : Cls K Ca) (hf : Meth K Ca mt f) (b : Binds K fd ps []) (F : FnOk P w K mg base (L2.CX P w) k f fd ps (SpX K mg φ)) : MtX P w K mg base C mt k φ :=
  ⟨Ca, f, hm, c, hf, (F.raw b .nil).imp fun vs H Q E h => by rw [List.append_nil]; exact h⟩
theorem Mk0C.mk1 {φ : P0} (hm : mg C = some (.ref Ca)) (M : L2.Mk K Ca f) (b : Binds K fd ps []) (F : FnOk P w K mg base CX0 k f fd ps (Sp0 K mg φ)) : Mk0C P w K mg base C k φ :=
  ⟨Ca, f, hm, M, (F.raw b .nil).imp fun vs H Q E h => by rw [List.append_nil]; exact h⟩
theorem MkXC.mk1 {φ : PX} (hm : mg C = some (.ref Ca)) (M : L2.Mk K Ca f) (b : Binds K fd ps []) (F : FnOk P w K mg base (L2.CX P w) k f fd ps (SpX K mg φ)) : MkXC P w K mg base C k φ :=
  ⟨Ca, f, hm, M, (F.raw b .nil).imp fun vs H Q E h => by rw [List.append_nil]; exact h⟩
/-- C(k = e, ..): all but self by keywords, in the parameters' order -/
structure MkKC (P : Program) (w : World) (K : PySem.W.Frag) (mg : Str → Option Value) (base : Heap) (C : Str) (k : Nat) (ks : List Str) (φ : PX) : Prop where
  ex : ∃ Ca f, mg C = some (.ref Ca) ∧ L2.Mk K Ca f ∧ ∀ (A : Around) (outer : List Env) (s : Shared) (H : Hp) (a : Addr) (ws : List Value) (zs : List V) (Q : VK) (E : XK), Room k A → Env0 P w K mg base A outer s H → Vals zs ws → zs.length = ks.length → SpX K mg φ (.ref a :: zs) H Q E →
    codeAny (model P w) A (.call (.ref f) ⟨[.ref a], ks.zip ws⟩) (CR (L2.CX P w) outer P w H s Q E) s
theorem MkKC.mk1 {φ : PX} {ks : List Str} (hm : mg C = some (.ref Ca)) (M : L2.Mk K Ca f) (F : FnOk P w K mg base (L2.CX P w) k f fd ps (SpX K mg φ)) (hb : ∀ (s : Shared) (u : Value) (ws : List Value), K.In s.heap → ws.length = ks.length → BindsTo s fd ⟨[u], ks.zip ws⟩ (ps.zip (u :: ws))) : MkKC P w K mg base C k ks φ :=
  ⟨Ca, f, hm, M, fun A outer s H a ws zs Q E hr e0 r hl hsp => F.run A outer s H ⟨[.ref a], ks.zip ws⟩ (.ref a :: ws) (.ref a :: zs) Q E hr e0 (hb s _ ws (e0.mod.kin.keeps fun b o e => (e0.bs b o e).1) (r.length.symm.trans hl)) (.cons rfl r) hsp⟩
end
section
variable {X : Cx} {W : WX} {pos : Pos}
@[reducible] def vMakeK (C : Str) (n : Nat) (φ : PX) (a : VA) : VE := fun s m k x => a s m (fun ds m1 => ds.length = n ∧ ∀ p, m1 p = none → φ (.ref p :: ds) (mset m1 p (.ins C [])) (fun d m2 => d = .non ∧ k (.ref p) m2) x) x
end
end Ts
/-! ### enumerate of a tuple, of a list of the memory -/
namespace Ts
open PySem PySem.Spec PyProof.Rows L2
open AutoSeq1 (wpAny_loadPart')
section
variable {prog : Program} {w : World} {A : Around} {E : Value → Shared → Prop} {s : Shared}
end
section
variable {X : Cx} {W : WX} {e : Expr} {vs : VA} {pos p tpos : Pos}
/-- enumerate(x): x a list, frozen or of the memory, or a tuple; dep: it stays -/
def enmD (m : Mem) (ds : List D) (k : List D → (Mem → Prop) → Prop) : Prop := match ds with
  | [d] => onO (itemsOf m d) fun es => k (enumD 0 es) fun m' => itemsOf m' d = some es
  | _ => False
@[reducible] def vEnumM (a : VA) : VI := fun s m k x => a s m (fun ds m' => enmD m' ds fun es dep => k es dep m') x
end
end Ts
/-! ### dict(tuple of pairs) -/
namespace Ts
open PySem PySem.Spec PyProof.Rows L2
theorem Le.sqn {K : PySem.W.Frag} {F H : Hp} (l : Le F H) {a : Addr} {xs : List V} (h : SqN K F a xs) : SqN K H a xs := h.imp (fun ⟨o, h, d⟩ => ⟨o, l.at h id, d⟩) id
section
variable {X : Cx} {W : WX}
end
end Ts
/-! ### loops: the rest as a letter -/
namespace Ts
open PySem PySem.Spec PyProof.Rows L2
theorem forV_mapP {α : Type} {f : α → D} {b : D → VS} {G : DE} (I : List α → SL → Mem → Prop) (h0 : ∀ s m, I [] s m → G.nx s m)
    (hs : ∀ a as s m (P : SL → Mem → Prop), I (a :: as) s m → (∀ s' m', I as s' m' → P s' m') → b (f a) s m { G with nx := P, ct := P, bk := G.nx }) :
    ∀ {as : List α} {s : SL} {m : Mem}, I as s m → forV b (as.map f) s m G
  | [], s, m, h => h0 s m h
  | a :: as, s, m, h => hs a as s m (fun s' m' => forV b (as.map f) s' m' G) h fun s' m' h' => forV_mapP I h0 hs h'
theorem forV_indP {b : D → VS} {G : DE} (I : List D → SL → Mem → Prop) (h0 : ∀ s m, I [] s m → G.nx s m)
    (hs : ∀ d ds s m (P : SL → Mem → Prop), I (d :: ds) s m → (∀ s' m', I ds s' m' → P s' m') → b d s m { G with nx := P, ct := P, bk := G.nx }) :
    ∀ {ds : List D} {s : SL} {m : Mem}, I ds s m → forV b ds s m G
  | [], s, m, h => h0 s m h
  | d :: ds, s, m, h => hs d ds s m (fun s' m' => forV b ds s' m' G) h fun s' m' h' => forV_indP I h0 hs h'
theorem cutN_to {α : Type} (l : List α) (p : Nat) : cutD l none (some (p : Int)) = l.take p := by
  unfold cutD
  rw [HT.sIx_none, HT.sIx_nat, List.drop_zero, Nat.sub_zero, List.take_eq_take_iff]
  omega
theorem frz_d {ds : List (Key × D)} {k : D → Prop} : (MO.dic ds).onF k = k (.dic ds) := rfl
theorem frz_i {C : Str} {fs : List (Str × D)} {k : D → Prop} : (MO.ins C fs).onF k = k (.obj C fs) := rfl
end Ts
/-! ### match on a text: cases that are texts -/
namespace Ts
open PySem PySem.Spec PyProof.Rows L2
section
variable {X : Cx} {W : WX}
abbrev VM := Str → VS
@[reducible] def vMn : VM := fun _ => vNext
@[reducible] def vMc (c : Str) (a : VS) (u : VM) : VM := fun z s m G => if z = c then a s m G else u z s m G
@[reducible] def vMatch (a : VE) (v : VM) : VS := fun s m G => a s m (fun d m1 => onS d fun z => v z s m1 G) fun e m' => G.ex e s m'
def oAddI : O2
  | .int i, .int j, m, k => k (.int (i + j)) m
  | _, _, _, _ => False
/-! o.f op= e -/
@[reducible] def vAugF (C f : Str) (o : VE) (op : O2) (a : VE) : VS := fun s m G => o s m (fun d m1 => onI C m1 d fun p fs => onO (fs.lookup f) fun v => a s m1 (fun e m2 => op v e m2 fun z m3 => onI C m3 d fun p' fs' => fs'.length < 1000 ∧ G.nx s (mset m3 p (.ins C (putFD f z fs')))) fun e m' => G.ex e s m') fun e m' => G.ex e s m'
/-! x.split(y) -/
end
end Ts
/-! ### {**a, **b}; sorted of any length; self.f, self.g = x, y; max(xs) -/
namespace PySem
open Sem (wp)
section
variable {prog : Program} {w : World} {K : Type} [DecidableEq K] {knd : KeyKind prog w K} {A : Around} {E : Value → Shared → Prop} {s : Shared}
end
end PySem
namespace L2
open PySem PyProof.Rows
section
variable {X : Cx} {pos : Pos} {a b : Expr} {ta tb : TE}
end
end L2

namespace L2
open PySem PyProof.Rows
section
variable {X : Cx}
end
end L2
namespace Ts
open PySem PySem.Spec PyProof.Rows L2
section
variable {X : Cx} {W : WX} {pos : Pos}
/-! self.f, self.g = x, y -/
@[reducible] def vParF (C f g : Str) (o1 o2 : VE) (a : VA) : VS := fun s m G => a s m (fun ds m1 => match ds with
  | [d, e] => o1 s m1 (fun r m2 => onI C m2 r fun p fs => fs.length < 1000 ∧ o2 s (mset m2 p (.ins C (putFD f d fs))) (fun r' m3 => onI C m3 r' fun p' fs' => fs'.length < 1000 ∧ G.nx s (mset m3 p' (.ins C (putFD g e fs')))) fun e m' => G.ex e s m') fun e m' => G.ex e s m'
  | _ => False) fun e m' => G.ex e s m'
/-! {**a, **b} -/
def notR (p : Addr) : D → Prop
  | .ref q => q ≠ p
  | _ => True
@[reducible] def vSpread (a b : VE) : VE := fun s m k x => ∀ p, m p = none → a s (mset m p (.dic [])) (fun d1 m1 => onO (asK m1 d1) fun k1 => notR p d1 ∧ m1 p = some (.dic []) ∧
  b s (mset m1 p (.dic (mergeD [] k1))) (fun d2 m2 => onO (asK m2 d2) fun k2 => notR p d2 ∧ ∃ kp, m2 p = some (.dic kp) ∧ kp.length + k2.length ≤ 1000000 ∧ k (.ref p) (mset m2 p (.dic (mergeD kp k2)))) x) x
/-! sorted -/
def strKs : List (Key × D) → Option (List Str)
  | [] => some []
  | (.inr z, _) :: r => (strKs r).map (z :: ·)
  | _ => none
/-- sorted(d), keys texts -/
def oSortD : OA := fun ds m k => match ds with
  | [d] => onO (asK m d) fun kvs => onO (strKs kvs) fun xs => xs.length ≤ 1000000 ∧ ∀ ys : List Str, ys.Perm xs → sortedS ys = true → k (.lst (ys.map D.str)) m
  | _ => False
/-- sorted(xs), texts -/
def oSortA : OA := fun ds m k => match ds with
  | [d] => onO (asL m d) fun ds => onO (strDs ds) fun xs => xs.length ≤ 1000000 ∧ ∀ ys : List Str, ys.Perm xs → sortedS ys = true → k (.lst (ys.map D.str)) m
  | _ => False
/-- max(xs), ints -/
def oMaxL : OA := fun ds m k => match ds with
  | [d] => onO (asL m d) fun ds => onO (intDs ds) fun xs => 0 < xs.length ∧ ∀ i : Int, i ∈ xs → (∀ y ∈ xs, y ≤ i) → k (.int i) m
  | _ => False
/-! a call that is lent the lists of the memory: it is pure, it hands back flat data -/
def rdD (m : Mem) : Nat → D → D
  | 0, d => d
  | n + 1, .ref p => match m p with
    | some (.lst es) => .lst (es.map (rdD m n))
    | _ => .ref p
  | n + 1, .lst ds => .lst (ds.map (rdD m n))
  | n + 1, .tup ds => .tup (ds.map (rdD m n))
  | _ + 1, d => d
def flatD : D → Prop
  | .non => True
  | .bl _ => True
  | .int _ => True
  | .str _ => True
  | _ => False
@[reducible] def vCallL (n : Nat) (φ : P0) (a : VA) : VE := fun s m k x => a s m (fun ds m1 => φ (ds.map (rdD m1 n)) (fun _ => none) (fun d _ => flatD d ∧ k d m1)) x
end
end Ts
/-! ### ==, len, repr of own instances -/
namespace Ts
open PySem PySem.Spec PyProof.Rows L2
section
variable {X : Cx} {k : Nat} {sp : Sp} {E : L2.St → XK} {pins : List (Addr × Obj)} {σ : L2.St} {H : Hp} {s : Shared} {Q : VK} {us : List Value} {vs : List V} {f : Addr} {CX : CXT}
end
/-! the judgements -/
def blD : D → (D → Prop) → Prop
  | .bl b, k => k (.bl b)
  | _, _ => False
def inD : D → (D → Prop) → Prop
  | .int n, k => (0 ≤ n ∧ n < 2 ^ 62) ∧ k (.int n)
  | _, _ => False
def txD : D → (D → Prop) → Prop
  | .str z, k => k (.str z)
  | _, _ => False
/-- an instance of C or a list -/
def insL (C : Str) (m : Mem) (e : D) : Prop := (asI C m e).isSome = true ∨ (asL m e).isSome = true
@[reducible] def oEqI (C : Str) (φ : P0) : O2 := fun d e m k => onO (asI C m d) fun _ => insL C m e ∧ φ [d, e] m fun y m1 => blD y fun y => k y m1
def oLenI (C : Str) (φ : P0) : OA
  | [d], m, k => onO (asI C m d) fun _ => φ [d] m fun y m1 => inD y fun y => k y m1
  | _, _, _ => False
def oReprI (C : Str) (φ : P0) : OA
  | [d], m, k => onO (asI C m d) fun _ => φ [d] m fun y m1 => txD y fun y => k y m1
  | _, _, _ => False
section
variable {X : Cx} {C : Str} {k : Nat} {φ : P0}
end
/-! ### C.m(..), m a staticmethod -/
/-- C.m is a staticmethod: its record at p, its def at g -/
structure SMet (K : PySem.W.Frag) (C : Addr) (mc : Value) (m : Str) (p g : Addr) : Prop where
  at_ : PySem.W.findCls K (.ref C) mc m = some (.get (.builtin "staticmethod.__get__") (.ref p) .none (.ref C))
  rc : ∃ rest, PySem.W.recIn K p "staticmethod" = some (.ref g :: rest)
  kp : PySem.W.keepIn K (.ref g) = true
section
variable {X : Cx} {CX : CXT} {k : Nat} {C p g : Addr} {mc : Value} {sp : Sp} {E : L2.St → XK} {o e : Expr} {es : List Expr} {m : Str} {pos apos : Pos} {ta : TE} {t : TA} {pl : Sem Bool} {pins : List (Addr × Obj)} {σ : L2.St} {H : Hp} {s : Shared}
end
/-- a staticmethod that may raise -/
structure SmX (P : Program) (w : World) (K : PySem.W.Frag) (mg : Str → Option Value) (base : Heap) (C mt : Str) (k : Nat) (φ : PX) : Prop where
  ex : ∃ Ca mc p g, mg C = some (.ref Ca) ∧ ClX.CRead K Ca mc ∧ SMet K Ca mc mt p g ∧ FnR P w K mg base (L2.CX P w) k g (SpX K mg φ)
section
variable {X : Cx} {W : WX} {pos : Pos}
end
end Ts
/-! ### the head: staticmethods -/
namespace Ts
open PySem PySem.Spec PyProof.Rows L2
/-- a staticmethod: its class, its name, what its def says -/
structure SDf where
  C : Str
  m : Str
  qual : Str
  params : Arguments
  body : List Stmt
  scope : Scope
def smAd (K : PySem.W.Frag) (C m : Str) : Addr := match PySem.W.recIn K (He.ma K (He.ga K C) m) "staticmethod" with
  | some (.ref g :: _) => g
  | _ => 0
def fnSm (K : PySem.W.Frag) (d : SDf) : He.FnW := match K.lookup (smAd K d.C d.m) with
  | some ⟨_, _, .func fd, _⟩ => some (fd.name, fd.qualname, fd.params, fd.body, fd.scope, fd.globals, fd.closure, fd.builtins)
  | _ => none
def SDf.val (d : SDf) : He.FnW := some (d.m, d.qual, d.params, .stmts d.body, d.scope, mainGlobals, [], builtinsNs)
def foundS (C p : Addr) : Option PySem.W.CFound → Bool
  | some (.get (.builtin s) (.ref q) .none (.ref D)) => decide (s = "staticmethod.__get__") && (decide (q = p) && decide (D = C))
  | _ => false
def recS (g : Addr) : Option (List Value) → Bool
  | some (.ref q :: _) => decide (q = g)
  | _ => false
def SDf.okB (K : PySem.W.Frag) (d : SDf) : Bool := (He.Fa.glo d.C).ok K && (PySem.W.readsIn K (He.ga K d.C) (.type "type") && (decide (PySem.W.specialIn K (.ref (He.ga K d.C)) "__getattribute__" = some (some (.builtin "type.__getattribute__"))) &&
  (foundS (He.ga K d.C) (He.ma K (He.ga K d.C) d.m) (PySem.W.findCls K (.ref (He.ga K d.C)) (.type "type") d.m) && (recS (smAd K d.C d.m) (PySem.W.recIn K (He.ma K (He.ga K d.C) d.m) "staticmethod") && (PySem.W.keepIn K (.ref (smAd K d.C d.m)) &&
  (match K.lookup (smAd K d.C d.m) with
  | some ⟨_, _, .func fd, _⟩ => PySem.W.codeIn K fd.code d.qual && (He.dflB K fd.defaults [] && He.kwdB K fd.kwdefaults [])
  | _ => false))))))
theorem SmX.mk1 {P : Program} {w : World} {K : PySem.W.Frag} {mg : Str → Option Value} {base : Heap} {C mt : Str} {k : Nat} {φ : PX} {Ca p g : Addr} {mc : Value} {fd : FuncData} {ps : List Str} (hm : mg C = some (.ref Ca)) (r : ClX.CRead K Ca mc) (c : SMet K Ca mc mt p g) (b : Binds K fd ps []) (F : FnOk P w K mg base (L2.CX P w) k g fd ps (SpX K mg φ)) : SmX P w K mg base C mt k φ :=
  ⟨Ca, mc, p, g, hm, r, c, (F.raw b .nil).imp fun vs H Q E h => by rw [List.append_nil]; exact h⟩
/-! the hook: as hookX, with staticmethods -/
abbrev AlY : Type := AlX × Bool × List He.FnW
structure SaysY (fa : List He.Fa) (fn : List He.DefD) (tb : List Tb) (xs : List XDef) (ss : List SDf) (file : Str) (K : PySem.W.Frag) : Prop extends SaysX fa fn tb xs file K where
  sb : ss.all (fun d => d.okB K) = true
  sv : (ss.map fun d => fnSm K d) = ss.map SDf.val
/-! ### C(k2 = .., k1 = ..): two keywords in the other order -/
def swapX (φ : PX) : PX := fun ds m k x => match ds with
  | [p, b, a] => φ [p, a, b] m k x
  | _ => False
section
variable {P : Program} {w : World} {K : PySem.W.Frag} {mg : Str → Option Value} {base : Heap} {C k1 k2 : Str} {k : Nat} {Ca f : Addr} {fd : FuncData} {ps : List Str}
theorem MkKC.swap {φ : PX} (hm : mg C = some (.ref Ca)) (M : L2.Mk K Ca f) (F : FnOk P w K mg base (L2.CX P w) k f fd ps (SpX K mg φ)) (hb : ∀ (s : Shared) (u w1 w2 : Value), K.In s.heap → BindsTo s fd ⟨[u], [k1, k2].zip [w1, w2]⟩ (ps.zip [u, w2, w1])) : MkKC P w K mg base C k [k1, k2] (swapX φ) := by
  refine ⟨Ca, f, hm, M, fun A outer s H a ws zs Q E hr e0 r hl hsp => ?_⟩
  obtain ⟨F0, ds, m, kk, x, l, rl, mr, hp, hq, hx⟩ := hsp
  match zs, ws, r, hl with
  | [z1, z2], [w1, w2], .cons r1 (.cons r2 .nil), _ =>
    have hp2 : ∃ d0 d1 d2, ds = [d0, d1, d2] ∧ φ [d0, d2, d1] m kk x := by
      unfold swapX at hp
      split at hp
      · exact ⟨_, _, _, rfl, hp⟩
      · exact hp.elim
    obtain ⟨d0, d1, d2, rfl, hp2⟩ := hp2
    have rl2 : RpL K mg F0 [V.ref a, z2, z1] [d0, d2, d1] := by
      cases rl with
      | cons a0 rl =>
        cases rl with
        | cons a1 rl =>
          cases rl with
          | cons a2 rl => exact .cons a0 (.cons a2 (.cons a1 .nil))
    exact F.run A outer s H ⟨[.ref a], [k1, k2].zip [w1, w2]⟩ [.ref a, w2, w1] [.ref a, z2, z1] Q E hr e0 (hb s _ w1 w2 (e0.mod.kin.keeps fun b o e => (e0.bs b o e).1)) (.cons rfl (.cons r2 (.cons r1 .nil))) ⟨F0, [d0, d2, d1], m, kk, x, l, rl2, mr, hp2, hq, hx⟩
end
end Ts
/-! ### isinstance(x, C), C an own class -/
namespace Ts
open PySem PySem.Spec PyProof.Rows L2
/-- is it an instance of C? -/
def isiD (C : Str) (m : Mem) (d : D) (k : Bool → Prop) : Prop := match asI C m d with
  | some _ => k true
  | none => isDit d = false ∧ onO (tyM m d) fun _ => k false
@[reducible] def vIsiC (C : Str) (a : VE) : VE := fun s m k x => a s m (fun d m1 => isiD C m1 d fun b => k (.bl b) m1) x
section
variable {X : Cx} {W : WX} {pos : Pos}
end
end Ts
/-! ### defaults: an empty tuple; a class made with the last arguments left out -/
namespace Ts
open PySem PySem.Spec PyProof.Rows L2
section
variable {P : Program} {w : World} {K : PySem.W.Frag} {mg : Str → Option Value} {base : Heap} {C mt : Str} {k : Nat} {Ca f : Addr} {fd : FuncData} {ps : List Str} {dvs : List V} {des : List D}
end
end Ts
/-! ### a list, frozen or of the memory, or a tuple, walked as it stands -/
namespace Ts
open PySem PySem.Spec PyProof.Rows L2
@[reducible] def vWalkI (a : VE) : VI := fun s m k x => a s m (fun d m' => onO (itemsOf m' d) fun es => k es (fun m2 => itemsOf m2 d = some es) m') x
section
variable {X : Cx} {W : WX} {tg e : Expr} {ve : VE}
theorem ItD.dep {K : PySem.W.Frag} {mg : Str → Option Value} {J : It} {F : Hp} {ds : List D} {dep : Mem → Prop} (h : ItD K mg J F (fun _ => True) ds) : ItD K mg J F dep ds := fun F' H' m' i gr le mr _ => h F' H' m' i gr le mr trivial
end
/-! items stand in a larger memory -/
end Ts
/-! ### the head: only what the law needs is looked at -/
namespace Ts
open PySem PySem.Spec PyProof.Rows L2
/-- the new ones among some addresses; seen: bits -/
def addN (seen : Nat) (acc : List Addr) : List Addr → (Nat → List Addr → List Addr) → List Addr
  | [], k => k seen acc
  | a :: r, k => HandSHeadRun.frNat a fun a => bif Nat.beq (Nat.land (Nat.shiftRight seen a) 1) 0 then HandSHeadRun.frNat (Nat.lor seen (Nat.shiftLeft 1 a)) fun s => addN s (a :: acc) r k else addN seen acc r k
def refN (g : Addr → Option Obj) (front : List Addr) : List Addr := front.flatMap fun a => bif Nat.beq a mainGlobals then [] else match g a with
  | some o => He.refsD o
  | none => []
def goN (g : Addr → Option Obj) : Nat → Nat → List Addr → List Addr → List Addr
  | 0, _, all, _ => all
  | n + 1, seen, all, front => addN seen [] (refN g front) fun s new => goN g n s (new ++ all) new
/-- the objects of some names, and what they name -/
def asN (g : Addr → Option Obj) (need : List Str) (n : Nat) : List Addr := addN 0 [] (mainGlobals :: need.map (He.ga (He.frG g [mainGlobals]))) fun s new => goN g n s new new
def asP (g : Addr → Option Obj) (as : List Addr) : List Addr := match lawTab (He.frG g as) with
  | some (_, P) => cStatics :: as.filter fun a => a != P
  | none => cStatics :: as
abbrev asZ (g : Addr → Option Obj) (need : List Str) (n : Nat) : List Addr := asP g (asN g need n)
def obsZK (fa : List He.Fa) (fn : List He.DefD) (tb : List Tb) (xs : List XDef) (ss : List SDf) (file : Str) (g : Addr → Option Obj) (K : PySem.W.Frag) : AlY :=
  ((He.obsD fa fn K, boolX tb xs file K && tabOk g K, xs.map fun d => fnC K d.x), ss.all (fun d => d.okB K), ss.map fun d => fnSm K d)
def obsZG (need : List Str) (n : Nat) (fa : List He.Fa) (fn : List He.DefD) (tb : List Tb) (xs : List XDef) (ss : List SDf) (file : Str) (g : Addr → Option Obj) : AlY :=
  obsZK fa fn tb xs ss file g (He.frG g (asZ g need n))
def hookZ (need : List Str) (n : Nat) (fa : List He.Fa) (fn : List He.DefD) (tb : List Tb) (xs : List XDef) (ss : List SDf) (file : Str) : PySem.W.Hook where
  α := AlY
  obs := fun s => obsZG need n fa fn tb xs ss file s.heap.get?
  val := fun _ => ((He.valD fn, true, xs.map XDef.val), true, ss.map SDf.val)
  says := fun _ h => ∃ (K : PySem.W.Frag) (c P : Addr), K.In h ∧ SaysY fa fn tb xs ss file K ∧ lawTab K = some (c, P) ∧ PySem.W.codeHdIn K c P = true ∧ K.lookup P = none ∧ h.get? P = some { cls := .none, data := .fields #[] }
  of := fun _ s e => by
    unfold obsZG obsZK at e
    obtain ⟨e0, e6⟩ := Prod.mk.inj e
    obtain ⟨e7, e8⟩ := Prod.mk.inj e6
    obtain ⟨e1, e2⟩ := Prod.mk.inj e0
    obtain ⟨e2, e3⟩ := Prod.mk.inj e2
    obtain ⟨e4, e5⟩ := Bool.and_eq_true_iff.mp e2
    unfold tabOk at e5
    split at e5
    · rename_i c P q
      simp only [Bool.and_eq_true] at e5
      obtain ⟨⟨h1, h2⟩, h3⟩ := e5
      exact ⟨_, c, P, He.frG_in, ⟨⟨e1, e4, e3⟩, e7, e8⟩, q, h1, Option.isNone_iff_eq_none.mp h2, emptyT_ok h3⟩
    · cases e5
  keeps := fun _ _ _ ⟨K, c, P, hK, x, q, h1, h2, h3⟩ k => ⟨K, c, P, PySem.W.Frag.In.keeps hK k, x, q, h1, h2, k _ _ h3⟩
theorem obsZG_eq {need : List Str} {n : Nat} {fa : List He.Fa} {fn : List He.DefD} {tb : List Tb} {xs : List XDef} {ss : List SDf} {file : Str} {g : Addr → Option Obj} {s : Shared} (h : ∀ a, g a = s.heap.get? a) : obsZG need n fa fn tb xs ss file g = (hookZ need n fa fn tb xs ss file).obs s := by
  have e : g = s.heap.get? := funext h
  rw [e] <;> rfl
/-! the head's three looks apart: less is held at a time -/
theorem mapT {α β γ δ : Type} {z : Option α} {f : α → β} {g : α → γ} {h : α → δ} {a : β} {b : γ} {c : δ} (h1 : z.map f = some a) (h2 : z.map g = some b) (h3 : z.map h = some c) : z.map (fun s => (f s, g s, h s)) = some (a, b, c) := by
  cases z with
  | none => cases h1
  | some x => cases h1; cases h2; cases h3; rfl
theorem mapE {α β γ : Type} {z : Option α} {f : α → β × γ} {a : β} {b : γ} (h1 : z.map (fun s => (f s).1) = some a) (h2 : z.map (fun s => (f s).2) = some b) : z.map f = some (a, b) := by
  cases z with
  | none => cases h1
  | some x => cases h1; cases h2; rfl
end Ts
/-! ### x, *y = a tuple -/
namespace Ts
open PySem PySem.Spec PyProof.Rows L2
section
variable {prog : Program} {w : World} {A : Around} {E : Value → Shared → Prop} {s : Shared}
theorem walks_from {I ax : Addr} {items : Array Value} {i : Nat} (hi : i ≤ items.size) (W : Walks prog w A I [I, ax] [I] items.size (fun i v => items[i]? = some v) (fun i h => h.IsTupleIter I ax i ∧ h.IsTuple ax items)) :
    Walks prog w A I [I, ax] [I] (items.size - i) (fun j v => items[i + j]? = some v) (fun j h => h.IsTupleIter I ax (i + j) ∧ h.IsTuple ax items) where
  sub := W.sub
  frame := fun j h h' st => W.frame (i + j) h h' st
  item := fun j s Q E hj st hQ => W.item (i + j) s Q E (by omega) st fun v h' tk hv st' hk => hQ v h' tk hv (by rw [← Nat.add_assoc]; exact st') hk
  done := fun s Q E st hQ => W.done s Q E (by rw [Nat.add_sub_cancel' hi] at st; exact st) hQ
  self := fun j s Q E st hQ => W.self (i + j) s Q E st hQ
theorem itemsOf_drop {items acc : Array Value} {i : Nat} (hi : i ≤ items.size) (h : ItemsOf (fun j v => items[i + j]? = some v) acc (items.size - i)) : acc.toList = items.toList.drop i := by
  refine List.ext_getElem? fun j => ?_
  rw [List.getElem?_drop]
  by_cases hj : j < acc.size
  · have := h.2 j acc[j] (by simp [hj])
    simp only [Array.getElem?_toList, this]
    simp [hj]
  · have h1 := h.1
    rw [List.getElem?_eq_none (by simpa using hj), List.getElem?_eq_none (by simp; omega)]
theorem unpackItems_star {t : Addr} {items : Array Value} {i : Nat} {Q : List Value → Shared → Prop} (hh : A.handled = none) (ht : IsTup s.heap t items) (hi : i ≤ items.size) (hsz : items.size ≤ sizeLine)
    (hQ : ∀ (h' : Heap) (tk : Nat), (∀ b o, s.heap.get? b = some o → h'.get? b = some o) → Q (items.toList.take i ++ [.ref h'.objs.size]) { s with heap := h'.push { cls := .type "list", data := .seq (items.toList.drop i).toArray }, toks := tk }) :
    wpAny (model prog w) A (unpackItems (.ref t) (i + 1) (some i)) Q E s := by
  have hlt : t ≠ s.heap.objs.size := by obtain ⟨o, ho, _⟩ := ht; exact Nat.ne_of_lt (Heap.lt_size ho)
  unfold unpackItems
  refine wpAny_bind ?_
  unfold notIterableAtAll
  refine wpAny_bind (wpAny_specialOf ht.typeIs slot_tuple_iter.lookup ?_)
  refine wpAny_pure ?_
  simp only [Bool.false_eq_true, if_false]
  refine wpAny_bind (wpAny_holding (iter_tuple ht ?_))
  refine wpAny_bind (wpAny_holding (draw_tuple hlt i 0 _ _ ⟨_, Heap.get?_push_size _ rfl, rfl, rfl⟩ (ht.push _) (by omega) fun h₁ hit₁ hs₁ => ?_))
  rw [List.drop_zero, if_neg (by simp; omega)]
  have ht₁ : IsTup h₁ t items := (ht.push _).extBut hs₁.extBut hlt
  rw [Nat.zero_add] at hit₁
  have W := (walks_from hi (Walks.tuple (prog := prog) (w := w) (A := A.in1) hh s.heap.objs.size t hlt items)).toS
  have lt1 : ∀ b o, h₁.get? b = some o → b < h₁.objs.size := fun b o e => Heap.lt_size e
  refine wpAny_bind (wpAny_holding (wpAny_collect_iter (.inr (.inr (.inr rfl))) W (fun j s st => ?_) ⟨by rw [Nat.add_zero]; exact hit₁, ht₁⟩ (fun b hb => ?_) (by simp) (fun s' acc hm hacc => ?_) (Nat.le_trans (Nat.sub_le _ _) hsz)))
  · obtain ⟨o, ho, hc, _⟩ := st.1
    exact ⟨o, ho, hc⟩
  · simp only [List.mem_cons, List.not_mem_nil, or_false] at hb
    rcases hb with rfl | rfl
    · obtain ⟨o, ho, _⟩ := hit₁; exact lt1 _ _ ho
    · obtain ⟨o, ho, _⟩ := ht₁; exact lt1 _ _ ho
  · rw [itemsOf_drop hi hacc]
    have e0 : i + 1 - 1 - i = 0 := by omega
    simp only [e0, Nat.not_lt_zero, if_false, Nat.sub_zero]
    rw [Moved.eq_with hm]
    refine wpAny_bind (wpAny_newObj_type ?_ (by
      show (items.toList.drop i |>.take (items.toList.drop i).length).toArray.size ≤ sizeLine
      simp; omega))
    refine wpAny_pure ?_
    rw [List.take_length, List.drop_length, List.append_nil]
    refine hQ s'.heap s'.toks fun b o e => ?_
    have nb : b ≠ s.heap.objs.size := Nat.ne_of_lt (Heap.lt_size e)
    exact hm.heap b o (fun z => nb (List.mem_singleton.mp z)) (hs₁.extBut b o nb (Heap.get?_push_of_some _ e))
end
/-- the first n, then a new list of the rest -/
def gStar (K : PySem.W.Frag) (n : Nat) (t : TGs) : TG := fun v σ H Q => ∃ a xs, v = .ref a ∧ SqT K H a xs ∧ n ≤ xs.length ∧ xs.length ≤ sizeLine ∧ ∀ p, H p = none → t (xs.take n ++ [.ref p]) σ (upd H p (.lst (xs.drop n))) Q
section
variable {X : Cx} {W : WX} {pos : Pos}
theorem pg_star {es es' : List Expr} {k n : Nat} {t : TGs} (hc : X.calm = true) (h : PGs X es' t) (hn : (assignEach es X.env).length = n + 1) (hst : (assignEach es X.env).findIdx? (·.1) = some n) (he : (assignEach es X.env).map (·.2) = (assignEach es' X.env).map (·.2)) : PG X (.Tuple es k pos) (gStar X.K n t) := by
  refine ⟨fun pins s σ H v u Q I r hw => ?_⟩
  obtain ⟨a, xs, e1, hq, hl, hz0, hw⟩ := hw
  subst e1
  cases r
  obtain ⟨its, rv, ht, hz⟩ := I.tuple hq
  have hlen : xs.length = its.length := rv.length
  rw [assign_Tuple]
  refine wpAny_bind (wpAny_standAt ?_)
  unfold unpack
  rw [hn, hst, he]
  refine wpAny_bind (wpAny_holding (unpackItems_star (I.ok.hd hc) ht (by simp; omega) (by simp; omega) fun h' tk hx => ?_))
  have I1 : Inv X pins σ H { s with heap := h', toks := tk } := I.kept hx
  have hf : H h'.objs.size = none := I1.hok.fresh (Nat.le_refl _)
  have rd : Vals (xs.drop n) (its.drop n) := rv.drop n
  have I2 : Inv X pins σ (upd H h'.objs.size (.lst (xs.drop n))) { s with heap := h'.push { cls := .type "list", data := .seq (its.drop n).toArray }, toks := tk } := I1.laid (t' := tk) (fun b u e => Heap.get?_push_of_some _ e) (Nat.le_refl _) ⟨by rw [List.length_drop]; omega, its.drop n, 0, rd, Heap.get?_push_size _ rfl⟩
  exact h.run pins _ σ _ (xs.take n ++ [.ref h'.objs.size]) _ Q I2 ((rv.take n).append (.cons (show L2.RelV (V.ref h'.objs.size) (Value.ref h'.objs.size) from rfl) .nil)) (hw _ hf)
/-- x, *y = a tuple -/
def stD : D → (D → List D → Prop) → Prop
  | .tup (d :: ds), k => k d ds
  | .pr (d :: ds), k => k d ds
  | _, _ => False
@[reducible] def vStar (i j : Nat) (a : VE) : VS := fun s m G => a s m (fun d m' => stD d fun x xs => xs.length ≤ 100000 ∧ G.nx ((s.set i (some x)).set j (some (.lst xs))) m') fun e m' => G.ex e s m'
theorem js_star {i j : Nat} {x y : Str} {e : Expr} {ve : VE} {p1 p2 p3 pt : Pos} {k : Nat} (hc : X.calm = true) (he : JE X W e ve) (g1 : PG X (.Name x p1) (gName i)) (g2 : PG X (.Name y p2) (gName j))
    (hs : swapsWithSole [.Tuple [.Name x p1, .Starred (.Name y p2) p3] k pt] e pos.line X.env = pure false := by rfl) (hw : swappedStores [.Tuple [.Name x p1, .Starred (.Name y p2) p3] k pt] e X.env = pure none := by rfl) :
    JS X W (.Assign [.Tuple [.Name x p1, .Starred (.Name y p2) p3] k pt] e pos) (vStar i j ve) := by
  obtain ⟨t, p, s1⟩ := he
  have g := pg_star (X := X) (es := [.Name x p1, .Starred (.Name y p2) p3]) (es' := [.Name x p1, .Name y p2]) (k := k) (pos := pt) hc (pgs_cons g1 (pgs_cons g2 pgs_nil)) rfl rfl rfl
  refine ⟨_, ps_asg p g hs hw, fun σ F H s m G l en h E L => s1 σ F H s m _ _ l en h (L.x en) _ fun v d F' H' m' st r hk => ?_⟩
  have key : ∀ (d0 : D) (ds : List D) (a : Addr) (xs : List V), v = .ref a → SqT X.K H' a xs → RpL X.K X.mg F' xs (d0 :: ds) → ds.length ≤ 100000 → G.nx ((s.set i (some d0)).set j (some (.lst ds))) m' → gStar X.K 1 (gCons (gName i) (gCons (gName j) gNil)) v σ H' E.nx := fun d0 ds a xs ev sq rl hl hg => by
    have hlen := rl.len
    rw [List.length_cons] at hlen
    refine ⟨a, xs, ev, sq, by omega, by rw [sizeLine_eq]; omega, fun q hq => ?_⟩
    cases rl with
    | cons r0 rr =>
      rename_i v0 vr
      have st2 := Step.new (F := F') (o := .lst vr) st.le hq
      have st3 := st.trans (st2.stm st.mr)
      refine ⟨v0, [.ref q], rfl, .ref q, [], rfl, rfl, ?_⟩
      exact L.nx _ _ _ _ m' st3 (((en.stm st3).set (r0.mono st2.gr)).set (.lst upd_same (rr.mono st2.gr))) hg
  unfold stD at hk
  split at hk
  · rename_i d0 ds
    obtain ⟨a, xs, ev, sq, rl⟩ := r.tupI
    exact key d0 ds a xs ev (st.le.sqt sq) rl hk.1 hk.2
  · rename_i d0 ds
    obtain ⟨a, xs, ev, sq, rl⟩ := r.prI
    exact key d0 ds a xs ev (st.le.sqt (SqT.of sq)) rl hk.1 hk.2
  · exact hk.elim
end
end Ts
/-! ### dict(d) in the memory; d.clear() -/
namespace Ts
open PySem PySem.Spec PyProof.Rows L2
section
variable {X : Cx} {W : WX} {pos : Pos}
/-- dict(d): a new dict of the memory -/
def oDictO : OA := fun ds m k => match ds with
  | [d] => onO (asK m d) fun kvs => ∀ p, m p = none → k (.ref p) (mset m p (.dic kvs))
  | _ => False
theorem jo_dictO : JOA X (.type "dict") oDictO := ⟨_, call_dictD, fun F H m xs us k l mr r h Q q => by
  unfold oDictO at h
  split at h
  · obtain ⟨u, rfl, a⟩ := r.one
    obtain ⟨kvs, h1, h⟩ := onO_of h
    obtain ⟨p, xs, rfl, rd, rk⟩ := a.asKD l mr h1
    exact ⟨p, xs, rfl, rd, fun n hn => q _ _ F _ _ (StM.new l mr hn (u := .dic kvs) ⟨xs, upd_same, rk⟩) (.ref n) (h n (mr.free hn))⟩
  · exact h.elim⟩
/-- d.clear() -/
def oClearD : OM := fun x vs m k => match vs with
  | [] => onD m x fun p _ => k .non (mset m p (.dic []))
  | _ => False
theorem jm_clearD : JM X "dict.clear" oClearD := ⟨_, mtd_clear, fun F H m x xs u us k l mr r rs h Q q => by
  unfold oClearD at h
  split at h
  · obtain ⟨p, kvs, rfl, hm, h⟩ := onD_of h
    cases rs
    obtain ⟨_, ys, e, rl⟩ := mr p _ hm
    exact ⟨p, ys, r.refI, rfl, e, q _ _ F _ _ (StM.put l mr hm rfl (u := .dic []) ⟨_, upd_same, .nil⟩) .non h⟩
  · exact h.elim⟩
/-- a method without arguments of a dict of the memory -/
@[reducible] def vBM0D (o : OM) (a : VE) : VE := fun s m k x => a s m (fun d m1 => (onD m1 d fun _ _ => True) ∧ o d [] m1 k) x
theorem je_bm0D {o : Expr} {vo : VE} {name : Str} {apos cpos : Pos} {id : String} {om : OM} (pa : PlainAttrs "dict") (slot : Slot "dict" name id) (hty : typeOf (.builtin id) = pure (.type "method_descriptor")) (hm : JM X id om) (ho : JE X W o vo)
    (hbase : attributeBase o name X.env (eval o X.env) = eval o X.env := by rfl) (hline : (apos.endLine == cpos.line) = true := by rfl) : JE X W (.Call (.Attribute o name apos) [] [] cpos) (vBM0D om vo) := by
  obtain ⟨r, h0, h1⟩ := hm; obtain ⟨to, p1, s1⟩ := ho
  refine ⟨_, pe_bm0 pa slot hty h0 p1 hbase hline, fun σ F H s m k x l en hv hx Q q => s1 σ F H s m _ x l en hv hx _ fun u d F1 H1 m1 t1 r1 k1 => ⟨?_,
    h1 F1 H1 m1 d [] u [] k t1.le t1.mr r1 .nil k1.2 Q fun w d' F3 H3 m3 t3 r3 k3 => q w d' F3 H3 m3 (t1.trans t3) r3 k3⟩⟩
  obtain ⟨p, kvs, rfl, hm, _⟩ := onD_of k1.1
  obtain ⟨_, xs, e, _⟩ := t1.mr p _ hm
  rw [r1.refI]
  exact .inr (.inr (.inl ⟨rfl, .inl ⟨xs, e⟩⟩))
/-- {k: a, l: b}: a new dict of the memory -/
@[reducible] def vDisp2 (a1 b1 a2 b2 : VE) : VE := fun s m k x => ∀ p, m p = none → a1 s (mset m p (.dic [])) (fun k1 m1 => b1 s m1 (fun d1 m2 => a2 s m2 (fun k2 m3 => b2 s m3 (fun d2 m4 => onO (keyD k1) fun c1 => onO (keyD k2) fun c2 => m4 p = some (.dic []) ∧ k (.ref p) (mset m4 p (.dic (mergeD [] [(c1, d1), (c2, d2)])))) x) x) x) x
theorem je_disp2 {e1 f1 e2 f2 : Expr} {a1 b1 a2 b2 : VE} (h1 : JE X W e1 a1) (h2 : JE X W f1 b1) (h3 : JE X W e2 a2) (h4 : JE X W f2 b2) : JE X W (.Dict [some e1, some e2] [f1, f2] pos) (vDisp2 a1 b1 a2 b2) := by
  obtain ⟨t1, p1, s1⟩ := h1; obtain ⟨t2, p2, s2⟩ := h2; obtain ⟨t3, p3, s3⟩ := h3; obtain ⟨t4, p4, s4⟩ := h4
  refine ⟨_, pe_disp (pps_cons p1 p2 (pps_cons p3 p4 pps_nil)) rfl rfl (by simp) (by simp), fun σ F H s m k x l en hvv hx Q q p hp => ?_⟩
  have mp := en.mem.free hp
  have q0 := StM.new l en.mem hp (o := .dK []) (u := .dic []) ⟨[], upd_same, .nil⟩
  refine s1 σ F _ s _ _ x q0.le (en.stm q0) (hvv p mp) (hx.after q0) _ fun u1 d1 F1 H1 m1 w1 r1 g1 => ?_
  refine s2 σ F1 _ s _ _ x w1.le ((en.stm q0).stm w1) g1 ((hx.after q0).after w1) _ fun u2 d2 F2 H2 m2 w2 r2 g2 => ?_
  refine s3 σ F2 _ s _ _ x w2.le (((en.stm q0).stm w1).stm w2) g2 (((hx.after q0).after w1).after w2) _ fun u3 d3 F3 H3 m3 w3 r3 g3 => ?_
  refine s4 σ F3 _ s _ _ x w3.le ((((en.stm q0).stm w1).stm w2).stm w3) g3 ((((hx.after q0).after w1).after w2).after w3) _ fun u4 d4 F4 H4 m4 w4 r4 g4 => ?_
  obtain ⟨c1, e1, g4⟩ := onO_of g4
  obtain ⟨c2, e2, hm4, g4⟩ := onO_of g4
  obtain ⟨_, ys, ey, ry⟩ := w4.mr p _ hm4
  cases ry
  have z1 := keyD_ok e1 r1
  have z2 := keyD_ok e2 r3
  have rk : RpK X.K X.mg F4 [(c1, u2), (c2, u4)] [(c1, d2), (c2, d4)] := .cons (r2.mono (w3.gr.trans w4.gr)) (.cons r4 .nil)
  have sp := StM.put (o := .dK (mergeK [] [(c1, u2), (c2, u4)])) w4.le w4.mr hm4 rfl (u := .dic (mergeD [] [(c1, d2), (c2, d4)])) ⟨_, upd_same, rk.merge .nil⟩
  refine ⟨ey, [(c1, u2), (c2, u4)], by rw [z1, z2]; rfl, by simp, q _ _ F4 _ _ (((((q0.trans w1).trans w2).trans w3).trans w4).trans sp) (.ref p) g4⟩
/-- frozen, where it is not None -/
@[reducible] def vFzN (a : VE) : VE := fun s m k x => a s m (fun d m' => match d with
  | .ref p => match m' p with
    | some o => o.onF fun d => k d (mdel m' p)
    | none => False
  | .non => k .non m'
  | _ => False) x
theorem je_fzN {e : Expr} {ve : VE} (h : JE X W e ve) : JE X W e (vFzN ve) := by
  obtain ⟨t, p, s1⟩ := h
  refine ⟨_, pe_lk p, fun σ F H s m k x l en hv hx Q q => s1 σ F H s m _ x l en hv hx _ fun v d F1 H1 m1 t1 r1 k1 => ?_⟩
  cases d with
  | ref p =>
    cases hm : m1 p with
    | none => simp only [hm] at k1
    | some o =>
      simp only [hm] at k1
      obtain rfl := r1.refI
      cases hk0 : o.isK with
      | false =>
        obtain ⟨F', d', st, r, hk⟩ := StM.frz t1.le t1.mr hm hk0 k1
        exact .inl (q _ _ F' H1 _ (t1.trans st) r hk)
      | true =>
        cases o with
        | dic ds =>
          obtain ⟨xs, hp, st0⟩ := StM.lock t1.le t1.mr hm
          refine .inr ⟨p, _, rfl, hp, trivial, fun od => ?_⟩
          obtain ⟨F', d', st, r, hk⟩ := StM.frz (u := .lck ds) (st0 od).le (st0 od).mr mset_same rfl (k := fun d => k d (mdel m1 p)) k1
          rw [mdel_lk] at st
          exact q _ _ F' _ _ (t1.trans ((st0 od).trans st)) r hk
        | _ => cases hk0
  | non => exact .inl (q _ _ F1 H1 m1 t1 r1 k1)
  | _ => exact k1.elim
/-- what is behind such a call, as one sign -/
def fzK (k : KD) : KD := fun d m' => match d with
  | .ref p => match m' p with
    | some o => o.onF fun d => k d (mdel m' p)
    | none => False
  | .non => k .non m'
  | _ => False
def vFzW (a : VE) : VE := fun s m k x => a s m (fzK k) x
theorem vFzW_of {a : VE} {s : SL} {m : Mem} {k : KD} {x : KX} (h : a s m (fzK k) x) : vFzW a s m k x := h
theorem je_fzW {e : Expr} {ve : VE} (h : JE X W e ve) : JE X W e (vFzW ve) := je_fzN h
end
/-- a def with names and a star behind them, that owns memory -/
theorem fn_SP {P : Program} {w : World} {K : PySem.W.Frag} {mg : Str → Option Value} {base : Heap} {x qual pv : Str} {params : Arguments} {body : List Stmt} {scope : Scope} {kws : List (Str × V)} {f : Addr} {fd : FuncData} {φ : P0} {v : VS} {N ps : List Str} {k : Nat} (F : FunD K x qual params body scope [] kws f fd) (S : FnScope N (ps ++ [pv]) scope) (hl : ∀ ds m k, φ ds m k → ps.length ≤ ds.length ∧ ds.length ≤ 1000)
    (hbd : ∀ (kV doc pm : Value) (an : Option Addr) (cdv ct : Value) (us rest : List Value), us.length = ps.length → bindArgs (PySem.W.fnOf x qual params body scope .none kV doc pm an cdv ct) ⟨us ++ rest, []⟩ = (newTuple rest >>= fun t => pure (ps.zip us ++ [(pv, t)])))
    (hb : ∀ (cdv : Value) (A : Around) (outer : List Env) (s : Shared) (H : Hp) (E : XK), Room k (A.deeper (envOfC qual scope s.heap.objs.size f cdv)) → JSs (cxOf CX0 P w K mg base N qual scope f cdv A outer s H E).nox (fun _ _ _ _ => False) body v)
    (hw : ∀ as es m k, as.length = ps.length → φ (as ++ es) m k → v (dstart N.length (as ++ [.pr es])) m (endV k)) : FnR P w K mg base CX0 (k + 1) f (Sp0 K mg φ) := by
  obtain ⟨oc, od, dV, kV, doc, pm, an, cdv, ct, osl, rfl, lk, hcd, hD, _⟩ := F.ex
  obtain rfl : dV = .none := hD.elim (fun z => z.2) fun z => absurd rfl z.1
  have G := StX.fn_star (P := P) (w := w) (mg := mg) (base := base) (k := k) (ps := ps) (pv := pv) (sp := Sp0 K mg (fun ds m k => ∃ as es, ds = as ++ [.pr es] ∧ as.length = ps.length ∧ φ (as ++ es) m k)) lk hcd S (StX.cxUp_none) (fun us rest hl => hbd kV doc pm an cdv ct us rest hl) (fun A outer s H vs Q E hr ⟨F, ds, m, k, l, r, mr, p, q⟩ => by
    obtain ⟨t, ht, hs⟩ := hb cdv A outer s H E hr
    obtain ⟨as, es, rfl, hla, p⟩ := p
    exact ⟨t, ht.nox, hs _ F H _ m _ l (env_start mr r) (hw _ _ _ _ hla p) _ ⟨fun σ' s' F' H' m' st e ⟨m'', hm, g⟩ => q _ _ F' H' m'' (st.sub hm) .non g, fun v d F' H' m' st rd ⟨m'', hm, g⟩ => q v d F' H' m'' (st.sub hm) rd g, fun _ _ _ _ _ _ _ g => g.elim, fun _ _ _ _ _ _ _ g => g.elim, fun _ _ _ _ _ _ _ _ _ _ _ g => g.elim⟩⟩)
  refine G.imp fun vs H Q E ⟨F, ds, m, k, l, r, mr, p, q⟩ => ?_
  have hlen := hl _ _ _ p
  have hv := r.len
  refine ⟨vs.take ps.length, vs.drop ps.length, (List.take_append_drop _ _).symm, by rw [List.length_take]; omega, by rw [List.length_drop]; exact Nat.le_trans (Nat.sub_le _ _) (by rw [hv]; exact Nat.le_trans hlen.2 (by decide)), fun p' hp' => ?_⟩
  have s := Step.new (F := F) (o := .tup (vs.drop ps.length)) l hp'
  exact ⟨upd F p' (.tup (vs.drop ps.length)), ds.take ps.length ++ [.pr (ds.drop ps.length)], m, k, s.le, ((r.take _).mono s.gr).app (.cons (.pr upd_same ((r.drop _).mono s.gr)) .nil), mr.step s, ⟨_, _, rfl, by rw [List.length_take]; omega, by rw [List.take_append_drop]; exact p⟩, fun y v F' H' m' st r' hk => q y v F' H' m' ((s.stm mr).trans st) r' hk⟩
end Ts
/-! ### match on a tuple: a text, then names -/
namespace Ts
open PySem PySem.Spec PyProof.Rows L2
section
variable {X : Cx} {W : WX}
inductive SlN (X : Cx) : List Nat → List Str → Prop
  | nil : SlN X [] []
  | cons {i : Nat} {x : Str} {is : List Nat} {xs : List Str} : X.N[i]? = some x → Loc X.env.scope x → (X.fn x = true ∨ X.env.scope.names.lookup x = some .local) → SlN X is xs → SlN X (i :: is) (x :: xs)
theorem SlN.len {is : List Nat} {xs : List Str} (h : SlN X is xs) : is.length = xs.length := by
  induction h with
  | nil => rfl
  | cons _ _ _ _ ih => simp [ih]
/-! over data -/
def setsD : List Nat → List D → SL → SL
  | i :: is, d :: ds, s => setsD is ds (s.set i (some d))
  | _, _, s => s
theorem setsD_c (i : Nat) (is : List Nat) (d : D) (ds : List D) (s : SL) : setsD (i :: is) (d :: ds) s = setsD is ds (s.set i (some d)) := rfl
theorem setsD_n (ds : List D) (s : SL) : setsD [] ds s = s := by cases ds <;> rfl
/-- a text first -/
def hdS : List D → (Str → List D → Prop) → Prop
  | .str z :: es, k => k z es
  | _, _ => False
/-- the items of a tuple -/
def tpD : D → (List D → Prop) → Prop
  | .tup ds, k => k ds
  | .pr ds, k => k ds
  | _, _ => False
abbrev VT' := List D → VS
@[reducible] def vMtN : VT' := fun _ => vNext
@[reducible] def vMt (c : Str) (n : Nat) (is : List Nat) (a : VS) (u : VT') : VT' := fun ds s m G => if ds.length = n then hdS ds fun z es => if z = c then a (setsD is es s) m G else u ds s m G else u ds s m G
@[reducible] def vMatchT (a : VE) (v : VT') : VS := fun s m G => a s m (fun d m1 => tpD d fun ds => v ds s m1 G) fun e m' => G.ex e s m'
end
end Ts
namespace Ts
open PySem PySem.Spec PyProof.Rows L2
theorem tpD_1 : type_of% @tpD.eq_1 := @tpD.eq_1
theorem tpD_2 : type_of% @tpD.eq_2 := @tpD.eq_2
theorem hdS_1 : type_of% @hdS.eq_1 := @hdS.eq_1
theorem oLenI_1 : type_of% @oLenI.eq_1 := @oLenI.eq_1
theorem oReprI_1 : type_of% @oReprI.eq_1 := @oReprI.eq_1
theorem blD_1 : type_of% @blD.eq_1 := @blD.eq_1
theorem inD_1 : type_of% @inD.eq_1 := @inD.eq_1
theorem txD_1 : type_of% @txD.eq_1 := @txD.eq_1
theorem swapX_1 : type_of% @swapX.eq_1 := @swapX.eq_1
theorem oAdd_1 : type_of% @oAdd.eq_1 := @oAdd.eq_1
theorem oAdd_2 : type_of% @oAdd.eq_2 := @oAdd.eq_2
theorem oAdd_3 : type_of% @oAdd.eq_3 := @oAdd.eq_3
theorem oAdd_4 : type_of% @oAdd.eq_4 := @oAdd.eq_4
theorem oAdd_5 : type_of% @oAdd.eq_5 := @oAdd.eq_5
theorem oAdd_6 : type_of% @oAdd.eq_6 := @oAdd.eq_6
theorem oSub_1 : type_of% @oSub.eq_1 := @oSub.eq_1
theorem oMul_1 : type_of% @oMul.eq_1 := @oMul.eq_1
theorem oMul_2 : type_of% @oMul.eq_2 := @oMul.eq_2
theorem oMul_3 : type_of% @oMul.eq_3 := @oMul.eq_3
theorem oFdiv_1 : type_of% @oFdiv.eq_1 := @oFdiv.eq_1
theorem oMod_1 : type_of% @oMod.eq_1 := @oMod.eq_1
theorem oPow_1 : type_of% @oPow.eq_1 := @oPow.eq_1
theorem oNeg_1 : type_of% @oNeg.eq_1 := @oNeg.eq_1
theorem oLt_1 : type_of% @oLt.eq_1 := @oLt.eq_1
theorem oLt_2 : type_of% @oLt.eq_2 := @oLt.eq_2
theorem oLe_1 : type_of% @oLe.eq_1 := @oLe.eq_1
theorem oGt_1 : type_of% @oGt.eq_1 := @oGt.eq_1
theorem oGt_2 : type_of% @oGt.eq_2 := @oGt.eq_2
theorem oGe_1 : type_of% @oGe.eq_1 := @oGe.eq_1
theorem oIs_1 : type_of% @oIs.eq_1 := @oIs.eq_1
theorem oIsNot_1 : type_of% @oIsNot.eq_1 := @oIsNot.eq_1
theorem oIx_1 : type_of% @oIx.eq_1 := @oIx.eq_1
theorem oIx_2 : type_of% @oIx.eq_2 := @oIx.eq_2
theorem oIx_3 : type_of% @oIx.eq_3 := @oIx.eq_3
theorem oIx_4 : type_of% @oIx.eq_4 := @oIx.eq_4
theorem oIx_5 : type_of% @oIx.eq_5 := @oIx.eq_5
theorem oSl_1 : type_of% @oSl.eq_1 := @oSl.eq_1
theorem oSl_2 : type_of% @oSl.eq_2 := @oSl.eq_2
theorem oSl_3 : type_of% @oSl.eq_3 := @oSl.eq_3
theorem oSl_4 : type_of% @oSl.eq_4 := @oSl.eq_4
theorem oLen_1 : type_of% @oLen.eq_1 := @oLen.eq_1
theorem oLen_2 : type_of% @oLen.eq_2 := @oLen.eq_2
theorem oLen_3 : type_of% @oLen.eq_3 := @oLen.eq_3
theorem oLen_4 : type_of% @oLen.eq_4 := @oLen.eq_4
theorem oLen_5 : type_of% @oLen.eq_5 := @oLen.eq_5
theorem oLen_6 : type_of% @oLen.eq_6 := @oLen.eq_6
theorem oInt_1 : type_of% @oInt.eq_1 := @oInt.eq_1
theorem oInt_2 : type_of% @oInt.eq_2 := @oInt.eq_2
theorem oInt_3 : type_of% @oInt.eq_3 := @oInt.eq_3
theorem oAbs_1 : type_of% @oAbs.eq_1 := @oAbs.eq_1
theorem oAll_1 : type_of% @oAll.eq_1 := @oAll.eq_1
theorem oTuple_1 : type_of% @oTuple.eq_1 := @oTuple.eq_1
theorem oTuple_2 : type_of% @oTuple.eq_2 := @oTuple.eq_2
theorem oTuple_3 : type_of% @oTuple.eq_3 := @oTuple.eq_3
theorem oTuple_4 : type_of% @oTuple.eq_4 := @oTuple.eq_4
theorem oList_1 : type_of% @oList.eq_1 := @oList.eq_1
theorem oList_2 : type_of% @oList.eq_2 := @oList.eq_2
theorem oList_3 : type_of% @oList.eq_3 := @oList.eq_3
theorem oList_4 : type_of% @oList.eq_4 := @oList.eq_4
theorem oList_5 : type_of% @oList.eq_5 := @oList.eq_5
theorem oListO_1 : type_of% @oListO.eq_1 := @oListO.eq_1
theorem oListO_2 : type_of% @oListO.eq_2 := @oListO.eq_2
theorem oListO_3 : type_of% @oListO.eq_3 := @oListO.eq_3
theorem oListO_4 : type_of% @oListO.eq_4 := @oListO.eq_4
theorem oListO_5 : type_of% @oListO.eq_5 := @oListO.eq_5
theorem vGet_1 : type_of% @vGet.eq_1 := @vGet.eq_1
theorem isB_1 : type_of% @isB.eq_1 := @isB.eq_1
theorem gNl_1 : type_of% @gNl.eq_1 := @gNl.eq_1
theorem gCn_1 : type_of% @gCn.eq_1 := @gCn.eq_1
theorem gTp_1 : type_of% @gTp.eq_1 := @gTp.eq_1
theorem gTp_2 : type_of% @gTp.eq_2 := @gTp.eq_2
theorem gUl_1 : type_of% @gUl.eq_1 := @gUl.eq_1
theorem gUl_2 : type_of% @gUl.eq_2 := @gUl.eq_2
theorem onL_1 : type_of% @onL.eq_1 := @onL.eq_1
theorem onO_1 : type_of% @onO.eq_1 := @onO.eq_1
theorem onO_2 : type_of% @onO.eq_2 := @onO.eq_2
theorem onM_1 : type_of% @onM.eq_1 := @onM.eq_1
theorem oIadd_1 : type_of% @oIadd.eq_1 := @oIadd.eq_1
theorem oIadd_2 : type_of% @oIadd.eq_2 := @oIadd.eq_2
theorem oInS_1 : type_of% @oInS.eq_1 := @oInS.eq_1
theorem oNotInS_1 : type_of% @oNotInS.eq_1 := @oNotInS.eq_1
theorem onS_1 : type_of% @onS.eq_1 := @onS.eq_1
theorem flD_1 : type_of% @flD.eq_1 := @flD.eq_1
theorem flD_2 : type_of% @flD.eq_2 := @flD.eq_2
theorem flD_3 : type_of% @flD.eq_3 := @flD.eq_3
theorem flD_4 : type_of% @flD.eq_4 := @flD.eq_4
theorem strD_1 : type_of% @strD.eq_1 := @strD.eq_1
theorem wkD_1 : type_of% @wkD.eq_1 := @wkD.eq_1
theorem wkD_2 : type_of% @wkD.eq_2 := @wkD.eq_2
theorem wkD_3 : type_of% @wkD.eq_3 := @wkD.eq_3
theorem wkD_4 : type_of% @wkD.eq_4 := @wkD.eq_4
theorem wkD_5 : type_of% @wkD.eq_5 := @wkD.eq_5
theorem zpD_1 : type_of% @zpD.eq_1 := @zpD.eq_1
theorem zpD_2 : type_of% @zpD.eq_2 := @zpD.eq_2
theorem oStr_1 : type_of% @oStr.eq_1 := @oStr.eq_1
theorem oStr_2 : type_of% @oStr.eq_2 := @oStr.eq_2
theorem oFmt_1 : type_of% @oFmt.eq_1 := @oFmt.eq_1
theorem oFmt_2 : type_of% @oFmt.eq_2 := @oFmt.eq_2
theorem vJs_1 : type_of% @vJs.eq_1 := @vJs.eq_1
theorem vJs_2 : type_of% @vJs.eq_2 := @vJs.eq_2
theorem keyD_1 : type_of% @keyD.eq_1 := @keyD.eq_1
theorem keyD_2 : type_of% @keyD.eq_2 := @keyD.eq_2
theorem asK_1 : type_of% @asK.eq_1 := @asK.eq_1
theorem asK_2 : type_of% @asK.eq_2 := @asK.eq_2
theorem dicO_1 : type_of% @dicO.eq_1 := @dicO.eq_1
theorem oIsB_1 : type_of% @oIsB.eq_1 := @oIsB.eq_1
theorem oIsNotB_1 : type_of% @oIsNotB.eq_1 := @oIsNotB.eq_1
theorem hdV_1 : type_of% @hdV.eq_1 := @hdV.eq_1
theorem hdV_2 : type_of% @hdV.eq_2 := @hdV.eq_2
theorem onB_1 : type_of% @onB.eq_1 := @onB.eq_1
theorem onB_2 : type_of% @onB.eq_2 := @onB.eq_2
theorem onB_3 : type_of% @onB.eq_3 := @onB.eq_3
theorem flDs_1 : type_of% @flDs.eq_1 := @flDs.eq_1
theorem flDs_2 : type_of% @flDs.eq_2 := @flDs.eq_2
theorem onD_1 : type_of% @onD.eq_1 := @onD.eq_1
theorem onDo_1 : type_of% @onDo.eq_1 := @onDo.eq_1
theorem kyD_1 : type_of% @kyD.eq_1 := @kyD.eq_1
theorem oListD_1 : type_of% @oListD.eq_1 := @oListD.eq_1
theorem oListS_1 : type_of% @oListS.eq_1 := @oListS.eq_1
theorem enmD_1 : type_of% @enmD.eq_1 := @enmD.eq_1
theorem onI_1 : type_of% @onI.eq_1 := @onI.eq_1
theorem onIo_1 : type_of% @onIo.eq_1 := @onIo.eq_1
theorem oAddI_1 : type_of% @oAddI.eq_1 := @oAddI.eq_1
theorem oSortD_1 : type_of% @oSortD.eq_1 := @oSortD.eq_1
theorem oSortA_1 : type_of% @oSortA.eq_1 := @oSortA.eq_1
theorem oMaxL_1 : type_of% @oMaxL.eq_1 := @oMaxL.eq_1
theorem flatD_1 : type_of% @flatD.eq_1 := @flatD.eq_1
theorem flatD_2 : type_of% @flatD.eq_2 := @flatD.eq_2
theorem flatD_3 : type_of% @flatD.eq_3 := @flatD.eq_3
theorem flatD_4 : type_of% @flatD.eq_4 := @flatD.eq_4
theorem flatD_5 : type_of% @flatD.eq_5 := @flatD.eq_5
theorem strKs_1 : type_of% @strKs.eq_1 := @strKs.eq_1
theorem strKs_2 : type_of% @strKs.eq_2 := @strKs.eq_2
theorem rdD_1 : type_of% @rdD.eq_1 := @rdD.eq_1
theorem rdD_2 : type_of% @rdD.eq_2 := @rdD.eq_2
theorem rdD_3 : type_of% @rdD.eq_3 := @rdD.eq_3
theorem rdD_4 : type_of% @rdD.eq_4 := @rdD.eq_4
theorem rdD_5 : type_of% @rdD.eq_5 := @rdD.eq_5
theorem notR_1 : type_of% @notR.eq_1 := @notR.eq_1
theorem notR_2 : type_of% @notR.eq_2 := @notR.eq_2
theorem stD_1 : type_of% @stD.eq_1 := @stD.eq_1
theorem stD_2 : type_of% @stD.eq_2 := @stD.eq_2
end Ts
namespace Ts
open PySem PySem.Spec PyProof.Rows L2
/-! ### the text by places -/
def top (i : Nat) : Stmt := PySem.Challenge.pw_tiespan_k40_programs_run.main.body.getD i (.Pass ⟨0, 0, 0, 0⟩)
def meth (i j : Nat) : Stmt := (C8.clsBody (top i)).getD j (.Pass ⟨0, 0, 0, 0⟩)
def fileN : Str := PySem.Challenge.pw_tiespan_k40_programs_run.main.file
abbrev sT_divisor : Stmt := top 2
abbrev N_divisor : List Str := ["one", "other"]
theorem sc_divisor : FnScope N_divisor ["one", "other"] (defScope sT_divisor) := ⟨rfl, rfl, rfl, by decide +kernel, rfl, by decide +kernel, by decide +kernel⟩
abbrev sT_lowest : Stmt := top 3
abbrev N_lowest : List Str := ["top", "under", "part"]
theorem sc_lowest : FnScope N_lowest ["top", "under"] (defScope sT_lowest) := ⟨rfl, rfl, rfl, by decide +kernel, rfl, by decide +kernel, by decide +kernel⟩
abbrev sT_add : Stmt := top 4
abbrev N_add : List Str := ["one", "other"]
theorem sc_add : FnScope N_add ["one", "other"] (defScope sT_add) := ⟨rfl, rfl, rfl, by decide +kernel, rfl, by decide +kernel, by decide +kernel⟩
abbrev sT_negative : Stmt := top 5
abbrev N_negative : List Str := ["one"]
theorem sc_negative : FnScope N_negative ["one"] (defScope sT_negative) := ⟨rfl, rfl, rfl, by decide +kernel, rfl, by decide +kernel, by decide +kernel⟩
abbrev sT_subtract : Stmt := top 6
abbrev N_subtract : List Str := ["one", "other"]
theorem sc_subtract : FnScope N_subtract ["one", "other"] (defScope sT_subtract) := ⟨rfl, rfl, rfl, by decide +kernel, rfl, by decide +kernel, by decide +kernel⟩
abbrev sT_multiply : Stmt := top 7
abbrev N_multiply : List Str := ["one", "other"]
theorem sc_multiply : FnScope N_multiply ["one", "other"] (defScope sT_multiply) := ⟨rfl, rfl, rfl, by decide +kernel, rfl, by decide +kernel, by decide +kernel⟩
abbrev sT_is_less : Stmt := top 8
abbrev N_is_less : List Str := ["one", "other"]
theorem sc_is_less : FnScope N_is_less ["one", "other"] (defScope sT_is_less) := ⟨rfl, rfl, rfl, by decide +kernel, rfl, by decide +kernel, by decide +kernel⟩
abbrev sT_sum_at : Stmt := top 10
abbrev N_sum_at : List Str := ["terms", "values", "found", "name", "rate"]
theorem sc_sum_at : FnScope N_sum_at ["terms", "values"] (defScope sT_sum_at) := ⟨rfl, rfl, rfl, by decide +kernel, rfl, by decide +kernel, by decide +kernel⟩
abbrev sT_is_kept : Stmt := top 11
abbrev N_is_kept : List Str := ["tie", "values"]
theorem sc_is_kept : FnScope N_is_kept ["tie", "values"] (defScope sT_is_kept) := ⟨rfl, rfl, rfl, by decide +kernel, rfl, by decide +kernel, by decide +kernel⟩
abbrev sT_Runner___init__ : Stmt := meth 13 0
abbrev N_Runner___init__ : List Str := ["self", "choices"]
theorem sc_Runner___init__ : FnScope N_Runner___init__ ["self", "choices"] (defScope sT_Runner___init__) := ⟨rfl, rfl, rfl, by decide +kernel, rfl, by decide +kernel, by decide +kernel⟩
abbrev sT_Runner_choice : Stmt := meth 13 1
abbrev N_Runner_choice : List Str := ["self"]
theorem sc_Runner_choice : FnScope N_Runner_choice ["self"] (defScope sT_Runner_choice) := ⟨rfl, rfl, rfl, by decide +kernel, rfl, by decide +kernel, by decide +kernel⟩
abbrev sT_Runner_form_value : Stmt := meth 13 2
abbrev N_Runner_form_value : List Str := ["self", "form", "values"]
theorem sc_Runner_form_value : FnScope N_Runner_form_value ["self", "form", "values"] (defScope sT_Runner_form_value) := ⟨rfl, rfl, rfl, by decide +kernel, rfl, by decide +kernel, by decide +kernel⟩
abbrev sT_Runner_run : Stmt := meth 13 3
abbrev N_Runner_run : List Str := ["self", "program", "values", "here", "statement", "word", "parts", "low", "top", "later", "form", "tie"]
theorem sc_Runner_run : FnScope N_Runner_run ["self", "program", "values"] (defScope sT_Runner_run) := ⟨rfl, rfl, rfl, by decide +kernel, rfl, by decide +kernel, by decide +kernel⟩
abbrev sT_Runner_share : Stmt := meth 13 4
abbrev N_Runner_share : List Str := ["self", "size"]
theorem sc_Runner_share : FnScope N_Runner_share ["self"] (defScope sT_Runner_share) := ⟨rfl, rfl, rfl, by decide +kernel, rfl, by decide +kernel, by decide +kernel⟩
abbrev sT_Runner_inner : Stmt := meth 13 5
abbrev N_Runner_inner : List Str := ["self", "word", "parts", "values", "here", "turn"]
theorem sc_Runner_inner : FnScope N_Runner_inner ["self", "word", "parts", "values"] (defScope sT_Runner_inner) := ⟨rfl, rfl, rfl, by decide +kernel, rfl, by decide +kernel, by decide +kernel⟩
abbrev sT_run_program : Stmt := top 14
abbrev N_run_program : List Str := ["program", "values", "choices"]
theorem sc_run_program : FnScope N_run_program ["program", "values", "choices"] (defScope sT_run_program) := ⟨rfl, rfl, rfl, by decide +kernel, rfl, by decide +kernel, by decide +kernel⟩
abbrev sT__law_feed : Stmt := top 16
abbrev N__law_feed : List Str := ["_law_script", "_law_cells", "_law_mark", "_law_cell"]
theorem sc__law_feed : FnScope N__law_feed ["_law_script"] (defScope sT__law_feed) := ⟨rfl, rfl, rfl, by decide +kernel, rfl, by decide +kernel, by decide +kernel⟩
abbrev sT__law_draw : Stmt := top 17
abbrev N__law_draw : List Str := ["_law_feed_here", "_law_many", "_law_cell", "_law_one", "_law_two", "_law_drawn"]
theorem sc__law_draw : FnScope N__law_draw ["_law_feed_here", "_law_many"] (defScope sT__law_draw) := ⟨rfl, rfl, rfl, by decide +kernel, rfl, by decide +kernel, by decide +kernel⟩
abbrev sT__law_any : Stmt := top 18
abbrev N__law_any : List Str := ["_law_feed_here", "_law_row"]
theorem sc__law_any : FnScope N__law_any ["_law_feed_here", "_law_row"] (defScope sT__law_any) := ⟨rfl, rfl, rfl, by decide +kernel, rfl, by decide +kernel, by decide +kernel⟩
abbrev sT__law_same : Stmt := top 19
abbrev N__law_same : List Str := ["_law_found", "_law_due", "_law_key", "_law_one", "_law_two"]
theorem sc__law_same : FnScope N__law_same ["_law_found", "_law_due"] (defScope sT__law_same) := ⟨rfl, rfl, rfl, by decide +kernel, rfl, by decide +kernel, by decide +kernel⟩
abbrev sT__law_gcd : Stmt := top 20
abbrev N__law_gcd : List Str := ["_law_one", "_law_two"]
theorem sc__law_gcd : FnScope N__law_gcd ["_law_one", "_law_two"] (defScope sT__law_gcd) := ⟨rfl, rfl, rfl, by decide +kernel, rfl, by decide +kernel, by decide +kernel⟩
abbrev sT__law_low : Stmt := top 21
abbrev N__law_low : List Str := ["_law_upper", "_law_lower", "_law_part"]
theorem sc__law_low : FnScope N__law_low ["_law_upper", "_law_lower"] (defScope sT__law_low) := ⟨rfl, rfl, rfl, by decide +kernel, rfl, by decide +kernel, by decide +kernel⟩
abbrev sT__law_plus : Stmt := top 22
abbrev N__law_plus : List Str := ["_law_one", "_law_two"]
theorem sc__law_plus : FnScope N__law_plus ["_law_one", "_law_two"] (defScope sT__law_plus) := ⟨rfl, rfl, rfl, by decide +kernel, rfl, by decide +kernel, by decide +kernel⟩
abbrev sT__law_minus : Stmt := top 23
abbrev N__law_minus : List Str := ["_law_one"]
theorem sc__law_minus : FnScope N__law_minus ["_law_one"] (defScope sT__law_minus) := ⟨rfl, rfl, rfl, by decide +kernel, rfl, by decide +kernel, by decide +kernel⟩
abbrev sT__law_by : Stmt := top 24
abbrev N__law_by : List Str := ["_law_one", "_law_two"]
theorem sc__law_by : FnScope N__law_by ["_law_one", "_law_two"] (defScope sT__law_by) := ⟨rfl, rfl, rfl, by decide +kernel, rfl, by decide +kernel, by decide +kernel⟩
abbrev sT__law_under : Stmt := top 25
abbrev N__law_under : List Str := ["_law_one", "_law_two"]
theorem sc__law_under : FnScope N__law_under ["_law_one", "_law_two"] (defScope sT__law_under) := ⟨rfl, rfl, rfl, by decide +kernel, rfl, by decide +kernel, by decide +kernel⟩
abbrev sT__law_rate : Stmt := top 26
abbrev N__law_rate : List Str := ["_law_feed_here"]
theorem sc__law_rate : FnScope N__law_rate ["_law_feed_here"] (defScope sT__law_rate) := ⟨rfl, rfl, rfl, by decide +kernel, rfl, by decide +kernel, by decide +kernel⟩
abbrev sT__law_words : Stmt := top 27
abbrev N__law_words : List Str := ["_law_feed_here", "_law_many", "_law_letters", "_law_stem", "_law_spot", "_law_first", "_law_way", "_law_found", "_law_k"]
theorem sc__law_words : FnScope N__law_words ["_law_feed_here", "_law_many"] (defScope sT__law_words) := ⟨rfl, rfl, rfl, by decide +kernel, rfl, by decide +kernel, by decide +kernel⟩
abbrev sT__law_total : Stmt := top 28
abbrev N__law_total : List Str := ["_law_terms_here", "_law_values", "_law_found", "_law_name", "_law_rate_here"]
theorem sc__law_total : FnScope N__law_total ["_law_terms_here", "_law_values"] (defScope sT__law_total) := ⟨rfl, rfl, rfl, by decide +kernel, rfl, by decide +kernel, by decide +kernel⟩
abbrev sT__law_keeps : Stmt := top 29
abbrev N__law_keeps : List Str := ["_law_tie", "_law_values"]
theorem sc__law_keeps : FnScope N__law_keeps ["_law_tie", "_law_values"] (defScope sT__law_keeps) := ⟨rfl, rfl, rfl, by decide +kernel, rfl, by decide +kernel, by decide +kernel⟩
abbrev sT__law_point : Stmt := top 30
abbrev N__law_point : List Str := ["_law_feed_here", "_law_words_here", "_law_name"]
theorem sc__law_point : FnScope N__law_point ["_law_feed_here", "_law_words_here"] (defScope sT__law_point) := ⟨rfl, rfl, rfl, by decide +kernel, rfl, by decide +kernel, by decide +kernel⟩
abbrev sT__law_terms : Stmt := top 31
abbrev N__law_terms : List Str := ["_law_feed_here", "_law_words_here", "_law_pairs", "_law_one", "_law_chosen", "_law_name"]
theorem sc__law_terms : FnScope N__law_terms ["_law_feed_here", "_law_words_here", "_law_pairs"] (defScope sT__law_terms) := ⟨rfl, rfl, rfl, by decide +kernel, rfl, by decide +kernel, by decide +kernel⟩
abbrev sT__law_brief : Stmt := top 32
abbrev N__law_brief : List Str := ["_law_tie", "_law_whole", "_law_part", "_law_name", "_law_rate_here", "_law_scale"]
theorem sc__law_brief : FnScope N__law_brief ["_law_tie"] (defScope sT__law_brief) := ⟨rfl, rfl, rfl, by decide +kernel, rfl, by decide +kernel, by decide +kernel⟩
abbrev sT__law_form : Stmt := top 33
abbrev N__law_form : List Str := ["_law_feed_here", "_law_words_here", "_law_rate_here", "_law_number"]
theorem sc__law_form : FnScope N__law_form ["_law_feed_here", "_law_words_here"] (defScope sT__law_form) := ⟨rfl, rfl, rfl, by decide +kernel, rfl, by decide +kernel, by decide +kernel⟩
abbrev sT__law_check : Stmt := top 34
abbrev N__law_check : List Str := ["_law_feed_here", "_law_words_here", "_law_tie", "_law_back", "_law_name", "_law_rate_here"]
theorem sc__law_check : FnScope N__law_check ["_law_feed_here", "_law_words_here"] (defScope sT__law_check) := ⟨rfl, rfl, rfl, by decide +kernel, rfl, by decide +kernel, by decide +kernel⟩
abbrev sT__law_program : Stmt := top 35
abbrev N__law_program : List Str := ["_law_feed_here", "_law_words_here", "_law_depth", "_law_many", "_law_found", "_law_k", "_law_way", "_law_low_here", "_law_high"]
theorem sc__law_program : FnScope N__law_program ["_law_feed_here", "_law_words_here", "_law_depth", "_law_many"] (defScope sT__law_program) := ⟨rfl, rfl, rfl, by decide +kernel, rfl, by decide +kernel, by decide +kernel⟩
abbrev sT__law_form_value : Stmt := top 36
abbrev N__law_form_value : List Str := ["_law_form_here", "_law_values", "_law_rate_here", "_law_name", "_law_number"]
theorem sc__law_form_value : FnScope N__law_form_value ["_law_form_here", "_law_values"] (defScope sT__law_form_value) := ⟨rfl, rfl, rfl, by decide +kernel, rfl, by decide +kernel, by decide +kernel⟩
abbrev sT__law_walk : Stmt := top 37
abbrev N__law_walk : List Str := ["_law_program_here", "_law_values", "_law_left", "_law_here", "_law_row", "_law_low_here", "_law_high", "_law_size", "_law_share", "_law_pick", "_law_turn", "_law_tie"]
theorem sc__law_walk : FnScope N__law_walk ["_law_program_here", "_law_values", "_law_left"] (defScope sT__law_walk) := ⟨rfl, rfl, rfl, by decide +kernel, rfl, by decide +kernel, by decide +kernel⟩
abbrev sT__law_run : Stmt := top 38
abbrev N__law_run : List Str := ["_law_program_here", "_law_values", "_law_choices"]
theorem sc__law_run : FnScope N__law_run ["_law_program_here", "_law_values", "_law_choices"] (defScope sT__law_run) := ⟨rfl, rfl, rfl, by decide +kernel, rfl, by decide +kernel, by decide +kernel⟩
abbrev sT_law : Stmt := top 39
abbrev N_law : List Str := ["_law_script", "_law_feed_here", "_law_turn", "_law_words_here", "_law_program_here", "_law_values", "_law_picks", "_law_kept", "_law_a", "_law_b", "_law_c", "_law_d", "_law_e", "_law_f", "_law_told", "_law_due", "_law_some", "_law_found", "_law_k", "_law_many"]
theorem sc_law : FnScope N_law ["_law_script"] (defScope sT_law) := ⟨rfl, rfl, rfl, by decide +kernel, rfl, by decide +kernel, by decide +kernel⟩
/-! ### the head: facts by names, the run -/
def d_divisor : He.DefD := ⟨("divisor", none), "divisor", "divisor", defArgs sT_divisor, defBody sT_divisor, defScope sT_divisor, [], []⟩
def d_lowest : He.DefD := ⟨("lowest", none), "lowest", "lowest", defArgs sT_lowest, defBody sT_lowest, defScope sT_lowest, [], []⟩
def d_add : He.DefD := ⟨("add", none), "add", "add", defArgs sT_add, defBody sT_add, defScope sT_add, [], []⟩
def d_negative : He.DefD := ⟨("negative", none), "negative", "negative", defArgs sT_negative, defBody sT_negative, defScope sT_negative, [], []⟩
def d_subtract : He.DefD := ⟨("subtract", none), "subtract", "subtract", defArgs sT_subtract, defBody sT_subtract, defScope sT_subtract, [], []⟩
def d_multiply : He.DefD := ⟨("multiply", none), "multiply", "multiply", defArgs sT_multiply, defBody sT_multiply, defScope sT_multiply, [], []⟩
def d_is_less : He.DefD := ⟨("is_less", none), "is_less", "is_less", defArgs sT_is_less, defBody sT_is_less, defScope sT_is_less, [], []⟩
def d_sum_at : He.DefD := ⟨("sum_at", none), "sum_at", "sum_at", defArgs sT_sum_at, defBody sT_sum_at, defScope sT_sum_at, [], []⟩
def d_is_kept : He.DefD := ⟨("is_kept", none), "is_kept", "is_kept", defArgs sT_is_kept, defBody sT_is_kept, defScope sT_is_kept, [], []⟩
def d_Runner___init__ : He.DefD := ⟨("Runner", some "__init__"), "__init__", "Runner.__init__", defArgs sT_Runner___init__, defBody sT_Runner___init__, defScope sT_Runner___init__, [], []⟩
def d_Runner_choice : He.DefD := ⟨("Runner", some "choice"), "choice", "Runner.choice", defArgs sT_Runner_choice, defBody sT_Runner_choice, defScope sT_Runner_choice, [], []⟩
def d_Runner_form_value : He.DefD := ⟨("Runner", some "form_value"), "form_value", "Runner.form_value", defArgs sT_Runner_form_value, defBody sT_Runner_form_value, defScope sT_Runner_form_value, [], []⟩
def d_Runner_run : He.DefD := ⟨("Runner", some "run"), "run", "Runner.run", defArgs sT_Runner_run, defBody sT_Runner_run, defScope sT_Runner_run, [], []⟩
def d_Runner_share : He.DefD := ⟨("Runner", some "share"), "share", "Runner.share", defArgs sT_Runner_share, defBody sT_Runner_share, defScope sT_Runner_share, [], []⟩
def d_Runner_inner : He.DefD := ⟨("Runner", some "inner"), "inner", "Runner.inner", defArgs sT_Runner_inner, defBody sT_Runner_inner, defScope sT_Runner_inner, [], []⟩
def d_run_program : He.DefD := ⟨("run_program", none), "run_program", "run_program", defArgs sT_run_program, defBody sT_run_program, defScope sT_run_program, [], []⟩
def d__law_feed : He.DefD := ⟨("_law_feed", none), "_law_feed", "_law_feed", defArgs sT__law_feed, defBody sT__law_feed, defScope sT__law_feed, [], []⟩
def d__law_draw : He.DefD := ⟨("_law_draw", none), "_law_draw", "_law_draw", defArgs sT__law_draw, defBody sT__law_draw, defScope sT__law_draw, [], []⟩
def d__law_any : He.DefD := ⟨("_law_any", none), "_law_any", "_law_any", defArgs sT__law_any, defBody sT__law_any, defScope sT__law_any, [], []⟩
def d__law_same : He.DefD := ⟨("_law_same", none), "_law_same", "_law_same", defArgs sT__law_same, defBody sT__law_same, defScope sT__law_same, [], []⟩
def d__law_gcd : He.DefD := ⟨("_law_gcd", none), "_law_gcd", "_law_gcd", defArgs sT__law_gcd, defBody sT__law_gcd, defScope sT__law_gcd, [], []⟩
def d__law_low : He.DefD := ⟨("_law_low", none), "_law_low", "_law_low", defArgs sT__law_low, defBody sT__law_low, defScope sT__law_low, [], []⟩
def d__law_plus : He.DefD := ⟨("_law_plus", none), "_law_plus", "_law_plus", defArgs sT__law_plus, defBody sT__law_plus, defScope sT__law_plus, [], []⟩
def d__law_minus : He.DefD := ⟨("_law_minus", none), "_law_minus", "_law_minus", defArgs sT__law_minus, defBody sT__law_minus, defScope sT__law_minus, [], []⟩
def d__law_by : He.DefD := ⟨("_law_by", none), "_law_by", "_law_by", defArgs sT__law_by, defBody sT__law_by, defScope sT__law_by, [], []⟩
def d__law_under : He.DefD := ⟨("_law_under", none), "_law_under", "_law_under", defArgs sT__law_under, defBody sT__law_under, defScope sT__law_under, [], []⟩
def d__law_rate : He.DefD := ⟨("_law_rate", none), "_law_rate", "_law_rate", defArgs sT__law_rate, defBody sT__law_rate, defScope sT__law_rate, [], []⟩
def d__law_words : He.DefD := ⟨("_law_words", none), "_law_words", "_law_words", defArgs sT__law_words, defBody sT__law_words, defScope sT__law_words, [], []⟩
def d__law_total : He.DefD := ⟨("_law_total", none), "_law_total", "_law_total", defArgs sT__law_total, defBody sT__law_total, defScope sT__law_total, [], []⟩
def d__law_keeps : He.DefD := ⟨("_law_keeps", none), "_law_keeps", "_law_keeps", defArgs sT__law_keeps, defBody sT__law_keeps, defScope sT__law_keeps, [], []⟩
def d__law_point : He.DefD := ⟨("_law_point", none), "_law_point", "_law_point", defArgs sT__law_point, defBody sT__law_point, defScope sT__law_point, [], []⟩
def d__law_terms : He.DefD := ⟨("_law_terms", none), "_law_terms", "_law_terms", defArgs sT__law_terms, defBody sT__law_terms, defScope sT__law_terms, [], []⟩
def d__law_brief : He.DefD := ⟨("_law_brief", none), "_law_brief", "_law_brief", defArgs sT__law_brief, defBody sT__law_brief, defScope sT__law_brief, [], []⟩
def d__law_form : He.DefD := ⟨("_law_form", none), "_law_form", "_law_form", defArgs sT__law_form, defBody sT__law_form, defScope sT__law_form, [], []⟩
def d__law_check : He.DefD := ⟨("_law_check", none), "_law_check", "_law_check", defArgs sT__law_check, defBody sT__law_check, defScope sT__law_check, [], []⟩
def d__law_program : He.DefD := ⟨("_law_program", none), "_law_program", "_law_program", defArgs sT__law_program, defBody sT__law_program, defScope sT__law_program, [], []⟩
def d__law_form_value : He.DefD := ⟨("_law_form_value", none), "_law_form_value", "_law_form_value", defArgs sT__law_form_value, defBody sT__law_form_value, defScope sT__law_form_value, [], []⟩
def d__law_walk : He.DefD := ⟨("_law_walk", none), "_law_walk", "_law_walk", defArgs sT__law_walk, defBody sT__law_walk, defScope sT__law_walk, [], []⟩
def d__law_run : He.DefD := ⟨("_law_run", none), "_law_run", "_law_run", defArgs sT__law_run, defBody sT__law_run, defScope sT__law_run, [], []⟩
def d_law : He.DefD := ⟨("law", none), "law", "law", defArgs sT_law, defBody sT_law, defScope sT_law, [], []⟩
def fns : List He.DefD := [d_divisor, d_lowest, d_add, d_negative, d_subtract, d_multiply, d_is_less, d_sum_at, d_is_kept, d_Runner___init__, d_Runner_choice, d_Runner_form_value, d_Runner_run, d_Runner_share, d_Runner_inner, d_run_program, d__law_feed, d__law_draw, d__law_any, d__law_same, d__law_gcd, d__law_low, d__law_plus, d__law_minus, d__law_by, d__law_under, d__law_rate, d__law_words, d__law_total, d__law_keeps, d__law_point, d__law_terms, d__law_brief, d__law_form, d__law_check, d__law_program, d__law_form_value, d__law_walk, d__law_run, d_law]
def fas : List He.Fa := [.glo "divisor", .glo "lowest", .glo "add", .glo "negative", .glo "subtract", .glo "multiply", .glo "is_less", .glo "sum_at", .glo "is_kept", .glo "Runner", .glo "Runner", .glo "Runner", .glo "Runner", .glo "Runner", .glo "Runner", .glo "run_program", .glo "_law_feed", .glo "_law_draw", .glo "_law_any", .glo "_law_same", .glo "_law_gcd", .glo "_law_low", .glo "_law_plus", .glo "_law_minus", .glo "_law_by", .glo "_law_under", .glo "_law_rate", .glo "_law_words", .glo "_law_total", .glo "_law_keeps", .glo "_law_point", .glo "_law_terms", .glo "_law_brief", .glo "_law_form", .glo "_law_check", .glo "_law_program", .glo "_law_form_value", .glo "_law_walk", .glo "_law_run", .glo "law", .free "abs", .free "all", .free "bool", .free "dict", .free "int", .free "isinstance", .free "len", .free "list", .free "range", .free "set", .free "sorted", .free "str", .free "tuple", .free "zip", .glo "Runner", .cls "Runner", .noat "Runner" "left", .mkr "Runner", .meth "Runner" "choice", .meth "Runner" "form_value", .meth "Runner" "run", .meth "Runner" "share", .meth "Runner" "inner"]
abbrev ORowW : PySem.W.OpenRow := PySem.W.OpenLaw.row PySem.Challenge.rw_tiespan_k40_programs_run
def tbs : List Tb := [tupT "ZERO" [0, 1]]
def xds : List XDef := []
def sds : List SDf := []
def needL : List Str := [("divisor" : Str), ("lowest" : Str), ("add" : Str), ("negative" : Str), ("subtract" : Str), ("multiply" : Str), ("is_less" : Str), ("sum_at" : Str), ("is_kept" : Str), ("Runner" : Str), ("run_program" : Str), ("_law_feed" : Str), ("_law_draw" : Str), ("_law_any" : Str), ("_law_same" : Str), ("_law_gcd" : Str), ("_law_low" : Str), ("_law_plus" : Str), ("_law_minus" : Str), ("_law_by" : Str), ("_law_under" : Str), ("_law_rate" : Str), ("_law_words" : Str), ("_law_total" : Str), ("_law_keeps" : Str), ("_law_point" : Str), ("_law_terms" : Str), ("_law_brief" : Str), ("_law_form" : Str), ("_law_check" : Str), ("_law_program" : Str), ("_law_form_value" : Str), ("_law_walk" : Str), ("_law_run" : Str), ("law" : Str), ("ZERO" : Str)]
abbrev hkk : PySem.W.Hook := hookZ needL 4 fas fns tbs xds sds fileN
def obb (s : PySem.W.SharedT) : AlY := obsZG needL 4 fas fns tbs xds sds fileN (HandSHeadRun.getT s)
theorem ob_eq (s : PySem.W.SharedT) : obb s = hkk.obs s.abs := obsZG_eq (HandSHeadRun.getT_eq s)
def looseN : List Str := [("divisor" : Str), ("lowest" : Str), ("add" : Str), ("negative" : Str), ("subtract" : Str), ("multiply" : Str), ("is_less" : Str), ("sum_at" : Str), ("is_kept" : Str), ("run_program" : Str), ("_law_feed" : Str), ("_law_draw" : Str), ("_law_any" : Str), ("_law_same" : Str), ("_law_gcd" : Str), ("_law_low" : Str), ("_law_plus" : Str), ("_law_minus" : Str), ("_law_by" : Str), ("_law_under" : Str), ("_law_rate" : Str), ("_law_words" : Str), ("_law_total" : Str), ("_law_keeps" : Str), ("_law_point" : Str), ("_law_terms" : Str), ("_law_brief" : Str), ("_law_form" : Str), ("_law_check" : Str), ("_law_program" : Str), ("_law_form_value" : Str), ("_law_walk" : Str), ("_law_run" : Str), ("ZERO" : Str), ("Runner" : Str)]
section
open PySem.W HandSHeadRun
theorem run1 (w : World) (os : OsState) : (HandSHeadRun.endF (HandSHeadRun.stepQ (HandSHeadRun.denQ HandSHeadRun.tabQ) ORowW.prog w) 2000 ORowW.prog w os).map (fun s => looksF ORowW.prog (boot_heap w.params) s.abs) = some true := by kernel_rfl
theorem run2 (w : World) (os : OsState) : (HandSHeadRun.endF (HandSHeadRun.stepQ (HandSHeadRun.denQ HandSHeadRun.tabQ) ORowW.prog w) 2000 ORowW.prog w os).map (fun s => seenQ (PySem.W.view ORowW.prog [39]) looseN (importedModules ORowW.prog.main.body) (fun s => xlAt (PySem.W.view ORowW.prog [39]) [] s && recOk ORowW.toRowW.records s) s.abs) = some (openGood (PySem.W.view ORowW.prog [39]) looseN) := by kernel_rfl
theorem run3 (w : World) (os : OsState) : (HandSHeadRun.endF (HandSHeadRun.stepQ (HandSHeadRun.denQ HandSHeadRun.tabQ) ORowW.prog w) 2000 ORowW.prog w os).map (fun s => (obb s).1.1) = some (He.valD fns) := by kernel_rfl
theorem run4 (w : World) (os : OsState) : (HandSHeadRun.endF (HandSHeadRun.stepQ (HandSHeadRun.denQ HandSHeadRun.tabQ) ORowW.prog w) 2000 ORowW.prog w os).map (fun s => (obb s).1.2) = some (true, xds.map XDef.val) := by kernel_rfl
theorem run5 (w : World) (os : OsState) : (HandSHeadRun.endF (HandSHeadRun.stepQ (HandSHeadRun.denQ HandSHeadRun.tabQ) ORowW.prog w) 2000 ORowW.prog w os).map (fun s => (obb s).2) = some (true, sds.map SDf.val) := by kernel_rfl
end
theorem runEqW (w : World) : HandSHeadRun.RunEq ORowW (PySem.W.view ORowW.prog [39]) hkk obb 2000 looseN w := fun os =>
  mapT (run1 w os) (run2 w os) (mapE (mapE (run3 w os) (run4 w os)) (run5 w os))
local macro_rules | `(tactic| walk_at "vc") => `(tactic| ((try dsimp only [vNext, vBreak, vCont, vSeq, vRet, vRetN, vDrop, vIfS, vNever, vAsg, vSet, vPar, vPar3, vAug, vFrz, vFz, vSetIx, vDelIx, gN, vC, vVar, vOp, vUn, vNil, vCons, vTup, vLst, vLstO, vCB, tV, vAnd, vOr, vNot, vYes, vAndV, vOrV, vNotV, vIf, vChain, vNoP, vP, vSl, vCall, vCallX, vBM, vBM0, vIsi, vIsi2, vWalk, vFor, vLc, vLcO, vRng1, vRng2, vEnum, vZip, oEq, oNe, oAppend, oClear, oExtend, oInsert, oPop, isTy, vJoin, vLs, oJoin, oSortS, oSortI, oInL, oNotInL, vFmt, vJoined, vDGet, oDGet, oNeK, oEqK, eqDK, vLam, vAsk, vTry, vXf, vRaise1, vRaise0, vCallKX, vDNewO, vDGet2, vDPut, vKeys, vRev, oRev, vDc, vPartn, oPartn, vForM, vEnumM, vFld, vSetF, vMeth, vMethX, vMake, vMakeX, vMakeK, vTupK, vMn, vMc, vMatch, vAugF, vParF, vSpread, vIsiC, oEqI, vCallL, vWalkI, vStar, oDictO, oClearD, vDisp2, vFzN, vBM0D, vMtN, vMt, vMatchT]); try simp only [vNext, vBreak, vCont, vSeq, vRet, vRetN, vDrop, vIfS, vNever, vAsg, vSet, vPar, vPar3, vAug, vFrz, vFz, vSetIx, vDelIx, gN, vC, vVar, vOp, vUn, vNil, vCons, vTup, vLst, vLstO, vCB, tV, vAnd, vOr, vNot, vYes, vAndV, vOrV, vNotV, vIf, vChain, vNoP, vP, vSl, vCall, vCallX, vBM, vBM0, vIsi, vIsi2, vWalk, vFor, vLc, vLcO, vRng1, vRng2, vEnum, vZip, oEq, oNe, oAppend, oClear, oExtend, oInsert, oPop, isTy, vJoin, vLs, oJoin, oSortS, oSortI, oInL, oNotInL, vFmt, vJoined, vDGet, oDGet, oNeK, oEqK, eqDK, vLam, vAsk, vTry, vXf, vRaise1, vRaise0, vCallKX, vDNewO, vDGet2, vDPut, vKeys, vRev, oRev, vDc, vPartn, oPartn, vForM, vEnumM, vFld, vSetF, vMeth, vMethX, vMake, vMakeX, vMakeK, vTupK, vMn, vMc, vMatch, vAugF, vParF, vSpread, vIsiC, oEqI, vCallL, vWalkI, vStar, oDictO, oClearD, vDisp2, vFzN, vBM0D, vMtN, vMt, vMatchT, tpD_1, tpD_2, hdS_1, oLenI_1, oReprI_1, blD_1, inD_1, txD_1, swapX_1, oAdd_1, oAdd_2, oAdd_3, oAdd_4, oAdd_5, oAdd_6, oSub_1, oMul_1, oMul_2, oMul_3, oFdiv_1, oMod_1, oPow_1, oNeg_1, oLt_1, oLt_2, oLe_1, oGt_1, oGt_2, oGe_1, oIs_1, oIsNot_1, oIx_1, oIx_2, oIx_3, oIx_4, oIx_5, oSl_1, oSl_2, oSl_3, oSl_4, oLen_1, oLen_2, oLen_3, oLen_4, oLen_5, oLen_6, oInt_1, oInt_2, oInt_3, oAbs_1, oAll_1, oTuple_1, oTuple_2, oTuple_3, oTuple_4, oList_1, oList_2, oList_3, oList_4, oList_5, oListO_1, oListO_2, oListO_3, oListO_4, oListO_5, vGet_1, isB_1, gNl_1, gCn_1, gTp_1, gTp_2, gUl_1, gUl_2, onL_1, onO_1, onO_2, onM_1, oIadd_1, oIadd_2, oInS_1, oNotInS_1, onS_1, flD_1, flD_2, flD_3, flD_4, strD_1, wkD_1, wkD_2, wkD_3, wkD_4, wkD_5, zpD_1, zpD_2, oStr_1, oStr_2, oFmt_1, oFmt_2, vJs_1, vJs_2, keyD_1, keyD_2, asK_1, asK_2, dicO_1, oIsB_1, oIsNotB_1, hdV_1, hdV_2, onB_1, onB_2, onB_3, flDs_1, flDs_2, onD_1, onDo_1, kyD_1, oListD_1, oListS_1, enmD_1, onI_1, onIo_1, oAddI_1, oSortD_1, oSortA_1, oMaxL_1, flatD_1, flatD_2, flatD_3, flatD_4, flatD_5, strKs_1, strKs_2, rdD_1, rdD_2, rdD_3, rdD_4, rdD_5, notR_1, notR_2, stD_1, stD_2, setsD_c, setsD_n, insO_1, asI_1, asI_2, noneB, atI_0, atI_1, atI_2, atI_3, ixN_0, ixN_1, ixN_2, ixN_3, mset_twice, frz_l, frz_d, frz_i, eqK_i, eqK_s, eqK_b, eqK_t, eqK_l, its_tup, its_pr, its_lst, its_lat, asL_lst, asL_lat, asL_rf, its_rf, lstO_l, strDs_map, intDs_map, flDs_str, flDs_int, S1, S_len, S_app, cutS_S, repS_S, tyM, Ty.is, isDit, dstart, wipeD, mset_same, List.map, List.length, List.replicate, List.cons_append, List.nil_append, List.set_cons_zero, List.set_cons_succ, List.getElem?_cons_zero, List.getElem?_cons_succ, Nat.reduceSub, Nat.reduceAdd, Nat.reduceLeDiff, true_and, and_true, if_true, if_false, ite_true, ite_false, Bool.false_eq_true, decide_eq_true_eq, Bool.or_true, Bool.true_or, Bool.or_false, Bool.false_or, Bool.not_true, Bool.not_false, Bool.not_eq_true', decide_eq_false_iff_not, decide_true, decide_false, not_true_eq_false, not_false_eq_true, and_self, ne_eq, Int.cast_ofNat_Int, Int.reduceLE, Int.reduceLT, Int.reduceEq, Int.reduceNe, Int.reduceNeg, Int.reduceAdd, Int.reduceSub, Int.reduceMul, reduceCtorEq]))
local macro_rules | `(tactic| walk_at "vc*") => `(tactic| ((try dsimp only [vNext, vBreak, vCont, vSeq, vRet, vRetN, vDrop, vIfS, vNever, vAsg, vSet, vPar, vPar3, vAug, vFrz, vFz, vSetIx, vDelIx, gN, vC, vVar, vOp, vUn, vNil, vCons, vTup, vLst, vLstO, vCB, tV, vAnd, vOr, vNot, vYes, vAndV, vOrV, vNotV, vIf, vChain, vNoP, vP, vSl, vCall, vCallX, vBM, vBM0, vIsi, vIsi2, vWalk, vFor, vLc, vLcO, vRng1, vRng2, vEnum, vZip, oEq, oNe, oAppend, oClear, oExtend, oInsert, oPop, isTy, vJoin, vLs, oJoin, oSortS, oSortI, oInL, oNotInL, vFmt, vJoined, vDGet, oDGet, oNeK, oEqK, eqDK, vLam, vAsk, vTry, vXf, vRaise1, vRaise0, vCallKX, vDNewO, vDGet2, vDPut, vKeys, vRev, oRev, vDc, vPartn, oPartn, vForM, vEnumM, vFld, vSetF, vMeth, vMethX, vMake, vMakeX, vMakeK, vTupK, vMn, vMc, vMatch, vAugF, vParF, vSpread, vIsiC, oEqI, vCallL, vWalkI, vStar, oDictO, oClearD, vDisp2, vFzN, vBM0D, vMtN, vMt, vMatchT]); try simp only [vNext, vBreak, vCont, vSeq, vRet, vRetN, vDrop, vIfS, vNever, vAsg, vSet, vPar, vPar3, vAug, vFrz, vFz, vSetIx, vDelIx, gN, vC, vVar, vOp, vUn, vNil, vCons, vTup, vLst, vLstO, vCB, tV, vAnd, vOr, vNot, vYes, vAndV, vOrV, vNotV, vIf, vChain, vNoP, vP, vSl, vCall, vCallX, vBM, vBM0, vIsi, vIsi2, vWalk, vFor, vLc, vLcO, vRng1, vRng2, vEnum, vZip, oEq, oNe, oAppend, oClear, oExtend, oInsert, oPop, isTy, vJoin, vLs, oJoin, oSortS, oSortI, oInL, oNotInL, vFmt, vJoined, vDGet, oDGet, oNeK, oEqK, eqDK, vLam, vAsk, vTry, vXf, vRaise1, vRaise0, vCallKX, vDNewO, vDGet2, vDPut, vKeys, vRev, oRev, vDc, vPartn, oPartn, vForM, vEnumM, vFld, vSetF, vMeth, vMethX, vMake, vMakeX, vMakeK, vTupK, vMn, vMc, vMatch, vAugF, vParF, vSpread, vIsiC, oEqI, vCallL, vWalkI, vStar, oDictO, oClearD, vDisp2, vFzN, vBM0D, vMtN, vMt, vMatchT, tpD_1, tpD_2, hdS_1, oLenI_1, oReprI_1, blD_1, inD_1, txD_1, swapX_1, oAdd_1, oAdd_2, oAdd_3, oAdd_4, oAdd_5, oAdd_6, oSub_1, oMul_1, oMul_2, oMul_3, oFdiv_1, oMod_1, oPow_1, oNeg_1, oLt_1, oLt_2, oLe_1, oGt_1, oGt_2, oGe_1, oIs_1, oIsNot_1, oIx_1, oIx_2, oIx_3, oIx_4, oIx_5, oSl_1, oSl_2, oSl_3, oSl_4, oLen_1, oLen_2, oLen_3, oLen_4, oLen_5, oLen_6, oInt_1, oInt_2, oInt_3, oAbs_1, oAll_1, oTuple_1, oTuple_2, oTuple_3, oTuple_4, oList_1, oList_2, oList_3, oList_4, oList_5, oListO_1, oListO_2, oListO_3, oListO_4, oListO_5, vGet_1, isB_1, gNl_1, gCn_1, gTp_1, gTp_2, gUl_1, gUl_2, onL_1, onO_1, onO_2, onM_1, oIadd_1, oIadd_2, oInS_1, oNotInS_1, onS_1, flD_1, flD_2, flD_3, flD_4, strD_1, wkD_1, wkD_2, wkD_3, wkD_4, wkD_5, zpD_1, zpD_2, oStr_1, oStr_2, oFmt_1, oFmt_2, vJs_1, vJs_2, keyD_1, keyD_2, asK_1, asK_2, dicO_1, oIsB_1, oIsNotB_1, hdV_1, hdV_2, onB_1, onB_2, onB_3, flDs_1, flDs_2, onD_1, onDo_1, kyD_1, oListD_1, oListS_1, enmD_1, onI_1, onIo_1, oAddI_1, oSortD_1, oSortA_1, oMaxL_1, flatD_1, flatD_2, flatD_3, flatD_4, flatD_5, strKs_1, strKs_2, rdD_1, rdD_2, rdD_3, rdD_4, rdD_5, notR_1, notR_2, stD_1, stD_2, setsD_c, setsD_n, insO_1, asI_1, asI_2, noneB, atI_0, atI_1, atI_2, atI_3, ixN_0, ixN_1, ixN_2, ixN_3, mset_twice, frz_l, frz_d, frz_i, eqK_i, eqK_s, eqK_b, eqK_t, eqK_l, its_tup, its_pr, its_lst, its_lat, asL_lst, asL_lat, asL_rf, its_rf, lstO_l, strDs_map, intDs_map, flDs_str, flDs_int, S1, S_len, S_app, cutS_S, repS_S, tyM, Ty.is, isDit, dstart, wipeD, mset_same, List.map, List.length, List.replicate, List.cons_append, List.nil_append, List.set_cons_zero, List.set_cons_succ, List.getElem?_cons_zero, List.getElem?_cons_succ, Nat.reduceSub, Nat.reduceAdd, Nat.reduceLeDiff, true_and, and_true, if_true, if_false, ite_true, ite_false, Bool.false_eq_true, decide_eq_true_eq, Bool.or_true, Bool.true_or, Bool.or_false, Bool.false_or, Bool.not_true, Bool.not_false, Bool.not_eq_true', decide_eq_false_iff_not, decide_true, decide_false, not_true_eq_false, not_false_eq_true, and_self, ne_eq, Int.cast_ofNat_Int, Int.reduceLE, Int.reduceLT, Int.reduceEq, Int.reduceNe, Int.reduceNeg, Int.reduceAdd, Int.reduceSub, Int.reduceMul, reduceCtorEq, *]))
local macro_rules | `(tactic| walk_at "side") => `(tactic| first | exact cmul_r (by decide) (by decide) | exact cmul_l (by decide) (by decide) | exact cmul_fm (by decide) (by decide) | assumption | omega | decide)
local macro_rules | `(tactic| walk_at "sides") => `(tactic| repeat' (first | (refine And.intro (by walk_at "side") ?_) | refine itP (fun _ => ?_) (fun _ => ?_)))
/-! ### the law's common helpers -/
/-- what a draw may be asked: 0 < many < 2 ^ 9000 -/
abbrev preDraw (m : Int) : Prop := 0 < m ∧ m.natAbs < 2 ^ 9000
def ph__law_feed : P0 := phFeed
def ph__law_draw : P0 := phDraw preDraw
@[reducible] def v__law_feed_b1 : VS :=
  (vSet 2 (vOp oMod (vCB oInt (vCons (vOp oAdd (vOp oMul (vVar 2) (vC (.int 8117))) (vVar 3)) vNil)) (vC (.int 2147483629))))
/- def _law_feed, slots 0 _law_script 1 _law_cells 2 _law_mark 3 _law_cell -/
@[reducible] def v__law_feed : VS :=
  (vSeq (vSet 1 (vLc (vWalk (vSl (vVar 0) vNoP (vP (vC (.int 63))))) (gN 3) vYes (vCB oInt (vCons (vVar 3) vNil)) [3]))
    (vSeq (vSet 2 (vOp oAdd (vC (.int 3834)) (vOp oMul (vC (.int 53)) (vCB oLen (vCons (vVar 1) vNil)))))
    (vSeq (vFor (vWalk (vVar 1)) (gN 3) v__law_feed_b1)
    (vRet (vLstO (vCons (vVar 1) (vCons (vC (.int 0)) (vCons (vC (.int 0)) (vCons (vVar 2) vNil)))))))))
/- def _law_draw, slots 0 _law_feed_here 1 _law_many 2 _law_cell 3 _law_one 4 _law_two 5 _law_drawn -/
@[reducible] def v__law_draw : VS :=
  (vSeq (vIfS (tV (vOp oLt (vOp oIx (vVar 0) (vC (.int 2))) (vC (.int 2)))) (vSeq (vSetIx (vVar 0) (vC (.int 1)) (vOp oAdd (vOp oIx (vVar 0) (vC (.int 1))) (vC (.int 1))))
    (vSeq (vSet 2 (vOp oAdd (vOp oIx (vVar 0) (vC (.int 3))) (vOp oMul (vOp oIx (vVar 0) (vC (.int 1))) (vC (.int 7919)))))
    (vSeq (vIfS (tV (vOp oLe (vOp oIx (vVar 0) (vC (.int 1))) (vCB oLen (vCons (vOp oIx (vVar 0) (vC (.int 0))) vNil)))) (vSet 2 (vOp oIx (vOp oIx (vVar 0) (vC (.int 0))) (vOp oSub (vOp oIx (vVar 0) (vC (.int 1))) (vC (.int 1))))) vNext)
    (vSeq (vIfS (vOr (tV (vOp oGt (vOp oIx (vVar 0) (vC (.int 1))) (vCB oLen (vCons (vOp oIx (vVar 0) (vC (.int 0))) vNil)))) (tV (vOp oLt (vVar 2) (vOp oPow (vC (.int 10)) (vC (.int 18)))))) (vSeq (vSet 3 (vOp oMod (vCB oInt (vCons (vOp oAdd (vOp oAdd (vOp oMul (vVar 2) (vC (.int 48271))) (vOp oMul (vOp oIx (vVar 0) (vC (.int 1))) (vC (.int 69621)))) (vOp oIx (vVar 0) (vC (.int 3)))) vNil)) (vC (.int 2147483647))))
    (vSeq (vSet 4 (vOp oMod (vCB oInt (vCons (vOp oAdd (vOp oMul (vVar 3) (vVar 3)) (vOp oMul (vOp oIx (vVar 0) (vC (.int 1))) (vC (.int 16807)))) vNil)) (vC (.int 998244353))))
    (vRet (vOp oMod (vOp oFdiv (vOp oMod (vCB oInt (vCons (vOp oAdd (vOp oMul (vVar 4) (vC (.int 40692))) (vVar 3)) vNil)) (vC (.int 2147483629))) (vC (.int 11))) (vVar 1))))) vNext)
    (vSetIx (vVar 0) (vC (.int 2)) (vVar 2)))))) vNext)
    (vSeq (vSet 5 (vOp oMod (vCB oInt (vCons (vOp oIx (vVar 0) (vC (.int 2))) vNil)) (vVar 1)))
    (vSeq (vSetIx (vVar 0) (vC (.int 2)) (vOp oFdiv (vCB oInt (vCons (vOp oIx (vVar 0) (vC (.int 2))) vNil)) (vVar 1)))
    (vRet (vVar 5)))))


theorem l__law_feed : ∀ ds m k, phFeedL ds m k → ds.length = 1 := by rintro _ m k ⟨a, ns, rfl, _⟩; rfl
theorem lc_ints {j : Nat} {s : SL} (hj : j < s.length) : ∀ (ns acc : List Int) (m : Mem) (k : List D → Mem → Prop), k ((acc ++ ns).map D.int) m → lcV (gN j) vYes (vCB oInt (vCons (vVar j) vNil)) s (ns.map D.int) (acc.map D.int) m k
  | [], acc, m, k, h => by rw [List.append_nil] at h; exact h
  | n :: ns, acc, m, k, h => by
    have := lc_ints hj ns (acc ++ [n]) m k (by simpa using h)
    rw [List.map_append] at this
    simp only [List.map_cons, lcV, gN, vYes, vCB, vCons, vVar, vNil, List.getElem?_set_self hj, vGet, oInt, if_true]
    exact this
theorem w__law_feed : ∀ ds m k, phFeedL ds m k → v__law_feed (dstart 4 ds) m (endV k) := by
  rintro _ m k ⟨a, ns, rfl, hl, hk⟩
  unfold v__law_feed v__law_feed_b1
  have cut : ∃ ms : List Int, ms.length ≤ 100 ∧ cutD (ns.map D.int) none (some 63) = ms.map D.int := ⟨cutD ns none (some 63), by unfold cutD; rw [List.length_take, List.length_drop]; omega, by
    unfold cutD
    rw [List.length_map, List.map_take, List.map_drop]⟩
  obtain ⟨ms, hm, hc⟩ := cut
  walk_at "vc"
  rw [hc]
  refine ⟨by rw [List.length_map]; omega, ?_⟩
  refine lc_ints (by simp) ms [] m _ ?_
  walk_at "vc"
  refine ⟨cmul_l (by decide) (by decide), ?_⟩
  refine forV_map (fun _ s m' => m' = m ∧ ∃ (x : Option D) (mk : Int), s = [some (.lat a (ns.map D.int)), some (.lst (ms.map D.int)), some (.int mk), x]) ?_ ?_ ⟨rfl, _, _, rfl⟩
  · rintro s _ ⟨rfl, x, mk, rfl⟩
    walk_at "vc"
    exact fun p hp => ⟨_, MLe.refl _, hk ms mk p hp⟩
  · rintro n _ s _ ⟨rfl, x, mk, rfl⟩ ih
    walk_at "vc"
    exact ⟨cmul_r (by decide) (by decide), ih _ _ ⟨rfl, _, _, rfl⟩⟩
theorem l__law_draw : ∀ ds m k, phDrawM preDraw ds m k → ds.length = 2 := by rintro _ m k ⟨a, cs, n, i, j, mk, ns, rfl, _⟩; rfl
theorem w__law_draw : ∀ ds m k, phDrawM preDraw ds m k → v__law_draw (dstart 6 ds) m (endV k) := by
  rintro _ m k ⟨a, cs, n, i, j, mk, ns, rfl, hm, hi, ⟨hn0, hn1⟩, hk⟩
  unfold v__law_draw
  walk_at "vc*"
  have fin : ∀ c i' j' : Int, 0 ≤ i' → ∃ m'', MLe m'' (mset m a (MO.lst [D.lat cs (List.map D.int ns), D.int i', D.int j', D.int mk])) ∧ k (D.int (c.fmod n)) m'' := fun c i' j' h => ⟨_, MLe.refl _, hk _ _ _ (fmod_nn hn0).1 (fmod_nn hn0).2 h⟩
  have n0 : n ≠ 0 := by omega
  have dn : DivOk n := div_ok n0 hn1
  have d11 : DivOk 11 := div_sm (by decide) (by decide)
  have cp : CPow 10 18 := ⟨by decide, by decide, by decide⟩
  refine itP (fun _ => ⟨cmul_r (by decide) (by decide), itP (fun hl => ?_) fun _ => ?_⟩) fun _ => ⟨n0, dn, fin _ _ _ hi⟩
  · rw [List.length_map] at hl
    obtain ⟨t, rfl⟩ : ∃ t : Nat, i = t := ⟨i.toNat, by omega⟩
    have ht : t < ns.length := by omega
    have e : atI (ns.map D.int) ((t : Int) + 1 - 1) = some (.int ns[t]) := atI_of (j := t) (by omega) (by rw [List.getElem?_map, List.getElem?_eq_getElem ht]; rfl)
    rw [e]
    walk_at "vc*"
    walk_at "sides"
    all_goals exact fin _ _ _ (by omega)
  · walk_at "sides"
    all_goals exact fin _ _ _ (by omega)

def ph__law_any : P0 := fun ds m k => match ds with
  | [.feed, .lst row] => row ≠ [] ∧ row.length ≤ 100000 ∧ ∀ d ∈ row, k d m
  | [.feed, .tup row] => row ≠ [] ∧ row.length ≤ 100000 ∧ ∀ d ∈ row, k d m
  | [.feed, .str z] => z.length ≠ 0 ∧ z.length ≤ 100000 ∧ ∀ c ∈ z.cps.toList, k (.str ⟨#[c]⟩) m
  | _ => False
def ph__law_gcd : P0 := fun ds m k => match ds with
  | [.int a, .int b] => k (.int (Int.gcd a b : Int)) m
  | _ => False
/-- a fraction as a pair -/
abbrev frD (f : Int × Int) : D := .tup [.int f.1, .int f.2]
def ph__law_low : P0 := fun ds m k => match ds with
  | [.int a, .int b] => b ≠ 0 ∧ b.natAbs < 2 ^ 8000 ∧ k (frD (Fr.low a b)) m
  | _ => False
/- def _law_any, slots 0 _law_feed_here 1 _law_row -/
@[reducible] def v__law_any : VS :=
  (vRet (vOp oIx (vVar 1) (vCall ph__law_draw (vCons (vVar 0) (vCons (vCB oLen (vCons (vVar 1) vNil)) vNil)))))
@[reducible] def v__law_gcd_b1 : VS :=
  (vPar 0 1 (vCons (vVar 1) (vCons (vOp oMod (vCB oInt (vCons (vVar 0) vNil)) (vVar 1)) vNil)))
/- def _law_gcd, slots 0 _law_one 1 _law_two -/
@[reducible] def v__law_gcd : VS :=
  (vSeq (vPar 0 1 (vCons (vCB oAbs (vCons (vVar 0) vNil)) (vCons (vCB oAbs (vCons (vVar 1) vNil)) vNil)))
    (vSeq (vWhile (tV (vOp oNe (vVar 1) (vC (.int 0)))) v__law_gcd_b1)
    (vRet (vVar 0))))
/- def _law_low, slots 0 _law_upper 1 _law_lower 2 _law_part -/
@[reducible] def v__law_low : VS :=
  (vSeq (vSet 2 (vCall ph__law_gcd (vCons (vVar 0) (vCons (vVar 1) vNil))))
    (vSeq (vIfS (tV (vOp oLt (vVar 1) (vC (.int 0)))) (vSet 2 (vUn oNeg (vVar 2))) vNext)
    (vRet (vTup (vCons (vOp oFdiv (vVar 0) (vVar 2)) (vCons (vOp oFdiv (vVar 1) (vVar 2)) vNil))))))


theorem l__law_any : ∀ ds m k, ph__law_any ds m k → ds.length = 2 := by
  intro ds m k h
  unfold ph__law_any at h
  split at h
  · rfl
  · rfl
  · rfl
  · exact h.elim
theorem natAbs_small {n : Nat} (h : n ≤ 100000) : ((n : Nat) : Int).natAbs < 2 ^ 9000 := by
  rw [Int.natAbs_natCast]
  exact Nat.lt_of_lt_of_le (Nat.lt_of_le_of_lt h (by decide : 100000 < 2 ^ 20)) (Nat.pow_le_pow_right (by decide) (by decide))
theorem at_draw {α : Type} {xs : List α} {r : Int} (h0 : 0 ≤ r) (h1 : r < xs.length) : ∃ x, atI xs r = some x ∧ x ∈ xs := by
  have ht : r.toNat < xs.length := by omega
  exact ⟨xs[r.toNat], atI_of (j := r.toNat) (by omega) (List.getElem?_eq_getElem ht), List.getElem_mem ht⟩
theorem w__law_any : ∀ ds m k, ph__law_any ds m k → v__law_any (dstart 2 ds) m (endP k) := by
  intro ds m k h
  unfold ph__law_any at h
  split at h
  case h_4 => exact h.elim
  all_goals
    rename_i row
    obtain ⟨h1, h2, hk⟩ := h
    unfold v__law_any
    simp only [ph__law_draw]
    walk_at "vc"
  · refine ⟨⟨by have := List.length_pos_iff.mpr h1; omega, natAbs_small h2⟩, fun r h0 h1 => ?_⟩
    obtain ⟨x, e, hx⟩ := at_draw h0 h1
    walk_at "vc*"
  · refine ⟨⟨by have := List.length_pos_iff.mpr h1; omega, natAbs_small h2⟩, fun r h0 h1 => ?_⟩
    obtain ⟨x, e, hx⟩ := at_draw h0 h1
    walk_at "vc*"
  · refine ⟨by omega, ⟨by omega, natAbs_small h2⟩, fun r h0 h1 => ⟨by omega, ?_⟩⟩
    obtain ⟨x, e, hx⟩ := at_draw (xs := row.cps.toList) h0 (by rw [Array.length_toList]; exact h1)
    rw [e]
    exact hk x hx
theorem zipD_self (xs : List D) : zipD xs xs = xs.map fun d => .pr [d, d] := by
  unfold zipD
  induction xs with
  | nil => rfl
  | cons x xs ih => simp [List.zipWith_cons_cons, ih]
theorem trues (n : Nat) : blsOf (List.replicate n (D.bl true)) = some (List.replicate n true) := by
  rw [← List.map_replicate]; exact blsOf_map _
/-- the comparison of two rows -/
theorem same_row {φ : P0} {s : SL} (h3 : 3 < s.length) (h4 : 4 < s.length) {m : Mem} {k : List D → Mem → Prop} (xs : List D) (hx : ∀ x ∈ xs, ∀ k' : KD, k' (.bl true) m → φ [x, x] m k') (hk : k (List.replicate xs.length (.bl true)) m) :
    lcV (gTp 2 (gCn (gN 3) (gCn (gN 4) gNl))) vYes (vCall φ (vCons (vVar 3) (vCons (vVar 4) vNil))) s (zipD xs xs) [] m k := by
  rw [zipD_self]
  refine lcV_map (fun as acc m' => m' = m ∧ (∀ a ∈ as, a ∈ xs) ∧ acc = List.replicate (xs.length - as.length) (.bl true) ∧ as.length ≤ xs.length) ?_ ?_ ⟨rfl, fun _ z => z, by simp, Nat.le_refl _⟩
  · rintro acc _ ⟨rfl, _, rfl, _⟩
    simpa using hk
  · rintro a as acc _ ⟨rfl, ha, rfl, hl⟩ ih
    walk_at "vc"
    have e3 : ((s.set 3 (some a)).set 4 (some a))[3]? = some (some a) := by rw [List.getElem?_set_ne (by decide), List.getElem?_set_self h3]
    have e4 : ((s.set 3 (some a)).set 4 (some a))[4]? = some (some a) := by rw [List.getElem?_set_self (by rw [List.length_set]; exact h4)]
    simp only [e3, e4]
    walk_at "vc"
    refine hx a (ha a List.mem_cons_self) _ ?_
    refine ih _ _ ⟨rfl, fun z hz => ha z (List.mem_cons_of_mem _ hz), ?_, by simp at hl; omega⟩
    rw [← List.replicate_succ']
    simp at hl ⊢
    omega
theorem l__law_gcd : ∀ ds m k, ph__law_gcd ds m k → ds.length = 2 := by
  intro ds m k h
  unfold ph__law_gcd at h
  split at h
  · rfl
  · exact h.elim
theorem w__law_gcd : ∀ ds m k, ph__law_gcd ds m k → v__law_gcd (dstart 2 ds) m (endP k) := by
  intro ds m k h
  unfold ph__law_gcd at h
  split at h
  case h_2 => exact h.elim
  rename_i a b
  unfold v__law_gcd v__law_gcd_b1
  walk_at "vc"
  refine ⟨fun n s m' => ∃ x : Nat, s = [some (.int x), some (.int n)] ∧ m' = m ∧ Nat.gcd x n = Int.gcd a b, ⟨b.natAbs, a.natAbs, rfl, rfl, rfl⟩, ?_⟩
  rintro n _ _ ⟨x, rfl, rfl, hg⟩
  walk_at "vc"
  refine itP (fun hn => ⟨by omega, ?_⟩) fun hn => ?_
  · have hn' : n ≠ 0 := by omega
    refine ⟨x % n, Nat.mod_lt _ (by omega), n, ?_, ?_⟩
    · rw [Int.fmod_eq_emod_of_nonneg _ (by omega)]; rfl
    · rw [← hg, Nat.gcd_comm x n, Nat.gcd_rec n x, Nat.gcd_comm]
  · have hn' : n = 0 := by omega
    subst hn'
    rw [Nat.gcd_zero_right] at hg
    rw [hg]
    exact h
theorem l__law_low : ∀ ds m k, ph__law_low ds m k → ds.length = 2 := by
  intro ds m k h
  unfold ph__law_low at h
  split at h
  · rfl
  · exact h.elim
theorem gcd_div {a b : Int} (hb : b ≠ 0) (h : b.natAbs < 2 ^ 8000) : DivOk (Int.gcd a b : Int) ∧ DivOk (-(Int.gcd a b : Int)) := by
  have h0 : 0 < Int.gcd a b := Int.gcd_pos_of_ne_zero_right a hb
  have h1 : Int.gcd a b ≤ b.natAbs := Nat.le_of_dvd (by omega) (Nat.gcd_dvd_right _ _)
  have h2 : Int.gcd a b < 2 ^ 9000 := Nat.lt_of_le_of_lt h1 (Nat.lt_trans h (Nat.pow_lt_pow_right (by decide) (by decide)))
  exact ⟨div_ok (by omega) (by rw [Int.natAbs_natCast]; exact h2), div_ok (by omega) (by rw [Int.natAbs_neg, Int.natAbs_natCast]; exact h2)⟩
theorem w__law_low : ∀ ds m k, ph__law_low ds m k → v__law_low (dstart 3 ds) m (endP k) := by
  intro ds m k h
  unfold ph__law_low at h
  split at h
  case h_2 => exact h.elim
  rename_i a b
  obtain ⟨hb, hs, hk⟩ := h
  obtain ⟨d1, d2⟩ := gcd_div (a := a) hb hs
  unfold v__law_low
  walk_at "vc"
  simp only [ph__law_gcd]
  walk_at "vc"
  unfold frD Fr.low at hk
  refine itP (fun hn => ?_) fun hn => ?_
  · simp only [if_pos hn] at hk
    exact ⟨d2, d2, hk⟩
  · simp only [if_neg hn] at hk
    exact ⟨d1, d1, hk⟩
theorem pre_s {n : Int} (h0 : 0 < n) (h1 : n < 2 ^ 62) : preDraw n := ⟨h0, Nat.lt_of_lt_of_le (m := 2 ^ 62) (by omega) (Nat.pow_le_pow_right (by decide) (by decide))⟩
/-! ### the program's divisor -/
def ph_divisor : P0 := ph__law_gcd
theorem l_divisor : ∀ ds m k, ph_divisor ds m k → ds.length = 2 := l__law_gcd
@[reducible] def v_divisor_b1 : VS :=
  (vPar 0 1 (vCons (vVar 1) (vCons (vOp oMod (vVar 0) (vVar 1)) vNil)))
/- def divisor, slots 0 one 1 other -/
@[reducible] def v_divisor : VS :=
  (vSeq (vPar 0 1 (vCons (vCB oAbs (vCons (vVar 0) vNil)) (vCons (vCB oAbs (vCons (vVar 1) vNil)) vNil)))
    (vSeq (vWhile (tV (vOp oGt (vVar 1) (vC (.int 0)))) v_divisor_b1)
    (vRet (vVar 0))))


theorem w_divisor : ∀ ds m k, ph_divisor ds m k → v_divisor (dstart 2 ds) m (endP k) := by
  intro ds m k h
  unfold ph_divisor ph__law_gcd at h
  split at h
  case h_2 => exact h.elim
  rename_i a b
  unfold v_divisor v_divisor_b1
  walk_at "vc"
  refine ⟨fun n s m' => ∃ x : Nat, s = [some (.int x), some (.int n)] ∧ m' = m ∧ Nat.gcd x n = Int.gcd a b, ⟨b.natAbs, a.natAbs, rfl, rfl, rfl⟩, ?_⟩
  rintro n _ _ ⟨x, rfl, rfl, hg⟩
  walk_at "vc"
  refine itP (fun hn => ⟨by omega, ?_⟩) fun hn => ?_
  · have hn' : n ≠ 0 := by omega
    refine ⟨x % n, Nat.mod_lt _ (by omega), n, ?_, ?_⟩
    · rw [Int.fmod_eq_emod_of_nonneg _ (by omega)]; rfl
    · rw [← hg, Nat.gcd_comm x n, Nat.gcd_rec n x, Nat.gcd_comm]
  · have hn' : n = 0 := by omega
    subst hn'
    rw [Nat.gcd_zero_right] at hg
    rw [hg]
    exact h

/-! ### a fraction's text read -/
def dig (c : Nat) : Bool := decide (48 ≤ c) && decide (c ≤ 57)
/-- a word that is no number -/
def badW (l : List Nat) : Bool := decide (l = []) || (!l.all dig || (decide (1 < l.length) && decide (l.take 1 = [48])))
/- lent by k04 -/
/- def whole_in, slots 0 text 1 sign -/
/-- what is wanted of a word: bad, or not -/
theorem word {l : List Nat} (hl : l.length ≤ 640) {P Q : Prop} (hb : badW l = true → P) (hg : badW l = false → Q) : if l = [] then P else if (l.all dig) = false then P else l.length ≤ 1000000 ∧ if (1 : Int) < l.length then l.length ≤ 1000000 ∧ onO (atI l 0) fun c => if [c] = [48] then P else Q else Q := by
  unfold badW at hb hg
  refine itP (fun e => hb (by simp [e])) fun e => itP (fun e2 => hb (by simp [e2])) fun e2 => ⟨by omega, itP (fun e3 => ⟨by omega, ?_⟩) fun e3 => hg ?_⟩
  · cases l with
    | nil => exact absurd rfl e
    | cons c r =>
      rw [show atI (c :: r) 0 = some c from atI_0, onO_1]
      have e3 : 1 < (c :: r).length := by omega
      refine itP (fun e4 => hb ?_) fun e4 => hg ?_
      · rw [decide_eq_true e3, decide_eq_true (show (c :: r).take 1 = [48] from e4)]; simp
      · rw [decide_eq_false (show ¬ (c :: r).take 1 = [48] from e4), decide_eq_false e]; simpa using e2
  · rw [decide_eq_false (show ¬ 1 < l.length by omega), decide_eq_false e]; simpa using e2
/- lent by k04 -/
/- def unsigned_in, slots 0 text 1 first 2 stroke 3 second 4 top 5 under -/
/-! ### names and ties, judged -/
/-- plain data, its texts short -/
def okT : Nat → D → Prop
  | _, .non => True
  | _, .bl _ => True
  | _, .int _ => True
  | _, .str z => z.length ≤ 1000
  | n + 1, .lst ds => ds.length ≤ 1000 ∧ ∀ d ∈ ds, okT n d
  | n + 1, .tup ds => ds.length ≤ 1000 ∧ ∀ d ∈ ds, okT n d
  | _, _ => False
def Pn (d : D) : Prop := ∃ n, okT n d
theorem Pn.tup {ds : List D} (h : Pn (.tup ds)) : ds.length ≤ 1000 ∧ ∀ d ∈ ds, Pn d := by
  obtain ⟨n, h⟩ := h
  cases n with
  | zero => exact h.elim
  | succ n => exact ⟨h.1, fun d hd => ⟨n, h.2 d hd⟩⟩
theorem Pn.str {z : Str} (h : Pn (.str z)) : z.length ≤ 1000 := by
  obtain ⟨n, h⟩ := h
  cases n <;> exact h
/- lent by k05 -/
/- def is_whole, slots 0 thing -/
/- lent by k05 -/
/- def is_ratio, slots 0 thing -/
/-! ### rates, parts, words -/
def rates : List (Int × Int) := [(1, 1), (-1, 1), (1, 1), (2, 1), (-2, 1), (3, 1), (1, 2), (-3, 2), (-1, 1), (5, 3)]
def ph__law_rate : P0 := fun ds m k => ds = [.feed] ∧ ∀ p ∈ rates, k (frD p) m
/-- one to six small letters -/
def Word (w : List Nat) : Prop := 1 ≤ w.length ∧ w.length ≤ 6 ∧ ∀ c ∈ w, 97 ≤ c ∧ c ≤ 122
abbrev wsD (ws : List (List Nat)) : D := .lst (ws.map fun w => .str (S w))
def ph__law_words : P0 := fun ds m k => ∃ n : Nat, ds = [.feed, .int (n : Int)] ∧ n ≤ 26 ∧ ∀ ws : List (List Nat), ws.length = n → ws.Nodup → (∀ w ∈ ws, Word w) → k (wsD ws) m
/- def _law_rate, slots 0 _law_feed_here -/
@[reducible] def v__law_rate : VS :=
  (vRet (vCall ph__law_any (vCons (vVar 0) (vCons (vLst (vCons (vTup (vCons (vC (.int 1)) (vCons (vC (.int 1)) vNil))) (vCons (vTup (vCons (vUn oNeg (vC (.int 1))) (vCons (vC (.int 1)) vNil))) (vCons (vTup (vCons (vC (.int 1)) (vCons (vC (.int 1)) vNil))) (vCons (vTup (vCons (vC (.int 2)) (vCons (vC (.int 1)) vNil))) (vCons (vTup (vCons (vUn oNeg (vC (.int 2))) (vCons (vC (.int 1)) vNil))) (vCons (vTup (vCons (vC (.int 3)) (vCons (vC (.int 1)) vNil))) (vCons (vTup (vCons (vC (.int 1)) (vCons (vC (.int 2)) vNil))) (vCons (vTup (vCons (vUn oNeg (vC (.int 3))) (vCons (vC (.int 2)) vNil))) (vCons (vTup (vCons (vUn oNeg (vC (.int 1))) (vCons (vC (.int 1)) vNil))) (vCons (vTup (vCons (vC (.int 5)) (vCons (vC (.int 3)) vNil))) vNil))))))))))) vNil))))
/- def _law_words, slots 0 _law_feed_here 1 _law_many 2 _law_letters 3 _law_stem 4 _law_spot 5 _law_first 6 _law_way 7 _law_found 8 _law_k -/
@[reducible] def v__law_words : VS :=
  (vSeq (vSet 2 (vC (.str "abcdefghijklmnopqrstuvwxyz")))
    (vSeq (vSet 3 (vJoin (vC (.str "")) (vLc (vRng1 (vCons (vCall ph__law_draw (vCons (vVar 0) (vCons (vC (.int 6)) vNil))) vNil)) (gN 8) vYes (vOp oIx (vVar 2) (vCall ph__law_draw (vCons (vVar 0) (vCons (vC (.int 26)) vNil)))) [8])))
    (vSeq (vAsg (vTup (vCons (vCall ph__law_draw (vCons (vVar 0) (vCons (vOp oAdd (vCB oLen (vCons (vVar 3) vNil)) (vC (.int 1))) vNil))) (vCons (vCall ph__law_draw (vCons (vVar 0) (vCons (vC (.int 26)) vNil))) (vCons (vCall ph__law_draw (vCons (vVar 0) (vCons (vC (.int 3)) vNil))) vNil)))) (gTp 3 (gCn (gN 4) (gCn (gN 5) (gCn (gN 6) gNl)))))
    (vSeq (vSet 7 (vLc (vRng1 (vCons (vVar 1) vNil)) (gN 8) vYes (vOp oAdd (vOp oAdd (vSl (vVar 3) vNoP (vP (vVar 4))) (vOp oIx (vVar 2) (vOp oMod (vCB oInt (vCons (vOp oAdd (vVar 5) (vOp oMul (vC (.int 5)) (vVar 8))) vNil)) (vC (.int 26))))) (vSl (vVar 3) (vP (vVar 4)) vNoP)) [8]))
    (vSeq (vIfS (tV (vOp oEq (vVar 6) (vC (.int 0)))) (vSeq (vSet 7 (vLc (vRng1 (vCons (vVar 1) vNil)) (gN 8) vYes (vSl (vOp oAdd (vSl (vVar 3) vNoP (vP (vC (.int 1)))) (vOp oMul (vOp oIx (vVar 2) (vOp oMod (vCB oInt (vCons (vOp oAdd (vVar 5) (vOp oMul (vC (.int 7)) (vVar 8))) vNil)) (vC (.int 26)))) (vOp oAdd (vC (.int 1)) (vOp oMod (vCB oInt (vCons (vOp oAdd (vVar 8) (vVar 5)) vNil)) (vC (.int 4)))))) (vP (vUn oNeg (vC (.int 6)))) vNoP) [8]))
    (vSet 7 (vIf (tV (vOp oEq (vLs (vVar 7)) (vVar 1))) (vVar 7) (vLc (vRng1 (vCons (vVar 1) vNil)) (gN 8) vYes (vOp oIx (vVar 2) (vOp oMod (vCB oInt (vCons (vOp oAdd (vVar 5) (vOp oMul (vC (.int 5)) (vVar 8))) vNil)) (vC (.int 26)))) [8])))) vNext)
    (vRet (vVar 7)))))))


theorem l__law_rate : ∀ ds m k, ph__law_rate ds m k → ds.length = 1 := by rintro _ m k ⟨rfl, _⟩; rfl
theorem l__law_words : ∀ ds m k, ph__law_words ds m k → ds.length = 2 := by rintro _ m k ⟨z, rfl, _⟩; rfl
theorem w__law_rate : ∀ ds m k, ph__law_rate ds m k → v__law_rate (dstart 1 ds) m (endP k) := by
  rintro _ m k ⟨rfl, hk⟩
  unfold v__law_rate
  walk_at "vc"
  simp only [ph__law_any]
  refine ⟨by simp, by simp, fun d hd => ?_⟩
  have e : d ∈ rates.map frD := hd
  obtain ⟨p, hp, rfl⟩ := List.mem_map.mp e
  exact hk p hp
abbrev abc : List Nat := (List.range 26).map (· + 97)
theorem abc_S : ("abcdefghijklmnopqrstuvwxyz" : Str) = S abc := by decide +kernel
theorem emp_S : ("" : Str) = S [] := by decide +kernel
theorem join1 : ∀ zs : List Nat, TL.joinL [] (zs.map fun c => [c]) = zs
  | [] => rfl
  | [c] => rfl
  | c :: d :: r => by
    show [c] ++ ([] ++ TL.joinL [] ((d :: r).map fun c => [c])) = _
    rw [join1 (d :: r)]
    rfl
theorem join_one (zs : List Nat) : Txt.join (S []) (zs.map fun c => S [c]) = S zs := by
  have e : (zs.map fun c => S [c]) = (zs.map fun c => [c]).map S := by rw [List.map_map]; rfl
  rw [e, join_S, join1]
theorem abc_at {r : Int} (h0 : 0 ≤ r) (h1 : r < 26) : L2.atI (S abc).cps.toList r = some (97 + r.toNat) := by
  refine atI_of (j := r.toNat) (by omega) ?_
  show abc[r.toNat]? = _
  unfold abc
  rw [List.getElem?_map, List.getElem?_range (by omega)]
  show some (r.toNat + 97) = _
  rw [Nat.add_comm]
def let26 (i : Int) : Nat := 97 + (i.fmod 26).toNat
theorem abc_mod (i : Int) : L2.atI (S abc).cps.toList (i.fmod 26) = some (let26 i) := by
  have b := fmod_nn (a := i) (b := 26) (by decide)
  exact abc_at b.1 b.2
theorem rng_map (n : Nat) : rngD 0 n = (List.range n).map fun (i : Nat) => D.int ((0 : Int) + (i : Int)) := rfl
theorem nodup_rng {β : Type} {n : Nat} {f : Nat → β} (h : ∀ i j, i < n → j < n → f i = f j → i = j) : ((List.range n).map f).Nodup := by
  rw [List.Nodup, List.pairwise_map]
  refine (List.nodup_range (n := n)).imp_of_mem fun {a b} ha hb ne e => ne (h a b (List.mem_range.mp ha) (List.mem_range.mp hb) e)
theorem cut_to {α : Type} (l : List α) (p : Nat) : cutD l none (some (p : Int)) = l.take p := by
  unfold cutD
  rw [HT.sIx_none, HT.sIx_nat, List.drop_zero, Nat.sub_zero]
  rcases Nat.le_total p l.length with h | h
  · rw [Nat.min_eq_left h]
  · rw [Nat.min_eq_right h, List.take_length, List.take_of_length_le h]
theorem cut_from {α : Type} (l : List α) (p : Nat) : cutD l (some (p : Int)) none = l.drop p := by
  unfold cutD
  rw [HT.sIx_none, HT.sIx_nat]
  rcases Nat.le_total p l.length with h | h
  · rw [Nat.min_eq_left h]
    exact List.take_of_length_le (by rw [List.length_drop]; exact Nat.le_refl _)
  · rw [Nat.min_eq_right h, List.drop_eq_nil_of_le h, Nat.sub_self, List.take_zero]
theorem cut_m6 {α : Type} {l : List α} (h : l.length ≤ 6) : cutD l (some (-6)) none = l := by
  unfold cutD
  have e : HT.sIx l.length 0 (some (-6)) = 0 := by
    show (if (-6 : Int) < 0 then (-6 + (l.length : Int)).toNat else min (-6 : Int).toNat l.length) = 0
    rw [if_pos (by decide)]
    omega
  rw [e, HT.sIx_none, List.drop_zero, Nat.sub_zero, List.take_length]
theorem let26_ok (i : Int) : 97 ≤ let26 i ∧ let26 i ≤ 122 := by
  have b := fmod_nn (a := i) (b := 26) (by decide)
  unfold let26
  omega
theorem let26_inj {f : Int} {c : Int} (hc : c = 5) {i j : Nat} (hi : i < 26) (hj : j < 26) (h : let26 (f + c * (0 + (i : Int))) = let26 (f + c * (0 + (j : Int)))) : i = j := by
  subst hc
  have b1 := fmod_nn (a := f + 5 * (0 + (i : Int))) (b := 26) (by decide)
  have b2 := fmod_nn (a := f + 5 * (0 + (j : Int))) (b := 26) (by decide)
  unfold let26 at h
  rw [Int.fmod_eq_emod_of_nonneg _ (by decide)] at b1 b2 h
  rw [Int.fmod_eq_emod_of_nonneg _ (by decide)] at h
  omega
/-- the name with a letter at its place -/
def nm5 (st : List Nat) (p : Nat) (f : Int) (i : Nat) : List Nat := st.take p ++ [let26 (f + 5 * (0 + (i : Int)))] ++ st.drop p
def nm7 (st : List Nat) (f : Int) (i : Nat) : List Nat := st.take 1 ++ (List.replicate (1 + ((0 + (i : Int)) + f).fmod 4).toNat [let26 (f + 7 * (0 + (i : Int)))]).flatten
def nm1 (f : Int) (i : Nat) : List Nat := [let26 (f + 5 * (0 + (i : Int)))]
theorem sum_ones : ∀ st : List Nat, (st.map ((fun x : Str => x.length) ∘ fun c => S [c])).sum = st.length
  | [] => rfl
  | c :: st => by
    rw [List.map_cons, List.sum_cons, sum_ones st, List.length_cons]
    show (S [c]).length + _ = _
    rw [S_len]
    simp
    omega
theorem flat_len (c : Nat) : ∀ m : Nat, (List.replicate m [c]).flatten.length = m
  | 0 => rfl
  | m + 1 => by rw [List.replicate_succ, List.flatten_cons, List.length_append, flat_len c m]; simp; omega
theorem five_w {st : List Nat} (hst : ∀ c ∈ st, 97 ≤ c ∧ c ≤ 122) (hl : st.length ≤ 5) (p : Nat) (f : Int) (i : Nat) : Word (nm5 st p f i) := by
  have l1 : (nm5 st p f i).length = st.length + 1 := by
    unfold nm5
    simp only [List.length_append, List.length_take, List.length_drop, List.length_cons, List.length_nil]
    omega
  refine ⟨by omega, by omega, fun c hc => ?_⟩
  unfold nm5 at hc
  rcases List.mem_append.mp hc with hc | hc
  · rcases List.mem_append.mp hc with hc | hc
    · exact hst c (List.mem_of_mem_take hc)
    · rw [List.mem_singleton] at hc; rw [hc]; exact let26_ok _
  · exact hst c (List.mem_of_mem_drop hc)
theorem seven_w {st : List Nat} (hst : ∀ c ∈ st, 97 ≤ c ∧ c ≤ 122) (f : Int) (i : Nat) : Word (nm7 st f i) := by
  have b := fmod_nn (a := (0 + (i : Int)) + f) (b := 4) (by decide)
  have l1 : (nm7 st f i).length = min 1 st.length + (1 + ((0 + (i : Int)) + f).fmod 4).toNat := by
    unfold nm7
    rw [List.length_append, List.length_take, flat_len]
  refine ⟨by omega, by omega, fun c hc => ?_⟩
  unfold nm7 at hc
  rcases List.mem_append.mp hc with hc | hc
  · exact hst c (List.mem_of_mem_take hc)
  · obtain ⟨l, hl, hc⟩ := List.mem_flatten.mp hc
    rw [List.eq_of_mem_replicate hl, List.mem_singleton] at hc
    rw [hc]
    exact let26_ok _
theorem w__law_words : ∀ ds m k, ph__law_words ds m k → v__law_words (dstart 9 ds) m (endP k) := by
  rintro _ m k ⟨n, rfl, hn, hk⟩
  have asW : ∀ (g : Nat → List Nat), ((List.range n).map fun i => D.str (S (g i))) = ((List.range n).map g).map fun w => D.str (S w) := fun g => by rw [List.map_map]; rfl
  have fin : ∀ g : Nat → List Nat, (∀ i, Word (g i)) → ((List.range n).map g).Nodup → k (.lst ((List.range n).map fun i => D.str (S (g i)))) m := fun g hg nd => by
    rw [asW]
    refine hk _ (by rw [List.length_map, List.length_range]) nd fun w hw => ?_
    obtain ⟨i, _, rfl⟩ := List.mem_map.mp hw
    exact hg i
  have rb : ∀ n : Nat, n ≤ 26 → -(2 ^ 62) ≤ (n : Int) ∧ (n : Int) < 2 ^ 62 := fun n h => ⟨by omega, by omega⟩
  unfold v__law_words
  rw [abc_S, emp_S]
  simp only [ph__law_draw]
  walk_at "vc"
  refine ⟨pre_s (by omega) (by omega), fun r r0 r1 => ?_⟩
  walk_at "vc"
  refine ⟨⟨by omega, by omega⟩, by rw [rngD_len]; omega, ?_⟩
  rw [rng_map]
  refine lc_rel (fun _ y => ∃ c, y = .str (S [c]) ∧ 97 ≤ c ∧ c ≤ 122) _ _ (fun i hi k' _ hk => ?_) fun ys hys => ?_
  · walk_at "vc"
    refine ⟨pre_s (by omega) (by omega), fun r hr0 hr1 => ?_⟩
    walk_at "vc"
    rw [abc_at hr0 hr1]
    exact ⟨by decide, hk _ ⟨_, rfl, by omega, by omega⟩⟩
  have hlen := hys.len
  rw [List.length_range] at hlen
  obtain ⟨st, rfl⟩ := Al2.unmap (f := fun c => D.str (S [c])) (fun x y h => let ⟨c, h1, _⟩ := h; ⟨c, h1⟩) hys
  have hst : ∀ c ∈ st, 97 ≤ c ∧ c ≤ 122 := fun c hc => by
    obtain ⟨x, _, c', e, h⟩ := hys.mem _ (List.mem_map.mpr ⟨c, hc, rfl⟩)
    have e := D.str.inj e
    have := S_inj e
    simp at this
    subst this
    exact h
  rw [List.length_map] at hlen
  have hst5 : st.length ≤ 5 := by omega
  have e1 : (List.map (fun c => D.str (S [c])) st) = (st.map fun c => S [c]).map D.str := by rw [List.map_map]; rfl
  rw [List.nil_append, e1]
  walk_at "vc"
  refine ⟨?_, ?_⟩
  · rw [List.map_map, Nat.mul_zero, Nat.add_zero]
    exact Nat.le_trans (Nat.le_of_eq (sum_ones st)) (by omega)
  rw [join_one]
  walk_at "vc"
  refine ⟨by omega, pre_s (by omega) (by omega), fun p hp0 hp1 => ?_⟩
  obtain ⟨p, rfl⟩ : ∃ q : Nat, p = (q : Int) := ⟨p.toNat, by omega⟩
  refine ⟨pre_s (by omega) (by omega), fun f hf0 hf1 => ?_⟩
  refine ⟨pre_s (by omega) (by omega), fun w hw0 hw1 => ?_⟩
  walk_at "vc"
  refine ⟨rb n hn, by rw [rngD_len]; omega, ?_⟩
  rw [Int.toNat_natCast, rng_map]
  have labc : abc.length ≤ 1000000 := by decide
  have lst : st.length ≤ 1000000 := by omega
  refine lc_map (h := fun i => .str (S (nm5 st p f i))) _ _ (fun i hi k' _ hk => ?_) ?_
  · walk_at "vc"
    refine ⟨lst, cmul_l (by decide) (by decide), labc, ?_⟩
    rw [abc_mod]
    walk_at "vc"
    rw [cut_to, cut_from]
    refine ⟨?_, lst, ?_, hk⟩
    · simp; omega
    · simp; omega
  rw [List.nil_append]
  walk_at "vc"
  refine itP (fun _ => ?_) fun _ => fin _ (five_w hst hst5 p f) (nodup_rng fun i j hi hj e => ?_)
  · refine ⟨rb n hn, by simp; omega, ?_⟩
    refine lc_map (h := fun i => .str (S (nm7 st f i))) _ _ (fun i hi k' _ hk => ?_) ?_
    · have b := fmod_nn (a := (0 + (i : Int)) + f) (b := 4) (by decide)
      have w6 := (seven_w hst f i).2.1
      walk_at "vc"
      refine ⟨lst, cmul_l (by decide) (by decide), labc, ?_⟩
      rw [abc_mod]
      walk_at "vc"
      rw [show cutD st none (some 1) = st.take 1 from cut_to st 1]
      refine ⟨by omega, by omega, ?_, ?_, ?_⟩
      · rw [List.length_take, flat_len]; omega
      · exact Nat.le_trans w6 (by decide)
      · have e := cut_m6 w6
        unfold nm7 at e hk
        rw [e]
        exact hk
    rw [List.nil_append]
    have e7 : ((List.range n).map fun i => D.str (S (nm7 st f i))) = ((List.range n).map fun i => S (nm7 st f i)).map D.str := by rw [List.map_map]; rfl
    rw [e7]
    walk_at "vc"
    refine ⟨by rw [List.length_map, List.length_range]; omega, fun ns nd mem => itP (fun e => ?_) fun _ => ?_⟩
    · rw [← e7]
      have e : ns.length = n := by omega
      have nd7 : ((List.range n).map fun i => S (nm7 st f i)).Nodup := nodup_of (l := ns) (fun z => (mem z).symm) (by rw [List.length_map, List.length_range]; omega) nd
      have e2 : ((List.range n).map fun i => S (nm7 st f i)) = ((List.range n).map (nm7 st f)).map S := by rw [List.map_map]; rfl
      rw [e2, List.Nodup, List.pairwise_map] at nd7
      exact fin _ (seven_w hst f) (nd7.imp fun h e => h (by rw [e]))
    · refine ⟨rb n hn, by simp; omega, ?_⟩
      refine lc_map (h := fun i => .str (S (nm1 f i))) _ _ (fun i hi k' _ hk => ?_) ?_
      · walk_at "vc"
        refine ⟨cmul_l (by decide) (by decide), labc, ?_⟩
        rw [abc_mod]
        exact hk
      rw [List.nil_append]
      refine fin (nm1 f) (fun i => ⟨by simp [nm1], by simp [nm1], fun c hc => ?_⟩) (nodup_rng fun i j hi hj e => let26_inj rfl (by omega) (by omega) (by unfold nm1 at e; simpa using e))
      unfold nm1 at hc
      rw [List.mem_singleton] at hc
      rw [hc]
      exact let26_ok _
  · unfold nm5 at e
    have e1 := List.append_cancel_right e
    have e2 := List.append_cancel_left e1
    exact let26_inj rfl (by omega) (by omega) (by simpa using e2)

/-! ### names judged -/
/- lent by k05 -/
/- def is_name, slots 0 text 1 letters 2 sign -/
/-! ### sums, products, order of fractions -/
def fadd (f g : Int × Int) : Int × Int := Fr.low (f.1 * g.2 + g.1 * f.2) (f.2 * g.2)
def fmul (f g : Int × Int) : Int × Int := Fr.low (f.1 * g.1) (f.2 * g.2)
def flt (f g : Int × Int) : Bool := decide (f.1 * g.2 < g.1 * f.2)
/-- of so many bits -/
def Bd (n : Nat) (f : Int × Int) : Prop := f.1.natAbs < 2 ^ n ∧ f.2.natAbs < 2 ^ n
theorem Bd.mono {n m : Nat} {f : Int × Int} (h : Bd n f) (l : n ≤ m) : Bd m f := ⟨Nat.lt_of_lt_of_le h.1 (Nat.pow_le_pow_right (by decide) l), Nat.lt_of_lt_of_le h.2 (Nat.pow_le_pow_right (by decide) l)⟩
theorem abs_mul {a b : Int} {n m : Nat} (ha : a.natAbs < 2 ^ n) (hb : b.natAbs < 2 ^ m) : (a * b).natAbs < 2 ^ (n + m) := by
  rw [Int.natAbs_mul, Nat.pow_add]
  exact Nat.mul_lt_mul'' ha hb
theorem Bd.mul {n m : Nat} {f g : Int × Int} (hf : Bd n f) (hg : Bd m g) (h1 : f.2 ≠ 0) (h2 : g.2 ≠ 0) : Bd (n + m) (fmul f g) := by
  have h := Fr.low_abs (a := f.1 * g.1) (b := f.2 * g.2) (Int.mul_ne_zero h1 h2)
  exact ⟨Nat.lt_of_le_of_lt h.1 (abs_mul hf.1 hg.1), Nat.lt_of_le_of_lt h.2 (abs_mul hf.2 hg.2)⟩
theorem Bd.add {n m : Nat} {f g : Int × Int} (hf : Bd n f) (hg : Bd m g) (h1 : f.2 ≠ 0) (h2 : g.2 ≠ 0) : Bd (n + m + 1) (fadd f g) := by
  have h := Fr.low_abs (a := f.1 * g.2 + g.1 * f.2) (b := f.2 * g.2) (Int.mul_ne_zero h1 h2)
  have a1 := abs_mul hf.1 hg.2
  have a2 : (g.1 * f.2).natAbs < 2 ^ (n + m) := by rw [Nat.add_comm n m]; exact abs_mul hg.1 hf.2
  have a3 := abs_mul hf.2 hg.2
  have e : 2 ^ (n + m + 1) = 2 ^ (n + m) + 2 ^ (n + m) := by rw [Nat.pow_succ]; omega
  refine ⟨Nat.lt_of_le_of_lt h.1 (Nat.lt_of_le_of_lt (Int.natAbs_add_le _ _) (by omega)), Nat.lt_of_le_of_lt h.2 (by omega)⟩

def ph_lowest : P0 := ph__law_low
theorem l_lowest : ∀ ds m k, ph_lowest ds m k → ds.length = 2 := l__law_low
/-- two fractions of at most 3000 bits -/
def ph_two (F : Int × Int → Int × Int → D) : P0 := fun ds m k => ∃ f g : Int × Int, ds = [frD f, frD g] ∧ f.2 ≠ 0 ∧ g.2 ≠ 0 ∧ Bd 3000 f ∧ Bd 3000 g ∧ k (F f g) m
theorem l_two {F : Int × Int → Int × Int → D} : ∀ ds m k, ph_two F ds m k → ds.length = 2 := by rintro _ m k ⟨_, _, rfl, _⟩; rfl
def ph_add : P0 := ph_two fun f g => frD (fadd f g)
def ph_multiply : P0 := ph_two fun f g => frD (fmul f g)
def ph_is_less : P0 := ph_two fun f g => .bl (flt f g)
theorem l_add : ∀ ds m k, ph_add ds m k → ds.length = 2 := l_two
theorem l_multiply : ∀ ds m k, ph_multiply ds m k → ds.length = 2 := l_two
theorem l_is_less : ∀ ds m k, ph_is_less ds m k → ds.length = 2 := l_two
/- def lowest, slots 0 top 1 under 2 part -/
@[reducible] def v_lowest : VS :=
  (vSeq (vSet 2 (vCall ph_divisor (vCons (vVar 0) (vCons (vVar 1) vNil))))
    (vSeq (vIfS (tV (vOp oLt (vVar 1) (vC (.int 0)))) (vSet 2 (vUn oNeg (vVar 2))) vNext)
    (vRet (vTup (vCons (vOp oFdiv (vVar 0) (vVar 2)) (vCons (vOp oFdiv (vVar 1) (vVar 2)) vNil))))))
/- def add, slots 0 one 1 other -/
@[reducible] def v_add : VS :=
  (vRet (vCall ph_lowest (vCons (vOp oAdd (vOp oMul (vOp oIx (vVar 0) (vC (.int 0))) (vOp oIx (vVar 1) (vC (.int 1)))) (vOp oMul (vOp oIx (vVar 1) (vC (.int 0))) (vOp oIx (vVar 0) (vC (.int 1))))) (vCons (vOp oMul (vOp oIx (vVar 0) (vC (.int 1))) (vOp oIx (vVar 1) (vC (.int 1)))) vNil))))
/- def multiply, slots 0 one 1 other -/
@[reducible] def v_multiply : VS :=
  (vRet (vCall ph_lowest (vCons (vOp oMul (vOp oIx (vVar 0) (vC (.int 0))) (vOp oIx (vVar 1) (vC (.int 0)))) (vCons (vOp oMul (vOp oIx (vVar 0) (vC (.int 1))) (vOp oIx (vVar 1) (vC (.int 1)))) vNil))))
/- def is_less, slots 0 one 1 other -/
@[reducible] def v_is_less : VS :=
  (vRet (vOp oLt (vOp oMul (vOp oIx (vVar 0) (vC (.int 0))) (vOp oIx (vVar 1) (vC (.int 1)))) (vOp oMul (vOp oIx (vVar 1) (vC (.int 0))) (vOp oIx (vVar 0) (vC (.int 1))))))


theorem w_lowest : ∀ ds m k, ph_lowest ds m k → v_lowest (dstart 3 ds) m (endP k) := w__law_low
theorem mul3 {a b : Int} (ha : a.natAbs < 2 ^ 3000) (hb : b.natAbs < 2 ^ 3000) : MulOk a b := cmul_x ha hb (by decide)
theorem w_is_less : ∀ ds m k, ph_is_less ds m k → v_is_less (dstart 2 ds) m (endP k) := by
  rintro _ m k ⟨f, g, rfl, h1, h2, bf, bg, hk⟩
  unfold v_is_less
  walk_at "vc"
  exact ⟨mul3 bf.1 bg.2, mul3 bg.1 bf.2, hk⟩
theorem den_ok {f g : Int × Int} (h1 : f.2 ≠ 0) (h2 : g.2 ≠ 0) (bf : Bd 3000 f) (bg : Bd 3000 g) : f.2 * g.2 ≠ 0 ∧ (f.2 * g.2).natAbs < 2 ^ 8000 := ⟨Int.mul_ne_zero h1 h2, Nat.lt_of_lt_of_le (abs_mul bf.2 bg.2) (Nat.pow_le_pow_right (by decide) (by decide))⟩
theorem w_add : ∀ ds m k, ph_add ds m k → v_add (dstart 2 ds) m (endP k) := by
  rintro _ m k ⟨f, g, rfl, h1, h2, bf, bg, hk⟩
  unfold v_add
  walk_at "vc"
  obtain ⟨d1, d2⟩ := den_ok h1 h2 bf bg
  exact ⟨mul3 bf.1 bg.2, mul3 bg.1 bf.2, mul3 bf.2 bg.2, d1, d2, hk⟩
theorem w_multiply : ∀ ds m k, ph_multiply ds m k → v_multiply (dstart 2 ds) m (endP k) := by
  rintro _ m k ⟨f, g, rfl, h1, h2, bf, bg, hk⟩
  unfold v_multiply
  walk_at "vc"
  obtain ⟨d1, d2⟩ := den_ok h1 h2 bf bg
  exact ⟨mul3 bf.1 bg.1, mul3 bf.2 bg.2, d1, d2, hk⟩

/-! ### negative, subtract -/
def fneg (f : Int × Int) : Int × Int := (-f.1, f.2)
def ph_negative : P0 := fun ds m k => ∃ f : Int × Int, ds = [frD f] ∧ k (frD (fneg f)) m
theorem l_negative : ∀ ds m k, ph_negative ds m k → ds.length = 1 := by rintro _ m k ⟨_, rfl, _⟩; rfl
def ph_subtract : P0 := ph_two fun f g => frD (fadd f (fneg g))
theorem l_subtract : ∀ ds m k, ph_subtract ds m k → ds.length = 2 := l_two
/- def negative, slots 0 one -/
@[reducible] def v_negative : VS :=
  (vRet (vTup (vCons (vUn oNeg (vOp oIx (vVar 0) (vC (.int 0)))) (vCons (vOp oIx (vVar 0) (vC (.int 1))) vNil))))
/- def subtract, slots 0 one 1 other -/
@[reducible] def v_subtract : VS :=
  (vRet (vCall ph_add (vCons (vVar 0) (vCons (vCall ph_negative (vCons (vVar 1) vNil)) vNil))))


theorem w_negative : ∀ ds m k, ph_negative ds m k → v_negative (dstart 1 ds) m (endP k) := by
  rintro _ m k ⟨f, rfl, hk⟩
  unfold v_negative
  walk_at "vc"
  exact hk
theorem Bd.neg {n : Nat} {f : Int × Int} (h : Bd n f) : Bd n (fneg f) := ⟨by show (-f.1).natAbs < _; rw [Int.natAbs_neg]; exact h.1, h.2⟩
theorem w_subtract : ∀ ds m k, ph_subtract ds m k → v_subtract (dstart 2 ds) m (endP k) := by
  rintro _ m k ⟨f, g, rfl, h1, h2, bf, bg, hk⟩
  unfold v_subtract
  walk_at "vc"
  exact ⟨g, rfl, f, fneg g, rfl, h1, h2, bf, bg.neg, hk⟩

/-! ### divide, never by 0 -/
/- lent by k02 -/
/- def divide, slots 0 one 1 other -/
/-! ### fractions as rationals -/
abbrev rf (q : Rat) : Int × Int := (q.num, (q.den : Int))
abbrev qD (q : Rat) : D := frD (rf q)
theorem rf_ok (q : Rat) : Fr.Ok (rf q) := ⟨by show (0 : Int) < (q.den : Int); have := q.den_nz; omega, q.reduced⟩
theorem rf_nz (q : Rat) : (rf q).2 ≠ 0 := by have := (rf_ok q).1; show (rf q).2 ≠ 0; omega
theorem rf_div (q : Rat) : ((q.num : Int) : Rat) / ((q.den : Int) : Rat) = q := by
  rw [← Rat.divInt_eq_div]; exact (Rat.mk_eq_divInt (nz := q.den_nz) (c := q.reduced)).symm
theorem icast_ne {b : Int} (hb : b ≠ 0) : (b : Rat) ≠ 0 := fun h => hb (by have := Rat.intCast_inj.mp (h.trans Rat.intCast_zero.symm); exact this)
theorem low_rat {a b : Int} (hb : b ≠ 0) : Fr.low a b = rf ((a : Rat) / (b : Rat)) := by
  refine Fr.low_unique hb (rf_ok _) ?_
  have e := rf_div ((a : Rat) / (b : Rat))
  have h2 : ((((a : Rat) / (b : Rat)).den : Int) : Rat) ≠ 0 := icast_ne (rf_nz _)
  have hb' := icast_ne hb
  have : ((((a : Rat) / (b : Rat)).num : Int) : Rat) * (b : Rat) = (a : Rat) * ((((a : Rat) / (b : Rat)).den : Int) : Rat) := by
    generalize (((a : Rat) / (b : Rat)).num : Int) = n at e ⊢
    generalize ((((a : Rat) / (b : Rat)).den : Nat) : Int) = d at e h2 ⊢
    generalize ((n : Int) : Rat) = x at e ⊢
    generalize ((d : Int) : Rat) = y at e h2 ⊢
    grind
  exact Rat.intCast_inj.mp (by rw [Rat.intCast_mul, Rat.intCast_mul]; exact this)
theorem fadd_q (a b : Rat) : fadd (rf a) (rf b) = rf (a + b) := by
  unfold fadd
  rw [low_rat (Int.mul_ne_zero (rf_nz a) (rf_nz b))]
  congr 1
  have ha := rf_div a; have hb := rf_div b
  have h1 := icast_ne (rf_nz a); have h2 := icast_ne (rf_nz b)
  simp only [Rat.intCast_add, Rat.intCast_mul, rf] at h1 h2 ⊢
  grind
theorem fmul_q (a b : Rat) : fmul (rf a) (rf b) = rf (a * b) := by
  unfold fmul
  rw [low_rat (Int.mul_ne_zero (rf_nz a) (rf_nz b))]
  congr 1
  have ha := rf_div a; have hb := rf_div b
  have h1 := icast_ne (rf_nz a); have h2 := icast_ne (rf_nz b)
  simp only [Rat.intCast_mul, rf] at h1 h2 ⊢
  grind
theorem fneg_q (a : Rat) : fneg (rf a) = rf (-a) := by unfold fneg rf; rw [Rat.neg_num, Rat.neg_den]
theorem flt_q (a b : Rat) : flt (rf a) (rf b) = decide (a < b) := by unfold flt; exact decide_eq_decide.mpr (Rat.lt_iff a b).symm
/-- of so many bits -/
abbrev Bq (n : Nat) (q : Rat) : Prop := Bd n (rf q)
theorem Bq.add {n m : Nat} {a b : Rat} (h : Bq n a) (h' : Bq m b) : Bq (n + m + 1) (a + b) := by show Bd _ _; rw [← fadd_q]; exact Bd.add h h' (rf_nz a) (rf_nz b)
theorem Bq.mul {n m : Nat} {a b : Rat} (h : Bq n a) (h' : Bq m b) : Bq (n + m) (a * b) := by show Bd _ _; rw [← fmul_q]; exact Bd.mul h h' (rf_nz a) (rf_nz b)
theorem Bq.neg {n : Nat} {a : Rat} (h : Bq n a) : Bq n (-a) := by show Bd _ _; rw [← fneg_q]; exact ⟨by show (-a.num).natAbs < _; rw [Int.natAbs_neg]; exact h.1, h.2⟩
theorem Bq.sub {n m : Nat} {a b : Rat} (h : Bq n a) (h' : Bq m b) : Bq (n + m + 1) (a - b) := by rw [Rat.sub_eq_add_neg]; exact h.add h'.neg
theorem Bq.frac {n : Nat} {a b : Int} (hb : b ≠ 0) (h1 : a.natAbs < 2 ^ n) (h2 : b.natAbs < 2 ^ n) : Bq n ((a : Rat) / (b : Rat)) := by
  show Bd _ _
  rw [← low_rat hb]
  have h := Fr.low_abs (a := a) (b := b) hb
  exact ⟨Nat.lt_of_le_of_lt h.1 h1, Nat.lt_of_le_of_lt h.2 h2⟩
theorem Bq.int {n : Nat} {a : Int} (hn : 0 < n) (h1 : a.natAbs < 2 ^ n) : Bq n (a : Rat) := ⟨h1, by show (1 : Int).natAbs < 2 ^ n; exact Nat.one_lt_two_pow (by omega)⟩
theorem num_zero {q : Rat} : q.num = 0 ↔ q = 0 := Rat.num_eq_zero
/-! the promises over rationals -/
section
variable {a b : Rat} {m : Mem} {k : KD} {x : KX}
theorem pq_add (h1 : Bq 3000 a) (h2 : Bq 3000 b) (hk : k (qD (a + b)) m) : ph_add [qD a, qD b] m k := ⟨rf a, rf b, rfl, rf_nz a, rf_nz b, h1, h2, by show k (frD (fadd (rf a) (rf b))) m; rw [fadd_q]; exact hk⟩
theorem pq_mul (h1 : Bq 3000 a) (h2 : Bq 3000 b) (hk : k (qD (a * b)) m) : ph_multiply [qD a, qD b] m k := ⟨rf a, rf b, rfl, rf_nz a, rf_nz b, h1, h2, by show k (frD (fmul (rf a) (rf b))) m; rw [fmul_q]; exact hk⟩
theorem pq_less (h1 : Bq 3000 a) (h2 : Bq 3000 b) (hk : k (.bl (decide (a < b))) m) : ph_is_less [qD a, qD b] m k := ⟨rf a, rf b, rfl, rf_nz a, rf_nz b, h1, h2, by show k (.bl (flt (rf a) (rf b))) m; rw [flt_q]; exact hk⟩
theorem pq_sub (h1 : Bq 3000 a) (h2 : Bq 3000 b) (hk : k (qD (a - b)) m) : ph_subtract [qD a, qD b] m k := ⟨rf a, rf b, rfl, rf_nz a, rf_nz b, h1, h2, by show k (frD (fadd (rf a) (fneg (rf b)))) m; rw [fneg_q, fadd_q, ← Rat.sub_eq_add_neg]; exact hk⟩
theorem pq_low {i j : Int} (hj : j ≠ 0) (h2 : j.natAbs < 2 ^ 8000) (hk : k (qD ((i : Rat) / (j : Rat))) m) : ph_lowest [.int i, .int j] m k := ⟨hj, h2, by rw [low_rat hj]; exact hk⟩
end
/-! ### plain data without booleans, compared: equal as data -/
mutual
def cE : D → Bool
  | .non => true
  | .int _ => true
  | .str z => PyData.strOk z
  | .lst ds => cEs ds
  | .tup ds => cEs ds
  | _ => false
def cEs : List D → Bool
  | [] => true
  | d :: ds => cE d && cEs ds
end
mutual
/-- how deep -/
def dpD : D → Nat
  | .lst ds => dpDs ds + 1
  | .tup ds => dpDs ds + 1
  | _ => 0
def dpDs : List D → Nat
  | [] => 0
  | d :: ds => max (dpD d) (dpDs ds)
end
mutual
theorem cE_py : ∀ d : D, cE d = true → ∃ p, toPy d = some p ∧ p.canLay0 = true ∧ p.depth = dpD d
  | .non, _ => ⟨.none, rfl, rfl, rfl⟩
  | .int i, _ => ⟨.int i, rfl, rfl, rfl⟩
  | .str z, h => ⟨.str z, rfl, h, rfl⟩
  | .lst ds, h => by
    obtain ⟨ps, h1, h2, h3⟩ := cEs_py ds h
    exact ⟨.list ps, by simp only [toPy, h1]; rfl, by simp only [PyData.canLay0]; exact h2, by simp only [PyData.depth, dpD, h3]⟩
  | .tup ds, h => by
    obtain ⟨ps, h1, h2, h3⟩ := cEs_py ds h
    exact ⟨.tuple ps, by simp only [toPy, h1]; rfl, by simp only [PyData.canLay0]; exact h2, by simp only [PyData.depth, dpD, h3]⟩
  | .bl _, h => by simp [cE] at h
  | .pr _, h => by simp [cE] at h
  | .dic _, h => by simp [cE] at h
  | .dit _, h => by simp [cE] at h
  | .obj _ _, h => by simp [cE] at h
  | .feed, h => by simp [cE] at h
  | .lat _ _, h => by simp [cE] at h
  | .ref _, h => by simp [cE] at h
  | .exn _ _ _, h => by simp [cE] at h
  | .clo _ _ _ _ _, h => by simp [cE] at h
  | .oth _, h => by simp [cE] at h
theorem cEs_py : ∀ ds : List D, cEs ds = true → ∃ ps, toPyL ds = some ps ∧ PyData.canLayAll0 ps = true ∧ PyData.depthAll ps = dpDs ds
  | [], _ => ⟨[], rfl, rfl, rfl⟩
  | d :: ds, h => by
    simp only [cEs, Bool.and_eq_true] at h
    obtain ⟨p, h1, h2, h3⟩ := cE_py d h.1
    obtain ⟨ps, h4, h5, h6⟩ := cEs_py ds h.2
    exact ⟨p :: ps, by simp only [toPyL, h1, h4], by simp only [PyData.canLayAll0, h2, h5]; rfl, by simp only [PyData.depthAll, h3, h6, dpDs]⟩
end
theorem toPy_lst {ds : List D} {p : PyData} (h : toPy (.lst ds) = some p) : ∃ ps, toPyL ds = some ps ∧ p = .list ps := by
  simp only [toPy] at h
  cases e : toPyL ds with
  | none => rw [e] at h; cases h
  | some ps => rw [e] at h; cases h; exact ⟨ps, rfl, rfl⟩
theorem toPy_tup {ds : List D} {p : PyData} (h : toPy (.tup ds) = some p) : ∃ ps, toPyL ds = some ps ∧ p = .tuple ps := by
  simp only [toPy] at h
  cases e : toPyL ds with
  | none => rw [e] at h; cases h
  | some ps => rw [e] at h; cases h; exact ⟨ps, rfl, rfl⟩
theorem toPyL_cons {d : D} {ds : List D} {p : List PyData} (h : toPyL (d :: ds) = some p) : ∃ q qs, toPy d = some q ∧ toPyL ds = some qs ∧ p = q :: qs := by
  simp only [toPyL] at h
  cases e : toPy d with
  | none => rw [e] at h; cases h
  | some q => cases e2 : toPyL ds with
    | none => rw [e, e2] at h; cases h
    | some qs => rw [e, e2] at h; cases h; exact ⟨q, qs, rfl, rfl, rfl⟩
mutual
theorem cE_eqv : ∀ (x y : D) (p q : PyData), cE x = true → cE y = true → toPy x = some p → toPy y = some q → (PyData.eqv p q = true ↔ x = y)
  | .non, y, p, q, _, hy, hp, hq => by
    cases hp
    cases y with
    | lst ys => obtain ⟨ps, _, rfl⟩ := toPy_lst hq; simp [PyData.eqv]
    | tup ys => obtain ⟨ps, _, rfl⟩ := toPy_tup hq; simp [PyData.eqv]
    | _ => first | (cases hq; simp [PyData.eqv]; done) | (simp [cE] at hy; done)
  | .int i, y, p, q, _, hy, hp, hq => by
    cases hp
    cases y with
    | lst ys => obtain ⟨ps, _, rfl⟩ := toPy_lst hq; simp [PyData.eqv]
    | tup ys => obtain ⟨ps, _, rfl⟩ := toPy_tup hq; simp [PyData.eqv]
    | _ => first | (cases hq; simp [PyData.eqv]; done) | (simp [cE] at hy; done)
  | .str i, y, p, q, _, hy, hp, hq => by
    cases hp
    cases y with
    | lst ys => obtain ⟨ps, _, rfl⟩ := toPy_lst hq; simp [PyData.eqv]
    | tup ys => obtain ⟨ps, _, rfl⟩ := toPy_tup hq; simp [PyData.eqv]
    | _ => first | (cases hq; simp [PyData.eqv]; done) | (simp [cE] at hy; done)
  | .lst xs, y, p, q, hx, hy, hp, hq => by
    obtain ⟨ps, hp2, rfl⟩ := toPy_lst hp
    cases y with
    | lst ys =>
      obtain ⟨qs, hq2, rfl⟩ := toPy_lst hq
      simp only [PyData.eqv, D.lst.injEq]
      exact cEs_eqv xs ys ps qs (by simpa only [cE] using hx) (by simpa only [cE] using hy) hp2 hq2
    | tup ys => obtain ⟨qs, _, rfl⟩ := toPy_tup hq; simp [PyData.eqv]
    | _ => first | (cases hq; simp [PyData.eqv]; done) | (simp [cE] at hy; done)
  | .tup xs, y, p, q, hx, hy, hp, hq => by
    obtain ⟨ps, hp2, rfl⟩ := toPy_tup hp
    cases y with
    | tup ys =>
      obtain ⟨qs, hq2, rfl⟩ := toPy_tup hq
      simp only [PyData.eqv, D.tup.injEq]
      exact cEs_eqv xs ys ps qs (by simpa only [cE] using hx) (by simpa only [cE] using hy) hp2 hq2
    | lst ys => obtain ⟨qs, _, rfl⟩ := toPy_lst hq; simp [PyData.eqv]
    | _ => first | (cases hq; simp [PyData.eqv]; done) | (simp [cE] at hy; done)
  | .bl _, _, _, _, h, _, _, _ => by simp [cE] at h
  | .pr _, _, _, _, h, _, _, _ => by simp [cE] at h
  | .dic _, _, _, _, h, _, _, _ => by simp [cE] at h
  | .dit _, _, _, _, h, _, _, _ => by simp [cE] at h
  | .obj _ _, _, _, _, h, _, _, _ => by simp [cE] at h
  | .feed, _, _, _, h, _, _, _ => by simp [cE] at h
  | .lat _ _, _, _, _, h, _, _, _ => by simp [cE] at h
  | .ref _, _, _, _, h, _, _, _ => by simp [cE] at h
  | .exn _ _ _, _, _, _, h, _, _, _ => by simp [cE] at h
  | .clo _ _ _ _ _, _, _, _, h, _, _, _ => by simp [cE] at h
  | .oth _, _, _, _, h, _, _, _ => by simp [cE] at h
theorem cEs_eqv : ∀ (x y : List D) (p q : List PyData), cEs x = true → cEs y = true → toPyL x = some p → toPyL y = some q → (PyData.eqvAll p q = true ↔ x = y)
  | [], [], p, q, _, _, hp, hq => by cases hp; cases hq; simp [PyData.eqvAll]
  | [], y :: ys, p, q, _, _, hp, hq => by cases hp; obtain ⟨a, b, _, _, rfl⟩ := toPyL_cons hq; simp [PyData.eqvAll]
  | x :: xs, [], p, q, _, _, hp, hq => by cases hq; obtain ⟨a, b, _, _, rfl⟩ := toPyL_cons hp; simp [PyData.eqvAll]
  | x :: xs, y :: ys, p, q, hx, hy, hp, hq => by
    obtain ⟨a, as, h1, h2, rfl⟩ := toPyL_cons hp
    obtain ⟨b, bs, h3, h4, rfl⟩ := toPyL_cons hq
    simp only [cEs, Bool.and_eq_true] at hx hy
    simp only [PyData.eqvAll, Bool.and_eq_true, List.cons.injEq, cE_eqv x y a b hx.1 hy.1 h1 h3, cEs_eqv xs ys as bs hx.2 hy.2 h2 h4]
end
theorem cE_now {m : Mem} {x : D} (h : cE x = true) : now m x = x := by
  cases x with
  | ref p => simp [cE] at h
  | _ => rfl
/-- two plain data compared -/
theorem eqP_D {m : Mem} {x y : D} {k : Bool → Prop} {c : Bool} (hx : cE x = true) (hy : cE y = true) (dx : dpD x ≤ 64) (dy : dpD y ≤ 64) (hc : c = true ↔ x = y) (hk : k c) : eqP m x y k := by
  obtain ⟨p, h1, h2, h3⟩ := cE_py x hx
  obtain ⟨q, h4, h5, h6⟩ := cE_py y hy
  refine ⟨p, q, by rw [cE_now hx]; exact h1, by rw [cE_now hy]; exact h4, ?_, ?_, ?_⟩
  · simp only [SeqAt.shaped, h2, h3, Bool.true_and, decide_eq_true_eq]; exact dx
  · simp only [SeqAt.shaped, h5, h6, Bool.true_and, decide_eq_true_eq]; exact dy
  · have e := cE_eqv x y p q hx hy h1 h4
    have : PyData.eqv p q = c := by rw [Bool.eq_iff_iff]; exact e.trans hc.symm
    rw [this]; exact hk
theorem cEs_of {ds : List D} (h : ∀ d ∈ ds, cE d = true) : cEs ds = true := by
  induction ds with
  | nil => rfl
  | cons d ds ih => simp only [cEs, Bool.and_eq_true]; exact ⟨h d List.mem_cons_self, ih fun x hx => h x (List.mem_cons_of_mem _ hx)⟩
theorem dpDs_of {n : Nat} {ds : List D} (h : ∀ d ∈ ds, dpD d ≤ n) : dpDs ds ≤ n := by
  induction ds with
  | nil => simp [dpDs]
  | cons d ds ih => simp only [dpDs]; exact Nat.max_le.mpr ⟨h d List.mem_cons_self, ih fun x hx => h x (List.mem_cons_of_mem _ hx)⟩

/-! ### dicts of fractions by names -/
abbrev Nm := List Nat
abbrev Al := List (Nm × Rat)
def alD (ps : Al) : List (Key × D) := ps.map fun p => (.inr (S p.1), qD p.2)
/-- the value of a name -/
def getA (ps : Al) (n : Nm) : Option Rat := (ps.find? fun p => decide (p.1 = n)).map (·.2)
def putA (ps : Al) (n : Nm) (q : Rat) : Al := if (ps.any fun p => decide (p.1 = n)) = true then ps.map (fun p => if p.1 = n then (p.1, q) else p) else ps ++ [(n, q)]
theorem key_S {a b : Nm} : ((Sum.inr (S a) : Key) = .inr (S b)) ↔ a = b := ⟨fun h => S_inj (Sum.inr.inj h), fun h => by rw [h]⟩
theorem val_al (ps : Al) (n : Nm) : valD (alD ps) (.inr (S n)) = (getA ps n).map qD := by
  induction ps with
  | nil => rfl
  | cons p ps ih =>
    unfold valD alD getA at ih ⊢
    rw [List.map_cons, List.find?_cons, List.find?_cons]
    by_cases e : p.1 = n
    · simp [e]
    · have e' : ¬ ((Sum.inr (S p.1) : Key) = .inr (S n)) := fun z => e (key_S.mp z)
      simp only [e, e', decide_false]
      exact ih
theorem any_al (ps : Al) (n : Nm) : ((alD ps).any fun kv => decide (kv.1 = .inr (S n))) = ps.any fun p => decide (p.1 = n) := by
  unfold alD
  rw [List.any_map]
  congr 1
  funext p
  simp [key_S]
theorem put_al (ps : Al) (n : Nm) (q : Rat) : putD (alD ps) (.inr (S n)) (qD q) = alD (putA ps n q) := by
  unfold putD putA
  rw [any_al]
  split
  · unfold alD
    rw [List.map_map, List.map_map]
    congr 1
    funext p
    by_cases e : p.1 = n <;> simp [key_S, e]
  · simp [alD]
theorem getA_put (ps : Al) (n n' : Nm) (q : Rat) : getA (putA ps n q) n' = if n' = n then some q else getA ps n' := by
  unfold putA
  split
  · rename_i h
    induction ps with
    | nil => simp at h
    | cons p ps ih =>
      unfold getA at ih ⊢
      rw [List.map_cons, List.find?_cons]
      by_cases e : p.1 = n
      · by_cases e2 : n' = n
        · simp [e, e2]
        · have e3 : ¬ p.1 = n' := fun z => e2 (by rw [← z, e])
          have e4 : ¬ n = n' := fun z => e2 z.symm
          simp only [e, if_true, e4, decide_false, e2, if_false]
          rw [List.find?_cons]
          simp only [e3, decide_false]
          by_cases h2 : (ps.any fun p => decide (p.1 = n)) = true
          · have := ih h2; simp only [e2, if_false] at this; exact this
          · have : ps.map (fun p => if p.1 = n then (p.1, q) else p) = ps := by
              refine (List.map_congr_left fun x hx => ?_).trans (List.map_id ps)
              by_cases ex : x.1 = n
              · exact absurd (List.any_eq_true.mpr ⟨x, hx, by simp [ex]⟩) h2
              · simp [ex]
            rw [this]
      · have h2 : (ps.any fun p => decide (p.1 = n)) = true := by simpa [e] using h
        have := ih h2
        by_cases e3 : p.1 = n'
        · have e2 : ¬ n' = n := fun z => e (by rw [e3, z])
          simp [e, e3, e2]
        · simp only [e, if_false, e3, decide_false]
          rw [List.find?_cons]
          simp only [e3, decide_false]
          exact this
  · rename_i h
    unfold getA
    rw [List.find?_append]
    by_cases e2 : n' = n
    · subst e2
      have : (ps.find? fun p => decide (p.1 = n')) = none := by
        rw [List.find?_eq_none]
        intro x hx z
        exact h (List.any_eq_true.mpr ⟨x, hx, z⟩)
      simp [this]
    · have e4 : ¬ n = n' := fun z => e2 z.symm
      simp [e2, e4]
theorem putA_keys {ps : Al} {n : Nm} {q : Rat} (h : (ps.map (·.1)).Nodup) : ((putA ps n q).map (·.1)).Nodup := by
  unfold putA
  split
  · rw [List.map_map]
    have : ((fun p : Nm × Rat => p.1) ∘ fun p => if p.1 = n then (p.1, q) else p) = (·.1) := by funext p; by_cases e : p.1 = n <;> simp [e]
    rw [this]; exact h
  · rename_i hn
    rw [List.map_append, List.nodup_append]
    refine ⟨h, by simp, ?_⟩
    intro a ha b hb
    obtain ⟨p, hp, rfl⟩ := List.mem_map.mp ha
    simp at hb
    subst hb
    intro z
    exact hn (List.any_eq_true.mpr ⟨p, hp, by simp [z]⟩)
theorem putA_mem {ps : Al} {n : Nm} {q : Rat} {p : Nm × Rat} (h : p ∈ putA ps n q) : p = (n, q) ∨ p ∈ ps := by
  unfold putA at h
  split at h
  · obtain ⟨x, hx, e⟩ := List.mem_map.mp h
    split at e
    · rename_i e2; left; rw [← e, e2]
    · right; rw [← e]; exact hx
  · rcases List.mem_append.mp h with h | h
    · exact .inr h
    · exact .inl (List.mem_singleton.mp h)
theorem putA_new {ps : Al} {n : Nm} {q : Rat} (h : n ∉ ps.map (·.1)) : putA ps n q = ps ++ [(n, q)] := by
  unfold putA
  rw [if_neg]
  intro z
  obtain ⟨x, hx, e⟩ := List.any_eq_true.mp z
  exact h (List.mem_map.mpr ⟨x, hx, by simpa using e⟩)
/-! ### texts read symbol by symbol (plain) -/
def cut (l : List Nat) (i j : Nat) : List Nat := (l.drop i).take (j - i)
def sg (neg : Bool) (q : Rat) : Rat := if neg = true then -q else q
def addA (ps : Al) (w : Nm) (q : Rat) : Al := putA ps w ((getA ps w).getD 0 + q)
/-! the law's reading: a list of symbols, a walk over it -/
/-- the state of the law's sum -/
structure RS where
  ps : Al
  side : Int
  sign : Int
  rate : Rat
  held : Bool
  /-- the first relation -/
  rel : Option (List Nat)
def RS.put (r : RS) (w : Nm) : RS := { r with ps := addA r.ps w (((r.side * r.sign : Int) : Rat) * r.rate), rate := 1, held := false }
def RS.flush (r : RS) : RS := if r.held = true then r.put [] else r
/-! ### the program's reading is the law's -/
/-- after a term: the law's sum, the number not yet put -/
def After (R : RS) (w : Nm) (q : Rat) (R1 : RS) : Prop := R1.flush = ⟨addA R.ps w (((R.side * R.sign : Int) : Rat) * q), R.side, R.sign, 1, false, R.rel⟩
/-! ### .. loops, sums, both sides -/
abbrev KNd (ps : Al) : Prop := (ps.map (·.1)).Nodup
theorem addA_nd {ps : Al} {w : Nm} {q : Rat} (h : KNd ps) : KNd (addA ps w q) := putA_keys h
/-- the law's dict as the sides' dicts -/
structure Cmb (C : Al → Al) (sd : Int) : Prop where
  add : ∀ ps w q, KNd ps → C (addA ps w q) = addA (C ps) w ((sd : Rat) * q)
theorem Cmb.id : Cmb (fun ps => ps) 1 := ⟨fun ps w q _ => by rw [show ((1 : Int) : Rat) * q = q by grind]⟩
def sgI (neg : Bool) : Int := if neg = true then -1 else 1
theorem sg_I (neg : Bool) (q : Rat) : ((sgI neg : Int) : Rat) * q = sg neg q := by
  cases neg <;> simp [sgI, sg] <;> grind
theorem After.c {C : Al → Al} {sd : Int} {R R1 : RS} {w : Nm} {q : Rat} {ps : Al} {neg : Bool} {rl : Option (List Nat)} (hC : Cmb C sd) (hp : KNd ps) (h1 : R.ps = C ps) (h2 : R.side = sd) (h3 : R.sign = sgI neg) (h4 : R.rel = rl) (h : After R w q R1) : R1.flush = ⟨C (addA ps w (sg neg q)), sd, sgI neg, 1, false, rl⟩ := by
  unfold After at h
  rw [h, h1, h2, h3, h4, hC.add _ _ _ hp, ← sg_I, Rat.intCast_mul]
  congr 2
  grind
/-! both sides in one -/
def keysU (left right : Al) : List Nm := left.map (·.1) ++ (right.map (·.1)).filter fun n => !(left.map (·.1)).contains n
def subA (left right : Al) : Al := (keysU left right).map fun n => (n, (getA left n).getD 0 - (getA right n).getD 0)
theorem getA_none {ps : Al} {n : Nm} (h : n ∉ ps.map (·.1)) : getA ps n = none := by
  unfold getA
  rw [List.find?_eq_none.mpr]
  · rfl
  · intro x hx z
    exact h (List.mem_map.mpr ⟨x, hx, by simpa using z⟩)
theorem getA_mem {ps : Al} (h : KNd ps) {p : Nm × Rat} (hp : p ∈ ps) : getA ps p.1 = some p.2 := by
  induction ps with
  | nil => cases hp
  | cons x ps ih =>
    have h' := List.nodup_cons.mp h
    unfold getA at ih ⊢
    rw [List.find?_cons]
    rcases List.mem_cons.mp hp with rfl | hp
    · simp
    · have : ¬ x.1 = p.1 := fun z => h'.1 (List.mem_map.mpr ⟨p, hp, z.symm⟩)
      simp only [this, decide_false]
      exact ih h'.2 hp
theorem putA_k {ps : Al} {n : Nm} {q : Rat} : (putA ps n q).map (·.1) = if n ∈ ps.map (·.1) then ps.map (·.1) else ps.map (·.1) ++ [n] := by
  by_cases h : n ∈ ps.map (·.1)
  · rw [if_pos h]
    unfold putA
    rw [if_pos (by obtain ⟨x, hx, e⟩ := List.mem_map.mp h; exact List.any_eq_true.mpr ⟨x, hx, by simpa using e⟩), List.map_map]
    refine List.map_congr_left fun p hp => ?_
    show (if p.1 = n then (p.1, q) else p).1 = p.1
    split <;> rfl
  · rw [if_neg h, putA_new h]; simp
theorem subA_keys (left right : Al) : (subA left right).map (·.1) = keysU left right := by
  unfold subA; rw [List.map_map]; exact List.map_id _
theorem keysU_nd {left right : Al} (hl : KNd left) (hr : KNd right) : (keysU left right).Nodup := by
  unfold keysU
  rw [List.nodup_append]
  refine ⟨hl, hr.filter _, fun a ha b hb e => ?_⟩
  subst e
  have := (List.mem_filter.mp hb).2
  simp [List.contains_iff_mem, ha] at this
theorem getA_map {ks : List Nm} {f : Nm → Rat} {n : Nm} : getA (ks.map fun k => (k, f k)) n = if n ∈ ks then some (f n) else none := by
  induction ks with
  | nil => rfl
  | cons k ks ih =>
    unfold getA at ih ⊢
    rw [List.map_cons, List.find?_cons]
    by_cases e : k = n
    · subst e; simp
    · have e' : ¬ n = k := fun z => e z.symm
      simp only [e, decide_false, List.mem_cons, e', false_or]
      exact ih
/-- two dicts with the same keys in order and the same values -/
theorem al_ext {ps qs : Al} (hk : ps.map (·.1) = qs.map (·.1)) (hp : KNd ps) (hv : ∀ n ∈ ps.map (·.1), getA ps n = getA qs n) : ps = qs := by
  have hq : KNd qs := by show (qs.map (·.1)).Nodup; rw [← hk]; exact hp
  have e : ∀ rs : Al, KNd rs → rs = (rs.map (·.1)).map fun n => (n, (getA rs n).getD 0) := fun rs hr => by
    rw [List.map_map]
    refine ((List.map_congr_left fun p hp => ?_).trans (List.map_id rs)).symm
    show (p.1, (getA rs p.1).getD 0) = p
    rw [getA_mem hr hp]
    rfl
  rw [e ps hp, e qs hq, ← hk]
  exact List.map_congr_left fun n hn => by rw [hv n hn]
theorem subA_add {left right : Al} {w : Nm} {q : Rat} (hl : KNd left) (hr : KNd right) : subA left (addA right w q) = addA (subA left right) w (((-1 : Int) : Rat) * q) := by
  have m1 : ∀ n, n ∈ keysU left right ↔ n ∈ left.map (·.1) ∨ n ∈ right.map (·.1) := fun n => by
    unfold keysU
    rw [List.mem_append, List.mem_filter]
    by_cases z : n ∈ left.map (·.1)
    · simp [z]
    · simp [z]
  have m2 : ∀ n, n ∈ keysU left (addA right w q) ↔ n ∈ left.map (·.1) ∨ n ∈ right.map (·.1) ∨ n = w := fun n => by
    unfold keysU addA
    rw [List.mem_append, List.mem_filter, putA_k]
    by_cases z : n ∈ left.map (·.1)
    · simp [z]
    · have z' : (!(left.map (·.1)).contains n) = true := by simpa using z
      rw [z']
      split
      · rename_i hw
        constructor
        · rintro (h | h)
          · exact .inl h
          · exact .inr (.inl h.1)
        · rintro (h | h | h)
          · exact .inl h
          · exact .inr ⟨h, rfl⟩
          · subst h; exact .inr ⟨hw, rfl⟩
      · rw [List.mem_append, List.mem_singleton]
        constructor
        · rintro (h | h)
          · exact .inl h
          · exact .inr h.1
        · rintro (h | h)
          · exact .inl h
          · exact .inr ⟨h, rfl⟩
  have c1 : w ∈ left.map (·.1) ++ (right.map (·.1)).filter (fun n => !(left.map (·.1)).contains n) ↔ w ∈ left.map (·.1) ∨ w ∈ right.map (·.1) := m1 w
  have nd1 : KNd (subA left (addA right w q)) := by show ((subA left (addA right w q)).map (·.1)).Nodup; rw [subA_keys]; exact keysU_nd hl (addA_nd hr)
  refine al_ext ?_ nd1 fun n hn => ?_
  · rw [subA_keys]
    show _ = (putA (subA left right) w _).map (·.1)
    rw [putA_k, subA_keys]
    unfold keysU addA
    rw [putA_k]
    by_cases hw : w ∈ right.map (·.1)
    · rw [if_pos hw, if_pos]
      exact c1.mpr (.inr hw)
    · rw [if_neg hw, List.filter_append]
      by_cases hw2 : w ∈ left.map (·.1)
      · rw [if_pos (c1.mpr (.inl hw2))]
        have : (List.filter (fun n => !(left.map (·.1)).contains n) [w]) = [] := by simp [hw2]
        rw [this, List.append_nil]
      · rw [if_neg (fun z => (c1.mp z).elim hw2 hw)]
        have : (List.filter (fun n => !(left.map (·.1)).contains n) [w]) = [w] := by simp [hw2]
        rw [this, List.append_assoc]
  · rw [subA_keys] at hn
    have g1 : ∀ (r : Al), getA (subA left r) n = if n ∈ keysU left r then some ((getA left n).getD 0 - (getA r n).getD 0) else none := fun r => by unfold subA; exact getA_map
    have g2 : getA (addA (subA left right) w (((-1 : Int) : Rat) * q)) n = if n = w then some ((getA (subA left right) w).getD 0 + ((-1 : Int) : Rat) * q) else getA (subA left right) n := getA_put _ _ _ _
    rw [g1, if_pos hn, g2]
    have g3 : getA (addA right w q) n = if n = w then some ((getA right w).getD 0 + q) else getA right n := getA_put _ _ _ _
    rw [g3]
    by_cases e : n = w
    · subst e
      rw [if_pos rfl, if_pos rfl, g1]
      have h0 : (-1 : Int) * 1 = -1 := rfl
      have hneg : ((-1 : Int) : Rat) * q = -q := by grind
      rw [hneg]
      by_cases hk : n ∈ keysU left right
      · rw [if_pos hk]
        show some (_ - ((getA right n).getD 0 + q)) = some ((_ - _) + -q)
        congr 1
        grind
      · rw [if_neg hk]
        rw [m1] at hk
        rw [getA_none (fun z => hk (.inl z)), getA_none (fun z => hk (.inr z))]
        show some ((0 : Rat) - (0 + q)) = some (0 + -q)
        congr 1
        grind
    · rw [if_neg e, if_neg e, g1]
      rw [m2] at hn
      rw [if_pos]
      rw [m1]
      rcases hn with h | h | h
      · exact .inl h
      · exact .inr h
      · exact absurd h e
theorem Cmb.sub {left : Al} (h : KNd left) : Cmb (subA left) (-1) := ⟨fun ps w q hp => subA_add h hp⟩
/-! ### why: an exception told by its tag and its field -/
/- lent by k02 -/
/- def _law_field, slots 0 _law_e -/
/- lent by k02 -/
/- def _law_why, slots 0 _law_ask 1 _law_told 2 _law_e -/
/-! ### why: any exception of one field, told; no exception -/
/-! the fields -/
/-! plain data compared with itself -/
mutual
def cB : D → Bool
  | .non => true
  | .bl _ => true
  | .int _ => true
  | .str z => PyData.strOk z
  | .lst ds => cBs ds
  | .tup ds => cBs ds
  | _ => false
def cBs : List D → Bool
  | [] => true
  | d :: ds => cB d && cBs ds
end
mutual
theorem cB_py : ∀ d : D, cB d = true → ∃ p, toPy d = some p ∧ p.canLay0 = true ∧ p.depth = dpD d ∧ PyData.eqv p p = true
  | .non, _ => ⟨.none, rfl, rfl, rfl, rfl⟩
  | .bl i, _ => ⟨.bool i, rfl, rfl, rfl, by simp [PyData.eqv]⟩
  | .int i, _ => ⟨.int i, rfl, rfl, rfl, by simp [PyData.eqv]⟩
  | .str z, h => ⟨.str z, rfl, h, rfl, by simp [PyData.eqv]⟩
  | .lst ds, h => by
    obtain ⟨ps, h1, h2, h3, h4⟩ := cBs_py ds h
    exact ⟨.list ps, by simp only [toPy, h1]; rfl, by simp only [PyData.canLay0]; exact h2, by simp only [PyData.depth, dpD, h3], by simp only [PyData.eqv]; exact h4⟩
  | .tup ds, h => by
    obtain ⟨ps, h1, h2, h3, h4⟩ := cBs_py ds h
    exact ⟨.tuple ps, by simp only [toPy, h1]; rfl, by simp only [PyData.canLay0]; exact h2, by simp only [PyData.depth, dpD, h3], by simp only [PyData.eqv]; exact h4⟩
  | .pr _, h => by simp [cB] at h
  | .dic _, h => by simp [cB] at h
  | .dit _, h => by simp [cB] at h
  | .obj _ _, h => by simp [cB] at h
  | .feed, h => by simp [cB] at h
  | .lat _ _, h => by simp [cB] at h
  | .ref _, h => by simp [cB] at h
  | .exn _ _ _, h => by simp [cB] at h
  | .clo _ _ _ _ _, h => by simp [cB] at h
  | .oth _, h => by simp [cB] at h
theorem cBs_py : ∀ ds : List D, cBs ds = true → ∃ ps, toPyL ds = some ps ∧ PyData.canLayAll0 ps = true ∧ PyData.depthAll ps = dpDs ds ∧ PyData.eqvAll ps ps = true
  | [], _ => ⟨[], rfl, rfl, rfl, rfl⟩
  | d :: ds, h => by
    simp only [cBs, Bool.and_eq_true] at h
    obtain ⟨p, h1, h2, h3, h7⟩ := cB_py d h.1
    obtain ⟨ps, h4, h5, h6, h8⟩ := cBs_py ds h.2
    exact ⟨p :: ps, by simp only [toPyL, h1, h4], by simp only [PyData.canLayAll0, h2, h5]; rfl, by simp only [PyData.depthAll, h3, h6, dpDs], by simp only [PyData.eqvAll, h7, h8]; rfl⟩
end
theorem cB_now {m : Mem} {x : D} (h : cB x = true) : now m x = x := by
  cases x with
  | ref p => simp [cB] at h
  | _ => rfl
theorem eqP_refl {m : Mem} {x : D} {k : Bool → Prop} (hx : cB x = true) (dx : dpD x ≤ 64) (hk : k true) : eqP m x x k := by
  obtain ⟨p, h1, h2, h3, h4⟩ := cB_py x hx
  have sh : SeqAt.shaped p = true := by simp only [SeqAt.shaped, h2, h3, Bool.true_and, decide_eq_true_eq]; exact dx
  exact ⟨p, p, by rw [cB_now hx]; exact h1, by rw [cB_now hx]; exact h1, sh, sh, by rw [h4]; exact hk⟩
theorem cBs_of {ds : List D} (h : ∀ d ∈ ds, cB d = true) : cBs ds = true := by
  induction ds with
  | nil => rfl
  | cons d ds ih => simp only [cBs, Bool.and_eq_true]; exact ⟨h d List.mem_cons_self, ih fun x hx => h x (List.mem_cons_of_mem _ hx)⟩

/-! ### SumReader walked -/
theorem lk_source {a b c d e f : D} : List.lookup ("source" : Str) [(("source" : Str), a), (("spot" : Str), b), (("start" : Str), c), (("kind" : Str), d), (("worth" : Str), e), (("word" : Str), f)] = some a := by simp [List.lookup]
theorem pt_source {a b c d e f x : D} : putFD ("source" : Str) x [(("source" : Str), a), (("spot" : Str), b), (("start" : Str), c), (("kind" : Str), d), (("worth" : Str), e), (("word" : Str), f)] = [(("source" : Str), x), (("spot" : Str), b), (("start" : Str), c), (("kind" : Str), d), (("worth" : Str), e), (("word" : Str), f)] := by simp only [putFD, if_true, if_false]
theorem lk_spot {a b c d e f : D} : List.lookup ("spot" : Str) [(("source" : Str), a), (("spot" : Str), b), (("start" : Str), c), (("kind" : Str), d), (("worth" : Str), e), (("word" : Str), f)] = some b := by simp [List.lookup, show (("spot" : Str) == ("source" : Str)) = false by decide +kernel]
theorem pt_spot {a b c d e f x : D} : putFD ("spot" : Str) x [(("source" : Str), a), (("spot" : Str), b), (("start" : Str), c), (("kind" : Str), d), (("worth" : Str), e), (("word" : Str), f)] = [(("source" : Str), a), (("spot" : Str), x), (("start" : Str), c), (("kind" : Str), d), (("worth" : Str), e), (("word" : Str), f)] := by simp only [putFD, show ¬ (("source" : Str) = ("spot" : Str)) by decide +kernel, if_true, if_false]
theorem lk_start {a b c d e f : D} : List.lookup ("start" : Str) [(("source" : Str), a), (("spot" : Str), b), (("start" : Str), c), (("kind" : Str), d), (("worth" : Str), e), (("word" : Str), f)] = some c := by simp [List.lookup, show (("start" : Str) == ("source" : Str)) = false by decide +kernel, show (("start" : Str) == ("spot" : Str)) = false by decide +kernel]
theorem pt_start {a b c d e f x : D} : putFD ("start" : Str) x [(("source" : Str), a), (("spot" : Str), b), (("start" : Str), c), (("kind" : Str), d), (("worth" : Str), e), (("word" : Str), f)] = [(("source" : Str), a), (("spot" : Str), b), (("start" : Str), x), (("kind" : Str), d), (("worth" : Str), e), (("word" : Str), f)] := by simp only [putFD, show ¬ (("source" : Str) = ("start" : Str)) by decide +kernel, show ¬ (("spot" : Str) = ("start" : Str)) by decide +kernel, if_true, if_false]
theorem lk_kind {a b c d e f : D} : List.lookup ("kind" : Str) [(("source" : Str), a), (("spot" : Str), b), (("start" : Str), c), (("kind" : Str), d), (("worth" : Str), e), (("word" : Str), f)] = some d := by simp [List.lookup, show (("kind" : Str) == ("source" : Str)) = false by decide +kernel, show (("kind" : Str) == ("spot" : Str)) = false by decide +kernel, show (("kind" : Str) == ("start" : Str)) = false by decide +kernel]
theorem pt_kind {a b c d e f x : D} : putFD ("kind" : Str) x [(("source" : Str), a), (("spot" : Str), b), (("start" : Str), c), (("kind" : Str), d), (("worth" : Str), e), (("word" : Str), f)] = [(("source" : Str), a), (("spot" : Str), b), (("start" : Str), c), (("kind" : Str), x), (("worth" : Str), e), (("word" : Str), f)] := by simp only [putFD, show ¬ (("source" : Str) = ("kind" : Str)) by decide +kernel, show ¬ (("spot" : Str) = ("kind" : Str)) by decide +kernel, show ¬ (("start" : Str) = ("kind" : Str)) by decide +kernel, if_true, if_false]
theorem lk_worth {a b c d e f : D} : List.lookup ("worth" : Str) [(("source" : Str), a), (("spot" : Str), b), (("start" : Str), c), (("kind" : Str), d), (("worth" : Str), e), (("word" : Str), f)] = some e := by simp [List.lookup, show (("worth" : Str) == ("source" : Str)) = false by decide +kernel, show (("worth" : Str) == ("spot" : Str)) = false by decide +kernel, show (("worth" : Str) == ("start" : Str)) = false by decide +kernel, show (("worth" : Str) == ("kind" : Str)) = false by decide +kernel]
theorem pt_worth {a b c d e f x : D} : putFD ("worth" : Str) x [(("source" : Str), a), (("spot" : Str), b), (("start" : Str), c), (("kind" : Str), d), (("worth" : Str), e), (("word" : Str), f)] = [(("source" : Str), a), (("spot" : Str), b), (("start" : Str), c), (("kind" : Str), d), (("worth" : Str), x), (("word" : Str), f)] := by simp only [putFD, show ¬ (("source" : Str) = ("worth" : Str)) by decide +kernel, show ¬ (("spot" : Str) = ("worth" : Str)) by decide +kernel, show ¬ (("start" : Str) = ("worth" : Str)) by decide +kernel, show ¬ (("kind" : Str) = ("worth" : Str)) by decide +kernel, if_true, if_false]
theorem lk_word {a b c d e f : D} : List.lookup ("word" : Str) [(("source" : Str), a), (("spot" : Str), b), (("start" : Str), c), (("kind" : Str), d), (("worth" : Str), e), (("word" : Str), f)] = some f := by simp [List.lookup, show (("word" : Str) == ("source" : Str)) = false by decide +kernel, show (("word" : Str) == ("spot" : Str)) = false by decide +kernel, show (("word" : Str) == ("start" : Str)) = false by decide +kernel, show (("word" : Str) == ("kind" : Str)) = false by decide +kernel, show (("word" : Str) == ("worth" : Str)) = false by decide +kernel]
theorem pt_word {a b c d e f x : D} : putFD ("word" : Str) x [(("source" : Str), a), (("spot" : Str), b), (("start" : Str), c), (("kind" : Str), d), (("worth" : Str), e), (("word" : Str), f)] = [(("source" : Str), a), (("spot" : Str), b), (("start" : Str), c), (("kind" : Str), d), (("worth" : Str), e), (("word" : Str), x)] := by simp only [putFD, show ¬ (("source" : Str) = ("word" : Str)) by decide +kernel, show ¬ (("spot" : Str) = ("word" : Str)) by decide +kernel, show ¬ (("start" : Str) = ("word" : Str)) by decide +kernel, show ¬ (("kind" : Str) = ("word" : Str)) by decide +kernel, show ¬ (("worth" : Str) = ("word" : Str)) by decide +kernel, if_true, if_false]
theorem ln_run_end {a b c d e f : D} : List.lookup ("run_end" : Str) [(("source" : Str), a), (("spot" : Str), b), (("start" : Str), c), (("kind" : Str), d), (("worth" : Str), e), (("word" : Str), f)] = none := by simp [List.lookup, show (("run_end" : Str) == ("source" : Str)) = false by decide +kernel, show (("run_end" : Str) == ("spot" : Str)) = false by decide +kernel, show (("run_end" : Str) == ("start" : Str)) = false by decide +kernel, show (("run_end" : Str) == ("kind" : Str)) = false by decide +kernel, show (("run_end" : Str) == ("worth" : Str)) = false by decide +kernel, show (("run_end" : Str) == ("word" : Str)) = false by decide +kernel]
theorem ln_step {a b c d e f : D} : List.lookup ("step" : Str) [(("source" : Str), a), (("spot" : Str), b), (("start" : Str), c), (("kind" : Str), d), (("worth" : Str), e), (("word" : Str), f)] = none := by simp [List.lookup, show (("step" : Str) == ("source" : Str)) = false by decide +kernel, show (("step" : Str) == ("spot" : Str)) = false by decide +kernel, show (("step" : Str) == ("start" : Str)) = false by decide +kernel, show (("step" : Str) == ("kind" : Str)) = false by decide +kernel, show (("step" : Str) == ("worth" : Str)) = false by decide +kernel, show (("step" : Str) == ("word" : Str)) = false by decide +kernel]
theorem ln_term {a b c d e f : D} : List.lookup ("term" : Str) [(("source" : Str), a), (("spot" : Str), b), (("start" : Str), c), (("kind" : Str), d), (("worth" : Str), e), (("word" : Str), f)] = none := by simp [List.lookup, show (("term" : Str) == ("source" : Str)) = false by decide +kernel, show (("term" : Str) == ("spot" : Str)) = false by decide +kernel, show (("term" : Str) == ("start" : Str)) = false by decide +kernel, show (("term" : Str) == ("kind" : Str)) = false by decide +kernel, show (("term" : Str) == ("worth" : Str)) = false by decide +kernel, show (("term" : Str) == ("word" : Str)) = false by decide +kernel]
theorem ln_whole_sum {a b c d e f : D} : List.lookup ("whole_sum" : Str) [(("source" : Str), a), (("spot" : Str), b), (("start" : Str), c), (("kind" : Str), d), (("worth" : Str), e), (("word" : Str), f)] = none := by simp [List.lookup, show (("whole_sum" : Str) == ("source" : Str)) = false by decide +kernel, show (("whole_sum" : Str) == ("spot" : Str)) = false by decide +kernel, show (("whole_sum" : Str) == ("start" : Str)) = false by decide +kernel, show (("whole_sum" : Str) == ("kind" : Str)) = false by decide +kernel, show (("whole_sum" : Str) == ("worth" : Str)) = false by decide +kernel, show (("whole_sum" : Str) == ("word" : Str)) = false by decide +kernel]
local macro_rules | `(tactic| walk_at "rd") => `(tactic| try simp only [ln_run_end, ln_step, ln_term, ln_whole_sum, lk_source, pt_source, lk_spot, pt_spot, lk_start, pt_start, lk_kind, pt_kind, lk_worth, pt_worth, lk_word, pt_word, onO_1])
/- lent by k08 -/
/- def SumReader.run_end, slots 0 self 1 signs 2 end -/
/- lent by k08 -/
/- def SumReader.step, slots 0 self 1 sign 2 end 3 found 4 digits -/
/-! ### SumReader: making, terms, sums -/
local macro_rules | `(tactic| walk_at "rd") => `(tactic| try simp only [ln_run_end, ln_step, ln_term, ln_whole_sum, lk_source, pt_source, lk_spot, pt_spot, lk_start, pt_start, lk_kind, pt_kind, lk_worth, pt_worth, lk_word, pt_word, onO_1])
/- lent by k08 -/
/- def SumReader.__init__, slots 0 self 1 text -/
/- lent by k08 -/
/- def SumReader.term, slots 0 self 1 found 2 is_negative 3 rate 4 name 5 has_name -/
/-! ### SumReader: bits of what is read; whole sums -/
local macro_rules | `(tactic| walk_at "rd") => `(tactic| try simp only [ln_run_end, ln_step, ln_term, ln_whole_sum, lk_source, pt_source, lk_spot, pt_spot, lk_start, pt_start, lk_kind, pt_kind, lk_worth, pt_worth, lk_word, pt_word, onO_1])
/- lent by k08 -/
/- def SumReader.whole_sum, slots 0 self 1 found 2 is_negative -/
/-! ### terms -/
abbrev Tm := List Nat × (Int × Int)
abbrev tmD (t : Tm) : D := .tup [.str (S t.1), frD t.2]
abbrev tsD (ts : List Tm) : D := .tup (ts.map tmD)
abbrev tieD (p : List Tm × (Int × Int)) : D := .tup [tsD p.1, frD p.2]
def Asc (ts : List Tm) : Prop := ts.Pairwise fun a b => a.1 < b.1
/-- one or two terms of the names ws, in order -/
def TsOk (ws : List (List Nat)) (ts : List Tm) : Prop := (ts.length = 1 ∨ ts.length = 2) ∧ (∀ t ∈ ts, t.1 ∈ ws ∧ t.2 ∈ rates) ∧ Asc ts
def ph__law_terms : P0 := fun ds m k => ∃ (ws : List (List Nat)) (pr : Int), ds = [.feed, wsD ws, .int pr] ∧ 1 ≤ ws.length ∧ ws.length ≤ 1000 ∧ ws.Nodup ∧ ∀ ts, TsOk ws ts → k (tsD ts) m
theorem l__law_terms : ∀ ds m k, ph__law_terms ds m k → ds.length = 3 := by rintro _ m k ⟨_, _, rfl, _⟩; rfl
/- def _law_terms, slots 0 _law_feed_here 1 _law_words_here 2 _law_pairs 3 _law_one 4 _law_chosen 5 _law_name -/
@[reducible] def v__law_terms : VS :=
  (vSeq (vSet 3 (vCall ph__law_draw (vCons (vVar 0) (vCons (vCB oLen (vCons (vVar 1) vNil)) vNil))))
    (vSeq (vSet 4 (vLstO (vCons (vOp oIx (vVar 1) (vVar 3)) vNil)))
    (vSeq (vIfS (vAnd (tV (vOp oGt (vCB oLen (vCons (vVar 1) vNil)) (vC (.int 1)))) (tV (vOp oLt (vCall ph__law_draw (vCons (vVar 0) (vCons (vC (.int 4)) vNil))) (vVar 2)))) (vDrop (vBM "list" oAppend (vVar 4) (vCons (vOp oIx (vVar 1) (vOp oMod (vCB oInt (vCons (vOp oAdd (vOp oAdd (vVar 3) (vC (.int 1))) (vCall ph__law_draw (vCons (vVar 0) (vCons (vOp oSub (vCB oLen (vCons (vVar 1) vNil)) (vC (.int 1))) vNil)))) vNil)) (vCB oLen (vCons (vVar 1) vNil)))) vNil))) vNext)
    (vRet (vCB oTuple (vCons (vLc (vWalk (vCB oSortS (vCons (vVar 4) vNil))) (gN 5) vYes (vTup (vCons (vVar 5) (vCons (vCall ph__law_rate (vCons (vVar 0) vNil)) vNil))) [5]) vNil))))))


theorem lt_of_not {a b : List Nat} (ne : a ≠ b) (h : (!Spec.ltCps b a) = true) : a < b := by
  have h : Spec.ltCps b a = false := by simpa using h
  rw [ltCps_eq] at h
  have h : ¬ b < a := of_decide_eq_false h
  rcases Std.lt_trichotomy a b with q | q | q
  · exact q
  · exact absurd q ne
  · exact absurd q h
theorem perm1 {x : Str} {ys : List Str} (h : ys.Perm [x]) : ys = [x] := List.perm_singleton.mp h
theorem perm2 {x y : Str} {ys : List Str} (h : ys.Perm [x, y]) : ys = [x, y] ∨ ys = [y, x] := by
  have l := h.length_eq
  match ys, l with
  | [u, v], _ =>
    have hu : u ∈ [x, y] := h.mem_iff.mp List.mem_cons_self
    rcases List.mem_cons.mp hu with rfl | hu
    · have := List.Perm.cons_inv h
      rw [perm1 this]
      exact .inl rfl
    · rw [List.mem_singleton] at hu
      subst hu
      have := List.Perm.cons_inv (h.trans (List.Perm.swap u x []))
      rw [perm1 this]
      exact .inr rfl
/-- sorted names of one or two -/
theorem sorted_names {cs : List (List Nat)} {ys : List Str} (hc : (∃ a, cs = [a]) ∨ ∃ a b, a ≠ b ∧ cs = [a, b]) (hp : ys.Perm (cs.map S)) (hs : sortedS ys = true) : ∃ zs : List (List Nat), ys = zs.map S ∧ zs.length = cs.length ∧ (∀ z ∈ zs, z ∈ cs) ∧ zs.Pairwise fun a b => a < b := by
  rcases hc with ⟨a, rfl⟩ | ⟨a, b, ne, rfl⟩
  · exact ⟨[a], perm1 hp, rfl, fun z h => h, by simp⟩
  · rcases perm2 hp with rfl | rfl
    · have h1 : (!Spec.ltCps b a && risingS (S b) []) = true := hs
      have h1 : (!Spec.ltCps b a) = true := by simpa [risingS] using h1
      exact ⟨[a, b], rfl, rfl, fun z h => h, by simpa using lt_of_not ne h1⟩
    · have h1 : (!Spec.ltCps a b && risingS (S a) []) = true := hs
      have h1 : (!Spec.ltCps a b) = true := by simpa [risingS] using h1
      exact ⟨[b, a], rfl, rfl, fun z h => by simpa [or_comm] using h, by simpa using lt_of_not (Ne.symm ne) h1⟩
theorem nd_inj {l : List (List Nat)} (nd : l.Nodup) {i j : Nat} (hi : i < l.length) (hj : j < l.length) (e : l[i] = l[j]) : i = j := by
  rcases Nat.lt_trichotomy i j with h | h | h
  · exact absurd e (List.pairwise_iff_getElem.mp nd i j hi hj h)
  · exact h
  · exact absurd e.symm (List.pairwise_iff_getElem.mp nd j i hj hi h)
theorem tgt2 {i j : Nat} {x y : D} {s : SL} {k : SL → Prop} (h : k ((s.set i (some x)).set j (some y))) : gTp 2 (gCn (gN i) (gCn (gN j) gNl)) (.tup [x, y]) s k := by
  walk_at "vc"
  exact h
theorem ws_at {ws : List (List Nat)} {i : Int} (h0 : 0 ≤ i) (h1 : i < ws.length) : ∃ h : i.toNat < ws.length, L2.atI (ws.map fun w => D.str (S w)) i = some (.str (S ws[i.toNat])) := by
  have hl : i.toNat < ws.length := by omega
  exact ⟨hl, atI_of (j := i.toNat) (by omega) (by rw [List.getElem?_map, List.getElem?_eq_getElem hl]; rfl)⟩
theorem mod_ne {o q n : Int} (h0 : 0 ≤ o) (h1 : o < n) (q0 : 0 ≤ q) (q1 : q < n - 1) : ((o + 1 + q).fmod n) ≠ o := fun e => by
  rw [Int.fmod_eq_emod_of_nonneg _ (by omega)] at e
  have m := Int.emod_add_mul_ediv (o + 1 + q) n
  rw [e] at m
  have lt : 0 < n * ((o + 1 + q) / n) := by omega
  have lt2 : n * ((o + 1 + q) / n) < n := by omega
  have p1 : 0 < (o + 1 + q) / n := by
    rcases Int.lt_or_le 0 ((o + 1 + q) / n) with z | z
    · exact z
    · have := Int.mul_le_mul_of_nonneg_left z (show (0 : Int) ≤ n by omega)
      omega
  have p2 : n * 1 ≤ n * ((o + 1 + q) / n) := Int.mul_le_mul_of_nonneg_left (by omega) (by omega)
  omega
/-- the terms of chosen names -/
theorem terms_end {ws cs : List (List Nat)} {m : Mem} {k : KD} {s : SL} (h5 : 5 < s.length) (h0 : s[0]? = some (some .feed)) (hc : (∃ a, cs = [a]) ∨ ∃ a b, a ≠ b ∧ cs = [a, b]) (hm : ∀ c ∈ cs, c ∈ ws) (hk : ∀ ts, TsOk ws ts → k (tsD ts) m)
    {ys : List Str} (hp : ys.Perm (cs.map S)) (hs : sortedS ys = true) : (ys.map D.str).length ≤ 1000000 ∧ lcV (gN 5) vYes (vTup (vCons (vVar 5) (vCons (vCall ph__law_rate (vCons (vVar 0) vNil)) vNil))) s (ys.map D.str) [] m fun es m2 => k (.tup es) m2 := by
  have hcl : cs.length = 1 ∨ cs.length = 2 := by
    rcases hc with ⟨a, rfl⟩ | ⟨a, b, _, rfl⟩
    · exact .inl rfl
    · exact .inr rfl
  obtain ⟨zs, rfl, hzl, hzm, hza⟩ := sorted_names hc hp hs
  refine ⟨by simp; omega, ?_⟩
  rw [List.map_map]
  refine lc_rel (fun (x : List Nat) y => ∃ r ∈ rates, y = tmD (x, r)) zs [] (fun x hx k' _ hk => ?_) fun ds hds => ?_
  · walk_at "vc"
    have e5 : (s.set 5 (some (D.str (S x))))[5]? = some (some (D.str (S x))) := List.getElem?_set_self h5
    have e0 : (s.set 5 (some (D.str (S x))))[0]? = some (some .feed) := by
      rw [List.getElem?_set_ne (by decide)]
      exact h0
    simp only [Function.comp, e5, e0]
    walk_at "vc"
    exact ⟨rfl, fun p hp => hk _ ⟨p, hp, rfl⟩⟩
  · obtain ⟨ts, rfl, hts⟩ : ∃ ts : List Tm, ds = ts.map tmD ∧ Al2 (fun x (t : Tm) => t.1 = x ∧ t.2 ∈ rates) zs ts := by
      clear hp hs hzl hzm hza
      induction hds with
      | nil => exact ⟨[], rfl, .nil⟩
      | cons q _ ih =>
        obtain ⟨r, hr, rfl⟩ := q
        obtain ⟨ts, rfl, h⟩ := ih
        exact ⟨(_, r) :: ts, rfl, .cons ⟨rfl, hr⟩ h⟩
    refine hk ts ⟨?_, fun t ht => ?_, ?_⟩
    · rw [hts.len, hzl]; exact hcl
    · obtain ⟨x, hx, e, hr⟩ := hts.mem t ht
      exact ⟨by rw [e]; exact hm _ (hzm _ hx), hr⟩
    · unfold Asc
      have e : ts.map (·.1) = zs := by
        clear hp hs hzl hzm hza hds
        induction hts with
        | nil => rfl
        | cons q _ ih => rw [List.map_cons, ih, q.1]
      rw [← e, List.pairwise_map] at hza
      exact hza
theorem w__law_terms : ∀ ds m k, ph__law_terms ds m k → v__law_terms (dstart 6 ds) m (endV k) := by
  rintro _ m k ⟨ws, pr, rfl, h1, h2, nd, hk⟩
  unfold v__law_terms
  simp only [ph__law_draw]
  walk_at "vc"
  rw [List.length_map]
  refine ⟨pre_s (by omega) (by omega), fun o o0 o1 => ?_⟩
  obtain ⟨hl, e1⟩ := ws_at o0 o1
  have fin : ∀ (cs : List (List Nat)) (p : Addr), ((∃ a, cs = [a]) ∨ ∃ a b, a ≠ b ∧ cs = [a, b]) → (∀ c ∈ cs, c ∈ ws) → m p = none → (cs.map S).length < 64 ∧ ∀ ys : List Str, ys.Perm (cs.map S) → sortedS ys = true → (ys.map D.str).length ≤ 1000000 ∧
      lcV (gN 5) vYes (vTup (vCons (vVar 5) (vCons (vCall ph__law_rate (vCons (vVar 0) vNil)) vNil))) [some D.feed, some (wsD ws), some (D.int pr), some (D.int o), some (D.ref p), none] (ys.map D.str) [] (mset m p (.lst ((cs.map S).map D.str))) fun es m2 => ∃ m'', MLe m'' m2 ∧ k (D.tup es) m'' := fun cs p hc hm hp => by
    refine ⟨?_, fun ys hy hs => terms_end (k := fun d m2 => ∃ m'', MLe m'' m2 ∧ k d m'') (s := [some D.feed, some (wsD ws), some (D.int pr), some (D.int o), some (D.ref p), none]) (ws := ws) (by simp) rfl hc hm (fun ts h => ⟨m, MLe.fresh hp, hk ts h⟩) hy hs⟩
    rw [List.length_map]
    rcases hc with ⟨a, rfl⟩ | ⟨a, b, _, rfl⟩ <;> simp
  walk_at "vc"
  simp only [e1]
  walk_at "vc"
  intro p hp
  have one := fin [ws[o.toNat]] p (.inl ⟨_, rfl⟩) (fun c hc => by rw [List.mem_singleton] at hc; rw [hc]; exact List.getElem_mem hl) hp
  have a1 : ∀ cs : List (List Nat), strDs (cs.map fun c => .str (S c)) = some (cs.map S) := fun cs => by
    rw [show (cs.map fun c => D.str (S c)) = (cs.map S).map D.str by rw [List.map_map]; rfl, strDs_map]
  refine itP (fun hw => ⟨pre_s (by omega) (by omega), fun r r0 r1 => ?_⟩) fun _ => ?_
  · walk_at "vc"
    refine itP (fun _ => ⟨pre_s (by omega) (by omega), fun q q0 q1 => ?_⟩) fun _ => ?_
    · have b := fmod_nn (a := o + 1 + q) (b := (ws.length : Int)) (by omega)
      obtain ⟨hl2, e2⟩ := ws_at b.1 b.2
      walk_at "vc"
      simp only [e2]
      walk_at "vc"
      refine ⟨by omega, by decide, ?_⟩
      rw [show [D.str (S ws[o.toNat]), D.str (S ws[((o + 1 + q).fmod (ws.length : Int)).toNat])] = [ws[o.toNat], ws[((o + 1 + q).fmod (ws.length : Int)).toNat]].map fun c => D.str (S c) from rfl, a1]
      exact fin [ws[o.toNat], ws[((o + 1 + q).fmod (ws.length : Int)).toNat]] p (.inr ⟨_, _, fun e => by
        have e := nd_inj nd hl hl2 e
        exact mod_ne o0 o1 q0 (by omega) (by omega), rfl⟩) (fun c hc => by
        rcases List.mem_cons.mp hc with rfl | hc
        · exact List.getElem_mem hl
        · rw [List.mem_singleton] at hc; rw [hc]; exact List.getElem_mem hl2) hp
    · rw [show [D.str (S ws[o.toNat])] = [ws[o.toNat]].map fun c => D.str (S c) from rfl, a1]
      exact one
  · walk_at "vc"
    rw [show [D.str (S ws[o.toNat])] = [ws[o.toNat]].map fun c => D.str (S c) from rfl, a1]
    exact one

/-! ### names in order -/
def leN (a b : Nm) : Bool := !decide (b < a)
def srt (ns : List Nm) : List Nm := ns.mergeSort leN
theorem leN_tot (a b : Nm) : (leN a b || leN b a) = true := by
  unfold leN
  rcases Std.lt_trichotomy a b with q | q | q
  · have : ¬ b < a := fun z => absurd (List.lt_trans q z) (List.lt_irrefl a)
    simp [this]
  · subst q; simp [List.lt_irrefl]
  · have : ¬ a < b := fun z => absurd (List.lt_trans q z) (List.lt_irrefl b)
    simp [this]
theorem leN_tr (a b c : Nm) (h1 : leN a b = true) (h2 : leN b c = true) : leN a c = true := by
  unfold leN at *
  simp only [Bool.not_eq_true', decide_eq_false_iff_not] at *
  intro z
  rcases Std.lt_trichotomy a b with q | q | q
  · exact h2 (List.lt_trans z q)
  · subst q; exact h2 z
  · exact h1 q
theorem leN_anti {a b : Nm} (h1 : leN a b = true) (h2 : leN b a = true) : a = b := by
  unfold leN at *
  simp only [Bool.not_eq_true', decide_eq_false_iff_not] at *
  rcases Std.lt_trichotomy a b with q | q | q
  · exact absurd q h2
  · exact q
  · exact absurd q h1
theorem rising_pw : ∀ (ys : List Nm) (a : Nm), risingS (S a) (ys.map S) = true → (a :: ys).Pairwise fun x y => leN x y = true
  | [], a, _ => by simp
  | b :: ys, a, h => by
    have h' : (!Spec.ltCps b a && risingS (S b) (ys.map S)) = true := by simpa [risingS] using h
    simp only [Bool.and_eq_true] at h'
    have ih := rising_pw ys b h'.2
    have hab : leN a b = true := by
      have := h'.1
      rw [ltCps_eq] at this
      exact this
    refine List.pairwise_cons.mpr ⟨fun c hc => ?_, ih⟩
    rcases List.mem_cons.mp hc with rfl | hc
    · exact hab
    · exact leN_tr _ _ _ hab ((List.pairwise_cons.mp ih).1 c hc)
theorem strs_map {ns : List Nm} {ys : List Str} (h : ys.Perm (ns.map S)) : ∃ zs : List Nm, ys = zs.map S := by
  refine ⟨ys.map fun z => z.cps.toList, ?_⟩
  rw [List.map_map]
  refine ((List.map_congr_left fun z hz => ?_).trans (List.map_id ys)).symm
  obtain ⟨l, rfl⟩ := S_of z
  rfl
theorem perm_S {a b : List Nm} (h : (a.map S).Perm (b.map S)) : a.Perm b := by
  have := h.map fun z : Str => z.cps.toList
  rw [List.map_map, List.map_map] at this
  simpa [Function.comp_def] using this
/-- texts in order are the names in order -/
theorem srt_uniq {ns : List Nm} {ys : List Str} (hp : ys.Perm (ns.map S)) (hs : sortedS ys = true) : ys = (srt ns).map S := by
  obtain ⟨zs, rfl⟩ := strs_map hp
  have p1 : zs.Perm (srt ns) := (perm_S hp).trans (List.mergeSort_perm ns leN).symm
  have s1 : zs.Pairwise fun x y => leN x y = true := by
    cases zs with
    | nil => exact List.Pairwise.nil
    | cons a zs => exact rising_pw zs a hs
  have s2 : (srt ns).Pairwise fun x y => leN x y = true := List.pairwise_mergeSort leN_tr leN_tot ns
  congr 1
  exact List.Perm.eq_of_pairwise (fun a b _ _ h1 h2 => leN_anti h1 h2) s1 s2 p1
theorem srt_mem {ns : List Nm} {n : Nm} : n ∈ srt ns ↔ n ∈ ns := (List.mergeSort_perm ns leN).mem_iff
/-! ### scaling of ties, plain -/
def gcdL (zs : List Int) : Nat := zs.foldl (fun g z => Int.gcd (g : Int) z) 0
theorem gcdL_go (A : Int) : ∀ (zs : List Int) (g : Nat), (zs.map (· * A)).foldl (fun g z => Int.gcd (g : Int) z) (g * A.natAbs) = zs.foldl (fun g z => Int.gcd (g : Int) z) g * A.natAbs
  | [], g => rfl
  | z :: zs, g => by
    have e : Int.gcd ((g * A.natAbs : Nat) : Int) (z * A) = Int.gcd (g : Int) z * A.natAbs := by
      show Nat.gcd (((g * A.natAbs : Nat) : Int).natAbs) (z * A).natAbs = Nat.gcd ((g : Int).natAbs) z.natAbs * A.natAbs
      rw [Int.natAbs_mul, Int.natAbs_natCast, Int.natAbs_natCast, Nat.gcd_mul_right]
    rw [List.map_cons, List.foldl_cons, List.foldl_cons, e]
    exact gcdL_go A zs _
theorem gcdL_mul (A : Int) (zs : List Int) : gcdL (zs.map (· * A)) = gcdL zs * A.natAbs := by
  have := gcdL_go A zs 0
  rw [Nat.zero_mul] at this
  exact this
/-- c makes the rates whole, with nothing in common -/
def Sc (rs : List (Int × Int)) (c : Int × Int) : Prop := 0 < c.1 ∧ 0 < c.2 ∧ ∃ zs : List Int, gcdL zs = 1 ∧ Al2 (fun (r : Int × Int) z => z * (r.2 * c.2) = r.1 * c.1) rs zs
theorem cross {r s c c' f : Int × Int} {z z' : Int} (h : z * (r.2 * c.2) = r.1 * c.1) (h' : z' * (f.2 * c'.2) = f.1 * c'.1) (hf : f.1 * (r.2 * s.2) = r.1 * s.1 * f.2) (r0 : r.2 ≠ 0) (f0 : f.2 ≠ 0) :
    z' * (c.1 * s.2 * c'.2) = z * (c.2 * s.1 * c'.1) := by
  have k : z' * (c.1 * s.2 * c'.2) * (f.2 * r.2) = z * (c.2 * s.1 * c'.1) * (f.2 * r.2) := by
    have e1 : z' * (c.1 * s.2 * c'.2) * (f.2 * r.2) = (z' * (f.2 * c'.2)) * (c.1 * s.2 * r.2) := by grind
    have e2 : z * (c.2 * s.1 * c'.1) * (f.2 * r.2) = (z * (r.2 * c.2)) * (s.1 * c'.1 * f.2) := by grind
    rw [e1, e2, h, h']
    grind
  exact Int.eq_of_mul_eq_mul_right (Int.mul_ne_zero f0 r0) k
theorem Sc.scaled {rs fs : List (Int × Int)} {s c c' : Int × Int} (hs1 : 0 < s.1) (hs2 : 0 < s.2) (al : Al2 (fun (r f : Int × Int) => f.1 * (r.2 * s.2) = r.1 * s.1 * f.2 ∧ r.2 ≠ 0 ∧ f.2 ≠ 0) rs fs) (h : Sc rs c) (h' : Sc fs c') : c.1 * s.2 * c'.2 = c.2 * s.1 * c'.1 := by
  obtain ⟨c1, c2, zs, hz, az⟩ := h
  obtain ⟨d1, d2, ys, hy, ay⟩ := h'
  have e : ys.map (· * (c.1 * s.2 * c'.2)) = zs.map (· * (c.2 * s.1 * c'.1)) := by
    clear hz hy
    induction al generalizing zs ys with
    | nil => cases az; cases ay; rfl
    | cons q _ ih =>
      cases az with
      | cons q1 t1 => cases ay with
        | cons q2 t2 =>
          rw [List.map_cons, List.map_cons, ih _ t1 _ t2, cross q1 q2 q.1 q.2.1 q.2.2]
  have e2 := congrArg gcdL e
  rw [gcdL_mul, gcdL_mul, hz, hy, Nat.one_mul, Nat.one_mul] at e2
  have p1 : 0 < c.1 * s.2 * c'.2 := Int.mul_pos (Int.mul_pos c1 hs2) d2
  have p2 : 0 < c.2 * s.1 * c'.1 := Int.mul_pos (Int.mul_pos c2 hs1) d1
  omega
theorem fmul_val {f g : Int × Int} (h1 : f.2 ≠ 0) (h2 : g.2 ≠ 0) : (fmul f g).1 * (f.2 * g.2) = f.1 * g.1 * (fmul f g).2 := Fr.low_eq (Int.mul_ne_zero h1 h2)
theorem fmul_ok {f g : Int × Int} (h1 : f.2 ≠ 0) (h2 : g.2 ≠ 0) : Fr.Ok (fmul f g) := Fr.low_ok (Int.mul_ne_zero h1 h2)
/-! ### the scale of terms -/
def uStep (u : Int) (t : Tm) : Int := (u * t.2.2).fdiv (Int.gcd u t.2.2 : Int)
def scU (ts : List Tm) : Int := ts.foldl uStep 1
def pStep (u : Int) (p : Int) (t : Tm) : Int := (Int.gcd p (t.2.1 * u.fdiv t.2.2) : Int)
def scP (ts : List Tm) : Int := ts.foldl (pStep (scU ts)) 0
def scale (ts : List Tm) : Int × Int := Fr.low (scU ts) (scP ts)
/-- terms to be scaled -/
structure TOk (ts : List Tm) : Prop where
  ne : ts ≠ []
  len : ts.length ≤ 2
  rt : ∀ t ∈ ts, Fr.Ok t.2 ∧ t.2.1 ≠ 0 ∧ Bd 900 t.2
theorem uStep_spec {u : Int} {t : Tm} (hu : 0 < u) (ht : 0 < t.2.2) : 0 < uStep u t ∧ u ∣ uStep u t ∧ t.2.2 ∣ uStep u t ∧ uStep u t ≤ u * t.2.2 := by
  have hg : 0 < Int.gcd u t.2.2 := Int.gcd_pos_of_ne_zero_left _ (by omega)
  obtain ⟨a, ha⟩ := Int.gcd_dvd_left (a := u) (b := t.2.2)
  obtain ⟨b, hb⟩ := Int.gcd_dvd_right (a := u) (b := t.2.2)
  have e : uStep u t = u * b := by
    unfold uStep
    refine Fr.fdiv_of_mul (by omega) ?_
    generalize ((Int.gcd u t.2.2 : Nat) : Int) = g at *
    rw [hb]; grind
  have e2 : uStep u t = t.2.2 * a := by
    rw [e]
    generalize ((Int.gcd u t.2.2 : Nat) : Int) = g at *
    rw [ha, hb]; grind
  have gp : 0 < ((Int.gcd u t.2.2 : Nat) : Int) := by omega
  have bp : 0 < b := by
    rcases Int.lt_or_le 0 b with z | z
    · exact z
    · have := Int.mul_nonpos_of_nonneg_of_nonpos (Int.le_of_lt gp) z
      omega
  refine ⟨by rw [e]; exact Int.mul_pos hu bp, ⟨b, e⟩, ⟨a, e2⟩, ?_⟩
  rw [e]
  refine Int.mul_le_mul_of_nonneg_left ?_ (by omega)
  have : 1 * b ≤ ((Int.gcd u t.2.2 : Nat) : Int) * b := Int.mul_le_mul_of_nonneg_right (by omega) (by omega)
  omega
theorem uFold : ∀ (ts : List Tm) (u : Int), 0 < u → (∀ t ∈ ts, 0 < t.2.2) → 0 < ts.foldl uStep u ∧ u ∣ ts.foldl uStep u ∧ ∀ t ∈ ts, t.2.2 ∣ ts.foldl uStep u
  | [], u, hu, _ => ⟨hu, Int.dvd_refl u, fun t h => by cases h⟩
  | t :: ts, u, hu, ht => by
    obtain ⟨h1, h2, h3, _⟩ := uStep_spec hu (ht t List.mem_cons_self)
    obtain ⟨k1, k2, k3⟩ := uFold ts (uStep u t) h1 fun x hx => ht x (List.mem_cons_of_mem _ hx)
    refine ⟨k1, Int.dvd_trans h2 k2, fun x hx => ?_⟩
    rcases List.mem_cons.mp hx with rfl | hx
    · exact Int.dvd_trans h3 k2
    · exact k3 x hx
theorem pFold (u : Int) : ∀ (ts : List Tm) (g : Nat), ts.foldl (pStep u) (g : Int) = (((ts.map fun t => t.2.1 * u.fdiv t.2.2).foldl (fun g z => Int.gcd (g : Int) z) g : Nat) : Int)
  | [], g => rfl
  | t :: ts, g => by
    rw [List.foldl_cons, List.map_cons, List.foldl_cons]
    exact pFold u ts _
theorem scP_eq (ts : List Tm) : scP ts = (gcdL (ts.map fun t => t.2.1 * (scU ts).fdiv t.2.2) : Int) := pFold (scU ts) ts 0
theorem gcdL_dvd : ∀ (zs : List Int) (g : Nat), (((zs.foldl (fun g z => Int.gcd (g : Int) z) g : Nat) : Int) ∣ (g : Int)) ∧ ∀ z ∈ zs, (((zs.foldl (fun g z => Int.gcd (g : Int) z) g : Nat) : Int) ∣ z)
  | [], g => ⟨Int.dvd_refl _, fun z h => by cases h⟩
  | x :: zs, g => by
    obtain ⟨h1, h2⟩ := gcdL_dvd zs (Int.gcd (g : Int) x)
    refine ⟨Int.dvd_trans h1 (Int.gcd_dvd_left ..), fun z hz => ?_⟩
    rcases List.mem_cons.mp hz with rfl | hz
    · exact Int.dvd_trans h1 (Int.gcd_dvd_right ..)
    · exact h2 z hz
theorem scale_sc {ts : List Tm} (h : TOk ts) : Sc (ts.map (·.2)) (scale ts) ∧ 0 < scU ts ∧ 0 < scP ts := by
  have hd : ∀ t ∈ ts, 0 < t.2.2 := fun t ht => (h.rt t ht).1.1
  obtain ⟨u0, _, u1⟩ := uFold ts 1 (by decide) hd
  have u0 : 0 < scU ts := u0
  have u1 : ∀ t ∈ ts, t.2.2 ∣ scU ts := u1
  have p1 : ∀ z ∈ (ts.map fun t => t.2.1 * (scU ts).fdiv t.2.2), scP ts ∣ z := by rw [scP_eq]; exact (gcdL_dvd _ 0).2
  have hq : ∀ t ∈ ts, t.2.2 * (scU ts).fdiv t.2.2 = scU ts := fun t ht => by
    obtain ⟨q, hq⟩ := u1 t ht
    rw [Fr.fdiv_of_mul (q := q) (by have := hd t ht; omega) (by rw [hq, Int.mul_comm])]
    exact hq.symm
  have p0 : 0 < scP ts := by
    have n0 : 0 ≤ scP ts := by rw [scP_eq]; omega
    rcases Int.lt_or_le 0 (scP ts) with z | z
    · exact z
    · have e : scP ts = 0 := by omega
      obtain ⟨t, r, rfl⟩ : ∃ t r, ts = t :: r := by
        cases ts with
        | nil => exact absurd rfl h.ne
        | cons t r => exact ⟨t, r, rfl⟩
      have d := p1 (t.2.1 * (scU (t :: r)).fdiv t.2.2) (List.mem_map.mpr ⟨t, List.mem_cons_self, rfl⟩)
      rw [e] at d
      have z := Int.zero_dvd.mp d
      have q := hq t List.mem_cons_self
      rcases Int.mul_eq_zero.mp z with z | z
      · exact absurd z (h.rt t List.mem_cons_self).2.1
      · rw [z, Int.mul_zero] at q
        omega
  refine ⟨?_, u0, p0⟩
  have ok := Fr.low_ok (a := scU ts) (b := scP ts) (by omega)
  have ev := Fr.low_eq (a := scU ts) (b := scP ts) (by omega)
  have c1 : 0 < (scale ts).1 := by
    have l : 0 < scU ts * (scale ts).2 := Int.mul_pos u0 ok.1
    have ev : (scale ts).1 * scP ts = scU ts * (scale ts).2 := ev
    rw [← ev] at l
    rcases Int.lt_or_le 0 (scale ts).1 with z | z
    · exact z
    · have := Int.mul_nonpos_of_nonpos_of_nonneg z (Int.le_of_lt p0)
      omega
  refine ⟨c1, ok.1, ts.map fun t => (t.2.1 * (scU ts).fdiv t.2.2) / scP ts, ?_, ?_⟩
  · have e : (ts.map fun t => (t.2.1 * (scU ts).fdiv t.2.2) / scP ts).map (· * scP ts) = ts.map fun t => t.2.1 * (scU ts).fdiv t.2.2 := by
      rw [List.map_map]
      refine List.map_congr_left fun t ht => ?_
      exact Int.ediv_mul_cancel (p1 _ (List.mem_map.mpr ⟨t, ht, rfl⟩))
    have e2 := gcdL_mul (scP ts) (ts.map fun t => (t.2.1 * (scU ts).fdiv t.2.2) / scP ts)
    rw [e] at e2
    have e3 : scP ts = (gcdL (ts.map fun t => t.2.1 * (scU ts).fdiv t.2.2) : Int) := scP_eq ts
    generalize gcdL (ts.map fun t => t.2.1 * (scU ts).fdiv t.2.2) = G at *
    generalize gcdL (ts.map fun t => (t.2.1 * (scU ts).fdiv t.2.2) / scP ts) = g at *
    have gG : (scP ts).natAbs = G := by omega
    rw [gG] at e2
    have Gp : 0 < G := by omega
    exact Nat.eq_of_mul_eq_mul_right Gp (by rw [Nat.one_mul]; exact e2.symm)
  · have gen : ∀ l : List Tm, (∀ t ∈ l, t ∈ ts) → Al2 (fun (r : Int × Int) z => z * (r.2 * (scale ts).2) = r.1 * (scale ts).1) (l.map (·.2)) (l.map fun t => (t.2.1 * (scU ts).fdiv t.2.2) / scP ts) := fun l => by
      induction l with
      | nil => exact fun _ => .nil
      | cons t l ih =>
        intro hl
        refine .cons ?_ (ih fun x hx => hl x (List.mem_cons_of_mem _ hx))
        have ht := hl t List.mem_cons_self
        obtain ⟨z, hz⟩ := p1 _ (List.mem_map.mpr ⟨t, ht, rfl⟩)
        have ez : (t.2.1 * (scU ts).fdiv t.2.2) / scP ts = z := by rw [hz]; exact Int.mul_ediv_cancel_left _ (by omega)
        show (t.2.1 * (scU ts).fdiv t.2.2) / scP ts * (t.2.2 * (scale ts).2) = t.2.1 * (scale ts).1
        rw [ez]
        have q := hq t ht
        have ev : (scale ts).1 * scP ts = scU ts * (scale ts).2 := ev
        generalize (scU ts).fdiv t.2.2 = w at *
        refine Int.eq_of_mul_eq_mul_right (show scP ts ≠ 0 by omega) ?_
        have e1 : z * (t.2.2 * (scale ts).2) * scP ts = (scP ts * z) * (t.2.2 * (scale ts).2) := by grind
        have e2 : t.2.1 * (scale ts).1 * scP ts = t.2.1 * ((scale ts).1 * scP ts) := by grind
        rw [e1, e2, ← hz, ev, ← q]
        grind
    exact gen ts fun _ h => h
/-! the walk -/
theorem uStep_bd {u : Int} {t : Tm} {n : Nat} (hu : 0 < u) (bu : u.natAbs < 2 ^ n) (ht : 0 < t.2.2) (bt : Bd 900 t.2) : (uStep u t).natAbs < 2 ^ (n + 900) := by
  obtain ⟨h1, _, _, h4⟩ := uStep_spec hu ht
  have := abs_mul bu bt.2
  omega
theorem fdiv_abs {u b : Int} (hu : 0 < u) (hb : 0 < b) : (u.fdiv b).natAbs ≤ u.natAbs := by
  rw [Int.fdiv_eq_ediv_of_nonneg _ (by omega)]
  have h1 : 0 ≤ u / b := Int.ediv_nonneg (by omega) (by omega)
  have h2 : u / b ≤ u := Int.ediv_le_self _ (by omega)
  omega
theorem div_bd {b : Int} (h0 : b ≠ 0) (h : b.natAbs < 2 ^ 3000) : DivOk b := div_ok h0 (Nat.lt_of_lt_of_le h (Nat.pow_le_pow_right (by decide) (by decide)))
theorem gcd_bd {u b : Int} {n : Nat} (h0 : b ≠ 0) (h : b.natAbs < 2 ^ n) : (Int.gcd u b : Int) ≠ 0 ∧ ((Int.gcd u b : Nat) : Int).natAbs < 2 ^ n := by
  have h1 : 0 < Int.gcd u b := Int.gcd_pos_of_ne_zero_right _ h0
  have h2 : Int.gcd u b ≤ b.natAbs := Nat.le_of_dvd (by omega) (Nat.gcd_dvd_right _ _)
  exact ⟨by omega, by rw [Int.natAbs_natCast]; omega⟩
/- lent by k06 -/
/- def scale_of, slots 0 terms 1 under 2 part 3 name 4 rate -/
def ph__law_plus : P0 := ph_add
def ph__law_by : P0 := ph_multiply
theorem l__law_plus : ∀ ds m k, ph__law_plus ds m k → ds.length = 2 := l_two
theorem l__law_by : ∀ ds m k, ph__law_by ds m k → ds.length = 2 := l_two
/- def _law_plus, slots 0 _law_one 1 _law_two -/
@[reducible] def v__law_plus : VS :=
  (vRet (vCall ph__law_low (vCons (vOp oAdd (vOp oMul (vOp oIx (vVar 0) (vC (.int 0))) (vOp oIx (vVar 1) (vC (.int 1)))) (vOp oMul (vOp oIx (vVar 1) (vC (.int 0))) (vOp oIx (vVar 0) (vC (.int 1))))) (vCons (vOp oMul (vOp oIx (vVar 0) (vC (.int 1))) (vOp oIx (vVar 1) (vC (.int 1)))) vNil))))
/- def _law_by, slots 0 _law_one 1 _law_two -/
@[reducible] def v__law_by : VS :=
  (vRet (vCall ph__law_low (vCons (vOp oMul (vOp oIx (vVar 0) (vC (.int 0))) (vOp oIx (vVar 1) (vC (.int 0)))) (vCons (vOp oMul (vOp oIx (vVar 0) (vC (.int 1))) (vOp oIx (vVar 1) (vC (.int 1)))) vNil))))


theorem w__law_plus : ∀ ds m k, ph__law_plus ds m k → v__law_plus (dstart 2 ds) m (endP k) := w_add
theorem w__law_by : ∀ ds m k, ph__law_by ds m k → v__law_by (dstart 2 ds) m (endP k) := w_multiply

/-! ### reduced ties -/
def red (T : List Tm × (Int × Int)) : List Tm × (Int × Int) := (T.1.map fun t => (t.1, fmul t.2 (scale T.1)), fmul T.2 (scale T.1))
theorem uFold_bd {n : Nat} : ∀ (ts : List Tm) (u : Int) (j : Nat), 0 < u → u.natAbs < 2 ^ j → (∀ t ∈ ts, 0 < t.2.2 ∧ Bd n t.2) → (ts.foldl uStep u).natAbs < 2 ^ (j + n * ts.length)
  | [], u, j, _, h, _ => by simpa using h
  | t :: ts, u, j, hu, h, ht => by
    obtain ⟨t0, tb⟩ := ht t List.mem_cons_self
    obtain ⟨h1, _, _, h4⟩ := uStep_spec hu t0
    have b := abs_mul h tb.2
    have b2 : (uStep u t).natAbs < 2 ^ (j + n) := by omega
    have := uFold_bd ts (uStep u t) (j + n) h1 b2 fun x hx => ht x (List.mem_cons_of_mem _ hx)
    rw [List.foldl_cons, List.length_cons, Nat.mul_succ]
    rw [show j + (n * ts.length + n) = j + n + n * ts.length by omega]
    exact this
theorem scale_bd {ts : List Tm} {n L : Nat} (h : TOk ts) (hb : ∀ t ∈ ts, Bd n t.2) (hL : ts.length ≤ L) : Bd (n * (L + 1) + 1) (scale ts) := by
  obtain ⟨_, u0, p0⟩ := scale_sc h
  have bu : (scU ts).natAbs < 2 ^ (1 + n * ts.length) := uFold_bd ts 1 1 (by decide) (by decide) fun t ht => ⟨(h.rt t ht).1.1, hb t ht⟩
  have bu' : (scU ts).natAbs < 2 ^ (n * L + 1) := Nat.lt_of_lt_of_le bu (Nat.pow_le_pow_right (by decide) (by have := Nat.mul_le_mul_left n hL; omega))
  obtain ⟨t, r, rfl⟩ : ∃ t r, ts = t :: r := by
    cases ts with
    | nil => exact absurd rfl h.ne
    | cons t r => exact ⟨t, r, rfl⟩
  have ht : t ∈ t :: r := List.mem_cons_self
  have d : scP (t :: r) ∣ t.2.1 * (scU (t :: r)).fdiv t.2.2 := by
    rw [scP_eq]
    exact (gcdL_dvd _ 0).2 _ (List.mem_map.mpr ⟨t, ht, rfl⟩)
  have bm := abs_mul (hb t ht).1 (Nat.lt_of_le_of_lt (fdiv_abs u0 (h.rt t ht).1.1) bu')
  have m0 : t.2.1 * (scU (t :: r)).fdiv t.2.2 ≠ 0 := by
    refine Int.mul_ne_zero (h.rt t ht).2.1 fun z => ?_
    obtain ⟨_, _, u1⟩ := uFold (t :: r) 1 (by decide) fun t ht => (h.rt t ht).1.1
    obtain ⟨q, hq⟩ := u1 t ht
    have hq : scU (t :: r) = t.2.2 * q := hq
    rw [Fr.fdiv_of_mul (q := q) (by have := (h.rt t ht).1.1; omega) (by rw [hq, Int.mul_comm])] at z
    rw [z, Int.mul_zero] at hq
    omega
  have ple := Int.natAbs_dvd_natAbs.mpr d
  have ple2 := Nat.le_of_dvd (by omega) ple
  have la := Fr.low_abs (a := scU (t :: r)) (b := scP (t :: r)) (by omega)
  have e1 : n + (n * L + 1) = n * (L + 1) + 1 := by rw [Nat.mul_succ]; omega
  rw [e1] at bm
  have e2 : (2 : Nat) ^ (n * L + 1) ≤ 2 ^ (n * (L + 1) + 1) := Nat.pow_le_pow_right (by decide) (by rw [Nat.mul_succ]; omega)
  exact ⟨Nat.lt_of_le_of_lt la.1 (by omega), Nat.lt_of_le_of_lt la.2 (by omega)⟩
/-- a tie to be reduced -/
def ph_reduced : P0 := fun ds m k => ∃ T : List Tm × (Int × Int), ds = [tieD T] ∧ TOk T.1 ∧ T.2.2 ≠ 0 ∧ Bd 2900 T.2 ∧ k (tieD (red T)) m
theorem l_reduced : ∀ ds m k, ph_reduced ds m k → ds.length = 1 := by rintro _ m k ⟨_, rfl, _⟩; rfl
def ph__law_brief : P0 := ph_reduced
theorem l__law_brief : ∀ ds m k, ph__law_brief ds m k → ds.length = 1 := l_reduced
/- lent by k06 -/
/- def reduced, slots 0 tie 1 scale 2 name 3 rate -/
@[reducible] def v__law_brief_b1 : VS :=
  (vSet 2 (vCall ph__law_gcd (vCons (vVar 2) (vCons (vOp oMul (vOp oIx (vVar 4) (vC (.int 0))) (vOp oFdiv (vVar 1) (vOp oIx (vVar 4) (vC (.int 1))))) vNil))))
@[reducible] def v__law_brief_b2 : VS :=
  (vSet 1 (vOp oFdiv (vOp oMul (vVar 1) (vOp oIx (vVar 4) (vC (.int 1)))) (vCall ph__law_gcd (vCons (vVar 1) (vCons (vOp oIx (vVar 4) (vC (.int 1))) vNil)))))
/- def _law_brief, slots 0 _law_tie 1 _law_whole 2 _law_part 3 _law_name 4 _law_rate_here 5 _law_scale -/
@[reducible] def v__law_brief : VS :=
  (vSeq (vAsg (vTup (vCons (vC (.int 1)) (vCons (vC (.int 0)) vNil))) (gTp 2 (gCn (gN 1) (gCn (gN 2) gNl))))
    (vSeq (vFor (vWalk (vOp oIx (vVar 0) (vC (.int 0)))) (gTp 2 (gCn (gN 3) (gCn (gN 4) gNl))) v__law_brief_b2)
    (vSeq (vFor (vWalk (vOp oIx (vVar 0) (vC (.int 0)))) (gTp 2 (gCn (gN 3) (gCn (gN 4) gNl))) v__law_brief_b1)
    (vSeq (vSet 5 (vCall ph__law_low (vCons (vVar 1) (vCons (vVar 2) vNil))))
    (vRet (vTup (vCons (vCB oTuple (vCons (vLc (vWalk (vOp oIx (vVar 0) (vC (.int 0)))) (gTp 2 (gCn (gN 3) (gCn (gN 4) gNl))) vYes (vTup (vCons (vVar 3) (vCons (vCall ph__law_by (vCons (vVar 4) (vCons (vVar 5) vNil))) vNil))) [3, 4]) vNil)) (vCons (vCall ph__law_by (vCons (vOp oIx (vVar 0) (vC (.int 1))) (vCons (vVar 5) vNil))) vNil))))))))


theorem w__law_brief : ∀ ds m k, ph__law_brief ds m k → v__law_brief (dstart 6 ds) m (endP k) := by
  rintro _ m k ⟨⟨ts, b⟩, rfl, h, b0, bb, hk⟩
  have h : TOk ts := h
  have sok : Fr.Ok (scale ts) := Fr.low_ok (by have := (scale_sc h).2.2; omega)
  have sbd : Bd 3000 (scale ts) := (scale_bd h (fun t ht => (h.rt t ht).2.2) h.len).mono (by decide)
  have e : tieD (red (ts, b)) = .tup [.tup (ts.map fun t => tmD (t.1, fmul t.2 (scale ts))), frD (fmul b (scale ts))] := by
    show D.tup [.tup ((ts.map _).map tmD), _] = _
    rw [List.map_map]; rfl
  rw [e] at hk
  obtain ⟨_, u0, p0⟩ := scale_sc h
  have hl := h.len
  unfold v__law_brief
  walk_at "vc"
  have P : ∀ n : Nat, n ≤ 3000 → (2 : Nat) ^ n ≤ 2 ^ 3000 := fun n hn => Nat.pow_le_pow_right (by decide) hn
  refine forV_map (f := tmD) (fun (as : List Tm) s m' => m = m' ∧ (∀ t ∈ as, t ∈ ts) ∧ ∃ (u : Int) (x3 x4 : Option D) (j : Nat), s = [some (tieD (ts, b)), some (.int u), some (.int 0), x3, x4, none] ∧ 0 < u ∧ j + as.length = ts.length ∧ u.natAbs < 2 ^ (900 * j + 1) ∧ as.foldl uStep u = scU ts) ?_ ?_ ⟨rfl, fun _ h => h, 1, none, none, 0, rfl, by decide, by omega, by decide, rfl⟩
  · rintro s _ ⟨rfl, _, u, x3, x4, j, rfl, hu, hj, bu, he⟩
    have he : u = scU ts := he
    subst he
    have bu : (scU ts).natAbs < 2 ^ 1801 := Nat.lt_of_lt_of_le bu (Nat.pow_le_pow_right (by decide) (by simp at hj; omega))
    walk_at "vc"
    refine forV_map (f := tmD) (fun (as : List Tm) s m' => m = m' ∧ (∀ t ∈ as, t ∈ ts) ∧ ∃ (p : Int) (x3 x4 : Option D), s = [some (tieD (ts, b)), some (.int (scU ts)), some (.int p), x3, x4, none] ∧ (p = 0 ∨ p.natAbs < 2 ^ 2701) ∧ as.foldl (pStep (scU ts)) p = scP ts) ?_ ?_ ⟨rfl, fun _ h => h, 0, x3, x4, rfl, .inl rfl, rfl⟩
    · rintro s _ ⟨rfl, _, p, x3, x4, rfl, hp, he⟩
      have he : p = scP ts := he
      subst he
      walk_at "vc"
      refine ⟨by omega, ?_, ?_⟩
      · rcases hp with hp | hp
        · omega
        · exact Nat.lt_trans hp (Nat.pow_lt_pow_right (by decide) (by decide))
      walk_at "vc"
      refine ⟨by rw [List.length_map]; omega, lc_map (h := fun t : Tm => tmD (t.1, fmul t.2 (scale ts))) ts [] (fun t ht k' _ hk => tgt2 ?_) ?_⟩
      · obtain ⟨ok, n0, bt⟩ := h.rt t ht
        walk_at "vc"
        exact ⟨t.2, scale ts, rfl, by have := ok.1; omega, by have := sok.1; omega, bt.mono (by decide), sbd, hk⟩
      · walk_at "vc"
        exact ⟨b, scale ts, rfl, b0, by have := sok.1; omega, bb.mono (by decide), sbd, hk⟩
    · rintro t as s _ ⟨rfl, hs, p, x3, x4, rfl, hp, he⟩ ih
      obtain ⟨ok, n0, bt⟩ := h.rt t (hs t List.mem_cons_self)
      have d0 : t.2.2 ≠ 0 := by have := ok.1; omega
      refine tgt2 ?_
      unfold v__law_brief_b1
      walk_at "vc"
      have bw := Nat.lt_of_le_of_lt (fdiv_abs u0 ok.1) bu
      have bm := abs_mul bt.1 bw
      refine ⟨div_bd d0 (Nat.lt_of_lt_of_le bt.2 (P _ (by decide))), cmul_x bt.1 bw (by decide), ?_⟩
      simp only [ph__law_gcd]
      have m0 : t.2.1 * (scU ts).fdiv t.2.2 ≠ 0 := by
        refine Int.mul_ne_zero n0 fun z => ?_
        obtain ⟨_, _, u1⟩ := uFold ts 1 (by decide) fun t ht => (h.rt t ht).1.1
        obtain ⟨q, hq⟩ := u1 t (hs t List.mem_cons_self)
        have hq : scU ts = t.2.2 * q := hq
        rw [Fr.fdiv_of_mul (q := q) d0 (by rw [hq, Int.mul_comm])] at z
        rw [z, Int.mul_zero] at hq
        omega
      exact ih _ _ ⟨rfl, fun x hx => hs x (List.mem_cons_of_mem _ hx), _, _, _, rfl, .inr (gcd_bd m0 bm).2, he⟩
  · rintro t as s _ ⟨rfl, hs, u, x3, x4, j, rfl, hu, hj, bu, he⟩ ih
    obtain ⟨ok, n0, bt⟩ := h.rt t (hs t List.mem_cons_self)
    have d0 : t.2.2 ≠ 0 := by have := ok.1; omega
    refine tgt2 ?_
    unfold v__law_brief_b2
    walk_at "vc"
    simp only [ph__law_gcd]
    walk_at "vc"
    simp only [List.length_cons] at hj
    have g := gcd_bd (u := u) d0 bt.2
    refine ⟨cmul_x bu bt.2 (by omega), div_bd g.1 (Nat.lt_of_lt_of_le g.2 (P _ (by decide))), ?_⟩
    exact ih _ _ ⟨rfl, fun x hx => hs x (List.mem_cons_of_mem _ hx), uStep u t, _, _, j + 1, rfl, (uStep_spec hu ok.1).1, by omega, Nat.lt_of_lt_of_le (uStep_bd hu bu ok.1 bt) (Nat.pow_le_pow_right (by decide) (by omega)), he⟩
/-- a tie, scaled -/
def scl (s : Int × Int) (T : List Tm × (Int × Int)) : List Tm × (Int × Int) := (T.1.map fun t => (t.1, fmul t.2 s), fmul T.2 s)
theorem fmul_ne {f g : Int × Int} (h1 : f.2 ≠ 0) (h2 : g.2 ≠ 0) (n1 : f.1 ≠ 0) (n2 : g.1 ≠ 0) : (fmul f g).1 ≠ 0 := fun z => by
  have v := fmul_val h1 h2
  rw [z, Int.zero_mul] at v
  have o := (fmul_ok h1 h2).1
  exact (Int.mul_ne_zero (Int.mul_ne_zero n1 n2) (by omega)) v.symm
theorem TOk.scl {ts : List Tm} {s : Int × Int} {n k : Nat} (h : TOk ts) (hb : ∀ t ∈ ts, Bd n t.2) (s1 : 0 < s.1) (s2 : 0 < s.2) (bs : Bd k s) (hk : n + k ≤ 900) : TOk (ts.map fun t => (t.1, fmul t.2 s)) ∧ ∀ t ∈ (ts.map fun t => (t.1, fmul t.2 s)), Bd (n + k) t.2 := by
  have all : ∀ t ∈ (ts.map fun t => (t.1, fmul t.2 s)), Fr.Ok t.2 ∧ t.2.1 ≠ 0 ∧ Bd (n + k) t.2 := fun t ht => by
    obtain ⟨x, hx, rfl⟩ := List.mem_map.mp ht
    obtain ⟨ok, n0, _⟩ := h.rt x hx
    have d0 : x.2.2 ≠ 0 := by have := ok.1; omega
    exact ⟨fmul_ok d0 (by omega), fmul_ne d0 (by omega) n0 (by omega), (hb x hx).mul bs d0 (by omega)⟩
  refine ⟨⟨?_, by rw [List.length_map]; exact h.len, fun t ht => ⟨(all t ht).1, (all t ht).2.1, (all t ht).2.2.mono hk⟩⟩, fun t ht => (all t ht).2.2⟩
  intro z
  exact h.ne (List.map_eq_nil_iff.mp z)

/-! ### ties of a text: what is read (plain), bits -/
abbrev Tie := List Tm × (Int × Int)
/-! ### turned, read_ties -/
local macro_rules | `(tactic| walk_at "rd") => `(tactic| try simp only [ln_run_end, ln_step, ln_term, ln_whole_sum, lk_source, pt_source, lk_spot, pt_spot, lk_start, pt_start, lk_kind, pt_kind, lk_worth, pt_worth, lk_word, pt_word, onO_1])
/- lent by k08 -/
/- def turned, slots 0 tie 1 name 2 rate -/
/- lent by k08 -/
/- def read_ties, slots 0 text 1 reader 2 left 3 relation 4 right 5 rates 6 terms 7 tie 8 name -/
/-! ### texts of fractions and sums -/
/- lent by k06 -/
/- def ratio_text, slots 0 one -/
/- lent by k06 -/
/- def _law_part_text, slots 0 _law_one -/
/- lent by k06 -/
/- def sum_text, slots 0 terms 1 text 2 name 3 rate 4 size 5 word -/
/- lent by k06 -/
/- def _law_sum_text, slots 0 _law_terms_here 1 _law_text 2 _law_name 3 _law_rate_here 4 _law_size 5 _law_word 6 _law_lead -/
/- lent by k06 -/
/- def tie_text, slots 0 tie 1 terms 2 bound -/
/- lent by k06 -/
/- def _law_tie_text, slots 0 _law_tie 1 _law_terms_here 2 _law_bound -/
/-! ### lots: fields, simple methods -/
/- lent by k16 -/
/- def Lot.names, slots 0 self -/
/- lent by k16 -/
/- def Lot.ties, slots 0 self -/
/- lent by k16 -/
/- def Lot.__len__, slots 0 self -/
/- lent by k16 -/
/- def Lot.__repr__, slots 0 self -/
/-! ### terms and ties judged -/
/- lent by k05 -/
/- def are_terms, slots 0 thing 1 term -/
/- lent by k05 -/
/- def is_tie, slots 0 thing -/
/-! ### the names of a tie -/
/- lent by k05 -/
/- def names_in, slots 0 tie 1 name 2 rate -/
/-! ### lots made: __init__ -/
/- lent by k16 -/
/- def Lot.__init__, slots 0 self 1 names 2 ties 3 words 4 name 5 at 6 tie -/
/-! ### lots: read, ==, text -/
/- lent by k16 -/
/- def Lot.read, slots 0 names 1 text 2 found 3 part -/
/-! ### == -/
/- lent by k16 -/
/- def Lot.__eq__, slots 0 self 1 other -/
/-! ### text -/
/- lent by k16 -/
/- def Lot.text, slots 0 self 1 tie -/
/-! ### rows of figures: bounds -/
structure Rw where
  a : Int
  b : Int
  c : Rat
/-- of so many bits -/
structure ROk (n : Nat) (r : Rw) : Prop where
  nz : r.a ≠ 0 ∨ r.b ≠ 0
  ba : r.a.natAbs < 2 ^ n
  bb : r.b.natAbs < 2 ^ n
  bc : Bq n r.c
theorem pow_le {n m : Nat} (l : n ≤ m) : 2 ^ n ≤ 2 ^ m := Nat.pow_le_pow_right (by decide) l
theorem ROk.mono {n m : Nat} {r : Rw} (h : ROk n r) (l : n ≤ m) : ROk m r := ⟨h.nz, Nat.lt_of_lt_of_le h.ba (pow_le l), Nat.lt_of_lt_of_le h.bb (pow_le l), h.bc.mono l⟩
def OkQ (n : Nat) : Option Rat → Prop
  | none => True
  | some f => Bq n f
theorem OkQ.mono {n m : Nat} {f : Option Rat} (h : OkQ n f) (l : n ≤ m) : OkQ m f := by
  cases f with
  | none => trivial
  | some x => exact Bd.mono h l
/-- the lesser one, the greater one; none: there is none -/
def omin : Option Rat → Option Rat → Option Rat
  | f, none => f
  | none, g => g
  | some x, some y => if y < x then some y else some x
theorem OkQ.omin {n : Nat} {f g : Option Rat} (h : OkQ n f) (h' : OkQ n g) : OkQ n (omin f g) := by
  cases f <;> cases g <;> simp only [Ts.omin] <;> first | assumption | (split <;> assumption)
/- lent by k12 -/
/- def least, slots 0 values 1 found 2 value -/
/- lent by k12 -/
/- def greatest, slots 0 values 1 found 2 value -/
/-- value at most bound -/
def atm (f : Option Rat) (g : Rat) : Bool := match f with
  | none => false
  | some x => !decide (g < x)
/- lent by k12 -/
/- def is_at_most, slots 0 value 1 bound -/
/-- two rows bound a sum -/
def det (r s : Rw) : Int := r.a * s.b - r.b * s.a
def shr1 (a b : Int) (r s : Rw) : Rat := ((a * s.b - b * s.a : Int) : Rat) / (det r s : Rat)
def shr2 (a b : Int) (r s : Rw) : Rat := ((r.a * b - r.b * a : Int) : Rat) / (det r s : Rat)
def bndI (a b : Int) (r : Rw) (f : Option Rat) (s : Rw) : Option Rat :=
  if det r s = 0 then f
  else if 0 ≤ shr1 a b r s ∧ 0 ≤ shr2 a b r s then omin f (some (shr1 a b r s * r.c + shr2 a b r s * s.c))
  else f
/-- one row bounds a sum -/
def shr0 (a b : Int) (r : Rw) : Rat := if r.a ≠ 0 then (a : Rat) / (r.a : Rat) else (b : Rat) / (r.b : Rat)
def bndS (a b : Int) (f : Option Rat) (r : Rw) : Option Rat :=
  if r.a * b = r.b * a ∧ 0 < r.a * a + r.b * b then omin f (some (shr0 a b r * r.c)) else f
def bndG (a b : Int) : List Rw → List Rw → Option Rat → Option Rat
  | _, [], f => f
  | dn, r :: rs, f => bndG a b (dn ++ [r]) rs (dn.foldl (bndI a b r) (bndS a b f r))
/-- the least bound of a*x + b*y -/
def bnd (rs : List Rw) (a b : Int) : Option Rat := bndG a b [] rs none
theorem Bq.big {n : Nat} {f : Rat} (h : Bq n f) (hn : n ≤ 3000) : Bq 3000 f := h.mono hn
section
variable {n : Nat} {a b : Int} {r s : Rw} {f : Option Rat}
end

/-! ### bound_of -/
/-- a list, frozen or of the memory -/
def LstAt (m : Mem) (d : D) (es : List D) : Prop := d = .lst es ∨ ∃ p, d = .ref p ∧ m p = some (.lst es)
/- lent by k12 -/
/- def bound_of, slots 0 rows 1 a 2 b 3 found 4 at 5 p 6 q 7 c 8 share 9 u 10 v 11 d 12 turn 13 one 14 other -/
theorem LstAt.cut {m : Mem} {d : D} {es : List D} (h : LstAt m d es) (hl : es.length ≤ 1000) {i : Nat} (hi : i ≤ es.length) {k : D → Mem → Prop} (hk : k (.lst (es.take i)) m) : oSl d none (some (i : Int)) m k := by
  rcases h with rfl | ⟨p, rfl, h⟩
  · walk_at "vc"
    rw [cutN_to]
    exact hk
  · walk_at "vc"
    rw [h]
    walk_at "vc"
    rw [cutN_to]
    exact hk
/-! ### rows judged, made normal, ordered, kept -/
/- lent by k12 -/
/- def is_row, slots 0 thing -/
theorem pow_pos1 {n : Nat} {a : Int} (h : a.natAbs < 2 ^ n) (h0 : a ≠ 0) : 1 < 2 ^ n := by omega
theorem ROk.one {n : Nat} {r : Rw} (h : ROk n r) : 1 < 2 ^ n := h.nz.elim (pow_pos1 h.ba) (pow_pos1 h.bb)
/- lent by k12 -/
/- def normal, slots 0 row 1 part -/
/- lent by k12 -/
/- def is_ahead, slots 0 one 1 other 2 halves 3 row -/
/- lent by k12 -/
/- def by_direction, slots 0 rows 1 found 2 row 3 at -/
/-! kept rows -/
def keptF : List Rw → List Rw → Option (List Rw)
  | acc, [] => some acc
  | acc, r :: rs => if atm (bnd acc r.a r.b) r.c = true then keptF acc rs else match bnd acc (-r.a) (-r.b) with
    | some l => if l + r.c < 0 then none else keptF (acc ++ [r]) rs
    | none => keptF (acc ++ [r]) rs
def kept (rs : List Rw) : Option (List Rw) := keptF [] rs
/- lent by k12 -/
/- def kept_rows, slots 0 rows 1 found 2 row 3 a 4 b 5 c 6 low -/
/-! ### rows of points, of lines; canonical rows -/
/- lent by k12 -/
/- def point_rows, slots 0 x 1 y -/
/-- an end, if there is one -/
def endF (a b : Int) : Option Rat → List Rw
  | none => []
  | some c => [⟨a, b, c⟩]
/- lent by k12 -/
/- def line_rows, slots 0 rows 1 line 2 a 3 b 4 c 5 x 6 top 7 low 8 ends 9 end -/
/-! ### canonical rows -/
instance : DecidableEq Rw := fun r s => decidable_of_iff (r.a = s.a ∧ r.b = s.b ∧ r.c = s.c) ⟨fun h => by cases r; cases s; obtain ⟨h1, h2, h3⟩ := h; dsimp only at h1 h2 h3; subst h1 h2 h3; rfl, fun h => by rw [h]; exact ⟨rfl, rfl, rfl⟩⟩
/-- a list or a tuple -/
def SeqD (d : D) (es : List D) : Prop := d = .lst es ∨ d = .tup es
/- lent by k12 -/
/- def canonical, slots 0 rows 1 found 2 a 3 b 4 c 5 low 6 row 7 others 8 other -/
/-! ### sums of shares of ties -/
structure Te where
  ts : Al
  b : Rat
abbrev tqD (t : Nm × Rat) : D := .tup [.str (S t.1), qD t.2]
abbrev teD (T : Te) : D := .tup [.tup (T.ts.map tqD), qD T.b]
def AlQ (n : Nat) (rs : Al) : Prop := ∀ p ∈ rs, Bq n p.2
theorem AlQ.put {n k : Nat} {rs : Al} {a : Nm} {q : Rat} (h : AlQ n rs) (hq : Bq k q) (hk : n ≤ k) : AlQ k (putA rs a q) := fun p hp => by
  rcases putA_mem hp with rfl | hp
  · exact hq
  · exact (h p hp).mono hk
theorem q0 : D.tup [.int 0, .int 1] = qD 0 := rfl
/- lent by k27 -/
/- def total, slots 0 ties 1 paper 2 rates 3 bound 4 last 5 pair 6 name 7 rate -/
theorem SeqD.len {d : D} {es : List D} {m : Mem} {k : KD} (h : SeqD d es) (hk : k (.int (es.length : Int)) m) : oLen [d] m k := by rcases h with rfl | rfl <;> exact hk
/-! ### Figure(rows) -/
/- lent by k12 -/
/- def Figure.__init__, slots 0 self 1 rows 2 at 3 row 4 found -/
/-! ### a part -/
/- lent by k06 -/
/- def _law_part, slots 0 _law_feed_here 1 _law_size 2 _law_upper -/
/-! ### drawn rows -/
theorem ok_rf {p : Int × Int} (h : Fr.Ok p) : ∃ q : Rat, p = rf q := by
  obtain ⟨a, b⟩ := p
  obtain ⟨h1, h2⟩ := h
  have h1 : (0 : Int) < b := h1
  have h2 : Int.gcd a b = 1 := h2
  refine ⟨⟨a, b.toNat, by omega, ?_⟩, ?_⟩
  · show Nat.gcd a.natAbs b.toNat = 1
    have : b.natAbs = b.toNat := by omega
    rw [← this]; exact h2
  · show (a, b) = (a, ((b.toNat : Nat) : Int))
    rw [Int.toNat_of_nonneg (by omega)]
instance (p : Int × Int) : Decidable (Fr.Ok p) := inferInstanceAs (Decidable (_ ∧ _))
instance (n : Nat) (p : Int × Int) : Decidable (Bd n p) := inferInstanceAs (Decidable (_ ∧ _))
section
variable {m : Mem} {k : KD}
theorem dr {n : Int} (h0 : 0 < n) (h1 : n ≤ 1000000) (hk : ∀ r, 0 ≤ r → r < n → k (.int r) m) : ph__law_draw [.feed, .int n] m k := ⟨pre_s h0 (by omega), hk⟩
end
/- lent by k12 -/
/- def _law_spot, slots 0 _law_a 1 _law_b 2 _law_point -/
/- lent by k12 -/
/- def _law_rows, slots 0 _law_feed_here 1 _law_many 2 _law_first_x 3 _law_second_y 4 _law_found 5 _law_loose 6 _law_k 7 _law_a 8 _law_b 9 _law_c -/
/-! ### a point: values by names -/
def pts : List (Int × Int) := [(0, 1), (1, 1), (2, 1), (-1, 1), (1, 2), (3, 1), (-5, 3)]
/-- the pairs of a point -/
def ptK (ps : List (List Nat × (Int × Int))) : List (Key × D) := ps.map fun p => (.inr (S p.1), frD p.2)
def ph__law_point : P0 := fun ds m k => ∃ ws : List (List Nat), ds = [.feed, wsD ws] ∧ ws.length ≤ 100 ∧ ws.Nodup ∧ ∀ ps : List (List Nat × (Int × Int)), ps.map (·.1) = ws → (∀ p ∈ ps, p.2 ∈ pts) → k (.dic (ptK ps)) m
theorem l__law_point : ∀ ds m k, ph__law_point ds m k → ds.length = 2 := by rintro _ m k ⟨_, rfl, _⟩; rfl
theorem putD_new {κ α : Type} [DecidableEq κ] {kvs : List (κ × α)} {k : κ} {v : α} (h : k ∉ kvs.map (·.1)) : putD kvs k v = kvs ++ [(k, v)] := by
  unfold putD
  rw [if_neg]
  intro z
  obtain ⟨x, hx, e⟩ := List.any_eq_true.mp z
  exact h (List.mem_map.mpr ⟨x, hx, of_decide_eq_true e⟩)
theorem mergeD_new : ∀ (cs kvs : List (Key × D)), ((kvs ++ cs).map (·.1)).Nodup → mergeD kvs cs = kvs ++ cs
  | [], kvs, _ => (List.append_nil _).symm
  | c :: cs, kvs, nd => by
    have h : c.1 ∉ kvs.map (·.1) := fun z => by
      rw [List.map_append, List.map_cons] at nd
      exact (List.nodup_append.mp nd).2.2 _ z _ List.mem_cons_self rfl
    show mergeD (putD kvs c.1 c.2) cs = _
    rw [putD_new h, mergeD_new cs (kvs ++ [c]) (by rw [List.append_assoc]; exact nd), List.append_assoc]
    rfl
/- def _law_point, slots 0 _law_feed_here 1 _law_words_here 2 _law_name -/
@[reducible] def v__law_point : VS :=
  (vRet (vCB oDict (vCons (vLc (vWalk (vVar 1)) (gN 2) vYes (vTup (vCons (vVar 2) (vCons (vCall ph__law_any (vCons (vVar 0) (vCons (vLst (vCons (vTup (vCons (vC (.int 0)) (vCons (vC (.int 1)) vNil))) (vCons (vTup (vCons (vC (.int 1)) (vCons (vC (.int 1)) vNil))) (vCons (vTup (vCons (vC (.int 2)) (vCons (vC (.int 1)) vNil))) (vCons (vTup (vCons (vUn oNeg (vC (.int 1))) (vCons (vC (.int 1)) vNil))) (vCons (vTup (vCons (vC (.int 1)) (vCons (vC (.int 2)) vNil))) (vCons (vTup (vCons (vC (.int 3)) (vCons (vC (.int 1)) vNil))) (vCons (vTup (vCons (vUn oNeg (vC (.int 5))) (vCons (vC (.int 3)) vNil))) vNil)))))))) vNil))) vNil))) [2]) vNil)))


theorem pairs_pt : ∀ ps : List (List Nat × (Int × Int)), pairsD (ps.map fun p => .tup [.str (S p.1), frD p.2]) = some (ptK ps)
  | [] => rfl
  | p :: ps => by
    have e := pairs_pt ps
    simp only [List.map_cons, pairsD, pairD, keyD, Option.map_some, e]
    rfl
theorem ptK_nd {ps : List (List Nat × (Int × Int))} (h : (ps.map (·.1)).Nodup) : ((ptK ps).map (·.1)).Nodup := by
  unfold ptK
  rw [List.map_map, List.Nodup, List.pairwise_map]
  rw [List.Nodup, List.pairwise_map] at h
  exact h.imp fun h e => h (S_inj (Sum.inr.inj e))
theorem w__law_point : ∀ ds m k, ph__law_point ds m k → v__law_point (dstart 3 ds) m (endP k) := by
  rintro _ m k ⟨ws, rfl, hl, nd, hk⟩
  unfold v__law_point
  walk_at "vc"
  refine ⟨by rw [List.length_map]; omega, lc_rel (fun (w : List Nat) y => ∃ q ∈ pts, y = .tup [.str (S w), frD q]) ws [] (fun w hw k' _ hk => ?_) fun ys hys => ?_⟩
  · walk_at "vc"
    simp only [ph__law_any]
    refine ⟨by simp, by simp, fun d hd => ?_⟩
    have e : d ∈ pts.map frD := hd
    obtain ⟨q, hq, rfl⟩ := List.mem_map.mp e
    exact hk _ ⟨q, hq, rfl⟩
  · obtain ⟨ps, rfl, h1, h2⟩ : ∃ ps : List (List Nat × (Int × Int)), ys = ps.map (fun p => D.tup [.str (S p.1), frD p.2]) ∧ ps.map (·.1) = ws ∧ ∀ p ∈ ps, p.2 ∈ pts := by
      clear nd hl hk
      induction hys with
      | nil => exact ⟨[], rfl, rfl, fun p h => by cases h⟩
      | cons q _ ih =>
        obtain ⟨v, hv, rfl⟩ := q
        obtain ⟨ps, rfl, h1, h2⟩ := ih
        refine ⟨(_, v) :: ps, rfl, by rw [List.map_cons, h1], fun p hp => ?_⟩
        rcases List.mem_cons.mp hp with rfl | hp
        · exact hv
        · exact h2 p hp
    rw [List.nil_append]
    refine .inr ⟨_, ptK ps, rfl, pairs_pt ps, ?_⟩
    have e := mergeD_new (ptK ps) [] (by rw [List.nil_append]; exact ptK_nd (by rw [h1]; exact nd))
    rw [e, List.nil_append]
    exact hk ps h1 h2

/-! ### drawn terms, values, sums over rationals -/
def AscQ (ts : Al) : Prop := ts.Pairwise fun a b => a.1 < b.1
structure TqOk (ws : List Nm) (ts : Al) : Prop where
  len : ts.length = 1 ∨ ts.length = 2
  nm : ∀ t ∈ ts, t.1 ∈ ws
  nz : ∀ t ∈ ts, t.2 ≠ 0
  bd : ∀ t ∈ ts, Bq 4 t.2
  asc : AscQ ts
theorem rates_q : ∀ p ∈ rates, ∃ q : Rat, p = rf q ∧ q ≠ 0 ∧ Bq 4 q := by
  intro p hp
  have h : Fr.Ok p ∧ Bd 4 p ∧ p.1 ≠ 0 := by
    have : ∀ p ∈ rates, Fr.Ok p ∧ Bd 4 p ∧ p.1 ≠ 0 := by decide
    exact this p hp
  obtain ⟨q, rfl⟩ := ok_rf h.1
  exact ⟨q, rfl, fun z => h.2.2 (num_zero.mpr z), h.2.1⟩
theorem terms_q {ts : List Tm} (h : ∀ t ∈ ts, t.2 ∈ rates) : ∃ qs : Al, ts = qs.map (fun t => (t.1, rf t.2)) ∧ ∀ t ∈ qs, t.2 ≠ 0 ∧ Bq 4 t.2 := by
  induction ts with
  | nil => exact ⟨[], rfl, by simp⟩
  | cons t ts ih =>
    obtain ⟨qs, rfl, h2⟩ := ih fun x hx => h x (List.mem_cons_of_mem _ hx)
    obtain ⟨q, e, h3⟩ := rates_q t.2 (h t List.mem_cons_self)
    refine ⟨(t.1, q) :: qs, by rw [List.map_cons, ← e], fun x hx => ?_⟩
    rcases List.mem_cons.mp hx with rfl | hx
    · exact h3
    · exact h2 x hx
theorem terms' {ws : List Nm} {pr : Int} {m : Mem} {k : KD} (h1 : 1 ≤ ws.length) (h2 : ws.length ≤ 1000) (h3 : ws.Nodup) (hk : ∀ ts : Al, TqOk ws ts → k (.tup (ts.map tqD)) m) : ph__law_terms [.feed, wsD ws, .int pr] m k := by
  refine ⟨ws, pr, rfl, h1, h2, h3, fun ts ⟨hl, hn, ha⟩ => ?_⟩
  obtain ⟨qs, rfl, hq⟩ := terms_q fun t ht => (hn t ht).2
  have e : tsD (qs.map fun t => (t.1, rf t.2)) = .tup (qs.map tqD) := by show D.tup _ = _; rw [List.map_map]; rfl
  rw [e]
  refine hk qs ⟨by simpa using hl, fun t ht => ?_, fun t ht => (hq t ht).1, fun t ht => (hq t ht).2, ?_⟩
  · exact (hn (t.1, rf t.2) (List.mem_map.mpr ⟨t, ht, rfl⟩)).1
  · unfold Asc at ha
    rw [List.pairwise_map] at ha
    exact ha
/-- the sum of the rates times the values -/
def dot (ts ps : Al) : Rat := ts.foldl (fun a t => a + t.2 * (getA ps t.1).getD 0) 0
def ph_sum_at : P0 := fun ds m k => ∃ (ts ps : Al) (d : D), ds = [.tup (ts.map tqD), d] ∧ asK m d = some (alD ps) ∧ ts.length ≤ 4 ∧ (∀ t ∈ ts, Bq 300 t.2 ∧ ∃ q, getA ps t.1 = some q ∧ Bq 300 q) ∧ k (qD (dot ts ps)) m
theorem l_sum_at : ∀ ds m k, ph_sum_at ds m k → ds.length = 2 := by rintro _ m k ⟨_, _, _, rfl, _⟩; rfl
def ph__law_total : P0 := ph_sum_at
theorem l__law_total : ∀ ds m k, ph__law_total ds m k → ds.length = 2 := l_sum_at
@[reducible] def v_sum_at_b1 : VS :=
  (vSet 2 (vCall ph_add (vCons (vVar 2) (vCons (vCall ph_multiply (vCons (vVar 4) (vCons (vDGet (vVar 1) (vVar 3)) vNil))) vNil))))
/- def sum_at, slots 0 terms 1 values 2 found 3 name 4 rate -/
@[reducible] def v_sum_at : VS :=
  (vSeq (vSet 2 (vC (.tup [.int 0, .int 1])))
    (vSeq (vFor (vWalk (vVar 0)) (gTp 2 (gCn (gN 3) (gCn (gN 4) gNl))) v_sum_at_b1)
    (vRet (vVar 2))))
@[reducible] def v__law_total_b1 : VS :=
  (vSet 2 (vCall ph__law_plus (vCons (vVar 2) (vCons (vCall ph__law_by (vCons (vVar 4) (vCons (vDGet (vVar 1) (vVar 3)) vNil))) vNil))))
/- def _law_total, slots 0 _law_terms_here 1 _law_values 2 _law_found 3 _law_name 4 _law_rate_here -/
@[reducible] def v__law_total : VS :=
  (vSeq (vSet 2 (vTup (vCons (vC (.int 0)) (vCons (vC (.int 1)) vNil))))
    (vSeq (vFor (vWalk (vVar 0)) (gTp 2 (gCn (gN 3) (gCn (gN 4) gNl))) v__law_total_b1)
    (vRet (vVar 2))))


theorem w_sum_at : ∀ ds m k, ph_sum_at ds m k → v_sum_at (dstart 5 ds) m (endP k) := by
  rintro _ m k ⟨ts, ps, d, rfl, hd, hl, ht, hk⟩
  unfold v_sum_at
  walk_at "vc"
  refine forV_mapP (f := tqD) (fun ts' s m' => m = m' ∧ ∃ (a : Rat) (x3 x4 : Option D), s = [some (.tup (ts.map tqD)), some d, some (qD a), x3, x4] ∧ ts'.length ≤ 4 ∧ (∀ t ∈ ts', t ∈ ts) ∧ Bq (601 * (4 - ts'.length) + 1) a ∧ ts'.foldl (fun a t => a + t.2 * (getA ps t.1).getD 0) a = dot ts ps) ?_ ?_ ⟨rfl, 0, _, _, rfl, hl, fun _ h => h, (show Bd 1 (rf 0) by decide).mono (by omega), rfl⟩
  · rintro s _ ⟨rfl, a, x3, x4, rfl, _, _, _, e⟩
    have e : a = dot ts ps := e
    walk_at "vc"
    rw [e]
    exact hk
  · rintro t ts' s _ P ⟨rfl, a, x3, x4, rfl, h1, h2, h3, e⟩ ih
    simp only [List.length_cons] at h1 h3
    obtain ⟨b1, q, hq, b2⟩ := ht t (h2 t List.mem_cons_self)
    unfold v_sum_at_b1
    walk_at "vc"
    rw [hd]
    walk_at "vc"
    rw [val_al, hq, Option.map_some]
    walk_at "vc"
    refine pq_mul (b1.big (by decide)) (b2.big (by decide)) ?_
    refine pq_add (h3.big (by omega)) ((b1.mul b2).big (by decide)) ?_
    refine ih _ _ ⟨rfl, _, _, _, rfl, by omega, fun x hx => h2 x (List.mem_cons_of_mem _ hx), (h3.add (b1.mul b2)).mono (by omega), ?_⟩
    rw [List.foldl_cons, hq] at e
    exact e
theorem w__law_total : ∀ ds m k, ph__law_total ds m k → v__law_total (dstart 5 ds) m (endP k) := by
  rintro _ m k ⟨ts, ps, d, rfl, hd, hl, ht, hk⟩
  unfold v__law_total
  walk_at "vc"
  refine forV_mapP (f := tqD) (fun ts' s m' => m = m' ∧ ∃ (a : Rat) (x3 x4 : Option D), s = [some (.tup (ts.map tqD)), some d, some (qD a), x3, x4] ∧ ts'.length ≤ 4 ∧ (∀ t ∈ ts', t ∈ ts) ∧ Bq (601 * (4 - ts'.length) + 1) a ∧ ts'.foldl (fun a t => a + t.2 * (getA ps t.1).getD 0) a = dot ts ps) ?_ ?_ ⟨rfl, 0, _, _, rfl, hl, fun _ h => h, (show Bd 1 (rf 0) by decide).mono (by omega), rfl⟩
  · rintro s _ ⟨rfl, a, x3, x4, rfl, _, _, _, e⟩
    have e : a = dot ts ps := e
    walk_at "vc"
    rw [e]
    exact hk
  · rintro t ts' s _ P ⟨rfl, a, x3, x4, rfl, h1, h2, h3, e⟩ ih
    simp only [List.length_cons] at h1 h3
    obtain ⟨b1, q, hq, b2⟩ := ht t (h2 t List.mem_cons_self)
    unfold v__law_total_b1
    walk_at "vc"
    rw [hd]
    walk_at "vc"
    rw [val_al, hq, Option.map_some]
    walk_at "vc"
    refine pq_mul (b1.big (by decide)) (b2.big (by decide)) ?_
    refine pq_add (h3.big (by omega)) ((b1.mul b2).big (by decide)) ?_
    refine ih _ _ ⟨rfl, _, _, _, rfl, by omega, fun x hx => h2 x (List.mem_cons_of_mem _ hx), (h3.add (b1.mul b2)).mono (by omega), ?_⟩
    rw [List.foldl_cons, hq] at e
    exact e
/-! ### drawn ties -/
def ph__law_minus : P0 := fun ds m k => ∃ a : Rat, ds = [qD a] ∧ k (qD (-a)) m
theorem l__law_minus : ∀ ds m k, ph__law_minus ds m k → ds.length = 1 := by rintro _ m k ⟨_, rfl, _⟩; rfl
/- def _law_minus, slots 0 _law_one -/
@[reducible] def v__law_minus : VS :=
  (vRet (vTup (vCons (vUn oNeg (vOp oIx (vVar 0) (vC (.int 0)))) (vCons (vOp oIx (vVar 0) (vC (.int 1))) vNil))))


theorem w__law_minus : ∀ ds m k, ph__law_minus ds m k → v__law_minus (dstart 1 ds) m (endP k) := by
  rintro _ m k ⟨a, rfl, hk⟩
  unfold v__law_minus
  walk_at "vc"
  have e : D.tup [.int (-(rf a).1), .int (rf a).2] = qD (-a) := by show _ = frD (rf (-a)); rw [← fneg_q]; rfl
  rw [e]
  exact hk
theorem Word.ok {w : Nm} (h : Word w) : PyData.strOk (S w) = true := strOk_S fun c hc => by have := h.2.2 c hc; omega
/- lent by k27 -/
/- def _law_ties, slots 0 _law_feed_here 1 _law_words_here 2 _law_many 3 _law_open_cases 4 _law_point_here 5 _law_found 6 _law_loose 7 _law_k 8 _law_terms_here 9 _law_bound 10 _law_room -/
def ph__law_under : P0 := ph_is_less
theorem l__law_under : ∀ ds m k, ph__law_under ds m k → ds.length = 2 := l_two
/- def _law_under, slots 0 _law_one 1 _law_two -/
@[reducible] def v__law_under : VS :=
  (vRet (vOp oLt (vOp oMul (vOp oIx (vVar 0) (vC (.int 0))) (vOp oIx (vVar 1) (vC (.int 1)))) (vOp oMul (vOp oIx (vVar 1) (vC (.int 0))) (vOp oIx (vVar 0) (vC (.int 1))))))


theorem w__law_under : ∀ ds m k, ph__law_under ds m k → v__law_under (dstart 2 ds) m (endP k) := w_is_less

/-! ### k16: ties by rationals, kept, strange names -/
/-- a tie over rationals as a tie -/
def toT (T : Te) : Tie := (T.ts.map fun t => (t.1, rf t.2), rf T.b)
theorem teD_T (T : Te) : teD T = tieD (toT T) := by
  show D.tup [.tup (T.ts.map tqD), qD T.b] = .tup [.tup ((T.ts.map fun t => ((t.1, rf t.2) : Tm)).map tmD), frD (rf T.b)]
  rw [List.map_map]; rfl
def kpt (ps : Al) (T : Te) : Bool := !decide (T.b < dot T.ts ps)
def ph_is_kept : P0 := fun ds m k => ∃ (T : Te) (d : D) (ps : Al), ds = [teD T, d] ∧ asK m d = some (alD ps) ∧ T.ts.length ≤ 2 ∧ Bq 2000 T.b ∧ (∀ t ∈ T.ts, Bq 300 t.2 ∧ ∃ q, getA ps t.1 = some q ∧ Bq 300 q) ∧ k (.bl (kpt ps T)) m
theorem l_is_kept : ∀ ds m k, ph_is_kept ds m k → ds.length = 2 := by rintro _ m k ⟨_, _, _, rfl, _⟩; rfl
def ph__law_keeps : P0 := ph_is_kept
theorem l__law_keeps : ∀ ds m k, ph__law_keeps ds m k → ds.length = 2 := l_is_kept
/- def is_kept, slots 0 tie 1 values -/
@[reducible] def v_is_kept : VS :=
  (vRet (vNotV (vCall ph_is_less (vCons (vOp oIx (vVar 0) (vC (.int 1))) (vCons (vCall ph_sum_at (vCons (vOp oIx (vVar 0) (vC (.int 0))) (vCons (vVar 1) vNil))) vNil)))))
/- def _law_keeps, slots 0 _law_tie 1 _law_values -/
@[reducible] def v__law_keeps : VS :=
  (vRet (vNotV (vCall ph__law_under (vCons (vOp oIx (vVar 0) (vC (.int 1))) (vCons (vCall ph__law_total (vCons (vOp oIx (vVar 0) (vC (.int 0))) (vCons (vVar 1) vNil))) vNil)))))


theorem dot_big {ts ps : Al} (hl : ts.length ≤ 2) (h1 : ∀ t ∈ ts, Bq 300 t.2 ∧ ∃ q, getA ps t.1 = some q ∧ Bq 300 q) : Bq 2000 (dot ts ps) := by
  have z0 : Bq 1 (0 : Rat) := by decide
  have step : ∀ t ∈ ts, Bq 600 (t.2 * (getA ps t.1).getD 0) := fun t ht => by
    obtain ⟨h, q, e, hq⟩ := h1 t ht
    rw [e]
    exact h.mul hq
  match ts, hl, step with
  | [], _, _ => exact z0.mono (by decide)
  | [a], _, st => exact (z0.add (st a List.mem_cons_self)).mono (by decide)
  | [a, b], _, st => exact ((z0.add (st a List.mem_cons_self)).add (st b (by simp))).mono (by decide)
theorem w_is_kept : ∀ ds m k, ph_is_kept ds m k → v_is_kept (dstart 2 ds) m (endP k) := by
  rintro _ m k ⟨T, d, ps, rfl, hd, hl, hb, ht, hk⟩
  have bd := dot_big hl ht
  unfold v_is_kept
  walk_at "vc"
  refine ⟨T.ts, ps, d, rfl, hd, by omega, ht, ?_⟩
  refine pq_less (hb.mono (by decide)) (bd.mono (by decide)) ?_
  walk_at "vc"
  exact hk
theorem w__law_keeps : ∀ ds m k, ph__law_keeps ds m k → v__law_keeps (dstart 2 ds) m (endP k) := w_is_kept
/- lent by k16 -/
/- def Lot.holds, slots 0 self 1 values 2 tie -/
/-! a name that is not among some -/
/- lent by k16 -/
/- def _law_strange, slots 0 _law_words_here 1 _law_word -/
/-! ### k40: programs as data, what a run answers -/
structure Fm where
  r : Rat
  x : Nm
  c : Rat
abbrev fmD (f : Fm) : D := .tup [qD f.r, .str (S f.x), qD f.c]
inductive Pg where
  | nil
  | set (x : Nm) (lo hi : Fm) (r : Pg)
  | any (x : Nm) (r : Pg)
  | chk (ts : List Te) (r : Pg)
  | ei (p q r : Pg)
  | rep (n : Nat) (p r : Pg)
def pgD : Pg → List D
  | .nil => []
  | .set x lo hi r => .tup [.str "set", .str (S x), fmD lo, fmD hi] :: pgD r
  | .any x r => .tup [.str "any", .str (S x)] :: pgD r
  | .chk ts r => .tup [.str "check", .tup (ts.map teD)] :: pgD r
  | .ei p q r => .tup [.str "either", .tup (pgD p), .tup (pgD q)] :: pgD r
  | .rep n p r => .tup [.str "repeat", .int (n : Int), .tup (pgD p)] :: pgD r
/-- the value of a form -/
def fmV (ps : Al) (f : Fm) : Rat := if f.x = [] then f.c else f.r * (getA ps f.x).getD 0 + f.c
/-- a choice as a share -/
def shr (q : Rat) : Rat := if q.num = 0 then 0 else ((q.den : Int) : Rat) / (((q.den : Int) + (q.num.natAbs : Int) : Int) : Rat)
def itN (f : Al → List Rat → Option Al × List Rat) : Nat → Al → List Rat → Option Al × List Rat
  | 0, ps, cs => (some ps, cs)
  | n + 1, ps, cs => match f ps cs with
    | (some ps', cs') => itN f n ps' cs'
    | (none, cs') => (none, cs')
/-- the values behind a run, or none; the choices that are left -/
def rn : Pg → Al → List Rat → Option Al × List Rat
  | .nil, ps, cs => (some ps, cs)
  | .set x lo hi r, ps, cs => if fmV ps hi < fmV ps lo then (none, cs) else rn r (putA ps x (fmV ps lo + shr (cs.headD 0) * (fmV ps hi - fmV ps lo))) cs.tail
  | .any x r, ps, cs => rn r (putA ps x (cs.headD 0)) cs.tail
  | .chk ts r, ps, cs => if ts.all (kpt ps) = true then rn r ps cs else (none, cs)
  | .ei p q r, ps, cs => match (if (cs.headD 0).num = 0 then rn p ps cs.tail else rn q ps cs.tail) with
    | (some ps', cs') => rn r ps' cs'
    | (none, cs') => (none, cs')
  | .rep n p r, ps, cs => match itN (rn p) n ps cs with
    | (some ps', cs') => rn r ps' cs'
    | (none, cs') => (none, cs')
/-- how many values are set at most -/
def cst : Pg → Nat
  | .nil => 0
  | .set _ _ _ r => 1 + cst r
  | .any _ r => 1 + cst r
  | .chk _ r => cst r
  | .ei p q r => cst p + cst q + cst r
  | .rep n p r => n * cst p + cst r
def dpt : Pg → Nat
  | .nil => 0
  | .set _ _ _ r => dpt r
  | .any _ r => dpt r
  | .chk _ r => dpt r
  | .ei p q r => max (max (dpt p + 1) (dpt q + 1)) (dpt r)
  | .rep _ p r => max (dpt p + 1) (dpt r)
/-! how large values grow -/
def nJ (j : Nat) : Nat := 6 * 120 ^ j
def bJ (j : Nat) : Nat := 5 * 3 ^ j
def Iq (j : Nat) (q : Rat) : Prop := ∃ n : Int, q * (((nJ j : Nat) : Int) : Rat) = (n : Rat) ∧ n.natAbs ≤ bJ j * nJ j
theorem nJ_succ (j : Nat) : nJ (j + 1) = 120 * nJ j := by unfold nJ; rw [Nat.pow_succ]; omega
theorem bJ_succ (j : Nat) : bJ (j + 1) = 3 * bJ j := by unfold bJ; rw [Nat.pow_succ]; omega
theorem nJ_pos (j : Nat) : 0 < nJ j := Nat.mul_pos (by decide) (Nat.pow_pos (by decide))
theorem bJ_pos (j : Nat) : 5 ≤ bJ j := Nat.le_mul_of_pos_right 5 (Nat.pow_pos (by decide))
theorem Iq.succ {j : Nat} {q : Rat} (h : Iq j q) : Iq (j + 1) q := by
  obtain ⟨n, e, hn⟩ := h
  refine ⟨120 * n, ?_, ?_⟩
  · rw [nJ_succ]
    have : (((120 * nJ j : Nat) : Int) : Rat) = 120 * (((nJ j : Nat) : Int) : Rat) := by
      rw [show ((120 * nJ j : Nat) : Int) = 120 * ((nJ j : Nat) : Int) by omega, Rat.intCast_mul]; rfl
    rw [this, show ((120 * n : Int) : Rat) = 120 * (n : Rat) by rw [Rat.intCast_mul]; rfl, ← e]
    grind
  · rw [nJ_succ, bJ_succ, show 3 * bJ j * (120 * nJ j) = 360 * (bJ j * nJ j) by
      rw [Nat.mul_assoc, Nat.mul_left_comm (bJ j), ← Nat.mul_assoc]]
    omega
theorem Iq.mono {j k : Nat} {q : Rat} (h : Iq j q) (hk : j ≤ k) : Iq k q := by
  induction k with
  | zero => rw [show j = 0 by omega] at h; exact h
  | succ k ih =>
    by_cases e : j = k + 1
    · rw [← e]; exact h
    · exact (ih (by omega)).succ
theorem Iq.bits {j : Nat} {q : Rat} (h : Iq j q) (hj : j ≤ 30) : Bq 300 q := by
  obtain ⟨n, e, hn⟩ := h.mono hj
  have hN : (((nJ 30 : Nat) : Int) : Rat) ≠ 0 := icast_ne (by have := nJ_pos 30; omega)
  have : q = (n : Rat) / (((nJ 30 : Nat) : Int) : Rat) := by rw [← e]; grind
  rw [this]
  refine Bq.frac (by have := nJ_pos 30; omega) (Nat.lt_of_le_of_lt hn (by decide +kernel)) (by decide +kernel)
structure FmOk (W : List Nm) (f : Fm) : Prop where
  nm : f.x ≠ [] → f.x ∈ W
  rt : ∃ a : Int, f.r * 2 = (a : Rat) ∧ a.natAbs ≤ 4
  nb : ∃ b : Int, f.c * 2 = (b : Rat) ∧ b.natAbs ≤ 8
/-- the values of the names are there, so many of them set -/
structure Iv (W : List Nm) (j : Nat) (ps : Al) : Prop where
  at_ : ∀ x ∈ W, ∃ q, getA ps x = some q ∧ Iq j q
  ln : ps.length ≤ 1000
theorem natAbs_lin {a n b h B : Int} (ha : a.natAbs ≤ 4) (hb : b.natAbs ≤ 8) (hh : 0 ≤ h) (hB : 5 * h ≤ B) (hn : (n.natAbs : Int) ≤ B) : ((a * n + b * h).natAbs : Int) ≤ 6 * B := by
  have h1 : ((a * n).natAbs : Int) ≤ 4 * B := by
    rw [Int.natAbs_mul, Int.natCast_mul]
    exact Int.le_trans (Int.mul_le_mul_of_nonneg_right (by omega : (a.natAbs : Int) ≤ 4) (by omega)) (Int.mul_le_mul_of_nonneg_left hn (by decide))
  have h2 : ((b * h).natAbs : Int) ≤ 8 * h := by
    rw [Int.natAbs_mul, Int.natCast_mul, Int.natAbs_of_nonneg hh]
    exact Int.mul_le_mul_of_nonneg_right (by omega) hh
  omega
/-- a form's value, twofold -/
theorem fmV_iq {W : List Nm} {j : Nat} {ps : Al} {f : Fm} (h : Iv W j ps) (hf : FmOk W f) : ∃ n : Int, fmV ps f * (2 * (((nJ j : Nat) : Int) : Rat)) = (n : Rat) ∧ n.natAbs ≤ 6 * (bJ j * nJ j) := by
  obtain ⟨a, ea, ha⟩ := hf.rt
  obtain ⟨b, eb, hb⟩ := hf.nb
  have hB : 5 * nJ j ≤ bJ j * nJ j := Nat.mul_le_mul_right _ (bJ_pos j)
  have key : ∀ (q : Rat) (n a : Int), a.natAbs ≤ 4 → q * (((nJ j : Nat) : Int) : Rat) = (n : Rat) → n.natAbs ≤ bJ j * nJ j → ∀ r : Rat, r * 2 = (a : Rat) → ∃ n' : Int, (r * q + f.c) * (2 * (((nJ j : Nat) : Int) : Rat)) = (n' : Rat) ∧ n'.natAbs ≤ 6 * (bJ j * nJ j) := fun q n a ha e hn r er => by
    refine ⟨a * n + b * (nJ j : Int), ?_, ?_⟩
    · rw [Rat.intCast_add, Rat.intCast_mul, Rat.intCast_mul, ← er, ← eb, ← e]
      grind
    · have := natAbs_lin (a := a) (n := n) (b := b) (h := (nJ j : Int)) (B := ((bJ j * nJ j : Nat) : Int)) ha hb (by omega) (by omega) (by omega)
      omega
  unfold fmV
  by_cases hx : f.x = []
  · rw [if_pos hx]
    obtain ⟨n, e, hn⟩ := key 0 0 0 (by decide) (by rw [Rat.zero_mul]; rfl) (by simp) 0 (by rw [Rat.zero_mul]; rfl)
    exact ⟨n, by rw [← e]; grind, hn⟩
  · rw [if_neg hx]
    obtain ⟨q, eq_, n, e, hn⟩ := h.at_ _ (hf.nm hx)
    rw [eq_]
    exact key q n a ha e hn f.r ea
def ShOk (s : Rat) : Prop := ∃ u : Nat, u ≤ 60 ∧ s * 60 = (((u : Nat) : Int) : Rat)
theorem Iq.step {j : Nat} {lo hi s : Rat} (h1 : ∃ n : Int, lo * (2 * (((nJ j : Nat) : Int) : Rat)) = (n : Rat) ∧ n.natAbs ≤ 6 * (bJ j * nJ j)) (h2 : ∃ n : Int, hi * (2 * (((nJ j : Nat) : Int) : Rat)) = (n : Rat) ∧ n.natAbs ≤ 6 * (bJ j * nJ j)) (hs : ShOk s) : Iq (j + 1) (lo + s * (hi - lo)) := by
  obtain ⟨n, e, hn⟩ := h1
  obtain ⟨k, e', hk⟩ := h2
  obtain ⟨u, hu, es⟩ := hs
  refine ⟨(60 - (u : Int)) * n + (u : Int) * k, ?_, ?_⟩
  · rw [nJ_succ]
    have : (((120 * nJ j : Nat) : Int) : Rat) = 120 * (((nJ j : Nat) : Int) : Rat) := by
      rw [show ((120 * nJ j : Nat) : Int) = 120 * ((nJ j : Nat) : Int) by omega, Rat.intCast_mul]; rfl
    rw [this, Rat.intCast_add, Rat.intCast_mul, Rat.intCast_mul, Rat.intCast_sub, ← es, ← e, ← e']
    have : ((60 : Int) : Rat) = 60 := rfl
    rw [this]
    grind
  · rw [nJ_succ, bJ_succ, show 3 * bJ j * (120 * nJ j) = 360 * (bJ j * nJ j) by
      rw [Nat.mul_assoc, Nat.mul_left_comm (bJ j), ← Nat.mul_assoc]]
    generalize bJ j * nJ j = B at hn hk ⊢
    have a1 : (((60 - (u : Int)) * n).natAbs : Int) ≤ (60 - (u : Int)) * (6 * B) := by
      rw [Int.natAbs_mul, Int.natCast_mul, Int.natAbs_of_nonneg (by omega)]
      exact Int.mul_le_mul_of_nonneg_left (by omega) (by omega)
    have a2 : (((u : Int) * k).natAbs : Int) ≤ (u : Int) * (6 * B) := by
      rw [Int.natAbs_mul, Int.natCast_mul, Int.natAbs_of_nonneg (by omega)]
      exact Int.mul_le_mul_of_nonneg_left (by omega) (by omega)
    have a3 : (60 - (u : Int)) * (6 * (B : Int)) + (u : Int) * (6 * (B : Int)) = 360 * B := by
      rw [← Int.add_mul, Int.sub_add_cancel]; omega
    omega
def ChOk (cs : List Rat) : Prop := ∀ c ∈ cs, Iq 0 c ∧ ShOk (shr c)
theorem ChOk.tail {cs : List Rat} (h : ChOk cs) : ChOk cs.tail := fun c hc => h c (List.mem_of_mem_tail hc)
theorem ChOk.hd {cs : List Rat} (h : ChOk cs) : Iq 0 (cs.headD 0) ∧ ShOk (shr (cs.headD 0)) := by
  cases cs with
  | nil => exact ⟨⟨0, by show (0 : Rat) * _ = _; rw [Rat.zero_mul]; rfl, by simp⟩, 0, by decide, by show shr 0 * 60 = _; rw [show shr 0 = 0 from rfl, Rat.zero_mul]; rfl⟩
  | cons c cs => exact h c List.mem_cons_self
def PgOk (W : List Nm) : Pg → Prop
  | .nil => True
  | .set x lo hi r => x ∈ W ∧ FmOk W lo ∧ FmOk W hi ∧ PgOk W r
  | .any x r => x ∈ W ∧ PgOk W r
  | .chk ts r => (∀ T ∈ ts, T.ts.length ≤ 2 ∧ Bq 2000 T.b ∧ ∀ t ∈ T.ts, Bq 300 t.2 ∧ t.1 ∈ W) ∧ ts.length ≤ 1000 ∧ PgOk W r
  | .ei p q r => PgOk W p ∧ PgOk W q ∧ PgOk W r
  | .rep n p r => n ≤ 1000 ∧ PgOk W p ∧ PgOk W r
theorem Iv.mono {W : List Nm} {j k : Nat} {ps : Al} (h : Iv W j ps) (hk : j ≤ k) : Iv W k ps := ⟨fun x hx => let ⟨q, e, i⟩ := h.at_ x hx; ⟨q, e, i.mono hk⟩, h.ln⟩
theorem Iv.has {W : List Nm} {j : Nat} {ps : Al} {x : Nm} (h : Iv W j ps) (hx : x ∈ W) : (ps.any fun p => decide (p.1 = x)) = true := by
  obtain ⟨q, e, _⟩ := h.at_ x hx
  unfold getA at e
  cases e' : ps.find? fun p => decide (p.1 = x) with
  | none => rw [e'] at e; cases e
  | some p => exact List.any_eq_true.mpr ⟨p, List.mem_of_find?_eq_some e', by have z := List.find?_some (p := fun p : Nm × Rat => decide (p.1 = x)) e'; exact z⟩
theorem Iv.put {W : List Nm} {j : Nat} {ps : Al} {x : Nm} {v : Rat} (h : Iv W j ps) (hx : x ∈ W) (hv : Iq (j + 1) v) : Iv W (j + 1) (putA ps x v) := by
  refine ⟨fun y hy => ?_, ?_⟩
  · rw [getA_put]
    by_cases e : y = x
    · rw [if_pos e]; exact ⟨v, rfl, hv⟩
    · rw [if_neg e]
      obtain ⟨q, e, i⟩ := h.at_ y hy
      exact ⟨q, e, i.succ⟩
  · unfold putA
    rw [if_pos (h.has hx), List.length_map]
    exact h.ln
/-- what a run keeps -/
def Kp (W : List Nm) (j : Nat) (o : Option Al × List Rat) : Prop := (∀ ps, o.1 = some ps → Iv W j ps) ∧ ChOk o.2
theorem itN_kp {W : List Nm} {f : Al → List Rat → Option Al × List Rat} {c : Nat} (hf : ∀ j ps cs, Iv W j ps → ChOk cs → Kp W (j + c) (f ps cs)) : ∀ (n j : Nat) (ps : Al) (cs : List Rat), Iv W j ps → ChOk cs → Kp W (j + n * c) (itN f n ps cs)
  | 0, j, ps, cs, h, hc => ⟨(fun ps' e => by cases e; exact h.mono (by omega)), hc⟩
  | n + 1, j, ps, cs, h, hc => by
    have k := hf j ps cs h hc
    unfold itN
    split
    · rename_i ps' cs' e
      rw [e] at k
      have := itN_kp hf n (j + c) ps' cs' (k.1 _ rfl) k.2
      rw [Nat.succ_mul, show j + (n * c + c) = j + c + n * c by omega]
      exact this
    · rename_i cs' e
      rw [e] at k
      exact ⟨(fun ps' e' => by cases e'), k.2⟩
theorem rn_kp {W : List Nm} : ∀ (pg : Pg) (j : Nat) (ps : Al) (cs : List Rat), PgOk W pg → Iv W j ps → ChOk cs → Kp W (j + cst pg) (rn pg ps cs)
  | .nil, j, ps, cs, _, h, hc => ⟨(fun ps' e => by cases e; exact h), hc⟩
  | .set x lo hi r, j, ps, cs, hp, h, hc => by
    obtain ⟨hx, h1, h2, hr⟩ := hp
    unfold rn
    split
    · exact ⟨(fun ps' e => by cases e), hc⟩
    · have := rn_kp r (j + 1) _ cs.tail hr (h.put hx (Iq.step (fmV_iq h h1) (fmV_iq h h2) hc.hd.2)) hc.tail
      rw [show j + cst (.set x lo hi r) = j + 1 + cst r by show j + (1 + cst r) = _; omega]
      exact this
  | .any x r, j, ps, cs, hp, h, hc => by
    obtain ⟨hx, hr⟩ := hp
    unfold rn
    have := rn_kp r (j + 1) _ cs.tail hr (h.put hx (hc.hd.1.mono (by omega))) hc.tail
    rw [show j + cst (.any x r) = j + 1 + cst r by show j + (1 + cst r) = _; omega]
    exact this
  | .chk ts r, j, ps, cs, hp, h, hc => by
    unfold rn
    split
    · exact rn_kp r j ps cs hp.2.2 h hc
    · exact ⟨(fun ps' e => by cases e), hc⟩
  | .ei p q r, j, ps, cs, hp, h, hc => by
    obtain ⟨h1, h2, hr⟩ := hp
    have k : Kp W (j + cst p + cst q) (if (cs.headD 0).num = 0 then rn p ps cs.tail else rn q ps cs.tail) := by
      split
      · have := rn_kp p j ps cs.tail h1 h hc.tail
        exact ⟨fun ps' e => (this.1 ps' e).mono (by omega), this.2⟩
      · have := rn_kp q j ps cs.tail h2 h hc.tail
        exact ⟨fun ps' e => (this.1 ps' e).mono (by omega), this.2⟩
    unfold rn
    split
    · rename_i ps' cs' e
      rw [e] at k
      have := rn_kp r _ ps' cs' hr (k.1 _ rfl) k.2
      rw [show j + cst (.ei p q r) = j + cst p + cst q + cst r by show j + (cst p + cst q + cst r) = _; omega]
      exact this
    · rename_i cs' e
      rw [e] at k
      exact ⟨(fun ps' e' => by cases e'), k.2⟩
  | .rep n p r, j, ps, cs, hp, h, hc => by
    obtain ⟨_, h1, hr⟩ := hp
    have k := itN_kp (W := W) (f := rn p) (c := cst p) (fun j ps cs h hc => rn_kp p j ps cs h1 h hc) n j ps cs h hc
    unfold rn
    split
    · rename_i ps' cs' e
      rw [e] at k
      have := rn_kp r _ ps' cs' hr (k.1 _ rfl) k.2
      rw [show j + cst (.rep n p r) = j + n * cst p + cst r by show j + (n * cst p + cst r) = _; omega]
      exact this
    · rename_i cs' e
      rw [e] at k
      exact ⟨(fun ps' e' => by cases e'), k.2⟩

/-! ### k40: the runner's small methods -/
abbrev rnF (L : Addr) : List (Str × D) := [(("left" : Str), D.ref L)]
theorem lk_left {L : Addr} : List.lookup ("left" : Str) (rnF L) = some (.ref L) := by simp [List.lookup]
/-- a runner and its list of choices -/
def RnM (m : Mem) (p L : Addr) (cs : List Rat) : Prop := m p = some (.ins "Runner" (rnF L)) ∧ m L = some (.lst (cs.map qD)) ∧ p ≠ L
def ph_Runner___init__ : P0 := fun ds m k => ∃ (p : Addr) (cs : List Rat), ds = [.ref p, .pr (cs.map qD)] ∧ cs.length ≤ 1000 ∧ m p = some (.ins "Runner" []) ∧ ∀ L, m L = none → k .non (mset (mset m L (.lst (cs.map qD))) p (.ins "Runner" (rnF L)))
def ph_Runner_choice : P0 := fun ds m k => ∃ (p L : Addr) (cs : List Rat), ds = [.ref p] ∧ RnM m p L cs ∧ k (qD (cs.headD 0)) (mset m L (.lst (cs.tail.map qD)))
def ph_Runner_share : P0 := fun ds m k => ∃ (p L : Addr) (cs : List Rat), ds = [.ref p] ∧ RnM m p L cs ∧ ChOk cs ∧ k (qD (shr (cs.headD 0))) (mset m L (.lst (cs.tail.map qD)))
def ph_Runner_form_value : P0 := fun ds m k => ∃ (o d : D) (f : Fm) (ps : Al) (W : List Nm) (j : Nat), ds = [o, fmD f, d] ∧ asK m d = some (alD ps) ∧ Iv W j ps ∧ FmOk W f ∧ j ≤ 29 ∧ k (qD (fmV ps f)) m
theorem l_Runner___init__ : ∀ ds m k, ph_Runner___init__ ds m k → ds.length = 2 := by rintro _ m k ⟨_, _, rfl, _⟩; rfl
theorem l_Runner_choice : ∀ ds m k, ph_Runner_choice ds m k → ds.length = 1 := by rintro _ m k ⟨_, _, _, rfl, _⟩; rfl
theorem l_Runner_share : ∀ ds m k, ph_Runner_share ds m k → ds.length = 1 := by rintro _ m k ⟨_, _, _, rfl, _⟩; rfl
theorem l_Runner_form_value : ∀ ds m k, ph_Runner_form_value ds m k → ds.length = 3 := by rintro _ m k ⟨_, _, _, _, _, _, rfl, _⟩; rfl
/- def Runner.__init__, slots 0 self 1 choices -/
@[reducible] def v_Runner___init__ : VS :=
  (vSetF "Runner" "left" (vVar 0) (vCB oListO (vCons (vVar 1) vNil)))
/- def Runner.choice, slots 0 self -/
@[reducible] def v_Runner_choice : VS :=
  (vRet (vIf (tV (vOp oNe (vFld "Runner" "left" (vVar 0)) (vLst vNil))) (vBM "list" oPop (vFld "Runner" "left" (vVar 0)) (vCons (vC (.int 0)) vNil)) (vC (.tup [.int 0, .int 1]))))
/- def Runner.share, slots 0 self 1 size -/
@[reducible] def v_Runner_share : VS :=
  (vSeq (vSet 1 (vMeth "Runner" "choice" ph_Runner_choice (vVar 0) vNil))
    (vRet (vIf (tV (vOp oEq (vOp oIx (vVar 1) (vC (.int 0))) (vC (.int 0)))) (vC (.tup [.int 0, .int 1])) (vCall ph_lowest (vCons (vOp oIx (vVar 1) (vC (.int 1))) (vCons (vOp oAdd (vOp oIx (vVar 1) (vC (.int 1))) (vCB oAbs (vCons (vOp oIx (vVar 1) (vC (.int 0))) vNil))) vNil))))))
/- def Runner.form_value, slots 0 self 1 form 2 values -/
@[reducible] def v_Runner_form_value : VS :=
  (vRet (vIf (tV (vOp oEq (vOp oIx (vVar 1) (vC (.int 1))) (vC (.str "")))) (vOp oIx (vVar 1) (vC (.int 2))) (vCall ph_add (vCons (vCall ph_multiply (vCons (vOp oIx (vVar 1) (vC (.int 0))) (vCons (vDGet (vVar 2) (vOp oIx (vVar 1) (vC (.int 1)))) vNil))) (vCons (vOp oIx (vVar 1) (vC (.int 2))) vNil)))))


theorem eqK_left {m : Mem} {L : Addr} {cs : List Rat} {k : Bool → Prop} (hL : m L = some (.lst (cs.map qD))) (hk : k (decide (cs = []))) : eqK (.ref L) (.lst []) m k := by
  show eqP m (.ref L) (.lst []) k
  have e : now m (.ref L) = now m (.lst (cs.map qD)) := by show (match m L with | some (.lst ds) => D.lst ds | _ => _) = _; rw [hL]; rfl
  have z : eqP m (.lst (cs.map qD)) (.lst []) k := by
    refine eqP_D (cEs_of fun d hd => ?_) rfl ?_ (by decide) ?_ hk
    · obtain ⟨q, _, rfl⟩ := List.mem_map.mp hd; rfl
    · have : dpDs (cs.map qD) ≤ 1 := dpDs_of fun d hd => by obtain ⟨q, _, rfl⟩ := List.mem_map.mp hd; exact Nat.le_refl 1
      show dpDs _ + 1 ≤ 64
      omega
    · cases cs <;> simp
  unfold eqP at z ⊢
  rw [e]; exact z
theorem w_Runner___init__ : ∀ ds m k, ph_Runner___init__ ds m k → v_Runner___init__ (dstart 2 ds) m (endP k) := by
  rintro _ m k ⟨p, cs, rfl, hl, hp, hk⟩
  unfold v_Runner___init__
  walk_at "vc"
  intro L hL
  have hpL : p ≠ L := fun z => by rw [← z, hp] at hL; cases hL
  rw [mset_ne hpL, hp, onIo_1]
  exact ⟨by decide, by show 0 < 1000; decide, hk L hL⟩
theorem w_Runner_choice : ∀ ds m k, ph_Runner_choice ds m k → v_Runner_choice (dstart 1 ds) m (endP k) := by
  rintro _ m k ⟨p, L, cs, rfl, ⟨hp, hL, hn⟩, hk⟩
  unfold v_Runner_choice
  walk_at "vc"
  rw [hp, insO_1, onO_1, lk_left, onO_1, onO_1, lk_left, onO_1]
  walk_at "vc"
  rw [hL]
  cases cs with
  | nil =>
    walk_at "vc"
    refine eqK_left hL ?_
    walk_at "vc"
    have e : mset m L (.lst (List.map qD [])) = m := by
      funext b
      by_cases hb : b = L
      · rw [hb, mset_same, hL]
      · rw [mset_ne hb]
    rw [show ([] : List Rat).tail = [] from rfl, e] at hk
    exact hk
  | cons c cs =>
    walk_at "vc"
    refine eqK_left hL ?_
    walk_at "vc"
    exact ⟨by decide, by decide, 0, _, (by simp [seqIndex?]), rfl, hk⟩
theorem w_Runner_share : ∀ ds m k, ph_Runner_share ds m k → v_Runner_share (dstart 2 ds) m (endP k) := by
  rintro _ m k ⟨p, L, cs, rfl, hr, hc, hk⟩
  unfold v_Runner_share
  walk_at "vc"
  rw [hr.1, insO_1, onO_1]
  have nl : List.lookup ("choice" : Str) (rnF L) = none := by
    have : (("choice" : Str) == ("left" : Str)) = false := by decide +kernel
    simp only [List.lookup, this]
  refine ⟨nl, p, L, cs, rfl, hr, ?_⟩
  walk_at "vc"
  unfold shr at hk
  refine itP (fun h => ?_) fun h => ?_
  · rw [if_pos h] at hk
    exact hk
  · rw [if_neg h] at hk
    refine pq_low ?_ ?_ ?_
    · have := (cs.headD 0).den_nz; omega
    · have b := (hc.hd.1.bits (by decide))
      have b1 : (cs.headD 0).num.natAbs < 2 ^ 300 := b.1
      have b2 : (((cs.headD 0).den : Int)).natAbs < 2 ^ 300 := b.2
      have : (2 : Nat) ^ 301 ≤ 2 ^ 8000 := Nat.pow_le_pow_right (by decide) (by decide)
      have e : (2 : Nat) ^ 301 = 2 ^ 300 + 2 ^ 300 := by rw [Nat.pow_succ]; omega
      omega
    · exact hk
theorem w_Runner_form_value : ∀ ds m k, ph_Runner_form_value ds m k → v_Runner_form_value (dstart 3 ds) m (endP k) := by
  rintro _ m k ⟨o, d, f, ps, W, j, rfl, hd, hi, hf, hj, hk⟩
  unfold v_Runner_form_value
  walk_at "vc"
  unfold fmV at hk
  by_cases hx : f.x = []
  · rw [if_pos hx] at hk
    rw [if_pos (by rw [hx]; rfl)]
    exact hk
  · rw [if_neg hx] at hk
    rw [if_neg (fun z => hx (S_inj (z.trans (show _ = S [] from rfl)))), hd, onO_1, val_al]
    obtain ⟨q, e, iq⟩ := hi.at_ _ (hf.nm hx)
    rw [e] at hk ⊢
    show ph_multiply [qD f.r, qD q] m _
    obtain ⟨a, ea, ha⟩ := hf.rt
    obtain ⟨b, eb, hb⟩ := hf.nb
    have hr : Bq 4 f.r := by
      have : f.r = (a : Rat) / ((2 : Int) : Rat) := by rw [← ea]; show f.r = f.r * 2 / 2; grind
      rw [this]; exact Bq.frac (by decide) (by omega) (by decide)
    have hc : Bq 5 f.c := by
      have : f.c = (b : Rat) / ((2 : Int) : Rat) := by rw [← eb]; show f.c = f.c * 2 / 2; grind
      rw [this]; exact Bq.frac (by decide) (by omega) (by decide)
    have hq := iq.bits (by omega)
    exact pq_mul (hr.mono (by decide)) (hq.mono (by decide)) (pq_add ((hr.mul hq).mono (by decide)) (hc.mono (by decide)) hk)

/-! ### k40: run and inner -/
/-- what a run of a program hands back: None, or a new dict; the list of choices is shortened -/
def anR (k : KD) (m : Mem) (L : Addr) (o : Option Al × List Rat) : Prop := (o.1 = none → k .non (mset m L (.lst (o.2.map qD)))) ∧ ∀ ps', o.1 = some ps' → ∀ q, m q = none → k (.ref q) (mset (mset m q (.dic (alD ps'))) L (.lst (o.2.map qD)))
def ph_Runner_run (n : Nat) : PX := fun ds m k x => ∃ (p L : Addr) (d : D) (pg : Pg) (ps : Al) (cs : List Rat) (W : List Nm) (j : Nat), ds = [.ref p, .tup (pgD pg), d] ∧ RnM m p L cs ∧ asK m d = some (alD ps) ∧ PgOk W pg ∧ Iv W j ps ∧ ChOk cs ∧ j + cst pg ≤ 29 ∧ dpt pg < n ∧ anR k m L (rn pg ps cs)
def ph_Runner_inner (n : Nat) : PX := fun ds m k x => ∃ (p L : Addr) (d : D) (ps : Al) (cs : List Rat) (W : List Nm) (j : Nat), RnM m p L cs ∧ asK m d = some (alD ps) ∧ Iv W j ps ∧ ChOk cs ∧
  ((∃ a b : Pg, ds = [.ref p, .str "either", .lst [.tup (pgD a), .tup (pgD b)], d] ∧ PgOk W a ∧ PgOk W b ∧ dpt a < n ∧ dpt b < n ∧ j + cst a + cst b ≤ 29 ∧ anR k m L (if (cs.headD 0).num = 0 then rn a ps cs.tail else rn b ps cs.tail)) ∨
   (∃ (i : Nat) (a : Pg), ds = [.ref p, .str "repeat", .lst [.int (i : Int), .tup (pgD a)], d] ∧ PgOk W a ∧ dpt a < n ∧ i ≤ 1000 ∧ j + i * cst a ≤ 29 ∧ (i = 0 → k d m) ∧ anR k m L (itN (rn a) i ps cs)))
theorem l_Runner_run (n : Nat) : ∀ ds m k x, ph_Runner_run n ds m k x → ds.length = 3 := by rintro _ m k x ⟨_, _, _, _, _, _, _, _, rfl, _⟩; rfl
theorem l_Runner_inner (n : Nat) : ∀ ds m k x, ph_Runner_inner n ds m k x → ds.length = 4 := by
  rintro _ m k x ⟨_, _, _, _, _, _, _, _, _, _, _, ⟨_, _, rfl, _⟩ | ⟨_, _, rfl, _⟩⟩ <;> rfl
theorem w_Runner_run_0 : ∀ ds m k x, ph_Runner_run 0 ds m k x → False := by rintro _ m k x ⟨_, _, _, _, _, _, _, _, _, _, _, _, _, _, _, h, _⟩; omega
@[reducible] def v_Runner_inner_b1 (φ : PX) : VS :=
  (vSeq (vSet 4 (vMethX "Runner" "run" φ (vVar 0) (vCons (vOp oIx (vVar 2) (vC (.int 1))) (vCons (vVar 4) vNil))))
    (vIfS (tV (vOp oIs (vVar 4) (vC .non))) (vRet (vC .non)) vNext))
/- def Runner.inner, slots 0 self 1 word 2 parts 3 values 4 here 5 turn -/
@[reducible] def v_Runner_inner (φ : PX) : VS :=
  (vSeq (vIfS (tV (vOp oEq (vVar 1) (vC (.str "either")))) (vRet (vMethX "Runner" "run" φ (vVar 0) (vCons (vIf (tV (vOp oEq (vOp oIx (vMeth "Runner" "choice" ph_Runner_choice (vVar 0) vNil) (vC (.int 0))) (vC (.int 0)))) (vOp oIx (vVar 2) (vC (.int 0))) (vOp oIx (vVar 2) (vC (.int 1)))) (vCons (vVar 3) vNil)))) vNext)
    (vSeq (vSet 4 (vVar 3))
    (vSeq (vFor (vRng1 (vCons (vOp oIx (vVar 2) (vC (.int 0))) vNil)) (gN 5) (v_Runner_inner_b1 φ))
    (vRet (vVar 4)))))


theorem lk_noL {f : Str} {L : Addr} (h : (f == ("left" : Str)) = false) : List.lookup f (rnF L) = none := by simp only [List.lookup, h]
theorem asK_step {m : Mem} {d : D} {L : Addr} {ps : Al} {xs ys : List D} (h : asK m d = some (alD ps)) (hL : m L = some (.lst xs)) : asK (mset m L (.lst ys)) d = some (alD ps) := by
  cases d with
  | ref a =>
    have : a ≠ L := fun z => by subst z; rw [show asK m (.ref a) = dicO (m a) from rfl, hL] at h; cases h
    show dicO (mset m L _ a) = _
    rw [mset_ne this]; exact h
  | dic _ => exact h
  | _ => cases h
theorem RnM.step {m : Mem} {p L : Addr} {cs cs' : List Rat} (h : RnM m p L cs) : RnM (mset m L (.lst (cs'.map qD))) p L cs' := ⟨by rw [mset_ne h.2.2]; exact h.1, mset_same, h.2.2⟩
theorem anR_sub {k : KD} {m : Mem} {L : Addr} {o : Option Al × List Rat} {v : MO} (h : anR k m L o) : anR (fun d m' => ∃ m'', MLe m'' m' ∧ k d m'') (mset m L v) L o := by
  refine ⟨fun e => ⟨_, MLe.refl _, ?_⟩, fun ps' e q hq => ⟨_, MLe.refl _, ?_⟩⟩
  · rw [mset_mset]; exact h.1 e
  · have hqL : q ≠ L := fun z => by rw [z, mset_same] at hq; cases hq
    have hm : m q = none := by rw [mset_ne hqL] at hq; exact hq
    have e2 : mset (mset (mset m L v) q (.dic (alD ps'))) L (.lst (o.2.map qD)) = mset (mset m q (.dic (alD ps'))) L (.lst (o.2.map qD)) := by
      funext b
      by_cases hb : b = L
      · rw [hb, mset_same, mset_same]
      · rw [mset_ne hb, mset_ne hb]
        by_cases hb2 : b = q
        · rw [hb2, mset_same, mset_same]
        · rw [mset_ne hb2, mset_ne hb2, mset_ne hb]
    rw [e2]
    exact h.2 ps' e q hm
theorem w_Runner_inner (n : Nat) : ∀ ds m k x, ph_Runner_inner n ds m k x → v_Runner_inner (ph_Runner_run n) (dstart 6 ds) m (endX k x) := by
  rintro _ m k x ⟨p, L, d, ps, cs, W, j, hr, hd, hi, hc, ⟨a, b, rfl, ha, hb, na, nb, hj, hk⟩ | ⟨i, a, rfl, ha, na, hi2, hj, hz, hk⟩⟩
  · unfold v_Runner_inner
    walk_at "vc"
    simp only [hr.1, insO_1, onO_1]
    refine ⟨lk_noL (by decide +kernel), lk_noL (by decide +kernel), p, L, cs, rfl, hr, ?_⟩
    walk_at "vc"
    refine itP (fun h => ?_) fun h => ?_
    · rw [if_pos h] at hk
      exact ⟨p, L, d, a, ps, cs.tail, W, j, rfl, hr.step, asK_step hd hr.2.1, ha, hi, hc.tail, by omega, na, anR_sub hk⟩
    · rw [if_neg h] at hk
      exact ⟨p, L, d, b, ps, cs.tail, W, j, rfl, hr.step, asK_step hd hr.2.1, hb, hi, hc.tail, by omega, nb, anR_sub hk⟩
  · unfold v_Runner_inner v_Runner_inner_b1
    walk_at "vc"
    rw [if_neg (by decide +kernel)]
    refine ⟨⟨by omega, by omega⟩, ?_⟩
    refine forV_ind (fun rest s m' => ∃ (c : Nat) (d' : D) (e : Option D) (ps' : Al) (cs' : List Rat) (j' : Nat), rest.length = c ∧ s = [some (D.ref p), some (D.str (Str.ofString "repeat")), some (D.lst [D.int (i : Int), D.tup (pgD a)]), some d, some d', e] ∧
      RnM m' p L cs' ∧ MLe (mset m L (.lst (cs'.map qD))) m' ∧ asK m' d' = some (alD ps') ∧ ((c = i ∧ d' = d ∧ m' = m) ∨ ∃ q, d' = .ref q ∧ m q = none) ∧ Iv W j' ps' ∧ ChOk cs' ∧ j' + c * cst a ≤ 29 ∧ itN (rn a) i ps cs = itN (rn a) c ps' cs') ?_ ?_ ⟨i, d, none, ps, cs, j, by simp [rngD], rfl, hr, ?_, hd, .inl ⟨rfl, rfl, rfl⟩, hi, hc, hj, rfl⟩
    · rintro s m' ⟨c, d', e, ps', cs', j', hl, rfl, hr', hm, hd', ho, hi', hc', hj', he⟩
      obtain rfl : c = 0 := by rw [← hl]; rfl
      show ∃ m'', MLe m'' m' ∧ k d' m''
      rcases ho with ⟨h0, rfl, rfl⟩ | ⟨q, rfl, hq⟩
      · exact ⟨_, MLe.refl _, hz h0.symm⟩
      · have he : itN (rn a) i ps cs = (some ps', cs') := he
        have z := hk.2 ps' (by rw [he]) q hq
        rw [he] at z
        refine ⟨_, fun b o h => ?_, z⟩
        by_cases hb : b = L
        · rw [hb, mset_same] at h; rw [hb]; exact hm L o (by rw [mset_same]; exact h)
        · rw [mset_ne hb] at h
          by_cases hb2 : b = q
          · rw [hb2, mset_same] at h
            rw [hb2]
            have hd' : dicO (m' q) = some (alD ps') := hd'
            cases e2 : m' q with
            | none => rw [e2] at hd'; cases hd'
            | some u => cases u <;> (rw [e2] at hd'; first | (cases hd'; exact h) | cases hd')
          · rw [mset_ne hb2] at h
            exact hm b o (by rw [mset_ne hb]; exact h)
    · rintro d0 ds s m' ⟨c, d', e, ps', cs', j', hl, rfl, hr', hm, hd', ho, hi', hc', hj', he⟩ ih
      obtain ⟨c, rfl⟩ : ∃ c', c = c' + 1 := ⟨ds.length, by rw [← hl]; rfl⟩
      walk_at "vc"
      simp only [hr'.1, insO_1, onO_1]
      have kp := rn_kp a j' ps' cs' ha hi' hc'
      rw [Nat.succ_mul] at hj'
      refine ⟨lk_noL (by decide +kernel), p, L, d', a, ps', cs', W, j', rfl, hr', hd', ha, hi', hc', by omega, na, fun e1 => ?_, fun ps2 e1 q hq => ?_⟩
      · have he2 : itN (rn a) i ps cs = (none, (rn a ps' cs').2) := by
          rw [he]; show (match rn a ps' cs' with | (some ps', cs') => itN (rn a) c ps' cs' | (none, cs') => (none, cs')) = _
          cases h : rn a ps' cs' with
          | mk o r => rw [h] at e1; cases e1; rfl
        have z := hk.1 (by rw [he2])
        rw [he2] at z
        refine ⟨_, fun b o h => ?_, z⟩
        by_cases hb : b = L
        · rw [hb, mset_same] at h ⊢; exact h
        · rw [mset_ne hb] at h ⊢; exact hm b o (by rw [mset_ne hb]; exact h)
      · have he2 : itN (rn a) i ps cs = itN (rn a) c ps2 (rn a ps' cs').2 := by
          rw [he]; show (match rn a ps' cs' with | (some ps', cs') => itN (rn a) c ps' cs' | (none, cs') => (none, cs')) = _
          cases h : rn a ps' cs' with
          | mk o r => rw [h] at e1; cases e1; rfl
        have hqL : q ≠ L := fun z => by rw [z, hr'.2.1] at hq; cases hq
        have hqp : q ≠ p := fun z => by rw [z, hr'.1] at hq; cases hq
        have hmq : m q = none := by
          cases e2 : m q with
          | none => rfl
          | some o => have := hm q o (by rw [mset_ne hqL]; exact e2); rw [hq] at this; cases this
        dsimp only
        rw [if_neg (by simp)]
        refine ih _ _ ⟨c, .ref q, some d0, ps2, (rn a ps' cs').2, j' + cst a, by simpa using hl, rfl, ⟨?_, mset_same, hr'.2.2⟩, fun b o h => ?_, ?_, .inr ⟨q, rfl, hmq⟩, kp.1 _ e1, kp.2, by omega, he2⟩
        · rw [mset_ne hr'.2.2, mset_ne (Ne.symm hqp)]; exact hr'.1
        · by_cases hb : b = L
          · rw [hb, mset_same] at h ⊢; exact h
          · rw [mset_ne hb] at h ⊢
            rw [mset_ne (fun z => by rw [z, hmq] at h; cases h)]
            exact hm b o (by rw [mset_ne hb]; exact h)
        · show dicO (mset _ L _ q) = _
          rw [mset_ne hqL, mset_same]; rfl
    · intro b o h
      by_cases hb : b = L
      · rw [hb, mset_same] at h; rw [hb, hr.2.1]; exact h
      · rw [mset_ne hb] at h; exact h

/-! ### k40: run -/
@[reducible] def v_Runner_run_b1 (φ : PX) : VS :=
  (vSeq (vStar 5 6 (vVar 4))
    (vIfS (tV (vOp oEq (vVar 5) (vC (.str "set")))) (vSeq (vAsg (vLc (vWalk (vSl (vVar 6) (vP (vC (.int 1))) vNoP)) (gN 10) vYes (vMeth "Runner" "form_value" ph_Runner_form_value (vVar 0) (vCons (vVar 10) (vCons (vVar 3) vNil))) [10]) (gUl 2 (gCn (gN 7) (gCn (gN 8) gNl))))
    (vSeq (vIfS (tV (vCall ph_is_less (vCons (vVar 8) (vCons (vVar 7) vNil)))) (vRet (vC .non)) vNext)
    (vDPut (vVar 3) (vOp oIx (vVar 6) (vC (.int 0))) (vCall ph_add (vCons (vVar 7) (vCons (vCall ph_multiply (vCons (vMeth "Runner" "share" ph_Runner_share (vVar 0) vNil) (vCons (vCall ph_subtract (vCons (vVar 8) (vCons (vVar 7) vNil))) vNil))) vNil)))))) (vIfS (tV (vOp oEq (vVar 5) (vC (.str "any")))) (vDPut (vVar 3) (vOp oIx (vVar 6) (vC (.int 0))) (vMeth "Runner" "choice" ph_Runner_choice (vVar 0) vNil)) (vIfS (tV (vOp oEq (vVar 5) (vC (.str "check")))) (vIfS (vNot (tV (vCB oAll (vCons (vLc (vWalk (vOp oIx (vVar 6) (vC (.int 0)))) (gN 11) vYes (vCall ph_is_kept (vCons (vVar 11) (vCons (vVar 3) vNil))) [11]) vNil)))) (vRet (vC .non)) vNext) (vSeq (vSet 9 (vMethX "Runner" "inner" φ (vVar 0) (vCons (vVar 5) (vCons (vVar 6) (vCons (vVar 3) vNil)))))
    (vSeq (vIfS (tV (vOp oIs (vVar 9) (vC .non))) (vRet (vC .non)) vNext)
    (vSet 3 (vVar 9))))))))
/- def Runner.run, slots 0 self 1 program 2 values 3 here 4 statement 5 word 6 parts 7 low 8 top 9 later 10 form 11 tie -/
@[reducible] def v_Runner_run (φ : PX) : VS :=
  (vSeq (vSet 3 (vCB oDictO (vCons (vVar 2) vNil)))
    (vSeq (vFor (vWalk (vVar 1)) (gN 4) (v_Runner_run_b1 φ))
    (vRet (vVar 3))))


/-- the slots of run behind the loop's start -/
abbrev slR (p : Addr) (o : List D) (d : D) (q : Addr) (es : List (Option D)) : SL := [some (.ref p), some (.tup o), some d, some (.ref q)] ++ es
/-- a set -/
theorem st_set {n : Nat} {p L q : Addr} {m' : Mem} {o : List D} {d : D} {W : List Nm} {j : Nat} {G : DE} {x : Nm} {lo up : Fm} {ps : Al} {cs : List Rat} {e5 e6 e7 e8 e9 e10 e11 : Option D} (hx : x ∈ W) (h1 : FmOk W lo) (h2 : FmOk W up) (hi : Iv W j ps) (hc : ChOk cs) (hj : j ≤ 28) (hr : RnM m' p L cs) (hd : m' q = some (.dic (alD ps))) (hqL : q ≠ L)
    (g0 : fmV ps up < fmV ps lo → G.rt .non m')
    (g1 : ¬ fmV ps up < fmV ps lo → ∀ e4 e5 e6 e7 e8 e9 e10 e11 : Option D, G.nx (slR p o d q [e4, e5, e6, e7, e8, e9, e10, e11]) (mset (mset m' L (.lst (cs.tail.map qD))) q (.dic (alD (putA ps x (fmV ps lo + shr (cs.headD 0) * (fmV ps up - fmV ps lo))))))) :
    v_Runner_run_b1 (ph_Runner_inner n) (slR p o d q [some (.tup [.str "set", .str (S x), fmD lo, fmD up]), e5, e6, e7, e8, e9, e10, e11]) m' G := by
  unfold v_Runner_run_b1
  walk_at "vc"
  refine ⟨Nat.le_trans (m := 3) (by show 2 ≤ 3; decide) (by decide), ?_⟩
  have fv : ∀ f : Fm, FmOk W f → ∀ (k : KD), k (qD (fmV ps f)) m' → ph_Runner_form_value [.ref p, fmD f, .ref q] m' k := fun f hf k hk => ⟨_, _, f, ps, W, j, rfl, by show dicO (m' q) = _; rw [hd]; rfl, hi, hf, by omega, hk⟩
  have bq : ∀ f : Fm, FmOk W f → Bq 310 (fmV ps f) := fun f hf => by
    have z := Iq.step (j := j) (fmV_iq hi hf) (fmV_iq hi hf) ⟨0, by decide, by rw [Rat.zero_mul]; rfl⟩
    rw [Rat.zero_mul, Rat.add_zero] at z
    exact (z.bits (by omega)).mono (by decide)
  refine lc_map (f := fmD) (h := fun f => qD (fmV ps f)) [lo, up] [] (fun f hf k' kn hk' => ?_) ?_
  · walk_at "vc"
    rw [hr.1, insO_1, onO_1]
    refine ⟨lk_noL (by decide +kernel), fv f ?_ _ hk'⟩
    simp only [List.mem_cons, List.not_mem_nil, or_false] at hf
    rcases hf with rfl | rfl
    · exact h1
    · exact h2
  · walk_at "vc"
    refine pq_less ((bq up h2).mono (by decide)) ((bq lo h1).mono (by decide)) ?_
    walk_at "vc"
    refine itP (fun h => g0 h) fun h => ?_
    rw [hr.1, insO_1, onO_1]
    refine ⟨lk_noL (by decide +kernel), p, L, cs, rfl, hr, hc, ?_⟩
    have sb : Bq 310 (shr (cs.headD 0)) := by
      obtain ⟨u, hu, e⟩ := hc.hd.2
      have : shr (cs.headD 0) = ((u : Int) : Rat) / ((60 : Int) : Rat) := by rw [← e]; show _ = _ * 60 / 60; grind
      rw [this]
      exact (Bq.frac (n := 7) (by decide) (by omega) (by decide)).mono (by decide)
    have db := (bq up h2).sub (bq lo h1)
    refine pq_sub ((bq up h2).mono (by decide)) ((bq lo h1).mono (by decide)) ?_
    refine pq_mul (sb.mono (by decide)) (db.mono (by decide)) ?_
    refine pq_add ((bq lo h1).mono (by decide)) ((sb.mul db).mono (by decide)) ?_
    rw [mset_ne hqL, hd]
    show (alD ps).length < 1000000 ∧ _
    refine ⟨by unfold alD; rw [List.length_map]; have := hi.ln; omega, ?_⟩
    rw [put_al]
    exact g1 h _ _ _ _ _ _ _ _
/-- any -/
theorem st_any {n : Nat} {p L q : Addr} {m' : Mem} {o : List D} {d : D} {W : List Nm} {j : Nat} {G : DE} {x : Nm} {ps : Al} {cs : List Rat} {e5 e6 e7 e8 e9 e10 e11 : Option D} (hx : x ∈ W) (hi : Iv W j ps) (hr : RnM m' p L cs) (hd : m' q = some (.dic (alD ps))) (hqL : q ≠ L)
    (g1 : ∀ e4 e5 e6 e7 e8 e9 e10 e11 : Option D, G.nx (slR p o d q [e4, e5, e6, e7, e8, e9, e10, e11]) (mset (mset m' L (.lst (cs.tail.map qD))) q (.dic (alD (putA ps x (cs.headD 0)))))) :
    v_Runner_run_b1 (ph_Runner_inner n) (slR p o d q [some (.tup [.str "any", .str (S x)]), e5, e6, e7, e8, e9, e10, e11]) m' G := by
  unfold v_Runner_run_b1
  walk_at "vc"
  rw [if_neg (by decide +kernel)]
  rw [hr.1, insO_1, onO_1]
  refine ⟨lk_noL (by decide +kernel), p, L, cs, rfl, hr, ?_⟩
  walk_at "vc"
  rw [mset_ne hqL, hd]
  show (alD ps).length < 1000000 ∧ _
  refine ⟨by unfold alD; rw [List.length_map]; have := hi.ln; omega, ?_⟩
  rw [put_al]
  exact g1 _ _ _ _ _ _ _ _
/-- check -/
theorem st_chk {n : Nat} {p L q : Addr} {m' : Mem} {o : List D} {d : D} {W : List Nm} {j : Nat} {G : DE} {ts : List Te} {ps : Al} {cs : List Rat} {e5 e6 e7 e8 e9 e10 e11 : Option D} (ht : ∀ T ∈ ts, T.ts.length ≤ 2 ∧ Bq 2000 T.b ∧ ∀ t ∈ T.ts, Bq 300 t.2 ∧ t.1 ∈ W) (hl : ts.length ≤ 1000) (hi : Iv W j ps) (hj : j ≤ 29) (hr : RnM m' p L cs) (hd : m' q = some (.dic (alD ps)))
    (g0 : ts.all (kpt ps) = false → G.rt .non m')
    (g1 : ts.all (kpt ps) = true → ∀ e4 e5 e6 e7 e8 e9 e10 e11 : Option D, G.nx (slR p o d q [e4, e5, e6, e7, e8, e9, e10, e11]) m') :
    v_Runner_run_b1 (ph_Runner_inner n) (slR p o d q [some (.tup [.str "check", .tup (ts.map teD)]), e5, e6, e7, e8, e9, e10, e11]) m' G := by
  unfold v_Runner_run_b1
  walk_at "vc"
  rw [if_neg (by decide +kernel), if_neg (by decide +kernel)]
  refine ⟨by rw [List.length_map]; omega, ?_⟩
  refine lc_map (f := teD) (h := fun T => .bl (kpt ps T)) ts [] (fun T hT k' kn hk' => ?_) ?_
  · walk_at "vc"
    obtain ⟨a1, a2, a3⟩ := ht T hT
    refine ⟨T, _, ps, rfl, by show dicO (m' q) = _; rw [hd]; rfl, a1, a2, fun t ht' => ⟨(a3 t ht').1, ?_⟩, hk'⟩
    obtain ⟨v, e, iq⟩ := hi.at_ _ (a3 t ht').2
    exact ⟨v, e, iq.bits (by omega)⟩
  · walk_at "vc"
    rw [show ts.map (fun T => D.bl (kpt ps T)) = (ts.map (kpt ps)).map D.bl by rw [List.map_map]; rfl, blsOf_map, onO_1]
    have e : (ts.map (kpt ps)).all id = ts.all (kpt ps) := by rw [List.all_map]; rfl
    rw [e]
    cases h : ts.all (kpt ps) with
    | false => rw [if_pos rfl]; exact g0 h
    | true => rw [if_neg (by decide)]; exact g1 h _ _ _ _ _ _ _ _
/-- either, repeat: what is behind an inner program -/
theorem st_in {n : Nat} {p L q : Addr} {m' : Mem} {o : List D} {d : D} {G : DE} {w : Str} {xs : List D} {ps : Al} {e5 e6 e7 e8 e9 e10 e11 : Option D} (hw : w = ("either" : Str) ∨ w = ("repeat" : Str)) (hl : xs.length ≤ 100) {cs : List Rat} (hr : RnM m' p L cs)
    (g : ∀ (k : KD) (x : KX), (∀ m2, G.rt .non m2 → k .non m2) → (∀ q2 m2, (∀ e4 e5 e6 e7 e8 e9 e10 e11 : Option D, G.nx (slR p o d q2 [e4, e5, e6, e7, e8, e9, e10, e11]) m2) → k (.ref q2) m2) → ph_Runner_inner n [.ref p, .str w, .lst xs, .ref q] m' k x) :
    v_Runner_run_b1 (ph_Runner_inner n) (slR p o d q [some (.tup (.str w :: xs)), e5, e6, e7, e8, e9, e10, e11]) m' G := by
  unfold v_Runner_run_b1
  walk_at "vc"
  have n1 : ¬ w = ("set" : Str) := by rcases hw with rfl | rfl <;> decide +kernel
  have n2 : ¬ w = ("any" : Str) := by rcases hw with rfl | rfl <;> decide +kernel
  have n3 : ¬ w = ("check" : Str) := by rcases hw with rfl | rfl <;> decide +kernel
  refine ⟨by omega, ?_⟩
  rw [if_neg n1, if_neg n2, if_neg n3, hr.1, insO_1, onO_1]
  refine ⟨lk_noL (by decide +kernel), ?_⟩
  refine g _ _ (fun m2 h => ?_) fun q2 m2 h => ?_
  · dsimp only
    rw [if_pos rfl]
    exact h
  · dsimp only
    rw [if_neg (by simp)]
    exact h _ _ _ _ _ _ _ _

/-! ### k40: run's loop -/
theorem rnm_put {m' : Mem} {p L q : Addr} {cs cs' : List Rat} {o : MO} (hr : RnM m' p L cs) (hqL : q ≠ L) (hqp : q ≠ p) : RnM (mset (mset m' L (.lst (cs'.map qD))) q o) p L cs' :=
  ⟨by rw [mset_ne (Ne.symm hqp), mset_ne hr.2.2]; exact hr.1, by rw [mset_ne (Ne.symm hqL), mset_same], hr.2.2⟩
theorem mle_put {m m' : Mem} {L q : Addr} {v v' o : MO} (hqL : q ≠ L) (hm : MLe (mset m L v) m') (hq : m q = none) : MLe (mset m L v') (mset (mset m' L v') q o) := fun b u h => by
  by_cases hb : b = L
  · by_cases hb2 : b = q
    · exact absurd (hb2.symm.trans hb) hqL
    · rw [mset_ne hb2, hb, mset_same]; rw [hb, mset_same] at h; exact h
  · rw [mset_ne hb] at h
    rw [mset_ne (fun z => by rw [z, hq] at h; cases h), mset_ne hb]
    exact hm b u (by rw [mset_ne hb]; exact h)
theorem mle_L {m m' : Mem} {L : Addr} {v v' : MO} (hm : MLe (mset m L v) m') : MLe (mset m L v') (mset m' L v') := fun b u h => by
  by_cases hb : b = L
  · rw [hb, mset_same] at h ⊢; exact h
  · rw [mset_ne hb] at h ⊢; exact hm b u (by rw [mset_ne hb]; exact h)
theorem mle_new2 {m m' : Mem} {L q : Addr} {v v' o : MO} (hqL : q ≠ L) (hm : MLe (mset m L v) m') (hq : m q = none) : MLe (mset m L v') (mset (mset m' q o) L v') := fun b u h => by
  by_cases hb : b = L
  · rw [hb, mset_same] at h ⊢; exact h
  · rw [mset_ne hb] at h ⊢
    rw [mset_ne (fun z => by rw [z, hq] at h; cases h)]
    exact hm b u (by rw [mset_ne hb]; exact h)
theorem run_loop (n : Nat) {p L : Addr} {m : Mem} {o : List D} {d : D} {W : List Nm} {G : DE} : ∀ (pg : Pg) (ps : Al) (cs : List Rat) (j : Nat) (q : Addr) (m' : Mem) (e4 e5 e6 e7 e8 e9 e10 e11 : Option D),
    PgOk W pg → Iv W j ps → ChOk cs → j + cst pg ≤ 29 → dpt pg ≤ n → RnM m' p L cs → MLe (mset m L (.lst (cs.map qD))) m' → m q = none → m' q = some (.dic (alD ps)) →
    ((rn pg ps cs).1 = none → ∀ m2, MLe (mset m L (.lst ((rn pg ps cs).2.map qD))) m2 → G.rt .non m2) →
    (∀ ps2, (rn pg ps cs).1 = some ps2 → ∀ q2 m2 s2, m q2 = none → m2 q2 = some (.dic (alD ps2)) → MLe (mset m L (.lst ((rn pg ps cs).2.map qD))) m2 → s2[3]? = some (some (.ref q2)) → G.nx s2 m2) →
    forV (fun d s m G => v_Runner_run_b1 (ph_Runner_inner n) (List.set s 4 (some d)) m G) (pgD pg) (slR p o d q [e4, e5, e6, e7, e8, e9, e10, e11]) m' G
  | .nil, ps, cs, j, q, m', _, _, _, _, _, _, _, _, _, hi, hc, _, _, hr, hm, hq, hd, h0, h1 => h1 ps rfl q m' _ hq hd hm rfl
  | .set x lo up r, ps, cs, j, q, m', _, _, _, _, _, _, _, _, hp, hi, hc, hj, hn, hr, hm, hq, hd, h0, h1 => by
    have hj : j + (1 + cst r) ≤ 29 := hj
    have hqL : q ≠ L := fun z => by rw [z, hr.2.1] at hd; cases hd
    have hqp : q ≠ p := fun z => by rw [z, hr.1] at hd; cases hd
    rw [pgD, forV]
    refine st_set hp.1 hp.2.1 hp.2.2.1 hi hc (by omega) hr hd hqL (fun h => ?_) fun h e4 e5 e6 e7 e8 e9 e10 e11 => ?_
    · unfold rn at h0
      rw [if_pos h] at h0
      exact h0 rfl m' hm
    · unfold rn at h0 h1
      rw [if_neg h] at h0 h1
      refine run_loop n r _ cs.tail (j + 1) q _ _ _ _ _ _ _ _ _ hp.2.2.2 (hi.put hp.1 (Iq.step (fmV_iq hi hp.2.1) (fmV_iq hi hp.2.2.1) hc.hd.2)) hc.tail (by omega) hn (rnm_put hr hqL hqp) (mle_put hqL hm hq) hq mset_same h0 h1
  | .any x r, ps, cs, j, q, m', _, _, _, _, _, _, _, _, hp, hi, hc, hj, hn, hr, hm, hq, hd, h0, h1 => by
    have hj : j + (1 + cst r) ≤ 29 := hj
    have hqL : q ≠ L := fun z => by rw [z, hr.2.1] at hd; cases hd
    have hqp : q ≠ p := fun z => by rw [z, hr.1] at hd; cases hd
    rw [pgD, forV]
    refine st_any (j := j) hp.1 hi hr hd hqL fun e4 e5 e6 e7 e8 e9 e10 e11 => ?_
    exact run_loop n r _ cs.tail (j + 1) q _ _ _ _ _ _ _ _ _ hp.2 (hi.put hp.1 (hc.hd.1.mono (by omega))) hc.tail (by omega) hn (rnm_put hr hqL hqp) (mle_put hqL hm hq) hq mset_same h0 h1
  | .chk ts r, ps, cs, j, q, m', _, _, _, _, _, _, _, _, hp, hi, hc, hj, hn, hr, hm, hq, hd, h0, h1 => by
    have hj : j + cst r ≤ 29 := hj
    rw [pgD, forV]
    refine st_chk (j := j) hp.1 hp.2.1 hi (by omega) hr hd (fun h => ?_) fun h e4 e5 e6 e7 e8 e9 e10 e11 => ?_
    · unfold rn at h0
      rw [if_neg (by rw [h]; decide)] at h0
      exact h0 rfl m' hm
    · unfold rn at h0 h1
      rw [if_pos h] at h0 h1
      exact run_loop n r _ cs j q _ _ _ _ _ _ _ _ _ hp.2.2 hi hc (by omega) hn hr hm hq hd h0 h1
  | .ei a b r, ps, cs, j, q, m', _, _, _, _, _, _, _, _, hp, hi, hc, hj, hn, hr, hm, hq, hd, h0, h1 => by
    have hj : j + (cst a + cst b + cst r) ≤ 29 := hj
    have hn : max (max (dpt a + 1) (dpt b + 1)) (dpt r) ≤ n := hn
    have key : ∀ (k : KD) (j2 : Nat) (O : Option Al × List Rat), Kp W j2 O → j2 + cst r ≤ 29 → (∀ m2, G.rt .non m2 → k .non m2) → (∀ q2 m2, (∀ e4 e5 e6 e7 e8 e9 e10 e11 : Option D, forV (fun d s m G => v_Runner_run_b1 (ph_Runner_inner n) (List.set s 4 (some d)) m G) (pgD r) (slR p o d q2 [e4, e5, e6, e7, e8, e9, e10, e11]) m2 G) → k (.ref q2) m2) →
        (match O with | (some ps', cs') => rn r ps' cs' | (none, cs') => (none, cs')) = rn (.ei a b r) ps cs → anR k m' L O := fun k j2 O kp hj2 hk0 hk1 hO => by
      obtain ⟨o1, c1⟩ := O
      cases o1 with
      | none =>
        have hO : (none, c1) = rn (.ei a b r) ps cs := hO
        rw [← hO] at h0
        exact ⟨fun _ => hk0 _ (h0 rfl _ (mle_L hm)), fun ps2 e => by cases e⟩
      | some ps1 =>
        have hO : rn r ps1 c1 = rn (.ei a b r) ps cs := hO
        rw [← hO] at h0 h1
        refine ⟨(fun e => by cases e), fun ps2 e q2 hq2 => ?_⟩
        cases e
        have nL : q2 ≠ L := fun z => by rw [z, hr.2.1] at hq2; cases hq2
        have nP : q2 ≠ p := fun z => by rw [z, hr.1] at hq2; cases hq2
        have hmq : m q2 = none := by
          cases e2 : m q2 with
          | none => rfl
          | some u => have := hm q2 u (by rw [mset_ne nL]; exact e2); rw [hq2] at this; cases this
        exact hk1 q2 _ fun e4 e5 e6 e7 e8 e9 e10 e11 => run_loop n r ps1 c1 j2 q2 _ _ _ _ _ _ _ _ _ hp.2.2 (kp.1 _ rfl) kp.2 hj2 (by omega) ⟨by rw [mset_ne hr.2.2, mset_ne (Ne.symm nP)]; exact hr.1, mset_same, hr.2.2⟩ (mle_new2 nL hm hmq) hmq (by rw [mset_ne nL, mset_same]) h0 h1
    rw [pgD, forV]
    refine st_in (ps := ps) (.inl rfl) (by simp) hr fun k x hk0 hk1 => ?_
    refine ⟨p, L, .ref q, ps, cs, W, j, hr, by show dicO (m' q) = _; rw [hd]; rfl, hi, hc, .inl ⟨a, b, rfl, hp.1, hp.2.1, by omega, by omega, by omega, key k (j + cst a + cst b) _ ?_ (by omega) hk0 hk1 (by rw [rn] <;> rfl)⟩⟩
    split
    · have := rn_kp a j ps cs.tail hp.1 hi hc.tail
      exact ⟨fun ps' e => (this.1 ps' e).mono (by omega), this.2⟩
    · have := rn_kp b j ps cs.tail hp.2.1 hi hc.tail
      exact ⟨fun ps' e => (this.1 ps' e).mono (by omega), this.2⟩
  | .rep i a r, ps, cs, j, q, m', _, _, _, _, _, _, _, _, hp, hi, hc, hj, hn, hr, hm, hq, hd, h0, h1 => by
    have hj : j + (i * cst a + cst r) ≤ 29 := hj
    have hn : max (dpt a + 1) (dpt r) ≤ n := hn
    have key : ∀ (k : KD) (j2 : Nat) (O : Option Al × List Rat), Kp W j2 O → j2 + cst r ≤ 29 → (∀ m2, G.rt .non m2 → k .non m2) → (∀ q2 m2, (∀ e4 e5 e6 e7 e8 e9 e10 e11 : Option D, forV (fun d s m G => v_Runner_run_b1 (ph_Runner_inner n) (List.set s 4 (some d)) m G) (pgD r) (slR p o d q2 [e4, e5, e6, e7, e8, e9, e10, e11]) m2 G) → k (.ref q2) m2) →
        (match O with | (some ps', cs') => rn r ps' cs' | (none, cs') => (none, cs')) = rn (.rep i a r) ps cs → anR k m' L O := fun k j2 O kp hj2 hk0 hk1 hO => by
      obtain ⟨o1, c1⟩ := O
      cases o1 with
      | none =>
        have hO : (none, c1) = rn (.rep i a r) ps cs := hO
        rw [← hO] at h0
        exact ⟨fun _ => hk0 _ (h0 rfl _ (mle_L hm)), fun ps2 e => by cases e⟩
      | some ps1 =>
        have hO : rn r ps1 c1 = rn (.rep i a r) ps cs := hO
        rw [← hO] at h0 h1
        refine ⟨(fun e => by cases e), fun ps2 e q2 hq2 => ?_⟩
        cases e
        have nL : q2 ≠ L := fun z => by rw [z, hr.2.1] at hq2; cases hq2
        have nP : q2 ≠ p := fun z => by rw [z, hr.1] at hq2; cases hq2
        have hmq : m q2 = none := by
          cases e2 : m q2 with
          | none => rfl
          | some u => have := hm q2 u (by rw [mset_ne nL]; exact e2); rw [hq2] at this; cases this
        exact hk1 q2 _ fun e4 e5 e6 e7 e8 e9 e10 e11 => run_loop n r ps1 c1 j2 q2 _ _ _ _ _ _ _ _ _ hp.2.2 (kp.1 _ rfl) kp.2 hj2 (by omega) ⟨by rw [mset_ne hr.2.2, mset_ne (Ne.symm nP)]; exact hr.1, mset_same, hr.2.2⟩ (mle_new2 nL hm hmq) hmq (by rw [mset_ne nL, mset_same]) h0 h1
    rw [pgD, forV]
    refine st_in (ps := ps) (.inr rfl) (by simp) hr fun k x hk0 hk1 => ?_
    refine ⟨p, L, .ref q, ps, cs, W, j, hr, by show dicO (m' q) = _; rw [hd]; rfl, hi, hc, .inr ⟨i, a, rfl, hp.2.1, by omega, hp.1, by omega, fun hz => ?_, key k (j + i * cst a) _ (itN_kp (fun j ps cs h hc => rn_kp a j ps cs hp.2.1 h hc) i j ps cs hi hc) (by omega) hk0 hk1 (by rw [rn] <;> rfl)⟩⟩
    subst hz
    exact hk1 q m' fun e4 e5 e6 e7 e8 e9 e10 e11 => run_loop n r ps cs j q _ _ _ _ _ _ _ _ _ hp.2.2 hi hc (by omega) (by omega) hr hm hq hd h0 h1
theorem w_Runner_run (n : Nat) : ∀ ds m k x, ph_Runner_run (n + 1) ds m k x → v_Runner_run (ph_Runner_inner n) (dstart 12 ds) m (endX k x) := by
  rintro _ m k x ⟨p, L, d, pg, ps, cs, W, j, rfl, hr, hd, hp, hi, hc, hj, hn, hk⟩
  unfold v_Runner_run
  walk_at "vc"
  rw [hd, onO_1]
  intro q hq
  have hqL : q ≠ L := fun z => by rw [z, hr.2.1] at hq; cases hq
  have hqp : q ≠ p := fun z => by rw [z, hr.1] at hq; cases hq
  refine run_loop n (p := p) (L := L) (m := m) (W := W) pg ps cs j q _ none none none none none none none none hp hi hc hj (by omega) ⟨by rw [mset_ne (Ne.symm hqp)]; exact hr.1, by rw [mset_ne (Ne.symm hqL)]; exact hr.2.1, hr.2.2⟩ (fun b o h => ?_) hq mset_same (fun e m2 h2 => ?_) fun ps2 e q2 m2 s2 hq2 hd2 hm2 hs2 => ?_
  · rw [mset_ne (fun z => by
      rw [z, mset_ne hqL, hq] at h; cases h)]
    by_cases hb : b = L
    · rw [hb, mset_same] at h; rw [hb, hr.2.1]; exact h
    · rw [mset_ne hb] at h; exact h
  · exact ⟨_, h2, hk.1 e⟩
  · show vGet s2[3]? _
    rw [hs2]
    refine ⟨_, fun b o h => ?_, hk.2 ps2 e q2 hq2⟩
    by_cases hb : b = L
    · exact hm2 b o (by rw [hb, mset_same] at h ⊢; exact h)
    · rw [mset_ne hb] at h
      by_cases hb2 : b = q2
      · rw [hb2, mset_same] at h; rw [hb2, hd2]; exact h
      · rw [mset_ne hb2] at h
        exact hm2 b o (by rw [mset_ne hb]; exact h)

/-! ### k40: run_program -/
def ph_run_program : P0 := fun ds m k => ∃ (d : D) (pg : Pg) (ps : Al) (cs : List Rat) (W : List Nm) (j : Nat), ds = .tup (pgD pg) :: d :: cs.map qD ∧ cs.length ≤ 900 ∧ asK m d = some (alD ps) ∧ PgOk W pg ∧ Iv W j ps ∧ ChOk cs ∧ j + cst pg ≤ 29 ∧ dpt pg < 5 ∧
  ((rn pg ps cs).1 = none → k .non m) ∧ ∀ ps', (rn pg ps cs).1 = some ps' → ∀ q, m q = none → k (.ref q) (mset m q (.dic (alD ps')))
theorem l_run_program : ∀ ds m k, ph_run_program ds m k → 2 ≤ ds.length ∧ ds.length ≤ 1000 := by
  rintro _ m k ⟨_, _, _, cs, _, _, rfl, h, _⟩
  simp only [List.length_cons, List.length_map]
  omega
/- def run_program, slots 0 program 1 values 2 choices -/
@[reducible] def v_run_program : VS :=
  (vRet (vMethX "Runner" "run" (ph_Runner_run 5) (vMake "Runner" ph_Runner___init__ (vCons (vVar 2) vNil)) (vCons (vVar 0) (vCons (vVar 1) vNil))))


theorem w_run_program : ∀ as es m k, as.length = 2 → ph_run_program (as ++ es) m k → v_run_program (dstart 3 (as ++ [.pr es])) m (endV k) := by
  rintro as es m k hl ⟨d, pg, ps, cs, W, j, e, hcl, hd, hp, hi, hc, hj, hn, hk0, hk1⟩
  obtain ⟨a, b, rfl⟩ : ∃ a b, as = [a, b] := by
    match as, hl with
    | [a, b], _ => exact ⟨a, b, rfl⟩
  obtain ⟨rfl, rfl, rfl⟩ : a = .tup (pgD pg) ∧ b = d ∧ es = cs.map qD := by simpa using e
  unfold v_run_program
  walk_at "vc"
  intro p hp0
  refine ⟨p, cs, rfl, by omega, mset_same, fun L hL => ⟨rfl, ?_⟩⟩
  have hLp : L ≠ p := fun z => by rw [z, mset_same] at hL; cases hL
  have hmL : m L = none := by rw [mset_ne hLp] at hL; exact hL
  rw [mset_same, insO_1, onO_1]
  have at_ : ∀ (v w x : MO) (a : Addr) (o : MO), m a = some o → mset (mset (mset m p v) L w) p x a = some o := fun v w x a o h => by
    rw [mset_ne (fun z => by rw [z, hp0] at h; cases h), mset_ne (fun z => by rw [z, hmL] at h; cases h), mset_ne (fun z => by rw [z, hp0] at h; cases h)]
    exact h
  refine ⟨lk_noL (by decide +kernel), p, L, b, pg, ps, cs, W, j, rfl, ⟨mset_same, by rw [mset_ne hLp, mset_same], Ne.symm hLp⟩, ?_, hp, hi, hc, hj, hn, fun e => ⟨m, fun a o h => ?_, hk0 e⟩, fun ps' e q hq => ?_⟩
  · cases b with
    | ref a =>
      have hd : dicO (m a) = some (alD ps) := hd
      show dicO (mset _ p _ a) = _
      cases h : m a with
      | none => rw [h] at hd; cases hd
      | some o => rw [at_ _ _ _ a o h, ← h]; exact hd
    | dic _ => exact hd
    | _ => cases hd
  · rw [mset_ne (fun z => by rw [z, hmL] at h; cases h)]
    exact at_ _ _ _ a o h
  · have hqp : q ≠ p := fun z => by rw [z, mset_same] at hq; cases hq
    have hqL : q ≠ L := fun z => by rw [z, mset_ne hLp, mset_same] at hq; cases hq
    have hmq : m q = none := by rw [mset_ne hqp, mset_ne hqL, mset_ne hqp] at hq; exact hq
    refine ⟨_, fun a o h => ?_, hk1 ps' e q hmq⟩
    by_cases hb : a = q
    · rw [hb, mset_same] at h; rw [hb, mset_ne hqL, mset_same]; exact h
    · rw [mset_ne hb] at h
      rw [mset_ne (fun z => by rw [z, hmL] at h; cases h), mset_ne hb]
      exact at_ _ _ _ a o h

/-! ### k40: the law's walk -/
def ph__law_form_value : P0 := fun ds m k => ∃ (d : D) (f : Fm) (ps : Al) (W : List Nm) (j : Nat), ds = [fmD f, d] ∧ asK m d = some (alD ps) ∧ Iv W j ps ∧ FmOk W f ∧ j ≤ 29 ∧ k (qD (fmV ps f)) m
theorem l__law_form_value : ∀ ds m k, ph__law_form_value ds m k → ds.length = 2 := by rintro _ m k ⟨_, _, _, _, _, rfl, _⟩; rfl
/- def _law_form_value, slots 0 _law_form_here 1 _law_values 2 _law_rate_here 3 _law_name 4 _law_number -/
@[reducible] def v__law_form_value : VS :=
  (vSeq (vAsg (vVar 0) (gTp 3 (gCn (gN 2) (gCn (gN 3) (gCn (gN 4) gNl)))))
    (vRet (vIf (tV (vOp oEq (vVar 3) (vC (.str "")))) (vVar 4) (vCall ph__law_plus (vCons (vCall ph__law_by (vCons (vVar 2) (vCons (vDGet (vVar 1) (vVar 3)) vNil))) (vCons (vVar 4) vNil))))))


theorem w__law_form_value : ∀ ds m k, ph__law_form_value ds m k → v__law_form_value (dstart 5 ds) m (endP k) := by
  rintro _ m k ⟨d, f, ps, W, j, rfl, hd, hi, hf, hj, hk⟩
  unfold v__law_form_value
  walk_at "vc"
  unfold fmV at hk
  by_cases hx : f.x = []
  · rw [if_pos hx] at hk
    rw [if_pos (by rw [hx]; rfl)]
    exact hk
  · rw [if_neg hx] at hk
    rw [if_neg (fun z => hx (S_inj (z.trans (show _ = S [] from rfl)))), hd, onO_1, val_al]
    obtain ⟨q, e, iq⟩ := hi.at_ _ (hf.nm hx)
    rw [e] at hk ⊢
    show ph__law_by [qD f.r, qD q] m _
    obtain ⟨a, ea, ha⟩ := hf.rt
    obtain ⟨b, eb, hb⟩ := hf.nb
    have hr : Bq 4 f.r := by
      have : f.r = (a : Rat) / ((2 : Int) : Rat) := by rw [← ea]; show f.r = f.r * 2 / 2; grind
      rw [this]; exact Bq.frac (by decide) (by omega) (by decide)
    have hc : Bq 5 f.c := by
      have : f.c = (b : Rat) / ((2 : Int) : Rat) := by rw [← eb]; show f.c = f.c * 2 / 2; grind
      rw [this]; exact Bq.frac (by decide) (by omega) (by decide)
    have hq := iq.bits (by omega)
    exact pq_mul (hr.mono (by decide)) (hq.mono (by decide)) (pq_add ((hr.mul hq).mono (by decide)) (hc.mono (by decide)) hk)

/-! ### k40: the law's walk of a program -/
def ph__law_walk (n : Nat) : P0 := fun ds m k => ∃ (L : Addr) (d : D) (pg : Pg) (ps : Al) (cs : List Rat) (W : List Nm) (j : Nat), ds = [.tup (pgD pg), d, .ref L] ∧ m L = some (.lst (cs.map qD)) ∧ asK m d = some (alD ps) ∧ PgOk W pg ∧ Iv W j ps ∧ ChOk cs ∧ j + cst pg ≤ 29 ∧ dpt pg < n ∧ anR k m L (rn pg ps cs)
theorem l__law_walk (n : Nat) : ∀ ds m k, ph__law_walk n ds m k → ds.length = 3 := by rintro _ m k ⟨_, _, _, _, _, _, _, rfl, _⟩; rfl
@[reducible] def v__law_walk_b1 (φ : P0) : VS :=
  (vSeq (vSet 3 (vCall φ (vCons (vOp oIx (vVar 4) (vC (.int 2))) (vCons (vVar 3) (vCons (vVar 2) vNil)))))
    (vIfS (tV (vOp oIs (vVar 3) (vC .non))) (vRet (vC .non)) vNext))
@[reducible] def v__law_walk_b2 (φ : P0) : VS :=
  (vIfS (tV (vOp oEq (vOp oIx (vVar 4) (vC (.int 0))) (vC (.str "set")))) (vSeq (vPar 5 6 (vCons (vCall ph__law_form_value (vCons (vOp oIx (vVar 4) (vC (.int 2))) (vCons (vVar 3) vNil))) (vCons (vCall ph__law_form_value (vCons (vOp oIx (vVar 4) (vC (.int 3))) (vCons (vVar 3) vNil))) vNil)))
    (vSeq (vIfS (tV (vCall ph__law_under (vCons (vVar 6) (vCons (vVar 5) vNil)))) (vRet (vC .non)) vNext)
    (vSeq (vSet 7 (vIf (tV (vOp oNe (vVar 2) (vLst vNil))) (vBM "list" oPop (vVar 2) (vCons (vC (.int 0)) vNil)) (vTup (vCons (vC (.int 0)) (vCons (vC (.int 1)) vNil)))))
    (vSeq (vSet 8 (vIf (tV (vOp oEq (vOp oIx (vVar 7) (vC (.int 0))) (vC (.int 0)))) (vTup (vCons (vC (.int 0)) (vCons (vC (.int 1)) vNil))) (vCall ph__law_low (vCons (vOp oIx (vVar 7) (vC (.int 1))) (vCons (vOp oAdd (vOp oIx (vVar 7) (vC (.int 1))) (vCB oAbs (vCons (vOp oIx (vVar 7) (vC (.int 0))) vNil))) vNil)))))
    (vDPut (vVar 3) (vOp oIx (vVar 4) (vC (.int 1))) (vCall ph__law_plus (vCons (vVar 5) (vCons (vCall ph__law_by (vCons (vVar 8) (vCons (vCall ph__law_plus (vCons (vVar 6) (vCons (vCall ph__law_minus (vCons (vVar 5) vNil)) vNil))) vNil))) vNil)))))))) (vIfS (tV (vOp oEq (vOp oIx (vVar 4) (vC (.int 0))) (vC (.str "any")))) (vDPut (vVar 3) (vOp oIx (vVar 4) (vC (.int 1))) (vIf (tV (vOp oNe (vVar 2) (vLst vNil))) (vBM "list" oPop (vVar 2) (vCons (vC (.int 0)) vNil)) (vTup (vCons (vC (.int 0)) (vCons (vC (.int 1)) vNil))))) (vIfS (tV (vOp oEq (vOp oIx (vVar 4) (vC (.int 0))) (vC (.str "check")))) (vIfS (vNot (tV (vCB oAll (vCons (vLc (vWalk (vOp oIx (vVar 4) (vC (.int 1)))) (gN 11) vYes (vCall ph__law_keeps (vCons (vVar 11) (vCons (vVar 3) vNil))) [11]) vNil)))) (vRet (vC .non)) vNext) (vIfS (tV (vOp oEq (vOp oIx (vVar 4) (vC (.int 0))) (vC (.str "either")))) (vSeq (vSet 9 (vIf (tV (vOp oNe (vVar 2) (vLst vNil))) (vBM "list" oPop (vVar 2) (vCons (vC (.int 0)) vNil)) (vTup (vCons (vC (.int 0)) (vCons (vC (.int 1)) vNil)))))
    (vSeq (vSet 3 (vCall φ (vCons (vIf (tV (vOp oEq (vOp oIx (vVar 9) (vC (.int 0))) (vC (.int 0)))) (vOp oIx (vVar 4) (vC (.int 1))) (vOp oIx (vVar 4) (vC (.int 2)))) (vCons (vVar 3) (vCons (vVar 2) vNil)))))
    (vIfS (tV (vOp oIs (vVar 3) (vC .non))) (vRet (vC .non)) vNext))) (vFor (vRng1 (vCons (vOp oIx (vVar 4) (vC (.int 1))) vNil)) (gN 10) (v__law_walk_b1 φ))))))
/- def _law_walk, slots 0 _law_program_here 1 _law_values 2 _law_left 3 _law_here 4 _law_row 5 _law_low_here 6 _law_high 7 _law_size 8 _law_share 9 _law_pick 10 _law_turn 11 _law_tie -/
@[reducible] def v__law_walk (φ : P0) : VS :=
  (vSeq (vSet 3 (vCB oDictO (vCons (vVar 1) vNil)))
    (vSeq (vFor (vWalk (vVar 0)) (gN 4) (v__law_walk_b2 φ))
    (vRet (vVar 3))))


abbrev slW (o : List D) (d : D) (L q : Addr) (es : List (Option D)) : SL := [some (.tup o), some d, some (.ref L), some (.ref q)] ++ es
/-- x.pop(0) if x != [] else (0, 1) -/
theorem pop_or {m : Mem} {L : Addr} {cs : List Rat} {k : KD} (hL : m L = some (.lst (cs.map qD))) (hk : k (qD (cs.headD 0)) (mset m L (.lst (cs.tail.map qD)))) :
    eqK (.ref L) (.lst []) m fun b => if b = false then (onM (m L) fun _ => True) ∧ onM (m L) fun ds => -2 ^ 63 ≤ (0 : Int) ∧ (0 : Int) < 2 ^ 63 ∧ ∃ j y, seqIndex? 0 ds.length = some j ∧ ds[j]? = some y ∧ k y (mset m L (.lst (ds.eraseIdx j))) else k (.tup [.int 0, .int 1]) m := by
  refine eqK_left hL ?_
  rw [hL]
  cases cs with
  | nil =>
    have e : mset m L (.lst (List.map qD [])) = m := by
      funext b
      by_cases hb : b = L
      · rw [hb, mset_same, hL]
      · rw [mset_ne hb]
    rw [show ([] : List Rat).tail = [] from rfl, e] at hk
    rw [if_neg (by decide)]
    exact hk
  | cons c cs =>
    rw [if_pos (by simp)]
    exact ⟨trivial, by decide, by decide, 0, _, (by simp [seqIndex?]), rfl, hk⟩
theorem lw_any {φ : P0} {L q : Addr} {m' : Mem} {o : List D} {d : D} {W : List Nm} {j : Nat} {G : DE} {x : Nm} {ps : Al} {cs : List Rat} {e5 e6 e7 e8 e9 e10 e11 : Option D} (hx : x ∈ W) (hi : Iv W j ps) (hr : m' L = some (.lst (cs.map qD))) (hd : m' q = some (.dic (alD ps))) (hqL : q ≠ L)
    (g1 : ∀ e4 e5 e6 e7 e8 e9 e10 e11 : Option D, G.nx (slW o d L q [e4, e5, e6, e7, e8, e9, e10, e11]) (mset (mset m' L (.lst (cs.tail.map qD))) q (.dic (alD (putA ps x (cs.headD 0)))))) :
    v__law_walk_b2 φ (slW o d L q [some (.tup [.str "any", .str (S x)]), e5, e6, e7, e8, e9, e10, e11]) m' G := by
  unfold v__law_walk_b2
  walk_at "vc"
  rw [if_neg (by decide +kernel)]
  refine pop_or (k := fun y m2 => onDo (m2 q) fun kvs => kvs.length < 1000000 ∧ G.nx _ (mset m2 q (.dic (putD kvs (.inr (S x)) y)))) hr ?_
  rw [mset_ne hqL, hd]
  show (alD ps).length < 1000000 ∧ _
  refine ⟨by unfold alD; rw [List.length_map]; have := hi.ln; omega, ?_⟩
  rw [put_al]
  exact g1 _ _ _ _ _ _ _ _
theorem lw_chk {φ : P0} {L q : Addr} {m' : Mem} {o : List D} {d : D} {W : List Nm} {j : Nat} {G : DE} {ts : List Te} {ps : Al} {e5 e6 e7 e8 e9 e10 e11 : Option D} (ht : ∀ T ∈ ts, T.ts.length ≤ 2 ∧ Bq 2000 T.b ∧ ∀ t ∈ T.ts, Bq 300 t.2 ∧ t.1 ∈ W) (hl : ts.length ≤ 1000) (hi : Iv W j ps) (hj : j ≤ 29) (hd : m' q = some (.dic (alD ps)))
    (g0 : ts.all (kpt ps) = false → G.rt .non m')
    (g1 : ts.all (kpt ps) = true → ∀ e4 e5 e6 e7 e8 e9 e10 e11 : Option D, G.nx (slW o d L q [e4, e5, e6, e7, e8, e9, e10, e11]) m') :
    v__law_walk_b2 φ (slW o d L q [some (.tup [.str "check", .tup (ts.map teD)]), e5, e6, e7, e8, e9, e10, e11]) m' G := by
  unfold v__law_walk_b2
  walk_at "vc"
  rw [if_neg (by decide +kernel), if_neg (by decide +kernel)]
  refine ⟨by rw [List.length_map]; omega, ?_⟩
  refine lc_map (f := teD) (h := fun T => .bl (kpt ps T)) ts [] (fun T hT k' kn hk' => ?_) ?_
  · walk_at "vc"
    obtain ⟨a1, a2, a3⟩ := ht T hT
    refine ⟨T, _, ps, rfl, by show dicO (m' q) = _; rw [hd]; rfl, a1, a2, fun t ht' => ⟨(a3 t ht').1, ?_⟩, hk'⟩
    obtain ⟨v, e, iq⟩ := hi.at_ _ (a3 t ht').2
    exact ⟨v, e, iq.bits (by omega)⟩
  · walk_at "vc"
    rw [show ts.map (fun T => D.bl (kpt ps T)) = (ts.map (kpt ps)).map D.bl by rw [List.map_map]; rfl, blsOf_map, onO_1]
    have e : (ts.map (kpt ps)).all id = ts.all (kpt ps) := by rw [List.all_map]; rfl
    rw [e]
    cases h : ts.all (kpt ps) with
    | false => rw [if_pos rfl]; exact g0 h
    | true => rw [if_neg (by decide)]; exact g1 h _ _ _ _ _ _ _ _

/-! ### k40: the law's set, either, repeat -/
theorem lw_set {φ : P0} {L q : Addr} {m' : Mem} {o : List D} {d : D} {W : List Nm} {j : Nat} {G : DE} {x : Nm} {lo up : Fm} {ps : Al} {cs : List Rat} {e5 e6 e7 e8 e9 e10 e11 : Option D} (hx : x ∈ W) (h1 : FmOk W lo) (h2 : FmOk W up) (hi : Iv W j ps) (hc : ChOk cs) (hj : j ≤ 28) (hr : m' L = some (.lst (cs.map qD))) (hd : m' q = some (.dic (alD ps))) (hqL : q ≠ L)
    (g0 : fmV ps up < fmV ps lo → G.rt .non m')
    (g1 : ¬ fmV ps up < fmV ps lo → ∀ e4 e5 e6 e7 e8 e9 e10 e11 : Option D, G.nx (slW o d L q [e4, e5, e6, e7, e8, e9, e10, e11]) (mset (mset m' L (.lst (cs.tail.map qD))) q (.dic (alD (putA ps x (fmV ps lo + shr (cs.headD 0) * (fmV ps up - fmV ps lo))))))) :
    v__law_walk_b2 φ (slW o d L q [some (.tup [.str "set", .str (S x), fmD lo, fmD up]), e5, e6, e7, e8, e9, e10, e11]) m' G := by
  unfold v__law_walk_b2
  walk_at "vc"
  have fv : ∀ f : Fm, FmOk W f → ∀ (k : KD), k (qD (fmV ps f)) m' → ph__law_form_value [fmD f, .ref q] m' k := fun f hf k hk => ⟨_, f, ps, W, j, rfl, by show dicO (m' q) = _; rw [hd]; rfl, hi, hf, by omega, hk⟩
  have bq : ∀ f : Fm, FmOk W f → Bq 310 (fmV ps f) := fun f hf => by
    have z := Iq.step (j := j) (fmV_iq hi hf) (fmV_iq hi hf) ⟨0, by decide, by rw [Rat.zero_mul]; rfl⟩
    rw [Rat.zero_mul, Rat.add_zero] at z
    exact (z.bits (by omega)).mono (by decide)
  refine fv lo h1 _ (fv up h2 _ ?_)
  refine pq_less ((bq up h2).mono (by decide)) ((bq lo h1).mono (by decide)) ?_
  walk_at "vc"
  refine itP (fun h => g0 h) fun h => ?_
  have nb : Bq 310 (-(fmV ps lo)) := (bq lo h1).neg
  have db := (bq up h2).add nb
  have ch : ∀ (t : Rat) (m2 : Mem) (k : KD), Bq 310 t → k (qD (fmV ps lo + t * (fmV ps up - fmV ps lo))) m2 → ph__law_minus [qD (fmV ps lo)] m2 fun d1 m1 => ph__law_plus [qD (fmV ps up), d1] m1 fun d2 m1 => ph__law_by [qD t, d2] m1 fun d3 m1 => ph__law_plus [qD (fmV ps lo), d3] m1 k := fun t m2 k ht hk =>
    ⟨_, rfl, pq_add ((bq up h2).mono (by decide)) (nb.mono (by decide)) (pq_mul (ht.mono (by decide)) (db.mono (by decide)) (pq_add ((bq lo h1).mono (by decide)) ((ht.mul db).mono (by decide)) (by rw [← Rat.sub_eq_add_neg]; exact hk)))⟩
  have sb : Bq 310 (shr (cs.headD 0)) := by
    obtain ⟨u, hu, e⟩ := hc.hd.2
    have : shr (cs.headD 0) = ((u : Int) : Rat) / ((60 : Int) : Rat) := by rw [← e]; show _ = _ * 60 / 60; grind
    rw [this]
    exact (Bq.frac (n := 7) (by decide) (by omega) (by decide)).mono (by decide)
  have fin : ∀ (t : Rat) (m2 : Mem) (sl : SL), m2 q = some (.dic (alD ps)) → Bq 310 t → G.nx sl (mset m2 q (.dic (alD (putA ps x (fmV ps lo + t * (fmV ps up - fmV ps lo)))))) → ph__law_minus [qD (fmV ps lo)] m2 fun d1 m1 => ph__law_plus [qD (fmV ps up), d1] m1 fun d2 m1 => ph__law_by [qD t, d2] m1 fun d3 m1 => ph__law_plus [qD (fmV ps lo), d3] m1 fun e m1 => onDo (m1 q) fun kvs => kvs.length < 1000000 ∧ G.nx sl (mset m1 q (.dic (putD kvs (.inr (S x)) e))) := fun t m2 sl hq ht hg => ch t m2 _ ht (by
    rw [hq]
    show (alD ps).length < 1000000 ∧ _
    refine ⟨by unfold alD; rw [List.length_map]; have := hi.ln; omega, ?_⟩
    rw [put_al]
    exact hg)
  have g1 := g1 h
  refine eqK_left hr ?_
  rw [hr]
  cases cs with
  | nil =>
    walk_at "vc"
    refine fin 0 m' _ hd (by decide) ?_
    have e : mset m' L (.lst (List.map qD [])) = m' := by
      funext b
      by_cases hb : b = L
      · rw [hb, mset_same, hr]
      · rw [mset_ne hb]
    have g1 := g1 (some (.tup [.str "set", .str (S x), fmD lo, fmD up])) (some (qD (fmV ps lo))) (some (qD (fmV ps up))) (some (qD 0)) (some (qD 0)) e9 e10 e11
    rw [show ([] : List Rat).tail = [] from rfl, e] at g1
    exact g1
  | cons c cs =>
    walk_at "vc"
    refine ⟨by decide, by decide, 0, _, (by simp [seqIndex?]), rfl, ?_⟩
    have hq2 : (mset m' L (.lst ((qD c :: List.map qD cs).eraseIdx 0))) q = some (.dic (alD ps)) := by rw [mset_ne hqL]; exact hd
    have sb : Bq 310 (shr c) := sb
    walk_at "vc"
    unfold shr at sb g1
    refine itP (fun h0 => ?_) fun h0 => ?_
    · have h0 : ((c :: cs).headD 0).num = 0 := h0
      refine fin 0 _ _ hq2 (by decide) ?_
      rw [if_pos h0] at g1
      exact g1 _ _ _ _ _ _ _ _
    · rw [if_neg h0] at sb
      have h0' : ¬ ((c :: cs).headD 0).num = 0 := h0
      rw [if_neg h0'] at g1
      refine pq_low ?_ ?_ (fin _ _ _ hq2 sb ?_)
      · have := c.den_nz; omega
      · have b := ((hc c List.mem_cons_self).1.bits (by decide))
        have b1 : c.num.natAbs < 2 ^ 300 := b.1
        have b2 : ((c.den : Int)).natAbs < 2 ^ 300 := b.2
        have : (2 : Nat) ^ 301 ≤ 2 ^ 8000 := Nat.pow_le_pow_right (by decide) (by decide)
        have e : (2 : Nat) ^ 301 = 2 ^ 300 + 2 ^ 300 := by rw [Nat.pow_succ]; omega
        omega
      · exact g1 _ _ _ _ _ _ _ _

/-! ### k40: the law's either, repeat, its loop -/
theorem anR_set {k : KD} {m : Mem} {L : Addr} {o : Option Al × List Rat} {v : MO} (h : anR k m L o) : anR k (mset m L v) L o := by
  refine ⟨fun e => ?_, fun ps' e q hq => ?_⟩
  · rw [mset_mset]; exact h.1 e
  · have hqL : q ≠ L := fun z => by rw [z, mset_same] at hq; cases hq
    have hm : m q = none := by rw [mset_ne hqL] at hq; exact hq
    have e2 : mset (mset (mset m L v) q (.dic (alD ps'))) L (.lst (o.2.map qD)) = mset (mset m q (.dic (alD ps'))) L (.lst (o.2.map qD)) := by
      funext b
      by_cases hb : b = L
      · rw [hb, mset_same, mset_same]
      · rw [mset_ne hb, mset_ne hb]
        by_cases hb2 : b = q
        · rw [hb2, mset_same, mset_same]
        · rw [mset_ne hb2, mset_ne hb2, mset_ne hb]
    rw [e2]
    exact h.2 ps' e q hm
theorem lw_ei {n : Nat} {L q : Addr} {m' : Mem} {o : List D} {d : D} {W : List Nm} {j : Nat} {G : DE} {a b : Pg} {ps : Al} {cs : List Rat} {e5 e6 e7 e8 e9 e10 e11 : Option D} (ha : PgOk W a) (hb : PgOk W b) (na : dpt a < n) (nb : dpt b < n) (hi : Iv W j ps) (hc : ChOk cs) (hj : j + cst a + cst b ≤ 29) (hr : m' L = some (.lst (cs.map qD))) (hd : m' q = some (.dic (alD ps))) (hqL : q ≠ L)
    (g : ∀ k : KD, (∀ m2, G.rt .non m2 → k .non m2) → (∀ q2 m2, (∀ e4 e5 e6 e7 e8 e9 e10 e11 : Option D, G.nx (slW o d L q2 [e4, e5, e6, e7, e8, e9, e10, e11]) m2) → k (.ref q2) m2) → anR k m' L (if (cs.headD 0).num = 0 then rn a ps cs.tail else rn b ps cs.tail)) :
    v__law_walk_b2 (ph__law_walk n) (slW o d L q [some (.tup [.str "either", .tup (pgD a), .tup (pgD b)]), e5, e6, e7, e8, e9, e10, e11]) m' G := by
  unfold v__law_walk_b2
  walk_at "vc"
  rw [if_neg (by decide +kernel), if_neg (by decide +kernel), if_neg (by decide +kernel)]
  refine eqK_left hr ?_
  rw [hr]
  have hq' : ∀ v, asK (mset m' L v) (.ref q) = some (alD ps) := fun v => by show dicO (mset m' L v q) = _; rw [mset_ne hqL, hd]; rfl
  cases cs with
  | nil =>
    have e : mset m' L (.lst (List.map qD [])) = m' := by
      funext b
      by_cases hb : b = L
      · rw [hb, mset_same, hr]
      · rw [mset_ne hb]
    rw [if_neg (by decide)]
    have hq' := hq' (.lst (List.map qD []))
    rw [e] at hq'
    refine ⟨L, .ref q, a, ps, [], W, j, rfl, hr, hq', ha, hi, hc, by omega, na, g _ (fun m2 h => ?_) fun q2 m2 h => ?_⟩
    · dsimp only; rw [if_pos rfl]; exact h
    · dsimp only; rw [if_neg (by simp)]; exact h _ _ _ _ _ _ _ _
  | cons c cs =>
    rw [if_pos (by simp)]
    refine ⟨trivial, by decide, by decide, 0, _, (by simp [seqIndex?]), rfl, ?_⟩
    walk_at "vc"
    refine itP (fun h => ?_) fun h => ?_
    · have g := fun k a b => g k a b
      simp only [List.headD_cons, List.tail_cons, show c.num = 0 from h, if_true] at g
      refine ⟨L, .ref q, a, ps, cs, W, j, rfl, mset_same, hq' _, ha, hi, hc.tail, by omega, na, anR_set (g _ (fun m2 h => ?_) fun q2 m2 h => ?_)⟩
      · dsimp only; rw [if_pos rfl]; exact h
      · dsimp only; rw [if_neg (by simp)]; exact h _ _ _ _ _ _ _ _
    · have g := fun k a b => g k a b
      simp only [List.headD_cons, List.tail_cons, show ¬ c.num = 0 from h, if_false] at g
      refine ⟨L, .ref q, b, ps, cs, W, j, rfl, mset_same, hq' _, hb, hi, hc.tail, by omega, nb, anR_set (g _ (fun m2 h => ?_) fun q2 m2 h => ?_)⟩
      · dsimp only; rw [if_pos rfl]; exact h
      · dsimp only; rw [if_neg (by simp)]; exact h _ _ _ _ _ _ _ _
/-- what an inner run leaves -/
theorem lw_key {m m' : Mem} {L : Addr} {cs : List D} {K0 : Mem → Prop} {K1 : Addr → Mem → Prop} {O : Option Al × List Rat} (hr : m' L = some (.lst cs)) (hm : MLe (mset m L (.lst cs)) m')
    (h0 : O.1 = none → ∀ m2, MLe (mset m L (.lst (O.2.map qD))) m2 → K0 m2)
    (h1 : ∀ ps1, O.1 = some ps1 → ∀ q2 m2, m q2 = none → q2 ≠ L → m2 q2 = some (.dic (alD ps1)) → m2 L = some (.lst (O.2.map qD)) → MLe (mset m L (.lst (O.2.map qD))) m2 → K1 q2 m2)
    (k : KD) (hk0 : ∀ m2, K0 m2 → k .non m2) (hk1 : ∀ q2 m2, K1 q2 m2 → k (.ref q2) m2) : anR k m' L O := by
  refine ⟨fun e => hk0 _ (h0 e _ (mle_L hm)), fun ps' e q hq => ?_⟩
  have nL : q ≠ L := fun z => by rw [z, hr] at hq; cases hq
  have hmq : m q = none := by
    cases e2 : m q with
    | none => rfl
    | some u => have := hm q u (by rw [mset_ne nL]; exact e2); rw [hq] at this; cases this
  exact hk1 q _ (h1 ps' e q _ hmq nL (by rw [mset_ne nL, mset_same]) mset_same (mle_new2 nL hm hmq))
theorem lw_b1 {n : Nat} {L q : Addr} {m' : Mem} {o : List D} {d : D} {W : List Nm} {j : Nat} {G : DE} {i : Int} {a : Pg} {ps : Al} {cs : List Rat} {e5 e6 e7 e8 e9 e10 e11 : Option D} (ha : PgOk W a) (na : dpt a < n) (hi : Iv W j ps) (hc : ChOk cs) (hj : j + cst a ≤ 29) (hr : m' L = some (.lst (cs.map qD))) (hd : m' q = some (.dic (alD ps)))
    (g : ∀ k : KD, (∀ m2, G.rt .non m2 → k .non m2) → (∀ q2 m2, (G.nx (slW o d L q2 [some (.tup [.str "repeat", .int i, .tup (pgD a)]), e5, e6, e7, e8, e9, e10, e11]) m2) → k (.ref q2) m2) → anR k m' L (rn a ps cs)) :
    v__law_walk_b1 (ph__law_walk n) (slW o d L q [some (.tup [.str "repeat", .int i, .tup (pgD a)]), e5, e6, e7, e8, e9, e10, e11]) m' G := by
  unfold v__law_walk_b1
  walk_at "vc"
  refine ⟨L, .ref q, a, ps, cs, W, j, rfl, hr, by show dicO (m' q) = _; rw [hd]; rfl, ha, hi, hc, hj, na, g _ (fun m2 h => ?_) fun q2 m2 h => ?_⟩
  · dsimp only; rw [if_pos rfl]; exact h
  · dsimp only; rw [if_neg (by simp)]; exact h
theorem lw_reps {n : Nat} {m : Mem} {L : Addr} {o : List D} {d : D} {W : List Nm} {G : DE} {i : Int} {a : Pg} (ha : PgOk W a) (na : dpt a < n) : ∀ (xs : List D) (ps : Al) (cs : List Rat) (j : Nat) (q : Addr) (m' : Mem) (e5 e6 e7 e8 e9 e10 e11 : Option D),
    Iv W j ps → ChOk cs → j + xs.length * cst a ≤ 29 → m' L = some (.lst (cs.map qD)) → MLe (mset m L (.lst (cs.map qD))) m' → m q = none → m' q = some (.dic (alD ps)) →
    ((itN (rn a) xs.length ps cs).1 = none → ∀ m2, MLe (mset m L (.lst ((itN (rn a) xs.length ps cs).2.map qD))) m2 → G.rt .non m2) →
    (∀ ps2, (itN (rn a) xs.length ps cs).1 = some ps2 → ∀ q2 m2, m q2 = none → m2 q2 = some (.dic (alD ps2)) → m2 L = some (.lst ((itN (rn a) xs.length ps cs).2.map qD)) → MLe (mset m L (.lst ((itN (rn a) xs.length ps cs).2.map qD))) m2 → ∀ e5 e6 e7 e8 e9 e10 e11 : Option D, G.nx (slW o d L q2 [some (.tup [.str "repeat", .int i, .tup (pgD a)]), e5, e6, e7, e8, e9, e10, e11]) m2) →
    forV (fun d s m G => v__law_walk_b1 (ph__law_walk n) (List.set s 10 (some d)) m G) xs (slW o d L q [some (.tup [.str "repeat", .int i, .tup (pgD a)]), e5, e6, e7, e8, e9, e10, e11]) m' G
  | [], ps, cs, j, q, m', _, _, _, _, _, _, _, hi, hc, _, hr, hm, hq, hd, h0, h1 => h1 ps rfl q m' hq hd hr hm _ _ _ _ _ _ _
  | x :: xs, ps, cs, j, q, m', _, _, _, _, _, _, _, hi, hc, hj, hr, hm, hq, hd, h0, h1 => by
    rw [List.length_cons, Nat.succ_mul] at hj
    have kp := rn_kp a j ps cs ha hi hc
    rw [forV]
    refine lw_b1 ha na hi hc (by omega) hr hd (lw_key hr hm (fun e m2 h2 => ?_) fun ps1 e q2 m2 hq2 nL hd2 hr2 hm2 => ?_)
    · have he2 : itN (rn a) (x :: xs).length ps cs = (none, (rn a ps cs).2) := by
        show (match rn a ps cs with | (some ps', cs') => itN (rn a) xs.length ps' cs' | (none, cs') => (none, cs')) = _
        cases h : rn a ps cs with
        | mk o r => rw [h] at e; cases e; rfl
      rw [he2] at h0
      exact h0 rfl m2 h2
    · have he2 : itN (rn a) (x :: xs).length ps cs = itN (rn a) xs.length ps1 (rn a ps cs).2 := by
        show (match rn a ps cs with | (some ps', cs') => itN (rn a) xs.length ps' cs' | (none, cs') => (none, cs')) = _
        cases h : rn a ps cs with
        | mk o r => rw [h] at e; cases e; rfl
      rw [he2] at h0 h1
      exact lw_reps ha na xs ps1 _ (j + cst a) q2 m2 _ _ _ _ _ _ _ (kp.1 _ e) kp.2 (by omega) hr2 hm2 hq2 hd2 h0 h1
theorem lw_rep {n : Nat} {L q : Addr} {m' : Mem} {o : List D} {d : D} {G : DE} {i : Nat} {a : Pg} {e5 e6 e7 e8 e9 e10 e11 : Option D} (hi : i ≤ 1000)
    (g : forV (fun d s m G => v__law_walk_b1 (ph__law_walk n) (List.set s 10 (some d)) m G) (rngD 0 i) (slW o d L q [some (.tup [.str "repeat", .int (i : Int), .tup (pgD a)]), e5, e6, e7, e8, e9, e10, e11]) m' G) :
    v__law_walk_b2 (ph__law_walk n) (slW o d L q [some (.tup [.str "repeat", .int (i : Int), .tup (pgD a)]), e5, e6, e7, e8, e9, e10, e11]) m' G := by
  unfold v__law_walk_b2
  walk_at "vc"
  rw [if_neg (by decide +kernel), if_neg (by decide +kernel), if_neg (by decide +kernel), if_neg (by decide +kernel)]
  refine ⟨⟨by omega, by omega⟩, ?_⟩
  exact g

/-! ### k40: the law's loop -/
theorem lw_loop (n : Nat) {L : Addr} {m : Mem} {o : List D} {d : D} {W : List Nm} {G : DE} : ∀ (pg : Pg) (ps : Al) (cs : List Rat) (j : Nat) (q : Addr) (m' : Mem) (e4 e5 e6 e7 e8 e9 e10 e11 : Option D),
    PgOk W pg → Iv W j ps → ChOk cs → j + cst pg ≤ 29 → dpt pg ≤ n → m' L = some (.lst (cs.map qD)) → MLe (mset m L (.lst (cs.map qD))) m' → m q = none → m' q = some (.dic (alD ps)) →
    ((rn pg ps cs).1 = none → ∀ m2, MLe (mset m L (.lst ((rn pg ps cs).2.map qD))) m2 → G.rt .non m2) →
    (∀ ps2, (rn pg ps cs).1 = some ps2 → ∀ q2 m2 s2, m q2 = none → m2 q2 = some (.dic (alD ps2)) → MLe (mset m L (.lst ((rn pg ps cs).2.map qD))) m2 → s2[3]? = some (some (.ref q2)) → G.nx s2 m2) →
    forV (fun d s m G => v__law_walk_b2 (ph__law_walk n) (List.set s 4 (some d)) m G) (pgD pg) (slW o d L q [e4, e5, e6, e7, e8, e9, e10, e11]) m' G
  | .nil, ps, cs, j, q, m', _, _, _, _, _, _, _, _, _, hi, hc, _, _, hr, hm, hq, hd, h0, h1 => h1 ps rfl q m' _ hq hd hm rfl
  | .set x lo up r, ps, cs, j, q, m', _, _, _, _, _, _, _, _, hp, hi, hc, hj, hn, hr, hm, hq, hd, h0, h1 => by
    have hj : j + (1 + cst r) ≤ 29 := hj
    have hqL : q ≠ L := fun z => by rw [z, hr] at hd; cases hd
    rw [pgD, forV]
    refine lw_set hp.1 hp.2.1 hp.2.2.1 hi hc (by omega) hr hd hqL (fun h => ?_) fun h e4 e5 e6 e7 e8 e9 e10 e11 => ?_
    · unfold rn at h0
      rw [if_pos h] at h0
      exact h0 rfl m' hm
    · unfold rn at h0 h1
      rw [if_neg h] at h0 h1
      exact lw_loop n r _ cs.tail (j + 1) q _ _ _ _ _ _ _ _ _ hp.2.2.2 (hi.put hp.1 (Iq.step (fmV_iq hi hp.2.1) (fmV_iq hi hp.2.2.1) hc.hd.2)) hc.tail (by omega) hn (by rw [mset_ne (Ne.symm hqL), mset_same]) (mle_put hqL hm hq) hq mset_same h0 h1
  | .any x r, ps, cs, j, q, m', _, _, _, _, _, _, _, _, hp, hi, hc, hj, hn, hr, hm, hq, hd, h0, h1 => by
    have hj : j + (1 + cst r) ≤ 29 := hj
    have hqL : q ≠ L := fun z => by rw [z, hr] at hd; cases hd
    rw [pgD, forV]
    refine lw_any (j := j) hp.1 hi hr hd hqL fun e4 e5 e6 e7 e8 e9 e10 e11 => ?_
    exact lw_loop n r _ cs.tail (j + 1) q _ _ _ _ _ _ _ _ _ hp.2 (hi.put hp.1 (hc.hd.1.mono (by omega))) hc.tail (by omega) hn (by rw [mset_ne (Ne.symm hqL), mset_same]) (mle_put hqL hm hq) hq mset_same h0 h1
  | .chk ts r, ps, cs, j, q, m', _, _, _, _, _, _, _, _, hp, hi, hc, hj, hn, hr, hm, hq, hd, h0, h1 => by
    have hj : j + cst r ≤ 29 := hj
    rw [pgD, forV]
    refine lw_chk (j := j) hp.1 hp.2.1 hi (by omega) hd (fun h => ?_) fun h e4 e5 e6 e7 e8 e9 e10 e11 => ?_
    · unfold rn at h0
      rw [if_neg (by rw [h]; decide)] at h0
      exact h0 rfl m' hm
    · unfold rn at h0 h1
      rw [if_pos h] at h0 h1
      exact lw_loop n r _ cs j q _ _ _ _ _ _ _ _ _ hp.2.2 hi hc (by omega) hn hr hm hq hd h0 h1
  | .ei a b r, ps, cs, j, q, m', _, _, _, _, _, _, _, _, hp, hi, hc, hj, hn, hr, hm, hq, hd, h0, h1 => by
    have hj : j + (cst a + cst b + cst r) ≤ 29 := hj
    have hn : max (max (dpt a + 1) (dpt b + 1)) (dpt r) ≤ n := hn
    have hqL : q ≠ L := fun z => by rw [z, hr] at hd; cases hd
    rw [pgD, forV]
    have kp : Kp W (j + cst a + cst b) (if (cs.headD 0).num = 0 then rn a ps cs.tail else rn b ps cs.tail) := by
      split
      · have := rn_kp a j ps cs.tail hp.1 hi hc.tail
        exact ⟨fun ps' e => (this.1 ps' e).mono (by omega), this.2⟩
      · have := rn_kp b j ps cs.tail hp.2.1 hi hc.tail
        exact ⟨fun ps' e => (this.1 ps' e).mono (by omega), this.2⟩
    have e : rn (.ei a b r) ps cs = (match (if (cs.headD 0).num = 0 then rn a ps cs.tail else rn b ps cs.tail) with | (some ps', cs') => rn r ps' cs' | (none, cs') => (none, cs')) := by rw [rn] <;> rfl
    refine lw_ei hp.1 hp.2.1 (by omega) (by omega) hi hc (by omega) hr hd hqL (lw_key hr hm ?_ ?_)
    all_goals
      generalize (if (cs.headD 0).num = 0 then rn a ps cs.tail else rn b ps cs.tail) = O at e kp
      obtain ⟨o1, c1⟩ := O
    · intro hO m2 hm2
      cases hO
      rw [e] at h0
      exact h0 rfl m2 hm2
    · intro ps1 hO q2 m2 hq2 nL hd2 hr2 hm2 e4 e5 e6 e7 e8 e9 e10 e11
      cases hO
      rw [e] at h0 h1
      exact lw_loop n r ps1 c1 (j + cst a + cst b) q2 m2 _ _ _ _ _ _ _ _ hp.2.2 (kp.1 _ rfl) kp.2 (by omega) (by omega) hr2 hm2 hq2 hd2 h0 h1
  | .rep i a r, ps, cs, j, q, m', _, _, _, _, _, _, _, _, hp, hi, hc, hj, hn, hr, hm, hq, hd, h0, h1 => by
    have hj : j + (i * cst a + cst r) ≤ 29 := hj
    have hn : max (dpt a + 1) (dpt r) ≤ n := hn
    rw [pgD, forV]
    have kp := itN_kp (W := W) (c := cst a) (fun j ps cs h hc => rn_kp a j ps cs hp.2.1 h hc) i j ps cs hi hc
    have e : rn (.rep i a r) ps cs = (match itN (rn a) i ps cs with | (some ps', cs') => rn r ps' cs' | (none, cs') => (none, cs')) := by rw [rn] <;> rfl
    have hl : (rngD 0 i).length = i := by simp [rngD]
    refine lw_rep hp.1 (lw_reps (m := m) hp.2.1 (by omega) (rngD 0 i) ps cs j q m' _ _ _ _ _ _ _ hi hc (by rw [hl]; omega) hr hm hq hd ?_ ?_)
    all_goals
      rw [hl]
      generalize itN (rn a) i ps cs = O at e kp
      obtain ⟨o1, c1⟩ := O
    · intro hO m2 hm2
      cases hO
      rw [e] at h0
      exact h0 rfl m2 hm2
    · intro ps1 hO q2 m2 hq2 hd2 hr2 hm2 e5 e6 e7 e8 e9 e10 e11
      cases hO
      rw [e] at h0 h1
      exact lw_loop n r ps1 c1 (j + i * cst a) q2 m2 _ _ _ _ _ _ _ _ hp.2.2 (kp.1 _ rfl) kp.2 (by omega) (by omega) hr2 hm2 hq2 hd2 h0 h1
theorem w__law_walk_0 : ∀ ds m k, ph__law_walk 0 ds m k → v__law_walk (fun _ _ _ => False) (dstart 12 ds) m (endV k) := by
  rintro _ m k ⟨_, _, _, _, _, _, _, _, _, _, _, _, _, _, h, _⟩; omega
theorem w__law_walk (n : Nat) : ∀ ds m k, ph__law_walk (n + 1) ds m k → v__law_walk (ph__law_walk n) (dstart 12 ds) m (endV k) := by
  rintro _ m k ⟨L, d, pg, ps, cs, W, j, rfl, hr, hd, hp, hi, hc, hj, hn, hk⟩
  unfold v__law_walk
  walk_at "vc"
  rw [hd, onO_1]
  intro q hq
  have hqL : q ≠ L := fun z => by rw [z, hr] at hq; cases hq
  refine lw_loop n (L := L) (m := m) (W := W) pg ps cs j q _ none none none none none none none none hp hi hc hj (by omega) (by rw [mset_ne (Ne.symm hqL)]; exact hr) (fun b o h => ?_) hq mset_same (fun e m2 h2 => ?_) fun ps2 e q2 m2 s2 hq2 hd2 hm2 hs2 => ?_
  · rw [mset_ne (fun z => by
      rw [z, mset_ne hqL, hq] at h; cases h)]
    by_cases hb : b = L
    · rw [hb, mset_same] at h; rw [hb, hr]; exact h
    · rw [mset_ne hb] at h; exact h
  · exact ⟨_, h2, hk.1 e⟩
  · show vGet s2[3]? _
    rw [hs2]
    refine ⟨_, fun b o h => ?_, hk.2 ps2 e q2 hq2⟩
    by_cases hb : b = L
    · exact hm2 b o (by rw [hb, mset_same] at h ⊢; exact h)
    · rw [mset_ne hb] at h
      by_cases hb2 : b = q2
      · rw [hb2, mset_same] at h; rw [hb2, hd2]; exact h
      · rw [mset_ne hb2] at h
        exact hm2 b o (by rw [mset_ne hb]; exact h)

/-! ### k40: the law's run -/
def ph__law_run : P0 := fun ds m k => ∃ (d : D) (pg : Pg) (ps : Al) (cs : List Rat) (W : List Nm) (j : Nat), ds = [.tup (pgD pg), d, .lst (cs.map qD)] ∧ asK m d = some (alD ps) ∧ PgOk W pg ∧ Iv W j ps ∧ ChOk cs ∧ j + cst pg ≤ 29 ∧ dpt pg < 5 ∧
  ((rn pg ps cs).1 = none → k .non m) ∧ ∀ ps', (rn pg ps cs).1 = some ps' → ∀ q, m q = none → k (.ref q) (mset m q (.dic (alD ps')))
theorem l__law_run : ∀ ds m k, ph__law_run ds m k → ds.length = 3 := by rintro _ m k ⟨_, _, _, _, _, _, rfl, _⟩; rfl
/- def _law_run, slots 0 _law_program_here 1 _law_values 2 _law_choices -/
@[reducible] def v__law_run : VS :=
  (vRet (vCall (ph__law_walk 5) (vCons (vVar 0) (vCons (vVar 1) (vCons (vCB oListO (vCons (vVar 2) vNil)) vNil)))))


theorem w__law_run : ∀ ds m k, ph__law_run ds m k → v__law_run (dstart 3 ds) m (endV k) := by
  rintro _ m k ⟨d, pg, ps, cs, W, j, rfl, hd, hp, hi, hc, hj, hn, hk0, hk1⟩
  unfold v__law_run
  walk_at "vc"
  intro L hL
  have at_ : ∀ (v w : MO) (a : Addr) (o : MO), m a = some o → mset (mset m L v) L w a = some o := fun v w a o h => by
    rw [mset_ne (fun z => by rw [z, hL] at h; cases h), mset_ne (fun z => by rw [z, hL] at h; cases h)]
    exact h
  refine ⟨L, d, pg, ps, cs, W, j, rfl, mset_same, ?_, hp, hi, hc, hj, hn, fun e => ⟨m, fun a o h => at_ _ _ a o h, hk0 e⟩, fun ps' e q hq => ?_⟩
  · cases d with
    | ref a =>
      have hd : dicO (m a) = some (alD ps) := hd
      show dicO (mset m L _ a) = _
      rw [mset_ne (fun z => by rw [z, hL] at hd; cases hd)]; exact hd
    | dic _ => exact hd
    | _ => cases hd
  · have hqL : q ≠ L := fun z => by rw [z, mset_same] at hq; cases hq
    have hmq : m q = none := by rw [mset_ne hqL] at hq; exact hq
    refine ⟨_, fun a o h => ?_, hk1 ps' e q hmq⟩
    by_cases hb : a = q
    · rw [hb, mset_same] at h; rw [hb, mset_ne hqL, mset_same]; exact h
    · rw [mset_ne hb] at h
      rw [mset_ne (fun z => by rw [z, hL] at h; cases h), mset_ne hb, mset_ne (fun z => by rw [z, hL] at h; cases h)]
      exact h

/-! ### k40: drawn forms, checks -/
def Hf (n : Nat) (q : Rat) : Prop := ∃ a : Int, q * 2 = (a : Rat) ∧ a.natAbs ≤ n
theorem half_of {p : Int × Int} {n : Nat} (h : Fr.Ok p ∧ ((p.2 = 1 ∧ (p.1 * 2).natAbs ≤ n) ∨ (p.2 = 2 ∧ p.1.natAbs ≤ n))) : ∃ q : Rat, p = rf q ∧ Hf n q := by
  obtain ⟨o, h⟩ := h
  obtain ⟨q, rfl⟩ := ok_rf o
  have e := rf_div q
  refine ⟨q, rfl, ?_⟩
  rcases h with ⟨h1, h2⟩ | ⟨h1, h2⟩
  · have h1 : ((q.den : Nat) : Int) = 1 := h1
    rw [h1] at e
    refine ⟨q.num * 2, ?_, h2⟩
    rw [Rat.intCast_mul]
    have e1 : ((1 : Int) : Rat) = 1 := rfl
    have e2 : ((2 : Int) : Rat) = 2 := rfl
    rw [e1] at e
    rw [e2]
    grind
  · have h1 : ((q.den : Nat) : Int) = 2 := h1
    rw [h1] at e
    have e2 : ((2 : Int) : Rat) = 2 := rfl
    rw [e2] at e
    exact ⟨q.num, by grind, h2⟩
theorem Hf.bits {q : Rat} {n : Nat} (h : Hf n q) (hn : n ≤ 100) : Bq 8 q := by
  obtain ⟨a, e, ha⟩ := h
  have : q = (a : Rat) / ((2 : Int) : Rat) := by rw [← e]; show q = q * 2 / 2; grind
  rw [this]
  exact Bq.frac (by decide) (by omega) (by decide)
theorem Hf.add {p q : Rat} {a b : Nat} (h1 : Hf a p) (h2 : Hf b q) : Hf (a + b) (p + q) := by
  obtain ⟨x, e, hx⟩ := h1
  obtain ⟨y, e', hy⟩ := h2
  exact ⟨x + y, by rw [Rat.intCast_add, ← e, ← e']; grind, by omega⟩
theorem anyH {m : Mem} {k : KD} {n : Nat} (ps : List (Int × Int)) (h : ∀ p ∈ ps, Fr.Ok p ∧ ((p.2 = 1 ∧ (p.1 * 2).natAbs ≤ n) ∨ (p.2 = 2 ∧ p.1.natAbs ≤ n))) (h0 : ps ≠ []) (hl : ps.length ≤ 1000) (hk : ∀ q : Rat, Hf n q → k (qD q) m) : ph__law_any [.feed, .lst (ps.map frD)] m k :=
  ⟨fun z => h0 (List.map_eq_nil_iff.mp z), by rw [List.length_map]; omega, fun d hd => by
    obtain ⟨p, hp, rfl⟩ := List.mem_map.mp hd
    obtain ⟨q, rfl, hq⟩ := half_of (h p hp)
    exact hk q hq⟩
theorem anyW {m : Mem} {k : KD} {ws : List Nm} (h0 : ws ≠ []) (hl : ws.length ≤ 1000) (hk : ∀ w ∈ ws, k (.str (S w)) m) : ph__law_any [.feed, wsD ws] m k :=
  ⟨fun z => h0 (List.map_eq_nil_iff.mp z), by rw [List.length_map]; omega, fun d hd => by
    obtain ⟨w, hw, rfl⟩ := List.mem_map.mp hd
    exact hk w hw⟩
/-- names that were drawn -/
structure WsOk (ws : List Nm) : Prop where
  ne : ws ≠ []
  ln : ws.length ≤ 50
  nd : ws.Nodup
  n0 : ∀ w ∈ ws, w ≠ []
def ph__law_form : P0 := fun ds m k => ∃ ws : List Nm, ds = [.feed, wsD ws] ∧ WsOk ws ∧ ∀ f : Fm, FmOk ws f → Hf 6 f.c → k (fmD f) m
theorem l__law_form : ∀ ds m k, ph__law_form ds m k → ds.length = 2 := by rintro _ m k ⟨_, rfl, _⟩; rfl
/- def _law_form, slots 0 _law_feed_here 1 _law_words_here 2 _law_rate_here 3 _law_number -/
@[reducible] def v__law_form : VS :=
  (vSeq (vSet 2 (vCall ph__law_any (vCons (vVar 0) (vCons (vLst (vCons (vTup (vCons (vC (.int 1)) (vCons (vC (.int 1)) vNil))) (vCons (vTup (vCons (vC (.int 1)) (vCons (vC (.int 1)) vNil))) (vCons (vTup (vCons (vUn oNeg (vC (.int 1))) (vCons (vC (.int 1)) vNil))) (vCons (vTup (vCons (vC (.int 2)) (vCons (vC (.int 1)) vNil))) (vCons (vTup (vCons (vC (.int 1)) (vCons (vC (.int 2)) vNil))) (vCons (vTup (vCons (vC (.int 0)) (vCons (vC (.int 1)) vNil))) vNil))))))) vNil))))
    (vSeq (vSet 3 (vCall ph__law_any (vCons (vVar 0) (vCons (vLst (vCons (vTup (vCons (vC (.int 0)) (vCons (vC (.int 1)) vNil))) (vCons (vTup (vCons (vC (.int 1)) (vCons (vC (.int 1)) vNil))) (vCons (vTup (vCons (vUn oNeg (vC (.int 1))) (vCons (vC (.int 1)) vNil))) (vCons (vTup (vCons (vC (.int 1)) (vCons (vC (.int 2)) vNil))) (vCons (vTup (vCons (vUn oNeg (vC (.int 3))) (vCons (vC (.int 1)) vNil))) (vCons (vTup (vCons (vC (.int 0)) (vCons (vC (.int 1)) vNil))) vNil))))))) vNil))))
    (vRet (vIf (tV (vOp oNe (vOp oIx (vVar 2) (vC (.int 0))) (vC (.int 0)))) (vTup (vCons (vVar 2) (vCons (vCall ph__law_any (vCons (vVar 0) (vCons (vVar 1) vNil))) (vCons (vVar 3) vNil)))) (vTup (vCons (vVar 2) (vCons (vC (.str "")) (vCons (vVar 3) vNil))))))))


theorem w__law_form : ∀ ds m k, ph__law_form ds m k → v__law_form (dstart 4 ds) m (endP k) := by
  rintro _ m k ⟨ws, rfl, hw, hk⟩
  unfold v__law_form
  walk_at "vc"
  refine anyH (n := 4) [(1, 1), (1, 1), (-1, 1), (2, 1), (1, 2), (0, 1)] (by decide) (by decide) (by decide) fun r hr => ?_
  walk_at "vc"
  refine anyH (n := 6) [(0, 1), (1, 1), (-1, 1), (1, 2), (-3, 1), (0, 1)] (by decide) (by decide) (by decide) fun c hc => ?_
  walk_at "vc"
  have fo : ∀ x : Nm, (x ≠ [] → x ∈ ws) → FmOk ws ⟨r, x, c⟩ := fun x hx => ⟨hx, let ⟨a, e, ha⟩ := hr; ⟨a, e, ha⟩, let ⟨a, e, ha⟩ := hc; ⟨a, e, by omega⟩⟩
  refine itP (fun h => ?_) fun h => ?_
  · exact anyW hw.ne (by have := hw.ln; omega) fun w hx => hk ⟨r, w, c⟩ (fo w fun _ => hx) hc
  · exact hk ⟨r, [], c⟩ (fo [] fun z => absurd rfl z) hc
theorem oks_al {ts : List Tm} (h : ∀ t ∈ ts, Fr.Ok t.2) : ∃ qs : Al, ts = qs.map fun t => (t.1, rf t.2) := by
  induction ts with
  | nil => exact ⟨[], rfl⟩
  | cons t ts ih =>
    obtain ⟨qs, rfl⟩ := ih fun x hx => h x (List.mem_cons_of_mem _ hx)
    obtain ⟨q, e⟩ := ok_rf (h t List.mem_cons_self)
    exact ⟨(t.1, q) :: qs, by rw [List.map_cons, ← e]⟩
theorem lowP {a b : Int} (ha : 0 < a) (hb : 0 < b) : 0 < (Fr.low a b).1 := by
  have e := Fr.low_eq (a := a) (b := b) (by omega)
  have o := (Fr.low_ok (a := a) (b := b) (by omega)).1
  have p : 0 < a * (Fr.low a b).2 := Int.mul_pos ha o
  rw [← e] at p
  exact Int.pos_of_mul_pos_left p hb
theorem brief' {ws : List Nm} {ts : Al} {b : Rat} {m : Mem} {k : KD} (ht : TqOk ws ts) (hb : Bq 60 b) (hk : ∀ T : Te, T.ts.length ≤ 2 → (∀ t ∈ T.ts, Bq 300 t.2 ∧ t.1 ∈ ws) → Bq 2000 T.b → k (teD T) m) : ph__law_brief [.tup [.tup (ts.map tqD), qD b]] m k := by
  have hT : TOk (toT ⟨ts, b⟩).1 := by
    refine ⟨fun z => ?_, ?_, fun t ht' => ?_⟩
    · have e : (ts.map fun t => ((t.1, rf t.2) : Tm)) = [] := z
      have := ht.len
      rw [List.map_eq_nil_iff] at e
      rw [e] at this
      simp at this
    · show (ts.map _).length ≤ 2
      rw [List.length_map]
      rcases ht.len with z | z <;> omega
    · obtain ⟨x, hx, rfl⟩ := List.mem_map.mp ht'
      exact ⟨rf_ok _, fun z => ht.nz x hx (num_zero.mp z), (ht.bd x hx).mono (by decide)⟩
  have hbd : ∀ t ∈ (toT ⟨ts, b⟩).1, Bd 4 t.2 := fun t ht' => by
    obtain ⟨x, hx, rfl⟩ := List.mem_map.mp ht'
    exact ht.bd x hx
  have hnm : ∀ t ∈ (toT ⟨ts, b⟩).1, t.1 ∈ ws := fun t ht' => by
    obtain ⟨x, hx, rfl⟩ := List.mem_map.mp ht'
    exact ht.nm x hx
  have c0 : (rf b).2 ≠ 0 := rf_nz b
  refine ⟨toT ⟨ts, b⟩, by rw [← teD_T], hT, c0, (show Bd 60 (rf b) from hb).mono (by decide), ?_⟩
  generalize eA : (toT ⟨ts, b⟩).1 = A at hT hbd hnm
  obtain ⟨_, u0, p0⟩ := scale_sc hT
  have s1 : 0 < (scale A).1 := lowP u0 p0
  have s2 : 0 < (scale A).2 := (Fr.low_ok (a := scU A) (b := scP A) (by omega)).1
  have sb : Bd (4 * 3 + 1) (scale A) := scale_bd (n := 4) (L := 2) hT hbd hT.len
  obtain ⟨t1, t2⟩ := hT.scl hbd s1 s2 sb (by omega)
  have b1 : Bd 2000 (fmul (rf b) (scale A)) := ((show Bd 60 (rf b) from hb).mul sb c0 (by omega)).mono (by decide)
  have o1 : Fr.Ok (fmul (rf b) (scale A)) := fmul_ok c0 (by omega)
  obtain ⟨q, eq_⟩ := ok_rf o1
  obtain ⟨qs, eqs_⟩ := oks_al fun t ht => (t1.rt t ht).1
  have e : red (toT ⟨ts, b⟩) = toT ⟨qs, q⟩ := by
    show (((toT ⟨ts, b⟩).1.map fun t => ((t.1, fmul t.2 (scale (toT ⟨ts, b⟩).1)) : Tm)), fmul (rf b) (scale (toT ⟨ts, b⟩).1)) = (qs.map (fun t => ((t.1, rf t.2) : Tm)), rf q)
    rw [eA, eqs_, eq_]
  rw [e, ← teD_T]
  have ml : ∀ t ∈ qs, ∃ x ∈ (A.map fun t => ((t.1, fmul t.2 (scale A)) : Tm)), x = (t.1, rf t.2) := fun t ht => ⟨(t.1, rf t.2), by rw [eqs_]; exact List.mem_map.mpr ⟨t, ht, rfl⟩, rfl⟩
  refine hk ⟨qs, q⟩ ?_ (fun t ht => ?_) (by rw [eq_] at b1; exact b1)
  · have := t1.len
    rw [eqs_, List.length_map] at this
    exact this
  · obtain ⟨x, hx, rfl⟩ := ml t ht
    refine ⟨(t2 _ hx).mono (by decide), ?_⟩
    obtain ⟨y, hy, e⟩ := List.mem_map.mp hx
    have e1 : y.1 = t.1 := congrArg Prod.fst e
    rw [← e1]
    exact hnm y hy
/-- a check's ties -/
def CkOk (ws : List Nm) (Ts : List Te) : Prop := (∀ T ∈ Ts, T.ts.length ≤ 2 ∧ Bq 2000 T.b ∧ ∀ t ∈ T.ts, Bq 300 t.2 ∧ t.1 ∈ ws) ∧ Ts.length ≤ 1000
def ph__law_check : P0 := fun ds m k => ∃ ws : List Nm, ds = [.feed, wsD ws] ∧ WsOk ws ∧ ∀ Ts, CkOk ws Ts → k (.tup (Ts.map teD)) m
theorem l__law_check : ∀ ds m k, ph__law_check ds m k → ds.length = 2 := by rintro _ m k ⟨_, rfl, _⟩; rfl
/- def _law_check, slots 0 _law_feed_here 1 _law_words_here 2 _law_tie 3 _law_back 4 _law_name 5 _law_rate_here -/
@[reducible] def v__law_check : VS :=
  (vSeq (vSet 2 (vCall ph__law_brief (vCons (vTup (vCons (vCall ph__law_terms (vCons (vVar 0) (vCons (vVar 1) (vCons (vC (.int 2)) vNil)))) (vCons (vCall ph__law_any (vCons (vVar 0) (vCons (vLst (vCons (vTup (vCons (vC (.int 0)) (vCons (vC (.int 1)) vNil))) (vCons (vTup (vCons (vC (.int 1)) (vCons (vC (.int 1)) vNil))) (vCons (vTup (vCons (vC (.int 3)) (vCons (vC (.int 1)) vNil))) (vCons (vTup (vCons (vUn oNeg (vC (.int 1))) (vCons (vC (.int 2)) vNil))) (vCons (vTup (vCons (vC (.int 5)) (vCons (vC (.int 1)) vNil))) vNil)))))) vNil))) vNil))) vNil)))
    (vSeq (vSet 3 (vTup (vCons (vCB oTuple (vCons (vLc (vWalk (vOp oIx (vVar 2) (vC (.int 0)))) (gTp 2 (gCn (gN 4) (gCn (gN 5) gNl))) vYes (vTup (vCons (vVar 4) (vCons (vCall ph__law_minus (vCons (vVar 5) vNil)) vNil))) [4, 5]) vNil)) (vCons (vCall ph__law_minus (vCons (vOp oIx (vVar 2) (vC (.int 1))) vNil)) vNil))))
    (vRet (vIf (tV (vOp oEq (vCall ph__law_draw (vCons (vVar 0) (vCons (vC (.int 5)) vNil))) (vC (.int 0)))) (vTup (vCons (vVar 2) (vCons (vVar 3) vNil))) (vTup (vCons (vVar 2) vNil))))))


theorem w__law_check : ∀ ds m k, ph__law_check ds m k → v__law_check (dstart 6 ds) m (endV k) := by
  rintro _ m k ⟨ws, rfl, hw, hk⟩
  unfold v__law_check
  walk_at "vc"
  refine terms' (List.length_pos_iff.mpr hw.ne) (by have := hw.ln; omega) hw.nd fun ts hts => ?_
  walk_at "vc"
  refine anyH (n := 10) [(0, 1), (1, 1), (3, 1), (-1, 2), (5, 1)] (by decide) (by decide) (by decide) fun b hb => ?_
  walk_at "vc"
  refine brief' hts ((hb.bits (by decide)).mono (by decide)) fun T h1 h2 h3 => ?_
  walk_at "vc"
  refine ⟨by rw [List.length_map]; omega, lc_map (f := tqD) (h := fun t : Nm × Rat => tqD (t.1, -t.2)) T.ts [] (fun t ht k' _ hk' => tgt2 ?_) ?_⟩
  · walk_at "vc"
    exact ⟨_, rfl, hk'⟩
  · refine ⟨_, rfl, dr (by decide) (by decide) fun r _ _ => ?_⟩
    walk_at "vc"
    refine itP (fun h => ⟨m, MLe.refl _, ?_⟩) fun h => ⟨m, MLe.refl _, ?_⟩
    · have e : D.tup [teD T, D.tup [D.tup (T.ts.map fun t => tqD (t.1, -t.2)), qD (-T.b)]] = .tup ([T, ⟨T.ts.map fun t => (t.1, -t.2), -T.b⟩].map teD) := by
        show _ = D.tup [teD T, D.tup [D.tup ((T.ts.map fun t => (t.1, -t.2)).map tqD), qD (-T.b)]]
        rw [List.map_map]; rfl
      rw [e]
      refine hk _ ⟨fun U hU => ?_, by simp⟩
      rcases List.mem_cons.mp hU with rfl | hU
      · exact ⟨h1, h3, h2⟩
      · rw [List.mem_singleton.mp hU]
        refine ⟨by rw [List.length_map]; exact h1, h3.neg, fun t ht => ?_⟩
        obtain ⟨x, hx, rfl⟩ := List.mem_map.mp ht
        exact ⟨(h2 x hx).1.neg, (h2 x hx).2⟩
    · refine hk [T] ⟨fun U hU => ?_, by simp⟩
      rw [List.mem_singleton.mp hU]
      exact ⟨h1, h3, h2⟩

/-! ### k40: drawn programs -/
def Pg.app : Pg → Pg → Pg
  | .nil, b => b
  | .set x l h r, b => .set x l h (r.app b)
  | .any x r, b => .any x (r.app b)
  | .chk ts r, b => .chk ts (r.app b)
  | .ei p q r, b => .ei p q (r.app b)
  | .rep n p r, b => .rep n p (r.app b)
theorem pgD_app : ∀ a b : Pg, pgD (a.app b) = pgD a ++ pgD b
  | .nil, b => rfl
  | .set x l h r, b => by rw [Pg.app, pgD, pgD, pgD_app r b]; rfl
  | .any x r, b => by rw [Pg.app, pgD, pgD, pgD_app r b]; rfl
  | .chk ts r, b => by rw [Pg.app, pgD, pgD, pgD_app r b]; rfl
  | .ei p q r, b => by rw [Pg.app, pgD, pgD, pgD_app r b]; rfl
  | .rep n p r, b => by rw [Pg.app, pgD, pgD, pgD_app r b]; rfl
theorem cst_app : ∀ a b : Pg, cst (a.app b) = cst a + cst b
  | .nil, b => by rw [Pg.app, cst]; omega
  | .set x l h r, b => by rw [Pg.app, cst, cst, cst_app r b]; omega
  | .any x r, b => by rw [Pg.app, cst, cst, cst_app r b]; omega
  | .chk ts r, b => by rw [Pg.app, cst, cst, cst_app r b]
  | .ei p q r, b => by rw [Pg.app, cst, cst, cst_app r b]; omega
  | .rep n p r, b => by rw [Pg.app, cst, cst, cst_app r b]; omega
theorem dpt_app : ∀ a b : Pg, dpt (a.app b) = max (dpt a) (dpt b)
  | .nil, b => by rw [Pg.app, dpt]; omega
  | .set x l h r, b => by rw [Pg.app, dpt, dpt, dpt_app r b]
  | .any x r, b => by rw [Pg.app, dpt, dpt, dpt_app r b]
  | .chk ts r, b => by rw [Pg.app, dpt, dpt, dpt_app r b]
  | .ei p q r, b => by rw [Pg.app, dpt, dpt, dpt_app r b]; omega
  | .rep n p r, b => by rw [Pg.app, dpt, dpt, dpt_app r b]; omega
theorem ok_app {W : List Nm} : ∀ {a b : Pg}, PgOk W a → PgOk W b → PgOk W (a.app b)
  | .nil, b, _, h => h
  | .set x l h r, b, h1, h2 => ⟨h1.1, h1.2.1, h1.2.2.1, ok_app h1.2.2.2 h2⟩
  | .any x r, b, h1, h2 => ⟨h1.1, ok_app h1.2 h2⟩
  | .chk ts r, b, h1, h2 => ⟨h1.1, h1.2.1, ok_app h1.2.2 h2⟩
  | .ei p q r, b, h1, h2 => ⟨h1.1, h1.2.1, ok_app h1.2.2 h2⟩
  | .rep n p r, b, h1, h2 => ⟨h1.1, h1.2.1, ok_app h1.2.2 h2⟩
def ph__law_program (n : Nat) : P0 := fun ds m k => ∃ (ws : List Nm) (dp many : Nat), ds = [.feed, wsD ws, .int (dp : Int), .int (many : Int)] ∧ WsOk ws ∧ dp < n ∧ many ≤ 3 ∧ ∀ pg, PgOk ws pg → cst pg ≤ many * 3 ^ dp → dpt pg ≤ dp → k (.tup (pgD pg)) m
theorem l__law_program (n : Nat) : ∀ ds m k, ph__law_program n ds m k → ds.length = 4 := by rintro _ m k ⟨_, _, _, rfl, _⟩; rfl
@[reducible] def v__law_program_b1 (φ : P0) : VS :=
  (vSeq (vSet 6 (vCall ph__law_draw (vCons (vVar 0) (vCons (vIf (tV (vOp oGt (vVar 2) (vC (.int 0)))) (vC (.int 7)) (vC (.int 4))) vNil))))
    (vIfS (tV (vOp oLt (vVar 6) (vC (.int 2)))) (vSeq (vSet 7 (vCall ph__law_form (vCons (vVar 0) (vCons (vVar 1) vNil))))
    (vSeq (vSet 8 (vTup (vCons (vOp oIx (vVar 7) (vC (.int 0))) (vCons (vOp oIx (vVar 7) (vC (.int 1))) (vCons (vCall ph__law_plus (vCons (vOp oIx (vVar 7) (vC (.int 2))) (vCons (vCall ph__law_any (vCons (vVar 0) (vCons (vLst (vCons (vTup (vCons (vC (.int 0)) (vCons (vC (.int 1)) vNil))) (vCons (vTup (vCons (vC (.int 1)) (vCons (vC (.int 1)) vNil))) (vCons (vTup (vCons (vC (.int 0)) (vCons (vC (.int 1)) vNil))) (vCons (vTup (vCons (vUn oNeg (vC (.int 1))) (vCons (vC (.int 1)) vNil))) vNil))))) vNil))) vNil))) vNil)))))
    (vDrop (vBM "list" oAppend (vVar 4) (vCons (vTup (vCons (vC (.str "set")) (vCons (vCall ph__law_any (vCons (vVar 0) (vCons (vVar 1) vNil))) (vCons (vVar 7) (vCons (vIf (tV (vOp oGt (vCall ph__law_draw (vCons (vVar 0) (vCons (vC (.int 3)) vNil))) (vC (.int 0)))) (vVar 8) (vCall ph__law_form (vCons (vVar 0) (vCons (vVar 1) vNil)))) vNil))))) vNil))))) (vIfS (tV (vOp oEq (vVar 6) (vC (.int 2)))) (vDrop (vBM "list" oAppend (vVar 4) (vCons (vTup (vCons (vC (.str "any")) (vCons (vCall ph__law_any (vCons (vVar 0) (vCons (vVar 1) vNil))) vNil))) vNil))) (vIfS (tV (vOp oEq (vVar 6) (vC (.int 3)))) (vDrop (vBM "list" oAppend (vVar 4) (vCons (vTup (vCons (vC (.str "check")) (vCons (vCall ph__law_check (vCons (vVar 0) (vCons (vVar 1) vNil))) vNil))) vNil))) (vIfS (tV (vOp oEq (vVar 6) (vC (.int 4)))) (vDrop (vBM "list" oAppend (vVar 4) (vCons (vTup (vCons (vC (.str "repeat")) (vCons (vCall ph__law_draw (vCons (vVar 0) (vCons (vC (.int 4)) vNil))) (vCons (vCall φ (vCons (vVar 0) (vCons (vVar 1) (vCons (vOp oSub (vVar 2) (vC (.int 1))) (vCons (vC (.int 1)) vNil))))) vNil)))) vNil))) (vDrop (vBM "list" oAppend (vVar 4) (vCons (vTup (vCons (vC (.str "either")) (vCons (vCall φ (vCons (vVar 0) (vCons (vVar 1) (vCons (vOp oSub (vVar 2) (vC (.int 1))) (vCons (vC (.int 2)) vNil))))) (vCons (vCall φ (vCons (vVar 0) (vCons (vVar 1) (vCons (vOp oSub (vVar 2) (vC (.int 1))) (vCons (vC (.int 1)) vNil))))) vNil)))) vNil))))))))
/- def _law_program, slots 0 _law_feed_here 1 _law_words_here 2 _law_depth 3 _law_many 4 _law_found 5 _law_k 6 _law_way 7 _law_low_here 8 _law_high -/
@[reducible] def v__law_program (φ : P0) : VS :=
  (vSeq (vSet 4 (vLstO vNil))
    (vSeq (vFor (vRng1 (vCons (vCall ph__law_draw (vCons (vVar 0) (vCons (vOp oAdd (vVar 3) (vC (.int 1))) vNil))) vNil)) (gN 5) (v__law_program_b1 φ))
    (vRet (vCB oTuple (vCons (vVar 4) vNil)))))


theorem w__law_program_0 : ∀ ds m k, ph__law_program 0 ds m k → v__law_program (fun _ _ _ => False) (dstart 9 ds) m (endV k) := by rintro _ m k ⟨_, _, _, _, _, h, _⟩; omega
/-- one statement of a drawn program -/
structure StOk (ws : List Nm) (dp : Nat) (pg : Pg) (d : D) : Prop where
  d1 : pgD pg = [d]
  ok : PgOk ws pg
  c : cst pg ≤ 3 ^ dp
  dp : dpt pg ≤ dp
theorem at_p {m : Mem} {p : Addr} {xs : List D} {P : List D → Prop} (h : P xs) : onM (mset m p (.lst xs) p) P := by rw [mset_same]; exact h
theorem pr_step {n : Nat} {ws : List Nm} {dp many : Nat} {p : Addr} {xs : List D} {m : Mem} {G : DE} {x5 x6 x7 x8 : Option D} (hw : WsOk ws) (hn : dp < n + 1) (hm : many ≤ 3) (hl : xs.length ≤ 100)
    (g : ∀ (pg : Pg) (d : D) (x6 x7 x8 : Option D), StOk ws dp pg d → G.nx [some .feed, some (wsD ws), some (.int (dp : Int)), some (.int (many : Int)), some (.ref p), x5, x6, x7, x8] (mset m p (.lst (xs ++ [d])))) :
    v__law_program_b1 (ph__law_program n) [some .feed, some (wsD ws), some (.int (dp : Int)), some (.int (many : Int)), some (.ref p), x5, x6, x7, x8] (mset m p (.lst xs)) G := by
  have one : 1 ≤ 3 ^ dp := Nat.pow_pos (by decide)
  unfold v__law_program_b1
  walk_at "vc"
  refine itP (fun h => dr (by decide) (by decide) fun r h0 h1 => ?_) fun h => dr (by decide) (by decide) fun r h0 h1 => ?_
  all_goals
    have hr : 4 ≤ r → 0 < dp := by omega
    clear h
    walk_at "vc"
    refine itP (fun h => ?_) fun hA => itP (fun h => ?_) fun hB => itP (fun h => ?_) fun hC => itP (fun h => ?_) fun hD => ?_
    · refine ⟨ws, rfl, hw, fun f hf hc => ?_⟩
      walk_at "vc"
      refine anyH (n := 2) [(0, 1), (1, 1), (0, 1), (-1, 1)] (by decide) (by decide) (by decide) fun q hq => ?_
      refine pq_add ((hc.bits (by decide)).mono (by decide)) ((hq.bits (by decide)).mono (by decide)) ?_
      have hf2 : FmOk ws ⟨f.r, f.x, f.c + q⟩ := ⟨hf.nm, hf.rt, let ⟨a, e, ha⟩ := hc.add hq; ⟨a, e, by omega⟩⟩
      refine ⟨at_p trivial, anyW hw.ne (by have := hw.ln; omega) fun w hx => dr (by decide) (by decide) fun s s0 s1 => ?_⟩
      walk_at "vc"
      refine itP (fun h => ?_) fun h => ?_
      · refine ⟨by omega, ?_⟩
        try rw [mset_mset]
        exact g (.set w f ⟨f.r, f.x, f.c + q⟩ .nil) _ _ _ _ ⟨rfl, ⟨hx, hf, hf2, trivial⟩, by show 1 + 0 ≤ _; omega, by show 0 ≤ _; omega⟩
      · refine ⟨ws, rfl, hw, fun f3 hf3 _ => ?_⟩
        refine at_p ⟨by omega, ?_⟩
        rw [mset_mset]
        exact g (.set w f f3 .nil) _ _ _ _ ⟨rfl, ⟨hx, hf, hf3, trivial⟩, by show 1 + 0 ≤ _; omega, by show 0 ≤ _; omega⟩
    · refine anyW hw.ne (by have := hw.ln; omega) fun w hx => ?_
      refine at_p ⟨by omega, ?_⟩
      rw [mset_mset]
      exact g (.any w .nil) _ _ _ _ ⟨rfl, ⟨hx, trivial⟩, by show 1 + 0 ≤ _; omega, by show 0 ≤ _; omega⟩
    · refine ⟨ws, rfl, hw, fun Ts hT => ?_⟩
      refine at_p ⟨by omega, ?_⟩
      rw [mset_mset]
      exact g (.chk Ts .nil) _ _ _ _ ⟨rfl, ⟨hT.1, hT.2, trivial⟩, by show 0 ≤ _; omega, by show 0 ≤ _; omega⟩
    · have hp : 1 ≤ dp := hr (by omega)
      refine dr (by decide) (by decide) fun s s0 s1 => ?_
      refine ⟨ws, dp - 1, 1, by rw [show ((dp - 1 : Nat) : Int) = (dp : Int) - 1 by omega]; rfl, hw, by omega, by decide, fun pg h1 h2 h3 => ?_⟩
      refine at_p ⟨by omega, ?_⟩
      rw [mset_mset]
      have e : (3 : Nat) ^ dp = 3 * 3 ^ (dp - 1) := by rw [← Nat.pow_succ']; congr 1; omega
      obtain ⟨i, rfl⟩ : ∃ i : Nat, s = (i : Int) := ⟨s.toNat, by omega⟩
      refine g (.rep i pg .nil) _ _ _ _ ⟨rfl, ⟨by omega, h1, trivial⟩, ?_, by show max (dpt pg + 1) 0 ≤ _; omega⟩
      show i * cst pg + 0 ≤ _
      have := Nat.mul_le_mul (show i ≤ 3 by omega) h2
      omega
    · have hp : 1 ≤ dp := hr (by omega)
      refine ⟨ws, dp - 1, 2, by rw [show ((dp - 1 : Nat) : Int) = (dp : Int) - 1 by omega]; rfl, hw, by omega, by decide, fun pa a1 a2 a3 => ?_⟩
      refine ⟨ws, dp - 1, 1, by rw [show ((dp - 1 : Nat) : Int) = (dp : Int) - 1 by omega]; rfl, hw, by omega, by decide, fun pb b1 b2 b3 => ?_⟩
      refine at_p ⟨by omega, ?_⟩
      rw [mset_mset]
      have e : (3 : Nat) ^ dp = 3 * 3 ^ (dp - 1) := by rw [← Nat.pow_succ']; congr 1; omega
      refine g (.ei pa pb .nil) _ _ _ _ ⟨rfl, ⟨a1, b1, trivial⟩, ?_, by show max (max (dpt pa + 1) (dpt pb + 1)) 0 ≤ _; omega⟩
      show cst pa + cst pb + 0 ≤ _
      omega
theorem w__law_program (n : Nat) : ∀ ds m k, ph__law_program (n + 1) ds m k → v__law_program (ph__law_program n) (dstart 9 ds) m (endV k) := by
  rintro _ m k ⟨ws, dp, many, rfl, hw, hn, hm, hk⟩
  unfold v__law_program
  walk_at "vc"
  intro p hp
  refine dr (by omega) (by omega) fun r r0 r1 => ?_
  obtain ⟨c, rfl⟩ : ∃ c : Nat, r = (c : Int) := ⟨r.toNat, by omega⟩
  walk_at "vc"
  refine ⟨⟨by omega, by omega⟩, ?_⟩
  refine forV_indP (fun ds s m' => ∃ (pg : Pg) (x5 x6 x7 x8 : Option D), s = [some .feed, some (wsD ws), some (.int (dp : Int)), some (.int (many : Int)), some (.ref p), x5, x6, x7, x8] ∧ m' = mset m p (.lst (pgD pg)) ∧ ds.length + (pgD pg).length = c ∧ PgOk ws pg ∧ cst pg ≤ (pgD pg).length * 3 ^ dp ∧ dpt pg ≤ dp) ?_ ?_ ⟨.nil, _, _, _, _, rfl, rfl, by simp [rngD, pgD], trivial, Nat.zero_le _, Nat.zero_le _⟩
  · rintro s _ ⟨pg, x5, x6, x7, x8, rfl, rfl, h1, h2, h3, h4⟩
    walk_at "vc"
    refine ⟨m, fun b o h => ?_, hk pg h2 (Nat.le_trans h3 (Nat.mul_le_mul_right _ ?_)) h4⟩
    · rw [mset_ne (fun z => by rw [z, hp] at h; cases h)]; exact h
    · simp at h1; omega
  · rintro d ds s _ P ⟨pg, x5, x6, x7, x8, rfl, rfl, h1, h2, h3, h4⟩ ih
    simp only [List.length_cons] at h1
    refine pr_step (x5 := some d) hw hn hm (by omega) fun st d2 y6 y7 y8 hs => ?_
    refine ih _ _ ⟨pg.app st, _, _, _, _, rfl, by rw [pgD_app, hs.d1], ?_, ok_app h2 hs.ok, ?_, ?_⟩
    · rw [pgD_app, hs.d1, List.length_append, List.length_singleton]; omega
    · rw [pgD_app, hs.d1, List.length_append, List.length_singleton, cst_app, Nat.succ_mul]
      have := hs.c
      omega
    · rw [dpt_app]; have := hs.dp; omega

/-! ### same, with dicts -/
/-- plain data, so deep; dicts of fractions -/
def Pl : Nat → D → Prop
  | _, .non => True
  | _, .bl _ => True
  | _, .int _ => True
  | _, .str _ => True
  | n + 1, .lst ds => ds.length ≤ 100000 ∧ ∀ d ∈ ds, Pl n d
  | n + 1, .tup ds => ds.length ≤ 100000 ∧ ∀ d ∈ ds, Pl n d
  | n + 1, .dic kvs => n ≠ 0 ∧ ∃ ps : Al, kvs = alD ps ∧ ps.length < 60 ∧ ∀ p ∈ ps, ∀ c ∈ p.1, c < 256
  | _, _ => False
def ph__law_same (n : Nat) : P0 := fun ds m k => ∃ x, ds = [x, x] ∧ Pl n x ∧ k (.bl true) m
theorem l__law_same (n : Nat) : ∀ ds m k, ph__law_same n ds m k → ds.length = 2 := by rintro _ m k ⟨x, rfl, _⟩; rfl
theorem keys_al (ps : Al) : keysD (alD ps) = ps.map fun p => .str (S p.1) := by
  unfold keysD alD
  rw [List.map_map]; rfl
theorem getA_has {ps : Al} {p : Nm × Rat} (h : p ∈ ps) : ∃ q, getA ps p.1 = some q := by
  unfold getA
  cases e : ps.find? fun x => decide (x.1 = p.1) with
  | none => exact absurd (List.find?_eq_none.mp e p h) (by simp)
  | some x => exact ⟨_, rfl⟩
/- def _law_same, slots 0 _law_found 1 _law_due 2 _law_key 3 _law_one 4 _law_two -/
@[reducible] def v__law_same (φ : P0) : VS :=
  (vSeq (vIfS (tV (vOp oIs (vVar 1) (vC .non))) (vRet (vOp oIs (vVar 0) (vC .non))) vNext)
    (vSeq (vIfS (vOr (tV (vIsi .bl (vVar 1))) (tV (vIsi .bl (vVar 0)))) (vRet (vAndV (vIsi .bl (vVar 1)) (vAndV (vIsi .bl (vVar 0)) (vOp oEq (vVar 0) (vVar 1))))) vNext)
    (vSeq (vIfS (tV (vIsi2 .int .str (vVar 1))) (vRet (vAndV (vIsi2 .int .str (vVar 0)) (vAndV (vOp oEq (vIsi .int (vVar 0)) (vIsi .int (vVar 1))) (vOp oEq (vVar 0) (vVar 1))))) vNext)
    (vSeq (vIfS (tV (vIsi .dic (vVar 1))) (vSeq (vIfS (vOr (vNot (tV (vIsi .dic (vVar 0)))) (tV (vOp oNe (vCB oSortS (vCons (vCB oListD (vCons (vVar 0) vNil)) vNil)) (vCB oSortS (vCons (vCB oListD (vCons (vVar 1) vNil)) vNil))))) (vRet (vC (.bl false))) vNext)
    (vRet (vCB oAll (vCons (vLc (vKeys (vVar 1)) (gN 2) vYes (vCall φ (vCons (vDGet (vVar 0) (vVar 2)) (vCons (vDGet (vVar 1) (vVar 2)) vNil))) [2]) vNil)))) vNext)
    (vSeq (vIfS (vOr (tV (vOp oNe (vIsi .lst (vVar 1)) (vIsi .lst (vVar 0)))) (tV (vOp oNe (vIsi .tup (vVar 1)) (vIsi .tup (vVar 0))))) (vRet (vC (.bl false))) vNext)
    (vRet (vAndV (vOp oEq (vCB oLen (vCons (vVar 0) vNil)) (vCB oLen (vCons (vVar 1) vNil))) (vCB oAll (vCons (vLc (vZip (vCons (vVar 0) (vCons (vVar 1) vNil))) (gTp 2 (gCn (gN 3) (gCn (gN 4) gNl))) vYes (vCall φ (vCons (vVar 3) (vCons (vVar 4) vNil))) [3, 4]) vNil)))))))))


theorem w__law_same (n : Nat) : ∀ ds m k, ph__law_same (n + 1) ds m k → v__law_same (ph__law_same n) (dstart 5 ds) m (endP k) := by
  rintro _ m k ⟨x, rfl, hp, hk⟩
  unfold v__law_same
  cases x with
  | non => walk_at "vc*"
  | bl b => walk_at "vc*"
  | int b => walk_at "vc*"
  | str b => walk_at "vc*"
  | lst xs =>
    obtain ⟨h1, h2⟩ := hp
    walk_at "vc*"
    refine ⟨by rw [zipD_self, List.length_map]; omega, same_row (by simp) (by simp) xs (fun x hx k' h => ⟨x, rfl, h2 x hx, h⟩) ?_⟩
    rw [trues]
    have e : (List.replicate xs.length true).all id = true := by simp
    walk_at "vc*"
  | tup xs =>
    obtain ⟨h1, h2⟩ := hp
    walk_at "vc*"
    refine ⟨by rw [zipD_self, List.length_map]; omega, same_row (by simp) (by simp) xs (fun x hx k' h => ⟨x, rfl, h2 x hx, h⟩) ?_⟩
    rw [trues]
    have e : (List.replicate xs.length true).all id = true := by simp
    walk_at "vc*"
  | dic kvs =>
    obtain ⟨n0, ps, rfl, h1, h3⟩ := hp
    walk_at "vc"
    have e : strDs (keysD (alD ps)) = some ((ps.map (·.1)).map S) := by
      rw [keys_al, show ps.map (fun p => D.str (S p.1)) = ((ps.map (·.1)).map S).map D.str by rw [List.map_map, List.map_map]; rfl, strDs_map]
    rw [e, onO_1]
    have l : ((ps.map (·.1)).map S).length < 64 := by rw [List.length_map, List.length_map]; omega
    refine ⟨l, fun ys hy hs => ?_⟩
    rw [onO_1]
    refine ⟨l, fun zs hz ht => ?_⟩
    rw [srt_uniq hy hs, srt_uniq hz ht]
    have cb : ∀ d ∈ ((srt (ps.map (·.1))).map S).map D.str, cB d = true ∧ dpD d = 0 := fun d hd => by
      obtain ⟨s, hs, rfl⟩ := List.mem_map.mp hd
      obtain ⟨w, hw, rfl⟩ := List.mem_map.mp hs
      obtain ⟨p, hp, rfl⟩ := List.mem_map.mp (srt_mem.mp hw)
      exact ⟨strOk_S (h3 p hp), rfl⟩
    refine eqP_refl (cBs_of fun d hd => (cb d hd).1) ?_ ?_
    · have : dpDs (((srt (ps.map (·.1))).map S).map D.str) ≤ 0 := dpDs_of fun d hd => by rw [(cb d hd).2]; exact Nat.le_refl 0
      show dpDs _ + 1 ≤ 64
      omega
    rw [if_neg (by decide), keys_al]
    refine ⟨by rw [List.length_map]; omega, lc_map (f := fun p : Nm × Rat => D.str (S p.1)) (h := fun _ => .bl true) ps [] (fun p hp k' kn hk' => ?_) ?_⟩
    · obtain ⟨q, hq⟩ := getA_has hp
      walk_at "vc"
      rw [val_al, hq]
      obtain ⟨i, rfl⟩ : ∃ i, n = i + 1 := ⟨n - 1, by omega⟩
      refine ⟨qD q, rfl, ⟨by show 2 ≤ 100000; decide, fun d hd => ?_⟩, hk'⟩
      rcases List.mem_cons.mp hd with rfl | hd
      · simp [Pl]
      · rw [List.mem_singleton.mp hd]; simp [Pl]
    · walk_at "vc"
      have e : ps.map (fun _ => D.bl true) = (ps.map fun _ => true).map D.bl := by rw [List.map_map]; rfl
      rw [e, blsOf_map, onO_1, List.all_map]
      have z : (ps.all (id ∘ fun _ => true)) = true := by rw [List.all_eq_true]; intro _ _; rfl
      rw [z]
      exact hk
  | _ => exact hp.elim
theorem w__law_same_0 : ∀ ds m k, ph__law_same 0 ds m k → v__law_same (fun _ _ _ => False) (dstart 5 ds) m (endP k) := by
  rintro _ m k ⟨x, rfl, hp, hk⟩
  unfold v__law_same
  cases x with
  | non => walk_at "vc*"
  | bl b => walk_at "vc*"
  | int b => walk_at "vc*"
  | str b => walk_at "vc*"
  | _ => exact hp.elim

/-! ### k40: what is drawn -/
theorem six_of {p : Int × Int} (h : Fr.Ok p ∧ p.2 ∣ 6 ∧ (p.1 * (6 / p.2)).natAbs ≤ 30) : ∃ q : Rat, p = rf q ∧ Iq 0 q := by
  obtain ⟨o, h1, h2⟩ := h
  obtain ⟨q, rfl⟩ := ok_rf o
  have e := rf_div q
  obtain ⟨c, hc⟩ := h1
  have hc : (6 : Int) = ((q.den : Nat) : Int) * c := hc
  have d0 : ((q.den : Nat) : Int) ≠ 0 := rf_nz q
  have e2 : (6 : Int) / ((q.den : Nat) : Int) = c := by rw [hc]; exact Int.mul_ediv_cancel_left _ d0
  have h2 : (q.num * (6 / ((q.den : Nat) : Int))).natAbs ≤ 30 := h2
  rw [e2] at h2
  refine ⟨q, rfl, q.num * c, ?_, h2⟩
  have e3 : (((nJ 0 : Nat) : Int) : Rat) = (((q.den : Nat) : Int) : Rat) * (c : Rat) := by
    rw [← Rat.intCast_mul, ← hc]; rfl
  have d1 := icast_ne d0
  rw [e3, Rat.intCast_mul]
  generalize (((q.den : Nat) : Int) : Rat) = d at e d1 ⊢
  generalize (q.num : Rat) = n at e ⊢
  rw [← e]
  grind
def pks : List (Int × Int) := [(0, 1), (1, 1), (-1, 2), (3, 1), (0, 1), (2, 3)]
theorem pks_of {p : Int × Int} (h : p ∈ pks) : ∃ q : Rat, p = rf q ∧ Iq 0 q ∧ ShOk (shr q) := by
  have h1 : ∀ p ∈ pks, Fr.Ok p ∧ p.2 ∣ 6 ∧ (p.1 * (6 / p.2)).natAbs ≤ 30 := by decide
  have h2 : ∀ p ∈ pks, p.1 = 0 ∨ ∃ u : Nat, u < 61 ∧ p.2 * 60 = (u : Int) * (p.2 + (p.1.natAbs : Int)) := by decide
  obtain ⟨q, rfl, hq⟩ := six_of (h1 p h)
  refine ⟨q, rfl, hq, ?_⟩
  rcases h2 _ h with z | ⟨u, hu, e⟩
  · have z : q.num = 0 := z
    exact ⟨0, by decide, by unfold shr; rw [if_pos z, Rat.zero_mul]; rfl⟩
  · have e : ((q.den : Nat) : Int) * 60 = (u : Int) * (((q.den : Nat) : Int) + (q.num.natAbs : Int)) := e
    by_cases z : q.num = 0
    · exact ⟨0, by decide, by unfold shr; rw [if_pos z, Rat.zero_mul]; rfl⟩
    · refine ⟨u, by omega, ?_⟩
      unfold shr
      rw [if_neg z]
      have n0 : (((q.den : Nat) : Int) + (q.num.natAbs : Int)) ≠ 0 := by omega
      have n1 := icast_ne n0
      have e : (((((q.den : Nat) : Int) * 60 : Int)) : Rat) = (((u : Int) * (((q.den : Nat) : Int) + (q.num.natAbs : Int)) : Int) : Rat) := by rw [e]
      rw [Rat.intCast_mul, Rat.intCast_mul] at e
      generalize ((((q.den : Nat) : Int) + (q.num.natAbs : Int) : Int) : Rat) = s at e n1 ⊢
      have e6 : ((60 : Int) : Rat) = 60 := rfl
      rw [e6] at e
      grind
theorem point6 {ws : List Nm} {m : Mem} {k : KD} (h2 : ws.length ≤ 100) (h3 : ws.Nodup) (hk : ∀ ps : Al, ps.map (·.1) = ws → Iv ws 0 ps → k (.dic (alD ps)) m) : ph__law_point [.feed, wsD ws] m k := by
  refine ⟨ws, rfl, h2, h3, fun ps he hp => ?_⟩
  have : ∀ ps : List (List Nat × (Int × Int)), (∀ p ∈ ps, p.2 ∈ pts) → ∃ qs : Al, ps = qs.map (fun t => (t.1, rf t.2)) ∧ ∀ t ∈ qs, Iq 0 t.2 := by
    intro ps
    induction ps with
    | nil => exact fun _ => ⟨[], rfl, by simp⟩
    | cons t ps ih =>
      intro h
      obtain ⟨qs, rfl, h2⟩ := ih fun x hx => h x (List.mem_cons_of_mem _ hx)
      have h1 : ∀ p ∈ pts, Fr.Ok p ∧ p.2 ∣ 6 ∧ (p.1 * (6 / p.2)).natAbs ≤ 30 := by decide
      obtain ⟨q, e, hq⟩ := six_of (h1 t.2 (h t List.mem_cons_self))
      refine ⟨(t.1, q) :: qs, by rw [List.map_cons, ← e], fun x hx => ?_⟩
      rcases List.mem_cons.mp hx with rfl | hx
      · exact hq
      · exact h2 x hx
  obtain ⟨qs, rfl, hq⟩ := this ps hp
  have e : ptK (qs.map fun t => (t.1, rf t.2)) = alD qs := by unfold ptK alD; rw [List.map_map]; rfl
  rw [e]
  have hn : qs.map (·.1) = ws := by rw [← he, List.map_map]; rfl
  refine hk qs hn ⟨fun x hx => ?_, by have := congrArg List.length hn; rw [List.length_map] at this; omega⟩
  rw [← hn] at hx
  obtain ⟨p, hp, rfl⟩ := List.mem_map.mp hx
  unfold getA
  cases e : qs.find? fun y => decide (y.1 = p.1) with
  | none => exact absurd (List.find?_eq_none.mp e p hp) (by simp)
  | some y => exact ⟨y.2, rfl, hq y (List.mem_of_find?_eq_some e)⟩
/-- what a run keeps of the names -/
theorem put_keys {ps : Al} {ks : List Nm} {x : Nm} {v : Rat} (h : ps.map (·.1) = ks) (hx : x ∈ ks) : (putA ps x v).map (·.1) = ks := by
  have hy : (ps.any fun p => decide (p.1 = x)) = true := by
    rw [← h] at hx
    obtain ⟨p, hp, rfl⟩ := List.mem_map.mp hx
    exact List.any_eq_true.mpr ⟨p, hp, by simp⟩
  unfold putA
  rw [if_pos hy, List.map_map, ← h]
  refine List.map_congr_left fun p _ => ?_
  show (if p.1 = x then (p.1, v) else p).1 = p.1
  split <;> rfl
theorem itN_keys {f : Al → List Rat → Option Al × List Rat} {Q : Al → Prop} (hf : ∀ ps cs ps', Q ps → (f ps cs).1 = some ps' → Q ps') : ∀ (n : Nat) (ps : Al) (cs : List Rat) (ps' : Al), Q ps → (itN f n ps cs).1 = some ps' → Q ps'
  | 0, ps, cs, ps', h, e => by cases e; exact h
  | n + 1, ps, cs, ps', h, e => by
    unfold itN at e
    split at e
    · rename_i p1 c1 e1
      exact itN_keys hf n p1 c1 ps' (hf ps cs p1 h (by rw [e1])) e
    · cases e
theorem rn_keys {W ks : List Nm} (hW : ∀ w ∈ W, w ∈ ks) : ∀ (pg : Pg) (ps : Al) (cs : List Rat) (ps' : Al), PgOk W pg → ps.map (·.1) = ks → (rn pg ps cs).1 = some ps' → ps'.map (·.1) = ks
  | .nil, ps, cs, ps', _, h, e => by cases e; exact h
  | .set x lo hi r, ps, cs, ps', hp, h, e => by
    unfold rn at e
    split at e
    · cases e
    · exact rn_keys hW r _ _ ps' hp.2.2.2 (put_keys h (hW _ hp.1)) e
  | .any x r, ps, cs, ps', hp, h, e => by
    unfold rn at e
    exact rn_keys hW r _ _ ps' hp.2 (put_keys h (hW _ hp.1)) e
  | .chk ts r, ps, cs, ps', hp, h, e => by
    unfold rn at e
    split at e
    · exact rn_keys hW r _ _ ps' hp.2.2 h e
    · cases e
  | .ei p q r, ps, cs, ps', hp, h, e => by
    unfold rn at e
    split at e
    · rename_i p1 c1 e1
      refine rn_keys hW r _ _ ps' hp.2.2 ?_ e
      split at e1
      · exact rn_keys hW p ps cs.tail p1 hp.1 h (by rw [e1])
      · exact rn_keys hW q ps cs.tail p1 hp.2.1 h (by rw [e1])
    · cases e
  | .rep n p r, ps, cs, ps', hp, h, e => by
    unfold rn at e
    split at e
    · rename_i p1 c1 e1
      refine rn_keys hW r _ _ ps' hp.2.2 ?_ e
      exact itN_keys (Q := fun ps => ps.map (·.1) = ks) (fun ps cs ps' h e => rn_keys hW p ps cs ps' hp.2.1 h e) n ps cs p1 h (by rw [e1])
    · cases e
/-- what is told of a run -/
def outD : Option Al → D
  | none => .non
  | some ps => .dic (alD ps)
theorem run_fz {d : D} {pg : Pg} {ps : Al} {cs : List Rat} {W : List Nm} {j : Nat} {m : Mem} {k : KD} (hcl : cs.length ≤ 900) (hd : asK m d = some (alD ps)) (hp : PgOk W pg) (hi : Iv W j ps) (hc : ChOk cs) (hj : j + cst pg ≤ 29) (hn : dpt pg < 5) (hk : k (outD (rn pg ps cs).1) m) :
    ph_run_program (.tup (pgD pg) :: d :: cs.map qD) m (fzK k) := by
  refine ⟨d, pg, ps, cs, W, j, rfl, hcl, hd, hp, hi, hc, hj, hn, fun e => ?_, fun ps' e q hq => ?_⟩
  · rw [e] at hk; exact hk
  · rw [e] at hk
    show fzK k (.ref q) (mset m q (.dic (alD ps')))
    unfold fzK
    dsimp only
    rw [mset_same]
    dsimp only [MO.onF]
    rw [mdel_mset hq]
    exact hk
theorem lrun_fz {d : D} {pg : Pg} {ps : Al} {cs : List Rat} {W : List Nm} {j : Nat} {m : Mem} {k : KD} (hd : asK m d = some (alD ps)) (hp : PgOk W pg) (hi : Iv W j ps) (hc : ChOk cs) (hj : j + cst pg ≤ 29) (hn : dpt pg < 5) (hk : k (outD (rn pg ps cs).1) m) :
    ph__law_run [.tup (pgD pg), d, .lst (cs.map qD)] m (fzK k) := by
  refine ⟨d, pg, ps, cs, W, j, rfl, hd, hp, hi, hc, hj, hn, fun e => ?_, fun ps' e q hq => ?_⟩
  · rw [e] at hk; exact hk
  · rw [e] at hk
    show fzK k (.ref q) (mset m q (.dic (alD ps')))
    unfold fzK
    dsimp only
    rw [mset_same]
    dsimp only [MO.onF]
    rw [mdel_mset hq]
    exact hk
theorem hit_self : ∀ (ls ks : Al), (∀ p ∈ ks, getA ls p.1 = some p.2) → HitD (alD ls) (alD ks) true
  | ls, [], _ => .nil
  | ls, p :: ks, h => by
    have h1 : valD (alD ls) (.inr (S p.1)) = some (qD p.2) := by rw [val_al, h p List.mem_cons_self]; rfl
    have := HitD.hit (ls := alD ls) (c := .inr (S p.1)) (v := qD p.2) (w := qD p.2) (ps := alD ks) (p := .tuple [.int p.2.num, .int p.2.den]) (q := .tuple [.int p.2.num, .int p.2.den]) h1 rfl rfl rfl (Nat.le_of_ble_eq_true rfl) (hit_self ls ks fun p hp => h p (List.mem_cons_of_mem _ hp))
    have e : (PyData.eqv (.tuple [.int p.2.num, .int p.2.den]) (.tuple [.int p.2.num, .int p.2.den]) && true) = true := by simp [PyData.eqv, PyData.eqvAll]
    rw [e] at this
    exact this
theorem getA_nd {ps : Al} (h : (ps.map (·.1)).Nodup) : ∀ p ∈ ps, getA ps p.1 = some p.2 := by
  induction ps with
  | nil => intro p hp; cases hp
  | cons q ps ih =>
    intro p hp
    rw [List.map_cons, List.nodup_cons] at h
    unfold getA at ih ⊢
    rw [List.find?_cons]
    rcases List.mem_cons.mp hp with rfl | hp
    · simp
    · have ne : q.1 ≠ p.1 := fun z => h.1 (List.mem_map.mpr ⟨p, hp, z.symm⟩)
      simp only [ne, decide_false]
      exact ih h.2 p hp
theorem out_pl {W ks : List Nm} (hW : ∀ w ∈ W, w ∈ ks) (hk : ks.length < 60) (hc : ∀ w ∈ ks, ∀ c ∈ w, c < 256) {pg : Pg} {ps : Al} {cs : List Rat} (hp : PgOk W pg) (hq : ps.map (·.1) = ks) : Pl 7 (outD (rn pg ps cs).1) := by
  cases e : (rn pg ps cs).1 with
  | none => trivial
  | some ps' =>
    have hk' := rn_keys hW pg ps cs ps' hp hq e
    refine ⟨by decide, ps', rfl, ?_, fun p hp => hc _ ?_⟩
    · have := congrArg List.length hk'
      rw [List.length_map] at this
      omega
    · rw [← hk']; exact List.mem_map.mpr ⟨p, hp, rfl⟩

/-! ### k40: the law -/
@[reducible] def v_law_b1 (Pt : Addr) : VS :=
  (vSeq (vSet 17 (vCall ph_run_program (vCons (vVar 16) (vCons (vVar 5) (vCons (vVar 8) (vCons (vVar 9) (vCons (vVar 10) vNil)))))))
    (vSeq (vIfS (tV (vOp oIsNot (vVar 17) (vC .non))) (vDrop (vBM0D oClearD (vVar 17))) vNext)
    (vIfS (tV (vOp oNeK (vVar 5) (vVar 7))) (vRet (vC (.bl false))) vNext)))
@[reducible] def v_law_b2 (Pt : Addr) : VS :=
  (vSeq (vSet 3 (vCall ph__law_words (vCons (vVar 1) (vCons (vOp oAdd (vC (.int 1)) (vCall ph__law_draw (vCons (vVar 1) (vCons (vC (.int 2)) vNil)))) vNil))))
    (vSeq (vAsg (vTup (vCons (vCall (ph__law_program 4) (vCons (vVar 1) (vCons (vVar 3) (vCons (vC (.int 2)) (vCons (vC (.int 3)) vNil))))) (vCons (vCall ph__law_point (vCons (vVar 1) (vCons (vVar 3) vNil))) vNil))) (gTp 2 (gCn (gN 4) (gCn (gN 5) gNl))))
    (vSeq (vSet 6 (vLc (vRng1 (vCons (vC (.int 6)) vNil)) (gN 18) vYes (vCall ph__law_any (vCons (vVar 1) (vCons (vLst (vCons (vTup (vCons (vC (.int 0)) (vCons (vC (.int 1)) vNil))) (vCons (vTup (vCons (vC (.int 1)) (vCons (vC (.int 1)) vNil))) (vCons (vTup (vCons (vUn oNeg (vC (.int 1))) (vCons (vC (.int 2)) vNil))) (vCons (vTup (vCons (vC (.int 3)) (vCons (vC (.int 1)) vNil))) (vCons (vTup (vCons (vC (.int 0)) (vCons (vC (.int 1)) vNil))) (vCons (vTup (vCons (vC (.int 2)) (vCons (vC (.int 3)) vNil))) vNil))))))) vNil))) [18]))
    (vSeq (vAsg (vTup (vCons (vCB oDict (vCons (vVar 5) vNil)) (vCons (vOp oIx (vVar 6) (vC (.int 0))) (vCons (vOp oIx (vVar 6) (vC (.int 1))) (vCons (vOp oIx (vVar 6) (vC (.int 2))) vNil))))) (gTp 4 (gCn (gN 7) (gCn (gN 8) (gCn (gN 9) (gCn (gN 10) gNl))))))
    (vSeq (vAsg (vSl (vVar 6) (vP (vC (.int 3))) vNoP) (gUl 3 (gCn (gN 11) (gCn (gN 12) (gCn (gN 13) gNl)))))
    (vSeq (vSet 14 (vLstO (vCons (vFzW (vCall ph_run_program (vCons (vVar 4) (vCons (vVar 5) vNil)))) (vCons (vFzW (vCall ph_run_program (vCons (vVar 4) (vCons (vVar 5) (vCons (vVar 8) vNil))))) (vCons (vFzW (vCall ph_run_program (vCons (vVar 4) (vCons (vVar 5) (vCons (vVar 8) (vCons (vVar 9) (vCons (vVar 10) vNil))))))) vNil)))))
    (vSeq (vDrop (vBM "list" oAppend (vVar 14) (vCons (vFzW (vCall ph_run_program (vCons (vVar 4) (vCons (vVar 5) (vCons (vVar 8) (vCons (vVar 9) (vCons (vVar 10) (vCons (vVar 11) (vCons (vVar 12) (vCons (vVar 13) vNil)))))))))) vNil)))
    (vSeq (vSet 15 (vLc (vWalk (vTup (vCons (vC (.int 0)) (vCons (vC (.int 1)) (vCons (vC (.int 3)) (vCons (vC (.int 6)) vNil)))))) (gN 19) vYes (vFzW (vCall ph__law_run (vCons (vVar 4) (vCons (vVar 5) (vCons (vSl (vVar 6) vNoP (vP (vVar 19))) vNil))))) [19]))
    (vFrz 14 (vSeq (vIfS (vOr (vNot (tV (vCall (ph__law_same 8) (vCons (vVar 14) (vCons (vVar 15) vNil))))) (tV (vOp oNeK (vVar 5) (vVar 7)))) (vRet (vC (.bl false))) vNext)
    (vFor (vWalk (vTup (vCons (vTup vNil) (vCons (vTup (vCons (vTup (vCons (vC (.str "repeat")) (vCons (vC (.int 0)) (vCons (vVar 4) vNil)))) vNil)) (vCons (vVar 4) vNil))))) (gN 16) (v_law_b1 Pt))))))))))))
/- def law, slots 0 _law_script 1 _law_feed_here 2 _law_turn 3 _law_words_here 4 _law_program_here 5 _law_values 6 _law_picks 7 _law_kept 8 _law_a 9 _law_b 10 _law_c 11 _law_d 12 _law_e 13 _law_f 14 _law_told 15 _law_due 16 _law_some 17 _law_found 18 _law_k 19 _law_many -/
@[reducible] def v_law (Pt : Addr) : VS :=
  (vSeq (vSet 1 (vCall ph__law_feed (vCons (vVar 0) vNil)))
    (vSeq (vFor (vRng1 (vCons (vC (.int 5)) vNil)) (gN 2) (v_law_b2 Pt))
    (vRet (vCall (ph__law_same 8) (vCons (vFzW (vCall ph_run_program (vCons (vTup (vCons (vTup (vCons (vC (.str "any")) (vCons (vC (.str "x")) vNil))) (vCons (vTup (vCons (vC (.str "set")) (vCons (vC (.str "y")) (vCons (vTup (vCons (vTup (vCons (vC (.int 1)) (vCons (vC (.int 1)) vNil))) (vCons (vC (.str "x")) (vCons (vTup (vCons (vC (.int 0)) (vCons (vC (.int 1)) vNil))) vNil)))) (vCons (vTup (vCons (vTup (vCons (vC (.int 1)) (vCons (vC (.int 1)) vNil))) (vCons (vC (.str "x")) (vCons (vTup (vCons (vC (.int 3)) (vCons (vC (.int 1)) vNil))) vNil)))) vNil))))) vNil))) (vCons (vFz (vDisp2 (vC (.str "x")) (vTup (vCons (vC (.int 0)) (vCons (vC (.int 1)) vNil))) (vC (.str "y")) (vTup (vCons (vC (.int 0)) (vCons (vC (.int 1)) vNil))))) (vCons (vTup (vCons (vC (.int 5)) (vCons (vC (.int 1)) vNil))) (vCons (vTup (vCons (vC (.int 1)) (vCons (vC (.int 2)) vNil))) vNil)))))) (vCons (vFz (vDisp2 (vC (.str "x")) (vTup (vCons (vC (.int 5)) (vCons (vC (.int 1)) vNil))) (vC (.str "y")) (vTup (vCons (vC (.int 7)) (vCons (vC (.int 1)) vNil))))) vNil))))))


theorem b1_ok {Pt : Addr} {G : DE} {m : Mem} {x0 x1 x2 x3 x4 x6 x11 x12 x13 x14 x15 x17 x18 x19 : Option D} {ps : Al} {c1 c2 c3 : Rat} {W : List Nm} {P : Pg} (hnd : (ps.map (·.1)).Nodup) (hp : PgOk W P) (hi : Iv W 0 ps) (hc : ChOk [c1, c2, c3]) (hj : cst P ≤ 29) (hn : dpt P < 5)
    (g : ∀ (m' : Mem) (d : D), G.nx [x0, x1, x2, x3, x4, some (.dic (alD ps)), x6, some (.dic (alD ps)), some (qD c1), some (qD c2), some (qD c3), x11, x12, x13, x14, x15, some (.tup (pgD P)), some d, x18, x19] m') :
    v_law_b1 Pt [x0, x1, x2, x3, x4, some (.dic (alD ps)), x6, some (.dic (alD ps)), some (qD c1), some (qD c2), some (qD c3), x11, x12, x13, x14, x15, some (.tup (pgD P)), x17, x18, x19] m G := by
  have hh := hit_self ps ps (getA_nd hnd)
  unfold v_law_b1
  walk_at "vc"
  refine ⟨.dic (alD ps), P, ps, [c1, c2, c3], W, 0, rfl, by simp, rfl, hp, hi, hc, by omega, hn, fun e => ?_, fun ps' e q hq => ?_⟩
  · walk_at "vc"
    refine ⟨true, fun _ => hh, ?_⟩
    rw [if_neg (by simp)]
    exact g _ _
  · walk_at "vc"
    refine ⟨true, fun _ => hh, ?_⟩
    rw [if_neg (by simp)]
    exact g _ _
theorem b2_ok {Pt : Addr} {G : DE} {m : Mem} {x0 x2 x3 x4 x5 x6 x7 x8 x9 x10 x11 x12 x13 x14 x15 x16 x17 x18 x19 : Option D}
    (g : ∀ (m' : Mem) (x2 x3 x4 x5 x6 x7 x8 x9 x10 x11 x12 x13 x14 x15 x16 x17 x18 x19 : Option D), G.nx [x0, some .feed, x2, x3, x4, x5, x6, x7, x8, x9, x10, x11, x12, x13, x14, x15, x16, x17, x18, x19] m') :
    v_law_b2 Pt [x0, some .feed, x2, x3, x4, x5, x6, x7, x8, x9, x10, x11, x12, x13, x14, x15, x16, x17, x18, x19] m G := by
  unfold v_law_b2
  walk_at "vc"
  refine dr (by decide) (by decide) fun r r0 r1 => ?_
  walk_at "vc"
  refine ⟨(1 + r).toNat, by rw [Int.toNat_of_nonneg (by omega)], by omega, fun ws hl hnd hws => ?_⟩
  have hw : WsOk ws := ⟨fun z => by rw [z] at hl; simp at hl; omega, by omega, hnd, fun w hw z => by have := (hws w hw).1; rw [z] at this; simp at this⟩
  walk_at "vc"
  refine ⟨ws, 2, 3, rfl, hw, by decide, by decide, fun pg p1 p2 p3 => ?_⟩
  walk_at "vc"
  refine point6 (by omega) hnd fun ps hps hi => ?_
  walk_at "vc"
  rw [show rngD 0 (Int.toNat 6) = (List.range 6).map (fun i : Nat => D.int (0 + (i : Int))) from rfl]
  refine ⟨by omega, by simp, lc_rel (f := fun i : Nat => D.int (0 + (i : Int))) (fun _ y => ∃ q : Rat, y = qD q ∧ Iq 0 q ∧ ShOk (shr q)) (List.range 6) [] (fun i _ k' _ hk' => ?_) fun ys hys => ?_⟩
  · walk_at "vc"
    refine ⟨by simp, by simp, fun d hd => ?_⟩
    have hd : d ∈ pks.map frD := hd
    obtain ⟨p, hp, rfl⟩ := List.mem_map.mp hd
    obtain ⟨q, rfl, h1, h2⟩ := pks_of hp
    exact hk' _ ⟨q, rfl, h1, h2⟩
  · obtain ⟨cs, rfl, hc, hcl⟩ : ∃ cs : List Rat, ys = cs.map qD ∧ ChOk cs ∧ cs.length = 6 := by
      have : ∀ {as : List Nat} {ys : List D}, Al2 (fun _ y => ∃ q : Rat, y = qD q ∧ Iq 0 q ∧ ShOk (shr q)) as ys → ∃ cs : List Rat, ys = cs.map qD ∧ ChOk cs ∧ cs.length = as.length := fun h => by
        induction h with
        | nil => exact ⟨[], rfl, (fun c hc => by cases hc), rfl⟩
        | cons r _ ih =>
          obtain ⟨q, rfl, h1, h2⟩ := r
          obtain ⟨cs, rfl, hc, hl⟩ := ih
          refine ⟨q :: cs, rfl, fun c hc' => ?_, by simp [hl]⟩
          rcases List.mem_cons.mp hc' with rfl | hc'
          · exact ⟨h1, h2⟩
          · exact hc c hc'
      obtain ⟨cs, e, hc, hl⟩ := this hys
      exact ⟨cs, e, hc, by simpa using hl⟩
    match cs, hcl, hc with
    | [c1, c2, c3, c4, c5, c6], _, hc =>
    walk_at "vc"
    have sub : ∀ xs : List Rat, (∀ x ∈ xs, x ∈ [c1, c2, c3, c4, c5, c6]) → ChOk xs := fun xs h c hx => hc c (h c hx)
    have q0 := sub [] (by simp)
    have q1 := sub [c1] (by simp)
    have q3 := sub [c1, c2, c3] (by simp)
    have one : ∀ (cs : List Rat) (m : Mem) (k : KD), ChOk cs → cs.length ≤ 900 → k (outD (rn pg ps cs).1) m → ph_run_program (.tup (pgD pg) :: .dic (alD ps) :: cs.map qD) m (fzK k) := fun cs m k h1 h2 hk => run_fz h2 rfl p1 hi h1 (by omega) (by omega) hk
    have two : ∀ (cs : List Rat) (m : Mem) (k : KD), ChOk cs → k (outD (rn pg ps cs).1) m → ph__law_run [.tup (pgD pg), .dic (alD ps), .lst (cs.map qD)] m (fzK k) := fun cs m k h1 hk => lrun_fz rfl p1 hi h1 (by omega) (by omega) hk
    refine .inl ⟨alD ps, rfl, ?_⟩
    rw [show cutD [qD c1, qD c2, qD c3, qD c4, qD c5, qD c6] (some 3) none = [qD c4, qD c5, qD c6] from rfl]
    walk_at "vc"
    refine vFzW_of ?_
    walk_at "vc"
    refine one [] _ _ q0 (by simp) (vFzW_of ?_)
    walk_at "vc"
    refine one [c1] _ _ q1 (by simp) (vFzW_of ?_)
    walk_at "vc"
    refine one [c1, c2, c3] _ _ q3 (by simp) fun p hp => ?_
    walk_at "vc"
    refine vFzW_of ?_
    walk_at "vc"
    refine one [c1, c2, c3, c4, c5, c6] _ _ hc (by simp) ?_
    walk_at "vc"
    rw [show [D.int 0, D.int 1, D.int 3, D.int 6] = [0, 1, 3, 6].map (fun n : Nat => D.int (n : Int)) from rfl]
    refine ⟨by decide, lc_map (f := fun n : Nat => D.int (n : Int)) (h := fun n => outD (rn pg ps ([c1, c2, c3, c4, c5, c6].take n)).1) [0, 1, 3, 6] [] (fun n hn k' _ hk' => ?_) ?_⟩
    · walk_at "vc"
      refine vFzW_of ?_
      walk_at "vc"
      have e : cutD [qD c1, qD c2, qD c3, qD c4, qD c5, qD c6] none (some (n : Int)) = ([c1, c2, c3, c4, c5, c6].take n).map qD := by
        simp only [List.mem_cons, List.not_mem_nil, or_false] at hn
        rcases hn with rfl | rfl | rfl | rfl <;> rfl
      rw [e]
      exact two _ _ _ (sub _ fun x hx => List.mem_of_mem_take hx) hk'
    · walk_at "vc"
      simp only [mset_same, MO.onF, mdel_mset hp]
      have c8 : ∀ w ∈ ws, ∀ c ∈ w, c < 256 := fun w hw' c hc' => by have := (hws w hw').2.2 c hc'; omega
      have pl : ∀ cs, Pl 7 (outD (rn pg ps cs).1) := fun cs => out_pl (W := ws) (ks := ws) (fun _ h => h) (by omega) c8 p1 hps
      refine ⟨_, rfl, ⟨by show 4 ≤ _; decide, fun d hd => ?_⟩, ?_⟩
      · simp only [List.mem_cons, List.not_mem_nil, or_false] at hd
        rcases hd with rfl | rfl | rfl | rfl <;> exact pl _
      walk_at "vc"
      refine ⟨true, fun _ => hit_self ps ps (getA_nd (by rw [hps]; exact hnd)), ?_⟩
      rw [if_neg (by simp)]
      have hnd' : (ps.map (·.1)).Nodup := by rw [hps]; exact hnd
      have lp : ∀ (Ps : List Pg) (m : Mem) (x16 x17 x18 x19 : Option D) (x14 x15 : Option D), (∀ P ∈ Ps, PgOk ws P ∧ cst P ≤ 29 ∧ dpt P < 5) → forV (fun d s m G => v_law_b1 Pt (List.set s 16 (some d)) m G) (Ps.map fun P => .tup (pgD P))
          [x0, some D.feed, x2, some (wsD ws), some (D.tup (pgD pg)), some (D.dic (alD ps)), some (D.lst [qD c1, qD c2, qD c3, qD c4, qD c5, qD c6]), some (D.dic (alD ps)), some (qD c1), some (qD c2), some (qD c3), some (qD c4), some (qD c5), some (qD c6), x14, x15, x16, x17, x18, x19] m G := by
        intro Ps
        induction Ps with
        | nil => intro m x16 x17 x18 x19 x14 x15 _; exact g _ _ _ _ _ _ _ _ _ _ _ _ _ _ _ _ _ _ _
        | cons P Ps ih =>
          intro m x16 x17 x18 x19 x14 x15 h
          obtain ⟨h1, h2, h3⟩ := h P List.mem_cons_self
          rw [List.map_cons, forV]
          exact b1_ok hnd' h1 hi q3 h2 h3 fun m' d => ih m' _ _ _ _ _ _ fun P hP => h P (List.mem_cons_of_mem _ hP)
      refine lp [.nil, .rep 0 pg .nil, pg] _ _ _ _ _ _ _ fun P hP => ?_
      simp only [List.mem_cons, List.not_mem_nil, or_false] at hP
      rcases hP with rfl | rfl | rfl
      · exact ⟨trivial, by decide, by decide⟩
      · exact ⟨⟨by decide, p1, trivial⟩, by show 0 * cst pg + 0 ≤ 29; omega, by show max (dpt pg + 1) 0 < 5; omega⟩
      · exact ⟨p1, by omega, by omega⟩
def pg0 : Pg := .any [120] (.set [121] ⟨1, [120], 0⟩ ⟨1, [120], 3⟩ .nil)
def hlf40 : Rat := ⟨1, 2, by decide, by decide⟩
theorem rn0 : (rn pg0 [([120], 0), ([121], 0)] [5, hlf40]).1 = some [([120], 5), ([121], 7)] := by decide +kernel
theorem merge2 (a b : Rat) : mergeD [] [(.inr (Str.ofString "x"), qD a), (.inr (Str.ofString "y"), qD b)] = alD [([120], a), ([121], b)] := by
  have ex : Str.ofString "x" = S [120] := by decide +kernel
  have ey : Str.ofString "y" = S [121] := by decide +kernel
  rw [ex, ey]
  have nd : (((alD [([120], a), ([121], b)]).map (·.1))).Nodup := by
    show [(Sum.inr (S [120]) : Key), .inr (S [121])].Nodup
    decide +kernel
  exact mergeD_new (alD [([120], a), ([121], b)]) [] nd
theorem last_ok {m : Mem} {k : KD} (hk : k (.dic (alD [([120], 5), ([121], 7)])) m) :
    ph_run_program [.tup [.tup [.str (Str.ofString "any"), .str (Str.ofString "x")], .tup [.str (Str.ofString "set"), .str (Str.ofString "y"), .tup [.tup [.int 1, .int 1], .str (Str.ofString "x"), .tup [.int 0, .int 1]], .tup [.tup [.int 1, .int 1], .str (Str.ofString "x"), .tup [.int 3, .int 1]]]],
      .dic (mergeD [] [(.inr (Str.ofString "x"), .tup [.int 0, .int 1]), (.inr (Str.ofString "y"), .tup [.int 0, .int 1])]), .tup [.int 5, .int 1], .tup [.int 1, .int 2]] m (fzK k) := by
  have ex : Str.ofString "x" = S [120] := by decide +kernel
  have ey : Str.ofString "y" = S [121] := by decide +kernel
  have e := merge2 0 0
  have e : mergeD [] [(.inr (Str.ofString "x"), .tup [.int 0, .int 1]), (.inr (Str.ofString "y"), .tup [.int 0, .int 1])] = alD [([120], 0), ([121], 0)] := e
  rw [e, ex, ey]
  have h0 : Iq 0 0 := ⟨0, by rw [Rat.zero_mul]; rfl, by decide⟩
  have hi : Iv [[120], [121]] 0 [([120], 0), ([121], 0)] := ⟨fun x hx => by
    simp only [List.mem_cons, List.not_mem_nil, or_false] at hx
    rcases hx with rfl | rfl
    · exact ⟨0, rfl, h0⟩
    · exact ⟨0, rfl, h0⟩, by decide⟩
  have f1 : ∀ c : Rat, (∃ b : Int, c * 2 = (b : Rat) ∧ b.natAbs ≤ 8) → FmOk [[120], [121]] ⟨1, [120], c⟩ := fun c h => ⟨fun _ => by simp, ⟨2, (by decide +kernel : (1 : Rat) * 2 = ((2 : Int) : Rat)), by decide⟩, h⟩
  have hp : PgOk [[120], [121]] pg0 := ⟨by simp, by simp, f1 0 ⟨0, by decide +kernel, by decide⟩, f1 3 ⟨6, by decide +kernel, by decide⟩, trivial⟩
  have hc : ChOk [5, hlf40] := fun c hc => by
    simp only [List.mem_cons, List.not_mem_nil, or_false] at hc
    rcases hc with rfl | rfl
    · exact ⟨⟨30, by decide +kernel, by decide +kernel⟩, 10, by decide, by decide +kernel⟩
    · exact ⟨⟨3, by decide +kernel, by decide +kernel⟩, 40, by decide, by decide +kernel⟩
  refine run_fz (pg := pg0) (ps := [([120], 0), ([121], 0)]) (cs := [5, hlf40]) (by decide) rfl hp hi hc (by decide) (by decide) ?_
  rw [rn0]
  exact hk
theorem w_law : ∀ (Pt a : Addr) (ns : List Int), ns.length ≤ 63 → v_law Pt (dstart 20 [.lat a (ns.map D.int)]) (mset (fun _ => none) Pt (.tab (lamQ "law"))) endLaw := by
  intro Pt a ns hl
  generalize mset (fun _ => none) Pt (.tab (lamQ "law")) = m
  unfold v_law
  walk_at "vc"
  refine ⟨a, ns, rfl, by omega, ?_⟩
  walk_at "vc"
  refine ⟨by decide, ?_⟩
  refine forV_indP (fun ds s m' => ∃ (x0 x2 x3 x4 x5 x6 x7 x8 x9 x10 x11 x12 x13 x14 x15 x16 x17 x18 x19 : Option D), s = [x0, some .feed, x2, x3, x4, x5, x6, x7, x8, x9, x10, x11, x12, x13, x14, x15, x16, x17, x18, x19]) ?_ ?_ ⟨_, _, _, _, _, _, _, _, _, _, _, _, _, _, _, _, _, _, _, rfl⟩
  · rintro s m' ⟨x0, x2, x3, x4, x5, x6, x7, x8, x9, x10, x11, x12, x13, x14, x15, x16, x17, x18, x19, rfl⟩
    walk_at "vc"
    refine vFzW_of ?_
    walk_at "vc"
    intro p hp
    refine last_ok fun p2 hp2 => ?_
    have e := merge2 5 7
    have e : mergeD [] [(.inr (Str.ofString "x"), .tup [.int 5, .int 1]), (.inr (Str.ofString "y"), .tup [.int 7, .int 1])] = alD [([120], 5), ([121], 7)] := e
    rw [e]
    refine ⟨_, rfl, ⟨by decide, _, rfl, by decide, fun p hp c hc => ?_⟩, rfl⟩
    simp only [List.mem_cons, List.not_mem_nil, or_false] at hp
    rcases hp with rfl | rfl
    · rw [List.mem_singleton.mp hc]; decide
    · rw [List.mem_singleton.mp hc]; decide
  · rintro d ds s m' P ⟨x0, x2, x3, x4, x5, x6, x7, x8, x9, x10, x11, x12, x13, x14, x15, x16, x17, x18, x19, rfl⟩ ih
    exact b2_ok fun m'' x2 x3 x4 x5 x6 x7 x8 x9 x10 x11 x12 x13 x14 x15 x16 x17 x18 x19 => ih _ _ ⟨_, _, _, _, _, _, _, _, _, _, _, _, _, _, _, _, _, _, _, rfl⟩


abbrev FnP (K : PySem.W.Frag) (x : Str) (st : Stmt) (f : Addr) (fd : FuncData) : Prop := FunD K x x (defArgs st) (defBody st) (defScope st) [] [] f fd
structure Tx (P : Program) (K : PySem.W.Frag) (mg : Str → Option Value) : Prop where
  f_abs : mg "abs" = none
  f_all : mg "all" = none
  f_bool : mg "bool" = none
  f_dict : mg "dict" = none
  f_int : mg "int" = none
  f_isinstance : mg "isinstance" = none
  f_len : mg "len" = none
  f_list : mg "list" = none
  f_range : mg "range" = none
  f_set : mg "set" = none
  f_sorted : mg "sorted" = none
  f_str : mg "str" = none
  f_tuple : mg "tuple" = none
  f_zip : mg "zip" = none
  c_ZERO : ∃ a, mg "ZERO" = some (.ref a) ∧ ∀ H : Hp, SqN K H a ([0, 1].map V.int)
  sup : (P.main.scope.names.lookup ("super" : Str)).isSome = false
  cl_Runner : ClN K mg "Runner" ["left"]
  g_divisor : ∃ f fd, mg "divisor" = some (.ref f) ∧ FunD K "divisor" "divisor" (defArgs sT_divisor) (defBody sT_divisor) (defScope sT_divisor) [] [] f fd
  g_lowest : ∃ f fd, mg "lowest" = some (.ref f) ∧ FunD K "lowest" "lowest" (defArgs sT_lowest) (defBody sT_lowest) (defScope sT_lowest) [] [] f fd
  g_add : ∃ f fd, mg "add" = some (.ref f) ∧ FunD K "add" "add" (defArgs sT_add) (defBody sT_add) (defScope sT_add) [] [] f fd
  g_negative : ∃ f fd, mg "negative" = some (.ref f) ∧ FunD K "negative" "negative" (defArgs sT_negative) (defBody sT_negative) (defScope sT_negative) [] [] f fd
  g_subtract : ∃ f fd, mg "subtract" = some (.ref f) ∧ FunD K "subtract" "subtract" (defArgs sT_subtract) (defBody sT_subtract) (defScope sT_subtract) [] [] f fd
  g_multiply : ∃ f fd, mg "multiply" = some (.ref f) ∧ FunD K "multiply" "multiply" (defArgs sT_multiply) (defBody sT_multiply) (defScope sT_multiply) [] [] f fd
  g_is_less : ∃ f fd, mg "is_less" = some (.ref f) ∧ FunD K "is_less" "is_less" (defArgs sT_is_less) (defBody sT_is_less) (defScope sT_is_less) [] [] f fd
  g_sum_at : ∃ f fd, mg "sum_at" = some (.ref f) ∧ FunD K "sum_at" "sum_at" (defArgs sT_sum_at) (defBody sT_sum_at) (defScope sT_sum_at) [] [] f fd
  g_is_kept : ∃ f fd, mg "is_kept" = some (.ref f) ∧ FunD K "is_kept" "is_kept" (defArgs sT_is_kept) (defBody sT_is_kept) (defScope sT_is_kept) [] [] f fd
  g_Runner___init__ : ∃ Ca f fd, mg "Runner" = some (.ref Ca) ∧ L2.Mk K Ca f ∧ FunD K "__init__" "Runner.__init__" (defArgs sT_Runner___init__) (defBody sT_Runner___init__) (defScope sT_Runner___init__) [] [] f fd
  g_Runner_choice : ∃ Ca f fd, mg "Runner" = some (.ref Ca) ∧ Cls K Ca ∧ Meth K Ca "choice" f ∧ FunD K "choice" "Runner.choice" (defArgs sT_Runner_choice) (defBody sT_Runner_choice) (defScope sT_Runner_choice) [] [] f fd
  g_Runner_form_value : ∃ Ca f fd, mg "Runner" = some (.ref Ca) ∧ Cls K Ca ∧ Meth K Ca "form_value" f ∧ FunD K "form_value" "Runner.form_value" (defArgs sT_Runner_form_value) (defBody sT_Runner_form_value) (defScope sT_Runner_form_value) [] [] f fd
  g_Runner_run : ∃ Ca f fd, mg "Runner" = some (.ref Ca) ∧ Cls K Ca ∧ Meth K Ca "run" f ∧ FunD K "run" "Runner.run" (defArgs sT_Runner_run) (defBody sT_Runner_run) (defScope sT_Runner_run) [] [] f fd
  g_Runner_share : ∃ Ca f fd, mg "Runner" = some (.ref Ca) ∧ Cls K Ca ∧ Meth K Ca "share" f ∧ FunD K "share" "Runner.share" (defArgs sT_Runner_share) (defBody sT_Runner_share) (defScope sT_Runner_share) [] [] f fd
  g_Runner_inner : ∃ Ca f fd, mg "Runner" = some (.ref Ca) ∧ Cls K Ca ∧ Meth K Ca "inner" f ∧ FunD K "inner" "Runner.inner" (defArgs sT_Runner_inner) (defBody sT_Runner_inner) (defScope sT_Runner_inner) [] [] f fd
  g_run_program : ∃ f fd, mg "run_program" = some (.ref f) ∧ FunD K "run_program" "run_program" (defArgs sT_run_program) (defBody sT_run_program) (defScope sT_run_program) [] [] f fd
  g__law_feed : ∃ f fd, mg "_law_feed" = some (.ref f) ∧ FunD K "_law_feed" "_law_feed" (defArgs sT__law_feed) (defBody sT__law_feed) (defScope sT__law_feed) [] [] f fd
  g__law_draw : ∃ f fd, mg "_law_draw" = some (.ref f) ∧ FunD K "_law_draw" "_law_draw" (defArgs sT__law_draw) (defBody sT__law_draw) (defScope sT__law_draw) [] [] f fd
  g__law_any : ∃ f fd, mg "_law_any" = some (.ref f) ∧ FunD K "_law_any" "_law_any" (defArgs sT__law_any) (defBody sT__law_any) (defScope sT__law_any) [] [] f fd
  g__law_same : ∃ f fd, mg "_law_same" = some (.ref f) ∧ FunD K "_law_same" "_law_same" (defArgs sT__law_same) (defBody sT__law_same) (defScope sT__law_same) [] [] f fd
  g__law_gcd : ∃ f fd, mg "_law_gcd" = some (.ref f) ∧ FunD K "_law_gcd" "_law_gcd" (defArgs sT__law_gcd) (defBody sT__law_gcd) (defScope sT__law_gcd) [] [] f fd
  g__law_low : ∃ f fd, mg "_law_low" = some (.ref f) ∧ FunD K "_law_low" "_law_low" (defArgs sT__law_low) (defBody sT__law_low) (defScope sT__law_low) [] [] f fd
  g__law_plus : ∃ f fd, mg "_law_plus" = some (.ref f) ∧ FunD K "_law_plus" "_law_plus" (defArgs sT__law_plus) (defBody sT__law_plus) (defScope sT__law_plus) [] [] f fd
  g__law_minus : ∃ f fd, mg "_law_minus" = some (.ref f) ∧ FunD K "_law_minus" "_law_minus" (defArgs sT__law_minus) (defBody sT__law_minus) (defScope sT__law_minus) [] [] f fd
  g__law_by : ∃ f fd, mg "_law_by" = some (.ref f) ∧ FunD K "_law_by" "_law_by" (defArgs sT__law_by) (defBody sT__law_by) (defScope sT__law_by) [] [] f fd
  g__law_under : ∃ f fd, mg "_law_under" = some (.ref f) ∧ FunD K "_law_under" "_law_under" (defArgs sT__law_under) (defBody sT__law_under) (defScope sT__law_under) [] [] f fd
  g__law_rate : ∃ f fd, mg "_law_rate" = some (.ref f) ∧ FunD K "_law_rate" "_law_rate" (defArgs sT__law_rate) (defBody sT__law_rate) (defScope sT__law_rate) [] [] f fd
  g__law_words : ∃ f fd, mg "_law_words" = some (.ref f) ∧ FunD K "_law_words" "_law_words" (defArgs sT__law_words) (defBody sT__law_words) (defScope sT__law_words) [] [] f fd
  g__law_total : ∃ f fd, mg "_law_total" = some (.ref f) ∧ FunD K "_law_total" "_law_total" (defArgs sT__law_total) (defBody sT__law_total) (defScope sT__law_total) [] [] f fd
  g__law_keeps : ∃ f fd, mg "_law_keeps" = some (.ref f) ∧ FunD K "_law_keeps" "_law_keeps" (defArgs sT__law_keeps) (defBody sT__law_keeps) (defScope sT__law_keeps) [] [] f fd
  g__law_point : ∃ f fd, mg "_law_point" = some (.ref f) ∧ FunD K "_law_point" "_law_point" (defArgs sT__law_point) (defBody sT__law_point) (defScope sT__law_point) [] [] f fd
  g__law_terms : ∃ f fd, mg "_law_terms" = some (.ref f) ∧ FunD K "_law_terms" "_law_terms" (defArgs sT__law_terms) (defBody sT__law_terms) (defScope sT__law_terms) [] [] f fd
  g__law_brief : ∃ f fd, mg "_law_brief" = some (.ref f) ∧ FunD K "_law_brief" "_law_brief" (defArgs sT__law_brief) (defBody sT__law_brief) (defScope sT__law_brief) [] [] f fd
  g__law_form : ∃ f fd, mg "_law_form" = some (.ref f) ∧ FunD K "_law_form" "_law_form" (defArgs sT__law_form) (defBody sT__law_form) (defScope sT__law_form) [] [] f fd
  g__law_check : ∃ f fd, mg "_law_check" = some (.ref f) ∧ FunD K "_law_check" "_law_check" (defArgs sT__law_check) (defBody sT__law_check) (defScope sT__law_check) [] [] f fd
  g__law_program : ∃ f fd, mg "_law_program" = some (.ref f) ∧ FunD K "_law_program" "_law_program" (defArgs sT__law_program) (defBody sT__law_program) (defScope sT__law_program) [] [] f fd
  g__law_form_value : ∃ f fd, mg "_law_form_value" = some (.ref f) ∧ FunD K "_law_form_value" "_law_form_value" (defArgs sT__law_form_value) (defBody sT__law_form_value) (defScope sT__law_form_value) [] [] f fd
  g__law_walk : ∃ f fd, mg "_law_walk" = some (.ref f) ∧ FunD K "_law_walk" "_law_walk" (defArgs sT__law_walk) (defBody sT__law_walk) (defScope sT__law_walk) [] [] f fd
  g__law_run : ∃ f fd, mg "_law_run" = some (.ref f) ∧ FunD K "_law_run" "_law_run" (defArgs sT__law_run) (defBody sT__law_run) (defScope sT__law_run) [] [] f fd
  g_law : ∃ f fd, mg "law" = some (.ref f) ∧ FunD K "law" "law" (defArgs sT_law) (defBody sT_law) (defScope sT_law) [] [] f fd
section
variable {P : Program} {w : World} {K : PySem.W.Frag} {mg : Str → Option Value} {base : Heap}
theorem ok_divisor (T : Tx P K mg) : Fn P w K mg base "divisor" 1 ph_divisor := by
  obtain ⟨f, fd, hm, F⟩ := T.g_divisor
  exact Fn.mk1 hm F.kp (FunD.bindsN F fun _ _ _ _ _ _ us hl => match us, hl with | [_, _], _ => rfl) (fn_P (v := v_divisor) F sc_divisor l_divisor (fun cdv A outer s H E hr =>
    (jss_cons (js_par (i := 0) (j := 1) (by rfl) sc_divisor.nd rfl rfl (by decide) rfl rfl (ja_cons (je_callB jo_abs (by rfl) T.f_abs (by decide +kernel) (ja_cons (jv 0) ja_nil)) (ja_cons (je_callB jo_abs (by rfl) T.f_abs (by decide +kernel) (ja_cons (jv 1) ja_nil)) ja_nil)) (by rfl))
      (jss_cons (js_while PassesOwn.never (jt_cmp jo_gt (jv 1) je_int (nomark _)) (jss_one (js_par (i := 0) (j := 1) (by rfl) sc_divisor.nd rfl rfl (by decide) rfl rfl (ja_cons (jv 1) (ja_cons (je_op jo_mod (jv 0) (jv 1)) ja_nil)) (by rfl))))
      (jss_one (js_ret (jv 0)))))) w_divisor)
theorem ok_negative (T : Tx P K mg) : Fn P w K mg base "negative" 1 ph_negative := by
  obtain ⟨f, fd, hm, F⟩ := T.g_negative
  exact Fn.mk1 hm F.kp (FunD.bindsN F fun _ _ _ _ _ _ us hl => match us, hl with | [_], _ => rfl) (fn_P (v := v_negative) F sc_negative l_negative (fun cdv A outer s H E hr =>
    (jss_one (js_ret (je_tup (ja_cons (je_un jo_neg (je_ix (jv 0) je_int (fun _ _ => rfl))) (ja_cons (je_ix (jv 0) je_int (fun _ _ => rfl)) ja_nil)))))) w_negative)
theorem ok_is_less (T : Tx P K mg) : Fn P w K mg base "is_less" 1 ph_is_less := by
  obtain ⟨f, fd, hm, F⟩ := T.g_is_less
  exact Fn.mk1 hm F.kp (FunD.bindsN F fun _ _ _ _ _ _ us hl => match us, hl with | [_, _], _ => rfl) (fn_P (v := v_is_less) F sc_is_less l_is_less (fun cdv A outer s H E hr =>
    (jss_one (js_ret (je_cmp jo_lt (je_op jo_mul (je_ix (jv 0) je_int (fun _ _ => rfl)) (je_ix (jv 1) je_int (fun _ _ => rfl))) (je_op jo_mul (je_ix (jv 1) je_int (fun _ _ => rfl)) (je_ix (jv 0) je_int (fun _ _ => rfl))) (nomark _))))) w_is_less)
theorem ok_Runner___init__ (T : Tx P K mg) : Mk0C P w K mg base "Runner" 1 ph_Runner___init__ := by
  obtain ⟨Ca, f, fd, hm, M, F⟩ := T.g_Runner___init__
  exact Mk0C.mk1 hm M (FunD.bindsN F fun _ _ _ _ _ _ us hl => match us, hl with | [_, _], _ => rfl) (fn_P (v := v_Runner___init__) F sc_Runner___init__ l_Runner___init__ (fun cdv A outer s H E hr =>
    (jss_one (js_fld T.cl_Runner (by decide +kernel) (je_callTy jo_listO (by rfl) T.f_list (by decide +kernel) (ja_cons (jv 1) ja_nil)) (jv 0)))) w_Runner___init__)
theorem ok_Runner_choice (T : Tx P K mg) : Mt0 P w K mg base "Runner" "choice" 1 ph_Runner_choice := by
  obtain ⟨Ca, f, fd, hm, c, M, F⟩ := T.g_Runner_choice
  exact Mt0.mk1 hm c M (FunD.bindsN F fun _ _ _ _ _ _ us hl => match us, hl with | [_], _ => rfl) (fn_P (v := v_Runner_choice) F sc_Runner_choice l_Runner_choice (fun cdv A outer s H E hr =>
    (jss_one (js_ret (je_if (jt_cmp (jo_ne hr.units) (je_fld T.cl_Runner (by decide +kernel) (jv 0)) (je_lst ja_nil) (nomark _)) (je_bm PySem.F.plainAttrs_list PySem.F.slot_list_pop PySem.F.type_list_pop jm_pop (je_fld T.cl_Runner (by decide +kernel) (jv 0)) (ja_cons je_int ja_nil)) (je_gtup (vs := [0, 1].map V.int) (ds := [0, 1].map D.int) (by rfl) T.c_ZERO (RpL.intsG _)))))) w_Runner_choice)
theorem ok__law_feed (T : Tx P K mg) : Fn P w K mg base "_law_feed" 1 ph__law_feed := by
  obtain ⟨f, fd, hm, F⟩ := T.g__law_feed
  exact Fn.mk1 hm F.kp (FunD.bindsN F fun _ _ _ _ _ _ us hl => match us, hl with | [_], _ => rfl) (feed_shift rfl (fn_0 (v := v__law_feed) F sc__law_feed l__law_feed (fun cdv A outer s H E hr =>
    (jss_cons (js_setLc (i := 1) rfl (sw_true rfl rfl rfl (by decide +kernel)) rfl (own := [("_law_cell", 3)]) (vs := [3]) rfl (by decide) rfl sc__law_feed.nd (jf_seq (je_sl (jv 0) jp_no (jp_some je_int))) (blkOk_by (own := [("_law_cell", 3)]) (N := N__law_feed) (sc := defScope sT__law_feed) (by decide +kernel)) (fun _ => (jg_name (i := 3) sc__law_feed.nd rfl (Or.inl rfl))) (fun _ => jts_nil) (fun _ => (je_callTy jo_int (by rfl) T.f_int (by decide +kernel) (ja_cons (jv 3) ja_nil))))
      (jss_cons (js_set (i := 2) sc__law_feed.nd rfl (Or.inl rfl) (je_op jo_add je_int (je_op jo_mul je_int (je_callB jo_len (by rfl) T.f_len (by decide +kernel) (ja_cons (jv 1) ja_nil)))))
      (jss_cons (js_for PassesOwn.never rfl (jf_seq (jv 1)) (jg_name (i := 3) sc__law_feed.nd rfl (Or.inl rfl))
      (jss_one (js_set (i := 2) sc__law_feed.nd rfl (Or.inl rfl) (je_op jo_mod (je_callTy jo_int (by rfl) T.f_int (by decide +kernel) (ja_cons (je_op jo_add (je_op jo_mul (jv 2) je_int) (jv 3)) ja_nil)) je_int))))
      (jss_one (js_ret (je_lstO (ja_cons (jv 1) (ja_cons je_int (ja_cons je_int (ja_cons (jv 2) ja_nil))))))))))) w__law_feed))
theorem ok__law_draw (T : Tx P K mg) : Fn P w K mg base "_law_draw" 1 ph__law_draw := by
  obtain ⟨f, fd, hm, F⟩ := T.g__law_draw
  exact Fn.mk1 hm F.kp (FunD.bindsN F fun _ _ _ _ _ _ us hl => match us, hl with | [_, _], _ => rfl) (draw_shift rfl (fn_0 (v := v__law_draw) F sc__law_draw l__law_draw (fun cdv A outer s H E hr =>
    (jss_cons (js_if (jt_cmp jo_lt (je_ix (jv 0) je_int (fun _ _ => rfl)) je_int (nomark _)) (jss_cons (js_setIx (je_op jo_add (je_ix (jv 0) je_int (fun _ _ => rfl)) je_int) (jv 0) je_int)
      (jss_cons (js_set (i := 2) sc__law_draw.nd rfl (Or.inl rfl) (je_op jo_add (je_ix (jv 0) je_int (fun _ _ => rfl)) (je_op jo_mul (je_ix (jv 0) je_int (fun _ _ => rfl)) je_int)))
      (jss_cons (js_if (jt_cmp jo_le (je_ix (jv 0) je_int (fun _ _ => rfl)) (je_callB jo_len (by rfl) T.f_len (by decide +kernel) (ja_cons (je_ix (jv 0) je_int (fun _ _ => rfl)) ja_nil)) (nomark _)) (jss_one (js_set (i := 2) sc__law_draw.nd rfl (Or.inl rfl) (je_ix (je_ix (jv 0) je_int (fun _ _ => rfl)) (je_op jo_sub (je_ix (jv 0) je_int (fun _ _ => rfl)) je_int) (fun _ _ => rfl)))) jss_nil)
      (jss_cons (js_if (JW.jt (jw_or (jt_cmp jo_gt (je_ix (jv 0) je_int (fun _ _ => rfl)) (je_callB jo_len (by rfl) T.f_len (by decide +kernel) (ja_cons (je_ix (jv 0) je_int (fun _ _ => rfl)) ja_nil)) (nomark _)) (jw_or1 (jt_cmp jo_lt (jv 2) (je_op jo_pow je_int je_int) (nomark _))))) (jss_cons (js_set (i := 3) sc__law_draw.nd rfl (Or.inl rfl) (je_op jo_mod (je_callTy jo_int (by rfl) T.f_int (by decide +kernel) (ja_cons (je_op jo_add (je_op jo_add (je_op jo_mul (jv 2) je_int) (je_op jo_mul (je_ix (jv 0) je_int (fun _ _ => rfl)) je_int)) (je_ix (jv 0) je_int (fun _ _ => rfl))) ja_nil)) je_int))
      (jss_cons (js_set (i := 4) sc__law_draw.nd rfl (Or.inl rfl) (je_op jo_mod (je_callTy jo_int (by rfl) T.f_int (by decide +kernel) (ja_cons (je_op jo_add (je_op jo_mul (jv 3) (jv 3)) (je_op jo_mul (je_ix (jv 0) je_int (fun _ _ => rfl)) je_int)) ja_nil)) je_int))
      (jss_one (js_ret (je_op jo_mod (je_op jo_fdiv (je_op jo_mod (je_callTy jo_int (by rfl) T.f_int (by decide +kernel) (ja_cons (je_op jo_add (je_op jo_mul (jv 4) je_int) (jv 3)) ja_nil)) je_int) je_int) (jv 1)))))) jss_nil)
      (jss_one (js_setIx (jv 2) (jv 0) je_int)))))) jss_nil)
      (jss_cons (js_set (i := 5) sc__law_draw.nd rfl (Or.inl rfl) (je_op jo_mod (je_callTy jo_int (by rfl) T.f_int (by decide +kernel) (ja_cons (je_ix (jv 0) je_int (fun _ _ => rfl)) ja_nil)) (jv 1)))
      (jss_cons (js_setIx (je_op jo_fdiv (je_callTy jo_int (by rfl) T.f_int (by decide +kernel) (ja_cons (je_ix (jv 0) je_int (fun _ _ => rfl)) ja_nil)) (jv 1)) (jv 0) je_int)
      (jss_one (js_ret (jv 5))))))) w__law_draw))
theorem ok__law_gcd (T : Tx P K mg) : Fn P w K mg base "_law_gcd" 1 ph__law_gcd := by
  obtain ⟨f, fd, hm, F⟩ := T.g__law_gcd
  exact Fn.mk1 hm F.kp (FunD.bindsN F fun _ _ _ _ _ _ us hl => match us, hl with | [_, _], _ => rfl) (fn_P (v := v__law_gcd) F sc__law_gcd l__law_gcd (fun cdv A outer s H E hr =>
    (jss_cons (js_par (i := 0) (j := 1) (by rfl) sc__law_gcd.nd rfl rfl (by decide) rfl rfl (ja_cons (je_callB jo_abs (by rfl) T.f_abs (by decide +kernel) (ja_cons (jv 0) ja_nil)) (ja_cons (je_callB jo_abs (by rfl) T.f_abs (by decide +kernel) (ja_cons (jv 1) ja_nil)) ja_nil)) (by rfl))
      (jss_cons (js_while PassesOwn.never (jt_cmp (jo_ne hr.units) (jv 1) je_int (nomark _)) (jss_one (js_par (i := 0) (j := 1) (by rfl) sc__law_gcd.nd rfl rfl (by decide) rfl rfl (ja_cons (jv 1) (ja_cons (je_op jo_mod (je_callTy jo_int (by rfl) T.f_int (by decide +kernel) (ja_cons (jv 0) ja_nil)) (jv 1)) ja_nil)) (by rfl))))
      (jss_one (js_ret (jv 0)))))) w__law_gcd)
theorem ok__law_minus (T : Tx P K mg) : Fn P w K mg base "_law_minus" 1 ph__law_minus := by
  obtain ⟨f, fd, hm, F⟩ := T.g__law_minus
  exact Fn.mk1 hm F.kp (FunD.bindsN F fun _ _ _ _ _ _ us hl => match us, hl with | [_], _ => rfl) (fn_P (v := v__law_minus) F sc__law_minus l__law_minus (fun cdv A outer s H E hr =>
    (jss_one (js_ret (je_tup (ja_cons (je_un jo_neg (je_ix (jv 0) je_int (fun _ _ => rfl))) (ja_cons (je_ix (jv 0) je_int (fun _ _ => rfl)) ja_nil)))))) w__law_minus)
theorem ok__law_under (T : Tx P K mg) : Fn P w K mg base "_law_under" 1 ph__law_under := by
  obtain ⟨f, fd, hm, F⟩ := T.g__law_under
  exact Fn.mk1 hm F.kp (FunD.bindsN F fun _ _ _ _ _ _ us hl => match us, hl with | [_, _], _ => rfl) (fn_P (v := v__law_under) F sc__law_under l__law_under (fun cdv A outer s H E hr =>
    (jss_one (js_ret (je_cmp jo_lt (je_op jo_mul (je_ix (jv 0) je_int (fun _ _ => rfl)) (je_ix (jv 1) je_int (fun _ _ => rfl))) (je_op jo_mul (je_ix (jv 1) je_int (fun _ _ => rfl)) (je_ix (jv 0) je_int (fun _ _ => rfl))) (nomark _))))) w__law_under)
theorem ok_lowest (T : Tx P K mg) : Fn P w K mg base "lowest" 2 ph_lowest := by
  obtain ⟨f, fd, hm, F⟩ := T.g_lowest
  exact Fn.mk1 hm F.kp (FunD.bindsN F fun _ _ _ _ _ _ us hl => match us, hl with | [_, _], _ => rfl) (fn_P (v := v_lowest) F sc_lowest l_lowest (fun cdv A outer s H E hr =>
    (jss_cons (js_set (i := 2) sc_lowest.nd rfl (Or.inl rfl) (je_fn (ok_divisor T) (hr.mono (by decide)) (by rfl) (ja_cons (jv 0) (ja_cons (jv 1) ja_nil))))
      (jss_cons (js_if (jt_cmp jo_lt (jv 1) je_int (nomark _)) (jss_one (js_set (i := 2) sc_lowest.nd rfl (Or.inl rfl) (je_un jo_neg (jv 2)))) jss_nil)
      (jss_one (js_ret (je_tup (ja_cons (je_op jo_fdiv (jv 0) (jv 2)) (ja_cons (je_op jo_fdiv (jv 1) (jv 2)) ja_nil)))))))) w_lowest)
theorem ok__law_any (T : Tx P K mg) : Fn P w K mg base "_law_any" 2 ph__law_any := by
  obtain ⟨f, fd, hm, F⟩ := T.g__law_any
  exact Fn.mk1 hm F.kp (FunD.bindsN F fun _ _ _ _ _ _ us hl => match us, hl with | [_, _], _ => rfl) (fn_P (v := v__law_any) F sc__law_any l__law_any (fun cdv A outer s H E hr =>
    (jss_one (js_ret (je_ix (jv 1) (je_fn (ok__law_draw T) (hr.mono (by decide)) (by rfl) (ja_cons (jv 0) (ja_cons (je_callB jo_len (by rfl) T.f_len (by decide +kernel) (ja_cons (jv 1) ja_nil)) ja_nil))) (fun _ _ => rfl))))) w__law_any)
theorem ok__law_low (T : Tx P K mg) : Fn P w K mg base "_law_low" 2 ph__law_low := by
  obtain ⟨f, fd, hm, F⟩ := T.g__law_low
  exact Fn.mk1 hm F.kp (FunD.bindsN F fun _ _ _ _ _ _ us hl => match us, hl with | [_, _], _ => rfl) (fn_P (v := v__law_low) F sc__law_low l__law_low (fun cdv A outer s H E hr =>
    (jss_cons (js_set (i := 2) sc__law_low.nd rfl (Or.inl rfl) (je_fn (ok__law_gcd T) (hr.mono (by decide)) (by rfl) (ja_cons (jv 0) (ja_cons (jv 1) ja_nil))))
      (jss_cons (js_if (jt_cmp jo_lt (jv 1) je_int (nomark _)) (jss_one (js_set (i := 2) sc__law_low.nd rfl (Or.inl rfl) (je_un jo_neg (jv 2)))) jss_nil)
      (jss_one (js_ret (je_tup (ja_cons (je_op jo_fdiv (jv 0) (jv 2)) (ja_cons (je_op jo_fdiv (jv 1) (jv 2)) ja_nil)))))))) w__law_low)
theorem ok__law_words (T : Tx P K mg) : Fn P w K mg base "_law_words" 2 ph__law_words := by
  obtain ⟨f, fd, hm, F⟩ := T.g__law_words
  exact Fn.mk1 hm F.kp (FunD.bindsN F fun _ _ _ _ _ _ us hl => match us, hl with | [_, _], _ => rfl) (fn_P (v := v__law_words) F sc__law_words l__law_words (fun cdv A outer s H E hr =>
    (jss_cons (js_set (i := 2) sc__law_words.nd rfl (Or.inr rfl) je_str)
      (jss_cons (js_set (i := 3) sc__law_words.nd rfl (Or.inr rfl) (je_join je_str (je_lc (own := [("_law_k", 8)]) (vs := [8]) rfl (by decide) rfl sc__law_words.nd (jf_rng1 rfl T.f_range (ja_cons (je_fn (ok__law_draw T) (hr.mono (by decide)) (by rfl) (ja_cons (jv 0) (ja_cons je_int ja_nil))) ja_nil)) (blkOk_by (own := [("_law_k", 8)]) (N := N__law_words) (sc := defScope sT__law_words) (by decide +kernel)) (fun _ => (jg_name (i := 8) sc__law_words.nd rfl (Or.inl rfl))) (fun _ => jts_nil) (fun _ => (je_ix (jv 2) (je_fn (ok__law_draw T) (hr.mono (by decide)) (by rfl) (ja_cons (jv 0) (ja_cons je_int ja_nil))) (fun _ _ => rfl))))))
      (jss_cons (js_asg (je_tup (ja_cons (je_fn (ok__law_draw T) (hr.mono (by decide)) (by rfl) (ja_cons (jv 0) (ja_cons (je_op jo_add (je_callB jo_len (by rfl) T.f_len (by decide +kernel) (ja_cons (jv 3) ja_nil)) je_int) ja_nil))) (ja_cons (je_fn (ok__law_draw T) (hr.mono (by decide)) (by rfl) (ja_cons (jv 0) (ja_cons je_int ja_nil))) (ja_cons (je_fn (ok__law_draw T) (hr.mono (by decide)) (by rfl) (ja_cons (jv 0) (ja_cons je_int ja_nil))) ja_nil)))) (jg_tup rfl (jgs_cons (jg_name (i := 4) sc__law_words.nd rfl (Or.inr rfl)) (jgs_cons (jg_name (i := 5) sc__law_words.nd rfl (Or.inr rfl)) (jgs_cons (jg_name (i := 6) sc__law_words.nd rfl (Or.inl rfl)) jgs_nil)))))
      (jss_cons (js_setLc (i := 7) rfl (sw_true rfl rfl rfl (by decide +kernel)) rfl (own := [("_law_k", 8)]) (vs := [8]) rfl (by decide) rfl sc__law_words.nd (jf_rng1 rfl T.f_range (ja_cons (jv 1) ja_nil)) (blkOk_by (own := [("_law_k", 8)]) (N := N__law_words) (sc := defScope sT__law_words) (by decide +kernel)) (fun _ => (jg_name (i := 8) sc__law_words.nd rfl (Or.inl rfl))) (fun _ => jts_nil) (fun _ => (je_op jo_add (je_op jo_add (je_sl (jv 3) jp_no (jp_some (jv 4))) (je_ix (jv 2) (je_op jo_mod (je_callTy jo_int (by rfl) T.f_int (by decide +kernel) (ja_cons (je_op jo_add (jv 5) (je_op jo_mul je_int (jv 8))) ja_nil)) je_int) (fun _ _ => rfl))) (je_sl (jv 3) (jp_some (jv 4)) jp_no))))
      (jss_cons (js_if (jt_cmp (jo_eq hr.units) (jv 6) je_int (nomark _)) (jss_cons (js_setLc (i := 7) rfl (sw_true rfl rfl rfl (by decide +kernel)) rfl (own := [("_law_k", 8)]) (vs := [8]) rfl (by decide) rfl sc__law_words.nd (jf_rng1 rfl T.f_range (ja_cons (jv 1) ja_nil)) (blkOk_by (own := [("_law_k", 8)]) (N := N__law_words) (sc := defScope sT__law_words) (by decide +kernel)) (fun _ => (jg_name (i := 8) sc__law_words.nd rfl (Or.inl rfl))) (fun _ => jts_nil) (fun _ => (je_sl (je_op jo_add (je_sl (jv 3) jp_no (jp_some je_int)) (je_op jo_mul (je_ix (jv 2) (je_op jo_mod (je_callTy jo_int (by rfl) T.f_int (by decide +kernel) (ja_cons (je_op jo_add (jv 5) (je_op jo_mul je_int (jv 8))) ja_nil)) je_int) (fun _ _ => rfl)) (je_op jo_add je_int (je_op jo_mod (je_callTy jo_int (by rfl) T.f_int (by decide +kernel) (ja_cons (je_op jo_add (jv 8) (jv 5)) ja_nil)) je_int)))) (jp_some (je_un jo_neg je_int)) jp_no)))
      (jss_one (js_set (i := 7) sc__law_words.nd rfl (Or.inl rfl) (je_if (jt_cmp (jo_eq hr.units) (je_ls (by rfl) (by rfl) T.f_len (by rfl) T.f_sorted (by rfl) T.f_set (jv 7)) (jv 1) (nomark _)) (jv 7) (je_lc (own := [("_law_k", 8)]) (vs := [8]) rfl (by decide) rfl sc__law_words.nd (jf_rng1 rfl T.f_range (ja_cons (jv 1) ja_nil)) (blkOk_by (own := [("_law_k", 8)]) (N := N__law_words) (sc := defScope sT__law_words) (by decide +kernel)) (fun _ => (jg_name (i := 8) sc__law_words.nd rfl (Or.inl rfl))) (fun _ => jts_nil) (fun _ => (je_ix (jv 2) (je_op jo_mod (je_callTy jo_int (by rfl) T.f_int (by decide +kernel) (ja_cons (je_op jo_add (jv 5) (je_op jo_mul je_int (jv 8))) ja_nil)) je_int) (fun _ _ => rfl)))))))) jss_nil)
      (jss_one (js_ret (jv 7))))))))) w__law_words)
theorem ok_add (T : Tx P K mg) : Fn P w K mg base "add" 3 ph_add := by
  obtain ⟨f, fd, hm, F⟩ := T.g_add
  exact Fn.mk1 hm F.kp (FunD.bindsN F fun _ _ _ _ _ _ us hl => match us, hl with | [_, _], _ => rfl) (fn_P (v := v_add) F sc_add l_add (fun cdv A outer s H E hr =>
    (jss_one (js_ret (je_fn (ok_lowest T) (hr.mono (by decide)) (by rfl) (ja_cons (je_op jo_add (je_op jo_mul (je_ix (jv 0) je_int (fun _ _ => rfl)) (je_ix (jv 1) je_int (fun _ _ => rfl))) (je_op jo_mul (je_ix (jv 1) je_int (fun _ _ => rfl)) (je_ix (jv 0) je_int (fun _ _ => rfl)))) (ja_cons (je_op jo_mul (je_ix (jv 0) je_int (fun _ _ => rfl)) (je_ix (jv 1) je_int (fun _ _ => rfl))) ja_nil)))))) w_add)
theorem ok_multiply (T : Tx P K mg) : Fn P w K mg base "multiply" 3 ph_multiply := by
  obtain ⟨f, fd, hm, F⟩ := T.g_multiply
  exact Fn.mk1 hm F.kp (FunD.bindsN F fun _ _ _ _ _ _ us hl => match us, hl with | [_, _], _ => rfl) (fn_P (v := v_multiply) F sc_multiply l_multiply (fun cdv A outer s H E hr =>
    (jss_one (js_ret (je_fn (ok_lowest T) (hr.mono (by decide)) (by rfl) (ja_cons (je_op jo_mul (je_ix (jv 0) je_int (fun _ _ => rfl)) (je_ix (jv 1) je_int (fun _ _ => rfl))) (ja_cons (je_op jo_mul (je_ix (jv 0) je_int (fun _ _ => rfl)) (je_ix (jv 1) je_int (fun _ _ => rfl))) ja_nil)))))) w_multiply)
theorem ok_Runner_share (T : Tx P K mg) : Mt0 P w K mg base "Runner" "share" 3 ph_Runner_share := by
  obtain ⟨Ca, f, fd, hm, c, M, F⟩ := T.g_Runner_share
  exact Mt0.mk1 hm c M (FunD.bindsN F fun _ _ _ _ _ _ us hl => match us, hl with | [_], _ => rfl) (fn_P (v := v_Runner_share) F sc_Runner_share l_Runner_share (fun cdv A outer s H E hr =>
    (jss_cons (js_set (i := 1) sc_Runner_share.nd rfl (Or.inl rfl) (je_meth0 (ok_Runner_choice T) (hr.mono (by decide)) (jv 0)))
      (jss_one (js_ret (je_if (jt_cmp (jo_eq hr.units) (je_ix (jv 1) je_int (fun _ _ => rfl)) je_int (nomark _)) (je_gtup (vs := [0, 1].map V.int) (ds := [0, 1].map D.int) (by rfl) T.c_ZERO (RpL.intsG _)) (je_fn (ok_lowest T) (hr.mono (by decide)) (by rfl) (ja_cons (je_ix (jv 1) je_int (fun _ _ => rfl)) (ja_cons (je_op jo_add (je_ix (jv 1) je_int (fun _ _ => rfl)) (je_callB jo_abs (by rfl) T.f_abs (by decide +kernel) (ja_cons (je_ix (jv 1) je_int (fun _ _ => rfl)) ja_nil))) ja_nil)))))))) w_Runner_share)
theorem ok__law_plus (T : Tx P K mg) : Fn P w K mg base "_law_plus" 3 ph__law_plus := by
  obtain ⟨f, fd, hm, F⟩ := T.g__law_plus
  exact Fn.mk1 hm F.kp (FunD.bindsN F fun _ _ _ _ _ _ us hl => match us, hl with | [_, _], _ => rfl) (fn_P (v := v__law_plus) F sc__law_plus l__law_plus (fun cdv A outer s H E hr =>
    (jss_one (js_ret (je_fn (ok__law_low T) (hr.mono (by decide)) (by rfl) (ja_cons (je_op jo_add (je_op jo_mul (je_ix (jv 0) je_int (fun _ _ => rfl)) (je_ix (jv 1) je_int (fun _ _ => rfl))) (je_op jo_mul (je_ix (jv 1) je_int (fun _ _ => rfl)) (je_ix (jv 0) je_int (fun _ _ => rfl)))) (ja_cons (je_op jo_mul (je_ix (jv 0) je_int (fun _ _ => rfl)) (je_ix (jv 1) je_int (fun _ _ => rfl))) ja_nil)))))) w__law_plus)
theorem ok__law_by (T : Tx P K mg) : Fn P w K mg base "_law_by" 3 ph__law_by := by
  obtain ⟨f, fd, hm, F⟩ := T.g__law_by
  exact Fn.mk1 hm F.kp (FunD.bindsN F fun _ _ _ _ _ _ us hl => match us, hl with | [_, _], _ => rfl) (fn_P (v := v__law_by) F sc__law_by l__law_by (fun cdv A outer s H E hr =>
    (jss_one (js_ret (je_fn (ok__law_low T) (hr.mono (by decide)) (by rfl) (ja_cons (je_op jo_mul (je_ix (jv 0) je_int (fun _ _ => rfl)) (je_ix (jv 1) je_int (fun _ _ => rfl))) (ja_cons (je_op jo_mul (je_ix (jv 0) je_int (fun _ _ => rfl)) (je_ix (jv 1) je_int (fun _ _ => rfl))) ja_nil)))))) w__law_by)
theorem ok__law_rate (T : Tx P K mg) : Fn P w K mg base "_law_rate" 3 ph__law_rate := by
  obtain ⟨f, fd, hm, F⟩ := T.g__law_rate
  exact Fn.mk1 hm F.kp (FunD.bindsN F fun _ _ _ _ _ _ us hl => match us, hl with | [_], _ => rfl) (fn_P (v := v__law_rate) F sc__law_rate l__law_rate (fun cdv A outer s H E hr =>
    (jss_one (js_ret (je_fn (ok__law_any T) (hr.mono (by decide)) (by rfl) (ja_cons (jv 0) (ja_cons (je_lst (ja_cons (je_tup (ja_cons je_int (ja_cons je_int ja_nil))) (ja_cons (je_tup (ja_cons (je_un jo_neg je_int) (ja_cons je_int ja_nil))) (ja_cons (je_tup (ja_cons je_int (ja_cons je_int ja_nil))) (ja_cons (je_tup (ja_cons je_int (ja_cons je_int ja_nil))) (ja_cons (je_tup (ja_cons (je_un jo_neg je_int) (ja_cons je_int ja_nil))) (ja_cons (je_tup (ja_cons je_int (ja_cons je_int ja_nil))) (ja_cons (je_tup (ja_cons je_int (ja_cons je_int ja_nil))) (ja_cons (je_tup (ja_cons (je_un jo_neg je_int) (ja_cons je_int ja_nil))) (ja_cons (je_tup (ja_cons (je_un jo_neg je_int) (ja_cons je_int ja_nil))) (ja_cons (je_tup (ja_cons je_int (ja_cons je_int ja_nil))) ja_nil))))))))))) ja_nil)))))) w__law_rate)
theorem ok__law_point (T : Tx P K mg) : Fn P w K mg base "_law_point" 3 ph__law_point := by
  obtain ⟨f, fd, hm, F⟩ := T.g__law_point
  exact Fn.mk1 hm F.kp (FunD.bindsN F fun _ _ _ _ _ _ us hl => match us, hl with | [_, _], _ => rfl) (fn_P (v := v__law_point) F sc__law_point l__law_point (fun cdv A outer s H E hr =>
    (jss_one (js_ret (je_callTy (jo_dict rfl) (by rfl) T.f_dict (by decide +kernel) (ja_cons (je_lc (own := [("_law_name", 2)]) (vs := [2]) rfl (by decide) rfl sc__law_point.nd (jf_seq (jv 1)) (blkOk_by (own := [("_law_name", 2)]) (N := N__law_point) (sc := defScope sT__law_point) (by decide +kernel)) (fun _ => (jg_name (i := 2) sc__law_point.nd rfl (Or.inl rfl))) (fun _ => jts_nil) (fun _ => (je_tup (ja_cons (jv 2) (ja_cons (je_fn (ok__law_any T) (hr.mono (by decide)) (by rfl) (ja_cons (jv 0) (ja_cons (je_lst (ja_cons (je_tup (ja_cons je_int (ja_cons je_int ja_nil))) (ja_cons (je_tup (ja_cons je_int (ja_cons je_int ja_nil))) (ja_cons (je_tup (ja_cons je_int (ja_cons je_int ja_nil))) (ja_cons (je_tup (ja_cons (je_un jo_neg je_int) (ja_cons je_int ja_nil))) (ja_cons (je_tup (ja_cons je_int (ja_cons je_int ja_nil))) (ja_cons (je_tup (ja_cons je_int (ja_cons je_int ja_nil))) (ja_cons (je_tup (ja_cons (je_un jo_neg je_int) (ja_cons je_int ja_nil))) ja_nil)))))))) ja_nil))) ja_nil))))) ja_nil))))) w__law_point)
theorem ok__law_form (T : Tx P K mg) : Fn P w K mg base "_law_form" 3 ph__law_form := by
  obtain ⟨f, fd, hm, F⟩ := T.g__law_form
  exact Fn.mk1 hm F.kp (FunD.bindsN F fun _ _ _ _ _ _ us hl => match us, hl with | [_, _], _ => rfl) (fn_P (v := v__law_form) F sc__law_form l__law_form (fun cdv A outer s H E hr =>
    (jss_cons (js_set (i := 2) sc__law_form.nd rfl (Or.inl rfl) (je_fn (ok__law_any T) (hr.mono (by decide)) (by rfl) (ja_cons (jv 0) (ja_cons (je_lst (ja_cons (je_tup (ja_cons je_int (ja_cons je_int ja_nil))) (ja_cons (je_tup (ja_cons je_int (ja_cons je_int ja_nil))) (ja_cons (je_tup (ja_cons (je_un jo_neg je_int) (ja_cons je_int ja_nil))) (ja_cons (je_tup (ja_cons je_int (ja_cons je_int ja_nil))) (ja_cons (je_tup (ja_cons je_int (ja_cons je_int ja_nil))) (ja_cons (je_tup (ja_cons je_int (ja_cons je_int ja_nil))) ja_nil))))))) ja_nil))))
      (jss_cons (js_set (i := 3) sc__law_form.nd rfl (Or.inl rfl) (je_fn (ok__law_any T) (hr.mono (by decide)) (by rfl) (ja_cons (jv 0) (ja_cons (je_lst (ja_cons (je_tup (ja_cons je_int (ja_cons je_int ja_nil))) (ja_cons (je_tup (ja_cons je_int (ja_cons je_int ja_nil))) (ja_cons (je_tup (ja_cons (je_un jo_neg je_int) (ja_cons je_int ja_nil))) (ja_cons (je_tup (ja_cons je_int (ja_cons je_int ja_nil))) (ja_cons (je_tup (ja_cons (je_un jo_neg je_int) (ja_cons je_int ja_nil))) (ja_cons (je_tup (ja_cons je_int (ja_cons je_int ja_nil))) ja_nil))))))) ja_nil))))
      (jss_one (js_ret (je_if (jt_cmp (jo_ne hr.units) (je_ix (jv 2) je_int (fun _ _ => rfl)) je_int (nomark _)) (je_tup (ja_cons (jv 2) (ja_cons (je_fn (ok__law_any T) (hr.mono (by decide)) (by rfl) (ja_cons (jv 0) (ja_cons (jv 1) ja_nil))) (ja_cons (jv 3) ja_nil)))) (je_tup (ja_cons (jv 2) (ja_cons je_str (ja_cons (jv 3) ja_nil)))))))))) w__law_form)
theorem ok_subtract (T : Tx P K mg) : Fn P w K mg base "subtract" 4 ph_subtract := by
  obtain ⟨f, fd, hm, F⟩ := T.g_subtract
  exact Fn.mk1 hm F.kp (FunD.bindsN F fun _ _ _ _ _ _ us hl => match us, hl with | [_, _], _ => rfl) (fn_P (v := v_subtract) F sc_subtract l_subtract (fun cdv A outer s H E hr =>
    (jss_one (js_ret (je_fn (ok_add T) (hr.mono (by decide)) (by rfl) (ja_cons (jv 0) (ja_cons (je_fn (ok_negative T) (hr.mono (by decide)) (by rfl) (ja_cons (jv 1) ja_nil)) ja_nil)))))) w_subtract)
theorem ok_sum_at (T : Tx P K mg) : Fn P w K mg base "sum_at" 4 ph_sum_at := by
  obtain ⟨f, fd, hm, F⟩ := T.g_sum_at
  exact Fn.mk1 hm F.kp (FunD.bindsN F fun _ _ _ _ _ _ us hl => match us, hl with | [_, _], _ => rfl) (fn_P (v := v_sum_at) F sc_sum_at l_sum_at (fun cdv A outer s H E hr =>
    (jss_cons (js_set (i := 2) sc_sum_at.nd rfl (Or.inl rfl) (je_gtup (vs := [0, 1].map V.int) (ds := [0, 1].map D.int) (by rfl) T.c_ZERO (RpL.intsG _)))
      (jss_cons (js_for PassesOwn.never rfl (jf_seq (jv 0)) (jg_tup rfl (jgs_cons (jg_name (i := 3) sc_sum_at.nd rfl (Or.inl rfl)) (jgs_cons (jg_name (i := 4) sc_sum_at.nd rfl (Or.inl rfl)) jgs_nil)))
      (jss_one (js_set (i := 2) sc_sum_at.nd rfl (Or.inl rfl) (je_fn (ok_add T) (hr.mono (by decide)) (by rfl) (ja_cons (jv 2) (ja_cons (je_fn (ok_multiply T) (hr.mono (by decide)) (by rfl) (ja_cons (jv 4) (ja_cons (je_dget (hu1 hr.units) (jv 1) (jv 3) (fun _ _ => rfl)) ja_nil))) ja_nil))))))
      (jss_one (js_ret (jv 2)))))) w_sum_at)
theorem ok_Runner_form_value (T : Tx P K mg) : Mt0 P w K mg base "Runner" "form_value" 4 ph_Runner_form_value := by
  obtain ⟨Ca, f, fd, hm, c, M, F⟩ := T.g_Runner_form_value
  exact Mt0.mk1 hm c M (FunD.bindsN F fun _ _ _ _ _ _ us hl => match us, hl with | [_, _, _], _ => rfl) (fn_P (v := v_Runner_form_value) F sc_Runner_form_value l_Runner_form_value (fun cdv A outer s H E hr =>
    (jss_one (js_ret (je_if (jt_cmp (jo_eq hr.units) (je_ix (jv 1) je_int (fun _ _ => rfl)) je_str (nomark _)) (je_ix (jv 1) je_int (fun _ _ => rfl)) (je_fn (ok_add T) (hr.mono (by decide)) (by rfl) (ja_cons (je_fn (ok_multiply T) (hr.mono (by decide)) (by rfl) (ja_cons (je_ix (jv 1) je_int (fun _ _ => rfl)) (ja_cons (je_dget (hu1 hr.units) (jv 2) (je_ix (jv 1) je_int (fun _ _ => rfl)) (fun _ _ => rfl)) ja_nil))) (ja_cons (je_ix (jv 1) je_int (fun _ _ => rfl)) ja_nil))))))) w_Runner_form_value)
theorem ok__law_total (T : Tx P K mg) : Fn P w K mg base "_law_total" 4 ph__law_total := by
  obtain ⟨f, fd, hm, F⟩ := T.g__law_total
  exact Fn.mk1 hm F.kp (FunD.bindsN F fun _ _ _ _ _ _ us hl => match us, hl with | [_, _], _ => rfl) (fn_P (v := v__law_total) F sc__law_total l__law_total (fun cdv A outer s H E hr =>
    (jss_cons (js_set (i := 2) sc__law_total.nd rfl (Or.inl rfl) (je_tup (ja_cons je_int (ja_cons je_int ja_nil))))
      (jss_cons (js_for PassesOwn.never rfl (jf_seq (jv 0)) (jg_tup rfl (jgs_cons (jg_name (i := 3) sc__law_total.nd rfl (Or.inl rfl)) (jgs_cons (jg_name (i := 4) sc__law_total.nd rfl (Or.inl rfl)) jgs_nil)))
      (jss_one (js_set (i := 2) sc__law_total.nd rfl (Or.inl rfl) (je_fn (ok__law_plus T) (hr.mono (by decide)) (by rfl) (ja_cons (jv 2) (ja_cons (je_fn (ok__law_by T) (hr.mono (by decide)) (by rfl) (ja_cons (jv 4) (ja_cons (je_dget (hu1 hr.units) (jv 1) (jv 3) (fun _ _ => rfl)) ja_nil))) ja_nil))))))
      (jss_one (js_ret (jv 2)))))) w__law_total)
theorem ok__law_terms (T : Tx P K mg) : Fn P w K mg base "_law_terms" 4 ph__law_terms := by
  obtain ⟨f, fd, hm, F⟩ := T.g__law_terms
  exact Fn.mk1 hm F.kp (FunD.bindsN F fun _ _ _ _ _ _ us hl => match us, hl with | [_, _, _], _ => rfl) (fn_0 (v := v__law_terms) F sc__law_terms l__law_terms (fun cdv A outer s H E hr =>
    (jss_cons (js_set (i := 3) sc__law_terms.nd rfl (Or.inl rfl) (je_fn (ok__law_draw T) (hr.mono (by decide)) (by rfl) (ja_cons (jv 0) (ja_cons (je_callB jo_len (by rfl) T.f_len (by decide +kernel) (ja_cons (jv 1) ja_nil)) ja_nil))))
      (jss_cons (js_set (i := 4) sc__law_terms.nd rfl (Or.inl rfl) (je_lstO (ja_cons (je_ix (jv 1) (jv 3) (fun _ _ => rfl)) ja_nil)))
      (jss_cons (js_if (JW.jt (jw_and (jt_cmp jo_gt (je_callB jo_len (by rfl) T.f_len (by decide +kernel) (ja_cons (jv 1) ja_nil)) je_int (nomark _)) (jw_and1 (jt_cmp jo_lt (je_fn (ok__law_draw T) (hr.mono (by decide)) (by rfl) (ja_cons (jv 0) (ja_cons je_int ja_nil))) (jv 2) (nomark _))))) (jss_one (js_expr (je_bm PySem.F.plainAttrs_list PySem.F.slot_list_append PySem.F.type_list_append jm_append (jv 4) (ja_cons (je_ix (jv 1) (je_op jo_mod (je_callTy jo_int (by rfl) T.f_int (by decide +kernel) (ja_cons (je_op jo_add (je_op jo_add (jv 3) je_int) (je_fn (ok__law_draw T) (hr.mono (by decide)) (by rfl) (ja_cons (jv 0) (ja_cons (je_op jo_sub (je_callB jo_len (by rfl) T.f_len (by decide +kernel) (ja_cons (jv 1) ja_nil)) je_int) ja_nil)))) ja_nil)) (je_callB jo_len (by rfl) T.f_len (by decide +kernel) (ja_cons (jv 1) ja_nil))) (fun _ _ => rfl)) ja_nil)))) jss_nil)
      (jss_one (js_ret (je_callTy jo_tuple (by rfl) T.f_tuple (by decide +kernel) (ja_cons (je_lc (own := [("_law_name", 5)]) (vs := [5]) rfl (by decide) rfl sc__law_terms.nd (jf_seq (je_callB jo_sortS (by rfl) T.f_sorted (by decide +kernel) (ja_cons (jv 4) ja_nil))) (blkOk_by (own := [("_law_name", 5)]) (N := N__law_terms) (sc := defScope sT__law_terms) (by decide +kernel)) (fun _ => (jg_name (i := 5) sc__law_terms.nd rfl (Or.inl rfl))) (fun _ => jts_nil) (fun _ => (je_tup (ja_cons (jv 5) (ja_cons (je_fn (ok__law_rate T) (hr.mono (by decide)) (by rfl) (ja_cons (jv 0) ja_nil)) ja_nil))))) ja_nil)))))))) w__law_terms)
theorem ok__law_brief (T : Tx P K mg) : Fn P w K mg base "_law_brief" 4 ph__law_brief := by
  obtain ⟨f, fd, hm, F⟩ := T.g__law_brief
  exact Fn.mk1 hm F.kp (FunD.bindsN F fun _ _ _ _ _ _ us hl => match us, hl with | [_], _ => rfl) (fn_P (v := v__law_brief) F sc__law_brief l__law_brief (fun cdv A outer s H E hr =>
    (jss_cons (js_asg (je_tup (ja_cons je_int (ja_cons je_int ja_nil))) (jg_tup rfl (jgs_cons (jg_name (i := 1) sc__law_brief.nd rfl (Or.inl rfl)) (jgs_cons (jg_name (i := 2) sc__law_brief.nd rfl (Or.inl rfl)) jgs_nil))))
      (jss_cons (js_for PassesOwn.never rfl (jf_seq (je_ix (jv 0) je_int (fun _ _ => rfl))) (jg_tup rfl (jgs_cons (jg_name (i := 3) sc__law_brief.nd rfl (Or.inl rfl)) (jgs_cons (jg_name (i := 4) sc__law_brief.nd rfl (Or.inl rfl)) jgs_nil)))
      (jss_one (js_set (i := 1) sc__law_brief.nd rfl (Or.inl rfl) (je_op jo_fdiv (je_op jo_mul (jv 1) (je_ix (jv 4) je_int (fun _ _ => rfl))) (je_fn (ok__law_gcd T) (hr.mono (by decide)) (by rfl) (ja_cons (jv 1) (ja_cons (je_ix (jv 4) je_int (fun _ _ => rfl)) ja_nil)))))))
      (jss_cons (js_for PassesOwn.never rfl (jf_seq (je_ix (jv 0) je_int (fun _ _ => rfl))) (jg_tup rfl (jgs_cons (jg_name (i := 3) sc__law_brief.nd rfl (Or.inl rfl)) (jgs_cons (jg_name (i := 4) sc__law_brief.nd rfl (Or.inl rfl)) jgs_nil)))
      (jss_one (js_set (i := 2) sc__law_brief.nd rfl (Or.inl rfl) (je_fn (ok__law_gcd T) (hr.mono (by decide)) (by rfl) (ja_cons (jv 2) (ja_cons (je_op jo_mul (je_ix (jv 4) je_int (fun _ _ => rfl)) (je_op jo_fdiv (jv 1) (je_ix (jv 4) je_int (fun _ _ => rfl)))) ja_nil))))))
      (jss_cons (js_set (i := 5) sc__law_brief.nd rfl (Or.inr rfl) (je_fn (ok__law_low T) (hr.mono (by decide)) (by rfl) (ja_cons (jv 1) (ja_cons (jv 2) ja_nil))))
      (jss_one (js_ret (je_tup (ja_cons (je_callTy jo_tuple (by rfl) T.f_tuple (by decide +kernel) (ja_cons (je_lc (own := [("_law_name", 3), ("_law_rate_here", 4)]) (vs := [3, 4]) rfl (by decide) rfl sc__law_brief.nd (jf_seq (je_ix (jv 0) je_int (fun _ _ => rfl))) (blkOk_by (own := [("_law_name", 3), ("_law_rate_here", 4)]) (N := N__law_brief) (sc := defScope sT__law_brief) (by decide +kernel)) (fun _ => (jg_tup rfl (jgs_cons (jg_name (i := 3) sc__law_brief.nd rfl (Or.inl rfl)) (jgs_cons (jg_name (i := 4) sc__law_brief.nd rfl (Or.inl rfl)) jgs_nil)))) (fun _ => jts_nil) (fun _ => (je_tup (ja_cons (jv 3) (ja_cons (je_fn (ok__law_by T) (hr.mono (by decide)) (by rfl) (ja_cons (jv 4) (ja_cons (jv 5) ja_nil))) ja_nil))))) ja_nil)) (ja_cons (je_fn (ok__law_by T) (hr.mono (by decide)) (by rfl) (ja_cons (je_ix (jv 0) je_int (fun _ _ => rfl)) (ja_cons (jv 5) ja_nil))) ja_nil)))))))))) w__law_brief)
theorem ok__law_form_value (T : Tx P K mg) : Fn P w K mg base "_law_form_value" 4 ph__law_form_value := by
  obtain ⟨f, fd, hm, F⟩ := T.g__law_form_value
  exact Fn.mk1 hm F.kp (FunD.bindsN F fun _ _ _ _ _ _ us hl => match us, hl with | [_, _], _ => rfl) (fn_P (v := v__law_form_value) F sc__law_form_value l__law_form_value (fun cdv A outer s H E hr =>
    (jss_cons (js_asg (jv 0) (jg_tup rfl (jgs_cons (jg_name (i := 2) sc__law_form_value.nd rfl (Or.inl rfl)) (jgs_cons (jg_name (i := 3) sc__law_form_value.nd rfl (Or.inl rfl)) (jgs_cons (jg_name (i := 4) sc__law_form_value.nd rfl (Or.inl rfl)) jgs_nil)))))
      (jss_one (js_ret (je_if (jt_cmp (jo_eq hr.units) (jv 3) je_str (nomark _)) (jv 4) (je_fn (ok__law_plus T) (hr.mono (by decide)) (by rfl) (ja_cons (je_fn (ok__law_by T) (hr.mono (by decide)) (by rfl) (ja_cons (jv 2) (ja_cons (je_dget (hu1 hr.units) (jv 1) (jv 3) (fun _ _ => rfl)) ja_nil))) (ja_cons (jv 4) ja_nil)))))))) w__law_form_value)
theorem ok_is_kept (T : Tx P K mg) : Fn P w K mg base "is_kept" 5 ph_is_kept := by
  obtain ⟨f, fd, hm, F⟩ := T.g_is_kept
  exact Fn.mk1 hm F.kp (FunD.bindsN F fun _ _ _ _ _ _ us hl => match us, hl with | [_, _], _ => rfl) (fn_P (v := v_is_kept) F sc_is_kept l_is_kept (fun cdv A outer s H E hr =>
    (jss_one (js_ret (je_not (je_fn (ok_is_less T) (hr.mono (by decide)) (by rfl) (ja_cons (je_ix (jv 0) je_int (fun _ _ => rfl)) (ja_cons (je_fn (ok_sum_at T) (hr.mono (by decide)) (by rfl) (ja_cons (je_ix (jv 0) je_int (fun _ _ => rfl)) (ja_cons (jv 1) ja_nil))) ja_nil))))))) w_is_kept)
theorem ok__law_keeps (T : Tx P K mg) : Fn P w K mg base "_law_keeps" 5 ph__law_keeps := by
  obtain ⟨f, fd, hm, F⟩ := T.g__law_keeps
  exact Fn.mk1 hm F.kp (FunD.bindsN F fun _ _ _ _ _ _ us hl => match us, hl with | [_, _], _ => rfl) (fn_P (v := v__law_keeps) F sc__law_keeps l__law_keeps (fun cdv A outer s H E hr =>
    (jss_one (js_ret (je_not (je_fn (ok__law_under T) (hr.mono (by decide)) (by rfl) (ja_cons (je_ix (jv 0) je_int (fun _ _ => rfl)) (ja_cons (je_fn (ok__law_total T) (hr.mono (by decide)) (by rfl) (ja_cons (je_ix (jv 0) je_int (fun _ _ => rfl)) (ja_cons (jv 1) ja_nil))) ja_nil))))))) w__law_keeps)
theorem ok__law_check (T : Tx P K mg) : Fn P w K mg base "_law_check" 5 ph__law_check := by
  obtain ⟨f, fd, hm, F⟩ := T.g__law_check
  exact Fn.mk1 hm F.kp (FunD.bindsN F fun _ _ _ _ _ _ us hl => match us, hl with | [_, _], _ => rfl) (fn_0 (v := v__law_check) F sc__law_check l__law_check (fun cdv A outer s H E hr =>
    (jss_cons (js_set (i := 2) sc__law_check.nd rfl (Or.inl rfl) (je_fn (ok__law_brief T) (hr.mono (by decide)) (by rfl) (ja_cons (je_tup (ja_cons (je_fn (ok__law_terms T) (hr.mono (by decide)) (by rfl) (ja_cons (jv 0) (ja_cons (jv 1) (ja_cons je_int ja_nil)))) (ja_cons (je_fn (ok__law_any T) (hr.mono (by decide)) (by rfl) (ja_cons (jv 0) (ja_cons (je_lst (ja_cons (je_tup (ja_cons je_int (ja_cons je_int ja_nil))) (ja_cons (je_tup (ja_cons je_int (ja_cons je_int ja_nil))) (ja_cons (je_tup (ja_cons je_int (ja_cons je_int ja_nil))) (ja_cons (je_tup (ja_cons (je_un jo_neg je_int) (ja_cons je_int ja_nil))) (ja_cons (je_tup (ja_cons je_int (ja_cons je_int ja_nil))) ja_nil)))))) ja_nil))) ja_nil))) ja_nil)))
      (jss_cons (js_set (i := 3) sc__law_check.nd rfl (Or.inl rfl) (je_tup (ja_cons (je_callTy jo_tuple (by rfl) T.f_tuple (by decide +kernel) (ja_cons (je_lc (own := [("_law_name", 4), ("_law_rate_here", 5)]) (vs := [4, 5]) rfl (by decide) rfl sc__law_check.nd (jf_seq (je_ix (jv 2) je_int (fun _ _ => rfl))) (blkOk_by (own := [("_law_name", 4), ("_law_rate_here", 5)]) (N := N__law_check) (sc := defScope sT__law_check) (by decide +kernel)) (fun _ => (jg_tup rfl (jgs_cons (jg_name (i := 4) sc__law_check.nd rfl (Or.inl rfl)) (jgs_cons (jg_name (i := 5) sc__law_check.nd rfl (Or.inl rfl)) jgs_nil)))) (fun _ => jts_nil) (fun _ => (je_tup (ja_cons (jv 4) (ja_cons (je_fn (ok__law_minus T) (hr.mono (by decide)) (by rfl) (ja_cons (jv 5) ja_nil)) ja_nil))))) ja_nil)) (ja_cons (je_fn (ok__law_minus T) (hr.mono (by decide)) (by rfl) (ja_cons (je_ix (jv 2) je_int (fun _ _ => rfl)) ja_nil)) ja_nil))))
      (jss_one (js_ret (je_if (jt_cmp (jo_eq hr.units) (je_fn (ok__law_draw T) (hr.mono (by decide)) (by rfl) (ja_cons (jv 0) (ja_cons je_int ja_nil))) je_int (nomark _)) (je_tup (ja_cons (jv 2) (ja_cons (jv 3) ja_nil))) (je_tup (ja_cons (jv 2) ja_nil)))))))) w__law_check)
theorem okr_Runner_inner (T : Tx P K mg) (n : Nat) (ih : MtX P w K mg base "Runner" "run" (6 + 2 * n + 0) (ph_Runner_run n)) : MtX P w K mg base "Runner" "inner" (6 + 2 * n + 1) (ph_Runner_inner n) := by
  obtain ⟨Ca, f, fd, hm, c, M, F⟩ := T.g_Runner_inner
  exact MtX.mk1 hm c M (FunD.bindsN F fun _ _ _ _ _ _ us hl => match us, hl with | [_, _, _, _], _ => rfl) (fn_X (v := v_Runner_inner (ph_Runner_run n)) F sc_Runner_inner (l_Runner_inner n) (fun cdv A outer s H E hr =>
    (jss_cons (js_if (jt_cmp (jo_eq hr.units) (jv 1) je_str (nomark _)) (jss_one (js_ret (je_methX (takes_of rfl rfl rfl rfl) (ih) (hr.mono (by (try simp only [Nat.add_eq, Nat.mul_eq]); omega)) (jv 0) (ja_cons (je_if (jt_cmp (jo_eq hr.units) (je_ix (je_meth0 (ok_Runner_choice T) (hr.mono (by (try simp only [Nat.add_eq, Nat.mul_eq]); omega)) (jv 0)) je_int (fun _ _ => rfl)) je_int (nomark _)) (je_ix (jv 2) je_int (fun _ _ => rfl)) (je_ix (jv 2) je_int (fun _ _ => rfl))) (ja_cons (jv 3) ja_nil))))) jss_nil)
      (jss_cons (js_set (i := 4) sc_Runner_inner.nd rfl (Or.inl rfl) (jv 3))
      (jss_cons (js_for (passes_of rfl) rfl (jf_rng1 rfl T.f_range (ja_cons (je_ix (jv 2) je_int (fun _ _ => rfl)) ja_nil)) (jg_name (i := 5) sc_Runner_inner.nd rfl (Or.inl rfl))
      (jss_cons (js_set (i := 4) sc_Runner_inner.nd rfl (Or.inl rfl) (je_methX (takes_of rfl rfl rfl rfl) (ih) (hr.mono (by (try simp only [Nat.add_eq, Nat.mul_eq]); omega)) (jv 0) (ja_cons (je_ix (jv 2) je_int (fun _ _ => rfl)) (ja_cons (jv 4) ja_nil))))
      (jss_one (js_if (jt_cmp jo_is (jv 4) je_non (nomark _)) (jss_one (js_ret je_non)) jss_nil))))
      (jss_one (js_ret (jv 4))))))) (w_Runner_inner n))
theorem okm_Runner_run (T : Tx P K mg) : ∀ n : Nat, MtX P w K mg base "Runner" "run" (6 + 2 * n) (ph_Runner_run n)
  | 0 => by
    obtain ⟨Ca, f, fd, hm, c, M, F⟩ := T.g_Runner_run
    exact ⟨Ca, f, hm, c, M, fun _ _ _ _ _ _ _ _ _ _ _ ⟨_, _, _, _, _, _, _, _, z, _⟩ => (w_Runner_run_0 _ _ _ _ z).elim⟩
  | n + 1 => by
    obtain ⟨Ca, f, fd, hm, c, M, F⟩ := T.g_Runner_run
    have ih0 := okm_Runner_run T n
    have ih := okr_Runner_inner T n (ih0)
    exact MtX.mk1 hm c M (FunD.bindsN F fun _ _ _ _ _ _ us hl => match us, hl with | [_, _, _], _ => rfl) (fn_X (v := v_Runner_run (ph_Runner_inner n)) F sc_Runner_run (l_Runner_run _) (fun cdv A outer s H E hr =>
    (jss_cons (js_set (i := 3) sc_Runner_run.nd rfl (Or.inr rfl) (je_callTy jo_dictO (by rfl) T.f_dict (by decide +kernel) (ja_cons (jv 2) ja_nil)))
      (jss_cons (js_for (passes_of rfl) rfl (jf_seq (jv 1)) (jg_name (i := 4) sc_Runner_run.nd rfl (Or.inl rfl))
      (jss_cons (js_star rfl (jv 4) (pg_name (i := 5) sc_Runner_run.nd rfl (Or.inl rfl)) (pg_name (i := 6) sc_Runner_run.nd rfl (Or.inl rfl)))
      (jss_one (js_if (jt_cmp (jo_eq hr.units) (jv 5) je_str (nomark _)) (jss_cons (js_asg (je_lc (own := [("form", 10)]) (vs := [10]) rfl (by decide) rfl sc_Runner_run.nd (jf_seq (je_sl (jv 6) (jp_some je_int) jp_no)) (blkOk_by (own := [("form", 10)]) (N := N_Runner_run) (sc := defScope sT_Runner_run) (by decide +kernel)) (fun _ => (jg_name (i := 10) sc_Runner_run.nd rfl (Or.inl rfl))) (fun _ => jts_nil) (fun _ => (je_meth (ok_Runner_form_value T) (hr.mono (by (try simp only [Nat.add_eq, Nat.mul_eq]); omega)) (jv 0) (ja_cons (jv 10) (ja_cons (jv 3) ja_nil))))) (jg_unl rfl (jgs_cons (jg_name (i := 7) sc_Runner_run.nd rfl (Or.inl rfl)) (jgs_cons (jg_name (i := 8) sc_Runner_run.nd rfl (Or.inl rfl)) jgs_nil))))
      (jss_cons (js_if (jt_val (je_fn (ok_is_less T) (hr.mono (by (try simp only [Nat.add_eq, Nat.mul_eq]); omega)) (by rfl) (ja_cons (jv 8) (ja_cons (jv 7) ja_nil)))) (jss_one (js_ret je_non)) jss_nil)
      (jss_one (js_dput (hu1 hr.units) (je_fn (ok_add T) (hr.mono (by (try simp only [Nat.add_eq, Nat.mul_eq]); omega)) (by rfl) (ja_cons (jv 7) (ja_cons (je_fn (ok_multiply T) (hr.mono (by (try simp only [Nat.add_eq, Nat.mul_eq]); omega)) (by rfl) (ja_cons (je_meth0 (ok_Runner_share T) (hr.mono (by (try simp only [Nat.add_eq, Nat.mul_eq]); omega)) (jv 0)) (ja_cons (je_fn (ok_subtract T) (hr.mono (by (try simp only [Nat.add_eq, Nat.mul_eq]); omega)) (by rfl) (ja_cons (jv 8) (ja_cons (jv 7) ja_nil))) ja_nil))) ja_nil))) (jv 3) (je_ix (jv 6) je_int (fun _ _ => rfl)))))) (jss_one (js_if (jt_cmp (jo_eq hr.units) (jv 5) je_str (nomark _)) (jss_one (js_dput (hu1 hr.units) (je_meth0 (ok_Runner_choice T) (hr.mono (by (try simp only [Nat.add_eq, Nat.mul_eq]); omega)) (jv 0)) (jv 3) (je_ix (jv 6) je_int (fun _ _ => rfl)))) (jss_one (js_if (jt_cmp (jo_eq hr.units) (jv 5) je_str (nomark _)) (jss_one (js_if (jt_not (jt_val (je_callB (jo_all rfl) (by rfl) T.f_all (by decide +kernel) (ja_cons (je_lc (own := [("tie", 11)]) (vs := [11]) rfl (by decide) rfl sc_Runner_run.nd (jf_seq (je_ix (jv 6) je_int (fun _ _ => rfl))) (blkOk_by (own := [("tie", 11)]) (N := N_Runner_run) (sc := defScope sT_Runner_run) (by decide +kernel)) (fun _ => (jg_name (i := 11) sc_Runner_run.nd rfl (Or.inl rfl))) (fun _ => jts_nil) (fun _ => (je_fn (ok_is_kept T) (hr.mono (by (try simp only [Nat.add_eq, Nat.mul_eq]); omega)) (by rfl) (ja_cons (jv 11) (ja_cons (jv 3) ja_nil))))) ja_nil)))) (jss_one (js_ret je_non)) jss_nil)) (jss_cons (js_set (i := 9) sc_Runner_run.nd rfl (Or.inl rfl) (je_methX (takes_of rfl rfl rfl rfl) (ih) (hr.mono (by (try simp only [Nat.add_eq, Nat.mul_eq]); omega)) (jv 0) (ja_cons (jv 5) (ja_cons (jv 6) (ja_cons (jv 3) ja_nil)))))
      (jss_cons (js_if (jt_cmp jo_is (jv 9) je_non (nomark _)) (jss_one (js_ret je_non)) jss_nil)
      (jss_one (js_set (i := 3) sc_Runner_run.nd rfl (Or.inr rfl) (jv 9)))))))))))))
      (jss_one (js_ret (jv 3)))))) (w_Runner_run n))
theorem okm_Runner_inner (T : Tx P K mg) (n : Nat) : MtX P w K mg base "Runner" "inner" (6 + 2 * n + 1) (ph_Runner_inner n) := okr_Runner_inner T n (okm_Runner_run T n)
theorem ok__law_same (T : Tx P K mg) : ∀ n : Nat, Fn P w K mg base "_law_same" (n + 1) (ph__law_same n)
  | 0 => by
    obtain ⟨f, fd, hm, F⟩ := T.g__law_same
    have ih : Fn P w K mg base "_law_same" 0 (fun _ _ _ => False) := ⟨f, hm, F.kp, fun _ _ _ _ _ _ _ _ _ _ _ ⟨_, _, _, _, _, _, _, z, _⟩ => z.elim⟩
    exact Fn.mk1 hm F.kp (FunD.bindsN F fun _ _ _ _ _ _ us hl => match us, hl with | [_, _], _ => rfl) (fn_P (v := v__law_same (fun _ _ _ => False)) F sc__law_same (l__law_same _) (fun cdv A outer s H E hr =>
    (jss_cons (js_if (jt_cmp jo_is (jv 1) je_non (nomark _)) (jss_one (js_ret (je_cmp jo_is (jv 0) je_non (nomark _)))) jss_nil)
      (jss_cons (js_if (JW.jt (jw_or (jt_val (je_isi .bl (by decide) (by decide +kernel) (by rfl) T.f_isinstance (by rfl) T.f_bool (jv 1))) (jw_or1 (jt_val (je_isi .bl (by decide) (by decide +kernel) (by rfl) T.f_isinstance (by rfl) T.f_bool (jv 0)))))) (jss_one (js_ret (je_and (je_isi .bl (by decide) (by decide +kernel) (by rfl) T.f_isinstance (by rfl) T.f_bool (jv 1)) (je_and (je_isi .bl (by decide) (by decide +kernel) (by rfl) T.f_isinstance (by rfl) T.f_bool (jv 0)) (je_one (je_cmp (jo_eq hr.units) (jv 0) (jv 1) (nomark _))))))) jss_nil)
      (jss_cons (js_if (jt_val (je_isi2 .int .str (by decide) (by decide) (by decide +kernel) (by decide +kernel) (by rfl) T.f_isinstance (by rfl) T.f_int (by rfl) T.f_str (jv 1))) (jss_one (js_ret (je_and (je_isi2 .int .str (by decide) (by decide) (by decide +kernel) (by decide +kernel) (by rfl) T.f_isinstance (by rfl) T.f_int (by rfl) T.f_str (jv 0)) (je_and (je_cmp (jo_eq hr.units) (je_isi .int (by decide) (by decide +kernel) (by rfl) T.f_isinstance (by rfl) T.f_int (jv 0)) (je_isi .int (by decide) (by decide +kernel) (by rfl) T.f_isinstance (by rfl) T.f_int (jv 1)) (nomark _)) (je_one (je_cmp (jo_eq hr.units) (jv 0) (jv 1) (nomark _))))))) jss_nil)
      (jss_cons (js_if (jt_val (je_isi .dic (by decide) (by decide +kernel) (by rfl) T.f_isinstance (by rfl) T.f_dict (jv 1))) (jss_cons (js_if (JW.jt (jw_or (jt_not (jt_val (je_isi .dic (by decide) (by decide +kernel) (by rfl) T.f_isinstance (by rfl) T.f_dict (jv 0)))) (jw_or1 (jt_cmp (jo_ne hr.units) (je_callB jo_sortS (by rfl) T.f_sorted (by decide +kernel) (ja_cons (je_callTy (jo_listD rfl) (by rfl) T.f_list (by decide +kernel) (ja_cons (jv 0) ja_nil)) ja_nil)) (je_callB jo_sortS (by rfl) T.f_sorted (by decide +kernel) (ja_cons (je_callTy (jo_listD rfl) (by rfl) T.f_list (by decide +kernel) (ja_cons (jv 1) ja_nil)) ja_nil)) (nomark _))))) (jss_one (js_ret je_bl)) jss_nil)
      (jss_one (js_ret (je_callB (jo_all rfl) (by rfl) T.f_all (by decide +kernel) (ja_cons (je_lc (own := [("_law_key", 2)]) (vs := [2]) rfl (by decide) rfl sc__law_same.nd (jf_keys (jv 1)) (blkOk_by (own := [("_law_key", 2)]) (N := N__law_same) (sc := defScope sT__law_same) (by decide +kernel)) (fun _ => (jg_name (i := 2) sc__law_same.nd rfl (Or.inl rfl))) (fun _ => jts_nil) (fun _ => (je_fn (ih) (hr.mono (by omega)) (by rfl) (ja_cons (je_dget (hu1 hr.units) (jv 0) (jv 2) (fun _ _ => rfl)) (ja_cons (je_dget (hu1 hr.units) (jv 1) (jv 2) (fun _ _ => rfl)) ja_nil))))) ja_nil))))) jss_nil)
      (jss_cons (js_if (JW.jt (jw_or (jt_cmp (jo_ne hr.units) (je_isi .lst (by decide) (by decide +kernel) (by rfl) T.f_isinstance (by rfl) T.f_list (jv 1)) (je_isi .lst (by decide) (by decide +kernel) (by rfl) T.f_isinstance (by rfl) T.f_list (jv 0)) (nomark _)) (jw_or1 (jt_cmp (jo_ne hr.units) (je_isi .tup (by decide) (by decide +kernel) (by rfl) T.f_isinstance (by rfl) T.f_tuple (jv 1)) (je_isi .tup (by decide) (by decide +kernel) (by rfl) T.f_isinstance (by rfl) T.f_tuple (jv 0)) (nomark _))))) (jss_one (js_ret je_bl)) jss_nil)
      (jss_one (js_ret (je_and (je_cmp (jo_eq hr.units) (je_callB jo_len (by rfl) T.f_len (by decide +kernel) (ja_cons (jv 0) ja_nil)) (je_callB jo_len (by rfl) T.f_len (by decide +kernel) (ja_cons (jv 1) ja_nil)) (nomark _)) (je_one (je_callB (jo_all rfl) (by rfl) T.f_all (by decide +kernel) (ja_cons (je_lc (own := [("_law_one", 3), ("_law_two", 4)]) (vs := [3, 4]) rfl (by decide) rfl sc__law_same.nd (jf_zip (by rfl) T.f_zip (ja_cons (jv 0) (ja_cons (jv 1) ja_nil))) (blkOk_by (own := [("_law_one", 3), ("_law_two", 4)]) (N := N__law_same) (sc := defScope sT__law_same) (by decide +kernel)) (fun _ => (jg_tup rfl (jgs_cons (jg_name (i := 3) sc__law_same.nd rfl (Or.inl rfl)) (jgs_cons (jg_name (i := 4) sc__law_same.nd rfl (Or.inl rfl)) jgs_nil)))) (fun _ => jts_nil) (fun _ => (je_fn (ih) (hr.mono (by omega)) (by rfl) (ja_cons (jv 3) (ja_cons (jv 4) ja_nil))))) ja_nil)))))))))))) (w__law_same_0))
  | n + 1 => by
    obtain ⟨f, fd, hm, F⟩ := T.g__law_same
    have ih : Fn P w K mg base "_law_same" (n + 1) (ph__law_same n) := ok__law_same T n
    exact Fn.mk1 hm F.kp (FunD.bindsN F fun _ _ _ _ _ _ us hl => match us, hl with | [_, _], _ => rfl) (fn_P (v := v__law_same (ph__law_same n)) F sc__law_same (l__law_same _) (fun cdv A outer s H E hr =>
    (jss_cons (js_if (jt_cmp jo_is (jv 1) je_non (nomark _)) (jss_one (js_ret (je_cmp jo_is (jv 0) je_non (nomark _)))) jss_nil)
      (jss_cons (js_if (JW.jt (jw_or (jt_val (je_isi .bl (by decide) (by decide +kernel) (by rfl) T.f_isinstance (by rfl) T.f_bool (jv 1))) (jw_or1 (jt_val (je_isi .bl (by decide) (by decide +kernel) (by rfl) T.f_isinstance (by rfl) T.f_bool (jv 0)))))) (jss_one (js_ret (je_and (je_isi .bl (by decide) (by decide +kernel) (by rfl) T.f_isinstance (by rfl) T.f_bool (jv 1)) (je_and (je_isi .bl (by decide) (by decide +kernel) (by rfl) T.f_isinstance (by rfl) T.f_bool (jv 0)) (je_one (je_cmp (jo_eq hr.units) (jv 0) (jv 1) (nomark _))))))) jss_nil)
      (jss_cons (js_if (jt_val (je_isi2 .int .str (by decide) (by decide) (by decide +kernel) (by decide +kernel) (by rfl) T.f_isinstance (by rfl) T.f_int (by rfl) T.f_str (jv 1))) (jss_one (js_ret (je_and (je_isi2 .int .str (by decide) (by decide) (by decide +kernel) (by decide +kernel) (by rfl) T.f_isinstance (by rfl) T.f_int (by rfl) T.f_str (jv 0)) (je_and (je_cmp (jo_eq hr.units) (je_isi .int (by decide) (by decide +kernel) (by rfl) T.f_isinstance (by rfl) T.f_int (jv 0)) (je_isi .int (by decide) (by decide +kernel) (by rfl) T.f_isinstance (by rfl) T.f_int (jv 1)) (nomark _)) (je_one (je_cmp (jo_eq hr.units) (jv 0) (jv 1) (nomark _))))))) jss_nil)
      (jss_cons (js_if (jt_val (je_isi .dic (by decide) (by decide +kernel) (by rfl) T.f_isinstance (by rfl) T.f_dict (jv 1))) (jss_cons (js_if (JW.jt (jw_or (jt_not (jt_val (je_isi .dic (by decide) (by decide +kernel) (by rfl) T.f_isinstance (by rfl) T.f_dict (jv 0)))) (jw_or1 (jt_cmp (jo_ne hr.units) (je_callB jo_sortS (by rfl) T.f_sorted (by decide +kernel) (ja_cons (je_callTy (jo_listD rfl) (by rfl) T.f_list (by decide +kernel) (ja_cons (jv 0) ja_nil)) ja_nil)) (je_callB jo_sortS (by rfl) T.f_sorted (by decide +kernel) (ja_cons (je_callTy (jo_listD rfl) (by rfl) T.f_list (by decide +kernel) (ja_cons (jv 1) ja_nil)) ja_nil)) (nomark _))))) (jss_one (js_ret je_bl)) jss_nil)
      (jss_one (js_ret (je_callB (jo_all rfl) (by rfl) T.f_all (by decide +kernel) (ja_cons (je_lc (own := [("_law_key", 2)]) (vs := [2]) rfl (by decide) rfl sc__law_same.nd (jf_keys (jv 1)) (blkOk_by (own := [("_law_key", 2)]) (N := N__law_same) (sc := defScope sT__law_same) (by decide +kernel)) (fun _ => (jg_name (i := 2) sc__law_same.nd rfl (Or.inl rfl))) (fun _ => jts_nil) (fun _ => (je_fn (ih) (hr.mono (by omega)) (by rfl) (ja_cons (je_dget (hu1 hr.units) (jv 0) (jv 2) (fun _ _ => rfl)) (ja_cons (je_dget (hu1 hr.units) (jv 1) (jv 2) (fun _ _ => rfl)) ja_nil))))) ja_nil))))) jss_nil)
      (jss_cons (js_if (JW.jt (jw_or (jt_cmp (jo_ne hr.units) (je_isi .lst (by decide) (by decide +kernel) (by rfl) T.f_isinstance (by rfl) T.f_list (jv 1)) (je_isi .lst (by decide) (by decide +kernel) (by rfl) T.f_isinstance (by rfl) T.f_list (jv 0)) (nomark _)) (jw_or1 (jt_cmp (jo_ne hr.units) (je_isi .tup (by decide) (by decide +kernel) (by rfl) T.f_isinstance (by rfl) T.f_tuple (jv 1)) (je_isi .tup (by decide) (by decide +kernel) (by rfl) T.f_isinstance (by rfl) T.f_tuple (jv 0)) (nomark _))))) (jss_one (js_ret je_bl)) jss_nil)
      (jss_one (js_ret (je_and (je_cmp (jo_eq hr.units) (je_callB jo_len (by rfl) T.f_len (by decide +kernel) (ja_cons (jv 0) ja_nil)) (je_callB jo_len (by rfl) T.f_len (by decide +kernel) (ja_cons (jv 1) ja_nil)) (nomark _)) (je_one (je_callB (jo_all rfl) (by rfl) T.f_all (by decide +kernel) (ja_cons (je_lc (own := [("_law_one", 3), ("_law_two", 4)]) (vs := [3, 4]) rfl (by decide) rfl sc__law_same.nd (jf_zip (by rfl) T.f_zip (ja_cons (jv 0) (ja_cons (jv 1) ja_nil))) (blkOk_by (own := [("_law_one", 3), ("_law_two", 4)]) (N := N__law_same) (sc := defScope sT__law_same) (by decide +kernel)) (fun _ => (jg_tup rfl (jgs_cons (jg_name (i := 3) sc__law_same.nd rfl (Or.inl rfl)) (jgs_cons (jg_name (i := 4) sc__law_same.nd rfl (Or.inl rfl)) jgs_nil)))) (fun _ => jts_nil) (fun _ => (je_fn (ih) (hr.mono (by omega)) (by rfl) (ja_cons (jv 3) (ja_cons (jv 4) ja_nil))))) ja_nil)))))))))))) (w__law_same n))
theorem ok__law_program (T : Tx P K mg) : ∀ n : Nat, Fn P w K mg base "_law_program" (n + 6) (ph__law_program n)
  | 0 => by
    obtain ⟨f, fd, hm, F⟩ := T.g__law_program
    have ih : Fn P w K mg base "_law_program" 5 (fun _ _ _ => False) := ⟨f, hm, F.kp, fun _ _ _ _ _ _ _ _ _ _ _ ⟨_, _, _, _, _, _, _, z, _⟩ => z.elim⟩
    exact Fn.mk1 hm F.kp (FunD.bindsN F fun _ _ _ _ _ _ us hl => match us, hl with | [_, _, _, _], _ => rfl) (fn_0 (v := v__law_program (fun _ _ _ => False)) F sc__law_program (l__law_program _) (fun cdv A outer s H E hr =>
    (jss_cons (js_set (i := 4) sc__law_program.nd rfl (Or.inl rfl) (je_lstO ja_nil))
      (jss_cons (js_for PassesOwn.never rfl (jf_rng1 rfl T.f_range (ja_cons (je_fn (ok__law_draw T) (hr.mono (by omega)) (by rfl) (ja_cons (jv 0) (ja_cons (je_op jo_add (jv 3) je_int) ja_nil))) ja_nil)) (jg_name (i := 5) sc__law_program.nd rfl (Or.inl rfl))
      (jss_cons (js_set (i := 6) sc__law_program.nd rfl (Or.inl rfl) (je_fn (ok__law_draw T) (hr.mono (by omega)) (by rfl) (ja_cons (jv 0) (ja_cons (je_if (jt_cmp jo_gt (jv 2) je_int (nomark _)) je_int je_int) ja_nil))))
      (jss_one (js_if (jt_cmp jo_lt (jv 6) je_int (nomark _)) (jss_cons (js_set (i := 7) sc__law_program.nd rfl (Or.inl rfl) (je_fn (ok__law_form T) (hr.mono (by omega)) (by rfl) (ja_cons (jv 0) (ja_cons (jv 1) ja_nil))))
      (jss_cons (js_set (i := 8) sc__law_program.nd rfl (Or.inl rfl) (je_tup (ja_cons (je_ix (jv 7) je_int (fun _ _ => rfl)) (ja_cons (je_ix (jv 7) je_int (fun _ _ => rfl)) (ja_cons (je_fn (ok__law_plus T) (hr.mono (by omega)) (by rfl) (ja_cons (je_ix (jv 7) je_int (fun _ _ => rfl)) (ja_cons (je_fn (ok__law_any T) (hr.mono (by omega)) (by rfl) (ja_cons (jv 0) (ja_cons (je_lst (ja_cons (je_tup (ja_cons je_int (ja_cons je_int ja_nil))) (ja_cons (je_tup (ja_cons je_int (ja_cons je_int ja_nil))) (ja_cons (je_tup (ja_cons je_int (ja_cons je_int ja_nil))) (ja_cons (je_tup (ja_cons (je_un jo_neg je_int) (ja_cons je_int ja_nil))) ja_nil))))) ja_nil))) ja_nil))) ja_nil)))))
      (jss_one (js_expr (je_bm PySem.F.plainAttrs_list PySem.F.slot_list_append PySem.F.type_list_append jm_append (jv 4) (ja_cons (je_tup (ja_cons je_str (ja_cons (je_fn (ok__law_any T) (hr.mono (by omega)) (by rfl) (ja_cons (jv 0) (ja_cons (jv 1) ja_nil))) (ja_cons (jv 7) (ja_cons (je_if (jt_cmp jo_gt (je_fn (ok__law_draw T) (hr.mono (by omega)) (by rfl) (ja_cons (jv 0) (ja_cons je_int ja_nil))) je_int (nomark _)) (jv 8) (je_fn (ok__law_form T) (hr.mono (by omega)) (by rfl) (ja_cons (jv 0) (ja_cons (jv 1) ja_nil)))) ja_nil))))) ja_nil)))))) (jss_one (js_if (jt_cmp (jo_eq hr.units) (jv 6) je_int (nomark _)) (jss_one (js_expr (je_bm PySem.F.plainAttrs_list PySem.F.slot_list_append PySem.F.type_list_append jm_append (jv 4) (ja_cons (je_tup (ja_cons je_str (ja_cons (je_fn (ok__law_any T) (hr.mono (by omega)) (by rfl) (ja_cons (jv 0) (ja_cons (jv 1) ja_nil))) ja_nil))) ja_nil)))) (jss_one (js_if (jt_cmp (jo_eq hr.units) (jv 6) je_int (nomark _)) (jss_one (js_expr (je_bm PySem.F.plainAttrs_list PySem.F.slot_list_append PySem.F.type_list_append jm_append (jv 4) (ja_cons (je_tup (ja_cons je_str (ja_cons (je_fn (ok__law_check T) (hr.mono (by omega)) (by rfl) (ja_cons (jv 0) (ja_cons (jv 1) ja_nil))) ja_nil))) ja_nil)))) (jss_one (js_if (jt_cmp (jo_eq hr.units) (jv 6) je_int (nomark _)) (jss_one (js_expr (je_bm PySem.F.plainAttrs_list PySem.F.slot_list_append PySem.F.type_list_append jm_append (jv 4) (ja_cons (je_tup (ja_cons je_str (ja_cons (je_fn (ok__law_draw T) (hr.mono (by omega)) (by rfl) (ja_cons (jv 0) (ja_cons je_int ja_nil))) (ja_cons (je_fn (ih) (hr.mono (by omega)) (by rfl) (ja_cons (jv 0) (ja_cons (jv 1) (ja_cons (je_op jo_sub (jv 2) je_int) (ja_cons je_int ja_nil))))) ja_nil)))) ja_nil)))) (jss_one (js_expr (je_bm PySem.F.plainAttrs_list PySem.F.slot_list_append PySem.F.type_list_append jm_append (jv 4) (ja_cons (je_tup (ja_cons je_str (ja_cons (je_fn (ih) (hr.mono (by omega)) (by rfl) (ja_cons (jv 0) (ja_cons (jv 1) (ja_cons (je_op jo_sub (jv 2) je_int) (ja_cons je_int ja_nil))))) (ja_cons (je_fn (ih) (hr.mono (by omega)) (by rfl) (ja_cons (jv 0) (ja_cons (jv 1) (ja_cons (je_op jo_sub (jv 2) je_int) (ja_cons je_int ja_nil))))) ja_nil)))) ja_nil))))))))))))))
      (jss_one (js_ret (je_callTy jo_tuple (by rfl) T.f_tuple (by decide +kernel) (ja_cons (jv 4) ja_nil))))))) (w__law_program_0))
  | n + 1 => by
    obtain ⟨f, fd, hm, F⟩ := T.g__law_program
    have ih : Fn P w K mg base "_law_program" (n + 6) (ph__law_program n) := ok__law_program T n
    exact Fn.mk1 hm F.kp (FunD.bindsN F fun _ _ _ _ _ _ us hl => match us, hl with | [_, _, _, _], _ => rfl) (fn_0 (v := v__law_program (ph__law_program n)) F sc__law_program (l__law_program _) (fun cdv A outer s H E hr =>
    (jss_cons (js_set (i := 4) sc__law_program.nd rfl (Or.inl rfl) (je_lstO ja_nil))
      (jss_cons (js_for PassesOwn.never rfl (jf_rng1 rfl T.f_range (ja_cons (je_fn (ok__law_draw T) (hr.mono (by omega)) (by rfl) (ja_cons (jv 0) (ja_cons (je_op jo_add (jv 3) je_int) ja_nil))) ja_nil)) (jg_name (i := 5) sc__law_program.nd rfl (Or.inl rfl))
      (jss_cons (js_set (i := 6) sc__law_program.nd rfl (Or.inl rfl) (je_fn (ok__law_draw T) (hr.mono (by omega)) (by rfl) (ja_cons (jv 0) (ja_cons (je_if (jt_cmp jo_gt (jv 2) je_int (nomark _)) je_int je_int) ja_nil))))
      (jss_one (js_if (jt_cmp jo_lt (jv 6) je_int (nomark _)) (jss_cons (js_set (i := 7) sc__law_program.nd rfl (Or.inl rfl) (je_fn (ok__law_form T) (hr.mono (by omega)) (by rfl) (ja_cons (jv 0) (ja_cons (jv 1) ja_nil))))
      (jss_cons (js_set (i := 8) sc__law_program.nd rfl (Or.inl rfl) (je_tup (ja_cons (je_ix (jv 7) je_int (fun _ _ => rfl)) (ja_cons (je_ix (jv 7) je_int (fun _ _ => rfl)) (ja_cons (je_fn (ok__law_plus T) (hr.mono (by omega)) (by rfl) (ja_cons (je_ix (jv 7) je_int (fun _ _ => rfl)) (ja_cons (je_fn (ok__law_any T) (hr.mono (by omega)) (by rfl) (ja_cons (jv 0) (ja_cons (je_lst (ja_cons (je_tup (ja_cons je_int (ja_cons je_int ja_nil))) (ja_cons (je_tup (ja_cons je_int (ja_cons je_int ja_nil))) (ja_cons (je_tup (ja_cons je_int (ja_cons je_int ja_nil))) (ja_cons (je_tup (ja_cons (je_un jo_neg je_int) (ja_cons je_int ja_nil))) ja_nil))))) ja_nil))) ja_nil))) ja_nil)))))
      (jss_one (js_expr (je_bm PySem.F.plainAttrs_list PySem.F.slot_list_append PySem.F.type_list_append jm_append (jv 4) (ja_cons (je_tup (ja_cons je_str (ja_cons (je_fn (ok__law_any T) (hr.mono (by omega)) (by rfl) (ja_cons (jv 0) (ja_cons (jv 1) ja_nil))) (ja_cons (jv 7) (ja_cons (je_if (jt_cmp jo_gt (je_fn (ok__law_draw T) (hr.mono (by omega)) (by rfl) (ja_cons (jv 0) (ja_cons je_int ja_nil))) je_int (nomark _)) (jv 8) (je_fn (ok__law_form T) (hr.mono (by omega)) (by rfl) (ja_cons (jv 0) (ja_cons (jv 1) ja_nil)))) ja_nil))))) ja_nil)))))) (jss_one (js_if (jt_cmp (jo_eq hr.units) (jv 6) je_int (nomark _)) (jss_one (js_expr (je_bm PySem.F.plainAttrs_list PySem.F.slot_list_append PySem.F.type_list_append jm_append (jv 4) (ja_cons (je_tup (ja_cons je_str (ja_cons (je_fn (ok__law_any T) (hr.mono (by omega)) (by rfl) (ja_cons (jv 0) (ja_cons (jv 1) ja_nil))) ja_nil))) ja_nil)))) (jss_one (js_if (jt_cmp (jo_eq hr.units) (jv 6) je_int (nomark _)) (jss_one (js_expr (je_bm PySem.F.plainAttrs_list PySem.F.slot_list_append PySem.F.type_list_append jm_append (jv 4) (ja_cons (je_tup (ja_cons je_str (ja_cons (je_fn (ok__law_check T) (hr.mono (by omega)) (by rfl) (ja_cons (jv 0) (ja_cons (jv 1) ja_nil))) ja_nil))) ja_nil)))) (jss_one (js_if (jt_cmp (jo_eq hr.units) (jv 6) je_int (nomark _)) (jss_one (js_expr (je_bm PySem.F.plainAttrs_list PySem.F.slot_list_append PySem.F.type_list_append jm_append (jv 4) (ja_cons (je_tup (ja_cons je_str (ja_cons (je_fn (ok__law_draw T) (hr.mono (by omega)) (by rfl) (ja_cons (jv 0) (ja_cons je_int ja_nil))) (ja_cons (je_fn (ih) (hr.mono (by omega)) (by rfl) (ja_cons (jv 0) (ja_cons (jv 1) (ja_cons (je_op jo_sub (jv 2) je_int) (ja_cons je_int ja_nil))))) ja_nil)))) ja_nil)))) (jss_one (js_expr (je_bm PySem.F.plainAttrs_list PySem.F.slot_list_append PySem.F.type_list_append jm_append (jv 4) (ja_cons (je_tup (ja_cons je_str (ja_cons (je_fn (ih) (hr.mono (by omega)) (by rfl) (ja_cons (jv 0) (ja_cons (jv 1) (ja_cons (je_op jo_sub (jv 2) je_int) (ja_cons je_int ja_nil))))) (ja_cons (je_fn (ih) (hr.mono (by omega)) (by rfl) (ja_cons (jv 0) (ja_cons (jv 1) (ja_cons (je_op jo_sub (jv 2) je_int) (ja_cons je_int ja_nil))))) ja_nil)))) ja_nil))))))))))))))
      (jss_one (js_ret (je_callTy jo_tuple (by rfl) T.f_tuple (by decide +kernel) (ja_cons (jv 4) ja_nil))))))) (w__law_program n))
theorem ok__law_walk (T : Tx P K mg) : ∀ n : Nat, Fn P w K mg base "_law_walk" (n + 6) (ph__law_walk n)
  | 0 => by
    obtain ⟨f, fd, hm, F⟩ := T.g__law_walk
    have ih : Fn P w K mg base "_law_walk" 5 (fun _ _ _ => False) := ⟨f, hm, F.kp, fun _ _ _ _ _ _ _ _ _ _ _ ⟨_, _, _, _, _, _, _, z, _⟩ => z.elim⟩
    exact Fn.mk1 hm F.kp (FunD.bindsN F fun _ _ _ _ _ _ us hl => match us, hl with | [_, _, _], _ => rfl) (fn_0 (v := v__law_walk (fun _ _ _ => False)) F sc__law_walk (l__law_walk _) (fun cdv A outer s H E hr =>
    (jss_cons (js_set (i := 3) sc__law_walk.nd rfl (Or.inr rfl) (je_callTy jo_dictO (by rfl) T.f_dict (by decide +kernel) (ja_cons (jv 1) ja_nil)))
      (jss_cons (js_for PassesOwn.never rfl (jf_seq (jv 0)) (jg_name (i := 4) sc__law_walk.nd rfl (Or.inl rfl))
      (jss_one (js_if (jt_cmp (jo_eq hr.units) (je_ix (jv 4) je_int (fun _ _ => rfl)) je_str (nomark _)) (jss_cons (js_par (i := 5) (j := 6) (by rfl) sc__law_walk.nd rfl rfl (by decide) rfl rfl (ja_cons (je_fn (ok__law_form_value T) (hr.mono (by omega)) (by rfl) (ja_cons (je_ix (jv 4) je_int (fun _ _ => rfl)) (ja_cons (jv 3) ja_nil))) (ja_cons (je_fn (ok__law_form_value T) (hr.mono (by omega)) (by rfl) (ja_cons (je_ix (jv 4) je_int (fun _ _ => rfl)) (ja_cons (jv 3) ja_nil))) ja_nil)) (by rfl))
      (jss_cons (js_if (jt_val (je_fn (ok__law_under T) (hr.mono (by omega)) (by rfl) (ja_cons (jv 6) (ja_cons (jv 5) ja_nil)))) (jss_one (js_ret je_non)) jss_nil)
      (jss_cons (js_set (i := 7) sc__law_walk.nd rfl (Or.inl rfl) (je_if (jt_cmp (jo_ne hr.units) (jv 2) (je_lst ja_nil) (nomark _)) (je_bm PySem.F.plainAttrs_list PySem.F.slot_list_pop PySem.F.type_list_pop jm_pop (jv 2) (ja_cons je_int ja_nil)) (je_tup (ja_cons je_int (ja_cons je_int ja_nil)))))
      (jss_cons (js_set (i := 8) sc__law_walk.nd rfl (Or.inl rfl) (je_if (jt_cmp (jo_eq hr.units) (je_ix (jv 7) je_int (fun _ _ => rfl)) je_int (nomark _)) (je_tup (ja_cons je_int (ja_cons je_int ja_nil))) (je_fn (ok__law_low T) (hr.mono (by omega)) (by rfl) (ja_cons (je_ix (jv 7) je_int (fun _ _ => rfl)) (ja_cons (je_op jo_add (je_ix (jv 7) je_int (fun _ _ => rfl)) (je_callB jo_abs (by rfl) T.f_abs (by decide +kernel) (ja_cons (je_ix (jv 7) je_int (fun _ _ => rfl)) ja_nil))) ja_nil)))))
      (jss_one (js_dput (hu1 hr.units) (je_fn (ok__law_plus T) (hr.mono (by omega)) (by rfl) (ja_cons (jv 5) (ja_cons (je_fn (ok__law_by T) (hr.mono (by omega)) (by rfl) (ja_cons (jv 8) (ja_cons (je_fn (ok__law_plus T) (hr.mono (by omega)) (by rfl) (ja_cons (jv 6) (ja_cons (je_fn (ok__law_minus T) (hr.mono (by omega)) (by rfl) (ja_cons (jv 5) ja_nil)) ja_nil))) ja_nil))) ja_nil))) (jv 3) (je_ix (jv 4) je_int (fun _ _ => rfl)))))))) (jss_one (js_if (jt_cmp (jo_eq hr.units) (je_ix (jv 4) je_int (fun _ _ => rfl)) je_str (nomark _)) (jss_one (js_dput (hu1 hr.units) (je_if (jt_cmp (jo_ne hr.units) (jv 2) (je_lst ja_nil) (nomark _)) (je_bm PySem.F.plainAttrs_list PySem.F.slot_list_pop PySem.F.type_list_pop jm_pop (jv 2) (ja_cons je_int ja_nil)) (je_tup (ja_cons je_int (ja_cons je_int ja_nil)))) (jv 3) (je_ix (jv 4) je_int (fun _ _ => rfl)))) (jss_one (js_if (jt_cmp (jo_eq hr.units) (je_ix (jv 4) je_int (fun _ _ => rfl)) je_str (nomark _)) (jss_one (js_if (jt_not (jt_val (je_callB (jo_all rfl) (by rfl) T.f_all (by decide +kernel) (ja_cons (je_lc (own := [("_law_tie", 11)]) (vs := [11]) rfl (by decide) rfl sc__law_walk.nd (jf_seq (je_ix (jv 4) je_int (fun _ _ => rfl))) (blkOk_by (own := [("_law_tie", 11)]) (N := N__law_walk) (sc := defScope sT__law_walk) (by decide +kernel)) (fun _ => (jg_name (i := 11) sc__law_walk.nd rfl (Or.inl rfl))) (fun _ => jts_nil) (fun _ => (je_fn (ok__law_keeps T) (hr.mono (by omega)) (by rfl) (ja_cons (jv 11) (ja_cons (jv 3) ja_nil))))) ja_nil)))) (jss_one (js_ret je_non)) jss_nil)) (jss_one (js_if (jt_cmp (jo_eq hr.units) (je_ix (jv 4) je_int (fun _ _ => rfl)) je_str (nomark _)) (jss_cons (js_set (i := 9) sc__law_walk.nd rfl (Or.inl rfl) (je_if (jt_cmp (jo_ne hr.units) (jv 2) (je_lst ja_nil) (nomark _)) (je_bm PySem.F.plainAttrs_list PySem.F.slot_list_pop PySem.F.type_list_pop jm_pop (jv 2) (ja_cons je_int ja_nil)) (je_tup (ja_cons je_int (ja_cons je_int ja_nil)))))
      (jss_cons (js_set (i := 3) sc__law_walk.nd rfl (Or.inr rfl) (je_fn (ih) (hr.mono (by omega)) (by rfl) (ja_cons (je_if (jt_cmp (jo_eq hr.units) (je_ix (jv 9) je_int (fun _ _ => rfl)) je_int (nomark _)) (je_ix (jv 4) je_int (fun _ _ => rfl)) (je_ix (jv 4) je_int (fun _ _ => rfl))) (ja_cons (jv 3) (ja_cons (jv 2) ja_nil)))))
      (jss_one (js_if (jt_cmp jo_is (jv 3) je_non (nomark _)) (jss_one (js_ret je_non)) jss_nil)))) (jss_one (js_for PassesOwn.never rfl (jf_rng1 rfl T.f_range (ja_cons (je_ix (jv 4) je_int (fun _ _ => rfl)) ja_nil)) (jg_name (i := 10) sc__law_walk.nd rfl (Or.inl rfl))
      (jss_cons (js_set (i := 3) sc__law_walk.nd rfl (Or.inr rfl) (je_fn (ih) (hr.mono (by omega)) (by rfl) (ja_cons (je_ix (jv 4) je_int (fun _ _ => rfl)) (ja_cons (jv 3) (ja_cons (jv 2) ja_nil)))))
      (jss_one (js_if (jt_cmp jo_is (jv 3) je_non (nomark _)) (jss_one (js_ret je_non)) jss_nil))))))))))))))
      (jss_one (js_ret (jv 3)))))) (w__law_walk_0))
  | n + 1 => by
    obtain ⟨f, fd, hm, F⟩ := T.g__law_walk
    have ih : Fn P w K mg base "_law_walk" (n + 6) (ph__law_walk n) := ok__law_walk T n
    exact Fn.mk1 hm F.kp (FunD.bindsN F fun _ _ _ _ _ _ us hl => match us, hl with | [_, _, _], _ => rfl) (fn_0 (v := v__law_walk (ph__law_walk n)) F sc__law_walk (l__law_walk _) (fun cdv A outer s H E hr =>
    (jss_cons (js_set (i := 3) sc__law_walk.nd rfl (Or.inr rfl) (je_callTy jo_dictO (by rfl) T.f_dict (by decide +kernel) (ja_cons (jv 1) ja_nil)))
      (jss_cons (js_for PassesOwn.never rfl (jf_seq (jv 0)) (jg_name (i := 4) sc__law_walk.nd rfl (Or.inl rfl))
      (jss_one (js_if (jt_cmp (jo_eq hr.units) (je_ix (jv 4) je_int (fun _ _ => rfl)) je_str (nomark _)) (jss_cons (js_par (i := 5) (j := 6) (by rfl) sc__law_walk.nd rfl rfl (by decide) rfl rfl (ja_cons (je_fn (ok__law_form_value T) (hr.mono (by omega)) (by rfl) (ja_cons (je_ix (jv 4) je_int (fun _ _ => rfl)) (ja_cons (jv 3) ja_nil))) (ja_cons (je_fn (ok__law_form_value T) (hr.mono (by omega)) (by rfl) (ja_cons (je_ix (jv 4) je_int (fun _ _ => rfl)) (ja_cons (jv 3) ja_nil))) ja_nil)) (by rfl))
      (jss_cons (js_if (jt_val (je_fn (ok__law_under T) (hr.mono (by omega)) (by rfl) (ja_cons (jv 6) (ja_cons (jv 5) ja_nil)))) (jss_one (js_ret je_non)) jss_nil)
      (jss_cons (js_set (i := 7) sc__law_walk.nd rfl (Or.inl rfl) (je_if (jt_cmp (jo_ne hr.units) (jv 2) (je_lst ja_nil) (nomark _)) (je_bm PySem.F.plainAttrs_list PySem.F.slot_list_pop PySem.F.type_list_pop jm_pop (jv 2) (ja_cons je_int ja_nil)) (je_tup (ja_cons je_int (ja_cons je_int ja_nil)))))
      (jss_cons (js_set (i := 8) sc__law_walk.nd rfl (Or.inl rfl) (je_if (jt_cmp (jo_eq hr.units) (je_ix (jv 7) je_int (fun _ _ => rfl)) je_int (nomark _)) (je_tup (ja_cons je_int (ja_cons je_int ja_nil))) (je_fn (ok__law_low T) (hr.mono (by omega)) (by rfl) (ja_cons (je_ix (jv 7) je_int (fun _ _ => rfl)) (ja_cons (je_op jo_add (je_ix (jv 7) je_int (fun _ _ => rfl)) (je_callB jo_abs (by rfl) T.f_abs (by decide +kernel) (ja_cons (je_ix (jv 7) je_int (fun _ _ => rfl)) ja_nil))) ja_nil)))))
      (jss_one (js_dput (hu1 hr.units) (je_fn (ok__law_plus T) (hr.mono (by omega)) (by rfl) (ja_cons (jv 5) (ja_cons (je_fn (ok__law_by T) (hr.mono (by omega)) (by rfl) (ja_cons (jv 8) (ja_cons (je_fn (ok__law_plus T) (hr.mono (by omega)) (by rfl) (ja_cons (jv 6) (ja_cons (je_fn (ok__law_minus T) (hr.mono (by omega)) (by rfl) (ja_cons (jv 5) ja_nil)) ja_nil))) ja_nil))) ja_nil))) (jv 3) (je_ix (jv 4) je_int (fun _ _ => rfl)))))))) (jss_one (js_if (jt_cmp (jo_eq hr.units) (je_ix (jv 4) je_int (fun _ _ => rfl)) je_str (nomark _)) (jss_one (js_dput (hu1 hr.units) (je_if (jt_cmp (jo_ne hr.units) (jv 2) (je_lst ja_nil) (nomark _)) (je_bm PySem.F.plainAttrs_list PySem.F.slot_list_pop PySem.F.type_list_pop jm_pop (jv 2) (ja_cons je_int ja_nil)) (je_tup (ja_cons je_int (ja_cons je_int ja_nil)))) (jv 3) (je_ix (jv 4) je_int (fun _ _ => rfl)))) (jss_one (js_if (jt_cmp (jo_eq hr.units) (je_ix (jv 4) je_int (fun _ _ => rfl)) je_str (nomark _)) (jss_one (js_if (jt_not (jt_val (je_callB (jo_all rfl) (by rfl) T.f_all (by decide +kernel) (ja_cons (je_lc (own := [("_law_tie", 11)]) (vs := [11]) rfl (by decide) rfl sc__law_walk.nd (jf_seq (je_ix (jv 4) je_int (fun _ _ => rfl))) (blkOk_by (own := [("_law_tie", 11)]) (N := N__law_walk) (sc := defScope sT__law_walk) (by decide +kernel)) (fun _ => (jg_name (i := 11) sc__law_walk.nd rfl (Or.inl rfl))) (fun _ => jts_nil) (fun _ => (je_fn (ok__law_keeps T) (hr.mono (by omega)) (by rfl) (ja_cons (jv 11) (ja_cons (jv 3) ja_nil))))) ja_nil)))) (jss_one (js_ret je_non)) jss_nil)) (jss_one (js_if (jt_cmp (jo_eq hr.units) (je_ix (jv 4) je_int (fun _ _ => rfl)) je_str (nomark _)) (jss_cons (js_set (i := 9) sc__law_walk.nd rfl (Or.inl rfl) (je_if (jt_cmp (jo_ne hr.units) (jv 2) (je_lst ja_nil) (nomark _)) (je_bm PySem.F.plainAttrs_list PySem.F.slot_list_pop PySem.F.type_list_pop jm_pop (jv 2) (ja_cons je_int ja_nil)) (je_tup (ja_cons je_int (ja_cons je_int ja_nil)))))
      (jss_cons (js_set (i := 3) sc__law_walk.nd rfl (Or.inr rfl) (je_fn (ih) (hr.mono (by omega)) (by rfl) (ja_cons (je_if (jt_cmp (jo_eq hr.units) (je_ix (jv 9) je_int (fun _ _ => rfl)) je_int (nomark _)) (je_ix (jv 4) je_int (fun _ _ => rfl)) (je_ix (jv 4) je_int (fun _ _ => rfl))) (ja_cons (jv 3) (ja_cons (jv 2) ja_nil)))))
      (jss_one (js_if (jt_cmp jo_is (jv 3) je_non (nomark _)) (jss_one (js_ret je_non)) jss_nil)))) (jss_one (js_for PassesOwn.never rfl (jf_rng1 rfl T.f_range (ja_cons (je_ix (jv 4) je_int (fun _ _ => rfl)) ja_nil)) (jg_name (i := 10) sc__law_walk.nd rfl (Or.inl rfl))
      (jss_cons (js_set (i := 3) sc__law_walk.nd rfl (Or.inr rfl) (je_fn (ih) (hr.mono (by omega)) (by rfl) (ja_cons (je_ix (jv 4) je_int (fun _ _ => rfl)) (ja_cons (jv 3) (ja_cons (jv 2) ja_nil)))))
      (jss_one (js_if (jt_cmp jo_is (jv 3) je_non (nomark _)) (jss_one (js_ret je_non)) jss_nil))))))))))))))
      (jss_one (js_ret (jv 3)))))) (w__law_walk n))
theorem ok__law_run (T : Tx P K mg) : Fn P w K mg base "_law_run" 12 ph__law_run := by
  obtain ⟨f, fd, hm, F⟩ := T.g__law_run
  exact Fn.mk1 hm F.kp (FunD.bindsN F fun _ _ _ _ _ _ us hl => match us, hl with | [_, _, _], _ => rfl) (fn_0 (v := v__law_run) F sc__law_run l__law_run (fun cdv A outer s H E hr =>
    (jss_one (js_ret (je_fn (ok__law_walk T 5) (hr.mono (by decide)) (by rfl) (ja_cons (jv 0) (ja_cons (jv 1) (ja_cons (je_callTy jo_listO (by rfl) T.f_list (by decide +kernel) (ja_cons (jv 2) ja_nil)) ja_nil))))))) w__law_run)
theorem ok_run_program (T : Tx P K mg) : Fn P w K mg base "run_program" 19 ph_run_program := by
  obtain ⟨f, fd, hm, F⟩ := T.g_run_program
  exact ⟨f, hm, F.kp, fn_SP (ps := ["program", "values"]) (v := v_run_program) F sc_run_program l_run_program (fun _ _ _ _ _ _ us rest hl => match us, rest, hl with | [_, _], [], _ => rfl | [_, _], _ :: _, _ => rfl) (fun cdv A outer s H E hr =>
    (jss_one (js_ret (je_methX takes_none5 (okm_Runner_run T 5) (hr.mono (by decide)) (je_make (ok_Runner___init__ T) (hr.mono (by decide)) (by rfl) (ja_cons (jv 2) ja_nil)) (ja_cons (jv 0) (ja_cons (jv 1) ja_nil)))))) w_run_program⟩
theorem ok_law {f c Pt : Addr} {fd : FuncData} (T : Tx P K mg) (F : FnP K "law" sT_law f fd) (hc : fd.code = .ref c) (TB : LamX.TabB base mg c Pt) : FnOk P w K mg base CX0 20 f fd ["_law_script"] (SpLawT K Pt) :=
  fn_lawT (v := v_law) (q := lamQ "law") F sc_law hc (fun A outer s H E hr =>
    (jss_cons (js_set (i := 1) sc_law.nd rfl (Or.inr rfl) (je_fn (ok__law_feed T) (hr.mono (by decide)) (by rfl) (ja_cons (jv 0) ja_nil)))
      (jss_cons (js_for PassesOwn.never rfl (jf_rng1 rfl T.f_range (ja_cons je_int ja_nil)) (jg_name (i := 2) sc_law.nd rfl (Or.inl rfl))
      (jss_cons (js_set (i := 3) sc_law.nd rfl (Or.inl rfl) (je_fn (ok__law_words T) (hr.mono (by decide)) (by rfl) (ja_cons (jv 1) (ja_cons (je_op jo_add je_int (je_fn (ok__law_draw T) (hr.mono (by decide)) (by rfl) (ja_cons (jv 1) (ja_cons je_int ja_nil)))) ja_nil))))
      (jss_cons (js_asg (je_tup (ja_cons (je_fn (ok__law_program T 4) (hr.mono (by decide)) (by rfl) (ja_cons (jv 1) (ja_cons (jv 3) (ja_cons je_int (ja_cons je_int ja_nil))))) (ja_cons (je_fn (ok__law_point T) (hr.mono (by decide)) (by rfl) (ja_cons (jv 1) (ja_cons (jv 3) ja_nil))) ja_nil))) (jg_tup rfl (jgs_cons (jg_name (i := 4) sc_law.nd rfl (Or.inr rfl)) (jgs_cons (jg_name (i := 5) sc_law.nd rfl (Or.inr rfl)) jgs_nil))))
      (jss_cons (js_set (i := 6) sc_law.nd rfl (Or.inr rfl) (je_lc (own := [("_law_k", 18)]) (vs := [18]) rfl (by decide) rfl sc_law.nd (jf_rng1 rfl T.f_range (ja_cons je_int ja_nil)) (blkOk_by (own := [("_law_k", 18)]) (N := N_law) (sc := defScope sT_law) (by decide +kernel)) (fun _ => (jg_name (i := 18) sc_law.nd rfl (Or.inl rfl))) (fun _ => jts_nil) (fun _ => (je_fn (ok__law_any T) (hr.mono (by decide)) (by rfl) (ja_cons (jv 1) (ja_cons (je_lst (ja_cons (je_tup (ja_cons je_int (ja_cons je_int ja_nil))) (ja_cons (je_tup (ja_cons je_int (ja_cons je_int ja_nil))) (ja_cons (je_tup (ja_cons (je_un jo_neg je_int) (ja_cons je_int ja_nil))) (ja_cons (je_tup (ja_cons je_int (ja_cons je_int ja_nil))) (ja_cons (je_tup (ja_cons je_int (ja_cons je_int ja_nil))) (ja_cons (je_tup (ja_cons je_int (ja_cons je_int ja_nil))) ja_nil))))))) ja_nil))))))
      (jss_cons (js_asg (je_tup (ja_cons (je_callTy (jo_dict rfl) (by rfl) T.f_dict (by decide +kernel) (ja_cons (jv 5) ja_nil)) (ja_cons (je_ix (jv 6) je_int (fun _ _ => rfl)) (ja_cons (je_ix (jv 6) je_int (fun _ _ => rfl)) (ja_cons (je_ix (jv 6) je_int (fun _ _ => rfl)) ja_nil))))) (jg_tup rfl (jgs_cons (jg_name (i := 7) sc_law.nd rfl (Or.inl rfl)) (jgs_cons (jg_name (i := 8) sc_law.nd rfl (Or.inl rfl)) (jgs_cons (jg_name (i := 9) sc_law.nd rfl (Or.inl rfl)) (jgs_cons (jg_name (i := 10) sc_law.nd rfl (Or.inl rfl)) jgs_nil))))))
      (jss_cons (js_asg (je_sl (jv 6) (jp_some je_int) jp_no) (jg_unl rfl (jgs_cons (jg_name (i := 11) sc_law.nd rfl (Or.inl rfl)) (jgs_cons (jg_name (i := 12) sc_law.nd rfl (Or.inl rfl)) (jgs_cons (jg_name (i := 13) sc_law.nd rfl (Or.inl rfl)) jgs_nil)))))
      (jss_cons (js_set (i := 14) sc_law.nd rfl (Or.inl rfl) (je_lstO (ja_cons (je_fzW (je_fn (ok_run_program T) (hr.mono (by decide)) (by rfl) (ja_cons (jv 4) (ja_cons (jv 5) ja_nil)))) (ja_cons (je_fzW (je_fn (ok_run_program T) (hr.mono (by decide)) (by rfl) (ja_cons (jv 4) (ja_cons (jv 5) (ja_cons (jv 8) ja_nil))))) (ja_cons (je_fzW (je_fn (ok_run_program T) (hr.mono (by decide)) (by rfl) (ja_cons (jv 4) (ja_cons (jv 5) (ja_cons (jv 8) (ja_cons (jv 9) (ja_cons (jv 10) ja_nil))))))) ja_nil)))))
      (jss_cons (js_expr (je_bm PySem.F.plainAttrs_list PySem.F.slot_list_append PySem.F.type_list_append jm_append (jv 14) (ja_cons (je_fzW (je_fn (ok_run_program T) (hr.mono (by decide)) (by rfl) (ja_cons (jv 4) (ja_cons (jv 5) (ja_cons (jv 8) (ja_cons (jv 9) (ja_cons (jv 10) (ja_cons (jv 11) (ja_cons (jv 12) (ja_cons (jv 13) ja_nil)))))))))) ja_nil)))
      (jss_cons (js_setLc (i := 15) rfl (sw_true rfl rfl rfl (by decide +kernel)) rfl (own := [("_law_many", 19)]) (vs := [19]) rfl (by decide) rfl sc_law.nd (jf_seq (je_tup (ja_cons je_int (ja_cons je_int (ja_cons je_int (ja_cons je_int ja_nil)))))) (blkOk_by (own := [("_law_many", 19)]) (N := N_law) (sc := defScope sT_law) (by decide +kernel)) (fun _ => (jg_name (i := 19) sc_law.nd rfl (Or.inl rfl))) (fun _ => jts_nil) (fun _ => (je_fzW (je_fn (ok__law_run T) (hr.mono (by decide)) (by rfl) (ja_cons (jv 4) (ja_cons (jv 5) (ja_cons (je_sl (jv 6) jp_no (jp_some (jv 19))) ja_nil)))))))
      (jss_frz 14 (jss_cons (js_if (JW.jt (jw_or (jt_not (jt_val (je_fn (ok__law_same T 8) (hr.mono (by decide)) (by rfl) (ja_cons (jv 14) (ja_cons (jv 15) ja_nil))))) (jw_or1 (jt_cmp (jo_neK hr.units) (jv 5) (jv 7) (nomark _))))) (jss_one (js_ret je_bl)) jss_nil)
      (jss_one (js_for PassesOwn.never rfl (jf_seq (je_tup (ja_cons (je_tup ja_nil) (ja_cons (je_tup (ja_cons (je_tup (ja_cons je_str (ja_cons je_int (ja_cons (jv 4) ja_nil)))) ja_nil)) (ja_cons (jv 4) ja_nil))))) (jg_name (i := 16) sc_law.nd rfl (Or.inl rfl))
      (jss_cons (js_set (i := 17) sc_law.nd rfl (Or.inl rfl) (je_fn (ok_run_program T) (hr.mono (by decide)) (by rfl) (ja_cons (jv 16) (ja_cons (jv 5) (ja_cons (jv 8) (ja_cons (jv 9) (ja_cons (jv 10) ja_nil)))))))
      (jss_cons (js_if (jt_cmp jo_isnot (jv 17) je_non (nomark _)) (jss_one (js_expr (je_bm0D PySem.F.plainAttrs_dict PySem.F.slot_dict_clear PySem.F.type_dict_clear jm_clearD (jv 17)))) jss_nil)
      (jss_one (js_if (jt_cmp (jo_neK hr.units) (jv 5) (jv 7) (nomark _)) (jss_one (js_ret je_bl)) jss_nil)))))))))))))))))
      (jss_one (js_ret (je_fn (ok__law_same T 8) (hr.mono (by decide)) (by rfl) (ja_cons (je_fzW (je_fn (ok_run_program T) (hr.mono (by decide)) (by rfl) (ja_cons (je_tup (ja_cons (je_tup (ja_cons je_str (ja_cons je_str ja_nil))) (ja_cons (je_tup (ja_cons je_str (ja_cons je_str (ja_cons (je_tup (ja_cons (je_tup (ja_cons je_int (ja_cons je_int ja_nil))) (ja_cons je_str (ja_cons (je_tup (ja_cons je_int (ja_cons je_int ja_nil))) ja_nil)))) (ja_cons (je_tup (ja_cons (je_tup (ja_cons je_int (ja_cons je_int ja_nil))) (ja_cons je_str (ja_cons (je_tup (ja_cons je_int (ja_cons je_int ja_nil))) ja_nil)))) ja_nil))))) ja_nil))) (ja_cons (je_fz (je_disp2 je_str (je_tup (ja_cons je_int (ja_cons je_int ja_nil))) je_str (je_tup (ja_cons je_int (ja_cons je_int ja_nil))))) (ja_cons (je_tup (ja_cons je_int (ja_cons je_int ja_nil))) (ja_cons (je_tup (ja_cons je_int (ja_cons je_int ja_nil))) ja_nil)))))) (ja_cons (je_fz (je_disp2 je_str (je_tup (ja_cons je_int (ja_cons je_int ja_nil))) je_str (je_tup (ja_cons je_int (ja_cons je_int ja_nil))))) ja_nil)))))))) w_law
end
theorem facts {P : Program} {w : World} {K : PySem.W.Frag} {h : Heap} {mg : Str → Option Value} {f : Addr} (hP : P.main.file = fileN) (hsup : (P.main.scope.names.lookup ("super" : Str)).isSome = false) (X : K.In h) (G : h.Ns mainGlobals mg) (hfa : mg ("law" : Str) = some (.ref f)) (c : SaysY fas fns tbs xds sds fileN K) :
    ∃ fd : FuncData, (∀ (s : Shared) (v : Value), BindsTo s fd ⟨[v], []⟩ [("_law_script", v)]) ∧ ∀ c Pt : Addr, lawTab K = some (c, Pt) → ∀ base : Heap, LamX.TabB base mg c Pt → FnOk P w K mg base CX0 20 f fd ["_law_script"] (SpLawT K Pt) := by
  obtain ⟨fd_0, F_0⟩ := c.d.def_ 0 (d := d_divisor) rfl
  obtain ⟨fd_1, F_1⟩ := c.d.def_ 1 (d := d_lowest) rfl
  obtain ⟨fd_2, F_2⟩ := c.d.def_ 2 (d := d_add) rfl
  obtain ⟨fd_3, F_3⟩ := c.d.def_ 3 (d := d_negative) rfl
  obtain ⟨fd_4, F_4⟩ := c.d.def_ 4 (d := d_subtract) rfl
  obtain ⟨fd_5, F_5⟩ := c.d.def_ 5 (d := d_multiply) rfl
  obtain ⟨fd_6, F_6⟩ := c.d.def_ 6 (d := d_is_less) rfl
  obtain ⟨fd_7, F_7⟩ := c.d.def_ 7 (d := d_sum_at) rfl
  obtain ⟨fd_8, F_8⟩ := c.d.def_ 8 (d := d_is_kept) rfl
  obtain ⟨fd_9, F_9⟩ := c.d.def_ 9 (d := d_Runner___init__) rfl
  obtain ⟨fd_10, F_10⟩ := c.d.def_ 10 (d := d_Runner_choice) rfl
  obtain ⟨fd_11, F_11⟩ := c.d.def_ 11 (d := d_Runner_form_value) rfl
  obtain ⟨fd_12, F_12⟩ := c.d.def_ 12 (d := d_Runner_run) rfl
  obtain ⟨fd_13, F_13⟩ := c.d.def_ 13 (d := d_Runner_share) rfl
  obtain ⟨fd_14, F_14⟩ := c.d.def_ 14 (d := d_Runner_inner) rfl
  obtain ⟨fd_15, F_15⟩ := c.d.def_ 15 (d := d_run_program) rfl
  obtain ⟨fd_16, F_16⟩ := c.d.def_ 16 (d := d__law_feed) rfl
  obtain ⟨fd_17, F_17⟩ := c.d.def_ 17 (d := d__law_draw) rfl
  obtain ⟨fd_18, F_18⟩ := c.d.def_ 18 (d := d__law_any) rfl
  obtain ⟨fd_19, F_19⟩ := c.d.def_ 19 (d := d__law_same) rfl
  obtain ⟨fd_20, F_20⟩ := c.d.def_ 20 (d := d__law_gcd) rfl
  obtain ⟨fd_21, F_21⟩ := c.d.def_ 21 (d := d__law_low) rfl
  obtain ⟨fd_22, F_22⟩ := c.d.def_ 22 (d := d__law_plus) rfl
  obtain ⟨fd_23, F_23⟩ := c.d.def_ 23 (d := d__law_minus) rfl
  obtain ⟨fd_24, F_24⟩ := c.d.def_ 24 (d := d__law_by) rfl
  obtain ⟨fd_25, F_25⟩ := c.d.def_ 25 (d := d__law_under) rfl
  obtain ⟨fd_26, F_26⟩ := c.d.def_ 26 (d := d__law_rate) rfl
  obtain ⟨fd_27, F_27⟩ := c.d.def_ 27 (d := d__law_words) rfl
  obtain ⟨fd_28, F_28⟩ := c.d.def_ 28 (d := d__law_total) rfl
  obtain ⟨fd_29, F_29⟩ := c.d.def_ 29 (d := d__law_keeps) rfl
  obtain ⟨fd_30, F_30⟩ := c.d.def_ 30 (d := d__law_point) rfl
  obtain ⟨fd_31, F_31⟩ := c.d.def_ 31 (d := d__law_terms) rfl
  obtain ⟨fd_32, F_32⟩ := c.d.def_ 32 (d := d__law_brief) rfl
  obtain ⟨fd_33, F_33⟩ := c.d.def_ 33 (d := d__law_form) rfl
  obtain ⟨fd_34, F_34⟩ := c.d.def_ 34 (d := d__law_check) rfl
  obtain ⟨fd_35, F_35⟩ := c.d.def_ 35 (d := d__law_program) rfl
  obtain ⟨fd_36, F_36⟩ := c.d.def_ 36 (d := d__law_form_value) rfl
  obtain ⟨fd_37, F_37⟩ := c.d.def_ 37 (d := d__law_walk) rfl
  obtain ⟨fd_38, F_38⟩ := c.d.def_ 38 (d := d__law_run) rfl
  obtain ⟨fd_39, F_39⟩ := c.d.def_ 39 (d := d_law) rfl
  have T : Tx P K mg := ⟨He.free_ok X G (c.d.fact 40 (f := .free "abs") rfl), He.free_ok X G (c.d.fact 41 (f := .free "all") rfl), He.free_ok X G (c.d.fact 42 (f := .free "bool") rfl), He.free_ok X G (c.d.fact 43 (f := .free "dict") rfl), He.free_ok X G (c.d.fact 44 (f := .free "int") rfl), He.free_ok X G (c.d.fact 45 (f := .free "isinstance") rfl), He.free_ok X G (c.d.fact 46 (f := .free "len") rfl), He.free_ok X G (c.d.fact 47 (f := .free "list") rfl), He.free_ok X G (c.d.fact 48 (f := .free "range") rfl), He.free_ok X G (c.d.fact 49 (f := .free "set") rfl), He.free_ok X G (c.d.fact 50 (f := .free "sorted") rfl), He.free_ok X G (c.d.fact 51 (f := .free "str") rfl), He.free_ok X G (c.d.fact 52 (f := .free "tuple") rfl), He.free_ok X G (c.d.fact 53 (f := .free "zip") rfl), tupT_ok X G (c.tab 0 (t := tupT "ZERO" [0, 1]) rfl), hsup, ⟨_, He.glo_ok X G (c.d.fact 54 (f := .glo "Runner") rfl), He.cls_ok (c.d.fact 55 (f := .cls "Runner") rfl), List.forall_mem_cons.mpr ⟨He.noat_ok (c.d.fact 56 (f := .noat "Runner" "left") rfl), fun _ hz => nomatch hz⟩⟩, ⟨_, _, He.glo_ok X G (c.d.fact 0 (f := .glo "divisor") rfl), F_0⟩, ⟨_, _, He.glo_ok X G (c.d.fact 1 (f := .glo "lowest") rfl), F_1⟩, ⟨_, _, He.glo_ok X G (c.d.fact 2 (f := .glo "add") rfl), F_2⟩, ⟨_, _, He.glo_ok X G (c.d.fact 3 (f := .glo "negative") rfl), F_3⟩, ⟨_, _, He.glo_ok X G (c.d.fact 4 (f := .glo "subtract") rfl), F_4⟩, ⟨_, _, He.glo_ok X G (c.d.fact 5 (f := .glo "multiply") rfl), F_5⟩, ⟨_, _, He.glo_ok X G (c.d.fact 6 (f := .glo "is_less") rfl), F_6⟩, ⟨_, _, He.glo_ok X G (c.d.fact 7 (f := .glo "sum_at") rfl), F_7⟩, ⟨_, _, He.glo_ok X G (c.d.fact 8 (f := .glo "is_kept") rfl), F_8⟩, ⟨_, _, _, He.glo_ok X G (c.d.fact 9 (f := .glo "Runner") rfl), He.mkr_ok (c.d.fact 57 (f := .mkr "Runner") rfl), F_9⟩, ⟨_, _, _, He.glo_ok X G (c.d.fact 10 (f := .glo "Runner") rfl), He.cls_ok (c.d.fact 55 (f := .cls "Runner") rfl), He.meth_ok (c.d.fact 58 (f := .meth "Runner" "choice") rfl), F_10⟩, ⟨_, _, _, He.glo_ok X G (c.d.fact 11 (f := .glo "Runner") rfl), He.cls_ok (c.d.fact 55 (f := .cls "Runner") rfl), He.meth_ok (c.d.fact 59 (f := .meth "Runner" "form_value") rfl), F_11⟩, ⟨_, _, _, He.glo_ok X G (c.d.fact 12 (f := .glo "Runner") rfl), He.cls_ok (c.d.fact 55 (f := .cls "Runner") rfl), He.meth_ok (c.d.fact 60 (f := .meth "Runner" "run") rfl), F_12⟩, ⟨_, _, _, He.glo_ok X G (c.d.fact 13 (f := .glo "Runner") rfl), He.cls_ok (c.d.fact 55 (f := .cls "Runner") rfl), He.meth_ok (c.d.fact 61 (f := .meth "Runner" "share") rfl), F_13⟩, ⟨_, _, _, He.glo_ok X G (c.d.fact 14 (f := .glo "Runner") rfl), He.cls_ok (c.d.fact 55 (f := .cls "Runner") rfl), He.meth_ok (c.d.fact 62 (f := .meth "Runner" "inner") rfl), F_14⟩, ⟨_, _, He.glo_ok X G (c.d.fact 15 (f := .glo "run_program") rfl), F_15⟩, ⟨_, _, He.glo_ok X G (c.d.fact 16 (f := .glo "_law_feed") rfl), F_16⟩, ⟨_, _, He.glo_ok X G (c.d.fact 17 (f := .glo "_law_draw") rfl), F_17⟩, ⟨_, _, He.glo_ok X G (c.d.fact 18 (f := .glo "_law_any") rfl), F_18⟩, ⟨_, _, He.glo_ok X G (c.d.fact 19 (f := .glo "_law_same") rfl), F_19⟩, ⟨_, _, He.glo_ok X G (c.d.fact 20 (f := .glo "_law_gcd") rfl), F_20⟩, ⟨_, _, He.glo_ok X G (c.d.fact 21 (f := .glo "_law_low") rfl), F_21⟩, ⟨_, _, He.glo_ok X G (c.d.fact 22 (f := .glo "_law_plus") rfl), F_22⟩, ⟨_, _, He.glo_ok X G (c.d.fact 23 (f := .glo "_law_minus") rfl), F_23⟩, ⟨_, _, He.glo_ok X G (c.d.fact 24 (f := .glo "_law_by") rfl), F_24⟩, ⟨_, _, He.glo_ok X G (c.d.fact 25 (f := .glo "_law_under") rfl), F_25⟩, ⟨_, _, He.glo_ok X G (c.d.fact 26 (f := .glo "_law_rate") rfl), F_26⟩, ⟨_, _, He.glo_ok X G (c.d.fact 27 (f := .glo "_law_words") rfl), F_27⟩, ⟨_, _, He.glo_ok X G (c.d.fact 28 (f := .glo "_law_total") rfl), F_28⟩, ⟨_, _, He.glo_ok X G (c.d.fact 29 (f := .glo "_law_keeps") rfl), F_29⟩, ⟨_, _, He.glo_ok X G (c.d.fact 30 (f := .glo "_law_point") rfl), F_30⟩, ⟨_, _, He.glo_ok X G (c.d.fact 31 (f := .glo "_law_terms") rfl), F_31⟩, ⟨_, _, He.glo_ok X G (c.d.fact 32 (f := .glo "_law_brief") rfl), F_32⟩, ⟨_, _, He.glo_ok X G (c.d.fact 33 (f := .glo "_law_form") rfl), F_33⟩, ⟨_, _, He.glo_ok X G (c.d.fact 34 (f := .glo "_law_check") rfl), F_34⟩, ⟨_, _, He.glo_ok X G (c.d.fact 35 (f := .glo "_law_program") rfl), F_35⟩, ⟨_, _, He.glo_ok X G (c.d.fact 36 (f := .glo "_law_form_value") rfl), F_36⟩, ⟨_, _, He.glo_ok X G (c.d.fact 37 (f := .glo "_law_walk") rfl), F_37⟩, ⟨_, _, He.glo_ok X G (c.d.fact 38 (f := .glo "_law_run") rfl), F_38⟩, ⟨_, _, He.glo_ok X G (c.d.fact 39 (f := .glo "law") rfl), F_39⟩⟩
  have e := hfa.symm.trans (He.glo_ok X G (c.d.fact 39 (f := .glo "law") rfl))
  cases e
  have b := FunD.bindsA (ps := ["_law_script"]) F_39 fun _ _ _ _ _ _ us hl => match us, hl with | [_], _ => rfl
  refine ⟨fd_39, fun s v => b s [v] rfl, fun c Pt hl base TB => ?_⟩
  have F' := F_39
  obtain ⟨oc, od, dV, kV, doc, pm, an, cdv, ct, osl, e1, lk, _⟩ := F'.ex
  exact ok_law T F_39 (lawTab_code hl lk) TB
end Ts
open PySem PySem.W PySem.Calls PyProof.Rows
set_option maxRecDepth 100000 in
set_option maxHeartbeats 0 in
theorem PySem.Challenge.cw_tiespan_k40_programs_run_holds : PySem.Challenge.rw_tiespan_k40_programs_run.Holds := by
  w_on; o_law
  refine HandSHeadRun.head_any (r := OpenLaw.row PySem.Challenge.rw_tiespan_k40_programs_run) (q := view (OpenLaw.row PySem.Challenge.rw_tiespan_k40_programs_run).prog [39]) (H := Ts.hkk) (ob := Ts.obb) (M := 2000) (loose := Ts.looseN) (d := HandSHeadRun.topDef (OpenLaw.row PySem.Challenge.rw_tiespan_k40_programs_run).prog 39) (kwd := []) Ts.ob_eq
    (by kernel_rfl) (fun s => by kernel_rfl) Ts.runEqW (by kernel_rfl) (by kernel_rfl) (by kernel_rfl) (by rfl) (by first | assumption | decide +kernel) (by decide +kernel) ⟨rfl, rfl, rfl, rfl, rfl, by decide +kernel⟩ ?hw ?hc
  case hw => w_witness2
  case hc =>
    refine Ts.walk_ofTB (l := PySem.Challenge.rw_tiespan_k40_programs_run) (n := 63) (k := 20) (x := "_law_script") rfl (by decide) (by kernel_rfl) ⟨rfl, by decide, by decide⟩ ?F
    intro w mg fa h Y G hmg0
    obtain ⟨K, c, Pt, KX, sx, hlt, hch, hno, hPt⟩ := Y
    have hmg : mg ("law" : PySem.Str) = some (.ref fa) := by
      have e : (HandSHeadRun.topDef (OpenLaw.row PySem.Challenge.rw_tiespan_k40_programs_run).prog 39).name = ("law" : PySem.Str) := by kernel_rfl
      rw [← e]
      exact hmg0
    obtain ⟨fd, hb, hF⟩ := Ts.facts (P := (PySem.Challenge.rw_tiespan_k40_programs_run).prog) (w := w) (by kernel_rfl) (by kernel_rfl) KX G hmg sx
    exact ⟨K, fd, c, Pt, Ts.SpLawT K Pt, KX, hPt, hno, PySem.W.codeHd_of_K KX hch, hb, fun H a ns hl hT hS => ⟨a, ns, rfl, hS, hT, hl, fun _ => rfl⟩, fun base _ _ TB => hF c Pt hlt base TB⟩

