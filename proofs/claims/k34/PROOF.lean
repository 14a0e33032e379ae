import PyProof.Rows.All
import Wide.All
import OpenK.AllK
import Wide.FinOn
import HandS.ForMost
import HandS.ForExc
import HandS.Wide
import HandS.WideBits
import HandS.IsInst
import HandS.Defaults
import HandS.EndBits
import HandS.Star
import HandS.Zip
import HandS.Flow
import HandS.Lambda
import HandS.HeadEnd
import HandS.NoneIn
import HandS.More
import HandS.Text
import HandS.Codes
import HandS.Style
import HandS.Deep
import HandS.SetFor
import HandS.SetTxt0
import KE.KSuperObj
import HandS.SortInts
import HandS.FStr
import HandS.RaiseMore
import HandS.Dict
import HandS.HeadHook2
import KE.LtData
import HandS.DictComp
import HandS.ExcInit
import HandS.ExcSuper
import KE.KExcSuper
import KE.KExcInit
import HandS.TryMany
import HandS.ExcField
import KE.KTryMore
import PyProof.Rows.News
import HandS.HotCalls
import HandS.EndTab
import KE.KNestM
import PyProof.ListStr
import PyProof.EnumMake
import PyProof.Draws
import KE.GoesMore
import KE.KDictPairs
import PyProof.DictUpdate
import PyProof.DictDisplay
import PyProof.Rows.SortShellAny
import HandS.ClsMeth
import HandS.Head0
import PyProof.CollectIter
import PyProof.WalksMore
import HandS.Finally
import PyProof.RulesMatchSeq
import PyProof.Rows.MatchSeqLen
import KE.KDflt
import PyProof.InstEq
import HandS.SortRule
import HandS.SetBool
import KE.KStateDown
import HandS.Head1
import HandS.Head2
import HandS.HeadHook1
import PySem.Challenge.RW_tiespan_k34_steps_return_what_they_are_m
set_option Elab.async false
set_option linter.all false
set_option maxRecDepth 100000
set_option maxHeartbeats 2000000
set_option maxHeartbeats 8000000
/-! Fractions in lowest terms, plain. -/
namespace Fr
/-- what lowest computes -/
def low (a b : Int) : Int × Int := let g : Int := (Int.gcd a b : Int); let p := if b < 0 then -g else g; (a.fdiv p, b.fdiv p)
theorem fdiv_of_mul {a p q : Int} (hp : p ≠ 0) (h : a = q * p) : a.fdiv p = q := by
  rw [h, Int.mul_fdiv_cancel q hp]
/-- a fraction: the denominator above 0, lowest terms -/
def Ok (f : Int × Int) : Prop := 0 < f.2 ∧ Int.gcd f.1 f.2 = 1
theorem low_spec {a b : Int} (hb : b ≠ 0) : ∃ p : Int, p ≠ 0 ∧ a = (low a b).1 * p ∧ b = (low a b).2 * p ∧ 0 < (low a b).2 ∧ Int.gcd (low a b).1 (low a b).2 = 1 ∧ p.natAbs = Int.gcd a b := by
  have hg : 0 < Int.gcd a b := Int.gcd_pos_of_ne_zero_right a hb
  obtain ⟨a', ha⟩ := Int.gcd_dvd_left (a := a) (b := b)
  obtain ⟨b', hb'⟩ := Int.gcd_dvd_right (a := a) (b := b)
  have hco : Int.gcd a' b' = 1 := by
    have h1 : Int.gcd (((Int.gcd a b : Nat) : Int) * a') (((Int.gcd a b : Nat) : Int) * b') = Int.gcd a b * Int.gcd a' b' := by
      rw [Int.gcd_mul_left, Int.natAbs_natCast]
    rw [← ha, ← hb'] at h1
    have h2 : Int.gcd a b * 1 = Int.gcd a b * Int.gcd a' b' := by rw [Nat.mul_one]; exact h1
    exact (Nat.eq_of_mul_eq_mul_left hg h2).symm
  generalize hG : ((Int.gcd a b : Nat) : Int) = g at ha hb'
  have hgp : 0 < g := by omega
  by_cases hn : b < 0
  · have e : low a b = (-a', -b') := by
      unfold low
      simp only [hG, if_pos hn]
      rw [fdiv_of_mul (q := -a') (by omega) (by rw [Int.neg_mul_neg, Int.mul_comm]; exact ha), fdiv_of_mul (q := -b') (by omega) (by rw [Int.neg_mul_neg, Int.mul_comm]; exact hb')]
    rw [e]
    refine ⟨-g, by omega, by show a = -a' * -g; rw [Int.neg_mul_neg, Int.mul_comm]; exact ha, by show b = -b' * -g; rw [Int.neg_mul_neg, Int.mul_comm]; exact hb', ?_, ?_, ?_⟩
    · show 0 < -b'
      have : ¬ 0 ≤ b' := fun z => by
        have := Int.mul_nonneg (Int.le_of_lt hgp) z
        omega
      omega
    · show Int.gcd (-a') (-b') = 1
      rw [Int.gcd_neg, Int.neg_gcd]; exact hco
    · rw [Int.natAbs_neg, ← hG]; simp
  · have e : low a b = (a', b') := by
      unfold low
      simp only [hG, if_neg hn]
      rw [fdiv_of_mul (q := a') (by omega) (by rw [Int.mul_comm]; exact ha), fdiv_of_mul (q := b') (by omega) (by rw [Int.mul_comm]; exact hb')]
    rw [e]
    refine ⟨g, by omega, by show a = a' * g; rw [Int.mul_comm]; exact ha, by show b = b' * g; rw [Int.mul_comm]; exact hb', ?_, hco, by rw [← hG]; simp⟩
    show 0 < b'
    have h0 : ¬ b' ≤ 0 := fun z => by
      have := Int.mul_nonneg (Int.le_of_lt hgp) (show 0 ≤ -b' by omega)
      rw [Int.mul_neg] at this
      omega
    omega
theorem low_ok {a b : Int} (hb : b ≠ 0) : Ok (low a b) := by
  obtain ⟨p, h1, h2, h3, h4, h5, _⟩ := low_spec (a := a) hb
  exact ⟨h4, h5⟩
theorem low_eq {a b : Int} (hb : b ≠ 0) : (low a b).1 * b = a * (low a b).2 := by
  obtain ⟨p, h1, h2, h3, _⟩ := low_spec (a := a) hb
  rw [show (low a b).1 * b = (low a b).1 * ((low a b).2 * p) by rw [← h3], show a * (low a b).2 = (low a b).1 * p * (low a b).2 by rw [← h2]]
  rw [Int.mul_assoc, Int.mul_comm p]
theorem low_abs {a b : Int} (hb : b ≠ 0) : (low a b).1.natAbs ≤ a.natAbs ∧ (low a b).2.natAbs ≤ b.natAbs := by
  obtain ⟨p, h1, h2, h3, _⟩ := low_spec (a := a) hb
  have hp : 0 < p.natAbs := by omega
  constructor
  · have : a.natAbs = (low a b).1.natAbs * p.natAbs := by rw [← Int.natAbs_mul, ← h2]
    rw [this]; exact Nat.le_mul_of_pos_right _ hp
  · have : b.natAbs = (low a b).2.natAbs * p.natAbs := by rw [← Int.natAbs_mul, ← h3]
    rw [this]; exact Nat.le_mul_of_pos_right _ hp
theorem dvd_co {a b d : Int} (h : Int.gcd a b = 1) (hd : b ∣ a * d) : b ∣ d := by
  have h1 : b.natAbs ∣ a.natAbs * d.natAbs := by rw [← Int.natAbs_mul]; exact Int.natAbs_dvd_natAbs.mpr hd
  have h2 : Nat.Coprime b.natAbs a.natAbs := by show Nat.gcd b.natAbs a.natAbs = 1; rw [Nat.gcd_comm]; exact h
  exact Int.natAbs_dvd_natAbs.mp (h2.dvd_of_dvd_mul_left h1)
/-- two fractions that are worth the same are one -/
theorem Ok.ext {f g : Int × Int} (hf : Ok f) (hg : Ok g) (h : f.1 * g.2 = g.1 * f.2) : f = g := by
  obtain ⟨a, b⟩ := f
  obtain ⟨c, d⟩ := g
  obtain ⟨h1, h2⟩ := hf
  obtain ⟨h3, h4⟩ := hg
  simp only at h1 h2 h3 h4 h
  have d1 : b ∣ d := by
    have : b ∣ a * d := ⟨c, by rw [h, Int.mul_comm]⟩
    exact dvd_co h2 this
  have d2 : d ∣ b := by
    have : d ∣ c * b := ⟨a, by rw [← h, Int.mul_comm]⟩
    exact dvd_co h4 this
  have e : b = d := Int.dvd_antisymm (by omega) (by omega) d1 d2
  subst e
  have : a = c := Int.eq_of_mul_eq_mul_right (by omega) h
  rw [this]
theorem low_unique {a b : Int} {f : Int × Int} (hb : b ≠ 0) (hf : Ok f) (h : f.1 * b = a * f.2) : low a b = f := by
  have h1 := low_ok (a := a) hb
  have h2 := low_eq (a := a) hb
  refine h1.ext hf ?_
  have : (low a b).1 * f.2 * b = f.1 * (low a b).2 * b := by
    rw [Int.mul_assoc, Int.mul_comm f.2, ← Int.mul_assoc, h2, Int.mul_assoc, Int.mul_comm (low a b).2, ← Int.mul_assoc, ← h, Int.mul_assoc, Int.mul_comm b, ← Int.mul_assoc]
  exact Int.eq_of_mul_eq_mul_right hb this
end Fr
/-! Ts: data, what stands for it in a frozen part of the heap, a memory of things that change, and a calculus over both. -/
namespace Ts
open PySem L2

/-- data -/
inductive D where
  | non | bl (b : Bool) | int (i : Int) | str (x : Str)
  | lst (ds : List D) | tup (ds : List D)
  /-- a tuple of which nothing more is known (a pair of zip, a star's) -/
  | pr (ds : List D)
  | dic (kvs : List (Key × D)) | dit (kvs : List (List Key × D))
  | obj (C : Str) (fs : List (Str × D))
  | feed
  | lat (a : Addr) (ds : List D)
  | ref (a : Addr)
  /-- an exception: where it stands, its dict, its fields -/
  | exn (a dd : Addr) (fs : List (Str × D))
  /-- a lambda of no parameters: its code object, the names of the frame that made it -/
  | clo (f c : Addr) (q : Str) (σ : List (Option V)) (sl : List (Option D))
  /-- a lambda that was kept: its function object, the names of the frame that made it -/
  | lmb (f : Addr) (o : Obj) (σ : List (Option V)) (sl : List (Option D))
  | oth (v : V)
/-- a thing that changes -/
inductive MO where
  | lst (ds : List D) | dic (kvs : List (Key × D)) | dit (kvs : List (List Key × D)) | ins (C : Str) (fs : List (Str × D))
  /-- a dict while it is walked -/
  | lck (kvs : List (Key × D))
  /-- the table of code objects of the name q -/
  | tab (q : Str)
  /-- a function object that was made by a lambda -/
  | fob (o : Obj)
/-- the memory: the things that change, by their addresses -/
abbrev Mem := Addr → Option MO
def mset (m : Mem) (a : Addr) (o : MO) : Mem := fun b => if b = a then some o else m b
def mdel (m : Mem) (a : Addr) : Mem := fun b => if b = a then none else m b
theorem mset_same {m : Mem} {a : Addr} {o : MO} : mset m a o a = some o := if_pos rfl
theorem mset_ne {m : Mem} {a b : Addr} {o : MO} (h : b ≠ a) : mset m a o b = m b := if_neg h
theorem mdel_same {m : Mem} {a : Addr} : mdel m a a = none := if_pos rfl
theorem mdel_ne {m : Mem} {a b : Addr} (h : b ≠ a) : mdel m a b = m b := if_neg h
theorem mset_mset {m : Mem} {a : Addr} {o u : MO} : mset (mset m a o) a u = mset m a u := by
  funext b; unfold mset; split <;> rfl
theorem mdel_mset {m : Mem} {a : Addr} {o : MO} (h : m a = none) : mdel (mset m a o) a = m := by
  funext b; unfold mdel mset; split
  · rename_i e; rw [e, h]
  · rfl
def MLe (m m' : Mem) : Prop := ∀ a o, m a = some o → m' a = some o
theorem MLe.refl (m : Mem) : MLe m m := fun _ _ h => h
theorem mle_new {m : Mem} {a : Addr} {o : MO} (h : m a = none) : MLe m (mset m a o) := fun b u e => by
  have : b ≠ a := fun z => by rw [z, h] at e; cases e
  rw [mset_ne this]; exact e
/-- an exception: its class by name, its attributes -/
structure XD where
  cls : Str
  fs : List (Str × D)

/-- what the law's feed is, whatever it holds: a list of four, its cells a list of ints -/
def feedP (cs : Addr) (a : Addr) (h : Heap) : Prop := ∃ (its : List Value) (n : Nat) (i j m : Int), h.get? a = some { cls := .type "list", data := .seq its.toArray n } ∧ Vals [.ref cs, .int i, .int j, .int m] its ∧ 0 ≤ i
def feedO (cs a : Addr) : HO := .ext (feedP cs a)

/-- a tuple that has no dict -/
def SqN (K : PySem.W.Frag) (F : Hp) (a : Addr) (xs : List V) : Prop := (∃ o : Obj, F a = some (.frz o (.tup xs)) ∧ o.dict = none) ∨
  ∃ (o : Obj) (its : Array Value) (n : Nat), K.lookup a = some o ∧ o.cls = .type "tuple" ∧ o.dict = none ∧ o.data = .seq its n ∧ its.size ≤ sizeLine ∧ Vals xs its.toList
theorem SqN.sqt {K : PySem.W.Frag} {F : Hp} {a : Addr} {xs : List V} (h : SqN K F a xs) : SqT K F a xs := by
  rcases h with ⟨o, h, _⟩ | ⟨o, its, n, h1, h2, _, h3, h4, h5⟩
  · exact .inl (.inr ⟨o, h⟩)
  · exact .inr ⟨o, its, n, h1, h2, h3, h4, h5⟩
/-- what is known of a function object that a lambda made -/
abbrev FunO (a : Addr) (o : Obj) : HO := .ext fun h => h.get? a = some o
def FobR (F : Hp) (o : Obj) : Prop := ∃ (fd : FuncData) (c : Addr), o.data = .func fd ∧ fd.code = .ref c ∧ F c = some (LamX.CodeO c fd.qualname) ∧ ∀ t, fd.defaults = .ref t → ∃ v, F t = some (.tup [v])
mutual
inductive Rp (K : PySem.W.Frag) (mg : Str → Option Value) (F : Hp) : V → D → Prop
  | non : Rp K mg F .non .non
  | bl (b : Bool) : Rp K mg F (.bl b) (.bl b)
  | int (i : Int) : Rp K mg F (.int i) (.int i)
  | str (x : Str) : Rp K mg F (.str x) (.str x)
  | lst {a : Addr} {xs : List V} {ds : List D} : F a = some (.lst xs) → RpL K mg F xs ds → Rp K mg F (.ref a) (.lst ds)
  | tup {a : Addr} {xs : List V} {ds : List D} : SqN K F a xs → RpL K mg F xs ds → Rp K mg F (.ref a) (.tup ds)
  | pr {a : Addr} {xs : List V} {ds : List D} : F a = some (.tup xs) → RpL K mg F xs ds → Rp K mg F (.ref a) (.pr ds)
  | dic {a : Addr} {o : Obj} {xs : List (Key × V)} {ds : List (Key × D)} : F a = some (.frz o (.dK xs)) → RpK K mg F xs ds → Rp K mg F (.ref a) (.dic ds)
  | dit {a : Addr} {xs : List (List Key × V)} {ds : List (List Key × D)} : F a = some (.dT xs) → RpK K mg F xs ds → Rp K mg F (.ref a) (.dit ds)
  | obj {a Ca dx : Addr} {C : Str} {xs : List (Str × V)} {ds : List (Str × D)} : mg C = some (.ref Ca) → F a = some (.ins Ca dx xs) → RpK K mg F xs ds → Rp K mg F (.ref a) (.obj C ds)
  | feed {a cs : Addr} {ns : List Int} : F a = some (feedO cs a) → SqL K F cs (ns.map V.int) → Rp K mg F (.ref a) .feed
  | lat {a : Addr} {xs : List V} {ds : List D} : SqL K F a xs → RpL K mg F xs ds → Rp K mg F (.ref a) (.lat a ds)
  | ref (a : Addr) : Rp K mg F (.ref a) (.ref a)
  | exn {a dd : Addr} {xs : List (Str × V)} {ds : List (Str × D)} : F dd = some (.xd xs) → RpK K mg F xs ds → Rp K mg F (.ref a) (.exn a dd ds)
  | clo {f c : Addr} {q : Str} {σ : List (Option V)} {sl : List (Option D)} : F c = some (LamX.CodeO c q) → RpS K mg F σ sl → Rp K mg F (.ref f) (.clo f c q σ sl)
  | lmb {f : Addr} {o : Obj} {σ : List (Option V)} {sl : List (Option D)} : F f = some (FunO f o) → FobR F o → RpS K mg F σ sl → Rp K mg F (.ref f) (.lmb f o σ sl)
  | oth (v : V) : Rp K mg F v (.oth v)
inductive RpL (K : PySem.W.Frag) (mg : Str → Option Value) (F : Hp) : List V → List D → Prop
  | nil : RpL K mg F [] []
  | cons {v : V} {vs : List V} {d : D} {ds : List D} : Rp K mg F v d → RpL K mg F vs ds → RpL K mg F (v :: vs) (d :: ds)
inductive RpS (K : PySem.W.Frag) (mg : Str → Option Value) (F : Hp) : List (Option V) → List (Option D) → Prop
  | nil : RpS K mg F [] []
  | no {o : Option V} {vs : List (Option V)} {ds : List (Option D)} : RpS K mg F vs ds → RpS K mg F (o :: vs) (none :: ds)
  | yes {v : V} {vs : List (Option V)} {d : D} {ds : List (Option D)} : Rp K mg F v d → RpS K mg F vs ds → RpS K mg F (some v :: vs) (some d :: ds)
inductive RpK (K : PySem.W.Frag) (mg : Str → Option Value) (F : Hp) : {κ : Type} → List (κ × V) → List (κ × D) → Prop
  | nil {κ : Type} : RpK K mg F (κ := κ) [] []
  | cons {κ : Type} {k : κ} {v : V} {vs : List (κ × V)} {d : D} {ds : List (κ × D)} : Rp K mg F v d → RpK K mg F vs ds → RpK K mg F ((k, v) :: vs) ((k, d) :: ds)
end

/-- more is frozen -/
def Gr (F F' : Hp) : Prop := ∀ a o, F a = some o → F' a = some o
theorem Gr.refl (F : Hp) : Gr F F := fun _ _ h => h
theorem Gr.trans {F F1 F2 : Hp} (a : Gr F F1) (b : Gr F1 F2) : Gr F F2 := fun x o h => b x o (a x o h)
theorem Gr.rd {F F' : Hp} (g : Gr F F') {a : Addr} {o : HO} (h : Rd F a o) : Rd F' a o := by
  rcases h with h | ⟨od, h⟩
  · exact .inl (g _ _ h)
  · exact .inr ⟨od, g _ _ h⟩
theorem Gr.sql {K : PySem.W.Frag} {F F' : Hp} (g : Gr F F') {a : Addr} {xs : List V} (h : SqL K F a xs) : SqL K F' a xs := h.imp g.rd id
theorem Gr.sqn {K : PySem.W.Frag} {F F' : Hp} (g : Gr F F') {a : Addr} {xs : List V} (h : SqN K F a xs) : SqN K F' a xs := h.imp (fun ⟨o, h, d⟩ => ⟨o, g _ _ h, d⟩) id
theorem Gr.sqt {K : PySem.W.Frag} {F F' : Hp} (g : Gr F F') {a : Addr} {xs : List V} (h : SqT K F a xs) : SqT K F' a xs := h.imp g.rd id

theorem FobR.mono {F F' : Hp} {o : Obj} (g : ∀ a u, F a = some u → F' a = some u) (h : FobR F o) : FobR F' o := by
  obtain ⟨fd, c, h1, h2, h3, h4⟩ := h
  exact ⟨fd, c, h1, h2, g _ _ h3, fun t e => let ⟨v, z⟩ := h4 t e; ⟨v, g _ _ z⟩⟩
section
variable {K : PySem.W.Frag} {mg : Str → Option Value} {F F' : Hp}
mutual
theorem Rp.mono (g : Gr F F') : ∀ {v : V} {d : D}, Rp K mg F v d → Rp K mg F' v d
  | _, _, .non => .non
  | _, _, .bl b => .bl b
  | _, _, .int i => .int i
  | _, _, .str x => .str x
  | _, _, .lst s r => .lst (g _ _ s) (RpL.mono g r)
  | _, _, .tup s r => .tup (g.sqn s) (RpL.mono g r)
  | _, _, .pr s r => .pr (g _ _ s) (RpL.mono g r)
  | _, _, .dic s r => .dic (g _ _ s) (RpK.mono g r)
  | _, _, .dit s r => .dit (g _ _ s) (RpK.mono g r)
  | _, _, .obj n s r => .obj n (g _ _ s) (RpK.mono g r)
  | _, _, .feed s r => .feed (g _ _ s) (g.sql r)
  | _, _, .lat s r => .lat (g.sql s) (RpL.mono g r)
  | _, _, .ref a => .ref a
  | _, _, .exn s r => .exn (g _ _ s) (RpK.mono g r)
  | _, _, .clo s r => .clo (g _ _ s) (RpS.mono g r)
  | _, _, .lmb s u r => .lmb (g _ _ s) (u.mono g) (RpS.mono g r)
  | _, _, .oth v => .oth v
theorem RpL.mono (g : Gr F F') : ∀ {v : List V} {d : List D}, RpL K mg F v d → RpL K mg F' v d
  | _, _, .nil => .nil
  | _, _, .cons r s => .cons (Rp.mono g r) (RpL.mono g s)
theorem RpS.mono (g : Gr F F') : ∀ {v : List (Option V)} {d : List (Option D)}, RpS K mg F v d → RpS K mg F' v d
  | _, _, .nil => .nil
  | _, _, .no s => .no (RpS.mono g s)
  | _, _, .yes r s => .yes (Rp.mono g r) (RpS.mono g s)
theorem RpK.mono (g : Gr F F') : ∀ {κ : Type} {v : List (κ × V)} {d : List (κ × D)}, RpK K mg F v d → RpK K mg F' v d
  | _, _, _, .nil => .nil
  | _, _, _, .cons r s => .cons (Rp.mono g r) (RpK.mono g s)
end
theorem RpS.len : ∀ {vs : List (Option V)} {ds : List (Option D)}, RpS K mg F vs ds → vs.length = ds.length
  | _, _, .nil => rfl
  | _, _, .no s => congrArg Nat.succ (RpS.len s)
  | _, _, .yes _ s => congrArg Nat.succ (RpS.len s)
theorem RpS.at : ∀ {vs : List (Option V)} {ds : List (Option D)} {i : Nat} {d : D}, RpS K mg F vs ds → ds[i]? = some (some d) → ∃ v, vs[i]? = some (some v) ∧ Rp K mg F v d
  | _, _, _, _, .nil, h => by simp at h
  | _, _, 0, _, .no _, h => by simp at h
  | _, _, 0, _, .yes r _, h => by simp at h; subst h; exact ⟨_, rfl, r⟩
  | _, _, i + 1, _, .no s, h => by
    obtain ⟨v, h1, h2⟩ := RpS.at (i := i) s (by simpa using h)
    exact ⟨v, by simpa using h1, h2⟩
  | _, _, i + 1, _, .yes _ s, h => by
    obtain ⟨v, h1, h2⟩ := RpS.at (i := i) s (by simpa using h)
    exact ⟨v, by simpa using h1, h2⟩
theorem RpS.of : ∀ {vs : List (Option V)} {ds : List (Option D)}, vs.length = ds.length → (∀ (i : Nat) d, ds[i]? = some (some d) → ∃ v, vs[i]? = some (some v) ∧ Rp K mg F v d) → RpS K mg F vs ds
  | [], [], _, _ => .nil
  | [], _ :: _, h, _ => by simp at h
  | _ :: _, [], h, _ => by simp at h
  | o :: vs, none :: ds, h, hi => .no (RpS.of (by simpa using h) fun i d e => by
    obtain ⟨v, h1, h2⟩ := hi (i + 1) d (by simpa using e)
    exact ⟨v, by simpa using h1, h2⟩)
  | o :: vs, some d :: ds, h, hi => by
    obtain ⟨v, h1, h2⟩ := hi 0 d (by simp)
    have h1 : o = some v := by simpa using h1
    subst h1
    exact .yes h2 (RpS.of (by simpa using h) fun i d e => by
      obtain ⟨v, h1, h2⟩ := hi (i + 1) d (by simpa using e)
      exact ⟨v, by simpa using h1, h2⟩)
theorem RpL.len : ∀ {vs : List V} {ds : List D}, RpL K mg F vs ds → vs.length = ds.length
  | _, _, .nil => rfl
  | _, _, .cons _ s => congrArg Nat.succ (RpL.len s)
theorem RpL.at : ∀ {vs : List V} {ds : List D} {i : Nat} {d : D}, RpL K mg F vs ds → ds[i]? = some d → ∃ v, vs[i]? = some v ∧ Rp K mg F v d
  | _, _, _, _, .nil, h => by simp at h
  | _, _, 0, _, .cons r _, h => by simp at h; subst h; exact ⟨_, rfl, r⟩
  | _, _, i + 1, _, .cons _ s, h => by
    obtain ⟨v, h1, h2⟩ := RpL.at (i := i) s (by simpa using h)
    exact ⟨v, by simpa using h1, h2⟩
theorem RpL.atV : ∀ {vs : List V} {ds : List D} {i : Nat} {v : V}, RpL K mg F vs ds → vs[i]? = some v → ∃ d, ds[i]? = some d ∧ Rp K mg F v d
  | _, _, _, _, .nil, h => by simp at h
  | _, _, 0, _, .cons r _, h => by simp at h; subst h; exact ⟨_, rfl, r⟩
  | _, _, i + 1, _, .cons _ s, h => by
    obtain ⟨v, h1, h2⟩ := RpL.atV (i := i) s (by simpa using h)
    exact ⟨v, by simpa using h1, h2⟩
theorem RpL.app : ∀ {vs ws : List V} {ds es : List D}, RpL K mg F vs ds → RpL K mg F ws es → RpL K mg F (vs ++ ws) (ds ++ es)
  | _, _, _, _, .nil, s => s
  | _, _, _, _, .cons r t, s => .cons r (RpL.app t s)
theorem RpL.drop : ∀ {vs : List V} {ds : List D} (n : Nat), RpL K mg F vs ds → RpL K mg F (vs.drop n) (ds.drop n)
  | _, _, 0, r => r
  | _, _, _ + 1, .nil => .nil
  | _, _, n + 1, .cons _ s => RpL.drop n s
theorem RpL.take : ∀ {vs : List V} {ds : List D} (n : Nat), RpL K mg F vs ds → RpL K mg F (vs.take n) (ds.take n)
  | _, _, 0, _ => .nil
  | _, _, _ + 1, .nil => .nil
  | _, _, n + 1, .cons r s => .cons r (RpL.take n s)
theorem RpL.set {v : V} {d : D} (r : Rp K mg F v d) : ∀ {vs : List V} {ds : List D} (i : Nat), RpL K mg F vs ds → RpL K mg F (vs.set i v) (ds.set i d)
  | _, _, _, .nil => .nil
  | _, _, 0, .cons _ s => .cons r s
  | _, _, i + 1, .cons q s => .cons q (RpL.set r i s)
theorem RpL.rev : ∀ {vs : List V} {ds : List D}, RpL K mg F vs ds → RpL K mg F vs.reverse ds.reverse
  | _, _, .nil => .nil
  | _, _, .cons r s => by rw [List.reverse_cons, List.reverse_cons]; exact (RpL.rev s).app (.cons r .nil)
theorem RpL.ints : ∀ ns : List Int, RpL K mg F (ns.map V.int) (ns.map D.int)
  | [] => .nil
  | n :: ns => .cons (.int n) (RpL.ints ns)
theorem RpL.strs : ∀ ns : List Str, RpL K mg F (ns.map V.str) (ns.map D.str)
  | [] => .nil
  | n :: ns => .cons (.str n) (RpL.strs ns)
theorem RpL.atI {vs : List V} {ds : List D} {i : Int} {d : D} (r : RpL K mg F vs ds) (h : L2.atI ds i = some d) : ∃ v, L2.atI vs i = some v ∧ Rp K mg F v d := by
  unfold L2.atI at h ⊢
  rw [r.len]
  cases e : ixN ds.length i with
  | none => rw [e] at h; cases h
  | some j =>
    rw [e] at h
    obtain ⟨v, h1, h2⟩ := r.at (i := j) h
    exact ⟨v, h1, h2⟩
theorem RpK.len : ∀ {κ : Type} {vs : List (κ × V)} {ds : List (κ × D)}, RpK K mg F vs ds → vs.length = ds.length
  | _, _, _, .nil => rfl
  | _, _, _, .cons _ s => congrArg Nat.succ (RpK.len s)
theorem RpK.keys : ∀ {κ : Type} {vs : List (κ × V)} {ds : List (κ × D)}, RpK K mg F vs ds → vs.map (·.1) = ds.map (·.1)
  | _, _, _, .nil => rfl
  | _, _, _, .cons _ s => by rw [List.map_cons, List.map_cons, RpK.keys s]
theorem RpK.lookup {κ : Type} [BEq κ] {k : κ} : ∀ {vs : List (κ × V)} {ds : List (κ × D)} {d : D}, RpK K mg F vs ds → ds.lookup k = some d → ∃ v, vs.lookup k = some v ∧ Rp K mg F v d
  | _, _, _, .nil, h => by cases h
  | _, _, d, .cons (k := k') (v := v) (d := d') r s, h => by
    simp only [List.lookup_cons] at h ⊢
    cases e : (k == k') with
    | true => rw [e] at h; cases h; exact ⟨v, rfl, r⟩
    | false => rw [e] at h; exact RpK.lookup s h
theorem RpK.lookupN {κ : Type} [BEq κ] {k : κ} : ∀ {vs : List (κ × V)} {ds : List (κ × D)}, RpK K mg F vs ds → ds.lookup k = none → vs.lookup k = none
  | _, _, .nil, _ => rfl
  | _, _, .cons (k := k') r s, h => by
    simp only [List.lookup_cons] at h ⊢
    cases e : (k == k') with
    | true => rw [e] at h; cases h
    | false => rw [e] at h; exact RpK.lookupN s h
end

/-- what is frozen stands (a dict may be locked while it is walked) -/
def isD : HO → Prop
  | .dK _ => True
  | .dT _ => True
  | _ => False
def Le (F H : Hp) : Prop := ∀ a o, F a = some o → H a = some o ∨ (isD o ∧ ∃ od, H a = some (.frz od o))
theorem Le.at {F H : Hp} (l : Le F H) {a : Addr} {o : HO} (h : F a = some o) (n : ¬ isD o) : H a = some o := (l _ _ h).elim id fun z => absurd z.1 n
theorem Le.rdl {F H : Hp} (l : Le F H) {a : Addr} {xs : List V} (h : Rd F a (.lst xs)) : Rd H a (.lst xs) := by
  rcases h with h | ⟨od, h⟩
  · exact .inl (l.at h id)
  · exact .inr ⟨od, l.at h id⟩
theorem Le.rdt {F H : Hp} (l : Le F H) {a : Addr} {xs : List V} (h : Rd F a (.tup xs)) : Rd H a (.tup xs) := by
  rcases h with h | ⟨od, h⟩
  · exact .inl (l.at h id)
  · exact .inr ⟨od, l.at h id⟩
theorem Le.lst {F H : Hp} (l : Le F H) {a : Addr} {xs : List V} (h : F a = some (.lst xs)) : H a = some (.lst xs) := l.at h id
theorem Le.ins {F H : Hp} (l : Le F H) {a C dx : Addr} {fs : List (Str × V)} (h : F a = some (.ins C dx fs)) : H a = some (.ins C dx fs) := l.at h id
theorem Le.ext {F H : Hp} (l : Le F H) {a : Addr} {p : Heap → Prop} (h : F a = some (.ext p)) : H a = some (.ext p) := l.at h id
theorem Le.some {F H : Hp} (l : Le F H) {a : Addr} {o : HO} (h : F a = some o) : H a ≠ none := by
  rcases l _ _ h with h | ⟨_, od, h⟩ <;> rw [h] <;> simp
theorem Le.none {F H : Hp} (l : Le F H) {a : Addr} (h : H a = none) : F a = none := by
  cases e : F a with
  | none => rfl
  | some o => exact absurd h (l.some e)
section
variable {K : PySem.W.Frag}
theorem Le.sql {F H : Hp} (l : Le F H) {a : Addr} {xs : List V} (h : SqL K F a xs) : SqL K H a xs := h.imp l.rdl id
theorem Le.sqt {F H : Hp} (l : Le F H) {a : Addr} {xs : List V} (h : SqT K F a xs) : SqT K H a xs := h.imp l.rdt id
end

/-- a step that changes nothing of what was tracked; what is newly frozen is new -/
structure Step (F H F' H' : Hp) : Prop where
  ex : ∀ a o, H a = some o → H' a = some o
  gr : Gr F F'
  le : Le F' H'
  nw : ∀ a o, F' a = some o → F a = some o ∨ H a = none
theorem Step.refl {F H : Hp} (l : Le F H) : Step F H F H := ⟨fun _ _ h => h, Gr.refl F, l, fun _ _ h => .inl h⟩
theorem Step.back {F H F' H' : Hp} (s : Step F H F' H') {a : Addr} (h : H' a = none) : H a = none := by
  cases e : H a with
  | none => rfl
  | some o => rw [s.ex _ _ e] at h; cases h
theorem Step.trans {F H F1 H1 F2 H2 : Hp} (s : Step F H F1 H1) (t : Step F1 H1 F2 H2) : Step F H F2 H2 :=
  ⟨fun a o h => t.ex a o (s.ex a o h), s.gr.trans t.gr, t.le, fun a o h => by
    rcases t.nw a o h with h | h
    · exact s.nw a o h
    · exact .inr (s.back h)⟩
theorem Step.ext {F H H' : Hp} (l : Le F H) (h : ∀ a o, H a = some o → H' a = some o) : Step F H F H' :=
  ⟨h, Gr.refl F, fun a o e => (l a o e).imp (h _ _) (fun ⟨x, od, y⟩ => ⟨x, od, h _ _ y⟩), fun _ _ h => .inl h⟩
/-- a new object is laid and frozen -/
theorem Step.new {F H : Hp} {p : Addr} {o : HO} (l : Le F H) (h : H p = none) : Step F H (upd F p o) (upd H p o) := by
  have fp := l.none h
  refine ⟨fun a u e => by rw [upd_ne (ne_of_none e h)]; exact e, fun a u e => by rw [upd_ne (ne_of_none e fp)]; exact e, fun a u e => ?_, fun a u e => ?_⟩
  · by_cases ha : a = p
    · subst ha; rw [upd_same] at e ⊢; exact .inl e
    · rw [upd_ne ha] at e ⊢
      exact l a u e
  · by_cases ha : a = p
    · subst ha; exact .inr h
    · rw [upd_ne ha] at e; exact .inl e
theorem gr_upd {F : Hp} {p : Addr} {o : HO} (hf : F p = none) : Gr F (upd F p o) := fun a u e => by rw [upd_ne (ne_of_none e hf)]; exact e

/-! ### the memory -/
def MoR (K : PySem.W.Frag) (mg : Str → Option Value) (F H : Hp) (a : Addr) : MO → Prop
  | .lst ds => ∃ xs, H a = some (.lst xs) ∧ RpL K mg F xs ds
  | .dic ds => ∃ xs, H a = some (.dK xs) ∧ RpK K mg F xs ds
  | .dit ds => ∃ xs, H a = some (.dT xs) ∧ RpK K mg F xs ds
  | .ins C ds => ∃ Ca dx xs, mg C = some (.ref Ca) ∧ H a = some (.ins Ca dx xs) ∧ RpK K mg F xs ds
  | .lck ds => ∃ o xs, H a = some (.frz o (.dK xs)) ∧ RpK K mg F xs ds
  | .tab q => ∃ ps : Array Value, H a = some (.tbl ps) ∧ TriplesOk ps.toList ∧ ∀ (pos : Pos) (cv : Value), codeAmong pos ps.toList = some cv → ∃ c, cv = .ref c ∧ F c = some (LamX.CodeO c q)
  | .fob o => H a = some (FunO a o) ∧ FobR F o
def MO.isL : MO → Bool
  | .lck _ => true
  | _ => false
def MO.isK : MO → Bool
  | .dic _ => true
  | _ => false
def MemR (K : PySem.W.Frag) (mg : Str → Option Value) (F H : Hp) (m : Mem) : Prop := ∀ a o, m a = some o → F a = none ∧ MoR K mg F H a o
section
variable {K : PySem.W.Frag} {mg : Str → Option Value} {F H F' H' : Hp} {m m' : Mem}
theorem MoR.there {a : Addr} {o : MO} (h : MoR K mg F H a o) : H a ≠ none := by
  cases o with
  | lst ds => obtain ⟨_, e, _⟩ := h; rw [e]; simp
  | dic ds => obtain ⟨_, e, _⟩ := h; rw [e]; simp
  | dit ds => obtain ⟨_, e, _⟩ := h; rw [e]; simp
  | ins C ds => obtain ⟨_, _, _, _, e, _⟩ := h; rw [e]; simp
  | lck ds => obtain ⟨_, _, e, _⟩ := h; rw [e]; simp
  | tab q => obtain ⟨_, e, _⟩ := h; rw [e]; simp
  | fob o => rw [h.1]; simp
theorem MoR.notz {a : Addr} {o : MO} (h : MoR K mg F H a o) (n : o.isL = false) (ob : Obj) (u : HO) : H a ≠ some (.frz ob u) := by
  cases o with
  | lst ds => obtain ⟨_, e, _⟩ := h; rw [e]; simp
  | dic ds => obtain ⟨_, e, _⟩ := h; rw [e]; simp
  | dit ds => obtain ⟨_, e, _⟩ := h; rw [e]; simp
  | ins C ds => obtain ⟨_, _, _, _, e, _⟩ := h; rw [e]; simp
  | lck ds => cases n
  | tab q => obtain ⟨_, e, _⟩ := h; rw [e]; simp
  | fob o => rw [h.1]; simp
theorem MoR.keep {a : Addr} {o : MO} (h : MoR K mg F H a o) (g : Gr F F') (e : ∀ u, H a = some u → H' a = some u) : MoR K mg F' H' a o := by
  cases o with
  | lst ds => obtain ⟨xs, q, r⟩ := h; exact ⟨xs, e _ q, r.mono g⟩
  | dic ds => obtain ⟨xs, q, r⟩ := h; exact ⟨xs, e _ q, r.mono g⟩
  | dit ds => obtain ⟨xs, q, r⟩ := h; exact ⟨xs, e _ q, r.mono g⟩
  | ins C ds => obtain ⟨Ca, dx, xs, z, q, r⟩ := h; exact ⟨Ca, dx, xs, z, e _ q, r.mono g⟩
  | lck ds => obtain ⟨o, xs, q, r⟩ := h; exact ⟨o, xs, e _ q, r.mono g⟩
  | tab q => obtain ⟨ps, h1, h2, h3⟩ := h; exact ⟨ps, e _ h1, h2, fun pos cv hc => let ⟨c, e1, e2⟩ := h3 pos cv hc; ⟨c, e1, g _ _ e2⟩⟩
  | fob o => exact ⟨e _ h.1, h.2.mono g⟩
theorem MemR.there (h : MemR K mg F H m) {a : Addr} {o : MO} (e : m a = some o) : H a ≠ none := (h a o e).2.there
theorem MemR.free (h : MemR K mg F H m) {a : Addr} (e : H a = none) : m a = none := by
  cases q : m a with
  | none => rfl
  | some o => exact absurd e (h.there q)
theorem MemR.sub (h : MemR K mg F H m) (s : MLe m' m) : MemR K mg F H m' := fun a o e => h a o (s a o e)
theorem MemR.step (h : MemR K mg F H m) (s : Step F H F' H') : MemR K mg F' H' m := fun a o e => by
  obtain ⟨h1, h2⟩ := h a o e
  refine ⟨?_, h2.keep s.gr fun u q => s.ex _ _ q⟩
  cases q : F' a with
  | none => rfl
  | some u =>
    rcases s.nw a u q with z | z
    · rw [h1] at z; cases z
    · exact absurd z h2.there
end
/-- a step that may change the memory -/
structure StM (K : PySem.W.Frag) (mg : Str → Option Value) (m : Mem) (F H F' H' : Hp) (m' : Mem) : Prop where
  ex : ∀ a o, H a = some o → m a = none → H' a = some o
  th : ∀ a, H a ≠ none → H' a ≠ none
  gr : Gr F F'
  le : Le F' H'
  mr : MemR K mg F' H' m'
  nw : ∀ a o, F' a = some o → F a = some o ∨ H a = none ∨ m a ≠ none
  nm : ∀ a, m' a ≠ none → m a ≠ none ∨ H a = none
  fz : ∀ a o u, H a = some (.frz o u) → H' a = some (.frz o u)
section
variable {K : PySem.W.Frag} {mg : Str → Option Value} {F H F1 H1 F2 H2 F' H' : Hp} {m m1 m2 m' : Mem}
theorem StM.refl (l : Le F H) (r : MemR K mg F H m) : StM K mg m F H F H m := ⟨fun _ _ h _ => h, fun _ h => h, Gr.refl F, l, r, fun _ _ h => .inl h, fun _ h => .inl h, fun _ _ _ h => h⟩
theorem StM.back (s : StM K mg m F H F' H' m') {a : Addr} (h : H' a = none) : H a = none := by
  cases e : H a with
  | none => rfl
  | some o => exact absurd h (s.th a (by rw [e]; simp))
theorem Step.stm (s : Step F H F' H') (r : MemR K mg F H m) : StM K mg m F H F' H' m :=
  ⟨fun a o h _ => s.ex a o h, fun a h z => h (s.back z), s.gr, s.le, r.step s, fun a o h => (s.nw a o h).imp id .inl, fun _ h => .inl h, fun a _ _ h => s.ex a _ h⟩
theorem StM.trans (s : StM K mg m F H F1 H1 m1) (t : StM K mg m1 F1 H1 F2 H2 m2) : StM K mg m F H F2 H2 m2 := by
  refine ⟨fun a o h n => t.ex a o (s.ex a o h n) ?_, fun a h => t.th a (s.th a h), s.gr.trans t.gr, t.le, t.mr, fun a o h => ?_, fun a h => ?_, fun a o u h => t.fz a o u (s.fz a o u h)⟩
  · cases q : m1 a with
    | none => rfl
    | some u =>
      rcases s.nm a (by rw [q]; simp) with z | z
      · exact absurd n z
      · rw [h] at z; cases z
  · rcases t.nw a o h with h | h | h
    · exact s.nw a o h
    · exact .inr (.inl (s.back h))
    · rcases s.nm a h with h | h
      · exact .inr (.inr h)
      · exact .inr (.inl h)
  · rcases t.nm a h with h | h
    · exact s.nm a h
    · exact .inr (s.back h)
theorem StM.sub (s : StM K mg m F H F' H' m1) (h : MLe m2 m1) : StM K mg m F H F' H' m2 :=
  ⟨s.ex, s.th, s.gr, s.le, s.mr.sub h, s.nw, fun a z => s.nm a fun e => z (by
    cases q : m2 a with
    | none => rfl
    | some o => rw [h a o q] at e; cases e), s.fz⟩
/-- a new object is laid: the memory has it -/
theorem StM.new {p : Addr} {o : HO} {u : MO} (l : Le F H) (r : MemR K mg F H m) (h : H p = none) (ho : MoR K mg F (upd H p o) p u) : StM K mg m F H F (upd H p o) (mset m p u) := by
  have ex : ∀ a v, H a = some v → upd H p o a = some v := fun a v e => by rw [upd_ne (ne_of_none e h)]; exact e
  have s : Step F H F (upd H p o) := Step.ext l ex
  refine ⟨fun a v e _ => ex a v e, fun a n z => n (s.back z), Gr.refl F, s.le, fun a v e => ?_, fun _ _ e => .inl e, fun a e => ?_, fun a _ _ e => ex a _ e⟩
  · by_cases ha : a = p
    · subst ha; rw [mset_same] at e; cases e; exact ⟨l.none h, ho⟩
    · rw [mset_ne ha] at e; exact r.step s a v e
  · by_cases ha : a = p
    · subst ha; exact .inr h
    · rw [mset_ne ha] at e; exact .inl e
/-- a thing of the memory is changed -/
theorem StM.put {p : Addr} {o : HO} {u v : MO} (l : Le F H) (r : MemR K mg F H m) (h : m p = some v) (hL : v.isL = false) (ho : MoR K mg F (upd H p o) p u) : StM K mg m F H F (upd H p o) (mset m p u) := by
  obtain ⟨fp, hv⟩ := r p v h
  refine ⟨fun a w e n => ?_, fun a n => ?_, Gr.refl F, fun a w e => ?_, fun a w e => ?_, fun _ _ e => .inl e, fun a e => ?_, fun a ob w e => ?_⟩
  · have : a ≠ p := fun z => by rw [z, h] at n; cases n
    rw [upd_ne this]; exact e
  · by_cases ha : a = p
    · subst ha; rw [upd_same]; simp
    · rw [upd_ne ha]; exact n
  · have : a ≠ p := fun z => by rw [z, fp] at e; cases e
    rw [upd_ne this]; exact l a w e
  · by_cases ha : a = p
    · subst ha; rw [mset_same] at e; cases e; exact ⟨fp, ho⟩
    · rw [mset_ne ha] at e
      obtain ⟨h1, h2⟩ := r a w e
      exact ⟨h1, h2.keep (Gr.refl F) fun u q => by rw [upd_ne ha]; exact q⟩
  · by_cases ha : a = p
    · subst ha; exact .inl (by rw [h]; simp)
    · rw [mset_ne ha] at e; exact .inl e
  · have : a ≠ p := fun z => by rw [z] at e; exact hv.notz hL ob w e
    rw [upd_ne this]; exact e
/-- a dict of the memory is locked for good -/
theorem StM.lock {p : Addr} {ds : List (Key × D)} (l : Le F H) (r : MemR K mg F H m) (h : m p = some (.dic ds)) : ∃ xs, H p = some (.dK xs) ∧ ∀ od, StM K mg m F H F (upd H p (.frz od (.dK xs))) (mset m p (.lck ds)) := by
  obtain ⟨fp, xs, e, rl⟩ := r p _ h
  exact ⟨xs, e, fun od => StM.put l r h rfl ⟨od, xs, upd_same, rl⟩⟩
/-- from now on nobody changes it -/
def MO.onF : MO → (D → Prop) → Prop
  | .lst ds, k => k (.lst ds)
  | .dic ds, k => k (.dic ds)
  | .dit ds, k => k (.dit ds)
  | .ins C fs, k => k (.obj C fs)
  | .lck ds, k => k (.dic ds)
  | .tab _, _ => False
  | .fob _, _ => False
theorem StM.frz {p : Addr} {u : MO} (l : Le F H) (r : MemR K mg F H m) (h : m p = some u) (hd : u.isK = false) {k : D → Prop} (hk : u.onF k) : ∃ F' d, StM K mg m F H F' H (mdel m p) ∧ Rp K mg F' (.ref p) d ∧ k d := by
  obtain ⟨fp, hv⟩ := r p u h
  have key : ∀ (o : HO) (d : D), (H p = some o ∨ (isD o ∧ ∃ od, H p = some (.frz od o))) → (Rp K mg (upd F p o) (.ref p) d) → k d → ∃ F' d, StM K mg m F H F' H (mdel m p) ∧ Rp K mg F' (.ref p) d ∧ k d := fun o d ho hr hd => by
    refine ⟨upd F p o, d, ⟨fun a w e _ => e, fun a n => n, gr_upd fp, fun a w e => ?_, fun a w e => ?_, fun a w e => ?_, fun a e => ?_, fun _ _ _ e => e⟩, hr, hd⟩
    · by_cases ha : a = p
      · subst ha; rw [upd_same] at e; cases e; exact ho
      · rw [upd_ne ha] at e; exact l a w e
    · have ha : a ≠ p := fun z => by rw [z, mdel_same] at e; cases e
      rw [mdel_ne ha] at e
      obtain ⟨h1, h2⟩ := r a w e
      exact ⟨by rw [upd_ne ha]; exact h1, h2.keep (gr_upd fp) fun _ q => q⟩
    · by_cases ha : a = p
      · subst ha; exact .inr (.inr (by rw [h]; simp))
      · rw [upd_ne ha] at e; exact .inl e
    · by_cases ha : a = p
      · subst ha; rw [mdel_same] at e; exact absurd rfl e
      · rw [mdel_ne ha] at e; exact .inl e
  cases u with
  | lst ds => obtain ⟨xs, e, rl⟩ := hv; exact key _ _ (.inl e) (.lst upd_same (rl.mono (gr_upd fp))) hk
  | dic ds => cases hd
  | dit ds => obtain ⟨xs, e, rl⟩ := hv; exact key _ _ (.inl e) (.dit upd_same (rl.mono (gr_upd fp))) hk
  | ins C ds => obtain ⟨Ca, dx, xs, z, e, rl⟩ := hv; exact key _ _ (.inl e) (.obj z upd_same (rl.mono (gr_upd fp))) hk
  | lck ds => obtain ⟨o, xs, e, rl⟩ := hv; exact key (.frz o (.dK xs)) _ (.inl e) (.dic upd_same (rl.mono (gr_upd fp))) hk
  | tab q => exact hk.elim
  | fob o => exact hk.elim
end

/-! ### the frame's names -/
abbrev SL := List (Option D)
structure EnvR (K : PySem.W.Frag) (mg : Str → Option Value) (F H : Hp) (σ : L2.St) (s : SL) (m : Mem) : Prop where
  len : σ.length = s.length
  val : ∀ (i : Nat) d, s[i]? = some (some d) → ∃ v, σ[i]? = some (some v) ∧ Rp K mg F v d
  mem : MemR K mg F H m
section
variable {K : PySem.W.Frag} {mg : Str → Option Value} {F H F' H' : Hp} {σ : L2.St} {s : SL} {m m' : Mem}
theorem EnvR.stm (e : EnvR K mg F H σ s m) (t : StM K mg m F H F' H' m') : EnvR K mg F' H' σ s m' := ⟨e.len, fun i d h => by
  obtain ⟨v, h1, h2⟩ := e.val i d h
  exact ⟨v, h1, h2.mono t.gr⟩, t.mr⟩
theorem set_cases {α : Type} {l : List α} {i j : Nat} {a b : α} (h : (l.set i a)[j]? = some b) : (j = i ∧ b = a ∧ i < l.length) ∨ (j ≠ i ∧ l[j]? = some b) := by
  rw [List.getElem?_set] at h
  split at h
  · rename_i e
    split at h
    · rename_i hl
      exact .inl ⟨e.symm, (Option.some.inj h).symm, hl⟩
    · cases h
  · rename_i e
    exact .inr ⟨fun z => e z.symm, h⟩
/-- a slot gets a value -/
theorem EnvR.set {i : Nat} {v : V} {d : D} (e : EnvR K mg F H σ s m) (r : Rp K mg F v d) : EnvR K mg F H (σ.set i (some v)) (s.set i (some d)) m := by
  refine ⟨by rw [List.length_set, List.length_set, e.len], fun j d' h => ?_, e.mem⟩
  rcases set_cases h with ⟨rfl, hb, hl⟩ | ⟨hj, hb⟩
  · cases hb
    exact ⟨v, by rw [List.getElem?_set_self (by rw [e.len]; exact hl)], r⟩
  · obtain ⟨w, h1, h2⟩ := e.val j d' hb
    exact ⟨w, by rw [List.getElem?_set_ne (fun z => hj z.symm)]; exact h1, h2⟩
/-- the data of a slot are told otherwise -/
theorem EnvR.told {i : Nat} {v : V} {d : D} (e : EnvR K mg F H σ s m) (h : σ[i]? = some (some v)) (r : Rp K mg F v d) : EnvR K mg F H σ (s.set i (some d)) m := by
  refine ⟨by rw [List.length_set, e.len], fun j d' h' => ?_, e.mem⟩
  rcases set_cases h' with ⟨rfl, hb, hl⟩ | ⟨hj, hb⟩
  · cases hb; exact ⟨v, h, r⟩
  · exact e.val j d' hb
/-- a slot is forgotten -/
theorem EnvR.drop {i : Nat} (e : EnvR K mg F H σ s m) : EnvR K mg F H (σ.set i none) (s.set i none) m := by
  refine ⟨by rw [List.length_set, List.length_set, e.len], fun j d' h => ?_, e.mem⟩
  rcases set_cases h with ⟨rfl, hb, hl⟩ | ⟨hj, hb⟩
  · cases hb
  · obtain ⟨w, h1, h2⟩ := e.val j d' hb
    exact ⟨w, by rw [List.getElem?_set_ne (fun z => hj z.symm)]; exact h1, h2⟩
def wipeD (s : SL) : List Nat → SL
  | [] => s
  | v :: vs => (wipeD s vs).set v none
theorem EnvR.wipe (e : EnvR K mg F H σ s m) : ∀ vs : List Nat, EnvR K mg F H (L2.wipe σ vs) (wipeD s vs) m
  | [] => e
  | v :: vs => (EnvR.wipe e vs).drop
end
end Ts
namespace Ts
open PySem L2
/-! ### what is wanted, over data and memory -/
abbrev KD := D → Mem → Prop
abbrev KX := XD → Mem → Prop
abbrev VE := SL → Mem → KD → KX → Prop
abbrev VA := SL → Mem → (List D → Mem → Prop) → KX → Prop
abbrev VT := SL → Mem → (Bool → Mem → Prop) → KX → Prop
abbrev VO := SL → Mem → (Option Int → Mem → Prop) → KX → Prop
/-- operators, calls by values: they raise nothing -/
abbrev O1 := D → Mem → KD → Prop
abbrev O2 := D → D → Mem → KD → Prop
abbrev OA := List D → Mem → KD → Prop
/-- an exception's data -/
def RpX (K : PySem.W.Frag) (mg : Str → Option Value) (F H : Hp) (cls : Value) (d : Option Addr) (e : XD) : Prop :=
  ∃ Ca dd xs, cls = .ref Ca ∧ mg e.cls = some (.ref Ca) ∧ d = some dd ∧ F dd = some (.xd xs) ∧ RpK K mg F xs e.fs
def XOk (K : PySem.W.Frag) (mg : Str → Option Value) (W : WX) (σ : L2.St) (F H : Hp) (m : Mem) (x : KX) : Prop :=
  ∀ cls dd e F' H' m', StM K mg m F H F' H' m' → RpX K mg F' H' cls dd e → x e m' → W cls dd σ H'
section
variable {K : PySem.W.Frag} {mg : Str → Option Value} {W : WX} {σ : L2.St} {F H F1 H1 : Hp} {m m1 : Mem} {x : KX}
theorem XOk.after (h : XOk K mg W σ F H m x) (s : StM K mg m F H F1 H1 m1) : XOk K mg W σ F1 H1 m1 x := fun cls dd e F' H' m' t r q => h cls dd e F' H' m' (s.trans t) r q
theorem XOk.no : XOk K mg W σ F H m (fun _ _ => False) := fun _ _ _ _ _ _ _ _ q => q.elim
end
def SndE (K : PySem.W.Frag) (mg : Str → Option Value) (W : WX) (te : TE) (ve : VE) : Prop := ∀ (σ : L2.St) (F H : Hp) (s : SL) (m : Mem) (k : KD) (x : KX), Le F H → EnvR K mg F H σ s m → ve s m k x → XOk K mg W σ F H m x → ∀ Q : VK,
  (∀ v d F' H' m', StM K mg m F H F' H' m' → Rp K mg F' v d → k d m' → Q v H') → te σ H Q
def SndT (K : PySem.W.Frag) (mg : Str → Option Value) (W : WX) (te : TT) (ve : VT) : Prop := ∀ (σ : L2.St) (F H : Hp) (s : SL) (m : Mem) (k : Bool → Mem → Prop) (x : KX), Le F H → EnvR K mg F H σ s m → ve s m k x → XOk K mg W σ F H m x → ∀ Q : Bool → Hp → Prop,
  (∀ b F' H' m', StM K mg m F H F' H' m' → k b m' → Q b H') → te σ H Q
def SndA (K : PySem.W.Frag) (mg : Str → Option Value) (W : WX) (te : TA) (ve : VA) : Prop := ∀ (σ : L2.St) (F H : Hp) (s : SL) (m : Mem) (k : List D → Mem → Prop) (x : KX), Le F H → EnvR K mg F H σ s m → ve s m k x → XOk K mg W σ F H m x → ∀ Q : List V → Hp → Prop,
  (∀ vs ds F' H' m', StM K mg m F H F' H' m' → RpL K mg F' vs ds → k ds m' → Q vs H') → te σ H Q
def SndP (K : PySem.W.Frag) (mg : Str → Option Value) (W : WX) (te : TO) (ve : VO) : Prop := ∀ (σ : L2.St) (F H : Hp) (s : SL) (m : Mem) (k : Option Int → Mem → Prop) (x : KX), Le F H → EnvR K mg F H σ s m → ve s m k x → XOk K mg W σ F H m x → ∀ Q : Option Int → Hp → Prop,
  (∀ b F' H' m', StM K mg m F H F' H' m' → k b m' → Q b H') → te σ H Q
def SndO2 (K : PySem.W.Frag) (mg : Str → Option Value) (r : R2) (o : O2) : Prop := ∀ (F H : Hp) (m : Mem) (x y : D) (u v : V) (k : KD), Le F H → MemR K mg F H m → Rp K mg F u x → Rp K mg F v y → o x y m k → ∀ Q : VK,
  (∀ w d F' H' m', StM K mg m F H F' H' m' → Rp K mg F' w d → k d m' → Q w H') → r u v H Q
def SndO1 (K : PySem.W.Frag) (mg : Str → Option Value) (r : V → Hp → VK → Prop) (o : O1) : Prop := ∀ (F H : Hp) (m : Mem) (x : D) (u : V) (k : KD), Le F H → MemR K mg F H m → Rp K mg F u x → o x m k → ∀ Q : VK,
  (∀ w d F' H' m', StM K mg m F H F' H' m' → Rp K mg F' w d → k d m' → Q w H') → r u H Q
def SndOA (K : PySem.W.Frag) (mg : Str → Option Value) (r : List V → Hp → VK → Prop) (o : OA) : Prop := ∀ (F H : Hp) (m : Mem) (xs : List D) (us : List V) (k : KD), Le F H → MemR K mg F H m → RpL K mg F us xs → o xs m k → ∀ Q : VK,
  (∀ w d F' H' m', StM K mg m F H F' H' m' → Rp K mg F' w d → k d m' → Q w H') → r us H Q
/-! ### the judgements -/
def JE (X : Cx) (W : WX) (e : Expr) (ve : VE) : Prop := ∃ te, PE X e te ∧ SndE X.K X.mg W te ve
def JT (X : Cx) (W : WX) (e : Expr) (ve : VT) : Prop := ∃ te, PT X e te ∧ SndT X.K X.mg W te ve
def JW (X : Cx) (W : WX) (e : Expr) (ve : VT) : Prop := ∃ te, PW X e te ∧ SndT X.K X.mg W te ve
def JA (X : Cx) (W : WX) (e : List Expr) (ve : VA) : Prop := ∃ te, PA X e te ∧ SndA X.K X.mg W te ve
def JP (X : Cx) (W : WX) (e : Option Expr) (ve : VO) : Prop := ∃ te, PO X e te ∧ SndP X.K X.mg W te ve
def JO2 (X : Cx) (f : Value → Value → Sem Value) (o : O2) : Prop := ∃ r, OpR X f r ∧ SndO2 X.K X.mg r o
def JO1 (X : Cx) (f : Value → Sem Value) (o : O1) : Prop := ∃ r, UnR X f r ∧ SndO1 X.K X.mg r o
def JOA (X : Cx) (f : Value) (o : OA) : Prop := ∃ r, CallR X f r ∧ SndOA X.K X.mg r o

/-! ### the forms -/
@[reducible] def vC (d : D) : VE := fun _ m k _ => k d m
def vGet : Option (Option D) → (D → Prop) → Prop
  | some (some d), k => k d
  | _, _ => False
@[reducible] def vVar (i : Nat) : VE := fun s m k _ => vGet s[i]? fun d => k d m
@[reducible] def vOp (o : O2) (a b : VE) : VE := fun s m k x => a s m (fun d m1 => b s m1 (fun e m2 => o d e m2 k) x) x
@[reducible] def vUn (o : O1) (a : VE) : VE := fun s m k x => a s m (fun d m1 => o d m1 k) x
@[reducible] def vNil : VA := fun _ m k _ => k [] m
@[reducible] def vCons (a : VE) (r : VA) : VA := fun s m k x => a s m (fun d m1 => r s m1 (fun ds m2 => k (d :: ds) m2) x) x
@[reducible] def vTup (a : VA) : VE := fun s m k x => a s m (fun ds m1 => ds.length ≤ 1000000 ∧ k (.tup ds) m1) x
@[reducible] def vLst (a : VA) : VE := fun s m k x => a s m (fun ds m1 => ds.length ≤ 1000000 ∧ k (.lst ds) m1) x
/-- a new list that changes -/
@[reducible] def vLstO (a : VA) : VE := fun s m k x => a s m (fun ds m1 => ds.length ≤ 1000000 ∧ ∀ p, m1 p = none → k (.ref p) (mset m1 p (.lst ds))) x
@[reducible] def vCB (o : OA) (a : VA) : VE := fun s m k x => a s m (fun ds m1 => o ds m1 k) x
/-- a bool -/
def isB : D → (Bool → Prop) → Prop
  | .bl b, k => k b
  | _, _ => False
@[reducible] def tV (a : VE) : VT := fun s m k x => a s m (fun d m1 => isB d fun b => k b m1) x
@[reducible] def vAnd (a b : VT) : VT := fun s m k x => a s m (fun c m1 => if c = true then b s m1 k x else k false m1) x
@[reducible] def vOr (a b : VT) : VT := fun s m k x => a s m (fun c m1 => if c = true then k true m1 else b s m1 k x) x
@[reducible] def vNot (a : VT) : VT := fun s m k x => a s m (fun c m1 => k (!c) m1) x
@[reducible] def vYes : VT := fun _ m k _ => k true m
@[reducible] def vAndV (a b : VE) : VE := fun s m k x => a s m (fun d m1 => isB d fun c => if c = true then b s m1 k x else k (.bl false) m1) x
@[reducible] def vOrV (a b : VE) : VE := fun s m k x => a s m (fun d m1 => isB d fun c => if c = true then k (.bl true) m1 else b s m1 k x) x
@[reducible] def vNotV (a : VE) : VE := fun s m k x => a s m (fun d m1 => isB d fun c => k (.bl (!c)) m1) x
@[reducible] def vIf (t : VT) (a b : VE) : VE := fun s m k x => t s m (fun c m1 => if c = true then a s m1 k x else b s m1 k x) x
@[reducible] def vChain (o o' : O2) (a b c : VE) : VE := fun s m k x => a s m (fun d m1 => b s m1 (fun e m2 => o d e m2 fun z m3 => isB z fun q => if q = true then c s m3 (fun g m4 => o' e g m4 k) x else k (.bl false) m3) x) x
@[reducible] def vNoP : VO := fun _ m k _ => k none m
@[reducible] def vP (a : VE) : VO := fun s m k x => a s m (fun d m1 => match d with | .int i => k (some i) m1 | _ => False) x

section
variable {K : PySem.W.Frag} {mg : Str → Option Value} {F H : Hp} {v : V} {m : Mem}
theorem Rp.blI {b : Bool} (h : Rp K mg F v (.bl b)) : v = .bl b := by cases h; rfl
theorem Rp.intI {b : Int} (h : Rp K mg F v (.int b)) : v = .int b := by cases h; rfl
theorem Rp.strI {b : Str} (h : Rp K mg F v (.str b)) : v = .str b := by cases h; rfl
theorem Rp.nonI (h : Rp K mg F v .non) : v = .non := by cases h; rfl
theorem Rp.refI {a : Addr} (h : Rp K mg F v (.ref a)) : v = .ref a := by cases h; rfl
theorem Rp.lstI {ds : List D} (h : Rp K mg F v (.lst ds)) : ∃ a xs, v = .ref a ∧ F a = some (.lst xs) ∧ RpL K mg F xs ds := by cases h with | lst s r => exact ⟨_, _, rfl, s, r⟩
theorem Rp.latI {a : Addr} {ds : List D} (h : Rp K mg F v (.lat a ds)) : ∃ xs, v = .ref a ∧ SqL K F a xs ∧ RpL K mg F xs ds := by cases h with | lat s r => exact ⟨_, rfl, s, r⟩
theorem Rp.tupI {ds : List D} (h : Rp K mg F v (.tup ds)) : ∃ a xs, v = .ref a ∧ SqT K F a xs ∧ RpL K mg F xs ds := by cases h with | tup s r => exact ⟨_, _, rfl, s.sqt, r⟩
theorem Rp.tupN {ds : List D} (h : Rp K mg F v (.tup ds)) : ∃ a xs, v = .ref a ∧ SqN K F a xs ∧ RpL K mg F xs ds := by cases h with | tup s r => exact ⟨_, _, rfl, s, r⟩
theorem Rp.prI {ds : List D} (h : Rp K mg F v (.pr ds)) : ∃ a xs, v = .ref a ∧ F a = some (.tup xs) ∧ RpL K mg F xs ds := by cases h with | pr s r => exact ⟨_, _, rfl, s, r⟩
theorem Rp.dicI {ds : List (Key × D)} (h : Rp K mg F v (.dic ds)) : ∃ a o xs, v = .ref a ∧ F a = some (.frz o (.dK xs)) ∧ RpK K mg F xs ds := by cases h with | dic s r => exact ⟨_, _, _, rfl, s, r⟩
/-- a list's items: frozen, the script, or of the memory -/
def asL (m : Mem) : D → Option (List D)
  | .lst ds => some ds
  | .lat _ ds => some ds
  | .ref p => match m p with
    | some (.lst ds) => some ds
    | _ => none
  | _ => none
theorem Rp.asL {d : D} {ds : List D} (l : Le F H) (r : MemR K mg F H m) (h : Rp K mg F v d) (e : asL m d = some ds) : ∃ a xs, v = .ref a ∧ SqL K H a xs ∧ RpL K mg F xs ds := by
  cases h with
  | lst s r => cases e; exact ⟨_, _, rfl, l.sql (SqL.of s), r⟩
  | lat s r => cases e; exact ⟨_, _, rfl, l.sql s, r⟩
  | ref p =>
    cases q : m p with
    | none => simp only [Ts.asL, q] at e; cases e
    | some o =>
      simp only [Ts.asL, q] at e
      cases o with
      | lst es =>
        cases e
        obtain ⟨_, xs, e1, e2⟩ := r p _ q
        exact ⟨p, xs, rfl, SqL.of e1, e2⟩
      | _ => cases e
  | _ => cases e
/-- a list that may be joined with another: not the script -/
def asO (m : Mem) : D → Option (List D)
  | .lst ds => some ds
  | .ref p => match m p with
    | some (.lst ds) => some ds
    | _ => none
  | _ => none
theorem Rp.asO {d : D} {ds : List D} (l : Le F H) (r : MemR K mg F H m) (h : Rp K mg F v d) (e : asO m d = some ds) : ∃ a xs, v = .ref a ∧ H a = some (.lst xs) ∧ RpL K mg F xs ds := by
  cases h with
  | lst s r => cases e; exact ⟨_, _, rfl, l.lst s, r⟩
  | ref p =>
    cases q : m p with
    | none => simp only [Ts.asO, q] at e; cases e
    | some o =>
      simp only [Ts.asO, q] at e
      cases o with
      | lst es =>
        cases e
        obtain ⟨_, xs, e1, e2⟩ := r p _ q
        exact ⟨p, xs, rfl, e1, e2⟩
      | _ => cases e
  | _ => cases e
theorem RpL.one {us : List V} {x : D} (r : RpL K mg F us [x]) : ∃ u, us = [u] ∧ Rp K mg F u x := by
  cases r with
  | cons a r => cases r; exact ⟨_, rfl, a⟩
theorem RpL.two {us : List V} {x y : D} (r : RpL K mg F us [x, y]) : ∃ u v, us = [u, v] ∧ Rp K mg F u x ∧ Rp K mg F v y := by
  cases r with
  | cons a r => cases r with
    | cons b r => cases r; exact ⟨_, _, rfl, a, b⟩
theorem RpL.three {us : List V} {x y z : D} (r : RpL K mg F us [x, y, z]) : ∃ u v w, us = [u, v, w] ∧ Rp K mg F u x ∧ Rp K mg F v y ∧ Rp K mg F w z := by
  cases r with
  | cons a r => cases r with
    | cons b r => cases r with
      | cons c r => cases r; exact ⟨_, _, _, rfl, a, b, c⟩
end
section
variable {X : Cx} {W : WX} {e a b c : Expr} {es rest : List Expr} {va vb vc ve : VE} {vt vu : VT} {vs : VA} {pos : Pos}
theorem je_var {i : Nat} (h : PE X e (tVar i)) : JE X W e (vVar i) := ⟨_, h, fun σ F H s m k x l en hv _ Q q => by
  unfold vVar vGet at hv
  split at hv
  · rename_i d hs
    obtain ⟨v, h1, h2⟩ := en.val i d hs
    exact ⟨v, h1, q v d F H m (StM.refl l en.mem) h2 hv⟩
  · exact hv.elim⟩
theorem je_c {v : V} {d : D} (h : PE X e (tC v)) (r : ∀ F, Rp X.K X.mg F v d) : JE X W e (vC d) := ⟨_, h, fun σ F H s m k x l en hv _ Q q => q v d F H m (StM.refl l en.mem) (r F) hv⟩
theorem je_int {i j} : JE X W (.Constant (.int i) j pos) (vC (.int i)) := je_c pe_int fun _ => .int i
theorem je_bl {i j} : JE X W (.Constant (.bool i) j pos) (vC (.bl i)) := je_c pe_bl fun _ => .bl i
theorem je_non {j} : JE X W (.Constant .none j pos) (vC .non) := je_c pe_non fun _ => .non
theorem je_str {i j} : JE X W (.Constant (.str i) j pos) (vC (.str i)) := je_c pe_str fun _ => .str i
theorem jv (i : Nat) {x : Str} {pos : Pos} (hN : X.N[i]? = some x := by rfl) (hv : Vis X.env.scope x := by first | exact Or.inl rfl | exact Or.inr (Or.inl rfl) | exact Or.inr (Or.inr rfl)) (hd : (x == ("__debug__" : Str)) = false := by decide)
    (hcd : (x == ("__classdict__" : Str)) = false := by decide) : JE X W (.Name x pos) (vVar i) := je_var (pe_var hN hv hd hcd)
theorem SndE.op {r : R2} {o : O2} {ta tb : TE} (ho : SndO2 X.K X.mg r o) (h1 : SndE X.K X.mg W ta va) (h2 : SndE X.K X.mg W tb vb) : SndE X.K X.mg W (tOp r ta tb) (vOp o va vb) := fun σ F H s m k x l en hv hx Q q =>
  h1 σ F H s m _ x l en hv hx _ fun u d F1 H1 m1 s1 r1 k1 => h2 σ F1 H1 s m1 _ x s1.le (en.stm s1) k1 (hx.after s1) _ fun w e F2 H2 m2 s2 r2 k2 =>
    ho F2 H2 m2 d e u w k s2.le s2.mr (r1.mono s2.gr) r2 k2 Q fun z g F3 H3 m3 s3 r3 k3 => q z g F3 H3 m3 ((s1.trans s2).trans s3) r3 k3
theorem je_op {op : Operator} {o : O2} (ho : JO2 X (binaryOp op) o) (ha : JE X W a va) (hb : JE X W b vb) : JE X W (.BinOp a op b pos) (vOp o va vb) := by
  obtain ⟨r, h0, h1⟩ := ho; obtain ⟨ta, p1, s1⟩ := ha; obtain ⟨tb, p2, s2⟩ := hb
  exact ⟨_, pe_op h0 p1 p2, SndE.op h1 s1 s2⟩
theorem je_cmp {op : CmpOp} {o : O2} (ho : JO2 X (compareOp op) o) (ha : JE X W a va) (hb : JE X W b vb) (hm : behindInMarks op b = false) : JE X W (.Compare a [op] [b] pos) (vOp o va vb) := by
  obtain ⟨r, h0, h1⟩ := ho; obtain ⟨ta, p1, s1⟩ := ha; obtain ⟨tb, p2, s2⟩ := hb
  exact ⟨_, pe_cmpR h0 p1 p2 hm, SndE.op h1 s1 s2⟩
theorem je_un {op : UnaryOp} {o : O1} (ho : JO1 X (unaryOp op) o) (ha : JE X W a va) : JE X W (.UnaryOp op a pos) (vUn o va) := by
  obtain ⟨r, h0, h1⟩ := ho; obtain ⟨ta, p1, s1⟩ := ha
  exact ⟨_, pe_un h0 p1, fun σ F H s m k x l en hv hx Q q => s1 σ F H s m _ x l en hv hx _ fun u d F1 H1 m1 t1 r1 k1 => h1 F1 H1 m1 d u k t1.le t1.mr r1 k1 Q fun z g F3 H3 m3 s3 r3 k3 => q z g F3 H3 m3 (t1.trans s3) r3 k3⟩
theorem ja_nil : JA X W [] vNil := ⟨_, pa_nil, fun σ F H s m k x l en hv _ Q q => q [] [] F H m (StM.refl l en.mem) .nil hv⟩
theorem ja_cons (ha : JE X W e va) (hr : JA X W es vs) (hs : starEach (e :: es) X.env = (false, eval e X.env) :: starEach es X.env := by rfl) : JA X W (e :: es) (vCons va vs) := by
  obtain ⟨ta, p1, s1⟩ := ha; obtain ⟨tr, p2, s2⟩ := hr
  exact ⟨_, pa_cons p1 p2 hs, fun σ F H s m k x l en hv hx Q q => s1 σ F H s m _ x l en hv hx _ fun u d F1 H1 m1 t1 r1 k1 => s2 σ F1 H1 s m1 _ x t1.le (en.stm t1) k1 (hx.after t1) _ fun us ds F2 H2 m2 t2 r2 k2 => q (u :: us) (d :: ds) F2 H2 m2 (t1.trans t2) (.cons (r1.mono t2.gr) r2) k2⟩
def tTupN (t : TA) : TE := fun σ H Q => t σ H fun us H1 => us.length ≤ sizeLine ∧ ∀ (p : Addr) (o : Obj), H1 p = none → o.dict = none → Q (.ref p) (upd H1 p (.frz o (.tup us)))
theorem pe_tupN {x1} {t : TA} (h : PA X es t) : PE X (.Tuple es x1 pos) (tTupN t) := by
  refine ⟨fun pins s σ H Q I hq => ?_⟩
  refine wpAny_Tuple_spliced (thn (h.run pos pins s σ H _ I hq) fun us s1 ⟨xs, H1, I1, r, z, q⟩ => ⟨by rw [← r.length]; exact z, ?_⟩)
  have hf : H1 s1.heap.objs.size = none := I1.hok.fresh (Nat.le_refl _)
  refine ⟨.ref s1.heap.objs.size, upd H1 s1.heap.objs.size (.frz _ (.tup xs)), I1.laid (t' := s1.toks) (fun b u e => Heap.get?_push_of_some _ e) (Nat.le_refl _) ⟨Heap.get?_push_size _ rfl, ?_⟩, rfl, q _ _ hf rfl⟩
  exact ⟨z, us, r, ⟨_, Heap.get?_push_size _ rfl, rfl, _, rfl⟩⟩
theorem je_tup {x1} (h : JA X W es vs) : JE X W (.Tuple es x1 pos) (vTup vs) := by
  obtain ⟨ta, p1, s1⟩ := h
  refine ⟨_, pe_tupN p1, fun σ F H s m k x l en hv hx Q q => s1 σ F H s m _ x l en hv hx _ fun us ds F1 H1 m1 t1 r1 ⟨h0, k1⟩ => ⟨by rw [r1.len]; exact Nat.le_trans h0 (by decide), fun p o hp ho => ?_⟩⟩
  have s2 : Step F1 H1 (upd F1 p (.frz o (.tup us))) (upd H1 p (.frz o (.tup us))) := Step.new t1.le hp
  exact q (.ref p) (.tup ds) _ _ m1 (t1.trans (s2.stm t1.mr)) (.tup (.inl ⟨o, upd_same, ho⟩) (r1.mono s2.gr)) k1
/-- a tuple that becomes a key -/
@[reducible] def vTupK (a : VA) : VE := fun s m k x => a s m (fun ds m1 => ds.length ≤ 1000000 ∧ k (.pr ds) m1) x
theorem je_lst (h : JA X W es vs) : JE X W (.List es pos) (vLst vs) := by
  obtain ⟨ta, p1, s1⟩ := h
  refine ⟨_, pe_lst p1, fun σ F H s m k x l en hv hx Q q => s1 σ F H s m _ x l en hv hx _ fun us ds F1 H1 m1 t1 r1 ⟨h0, k1⟩ => ⟨by rw [r1.len]; exact Nat.le_trans h0 (by decide), fun p hp => ?_⟩⟩
  have s2 : Step F1 H1 (upd F1 p (.lst us)) (upd H1 p (.lst us)) := Step.new t1.le hp
  exact q (.ref p) (.lst ds) _ _ m1 (t1.trans (s2.stm t1.mr)) (.lst upd_same (r1.mono s2.gr)) k1
theorem je_lstO (h : JA X W es vs) : JE X W (.List es pos) (vLstO vs) := by
  obtain ⟨ta, p1, s1⟩ := h
  refine ⟨_, pe_lst p1, fun σ F H s m k x l en hv hx Q q => s1 σ F H s m _ x l en hv hx _ fun us ds F1 H1 m1 t1 r1 ⟨h0, k1⟩ => ⟨by rw [r1.len]; exact Nat.le_trans h0 (by decide), fun p hp => ?_⟩⟩
  exact q (.ref p) (.ref p) _ _ _ (t1.trans (StM.new t1.le t1.mr hp (u := .lst ds) ⟨us, upd_same, r1⟩)) (.ref p) (k1 p (t1.mr.free hp))
theorem je_callB {x : Str} {id : String} {o : OA} {p : Pos} (ho : JOA X (.builtin id) o) (hg : Gl X x) (hm : X.mg x = none) (hv : bootBuiltins x = some (.builtin id)) (ha : JA X W (e :: es) vs) (hn : x ≠ "__name__" := by decide) (hdb : (x == ("__debug__" : Str)) = false := by decide)
    (he : starEach (e :: es) X.env = (false, eval e X.env) :: starEach es X.env := by rfl) (hpl : (backTo pos (starEach es X.env)).any (·.1) = false := by rfl) : JE X W (.Call (.Name x p) (e :: es) [] pos) (vCB o vs) := by
  obtain ⟨r, h0, h1⟩ := ho; obtain ⟨ta, p1, s1⟩ := ha
  exact ⟨_, pe_callB h0 hg hm hv p1 hn hdb he hpl, fun σ F H s m k x l en hv hx Q q => s1 σ F H s m _ x l en hv hx _ fun us ds F1 H1 m1 t1 r1 k1 => h1 F1 H1 m1 ds us k t1.le t1.mr r1 k1 Q fun z g F3 H3 m3 s3 r3 k3 => q z g F3 H3 m3 (t1.trans s3) r3 k3⟩
theorem je_callTy {x : Str} {T : String} {o : OA} {p : Pos} (ho : JOA X (.type T) o) (hg : Gl X x) (hm : X.mg x = none) (hv : bootBuiltins x = some (.type T)) (ha : JA X W (e :: es) vs) (hn : x ≠ "__name__" := by decide) (hdb : (x == ("__debug__" : Str)) = false := by decide)
    (he : starEach (e :: es) X.env = (false, eval e X.env) :: starEach es X.env := by rfl) (hpl : (backTo pos (starEach es X.env)).any (·.1) = false := by rfl) : JE X W (.Call (.Name x p) (e :: es) [] pos) (vCB o vs) := by
  obtain ⟨r, h0, h1⟩ := ho; obtain ⟨ta, p1, s1⟩ := ha
  exact ⟨_, pe_callTy h0 hg hm hv p1 hn hdb he hpl, fun σ F H s m k x l en hv hx Q q => s1 σ F H s m _ x l en hv hx _ fun us ds F1 H1 m1 t1 r1 k1 => h1 F1 H1 m1 ds us k t1.le t1.mr r1 k1 Q fun z g F3 H3 m3 s3 r3 k3 => q z g F3 H3 m3 (t1.trans s3) r3 k3⟩
/-! tests -/
theorem isB_of {d : D} {k : Bool → Prop} (h : isB d k) : ∃ b, d = .bl b ∧ k b := by
  cases d with
  | bl b => exact ⟨b, rfl, h⟩
  | _ => exact h.elim
theorem SndE.test {te : TE} (h : SndE X.K X.mg W te ve) : SndT X.K X.mg W (tTest te) (tV ve) := fun σ F H s m k x l en hv hx Q q => h σ F H s m _ x l en hv hx _ fun v d F1 H1 m1 t1 r1 k1 => by
  obtain ⟨b, rfl, hk⟩ := isB_of k1
  exact ⟨b, r1.blI, q b F1 H1 m1 t1 hk⟩
theorem jt_cmp {op : CmpOp} {o : O2} (ho : JO2 X (compareOp op) o) (ha : JE X W a va) (hb : JE X W b vb) (hm : behindInMarks op b = false) : JT X W (.Compare a [op] [b] pos) (tV (vOp o va vb)) := by
  obtain ⟨r, h0, h1⟩ := ho; obtain ⟨ta, p1, s1⟩ := ha; obtain ⟨tb, p2, s2⟩ := hb
  exact ⟨_, pt_cmpR h0 p1 p2 hm, (SndE.op h1 s1 s2).test⟩
theorem jt_val (h : JE X W e ve) (he : ∀ whole, isTrue e X.env whole = (do let v ← whole; standAt e.pos; holding [v] (truthy v)) := by intro _; rfl) : JT X W e (tV ve) := by
  obtain ⟨te, p1, s1⟩ := h
  exact ⟨_, pt_val p1 he, s1.test⟩
theorem SndT.and {t u : TT} (h1 : SndT X.K X.mg W t vt) (h2 : SndT X.K X.mg W u vu) : SndT X.K X.mg W (tAnd t u) (vAnd vt vu) := fun σ F H s m k x l en hv hx Q q => h1 σ F H s m _ x l en hv hx _ fun b F1 H1 m1 t1 k1 => by
  cases b with
  | true =>
    rw [if_pos rfl] at k1 ⊢
    exact h2 σ F1 H1 s m1 k x t1.le (en.stm t1) k1 (hx.after t1) Q fun b F2 H2 m2 t2 k2 => q b F2 H2 m2 (t1.trans t2) k2
  | false =>
    rw [if_neg (by decide)] at k1 ⊢
    exact q false F1 H1 m1 t1 k1
theorem SndT.or {t u : TT} (h1 : SndT X.K X.mg W t vt) (h2 : SndT X.K X.mg W u vu) : SndT X.K X.mg W (tOr t u) (vOr vt vu) := fun σ F H s m k x l en hv hx Q q => h1 σ F H s m _ x l en hv hx _ fun b F1 H1 m1 t1 k1 => by
  cases b with
  | true =>
    rw [if_pos rfl] at k1 ⊢
    exact q true F1 H1 m1 t1 k1
  | false =>
    rw [if_neg (by decide)] at k1 ⊢
    exact h2 σ F1 H1 s m1 k x t1.le (en.stm t1) k1 (hx.after t1) Q fun b F2 H2 m2 t2 k2 => q b F2 H2 m2 (t1.trans t2) k2
theorem jw_or1 (ha : JT X W a vt) : JW X W (.BoolOp .Or [a] pos) vt := by obtain ⟨t, p, s⟩ := ha; exact ⟨_, pw_or1 p, s⟩
theorem jw_or (ha : JT X W a vt) (hb : JW X W (.BoolOp .Or (b :: rest) pos) vu) : JW X W (.BoolOp .Or (a :: b :: rest) pos) (vOr vt vu) := by
  obtain ⟨t, p, s⟩ := ha; obtain ⟨u, p2, s2⟩ := hb; exact ⟨_, pw_or p p2, s.or s2⟩
theorem JW.jt (h : JW X W e vt) : JT X W e vt := by obtain ⟨t, p, s⟩ := h; exact ⟨_, p.pt, s⟩
theorem jt_not (ha : JT X W a vt) : JT X W (.UnaryOp .Not a pos) (vNot vt) := by
  obtain ⟨t, p, s1⟩ := ha
  exact ⟨_, pt_not p, fun σ F H s m k x l en hv hx Q q => s1 σ F H s m _ x l en hv hx _ fun b F1 H1 m1 t1 k1 => q (!b) F1 H1 m1 t1 k1⟩
theorem je_one {op} (h : JE X W a va) : JE X W (.BoolOp op [a] pos) va := by obtain ⟨t, p, s⟩ := h; exact ⟨_, pe_one p, s⟩
theorem je_and (ha : JE X W a va) (hb : JE X W (.BoolOp .And (b :: rest) pos) vb) : JE X W (.BoolOp .And (a :: b :: rest) pos) (vAndV va vb) := by
  obtain ⟨t, p, s1⟩ := ha; obtain ⟨u, p2, s2⟩ := hb
  refine ⟨_, pe_and p p2, fun σ F H s m k x l en hv hx Q q => s1 σ F H s m _ x l en hv hx _ fun v d F1 H1 m1 t1 r1 k1 => ?_⟩
  replace k1 := isB_of k1
  obtain ⟨b, rfl, k1⟩ := k1
  refine ⟨b, r1.blI, ?_⟩
  cases b with
  | true =>
    rw [if_pos rfl] at k1 ⊢
    exact s2 σ F1 H1 s m1 k x t1.le (en.stm t1) k1 (hx.after t1) Q fun v d F2 H2 m2 t2 r2 k2 => q v d F2 H2 m2 (t1.trans t2) r2 k2
  | false =>
    rw [if_neg (by decide)] at k1 ⊢
    exact q _ _ F1 H1 m1 t1 (.bl false) k1
theorem je_or (ha : JE X W a va) (hb : JE X W (.BoolOp .Or (b :: rest) pos) vb) : JE X W (.BoolOp .Or (a :: b :: rest) pos) (vOrV va vb) := by
  obtain ⟨t, p, s1⟩ := ha; obtain ⟨u, p2, s2⟩ := hb
  refine ⟨_, pe_or p p2, fun σ F H s m k x l en hv hx Q q => s1 σ F H s m _ x l en hv hx _ fun v d F1 H1 m1 t1 r1 k1 => ?_⟩
  replace k1 := isB_of k1
  obtain ⟨b, rfl, k1⟩ := k1
  refine ⟨b, r1.blI, ?_⟩
  cases b with
  | true =>
    rw [if_pos rfl] at k1 ⊢
    exact q _ _ F1 H1 m1 t1 (.bl true) k1
  | false =>
    rw [if_neg (by decide)] at k1 ⊢
    exact s2 σ F1 H1 s m1 k x t1.le (en.stm t1) k1 (hx.after t1) Q fun v d F2 H2 m2 t2 r2 k2 => q v d F2 H2 m2 (t1.trans t2) r2 k2
theorem je_not (ha : JE X W a va) : JE X W (.UnaryOp .Not a pos) (vNotV va) := by
  obtain ⟨t, p, s1⟩ := ha
  refine ⟨_, pe_not p, fun σ F H s m k x l en hv hx Q q => s1 σ F H s m _ x l en hv hx _ fun v d F1 H1 m1 t1 r1 k1 => ?_⟩
  replace k1 := isB_of k1
  obtain ⟨b, rfl, k1⟩ := k1
  exact ⟨b, r1.blI, q _ _ F1 H1 m1 t1 (.bl _) k1⟩
theorem je_if (ht : JT X W c vt) (ha : JE X W a va) (hb : JE X W b vb) : JE X W (.IfExp c a b pos) (vIf vt va vb) := by
  obtain ⟨t, p, s0⟩ := ht; obtain ⟨ta, p1, s1⟩ := ha; obtain ⟨tb, p2, s2⟩ := hb
  refine ⟨_, pe_ifExp p p1 p2, fun σ F H s m k x l en hv hx Q q => s0 σ F H s m _ x l en hv hx _ fun b F1 H1 m1 t1 k1 => ?_⟩
  cases b with
  | true =>
    rw [if_pos rfl] at k1 ⊢
    exact s1 σ F1 H1 s m1 k x t1.le (en.stm t1) k1 (hx.after t1) Q fun v d F2 H2 m2 t2 r2 k2 => q v d F2 H2 m2 (t1.trans t2) r2 k2
  | false =>
    rw [if_neg (by decide)] at k1 ⊢
    exact s2 σ F1 H1 s m1 k x t1.le (en.stm t1) k1 (hx.after t1) Q fun v d F2 H2 m2 t2 r2 k2 => q v d F2 H2 m2 (t1.trans t2) r2 k2
theorem SndE.chain {r r' : R2} {o o' : O2} {ta tb tc : TE} (ho : SndO2 X.K X.mg r o) (ho' : SndO2 X.K X.mg r' o') (h1 : SndE X.K X.mg W ta va) (h2 : SndE X.K X.mg W tb vb) (h3 : SndE X.K X.mg W tc vc) : SndE X.K X.mg W (tChain r r' ta tb tc) (vChain o o' va vb vc) := fun σ F H s m k x l en hv hx Q q =>
  h1 σ F H s m _ x l en hv hx _ fun u d F1 H1 m1 s1 r1 k1 => h2 σ F1 H1 s m1 _ x s1.le (en.stm s1) k1 (hx.after s1) _ fun w e F2 H2 m2 s2 r2 k2 =>
    ho F2 H2 m2 d e u w _ s2.le s2.mr (r1.mono s2.gr) r2 k2 _ fun z g F3 H3 m3 s3 r3 k3 => by
      replace k3 := isB_of k3
      obtain ⟨b, rfl, k3⟩ := k3
      have st := (s1.trans s2).trans s3
      refine ⟨b, r3.blI, ?_⟩
      cases b with
      | true =>
        rw [if_pos rfl] at k3 ⊢
        exact h3 σ F3 H3 s m3 _ x s3.le (en.stm st) k3 (hx.after st) _ fun u' c' F4 H4 m4 s4 r4 k4 => ho' F4 H4 m4 e c' w u' k s4.le s4.mr (r2.mono (s3.gr.trans s4.gr)) r4 k4 Q fun o' d' F5 H5 m5 s5 r5 k5 => q o' d' F5 H5 m5 ((st.trans s4).trans s5) r5 k5
      | false =>
        rw [if_neg (by decide)] at k3 ⊢
        exact q _ _ F3 H3 m3 st (.bl false) k3
theorem je_chain {op op' : CmpOp} {o o' : O2} (ho : JO2 X (compareOp op) o) (ho' : JO2 X (compareOp op') o') (ha : JE X W a va) (hb : JE X W b vb) (hc : JE X W c vc) (hm : lastMarks [op, op'] [b, c] = false := by with_unfolding_all rfl) : JE X W (.Compare a [op, op'] [b, c] pos) (vChain o o' va vb vc) := by
  obtain ⟨r, h0, h1⟩ := ho; obtain ⟨r', h0', h1'⟩ := ho'; obtain ⟨ta, p1, s1⟩ := ha; obtain ⟨tb, p2, s2⟩ := hb; obtain ⟨tc, p3, s3⟩ := hc
  exact ⟨_, pe_chain h0 h0' p1 p2 p3 hm, SndE.chain h1 h1' s1 s2 s3⟩
theorem jt_chain {op op' : CmpOp} {o o' : O2} (ho : JO2 X (compareOp op) o) (ho' : JO2 X (compareOp op') o') (ha : JE X W a va) (hb : JE X W b vb) (hc : JE X W c vc) (hm : lastMarks [op, op'] [b, c] = false := by with_unfolding_all rfl) : JT X W (.Compare a [op, op'] [b, c] pos) (tV (vChain o o' va vb vc)) := by
  obtain ⟨r, h0, h1⟩ := ho; obtain ⟨r', h0', h1'⟩ := ho'; obtain ⟨ta, p1, s1⟩ := ha; obtain ⟨tb, p2, s2⟩ := hb; obtain ⟨tc, p3, s3⟩ := hc
  exact ⟨_, pt_chain h0 h0' p1 p2 p3 hm, (SndE.chain h1 h1' s1 s2 s3).test⟩
theorem jp_no : JP X W none vNoP := ⟨_, po_none, fun σ F H s m k x l en hv _ Q q => q none F H m (StM.refl l en.mem) hv⟩
theorem jp_some (h : JE X W e ve) : JP X W (some e) (vP ve) := by
  obtain ⟨t, p, s1⟩ := h
  refine ⟨_, po_some p, fun σ F H s m k x l en hv hx Q q => s1 σ F H s m _ x l en hv hx _ fun v d F1 H1 m1 t1 r1 k1 => ?_⟩
  cases d with
  | int i => exact ⟨i, r1.intI, q (some i) F1 H1 m1 t1 k1⟩
  | _ => exact k1.elim
end
end Ts
namespace Ts
open PySem PySem.Spec PyProof.Rows L2
/-! ### statements -/
structure DE where
  nx : SL → Mem → Prop
  rt : D → Mem → Prop
  bk : SL → Mem → Prop := fun _ _ => False
  ct : SL → Mem → Prop := fun _ _ => False
  ex : XD → SL → Mem → Prop := fun _ _ _ => False
abbrev VS := SL → Mem → DE → Prop
structure Lk (K : PySem.W.Frag) (mg : Str → Option Value) (W : WX) (F H : Hp) (m : Mem) (G : DE) (E : Ends) : Prop where
  nx : ∀ σ' s' F' H' m', StM K mg m F H F' H' m' → EnvR K mg F' H' σ' s' m' → G.nx s' m' → E.nx σ' H'
  rt : ∀ v d F' H' m', StM K mg m F H F' H' m' → Rp K mg F' v d → G.rt d m' → E.rt v H'
  bk : ∀ σ' s' F' H' m', StM K mg m F H F' H' m' → EnvR K mg F' H' σ' s' m' → G.bk s' m' → E.bk σ' H'
  ct : ∀ σ' s' F' H' m', StM K mg m F H F' H' m' → EnvR K mg F' H' σ' s' m' → G.ct s' m' → E.ct σ' H'
  ex : ∀ cls dd e σ' s' F' H' m', StM K mg m F H F' H' m' → EnvR K mg F' H' σ' s' m' → RpX K mg F' H' cls dd e → G.ex e s' m' → W cls dd σ' H'
def SndS (K : PySem.W.Frag) (mg : Str → Option Value) (W : WX) (t : TS) (v : VS) : Prop := ∀ (σ : L2.St) (F H : Hp) (s : SL) (m : Mem) (G : DE), Le F H → EnvR K mg F H σ s m → v s m G → ∀ E : Ends, Lk K mg W F H m G E → t E σ H
def JS (X : Cx) (W : WX) (st : Stmt) (v : VS) : Prop := ∃ t, PS X st t ∧ SndS X.K X.mg W t v
def JSs (X : Cx) (W : WX) (st : List Stmt) (v : VS) : Prop := ∃ t, PSs X st t ∧ SndS X.K X.mg W t v
section
variable {K : PySem.W.Frag} {mg : Str → Option Value} {W : WX} {F H F1 H1 : Hp} {m m1 : Mem} {G : DE} {E : Ends} {σ : L2.St} {s : SL}
theorem Lk.after (L : Lk K mg W F H m G E) (t : StM K mg m F H F1 H1 m1) : Lk K mg W F1 H1 m1 G E :=
  ⟨fun σ' s' F' H' m' u e g => L.nx σ' s' F' H' m' (t.trans u) e g, fun v d F' H' m' u r g => L.rt v d F' H' m' (t.trans u) r g, fun σ' s' F' H' m' u e g => L.bk σ' s' F' H' m' (t.trans u) e g, fun σ' s' F' H' m' u e g => L.ct σ' s' F' H' m' (t.trans u) e g,
   fun cls dd e σ' s' F' H' m' u en r g => L.ex cls dd e σ' s' F' H' m' (t.trans u) en r g⟩
theorem Lk.x (L : Lk K mg W F H m G E) (en : EnvR K mg F H σ s m) : XOk K mg W σ F H m (fun e m' => G.ex e s m') := fun cls dd e F' H' m' t r g => L.ex cls dd e σ s F' H' m' t (en.stm t) r g
end
@[reducible] def vNext : VS := fun s m G => G.nx s m
@[reducible] def vBreak : VS := fun s m G => G.bk s m
@[reducible] def vCont : VS := fun s m G => G.ct s m
@[reducible] def vSeq (a b : VS) : VS := fun s m G => a s m { G with nx := fun s' m' => b s' m' G }
@[reducible] def vRet (a : VE) : VS := fun s m G => a s m G.rt fun e m' => G.ex e s m'
@[reducible] def vRetN : VS := fun _ m G => G.rt .non m
@[reducible] def vDrop (a : VE) : VS := fun s m G => a s m (fun _ m' => G.nx s m') fun e m' => G.ex e s m'
@[reducible] def vIfS (t : VT) (a b : VS) : VS := fun s m G => t s m (fun c m1 => if c = true then a s m1 G else b s m1 G) fun e m' => G.ex e s m'
@[reducible] def vNever : VS := fun _ _ _ => False
/-! ### targets -/
abbrev VG := D → SL → (SL → Prop) → Prop
abbrev VGs := List D → SL → (SL → Prop) → Prop
def SndG (K : PySem.W.Frag) (mg : Str → Option Value) (g : TG) (js : List Nat) (v : VG) : Prop := ∀ (u : V) (σ : L2.St) (F H : Hp) (d : D) (s : SL) (m : Mem) (k : SL → Prop), Le F H → EnvR K mg F H σ s m → Rp K mg F u d → v d s k → ∀ Q : L2.St → Hp → Prop,
  (∀ σ' s', EnvR K mg F H σ' s' m → (∀ vs : List Nat, (∀ j ∈ js, j ∈ vs) → L2.wipe σ' vs = L2.wipe σ vs) → k s' → Q σ' H) → g u σ H Q
def SndGs (K : PySem.W.Frag) (mg : Str → Option Value) (g : TGs) (js : List Nat) (v : VGs) : Prop := ∀ (u : List V) (σ : L2.St) (F H : Hp) (d : List D) (s : SL) (m : Mem) (k : SL → Prop), Le F H → EnvR K mg F H σ s m → RpL K mg F u d → v d s k → ∀ Q : L2.St → Hp → Prop,
  (∀ σ' s', EnvR K mg F H σ' s' m → (∀ vs : List Nat, (∀ j ∈ js, j ∈ vs) → L2.wipe σ' vs = L2.wipe σ vs) → k s' → Q σ' H) → g u σ H Q
def JG (X : Cx) (e : Expr) (js : List Nat) (v : VG) : Prop := ∃ g, PG X e g ∧ SndG X.K X.mg g js v
def JGs (X : Cx) (e : List Expr) (js : List Nat) (v : VGs) : Prop := ∃ g, PGs X e g ∧ SndGs X.K X.mg g js v
@[reducible] def gN (i : Nat) : VG := fun d s k => k (s.set i (some d))
def gNl : VGs
  | [], s, k => k s
  | _, _, _ => False
def gCn (a : VG) (r : VGs) : VGs
  | d :: ds, s, k => a d s fun s' => r ds s' k
  | _, _, _ => False
def gTp (n : Nat) (r : VGs) : VG
  | .tup ds, s, k => ds.length = n ∧ r ds s k
  | .pr ds, s, k => ds.length = n ∧ r ds s k
  | _, _, _ => False
theorem wipe_ix {σ : L2.St} {j : Nat} : ∀ {vs : List Nat}, j ∉ vs → (L2.wipe σ vs)[j]? = σ[j]?
  | [], _ => rfl
  | v :: vs, h => by
    have h1 : j ≠ v := fun z => h (by rw [z]; exact List.mem_cons_self)
    show ((L2.wipe σ vs).set v none)[j]? = σ[j]?
    rw [List.getElem?_set_ne (fun z => h1 z.symm), wipe_ix fun z => h (List.mem_cons_of_mem _ z)]
theorem wipe_in {σ : L2.St} {j : Nat} : ∀ {vs : List Nat}, j ∈ vs → j < σ.length → (L2.wipe σ vs)[j]? = some none
  | v :: vs, h, hl => by
    show ((L2.wipe σ vs).set v none)[j]? = some none
    by_cases e : j = v
    · subst e
      rw [List.getElem?_set_self (by rw [L2.wipe_length]; exact hl)]
    · rw [List.getElem?_set_ne (fun z => e z.symm)]
      rcases List.mem_cons.mp h with z | z
      · exact absurd z e
      · exact wipe_in z hl
theorem wipe_set {σ : L2.St} {i : Nat} {x : Option V} {vs : List Nat} (h : i ∈ vs) : L2.wipe (σ.set i x) vs = L2.wipe σ vs := by
  apply List.ext_getElem?
  intro j
  by_cases hj : j ∈ vs
  · by_cases hl : j < σ.length
    · rw [wipe_in hj (by rw [List.length_set]; exact hl), wipe_in hj hl]
    · rw [List.getElem?_eq_none (by rw [L2.wipe_length, List.length_set]; omega), List.getElem?_eq_none (by rw [L2.wipe_length]; omega)]
  · rw [wipe_ix hj, wipe_ix hj, List.getElem?_set_ne (fun z => hj (by rw [← z]; exact h))]
theorem wipe_wipe {σ : L2.St} {vs : List Nat} : L2.wipe (L2.wipe σ vs) vs = L2.wipe σ vs := by
  apply List.ext_getElem?
  intro j
  by_cases hj : j ∈ vs
  · by_cases hl : j < σ.length
    · rw [wipe_in hj (by rw [L2.wipe_length]; exact hl), wipe_in hj hl]
    · rw [List.getElem?_eq_none (by rw [L2.wipe_length, L2.wipe_length]; omega), List.getElem?_eq_none (by rw [L2.wipe_length]; omega)]
  · rw [wipe_ix hj]
section
variable {X : Cx} {W : WX} {e a : Expr} {es : List Expr} {pos : Pos} {ve va : VE} {vt : VT} {st : Stmt} {rest : List Stmt} {v v1 v2 : VS} {js js' : List Nat} {vg : VG} {vgs : VGs} {vs : VA}
theorem jg_name {i : Nat} {x : Str} (hN : X.N.Nodup) (hi : X.N[i]? = some x) (hx : Loc X.env.scope x) (hf : X.fn x = true ∨ X.env.scope.names.lookup x = some .local := by first | exact .inl rfl | exact .inr rfl | assumption) : JG X (.Name x pos) [i] (gN i) :=
  ⟨_, pg_name hN hi hx hf, fun u σ F H d s m k l en r h Q q => q _ _ (en.set r) (fun vs hv => wipe_set (hv i (List.mem_singleton.mpr rfl))) h⟩
theorem jgs_nil : JGs X [] [] gNl := ⟨_, pgs_nil, fun u σ F H d s m k l en r h Q q => by
  cases r with
  | nil => exact ⟨rfl, q σ s en (fun _ _ => rfl) h⟩
  | cons _ _ => exact h.elim⟩
theorem jgs_cons (h1 : JG X e js vg) (h2 : JGs X es js' vgs) (hs : (assignEach (e :: es) X.env).map (·.2) = assign e X.env :: (assignEach es X.env).map (·.2) := by rfl) : JGs X (e :: es) (js ++ js') (gCn vg vgs) := by
  obtain ⟨g1, p1, s1⟩ := h1; obtain ⟨g2, p2, s2⟩ := h2
  refine ⟨_, pgs_cons p1 p2 hs, fun u σ F H d s m k l en r h Q q => ?_⟩
  cases r with
  | nil => exact h.elim
  | cons ra rb =>
    refine ⟨_, _, rfl, s1 _ σ F H _ s m _ l en ra h _ fun σ1 s1' e1 w1 k1 => ?_⟩
    refine s2 _ σ1 F H _ s1' m k l e1 rb k1 Q fun σ2 s2' e2 w2 k2 => q σ2 s2' e2 (fun vs hv => ?_) k2
    rw [w2 vs (fun j hj => hv j (List.mem_append_right _ hj)), w1 vs (fun j hj => hv j (List.mem_append_left _ hj))]
theorem jg_tup {k n : Nat} (hc : X.calm = true) (h : JGs X es js vgs) (hn : (assignEach es X.env).length = n := by rfl) (hst : (assignEach es X.env).findIdx? (·.1) = none := by rfl) : JG X (.Tuple es k pos) js (gTp n vgs) := by
  obtain ⟨g, p, s1⟩ := h
  refine ⟨_, pg_tup hc p hn hst, fun u σ F H d s m k l en r h Q q => ?_⟩
  cases d with
  | tup ds =>
    obtain ⟨a, xs, rfl, sq, rl⟩ := r.tupI
    exact ⟨a, xs, rfl, l.sqt sq, by rw [rl.len]; exact h.1, s1 xs σ F H ds s m k l en rl h.2 Q q⟩
  | pr ds =>
    obtain ⟨a, xs, rfl, sq, rl⟩ := r.prI
    exact ⟨a, xs, rfl, l.sqt (SqT.of sq), by rw [rl.len]; exact h.1, s1 xs σ F H ds s m k l en rl h.2 Q q⟩
  | _ => exact h.elim
/-! ### statements, one by one -/
theorem jss_nil : JSs X W [] vNext := ⟨_, pss_nil, fun σ F H s m G l en h E L => L.nx σ s F H m (StM.refl l en.mem) en h⟩
theorem SndS.seq {t u : TS} (h1 : SndS X.K X.mg W t v1) (h2 : SndS X.K X.mg W u v2) : SndS X.K X.mg W (tSeq t u) (vSeq v1 v2) := fun σ F H s m G l en h E L =>
  h1 σ F H s m _ l en h { E with nx := u E } ⟨fun σ' s' F' H' m' t e g => h2 σ' F' H' s' m' G t.le e g E (L.after t), L.rt, L.bk, L.ct, L.ex⟩
theorem jss_cons (h1 : JS X W st v1) (h2 : JSs X W rest v2) : JSs X W (st :: rest) (vSeq v1 v2) := by
  obtain ⟨t, p1, s1⟩ := h1; obtain ⟨u, p2, s2⟩ := h2
  exact ⟨_, pss_cons p1 p2, s1.seq s2⟩
theorem jss_one (h1 : JS X W st v) : JSs X W [st] v := by obtain ⟨t, p1, s1⟩ := h1; exact ⟨_, pss_one p1, s1⟩
theorem js_ret (he : JE X W e ve) : JS X W (.Return (some e) pos) (vRet ve) := by
  obtain ⟨t, p1, s1⟩ := he
  exact ⟨_, ps_ret p1, fun σ F H s m G l en h E L => s1 σ F H s m _ _ l en h (L.x en) _ fun v d F' H' m' t r g => L.rt v d F' H' m' t r g⟩
theorem js_expr (he : JE X W e ve) (hs : swapsWith e none pos.line X.env = pure false := by rfl) : JS X W (.Expr e pos) (vDrop ve) := by
  obtain ⟨t, p1, s1⟩ := he
  exact ⟨_, ps_expr p1 hs, fun σ F H s m G l en h E L => s1 σ F H s m _ _ l en h (L.x en) _ fun v d F' H' m' t r g => L.nx σ s F' H' m' t (en.stm t) g⟩
theorem js_if {a b : List Stmt} (hc : JT X W e vt) (ha : JSs X W a v1) (hb : JSs X W b v2) : JS X W (.If e a b pos) (vIfS vt v1 v2) := by
  obtain ⟨t, p0, s0⟩ := hc; obtain ⟨t1, p1, s1⟩ := ha; obtain ⟨t2, p2, s2⟩ := hb
  refine ⟨_, ps_if p0 p1 p2, fun σ F H s m G l en h E L => s0 σ F H s m _ _ l en h (L.x en) _ fun b F1 H1 m1 t1 k1 => ?_⟩
  cases b with
  | true =>
    rw [if_pos rfl] at k1 ⊢
    exact s1 σ F1 H1 s m1 G t1.le (en.stm t1) k1 E (L.after t1)
  | false =>
    rw [if_neg (by decide)] at k1 ⊢
    exact s2 σ F1 H1 s m1 G t1.le (en.stm t1) k1 E (L.after t1)
theorem jss_never {sts : List Stmt} : JSs X W sts vNever := ⟨_, pss_never, fun _ _ _ _ _ _ _ _ h _ _ => h.elim⟩
/-- target = e -/
@[reducible] def vAsg (a : VE) (g : VG) : VS := fun s m G => a s m (fun d m' => g d s fun s' => G.nx s' m') fun e m' => G.ex e s m'
theorem js_asg {tg : Expr} (he : JE X W e ve) (hg : JG X tg js vg) (hs : swapsWithSole [tg] e pos.line X.env = pure false := by rfl) (hw : swappedStores [tg] e X.env = pure none := by rfl) (h1 : (assignEach [tg] X.env).map (·.2) = [assign tg X.env] := by rfl) : JS X W (.Assign [tg] e pos) (vAsg ve vg) := by
  obtain ⟨t, p1, s1⟩ := he; obtain ⟨g, p2, s2⟩ := hg
  exact ⟨_, ps_asg p1 p2 hs hw h1, fun σ F H s m G l en h E L => s1 σ F H s m _ _ l en h (L.x en) _ fun v d F' H' m' t r k => s2 v σ F' H' d s m' _ t.le (en.stm t) r k _ fun σ' s' e' _ g => L.nx σ' s' F' H' m' t e' g⟩
@[reducible] def vSet (i : Nat) (a : VE) : VS := fun s m G => a s m (fun d m' => G.nx (s.set i (some d)) m') fun e m' => G.ex e s m'
theorem js_set {i : Nat} {x : Str} {pos' : Pos} (hN : X.N.Nodup) (hi : X.N[i]? = some x) (hx : Loc X.env.scope x) (he : JE X W e ve) (hs : swapsWith e (some (.Name x pos')) pos.line X.env = pure false := by rfl) (hf : X.fn x = true ∨ X.env.scope.names.lookup x = some .local := by first | exact .inl rfl | exact .inr rfl | assumption) :
    JS X W (.Assign [.Name x pos'] e pos) (vSet i ve) := by
  obtain ⟨t, p1, s1⟩ := he
  exact ⟨_, ps_set hN hi hx p1 hs hf, fun σ F H s m G l en h E L => s1 σ F H s m _ _ l en h (L.x en) _ fun v d F' H' m' t r k => L.nx _ _ F' H' m' t ((en.stm t).set r) k⟩
@[reducible] def vPar (i j : Nat) (a : VA) : VS := fun s m G => a s m (fun ds m' => match ds with
  | [d, e] => G.nx ((s.set i (some d)).set j (some e)) m'
  | _ => False) fun e m' => G.ex e s m'
theorem SndS.par {i j : Nat} {ta : TA} (h1 : SndA X.K X.mg W ta vs) : SndS X.K X.mg W (tPar i j ta) (vPar i j vs) := fun σ F H s m G l en h E L => h1 σ F H s m _ _ l en h (L.x en) _ fun us ds F' H' m' t r k => by
  cases r with
  | nil => exact k.elim
  | cons ra r => cases r with
    | nil => exact k.elim
    | cons rb r => cases r with
      | nil => exact ⟨_, _, rfl, L.nx _ _ F' H' m' t (((en.stm t).set ra).set rb) k⟩
      | cons _ _ => exact k.elim
/-- name op= e -/
@[reducible] def vAug (i : Nat) (o : O2) (a : VE) : VS := fun s m G => vGet s[i]? fun d => a s m (fun e m1 => o d e m1 fun z m2 => G.nx (s.set i (some z)) m2) fun e m' => G.ex e s m'
/-- from now on nobody changes what the slot holds -/
@[reducible] def vFrz (i : Nat) (v : VS) : VS := fun s m G => vGet s[i]? fun d => match d with
  | .ref p => match m p with
    | some o => o.onF fun d => v (s.set i (some d)) (mdel m p) G
    | none => False
  | _ => False
/-- a dict may be locked for good ahead of a block -/
def tLk (t : TS) : TS := fun D σ H => t D σ H ∨ ∃ d u, H d = some u ∧ Mut (some u) ∧ ∀ od, t D σ (upd H d (.frz od u))
theorem pss_lk {sts : List Stmt} {t : TS} (h : PSs X sts t) : PSs X sts (tLk t) := ⟨fun pins s σ H D I hw => by
  rcases hw with hw | ⟨d, u, hd, mu, hw⟩
  · exact h.run pins s σ H D I hw
  · obtain ⟨od, I1⟩ := I.lock hd mu
    exact h.run pins s σ _ D I1 (hw od)⟩
theorem SndS.frz {i : Nat} {t : TS} (h1 : SndS X.K X.mg W t v) : SndS X.K X.mg W (tLk t) (vFrz i v) := fun σ F H s m G l en h E L => by
  unfold vFrz vGet at h
  split at h
  · rename_i d hs
    cases d with
    | ref p =>
      cases hm : m p with
      | none => simp only [hm] at h
      | some o =>
        simp only [hm] at h
        obtain ⟨w, h2, h3⟩ := en.val i _ hs
        obtain rfl := h3.refI
        cases hk0 : o.isK with
        | false =>
          obtain ⟨F', d', st, r, hk⟩ := StM.frz l en.mem hm hk0 h
          exact .inl (h1 σ F' H _ _ G st.le ((en.stm st).told h2 r) hk E (L.after st))
        | true =>
          cases o with
          | dic ds =>
            obtain ⟨xs, hp, st0⟩ := StM.lock l en.mem hm
            refine .inr ⟨p, _, hp, trivial, fun od => ?_⟩
            obtain ⟨F', d', st, r, hk⟩ := StM.frz (u := .lck ds) (st0 od).le (st0 od).mr mset_same rfl (k := fun d => v (s.set i (some d)) (mdel m p) G) h
            have e : mdel (mset m p (.lck ds)) p = mdel m p := by funext b; unfold mdel mset; split <;> rfl
            rw [e] at st
            have st2 := (st0 od).trans st
            exact h1 σ F' _ _ _ G st2.le ((en.stm st2).told h2 r) hk E (L.after st2)
          | _ => cases hk0
    | _ => exact h.elim
  · exact h.elim
theorem jss_frz {sts : List Stmt} (i : Nat) (h : JSs X W sts v) : JSs X W sts (vFrz i v) := by obtain ⟨t, p, s⟩ := h; exact ⟨_, pss_lk p, s.frz⟩
/-- .. of an expression's value -/
@[reducible] def vFz (a : VE) : VE := fun s m k x => a s m (fun d m' => match d with
  | .ref p => match m' p with
    | some o => o.onF fun d => k d (mdel m' p)
    | none => False
  | _ => False) x
/-- a new dict may be locked for good -/
def tLkE (t : TE) : TE := fun σ H Q => t σ H fun v H1 => Q v H1 ∨ ∃ d u, v = .ref d ∧ H1 d = some u ∧ Mut (some u) ∧ ∀ od, Q v (upd H1 d (.frz od u))
theorem pe_lk {e : Expr} {t : TE} (h : PE X e t) : PE X e (tLkE t) := ⟨fun pins s σ H Q I hw => by
  refine thn (h.run pins s σ H _ I hw) fun v s1 ⟨x, H1, I1, r1, q1⟩ => ?_
  rcases q1 with q1 | ⟨d, u, rfl, hd, mu, q1⟩
  · exact ⟨x, H1, I1, r1, q1⟩
  · obtain ⟨od, I2⟩ := I1.lock hd mu
    exact ⟨_, _, I2, r1, q1 od⟩⟩
theorem mdel_lk {m : Mem} {p : Addr} {o : MO} : mdel (mset m p o) p = mdel m p := by funext b; unfold mdel mset; split <;> rfl
theorem je_fz (h : JE X W e ve) : JE X W e (vFz ve) := by
  obtain ⟨t, p, s1⟩ := h
  refine ⟨_, pe_lk p, fun σ F H s m k x l en hv hx Q q => s1 σ F H s m _ x l en hv hx _ fun v d F1 H1 m1 t1 r1 k1 => ?_⟩
  cases d with
  | ref p =>
    cases hm : m1 p with
    | none => simp only [hm] at k1
    | some o =>
      simp only [hm] at k1
      obtain rfl := r1.refI
      cases hk0 : o.isK with
      | false =>
        obtain ⟨F', d', st, r, hk⟩ := StM.frz t1.le t1.mr hm hk0 k1
        exact .inl (q _ _ F' H1 _ (t1.trans st) r hk)
      | true =>
        cases o with
        | dic ds =>
          obtain ⟨xs, hp, st0⟩ := StM.lock t1.le t1.mr hm
          refine .inr ⟨p, _, rfl, hp, trivial, fun od => ?_⟩
          obtain ⟨F', d', st, r, hk⟩ := StM.frz (u := .lck ds) (st0 od).le (st0 od).mr mset_same rfl (k := fun d => k d (mdel m1 p)) k1
          rw [mdel_lk] at st
          exact q _ _ F' _ _ (t1.trans ((st0 od).trans st)) r hk
        | _ => cases hk0
  | _ => exact k1.elim
end
/-! ### loops -/
/-- a for over data; dep: what must stand at each turn -/
def forV (b : D → VS) : List D → VS
  | [], s, m, G => G.nx s m
  | d :: ds, s, m, G => b d s m { G with nx := fun s' m' => forV b ds s' m' G, ct := fun s' m' => forV b ds s' m' G, bk := G.nx }
def forM (dep : Mem → Prop) (b : D → VS) : List D → VS
  | [], s, m, G => dep m ∧ G.nx s m
  | d :: ds, s, m, G => dep m ∧ b d s m { G with nx := fun s' m' => forM dep b ds s' m' G, ct := fun s' m' => forM dep b ds s' m' G, bk := G.nx }
/-- what is walked, over data: it gives ds, item by item, as long as dep stands -/
def ItD (K : PySem.W.Frag) (mg : Str → Option Value) (J : It) (F1 : Hp) (dep : Mem → Prop) (ds : List D) : Prop := ∀ F' H' m' i, Gr F1 F' → Le F' H' → MemR K mg F' H' m' → dep m' →
  (i < ds.length → J.go i H') ∧ (ds.length ≤ i → J.stop i H') ∧ ∀ x H2, i < ds.length → J.yld i H' x H2 → ∃ d F2, ds[i]? = some d ∧ Step F' H' F2 H2 ∧ Rp K mg F2 x d
abbrev VI := SL → Mem → (List D → (Mem → Prop) → Mem → Prop) → KX → Prop
def SndI (K : PySem.W.Frag) (mg : Str → Option Value) (W : WX) (wi : TI) (v : VI) : Prop := ∀ (σ : L2.St) (F H : Hp) (s : SL) (m : Mem) (k : List D → (Mem → Prop) → Mem → Prop) (x : KX), Le F H → EnvR K mg F H σ s m → v s m k x → XOk K mg W σ F H m x → ∀ R : It → Hp → Prop,
  (∀ J ds dep F' H' m', StM K mg m F H F' H' m' → ItD K mg J F' dep ds → k ds dep m' → R J H') → wi σ H R
/-- the same over what is frozen -/
abbrev VF := SL → Mem → (List D → Mem → Prop) → KX → Prop
def SndF (K : PySem.W.Frag) (mg : Str → Option Value) (W : WX) (wi : TI) (v : VF) : Prop := ∀ (σ : L2.St) (F H : Hp) (s : SL) (m : Mem) (k : List D → Mem → Prop) (x : KX), Le F H → EnvR K mg F H σ s m → v s m k x → XOk K mg W σ F H m x → ∀ R : It → Hp → Prop,
  (∀ J ds F' H' m', StM K mg m F H F' H' m' → ItD K mg J F' (fun _ => True) ds → k ds m' → R J H') → wi σ H R
def JF (X : Cx) (W : WX) (tg e : Expr) (v : VF) : Prop := ∃ wi, PI X tg e wi ∧ SndF X.K X.mg W wi v
def JI (X : Cx) (W : WX) (tg e : Expr) (v : VI) : Prop := ∃ wi, PI X tg e wi ∧ SndI X.K X.mg W wi v
theorem drop_of {α : Type} {ds : List α} {i : Nat} {d : α} (hi : ds[i]? = some d) : ds.drop i = d :: ds.drop (i + 1) := by
  obtain ⟨h1, h2⟩ := List.getElem?_eq_some_iff.mp hi
  rw [List.drop_eq_getElem_cons h1, h2]
section
variable {X : Cx} {W : WX} {e tg : Expr} {body : List Stmt} {pos : Pos} {vi : VI} {v : VS} {js : List Nat} {vg : VG} {vt : VT}
@[reducible] def vForM (i : VI) (g : VG) (b : VS) : VS := fun s m G => i s m (fun ds dep m1 => forM dep (fun d s m G => g d s fun s1 => b s1 m G) ds s m1 G) fun e m' => G.ex e s m'
theorem js_forM (hp : PassesOwn (model X.prog X.w) X.A X.env X.xe) (hc : X.calm = true) (hi : JI X W tg e vi) (hg : JG X tg js vg) (hb : JSs X W body v) (hs : ∀ x, foldedSetIterable e X.env x = pure x := by intro _; rfl) : JS X W (.For tg e body [] pos) (vForM vi vg v) := by
  obtain ⟨wi, p0, s0⟩ := hi; obtain ⟨g, p1, s1⟩ := hg; obtain ⟨tb, p2, s2⟩ := hb
  refine ⟨_, ps_for hp hc p0 p1 p2 hs, fun σ F H s m G l en h E L => s0 σ F H s m _ _ l en h (L.x en) _ fun J ds dep F1 H1 m1 t1 J1 h1 => ?_⟩
  have L1 := L.after t1
  refine ⟨fun i n σ' H' => n = ds.length - i ∧ i ≤ ds.length ∧ ∃ s' F' m', StM X.K X.mg m1 F1 H1 F' H' m' ∧ EnvR X.K X.mg F' H' σ' s' m' ∧ forM dep (fun d s m G => vg d s fun s1 => v s1 m G) (ds.drop i) s' m' G,
    ⟨ds.length, rfl, Nat.zero_le _, s, F1, m1, StM.refl t1.le t1.mr, en.stm t1, h1⟩, ?_⟩
  rintro i n σ' H' ⟨rfl, hi, s', F', m', st, e', w⟩
  have hdep : dep m' := by
    cases hd : ds.drop i with
    | nil => rw [hd] at w; exact w.1
    | cons d r => rw [hd] at w; exact w.1
  obtain ⟨j1, j2, j3⟩ := J1 F' H' m' i st.gr st.le st.mr hdep
  by_cases hlt : i < ds.length
  · refine .inr ⟨j1 hlt, fun σ3 H3 => ∃ s' F' m', StM X.K X.mg m1 F1 H1 F' H3 m' ∧ EnvR X.K X.mg F' H3 σ3 s' m' ∧ forM dep (fun d s m G => vg d s fun s1 => v s1 m G) (ds.drop (i + 1)) s' m' G, fun σ3 H3 p => ⟨ds.length - (i + 1), by omega, rfl, hlt, p⟩, fun x H2 y => ?_⟩
    obtain ⟨d, F2, hd, sp, r2⟩ := j3 x H2 hlt y
    rw [drop_of hd] at w
    have st2 := st.trans (sp.stm st.mr)
    refine s1 x σ' F2 H2 d s' m' _ sp.le (e'.stm (sp.stm st.mr)) r2 w.2 _ fun σ2 s2' e2 _ w2 => ?_
    have L2' := L1.after st2
    refine s2 σ2 F2 H2 s2' m' _ sp.le e2 w2 _ ⟨fun σ3 s3 F3 H3 m3 t3 e3 g3 => ⟨s3, F3, m3, st2.trans t3, e3, g3⟩, L2'.rt, L2'.nx, fun σ3 s3 F3 H3 m3 t3 e3 g3 => ⟨s3, F3, m3, st2.trans t3, e3, g3⟩, L2'.ex⟩
  · refine .inl ⟨j2 (by omega), ?_⟩
    rw [List.drop_of_length_le (by omega)] at w
    exact L1.nx σ' s' F' H' m' st e' w.2
/-- over what is frozen -/
@[reducible] def vFor (i : VF) (g : VG) (b : VS) : VS := fun s m G => i s m (fun ds m1 => forV (fun d s m G => g d s fun s1 => b s1 m G) ds s m1 G) fun e m' => G.ex e s m'
theorem js_for {vi : VF} (hp : PassesOwn (model X.prog X.w) X.A X.env X.xe) (hc : X.calm = true) (hi : JF X W tg e vi) (hg : JG X tg js vg) (hb : JSs X W body v) (hs : ∀ x, foldedSetIterable e X.env x = pure x := by intro _; rfl) : JS X W (.For tg e body [] pos) (vFor vi vg v) := by
  obtain ⟨wi, p0, s0⟩ := hi; obtain ⟨g, p1, s1⟩ := hg; obtain ⟨tb, p2, s2⟩ := hb
  refine ⟨_, ps_for hp hc p0 p1 p2 hs, fun σ F H s m G l en h E L => s0 σ F H s m _ _ l en h (L.x en) _ fun J ds F1 H1 m1 t1 J1 h1 => ?_⟩
  have L1 := L.after t1
  refine ⟨fun i n σ' H' => n = ds.length - i ∧ i ≤ ds.length ∧ ∃ s' F' m', StM X.K X.mg m1 F1 H1 F' H' m' ∧ EnvR X.K X.mg F' H' σ' s' m' ∧ forV (fun d s m G => vg d s fun s1 => v s1 m G) (ds.drop i) s' m' G,
    ⟨ds.length, rfl, Nat.zero_le _, s, F1, m1, StM.refl t1.le t1.mr, en.stm t1, h1⟩, ?_⟩
  rintro i n σ' H' ⟨rfl, hi, s', F', m', st, e', w⟩
  obtain ⟨j1, j2, j3⟩ := J1 F' H' m' i st.gr st.le st.mr trivial
  by_cases hlt : i < ds.length
  · refine .inr ⟨j1 hlt, fun σ3 H3 => ∃ s' F' m', StM X.K X.mg m1 F1 H1 F' H3 m' ∧ EnvR X.K X.mg F' H3 σ3 s' m' ∧ forV (fun d s m G => vg d s fun s1 => v s1 m G) (ds.drop (i + 1)) s' m' G, fun σ3 H3 p => ⟨ds.length - (i + 1), by omega, rfl, hlt, p⟩, fun x H2 y => ?_⟩
    obtain ⟨d, F2, hd, sp, r2⟩ := j3 x H2 hlt y
    rw [drop_of hd] at w
    have st2 := st.trans (sp.stm st.mr)
    refine s1 x σ' F2 H2 d s' m' _ sp.le (e'.stm (sp.stm st.mr)) r2 w _ fun σ2 s2' e2 _ w2 => ?_
    have L2' := L1.after st2
    refine s2 σ2 F2 H2 s2' m' _ sp.le e2 w2 _ ⟨fun σ3 s3 F3 H3 m3 t3 e3 g3 => ⟨s3, F3, m3, st2.trans t3, e3, g3⟩, L2'.rt, L2'.nx, fun σ3 s3 F3 H3 m3 t3 e3 g3 => ⟨s3, F3, m3, st2.trans t3, e3, g3⟩, L2'.ex⟩
  · refine .inl ⟨j2 (by omega), ?_⟩
    rw [List.drop_of_length_le (by omega)] at w
    exact L1.nx σ' s' F' H' m' st e' w
/-- a while by an invariant and a measure -/
@[reducible] def vWhile (t : VT) (b : VS) : VS := fun s m G => ∃ I : Nat → SL → Mem → Prop, (∃ n, I n s m) ∧ ∀ n s m, I n s m → t s m (fun c m1 => if c = true then b s m1 { G with nx := fun s' m' => ∃ n', n' < n ∧ I n' s' m', ct := fun s' m' => ∃ n', n' < n ∧ I n' s' m', bk := G.nx } else G.nx s m1) fun e m' => G.ex e s m'
theorem js_while (hp : PassesOwn (model X.prog X.w) X.A X.env X.xe) (hc : JT X W e vt) (hb : JSs X W body v) : JS X W (.While e body [] pos) (vWhile vt v) := by
  obtain ⟨tc, p0, s0⟩ := hc; obtain ⟨tb, p2, s2⟩ := hb
  refine ⟨_, ps_while hp p0 p2, fun σ F H s m G l en h E L => ?_⟩
  obtain ⟨I, ⟨n0, h0⟩, hI⟩ := h
  refine ⟨fun n σ' H' => ∃ s' F' m', StM X.K X.mg m F H F' H' m' ∧ EnvR X.K X.mg F' H' σ' s' m' ∧ I n s' m', ⟨n0, s, F, m, StM.refl l en.mem, en, h0⟩, ?_⟩
  rintro n σ' H' ⟨s', F', m', st, e', i⟩
  refine s0 σ' F' H' s' m' _ _ st.le e' (hI n s' m' i) ((L.after st).x e') _ fun b F1 H1 m1 t1 k1 => ?_
  have st1 := st.trans t1
  have L1 := L.after st1
  cases b with
  | true =>
    rw [if_pos rfl] at k1 ⊢
    refine ⟨fun σ2 H2 => ∃ n', n' < n ∧ ∃ s' F' m', StM X.K X.mg m F H F' H2 m' ∧ EnvR X.K X.mg F' H2 σ2 s' m' ∧ I n' s' m', fun _ _ h => h, ?_⟩
    exact s2 σ' F1 H1 s' m1 _ t1.le (e'.stm t1) k1 _ ⟨fun σ3 s3 F3 H3 m3 t3 e3 ⟨n', hn, g3⟩ => ⟨n', hn, s3, F3, m3, st1.trans t3, e3, g3⟩, L1.rt, L1.nx, fun σ3 s3 F3 H3 m3 t3 e3 ⟨n', hn, g3⟩ => ⟨n', hn, s3, F3, m3, st1.trans t3, e3, g3⟩, L1.ex⟩
  | false =>
    rw [if_neg (by decide)] at k1 ⊢
    exact L1.nx σ' s' F1 H1 m1 (StM.refl t1.le t1.mr) (e'.stm t1) k1
end
end Ts
namespace Ts
open PySem PySem.Spec PyProof.Rows L2
/-! ### what may be walked -/
/-- a list, a tuple or a text -/
def iSeq (K : PySem.W.Frag) (tl : TE) : TI := fun σ H R => tl σ H fun x H1 => (∃ a, x = .ref a ∧ (∃ xs, SqL K H1 a xs) ∧ R (Itl K a) H1) ∨ (∃ a, x = .ref a ∧ (∃ xs, SqT K H1 a xs) ∧ R (Itt K a) H1) ∨ ∃ z, x = .str z ∧ R (Its z) H1
theorem pi_seq {X : Cx} {tg l : Expr} {tl : TE} (hl : PE X l tl) : PI X tg l (iSeq X.K tl) := by
  refine ⟨fun pins s σ H R I h => ?_⟩
  refine thn (hl.run pins s σ H _ I h) fun v s1 ⟨x, H1, I1, r1, q1⟩ => ?_
  rcases q1 with ⟨a, e, ⟨xs, hq⟩, q⟩ | ⟨a, e, ⟨xs, hq⟩, q⟩ | ⟨z, e, q⟩
  · subst e
    cases r1
    obtain ⟨its, rv, p, hz⟩ := I1.list hq
    refine wpAny_pyIter_list p.isList ?_
    refine ⟨s1.heap.objs.size, [s1.heap.objs.size], _, _, H1, rfl, I1.kept (t' := s1.toks) fun b o e => Heap.get?_push_of_some _ e, turn_list a _, ⟨_, Heap.get?_push_size _ rfl, rfl, rfl⟩, fun b hb => ?_, q⟩
    have e : b = s1.heap.objs.size := by simpa using hb
    subst e
    exact I1.fpOk (Nat.le_refl _) (I1.hok.fresh (Nat.le_refl _))
  · subst e
    cases r1
    obtain ⟨its, rv, p, hz⟩ := I1.tuple hq
    refine wpAny_pyIter_tuple (show s1.heap.IsTuple a its.toArray from p) ?_
    refine ⟨s1.heap.objs.size, [s1.heap.objs.size], _, _, H1, rfl, I1.kept (t' := s1.toks) fun b o e => Heap.get?_push_of_some _ e, turn_tuple a _, ⟨_, Heap.get?_push_size _ rfl, rfl, rfl⟩, fun b hb => ?_, q⟩
    have e : b = s1.heap.objs.size := by simpa using hb
    subst e
    exact I1.fpOk (Nat.le_refl _) (I1.hok.fresh (Nat.le_refl _))
  · subst e
    obtain ⟨t, rfl⟩ := r1
    cases ha : z.cps.all (· < 128)
    · exact wpAny_pyIter_wide ha (pi_one (tk := s1.toks) I1 _ (turn_str _ z t "str_iterator" (.inr rfl)) ⟨_, Heap.get?_push_size _ rfl, rfl, rfl⟩ q)
    · exact wpAny_pyIter_ascii ha (pi_one (tk := s1.toks) I1 _ (turn_str _ z t "str_ascii_iterator" (.inl rfl)) ⟨_, Heap.get?_push_size _ rfl, rfl, rfl⟩ q)
/-- the signs of a text -/
def signs (x : Str) : List D := x.cps.toList.map fun c => .str ⟨#[c]⟩
def wkD : D → (List D → Prop) → Prop
  | .lst ds, k => k ds
  | .lat _ ds, k => k ds
  | .tup ds, k => k ds
  | .pr ds, k => k ds
  | .str z, k => k (signs z)
  | _, _ => False
@[reducible] def vWalk (a : VE) : VF := fun s m k x => a s m (fun d m' => wkD d fun ds => k ds m') x
section
variable {K : PySem.W.Frag} {mg : Str → Option Value} {F1 : Hp}
theorem it_list {a : Addr} {xs : List V} {ds : List D} (sq : SqL K F1 a xs) (rl : RpL K mg F1 xs ds) : ItD K mg (Itl K a) F1 (fun _ => True) ds := fun F' H' m' i gr le _ _ => by
  have sq' : SqL K H' a xs := le.sql (gr.sql sq)
  refine ⟨fun hi => ?_, fun hi => ⟨xs, sq', by rw [rl.len]; exact hi⟩, fun x H2 hi y => ?_⟩
  · have hi' : i < xs.length := by rw [rl.len]; exact hi
    exact ⟨xs, xs[i], sq', List.getElem?_eq_getElem hi'⟩
  · obtain ⟨eH, y⟩ := y
    subst eH
    obtain ⟨d, hd, rd⟩ := rl.atV (y xs sq')
    exact ⟨d, F', hd, Step.refl le, rd.mono gr⟩
theorem it_tup {a : Addr} {xs : List V} {ds : List D} (sq : SqT K F1 a xs) (rl : RpL K mg F1 xs ds) : ItD K mg (Itt K a) F1 (fun _ => True) ds := fun F' H' m' i gr le _ _ => by
  have sq' : SqT K H' a xs := le.sqt (gr.sqt sq)
  refine ⟨fun hi => ?_, fun hi => ⟨xs, sq', by rw [rl.len]; exact hi⟩, fun x H2 hi y => ?_⟩
  · have hi' : i < xs.length := by rw [rl.len]; exact hi
    exact ⟨xs, xs[i], sq', List.getElem?_eq_getElem hi'⟩
  · obtain ⟨eH, y⟩ := y
    subst eH
    obtain ⟨d, hd, rd⟩ := rl.atV (y xs sq')
    exact ⟨d, F', hd, Step.refl le, rd.mono gr⟩
theorem it_str {z : Str} : ItD K mg (Its z) F1 (fun _ => True) (signs z) := fun F' H' m' i gr le _ _ => by
  have hl : (signs z).length = z.cps.size := by simp [signs]
  refine ⟨fun hi => by rw [hl] at hi; exact hi, fun hi => by rw [hl] at hi; exact hi, fun y H2 hi w => ?_⟩
  obtain ⟨eH, c, hc, ey⟩ := w
  subst eH ey
  refine ⟨.str ⟨#[c]⟩, F', ?_, Step.refl le, .str _⟩
  have hc' : z.cps.toList[i]? = some c := by simpa using hc
  simp [signs, hc']
/-- the ints from lo on -/
def rngD (lo : Int) (n : Nat) : List D := (List.range n).map fun (i : Nat) => .int (lo + (i : Int))
theorem rngD_len (lo : Int) (n : Nat) : (rngD lo n).length = n := by simp [rngD]
theorem rngD_at {lo : Int} {n i : Nat} (h : i < n) : (rngD lo n)[i]? = some (.int (lo + (i : Int))) := by simp [rngD, h]
theorem it_rng {lo : Int} {n : Nat} : ItD K mg (Itr lo n) F1 (fun _ => True) (rngD lo n) := fun F' H' m' i gr le _ _ =>
  ⟨fun hi => by rw [rngD_len] at hi; exact hi, fun hi => by rw [rngD_len] at hi; exact hi, fun x H2 hi y => by
    obtain ⟨eH, ex⟩ := y
    subst eH ex
    rw [rngD_len] at hi
    exact ⟨_, F', rngD_at hi, Step.refl le, .int _⟩⟩
/-- pairs -/
def zipD (xs ys : List D) : List D := List.zipWith (fun x y => .pr [x, y]) xs ys
def enumD (n : Nat) : List D → List D
  | [] => []
  | d :: ds => .pr [.int (n : Int), d] :: enumD (n + 1) ds
theorem enumD_len : ∀ (ds : List D) (n : Nat), (enumD n ds).length = ds.length
  | [], _ => rfl
  | _ :: ds, n => congrArg Nat.succ (enumD_len ds (n + 1))
theorem enumD_at : ∀ {ds : List D} {n i : Nat} {d : D}, ds[i]? = some d → (enumD n ds)[i]? = some (.pr [.int ((n + i : Nat) : Int), d])
  | [], _, _, _, h => by simp at h
  | e :: ds, n, 0, d, h => by simp at h; subst h; rfl
  | e :: ds, n, i + 1, d, h => by
    have := enumD_at (ds := ds) (n := n + 1) (i := i) (d := d) (by simpa using h)
    rw [show n + 1 + i = n + (i + 1) by omega] at this
    exact this
theorem pair_step {F' H' : Hp} {T : Addr} {x y : V} {dx dy : D} (le : Le F' H') (hT : H' T = none) (rx : Rp K mg F' x dx) (ry : Rp K mg F' y dy) :
    Step F' H' (upd F' T (.tup [x, y])) (upd H' T (.tup [x, y])) ∧ Rp K mg (upd F' T (.tup [x, y])) (.ref T) (.pr [dx, dy]) := by
  have s := Step.new (F := F') (o := .tup [x, y]) le hT
  exact ⟨s, .pr upd_same (.cons (rx.mono s.gr) (.cons (ry.mono s.gr) .nil))⟩
end
section
variable {X : Cx} {W : WX} {e tg : Expr} {ve : VE} {vs : VA} {pos p : Pos}
theorem jf_seq (h : JE X W e ve) : JF X W tg e (vWalk ve) := by
  obtain ⟨t, p, s1⟩ := h
  refine ⟨_, pi_seq p, fun σ F H s m k x l en hv hx R q => s1 σ F H s m _ x l en hv hx _ fun v d F1 H1 m1 t1 r1 k1 => ?_⟩
  cases d with
  | lst ds =>
    obtain ⟨a, xs, rfl, sq, rl⟩ := r1.lstI
    exact .inl ⟨a, rfl, ⟨xs, t1.le.sql (SqL.of sq)⟩, q _ ds F1 H1 m1 t1 (it_list (SqL.of sq) rl) k1⟩
  | lat a ds =>
    obtain ⟨xs, rfl, sq, rl⟩ := r1.latI
    exact .inl ⟨a, rfl, ⟨xs, t1.le.sql sq⟩, q _ ds F1 H1 m1 t1 (it_list sq rl) k1⟩
  | tup ds =>
    obtain ⟨a, xs, rfl, sq, rl⟩ := r1.tupI
    exact .inr (.inl ⟨a, rfl, ⟨xs, t1.le.sqt sq⟩, q _ ds F1 H1 m1 t1 (it_tup sq rl) k1⟩)
  | pr ds =>
    obtain ⟨a, xs, rfl, sq, rl⟩ := r1.prI
    exact .inr (.inl ⟨a, rfl, ⟨xs, t1.le.sqt (SqT.of sq)⟩, q _ ds F1 H1 m1 t1 (it_tup (SqT.of sq) rl) k1⟩)
  | str z => exact .inr (.inr ⟨z, r1.strI, q _ (signs z) F1 H1 m1 t1 it_str k1⟩)
  | _ => exact False.elim k1
@[reducible] def vRng1 (a : VA) : VF := fun s m k x => a s m (fun ds m' => match ds with
  | [.int n] => (-(2 ^ 62) ≤ n ∧ n < 2 ^ 62) ∧ k (rngD 0 n.toNat) m'
  | _ => False) x
@[reducible] def vRng2 (a : VA) : VF := fun s m k x => a s m (fun ds m' => match ds with
  | [.int i, .int n] => (-(2 ^ 62) ≤ i ∧ i < 2 ^ 62 ∧ -(2 ^ 62) ≤ n ∧ n < 2 ^ 62) ∧ k (rngD i (n - i).toNat) m'
  | _ => False) x
theorem jf_rng1 {a : Expr} (hg : Gl X "range") (hm : X.mg "range" = none) (ha : JA X W [a] vs) (hs : starEach [a] X.env = [(false, eval a X.env)] := by rfl) : JF X W tg (.Call (.Name "range" p) [a] [] pos) (vRng1 vs) := by
  obtain ⟨t, p, s1⟩ := ha
  refine ⟨_, pi_range1 hg hm p hs, fun σ F H s m k x l en hv hx R q => s1 σ F H s m _ x l en hv hx _ fun us ds F1 H1 m1 t1 r1 k1 => ?_⟩
  split at k1
  · rename_i n
    obtain ⟨u, rfl, r⟩ := r1.one
    exact ⟨n, by rw [r.intI], k1.1.1, k1.1.2, q _ _ F1 H1 m1 t1 it_rng k1.2⟩
  · exact k1.elim
/-- enumerate of a list -/
@[reducible] def vEnum (a : VA) : VF := fun s m k x => a s m (fun ds m' => match ds with
  | [.lst es] => k (enumD 0 es) m'
  | _ => False) x
/-- zip of two lists, of two tuples; of one length -/
def zpD : List D → (List D → Prop) → Prop
  | [.lst xs, .lst ys], k => xs.length = ys.length ∧ k (zipD xs ys)
  | [.tup xs, .tup ys], k => xs.length = ys.length ∧ k (zipD xs ys)
  | _, _ => False
@[reducible] def vZip (a : VA) : VF := fun s m k x => a s m (fun ds m' => zpD ds fun zs => k zs m') x
theorem jf_zip {elts : List Expr} {kk : Nat} {tpos : Pos} {e2 : Expr} (hg : Gl X "zip") (hm : X.mg "zip" = none) (ha : JA X W [e, e2] vs) (hs : starEach [e, e2] X.env = (false, eval e X.env) :: starEach [e2] X.env := by rfl) (hpl : (backTo pos (starEach [e2] X.env)).any (·.1) = false := by rfl) : JF X W (.Tuple elts kk tpos) (.Call (.Name "zip" p) [e, e2] [] pos) (vZip vs) := by
  obtain ⟨t, p, s1⟩ := ha
  refine ⟨_, RZ.pi_zipA hg hm p hs hpl, fun σ F H s m k x l en hv hx R q => s1 σ F H s m _ x l en hv hx _ fun us ds F1 H1 m1 t1 r1 k1 => ?_⟩
  unfold zpD at k1
  split at k1
  · rename_i dx dy
    obtain ⟨hn, k1⟩ := k1
    have hl : (zipD dx dy).length = dx.length := by simp [zipD, hn]
    obtain ⟨u, w, rfl, ra, rb⟩ := r1.two
    obtain ⟨a, xs, rfl, sa, ra⟩ := ra.lstI
    obtain ⟨b, ys, rfl, sb, rb⟩ := rb.lstI
    refine ⟨a, b, xs, ys, rfl, .inl ⟨t1.le.sql (SqL.of sa), t1.le.sql (SqL.of sb), q _ _ F1 H1 m1 t1 (fun F' H' m' i gr le _ _ => ?_) k1⟩⟩
    have sa' : SqL X.K H' a xs := le.sql (gr.sql (SqL.of sa))
    have sb' : SqL X.K H' b ys := le.sql (gr.sql (SqL.of sb))
    refine ⟨fun hi => ?_, fun hi => ⟨xs, ys, sa', sb', .inl (by rw [ra.len]; omega)⟩, fun x H2 hi y => ?_⟩
    · have h3 : i < xs.length := by rw [ra.len]; omega
      have h4 : i < ys.length := by rw [rb.len]; omega
      exact ⟨xs, ys, xs[i], ys[i], sa', sb', List.getElem?_eq_getElem h3, List.getElem?_eq_getElem h4⟩
    · obtain ⟨T, u, w, rfl, hT, rfl, f1, f2⟩ := y
      obtain ⟨d1, hd1, rd1⟩ := ra.atV (f1 xs sa')
      obtain ⟨d2, hd2, rd2⟩ := rb.atV (f2 ys sb')
      obtain ⟨s, r⟩ := pair_step le hT (rd1.mono gr) (rd2.mono gr)
      exact ⟨.pr [d1, d2], _, by simp [zipD, List.getElem?_zipWith, hd1, hd2], s, r⟩
  · rename_i dx dy
    obtain ⟨hn, k1⟩ := k1
    have hl : (zipD dx dy).length = dx.length := by simp [zipD, hn]
    obtain ⟨u, w, rfl, ra, rb⟩ := r1.two
    obtain ⟨a, xs, rfl, sa, ra⟩ := ra.tupI
    obtain ⟨b, ys, rfl, sb, rb⟩ := rb.tupI
    refine ⟨a, b, xs, ys, rfl, .inr ⟨t1.le.sqt sa, t1.le.sqt sb, q _ _ F1 H1 m1 t1 (fun F' H' m' i gr le _ _ => ?_) k1⟩⟩
    have sa' : SqT X.K H' a xs := le.sqt (gr.sqt sa)
    have sb' : SqT X.K H' b ys := le.sqt (gr.sqt sb)
    refine ⟨fun hi => ?_, fun hi => ⟨xs, ys, sa', sb', .inl (by rw [ra.len]; omega)⟩, fun x H2 hi y => ?_⟩
    · have h3 : i < xs.length := by rw [ra.len]; omega
      have h4 : i < ys.length := by rw [rb.len]; omega
      exact ⟨xs, ys, xs[i], ys[i], sa', sb', List.getElem?_eq_getElem h3, List.getElem?_eq_getElem h4⟩
    · obtain ⟨T, u, w, rfl, hT, rfl, f1, f2⟩ := y
      obtain ⟨d1, hd1, rd1⟩ := ra.atV (f1 xs sa')
      obtain ⟨d2, hd2, rd2⟩ := rb.atV (f2 ys sb')
      obtain ⟨s, r⟩ := pair_step le hT (rd1.mono gr) (rd2.mono gr)
      exact ⟨.pr [d1, d2], _, by simp [zipD, List.getElem?_zipWith, hd1, hd2], s, r⟩
  · exact k1.elim
end
/-! ### comprehensions -/
abbrev nox : KX := fun _ _ => False
def lcV (g : VG) (t : VT) (e : VE) (s : SL) : List D → List D → Mem → (List D → Mem → Prop) → Prop
  | [], acc, m, k => k acc m
  | d :: ds, acc, m, k => g d s fun s1 => t s1 m (fun b m1 => if b = true then e s1 m1 (fun y m2 => lcV g t e s ds (acc ++ [y]) m2 k) nox else lcV g t e s ds acc m1 k) nox
section
variable {K : PySem.W.Frag} {mg : Str → Option Value} {F H F' H' : Hp} {m m' : Mem}
/-- an object of ours that is neither frozen nor in the memory -/
theorem StM.side {p : Addr} {o : HO} (s : StM K mg m F H F' H' m') (h : H p = none) (hf : F' p = none) (hm : m' p = none) : StM K mg m F H F' (upd H' p o) m' := by
  refine ⟨fun a u e n => by rw [upd_ne (ne_of_none e h)]; exact s.ex a u e n, fun a e => ?_, s.gr, fun a u e => ?_, fun a u e => ?_, s.nw, s.nm, fun a ob u e => by rw [upd_ne (ne_of_none e h)]; exact s.fz a ob u e⟩
  · by_cases ha : a = p
    · subst ha; rw [upd_same]; simp
    · rw [upd_ne ha]; exact s.th a e
  · rw [upd_ne (ne_of_none e hf)]; exact s.le a u e
  · have ha : a ≠ p := fun z => by rw [z, hm] at e; cases e
    obtain ⟨h1, h2⟩ := s.mr a u e
    exact ⟨h1, h2.keep (Gr.refl _) fun w q => by rw [upd_ne ha]; exact q⟩
theorem StM.nofz (s : StM K mg m F H F' H' m') {p : Addr} (h : F p = none) (h' : H p ≠ none) (hm : m p = none) : F' p = none ∧ m' p = none := by
  constructor
  · cases e : F' p with
    | none => rfl
    | some o =>
      rcases s.nw p o e with z | z | z
      · rw [h] at z; cases z
      · exact absurd z h'
      · exact absurd hm z
  · cases e : m' p with
    | none => rfl
    | some o =>
      rcases s.nm p (by rw [e]; simp) with z | z
      · exact absurd hm z
      · exact absurd z h'
theorem StM.fzn {p : Addr} {o : HO} (s : StM K mg m F H F' H' m') (h : H p = none) (hf : F' p = none) (hm : m' p = none) (ho : H' p = some o) : StM K mg m F H (upd F' p o) H' m' := by
  refine ⟨s.ex, s.th, s.gr.trans (gr_upd hf), fun a u e => ?_, fun a u e => ?_, fun a u e => ?_, s.nm, s.fz⟩
  · by_cases ha : a = p
    · subst ha; rw [upd_same] at e; cases e; exact .inl ho
    · rw [upd_ne ha] at e; exact s.le a u e
  · have ha : a ≠ p := fun z => by rw [z, hm] at e; cases e
    obtain ⟨h1, h2⟩ := s.mr a u e
    exact ⟨by rw [upd_ne ha]; exact h1, h2.keep (gr_upd hf) fun w q => q⟩
  · by_cases ha : a = p
    · subst ha; exact .inr (.inl h)
    · rw [upd_ne ha] at e; exact s.nw a u e
theorem StM.mem {p : Addr} {u : MO} (s : StM K mg m F H F' H' m') (h : H p = none) (hf : F' p = none) (ho : MoR K mg F' H' p u) : StM K mg m F H F' H' (mset m' p u) := by
  refine ⟨s.ex, s.th, s.gr, s.le, fun a w e => ?_, s.nw, fun a e => ?_, s.fz⟩
  · by_cases ha : a = p
    · subst ha; rw [mset_same] at e; cases e; exact ⟨hf, ho⟩
    · rw [mset_ne ha] at e; exact s.mr a w e
  · by_cases ha : a = p
    · subst ha; exact .inr h
    · rw [mset_ne ha] at e; exact s.nm a e
end
section
variable {X : Cx} {W : WX} {elt tg iter : Expr} {ifs : List Expr} {scope : Scope} {own : List (Str × Nat)} {pos : Pos} {vf : VF} {vg : VG} {vt : VT} {ve : VE} {js : List Nat}
/-- a clause's tests -/
def JTs (X : Cx) (W : WX) (ifs : List Expr) (v : VT) : Prop := ∃ t, PTs X ifs t ∧ SndT X.K X.mg W t v
theorem jts_nil : JTs X W [] vYes := ⟨_, pts_nil, fun σ F H s m k x l en hv _ Q q => q true F H m (StM.refl l en.mem) hv⟩
theorem jts_one {c : Expr} (h : JT X W c vt) : JTs X W [c] vt := by obtain ⟨t, p, s⟩ := h; exact ⟨_, pts_one p, s⟩
@[reducible] def vLc (i : VF) (g : VG) (t : VT) (e : VE) (own : List Nat) : VE := fun s m k x => i s m (fun ds m1 => ds.length ≤ 1000000 ∧ lcV g t e (wipeD s own) ds [] m1 fun es m2 => k (.lst es) m2) x
@[reducible] def vLcO (i : VF) (g : VG) (t : VT) (e : VE) (own : List Nat) : VE := fun s m k x => i s m (fun ds m1 => ds.length ≤ 1000000 ∧ lcV g t e (wipeD s own) ds [] m1 fun es m2 => ∀ p, m2 p = none → k (.ref p) (mset m2 p (.lst es))) x
/-- a new list that nobody holds yet -/
def SndN (K : PySem.W.Frag) (mg : Str → Option Value) (W : WX) (te : TE) (v : SL → Mem → (List D → Mem → Prop) → KX → Prop) : Prop := ∀ (σ : L2.St) (F H : Hp) (s : SL) (m : Mem) (k : List D → Mem → Prop) (x : KX), Le F H → EnvR K mg F H σ s m → v s m k x → XOk K mg W σ F H m x → ∀ Q : VK,
  (∀ p xs ds F' H' m', StM K mg m F H F' H' m' → H p = none → F' p = none → m' p = none → H' p = some (.lst xs) → RpL K mg F' xs ds → k ds m' → Q (.ref p) H') → te σ H Q
theorem SndN.frz {te : TE} {v : SL → Mem → (List D → Mem → Prop) → KX → Prop} (h : SndN X.K X.mg W te v) : SndE X.K X.mg W te (fun s m k x => v s m (fun ds m' => k (.lst ds) m') x) := fun σ F H s m k x l en hv hx Q q =>
  h σ F H s m _ x l en hv hx Q fun p xs ds F' H' m' st h0 hf hm hh r hk => q (.ref p) (.lst ds) _ H' m' (st.fzn h0 hf hm hh) (.lst upd_same (r.mono (gr_upd hf))) hk
theorem SndN.keep {te : TE} {v : SL → Mem → (List D → Mem → Prop) → KX → Prop} (h : SndN X.K X.mg W te v) : SndE X.K X.mg W te (fun s m k x => v s m (fun ds m' => ∀ p, m' p = none → k (.ref p) (mset m' p (.lst ds))) x) := fun σ F H s m k x l en hv hx Q q =>
  h σ F H s m _ x l en hv hx Q fun p xs ds F' H' m' st h0 hf hm hh r hk => q (.ref p) (.ref p) F' H' _ (st.mem h0 hf (u := .lst ds) ⟨xs, hh, r⟩) (.ref p) (hk p hm)
theorem lc_snd {wi : TI} {g : TG} {tt : TT} {te : TE} {vs : List Nat} (hj : ∀ j ∈ js, j ∈ vs) (hi : SndF X.K X.mg W wi vf) (hg : SndG X.K X.mg g js vg) (ht : SndT X.K X.mg W tt vt) (he : SndE X.K X.mg W te ve) :
    SndN X.K X.mg W (tLc wi g tt te vs) (fun s m k x => vf s m (fun ds m1 => ds.length ≤ 1000000 ∧ lcV vg vt ve (wipeD s vs) ds [] m1 k) x) := fun σ F H s m k x l en hv hx Q q =>
  hi σ F H s m _ x l en hv hx _ fun J ds F1 H1 m1 t1 J1 ⟨hz, h1⟩ => fun Dd hD => by
    have e1 := en.stm t1
    have fD : F1 Dd = none := t1.le.none hD
    have mD : m1 Dd = none := t1.mr.free hD
    refine ⟨fun i n H' => n = ds.length - i ∧ i ≤ ds.length ∧ ∃ F' ys acc m', StM X.K X.mg m1 F1 H1 F' H' m' ∧ F' Dd = none ∧ m' Dd = none ∧ H' Dd = some (.lst ys) ∧ RpL X.K X.mg F' ys acc ∧ acc.length ≤ i ∧ lcV vg vt ve (wipeD s vs) (ds.drop i) acc m' k,
      ⟨ds.length, rfl, Nat.zero_le _, F1, [], [], m1, (StM.refl t1.le t1.mr).side hD fD mD, fD, mD, upd_same, .nil, Nat.le_refl _, h1⟩, ?_⟩
    rintro i n H' ⟨rfl, hi, F', ys, acc, m', st, hf, hm, hh, r, hl, w⟩
    obtain ⟨j1, j2, j3⟩ := J1 F' H' m' i st.gr st.le st.mr trivial
    by_cases hlt : i < ds.length
    · refine .inr ⟨j1 hlt, fun H3 => ∃ F' ys acc m', StM X.K X.mg m1 F1 H1 F' H3 m' ∧ F' Dd = none ∧ m' Dd = none ∧ H3 Dd = some (.lst ys) ∧ RpL X.K X.mg F' ys acc ∧ acc.length ≤ i + 1 ∧ lcV vg vt ve (wipeD s vs) (ds.drop (i + 1)) acc m' k, fun H3 p => ⟨ds.length - (i + 1), by omega, rfl, hlt, p⟩, fun x H2 y => ?_⟩
      obtain ⟨d, F2, hd, sp, r2⟩ := j3 x H2 hlt y
      rw [drop_of hd] at w
      have s2 := sp.stm st.mr
      have sa := st.trans s2
      have hne : H' Dd ≠ none := by rw [hh]; simp
      obtain ⟨nf2, nm2⟩ := s2.nofz hf hne hm
      have hh2 : H2 Dd = some (.lst ys) := sp.ex _ _ hh
      refine hg x _ F2 H2 d _ m' _ sp.le ((e1.stm sa).wipe vs) r2 w _ fun σ2 sl2 e2 w2 t2 => ⟨by rw [w2 vs hj]; exact wipe_wipe, ?_⟩
      refine ht σ2 F2 H2 sl2 m' _ _ sp.le e2 t2 XOk.no _ fun b F3 H3 m3 s3 h3 => ?_
      obtain ⟨nf3, nm3⟩ := s3.nofz nf2 (by rw [hh2]; simp) hm
      have hh3 : H3 Dd = some (.lst ys) := s3.ex _ _ hh2 hm
      cases b with
      | true =>
        rw [if_pos rfl] at h3 ⊢
        refine he σ2 F3 H3 sl2 m3 _ _ s3.le (e2.stm s3) h3 XOk.no _ fun v d' F4 H4 m4 s4 r4 h4 => ?_
        obtain ⟨nf4, nm4⟩ := s4.nofz nf3 (by rw [hh3]; simp) nm3
        have hh4 : H4 Dd = some (.lst ys) := s4.ex _ _ hh3 nm3
        have r' : RpL X.K X.mg F4 ys acc := r.mono (sp.gr.trans (s3.gr.trans s4.gr))
        have stt : StM X.K X.mg m1 F1 H1 F4 H4 m4 := (sa.trans s3).trans s4
        refine ⟨ys, hh4, ?_, F4, ys ++ [v], acc ++ [d'], m4, stt.side hD nf4 nm4, nf4, nm4, upd_same, r'.app (.cons r4 .nil), by simp; omega, h4⟩
        rw [r'.len]
        have : sizeLine > 1000000 := by decide
        omega
      | false =>
        rw [if_neg (by decide)] at h3 ⊢
        exact ⟨F3, ys, acc, m3, sa.trans s3, nf3, nm3, hh3, r.mono (sp.gr.trans s3.gr), by omega, h3⟩
    · refine .inl ⟨j2 (by omega), ?_⟩
      rw [List.drop_of_length_le (by omega)] at w
      exact q Dd ys acc F' H' m' (t1.trans st) (t1.back hD) hf hm hh r w
/-- the parts of a comprehension, in every block's context -/
theorem all_je {ι : Type} (Y : ι → Cx) {K : PySem.W.Frag} {mg : Str → Option Value} (hK : ∀ c, (Y c).K = K) (hm : ∀ c, (Y c).mg = mg) {e : Expr} {v : VE} (h : ∀ c, JE (Y c) W e v) : ∃ te, (∀ c, PE (Y c) e te) ∧ SndE K mg W te v := by
  refine ⟨fun σ H Q => ∀ te, SndE K mg W te v → te σ H Q, fun c => ?_, fun σ F H s m k x l en hv hx Q q te hte => hte σ F H s m k x l en hv hx Q q⟩
  obtain ⟨te, p, s⟩ := h c
  rw [hK, hm] at s
  exact ⟨fun pins s' σ H Q I hq => p.run pins s' σ H Q I (hq te s)⟩
theorem all_jts {ι : Type} (Y : ι → Cx) {K : PySem.W.Frag} {mg : Str → Option Value} (hK : ∀ c, (Y c).K = K) (hm : ∀ c, (Y c).mg = mg) {e : List Expr} {v : VT} (h : ∀ c, JTs (Y c) W e v) : ∃ te, (∀ c, PTs (Y c) e te) ∧ SndT K mg W te v := by
  refine ⟨fun σ H Q => ∀ te, SndT K mg W te v → te σ H Q, fun c => ?_, fun σ F H s m k x l en hv hx Q q te hte => hte σ F H s m k x l en hv hx Q q⟩
  obtain ⟨te, p, s⟩ := h c
  rw [hK, hm] at s
  exact ⟨fun pins s' σ H Q I hq => p.run pins s' σ H Q I (hq te s)⟩
theorem all_jg {ι : Type} (Y : ι → Cx) {K : PySem.W.Frag} {mg : Str → Option Value} (hK : ∀ c, (Y c).K = K) (hm : ∀ c, (Y c).mg = mg) {e : Expr} {v : VG} (h : ∀ c, JG (Y c) e js v) : ∃ te, (∀ c, PG (Y c) e te) ∧ SndG K mg te js v := by
  refine ⟨fun u σ H Q => ∀ te, SndG K mg te js v → te u σ H Q, fun c => ?_, fun u σ F H d s m k l en r hv Q q te hte => hte u σ F H d s m k l en r hv Q q⟩
  obtain ⟨te, p, s⟩ := h c
  rw [hK, hm] at s
  exact ⟨fun pins s' σ H v u Q I r hq => p.run pins s' σ H v u Q I r (hq te s)⟩
abbrev BX (X : Cx) (scope : Scope) (c : Shared × Hp × Addr × List (Str × Addr) × List Addr) : Cx := X.blk c.1 c.2.1 scope (compEnvC scope c.2.2.2.1 c.2.2.1 X.env) c.2.2.2.2
theorem lc_core {vs : List Nat} (hvs : vs = own.map (·.2)) (hj : ∀ j ∈ js, j ∈ vs) (hc : X.calm = true) (hN : X.N.Nodup) (hi : JF X W tg iter vf) (ok : BlkOk X.N X.env.scope scope own) (hg : ∀ c, JG (BX X scope c) tg js vg) (ht : ∀ c, JTs (BX X scope c) W ifs vt) (he : ∀ c, JE (BX X scope c) W elt ve) :
    ∃ wi g tt te, PI X tg iter wi ∧ (∀ c, PG (BX X scope c) tg g) ∧ (∀ c, PTs (BX X scope c) ifs tt) ∧ (∀ c, PE (BX X scope c) elt te) ∧ SndN X.K X.mg W (tLc wi g tt te vs) (fun s m k x => vf s m (fun ds m1 => ds.length ≤ 1000000 ∧ lcV vg vt ve (wipeD s vs) ds [] m1 k) x) := by
  obtain ⟨wi, p0, s0⟩ := hi
  obtain ⟨g, p1, s1⟩ := all_jg (BX X scope) (fun _ => rfl) (fun _ => rfl) hg
  obtain ⟨tt, p2, s2⟩ := all_jts (BX X scope) (fun _ => rfl) (fun _ => rfl) ht
  obtain ⟨te, p3, s3⟩ := all_je (BX X scope) (fun _ => rfl) (fun _ => rfl) he
  exact ⟨wi, g, tt, te, p0, p1, p2, p3, lc_snd hj s0 s1 s2 s3⟩
theorem je_lc {vs : List Nat} (hvs : vs = own.map (·.2)) (hj : ∀ j ∈ js, j ∈ vs) (hc : X.calm = true) (hN : X.N.Nodup) (hi : JF X W tg iter vf) (ok : BlkOk X.N X.env.scope scope own) (hg : ∀ c, JG (BX X scope c) tg js vg) (ht : ∀ c, JTs (BX X scope c) W ifs vt) (he : ∀ c, JE (BX X scope c) W elt ve)
    (hs : ∀ x, foldedSetIterable iter X.env x = pure x := by intro _; rfl) : JE X W (.ListComp elt [⟨tg, iter, ifs, 0⟩] scope pos) (vLc vf vg vt ve vs) := by
  obtain ⟨wi, g, tt, te, p0, p1, p2, p3, sn⟩ := lc_core hvs hj hc hN hi ok hg ht he
  subst hvs
  exact ⟨_, pe_lc hc hN p0 ok (fun s H C cl fp => p1 (s, H, C, cl, fp)) (fun s H C cl fp => p2 (s, H, C, cl, fp)) (fun s H C cl fp => p3 (s, H, C, cl, fp)) hs, sn.frz⟩
theorem je_lcO {vs : List Nat} (hvs : vs = own.map (·.2)) (hj : ∀ j ∈ js, j ∈ vs) (hc : X.calm = true) (hN : X.N.Nodup) (hi : JF X W tg iter vf) (ok : BlkOk X.N X.env.scope scope own) (hg : ∀ c, JG (BX X scope c) tg js vg) (ht : ∀ c, JTs (BX X scope c) W ifs vt) (he : ∀ c, JE (BX X scope c) W elt ve)
    (hs : ∀ x, foldedSetIterable iter X.env x = pure x := by intro _; rfl) : JE X W (.ListComp elt [⟨tg, iter, ifs, 0⟩] scope pos) (vLcO vf vg vt ve vs) := by
  obtain ⟨wi, g, tt, te, p0, p1, p2, p3, sn⟩ := lc_core hvs hj hc hN hi ok hg ht he
  subst hvs
  exact ⟨_, pe_lc hc hN p0 ok (fun s H C cl fp => p1 (s, H, C, cl, fp)) (fun s H C cl fp => p2 (s, H, C, cl, fp)) (fun s H C cl fp => p3 (s, H, C, cl, fp)) hs, sn.keep⟩
theorem js_setLc {i : Nat} {y : Str} {py spos : Pos} {vs : List Nat} (hyl : X.env.scope.names.lookup y = some .local) (hsw : swapsWith (.ListComp elt [⟨tg, iter, ifs, 0⟩] scope pos) (some (.Name y py)) spos.line X.env = pure true) (hy : X.N[i]? = some y)
    (hvs : vs = own.map (·.2)) (hj : ∀ j ∈ js, j ∈ vs) (hc : X.calm = true) (hN : X.N.Nodup) (hi : JF X W tg iter vf) (ok : BlkOk X.N X.env.scope scope own) (hg : ∀ c, JG (BX X scope c) tg js vg) (ht : ∀ c, JTs (BX X scope c) W ifs vt) (he : ∀ c, JE (BX X scope c) W elt ve)
    (hs : ∀ x, foldedSetIterable iter X.env x = pure x := by intro _; rfl) : JS X W (.Assign [.Name y py] (.ListComp elt [⟨tg, iter, ifs, 0⟩] scope pos) spos) (vSet i (vLc vf vg vt ve vs)) := by
  obtain ⟨wi, g, tt, te, p0, p1, p2, p3, sn⟩ := lc_core hvs hj hc hN hi ok hg ht he
  subst hvs
  exact ⟨_, ps_setLc hc hN hy hyl hsw p0 ok (fun s H C cl fp => p1 (s, H, C, cl, fp)) (fun s H C cl fp => p2 (s, H, C, cl, fp)) (fun s H C cl fp => p3 (s, H, C, cl, fp)) hs, fun σ F H s m G l en h E L =>
    sn.frz σ F H s m (fun d m' => G.nx (s.set i (some d)) m') _ l en h (L.x en) _ fun v d F' H' m' t r k => L.nx _ _ F' H' m' t ((en.stm t).set r) k⟩
end
end Ts
namespace Ts
open PySem PySem.Spec PyProof.Rows L2
/-! ### what a def promises, over data -/
abbrev P0 := List D → Mem → KD → Prop
abbrev PX := List D → Mem → KD → KX → Prop
/-- it raises nothing -/
def Sp0 (K : PySem.W.Frag) (mg : Str → Option Value) (φ : P0) : Sp := fun vs H Q _ => ∃ F ds m k, Le F H ∧ RpL K mg F vs ds ∧ MemR K mg F H m ∧ φ ds m k ∧ ∀ v d F' H' m', StM K mg m F H F' H' m' → Rp K mg F' v d → k d m' → Q v H'
/-- it may raise -/
def SpX (K : PySem.W.Frag) (mg : Str → Option Value) (φ : PX) : Sp := fun vs H Q E => ∃ F ds m k x, Le F H ∧ RpL K mg F vs ds ∧ MemR K mg F H m ∧ φ ds m k x ∧ (∀ v d F' H' m', StM K mg m F H F' H' m' → Rp K mg F' v d → k d m' → Q v H') ∧
  ∀ cls dd e F' H' m', StM K mg m F H F' H' m' → RpX K mg F' H' cls dd e → x e m' → E cls dd H'
/-- a def by its name: where it stands, what it promises to positional arguments -/
structure Fn (P : Program) (w : World) (K : PySem.W.Frag) (mg : Str → Option Value) (base : Heap) (x : Str) (k : Nat) (φ : P0) : Prop where
  ex : ∃ f, mg x = some (.ref f) ∧ PySem.W.keepIn K (.ref f) = true ∧ FnR P w K mg base CX0 k f (Sp0 K mg φ)
structure FnX (P : Program) (w : World) (K : PySem.W.Frag) (mg : Str → Option Value) (base : Heap) (x : Str) (k : Nat) (φ : PX) : Prop where
  ex : ∃ f, mg x = some (.ref f) ∧ PySem.W.keepIn K (.ref f) = true ∧ FnR P w K mg base (L2.CX P w) k f (SpX K mg φ)
section
variable {P : Program} {w : World} {K : PySem.W.Frag} {mg : Str → Option Value} {base : Heap} {x : Str} {k : Nat}
theorem Fn.mk1 {φ : P0} {f : Addr} {fd : FuncData} {ps : List Str} (hm : mg x = some (.ref f)) (kp : PySem.W.keepIn K (.ref f) = true) (b : Binds K fd ps []) (F : FnOk P w K mg base CX0 k f fd ps (Sp0 K mg φ)) : Fn P w K mg base x k φ :=
  ⟨f, hm, kp, (F.raw b .nil).imp fun vs H Q E h => by rw [List.append_nil]; exact h⟩
theorem FnX.mk1 {φ : PX} {f : Addr} {fd : FuncData} {ps : List Str} (hm : mg x = some (.ref f)) (kp : PySem.W.keepIn K (.ref f) = true) (b : Binds K fd ps []) (F : FnOk P w K mg base (L2.CX P w) k f fd ps (SpX K mg φ)) : FnX P w K mg base x k φ :=
  ⟨f, hm, kp, (F.raw b .nil).imp fun vs H Q E h => by rw [List.append_nil]; exact h⟩
theorem Fn.imp {φ φ' : P0} (h : Fn P w K mg base x k φ) (i : ∀ ds m k, φ' ds m k → φ ds m k) : Fn P w K mg base x k φ' := by
  obtain ⟨f, h1, h2, h3⟩ := h.ex
  exact ⟨f, h1, h2, h3.imp fun vs H Q E ⟨F, ds, m, k, l, r, mr, p, q⟩ => ⟨F, ds, m, k, l, r, mr, i _ _ _ p, q⟩⟩
theorem Fn.mono {φ : P0} {j : Nat} (h : Fn P w K mg base x k φ) (hj : k ≤ j) : Fn P w K mg base x j φ := by
  obtain ⟨f, h1, h2, h3⟩ := h.ex
  exact ⟨f, h1, h2, h3.mono hj⟩
end
@[reducible] def vCall (φ : P0) (a : VA) : VE := fun s m k x => a s m (fun ds m1 => φ ds m1 k) x
@[reducible] def vCallX (φ : PX) (a : VA) : VE := fun s m k x => a s m (fun ds m1 => φ ds m1 k x) x
section
variable {X : Cx} {W : WX} {x : Str} {k : Nat} {e : Expr} {es : List Expr} {vs : VA} {p pos : Pos}
theorem run_Fn {sp : Sp} {E : L2.St → XK} {pins : List (Addr × Obj)} {σ : L2.St} {H : Hp} {s : Shared} {Q : VK} {us : List Value} {vs : List V} {f : Addr} {CX : CXT} (F : FnR X.prog X.w X.K X.mg X.base CX k f sp) (hr : Room k X.A) (hx : PassesAt CX X σ (E σ)) (I : Inv X pins σ H s) (r : Vals vs us) (h : sp vs H Q (E σ)) : wpAny (model X.prog X.w) X.A (call (.ref f) us) (EP X pins σ Q) X.xe s := by
  refine wpAny_call (codeAny_mono (F X.A X.stack s H us vs Q (E σ) hr I.env0 r h) fun r s' hq => ?_)
  cases r with
  | error e => exact hx pins H s e s' I hq
  | ok fl =>
    cases fl with
    | ret u => exact I.after hq
    | next => exact False.elim hq
    | brk => exact False.elim hq
    | cont => exact False.elim hq
theorem pe_fnR {sp : Sp} {E : L2.St → XK} {CX : CXT} {t : TA} {f : Addr} (F : FnR X.prog X.w X.K X.mg X.base CX k f sp) (h1 : X.mg x = some (.ref f)) (h2 : PySem.W.keepIn X.K (.ref f) = true) (hr : Room k X.A) (hx : ∀ σ, PassesAt CX X σ (E σ)) (hg : Gl X x) (ha : PA X (e :: es) t) (hdb : (x == ("__debug__" : Str)) = false := by decide) (he : starEach (e :: es) X.env = (false, eval e X.env) :: starEach es X.env := by rfl) (hpl : (backTo pos (starEach es X.env)).any (·.1) = false := by rfl) :
    PE X (.Call (.Name x p) (e :: es) [] pos) (tCallS sp E t) := by
  refine ⟨fun pins s σ H Q I h => ?_⟩
  refine wpAny_Call_Name_kw (ld_glob I hg h1 ?_ hdb)
  refine PySem.W.callWith_K (h₀ := X.base) I.ok.mod.kin h2 (thn (ha.run pos pins s σ H _ I h) fun us s1 ⟨vs, H1, I1, r, q⟩ => ⟨I1.kIn, ?_⟩) he hpl
  exact run_Fn F hr (hx σ) I1 r q
theorem passAt0 {σ : L2.St} : PassesAt CX0 X σ E0 := fun _ _ _ _ _ _ h => h.elim
theorem SndA.call0 {φ : P0} {ta : TA} (s1 : SndA X.K X.mg W ta vs) : SndE X.K X.mg W (tCallS (Sp0 X.K X.mg φ) (fun _ => E0) ta) (vCall φ vs) := fun σ F H s m k x l en hv hx Q q => s1 σ F H s m _ x l en hv hx _ fun us ds F1 H1 m1 t1 r1 k1 =>
  ⟨F1, ds, m1, k, t1.le, r1, t1.mr, k1, fun v d F' H' m' st r hk => q v d F' H' m' (t1.trans st) r hk⟩
theorem je_fn {φ : P0} (G : Fn X.prog X.w X.K X.mg X.base x k φ) (hr : Room k X.A) (hg : Gl X x) (ha : JA X W (e :: es) vs) (hdb : (x == ("__debug__" : Str)) = false := by decide) (he : starEach (e :: es) X.env = (false, eval e X.env) :: starEach es X.env := by rfl) (hpl : (backTo pos (starEach es X.env)).any (·.1) = false := by rfl) :
    JE X W (.Call (.Name x p) (e :: es) [] pos) (vCall φ vs) := by
  obtain ⟨f, h1, h2, h3⟩ := G.ex; obtain ⟨ta, p1, s1⟩ := ha
  exact ⟨_, pe_fnR h3 h1 h2 hr (fun _ => passAt0) hg p1 hdb he hpl, s1.call0⟩
end
/-! ### a def's body -/
/-- the slots at a def's entry -/
def dstart (n : Nat) (ds : List D) : SL := ds.map some ++ List.replicate (n - ds.length) none
theorem env_start {K : PySem.W.Frag} {mg : Str → Option Value} {F H : Hp} {m : Mem} {N : List Str} {vs : List V} {ds : List D} (mr : MemR K mg F H m) (r : RpL K mg F vs ds) : EnvR K mg F H (L2.start N vs) (dstart N.length ds) m := by
  have hl := r.len
  refine ⟨by simp [L2.start, dstart, hl], fun i d h => ?_, mr⟩
  unfold dstart at h
  rw [List.getElem?_append] at h
  split at h
  · rw [List.getElem?_map] at h
    cases hd : ds[i]? with
    | none => rw [hd] at h; cases h
    | some d' =>
      rw [hd] at h
      cases h
      obtain ⟨v, h1, h2⟩ := r.at hd
      refine ⟨v, ?_, h2⟩
      unfold L2.start
      rw [List.getElem?_append_left (by rw [List.length_map]; exact (List.getElem?_eq_some_iff.mp h1).1), List.getElem?_map, h1]
      rfl
  · cases List.eq_of_mem_replicate (List.mem_of_getElem? h)
/-- the end of a def's body: what it does not need any more may be forgotten -/
abbrev endV (k : KD) : DE := { nx := fun _ m' => ∃ m'', MLe m'' m' ∧ k .non m'', rt := fun d m' => ∃ m'', MLe m'' m' ∧ k d m'' }
abbrev endX (k : KD) (x : KX) : DE := { nx := fun _ m' => ∃ m'', MLe m'' m' ∧ k .non m'', rt := fun d m' => ∃ m'', MLe m'' m' ∧ k d m'', ex := fun e _ m' => ∃ m'', MLe m'' m' ∧ x e m'' }
section
variable {P : Program} {w : World} {K : PySem.W.Frag} {mg : Str → Option Value} {base : Heap} {x qual : Str} {params : Arguments} {body : List Stmt} {scope : Scope} {dvs : List V} {kws : List (Str × V)} {f : Addr} {fd : FuncData}
theorem fn_0 {φ : P0} {v : VS} {N ps : List Str} {k : Nat} (F : FunD K x qual params body scope dvs kws f fd) (S : FnScope N ps scope) (hl : ∀ ds m k, φ ds m k → ds.length = ps.length)
    (hb : ∀ (cdv : Value) (A : Around) (outer : List Env) (s : Shared) (H : Hp) (E : XK), Room k (A.deeper (envOfC qual scope s.heap.objs.size f cdv)) → JSs (cxOf CX0 P w K mg base N qual scope f cdv A outer s H E).nox (fun _ _ _ _ => False) body v)
    (hw : ∀ ds m k, φ ds m k → v (dstart N.length ds) m (endV k)) : FnOk P w K mg base CX0 (k + 1) f fd ps (Sp0 K mg φ) := by
  refine F.ok S (fun vs H Q E ⟨F, ds, m, k, l, r, mr, p, q⟩ => by rw [r.len, hl _ _ _ p]) fun cdv A outer s H vs Q E hr ⟨F, ds, m, k, l, r, mr, p, q⟩ => ?_
  obtain ⟨t, ht, hs⟩ := hb cdv A outer s H E hr
  refine ⟨t, ht.nox, hs _ F H _ m _ l (env_start mr r) (hw _ _ _ p) _ ⟨fun σ' s' F' H' m' st e ⟨m'', hm, g⟩ => q _ _ F' H' m'' (st.sub hm) .non g, fun v d F' H' m' st rd ⟨m'', hm, g⟩ => q v d F' H' m'' (st.sub hm) rd g, fun _ _ _ _ _ _ _ g => g.elim, fun _ _ _ _ _ _ _ g => g.elim, fun _ _ _ _ _ _ _ _ _ _ _ g => g.elim⟩⟩
/-- .. of a def that leaves the memory as it is -/
abbrev endP (k : KD) : DE := { nx := fun _ m' => k .non m', rt := fun d m' => k d m' }
theorem fn_P {φ : P0} {v : VS} {N ps : List Str} {k : Nat} (F : FunD K x qual params body scope dvs kws f fd) (S : FnScope N ps scope) (hl : ∀ ds m k, φ ds m k → ds.length = ps.length)
    (hb : ∀ (cdv : Value) (A : Around) (outer : List Env) (s : Shared) (H : Hp) (E : XK), Room k (A.deeper (envOfC qual scope s.heap.objs.size f cdv)) → JSs (cxOf CX0 P w K mg base N qual scope f cdv A outer s H E).nox (fun _ _ _ _ => False) body v)
    (hw : ∀ ds m k, φ ds m k → v (dstart N.length ds) m (endP k)) : FnOk P w K mg base CX0 (k + 1) f fd ps (Sp0 K mg φ) := by
  refine F.ok S (fun vs H Q E ⟨F, ds, m, k, l, r, mr, p, q⟩ => by rw [r.len, hl _ _ _ p]) fun cdv A outer s H vs Q E hr ⟨F, ds, m, k, l, r, mr, p, q⟩ => ?_
  obtain ⟨t, ht, hs⟩ := hb cdv A outer s H E hr
  refine ⟨t, ht.nox, hs _ F H _ m _ l (env_start mr r) (hw _ _ _ p) _ ⟨fun σ' s' F' H' m' st e g => q _ _ F' H' m' st .non g, fun v d F' H' m' st rd g => q v d F' H' m' st rd g, fun _ _ _ _ _ _ _ g => g.elim, fun _ _ _ _ _ _ _ g => g.elim, fun _ _ _ _ _ _ _ _ _ _ _ g => g.elim⟩⟩
theorem fn_X {φ : PX} {v : VS} {N ps : List Str} {k : Nat} (F : FunD K x qual params body scope dvs kws f fd) (S : FnScope N ps scope) (hl : ∀ ds m k x, φ ds m k x → ds.length = ps.length)
    (hb : ∀ (cdv : Value) (A : Around) (outer : List Env) (s : Shared) (H : Hp) (E : XK), Room k (A.deeper (envOfC qual scope s.heap.objs.size f cdv)) → JSs (cxOf (L2.CX P w) P w K mg base N qual scope f cdv A outer s H E) (fun cls d _ H => E cls d H) body v)
    (hw : ∀ ds m k x, φ ds m k x → v (dstart N.length ds) m (endX k x)) : FnOk P w K mg base (L2.CX P w) (k + 1) f fd ps (SpX K mg φ) := by
  refine F.ok S (fun vs H Q E ⟨F, ds, m, k, x, l, r, mr, p, q⟩ => by rw [r.len, hl _ _ _ _ p]) fun cdv A outer s H vs Q E hr ⟨F, ds, m, k, x, l, r, mr, p, q, qx⟩ => ?_
  obtain ⟨t, ht, hs⟩ := hb cdv A outer s H E hr
  refine ⟨t, ht, hs _ F H _ m _ l (env_start mr r) (hw _ _ _ _ p) _ ⟨fun σ' s' F' H' m' st e ⟨m'', hm, g⟩ => q _ _ F' H' m'' (st.sub hm) .non g, fun v d F' H' m' st rd ⟨m'', hm, g⟩ => q v d F' H' m'' (st.sub hm) rd g, fun _ _ _ _ _ _ _ g => g.elim, fun _ _ _ _ _ _ _ g => g.elim, fun cls dd e σ' s' F' H' m' st _ rx ⟨m'', hm, g⟩ => qx cls dd e F' H' m'' (st.sub hm) rx g⟩⟩
end
/-! ### the feed -/
section
variable {P : Program} {w : World} {K : PySem.W.Frag} {mg : Str → Option Value} {base : Heap} {k : Nat} {f : Addr} {fd : FuncData} {ps : List Str}
theorem feedP_stable {cs a : Addr} : ∀ h1 h2 : Heap, feedP cs a h1 → (∀ o, h1.get? a = some o → h2.get? a = some o) → feedP cs a h2 := fun h1 h2 ⟨its, n, i, j, m, e, r⟩ g => ⟨its, n, i, j, m, g _ e, r⟩
/-- one tracked object is told otherwise: its own description holds, nothing else speaks of it -/
theorem hok_told {H : Hp} {h : Heap} {a : Addr} {o u : HO} (hok : HOk P w H h) (e : H a = some o) (ho : ∀ y, o ≠ .own y) (ht : ∀ xs, o ≠ .tup xs) (new : ObjOk P w (upd H a u) h a u) : HOk P w (upd H a u) h := fun b v q => by
  by_cases hb : b = a
  · subst hb; rw [upd_same] at q; cases q; exact new
  · rw [upd_ne hb] at q
    refine (hok b v q).stay (fun c x _ z => z) (fun c z => ?_) fun c xs z => ?_
    · have : c ≠ a := fun y => by subst y; rw [e] at z; exact ho b (Option.some.inj z)
      rw [upd_ne this]; exact z
    · have : c ≠ a := fun y => by subst y; rw [e] at z; exact ht xs (Option.some.inj z)
      rw [upd_ne this]; exact z
/-- a draw, over the feed as a list of the memory -/
abbrev phDrawM (pre : Int → Prop) : P0 := fun ds m k => ∃ (a cs : Addr) (n i j mk : Int) (ns : List Int), ds = [.ref a, .int n] ∧ m a = some (.lst [.lat cs (ns.map D.int), .int i, .int j, .int mk]) ∧ 0 ≤ i ∧ pre n ∧
  ∀ r i' j' : Int, 0 ≤ r → r < n → 0 ≤ i' → k (.int r) (mset m a (.lst [.lat cs (ns.map D.int), .int i', .int j', .int mk]))
/-- .. over the feed, whatever it holds -/
abbrev phDraw (pre : Int → Prop) : P0 := fun ds m k => match ds with
  | [.feed, .int n] => pre n ∧ ∀ r : Int, 0 ≤ r → r < n → k (.int r) m
  | _ => False
theorem draw_shift {pre : Int → Prop} (hp : ps.length = 2) (G : FnOk P w K mg base CX0 k f fd ps (Sp0 K mg (phDrawM pre))) : FnOk P w K mg base CX0 k f fd ps (Sp0 K mg (phDraw pre)) := by
  refine ⟨fun vs H Q E ⟨F, ds, m, k, l, r, mr, p, q⟩ => ?_, fun A outer s H args us vs Q E hr e0 hb hv ⟨F, ds, mm, k, l, r, mr, p, q⟩ => ?_⟩
  · unfold phDraw at p
    split at p
    · rw [r.len, hp]; rfl
    · exact p.elim
  unfold phDraw at p
  split at p
  case h_2 => exact p.elim
  rename_i m
  obtain ⟨hpre, hk⟩ := p
  obtain ⟨u1, u2, rfl, ra, rm⟩ := r.two
  obtain rfl := rm.intI
  cases ra with
  | @feed a cs ns fa sq =>
    have ha : H a = some (feedO cs a) := l.ext fa
    obtain ⟨⟨its, n, i, j, mk, hg, rv, hi⟩, _, _⟩ := (show ObjOk P w H s.heap a (.ext (feedP cs a)) from e0.hok a _ ha)
    have nz : ∀ b, H b = none → b ≠ a := fun b hb z => by subst z; rw [ha] at hb; cases hb
    have ma : mm a = none := by
      cases q : mm a with
      | none => rfl
      | some o => rw [(mr a o q).1] at fa; cases fa
    have e2 : Env0 P w K mg base A outer s (upd H a (.lst [.ref cs, .int i, .int j, .int mk])) :=
      ⟨e0.frames, e0.mod, fun b o e => ⟨(e0.bs b o e).1, by rw [upd_ne (nz b (e0.bs b o e).2)]; exact (e0.bs b o e).2⟩, e0.bsz, e0.funs, fun b hb => by rw [upd_ne (nz b (e0.frf b hb))]; exact e0.frf b hb,
        hok_told e0.hok ha (fun y z => by unfold feedO at z; cases z) (fun y z => by unfold feedO at z; cases z) ⟨by show 4 ≤ sizeLine; decide, its, n, rv, hg⟩, e0.bare⟩
    have l2 : Le (fun b => if b = a then none else F b) (upd H a (.lst [.ref cs, .int i, .int j, .int mk])) := fun b o e => by
      have e : (if b = a then none else F b) = some o := e
      by_cases hb : b = a
      · rw [if_pos hb] at e; cases e
      · rw [if_neg hb] at e; rw [upd_ne hb]; exact l b o e
    have cne : ∀ (o : HO), F cs = some o → (∀ p, o ≠ .ext p) → cs ≠ a := fun o e n z => by subst z; rw [fa] at e; cases e; exact n _ rfl
    have sq2 : SqL K (fun b => if b = a then none else F b) cs (ns.map V.int) := by
      rcases sq with (h | ⟨od, h⟩) | h
      · exact .inl (.inl (by show (if cs = a then none else F cs) = _; rw [if_neg (cne _ h (fun p z => by cases z))]; exact h))
      · exact .inl (.inr ⟨od, by show (if cs = a then none else F cs) = _; rw [if_neg (cne _ h (fun p z => by cases z))]; exact h⟩)
      · exact .inr h
    have mr2 : MemR K mg (fun b => if b = a then none else F b) (upd H a (.lst [.ref cs, .int i, .int j, .int mk])) (mset (fun _ => none) a (.lst [.lat cs (ns.map D.int), .int i, .int j, .int mk])) := fun b o e => by
      by_cases hb : b = a
      · subst hb
        rw [mset_same] at e
        cases e
        exact ⟨if_pos rfl, _, upd_same, .cons (.lat sq2 (RpL.ints ns)) (.cons (.int i) (.cons (.int j) (.cons (.int mk) .nil)))⟩
      · rw [mset_ne hb] at e; cases e
    refine codeAny_mono (G.run A outer s _ args us [.ref a, .int m] (fun v H' => ∃ i' j', 0 ≤ i' ∧ H' a = some (.lst [.ref cs, .int i', .int j', .int mk]) ∧ Q v (upd H' a (feedO cs a))) E hr e2 hb hv
      ⟨_, [.ref a, .int m], _, fun d m' => ∃ r i' j' : Int, d = .int r ∧ 0 ≤ r ∧ r < m ∧ 0 ≤ i' ∧ m' a = some (.lst [.lat cs (ns.map D.int), .int i', .int j', .int mk]), l2, .cons (.ref a) (.cons (.int m) .nil), mr2, ⟨a, cs, m, i, j, mk, ns, rfl, mset_same, hi, hpre, fun r i' j' h0 h1 h2 => ⟨r, i', j', rfl, h0, h1, h2, mset_same⟩⟩,
        fun v d F' H' m' st rd ⟨r, i', j', hd, h0, h1, h2, hm⟩ => ?_⟩) fun res s' hq => ?_
    · subst hd
      obtain rfl := rd.intI
      obtain ⟨f2, ys, h4, rr⟩ := st.mr a _ hm
      have e4 : ys = [.ref cs, .int i', .int j', .int mk] := by
        cases rr with
        | cons r1 rr => cases rr with
          | cons r2 rr => cases rr with
            | cons r3 rr => cases rr with
              | cons r4 rr =>
                cases rr
                rw [r2.intI, r3.intI, r4.intI]
                cases r1
                rfl
      rw [e4] at h4
      have mne : ∀ b, b ≠ a → mset (fun _ => none) a (MO.lst [.lat cs (ns.map D.int), .int i, .int j, .int mk]) b = none := fun b hb => by rw [mset_ne hb]
      have ex' : ∀ b o, b ≠ a → H b = some o → H' b = some o := fun b o hb e => st.ex b o (by rw [upd_ne hb]; exact e) (mne b hb)
      have gr' : Gr F (upd F' a (feedO cs a)) := fun b o e => by
        by_cases hb : b = a
        · subst hb; rw [fa] at e; cases e; exact upd_same
        · rw [upd_ne hb]; exact st.gr b o (by show (if b = a then none else F b) = _; rw [if_neg hb]; exact e)
      refine ⟨i', j', h2, h4, q _ _ (upd F' a (feedO cs a)) _ mm ⟨fun b o e n => ?_, fun b n => ?_, gr', fun b o e => ?_, fun b o e => ?_, fun b o e => ?_, fun _ z => .inl z, fun b ob u e => ?_⟩ (.int r) (hk r h0 h1)⟩
      · by_cases hb : b = a
        · subst hb; rw [ha] at e; cases e; exact upd_same
        · rw [upd_ne hb]; exact ex' b o hb e
      · by_cases hb : b = a
        · subst hb; rw [upd_same]; simp
        · rw [upd_ne hb]; exact st.th b (by rw [upd_ne hb]; exact n)
      · by_cases hb : b = a
        · subst hb; rw [upd_same] at e; cases e; exact .inl upd_same
        · rw [upd_ne hb] at e ⊢; exact st.le b o e
      · have hb : b ≠ a := fun z => by subst z; rw [ma] at e; cases e
        obtain ⟨z1, z2⟩ := mr b o e
        refine ⟨?_, z2.keep gr' fun u hu => ?_⟩
        · rw [upd_ne hb]
          cases q : F' b with
          | none => rfl
          | some w' =>
            rcases st.nw b w' q with z | z | z
            · have z : (if b = a then none else F b) = some w' := z
              rw [if_neg hb, z1] at z; cases z
            · rw [upd_ne hb] at z; exact absurd z z2.there
            · exact absurd (mne b hb) z
        · rw [upd_ne hb]
          exact ex' b u hb hu
      · by_cases hb : b = a
        · subst hb; rw [upd_same] at e; cases e; exact .inl fa
        · rw [upd_ne hb] at e
          rcases st.nw b o e with z | z | z
          · exact .inl (by have z : (if b = a then none else F b) = some o := z; rw [if_neg hb] at z; exact z)
          · exact .inr (.inl (by rw [upd_ne hb] at z; exact z))
          · exact absurd (mne b hb) z
      · have hb : b ≠ a := fun z => by subst z; rw [ha] at e; unfold feedO at e; cases e
        rw [upd_ne hb]; exact st.fz b ob u (by rw [upd_ne hb]; exact e)
    · cases res with
      | error e => exact hq
      | ok fl =>
        cases fl with
        | next => exact hq
        | brk => exact hq
        | cont => exact hq
        | ret u =>
          obtain ⟨v, H', os, bare, un, hok, rv, i', j', h2, hh, hQ⟩ := hq
          have nb : ∀ b u, H b = some u → (∀ p, u ≠ .ext p) → b ≠ a := fun b u e n z => by subst z; rw [ha] at e; cases e; exact n _ rfl
          obtain ⟨_, its', n', rv', hg'⟩ := hok a _ hh
          refine ⟨v, upd H' a (feedO cs a), os, bare, ⟨fun b o e n => un.keep b o e (by rw [upd_ne (nz b n)]; exact n), fun b o e n => un.slot b o e (by rw [upd_ne (nz b n)]; exact n), fun b o e n hx => ?_, un.there, fun b xs e => ?_, fun b o x e => ?_, fun b ps e => ?_⟩, ?_, rv, hQ⟩
          · rw [upd_ne (nz b n)]; exact un.free b o e (by rw [upd_ne (nz b n)]; exact n) hx
          · have hb := nb b _ e (fun p z => by cases z)
            rw [upd_ne hb]; exact un.tups b xs (by rw [upd_ne hb]; exact e)
          · have hb := nb b _ e (fun p z => by cases z)
            rw [upd_ne hb]; exact un.frzs b o x (by rw [upd_ne hb]; exact e)
          · have hb := nb b _ e (fun p z => by cases z)
            rw [upd_ne hb]; exact un.tbls b ps (by rw [upd_ne hb]; exact e)
          · exact hok_told hok hh (fun y z => by cases z) (fun y z => by cases z) ⟨⟨its', n', i', j', mk, hg', rv', h2⟩, ⟨_, hg'⟩, feedP_stable⟩
/-- a new feed: as a new list, as a feed -/
abbrev phFeedL : P0 := fun ds m k => ∃ (a : Addr) (ns : List Int), ds = [.lat a (ns.map D.int)] ∧ ns.length ≤ 100 ∧ ∀ (ms : List Int) (mk : Int) (p : Addr), m p = none → k (.ref p) (mset m p (.lst [.lst (ms.map D.int), .int 0, .int 0, .int mk]))
abbrev phFeed : P0 := fun ds m k => ∃ (a : Addr) (ns : List Int), ds = [.lat a (ns.map D.int)] ∧ ns.length ≤ 100 ∧ k .feed m
theorem RpL.intsV {F : Hp} : ∀ {xs : List V} {ns : List Int}, RpL K mg F xs (ns.map D.int) → xs = ns.map V.int
  | _, [], .nil => rfl
  | _, n :: ns, .cons r s => by rw [r.intI, RpL.intsV s]; rfl
theorem feed_shift (hp : ps.length = 1) (G : FnOk P w K mg base CX0 k f fd ps (Sp0 K mg phFeedL)) : FnOk P w K mg base CX0 k f fd ps (Sp0 K mg phFeed) := by
  refine ⟨fun vs H Q E ⟨F, ds, m, k, l, r, mr, ⟨a, ns, e, _⟩, q⟩ => by subst e; rw [r.len, hp]; rfl, fun A outer s H args us vs Q E hr e0 hb hv ⟨F, ds, mm, k, l, r, mr, ⟨a, ns, e, hn, hk⟩, q⟩ => ?_⟩
  subst e
  refine codeAny_mono (G.run A outer s H args us vs (fun v H' => ∃ (p cs : Addr) (mk : Int), v = .ref p ∧ H p = none ∧ H' p = some (.lst [.ref cs, .int 0, .int 0, .int mk]) ∧ Q v (upd H' p (feedO cs p))) E hr e0 hb hv
    ⟨F, _, fun _ => none, fun d m' => ∃ (ms : List Int) (mk : Int) (p : Addr), d = .ref p ∧ m' p = some (.lst [.lst (ms.map D.int), .int 0, .int 0, .int mk]), l, r, (fun _ _ e => by cases e), ⟨a, ns, rfl, hn, fun ms mk p _ => ⟨ms, mk, p, rfl, mset_same⟩⟩, fun v d F' H' m' st rd ⟨ms, mk, p, hd, hm⟩ => ?_⟩) fun res s' hq => ?_
  · subst hd
    obtain rfl := rd.refI
    obtain ⟨f2, ys, h4, rr⟩ := st.mr p _ hm
    have hp : H p = none := (st.nm p (by rw [hm]; simp)).elim (fun z => absurd rfl z) id
    cases rr with
    | cons r1 rr => cases rr with
      | cons r2 rr => cases rr with
        | cons r3 rr => cases rr with
          | cons r4 rr =>
            cases rr
            obtain ⟨cs, zs, rfl, sq, rl⟩ := r1.lstI
            obtain rfl := r2.intI
            obtain rfl := r3.intI
            obtain rfl := r4.intI
            obtain rfl := RpL.intsV rl
            refine ⟨p, cs, mk, rfl, hp, h4, ?_⟩
            have gr : Gr F' (upd F' p (feedO cs p)) := gr_upd f2
            have hmp : mm p = none := mr.free hp
            refine q _ _ (upd F' p (feedO cs p)) _ mm ⟨fun b o e _ => ?_, fun b n => ?_, st.gr.trans gr, fun b o e => ?_, fun b o e => ?_, fun b o e => ?_, fun _ z => .inl z, fun b ob u e => ?_⟩ (.feed (ns := ms) upd_same (gr.sql (SqL.of sq))) hk
            · rw [upd_ne (ne_of_none e hp)]; exact st.ex b o e rfl
            · by_cases hb : b = p
              · subst hb; exact absurd hp n
              · rw [upd_ne hb]; exact st.th b n
            · by_cases hb : b = p
              · subst hb; rw [upd_same] at e; cases e; exact .inl upd_same
              · rw [upd_ne hb] at e ⊢; exact st.le b o e
            · have hb : b ≠ p := fun z => by subst z; rw [hmp] at e; cases e
              obtain ⟨z1, z2⟩ := mr b o e
              refine ⟨?_, z2.keep (st.gr.trans gr) fun u hu => ?_⟩
              · rw [upd_ne hb]
                cases q : F' b with
                | none => rfl
                | some w' =>
                  rcases st.nw b w' q with z | z | z
                  · rw [z1] at z; cases z
                  · exact absurd z z2.there
                  · exact absurd rfl z
              · rw [upd_ne hb]
                exact st.ex b u hu rfl
            · by_cases hb : b = p
              · subst hb; exact .inr (.inl hp)
              · rw [upd_ne hb] at e
                rcases st.nw b o e with z | z | z
                · exact .inl z
                · exact .inr (.inl z)
                · exact absurd rfl z
            · rw [upd_ne (ne_of_none e hp)]; exact st.fz b ob u e
  · cases res with
    | error e => exact hq
    | ok fl =>
      cases fl with
      | next => exact hq
      | brk => exact hq
      | cont => exact hq
      | ret u =>
        obtain ⟨v, H', os, bare, un, hok, rv, p, cs, mk, ev, hp, hh, hQ⟩ := hq
        obtain ⟨_, its', n', rv', hg'⟩ := hok p _ hh
        refine ⟨v, upd H' p (feedO cs p), os, bare, ⟨un.keep, un.slot, fun b o e n hx => ?_, un.there, fun b xs e => ?_, fun b o x e => ?_, fun b ps e => ?_⟩, ?_, rv, hQ⟩
        · have h1 := un.free b o e n hx
          have : b ≠ p := fun z => by subst z; rw [hh] at h1; cases h1
          rw [upd_ne this]; exact h1
        · rw [upd_ne (ne_of_none e hp)]; exact un.tups b xs e
        · rw [upd_ne (ne_of_none e hp)]; exact un.frzs b o x e
        · rw [upd_ne (ne_of_none e hp)]; exact un.tbls b ps e
        · exact hok_told hok hh (fun y z => by cases z) (fun y z => by cases z) ⟨⟨its', n', 0, 0, mk, hg', rv', Int.le_refl 0⟩, ⟨_, hg'⟩, feedP_stable⟩
end
end Ts
namespace Ts
open PySem PySem.Spec PyProof.Rows L2
/-! ### operators that serve several kinds -/
def r2or (r1 r2 : R2) : R2 := fun x y H Q => r1 x y H Q ∨ r2 x y H Q
section
variable {X : Cx}
theorem opr_or {f : Value → Value → Sem Value} {r1 r2 : R2} (h1 : OpR X f r1) (h2 : OpR X f r2) : OpR X f (r2or r1 r2) := fun pins s σ H x y v u Q I rx ry h => by
  rcases h with h | h
  · exact h1 pins s σ H x y v u Q I rx ry h
  · exact h2 pins s σ H x y v u Q I rx ry h
def rAddS : R2 := fun x y H Q => ∃ i j, x = .str i ∧ y = .str j ∧ i.length + j.length ≤ sizeLine ∧ Q (.str (i ++ j)) H
def rCatN (K : PySem.W.Frag) : R2 := fun x y H Q => ∃ a b xs ys, x = .ref a ∧ y = .ref b ∧ SqT K H a xs ∧ SqT K H b ys ∧ xs ≠ [] ∧ xs.length + ys.length ≤ sizeLine ∧
  (ys = [] → Q (.ref a) H) ∧ (ys ≠ [] → ∀ (p : Addr) (o : Obj), H p = none → o.dict = none → Q (.ref p) (upd H p (.frz o (.tup (xs ++ ys)))))
theorem op_catN : OpR X (binaryOp .Add) (rCatN X.K) := by
  intro pins s σ H x y v u Q I rx ry h
  obtain ⟨a, b, xs, ys, rfl, rfl, ha, hb, hx, hz, q1, q2⟩ := h
  cases rx
  cases ry
  obtain ⟨its, r1, p1, _⟩ := I.tuple ha
  obtain ⟨its2, r2, p2, _⟩ := I.tuple hb
  refine HT.cat_tup p1 p2 (fun z => hx (r1.nil_iff.mp z)) (fun z => ⟨.ref a, H, I, rfl, q1 (r2.nil_iff.mp z)⟩) (fun z => ?_) (by rw [← r1.length, ← r2.length]; exact hz)
  refine ⟨.ref s.heap.objs.size, _, I.laid (t' := s.toks) (o := .frz _ (.tup (xs ++ ys))) (fun b ob q => Heap.get?_push_of_some _ q) (Nat.le_refl _) ⟨Heap.get?_push_size _ rfl, ?_⟩, rfl, q2 (fun w => z (r2.nil_iff.mpr w)) _ _ (I.hok.fresh (Nat.le_refl _)) rfl⟩
  exact ⟨by rw [List.length_append]; exact hz, _, r1.append r2, IsTup.new _ _⟩
theorem call_tupleN : CallR X (.type "tuple") (fun xs H Q => ∃ p ys, xs = [.ref p] ∧ ((SqL X.K H p ys ∧ ∀ (l : Addr) (o : Obj), H l = none → o.dict = none → Q (.ref l) (upd H l (.frz o (.tup ys)))) ∨ (SqT X.K H p ys ∧ Q (.ref p) H))) := by
  intro pins s σ H xs us Q I r h
  obtain ⟨p, ys, rfl, h⟩ := h
  obtain ⟨u, rfl, rx⟩ := vals1 r
  cases rx
  rcases h with ⟨hq, q⟩ | ⟨hq, q⟩
  · obtain ⟨its, r', pl, hz⟩ := I.list hq
    have hlen := r'.length
    refine call_tuple_list pl.isList (fun h' kp => ?_) (by simp only [List.size_toArray] <;> omega)
    have I1 : Inv X pins σ H { s with heap := h' } := I.kept (t' := s.toks) kp
    have I2 : Inv X pins σ (upd H h'.objs.size (.frz { cls := .type "tuple", data := .seq its.toArray } (.tup ys))) { s with heap := h'.push { cls := .type "tuple", data := .seq its.toArray } } :=
      I1.laid (t' := s.toks) (fun b o e => Heap.get?_push_of_some _ e) (Nat.le_refl _) (show ObjOk X.prog X.w _ _ _ (.frz _ (.tup ys)) from ⟨Heap.get?_push_size _ rfl, hz, its, r', IsTup.new _ _⟩)
    exact ⟨.ref h'.objs.size, _, I2, rfl, q _ _ (I1.hok.fresh (Nat.le_refl _)) rfl⟩
  · obtain ⟨its, _, p1, _⟩ := I.tuple hq
    exact call_tuple_same (items := its.toArray) p1 ⟨.ref p, H, I, rfl, q⟩
def uAdd (K : PySem.W.Frag) : R2 := r2or (rI0 fun i j => .int (i + j)) (r2or rAddS (r2or rCat (rCatN K)))
theorem ox_add : OpR X (binaryOp .Add) (uAdd X.K) := opr_or op_add (opr_or op_add_str (opr_or op_cat op_catN))
def MulOk (i j : Int) : Prop := CMul i j ∨ CMulX i j
theorem MulOk.ok {i j : Int} (h : MulOk i j) : IntMulOk i j := h.elim CMul.ok CMulX.ok
/-- a text, so many times -/
def repS (z : Str) (n : Nat) : Str := ⟨(List.replicate n z.cps.toList).flatten.toArray⟩
def rMulS : R2 := fun x y H Q => ∃ z i, x = .str z ∧ y = .int i ∧ 0 ≤ i ∧ i ≤ 1000 ∧ z.length ≤ 1000 ∧ Q (.str (repS z i.toNat)) H
theorem fold_rep (c : Array Nat) : ∀ (n : Nat) (acc : Array Nat), ((List.replicate n c).foldl (· ++ ·) acc).toList = acc.toList ++ (List.replicate n c.toList).flatten
  | 0, acc => by simp
  | n + 1, acc => by
    rw [List.replicate_succ, List.foldl_cons, fold_rep c n, List.replicate_succ, List.flatten_cons, Array.toList_append, List.append_assoc]
theorem str_ext {a b : Str} (h : a.cps.toList = b.cps.toList) : a = b := by
  obtain ⟨⟨a⟩⟩ := a
  obtain ⟨⟨b⟩⟩ := b
  have h : a = b := h
  rw [h]
theorem op_mulS : OpR X (binaryOp .Mult) rMulS := by
  intro pins s σ H x y v u Q I rx ry h
  obtain ⟨z, i, rfl, rfl, h0, h1, hz, q⟩ := h
  obtain ⟨t, rfl⟩ := rx
  obtain ⟨t', rfl⟩ := ry
  have hb : z.length * i.toNat ≤ 1000000 := Nat.le_trans (Nat.mul_le_mul hz (by omega : i.toNat ≤ 1000)) (by decide)
  have hl : Builtin.Str.tooLong (z.length * i.toNat) = false := decide_eq_false (Nat.not_lt.mpr (Nat.le_trans hb (by decide)))
  refine P.mul_str (by rw [decide_eq_false (by omega), decide_eq_false (by omega)]; rfl) (fun hn _ hc => ?_) (fun _ _ => hl) ?_
  · have e : (2 ^ 63 - 1 : Int) / i ≥ (2 ^ 63 - 1) / 1000 := by
      have hp : 0 < i := by omega
      rw [ge_iff_le, Int.le_ediv_iff_mul_le hp]
      have : (2 ^ 63 - 1 : Int) / 1000 * i ≤ (2 ^ 63 - 1) / 1000 * 1000 := Int.mul_le_mul_of_nonneg_left h1 (by decide)
      exact Int.le_trans this (by decide)
    have : ((z.length : Nat) : Int) ≤ 1000 := by omega
    have d : (2 ^ 63 - 1 : Int) / 1000 = 9223372036854775 := by decide
    omega
  · by_cases hn : i < 1
    · rw [if_pos hn]
      have e : i = 0 := by omega
      subst e
      exact ⟨by decide, .str _, H, I.tok _, ⟨_, rfl⟩, q⟩
    · rw [if_neg hn]
      by_cases hc : (i == 1 || z.length == 0) = true
      · rw [if_pos hc]
        have e : repS z i.toNat = z := by
          apply str_ext
          show (List.replicate i.toNat z.cps.toList).flatten = _
          rcases Bool.or_eq_true_iff.mp hc with c | c
          · have : i = 1 := by simpa using c
            subst this
            simp
          · have c : z.length = 0 := beq_iff_eq.mp c
            have : z.cps.toList = [] := by exact List.length_eq_zero_iff.mp (by rw [Array.length_toList]; exact c)
            rw [this]
            simp
        exact ⟨.str z, H, I, ⟨_, rfl⟩, by rw [← e]; exact q⟩
      · rw [if_neg hc]
        have e : repS z i.toNat = ⟨(List.replicate i.toNat z.cps).foldl (· ++ ·) #[]⟩ := by
          apply str_ext
          show (List.replicate i.toNat z.cps.toList).flatten = _
          rw [fold_rep]
          rfl
        rw [e] at q
        exact ⟨by first | exact fits_reps hl | exact PySem.fits_reps hl, .str _, H, I.tok _, ⟨_, rfl⟩, q⟩
def uMul : R2 := r2or (rI MulOk fun i j => .int (i * j)) (r2or rRep rMulS)
theorem ox_mul : OpR X (binaryOp .Mult) uMul := opr_or (opI fun _ _ _ _ _ _ _ hc q => mul_int q hc.ok) (opr_or op_rep op_mulS)
/-- a divisor below 2 ^ 9000 -/
def DivOk (j : Int) : Prop := j ≠ 0 ∧ j.natAbs.log2 < 9000
def uFdiv : R2 := rI (fun _ j => DivOk j) fun i j => .int (i.fdiv j)
theorem ox_fdiv : OpR X (binaryOp .FloorDiv) uFdiv := opI fun i j _ _ _ _ _ hc q => floordiv_int hc.1 q (.inl (PyProof.noPylong_of_log2 hc.2))
def rLtS : R2 := fun x y H Q => ∃ i j, x = .str i ∧ y = .str j ∧ Q (.bl (decide (i.cps.toList < j.cps.toList))) H
def uLt : R2 := r2or (rI0 fun i j => .bl (decide (i < j))) rLtS
theorem ox_lt : OpR X (compareOp .Lt) uLt := opr_or op_lt op_lt_str
def uEq (K : PySem.W.Frag) : R2 := r2or rEq (rEqD K)
theorem ox_eq (hu : X.A.units + 64 < cLine) : OpR X (compareOp .Eq) (uEq X.K) := opr_or op_eq (op_eqD hu)
def uNe (K : PySem.W.Frag) : R2 := r2or rNe (rNeD K)
theorem ox_ne (hu : X.A.units + 64 < cLine) : OpR X (compareOp .NotEq) (uNe X.K) := opr_or op_ne (op_neD hu)
end
/-! ### .. over data -/
def onO {α : Type} : Option α → (α → Prop) → Prop
  | some a, k => k a
  | none, _ => False
/-- what stands at an address is a list -/
def onM : Option MO → (List D → Prop) → Prop
  | some (.lst ds), k => k ds
  | _, _ => False
theorem onO_of {α : Type} {o : Option α} {k : α → Prop} (h : onO o k) : ∃ a, o = some a ∧ k a := by
  cases o with
  | some a => exact ⟨a, rfl, h⟩
  | none => exact h.elim
theorem onM_of {o : Option MO} {k : List D → Prop} (h : onM o k) : ∃ ds, o = some (.lst ds) ∧ k ds := by
  cases o with
  | some a =>
    cases a with
    | lst ds => exact ⟨ds, rfl, h⟩
    | _ => exact h.elim
  | none => exact h.elim
section
variable {K : PySem.W.Frag} {mg : Str → Option Value} {X : Cx}
def oAdd : O2
  | .int i, .int j, m, k => k (.int (i + j)) m
  | .str a, .str b, m, k => a.length + b.length ≤ 1000000 ∧ k (.str (a ++ b)) m
  | .tup a, .tup b, m, k => a ≠ [] ∧ a.length + b.length ≤ 1000000 ∧ k (.tup (a ++ b)) m
  | .lst a, .lst b, m, k => a.length + b.length ≤ 1000000 ∧ k (.lst (a ++ b)) m
  | .ref p, .lst b, m, k => onM (m p) fun a => a.length + b.length ≤ 1000000 ∧ k (.lst (a ++ b)) m
  | .lst a, .ref p, m, k => onM (m p) fun b => a.length + b.length ≤ 1000000 ∧ k (.lst (a ++ b)) m
  | _, _, _, _ => False
theorem cat_snd {F H : Hp} {m : Mem} {x y : D} {u v : V} {xs ys : List D} {k : KD} {Q : VK} (l : Le F H) (mr : MemR K mg F H m) (a : Rp K mg F u x) (b : Rp K mg F v y) (hx : asO m x = some xs) (hy : asO m y = some ys) (hz : xs.length + ys.length ≤ 1000000) (h : k (.lst (xs ++ ys)) m)
    (q : ∀ w d F' H' m', StM K mg m F H F' H' m' → Rp K mg F' w d → k d m' → Q w H') : rCat u v H Q := by
  obtain ⟨p, vs, rfl, sp, rp⟩ := a.asO l mr hx
  obtain ⟨p', vs', rfl, sp', rp'⟩ := b.asO l mr hy
  refine ⟨p, p', vs, vs', rfl, rfl, sp, sp', by rw [rp.len, rp'.len]; exact Nat.le_trans hz (by decide), fun n hn => ?_⟩
  have st := Step.new (F := F) (o := .lst (vs ++ vs')) l hn
  exact q _ _ _ _ m (st.stm mr) (.lst upd_same ((rp.app rp').mono st.gr)) h
theorem s_add : SndO2 K mg (uAdd K) oAdd := fun F H m x y u v k l mr a b h Q q => by
  unfold oAdd at h
  split at h
  · exact .inl ⟨_, _, a.intI, b.intI, q _ _ F H m (StM.refl l mr) (.int _) h⟩
  · exact .inr (.inl ⟨_, _, a.strI, b.strI, Nat.le_trans h.1 (by decide), q _ _ F H m (StM.refl l mr) (.str _) h.2⟩)
  · rename_i xs ys
    obtain ⟨hx, hz, h⟩ := h
    obtain ⟨p, vs, rfl, sn, rp⟩ := a.tupN
    have sp := sn.sqt
    obtain ⟨p', vs', rfl, sp', rp'⟩ := b.tupI
    have hv : vs ≠ [] := fun z => hx (List.length_eq_zero_iff.mp (by rw [← rp.len, z]; rfl))
    refine .inr (.inr (.inr ⟨p, p', vs, vs', rfl, rfl, l.sqt sp, l.sqt sp', hv, by rw [rp.len, rp'.len]; exact Nat.le_trans hz (by decide), ?_⟩))
    refine ⟨fun e => ?_, fun e n o hn ho => ?_⟩
    · have : ys = [] := List.length_eq_zero_iff.mp (by rw [← rp'.len, e]; rfl)
      subst this
      rw [List.append_nil] at h
      exact q _ _ F H m (StM.refl l mr) (.tup sn rp) h
    · have st := Step.new (F := F) (o := .frz o (.tup (vs ++ vs'))) l hn
      exact q _ _ _ _ m (st.stm mr) (.tup (.inl ⟨o, upd_same, ho⟩) ((rp.app rp').mono st.gr)) h
  · exact .inr (.inr (.inl (cat_snd l mr a b rfl rfl h.1 h.2 q)))
  · obtain ⟨a', hm, h⟩ := onM_of h
    exact .inr (.inr (.inl (cat_snd l mr a b (by simp only [asO, hm]) rfl h.1 h.2 q)))
  · obtain ⟨b', hm, h⟩ := onM_of h
    exact .inr (.inr (.inl (cat_snd l mr a b rfl (by simp only [asO, hm]) h.1 h.2 q)))
  · exact h.elim
theorem jo_add : JO2 X (binaryOp .Add) oAdd := ⟨_, ox_add, s_add⟩
theorem s_I0 {g : Int → Int → V} {g' : Int → Int → D} (hg : ∀ i j F, Rp K mg F (g i j) (g' i j)) {o : O2} (ho : ∀ x y m k, o x y m k → ∃ i j, x = .int i ∧ y = .int j ∧ k (g' i j) m) : SndO2 K mg (rI0 g) o := fun F H m x y u v k l mr a b h Q q => by
  obtain ⟨i, j, rfl, rfl, h'⟩ := ho _ _ _ _ h
  exact ⟨i, j, a.intI, b.intI, q _ _ F H m (StM.refl l mr) (hg i j F) h'⟩
theorem s_I {C : Int → Int → Prop} {g : Int → Int → V} {g' : Int → Int → D} (hg : ∀ i j F, Rp K mg F (g i j) (g' i j)) {o : O2} (ho : ∀ x y m k, o x y m k → ∃ i j, x = .int i ∧ y = .int j ∧ C i j ∧ k (g' i j) m) : SndO2 K mg (rI C g) o := fun F H m x y u v k l mr a b h Q q => by
  obtain ⟨i, j, rfl, rfl, hc, h'⟩ := ho _ _ _ _ h
  exact ⟨i, j, a.intI, b.intI, hc, q _ _ F H m (StM.refl l mr) (hg i j F) h'⟩
def oSub : O2
  | .int i, .int j, m, k => k (.int (i - j)) m
  | _, _, _, _ => False
theorem jo_sub : JO2 X (binaryOp .Sub) oSub := ⟨_, op_sub, s_I0 (g' := fun i j => .int (i - j)) (fun _ _ _ => .int _) fun x y m k h => by
  unfold oSub at h
  split at h
  · exact ⟨_, _, rfl, rfl, h⟩
  · exact h.elim⟩
def oMul : O2
  | .int i, .int j, m, k => MulOk i j ∧ k (.int (i * j)) m
  | .lst xs, .int j, m, k => 0 ≤ j ∧ j ≤ 1000 ∧ xs.length ≤ 1000 ∧ k (.lst (List.replicate j.toNat xs).flatten) m
  | .str z, .int j, m, k => 0 ≤ j ∧ j ≤ 1000 ∧ z.length ≤ 1000 ∧ k (.str (repS z j.toNat)) m
  | _, _, _, _ => False
theorem s_mul : SndO2 K mg uMul oMul := fun F H m x y u v k l mr a b h Q q => by
  unfold oMul at h
  split at h
  · exact .inl ⟨_, _, a.intI, b.intI, h.1, q _ _ F H m (StM.refl l mr) (.int _) h.2⟩
  · rename_i xs j
    obtain ⟨h0, h1, hz, h⟩ := h
    obtain ⟨p, vs, rfl, sp, rp⟩ := a.lstI
    obtain rfl := b.intI
    refine .inr (.inl ⟨p, j, vs, rfl, rfl, l.lst sp, by omega, by omega, ?_, fun n hn => ?_⟩)
    · rw [rp.len]
      exact Nat.le_trans (Nat.mul_le_mul hz (by omega : j.toNat ≤ 1000)) (by decide)
    · have st := Step.new (F := F) (o := .lst (List.replicate j.toNat vs).flatten) l hn
      refine q _ _ _ _ m (st.stm mr) (.lst upd_same (RpL.mono st.gr ?_)) h
      have key : ∀ n : Nat, RpL K mg F (List.replicate n vs).flatten (List.replicate n xs).flatten := fun n => by
        induction n with
        | zero => exact .nil
        | succ n ih => rw [List.replicate_succ, List.replicate_succ, List.flatten_cons, List.flatten_cons]; exact rp.app ih
      exact key _
  · exact .inr (.inr ⟨_, _, a.strI, b.intI, h.1, h.2.1, h.2.2.1, q _ _ F H m (StM.refl l mr) (.str _) h.2.2.2⟩)
  · exact h.elim
theorem jo_mul : JO2 X (binaryOp .Mult) oMul := ⟨_, ox_mul, s_mul⟩
def oFdiv : O2
  | .int i, .int j, m, k => DivOk j ∧ k (.int (i.fdiv j)) m
  | _, _, _, _ => False
theorem jo_fdiv : JO2 X (binaryOp .FloorDiv) oFdiv := ⟨_, ox_fdiv, s_I (g' := fun i j => .int (i.fdiv j)) (fun _ _ _ => .int _) fun x y m k h => by
  unfold oFdiv at h
  split at h
  · exact ⟨_, _, rfl, rfl, h.1, h.2⟩
  · exact h.elim⟩
def oMod : O2
  | .int i, .int j, m, k => j ≠ 0 ∧ k (.int (i.fmod j)) m
  | _, _, _, _ => False
theorem jo_mod : JO2 X (binaryOp .Mod) oMod := ⟨_, op_modN, s_I (g' := fun i j => .int (i.fmod j)) (fun _ _ _ => .int _) fun x y m k h => by
  unfold oMod at h
  split at h
  · exact ⟨_, _, rfl, rfl, h.1, h.2⟩
  · exact h.elim⟩
def oPow : O2
  | .int i, .int j, m, k => CPow i j ∧ k (.int (i ^ j.toNat)) m
  | _, _, _, _ => False
theorem jo_pow : JO2 X (binaryOp .Pow) oPow := ⟨_, op_pow, s_I (g' := fun i j => .int (i ^ j.toNat)) (fun _ _ _ => .int _) fun x y m k h => by
  unfold oPow at h
  split at h
  · exact ⟨_, _, rfl, rfl, h.1, h.2⟩
  · exact h.elim⟩
def oNeg : O1
  | .int i, m, k => k (.int (-i)) m
  | _, _, _ => False
theorem jo_neg : JO1 X (unaryOp .USub) oNeg := ⟨_, un_neg, fun F H m x u k l mr a h Q q => by
  unfold oNeg at h
  split at h
  · exact ⟨_, a.intI, q _ _ F H m (StM.refl l mr) (.int _) h⟩
  · exact h.elim⟩
def oLt : O2
  | .int i, .int j, m, k => k (.bl (decide (i < j))) m
  | .str i, .str j, m, k => k (.bl (decide (i.cps.toList < j.cps.toList))) m
  | _, _, _, _ => False
theorem jo_lt : JO2 X (compareOp .Lt) oLt := ⟨_, ox_lt, fun F H m x y u v k l mr a b h Q q => by
  unfold oLt at h
  split at h
  · exact .inl ⟨_, _, a.intI, b.intI, q _ _ F H m (StM.refl l mr) (.bl _) h⟩
  · exact .inr ⟨_, _, a.strI, b.strI, q _ _ F H m (StM.refl l mr) (.bl _) h⟩
  · exact h.elim⟩
def oLe : O2
  | .int i, .int j, m, k => k (.bl (decide (i ≤ j))) m
  | _, _, _, _ => False
theorem jo_le : JO2 X (compareOp .LtE) oLe := ⟨_, op_le, s_I0 (g' := fun i j => .bl (decide (i ≤ j))) (fun _ _ _ => .bl _) fun x y m k h => by
  unfold oLe at h
  split at h
  · exact ⟨_, _, rfl, rfl, h⟩
  · exact h.elim⟩
def oGt : O2
  | .int i, .int j, m, k => k (.bl (decide (j < i))) m
  | .str i, .str j, m, k => k (.bl (decide (j.cps.toList < i.cps.toList))) m
  | _, _, _, _ => False
def rGtS : R2 := fun x y H Q => ∃ i j, x = .str i ∧ y = .str j ∧ Q (.bl (decide (j.cps.toList < i.cps.toList))) H
theorem jo_gt : JO2 X (compareOp .Gt) oGt := ⟨_, opr_or op_gt (show OpR X (compareOp .Gt) rGtS from op_gt_str), fun F H m x y u v k l mr a b h Q q => by
  unfold oGt at h
  split at h
  · exact .inl ⟨_, _, a.intI, b.intI, q _ _ F H m (StM.refl l mr) (.bl _) h⟩
  · exact .inr ⟨_, _, a.strI, b.strI, q _ _ F H m (StM.refl l mr) (.bl _) h⟩
  · exact h.elim⟩
def oGe : O2
  | .int i, .int j, m, k => k (.bl (decide (j ≤ i))) m
  | _, _, _, _ => False
/-! ### == -/
mutual
def toPy : D → Option PyData
  | .non => some .none
  | .bl b => some (.bool b)
  | .int i => some (.int i)
  | .str x => some (.str x)
  | .lst ds => (toPyL ds).map .list
  | .tup ds => (toPyL ds).map .tuple
  | _ => none
def toPyL : List D → Option (List PyData)
  | [] => some []
  | d :: ds => match toPy d, toPyL ds with
    | some p, some ps => some (p :: ps)
    | _, _ => none
end
/-- a list of the memory as it stands -/
def now (m : Mem) : D → D
  | .ref p => match m p with
    | some (.lst ds) => .lst ds
    | _ => .ref p
  | d => d
mutual
theorem Rp.dp {F H : Hp} (l : Le F H) : ∀ {d : D} {p : PyData}, toPy d = some p → ∀ {v : V}, Rp K mg F v d → Dp K H v p
  | .non, p, h, v, r => by simp only [toPy] at h; cases h; rw [r.nonI]; exact .non
  | .bl b, p, h, v, r => by simp only [toPy] at h; cases h; rw [r.blI]; exact .bl b
  | .int i, p, h, v, r => by simp only [toPy] at h; cases h; rw [r.intI]; exact .int i
  | .str x, p, h, v, r => by simp only [toPy] at h; cases h; rw [r.strI]; exact .str x
  | .lst ds, p, h, v, r => by
    simp only [toPy, Option.map_eq_some_iff] at h
    obtain ⟨ps, h1, rfl⟩ := h
    obtain ⟨a, xs, rfl, e, rl⟩ := r.lstI
    exact .lst (SqL.of (l.lst e)) (RpL.dp l h1 rl)
  | .tup ds, p, h, v, r => by
    simp only [toPy, Option.map_eq_some_iff] at h
    obtain ⟨ps, h1, rfl⟩ := h
    obtain ⟨a, xs, rfl, e, rl⟩ := r.tupI
    exact .tup (l.sqt e) (RpL.dp l h1 rl)
  | .dic _, p, h, v, r => by simp only [toPy] at h; cases h
  | .dit _, p, h, v, r => by simp only [toPy] at h; cases h
  | .obj _ _, p, h, v, r => by simp only [toPy] at h; cases h
  | .feed, p, h, v, r => by simp only [toPy] at h; cases h
  | .lat _ _, p, h, v, r => by simp only [toPy] at h; cases h
  | .ref _, p, h, v, r => by simp only [toPy] at h; cases h
  | .oth _, p, h, v, r => by simp only [toPy] at h; cases h
  | .exn _ _ _, p, h, v, r => by simp only [toPy] at h; cases h
  | .clo _ _ _ _ _, p, h, v, r => by simp only [toPy] at h; cases h
  | .lmb _ _ _ _, p, h, v, r => by simp only [toPy] at h; cases h
theorem RpL.dp {F H : Hp} (l : Le F H) : ∀ {d : List D} {p : List PyData}, toPyL d = some p → ∀ {v : List V}, RpL K mg F v d → DpAll K H v p
  | [], p, h, v, r => by simp only [toPyL] at h; cases h; cases r; exact .nil
  | d :: ds, p, h, v, r => by
    simp only [toPyL] at h
    cases h1 : toPy d with
    | none => simp only [h1] at h; cases h
    | some q =>
      cases h2 : toPyL ds with
      | none => simp only [h1, h2] at h; cases h
      | some qs =>
        simp only [h1, h2] at h
        cases h
        cases r with
        | cons ra rb => exact .cons (Rp.dp l h1 ra) (RpL.dp l h2 rb)
end
theorem Rp.dpM {F H : Hp} {m : Mem} (l : Le F H) (mr : MemR K mg F H m) {d : D} {p : PyData} (h : toPy (now m d) = some p) {v : V} (r : Rp K mg F v d) : Dp K H v p := by
  cases d with
  | ref a =>
    cases hm : m a with
    | none => simp only [now, hm, toPy] at h; cases h
    | some o =>
      cases o with
      | lst ds =>
        simp only [now, hm, toPy, Option.map_eq_some_iff] at h
        obtain ⟨ps, h1, rfl⟩ := h
        obtain ⟨_, xs, e, rl⟩ := mr a _ hm
        obtain rfl := r.refI
        exact .lst (SqL.of e) (RpL.dp l h1 rl)
      | _ => simp only [now, hm, toPy] at h; cases h
  | _ => exact r.dp l h
/-- == of data -/
def eqP (m : Mem) (x y : D) (k : Bool → Prop) : Prop := ∃ p q, toPy (now m x) = some p ∧ toPy (now m y) = some q ∧ SeqAt.shaped p = true ∧ SeqAt.shaped q = true ∧ k (PyData.eqv p q)
def scEq : D → D → Option Bool
  | .int i, .int j => some (decide (i = j))
  | .str i, .str j => some (decide (i = j))
  | .bl i, .bl j => some (decide (i = j))
  | _, _ => none
def eqA : Option Bool → (Bool → Prop) → Prop → Prop
  | some b, k, _ => k b
  | none, _, p => p
def eqK (x y : D) (m : Mem) (k : Bool → Prop) : Prop := eqA (scEq x y) k (eqP m x y k)
def oEq : O2 := fun x y m k => eqK x y m fun b => k (.bl b) m
def oNe : O2 := fun x y m k => eqK x y m fun b => k (.bl (!b)) m
theorem eqK_i {i j : Int} {m : Mem} {k : Bool → Prop} : eqK (.int i) (.int j) m k = k (decide (i = j)) := rfl
theorem eqK_s {i j : Str} {m : Mem} {k : Bool → Prop} : eqK (.str i) (.str j) m k = k (decide (i = j)) := rfl
theorem eqK_b {i j : Bool} {m : Mem} {k : Bool → Prop} : eqK (.bl i) (.bl j) m k = k (decide (i = j)) := rfl
theorem eqK_t {i j : List D} {m : Mem} {k : Bool → Prop} : eqK (.tup i) (.tup j) m k = eqP m (.tup i) (.tup j) k := rfl
theorem eqK_l {i j : List D} {m : Mem} {k : Bool → Prop} : eqK (.lst i) (.lst j) m k = eqP m (.lst i) (.lst j) k := rfl
theorem scEq_of {F : Hp} {x y : D} {u v : V} {c : Bool} (a : Rp K mg F u x) (b : Rp K mg F v y) (h : scEq x y = some c) : scal u v = true ∧ decide (u = v) = c := by
  unfold scEq at h
  split at h
  · cases h; rw [a.intI, b.intI]; exact ⟨rfl, by simp⟩
  · cases h; rw [a.strI, b.strI]; exact ⟨rfl, by simp⟩
  · cases h; rw [a.blI, b.blI]; exact ⟨rfl, by simp⟩
  · cases h
theorem jo_eq (hu : X.A.units + 64 < cLine) : JO2 X (compareOp .Eq) oEq := ⟨_, ox_eq hu, fun F H m x y u v k l mr a b h Q q => by
  unfold oEq eqK at h
  cases hc : scEq x y with
  | some c =>
    rw [hc] at h
    obtain ⟨h1, h2⟩ := scEq_of a b hc
    refine .inl ⟨h1, ?_⟩
    rw [h2]
    exact q _ _ F H m (StM.refl l mr) (.bl _) h
  | none =>
    rw [hc] at h
    obtain ⟨p, p', h1, h2, h3, h4, h5⟩ := h
    exact .inr ⟨p, p', a.dpM l mr h1, b.dpM l mr h2, h3, h4, q _ _ F H m (StM.refl l mr) (.bl _) h5⟩⟩
theorem jo_ne (hu : X.A.units + 64 < cLine) : JO2 X (compareOp .NotEq) oNe := ⟨_, ox_ne hu, fun F H m x y u v k l mr a b h Q q => by
  unfold oNe eqK at h
  cases hc : scEq x y with
  | some c =>
    rw [hc] at h
    obtain ⟨h1, h2⟩ := scEq_of a b hc
    refine .inl ⟨h1, ?_⟩
    rw [h2]
    exact q _ _ F H m (StM.refl l mr) (.bl _) h
  | none =>
    rw [hc] at h
    obtain ⟨p, p', h1, h2, h3, h4, h5⟩ := h
    exact .inr ⟨p, p', a.dpM l mr h1, b.dpM l mr h2, h3, h4, q _ _ F H m (StM.refl l mr) (.bl _) h5⟩⟩
/-- is None -/
def noneB : D → Bool
  | .non => true
  | .oth .non => true
  | _ => false
theorem rp_none {F : Hp} {v : V} {d : D} (r : Rp K mg F v d) : decide (v = V.non) = noneB d := by
  cases r with
  | oth v => cases v <;> rfl
  | _ => rfl
def oIs : O2
  | x, .non, m, k => k (.bl (noneB x)) m
  | _, _, _, _ => False
def oIsNot : O2
  | x, .non, m, k => k (.bl (!noneB x)) m
  | _, _, _, _ => False
theorem jo_is : JO2 X (compareOp .Is) oIs := ⟨_, op_isN, fun F H m x y u v k l mr a b h Q q => by
  unfold oIs at h
  split at h
  · exact ⟨b.nonI, by rw [rp_none a]; exact q _ _ F H m (StM.refl l mr) (.bl _) h⟩
  · exact h.elim⟩
/-! ### items and slices -/
def oIx : O2
  | .tup ds, .int i, m, k => onO (atI ds i) fun d => k d m
  | .lst ds, .int i, m, k => onO (atI ds i) fun d => k d m
  | .lat _ ds, .int i, m, k => onO (atI ds i) fun d => k d m
  | .ref p, .int i, m, k => onM (m p) fun ds => onO (atI ds i) fun d => k d m
  | .str z, .int i, m, k => z.length ≤ 1000000 ∧ onO (atI z.cps.toList i) fun c => k (.str ⟨#[c]⟩) m
  | _, _, _, _ => False
theorem ixl_snd {F H : Hp} {m : Mem} {x : D} {u v : V} {xs : List D} {i : Int} {d : D} {k : KD} {Q : VK} (l : Le F H) (mr : MemR K mg F H m) (a : Rp K mg F u x) (b : Rp K mg F v (.int i)) (hx : asL m x = some xs) (hd : atI xs i = some d) (h : k d m)
    (q : ∀ w d F' H' m', StM K mg m F H F' H' m' → Rp K mg F' w d → k d m' → Q w H') : rIxL K u v H Q := by
  obtain ⟨p, vs, rfl, sp, rp⟩ := a.asL l mr hx
  obtain ⟨w, h1, h2⟩ := rp.atI hd
  exact ⟨p, vs, i, w, rfl, b.intI, sp, h1, q _ _ F H m (StM.refl l mr) h2 h⟩
theorem s_ix : SndO2 K mg (rIx K) oIx := fun F H m x y u v k l mr a b h Q q => by
  unfold oIx at h
  split at h
  · obtain ⟨d, hd, h⟩ := onO_of h
    obtain ⟨p, vs, rfl, sp, rp⟩ := a.tupI
    obtain ⟨w, h1, h2⟩ := rp.atI hd
    exact .inr (.inl ⟨p, vs, _, w, rfl, b.intI, l.sqt sp, h1, q _ _ F H m (StM.refl l mr) h2 h⟩)
  · obtain ⟨d, hd, h⟩ := onO_of h; exact .inl (ixl_snd l mr a b rfl hd h q)
  · obtain ⟨d, hd, h⟩ := onO_of h; exact .inl (ixl_snd l mr a b rfl hd h q)
  · obtain ⟨ds, hm, h⟩ := onM_of h
    obtain ⟨d, hd, h⟩ := onO_of h
    exact .inl (ixl_snd l mr a b (by simp only [asL, hm]) hd h q)
  · obtain ⟨hz, h⟩ := h
    obtain ⟨d, hd, h⟩ := onO_of h
    exact .inr (.inr ⟨_, _, _, a.strI, b.intI, Nat.le_trans hz (by decide), hd, q _ _ F H m (StM.refl l mr) (.str _) h⟩)
  · exact h.elim
theorem je_ix {W : WX} {a b : Expr} {va vb : VE} {pos : Pos} (ha : JE X W a va) (hb : JE X W b vb) (hs : PlainIx b) : JE X W (.Subscript a b pos) (vOp oIx va vb) := by
  obtain ⟨ta, p1, s1⟩ := ha; obtain ⟨tb, p2, s2⟩ := hb
  exact ⟨_, pe_ix ix_seq p1 p2 hs, SndE.op s_ix s1 s2⟩
def cutD {α : Type} (xs : List α) (lo hi : Option Int) : List α := (xs.drop (HT.sIx xs.length 0 lo)).take (HT.sIx xs.length xs.length hi - HT.sIx xs.length 0 lo)
theorem RpL.cut {F : Hp} {vs : List V} {ds : List D} (r : RpL K mg F vs ds) (lo hi : Option Int) : RpL K mg F (cutV vs lo hi) (cutD ds lo hi) := by
  unfold cutV cutD
  rw [r.len]
  exact (r.drop _).take _
abbrev OS := D → Option Int → Option Int → Mem → KD → Prop
def oSl : OS
  | .lst ds, lo, hi, m, k => k (.lst (cutD ds lo hi)) m
  | .lat _ ds, lo, hi, m, k => k (.lst (cutD ds lo hi)) m
  | .ref p, lo, hi, m, k => onM (m p) fun ds => k (.lst (cutD ds lo hi)) m
  | .str z, lo, hi, m, k => z.length ≤ 1000000 ∧ k (.str (cutS z lo hi)) m
  | _, _, _, _, _ => False
@[reducible] def vSl (a : VE) (l h : VO) : VE := fun s m k x => a s m (fun d m1 => l s m1 (fun lo m2 => h s m2 (fun hi m3 => oSl d lo hi m3 k) x) x) x
theorem sl_snd {F H : Hp} {m : Mem} {x : D} {u : V} {xs : List D} {lo hi : Option Int} {k : KD} {Q : VK} (l : Le F H) (mr : MemR K mg F H m) (a : Rp K mg F u x) (hx : asL m x = some xs) (h : k (.lst (cutD xs lo hi)) m)
    (q : ∀ w d F' H' m', StM K mg m F H F' H' m' → Rp K mg F' w d → k d m' → Q w H') : rSlL K u lo hi H Q := by
  obtain ⟨p, vs, rfl, sp, rp⟩ := a.asL l mr hx
  refine ⟨p, vs, rfl, sp, fun n hn => ?_⟩
  have st := Step.new (F := F) (o := .lst (cutV vs lo hi)) l hn
  exact q _ _ _ _ m (st.stm mr) (.lst upd_same ((rp.cut lo hi).mono st.gr)) h
theorem je_sl {W : WX} {e : Expr} {lo hi : Option Expr} {ve : VE} {vl vh : VO} {p2 pos : Pos} (he : JE X W e ve) (hl : JP X W lo vl) (hh : JP X W hi vh) : JE X W (.Subscript e (.Slice lo hi none p2) pos) (vSl ve vl vh) := by
  obtain ⟨t, p, s1⟩ := he; obtain ⟨tl, pl, s2⟩ := hl; obtain ⟨th, ph, s3⟩ := hh
  refine ⟨_, pe_slice (SlR.or sl_list sl_str) p pl ph, fun σ F H s m k x l en hv hx Q q => s1 σ F H s m _ x l en hv hx _ fun v d F1 H1 m1 t1 r1 k1 => s2 σ F1 H1 s m1 _ x t1.le (en.stm t1) k1 (hx.after t1) _ fun lo F2 H2 m2 t2 k2 =>
    s3 σ F2 H2 s m2 _ x t2.le ((en.stm t1).stm t2) k2 ((hx.after t1).after t2) _ fun hi F3 H3 m3 t3 k3 => ?_⟩
  have st := (t1.trans t2).trans t3
  have q' : ∀ w d F' H' m', StM X.K X.mg m3 F3 H3 F' H' m' → Rp X.K X.mg F' w d → k d m' → Q w H' := fun w d F' H' m' t r hk => q w d F' H' m' (st.trans t) r hk
  have r3 := r1.mono (t2.gr.trans t3.gr)
  unfold oSl at k3
  split at k3
  · exact .inl (sl_snd t3.le t3.mr r3 rfl k3 q')
  · exact .inl (sl_snd t3.le t3.mr r3 rfl k3 q')
  · obtain ⟨ds, hm, k3⟩ := onM_of k3
    exact .inl (sl_snd t3.le t3.mr r3 (by simp only [asL, hm]) k3 q')
  · exact .inr ⟨_, r3.strI, Nat.le_trans k3.1 (by decide), q' _ _ F3 H3 m3 (StM.refl t3.le t3.mr) (.str _) k3.2⟩
  · exact k3.elim
/-! ### built-ins by name -/
def oLen : OA
  | [.lst ds], m, k => k (.int (ds.length : Int)) m
  | [.lat _ ds], m, k => k (.int (ds.length : Int)) m
  | [.tup ds], m, k => k (.int (ds.length : Int)) m
  | [.pr ds], m, k => k (.int (ds.length : Int)) m
  | [.str z], m, k => z.length ≤ 1000000 ∧ k (.int (z.length : Int)) m
  | [.ref p], m, k => onM (m p) fun ds => k (.int (ds.length : Int)) m
  | _, _, _ => False
theorem len_snd {F H : Hp} {m : Mem} {x : D} {u : V} {xs : List D} {k : KD} {Q : VK} (l : Le F H) (mr : MemR K mg F H m) (a : Rp K mg F u x) (hx : asL m x = some xs) (h : k (.int (xs.length : Int)) m)
    (q : ∀ w d F' H' m', StM K mg m F H F' H' m' → Rp K mg F' w d → k d m' → Q w H') : ∃ x n, [u] = [x] ∧ LenV K x H n ∧ Q (.int n) H := by
  obtain ⟨p, vs, rfl, sp, rp⟩ := a.asL l mr hx
  refine ⟨_, vs.length, rfl, .inl ⟨vs, sp, rfl⟩, q _ _ F H m (StM.refl l mr) (.int _) ?_⟩
  rw [rp.len]; exact h
theorem jo_len : JOA X (.builtin "len") oLen := ⟨_, call_len, fun F H m xs us k l mr r h Q q => by
  unfold oLen at h
  split at h
  · obtain ⟨u, rfl, a⟩ := r.one
    exact len_snd l mr a rfl h q
  · obtain ⟨u, rfl, a⟩ := r.one
    exact len_snd l mr a rfl h q
  · obtain ⟨u, rfl, a⟩ := r.one
    obtain ⟨p, vs, rfl, sp, rp⟩ := a.tupI
    refine ⟨_, vs.length, rfl, .inr ⟨vs, l.sqt sp, rfl⟩, q _ _ F H m (StM.refl l mr) (.int _) ?_⟩
    rw [rp.len]; exact h
  · obtain ⟨u, rfl, a⟩ := r.one
    obtain ⟨p, vs, rfl, sp, rp⟩ := a.prI
    refine ⟨_, vs.length, rfl, .inr ⟨vs, l.sqt (SqT.of sp), rfl⟩, q _ _ F H m (StM.refl l mr) (.int _) ?_⟩
    rw [rp.len]; exact h
  · obtain ⟨u, rfl, a⟩ := r.one
    obtain rfl := a.strI
    exact ⟨_, _, rfl, ⟨Nat.le_trans h.1 (by decide), rfl⟩, q _ _ F H m (StM.refl l mr) (.int _) h.2⟩
  · obtain ⟨u, rfl, a⟩ := r.one
    obtain ⟨ds, hm, h⟩ := onM_of h
    exact len_snd l mr a (by simp only [asL, hm]) h q
  · exact h.elim⟩
def rcor (r1 r2 : List V → Hp → VK → Prop) : List V → Hp → VK → Prop := fun xs H Q => r1 xs H Q ∨ r2 xs H Q
theorem cr_or {f : Value} {r1 r2 : List V → Hp → VK → Prop} (h1 : CallR X f r1) (h2 : CallR X f r2) : CallR X f (rcor r1 r2) := fun pins s σ H xs us Q I r h => by
  rcases h with h | h
  · exact h1 pins s σ H xs us Q I r h
  · exact h2 pins s σ H xs us Q I r h
def oInt : OA
  | [.int i], m, k => k (.int i) m
  | [.bl b], m, k => k (.int (if b then 1 else 0)) m
  | [.str z], m, k => z.length ≤ 640 ∧ ∃ n, PySem.intText? z = some n ∧ k (.int n) m
  | _, _, _ => False
theorem jo_int : JOA X (.type "int") oInt := ⟨_, cr_or call_int1 call_int_str, fun F H m xs us k l mr r h Q q => by
  unfold oInt at h
  split at h
  · obtain ⟨u, rfl, a⟩ := r.one
    obtain rfl := a.intI
    exact .inl (.inl ⟨_, rfl, q _ _ F H m (StM.refl l mr) (.int _) h⟩)
  · obtain ⟨u, rfl, a⟩ := r.one
    obtain rfl := a.blI
    exact .inl (.inr ⟨_, rfl, q _ _ F H m (StM.refl l mr) (.int _) h⟩)
  · obtain ⟨u, rfl, a⟩ := r.one
    obtain rfl := a.strI
    obtain ⟨hz, n, hn, h⟩ := h
    exact .inr ⟨_, n, rfl, hn, hz, q _ _ F H m (StM.refl l mr) (.int _) h⟩
  · exact h.elim⟩
def oAbs : OA
  | [.int i], m, k => k (.int (i.natAbs : Int)) m
  | _, _, _ => False
theorem jo_abs : JOA X (.builtin "abs") oAbs := ⟨_, call_abs, fun F H m xs us k l mr r h Q q => by
  unfold oAbs at h
  split at h
  · rename_i i
    obtain ⟨u, rfl, a⟩ := r.one
    obtain rfl := a.intI
    refine ⟨i, rfl, q _ _ F H m (StM.refl l mr) (.int _) ?_⟩
    have e : (if i < 0 then -i else i) = (i.natAbs : Int) := by split <;> omega
    rw [e]; exact h
  · exact h.elim⟩
/-- bools -/
def blsOf : List D → Option (List Bool)
  | [] => some []
  | .bl b :: ds => (blsOf ds).map (b :: ·)
  | _ :: _ => none
theorem blsOf_map : ∀ bs : List Bool, blsOf (bs.map D.bl) = some bs
  | [] => rfl
  | b :: bs => by simp only [List.map_cons, blsOf, blsOf_map bs, Option.map_some]
theorem blsOf_cons {d : D} {ds : List D} {bs : List Bool} (h : blsOf (d :: ds) = some bs) : ∃ b cs, d = .bl b ∧ blsOf ds = some cs ∧ bs = b :: cs := by
  unfold blsOf at h
  split at h
  · cases ‹_ :: _ = []›
  · rename_i e
    cases e
    obtain ⟨cs, h1, h2⟩ := Option.map_eq_some_iff.mp h
    exact ⟨_, cs, rfl, h1, h2.symm⟩
  · cases h
theorem RpL.bls {F : Hp} {xs : List V} {ds : List D} : ∀ {bs : List Bool}, blsOf ds = some bs → RpL K mg F xs ds → xs = bs.map V.bl := by
  induction ds generalizing xs with
  | nil => intro bs h r; cases r; cases h; rfl
  | cons d ds ih =>
    intro bs h r
    obtain ⟨b, cs, rfl, h1, rfl⟩ := blsOf_cons h
    cases r with
    | cons r1 r2 => rw [r1.blI, ih h1 r2]; rfl
def oAll : OA
  | [.lst ds], m, k => onO (blsOf ds) fun bs => k (.bl (bs.all id)) m
  | _, _, _ => False
theorem jo_all (hc : X.calm = true) : JOA X (.builtin "all") oAll := ⟨_, cr_all hc, fun F H m xs us k l mr r h Q q => by
  unfold oAll at h
  split at h
  · obtain ⟨bs, hb, h⟩ := onO_of h
    obtain ⟨u, rfl, a⟩ := r.one
    obtain ⟨p, vs, rfl, sp, rp⟩ := a.lstI
    obtain rfl := rp.bls hb
    exact ⟨p, bs, rfl, SqL.of (l.lst sp), q _ _ F H m (StM.refl l mr) (.bl _) h⟩
  · exact h.elim⟩
def oTuple : OA
  | [.lst ds], m, k => k (.tup ds) m
  | [.lat _ ds], m, k => k (.tup ds) m
  | [.tup ds], m, k => k (.tup ds) m
  | [.ref p], m, k => onM (m p) fun ds => k (.tup ds) m
  | _, _, _ => False
theorem tuple_snd {F H : Hp} {m : Mem} {x : D} {u : V} {xs : List D} {k : KD} {Q : VK} (l : Le F H) (mr : MemR K mg F H m) (a : Rp K mg F u x) (hx : asL m x = some xs) (h : k (.tup xs) m)
    (q : ∀ w d F' H' m', StM K mg m F H F' H' m' → Rp K mg F' w d → k d m' → Q w H') : ∃ p ys, [u] = [.ref p] ∧ ((SqL K H p ys ∧ ∀ (l : Addr) (o : Obj), H l = none → o.dict = none → Q (.ref l) (upd H l (.frz o (.tup ys)))) ∨ (SqT K H p ys ∧ Q (.ref p) H)) := by
  obtain ⟨p, vs, rfl, sp, rp⟩ := a.asL l mr hx
  refine ⟨p, vs, rfl, .inl ⟨sp, fun n o hn ho => ?_⟩⟩
  have st := Step.new (F := F) (o := .frz o (.tup vs)) l hn
  exact q _ _ _ _ m (st.stm mr) (.tup (.inl ⟨o, upd_same, ho⟩) (rp.mono st.gr)) h
theorem jo_tuple : JOA X (.type "tuple") oTuple := ⟨_, call_tupleN, fun F H m xs us k l mr r h Q q => by
  unfold oTuple at h
  split at h
  · obtain ⟨u, rfl, a⟩ := r.one
    exact tuple_snd l mr a rfl h q
  · obtain ⟨u, rfl, a⟩ := r.one
    exact tuple_snd l mr a rfl h q
  · obtain ⟨u, rfl, a⟩ := r.one
    obtain ⟨p, vs, rfl, sp, rp⟩ := a.tupN
    exact ⟨p, vs, rfl, .inr ⟨l.sqt sp.sqt, q _ _ F H m (StM.refl l mr) (.tup sp rp) h⟩⟩
  · obtain ⟨u, rfl, a⟩ := r.one
    obtain ⟨ds, hm, h⟩ := onM_of h
    exact tuple_snd l mr a (by simp only [asL, hm]) h q
  · exact h.elim⟩
/-- list(x): a new list; frozen, or one that changes -/
def oList : OA
  | [.lst ds], m, k => k (.lst ds) m
  | [.lat _ ds], m, k => k (.lst ds) m
  | [.tup ds], m, k => k (.lst ds) m
  | [.pr ds], m, k => k (.lst ds) m
  | [.ref p], m, k => onM (m p) fun ds => k (.lst ds) m
  | _, _, _ => False
def oListO : OA
  | [.lst ds], m, k => ∀ p, m p = none → k (.ref p) (mset m p (.lst ds))
  | [.lat _ ds], m, k => ∀ p, m p = none → k (.ref p) (mset m p (.lst ds))
  | [.tup ds], m, k => ∀ p, m p = none → k (.ref p) (mset m p (.lst ds))
  | [.pr ds], m, k => ∀ p, m p = none → k (.ref p) (mset m p (.lst ds))
  | [.ref p], m, k => onM (m p) fun ds => ∀ p, m p = none → k (.ref p) (mset m p (.lst ds))
  | _, _, _ => False
def itemsOf (m : Mem) : D → Option (List D)
  | .tup ds => some ds
  | .pr ds => some ds
  | d => asL m d
theorem Rp.items {F H : Hp} {m : Mem} {x : D} {u : V} {xs : List D} (l : Le F H) (mr : MemR K mg F H m) (a : Rp K mg F u x) (hx : itemsOf m x = some xs) : ∃ p vs, u = .ref p ∧ (SqL K H p vs ∨ SqT K H p vs) ∧ RpL K mg F vs xs := by
  cases x with
  | tup ds =>
    cases hx
    obtain ⟨p, vs, rfl, sp, rp⟩ := a.tupI
    exact ⟨p, vs, rfl, .inr (l.sqt sp), rp⟩
  | pr ds =>
    cases hx
    obtain ⟨p, vs, rfl, sp, rp⟩ := a.prI
    exact ⟨p, vs, rfl, .inr (l.sqt (SqT.of sp)), rp⟩
  | _ =>
    obtain ⟨p, vs, rfl, sp, rp⟩ := a.asL l mr hx
    exact ⟨p, vs, rfl, .inl sp, rp⟩
theorem list_cases {xs : List D} {m : Mem} {k : KD} (h : oList xs m k) : ∃ x ds, xs = [x] ∧ itemsOf m x = some ds ∧ k (.lst ds) m := by
  unfold oList at h
  split at h
  · exact ⟨_, _, rfl, rfl, h⟩
  · exact ⟨_, _, rfl, rfl, h⟩
  · exact ⟨_, _, rfl, rfl, h⟩
  · exact ⟨_, _, rfl, rfl, h⟩
  · obtain ⟨ds, hm, h⟩ := onM_of h
    exact ⟨_, ds, rfl, by simp only [itemsOf, asL, hm], h⟩
  · exact h.elim
theorem listO_cases {xs : List D} {m : Mem} {k : KD} (h : oListO xs m k) : ∃ x ds, xs = [x] ∧ itemsOf m x = some ds ∧ ∀ p, m p = none → k (.ref p) (mset m p (.lst ds)) := by
  unfold oListO at h
  split at h
  · exact ⟨_, _, rfl, rfl, h⟩
  · exact ⟨_, _, rfl, rfl, h⟩
  · exact ⟨_, _, rfl, rfl, h⟩
  · exact ⟨_, _, rfl, rfl, h⟩
  · obtain ⟨ds, hm, h⟩ := onM_of h
    exact ⟨_, ds, rfl, by simp only [itemsOf, asL, hm], h⟩
  · exact h.elim
theorem jo_list : JOA X (.type "list") oList := ⟨_, call_list_of, fun F H m xs us k l mr r h Q q => by
  obtain ⟨x, ds, rfl, hx, h⟩ := list_cases h
  obtain ⟨u, rfl, a⟩ := r.one
  obtain ⟨p, vs, rfl, sp, rp⟩ := a.items l mr hx
  refine ⟨p, vs, rfl, sp, fun n hn => ?_⟩
  have st := Step.new (F := F) (o := .lst vs) l hn
  exact q _ _ _ _ m (st.stm mr) (.lst upd_same (rp.mono st.gr)) h⟩
theorem jo_listO : JOA X (.type "list") oListO := ⟨_, call_list_of, fun F H m xs us k l mr r h Q q => by
  obtain ⟨x, ds, rfl, hx, h⟩ := listO_cases h
  obtain ⟨u, rfl, a⟩ := r.one
  obtain ⟨p, vs, rfl, sp, rp⟩ := a.items l mr hx
  exact ⟨p, vs, rfl, sp, fun n hn => q _ _ _ _ _ (StM.new l mr hn (u := .lst ds) ⟨vs, upd_same, rp⟩) (.ref n) (h n (mr.free hn))⟩⟩
end
end Ts
namespace Ts
open PySem PySem.Spec PyProof.Rows L2
/-! ### isinstance -/
inductive Ty where
  | non | bl | int | str | lst | tup | dic
def Ty.name : Ty → String
  | .non => "NoneType"
  | .bl => "bool"
  | .int => "int"
  | .str => "str"
  | .lst => "list"
  | .tup => "tuple"
  | .dic => "dict"
def Ty.is : Ty → Ty → Bool
  | .bl, .bl => true
  | .bl, .int => true
  | .int, .int => true
  | .str, .str => true
  | .lst, .lst => true
  | .tup, .tup => true
  | .dic, .dic => true
  | .non, .non => true
  | _, _ => false
theorem kit_ok (a b : Ty) (h : b.name ≠ "NoneType") : kitB a.name b.name = some (a.is b) := by
  cases b with
  | non => exact absurd rfl h
  | _ => cases a <;> decide +kernel
def tyM (m : Mem) : D → Option Ty
  | .non => some .non
  | .bl _ => some .bl
  | .int _ => some .int
  | .str _ => some .str
  | .lst _ => some .lst
  | .lat _ _ => some .lst
  | .tup _ => some .tup
  | .dic _ => some .dic
  | .dit _ => some .dic
  | .ref p => match m p with
    | some (.lst _) => some .lst
    | some (.dic _) => some .dic
    | some (.dit _) => some .dic
    | some (.lck _) => some .dic
    | _ => none
  | _ => none
section
variable {K : PySem.W.Frag} {mg : Str → Option Value} {X : Cx} {W : WX}
theorem tyX_of {F H : Hp} {m : Mem} {v : V} {d : D} {T : Ty} (l : Le F H) (mr : MemR K mg F H m) (r : Rp K mg F v d) (h : tyM m d = some T) (nd : ∀ kvs, d ≠ .dit kvs) : TyX K H v (.type T.name) := by
  cases r with
  | non => cases h; exact .base .non
  | bl b => cases h; exact .base (.bl b)
  | int i => cases h; exact .base (.int i)
  | str x => cases h; exact .base (.str x)
  | lst s r => cases h; exact .base (.lst (l.lst s))
  | tup s r =>
    cases h
    rcases l.sqt s.sqt with (z | ⟨o, z⟩) | ⟨o, its, n, z1, z2, _⟩
    · exact .base (.tup z)
    · exact .fTuple z
    · exact .kTuple z1 z2
  | lat s r =>
    cases h
    rcases l.sql s with (z | ⟨o, z⟩) | ⟨o, its, n, z1, z2, _⟩
    · exact .base (.lst z)
    · exact .base (.frz z)
    · exact .kList z1 z2
  | dic s r =>
    cases h
    exact .fDict (l.at s id)
  | dit s r => exact absurd rfl (nd _)
  | ref p =>
    cases hm : m p with
    | none => simp only [tyM, hm] at h; cases h
    | some o =>
      cases o with
      | lst ds => simp only [tyM, hm] at h; cases h; obtain ⟨_, xs, e, _⟩ := mr p _ hm; exact .base (.lst e)
      | dic ds => simp only [tyM, hm] at h; cases h; obtain ⟨_, xs, e, _⟩ := mr p _ hm; exact .base (.dK e)
      | dit ds => simp only [tyM, hm] at h; cases h; obtain ⟨_, xs, e, _⟩ := mr p _ hm; exact .base (.dT e)
      | lck ds => simp only [tyM, hm] at h; cases h; obtain ⟨_, o, xs, e, _⟩ := mr p _ hm; exact .fDict e
      | ins C ds => simp only [tyM, hm] at h; cases h
      | tab q => simp only [tyM, hm] at h; cases h
      | fob o => simp only [tyM, hm] at h; cases h
  | _ => cases h
def isDit : D → Bool
  | .dit _ => true
  | _ => false
/-- isinstance(x, T) -/
@[reducible] def vIsi (c : Ty) (a : VE) : VE := fun s m k x => a s m (fun d m' => isDit d = false ∧ onO (tyM m' d) fun t => k (.bl (t.is c)) m') x
theorem je_isi (c : Ty) (hn : c.name ≠ "NoneType") {a : Expr} {va : VE} {p p2 pos : Pos} {x : Str} (hx : bootBuiltins x = some (.type c.name)) (hg : Gl X "isinstance") (hm : X.mg "isinstance" = none) (hgx : Gl X x) (hmx : X.mg x = none) (ha : JE X W a va)
    (h1 : x ≠ "__name__" := by decide) (h2 : (x == ("__debug__" : Str)) = false := by decide) (he : starEach [a, .Name x p2] X.env = (false, eval a X.env) :: starEach [.Name x p2] X.env := by rfl) :
    JE X W (.Call (.Name "isinstance" p) [a, .Name x p2] [] pos) (vIsi c va) := by
  obtain ⟨ta, p1, s1⟩ := ha
  refine ⟨_, pe_callB call_isi hg hm (by decide +kernel) (pa_cons p1 (pa_cons (pe_bltn (v := .ty c.name) hgx hmx hx rfl h1 h2) pa_nil) he) (he := he), fun σ F H s m k x l en hv hx Q q => s1 σ F H s m _ x l en hv hx _ fun v d F1 H1 m1 t1 r1 k1 => ?_⟩
  obtain ⟨hd, k1⟩ := k1
  obtain ⟨t, ht, k1⟩ := onO_of k1
  · exact ⟨v, _, .type t.name, .type c.name, t.is c, rfl, .ty _, tyX_of t1.le t1.mr r1 ht (fun kvs z => by subst z; cases hd), kit_ty (kit_ok t c hn), q _ _ F1 H1 m1 t1 (.bl _) k1⟩
/-- isinstance(x, (T1, T2)) -/
@[reducible] def vIsi2 (c c' : Ty) (a : VE) : VE := fun s m k x => a s m (fun d m' => isDit d = false ∧ onO (tyM m' d) fun t => k (.bl (t.is c || t.is c')) m') x
theorem je_isi2 (c c' : Ty) (hn : c.name ≠ "NoneType") (hn' : c'.name ≠ "NoneType") {a : Expr} {va : VE} {p p2 p3 pos pt : Pos} {kt : Nat} {x y : Str} (hx : bootBuiltins x = some (.type c.name)) (hy : bootBuiltins y = some (.type c'.name)) (hg : Gl X "isinstance") (hm : X.mg "isinstance" = none) (hgx : Gl X x) (hmx : X.mg x = none) (hgy : Gl X y) (hmy : X.mg y = none) (ha : JE X W a va)
    (h1 : x ≠ "__name__" := by decide) (h2 : (x == ("__debug__" : Str)) = false := by decide) (h3 : y ≠ "__name__" := by decide) (h4 : (y == ("__debug__" : Str)) = false := by decide) (he : starEach [a, .Tuple [.Name x p2, .Name y p3] kt pt] X.env = (false, eval a X.env) :: starEach [.Tuple [.Name x p2, .Name y p3] kt pt] X.env := by rfl) :
    JE X W (.Call (.Name "isinstance" p) [a, .Tuple [.Name x p2, .Name y p3] kt pt] [] pos) (vIsi2 c c' va) := by
  obtain ⟨ta, p1, s1⟩ := ha
  refine ⟨_, pe_callB call_isiT hg hm (by decide +kernel) (pa_cons p1 (pa_cons (pe_tup (pa_cons (pe_bltn (v := .ty c.name) hgx hmx hx rfl h1 h2) (pa_cons (pe_bltn (v := .ty c'.name) hgy hmy hy rfl h3 h4) pa_nil))) pa_nil) he) (he := he), fun σ F H s m k x l en hv hx Q q => s1 σ F H s m _ x l en hv hx _ fun v d F1 H1 m1 t1 r1 k1 => ?_⟩
  obtain ⟨hd, k1⟩ := k1
  obtain ⟨t, ht, k1⟩ := onO_of k1
  · refine ⟨by show 2 ≤ sizeLine; decide, fun p hp => ?_⟩
    have st : Step F1 H1 F1 (upd H1 p (.tup [.ty c.name, .ty c'.name])) := Step.ext t1.le fun a o ha => by rw [upd_ne (ne_of_none ha hp)]; exact ha
    have kk : PySem.W.kitAny X.K (.type t.name) [.type c.name, .type c'.name] = some (t.is c || t.is c') := kitAny_cons (kit_ty (kit_ok t c hn)) (fun e => kitAny_cons (kit_ty (kit_ok t c' hn')) (fun e2 => by rw [e, e2]; exact kitAny_nil) fun e2 => by rw [e2, Bool.or_true]) fun e => by rw [e, Bool.true_or]
    exact ⟨v, p, _, .type t.name, [.type c.name, .type c'.name], _, rfl, upd_same, .cons (.ty _) (.cons (.ty _) .nil), tyX_of st.le (t1.mr.step st) r1 ht (fun kvs z => by subst z; cases hd), kk, q _ _ F1 _ m1 (t1.trans (st.stm t1.mr)) (.bl _) k1⟩
/-! ### methods of built-in types -/
abbrev OM := D → List D → Mem → KD → Prop
def SndM (K : PySem.W.Frag) (mg : Str → Option Value) (r : V → List V → Hp → VK → Prop) (o : OM) : Prop := ∀ (F H : Hp) (m : Mem) (x : D) (xs : List D) (u : V) (us : List V) (k : KD), Le F H → MemR K mg F H m → Rp K mg F u x → RpL K mg F us xs → o x xs m k → ∀ Q : VK,
  (∀ w d F' H' m', StM K mg m F H F' H' m' → Rp K mg F' w d → k d m' → Q w H') → r u us H Q
def JM (X : Cx) (id : String) (o : OM) : Prop := ∃ r, MtR X id r ∧ SndM X.K X.mg r o
/-- the value is of that built-in type -/
def isTy (m : Mem) (d : D) : String → Prop
  | "list" => match d with
    | .ref p => onM (m p) fun _ => True
    | .lst _ => True
    | _ => False
  | "str" => match d with
    | .str _ => True
    | _ => False
  | _ => False
theorem isTy_ok {F H : Hp} {m : Mem} {u : V} {d : D} {T : String} (l : Le F H) (mr : MemR K mg F H m) (r : Rp K mg F u d) (h : isTy m d T) : tyV K T u H := by
  unfold isTy at h
  split at h
  · cases d with
    | ref p =>
      obtain ⟨ds, hm, _⟩ := onM_of h
      obtain ⟨_, xs, e, _⟩ := mr p _ hm
      rw [r.refI]
      exact .inl ⟨rfl, xs, SqL.of e⟩
    | lst ds =>
      obtain ⟨a, xs, rfl, e, _⟩ := r.lstI
      exact .inl ⟨rfl, xs, SqL.of (l.lst e)⟩
    | _ => exact h.elim
  · cases d with
    | str z => rw [r.strI]; rfl
    | _ => exact h.elim
  · exact h.elim
@[reducible] def vBM (T : String) (o : OM) (a : VE) (r : VA) : VE := fun s m k x => a s m (fun d m1 => isTy m1 d T ∧ r s m1 (fun ds m2 => o d ds m2 k) x) x
@[reducible] def vBM0 (T : String) (o : OM) (a : VE) : VE := fun s m k x => a s m (fun d m1 => isTy m1 d T ∧ o d [] m1 k) x
theorem je_bm {o e : Expr} {es : List Expr} {vo : VE} {va : VA} {name : Str} {apos cpos : Pos} {T id : String} {om : OM} (pa : PlainAttrs T) (slot : Slot T name id) (hty : typeOf (.builtin id) = pure (.type "method_descriptor")) (hm : JM X id om) (ho : JE X W o vo) (ha : JA X W (e :: es) va)
    (hbase : attributeBase o name X.env (eval o X.env) = eval o X.env := by rfl)
    (hfew : ((backTo cpos (starEach (e :: es) X.env)).all (fun x => !x.1) && (backToKw cpos (keywordEach [] X.env)).all (fun x => x.1.isSome)
      && decide ((e :: es).length + ([] : List Keyword).length + (if ([] : List Keyword).isEmpty then 0 else 1) < 30)) = true := by rfl)
    (hline : (apos.endLine == cpos.line) = true := by rfl) (hs : starEach (e :: es) X.env = (false, eval e X.env) :: starEach es X.env := by rfl) (hplain : (backTo cpos (starEach es X.env)).any (·.1) = false := by rfl) :
    JE X W (.Call (.Attribute o name apos) (e :: es) [] cpos) (vBM T om vo va) := by
  obtain ⟨r, h0, h1⟩ := hm; obtain ⟨to, p1, s1⟩ := ho; obtain ⟨ta, p2, s2⟩ := ha
  exact ⟨_, pe_bm pa slot hty h0 p1 p2 hbase hfew hline hs hplain, fun σ F H s m k x l en hv hx Q q => s1 σ F H s m _ x l en hv hx _ fun u d F1 H1 m1 t1 r1 k1 => ⟨isTy_ok t1.le t1.mr r1 k1.1, s2 σ F1 H1 s m1 _ x t1.le (en.stm t1) k1.2 (hx.after t1) _ fun us ds F2 H2 m2 t2 r2 k2 =>
    h1 F2 H2 m2 d ds u us k t2.le t2.mr (r1.mono t2.gr) r2 k2 Q fun w d' F3 H3 m3 t3 r3 k3 => q w d' F3 H3 m3 ((t1.trans t2).trans t3) r3 k3⟩⟩
/-- the list of the memory that a value is -/
def onL (m : Mem) : D → (Addr → List D → Prop) → Prop
  | .ref p, k => onM (m p) fun ds => k p ds
  | _, _ => False
theorem onL_of {m : Mem} {d : D} {k : Addr → List D → Prop} (h : onL m d k) : ∃ p ds, d = .ref p ∧ m p = some (.lst ds) ∧ k p ds := by
  cases d with
  | ref p =>
    obtain ⟨ds, hm, h⟩ := onM_of h
    exact ⟨p, ds, rfl, hm, h⟩
  | _ => exact h.elim
def oAppend : OM := fun x vs m k => match vs with
  | [y] => onL m x fun p ds => ds.length < 1000000 ∧ k .non (mset m p (.lst (ds ++ [y])))
  | _ => False
theorem jm_append : JM X "list.append" oAppend := ⟨_, mt_append, fun F H m x xs u us k l mr r rs h Q q => by
  unfold oAppend at h
  split at h
  · rename_i y
    obtain ⟨p, ds, rfl, hm, hz, h⟩ := onL_of h
    obtain ⟨w, rfl, ra⟩ := rs.one
    obtain ⟨_, ys, e, rl⟩ := mr p _ hm
    exact ⟨p, ys, w, r.refI, rfl, e, by rw [rl.len]; exact Nat.lt_of_lt_of_le hz (by decide), q _ _ F _ _ (StM.put l mr hm rfl (u := .lst (ds ++ [y])) ⟨_, upd_same, rl.app (.cons ra .nil)⟩) .non h⟩
  · exact h.elim⟩
def oClear : OM := fun x vs m k => match vs with
  | [] => onL m x fun p _ => k .non (mset m p (.lst []))
  | _ => False
def oExtend : OM := fun x vs m k => match vs with
  | [.lst es] => onL m x fun p ds => ds.length + es.length ≤ 1000000 ∧ k .non (mset m p (.lst (ds ++ es)))
  | _ => False
theorem jm_extend : JM X "list.extend" oExtend := ⟨_, mt_extend, fun F H m x xs u us k l mr r rs h Q q => by
  unfold oExtend at h
  split at h
  · rename_i es
    obtain ⟨p, ds, rfl, hm, hz, h⟩ := onL_of h
    obtain ⟨w, rfl, ra⟩ := rs.one
    obtain ⟨b, zs, rfl, eb, rb⟩ := ra.lstI
    obtain ⟨_, ys, e, rl⟩ := mr p _ hm
    exact ⟨p, b, ys, zs, r.refI, rfl, e, l.lst eb, by rw [rl.len, rb.len]; exact Nat.le_trans hz (by decide), q _ _ F _ _ (StM.put l mr hm rfl (u := .lst (ds ++ es)) ⟨_, upd_same, rl.app rb⟩) .non h⟩
  · exact h.elim⟩
def oInsert : OM := fun x vs m k => match vs with
  | [.int i, y] => onL m x fun p ds => ds.length < 1000000 ∧ 0 ≤ i ∧ i < 2 ^ 63 ∧ k .non (mset m p (.lst (ds.take i.toNat ++ [y] ++ ds.drop i.toNat)))
  | _ => False
theorem RpL.dropLast {F : Hp} : ∀ {vs : List V} {ds : List D}, RpL K mg F vs ds → RpL K mg F vs.dropLast ds.dropLast
  | _, _, .nil => .nil
  | _, _, .cons _ .nil => .nil
  | _, _, .cons r (.cons a s) => .cons r (RpL.dropLast (.cons a s))
theorem RpL.eraseIdx {F : Hp} : ∀ {vs : List V} {ds : List D} (i : Nat), RpL K mg F vs ds → RpL K mg F (vs.eraseIdx i) (ds.eraseIdx i)
  | _, _, _, .nil => .nil
  | _, _, 0, .cons _ s => s
  | _, _, i + 1, .cons r s => .cons r (RpL.eraseIdx i s)
def oPop : OM := fun x vs m k => match vs with
  | [] => onL m x fun p ds => ∃ y, ds[ds.length - 1]? = some y ∧ k y (mset m p (.lst ds.dropLast))
  | [.int i] => onL m x fun p ds => -(2 ^ 63) ≤ i ∧ i < 2 ^ 63 ∧ ∃ j y, seqIndex? i ds.length = some j ∧ ds[j]? = some y ∧ k y (mset m p (.lst (ds.eraseIdx j)))
  | _ => False
/-! ### xs[i] = e, del xs[i] -/
@[reducible] def vSetIx (o i a : VE) : VS := fun s m G => a s m (fun e m1 => o s m1 (fun d m2 => i s m2 (fun j m3 => onL m3 d fun p ds => match j with
  | .int n => onO (ixN ds.length n) fun t => G.nx s (mset m3 p (.lst (ds.set t e)))
  | _ => False) fun e m' => G.ex e s m') fun e m' => G.ex e s m') fun e m' => G.ex e s m'
theorem js_setIx {o i e : Expr} {vo vi ve : VE} {pos pos' : Pos} (he : JE X W e ve) (ho : JE X W o vo) (hi : JE X W i vi)
    (ha : ∀ v, assign (.Subscript o i pos') X.env v = (do
      let ov ← holding [v] (eval o X.env)
      let iv ← holding [v, ov] (eval i X.env)
      standAt pos'
      holding [v, ov, iv] (setItem ov iv v)
      release [v, ov, iv] []) := by intro _; rfl)
    (hs : swapsWithSole [.Subscript o i pos'] e pos.line X.env = pure false := by rfl) (hw : swappedStores [.Subscript o i pos'] e X.env = pure none := by rfl) (h1 : (assignEach [.Subscript o i pos'] X.env).map (·.2) = [assign (.Subscript o i pos') X.env] := by rfl) : JS X W (.Assign [.Subscript o i pos'] e pos) (vSetIx vo vi ve) := by
  obtain ⟨t, p1, s1⟩ := he; obtain ⟨to, p2, s2⟩ := ho; obtain ⟨ti, p3, s3⟩ := hi
  refine ⟨_, ps_asg p1 (pg_sub p2 p3 set_list ha) hs hw h1, fun σ F H s m G l en h E L => s1 σ F H s m _ _ l en h (L.x en) _ fun v d F1 H1 m1 t1 r1 k1 => s2 σ F1 H1 s m1 _ _ t1.le (en.stm t1) k1 ((L.x en).after t1) _ fun w d' F2 H2 m2 t2 r2 k2 =>
    s3 σ F2 H2 s m2 _ _ t2.le ((en.stm t1).stm t2) k2 (((L.x en).after t1).after t2) _ fun y j F3 H3 m3 t3 r3 k3 => ?_⟩
  obtain ⟨p, ds, rfl, hm, k3⟩ := onL_of k3
  cases j with
  | int n =>
    obtain ⟨t, hn, k3⟩ := onO_of k3
    · obtain ⟨_, ys, e', rl⟩ := t3.mr p _ hm
      have st := (t1.trans t2).trans t3
      have sp := StM.put (o := .lst (ys.set t v)) t3.le t3.mr hm rfl (u := .lst (ds.set t d)) ⟨_, upd_same, rl.set (r1.mono (t2.gr.trans t3.gr)) t⟩
      exact ⟨p, ys, n, t, r2.refI, r3.intI, e', by rw [rl.len]; exact hn, L.nx σ s F3 _ _ (st.trans sp) (en.stm (st.trans sp)) k3⟩
  | _ => exact k3.elim
@[reducible] def vDelIx (o i : VE) : VS := fun s m G => o s m (fun d m1 => i s m1 (fun j m2 => onL m2 d fun p ds => match j with
  | .int n => -(2 ^ 63) ≤ n ∧ n < 2 ^ 63 ∧ ∃ t, seqIndex? n ds.length = some t ∧ G.nx s (mset m2 p (.lst (ds.eraseIdx t)))
  | _ => False) fun e m' => G.ex e s m') fun e m' => G.ex e s m'
/-! ### unpacking a list -/
def gUl (n : Nat) (r : VGs) : VG
  | .lst ds, s, k => ds.length = n ∧ r ds s k
  | .lat _ ds, s, k => ds.length = n ∧ r ds s k
  | _, _, _ => False
end
/-! ### the law's own end -/
abbrev endLaw : DE := { nx := fun _ _ => False, rt := fun d _ => d = .bl true }
section
variable {P : Program} {w : World} {K : PySem.W.Frag} {mg : Str → Option Value} {base : Heap} {x qual : Str} {params : Arguments} {body : List Stmt} {scope : Scope} {dvs : List V} {kws : List (Str × V)} {f : Addr} {fd : FuncData}
end
end Ts
namespace Ts
open PySem PySem.Spec PyProof.Rows L2
section
variable {K : PySem.W.Frag} {mg : Str → Option Value} {X : Cx} {W : WX}
theorem js_par {i j : Nat} {x y : Str} {a b : Expr} {va : VA} {px py pt pos : Pos} {kt k2 pt2} (hc : X.calm = true) (hN : X.N.Nodup) (hi : X.N[i]? = some x) (hj : X.N[j]? = some y) (hij : i ≠ j)
    (hx : X.env.scope.names.lookup x = some .local) (hy : X.env.scope.names.lookup y = some .local) (ha : JA X W [a, b] va)
    (hw : swappedStores [.Tuple [.Name x px, .Name y py] kt pt] (.Tuple [a, b] k2 pt2) X.env = pure (some [x, y]))
    (hs : swapsWithSole [.Tuple [.Name x px, .Name y py] kt pt] (.Tuple [a, b] k2 pt2) pos.line X.env = pure false := by rfl) :
    JS X W (.Assign [.Tuple [.Name x px, .Name y py] kt pt] (.Tuple [a, b] k2 pt2) pos) (vPar i j va) := by
  obtain ⟨ta, p1, s1⟩ := ha
  exact ⟨_, ps_par hc hN hi hj hij hx hy p1 hw hs, SndS.par s1⟩
@[reducible] def vPar3 (i j l : Nat) (a : VA) : VS := fun s m G => a s m (fun ds m' => match ds with
  | [d, e, f] => G.nx (((s.set i (some d)).set j (some e)).set l (some f)) m'
  | _ => False) fun e m' => G.ex e s m'
theorem js_par3 {i j l : Nat} {x y z : Str} {a b c : Expr} {va : VA} {px py pz pt pos : Pos} {kt k2 pt2} (hc : X.calm = true) (hN : X.N.Nodup) (hi : X.N[i]? = some x) (hj : X.N[j]? = some y) (hl : X.N[l]? = some z) (hij : i ≠ j) (hil : i ≠ l) (hjl : j ≠ l)
    (hx : X.env.scope.names.lookup x = some .local) (hy : X.env.scope.names.lookup y = some .local) (hz : X.env.scope.names.lookup z = some .local) (ha : JA X W [a, b, c] va)
    (hw : swappedStores [.Tuple [.Name x px, .Name y py, .Name z pz] kt pt] (.Tuple [a, b, c] k2 pt2) X.env = pure (some [x, y, z]))
    (hs : swapsWithSole [.Tuple [.Name x px, .Name y py, .Name z pz] kt pt] (.Tuple [a, b, c] k2 pt2) pos.line X.env = pure false := by rfl) :
    JS X W (.Assign [.Tuple [.Name x px, .Name y py, .Name z pz] kt pt] (.Tuple [a, b, c] k2 pt2) pos) (vPar3 i j l va) := by
  obtain ⟨ta, p1, s1⟩ := ha
  refine ⟨_, ps_par3 hc hN hi hj hl hij hil hjl hx hy hz p1 hw hs, fun σ F H s m G l en h E L => s1 σ F H s m _ _ l en h (L.x en) _ fun us ds F' H' m' t r k => ?_⟩
  cases r with
  | nil => exact k.elim
  | cons ra r => cases r with
    | nil => exact k.elim
    | cons rb r => cases r with
      | nil => exact k.elim
      | cons rc r => cases r with
        | nil => exact ⟨_, _, _, rfl, L.nx _ _ F' H' m' t ((((en.stm t).set ra).set rb).set rc) k⟩
        | cons _ _ => exact k.elim
/-! constants of the module -/
theorem je_gstr {x z : Str} {pos : Pos} (hg : Gl X x) (h : ∃ t, X.mg x = some (.str z t)) (hd : (x == ("__debug__" : Str)) = false := by decide) : JE X W (.Name x pos) (vC (.str z)) := by
  obtain ⟨t, e⟩ := h
  exact je_c (pe_glob (v := .str z) hg e ⟨t, rfl⟩ hd) fun _ => .str z
theorem je_gint {x : Str} {i : Int} {pos : Pos} (hg : Gl X x) (h : ∃ t, X.mg x = some (.int i t)) (hd : (x == ("__debug__" : Str)) = false := by decide) : JE X W (.Name x pos) (vC (.int i)) := by
  obtain ⟨t, e⟩ := h
  exact je_c (pe_glob (v := .int i) hg e ⟨t, rfl⟩ hd) fun _ => .int i
/-! x op= e -/
def oIadd : O2
  | .int i, .int j, m, k => k (.int (i + j)) m
  | .str a, .str b, m, k => a.length + b.length ≤ 1000000 ∧ k (.str (a ++ b)) m
  | _, _, _, _ => False
end
theorem atI_0 {α : Type} {a : α} {l : List α} : atI (a :: l) 0 = some a := atI_nat (j := 0) rfl
theorem atI_1 {α : Type} {a b : α} {l : List α} : atI (a :: b :: l) 1 = some b := atI_nat (j := 1) rfl
theorem atI_2 {α : Type} {a b c : α} {l : List α} : atI (a :: b :: c :: l) 2 = some c := atI_nat (j := 2) rfl
theorem atI_3 {α : Type} {a b c d : α} {l : List α} : atI (a :: b :: c :: d :: l) 3 = some d := atI_nat (j := 3) rfl
theorem ixN_k {n j : Nat} (hj : j < n) : ixN n (j : Int) = some j := by
  unfold ixN
  rw [if_pos (Int.natCast_nonneg j), if_pos (Int.ofNat_lt.mpr hj), Int.toNat_natCast]
theorem ixN_0 {n : Nat} : ixN (n + 1) 0 = some 0 := ixN_k (j := 0) (by omega)
theorem ixN_1 {n : Nat} : ixN (n + 2) 1 = some 1 := ixN_k (j := 1) (by omega)
theorem ixN_2 {n : Nat} : ixN (n + 3) 2 = some 2 := ixN_k (j := 2) (by omega)
theorem ixN_3 {n : Nat} : ixN (n + 4) 3 = some 3 := ixN_k (j := 3) (by omega)
theorem mset_twice {m : Mem} {a : Addr} {x y : MO} : mset (mset m a x) a y = mset m a y := by
  funext b
  by_cases h : b = a
  · subst h; rw [mset_same, mset_same]
  · rw [mset_ne h, mset_ne h, mset_ne h]
theorem atI_of {α : Type} {xs : List α} {z : Int} {j : Nat} {v : α} (e : z = (j : Int)) (h : xs[j]? = some v) : atI xs z = some v := by
  subst e
  exact atI_nat h
theorem itP {p : Prop} [Decidable p] {A B : Prop} (h1 : p → A) (h2 : ¬ p → B) : if p then A else B := by
  by_cases h : p
  · rw [if_pos h]; exact h1 h
  · rw [if_neg h]; exact h2 h
theorem cmul_r {i j : Int} (h1 : -(2 ^ 64) < j) (h2 : j < 2 ^ 64) : MulOk i j := .inl (.inr ⟨h1, h2⟩)
theorem cmul_l {i j : Int} (h1 : -(2 ^ 64) < i) (h2 : i < 2 ^ 64) : MulOk i j := .inl (.inl ⟨h1, h2⟩)
theorem cmul_x {i j : Int} {a b : Nat} (ha : i.natAbs < 2 ^ a) (hb : j.natAbs < 2 ^ b) (h : a + b ≤ 134217728) : MulOk i j := .inr (mulx_ok ha hb h)
theorem fmod_nn {a b : Int} (hb : 0 < b) : 0 ≤ a.fmod b ∧ a.fmod b < b := by
  rw [Int.fmod_eq_emod_of_nonneg a (Int.le_of_lt hb)]
  exact ⟨Int.emod_nonneg _ (by omega), Int.emod_lt_of_pos _ hb⟩
theorem cmul_fm {c p j : Int} (h0 : 0 < p) (h : p ≤ 2 ^ 64) : MulOk (c.fmod p) j := cmul_l (Int.lt_of_lt_of_le (by decide) (fmod_nn h0).1) (Int.lt_of_lt_of_le (fmod_nn h0).2 h)
theorem div_sm {j : Int} (h0 : j ≠ 0) (h : j.natAbs < 2 ^ 64) : DivOk j := ⟨h0, Nat.lt_trans (PySem.Flt.log2_lt_of (by decide) h) (by decide)⟩
theorem log2_lt {n k : Nat} (h : n < 2 ^ k) (hk : 0 < k) : n.log2 < k := PySem.Flt.log2_lt_of hk h
theorem div_ok {j : Int} (h0 : j ≠ 0) (h : j.natAbs < 2 ^ 9000) : DivOk j := ⟨h0, log2_lt h (by decide)⟩
/-! ### loops by induction over what is walked -/
/-- .. over a list of things of a kind -/
theorem forV_map {α : Type} {f : α → D} {b : D → VS} {G : DE} (I : List α → SL → Mem → Prop) (h0 : ∀ s m, I [] s m → G.nx s m)
    (hs : ∀ a as s m, I (a :: as) s m → (∀ s' m', I as s' m' → forV b (as.map f) s' m' G) → b (f a) s m { G with nx := fun s' m' => forV b (as.map f) s' m' G, ct := fun s' m' => forV b (as.map f) s' m' G, bk := G.nx }) :
    ∀ {as : List α} {s : SL} {m : Mem}, I as s m → forV b (as.map f) s m G
  | [], s, m, h => h0 s m h
  | a :: as, s, m, h => hs a as s m h fun s' m' h' => forV_map I h0 hs h'
/-! ### comprehensions by induction -/
/-- .. with the step as it stands: what remains is at hand as a hypothesis -/
theorem lcV_map {α : Type} {f : α → D} {g : VG} {t : VT} {e : VE} {s : SL} {k : List D → Mem → Prop} (I : List α → List D → Mem → Prop) (h0 : ∀ acc m, I [] acc m → k acc m)
    (hs : ∀ a as acc m, I (a :: as) acc m → (∀ acc' m', I as acc' m' → lcV g t e s (as.map f) acc' m' k) → g (f a) s fun s1 => t s1 m (fun b m1 => if b = true then e s1 m1 (fun y m2 => lcV g t e s (as.map f) (acc ++ [y]) m2 k) nox else lcV g t e s (as.map f) acc m1 k) nox) :
    ∀ {as : List α} {acc : List D} {m : Mem}, I as acc m → lcV g t e s (as.map f) acc m k
  | [], acc, m, h => h0 acc m h
  | a :: as, acc, m, h => hs a as acc m h fun acc' m' h' => lcV_map I h0 hs h'
end Ts
/-! Ts: sets of texts, as far as len(sorted(set(texts))) goes -/
namespace Ts
open PySem PySem.Spec PyProof.Rows L2
/-- at a: a set that holds the texts l -/
structure TxS (P : Program) (w : World) (h : Heap) (a : Addr) (l : List Str) : Prop where
  ex : ∃ D : Froz.SD, h.get? a = some (Froz.sObj "set" D) ∧ Froz.TxOk P w D l ∧ L2.Ris D.2.2.place.toList ∧ (w.params.followText "set-order" = true ∨ D.2.2.led = true)
  nd : l.Nodup
theorem off_place {t : SetTable} : (if t.plain = true then { t with plain := false } else t).place = t.place ∧ (if t.plain = true then { t with plain := false } else t).led = t.led := by
  by_cases c : t.plain = true
  · rw [if_pos c]; exact ⟨rfl, rfl⟩
  · rw [if_neg c]; exact ⟨rfl, rfl⟩
theorem addTx_tab {D : Froz.SD} {h : Int} {v : Value} (r : L2.Ris D.2.2.place.toList) : L2.Ris (Froz.addTx h v D).2.2.place.toList ∧ (Froz.addTx h v D).2.2.led = D.2.2.led := by
  have e := off_place (t := (layNew D.2.2 D.1 h v).2.1)
  unfold Froz.addTx Froz.tailTx
  by_cases c : (!(layNew D.2.2 D.1 h v).2.2.1 && (if (layNew D.2.2 D.1 h v).2.1.plain = true then { (layNew D.2.2 D.1 h v).2.1 with plain := false } else (layNew D.2.2 D.1 h v).2.1).tooFull) = true
  · rw [if_pos c]
    exact ⟨L2.relayAll_ris _ _ _, (L2.relayAll_led _ _ _).trans (e.2.trans (L2.layNew_led _ _ _ _))⟩
  · rw [if_neg c]
    exact ⟨by rw [show (if (layNew D.2.2 D.1 h v).2.1.plain = true then { (layNew D.2.2 D.1 h v).2.1 with plain := false } else (layNew D.2.2 D.1 h v).2.1).place = _ from e.1]; exact L2.layNew_ris _ _ _ _ r, e.2.trans (L2.layNew_led _ _ _ _)⟩
section
variable {P : Program} {w : World} {A : Around} {E : Value → Shared → Prop} {s : Shared} {a : Addr} {l : List Str} {k : Str} {u : Tok}
theorem TxS.at {h h' : Heap} (T : TxS P w h a l) (g : ∀ o, h.get? a = some o → h'.get? a = some o) : TxS P w h' a l := by
  obtain ⟨⟨D, e, r⟩, nd⟩ := T
  exact ⟨⟨D, g _ e, r⟩, nd⟩
/-- one that is there already -/
theorem add_again {Q : Bool → Shared → Prop} (T : TxS P w s.heap a l) (hk : k ∈ l) (hb : l.length < scanBound) (h : Q false s) : wpAny (model P w) A (setAddHashed a (.str k u) (hashStr w k)) Q E s := by
  obtain ⟨⟨⟨es, ep, t⟩, ho, F, _⟩, _⟩ := T
  have key : (strKind P w).is k (.str k u) = true := Froz.is_str k u
  have el : ElemsOf (strKind P w) es.toList := F.el
  have z : es.size = l.length := F.sz
  obtain ⟨e, he, q⟩ := (F.mem k).mp hk
  unfold setAddHashed setAddHashedIn
  refine wpAny_holding (wpAny_bind (wpAny_setState_of ho rfl F.fit ?_))
  dsimp only
  rw [byScan_of rfl (by rw [z]; exact hb) el, if_pos rfl]
  unfold setAddByScan
  refine wpAny_bind (wpAny_bind (wpAny_rule (wpAny_bind (wpAny_setScan_of key ho rfl F.fit el ?_))))
  cases c : List.findIdx? (fun e => (strKind P w).is k e.2) es.toList with
  | none => exact absurd q (by rw [List.findIdx?_eq_none_iff.mp c e he]; exact Bool.false_ne_true)
  | some j => exact wpAny_pure (wpAny_pure h)
/-- the texts with one more -/
def more (l : List Str) (k : Str) : List Str := if k ∈ l then l else k :: l
theorem add_any {Q : Bool → Shared → Prop} (T : TxS P w s.heap a l) (hb : l.length + 1 < scanBound) (h : ∀ b h', Heap.SameBut a s.heap h' → TxS P w h' a (more l k) → Q b { s with heap := h' }) : wpAny (model P w) A (setAddHashed a (.str k u) (hashStr w k)) Q E s := by
  by_cases hk : k ∈ l
  · refine add_again T hk (by omega) (h _ s.heap (Heap.SameBut.refl a _) ?_)
    unfold more
    rw [if_pos hk]
    exact T
  · obtain ⟨⟨D, ho, F, r, o⟩, nd⟩ := T
    have tb := addTx_tab (h := hashStr w k) (v := .str k u) r
    refine Froz.add_x ho F hk hb (h _ _ (Heap.SameBut.update _ _ _) ?_)
    unfold more
    rw [if_neg hk]
    exact ⟨⟨_, Heap.get?_update_self _ ho rfl, Froz.add_ok u F, tb.1, o.imp id fun z => tb.2.trans z⟩, List.nodup_cons.mpr ⟨hk, nd⟩⟩
/-- the members of a walk's texts -/
def grown : List Str → List Str → List Str
  | l, [] => l
  | l, k :: r => grown (more l k) r
theorem more_mem {x : Str} : x ∈ more l k ↔ x = k ∨ x ∈ l := by
  unfold more
  split
  · rename_i c
    exact ⟨.inr, fun z => z.elim (fun e => e ▸ c) id⟩
  · exact List.mem_cons
theorem more_len : (more l k).length ≤ l.length + 1 := by
  unfold more
  split <;> simp
theorem grown_mem {x : Str} : ∀ {r l : List Str}, x ∈ grown l r ↔ x ∈ l ∨ x ∈ r
  | [], l => by simp [grown]
  | k :: r, l => by
    rw [grown, grown_mem, more_mem, List.mem_cons]
    constructor
    · rintro ((z | z) | z)
      · exact .inr (.inl z)
      · exact .inl z
      · exact .inr (.inr z)
    · rintro (z | z | z)
      · exact .inl (.inr z)
      · exact .inl (.inl z)
      · exact .inr z
/-- set.update's walk over texts -/
theorem upd_loop {I : Addr} {fp wr : List Addr} {G : Array GenState → Array GenState → Prop} {n : Nat} {Pv : Nat → Value → Prop} {St : Nat → Shared → Prop} {R : Result → Shared → Prop} (W : WalksS P w A.in1 I fp wr G n Pv St) (hf : a ∉ fp) (xs : List Str) (hn : n = xs.length)
    (hv : ∀ i v, Pv i v → ∃ x t, xs[i]? = some x ∧ v = .str x t) :
    ∀ (r : List Str) (i : Nat) (s : Shared) (l : List Str), xs.drop i = r → i ≤ n → l.length + r.length + 1 < scanBound → St i s → TxS P w s.heap a l → (∀ s', Moved (a :: wr) G s s' → TxS P w s'.heap a (grown l r) → R (.ok (.ret .none)) s') →
      codeAny (model P w) A (.builtin "set.update.loop" ⟨[.ref a, .ref I], []⟩) R s := by
  have nw : a ∉ wr := fun z => hf (W.sub _ z)
  have up : ∀ b ∈ wr, b ∈ a :: wr := fun b z => .tail _ z
  intro r
  induction r with
  | nil =>
    intro i s l hd hi _ st T fin
    have : i = n := by
      have := List.drop_eq_nil_iff.mp hd
      omega
    subst this
    refine codeAny_builtin F.entry_set_update_loop ?_
    rw [Around.under_plainId F.plain_set_update_loop _]
    exact wpAny_bind (W.done s _ _ st fun s' mv => wpAny_pure (fin s' (mv.mono up) (T.at fun o e => mv.heap a o nw e)))
  | cons x r ih =>
    intro i s l hd hi hb st T fin
    have lt : i < n := by
      rcases Nat.lt_or_ge i n with z | z
      · exact z
      · rw [List.drop_eq_nil_iff.mpr (by omega)] at hd; cases hd
    have hx : xs[i]? = some x := by
      have q := List.getElem?_drop (xs := xs) (i := i) (j := 0)
      rw [hd] at q
      simpa using q.symm
    have hd' : xs.drop (i + 1) = r := by rw [← List.tail_drop, hd] <;> rfl
    refine codeAny_builtin F.entry_set_update_loop ?_
    rw [Around.under_plainId F.plain_set_update_loop _]
    refine wpAny_bind (W.item i s _ _ lt st fun v s1 pv st1 mv => ?_)
    obtain ⟨y, t, hy, rfl⟩ := hv i v pv
    rw [hx] at hy
    cases hy
    have T1 : TxS P w s1.heap a l := T.at fun o e => mv.heap a o nw e
    refine wpAny_bind (wpAny_holding ?_)
    unfold setAdd
    refine wpAny_holding (wpAny_bind ((strKind P w).pyHash (k := x) (Froz.is_str x t) ?_))
    refine add_any (s := { s1 with toks := s1.toks + 1 }) T1 (by simp only [List.length_cons] at hb; omega) fun b h' sb T2 => ?_
    refine wpAny_pure ⟨plainId_quiet F.plain_set_update_loop _, ih (i + 1) _ (more l x) hd' lt (by have := more_len (l := l) (k := x); simp only [List.length_cons] at hb; omega) (W.frame _ s1 _ _ st1 (Nat.le_succ _) fun c hc o e => ?_) T2 fun s2 mv2 T3 => fin s2 (Moved.trans W.gtrans ((mv.mono up).then_heap (Nat.le_succ _) fun c o hc e => ?_) mv2) T3⟩
    · rw [sb.2 c fun z => hf (z ▸ hc)]; exact e
    · rw [sb.2 c fun z => hc (z ▸ List.mem_cons_self)]; exact e
theorem strs_len : ∀ {us : List Value} {xs : List Str}, StrsAre us xs → us.length = xs.length
  | _, _, .nil => rfl
  | _, _, .cons _ _ t => congrArg Nat.succ (strs_len t)
theorem strs_get : ∀ {us : List Value} {xs : List Str} {i : Nat} {v : Value}, StrsAre us xs → us[i]? = some v → ∃ k t, xs[i]? = some k ∧ v = .str k t
  | _, _, _, _, .nil, h => by simp at h
  | _, _, 0, _, .cons x k _, h => by simp at h; subst h; exact ⟨x, k, rfl, rfl⟩
  | _, _, i + 1, _, .cons _ _ t, h => by
    obtain ⟨k, t', h1, h2⟩ := strs_get (i := i) t (by simpa using h)
    exact ⟨k, t', by simpa using h1, h2⟩
abbrev set0 (w : World) : Obj := { cls := .type "set", dict := none, data := .set #[] 0 (.fresh 0 0 (!w.params.followText "set-order")) }
theorem set0_ok {h : Heap} {a : Addr} (e : h.get? a = some (set0 w)) : TxS P w h a [] := by
  refine ⟨⟨(#[], 0, .fresh 0 0 (!w.params.followText "set-order")), e, Froz.TxOk.nil rfl, .nil, ?_⟩, .nil⟩
  cases w.params.followText "set-order"
  · exact .inr rfl
  · exact .inl rfl
/-- set(x): the empty one, then its __init__ -/
theorem set_one {x : Value} {Q : Value → Shared → Prop}
    (h : wpAny (model P w) A.in1.in1 (Builtin.«set.__init__» ⟨[.ref s.heap.objs.size, x], []⟩)
      (fun fin s' => match fin with
        | .done f => wants (fun r s2 => r = .none ∧ Q (.ref s.heap.objs.size) s2) E (.ok f) s'
        | .again c => c.quiet = true ∧ codeAny (model P w) A.in1 c (wants (fun r s2 => r = .none ∧ Q (.ref s.heap.objs.size) s2) E) s')
      (fun e s' => wants (fun r s2 => r = .none ∧ Q (.ref s.heap.objs.size) s2) E (.error e) s') { s with heap := s.heap.push (set0 w) }) :
    wpAny (model P w) A (call (.type "set") [x]) Q E s := by
  have T := F.called_set
  have m := T.mro
  have m1 := T.made; have m2 := T.sub; have m3 := T.notType; have m4 := T.canCreate; have m5 := F.typeCall_set_1 x
  obtain ⟨_, _, m6⟩ := m
  have tIs : Shared.TypeIs { s with heap := s.heap.push (set0 w) } (.ref s.heap.objs.size) "set" := ⟨_, Heap.get?_push_size _ rfl, rfl⟩
  refine wpAny_call (codeAny_of_tree (wpAny_pure ⟨Code.quiet_builtin _ (by decide +kernel), codeAny_builtin F.entry_type_call ?_⟩))
  rw [Around.under_plain (weight_type_call_type "set" [x] []) rfl]
  repeat (any_goals (first | assumption | wp_step))
  refine codeAny_mono (L2.code_set_led1 x (E := E) (Q₁ := fun o s1 => o = .ref s.heap.objs.size ∧ s1 = { s with heap := s.heap.push (set0 w) }) ⟨rfl, rfl⟩) fun r s1 hr => ?_
  match r, hr with
  | .error e, hr => exact hr
  | .ok (.ret o1), hr =>
    obtain ⟨rfl, rfl⟩ := hr
    have n1 := T.init.lookup
    have n2 := T.init.bind (.ref s.heap.objs.size)
    repeat (any_goals (first | assumption | wp_step))
    refine codeAny_mono (codeAny_call_builtin T.init.plain F.entry_set_init (check_set_init_1 tIs h)) fun r2 s2 hr2 => ?_
    match r2, hr2 with
    | .error e, hr2 => exact hr2
    | .ok (.ret o2), hr2 =>
      obtain ⟨rfl, q⟩ := hr2
      repeat (any_goals (first | assumption | wp_step))
    | .ok .next, hr2 => exact hr2.elim
    | .ok .brk, hr2 => exact hr2.elim
    | .ok .cont, hr2 => exact hr2.elim
  | .ok .next, hr => exact hr.elim
  | .ok .brk, hr => exact hr.elim
  | .ok .cont, hr => exact hr.elim
/-- set(xs), xs a list of texts -/
theorem set_texts {p : Addr} {its : Array Value} {xs : List Str} {Q : Value → Shared → Prop} (hh : A.handled = none) (hl : s.heap.IsList p its) (hx : StrsAre its.toList xs) (hb : xs.length + 1 < scanBound)
    (h : ∀ h' tk, (∀ b o, s.heap.get? b = some o → h'.get? b = some o) → TxS P w h' s.heap.objs.size (grown [] xs) → Q (.ref s.heap.objs.size) { s with heap := h', toks := tk }) : wpAny (model P w) A (call (.type "set") [.ref p]) Q E s := by
  refine set_one ?_
  obtain ⟨⟨oc, od, odt, osl⟩, ho, hc, c, hd⟩ := hl
  dsimp only at hc hd
  subst hc hd
  have ho' : (s.heap.push (set0 w)).get? p = some { cls := .type "list", dict := od, data := .seq its c, slots := osl } := Heap.get?_push_of_some _ ho
  have L1 : (s.heap.push (set0 w)).IsList p its := ⟨_, ho', rfl, c, rfl⟩
  have f1 := F.sub_list_set
  have f2 := F.sub_list_frozenset
  have f3 : (Value.type "list" == Value.type "dict") = false := by decide
  unfold Builtin.«set.__init__» noKeywords Builtin.Frozenset.updateFrom
  generalize hPI : pyIter = PI
  wp_walk
  subst hPI
  have pl : p < s.heap.objs.size := Heap.lt_size ho
  have z1 : (s.heap.push (set0 w)).objs.size = s.heap.objs.size + 1 := Heap.size_push ..
  refine wpAny_pyIter_list L1 (wpAny_bind (wpAny_runValue ?_))
  refine upd_loop (a := s.heap.objs.size) ((Walks.list (by simp [hh]) _ p (by rw [z1]; exact Nat.ne_of_lt (Nat.lt_succ_of_lt pl)) its).toS) (by rw [z1]; simp only [List.mem_cons, List.not_mem_nil, or_false, not_or]; exact ⟨Nat.ne_of_lt (Nat.lt_succ_self _), Nat.ne_of_gt pl⟩) xs ?_ (fun i v e => strs_get hx (by rw [Array.getElem?_toList]; exact e)) xs 0 _ [] rfl (Nat.zero_le _) (by simpa using hb) ⟨⟨_, Heap.get?_push_size _ rfl, rfl, rfl⟩, L1.push _⟩ (set0_ok (Heap.get?_push_of_some _ (Heap.get?_push_size _ rfl))) ?_
  · have q := strs_len hx
    rw [Array.length_toList] at q
    exact q
  · rintro ⟨h2, g2, d2, t2, o2⟩ mv T
    obtain rfl : g2 = s.gens := mv.gens
    obtain rfl : d2 = s.drawn := mv.drawn
    obtain rfl : o2 = s.os := mv.os
    refine wpAny_pure (wpAny_pure ⟨rfl, h h2 t2 (fun b o e => ?_) T⟩)
    have hb0 : b < s.heap.objs.size := Heap.lt_size e
    exact mv.heap b o (by rw [z1]; simp only [List.mem_cons, List.not_mem_nil, or_false, not_or]; exact ⟨Nat.ne_of_lt hb0, Nat.ne_of_lt (Nat.lt_succ_of_lt hb0)⟩) (Heap.get?_push_of_some _ (Heap.get?_push_of_some _ e))
theorem nd_len : ∀ (l xs : List Str), l.Nodup → (∀ k ∈ l, k ∈ xs) → l.length ≤ xs.length
  | [], _, _, _ => Nat.zero_le _
  | x :: l, xs, nd, h => by
    obtain ⟨n1, n2⟩ := List.nodup_cons.mp nd
    have hx := h x List.mem_cons_self
    have q := nd_len l (xs.erase x) n2 fun k hk => (List.mem_erase_of_ne (show k ≠ x from fun z => n1 (by rw [← z]; exact hk))).mpr (h k (List.mem_cons_of_mem _ hk))
    rw [List.length_erase_of_mem hx] at q
    have := List.length_pos_of_mem hx
    simp only [List.length_cons]
    omega
theorem nodup_of : ∀ {xs l : List Str}, (∀ k, k ∈ xs ↔ k ∈ l) → xs.length = l.length → l.Nodup → xs.Nodup
  | [], _, _, _, _ => .nil
  | x :: r, l, h, e, nd => by
    have hl : x ∈ l := (h x).mp List.mem_cons_self
    have hx : x ∉ r := fun z => by
      have q := nd_len l r nd fun k hk => by
        rcases List.mem_cons.mp ((h k).mpr hk) with e' | e'
        · rw [e']; exact z
        · exact e'
      simp only [List.length_cons] at e
      omega
    refine List.nodup_cons.mpr ⟨hx, nodup_of (l := l.erase x) (fun k => ?_) ?_ (nd.erase x)⟩
    · rw [nd.mem_erase_iff]
      constructor
      · intro hk
        exact ⟨fun z => hx (z ▸ hk), (h k).mp (List.mem_cons_of_mem _ hk)⟩
      · rintro ⟨n, hk⟩
        rcases List.mem_cons.mp ((h k).mpr hk) with e' | e'
        · exact absurd e' n
        · exact e'
    · rw [List.length_erase_of_mem hl]
      simp only [List.length_cons] at e
      omega
/-- sorted(S), S a set of texts -/
theorem sorted_txs {Q : Value → Shared → Prop} (T : TxS P w s.heap a l) (hh : A.handled = none) (h64 : l.length < 64)
    (h : ∀ s' p (out : Array Value) c (ys : List Str), (∀ b o, s.heap.get? b = some o → s'.heap.get? b = some o) → s'.gens = s.gens → s'.os = s.os → s.heap.objs.size ≤ p → s'.heap.get? p = some (seqObj "list" out c) → StrsAre out.toList ys → ys.Nodup → (∀ k, k ∈ ys ↔ k ∈ l) → Q (.ref p) s') :
    wpAny (model P w) A (call (.builtin "sorted") [.ref a]) Q E s := by
  obtain ⟨⟨⟨es, ep, t⟩, ho, F, ri, o⟩, nd⟩ := T
  have z : es.size = l.length := F.sz
  have sb : es.size < scanBound := by rw [z]; exact Nat.lt_trans h64 (by decide)
  refine Calls.call_function_entry kind_sorted plain_sorted entry_sorted (args_sorted1 _) ?_
  unfold Builtin.«sorted»
  refine wpAny_bind (m := checkCount "sorted" 1 1 _) (wpAny_pure (wpAny_bind (L2.collect_set (A := A.in1) hh ⟨_, ho, rfl, rfl⟩ F.fit sb ri o fun s1 vs k1 z1 g1 o1 pm => ?_)))
  -- the texts of what was gathered
  have tx : ∀ v ∈ es.toList.map (·.2), ∃ k tk, v = Value.str k tk := fun v hv => by
    obtain ⟨e, he, rfl⟩ := List.mem_map.mp hv
    obtain ⟨⟨k, hk, _⟩, _⟩ := F.el e he
    obtain ⟨u, hu⟩ := Value.isStrOf_shape (x := k) (v := e.2) hk
    exact ⟨k, u, hu⟩
  have mk : ∀ vs : List Value, (∀ v ∈ vs, ∃ k tk, v = Value.str k tk) → ∃ xs, StrsAre vs xs := by
    intro vs
    induction vs with
    | nil => exact fun _ => ⟨[], .nil⟩
    | cons v vs ih =>
      intro q
      obtain ⟨k, tk, rfl⟩ := q v List.mem_cons_self
      obtain ⟨xs, hx⟩ := ih fun u hu => q u (List.mem_cons_of_mem _ hu)
      exact ⟨k :: xs, .cons k tk hx⟩
  have mem : ∀ {vs : List Value} {xs : List Str} {k : Str}, StrsAre vs xs → (k ∈ xs ↔ ∃ tk, Value.str k tk ∈ vs) := by
    intro vs xs k hx
    induction hx with
    | nil => simp
    | cons x tk t ih =>
      rw [List.mem_cons, ih]
      constructor
      · rintro (rfl | ⟨t', h'⟩)
        · exact ⟨tk, List.mem_cons_self⟩
        · exact ⟨t', List.mem_cons_of_mem _ h'⟩
      · rintro ⟨t', h'⟩
        rcases List.mem_cons.mp h' with e | e
        · cases e; exact .inl rfl
        · exact .inr ⟨t', e⟩
  obtain ⟨xs, hx⟩ := mk vs fun v hv => tx v (pm.mem_iff.mp hv)
  have ml : ∀ k, k ∈ xs ↔ k ∈ l := fun k => by
    rw [mem hx, F.mem k]
    constructor
    · rintro ⟨tk, q⟩
      obtain ⟨e, he, q⟩ := List.mem_map.mp (pm.mem_iff.mp q)
      exact ⟨e, he, by rw [q]; exact Froz.is_str k tk⟩
    · rintro ⟨e, he, q⟩
      obtain ⟨u, hu⟩ := Value.isStrOf_shape (x := k) (v := e.2) q
      exact ⟨u, pm.mem_iff.mpr (List.mem_map.mpr ⟨e, he, hu⟩)⟩
  have lx : xs.length = l.length := by rw [← strs_len hx, pm.length_eq, List.length_map, Array.length_toList, z]
  have ndx : xs.Nodup := nodup_of ml lx nd
  have lv : vs.length < 64 := by rw [strs_len hx, lx]; exact h64
  refine wpAny_bind (wpAny_newList ?_ (by rw [sizeLine_eq]; omega))
  have oL : (s1.heap.push (seqObj "list" vs.toArray 0)).get? s1.heap.objs.size = some (seqObj "list" vs.toArray 0) := Heap.get?_push_size _ rfl
  refine wpAny_bind (wpAny_holding (wpAny_call_entry slot_list_sort ⟨_, oL, rfl⟩ entry_list_sort (list_sort_treeK strKind_oneLt oL hx.keysOf (fun v1 v2 r e => keyKind_strs (by rw [← e]; exact hx)) lv fun st hp hs => ⟨_, rfl, ?_⟩) (args_list_sort _)))
  obtain ⟨ys, y1, y2, _⟩ := sorted_out_str hx hp hs
  obtain ⟨c, hc⟩ := sortedHeap_at (vs := vs) (out := (arrOf st).map (·.2)) oL
  refine wpAny_pure ⟨_, rfl, h _ s1.heap.objs.size _ c ys (fun b u e => ?_) g1 o1 z1 hc y1 (y2.nodup_iff.mpr ndx) fun k => (y2.mem_iff).trans (ml k)⟩
  have e1 := k1 b u e
  have lt := Heap.lt_size e1
  show (sortedHeap (s1.heap.push (seqObj "list" vs.toArray 0)) s1.heap.objs.size vs ((arrOf st).map (·.2))).get? b = some u
  rw [sortedHeap_old (Nat.ne_of_lt lt) (by rw [Heap.size_push]; exact Nat.lt_succ_of_lt lt)]
  exact Heap.get?_push_of_some _ e1
end
/-! ### as rules -/
def TxO (P : Program) (w : World) (a : Addr) (l : List Str) : HO := .ext fun h => TxS P w h a l
def rSetT (X : Cx) : List V → Hp → VK → Prop := fun vs H Q => ∃ (a : Addr) (xs : List Str), vs = [.ref a] ∧ SqL X.K H a (xs.map V.str) ∧ xs.length ≤ 1000 ∧ ∀ p, H p = none → Q (.ref p) (upd H p (TxO X.prog X.w p (grown [] xs)))
def rSrtT (X : Cx) : List V → Hp → VK → Prop := fun vs H Q => ∃ (a : Addr) (l : List Str), vs = [.ref a] ∧ H a = some (TxO X.prog X.w a l) ∧ l.length < 64 ∧ ∀ (p : Addr) (ys : List Str), ys.Nodup → (∀ k, k ∈ ys ↔ k ∈ l) → H p = none → Q (.ref p) (upd H p (.lst (ys.map V.str)))
section
variable {X : Cx}
theorem cr_setT (hc : X.calm = true) : CallR X (.type "set") (rSetT X) := by
  intro pins s σ H vs us Q I r h
  obtain ⟨a, xs, rfl, hs, hl, q⟩ := h
  obtain ⟨its, rv, l, _⟩ := I.list hs
  rw [Vals.ref1 r]
  refine set_texts (I.ok.hd hc) l.isList rv.strs (Nat.lt_of_le_of_lt (Nat.succ_le_succ hl) (by decide)) fun h' tk k T => ?_
  have ok : ObjOk X.prog X.w (upd H s.heap.objs.size (TxO X.prog X.w s.heap.objs.size (grown [] xs))) h' s.heap.objs.size (TxO X.prog X.w s.heap.objs.size (grown [] xs)) :=
    ⟨T, (let ⟨_, e, _⟩ := T.ex; ⟨_, e⟩), fun h1 h2 p k => TxS.at p k⟩
  exact ⟨.ref _, _, I.laid (t' := tk) k (Nat.le_refl _) ok, rfl, q _ (I.hok.fresh (Nat.le_refl _))⟩
theorem cr_srtT (hc : X.calm = true) : CallR X (.builtin "sorted") (rSrtT X) := by
  intro pins s σ H vs us Q I r h
  obtain ⟨a, l, rfl, ha, h64, q⟩ := h
  have T : TxS X.prog X.w s.heap a l := (I.hok a _ ha).1
  rw [Vals.ref1 r]
  refine sorted_txs T (I.ok.hd hc) h64 fun s' p out c ys k g o hp hg hi nd ml => ?_
  have n := I.hok.fresh hp
  have len : (ys.map V.str).length ≤ sizeLine := by
    rw [List.length_map, sizeLine_eq]
    have := nd_len ys l nd fun k hk => (ml k).mp hk
    omega
  have J : Inv X pins σ (upd H p (.lst (ys.map V.str))) { s with heap := s'.heap, gens := s'.gens, drawn := s'.drawn, toks := s'.toks } :=
    I.call (ch := []) (Un.laid k hp n) (I.hok.laid k hp ⟨len, out.toList, c, vals_of_strs hi, hg⟩) (by rw [g]; exact I.bare) (fun _ z => nomatch z)
  obtain ⟨h2, g2, d2, t2, o2⟩ := s'
  obtain rfl : o2 = s.os := o
  exact ⟨.ref p, _, J, rfl, q p ys nd ml n⟩
end
end Ts
namespace Ts
open PySem PySem.Spec PyProof.Rows L2
/-! ### texts -/
abbrev S (l : List Nat) : Str := SX.S l
theorem S_len (l : List Nat) : (S l).length = l.length := SX.S_len l
theorem S_app (a b : List Nat) : S a ++ S b = S (a ++ b) := str_ext (by
  show ((S a).cps ++ (S b).cps).toList = _
  simp)
theorem S_inj {a b : List Nat} (h : S a = S b) : a = b := by
  have := congrArg (fun z : Str => z.cps.toList) h
  simpa using this
theorem S_of (z : Str) : ∃ l, z = S l := ⟨z.cps.toList, by obtain ⟨⟨l⟩⟩ := z; rfl⟩
theorem cutS_S (l : List Nat) (lo hi : Option Int) : cutS (S l) lo hi = S (cutD l lo hi) := by
  unfold cutS cutD
  rw [S_len]
theorem repS_S (l : List Nat) (n : Nat) : repS (S l) n = S (List.replicate n l).flatten := rfl
theorem join_S (a : List Nat) (ys : List (List Nat)) : Txt.join (S a) (ys.map S) = S (TL.joinL a ys) := SX.join_S a ys
theorem S1 (c : Nat) : (⟨#[c]⟩ : Str) = S [c] := rfl
/-- a text in a text -/
def inS (i j : Str) : Bool := !(Builtin.Str.occurrences j i 0 j.length 1).isEmpty
theorem inS_one (c : Nat) (a : List Nat) : inS (S [c]) (S a) = decide (c ∈ a) := SX.in_one a c
/-- flat data -/
def flD : D → Option V
  | .non => some .non
  | .bl b => some (.bl b)
  | .int i => some (.int i)
  | .str z => some (.str z)
  | _ => none
def flDs : List D → Option (List V)
  | [] => some []
  | d :: ds => match flD d, flDs ds with
    | some v, some vs => some (v :: vs)
    | _, _ => none
def strD : D → Option Str
  | .str z => some z
  | _ => none
def strDs : List D → Option (List Str)
  | [] => some []
  | d :: ds => match strD d, strDs ds with
    | some v, some vs => some (v :: vs)
    | _, _ => none
def intDs : List D → Option (List Int)
  | [] => some []
  | .int i :: ds => (intDs ds).map (i :: ·)
  | _ :: _ => none
theorem strDs_map : ∀ xs : List Str, strDs (xs.map D.str) = some xs
  | [] => rfl
  | x :: xs => by simp only [List.map_cons, strDs, strD, strDs_map xs]
theorem intDs_map : ∀ xs : List Int, intDs (xs.map D.int) = some xs
  | [] => rfl
  | x :: xs => by simp only [List.map_cons, intDs, intDs_map xs, Option.map_some]
theorem flDs_str : ∀ xs : List Str, flDs (xs.map D.str) = some (xs.map V.str)
  | [] => rfl
  | x :: xs => by simp only [List.map_cons, flDs, flD, flDs_str xs]
theorem flDs_int : ∀ xs : List Int, flDs (xs.map D.int) = some (xs.map V.int)
  | [] => rfl
  | x :: xs => by simp only [List.map_cons, flDs, flD, flDs_int xs]
theorem inV_str (x : Str) (xs : List Str) : inV (.str x) (xs.map V.str) = decide (x ∈ xs) := by
  unfold inV
  induction xs with
  | nil => simp
  | cons y ys ih =>
    rw [List.map_cons, List.any_cons, ih]
    simp only [eqV]
    by_cases h : y = x
    · subst h; simp
    · have : (y == x) = false := by simpa using h
      rw [this]
      simp [List.mem_cons, Ne.symm h]
section
variable {K : PySem.W.Frag} {mg : Str → Option Value} {X : Cx} {W : WX} {F H : Hp}
theorem flD_ok {d : D} {v u : V} (h : flD d = some v) (r : Rp K mg F u d) : u = v ∧ flatV v = true := by
  unfold flD at h
  split at h
  · cases h; exact ⟨r.nonI, rfl⟩
  · cases h; exact ⟨r.blI, rfl⟩
  · cases h; exact ⟨r.intI, rfl⟩
  · cases h; exact ⟨r.strI, rfl⟩
  · cases h
theorem flDs_ok : ∀ {ds : List D} {vs us : List V}, flDs ds = some vs → RpL K mg F us ds → us = vs ∧ vs.all flatV = true
  | [], vs, us, h, r => by simp only [flDs] at h; cases h; cases r; exact ⟨rfl, rfl⟩
  | d :: ds, vs, us, h, r => by
    simp only [flDs] at h
    split at h
    · rename_i v vs' h1 h2
      cases h
      cases r with
      | cons ra rb =>
        obtain ⟨rfl, f1⟩ := flD_ok h1 ra
        obtain ⟨rfl, f2⟩ := flDs_ok h2 rb
        exact ⟨rfl, by rw [List.all_cons, f1, f2]; rfl⟩
    · cases h
theorem strDs_eq : ∀ {ds : List D} {xs : List Str}, strDs ds = some xs → ds = xs.map D.str
  | [], xs, h => by simp only [strDs] at h; cases h; rfl
  | d :: ds, xs, h => by
    simp only [strDs] at h
    split at h
    · rename_i v vs' h1 h2
      cases h
      unfold strD at h1
      split at h1
      · cases h1; rw [strDs_eq h2]; rfl
      · cases h1
    · cases h
theorem RpL.strsV : ∀ {xs : List V} {ys : List Str}, RpL K mg F xs (ys.map D.str) → xs = ys.map V.str
  | _, [], .nil => rfl
  | _, n :: ns, .cons r s => by rw [r.strI, RpL.strsV s]; rfl
/-! in -/
def oInS : O2
  | .str i, .str j, m, k => k (.bl (inS i j)) m
  | _, _, _, _ => False
def oNotInS : O2
  | .str i, .str j, m, k => k (.bl (!inS i j)) m
  | _, _, _, _ => False
theorem jo_inS : JO2 X (compareOp .In) oInS := ⟨_, op_in_str, fun F H m x y u v k l mr a b h Q q => by
  unfold oInS at h
  split at h
  · exact ⟨_, _, a.strI, b.strI, q _ _ F H m (StM.refl l mr) (.bl _) h⟩
  · exact h.elim⟩
/-- in a list or a tuple of flat things -/
def oInL : O2 := fun x y m k => onO (flD x) fun v => onO (itemsOf m y) fun ds => onO (flDs ds) fun vs => k (.bl (inV v vs)) m
def oNotInL : O2 := fun x y m k => onO (flD x) fun v => onO (itemsOf m y) fun ds => onO (flDs ds) fun vs => k (.bl (!inV v vs)) m
theorem inl_snd {m : Mem} {x y : D} {u v : V} {w : V} {ds : List D} {vs : List V} (l : Le F H) (mr : MemR K mg F H m) (a : Rp K mg F u x) (b : Rp K mg F v y) (h1 : flD x = some w) (h2 : itemsOf m y = some ds) (h3 : flDs ds = some vs) :
    u = w ∧ flatV w = true ∧ ∃ p, v = .ref p ∧ (SqL K H p vs ∨ SqT K H p vs) ∧ vs.all flatV = true := by
  obtain ⟨rfl, f1⟩ := flD_ok h1 a
  obtain ⟨p, us, rfl, sp, rp⟩ := b.items l mr h2
  obtain ⟨rfl, f2⟩ := flDs_ok h3 rp
  exact ⟨rfl, f1, p, rfl, sp, f2⟩
theorem jo_inL : JO2 X (compareOp .In) oInL := ⟨_, op_in_seq, fun F H m x y u v k l mr a b h Q q => by
  obtain ⟨w, h1, h⟩ := onO_of h
  obtain ⟨ds, h2, h⟩ := onO_of h
  obtain ⟨vs, h3, h⟩ := onO_of h
  obtain ⟨rfl, f1, p, rfl, sp, f2⟩ := inl_snd l mr a b h1 h2 h3
  exact ⟨p, vs, rfl, sp, f1, f2, q _ _ F H m (StM.refl l mr) (.bl _) h⟩⟩
theorem jo_notinL : JO2 X (compareOp .NotIn) oNotInL := ⟨_, op_notIn_seq, fun F H m x y u v k l mr a b h Q q => by
  obtain ⟨w, h1, h⟩ := onO_of h
  obtain ⟨ds, h2, h⟩ := onO_of h
  obtain ⟨vs, h3, h⟩ := onO_of h
  obtain ⟨rfl, f1, p, rfl, sp, f2⟩ := inl_snd l mr a b h1 h2 h3
  exact ⟨p, vs, rfl, sp, f1, f2, q _ _ F H m (StM.refl l mr) (.bl _) h⟩⟩
/-! sep.join(texts) -/
def onS : D → (Str → Prop) → Prop
  | .str z, k => k z
  | _, _ => False
theorem onS_of {d : D} {k : Str → Prop} (h : onS d k) : ∃ z, d = .str z ∧ k z := by
  unfold onS at h
  split at h
  · exact ⟨_, rfl, h⟩
  · exact h.elim
def oJoin (sep : Str) (d : D) (m : Mem) (k : KD) : Prop := onO (itemsOf m d) fun ds => onO (strDs ds) fun ys => (ys.map (·.length)).sum + ys.length * sep.length ≤ 1000000 ∧ k (.str (Txt.join sep ys)) m
@[reducible] def vJoin (a b : VE) : VE := fun s m k x => a s m (fun d m1 => onS d fun sep => b s m1 (fun e m2 => oJoin sep e m2 k) x) x
theorem je_join {o e : Expr} {vo ve : VE} {apos pos : Pos} (ho : JE X W o vo) (he : JE X W e ve) (hs : starEach [e] X.env = [(false, eval e X.env)] := by rfl) (hbase : attributeBase o "join" X.env (eval o X.env) = eval o X.env := by rfl) (hline : (apos.endLine == pos.line) = true := by rfl) :
    JE X W (.Call (.Attribute o "join" apos) [e] [] pos) (vJoin vo ve) := by
  obtain ⟨to, p1, s1⟩ := ho; obtain ⟨te, p2, s2⟩ := he
  refine ⟨_, pe_join p1 p2 hs hbase hline, fun σ F H s m k x l en hv hx Q q => s1 σ F H s m _ x l en hv hx _ fun u d F1 H1 m1 t1 r1 k1 => ?_⟩
  obtain ⟨sep, rfl, k1⟩ := onS_of k1
  refine ⟨⟨sep, r1.strI⟩, s2 σ F1 H1 s m1 _ x t1.le (en.stm t1) k1 (hx.after t1) _ fun w e F2 H2 m2 t2 r2 k2 => ?_⟩
  obtain ⟨ds, h1, k2⟩ := onO_of k2
  obtain ⟨ys, h2, hz, k3⟩ := onO_of k2
  clear k2
  obtain rfl := strDs_eq h2
  obtain ⟨p, us, rfl, sp, rp⟩ := r2.items t2.le t2.mr h1
  obtain rfl := rp.strsV
  exact ⟨sep, p, ys, r1.strI, rfl, sp, Nat.le_trans hz (by decide), q _ _ F2 H2 m2 (t1.trans t2) (.str _) k3⟩
/-! sorted(texts), sorted(ints) -/
def oSortS : OA := fun ds m k => match ds with
  | [d] => onO (asL m d) fun ds => onO (strDs ds) fun xs => xs.length < 64 ∧ ∀ ys : List Str, ys.Perm xs → sortedS ys = true → k (.lst (ys.map D.str)) m
  | _ => False
def oSortI : OA := fun ds m k => match ds with
  | [d] => onO (asL m d) fun ds => onO (intDs ds) fun xs => ∀ ys : List Int, ys.Perm xs → ys.Pairwise (· ≤ ·) → k (.lst (ys.map D.int)) m
  | _ => False
/-! len(sorted(set(texts))) -/
def tLs (K : PySem.W.Frag) (ta : TE) : TE := fun σ H Q => ta σ H fun v H1 => ∃ (a : Addr) (xs : List Str), v = .ref a ∧ SqL K H1 a (xs.map V.str) ∧ xs.length < 64 ∧ ∀ (ns : List Str) H2, ns.Nodup → (∀ z, z ∈ ns ↔ z ∈ xs) → (∃ p p2 o o2, H1 p = none ∧ upd H1 p o p2 = none ∧ H2 = upd (upd H1 p o) p2 o2) → Q (.int ns.length) H2
theorem grown_len : ∀ {r l : List Str}, (grown l r).length ≤ l.length + r.length
  | [], _ => Nat.le_refl _
  | x :: r, l => by
    have h1 := grown_len (r := r) (l := more l x)
    have h2 := more_len (l := l) (k := x)
    show (grown (more l x) r).length ≤ _
    simp only [List.length_cons]
    omega
/-- a reading, made monotone -/
def clo (t : TE) : TE := fun σ H Q => ∃ Q0 : VK, t σ H Q0 ∧ ∀ v H', Q0 v H' → Q v H'
theorem pe_clo {a : Expr} {ta : TE} (h : PE X a ta) : PE X a (clo ta) := ⟨fun pins s σ H Q I ⟨Q0, q0, m⟩ => wpAny_mono (h.run pins s σ H Q0 I q0) (fun u s' ⟨v, H', I', r, q⟩ => ⟨v, H', I', r, m v H' q⟩) fun _ _ z => z⟩
theorem pe_weak {a : Expr} {ta t : TE} (h : PE X a t) (w : ∀ σ H Q, ta σ H Q → t σ H Q) : PE X a ta := ⟨fun pins s σ H Q I q => h.run pins s σ H Q I (w σ H Q q)⟩
theorem pe_ls {a : Expr} {ta : TE} {p1 p2 p3 q1 q2 q3 : Pos} (hc : X.calm = true) (g1 : Gl X "len") (m1 : X.mg "len" = none) (g2 : Gl X "sorted") (m2 : X.mg "sorted" = none) (g3 : Gl X "set") (m3 : X.mg "set" = none) (ha : PE X a ta)
    (s3 : starEach [a] X.env = (false, eval a X.env) :: starEach [] X.env := by rfl) :
    PE X (.Call (.Name "len" p1) [.Call (.Name "sorted" p2) [.Call (.Name "set" p3) [a] [] q3] [] q2] [] q1) (tLs X.K ta) := by
  refine pe_weak (pe_callB call_len g1 m1 (by decide +kernel) (pa_cons (pe_callB (cr_srtT hc) g2 m2 (by decide +kernel) (pa_cons (pe_callTy (cr_setT hc) g3 m3 (by decide +kernel) (pa_cons (pe_clo ha) pa_nil (hs := s3)) (he := s3)) pa_nil)) pa_nil)) fun σ H Q h => ?_
  refine ⟨_, h, ?_⟩
  rintro v H1 ⟨a, xs, rfl, sq, hl, q⟩
  refine ⟨a, xs, rfl, sq, by omega, fun p hp => ?_⟩
  refine ⟨p, grown [] xs, rfl, upd_same, Nat.lt_of_le_of_lt (grown_len (r := xs) (l := [])) (by simpa using hl), fun p2 ys nd mem hp2 => ?_⟩
  refine ⟨_, _, rfl, .inl ⟨_, SqL.of upd_same, rfl⟩, ?_⟩
  rw [List.length_map]
  exact q ys _ nd (fun z => by rw [mem z, grown_mem]; simp) ⟨p, p2, _, _, hp, hp2, rfl⟩
@[reducible] def vLs (a : VE) : VE := fun s m k x => a s m (fun d m1 => onO (asL m1 d) fun ds => onO (strDs ds) fun xs => xs.length < 64 ∧ ∀ ns : List Str, ns.Nodup → (∀ z, z ∈ ns ↔ z ∈ xs) → k (.int (ns.length : Int)) m1) x
theorem je_ls {a : Expr} {va : VE} {p1 p2 p3 q1 q2 q3 : Pos} (hc : X.calm = true) (g1 : Gl X "len") (m1 : X.mg "len" = none) (g2 : Gl X "sorted") (m2 : X.mg "sorted" = none) (g3 : Gl X "set") (m3 : X.mg "set" = none) (ha : JE X W a va)
    (s3 : starEach [a] X.env = (false, eval a X.env) :: starEach [] X.env := by rfl) :
    JE X W (.Call (.Name "len" p1) [.Call (.Name "sorted" p2) [.Call (.Name "set" p3) [a] [] q3] [] q2] [] q1) (vLs va) := by
  obtain ⟨ta, p, s1⟩ := ha
  refine ⟨_, pe_ls hc g1 m1 g2 m2 g3 m3 p s3, fun σ F H s m k x l en hv hx Q q => s1 σ F H s m _ x l en hv hx _ fun u d F1 H1 m1 t1 r1 k1 => ?_⟩
  obtain ⟨ds, h1, k1⟩ := onO_of k1
  obtain ⟨ys, h2, hz, k2⟩ := onO_of k1
  clear k1
  obtain rfl := strDs_eq h2
  obtain ⟨p, vs, rfl, sp, rp⟩ := r1.asL t1.le t1.mr h1
  obtain rfl := rp.strsV
  refine ⟨p, ys, rfl, sp, hz, fun ns H2 nd mem ⟨a, b, o, o2, ha, hb, e⟩ => ?_⟩
  subst e
  have st1 : StM X.K X.mg m1 F1 H1 F1 (upd H1 a o) m1 := (StM.refl t1.le t1.mr).side ha (t1.le.none ha) (t1.mr.free ha)
  have st2 : StM X.K X.mg m1 F1 (upd H1 a o) F1 (upd (upd H1 a o) b o2) m1 := (StM.refl st1.le st1.mr).side hb (st1.le.none hb) (st1.mr.free hb)
  exact q _ _ F1 _ m1 (t1.trans (st1.trans st2)) (.int _) (k2 ns nd mem)
end
theorem its_tup {m : Mem} {ds : List D} : itemsOf m (.tup ds) = some ds := rfl
theorem its_pr {m : Mem} {ds : List D} : itemsOf m (.pr ds) = some ds := rfl
theorem its_lst {m : Mem} {ds : List D} : itemsOf m (.lst ds) = some ds := rfl
theorem its_lat {m : Mem} {a : Addr} {ds : List D} : itemsOf m (.lat a ds) = some ds := rfl
theorem asL_lst {m : Mem} {ds : List D} : asL m (.lst ds) = some ds := rfl
theorem asL_lat {m : Mem} {a : Addr} {ds : List D} : asL m (.lat a ds) = some ds := rfl
def lstO : Option MO → Option (List D)
  | some (.lst ds) => some ds
  | _ => none
theorem lstO_l {ds : List D} : lstO (some (.lst ds)) = some ds := rfl
theorem asL_rf {m : Mem} {p : Addr} : asL m (.ref p) = lstO (m p) := by
  unfold asL lstO
  rfl
theorem its_rf {m : Mem} {p : Addr} : itemsOf m (.ref p) = lstO (m p) := asL_rf
theorem MLe.fresh {m : Mem} {p : Addr} {o : MO} (h : m p = none) : MLe m (mset m p o) := fun a u e => by rw [mset_ne (fun z => by rw [z, h] at e; cases e)]; exact e
/-! ### comprehensions: what each item may come to -/
inductive Al2 {α β : Type} (R : α → β → Prop) : List α → List β → Prop
  | nil : Al2 R [] []
  | cons {a : α} {b : β} {as : List α} {bs : List β} : R a b → Al2 R as bs → Al2 R (a :: as) (b :: bs)
theorem Al2.len {α β : Type} {R : α → β → Prop} {as : List α} {bs : List β} (h : Al2 R as bs) : bs.length = as.length := by
  induction h with
  | nil => rfl
  | cons _ _ ih => simp [ih]
theorem Al2.mem {α β : Type} {R : α → β → Prop} {as : List α} {bs : List β} (h : Al2 R as bs) : ∀ b ∈ bs, ∃ a ∈ as, R a b := by
  induction h with
  | nil => intro b hb; cases hb
  | cons r _ ih =>
    intro b hb
    rcases List.mem_cons.mp hb with rfl | hb
    · exact ⟨_, List.mem_cons_self, r⟩
    · obtain ⟨a, ha, hr⟩ := ih b hb
      exact ⟨a, List.mem_cons_of_mem _ ha, hr⟩
theorem Al2.unmap {α β γ : Type} {R : α → β → Prop} {f : γ → β} (h : ∀ x y, R x y → ∃ c, y = f c) {as : List α} {bs : List β} (al : Al2 R as bs) : ∃ cs : List γ, bs = cs.map f := by
  induction al with
  | nil => exact ⟨[], rfl⟩
  | cons r _ ih =>
    obtain ⟨c, rfl⟩ := h _ _ r
    obtain ⟨cs, rfl⟩ := ih
    exact ⟨c :: cs, rfl⟩
/-- each item comes to something -/
theorem lc_rel {α : Type} {f : α → D} {g : VG} {t : VT} {e : VE} {s : SL} {m : Mem} {k : List D → Mem → Prop} (R : α → D → Prop) :
    ∀ (as : List α) (acc : List D), (∀ a ∈ as, ∀ (k' : KD) (kn : Mem → Prop), (∀ y, R a y → k' y m) → g (f a) s fun s1 => t s1 m (fun b m1 => if b = true then e s1 m1 k' nox else kn m1) nox) →
    (∀ ys : List D, Al2 R as ys → k (acc ++ ys) m) → lcV g t e s (as.map f) acc m k
  | [], acc, _, hk => by have := hk [] .nil; rw [List.append_nil] at this; exact this
  | a :: as, acc, hs, hk => hs a List.mem_cons_self _ _
      (fun y hy => lc_rel R as (acc ++ [y]) (fun b hb => hs b (List.mem_cons_of_mem _ hb)) fun os al => by
        have := hk (y :: os) (.cons hy al)
        rw [List.append_assoc]; exact this)
/-- .. to what is told -/
theorem lc_map {α : Type} {f h : α → D} {g : VG} {t : VT} {e : VE} {s : SL} {m : Mem} {k : List D → Mem → Prop} :
    ∀ (as : List α) (acc : List D), (∀ a ∈ as, ∀ (k' : KD) (kn : Mem → Prop), k' (h a) m → g (f a) s fun s1 => t s1 m (fun b m1 => if b = true then e s1 m1 k' nox else kn m1) nox) →
    k (acc ++ as.map h) m → lcV g t e s (as.map f) acc m k
  | [], acc, _, hk => by rw [List.map_nil, List.append_nil] at hk; exact hk
  | a :: as, acc, hs, hk => hs a List.mem_cons_self _ _ (lc_map as (acc ++ [h a]) (fun b hb => hs b (List.mem_cons_of_mem _ hb)) (by rw [List.append_assoc]; exact hk))
/-- .. or drops out -/
theorem lc_filt {α : Type} {f : α → D} {h : α → Option D} {g : VG} {t : VT} {e : VE} {s : SL} {m : Mem} {k : List D → Mem → Prop} :
    ∀ (as : List α) (acc : List D), (∀ a ∈ as, ∀ (k' : KD) (kn : Mem → Prop), (∀ y, h a = some y → k' y m) → (h a = none → kn m) → g (f a) s fun s1 => t s1 m (fun b m1 => if b = true then e s1 m1 k' nox else kn m1) nox) →
    k (acc ++ as.filterMap h) m → lcV g t e s (as.map f) acc m k
  | [], acc, _, hk => by rw [List.filterMap_nil, List.append_nil] at hk; exact hk
  | a :: as, acc, hs, hk => hs a List.mem_cons_self _ _
      (fun y hy => lc_filt as (acc ++ [y]) (fun b hb => hs b (List.mem_cons_of_mem _ hb)) (by rw [List.append_assoc, List.singleton_append]; rw [List.filterMap_cons, hy] at hk; exact hk))
      (fun hy => lc_filt as acc (fun b hb => hs b (List.mem_cons_of_mem _ hb)) (by rw [List.filterMap_cons, hy] at hk; exact hk))
theorem frz_l {ds : List D} {k : D → Prop} : (MO.lst ds).onF k = k (.lst ds) := rfl
theorem strOk_S {l : List Nat} (h : ∀ c ∈ l, c < 256) : PyData.strOk (S l) = true := by
  unfold PyData.strOk
  rw [← Array.all_toList, List.all_eq_true]
  intro c hc
  have := h c (by simpa using hc)
  simp only [decide_eq_true_eq]
  omega
end Ts
namespace Ts
open PySem PySem.Spec PyProof.Rows L2
/-! ### str(x), f-strings -/
/-- an int as a text -/
def intS (i : Int) : Str := Str.ofString (toString i)
def oStr : OA
  | [.int i], m, k => i.natAbs.log2 < 1920 ∧ k (.str (intS i)) m
  | [.str z], m, k => k (.str z) m
  | _, _, _ => False
section
variable {K : PySem.W.Frag} {mg : Str → Option Value} {X : Cx} {W : WX} {F H : Hp}
theorem jo_str : JOA X (.type "str") oStr := ⟨_, cr_or call_str_int SkE.call_str_str, fun F H m xs us k l mr r h Q q => by
  unfold oStr at h
  split at h
  · obtain ⟨u, rfl, a⟩ := r.one
    obtain rfl := a.intI
    exact .inl ⟨_, rfl, h.1, q _ _ F H m (StM.refl l mr) (.str _) h.2⟩
  · obtain ⟨u, rfl, a⟩ := r.one
    obtain rfl := a.strI
    exact .inr ⟨_, rfl, q _ _ F H m (StM.refl l mr) (.str _) h⟩
  · exact h.elim⟩
def oFmt : D → (Str → Prop) → Prop
  | .str y, k => y.length ≤ 1000000 ∧ k y
  | .int i, k => i.natAbs.log2 < 1920 ∧ k (intS i)
  | _, _ => False
@[reducible] def vFmt (a : VE) : VE := fun s m k x => a s m (fun d m1 => oFmt d fun z => k (.str z) m1) x
theorem je_fmt {e : Expr} {ve : VE} {pos : Pos} (h : JE X W e ve) : JE X W (.FormattedValue e (-1) none pos) (vFmt ve) := by
  obtain ⟨t, p, s1⟩ := h
  refine ⟨_, pe_fmt p, fun σ F H s m k x l en hv hx Q q => s1 σ F H s m _ x l en hv hx _ fun v d F1 H1 m1 t1 r1 k1 => ?_⟩
  unfold oFmt at k1
  split at k1
  · exact .inl ⟨_, r1.strI, Nat.le_trans k1.1 (by decide), q _ _ F1 H1 m1 t1 (.str _) k1.2⟩
  · exact .inr ⟨_, r1.intI, k1.1, q _ _ F1 H1 m1 t1 (.str _) k1.2⟩
  · exact k1.elim
/-- the parts one behind the other -/
def vJs : List VE → Str → SL → Mem → (Str → Mem → Prop) → KX → Prop
  | [], acc, _, m, k, _ => k acc m
  | v :: vs, acc, s, m, k, x => v s m (fun d m1 => onS d fun y => (acc ++ y).length ≤ 1000000 ∧ vJs vs (acc ++ y) s m1 k x) x
inductive JJ (X : Cx) (W : WX) : List Expr → List VE → Prop
  | nil : JJ X W [] []
  | cons {e : Expr} {v : VE} {es : List Expr} {vs : List VE} : JE X W e v → JJ X W es vs → JJ X W (e :: es) (v :: vs)
theorem JJ.run {es : List Expr} {vs : List VE} (h : JJ X W es vs) : ∃ ts, PJ X es ts ∧ ∀ (acc : Str) (σ : L2.St) (F H : Hp) (s : SL) (m : Mem) (k : Str → Mem → Prop) (x : KX), Le F H → EnvR X.K X.mg F H σ s m → vJs vs acc s m k x → XOk X.K X.mg W σ F H m x → ∀ Q : Str → Hp → Prop,
    (∀ z F' H' m', StM X.K X.mg m F H F' H' m' → k z m' → Q z H') → tJs ts acc σ H Q := by
  induction h with
  | nil => exact ⟨[], .nil, fun acc σ F H s m k x l en hv hx Q q => q acc F H m (StM.refl l en.mem) hv⟩
  | cons he _ ih =>
    obtain ⟨t, p, s1⟩ := he
    obtain ⟨ts, ps, r⟩ := ih
    refine ⟨t :: ts, .cons p ps, fun acc σ F H s m k x l en hv hx Q q => s1 σ F H s m _ x l en hv hx _ fun v d F1 H1 m1 t1 r1 k1 => ?_⟩
    obtain ⟨y, rfl, hz, k1⟩ := onS_of k1
    exact ⟨y, r1.strI, Nat.le_trans hz (by decide), r _ σ F1 H1 s m1 k x t1.le (en.stm t1) k1 (hx.after t1) Q fun z F' H' m' st hk => q z F' H' m' (t1.trans st) hk⟩
@[reducible] def vJoined (vs : List VE) : VE := fun s m k x => vJs vs (S []) s m (fun z m1 => k (.str z) m1) x
theorem je_joined {v1 v2 : Expr} {rest : List Expr} {vs : List VE} {pos : Pos} (h : JJ X W (v1 :: v2 :: rest) vs) : JE X W (.JoinedStr (v1 :: v2 :: rest) pos) (vJoined vs) := by
  obtain ⟨ts, p, r⟩ := h.run
  exact ⟨_, pe_joined p, fun σ F H s m k x l en hv hx Q q => r Str.empty σ F H s m _ x l en hv hx _ fun z F' H' m' st hk => q _ _ F' H' m' st (.str z) hk⟩
/-! ### tuples of the module -/
theorem je_gtup {x : Str} {vs : List V} {ds : List D} {pos : Pos} (hg : Gl X x) (h : ∃ a, X.mg x = some (.ref a) ∧ (∀ H : Hp, SqN X.K H a vs)) (r : ∀ F, RpL X.K X.mg F vs ds) (hd : (x == ("__debug__" : Str)) = false := by decide) : JE X W (.Name x pos) (vC (.tup ds)) := by
  obtain ⟨a, e, sq⟩ := h
  exact je_c (pe_glob (v := .ref a) hg e rfl hd) fun F => .tup (sq F) (r F)
/-! ### dicts -/
def keyD : D → Option Key
  | .int i => some (.inl i)
  | .str z => some (.inr z)
  | _ => none
theorem keyD_ok {d : D} {c : Key} {u : V} (h : keyD d = some c) (r : Rp K mg F u d) : u = kV c := by
  unfold keyD at h
  split at h
  · cases h; exact r.intI
  · cases h; exact r.strI
  · cases h
/-- the pairs of a dict, frozen or in the memory -/
def dicO : Option MO → Option (List (Key × D))
  | some (.dic ds) => some ds
  | _ => none
def asK (m : Mem) : D → Option (List (Key × D))
  | .dic ds => some ds
  | .ref p => dicO (m p)
  | _ => none
theorem Rp.asKD {m : Mem} {d : D} {ds : List (Key × D)} {v : V} (l : Le F H) (mr : MemR K mg F H m) (r : Rp K mg F v d) (h : asK m d = some ds) : ∃ a xs, v = .ref a ∧ Rd H a (.dK xs) ∧ RpK K mg F xs ds := by
  unfold asK at h
  split at h
  · cases h
    cases r with
    | dic e rk => exact ⟨_, _, rfl, .inr ⟨_, l.at e id⟩, rk⟩
  · rename_i p
    obtain rfl := r.refI
    cases q : m p with
    | none => rw [q] at h; cases h
    | some o =>
      cases o with
      | dic es =>
        rw [q] at h
        cases h
        obtain ⟨_, xs, e, rk⟩ := mr p _ q
        exact ⟨p, xs, rfl, .inl e, rk⟩
      | _ => rw [q] at h; cases h
  · cases h
/-- what stands under a key -/
def valD {κ α : Type} [DecidableEq κ] (kvs : List (κ × α)) (k : κ) : Option α := (kvs.find? fun kv => decide (kv.1 = k)).map (·.2)
theorem RpK.val {κ : Type} [DecidableEq κ] {c : κ} : ∀ {xs : List (κ × V)} {ds : List (κ × D)} {d : D}, RpK K mg F xs ds → valD ds c = some d → ∃ v, valV xs c = some v ∧ Rp K mg F v d
  | _, _, d, .nil, h => by cases h
  | _, _, d, .cons (k := k') (ds := ds) r s, h => by
    by_cases e : k' = c
    · subst e
      simp [valD] at h
      subst h
      exact ⟨_, valV_pos rfl, r⟩
    · have h2 : valD ds c = some d := by simpa [valD, List.find?_cons, e] using h
      obtain ⟨v, h3, h4⟩ := RpK.val s h2
      exact ⟨v, by rw [valV_neg e]; exact h3, h4⟩
theorem RpK.valN {κ : Type} [DecidableEq κ] {c : κ} : ∀ {xs : List (κ × V)} {ds : List (κ × D)}, RpK K mg F xs ds → valD ds c = none → valV xs c = none
  | _, _, .nil, h => rfl
  | _, _, .cons (k := k') r s, h => by
    by_cases e : k' = c
    · subst e
      simp [valD] at h
    · rw [valV_neg e]
      exact RpK.valN s (by simpa [valD, List.find?_cons, e] using h)
def oDGet : O2 := fun x y m k => onO (asK m x) fun kvs => onO (keyD y) fun c => onO (valD kvs c) fun d => k d m
@[reducible] def vDGet (a b : VE) : VE := vOp oDGet a b
theorem je_dget {o i : Expr} {va vb : VE} {pos : Pos} (hu : X.A.units + 1 < cLine) (ha : JE X W o va) (hb : JE X W i vb) (hs : NoSl i) : JE X W (.Subscript o i pos) (vDGet va vb) := by
  obtain ⟨ta, p1, s1⟩ := ha; obtain ⟨tb, p2, s2⟩ := hb
  refine ⟨_, pe_dget hu p1 p2 hs, fun σ F H s m k x l en hv hx Q q => s1 σ F H s m _ x l en hv hx _ fun u d F1 H1 m1 t1 r1 k1 => s2 σ F1 H1 s m1 _ x t1.le (en.stm t1) k1 (hx.after t1) _ fun w e F2 H2 m2 t2 r2 k2 => ?_⟩
  obtain ⟨kvs, h1, k2⟩ := onO_of k2
  obtain ⟨c, h2, k2⟩ := onO_of k2
  obtain ⟨z, h3, k2⟩ := onO_of k2
  obtain ⟨a, xs, rfl, rd, rk⟩ := (r1.mono t2.gr).asKD t2.le t2.mr h1
  obtain ⟨v, h4, h5⟩ := rk.val h3
  exact ⟨a, v, rfl, .inl ⟨xs, c, rd, keyD_ok h2 r2, h4.symm⟩, q _ _ F2 H2 m2 (t1.trans t2) h5 k2⟩
/-! dict(d), dict(list of pairs): a new dict, frozen -/
theorem RpK.any {κ : Type} [DecidableEq κ] {c : κ} {xs : List (κ × V)} {ds : List (κ × D)} (r : RpK K mg F xs ds) : (xs.any fun kv => decide (kv.1 = c)) = (ds.any fun kv => decide (kv.1 = c)) := by
  have h := r.keys
  have e1 : (xs.any fun kv => decide (kv.1 = c)) = ((xs.map (·.1)).any fun z => decide (z = c)) := by rw [List.any_map]; rfl
  have e2 : (ds.any fun kv => decide (kv.1 = c)) = ((ds.map (·.1)).any fun z => decide (z = c)) := by rw [List.any_map]; rfl
  rw [e1, e2, h]
/-- a pair put in its place, or at the end -/
def putD {κ α : Type} [DecidableEq κ] (kvs : List (κ × α)) (k : κ) (v : α) : List (κ × α) :=
  if (kvs.any fun kv => decide (kv.1 = k)) = true then kvs.map (fun kv => if kv.1 = k then (kv.1, v) else kv) else kvs ++ [(k, v)]
theorem RpK.mapPut {κ : Type} [DecidableEq κ] {c : κ} {u : V} {d : D} (ru : Rp K mg F u d) : ∀ {xs : List (κ × V)} {ds : List (κ × D)}, RpK K mg F xs ds → RpK K mg F (xs.map fun kv => if kv.1 = c then (kv.1, u) else kv) (ds.map fun kv => if kv.1 = c then (kv.1, d) else kv)
  | _, _, .nil => .nil
  | _, _, .cons (k := k') r s => by
    rw [List.map_cons, List.map_cons]
    by_cases e : k' = c
    · rw [if_pos (show (k', _).1 = c from e), if_pos (show (k', _).1 = c from e)]
      exact .cons ru (RpK.mapPut ru s)
    · rw [if_neg (show ¬ (k', _).1 = c from e), if_neg (show ¬ (k', _).1 = c from e)]
      exact .cons r (RpK.mapPut ru s)
theorem RpK.app {κ : Type} : ∀ {xs ys : List (κ × V)} {ds es : List (κ × D)}, RpK K mg F xs ds → RpK K mg F ys es → RpK K mg F (xs ++ ys) (ds ++ es)
  | _, _, _, _, .nil, h => h
  | _, _, _, _, .cons r s, h => .cons r (RpK.app s h)
theorem RpK.put {κ : Type} [DecidableEq κ] {c : κ} {u : V} {d : D} {xs : List (κ × V)} {ds : List (κ × D)} (r : RpK K mg F xs ds) (ru : Rp K mg F u d) : RpK K mg F (putK xs c u) (putD ds c d) := by
  unfold putK putD
  rw [r.any]
  split
  · exact RpK.mapPut ru r
  · exact r.app (.cons ru .nil)
def mergeD (kvs more : List (Key × D)) : List (Key × D) := more.foldl (fun acc kv => putD acc kv.1 kv.2) kvs
theorem RpK.merge : ∀ {ys : List (Key × V)} {es : List (Key × D)} {xs : List (Key × V)} {ds : List (Key × D)}, RpK K mg F ys es → RpK K mg F xs ds → RpK K mg F (mergeK xs ys) (mergeD ds es)
  | _, _, _, _, .nil, h => h
  | _, _, _, _, .cons (k := c) r s, h => by
    have := RpK.merge s (h.put (c := c) r)
    exact this
/-- the pairs of a list of pairs -/
def pairD : D → Option (Key × D)
  | .tup [a, b] => (keyD a).map fun c => (c, b)
  | _ => none
def pairsD : List D → Option (List (Key × D))
  | [] => some []
  | d :: ds => match pairD d, pairsD ds with
    | some p, some ps => some (p :: ps)
    | _, _ => none
theorem pairD_ok {d : D} {c : Key × D} {u : V} (h : pairD d = some c) (l : Le F H) (r : Rp K mg F u d) : ∃ p v, u = .ref p ∧ SqT K H p [kV c.1, v] ∧ Rp K mg F v c.2 := by
  unfold pairD at h
  split at h
  · rename_i a b
    simp only [Option.map_eq_some_iff] at h
    obtain ⟨k, h1, rfl⟩ := h
    obtain ⟨p, vs, rfl, sq, rl⟩ := r.tupI
    obtain ⟨x, y, rfl, rx, ry⟩ := rl.two
    rw [keyD_ok h1 rx] at sq
    exact ⟨p, y, rfl, l.sqt sq, ry⟩
  · cases h
theorem pairsD_ok (l : Le F H) : ∀ {ds : List D} {cs : List (Key × D)} {us : List V}, pairsD ds = some cs → RpL K mg F us ds → ∃ (ps : List Addr) (kvs : List (Key × V)), us = ps.map V.ref ∧ Paired (fun p kv => SqT K H p [kV kv.1, kv.2]) ps kvs ∧ RpK K mg F kvs cs
  | [], cs, us, h, r => by simp only [pairsD] at h; cases h; cases r; exact ⟨[], [], rfl, .nil, .nil⟩
  | d :: ds, cs, us, h, r => by
    simp only [pairsD] at h
    split at h
    · rename_i p ps h1 h2
      cases h
      cases r with
      | cons ra rb =>
        obtain ⟨a, v, rfl, sq, rv⟩ := pairD_ok h1 l ra
        obtain ⟨as, kvs, rfl, pr, rk⟩ := pairsD_ok l h2 rb
        obtain ⟨c, b⟩ := p
        exact ⟨a :: as, (c, v) :: kvs, rfl, .cons sq pr, .cons rv rk⟩
    · cases h
/-- what a call lays may be locked for good -/
theorem cr_lk {f : Value} {r : List V → Hp → VK → Prop} (h : CallR X f r) : CallR X f (fun xs H Q => r xs H fun v H1 => Q v H1 ∨ ∃ d u, v = .ref d ∧ H1 d = some u ∧ Mut (some u) ∧ ∀ od, Q v (upd H1 d (.frz od u))) := fun pins s σ H xs us Q I hv hw => by
  refine thn (h pins s σ H xs us _ I hv hw) fun v s1 ⟨x, H1, I1, r1, q1⟩ => ?_
  rcases q1 with q1 | ⟨d, u, rfl, hd, mu, q1⟩
  · exact ⟨x, H1, I1, r1, q1⟩
  · obtain ⟨od, I2⟩ := I1.lock hd mu
    exact ⟨_, _, I2, r1, q1 od⟩
theorem upd_upd {H : Hp} {p : Addr} {a b : HO} : upd (upd H p a) p b = upd H p b := by funext c; unfold upd; split <;> rfl
/-- a new dict, locked and frozen -/
theorem dic_new {m : Mem} {F H : Hp} {p : Addr} {xs : List (Key × V)} {ds : List (Key × D)} (l : Le F H) (hn : H p = none) (rk : RpK K mg F xs ds) {k : D → Mem → Prop} {Q : VK} (mr : MemR K mg F H m) (q : ∀ v d F' H' m', StM K mg m F H F' H' m' → Rp K mg F' v d → k d m' → Q v H') (h : k (.dic ds) m) :
    Q (.ref p) (upd H p (.dK xs)) ∨ ∃ d u, (V.ref p) = .ref d ∧ (upd H p (.dK xs)) d = some u ∧ Mut (some u) ∧ ∀ od, Q (.ref p) (upd (upd H p (.dK xs)) d (.frz od u)) := by
  refine .inr ⟨p, .dK xs, rfl, upd_same, trivial, fun od => ?_⟩
  rw [upd_upd]
  have st := Step.new (F := F) (o := .frz od (.dK xs)) l hn
  exact q _ _ _ _ m (st.stm mr) (.dic upd_same (rk.mono st.gr)) h
def oDict : OA := fun ds m k => match ds with
  | [d] => (∃ kvs, asK m d = some kvs ∧ k (.dic kvs) m) ∨ ∃ es cs, asL m d = some es ∧ pairsD es = some cs ∧ k (.dic (mergeD [] cs)) m
  | _ => False
theorem jo_dict (hc : X.calm = true) : JOA X (.type "dict") oDict := ⟨_, cr_lk (cr_or call_dictD (call_dictP hc)), fun F H m xs us k l mr r h Q q => by
  unfold oDict at h
  split at h
  · obtain ⟨u, rfl, a⟩ := r.one
    rcases h with ⟨kvs, h1, h⟩ | ⟨es, cs, h1, h2, h⟩
    · obtain ⟨p, xs, rfl, rd, rk⟩ := a.asKD l mr h1
      exact .inl ⟨p, xs, rfl, rd, fun n hn => dic_new l hn rk mr q h⟩
    · obtain ⟨p, vs, rfl, sp, rp⟩ := a.asL l mr h1
      obtain ⟨ps, kvs, rfl, pr, rk⟩ := pairsD_ok l h2 rp
      exact .inr ⟨p, ps, kvs, rfl, sp, pr, fun n hn => dic_new l hn (RpK.merge rk .nil) mr q h⟩
  · exact h.elim⟩
end
end Ts
namespace Ts
open PySem PySem.Spec PyProof.Rows L2
/-! ### the head: facts, defs, tables of the module -/
abbrev Tb : Type := PySem.W.Frag → Bool
abbrev AlB : Type := He.AlD × Bool
def obsB (fa : List He.Fa) (fn : List He.DefD) (tb : List Tb) (K : PySem.W.Frag) : AlB := (He.obsD fa fn K, tb.all fun t => t K)
def SaysB (fa : List He.Fa) (fn : List He.DefD) (tb : List Tb) (K : PySem.W.Frag) : Prop := obsB fa fn tb K = (He.valD fn, true)
section
variable {fa : List He.Fa} {fn : List He.DefD} {tb : List Tb} {K : PySem.W.Frag}
theorem SaysB.d (c : SaysB fa fn tb K) : He.SaysD fa fn K := congrArg (fun z : AlB => z.1) c
theorem SaysB.tab (c : SaysB fa fn tb K) (i : Nat) {t : Tb} (h : tb[i]? = some t) : t K = true :=
  List.all_eq_true.mp (show (tb.all fun t => t K) = true from congrArg (fun z : AlB => z.2) c) t (List.mem_of_getElem? h)
end
/-- .. without a dict -/
def noD (K : PySem.W.Frag) (a : Addr) : Bool := match K.lookup a with
  | some o => o.dict.isNone
  | none => false
theorem tupB_okN {K : PySem.W.Frag} {x : Str} {vs : List He.Dv} (h : He.tupB K x vs = true) (hd : noD K (He.ga K x) = true) (H : Hp) : SqN K H (He.ga K x) (vs.map (He.Dv.v K)) := by
  unfold noD at hd
  rcases He.tupB_ok h (fun _ => none) with (h1 | ⟨_, h1⟩) | ⟨o, its, n, h1, h2, h3, h4, h5⟩
  · cases h1
  · cases h1
  · rw [h1] at hd
    exact .inr ⟨_, its, n, h1, h2, Option.isNone_iff_eq_none.mp hd, h3, h4, h5⟩
/-- a tuple of ints of the module -/
def tupT (x : Str) (is : List Int) : Tb := fun K => (He.Fa.glo x).ok K && (He.tupB K x (is.map He.Dv.int) && noD K (He.ga K x))
theorem tupT_ok {x : Str} {is : List Int} {K : PySem.W.Frag} {h : Heap} {mg : Str → Option Value} (X : K.In h) (G : h.Ns mainGlobals mg) (c : tupT x is K = true) : ∃ a, mg x = some (.ref a) ∧ ∀ H : Hp, SqN K H a (is.map V.int) := by
  obtain ⟨h1, h2⟩ := Bool.and_eq_true_iff.mp c
  obtain ⟨h2, h3⟩ := Bool.and_eq_true_iff.mp h2
  refine ⟨_, He.glo_ok X G h1, fun H => ?_⟩
  have e : (is.map He.Dv.int).map (He.Dv.v K) = is.map V.int := by rw [List.map_map]; rfl
  rw [← e]
  exact tupB_okN h2 h3 H
theorem RpL.intsG {K : PySem.W.Frag} {mg : Str → Option Value} (is : List Int) : ∀ F, RpL K mg F (is.map V.int) (is.map D.int) := fun F => RpL.ints is
/-! ### is True, is False -/
section
variable {X : Cx}
def oIsB : O2
  | .bl a, .bl b, m, k => k (.bl (decide (a = b))) m
  | _, _, _, _ => False
def oIsNotB : O2
  | .bl a, .bl b, m, k => k (.bl (!decide (a = b))) m
  | _, _, _, _ => False
end
end Ts
namespace Ts
open PySem PySem.Spec PyProof.Rows L2
theorem hu1 {A : Around} (h : A.units + 64 < cLine) : A.units + 1 < cLine := by omega
/-! ### two dicts compared, value by value -/
section
variable {X : Cx}
def SameD (K : PySem.W.Frag) (H : Hp) (v w : V) (b : Bool) : Prop := ∃ d e, Dp K H v d ∧ Dp K H w e ∧ PySem.W.alike d e = true ∧ d.depth ≤ 20 ∧ PyData.eqv d e = b
inductive HitV (K : PySem.W.Frag) (H : Hp) (ls : List (Key × V)) : List (Key × V) → Bool → Prop
  | nil : HitV K H ls [] true
  | miss {c : Key} {v : V} {ps : List (Key × V)} : valV ls c = none → HitV K H ls ((c, v) :: ps) false
  | hit {c : Key} {v w : V} {ps : List (Key × V)} {e b : Bool} : valV ls c = some w → SameD K H v w e → HitV K H ls ps b → HitV K H ls ((c, v) :: ps) (e && b)
theorem hits_data {A : Around} {pins : List (Addr × Obj)} {σ : L2.St} {s : Shared} {H : Hp} (I : Inv X pins σ H s) (hu : A.units + 20 < cLine) {kvs : List (Key × V)} {vb : List (Key × Value)} (rb : KV kvs vb) {ks : List (Key × V)} {va : List (Key × Value)} (ra : KV ks va) :
    ∀ {b : Bool}, HitV X.K H kvs ks b → PySem.W.KeqHits A s vb va b := by
  unfold KV at ra
  induction ra with
  | nil => intro b h; cases h; exact .nil
  | @cons p q ps qs h t ih =>
    intro b hp
    obtain ⟨h1, h2⟩ := h
    obtain ⟨k, v⟩ := q
    obtain ⟨c, z⟩ := p
    have h1' : c = k := h1
    subst h1'
    cases hp with
    | miss hn =>
      refine .miss ?_
      have rr : RelO (valV kvs c) (valueAt vb c) := rb.val c
      rw [hn] at rr
      cases e : valueAt vb c with
      | none => rfl
      | some y => rw [e] at rr; exact rr.elim
    | @hit _ _ wz _ _ _ e hd hr =>
      obtain ⟨d, d', dp, dw, al, dd, ev⟩ := hd
      have rr : RelO (some wz) (valueAt vb c) := by rw [← e]; exact rb.val c
      obtain ⟨y, hy, ry⟩ := rr.some_of
      obtain ⟨as, r1⟩ := Dp.reads I d _ v dp h2
      obtain ⟨bs, r2⟩ := Dp.reads I d' _ y dw ry
      have q := PySem.W.eqAt_alike d d' A s v y as bs r1 r2 al (by omega)
      rw [ev] at q
      exact .hit hy q (ih hr)
def rEqDD (K : PySem.W.Frag) (n : Bool) : R2 := fun x y H Q => ∃ a b ks ls c, x = .ref a ∧ y = .ref b ∧ Rd H a (.dK ks) ∧ Rd H b (.dK ls) ∧ (ks.length = ls.length → HitV K H ls ks c) ∧ Q (.bl (n ^^ (ks.length == ls.length && c))) H
theorem op_eqDD (hu : X.A.units + 64 < cLine) : OpR X (compareOp .Eq) (rEqDD X.K false) := by
  intro pins s σ H x y v u Q I rx ry h
  obtain ⟨a, b, ks, ls, c, rfl, rfl, ea, eb, hp, q⟩ := h
  obtain rfl : v = Value.ref a := rx
  obtain rfl : u = Value.ref b := ry
  obtain ⟨_, ya, va, ra, da⟩ := (show ObjOk X.prog X.w H s.heap a (.dK ks) from ea.ok I.hok)
  obtain ⟨_, yb, vb, rb, db⟩ := (show ObjOk X.prog X.w H s.heap b (.dK ls) from eb.ok I.hok)
  exact PySem.W.keq_eq (knd := mixKind X.prog X.w) (r := c) ya yb da db (by omega) (fun hl => hits_data I (by show X.A.units + 1 + 20 < cLine; omega) rb ra (hp (by rw [ra.length, rb.length]; exact hl))) (fin_bl I q (by rw [ra.length, rb.length]; simp))
/-- the same over data -/
inductive HitD (ls : List (Key × D)) : List (Key × D) → Bool → Prop
  | nil : HitD ls [] true
  | miss {c : Key} {v : D} {ps : List (Key × D)} : valD ls c = none → HitD ls ((c, v) :: ps) false
  | hit {c : Key} {v w : D} {ps : List (Key × D)} {p q : PyData} {b : Bool} : valD ls c = some w → toPy v = some p → toPy w = some q → PySem.W.alike p q = true → p.depth ≤ 20 → HitD ls ps b → HitD ls ((c, v) :: ps) (PyData.eqv p q && b)
theorem HitD.v {K : PySem.W.Frag} {mg : Str → Option Value} {F H : Hp} (l : Le F H) {ls : List (Key × D)} {vs : List (Key × V)} (rl : RpK K mg F vs ls) : ∀ {ks : List (Key × D)} {b : Bool}, HitD ls ks b → ∀ {us : List (Key × V)}, RpK K mg F us ks → HitV K H vs us b := by
  intro ks b h
  induction h with
  | nil => intro us r; cases r; exact .nil
  | miss hn => intro us r; cases r with
    | cons ru rs => exact .miss (rl.valN hn)
  | hit e h1 h2 al dd _ ih => intro us r; cases r with
    | cons ru rs =>
      obtain ⟨w, e2, rw2⟩ := rl.val e
      exact .hit e2 ⟨_, _, ru.dp l h1, rw2.dp l h2, al, dd, rfl⟩ (ih rs)
def eqDK (n : Bool) : O2 := fun x y m k => onO (asK m x) fun ks => onO (asK m y) fun ls => ∃ c, (ks.length = ls.length → HitD ls ks c) ∧ k (.bl (n ^^ (ks.length == ls.length && c))) m
def oNeK : O2 := eqDK true
def oEqK : O2 := eqDK false
theorem eqDK_snd {n : Bool} {K : PySem.W.Frag} {mg : Str → Option Value} : SndO2 K mg (rEqDD K n) (eqDK n) := fun F H m x y u v k l mr a b h Q q => by
  obtain ⟨ks, h1, h⟩ := onO_of h
  obtain ⟨ls, h2, c, hp, h⟩ := onO_of h
  obtain ⟨p, xs, rfl, rd, rk⟩ := a.asKD l mr h1
  obtain ⟨p', ys, rfl, rd', rk'⟩ := b.asKD l mr h2
  refine ⟨p, p', xs, ys, c, rfl, rfl, rd, rd', fun hl => (hp (by rw [← rk.len, ← rk'.len]; exact hl)).v l rk' rk, ?_⟩
  rw [rk.len, rk'.len]
  exact q _ _ F H m (StM.refl l mr) (.bl _) h
theorem jo_eqK (hu : X.A.units + 64 < cLine) : JO2 X (compareOp .Eq) oEqK := ⟨_, op_eqDD hu, eqDK_snd⟩
end
end Ts
/-! ### an own exception is made: over the heap -/
namespace Ts
section
open PySem PySem.W PySem.Calls PyProof.Rows
open Builtin Builtin.ObjectAttr
variable {prog : Program} {w : World} {A : Around} {E : Value → Shared → Prop} {hp : Heap} {g : Array GenState} {d : Drawn} {t : Nat} {os : OsState} {K : Frag} {C x : Addr} {B newId initId : String} {bmB : List Value}
/-- what the written part says of an own exception class at C over the built-in B -/
structure XCls (K : Frag) (C : Addr) (B newId initId : String) (bmB : List Value) : Prop where
  q : excInitIn K C bmB newId = true
  ov : excOver K C bmB = true
  sa : findIn K (.ref C) "__setattr__" = some (some (.builtin "object.__setattr__"))
  hd : hasDictIn K C = true
  exC : subIn K (.ref C) (.type "BaseException") = some true
  exB : subIn K (.ref C) (.type B) = some true
  tyC : typeIn K (.ref C) = some (.type "type")
  kC : keepIn K (.ref C) = true
  sup : ks_superIn K C C "__init__" = some (some (.builtin initId))
  sub : mroIn K C (.ref C) = some true
  op : nsIn K cStatics "thirdparty.any" = some none
  su : nsIn K mainGlobals "super" = some none
/-- self.name = v, the first -/
theorem xset_new {tt : Addr} {name : Str} {v : Value} {Q : Unit → Shared → Prop} (SF : StoreFacts B bmB "object.__setattr__" "object") (T : XCls K C B newId initId bmB) (X : K.In hp) (hx : hp.get? x = some (excObj C tt none .none)) (ht : takerIn K C name = some none)
    (hq : ∀ h' tk' dx, (∀ b o, b ≠ x → hp.get? b = some o → h'.get? b = some o) → hp.get? dx = none → dx ≠ x → h'.get? x = some (excObj C tt (some dx) .none) → h'.Ns1 dx (fun y => if y = name then some v else none) → Q () ⟨h', g, d, tk', os⟩) :
    wpAny (model prog w) A (setAttr (.ref x) name v) Q E ⟨hp, g, d, t, os⟩ := by
  have hxs : x ≠ hp.objs.size := Nat.ne_of_lt (Heap.lt_size hx)
  refine set_plain (od := none) X ⟨hx, rfl, rfl, trivial⟩ T.sa (osa_openX (s := ⟨hp, g, d, t + 1, os⟩) (od := none) SF X ⟨hx, rfl, rfl, trivial⟩ T.ov ht fun b => ?_)
  obtain ⟨cd, hc, hd'⟩ := any_some T.hd
  refine wpAny_bind (wpAny_pure (wpAny_bind (instanceDict_exc (s := ⟨hp, g, d, t + 1, os⟩) hx (looks_clsIn X hc) hd' ?_)))
  show wpAny _ _ (storeInDict hp.objs.size (.str name t) name v) _ _ _
  refine PySem.HandSPX.store_in_new ?_ fun h' tk' hn' hs => ?_
  · exact ⟨_, #[], _, (Heap.get?_update_ne _ _ _ _ hxs.symm).trans (Heap.get?_push_at rfl rfl), rfl, fun e he => absurd he (by simp), fun _ => rfl⟩
  · have hx₁ : (hp.push (dictOf [] 0)).get? x = some (excObj C tt none .none) := Heap.get?_push_of_some _ hx
    refine hq h' tk' hp.objs.size (fun b o hb ho => ?_) ?_ hxs.symm ?_ hn'
    · exact (hs.2 b (Nat.ne_of_lt (Heap.lt_size ho))).trans ((Heap.get?_update_ne _ _ _ _ hb).trans (Heap.get?_push_of_some _ ho))
    · cases e : hp.get? hp.objs.size with
      | none => rfl
      | some o => exact absurd (Heap.lt_size e) (Nat.lt_irrefl _)
    · exact (hs.2 x hxs).trans (Heap.get?_update_self _ hx₁ rfl)
/-- a further one -/
theorem xset_old {tt dx : Addr} {name : Str} {v : Value} {m0 : Str → Option Value} {nl : List Str} {Q : Unit → Shared → Prop} (SF : StoreFacts B bmB "object.__setattr__" "object") (T : XCls K C B newId initId bmB) (X : K.In hp) (hx : hp.get? x = some (excObj C tt (some dx) .none)) (hns : hp.Ns1 dx m0) (hw : Within m0 nl) (hz : nl.length ≤ 900)
    (ht : takerIn K C name = some none)
    (hq : ∀ h' tk', (∀ b o, b ≠ dx → hp.get? b = some o → h'.get? b = some o) → h'.Ns1 dx (fun y => if y = name then some v else m0 y) → Q () ⟨h', g, d, tk', os⟩) :
    wpAny (model prog w) A (setAttr (.ref x) name v) Q E ⟨hp, g, d, t, os⟩ := by
  obtain ⟨oD, esD, epD, hoD, hdD, _⟩ := hns.count hw
  have I : InstAt hp x (excObj C tt (some dx) .none) C (some oD) := ⟨hx, rfl, rfl, hoD⟩
  refine set_plain (s := ⟨hp, g, d, t, os⟩) (od := some oD) X I T.sa (osa_openX (s := ⟨hp, g, d, t + 1, os⟩) (od := some oD) SF X I T.ov ht fun b => ?_)
  obtain ⟨cd, hc, hd'⟩ := any_some T.hd
  refine wpAny_bind (wpAny_pure (wpAny_bind (wpAny_bind (wpAny_loadPart hx (wpAny_bind ((looks_clsIn X hc).here ?_))))))
  rw [hd']
  refine wpAny_pure (a := some dx) ?_
  exact OEX.store_in_old hns hw (by omega) fun h' tk' hn' hs => hq h' tk' (fun b o hb ho => (hs.2 b hb).trans ho) hn'
/-- what the written part says of its __init__ -/
structure XIni (K : Frag) (P : Program) (C fI : Addr) (qual : Str) (params : Arguments) (body : List Stmt) (scope : Scope) (cda cc : Addr) (fd : FuncData) : Prop where
  at_ : findIn K (.ref C) "__init__" = some (some (.ref fI))
  fn : isFn K (.ref fI) = true
  fd : ∃ oc od osl dV kV doc pm an ct, K.lookup fI = some ⟨oc, od, .func fd, osl⟩ ∧ fd = ksFn "__init__" qual params body scope dV kV doc pm an (.ref cda) ct cc
  cod : codeIn K (.ref cda) qual = true
  fil : ∃ ccl cdd vs ccs file tf, K.lookup cda = some ⟨ccl, cdd, .fields vs, ccs⟩ ∧ vs[2]? = some (.str file tf) ∧ ((P.main.file : Str) == file) = true
  cel : ∃ cl cld csl, K.lookup cc = some ⟨cl, cld, .cell (some (.ref C)), csl⟩
/-- super() within it -/
theorem xnode {h₀ : Heap} {L f cda cc : Addr} {m mg : Str → Option Value} {news : List (Addr × Obj)} {ox : Obj} {odx : Option Obj} {s : Shared} {body : List Stmt} {q : Str} {scope : Scope} {p0 p1 : Pos} {attr : Str} {whole : Sem Value} {fd : FuncData} {ar : Arg} {vs : Array Value} {file : Str} {tf : Tok} {oc ccl cl : Value} {od cdd cld : Option Addr} {osl ccs csl : Array (Option Value)} {cdD : ClassData} {Q : Value → Shared → Prop}
    (F : Fr h₀ L s.heap m) (X₀ : K.In h₀) (N : News h₀ L s.heap news) (hg : h₀.Ns mainGlobals mg) (hb : ∃ mb, h₀.Ns builtinsNs mb ∧ ∀ x : Str, x ≠ "__name__" → mb x = bootBuiltins x)
    (hf : K.lookup f = some ⟨oc, od, .func fd, osl⟩) (hp : (fd.params.posonlyargs ++ fd.params.args).head? = some ar) (hv : m ar.arg = some (.ref x)) (I : InstAt s.heap x ox C odx)
    (hcode : K.lookup cda = some ⟨ccl, cdd, .fields vs, ccs⟩) (hvs : vs[2]? = some (.str file tf)) (hfile : ((prog.main.file : Str) == file) = true)
    (hcell : K.lookup cc = some ⟨cl, cld, .cell (some (.ref C)), csl⟩) (hD : clsIn K C = some cdD) (hsub : mroIn K C (.ref C) = some true) (hsuper : nsIn K mainGlobals "super" = some none)
    (hat : (attr == ("__class__" : Str)) = false) (hks : scope.names.lookup ("super" : Str) = some .globalImplicit) (hkc : scope.names.lookup ("__class__" : Str) = some .free) (hka : scope.names.lookup ar.arg = some .local) (hk : scope.kind = .function)
    (htop : (prog.main.scope.names.lookup ("super" : Str)).isSome = false)
    (h : ∀ so h', Fr h₀ L h' m → News h₀ L h' ((so, ks_superObj C x C) :: news) → (∀ p ∈ news, p.1 < so) → Q (.ref so) { s with heap := h' }) :
    _root_.PySem.wpAt (model prog w) A (.func body (ksEnv q scope L f (.ref cda) cc)) (attributeBase (.Call (.Name "super" p0) [] [] p1) attr (ksEnv q scope L f (.ref cda) cc) whole) Q E s := by
  have X : K.In s.heap := X₀.keeps F.keep
  obtain ⟨mb, hb1, hb2⟩ := hb
  obtain ⟨hh, g, d, t, os⟩ := s
  obtain ⟨oD, hD1, hD2⟩ : ∃ oD, hh.get? C = some oD ∧ oD.data = .cls cdD := by
    unfold clsIn at hD
    split at hD
    · rename_i c d cd' sl ho
      cases hD
      exact ⟨_, X _ _ ho, rfl⟩
    · cases hD
  refine ks_wpAt_super_base (env := ksEnv q scope L f (.ref cda) cc) hks hkc hat rfl (X _ _ hf) rfl hp rfl (X _ _ hcode) rfl hvs hfile htop ?_
  refine ks_loadName_global hk hks (loadGlobal_builtin (env := ksEnv q scope L f (.ref cda) cc) (hg.keeps F.keep) (mg_none_of X₀ hg hsuper) (hb1.keeps F.keep) ((hb2 _ (by decide +kernel)).trans PyProof.Rows.Boot.«super») ⟨rfl, ?_⟩)
  refine wpAny_loadName_free hk hkc rfl ⟨_, X _ _ hcell, rfl⟩ ?_
  refine wpAny_loadName_local hk hka F.ns hv ?_
  refine ks_wpAny_isType_cls hD1 hD2 ⟨rfl, ?_⟩
  refine ks_wpAny_call_super hD1 hD2 I.at_ I.cls (fun c e => ?_) (looks_mroIn X hsub) (fun h' e k => ?_)
  · have := I.no
    unfold notCls at this
    rw [e] at this
    exact Bool.noConfusion this
  · obtain ⟨F', N', l'⟩ := ks_newsPush (s := ⟨hh, g, d, t, os⟩) F N rfl e k
    exact h _ _ F' N' l'
/-- the body's first row: super().__init__(msg) -/
abbrev xrow (msg : Str) (j : Nat) (p0 p1 p2 p3 p4 p5 : Pos) : Stmt := .Expr (.Call (.Attribute (.Call (.Name "super" p0) [] [] p1) "__init__" p2) [.Constant (.str msg) j p3] [] p4) p5
/-- what the scope says of the names -/
structure XSc (scope : Scope) (sf : Str) : Prop where
  su : scope.names.lookup ("super" : Str) = some .globalImplicit
  cl : scope.names.lookup ("__class__" : Str) = some .free
  sf : scope.names.lookup sf = some .local
  k : scope.kind = .function
  ce : ∀ x ∈ scope.names, x.2 ≠ .cell
  co : scope.isCoroutine = false
  ge : scope.isGenerator = false
/-- what stands ahead of the call -/
structure XHp (K : Frag) (mg : Str → Option Value) (hp : Heap) : Prop where
  K : K.In hp
  g : hp.Ns mainGlobals mg
  b : ∃ mb, hp.Ns builtinsNs mb ∧ ∀ x : Str, x ≠ "__name__" → mb x = bootBuiltins x
  lim : hp.NoLimit
/-- __init__ is run: its first row, then the rest over a frame in which the exception is new -/
theorem xinit {mg : Str → Option Value} {h1 : Heap} {e t0 fI cda cc : Addr} {qual sf : Str} {params : Arguments} {rest : List Stmt} {scope : Scope} {fd : FuncData} {msg : Str} {j : Nat} {p0 p1 p2 p3 p4 p5 : Pos} {R : Result → Shared → Prop} {binds : List (Str × Value)} {args : Args} {ar : Arg} {pl : Sem Bool}
    (hev : ∀ env : Env, PySem.eval (.Call (.Attribute (.Call (.Name "super" p0) [] [] p1) "__init__" p2) [.Constant (.str msg) j p3] [] p4) env = (do
      let ov ← attributeBase (.Call (.Name "super" p0) [] [] p1) "__init__" env (PySem.eval (.Call (.Name "super" p0) [] [] p1) env)
      standAt p2.atName
      let (f, first) ← holding [ov] (getMethod ov "__init__" pl)
      callWith p4 f first (backTo p4 (starEach [.Constant (.str msg) j p3] env)) []))
    (FB : ExcBaseFacts B newId initId bmB) (KF : KxsFacts B initId) (T : XCls K C B newId initId bmB) (J : XIni K prog C fI qual params (xrow msg j p0 p1 p2 p3 p4 p5 :: rest) scope cda cc fd) (S : XSc scope sf) (Y : XHp K mg hp)
    (hpar : (params.posonlyargs ++ params.args).head? = some ar) (har : ar.arg = sf) (htop : (prog.main.scope.names.lookup ("super" : Str)).isSome = false)
    (k1 : ∀ b o, hp.get? b = some o → h1.get? b = some o) (sz : hp.objs.size ≤ h1.objs.size) (he : h1.get? e = some (excObj C t0 none .none)) (hn : hp.get? e = none) (hd : A.depth < recursionLimit)
    (hb : BindsTo ⟨h1, g, d, t, os⟩ fd args binds) (hloc : ∀ y ∈ binds, scope.names.lookup y.1 = some .local) (hself : binds.reverse.lookup sf = some (.ref e))
    (hR : ∀ (L : Addr) (h' : Heap) (tk' : Nat) (t1 : Addr), Fr hp L h' (fun y => binds.reverse.lookup y) → h'.get? e = some (excObj C t1 none .none) → e ≠ L →
      wpAny (model prog w) (A.deeper (ksEnv qual scope L fI (.ref cda) cc)) (execs rest (ksEnv qual scope L fI (.ref cda) cc)) (fun f s' => R (.ok (.ret (match f with | .ret v => v | _ => .none))) s')
        (fun e s' => wpAny (model prog w) (A.deeper (ksEnv qual scope L fI (.ref cda) cc)) (leaving (ksEnv qual scope L fI (.ref cda) cc) e) (fun _ s'' => R (.error e) s'') (fun e' s'' => R (.error e') s'') s') ⟨h', g, d, tk', os⟩) :
    codeAny (model prog w) A (.call (.ref fI) args) R ⟨h1, g, d, t, os⟩ := by
  obtain ⟨oc, od, osl, dV, kV, doc, pm, an, ct, lk, rfl⟩ := J.fd
  obtain ⟨ccl, cdd, vs, ccs, file, tf, hcode, hvs, hfile⟩ := J.fil
  obtain ⟨cl, cld, csl, hcell⟩ := J.cel
  have KX : K.In h1 := Y.K.keeps k1
  obtain ⟨cdC, hcl, _⟩ := any_some T.hd
  refine ks_codeAny_call_defAt (fd := ksFn "__init__" qual params (xrow msg j p0 p1 p2 p3 p4 p5 :: rest) scope dV kV doc pm an (.ref cda) ct cc) (body := xrow msg j p0 p1 p2 p3 p4 p5 :: rest) (binds := binds) hd (KX _ _ lk) rfl (Y.lim.keeps k1) (codeRec_of KX J.cod) rfl hb S.ce hloc (fun h₂ hns hk₂ => ?_) S.co S.ge S.k
  have F : Fr hp h1.objs.size h₂ (fun y => binds.reverse.lookup y) := ⟨hns, fun b o z => hk₂ b o (k1 b o z), sz⟩
  have ne : e ≠ h1.objs.size := Nat.ne_of_lt (Heap.lt_size he)
  have N : News hp h1.objs.size h₂ [(e, excObj C t0 none .none)] := fun p hp => by
    rw [List.mem_singleton.mp hp]
    exact ⟨hk₂ _ _ he, ne, hn⟩
  have hi : interactive (callEnv (ksFn "__init__" qual params (xrow msg j p0 p1 p2 p3 p4 p5 :: rest) scope dV kV doc pm an (.ref cda) ct cc) h1.objs.size fI) = false := by
    show (scope.kind == .module && _) = false
    rw [S.k]; rfl
  refine ks_wpAt_execs_cons (ks_wpAt_Expr_any (hi := hi) (ks_wpAt_MethodCall (he := hev _) (xnode (odx := none) F Y.K N Y.g Y.b lk hpar (by rw [har]; exact hself) (InstAt.of_exc0 (t := t0) (c2 := .none) N (by simp)) hcode hvs hfile hcell hcl T.sub T.su (by decide) S.su S.cl (by rw [har]; exact S.sf) S.k htop fun so h3 F3 N3 lt3 => ?_)))
  refine kxs_method (x := e) (C := C) (D := C) (so := so) (odx := none) KF F3 Y.K N3 (by simp) (InstAt.of_exc0 (t := t0) (c2 := .none) N3 (by simp)) T.op T.sup T.exB (by decide) fun u h4 F4 N4 lt4 => ?_
  refine kxs_callWith1 (u := u) (i := initId) (x := e) N4 (by simp) ?_
  refine Calls.spliced_cons (x := PySem.eval (.Constant (.str msg) j p3) _) (Calls.Constant_str (Calls.spliced_nil ⟨kxs_at N4 (by simp), ?_⟩))
  have e1 : so ≠ e := by have := lt3 (e, excObj C t0 none .none) (by simp); exact Nat.ne_of_gt this
  have e2 : u ≠ e := by have := lt4 (e, excObj C t0 none .none) (by simp); exact Nat.ne_of_gt this
  refine kxs_call F4 Y.K N4 FB T.q (by simp) (UpdF.tail e2 (UpdF.tail e1 (UpdF.head (by simp)))) (by rw [sizeLine_eq]; simp) fun t1 h5 F5 N5 lt5 => ?_
  exact wpAt_of_wpAny (hR _ h5 _ t1 F5 (N5 (e, excObj C t1 none .none) (by simp)).1 ne)
end
end Ts
/-! ### an own exception is made: the call -/
namespace Ts
section
open PySem PySem.W PySem.Calls PyProof.Rows
variable {prog : Program} {w : World} {A : Around} {E : Value → Shared → Prop} {hp : Heap} {g : Array GenState} {d : Drawn} {t : Nat} {os : OsState} {K : Frag} {C : Addr} {B newId initId : String} {bmB : List Value}
/-- self.f = e -/
abbrev srow (sf f : Str) (v : Expr) (q1 q2 q4 : Pos) : Stmt := .Assign [.Attribute (.Name sf q1) f q2] v q4
/-- C(u ..) over its __init__ -/
theorem xmade {mg : Str → Option Value} {fI cda cc : Addr} {qual sf : Str} {params : Arguments} {rest : List Stmt} {scope : Scope} {fd : FuncData} {msg : Str} {j : Nat} {p0 p1 p2 p3 p4 p5 : Pos} {Q : Value → Shared → Prop} {ps : List Str} {us : List Value} {ar : Arg} {pl : Sem Bool}
    (hev : ∀ env : Env, PySem.eval (.Call (.Attribute (.Call (.Name "super" p0) [] [] p1) "__init__" p2) [.Constant (.str msg) j p3] [] p4) env = (do
      let ov ← attributeBase (.Call (.Name "super" p0) [] [] p1) "__init__" env (PySem.eval (.Call (.Name "super" p0) [] [] p1) env)
      standAt p2.atName
      let (f, first) ← holding [ov] (getMethod ov "__init__" pl)
      callWith p4 f first (backTo p4 (starEach [.Constant (.str msg) j p3] env)) []))
    (FB : ExcBaseFacts B newId initId bmB) (KF : KxsFacts B initId) (T : XCls K C B newId initId bmB) (J : XIni K prog C fI qual params (xrow msg j p0 p1 p2 p3 p4 p5 :: rest) scope cda cc fd) (S : XSc scope sf) (Y : XHp K mg hp)
    (hpar : (params.posonlyargs ++ params.args).head? = some ar) (har : ar.arg = sf) (htop : (prog.main.scope.names.lookup ("super" : Str)).isSome = false) (hd : A.depth + 5 < recursionLimit) (hu : us.length ≤ 1000)
    (hb : ∀ (s : Shared) (e : Value), BindsTo s fd ⟨e :: us, []⟩ ((sf :: ps).zip (e :: us))) (hps : ∀ y ∈ sf :: ps, scope.names.lookup y = some .local) (hsf : sf ∉ ps)
    (hR : ∀ (A' : Around) (E' : Value → Shared → Prop) (L e : Addr) (h' : Heap) (tk' : Nat) (t1 : Addr), Fr hp L h' (fun y => ((sf :: ps).zip (.ref e :: us)).reverse.lookup y) → h'.get? e = some (excObj C t1 none .none) → e ≠ L → hp.get? e = none → ((sf :: ps).zip (Value.ref e :: us)).reverse.lookup sf = some (.ref e) →
      wpAny (model prog w) A' (execs rest (ksEnv qual scope L fI (.ref cda) cc)) (fun f s' => (match f with | .ret v => v | _ => Value.none) = .none ∧ Q (.ref e) s') E' ⟨h', g, d, tk', os⟩) :
    wpAny (model prog w) A (call (.ref C) us) Q E ⟨hp, g, d, t, os⟩ := by
  obtain ⟨nm, N', qn, bs, bm, hdct, sn, sub, ab, col, dd, k0, k1, k2, k3, k5, hC, hT⟩ := excInit_of Y.K T.q
  obtain ⟨oI, hoI, hcI⟩ : ∃ oI, hp.get? fI = some oI ∧ oI.cls = .type "function" := by
    obtain ⟨o, ho, hc⟩ := Option.map_eq_some_iff.mp (show (K.lookup fI).map (·.cls) = some (.type "function") from beq_iff_eq.mp J.fn)
    exact ⟨o, Y.K _ _ ho, hc⟩
  have hi' : Looks (model prog w) hp (typeLookup (.ref C) "__init__") (some (.ref fI)) := looks_findIn Y.K J.at_
  have hget : ((hp.push (kdv_tup us)).push (PySem.HandSPX.excO C hp.objs.size)).get? (hp.objs.size + 1) = some (excObj C hp.objs.size none .none) := by heap_get
  have hne : hp.get? (hp.objs.size + 1) = none := by
    cases e : hp.get? (hp.objs.size + 1) with
    | none => rfl
    | some o => exact absurd (Heap.lt_size e) (Nat.not_lt_of_le (Nat.le_succ _))
  have hself : ((sf :: ps).zip (Value.ref (hp.objs.size + 1) :: us)).reverse.lookup sf = some (.ref (hp.objs.size + 1)) := by
    rw [List.zip_cons_cons, List.reverse_cons, List.lookup_append]
    have nl : ((ps.zip us).reverse).lookup sf = none := by
      cases e : ((ps.zip us).reverse).lookup sf with
      | none => rfl
      | some v =>
        exfalso
        have go : ∀ l : List (Str × Value), l.lookup sf = some v → sf ∈ l.map (·.1) := by
          intro l
          induction l with
          | nil => intro h; cases h
          | cons p l ih =>
            obtain ⟨a, b⟩ := p
            intro h
            rw [List.lookup_cons] at h
            cases q : (sf == a) with
            | true => rw [beq_iff_eq.mp q]; exact List.mem_cons_self
            | false => rw [q] at h; exact List.mem_cons_of_mem _ (ih h)
        have h1 := go _ e
        rw [List.map_reverse, List.mem_reverse] at h1
        obtain ⟨p, hp1, hp2⟩ := List.mem_map.mp h1
        exact hsf (hp2 ▸ (List.of_mem_zip (a := p.1) (b := p.2) hp1).1)
    rw [nl]
    simp
  refine wpAny_call (PySem.HandSPX.call_own FB hT hC hi' (fun self => exc_bind hoI hcI self) (by rw [sizeLine_eq]; omega)
    (xinit (e := hp.objs.size + 1) (t0 := hp.objs.size) (binds := (sf :: ps).zip (.ref (hp.objs.size + 1) :: us)) hev FB KF T J S Y hpar har htop (fun b o z => Heap.get?_push_of_some _ (Heap.get?_push_of_some _ z)) (by rw [Heap.size_push, Heap.size_push]; omega) hget hne ?_ (hb _ _) (fun y hy => hps _ (List.of_mem_zip (a := y.1) (b := y.2) hy).1) hself fun L h' tk' t1 F he ne => ?_))
  · rw [L2.make_depth]; omega
  · exact hR _ _ L _ h' tk' t1 F he ne hne hself
theorem fr_but {L e : Addr} {h h2 : Heap} {m : Str → Option Value} (F : Fr hp L h m) (hn : hp.get? e = none) (ne : e ≠ L) (k : ∀ b o, b ≠ e → h.get? b = some o → h2.get? b = some o) : Fr hp L h2 m := by
  obtain ⟨oL, es, ep, hL, r⟩ := F.ns
  exact ⟨⟨oL, es, ep, k _ _ (Ne.symm ne) hL, r⟩, fun b o z => k b o (fun y => by rw [y, hn] at z; cases z) (F.keep b o z), F.above⟩
theorem none_of {h h2 : Heap} {b : Addr} (k : ∀ b o, h.get? b = some o → h2.get? b = some o) (n : h2.get? b = none) : h.get? b = none := by
  cases e : h.get? b with
  | none => rfl
  | some o => rw [k b o e] at n; cases n
/-- C(u): __init__(self, a) says super().__init__(msg), self.f = a, self.tg = tv -/
theorem xmade1 {f a : Str} {u : Value} {q1 q2 q3 q4 : Pos} {mg : Str → Option Value} {fI cda cc : Addr} {qual sf tg tv : Str} {params : Arguments} {scope : Scope} {fd : FuncData} {msg : Str} {j j2 : Nat} {p0 p1 p2 p3 p4 p5 r1 r2 r3 r4 : Pos} {Q : Value → Shared → Prop} {ar : Arg} {pl : Sem Bool}
    (hev : ∀ env : Env, PySem.eval (.Call (.Attribute (.Call (.Name "super" p0) [] [] p1) "__init__" p2) [.Constant (.str msg) j p3] [] p4) env = (do
      let ov ← attributeBase (.Call (.Name "super" p0) [] [] p1) "__init__" env (PySem.eval (.Call (.Name "super" p0) [] [] p1) env)
      standAt p2.atName
      let (f, first) ← holding [ov] (getMethod ov "__init__" pl)
      callWith p4 f first (backTo p4 (starEach [.Constant (.str msg) j p3] env)) []))
    (FB : ExcBaseFacts B newId initId bmB) (KF : KxsFacts B initId) (SF : StoreFacts B bmB "object.__setattr__" "object") (T : XCls K C B newId initId bmB)
    (J : XIni K prog C fI qual params [xrow msg j p0 p1 p2 p3 p4 p5, srow sf f (.Name a q3) q1 q2 q4, srow sf tg (.Constant (.str tv) j2 r3) r1 r2 r4] scope cda cc fd) (S : XSc scope sf) (Y : XHp K mg hp)
    (hpar : (params.posonlyargs ++ params.args).head? = some ar) (har : ar.arg = sf) (htop : (prog.main.scope.names.lookup ("super" : Str)).isSome = false) (hd : A.depth + 5 < recursionLimit)
    (hb : ∀ (s : Shared) (e : Value), BindsTo s fd ⟨[e, u], []⟩ [(sf, e), (a, u)]) (ha : scope.names.lookup a = some .local) (hsf : a ≠ sf) (da : (a == ("__debug__" : Str)) = false) (ds : (sf == ("__debug__" : Str)) = false)
    (s1 : ∀ env : Env, swapsWith (.Name a q3) (some (.Attribute (.Name sf q1) f q2)) q4.line env = pure false) (s2 : ∀ env : Env, swapsWith (.Constant (.str tv) j2 r3) (some (.Attribute (.Name sf r1) tg r2)) r4.line env = pure false)
    (k1 : takerIn K C f = some none) (k2 : takerIn K C tg = some none)
    (hQ : ∀ (h' : Heap) (tk' : Nat) (e t1 dx : Addr) (tok : Tok), (∀ b o, hp.get? b = some o → h'.get? b = some o) → hp.get? e = none → hp.get? dx = none → dx ≠ e → h'.get? e = some (excObj C t1 (some dx) .none) →
      h'.Ns1 dx (fun y => if y = tg then some (.str tv tok) else if y = f then some u else none) → Q (.ref e) ⟨h', g, d, tk', os⟩) :
    wpAny (model prog w) A (call (.ref C) [u]) Q E ⟨hp, g, d, t, os⟩ := by
  refine xmade (ps := [a]) hev FB KF T J S Y hpar har htop hd (by simp) hb (fun y hy => ?_) (by simpa using Ne.symm hsf) fun A' E' L e h' tk' t1 F he ne hn hself => ?_
  · simp only [List.mem_cons, List.not_mem_nil, or_false] at hy
    rcases hy with rfl | rfl
    · exact S.sf
    · exact ha
  have hva : (([sf, a].zip [Value.ref e, u]).reverse).lookup a = some u := by simp [List.lookup]
  refine wpAny_execs_cons (plainObj_wpAny_Assign_Attribute (wpAny_Name (wpAny_loadName_local (env := ksEnv qual scope L fI (.ref cda) cc) S.k ha F.ns hva (wpAny_Name (wpAny_loadName_local (env := ksEnv qual scope L fI (.ref cda) cc) S.k S.sf F.ns hself ?_) ds)) da) (s1 _))
  refine xset_new SF T (Y.K.keeps F.keep) he k1 fun h2 tk2 dx kk hdx nedx he2 hns2 => ?_
  have F2 := fr_but F hn ne kk
  refine wpAny_execs_cons (plainObj_wpAny_Assign_Attribute (Calls.Constant_str (wpAny_Name (wpAny_loadName_local (env := ksEnv qual scope L fI (.ref cda) cc) S.k S.sf F2.ns hself ?_) ds)) (s2 _))
  refine xset_old (nl := [f]) SF T (Y.K.keeps F2.keep) he2 hns2 (fun y hy => ?_) (by simp) k2 fun h3 tk3 kk3 hns3 => ?_
  · by_cases e : y = f
    · rw [e]; exact List.mem_cons_self
    · exact absurd (if_neg e) hy
  have hdx' : hp.get? dx = none := none_of F.keep hdx
  exact wpAny_execs_nil ⟨rfl, hQ h3 tk3 e t1 dx _ (fun b o z => kk3 b o (fun y => by rw [y, hdx'] at z; cases z) (F2.keep b o z)) hn hdx' nedx (kk3 e _ (Ne.symm nedx) he2) hns3⟩
end
end Ts
/-! ### raise C(..) -/
namespace Ts
open PySem PySem.Spec PyProof.Rows L2
/-- the class x makes exceptions of one value: fields tg = tv, f = the value -/
structure Mk1 (P : Program) (w : World) (K : PySem.W.Frag) (mg : Str → Option Value) (x f tg tv : Str) : Prop where
  ex : ∃ C : Addr, mg x = some (.ref C) ∧ PySem.W.keepIn K (.ref C) = true ∧ PySem.W.subIn K (.ref C) (.type "BaseException") = some true ∧ PySem.W.typeIn K (.ref C) = some (.type "type") ∧
    ∀ (A : Around) (E : Value → Shared → Prop) (hp : Heap) (g : Array GenState) (d : Drawn) (t : Nat) (os : OsState) (u : Value) (Q : Value → Shared → Prop), XHp K mg hp → A.depth + 5 < recursionLimit →
      (∀ (h' : Heap) (tk' : Nat) (e t1 dx : Addr) (tok : Tok), (∀ b o, hp.get? b = some o → h'.get? b = some o) → hp.get? e = none → hp.get? dx = none → dx ≠ e → h'.get? e = some (PySem.W.excObj C t1 (some dx) .none) →
        h'.Ns1 dx (fun y => if y = tg then some (.str tv tok) else if y = f then some u else none) → Q (.ref e) ⟨h', g, d, tk', os⟩) →
      wpAny (model P w) A (call (.ref C) [u]) Q E ⟨hp, g, d, t, os⟩
section
variable {X : Cx} {W : WX}
theorem mk_done {pins : List (Addr × Obj)} {σ : L2.St} {H1 : Hp} {Q : XK} {hp h' : Heap} {g : Array GenState} {dr dr' : Drawn} {tk tk' : Nat} {os : OsState} {C e t1 dx : Addr} {fs : List (Str × V)} {mA : Str → Option Value} (I1 : Inv X pins σ H1 ⟨hp, g, dr, tk, os⟩)
    (k : ∀ b o, hp.get? b = some o → h'.get? b = some o) (hne : hp.get? e = none) (hdx : hp.get? dx = none) (nd : dx ≠ e) (he : h'.get? e = some (PySem.W.excObj C t1 (some dx) .none)) (hns : h'.Ns1 dx mA) (rel : ∀ f, RelO (fs.lookup f) (mA f)) (T : Raises X (.ref C))
    (q : H1 dx = none → Q (.ref C) (some dx) (upd H1 dx (.xd fs))) : MkP X pins σ Q (.ref e) ⟨h', g, dr', tk', os⟩ := by
  obtain ⟨G, g1, g2⟩ := restrict h' fun b => decide (b ≠ e)
  have gk : ∀ b, b ≠ e → G.get? b = h'.get? b := fun b hb => g1 b (decide_eq_true hb)
  have ge : G.get? e = none := g2 e (by simp)
  have nha : ∀ {b : Addr} {o : Obj}, hp.get? b = some o → b ≠ e := fun {b o} z y => by rw [y, hne] at z; cases z
  have ndx : ∀ {b : Addr} {o : Obj}, hp.get? b = some o → b ≠ dx := fun {b o} z y => by rw [y, hdx] at z; cases z
  have kG : ∀ b o, hp.get? b = some o → G.get? b = some o := fun b o z => (gk b (nha z)).trans (k b o z)
  have Hd : H1 dx = none := I1.hok.gone hdx
  have He : H1 e = none := I1.hok.gone hne
  have U : Un (frs X.stack) [] H1 (upd H1 dx (.xd fs)) hp G := {
    keep := fun b o z n hf hx => kG b o z
    slot := fun b o z n hf hx => ⟨o.slots, kG b o z⟩
    free := fun b o z n hx => by rw [upd_ne (ndx z)]; exact n
    there := fun b o z hx => ⟨o, kG b o z⟩
    tups := fun b xs z => by rw [upd_ne (ne_of_none z Hd)]; exact z
    frzs := fun b o v z => by rw [upd_ne (ne_of_none z Hd)]; exact z
    tbls := fun b ps z => ⟨#[], by rw [upd_ne (ne_of_none z Hd), z]; simp⟩ }
  have hok3 : HOk X.prog X.w (upd H1 dx (.xd fs)) G := fun b o z => by
    by_cases hbd : b = dx
    · subst hbd
      rw [upd_same] at z
      cases z
      exact ⟨mA, hns.at fun o y => (gk b nd).trans y, rel⟩
    · rw [upd_ne hbd] at z
      exact (I1.hok b o z).stay (fun c v hc y => kG c v y) (fun c hc => by rw [upd_ne (ne_of_none hc Hd)]; exact hc) (fun c xs hc => by rw [upd_ne (ne_of_none hc Hd)]; exact hc)
  have J : Inv X pins σ (upd H1 dx (.xd fs)) ⟨G, g, dr', tk', os⟩ := I1.call' (ch := []) rfl U hok3 I1.bare (fun b z => absurd z (by simp))
  refine ⟨e, _, _, ⟨G, g, dr', tk', os⟩, _, .ref C, some dx, rfl, J, fun b o z => ?_, ge, he, ⟨rfl, rfl⟩, rfl, rfl, ?_, rfl, I1.bare, T, q Hd⟩
  · by_cases hb : b = e
    · rw [hb, ge] at z; cases z
    · exact (gk b hb).symm.trans z
  · rw [upd_ne (Ne.symm nd)]; exact He
theorem xhp_of {pins : List (Addr × Obj)} {σ : L2.St} {H1 : Hp} {s : Shared} (I1 : Inv X pins σ H1 s) : XHp X.K X.mg s.heap :=
  ⟨I1.kIn, I1.ok.mod.glob.keeps I1.bk, let ⟨mb, h1, h2⟩ := I1.ok.mod.blt; ⟨mb, h1.keeps I1.bk, h2⟩, I1.nolimit⟩
theorem pmk1 {x f tg tv : Str} {e : Expr} {te : TE} {p pos : Pos} {C : Addr} (M : Mk1 X.prog X.w X.K X.mg x f tg tv) (hC : X.mg x = some (.ref C)) (hr : X.A.depth + 5 < recursionLimit) (hg : Gl X x) (ha : PE X e te)
    (hdb : (x == ("__debug__" : Str)) = false := by decide) (he : starEach [e] X.env = (false, eval e X.env) :: starEach [] X.env := by rfl) :
    PMk X (.Call (.Name x p) [e] [] pos) (fun σ H Q => te σ H fun v0 H1 => ∃ v, [v0] = [v] ∧ ∀ dx, H1 dx = none → Q (.ref C) (some dx) (upd H1 dx (.xd [(tg, .str tv), (f, v)]))) := by
  intro pins s σ H Q I h
  obtain ⟨C', hm, kp, ex, ty, mk⟩ := M.ex
  have hm := hm
  rw [hC] at hm
  cases hm
  refine wpAny_Call_Name_kw (ld_glob I hg hC ?_ hdb)
  refine PySem.W.callWith_K (h₀ := X.base) I.ok.mod.kin kp (thn ((pa_cons ha pa_nil he).run pos pins s σ H (fun vs H1 => ∃ v, vs = [v] ∧ ∀ dx, H1 dx = none → Q (.ref C) (some dx) (upd H1 dx (.xd [(tg, .str tv), (f, v)]))) I h) fun us s1 ⟨vs, H1, I1, r1, v, ev, q1⟩ => ⟨I1.kIn, ?_⟩) he rfl
  subst ev
  cases r1 with
  | @cons _ u _ us' ru rn =>
    cases rn
    show wpAny _ _ (call (.ref C) [u]) _ _ _
    obtain ⟨hp, g, dr, tk, os⟩ := s1
    refine mk _ _ hp g dr tk os u _ (xhp_of I1) hr fun h' tk' e t1 dx tok k hne hdx ndx he hns => ?_
    exact mk_done I1 k hne hdx ndx he hns (fs := [(tg, .str tv), (f, v)]) (relO_put (y := .str tv) (show RelV (.str tv) (.str tv tok) from ⟨tok, rfl⟩) (relO_put ru (fs := []) fun _ => trivial)) (raises_own ex ty) (q1 dx)
/-- raise C(e) -/
@[reducible] def vRaise1 (x f tg tv : Str) (a : VE) : VS := fun s m G => a s m (fun d m1 => G.ex ⟨x, [(tg, .str tv), (f, d)]⟩ s m1) fun e m' => G.ex e s m'
/-- raise C() -/
@[reducible] def vRaise0 (x tg tv : Str) : VS := fun s m G => G.ex ⟨x, [(tg, .str tv)]⟩ s m
theorem StM.xd {K : PySem.W.Frag} {mg : Str → Option Value} {m : Mem} {F H : Hp} {dx : Addr} {fs : List (Str × V)} (l : Le F H) (mr : MemR K mg F H m) (hn : H dx = none) : StM K mg m F H (upd F dx (.xd fs)) (upd H dx (.xd fs)) m :=
  (Step.new l hn).stm mr
theorem js_raise1 {x f tg tv : Str} {e : Expr} {ve : VE} {p p' pos : Pos} {k : Nat} (hc : X.calm = true) (tk : Takes X W) (M : Mk1 X.prog X.w X.K X.mg x f tg tv) (hr : Room k X.A) (hg : Gl X x) (ha : JE X W e ve)
    (hdb : (x == ("__debug__" : Str)) = false := by decide) (he : starEach [e] X.env = (false, eval e X.env) :: starEach [] X.env := by rfl) : JS X W (.Raise (some (.Call (.Name x p) [e] [] p')) none pos) (vRaise1 x f tg tv ve) := by
  obtain ⟨te, p1, s1⟩ := ha
  obtain ⟨C, hm, _⟩ := M.ex
  refine ⟨_, ps_raise hc tk (pmk1 (pos := p') M hm (by have := hr.dp; omega) hg p1 hdb he), fun σ F H s m G l en h E L => s1 σ F H s m _ _ l en h (L.x en) _ fun v d F1 H1 m1 st r k => ⟨v, rfl, fun dx hd => ?_⟩⟩
  have st2 := StM.xd (fs := [(tg, .str tv), (f, v)]) st.le st.mr hd
  exact L.ex (.ref C) (some dx) _ σ s _ _ m1 (st.trans st2) (en.stm (st.trans st2)) ⟨C, dx, _, rfl, hm, rfl, upd_same, .cons (.str tv) (.cons (r.mono st2.gr) .nil)⟩ k
end
end Ts
/-! ### try .. except (A, B) as n: .. except C as n: .. -/
namespace Ts
open PySem PySem.Spec PyProof.Rows L2
/-- the classes that a clause names -/
inductive Ce (X : Cx) : Expr → List Value → Prop
  | one {x : Str} {c : Value} {np : Pos} : Names X x c → Ce X (.Name x np) [c]
  | two {x y : Str} {c c' : Value} {np np' tp : Pos} {j : Nat} : Names X x c → Names X y c' → Ce X (.Tuple [.Name x np, .Name y np'] j tp) [c, c']
/-- what the clauses wish of an exception of the body, one after the other: slot i holds it -/
def wAsMany (K : PySem.W.Frag) (i : Nat) (Wout : WX) (D : Ends) : List (List Value × (Addr → Value → Option Addr → TS)) → WX
  | [] => Wout
  | (cs, ts) :: r => fun cls d σ H => ∃ b, PySem.W.exmAny K cls cs = some b ∧
      (b = true → ∀ a, H a = none → ts a cls d { nx := fun σ' H' => D.nx (σ'.set i none) H', rt := D.rt, bk := fun σ' H' => D.bk (σ'.set i none) H', ct := fun σ' H' => D.ct (σ'.set i none) H' } (σ.set i (some (.ref a))) H) ∧
      (b = false → wAsMany K i Wout D r cls d σ H)
inductive AsOk (X : Cx) (n : Str) : List ExceptHandler → List (List Value × (Addr → Value → Option Addr → TS)) → Prop
  | nil : AsOk X n [] []
  | cons {ce : Expr} {cs : List Value} {ts : Addr → Value → Option Addr → TS} {b₀ : Stmt} {suite : List Stmt} {pos' : Pos} {hds : List ExceptHandler} {l : List (List Value × (Addr → Value → Option Addr → TS))} (hc : Ce X ce cs)
      (hsu : ∀ (a : Addr) (oe : Obj) (cls : Value) (d : Option Addr) (pn : List (Addr × Obj)), Zc cls d oe → (∃ vs, oe.data = .fields vs) → PSs (X.suite a ((a, oe) :: pn)) (b₀ :: suite) (ts a cls d)) (r : AsOk X n hds l) :
      AsOk X n (.ExceptHandler (some ce) (some n) (b₀ :: suite) pos' :: hds) ((cs, ts) :: l)
theorem fly_kept {B h h' : Heap} {l : List Env} {a : Addr} {Z : Obj → Prop} (x : HandSPX.FlyingZ B l a Z h) (k : ∀ b o, h.get? b = some o → h'.get? b = some o) : HandSPX.FlyingZ B l a Z h' := by
  obtain ⟨f1, f2, f3, oe, vs, T, oT, ts, h1, h2, h3, h4, h5, h6, h7, h8, h9⟩ := x
  exact ⟨fun b o e => k b o (f1 b o e), f2, Heap.FunFrames.of_keeps (fun b o e _ => ⟨o, k b o e, rfl⟩) f3, oe, vs, T, oT, ts, k _ _ h1, h2, h3, h4, h5, h6, k _ _ h7, h8, h9⟩
section
variable {X : Cx}
/-- the clause's classes are looked up, the exception is held against them -/
theorem ce_run {a : Addr} {oe : Obj} {pn pins : List (Addr × Obj)} {σ : L2.St} {H : Hp} {s : Shared} {ce : Expr} {cs : List Value} {cls : Value} {b : Bool} {E E' : Value → Shared → Prop} {Q : Bool → Shared → Prop} (c : Ce X ce cs) (S : Inv (X.suite a ((a, oe) :: pn)) pins σ H s) (hcls : oe.cls = cls) (hx : PySem.W.exmAny X.K cls cs = some b)
    (q : ∀ h', (∀ b o, s.heap.get? b = some o → h'.get? b = some o) → Q b { s with heap := h' }) :
    wpAny (model X.prog X.w) (X.A.mark (some (.ref a))) (eval ce X.env) (fun c s₁ => wpAny (model X.prog X.w) (X.A.mark (some (.ref a))) (excMatches (.ref a) c) Q E s₁) E' s := by
  have ha : s.heap.get? a = some oe := (S.pin (a, oe) (List.mem_append_left _ List.mem_cons_self)).1
  have ld : ∀ {x : Str} {c : Value} {np : Pos} {Q : Value → Shared → Prop} {E : Value → Shared → Prop}, Names X x c → Q c s → wpAny (model X.prog X.w) (X.A.mark (some (.ref a))) (eval (.Name x np) X.env) Q E s := fun {x c np Q E} hc q => by
    obtain ⟨hg, hdbg, hm | ⟨hm, hv, hnn⟩⟩ := hc
    · exact ld_glob (X := X.suite a ((a, oe) :: pn)) S hg hm q hdbg
    · exact ld_blt (X := X.suite a ((a, oe) :: pn)) S hg hm hv q hnn hdbg
  have lt : ∀ h' : Heap, (∀ b o, s.heap.get? b = some o → h'.get? b = some o) → PySem.W.Looks (model X.prog X.w) h' (typeOf (.ref a)) cls := fun h' k A Q E s k' q => wpAny_typeOf_ref (k' _ _ (k _ _ ha)) (by rw [hcls]; exact q)
  have kin : X.K.In s.heap := S.kIn
  obtain ⟨hp, g, dr, tk, os⟩ := s
  cases c with
  | one hc =>
    obtain ⟨b1, d1, x1, y1, z1⟩ := PySem.W.exmAny_cons hx
    cases y1
    rw [Bool.or_false] at z1
    subst z1
    exact ld hc ((PySem.W.exm_one kin (lt hp fun _ _ e => e) x1).here (q hp fun _ _ e => e))
  | two hc hc' =>
    refine Tuple_ (Calls.spliced_cons (ld hc (Calls.spliced_cons (ld hc' (Calls.spliced_nil ?_)))))
    refine wpAny_newObj_type ?_
    have k : ∀ (ob : Obj) b o, hp.get? b = some o → (hp.push ob).get? b = some o := fun ob b o e => Heap.get?_push_of_some _ e
    exact (PySem.W.exm_tup2 (kin.keeps (k _)) (lt _ (k _)) (Heap.get?_push_at rfl rfl) hx).here (q _ (k _))
theorem ps_tryAs {n : Str} {i : Nat} {body : List Stmt} {h₀ : ExceptHandler} {hds : List ExceptHandler} {l : List (List Value × (Addr → Value → Option Addr → TS))} {pos : Pos} {tb : WX → TS} {Wout : WX} (hs : X.stack = X.env :: X.outer) (hf : X.env.frame = some X.env.locals) (hN : X.N.Nodup) (hi : X.N[i]? = some n) (hln : X.env.kindOf n = some .local) (tk : Takes X Wout)
    (hb : ∀ (W : WX) (pn : List (Addr × Obj)) (xe : Value → Shared → Prop), Takes (X.tr pn xe) W → PassesOwn (model X.prog X.w) X.A X.env xe → PSs (X.tr pn xe) body (tb W))
    (hh : AsOk X n (h₀ :: hds) l) : PS X (.Try body (h₀ :: hds) [] [] pos) (fun D σ H => tb (wAsMany X.K i Wout D l) D σ H) := by
  refine ⟨fun pins s σ H D I h => ?_⟩
  have ok := I.ok
  have hfr : X.A.frames = some (X.env :: X.outer) := by rw [ok.frames, hs]
  have hloc : Loc X.env.scope n := .inl hln
  have back : ∀ {f : Flow} {s1 : Shared} {pn : List (Addr × Obj)} {xe : Value → Shared → Prop}, SP (X.tr (X.pn ++ pins) xe) [] D f s1 → SP X pins D f s1 := fun {f s1 pn xe} hsp => by
    cases f with
    | next => obtain ⟨σ', H', J', q⟩ := hsp; exact ⟨σ', H', J'.ofTry ok, q⟩
    | brk => obtain ⟨σ', H', J', q⟩ := hsp; exact ⟨σ', H', J'.ofTry ok, q⟩
    | cont => obtain ⟨σ', H', J', q⟩ := hsp; exact ⟨σ', H', J'.ofTry ok, q⟩
    | ret u => obtain ⟨v, σ', H', J', r, q⟩ := hsp; exact ⟨v, σ', H', J'.ofTry ok, r, q⟩
  refine wpAny_Try_except ?_
  refine wpAny_mono ((hb (wAsMany X.K i Wout D l) (X.pn ++ pins) (fun e s₁ => wpAny (model X.prog X.w) X.A (noteFrame e X.env) (fun _ s₂ => wpAny (model X.prog X.w) X.A (setFlight e none) (fun _ s₃ =>
    wpAny (model X.prog X.w) X.A (handleBy e X.env (h₀ :: hds)) (SP X pins D) X.xe s₃) X.xe s₂) X.xe s₁) (fun u s' xx => ?_) PassesOwn.looking).run [] s σ H D (I.toTry _) h) (fun f s1 hsp => ?_) (fun e s1 he => he)
  · obtain ⟨a, B, sI, pins', σ', H', cls, d, rfl, J', nb, up, sky, na, os, ag, w⟩ := xx
    have J : Inv X pins σ' H' sI := J'.ofTry ok
    have sky' : Sky B (X.env :: X.outer) a (Zc cls d) X.env.locals s'.heap := by rw [← hs]; exact sky
    show wpAny (model X.prog X.w) X.A (noteFrame (.ref a) X.env) _ _ _
    refine Sky.land Zc.steady hfr hf sky' fun h3 fl3 up3 => ?_
    have notFr : a ∉ frs (X.env :: X.outer) := fun hm => by
      obtain ⟨oe3, vs3, he3, hz3, hd3⟩ := fl3.there
      obtain ⟨_, o', e', hnf⟩ := fl3.2.2.1.mem hm
      rw [he3] at e'; cases e'
      exact hnf _ hd3
    have nL : a ≠ X.env.locals := fun z => notFr (List.mem_filterMap.mpr ⟨X.env, List.mem_cons_self, by rw [hf, z]⟩)
    have nF : a ∉ X.fs := fun hm => by
      obtain ⟨e, he, q⟩ := List.mem_filterMap.mp hm
      exact notFr (List.mem_filterMap.mpr ⟨e, List.mem_cons_of_mem _ he, q⟩)
    have go : ∀ {hds' : List ExceptHandler} {l' : List (List Value × (Addr → Value → Option Addr → TS))}, AsOk X n hds' l' → wAsMany X.K i Wout D l' cls d σ' H' → ∀ h3 : Heap, HandSPX.FlyingZ B (X.env :: X.outer) a (Zc cls d) h3 → sI.heap.UpToSlots h3 →
        wpAny (model X.prog X.w) X.A (handleBy (.ref a) X.env hds') (SP X pins D) X.xe { s' with heap := h3 } := by
      intro hds' l' hk
      induction hk with
      | nil =>
        intro w h3 fl3 up3
        refine wpAny_handleBy_nil ?_
        obtain ⟨k1, k2, k3, oe, vs, T, oT, ts', he, hz, hd, h1, hr⟩ := id fl3
        unfold PySem.passOn
        refine wpAny_bind (wpAny_field he hd h1 ?_)
        rw [if_neg (show ¬ ((Value.ref T == Value.none) = true) from by simp)]
        have fin : wpAny (model X.prog X.w) X.A (setFlight (.ref a) X.env.frame) (fun _ s4 => wpAny (model X.prog X.w) X.A (throw (.ref a) : Sem Flow) (SP X pins D) X.xe s4) X.xe { s' with heap := h3 } := by
          rw [hf]
          refine HandSPX.setFlight_upZ fl3 fun h4 hh4 up4 => wpAny_throw (tk _ _ ?_)
          exact ⟨a, B, sI, pins, σ', H', cls, d, rfl, J, nb, up3.trans up4, .inr (.inr (by rw [hs]; exact hh4)), na, os, ag, w⟩
        first
          | exact wpAny_bind (wpAny_pure (wpAny_bind fin))
          | exact wpAny_bind fin
      | @cons ce cs ts b₀ suite pos' hds2 l2 hc hsu r ih =>
        intro w h3 fl3 up3
        obtain ⟨b, hb1, hyes, hno⟩ := w
        obtain ⟨oe3, vs3, he3, hz3, hd3⟩ := fl3.there
        have S3 := (J.landed (s' := { s' with heap := h3 }) nb fl3.1 up3 os ag).suite he3 hd3 na nL nF
        refine wpAny_handleBy_cons (codeAny_handlers_test (ce_run hc S3 hz3.1 hb1 fun h3' k3 => ?_)) (by intro q; cases q)
        have fl3' := fly_kept fl3 k3
        have up3' : sI.heap.UpToSlots h3' := up3.trans (Heap.UpToSlots.of_keeps k3)
        cases b with
        | true =>
          refine codeAny_handlers_suite_as ?_
          refine HandSPX.lands_againZ (s := { s' with heap := h3' }) fl3' fun h4 fl4 up4 => ?_
          have J4 : Inv X pins σ' H' { s' with heap := h4 } := J.landed nb fl4.1 (up3'.trans up4) os ag
          obtain ⟨oe4, vs4, he4, hz4, hd4⟩ := fl4.there
          have S4 := J4.suite he4 hd4 na nL nF
          refine store_ok (X := X.suite a ((a, oe4) :: (X.pn ++ pins))) (v := .ref a) S4 hN hi hloc rfl (fun s5 S5 => ?_) (.inr hln)
          refine wpAny_mono ((hsu a oe4 cls d (X.pn ++ pins) hz4 ⟨_, hd4⟩).run [] s5 _ H' _ S5 (hyes rfl a na)) (fun f s6 hsp => ?_) (fun _ _ z => False.elim z)
          have end_ : ∀ {σ6 : L2.St} {H6 : Hp} {Q : Shared → Prop}, Inv (X.suite a ((a, oe4) :: (X.pn ++ pins))) [] σ6 H6 s6 → (∀ s7, Inv X pins (σ6.set i none) H6 s7 → Q s7) →
              wpAny (model X.prog X.w) X.A (do bindName X.env n .none; unbindBehindTheSuite X.env n pos') (fun _ s7 => Q s7) X.xe s6 := fun {σ6 H6 Q} S6 hq => gone_ok (S6.unsuite ok) hN hi hln hq
          cases f with
          | next => obtain ⟨σ6, H6, S6, q6⟩ := hsp; exact end_ S6 fun s7 J7 => ⟨_, _, J7, q6⟩
          | brk => obtain ⟨σ6, H6, S6, q6⟩ := hsp; exact end_ S6 fun s7 J7 => ⟨_, _, J7, q6⟩
          | cont => obtain ⟨σ6, H6, S6, q6⟩ := hsp; exact end_ S6 fun s7 J7 => ⟨_, _, J7, q6⟩
          | ret u => obtain ⟨v6, σ6, H6, S6, r6, q6⟩ := hsp; exact end_ S6 fun s7 J7 => ⟨_, _, _, J7, r6, q6⟩
        | false =>
          show wpAny _ X.A (handleBy (.ref a) X.env hds2) _ _ _
          exact ih (hno rfl) h3' fl3' up3'
    exact go hh w h3 fl3 (up.trans up3)
  · cases f with
    | next => exact wpAny_execs_nil (back (pn := []) hsp)
    | brk => exact back (pn := []) hsp
    | cont => exact back (pn := []) hsp
    | ret u => exact back (pn := []) hsp
end
end Ts
/-! ### try over data -/
namespace Ts
open PySem PySem.Spec PyProof.Rows L2
/-- what a VC wants, as a reading -/
def tVC (K : PySem.W.Frag) (mg : Str → Option Value) (W : WX) (v : VS) : TS := fun D σ H => ∃ F s m G, Le F H ∧ EnvR K mg F H σ s m ∧ v s m G ∧ Lk K mg W F H m G D
theorem JSs.tvc {X : Cx} {W : WX} {st : List Stmt} {v : VS} (h : JSs X W st v) : PSs X st (tVC X.K X.mg W v) := by
  obtain ⟨t, p, sn⟩ := h
  exact ⟨fun pins s σ H D I ⟨F, sl, m, G, l, en, hv, L⟩ => p.run pins s σ H D I (sn σ F H sl m G l en hv D L)⟩
/-- the fields of the class at C can be read -/
def Xfl (K : PySem.W.Frag) (C : Addr) (ns : List Str) : Prop := XfC K C ∧ ∀ n ∈ ns, PySem.W.findIn K (.ref C) n = some none
/-- which classes a clause takes -/
def onB : Option Bool → Prop → Prop → Prop
  | some true, p, _ => p
  | some false, _, q => q
  | none, _, _ => False
theorem onB_of {o : Option Bool} {p q : Prop} (h : onB o p q) : ∃ b, o = some b ∧ (b = true → p) ∧ (b = false → q) := by
  cases o with
  | none => exact h.elim
  | some b =>
    cases b with
    | true => exact ⟨true, rfl, fun _ => h, fun z => by cases z⟩
    | false => exact ⟨false, rfl, (fun z => by cases z), fun _ => h⟩
/-- the clauses, one after the other -/
def hdV (i : Nat) : List (List (Str × Bool) × (Addr → Addr → VS)) → DE → XD → SL → Mem → Prop
  | [], G, e, s, m => G.ex e s m
  | (mt, v) :: r, G, e, s, m => onB (mt.lookup e.cls) (∀ a dd, v a dd (s.set i (some (.exn a dd e.fs))) m { nx := fun s' m' => G.nx (s'.set i none) m', rt := G.rt, bk := fun s' m' => G.bk (s'.set i none) m', ct := fun s' m' => G.ct (s'.set i none) m' }) (hdV i r G e s m)
@[reducible] def vTry (i : Nat) (vb : VS) (cl : List (List (Str × Bool) × (Addr → Addr → VS))) : VS := fun s m G => vb s m { G with ex := hdV i cl G }
/-- the clause's table tells true -/
def MtOk (K : PySem.W.Frag) (mg : Str → Option Value) (mt : List (Str × Bool)) (cs : List Value) (ns : List Str) : Prop := ∀ p ∈ mt, ∃ C, mg p.1 = some (.ref C) ∧ PySem.W.exmAny K (.ref C) cs = some p.2 ∧ Xfl K C ns
inductive JHs (X : Cx) (n : Str) (ns : List Str) : List ExceptHandler → List (List (Str × Bool) × (Addr → Addr → VS)) → Prop
  | nil : JHs X n ns [] []
  | cons {ce : Expr} {cs : List Value} {mt : List (Str × Bool)} {v : Addr → Addr → VS} {b₀ : Stmt} {suite : List Stmt} {pos' : Pos} {hds : List ExceptHandler} {l : List (List (Str × Bool) × (Addr → Addr → VS))} (hc : Ce X ce cs) (hm : MtOk X.K X.mg mt cs ns)
      (hsu : ∀ (a dd C : Addr) (oe : Obj) (pn : List (Addr × Obj)), Zc (.ref C) (some dd) oe → (∃ vs, oe.data = .fields vs) → Xfl X.K C ns → JSs (X.suite a ((a, oe) :: pn)) (fun _ _ _ _ => False) (b₀ :: suite) (v a dd)) (r : JHs X n ns hds l) :
      JHs X n ns (.ExceptHandler (some ce) (some n) (b₀ :: suite) pos' :: hds) ((mt, v) :: l)
section
variable {X : Cx} {W : WX}
/-- a suite's reading -/
def tSu (K : PySem.W.Frag) (mg : Str → Option Value) (ns : List Str) (v : Addr → Addr → VS) : Addr → Value → Option Addr → TS := fun a cls d D σ H => ∃ C dd, cls = .ref C ∧ d = some dd ∧ Xfl K C ns ∧ tVC K mg (fun _ _ _ _ => False) (v a dd) D σ H
theorem JHs.as {n : Str} {ns : List Str} {hds : List ExceptHandler} {l : List (List (Str × Bool) × (Addr → Addr → VS))} (h : JHs X n ns hds l) : ∃ cl : List (List Value), AsOk X n hds ((cl.zip l).map fun p => (p.1, tSu X.K X.mg ns p.2.2)) ∧ cl.length = l.length ∧ ∀ p ∈ cl.zip l, MtOk X.K X.mg p.2.1 p.1 ns := by
  induction h with
  | nil => exact ⟨[], .nil, rfl, fun _ h => by cases h⟩
  | @cons ce cs mt v b₀ suite pos' hds l hc hm hsu _ ih =>
    obtain ⟨cl, h1, h2, h3⟩ := ih
    refine ⟨cs :: cl, ?_, by simp [h2], fun p hp => ?_⟩
    · refine .cons hc (fun a oe cls d pn hz hf => ?_) h1
      exact ⟨fun pins s σ H D I ⟨C, dd, ec, ed, hx, ht⟩ => by
        subst ec ed
        exact (hsu a dd C oe pn hz hf hx).tvc.run pins s σ H D I ht⟩
    · rw [List.zip_cons_cons] at hp
      rcases List.mem_cons.mp hp with rfl | hp
      · exact hm
      · exact h3 p hp
theorem mem_look {mt : List (Str × Bool)} {c : Str} {b : Bool} (h : mt.lookup c = some b) : (c, b) ∈ mt := by
  induction mt with
  | nil => cases h
  | cons p mt ih =>
    obtain ⟨x, y⟩ := p
    rw [List.lookup_cons] at h
    cases q : (c == x) with
    | true => rw [q] at h; cases h; rw [beq_iff_eq.mp q]; exact List.mem_cons_self
    | false => rw [q] at h; exact List.mem_cons_of_mem _ (ih h)
/-- the clauses' wish follows from their VC -/
theorem hdV_snd {i : Nat} {ns : List Str} {Wout : WX} {F H : Hp} {m0 : Mem} {G : DE} {D : Ends} (L : Lk X.K X.mg Wout F H m0 G D) :
    ∀ (l : List (List (Str × Bool) × (Addr → Addr → VS))) (cl : List (List Value)), cl.length = l.length → (∀ p ∈ cl.zip l, MtOk X.K X.mg p.2.1 p.1 ns) →
    ∀ (cls : Value) (dd : Option Addr) (e : XD) (σ : L2.St) (s : SL) (F' H' : Hp) (m' : Mem), StM X.K X.mg m0 F H F' H' m' → EnvR X.K X.mg F' H' σ s m' → RpX X.K X.mg F' H' cls dd e → hdV i l G e s m' →
      wAsMany X.K i Wout D ((cl.zip l).map fun p => (p.1, tSu X.K X.mg ns p.2.2)) cls dd σ H'
  | [], cl, hl, hm, cls, dd, e, σ, s, F', H', m', st, en, rx, h => by
    have : cl = [] := List.length_eq_zero_iff.mp hl
    subst this
    exact L.ex cls dd e σ s F' H' m' st en rx h
  | (mt, v) :: l, cs :: cl, hl, hm, cls, dd, e, σ, s, F', H', m', st, en, rx, h => by
    obtain ⟨b, hb, hy, hn⟩ := onB_of h
    obtain ⟨Ca, d, xs, rfl, hmg, rfl, hF, rk⟩ := rx
    obtain ⟨C, h1, h2, h3⟩ := hm (cs, (mt, v)) List.mem_cons_self _ (mem_look hb)
    have h1 : X.mg e.cls = some (.ref C) := h1
    rw [hmg] at h1
    cases h1
    refine ⟨b, h2, fun z a ha => ?_, fun z => hdV_snd L l cl (by simpa using hl) (fun p hp => hm p (List.mem_cons_of_mem _ hp)) _ _ e σ s F' H' m' st en ⟨Ca, d, xs, rfl, hmg, rfl, hF, rk⟩ (hn z)⟩
    refine ⟨Ca, d, rfl, rfl, h3, F', _, m', _, st.le, en.set (.exn (a := a) hF rk), hy z a d, ?_⟩
    exact ⟨fun σ' s' F2 H2 m2 t2 e2 g => L.nx _ _ F2 H2 m2 (st.trans t2) e2.drop g, fun w d2 F2 H2 m2 t2 r2 g => L.rt w d2 F2 H2 m2 (st.trans t2) r2 g, fun σ' s' F2 H2 m2 t2 e2 g => L.bk _ _ F2 H2 m2 (st.trans t2) e2.drop g,
      fun σ' s' F2 H2 m2 t2 e2 g => L.ct _ _ F2 H2 m2 (st.trans t2) e2.drop g, fun _ _ _ _ _ _ _ _ _ _ _ g => g.elim⟩
theorem js_try {n : Str} {i : Nat} {ns : List Str} {body : List Stmt} {h₀ : ExceptHandler} {hds : List ExceptHandler} {l : List (List (Str × Bool) × (Addr → Addr → VS))} {pos : Pos} {vb : VS} (hs : X.stack = X.env :: X.outer) (hf : X.env.frame = some X.env.locals) (hN : X.N.Nodup) (hi : X.N[i]? = some n) (hln : X.env.kindOf n = some .local) (tk : Takes X W)
    (hb : ∀ (W' : WX) (pn : List (Addr × Obj)) (xe : Value → Shared → Prop), Takes (X.tr pn xe) W' → PassesOwn (model X.prog X.w) X.A X.env xe → JSs (X.tr pn xe) W' body vb) (hh : JHs X n ns (h₀ :: hds) l) : JS X W (.Try body (h₀ :: hds) [] [] pos) (vTry i vb l) := by
  obtain ⟨cl, h1, h2, h3⟩ := hh.as
  refine ⟨_, ps_tryAs (tb := fun W' => tVC X.K X.mg W' vb) hs hf hN hi hln tk (fun W' pn xe t p => (hb W' pn xe t p).tvc) h1, fun σ F H s m G l en h E L => ?_⟩
  exact ⟨F, s, m, _, l, en, h, ⟨L.nx, L.rt, L.bk, L.ct, fun cls dd e σ' s' F' H' m' st e2 rx hv => hdV_snd L _ cl h2 h3 cls dd e σ' s' F' H' m' st e2 rx hv⟩⟩
/-! ### e.f of an exception in hand -/
@[reducible] def vXf (a dd : Addr) (n : Str) (ve : VE) : VE := fun s m k x => ve s m (fun d m1 => ∃ fs, d = .exn a dd fs ∧ ∃ d', fs.lookup n = some d' ∧ k d' m1) x
theorem pe_xfP {a C : Addr} {oe : Obj} {dd : Addr} {e : Expr} {te : TE} {pos : Pos} {n : Str} {ns : List Str} (hp : (a, oe) ∈ X.pn) (T : Xfl X.K C ns) (hn : n ∈ ns) (hz : Zc (.ref C) (some dd) oe) (hf : ∃ vs, oe.data = .fields vs) (he : PE X e te) (hb : attributeBase e n X.env (eval e X.env) = eval e X.env := by rfl) :
    PE X (.Attribute e n pos) (fun σ H Q => te σ H fun x H1 => x = .ref a ∧ ∃ (fs : List (Str × V)) (v : V), H1 dd = some (.xd fs) ∧ fs.lookup n = some v ∧ Q v H1) := by
  refine ⟨fun pins s σ H Q I h => ?_⟩
  refine attr_of hb (thn (he.run pins s σ H _ I h) fun u s1 ⟨x, H1, I1, rx, ex, fs, v, ea, lk, q⟩ => ?_)
  subst ex
  obtain rfl : u = Value.ref a := rx
  have ha := (I1.pin (a, oe) (List.mem_append_left _ hp)).1
  obtain ⟨vs, hd⟩ := hf
  obtain ⟨mA, hns, hr⟩ := (show ObjOk X.prog X.w H1 s1.heap dd (.xd fs) from I1.hok dd _ ea)
  obtain ⟨od, ho, hl⟩ := lookIn_ns hns
  obtain ⟨w, hu, ru⟩ := RelO.some_of (v := v) (o := mA n) (by rw [← lk]; exact hr n)
  have J : PySem.W.InstAt s1.heap a oe C (some od) := ⟨ha, hz.1, by unfold PySem.W.notCls; rw [hd] <;> rfl, by rw [hz.2]; exact ho⟩
  exact HandSPX.exc_get I1.kIn J T.1.ga T.1.gg T.1.exC (PySem.W.findObj_own T.1.hdC (T.2 n hn) rfl (by rw [hl, hu])) (handed_of ru) ⟨v, H1, I1.tok _, ru, q⟩
theorem je_xf {a C : Addr} {oe : Obj} {dd : Addr} {e : Expr} {ve : VE} {pos : Pos} {n : Str} {ns : List Str} (hp : (a, oe) ∈ X.pn) (T : Xfl X.K C ns) (hn : n ∈ ns) (hz : Zc (.ref C) (some dd) oe) (hf : ∃ vs, oe.data = .fields vs) (he : JE X W e ve) (hb : attributeBase e n X.env (eval e X.env) = eval e X.env := by rfl) :
    JE X W (.Attribute e n pos) (vXf a dd n ve) := by
  obtain ⟨te, p, s1⟩ := he
  refine ⟨_, pe_xfP hp T hn hz hf p hb, fun σ F H s m k x l en hv hx Q q => s1 σ F H s m _ x l en hv hx _ fun v d F1 H1 m1 t1 r1 ⟨fs, ed, d', lk, k1⟩ => ?_⟩
  subst ed
  cases r1 with
  | exn hF rk =>
    obtain ⟨w, h1, h2⟩ := rk.lookup lk
    exact ⟨rfl, _, w, t1.le.at hF id, h1, q _ _ F1 H1 m1 t1 h2 k1⟩
end
end Ts
/-! ### a def that is handed the exception in hand -/
namespace Ts
open PySem PySem.Spec PyProof.Rows L2
structure FnF (P : Program) (w : World) (K : PySem.W.Frag) (mg : Str → Option Value) (base : Heap) (x : Str) (k : Nat) (ns : List Str) (φ : Addr → Addr → P0) : Prop where
  ex : ∃ f, mg x = some (.ref f) ∧ PySem.W.keepIn K (.ref f) = true ∧ ∀ (A : Around) (outer : List Env) (s : Shared) (H : Hp) (us : List Value) (vs : List V) (Q : VK) (p : Addr × Obj) (C dd : Addr), L2H.RoomH k A → L2H.PinOk outer H s p → Zc (.ref C) (some dd) p.2 → (∃ vs, p.2.data = .fields vs) → Xfl K C ns → Env0 P w K mg base A outer s H → Vals vs us →
    Sp0 K mg (φ p.1 dd) vs H Q (fun _ _ _ => False) → codeAny (model P w) A (.call (.ref f) ⟨us, []⟩) (CR CX0 outer P w H s Q (fun _ _ _ => False)) s
section
variable {P : Program} {w : World} {K : PySem.W.Frag} {mg : Str → Option Value} {base : Heap} {x qual : Str} {params : Arguments} {body : List Stmt} {scope : Scope} {dvs : List V} {kws : List (Str × V)} {f : Addr} {fd : FuncData}
theorem fn_F {φ : Addr → Addr → P0} {v : Addr → Addr → VS} {N ps : List Str} {k : Nat} {ns : List Str} (hm : mg x = some (.ref f)) (F : FunD K x qual params body scope dvs kws f fd) (S : FnScope N ps scope) (hbd : Binds K fd ps []) (hl : ∀ a dd ds m k, φ a dd ds m k → ds.length = ps.length)
    (hb : ∀ (cdv : Value) (A : Around) (outer : List Env) (s : Shared) (H : Hp) (p : Addr × Obj) (C dd : Addr), L2H.RoomH k (A.deeper (envOfC qual scope s.heap.objs.size f cdv)) → Zc (.ref C) (some dd) p.2 → (∃ vs, p.2.data = .fields vs) → Xfl K C ns →
      JSs (L2H.cxH CX0 P w K mg base N qual scope f cdv A outer s H (fun _ _ _ => False) p).nox (fun _ _ _ _ => False) body (v p.1 dd))
    (hw : ∀ a dd ds m k, φ a dd ds m k → v a dd (dstart N.length ds) m (endP k)) : FnF P w K mg base x (k + 1) ns φ := by
  refine ⟨f, hm, F.kp, fun A outer s H us vs Q p C dd hr hpin hz hf hx e0 r hsp => ?_⟩
  obtain ⟨oc, od, dV, kV, doc, pm, an, cdv, ct, osl, rfl, lk, hcd, hD, hK⟩ := F.ex
  obtain ⟨F0, ds, m, kk, l, rl, mr, hφ, q⟩ := hsp
  have hlen : vs.length = ps.length := by rw [rl.len, hl _ _ _ _ _ hφ]
  have KX : K.In s.heap := e0.mod.kin.keeps fun b o e => (e0.bs b o e).1
  have lim : s.heap.NoLimit := e0.mod.nolimit.keeps fun b o e => (e0.bs b o e).1
  have hbs := hbd s us KX (by rw [List.append_nil, ← r.length]; exact hlen)
  rw [List.append_nil] at hbs
  have hkind : ∀ y ∈ ps.zip us, scope.names.lookup y.1 = some .local ∨ (scope.names.lookup y.1 = some .cell ∧ ((cellsFrom (s.heap.objs.size + 1) scope.names []).lookup y.1).isSome = true) := fun ⟨n, v⟩ hy => (S.par n (List.of_mem_zip hy).1).imp id fun q => ⟨q, PySem.W.cellsFrom_some _ _ _ (.inl q)⟩
  refine codeAny_call_function hr.depth (KX _ _ lk) rfl S.co S.gen rfl (PySem.W.codeRec_of KX hcd) (hbs _ _ _ _ ?_)
  refine wpAny_newFunctionEnv_cells S.kind hkind fun env he s1 x => ?_
  subst he
  refine ⟨lim.keeps x.toInCall.keep, codeAny_func ?_⟩
  obtain ⟨t, ht, sn⟩ := hb cdv A outer s H p C dd (hr.deeper _) hz hf hx
  have I := L2H.inv_startH (CX := CX0) (E := fun _ _ _ => False) S hpin e0 hlen r x
  have hq : t { nx := fun _ H' => Q .non H', rt := Q } (L2.start N vs) H := sn _ F0 H _ m _ l (env_start mr rl) (hw _ _ _ _ _ hφ) _ ⟨fun σ' s' F' H' m' st e g => q _ _ F' H' m' st .non g, fun v d F' H' m' st rd g => q v d F' H' m' st rd g, fun _ _ _ _ _ _ _ g => g.elim, fun _ _ _ _ _ _ _ g => g.elim, fun _ _ _ _ _ _ _ _ _ _ _ g => g.elim⟩
  refine wpAny_mono (ht.nox.run [] s1 (L2.start N vs) H _ I hq) (fun fl s' hs => ?_) fun e s' hs => hs
  cases fl with
  | ret u => obtain ⟨v, σ', H', J, rv, q⟩ := hs; exact ⟨v, H', J.os, J.bare, J.base, J.hok, rv, q⟩
  | next => obtain ⟨σ', H', J, q⟩ := hs; exact ⟨.non, H', J.os, J.bare, J.base, J.hok, rfl, q⟩
  | brk => obtain ⟨_, _, _, q⟩ := hs; exact q.elim
  | cont => obtain ⟨_, _, _, q⟩ := hs; exact q.elim
end
section
variable {X : Cx} {W : WX}
theorem je_fnF {φ : Addr → Addr → P0} {x : Str} {k : Nat} {ns : List Str} {a C dd : Addr} {oe : Obj} {e : Expr} {es : List Expr} {va : VA} {p pos : Pos} (G : FnF X.prog X.w X.K X.mg X.base x k ns φ) (hr : L2H.RoomH k X.A) (hp : (a, oe) ∈ X.pn) (hz : Zc (.ref C) (some dd) oe) (hf : ∃ vs, oe.data = .fields vs) (T : Xfl X.K C ns) (hg : Gl X x) (ha : JA X W (e :: es) va)
    (hdb : (x == ("__debug__" : Str)) = false := by decide) (he : starEach (e :: es) X.env = (false, eval e X.env) :: starEach es X.env := by rfl) (hpl : (backTo pos (starEach es X.env)).any (·.1) = false := by rfl) :
    JE X W (.Call (.Name x p) (e :: es) [] pos) (vCall (φ a dd) va) := by
  obtain ⟨ta, p1, s1⟩ := ha
  obtain ⟨f, hm, kp, run⟩ := G.ex
  refine ⟨fun σ H Q => ta σ H fun vs H1 => Sp0 X.K X.mg (φ a dd) vs H1 Q (fun _ _ _ => False), ⟨fun pins s σ H Q I h => ?_⟩, fun σ F H s m k x l en hv hx Q q => s1 σ F H s m _ x l en hv hx _ fun us ds F1 H1 m1 t1 r1 k1 =>
    ⟨F1, ds, m1, _, t1.le, r1, t1.mr, k1, fun v d F2 H2 m2 t2 r2 k2 => q v d F2 H2 m2 (t1.trans t2) r2 k2⟩⟩
  refine wpAny_Call_Name_kw (ld_glob I hg hm ?_ hdb)
  refine PySem.W.callWith_K (h₀ := X.base) I.ok.mod.kin kp (thn (p1.run pos pins s σ H _ I h) fun us s1 ⟨vs, H1, I1, r, q⟩ => ⟨I1.kIn, ?_⟩) he hpl
  have P1 := I1.pin (a, oe) (List.mem_append_left _ hp)
  have hpin : L2H.PinOk X.stack H1 s1 (a, oe) := ⟨P1.1, P1.2.1, fun hm => (List.mem_cons.mp (I1.stkSub a hm)).elim P1.2.2.1 P1.2.2.2.1, P1.2.2.2.2⟩
  refine wpAny_call (codeAny_mono (run X.A X.stack s1 H1 us vs Q (a, oe) C dd hr hpin hz hf T I1.env0 r q) fun r s' hq => ?_)
  cases r with
  | error e => exact (show False from hq).elim
  | ok fl =>
    cases fl with
    | ret u => exact I1.after hq
    | next => exact False.elim hq
    | brk => exact False.elim hq
    | cont => exact False.elim hq
end
end Ts
/-! ### x(lambda: e) -/
namespace Ts
open PySem PySem.Spec PyProof.Rows L2
/-- what the making of a lambda does to what is tracked -/
def LamH (P : Addr) (q : Str) (ps : Array Value) (H H1 : Hp) (c : Addr) : Prop :=
  (H1 = H ∧ ∃ pos, codeAmong pos ps.toList = some (.ref c)) ∨
    ∃ more : Array Value, H c = none ∧ H1 = upd (upd H P (.tbl more)) c (LamX.CodeO c q) ∧ TriplesOk more.toList ∧ ∀ (pos : Pos) (cv : Value), codeAmong pos more.toList = some cv → codeAmong pos ps.toList = some cv ∨ cv = .ref c
section
variable {X : Cx} {pins : List (Addr × Obj)} {σ : L2.St} {H : Hp} {s : Shared}
end
/-- the step that makes a lambda -/
theorem lam_stm {K : PySem.W.Frag} {mg : Str → Option Value} {F H H1 : Hp} {m : Mem} {P c : Addr} {q : Str} {ps : Array Value} (l : Le F H) (mr : MemR K mg F H m) (hm : m P = some (.tab q)) (hP : H P = some (.tbl ps)) (hc : ∀ (pos : Pos) (cv : Value), codeAmong pos ps.toList = some cv → ∃ c, cv = .ref c ∧ F c = some (LamX.CodeO c q))
    (h : LamH P q ps H H1 c) : ∃ F1, StM K mg m F H F1 H1 m ∧ F1 c = some (LamX.CodeO c q) := by
  rcases h with ⟨rfl, pos, e⟩ | ⟨more, nc, rfl, tr, ha⟩
  · obtain ⟨c2, e2, hF⟩ := hc _ _ e
    cases e2
    exact ⟨F, StM.refl l mr, hF⟩
  · have fc : F c = none := l.none nc
    have fP : F P = none := (mr P _ hm).1
    have nPc : P ≠ c := ne_of_none hP nc
    have at_ : ∀ b, b ≠ P → b ≠ c → upd (upd H P (.tbl more)) c (LamX.CodeO c q) b = H b := fun b h1 h2 => by rw [upd_ne h2, upd_ne h1]
    have atP : upd (upd H P (.tbl more)) c (LamX.CodeO c q) P = some (.tbl more) := by rw [upd_ne nPc, upd_same]
    refine ⟨upd F c (LamX.CodeO c q), ⟨fun a o e n => ?_, fun a e => ?_, gr_upd fc, fun a o e => ?_, fun a o e => ?_, fun a o e => ?_, fun a e => .inl e, fun a ob u e => ?_⟩, upd_same⟩
    · rw [at_ a (fun z => by rw [z, hm] at n; cases n) (ne_of_none e nc)]; exact e
    · by_cases h1 : a = P
      · rw [h1, atP]; simp
      · rw [at_ a h1 (fun z => e (by rw [z]; exact nc))]; exact e
    · by_cases h1 : a = c
      · subst h1; rw [upd_same] at e; cases e; exact .inl upd_same
      · rw [upd_ne h1] at e
        rw [at_ a (fun z => by rw [z, fP] at e; cases e) h1]
        exact l a o e
    · obtain ⟨z1, z2⟩ := mr a o e
      have h1 : a ≠ c := fun z => z2.there (by rw [z]; exact nc)
      refine ⟨by rw [upd_ne h1]; exact z1, ?_⟩
      by_cases h2 : a = P
      · subst h2
        rw [hm] at e
        cases e
        refine ⟨more, atP, tr, fun pos cv hcv => ?_⟩
        rcases ha pos cv hcv with z | z
        · obtain ⟨c0, e1, e2⟩ := hc pos cv z
          exact ⟨c0, e1, gr_upd fc _ _ e2⟩
        · exact ⟨c, z, upd_same⟩
      · exact z2.keep (gr_upd fc) fun u hu => by rw [at_ a h2 h1]; exact hu
    · by_cases h1 : a = c
      · subst h1; exact .inr (.inl nc)
      · rw [upd_ne h1] at e; exact .inl e
    · rw [at_ a (fun z => by rw [z, hP] at e; cases e) (ne_of_none e nc)]; exact e
/-- the lambda is called: what it wants of the names of the frame that made it -/
@[reducible] def vAsk (i : Nat) (f c : Addr) (q : Str) (σ : L2.St) (sl : SL) (ve : VE) : VE := fun s m k x => s[i]? = some (some (.clo f c q σ sl)) ∧ ve sl m k x
/-- x(lambda: e): vg is what x's body wants, its parameter's call told -/
@[reducible] def vLam (P : Addr) (q : Str) (n : Nat) (ve : VE) (vg : VE → VS) : VE := fun s m k x => m P = some (.tab q) ∧ ∀ f c σ, vg (vAsk 0 f c q σ s ve) (dstart n [.clo f c q σ s]) m (endP k)
section
variable {X : Cx} {W : WX}
end
end Ts
/-! ### the head: exception classes, the law's table of code objects -/
namespace Ts
open PySem PySem.Spec PyProof.Rows L2
/-- an own exception class: its name, the __init__ that it has, the built-in class that it is over, its fields -/
structure XDef where
  x : Str
  qual : Str
  params : Arguments
  body : List Stmt
  scope : Scope
  B : String
  newId : String
  initId : String
  bmB : List Value
  flds : List Str
abbrev XV : Type := Option (Str × Str × Arguments × FuncBody × Scope × Addr × List Str × Addr)
def XDef.fI (K : PySem.W.Frag) (x : Str) : Addr := He.ma K (He.ga K x) "__init__"
def fnC (K : PySem.W.Frag) (x : Str) : XV := match K.lookup (XDef.fI K x) with
  | some ⟨_, _, .func fd, _⟩ => some (fd.name, fd.qualname, fd.params, fd.body, fd.scope, fd.globals, fd.closure.map (·.1), fd.builtins)
  | _ => none
def XDef.val (d : XDef) : XV := some ("__init__", d.qual, d.params, .stmts d.body, d.scope, mainGlobals, ["__class__"], builtinsNs)
/-- where its code and its cell stand -/
def XDef.at_ (K : PySem.W.Frag) (x : Str) : Option (Addr × Addr) := match K.lookup (XDef.fI K x) with
  | some ⟨_, _, .func fd, _⟩ => (match fd.code, fd.closure, fd.defaults with
    | .ref c, [(_, cc)], .none => some (c, cc)
    | _, _, _ => none)
  | _ => none
def codeF (K : PySem.W.Frag) (file : Str) (c : Addr) : Bool := match K.lookup c with
  | some ⟨_, _, .fields vs, _⟩ => (match (vs[2]? : Option Value) with
    | some (.str f _) => decide (f = file)
    | _ => false)
  | _ => false
def cellF (K : PySem.W.Frag) (cc C : Addr) : Bool := match K.lookup cc with
  | some ⟨_, _, .cell (some (.ref c)), _⟩ => decide (c = C)
  | _ => false
def XDef.clsB (K : PySem.W.Frag) (d : XDef) : Bool := (He.Fa.glo d.x).ok K && PySem.W.excInitIn K (He.ga K d.x) d.bmB d.newId && PySem.W.excOver K (He.ga K d.x) d.bmB && decide (PySem.W.findIn K (.ref (He.ga K d.x)) "__setattr__" = some (some (.builtin "object.__setattr__"))) &&
  PySem.W.hasDictIn K (He.ga K d.x) && decide (PySem.W.subIn K (.ref (He.ga K d.x)) (.type "BaseException") = some true) && decide (PySem.W.subIn K (.ref (He.ga K d.x)) (.type d.B) = some true) && decide (PySem.W.typeIn K (.ref (He.ga K d.x)) = some (.type "type")) && PySem.W.keepIn K (.ref (He.ga K d.x)) &&
  decide (PySem.W.ks_superIn K (He.ga K d.x) (He.ga K d.x) "__init__" = some (some (.builtin d.initId))) && decide (PySem.W.mroIn K (He.ga K d.x) (.ref (He.ga K d.x)) = some true) && decide (PySem.W.nsIn K cStatics "thirdparty.any" = some none) && decide (PySem.W.nsIn K mainGlobals "super" = some none) && d.flds.all fun f => decide (PySem.W.takerIn K (He.ga K d.x) f = some none)
def XDef.iniB (K : PySem.W.Frag) (file : Str) (d : XDef) : Bool := decide (PySem.W.findIn K (.ref (He.ga K d.x)) "__init__" = some (some (.ref (XDef.fI K d.x)))) && PySem.W.isFn K (.ref (XDef.fI K d.x)) && (match XDef.at_ K d.x with
  | some (c, cc) => PySem.W.codeIn K (.ref c) d.qual && codeF K file c && cellF K cc (He.ga K d.x)
  | none => false)
/-- all that is known of it -/
structure XF (P : Program) (K : PySem.W.Frag) (mg : Str → Option Value) (d : XDef) : Prop where
  ex : ∃ C fI cda cc kV doc pm an ct oc od osl, mg d.x = some (.ref C) ∧ XCls K C d.B d.newId d.initId d.bmB ∧ (∀ f ∈ d.flds, PySem.W.takerIn K C f = some none) ∧ K.lookup fI = some ⟨oc, od, .func (PySem.W.ksFn "__init__" d.qual d.params d.body d.scope .none kV doc pm an (.ref cda) ct cc), osl⟩ ∧
    XIni K P C fI d.qual d.params d.body d.scope cda cc (PySem.W.ksFn "__init__" d.qual d.params d.body d.scope .none kV doc pm an (.ref cda) ct cc)
theorem xf_of {P : Program} {K : PySem.W.Frag} {h : Heap} {mg : Str → Option Value} {file : Str} {d : XDef} (X : K.In h) (G : h.Ns mainGlobals mg) (hP : P.main.file = file) (e : fnC K d.x = d.val) (h1 : d.clsB K = true) (h2 : d.iniB K file = true) : XF P K mg d := by
  unfold XDef.clsB at h1
  simp only [Bool.and_eq_true, decide_eq_true_eq, List.all_eq_true] at h1
  obtain ⟨⟨⟨⟨⟨⟨⟨⟨⟨⟨⟨⟨⟨c1, c2⟩, c3⟩, c4⟩, c5⟩, c6⟩, c7⟩, c8⟩, c9⟩, c10⟩, c11⟩, c12⟩, c13⟩, c14⟩ := h1
  unfold XDef.iniB at h2
  simp only [Bool.and_eq_true, decide_eq_true_eq] at h2
  obtain ⟨⟨i1, i2⟩, i3⟩ := h2
  unfold XDef.at_ at i3
  unfold fnC XDef.val at e
  cases q : K.lookup (XDef.fI K d.x) with
  | none => rw [q] at e; cases e
  | some o =>
    obtain ⟨oc, od, dt, osl⟩ := o
    rw [q] at e i3
    cases dt with
    | func fd =>
      obtain ⟨name, qn, pr, bd, sc, gl, clos, dfl, kV, doc, pm, an, cdv, ct, bl⟩ := fd
      simp only [Option.some.injEq, Prod.mk.injEq] at e
      obtain ⟨rfl, rfl, rfl, rfl, rfl, rfl, ecl, rfl⟩ := e
      dsimp only at i3
      split at i3
      · rename_i c cc e3
        split at e3
        · rename_i c' y cc' 
          cases e3
          simp only [Bool.and_eq_true] at i3
          obtain ⟨⟨j1, j2⟩, j3⟩ := i3
          have ey : y = "__class__" := by simpa using ecl
          subst ey
          have hcF : ∃ ccl cdd vs ccs file tf, K.lookup c = some ⟨ccl, cdd, .fields vs, ccs⟩ ∧ vs[2]? = some (.str file tf) ∧ ((P.main.file : Str) == file) = true := by
            unfold codeF at j2
            split at j2
            · rename_i ccl cdd vs ccs e4
              split at j2
              · rename_i f tf e5
                exact ⟨ccl, cdd, vs, ccs, f, tf, e4, e5, by rw [hP, of_decide_eq_true j2]; exact beq_self_eq_true _⟩
              · cases j2
            · cases j2
          have hcC : ∃ cl cld csl, K.lookup cc = some ⟨cl, cld, .cell (some (.ref (He.ga K d.x))), csl⟩ := by
            unfold cellF at j3
            split at j3
            · rename_i cl cld c2 csl e4
              rw [of_decide_eq_true j3] at e4
              exact ⟨cl, cld, csl, e4⟩
            · cases j3
          exact ⟨He.ga K d.x, XDef.fI K d.x, c, cc, kV, doc, pm, an, ct, oc, od, osl, He.glo_ok X G c1, ⟨c2, c3, c4, c5, c6, c7, c8, c9, c10, c11, c12, c13⟩, c14, q, ⟨i1, i2, ⟨oc, od, osl, .none, kV, doc, pm, an, ct, q, rfl⟩, j1, hcF, hcC⟩⟩
        · cases e3
      · cases i3
    | _ => cases e
theorem XF.mk1 {P : Program} {w : World} {K : PySem.W.Frag} {mg : Str → Option Value} {d : XDef} (Z : XF P K mg d) {f a sf tg tv msg : Str} {j j2 : Nat} {p0 p1 p2 p3 p4 p5 q1 q2 q3 q4 r1 r2 r3 r4 : Pos} {ar : Arg} {pl : Sem Bool}
    (hbody : d.body = [xrow msg j p0 p1 p2 p3 p4 p5, srow sf f (.Name a q3) q1 q2 q4, srow sf tg (.Constant (.str tv) j2 r3) r1 r2 r4])
    (hev : ∀ env : Env, PySem.eval (.Call (.Attribute (.Call (.Name "super" p0) [] [] p1) "__init__" p2) [.Constant (.str msg) j p3] [] p4) env = (do
      let ov ← attributeBase (.Call (.Name "super" p0) [] [] p1) "__init__" env (PySem.eval (.Call (.Name "super" p0) [] [] p1) env)
      standAt p2.atName
      let (f, first) ← holding [ov] (getMethod ov "__init__" pl)
      callWith p4 f first (backTo p4 (starEach [.Constant (.str msg) j p3] env)) []))
    (FB : ExcBaseFacts d.B d.newId d.initId d.bmB) (KF : PySem.W.KxsFacts d.B d.initId) (SF : StoreFacts d.B d.bmB "object.__setattr__" "object") (S : XSc d.scope sf) (hpar : (d.params.posonlyargs ++ d.params.args).head? = some ar) (har : ar.arg = sf) (htop : (P.main.scope.names.lookup ("super" : Str)).isSome = false)
    (hb : ∀ (kV doc pm : Value) (an : Option Addr) (cd ct : Value) (cc : Addr) (e u : Value), bindArgs (PySem.W.ksFn "__init__" d.qual d.params d.body d.scope .none kV doc pm an cd ct cc) ⟨[e, u], []⟩ = pure [(sf, e), (a, u)]) (ha : d.scope.names.lookup a = some .local) (hsf : a ≠ sf) (da : (a == ("__debug__" : Str)) = false) (ds : (sf == ("__debug__" : Str)) = false)
    (s1 : ∀ env : Env, swapsWith (.Name a q3) (some (.Attribute (.Name sf q1) f q2)) q4.line env = pure false) (s2 : ∀ env : Env, swapsWith (.Constant (.str tv) j2 r3) (some (.Attribute (.Name sf r1) tg r2)) r4.line env = pure false) (m1 : f ∈ d.flds) (m2 : tg ∈ d.flds) : Mk1 P w K mg d.x f tg tv := by
  obtain ⟨C, fI, cda, cc, kV, doc, pm, an, ct, oc, od, osl, hm, T, tk, lk, J⟩ := Z.ex
  refine ⟨C, hm, T.kC, T.exC, T.tyC, fun A E hp g dr t os u Q Y hd hQ => ?_⟩
  have hb' := hb
  rw [hbody] at J hb'
  exact xmade1 hev FB KF SF T J S Y hpar har htop hd (fun s e => .of_eq (hb' kV doc pm an (.ref cda) ct cc e u)) ha hsf da ds s1 s2 (tk f m1) (tk tg m2) hQ
/-- which classes a clause takes, by the head -/
def mtT (names : List Str) (mt : List (Str × Bool)) (ns : List Str) : Tb := fun K => (names.all fun n => (He.Fa.glo n).ok K) && mt.all fun p => (He.Fa.glo p.1).ok K && decide (PySem.W.exmAny K (.ref (He.ga K p.1)) (names.map fun n => .ref (He.ga K n)) = some p.2) && xfB K (He.ga K p.1) && ns.all fun n => decide (PySem.W.findIn K (.ref (He.ga K p.1)) n = some none)
theorem mtT_ok {names : List Str} {mt : List (Str × Bool)} {ns : List Str} {K : PySem.W.Frag} {h : Heap} {mg : Str → Option Value} (X : K.In h) (G : h.Ns mainGlobals mg) (c : mtT names mt ns K = true) : (∀ n ∈ names, mg n = some (.ref (He.ga K n))) ∧ MtOk K mg mt (names.map fun n => .ref (He.ga K n)) ns := by
  obtain ⟨h1, h2⟩ := Bool.and_eq_true_iff.mp c
  refine ⟨fun n hn => He.glo_ok X G (List.all_eq_true.mp h1 n hn), fun p hp => ?_⟩
  have z := List.all_eq_true.mp h2 p hp
  simp only [Bool.and_eq_true, decide_eq_true_eq, List.all_eq_true] at z
  obtain ⟨⟨⟨z1, z2⟩, z3⟩, z4⟩ := z
  exact ⟨_, He.glo_ok X G z1, z2, xfB_ok z3, fun n hn => of_decide_eq_true (decide_eq_true (z4 n hn))⟩
/-! the hook -/
def lawTab (K : PySem.W.Frag) : Option (Addr × Addr) := match K.lookup (He.ga K "law") with
  | some ⟨_, _, .func fd, _⟩ => (match fd.code with
    | .ref c => (match K.lookup c with
      | some ⟨_, _, .fields vs, _⟩ => (match (vs[11]? : Option Value) with
        | some (.ref P) => some (c, P)
        | _ => none)
      | _ => none)
    | _ => none)
  | _ => none
def asX (g : Addr → Option Obj) (n : Nat) : List Addr := match lawTab (He.frG g (He.asD g n)) with
  | some (_, P) => cStatics :: (He.asD g n).filter fun a => a != P
  | none => cStatics :: He.asD g n
def emptyT : Option Obj → Bool
  | some ⟨.none, none, .fields vs, sl⟩ => vs.isEmpty && sl.isEmpty
  | _ => false
theorem emptyT_ok {o : Option Obj} (h : emptyT o = true) : o = some { cls := .none, data := .fields #[] } := by
  unfold emptyT at h
  split at h
  · rename_i vs sl
    obtain ⟨h1, h2⟩ := Bool.and_eq_true_iff.mp h
    rw [Array.isEmpty_iff.mp h1, Array.isEmpty_iff.mp h2]
  · cases h
def tabOk (g : Addr → Option Obj) (K : PySem.W.Frag) : Bool := match lawTab K with
  | some (c, P) => PySem.W.codeHdIn K c P && (K.lookup P).isNone && emptyT (g P)
  | none => false
abbrev AlX : Type := He.AlD × Bool × List XV
def boolX (tb : List Tb) (xs : List XDef) (file : Str) (K : PySem.W.Frag) : Bool := (tb.all fun t => t K) && xs.all fun d => d.clsB K && d.iniB K file
def obsXG (n : Nat) (fa : List He.Fa) (fn : List He.DefD) (tb : List Tb) (xs : List XDef) (file : Str) (g : Addr → Option Obj) : AlX :=
  (He.obsD fa fn (He.frG g (asX g n)), boolX tb xs file (He.frG g (asX g n)) && tabOk g (He.frG g (asX g n)), xs.map fun d => fnC (He.frG g (asX g n)) d.x)
structure SaysX (fa : List He.Fa) (fn : List He.DefD) (tb : List Tb) (xs : List XDef) (file : Str) (K : PySem.W.Frag) : Prop where
  d : He.SaysD fa fn K
  b : boolX tb xs file K = true
  x : (xs.map fun d => fnC K d.x) = xs.map XDef.val
def hookX (n : Nat) (fa : List He.Fa) (fn : List He.DefD) (tb : List Tb) (xs : List XDef) (file : Str) : PySem.W.Hook where
  α := AlX
  obs := fun s => obsXG n fa fn tb xs file s.heap.get?
  val := fun _ => (He.valD fn, true, xs.map XDef.val)
  says := fun _ h => ∃ (K : PySem.W.Frag) (c P : Addr), K.In h ∧ SaysX fa fn tb xs file K ∧ lawTab K = some (c, P) ∧ PySem.W.codeHdIn K c P = true ∧ K.lookup P = none ∧ h.get? P = some { cls := .none, data := .fields #[] }
  of := fun _ s e => by
    obtain ⟨e1, e2⟩ := Prod.mk.inj e
    obtain ⟨e2, e3⟩ := Prod.mk.inj e2
    obtain ⟨e4, e5⟩ := Bool.and_eq_true_iff.mp e2
    unfold tabOk at e5
    split at e5
    · rename_i c P q
      simp only [Bool.and_eq_true] at e5
      obtain ⟨⟨h1, h2⟩, h3⟩ := e5
      exact ⟨_, c, P, He.frG_in, ⟨e1, e4, e3⟩, q, h1, Option.isNone_iff_eq_none.mp h2, emptyT_ok h3⟩
    · cases e5
  keeps := fun _ _ _ ⟨K, c, P, hK, x, q, h1, h2, h3⟩ k => ⟨K, c, P, PySem.W.Frag.In.keeps hK k, x, q, h1, h2, k _ _ h3⟩
section
variable {fa : List He.Fa} {fn : List He.DefD} {tb : List Tb} {xs : List XDef} {file : Str} {K : PySem.W.Frag}
theorem SaysX.tab (c : SaysX fa fn tb xs file K) (i : Nat) {t : Tb} (h : tb[i]? = some t) : t K = true :=
  List.all_eq_true.mp (Bool.and_eq_true_iff.mp c.b).1 t (List.mem_of_getElem? h)
theorem SaysX.xf {P : Program} {h : Heap} {mg : Str → Option Value} (c : SaysX fa fn tb xs file K) (X : K.In h) (G : h.Ns mainGlobals mg) (hP : P.main.file = file) (i : Nat) {d : XDef} (hi : xs[i]? = some d) : XF P K mg d := by
  have m := List.mem_of_getElem? hi
  obtain ⟨h1, h2⟩ := Bool.and_eq_true_iff.mp (List.all_eq_true.mp (Bool.and_eq_true_iff.mp c.b).2 d m)
  exact xf_of X G hP (List.map_inj_left.mp c.x d m) h1 h2
end
/-! the law with a table -/
def SpLawT (K : PySem.W.Frag) (P : Addr) : Sp := fun vs H Q _ => ∃ (a : Addr) (ns : List Int), vs = [.ref a] ∧ SqL K H a (ns.map V.int) ∧ H P = some (.tbl #[]) ∧ ns.length ≤ 63 ∧ ∀ H', Q (.bl true) H'
section
variable {P : Program} {w : World} {K : PySem.W.Frag} {mg : Str → Option Value} {base : Heap} {x qual : Str} {params : Arguments} {body : List Stmt} {scope : Scope} {dvs : List V} {kws : List (Str × V)} {f : Addr} {fd : FuncData}
theorem fn_lawT {v : Addr → VS} {N : List Str} {s q : Str} {k : Nat} {c Pt : Addr} (F : FunD K x qual params body scope dvs kws f fd) (S : FnScope N [s] scope) (hc : fd.code = .ref c)
    (hb : ∀ (A : Around) (outer : List Env) (s : Shared) (H : Hp) (E : XK), Room k (A.deeper (envOfC qual scope s.heap.objs.size f (.ref c))) → JSs (cxOf CX0 P w K mg base N qual scope f (.ref c) A outer s H E).nox (fun _ _ _ _ => False) body (v Pt))
    (hw : ∀ (Pt a : Addr) (ns : List Int), ns.length ≤ 63 → v Pt (dstart N.length [.lat a (ns.map D.int)]) (mset (fun _ => none) Pt (.tab q)) endLaw) : FnOk P w K mg base CX0 (k + 1) f fd [s] (SpLawT K Pt) := by
  obtain ⟨oc, od, dV, kV, doc, pm, an, cdv, ct, osl, rfl, lk, hcd, _, _⟩ := F.ex
  obtain rfl : cdv = .ref c := hc
  refine fn_of lk hcd S (fun vs H Q E ⟨a, ns, e, _⟩ => by rw [e]; rfl) fun A outer s H vs Q E hr ⟨a, ns, ev, sq, hP, hl, fin⟩ => ?_
  subst ev
  obtain ⟨t, ht, hs⟩ := hb A outer s H E hr
  refine ⟨t, ht.nox, ?_⟩
  have key : ∃ F : Hp, Le F H ∧ SqL K F a (ns.map V.int) ∧ F Pt = none := by
    have one : ∀ u : HO, H a = some u → Le (fun b => if b = a then some u else none) H := fun u h b o e => by
      have e : (if b = a then some u else none) = some o := e
      by_cases hb : b = a
      · rw [if_pos hb] at e; cases e; rw [hb]; exact .inl h
      · rw [if_neg hb] at e; cases e
    have off : ∀ u : HO, H a = some u → (∀ ps, u ≠ .tbl ps) → (fun b => if b = a then some u else (none : Option HO)) Pt = none := fun u h n => if_neg fun z => by
      rw [← z, hP] at h
      exact n _ (Option.some.inj h).symm
    rcases sq with (h | ⟨o, h⟩) | h
    · exact ⟨_, one _ h, .inl (.inl (if_pos rfl)), off _ h fun ps z => by cases z⟩
    · exact ⟨_, one _ h, .inl (.inr ⟨o, if_pos rfl⟩), off _ h fun ps z => by cases z⟩
    · exact ⟨fun _ => none, fun _ _ e => (nomatch e), .inr h, rfl⟩
  obtain ⟨F, l, sf, fP⟩ := key
  have mr : MemR K mg F H (mset (fun _ => none) Pt (.tab q)) := fun b o e => by
    by_cases hb : b = Pt
    · subst hb
      rw [mset_same] at e
      cases e
      exact ⟨fP, #[], hP, True.intro, fun pos cv z => by simp [codeAmong] at z⟩
    · rw [mset_ne hb] at e; cases e
  refine hs _ F H _ _ _ l (env_start mr (.cons (.lat sf (RpL.ints ns)) .nil)) (hw Pt a ns hl) _ ⟨fun _ _ _ _ _ _ _ g => g.elim, fun v d F' H' m' st r g => ?_, fun _ _ _ _ _ _ _ g => g.elim, fun _ _ _ _ _ _ _ g => g.elim, fun _ _ _ _ _ _ _ _ _ _ _ g => g.elim⟩
  have g : d = .bl true := g
  subst g
  rw [r.blI]
  exact fin H'
end
theorem walk_ofTB {l : PySem.W.OpenLaw} {n k : Nat} {q : Program} {loose : List Str} {XP : (Str → Option Value) → Heap → Prop} {YP : World → Heap → Prop} {d : DefRec} {x : Str}
    (hn : l.most = some n) (hn2 : n ≤ sizeLine) (hdf : d.params.defaults = []) (hr : Room k callerA)
    (F : ∀ (w : World) (mg : Str → Option Value) (fa : Addr) (h : Heap), YP w h → h.Ns mainGlobals mg → mg d.name = some (.ref fa) →
      ∃ (K : PySem.W.Frag) (fd : FuncData) (c P : Addr) (sp : Sp), K.In h ∧ h.get? P = some { cls := .none, data := .fields #[] } ∧ K.lookup P = none ∧ PySem.W.CodeHd h c P ∧ (∀ (s : Shared) (u : Value), BindsTo s fd ⟨[u], []⟩ [(x, u)]) ∧
        (∀ (H : Hp) (a : Addr) (ns : List Int), ns.length ≤ n → H P = some (.tbl #[]) → SqL K H a (ns.map V.int) → sp [.ref a] H (fun v _ => v = .bl true) fun _ _ _ => False) ∧
        ∀ base : Heap, K.In base → base.Ns mainGlobals mg → LamX.TabB base mg c P → FnOk l.prog w K mg base CX0 k fa fd [x] sp) :
    PySem.W.WalkO q loose XP YP l.row.toRowW d [] (fun f vs => PySem.call f vs) := by
  refine Att.attach_callB hn hdf fun w s₀ s₁ mg mb fa o pm cd doc a vs ns G Y ho hd hcd hmg hobj hints hlen hbits hg => ?_
  obtain ⟨K, fd, c, P, sp, KX, hT, nT, C, hb, hsp, hF⟩ := F w mg fa _ Y G.T.g hmg
  have one : ∀ {φ : Addr × Addr → Prop}, φ (c, P) → ∀ p ∈ [(c, P)], φ p := fun {φ} h p hp => by rw [List.mem_singleton.mp hp]; exact h
  exact LamX.law_callTs (cs := [(c, P)]) KX G.T.g G.T.b G.T.builtins G.T.nolimit hg (one hT) (one nT) (one C) G.T.bmain hobj hints (Nat.le_trans hlen hn2) hr (fun base h1 h2 h3 => hF base h1 h2 (h3 _ List.mem_cons_self)) hb (fun H hH hS => hsp H a ns hlen (hH _ List.mem_cons_self) hS) fun H e s' z => z
end Ts
/-! ### a def that is handed a lambda, by its name -/
theorem L2H.RoomH.units {k : Nat} {A : PySem.Around} (r : L2H.RoomH k A) : A.units + 64 < PySem.cLine := by have := r.un; omega
namespace Ts
open PySem PySem.Spec PyProof.Rows L2
theorem roomM {k : Nat} {A : Around} {v : Option Value} (r : L2H.RoomH k A) : L2H.RoomH k (A.mark v) := ⟨r.dp, r.un⟩
@[reducible] def lamQ (x : Str) : Str := x ++ ".<locals>." ++ "<lambda>"
/-- the def's context -/
abbrev whyCx (P : Program) (w : World) (K : PySem.W.Frag) (mg : Str → Option Value) (base : Heap) (Ng : List Str) (x : Str) (sg : Scope) (g : Addr) (cdv : Value) (A : Around) (outer : List Env) (s : Shared) (H : Hp) : Cx := cxOf CX0 P w K mg base Ng x sg g cdv A outer s H E0
structure FnL (P : Program) (w : World) (K : PySem.W.Frag) (mg : Str → Option Value) (base : Heap) (x : Str) (k n : Nat) (vg : VE → VS) : Prop where
  ex : ∃ (g : Addr) (fd : FuncData) (a : Str) (pg : Arguments) (bg : List Stmt) (sg : Scope) (Ng : List Str) (kws : List (Str × V)), mg x = some (.ref g) ∧ FunD K x x pg bg sg [] kws g fd ∧ Binds K fd [a] [] ∧ FnScope Ng [a] sg ∧ Ng[0]? = some a ∧ Vis sg a ∧ (a == ("__debug__" : Str)) = false ∧ (a == ("__classdict__" : Str)) = false ∧ Ng.length = n ∧
    ∀ (cdv : Value) (A : Around) (outer : List Env) (s : Shared) (H : Hp) (ask : VE), Room (k + 1) (A.deeper (envOfC x sg s.heap.objs.size g cdv)) →
      (∀ (W' : WX) (pn : List (Addr × Obj)) (xe : Value → Shared → Prop) (p1 p2 : Pos), Takes ((whyCx P w K mg base Ng x sg g cdv A outer s H).tr pn xe) W' → JE ((whyCx P w K mg base Ng x sg g cdv A outer s H).tr pn xe) W' (.Call (.Name a p1) [] [] p2) ask) →
      JSs (whyCx P w K mg base Ng x sg g cdv A outer s H).nox (fun _ _ _ _ => False) bg (vg ask)
section
variable {X : Cx} {W : WX}
end
theorem lawTab_code {K : PySem.W.Frag} {fd : FuncData} {c Pt : Addr} {oc : Value} {od : Option Addr} {osl : Array (Option Value)} (h : lawTab K = some (c, Pt)) (lk : K.lookup (He.ga K "law") = some ⟨oc, od, .func fd, osl⟩) : fd.code = .ref c := by
  unfold lawTab at h
  rw [lk] at h
  dsimp only at h
  split at h
  · rename_i c' e
    split at h
    · split at h
      · cases h; exact e
      · cases h
    · cases h
  · cases h
end Ts
/-! ### defaults, calls by keywords -/
namespace Ts
open PySem PySem.Spec PyProof.Rows L2
section
variable {K : PySem.W.Frag} {x qual : Str} {params : Arguments} {body : List Stmt} {scope : Scope} {dvs : List V} {f : Addr} {fd : FuncData} {ps : List Str}
/-- every parameter is given -/
theorem bindsF (F : FunD K x qual params body scope dvs [] f fd) (hd : dvs ≠ [])
    (h : ∀ (T : Addr) (kV doc pm : Value) (an : Option Addr) (cdv ct : Value) (us its : List Value), us.length = ps.length → its.length = dvs.length → ∃ k, bindArgs (PySem.W.fnOf x qual params body scope (.ref T) kV doc pm an cdv ct) ⟨us, []⟩ = seqItems? (.ref T) >>= k ∧ k (some its.toArray) = pure (ps.zip us)) : Binds K fd ps [] := by
  obtain ⟨ds, hv, hb⟩ := F.binds1 (ps := ps) ps.length dvs.length hd (by omega) fun T kV doc pm an cdv ct us its h1 h2 => by
    obtain ⟨k, e1, e2⟩ := h T kV doc pm an cdv ct us its h1 h2
    exact ⟨k, e1, by rw [List.drop_of_length_le (by omega), List.append_nil]; exact e2⟩
  rw [List.drop_length] at hv
  cases hv
  exact hb
end
/-- the order of the parameters out of the order of the keywords -/
structure PermF where
  g : {α : Type} → List α → List α
  p : ∀ {α β : Type} {R : α → β → Prop} {xs : List α} {ys : List β}, Paired R xs ys → Paired R (g xs) (g ys)
  r : ∀ {K : PySem.W.Frag} {mg : Str → Option Value} {F : Hp} {xs : List V} {ys : List D}, RpL K mg F xs ys → RpL K mg F (g xs) (g ys)
structure FnKX (P : Program) (w : World) (K : PySem.W.Frag) (mg : Str → Option Value) (base : Heap) (x : Str) (k : Nat) (ks : List Str) (g : PermF) (φ : PX) : Prop where
  ex : ∃ f, mg x = some (.ref f) ∧ PySem.W.keepIn K (.ref f) = true ∧ ∀ (A : Around) (outer : List Env) (s : Shared) (H : Hp) (ws : List Value) (zs : List V) (Q : VK) (E : XK), Room k A → Env0 P w K mg base A outer s H → Vals zs ws → zs.length = ks.length → SpX K mg φ (g.g zs) H Q E →
    codeAny (model P w) A (.call (.ref f) ⟨[], ks.zip ws⟩) (CR (L2.CX P w) outer P w H s Q E) s
section
variable {P : Program} {w : World} {K : PySem.W.Frag} {mg : Str → Option Value} {base : Heap} {x : Str} {k : Nat}
theorem FnKX.mk1 {φ : PX} {f : Addr} {fd : FuncData} {ps ks : List Str} {g : PermF} (hm : mg x = some (.ref f)) (kp : PySem.W.keepIn K (.ref f) = true) (F : FnOk P w K mg base (L2.CX P w) k f fd ps (SpX K mg φ)) (hb : ∀ (s : Shared) (ws : List Value), K.In s.heap → ws.length = ks.length → BindsTo s fd ⟨[], ks.zip ws⟩ (ps.zip (g.g ws))) : FnKX P w K mg base x k ks g φ :=
  ⟨f, hm, kp, fun A outer s H ws zs Q E hr e0 r hl hsp => F.run A outer s H ⟨[], ks.zip ws⟩ (g.g ws) (g.g zs) Q E hr e0 (hb s ws (e0.mod.kin.keeps fun b o e => (e0.bs b o e).1) (r.length.symm.trans hl)) (g.p r) hsp⟩
/-- the last parameters left to their defaults -/
theorem FnX.mkD {φ : PX} {f : Addr} {fd : FuncData} {ps : List Str} {dvs : List V} {des : List D} (hm : mg x = some (.ref f)) (kp : PySem.W.keepIn K (.ref f) = true) (hd : ∀ F, RpL K mg F dvs des) (b : ∃ ds, Vals dvs ds ∧ Binds K fd ps ds) (F : FnOk P w K mg base (L2.CX P w) k f fd ps (SpX K mg φ)) : FnX P w K mg base x k (fun ds m k x => φ (ds ++ des) m k x) := by
  obtain ⟨ds, hv, hb⟩ := b
  exact ⟨f, hm, kp, (F.raw hb hv).imp fun vs H Q E ⟨F, ds, m, k, x, l, r, mr, h, q⟩ => ⟨F, ds ++ des, m, k, x, l, r.app (hd F), mr, h, q⟩⟩
end
section
variable {X : Cx} {W : WX}
def JK (X : Cx) (W : WX) (kws : List Keyword) (v : VA) : Prop := ∃ t, PK X kws t ∧ SndA X.K X.mg W t v
theorem jk_nil : JK X W [] vNil := ⟨_, pk_nil, fun σ F H s m k x l en hv _ Q q => q [] [] F H m (StM.refl l en.mem) .nil hv⟩
theorem jk_cons {e : Expr} {va : VE} {kws : List Keyword} {vs : VA} {nm : Option Str} {kpos : Pos} (ha : JE X W e va) (hr : JK X W kws vs) : JK X W (⟨nm, e, kpos⟩ :: kws) (vCons va vs) := by
  obtain ⟨ta, p1, s1⟩ := ha; obtain ⟨tr, p2, s2⟩ := hr
  exact ⟨_, pk_cons p1 p2, fun σ F H s m k x l en hv hx Q q => s1 σ F H s m _ x l en hv hx _ fun u d F1 H1 m1 t1 r1 k1 => s2 σ F1 H1 s m1 _ x t1.le (en.stm t1) k1 (hx.after t1) _ fun us ds F2 H2 m2 t2 r2 k2 => q (u :: us) (d :: ds) F2 H2 m2 (t1.trans t2) (.cons (r1.mono t2.gr) r2) k2⟩
/-- x(k = e, ..) -/
@[reducible] def vCallKX (n : Nat) (g : PermF) (φ : PX) (a : VA) : VE := fun s m k x => a s m (fun ds m1 => ds.length = n ∧ φ (g.g ds) m1 k x) x
end
end Ts
/-! ### partition -/
namespace Ts
open PySem PySem.Spec PyProof.Rows L2
/-- the text ahead of the first sep, sep, the text behind it -/
def partL (b a : List Nat) : List Nat × List Nat × List Nat := match TL.par b [] a with
  | some (p, q) => (p, b, q)
  | none => (a, [], [])
def oPartn (x y : Str) (k : D → Prop) : Prop := ∃ a b : List Nat, x = S a ∧ y = S b ∧ b ≠ [] ∧ a.length ≤ 1000000 ∧ k (.pr [.str (S (partL b a).1), .str (S (partL b a).2.1), .str (S (partL b a).2.2)])
@[reducible] def vPartn (a b : VE) : VE := fun s m k x => a s m (fun d m1 => onS d fun z => b s m1 (fun e m2 => onS e fun y => oPartn z y fun r => k r m2) x) x
section
variable {X : Cx} {W : WX}
end
end Ts
/-! ### dicts that change; keys walked; dict comprehensions; xs[::-1] -/
namespace Ts
open PySem PySem.Spec PyProof.Rows L2
section
variable {X : Cx} {W : WX} {pos : Pos}
/-- {}: a new dict of the memory -/
@[reducible] def vDNewO : VE := fun _ m k _ => ∀ p, m p = none → k (.ref p) (mset m p (.dic []))
/-- d.get(k, x) -/
@[reducible] def vDGet2 (a b c : VE) : VE := fun s m k x => a s m (fun d m1 => onO (asK m1 d) fun _ => b s m1 (fun y m2 => c s m2 (fun z m3 => onO (asK m3 d) fun kvs => onO (keyD y) fun c => k ((valD kvs c).getD z) m3) x) x) x
/-- d[k] = v -/
def onDo : Option MO → (List (Key × D) → Prop) → Prop
  | some (.dic kvs), k => k kvs
  | _, _ => False
def onD : Mem → D → (Addr → List (Key × D) → Prop) → Prop
  | m, .ref p, k => onDo (m p) (k p)
  | _, _, _ => False
theorem onD_of {m : Mem} {d : D} {k : Addr → List (Key × D) → Prop} (h : onD m d k) : ∃ p kvs, d = .ref p ∧ m p = some (.dic kvs) ∧ k p kvs := by
  cases d with
  | ref p =>
    have h : onDo (m p) (k p) := h
    cases hm : m p with
    | none => rw [hm] at h; exact h.elim
    | some o =>
      rw [hm] at h
      cases o with
      | dic kvs => exact ⟨p, kvs, rfl, hm, h⟩
      | _ => exact h.elim
  | _ => exact h.elim
theorem putD_len {κ α : Type} [DecidableEq κ] (kvs : List (κ × α)) (k : κ) (v : α) : (putD kvs k v).length ≤ kvs.length + 1 := by
  unfold putD; split <;> simp
@[reducible] def vDPut (o i a : VE) : VS := fun s m G => a s m (fun e m1 => o s m1 (fun d m2 => i s m2 (fun j m3 => onD m3 d fun p kvs => onO (keyD j) fun c => kvs.length < 1000000 ∧ G.nx s (mset m3 p (.dic (putD kvs c e)))) fun e m' => G.ex e s m') fun e m' => G.ex e s m') fun e m' => G.ex e s m'
theorem js_dput {o i e : Expr} {vo vi ve : VE} {pos pos' : Pos} (hu : X.A.units + 1 < cLine) (he : JE X W e ve) (ho : JE X W o vo) (hi : JE X W i vi) (hs : swapsWith e (some (.Subscript o i pos')) pos.line X.env = pure false := by rfl) : JS X W (.Assign [.Subscript o i pos'] e pos) (vDPut vo vi ve) := by
  obtain ⟨t, p1, s1⟩ := he; obtain ⟨to, p2, s2⟩ := ho; obtain ⟨ti, p3, s3⟩ := hi
  refine ⟨_, ps_dput hu p2 p3 p1 hs, fun σ F H s m G l en h E L => s1 σ F H s m _ _ l en h (L.x en) _ fun v d F1 H1 m1 t1 r1 k1 => s2 σ F1 H1 s m1 _ _ t1.le (en.stm t1) k1 ((L.x en).after t1) _ fun w d' F2 H2 m2 t2 r2 k2 =>
    s3 σ F2 H2 s m2 _ _ t2.le ((en.stm t1).stm t2) k2 (((L.x en).after t1).after t2) _ fun y j F3 H3 m3 t3 r3 k3 => ?_⟩
  obtain ⟨p, kvs, rfl, hm, k3⟩ := onD_of k3
  obtain ⟨c, hc, hz, k3⟩ := onO_of k3
  obtain ⟨_, ys, e', rl⟩ := t3.mr p _ hm
  have st := (t1.trans t2).trans t3
  have sp := StM.put (o := .dK (putK ys c v)) t3.le t3.mr hm rfl (u := .dic (putD kvs c d)) ⟨_, upd_same, rl.put (r1.mono (t2.gr.trans t3.gr))⟩
  refine ⟨p, _, r2.refI, .inl ⟨ys, c, e', keyD_ok hc r3, ?_, rfl⟩, L.nx σ s F3 _ _ (st.trans sp) (en.stm (st.trans sp)) k3⟩
  rw [rl.len]
  have : sizeLine > 1000000 := by decide
  omega
/-- keys as data -/
def kD : Key → D
  | .inl i => .int i
  | .inr z => .str z
theorem kD_rp {K : PySem.W.Frag} {mg : Str → Option Value} {F : Hp} (c : Key) : Rp K mg F (kV c) (kD c) := by
  cases c with
  | inl i => exact .int i
  | inr z => exact .str z
def keysD (kvs : List (Key × D)) : List D := kvs.map fun kv => kD kv.1
theorem keysD_len (kvs : List (Key × D)) : (keysD kvs).length = kvs.length := by simp [keysD]
/-- for k in d: a frozen dict -/
def kyD : D → (List D → Prop) → Prop
  | .dic kvs, k => k (keysD kvs)
  | _, _ => False
@[reducible] def vKeys (a : VE) : VF := fun s m k x => a s m (fun d m' => kyD d fun ds => k ds m') x
theorem jf_keys {e tg : Expr} {ve : VE} (h : JE X W e ve) : JF X W tg e (vKeys ve) := by
  obtain ⟨t, p, s1⟩ := h
  refine ⟨_, pi_keys p, fun σ F H s m k x l en hv hx R q => s1 σ F H s m _ x l en hv hx _ fun v d F1 H1 m1 t1 r1 k1 => ?_⟩
  cases d with
  | dic kvs =>
    obtain ⟨a, o, xs, rfl, hf, rk⟩ := r1.dicI
    refine ⟨a, o, rfl, .inl ⟨xs, t1.le.at hf id, q _ (keysD kvs) F1 H1 m1 t1 ?_ k1⟩⟩
    intro F' H' m' i gr le _ _
    have hH : H' a = some (.frz o (.dK xs)) := le.at (gr _ _ hf) id
    refine ⟨fun hi => ⟨hH, by rw [rk.len]; rw [keysD_len] at hi; exact hi⟩, fun hi => ⟨hH, by rw [rk.len]; rw [keysD_len] at hi; exact hi⟩, fun x H2 hi y => ?_⟩
    obtain ⟨eH, c, v, hc, ex⟩ := y
    subst eH ex
    refine ⟨kD c, F', ?_, Step.refl le, kD_rp c⟩
    have hk := rk.keys
    have h1 : (xs.map (·.1))[i]? = some c := by rw [List.getElem?_map, hc]; rfl
    rw [hk] at h1
    rw [keysD, List.getElem?_map]
    rw [List.getElem?_map] at h1
    cases hq : kvs[i]? with
    | none => rw [hq] at h1; cases h1
    | some z => rw [hq] at h1; cases h1; rfl
  | _ => exact k1.elim
/-- list(d) -/
def oListD : OA
  | [d], m, k => onO (asK m d) fun kvs => k (.lst (keysD kvs)) m
  | _, _, _ => False
/-- xs[::-1] -/
def oRev (d : D) (m : Mem) (k : D → Mem → Prop) : Prop := onO (asL m d) fun ds => k (.lst ds.reverse) m
@[reducible] def vRev (a : VE) : VE := fun s m k x => a s m (fun d m' => oRev d m' k) x
theorem je_rev {e : Expr} {ve : VE} {k : Nat} {p1 p2 p3 pos : Pos} (h : JE X W e ve) : JE X W (.Subscript e (.Slice none none (some (.UnaryOp .USub (.Constant (.int 1) k p1) p2)) p3) pos) (vRev ve) := by
  obtain ⟨t, p, s1⟩ := h
  refine ⟨_, pe_revL p, fun σ F H s m k x l en hv hx Q q => s1 σ F H s m _ x l en hv hx _ fun v d F1 H1 m1 t1 r1 k1 => ?_⟩
  obtain ⟨ds, h1, k1⟩ := onO_of k1
  obtain ⟨p, vs, rfl, sp, rp⟩ := r1.asL t1.le t1.mr h1
  refine ⟨p, vs, rfl, sp, fun n hn => ?_⟩
  have st := Step.new (F := F1) (o := .lst vs.reverse) t1.le hn
  exact q _ _ _ _ m1 (t1.trans (st.stm t1.mr)) (.lst upd_same (rp.rev.mono st.gr)) k1
end
/-! ### {k: v for ..} -/
def dcV (g : VG) (t : VT) (ek ev : VE) (s : SL) : List D → List (Key × D) → Mem → (List (Key × D) → Mem → Prop) → Prop
  | [], acc, m, k => k acc m
  | d :: ds, acc, m, k => g d s fun s1 => t s1 m (fun b m2 => if b = true then ek s1 m2 (fun y m3 => ev s1 m3 (fun z m4 => onO (keyD y) fun c => dcV g t ek ev s ds (putD acc c z) m4 k) fun _ _ => False) fun _ _ => False else dcV g t ek ev s ds acc m2 k) fun _ _ => False
@[reducible] def vDc (i : VF) (g : VG) (t : VT) (ek ev : VE) (own : List Nat) : VE := fun s m k x => i s m (fun ds m1 => ds.length ≤ 1000000 ∧ dcV g t ek ev (wipeD s own) ds [] m1 fun es m2 => k (.dic es) m2) x
section
variable {X : Cx} {W : WX} {kx vx tg iter : Expr} {ifs : List Expr} {scope : Scope} {own : List (Str × Nat)} {pos : Pos} {vf : VF} {vg : VG} {vt : VT} {vk ve : VE} {js : List Nat}
theorem dc_snd {wi : TI} {g : TG} {tt : TT} {tk te : TE} {vs : List Nat} (hj : ∀ j ∈ js, j ∈ vs) (hi : SndF X.K X.mg W wi vf) (hg : SndG X.K X.mg g js vg) (ht : SndT X.K X.mg W tt vt) (hk : SndE X.K X.mg W tk vk) (he : SndE X.K X.mg W te ve) :
    SndE X.K X.mg W (tLkE (tDc wi g tt tk te vs)) (vDc vf vg vt vk ve vs) := fun σ F H s m k x l en hv hx Q q =>
  hi σ F H s m _ x l en hv hx _ fun J ds F1 H1 m1 t1 J1 ⟨hz, h1⟩ => fun Dd hD => by
    have e1 := en.stm t1
    have fD : F1 Dd = none := t1.le.none hD
    have mD : m1 Dd = none := t1.mr.free hD
    refine ⟨fun i n H' => n = ds.length - i ∧ i ≤ ds.length ∧ ∃ F' ys acc m', StM X.K X.mg m1 F1 H1 F' H' m' ∧ F' Dd = none ∧ m' Dd = none ∧ H' Dd = some (.dK ys) ∧ RpK X.K X.mg F' ys acc ∧ acc.length ≤ i ∧ dcV vg vt vk ve (wipeD s vs) (ds.drop i) acc m' (fun es m2 => k (.dic es) m2),
      ⟨ds.length, rfl, Nat.zero_le _, F1, [], [], m1, (StM.refl t1.le t1.mr).side hD fD mD, fD, mD, upd_same, .nil, Nat.le_refl _, h1⟩, ?_⟩
    rintro i n H' ⟨rfl, hi, F', ys, acc, m', st, hf, hm, hh, r, hl, w⟩
    obtain ⟨j1, j2, j3⟩ := J1 F' H' m' i st.gr st.le st.mr trivial
    by_cases hlt : i < ds.length
    · refine .inr ⟨j1 hlt, fun H3 => ∃ F' ys acc m', StM X.K X.mg m1 F1 H1 F' H3 m' ∧ F' Dd = none ∧ m' Dd = none ∧ H3 Dd = some (.dK ys) ∧ RpK X.K X.mg F' ys acc ∧ acc.length ≤ i + 1 ∧ dcV vg vt vk ve (wipeD s vs) (ds.drop (i + 1)) acc m' (fun es m2 => k (.dic es) m2), fun H3 p => ⟨ds.length - (i + 1), by omega, rfl, hlt, p⟩, fun x H2 y => ?_⟩
      obtain ⟨d, F2, hd, sp, r2⟩ := j3 x H2 hlt y
      rw [drop_of hd] at w
      have s2 := sp.stm st.mr
      have sa := st.trans s2
      have hne : H' Dd ≠ none := by rw [hh]; simp
      obtain ⟨nf2, nm2⟩ := s2.nofz hf hne hm
      have hh2 : H2 Dd = some (.dK ys) := sp.ex _ _ hh
      refine hg x _ F2 H2 d _ m' _ sp.le ((e1.stm sa).wipe vs) r2 w _ fun σ2 sl2 e2 w2 t2 => ⟨by rw [w2 vs hj]; exact wipe_wipe, ?_⟩
      refine ht σ2 F2 H2 sl2 m' _ _ sp.le e2 t2 XOk.no _ fun b F3 H3 m3 s3 h3 => ?_
      obtain ⟨nf3, nm3⟩ := s3.nofz nf2 (by rw [hh2]; simp) hm
      have hh3 : H3 Dd = some (.dK ys) := s3.ex _ _ hh2 hm
      cases b with
      | true =>
        rw [if_pos rfl] at h3 ⊢
        refine hk σ2 F3 H3 sl2 m3 _ _ s3.le (e2.stm s3) h3 XOk.no _ fun u c' F4 H4 m4 s4 r4 h4 => ?_
        obtain ⟨nf4, nm4⟩ := s4.nofz nf3 (by rw [hh3]; simp) nm3
        have hh4 : H4 Dd = some (.dK ys) := s4.ex _ _ hh3 nm3
        refine he σ2 F4 H4 sl2 m4 _ _ s4.le ((e2.stm s3).stm s4) h4 XOk.no _ fun v d' F5 H5 m5 s5 r5 h5 => ?_
        obtain ⟨nf5, nm5⟩ := s5.nofz nf4 (by rw [hh4]; simp) nm4
        have hh5 : H5 Dd = some (.dK ys) := s5.ex _ _ hh4 nm4
        obtain ⟨c, hc, h5⟩ := onO_of h5
        have r' : RpK X.K X.mg F5 ys acc := r.mono (sp.gr.trans (s3.gr.trans (s4.gr.trans s5.gr)))
        have stt : StM X.K X.mg m1 F1 H1 F5 H5 m5 := ((sa.trans s3).trans s4).trans s5
        refine ⟨ys, c, keyD_ok hc (r4.mono s5.gr), hh5, ?_, F5, _, _, m5, stt.side hD nf5 nm5, nf5, nm5, upd_same, r'.put r5, ?_, h5⟩
        · rw [r'.len]
          have : sizeLine > 1000000 := by decide
          omega
        · have := putD_len acc c d'
          omega
      | false =>
        rw [if_neg (by decide)] at h3 ⊢
        exact ⟨F3, ys, acc, m3, sa.trans s3, nf3, nm3, hh3, r.mono (sp.gr.trans s3.gr), by omega, h3⟩
    · refine .inl ⟨j2 (by omega), ?_⟩
      rw [List.drop_of_length_le (by omega)] at w
      refine .inr ⟨Dd, _, rfl, hh, trivial, fun od => ?_⟩
      have stf := (t1.trans st).side (o := .frz od (.dK ys)) (t1.back hD) hf hm
      have st2 := stf.fzn (t1.back hD) hf hm upd_same
      exact q _ _ _ _ m' st2 (.dic upd_same (r.mono (gr_upd hf))) w
theorem je_dc {vs : List Nat} (hvs : vs = own.map (·.2)) (hj : ∀ j ∈ js, j ∈ vs) (hc : X.calm = true) (hN : X.N.Nodup) (hi : JF X W tg iter vf) (ok : BlkOk X.N X.env.scope scope own) (hg : ∀ c, JG (BX X scope c) tg js vg) (ht : ∀ c, JTs (BX X scope c) W ifs vt) (hk : ∀ c, JE (BX X scope c) W kx vk) (he : ∀ c, JE (BX X scope c) W vx ve)
    (hs : ∀ x, foldedSetIterable iter X.env x = pure x := by intro _; rfl) : JE X W (.DictComp kx vx [⟨tg, iter, ifs, 0⟩] scope pos) (vDc vf vg vt vk ve vs) := by
  obtain ⟨wi, p0, s0⟩ := hi
  obtain ⟨g, p1, s1⟩ := all_jg (BX X scope) (fun _ => rfl) (fun _ => rfl) hg
  obtain ⟨tt, p2, s2⟩ := all_jts (BX X scope) (fun _ => rfl) (fun _ => rfl) ht
  obtain ⟨tk, p3, s3⟩ := all_je (BX X scope) (fun _ => rfl) (fun _ => rfl) hk
  obtain ⟨te, p4, s4⟩ := all_je (BX X scope) (fun _ => rfl) (fun _ => rfl) he
  have sn := dc_snd (vs := vs) hj s0 s1 s2 s3 s4
  subst hvs
  exact ⟨_, pe_lk (pe_dc hc hN p0 ok (fun s H C cl fp => p1 (s, H, C, cl, fp)) (fun s H C cl fp => p2 (s, H, C, cl, fp)) (fun s H C cl fp => p3 (s, H, C, cl, fp)) (fun s H C cl fp => p4 (s, H, C, cl, fp)) hs), sn⟩
end
end Ts
/-! ### list(text); a lambda within a comprehension -/
namespace Ts
open PySem PySem.Spec PyProof.Rows L2
section
variable {X : Cx} {W : WX}
def oListS : OA
  | [.str z], m, k => z.length ≤ 1000000 ∧ k (.lst (signs z)) m
  | _, _, _ => False
end
end Ts
/-! ### own classes: instances, their fields, methods, making them -/
namespace Ts
open PySem PySem.Spec PyProof.Rows L2
/-- a class by its name; no class of it has the names fl -/
structure ClN (K : PySem.W.Frag) (mg : Str → Option Value) (C : Str) (fl : List Str) : Prop where
  ex : ∃ Ca, mg C = some (.ref Ca) ∧ Cls K Ca ∧ ∀ f ∈ fl, NoAttr K Ca f
/-- the fields of an instance of the class C, frozen or in the memory -/
def insO (C : Str) : Option MO → Option (List (Str × D))
  | some (.ins C' fs) => if C' = C then some fs else none
  | _ => none
def asI (C : Str) (m : Mem) : D → Option (List (Str × D))
  | .obj C' fs => if C' = C then some fs else none
  | .ref p => insO C (m p)
  | _ => none
theorem insO_1 {C : Str} {fs : List (Str × D)} : insO C (some (.ins C fs)) = some fs := if_pos rfl
theorem asI_1 {C : Str} {m : Mem} {fs : List (Str × D)} : asI C m (.obj C fs) = some fs := if_pos rfl
theorem asI_2 {C : Str} {m : Mem} {p : Addr} : asI C m (.ref p) = insO C (m p) := rfl
section
variable {K : PySem.W.Frag} {mg : Str → Option Value} {F H : Hp}
theorem Rp.asIns {m : Mem} {C : Str} {d : D} {ds : List (Str × D)} {v : V} (l : Le F H) (mr : MemR K mg F H m) (r : Rp K mg F v d) (h : asI C m d = some ds) : ∃ a Ca dx xs, v = .ref a ∧ mg C = some (.ref Ca) ∧ H a = some (.ins Ca dx xs) ∧ RpK K mg F xs ds := by
  unfold asI at h
  split at h
  · split at h
    · rename_i e
      subst e
      cases h
      cases r with
      | obj hm hf rk => exact ⟨_, _, _, _, rfl, hm, l.ins hf, rk⟩
    · cases h
  · rename_i p
    obtain rfl := r.refI
    cases q : m p with
    | none => rw [q] at h; cases h
    | some o =>
      rw [q] at h
      cases o with
      | ins C' fs =>
        unfold insO at h
        dsimp only at h
        split at h
        · rename_i e
          subst e
          cases h
          obtain ⟨_, Ca, dx, xs, h1, h2, h3⟩ := mr p _ q
          exact ⟨p, Ca, dx, xs, rfl, h1, h2, h3⟩
        · cases h
      | _ => cases h
  · cases h
def putFD (f : Str) (v : D) : List (Str × D) → List (Str × D)
  | [] => [(f, v)]
  | (g, x) :: r => if g = f then (g, v) :: r else (g, x) :: putFD f v r
theorem RpK.putF {f : Str} {u : V} {d : D} (ru : Rp K mg F u d) : ∀ {xs : List (Str × V)} {ds : List (Str × D)}, RpK K mg F xs ds → RpK K mg F (L2.putF f u xs) (putFD f d ds)
  | _, _, .nil => .cons ru .nil
  | _, _, .cons (k := g) r s => by
    show RpK K mg F (if g = f then _ else _) (if g = f then _ else _)
    split
    · exact .cons ru s
    · exact .cons r (RpK.putF ru s)
end
section
variable {X : Cx} {W : WX} {pos pos' : Pos}
/-- o.f -/
@[reducible] def vFld (C f : Str) (a : VE) : VE := fun s m k x => a s m (fun d m1 => onO (asI C m1 d) fun fs => onO (fs.lookup f) fun v => k v m1) x
theorem je_fld {C f : Str} {fl : List Str} {e : Expr} {ve : VE} (c : ClN X.K X.mg C fl) (hf : f ∈ fl) (he : JE X W e ve) (hb : attributeBase e f X.env (eval e X.env) = eval e X.env := by rfl) : JE X W (.Attribute e f pos) (vFld C f ve) := by
  obtain ⟨Ca, h1, h2, h3⟩ := c.ex; obtain ⟨t, p, s1⟩ := he
  refine ⟨_, pe_fld p hb, fun σ F H s m k x l en hv hx Q q => s1 σ F H s m _ x l en hv hx _ fun v d F1 H1 m1 t1 r1 k1 => ?_⟩
  obtain ⟨fs, e1, k1⟩ := onO_of k1
  obtain ⟨z, e2, k1⟩ := onO_of k1
  obtain ⟨a, Ca', dx, xs, rfl, hm, hH, rk⟩ := r1.asIns t1.le t1.mr e1
  rw [h1] at hm
  cases hm
  obtain ⟨u, e3, r3⟩ := rk.lookup e2
  exact ⟨a, Ca, dx, xs, u, rfl, hH, h2, h3 f hf, e3, q _ _ F1 H1 m1 t1 r3 k1⟩
/-- an instance of the memory -/
def onIo (C : Str) : Option MO → (List (Str × D) → Prop) → Prop
  | some (.ins C' fs), k => C' = C ∧ k fs
  | _, _ => False
def onI (C : Str) : Mem → D → (Addr → List (Str × D) → Prop) → Prop
  | m, .ref p, k => onIo C (m p) (k p)
  | _, _, _ => False
theorem onI_of {C : Str} {m : Mem} {d : D} {k : Addr → List (Str × D) → Prop} (h : onI C m d k) : ∃ p fs, d = .ref p ∧ m p = some (.ins C fs) ∧ k p fs := by
  cases d with
  | ref p =>
    have h : onIo C (m p) (k p) := h
    cases hm : m p with
    | none => rw [hm] at h; exact h.elim
    | some o =>
      rw [hm] at h
      cases o with
      | ins C' fs => obtain ⟨e, h2⟩ := (show C' = C ∧ k p fs from h); subst e; exact ⟨p, fs, rfl, hm, h2⟩
      | _ => exact h.elim
  | _ => exact h.elim
/-- o.f = e -/
@[reducible] def vSetF (C f : Str) (o a : VE) : VS := fun s m G => a s m (fun e m1 => o s m1 (fun d m2 => onI C m2 d fun p fs => fs.length < 1000 ∧ G.nx s (mset m2 p (.ins C (putFD f e fs)))) fun e m' => G.ex e s m') fun e m' => G.ex e s m'
theorem js_fld {C f : Str} {fl : List Str} {o e : Expr} {vo ve : VE} (c : ClN X.K X.mg C fl) (hf : f ∈ fl) (he : JE X W e ve) (ho : JE X W o vo) (hs : swapsWith e (some (.Attribute o f pos')) pos.line X.env = pure false := by rfl) : JS X W (.Assign [.Attribute o f pos'] e pos) (vSetF C f vo ve) := by
  obtain ⟨Ca, h1, h2, h3⟩ := c.ex; obtain ⟨t, p1, s1⟩ := he; obtain ⟨to, p2, s2⟩ := ho
  refine ⟨_, ps_fld p2 p1 hs, fun σ F H s m G l en h E L => s1 σ F H s m _ _ l en h (L.x en) _ fun v d F1 H1 m1 t1 r1 k1 => s2 σ F1 H1 s m1 _ _ t1.le (en.stm t1) k1 ((L.x en).after t1) _ fun w d' F2 H2 m2 t2 r2 k2 => ?_⟩
  obtain ⟨p, fs, rfl, hm, hz, k2⟩ := onI_of k2
  obtain ⟨_, Ca', dx, xs, e1, e2, rk⟩ := t2.mr p _ hm
  rw [h1] at e1
  cases e1
  have st := t1.trans t2
  have sp := StM.put (o := .ins Ca dx (putF f v xs)) t2.le t2.mr hm rfl (u := .ins C (putFD f d fs)) ⟨Ca, dx, _, h1, upd_same, rk.putF (r1.mono t2.gr)⟩
  exact ⟨p, Ca, dx, xs, r2.refI, e2, h2, h3 f hf, by rw [rk.len]; exact hz, L.nx σ s F2 _ _ (st.trans sp) (en.stm (st.trans sp)) k2⟩
/-! methods -/
structure Mt0 (P : Program) (w : World) (K : PySem.W.Frag) (mg : Str → Option Value) (base : Heap) (C mt : Str) (k : Nat) (φ : P0) : Prop where
  ex : ∃ Ca f, mg C = some (.ref Ca) ∧ Cls K Ca ∧ Meth K Ca mt f ∧ FnR P w K mg base CX0 k f (Sp0 K mg φ)
structure MtX (P : Program) (w : World) (K : PySem.W.Frag) (mg : Str → Option Value) (base : Heap) (C mt : Str) (k : Nat) (φ : PX) : Prop where
  ex : ∃ Ca f, mg C = some (.ref Ca) ∧ Cls K Ca ∧ Meth K Ca mt f ∧ FnR P w K mg base (L2.CX P w) k f (SpX K mg φ)
structure Mk0C (P : Program) (w : World) (K : PySem.W.Frag) (mg : Str → Option Value) (base : Heap) (C : Str) (k : Nat) (φ : P0) : Prop where
  ex : ∃ Ca f, mg C = some (.ref Ca) ∧ L2.Mk K Ca f ∧ FnR P w K mg base CX0 k f (Sp0 K mg φ)
structure MkXC (P : Program) (w : World) (K : PySem.W.Frag) (mg : Str → Option Value) (base : Heap) (C : Str) (k : Nat) (φ : PX) : Prop where
  ex : ∃ Ca f, mg C = some (.ref Ca) ∧ L2.Mk K Ca f ∧ FnR P w K mg base (L2.CX P w) k f (SpX K mg φ)
def tMethW (C : Addr) (m : Str) (sp : Sp) (E : L2.St → XK) (ta : TE) (t : TA) : TE := fun σ H Q => ta σ H fun x H1 => ∃ a dx fs, x = .ref a ∧ H1 a = some (.ins C dx fs) ∧ fs.lookup m = none ∧ t σ H1 fun vs H2 => sp (x :: vs) H2 Q (E σ)
section
variable {CX : CXT} {k : Nat} {C f : Addr} {m : Str} {sp : Sp} {E : L2.St → XK} {o e : Expr} {es : List Expr} {ta : TE} {t : TA} {apos : Pos} {pl : Sem Bool}
theorem pe_methW (he : PE X o ta) (c : Cls X.K C) (hm : Meth X.K C m f) (F : FnR X.prog X.w X.K X.mg X.base CX k f sp) (hr : Room k X.A) (hx : ∀ σ, PassesAt CX X σ (E σ)) (ha : PA X (e :: es) t)
    (hst : starEach (e :: es) X.env = (false, eval e X.env) :: starEach es X.env := by rfl) (hpl : (backTo pos (starEach es X.env)).any (·.1) = false := by rfl)
    (ht : eval (.Call (.Attribute o m apos) (e :: es) [] pos) X.env = (do
      let ov ← eval o X.env
      standAt apos.atName
      let (f, first) ← holding [ov] (getMethod ov m pl)
      callWith pos f first (backTo pos (starEach (e :: es) X.env)) (backToKw pos (keywordEach [] X.env))) := by rfl) :
    PE X (.Call (.Attribute o m apos) (e :: es) [] pos) (tMethW C m sp E ta t) := by
  refine ⟨fun pins s σ H Q I h => ?_⟩
  refine PySem.W.methodCall_KW (pl := pl) (thn (he.run pins s σ H _ I h) fun u s1 ⟨x, H1, I1, rx, a, dx, fs, ex, ea, l, q⟩ => ?_) ht
  subst ex
  obtain rfl : u = Value.ref a := rx
  refine getmeth_ok I1 ea c hm l ?_
  refine PySem.W.callWith_K (first := [.ref a]) (h₀ := X.base) I.ok.mod.kin hm.kp (thn (ha.run pos pins s1 σ H1 _ I1 q) fun us s2 ⟨vs, H2, I2, r, q2⟩ => ⟨I2.kIn, ?_⟩) hst hpl
  exact run_Fn (us := .ref a :: us) (vs := .ref a :: vs) F hr (hx σ) I2 (.cons rfl r) q2
theorem pe_methW0 (he : PE X o ta) (c : Cls X.K C) (hm : Meth X.K C m f) (F : FnR X.prog X.w X.K X.mg X.base CX k f sp) (hr : Room k X.A) (hx : ∀ σ, PassesAt CX X σ (E σ))
    (ht : eval (.Call (.Attribute o m apos) [] [] pos) X.env = (do
      let ov ← eval o X.env
      standAt apos.atName
      let (f, first) ← holding [ov] (getMethod ov m pl)
      callWith pos f first (backTo pos (starEach [] X.env)) (backToKw pos (keywordEach [] X.env))) := by rfl) :
    PE X (.Call (.Attribute o m apos) [] [] pos) (tMethW C m sp E ta tNil) := by
  refine ⟨fun pins s σ H Q I h => ?_⟩
  refine PySem.W.methodCall_KW (pl := pl) (thn (he.run pins s σ H _ I h) fun u s1 ⟨x, H1, I1, rx, a, dx, fs, ex, ea, l, q⟩ => ?_) ht
  subst ex
  obtain rfl : u = Value.ref a := rx
  refine getmeth_ok I1 ea c hm l ?_
  exact PySem.W.callWith_K0 (first := [.ref a]) I1.kIn hm.kp (run_Fn (us := [.ref a]) (vs := [.ref a]) F hr (hx σ) I1 (.cons rfl .nil) q)
end
/-- o.m(..) of an instance of C -/
@[reducible] def vMeth (C mt : Str) (φ : P0) (o : VE) (a : VA) : VE := fun s m k x => o s m (fun d m1 => onO (asI C m1 d) fun fs => fs.lookup mt = none ∧ a s m1 (fun ds m2 => φ (d :: ds) m2 k) x) x
@[reducible] def vMethX (C mt : Str) (φ : PX) (o : VE) (a : VA) : VE := fun s m k x => o s m (fun d m1 => onO (asI C m1 d) fun fs => fs.lookup mt = none ∧ a s m1 (fun ds m2 => φ (d :: ds) m2 k x) x) x
theorem snd_meth {C mt : Str} {Ca : Addr} {φ : P0} {to : TE} {ta : TA} {vo : VE} {va : VA} (h1 : X.mg C = some (.ref Ca)) (s1 : SndE X.K X.mg W to vo) (s2 : SndA X.K X.mg W ta va) : SndE X.K X.mg W (tMethW Ca mt (Sp0 X.K X.mg φ) (fun _ => E0) to ta) (vMeth C mt φ vo va) := fun σ F H s m k x l en hv hx Q q => s1 σ F H s m _ x l en hv hx _ fun v d F1 H1 m1 t1 r1 k1 => by
  obtain ⟨fs, e1, e2, k1⟩ := onO_of k1
  obtain ⟨a, Ca', dx, xs, rfl, hm, hH, rk⟩ := r1.asIns t1.le t1.mr e1
  rw [h1] at hm
  cases hm
  refine ⟨a, dx, xs, rfl, hH, rk.lookupN e2, s2 σ F1 H1 s m1 _ x t1.le (en.stm t1) k1 (hx.after t1) _ fun us ds F2 H2 m2 t2 r2 k2 => ?_⟩
  exact ⟨F2, d :: ds, m2, k, t2.le, .cons (r1.mono t2.gr) r2, t2.mr, k2, fun v d F' H' m' st r hk => q v d F' H' m' ((t1.trans t2).trans st) r hk⟩
theorem snd_methX {C mt : Str} {Ca : Addr} {φ : PX} {to : TE} {ta : TA} {vo : VE} {va : VA} (h1 : X.mg C = some (.ref Ca)) (s1 : SndE X.K X.mg W to vo) (s2 : SndA X.K X.mg W ta va) : SndE X.K X.mg W (tMethW Ca mt (SpX X.K X.mg φ) (WE W) to ta) (vMethX C mt φ vo va) := fun σ F H s m k x l en hv hx Q q => s1 σ F H s m _ x l en hv hx _ fun v d F1 H1 m1 t1 r1 k1 => by
  obtain ⟨fs, e1, e2, k1⟩ := onO_of k1
  obtain ⟨a, Ca', dx, xs, rfl, hm, hH, rk⟩ := r1.asIns t1.le t1.mr e1
  rw [h1] at hm
  cases hm
  refine ⟨a, dx, xs, rfl, hH, rk.lookupN e2, s2 σ F1 H1 s m1 _ x t1.le (en.stm t1) k1 (hx.after t1) _ fun us ds F2 H2 m2 t2 r2 k2 => ?_⟩
  exact ⟨F2, d :: ds, m2, k, x, t2.le, .cons (r1.mono t2.gr) r2, t2.mr, k2, fun v d F' H' m' st r hk => q v d F' H' m' ((t1.trans t2).trans st) r hk, fun cls dd e F' H' m' st r hk => hx cls dd e F' H' m' ((t1.trans t2).trans st) r hk⟩
theorem sndA_nil : SndA X.K X.mg W tNil vNil := fun σ F H s m k x l en hv _ Q q => q [] [] F H m (StM.refl l en.mem) .nil hv
theorem je_meth {C mt : Str} {k : Nat} {φ : P0} {o e : Expr} {es : List Expr} {vo : VE} {va : VA} {apos : Pos} {pl : Sem Bool} (G : Mt0 X.prog X.w X.K X.mg X.base C mt k φ) (hr : Room k X.A) (ho : JE X W o vo) (ha : JA X W (e :: es) va)
    (hst : starEach (e :: es) X.env = (false, eval e X.env) :: starEach es X.env := by rfl) (hpl : (backTo pos (starEach es X.env)).any (·.1) = false := by rfl)
    (ht : eval (.Call (.Attribute o mt apos) (e :: es) [] pos) X.env = (do
      let ov ← eval o X.env
      standAt apos.atName
      let (f, first) ← holding [ov] (getMethod ov mt pl)
      callWith pos f first (backTo pos (starEach (e :: es) X.env)) (backToKw pos (keywordEach [] X.env))) := by rfl) :
    JE X W (.Call (.Attribute o mt apos) (e :: es) [] pos) (vMeth C mt φ vo va) := by
  obtain ⟨Ca, f, h1, h2, h3, h4⟩ := G.ex; obtain ⟨to, p1, s1⟩ := ho; obtain ⟨ta, p2, s2⟩ := ha
  exact ⟨_, pe_methW p1 h2 h3 h4 hr (fun _ => passAt0) p2 hst hpl ht, snd_meth h1 s1 s2⟩
theorem je_meth0 {C mt : Str} {k : Nat} {φ : P0} {o : Expr} {vo : VE} {apos : Pos} {pl : Sem Bool} (G : Mt0 X.prog X.w X.K X.mg X.base C mt k φ) (hr : Room k X.A) (ho : JE X W o vo)
    (ht : eval (.Call (.Attribute o mt apos) [] [] pos) X.env = (do
      let ov ← eval o X.env
      standAt apos.atName
      let (f, first) ← holding [ov] (getMethod ov mt pl)
      callWith pos f first (backTo pos (starEach [] X.env)) (backToKw pos (keywordEach [] X.env))) := by rfl) :
    JE X W (.Call (.Attribute o mt apos) [] [] pos) (vMeth C mt φ vo vNil) := by
  obtain ⟨Ca, f, h1, h2, h3, h4⟩ := G.ex; obtain ⟨to, p1, s1⟩ := ho
  exact ⟨_, pe_methW0 p1 h2 h3 h4 hr (fun _ => passAt0) ht, snd_meth h1 s1 sndA_nil⟩
theorem je_methX0 {C mt : Str} {k : Nat} {φ : PX} {o : Expr} {vo : VE} {apos : Pos} {pl : Sem Bool} (tk : Takes X W) (G : MtX X.prog X.w X.K X.mg X.base C mt k φ) (hr : Room k X.A) (ho : JE X W o vo)
    (ht : eval (.Call (.Attribute o mt apos) [] [] pos) X.env = (do
      let ov ← eval o X.env
      standAt apos.atName
      let (f, first) ← holding [ov] (getMethod ov mt pl)
      callWith pos f first (backTo pos (starEach [] X.env)) (backToKw pos (keywordEach [] X.env))) := by rfl) :
    JE X W (.Call (.Attribute o mt apos) [] [] pos) (vMethX C mt φ vo vNil) := by
  obtain ⟨Ca, f, h1, h2, h3, h4⟩ := G.ex; obtain ⟨to, p1, s1⟩ := ho
  exact ⟨_, pe_methW0 p1 h2 h3 h4 hr (fun σ => passAt tk σ) ht, snd_methX h1 s1 sndA_nil⟩
/-! making -/
section
variable {CX : CXT} {k : Nat} {C f : Addr} {sp : Sp} {E : L2.St → XK}
theorem run_mk {pins : List (Addr × Obj)} {σ : L2.St} {H : Hp} {s : Shared} {Q : VK} {us : List Value} {vs : List V} (M : L2.Mk X.K C f) (F : FnR X.prog X.w X.K X.mg X.base CX k f sp) (hr : Room (k + 1) X.A) (hx : PassesAt CX X σ (E σ)) (I : Inv X pins σ H s) (r : Vals vs us)
    (h : ∀ x dx, H x = none → H dx = none → dx ≠ x → sp (.ref x :: vs) (upd (upd H dx (.own x)) x (.ins C dx [])) (fun v H2 => v = .non ∧ Q (.ref x) H2) (E σ)) :
    wpAny (model X.prog X.w) X.A (call (.ref C) us) (EP X pins σ Q) X.xe s := by
  have hq := h (s.heap.objs.size + 1) s.heap.objs.size (I.hok.fresh (Nat.le_succ _)) (I.hok.fresh (Nat.le_refl _)) (Nat.ne_of_lt (Nat.lt_succ_self _))
  have I2 := Inv.made (C := C) I
  have r2 : Vals (V.ref (s.heap.objs.size + 1) :: vs) (Value.ref (s.heap.objs.size + 1) :: us) := .cons rfl r
  refine wpAny_call (make_map (f := f) I.kIn M.makes M.init (beq_iff_eq.mp M.fn) (codeAny_mono (F _ X.stack _ _ (Value.ref (s.heap.objs.size + 1) :: us) _ _ (E σ) (hr.make C us []) (I2.env0.make C us []) r2 hq) fun r s' hq' => ?_))
  cases r with
  | error e => exact hx pins _ _ e s' I2 hq'
  | ok fl =>
    cases fl with
    | ret u =>
      obtain ⟨v, H', I3, rv, ev, q3⟩ := I2.after hq'
      subst ev
      exact ⟨rv, ⟨V.ref (s.heap.objs.size + 1), H', I3, rfl, q3⟩⟩
    | next => exact False.elim hq'
    | brk => exact False.elim hq'
    | cont => exact False.elim hq'
def tMakeW (C : Addr) (sp : Sp) (E : L2.St → XK) (t : TA) : TE := fun σ H Q => t σ H fun vs H1 => ∀ x dx, H1 x = none → H1 dx = none → dx ≠ x → sp (.ref x :: vs) (upd (upd H1 dx (.own x)) x (.ins C dx [])) (fun v H2 => v = .non ∧ Q (.ref x) H2) (E σ)
theorem pe_mkW {x : Str} {e : Expr} {es : List Expr} {t : TA} {p : Pos} (M : L2.Mk X.K C f) (F : FnR X.prog X.w X.K X.mg X.base CX k f sp) (hr : Room (k + 1) X.A) (hx : ∀ σ, PassesAt CX X σ (E σ)) (hg : Gl X x) (hm : X.mg x = some (.ref C)) (ha : PA X (e :: es) t)
    (hdb : (x == ("__debug__" : Str)) = false := by decide) (he : starEach (e :: es) X.env = (false, eval e X.env) :: starEach es X.env := by rfl) (hpl : (backTo pos (starEach es X.env)).any (·.1) = false := by rfl) : PE X (.Call (.Name x p) (e :: es) [] pos) (tMakeW C sp E t) := by
  refine ⟨fun pins s σ H Q I h => ?_⟩
  refine wpAny_Call_Name_kw (ld_glob I hg hm ?_ hdb)
  refine PySem.W.callWith_K (h₀ := X.base) I.ok.mod.kin M.kp (thn (ha.run pos pins s σ H _ I h) fun us s1 ⟨vs, H1, I1, r, q⟩ => ⟨I1.kIn, ?_⟩) he hpl
  exact run_mk M F hr (hx σ) I1 r q
end
/-- the step that lays a new instance -/
theorem StM.ins {K : PySem.W.Frag} {mg : Str → Option Value} {F H : Hp} {m : Mem} {C : Str} {Ca p dx : Addr} (l : Le F H) (mr : MemR K mg F H m) (hp : H p = none) (hd : H dx = none) (ne : dx ≠ p) (hm : mg C = some (.ref Ca)) :
    StM K mg m F H F (upd (upd H dx (.own p)) p (.ins Ca dx [])) (mset m p (.ins C [])) := by
  have s0 : StM K mg m F H F (upd H dx (.own p)) m := (StM.refl l mr).side hd (l.none hd) (mr.free hd)
  have hp2 : upd H dx (.own p) p = none := by rw [upd_ne (Ne.symm ne)]; exact hp
  exact s0.trans (StM.new s0.le s0.mr hp2 (u := .ins C []) ⟨Ca, dx, [], hm, upd_same, .nil⟩)
/-- C(..) -/
@[reducible] def vMake (C : Str) (φ : P0) (a : VA) : VE := fun s m k x => a s m (fun ds m1 => ∀ p, m1 p = none → φ (.ref p :: ds) (mset m1 p (.ins C [])) fun d m2 => d = .non ∧ k (.ref p) m2) x
@[reducible] def vMakeX (C : Str) (φ : PX) (a : VA) : VE := fun s m k x => a s m (fun ds m1 => ∀ p, m1 p = none → φ (.ref p :: ds) (mset m1 p (.ins C [])) (fun d m2 => d = .non ∧ k (.ref p) m2) x) x
theorem rp_non {K : PySem.W.Frag} {mg : Str → Option Value} {F : Hp} {v : V} (r : Rp K mg F v .non) : v = .non := by cases r; rfl
theorem je_makeX {C : Str} {k : Nat} {φ : PX} {e : Expr} {es : List Expr} {va : VA} {p : Pos} (tk : Takes X W) (G : MkXC X.prog X.w X.K X.mg X.base C k φ) (hr : Room (k + 1) X.A) (hg : Gl X C) (ha : JA X W (e :: es) va)
    (hdb : (C == ("__debug__" : Str)) = false := by decide) (he : starEach (e :: es) X.env = (false, eval e X.env) :: starEach es X.env := by rfl) (hpl : (backTo pos (starEach es X.env)).any (·.1) = false := by rfl) : JE X W (.Call (.Name C p) (e :: es) [] pos) (vMakeX C φ va) := by
  obtain ⟨Ca, f, h1, h2, h3⟩ := G.ex; obtain ⟨ta, p1, s1⟩ := ha
  refine ⟨_, pe_mkW h2 h3 hr (fun σ => passAt tk σ) hg h1 p1 hdb he hpl, fun σ F H s m k x l en hv hx Q q => s1 σ F H s m _ x l en hv hx _ fun us ds F1 H1 m1 t1 r1 k1 a dx ha hd ne => ?_⟩
  have si := StM.ins t1.le t1.mr ha hd ne h1
  exact ⟨F1, .ref a :: ds, _, _, x, si.le, .cons (.ref a) r1, si.mr, k1 a (t1.mr.free ha), fun v d F' H' m' st r ⟨hd, hk⟩ => by subst hd; exact ⟨rp_non r, q _ _ F' H' m' ((t1.trans si).trans st) (.ref a) hk⟩, fun cls dd e F' H' m' st r hk => hx cls dd e F' H' m' ((t1.trans si).trans st) r hk⟩
end
section
variable {P : Program} {w : World} {K : PySem.W.Frag} {mg : Str → Option Value} {base : Heap} {C mt : Str} {k : Nat} {Ca f : Addr} {fd : FuncData} {ps : List Str}
theorem Mt0.mk1 {φ : P0} (hm : mg C = some (.ref Ca)) (c : Cls K Ca) (hf : Meth K Ca mt f) (b : Binds K fd ps []) (F : FnOk P w K mg base CX0 k f fd ps (Sp0 K mg φ)) : Mt0 P w K mg base C mt k φ :=
  ⟨Ca, f, hm, c, hf, (F.raw b .nil).imp fun vs H Q E h => by rw [List.append_nil]; exact h⟩
theorem MtX.mk1 {φ : PX} (hm : mg C = some (.ref Ca)) (c : Cls K Ca) (hf : Meth K Ca mt f) (b : Binds K fd ps []) (F : FnOk P w K mg base (L2.CX P w) k f fd ps (SpX K mg φ)) : MtX P w K mg base C mt k φ :=
  ⟨Ca, f, hm, c, hf, (F.raw b .nil).imp fun vs H Q E h => by rw [List.append_nil]; exact h⟩
theorem Mk0C.mk1 {φ : P0} (hm : mg C = some (.ref Ca)) (M : L2.Mk K Ca f) (b : Binds K fd ps []) (F : FnOk P w K mg base CX0 k f fd ps (Sp0 K mg φ)) : Mk0C P w K mg base C k φ :=
  ⟨Ca, f, hm, M, (F.raw b .nil).imp fun vs H Q E h => by rw [List.append_nil]; exact h⟩
theorem MkXC.mk1 {φ : PX} (hm : mg C = some (.ref Ca)) (M : L2.Mk K Ca f) (b : Binds K fd ps []) (F : FnOk P w K mg base (L2.CX P w) k f fd ps (SpX K mg φ)) : MkXC P w K mg base C k φ :=
  ⟨Ca, f, hm, M, (F.raw b .nil).imp fun vs H Q E h => by rw [List.append_nil]; exact h⟩
/-- C(k = e, ..): all but self by keywords, in the parameters' order -/
structure MkKC (P : Program) (w : World) (K : PySem.W.Frag) (mg : Str → Option Value) (base : Heap) (C : Str) (k : Nat) (ks : List Str) (φ : PX) : Prop where
  ex : ∃ Ca f, mg C = some (.ref Ca) ∧ L2.Mk K Ca f ∧ ∀ (A : Around) (outer : List Env) (s : Shared) (H : Hp) (a : Addr) (ws : List Value) (zs : List V) (Q : VK) (E : XK), Room k A → Env0 P w K mg base A outer s H → Vals zs ws → zs.length = ks.length → SpX K mg φ (.ref a :: zs) H Q E →
    codeAny (model P w) A (.call (.ref f) ⟨[.ref a], ks.zip ws⟩) (CR (L2.CX P w) outer P w H s Q E) s
theorem MkKC.mk1 {φ : PX} {ks : List Str} (hm : mg C = some (.ref Ca)) (M : L2.Mk K Ca f) (F : FnOk P w K mg base (L2.CX P w) k f fd ps (SpX K mg φ)) (hb : ∀ (s : Shared) (u : Value) (ws : List Value), K.In s.heap → ws.length = ks.length → BindsTo s fd ⟨[u], ks.zip ws⟩ (ps.zip (u :: ws))) : MkKC P w K mg base C k ks φ :=
  ⟨Ca, f, hm, M, fun A outer s H a ws zs Q E hr e0 r hl hsp => F.run A outer s H ⟨[.ref a], ks.zip ws⟩ (.ref a :: ws) (.ref a :: zs) Q E hr e0 (hb s _ ws (e0.mod.kin.keeps fun b o e => (e0.bs b o e).1) (r.length.symm.trans hl)) (.cons rfl r) hsp⟩
end
section
variable {X : Cx} {W : WX} {pos : Pos}
@[reducible] def vMakeK (C : Str) (n : Nat) (φ : PX) (a : VA) : VE := fun s m k x => a s m (fun ds m1 => ds.length = n ∧ ∀ p, m1 p = none → φ (.ref p :: ds) (mset m1 p (.ins C [])) (fun d m2 => d = .non ∧ k (.ref p) m2) x) x
theorem je_makeK {C : Str} {k : Nat} {ks : List Str} {φ : PX} {kws : List Keyword} {vs : VA} {p : Pos} (tk : Takes X W) (G : MkKC X.prog X.w X.K X.mg X.base C k ks φ) (hr : Room (k + 1) X.A) (hg : Gl X C) (hkw : JK X W kws vs) (hall : (backToKw pos (keywordEach kws X.env)).all (·.1.isSome) = true := by rfl) (hks : (backToKw pos (keywordEach kws X.env)).filterMap (·.1) = ks := by rfl)
    (hdb : (C == ("__debug__" : Str)) = false := by decide) (hpl : ((backTo pos (starEach [] X.env)).any (·.1) || (backToKw pos (keywordEach kws X.env)).any (·.1.isNone)) = false := by rfl) :
    JE X W (.Call (.Name C p) [] kws pos) (vMakeK C ks.length φ vs) := by
  obtain ⟨Ca, f, h1, M, run⟩ := G.ex; obtain ⟨ta, p1, s1⟩ := hkw
  refine ⟨fun σ H Q => ta σ H fun zs H1 => zs.length = ks.length ∧ ∀ x dx, H1 x = none → H1 dx = none → dx ≠ x → SpX X.K X.mg φ (.ref x :: zs) (upd (upd H1 dx (.own x)) x (.ins Ca dx [])) (fun v H2 => v = .non ∧ Q (.ref x) H2) (WE W σ), ⟨fun pins s σ H Q I h => ?_⟩, fun σ F H s m k x l en hv hx Q q => s1 σ F H s m _ x l en hv hx _ fun us ds F1 H1 m1 t1 r1 ⟨hn, k1⟩ => ⟨by rw [r1.len]; exact hn, fun a dx ha hd ne => ?_⟩⟩
  · refine wpAny_Call_Name_kw (ld_glob I hg h1 ?_ hdb)
    refine PySem.W.callWith_KW0 (h₀ := X.base) I.ok.mod.kin M.kp hall (thn (p1.run pos pins s σ H _ I h) fun ws s1 ⟨zs, H1, I1, r, hl, q⟩ => ⟨I1.kIn, ?_⟩) hpl
    rw [hks]
    have hq := q (s1.heap.objs.size + 1) s1.heap.objs.size (I1.hok.fresh (Nat.le_succ _)) (I1.hok.fresh (Nat.le_refl _)) (Nat.ne_of_lt (Nat.lt_succ_self _))
    have I2 := Inv.made (C := Ca) I1
    refine wpAny_call (make_map (f := f) I1.kIn M.makes M.init (beq_iff_eq.mp M.fn) (codeAny_mono (run _ X.stack _ _ (s1.heap.objs.size + 1) ws zs _ (WE W σ) (hr.make Ca [] (ks.zip ws)) (I2.env0.make Ca [] (ks.zip ws)) r hl hq) fun r s' hq' => ?_))
    cases r with
    | error e => exact passAt tk σ pins _ _ e s' I2 hq'
    | ok fl =>
      cases fl with
      | ret u =>
        obtain ⟨v, H', I3, rv, ev, q3⟩ := I2.after hq'
        subst ev
        exact ⟨rv, ⟨V.ref (s1.heap.objs.size + 1), H', I3, rfl, q3⟩⟩
      | next => exact False.elim hq'
      | brk => exact False.elim hq'
      | cont => exact False.elim hq'
  · have si := StM.ins t1.le t1.mr ha hd ne h1
    exact ⟨F1, .ref a :: ds, _, _, x, si.le, .cons (.ref a) r1, si.mr, k1 a (t1.mr.free ha), fun v d F' H' m' st r ⟨hd, hk⟩ => by subst hd; exact ⟨rp_non r, q _ _ F' H' m' ((t1.trans si).trans st) (.ref a) hk⟩, fun cls dd e F' H' m' st r hk => hx cls dd e F' H' m' ((t1.trans si).trans st) r hk⟩
end
end Ts
/-! ### enumerate of a tuple, of a list of the memory -/
namespace Ts
open PySem PySem.Spec PyProof.Rows L2
open AutoSeq1 (wpAny_loadPart')
theorem meets_enumT (l : Addr) (items : Array Value) (n : Nat) (dct : Option Addr) (sl : Array (Option Value)) :
    Meets (Builtin.«enumerate.__new__» ⟨[.type "enumerate", .ref l], []⟩) (fun _ R s => s.heap.get? l = some { cls := .type "tuple", dict := dct, data := .seq items n, slots := sl } ∧
      R (.ok (.ret (.ref (s.heap.push { cls := .type "tuple_iterator", data := .fields #[.ref l, .int 0 0] }).objs.size)))
        { s with heap := (s.heap.push { cls := .type "tuple_iterator", data := .fields #[.ref l, .int 0 0] }).push { cls := .type "enumerate", data := .fields #[.none, .bool false, .ref s.heap.objs.size, rawInt 0, .none, .none] } }) :=
  .of_wp fun prog w A R s h => by
    obtain ⟨hp, g, d, tk, os⟩ := s; obtain ⟨hl, h⟩ := h
    have hsub := sub_enumerate
    have hL : Heap.IsTuple (Shared.heap ⟨hp, g, d, tk, os⟩) l items := ⟨_, hl, rfl, n, rfl⟩
    wp_walk using wpAny_loadPart' hl
    refine wpAny_stack_any fun st => wpAny_pure ?_
    split
    · rename_i c _ _ _ _ _
      cases (c == Value.type "enumerate")
      · wp_walk using wpAny_loadPart' hl, wpAny_pyIter_tuple hL
        exact ⟨_, rfl, h⟩
      · wp_walk using wpAny_loadPart' hl, wpAny_pyIter_tuple hL
        exact ⟨_, rfl, h⟩
    · wp_walk using wpAny_loadPart' hl, wpAny_pyIter_tuple hL
      exact ⟨_, rfl, h⟩
section
variable {prog : Program} {w : World} {A : Around} {E : Value → Shared → Prop} {s : Shared}
theorem call_enumT {l : Addr} {items : Array Value} {Q : Value → Shared → Prop} (hL : s.heap.IsTuple l items)
    (h : ∀ h', IsEnum h' (s.heap.objs.size + 1) s.heap.objs.size 0 .none → h'.IsTupleIter s.heap.objs.size l 0 → h'.objs.size = s.heap.objs.size + 2 →
      (∀ b o, s.heap.get? b = some o → h'.get? b = some o) → Q (.ref (s.heap.objs.size + 1)) { s with heap := h' }) :
    wpAny (model prog w) A (call (.type "enumerate") [.ref l]) Q E s := by
  obtain ⟨⟨c, dct, dt, sl⟩, hl, hc, n, hd⟩ := hL
  replace hc : c = .type "tuple" := hc
  replace hd : dt = .seq items n := hd
  subst hc hd
  refine callType_new F.called_enumerate (by decide) (F.typeCall_enumerate_1 _) (F.newCall_enumerate_1 _) (fun obj => F.args_object_init_2 obj _) F.entry_enumerate_new
    (meets_enumT l items n dct sl) ⟨hl, ?_⟩
  have hz : (s.heap.push { cls := .type "tuple_iterator", data := .fields #[.ref l, .int 0 0] }).objs.size = s.heap.objs.size + 1 := Heap.size_push ..
  show _ ∧ _
  rw [hz]
  have he : IsEnum ((s.heap.push { cls := .type "tuple_iterator", data := .fields #[.ref l, .int 0 0] }).push
      { cls := .type "enumerate", data := .fields #[.none, .bool false, .ref s.heap.objs.size, rawInt 0, .none, .none] }) (s.heap.objs.size + 1) s.heap.objs.size 0 .none := by
    have := Heap.get?_push_size (s.heap.push { cls := .type "tuple_iterator", data := .fields #[.ref l, .int 0 0] })
      (o := { cls := .type "enumerate", data := .fields #[.none, .bool false, .ref s.heap.objs.size, rawInt 0, .none, .none] }) rfl
    rw [hz] at this; exact this
  refine ⟨⟨_, he, rfl⟩, h _ he ⟨_, Heap.get?_push_of_some _ (Heap.get?_push_size _ rfl), rfl, rfl⟩ (by rw [Heap.size_push, hz]) fun b o x => Heap.get?_push_of_some _ (Heap.get?_push_of_some _ x)⟩
theorem next_enumT_end {e it l : Addr} {i : Nat} {items : Array Value} {old : Value} {Q : Option Value → Shared → Prop} (hh : A.handled = none)
    (he : IsEnum s.heap e it i old) (hit : s.heap.IsTupleIter it l i) (hl : s.heap.IsTuple l items) (hx : items[i]? = none)
    (hQ : ∀ h', Heap.ExtBut it s.heap h' → Q none { s with heap := h' }) : wpAny (model prog w) A (pyNext (.ref e)) Q E s := by
  have hT : s.TypeIs (.ref e) "enumerate" := ⟨_, he, rfl⟩
  unfold pyNext
  refine wpAny_bind (wpAny_attempt (wpAny_callSpecial?_slot (name := Str.ofString "__next__") hT F.slot_enumerate_next
    (wpAny_call_entry F.slot_enumerate_next hT F.entry_enumerate_next ?_ (F.args_enumerate_next_1 _))))
  show wpAny _ _ (field (.ref e) 2 >>= _) _ _ _
  refine wpAny_bind (wpAny_field he rfl (x := .ref it) rfl ?_)
  refine wpAny_bind (wpAny_nextOf_tuple_end hh hit hl hx fun h' x he' hx' => ?_)
  obtain ⟨o, ho, hc⟩ := hx'
  refine wpAny_bind (wpAny_isInstance (T := "StopIteration") (b := true) ⟨o, ho, hc⟩ isSubtype_stop ?_)
  exact wpAny_pure (hQ _ he')
end
/-- the tuple at a, each item in a new pair -/
def IteT (K : PySem.W.Frag) (a : Addr) : It :=
  ⟨fun i H => ∃ (xs : List V) (x : V), SqT K H a xs ∧ xs[i]? = some x, fun i H v H' => ∃ T x, v = .ref T ∧ H T = none ∧ H' = upd H T (.tup [.int (i : Nat), x]) ∧ ∀ xs, SqT K H a xs → xs[i]? = some x, fun i H => ∃ xs : List V, SqT K H a xs ∧ xs.length ≤ i⟩
theorem turn_enumT {P : Program} {w : World} {K : PySem.W.Frag} {elts : List Expr} {kk : Nat} {tpos : Pos} (a e it : Addr) :
    Turn P w K (.Tuple elts kk tpos) (IteT K a) [e, it] e (fun i h => (∃ old, IsEnum h e it ((i : Nat) : Int) old) ∧ h.IsTupleIter it a i ∧ e ≠ it) where
  mem := by simp
  obj := fun i h st b hb => by
    obtain ⟨⟨old, he⟩, ⟨o, ho, hc, hd⟩, _⟩ := st
    have e' : b = e ∨ b = it := by simpa using hb
    rcases e' with z | z
    · rw [z]; exact ⟨_, he, fun v q => nomatch q⟩
    · rw [z]; exact ⟨o, ho, fun v q => by rw [hd] at q; cases q⟩
  keep := fun i h h' st k => let ⟨⟨old, he⟩, hi, hne⟩ := st; ⟨⟨old, k e (by simp) _ he⟩, hi.at fun o q => k it (by simp) o q, hne⟩
  item := by
    intro X hP hw hK hc i pins s σ H E I hf st hg
    subst hP hw hK
    obtain ⟨⟨old, he⟩, hit, hne⟩ := st
    obtain ⟨xs, x, hq, hx⟩ := hg
    obtain ⟨its, rv, p, hz⟩ := I.tuple hq
    obtain ⟨u, hu, ru⟩ := rv.get hx
    have hel : e < s.heap.objs.size := Heap.lt_size he
    have hil : it < s.heap.objs.size := by obtain ⟨_, q, _⟩ := hit; exact Heap.lt_size q
    have hp : s.heap.IsTuple a its.toArray := p
    have nTI : a ≠ it := fun z => by
      obtain ⟨o1, q1, c1, _⟩ := hp
      obtain ⟨o2, q2, c2, _⟩ := hit
      rw [z, q2] at q1
      cases q1
      rw [c2] at c1
      exact absurd c1 (by decide)
    have nTE : a ≠ e := fun z => by
      obtain ⟨o1, q1, c1, _⟩ := hp
      rw [z, (show s.heap.get? e = _ from he)] at q1
      cases q1
      exact absurd (show Value.type "enumerate" = Value.type "tuple" from c1) (by decide)
    have hlt : i < its.toArray.size := by
      have := (List.getElem?_eq_some_iff.mp hu).1
      simpa using this
    refine wpAny_pyNext_enum_itemD (Draws.tuple (A := X.A.in1) (I.ok.hd hc) it a nTI its.toArray) he ⟨hit, hp⟩ hlt hne (by simp [hne, Ne.symm nTE]) fun y h' tk hy ho st' hT hsz hk => ?_
    have ey : y = u := by
      have hy : its[i]? = some y := by simpa using hy
      rw [hu] at hy
      exact (Option.some.inj hy).symm
    subst ey
    refine ⟨_, rfl, wpAny_letOwnedTupleGo_enum (s := { s with heap := h', toks := tk + 1 }) ho fun h'' he' sb => ?_⟩
    have hT2 : h''.get? s.heap.objs.size = some { cls := .type "tuple", data := .seq #[.int i tk, y] } := (sb.2 _ (Nat.ne_of_gt hel)).trans hT
    have new : ObjOk X.prog X.w (upd H s.heap.objs.size (.tup [.int (i : Nat), x])) h'' s.heap.objs.size (.tup [.int (i : Nat), x]) :=
      ⟨by show 2 ≤ sizeLine; decide, [.int i tk, y], .cons ⟨_, rfl⟩ (.cons ru .nil), ⟨_, hT2, rfl, _, rfl⟩⟩
    have I1 : Inv X pins σ (upd H s.heap.objs.size (.tup [.int (i : Nat), x])) { s with heap := h'', toks := tk + 1 } :=
      I.turnedNew (ch := [e, it]) (fun b ob hb q => (sb.2 b (fun z => hb (by simp [z]))).trans (hk b ob (fun z => hb (by simp [z])) (fun z => hb (by simp [z])) q)) hf (Nat.le_refl _) new
    refine ⟨.ref s.heap.objs.size, _, I1, rfl, ⟨_, x, rfl, I.hok.fresh (Nat.le_refl _), rfl, fun ys hy => by rw [I.tuple_inj hy hq]; exact hx⟩, ⟨⟨y, ?_⟩, st'.1.at fun o q => (sb.2 it (Ne.symm hne)).trans q, hne⟩, fun b hb => ?_⟩
    · have e1 : ((i + 1 : Nat) : Int) = (i : Int) + 1 := by omega
      rw [e1]; exact he'
    · have hb' : b < s.heap.objs.size := by
        have e' : b = e ∨ b = it := by simpa using hb
        rcases e' with z | z
        · rw [z]; exact hel
        · rw [z]; exact hil
      rw [upd_ne (Nat.ne_of_lt hb')]
      exact (hf b hb).1
  done := by
    intro X hP hw hK hc i pins s σ H E I hf st hg
    subst hP hw hK
    obtain ⟨⟨old, he⟩, hit, hne⟩ := st
    obtain ⟨xs, hq, hx⟩ := hg
    obtain ⟨its, rv, p, hz⟩ := I.tuple hq
    obtain ⟨f0, f1, f2, f3, f4, f5⟩ := hf it (by simp)
    have hl := rv.length
    have hp : s.heap.IsTuple a its.toArray := p
    exact next_enumT_end (I.ok.hd hc) he hit hp (by simp; omega) fun h' eb => ⟨rfl, I.turned (t' := s.toks) (fun b o hb q => eb b o hb q) f0 f1 f3 f4 f5⟩
  self := fun A i s Q E st h => let ⟨⟨_, he⟩, _⟩ := st; wpAny_pyIter_enum he h
def iEnumB (K : PySem.W.Frag) (ta : TA) : TI := fun σ H R => ta σ H fun vs H1 => (∃ a xs, vs = [.ref a] ∧ SqL K H1 a xs ∧ R (Ite K a) H1) ∨ ∃ a xs, vs = [.ref a] ∧ SqT K H1 a xs ∧ R (IteT K a) H1
theorem pi_enumB {X : Cx} {e : Expr} {ta : TA} {p pos tpos : Pos} {elts : List Expr} {kk : Nat} (hg : Gl X "enumerate") (hm : X.mg "enumerate" = none) (ha : PA X [e] ta) (hs : starEach [e] X.env = [(false, eval e X.env)] := by rfl) :
    PI X (.Tuple elts kk tpos) (.Call (.Name "enumerate" p) [e] [] pos) (iEnumB X.K ta) := by
  refine ⟨fun pins s σ H R I h => ?_⟩
  refine Call_ (ld_blt I hg hm boot_enumerate (PyProof.Rows.callWith_type1 (thn (ha.run pos pins s σ H _ I h) fun us s1 ⟨vs, H1, I1, r1, q1⟩ => ?_) hs rfl))
  rcases q1 with ⟨a, xs, ex, hq, q⟩ | ⟨a, xs, ex, hq, q⟩
  · subst ex
    cases r1 with
    | cons r rr =>
      cases rr
      cases r
      obtain ⟨its, rv, p', hz⟩ := I1.list hq
      refine call_enumerate_list p'.isList fun h' he hit hsz hk => wpAny_pyIter_enum he ?_
      have I2 : Inv X pins σ H1 { s1 with heap := h' } := I1.kept (t' := s1.toks) hk
      refine ⟨s1.heap.objs.size + 1, [s1.heap.objs.size + 1, s1.heap.objs.size], _, _, H1, rfl, I2, turn_enum a (s1.heap.objs.size + 1) s1.heap.objs.size, ⟨⟨.none, he⟩, hit, Nat.succ_ne_self _⟩, fun b hb => ?_, q⟩
      have e' : b = s1.heap.objs.size + 1 ∨ b = s1.heap.objs.size := by simpa using hb
      have hle : s1.heap.objs.size ≤ b := by
        rcases e' with z | z
        · rw [z]; exact Nat.le_add_right _ _
        · rw [z]; exact Nat.le_refl _
      exact I1.fpOk hle (I1.hok.fresh hle)
  · subst ex
    cases r1 with
    | cons r rr =>
      cases rr
      cases r
      obtain ⟨its, rv, p', hz⟩ := I1.tuple hq
      refine call_enumT (show s1.heap.IsTuple a its.toArray from p') fun h' he hit hsz hk => wpAny_pyIter_enum he ?_
      have I2 : Inv X pins σ H1 { s1 with heap := h' } := I1.kept (t' := s1.toks) hk
      refine ⟨s1.heap.objs.size + 1, [s1.heap.objs.size + 1, s1.heap.objs.size], _, _, H1, rfl, I2, turn_enumT a (s1.heap.objs.size + 1) s1.heap.objs.size, ⟨⟨.none, he⟩, hit, Nat.succ_ne_self _⟩, fun b hb => ?_, q⟩
      have e' : b = s1.heap.objs.size + 1 ∨ b = s1.heap.objs.size := by simpa using hb
      have hle : s1.heap.objs.size ≤ b := by
        rcases e' with z | z
        · rw [z]; exact Nat.le_add_right _ _
        · rw [z]; exact Nat.le_refl _
      exact I1.fpOk hle (I1.hok.fresh hle)
section
variable {X : Cx} {W : WX} {e : Expr} {vs : VA} {pos p tpos : Pos}
def isTupD : D → Bool
  | .tup _ => true
  | .pr _ => true
  | _ => false
theorem isTupD_of {K : PySem.W.Frag} {mg : Str → Option Value} {F : Hp} {v : V} {d : D} (h : isTupD d = true) (r : Rp K mg F v d) : ∃ ts a xs, (∀ m, itemsOf m d = some ts) ∧ v = .ref a ∧ SqT K F a xs ∧ RpL K mg F xs ts := by
  cases d with
  | tup ts => obtain ⟨a, xs, e, s, l⟩ := r.tupI; exact ⟨ts, a, xs, fun _ => rfl, e, s, l⟩
  | pr ts => obtain ⟨a, xs, e, s, l⟩ := r.prI; exact ⟨ts, a, xs, fun _ => rfl, e, SqT.of s, l⟩
  | _ => cases h
/-- enumerate(x): x a list, frozen or of the memory, or a tuple; dep: it stays -/
def enmD (m : Mem) (ds : List D) (k : List D → (Mem → Prop) → Prop) : Prop := match ds with
  | [d] => onO (itemsOf m d) fun es => k (enumD 0 es) fun m' => itemsOf m' d = some es
  | _ => False
@[reducible] def vEnumM (a : VA) : VI := fun s m k x => a s m (fun ds m' => enmD m' ds fun es dep => k es dep m') x
theorem ji_enum {elts : List Expr} {kk : Nat} (hg : Gl X "enumerate") (hm : X.mg "enumerate" = none) (ha : JA X W [e] vs) (hs : starEach [e] X.env = [(false, eval e X.env)] := by rfl) : JI X W (.Tuple elts kk tpos) (.Call (.Name "enumerate" p) [e] [] pos) (vEnumM vs) := by
  obtain ⟨t, p, s1⟩ := ha
  refine ⟨_, pi_enumB hg hm p hs, fun σ F H s m k x l en hv hx R q => s1 σ F H s m _ x l en hv hx _ fun us ds F1 H1 m1 t1 r1 k1 => ?_⟩
  unfold enmD at k1
  split at k1
  · rename_i d
    obtain ⟨es, h1, k1⟩ := onO_of k1
    obtain ⟨u, rfl, r⟩ := r1.one
    obtain ⟨a, xs, rfl, sq, rl⟩ := r.items t1.le t1.mr h1
    have pairs : ∀ {F' H' : Hp} {T : Addr} {i : Nat} {xs' : List V} {v : V}, Le F' H' → RpL X.K X.mg F' xs' es → xs'[i]? = some v → H' T = none → ∃ d F2, (enumD 0 es)[i]? = some d ∧ Step F' H' F2 (upd H' T (.tup [.int (i : Nat), v])) ∧ Rp X.K X.mg F2 (.ref T) d := fun {F' H' T i xs' v} le rl' hv hT => by
      obtain ⟨d, hd, rd⟩ := rl'.atV hv
      obtain ⟨s, r⟩ := pair_step (dx := .int (i : Int)) le hT (.int _) rd
      have := enumD_at (n := 0) hd
      rw [Nat.zero_add] at this
      exact ⟨_, _, this, s, r⟩
    cases hd : isTupD d with
    | true =>
      obtain ⟨ts, a', xs', hi, e', sq', rl'⟩ := isTupD_of hd r
      rw [hi] at h1
      cases h1
      cases e'
      refine .inr ⟨a, xs', rfl, t1.le.sqt sq', q _ _ _ F1 H1 m1 t1 (fun F' H' m' i gr le mr _ => ?_) k1⟩
      have sq2 : SqT X.K H' a xs' := le.sqt (gr.sqt sq')
      have rl2 := rl'.mono gr
      rw [enumD_len]
      refine ⟨fun hi => ?_, fun hi => ?_, fun x H2 hi y => ?_⟩
      · have hi' : i < xs'.length := by rw [rl'.len]; exact hi
        exact ⟨xs', xs'[i], sq2, List.getElem?_eq_getElem hi'⟩
      · exact ⟨xs', sq2, by rw [rl'.len]; exact hi⟩
      · obtain ⟨T, u, rfl, hT, rfl, y⟩ := y
        exact pairs le rl2 (y xs' sq2) hT
    | false =>
      have asl : ∀ m, itemsOf m d = asL m d := fun m => by
        cases d with
        | tup ts => cases hd
        | pr ts => cases hd
        | _ => rfl
      rw [asl] at h1
      obtain ⟨a', xs', e', sq', rl'⟩ := r.asL t1.le t1.mr h1
      cases e'
      refine .inl ⟨a, xs', rfl, sq', q _ _ _ F1 H1 m1 t1 (fun F' H' m' i gr le mr hdep => ?_) k1⟩
      rw [asl] at hdep
      obtain ⟨a2, xs2, e2, sq2, rl2⟩ := (r.mono gr).asL le mr hdep
      cases e2
      rw [enumD_len]
      refine ⟨fun hi => ?_, fun hi => ⟨xs2, sq2, by rw [rl2.len]; exact hi⟩, fun x H2 hi y => ?_⟩
      · have hi' : i < xs2.length := by rw [rl2.len]; exact hi
        exact ⟨xs2, xs2[i], sq2, List.getElem?_eq_getElem hi'⟩
      · obtain ⟨T, u, rfl, hT, rfl, y⟩ := y
        exact pairs le rl2 (y xs2 sq2) hT
  · exact k1.elim
end
end Ts
/-! ### dict(tuple of pairs) -/
namespace Ts
open PySem PySem.Spec PyProof.Rows L2
theorem Le.sqn {K : PySem.W.Frag} {F H : Hp} (l : Le F H) {a : Addr} {xs : List V} (h : SqN K F a xs) : SqN K H a xs := h.imp (fun ⟨o, h, d⟩ => ⟨o, l.at h id, d⟩) id
section
variable {X : Cx} {W : WX}
end
end Ts
/-! ### loops: the rest as a letter -/
namespace Ts
open PySem PySem.Spec PyProof.Rows L2
theorem forV_mapP {α : Type} {f : α → D} {b : D → VS} {G : DE} (I : List α → SL → Mem → Prop) (h0 : ∀ s m, I [] s m → G.nx s m)
    (hs : ∀ a as s m (P : SL → Mem → Prop), I (a :: as) s m → (∀ s' m', I as s' m' → P s' m') → b (f a) s m { G with nx := P, ct := P, bk := G.nx }) :
    ∀ {as : List α} {s : SL} {m : Mem}, I as s m → forV b (as.map f) s m G
  | [], s, m, h => h0 s m h
  | a :: as, s, m, h => hs a as s m (fun s' m' => forV b (as.map f) s' m' G) h fun s' m' h' => forV_mapP I h0 hs h'
theorem forV_indP {b : D → VS} {G : DE} (I : List D → SL → Mem → Prop) (h0 : ∀ s m, I [] s m → G.nx s m)
    (hs : ∀ d ds s m (P : SL → Mem → Prop), I (d :: ds) s m → (∀ s' m', I ds s' m' → P s' m') → b d s m { G with nx := P, ct := P, bk := G.nx }) :
    ∀ {ds : List D} {s : SL} {m : Mem}, I ds s m → forV b ds s m G
  | [], s, m, h => h0 s m h
  | d :: ds, s, m, h => hs d ds s m (fun s' m' => forV b ds s' m' G) h fun s' m' h' => forV_indP I h0 hs h'
theorem forM_indP {b : D → VS} {dep : Mem → Prop} {G : DE} (I : List D → SL → Mem → Prop) (hd : ∀ ds s m, I ds s m → dep m) (h0 : ∀ s m, I [] s m → G.nx s m)
    (hs : ∀ d ds s m (P : SL → Mem → Prop), I (d :: ds) s m → (∀ s' m', I ds s' m' → P s' m') → b d s m { G with nx := P, ct := P, bk := G.nx }) :
    ∀ {ds : List D} {s : SL} {m : Mem}, I ds s m → forM dep b ds s m G
  | [], s, m, h => ⟨hd _ _ _ h, h0 s m h⟩
  | d :: ds, s, m, h => ⟨hd _ _ _ h, hs d ds s m (fun s' m' => forM dep b ds s' m' G) h fun s' m' h' => forM_indP I hd h0 hs h'⟩
theorem cutN_to {α : Type} (l : List α) (p : Nat) : cutD l none (some (p : Int)) = l.take p := by
  unfold cutD
  rw [HT.sIx_none, HT.sIx_nat, List.drop_zero, Nat.sub_zero, List.take_eq_take_iff]
  omega
theorem cutN_fr {α : Type} (l : List α) (p : Nat) : cutD l (some (p : Int)) none = l.drop p := by
  unfold cutD
  rw [HT.sIx_none, HT.sIx_nat, List.take_of_length_le (by rw [List.length_drop]; omega)]
  by_cases h : p ≤ l.length
  · rw [Nat.min_eq_left h]
  · rw [Nat.min_eq_right (by omega), List.drop_of_length_le (Nat.le_refl _), List.drop_of_length_le (by omega)]
theorem frz_d {ds : List (Key × D)} {k : D → Prop} : (MO.dic ds).onF k = k (.dic ds) := rfl
theorem frz_i {C : Str} {fs : List (Str × D)} {k : D → Prop} : (MO.ins C fs).onF k = k (.obj C fs) := rfl
/-- a dict comprehension: what each item comes to -/
theorem dc_filt {α : Type} {f : α → D} {h : α → Option (Key × D)} {g : VG} {t : VT} {ek ev : VE} {s : SL} {m : Mem} {k : List (Key × D) → Mem → Prop} :
    ∀ (as : List α) (acc : List (Key × D)), (∀ a ∈ as, ∀ (k' : Key → D → Mem → Prop) (kn : Mem → Prop), (∀ c z, h a = some (c, z) → k' c z m) → (h a = none → kn m) → g (f a) s fun s1 => t s1 m (fun b m2 => if b = true then ek s1 m2 (fun y m3 => ev s1 m3 (fun z m4 => onO (keyD y) fun c => k' c z m4) fun _ _ => False) fun _ _ => False else kn m2) fun _ _ => False) →
    k (mergeD acc (as.filterMap h)) m → dcV g t ek ev s (as.map f) acc m k
  | [], acc, _, hk => hk
  | a :: as, acc, hs, hk => hs a List.mem_cons_self (fun c z m4 => dcV g t ek ev s (as.map f) (putD acc c z) m4 k) (fun m2 => dcV g t ek ev s (as.map f) acc m2 k)
      (fun c z e => dc_filt as (putD acc c z) (fun b hb => hs b (List.mem_cons_of_mem _ hb)) (by rw [List.filterMap_cons, e] at hk; exact hk))
      (fun e => dc_filt as acc (fun b hb => hs b (List.mem_cons_of_mem _ hb)) (by rw [List.filterMap_cons, e] at hk; exact hk))
end Ts
/-! ### match on a text: cases that are texts -/
namespace Ts
open PySem PySem.Spec PyProof.Rows L2
section
variable {X : Cx} {W : WX}
abbrev VM := Str → VS
@[reducible] def vMn : VM := fun _ => vNext
@[reducible] def vMc (c : Str) (a : VS) (u : VM) : VM := fun z s m G => if z = c then a s m G else u z s m G
@[reducible] def vMatch (a : VE) (v : VM) : VS := fun s m G => a s m (fun d m1 => onS d fun z => v z s m1 G) fun e m' => G.ex e s m'
def oAddI : O2
  | .int i, .int j, m, k => k (.int (i + j)) m
  | _, _, _, _ => False
/-! o.f op= e -/
@[reducible] def vAugF (C f : Str) (o : VE) (op : O2) (a : VE) : VS := fun s m G => o s m (fun d m1 => onI C m1 d fun p fs => onO (fs.lookup f) fun v => a s m1 (fun e m2 => op v e m2 fun z m3 => onI C m3 d fun p' fs' => fs'.length < 1000 ∧ G.nx s (mset m3 p (.ins C (putFD f z fs')))) fun e m' => G.ex e s m') fun e m' => G.ex e s m'
/-! x.split(y) -/
end
end Ts
/-! ### {**a, **b}; sorted of any length; self.f, self.g = x, y; max(xs) -/
namespace PySem
open Sem (wp)
section
variable {prog : Program} {w : World} {K : Type} [DecidableEq K] {knd : KeyKind prog w K} {A : Around} {E : Value → Shared → Prop} {s : Shared}
theorem wpAny_dictPut_pairs {d : Addr} {kvs : List (K × Value)} {k : K} {key v : Value} {Q : Unit → Shared → Prop} (hkey : knd.is k key = true) (hm : s.heap.DictOf knd d kvs)
    (hQ : ∀ h', h'.DictOf knd d (stored kvs k v) → Heap.SameBut d s.heap h' → Q () { s with heap := h' })
    (hsz : kvs.length ≤ sizeLine := by size_fits) :
    wpAny (model prog w) A (dictPut d (knd.hash k) key v) Q E s := by
  obtain ⟨o, es, ep, ho, hc, hd, hk, hp, hn⟩ := hm
  have hes : es.size ≤ sizeLine := by have e1 := hp.length; have e2 : es.toList.length = es.size := by simp
                                      omega
  unfold dictPut
  refine wpAny_bind (wpAny_dictFind_of hkey ho hd hk ?_)
  have hidx : (es.findIdx? fun e => knd.is k e.key) = kvs.findIdx? fun kv => decide (kv.1 = k) := by
    rw [← hp.findIdx k]; obtain ⟨l⟩ := es; simp
  cases hi : es.findIdx? fun e => knd.is k e.key with
  | some i =>
    refine (wpAny_updateDict ho hd (hQ _ ⟨_, _, ep, Heap.get?_update_self _ ho (Obj.isFreed_of_dict (Obj.data_mapDict hd _)),
      hc.mapDict _, Obj.data_mapDict hd _, hk.modify _ _, ?_, ?_⟩ (Heap.SameBut.update ..)))
    · rw [stored, if_pos (any_of_findIdx_some (hidx ▸ hi))]
      have hl : (es.toList.findIdx? fun e => knd.is k e.key) = some i := by rw [← hi]; obtain ⟨l⟩ := es; simp
      have := hp.modify hn hl v
      obtain ⟨l⟩ := es
      simpa using this
    · rw [stored, if_pos (any_of_findIdx_some (hidx ▸ hi)), keys_map_store]; exact hn
  | none =>
    have hnot : k ∉ kvs.map (·.1) := not_mem_of_findIdx_none (hidx ▸ hi)
    have hany : ¬ (kvs.any fun kv => decide (kv.1 = k)) = true := by
      rw [List.any_eq_true]; rintro ⟨kv, hkv, he⟩
      exact hnot (List.mem_map.mpr ⟨kv, hkv, of_decide_eq_true he⟩)
    refine (wpAny_updateDictKeys (hz := hes) ho hd (hQ _ ⟨_, _, ep + 1, Heap.get?_update_self _ ho (Obj.isFreed_of_dict (Obj.data_mapDictKeys hd _)),
      hc.mapDictKeys _, Obj.data_mapDictKeys hd _, hk.push hkey _, ?_, ?_⟩ (Heap.SameBut.update ..)))
    · rw [stored, if_neg hany]
      have := hp.append hkey (knd.hash k) v
      obtain ⟨l⟩ := es
      simpa using this
    · rw [stored, if_neg hany, List.map_append, List.nodup_append]
      refine ⟨hn, by simp, ?_⟩
      intro a ha b hb
      simp only [List.map_cons, List.map_nil, List.mem_singleton] at hb
      subst hb
      exact fun e => hnot (e ▸ ha)
theorem wpAny_mergeMapping_pairs {d o : Addr} {kvs more : List (K × Value)} {Q : Unit → Shared → Prop} (hdo : d ≠ o) (hoS : (o == sysModules) = false)
    (hd : s.heap.DictOf knd d kvs) (ho : s.heap.DictOf knd o more)
    (hQ : ∀ h', h'.DictOf knd d (merged kvs more) → h'.DictOf knd o more → Heap.SameBut d s.heap h' → Q () { s with heap := h' })
    (hsz : kvs.length + more.length ≤ sizeLine := by size_fits) :
    wpAny (model prog w) A (mergeMapping d (.ref o) false) Q E s := by
  obtain ⟨od, esd, epd, hod, hcd, hdd, hkd, hpd, hnd⟩ := id hd
  obtain ⟨oo, eso, epo, hoo, hco, hdo', hko, hpo, hno⟩ := id ho
  have hlen : more.length = eso.size := by rw [← hpo.length]; simp
  unfold mergeMapping
  refine wpAny_bind (wpAny_isInstance ho.typeIs isSubtype_dict_dict ?_)
  dsimp only
  rw [if_pos rfl]
  refine wpAny_bind (wpAny_specialOf ho.typeIs F.slot_dict_iter.lookup (wpAny_bind (wpAny_pure ?_)))
  simp only [beq_self_eq_true]
  rw [if_neg (by rw [hoS]; exact Bool.false_ne_true)]
  refine wpAny_bind (wpAny_dictEntries hod hdd ?_)
  have body : ∀ (h' : Heap) (i : Nat), i < eso.size → h'.DictOf knd d (merged kvs (more.take i)) → h'.get? o = some oo → Heap.SameBut d s.heap h' → ∀ R : ForInStep PUnit → Shared → Prop,
      (∀ h'', h''.DictOf knd d (merged kvs (more.take (i + 1))) → h''.get? o = some oo → Heap.SameBut d s.heap h'' → R (.yield PUnit.unit) { s with heap := h'' }) →
      wpAny (model prog w) A (do
        let __do_lift ← dictEntries o
        match __do_lift[i]? with
          | some e => do
            holding [e.key, e.val] (dictPut d e.hash e.key e.val)
            let __do_lift ← dictEpoch o
            if (__do_lift != epo) = true then do
                (unsupported "dict.changed-during-merge" : Sem PUnit)
                pure (ForInStep.yield PUnit.unit)
              else pure (ForInStep.yield PUnit.unit)
          | x => do
            (unsupported "dict.changed-during-merge" : Sem PUnit)
            pure (ForInStep.yield PUnit.unit)) R E { s with heap := h' } := by
    intro h' i hlt hd' hoo' hs' R hR
    refine wpAny_bind (wpAny_dictEntries hoo' hdo' ?_)
    rw [Array.getElem?_eq_getElem hlt]
    obtain ⟨kv, hkv⟩ : ∃ kv, more[i]? = some kv := ⟨more[i]'(by rw [hlen]; exact hlt), List.getElem?_eq_getElem _⟩
    obtain ⟨k, v⟩ := kv
    obtain ⟨hkey, hval⟩ := hpo.get? (e := eso[i]) (by simp [hlt]) hkv
    obtain ⟨k', hkey', hhash⟩ := hko eso[i] (Array.getElem_mem hlt)
    obtain rfl : k' = k := knd.inj _ _ _ hkey' hkey
    show wpAny _ _ (holding [eso[i].key, eso[i].val] (dictPut d eso[i].hash eso[i].key eso[i].val) >>= _) _ _ _
    rw [hhash, hval]
    have hmx : (merged kvs (more.take i)).length ≤ sizeLine := by
      have e1 := merged_length_le kvs (more.take i)
      have e2 : (more.take i).length ≤ more.length := by rw [List.length_take]; omega
      omega
    refine wpAny_bind (wpAny_holding (wpAny_dictPut_pairs (hsz := hmx) hkey hd' fun h'' hd'' hs'' => ?_))
    have hoo'' : h''.get? o = some oo := (hs''.2 o (Ne.symm hdo)).trans hoo'
    refine wpAny_bind (wpAny_dictEpoch hoo'' hdo' ?_)
    rw [if_neg (by simp)]
    exact wpAny_pure (hR h'' (by rw [merged_take_succ kvs more i (k', v) hkv]; exact hd'') hoo'' (hs'.trans hs''))
  have loop : wpAny (model prog w) A (do
      let __do_lift ← dictEntries o
      have size : Nat := __do_lift.size
      let epoch ← dictEpoch o
      forIn (List.range size) PUnit.unit fun i (__s : PUnit) => (do
          let __do_lift ← dictEntries o
          match __do_lift[i]? with
            | some e => do
              holding [e.key, e.val] (dictPut d e.hash e.key e.val)
              let __do_lift ← dictEpoch o
              if (__do_lift != epoch) = true then do
                  (unsupported "dict.changed-during-merge" : Sem PUnit)
                  pure (ForInStep.yield PUnit.unit)
                else pure (ForInStep.yield PUnit.unit)
            | x => do
              (unsupported "dict.changed-during-merge" : Sem PUnit)
              pure (ForInStep.yield PUnit.unit) : Sem (ForInStep PUnit))
      pure ()) Q E s := by
    refine wpAny_bind (wpAny_dictEntries hoo hdo' ?_)
    refine wpAny_bind (wpAny_dictEpoch hoo hdo' ?_)
    refine wpAny_bind ?_
    refine wpAny_forIn_list _
      (fun rest _ s' => ∃ h' i, s' = { s with heap := h' } ∧ rest = List.range' i (eso.size - i) ∧ i ≤ eso.size ∧ h'.DictOf knd d (merged kvs (more.take i)) ∧ h'.get? o = some oo ∧ Heap.SameBut d s.heap h')
      _ ?_ ?_ _ _ ⟨s.heap, 0, rfl, by simp [List.range_eq_range'], Nat.zero_le _, by simpa [merged] using hd, hoo, Heap.SameBut.refl _ _⟩
    · rintro x rest b s' ⟨h', i, rfl, hr, hi, hd', hoo', hs'⟩
      have hlt : i < eso.size := by
        rcases Nat.lt_or_ge i eso.size with h | h
        · exact h
        · rw [Nat.sub_eq_zero_of_le h] at hr; simp at hr
      obtain ⟨rfl, hrest⟩ : x = i ∧ rest = List.range' (i + 1) (eso.size - (i + 1)) := by
        have e : eso.size - i = (eso.size - (i + 1)) + 1 := by omega
        rw [e, List.range'_succ] at hr
        injection hr with h1 h2
        exact ⟨h1, h2⟩
      exact body h' x hlt hd' hoo' hs' _ fun h'' e1 e2 e3 => ⟨h'', x + 1, rfl, hrest, hlt, e1, e2, e3⟩
    · rintro b s' ⟨h', i, rfl, hr, hi, hd', hoo', hs'⟩
      have hin : i = eso.size := by
        rcases Nat.lt_or_ge i eso.size with h | h
        · have e : eso.size - i = (eso.size - (i + 1)) + 1 := by omega
          rw [e, List.range'_succ] at hr; exact nomatch hr
        · exact Nat.le_antisymm hi h
      refine wpAny_pure (hQ h' ?_ ⟨oo, eso, epo, hoo', hco, hdo', hko, hpo, hno⟩ hs')
      rw [hin, ← hlen, List.take_length] at hd'; exact hd'
  by_cases hemp : esd.isEmpty = true
  · rw [if_pos hemp]
    refine wpAny_bind (wpAny_dictEntries hoo hdo' ?_)
    refine wpAny_bind ?_
    rw [← Array.forIn_toList]
    refine wpAny_of_eq (forIn_yield_id _ fun e he c => ?_) loop
    obtain ⟨k, hkey, _⟩ := hko e (Array.mem_toList_iff.mp he)
    have hbv := knd.byValue k _ hkey
    cases hk : e.key with
    | ref b => rw [hk] at hbv; exact absurd hbv (by simp [carriedByValue])
    | _ => rfl
  · rw [if_neg hemp]
    exact loop
end
end PySem
namespace L2
open PySem PyProof.Rows
/-- {**a, **b} with keys ints and texts -/
def tSpread2 (ta tb : TE) : TE := fun σ H Q => ∀ p, H p = none → ta σ (upd H p (.dK [])) fun x H1 => ∃ a1 k1, x = .ref a1 ∧ a1 ≠ p ∧ Rd H1 a1 (.dK k1) ∧ H1 p = some (.dK []) ∧
  tb σ (upd H1 p (.dK (mergeK [] k1))) fun y H2 => ∃ a2 k2 kp, y = .ref a2 ∧ a2 ≠ p ∧ Rd H2 a2 (.dK k2) ∧ H2 p = some (.dK kp) ∧ kp.length + k2.length ≤ sizeLine ∧ Q (.ref p) (upd H2 p (.dK (mergeK kp k2)))
section
variable {X : Cx} {pos : Pos} {a b : Expr} {ta tb : TE}
theorem merge_ok {pins : List (Addr × Obj)} {σ : St} {H : Hp} {s : Shared} {A : Around} {E : Value → Shared → Prop} {p o : Addr} {kp ko : List (Key × V)} {Q : Unit → Shared → Prop} (I : Inv X pins σ H s) (hp : H p = some (.dK kp)) (ho : Rd H o (.dK ko)) (hne : o ≠ p) (hz : kp.length + ko.length ≤ sizeLine)
    (h : ∀ s', Inv X pins σ (upd H p (.dK (mergeK kp ko))) s' → Q () s') : wpAny (model X.prog X.w) A (mergeMapping p (.ref o) false) Q E s := by
  obtain ⟨z, hd, vs, rel, dd⟩ := dk_of I.hok hp
  obtain ⟨z2, hd2, vs2, rel2, dd2⟩ := dk_rd I.hok ho
  have hz' : vs.length + vs2.length ≤ sizeLine := by rw [← rel.length, ← rel2.length]; exact hz
  refine wpAny_mergeMapping_pairs (hsz := hz') (Ne.symm hne) hd2 dd dd2 fun h' e1 e2 hs => h _ ?_
  have hl : (mergeK kp ko).length ≤ sizeLine := Nat.le_trans (length_mergeK ko kp) hz
  have he : ∃ q, h'.get? p = some q := let ⟨q, _, _, hq, _⟩ := e1; ⟨q, hq⟩
  exact d_write I (by rw [hp]; exact True.intro) hs he (dk_new hl hd (rel2.merge rel) e1)
theorem pe_spread2 (ha : PE X a ta) (hb : PE X b tb) (hk : evalEachOpt [none, none] X.env = [none, none] := by rfl) (hv : evalEach [a, b] X.env = [eval a X.env, eval b X.env] := by rfl) : PE X (.Dict [none, none] [a, b] pos) (tSpread2 ta tb) := by
  refine ⟨fun pins s σ H Q I q => ?_⟩
  have hn := I.hok.fresh (Nat.le_refl s.heap.objs.size)
  have I1 := I.laid (a := s.heap.objs.size) (o := .dK []) (h' := s.heap.push { cls := .type "dict", data := .dict #[] }) (t' := s.toks) (fun _ _ q => Heap.get?_push_of_some _ q) (Nat.le_refl _) (dk_empty s.heap I.big)
  rw [arm_eval_Dict, hk, hv]
  refine wpAny_bind (wpAny_standAt ?_)
  simp only [List.map_cons, List.map_nil, List.zip_cons_cons, List.zip_nil_right]
  unfold dictDisplay
  dsimp only
  rw [List.forIn_cons]
  dsimp only [List.isEmpty_nil, if_true]
  refine wpAny_bind (wpAny_bind ?_)
  rw [if_pos rfl]
  refine wpAny_bind (wpAny_pure ?_)
  dsimp only
  refine wpAny_bind (wpAny_alloc ?_)
  refine wpAny_bind (wpAny_holding (wpAny_bind (thn (ha.run pins _ σ _ _ I1 (q _ hn)) fun u s1 ⟨x, H1, I2, r1, a1, k1, ex, hne, rd, hp, q1⟩ => wpAny_bind (wpAny_standAt (wpAny_pure ?_)))))
  subst ex
  obtain rfl : u = Value.ref a1 := r1
  obtain ⟨z1, _, _⟩ := dk_rd I2.hok rd
  refine wpAny_bind (wpAny_onRaise (wpAny_tryCatch (wpAny_onRaise (wpAny_holding (merge_ok I2 hp rd hne (by simpa using z1) fun s2 I3 => ?_)))))
  refine wpAny_pure ?_
  dsimp only
  rw [List.forIn_cons]
  dsimp only [List.isEmpty_nil, if_true]
  refine wpAny_bind ?_
  rw [if_pos rfl]
  refine wpAny_bind (wpAny_pure ?_)
  dsimp only
  refine wpAny_bind (wpAny_pure ?_)
  refine wpAny_bind (wpAny_holding (wpAny_bind (thn (hb.run pins _ σ _ _ I3 q1) fun u2 s3 ⟨y, H2, I4, r2, a2, k2, kp, ey, hne2, rd2, hp2, hz, q2⟩ => wpAny_bind (wpAny_standAt (wpAny_pure ?_)))))
  subst ey
  obtain rfl : u2 = Value.ref a2 := r2
  refine wpAny_bind (wpAny_onRaise (wpAny_tryCatch (wpAny_onRaise (wpAny_holding (merge_ok I4 hp2 rd2 hne2 hz fun s4 I5 => ?_)))))
  refine wpAny_pure ?_
  dsimp only
  rw [List.forIn_nil]
  refine wpAny_pure ?_
  dsimp only [List.isEmpty_nil, if_true]
  rw [if_pos rfl]
  refine wpAny_bind (wpAny_pure ?_)
  exact wpAny_pure ⟨.ref s.heap.objs.size, _, I5, rfl, q2⟩
end
end L2

namespace L2
open PySem PyProof.Rows
section
variable {X : Cx}
/-- sorted(xs), texts, any number of them -/
def rSortedSA (K : PySem.W.Frag) : List V → Hp → VK → Prop := fun vs H Q => ∃ (a : Addr) (xs : List Str), vs = [V.ref a] ∧ SqL K H a (xs.map V.str) ∧ xs.length ≤ sizeLine ∧
  ∀ (ys : List Str) (p : Addr), ys.Perm xs → sortedS ys = true → H p = none → Q (.ref p) (upd H p (.lst (ys.map V.str)))
theorem cr_sortedSA : CallR X (.builtin "sorted") (rSortedSA X.K) := by
  intro pins s σ H vs us Q I r h
  obtain ⟨a, xs, rfl, hs, h64, q⟩ := h
  obtain ⟨its, rv, hl, _⟩ := I.list hs
  rw [Vals.ref1 r]
  have hlen0 := rv.length
  rw [List.length_map] at hlen0
  refine PyProof.Rows.sorted_strsAny hl.isList rv.strs (by rw [← hlen0]; exact h64) fun out ys h1 h2 h3 => ?_
  obtain ⟨ep, he'⟩ := PyProof.Rows.sortedAll_at s.heap its out
  have hlen : (ys.map V.str).length ≤ sizeLine := by rw [List.length_map, h2.length_eq]; exact h64
  exact ⟨.ref _, upd H (s.heap.objs.size + 1) (.lst (ys.map V.str)), I.laid (t' := s.toks) (fun _ _ => PyProof.Rows.sortedAll_old) (Nat.le_succ _) ⟨hlen, out.toList, ep, vals_of_strs h1, he'⟩, rfl, q ys _ h2 h3 (I.hok.fresh (Nat.le_succ _))⟩
end
end L2
namespace Ts
open PySem PySem.Spec PyProof.Rows L2
section
variable {X : Cx} {W : WX} {pos : Pos}
/-! self.f, self.g = x, y -/
@[reducible] def vParF (C f g : Str) (o1 o2 : VE) (a : VA) : VS := fun s m G => a s m (fun ds m1 => match ds with
  | [d, e] => o1 s m1 (fun r m2 => onI C m2 r fun p fs => fs.length < 1000 ∧ o2 s (mset m2 p (.ins C (putFD f d fs))) (fun r' m3 => onI C m3 r' fun p' fs' => fs'.length < 1000 ∧ G.nx s (mset m3 p' (.ins C (putFD g e fs')))) fun e m' => G.ex e s m') fun e m' => G.ex e s m'
  | _ => False) fun e m' => G.ex e s m'
/-! {**a, **b} -/
def notR (p : Addr) : D → Prop
  | .ref q => q ≠ p
  | _ => True
@[reducible] def vSpread (a b : VE) : VE := fun s m k x => ∀ p, m p = none → a s (mset m p (.dic [])) (fun d1 m1 => onO (asK m1 d1) fun k1 => notR p d1 ∧ m1 p = some (.dic []) ∧
  b s (mset m1 p (.dic (mergeD [] k1))) (fun d2 m2 => onO (asK m2 d2) fun k2 => notR p d2 ∧ ∃ kp, m2 p = some (.dic kp) ∧ kp.length + k2.length ≤ 1000000 ∧ k (.ref p) (mset m2 p (.dic (mergeD kp k2)))) x) x
theorem notR_of {K : PySem.W.Frag} {mg : Str → Option Value} {F H : Hp} {m : Mem} {p a : Addr} {d : D} {kvs : List (Key × D)} {o : MO} (mr : MemR K mg F H m) (hp : m p = some o) (n : notR p d) (r : Rp K mg F (.ref a) d) (h : asK m d = some kvs) : a ≠ p := by
  cases d with
  | ref q => cases r; exact n
  | dic ds =>
    obtain ⟨a', o', xs, e, hf, _⟩ := r.dicI
    cases e
    intro z
    subst z
    rw [(mr _ _ hp).1] at hf
    cases hf
  | _ => cases h
theorem je_spread {a b : Expr} {va vb : VE} (ha : JE X W a va) (hb : JE X W b vb) (hk : evalEachOpt [none, none] X.env = [none, none] := by rfl) (hv : evalEach [a, b] X.env = [eval a X.env, eval b X.env] := by rfl) : JE X W (.Dict [none, none] [a, b] pos) (vSpread va vb) := by
  obtain ⟨ta, p1, s1⟩ := ha; obtain ⟨tb, p2, s2⟩ := hb
  refine ⟨_, pe_spread2 p1 p2 hk hv, fun σ F H s m k x l en hvv hx Q q p hp => ?_⟩
  have mp := en.mem.free hp
  have q0 := StM.new l en.mem hp (o := .dK []) (u := .dic []) ⟨[], upd_same, .nil⟩
  refine s1 σ F _ s _ _ x q0.le (en.stm q0) (hvv p mp) (hx.after q0) _ fun u d F1 H1 m1 t1 r1 k1 => ?_
  obtain ⟨k1s, e1, n1, hm1, k1⟩ := onO_of k1
  obtain ⟨a1, xs1, rfl, rd1, rk1⟩ := r1.asKD t1.le t1.mr e1
  obtain ⟨_, ys, ey, ry⟩ := t1.mr p _ hm1
  cases ry
  have sp := StM.put (o := .dK (mergeK [] xs1)) t1.le t1.mr hm1 rfl (u := .dic (mergeD [] k1s)) ⟨_, upd_same, rk1.merge .nil⟩
  have st := (q0.trans t1).trans sp
  refine ⟨a1, xs1, rfl, notR_of t1.mr hm1 n1 r1 e1, rd1, ey, s2 σ F1 _ s _ _ x sp.le (en.stm st) k1 (hx.after st) _ fun w e F2 H2 m2 t2 r2 k2 => ?_⟩
  obtain ⟨k2s, e2, n2, kp, hm2, hz, k2⟩ := onO_of k2
  obtain ⟨a2, xs2, rfl, rd2, rk2⟩ := r2.asKD t2.le t2.mr e2
  obtain ⟨_, yp, eyp, ryp⟩ := t2.mr p _ hm2
  have sp2 := StM.put (o := .dK (mergeK yp xs2)) t2.le t2.mr hm2 rfl (u := .dic (mergeD kp k2s)) ⟨_, upd_same, rk2.merge ryp⟩
  refine ⟨a2, xs2, yp, rfl, notR_of t2.mr hm2 n2 r2 e2, rd2, eyp, ?_, q _ _ F2 _ _ ((st.trans t2).trans sp2) (.ref p) k2⟩
  rw [ryp.len, rk2.len]
  have : sizeLine > 1000000 := by decide
  omega
/-! sorted -/
def strKs : List (Key × D) → Option (List Str)
  | [] => some []
  | (.inr z, _) :: r => (strKs r).map (z :: ·)
  | _ => none
/-- sorted(d), keys texts -/
def oSortD : OA := fun ds m k => match ds with
  | [d] => onO (asK m d) fun kvs => onO (strKs kvs) fun xs => xs.length ≤ 1000000 ∧ ∀ ys : List Str, ys.Perm xs → sortedS ys = true → k (.lst (ys.map D.str)) m
  | _ => False
/-- sorted(xs), texts -/
def oSortA : OA := fun ds m k => match ds with
  | [d] => onO (asL m d) fun ds => onO (strDs ds) fun xs => xs.length ≤ 1000000 ∧ ∀ ys : List Str, ys.Perm xs → sortedS ys = true → k (.lst (ys.map D.str)) m
  | _ => False
theorem jo_sortA : JOA X (.builtin "sorted") oSortA := ⟨_, cr_sortedSA, fun F H m xs us k l mr r h Q q => by
  unfold oSortA at h
  split at h
  · obtain ⟨u, rfl, a⟩ := r.one
    obtain ⟨ds, h1, h⟩ := onO_of h
    obtain ⟨ys, h2, hz, h'⟩ := onO_of h
    clear h
    obtain rfl := strDs_eq h2
    obtain ⟨p, vs, rfl, sp, rp⟩ := a.asL l mr h1
    obtain rfl := rp.strsV
    refine ⟨p, ys, rfl, sp, Nat.le_trans hz (by decide), fun zs n hp hs hn => ?_⟩
    have st := Step.new (F := F) (o := .lst (zs.map V.str)) l hn
    exact q _ _ _ _ m (st.stm mr) (.lst upd_same (RpL.strs zs)) (h' zs hp hs)
  · exact h.elim⟩
/-- max(xs), ints -/
def oMaxL : OA := fun ds m k => match ds with
  | [d] => onO (asL m d) fun ds => onO (intDs ds) fun xs => 0 < xs.length ∧ ∀ i : Int, i ∈ xs → (∀ y ∈ xs, y ≤ i) → k (.int i) m
  | _ => False
/-! a call that is lent the lists of the memory: it is pure, it hands back flat data -/
def rdD (m : Mem) : Nat → D → D
  | 0, d => d
  | n + 1, .ref p => match m p with
    | some (.lst es) => .lst (es.map (rdD m n))
    | _ => .ref p
  | n + 1, .lst ds => .lst (ds.map (rdD m n))
  | n + 1, .tup ds => .tup (ds.map (rdD m n))
  | _ + 1, d => d
def flatD : D → Prop
  | .non => True
  | .bl _ => True
  | .int _ => True
  | .str _ => True
  | _ => False
@[reducible] def vCallL (n : Nat) (φ : P0) (a : VA) : VE := fun s m k x => a s m (fun ds m1 => φ (ds.map (rdD m1 n)) (fun _ => none) (fun d _ => flatD d ∧ k d m1)) x
end
end Ts
/-! ### ==, len, repr of own instances -/
namespace Ts
open PySem PySem.Spec PyProof.Rows L2
section
variable {X : Cx} {k : Nat} {sp : Sp} {E : L2.St → XK} {pins : List (Addr × Obj)} {σ : L2.St} {H : Hp} {s : Shared} {Q : VK} {us : List Value} {vs : List V} {f : Addr} {CX : CXT}
/-- a def run one call deeper -/
theorem run_FnI (F : FnR X.prog X.w X.K X.mg X.base CX k f sp) (hr : Room (k + 1) X.A) (hx : PassesAt CX X σ (E σ)) (I : Inv X pins σ H s) (r : Vals vs us) (h : sp vs H Q (E σ)) : wpAny (model X.prog X.w) X.A.in1 (call (.ref f) us) (EP X pins σ Q) X.xe s := by
  have e0 : Env0 X.prog X.w X.K X.mg X.base X.A.in1 X.stack s H := by
    have e := I.env0
    exact ⟨e.frames, e.mod, e.bs, e.bsz, e.funs, e.frf, e.hok, e.bare⟩
  refine wpAny_call (codeAny_mono (F X.A.in1 X.stack s H us vs Q (E σ) hr.in1 e0 r h) fun r s' hq => ?_)
  cases r with
  | error e => exact hx pins H s e s' I hq
  | ok fl =>
    cases fl with
    | ret u => exact I.after hq
    | next => exact False.elim hq
    | brk => exact False.elim hq
    | cont => exact False.elim hq
/-- what comes back from a pure def of an instance -/
def rInsV (C : Addr) (sp : Sp) (good : V → Prop) : List V → Hp → VK → Prop := fun vs H Q => ∃ a dx fs, vs = [.ref a] ∧ H a = some (.ins C dx fs) ∧ sp vs H (fun v H' => good v ∧ Q v H') E0
theorem call_lenI {C : Addr} (hm : Meth X.K C "__len__" f) (F : FnR X.prog X.w X.K X.mg X.base CX0 k f sp) (hr : Room (k + 1) X.A) : CallR X (.builtin "len") (rInsV C sp fun v => ∃ n : Int, v = .int n ∧ 0 ≤ n ∧ n < 2 ^ 62) := by
  intro pins s σ H xs us Q I r ⟨a, dx, fs, e1, ha, hq⟩
  subst e1
  cases r with
  | cons r1 r2 =>
    cases r2
    cases r1
    obtain ⟨mA, J, _⟩ := ins_get I.hok ha
    obtain ⟨od, J, _⟩ := J.look
    obtain ⟨m, hF⟩ := I.fr
    refine PySem.W.len_K hF I.ok.mod.kin J hm.at_ hm.fn (wpAny_mono (run_FnI (E := fun _ => E0) (σ := σ) (vs := [.ref a]) F hr passAt0 I (.cons rfl .nil) hq) (fun v s' q => ?_) fun _ _ e => e)
    obtain ⟨z, H', I', rz, ⟨n, ez, n0, n1⟩, hQ⟩ := q
    subst ez
    obtain ⟨t, rfl⟩ := rz
    exact ⟨⟨n0, by omega⟩, ⟨.int n, H', I'.tok _, ⟨_, rfl⟩, hQ⟩⟩
theorem call_reprI {C : Addr} (hm : Meth X.K C "__repr__" f) (F : FnR X.prog X.w X.K X.mg X.base CX0 k f sp) (hr : Room (k + 1) X.A) : CallR X (.builtin "repr") (rInsV C sp fun v => ∃ z : Str, v = .str z) := by
  intro pins s σ H xs us Q I r ⟨a, dx, fs, e1, ha, hq⟩
  subst e1
  cases r with
  | cons r1 r2 =>
    cases r2
    cases r1
    obtain ⟨mA, J, _⟩ := ins_get I.hok ha
    obtain ⟨od, J, _⟩ := J.look
    obtain ⟨m, hF⟩ := I.fr
    refine PySem.W.repr_K hr.in1.units0 hF I.ok.mod.kin J hm.at_ hm.fn (wpAny_mono (run_FnI (E := fun _ => E0) (σ := σ) (vs := [.ref a]) F hr passAt0 I (.cons rfl .nil) hq) (fun v s' q => ?_) fun _ _ e => e)
    obtain ⟨z, H', I', rz, ⟨n, ez⟩, hQ⟩ := q
    subst ez
    obtain ⟨t, rfl⟩ := rz
    exact ⟨.str n, H', I', ⟨_, rfl⟩, hQ⟩
/-- the type of what stands on the right of ==, no class of it is C -/
def NotC (C : Addr) (H : Hp) (K : PySem.W.Frag) : V → Prop
  | .ref b => (∃ dy gs, H b = some (.ins C dy gs)) ∨ (∃ xs, SqL K H b xs)
  | _ => False
/-- x == y by an own __eq__ -/
def rEqI (C : Addr) (sp : Sp) (K : PySem.W.Frag) : R2 := fun x y H Q => ∃ a dx fs, x = .ref a ∧ H a = some (.ins C dx fs) ∧ NotC C H K y ∧ sp [x, y] H (fun v H' => (∃ b, v = .bl b) ∧ Q v H') E0
theorem op_eqI {C : Addr} (hm : Meth X.K C "__eq__" f) (F : FnR X.prog X.w X.K X.mg X.base CX0 k f sp) (hr : Room k X.A) : OpR X (compareOp .Eq) (rEqI C sp X.K) := by
  intro pins s σ H x y v u Q I rx ry ⟨a, dx, fs, e1, ha, hy, hq⟩
  subst e1
  cases rx
  obtain ⟨mA, J, _⟩ := ins_get I.hok ha
  obtain ⟨od, J, _⟩ := J.look
  obtain ⟨m, hF⟩ := I.fr
  have back : wpAny (model X.prog X.w) X.A (call (.ref f) [.ref a, u]) (PySem.W.CmpBack (EP X pins σ Q)) X.xe s := by
    refine wpAny_mono (run_Fn (E := fun _ => E0) (σ := σ) (vs := [.ref a, y]) F hr passAt0 I (.cons rfl (.cons ry .nil)) hq) (fun v s' q => ?_) fun _ _ e => e
    obtain ⟨z, H', I', rz, ⟨b, ez⟩, hQ⟩ := q
    subst ez
    cases rz
    exact ⟨.bl b, H', I', rfl, hQ⟩
  refine PySem.W.cmp_ofEq ?_
  cases y with
  | ref b =>
    cases ry
    rcases (show (∃ dy gs, H b = some (.ins C dy gs)) ∨ (∃ xs, SqL X.K H b xs) from hy) with ⟨dy, gs, hb⟩ | ⟨xs, hb⟩
    · obtain ⟨mB, J', _⟩ := ins_get I.hok hb
      obtain ⟨od', J', _⟩ := J'.look
      exact PySem.W.cmp_K (op := .Eq) (tb := .ref C) hr.units0 hF I.ok.mod.kin J J'.type (by simp [PySem.W.notFirst]) hm.at_ hm.fn back
    · obtain ⟨its, _, ⟨o, n, ho, hc, _⟩, _⟩ := I.list hb
      have lt : PySem.W.Looks (model X.prog X.w) s.heap (typeOf (.ref b)) (.type "list") := fun A Q E s k q => wpAny_typeOf_ref (k _ _ ho) (by rw [hc]; exact q)
      exact PySem.W.cmp_K (op := .Eq) (tb := .type "list") hr.units0 hF I.ok.mod.kin J lt (by
        show (_ || PySem.W.subIn X.K (.type "list") (.ref C) == some false) = true
        have : PySem.W.subIn X.K (.type "list") (.ref C) = some false := rfl
        rw [this]; simp) hm.at_ hm.fn back
  | _ => exact hy.elim
end
/-! the judgements -/
def blD : D → (D → Prop) → Prop
  | .bl b, k => k (.bl b)
  | _, _ => False
def inD : D → (D → Prop) → Prop
  | .int n, k => (0 ≤ n ∧ n < 2 ^ 62) ∧ k (.int n)
  | _, _ => False
def txD : D → (D → Prop) → Prop
  | .str z, k => k (.str z)
  | _, _ => False
/-- an instance of C or a list -/
def insL (C : Str) (m : Mem) (e : D) : Prop := (asI C m e).isSome = true ∨ (asL m e).isSome = true
@[reducible] def oEqI (C : Str) (φ : P0) : O2 := fun d e m k => onO (asI C m d) fun _ => insL C m e ∧ φ [d, e] m fun y m1 => blD y fun y => k y m1
def oLenI (C : Str) (φ : P0) : OA
  | [d], m, k => onO (asI C m d) fun _ => φ [d] m fun y m1 => inD y fun y => k y m1
  | _, _, _ => False
def oReprI (C : Str) (φ : P0) : OA
  | [d], m, k => onO (asI C m d) fun _ => φ [d] m fun y m1 => txD y fun y => k y m1
  | _, _, _ => False
section
variable {X : Cx} {C : Str} {k : Nat} {φ : P0}
theorem jo_eqI (G : Mt0 X.prog X.w X.K X.mg X.base C "__eq__" k φ) (hr : Room k X.A) : JO2 X (compareOp .Eq) (oEqI C φ) := by
  obtain ⟨Ca, f, h1, h2, h3, h4⟩ := G.ex
  refine ⟨_, op_eqI h3 h4 hr, fun F H m x y u v k l mr a b h Q q => ?_⟩
  obtain ⟨fs, e1, hy, h⟩ := onO_of h
  obtain ⟨p, Ca', dx, xs, rfl, hm, hH, rk⟩ := a.asIns l mr e1
  rw [h1] at hm
  cases hm
  refine ⟨p, dx, xs, rfl, hH, ?_, F, [x, y], m, _, l, .cons a (.cons b .nil), mr, h, fun v d F' H' m' st r hk => ?_⟩
  · rcases hy with hy | hy
    · obtain ⟨gs, e2⟩ := Option.isSome_iff_exists.mp hy
      obtain ⟨p2, Ca', dx2, xs2, rfl, hm, hH2, rk2⟩ := b.asIns l mr e2
      rw [h1] at hm
      cases hm
      exact .inl ⟨dx2, xs2, hH2⟩
    · obtain ⟨gs, e2⟩ := Option.isSome_iff_exists.mp hy
      obtain ⟨p2, vs, rfl, sq, _⟩ := b.asL l mr e2
      exact .inr ⟨vs, sq⟩
  · cases d with
    | bl c => cases r; exact ⟨⟨c, rfl⟩, q _ _ F' H' m' st (.bl c) hk⟩
    | _ => exact hk.elim
theorem jo_lenI (G : Mt0 X.prog X.w X.K X.mg X.base C "__len__" k φ) (hr : Room (k + 1) X.A) : JOA X (.builtin "len") (oLenI C φ) := by
  obtain ⟨Ca, f, h1, h2, h3, h4⟩ := G.ex
  refine ⟨_, call_lenI h3 h4 hr, fun F H m xs us k l mr r h Q q => ?_⟩
  unfold oLenI at h
  split at h
  · obtain ⟨u, rfl, a⟩ := r.one
    obtain ⟨fs, e1, h⟩ := onO_of h
    obtain ⟨p, Ca', dx, xs, rfl, hm, hH, rk⟩ := a.asIns l mr e1
    rw [h1] at hm
    cases hm
    refine ⟨p, dx, xs, rfl, hH, F, _, m, _, l, .cons a .nil, mr, h, fun v d F' H' m' st r hk => ?_⟩
    cases d with
    | int n => cases r; exact ⟨⟨n, rfl, hk.1.1, hk.1.2⟩, q _ _ F' H' m' st (.int n) hk.2⟩
    | _ => exact hk.elim
  · exact h.elim
theorem jo_reprI (G : Mt0 X.prog X.w X.K X.mg X.base C "__repr__" k φ) (hr : Room (k + 1) X.A) : JOA X (.builtin "repr") (oReprI C φ) := by
  obtain ⟨Ca, f, h1, h2, h3, h4⟩ := G.ex
  refine ⟨_, call_reprI h3 h4 hr, fun F H m xs us k l mr r h Q q => ?_⟩
  unfold oReprI at h
  split at h
  · obtain ⟨u, rfl, a⟩ := r.one
    obtain ⟨fs, e1, h⟩ := onO_of h
    obtain ⟨p, Ca', dx, xs, rfl, hm, hH, rk⟩ := a.asIns l mr e1
    rw [h1] at hm
    cases hm
    refine ⟨p, dx, xs, rfl, hH, F, _, m, _, l, .cons a .nil, mr, h, fun v d F' H' m' st r hk => ?_⟩
    cases d with
    | str z => cases r; exact ⟨⟨z, rfl⟩, q _ _ F' H' m' st (.str z) hk⟩
    | _ => exact hk.elim
  · exact h.elim
end
/-! ### C.m(..), m a staticmethod -/
/-- C.m is a staticmethod: its record at p, its def at g -/
structure SMet (K : PySem.W.Frag) (C : Addr) (mc : Value) (m : Str) (p g : Addr) : Prop where
  at_ : PySem.W.findCls K (.ref C) mc m = some (.get (.builtin "staticmethod.__get__") (.ref p) .none (.ref C))
  rc : ∃ rest, PySem.W.recIn K p "staticmethod" = some (.ref g :: rest)
  kp : PySem.W.keepIn K (.ref g) = true
/-- e.m(..), e the class at C, m a staticmethod -/
def tSMeth (C : Addr) (sp : Sp) (E : L2.St → XK) (ta : TE) (t : TA) : TE := fun σ H Q => ta σ H fun x H1 => x = .ref C ∧ t σ H1 fun vs H2 => sp vs H2 Q (E σ)
section
variable {X : Cx} {CX : CXT} {k : Nat} {C p g : Addr} {mc : Value} {sp : Sp} {E : L2.St → XK} {o e : Expr} {es : List Expr} {m : Str} {pos apos : Pos} {ta : TE} {t : TA} {pl : Sem Bool} {pins : List (Addr × Obj)} {σ : L2.St} {H : Hp} {s : Shared}
theorem getmethsm_ok {A : Around} {E : Value → Shared → Prop} {Q : Value × List Value → Shared → Prop} (I : Inv X pins σ H s) (r : ClX.CRead X.K C mc) (c : SMet X.K C mc m p g)
    (h : ∀ s', Inv X pins σ H s' → Q (.ref g, []) s') : wpAny (model X.prog X.w) A (getMethod (.ref C) m pl) Q E s := by
  obtain ⟨rest, hp⟩ := c.rc
  refine PySem.W.method_cls I.kIn r.ga (PySem.W.cls_bind I.kIn r.rd c.at_ ?_)
  refine wpAny_call (PySem.W.sm_get (s := { s with toks := s.toks + 1 }) I.kIn hp (PySem.W.handed_on rfl ?_))
  exact h _ (I.tok _)
theorem pe_smeth (he : PE X o ta) (r : ClX.CRead X.K C mc) (c : SMet X.K C mc m p g) (F : FnR X.prog X.w X.K X.mg X.base CX k g sp) (hr : Room k X.A) (hx : ∀ σ, PassesAt CX X σ (E σ)) (ha : PA X (e :: es) t)
    (hst : starEach (e :: es) X.env = (false, eval e X.env) :: starEach es X.env := by rfl) (hpl : (backTo pos (starEach es X.env)).any (·.1) = false := by rfl)
    (ht : eval (.Call (.Attribute o m apos) (e :: es) [] pos) X.env = (do
      let ov ← eval o X.env
      standAt apos.atName
      let (f, first) ← holding [ov] (getMethod ov m pl)
      callWith pos f first (backTo pos (starEach (e :: es) X.env)) (backToKw pos (keywordEach [] X.env))) := by rfl) :
    PE X (.Call (.Attribute o m apos) (e :: es) [] pos) (tSMeth C sp E ta t) := by
  refine ⟨fun pins s σ H Q I h => ?_⟩
  refine PySem.W.methodCall_KW (pl := pl) (thn (he.run pins s σ H _ I h) fun u s1 ⟨x, H1, I1, rx, ex, q⟩ => ?_) ht
  subst ex
  obtain rfl : u = Value.ref C := rx
  refine getmethsm_ok I1 r c fun s2 I2 => ?_
  refine PySem.W.callWith_K (first := []) (h₀ := X.base) I2.ok.mod.kin c.kp (thn (ha.run pos pins s2 σ H1 _ I2 q) fun us s3 ⟨vs, H2, I3, rv, q2⟩ => ⟨I3.kIn, ?_⟩) hst hpl
  exact run_Fn (us := us) (vs := vs) F hr (hx σ) I3 rv q2
end
/-- a staticmethod that may raise -/
structure SmX (P : Program) (w : World) (K : PySem.W.Frag) (mg : Str → Option Value) (base : Heap) (C mt : Str) (k : Nat) (φ : PX) : Prop where
  ex : ∃ Ca mc p g, mg C = some (.ref Ca) ∧ ClX.CRead K Ca mc ∧ SMet K Ca mc mt p g ∧ FnR P w K mg base (L2.CX P w) k g (SpX K mg φ)
section
variable {X : Cx} {W : WX} {pos : Pos}
theorem je_smethX {C mt : Str} {k : Nat} {φ : PX} {e : Expr} {es : List Expr} {va : VA} {ppos apos : Pos} {pl : Sem Bool} (tk : Takes X W) (G : SmX X.prog X.w X.K X.mg X.base C mt k φ) (hr : Room k X.A) (hg : Gl X C) (ha : JA X W (e :: es) va)
    (hdb : (C == ("__debug__" : Str)) = false := by decide)
    (hst : starEach (e :: es) X.env = (false, eval e X.env) :: starEach es X.env := by rfl) (hpl : (backTo pos (starEach es X.env)).any (·.1) = false := by rfl)
    (ht : eval (.Call (.Attribute (.Name C ppos) mt apos) (e :: es) [] pos) X.env = (do
      let ov ← eval (.Name C ppos) X.env
      standAt apos.atName
      let (f, first) ← holding [ov] (getMethod ov mt pl)
      callWith pos f first (backTo pos (starEach (e :: es) X.env)) (backToKw pos (keywordEach [] X.env))) := by rfl) :
    JE X W (.Call (.Attribute (.Name C ppos) mt apos) (e :: es) [] pos) (vCallX φ va) := by
  obtain ⟨Ca, mc, p, g, h1, h2, h3, h4⟩ := G.ex; obtain ⟨ta, p1, s1⟩ := ha
  refine ⟨_, pe_smeth (E := WE W) (pe_glob (v := V.ref Ca) hg h1 rfl hdb) h2 h3 h4 hr (fun σ => passAt tk σ) p1 hst hpl ht, fun σ F H s m k x l en hv hx Q q => ?_⟩
  refine ⟨rfl, s1 σ F H s m _ x l en hv hx _ fun us ds F2 H2 m2 t2 r2 k2 => ?_⟩
  exact ⟨F2, ds, m2, k, x, t2.le, r2, t2.mr, k2, fun v d F' H' m' st r hk => q v d F' H' m' (t2.trans st) r hk, fun cls dd e F' H' m' st r hk => hx cls dd e F' H' m' (t2.trans st) r hk⟩
end
end Ts
/-! ### the head: staticmethods -/
namespace Ts
open PySem PySem.Spec PyProof.Rows L2
/-- a staticmethod: its class, its name, what its def says -/
structure SDf where
  C : Str
  m : Str
  qual : Str
  params : Arguments
  body : List Stmt
  scope : Scope
def smAd (K : PySem.W.Frag) (C m : Str) : Addr := match PySem.W.recIn K (He.ma K (He.ga K C) m) "staticmethod" with
  | some (.ref g :: _) => g
  | _ => 0
def fnSm (K : PySem.W.Frag) (d : SDf) : He.FnW := match K.lookup (smAd K d.C d.m) with
  | some ⟨_, _, .func fd, _⟩ => some (fd.name, fd.qualname, fd.params, fd.body, fd.scope, fd.globals, fd.closure, fd.builtins)
  | _ => none
def SDf.val (d : SDf) : He.FnW := some (d.m, d.qual, d.params, .stmts d.body, d.scope, mainGlobals, [], builtinsNs)
def foundS (C p : Addr) : Option PySem.W.CFound → Bool
  | some (.get (.builtin s) (.ref q) .none (.ref D)) => decide (s = "staticmethod.__get__") && (decide (q = p) && decide (D = C))
  | _ => false
theorem foundS_ok {C p : Addr} {o : Option PySem.W.CFound} (h : foundS C p o = true) : o = some (.get (.builtin "staticmethod.__get__") (.ref p) .none (.ref C)) := by
  unfold foundS at h
  split at h
  · simp only [Bool.and_eq_true, decide_eq_true_eq] at h
    obtain ⟨h1, h2, h3⟩ := h
    subst h1 h2 h3
    rfl
  · cases h
def recS (g : Addr) : Option (List Value) → Bool
  | some (.ref q :: _) => decide (q = g)
  | _ => false
theorem recS_ok {g : Addr} {o : Option (List Value)} (h : recS g o = true) : ∃ rest, o = some (.ref g :: rest) := by
  unfold recS at h
  split at h
  · rw [decide_eq_true_eq] at h
    subst h
    exact ⟨_, rfl⟩
  · cases h
def SDf.okB (K : PySem.W.Frag) (d : SDf) : Bool := (He.Fa.glo d.C).ok K && (PySem.W.readsIn K (He.ga K d.C) (.type "type") && (decide (PySem.W.specialIn K (.ref (He.ga K d.C)) "__getattribute__" = some (some (.builtin "type.__getattribute__"))) &&
  (foundS (He.ga K d.C) (He.ma K (He.ga K d.C) d.m) (PySem.W.findCls K (.ref (He.ga K d.C)) (.type "type") d.m) && (recS (smAd K d.C d.m) (PySem.W.recIn K (He.ma K (He.ga K d.C) d.m) "staticmethod") && (PySem.W.keepIn K (.ref (smAd K d.C d.m)) &&
  (match K.lookup (smAd K d.C d.m) with
  | some ⟨_, _, .func fd, _⟩ => PySem.W.codeIn K fd.code d.qual && (He.dflB K fd.defaults [] && He.kwdB K fd.kwdefaults [])
  | _ => false))))))
/-- all that is known of it -/
structure SmF (K : PySem.W.Frag) (mg : Str → Option Value) (d : SDf) : Prop where
  ex : ∃ C p g fd, mg d.C = some (.ref C) ∧ ClX.CRead K C (.type "type") ∧ SMet K C (.type "type") d.m p g ∧ FunD K d.m d.qual d.params d.body d.scope [] [] g fd
theorem smF_of {K : PySem.W.Frag} {h : Heap} {mg : Str → Option Value} {d : SDf} (X : K.In h) (G : h.Ns mainGlobals mg) (e : fnSm K d = d.val) (c : d.okB K = true) : SmF K mg d := by
  unfold SDf.okB at c
  obtain ⟨c1, c⟩ := He.ba c
  obtain ⟨c2, c⟩ := He.ba c
  obtain ⟨c3, c⟩ := He.ba c
  obtain ⟨c4, c⟩ := He.ba c
  obtain ⟨c5, c⟩ := He.ba c
  obtain ⟨c6, c⟩ := He.ba c
  rw [decide_eq_true_eq] at c3
  refine ⟨He.ga K d.C, He.ma K (He.ga K d.C) d.m, smAd K d.C d.m, ?_⟩
  unfold fnSm at e
  cases q : K.lookup (smAd K d.C d.m) with
  | none => rw [q] at c; cases c
  | some o =>
    obtain ⟨oc, od, dt, osl⟩ := o
    rw [q] at c e
    cases dt with
    | func fd =>
      obtain ⟨n1, n2, n3, n4, n5, n6, n7, n8, n9, n10, n11, n12, n13, n14, n15⟩ := fd
      have e2 : (some (n1, n2, n3, n4, n5, n6, n7, n15) : He.FnW) = some (d.m, d.qual, d.params, .stmts d.body, d.scope, mainGlobals, [], builtinsNs) := e
      simp only [Option.some.injEq, Prod.mk.injEq] at e2
      obtain ⟨h1, h2, h3, h4, h5, h6, h7, h8⟩ := e2
      subst h1 h2 h3 h4 h5 h6 h7 h8
      have c7 : (PySem.W.codeIn K n13 d.qual && (He.dflB K n8 [] && He.kwdB K n9 [])) = true := c
      obtain ⟨k1, k2⟩ := He.ba c7
      obtain ⟨k3, k4⟩ := He.ba k2
      exact ⟨_, He.glo_ok X G c1, ⟨c2, c3⟩, ⟨foundS_ok c4, recS_ok c5, c6⟩, ⟨oc, od, n8, n9, n10, n11, n12, n13, n14, osl, rfl, q, k1, He.dflB_ok k3, He.kwdB_ok k4⟩, c6⟩
    | _ => cases c
theorem SmX.mk1 {P : Program} {w : World} {K : PySem.W.Frag} {mg : Str → Option Value} {base : Heap} {C mt : Str} {k : Nat} {φ : PX} {Ca p g : Addr} {mc : Value} {fd : FuncData} {ps : List Str} (hm : mg C = some (.ref Ca)) (r : ClX.CRead K Ca mc) (c : SMet K Ca mc mt p g) (b : Binds K fd ps []) (F : FnOk P w K mg base (L2.CX P w) k g fd ps (SpX K mg φ)) : SmX P w K mg base C mt k φ :=
  ⟨Ca, mc, p, g, hm, r, c, (F.raw b .nil).imp fun vs H Q E h => by rw [List.append_nil]; exact h⟩
/-! the hook: as hookX, with staticmethods -/
abbrev AlY : Type := AlX × Bool × List He.FnW
structure SaysY (fa : List He.Fa) (fn : List He.DefD) (tb : List Tb) (xs : List XDef) (ss : List SDf) (file : Str) (K : PySem.W.Frag) : Prop extends SaysX fa fn tb xs file K where
  sb : ss.all (fun d => d.okB K) = true
  sv : (ss.map fun d => fnSm K d) = ss.map SDf.val
theorem SaysY.smF {fa : List He.Fa} {fn : List He.DefD} {tb : List Tb} {xs : List XDef} {ss : List SDf} {file : Str} {K : PySem.W.Frag} {h : Heap} {mg : Str → Option Value} (c : SaysY fa fn tb xs ss file K) (X : K.In h) (G : h.Ns mainGlobals mg) (i : Nat) {d : SDf} (hi : ss[i]? = some d) : SmF K mg d := by
  have m := List.mem_of_getElem? hi
  exact smF_of X G (List.map_inj_left.mp c.sv d m) (List.all_eq_true.mp c.sb d m)
/-! ### C(k2 = .., k1 = ..): two keywords in the other order -/
def swapX (φ : PX) : PX := fun ds m k x => match ds with
  | [p, b, a] => φ [p, a, b] m k x
  | _ => False
section
variable {P : Program} {w : World} {K : PySem.W.Frag} {mg : Str → Option Value} {base : Heap} {C k1 k2 : Str} {k : Nat} {Ca f : Addr} {fd : FuncData} {ps : List Str}
theorem MkKC.swap {φ : PX} (hm : mg C = some (.ref Ca)) (M : L2.Mk K Ca f) (F : FnOk P w K mg base (L2.CX P w) k f fd ps (SpX K mg φ)) (hb : ∀ (s : Shared) (u w1 w2 : Value), K.In s.heap → BindsTo s fd ⟨[u], [k1, k2].zip [w1, w2]⟩ (ps.zip [u, w2, w1])) : MkKC P w K mg base C k [k1, k2] (swapX φ) := by
  refine ⟨Ca, f, hm, M, fun A outer s H a ws zs Q E hr e0 r hl hsp => ?_⟩
  obtain ⟨F0, ds, m, kk, x, l, rl, mr, hp, hq, hx⟩ := hsp
  match zs, ws, r, hl with
  | [z1, z2], [w1, w2], .cons r1 (.cons r2 .nil), _ =>
    have hp2 : ∃ d0 d1 d2, ds = [d0, d1, d2] ∧ φ [d0, d2, d1] m kk x := by
      unfold swapX at hp
      split at hp
      · exact ⟨_, _, _, rfl, hp⟩
      · exact hp.elim
    obtain ⟨d0, d1, d2, rfl, hp2⟩ := hp2
    have rl2 : RpL K mg F0 [V.ref a, z2, z1] [d0, d2, d1] := by
      cases rl with
      | cons a0 rl =>
        cases rl with
        | cons a1 rl =>
          cases rl with
          | cons a2 rl => exact .cons a0 (.cons a2 (.cons a1 .nil))
    exact F.run A outer s H ⟨[.ref a], [k1, k2].zip [w1, w2]⟩ [.ref a, w2, w1] [.ref a, z2, z1] Q E hr e0 (hb s _ w1 w2 (e0.mod.kin.keeps fun b o e => (e0.bs b o e).1)) (.cons rfl (.cons r2 (.cons r1 .nil))) ⟨F0, [d0, d2, d1], m, kk, x, l, rl2, mr, hp2, hq, hx⟩
theorem bindsSw {x qual : Str} {params : Arguments} {body : List Stmt} {scope : Scope} {dvs : List V} (F : FunD K x qual params body scope dvs [] f fd) (hd : dvs ≠ [])
    (h : ∀ (T : Addr) (kV doc pm : Value) (an : Option Addr) (cdv ct u w1 w2 : Value) (its : List Value), its.length = dvs.length → ∃ k, bindArgs (PySem.W.fnOf x qual params body scope (.ref T) kV doc pm an cdv ct) ⟨[u], [k1, k2].zip [w1, w2]⟩ = seqItems? (.ref T) >>= k ∧ k (some its.toArray) = pure (ps.zip [u, w2, w1])) :
    ∀ (s : Shared) (u w1 w2 : Value), K.In s.heap → BindsTo s fd ⟨[u], [k1, k2].zip [w1, w2]⟩ (ps.zip [u, w2, w1]) := fun s u w1 w2 X => by
  obtain ⟨oc, od, dV, kV, doc, pm, an, cdv, ct, osl, rfl, lk, hcd, hD, hK⟩ := F.ex
  rcases hD with ⟨e, _⟩ | ⟨_, T, o, its, m, rfl, lT, oT, rT⟩
  · exact absurd e hd
  · obtain ⟨k, e1, e2⟩ := h T kV doc pm an cdv ct u w1 w2 its rT.length.symm
    exact BindsTo.of_looks fun M => by
      rw [e1]
      exact looks_items X lT oT (.of_pure e2)
end
end Ts
/-! ### isinstance(x, C), C an own class -/
namespace Ts
open PySem PySem.Spec PyProof.Rows L2
def isiT (C : Str) : Tb := fun K => (He.Fa.glo C).ok K && (decide (PySem.W.findIn K (.ref (He.ga K C)) "__class__" = some (some (.builtin "object.__class__"))) && (decide (PySem.W.specialIn K (.builtin "object.__class__") "__get__" = some (some (.builtin "getset_descriptor.__get__"))) &&
  (decide (PySem.W.takesIn K (.builtin "object.__class__") = some true) && (decide (PySem.W.mroIn K (He.ga K C) (.type "object") = some true) && ((PySem.W.clsIn K (He.ga K C)).isSome && decide (PySem.W.typeIn K (.ref (He.ga K C)) = some (.type "type")))))))
/-- a class of which isinstance may ask -/
structure IsC (K : PySem.W.Frag) (mg : Str → Option Value) (C : Str) : Prop where
  ex : ∃ Ca, mg C = some (.ref Ca) ∧ PySem.W.findIn K (.ref Ca) "__class__" = some (some (.builtin "object.__class__")) ∧ PySem.W.specialIn K (.builtin "object.__class__") "__get__" = some (some (.builtin "getset_descriptor.__get__")) ∧
    PySem.W.takesIn K (.builtin "object.__class__") = some true ∧ PySem.W.mroIn K Ca (.type "object") = some true ∧ ((PySem.W.clsIn K Ca).isSome && PySem.W.typeIn K (.ref Ca) == some (.type "type")) = true
theorem isC_of {K : PySem.W.Frag} {h : Heap} {mg : Str → Option Value} {C : Str} (X : K.In h) (G : h.Ns mainGlobals mg) (c : isiT C K = true) : IsC K mg C := by
  unfold isiT at c
  obtain ⟨c1, c⟩ := He.ba c
  obtain ⟨c2, c⟩ := He.ba c
  obtain ⟨c3, c⟩ := He.ba c
  obtain ⟨c4, c⟩ := He.ba c
  obtain ⟨c5, c⟩ := He.ba c
  obtain ⟨c6, c7⟩ := He.ba c
  rw [decide_eq_true_eq] at c2 c3 c4 c5 c7
  exact ⟨He.ga K C, He.glo_ok X G c1, c2, c3, c4, c5, by rw [c6, c7]; rfl⟩
/-- is it an instance of C? -/
def isiD (C : Str) (m : Mem) (d : D) (k : Bool → Prop) : Prop := match asI C m d with
  | some _ => k true
  | none => isDit d = false ∧ onO (tyM m d) fun _ => k false
@[reducible] def vIsiC (C : Str) (a : VE) : VE := fun s m k x => a s m (fun d m1 => isiD C m1 d fun b => k (.bl b) m1) x
section
variable {X : Cx} {W : WX} {pos : Pos}
theorem je_isiC {C : Str} {fl : List Str} {a : Expr} {va : VE} {p p2 : Pos} (c : ClN X.K X.mg C fl) (ic : IsC X.K X.mg C) (hg : Gl X "isinstance") (hm : X.mg "isinstance" = none) (hgx : Gl X C) (ha : JE X W a va)
    (hdb : (C == ("__debug__" : Str)) = false := by decide) (he : starEach [a, .Name C p2] X.env = (false, eval a X.env) :: starEach [.Name C p2] X.env := by rfl) :
    JE X W (.Call (.Name "isinstance" p) [a, .Name C p2] [] pos) (vIsiC C va) := by
  obtain ⟨ta, p1, s1⟩ := ha
  obtain ⟨Ca, h1, hcl, _⟩ := c.ex
  obtain ⟨Ca', h2, i1, i2, i3, i4, i5⟩ := ic.ex
  rw [h1] at h2
  cases h2
  refine ⟨_, pe_callB call_isi hg hm (by decide +kernel) (pa_cons p1 (pa_cons (pe_glob (v := V.ref Ca) hgx h1 rfl hdb) pa_nil) he) (he := he), fun σ F H s m k x l en hv hx Q q => s1 σ F H s m _ x l en hv hx _ fun v d F1 H1 m1 t1 r1 k1 => ?_⟩
  unfold isiD at k1
  split at k1
  · rename_i fs e1
    obtain ⟨b, Ca', dx, xs, rfl, hm, hH, rk⟩ := r1.asIns t1.le t1.mr e1
    rw [h1] at hm
    cases hm
    exact ⟨.ref b, .ref Ca, .ref Ca, .ref Ca, true, rfl, .own Ca, .base (.ins hH hcl i1 i2 i3 i4), by unfold PySem.W.kitOne; rw [if_pos (by simp)], q _ _ F1 H1 m1 t1 (.bl _) k1⟩
  · obtain ⟨hd, k1⟩ := k1
    obtain ⟨t, ht, k1⟩ := onO_of k1
    have kt : PySem.W.kitOne X.K (.type t.name) (.ref Ca) = some false := by
      unfold PySem.W.kitOne PySem.W.kitCls
      rw [if_neg (by simp)]
      dsimp only
      rw [if_pos i5]
      cases t <;> rfl
    exact ⟨v, .ref Ca, .type t.name, .ref Ca, false, rfl, .own Ca, tyX_of t1.le t1.mr r1 ht (fun kvs z => by subst z; cases hd), kt, q _ _ F1 H1 m1 t1 (.bl _) k1⟩
end
end Ts
/-! ### defaults: an empty tuple; a class made with the last arguments left out -/
namespace Ts
open PySem PySem.Spec PyProof.Rows L2
def emB (K : PySem.W.Frag) (a : Addr) : Bool := match K.lookup a with
  | some ⟨.type c, none, .seq its _, _⟩ => decide (c = "tuple") && its.toList.isEmpty
  | _ => false
/-- the default at this place is an empty tuple -/
def emT (f : Str × Option Str) (i : Nat) : Tb := fun K => emB K (He.dflAt f i K)
theorem emB_ok {K : PySem.W.Frag} {a : Addr} (h : emB K a = true) (H : Hp) : SqN K H a [] := by
  unfold emB at h
  split at h
  · rename_i c its n sl e
    rw [Bool.and_eq_true, decide_eq_true_eq, List.isEmpty_iff] at h
    obtain ⟨h1, h2⟩ := h
    subst h1
    have hz : its.size = 0 := by rw [← Array.length_toList, h2]; rfl
    exact .inr ⟨_, its, n, e, rfl, rfl, rfl, by rw [hz]; exact Nat.zero_le _, by rw [h2]; exact .nil⟩
  · cases h
theorem emT_ok {K : PySem.W.Frag} {mg : Str → Option Value} {f : Str × Option Str} {i : Nat} (h : emT f i K = true) : ∀ F, RpL K mg F [(He.Dv.v K (.adr (He.dflAt f i)))] [D.tup []] := fun F =>
  .cons (.tup (emB_ok h F) .nil) .nil
section
variable {P : Program} {w : World} {K : PySem.W.Frag} {mg : Str → Option Value} {base : Heap} {C mt : Str} {k : Nat} {Ca f : Addr} {fd : FuncData} {ps : List Str} {dvs : List V} {des : List D}
theorem MkXC.mkD {φ : PX} (hm : mg C = some (.ref Ca)) (M : L2.Mk K Ca f) (hd : ∀ F, RpL K mg F dvs des) (b : ∃ ds, Vals dvs ds ∧ Binds K fd ps ds) (F : FnOk P w K mg base (L2.CX P w) k f fd ps (SpX K mg φ)) : MkXC P w K mg base C k (fun ds m k x => φ (ds ++ des) m k x) := by
  obtain ⟨ds, hv, hb⟩ := b
  exact ⟨Ca, f, hm, M, (F.raw hb hv).imp fun vs H Q E ⟨F, ds, m, k, x, l, r, mr, h, q⟩ => ⟨F, ds ++ des, m, k, x, l, r.app (hd F), mr, h, q⟩⟩
end
end Ts
/-! ### a list, frozen or of the memory, or a tuple, walked as it stands -/
namespace Ts
open PySem PySem.Spec PyProof.Rows L2
@[reducible] def vWalkI (a : VE) : VI := fun s m k x => a s m (fun d m' => onO (itemsOf m' d) fun es => k es (fun m2 => itemsOf m2 d = some es) m') x
section
variable {X : Cx} {W : WX} {tg e : Expr} {ve : VE}
theorem ItD.dep {K : PySem.W.Frag} {mg : Str → Option Value} {J : It} {F : Hp} {ds : List D} {dep : Mem → Prop} (h : ItD K mg J F (fun _ => True) ds) : ItD K mg J F dep ds := fun F' H' m' i gr le mr _ => h F' H' m' i gr le mr trivial
theorem ji_items (h : JE X W e ve) : JI X W tg e (vWalkI ve) := by
  obtain ⟨t, p, s1⟩ := h
  refine ⟨_, pi_seq p, fun σ F H s m k x l en hv hx R q => s1 σ F H s m _ x l en hv hx _ fun v d F1 H1 m1 t1 r1 k1 => ?_⟩
  obtain ⟨es, h1, k1⟩ := onO_of k1
  cases hd : isTupD d with
  | true =>
    obtain ⟨ts, a, xs, hi, e', sq, rl⟩ := isTupD_of hd r1
    rw [hi] at h1
    cases h1
    cases e'
    exact .inr (.inl ⟨a, rfl, ⟨xs, t1.le.sqt sq⟩, q _ _ _ F1 H1 m1 t1 (it_tup sq rl).dep k1⟩)
  | false =>
    have asl : ∀ m, itemsOf m d = asL m d := fun m => by
      cases d with
      | tup ts => cases hd
      | pr ts => cases hd
      | _ => rfl
    have h2 := h1
    rw [asl] at h2
    obtain ⟨a, xs, e', sq, rl⟩ := r1.asL t1.le t1.mr h2
    cases e'
    refine .inl ⟨a, rfl, ⟨xs, sq⟩, q _ _ _ F1 H1 m1 t1 (fun F' H' m' i gr le mr hdep => ?_) k1⟩
    rw [asl] at hdep
    obtain ⟨a2, xs2, e2, sq2, rl2⟩ := (r1.mono gr).asL le mr hdep
    cases e2
    refine ⟨fun hi => ?_, fun hi => ⟨xs2, sq2, by rw [rl2.len]; exact hi⟩, fun x H2 hi y => ?_⟩
    · have hi' : i < xs2.length := by rw [rl2.len]; exact hi
      exact ⟨xs2, xs2[i], sq2, List.getElem?_eq_getElem hi'⟩
    · obtain ⟨eH, y⟩ := y
      subst eH
      obtain ⟨d, hd, rd⟩ := rl2.atV (y xs2 sq2)
      exact ⟨d, F', hd, Step.refl le, rd⟩
end
/-! items stand in a larger memory -/
theorem items_ne {m : Mem} {q : Addr} {o : MO} {d : D} {xs : List D} (h : itemsOf m d = some xs) (hq : d ≠ .ref q) : itemsOf (mset m q o) d = some xs := by
  cases d with
  | ref p =>
    have : p ≠ q := fun z => hq (by rw [z])
    rw [its_rf] at h ⊢
    rw [mset_ne this]
    exact h
  | _ => exact h
theorem items_nr {m : Mem} {q : Addr} {d : D} {xs : List D} (h : itemsOf m d = some xs) (hq : m q = none) : d ≠ .ref q := fun z => by
  subst z
  rw [its_rf, hq] at h
  cases h
theorem items_new {m : Mem} {q : Addr} {o : MO} {d : D} {xs : List D} (h : itemsOf m d = some xs) (hq : m q = none) : itemsOf (mset m q o) d = some xs := items_ne h (items_nr h hq)
theorem items_ni {m : Mem} {q : Addr} {C : Str} {fs : List (Str × D)} {d : D} {xs : List D} (h : itemsOf m d = some xs) (hq : m q = some (.ins C fs)) : d ≠ .ref q := fun z => by
  subst z
  rw [its_rf, hq] at h
  cases h
end Ts
/-! ### the head: only what the law needs is looked at -/
namespace Ts
open PySem PySem.Spec PyProof.Rows L2
/-- the new ones among some addresses; seen: bits -/
def addN (seen : Nat) (acc : List Addr) : List Addr → (Nat → List Addr → List Addr) → List Addr
  | [], k => k seen acc
  | a :: r, k => HandSHeadRun.frNat a fun a => bif Nat.beq (Nat.land (Nat.shiftRight seen a) 1) 0 then HandSHeadRun.frNat (Nat.lor seen (Nat.shiftLeft 1 a)) fun s => addN s (a :: acc) r k else addN seen acc r k
def refN (g : Addr → Option Obj) (front : List Addr) : List Addr := front.flatMap fun a => bif Nat.beq a mainGlobals then [] else match g a with
  | some o => He.refsD o
  | none => []
def goN (g : Addr → Option Obj) : Nat → Nat → List Addr → List Addr → List Addr
  | 0, _, all, _ => all
  | n + 1, seen, all, front => addN seen [] (refN g front) fun s new => goN g n s (new ++ all) new
/-- the objects of some names, and what they name -/
def asN (g : Addr → Option Obj) (need : List Str) (n : Nat) : List Addr := addN 0 [] (mainGlobals :: need.map (He.ga (He.frG g [mainGlobals]))) fun s new => goN g n s new new
def asP (g : Addr → Option Obj) (as : List Addr) : List Addr := match lawTab (He.frG g as) with
  | some (_, P) => cStatics :: as.filter fun a => a != P
  | none => cStatics :: as
abbrev asZ (g : Addr → Option Obj) (need : List Str) (n : Nat) : List Addr := asP g (asN g need n)
def obsZK (fa : List He.Fa) (fn : List He.DefD) (tb : List Tb) (xs : List XDef) (ss : List SDf) (file : Str) (g : Addr → Option Obj) (K : PySem.W.Frag) : AlY :=
  ((He.obsD fa fn K, boolX tb xs file K && tabOk g K, xs.map fun d => fnC K d.x), ss.all (fun d => d.okB K), ss.map fun d => fnSm K d)
def obsZG (need : List Str) (n : Nat) (fa : List He.Fa) (fn : List He.DefD) (tb : List Tb) (xs : List XDef) (ss : List SDf) (file : Str) (g : Addr → Option Obj) : AlY :=
  obsZK fa fn tb xs ss file g (He.frG g (asZ g need n))
def hookZ (need : List Str) (n : Nat) (fa : List He.Fa) (fn : List He.DefD) (tb : List Tb) (xs : List XDef) (ss : List SDf) (file : Str) : PySem.W.Hook where
  α := AlY
  obs := fun s => obsZG need n fa fn tb xs ss file s.heap.get?
  val := fun _ => ((He.valD fn, true, xs.map XDef.val), true, ss.map SDf.val)
  says := fun _ h => ∃ (K : PySem.W.Frag) (c P : Addr), K.In h ∧ SaysY fa fn tb xs ss file K ∧ lawTab K = some (c, P) ∧ PySem.W.codeHdIn K c P = true ∧ K.lookup P = none ∧ h.get? P = some { cls := .none, data := .fields #[] }
  of := fun _ s e => by
    unfold obsZG obsZK at e
    obtain ⟨e0, e6⟩ := Prod.mk.inj e
    obtain ⟨e7, e8⟩ := Prod.mk.inj e6
    obtain ⟨e1, e2⟩ := Prod.mk.inj e0
    obtain ⟨e2, e3⟩ := Prod.mk.inj e2
    obtain ⟨e4, e5⟩ := Bool.and_eq_true_iff.mp e2
    unfold tabOk at e5
    split at e5
    · rename_i c P q
      simp only [Bool.and_eq_true] at e5
      obtain ⟨⟨h1, h2⟩, h3⟩ := e5
      exact ⟨_, c, P, He.frG_in, ⟨⟨e1, e4, e3⟩, e7, e8⟩, q, h1, Option.isNone_iff_eq_none.mp h2, emptyT_ok h3⟩
    · cases e5
  keeps := fun _ _ _ ⟨K, c, P, hK, x, q, h1, h2, h3⟩ k => ⟨K, c, P, PySem.W.Frag.In.keeps hK k, x, q, h1, h2, k _ _ h3⟩
theorem obsZG_eq {need : List Str} {n : Nat} {fa : List He.Fa} {fn : List He.DefD} {tb : List Tb} {xs : List XDef} {ss : List SDf} {file : Str} {g : Addr → Option Obj} {s : Shared} (h : ∀ a, g a = s.heap.get? a) : obsZG need n fa fn tb xs ss file g = (hookZ need n fa fn tb xs ss file).obs s := by
  have e : g = s.heap.get? := funext h
  rw [e] <;> rfl
/-! the head's three looks apart: less is held at a time -/
theorem mapT {α β γ δ : Type} {z : Option α} {f : α → β} {g : α → γ} {h : α → δ} {a : β} {b : γ} {c : δ} (h1 : z.map f = some a) (h2 : z.map g = some b) (h3 : z.map h = some c) : z.map (fun s => (f s, g s, h s)) = some (a, b, c) := by
  cases z with
  | none => cases h1
  | some x => cases h1; cases h2; cases h3; rfl
theorem mapE {α β γ : Type} {z : Option α} {f : α → β × γ} {a : β} {b : γ} (h1 : z.map (fun s => (f s).1) = some a) (h2 : z.map (fun s => (f s).2) = some b) : z.map f = some (a, b) := by
  cases z with
  | none => cases h1
  | some x => cases h1; cases h2; rfl
end Ts
/-! ### x, *y = a tuple -/
namespace Ts
open PySem PySem.Spec PyProof.Rows L2
section
variable {prog : Program} {w : World} {A : Around} {E : Value → Shared → Prop} {s : Shared}
end
section
variable {X : Cx} {W : WX} {pos : Pos}
/-- x, *y = a tuple -/
def stD : D → (D → List D → Prop) → Prop
  | .tup (d :: ds), k => k d ds
  | .pr (d :: ds), k => k d ds
  | _, _ => False
@[reducible] def vStar (i j : Nat) (a : VE) : VS := fun s m G => a s m (fun d m' => stD d fun x xs => xs.length ≤ 100000 ∧ G.nx ((s.set i (some x)).set j (some (.lst xs))) m') fun e m' => G.ex e s m'
end
end Ts
/-! ### dict(d) in the memory; d.clear() -/
namespace Ts
open PySem PySem.Spec PyProof.Rows L2
section
variable {X : Cx} {W : WX} {pos : Pos}
/-- dict(d): a new dict of the memory -/
def oDictO : OA := fun ds m k => match ds with
  | [d] => onO (asK m d) fun kvs => ∀ p, m p = none → k (.ref p) (mset m p (.dic kvs))
  | _ => False
theorem jo_dictO : JOA X (.type "dict") oDictO := ⟨_, call_dictD, fun F H m xs us k l mr r h Q q => by
  unfold oDictO at h
  split at h
  · obtain ⟨u, rfl, a⟩ := r.one
    obtain ⟨kvs, h1, h⟩ := onO_of h
    obtain ⟨p, xs, rfl, rd, rk⟩ := a.asKD l mr h1
    exact ⟨p, xs, rfl, rd, fun n hn => q _ _ F _ _ (StM.new l mr hn (u := .dic kvs) ⟨xs, upd_same, rk⟩) (.ref n) (h n (mr.free hn))⟩
  · exact h.elim⟩
/-- d.clear() -/
def oClearD : OM := fun x vs m k => match vs with
  | [] => onD m x fun p _ => k .non (mset m p (.dic []))
  | _ => False
/-- a method without arguments of a dict of the memory -/
@[reducible] def vBM0D (o : OM) (a : VE) : VE := fun s m k x => a s m (fun d m1 => (onD m1 d fun _ _ => True) ∧ o d [] m1 k) x
/-- {k: a, l: b}: a new dict of the memory -/
@[reducible] def vDisp2 (a1 b1 a2 b2 : VE) : VE := fun s m k x => ∀ p, m p = none → a1 s (mset m p (.dic [])) (fun k1 m1 => b1 s m1 (fun d1 m2 => a2 s m2 (fun k2 m3 => b2 s m3 (fun d2 m4 => onO (keyD k1) fun c1 => onO (keyD k2) fun c2 => m4 p = some (.dic []) ∧ k (.ref p) (mset m4 p (.dic (mergeD [] [(c1, d1), (c2, d2)])))) x) x) x) x
/-- frozen, where it is not None -/
@[reducible] def vFzN (a : VE) : VE := fun s m k x => a s m (fun d m' => match d with
  | .ref p => match m' p with
    | some o => o.onF fun d => k d (mdel m' p)
    | none => False
  | .non => k .non m'
  | _ => False) x
end
end Ts
/-! ### match on a tuple: a text, then names -/
namespace Ts
open PySem PySem.Spec PyProof.Rows L2
section
variable {X : Cx} {W : WX}
inductive SlN (X : Cx) : List Nat → List Str → Prop
  | nil : SlN X [] []
  | cons {i : Nat} {x : Str} {is : List Nat} {xs : List Str} : X.N[i]? = some x → Loc X.env.scope x → (X.fn x = true ∨ X.env.scope.names.lookup x = some .local) → SlN X is xs → SlN X (i :: is) (x :: xs)
theorem SlN.len {is : List Nat} {xs : List Str} (h : SlN X is xs) : is.length = xs.length := by
  induction h with
  | nil => rfl
  | cons _ _ _ _ ih => simp [ih]
/-! over data -/
def setsD : List Nat → List D → SL → SL
  | i :: is, d :: ds, s => setsD is ds (s.set i (some d))
  | _, _, s => s
theorem setsD_c (i : Nat) (is : List Nat) (d : D) (ds : List D) (s : SL) : setsD (i :: is) (d :: ds) s = setsD is ds (s.set i (some d)) := rfl
theorem setsD_n (ds : List D) (s : SL) : setsD [] ds s = s := by cases ds <;> rfl
/-- a text first -/
def hdS : List D → (Str → List D → Prop) → Prop
  | .str z :: es, k => k z es
  | _, _ => False
/-- the items of a tuple -/
def tpD : D → (List D → Prop) → Prop
  | .tup ds, k => k ds
  | .pr ds, k => k ds
  | _, _ => False
abbrev VT' := List D → VS
@[reducible] def vMtN : VT' := fun _ => vNext
@[reducible] def vMt (c : Str) (n : Nat) (is : List Nat) (a : VS) (u : VT') : VT' := fun ds s m G => if ds.length = n then hdS ds fun z es => if z = c then a (setsD is es s) m G else u ds s m G else u ds s m G
@[reducible] def vMatchT (a : VE) (v : VT') : VS := fun s m G => a s m (fun d m1 => tpD d fun ds => v ds s m1 G) fun e m' => G.ex e s m'
end
end Ts
/-! ### lambdas that are kept in a list: made, frozen, asked -/
namespace Ts
open PySem PySem.Spec PyProof.Rows L2
/-- the function object of a lambda -/
abbrev lobj (q : Str) (pa : Arguments) (bd : Expr) (sc : Scope) (cl : List (Str × Addr)) (dV doc pm : Value) (c : Addr) (ct : Value) : Obj := PySem.W.kdv_obj "<lambda>" q pa (.expr bd) sc cl dV doc pm c ct
theorem fun_o {P : Program} {w : World} {H : Hp} {h : Heap} {f : Addr} {o : Obj} (e : h.get? f = some o) : ObjOk P w H h f (FunO f o) :=
  ⟨e, ⟨o, e⟩, fun _ _ a b => b _ a⟩
section
variable {X : Cx} {pins : List (Addr × Obj)} {σ : L2.St} {H : Hp} {s : Shared}
/-- the tail of the making, whatever the defaults' tuple is -/
theorem mk_tail {c P : Addr} {q : Str} {ps : Array Value} {pa : Arguments} {bd : Expr} {sc : Scope} {pos : Pos} {dV : Value} {E : Value → Shared → Prop} {Q : Value → Shared → Prop} (I : Inv X pins σ H s) (TB : LamX.TabB X.base X.mg c P) (hcode : X.env.code = .ref c)
    (hP : H P = some (.tbl ps)) (ht : TriplesOk ps.toList) (ha : ∀ (pos : Pos) (cv : Value), codeAmong pos ps.toList = some cv → ∃ c, cv = .ref c ∧ H c = some (LamX.CodeO c q)) (hfree : ∀ y ∈ sc.names, y.2 = .free → ∃ c, X.env.cells.lookup y.1 = some c)
    (go : ∀ (f c' : Addr) (doc pm ct : Value) (H1 : Hp) (s' : Shared), Inv X pins σ (upd H1 f (FunO f (lobj q pa bd sc (cloFrom X.env.cells sc.names []) dV doc pm c' ct))) s' → LamH P q ps H H1 c' → H1 f = none → Q (.ref f) s') :
    wpAny (model X.prog X.w) X.A (makeTail "<lambda>" q pa (.expr bd) sc X.env dV .none none pos pos.line) Q E s := by
  have bm : s.heap.BuiltinsAt X.mg P := TB.bm.keeps I.bk
  have oP : s.heap.get? P = some { cls := .none, data := .fields ps } := I.hok P _ hP
  have gl := I.ok.mod.glob.keeps I.bk
  have cd := TB.code.keeps I.bk
  have clo := closure_ok hfree
  cases hc : codeAmong pos ps.toList with
  | none =>
    refine PySem.W.kdv_makeTail clo I.ok.glob gl hcode cd oP ht hc TB.gP bm fun c1 ct doc h1 tk hx hge hlt hrec htb => ?_
    obtain ⟨c2, oc, vs, t, e2, hoc, hd, hv⟩ := hrec
    cases e2
    have Ia := LamX.inv_table (t' := tk) (more := #[rawInt pos.line, rawInt pos.col, .ref c1]) (h' := h1) I hP (fun b o hb e => hx b o hb e) htb hge ⟨oc, vs, t, hoc, hd, hv⟩
    have eL : (ps ++ #[rawInt pos.line, rawInt pos.col, .ref c1]).toList = ps.toList ++ [rawInt pos.line, rawInt pos.col, .ref c1] := by simp
    have Ib := Ia.laid (a := h1.objs.size) (t' := tk) (o := FunO h1.objs.size (lobj q pa bd sc (cloFrom X.env.cells sc.names []) dV doc ((X.mg "__name__").getD .none) c1 ct)) (fun b u e => Heap.get?_push_of_some (lobj q pa bd sc (cloFrom X.env.cells sc.names []) dV doc ((X.mg "__name__").getD .none) c1 ct) e) (Nat.le_refl _) (fun_o (Heap.get?_push_size _ rfl))
    refine go h1.objs.size c1 doc _ ct _ _ Ib (.inr ⟨_, I.hok.fresh hge, rfl, ?_, ?_⟩) ?_
    · rw [eL]
      exact PySem.TriplesOk_snoc _ _ _ _ ht
    · intro p' cv hcv
      exact LamX.among_app _ ht (by rw [← eL]; exact hcv)
    · exact Ia.hok.fresh (Nat.le_refl _)
  | some cv =>
    obtain ⟨c1, e, hco⟩ := ha pos cv hc
    subst e
    refine PySem.W.kdv_makeTailHit clo I.ok.glob gl hcode cd oP ht hc bm fun ct doc h1 tk hx hsz => ?_
    have Ia : Inv X pins σ H { s with heap := h1, toks := tk } := I.kept hx
    have Ib := Ia.laid (a := h1.objs.size) (t' := tk) (o := FunO h1.objs.size (lobj q pa bd sc (cloFrom X.env.cells sc.names []) dV doc ((X.mg "__name__").getD .none) c1 ct)) (fun b u e => Heap.get?_push_of_some (lobj q pa bd sc (cloFrom X.env.cells sc.names []) dV doc ((X.mg "__name__").getD .none) c1 ct) e) (Nat.le_refl _) (fun_o (Heap.get?_push_size _ rfl))
    exact go h1.objs.size c1 doc _ ct H _ Ib (.inl ⟨rfl, pos, hc⟩) (Ia.hok.fresh (Nat.le_refl _))
end
/-! the lambdas of a frame -/
/-- a lambda: its parameters, its body, its scope, its one parameter with a default -/
structure Lmd where
  pa : Arguments
  bd : Expr
  sc : Scope
  df : Option Str
/-- an object that the lambda L makes in a frame with these cells -/
def LmdO (cl : List (Str × Addr)) (q : Str) (L : Lmd) (o : Obj) : Prop := ∃ (dV doc pm : Value) (c : Addr) (ct : Value), o = lobj q L.pa L.bd L.sc (cloFrom cl L.sc.names []) dV doc pm c ct ∧
  (match L.df with | none => dV = .none | some _ => ∃ t, dV = .ref t)
def LmdP (cl : List (Str × Addr)) (q : Str) (Ls : List Lmd) (j : Nat) (o : Obj) : Prop := ∃ L, Ls[j]? = some L ∧ LmdO cl q L o
/-! the names of a lambda: captured ones, globals, a parameter that the frame does not know -/
structure LamV (N : List Str) (sc scope : Scope) (df : Option Str) : Prop where
  kind : scope.kind = .function
  co : scope.isCoroutine = false
  gen : scope.isGenerator = false
  cel : ∀ y ∈ scope.names, y.2 ≠ .cell
  loc : ∀ y ∈ scope.names, y.2 = .local → y.1 ∉ N
  free : ∀ y ∈ scope.names, y.2 = .free → sc.names.lookup y.1 = some .cell ∨ sc.names.lookup y.1 = some .free
  par : ∀ y, df = some y → scope.names.lookup y = some .local
def lamVB (N : List Str) (sc scope : Scope) (df : Option Str) : Bool :=
  decide (scope.kind = .function) && !scope.isCoroutine && !scope.isGenerator && (scope.names.all fun y => !decide (y.2 = .cell) && (!decide (y.2 = .local) || !N.elem y.1) && (!decide (y.2 = .free) || decide (sc.names.lookup y.1 = some .cell) || decide (sc.names.lookup y.1 = some .free))) &&
    (match df with | none => true | some y => decide (scope.names.lookup y = some .local))
theorem lamV_by {N : List Str} {sc scope : Scope} {df : Option Str} (h : lamVB N sc scope df = true) : LamV N sc scope df := by
  unfold lamVB at h
  obtain ⟨h, h5⟩ := Bool.and_eq_true_iff.mp h
  obtain ⟨h, h4⟩ := Bool.and_eq_true_iff.mp h
  obtain ⟨h, h3⟩ := Bool.and_eq_true_iff.mp h
  obtain ⟨h1, h2⟩ := Bool.and_eq_true_iff.mp h
  have h4 := List.all_eq_true.mp h4
  refine ⟨of_decide_eq_true h1, by simpa using h2, by simpa using h3, fun y hy e => ?_, fun y hy e hm => ?_, fun y hy e => ?_, fun y e => ?_⟩
  · have z := h4 y hy
    rw [e] at z
    simp at z
  · have z := h4 y hy
    rw [e] at z
    simp [hm] at z
  · have z := h4 y hy
    rw [e] at z
    simp at z
    exact z
  · subst e
    exact of_decide_eq_true h5
theorem LamV.has {X : Cx} {scope : Scope} {df : Option Str} (L : LamV X.N X.env.scope scope df) (ok : X.Ok) : ∀ y ∈ scope.names, y.2 = .free → ∃ c, X.env.cells.lookup y.1 = some c := fun y hy e => by
  rcases L.free y hy e with z | z
  · exact ok.has _ (.inl z)
  · exact ok.has _ (.inr z)
/-- a lambda that is kept -/
@[reducible] def vLamV (P : Addr) (q : Str) (LO : Obj → Prop) : VE := fun s m k x => m P = some (.tab q) ∧ ∀ f o, LO o → m f = none → k (.ref f) (mset m f (.fob o))
section
variable {K : PySem.W.Frag} {mg : Str → Option Value} {F H H1 : Hp} {m : Mem}
theorem fob_step {P c f : Addr} {q : Str} {ps : Array Value} {o : Obj} {fd : FuncData} (l : Le F H) (mr : MemR K mg F H m) (hm : m P = some (.tab q)) (hP : H P = some (.tbl ps)) (hc : ∀ (pos : Pos) (cv : Value), codeAmong pos ps.toList = some cv → ∃ c, cv = .ref c ∧ F c = some (LamX.CodeO c q))
    (hL : LamH P q ps H H1 c) (hf : H1 f = none) (ho : o.data = .func fd) (ec : fd.code = .ref c) (eq : fd.qualname = q) (ed : ∀ t, fd.defaults = .ref t → ∃ v, F t = some (.tup [v])) :
    ∃ F1, StM K mg m F H F1 (upd H1 f (FunO f o)) (mset m f (.fob o)) := by
  obtain ⟨F1, st, e1⟩ := lam_stm l mr hm hP hc hL
  exact ⟨F1, st.trans (StM.new st.le st.mr hf ⟨upd_same, fd, c, ho, ec, by rw [eq]; exact e1, fun t e => let ⟨v, z⟩ := ed t e; ⟨v, st.gr _ _ z⟩⟩)⟩
end
section
variable {X : Cx} {W : WX}
theorem je_lamV0 {P c : Addr} {L : Lmd} {pos : Pos} (TB : LamX.TabB X.base X.mg c P) (hcode : X.env.code = .ref c) (LS : LamV X.N X.env.scope L.sc L.df) (hdef : defaultsOf L.pa X.env = ([], [])) (hdf : L.df = none) {LO : Obj → Prop} (hLO : ∀ o, LmdO X.env.cells (X.env.qual ++ "<lambda>") L o → LO o) :
    JE X W (.Lambda L.pa L.bd L.sc pos) (vLamV P (X.env.qual ++ "<lambda>") LO) := by
  refine ⟨fun σ H Q => ∃ F sl m k, Le F H ∧ EnvR X.K X.mg F H σ sl m ∧ vLamV P (X.env.qual ++ "<lambda>") LO sl m k (fun _ _ => False) ∧ ∀ v d F' H' m', StM X.K X.mg m F H F' H' m' → Rp X.K X.mg F' v d → k d m' → Q v H', ⟨fun pins s σ H Q I ⟨F, sl, m, kk, l, en, ⟨hmP, hv⟩, q⟩ => ?_⟩,
    fun σ F H s m k x l en hv hx Q q => ⟨F, s, m, k, l, en, hv, q⟩⟩
  obtain ⟨fP, ps, hP, ht, hc⟩ := en.mem P _ hmP
  refine PySem.W.kla_eval hdef ?_
  rw [makeFunction_eq]
  simp only [List.isEmpty_nil, if_true, List.zip_nil_right, List.filterMap_nil, pure_bind]
  refine mk_tail I TB hcode hP ht (fun pos cv h => let ⟨c, e1, e2⟩ := hc pos cv h; ⟨c, e1, l.ext e2⟩) (LS.has I.ok) fun f c' doc pm ct H1 s' I1 hL hf => ?_
  obtain ⟨F1, st⟩ := fob_step (o := lobj (X.env.qual ++ "<lambda>") L.pa L.bd L.sc (cloFrom X.env.cells L.sc.names []) .none doc pm c' ct) l en.mem hmP hP hc hL hf rfl rfl rfl (fun t e => by cases e)
  refine ⟨.ref f, _, I1, rfl, q _ _ _ _ _ st (.ref f) (hv f _ (hLO _ ⟨_, _, _, _, _, rfl, by rw [hdf]⟩) ?_)⟩
  have n1 : H f = none := by
    rcases hL with ⟨e, _⟩ | ⟨more, nc, e, _⟩
    · rw [← e]; exact hf
    · rw [e] at hf
      by_cases h1 : f = c'
      · rw [h1]; exact nc
      · rw [upd_ne h1] at hf
        by_cases h2 : f = P
        · rw [h2, upd_same] at hf; cases hf
        · rwa [upd_ne h2] at hf
  exact en.mem.free n1
theorem je_lamV1 {P c : Addr} {L : Lmd} {e : Expr} {y : Str} {pos : Pos} (TB : LamX.TabB X.base X.mg c P) (hcode : X.env.code = .ref c) (LS : LamV X.N X.env.scope L.sc L.df) (hda : L.pa.defaults = [e]) (hk0 : L.pa.kw_defaults = []) {z : Int} (pe : PE X e (tC (.int z))) (hdf : L.df = some y) {LO : Obj → Prop} (hLO : ∀ o, LmdO X.env.cells (X.env.qual ++ "<lambda>") L o → LO o) :
    JE X W (.Lambda L.pa L.bd L.sc pos) (vLamV P (X.env.qual ++ "<lambda>") LO) := by
  refine ⟨fun σ H Q => ∃ F sl m k, Le F H ∧ EnvR X.K X.mg F H σ sl m ∧ vLamV P (X.env.qual ++ "<lambda>") LO sl m k (fun _ _ => False) ∧ ∀ v d F' H' m', StM X.K X.mg m F H F' H' m' → Rp X.K X.mg F' v d → k d m' → Q v H', ⟨fun pins s σ H Q I ⟨F, sl, m, kk, l, en, ⟨hmP, hv⟩, q⟩ => ?_⟩,
    fun σ F H s m k x l en hv hx Q q => ⟨F, s, m, k, l, en, hv, q⟩⟩
  refine PySem.W.kdv_lam (by rw [hda]; rfl) hk0 ?_
  rw [hda]
  refine PySem.W.kdv_all1 (thn (pe.run pins s σ H (fun v H1 => v = .int z ∧ H1 = H) I ⟨rfl, rfl⟩) fun u s1 ⟨v, H1, I1, r1, ev, eH⟩ => PySem.W.kdv_all0 ?_)
  subst ev
  rw [eH] at I1
  rw [makeFunction_eq]
  simp only [List.isEmpty_nil, List.isEmpty_cons, if_true, if_false, Bool.false_eq_true, List.zip_nil_right, List.filterMap_nil, pure_bind]
  refine wpAny_bind (wpAny_newTextTuple ?_)
  have I2 := I1.laid (a := s1.heap.objs.size) (t' := s1.toks) (o := .tup [.int z]) (fun b x e => Heap.get?_push_of_some { cls := .type "tuple", data := .seq #[u] } e) (Nat.le_refl _) ⟨(by decide : 1 ≤ sizeLine), [u], .cons r1 .nil, _, Heap.get?_push_size _ rfl, rfl, ⟨_, rfl⟩⟩
  have nT : H s1.heap.objs.size = none := I1.hok.fresh (Nat.le_refl _)
  have st0 := (Step.new (F := F) (o := .tup [.int z]) l nT).stm en.mem
  obtain ⟨fP, ps, hP, ht, hc⟩ := st0.mr P _ hmP
  refine mk_tail I2 TB hcode hP ht (fun pos cv h => let ⟨c, e1, e2⟩ := hc pos cv h; ⟨c, e1, st0.le.ext e2⟩) (LS.has I.ok) fun f c' doc pm ct H1 s' I3 hL hf => ?_
  obtain ⟨F1, st⟩ := fob_step (o := lobj (X.env.qual ++ "<lambda>") L.pa L.bd L.sc (cloFrom X.env.cells L.sc.names []) (.ref s1.heap.objs.size) doc pm c' ct) st0.le st0.mr hmP hP hc hL hf rfl rfl rfl (fun t e => by cases e; exact ⟨_, upd_same⟩)
  refine ⟨.ref f, _, I3, rfl, q _ _ _ _ _ (st0.trans st) (.ref f) (hv f _ (hLO _ ⟨_, _, _, _, _, rfl, by rw [hdf]; exact ⟨_, rfl⟩⟩) ?_)⟩
  have n1 : upd H s1.heap.objs.size (.tup [.int z]) f = none := by
    rcases hL with ⟨e, _⟩ | ⟨more, nc, e, _⟩
    · rw [← e]; exact hf
    · rw [e] at hf
      by_cases h1 : f = c'
      · rw [h1]; exact nc
      · rw [upd_ne h1] at hf
        by_cases h2 : f = P
        · rw [h2, upd_same] at hf; cases hf
        · rwa [upd_ne h2] at hf
  exact st0.mr.free n1
end
end Ts
/-! ### kept lambdas asked: x(f) within [x(f) for f in fs] -/
namespace Ts
open PySem PySem.Spec PyProof.Rows L2
/-! all function objects of the memory are frozen -/
def nofob (m : Mem) : Mem := fun a => match m a with
  | some (.fob _) => none
  | o => o
def fobF (m : Mem) (F : Hp) : Hp := fun a => match m a with
  | some (.fob o) => some (FunO a o)
  | _ => F a
/-- the function objects that a list tells -/
def lmbs (m : Mem) : List D → Option (List (Addr × Obj))
  | [] => some []
  | .ref f :: r => (match m f with
    | some (.fob o) => (lmbs m r).map ((f, o) :: ·)
    | _ => none)
  | _ => none
section
variable {K : PySem.W.Frag} {mg : Str → Option Value} {F H : Hp} {m : Mem}
theorem nofob_le : MLe (nofob m) m := fun a o e => by
  unfold nofob at e
  split at e
  · cases e
  · exact e
theorem fobF_gr (mr : MemR K mg F H m) : Gr F (fobF m F) := fun a u e => by
  unfold fobF
  split
  · rename_i o h
    rw [(mr a _ h).1] at e; cases e
  · exact e
theorem fob_frz (l : Le F H) (mr : MemR K mg F H m) : StM K mg m F H (fobF m F) H (nofob m) := by
  refine ⟨fun _ _ e _ => e, fun _ e => e, fobF_gr mr, fun a u e => ?_, fun a u e => ?_, fun a u e => ?_, fun a e => .inl fun z => e ?_, fun _ _ _ e => e⟩
  · unfold fobF at e
    split at e
    · rename_i o h
      cases e
      exact .inl (mr a _ h).2.1
    · exact l a u e
  · have h := nofob_le a u e
    obtain ⟨h1, h2⟩ := mr a u h
    refine ⟨?_, h2.keep (fobF_gr mr) fun _ q => q⟩
    unfold fobF
    split
    · rename_i o ho
      unfold nofob at e
      rw [ho] at e
      cases e
    · exact h1
  · unfold fobF at e
    split at e
    · rename_i o h
      exact .inr (.inr (by rw [h]; simp))
    · exact .inl e
  · unfold nofob
    rw [z]
theorem lmbs_rp {σ : L2.St} {s : SL} (mr : MemR K mg F H m) (rs : RpS K mg (fobF m F) σ s) : ∀ {ds : List D} {fos : List (Addr × Obj)} {xs : List V}, lmbs m ds = some fos → RpL K mg F xs ds → RpL K mg (fobF m F) xs (fos.map fun fo => .lmb fo.1 fo.2 σ s)
  | [], fos, xs, h, r => by cases h; cases r; exact .nil
  | d :: ds, fos, xs, h, r => by
    cases r with
    | cons r1 r2 =>
      cases r1 with
      | ref f =>
        unfold lmbs at h
        split at h
        · rename_i o hm
          obtain ⟨gs, e1, e2⟩ := Option.map_eq_some_iff.mp h
          subst e2
          exact .cons (.lmb (by unfold fobF; rw [hm]) ((mr f _ hm).2.2.mono (fobF_gr mr)) rs) (lmbs_rp mr rs e1 r2)
        · cases h
      | _ => cases h
end
/-! the frame's cells, for the frames above -/
/-- what is kept of a frame: the objects that it fixes and its cells -/
structure CellB (X : Cx) (s : Shared) (G : Heap) : Prop where
  base : ∀ b o, X.base.get? b = some o → G.get? b = some o
  cell : ∀ y c, X.env.cells.lookup y = some c → ∃ v o, s.heap.get? c = some o ∧ o.data = .cell v ∧ G.get? c = some o
  of : ∀ b o, G.get? b = some o → s.heap.get? b = some o ∧ ((∃ u, X.base.get? b = some u) ∨ ∃ y, X.env.cells.lookup y = some b)
  size : G.objs.size = s.heap.objs.size
section
variable {X : Cx} {pins : List (Addr × Obj)} {σ : L2.St} {H : Hp} {s : Shared}
theorem cellB (I : Inv X pins σ H s) : ∃ G, CellB X s G := by
  obtain ⟨l, hl⟩ : ∃ l : List Addr, l = (List.range s.heap.objs.size).filter fun b => (X.base.get? b).isNone && !(X.env.cells.any fun p => p.2 == b && X.env.cells.lookup p.1 == some b) := ⟨_, rfl⟩
  have nin : ∀ b, (∃ u, X.base.get? b = some u) ∨ (∃ y, X.env.cells.lookup y = some b) → b ∉ l := fun b h hm => by
    rw [hl] at hm
    have z := (List.mem_filter.mp hm).2
    rw [Bool.and_eq_true, Bool.not_eq_true'] at z
    rcases h with ⟨u, h⟩ | ⟨y, h⟩
    · rw [h] at z; simp at z
    · have w : (X.env.cells.any fun p => p.2 == b && X.env.cells.lookup p.1 == some b) = true :=
        List.any_eq_true.mpr ⟨(y, b), PySem.mem_of_lookup h, by simp [h]⟩
      rw [w] at z; simp at z
  refine ⟨PySem.W.hideAll s.heap l, fun b o h => PySem.W.hideAll_get l (I.bk b o h) (nin b (.inl ⟨o, h⟩)), fun y c h => ?_, fun b o h => ?_, PySem.W.hideAll_size _ _⟩
  · obtain ⟨v, o, h1, h2⟩ := I.cell y c h
    exact ⟨v, o, h1, h2, PySem.W.hideAll_get l h1 (nin c (.inr ⟨y, h⟩))⟩
  · have h1 := PySem.W.of_hideAll l h
    refine ⟨h1, ?_⟩
    have h2 : b ∉ l := fun z => by rw [PySem.W.hideAll_none l z] at h; cases h
    cases h3 : X.base.get? b with
    | some u => exact .inl ⟨u, rfl⟩
    | none =>
      refine .inr ?_
      cases h4 : X.env.cells.any fun p => p.2 == b && X.env.cells.lookup p.1 == some b with
      | true =>
        obtain ⟨p, _, h5⟩ := List.any_eq_true.mp h4
        have h6 := (Bool.and_eq_true_iff.mp h5).2
        exact ⟨p.1, by simpa using h6⟩
      | false =>
        exact absurd (by rw [hl]; exact List.mem_filter.mpr ⟨List.mem_range.mpr (Heap.lt_size h1), by rw [h3, h4]; rfl⟩) h2
theorem CellB.free {G : Heap} (C : CellB X s G) (I : Inv X pins σ H s) {b : Addr} {o : Obj} (h : G.get? b = some o) : H b = none := by
  rcases (C.of b o h).2 with ⟨u, h⟩ | ⟨y, h⟩
  · exact (I.bs b u h).2
  · exact I.freeC y b h
theorem CellB.env0 {G : Heap} (C : CellB X s G) (hfn : ∀ y, X.fn y = true) (I : Inv X pins σ H s) : Env0 X.prog X.w X.K X.mg G X.A X.stack s H := by
  have e0 := I.env0
  refine ⟨e0.frames, ⟨e0.mod.kin.keeps C.base, e0.mod.glob.keeps C.base, let ⟨mb, h1, h2⟩ := e0.mod.blt; ⟨mb, h1.keeps C.base, h2⟩, e0.mod.nolimit.keeps C.base⟩, fun b o h => ⟨(C.of b o h).1, C.free I h⟩, Nat.le_of_eq C.size, funFrames_none e0.funs fun b hb => ?_, e0.frf, e0.hok, e0.bare⟩
  cases q : G.get? b with
  | none => rfl
  | some o =>
    exfalso
    rcases (C.of b o q).2 with ⟨u, h⟩ | ⟨y, h⟩
    · obtain ⟨z, _⟩ := e0.funs.mem hb
      rw [h] at z; cases z
    · obtain ⟨v, oc, h1, h2⟩ := I.cell y b h
      rcases List.mem_cons.mp (I.stkSub b hb) with e | hb
      · exact I.cne y b h e
      · obtain ⟨_, u, hu, _⟩ := I.ok.funs.mem hb
        exact absurd (Nat.lt_of_lt_of_le (Heap.lt_size hu) (I.ok.cab y b (hfn y) h)) (Nat.lt_irrefl _)
/-- what stands under the cells' heap stands under the frame's -/
theorem CellB.down {G : Heap} {P : Program} {w : World} {K : PySem.W.Frag} {mg : Str → Option Value} {A : Around} {outer : List Env} {s1 : Shared} {H1 : Hp} (C : CellB X s G) (mod : Mod K mg X.base) (hsz : X.base.objs.size ≤ G.objs.size) (e : Env0 P w K mg G A outer s1 H1) : Env0 P w K mg X.base A outer s1 H1 := by
  refine ⟨e.frames, mod, fun b o h => e.bs b o (C.base b o h), Nat.le_trans hsz e.bsz, funFrames_none e.funs fun b hb => ?_, e.frf, e.hok, e.bare⟩
  cases q : X.base.get? b with
  | none => rfl
  | some o =>
    obtain ⟨z, _⟩ := e.funs.mem hb
    rw [C.base b o q] at z; cases z
end
section
variable {X : Cx} {pins : List (Addr × Obj)} {σ : L2.St} {H HZ : Hp} {s s1 : Shared}
/-- the lambda's frame is entered, whatever frames stand between -/
theorem lam_enter {A : Around} {outer : List Env} {E : XK} {scope : Scope} {df : Option Str} {f c' : Addr} {hp : Heap} {tk : Nat} {mp : Str → Option Value} (I : Inv X pins σ H s) (L : LamV X.N X.env.scope scope df) (e0 : Env0 X.prog X.w X.K X.mg X.base A outer s1 HZ) (hd : A.handled = none)
    (cel : ∀ y c v, X.env.cells.lookup y = some c → s.heap.IsCell c v → s1.heap.IsCell c v ∧ HZ c = none) (hns : hp.Ns s1.heap.objs.size mp) (kp : ∀ b o, s1.heap.get? b = some o → hp.get? b = some o) :
    Inv (LamX.lamCx X A outer s1 HZ E scope f c') [] σ HZ { s1 with heap := hp, toks := tk } := by
  have own : ∀ {y c}, (cloFrom X.env.cells scope.names []).lookup y = some c → X.env.cells.lookup y = some c := fun {y c} e => by
    rcases cloFrom_mem (PySem.mem_of_lookup e) with hm | ⟨h1, h2⟩
    · cases hm
    · obtain ⟨c1, hc⟩ := L.has I.ok _ h1 rfl
      have hc : X.env.cells.lookup y = some c1 := hc
      rw [hc] at h2
      rw [hc, h2]
      rfl
  have got : ∀ {y}, scope.names.lookup y = some .free → ∃ c, (cloFrom X.env.cells scope.names []).lookup y = some c := fun {y} hl =>
    mem_lookup (cloFrom_has (cells := X.env.cells) (acc := []) (show (y, NameKind.free) ∈ scope.names from PySem.mem_of_lookup hl))
  have up : ∀ {c : Addr} {v : Option Value}, s1.heap.IsCell c v → hp.IsCell c v := fun {c v} ⟨o, ho, hd⟩ => ⟨o, kp _ _ ho, hd⟩
  have noex : ∀ b : Addr, b ∉ (LamX.lamCx X A outer s1 HZ E scope f c').ex := fun b z => absurd (show b ∈ ([] : List Addr) from z) (by simp)
  refine { ok := ⟨e0.mod, L.kind, rfl, rfl, Nat.le_refl _, fun y z c e1 e2 => I.ok.inj y z c (own e1) (own e2), fun y hy => ?_, fun y c z _ => absurd (show false = true from z) (by decide), fun _ => hd, Around.frames_deeper e0.frames, .inr ⟨rfl, rfl⟩, fun b z => absurd z (noex b), e0.bs, e0.bsz, fun b _ _ => noex b, fun b z => absurd z (noex b), e0.funs, e0.frf⟩,
           os := rfl, bare := e0.bare, base := Un.kept kp, loc := ⟨_, hns, fun i y v e1 e2 e3 => ?_⟩, cell := fun y c e => ?_, free := e0.hok.fresh (Nat.le_refl _), freeC := fun y c e => ?_, pin := fun q hq => absurd (show q ∈ ([] : List (Addr × Obj)) ++ [] from hq) (by simp), hok := e0.hok.kept kp, len := I.len }
  · have hy : scope.names.lookup y = some .cell ∨ scope.names.lookup y = some .free := hy
    rcases hy with hy | hy
    · exact absurd rfl (L.cel _ (PySem.mem_of_lookup hy))
    · exact got hy
  · have e3 : Vis scope y := e3
    rcases e3 with k | k | k
    · exact absurd (List.mem_of_getElem? e1) (L.loc _ (PySem.mem_of_lookup k) rfl)
    · exact absurd rfl (L.cel _ (PySem.mem_of_lookup k))
    · obtain ⟨mm, hn, hl⟩ := I.loc
      have fr := L.free _ (PySem.mem_of_lookup k) rfl
      obtain ⟨u, r, q⟩ := hl i y v e1 e2 (fr.elim (fun k => .inr (.inl k)) (fun k => .inr (.inr k)))
      obtain ⟨c2, h2⟩ := got k
      refine ⟨u, r, .inr ⟨.inr k, c2, h2, ?_⟩⟩
      have c1 := own h2
      rcases q with ⟨k', _⟩ | ⟨_, c3, e', z⟩
      · have k' : X.env.scope.names.lookup y = some .local := k'
        rcases fr with k2 | k2
        · rw [show X.env.scope.names.lookup y = _ from k2] at k'; cases k'
        · rw [show X.env.scope.names.lookup y = _ from k2] at k'; cases k'
      · rw [c1] at e'
        cases e'
        exact up (cel y _ _ c1 z).1
  · obtain ⟨v, z⟩ := I.cell y c (own e)
    exact ⟨v, up (cel y c v (own e) z).1⟩
  · obtain ⟨v, z⟩ := I.cell y c (own e)
    exact (cel y c v (own e) z).2
end
/-- how a lambda binds what it is handed (nothing) -/
def LmdB (L : Lmd) : Prop := match L.df with
  | none => ∀ (q : Str) (cl : List (Str × Addr)) (doc pm cv ct : Value), bindArgs (PySem.W.kdv_fn "<lambda>" q L.pa (.expr L.bd) L.sc cl .none doc pm cv ct) ⟨[], []⟩ = pure []
  | some y => ∀ (q : Str) (cl : List (Str × Addr)) (dV doc pm cv ct : Value), ∃ k, bindArgs (PySem.W.kdv_fn "<lambda>" q L.pa (.expr L.bd) L.sc cl dV doc pm cv ct) ⟨[], []⟩ = seqItems? dV >>= k ∧ ∀ u : Value, k (some #[u]) = pure [(y, u)]
section
variable {X : Cx} {pins : List (Addr × Obj)} {σ : L2.St} {H : Hp} {s : Shared}
/-- what is known of the lambdas of a frame, and what each body wants -/
structure LmdK (X : Cx) (k : Nat) (L : Lmd) (ve : VE) : Prop where
  sc : LamV X.N X.env.scope L.sc L.df
  bi : LmdB L
  bd : ∀ (A : Around) (outer : List Env) (s : Shared) (H : Hp) (E : XK) (f c' : Addr), Room k (A.deeper (LamX.lamEnv X L.sc s.heap.objs.size f c')) → JE (LamX.lamCx X A outer s H E L.sc f c') (fun cls d _ H => E cls d H) L.bd ve
/-- the lambda is called in a frame that was called, over the heap of the cells -/
theorem pe_askV {G : Heap} {Ng : List Str} {qg : Str} {sg : Scope} {g : Addr} {cdg : Value} {k i : Nat} {a : Str} {A : Around} {outer : List Env} {s0 : Shared} {H0 : Hp} {pn : List (Addr × Obj)} {xe : Value → Shared → Prop} {W : WX} {p1 p2 : Pos} {Ls : List Lmd} {ves : List VE}
    (I : Inv X pins σ H s) (C : CellB X s G) (hL : ∀ (j : Nat) (L : Lmd), Ls[j]? = some L → ∃ ve : VE, ves[j]? = some ve ∧ LmdK X k L ve)
    (tk : Takes ((cxOf CX0 X.prog X.w X.K X.mg G Ng qg sg g cdg A outer s0 H0 E0).tr pn xe) W) (hr : Room (k + 1) (A.deeper (envOfC qg sg s0.heap.objs.size g cdg)))
    (hN : Ng[i]? = some a) (hv : Vis sg a) (hd : (a == ("__debug__" : Str)) = false := by decide) (hcd : (a == ("__classdict__" : Str)) = false := by decide) :
    PE ((cxOf CX0 X.prog X.w X.K X.mg G Ng qg sg g cdg A outer s0 H0 E0).tr pn xe) (.Call (.Name a p1) [] [] p2)
      (fun σZ HZ Q => ∃ (j : Nat) (f : Addr) (o : Obj) (ve : VE) (F : Hp) (sl : SL) (m : Mem) (kk : KD) (x : KX), σZ[i]? = some (some (.ref f)) ∧ F f = some (FunO f o) ∧ FobR F o ∧ LmdP X.env.cells (X.env.qual ++ "<lambda>") Ls j o ∧ ves[j]? = some ve ∧ Le F HZ ∧ EnvR X.K X.mg F HZ σ sl m ∧ ve sl m kk x ∧
        XOk X.K X.mg (fun cls d _ H' => W cls d σZ H') σ F HZ m x ∧ ∀ v d F' H' m', StM X.K X.mg m F HZ F' H' m' → Rp X.K X.mg F' v d → kk d m' → Q v H') := by
  refine ⟨fun pinsZ sZ σZ HZ Q IZ ⟨j, f, o, ve, F, sl, m, kk, x, hs, hfo, hfb, hP, hve, l, en, hvc, hxo, hq⟩ => ?_⟩
  refine wpAny_Call_Name_kw (thn ((pe_var (pos := p1) (i := i) hN hv hd hcd).run pinsZ sZ σZ HZ (fun v H1 => v = .ref f ∧ H1 = HZ) IZ ⟨.ref f, hs, rfl, rfl⟩) fun u s1 ⟨v, H1, I1, r1, ev, eH⟩ => ?_)
  subst ev
  rw [eH] at I1
  obtain rfl : u = Value.ref f := r1
  obtain ⟨L, hLj, dV, doc, pm, c', ct, rfl, hdV⟩ := hP
  obtain ⟨ve', hve', LK⟩ := hL j L hLj
  rw [hve] at hve'
  cases hve'
  obtain ⟨fd, c2, e1, e2, e3, e4⟩ := hfb
  cases e1
  cases e2
  have of1 : s1.heap.get? f = some (lobj (X.env.qual ++ "<lambda>") L.pa L.bd L.sc (cloFrom X.env.cells L.sc.names []) dV doc pm c' ct) := (I1.hok f _ (l.ext hfo)).1
  refine PySem.W.callWith_F0 ⟨_, _, _, _, of1⟩ ?_
  obtain ⟨⟨oc, vs, t, hoc, hdc, hvc2⟩, _, _⟩ := I1.hok c' _ (l.ext e3)
  have cel : ∀ y c v, X.env.cells.lookup y = some c → s.heap.IsCell c v → s1.heap.IsCell c v ∧ HZ c = none := fun y c v hc ⟨o, ho, hdo⟩ => by
    obtain ⟨v2, o2, h1, h2, h3⟩ := C.cell y c hc
    rw [ho] at h1
    cases h1
    obtain ⟨z1, z2⟩ := I1.bs c o h3
    exact ⟨⟨o, z1, hdo⟩, z2⟩
  have rc : codeAny (model X.prog X.w) (A.deeper (envOfC qg sg s0.heap.objs.size g cdg)) (.call (.ref f) ⟨[], []⟩) (CR (L2.CX X.prog X.w) (envOfC qg sg s0.heap.objs.size g cdg :: outer) X.prog X.w HZ s1 Q (fun cls d H' => W cls d σZ H')) s1 := by
    have enter : ∀ (binds : List (Str × Value)), (∀ y ∈ binds, L.sc.names.lookup y.1 = some .local) →
        wpAny (model X.prog X.w) (A.deeper (envOfC qg sg s0.heap.objs.size g cdg)).in1 (newFunctionEnv L.sc mainGlobals (cloFrom X.env.cells L.sc.names []) binds (X.env.qual ++ "<lambda>" ++ ".<locals>.") (some f) (.ref c') none builtinsNs)
          (fun env s₂ => s₂.heap.NoLimit ∧ codeAny (model X.prog X.w) (A.deeper (envOfC qg sg s0.heap.objs.size g cdg)) (.expr L.bd env) (CR (L2.CX X.prog X.w) (envOfC qg sg s0.heap.objs.size g cdg :: outer) X.prog X.w HZ s1 Q (fun cls d H' => W cls d σZ H')) s₂)
          (fun e s' => CR (L2.CX X.prog X.w) (envOfC qg sg s0.heap.objs.size g cdg :: outer) X.prog X.w HZ s1 Q (fun cls d H' => W cls d σZ H') (.error e) s') s1 := fun binds hbl => by
      refine wpAny_newFunctionEnv (fun y hy => LK.sc.cel y hy) hbl (fun h₁ hns hsb => ⟨I1.nolimit.fresh _ hsb, ?_⟩) LK.sc.kind
      show codeAny _ _ (.expr L.bd (LamX.lamEnv X L.sc s1.heap.objs.size f c')) _ _
      have kp : ∀ b o, s1.heap.get? b = some o → h₁.get? b = some o := fun b o e => hsb.extBut b o (Nat.ne_of_lt (Heap.lt_size e)) (Heap.get?_push_of_some _ e)
      have e0 : Env0 X.prog X.w X.K X.mg X.base (A.deeper (envOfC qg sg s0.heap.objs.size g cdg)) (envOfC qg sg s0.heap.objs.size g cdg :: outer) s1 HZ := C.down I.ok.mod (by rw [C.size]; exact Nat.le_trans I.ok.bsz I.sz) I1.env0
      have J := lam_enter (E := fun cls d H' => W cls d σZ H') (f := f) (c' := c') (tk := s1.toks + binds.length) I LK.sc e0 hr.hd cel hns kp
      obtain ⟨te, pe, se⟩ := LK.bd (A.deeper (envOfC qg sg s0.heap.objs.size g cdg)) (envOfC qg sg s0.heap.objs.size g cdg :: outer) s1 HZ (fun cls d H' => W cls d σZ H') f c' (hr.deeper _)
      refine PySem.W.kla_codeExpr (wpAny_mono (pe.run [] _ _ HZ Q J (se σ F HZ sl m kk x l en hvc hxo Q hq)) (fun v s' ⟨w', H', J', rv, q⟩ => ?_) fun e s' hq => hq)
      exact ⟨w', H', J'.os, J'.bare, J'.base, J'.hok, rv, q⟩
    refine PySem.W.kla_callFunE hr.depth of1 rfl LK.sc.co LK.sc.gen rfl ⟨c', oc, vs, t, rfl, hoc, hdc, hvc2⟩ ?_
    have hbi := LK.bi
    unfold LmdB at hbi
    cases hdf : L.df with
    | none =>
      rw [hdf] at hbi hdV
      subst hdV
      have hbi := hbi (X.env.qual ++ "<lambda>") (cloFrom X.env.cells L.sc.names []) doc pm (.ref c') ct
      show wpAny _ _ (bindArgs (PySem.W.kdv_fn "<lambda>" (X.env.qual ++ "<lambda>") L.pa (.expr L.bd) L.sc (cloFrom X.env.cells L.sc.names []) .none doc pm (.ref c') ct) ⟨[], []⟩) _ _ _
      rw [hbi]
      exact wpAny_pure (enter [] fun y hy => absurd hy (by simp))
    | some y =>
      rw [hdf] at hbi hdV
      obtain ⟨t0, rfl⟩ := hdV
      obtain ⟨v0, hv0⟩ := e4 t0 rfl
      have hz : HZ t0 = some (.tup [v0]) := by
        rcases l t0 _ hv0 with z | ⟨z, _⟩
        · exact z
        · exact z.elim
      obtain ⟨_, its, rits, ot, hot, hct, nt, hdt⟩ := I1.hok t0 _ hz
      cases rits with
      | @cons _ u0 _ _ ru rn =>
        cases rn
        obtain ⟨kb, b1, b2⟩ := hbi (X.env.qual ++ "<lambda>") (cloFrom X.env.cells L.sc.names []) (.ref t0) doc pm (.ref c') ct
        show wpAny _ _ (bindArgs (PySem.W.kdv_fn "<lambda>" (X.env.qual ++ "<lambda>") L.pa (.expr L.bd) L.sc (cloFrom X.env.cells L.sc.names []) (.ref t0) doc pm (.ref c') ct) ⟨[], []⟩) _ _ _
        refine (BindsTo.of_defaults (binds := [(y, u0)]) rfl hot hdt b1 (b2 u0)) _ _ _ _ (enter [(y, u0)] fun z hz => ?_)
        rw [List.mem_singleton.mp hz]
        exact LK.sc.par y hdf
  refine wpAny_call (codeAny_mono rc fun r s' hq2 => ?_)
  cases r with
  | error e => exact tk e s' (XE.of_call I1 (fun cls d H' h => h) hq2)
  | ok fl =>
    cases fl with
    | ret u => exact I1.after hq2
    | next => exact False.elim hq2
    | brk => exact False.elim hq2
    | cont => exact False.elim hq2
end
/-- all lambdas of a frame -/
theorem lmk_nil {X : Cx} {k : Nat} : ∀ (j : Nat) (L : Lmd), ([] : List Lmd)[j]? = some L → ∃ ve : VE, ([] : List VE)[j]? = some ve ∧ LmdK X k L ve := fun j L h => by simp at h
theorem lmk_cons {X : Cx} {k : Nat} {L : Lmd} {ve : VE} {Ls : List Lmd} {ves : List VE} (h : LmdK X k L ve) (hs : ∀ (j : Nat) (L : Lmd), Ls[j]? = some L → ∃ ve : VE, ves[j]? = some ve ∧ LmdK X k L ve) :
    ∀ (j : Nat) (L' : Lmd), (L :: Ls)[j]? = some L' → ∃ v : VE, (ve :: ves)[j]? = some v ∧ LmdK X k L' v
  | 0, L', e => by cases e; exact ⟨ve, rfl, h⟩
  | j + 1, L', e => hs j L' e
theorem JSs.imp {X : Cx} {W : WX} {st : List Stmt} {v1 v2 : VS} (h : JSs X W st v1) (f : ∀ s m G, v2 s m G → v1 s m G) : JSs X W st v2 := by
  obtain ⟨t, p, sn⟩ := h
  exact ⟨t, p, fun σ F H s m G l en hv E L => sn σ F H s m G l en (f s m G hv) E L⟩
/-! the places of lambdas in a text -/
def lamAt (e : Expr) (df : Option Str) : Lmd := match e with
  | .Lambda pa bd sc _ => ⟨pa, bd, sc, df⟩
  | e => ⟨⟨[], [], none, [], [], none, []⟩, e, defScope (.Pass ⟨0, 0, 0, 0⟩), df⟩
def stAt (b : List Stmt) (i : Nat) : Stmt := b.getD i (.Pass ⟨0, 0, 0, 0⟩)
def stB (s : Stmt) : List Stmt := match s with
  | .For _ _ b _ _ => b
  | .While _ b _ _ => b
  | .If _ b _ _ => b
  | _ => []
def stV (s : Stmt) : Expr := match s with
  | .Assign _ v _ => v
  | .Expr v _ => v
  | .Return (some v) _ => v
  | .If t _ _ _ => t
  | .While t _ _ _ => t
  | _ => .Constant .none 0 ⟨0, 0, 0, 0⟩
def exK (e : Expr) (i : Nat) : Expr := match e with
  | .List es _ => es.getD i e
  | .Tuple es _ _ => es.getD i e
  | .Call _ es _ _ => es.getD i e
  | .BinOp a _ b _ => if i = 0 then a else b
  | .Compare a _ bs _ => if i = 0 then a else bs.getD (i - 1) e
  | .IfExp a b c _ => if i = 0 then a else if i = 1 then b else c
  | .BoolOp _ es _ => es.getD i e
  | .UnaryOp _ a _ => a
  | e => e
end Ts
/-! ### [x(f) for f in fs], fs a list of kept lambdas -/
namespace Ts
open PySem PySem.Spec PyProof.Rows L2
/-- a kept lambda is called by its name: what it wants of the names of the frame that made it -/
@[reducible] def vAskV (Pt : Nat → Obj → Prop) (σ : L2.St) (ves : List VE) : VE := fun s m k x => ∃ (j : Nat) (f : Addr) (o : Obj) (sl : SL) (ve : VE), s[0]? = some (some (.lmb f o σ sl)) ∧ Pt j o ∧ ves[j]? = some ve ∧ ve sl m k x
/-- y(f), f a name that holds a kept lambda -/
@[reducible] def vWhyV (i n : Nat) (vw : VE → VS) (ask : VE) : VE := fun s m k x => ∃ d, s[i]? = some (some d) ∧ vw ask (dstart n [d]) m (endP k)
/-- x(fs): the list of the memory and its lambdas are frozen -/
@[reducible] def vErrs (Pt : Nat → Obj → Prop) (i n1 n2 : Nat) (ves : List VE) (vw ve : VE → VS) (a : VE) : VE := fun s m k x => a s m (fun d m1 => match d with
  | .ref p => (match m1 p with
    | some (.lst ds) => onO (lmbs m1 ds) fun fos => ∀ σ, ve (vWhyV i n1 vw (vAskV Pt σ ves)) (dstart n2 [.lst (fos.map fun fo => .lmb fo.1 fo.2 σ s)]) (mdel (nofob m1) p) (endP k)
    | _ => False)
  | _ => False) x
structure FnE (P : Program) (w : World) (K : PySem.W.Frag) (mg : Str → Option Value) (base : Heap) (x y : Str) (k n i : Nat) (ve : VE → VS) : Prop where
  ex : ∃ (g : Addr) (fd : FuncData) (a b : Str) (pg : Arguments) (bg : List Stmt) (sg : Scope) (Ng : List Str) (kws : List (Str × V)), mg x = some (.ref g) ∧ FunD K x x pg bg sg [] kws g fd ∧ Binds K fd [a] [] ∧ FnScope Ng [a] sg ∧ Ng.length = n ∧
    ∀ (cdv : Value) (A : Around) (outer : List Env) (s : Shared) (H : Hp) (ask : VE), Room (k + 2) (A.deeper (envOfC x sg s.heap.objs.size g cdv)) →
      (∀ (Z : Cx) (W' : WX) (p1 p2 p3 : Pos), Z.prog = P → Z.w = w → Z.K = K → Z.mg = mg → Z.base = base → Room (k + 2) Z.A → Gl Z y → JE Z W' (.Name b p2) (vVar i) → JE Z W' (.Call (.Name y p1) [.Name b p2] [] p3) ask) →
      JSs (whyCx P w K mg base Ng x sg g cdv A outer s H).nox (fun _ _ _ _ => False) bg (ve ask)
section
variable {X : Cx} {pins : List (Addr × Obj)} {σ : L2.St} {H : Hp} {s : Shared}
/-- y(f) within a frame over the cells' heap -/
theorem je_whyV {G : Heap} {Z : Cx} {W' : WX} {y b : Str} {k n i : Nat} {vw : VE → VS} {Ls : List Lmd} {ves : List VE} {p1 p2 p3 : Pos} (I : Inv X pins σ H s) (C : CellB X s G) (hL : ∀ (j : Nat) (L : Lmd), Ls[j]? = some L → ∃ ve : VE, ves[j]? = some ve ∧ LmdK X k L ve)
    (z1 : Z.prog = X.prog) (z2 : Z.w = X.w) (z3 : Z.K = X.K) (z4 : Z.mg = X.mg) (z5 : Z.base = G) (Y : FnL X.prog X.w X.K X.mg G y k n vw) (hr : Room (k + 2) Z.A) (gl : Gl Z y) (hb : JE Z W' (.Name b p2) (vVar i)) (hdb : (y == ("__debug__" : Str)) = false) :
    JE Z W' (.Call (.Name y p1) [.Name b p2] [] p3) (vWhyV i n vw (vAskV (LmdP X.env.cells (X.env.qual ++ "<lambda>") Ls) σ ves)) := by
  obtain ⟨zp, zw, zK, zm, zb, zA, zN, zs, zH, ze, zo, zst, zex, zfn, zc, zpn, zxe⟩ := Z
  dsimp only at z1 z2 z3 z4 z5
  subst z1 z2 z3 z4 z5
  refine ⟨fun σZ HZ Q => ∃ F sl m kk, Le F HZ ∧ EnvR X.K X.mg F HZ σZ sl m ∧ vWhyV i n vw (vAskV (LmdP X.env.cells (X.env.qual ++ "<lambda>") Ls) σ ves) sl m kk (fun _ _ => False) ∧ ∀ v d F' H' m', StM X.K X.mg m F HZ F' H' m' → Rp X.K X.mg F' v d → kk d m' → Q v H',
    ⟨fun pinsZ sZ σZ HZ Q IZ ⟨F, sl, m, kk, l, en, ⟨d, hd, hv⟩, q⟩ => ?_⟩, fun σ F H s m k x l en hv hx Q q => ⟨F, s, m, k, l, en, hv, q⟩⟩
  obtain ⟨g, fd, a, pg, bg, sg, Ng, kws, hm, D, hbi, Sg, hNg, hva, ha1, ha2, rfl, hG⟩ := Y.ex
  obtain ⟨oc, od, dV, kV, doc, pm, an, cdv, ct, osl, rfl, lk, hcd', hD, hK⟩ := D.ex
  obtain ⟨tb, pb, sb⟩ := hb
  have hargs := sb σZ F HZ sl m (fun d' m' => d' = d ∧ m' = m) (fun _ _ => False) l en (by unfold vVar vGet; rw [hd]; exact ⟨rfl, rfl⟩) (fun _ _ _ _ _ _ _ _ z => z.elim)
    (fun v0 H' => ∃ v F', [v0] = [v] ∧ StM X.K X.mg m F HZ F' H' m ∧ Rp X.K X.mg F' v d) (fun v d' F' H' m' st r e => by
      obtain ⟨e1, e2⟩ := e
      subst e1 e2
      exact ⟨v, F', rfl, st, r⟩)
  refine wpAny_Call_Name_kw (ld_glob IZ gl hm ?_ hdb)
  refine PySem.W.callWith_K (h₀ := zb) IZ.ok.mod.kin D.kp (thn ((pa_cons pb pa_nil (by rfl)).run p3 pinsZ sZ σZ HZ (fun vs H' => ∃ v F', vs = [v] ∧ StM X.K X.mg m F HZ F' H' m ∧ Rp X.K X.mg F' v d) IZ ?_) fun us s3 ⟨vs, H3, I3, r3, v, F', ev, st, r⟩ => ⟨I3.kIn, ?_⟩) (by rfl) (by rfl)
  · exact hargs
  subst ev
  cases r3 with
  | @cons _ u0 _ _ ru rn =>
    cases rn
    have rc : codeAny (model X.prog X.w) zA (.call (.ref g) ⟨[u0], []⟩) (CR CX0 zst X.prog X.w H3 s3 Q E0) s3 := by
      refine LamX.run_ofS (N := Ng) (ps := [a]) (us := [u0]) (vs := [v]) lk hcd' Sg hr I3.env0 (hbi s3 [u0] I3.kIn rfl) (.cons ru .nil) rfl fun hr' => ?_
      obtain ⟨t, ht', sn⟩ := hG cdv zA zst s3 H3 (vAskV (LmdP X.env.cells (X.env.qual ++ "<lambda>") Ls) σ ves) hr' fun W2 pn xe q1 q2 tk =>
        ⟨_, pe_askV (i := 0) I C hL tk hr' hNg hva ha1 ha2, fun σ2 F2 H2 s2 m2 k2 x2 l2 en2 ⟨j, f, o, sl2, ve, h0, hPt, hve, hvv⟩ hx2 Q2 q2 => by
          obtain ⟨v, e1, e2⟩ := en2.val 0 _ h0
          cases e2 with
          | lmb hf hfb rs => exact ⟨j, f, o, ve, F2, sl2, m2, k2, x2, e1, hf, hfb, hPt, hve, l2, ⟨rs.len, fun i d h => rs.at h, en2.mem⟩, hvv, fun cls dd e F' H' m' st rx hxe => hx2 cls dd e F' H' m' st rx hxe, q2⟩⟩
      refine ⟨t, ht'.nox, sn _ F' H3 _ m _ st.le (env_start st.mr (.cons r .nil)) hv _ ?_⟩
      exact ⟨fun σ' s' F' H' m' st2 e g => q _ _ F' H' m' (st.trans st2) .non g, fun v d F' H' m' st2 rd g => q v d F' H' m' (st.trans st2) rd g, fun _ _ _ _ _ _ _ g => g.elim, fun _ _ _ _ _ _ _ g => g.elim, fun _ _ _ _ _ _ _ _ _ _ _ g => g.elim⟩
    refine wpAny_call (codeAny_mono rc fun r s2 hq => ?_)
    cases r with
    | error e => exact (show False from hq).elim
    | ok fl =>
      cases fl with
      | ret u => exact I3.after hq
      | next => exact False.elim hq
      | brk => exact False.elim hq
      | cont => exact False.elim hq
end
section
variable {X : Cx} {W : WX}
theorem je_errs {x y : Str} {k n1 n2 i : Nat} {e : Expr} {vw ve : VE → VS} {va : VE} {Ls : List Lmd} {ves : List VE} {p pos : Pos} (hfn : ∀ y, X.fn y = true)
    (hE : ∀ G, X.K.In G → G.Ns mainGlobals X.mg → FnE X.prog X.w X.K X.mg G x y k n2 i ve) (hW : ∀ G, X.K.In G → G.Ns mainGlobals X.mg → FnL X.prog X.w X.K X.mg G y k n1 vw)
    (hL : ∀ (j : Nat) (L : Lmd), Ls[j]? = some L → ∃ ve : VE, ves[j]? = some ve ∧ LmdK X k L ve) (hg : Gl X x) (ha : JE X W e va) (hr : Room (k + 3) X.A)
    (hdb : (x == ("__debug__" : Str)) = false := by decide) (hdy : (y == ("__debug__" : Str)) = false := by decide) (he : starEach [e] X.env = (false, eval e X.env) :: starEach [] X.env := by rfl) :
    JE X W (.Call (.Name x p) [e] [] pos) (vErrs (LmdP X.env.cells (X.env.qual ++ "<lambda>") Ls) i n1 n2 ves vw ve va) := by
  refine ⟨fun σ H Q => ∃ F sl m kk xx, Le F H ∧ EnvR X.K X.mg F H σ sl m ∧ vErrs (LmdP X.env.cells (X.env.qual ++ "<lambda>") Ls) i n1 n2 ves vw ve va sl m kk xx ∧ XOk X.K X.mg W σ F H m xx ∧ ∀ v d F' H' m', StM X.K X.mg m F H F' H' m' → Rp X.K X.mg F' v d → kk d m' → Q v H',
    ⟨fun pins s σ H Q I ⟨F, sl, m, kk, xx, l, en, hv, hxo, q⟩ => ?_⟩, fun σ F H s m k x l en hv hx Q q => ⟨F, s, m, k, x, l, en, hv, hx, q⟩⟩
  obtain ⟨ta, pa, sa⟩ := ha
  have hargs := sa σ F H sl m _ xx l en hv hxo (fun v0 H' => ∃ (v : V) (d : D) (F' : Hp) (m1 : Mem), [v0] = [v] ∧ StM X.K X.mg m F H F' H' m1 ∧ Rp X.K X.mg F' v d ∧ (match d with
    | .ref p => (match m1 p with
      | some (.lst ds) => onO (lmbs m1 ds) fun fos => ∀ σ, ve (vWhyV i n1 vw (vAskV (LmdP X.env.cells (X.env.qual ++ "<lambda>") Ls) σ ves)) (dstart n2 [.lst (fos.map fun fo => .lmb fo.1 fo.2 σ sl)]) (mdel (nofob m1) p) (endP kk)
      | _ => False)
    | _ => False)) (fun v d F' H' m1 st r h => ⟨v, d, F', m1, rfl, st, r, h⟩)
  obtain ⟨g, fd0, _, _, _, _, _, _, _, hm, D0, _⟩ := (hE X.base I.ok.mod.kin I.ok.mod.glob).ex
  refine wpAny_Call_Name_kw (ld_glob I hg hm ?_ hdb)
  refine PySem.W.callWith_K (h₀ := X.base) I.ok.mod.kin D0.kp (thn ((pa_cons pa pa_nil he).run pos pins s σ H (fun vs H' => ∃ (v : V) (d : D) (F' : Hp) (m1 : Mem), vs = [v] ∧ StM X.K X.mg m F H F' H' m1 ∧ Rp X.K X.mg F' v d ∧ (match d with
    | .ref p => (match m1 p with
      | some (.lst ds) => onO (lmbs m1 ds) fun fos => ∀ σ, ve (vWhyV i n1 vw (vAskV (LmdP X.env.cells (X.env.qual ++ "<lambda>") Ls) σ ves)) (dstart n2 [.lst (fos.map fun fo => .lmb fo.1 fo.2 σ sl)]) (mdel (nofob m1) p) (endP kk)
      | _ => False)
    | _ => False)) I hargs) fun us s1 ⟨vs, H1, I1, r1, v, d, F1, m1, ev, st, rd, hh⟩ => ⟨I1.kIn, ?_⟩) he (by rfl)
  subst ev
  cases r1 with
  | @cons _ u0 _ _ ru rn =>
    cases rn
    split at hh
    · rename_i pl
      split at hh
      · rename_i ds hml
        obtain ⟨fos, h1, h2⟩ := onO_of hh
        clear hh
        cases rd
        obtain rfl : u0 = .ref pl := ru
        obtain ⟨G, C⟩ := cellB I1
        have KG : X.K.In G := I1.ok.mod.kin.keeps C.base
        have NG : G.Ns mainGlobals X.mg := I1.ok.mod.glob.keeps C.base
        obtain ⟨g', fd, a, b, pg, bg, sg, Ng, kws, hm', D, hbi, Sg, rfl, hG⟩ := (hE G KG NG).ex
        rw [hm] at hm'
        cases hm'
        obtain ⟨oc, od, dV, kV, doc, pm, an, cdv, ct, osl, rfl, lk, hcd', hD, hK⟩ := D.ex
        have en1 := en.stm st
        have stA := fob_frz st.le st.mr
        have hn1 : nofob m1 pl = some (.lst ds) := by unfold nofob; rw [hml]
        obtain ⟨_, xs, hx, rl⟩ := st.mr pl _ hml
        obtain ⟨F2, d2, stB, rp, hd2⟩ := StM.frz (k := fun d => d = .lst ds) stA.le stA.mr hn1 rfl rfl
        subst hd2
        have hF2 : F2 pl = some (.lst xs) := by
          cases rp with
          | lst s rl' =>
            have z := stB.le.lst s
            rw [hx] at z
            cases z
            exact s
        have rs : RpS X.K X.mg (fobF m1 F1) σ sl := (RpS.of en1.len en1.val).mono stA.gr
        have rlm := (lmbs_rp st.mr rs h1 rl).mono stB.gr
        have stC := (st.trans stA).trans stB
        have rc : codeAny (model X.prog X.w) X.A (.call (.ref g) ⟨[.ref pl], []⟩) (CR CX0 X.stack X.prog X.w H1 s1 Q E0) s1 := by
          refine LamX.run_ofS (N := Ng) (ps := [a]) (us := [.ref pl]) (vs := [.ref pl]) lk hcd' Sg hr (C.env0 hfn I1) (hbi s1 [.ref pl] I1.kIn rfl) (.cons rfl .nil) rfl fun hr' => ?_
          obtain ⟨t, ht', sn⟩ := hG cdv X.A X.stack s1 H1 (vWhyV i n1 vw (vAskV (LmdP X.env.cells (X.env.qual ++ "<lambda>") Ls) σ ves)) hr' fun Z W' p1 p2 p3 z1 z2 z3 z4 z5 hrZ gl hb => je_whyV I1 C hL z1 z2 z3 z4 z5 (hW G KG NG) hrZ gl hb hdy
          refine ⟨t, ht'.nox, sn _ F2 H1 _ _ _ stC.le (env_start stC.mr (.cons (.lst hF2 rlm) .nil)) (h2 σ) _ ?_⟩
          exact ⟨fun σ' s' F' H' m' st2 e g => q _ _ F' H' m' (stC.trans st2) .non g, fun v d F' H' m' st2 rd g => q v d F' H' m' (stC.trans st2) rd g, fun _ _ _ _ _ _ _ g => g.elim, fun _ _ _ _ _ _ _ g => g.elim, fun _ _ _ _ _ _ _ _ _ _ _ g => g.elim⟩
        refine wpAny_call (codeAny_mono rc fun r s2 hq => ?_)
        cases r with
        | error e => exact (show False from hq).elim
        | ok fl =>
          cases fl with
          | ret u => exact I1.after hq
          | next => exact False.elim hq
          | brk => exact False.elim hq
          | cont => exact False.elim hq
      · exact hh.elim
    · exact hh.elim
end
end Ts
/-! ### C.f, a number; x != y by an own __eq__ -/
namespace Ts
open PySem PySem.Spec PyProof.Rows L2
def cvB (n : Int) : Option PySem.W.CFound → Bool
  | some (.val (.int i _)) => decide (i = n)
  | _ => false
theorem cvB_ok {n : Int} {o : Option PySem.W.CFound} (h : cvB n o = true) : ∃ t, o = some (.val (.int n t)) := by
  unfold cvB at h
  split at h
  · rename_i i t
    obtain rfl := of_decide_eq_true h
    exact ⟨t, rfl⟩
  · cases h
def cvT (C f : Str) (n : Int) : Tb := fun K => (He.Fa.glo C).ok K && (PySem.W.readsIn K (He.ga K C) (.type "type") && (decide (PySem.W.specialIn K (.ref (He.ga K C)) "__getattribute__" = some (some (.builtin "type.__getattribute__"))) && cvB n (PySem.W.findCls K (.ref (He.ga K C)) (.type "type") f)))
/-- the class C has the number n at f -/
structure CvF (K : PySem.W.Frag) (mg : Str → Option Value) (C f : Str) (n : Int) : Prop where
  ex : ∃ Ca t, mg C = some (.ref Ca) ∧ ClX.CRead K Ca (.type "type") ∧ PySem.W.findCls K (.ref Ca) (.type "type") f = some (.val (.int n t))
theorem cvF_of {K : PySem.W.Frag} {h : Heap} {mg : Str → Option Value} {C f : Str} {n : Int} (X : K.In h) (G : h.Ns mainGlobals mg) (c : cvT C f n K = true) : CvF K mg C f n := by
  unfold cvT at c
  obtain ⟨c1, c⟩ := He.ba c
  obtain ⟨c2, c⟩ := He.ba c
  obtain ⟨c3, c4⟩ := He.ba c
  rw [decide_eq_true_eq] at c3
  obtain ⟨t, e⟩ := cvB_ok c4
  exact ⟨He.ga K C, t, He.glo_ok X G c1, ⟨c2, c3⟩, e⟩
section
variable {X : Cx} {W : WX} {pos : Pos}
theorem je_cv {C f : Str} {n : Int} {p : Pos} (c : CvF X.K X.mg C f n) (hg : Gl X C) (hdb : (C == ("__debug__" : Str)) = false := by decide) (hb : attributeBase (.Name C p) f X.env (eval (.Name C p) X.env) = eval (.Name C p) X.env := by rfl) :
    JE X W (.Attribute (.Name C p) f pos) (vC (.int n)) := by
  obtain ⟨Ca, t, h1, h2, h3⟩ := c.ex
  exact ⟨_, ClX.pe_cval (pe_glob (v := V.ref Ca) hg h1 rfl hdb) hb, fun σ F H s m k x l en hv hx Q q => ⟨Ca, _, .int n, _, rfl, h2, ⟨h3, t, rfl⟩, q _ _ F H m (StM.refl l en.mem) (.int n) hv⟩⟩
end
/-! != -/
def neT (C : Str) : Tb := fun K => (He.Fa.glo C).ok K && (decide (PySem.W.findIn K (.ref (He.ga K C)) "__ne__" = some (some (.builtin "object.__ne__"))) && decide (PySem.W.mroIn K (He.ga K C) (.type "object") = some true))
structure NeC (K : PySem.W.Frag) (mg : Str → Option Value) (C : Str) : Prop where
  ex : ∃ Ca, mg C = some (.ref Ca) ∧ PySem.W.findIn K (.ref Ca) "__ne__" = some (some (.builtin "object.__ne__")) ∧ PySem.W.mroIn K Ca (.type "object") = some true
theorem neC_of {K : PySem.W.Frag} {h : Heap} {mg : Str → Option Value} {C : Str} (X : K.In h) (G : h.Ns mainGlobals mg) (c : neT C K = true) : NeC K mg C := by
  unfold neT at c
  obtain ⟨c1, c⟩ := He.ba c
  obtain ⟨c2, c3⟩ := He.ba c
  rw [decide_eq_true_eq] at c2 c3
  exact ⟨He.ga K C, He.glo_ok X G c1, c2, c3⟩
section
variable {M : Model} {prog : Program} {w : World} {A : Around} {E : Value → Shared → Prop} {s : Shared} {K : PySem.W.Frag} {x C f L : Addr} {h₀ : Heap} {m : Str → Option Value} {ox : Obj} {od : Option Obj} {b tb : Value}
/-- object.__ne__ asks __eq__ -/
theorem ne_entry {R : Bool → Shared → Prop} {Q : Fin → Shared → Prop} (hu : A.units < cLine) (one : wpAny M A (callSpecialIfBound? (.ref x) "__eq__" [b]) (fun r s' => ∃ v, r = some (.bool v) ∧ R v s') E s) (h : ∀ v s', R v s' → Q (.done (.ret (.bool (!v)))) s') :
    wpAny M A (Builtin.«object.__ne__» ⟨[.ref x, b], []⟩) Q E s := by
  unfold Builtin.«object.__ne__»
  repeat (first | with_reducible refine wpAny_cRoomFor hu ?_ | with_reducible refine wpAny_mono one (fun r s' z => ?_) (fun _ _ e => e) | wp_step)
  obtain ⟨v, rfl, q⟩ := z
  show wpAny M A (truthy (.bool v) >>= fun b => ret (.bool (!b))) Q E s'
  refine wpAny_bind (wpAny_truthy_bool ?_)
  exact wpAny_pure (h v s' q)
theorem ne_special {args : List Value} {Q : Option Value → Shared → Prop} (X : K.In s.heap) (I : PySem.W.InstAt s.heap x ox C od) (hs : PySem.W.findIn K (.ref C) "__ne__" = some (some (.builtin "object.__ne__")))
    (go : wpAny M A (call (.builtin "object.__ne__") (.ref x :: args)) (fun v => Q (some v)) E s) : wpAny M A (callSpecialIfBound? (.ref x) "__ne__" args) Q E s := by
  simp only [bindSpecialIfBound?, callSpecialIfBound?]
  have fin : wpAny M A ((call (.builtin "object.__ne__") ([.ref x] ++ args)) >>= fun v => (pure (some v) : Sem (Option Value))) Q E s := wpAny_bind (wpAny_mono go (fun _ _ z => wpAny_pure z) fun _ _ z => z)
  refine wpAny_holding (wpAny_bind (wpAny_bind (wpAny_bind (I.type.here ((PySem.W.looks_findIn X hs).here (wpAny_bind (wpAny_askSetting (wpAny_ite ?_))))))))
  split
  · exact wpAny_bind (wpAny_of_eq (F.cmp_object.ne.bind _) (wpAny_pure (show wpAny _ _ _ _ _ _ from fin)))
  · exact wpAny_tryCatch (wpAny_bind (wpAny_of_eq (F.cmp_object.ne.bind _) (wpAny_pure (show wpAny _ _ _ _ _ _ from fin))))
theorem ne_call {R : Bool → Shared → Prop} {Q : Value → Shared → Prop} (hu : A.in1.units < cLine) (X : K.In s.heap) (I : PySem.W.InstAt s.heap x ox C od) (hm : PySem.W.mroIn K C (.type "object") = some true) (he : PySem.W.findIn K (.ref C) "__eq__" = some (some (.ref f))) (hf : PySem.W.isFn K (.ref f) = true)
    (go : wpAny (model prog w) A.in1 (call (.ref f) [.ref x, b]) (fun v s' => ∃ c, v = .bool c ∧ R c s') E s) (h : ∀ c s', R c s' → Q (.bool (!c)) s') : wpAny (model prog w) A (call (.builtin "object.__ne__") [.ref x, b]) Q E s := by
  refine wpAny_call (codeAny_call_builtin F.cmp_object.ne.plain F.cmpEntry_ne (PySem.W.check_slot F.cmpKind_ne F.cmpSplit_ne (I.type.andThen (PySem.W.looks_mroIn X hm)) (F.cmpArgs_ne _ _) ?_))
  refine ne_entry hu (R := R) (PySem.W.ifBound_K X I he hf (wpAny_mono go (fun v s' z => ?_) fun _ _ z => z)) fun v s' z => ?_
  · obtain ⟨c, rfl, q⟩ := z
    exact ⟨c, rfl, q⟩
  · exact h v s' z
/-- x != b -/
theorem ne_own {R : Bool → Shared → Prop} {Q : Value → Shared → Prop} (hu : A.in1.units < cLine) (hu0 : A.units < cLine) (X : K.In s.heap) (I : PySem.W.InstAt s.heap x ox C od) (hb : PySem.W.Looks (model prog w) s.heap (typeOf b) tb) (hn : PySem.W.notFirst K C tb = true) (hne : PySem.W.findIn K (.ref C) "__ne__" = some (some (.builtin "object.__ne__")))
    (hm : PySem.W.mroIn K C (.type "object") = some true) (he : PySem.W.findIn K (.ref C) "__eq__" = some (some (.ref f))) (hf : PySem.W.isFn K (.ref f) = true)
    (go : wpAny (model prog w) A.in1 (call (.ref f) [.ref x, b]) (fun v s' => ∃ c, v = .bool c ∧ R c s') E s) (h : ∀ c s', R c s' → Q (.bool (!c)) s') : wpAny (model prog w) A (richCompare .NotEq (.ref x) b) Q E s := by
  have one : wpAny (model prog w) A (tryCompare (.ref x) (cmpInfo .NotEq).2.1 b) (fun r s' => ∃ v, r = some v ∧ Q v s') E s := by
    show wpAny (model prog w) A (tryCompare (.ref x) "__ne__" b) _ E s
    unfold tryCompare
    exact wpAny_bind (ne_special X I hne (ne_call hu X I hm he hf go fun c s' z => wpAny_pure ⟨_, rfl, h c s' z⟩))
  unfold richCompare
  simp only [oneThing_ref]
  refine wpAny_holding (wpAny_bind (wpAny_cRoomFor hu0 (wpAny_bind (I.type.here (wpAny_bind (hb.here ?_))))))
  split
  · rename_i q
    have sub : PySem.W.subIn K tb (.ref C) = some false := by
      unfold PySem.W.notFirst at hn
      rcases Bool.or_eq_true_iff.mp hn with z | z
      · rw [beq_iff_eq.mp z] at q; simp at q
      · exact beq_iff_eq.mp z
    refine wpAny_bind ((PySem.W.looks_subIn X sub).here ?_)
    rw [if_neg Bool.false_ne_true]
    refine wpAny_bind (wpAny_mono one (fun r s' z => ?_) fun _ _ z => z)
    obtain ⟨v, rfl, hq⟩ := z
    exact wpAny_pure hq
  · refine wpAny_bind (wpAny_pure ?_)
    rw [if_neg Bool.false_ne_true]
    refine wpAny_bind (wpAny_mono one (fun r s' z => ?_) fun _ _ z => z)
    obtain ⟨v, rfl, hq⟩ := z
    exact wpAny_pure hq
end
section
variable {X : Cx} {CX : CXT} {C f : Addr} {k : Nat} {sp : Sp}
theorem op_neI {C : Addr} (hm : Meth X.K C "__eq__" f) (hne : PySem.W.findIn X.K (.ref C) "__ne__" = some (some (.builtin "object.__ne__"))) (hmr : PySem.W.mroIn X.K C (.type "object") = some true) (F : FnR X.prog X.w X.K X.mg X.base CX0 k f sp) (hr : Room (k + 1) X.A) :
    OpR X (compareOp .NotEq) (fun x y H Q => ∃ a dx fs, x = .ref a ∧ H a = some (.ins C dx fs) ∧ NotC C H X.K y ∧ sp [x, y] H (fun v H' => ∃ b, v = .bl b ∧ Q (.bl (!b)) H') E0) := by
  intro pins s σ H x y v u Q I rx ry ⟨a, dx, fs, e1, ha, hy, hq⟩
  subst e1
  cases rx
  obtain ⟨mA, J, _⟩ := ins_get I.hok ha
  obtain ⟨od, J, _⟩ := J.look
  have back : wpAny (model X.prog X.w) X.A.in1 (call (.ref f) [.ref a, u]) (fun v s' => ∃ c, v = .bool c ∧ EP X pins σ Q (.bool (!c)) s') X.xe s := by
    refine wpAny_mono (run_FnI (E := fun _ => E0) (σ := σ) (vs := [.ref a, y]) F hr passAt0 I (.cons rfl (.cons ry .nil)) hq) (fun v s' q => ?_) fun _ _ e => e
    obtain ⟨z, H', I', rz, b, ez, hQ⟩ := q
    subst ez
    cases rz
    exact ⟨b, rfl, .bl (!b), H', I', rfl, hQ⟩
  refine PySem.W.cmp_ofNotEq ?_
  cases y with
  | ref b =>
    cases ry
    rcases (show (∃ dy gs, H b = some (.ins C dy gs)) ∨ (∃ xs, SqL X.K H b xs) from hy) with ⟨dy, gs, hb⟩ | ⟨xs, hb⟩
    · obtain ⟨mB, J', _⟩ := ins_get I.hok hb
      obtain ⟨od', J', _⟩ := J'.look
      exact ne_own (tb := .ref C) hr.in1.units0 hr.units0 I.kIn J J'.type (by simp [PySem.W.notFirst]) hne hmr hm.at_ hm.fn back fun c s' z => z
    · obtain ⟨its, _, ⟨o, n, ho, hc, _⟩, _⟩ := I.list hb
      have lt : PySem.W.Looks (model X.prog X.w) s.heap (typeOf (.ref b)) (.type "list") := fun A Q E s k q => wpAny_typeOf_ref (k _ _ ho) (by rw [hc]; exact q)
      refine ne_own (tb := .type "list") hr.in1.units0 hr.units0 I.kIn J lt ?_ hne hmr hm.at_ hm.fn back fun c s' z => z
      have : PySem.W.subIn X.K (.type "list") (.ref C) = some false := rfl
      unfold PySem.W.notFirst
      rw [this]
      simp
  | _ => exact hy.elim
@[reducible] def oNeI (C : Str) (φ : P0) : O2 := fun d e m k => onO (asI C m d) fun _ => insL C m e ∧ φ [d, e] m fun y m1 => blD y fun y => (match y with | .bl b => k (.bl (!b)) m1 | _ => False)
theorem jo_neI {C : Str} {φ : P0} (G : Mt0 X.prog X.w X.K X.mg X.base C "__eq__" k φ) (ne : NeC X.K X.mg C) (hr : Room (k + 1) X.A) : JO2 X (compareOp .NotEq) (oNeI C φ) := by
  obtain ⟨Ca, f, h1, h2, h3, h4⟩ := G.ex
  obtain ⟨Ca', n1, n2, n3⟩ := ne.ex
  rw [h1] at n1
  cases n1
  refine ⟨_, op_neI h3 n2 n3 h4 hr, fun F H m x y u v k l mr a b h Q q => ?_⟩
  obtain ⟨fs, e1, hy, h⟩ := onO_of h
  obtain ⟨p, Ca', dx, xs, rfl, hm, hH, rk⟩ := a.asIns l mr e1
  rw [h1] at hm
  cases hm
  refine ⟨p, dx, xs, rfl, hH, ?_, F, [x, y], m, _, l, .cons a (.cons b .nil), mr, h, fun v d F' H' m' st r hk => ?_⟩
  · rcases hy with hy | hy
    · obtain ⟨gs, e2⟩ := Option.isSome_iff_exists.mp hy
      obtain ⟨p2, Ca', dx2, xs2, rfl, hm, hH2, rk2⟩ := b.asIns l mr e2
      rw [h1] at hm
      cases hm
      exact .inl ⟨dx2, xs2, hH2⟩
    · obtain ⟨gs, e2⟩ := Option.isSome_iff_exists.mp hy
      obtain ⟨p2, vs, rfl, sq, _⟩ := b.asL l mr e2
      exact .inr ⟨vs, sq⟩
  · cases d with
    | bl c => cases r; exact ⟨c, rfl, q _ _ F' H' m' st (.bl _) hk⟩
    | _ => exact hk.elim
end
end Ts
/-! ### sorted([(name, tuple), ..]), the names differ -/
namespace Ts
open PySem PySem.Spec PyProof.Rows L2
/-- v is a tuple of a text and a thing -/
def NameTup (h : Heap) (v : Value) (z : Str) (q : Addr) : Prop := ∃ (a : Addr) (o : Obj) (t : Tok) (n : Nat), v = .ref a ∧ h.get? a = some o ∧ o.cls = .type "tuple" ∧ o.data = .seq #[.str z t, .ref q] n
theorem NameTup.keeps {h h' : Heap} {v : Value} {z : Str} {q : Addr} (p : NameTup h v z q) (k : ∀ b o, h.get? b = some o → o.cls = .type "tuple" → h'.get? b = some o) : NameTup h' v z q := by
  obtain ⟨a, o, t, n, e, ho, hc, hd⟩ := p
  exact ⟨a, o, t, n, e, k a o ho hc, hc, hd⟩
theorem nlt_tr {a b c : List Nat} (h1 : ¬ a < b) (h2 : ¬ b < c) : ¬ a < c := by
  have h1 : b ≤ a := List.not_lt.mp h1
  have h2 : c ≤ b := List.not_lt.mp h2
  exact List.not_lt.mpr (List.le_trans h2 h1)
theorem swo_nm (k : Value → Str) : SrtO.Swo fun v u => decide ((k v).cps.toList < (k u).cps.toList) := by
  refine ⟨fun x y h => ?_, fun x y z h1 h2 => ?_⟩
  · have h := of_decide_eq_true h
    exact decide_eq_false (List.lt_asymm h)
  · exact decide_eq_false (nlt_tr (of_decide_eq_false h2) (of_decide_eq_false h1))
section
variable {prog : Program} {w : World} {A : Around} {E : Value → Shared → Prop} {s : Shared}
theorem same_ref {q : Addr} {Q : Bool → Shared → Prop} (h : Q true s) : wpAny (model prog w) A (eqBool (.ref q) (.ref q)) Q E s := by
  unfold eqBool
  refine wpAny_holding ?_
  refine wpAny_ite_split (fun _ => wpAny_bind (wpAny_rule (wpAny_pure h))) (fun hab => ?_)
  exact absurd (by simp) hab
theorem nm_cmp {vs : List Value} {k : Value → Str} (hp : ∀ v ∈ vs, ∃ q, NameTup s.heap v (k v) q) (hd : ∀ v ∈ vs, ∀ u ∈ vs, k v = k u → v = u) : SrtO.Cmp prog w A s (tuples' true) (fun p => p.1 ∈ vs) (SrtO.lt2 fun v u => decide ((k v).cps.toList < (k u).cps.toList)) := by
  intro p q hm hm'
  obtain ⟨r1, a, o, t, n, e, ho, hc, hdt⟩ := hp _ hm
  obtain ⟨r2, a', o', t', n', e', ho', hc', hdt'⟩ := hp _ hm'
  have same := hd _ hm _ hm'
  show wpAny (model prog w) A (keyLt' (tuples' true) p.1 q.1) (fun r s' => s' = s ∧ r = decide ((k p.1).cps.toList < (k q.1).cps.toList)) (fun _ _ => False) s
  generalize hz : k p.1 = z at *
  generalize hz' : k q.1 = z' at *
  rw [e, e'] at same ⊢
  refine PySem.W.kat_lt ho hdt ho' hdt' ?_
  show PySem.W.KatLex prog w A true (decide (2 < 2)) _ [(.str z t, .str z' t'), (.ref r1, .ref r2)] 0 s
  refine PySem.W.kat_cons (wpAny_eqBool_str ?_)
  refine PySem.W.kat_go (fun e1 => ?_) (fun e1 => ?_)
  · have ez : z = z' := of_decide_eq_true e1
    have ea := same ez
    cases ea
    rw [ho] at ho'
    cases ho'
    rw [hdt] at hdt'
    cases hdt'
    refine PySem.W.kat_yes (PySem.W.kat_cons (same_ref (PySem.W.kat_yes (PySem.W.kat_nil ⟨rfl, ?_⟩))))
    rw [ez, decide_eq_false (List.lt_irrefl _)]
    rfl
  · exact PySem.W.kat_no (oneLt_str ⟨rfl, rfl⟩)
theorem nm_firsts {h : Heap} {k : Value → Str} : ∀ {vs : List Value}, (∀ v ∈ vs, ∃ q, NameTup h v (k v) q) → ∃ fs : List Value, PySem.W.KatTups h vs fs ∧ fs.length = vs.length ∧ ∀ f ∈ fs, ∃ x t, f = Value.str x t
  | [], _ => ⟨[], PySem.W.KatTups.nil, rfl, fun _ hm => absurd hm (by simp)⟩
  | v :: vs, hp => by
    obtain ⟨fs, h1, h2, h3⟩ := nm_firsts (vs := vs) fun v' hm => hp v' (List.mem_cons_of_mem _ hm)
    obtain ⟨q, a, o, t, n, e, ho, hc, hd⟩ := hp v List.mem_cons_self
    subst e
    refine ⟨.str (k (.ref a)) t :: fs, PySem.W.KatTups.cons ho hc hd rfl h1, by rw [List.length_cons, List.length_cons, h2], fun f hm => ?_⟩
    rcases List.mem_cons.mp hm with e | hm
    · exact ⟨_, _, e⟩
    · exact h3 f hm
theorem nm_sortable {a : Addr} {vs : List Value} {k : Value → Str} (h0 : 0 < vs.length) (hp : ∀ v ∈ vs, ∃ q, NameTup s.heap v (k v) q) (hd : ∀ v ∈ vs, ∀ u ∈ vs, k v = k u → v = u) (ha : ∀ o, s.heap.get? a = some o → o.cls ≠ .type "tuple") :
    SrtO.SortableO prog w A s a vs fun v u => decide ((k v).cps.toList < (k u).cps.toList) := by
  intro h' keep
  have hp' : ∀ v ∈ vs, ∃ q, NameTup h' v (k v) q := fun v hm => let ⟨q, z⟩ := hp v hm; ⟨q, z.keeps fun b o e c => keep b o (fun y => by rw [y] at e; exact ha o e c) e⟩
  obtain ⟨fs, h1, h2, h3⟩ := nm_firsts hp'
  refine ⟨tuples' true, fun Q E hq => ?_, nm_cmp hp' hd⟩
  refine PySem.W.kat_kind (T := .type "str") h1 (by omega) (fun f hm => ?_) (by rfl) ?_
  · obtain ⟨x, t, e⟩ := h3 f hm
    rw [e]
    exact PySem.W.Looks.now
  · rw [show (Value.type "str" != Value.type "tuple") = true by first | decide +kernel | rfl]
    exact hq
theorem sorted_nm {l : Addr} {vs : List Value} {k : Value → Str} {Q : Value → Shared → Prop} (hl : s.heap.IsList l vs.toArray) (hz : vs.length ≤ sizeLine) (hp : ∀ v ∈ vs, ∃ q, NameTup s.heap v (k v) q) (hd : ∀ v ∈ vs, ∀ u ∈ vs, k v = k u → v = u)
    (go : ∀ (h' : Heap) (d : Addr) (out : List Value), SrtO.Srtd (fun v u => decide ((k v).cps.toList < (k u).cps.toList)) out → out.Perm vs → (∀ b o, s.heap.get? b = some o → h'.get? b = some o) → s.heap.objs.size ≤ d → (∃ n, h'.get? d = some (seqObj "list" out.toArray n)) → Q (.ref d) { s with heap := h' }) :
    wpAny (model prog w) A (call (.builtin "sorted") [.ref l]) Q E s := by
  refine SrtO.sorted_ord (swo_nm k) hl hz (fun h2 h₁ a ha kk => ?_) fun out hs hb => go _ _ out hs hb.perm (fun b o e => sortedAll_old e) (Nat.le_succ _) (sortedAll_at s.heap vs out.toArray)
  refine nm_sortable (s := { s with heap := h₁ }) (by omega) (fun v hm => let ⟨q, z⟩ := hp v hm; ⟨q, z.keeps fun b o e _ => (kk b o e).2⟩) hd fun o e => ?_
  have e' : some o = some (seqObj "list" vs.toArray 0) := e.symm.trans ha
  cases e'
  intro c
  exact absurd (Value.type.inj c) (by decide)
end
/-! the rule -/
/-- the name of a tuple of the heap -/
def nmAt (h : Heap) : Value → Str
  | .ref a => (match h.get? a with
    | some o => (match o.data with
      | .seq xs _ => (match (xs[0]? : Option Value) with
        | some (.str z _) => z
        | _ => "")
      | _ => "")
    | none => "")
  | _ => ""
theorem nmAt_of {h : Heap} {v : Value} {z : Str} {q : Addr} (p : NameTup h v z q) : nmAt h v = z := by
  obtain ⟨a, o, t, n, rfl, ho, hc, hd⟩ := p
  unfold nmAt
  simp only [ho, hd]
  rfl
theorem perm_liftN {α β : Type} {f : α → β} : ∀ {l : List β} {T : List α}, l.Perm (T.map f) → ∃ T' : List α, T'.Perm T ∧ T'.map f = l
  | [], T, h => by
    have e := h.symm.eq_nil
    rw [List.map_eq_nil_iff] at e
    exact ⟨[], by rw [e], rfl⟩
  | b :: l, T, h => by
    have hb : b ∈ T.map f := h.mem_iff.mp List.mem_cons_self
    obtain ⟨t, ht, e⟩ := List.mem_map.mp hb
    obtain ⟨A, B, eT⟩ := List.append_of_mem ht
    subst eT e
    have h2 : l.Perm ((A ++ B).map f) := by
      have h3 : ((A ++ t :: B).map f).Perm (f t :: (A ++ B).map f) := by
        rw [List.map_append, List.map_cons, List.map_append]
        exact List.perm_middle
      exact (h.trans h3).cons_inv
    obtain ⟨T', h4, h5⟩ := perm_liftN h2
    exact ⟨t :: T', (h4.cons t).trans List.perm_middle.symm, by rw [List.map_cons, h5]⟩
def rSortN (K : PySem.W.Frag) : List V → Hp → VK → Prop := fun vs H Q => ∃ (a : Addr) (ps : List (V × Str)), vs = [V.ref a] ∧ SqL K H a (ps.map (·.1)) ∧ (∀ p ∈ ps, ∃ t q, p.1 = V.ref t ∧ SqT K H t [.str p.2, .ref q]) ∧ (ps.map (·.2)).Nodup ∧
  ∀ (ps' : List (V × Str)) (b : Addr), ps'.Perm ps → ps'.Pairwise (fun x y => ¬ y.2.cps.toList < x.2.cps.toList) → H b = none → Q (.ref b) (upd H b (.lst (ps'.map (·.1))))
section
variable {X : Cx}
theorem nd_injN {α β : Type} {f : α → β} : ∀ {l : List α}, (l.map f).Nodup → ∀ x ∈ l, ∀ y ∈ l, f x = f y → x = y
  | [], _, x, hx, _, _, _ => absurd hx (by simp)
  | a :: l, h, x, hx, y, hy, e => by
    rw [List.map_cons, List.nodup_cons] at h
    rcases List.mem_cons.mp hx with hx | hx
    · rcases List.mem_cons.mp hy with hy | hy
      · rw [hx, hy]
      · exact absurd (List.mem_map.mpr ⟨y, hy, by rw [← e, hx]⟩) h.1
    · rcases List.mem_cons.mp hy with hy | hy
      · exact absurd (List.mem_map.mpr ⟨x, hx, by rw [e, hy]⟩) h.1
      · exact nd_injN h.2 x hx y hy e
theorem zip_eqN {α β γ : Type} {f : γ → α} {g : γ → β} : ∀ {ps : List (α × β)} {l : List γ}, ps.map (·.1) = l.map f → (∀ v ∈ l, ∀ p ∈ ps, f v = p.1 → g v = p.2) → ps = l.map fun v => (f v, g v)
  | [], [], _, _ => rfl
  | [], _ :: _, e, _ => by cases e
  | _ :: _, [], e, _ => by cases e
  | p :: ps, v :: l, e, h => by
    rw [List.map_cons, List.map_cons] at e
    injection e with e1 e2
    rw [List.map_cons, ← zip_eqN e2 fun v hv p hp e => h v (List.mem_cons_of_mem _ hv) p (List.mem_cons_of_mem _ hp) e]
    have := h v List.mem_cons_self p List.mem_cons_self e1.symm
    rw [← e1, this]
theorem cr_sortN : CallR X (.builtin "sorted") (rSortN X.K) := by
  intro pins s σ H vs us Q I r h
  obtain ⟨a, ps, rfl, hs, hx, nd, q⟩ := h
  obtain ⟨its, rv, hl, hz⟩ := I.list hs
  obtain ⟨u, rfl, ru⟩ := vals1 r
  obtain rfl : u = Value.ref a := ru
  obtain ⟨e1, e2⟩ := refs_back rv fun x m => by
    obtain ⟨p, hp, e⟩ := List.mem_map.mp m
    obtain ⟨t, _, e', _⟩ := hx p hp
    exact ⟨t, by rw [← e, e']⟩
  have at_ : ∀ p ∈ ps, ∀ v, backV v = p.1 → v ∈ its → ∃ q, NameTup s.heap v p.2 q := fun p hp v hv hm => by
    obtain ⟨t, q, e, sq⟩ := hx p hp
    obtain ⟨t', rfl⟩ := e2 v hm
    have e3 : V.ref t' = V.ref t := (show backV (.ref t') = _ from hv).trans e
    cases e3
    obtain ⟨its2, r2, ⟨o, ho, hc, n, hd⟩, _⟩ := I.tuple sq
    obtain ⟨u1, u2, rfl, ri, rj⟩ := vals2 r2
    obtain ⟨t1, rfl⟩ := ri
    cases rj
    exact ⟨q, _, o, t1, n, rfl, ho, hc, hd⟩
  have bk : ∀ v ∈ its, ∃ p ∈ ps, backV v = p.1 := fun v hv => by
    have : backV v ∈ ps.map (·.1) := by rw [e1]; exact List.mem_map.mpr ⟨v, hv, rfl⟩
    obtain ⟨p, hp, e⟩ := List.mem_map.mp this
    exact ⟨p, hp, e.symm⟩
  have nm : ∀ v ∈ its, ∀ p ∈ ps, backV v = p.1 → nmAt s.heap v = p.2 := fun v hv p hp e => let ⟨q, z⟩ := at_ p hp v e hv; nmAt_of z
  refine sorted_nm (k := nmAt s.heap) hl.isList (by rw [← rv.length]; exact hz) (fun v hv => ?_) (fun v hv u hu e => ?_) fun h' d out h1 h2 kp hd hn => ?_
  · obtain ⟨p, hp, e⟩ := bk v hv
    rw [nm v hv p hp e]
    exact at_ p hp v e hv
  · obtain ⟨p, hp, e3⟩ := bk v hv
    obtain ⟨p', hp', e4⟩ := bk u hu
    rw [nm v hv p hp e3, nm u hu p' hp' e4] at e
    have : p = p' := nd_injN nd p hp p' hp' e
    obtain ⟨x, rfl⟩ := e2 v hv
    obtain ⟨y, rfl⟩ := e2 u hu
    have e5 : V.ref x = V.ref y := (show backV (.ref x) = _ from e3).trans (by rw [this]; exact e4.symm)
    cases e5
    rfl
  · have h3 : ∀ u ∈ out, ∃ a, u = Value.ref a := fun u hu => e2 u (h2.mem_iff.mp hu)
    obtain ⟨n, hn⟩ := hn
    have ep : ps = its.map fun v => (backV v, nmAt s.heap v) := zip_eqN e1 fun v hv p hp e => nm v hv p hp e
    refine ⟨.ref d, upd H d (.lst (out.map backV)), I.laid (t' := s.toks) kp hd ⟨?_, out, n, vals_back h3, hn⟩, rfl, ?_⟩
    · rw [List.length_map, h2.length_eq, ← rv.length]
      exact hz
    · have := q (out.map fun v => (backV v, nmAt s.heap v)) d (by rw [ep]; exact h2.map _) (by
        rw [List.pairwise_map]
        refine List.Pairwise.imp ?_ h1
        intro x y hxy
        exact of_decide_eq_false hxy) (I.hok.fresh hd)
      rw [List.map_map] at this
      exact this
end
/-! sorted(xs), tuples of a name and a tuple, the names differ -/
@[reducible] def npD (e : Str × List D) : D := .tup [.str e.1, .tup e.2]
def npDs : List D → Option (List (Str × List D))
  | [] => some []
  | .tup [.str z, .tup e] :: r => (npDs r).map ((z, e) :: ·)
  | _ => none
theorem npDs_map : ∀ es : List (Str × List D), npDs (es.map npD) = some es
  | [] => rfl
  | e :: es => by
    show (npDs (es.map npD)).map _ = _
    rw [npDs_map es]; rfl
theorem npDs_rp {K : PySem.W.Frag} {mg : Str → Option Value} {F : Hp} : ∀ {ds : List D} {es : List (Str × List D)} {xs : List V}, npDs ds = some es → RpL K mg F xs ds →
    ∃ T : List (V × Str × List D), T.map (·.1) = xs ∧ T.map (·.2) = es ∧ ∀ t ∈ T, Rp K mg F t.1 (npD t.2) ∧ ∃ p q, t.1 = .ref p ∧ SqT K F p [.str t.2.1, .ref q]
  | [], es, xs, h, r => by cases h; cases r; exact ⟨[], rfl, rfl, by simp⟩
  | d :: ds, es, xs, h, r => by
    cases r with
    | cons r1 r2 =>
      unfold npDs at h
      split at h
      · cases ‹_ :: _ = []›
      · rename_i z e r' heq
        cases heq
        obtain ⟨fs, h1, h2⟩ := Option.map_eq_some_iff.mp h
        subst h2
        obtain ⟨T, t1, t2, t3⟩ := npDs_rp h1 r2
        have keep := r1
        cases r1 with
        | tup sq rl =>
          rename_i a xs'
          cases rl with
          | cons ra rb =>
            cases rb with
            | cons rc rd =>
              cases rd
              cases ra
              cases rc with
              | tup sq2 _ =>
                refine ⟨(.ref a, z, e) :: T, by rw [List.map_cons, t1], by rw [List.map_cons, t2], fun t ht => ?_⟩
                rcases List.mem_cons.mp ht with rfl | ht
                · exact ⟨keep, _, _, rfl, sq.sqt⟩
                · exact t3 t ht
      · cases h
theorem rpl_of {K : PySem.W.Frag} {mg : Str → Option Value} {F : Hp} : ∀ {T : List (V × Str × List D)}, (∀ t ∈ T, Rp K mg F t.1 (npD t.2)) → RpL K mg F (T.map (·.1)) ((T.map (·.2)).map npD)
  | [], _ => .nil
  | t :: T, h => .cons (h t List.mem_cons_self) (rpl_of fun x hx => h x (List.mem_cons_of_mem _ hx))
def oSortN : OA := fun ds m k => match ds with
  | [d] => onO (asL m d) fun ds => onO (npDs ds) fun es => (es.map (·.1)).Nodup ∧ ∀ es' : List (Str × List D), es'.Perm es → es'.Pairwise (fun x y => ¬ y.1.cps.toList < x.1.cps.toList) → k (.lst (es'.map npD)) m
  | _ => False
theorem jo_sortN {X : Cx} : JOA X (.builtin "sorted") oSortN := ⟨_, cr_sortN, fun F H m xs us k l mr r h Q q => by
  unfold oSortN at h
  split at h
  · obtain ⟨u, rfl, a⟩ := r.one
    obtain ⟨ds, h1, h⟩ := onO_of h
    obtain ⟨es, h2, nd, h'⟩ := onO_of h
    clear h
    obtain ⟨p, vs, rfl, sp, rp⟩ := a.asL l mr h1
    obtain ⟨T, t1, t2, t3⟩ := npDs_rp h2 rp
    subst t1 t2
    refine ⟨p, T.map fun t => (t.1, t.2.1), rfl, by rw [List.map_map]; exact sp, fun y hy => ?_, by rw [List.map_map]; rw [List.map_map] at nd; exact nd, fun ps' b hp hs hn => ?_⟩
    · obtain ⟨t, ht, rfl⟩ := List.mem_map.mp hy
      obtain ⟨_, p', q', e, sq⟩ := t3 t ht
      exact ⟨p', q', e, l.sqt sq⟩
    · obtain ⟨T', p1, rfl⟩ := perm_liftN hp
      have st := Step.new (F := F) (o := .lst ((T'.map fun t => (t.1, t.2.1)).map (·.1))) l hn
      refine q _ _ _ _ m (st.stm mr) (.lst upd_same ?_) (h' (T'.map (·.2)) (p1.map _) ?_)
      · rw [List.map_map]
        exact (rpl_of fun t ht => (t3 t (p1.mem_iff.mp ht)).1).mono (gr_upd (l.none hn))
      · rw [List.pairwise_map] at hs ⊢
        exact hs
  · exact h.elim⟩
end Ts
/-! ### sorted({text for .. in .. for .. in ..}); {k: a} -/
namespace Ts
open PySem PySem.Spec PyProof.Rows L2 PpSet
section
variable {P : Program} {w : World} {A : Around} {E : Value → Shared → Prop} {s : Shared} {a : Addr} {l : List Str} {k : Str} {u : Tok}
end
/-! the two loops -/
section
variable {prog : Program} {w : World} {A : Around} {R : Result → Shared → Prop} {s : Shared} {elt t0 i0 t1 i1 : Expr} {scope : Scope} {pos : Pos} {it acc : Value} {env : Env}
end
section
variable {X : Cx}
end
/-! ### as readings -/
section
variable {X : Cx} {W : WX} {elt tg iter tg1 iter1 : Expr} {scope : Scope} {own : List (Str × Nat)} {pos : Pos} {vf vj : VF} {vg vgj : VG} {ve : VE} {js js1 : List Nat}
end
section
variable {X : Cx} {W : WX} {pos : Pos}
end
end Ts
namespace Ts
open PySem PySem.Spec PyProof.Rows L2
theorem tpD_1 : type_of% @tpD.eq_1 := @tpD.eq_1
theorem tpD_2 : type_of% @tpD.eq_2 := @tpD.eq_2
theorem hdS_1 : type_of% @hdS.eq_1 := @hdS.eq_1
theorem oLenI_1 : type_of% @oLenI.eq_1 := @oLenI.eq_1
theorem oReprI_1 : type_of% @oReprI.eq_1 := @oReprI.eq_1
theorem blD_1 : type_of% @blD.eq_1 := @blD.eq_1
theorem inD_1 : type_of% @inD.eq_1 := @inD.eq_1
theorem txD_1 : type_of% @txD.eq_1 := @txD.eq_1
theorem swapX_1 : type_of% @swapX.eq_1 := @swapX.eq_1
theorem oAdd_1 : type_of% @oAdd.eq_1 := @oAdd.eq_1
theorem oAdd_2 : type_of% @oAdd.eq_2 := @oAdd.eq_2
theorem oAdd_3 : type_of% @oAdd.eq_3 := @oAdd.eq_3
theorem oAdd_4 : type_of% @oAdd.eq_4 := @oAdd.eq_4
theorem oAdd_5 : type_of% @oAdd.eq_5 := @oAdd.eq_5
theorem oAdd_6 : type_of% @oAdd.eq_6 := @oAdd.eq_6
theorem oSub_1 : type_of% @oSub.eq_1 := @oSub.eq_1
theorem oMul_1 : type_of% @oMul.eq_1 := @oMul.eq_1
theorem oMul_2 : type_of% @oMul.eq_2 := @oMul.eq_2
theorem oMul_3 : type_of% @oMul.eq_3 := @oMul.eq_3
theorem oFdiv_1 : type_of% @oFdiv.eq_1 := @oFdiv.eq_1
theorem oMod_1 : type_of% @oMod.eq_1 := @oMod.eq_1
theorem oPow_1 : type_of% @oPow.eq_1 := @oPow.eq_1
theorem oNeg_1 : type_of% @oNeg.eq_1 := @oNeg.eq_1
theorem oLt_1 : type_of% @oLt.eq_1 := @oLt.eq_1
theorem oLt_2 : type_of% @oLt.eq_2 := @oLt.eq_2
theorem oLe_1 : type_of% @oLe.eq_1 := @oLe.eq_1
theorem oGt_1 : type_of% @oGt.eq_1 := @oGt.eq_1
theorem oGt_2 : type_of% @oGt.eq_2 := @oGt.eq_2
theorem oGe_1 : type_of% @oGe.eq_1 := @oGe.eq_1
theorem oIs_1 : type_of% @oIs.eq_1 := @oIs.eq_1
theorem oIsNot_1 : type_of% @oIsNot.eq_1 := @oIsNot.eq_1
theorem oIx_1 : type_of% @oIx.eq_1 := @oIx.eq_1
theorem oIx_2 : type_of% @oIx.eq_2 := @oIx.eq_2
theorem oIx_3 : type_of% @oIx.eq_3 := @oIx.eq_3
theorem oIx_4 : type_of% @oIx.eq_4 := @oIx.eq_4
theorem oIx_5 : type_of% @oIx.eq_5 := @oIx.eq_5
theorem oSl_1 : type_of% @oSl.eq_1 := @oSl.eq_1
theorem oSl_2 : type_of% @oSl.eq_2 := @oSl.eq_2
theorem oSl_3 : type_of% @oSl.eq_3 := @oSl.eq_3
theorem oSl_4 : type_of% @oSl.eq_4 := @oSl.eq_4
theorem oLen_1 : type_of% @oLen.eq_1 := @oLen.eq_1
theorem oLen_2 : type_of% @oLen.eq_2 := @oLen.eq_2
theorem oLen_3 : type_of% @oLen.eq_3 := @oLen.eq_3
theorem oLen_4 : type_of% @oLen.eq_4 := @oLen.eq_4
theorem oLen_5 : type_of% @oLen.eq_5 := @oLen.eq_5
theorem oLen_6 : type_of% @oLen.eq_6 := @oLen.eq_6
theorem oInt_1 : type_of% @oInt.eq_1 := @oInt.eq_1
theorem oInt_2 : type_of% @oInt.eq_2 := @oInt.eq_2
theorem oInt_3 : type_of% @oInt.eq_3 := @oInt.eq_3
theorem oAbs_1 : type_of% @oAbs.eq_1 := @oAbs.eq_1
theorem oAll_1 : type_of% @oAll.eq_1 := @oAll.eq_1
theorem oTuple_1 : type_of% @oTuple.eq_1 := @oTuple.eq_1
theorem oTuple_2 : type_of% @oTuple.eq_2 := @oTuple.eq_2
theorem oTuple_3 : type_of% @oTuple.eq_3 := @oTuple.eq_3
theorem oTuple_4 : type_of% @oTuple.eq_4 := @oTuple.eq_4
theorem oList_1 : type_of% @oList.eq_1 := @oList.eq_1
theorem oList_2 : type_of% @oList.eq_2 := @oList.eq_2
theorem oList_3 : type_of% @oList.eq_3 := @oList.eq_3
theorem oList_4 : type_of% @oList.eq_4 := @oList.eq_4
theorem oList_5 : type_of% @oList.eq_5 := @oList.eq_5
theorem oListO_1 : type_of% @oListO.eq_1 := @oListO.eq_1
theorem oListO_2 : type_of% @oListO.eq_2 := @oListO.eq_2
theorem oListO_3 : type_of% @oListO.eq_3 := @oListO.eq_3
theorem oListO_4 : type_of% @oListO.eq_4 := @oListO.eq_4
theorem oListO_5 : type_of% @oListO.eq_5 := @oListO.eq_5
theorem vGet_1 : type_of% @vGet.eq_1 := @vGet.eq_1
theorem isB_1 : type_of% @isB.eq_1 := @isB.eq_1
theorem gNl_1 : type_of% @gNl.eq_1 := @gNl.eq_1
theorem gCn_1 : type_of% @gCn.eq_1 := @gCn.eq_1
theorem gTp_1 : type_of% @gTp.eq_1 := @gTp.eq_1
theorem gTp_2 : type_of% @gTp.eq_2 := @gTp.eq_2
theorem gUl_1 : type_of% @gUl.eq_1 := @gUl.eq_1
theorem gUl_2 : type_of% @gUl.eq_2 := @gUl.eq_2
theorem onL_1 : type_of% @onL.eq_1 := @onL.eq_1
theorem onO_1 : type_of% @onO.eq_1 := @onO.eq_1
theorem onO_2 : type_of% @onO.eq_2 := @onO.eq_2
theorem onM_1 : type_of% @onM.eq_1 := @onM.eq_1
theorem oIadd_1 : type_of% @oIadd.eq_1 := @oIadd.eq_1
theorem oIadd_2 : type_of% @oIadd.eq_2 := @oIadd.eq_2
theorem oInS_1 : type_of% @oInS.eq_1 := @oInS.eq_1
theorem oNotInS_1 : type_of% @oNotInS.eq_1 := @oNotInS.eq_1
theorem onS_1 : type_of% @onS.eq_1 := @onS.eq_1
theorem flD_1 : type_of% @flD.eq_1 := @flD.eq_1
theorem flD_2 : type_of% @flD.eq_2 := @flD.eq_2
theorem flD_3 : type_of% @flD.eq_3 := @flD.eq_3
theorem flD_4 : type_of% @flD.eq_4 := @flD.eq_4
theorem strD_1 : type_of% @strD.eq_1 := @strD.eq_1
theorem wkD_1 : type_of% @wkD.eq_1 := @wkD.eq_1
theorem wkD_2 : type_of% @wkD.eq_2 := @wkD.eq_2
theorem wkD_3 : type_of% @wkD.eq_3 := @wkD.eq_3
theorem wkD_4 : type_of% @wkD.eq_4 := @wkD.eq_4
theorem wkD_5 : type_of% @wkD.eq_5 := @wkD.eq_5
theorem zpD_1 : type_of% @zpD.eq_1 := @zpD.eq_1
theorem zpD_2 : type_of% @zpD.eq_2 := @zpD.eq_2
theorem oStr_1 : type_of% @oStr.eq_1 := @oStr.eq_1
theorem oStr_2 : type_of% @oStr.eq_2 := @oStr.eq_2
theorem oFmt_1 : type_of% @oFmt.eq_1 := @oFmt.eq_1
theorem oFmt_2 : type_of% @oFmt.eq_2 := @oFmt.eq_2
theorem vJs_1 : type_of% @vJs.eq_1 := @vJs.eq_1
theorem vJs_2 : type_of% @vJs.eq_2 := @vJs.eq_2
theorem keyD_1 : type_of% @keyD.eq_1 := @keyD.eq_1
theorem keyD_2 : type_of% @keyD.eq_2 := @keyD.eq_2
theorem asK_1 : type_of% @asK.eq_1 := @asK.eq_1
theorem asK_2 : type_of% @asK.eq_2 := @asK.eq_2
theorem dicO_1 : type_of% @dicO.eq_1 := @dicO.eq_1
theorem oIsB_1 : type_of% @oIsB.eq_1 := @oIsB.eq_1
theorem oIsNotB_1 : type_of% @oIsNotB.eq_1 := @oIsNotB.eq_1
theorem hdV_1 : type_of% @hdV.eq_1 := @hdV.eq_1
theorem hdV_2 : type_of% @hdV.eq_2 := @hdV.eq_2
theorem onB_1 : type_of% @onB.eq_1 := @onB.eq_1
theorem onB_2 : type_of% @onB.eq_2 := @onB.eq_2
theorem onB_3 : type_of% @onB.eq_3 := @onB.eq_3
theorem flDs_1 : type_of% @flDs.eq_1 := @flDs.eq_1
theorem flDs_2 : type_of% @flDs.eq_2 := @flDs.eq_2
theorem onD_1 : type_of% @onD.eq_1 := @onD.eq_1
theorem onDo_1 : type_of% @onDo.eq_1 := @onDo.eq_1
theorem kyD_1 : type_of% @kyD.eq_1 := @kyD.eq_1
theorem oListD_1 : type_of% @oListD.eq_1 := @oListD.eq_1
theorem oListS_1 : type_of% @oListS.eq_1 := @oListS.eq_1
theorem enmD_1 : type_of% @enmD.eq_1 := @enmD.eq_1
theorem onI_1 : type_of% @onI.eq_1 := @onI.eq_1
theorem onIo_1 : type_of% @onIo.eq_1 := @onIo.eq_1
theorem oAddI_1 : type_of% @oAddI.eq_1 := @oAddI.eq_1
theorem oSortD_1 : type_of% @oSortD.eq_1 := @oSortD.eq_1
theorem oSortA_1 : type_of% @oSortA.eq_1 := @oSortA.eq_1
theorem oSortN_1 : type_of% @oSortN.eq_1 := @oSortN.eq_1
theorem oMaxL_1 : type_of% @oMaxL.eq_1 := @oMaxL.eq_1
theorem flatD_1 : type_of% @flatD.eq_1 := @flatD.eq_1
theorem flatD_2 : type_of% @flatD.eq_2 := @flatD.eq_2
theorem flatD_3 : type_of% @flatD.eq_3 := @flatD.eq_3
theorem flatD_4 : type_of% @flatD.eq_4 := @flatD.eq_4
theorem flatD_5 : type_of% @flatD.eq_5 := @flatD.eq_5
theorem strKs_1 : type_of% @strKs.eq_1 := @strKs.eq_1
theorem strKs_2 : type_of% @strKs.eq_2 := @strKs.eq_2
theorem rdD_1 : type_of% @rdD.eq_1 := @rdD.eq_1
theorem rdD_2 : type_of% @rdD.eq_2 := @rdD.eq_2
theorem rdD_3 : type_of% @rdD.eq_3 := @rdD.eq_3
theorem rdD_4 : type_of% @rdD.eq_4 := @rdD.eq_4
theorem rdD_5 : type_of% @rdD.eq_5 := @rdD.eq_5
theorem notR_1 : type_of% @notR.eq_1 := @notR.eq_1
theorem notR_2 : type_of% @notR.eq_2 := @notR.eq_2
theorem stD_1 : type_of% @stD.eq_1 := @stD.eq_1
theorem stD_2 : type_of% @stD.eq_2 := @stD.eq_2
end Ts
namespace Ts
open PySem PySem.Spec PyProof.Rows L2
def xfields : List Str := ["tag", "given", "at", "name", "label", "many", "most", "first"]
def mt_0 : List (Str × Bool) := [("InvalidRatio", true), ("InvalidRow", true), ("InvalidName", true), ("InvalidTie", true), ("NotTied", true), ("NamesDiffer", true), ("EmptyFigure", true), ("Impossible", true), ("ParseError", true), ("UnknownName", true), ("NothingLeft", false)]
def mt_1 : List (Str × Bool) := [("InvalidRatio", false), ("InvalidRow", false), ("InvalidName", false), ("InvalidTie", false), ("NotTied", false), ("NamesDiffer", false), ("EmptyFigure", false), ("Impossible", false), ("ParseError", false), ("UnknownName", false), ("NothingLeft", true)]
/-! ### the text by places -/
def top (i : Nat) : Stmt := PySem.Challenge.pw_tiespan_k34_steps_return_what_they_are_m.main.body.getD i (.Pass ⟨0, 0, 0, 0⟩)
def meth (i j : Nat) : Stmt := (C8.clsBody (top i)).getD j (.Pass ⟨0, 0, 0, 0⟩)
def fileN : Str := PySem.Challenge.pw_tiespan_k34_steps_return_what_they_are_m.main.file
abbrev sT_divisor : Stmt := top 19
abbrev N_divisor : List Str := ["one", "other"]
theorem sc_divisor : FnScope N_divisor ["one", "other"] (defScope sT_divisor) := ⟨rfl, rfl, rfl, by decide +kernel, rfl, by decide +kernel, by decide +kernel⟩
abbrev sT_lowest : Stmt := top 20
abbrev N_lowest : List Str := ["top", "under", "part"]
theorem sc_lowest : FnScope N_lowest ["top", "under"] (defScope sT_lowest) := ⟨rfl, rfl, rfl, by decide +kernel, rfl, by decide +kernel, by decide +kernel⟩
abbrev sT_is_whole : Stmt := top 21
abbrev N_is_whole : List Str := ["thing"]
theorem sc_is_whole : FnScope N_is_whole ["thing"] (defScope sT_is_whole) := ⟨rfl, rfl, rfl, by decide +kernel, rfl, by decide +kernel, by decide +kernel⟩
abbrev sT_is_ratio : Stmt := top 22
abbrev N_is_ratio : List Str := ["thing"]
theorem sc_is_ratio : FnScope N_is_ratio ["thing"] (defScope sT_is_ratio) := ⟨rfl, rfl, rfl, by decide +kernel, rfl, by decide +kernel, by decide +kernel⟩
abbrev sT_add : Stmt := top 23
abbrev N_add : List Str := ["one", "other"]
theorem sc_add : FnScope N_add ["one", "other"] (defScope sT_add) := ⟨rfl, rfl, rfl, by decide +kernel, rfl, by decide +kernel, by decide +kernel⟩
abbrev sT_negative : Stmt := top 24
abbrev N_negative : List Str := ["one"]
theorem sc_negative : FnScope N_negative ["one"] (defScope sT_negative) := ⟨rfl, rfl, rfl, by decide +kernel, rfl, by decide +kernel, by decide +kernel⟩
abbrev sT_multiply : Stmt := top 26
abbrev N_multiply : List Str := ["one", "other"]
theorem sc_multiply : FnScope N_multiply ["one", "other"] (defScope sT_multiply) := ⟨rfl, rfl, rfl, by decide +kernel, rfl, by decide +kernel, by decide +kernel⟩
abbrev sT_is_less : Stmt := top 28
abbrev N_is_less : List Str := ["one", "other"]
theorem sc_is_less : FnScope N_is_less ["one", "other"] (defScope sT_is_less) := ⟨rfl, rfl, rfl, by decide +kernel, rfl, by decide +kernel, by decide +kernel⟩
abbrev sT_is_name : Stmt := top 58
abbrev N_is_name : List Str := ["text", "letters", "sign"]
theorem sc_is_name : FnScope N_is_name ["text"] (defScope sT_is_name) := ⟨rfl, rfl, rfl, by decide +kernel, rfl, by decide +kernel, by decide +kernel⟩
abbrev sT_is_tie : Stmt := top 59
abbrev N_is_tie : List Str := ["thing"]
theorem sc_is_tie : FnScope N_is_tie ["thing"] (defScope sT_is_tie) := ⟨rfl, rfl, rfl, by decide +kernel, rfl, by decide +kernel, by decide +kernel⟩
abbrev sT_are_terms : Stmt := top 60
abbrev N_are_terms : List Str := ["thing", "term"]
theorem sc_are_terms : FnScope N_are_terms ["thing"] (defScope sT_are_terms) := ⟨rfl, rfl, rfl, by decide +kernel, rfl, by decide +kernel, by decide +kernel⟩
abbrev sT_names_in : Stmt := top 61
abbrev N_names_in : List Str := ["tie", "name", "rate"]
theorem sc_names_in : FnScope N_names_in ["tie"] (defScope sT_names_in) := ⟨rfl, rfl, rfl, by decide +kernel, rfl, by decide +kernel, by decide +kernel⟩
abbrev sT_sum_at : Stmt := top 64
abbrev N_sum_at : List Str := ["terms", "values", "found", "name", "rate"]
theorem sc_sum_at : FnScope N_sum_at ["terms", "values"] (defScope sT_sum_at) := ⟨rfl, rfl, rfl, by decide +kernel, rfl, by decide +kernel, by decide +kernel⟩
abbrev sT_is_kept : Stmt := top 65
abbrev N_is_kept : List Str := ["tie", "values"]
theorem sc_is_kept : FnScope N_is_kept ["tie", "values"] (defScope sT_is_kept) := ⟨rfl, rfl, rfl, by decide +kernel, rfl, by decide +kernel, by decide +kernel⟩
abbrev sT_Lot___init__ : Stmt := meth 97 0
abbrev N_Lot___init__ : List Str := ["self", "names", "ties", "words", "name", "at", "tie"]
theorem sc_Lot___init__ : FnScope N_Lot___init__ ["self", "names", "ties"] (defScope sT_Lot___init__) := ⟨rfl, rfl, rfl, by decide +kernel, rfl, by decide +kernel, by decide +kernel⟩
abbrev sT_Lot_names : Stmt := meth 97 9
abbrev N_Lot_names : List Str := ["self"]
theorem sc_Lot_names : FnScope N_Lot_names ["self"] (defScope sT_Lot_names) := ⟨rfl, rfl, rfl, by decide +kernel, rfl, by decide +kernel, by decide +kernel⟩
abbrev sT_Lot_ties : Stmt := meth 97 10
abbrev N_Lot_ties : List Str := ["self"]
theorem sc_Lot_ties : FnScope N_Lot_ties ["self"] (defScope sT_Lot_ties) := ⟨rfl, rfl, rfl, by decide +kernel, rfl, by decide +kernel, by decide +kernel⟩
abbrev sT_equal_ties : Stmt := top 103
abbrev N_equal_ties : List Str := ["one", "other", "terms", "name", "rate"]
theorem sc_equal_ties : FnScope N_equal_ties ["one", "other"] (defScope sT_equal_ties) := ⟨rfl, rfl, rfl, by decide +kernel, rfl, by decide +kernel, by decide +kernel⟩
abbrev sT_Step___init__ : Stmt := meth 104 1
abbrev N_Step___init__ : List Str := ["self", "names", "ties", "words", "name", "known", "at", "tie"]
theorem sc_Step___init__ : FnScope N_Step___init__ ["self", "names", "ties"] (defScope sT_Step___init__) := ⟨rfl, rfl, rfl, by decide +kernel, rfl, by decide +kernel, by decide +kernel⟩
abbrev sT_Step_stay : Stmt := meth 104 2
abbrev N_Step_stay : List Str := ["names", "ties", "name"]
theorem sc_Step_stay : FnScope N_Step_stay ["names"] (defScope sT_Step_stay) := ⟨rfl, rfl, rfl, by decide +kernel, rfl, by decide +kernel, by decide +kernel⟩
abbrev sT_Step___eq__ : Stmt := meth 104 3
abbrev N_Step___eq__ : List Str := ["self", "other"]
theorem sc_Step___eq__ : FnScope N_Step___eq__ ["self", "other"] (defScope sT_Step___eq__) := ⟨rfl, rfl, rfl, by decide +kernel, rfl, by decide +kernel, by decide +kernel⟩
abbrev sT_Step___len__ : Stmt := meth 104 4
abbrev N_Step___len__ : List Str := ["self"]
theorem sc_Step___len__ : FnScope N_Step___len__ ["self"] (defScope sT_Step___len__) := ⟨rfl, rfl, rfl, by decide +kernel, rfl, by decide +kernel, by decide +kernel⟩
abbrev sT_Step___repr__ : Stmt := meth 104 5
abbrev N_Step___repr__ : List Str := ["self"]
theorem sc_Step___repr__ : FnScope N_Step___repr__ ["self"] (defScope sT_Step___repr__) := ⟨rfl, rfl, rfl, by decide +kernel, rfl, by decide +kernel, by decide +kernel⟩
abbrev sT_Step_all_names : Stmt := meth 104 7
abbrev N_Step_all_names : List Str := ["self", "name"]
theorem sc_Step_all_names : FnScope N_Step_all_names ["self"] (defScope sT_Step_all_names) := ⟨rfl, rfl, rfl, by decide +kernel, rfl, by decide +kernel, by decide +kernel⟩
abbrev sT_Step_names : Stmt := meth 104 8
abbrev N_Step_names : List Str := ["self"]
theorem sc_Step_names : FnScope N_Step_names ["self"] (defScope sT_Step_names) := ⟨rfl, rfl, rfl, by decide +kernel, rfl, by decide +kernel, by decide +kernel⟩
abbrev sT_Step_ties : Stmt := meth 104 9
abbrev N_Step_ties : List Str := ["self"]
theorem sc_Step_ties : FnScope N_Step_ties ["self"] (defScope sT_Step_ties) := ⟨rfl, rfl, rfl, by decide +kernel, rfl, by decide +kernel, by decide +kernel⟩
abbrev sT_Step_lot : Stmt := meth 104 10
abbrev N_Step_lot : List Str := ["self"]
theorem sc_Step_lot : FnScope N_Step_lot ["self"] (defScope sT_Step_lot) := ⟨rfl, rfl, rfl, by decide +kernel, rfl, by decide +kernel, by decide +kernel⟩
abbrev sT_Step_allows : Stmt := meth 104 12
abbrev N_Step_allows : List Str := ["self", "before", "after", "values", "name", "tie"]
theorem sc_Step_allows : FnScope N_Step_allows ["self", "before", "after"] (defScope sT_Step_allows) := ⟨rfl, rfl, rfl, by decide +kernel, rfl, by decide +kernel, by decide +kernel⟩
abbrev sT__law_feed : Stmt := top 106
abbrev N__law_feed : List Str := ["_law_script", "_law_cells", "_law_mark", "_law_cell"]
theorem sc__law_feed : FnScope N__law_feed ["_law_script"] (defScope sT__law_feed) := ⟨rfl, rfl, rfl, by decide +kernel, rfl, by decide +kernel, by decide +kernel⟩
abbrev sT__law_draw : Stmt := top 107
abbrev N__law_draw : List Str := ["_law_feed_here", "_law_many", "_law_cell", "_law_one", "_law_two", "_law_drawn"]
theorem sc__law_draw : FnScope N__law_draw ["_law_feed_here", "_law_many"] (defScope sT__law_draw) := ⟨rfl, rfl, rfl, by decide +kernel, rfl, by decide +kernel, by decide +kernel⟩
abbrev sT__law_any : Stmt := top 108
abbrev N__law_any : List Str := ["_law_feed_here", "_law_row"]
theorem sc__law_any : FnScope N__law_any ["_law_feed_here", "_law_row"] (defScope sT__law_any) := ⟨rfl, rfl, rfl, by decide +kernel, rfl, by decide +kernel, by decide +kernel⟩
abbrev sT__law_same : Stmt := top 109
abbrev N__law_same : List Str := ["_law_found", "_law_due", "_law_key", "_law_one", "_law_two"]
theorem sc__law_same : FnScope N__law_same ["_law_found", "_law_due"] (defScope sT__law_same) := ⟨rfl, rfl, rfl, by decide +kernel, rfl, by decide +kernel, by decide +kernel⟩
abbrev sT__law_field : Stmt := top 110
abbrev N__law_field : List Str := ["_law_e"]
theorem sc__law_field : FnScope N__law_field ["_law_e"] (defScope sT__law_field) := ⟨rfl, rfl, rfl, by decide +kernel, rfl, by decide +kernel, by decide +kernel⟩
abbrev sT__law_why : Stmt := top 111
abbrev N__law_why : List Str := ["_law_ask", "_law_told", "_law_e"]
theorem sc__law_why : FnScope N__law_why ["_law_ask"] (defScope sT__law_why) := ⟨rfl, rfl, rfl, by decide +kernel, rfl, by decide +kernel, by decide +kernel⟩
abbrev sT__law_errors : Stmt := top 112
abbrev N__law_errors : List Str := ["_law_asks", "_law_ask"]
theorem sc__law_errors : FnScope N__law_errors ["_law_asks"] (defScope sT__law_errors) := ⟨rfl, rfl, rfl, by decide +kernel, rfl, by decide +kernel, by decide +kernel⟩
abbrev sT__law_gcd : Stmt := top 113
abbrev N__law_gcd : List Str := ["_law_one", "_law_two"]
theorem sc__law_gcd : FnScope N__law_gcd ["_law_one", "_law_two"] (defScope sT__law_gcd) := ⟨rfl, rfl, rfl, by decide +kernel, rfl, by decide +kernel, by decide +kernel⟩
abbrev sT__law_low : Stmt := top 114
abbrev N__law_low : List Str := ["_law_upper", "_law_lower", "_law_part"]
theorem sc__law_low : FnScope N__law_low ["_law_upper", "_law_lower"] (defScope sT__law_low) := ⟨rfl, rfl, rfl, by decide +kernel, rfl, by decide +kernel, by decide +kernel⟩
abbrev sT__law_plus : Stmt := top 115
abbrev N__law_plus : List Str := ["_law_one", "_law_two"]
theorem sc__law_plus : FnScope N__law_plus ["_law_one", "_law_two"] (defScope sT__law_plus) := ⟨rfl, rfl, rfl, by decide +kernel, rfl, by decide +kernel, by decide +kernel⟩
abbrev sT__law_minus : Stmt := top 116
abbrev N__law_minus : List Str := ["_law_one"]
theorem sc__law_minus : FnScope N__law_minus ["_law_one"] (defScope sT__law_minus) := ⟨rfl, rfl, rfl, by decide +kernel, rfl, by decide +kernel, by decide +kernel⟩
abbrev sT__law_by : Stmt := top 117
abbrev N__law_by : List Str := ["_law_one", "_law_two"]
theorem sc__law_by : FnScope N__law_by ["_law_one", "_law_two"] (defScope sT__law_by) := ⟨rfl, rfl, rfl, by decide +kernel, rfl, by decide +kernel, by decide +kernel⟩
abbrev sT__law_under : Stmt := top 118
abbrev N__law_under : List Str := ["_law_one", "_law_two"]
theorem sc__law_under : FnScope N__law_under ["_law_one", "_law_two"] (defScope sT__law_under) := ⟨rfl, rfl, rfl, by decide +kernel, rfl, by decide +kernel, by decide +kernel⟩
abbrev sT__law_rate : Stmt := top 119
abbrev N__law_rate : List Str := ["_law_feed_here"]
theorem sc__law_rate : FnScope N__law_rate ["_law_feed_here"] (defScope sT__law_rate) := ⟨rfl, rfl, rfl, by decide +kernel, rfl, by decide +kernel, by decide +kernel⟩
abbrev sT__law_words : Stmt := top 120
abbrev N__law_words : List Str := ["_law_feed_here", "_law_many", "_law_letters", "_law_stem", "_law_spot", "_law_first", "_law_way", "_law_found", "_law_k"]
theorem sc__law_words : FnScope N__law_words ["_law_feed_here", "_law_many"] (defScope sT__law_words) := ⟨rfl, rfl, rfl, by decide +kernel, rfl, by decide +kernel, by decide +kernel⟩
abbrev sT__law_strange : Stmt := top 121
abbrev N__law_strange : List Str := ["_law_words_here", "_law_word"]
theorem sc__law_strange : FnScope N__law_strange ["_law_words_here"] (defScope sT__law_strange) := ⟨rfl, rfl, rfl, by decide +kernel, rfl, by decide +kernel, by decide +kernel⟩
abbrev sT__law_total : Stmt := top 122
abbrev N__law_total : List Str := ["_law_terms", "_law_values", "_law_found", "_law_name", "_law_rate_here"]
theorem sc__law_total : FnScope N__law_total ["_law_terms", "_law_values"] (defScope sT__law_total) := ⟨rfl, rfl, rfl, by decide +kernel, rfl, by decide +kernel, by decide +kernel⟩
abbrev sT__law_keeps : Stmt := top 123
abbrev N__law_keeps : List Str := ["_law_tie", "_law_values"]
theorem sc__law_keeps : FnScope N__law_keeps ["_law_tie", "_law_values"] (defScope sT__law_keeps) := ⟨rfl, rfl, rfl, by decide +kernel, rfl, by decide +kernel, by decide +kernel⟩
abbrev sT__law_point : Stmt := top 124
abbrev N__law_point : List Str := ["_law_feed_here", "_law_words_here", "_law_name"]
theorem sc__law_point : FnScope N__law_point ["_law_feed_here", "_law_words_here"] (defScope sT__law_point) := ⟨rfl, rfl, rfl, by decide +kernel, rfl, by decide +kernel, by decide +kernel⟩
abbrev sT__law_value_ties : Stmt := top 125
abbrev N__law_value_ties : List Str := ["_law_terms", "_law_value", "_law_name", "_law_rate_here"]
theorem sc__law_value_ties : FnScope N__law_value_ties ["_law_terms", "_law_value"] (defScope sT__law_value_ties) := ⟨rfl, rfl, rfl, by decide +kernel, rfl, by decide +kernel, by decide +kernel⟩
abbrev sT__law_step_ties : Stmt := top 126
abbrev N__law_step_ties : List Str := ["_law_feed_here", "_law_words_here", "_law_many", "_law_found", "_law_k", "_law_one", "_law_two", "_law_way", "_law_rate_here", "_law_bound", "_law_sign", "_law_terms", "_law_name", "_law_part"]
theorem sc__law_step_ties : FnScope N__law_step_ties ["_law_feed_here", "_law_words_here", "_law_many"] (defScope sT__law_step_ties) := ⟨rfl, rfl, rfl, by decide +kernel, rfl, by decide +kernel, by decide +kernel⟩
abbrev sT__law_values_of : Stmt := top 127
abbrev N__law_values_of : List Str := ["_law_before", "_law_after", "_law_found", "_law_name"]
theorem sc__law_values_of : FnScope N__law_values_of ["_law_before", "_law_after"] (defScope sT__law_values_of) := ⟨rfl, rfl, rfl, by decide +kernel, rfl, by decide +kernel, by decide +kernel⟩
abbrev sT__law_stay_ties : Stmt := top 128
abbrev N__law_stay_ties : List Str := ["_law_words_here", "_law_found", "_law_name"]
theorem sc__law_stay_ties : FnScope N__law_stay_ties ["_law_words_here"] (defScope sT__law_stay_ties) := ⟨rfl, rfl, rfl, by decide +kernel, rfl, by decide +kernel, by decide +kernel⟩
abbrev sT_law : Stmt := top 129
abbrev N_law : List Str := ["_law_script", "_law_feed_here", "_law_turn", "_law_words_here", "_law_bonds", "_law_made", "_law_wide", "_law_told", "_law_shown", "_law_again", "_law_before", "_law_after", "_law_due", "_law_stays", "_law_at", "_law_odd", "_law_bad", "_law_spot", "_law_bent", "_law_asks", "_law_name", "_law_tie"]
theorem sc_law : FnScope N_law ["_law_script"] (defScope sT_law) := ⟨rfl, rfl, rfl, by decide +kernel, rfl, by decide +kernel, by decide +kernel⟩
abbrev x_InvalidTie : XDef := ⟨"InvalidTie", "InvalidTie.__init__", defArgs (meth 7 0), defBody (meth 7 0), defScope (meth 7 0), "ValueError", "ValueError.__new__", "ValueError.__init__", [.type "ValueError", .type "Exception", .type "BaseException", .type "object"], ["tag", "at"]⟩
abbrev x_InvalidName : XDef := ⟨"InvalidName", "InvalidName.__init__", defArgs (meth 6 0), defBody (meth 6 0), defScope (meth 6 0), "ValueError", "ValueError.__new__", "ValueError.__init__", [.type "ValueError", .type "Exception", .type "BaseException", .type "object"], ["tag", "name"]⟩
abbrev d_Step_stay : SDf := ⟨"Step", "stay", "Step.stay", defArgs sT_Step_stay, defBody sT_Step_stay, defScope sT_Step_stay⟩
/-! ### the head: facts by names, the run -/
def d_divisor : He.DefD := ⟨("divisor", none), "divisor", "divisor", defArgs sT_divisor, defBody sT_divisor, defScope sT_divisor, [], []⟩
def d_lowest : He.DefD := ⟨("lowest", none), "lowest", "lowest", defArgs sT_lowest, defBody sT_lowest, defScope sT_lowest, [], []⟩
def d_is_whole : He.DefD := ⟨("is_whole", none), "is_whole", "is_whole", defArgs sT_is_whole, defBody sT_is_whole, defScope sT_is_whole, [], []⟩
def d_is_ratio : He.DefD := ⟨("is_ratio", none), "is_ratio", "is_ratio", defArgs sT_is_ratio, defBody sT_is_ratio, defScope sT_is_ratio, [], []⟩
def d_add : He.DefD := ⟨("add", none), "add", "add", defArgs sT_add, defBody sT_add, defScope sT_add, [], []⟩
def d_negative : He.DefD := ⟨("negative", none), "negative", "negative", defArgs sT_negative, defBody sT_negative, defScope sT_negative, [], []⟩
def d_multiply : He.DefD := ⟨("multiply", none), "multiply", "multiply", defArgs sT_multiply, defBody sT_multiply, defScope sT_multiply, [], []⟩
def d_is_less : He.DefD := ⟨("is_less", none), "is_less", "is_less", defArgs sT_is_less, defBody sT_is_less, defScope sT_is_less, [], []⟩
def d_is_name : He.DefD := ⟨("is_name", none), "is_name", "is_name", defArgs sT_is_name, defBody sT_is_name, defScope sT_is_name, [], []⟩
def d_is_tie : He.DefD := ⟨("is_tie", none), "is_tie", "is_tie", defArgs sT_is_tie, defBody sT_is_tie, defScope sT_is_tie, [], []⟩
def d_are_terms : He.DefD := ⟨("are_terms", none), "are_terms", "are_terms", defArgs sT_are_terms, defBody sT_are_terms, defScope sT_are_terms, [], []⟩
def d_names_in : He.DefD := ⟨("names_in", none), "names_in", "names_in", defArgs sT_names_in, defBody sT_names_in, defScope sT_names_in, [], []⟩
def d_sum_at : He.DefD := ⟨("sum_at", none), "sum_at", "sum_at", defArgs sT_sum_at, defBody sT_sum_at, defScope sT_sum_at, [], []⟩
def d_is_kept : He.DefD := ⟨("is_kept", none), "is_kept", "is_kept", defArgs sT_is_kept, defBody sT_is_kept, defScope sT_is_kept, [], []⟩
def d_Lot___init__ : He.DefD := ⟨("Lot", some "__init__"), "__init__", "Lot.__init__", defArgs sT_Lot___init__, defBody sT_Lot___init__, defScope sT_Lot___init__, [.adr (He.dflAt ("Lot", some "__init__") 0)], []⟩
def d_Lot_names : He.DefD := ⟨("Lot", some "names"), "names", "Lot.names", defArgs sT_Lot_names, defBody sT_Lot_names, defScope sT_Lot_names, [], []⟩
def d_Lot_ties : He.DefD := ⟨("Lot", some "ties"), "ties", "Lot.ties", defArgs sT_Lot_ties, defBody sT_Lot_ties, defScope sT_Lot_ties, [], []⟩
def d_equal_ties : He.DefD := ⟨("equal_ties", none), "equal_ties", "equal_ties", defArgs sT_equal_ties, defBody sT_equal_ties, defScope sT_equal_ties, [], []⟩
def d_Step___init__ : He.DefD := ⟨("Step", some "__init__"), "__init__", "Step.__init__", defArgs sT_Step___init__, defBody sT_Step___init__, defScope sT_Step___init__, [.adr (He.dflAt ("Step", some "__init__") 0)], []⟩
def d_Step___eq__ : He.DefD := ⟨("Step", some "__eq__"), "__eq__", "Step.__eq__", defArgs sT_Step___eq__, defBody sT_Step___eq__, defScope sT_Step___eq__, [], []⟩
def d_Step___len__ : He.DefD := ⟨("Step", some "__len__"), "__len__", "Step.__len__", defArgs sT_Step___len__, defBody sT_Step___len__, defScope sT_Step___len__, [], []⟩
def d_Step___repr__ : He.DefD := ⟨("Step", some "__repr__"), "__repr__", "Step.__repr__", defArgs sT_Step___repr__, defBody sT_Step___repr__, defScope sT_Step___repr__, [], []⟩
def d_Step_all_names : He.DefD := ⟨("Step", some "all_names"), "all_names", "Step.all_names", defArgs sT_Step_all_names, defBody sT_Step_all_names, defScope sT_Step_all_names, [], []⟩
def d_Step_names : He.DefD := ⟨("Step", some "names"), "names", "Step.names", defArgs sT_Step_names, defBody sT_Step_names, defScope sT_Step_names, [], []⟩
def d_Step_ties : He.DefD := ⟨("Step", some "ties"), "ties", "Step.ties", defArgs sT_Step_ties, defBody sT_Step_ties, defScope sT_Step_ties, [], []⟩
def d_Step_lot : He.DefD := ⟨("Step", some "lot"), "lot", "Step.lot", defArgs sT_Step_lot, defBody sT_Step_lot, defScope sT_Step_lot, [], []⟩
def d_Step_allows : He.DefD := ⟨("Step", some "allows"), "allows", "Step.allows", defArgs sT_Step_allows, defBody sT_Step_allows, defScope sT_Step_allows, [], []⟩
def d__law_feed : He.DefD := ⟨("_law_feed", none), "_law_feed", "_law_feed", defArgs sT__law_feed, defBody sT__law_feed, defScope sT__law_feed, [], []⟩
def d__law_draw : He.DefD := ⟨("_law_draw", none), "_law_draw", "_law_draw", defArgs sT__law_draw, defBody sT__law_draw, defScope sT__law_draw, [], []⟩
def d__law_any : He.DefD := ⟨("_law_any", none), "_law_any", "_law_any", defArgs sT__law_any, defBody sT__law_any, defScope sT__law_any, [], []⟩
def d__law_same : He.DefD := ⟨("_law_same", none), "_law_same", "_law_same", defArgs sT__law_same, defBody sT__law_same, defScope sT__law_same, [], []⟩
def d__law_field : He.DefD := ⟨("_law_field", none), "_law_field", "_law_field", defArgs sT__law_field, defBody sT__law_field, defScope sT__law_field, [], []⟩
def d__law_why : He.DefD := ⟨("_law_why", none), "_law_why", "_law_why", defArgs sT__law_why, defBody sT__law_why, defScope sT__law_why, [], []⟩
def d__law_errors : He.DefD := ⟨("_law_errors", none), "_law_errors", "_law_errors", defArgs sT__law_errors, defBody sT__law_errors, defScope sT__law_errors, [], []⟩
def d__law_gcd : He.DefD := ⟨("_law_gcd", none), "_law_gcd", "_law_gcd", defArgs sT__law_gcd, defBody sT__law_gcd, defScope sT__law_gcd, [], []⟩
def d__law_low : He.DefD := ⟨("_law_low", none), "_law_low", "_law_low", defArgs sT__law_low, defBody sT__law_low, defScope sT__law_low, [], []⟩
def d__law_plus : He.DefD := ⟨("_law_plus", none), "_law_plus", "_law_plus", defArgs sT__law_plus, defBody sT__law_plus, defScope sT__law_plus, [], []⟩
def d__law_minus : He.DefD := ⟨("_law_minus", none), "_law_minus", "_law_minus", defArgs sT__law_minus, defBody sT__law_minus, defScope sT__law_minus, [], []⟩
def d__law_by : He.DefD := ⟨("_law_by", none), "_law_by", "_law_by", defArgs sT__law_by, defBody sT__law_by, defScope sT__law_by, [], []⟩
def d__law_under : He.DefD := ⟨("_law_under", none), "_law_under", "_law_under", defArgs sT__law_under, defBody sT__law_under, defScope sT__law_under, [], []⟩
def d__law_rate : He.DefD := ⟨("_law_rate", none), "_law_rate", "_law_rate", defArgs sT__law_rate, defBody sT__law_rate, defScope sT__law_rate, [], []⟩
def d__law_words : He.DefD := ⟨("_law_words", none), "_law_words", "_law_words", defArgs sT__law_words, defBody sT__law_words, defScope sT__law_words, [], []⟩
def d__law_strange : He.DefD := ⟨("_law_strange", none), "_law_strange", "_law_strange", defArgs sT__law_strange, defBody sT__law_strange, defScope sT__law_strange, [], []⟩
def d__law_total : He.DefD := ⟨("_law_total", none), "_law_total", "_law_total", defArgs sT__law_total, defBody sT__law_total, defScope sT__law_total, [], []⟩
def d__law_keeps : He.DefD := ⟨("_law_keeps", none), "_law_keeps", "_law_keeps", defArgs sT__law_keeps, defBody sT__law_keeps, defScope sT__law_keeps, [], []⟩
def d__law_point : He.DefD := ⟨("_law_point", none), "_law_point", "_law_point", defArgs sT__law_point, defBody sT__law_point, defScope sT__law_point, [], []⟩
def d__law_value_ties : He.DefD := ⟨("_law_value_ties", none), "_law_value_ties", "_law_value_ties", defArgs sT__law_value_ties, defBody sT__law_value_ties, defScope sT__law_value_ties, [], []⟩
def d__law_step_ties : He.DefD := ⟨("_law_step_ties", none), "_law_step_ties", "_law_step_ties", defArgs sT__law_step_ties, defBody sT__law_step_ties, defScope sT__law_step_ties, [], []⟩
def d__law_values_of : He.DefD := ⟨("_law_values_of", none), "_law_values_of", "_law_values_of", defArgs sT__law_values_of, defBody sT__law_values_of, defScope sT__law_values_of, [], []⟩
def d__law_stay_ties : He.DefD := ⟨("_law_stay_ties", none), "_law_stay_ties", "_law_stay_ties", defArgs sT__law_stay_ties, defBody sT__law_stay_ties, defScope sT__law_stay_ties, [], []⟩
def d_law : He.DefD := ⟨("law", none), "law", "law", defArgs sT_law, defBody sT_law, defScope sT_law, [], []⟩
def fns : List He.DefD := [d_divisor, d_lowest, d_is_whole, d_is_ratio, d_add, d_negative, d_multiply, d_is_less, d_is_name, d_is_tie, d_are_terms, d_names_in, d_sum_at, d_is_kept, d_Lot___init__, d_Lot_names, d_Lot_ties, d_equal_ties, d_Step___init__, d_Step___eq__, d_Step___len__, d_Step___repr__, d_Step_all_names, d_Step_names, d_Step_ties, d_Step_lot, d_Step_allows, d__law_feed, d__law_draw, d__law_any, d__law_same, d__law_field, d__law_why, d__law_errors, d__law_gcd, d__law_low, d__law_plus, d__law_minus, d__law_by, d__law_under, d__law_rate, d__law_words, d__law_strange, d__law_total, d__law_keeps, d__law_point, d__law_value_ties, d__law_step_ties, d__law_values_of, d__law_stay_ties, d_law]
def fas : List He.Fa := [.glo "divisor", .glo "lowest", .glo "is_whole", .glo "is_ratio", .glo "add", .glo "negative", .glo "multiply", .glo "is_less", .glo "is_name", .glo "is_tie", .glo "are_terms", .glo "names_in", .glo "sum_at", .glo "is_kept", .glo "Lot", .glo "Lot", .glo "Lot", .glo "equal_ties", .glo "Step", .glo "Step", .glo "Step", .glo "Step", .glo "Step", .glo "Step", .glo "Step", .glo "Step", .glo "Step", .glo "_law_feed", .glo "_law_draw", .glo "_law_any", .glo "_law_same", .glo "_law_field", .glo "_law_why", .glo "_law_errors", .glo "_law_gcd", .glo "_law_low", .glo "_law_plus", .glo "_law_minus", .glo "_law_by", .glo "_law_under", .glo "_law_rate", .glo "_law_words", .glo "_law_strange", .glo "_law_total", .glo "_law_keeps", .glo "_law_point", .glo "_law_value_ties", .glo "_law_step_ties", .glo "_law_values_of", .glo "_law_stay_ties", .glo "law", .free "abs", .free "all", .free "bool", .free "dict", .free "enumerate", .free "int", .free "isinstance", .free "len", .free "list", .free "range", .free "repr", .free "set", .free "sorted", .free "str", .free "tuple", .free "zip", .int "MAX_LETTERS" 6, .str "NEW" "'", .str "SMALL" "abcdefghijklmnopqrstuvwxyz", .glo "Lot", .cls "Lot", .noat "Lot" "words", .noat "Lot" "held", .glo "Step", .cls "Step", .noat "Step" "words", .noat "Step" "held", .mkr "Lot", .meth "Lot" "names", .meth "Lot" "ties", .mkr "Step", .meth "Step" "__eq__", .meth "Step" "__len__", .meth "Step" "__repr__", .meth "Step" "all_names", .meth "Step" "names", .meth "Step" "ties", .meth "Step" "lot", .meth "Step" "allows"]
abbrev ORowW : PySem.W.OpenRow := PySem.W.OpenLaw.row PySem.Challenge.rw_tiespan_k34_steps_return_what_they_are_m
def tbs : List Tb := [tupT "ONE" [1, 1], tupT "ZERO" [0, 1], mtT ["TieError", "Missing"] mt_0 xfields, mtT ["NothingLeft"] mt_1 xfields, isiT "Step", cvT "Step" "MOST" 3, neT "Step", emT ("Step", some "__init__") 0]
def xds : List XDef := [x_InvalidTie, x_InvalidName]
def sds : List SDf := [d_Step_stay]
def needL : List Str := [("divisor" : Str), ("lowest" : Str), ("is_whole" : Str), ("is_ratio" : Str), ("add" : Str), ("negative" : Str), ("multiply" : Str), ("is_less" : Str), ("is_name" : Str), ("is_tie" : Str), ("are_terms" : Str), ("names_in" : Str), ("sum_at" : Str), ("is_kept" : Str), ("Lot" : Str), ("equal_ties" : Str), ("Step" : Str), ("_law_feed" : Str), ("_law_draw" : Str), ("_law_any" : Str), ("_law_same" : Str), ("_law_field" : Str), ("_law_why" : Str), ("_law_errors" : Str), ("_law_gcd" : Str), ("_law_low" : Str), ("_law_plus" : Str), ("_law_minus" : Str), ("_law_by" : Str), ("_law_under" : Str), ("_law_rate" : Str), ("_law_words" : Str), ("_law_strange" : Str), ("_law_total" : Str), ("_law_keeps" : Str), ("_law_point" : Str), ("_law_value_ties" : Str), ("_law_step_ties" : Str), ("_law_values_of" : Str), ("_law_stay_ties" : Str), ("law" : Str), ("MAX_LETTERS" : Str), ("NEW" : Str), ("SMALL" : Str), ("ONE" : Str), ("ZERO" : Str), ("InvalidTie" : Str), ("InvalidName" : Str), ("InvalidRatio" : Str), ("InvalidRow" : Str), ("NotTied" : Str), ("NamesDiffer" : Str), ("EmptyFigure" : Str), ("Impossible" : Str), ("ParseError" : Str), ("UnknownName" : Str), ("NothingLeft" : Str), ("TieError" : Str), ("Missing" : Str)]
abbrev hkk : PySem.W.Hook := hookZ needL 4 fas fns tbs xds sds fileN
def obb (s : PySem.W.SharedT) : AlY := obsZG needL 4 fas fns tbs xds sds fileN (HandSHeadRun.getT s)
theorem ob_eq (s : PySem.W.SharedT) : obb s = hkk.obs s.abs := obsZG_eq (HandSHeadRun.getT_eq s)
def looseN : List Str := [("_wall" : Str), ("divisor" : Str), ("lowest" : Str), ("is_whole" : Str), ("is_ratio" : Str), ("add" : Str), ("negative" : Str), ("subtract" : Str), ("multiply" : Str), ("divide" : Str), ("is_less" : Str), ("least" : Str), ("greatest" : Str), ("ratio_text" : Str), ("whole_in" : Str), ("unsigned_in" : Str), ("is_row" : Str), ("normal" : Str), ("bound_of" : Str), ("is_at_most" : Str), ("is_ahead" : Str), ("by_direction" : Str), ("kept_rows" : Str), ("line_rows" : Str), ("point_rows" : Str), ("canonical" : Str), ("is_before" : Str), ("sum_of" : Str), ("keeps" : Str), ("corners_of" : Str), ("by_place" : Str), ("directions_of" : Str), ("hull_rows" : Str), ("is_name" : Str), ("is_tie" : Str), ("are_terms" : Str), ("names_in" : Str), ("scale_of" : Str), ("reduced" : Str), ("sum_at" : Str), ("is_kept" : Str), ("turned" : Str), ("sum_text" : Str), ("tie_text" : Str), ("read_ties" : Str), ("row_of" : Str), ("rate_in" : Str), ("rows_of" : Str), ("combined" : Str), ("best_pair" : Str), ("within" : Str), ("pruned" : Str), ("without" : Str), ("left_rows" : Str), ("is_contradiction" : Str), ("nearest" : Str), ("common" : Str), ("name_ties" : Str), ("pair_ties" : Str), ("end_ties" : Str), ("no_ties" : Str), ("stretch_of" : Str), ("figure_of" : Str), ("is_possible" : Str), ("closed_ties" : Str), ("round_ties" : Str), ("follows" : Str), ("all_follow" : Str), ("renamed" : Str), ("all_renamed" : Str), ("equal_ties" : Str), ("_law_feed" : Str), ("_law_draw" : Str), ("_law_any" : Str), ("_law_same" : Str), ("_law_field" : Str), ("_law_why" : Str), ("_law_errors" : Str), ("_law_gcd" : Str), ("_law_low" : Str), ("_law_plus" : Str), ("_law_minus" : Str), ("_law_by" : Str), ("_law_under" : Str), ("_law_rate" : Str), ("_law_words" : Str), ("_law_strange" : Str), ("_law_total" : Str), ("_law_keeps" : Str), ("_law_point" : Str), ("_law_value_ties" : Str), ("_law_step_ties" : Str), ("_law_values_of" : Str), ("_law_stay_ties" : Str), ("DIGITS" : Str), ("ZERO" : Str), ("ONE" : Str), ("greatest_ratios" : Str), ("SMALL" : Str), ("MAX_LETTERS" : Str), ("MAX_DIGITS" : Str), ("MARK" : Str), ("NEW" : Str), ("MIDDLE" : Str), ("TieError" : Str), ("Missing" : Str), ("InvalidRatio" : Str), ("InvalidRow" : Str), ("InvalidName" : Str), ("InvalidTie" : Str), ("NotTied" : Str), ("NamesDiffer" : Str), ("EmptyFigure" : Str), ("Impossible" : Str), ("ParseError" : Str), ("UnknownName" : Str), ("NothingLeft" : Str), ("Figure" : Str), ("SumReader" : Str), ("Lot" : Str), ("Step" : Str)]
section
open PySem.W HandSHeadRun
theorem run1 (w : World) (os : OsState) : (HandSHeadRun.endF (HandSHeadRun.stepQ (HandSHeadRun.denQ HandSHeadRun.tabQ) ORowW.prog w) 14000 ORowW.prog w os).map (fun s => looksF ORowW.prog (boot_heap w.params) s.abs) = some true := by kernel_rfl
theorem run2 (w : World) (os : OsState) : (HandSHeadRun.endF (HandSHeadRun.stepQ (HandSHeadRun.denQ HandSHeadRun.tabQ) ORowW.prog w) 14000 ORowW.prog w os).map (fun s => seenQ (PySem.W.view ORowW.prog [129]) looseN (importedModules ORowW.prog.main.body) (fun s => xlAt (PySem.W.view ORowW.prog [129]) [] s && recOk ORowW.toRowW.records s) s.abs) = some (openGood (PySem.W.view ORowW.prog [129]) looseN) := by kernel_rfl
theorem run3 (w : World) (os : OsState) : (HandSHeadRun.endF (HandSHeadRun.stepQ (HandSHeadRun.denQ HandSHeadRun.tabQ) ORowW.prog w) 14000 ORowW.prog w os).map (fun s => (obb s).1.1.1) = some true := by kernel_rfl
theorem run4 (w : World) (os : OsState) : (HandSHeadRun.endF (HandSHeadRun.stepQ (HandSHeadRun.denQ HandSHeadRun.tabQ) ORowW.prog w) 14000 ORowW.prog w os).map (fun s => (obb s).1.1.2) = some (fns.map He.DefD.val) := by kernel_rfl
theorem run5 (w : World) (os : OsState) : (HandSHeadRun.endF (HandSHeadRun.stepQ (HandSHeadRun.denQ HandSHeadRun.tabQ) ORowW.prog w) 14000 ORowW.prog w os).map (fun s => (obb s).1.2) = some (true, xds.map XDef.val) := by kernel_rfl
theorem run6 (w : World) (os : OsState) : (HandSHeadRun.endF (HandSHeadRun.stepQ (HandSHeadRun.denQ HandSHeadRun.tabQ) ORowW.prog w) 14000 ORowW.prog w os).map (fun s => (obb s).2) = some (true, sds.map SDf.val) := by kernel_rfl
end
theorem runEqW (w : World) : HandSHeadRun.RunEq ORowW (PySem.W.view ORowW.prog [129]) hkk obb 14000 looseN w := fun os =>
  mapT (run1 w os) (run2 w os) (mapE (mapE (mapE (run3 w os) (run4 w os)) (run5 w os)) (run6 w os))
local macro_rules | `(tactic| walk_at "vc") => `(tactic| ((try dsimp only [vNext, vBreak, vCont, vSeq, vRet, vRetN, vDrop, vIfS, vNever, vAsg, vSet, vPar, vPar3, vAug, vFrz, vFz, vSetIx, vDelIx, gN, vC, vVar, vOp, vUn, vNil, vCons, vTup, vLst, vLstO, vCB, tV, vAnd, vOr, vNot, vYes, vAndV, vOrV, vNotV, vIf, vChain, vNoP, vP, vSl, vCall, vCallX, vBM, vBM0, vIsi, vIsi2, vWalk, vFor, vLc, vLcO, vRng1, vRng2, vEnum, vZip, oEq, oNe, oAppend, oClear, oExtend, oInsert, oPop, isTy, vJoin, vLs, oJoin, oSortS, oSortI, oInL, oNotInL, vFmt, vJoined, vDGet, oDGet, oNeK, oEqK, eqDK, vLam, vAsk, vTry, vXf, vRaise1, vRaise0, vCallKX, vDNewO, vDGet2, vDPut, vKeys, vRev, oRev, vDc, vPartn, oPartn, vForM, vEnumM, vFld, vSetF, vMeth, vMethX, vMake, vMakeX, vMakeK, vTupK, vMn, vMc, vMatch, vAugF, vParF, vSpread, vIsiC, oEqI, oNeI, vCallL, vWalkI, vStar, oDictO, oClearD, vDisp2, vFzN, vBM0D, vMtN, vMt, vMatchT]); try simp only [vNext, vBreak, vCont, vSeq, vRet, vRetN, vDrop, vIfS, vNever, vAsg, vSet, vPar, vPar3, vAug, vFrz, vFz, vSetIx, vDelIx, gN, vC, vVar, vOp, vUn, vNil, vCons, vTup, vLst, vLstO, vCB, tV, vAnd, vOr, vNot, vYes, vAndV, vOrV, vNotV, vIf, vChain, vNoP, vP, vSl, vCall, vCallX, vBM, vBM0, vIsi, vIsi2, vWalk, vFor, vLc, vLcO, vRng1, vRng2, vEnum, vZip, oEq, oNe, oAppend, oClear, oExtend, oInsert, oPop, isTy, vJoin, vLs, oJoin, oSortS, oSortI, oInL, oNotInL, vFmt, vJoined, vDGet, oDGet, oNeK, oEqK, eqDK, vLam, vAsk, vTry, vXf, vRaise1, vRaise0, vCallKX, vDNewO, vDGet2, vDPut, vKeys, vRev, oRev, vDc, vPartn, oPartn, vForM, vEnumM, vFld, vSetF, vMeth, vMethX, vMake, vMakeX, vMakeK, vTupK, vMn, vMc, vMatch, vAugF, vParF, vSpread, vIsiC, oEqI, oNeI, vCallL, vWalkI, vStar, oDictO, oClearD, vDisp2, vFzN, vBM0D, vMtN, vMt, vMatchT, tpD_1, tpD_2, hdS_1, oLenI_1, oReprI_1, blD_1, inD_1, txD_1, swapX_1, oAdd_1, oAdd_2, oAdd_3, oAdd_4, oAdd_5, oAdd_6, oSub_1, oMul_1, oMul_2, oMul_3, oFdiv_1, oMod_1, oPow_1, oNeg_1, oLt_1, oLt_2, oLe_1, oGt_1, oGt_2, oGe_1, oIs_1, oIsNot_1, oIx_1, oIx_2, oIx_3, oIx_4, oIx_5, oSl_1, oSl_2, oSl_3, oSl_4, oLen_1, oLen_2, oLen_3, oLen_4, oLen_5, oLen_6, oInt_1, oInt_2, oInt_3, oAbs_1, oAll_1, oTuple_1, oTuple_2, oTuple_3, oTuple_4, oList_1, oList_2, oList_3, oList_4, oList_5, oListO_1, oListO_2, oListO_3, oListO_4, oListO_5, vGet_1, isB_1, gNl_1, gCn_1, gTp_1, gTp_2, gUl_1, gUl_2, onL_1, onO_1, onO_2, onM_1, oIadd_1, oIadd_2, oInS_1, oNotInS_1, onS_1, flD_1, flD_2, flD_3, flD_4, strD_1, wkD_1, wkD_2, wkD_3, wkD_4, wkD_5, zpD_1, zpD_2, oStr_1, oStr_2, oFmt_1, oFmt_2, vJs_1, vJs_2, keyD_1, keyD_2, asK_1, asK_2, dicO_1, oIsB_1, oIsNotB_1, hdV_1, hdV_2, onB_1, onB_2, onB_3, flDs_1, flDs_2, onD_1, onDo_1, kyD_1, oListD_1, oListS_1, enmD_1, onI_1, onIo_1, oAddI_1, oSortD_1, oSortA_1, oSortN_1, oMaxL_1, flatD_1, flatD_2, flatD_3, flatD_4, flatD_5, strKs_1, strKs_2, rdD_1, rdD_2, rdD_3, rdD_4, rdD_5, notR_1, notR_2, stD_1, stD_2, setsD_c, setsD_n, insO_1, asI_1, asI_2, noneB, atI_0, atI_1, atI_2, atI_3, ixN_0, ixN_1, ixN_2, ixN_3, mset_twice, frz_l, frz_d, frz_i, eqK_i, eqK_s, eqK_b, eqK_t, eqK_l, its_tup, its_pr, its_lst, its_lat, asL_lst, asL_lat, asL_rf, its_rf, lstO_l, strDs_map, intDs_map, flDs_str, flDs_int, S1, S_len, S_app, cutS_S, repS_S, tyM, Ty.is, isDit, dstart, wipeD, mset_same, List.map, List.length, List.replicate, List.cons_append, List.nil_append, List.set_cons_zero, List.set_cons_succ, List.getElem?_cons_zero, List.getElem?_cons_succ, Nat.reduceSub, Nat.reduceAdd, Nat.reduceLeDiff, true_and, and_true, if_true, if_false, ite_true, ite_false, Bool.false_eq_true, decide_eq_true_eq, Bool.or_true, Bool.true_or, Bool.or_false, Bool.false_or, Bool.not_true, Bool.not_false, Bool.not_eq_true', decide_eq_false_iff_not, decide_true, decide_false, not_true_eq_false, not_false_eq_true, and_self, ne_eq, Int.cast_ofNat_Int, Int.reduceLE, Int.reduceLT, Int.reduceEq, Int.reduceNe, Int.reduceNeg, Int.reduceAdd, Int.reduceSub, Int.reduceMul, reduceCtorEq]))
local macro_rules | `(tactic| walk_at "vc*") => `(tactic| ((try dsimp only [vNext, vBreak, vCont, vSeq, vRet, vRetN, vDrop, vIfS, vNever, vAsg, vSet, vPar, vPar3, vAug, vFrz, vFz, vSetIx, vDelIx, gN, vC, vVar, vOp, vUn, vNil, vCons, vTup, vLst, vLstO, vCB, tV, vAnd, vOr, vNot, vYes, vAndV, vOrV, vNotV, vIf, vChain, vNoP, vP, vSl, vCall, vCallX, vBM, vBM0, vIsi, vIsi2, vWalk, vFor, vLc, vLcO, vRng1, vRng2, vEnum, vZip, oEq, oNe, oAppend, oClear, oExtend, oInsert, oPop, isTy, vJoin, vLs, oJoin, oSortS, oSortI, oInL, oNotInL, vFmt, vJoined, vDGet, oDGet, oNeK, oEqK, eqDK, vLam, vAsk, vTry, vXf, vRaise1, vRaise0, vCallKX, vDNewO, vDGet2, vDPut, vKeys, vRev, oRev, vDc, vPartn, oPartn, vForM, vEnumM, vFld, vSetF, vMeth, vMethX, vMake, vMakeX, vMakeK, vTupK, vMn, vMc, vMatch, vAugF, vParF, vSpread, vIsiC, oEqI, oNeI, vCallL, vWalkI, vStar, oDictO, oClearD, vDisp2, vFzN, vBM0D, vMtN, vMt, vMatchT]); try simp only [vNext, vBreak, vCont, vSeq, vRet, vRetN, vDrop, vIfS, vNever, vAsg, vSet, vPar, vPar3, vAug, vFrz, vFz, vSetIx, vDelIx, gN, vC, vVar, vOp, vUn, vNil, vCons, vTup, vLst, vLstO, vCB, tV, vAnd, vOr, vNot, vYes, vAndV, vOrV, vNotV, vIf, vChain, vNoP, vP, vSl, vCall, vCallX, vBM, vBM0, vIsi, vIsi2, vWalk, vFor, vLc, vLcO, vRng1, vRng2, vEnum, vZip, oEq, oNe, oAppend, oClear, oExtend, oInsert, oPop, isTy, vJoin, vLs, oJoin, oSortS, oSortI, oInL, oNotInL, vFmt, vJoined, vDGet, oDGet, oNeK, oEqK, eqDK, vLam, vAsk, vTry, vXf, vRaise1, vRaise0, vCallKX, vDNewO, vDGet2, vDPut, vKeys, vRev, oRev, vDc, vPartn, oPartn, vForM, vEnumM, vFld, vSetF, vMeth, vMethX, vMake, vMakeX, vMakeK, vTupK, vMn, vMc, vMatch, vAugF, vParF, vSpread, vIsiC, oEqI, oNeI, vCallL, vWalkI, vStar, oDictO, oClearD, vDisp2, vFzN, vBM0D, vMtN, vMt, vMatchT, tpD_1, tpD_2, hdS_1, oLenI_1, oReprI_1, blD_1, inD_1, txD_1, swapX_1, oAdd_1, oAdd_2, oAdd_3, oAdd_4, oAdd_5, oAdd_6, oSub_1, oMul_1, oMul_2, oMul_3, oFdiv_1, oMod_1, oPow_1, oNeg_1, oLt_1, oLt_2, oLe_1, oGt_1, oGt_2, oGe_1, oIs_1, oIsNot_1, oIx_1, oIx_2, oIx_3, oIx_4, oIx_5, oSl_1, oSl_2, oSl_3, oSl_4, oLen_1, oLen_2, oLen_3, oLen_4, oLen_5, oLen_6, oInt_1, oInt_2, oInt_3, oAbs_1, oAll_1, oTuple_1, oTuple_2, oTuple_3, oTuple_4, oList_1, oList_2, oList_3, oList_4, oList_5, oListO_1, oListO_2, oListO_3, oListO_4, oListO_5, vGet_1, isB_1, gNl_1, gCn_1, gTp_1, gTp_2, gUl_1, gUl_2, onL_1, onO_1, onO_2, onM_1, oIadd_1, oIadd_2, oInS_1, oNotInS_1, onS_1, flD_1, flD_2, flD_3, flD_4, strD_1, wkD_1, wkD_2, wkD_3, wkD_4, wkD_5, zpD_1, zpD_2, oStr_1, oStr_2, oFmt_1, oFmt_2, vJs_1, vJs_2, keyD_1, keyD_2, asK_1, asK_2, dicO_1, oIsB_1, oIsNotB_1, hdV_1, hdV_2, onB_1, onB_2, onB_3, flDs_1, flDs_2, onD_1, onDo_1, kyD_1, oListD_1, oListS_1, enmD_1, onI_1, onIo_1, oAddI_1, oSortD_1, oSortA_1, oSortN_1, oMaxL_1, flatD_1, flatD_2, flatD_3, flatD_4, flatD_5, strKs_1, strKs_2, rdD_1, rdD_2, rdD_3, rdD_4, rdD_5, notR_1, notR_2, stD_1, stD_2, setsD_c, setsD_n, insO_1, asI_1, asI_2, noneB, atI_0, atI_1, atI_2, atI_3, ixN_0, ixN_1, ixN_2, ixN_3, mset_twice, frz_l, frz_d, frz_i, eqK_i, eqK_s, eqK_b, eqK_t, eqK_l, its_tup, its_pr, its_lst, its_lat, asL_lst, asL_lat, asL_rf, its_rf, lstO_l, strDs_map, intDs_map, flDs_str, flDs_int, S1, S_len, S_app, cutS_S, repS_S, tyM, Ty.is, isDit, dstart, wipeD, mset_same, List.map, List.length, List.replicate, List.cons_append, List.nil_append, List.set_cons_zero, List.set_cons_succ, List.getElem?_cons_zero, List.getElem?_cons_succ, Nat.reduceSub, Nat.reduceAdd, Nat.reduceLeDiff, true_and, and_true, if_true, if_false, ite_true, ite_false, Bool.false_eq_true, decide_eq_true_eq, Bool.or_true, Bool.true_or, Bool.or_false, Bool.false_or, Bool.not_true, Bool.not_false, Bool.not_eq_true', decide_eq_false_iff_not, decide_true, decide_false, not_true_eq_false, not_false_eq_true, and_self, ne_eq, Int.cast_ofNat_Int, Int.reduceLE, Int.reduceLT, Int.reduceEq, Int.reduceNe, Int.reduceNeg, Int.reduceAdd, Int.reduceSub, Int.reduceMul, reduceCtorEq, *]))
local macro_rules | `(tactic| walk_at "side") => `(tactic| first | exact cmul_r (by decide) (by decide) | exact cmul_l (by decide) (by decide) | exact cmul_fm (by decide) (by decide) | assumption | omega | decide)
local macro_rules | `(tactic| walk_at "sides") => `(tactic| repeat' (first | (refine And.intro (by walk_at "side") ?_) | refine itP (fun _ => ?_) (fun _ => ?_)))
/-! ### the law's common helpers -/
/-- what a draw may be asked: 0 < many < 2 ^ 9000 -/
abbrev preDraw (m : Int) : Prop := 0 < m ∧ m.natAbs < 2 ^ 9000
def ph__law_feed : P0 := phFeed
def ph__law_draw : P0 := phDraw preDraw
@[reducible] def v__law_feed_b1 : VS :=
  (vSet 2 (vOp oMod (vCB oInt (vCons (vOp oAdd (vOp oMul (vVar 2) (vC (.int 8117))) (vVar 3)) vNil)) (vC (.int 2147483629))))
/- def _law_feed, slots 0 _law_script 1 _law_cells 2 _law_mark 3 _law_cell -/
@[reducible] def v__law_feed : VS :=
  (vSeq (vSet 1 (vLc (vWalk (vSl (vVar 0) vNoP (vP (vC (.int 63))))) (gN 3) vYes (vCB oInt (vCons (vVar 3) vNil)) [3]))
    (vSeq (vSet 2 (vOp oAdd (vC (.int 3834)) (vOp oMul (vC (.int 53)) (vCB oLen (vCons (vVar 1) vNil)))))
    (vSeq (vFor (vWalk (vVar 1)) (gN 3) v__law_feed_b1)
    (vRet (vLstO (vCons (vVar 1) (vCons (vC (.int 0)) (vCons (vC (.int 0)) (vCons (vVar 2) vNil)))))))))
/- def _law_draw, slots 0 _law_feed_here 1 _law_many 2 _law_cell 3 _law_one 4 _law_two 5 _law_drawn -/
@[reducible] def v__law_draw : VS :=
  (vSeq (vIfS (tV (vOp oLt (vOp oIx (vVar 0) (vC (.int 2))) (vC (.int 2)))) (vSeq (vSetIx (vVar 0) (vC (.int 1)) (vOp oAdd (vOp oIx (vVar 0) (vC (.int 1))) (vC (.int 1))))
    (vSeq (vSet 2 (vOp oAdd (vOp oIx (vVar 0) (vC (.int 3))) (vOp oMul (vOp oIx (vVar 0) (vC (.int 1))) (vC (.int 7919)))))
    (vSeq (vIfS (tV (vOp oLe (vOp oIx (vVar 0) (vC (.int 1))) (vCB oLen (vCons (vOp oIx (vVar 0) (vC (.int 0))) vNil)))) (vSet 2 (vOp oIx (vOp oIx (vVar 0) (vC (.int 0))) (vOp oSub (vOp oIx (vVar 0) (vC (.int 1))) (vC (.int 1))))) vNext)
    (vSeq (vIfS (vOr (tV (vOp oGt (vOp oIx (vVar 0) (vC (.int 1))) (vCB oLen (vCons (vOp oIx (vVar 0) (vC (.int 0))) vNil)))) (tV (vOp oLt (vVar 2) (vOp oPow (vC (.int 10)) (vC (.int 18)))))) (vSeq (vSet 3 (vOp oMod (vCB oInt (vCons (vOp oAdd (vOp oAdd (vOp oMul (vVar 2) (vC (.int 48271))) (vOp oMul (vOp oIx (vVar 0) (vC (.int 1))) (vC (.int 69621)))) (vOp oIx (vVar 0) (vC (.int 3)))) vNil)) (vC (.int 2147483647))))
    (vSeq (vSet 4 (vOp oMod (vCB oInt (vCons (vOp oAdd (vOp oMul (vVar 3) (vVar 3)) (vOp oMul (vOp oIx (vVar 0) (vC (.int 1))) (vC (.int 16807)))) vNil)) (vC (.int 998244353))))
    (vRet (vOp oMod (vOp oFdiv (vOp oMod (vCB oInt (vCons (vOp oAdd (vOp oMul (vVar 4) (vC (.int 40692))) (vVar 3)) vNil)) (vC (.int 2147483629))) (vC (.int 11))) (vVar 1))))) vNext)
    (vSetIx (vVar 0) (vC (.int 2)) (vVar 2)))))) vNext)
    (vSeq (vSet 5 (vOp oMod (vCB oInt (vCons (vOp oIx (vVar 0) (vC (.int 2))) vNil)) (vVar 1)))
    (vSeq (vSetIx (vVar 0) (vC (.int 2)) (vOp oFdiv (vCB oInt (vCons (vOp oIx (vVar 0) (vC (.int 2))) vNil)) (vVar 1)))
    (vRet (vVar 5)))))


theorem l__law_feed : ∀ ds m k, phFeedL ds m k → ds.length = 1 := by rintro _ m k ⟨a, ns, rfl, _⟩; rfl
theorem lc_ints {j : Nat} {s : SL} (hj : j < s.length) : ∀ (ns acc : List Int) (m : Mem) (k : List D → Mem → Prop), k ((acc ++ ns).map D.int) m → lcV (gN j) vYes (vCB oInt (vCons (vVar j) vNil)) s (ns.map D.int) (acc.map D.int) m k
  | [], acc, m, k, h => by rw [List.append_nil] at h; exact h
  | n :: ns, acc, m, k, h => by
    have := lc_ints hj ns (acc ++ [n]) m k (by simpa using h)
    rw [List.map_append] at this
    simp only [List.map_cons, lcV, gN, vYes, vCB, vCons, vVar, vNil, List.getElem?_set_self hj, vGet, oInt, if_true]
    exact this
theorem w__law_feed : ∀ ds m k, phFeedL ds m k → v__law_feed (dstart 4 ds) m (endV k) := by
  rintro _ m k ⟨a, ns, rfl, hl, hk⟩
  unfold v__law_feed v__law_feed_b1
  have cut : ∃ ms : List Int, ms.length ≤ 100 ∧ cutD (ns.map D.int) none (some 63) = ms.map D.int := ⟨cutD ns none (some 63), by unfold cutD; rw [List.length_take, List.length_drop]; omega, by
    unfold cutD
    rw [List.length_map, List.map_take, List.map_drop]⟩
  obtain ⟨ms, hm, hc⟩ := cut
  walk_at "vc"
  rw [hc]
  refine ⟨by rw [List.length_map]; omega, ?_⟩
  refine lc_ints (by simp) ms [] m _ ?_
  walk_at "vc"
  refine ⟨cmul_l (by decide) (by decide), ?_⟩
  refine forV_map (fun _ s m' => m' = m ∧ ∃ (x : Option D) (mk : Int), s = [some (.lat a (ns.map D.int)), some (.lst (ms.map D.int)), some (.int mk), x]) ?_ ?_ ⟨rfl, _, _, rfl⟩
  · rintro s _ ⟨rfl, x, mk, rfl⟩
    walk_at "vc"
    exact fun p hp => ⟨_, MLe.refl _, hk ms mk p hp⟩
  · rintro n _ s _ ⟨rfl, x, mk, rfl⟩ ih
    walk_at "vc"
    exact ⟨cmul_r (by decide) (by decide), ih _ _ ⟨rfl, _, _, rfl⟩⟩
theorem l__law_draw : ∀ ds m k, phDrawM preDraw ds m k → ds.length = 2 := by rintro _ m k ⟨a, cs, n, i, j, mk, ns, rfl, _⟩; rfl
theorem w__law_draw : ∀ ds m k, phDrawM preDraw ds m k → v__law_draw (dstart 6 ds) m (endV k) := by
  rintro _ m k ⟨a, cs, n, i, j, mk, ns, rfl, hm, hi, ⟨hn0, hn1⟩, hk⟩
  unfold v__law_draw
  walk_at "vc*"
  have fin : ∀ c i' j' : Int, 0 ≤ i' → ∃ m'', MLe m'' (mset m a (MO.lst [D.lat cs (List.map D.int ns), D.int i', D.int j', D.int mk])) ∧ k (D.int (c.fmod n)) m'' := fun c i' j' h => ⟨_, MLe.refl _, hk _ _ _ (fmod_nn hn0).1 (fmod_nn hn0).2 h⟩
  have n0 : n ≠ 0 := by omega
  have dn : DivOk n := div_ok n0 hn1
  have d11 : DivOk 11 := div_sm (by decide) (by decide)
  have cp : CPow 10 18 := ⟨by decide, by decide, by decide⟩
  refine itP (fun _ => ⟨cmul_r (by decide) (by decide), itP (fun hl => ?_) fun _ => ?_⟩) fun _ => ⟨n0, dn, fin _ _ _ hi⟩
  · rw [List.length_map] at hl
    obtain ⟨t, rfl⟩ : ∃ t : Nat, i = t := ⟨i.toNat, by omega⟩
    have ht : t < ns.length := by omega
    have e : atI (ns.map D.int) ((t : Int) + 1 - 1) = some (.int ns[t]) := atI_of (j := t) (by omega) (by rw [List.getElem?_map, List.getElem?_eq_getElem ht]; rfl)
    rw [e]
    walk_at "vc*"
    walk_at "sides"
    all_goals exact fin _ _ _ (by omega)
  · walk_at "sides"
    all_goals exact fin _ _ _ (by omega)

def ph__law_any : P0 := fun ds m k => match ds with
  | [.feed, .lst row] => row ≠ [] ∧ row.length ≤ 100000 ∧ ∀ d ∈ row, k d m
  | [.feed, .tup row] => row ≠ [] ∧ row.length ≤ 100000 ∧ ∀ d ∈ row, k d m
  | [.feed, .str z] => z.length ≠ 0 ∧ z.length ≤ 100000 ∧ ∀ c ∈ z.cps.toList, k (.str ⟨#[c]⟩) m
  | _ => False
def ph__law_gcd : P0 := fun ds m k => match ds with
  | [.int a, .int b] => k (.int (Int.gcd a b : Int)) m
  | _ => False
/-- a fraction as a pair -/
abbrev frD (f : Int × Int) : D := .tup [.int f.1, .int f.2]
def ph__law_low : P0 := fun ds m k => match ds with
  | [.int a, .int b] => b ≠ 0 ∧ b.natAbs < 2 ^ 8000 ∧ k (frD (Fr.low a b)) m
  | _ => False
/- def _law_any, slots 0 _law_feed_here 1 _law_row -/
@[reducible] def v__law_any : VS :=
  (vRet (vOp oIx (vVar 1) (vCall ph__law_draw (vCons (vVar 0) (vCons (vCB oLen (vCons (vVar 1) vNil)) vNil)))))
@[reducible] def v__law_gcd_b1 : VS :=
  (vPar 0 1 (vCons (vVar 1) (vCons (vOp oMod (vCB oInt (vCons (vVar 0) vNil)) (vVar 1)) vNil)))
/- def _law_gcd, slots 0 _law_one 1 _law_two -/
@[reducible] def v__law_gcd : VS :=
  (vSeq (vPar 0 1 (vCons (vCB oAbs (vCons (vVar 0) vNil)) (vCons (vCB oAbs (vCons (vVar 1) vNil)) vNil)))
    (vSeq (vWhile (tV (vOp oNe (vVar 1) (vC (.int 0)))) v__law_gcd_b1)
    (vRet (vVar 0))))
/- def _law_low, slots 0 _law_upper 1 _law_lower 2 _law_part -/
@[reducible] def v__law_low : VS :=
  (vSeq (vSet 2 (vCall ph__law_gcd (vCons (vVar 0) (vCons (vVar 1) vNil))))
    (vSeq (vIfS (tV (vOp oLt (vVar 1) (vC (.int 0)))) (vSet 2 (vUn oNeg (vVar 2))) vNext)
    (vRet (vTup (vCons (vOp oFdiv (vVar 0) (vVar 2)) (vCons (vOp oFdiv (vVar 1) (vVar 2)) vNil))))))


theorem l__law_any : ∀ ds m k, ph__law_any ds m k → ds.length = 2 := by
  intro ds m k h
  unfold ph__law_any at h
  split at h
  · rfl
  · rfl
  · rfl
  · exact h.elim
theorem natAbs_small {n : Nat} (h : n ≤ 100000) : ((n : Nat) : Int).natAbs < 2 ^ 9000 := by
  rw [Int.natAbs_natCast]
  exact Nat.lt_of_lt_of_le (Nat.lt_of_le_of_lt h (by decide : 100000 < 2 ^ 20)) (Nat.pow_le_pow_right (by decide) (by decide))
theorem at_draw {α : Type} {xs : List α} {r : Int} (h0 : 0 ≤ r) (h1 : r < xs.length) : ∃ x, atI xs r = some x ∧ x ∈ xs := by
  have ht : r.toNat < xs.length := by omega
  exact ⟨xs[r.toNat], atI_of (j := r.toNat) (by omega) (List.getElem?_eq_getElem ht), List.getElem_mem ht⟩
theorem w__law_any : ∀ ds m k, ph__law_any ds m k → v__law_any (dstart 2 ds) m (endP k) := by
  intro ds m k h
  unfold ph__law_any at h
  split at h
  case h_4 => exact h.elim
  all_goals
    rename_i row
    obtain ⟨h1, h2, hk⟩ := h
    unfold v__law_any
    simp only [ph__law_draw]
    walk_at "vc"
  · refine ⟨⟨by have := List.length_pos_iff.mpr h1; omega, natAbs_small h2⟩, fun r h0 h1 => ?_⟩
    obtain ⟨x, e, hx⟩ := at_draw h0 h1
    walk_at "vc*"
  · refine ⟨⟨by have := List.length_pos_iff.mpr h1; omega, natAbs_small h2⟩, fun r h0 h1 => ?_⟩
    obtain ⟨x, e, hx⟩ := at_draw h0 h1
    walk_at "vc*"
  · refine ⟨by omega, ⟨by omega, natAbs_small h2⟩, fun r h0 h1 => ⟨by omega, ?_⟩⟩
    obtain ⟨x, e, hx⟩ := at_draw (xs := row.cps.toList) h0 (by rw [Array.length_toList]; exact h1)
    rw [e]
    exact hk x hx
theorem zipD_self (xs : List D) : zipD xs xs = xs.map fun d => .pr [d, d] := by
  unfold zipD
  induction xs with
  | nil => rfl
  | cons x xs ih => simp [List.zipWith_cons_cons, ih]
theorem trues (n : Nat) : blsOf (List.replicate n (D.bl true)) = some (List.replicate n true) := by
  rw [← List.map_replicate]; exact blsOf_map _
/-- the comparison of two rows -/
theorem same_row {φ : P0} {s : SL} (h3 : 3 < s.length) (h4 : 4 < s.length) {m : Mem} {k : List D → Mem → Prop} (xs : List D) (hx : ∀ x ∈ xs, ∀ k' : KD, k' (.bl true) m → φ [x, x] m k') (hk : k (List.replicate xs.length (.bl true)) m) :
    lcV (gTp 2 (gCn (gN 3) (gCn (gN 4) gNl))) vYes (vCall φ (vCons (vVar 3) (vCons (vVar 4) vNil))) s (zipD xs xs) [] m k := by
  rw [zipD_self]
  refine lcV_map (fun as acc m' => m' = m ∧ (∀ a ∈ as, a ∈ xs) ∧ acc = List.replicate (xs.length - as.length) (.bl true) ∧ as.length ≤ xs.length) ?_ ?_ ⟨rfl, fun _ z => z, by simp, Nat.le_refl _⟩
  · rintro acc _ ⟨rfl, _, rfl, _⟩
    simpa using hk
  · rintro a as acc _ ⟨rfl, ha, rfl, hl⟩ ih
    walk_at "vc"
    have e3 : ((s.set 3 (some a)).set 4 (some a))[3]? = some (some a) := by rw [List.getElem?_set_ne (by decide), List.getElem?_set_self h3]
    have e4 : ((s.set 3 (some a)).set 4 (some a))[4]? = some (some a) := by rw [List.getElem?_set_self (by rw [List.length_set]; exact h4)]
    simp only [e3, e4]
    walk_at "vc"
    refine hx a (ha a List.mem_cons_self) _ ?_
    refine ih _ _ ⟨rfl, fun z hz => ha z (List.mem_cons_of_mem _ hz), ?_, by simp at hl; omega⟩
    rw [← List.replicate_succ']
    simp at hl ⊢
    omega
theorem l__law_gcd : ∀ ds m k, ph__law_gcd ds m k → ds.length = 2 := by
  intro ds m k h
  unfold ph__law_gcd at h
  split at h
  · rfl
  · exact h.elim
theorem w__law_gcd : ∀ ds m k, ph__law_gcd ds m k → v__law_gcd (dstart 2 ds) m (endP k) := by
  intro ds m k h
  unfold ph__law_gcd at h
  split at h
  case h_2 => exact h.elim
  rename_i a b
  unfold v__law_gcd v__law_gcd_b1
  walk_at "vc"
  refine ⟨fun n s m' => ∃ x : Nat, s = [some (.int x), some (.int n)] ∧ m' = m ∧ Nat.gcd x n = Int.gcd a b, ⟨b.natAbs, a.natAbs, rfl, rfl, rfl⟩, ?_⟩
  rintro n _ _ ⟨x, rfl, rfl, hg⟩
  walk_at "vc"
  refine itP (fun hn => ⟨by omega, ?_⟩) fun hn => ?_
  · have hn' : n ≠ 0 := by omega
    refine ⟨x % n, Nat.mod_lt _ (by omega), n, ?_, ?_⟩
    · rw [Int.fmod_eq_emod_of_nonneg _ (by omega)]; rfl
    · rw [← hg, Nat.gcd_comm x n, Nat.gcd_rec n x, Nat.gcd_comm]
  · have hn' : n = 0 := by omega
    subst hn'
    rw [Nat.gcd_zero_right] at hg
    rw [hg]
    exact h
theorem l__law_low : ∀ ds m k, ph__law_low ds m k → ds.length = 2 := by
  intro ds m k h
  unfold ph__law_low at h
  split at h
  · rfl
  · exact h.elim
theorem gcd_div {a b : Int} (hb : b ≠ 0) (h : b.natAbs < 2 ^ 8000) : DivOk (Int.gcd a b : Int) ∧ DivOk (-(Int.gcd a b : Int)) := by
  have h0 : 0 < Int.gcd a b := Int.gcd_pos_of_ne_zero_right a hb
  have h1 : Int.gcd a b ≤ b.natAbs := Nat.le_of_dvd (by omega) (Nat.gcd_dvd_right _ _)
  have h2 : Int.gcd a b < 2 ^ 9000 := Nat.lt_of_le_of_lt h1 (Nat.lt_trans h (Nat.pow_lt_pow_right (by decide) (by decide)))
  exact ⟨div_ok (by omega) (by rw [Int.natAbs_natCast]; exact h2), div_ok (by omega) (by rw [Int.natAbs_neg, Int.natAbs_natCast]; exact h2)⟩
theorem w__law_low : ∀ ds m k, ph__law_low ds m k → v__law_low (dstart 3 ds) m (endP k) := by
  intro ds m k h
  unfold ph__law_low at h
  split at h
  case h_2 => exact h.elim
  rename_i a b
  obtain ⟨hb, hs, hk⟩ := h
  obtain ⟨d1, d2⟩ := gcd_div (a := a) hb hs
  unfold v__law_low
  walk_at "vc"
  simp only [ph__law_gcd]
  walk_at "vc"
  unfold frD Fr.low at hk
  refine itP (fun hn => ?_) fun hn => ?_
  · simp only [if_pos hn] at hk
    exact ⟨d2, d2, hk⟩
  · simp only [if_neg hn] at hk
    exact ⟨d1, d1, hk⟩
theorem pre_s {n : Int} (h0 : 0 < n) (h1 : n < 2 ^ 62) : preDraw n := ⟨h0, Nat.lt_of_lt_of_le (m := 2 ^ 62) (by omega) (Nat.pow_le_pow_right (by decide) (by decide))⟩
/-! ### the program's divisor -/
def ph_divisor : P0 := ph__law_gcd
theorem l_divisor : ∀ ds m k, ph_divisor ds m k → ds.length = 2 := l__law_gcd
@[reducible] def v_divisor_b1 : VS :=
  (vPar 0 1 (vCons (vVar 1) (vCons (vOp oMod (vVar 0) (vVar 1)) vNil)))
/- def divisor, slots 0 one 1 other -/
@[reducible] def v_divisor : VS :=
  (vSeq (vPar 0 1 (vCons (vCB oAbs (vCons (vVar 0) vNil)) (vCons (vCB oAbs (vCons (vVar 1) vNil)) vNil)))
    (vSeq (vWhile (tV (vOp oGt (vVar 1) (vC (.int 0)))) v_divisor_b1)
    (vRet (vVar 0))))


theorem w_divisor : ∀ ds m k, ph_divisor ds m k → v_divisor (dstart 2 ds) m (endP k) := by
  intro ds m k h
  unfold ph_divisor ph__law_gcd at h
  split at h
  case h_2 => exact h.elim
  rename_i a b
  unfold v_divisor v_divisor_b1
  walk_at "vc"
  refine ⟨fun n s m' => ∃ x : Nat, s = [some (.int x), some (.int n)] ∧ m' = m ∧ Nat.gcd x n = Int.gcd a b, ⟨b.natAbs, a.natAbs, rfl, rfl, rfl⟩, ?_⟩
  rintro n _ _ ⟨x, rfl, rfl, hg⟩
  walk_at "vc"
  refine itP (fun hn => ⟨by omega, ?_⟩) fun hn => ?_
  · have hn' : n ≠ 0 := by omega
    refine ⟨x % n, Nat.mod_lt _ (by omega), n, ?_, ?_⟩
    · rw [Int.fmod_eq_emod_of_nonneg _ (by omega)]; rfl
    · rw [← hg, Nat.gcd_comm x n, Nat.gcd_rec n x, Nat.gcd_comm]
  · have hn' : n = 0 := by omega
    subst hn'
    rw [Nat.gcd_zero_right] at hg
    rw [hg]
    exact h

/-! ### a fraction's text read -/
def dig (c : Nat) : Bool := decide (48 ≤ c) && decide (c ≤ 57)
/-- a word that is no number -/
def badW (l : List Nat) : Bool := decide (l = []) || (!l.all dig || (decide (1 < l.length) && decide (l.take 1 = [48])))
/- def whole_in, slots 0 text 1 sign -/
/-- what is wanted of a word: bad, or not -/
theorem word {l : List Nat} (hl : l.length ≤ 640) {P Q : Prop} (hb : badW l = true → P) (hg : badW l = false → Q) : if l = [] then P else if (l.all dig) = false then P else l.length ≤ 1000000 ∧ if (1 : Int) < l.length then l.length ≤ 1000000 ∧ onO (atI l 0) fun c => if [c] = [48] then P else Q else Q := by
  unfold badW at hb hg
  refine itP (fun e => hb (by simp [e])) fun e => itP (fun e2 => hb (by simp [e2])) fun e2 => ⟨by omega, itP (fun e3 => ⟨by omega, ?_⟩) fun e3 => hg ?_⟩
  · cases l with
    | nil => exact absurd rfl e
    | cons c r =>
      rw [show atI (c :: r) 0 = some c from atI_0, onO_1]
      have e3 : 1 < (c :: r).length := by omega
      refine itP (fun e4 => hb ?_) fun e4 => hg ?_
      · rw [decide_eq_true e3, decide_eq_true (show (c :: r).take 1 = [48] from e4)]; simp
      · rw [decide_eq_false (show ¬ (c :: r).take 1 = [48] from e4), decide_eq_false e]; simpa using e2
  · rw [decide_eq_false (show ¬ 1 < l.length by omega), decide_eq_false e]; simpa using e2
/- def unsigned_in, slots 0 text 1 first 2 stroke 3 second 4 top 5 under -/
/-! ### names and ties, judged -/
/-- plain data, its texts short -/
def okT : Nat → D → Prop
  | _, .non => True
  | _, .bl _ => True
  | _, .int _ => True
  | _, .str z => z.length ≤ 1000
  | n + 1, .lst ds => ds.length ≤ 1000 ∧ ∀ d ∈ ds, okT n d
  | n + 1, .tup ds => ds.length ≤ 1000 ∧ ∀ d ∈ ds, okT n d
  | _, _ => False
def Pn (d : D) : Prop := ∃ n, okT n d
theorem Pn.tup {ds : List D} (h : Pn (.tup ds)) : ds.length ≤ 1000 ∧ ∀ d ∈ ds, Pn d := by
  obtain ⟨n, h⟩ := h
  cases n with
  | zero => exact h.elim
  | succ n => exact ⟨h.1, fun d hd => ⟨n, h.2 d hd⟩⟩
theorem Pn.str {z : Str} (h : Pn (.str z)) : z.length ≤ 1000 := by
  obtain ⟨n, h⟩ := h
  cases n <;> exact h
def isWh : D → Bool
  | .int _ => true
  | _ => false
def ph_is_whole : P0 := fun ds m k => ∃ d, ds = [d] ∧ Pn d ∧ k (.bl (isWh d)) m
theorem l_is_whole : ∀ ds m k, ph_is_whole ds m k → ds.length = 1 := by rintro _ m k ⟨_, rfl, _⟩; rfl
/- def is_whole, slots 0 thing -/
@[reducible] def v_is_whole : VS :=
  (vRet (vAndV (vIsi .int (vVar 0)) (vNotV (vIsi .bl (vVar 0)))))


theorem w_is_whole : ∀ ds m k, ph_is_whole ds m k → v_is_whole (dstart 1 ds) m (endP k) := by
  rintro _ m k ⟨d, rfl, ⟨n, h⟩, hk⟩
  unfold v_is_whole
  cases d with
  | non => walk_at "vc"; exact hk
  | bl b => walk_at "vc"; exact hk
  | int i => walk_at "vc"; exact hk
  | str i => walk_at "vc"; exact hk
  | lst ds => walk_at "vc"; exact hk
  | tup ds => walk_at "vc"; exact hk
  | _ => cases n <;> exact h.elim
def isRat : D → Bool
  | .tup [.int a, .int b] => decide (0 < b) && decide (Int.gcd a b = 1)
  | _ => false
theorem isRat_len {ds : List D} (h : ds.length ≠ 2) : isRat (.tup ds) = false := by
  unfold isRat
  split
  · rename_i e; cases e; exact absurd rfl h
  · rfl
def ph_is_ratio : P0 := fun ds m k => ∃ d, ds = [d] ∧ Pn d ∧ k (.bl (isRat d)) m
theorem l_is_ratio : ∀ ds m k, ph_is_ratio ds m k → ds.length = 1 := by rintro _ m k ⟨_, rfl, _⟩; rfl
/- def is_ratio, slots 0 thing -/
@[reducible] def v_is_ratio : VS :=
  (vSeq (vIfS (vOr (vNot (tV (vIsi .tup (vVar 0)))) (vOr (tV (vOp oNe (vCB oLen (vCons (vVar 0) vNil)) (vC (.int 2)))) (vOr (vNot (tV (vCall ph_is_whole (vCons (vOp oIx (vVar 0) (vC (.int 0))) vNil)))) (vNot (tV (vCall ph_is_whole (vCons (vOp oIx (vVar 0) (vC (.int 1))) vNil))))))) (vRet (vC (.bl false))) vNext)
    (vRet (vAndV (vOp oGt (vOp oIx (vVar 0) (vC (.int 1))) (vC (.int 0))) (vOp oEq (vCall ph_divisor (vCons (vOp oIx (vVar 0) (vC (.int 0))) (vCons (vOp oIx (vVar 0) (vC (.int 1))) vNil))) (vC (.int 1))))))


theorem w_is_ratio : ∀ ds m k, ph_is_ratio ds m k → v_is_ratio (dstart 1 ds) m (endP k) := by
  rintro _ m k ⟨d, rfl, h', hk⟩
  have h := h'
  obtain ⟨n, h⟩ := h
  unfold v_is_ratio
  cases d with
  | non => walk_at "vc"; exact hk
  | bl b => walk_at "vc"; exact hk
  | int i => walk_at "vc"; exact hk
  | str i => walk_at "vc"; exact hk
  | lst ds => walk_at "vc"; exact hk
  | tup ds =>
    obtain ⟨hl, hd⟩ := h'.tup
    have no : ds.length ≠ 2 → k (.bl false) m := fun e => by rw [isRat_len e] at hk; exact hk
    match ds, hl, hd, hk, no with
    | [], _, _, hk, _ => walk_at "vc"; exact hk
    | [x], _, _, _, no => walk_at "vc"; exact no (by simp)
    | x :: y :: z :: r, _, _, _, no =>
      walk_at "vc"
      exact itP (fun _ => no (by simp)) (fun e => absurd e (by simp; omega))
    | [x, y], _, hd, hk, _ =>
      walk_at "vc"
      refine ⟨x, rfl, hd x List.mem_cons_self, ?_⟩
      cases x with
      | int a =>
        simp only [isWh]
        walk_at "vc"
        refine ⟨y, rfl, hd y (List.mem_cons_of_mem _ List.mem_cons_self), ?_⟩
        cases y with
        | int b =>
          simp only [isWh]
          walk_at "vc"
          have e : isRat (.tup [.int a, .int b]) = (decide (0 < b) && decide (Int.gcd a b = 1)) := rfl
          rw [e] at hk
          refine itP (fun hb => ?_) fun hb => ?_
          · rw [decide_eq_true hb, Bool.true_and] at hk
            simp only [ph_divisor, ph__law_gcd]
            walk_at "vc"
            rw [show decide (((Int.gcd a b : Nat) : Int) = 1) = decide (Int.gcd a b = 1) by simp only [decide_eq_decide]; omega]
            exact hk
          · rw [decide_eq_false hb, Bool.false_and] at hk
            exact hk
        | _ => simp only [isWh]; walk_at "vc"; exact hk
      | _ => simp only [isWh]; walk_at "vc"; exact hk
  | _ => cases n <;> exact h.elim

/-! ### rates, parts, words -/
def rates : List (Int × Int) := [(1, 1), (-1, 1), (1, 1), (2, 1), (-2, 1), (3, 1), (1, 2), (-3, 2), (-1, 1), (5, 3)]
def ph__law_rate : P0 := fun ds m k => ds = [.feed] ∧ ∀ p ∈ rates, k (frD p) m
/-- one to six small letters -/
def Word (w : List Nat) : Prop := 1 ≤ w.length ∧ w.length ≤ 6 ∧ ∀ c ∈ w, 97 ≤ c ∧ c ≤ 122
abbrev wsD (ws : List (List Nat)) : D := .lst (ws.map fun w => .str (S w))
def ph__law_words : P0 := fun ds m k => ∃ n : Nat, ds = [.feed, .int (n : Int)] ∧ n ≤ 26 ∧ ∀ ws : List (List Nat), ws.length = n → ws.Nodup → (∀ w ∈ ws, Word w) → k (wsD ws) m
/- def _law_rate, slots 0 _law_feed_here -/
@[reducible] def v__law_rate : VS :=
  (vRet (vCall ph__law_any (vCons (vVar 0) (vCons (vLst (vCons (vTup (vCons (vC (.int 1)) (vCons (vC (.int 1)) vNil))) (vCons (vTup (vCons (vUn oNeg (vC (.int 1))) (vCons (vC (.int 1)) vNil))) (vCons (vTup (vCons (vC (.int 1)) (vCons (vC (.int 1)) vNil))) (vCons (vTup (vCons (vC (.int 2)) (vCons (vC (.int 1)) vNil))) (vCons (vTup (vCons (vUn oNeg (vC (.int 2))) (vCons (vC (.int 1)) vNil))) (vCons (vTup (vCons (vC (.int 3)) (vCons (vC (.int 1)) vNil))) (vCons (vTup (vCons (vC (.int 1)) (vCons (vC (.int 2)) vNil))) (vCons (vTup (vCons (vUn oNeg (vC (.int 3))) (vCons (vC (.int 2)) vNil))) (vCons (vTup (vCons (vUn oNeg (vC (.int 1))) (vCons (vC (.int 1)) vNil))) (vCons (vTup (vCons (vC (.int 5)) (vCons (vC (.int 3)) vNil))) vNil))))))))))) vNil))))
/- def _law_words, slots 0 _law_feed_here 1 _law_many 2 _law_letters 3 _law_stem 4 _law_spot 5 _law_first 6 _law_way 7 _law_found 8 _law_k -/
@[reducible] def v__law_words : VS :=
  (vSeq (vSet 2 (vC (.str "abcdefghijklmnopqrstuvwxyz")))
    (vSeq (vSet 3 (vJoin (vC (.str "")) (vLc (vRng1 (vCons (vCall ph__law_draw (vCons (vVar 0) (vCons (vC (.int 6)) vNil))) vNil)) (gN 8) vYes (vOp oIx (vVar 2) (vCall ph__law_draw (vCons (vVar 0) (vCons (vC (.int 26)) vNil)))) [8])))
    (vSeq (vAsg (vTup (vCons (vCall ph__law_draw (vCons (vVar 0) (vCons (vOp oAdd (vCB oLen (vCons (vVar 3) vNil)) (vC (.int 1))) vNil))) (vCons (vCall ph__law_draw (vCons (vVar 0) (vCons (vC (.int 26)) vNil))) (vCons (vCall ph__law_draw (vCons (vVar 0) (vCons (vC (.int 3)) vNil))) vNil)))) (gTp 3 (gCn (gN 4) (gCn (gN 5) (gCn (gN 6) gNl)))))
    (vSeq (vSet 7 (vLc (vRng1 (vCons (vVar 1) vNil)) (gN 8) vYes (vOp oAdd (vOp oAdd (vSl (vVar 3) vNoP (vP (vVar 4))) (vOp oIx (vVar 2) (vOp oMod (vCB oInt (vCons (vOp oAdd (vVar 5) (vOp oMul (vC (.int 5)) (vVar 8))) vNil)) (vC (.int 26))))) (vSl (vVar 3) (vP (vVar 4)) vNoP)) [8]))
    (vSeq (vIfS (tV (vOp oEq (vVar 6) (vC (.int 0)))) (vSeq (vSet 7 (vLc (vRng1 (vCons (vVar 1) vNil)) (gN 8) vYes (vSl (vOp oAdd (vSl (vVar 3) vNoP (vP (vC (.int 1)))) (vOp oMul (vOp oIx (vVar 2) (vOp oMod (vCB oInt (vCons (vOp oAdd (vVar 5) (vOp oMul (vC (.int 7)) (vVar 8))) vNil)) (vC (.int 26)))) (vOp oAdd (vC (.int 1)) (vOp oMod (vCB oInt (vCons (vOp oAdd (vVar 8) (vVar 5)) vNil)) (vC (.int 4)))))) (vP (vUn oNeg (vC (.int 6)))) vNoP) [8]))
    (vSet 7 (vIf (tV (vOp oEq (vLs (vVar 7)) (vVar 1))) (vVar 7) (vLc (vRng1 (vCons (vVar 1) vNil)) (gN 8) vYes (vOp oIx (vVar 2) (vOp oMod (vCB oInt (vCons (vOp oAdd (vVar 5) (vOp oMul (vC (.int 5)) (vVar 8))) vNil)) (vC (.int 26)))) [8])))) vNext)
    (vRet (vVar 7)))))))


theorem l__law_rate : ∀ ds m k, ph__law_rate ds m k → ds.length = 1 := by rintro _ m k ⟨rfl, _⟩; rfl
theorem l__law_words : ∀ ds m k, ph__law_words ds m k → ds.length = 2 := by rintro _ m k ⟨z, rfl, _⟩; rfl
theorem w__law_rate : ∀ ds m k, ph__law_rate ds m k → v__law_rate (dstart 1 ds) m (endP k) := by
  rintro _ m k ⟨rfl, hk⟩
  unfold v__law_rate
  walk_at "vc"
  simp only [ph__law_any]
  refine ⟨by simp, by simp, fun d hd => ?_⟩
  have e : d ∈ rates.map frD := hd
  obtain ⟨p, hp, rfl⟩ := List.mem_map.mp e
  exact hk p hp
abbrev abc : List Nat := (List.range 26).map (· + 97)
theorem abc_S : ("abcdefghijklmnopqrstuvwxyz" : Str) = S abc := by decide +kernel
theorem emp_S : ("" : Str) = S [] := by decide +kernel
theorem join1 : ∀ zs : List Nat, TL.joinL [] (zs.map fun c => [c]) = zs
  | [] => rfl
  | [c] => rfl
  | c :: d :: r => by
    show [c] ++ ([] ++ TL.joinL [] ((d :: r).map fun c => [c])) = _
    rw [join1 (d :: r)]
    rfl
theorem join_one (zs : List Nat) : Txt.join (S []) (zs.map fun c => S [c]) = S zs := by
  have e : (zs.map fun c => S [c]) = (zs.map fun c => [c]).map S := by rw [List.map_map]; rfl
  rw [e, join_S, join1]
theorem abc_at {r : Int} (h0 : 0 ≤ r) (h1 : r < 26) : L2.atI (S abc).cps.toList r = some (97 + r.toNat) := by
  refine atI_of (j := r.toNat) (by omega) ?_
  show abc[r.toNat]? = _
  unfold abc
  rw [List.getElem?_map, List.getElem?_range (by omega)]
  show some (r.toNat + 97) = _
  rw [Nat.add_comm]
def let26 (i : Int) : Nat := 97 + (i.fmod 26).toNat
theorem abc_mod (i : Int) : L2.atI (S abc).cps.toList (i.fmod 26) = some (let26 i) := by
  have b := fmod_nn (a := i) (b := 26) (by decide)
  exact abc_at b.1 b.2
theorem rng_map (n : Nat) : rngD 0 n = (List.range n).map fun (i : Nat) => D.int ((0 : Int) + (i : Int)) := rfl
theorem nodup_rng {β : Type} {n : Nat} {f : Nat → β} (h : ∀ i j, i < n → j < n → f i = f j → i = j) : ((List.range n).map f).Nodup := by
  rw [List.Nodup, List.pairwise_map]
  refine (List.nodup_range (n := n)).imp_of_mem fun {a b} ha hb ne e => ne (h a b (List.mem_range.mp ha) (List.mem_range.mp hb) e)
theorem cut_to {α : Type} (l : List α) (p : Nat) : cutD l none (some (p : Int)) = l.take p := by
  unfold cutD
  rw [HT.sIx_none, HT.sIx_nat, List.drop_zero, Nat.sub_zero]
  rcases Nat.le_total p l.length with h | h
  · rw [Nat.min_eq_left h]
  · rw [Nat.min_eq_right h, List.take_length, List.take_of_length_le h]
theorem cut_from {α : Type} (l : List α) (p : Nat) : cutD l (some (p : Int)) none = l.drop p := by
  unfold cutD
  rw [HT.sIx_none, HT.sIx_nat]
  rcases Nat.le_total p l.length with h | h
  · rw [Nat.min_eq_left h]
    exact List.take_of_length_le (by rw [List.length_drop]; exact Nat.le_refl _)
  · rw [Nat.min_eq_right h, List.drop_eq_nil_of_le h, Nat.sub_self, List.take_zero]
theorem cut_m6 {α : Type} {l : List α} (h : l.length ≤ 6) : cutD l (some (-6)) none = l := by
  unfold cutD
  have e : HT.sIx l.length 0 (some (-6)) = 0 := by
    show (if (-6 : Int) < 0 then (-6 + (l.length : Int)).toNat else min (-6 : Int).toNat l.length) = 0
    rw [if_pos (by decide)]
    omega
  rw [e, HT.sIx_none, List.drop_zero, Nat.sub_zero, List.take_length]
theorem let26_ok (i : Int) : 97 ≤ let26 i ∧ let26 i ≤ 122 := by
  have b := fmod_nn (a := i) (b := 26) (by decide)
  unfold let26
  omega
theorem let26_inj {f : Int} {c : Int} (hc : c = 5) {i j : Nat} (hi : i < 26) (hj : j < 26) (h : let26 (f + c * (0 + (i : Int))) = let26 (f + c * (0 + (j : Int)))) : i = j := by
  subst hc
  have b1 := fmod_nn (a := f + 5 * (0 + (i : Int))) (b := 26) (by decide)
  have b2 := fmod_nn (a := f + 5 * (0 + (j : Int))) (b := 26) (by decide)
  unfold let26 at h
  rw [Int.fmod_eq_emod_of_nonneg _ (by decide)] at b1 b2 h
  rw [Int.fmod_eq_emod_of_nonneg _ (by decide)] at h
  omega
/-- the name with a letter at its place -/
def nm5 (st : List Nat) (p : Nat) (f : Int) (i : Nat) : List Nat := st.take p ++ [let26 (f + 5 * (0 + (i : Int)))] ++ st.drop p
def nm7 (st : List Nat) (f : Int) (i : Nat) : List Nat := st.take 1 ++ (List.replicate (1 + ((0 + (i : Int)) + f).fmod 4).toNat [let26 (f + 7 * (0 + (i : Int)))]).flatten
def nm1 (f : Int) (i : Nat) : List Nat := [let26 (f + 5 * (0 + (i : Int)))]
theorem sum_ones : ∀ st : List Nat, (st.map ((fun x : Str => x.length) ∘ fun c => S [c])).sum = st.length
  | [] => rfl
  | c :: st => by
    rw [List.map_cons, List.sum_cons, sum_ones st, List.length_cons]
    show (S [c]).length + _ = _
    rw [S_len]
    simp
    omega
theorem flat_len (c : Nat) : ∀ m : Nat, (List.replicate m [c]).flatten.length = m
  | 0 => rfl
  | m + 1 => by rw [List.replicate_succ, List.flatten_cons, List.length_append, flat_len c m]; simp; omega
theorem five_w {st : List Nat} (hst : ∀ c ∈ st, 97 ≤ c ∧ c ≤ 122) (hl : st.length ≤ 5) (p : Nat) (f : Int) (i : Nat) : Word (nm5 st p f i) := by
  have l1 : (nm5 st p f i).length = st.length + 1 := by
    unfold nm5
    simp only [List.length_append, List.length_take, List.length_drop, List.length_cons, List.length_nil]
    omega
  refine ⟨by omega, by omega, fun c hc => ?_⟩
  unfold nm5 at hc
  rcases List.mem_append.mp hc with hc | hc
  · rcases List.mem_append.mp hc with hc | hc
    · exact hst c (List.mem_of_mem_take hc)
    · rw [List.mem_singleton] at hc; rw [hc]; exact let26_ok _
  · exact hst c (List.mem_of_mem_drop hc)
theorem seven_w {st : List Nat} (hst : ∀ c ∈ st, 97 ≤ c ∧ c ≤ 122) (f : Int) (i : Nat) : Word (nm7 st f i) := by
  have b := fmod_nn (a := (0 + (i : Int)) + f) (b := 4) (by decide)
  have l1 : (nm7 st f i).length = min 1 st.length + (1 + ((0 + (i : Int)) + f).fmod 4).toNat := by
    unfold nm7
    rw [List.length_append, List.length_take, flat_len]
  refine ⟨by omega, by omega, fun c hc => ?_⟩
  unfold nm7 at hc
  rcases List.mem_append.mp hc with hc | hc
  · exact hst c (List.mem_of_mem_take hc)
  · obtain ⟨l, hl, hc⟩ := List.mem_flatten.mp hc
    rw [List.eq_of_mem_replicate hl, List.mem_singleton] at hc
    rw [hc]
    exact let26_ok _
theorem w__law_words : ∀ ds m k, ph__law_words ds m k → v__law_words (dstart 9 ds) m (endP k) := by
  rintro _ m k ⟨n, rfl, hn, hk⟩
  have asW : ∀ (g : Nat → List Nat), ((List.range n).map fun i => D.str (S (g i))) = ((List.range n).map g).map fun w => D.str (S w) := fun g => by rw [List.map_map]; rfl
  have fin : ∀ g : Nat → List Nat, (∀ i, Word (g i)) → ((List.range n).map g).Nodup → k (.lst ((List.range n).map fun i => D.str (S (g i)))) m := fun g hg nd => by
    rw [asW]
    refine hk _ (by rw [List.length_map, List.length_range]) nd fun w hw => ?_
    obtain ⟨i, _, rfl⟩ := List.mem_map.mp hw
    exact hg i
  have rb : ∀ n : Nat, n ≤ 26 → -(2 ^ 62) ≤ (n : Int) ∧ (n : Int) < 2 ^ 62 := fun n h => ⟨by omega, by omega⟩
  unfold v__law_words
  rw [abc_S, emp_S]
  simp only [ph__law_draw]
  walk_at "vc"
  refine ⟨pre_s (by omega) (by omega), fun r r0 r1 => ?_⟩
  walk_at "vc"
  refine ⟨⟨by omega, by omega⟩, by rw [rngD_len]; omega, ?_⟩
  rw [rng_map]
  refine lc_rel (fun _ y => ∃ c, y = .str (S [c]) ∧ 97 ≤ c ∧ c ≤ 122) _ _ (fun i hi k' _ hk => ?_) fun ys hys => ?_
  · walk_at "vc"
    refine ⟨pre_s (by omega) (by omega), fun r hr0 hr1 => ?_⟩
    walk_at "vc"
    rw [abc_at hr0 hr1]
    exact ⟨by decide, hk _ ⟨_, rfl, by omega, by omega⟩⟩
  have hlen := hys.len
  rw [List.length_range] at hlen
  obtain ⟨st, rfl⟩ := Al2.unmap (f := fun c => D.str (S [c])) (fun x y h => let ⟨c, h1, _⟩ := h; ⟨c, h1⟩) hys
  have hst : ∀ c ∈ st, 97 ≤ c ∧ c ≤ 122 := fun c hc => by
    obtain ⟨x, _, c', e, h⟩ := hys.mem _ (List.mem_map.mpr ⟨c, hc, rfl⟩)
    have e := D.str.inj e
    have := S_inj e
    simp at this
    subst this
    exact h
  rw [List.length_map] at hlen
  have hst5 : st.length ≤ 5 := by omega
  have e1 : (List.map (fun c => D.str (S [c])) st) = (st.map fun c => S [c]).map D.str := by rw [List.map_map]; rfl
  rw [List.nil_append, e1]
  walk_at "vc"
  refine ⟨?_, ?_⟩
  · rw [List.map_map, Nat.mul_zero, Nat.add_zero]
    exact Nat.le_trans (Nat.le_of_eq (sum_ones st)) (by omega)
  rw [join_one]
  walk_at "vc"
  refine ⟨by omega, pre_s (by omega) (by omega), fun p hp0 hp1 => ?_⟩
  obtain ⟨p, rfl⟩ : ∃ q : Nat, p = (q : Int) := ⟨p.toNat, by omega⟩
  refine ⟨pre_s (by omega) (by omega), fun f hf0 hf1 => ?_⟩
  refine ⟨pre_s (by omega) (by omega), fun w hw0 hw1 => ?_⟩
  walk_at "vc"
  refine ⟨rb n hn, by rw [rngD_len]; omega, ?_⟩
  rw [Int.toNat_natCast, rng_map]
  have labc : abc.length ≤ 1000000 := by decide
  have lst : st.length ≤ 1000000 := by omega
  refine lc_map (h := fun i => .str (S (nm5 st p f i))) _ _ (fun i hi k' _ hk => ?_) ?_
  · walk_at "vc"
    refine ⟨lst, cmul_l (by decide) (by decide), labc, ?_⟩
    rw [abc_mod]
    walk_at "vc"
    rw [cut_to, cut_from]
    refine ⟨?_, lst, ?_, hk⟩
    · simp; omega
    · simp; omega
  rw [List.nil_append]
  walk_at "vc"
  refine itP (fun _ => ?_) fun _ => fin _ (five_w hst hst5 p f) (nodup_rng fun i j hi hj e => ?_)
  · refine ⟨rb n hn, by simp; omega, ?_⟩
    refine lc_map (h := fun i => .str (S (nm7 st f i))) _ _ (fun i hi k' _ hk => ?_) ?_
    · have b := fmod_nn (a := (0 + (i : Int)) + f) (b := 4) (by decide)
      have w6 := (seven_w hst f i).2.1
      walk_at "vc"
      refine ⟨lst, cmul_l (by decide) (by decide), labc, ?_⟩
      rw [abc_mod]
      walk_at "vc"
      rw [show cutD st none (some 1) = st.take 1 from cut_to st 1]
      refine ⟨by omega, by omega, ?_, ?_, ?_⟩
      · rw [List.length_take, flat_len]; omega
      · exact Nat.le_trans w6 (by decide)
      · have e := cut_m6 w6
        unfold nm7 at e hk
        rw [e]
        exact hk
    rw [List.nil_append]
    have e7 : ((List.range n).map fun i => D.str (S (nm7 st f i))) = ((List.range n).map fun i => S (nm7 st f i)).map D.str := by rw [List.map_map]; rfl
    rw [e7]
    walk_at "vc"
    refine ⟨by rw [List.length_map, List.length_range]; omega, fun ns nd mem => itP (fun e => ?_) fun _ => ?_⟩
    · rw [← e7]
      have e : ns.length = n := by omega
      have nd7 : ((List.range n).map fun i => S (nm7 st f i)).Nodup := nodup_of (l := ns) (fun z => (mem z).symm) (by rw [List.length_map, List.length_range]; omega) nd
      have e2 : ((List.range n).map fun i => S (nm7 st f i)) = ((List.range n).map (nm7 st f)).map S := by rw [List.map_map]; rfl
      rw [e2, List.Nodup, List.pairwise_map] at nd7
      exact fin _ (seven_w hst f) (nd7.imp fun h e => h (by rw [e]))
    · refine ⟨rb n hn, by simp; omega, ?_⟩
      refine lc_map (h := fun i => .str (S (nm1 f i))) _ _ (fun i hi k' _ hk => ?_) ?_
      · walk_at "vc"
        refine ⟨cmul_l (by decide) (by decide), labc, ?_⟩
        rw [abc_mod]
        exact hk
      rw [List.nil_append]
      refine fin (nm1 f) (fun i => ⟨by simp [nm1], by simp [nm1], fun c hc => ?_⟩) (nodup_rng fun i j hi hj e => let26_inj rfl (by omega) (by omega) (by unfold nm1 at e; simpa using e))
      unfold nm1 at hc
      rw [List.mem_singleton] at hc
      rw [hc]
      exact let26_ok _
  · unfold nm5 at e
    have e1 := List.append_cancel_right e
    have e2 := List.append_cancel_left e1
    exact let26_inj rfl (by omega) (by omega) (by simpa using e2)

/-! ### names judged -/
def nmR (l : List Nat) : Bool := decide (1 ≤ l.length) && decide (l.length ≤ 6) && l.all fun c => decide (97 ≤ c) && decide (c ≤ 122)
/-- small letters, one to six, perhaps an apostrophe behind -/
def nmL (l : List Nat) : Bool := nmR (if l.drop (l.length - 1) = [39] then l.dropLast else l)
def isNm : D → Bool
  | .str z => nmL z.cps.toList
  | _ => false
theorem abc_mem (c : Nat) : decide (c ∈ abc) = (decide (97 ≤ c) && decide (c ≤ 122)) := by
  rw [← Bool.decide_and, decide_eq_decide]
  unfold abc
  rw [List.mem_map]
  constructor
  · rintro ⟨i, hi, rfl⟩
    have := List.mem_range.mp hi
    omega
  · rintro ⟨h1, h2⟩
    exact ⟨c - 97, List.mem_range.mpr (by omega), by omega⟩
theorem sIx_m1 (n d : Nat) : HT.sIx n d (some (-1)) = n - 1 := by
  show (if (-1 : Int) < 0 then (-1 + (n : Int)).toNat else min (-1 : Int).toNat n) = n - 1
  rw [if_pos (by decide)]
  omega
theorem cut_but {α : Type} (l : List α) : cutD l none (some (-1)) = l.dropLast := by
  unfold cutD
  rw [sIx_m1, HT.sIx_none, List.drop_zero, List.dropLast_eq_take, Nat.sub_zero]
theorem cut_last {α : Type} (l : List α) : cutD l (some (-1)) none = l.drop (l.length - 1) := by
  unfold cutD
  rw [sIx_m1, HT.sIx_none]
  exact List.take_of_length_le (by rw [List.length_drop]; exact Nat.le_refl _)
/-- the signs ahead of an apostrophe -/
def stem39 (l : List Nat) : List Nat := if l.drop (l.length - 1) = [39] then l.dropLast else l
theorem apo_S : ("'" : Str) = S [39] := by decide +kernel
theorem sgn_S (l : List Nat) : signs (S l) = l.map fun c => .str (S [c]) := rfl
/-- all([c in abc for c in text]) -/
theorem all_in {s : SL} {j : Nat} (hj : j < s.length) {m : Mem} {k : List D → Mem → Prop} (l : List Nat) (h : k ((l.map fun c => decide (97 ≤ c) && decide (c ≤ 122)).map D.bl) m) :
    lcV (gN j) vYes (vOp oInS (vVar j) (vC (.str (S abc)))) s (l.map fun c => .str (S [c])) [] m k := by
  refine lc_map (h := fun c => .bl (decide (97 ≤ c) && decide (c ≤ 122))) l [] (fun c hc k' _ hk => ?_) (by rw [List.map_map] at h; exact h)
  walk_at "vc"
  rw [List.getElem?_set_self hj]
  walk_at "vc"
  rw [inS_one, abc_mem]
  exact hk
/-- the judgement of the stem: 1 <= len(x) <= 6 and all([..]) -/
theorem nmR_in {s : SL} {j : Nat} (hj : j < s.length) {m : Mem} {k : KD} (l : List Nat) (hl : l.length ≤ 1000) (h : k (.bl (nmR l)) m) :
    l.length ≤ 1000000 ∧ (if (1 : Int) ≤ l.length then if (l.length : Int) ≤ 6 then (l.map fun c => D.str (S [c])).length ≤ 1000000 ∧ lcV (gN j) vYes (vOp oInS (vVar j) (vC (.str (S abc)))) s (l.map fun c => .str (S [c])) [] m (fun es m2 => onO (blsOf es) fun bs => k (.bl (bs.all id)) m2) else k (.bl false) m else k (.bl false) m) := by
  refine ⟨by omega, ?_⟩
  unfold nmR at h
  refine itP (fun h1 => itP (fun h2 => ⟨by rw [List.length_map]; omega, all_in hj l ?_⟩) fun h2 => ?_) fun h1 => ?_
  · rw [decide_eq_true (show 1 ≤ l.length by omega), decide_eq_true (show l.length ≤ 6 by omega), Bool.true_and, Bool.true_and] at h
    rw [blsOf_map]
    show k (.bl ((l.map _).all id)) m
    rw [List.all_map]
    exact h
  · rw [decide_eq_false (show ¬ l.length ≤ 6 by omega), Bool.and_false, Bool.false_and] at h
    exact h
  · rw [decide_eq_false (show ¬ 1 ≤ l.length by omega), Bool.false_and] at h
    exact h
def ph_is_name : P0 := fun ds m k => ∃ d, ds = [d] ∧ Pn d ∧ k (.bl (isNm d)) m
theorem l_is_name : ∀ ds m k, ph_is_name ds m k → ds.length = 1 := by rintro _ m k ⟨_, rfl, _⟩; rfl
/- def is_name, slots 0 text 1 letters 2 sign -/
@[reducible] def v_is_name : VS :=
  (vSeq (vIfS (vNot (tV (vIsi .str (vVar 0)))) (vRet (vC (.bl false))) vNext)
    (vSeq (vSet 1 (vIf (tV (vOp oEq (vSl (vVar 0) (vP (vUn oNeg (vC (.int 1)))) vNoP) (vC (.str "'")))) (vSl (vVar 0) vNoP (vP (vUn oNeg (vC (.int 1))))) (vVar 0)))
    (vRet (vAndV (vChain oLe oLe (vC (.int 1)) (vCB oLen (vCons (vVar 1) vNil)) (vC (.int 6))) (vCB oAll (vCons (vLc (vWalk (vVar 1)) (gN 2) vYes (vOp oInS (vVar 2) (vC (.str "abcdefghijklmnopqrstuvwxyz"))) [2]) vNil))))))


theorem w_is_name : ∀ ds m k, ph_is_name ds m k → v_is_name (dstart 3 ds) m (endP k) := by
  rintro _ m k ⟨d, rfl, h', hk⟩
  have h := h'
  obtain ⟨n, h⟩ := h
  unfold v_is_name
  rw [abc_S, apo_S]
  cases d with
  | non => walk_at "vc"; exact hk
  | bl b => walk_at "vc"; exact hk
  | int i => walk_at "vc"; exact hk
  | lst ds => walk_at "vc"; exact hk
  | tup ds => walk_at "vc"; exact hk
  | str z =>
    obtain ⟨l, rfl⟩ := S_of z
    have hl : l.length ≤ 1000 := by rw [← S_len]; exact h'.str
    walk_at "vc"
    have hk : k (.bl (nmR (stem39 l))) m := hk
    rw [cut_last, cut_but, sgn_S, sgn_S]
    refine ⟨by omega, itP (fun e => ⟨by omega, nmR_in (by simp) _ (by rw [List.length_dropLast]; omega) ?_⟩) fun e => nmR_in (by simp) _ hl ?_⟩
    · unfold stem39 at hk
      rw [if_pos (S_inj e)] at hk
      exact hk
    · unfold stem39 at hk
      rw [if_neg (fun z => e (by rw [z]))] at hk
      exact hk
  | _ => cases n <;> exact h.elim

/-! ### sums, products, order of fractions -/
def fadd (f g : Int × Int) : Int × Int := Fr.low (f.1 * g.2 + g.1 * f.2) (f.2 * g.2)
def fmul (f g : Int × Int) : Int × Int := Fr.low (f.1 * g.1) (f.2 * g.2)
def flt (f g : Int × Int) : Bool := decide (f.1 * g.2 < g.1 * f.2)
/-- of so many bits -/
def Bd (n : Nat) (f : Int × Int) : Prop := f.1.natAbs < 2 ^ n ∧ f.2.natAbs < 2 ^ n
theorem Bd.mono {n m : Nat} {f : Int × Int} (h : Bd n f) (l : n ≤ m) : Bd m f := ⟨Nat.lt_of_lt_of_le h.1 (Nat.pow_le_pow_right (by decide) l), Nat.lt_of_lt_of_le h.2 (Nat.pow_le_pow_right (by decide) l)⟩
theorem abs_mul {a b : Int} {n m : Nat} (ha : a.natAbs < 2 ^ n) (hb : b.natAbs < 2 ^ m) : (a * b).natAbs < 2 ^ (n + m) := by
  rw [Int.natAbs_mul, Nat.pow_add]
  exact Nat.mul_lt_mul'' ha hb
theorem Bd.mul {n m : Nat} {f g : Int × Int} (hf : Bd n f) (hg : Bd m g) (h1 : f.2 ≠ 0) (h2 : g.2 ≠ 0) : Bd (n + m) (fmul f g) := by
  have h := Fr.low_abs (a := f.1 * g.1) (b := f.2 * g.2) (Int.mul_ne_zero h1 h2)
  exact ⟨Nat.lt_of_le_of_lt h.1 (abs_mul hf.1 hg.1), Nat.lt_of_le_of_lt h.2 (abs_mul hf.2 hg.2)⟩
theorem Bd.add {n m : Nat} {f g : Int × Int} (hf : Bd n f) (hg : Bd m g) (h1 : f.2 ≠ 0) (h2 : g.2 ≠ 0) : Bd (n + m + 1) (fadd f g) := by
  have h := Fr.low_abs (a := f.1 * g.2 + g.1 * f.2) (b := f.2 * g.2) (Int.mul_ne_zero h1 h2)
  have a1 := abs_mul hf.1 hg.2
  have a2 : (g.1 * f.2).natAbs < 2 ^ (n + m) := by rw [Nat.add_comm n m]; exact abs_mul hg.1 hf.2
  have a3 := abs_mul hf.2 hg.2
  have e : 2 ^ (n + m + 1) = 2 ^ (n + m) + 2 ^ (n + m) := by rw [Nat.pow_succ]; omega
  refine ⟨Nat.lt_of_le_of_lt h.1 (Nat.lt_of_le_of_lt (Int.natAbs_add_le _ _) (by omega)), Nat.lt_of_le_of_lt h.2 (by omega)⟩

def ph_lowest : P0 := ph__law_low
theorem l_lowest : ∀ ds m k, ph_lowest ds m k → ds.length = 2 := l__law_low
/-- two fractions of at most 3000 bits -/
def ph_two (F : Int × Int → Int × Int → D) : P0 := fun ds m k => ∃ f g : Int × Int, ds = [frD f, frD g] ∧ f.2 ≠ 0 ∧ g.2 ≠ 0 ∧ Bd 3000 f ∧ Bd 3000 g ∧ k (F f g) m
theorem l_two {F : Int × Int → Int × Int → D} : ∀ ds m k, ph_two F ds m k → ds.length = 2 := by rintro _ m k ⟨_, _, rfl, _⟩; rfl
def ph_add : P0 := ph_two fun f g => frD (fadd f g)
def ph_multiply : P0 := ph_two fun f g => frD (fmul f g)
def ph_is_less : P0 := ph_two fun f g => .bl (flt f g)
theorem l_add : ∀ ds m k, ph_add ds m k → ds.length = 2 := l_two
theorem l_multiply : ∀ ds m k, ph_multiply ds m k → ds.length = 2 := l_two
theorem l_is_less : ∀ ds m k, ph_is_less ds m k → ds.length = 2 := l_two
/- def lowest, slots 0 top 1 under 2 part -/
@[reducible] def v_lowest : VS :=
  (vSeq (vSet 2 (vCall ph_divisor (vCons (vVar 0) (vCons (vVar 1) vNil))))
    (vSeq (vIfS (tV (vOp oLt (vVar 1) (vC (.int 0)))) (vSet 2 (vUn oNeg (vVar 2))) vNext)
    (vRet (vTup (vCons (vOp oFdiv (vVar 0) (vVar 2)) (vCons (vOp oFdiv (vVar 1) (vVar 2)) vNil))))))
/- def add, slots 0 one 1 other -/
@[reducible] def v_add : VS :=
  (vRet (vCall ph_lowest (vCons (vOp oAdd (vOp oMul (vOp oIx (vVar 0) (vC (.int 0))) (vOp oIx (vVar 1) (vC (.int 1)))) (vOp oMul (vOp oIx (vVar 1) (vC (.int 0))) (vOp oIx (vVar 0) (vC (.int 1))))) (vCons (vOp oMul (vOp oIx (vVar 0) (vC (.int 1))) (vOp oIx (vVar 1) (vC (.int 1)))) vNil))))
/- def multiply, slots 0 one 1 other -/
@[reducible] def v_multiply : VS :=
  (vRet (vCall ph_lowest (vCons (vOp oMul (vOp oIx (vVar 0) (vC (.int 0))) (vOp oIx (vVar 1) (vC (.int 0)))) (vCons (vOp oMul (vOp oIx (vVar 0) (vC (.int 1))) (vOp oIx (vVar 1) (vC (.int 1)))) vNil))))
/- def is_less, slots 0 one 1 other -/
@[reducible] def v_is_less : VS :=
  (vRet (vOp oLt (vOp oMul (vOp oIx (vVar 0) (vC (.int 0))) (vOp oIx (vVar 1) (vC (.int 1)))) (vOp oMul (vOp oIx (vVar 1) (vC (.int 0))) (vOp oIx (vVar 0) (vC (.int 1))))))


theorem w_lowest : ∀ ds m k, ph_lowest ds m k → v_lowest (dstart 3 ds) m (endP k) := w__law_low
theorem mul3 {a b : Int} (ha : a.natAbs < 2 ^ 3000) (hb : b.natAbs < 2 ^ 3000) : MulOk a b := cmul_x ha hb (by decide)
theorem w_is_less : ∀ ds m k, ph_is_less ds m k → v_is_less (dstart 2 ds) m (endP k) := by
  rintro _ m k ⟨f, g, rfl, h1, h2, bf, bg, hk⟩
  unfold v_is_less
  walk_at "vc"
  exact ⟨mul3 bf.1 bg.2, mul3 bg.1 bf.2, hk⟩
theorem den_ok {f g : Int × Int} (h1 : f.2 ≠ 0) (h2 : g.2 ≠ 0) (bf : Bd 3000 f) (bg : Bd 3000 g) : f.2 * g.2 ≠ 0 ∧ (f.2 * g.2).natAbs < 2 ^ 8000 := ⟨Int.mul_ne_zero h1 h2, Nat.lt_of_lt_of_le (abs_mul bf.2 bg.2) (Nat.pow_le_pow_right (by decide) (by decide))⟩
theorem w_add : ∀ ds m k, ph_add ds m k → v_add (dstart 2 ds) m (endP k) := by
  rintro _ m k ⟨f, g, rfl, h1, h2, bf, bg, hk⟩
  unfold v_add
  walk_at "vc"
  obtain ⟨d1, d2⟩ := den_ok h1 h2 bf bg
  exact ⟨mul3 bf.1 bg.2, mul3 bg.1 bf.2, mul3 bf.2 bg.2, d1, d2, hk⟩
theorem w_multiply : ∀ ds m k, ph_multiply ds m k → v_multiply (dstart 2 ds) m (endP k) := by
  rintro _ m k ⟨f, g, rfl, h1, h2, bf, bg, hk⟩
  unfold v_multiply
  walk_at "vc"
  obtain ⟨d1, d2⟩ := den_ok h1 h2 bf bg
  exact ⟨mul3 bf.1 bg.1, mul3 bf.2 bg.2, d1, d2, hk⟩

/-! ### negative, subtract -/
def fneg (f : Int × Int) : Int × Int := (-f.1, f.2)
def ph_negative : P0 := fun ds m k => ∃ f : Int × Int, ds = [frD f] ∧ k (frD (fneg f)) m
theorem l_negative : ∀ ds m k, ph_negative ds m k → ds.length = 1 := by rintro _ m k ⟨_, rfl, _⟩; rfl
/- def negative, slots 0 one -/
@[reducible] def v_negative : VS :=
  (vRet (vTup (vCons (vUn oNeg (vOp oIx (vVar 0) (vC (.int 0)))) (vCons (vOp oIx (vVar 0) (vC (.int 1))) vNil))))
/- def subtract, slots 0 one 1 other -/
theorem w_negative : ∀ ds m k, ph_negative ds m k → v_negative (dstart 1 ds) m (endP k) := by
  rintro _ m k ⟨f, rfl, hk⟩
  unfold v_negative
  walk_at "vc"
  exact hk
theorem Bd.neg {n : Nat} {f : Int × Int} (h : Bd n f) : Bd n (fneg f) := ⟨by show (-f.1).natAbs < _; rw [Int.natAbs_neg]; exact h.1, h.2⟩
/-! ### divide, never by 0 -/
/- def divide, slots 0 one 1 other -/
/-! ### fractions as rationals -/
abbrev rf (q : Rat) : Int × Int := (q.num, (q.den : Int))
abbrev qD (q : Rat) : D := frD (rf q)
theorem rf_ok (q : Rat) : Fr.Ok (rf q) := ⟨by show (0 : Int) < (q.den : Int); have := q.den_nz; omega, q.reduced⟩
theorem rf_nz (q : Rat) : (rf q).2 ≠ 0 := by have := (rf_ok q).1; show (rf q).2 ≠ 0; omega
theorem rf_div (q : Rat) : ((q.num : Int) : Rat) / ((q.den : Int) : Rat) = q := by
  rw [← Rat.divInt_eq_div]; exact (Rat.mk_eq_divInt (nz := q.den_nz) (c := q.reduced)).symm
theorem icast_ne {b : Int} (hb : b ≠ 0) : (b : Rat) ≠ 0 := fun h => hb (by have := Rat.intCast_inj.mp (h.trans Rat.intCast_zero.symm); exact this)
theorem low_rat {a b : Int} (hb : b ≠ 0) : Fr.low a b = rf ((a : Rat) / (b : Rat)) := by
  refine Fr.low_unique hb (rf_ok _) ?_
  have e := rf_div ((a : Rat) / (b : Rat))
  have h2 : ((((a : Rat) / (b : Rat)).den : Int) : Rat) ≠ 0 := icast_ne (rf_nz _)
  have hb' := icast_ne hb
  have : ((((a : Rat) / (b : Rat)).num : Int) : Rat) * (b : Rat) = (a : Rat) * ((((a : Rat) / (b : Rat)).den : Int) : Rat) := by
    generalize (((a : Rat) / (b : Rat)).num : Int) = n at e ⊢
    generalize ((((a : Rat) / (b : Rat)).den : Nat) : Int) = d at e h2 ⊢
    generalize ((n : Int) : Rat) = x at e ⊢
    generalize ((d : Int) : Rat) = y at e h2 ⊢
    grind
  exact Rat.intCast_inj.mp (by rw [Rat.intCast_mul, Rat.intCast_mul]; exact this)
theorem fadd_q (a b : Rat) : fadd (rf a) (rf b) = rf (a + b) := by
  unfold fadd
  rw [low_rat (Int.mul_ne_zero (rf_nz a) (rf_nz b))]
  congr 1
  have ha := rf_div a; have hb := rf_div b
  have h1 := icast_ne (rf_nz a); have h2 := icast_ne (rf_nz b)
  simp only [Rat.intCast_add, Rat.intCast_mul, rf] at h1 h2 ⊢
  grind
theorem fmul_q (a b : Rat) : fmul (rf a) (rf b) = rf (a * b) := by
  unfold fmul
  rw [low_rat (Int.mul_ne_zero (rf_nz a) (rf_nz b))]
  congr 1
  have ha := rf_div a; have hb := rf_div b
  have h1 := icast_ne (rf_nz a); have h2 := icast_ne (rf_nz b)
  simp only [Rat.intCast_mul, rf] at h1 h2 ⊢
  grind
theorem fneg_q (a : Rat) : fneg (rf a) = rf (-a) := by unfold fneg rf; rw [Rat.neg_num, Rat.neg_den]
theorem flt_q (a b : Rat) : flt (rf a) (rf b) = decide (a < b) := by unfold flt; exact decide_eq_decide.mpr (Rat.lt_iff a b).symm
/-- of so many bits -/
abbrev Bq (n : Nat) (q : Rat) : Prop := Bd n (rf q)
theorem Bq.add {n m : Nat} {a b : Rat} (h : Bq n a) (h' : Bq m b) : Bq (n + m + 1) (a + b) := by show Bd _ _; rw [← fadd_q]; exact Bd.add h h' (rf_nz a) (rf_nz b)
theorem Bq.mul {n m : Nat} {a b : Rat} (h : Bq n a) (h' : Bq m b) : Bq (n + m) (a * b) := by show Bd _ _; rw [← fmul_q]; exact Bd.mul h h' (rf_nz a) (rf_nz b)
theorem Bq.neg {n : Nat} {a : Rat} (h : Bq n a) : Bq n (-a) := by show Bd _ _; rw [← fneg_q]; exact ⟨by show (-a.num).natAbs < _; rw [Int.natAbs_neg]; exact h.1, h.2⟩
theorem Bq.frac {n : Nat} {a b : Int} (hb : b ≠ 0) (h1 : a.natAbs < 2 ^ n) (h2 : b.natAbs < 2 ^ n) : Bq n ((a : Rat) / (b : Rat)) := by
  show Bd _ _
  rw [← low_rat hb]
  have h := Fr.low_abs (a := a) (b := b) hb
  exact ⟨Nat.lt_of_le_of_lt h.1 h1, Nat.lt_of_le_of_lt h.2 h2⟩
theorem Bq.int {n : Nat} {a : Int} (hn : 0 < n) (h1 : a.natAbs < 2 ^ n) : Bq n (a : Rat) := ⟨h1, by show (1 : Int).natAbs < 2 ^ n; exact Nat.one_lt_two_pow (by omega)⟩
theorem num_zero {q : Rat} : q.num = 0 ↔ q = 0 := Rat.num_eq_zero
/-! the promises over rationals -/
section
variable {a b : Rat} {m : Mem} {k : KD} {x : KX}
theorem pq_add (h1 : Bq 3000 a) (h2 : Bq 3000 b) (hk : k (qD (a + b)) m) : ph_add [qD a, qD b] m k := ⟨rf a, rf b, rfl, rf_nz a, rf_nz b, h1, h2, by show k (frD (fadd (rf a) (rf b))) m; rw [fadd_q]; exact hk⟩
theorem pq_mul (h1 : Bq 3000 a) (h2 : Bq 3000 b) (hk : k (qD (a * b)) m) : ph_multiply [qD a, qD b] m k := ⟨rf a, rf b, rfl, rf_nz a, rf_nz b, h1, h2, by show k (frD (fmul (rf a) (rf b))) m; rw [fmul_q]; exact hk⟩
theorem pq_less (h1 : Bq 3000 a) (h2 : Bq 3000 b) (hk : k (.bl (decide (a < b))) m) : ph_is_less [qD a, qD b] m k := ⟨rf a, rf b, rfl, rf_nz a, rf_nz b, h1, h2, by show k (.bl (flt (rf a) (rf b))) m; rw [flt_q]; exact hk⟩
end
theorem qD_inj {a b : Rat} (h : qD a = qD b) : a = b := by
  simp only [frD, rf, D.tup.injEq, List.cons.injEq, D.int.injEq, and_true] at h
  exact Rat.ext h.1 (by omega)
/-! ### plain data without booleans, compared: equal as data -/
mutual
def cE : D → Bool
  | .non => true
  | .int _ => true
  | .str z => PyData.strOk z
  | .lst ds => cEs ds
  | .tup ds => cEs ds
  | _ => false
def cEs : List D → Bool
  | [] => true
  | d :: ds => cE d && cEs ds
end
mutual
/-- how deep -/
def dpD : D → Nat
  | .lst ds => dpDs ds + 1
  | .tup ds => dpDs ds + 1
  | _ => 0
def dpDs : List D → Nat
  | [] => 0
  | d :: ds => max (dpD d) (dpDs ds)
end
mutual
theorem cE_py : ∀ d : D, cE d = true → ∃ p, toPy d = some p ∧ p.canLay0 = true ∧ p.depth = dpD d
  | .non, _ => ⟨.none, rfl, rfl, rfl⟩
  | .int i, _ => ⟨.int i, rfl, rfl, rfl⟩
  | .str z, h => ⟨.str z, rfl, h, rfl⟩
  | .lst ds, h => by
    obtain ⟨ps, h1, h2, h3⟩ := cEs_py ds h
    exact ⟨.list ps, by simp only [toPy, h1]; rfl, by simp only [PyData.canLay0]; exact h2, by simp only [PyData.depth, dpD, h3]⟩
  | .tup ds, h => by
    obtain ⟨ps, h1, h2, h3⟩ := cEs_py ds h
    exact ⟨.tuple ps, by simp only [toPy, h1]; rfl, by simp only [PyData.canLay0]; exact h2, by simp only [PyData.depth, dpD, h3]⟩
  | .bl _, h => by simp [cE] at h
  | .pr _, h => by simp [cE] at h
  | .dic _, h => by simp [cE] at h
  | .dit _, h => by simp [cE] at h
  | .obj _ _, h => by simp [cE] at h
  | .feed, h => by simp [cE] at h
  | .lat _ _, h => by simp [cE] at h
  | .ref _, h => by simp [cE] at h
  | .exn _ _ _, h => by simp [cE] at h
  | .clo _ _ _ _ _, h => by simp [cE] at h
  | .lmb _ _ _ _, h => by simp [cE] at h
  | .oth _, h => by simp [cE] at h
theorem cEs_py : ∀ ds : List D, cEs ds = true → ∃ ps, toPyL ds = some ps ∧ PyData.canLayAll0 ps = true ∧ PyData.depthAll ps = dpDs ds
  | [], _ => ⟨[], rfl, rfl, rfl⟩
  | d :: ds, h => by
    simp only [cEs, Bool.and_eq_true] at h
    obtain ⟨p, h1, h2, h3⟩ := cE_py d h.1
    obtain ⟨ps, h4, h5, h6⟩ := cEs_py ds h.2
    exact ⟨p :: ps, by simp only [toPyL, h1, h4], by simp only [PyData.canLayAll0, h2, h5]; rfl, by simp only [PyData.depthAll, h3, h6, dpDs]⟩
end
theorem toPy_lst {ds : List D} {p : PyData} (h : toPy (.lst ds) = some p) : ∃ ps, toPyL ds = some ps ∧ p = .list ps := by
  simp only [toPy] at h
  cases e : toPyL ds with
  | none => rw [e] at h; cases h
  | some ps => rw [e] at h; cases h; exact ⟨ps, rfl, rfl⟩
theorem toPy_tup {ds : List D} {p : PyData} (h : toPy (.tup ds) = some p) : ∃ ps, toPyL ds = some ps ∧ p = .tuple ps := by
  simp only [toPy] at h
  cases e : toPyL ds with
  | none => rw [e] at h; cases h
  | some ps => rw [e] at h; cases h; exact ⟨ps, rfl, rfl⟩
theorem toPyL_cons {d : D} {ds : List D} {p : List PyData} (h : toPyL (d :: ds) = some p) : ∃ q qs, toPy d = some q ∧ toPyL ds = some qs ∧ p = q :: qs := by
  simp only [toPyL] at h
  cases e : toPy d with
  | none => rw [e] at h; cases h
  | some q => cases e2 : toPyL ds with
    | none => rw [e, e2] at h; cases h
    | some qs => rw [e, e2] at h; cases h; exact ⟨q, qs, rfl, rfl, rfl⟩
mutual
theorem cE_eqv : ∀ (x y : D) (p q : PyData), cE x = true → cE y = true → toPy x = some p → toPy y = some q → (PyData.eqv p q = true ↔ x = y)
  | .non, y, p, q, _, hy, hp, hq => by
    cases hp
    cases y with
    | lst ys => obtain ⟨ps, _, rfl⟩ := toPy_lst hq; simp [PyData.eqv]
    | tup ys => obtain ⟨ps, _, rfl⟩ := toPy_tup hq; simp [PyData.eqv]
    | _ => first | (cases hq; simp [PyData.eqv]; done) | (simp [cE] at hy; done)
  | .int i, y, p, q, _, hy, hp, hq => by
    cases hp
    cases y with
    | lst ys => obtain ⟨ps, _, rfl⟩ := toPy_lst hq; simp [PyData.eqv]
    | tup ys => obtain ⟨ps, _, rfl⟩ := toPy_tup hq; simp [PyData.eqv]
    | _ => first | (cases hq; simp [PyData.eqv]; done) | (simp [cE] at hy; done)
  | .str i, y, p, q, _, hy, hp, hq => by
    cases hp
    cases y with
    | lst ys => obtain ⟨ps, _, rfl⟩ := toPy_lst hq; simp [PyData.eqv]
    | tup ys => obtain ⟨ps, _, rfl⟩ := toPy_tup hq; simp [PyData.eqv]
    | _ => first | (cases hq; simp [PyData.eqv]; done) | (simp [cE] at hy; done)
  | .lst xs, y, p, q, hx, hy, hp, hq => by
    obtain ⟨ps, hp2, rfl⟩ := toPy_lst hp
    cases y with
    | lst ys =>
      obtain ⟨qs, hq2, rfl⟩ := toPy_lst hq
      simp only [PyData.eqv, D.lst.injEq]
      exact cEs_eqv xs ys ps qs (by simpa only [cE] using hx) (by simpa only [cE] using hy) hp2 hq2
    | tup ys => obtain ⟨qs, _, rfl⟩ := toPy_tup hq; simp [PyData.eqv]
    | _ => first | (cases hq; simp [PyData.eqv]; done) | (simp [cE] at hy; done)
  | .tup xs, y, p, q, hx, hy, hp, hq => by
    obtain ⟨ps, hp2, rfl⟩ := toPy_tup hp
    cases y with
    | tup ys =>
      obtain ⟨qs, hq2, rfl⟩ := toPy_tup hq
      simp only [PyData.eqv, D.tup.injEq]
      exact cEs_eqv xs ys ps qs (by simpa only [cE] using hx) (by simpa only [cE] using hy) hp2 hq2
    | lst ys => obtain ⟨qs, _, rfl⟩ := toPy_lst hq; simp [PyData.eqv]
    | _ => first | (cases hq; simp [PyData.eqv]; done) | (simp [cE] at hy; done)
  | .bl _, _, _, _, h, _, _, _ => by simp [cE] at h
  | .pr _, _, _, _, h, _, _, _ => by simp [cE] at h
  | .dic _, _, _, _, h, _, _, _ => by simp [cE] at h
  | .dit _, _, _, _, h, _, _, _ => by simp [cE] at h
  | .obj _ _, _, _, _, h, _, _, _ => by simp [cE] at h
  | .feed, _, _, _, h, _, _, _ => by simp [cE] at h
  | .lat _ _, _, _, _, h, _, _, _ => by simp [cE] at h
  | .ref _, _, _, _, h, _, _, _ => by simp [cE] at h
  | .exn _ _ _, _, _, _, h, _, _, _ => by simp [cE] at h
  | .clo _ _ _ _ _, _, _, _, h, _, _, _ => by simp [cE] at h
  | .lmb _ _ _ _, _, _, _, h, _, _, _ => by simp [cE] at h
  | .oth _, _, _, _, h, _, _, _ => by simp [cE] at h
theorem cEs_eqv : ∀ (x y : List D) (p q : List PyData), cEs x = true → cEs y = true → toPyL x = some p → toPyL y = some q → (PyData.eqvAll p q = true ↔ x = y)
  | [], [], p, q, _, _, hp, hq => by cases hp; cases hq; simp [PyData.eqvAll]
  | [], y :: ys, p, q, _, _, hp, hq => by cases hp; obtain ⟨a, b, _, _, rfl⟩ := toPyL_cons hq; simp [PyData.eqvAll]
  | x :: xs, [], p, q, _, _, hp, hq => by cases hq; obtain ⟨a, b, _, _, rfl⟩ := toPyL_cons hp; simp [PyData.eqvAll]
  | x :: xs, y :: ys, p, q, hx, hy, hp, hq => by
    obtain ⟨a, as, h1, h2, rfl⟩ := toPyL_cons hp
    obtain ⟨b, bs, h3, h4, rfl⟩ := toPyL_cons hq
    simp only [cEs, Bool.and_eq_true] at hx hy
    simp only [PyData.eqvAll, Bool.and_eq_true, List.cons.injEq, cE_eqv x y a b hx.1 hy.1 h1 h3, cEs_eqv xs ys as bs hx.2 hy.2 h2 h4]
end
theorem cE_now {m : Mem} {x : D} (h : cE x = true) : now m x = x := by
  cases x with
  | ref p => simp [cE] at h
  | _ => rfl
/-- two plain data compared -/
theorem eqP_D {m : Mem} {x y : D} {k : Bool → Prop} {c : Bool} (hx : cE x = true) (hy : cE y = true) (dx : dpD x ≤ 64) (dy : dpD y ≤ 64) (hc : c = true ↔ x = y) (hk : k c) : eqP m x y k := by
  obtain ⟨p, h1, h2, h3⟩ := cE_py x hx
  obtain ⟨q, h4, h5, h6⟩ := cE_py y hy
  refine ⟨p, q, by rw [cE_now hx]; exact h1, by rw [cE_now hy]; exact h4, ?_, ?_, ?_⟩
  · simp only [SeqAt.shaped, h2, h3, Bool.true_and, decide_eq_true_eq]; exact dx
  · simp only [SeqAt.shaped, h5, h6, Bool.true_and, decide_eq_true_eq]; exact dy
  · have e := cE_eqv x y p q hx hy h1 h4
    have : PyData.eqv p q = c := by rw [Bool.eq_iff_iff]; exact e.trans hc.symm
    rw [this]; exact hk
theorem cEs_of {ds : List D} (h : ∀ d ∈ ds, cE d = true) : cEs ds = true := by
  induction ds with
  | nil => rfl
  | cons d ds ih => simp only [cEs, Bool.and_eq_true]; exact ⟨h d List.mem_cons_self, ih fun x hx => h x (List.mem_cons_of_mem _ hx)⟩
theorem dpDs_of {n : Nat} {ds : List D} (h : ∀ d ∈ ds, dpD d ≤ n) : dpDs ds ≤ n := by
  induction ds with
  | nil => simp [dpDs]
  | cons d ds ih => simp only [dpDs]; exact Nat.max_le.mpr ⟨h d List.mem_cons_self, ih fun x hx => h x (List.mem_cons_of_mem _ hx)⟩

/-! ### dicts of fractions by names -/
abbrev Nm := List Nat
abbrev Al := List (Nm × Rat)
def alD (ps : Al) : List (Key × D) := ps.map fun p => (.inr (S p.1), qD p.2)
/-- the value of a name -/
def getA (ps : Al) (n : Nm) : Option Rat := (ps.find? fun p => decide (p.1 = n)).map (·.2)
def putA (ps : Al) (n : Nm) (q : Rat) : Al := if (ps.any fun p => decide (p.1 = n)) = true then ps.map (fun p => if p.1 = n then (p.1, q) else p) else ps ++ [(n, q)]
theorem key_S {a b : Nm} : ((Sum.inr (S a) : Key) = .inr (S b)) ↔ a = b := ⟨fun h => S_inj (Sum.inr.inj h), fun h => by rw [h]⟩
theorem val_al (ps : Al) (n : Nm) : valD (alD ps) (.inr (S n)) = (getA ps n).map qD := by
  induction ps with
  | nil => rfl
  | cons p ps ih =>
    unfold valD alD getA at ih ⊢
    rw [List.map_cons, List.find?_cons, List.find?_cons]
    by_cases e : p.1 = n
    · simp [e]
    · have e' : ¬ ((Sum.inr (S p.1) : Key) = .inr (S n)) := fun z => e (key_S.mp z)
      simp only [e, e', decide_false]
      exact ih
theorem any_al (ps : Al) (n : Nm) : ((alD ps).any fun kv => decide (kv.1 = .inr (S n))) = ps.any fun p => decide (p.1 = n) := by
  unfold alD
  rw [List.any_map]
  congr 1
  funext p
  simp [key_S]
theorem put_al (ps : Al) (n : Nm) (q : Rat) : putD (alD ps) (.inr (S n)) (qD q) = alD (putA ps n q) := by
  unfold putD putA
  rw [any_al]
  split
  · unfold alD
    rw [List.map_map, List.map_map]
    congr 1
    funext p
    by_cases e : p.1 = n <;> simp [key_S, e]
  · simp [alD]
theorem putA_mem {ps : Al} {n : Nm} {q : Rat} {p : Nm × Rat} (h : p ∈ putA ps n q) : p = (n, q) ∨ p ∈ ps := by
  unfold putA at h
  split at h
  · obtain ⟨x, hx, e⟩ := List.mem_map.mp h
    split at e
    · rename_i e2; left; rw [← e, e2]
    · right; rw [← e]; exact hx
  · rcases List.mem_append.mp h with h | h
    · exact .inr h
    · exact .inl (List.mem_singleton.mp h)
theorem putA_new {ps : Al} {n : Nm} {q : Rat} (h : n ∉ ps.map (·.1)) : putA ps n q = ps ++ [(n, q)] := by
  unfold putA
  rw [if_neg]
  intro z
  obtain ⟨x, hx, e⟩ := List.any_eq_true.mp z
  exact h (List.mem_map.mpr ⟨x, hx, by simpa using e⟩)
theorem merge_al : ∀ (ps acc : Al), ((acc ++ ps).map (·.1)).Nodup → mergeD (alD acc) (alD ps) = alD (acc ++ ps)
  | [], acc, _ => by simp [mergeD, alD]
  | p :: ps, acc, h => by
    have e : mergeD (alD acc) (alD (p :: ps)) = mergeD (putD (alD acc) (.inr (S p.1)) (qD p.2)) (alD ps) := rfl
    rw [e, put_al, putA_new (fun z => ?_), merge_al ps (acc ++ [p]) (by simpa using h)]
    · simp
    · rw [List.map_append, List.map_cons, List.nodup_append] at h
      exact h.2.2 _ z _ List.mem_cons_self rfl
theorem merge_al0 {ps : Al} (h : (ps.map (·.1)).Nodup) : mergeD [] (alD ps) = alD ps := merge_al ps [] (by simpa using h)

/-! ### texts read symbol by symbol (plain) -/
def cut (l : List Nat) (i j : Nat) : List Nat := (l.drop i).take (j - i)
def sg (neg : Bool) (q : Rat) : Rat := if neg = true then -q else q
def addA (ps : Al) (w : Nm) (q : Rat) : Al := putA ps w ((getA ps w).getD 0 + q)
/-! the law's reading: a list of symbols, a walk over it -/
/-- the state of the law's sum -/
structure RS where
  ps : Al
  side : Int
  sign : Int
  rate : Rat
  held : Bool
  /-- the first relation -/
  rel : Option (List Nat)
def RS.put (r : RS) (w : Nm) : RS := { r with ps := addA r.ps w (((r.side * r.sign : Int) : Rat) * r.rate), rate := 1, held := false }
def RS.flush (r : RS) : RS := if r.held = true then r.put [] else r
/-! ### the program's reading is the law's -/
/-- after a term: the law's sum, the number not yet put -/
def After (R : RS) (w : Nm) (q : Rat) (R1 : RS) : Prop := R1.flush = ⟨addA R.ps w (((R.side * R.sign : Int) : Rat) * q), R.side, R.sign, 1, false, R.rel⟩
/-! ### .. loops, sums, both sides -/
abbrev KNd (ps : Al) : Prop := (ps.map (·.1)).Nodup
/-- the law's dict as the sides' dicts -/
structure Cmb (C : Al → Al) (sd : Int) : Prop where
  add : ∀ ps w q, KNd ps → C (addA ps w q) = addA (C ps) w ((sd : Rat) * q)
theorem Cmb.id : Cmb (fun ps => ps) 1 := ⟨fun ps w q _ => by rw [show ((1 : Int) : Rat) * q = q by grind]⟩
def sgI (neg : Bool) : Int := if neg = true then -1 else 1
theorem sg_I (neg : Bool) (q : Rat) : ((sgI neg : Int) : Rat) * q = sg neg q := by
  cases neg <;> simp [sgI, sg] <;> grind
theorem After.c {C : Al → Al} {sd : Int} {R R1 : RS} {w : Nm} {q : Rat} {ps : Al} {neg : Bool} {rl : Option (List Nat)} (hC : Cmb C sd) (hp : KNd ps) (h1 : R.ps = C ps) (h2 : R.side = sd) (h3 : R.sign = sgI neg) (h4 : R.rel = rl) (h : After R w q R1) : R1.flush = ⟨C (addA ps w (sg neg q)), sd, sgI neg, 1, false, rl⟩ := by
  unfold After at h
  rw [h, h1, h2, h3, h4, hC.add _ _ _ hp, ← sg_I, Rat.intCast_mul]
  congr 2
  grind
/-! both sides in one -/
/-! ### why: an exception told by its tag and its field -/
def fldK (t : Str) (fs : List (Str × D)) (k : D → Prop) : Prop :=
  if inV (.str t) [.str "InvalidRatio", .str "InvalidTimes", .str "InvalidLimit"] = true then ∃ d, fs.lookup ("given" : Str) = some d ∧ k d
  else if inV (.str t) [.str "InvalidRow", .str "InvalidTie", .str "InvalidWish", .str "ParseError"] = true then ∃ d, fs.lookup ("at" : Str) = some d ∧ k d
  else if inV (.str t) [.str "InvalidName", .str "SameName", .str "UnknownName"] = true then ∃ d, fs.lookup ("name" : Str) = some d ∧ k d
  else if inV (.str t) [.str "DuplicateLabel", .str "UnknownLabel"] = true then ∃ d, fs.lookup ("label" : Str) = some d ∧ k d
  else if t = "NotTied" then ∃ d, fs.lookup ("many" : Str) = some d ∧ k d
  else if t = "CapacityExceeded" then ∃ d, fs.lookup ("most" : Str) = some d ∧ k d
  else if t = "InvalidCommand" then ∃ d, fs.lookup ("first" : Str) = some d ∧ k d
  else k .non
def ph__law_field (a dd : Addr) : P0 := fun ds m k => ∃ (fs : List (Str × D)) (t : Str), ds = [.exn a dd fs] ∧ fs.lookup ("tag" : Str) = some (.str t) ∧ fldK t fs fun d => k d m
theorem l__law_field : ∀ a dd ds m k, ph__law_field a dd ds m k → ds.length = 1 := by rintro a dd _ m k ⟨_, _, rfl, _⟩; rfl
/- def _law_field, slots 0 _law_e -/
@[reducible] def v__law_field (a dd : Addr) : VS :=
  (vSeq (vIfS (tV (vOp oInL (vXf a dd "tag" (vVar 0)) (vTup (vCons (vC (.str "InvalidRatio")) (vCons (vC (.str "InvalidTimes")) (vCons (vC (.str "InvalidLimit")) vNil)))))) (vRet (vXf a dd "given" (vVar 0))) vNext)
    (vSeq (vIfS (tV (vOp oInL (vXf a dd "tag" (vVar 0)) (vTup (vCons (vC (.str "InvalidRow")) (vCons (vC (.str "InvalidTie")) (vCons (vC (.str "InvalidWish")) (vCons (vC (.str "ParseError")) vNil))))))) (vRet (vXf a dd "at" (vVar 0))) vNext)
    (vSeq (vIfS (tV (vOp oInL (vXf a dd "tag" (vVar 0)) (vTup (vCons (vC (.str "InvalidName")) (vCons (vC (.str "SameName")) (vCons (vC (.str "UnknownName")) vNil)))))) (vRet (vXf a dd "name" (vVar 0))) vNext)
    (vSeq (vIfS (tV (vOp oInL (vXf a dd "tag" (vVar 0)) (vTup (vCons (vC (.str "DuplicateLabel")) (vCons (vC (.str "UnknownLabel")) vNil))))) (vRet (vXf a dd "label" (vVar 0))) vNext)
    (vSeq (vIfS (tV (vOp oEq (vXf a dd "tag" (vVar 0)) (vC (.str "NotTied")))) (vRet (vXf a dd "many" (vVar 0))) vNext)
    (vSeq (vIfS (tV (vOp oEq (vXf a dd "tag" (vVar 0)) (vC (.str "CapacityExceeded")))) (vRet (vXf a dd "most" (vVar 0))) vNext)
    (vRet (vIf (tV (vOp oEq (vXf a dd "tag" (vVar 0)) (vC (.str "InvalidCommand")))) (vXf a dd "first" (vVar 0)) (vC .non)))))))))
/- def _law_why, slots 0 _law_ask 1 _law_told 2 _law_e -/
@[reducible] def v__law_why (ask : VE) : VS :=
  (vSeq (vSet 1 (vTup (vCons (vC (.str "")) (vCons (vC .non) vNil))))
    (vSeq (vTry 2 (vSet 1 (vTup (vCons (vC (.str "")) (vCons ask vNil)))) [(mt_0, fun a dd => (vSet 1 (vTup (vCons (vXf a dd "tag" (vVar 2)) (vCons (vCall (ph__law_field a dd) (vCons (vVar 2) vNil)) vNil))))), (mt_1, fun a dd => (vSet 1 (vTup (vCons (vXf a dd "tag" (vVar 2)) (vCons (vC .non) vNil)))))])
    (vRet (vVar 1))))


theorem w__law_field : ∀ a dd ds m k, ph__law_field a dd ds m k → v__law_field a dd (dstart 1 ds) m (endP k) := by
  rintro a dd _ m k ⟨fs, t, rfl, ht, hk⟩
  unfold fldK at hk
  unfold v__law_field
  walk_at "vc"
  refine ⟨fs, rfl, _, ht, ?_⟩
  walk_at "vc"
  refine itP (fun e => ?_) (fun e => ?_)
  · rw [if_pos e] at hk; obtain ⟨d, h1, h2⟩ := hk; exact ⟨fs, rfl, d, h1, h2⟩
  rw [if_neg e] at hk
  refine ⟨fs, rfl, _, ht, ?_⟩
  walk_at "vc"
  refine itP (fun e => ?_) (fun e => ?_)
  · rw [if_pos e] at hk; obtain ⟨d, h1, h2⟩ := hk; exact ⟨fs, rfl, d, h1, h2⟩
  rw [if_neg e] at hk
  refine ⟨fs, rfl, _, ht, ?_⟩
  walk_at "vc"
  refine itP (fun e => ?_) (fun e => ?_)
  · rw [if_pos e] at hk; obtain ⟨d, h1, h2⟩ := hk; exact ⟨fs, rfl, d, h1, h2⟩
  rw [if_neg e] at hk
  refine ⟨fs, rfl, _, ht, ?_⟩
  walk_at "vc"
  refine itP (fun e => ?_) (fun e => ?_)
  · rw [if_pos e] at hk; obtain ⟨d, h1, h2⟩ := hk; exact ⟨fs, rfl, d, h1, h2⟩
  rw [if_neg e] at hk
  refine ⟨fs, rfl, _, ht, ?_⟩
  walk_at "vc"
  refine itP (fun e => ?_) (fun e => ?_)
  · rw [if_pos e] at hk; obtain ⟨d, h1, h2⟩ := hk; exact ⟨fs, rfl, d, h1, h2⟩
  rw [if_neg e] at hk
  refine ⟨fs, rfl, _, ht, ?_⟩
  walk_at "vc"
  refine itP (fun e => ?_) (fun e => ?_)
  · rw [if_pos e] at hk; obtain ⟨d, h1, h2⟩ := hk; exact ⟨fs, rfl, d, h1, h2⟩
  rw [if_neg e] at hk
  refine ⟨fs, rfl, _, ht, ?_⟩
  walk_at "vc"
  refine itP (fun e => ?_) (fun e => ?_)
  · rw [if_pos e] at hk; obtain ⟨d, h1, h2⟩ := hk; exact ⟨fs, rfl, d, h1, h2⟩
  rw [if_neg e] at hk
  exact hk
/-! ### why: any exception of one field, told; no exception -/
/-- an exception of the class C whose field f is d -/
abbrev exX (C f : Str) (d : D) : XD := ⟨C, [("tag", .str C), (f, d)]⟩
theorem tag_x {C f : Str} {d : D} : List.lookup ("tag" : Str) [(("tag" : Str), D.str C), (f, d)] = some (.str C) := by simp [List.lookup]
theorem fld_x {C f : Str} {d : D} (hf : (f == ("tag" : Str)) = false) : List.lookup f [(("tag" : Str), D.str C), (f, d)] = some d := by simp [List.lookup, hf]
theorem why_x {C f : Str} {d : D} {ask : VE} {c : Option D} {m : Mem} {k : KD} (Q : Mem → Prop) (hc : List.lookup C mt_0 = some true) (hf : ∀ k : D → Prop, k d → fldK C [("tag", .str C), (f, d)] k) (h : ∀ (kk : KD) (x : KX), (∀ m', Q m' → x (exX C f d) m') → ask [c, some (.tup [.str "", .non]), none] m kk x) (hk : ∀ m', Q m' → k (.tup [.str C, d]) m') : v__law_why ask [c, none, none] m (endP k) := by
  unfold v__law_why
  walk_at "vc"
  refine h _ _ fun m' hm => ?_
  show onB (List.lookup C mt_0) _ _
  rw [hc, onB_1]
  intro a dd
  refine ⟨_, rfl, _, tag_x, ⟨_, _, rfl, tag_x, ?_⟩⟩
  exact hf _ (hk m' hm)
/-! the fields -/
theorem fldK_at {C : Str} {d : D} (h1 : inV (.str C) [.str "InvalidRatio", .str "InvalidTimes", .str "InvalidLimit"] = false) (h2 : inV (.str C) [.str "InvalidRow", .str "InvalidTie", .str "InvalidWish", .str "ParseError"] = true) (k : D → Prop) (hk : k d) : fldK C [("tag", .str C), ("at", d)] k := by
  unfold fldK
  rw [if_neg (by rw [h1]; decide), if_pos h2]
  exact ⟨d, fld_x (by decide +kernel), hk⟩
/-! plain data compared with itself -/
mutual
def cB : D → Bool
  | .non => true
  | .bl _ => true
  | .int _ => true
  | .str z => PyData.strOk z
  | .lst ds => cBs ds
  | .tup ds => cBs ds
  | _ => false
def cBs : List D → Bool
  | [] => true
  | d :: ds => cB d && cBs ds
end
mutual
theorem cB_py : ∀ d : D, cB d = true → ∃ p, toPy d = some p ∧ p.canLay0 = true ∧ p.depth = dpD d ∧ PyData.eqv p p = true
  | .non, _ => ⟨.none, rfl, rfl, rfl, rfl⟩
  | .bl i, _ => ⟨.bool i, rfl, rfl, rfl, by simp [PyData.eqv]⟩
  | .int i, _ => ⟨.int i, rfl, rfl, rfl, by simp [PyData.eqv]⟩
  | .str z, h => ⟨.str z, rfl, h, rfl, by simp [PyData.eqv]⟩
  | .lst ds, h => by
    obtain ⟨ps, h1, h2, h3, h4⟩ := cBs_py ds h
    exact ⟨.list ps, by simp only [toPy, h1]; rfl, by simp only [PyData.canLay0]; exact h2, by simp only [PyData.depth, dpD, h3], by simp only [PyData.eqv]; exact h4⟩
  | .tup ds, h => by
    obtain ⟨ps, h1, h2, h3, h4⟩ := cBs_py ds h
    exact ⟨.tuple ps, by simp only [toPy, h1]; rfl, by simp only [PyData.canLay0]; exact h2, by simp only [PyData.depth, dpD, h3], by simp only [PyData.eqv]; exact h4⟩
  | .pr _, h => by simp [cB] at h
  | .dic _, h => by simp [cB] at h
  | .dit _, h => by simp [cB] at h
  | .obj _ _, h => by simp [cB] at h
  | .feed, h => by simp [cB] at h
  | .lat _ _, h => by simp [cB] at h
  | .ref _, h => by simp [cB] at h
  | .exn _ _ _, h => by simp [cB] at h
  | .clo _ _ _ _ _, h => by simp [cB] at h
  | .lmb _ _ _ _, h => by simp [cB] at h
  | .oth _, h => by simp [cB] at h
theorem cBs_py : ∀ ds : List D, cBs ds = true → ∃ ps, toPyL ds = some ps ∧ PyData.canLayAll0 ps = true ∧ PyData.depthAll ps = dpDs ds ∧ PyData.eqvAll ps ps = true
  | [], _ => ⟨[], rfl, rfl, rfl, rfl⟩
  | d :: ds, h => by
    simp only [cBs, Bool.and_eq_true] at h
    obtain ⟨p, h1, h2, h3, h7⟩ := cB_py d h.1
    obtain ⟨ps, h4, h5, h6, h8⟩ := cBs_py ds h.2
    exact ⟨p :: ps, by simp only [toPyL, h1, h4], by simp only [PyData.canLayAll0, h2, h5]; rfl, by simp only [PyData.depthAll, h3, h6, dpDs], by simp only [PyData.eqvAll, h7, h8]; rfl⟩
end
theorem cB_now {m : Mem} {x : D} (h : cB x = true) : now m x = x := by
  cases x with
  | ref p => simp [cB] at h
  | _ => rfl
theorem eqP_refl {m : Mem} {x : D} {k : Bool → Prop} (hx : cB x = true) (dx : dpD x ≤ 64) (hk : k true) : eqP m x x k := by
  obtain ⟨p, h1, h2, h3, h4⟩ := cB_py x hx
  have sh : SeqAt.shaped p = true := by simp only [SeqAt.shaped, h2, h3, Bool.true_and, decide_eq_true_eq]; exact dx
  exact ⟨p, p, by rw [cB_now hx]; exact h1, by rw [cB_now hx]; exact h1, sh, sh, by rw [h4]; exact hk⟩
/-! ### SumReader walked -/
theorem lk_source {a b c d e f : D} : List.lookup ("source" : Str) [(("source" : Str), a), (("spot" : Str), b), (("start" : Str), c), (("kind" : Str), d), (("worth" : Str), e), (("word" : Str), f)] = some a := by simp [List.lookup]
theorem pt_source {a b c d e f x : D} : putFD ("source" : Str) x [(("source" : Str), a), (("spot" : Str), b), (("start" : Str), c), (("kind" : Str), d), (("worth" : Str), e), (("word" : Str), f)] = [(("source" : Str), x), (("spot" : Str), b), (("start" : Str), c), (("kind" : Str), d), (("worth" : Str), e), (("word" : Str), f)] := by simp only [putFD, if_true, if_false]
theorem lk_spot {a b c d e f : D} : List.lookup ("spot" : Str) [(("source" : Str), a), (("spot" : Str), b), (("start" : Str), c), (("kind" : Str), d), (("worth" : Str), e), (("word" : Str), f)] = some b := by simp [List.lookup, show (("spot" : Str) == ("source" : Str)) = false by decide +kernel]
theorem pt_spot {a b c d e f x : D} : putFD ("spot" : Str) x [(("source" : Str), a), (("spot" : Str), b), (("start" : Str), c), (("kind" : Str), d), (("worth" : Str), e), (("word" : Str), f)] = [(("source" : Str), a), (("spot" : Str), x), (("start" : Str), c), (("kind" : Str), d), (("worth" : Str), e), (("word" : Str), f)] := by simp only [putFD, show ¬ (("source" : Str) = ("spot" : Str)) by decide +kernel, if_true, if_false]
theorem lk_start {a b c d e f : D} : List.lookup ("start" : Str) [(("source" : Str), a), (("spot" : Str), b), (("start" : Str), c), (("kind" : Str), d), (("worth" : Str), e), (("word" : Str), f)] = some c := by simp [List.lookup, show (("start" : Str) == ("source" : Str)) = false by decide +kernel, show (("start" : Str) == ("spot" : Str)) = false by decide +kernel]
theorem pt_start {a b c d e f x : D} : putFD ("start" : Str) x [(("source" : Str), a), (("spot" : Str), b), (("start" : Str), c), (("kind" : Str), d), (("worth" : Str), e), (("word" : Str), f)] = [(("source" : Str), a), (("spot" : Str), b), (("start" : Str), x), (("kind" : Str), d), (("worth" : Str), e), (("word" : Str), f)] := by simp only [putFD, show ¬ (("source" : Str) = ("start" : Str)) by decide +kernel, show ¬ (("spot" : Str) = ("start" : Str)) by decide +kernel, if_true, if_false]
theorem lk_kind {a b c d e f : D} : List.lookup ("kind" : Str) [(("source" : Str), a), (("spot" : Str), b), (("start" : Str), c), (("kind" : Str), d), (("worth" : Str), e), (("word" : Str), f)] = some d := by simp [List.lookup, show (("kind" : Str) == ("source" : Str)) = false by decide +kernel, show (("kind" : Str) == ("spot" : Str)) = false by decide +kernel, show (("kind" : Str) == ("start" : Str)) = false by decide +kernel]
theorem pt_kind {a b c d e f x : D} : putFD ("kind" : Str) x [(("source" : Str), a), (("spot" : Str), b), (("start" : Str), c), (("kind" : Str), d), (("worth" : Str), e), (("word" : Str), f)] = [(("source" : Str), a), (("spot" : Str), b), (("start" : Str), c), (("kind" : Str), x), (("worth" : Str), e), (("word" : Str), f)] := by simp only [putFD, show ¬ (("source" : Str) = ("kind" : Str)) by decide +kernel, show ¬ (("spot" : Str) = ("kind" : Str)) by decide +kernel, show ¬ (("start" : Str) = ("kind" : Str)) by decide +kernel, if_true, if_false]
theorem lk_worth {a b c d e f : D} : List.lookup ("worth" : Str) [(("source" : Str), a), (("spot" : Str), b), (("start" : Str), c), (("kind" : Str), d), (("worth" : Str), e), (("word" : Str), f)] = some e := by simp [List.lookup, show (("worth" : Str) == ("source" : Str)) = false by decide +kernel, show (("worth" : Str) == ("spot" : Str)) = false by decide +kernel, show (("worth" : Str) == ("start" : Str)) = false by decide +kernel, show (("worth" : Str) == ("kind" : Str)) = false by decide +kernel]
theorem pt_worth {a b c d e f x : D} : putFD ("worth" : Str) x [(("source" : Str), a), (("spot" : Str), b), (("start" : Str), c), (("kind" : Str), d), (("worth" : Str), e), (("word" : Str), f)] = [(("source" : Str), a), (("spot" : Str), b), (("start" : Str), c), (("kind" : Str), d), (("worth" : Str), x), (("word" : Str), f)] := by simp only [putFD, show ¬ (("source" : Str) = ("worth" : Str)) by decide +kernel, show ¬ (("spot" : Str) = ("worth" : Str)) by decide +kernel, show ¬ (("start" : Str) = ("worth" : Str)) by decide +kernel, show ¬ (("kind" : Str) = ("worth" : Str)) by decide +kernel, if_true, if_false]
theorem lk_word {a b c d e f : D} : List.lookup ("word" : Str) [(("source" : Str), a), (("spot" : Str), b), (("start" : Str), c), (("kind" : Str), d), (("worth" : Str), e), (("word" : Str), f)] = some f := by simp [List.lookup, show (("word" : Str) == ("source" : Str)) = false by decide +kernel, show (("word" : Str) == ("spot" : Str)) = false by decide +kernel, show (("word" : Str) == ("start" : Str)) = false by decide +kernel, show (("word" : Str) == ("kind" : Str)) = false by decide +kernel, show (("word" : Str) == ("worth" : Str)) = false by decide +kernel]
theorem pt_word {a b c d e f x : D} : putFD ("word" : Str) x [(("source" : Str), a), (("spot" : Str), b), (("start" : Str), c), (("kind" : Str), d), (("worth" : Str), e), (("word" : Str), f)] = [(("source" : Str), a), (("spot" : Str), b), (("start" : Str), c), (("kind" : Str), d), (("worth" : Str), e), (("word" : Str), x)] := by simp only [putFD, show ¬ (("source" : Str) = ("word" : Str)) by decide +kernel, show ¬ (("spot" : Str) = ("word" : Str)) by decide +kernel, show ¬ (("start" : Str) = ("word" : Str)) by decide +kernel, show ¬ (("kind" : Str) = ("word" : Str)) by decide +kernel, show ¬ (("worth" : Str) = ("word" : Str)) by decide +kernel, if_true, if_false]
theorem ln_run_end {a b c d e f : D} : List.lookup ("run_end" : Str) [(("source" : Str), a), (("spot" : Str), b), (("start" : Str), c), (("kind" : Str), d), (("worth" : Str), e), (("word" : Str), f)] = none := by simp [List.lookup, show (("run_end" : Str) == ("source" : Str)) = false by decide +kernel, show (("run_end" : Str) == ("spot" : Str)) = false by decide +kernel, show (("run_end" : Str) == ("start" : Str)) = false by decide +kernel, show (("run_end" : Str) == ("kind" : Str)) = false by decide +kernel, show (("run_end" : Str) == ("worth" : Str)) = false by decide +kernel, show (("run_end" : Str) == ("word" : Str)) = false by decide +kernel]
theorem ln_step {a b c d e f : D} : List.lookup ("step" : Str) [(("source" : Str), a), (("spot" : Str), b), (("start" : Str), c), (("kind" : Str), d), (("worth" : Str), e), (("word" : Str), f)] = none := by simp [List.lookup, show (("step" : Str) == ("source" : Str)) = false by decide +kernel, show (("step" : Str) == ("spot" : Str)) = false by decide +kernel, show (("step" : Str) == ("start" : Str)) = false by decide +kernel, show (("step" : Str) == ("kind" : Str)) = false by decide +kernel, show (("step" : Str) == ("worth" : Str)) = false by decide +kernel, show (("step" : Str) == ("word" : Str)) = false by decide +kernel]
theorem ln_term {a b c d e f : D} : List.lookup ("term" : Str) [(("source" : Str), a), (("spot" : Str), b), (("start" : Str), c), (("kind" : Str), d), (("worth" : Str), e), (("word" : Str), f)] = none := by simp [List.lookup, show (("term" : Str) == ("source" : Str)) = false by decide +kernel, show (("term" : Str) == ("spot" : Str)) = false by decide +kernel, show (("term" : Str) == ("start" : Str)) = false by decide +kernel, show (("term" : Str) == ("kind" : Str)) = false by decide +kernel, show (("term" : Str) == ("worth" : Str)) = false by decide +kernel, show (("term" : Str) == ("word" : Str)) = false by decide +kernel]
theorem ln_whole_sum {a b c d e f : D} : List.lookup ("whole_sum" : Str) [(("source" : Str), a), (("spot" : Str), b), (("start" : Str), c), (("kind" : Str), d), (("worth" : Str), e), (("word" : Str), f)] = none := by simp [List.lookup, show (("whole_sum" : Str) == ("source" : Str)) = false by decide +kernel, show (("whole_sum" : Str) == ("spot" : Str)) = false by decide +kernel, show (("whole_sum" : Str) == ("start" : Str)) = false by decide +kernel, show (("whole_sum" : Str) == ("kind" : Str)) = false by decide +kernel, show (("whole_sum" : Str) == ("worth" : Str)) = false by decide +kernel, show (("whole_sum" : Str) == ("word" : Str)) = false by decide +kernel]
local macro_rules | `(tactic| walk_at "rd") => `(tactic| try simp only [ln_run_end, ln_step, ln_term, ln_whole_sum, lk_source, pt_source, lk_spot, pt_spot, lk_start, pt_start, lk_kind, pt_kind, lk_worth, pt_worth, lk_word, pt_word, onO_1])
/- def SumReader.run_end, slots 0 self 1 signs 2 end -/
/- def SumReader.step, slots 0 self 1 sign 2 end 3 found 4 digits -/
/-! ### SumReader: making, terms, sums -/
local macro_rules | `(tactic| walk_at "rd") => `(tactic| try simp only [ln_run_end, ln_step, ln_term, ln_whole_sum, lk_source, pt_source, lk_spot, pt_spot, lk_start, pt_start, lk_kind, pt_kind, lk_worth, pt_worth, lk_word, pt_word, onO_1])
/- def SumReader.__init__, slots 0 self 1 text -/
/- def SumReader.term, slots 0 self 1 found 2 is_negative 3 rate 4 name 5 has_name -/
/-! ### SumReader: bits of what is read; whole sums -/
local macro_rules | `(tactic| walk_at "rd") => `(tactic| try simp only [ln_run_end, ln_step, ln_term, ln_whole_sum, lk_source, pt_source, lk_spot, pt_spot, lk_start, pt_start, lk_kind, pt_kind, lk_worth, pt_worth, lk_word, pt_word, onO_1])
/- def SumReader.whole_sum, slots 0 self 1 found 2 is_negative -/
/-! ### terms -/
abbrev Tm := List Nat × (Int × Int)
abbrev tmD (t : Tm) : D := .tup [.str (S t.1), frD t.2]
abbrev tsD (ts : List Tm) : D := .tup (ts.map tmD)
abbrev tieD (p : List Tm × (Int × Int)) : D := .tup [tsD p.1, frD p.2]
/- lent by k06 -/
/- def _law_terms, slots 0 _law_feed_here 1 _law_words_here 2 _law_pairs 3 _law_one 4 _law_chosen 5 _law_name -/
theorem tgt2 {i j : Nat} {x y : D} {s : SL} {k : SL → Prop} (h : k ((s.set i (some x)).set j (some y))) : gTp 2 (gCn (gN i) (gCn (gN j) gNl)) (.tup [x, y]) s k := by
  walk_at "vc"
  exact h
/-! ### names in order -/
def leN (a b : Nm) : Bool := !decide (b < a)
def srt (ns : List Nm) : List Nm := ns.mergeSort leN
theorem leN_tot (a b : Nm) : (leN a b || leN b a) = true := by
  unfold leN
  rcases Std.lt_trichotomy a b with q | q | q
  · have : ¬ b < a := fun z => absurd (List.lt_trans q z) (List.lt_irrefl a)
    simp [this]
  · subst q; simp [List.lt_irrefl]
  · have : ¬ a < b := fun z => absurd (List.lt_trans q z) (List.lt_irrefl b)
    simp [this]
theorem leN_tr (a b c : Nm) (h1 : leN a b = true) (h2 : leN b c = true) : leN a c = true := by
  unfold leN at *
  simp only [Bool.not_eq_true', decide_eq_false_iff_not] at *
  intro z
  rcases Std.lt_trichotomy a b with q | q | q
  · exact h2 (List.lt_trans z q)
  · subst q; exact h2 z
  · exact h1 q
theorem leN_anti {a b : Nm} (h1 : leN a b = true) (h2 : leN b a = true) : a = b := by
  unfold leN at *
  simp only [Bool.not_eq_true', decide_eq_false_iff_not] at *
  rcases Std.lt_trichotomy a b with q | q | q
  · exact absurd q h2
  · exact q
  · exact absurd q h1
theorem rising_pw : ∀ (ys : List Nm) (a : Nm), risingS (S a) (ys.map S) = true → (a :: ys).Pairwise fun x y => leN x y = true
  | [], a, _ => by simp
  | b :: ys, a, h => by
    have h' : (!Spec.ltCps b a && risingS (S b) (ys.map S)) = true := by simpa [risingS] using h
    simp only [Bool.and_eq_true] at h'
    have ih := rising_pw ys b h'.2
    have hab : leN a b = true := by
      have := h'.1
      rw [ltCps_eq] at this
      exact this
    refine List.pairwise_cons.mpr ⟨fun c hc => ?_, ih⟩
    rcases List.mem_cons.mp hc with rfl | hc
    · exact hab
    · exact leN_tr _ _ _ hab ((List.pairwise_cons.mp ih).1 c hc)
theorem strs_map {ns : List Nm} {ys : List Str} (h : ys.Perm (ns.map S)) : ∃ zs : List Nm, ys = zs.map S := by
  refine ⟨ys.map fun z => z.cps.toList, ?_⟩
  rw [List.map_map]
  refine ((List.map_congr_left fun z hz => ?_).trans (List.map_id ys)).symm
  obtain ⟨l, rfl⟩ := S_of z
  rfl
theorem perm_S {a b : List Nm} (h : (a.map S).Perm (b.map S)) : a.Perm b := by
  have := h.map fun z : Str => z.cps.toList
  rw [List.map_map, List.map_map] at this
  simpa [Function.comp_def] using this
/-- texts in order are the names in order -/
theorem srt_uniq {ns : List Nm} {ys : List Str} (hp : ys.Perm (ns.map S)) (hs : sortedS ys = true) : ys = (srt ns).map S := by
  obtain ⟨zs, rfl⟩ := strs_map hp
  have p1 : zs.Perm (srt ns) := (perm_S hp).trans (List.mergeSort_perm ns leN).symm
  have s1 : zs.Pairwise fun x y => leN x y = true := by
    cases zs with
    | nil => exact List.Pairwise.nil
    | cons a zs => exact rising_pw zs a hs
  have s2 : (srt ns).Pairwise fun x y => leN x y = true := List.pairwise_mergeSort leN_tr leN_tot ns
  congr 1
  exact List.Perm.eq_of_pairwise (fun a b _ _ h1 h2 => leN_anti h1 h2) s1 s2 p1
theorem srt_mem {ns : List Nm} {n : Nm} : n ∈ srt ns ↔ n ∈ ns := (List.mergeSort_perm ns leN).mem_iff
theorem srt_len (ns : List Nm) : (srt ns).length = ns.length := (List.mergeSort_perm ns leN).length_eq

/-! ### scaling of ties, plain -/
def gcdL (zs : List Int) : Nat := zs.foldl (fun g z => Int.gcd (g : Int) z) 0
theorem gcdL_go (A : Int) : ∀ (zs : List Int) (g : Nat), (zs.map (· * A)).foldl (fun g z => Int.gcd (g : Int) z) (g * A.natAbs) = zs.foldl (fun g z => Int.gcd (g : Int) z) g * A.natAbs
  | [], g => rfl
  | z :: zs, g => by
    have e : Int.gcd ((g * A.natAbs : Nat) : Int) (z * A) = Int.gcd (g : Int) z * A.natAbs := by
      show Nat.gcd (((g * A.natAbs : Nat) : Int).natAbs) (z * A).natAbs = Nat.gcd ((g : Int).natAbs) z.natAbs * A.natAbs
      rw [Int.natAbs_mul, Int.natAbs_natCast, Int.natAbs_natCast, Nat.gcd_mul_right]
    rw [List.map_cons, List.foldl_cons, List.foldl_cons, e]
    exact gcdL_go A zs _
theorem gcdL_mul (A : Int) (zs : List Int) : gcdL (zs.map (· * A)) = gcdL zs * A.natAbs := by
  have := gcdL_go A zs 0
  rw [Nat.zero_mul] at this
  exact this
/-- c makes the rates whole, with nothing in common -/
def Sc (rs : List (Int × Int)) (c : Int × Int) : Prop := 0 < c.1 ∧ 0 < c.2 ∧ ∃ zs : List Int, gcdL zs = 1 ∧ Al2 (fun (r : Int × Int) z => z * (r.2 * c.2) = r.1 * c.1) rs zs
theorem cross {r s c c' f : Int × Int} {z z' : Int} (h : z * (r.2 * c.2) = r.1 * c.1) (h' : z' * (f.2 * c'.2) = f.1 * c'.1) (hf : f.1 * (r.2 * s.2) = r.1 * s.1 * f.2) (r0 : r.2 ≠ 0) (f0 : f.2 ≠ 0) :
    z' * (c.1 * s.2 * c'.2) = z * (c.2 * s.1 * c'.1) := by
  have k : z' * (c.1 * s.2 * c'.2) * (f.2 * r.2) = z * (c.2 * s.1 * c'.1) * (f.2 * r.2) := by
    have e1 : z' * (c.1 * s.2 * c'.2) * (f.2 * r.2) = (z' * (f.2 * c'.2)) * (c.1 * s.2 * r.2) := by grind
    have e2 : z * (c.2 * s.1 * c'.1) * (f.2 * r.2) = (z * (r.2 * c.2)) * (s.1 * c'.1 * f.2) := by grind
    rw [e1, e2, h, h']
    grind
  exact Int.eq_of_mul_eq_mul_right (Int.mul_ne_zero f0 r0) k
theorem Sc.scaled {rs fs : List (Int × Int)} {s c c' : Int × Int} (hs1 : 0 < s.1) (hs2 : 0 < s.2) (al : Al2 (fun (r f : Int × Int) => f.1 * (r.2 * s.2) = r.1 * s.1 * f.2 ∧ r.2 ≠ 0 ∧ f.2 ≠ 0) rs fs) (h : Sc rs c) (h' : Sc fs c') : c.1 * s.2 * c'.2 = c.2 * s.1 * c'.1 := by
  obtain ⟨c1, c2, zs, hz, az⟩ := h
  obtain ⟨d1, d2, ys, hy, ay⟩ := h'
  have e : ys.map (· * (c.1 * s.2 * c'.2)) = zs.map (· * (c.2 * s.1 * c'.1)) := by
    clear hz hy
    induction al generalizing zs ys with
    | nil => cases az; cases ay; rfl
    | cons q _ ih =>
      cases az with
      | cons q1 t1 => cases ay with
        | cons q2 t2 =>
          rw [List.map_cons, List.map_cons, ih _ t1 _ t2, cross q1 q2 q.1 q.2.1 q.2.2]
  have e2 := congrArg gcdL e
  rw [gcdL_mul, gcdL_mul, hz, hy, Nat.one_mul, Nat.one_mul] at e2
  have p1 : 0 < c.1 * s.2 * c'.2 := Int.mul_pos (Int.mul_pos c1 hs2) d2
  have p2 : 0 < c.2 * s.1 * c'.1 := Int.mul_pos (Int.mul_pos c2 hs1) d1
  omega
/-! ### the scale of terms -/
def uStep (u : Int) (t : Tm) : Int := (u * t.2.2).fdiv (Int.gcd u t.2.2 : Int)
def scU (ts : List Tm) : Int := ts.foldl uStep 1
def pStep (u : Int) (p : Int) (t : Tm) : Int := (Int.gcd p (t.2.1 * u.fdiv t.2.2) : Int)
def scP (ts : List Tm) : Int := ts.foldl (pStep (scU ts)) 0
def scale (ts : List Tm) : Int × Int := Fr.low (scU ts) (scP ts)
/-- terms to be scaled -/
structure TOk (ts : List Tm) : Prop where
  ne : ts ≠ []
  len : ts.length ≤ 2
  rt : ∀ t ∈ ts, Fr.Ok t.2 ∧ t.2.1 ≠ 0 ∧ Bd 900 t.2
/-! the walk -/
/- def scale_of, slots 0 terms 1 under 2 part 3 name 4 rate -/
def ph__law_plus : P0 := ph_add
def ph__law_by : P0 := ph_multiply
theorem l__law_plus : ∀ ds m k, ph__law_plus ds m k → ds.length = 2 := l_two
theorem l__law_by : ∀ ds m k, ph__law_by ds m k → ds.length = 2 := l_two
/- def _law_plus, slots 0 _law_one 1 _law_two -/
@[reducible] def v__law_plus : VS :=
  (vRet (vCall ph__law_low (vCons (vOp oAdd (vOp oMul (vOp oIx (vVar 0) (vC (.int 0))) (vOp oIx (vVar 1) (vC (.int 1)))) (vOp oMul (vOp oIx (vVar 1) (vC (.int 0))) (vOp oIx (vVar 0) (vC (.int 1))))) (vCons (vOp oMul (vOp oIx (vVar 0) (vC (.int 1))) (vOp oIx (vVar 1) (vC (.int 1)))) vNil))))
/- def _law_by, slots 0 _law_one 1 _law_two -/
@[reducible] def v__law_by : VS :=
  (vRet (vCall ph__law_low (vCons (vOp oMul (vOp oIx (vVar 0) (vC (.int 0))) (vOp oIx (vVar 1) (vC (.int 0)))) (vCons (vOp oMul (vOp oIx (vVar 0) (vC (.int 1))) (vOp oIx (vVar 1) (vC (.int 1)))) vNil))))


theorem w__law_plus : ∀ ds m k, ph__law_plus ds m k → v__law_plus (dstart 2 ds) m (endP k) := w_add
theorem w__law_by : ∀ ds m k, ph__law_by ds m k → v__law_by (dstart 2 ds) m (endP k) := w_multiply

/-! ### reduced ties -/
/- def reduced, slots 0 tie 1 scale 2 name 3 rate -/
/- lent by k06 -/
/- def _law_brief, slots 0 _law_tie 1 _law_whole 2 _law_part_here 3 _law_name 4 _law_rate_here 5 _law_scale -/
/-! ### ties of a text: what is read (plain), bits -/
abbrev Tie := List Tm × (Int × Int)
/-! ### turned, read_ties -/
local macro_rules | `(tactic| walk_at "rd") => `(tactic| try simp only [ln_run_end, ln_step, ln_term, ln_whole_sum, lk_source, pt_source, lk_spot, pt_spot, lk_start, pt_start, lk_kind, pt_kind, lk_worth, pt_worth, lk_word, pt_word, onO_1])
/- def turned, slots 0 tie 1 name 2 rate -/
/- def read_ties, slots 0 text 1 reader 2 left 3 relation 4 right 5 rates 6 terms 7 tie 8 name -/
theorem keysD_al (ps : Al) : keysD (alD ps) = (ps.map (·.1)).map fun n => D.str (S n) := by
  unfold keysD alD; rw [List.map_map, List.map_map]; rfl
/-! ### texts of fractions and sums -/
def intL (i : Int) : List Nat := (intS i).cps.toList
theorem intS_S (i : Int) : intS i = S (intL i) := str_ext (by simp [intL])
theorem intL_len {i : Int} (h : i.natAbs.log2 < 1920) : (intL i).length ≤ 1921 := by
  have := PyProof.Rows.int_text_len_1921 h
  rw [show PySem.Str.ofString (toString i) = S (intL i) from intS_S i, S_len] at this
  exact this
/- def ratio_text, slots 0 one -/
/- lent by k06 -/
/- def _law_part_text, slots 0 _law_one -/
/- def sum_text, slots 0 terms 1 text 2 name 3 rate 4 size 5 word -/
/- lent by k06 -/
/- def _law_sum_text, slots 0 _law_terms_here 1 _law_text 2 _law_name 3 _law_rate_here 4 _law_size 5 _law_word 6 _law_lead -/
/- def tie_text, slots 0 tie 1 terms 2 bound -/
/- lent by k06 -/
/- def _law_tie_text, slots 0 _law_tie 1 _law_terms_here 2 _law_bound -/
/-! ### lots: fields, simple methods -/
abbrev wsL (ws : List Nm) : List D := ws.map fun w => .str (S w)
abbrev lotF (ws : List Nm) (ts : List Tie) : List (Str × D) := [("words", .lst (wsL ws)), ("held", .lst (ts.map tieD))]
def ph_Lot_names : P0 := fun ds m k => ∃ d ws ts, ds = [d] ∧ asI "Lot" m d = some (lotF ws ts) ∧ ws.length ≤ 1000 ∧ ∀ p, m p = none → k (.ref p) (mset m p (.lst (wsL ws)))
def ph_Lot_ties : P0 := fun ds m k => ∃ d ws ts, ds = [d] ∧ asI "Lot" m d = some (lotF ws ts) ∧ ts.length ≤ 1000 ∧ ∀ p, m p = none → k (.ref p) (mset m p (.lst (ts.map tieD)))
theorem l_Lot_names : ∀ ds m k, ph_Lot_names ds m k → ds.length = 1 := by rintro _ m k ⟨_, _, _, rfl, _⟩; rfl
theorem l_Lot_ties : ∀ ds m k, ph_Lot_ties ds m k → ds.length = 1 := by rintro _ m k ⟨_, _, _, rfl, _⟩; rfl
/- def Lot.names, slots 0 self -/
@[reducible] def v_Lot_names : VS :=
  (vRet (vCB oListO (vCons (vFld "Lot" "words" (vVar 0)) vNil)))
/- def Lot.ties, slots 0 self -/
@[reducible] def v_Lot_ties : VS :=
  (vRet (vCB oListO (vCons (vFld "Lot" "held" (vVar 0)) vNil)))
/- def Lot.__len__, slots 0 self -/
theorem lk_words {ws : List Nm} {ts : List Tie} : List.lookup ("words" : Str) (lotF ws ts) = some (.lst (wsL ws)) := by simp [List.lookup]
theorem lk_held {ws : List Nm} {ts : List Tie} : List.lookup ("held" : Str) (lotF ws ts) = some (.lst (ts.map tieD)) := by
  have : (("held" : Str) == ("words" : Str)) = false := by decide +kernel
  simp [List.lookup, this]
theorem w_Lot_names : ∀ ds m k, ph_Lot_names ds m k → v_Lot_names (dstart 1 ds) m (endV k) := by
  rintro _ m k ⟨d, ws, ts, rfl, hd, hl, hk⟩
  unfold v_Lot_names
  walk_at "vc"
  rw [hd]
  walk_at "vc"
  rw [lk_words]
  walk_at "vc"
  exact fun p hp => ⟨_, MLe.refl _, hk p hp⟩
theorem w_Lot_ties : ∀ ds m k, ph_Lot_ties ds m k → v_Lot_ties (dstart 1 ds) m (endV k) := by
  rintro _ m k ⟨d, ws, ts, rfl, hd, hl, hk⟩
  unfold v_Lot_ties
  walk_at "vc"
  rw [hd]
  walk_at "vc"
  rw [lk_held]
  walk_at "vc"
  exact fun p hp => ⟨_, MLe.refl _, hk p hp⟩
/- def Lot.__repr__, slots 0 self -/
/-! ### terms and ties judged -/
def isTerm : D → Bool
  | .tup [.str z, .tup [.int a, .int b]] => nmL z.cps.toList && isRat (.tup [.int a, .int b]) && decide (a ≠ 0)
  | _ => false
def ltT : D → D → Bool
  | .tup [.str a, _], .tup [.str b, _] => decide (a.cps.toList < b.cps.toList)
  | _, _ => false
def areTs : D → Bool
  | .tup [t] => isTerm t
  | .tup [t, u] => isTerm t && isTerm u && ltT t u
  | _ => false
theorem isTerm_tup {d : D} (h : isTerm d = true) : ∃ z a b, d = .tup [.str z, .tup [.int a, .int b]] := by
  unfold isTerm at h
  split at h
  · exact ⟨_, _, _, rfl⟩
  · cases h
theorem isRat_tup {d : D} (h : isRat d = true) : ∃ a b, d = .tup [.int a, .int b] := by
  unfold isRat at h
  split at h
  · exact ⟨_, _, rfl⟩
  · cases h
theorem isTerm_len {ds : List D} (h : ds.length ≠ 2) : isTerm (.tup ds) = false := by
  unfold isTerm
  split
  · rename_i e; cases e; exact absurd rfl h
  · rfl
theorem isTerm_str {z : Str} {r : D} : isTerm (.tup [.str z, r]) = (nmL z.cps.toList && (isRat r && match r with | .tup [.int a, _] => decide (a ≠ 0) | _ => false)) := by
  cases hr : isRat r with
  | true =>
    obtain ⟨a, b, rfl⟩ := isRat_tup hr
    show (nmL z.cps.toList && isRat (.tup [.int a, .int b]) && decide (a ≠ 0)) = _
    rw [hr, Bool.and_assoc]
  | false =>
    rw [Bool.false_and, Bool.and_false]
    cases h : isTerm (.tup [.str z, r]) with
    | false => rfl
    | true =>
      obtain ⟨_, a, b, e⟩ := isTerm_tup h
      cases e
      have : (nmL z.cps.toList && isRat (.tup [.int a, .int b]) && decide (a ≠ 0)) = true := h
      rw [hr] at this
      simp at this
theorem isTerm_no {x y : D} (h : ∀ z, x ≠ .str z) : isTerm (.tup [x, y]) = false := by
  unfold isTerm
  split
  · rename_i e; cases e; exact absurd rfl (h _)
  · rfl
theorem areTs_len {ds : List D} (h : ds.length = 0 ∨ 2 < ds.length) : areTs (.tup ds) = false := by
  unfold areTs
  split
  · rename_i e; cases e; simp at h
  · rename_i e; cases e; simp at h
  · rfl
def ph_are_terms : P0 := fun ds m k => ∃ d, ds = [d] ∧ Pn d ∧ k (.bl (areTs d)) m
theorem l_are_terms : ∀ ds m k, ph_are_terms ds m k → ds.length = 1 := by rintro _ m k ⟨_, rfl, _⟩; rfl
@[reducible] def v_are_terms_b1 : VS :=
  (vSeq (vIfS (vOr (vNot (tV (vIsi .tup (vVar 1)))) (vOr (tV (vOp oNe (vCB oLen (vCons (vVar 1) vNil)) (vC (.int 2)))) (vOr (vNot (tV (vIsi .str (vOp oIx (vVar 1) (vC (.int 0)))))) (vNot (tV (vCall ph_is_name (vCons (vOp oIx (vVar 1) (vC (.int 0))) vNil))))))) (vRet (vC (.bl false))) vNext)
    (vIfS (vOr (vNot (tV (vCall ph_is_ratio (vCons (vOp oIx (vVar 1) (vC (.int 1))) vNil)))) (tV (vOp oEq (vOp oIx (vOp oIx (vVar 1) (vC (.int 1))) (vC (.int 0))) (vC (.int 0))))) (vRet (vC (.bl false))) vNext))
/- def are_terms, slots 0 thing 1 term -/
@[reducible] def v_are_terms : VS :=
  (vSeq (vIfS (vOr (vNot (tV (vIsi .tup (vVar 0)))) (vNot (tV (vChain oLe oLe (vC (.int 1)) (vCB oLen (vCons (vVar 0) vNil)) (vC (.int 2)))))) (vRet (vC (.bl false))) vNext)
    (vSeq (vFor (vWalk (vVar 0)) (gN 1) v_are_terms_b1)
    (vRet (vOrV (vOp oEq (vCB oLen (vCons (vVar 0) vNil)) (vC (.int 1))) (vOp oLt (vOp oIx (vOp oIx (vVar 0) (vC (.int 0))) (vC (.int 0))) (vOp oIx (vOp oIx (vVar 0) (vC (.int 1))) (vC (.int 0))))))))


theorem w_term {G : DE} {m : Mem} (x : D) (t : D) (ht : Pn t) (hn : isTerm t = true → G.nx [some x, some t] m) (hr : isTerm t = false → G.rt (.bl false) m) : v_are_terms_b1 [some x, some t] m G := by
  have ht' := ht
  obtain ⟨n, h⟩ := ht
  unfold v_are_terms_b1
  cases t with
  | non => walk_at "vc"; exact hr rfl
  | bl b => walk_at "vc"; exact hr rfl
  | int i => walk_at "vc"; exact hr rfl
  | str i => walk_at "vc"; exact hr rfl
  | lst ds => walk_at "vc"; exact hr rfl
  | tup ds =>
    obtain ⟨hl, hd⟩ := ht'.tup
    match ds, hd, hn, hr with
    | [], _, _, hr => walk_at "vc"; exact hr rfl
    | [x], _, _, hr => walk_at "vc"; exact hr (isTerm_len (by simp))
    | x :: y :: z :: r, _, _, hr => walk_at "vc"; exact itP (fun _ => hr (isTerm_len (by simp))) fun e => absurd e (by simp; omega)
    | [a, r], hd, hn, hr =>
      cases a with
      | str z =>
        walk_at "vc"
        refine ⟨.str z, rfl, hd _ List.mem_cons_self, ?_⟩
        have hb : isNm (.str z) = nmL z.cps.toList := rfl
        rw [isTerm_str] at hn hr
        cases hz : nmL z.cps.toList with
        | false =>
          rw [hz] at hb hr
          rw [hb]
          walk_at "vc"
          exact hr rfl
        | true =>
          rw [hz, Bool.true_and] at hn hr
          rw [hz] at hb
          rw [hb]
          walk_at "vc"
          refine ⟨r, rfl, hd r (List.mem_cons_of_mem _ List.mem_cons_self), ?_⟩
          cases hq : isRat r with
          | false =>
            rw [hq] at hr
            walk_at "vc"
            exact hr rfl
          | true =>
            obtain ⟨a, b', rfl⟩ := isRat_tup hq
            rw [hq, Bool.true_and] at hn hr
            walk_at "vc"
            refine itP (fun e => ?_) fun e => ?_
            · exact hr (by simpa using e)
            · exact hn (by simpa using e)
      | non => walk_at "vc"; exact hr (isTerm_no (fun z e => by cases e))
      | bl b => walk_at "vc"; exact hr (isTerm_no (fun z e => by cases e))
      | int i => walk_at "vc"; exact hr (isTerm_no (fun z e => by cases e))
      | lst ds => walk_at "vc"; exact hr (isTerm_no (fun z e => by cases e))
      | tup ds => walk_at "vc"; exact hr (isTerm_no (fun z e => by cases e))
      | _ => obtain ⟨m, hm⟩ := hd _ List.mem_cons_self; cases m <;> exact hm.elim
  | _ => cases n <;> exact h.elim
theorem forV_c1 {b : D → VS} {d : D} {ds : List D} {s : SL} {m : Mem} {G : DE} (h : b d s m { G with nx := fun s' m' => forV b ds s' m' G, ct := fun s' m' => forV b ds s' m' G, bk := G.nx }) : forV b (d :: ds) s m G := h
theorem w_are_terms : ∀ ds m k, ph_are_terms ds m k → v_are_terms (dstart 2 ds) m (endP k) := by
  rintro _ m k ⟨d, rfl, h', hk⟩
  have h := h'
  obtain ⟨n, h⟩ := h
  unfold v_are_terms
  cases d with
  | non => walk_at "vc"; exact hk
  | bl b => walk_at "vc"; exact hk
  | int i => walk_at "vc"; exact hk
  | str i => walk_at "vc"; exact hk
  | lst ds => walk_at "vc"; exact hk
  | tup ds =>
    obtain ⟨hl, hd⟩ := h'.tup
    have no : ds.length = 0 ∨ 2 < ds.length → k (.bl false) m := fun e => by rw [areTs_len e] at hk; exact hk
    match ds, hd, hk, no with
    | [], _, _, no => walk_at "vc"; exact no (by simp)
    | x :: y :: z :: r, _, _, no =>
      walk_at "vc"
      refine itP (fun _ => itP (fun e => ?_) fun e => ?_) fun _ => no (by simp)
      all_goals first | exact no (by simp) | exact absurd e (by omega)
    | [t], hd, hk, _ =>
      have hk : k (.bl (isTerm t)) m := hk
      walk_at "vc"
      refine forV_c1 (w_term _ t (hd t List.mem_cons_self) (fun e => ?_) (fun e => ?_))
      · rw [e] at hk
        simp only [forV]
        walk_at "vc"
        exact hk
      · rw [e] at hk; exact hk
    | [t, u], hd, hk, _ =>
      have hk : k (.bl (isTerm t && isTerm u && ltT t u)) m := hk
      walk_at "vc"
      refine forV_c1 (w_term _ t (hd t List.mem_cons_self) (fun e => ?_) (fun e => ?_))
      · dsimp only
        refine forV_c1 (w_term _ u (hd u (List.mem_cons_of_mem _ List.mem_cons_self)) (fun e' => ?_) (fun e' => ?_))
        · rw [e, e', Bool.true_and, Bool.true_and] at hk
          obtain ⟨z, a, b, rfl⟩ := isTerm_tup e
          obtain ⟨z', a', b', rfl⟩ := isTerm_tup e'
          simp only [forV]
          walk_at "vc"
          exact hk
        · rw [e', Bool.and_false, Bool.false_and] at hk; exact hk
      · rw [e, Bool.false_and, Bool.false_and] at hk; exact hk
  | _ => cases n <;> exact h.elim
def isTie : D → Bool
  | .tup [t, b] => isRat b && areTs t
  | _ => false
theorem isTie_len {ds : List D} (h : ds.length ≠ 2) : isTie (.tup ds) = false := by
  unfold isTie
  split
  · rename_i e; cases e; exact absurd rfl h
  · rfl
def ph_is_tie : P0 := fun ds m k => ∃ d, ds = [d] ∧ Pn d ∧ k (.bl (isTie d)) m
theorem l_is_tie : ∀ ds m k, ph_is_tie ds m k → ds.length = 1 := by rintro _ m k ⟨_, rfl, _⟩; rfl
/- def is_tie, slots 0 thing -/
@[reducible] def v_is_tie : VS :=
  (vSeq (vIfS (vOr (vNot (tV (vIsi .tup (vVar 0)))) (vOr (tV (vOp oNe (vCB oLen (vCons (vVar 0) vNil)) (vC (.int 2)))) (vNot (tV (vCall ph_is_ratio (vCons (vOp oIx (vVar 0) (vC (.int 1))) vNil)))))) (vRet (vC (.bl false))) vNext)
    (vRet (vCall ph_are_terms (vCons (vOp oIx (vVar 0) (vC (.int 0))) vNil))))


theorem w_is_tie : ∀ ds m k, ph_is_tie ds m k → v_is_tie (dstart 1 ds) m (endP k) := by
  rintro _ m k ⟨d, rfl, h', hk⟩
  have h := h'
  obtain ⟨n, h⟩ := h
  unfold v_is_tie
  cases d with
  | non => walk_at "vc"; exact hk
  | bl b => walk_at "vc"; exact hk
  | int i => walk_at "vc"; exact hk
  | str i => walk_at "vc"; exact hk
  | lst ds => walk_at "vc"; exact hk
  | tup ds =>
    obtain ⟨hl, hd⟩ := h'.tup
    have no : ds.length ≠ 2 → k (.bl false) m := fun e => by rw [isTie_len e] at hk; exact hk
    match ds, hd, hk, no with
    | [], _, hk, _ => walk_at "vc"; exact hk
    | [x], _, _, no => walk_at "vc"; exact no (by simp)
    | x :: y :: z :: r, _, _, no => walk_at "vc"; exact itP (fun _ => no (by simp)) fun e => absurd e (by simp; omega)
    | [t, b], hd, hk, _ =>
      have hk : k (.bl (isRat b && areTs t)) m := hk
      walk_at "vc"
      refine ⟨b, rfl, hd b (List.mem_cons_of_mem _ List.mem_cons_self), ?_⟩
      cases hb : isRat b with
      | false =>
        rw [hb] at hk
        walk_at "vc"
        exact hk
      | true =>
        rw [hb, Bool.true_and] at hk
        walk_at "vc"
        exact ⟨t, rfl, hd t List.mem_cons_self, hk⟩
  | _ => cases n <;> exact h.elim

/-! ### the names of a tie -/
def ph_names_in : P0 := fun ds m k => ∃ p : List Tm × (Int × Int), ds = [tieD p] ∧ p.1.length ≤ 1000 ∧ ∀ a, m a = none → k (.ref a) (mset m a (.lst (p.1.map fun t => .str (S t.1))))
theorem l_names_in : ∀ ds m k, ph_names_in ds m k → ds.length = 1 := by rintro _ m k ⟨_, rfl, _⟩; rfl
/- def names_in, slots 0 tie 1 name 2 rate -/
@[reducible] def v_names_in : VS :=
  (vRet (vLcO (vWalk (vOp oIx (vVar 0) (vC (.int 0)))) (gTp 2 (gCn (gN 1) (gCn (gN 2) gNl))) vYes (vVar 1) [1, 2]))


theorem w_names_in : ∀ ds m k, ph_names_in ds m k → v_names_in (dstart 3 ds) m (endV k) := by
  rintro _ m k ⟨⟨ts, b⟩, rfl, hl, hk⟩
  unfold v_names_in
  walk_at "vc"
  refine ⟨by rw [List.length_map]; exact Nat.le_trans hl (by decide), ?_⟩
  refine lc_map (h := fun t : Tm => .str (S t.1)) ts [] (fun t ht k' _ hk => tgt2 ?_) ?_
  · walk_at "vc"
    exact hk
  · exact fun p hp => ⟨_, MLe.refl _, hk p hp⟩

/-! ### lots made: __init__ -/
abbrev lotG (ws : List Nm) (ts : List D) : List (Str × D) := [("words", .lst (wsL ws)), ("held", .lst ts)]
/-- the first string that is no name or stands twice -/
def nmsF : List Nm → List Nm → Option Nm
  | _, [] => none
  | acc, n :: r => if nmL n = true ∧ n ∉ acc then nmsF (acc ++ [n]) r else some n
def tmN : D → Nm
  | .tup [.str z, _] => z.cps.toList
  | _ => []
/-- the names of a tie -/
def tieNs : D → List Nm
  | .tup [.tup ts, _] => ts.map tmN
  | _ => []
/-- a tie of some names -/
def tieIn (ws : List Nm) (d : D) : Bool := isTie d && (tieNs d).all fun n => decide (n ∈ ws)
/-- the first item that is no tie of the names -/
def tsF (ws : List Nm) : Nat → List D → Option Nat
  | _, [] => none
  | i, d :: r => if tieIn ws d = true then tsF ws (i + 1) r else some i
theorem isTie_D {d : D} (h : isTie d = true) : ∃ T : Tie, d = tieD T ∧ T.1.length ≤ 2 := by
  unfold isTie at h
  split at h
  · rename_i t b
    rw [Bool.and_eq_true] at h
    obtain ⟨h1, h2⟩ := h
    obtain ⟨p, q, rfl⟩ := isRat_tup h1
    have tm : ∀ x : D, isTerm x = true → ∃ u : Tm, x = tmD u := fun x hx => by
      obtain ⟨z, a, b, rfl⟩ := isTerm_tup hx
      exact ⟨(z.cps.toList, (a, b)), by show D.tup _ = D.tup _; rw [show S z.cps.toList = z from str_ext rfl]⟩
    unfold areTs at h2
    split at h2
    · rename_i x
      obtain ⟨u, rfl⟩ := tm x h2
      exact ⟨([u], (p, q)), rfl, by simp⟩
    · rename_i x y
      simp only [Bool.and_eq_true] at h2
      obtain ⟨u, rfl⟩ := tm x h2.1.1
      obtain ⟨v, rfl⟩ := tm y h2.1.2
      exact ⟨([u, v], (p, q)), rfl, by simp⟩
    · cases h2
  · cases h
theorem tieNs_D (T : Tie) : tieNs (tieD T) = T.1.map (·.1) := by
  show (T.1.map tmD).map tmN = _
  rw [List.map_map]
  exact List.map_congr_left fun t _ => rfl
theorem flL (ws : List Nm) : flDs (wsL ws) = some ((ws.map S).map V.str) := by
  rw [show wsL ws = (ws.map S).map D.str by unfold wsL; rw [List.map_map]; rfl]
  exact flDs_str _
theorem inL (n : Nm) (ws : List Nm) : inV (.str (S n)) ((ws.map S).map V.str) = decide (n ∈ ws) := by
  rw [inV_str, decide_eq_decide, List.mem_map]
  exact ⟨fun ⟨x, hx, e⟩ => by rw [← S_inj e]; exact hx, fun h => ⟨n, h, rfl⟩⟩
theorem oList_of {m : Mem} {d : D} {xs : List D} {k : KD} (h : itemsOf m d = some xs) (hk : k (.lst xs) m) : oList [d] m k := by
  cases d with
  | lst ds => cases h; exact hk
  | lat a ds => cases h; exact hk
  | tup ds => cases h; exact hk
  | pr ds => cases h; exact hk
  | ref p =>
    have h : asL m (.ref p) = some xs := h
    rw [asL_rf] at h
    show onM (m p) _
    cases e : m p with
    | none => rw [e] at h; cases h
    | some o =>
      rw [e] at h
      cases o with
      | lst ds => cases h; exact hk
      | _ => cases h
  | _ => cases h
def ph_Lot___init__ : PX := fun ds m k x => ∃ (p : Addr) (dn dt : D) (ns : List Nm) (ts : List D), ds = [.ref p, dn, dt] ∧ m p = some (.ins "Lot" []) ∧ itemsOf m dn = some (wsL ns) ∧ itemsOf m dt = some ts ∧ ns.length ≤ 1000 ∧ ts.length ≤ 1000 ∧ (∀ n ∈ ns, n.length ≤ 1000) ∧ (∀ d ∈ ts, Pn d) ∧
  (∀ n, nmsF [] ns = some n → x (exX "InvalidName" "name" (.str (S n))) m) ∧
  (nmsF [] ns = none → (∀ i, tsF ns 0 ts = some i → x (exX "InvalidTie" "at" (.int (i : Int))) m) ∧ (tsF ns 0 ts = none → k .non (mset m p (.ins "Lot" (lotG (srt ns) ts)))))
theorem l_Lot___init__ : ∀ ds m k x, ph_Lot___init__ ds m k x → ds.length = 3 := by rintro _ m k x ⟨_, _, _, _, _, rfl, _⟩; rfl
@[reducible] def v_Lot___init___b1 : VS :=
  (vIfS (vOr (vNot (tV (vCall ph_is_tie (vCons (vVar 6) vNil)))) (vNot (tV (vCB oAll (vCons (vLc (vWalk (vFz (vCall ph_names_in (vCons (vVar 6) vNil)))) (gN 4) vYes (vOp oInL (vVar 4) (vVar 3)) [4]) vNil))))) (vRaise1 "InvalidTie" "at" "tag" "InvalidTie" (vVar 5)) vNext)
@[reducible] def v_Lot___init___b2 : VS :=
  (vSeq (vIfS (vOr (vNot (tV (vCall ph_is_name (vCons (vVar 4) vNil)))) (tV (vOp oInL (vVar 4) (vVar 3)))) (vRaise1 "InvalidName" "name" "tag" "InvalidName" (vVar 4)) vNext)
    (vDrop (vBM "list" oAppend (vVar 3) (vCons (vVar 4) vNil))))
/- def Lot.__init__, slots 0 self 1 names 2 ties 3 words 4 name 5 at 6 tie -/
@[reducible] def v_Lot___init__ : VS :=
  (vSeq (vSet 3 (vLstO vNil))
    (vSeq (vForM (vWalkI (vVar 1)) (gN 4) v_Lot___init___b2)
    (vSeq (vForM (vEnumM (vCons (vVar 2) vNil)) (gTp 2 (gCn (gN 5) (gCn (gN 6) gNl))) v_Lot___init___b1)
    (vSeq (vSetF "Lot" "words" (vVar 0) (vCB oSortA (vCons (vVar 3) vNil)))
    (vSetF "Lot" "held" (vVar 0) (vCB oList (vCons (vVar 2) vNil)))))))


/-- the body of the walk over the names -/
theorem w_init_n {x0 x1 x2 x5 x6 : Option D} {m : Mem} {G : DE} {q : Addr} {acc : List Nm} {n : Nm} (hl : n.length ≤ 1000) (ha : acc.length ≤ 1000) (hq : m q = some (.lst (wsL acc)))
    (hx : ¬ (nmL n = true ∧ n ∉ acc) → G.ex (exX "InvalidName" "name" (.str (S n))) [x0, x1, x2, some (.ref q), some (.str (S n)), x5, x6] m)
    (hk : nmL n = true ∧ n ∉ acc → G.nx [x0, x1, x2, some (.ref q), some (.str (S n)), x5, x6] (mset m q (.lst (wsL (acc ++ [n]))))) :
    v_Lot___init___b2 [x0, x1, x2, some (.ref q), some (.str (S n)), x5, x6] m G := by
  unfold v_Lot___init___b2
  have hn : isNm (.str (S n)) = nmL n := rfl
  walk_at "vc"
  refine ⟨_, rfl, ⟨0, by show (S n).length ≤ 1000; rw [S_len]; exact hl⟩, ?_⟩
  rw [hn]
  cases h : nmL n with
  | false => walk_at "vc"; exact hx (by rw [h]; simp)
  | true =>
    walk_at "vc"
    rw [hq]
    walk_at "vc"
    rw [flL, onO_1, inL]
    walk_at "vc"
    refine itP (fun e => hx (fun z => z.2 e)) fun e => ?_
    have : wsL (acc ++ [n]) = wsL acc ++ [.str (S n)] := by unfold wsL; rw [List.map_append]; rfl
    rw [this] at hk
    exact ⟨by rw [List.length_map]; omega, hk ⟨h, e⟩⟩
/-- the body of the walk over the ties -/
theorem w_init_t {x0 x1 x2 x4 : Option D} {m : Mem} {G : DE} {q : Addr} {ws : List Nm} {i : Nat} {d : D} (hd : Pn d) (hq : m q = some (.lst (wsL ws)))
    (hx : tieIn ws d = false → ∀ x4, G.ex (exX "InvalidTie" "at" (.int (i : Int))) [x0, x1, x2, some (.ref q), x4, some (.int (i : Int)), some d] m)
    (hk : tieIn ws d = true → ∀ x4, G.nx [x0, x1, x2, some (.ref q), x4, some (.int (i : Int)), some d] m) :
    v_Lot___init___b1 [x0, x1, x2, some (.ref q), x4, some (.int (i : Int)), some d] m G := by
  unfold v_Lot___init___b1
  walk_at "vc"
  refine ⟨_, rfl, hd, ?_⟩
  cases h : isTie d with
  | false => walk_at "vc"; exact hx (by unfold tieIn; rw [h]; rfl) _
  | true =>
    obtain ⟨T, rfl, hT⟩ := isTie_D h
    have e : tieIn ws (tieD T) = T.1.all fun t => decide (t.1 ∈ ws) := by
      unfold tieIn
      rw [h, tieNs_D, List.all_map, Bool.true_and]
      rfl
    rw [e] at hx hk
    walk_at "vc"
    refine ⟨T, rfl, by omega, fun a ha => ?_⟩
    have hqa : q ≠ a := fun z => by rw [z, ha] at hq; cases hq
    walk_at "vc"
    rw [mdel_mset ha]
    refine ⟨by rw [List.length_map]; omega, ?_⟩
    refine lc_map (h := fun t : Tm => .bl (decide (t.1 ∈ ws))) T.1 [] (fun t ht k' _ hk' => ?_) ?_
    · walk_at "vc"
      simp only [hq, lstO_l, onO_1, flL, inL]
      exact hk'
    · rw [List.nil_append, show (T.1.map fun t : Tm => D.bl (decide (t.1 ∈ ws))) = (T.1.map fun t : Tm => decide (t.1 ∈ ws)).map D.bl by rw [List.map_map]; rfl]
      walk_at "vc"
      rw [blsOf_map, onO_1]
      rw [List.all_map]
      cases h2 : T.1.all (id ∘ fun t => decide (t.1 ∈ ws)) with
      | true => walk_at "vc"; exact hk h2 _
      | false => walk_at "vc"; exact hx h2 _
theorem w_Lot___init__ : ∀ ds m k x, ph_Lot___init__ ds m k x → v_Lot___init__ (dstart 7 ds) m (endX k x) := by
  rintro _ m k x ⟨p, dn, dt, ns, ts, rfl, hp, hn, ht, ln, lt, lns, pts, hx, hk⟩
  unfold v_Lot___init__
  walk_at "vc"
  intro q hq
  have back : ∀ o, MLe m (mset m q o) := fun o => mle_new hq
  have hpq : p ≠ q := fun z => by rw [z, hq] at hp; cases hp
  rw [items_new hn hq, onO_1]
  refine forM_indP (fun ds s m' => ∃ (r acc : List Nm) (x4 : Option D), ds = wsL r ∧ s = [some (.ref p), some dn, some dt, some (.ref q), x4, none, none] ∧ m' = mset m q (.lst (wsL acc)) ∧ nmsF acc r = nmsF [] ns ∧ acc ++ r = ns) ?_ ?_ ?_ ⟨ns, [], none, rfl, rfl, rfl, rfl, rfl⟩
  · rintro ds s _ ⟨r, acc, x4, rfl, rfl, rfl, _, _⟩
    exact items_new hn hq
  · rintro s _ ⟨r, acc, x4, hr, rfl, rfl, h1, h2⟩
    obtain rfl : r = [] := by cases r with
      | nil => rfl
      | cons _ _ => cases hr
    have h1 : nmsF [] ns = none := h1.symm
    rw [List.append_nil] at h2
    subst h2
    obtain ⟨hx, hk⟩ := hk h1
    walk_at "vc"
    rw [items_new ht hq, onO_1]
    refine forM_indP (fun ds s m' => ∃ (i : Nat) (r : List D) (x4 x5 x6 : Option D), ds = enumD i r ∧ s = [some (.ref p), some dn, some dt, some (.ref q), x4, x5, x6] ∧ m' = mset m q (.lst (wsL acc)) ∧ tsF acc i r = tsF acc 0 ts ∧ ∀ d ∈ r, Pn d) ?_ ?_ ?_ ⟨0, ts, x4, none, none, rfl, rfl, rfl, rfl, pts⟩
    · rintro ds s _ ⟨i, r, x4, x5, x6, rfl, rfl, rfl, _, _⟩
      exact items_new ht hq
    · rintro s _ ⟨i, r, x4, x5, x6, hr, rfl, rfl, h3, _⟩
      obtain rfl : r = [] := by cases r with
        | nil => rfl
        | cons _ _ => cases hr
      have hk := hk h3.symm
      walk_at "vc"
      rw [show wsL acc = (acc.map S).map D.str by unfold wsL; rw [List.map_map]; rfl, strDs_map, onO_1]
      refine ⟨by rw [List.length_map]; omega, fun ys hy hs => ?_⟩
      have ey := srt_uniq hy hs
      subst ey
      rw [mset_ne hpq, hp, onIo_1]
      refine ⟨rfl, by decide, ?_⟩
      refine oList_of (items_ne (items_new ht hq) (items_ni ht hp)) ?_
      rw [mset_same, onIo_1]
      refine ⟨rfl, by show 1 < 1000; decide, mset m p (.ins "Lot" (lotG (srt acc) ts)), fun b u hu => ?_, hk⟩
      rw [mset_mset]
      have el : ((srt acc).map S).map D.str = wsL (srt acc) := by unfold wsL; rw [List.map_map]; rfl
      rw [el]
      by_cases hb : b = p
      · subst hb; rw [mset_same] at hu ⊢; exact hu
      · rw [mset_ne hb] at hu ⊢
        exact back _ _ _ hu
    · rintro d ds s _ P ⟨i, r, x4, x5, x6, hr, rfl, rfl, h3, h4⟩ ih
      obtain ⟨d', r, rfl⟩ : ∃ d' r', r = d' :: r' := by cases r with
        | nil => cases hr
        | cons a b => exact ⟨a, b, rfl⟩
      obtain ⟨rfl, rfl⟩ := List.cons.inj hr
      walk_at "vc"
      refine w_init_t (h4 d' List.mem_cons_self) mset_same (fun e x4 => ⟨m, back _, hx i ?_⟩) fun e x4 => ih _ _ ⟨i + 1, r, _, _, _, rfl, rfl, rfl, ?_, fun z hz => h4 z (List.mem_cons_of_mem _ hz)⟩
      · rw [← h3]; unfold tsF; rw [if_neg (by rw [e]; decide)]
      · rw [← h3]; conv => rhs; unfold tsF
        rw [if_pos e]
  · rintro d ds s _ P ⟨r, acc, x4, hr, rfl, rfl, h1, h2⟩ ih
    obtain ⟨n, r, rfl⟩ : ∃ n r', r = n :: r' := by cases r with
      | nil => cases hr
      | cons a b => exact ⟨a, b, rfl⟩
    obtain ⟨rfl, rfl⟩ := List.cons.inj hr
    walk_at "vc"
    have hnl : n.length ≤ 1000 := lns n (by rw [← h2]; simp)
    have hal : acc.length ≤ 1000 := by rw [← h2, List.length_append] at ln; omega
    refine w_init_n hnl hal mset_same (fun e => ⟨m, back _, hx n ?_⟩) fun e => ih _ _ ⟨r, acc ++ [n], _, rfl, rfl, mset_mset, ?_, by rw [← h2]; simp⟩
    · rw [← h1]; unfold nmsF; rw [if_neg e]
    · rw [← h1]; conv => rhs; unfold nmsF
      rw [if_pos e]

/-! ### steps: fields, simple methods -/
def ph_Step_names : P0 := fun ds m k => ∃ d ws ts, ds = [d] ∧ asI "Step" m d = some (lotF ws ts) ∧ ws.length ≤ 1000 ∧ ∀ p, m p = none → k (.ref p) (mset m p (.lst (wsL ws)))
def ph_Step_ties : P0 := fun ds m k => ∃ d ws ts, ds = [d] ∧ asI "Step" m d = some (lotF ws ts) ∧ ts.length ≤ 1000 ∧ ∀ p, m p = none → k (.ref p) (mset m p (.lst (ts.map tieD)))
def ph_Step___len__ : P0 := fun ds m k => ∃ d ws ts, ds = [d] ∧ asI "Step" m d = some (lotF ws ts) ∧ k (.int (ts.length : Int)) m
theorem l_Step_names : ∀ ds m k, ph_Step_names ds m k → ds.length = 1 := by rintro _ m k ⟨_, _, _, rfl, _⟩; rfl
theorem l_Step_ties : ∀ ds m k, ph_Step_ties ds m k → ds.length = 1 := by rintro _ m k ⟨_, _, _, rfl, _⟩; rfl
theorem l_Step___len__ : ∀ ds m k, ph_Step___len__ ds m k → ds.length = 1 := by rintro _ m k ⟨_, _, _, rfl, _⟩; rfl
/- def Step.names, slots 0 self -/
@[reducible] def v_Step_names : VS :=
  (vRet (vCB oListO (vCons (vFld "Step" "words" (vVar 0)) vNil)))
/- def Step.ties, slots 0 self -/
@[reducible] def v_Step_ties : VS :=
  (vRet (vCB oListO (vCons (vFld "Step" "held" (vVar 0)) vNil)))
/- def Step.__len__, slots 0 self -/
@[reducible] def v_Step___len__ : VS :=
  (vRet (vCB oLen (vCons (vFld "Step" "held" (vVar 0)) vNil)))


theorem w_Step_names : ∀ ds m k, ph_Step_names ds m k → v_Step_names (dstart 1 ds) m (endV k) := by
  rintro _ m k ⟨d, ws, ts, rfl, hd, hl, hk⟩
  unfold v_Step_names
  walk_at "vc"
  rw [hd]
  walk_at "vc"
  rw [lk_words]
  walk_at "vc"
  exact fun p hp => ⟨_, MLe.refl _, hk p hp⟩
theorem w_Step_ties : ∀ ds m k, ph_Step_ties ds m k → v_Step_ties (dstart 1 ds) m (endV k) := by
  rintro _ m k ⟨d, ws, ts, rfl, hd, hl, hk⟩
  unfold v_Step_ties
  walk_at "vc"
  rw [hd]
  walk_at "vc"
  rw [lk_held]
  walk_at "vc"
  exact fun p hp => ⟨_, MLe.refl _, hk p hp⟩
theorem w_Step___len__ : ∀ ds m k, ph_Step___len__ ds m k → v_Step___len__ (dstart 1 ds) m (endP k) := by
  rintro _ m k ⟨d, ws, ts, rfl, hd, hk⟩
  unfold v_Step___len__
  walk_at "vc"
  rw [hd]
  walk_at "vc"
  rw [lk_held]
  walk_at "vc"
  rw [List.length_map]
  exact hk
def reprT (ws : List Nm) (ts : List Tie) : List Nat := [83, 116, 101, 112, 40] ++ intL (ws.length : Int) ++ [32, 110, 97, 109, 101, 115, 44, 32] ++ intL (ts.length : Int) ++ [32, 116, 105, 101, 115, 41]
def ph_Step___repr__ : P0 := fun ds m k => ∃ d ws ts, ds = [d] ∧ asI "Step" m d = some (lotF ws ts) ∧ ws.length ≤ 1000 ∧ ts.length ≤ 1000 ∧ k (.str (S (reprT ws ts))) m
theorem l_Step___repr__ : ∀ ds m k, ph_Step___repr__ ds m k → ds.length = 1 := by rintro _ m k ⟨_, _, _, rfl, _⟩; rfl
/- def Step.__repr__, slots 0 self -/
@[reducible] def v_Step___repr__ : VS :=
  (vRet (vJoined [(vC (.str "Step(")), (vFmt (vCB oLen (vCons (vFld "Step" "words" (vVar 0)) vNil))), (vC (.str " names, ")), (vFmt (vCB oLen (vCons (vFld "Step" "held" (vVar 0)) vNil))), (vC (.str " ties)"))]))


theorem w_Step___repr__ : ∀ ds m k, ph_Step___repr__ ds m k → v_Step___repr__ (dstart 1 ds) m (endP k) := by
  rintro _ m k ⟨d, ws, ts, rfl, hd, h1, h2, hk⟩
  have e1 : ("Step(" : Str) = S [83, 116, 101, 112, 40] := by decide +kernel
  have e2 : (" names, " : Str) = S [32, 110, 97, 109, 101, 115, 44, 32] := by decide +kernel
  have e3 : (" ties)" : Str) = S [32, 116, 105, 101, 115, 41] := by decide +kernel
  unfold v_Step___repr__
  rw [e1, e2, e3]
  walk_at "vc"
  rw [hd]
  walk_at "vc"
  rw [lk_words]
  walk_at "vc"
  rw [hd]
  walk_at "vc"
  rw [lk_held]
  walk_at "vc"
  have sm : ∀ n : Nat, n ≤ 1000 → ((n : Int)).natAbs.log2 < 1920 := fun n h => Nat.lt_trans (log2_lt (n := (n : Int).natAbs) (k := 10) (by rw [Int.natAbs_natCast]; omega) (by decide)) (by decide)
  have il : ∀ n : Nat, n ≤ 1000 → (intL (n : Int)).length ≤ 1921 := fun n h => intL_len (sm n h)
  have l1 := il _ h1
  have l2 := il _ h2
  unfold reprT at hk
  rw [show (wsL ws).length = ws.length from List.length_map _, List.length_map, intS_S, intS_S]
  simp only [S_app, S_len]
  refine ⟨sm _ h1, ?_, ?_, sm _ h2, ?_, ?_, hk⟩ <;> simp only [List.length_append, List.length_cons, List.length_nil] <;> omega

/-! ### steps made: __init__ -/
/-- the first string that is no name, ends with an apostrophe, stands twice or is one too many -/
def snmF : List Nm → List Nm → Option Nm
  | _, [] => none
  | acc, n :: r => if nmL n = true ∧ n.drop (n.length - 1) ≠ [39] ∧ n ∉ acc ∧ acc.length ≠ 3 then snmF (acc ++ [n]) r else some n
/-- old names and new ones -/
def knwn (ws : List Nm) : List Nm := ws ++ ws.map (· ++ [39])
def ph_Step___init__ : PX := fun ds m k x => ∃ (p : Addr) (dn dt : D) (ns : List Nm) (ts : List D), ds = [.ref p, dn, dt] ∧ m p = some (.ins "Step" []) ∧ itemsOf m dn = some (wsL ns) ∧ itemsOf m dt = some ts ∧ ns.length ≤ 1000 ∧ ts.length ≤ 1000 ∧ (∀ n ∈ ns, n.length ≤ 1000) ∧ (∀ d ∈ ts, Pn d) ∧
  (∀ n, snmF [] ns = some n → x (exX "InvalidName" "name" (.str (S n))) m) ∧
  (snmF [] ns = none → (∀ i, tsF (knwn ns) 0 ts = some i → x (exX "InvalidTie" "at" (.int (i : Int))) m) ∧ (tsF (knwn ns) 0 ts = none → k .non (mset m p (.ins "Step" (lotG (srt ns) ts)))))
theorem l_Step___init__ : ∀ ds m k x, ph_Step___init__ ds m k x → ds.length = 3 := by rintro _ m k x ⟨_, _, _, _, _, rfl, _⟩; rfl
@[reducible] def v_Step___init___b1 : VS :=
  (vIfS (vOr (vNot (tV (vCall ph_is_tie (vCons (vVar 7) vNil)))) (vNot (tV (vCB oAll (vCons (vLc (vWalk (vFz (vCall ph_names_in (vCons (vVar 7) vNil)))) (gN 4) vYes (vOp oInL (vVar 4) (vVar 5)) [4]) vNil))))) (vRaise1 "InvalidTie" "at" "tag" "InvalidTie" (vVar 6)) vNext)
@[reducible] def v_Step___init___b2 : VS :=
  (vSeq (vIfS (vOr (vNot (tV (vCall ph_is_name (vCons (vVar 4) vNil)))) (vOr (tV (vOp oEq (vSl (vVar 4) (vP (vUn oNeg (vC (.int 1)))) vNoP) (vC (.str "'")))) (vOr (tV (vOp oInL (vVar 4) (vVar 3))) (tV (vOp oEq (vCB oLen (vCons (vVar 3) vNil)) (vC (.int 3))))))) (vRaise1 "InvalidName" "name" "tag" "InvalidName" (vVar 4)) vNext)
    (vDrop (vBM "list" oAppend (vVar 3) (vCons (vVar 4) vNil))))
/- def Step.__init__, slots 0 self 1 names 2 ties 3 words 4 name 5 known 6 at 7 tie -/
@[reducible] def v_Step___init__ : VS :=
  (vSeq (vSet 3 (vLstO vNil))
    (vSeq (vForM (vWalkI (vVar 1)) (gN 4) v_Step___init___b2)
    (vFrz 3 (vSeq (vSet 5 (vOp oAdd (vVar 3) (vLc (vWalk (vVar 3)) (gN 4) vYes (vOp oAdd (vVar 4) (vC (.str "'"))) [4])))
    (vSeq (vForM (vEnumM (vCons (vVar 2) vNil)) (gTp 2 (gCn (gN 6) (gCn (gN 7) gNl))) v_Step___init___b1)
    (vSeq (vSetF "Step" "words" (vVar 0) (vCB oSortA (vCons (vVar 3) vNil)))
    (vSetF "Step" "held" (vVar 0) (vCB oList (vCons (vVar 2) vNil)))))))))


theorem quo_S : ("'" : Str) = S [39] := by decide +kernel
/-- the body of the walk over the names -/
theorem w_sinit_n {x0 x1 x2 x5 x6 x7 : Option D} {m : Mem} {G : DE} {q : Addr} {acc : List Nm} {n : Nm} (hl : n.length ≤ 1000) (ha : acc.length ≤ 1000) (hq : m q = some (.lst (wsL acc)))
    (hx : ¬ (nmL n = true ∧ n.drop (n.length - 1) ≠ [39] ∧ n ∉ acc ∧ acc.length ≠ 3) → G.ex (exX "InvalidName" "name" (.str (S n))) [x0, x1, x2, some (.ref q), some (.str (S n)), x5, x6, x7] m)
    (hk : nmL n = true ∧ n.drop (n.length - 1) ≠ [39] ∧ n ∉ acc ∧ acc.length ≠ 3 → G.nx [x0, x1, x2, some (.ref q), some (.str (S n)), x5, x6, x7] (mset m q (.lst (wsL (acc ++ [n]))))) :
    v_Step___init___b2 [x0, x1, x2, some (.ref q), some (.str (S n)), x5, x6, x7] m G := by
  unfold v_Step___init___b2
  have hn : isNm (.str (S n)) = nmL n := rfl
  rw [quo_S]
  walk_at "vc"
  refine ⟨_, rfl, ⟨0, by show (S n).length ≤ 1000; rw [S_len]; exact hl⟩, ?_⟩
  rw [hn]
  cases h : nmL n with
  | false => walk_at "vc"; exact hx (by rw [h]; simp)
  | true =>
    walk_at "vc"
    refine ⟨by omega, ?_⟩
    rw [cut_last]
    refine itP (fun e => hx fun z => z.2.1 (S_inj e)) fun e1 => ?_
    rw [hq]
    walk_at "vc"
    rw [flL, onO_1, inL]
    walk_at "vc"
    refine itP (fun e => hx fun z => z.2.2.1 e) fun e2 => ?_
    refine itP (fun e => hx fun z => z.2.2.2 ?_) fun e3 => ?_
    · rw [List.length_map] at e; omega
    · have : wsL (acc ++ [n]) = wsL acc ++ [.str (S n)] := by unfold wsL; rw [List.map_append]; rfl
      rw [this] at hk
      refine ⟨by rw [List.length_map]; omega, hk ⟨h, fun z => e1 (by rw [z]), e2, fun z => e3 (by rw [List.length_map]; omega)⟩⟩
/-- the body of the walk over the ties -/
theorem w_sinit_t {x0 x1 x2 x3 x4 : Option D} {m : Mem} {G : DE} {ws : List Nm} {i : Nat} {d : D} (hd : Pn d) (lw : ws.length ≤ 1000)
    (hx : tieIn ws d = false → ∀ x4, G.ex (exX "InvalidTie" "at" (.int (i : Int))) [x0, x1, x2, x3, x4, some (.lst (wsL ws)), some (.int (i : Int)), some d] m)
    (hk : tieIn ws d = true → ∀ x4, G.nx [x0, x1, x2, x3, x4, some (.lst (wsL ws)), some (.int (i : Int)), some d] m) :
    v_Step___init___b1 [x0, x1, x2, x3, x4, some (.lst (wsL ws)), some (.int (i : Int)), some d] m G := by
  unfold v_Step___init___b1
  walk_at "vc"
  refine ⟨_, rfl, hd, ?_⟩
  cases h : isTie d with
  | false => walk_at "vc"; exact hx (by unfold tieIn; rw [h]; rfl) _
  | true =>
    obtain ⟨T, rfl, hT⟩ := isTie_D h
    have e : tieIn ws (tieD T) = T.1.all fun t => decide (t.1 ∈ ws) := by
      unfold tieIn
      rw [h, tieNs_D, List.all_map, Bool.true_and]
      rfl
    rw [e] at hx hk
    walk_at "vc"
    refine ⟨T, rfl, by omega, fun a ha => ?_⟩
    walk_at "vc"
    rw [mdel_mset ha]
    refine ⟨by rw [List.length_map]; omega, ?_⟩
    refine lc_map (h := fun t : Tm => .bl (decide (t.1 ∈ ws))) T.1 [] (fun t ht k' _ hk' => ?_) ?_
    · walk_at "vc"
      simp only [flL, onO_1, inL]
      exact hk'
    · rw [List.nil_append, show (T.1.map fun t : Tm => D.bl (decide (t.1 ∈ ws))) = (T.1.map fun t : Tm => decide (t.1 ∈ ws)).map D.bl by rw [List.map_map]; rfl]
      walk_at "vc"
      rw [blsOf_map, onO_1]
      rw [List.all_map]
      cases h2 : T.1.all (id ∘ fun t => decide (t.1 ∈ ws)) with
      | true => walk_at "vc"; exact hk h2 _
      | false => walk_at "vc"; exact hx h2 _
theorem snmF_len : ∀ {ns acc : List Nm}, snmF acc ns = none → acc.length ≤ 3 → (acc ++ ns).length ≤ 3
  | [], acc, _, h => by rw [List.append_nil]; exact h
  | n :: r, acc, h, ha => by
    unfold snmF at h
    split at h
    · rename_i e
      have := snmF_len h (by rw [List.length_append]; simp; omega)
      rwa [List.append_assoc] at this
    · cases h
theorem wsL_app (a b : List Nm) : wsL (a ++ b) = wsL a ++ wsL b := by unfold wsL; rw [List.map_append]
theorem w_Step___init__ : ∀ ds m k x, ph_Step___init__ ds m k x → v_Step___init__ (dstart 8 ds) m (endX k x) := by
  rintro _ m k x ⟨p, dn, dt, ns, ts, rfl, hp, hn, ht, ln, lt, lns, pts, hx, hk⟩
  unfold v_Step___init__
  walk_at "vc"
  intro q hq
  have back : ∀ o, MLe m (mset m q o) := fun o => mle_new hq
  have hpq : p ≠ q := fun z => by rw [z, hq] at hp; cases hp
  rw [items_new hn hq, onO_1]
  refine forM_indP (fun ds s m' => ∃ (r acc : List Nm) (x4 : Option D), ds = wsL r ∧ s = [some (.ref p), some dn, some dt, some (.ref q), x4, none, none, none] ∧ m' = mset m q (.lst (wsL acc)) ∧ snmF acc r = snmF [] ns ∧ acc ++ r = ns) ?_ ?_ ?_ ⟨ns, [], none, rfl, rfl, rfl, rfl, rfl⟩
  · rintro ds s _ ⟨r, acc, x4, rfl, rfl, rfl, _, _⟩
    exact items_new hn hq
  · rintro s _ ⟨r, acc, x4, hr, rfl, rfl, h1, h2⟩
    obtain rfl : r = [] := by cases r with
      | nil => rfl
      | cons _ _ => cases hr
    have h1 : snmF [] ns = none := h1.symm
    rw [List.append_nil] at h2
    subst h2
    have l3 : acc.length ≤ 3 := by have := snmF_len h1 (by simp); simpa using this
    obtain ⟨hx, hk⟩ := hk h1
    rw [quo_S]
    walk_at "vc"
    rw [mdel_mset hq]
    refine ⟨by rw [List.length_map]; omega, ?_⟩
    refine lc_map (h := fun n : Nm => .str (S (n ++ [39]))) acc [] (fun n hn k' _ hk' => ?_) ?_
    · walk_at "vc"
      exact ⟨by have := lns n hn; (try simp); omega, hk'⟩
    rw [List.nil_append, show (acc.map fun n : Nm => D.str (S (n ++ [39]))) = wsL (acc.map (· ++ [39])) by unfold wsL; rw [List.map_map]; rfl, ← wsL_app]
    refine ⟨by simp only [List.length_map]; omega, ?_⟩
    have lk : (knwn acc).length ≤ 1000 := by unfold knwn; rw [List.length_append, List.length_map]; omega
    rw [show acc ++ acc.map (· ++ [39]) = knwn acc from rfl]
    rw [ht, onO_1]
    refine forM_indP (fun ds s m' => ∃ (i : Nat) (r : List D) (x4 x6 x7 : Option D), ds = enumD i r ∧ s = [some (.ref p), some dn, some dt, some (.lst (wsL acc)), x4, some (.lst (wsL (knwn acc))), x6, x7] ∧ m' = m ∧ tsF (knwn acc) i r = tsF (knwn acc) 0 ts ∧ ∀ d ∈ r, Pn d) ?_ ?_ ?_ ⟨0, ts, x4, none, none, rfl, rfl, rfl, rfl, pts⟩
    · rintro ds s _ ⟨i, r, x4, x6, x7, rfl, rfl, rfl, _, _⟩
      exact ht
    · rintro s _ ⟨i, r, x4, x6, x7, hr, rfl, rfl, h3, _⟩
      obtain rfl : r = [] := by cases r with
        | nil => rfl
        | cons _ _ => cases hr
      have hk := hk h3.symm
      walk_at "vc"
      rw [show wsL acc = (acc.map S).map D.str by unfold wsL; rw [List.map_map]; rfl, strDs_map, onO_1]
      refine ⟨by rw [List.length_map]; omega, fun ys hy hs => ?_⟩
      have ey := srt_uniq hy hs
      subst ey
      rw [hp, onIo_1]
      refine ⟨rfl, by decide, ?_⟩
      refine oList_of (items_ne ht (items_ni ht hp)) ?_
      rw [mset_same, onIo_1]
      refine ⟨rfl, by show 1 < 1000; decide, _, MLe.refl _, ?_⟩
      rw [mset_mset]
      have el : ((srt acc).map S).map D.str = wsL (srt acc) := by unfold wsL; rw [List.map_map]; rfl
      rw [el]
      exact hk
    · rintro d ds s _ P ⟨i, r, x4, x6, x7, hr, rfl, rfl, h3, h4⟩ ih
      obtain ⟨d', r, rfl⟩ : ∃ d' r', r = d' :: r' := by cases r with
        | nil => cases hr
        | cons a b => exact ⟨a, b, rfl⟩
      obtain ⟨rfl, rfl⟩ := List.cons.inj hr
      walk_at "vc"
      refine w_sinit_t (h4 d' List.mem_cons_self) lk (fun e x4 => ⟨_, MLe.refl _, hx i ?_⟩) fun e x4 => ih _ _ ⟨i + 1, r, _, _, _, rfl, rfl, rfl, ?_, fun z hz => h4 z (List.mem_cons_of_mem _ hz)⟩
      · rw [← h3]; unfold tsF; rw [if_neg (by rw [e]; decide)]
      · rw [← h3]; conv => rhs; unfold tsF
        rw [if_pos e]
  · rintro d ds s _ P ⟨r, acc, x4, hr, rfl, rfl, h1, h2⟩ ih
    obtain ⟨n, r, rfl⟩ : ∃ n r', r = n :: r' := by cases r with
      | nil => cases hr
      | cons a b => exact ⟨a, b, rfl⟩
    obtain ⟨rfl, rfl⟩ := List.cons.inj hr
    walk_at "vc"
    have hnl : n.length ≤ 1000 := lns n (by rw [← h2]; simp)
    have hal : acc.length ≤ 1000 := by rw [← h2, List.length_append] at ln; omega
    refine w_sinit_n hnl hal mset_same (fun e => ⟨m, back _, hx n ?_⟩) fun e => ih _ _ ⟨r, acc ++ [n], _, rfl, rfl, mset_mset, ?_, by rw [← h2]; simp⟩
    · rw [← h1]; unfold snmF; rw [if_neg e]
    · rw [← h1]; conv => rhs; unfold snmF
      rw [if_pos e]

/-! ### lots: read, ==, text -/
/- def Lot.read, slots 0 names 1 text 2 found 3 part -/
/-! ### == -/
structure LtE (ws : List Nm) (Ts : List Tie) : Prop where
  nm : ∀ w ∈ ws, ∀ c ∈ w, c < 256
  tm : ∀ T ∈ Ts, ∀ t ∈ T.1, ∀ c ∈ t.1, c < 256
/- def Lot.__eq__, slots 0 self 1 other -/
theorem cE_nms {ws : List Nm} (h : ∀ w ∈ ws, ∀ c ∈ w, c < 256) : cE (.lst (wsL ws)) = true := cEs_of fun d hd => by
  obtain ⟨w, hw, rfl⟩ := List.mem_map.mp hd
  exact strOk_S (h w hw)
theorem dp_nms (ws : List Nm) : dpD (.lst (wsL ws)) ≤ 64 := by
  have : dpDs (wsL ws) ≤ 0 := dpDs_of fun d hd => by obtain ⟨w, _, rfl⟩ := List.mem_map.mp hd; exact Nat.le_refl 0
  show dpDs _ + 1 ≤ 64
  omega
theorem cE_tie {T : Tie} (h : ∀ t ∈ T.1, ∀ c ∈ t.1, c < 256) : cE (tieD T) = true := by
  have : cEs (T.1.map tmD) = true := cEs_of fun d hd => by
    obtain ⟨t, ht, rfl⟩ := List.mem_map.mp hd
    show (PyData.strOk (S t.1) && ((true && (true && true)) && true)) = true
    rw [strOk_S (h t ht)]; rfl
  show (cEs (T.1.map tmD) && ((true && (true && true)) && true)) = true
  rw [this]; rfl
theorem dp_tie (T : Tie) : dpD (tieD T) ≤ 4 := by
  have : dpDs (T.1.map tmD) ≤ 2 := dpDs_of fun d hd => by obtain ⟨t, _, rfl⟩ := List.mem_map.mp hd; exact Nat.le_of_eq rfl
  have e : dpD (tieD T) = max (dpDs (T.1.map tmD) + 1) (max 1 0) + 1 := rfl
  omega
theorem cE_ties {Ts : List Tie} (h : ∀ T ∈ Ts, ∀ t ∈ T.1, ∀ c ∈ t.1, c < 256) : cE (.lst (Ts.map tieD)) = true := cEs_of fun d hd => by
  obtain ⟨T, hT, rfl⟩ := List.mem_map.mp hd
  exact cE_tie (h T hT)
theorem dp_ties (Ts : List Tie) : dpD (.lst (Ts.map tieD)) ≤ 64 := by
  have : dpDs (Ts.map tieD) ≤ 4 := dpDs_of fun d hd => by obtain ⟨T, _, rfl⟩ := List.mem_map.mp hd; exact dp_tie T
  show dpDs _ + 1 ≤ 64
  omega
theorem map_inj' {α β : Type} {f : α → β} (hf : ∀ a b, f a = f b → a = b) : ∀ {xs ys : List α}, xs.map f = ys.map f → xs = ys
  | [], [], _ => rfl
  | [], _ :: _, h => by cases h
  | _ :: _, [], h => by cases h
  | x :: xs, y :: ys, h => by
    rw [List.map_cons, List.map_cons] at h
    obtain ⟨h1, h2⟩ := List.cons.inj h
    rw [hf _ _ h1, map_inj' hf h2]
theorem tmD_inj (a b : Tm) (h : tmD a = tmD b) : a = b := by
  obtain ⟨w, p, q⟩ := a; obtain ⟨w', p', q'⟩ := b
  simp only [tmD, frD, D.tup.injEq, List.cons.injEq, D.str.injEq, D.int.injEq, and_true] at h
  obtain ⟨h1, h2, h3⟩ := h
  rw [S_inj h1, h2, h3]
theorem tieD_inj (a b : Tie) (h : tieD a = tieD b) : a = b := by
  obtain ⟨ts, p, q⟩ := a; obtain ⟨ts', p', q'⟩ := b
  simp only [tieD, tsD, frD, D.tup.injEq, List.cons.injEq, D.int.injEq, and_true] at h
  obtain ⟨h1, h2, h3⟩ := h
  rw [map_inj' tmD_inj h1, h2, h3]
theorem wsL_inj {ws ws' : List Nm} : wsL ws = wsL ws' ↔ ws = ws' := ⟨fun h => map_inj' (fun a b e => S_inj (D.str.inj e)) h, fun h => by rw [h]⟩
/-! ### text -/
/- def Lot.text, slots 0 self 1 tie -/
/-! ### steps compared, their names -/
def ph_Step___eq__ : P0 := fun ds m k => ∃ (d e : D) (ws : List Nm) (Ts : List Tie), ds = [d, e] ∧ asI "Step" m d = some (lotF ws Ts) ∧ LtE ws Ts ∧
  ((∃ ws' Ts', asI "Step" m e = some (lotF ws' Ts') ∧ LtE ws' Ts' ∧ k (.bl (decide (ws = ws') && decide (Ts = Ts'))) m) ∨ (asI "Step" m e = none ∧ (asL m e).isSome = true ∧ k (.bl false) m))
theorem l_Step___eq__ : ∀ ds m k, ph_Step___eq__ ds m k → ds.length = 2 := by rintro _ m k ⟨_, _, _, _, rfl, _⟩; rfl
/- def Step.__eq__, slots 0 self 1 other -/
@[reducible] def v_Step___eq__ : VS :=
  (vRet (vAndV (vIsiC "Step" (vVar 1)) (vAndV (vOp oEq (vFld "Step" "words" (vVar 0)) (vFld "Step" "words" (vVar 1))) (vOp oEq (vFld "Step" "held" (vVar 0)) (vFld "Step" "held" (vVar 1))))))
/- def Step.all_names, slots 0 self 1 name -/
@[reducible] def v_Step_all_names : VS :=
  (vRet (vCB oSortA (vCons (vOp oAdd (vFld "Step" "words" (vVar 0)) (vLc (vWalk (vFld "Step" "words" (vVar 0))) (gN 1) vYes (vOp oAdd (vVar 1) (vC (.str "'"))) [1])) vNil)))


theorem w_Step___eq__ : ∀ ds m k, ph_Step___eq__ ds m k → v_Step___eq__ (dstart 2 ds) m (endP k) := by
  rintro _ m k ⟨d, e, ws, Ts, rfl, hd, he, h⟩
  unfold v_Step___eq__
  walk_at "vc"
  unfold isiD
  rcases h with ⟨ws', Ts', h1, h2, hk⟩ | ⟨h1, h2, hk⟩
  · rw [h1]
    walk_at "vc"
    rw [hd, onO_1, lk_words, onO_1, lk_words, onO_1, eqK_l]
    refine eqP_D (c := decide (ws = ws')) (cE_nms he.nm) (cE_nms h2.nm) (dp_nms _) (dp_nms _) (by rw [decide_eq_true_eq, D.lst.injEq, wsL_inj]) ?_
    by_cases e1 : ws = ws'
    · simp only [decide_eq_true e1, Bool.true_and] at hk ⊢
      walk_at "vc"
      rw [lk_held, onO_1, lk_held, onO_1, eqK_l]
      refine eqP_D (c := decide (Ts = Ts')) (cE_ties he.tm) (cE_ties h2.tm) (dp_ties _) (dp_ties _) (by rw [decide_eq_true_eq, D.lst.injEq]; exact ⟨fun h => by rw [h], fun h => map_inj' tieD_inj h⟩) ?_
      exact hk
    · simp only [decide_eq_false e1, Bool.false_and] at hk ⊢
      walk_at "vc"
      exact hk
  · rw [h1]
    obtain ⟨es, h2⟩ := Option.isSome_iff_exists.mp h2
    have : isDit e = false ∧ ∃ t, tyM m e = some t := by
      cases e with
      | lst ds => exact ⟨rfl, _, rfl⟩
      | lat a ds => exact ⟨rfl, _, rfl⟩
      | ref p =>
        rw [asL_rf] at h2
        refine ⟨rfl, ?_⟩
        cases hm : m p with
        | none => rw [hm] at h2; cases h2
        | some o =>
          rw [hm] at h2
          cases o with
          | lst ds => exact ⟨_, by simp only [tyM, hm]; rfl⟩
          | _ => cases h2
      | _ => cases h2
    obtain ⟨h3, t, h4⟩ := this
    dsimp only
    rw [h4, onO_1]
    exact ⟨h3, hk⟩
def ph_Step_all_names : P0 := fun ds m k => ∃ d ws ts, ds = [d] ∧ asI "Step" m d = some (lotG ws ts) ∧ ws.length ≤ 1000 ∧ (∀ w ∈ ws, w.length ≤ 1000) ∧ k (.lst (wsL (srt (knwn ws)))) m
theorem l_Step_all_names : ∀ ds m k, ph_Step_all_names ds m k → ds.length = 1 := by rintro _ m k ⟨_, _, _, rfl, _⟩; rfl
theorem lkG_words {ws : List Nm} {ts : List D} : List.lookup ("words" : Str) (lotG ws ts) = some (.lst (wsL ws)) := by simp [List.lookup]
theorem lkG_held {ws : List Nm} {ts : List D} : List.lookup ("held" : Str) (lotG ws ts) = some (.lst ts) := by
  have : (("held" : Str) == ("words" : Str)) = false := by decide +kernel
  simp [List.lookup, this]
theorem srtD_of {ws : List Nm} {ys : List Str} (hy : ys.Perm (ws.map S)) (hs : sortedS ys = true) : ys.map D.str = wsL (srt ws) := by
  rw [srt_uniq hy hs, List.map_map]; rfl
theorem strDs_ws (ws : List Nm) : strDs (wsL ws) = some (ws.map S) := by
  rw [show wsL ws = (ws.map S).map D.str by unfold wsL; rw [List.map_map]; rfl, strDs_map]
theorem w_Step_all_names : ∀ ds m k, ph_Step_all_names ds m k → v_Step_all_names (dstart 2 ds) m (endP k) := by
  rintro _ m k ⟨d, ws, ts, rfl, hd, hl, hw, hk⟩
  unfold v_Step_all_names
  rw [quo_S]
  walk_at "vc"
  rw [hd, onO_1, lkG_words, onO_1]
  walk_at "vc"
  refine ⟨by rw [List.length_map]; omega, ?_⟩
  refine lc_map (h := fun n : Nm => .str (S (n ++ [39]))) ws [] (fun n hn k' _ hk' => ?_) ?_
  · walk_at "vc"
    exact ⟨by have := hw n hn; (try simp); omega, hk'⟩
  rw [List.nil_append, show (ws.map fun n : Nm => D.str (S (n ++ [39]))) = wsL (ws.map (· ++ [39])) by unfold wsL; rw [List.map_map]; rfl]
  walk_at "vc"
  rw [← wsL_app, strDs_ws, onO_1]
  refine ⟨by simp only [List.length_map]; omega, by rw [List.length_map, List.length_append, List.length_map]; omega, fun ys hy hs => ?_⟩
  rw [srtD_of hy hs]
  exact hk

/-! ### rows of figures: bounds -/
structure Rw where
  a : Int
  b : Int
  c : Rat
/-- of so many bits -/
structure ROk (n : Nat) (r : Rw) : Prop where
  nz : r.a ≠ 0 ∨ r.b ≠ 0
  ba : r.a.natAbs < 2 ^ n
  bb : r.b.natAbs < 2 ^ n
  bc : Bq n r.c
theorem pow_le {n m : Nat} (l : n ≤ m) : 2 ^ n ≤ 2 ^ m := Nat.pow_le_pow_right (by decide) l
theorem ROk.mono {n m : Nat} {r : Rw} (h : ROk n r) (l : n ≤ m) : ROk m r := ⟨h.nz, Nat.lt_of_lt_of_le h.ba (pow_le l), Nat.lt_of_lt_of_le h.bb (pow_le l), h.bc.mono l⟩
def OkQ (n : Nat) : Option Rat → Prop
  | none => True
  | some f => Bq n f
theorem OkQ.mono {n m : Nat} {f : Option Rat} (h : OkQ n f) (l : n ≤ m) : OkQ m f := by
  cases f with
  | none => trivial
  | some x => exact Bd.mono h l
/-- the lesser one, the greater one; none: there is none -/
def omin : Option Rat → Option Rat → Option Rat
  | f, none => f
  | none, g => g
  | some x, some y => if y < x then some y else some x
theorem OkQ.omin {n : Nat} {f g : Option Rat} (h : OkQ n f) (h' : OkQ n g) : OkQ n (omin f g) := by
  cases f <;> cases g <;> simp only [Ts.omin] <;> first | assumption | (split <;> assumption)
/- def least, slots 0 values 1 found 2 value -/
/- def greatest, slots 0 values 1 found 2 value -/
/-- value at most bound -/
def atm (f : Option Rat) (g : Rat) : Bool := match f with
  | none => false
  | some x => !decide (g < x)
/- def is_at_most, slots 0 value 1 bound -/
/-- two rows bound a sum -/
def det (r s : Rw) : Int := r.a * s.b - r.b * s.a
def shr1 (a b : Int) (r s : Rw) : Rat := ((a * s.b - b * s.a : Int) : Rat) / (det r s : Rat)
def shr2 (a b : Int) (r s : Rw) : Rat := ((r.a * b - r.b * a : Int) : Rat) / (det r s : Rat)
def bndI (a b : Int) (r : Rw) (f : Option Rat) (s : Rw) : Option Rat :=
  if det r s = 0 then f
  else if 0 ≤ shr1 a b r s ∧ 0 ≤ shr2 a b r s then omin f (some (shr1 a b r s * r.c + shr2 a b r s * s.c))
  else f
/-- one row bounds a sum -/
def shr0 (a b : Int) (r : Rw) : Rat := if r.a ≠ 0 then (a : Rat) / (r.a : Rat) else (b : Rat) / (r.b : Rat)
def bndS (a b : Int) (f : Option Rat) (r : Rw) : Option Rat :=
  if r.a * b = r.b * a ∧ 0 < r.a * a + r.b * b then omin f (some (shr0 a b r * r.c)) else f
def bndG (a b : Int) : List Rw → List Rw → Option Rat → Option Rat
  | _, [], f => f
  | dn, r :: rs, f => bndG a b (dn ++ [r]) rs (dn.foldl (bndI a b r) (bndS a b f r))
/-- the least bound of a*x + b*y -/
def bnd (rs : List Rw) (a b : Int) : Option Rat := bndG a b [] rs none
theorem Bq.big {n : Nat} {f : Rat} (h : Bq n f) (hn : n ≤ 3000) : Bq 3000 f := h.mono hn
section
variable {n : Nat} {a b : Int} {r s : Rw} {f : Option Rat}
end

/-! ### bound_of -/
/-- a list, frozen or of the memory -/
def LstAt (m : Mem) (d : D) (es : List D) : Prop := d = .lst es ∨ ∃ p, d = .ref p ∧ m p = some (.lst es)
theorem LstAt.items {m : Mem} {d : D} {es : List D} (h : LstAt m d es) : itemsOf m d = some es := by
  rcases h with rfl | ⟨p, rfl, h⟩
  · rfl
  · show asL m (.ref p) = _
    walk_at "vc"
    rw [h]
    rfl
/- def bound_of, slots 0 rows 1 a 2 b 3 found 4 at 5 p 6 q 7 c 8 share 9 u 10 v 11 d 12 turn 13 one 14 other -/
theorem LstAt.cut {m : Mem} {d : D} {es : List D} (h : LstAt m d es) (hl : es.length ≤ 1000) {i : Nat} (hi : i ≤ es.length) {k : D → Mem → Prop} (hk : k (.lst (es.take i)) m) : oSl d none (some (i : Int)) m k := by
  rcases h with rfl | ⟨p, rfl, h⟩
  · walk_at "vc"
    rw [cutN_to]
    exact hk
  · walk_at "vc"
    rw [h]
    walk_at "vc"
    rw [cutN_to]
    exact hk
/-! ### rows judged, made normal, ordered, kept -/
/- def is_row, slots 0 thing -/
theorem pow_pos1 {n : Nat} {a : Int} (h : a.natAbs < 2 ^ n) (h0 : a ≠ 0) : 1 < 2 ^ n := by omega
theorem ROk.one {n : Nat} {r : Rw} (h : ROk n r) : 1 < 2 ^ n := h.nz.elim (pow_pos1 h.ba) (pow_pos1 h.bb)
/- def normal, slots 0 row 1 part -/
def half (r : Rw) : Int := if r.b < 0 ∨ (r.b = 0 ∧ r.a < 0) then 1 else 0
def ahead (r s : Rw) : Bool := if half r ≠ half s then decide (half r < half s) else decide (0 < r.a * s.b - r.b * s.a)
/- def is_ahead, slots 0 one 1 other 2 halves 3 row -/
/- def by_direction, slots 0 rows 1 found 2 row 3 at -/
/-! kept rows -/
def keptF : List Rw → List Rw → Option (List Rw)
  | acc, [] => some acc
  | acc, r :: rs => if atm (bnd acc r.a r.b) r.c = true then keptF acc rs else match bnd acc (-r.a) (-r.b) with
    | some l => if l + r.c < 0 then none else keptF (acc ++ [r]) rs
    | none => keptF (acc ++ [r]) rs
def kept (rs : List Rw) : Option (List Rw) := keptF [] rs
/- def kept_rows, slots 0 rows 1 found 2 row 3 a 4 b 5 c 6 low -/
/-! ### rows of points, of lines; canonical rows -/
/- def point_rows, slots 0 x 1 y -/
/-- an end, if there is one -/
def endF (a b : Int) : Option Rat → List Rw
  | none => []
  | some c => [⟨a, b, c⟩]
/- def line_rows, slots 0 rows 1 line 2 a 3 b 4 c 5 x 6 top 7 low 8 ends 9 end -/
/-! ### canonical rows -/
instance : DecidableEq Rw := fun r s => decidable_of_iff (r.a = s.a ∧ r.b = s.b ∧ r.c = s.c) ⟨fun h => by cases r; cases s; obtain ⟨h1, h2, h3⟩ := h; dsimp only at h1 h2 h3; subst h1 h2 h3; rfl, fun h => by rw [h]; exact ⟨rfl, rfl, rfl⟩⟩
/-- a list or a tuple -/
def SeqD (d : D) (es : List D) : Prop := d = .lst es ∨ d = .tup es
/- def canonical, slots 0 rows 1 found 2 a 3 b 4 c 5 low 6 row 7 others 8 other -/
/-! ### sums of shares of ties -/
structure Te where
  ts : Al
  b : Rat
abbrev tqD (t : Nm × Rat) : D := .tup [.str (S t.1), qD t.2]
abbrev teD (T : Te) : D := .tup [.tup (T.ts.map tqD), qD T.b]
def AlQ (n : Nat) (rs : Al) : Prop := ∀ p ∈ rs, Bq n p.2
theorem AlQ.put {n k : Nat} {rs : Al} {a : Nm} {q : Rat} (h : AlQ n rs) (hq : Bq k q) (hk : n ≤ k) : AlQ k (putA rs a q) := fun p hp => by
  rcases putA_mem hp with rfl | hp
  · exact hq
  · exact (h p hp).mono hk
/- lent by k27 -/
/- def total, slots 0 ties 1 paper 2 rates 3 bound 4 last 5 pair 6 name 7 rate -/
theorem SeqD.len {d : D} {es : List D} {m : Mem} {k : KD} (h : SeqD d es) (hk : k (.int (es.length : Int)) m) : oLen [d] m k := by rcases h with rfl | rfl <;> exact hk
theorem getA_memq {rs : Al} {a : Nm × Rat} (hnd : (rs.map (·.1)).Nodup) (h : a ∈ rs) : getA rs a.1 = some a.2 := by
  induction rs with
  | nil => cases h
  | cons p rs ih =>
    rw [List.map_cons, List.nodup_cons] at hnd
    unfold getA
    rw [List.find?_cons]
    rcases List.mem_cons.mp h with rfl | h
    · simp
    · have : ¬ p.1 = a.1 := fun z => hnd.1 (List.mem_map.mpr ⟨a, h, z.symm⟩)
      simp only [this, decide_false]
      exact ih hnd.2 h
/-! ### Figure(rows) -/
/- def Figure.__init__, slots 0 self 1 rows 2 at 3 row 4 found -/
/-! ### a part -/
/- lent by k06 -/
/- def _law_part, slots 0 _law_feed_here 1 _law_size 2 _law_upper -/
/-! ### drawn rows -/
theorem ok_rf {p : Int × Int} (h : Fr.Ok p) : ∃ q : Rat, p = rf q := by
  obtain ⟨a, b⟩ := p
  obtain ⟨h1, h2⟩ := h
  have h1 : (0 : Int) < b := h1
  have h2 : Int.gcd a b = 1 := h2
  refine ⟨⟨a, b.toNat, by omega, ?_⟩, ?_⟩
  · show Nat.gcd a.natAbs b.toNat = 1
    have : b.natAbs = b.toNat := by omega
    rw [← this]; exact h2
  · show (a, b) = (a, ((b.toNat : Nat) : Int))
    rw [Int.toNat_of_nonneg (by omega)]
instance (p : Int × Int) : Decidable (Fr.Ok p) := inferInstanceAs (Decidable (_ ∧ _))
instance (n : Nat) (p : Int × Int) : Decidable (Bd n p) := inferInstanceAs (Decidable (_ ∧ _))
/-- one of some written fractions -/
theorem frs_any {n : Nat} (ps : List (Int × Int)) (h : ∀ p ∈ ps, (Fr.Ok p ∧ Bd n p)) {d : D} (hd : d ∈ ps.map frD) : ∃ q : Rat, d = qD q ∧ Bq n q := by
  obtain ⟨p, hp, rfl⟩ := List.mem_map.mp hd
  obtain ⟨h1, h2⟩ := h p hp
  obtain ⟨q, rfl⟩ := ok_rf h1
  exact ⟨q, rfl, h2⟩
section
variable {m : Mem} {k : KD}
theorem dr {n : Int} (h0 : 0 < n) (h1 : n ≤ 1000000) (hk : ∀ r, 0 ≤ r → r < n → k (.int r) m) : ph__law_draw [.feed, .int n] m k := ⟨pre_s h0 (by omega), hk⟩
theorem anyq {n : Nat} (ps : List (Int × Int)) (h : ∀ p ∈ ps, (Fr.Ok p ∧ Bd n p)) (h0 : ps ≠ []) (hl : ps.length ≤ 1000) (hk : ∀ q : Rat, Bq n q → k (qD q) m) : ph__law_any [.feed, .lst (ps.map frD)] m k :=
  ⟨fun z => h0 (List.map_eq_nil_iff.mp z), by rw [List.length_map]; omega, fun d hd => by
    obtain ⟨q, rfl, hq⟩ := frs_any ps h hd
    exact hk q hq⟩
end
/- lent by k12 -/
/- def _law_spot, slots 0 _law_a 1 _law_b 2 _law_point -/
/- lent by k12 -/
/- def _law_rows, slots 0 _law_feed_here 1 _law_many 2 _law_first_x 3 _law_second_y 4 _law_found 5 _law_loose 6 _law_k 7 _law_a 8 _law_b 9 _law_c -/
/-! ### a point: values by names -/
def pts : List (Int × Int) := [(0, 1), (1, 1), (2, 1), (-1, 1), (1, 2), (3, 1), (-5, 3)]
/-- the pairs of a point -/
def ptK (ps : List (List Nat × (Int × Int))) : List (Key × D) := ps.map fun p => (.inr (S p.1), frD p.2)
def ph__law_point : P0 := fun ds m k => ∃ ws : List (List Nat), ds = [.feed, wsD ws] ∧ ws.length ≤ 100 ∧ ws.Nodup ∧ ∀ ps : List (List Nat × (Int × Int)), ps.map (·.1) = ws → (∀ p ∈ ps, p.2 ∈ pts) → k (.dic (ptK ps)) m
theorem l__law_point : ∀ ds m k, ph__law_point ds m k → ds.length = 2 := by rintro _ m k ⟨_, rfl, _⟩; rfl
theorem putD_new {κ α : Type} [DecidableEq κ] {kvs : List (κ × α)} {k : κ} {v : α} (h : k ∉ kvs.map (·.1)) : putD kvs k v = kvs ++ [(k, v)] := by
  unfold putD
  rw [if_neg]
  intro z
  obtain ⟨x, hx, e⟩ := List.any_eq_true.mp z
  exact h (List.mem_map.mpr ⟨x, hx, of_decide_eq_true e⟩)
theorem mergeD_new : ∀ (cs kvs : List (Key × D)), ((kvs ++ cs).map (·.1)).Nodup → mergeD kvs cs = kvs ++ cs
  | [], kvs, _ => (List.append_nil _).symm
  | c :: cs, kvs, nd => by
    have h : c.1 ∉ kvs.map (·.1) := fun z => by
      rw [List.map_append, List.map_cons] at nd
      exact (List.nodup_append.mp nd).2.2 _ z _ List.mem_cons_self rfl
    show mergeD (putD kvs c.1 c.2) cs = _
    rw [putD_new h, mergeD_new cs (kvs ++ [c]) (by rw [List.append_assoc]; exact nd), List.append_assoc]
    rfl
/- def _law_point, slots 0 _law_feed_here 1 _law_words_here 2 _law_name -/
@[reducible] def v__law_point : VS :=
  (vRet (vCB oDict (vCons (vLc (vWalk (vVar 1)) (gN 2) vYes (vTup (vCons (vVar 2) (vCons (vCall ph__law_any (vCons (vVar 0) (vCons (vLst (vCons (vTup (vCons (vC (.int 0)) (vCons (vC (.int 1)) vNil))) (vCons (vTup (vCons (vC (.int 1)) (vCons (vC (.int 1)) vNil))) (vCons (vTup (vCons (vC (.int 2)) (vCons (vC (.int 1)) vNil))) (vCons (vTup (vCons (vUn oNeg (vC (.int 1))) (vCons (vC (.int 1)) vNil))) (vCons (vTup (vCons (vC (.int 1)) (vCons (vC (.int 2)) vNil))) (vCons (vTup (vCons (vC (.int 3)) (vCons (vC (.int 1)) vNil))) (vCons (vTup (vCons (vUn oNeg (vC (.int 5))) (vCons (vC (.int 3)) vNil))) vNil)))))))) vNil))) vNil))) [2]) vNil)))


theorem pairs_pt : ∀ ps : List (List Nat × (Int × Int)), pairsD (ps.map fun p => .tup [.str (S p.1), frD p.2]) = some (ptK ps)
  | [] => rfl
  | p :: ps => by
    have e := pairs_pt ps
    simp only [List.map_cons, pairsD, pairD, keyD, Option.map_some, e]
    rfl
theorem ptK_nd {ps : List (List Nat × (Int × Int))} (h : (ps.map (·.1)).Nodup) : ((ptK ps).map (·.1)).Nodup := by
  unfold ptK
  rw [List.map_map, List.Nodup, List.pairwise_map]
  rw [List.Nodup, List.pairwise_map] at h
  exact h.imp fun h e => h (S_inj (Sum.inr.inj e))
theorem w__law_point : ∀ ds m k, ph__law_point ds m k → v__law_point (dstart 3 ds) m (endP k) := by
  rintro _ m k ⟨ws, rfl, hl, nd, hk⟩
  unfold v__law_point
  walk_at "vc"
  refine ⟨by rw [List.length_map]; omega, lc_rel (fun (w : List Nat) y => ∃ q ∈ pts, y = .tup [.str (S w), frD q]) ws [] (fun w hw k' _ hk => ?_) fun ys hys => ?_⟩
  · walk_at "vc"
    simp only [ph__law_any]
    refine ⟨by simp, by simp, fun d hd => ?_⟩
    have e : d ∈ pts.map frD := hd
    obtain ⟨q, hq, rfl⟩ := List.mem_map.mp e
    exact hk _ ⟨q, hq, rfl⟩
  · obtain ⟨ps, rfl, h1, h2⟩ : ∃ ps : List (List Nat × (Int × Int)), ys = ps.map (fun p => D.tup [.str (S p.1), frD p.2]) ∧ ps.map (·.1) = ws ∧ ∀ p ∈ ps, p.2 ∈ pts := by
      clear nd hl hk
      induction hys with
      | nil => exact ⟨[], rfl, rfl, fun p h => by cases h⟩
      | cons q _ ih =>
        obtain ⟨v, hv, rfl⟩ := q
        obtain ⟨ps, rfl, h1, h2⟩ := ih
        refine ⟨(_, v) :: ps, rfl, by rw [List.map_cons, h1], fun p hp => ?_⟩
        rcases List.mem_cons.mp hp with rfl | hp
        · exact hv
        · exact h2 p hp
    rw [List.nil_append]
    refine .inr ⟨_, ptK ps, rfl, pairs_pt ps, ?_⟩
    have e := mergeD_new (ptK ps) [] (by rw [List.nil_append]; exact ptK_nd (by rw [h1]; exact nd))
    rw [e, List.nil_append]
    exact hk ps h1 h2

/-! ### drawn terms, values, sums over rationals -/
def AscQ (ts : Al) : Prop := ts.Pairwise fun a b => a.1 < b.1
structure TqOk (ws : List Nm) (ts : Al) : Prop where
  len : ts.length = 1 ∨ ts.length = 2
  nm : ∀ t ∈ ts, t.1 ∈ ws
  nz : ∀ t ∈ ts, t.2 ≠ 0
  bd : ∀ t ∈ ts, Bq 4 t.2
  asc : AscQ ts
theorem rates_q : ∀ p ∈ rates, ∃ q : Rat, p = rf q ∧ q ≠ 0 ∧ Bq 4 q := by
  intro p hp
  have h : Fr.Ok p ∧ Bd 4 p ∧ p.1 ≠ 0 := by
    have : ∀ p ∈ rates, Fr.Ok p ∧ Bd 4 p ∧ p.1 ≠ 0 := by decide
    exact this p hp
  obtain ⟨q, rfl⟩ := ok_rf h.1
  exact ⟨q, rfl, fun z => h.2.2 (num_zero.mpr z), h.2.1⟩
theorem point' {ws : List Nm} {m : Mem} {k : KD} (h2 : ws.length ≤ 100) (h3 : ws.Nodup) (hk : ∀ ps : Al, ps.map (·.1) = ws → (∀ p ∈ ps, Bq 4 p.2) → k (.dic (alD ps)) m) : ph__law_point [.feed, wsD ws] m k := by
  refine ⟨ws, rfl, h2, h3, fun ps he hp => ?_⟩
  have : ∀ ps : List (List Nat × (Int × Int)), (∀ p ∈ ps, p.2 ∈ pts) → ∃ qs : Al, ps = qs.map (fun t => (t.1, rf t.2)) ∧ ∀ t ∈ qs, Bq 4 t.2 := by
    intro ps
    induction ps with
    | nil => exact fun _ => ⟨[], rfl, by simp⟩
    | cons t ps ih =>
      intro h
      obtain ⟨qs, rfl, h2⟩ := ih fun x hx => h x (List.mem_cons_of_mem _ hx)
      have h : Fr.Ok t.2 ∧ Bd 4 t.2 := by
        have : ∀ p ∈ pts, Fr.Ok p ∧ Bd 4 p := by decide
        exact this t.2 (h t List.mem_cons_self)
      obtain ⟨q, e⟩ := ok_rf h.1
      refine ⟨(t.1, q) :: qs, by rw [List.map_cons, ← e], fun x hx => ?_⟩
      rcases List.mem_cons.mp hx with rfl | hx
      · show Bd 4 (rf q); rw [← e]; exact h.2
      · exact h2 x hx
  obtain ⟨qs, rfl, hq⟩ := this ps hp
  have e : ptK (qs.map fun t => (t.1, rf t.2)) = alD qs := by unfold ptK alD; rw [List.map_map]; rfl
  rw [e]
  exact hk qs (by rw [← he, List.map_map]; rfl) hq
/-- the sum of the rates times the values -/
def dot (ts ps : Al) : Rat := ts.foldl (fun a t => a + t.2 * (getA ps t.1).getD 0) 0
def ph_sum_at : P0 := fun ds m k => ∃ (ts ps : Al) (d : D), ds = [.tup (ts.map tqD), d] ∧ asK m d = some (alD ps) ∧ ts.length ≤ 4 ∧ (∀ t ∈ ts, Bq 300 t.2 ∧ ∃ q, getA ps t.1 = some q ∧ Bq 300 q) ∧ k (qD (dot ts ps)) m
theorem l_sum_at : ∀ ds m k, ph_sum_at ds m k → ds.length = 2 := by rintro _ m k ⟨_, _, _, rfl, _⟩; rfl
def ph__law_total : P0 := ph_sum_at
theorem l__law_total : ∀ ds m k, ph__law_total ds m k → ds.length = 2 := l_sum_at
@[reducible] def v_sum_at_b1 : VS :=
  (vSet 2 (vCall ph_add (vCons (vVar 2) (vCons (vCall ph_multiply (vCons (vVar 4) (vCons (vDGet (vVar 1) (vVar 3)) vNil))) vNil))))
/- def sum_at, slots 0 terms 1 values 2 found 3 name 4 rate -/
@[reducible] def v_sum_at : VS :=
  (vSeq (vSet 2 (vC (.tup [.int 0, .int 1])))
    (vSeq (vFor (vWalk (vVar 0)) (gTp 2 (gCn (gN 3) (gCn (gN 4) gNl))) v_sum_at_b1)
    (vRet (vVar 2))))
@[reducible] def v__law_total_b1 : VS :=
  (vSet 2 (vCall ph__law_plus (vCons (vVar 2) (vCons (vCall ph__law_by (vCons (vVar 4) (vCons (vDGet (vVar 1) (vVar 3)) vNil))) vNil))))
/- def _law_total, slots 0 _law_terms 1 _law_values 2 _law_found 3 _law_name 4 _law_rate_here -/
@[reducible] def v__law_total : VS :=
  (vSeq (vSet 2 (vTup (vCons (vC (.int 0)) (vCons (vC (.int 1)) vNil))))
    (vSeq (vFor (vWalk (vVar 0)) (gTp 2 (gCn (gN 3) (gCn (gN 4) gNl))) v__law_total_b1)
    (vRet (vVar 2))))


theorem w_sum_at : ∀ ds m k, ph_sum_at ds m k → v_sum_at (dstart 5 ds) m (endP k) := by
  rintro _ m k ⟨ts, ps, d, rfl, hd, hl, ht, hk⟩
  unfold v_sum_at
  walk_at "vc"
  refine forV_mapP (f := tqD) (fun ts' s m' => m = m' ∧ ∃ (a : Rat) (x3 x4 : Option D), s = [some (.tup (ts.map tqD)), some d, some (qD a), x3, x4] ∧ ts'.length ≤ 4 ∧ (∀ t ∈ ts', t ∈ ts) ∧ Bq (601 * (4 - ts'.length) + 1) a ∧ ts'.foldl (fun a t => a + t.2 * (getA ps t.1).getD 0) a = dot ts ps) ?_ ?_ ⟨rfl, 0, _, _, rfl, hl, fun _ h => h, (show Bd 1 (rf 0) by decide).mono (by omega), rfl⟩
  · rintro s _ ⟨rfl, a, x3, x4, rfl, _, _, _, e⟩
    have e : a = dot ts ps := e
    walk_at "vc"
    rw [e]
    exact hk
  · rintro t ts' s _ P ⟨rfl, a, x3, x4, rfl, h1, h2, h3, e⟩ ih
    simp only [List.length_cons] at h1 h3
    obtain ⟨b1, q, hq, b2⟩ := ht t (h2 t List.mem_cons_self)
    unfold v_sum_at_b1
    walk_at "vc"
    rw [hd]
    walk_at "vc"
    rw [val_al, hq, Option.map_some]
    walk_at "vc"
    refine pq_mul (b1.big (by decide)) (b2.big (by decide)) ?_
    refine pq_add (h3.big (by omega)) ((b1.mul b2).big (by decide)) ?_
    refine ih _ _ ⟨rfl, _, _, _, rfl, by omega, fun x hx => h2 x (List.mem_cons_of_mem _ hx), (h3.add (b1.mul b2)).mono (by omega), ?_⟩
    rw [List.foldl_cons, hq] at e
    exact e
theorem w__law_total : ∀ ds m k, ph__law_total ds m k → v__law_total (dstart 5 ds) m (endP k) := by
  rintro _ m k ⟨ts, ps, d, rfl, hd, hl, ht, hk⟩
  unfold v__law_total
  walk_at "vc"
  refine forV_mapP (f := tqD) (fun ts' s m' => m = m' ∧ ∃ (a : Rat) (x3 x4 : Option D), s = [some (.tup (ts.map tqD)), some d, some (qD a), x3, x4] ∧ ts'.length ≤ 4 ∧ (∀ t ∈ ts', t ∈ ts) ∧ Bq (601 * (4 - ts'.length) + 1) a ∧ ts'.foldl (fun a t => a + t.2 * (getA ps t.1).getD 0) a = dot ts ps) ?_ ?_ ⟨rfl, 0, _, _, rfl, hl, fun _ h => h, (show Bd 1 (rf 0) by decide).mono (by omega), rfl⟩
  · rintro s _ ⟨rfl, a, x3, x4, rfl, _, _, _, e⟩
    have e : a = dot ts ps := e
    walk_at "vc"
    rw [e]
    exact hk
  · rintro t ts' s _ P ⟨rfl, a, x3, x4, rfl, h1, h2, h3, e⟩ ih
    simp only [List.length_cons] at h1 h3
    obtain ⟨b1, q, hq, b2⟩ := ht t (h2 t List.mem_cons_self)
    unfold v__law_total_b1
    walk_at "vc"
    rw [hd]
    walk_at "vc"
    rw [val_al, hq, Option.map_some]
    walk_at "vc"
    refine pq_mul (b1.big (by decide)) (b2.big (by decide)) ?_
    refine pq_add (h3.big (by omega)) ((b1.mul b2).big (by decide)) ?_
    refine ih _ _ ⟨rfl, _, _, _, rfl, by omega, fun x hx => h2 x (List.mem_cons_of_mem _ hx), (h3.add (b1.mul b2)).mono (by omega), ?_⟩
    rw [List.foldl_cons, hq] at e
    exact e
/-! ### drawn ties -/
def ph__law_minus : P0 := fun ds m k => ∃ a : Rat, ds = [qD a] ∧ k (qD (-a)) m
theorem l__law_minus : ∀ ds m k, ph__law_minus ds m k → ds.length = 1 := by rintro _ m k ⟨_, rfl, _⟩; rfl
/- def _law_minus, slots 0 _law_one -/
@[reducible] def v__law_minus : VS :=
  (vRet (vTup (vCons (vUn oNeg (vOp oIx (vVar 0) (vC (.int 0)))) (vCons (vOp oIx (vVar 0) (vC (.int 1))) vNil))))


theorem w__law_minus : ∀ ds m k, ph__law_minus ds m k → v__law_minus (dstart 1 ds) m (endP k) := by
  rintro _ m k ⟨a, rfl, hk⟩
  unfold v__law_minus
  walk_at "vc"
  have e : D.tup [.int (-(rf a).1), .int (rf a).2] = qD (-a) := by show _ = frD (rf (-a)); rw [← fneg_q]; rfl
  rw [e]
  exact hk
/- lent by k27 -/
/- def _law_ties, slots 0 _law_feed_here 1 _law_words_here 2 _law_many 3 _law_open_cases 4 _law_point_here 5 _law_found 6 _law_loose 7 _law_k 8 _law_terms_here 9 _law_bound 10 _law_room -/
def ph__law_under : P0 := ph_is_less
theorem l__law_under : ∀ ds m k, ph__law_under ds m k → ds.length = 2 := l_two
/- def _law_under, slots 0 _law_one 1 _law_two -/
@[reducible] def v__law_under : VS :=
  (vRet (vOp oLt (vOp oMul (vOp oIx (vVar 0) (vC (.int 0))) (vOp oIx (vVar 1) (vC (.int 1)))) (vOp oMul (vOp oIx (vVar 1) (vC (.int 0))) (vOp oIx (vVar 0) (vC (.int 1))))))


theorem w__law_under : ∀ ds m k, ph__law_under ds m k → v__law_under (dstart 2 ds) m (endP k) := w_is_less

/-! ### k16: ties by rationals, kept, strange names -/
/-- a tie over rationals as a tie -/
def toT (T : Te) : Tie := (T.ts.map fun t => (t.1, rf t.2), rf T.b)
theorem teD_T (T : Te) : teD T = tieD (toT T) := by
  show D.tup [.tup (T.ts.map tqD), qD T.b] = .tup [.tup ((T.ts.map fun t => ((t.1, rf t.2) : Tm)).map tmD), frD (rf T.b)]
  rw [List.map_map]; rfl
theorem teDs_T (Ts : List Te) : Ts.map teD = (Ts.map toT).map tieD := by
  rw [List.map_map]
  exact List.map_congr_left fun T _ => teD_T T
def kpt (ps : Al) (T : Te) : Bool := !decide (T.b < dot T.ts ps)
def ph_is_kept : P0 := fun ds m k => ∃ (T : Te) (d : D) (ps : Al), ds = [teD T, d] ∧ asK m d = some (alD ps) ∧ T.ts.length ≤ 2 ∧ Bq 2000 T.b ∧ (∀ t ∈ T.ts, Bq 300 t.2 ∧ ∃ q, getA ps t.1 = some q ∧ Bq 300 q) ∧ k (.bl (kpt ps T)) m
theorem l_is_kept : ∀ ds m k, ph_is_kept ds m k → ds.length = 2 := by rintro _ m k ⟨_, _, _, rfl, _⟩; rfl
def ph__law_keeps : P0 := ph_is_kept
theorem l__law_keeps : ∀ ds m k, ph__law_keeps ds m k → ds.length = 2 := l_is_kept
/- def is_kept, slots 0 tie 1 values -/
@[reducible] def v_is_kept : VS :=
  (vRet (vNotV (vCall ph_is_less (vCons (vOp oIx (vVar 0) (vC (.int 1))) (vCons (vCall ph_sum_at (vCons (vOp oIx (vVar 0) (vC (.int 0))) (vCons (vVar 1) vNil))) vNil)))))
/- def _law_keeps, slots 0 _law_tie 1 _law_values -/
@[reducible] def v__law_keeps : VS :=
  (vRet (vNotV (vCall ph__law_under (vCons (vOp oIx (vVar 0) (vC (.int 1))) (vCons (vCall ph__law_total (vCons (vOp oIx (vVar 0) (vC (.int 0))) (vCons (vVar 1) vNil))) vNil)))))


theorem dot_big {ts ps : Al} (hl : ts.length ≤ 2) (h1 : ∀ t ∈ ts, Bq 300 t.2 ∧ ∃ q, getA ps t.1 = some q ∧ Bq 300 q) : Bq 2000 (dot ts ps) := by
  have z0 : Bq 1 (0 : Rat) := by decide
  have step : ∀ t ∈ ts, Bq 600 (t.2 * (getA ps t.1).getD 0) := fun t ht => by
    obtain ⟨h, q, e, hq⟩ := h1 t ht
    rw [e]
    exact h.mul hq
  match ts, hl, step with
  | [], _, _ => exact z0.mono (by decide)
  | [a], _, st => exact (z0.add (st a List.mem_cons_self)).mono (by decide)
  | [a, b], _, st => exact ((z0.add (st a List.mem_cons_self)).add (st b (by simp))).mono (by decide)
theorem w_is_kept : ∀ ds m k, ph_is_kept ds m k → v_is_kept (dstart 2 ds) m (endP k) := by
  rintro _ m k ⟨T, d, ps, rfl, hd, hl, hb, ht, hk⟩
  have bd := dot_big hl ht
  unfold v_is_kept
  walk_at "vc"
  refine ⟨T.ts, ps, d, rfl, hd, by omega, ht, ?_⟩
  refine pq_less (hb.mono (by decide)) (bd.mono (by decide)) ?_
  walk_at "vc"
  exact hk
theorem w__law_keeps : ∀ ds m k, ph__law_keeps ds m k → v__law_keeps (dstart 2 ds) m (endP k) := w_is_kept
/- def Lot.holds, slots 0 self 1 values -/
/-! a name that is not among some -/
theorem sub_len {α : Type} [DecidableEq α] : ∀ {xs ys : List α}, xs.Nodup → (∀ x ∈ xs, x ∈ ys) → xs.length ≤ ys.length
  | [], _, _, _ => Nat.zero_le _
  | x :: xs, ys, hn, h => by
    have hn := List.nodup_cons.mp hn
    have hx := h x List.mem_cons_self
    have ih := sub_len (xs := xs) (ys := ys.erase x) hn.2 fun z hz => (List.mem_erase_of_ne (fun e => hn.1 (by rw [← e]; exact hz))).mpr (h z (List.mem_cons_of_mem _ hz))
    rw [List.length_erase_of_mem hx] at ih
    have := List.length_pos_of_mem hx
    rw [List.length_cons]
    omega
def strangeL : List Nm := [[122, 122], [113], [121, 121, 121], [109], [118, 118, 118, 118], [107, 107], [106], [103, 103], [120, 119, 120, 119, 120], [110]]
def ph__law_strange : P0 := fun ds m k => ∃ ws : List Nm, ds = [wsD ws] ∧ ws.length ≤ 9 ∧ ∀ w ∈ strangeL, w ∉ ws → k (.str (S w)) m
theorem l__law_strange : ∀ ds m k, ph__law_strange ds m k → ds.length = 1 := by rintro _ m k ⟨_, rfl, _⟩; rfl
/- def _law_strange, slots 0 _law_words_here 1 _law_word -/
@[reducible] def v__law_strange : VS :=
  (vRet (vOp oIx (vLc (vWalk (vTup (vCons (vC (.str "zz")) (vCons (vC (.str "q")) (vCons (vC (.str "yyy")) (vCons (vC (.str "m")) (vCons (vC (.str "vvvv")) (vCons (vC (.str "kk")) (vCons (vC (.str "j")) (vCons (vC (.str "gg")) (vCons (vC (.str "xwxwx")) (vCons (vC (.str "n")) vNil)))))))))))) (gN 1) (tV (vOp oNotInL (vVar 1) (vVar 0))) (vVar 1) [1]) (vC (.int 0))))


theorem strange_D : [D.str "zz", D.str "q", D.str "yyy", D.str "m", D.str "vvvv", D.str "kk", D.str "j", D.str "gg", D.str "xwxwx", D.str "n"] = strangeL.map fun w => D.str (S w) := by
  have e : ∀ a b : Str, a = b → D.str a = D.str b := fun a b h => by rw [h]
  unfold strangeL
  simp only [List.map_cons, List.map_nil, List.cons.injEq, D.str.injEq, and_true]
  decide +kernel
theorem w__law_strange : ∀ ds m k, ph__law_strange ds m k → v__law_strange (dstart 2 ds) m (endP k) := by
  rintro _ m k ⟨ws, rfl, hl, hk⟩
  unfold v__law_strange
  walk_at "vc"
  rw [strange_D]
  refine lc_filt (f := fun w : Nm => D.str (S w)) (h := fun w => if w ∈ ws then none else some (.str (S w))) strangeL [] (fun w hw k' kn hy hno => ?_) ?_
  · walk_at "vc"
    rw [flL, onO_1, inL]
    walk_at "vc"
    exact itP (fun h => hy _ (if_neg h)) fun h => hno (if_pos (Decidable.of_not_not h))
  · rw [List.nil_append]
    have ex : ∃ w ∈ strangeL, w ∉ ws := by
      refine Classical.byContradiction fun z => ?_
      have := sub_len (xs := strangeL) (ys := ws) (by decide) fun w hw => Classical.byContradiction fun y => z ⟨w, hw, y⟩
      have : strangeL.length = 10 := rfl
      omega
    have key : ∀ l : List Nm, (∃ w ∈ l, w ∉ ws) → ∃ w r, l.filterMap (fun w => if w ∈ ws then none else some (D.str (S w))) = .str (S w) :: r ∧ w ∈ l ∧ w ∉ ws := by
      intro l
      induction l with
      | nil => rintro ⟨w, hw, _⟩; cases hw
      | cons a l ih =>
        rintro ⟨w, hw, h⟩
        by_cases ha : a ∈ ws
        · rcases List.mem_cons.mp hw with rfl | hw
          · exact absurd ha h
          · obtain ⟨v, r, h1, h2, h3⟩ := ih ⟨w, hw, h⟩
            exact ⟨v, r, by rw [List.filterMap_cons, if_pos ha]; exact h1, List.mem_cons_of_mem _ h2, h3⟩
        · exact ⟨a, _, by rw [List.filterMap_cons, if_neg ha], List.mem_cons_self, ha⟩
    obtain ⟨w, r, e, hw, hn⟩ := key strangeL ex
    rw [e]
    walk_at "vc"
    exact hk w hw hn

/-! ### steps: lot, stay, allows -/
def eqT (a b : Nm) : List Tie := [([(a, (1, 1)), (b, (-1, 1))], (0, 1)), ([(a, (-1, 1)), (b, (1, 1))], (0, 1))]
def stayT (ws : List Nm) : List Tie := ws.flatMap fun w => eqT w (w ++ [39])
def valsA (ws : List Nm) (ps qs : Al) : Al := ps ++ ws.map fun w => (w ++ [39], (getA qs w).getD 0)
def ph_equal_ties : P0 := fun ds m k => ∃ a b : Nm, ds = [.str (S a), .str (S b)] ∧ k (.lst ((eqT a b).map tieD)) m
def ph_Step_lot : PX := fun ds m k x => ∃ (d : D) (ws : List Nm) (ts : List D), ds = [d] ∧ asI "Step" m d = some (lotG ws ts) ∧ ws.length ≤ 100 ∧ (∀ w ∈ ws, w.length ≤ 100) ∧ ts.length ≤ 1000 ∧ (∀ d ∈ ts, Pn d) ∧ nmsF [] (srt (knwn ws)) = none ∧ tsF (srt (knwn ws)) 0 ts = none ∧ ∀ q, m q = none → k (.ref q) (mset m q (.ins "Lot" (lotG (srt (srt (knwn ws))) ts)))
def ph_Step_stay : PX := fun ds m k x => ∃ ns : List Nm, ds = [wsD ns] ∧ ns.length ≤ 100 ∧ (∀ n ∈ ns, n.length ≤ 100) ∧ (∀ n, snmF [] ns = some n → x (exX "InvalidName" "name" (.str (S n))) m) ∧
  (snmF [] ns = none → tsF (knwn ns) 0 ((stayT (srt ns)).map tieD) = none ∧ ∀ q, m q = none → k (.ref q) (mset m q (.ins "Step" (lotG (srt ns) ((stayT (srt ns)).map tieD)))))
def ph_Step_allows : P0 := fun ds m k => ∃ (d : D) (ws : List Nm) (Ts : List Te) (ps qs : Al), ds = [d, .dic (alD ps), .dic (alD qs)] ∧ asI "Step" m d = some (lotF ws (Ts.map toT)) ∧ ws.length ≤ 100 ∧ (∀ w ∈ ws, w.length ≤ 100 ∧ ∃ q, getA qs w = some q) ∧ ps.length ≤ 1000 ∧ (ps.map (·.1) ++ ws.map (· ++ [39])).Nodup ∧ Ts.length ≤ 1000 ∧
  (∀ T ∈ Ts, T.ts.length ≤ 2 ∧ Bq 2000 T.b ∧ ∀ t ∈ T.ts, Bq 300 t.2 ∧ ∃ q, getA (valsA ws ps qs) t.1 = some q ∧ Bq 300 q) ∧ k (.bl (Ts.all (kpt (valsA ws ps qs)))) m
theorem l_equal_ties : ∀ ds m k, ph_equal_ties ds m k → ds.length = 2 := by rintro _ m k ⟨_, _, rfl, _⟩; rfl
theorem l_Step_lot : ∀ ds m k x, ph_Step_lot ds m k x → ds.length = 1 := by rintro _ m k x ⟨_, _, _, rfl, _⟩; rfl
theorem l_Step_stay : ∀ ds m k x, ph_Step_stay ds m k x → ds.length = 1 := by rintro _ m k x ⟨_, rfl, _⟩; rfl
theorem l_Step_allows : ∀ ds m k, ph_Step_allows ds m k → ds.length = 3 := by rintro _ m k ⟨_, _, _, _, _, rfl, _⟩; rfl
/- def equal_ties, slots 0 one 1 other 2 terms 3 name 4 rate -/
@[reducible] def v_equal_ties : VS :=
  (vSeq (vSet 2 (vTup (vCons (vTup (vCons (vVar 0) (vCons (vC (.tup [.int 1, .int 1])) vNil))) (vCons (vTup (vCons (vVar 1) (vCons (vTup (vCons (vUn oNeg (vC (.int 1))) (vCons (vC (.int 1)) vNil))) vNil))) vNil))))
    (vRet (vLst (vCons (vTup (vCons (vVar 2) (vCons (vC (.tup [.int 0, .int 1])) vNil))) (vCons (vTup (vCons (vCB oTuple (vCons (vLc (vWalk (vVar 2)) (gTp 2 (gCn (gN 3) (gCn (gN 4) gNl))) vYes (vTup (vCons (vVar 3) (vCons (vCall ph_negative (vCons (vVar 4) vNil)) vNil))) [3, 4]) vNil)) (vCons (vC (.tup [.int 0, .int 1])) vNil))) vNil)))))
/- def Step.lot, slots 0 self -/
@[reducible] def v_Step_lot : VS :=
  (vRet (vMakeX "Lot" ph_Lot___init__ (vCons (vMeth "Step" "all_names" ph_Step_all_names (vVar 0) vNil) (vCons (vFld "Step" "held" (vVar 0)) vNil))))
@[reducible] def v_Step_stay_b1 : VS :=
  (vDrop (vBM "list" oExtend (vVar 1) (vCons (vCall ph_equal_ties (vCons (vVar 2) (vCons (vOp oAdd (vVar 2) (vC (.str "'"))) vNil))) vNil)))
/- def Step.stay, slots 0 names 1 ties 2 name -/
@[reducible] def v_Step_stay : VS :=
  (vSeq (vSet 1 (vLstO vNil))
    (vSeq (vFor (vWalk (vCB oSortA (vCons (vVar 0) vNil))) (gN 2) v_Step_stay_b1)
    (vRet (vMakeX "Step" ph_Step___init__ (vCons (vVar 0) (vCons (vVar 1) vNil))))))
/- def Step.allows, slots 0 self 1 before 2 after 3 values 4 name 5 tie -/
@[reducible] def v_Step_allows : VS :=
  (vSeq (vSet 3 (vFz (vSpread (vVar 1) (vDc (vWalk (vFld "Step" "words" (vVar 0))) (gN 4) vYes (vOp oAdd (vVar 4) (vC (.str "'"))) (vDGet (vVar 2) (vVar 4)) [4]))))
    (vRet (vCB oAll (vCons (vLc (vWalk (vFld "Step" "held" (vVar 0))) (gN 5) vYes (vCall ph_is_kept (vCons (vVar 5) (vCons (vVar 3) vNil))) [5]) vNil))))


theorem w_equal_ties : ∀ ds m k, ph_equal_ties ds m k → v_equal_ties (dstart 5 ds) m (endP k) := by
  rintro _ m k ⟨a, b, rfl, hk⟩
  unfold v_equal_ties
  walk_at "vc"
  refine lc_map (f := tmD) (h := fun t : Tm => tmD (t.1, fneg t.2)) [(a, ((1 : Int), (1 : Int))), (b, ((-1 : Int), (1 : Int)))] [] (fun t ht k' _ hk' => ?_) ?_
  · walk_at "vc"
    exact ⟨t.2, rfl, hk'⟩
  · exact hk
theorem lk_noG {f : Str} {ws : List Nm} {ts : List D} (h1 : (f == ("words" : Str)) = false) (h2 : (f == ("held" : Str)) = false) : List.lookup f (lotG ws ts) = none := by
  simp only [List.lookup, h1, h2]
theorem knwn_len (ws : List Nm) : (knwn ws).length = 2 * ws.length := by
  unfold knwn
  rw [List.length_append, List.length_map]
  omega
theorem knwn_le {ws : List Nm} {n : Nat} (h : ∀ w ∈ ws, w.length ≤ n) : ∀ w ∈ knwn ws, w.length ≤ n + 1 := fun w hw => by
  rcases List.mem_append.mp hw with hw | hw
  · have := h w hw; omega
  · obtain ⟨v, hv, rfl⟩ := List.mem_map.mp hw
    have := h v hv
    rw [List.length_append]
    simp only [List.length_cons, List.length_nil]
    omega
theorem w_Step_lot : ∀ ds m k x, ph_Step_lot ds m k x → v_Step_lot (dstart 1 ds) m (endX k x) := by
  rintro _ m k x ⟨d, ws, ts, rfl, hd, lw, ww, lt, pt, h1, h2, hk⟩
  unfold v_Step_lot
  walk_at "vc"
  rw [hd, onO_1]
  refine ⟨lk_noG (by decide +kernel) (by decide +kernel), d, ws, ts, rfl, hd, by omega, fun w hw => by have := ww w hw; omega, ?_⟩
  dsimp only
  rw [hd, onO_1, lkG_held, onO_1]
  intro q hq
  have kl := knwn_len ws
  refine ⟨q, _, _, srt (knwn ws), ts, rfl, mset_same, rfl, rfl, by rw [srt_len]; omega, by omega, fun w hw => by have := knwn_le ww w (srt_mem.mp hw); omega, pt, (fun n e => by rw [h1] at e; cases e), fun _ => ⟨(fun i e => by rw [h2] at e; cases e), fun _ => ⟨rfl, _, MLe.refl _, ?_⟩⟩⟩
  rw [mset_mset]
  exact hk q hq
theorem stayT_app (a b : List Nm) : stayT (a ++ b) = stayT a ++ stayT b := by unfold stayT; rw [List.flatMap_append]
theorem stayT_len (a : List Nm) : (stayT a).length = 2 * a.length := by
  induction a with
  | nil => rfl
  | cons x r ih => show (eqT x (x ++ [39]) ++ stayT r).length = _; rw [List.length_append, ih]; show 2 + _ = _; rw [List.length_cons]; omega
theorem pn_small {T : Tie} (h1 : T.1.length ≤ 1000) (h2 : ∀ t ∈ T.1, t.1.length ≤ 1000) : Pn (tieD T) := by
  have fr : ∀ (k : Nat) (a b : Int), okT (k + 1) (.tup [.int a, .int b]) := fun k a b => ⟨by simp, fun z hz => by
    simp only [List.mem_cons, List.not_mem_nil, or_false] at hz
    rcases hz with rfl | rfl <;> (cases k <;> trivial)⟩
  refine ⟨5, by simp, fun d hd => ?_⟩
  rcases List.mem_cons.mp hd with rfl | hd
  · refine ⟨by rw [List.length_map]; omega, fun x hx => ?_⟩
    obtain ⟨t, ht, rfl⟩ := List.mem_map.mp hx
    refine ⟨by simp, fun y hy => ?_⟩
    rcases List.mem_cons.mp hy with rfl | hy
    · show (S t.1).length ≤ 1000
      rw [S_len]; exact h2 t ht
    · rw [List.mem_singleton] at hy; subst hy
      exact fr _ _ _
  · rw [List.mem_singleton] at hd; subst hd
    exact fr _ _ _
theorem stay_pn {ws : List Nm} (h : ∀ w ∈ ws, w.length ≤ 100) : ∀ d ∈ (stayT ws).map tieD, Pn d := fun d hd => by
  obtain ⟨T, hT, rfl⟩ := List.mem_map.mp hd
  obtain ⟨w, hw, hT⟩ := List.mem_flatMap.mp hT
  have := h w hw
  have e : (w ++ [39]).length ≤ 101 := by rw [List.length_append]; simp; omega
  unfold eqT at hT
  simp only [List.mem_cons, List.not_mem_nil, or_false] at hT
  rcases hT with rfl | rfl
  · refine pn_small (by simp) fun t ht => ?_
    simp only [List.mem_cons, List.not_mem_nil, or_false] at ht
    rcases ht with rfl | rfl
    · show w.length ≤ 1000; omega
    · show (w ++ [39]).length ≤ 1000; omega
  · refine pn_small (by simp) fun t ht => ?_
    simp only [List.mem_cons, List.not_mem_nil, or_false] at ht
    rcases ht with rfl | rfl
    · show w.length ≤ 1000; omega
    · show (w ++ [39]).length ≤ 1000; omega
theorem w_Step_stay : ∀ ds m k x, ph_Step_stay ds m k x → v_Step_stay (dstart 3 ds) m (endX k x) := by
  rintro _ m k x ⟨ns, rfl, ln, wn, hx, hk⟩
  unfold v_Step_stay
  walk_at "vc"
  intro q hq
  have back : ∀ o, MLe m (mset m q o) := fun o => mle_new hq
  rw [strDs_ws, onO_1]
  refine ⟨by rw [List.length_map]; omega, fun ys hy hs => ?_⟩
  rw [srtD_of hy hs]
  refine forV_indP (fun ds s m' => ∃ (r dn : List Nm) (x2 : Option D), ds = wsL r ∧ s = [some (wsD ns), some (.ref q), x2] ∧ m' = mset m q (.lst ((stayT dn).map tieD)) ∧ dn ++ r = srt ns) ?_ ?_ ⟨srt ns, [], none, rfl, rfl, rfl, rfl⟩
  · rintro s _ ⟨r, dn, x2, hr, rfl, rfl, e⟩
    obtain rfl : r = [] := by cases r with
      | nil => rfl
      | cons _ _ => cases hr
    rw [List.append_nil] at e
    subst e
    walk_at "vc"
    intro p hp
    have hqp : q ≠ p := fun z => by rw [z, mset_same] at hp <;> cases hp
    have hpm : m p = none := by rw [mset_ne (Ne.symm hqp)] at hp; exact hp
    have back2 : ∀ o u, MLe m (mset (mset m q o) p u) := fun o u b z hz => by
      have h1 : b ≠ p := fun y => by rw [y, hpm] at hz; cases hz
      rw [mset_ne h1]; exact back o b z hz
    have sl := stayT_len (srt ns)
    rw [srt_len] at sl
    refine ⟨p, _, .ref q, ns, (stayT (srt ns)).map tieD, rfl, mset_same, rfl, ?_, by omega, by rw [List.length_map]; omega, fun n hn => by have := wn n hn; omega, stay_pn fun w hw => wn w (srt_mem.mp hw), fun n e => ⟨m, back2 _ _, hx n e⟩, fun e => ⟨fun i e2 => ?_, fun e2 => ⟨rfl, mset m p (.ins "Step" (lotG (srt ns) ((stayT (srt ns)).map tieD))), fun b u hu => ?_, (hk e).2 p hpm⟩⟩⟩
    · rw [its_rf, mset_ne hqp, mset_same, lstO_l]
    · rw [(hk e).1] at e2; cases e2
    · rw [mset_mset]
      by_cases hb : b = p
      · subst hb; rw [mset_same] at hu ⊢; exact hu
      · rw [mset_ne hb] at hu ⊢
        exact back _ _ _ hu
  · rintro d ds s _ P ⟨r, dn, x2, hr, rfl, rfl, e⟩ ih
    obtain ⟨w, r, rfl⟩ : ∃ w r', r = w :: r' := by cases r with
      | nil => cases hr
      | cons a b => exact ⟨a, b, rfl⟩
    obtain ⟨rfl, rfl⟩ := List.cons.inj hr
    have hw : w ∈ ns := srt_mem.mp (by rw [← e]; simp)
    have lw := wn w hw
    have sl := stayT_len dn
    have ld : dn.length ≤ ns.length := by have := srt_len (ns := ns); rw [← this, ← e, List.length_append]; omega
    unfold v_Step_stay_b1
    rw [quo_S]
    walk_at "vc"
    refine ⟨by (try simp); omega, w, w ++ [39], rfl, ?_⟩
    walk_at "vc"
    refine ⟨by simp only [List.length_map]; show (stayT dn).length + 2 ≤ _; omega, ?_⟩
    refine ih _ _ ⟨r, dn ++ [w], _, rfl, rfl, ?_, by rw [← e]; simp⟩
    rw [stayT_app, List.map_append]
    show _ = mset m q (.lst ((stayT dn).map tieD ++ (eqT w (w ++ [39]) ++ []).map tieD))
    rw [List.append_nil]
theorem asI_new {C : Str} {m : Mem} {d : D} {fs : List (Str × D)} {p : Addr} {o : MO} (h : asI C m d = some fs) (hp : m p = none) : asI C (mset m p o) d = some fs := by
  cases d with
  | ref a =>
    rw [asI_2] at h ⊢
    rw [mset_ne (fun z => by rw [z, hp] at h; cases h)]
    exact h
  | _ => exact h
theorem w_Step_allows : ∀ ds m k, ph_Step_allows ds m k → v_Step_allows (dstart 6 ds) m (endP k) := by
  rintro _ m k ⟨d, ws, Ts, ps, qs, rfl, hd, lw, ww, lp, nd, lT, hT, hk⟩
  unfold v_Step_allows
  rw [quo_S]
  walk_at "vc"
  intro p hp
  have ndp : (ps.map (·.1)).Nodup := (List.nodup_append.mp nd).1
  rw [merge_al0 ndp, asI_new hd hp, onO_1, lk_words, onO_1]
  walk_at "vc"
  refine ⟨by rw [List.length_map]; omega, ?_⟩
  refine dc_filt (h := fun w : Nm => some (.inr (S (w ++ [39])), qD ((getA qs w).getD 0))) ws [] (fun w hw k' kn hs _ => ?_) ?_
  · obtain ⟨w1, q, w2⟩ := ww w hw
    walk_at "vc"
    rw [val_al, w2, Option.map_some, onO_1]
    refine ⟨by omega, ?_⟩
    have := hs _ _ rfl
    rw [w2] at this
    exact this
  have ef : (ws.filterMap fun w : Nm => some ((.inr (S (w ++ [39])), qD ((getA qs w).getD 0)) : Key × D)) = alD (ws.map fun w => (w ++ [39], (getA qs w).getD 0)) := by
    unfold alD
    rw [List.map_map]
    rw [show (fun w : Nm => some ((.inr (S (w ++ [39])), qD ((getA qs w).getD 0)) : Key × D)) = some ∘ (fun w : Nm => ((.inr (S (w ++ [39])), qD ((getA qs w).getD 0)) : Key × D)) from rfl, List.filterMap_eq_map]
    rfl
  have en : (ws.map fun w => ((w ++ [39], (getA qs w).getD 0) : Nm × Rat)).map (·.1) = ws.map (· ++ [39]) := by rw [List.map_map]; rfl
  have nd2 := (List.nodup_append.mp nd).2.1
  rw [ef, merge_al0 (by rw [en]; exact nd2)]
  refine ⟨_, mset_same, by unfold alD; simp only [List.length_map]; omega, ?_⟩
  have em : mergeD (alD ps) (alD (ws.map fun w => (w ++ [39], (getA qs w).getD 0))) = alD (valsA ws ps qs) := merge_al _ _ (by rw [List.map_append, en]; exact nd)
  rw [em, mset_mset, mdel_mset hp, hd, onO_1, lk_held, onO_1]
  walk_at "vc"
  refine ⟨by rw [List.length_map, List.length_map]; omega, ?_⟩
  rw [List.map_map]
  refine lc_map (h := fun T : Te => .bl (kpt (valsA ws ps qs) T)) Ts [] (fun T hTm k' _ hk' => ?_) ?_
  · obtain ⟨h1, h2, h3⟩ := hT T hTm
    walk_at "vc"
    exact ⟨T, _, _, by show [tieD (toT T), _] = _; rw [teD_T], rfl, h1, h2, h3, hk'⟩
  · rw [List.nil_append, show (Ts.map fun T => D.bl (kpt (valsA ws ps qs) T)) = (Ts.map (kpt (valsA ws ps qs))).map D.bl by rw [List.map_map]; rfl, blsOf_map, onO_1, List.all_map]
    exact hk

/-! ### the law's step ties -/
theorem anyz {n : Nat} {m : Mem} {k : KD} (ps : List (Int × Int)) (h : ∀ p ∈ ps, (Fr.Ok p ∧ Bd n p) ∧ p.1 ≠ 0) (h0 : ps ≠ []) (hl : ps.length ≤ 1000) (hk : ∀ q : Rat, q ≠ 0 → Bq n q → k (qD q) m) : ph__law_any [.feed, .lst (ps.map frD)] m k :=
  ⟨fun z => h0 (List.map_eq_nil_iff.mp z), by rw [List.length_map]; omega, fun d hd => by
    obtain ⟨p, hp, rfl⟩ := List.mem_map.mp hd
    obtain ⟨⟨h1, h2⟩, h3⟩ := h p hp
    obtain ⟨q, rfl⟩ := ok_rf h1
    exact hk q (fun z => h3 (num_zero.mpr z)) h2⟩
theorem rateq {m : Mem} {k : KD} (hk : ∀ q : Rat, q ≠ 0 → Bq 4 q → k (qD q) m) : ph__law_rate [.feed] m k := ⟨rfl, fun p hp => by
  obtain ⟨q, rfl, h1, h2⟩ := rates_q p hp
  exact hk q h1 h2⟩
def negA (ts : Al) : Al := ts.map fun t => (t.1, -t.2)
def ph__law_value_ties : P0 := fun ds m k => ∃ (ts : Al) (v : Rat), ds = [.tup (ts.map tqD), qD v] ∧ ts.length ≤ 1000 ∧ k (.lst [teD ⟨ts, v⟩, teD ⟨negA ts, -v⟩]) m
def ph__law_values_of : P0 := fun ds m k => ∃ ps qs : Al, ds = [.dic (alD ps), .dic (alD qs)] ∧ ps.length ≤ 1000 ∧ qs.length ≤ 1000 ∧ (∀ q ∈ qs, q.1.length ≤ 1000) ∧ (qs.map (·.1)).Nodup ∧ (ps.map (·.1) ++ qs.map fun q => q.1 ++ [39]).Nodup ∧ k (.dic (alD (ps ++ qs.map fun q => (q.1 ++ [39], q.2)))) m
def ph__law_stay_ties : P0 := fun ds m k => ∃ ws : List Nm, ds = [wsD ws] ∧ ws.length ≤ 1000 ∧ (∀ w ∈ ws, w.length ≤ 1000) ∧ k (.lst ((stayT (srt ws)).map tieD)) m
theorem l__law_value_ties : ∀ ds m k, ph__law_value_ties ds m k → ds.length = 2 := by rintro _ m k ⟨_, _, rfl, _⟩; rfl
theorem l__law_values_of : ∀ ds m k, ph__law_values_of ds m k → ds.length = 2 := by rintro _ m k ⟨_, _, rfl, _⟩; rfl
theorem l__law_stay_ties : ∀ ds m k, ph__law_stay_ties ds m k → ds.length = 1 := by rintro _ m k ⟨_, rfl, _⟩; rfl
def ph__law_step_ties : P0 := fun ds m k => ∃ (ws : List Nm) (many : Int), ds = [.feed, wsD ws, .int many] ∧ ws ≠ [] ∧ ws.length ≤ 100 ∧ (∀ w ∈ ws, Word w) ∧ 0 ≤ many ∧ many ≤ 100 ∧ ∀ Ts : List Te, (Ts.length : Int) ≤ 2 * many → (∀ T ∈ Ts, TqOk (knwn ws) T.ts ∧ Bq 60 T.b) → k (.lst (Ts.map teD)) m
theorem l__law_step_ties : ∀ ds m k, ph__law_step_ties ds m k → ds.length = 3 := by rintro _ m k ⟨_, _, rfl, _⟩; rfl
/- def _law_value_ties, slots 0 _law_terms 1 _law_value 2 _law_name 3 _law_rate_here -/
@[reducible] def v__law_value_ties : VS :=
  (vRet (vLst (vCons (vTup (vCons (vVar 0) (vCons (vVar 1) vNil))) (vCons (vTup (vCons (vCB oTuple (vCons (vLc (vWalk (vVar 0)) (gTp 2 (gCn (gN 2) (gCn (gN 3) gNl))) vYes (vTup (vCons (vVar 2) (vCons (vCall ph__law_minus (vCons (vVar 3) vNil)) vNil))) [2, 3]) vNil)) (vCons (vCall ph__law_minus (vCons (vVar 1) vNil)) vNil))) vNil))))
@[reducible] def v__law_values_of_b1 : VS :=
  (vDPut (vVar 2) (vOp oAdd (vVar 3) (vC (.str "'"))) (vDGet (vVar 1) (vVar 3)))
/- def _law_values_of, slots 0 _law_before 1 _law_after 2 _law_found 3 _law_name -/
@[reducible] def v__law_values_of : VS :=
  (vSeq (vSet 2 (vCB oDictO (vCons (vVar 0) vNil)))
    (vSeq (vFor (vKeys (vVar 1)) (gN 3) v__law_values_of_b1)
    (vRet (vFz (vVar 2)))))
@[reducible] def v__law_stay_ties_b1 : VS :=
  (vSet 1 (vOp oAdd (vVar 1) (vCall ph__law_value_ties (vCons (vTup (vCons (vTup (vCons (vVar 2) (vCons (vTup (vCons (vC (.int 1)) (vCons (vC (.int 1)) vNil))) vNil))) (vCons (vTup (vCons (vOp oAdd (vVar 2) (vC (.str "'"))) (vCons (vTup (vCons (vUn oNeg (vC (.int 1))) (vCons (vC (.int 1)) vNil))) vNil))) vNil))) (vCons (vTup (vCons (vC (.int 0)) (vCons (vC (.int 1)) vNil))) vNil)))))
/- def _law_stay_ties, slots 0 _law_words_here 1 _law_found 2 _law_name -/
@[reducible] def v__law_stay_ties : VS :=
  (vSeq (vSet 1 (vLst vNil))
    (vSeq (vFor (vWalk (vCB oSortA (vCons (vVar 0) vNil))) (gN 2) v__law_stay_ties_b1)
    (vRet (vVar 1))))
@[reducible] def v__law_step_ties_b1 : VS :=
  (vSeq (vDrop (vBM "list" oAppend (vVar 3) (vCons (vTup (vCons (vVar 11) (vCons (vVar 9) vNil))) vNil)))
    (vIfS (tV (vOp oGt (vVar 7) (vC (.int 2)))) (vDrop (vBM "list" oAppend (vVar 3) (vCons (vTup (vCons (vCB oTuple (vCons (vLc (vWalk (vVar 11)) (gTp 2 (gCn (gN 12) (gCn (gN 13) gNl))) vYes (vTup (vCons (vVar 12) (vCons (vCall ph__law_minus (vCons (vVar 13) vNil)) vNil))) [12, 13]) vNil)) (vCons (vCall ph__law_minus (vCons (vVar 9) vNil)) vNil))) vNil))) vNext))
@[reducible] def v__law_step_ties_b2 : VS :=
  (vSeq (vPar3 5 6 7 (vCons (vCall ph__law_any (vCons (vVar 0) (vCons (vVar 1) vNil))) (vCons (vCall ph__law_any (vCons (vVar 0) (vCons (vVar 1) vNil))) (vCons (vCall ph__law_draw (vCons (vVar 0) (vCons (vC (.int 5)) vNil))) vNil))))
    (vSeq (vPar 8 9 (vCons (vCall ph__law_rate (vCons (vVar 0) vNil)) (vCons (vCall ph__law_any (vCons (vVar 0) (vCons (vLst (vCons (vTup (vCons (vC (.int 0)) (vCons (vC (.int 1)) vNil))) (vCons (vTup (vCons (vC (.int 1)) (vCons (vC (.int 1)) vNil))) (vCons (vTup (vCons (vUn oNeg (vC (.int 1))) (vCons (vC (.int 1)) vNil))) (vCons (vTup (vCons (vC (.int 2)) (vCons (vC (.int 1)) vNil))) (vCons (vTup (vCons (vC (.int 1)) (vCons (vC (.int 2)) vNil))) vNil)))))) vNil))) vNil)))
    (vSeq (vSet 10 (vCall ph__law_any (vCons (vVar 0) (vCons (vLst (vCons (vTup (vCons (vC (.int 1)) (vCons (vC (.int 1)) vNil))) (vCons (vTup (vCons (vUn oNeg (vC (.int 1))) (vCons (vC (.int 1)) vNil))) vNil))) vNil))))
    (vSeq (vIfS (tV (vOp oEq (vVar 7) (vC (.int 0)))) (vSet 11 (vTup (vCons (vTup (vCons (vVar 6) (vCons (vVar 8) vNil))) vNil))) (vIfS (tV (vOp oEq (vVar 7) (vC (.int 1)))) (vSet 11 (vTup (vCons (vTup (vCons (vOp oAdd (vVar 5) (vC (.str "'"))) (vCons (vVar 10) vNil))) vNil))) (vSet 11 (vCB oTuple (vCons (vCB oSortN (vCons (vLst (vCons (vTup (vCons (vOp oAdd (vVar 5) (vC (.str "'"))) (vCons (vVar 10) vNil))) (vCons (vTup (vCons (vVar 6) (vCons (vCall ph__law_minus (vCons (vVar 8) vNil)) vNil))) vNil))) vNil)) vNil)))))
    v__law_step_ties_b1))))
/- def _law_step_ties, slots 0 _law_feed_here 1 _law_words_here 2 _law_many 3 _law_found 4 _law_k 5 _law_one 6 _law_two 7 _law_way 8 _law_rate_here 9 _law_bound 10 _law_sign 11 _law_terms 12 _law_name 13 _law_part -/
@[reducible] def v__law_step_ties : VS :=
  (vSeq (vSet 3 (vLstO vNil))
    (vSeq (vFor (vRng1 (vCons (vCall ph__law_draw (vCons (vVar 0) (vCons (vOp oAdd (vVar 2) (vC (.int 1))) vNil))) vNil)) (gN 4) v__law_step_ties_b2)
    (vRet (vFz (vVar 3)))))


theorem w__law_value_ties : ∀ ds m k, ph__law_value_ties ds m k → v__law_value_ties (dstart 4 ds) m (endP k) := by
  rintro _ m k ⟨ts, v, rfl, hl, hk⟩
  unfold v__law_value_ties
  walk_at "vc"
  refine ⟨by rw [List.length_map]; omega, ?_⟩
  refine lc_map (h := fun t : Nm × Rat => tqD (t.1, -t.2)) ts [] (fun t ht k' _ hk' => ?_) ?_
  · walk_at "vc"
    exact ⟨t.2, rfl, hk'⟩
  · rw [List.nil_append]
    refine ⟨v, rfl, ?_⟩
    have e : (negA ts).map tqD = ts.map fun t => tqD (t.1, -t.2) := by unfold negA; rw [List.map_map]; rfl
    have hk : k (.lst [.tup [.tup (ts.map tqD), qD v], .tup [.tup ((negA ts).map tqD), qD (-v)]]) m := hk
    rw [e] at hk
    walk_at "vc"
    exact hk
theorem foldl_putA : ∀ (qs ps : Al), (ps.map (·.1) ++ qs.map fun q => q.1 ++ [39]).Nodup → qs.foldl (fun a q => putA a (q.1 ++ [39]) q.2) ps = ps ++ qs.map fun q => (q.1 ++ [39], q.2)
  | [], ps, _ => by simp
  | q :: qs, ps, h => by
    have hn : (ps.any fun p => decide (p.1 = q.1 ++ [39])) = false := by
      rw [List.any_eq_false]
      intro p hp e
      have e := of_decide_eq_true e
      rw [List.nodup_append] at h
      exact h.2.2 p.1 (List.mem_map.mpr ⟨p, hp, rfl⟩) (q.1 ++ [39]) (by simp) e
    have e1 : putA ps (q.1 ++ [39]) q.2 = ps ++ [(q.1 ++ [39], q.2)] := by unfold putA; rw [if_neg (by rw [hn]; decide)]
    rw [List.foldl_cons, e1, foldl_putA qs _ (by rw [List.map_append, List.append_assoc]; exact h), List.append_assoc]
    rfl
theorem w__law_values_of : ∀ ds m k, ph__law_values_of ds m k → v__law_values_of (dstart 4 ds) m (endP k) := by
  rintro _ m k ⟨ps, qs, rfl, lp, lq, wq, ndq, nd, hk⟩
  unfold v__law_values_of
  walk_at "vc"
  intro p hp
  have ek : keysD (alD qs) = (qs.map (·.1)).map fun n => D.str (S n) := keysD_al qs
  rw [ek]
  refine forV_indP (fun ds s m' => ∃ (r : Al) (cur : Al) (x3 : Option D), ds = (r.map (·.1)).map (fun n => D.str (S n)) ∧ s = [some (.dic (alD ps)), some (.dic (alD qs)), some (.ref p), x3] ∧ m' = mset m p (.dic (alD cur)) ∧ (∀ q ∈ r, q ∈ qs) ∧ cur.length + r.length ≤ 2000 ∧ r.foldl (fun a q => putA a (q.1 ++ [39]) q.2) cur = qs.foldl (fun a q => putA a (q.1 ++ [39]) q.2) ps) ?_ ?_ ⟨qs, ps, none, rfl, rfl, rfl, fun _ h => h, by omega, rfl⟩
  · rintro s _ ⟨r, cur, x3, hr, rfl, rfl, _, _, e⟩
    obtain rfl : r = [] := by cases r with
      | nil => rfl
      | cons _ _ => cases hr
    have e : cur = _ := e.trans (foldl_putA qs ps nd)
    subst e
    walk_at "vc"
    rw [mdel_mset hp]
    exact hk
  · rintro d ds s _ P ⟨r, cur, x3, hr, rfl, rfl, hm, hl, e⟩ ih
    obtain ⟨q, r, rfl⟩ : ∃ q r', r = q :: r' := by cases r with
      | nil => cases hr
      | cons a b => exact ⟨a, b, rfl⟩
    obtain ⟨rfl, rfl⟩ := List.cons.inj hr
    have hq := hm q List.mem_cons_self
    have wl := wq q hq
    unfold v__law_values_of_b1
    rw [quo_S]
    walk_at "vc"
    simp only [List.length_cons] at hl
    have pl : (putA cur (q.1 ++ [39]) q.2).length ≤ cur.length + 1 := by
      unfold putA
      split
      · rw [List.length_map]; omega
      · rw [List.length_append]; exact Nat.le_refl _
    rw [val_al, getA_memq ndq hq, Option.map_some, onO_1, put_al]
    refine ⟨by omega, by unfold alD; rw [List.length_map]; omega, ih _ _ ⟨r, _, _, rfl, rfl, rfl, fun y hy => hm y (List.mem_cons_of_mem _ hy), by omega, e⟩⟩
theorem rf_1 : rf 1 = (1, 1) := by decide +kernel
theorem rf_m1 : rf (-1) = (-1, 1) := by decide +kernel
theorem rf_0 : rf 0 = (0, 1) := by decide +kernel
theorem qD_1 : qD 1 = .tup [.int 1, .int 1] := by show D.tup [.int (rf 1).1, .int (rf 1).2] = _; rw [rf_1]
theorem qD_m1 : qD (-1) = .tup [.int (-1), .int 1] := by show D.tup [.int (rf (-1)).1, .int (rf (-1)).2] = _; rw [rf_m1]
theorem qD_0 : qD 0 = .tup [.int 0, .int 1] := by show D.tup [.int (rf 0).1, .int (rf 0).2] = _; rw [rf_0]
theorem stay_te (w v : Nm) : [teD ⟨[(w, 1), (v, -1)], 0⟩, teD ⟨negA [(w, 1), (v, -1)], -0⟩] = (eqT w v).map tieD := by
  have e1 : (-(-1 : Rat)) = 1 := by decide +kernel
  have e0 : (-(0 : Rat)) = 0 := by decide +kernel
  show [D.tup [.tup [.tup [.str (S w), qD 1], .tup [.str (S v), qD (-1)]], qD 0], D.tup [.tup [.tup [.str (S w), qD (-1)], .tup [.str (S v), qD (-(-1))]], qD (-0)]] = _
  rw [e1, e0, qD_1, qD_m1, qD_0]
  rfl
theorem w__law_stay_ties : ∀ ds m k, ph__law_stay_ties ds m k → v__law_stay_ties (dstart 3 ds) m (endP k) := by
  rintro _ m k ⟨ws, rfl, lw, ww, hk⟩
  unfold v__law_stay_ties
  walk_at "vc"
  rw [strDs_ws, onO_1]
  refine ⟨by rw [List.length_map]; omega, fun ys hy hs => ?_⟩
  rw [srtD_of hy hs]
  refine forV_indP (fun ds s m' => m' = m ∧ ∃ (r dn : List Nm) (x2 : Option D), ds = wsL r ∧ s = [some (wsD ws), some (.lst ((stayT dn).map tieD)), x2] ∧ dn ++ r = srt ws) ?_ ?_ ⟨rfl, srt ws, [], none, rfl, rfl, rfl⟩
  · rintro s m' ⟨em, r, dn, x2, hr, rfl, e⟩
    obtain rfl : r = [] := by cases r with
      | nil => rfl
      | cons _ _ => cases hr
    rw [List.append_nil] at e
    rw [em]
    subst e
    walk_at "vc"
    exact hk
  · rintro d ds s m' P ⟨em, r, dn, x2, hr, rfl, e⟩ ih
    obtain ⟨w, r, rfl⟩ : ∃ w r', r = w :: r' := by cases r with
      | nil => cases hr
      | cons a b => exact ⟨a, b, rfl⟩
    obtain ⟨rfl, rfl⟩ := List.cons.inj hr
    have hw : w ∈ ws := srt_mem.mp (by rw [← e]; simp)
    have lw := ww w hw
    have sl := stayT_len dn
    have sw := srt_len (ns := ws)
    have ld : dn.length ≤ ws.length := by rw [← sw, ← e, List.length_append]; omega
    unfold v__law_stay_ties_b1
    rw [quo_S]
    walk_at "vc"
    refine ⟨by (try simp); omega, [(w, 1), (w ++ [39], -1)], 0, ?_, by simp, ?_⟩
    · show _ = [D.tup [.tup [.str (S w), qD 1], .tup [.str (S (w ++ [39])), qD (-1)]], qD 0]
      rw [qD_1, qD_m1, qD_0]
    · rw [stay_te]
      refine ⟨by simp only [List.length_map]; show (stayT dn).length + 2 ≤ _; omega, ?_⟩
      refine ih _ _ ⟨em, r, dn ++ [w], some (.str (S w)), rfl, ?_, by rw [← e]; simp⟩
      rw [stayT_app, List.map_append]
      show _ = [_, some (D.lst ((stayT dn).map tieD ++ (eqT w (w ++ [39]) ++ []).map tieD)), _]
      rw [List.append_nil]
theorem tq_neg {ws : List Nm} {ts : Al} (h : TqOk ws ts) : TqOk ws (negA ts) := by
  refine ⟨by unfold negA; rw [List.length_map]; exact h.len, fun t ht => ?_, fun t ht => ?_, fun t ht => ?_, ?_⟩
  · obtain ⟨u, hu, rfl⟩ := List.mem_map.mp ht
    exact h.nm u hu
  · obtain ⟨u, hu, rfl⟩ := List.mem_map.mp ht
    have := h.nz u hu
    show -u.2 ≠ 0
    exact fun z => this (by have := congrArg Neg.neg z; simpa [Rat.neg_neg] using this)
  · obtain ⟨u, hu, rfl⟩ := List.mem_map.mp ht
    exact (h.bd u hu).neg
  · unfold negA AscQ
    rw [List.pairwise_map]
    exact h.asc
theorem perm2L {α : Type} {a b : α} {l : List α} (h : l.Perm [a, b]) : l = [a, b] ∨ l = [b, a] := by
  match l, h.length_eq with
  | [x, y], _ =>
    have hx : x ∈ [a, b] := h.mem_iff.mp List.mem_cons_self
    simp only [List.mem_cons, List.not_mem_nil, or_false] at hx
    rcases hx with rfl | rfl
    · have := h.cons_inv
      rw [List.perm_singleton] at this
      exact .inl (by rw [this])
    · have := (h.trans (List.Perm.swap _ _ _)).cons_inv
      rw [List.perm_singleton] at this
      exact .inr (by rw [this])
theorem w__law_step_ties : ∀ ds m k, ph__law_step_ties ds m k → v__law_step_ties (dstart 14 ds) m (endP k) := by
  rintro _ m k ⟨ws, many, rfl, w0, lw, wd, h0, h1, hk⟩
  unfold v__law_step_ties
  walk_at "vc"
  intro p hp
  refine dr (by omega) (by omega) fun c c0 c1 => ?_
  walk_at "vc"
  refine ⟨by omega, ?_⟩
  obtain ⟨c, rfl⟩ := Int.eq_ofNat_of_zero_le c0
  refine forV_indP (fun ds s m' => ∃ (Ts : List Te) (x4 x5 x6 x7 x8 x9 x10 x11 x12 x13 : Option D), s = [some .feed, some (wsD ws), some (.int many), some (.ref p), x4, x5, x6, x7, x8, x9, x10, x11, x12, x13] ∧ m' = mset m p (.lst (Ts.map teD)) ∧ Ts.length + 2 * ds.length ≤ 2 * c ∧ (∀ T ∈ Ts, TqOk (knwn ws) T.ts ∧ Bq 60 T.b)) ?_ ?_ ⟨[], _, _, _, _, _, _, _, _, _, _, rfl, rfl, by simp [rngD], by simp⟩
  · rintro s _ ⟨Ts, x4, x5, x6, x7, x8, x9, x10, x11, x12, x13, rfl, rfl, h2, h3⟩
    walk_at "vc"
    rw [mdel_mset hp]
    exact hk Ts (by simp at h2; omega) h3
  · rintro d ds s _ P ⟨Ts, x4, x5, x6, x7, x8, x9, x10, x11, x12, x13, rfl, rfl, h2, h3⟩ ih
    simp only [List.length_cons] at h2
    have fin : ∀ (way : Int) (ts : Al) (b : Rat) (x4 x5 x6 x8 x10 x12 x13 : Option D) (G : DE), TqOk (knwn ws) ts → Bq 60 b → G.nx = P → v__law_step_ties_b1 [some .feed, some (wsD ws), some (.int many), some (.ref p), x4, x5, x6, some (.int way), x8, some (qD b), x10, some (.tup (ts.map tqD)), x12, x13] (mset m p (.lst (Ts.map teD))) G := fun way ts b x4 x5 x6 x8 x10 x12 x13 G ht hb hG => by
      have tl : ts.length ≤ 2 := by rcases ht.len with z | z <;> omega
      have lT : Ts.length ≤ 200 := by omega
      unfold v__law_step_ties_b1
      walk_at "vc"
      refine ⟨by rw [List.length_map]; omega, itP (fun _ => ?_) fun _ => ?_⟩
      · refine ⟨by rw [List.length_map]; omega, ?_⟩
        refine lc_map (h := fun t : Nm × Rat => tqD (t.1, -t.2)) ts [] (fun t ht k' _ hk' => ?_) ?_
        · walk_at "vc"
          exact ⟨t.2, rfl, hk'⟩
        · rw [List.nil_append]
          refine ⟨b, rfl, ?_⟩
          have e : (ts.map fun t => tqD (t.1, -t.2)) = (negA ts).map tqD := by unfold negA; rw [List.map_map]; rfl
          walk_at "vc"
          rw [hG, e]
          refine ⟨by rw [List.length_append, List.length_map]; simp; omega, ih _ _ ⟨Ts ++ [⟨ts, b⟩, ⟨negA ts, -b⟩], _, _, _, _, _, _, _, _, _, _, rfl, ?_, by simp; omega, fun T hT => ?_⟩⟩
          · rw [List.map_append, List.append_assoc]; rfl
          · rcases List.mem_append.mp hT with hT | hT
            · exact h3 T hT
            · simp only [List.mem_cons, List.not_mem_nil, or_false] at hT
              rcases hT with rfl | rfl
              · exact ⟨ht, hb⟩
              · exact ⟨tq_neg ht, hb.neg⟩
      · rw [hG]
        refine ih _ _ ⟨Ts ++ [⟨ts, b⟩], _, _, _, _, _, _, _, _, _, _, rfl, by rw [List.map_append]; rfl, by simp; omega, fun T hT => ?_⟩
        rcases List.mem_append.mp hT with hT | hT
        · exact h3 T hT
        · rw [List.mem_singleton] at hT
          subst hT
          exact ⟨ht, hb⟩
    unfold v__law_step_ties_b2
    rw [quo_S]
    walk_at "vc"
    have wne : wsD ws = .lst (ws.map fun w => .str (S w)) := rfl
    refine ⟨fun z => w0 (List.map_eq_nil_iff.mp z), by rw [List.length_map]; omega, fun d1 hd1 => ?_⟩
    obtain ⟨w1, hw1, rfl⟩ := List.mem_map.mp hd1
    refine ⟨fun z => w0 (List.map_eq_nil_iff.mp z), by rw [List.length_map]; omega, fun d2 hd2 => ?_⟩
    obtain ⟨w2, hw2, rfl⟩ := List.mem_map.mp hd2
    refine dr (by decide) (by decide) fun way y0 y1 => ?_
    refine rateq fun r r0 r4 => ?_
    refine anyq (n := 4) [(0, 1), (1, 1), (-1, 1), (2, 1), (1, 2)] (by decide) (by decide) (by decide) fun b hb => ?_
    refine anyz (n := 4) [(1, 1), (-1, 1)] (by decide) (by decide) (by decide) fun sg sg0 sg4 => ?_
    walk_at "vc"
    have k1 : w1 ++ [39] ∈ knwn ws := List.mem_append_right _ (List.mem_map.mpr ⟨w1, hw1, rfl⟩)
    have k2 : w2 ∈ knwn ws := List.mem_append_left _ hw2
    have l1 := (wd w1 hw1).2.1
    have ne : w1 ++ [39] ≠ w2 := fun z => by
      have := (wd w2 hw2).2.2 39 (by rw [← z]; simp)
      omega
    have one : ∀ (w : Nm) (q : Rat), w ∈ knwn ws → q ≠ 0 → Bq 4 q → TqOk (knwn ws) [(w, q)] := fun w q h1 h2 h3 => by
      refine ⟨.inl rfl, fun t ht => ?_, fun t ht => ?_, fun t ht => ?_, by unfold AscQ; simp⟩ <;> (rw [List.mem_singleton] at ht; subst ht; assumption)
    have b60 : Bq 60 b := hb.mono (by decide)
    refine itP (fun _ => ?_) fun _ => itP (fun _ => ⟨by omega, ?_⟩) fun _ => ⟨by omega, r, rfl, ?_⟩
    · exact fin way [(w2, r)] b _ _ _ _ _ _ _ _ (one w2 r k2 r0 r4) b60 rfl
    · exact fin way [(w1 ++ [39], sg)] b _ _ _ _ _ _ _ _ (one _ sg k1 sg0 sg4) b60 rfl
    · dsimp only
      rw [show [D.tup [D.str (S (w1 ++ [39])), qD sg], D.tup [D.str (S w2), qD (-r)]] = [(S (w1 ++ [39]), [D.int (rf sg).1, D.int (rf sg).2]), (S w2, [D.int (rf (-r)).1, D.int (rf (-r)).2])].map npD from rfl, npDs_map, onO_1]
      refine ⟨by simp only [List.map_cons, List.map_nil, List.nodup_cons, List.mem_singleton, List.not_mem_nil, not_false_eq_true, List.nodup_nil, and_true]; exact fun z => ne (S_inj z), fun es' hp hs => ?_⟩
      have nr : -r ≠ 0 := fun z => r0 (by have := congrArg Neg.neg z; simpa [Rat.neg_neg] using this)
      have two : ∀ (a c : Nm) (x y : Rat), a ∈ knwn ws → c ∈ knwn ws → x ≠ 0 → y ≠ 0 → Bq 4 x → Bq 4 y → ¬ c < a → a ≠ c → TqOk (knwn ws) [(a, x), (c, y)] := fun a c x y h1 h2 h3 h4 h5 h6 h7 h8 => by
        have lt : a < c := Classical.byContradiction fun z => h8 (List.le_antisymm (List.not_lt.mp h7) (List.not_lt.mp z))
        refine ⟨.inr rfl, fun t ht => ?_, fun t ht => ?_, fun t ht => ?_, by unfold AscQ; simpa using lt⟩ <;> (simp only [List.mem_cons, List.not_mem_nil, or_false] at ht; rcases ht with rfl | rfl <;> assumption)
      rcases perm2L hp with e | e
      · subst e
        have hs : ¬ w2 < w1 ++ [39] := by simpa using hs
        exact fin way [(w1 ++ [39], sg), (w2, -r)] b _ _ _ _ _ _ _ _ (two _ _ _ _ k1 k2 sg0 nr sg4 r4.neg hs ne) b60 rfl
      · subst e
        have hs : ¬ w1 ++ [39] < w2 := by simpa using hs
        exact fin way [(w2, -r), (w1 ++ [39], sg)] b _ _ _ _ _ _ _ _ (two _ _ _ _ k2 k1 nr sg0 r4.neg sg4 hs (Ne.symm ne)) b60 rfl

/-! ### kinds and states: which are alike -/
theorem sn_0_1 : (("end" : Str) = "number") = False := eq_false (by decide +kernel)
theorem sn_0_2 : (("end" : Str) = "name") = False := eq_false (by decide +kernel)
theorem sn_0_3 : (("end" : Str) = "relation") = False := eq_false (by decide +kernel)
theorem sn_0_4 : (("end" : Str) = "+") = False := eq_false (by decide +kernel)
theorem sn_0_5 : (("end" : Str) = "-") = False := eq_false (by decide +kernel)
theorem sn_0_6 : (("end" : Str) = "*") = False := eq_false (by decide +kernel)
theorem sn_0_7 : (("end" : Str) = "bad") = False := eq_false (by decide +kernel)
theorem sn_0_8 : (("end" : Str) = "start") = False := eq_false (by decide +kernel)
theorem sn_0_9 : (("end" : Str) = "term") = False := eq_false (by decide +kernel)
theorem sn_0_10 : (("end" : Str) = "factor") = False := eq_false (by decide +kernel)
theorem sn_1_0 : (("number" : Str) = "end") = False := eq_false (by decide +kernel)
theorem sn_1_2 : (("number" : Str) = "name") = False := eq_false (by decide +kernel)
theorem sn_1_3 : (("number" : Str) = "relation") = False := eq_false (by decide +kernel)
theorem sn_1_4 : (("number" : Str) = "+") = False := eq_false (by decide +kernel)
theorem sn_1_5 : (("number" : Str) = "-") = False := eq_false (by decide +kernel)
theorem sn_1_6 : (("number" : Str) = "*") = False := eq_false (by decide +kernel)
theorem sn_1_7 : (("number" : Str) = "bad") = False := eq_false (by decide +kernel)
theorem sn_1_8 : (("number" : Str) = "start") = False := eq_false (by decide +kernel)
theorem sn_1_9 : (("number" : Str) = "term") = False := eq_false (by decide +kernel)
theorem sn_1_10 : (("number" : Str) = "factor") = False := eq_false (by decide +kernel)
theorem sn_2_0 : (("name" : Str) = "end") = False := eq_false (by decide +kernel)
theorem sn_2_1 : (("name" : Str) = "number") = False := eq_false (by decide +kernel)
theorem sn_2_3 : (("name" : Str) = "relation") = False := eq_false (by decide +kernel)
theorem sn_2_4 : (("name" : Str) = "+") = False := eq_false (by decide +kernel)
theorem sn_2_5 : (("name" : Str) = "-") = False := eq_false (by decide +kernel)
theorem sn_2_6 : (("name" : Str) = "*") = False := eq_false (by decide +kernel)
theorem sn_2_7 : (("name" : Str) = "bad") = False := eq_false (by decide +kernel)
theorem sn_2_8 : (("name" : Str) = "start") = False := eq_false (by decide +kernel)
theorem sn_2_9 : (("name" : Str) = "term") = False := eq_false (by decide +kernel)
theorem sn_2_10 : (("name" : Str) = "factor") = False := eq_false (by decide +kernel)
theorem sn_3_0 : (("relation" : Str) = "end") = False := eq_false (by decide +kernel)
theorem sn_3_1 : (("relation" : Str) = "number") = False := eq_false (by decide +kernel)
theorem sn_3_2 : (("relation" : Str) = "name") = False := eq_false (by decide +kernel)
theorem sn_3_4 : (("relation" : Str) = "+") = False := eq_false (by decide +kernel)
theorem sn_3_5 : (("relation" : Str) = "-") = False := eq_false (by decide +kernel)
theorem sn_3_6 : (("relation" : Str) = "*") = False := eq_false (by decide +kernel)
theorem sn_3_7 : (("relation" : Str) = "bad") = False := eq_false (by decide +kernel)
theorem sn_3_8 : (("relation" : Str) = "start") = False := eq_false (by decide +kernel)
theorem sn_3_9 : (("relation" : Str) = "term") = False := eq_false (by decide +kernel)
theorem sn_3_10 : (("relation" : Str) = "factor") = False := eq_false (by decide +kernel)
theorem sn_4_0 : (("+" : Str) = "end") = False := eq_false (by decide +kernel)
theorem sn_4_1 : (("+" : Str) = "number") = False := eq_false (by decide +kernel)
theorem sn_4_2 : (("+" : Str) = "name") = False := eq_false (by decide +kernel)
theorem sn_4_3 : (("+" : Str) = "relation") = False := eq_false (by decide +kernel)
theorem sn_4_5 : (("+" : Str) = "-") = False := eq_false (by decide +kernel)
theorem sn_4_6 : (("+" : Str) = "*") = False := eq_false (by decide +kernel)
theorem sn_4_7 : (("+" : Str) = "bad") = False := eq_false (by decide +kernel)
theorem sn_4_8 : (("+" : Str) = "start") = False := eq_false (by decide +kernel)
theorem sn_4_9 : (("+" : Str) = "term") = False := eq_false (by decide +kernel)
theorem sn_4_10 : (("+" : Str) = "factor") = False := eq_false (by decide +kernel)
theorem sn_5_0 : (("-" : Str) = "end") = False := eq_false (by decide +kernel)
theorem sn_5_1 : (("-" : Str) = "number") = False := eq_false (by decide +kernel)
theorem sn_5_2 : (("-" : Str) = "name") = False := eq_false (by decide +kernel)
theorem sn_5_3 : (("-" : Str) = "relation") = False := eq_false (by decide +kernel)
theorem sn_5_4 : (("-" : Str) = "+") = False := eq_false (by decide +kernel)
theorem sn_5_6 : (("-" : Str) = "*") = False := eq_false (by decide +kernel)
theorem sn_5_7 : (("-" : Str) = "bad") = False := eq_false (by decide +kernel)
theorem sn_5_8 : (("-" : Str) = "start") = False := eq_false (by decide +kernel)
theorem sn_5_9 : (("-" : Str) = "term") = False := eq_false (by decide +kernel)
theorem sn_5_10 : (("-" : Str) = "factor") = False := eq_false (by decide +kernel)
theorem sn_6_0 : (("*" : Str) = "end") = False := eq_false (by decide +kernel)
theorem sn_6_1 : (("*" : Str) = "number") = False := eq_false (by decide +kernel)
theorem sn_6_2 : (("*" : Str) = "name") = False := eq_false (by decide +kernel)
theorem sn_6_3 : (("*" : Str) = "relation") = False := eq_false (by decide +kernel)
theorem sn_6_4 : (("*" : Str) = "+") = False := eq_false (by decide +kernel)
theorem sn_6_5 : (("*" : Str) = "-") = False := eq_false (by decide +kernel)
theorem sn_6_7 : (("*" : Str) = "bad") = False := eq_false (by decide +kernel)
theorem sn_6_8 : (("*" : Str) = "start") = False := eq_false (by decide +kernel)
theorem sn_6_9 : (("*" : Str) = "term") = False := eq_false (by decide +kernel)
theorem sn_6_10 : (("*" : Str) = "factor") = False := eq_false (by decide +kernel)
theorem sn_7_0 : (("bad" : Str) = "end") = False := eq_false (by decide +kernel)
theorem sn_7_1 : (("bad" : Str) = "number") = False := eq_false (by decide +kernel)
theorem sn_7_2 : (("bad" : Str) = "name") = False := eq_false (by decide +kernel)
theorem sn_7_3 : (("bad" : Str) = "relation") = False := eq_false (by decide +kernel)
theorem sn_7_4 : (("bad" : Str) = "+") = False := eq_false (by decide +kernel)
theorem sn_7_5 : (("bad" : Str) = "-") = False := eq_false (by decide +kernel)
theorem sn_7_6 : (("bad" : Str) = "*") = False := eq_false (by decide +kernel)
theorem sn_7_8 : (("bad" : Str) = "start") = False := eq_false (by decide +kernel)
theorem sn_7_9 : (("bad" : Str) = "term") = False := eq_false (by decide +kernel)
theorem sn_7_10 : (("bad" : Str) = "factor") = False := eq_false (by decide +kernel)
theorem sn_8_0 : (("start" : Str) = "end") = False := eq_false (by decide +kernel)
theorem sn_8_1 : (("start" : Str) = "number") = False := eq_false (by decide +kernel)
theorem sn_8_2 : (("start" : Str) = "name") = False := eq_false (by decide +kernel)
theorem sn_8_3 : (("start" : Str) = "relation") = False := eq_false (by decide +kernel)
theorem sn_8_4 : (("start" : Str) = "+") = False := eq_false (by decide +kernel)
theorem sn_8_5 : (("start" : Str) = "-") = False := eq_false (by decide +kernel)
theorem sn_8_6 : (("start" : Str) = "*") = False := eq_false (by decide +kernel)
theorem sn_8_7 : (("start" : Str) = "bad") = False := eq_false (by decide +kernel)
theorem sn_8_9 : (("start" : Str) = "term") = False := eq_false (by decide +kernel)
theorem sn_8_10 : (("start" : Str) = "factor") = False := eq_false (by decide +kernel)
theorem sn_9_0 : (("term" : Str) = "end") = False := eq_false (by decide +kernel)
theorem sn_9_1 : (("term" : Str) = "number") = False := eq_false (by decide +kernel)
theorem sn_9_2 : (("term" : Str) = "name") = False := eq_false (by decide +kernel)
theorem sn_9_3 : (("term" : Str) = "relation") = False := eq_false (by decide +kernel)
theorem sn_9_4 : (("term" : Str) = "+") = False := eq_false (by decide +kernel)
theorem sn_9_5 : (("term" : Str) = "-") = False := eq_false (by decide +kernel)
theorem sn_9_6 : (("term" : Str) = "*") = False := eq_false (by decide +kernel)
theorem sn_9_7 : (("term" : Str) = "bad") = False := eq_false (by decide +kernel)
theorem sn_9_8 : (("term" : Str) = "start") = False := eq_false (by decide +kernel)
theorem sn_9_10 : (("term" : Str) = "factor") = False := eq_false (by decide +kernel)
theorem sn_10_0 : (("factor" : Str) = "end") = False := eq_false (by decide +kernel)
theorem sn_10_1 : (("factor" : Str) = "number") = False := eq_false (by decide +kernel)
theorem sn_10_2 : (("factor" : Str) = "name") = False := eq_false (by decide +kernel)
theorem sn_10_3 : (("factor" : Str) = "relation") = False := eq_false (by decide +kernel)
theorem sn_10_4 : (("factor" : Str) = "+") = False := eq_false (by decide +kernel)
theorem sn_10_5 : (("factor" : Str) = "-") = False := eq_false (by decide +kernel)
theorem sn_10_6 : (("factor" : Str) = "*") = False := eq_false (by decide +kernel)
theorem sn_10_7 : (("factor" : Str) = "bad") = False := eq_false (by decide +kernel)
theorem sn_10_8 : (("factor" : Str) = "start") = False := eq_false (by decide +kernel)
theorem sn_10_9 : (("factor" : Str) = "term") = False := eq_false (by decide +kernel)
theorem si_0_0 : inV (.str "end") [.str "start", .str "term"] = false := by decide +kernel
theorem si_0_1 : inV (.str "end") [.str "number", .str "name"] = false := by decide +kernel
theorem si_0_2 : inV (.str "end") [.str "+", .str "-"] = false := by decide +kernel
theorem si_0_3 : inV (.str "end") [.str "+", .str "-", .str "relation", .str "end"] = true := by decide +kernel
theorem si_1_0 : inV (.str "number") [.str "start", .str "term"] = false := by decide +kernel
theorem si_1_1 : inV (.str "number") [.str "number", .str "name"] = true := by decide +kernel
theorem si_1_2 : inV (.str "number") [.str "+", .str "-"] = false := by decide +kernel
theorem si_1_3 : inV (.str "number") [.str "+", .str "-", .str "relation", .str "end"] = false := by decide +kernel
theorem si_2_0 : inV (.str "name") [.str "start", .str "term"] = false := by decide +kernel
theorem si_2_1 : inV (.str "name") [.str "number", .str "name"] = true := by decide +kernel
theorem si_2_2 : inV (.str "name") [.str "+", .str "-"] = false := by decide +kernel
theorem si_2_3 : inV (.str "name") [.str "+", .str "-", .str "relation", .str "end"] = false := by decide +kernel
theorem si_3_0 : inV (.str "relation") [.str "start", .str "term"] = false := by decide +kernel
theorem si_3_1 : inV (.str "relation") [.str "number", .str "name"] = false := by decide +kernel
theorem si_3_2 : inV (.str "relation") [.str "+", .str "-"] = false := by decide +kernel
theorem si_3_3 : inV (.str "relation") [.str "+", .str "-", .str "relation", .str "end"] = true := by decide +kernel
theorem si_4_0 : inV (.str "+") [.str "start", .str "term"] = false := by decide +kernel
theorem si_4_1 : inV (.str "+") [.str "number", .str "name"] = false := by decide +kernel
theorem si_4_2 : inV (.str "+") [.str "+", .str "-"] = true := by decide +kernel
theorem si_4_3 : inV (.str "+") [.str "+", .str "-", .str "relation", .str "end"] = true := by decide +kernel
theorem si_5_0 : inV (.str "-") [.str "start", .str "term"] = false := by decide +kernel
theorem si_5_1 : inV (.str "-") [.str "number", .str "name"] = false := by decide +kernel
theorem si_5_2 : inV (.str "-") [.str "+", .str "-"] = true := by decide +kernel
theorem si_5_3 : inV (.str "-") [.str "+", .str "-", .str "relation", .str "end"] = true := by decide +kernel
theorem si_6_0 : inV (.str "*") [.str "start", .str "term"] = false := by decide +kernel
theorem si_6_1 : inV (.str "*") [.str "number", .str "name"] = false := by decide +kernel
theorem si_6_2 : inV (.str "*") [.str "+", .str "-"] = false := by decide +kernel
theorem si_6_3 : inV (.str "*") [.str "+", .str "-", .str "relation", .str "end"] = false := by decide +kernel
theorem si_7_0 : inV (.str "bad") [.str "start", .str "term"] = false := by decide +kernel
theorem si_7_1 : inV (.str "bad") [.str "number", .str "name"] = false := by decide +kernel
theorem si_7_2 : inV (.str "bad") [.str "+", .str "-"] = false := by decide +kernel
theorem si_7_3 : inV (.str "bad") [.str "+", .str "-", .str "relation", .str "end"] = false := by decide +kernel
theorem si_8_0 : inV (.str "start") [.str "start", .str "term"] = true := by decide +kernel
theorem si_8_1 : inV (.str "start") [.str "number", .str "name"] = false := by decide +kernel
theorem si_8_2 : inV (.str "start") [.str "+", .str "-"] = false := by decide +kernel
theorem si_8_3 : inV (.str "start") [.str "+", .str "-", .str "relation", .str "end"] = false := by decide +kernel
theorem si_9_0 : inV (.str "term") [.str "start", .str "term"] = true := by decide +kernel
theorem si_9_1 : inV (.str "term") [.str "number", .str "name"] = false := by decide +kernel
theorem si_9_2 : inV (.str "term") [.str "+", .str "-"] = false := by decide +kernel
theorem si_9_3 : inV (.str "term") [.str "+", .str "-", .str "relation", .str "end"] = false := by decide +kernel
theorem si_10_0 : inV (.str "factor") [.str "start", .str "term"] = false := by decide +kernel
theorem si_10_1 : inV (.str "factor") [.str "number", .str "name"] = false := by decide +kernel
theorem si_10_2 : inV (.str "factor") [.str "+", .str "-"] = false := by decide +kernel
theorem si_10_3 : inV (.str "factor") [.str "+", .str "-", .str "relation", .str "end"] = false := by decide +kernel
local macro_rules | `(tactic| walk_at "ks") => `(tactic| try simp only [sn_0_1, sn_0_2, sn_0_3, sn_0_4, sn_0_5, sn_0_6, sn_0_7, sn_0_8, sn_0_9, sn_0_10, sn_1_0, sn_1_2, sn_1_3, sn_1_4, sn_1_5, sn_1_6, sn_1_7, sn_1_8, sn_1_9, sn_1_10, sn_2_0, sn_2_1, sn_2_3, sn_2_4, sn_2_5, sn_2_6, sn_2_7, sn_2_8, sn_2_9, sn_2_10, sn_3_0, sn_3_1, sn_3_2, sn_3_4, sn_3_5, sn_3_6, sn_3_7, sn_3_8, sn_3_9, sn_3_10, sn_4_0, sn_4_1, sn_4_2, sn_4_3, sn_4_5, sn_4_6, sn_4_7, sn_4_8, sn_4_9, sn_4_10, sn_5_0, sn_5_1, sn_5_2, sn_5_3, sn_5_4, sn_5_6, sn_5_7, sn_5_8, sn_5_9, sn_5_10, sn_6_0, sn_6_1, sn_6_2, sn_6_3, sn_6_4, sn_6_5, sn_6_7, sn_6_8, sn_6_9, sn_6_10, sn_7_0, sn_7_1, sn_7_2, sn_7_3, sn_7_4, sn_7_5, sn_7_6, sn_7_8, sn_7_9, sn_7_10, sn_8_0, sn_8_1, sn_8_2, sn_8_3, sn_8_4, sn_8_5, sn_8_6, sn_8_7, sn_8_9, sn_8_10, sn_9_0, sn_9_1, sn_9_2, sn_9_3, sn_9_4, sn_9_5, sn_9_6, sn_9_7, sn_9_8, sn_9_10, sn_10_0, sn_10_1, sn_10_2, sn_10_3, sn_10_4, sn_10_5, sn_10_6, sn_10_7, sn_10_8, sn_10_9, si_0_0, si_0_1, si_0_2, si_0_3, si_1_0, si_1_1, si_1_2, si_1_3, si_2_0, si_2_1, si_2_2, si_2_3, si_3_0, si_3_1, si_3_2, si_3_3, si_4_0, si_4_1, si_4_2, si_4_3, si_5_0, si_5_1, si_5_2, si_5_3, si_6_0, si_6_1, si_6_2, si_6_3, si_7_0, si_7_1, si_7_2, si_7_3, si_8_0, si_8_1, si_8_2, si_8_3, si_9_0, si_9_1, si_9_2, si_9_3, si_10_0, si_10_1, si_10_2, si_10_3, if_true, if_false, ite_true, ite_false, true_and, and_true, not_true_eq_false, not_false_eq_true, Bool.false_eq_true, reduceCtorEq])

/-! ### the law's symbols: runs, numbers -/
/- lent by k08 -/
/- def _law_run_end, slots 0 _law_text 1 _law_at 2 _law_signs -/
/- lent by k08 -/
/- def _law_is_number, slots 0 _law_word 1 _law_first 2 _law_stroke 3 _law_second 4 _law_part 5 _law_sign -/
/-! ### texts without neighbouring digits: small numbers (plain) -/
/-- a rational of small size -/
def Dv (k : Nat) (q : Rat) : Prop := ∃ n : Int, q * 2520 = (n : Rat) ∧ n.natAbs ≤ 22680 * k
theorem Dv.mono {k j : Nat} {q : Rat} (h : Dv k q) (hk : k ≤ j) : Dv j q := by obtain ⟨n, h1, h2⟩ := h; exact ⟨n, h1, by omega⟩
theorem Dv.add {k j : Nat} {p q : Rat} (h : Dv k p) (h' : Dv j q) : Dv (k + j) (p + q) := by
  obtain ⟨n, h1, h2⟩ := h
  obtain ⟨m, h3, h4⟩ := h'
  exact ⟨n + m, by rw [Rat.add_mul, h1, h3, Rat.intCast_add], by omega⟩
theorem Dv.neg {k : Nat} {p : Rat} (h : Dv k p) : Dv k (-p) := by
  obtain ⟨n, h1, h2⟩ := h
  exact ⟨-n, by rw [Rat.neg_mul, h1, Rat.intCast_neg], by omega⟩
theorem Dv.zero : Dv 0 0 := ⟨0, by decide +kernel, by decide⟩
theorem Dv.one : Dv 1 1 := ⟨2520, by decide +kernel, by decide⟩
theorem Dv.bq {k : Nat} {q : Rat} (h : Dv k q) (hk : k ≤ 180) : Bq 22 q := by
  obtain ⟨n, h1, h2⟩ := h
  have e : q = (n : Rat) / ((2520 : Int) : Rat) := by
    rw [← h1]
    have : ((2520 : Int) : Rat) = 2520 := rfl
    rw [this]
    grind
  rw [e]
  exact Bq.frac (by decide) (by omega) (by decide)
/-! ### texts of fractions, plain: what is written is read -/
/-! ### a printed tie read again (plain) -/
/-! ### a printed tie read again: both sides, the ties (plain) -/
theorem srt_eq {ns ms : List Nm} (hp : ms.Perm ns) (hs : ms.Pairwise fun x y => leN x y = true) : srt ns = ms :=
  (List.Perm.eq_of_pairwise (fun a b _ _ h1 h2 => leN_anti h1 h2) hs (List.pairwise_mergeSort leN_tr leN_tot ns) (hp.trans (List.mergeSort_perm ns leN).symm)).symm
/-! ### the ties of a read text: printed and read again (plain) -/
/-! ### k16: what is known of drawn names and ties -/
structure LW (us : List Nm) (Ts : List Te) : Prop where
  ul : us.length ≤ 6
  nd : us.Nodup
  nm : ∀ w ∈ us, nmL w = true
  c8 : ∀ w ∈ us, ∀ c ∈ w, c < 256
  wl : ∀ w ∈ us, w.length ≤ 7
  tl : Ts.length ≤ 6
  tq : ∀ T ∈ Ts, TqOk us T.ts ∧ Bq 60 T.b
theorem nmsF_ok : ∀ {ns acc : List Nm}, (∀ n ∈ ns, nmL n = true) → (acc ++ ns).Nodup → nmsF acc ns = none
  | [], _, _, _ => rfl
  | n :: r, acc, h, hd => by
    unfold nmsF
    have h2 : n ∉ acc := fun z => by
      rw [List.nodup_append] at hd
      exact hd.2.2 n z n List.mem_cons_self rfl
    rw [if_pos ⟨h n List.mem_cons_self, h2⟩]
    exact nmsF_ok (fun x hx => h x (List.mem_cons_of_mem _ hx)) (by rw [List.append_assoc]; exact hd)
theorem tsF_ok {ws : List Nm} : ∀ {ds : List D} {i : Nat}, (∀ d ∈ ds, tieIn ws d = true) → tsF ws i ds = none
  | [], _, _ => rfl
  | d :: r, i, h => by
    unfold tsF
    rw [if_pos (h d List.mem_cons_self)]
    exact tsF_ok fun x hx => h x (List.mem_cons_of_mem _ hx)
theorem toT_tok {ws : List Nm} {T : Te} (h : TqOk ws T.ts) : TOk (toT T).1 := by
  refine ⟨fun z => ?_, ?_, fun t ht => ?_⟩
  · have e : (T.ts.map fun t => ((t.1, rf t.2) : Tm)) = [] := z
    have := h.len
    rw [List.map_eq_nil_iff] at e
    rw [e] at this
    simp at this
  · show (T.ts.map _).length ≤ 2
    rw [List.length_map]
    rcases h.len with z | z <;> omega
  · obtain ⟨x, hx, rfl⟩ := List.mem_map.mp ht
    exact ⟨rf_ok _, fun z => h.nz x hx (num_zero.mp z), (h.bd x hx).mono (by decide)⟩
theorem toT_asc {ws : List Nm} {T : Te} (h : TqOk ws T.ts) : (toT T).1.Pairwise fun a b => a.1 < b.1 := by
  show (T.ts.map _).Pairwise _
  rw [List.pairwise_map]
  exact h.asc
theorem tie_isTie {ts : List Tm} {b : Int × Int} (h : TOk ts) (hn : ∀ t ∈ ts, nmL t.1 = true) (ha : ts.Pairwise fun a b => a.1 < b.1) (hb : Fr.Ok b) : isTie (tieD (ts, b)) = true := by
  have rk : ∀ f : Int × Int, Fr.Ok f → isRat (frD f) = true := fun f o => by
    show (decide (0 < f.2) && decide (Int.gcd f.1 f.2 = 1)) = true
    rw [decide_eq_true o.1, decide_eq_true o.2]; rfl
  have tk : ∀ t ∈ ts, isTerm (tmD t) = true := fun t ht => by
    obtain ⟨o, nz, _⟩ := h.rt t ht
    show (nmL t.1 && isRat (frD t.2) && decide (t.2.1 ≠ 0)) = true
    rw [hn t ht, rk _ o, decide_eq_true nz]; rfl
  show (isRat (frD b) && areTs (tsD ts)) = true
  rw [rk _ hb, Bool.true_and]
  match ts, h.ne, h.len, tk, ha with
  | [t], _, _, tk, _ => exact tk t List.mem_cons_self
  | [t, u], _, _, tk, ha =>
    show (isTerm (tmD t) && isTerm (tmD u) && ltT (tmD t) (tmD u)) = true
    rw [tk t List.mem_cons_self, tk u (by simp)]
    have : t.1 < u.1 := by simpa using ha
    exact decide_eq_true this
section
variable {us : List Nm} {Ts : List Te} (L : LW us Ts)
include L
theorem LW.tnm {T : Te} (hT : T ∈ Ts) : ∀ t ∈ (toT T).1, nmL t.1 = true ∧ t.1 ∈ us := fun t ht => by
  obtain ⟨x, hx, rfl⟩ := List.mem_map.mp ht
  have := (L.tq T hT).1.nm x hx
  exact ⟨L.nm _ this, this⟩
theorem LW.tin {T : Te} (hT : T ∈ Ts) {ws : List Nm} (hw : ∀ w ∈ us, w ∈ ws) : tieIn ws (teD T) = true := by
  unfold tieIn
  rw [teD_T, tieNs_D]
  have e : isTie (tieD (toT T)) = true := tie_isTie (toT_tok (L.tq T hT).1) (fun t ht => (L.tnm hT t ht).1) (toT_asc (L.tq T hT).1) (rf_ok _)
  rw [e, Bool.true_and, List.all_eq_true]
  intro n hn
  obtain ⟨t, ht, rfl⟩ := List.mem_map.mp hn
  exact decide_eq_true (hw _ (L.tnm hT t ht).2)
theorem LW.tsn {ws : List Nm} (hw : ∀ w ∈ us, w ∈ ws) : tsF ws 0 (Ts.map teD) = none := tsF_ok fun d hd => by
  obtain ⟨T, hT, rfl⟩ := List.mem_map.mp hd
  exact L.tin hT hw
end
theorem te_pn {T : Te} {us : List Nm} (h : TqOk us T.ts) (hu : ∀ w ∈ us, w.length ≤ 1000) : Pn (teD T) := by
  refine ⟨6, (by show 2 ≤ 1000; decide), fun d hd => ?_⟩
  rcases List.mem_cons.mp hd with rfl | hd
  · refine ⟨by rw [List.length_map]; rcases h.len with z | z <;> omega, fun x hx => ?_⟩
    obtain ⟨t, ht, rfl⟩ := List.mem_map.mp hx
    refine ⟨(by show 2 ≤ 1000; decide), fun y hy => ?_⟩
    rcases List.mem_cons.mp hy with rfl | hy
    · show (S t.1).length ≤ 1000
      rw [S_len]
      exact hu _ (h.nm t ht)
    · rw [List.mem_singleton] at hy; subst hy
      exact ⟨(by show 2 ≤ 1000; decide), fun z hz => by
        simp only [List.mem_cons, List.not_mem_nil, or_false] at hz
        rcases hz with rfl | rfl <;> trivial⟩
  · rw [List.mem_singleton] at hd; subst hd
    exact ⟨(by show 2 ≤ 1000; decide), fun z hz => by
      simp only [List.mem_cons, List.not_mem_nil, or_false] at hz
      rcases hz with rfl | rfl <;> trivial⟩
/-! no semicolon in a told tie -/
/-! ### name = 1, read (plain) -/
/-! ### lots made and read (plain) -/
theorem lk_no {f : Str} {ws : List Nm} {ts : List D} (h1 : (f == ("words" : Str)) = false) (h2 : (f == ("held" : Str)) = false) : List.lookup f (lotG ws ts) = none := by
  simp only [List.lookup, h1, h2]
theorem lk_names {ws : List Nm} {ts : List D} : List.lookup ("names" : Str) (lotG ws ts) = none := lk_no (by decide +kernel) (by decide +kernel)
theorem lk_ties {ws : List Nm} {ts : List D} : List.lookup ("ties" : Str) (lotG ws ts) = none := lk_no (by decide +kernel) (by decide +kernel)
theorem as_ins {m : Mem} {p : Addr} {fs : List (Str × D)} (h : m p = some (.ins "Lot" fs)) : asI "Lot" m (.ref p) = some fs := by rw [asI_2, h]; exact insO_1
theorem set_ne {m : Mem} {p q : Addr} {o u : MO} (h : m p = some o) (hq : m q = none) : mset m q u p = some o := by
  rw [mset_ne (fun z => by rw [z, hq] at h; cases h)]; exact h
theorem strange_ok : ∀ w ∈ strangeL, nmL w = true ∧ w.length ≤ 6 ∧ ∀ c ∈ w, c < 256 := by decide +kernel
section
variable {us : List Nm} {Ts : List Te} {p : Addr}
theorem LW.lte (L : LW us Ts) {ws : List Nm} (h : ∀ w ∈ ws, ∀ c ∈ w, c < 256) : LtE ws (Ts.map toT) := ⟨h, fun T hT t ht => by
  obtain ⟨U, hU, rfl⟩ := List.mem_map.mp hT
  exact L.c8 _ (L.tnm hU t ht).2⟩
end
theorem stem_w {w : Nm} (h : Word w) : stem39 w = w ∧ stem39 (w ++ [39]) = w := by
  obtain ⟨h1, h2, h3⟩ := h
  constructor
  · unfold stem39
    rw [if_neg]
    intro z
    have : (39 : Nat) ∈ w := List.mem_of_mem_drop (i := w.length - 1) (by rw [z]; simp)
    have := h3 39 this
    omega
  · unfold stem39
    rw [if_pos, List.dropLast_concat]
    rw [List.length_append, List.length_cons, List.length_nil, show w.length + (0 + 1) - 1 = w.length by omega, List.drop_left]
theorem nmR_w {w : Nm} (h : Word w) : nmR w = true := by
  obtain ⟨h1, h2, h3⟩ := h
  unfold nmR
  rw [decide_eq_true h1, decide_eq_true h2, Bool.true_and, Bool.true_and, List.all_eq_true]
  intro c hc
  have := h3 c hc
  simp only [Bool.and_eq_true, decide_eq_true_eq]
  exact this
theorem nm_w {w : Nm} (h : Word w) : nmL w = true := show nmR (stem39 w) = true by rw [(stem_w h).1]; exact nmR_w h

/-! ### dicts of fractions compared -/
/-- the values of a dict found in another -/
def hitA (qs : Al) : Al → Bool
  | [] => true
  | p :: ps => match getA qs p.1 with
    | none => false
    | some w => decide (p.2 = w) && hitA qs ps
def alEq (ps qs : Al) : Bool := ps.length == qs.length && hitA qs ps
theorem eqv_q (a b : Rat) : PyData.eqv (.tuple [.int a.num, .int a.den]) (.tuple [.int b.num, .int b.den]) = decide (a = b) := by
  have h := cE_eqv (qD a) (qD b) (.tuple [.int a.num, .int a.den]) (.tuple [.int b.num, .int b.den]) rfl rfl rfl rfl
  rw [Bool.eq_iff_iff, h, decide_eq_true_eq]
  exact ⟨qD_inj, fun e => by rw [e]⟩
theorem hit_al (qs : Al) : ∀ ps : Al, HitD (alD qs) (alD ps) (hitA qs ps)
  | [] => .nil
  | p :: ps => by
    unfold hitA
    have e : alD (p :: ps) = (.inr (S p.1), qD p.2) :: alD ps := rfl
    rw [e]
    cases h : getA qs p.1 with
    | none => exact .miss (by rw [val_al, h]; rfl)
    | some w =>
      have := HitD.hit (ls := alD qs) (c := .inr (S p.1)) (v := qD p.2) (w := qD w) (ps := alD ps) (p := .tuple [.int p.2.num, .int p.2.den]) (q := .tuple [.int w.num, .int w.den]) (by rw [val_al, h]; rfl) rfl rfl rfl (by show 1 ≤ 20; decide) (hit_al qs ps)
      rw [eqv_q] at this
      exact this
/-! ### k17: texts with a wrong part (plain) -/
theorem tsF_bad {ws : List Nm} {b : D} {r : List D} (hb : tieIn ws b = false) : ∀ {ds : List D} {i : Nat}, (∀ d ∈ ds, tieIn ws d = true) → tsF ws i (ds ++ b :: r) = some (i + ds.length)
  | [], i, _ => by
    show tsF ws i (b :: r) = _
    unfold tsF
    rw [if_neg (by rw [hb]; decide)]
    rfl
  | d :: ds, i, h => by
    rw [List.cons_append]
    unfold tsF
    rw [if_pos (h d List.mem_cons_self), tsF_bad hb fun x hx => h x (List.mem_cons_of_mem _ hx), List.length_cons]
    congr 1
    omega

/-! ### k34: steps (plain) -/
/-- drawn steps -/
structure SW (us : List Nm) (Ts : List Te) : Prop where
  n1 : us ≠ []
  n3 : us.length ≤ 3
  nd : us.Nodup
  wd : ∀ w ∈ us, Word w
  tl : Ts.length ≤ 6
  tq : ∀ T ∈ Ts, TqOk (knwn us) T.ts ∧ Bq 60 T.b
theorem word_39 {w : Nm} (h : Word w) : (39 : Nat) ∉ w := fun z => by have := h.2.2 39 z; omega
theorem app39 {a b : Nm} (h : a ++ [39] = b ++ [39]) : a = b := List.append_cancel_right h
theorem nm_w39 {w : Nm} (h : Word w) : nmL (w ++ [39]) = true := show nmR (stem39 (w ++ [39])) = true by rw [(stem_w h).2]; exact nmR_w h
theorem kn_nd {us : List Nm} (nd : us.Nodup) (wd : ∀ w ∈ us, Word w) : (knwn us).Nodup := by
  unfold knwn
  rw [List.nodup_append]
  refine ⟨nd, ?_, fun a ha b hb e => ?_⟩
  · rw [List.Nodup, List.pairwise_map]
    exact nd.imp fun hab e => hab (app39 e)
  · obtain ⟨v, hv, rfl⟩ := List.mem_map.mp hb
    exact word_39 (wd a ha) (by rw [e]; simp)
theorem kn_nm {us : List Nm} (wd : ∀ w ∈ us, Word w) : ∀ w ∈ knwn us, nmL w = true ∧ w.length ≤ 7 ∧ ∀ c ∈ w, c < 256 := fun w hw => by
  rcases List.mem_append.mp hw with hw | hw
  · have h := wd w hw
    exact ⟨nm_w h, by have := h.2.1; omega, fun c hc => by have := h.2.2 c hc; omega⟩
  · obtain ⟨v, hv, rfl⟩ := List.mem_map.mp hw
    have h := wd v hv
    refine ⟨nm_w39 h, by rw [List.length_append]; have := h.2.1; simp; omega, fun c hc => ?_⟩
    rcases List.mem_append.mp hc with hc | hc
    · have := h.2.2 c hc; omega
    · rw [List.mem_singleton] at hc; omega
theorem SW.lw {us : List Nm} {Ts : List Te} (L : SW us Ts) : LW (knwn us) Ts :=
  ⟨by rw [knwn_len]; have := L.n3; omega, kn_nd L.nd L.wd, fun w hw => (kn_nm L.wd w hw).1, fun w hw => (kn_nm L.wd w hw).2.2, fun w hw => (kn_nm L.wd w hw).2.1, L.tl, L.tq⟩
theorem drop_last39 {w : Nm} (h : Word w) : w.drop (w.length - 1) ≠ [39] := fun e => word_39 h (List.mem_of_mem_drop (i := w.length - 1) (by rw [e]; simp))
theorem snmF_ok : ∀ {ns acc : List Nm}, (∀ n ∈ ns, Word n) → (acc ++ ns).Nodup → (acc ++ ns).length ≤ 3 → snmF acc ns = none
  | [], _, _, _, _ => rfl
  | n :: r, acc, h, hd, hl => by
    unfold snmF
    have h2 : n ∉ acc := fun z => by
      rw [List.nodup_append] at hd
      exact hd.2.2 n z n List.mem_cons_self rfl
    have w := h n List.mem_cons_self
    rw [if_pos ⟨nm_w w, drop_last39 w, h2, by rw [List.length_append, List.length_cons] at hl; omega⟩]
    exact snmF_ok (fun x hx => h x (List.mem_cons_of_mem _ hx)) (by rw [List.append_assoc]; exact hd) (by rw [List.append_assoc]; exact hl)
theorem snmF_bad {b : Nm} {r : List Nm} (hb : ¬ (nmL b = true ∧ b.drop (b.length - 1) ≠ [39])) : ∀ {ns acc : List Nm}, (∀ n ∈ ns, Word n) → (acc ++ ns).Nodup → (acc ++ ns).length ≤ 3 → snmF acc (ns ++ b :: r) = some b
  | [], acc, _, _, _ => by
    show snmF acc (b :: r) = _
    unfold snmF
    rw [if_neg fun z => hb ⟨z.1, z.2.1⟩]
  | n :: ns, acc, h, hd, hl => by
    rw [List.cons_append]
    unfold snmF
    have h2 : n ∉ acc := fun z => by
      rw [List.nodup_append] at hd
      exact hd.2.2 n z n List.mem_cons_self rfl
    have w := h n List.mem_cons_self
    rw [if_pos ⟨nm_w w, drop_last39 w, h2, by rw [List.length_append, List.length_cons] at hl; omega⟩]
    exact snmF_bad hb (fun x hx => h x (List.mem_cons_of_mem _ hx)) (by rw [List.append_assoc]; exact hd) (by rw [List.append_assoc]; exact hl)
/-! sorted names -/
theorem srt_pm {a b : List Nm} (h : a.Perm b) : srt a = srt b := srt_eq ((List.mergeSort_perm b leN).trans h.symm) (List.pairwise_mergeSort leN_tr leN_tot b)
theorem srt_perm (a : List Nm) : (srt a).Perm a := List.mergeSort_perm a leN
theorem srt_srt (a : List Nm) : srt (srt a) = srt a := srt_pm (srt_perm a)
theorem kn_srt (us : List Nm) : srt (knwn (srt us)) = srt (knwn us) := srt_pm ((srt_perm us).append ((srt_perm us).map _))
theorem srt_nodup {a : List Nm} (h : a.Nodup) : (srt a).Nodup := (srt_perm a).nodup_iff.mpr h
/-! values -/
theorem getA_app (ps qs : Al) (n : Nm) : getA (ps ++ qs) n = (getA ps n).or (getA qs n) := by
  unfold getA
  rw [List.find?_append]
  cases ps.find? _ <;> rfl
theorem getA_in {ps : Al} {n : Nm} (h : n ∈ ps.map (·.1)) : ∃ q, getA ps n = some q ∧ ∃ p ∈ ps, p.1 = n ∧ p.2 = q := by
  unfold getA
  cases e : ps.find? fun p => decide (p.1 = n) with
  | none =>
    obtain ⟨p, hp, e2⟩ := List.mem_map.mp h
    exact absurd (decide_eq_true e2) (List.find?_eq_none.mp e p hp)
  | some p => exact ⟨p.2, rfl, p, List.mem_of_find?_eq_some e, of_decide_eq_true (List.find?_some (p := fun p : Nm × Rat => decide (p.1 = n)) e), rfl⟩
theorem getA_no {ps : Al} {n : Nm} (h : n ∉ ps.map (·.1)) : getA ps n = none := by
  unfold getA
  rw [List.find?_eq_none.mpr fun p hp e => h (List.mem_map.mpr ⟨p, hp, of_decide_eq_true e⟩)]
  rfl
theorem getA_39 (w : Nm) : ∀ qs : Al, getA (qs.map fun q => (q.1 ++ [39], q.2)) (w ++ [39]) = getA qs w
  | [] => rfl
  | q :: qs => by
    have ih := getA_39 w qs
    unfold getA at ih ⊢
    rw [List.map_cons, List.find?_cons, List.find?_cons]
    by_cases e : q.1 = w
    · rw [decide_eq_true (by rw [e]), decide_eq_true e]; rfl
    · rw [decide_eq_false fun z => e (app39 z), decide_eq_false e]
      exact ih
theorem getA_m39 (f : Nm → Rat) (w : Nm) : ∀ l : List Nm, w ∈ l → getA (l.map fun v => (v ++ [39], f v)) (w ++ [39]) = some (f w)
  | [], h => by cases h
  | v :: l, h => by
    unfold getA
    rw [List.map_cons, List.find?_cons]
    by_cases e : v = w
    · rw [decide_eq_true (by rw [e]), e]; rfl
    · rw [decide_eq_false fun z => e (app39 z)]
      rcases List.mem_cons.mp h with h | h
      · exact absurd h.symm e
      · exact getA_m39 f w l h
theorem dot_congr {a b : Al} {ts : Al} (h : ∀ t ∈ ts, getA a t.1 = getA b t.1) : dot ts a = dot ts b := by
  unfold dot
  have go : ∀ (l : Al) (x : Rat), (∀ t ∈ l, getA a t.1 = getA b t.1) → l.foldl (fun y t => y + t.2 * (getA a t.1).getD 0) x = l.foldl (fun y t => y + t.2 * (getA b t.1).getD 0) x := fun l => by
    induction l with
    | nil => intro x _; rfl
    | cons t l ih =>
      intro x h
      rw [List.foldl_cons, List.foldl_cons, h t List.mem_cons_self]
      exact ih _ fun u hu => h u (List.mem_cons_of_mem _ hu)
  exact go ts 0 h
theorem kpt_congr {a b : Al} {T : Te} (h : ∀ t ∈ T.ts, getA a t.1 = getA b t.1) : kpt a T = kpt b T := by
  unfold kpt
  rw [dot_congr h]
/-- the values before and behind -/
structure PQ (us : List Nm) (ps qs : Al) : Prop where
  p : ps.map (·.1) = us
  q : qs.map (·.1) = us
  bp : ∀ x ∈ ps, Bq 4 x.2
  bq : ∀ x ∈ qs, Bq 4 x.2
def vals1 (ps qs : Al) : Al := ps ++ qs.map fun q => (q.1 ++ [39], q.2)
section
variable {us : List Nm} {ps qs : Al} (wd : ∀ w ∈ us, Word w) (H : PQ us ps qs)
include wd H
theorem PQ.old {w : Nm} (hw : w ∈ us) : ∃ x, getA ps w = some x ∧ Bq 4 x ∧ getA (vals1 ps qs) w = some x ∧ getA (valsA (srt us) ps qs) w = some x := by
  obtain ⟨x, e, p, hp, _, h2⟩ := getA_in (ps := ps) (n := w) (by rw [H.p]; exact hw)
  refine ⟨x, e, by rw [← h2]; exact H.bp p hp, ?_, ?_⟩
  · unfold vals1; rw [getA_app, e]; rfl
  · unfold valsA; rw [getA_app, e]; rfl
theorem PQ.new {w : Nm} (hw : w ∈ us) : ∃ x, getA qs w = some x ∧ Bq 4 x ∧ getA (vals1 ps qs) (w ++ [39]) = some x ∧ getA (valsA (srt us) ps qs) (w ++ [39]) = some x := by
  obtain ⟨x, e, p, hp, _, h2⟩ := getA_in (ps := qs) (n := w) (by rw [H.q]; exact hw)
  have no : getA ps (w ++ [39]) = none := getA_no (by rw [H.p]; exact fun z => word_39 (wd _ z) (by simp))
  refine ⟨x, e, by rw [← h2]; exact H.bq p hp, ?_, ?_⟩
  · unfold vals1; rw [getA_app, no, getA_39, e]; rfl
  · unfold valsA
    rw [getA_app, no, getA_m39 (fun w => (getA qs w).getD 0) w _ (srt_mem.mpr hw), e]; rfl
theorem PQ.all {n : Nm} (hn : n ∈ knwn us) : ∃ x, Bq 4 x ∧ getA (vals1 ps qs) n = some x ∧ getA (valsA (srt us) ps qs) n = some x := by
  rcases List.mem_append.mp hn with h | h
  · obtain ⟨x, _, b, h1, h2⟩ := H.old wd h
    exact ⟨x, b, h1, h2⟩
  · obtain ⟨w, hw, rfl⟩ := List.mem_map.mp h
    obtain ⟨x, _, b, h1, h2⟩ := H.new wd hw
    exact ⟨x, b, h1, h2⟩
theorem PQ.kpt {T : Te} (hT : TqOk (knwn us) T.ts) : kpt (vals1 ps qs) T = kpt (valsA (srt us) ps qs) T := kpt_congr fun t ht => by
  obtain ⟨x, _, h1, h2⟩ := H.all wd (hT.nm t ht)
  rw [h1, h2]
end
def stayQ (ws : List Nm) : List Te := ws.flatMap fun w => [⟨[(w, 1), (w ++ [39], -1)], 0⟩, ⟨[(w, -1), (w ++ [39], 1)], 0⟩]
theorem stayQ_T (ws : List Nm) : (stayQ ws).map toT = stayT ws := by
  unfold stayQ stayT
  rw [List.map_flatMap]
  have e : ∀ w : Nm, ([⟨[(w, 1), (w ++ [39], -1)], 0⟩, ⟨[(w, -1), (w ++ [39], 1)], 0⟩] : List Te).map toT = eqT w (w ++ [39]) := fun w => by
    show [toT _, toT _] = eqT w (w ++ [39])
    unfold toT eqT
    simp only [List.map_cons, List.map_nil, rf_1, rf_m1, rf_0]
  simp only [e]
theorem stay_tq {us : List Nm} : ∀ T ∈ stayQ (srt us), TqOk (knwn us) T.ts ∧ Bq 60 T.b := fun T hT => by
  obtain ⟨w, hw, hT⟩ := List.mem_flatMap.mp hT
  have hw := srt_mem.mp hw
  have k1 : w ∈ knwn us := List.mem_append_left _ hw
  have k2 : w ++ [39] ∈ knwn us := List.mem_append_right _ (List.mem_map.mpr ⟨w, hw, rfl⟩)
  have lt : w < w ++ [39] := by
    have : ∀ w : Nm, w < w ++ [39] := fun w => by
      induction w with
      | nil => exact List.nil_lt_cons _ _
      | cons a w ih => exact List.cons_lt_cons_self.mpr ih
    exact this w
  have b1 : Bq 4 (1 : Rat) := by decide
  have b2 : Bq 4 (-1 : Rat) := by decide
  have b0 : Bq 60 (0 : Rat) := by decide
  have n1 : (1 : Rat) ≠ 0 := by decide
  have n2 : (-1 : Rat) ≠ 0 := by decide
  simp only [List.mem_cons, List.not_mem_nil, or_false] at hT
  have mk : ∀ x y : Rat, x ≠ 0 → y ≠ 0 → Bq 4 x → Bq 4 y → TqOk (knwn us) [(w, x), (w ++ [39], y)] := fun x y hx hy bx bY => by
    refine ⟨.inr rfl, fun t ht => ?_, fun t ht => ?_, fun t ht => ?_, by unfold AscQ; simpa using lt⟩ <;> (simp only [List.mem_cons, List.not_mem_nil, or_false] at ht; rcases ht with rfl | rfl <;> assumption)
  rcases hT with rfl | rfl
  · exact ⟨mk 1 (-1) n1 n2 b1 b2, b0⟩
  · exact ⟨mk (-1) 1 n2 n1 b2 b1, b0⟩
theorem stay_all {us : List Nm} {ps qs : Al} (wd : ∀ w ∈ us, Word w) (H : PQ us ps qs) : (stayQ (srt us)).all (kpt (valsA (srt us) ps qs)) = true ↔ ∀ w ∈ us, getA ps w = getA qs w := by
  rw [List.all_eq_true]
  have one : ∀ w ∈ us, (kpt (valsA (srt us) ps qs) ⟨[(w, 1), (w ++ [39], -1)], 0⟩ = true ∧ kpt (valsA (srt us) ps qs) ⟨[(w, -1), (w ++ [39], 1)], 0⟩ = true) ↔ getA ps w = getA qs w := fun w hw => by
    obtain ⟨x, e1, _, _, v1⟩ := H.old wd hw
    obtain ⟨y, e2, _, _, v2⟩ := H.new wd hw
    have d1 : dot [(w, 1), (w ++ [39], -1)] (valsA (srt us) ps qs) = x - y := by
      show 0 + 1 * (getA _ w).getD 0 + -1 * (getA _ (w ++ [39])).getD 0 = _
      rw [v1, v2]
      show 0 + 1 * x + -1 * y = x - y
      grind
    have d2 : dot [(w, -1), (w ++ [39], 1)] (valsA (srt us) ps qs) = y - x := by
      show 0 + -1 * (getA _ w).getD 0 + 1 * (getA _ (w ++ [39])).getD 0 = _
      rw [v1, v2]
      show 0 + -1 * x + 1 * y = y - x
      grind
    unfold kpt
    dsimp only
    rw [d1, d2, e1, e2]
    simp only [Bool.not_eq_true', decide_eq_false_iff_not, Option.some.injEq]
    constructor
    · intro h; grind
    · intro h; subst h; grind
  constructor
  · intro h w hw
    have hs : w ∈ srt us := srt_mem.mpr hw
    refine (one w hw).mp ⟨h _ (List.mem_flatMap.mpr ⟨w, hs, by simp⟩), h _ (List.mem_flatMap.mpr ⟨w, hs, by simp⟩)⟩
  · intro h T hT
    obtain ⟨w, hw, hT⟩ := List.mem_flatMap.mp hT
    have hw := srt_mem.mp hw
    have := (one w hw).mpr (h w hw)
    simp only [List.mem_cons, List.not_mem_nil, or_false] at hT
    rcases hT with rfl | rfl
    · exact this.1
    · exact this.2
theorem hitA_iff {qs : Al} : ∀ {ps : Al}, hitA qs ps = true ↔ ∀ p ∈ ps, getA qs p.1 = some p.2
  | [] => by simp [hitA]
  | p :: ps => by
    unfold hitA
    cases e : getA qs p.1 with
    | none => simp [e]
    | some w =>
      simp only [Bool.and_eq_true, decide_eq_true_eq, hitA_iff (ps := ps), List.mem_cons, forall_eq_or_imp, e, Option.some.injEq]
      exact ⟨fun ⟨a, b⟩ => ⟨a.symm, b⟩, fun ⟨a, b⟩ => ⟨a.symm, b⟩⟩
theorem alEq_pq {us : List Nm} {ps qs : Al} (nd : us.Nodup) (H : PQ us ps qs) : alEq ps qs = true ↔ ∀ w ∈ us, getA ps w = getA qs w := by
  have hl : (ps.length == qs.length) = true := by
    have h1 := congrArg List.length H.p
    have h2 := congrArg List.length H.q
    rw [List.length_map] at h1 h2
    rw [h1, h2]; exact beq_self_eq_true _
  unfold alEq
  rw [hl, Bool.true_and, hitA_iff]
  have np : (ps.map (·.1)).Nodup := by rw [H.p]; exact nd
  constructor
  · intro h w hw
    obtain ⟨x, e, p, hp, h1, h2⟩ := getA_in (ps := ps) (n := w) (by rw [H.p]; exact hw)
    have := h p hp
    rw [h1, h2] at this
    rw [e, this]
  · intro h p hp
    have hw : p.1 ∈ us := by rw [← H.p]; exact List.mem_map.mpr ⟨p, hp, rfl⟩
    rw [← h p.1 hw]
    exact getA_memq np hp
theorem stay_eq {us : List Nm} {ps qs : Al} (nd : us.Nodup) (wd : ∀ w ∈ us, Word w) (H : PQ us ps qs) : (stayQ (srt us)).all (kpt (valsA (srt us) ps qs)) = alEq ps qs := by
  rw [Bool.eq_iff_iff, stay_all wd H, alEq_pq nd H]
theorem stay_tt {us : List Nm} {ps qs : Al} (wd : ∀ w ∈ us, Word w) (H : PQ us ps qs) : (stayQ (srt us)).all (kpt (valsA (srt us) qs qs)) = true :=
  (stay_all wd ⟨H.q, H.q, H.bq, H.bq⟩).mpr fun _ _ => rfl

/-! ### lists of lambdas: what each comes to -/
/- def _law_errors, slots 0 _law_asks 1 _law_ask -/
@[reducible] def v__law_errors (ask : VE) : VS :=
  (vRet (vLc (vWalk (vVar 0)) (gN 1) vYes ask [1]))


theorem lcE {g : VG} {e : VE} {s : SL} {k : List D → Mem → Prop} {Q : Mem → Prop} {x0 : Option D} (hg : ∀ d (k' : SL → Prop), k' [x0, some d] → g d s k') :
    ∀ (ds ys : List D) (acc : List D) (m : Mem), Q m → Al2 (fun d y => ∀ m (k : KD), Q m → (∀ m', Q m' → k y m') → e [x0, some d] m k nox) ds ys → (∀ m', Q m' → k (acc ++ ys) m') → lcV g vYes e s ds acc m k
  | [], [], acc, m, hm, _, hk => by have := hk m hm; rw [List.append_nil] at this; exact this
  | [], _ :: _, _, _, _, h, _ => by cases h
  | _ :: _, [], _, _, _, h, _ => by cases h
  | d :: ds, y :: ys, acc, m, hm, h, hk => by
    cases h with
    | cons h0 h1 =>
      refine hg d _ ?_
      show (if true = true then _ else _)
      rw [if_pos rfl]
      refine h0 m _ hm fun m' hm' => lcE hg ds ys (acc ++ [y]) m' hm' h1 fun m2 h2 => ?_
      rw [List.append_assoc]
      exact hk m2 h2
theorem ers {ask : VE} {Q : Mem → Prop} {ds ys : List D} {m : Mem} {k : KD} (hl : ds.length ≤ 1000000) (hm : Q m) (h : Al2 (fun d y => ∀ m (k : KD), Q m → (∀ m', Q m' → k y m') → ask [some (.lst ds), some d] m k nox) ds ys) (hk : ∀ m', Q m' → k (.lst ys) m') : v__law_errors ask (dstart 2 [.lst ds]) m (endP k) := by
  unfold v__law_errors
  walk_at "vc"
  refine ⟨hl, lcE (Q := Q) (x0 := some (.lst ds)) (fun d k' h => h) ds ys [] m hm h fun m' h' => ?_⟩
  exact hk m' h'
section
variable {Pl : Nat → Obj → Prop} {σ : L2.St} {ves : List VE} {j : Nat} {f : Addr} {o : Obj} {sl : SL} {ve : VE} {x0 : Option D} {Q : Mem → Prop}
theorem lmb_x {C g : Str} {d : D} (hP : Pl j o) (hv : ves[j]? = some ve) (hc : List.lookup C mt_0 = some true) (hf : ∀ k : D → Prop, k d → fldK C [("tag", .str C), (g, d)] k) (h : ∀ (m : Mem) (kk : KD) (x : KX), Q m → (∀ m', Q m' → x (exX C g d) m') → ve sl m kk x) :
    ∀ (m : Mem) (k : KD), Q m → (∀ m', Q m' → k (.tup [.str C, d]) m') → vWhyV 1 3 v__law_why (vAskV Pl σ ves) [x0, some (.lmb f o σ sl)] m k nox := fun m k hm hk =>
  ⟨_, rfl, why_x Q hc hf (fun kk x hx => ⟨j, f, o, sl, ve, rfl, hP, hv, h m kk x hm hx⟩) hk⟩
end
/-! the memory of kept lambdas -/
theorem nofob_at {m : Mem} {a : Addr} {u : MO} (h : m a = some u) (hu : ∀ o, u ≠ .fob o) : nofob m a = some u := by
  unfold nofob
  rw [h]
  split
  · rename_i o e
    cases e
    exact absurd rfl (hu o)
  · rfl
theorem lmbs_nil {m : Mem} : lmbs m [] = some [] := rfl
theorem lmbs_cons {m : Mem} {f : Addr} {o : Obj} {r : List D} {fos : List (Addr × Obj)} (h : m f = some (.fob o)) (hr : lmbs m r = some fos) : lmbs m (.ref f :: r) = some ((f, o) :: fos) := by
  unfold lmbs
  rw [h]
  show (lmbs m r).map _ = _
  rw [hr]; rfl
theorem keep_new {m : Mem} {a b : Addr} {u v : MO} (h : m a = some u) (hb : m b = none) : mset m b v a = some u := by
  rw [mset_ne (fun z => by rw [z, hb] at h; cases h)]; exact h
theorem vErrs_at {Pl : Nat → Obj → Prop} {i n1 n2 j : Nat} {ves : List VE} {vw ve : VE → VS} {s : SL} {m : Mem} {k : KD} {x : KX} {p : Addr} {ds : List D} {fos : List (Addr × Obj)} (hs : s[j]? = some (some (.ref p))) (hp : m p = some (.lst ds)) (hl : lmbs m ds = some fos)
    (h : ∀ σ, ve (vWhyV i n1 vw (vAskV Pl σ ves)) (dstart n2 [.lst (fos.map fun fo => .lmb fo.1 fo.2 σ s)]) (mdel (nofob m) p) (endP k)) : vErrs Pl i n1 n2 ves vw ve (vVar j) s m k x := by
  show vGet s[j]? _
  rw [hs]
  show (match m p with | some (.lst ds) => _ | _ => False)
  rw [hp]
  show onO (lmbs m ds) _
  rw [hl]
  show _
  exact h
theorem mdel_nofob {m : Mem} {a p : Addr} {u : MO} (h : m a = some u) (hu : ∀ o, u ≠ .fob o) (hp : a ≠ p) : mdel (nofob m) p a = some u := by
  rw [mdel_ne hp]; exact nofob_at h hu
/-! the fields told -/
theorem fldK_nm {C : Str} {d : D} (h1 : inV (.str C) [.str "InvalidRatio", .str "InvalidTimes", .str "InvalidLimit"] = false) (h2 : inV (.str C) [.str "InvalidRow", .str "InvalidTie", .str "InvalidWish", .str "ParseError"] = false) (h3 : inV (.str C) [.str "InvalidName", .str "SameName", .str "UnknownName"] = true) (k : D → Prop) (hk : k d) : fldK C [("tag", .str C), ("name", d)] k := by
  unfold fldK
  rw [if_neg (by rw [h1]; decide), if_neg (by rw [h2]; decide), if_pos h3]
  exact ⟨d, fld_x (by decide +kernel), hk⟩

/-! ### same -/
/-- plain data, so deep -/
def Pl : Nat → D → Prop
  | _, .non => True
  | _, .bl _ => True
  | _, .int _ => True
  | _, .str _ => True
  | n + 1, .lst ds => ds.length ≤ 100000 ∧ ∀ d ∈ ds, Pl n d
  | n + 1, .tup ds => ds.length ≤ 100000 ∧ ∀ d ∈ ds, Pl n d
  | _, _ => False
def ph__law_same (n : Nat) : P0 := fun ds m k => ∃ x, ds = [x, x] ∧ Pl n x ∧ k (.bl true) m
theorem l__law_same (n : Nat) : ∀ ds m k, ph__law_same n ds m k → ds.length = 2 := by rintro _ m k ⟨x, rfl, _⟩; rfl
/- def _law_same, slots 0 _law_found 1 _law_due 2 _law_key 3 _law_one 4 _law_two -/
@[reducible] def v__law_same (φ : P0) : VS :=
  (vSeq (vIfS (tV (vOp oIs (vVar 1) (vC .non))) (vRet (vOp oIs (vVar 0) (vC .non))) vNext)
    (vSeq (vIfS (vOr (tV (vIsi .bl (vVar 1))) (tV (vIsi .bl (vVar 0)))) (vRet (vAndV (vIsi .bl (vVar 1)) (vAndV (vIsi .bl (vVar 0)) (vOp oEq (vVar 0) (vVar 1))))) vNext)
    (vSeq (vIfS (tV (vIsi2 .int .str (vVar 1))) (vRet (vAndV (vIsi2 .int .str (vVar 0)) (vAndV (vOp oEq (vIsi .int (vVar 0)) (vIsi .int (vVar 1))) (vOp oEq (vVar 0) (vVar 1))))) vNext)
    (vSeq (vIfS (tV (vIsi .dic (vVar 1))) vNever vNext)
    (vSeq (vIfS (vOr (tV (vOp oNe (vIsi .lst (vVar 1)) (vIsi .lst (vVar 0)))) (tV (vOp oNe (vIsi .tup (vVar 1)) (vIsi .tup (vVar 0))))) (vRet (vC (.bl false))) vNext)
    (vRet (vAndV (vOp oEq (vCB oLen (vCons (vVar 0) vNil)) (vCB oLen (vCons (vVar 1) vNil))) (vCB oAll (vCons (vLc (vZip (vCons (vVar 0) (vCons (vVar 1) vNil))) (gTp 2 (gCn (gN 3) (gCn (gN 4) gNl))) vYes (vCall φ (vCons (vVar 3) (vCons (vVar 4) vNil))) [3, 4]) vNil)))))))))


theorem w__law_same (n : Nat) : ∀ ds m k, ph__law_same (n + 1) ds m k → v__law_same (ph__law_same n) (dstart 5 ds) m (endP k) := by
  rintro _ m k ⟨x, rfl, hp, hk⟩
  unfold v__law_same
  cases x with
  | non => walk_at "vc*"
  | bl b => walk_at "vc*"
  | int b => walk_at "vc*"
  | str b => walk_at "vc*"
  | lst xs =>
    obtain ⟨h1, h2⟩ := hp
    walk_at "vc*"
    refine ⟨by rw [zipD_self, List.length_map]; omega, same_row (by simp) (by simp) xs (fun x hx k' h => ⟨x, rfl, h2 x hx, h⟩) ?_⟩
    rw [trues]
    have e : (List.replicate xs.length true).all id = true := by simp
    walk_at "vc*"
  | tup xs =>
    obtain ⟨h1, h2⟩ := hp
    walk_at "vc*"
    refine ⟨by rw [zipD_self, List.length_map]; omega, same_row (by simp) (by simp) xs (fun x hx k' h => ⟨x, rfl, h2 x hx, h⟩) ?_⟩
    rw [trues]
    have e : (List.replicate xs.length true).all id = true := by simp
    walk_at "vc*"
  | _ => exact hp.elim
theorem w__law_same_0 : ∀ ds m k, ph__law_same 0 ds m k → v__law_same (fun _ _ _ => False) (dstart 5 ds) m (endP k) := by
  rintro _ m k ⟨x, rfl, hp, hk⟩
  unfold v__law_same
  cases x with
  | non => walk_at "vc*"
  | bl b => walk_at "vc*"
  | int b => walk_at "vc*"
  | str b => walk_at "vc*"
  | _ => exact hp.elim

/-! ### plain data of lots -/
theorem pl_tie {n : Nat} {T : Tie} (h : T.1.length ≤ 1000) : Pl (n + 4) (tieD T) := by
  have fr : ∀ {k : Nat} (a b : Int), Pl (k + 1) (.tup [.int a, .int b]) := fun a b => ⟨by simp, fun z hz => by
    simp only [List.mem_cons, List.not_mem_nil, or_false] at hz
    rcases hz with rfl | rfl <;> (rename_i k; cases k <;> trivial)⟩
  refine ⟨by simp, fun e he => ?_⟩
  rcases List.mem_cons.mp he with rfl | he
  · refine ⟨by rw [List.length_map]; omega, fun x hx => ?_⟩
    obtain ⟨t, ht, rfl⟩ := List.mem_map.mp hx
    refine ⟨by simp, fun y hy => ?_⟩
    rcases List.mem_cons.mp hy with rfl | hy
    · trivial
    · rw [List.mem_singleton] at hy; subst hy
      exact fr _ _
  · rw [List.mem_singleton] at he; subst he
    exact fr _ _
theorem pl_ties8 {n : Nat} {ts : List Tie} (h1 : ts.length ≤ 1000) (h : ∀ T ∈ ts, T.1.length ≤ 1000) : Pl (n + 5) (.lst (ts.map tieD)) := ⟨by rw [List.length_map]; omega, fun d hd => by
  obtain ⟨T, hT, rfl⟩ := List.mem_map.mp hd
  exact pl_tie (h T hT)⟩
theorem pl_wsL {n : Nat} {ws : List Nm} (h : ws.length ≤ 1000) : Pl (n + 2) (.lst (wsL ws)) := ⟨by rw [List.length_map]; omega, fun d hd => by
  obtain ⟨w, _, rfl⟩ := List.mem_map.mp hd
  trivial⟩

/-! ### k34: the law -/
@[reducible] def v_law_L0 : VE := (vMakeX "Step" ph_Step___init__ (vCons (vOp oAdd (vOp oAdd (vSl (vVar 3) vNoP (vP (vVar 14))) (vLst (vCons (vVar 15) vNil))) (vSl (vVar 3) (vP (vVar 14)) vNoP)) (vCons (vVar 18) vNil)))
@[reducible] def v_law_L1 : VE := (vMakeX "Step" ph_Step___init__ (vCons (vVar 3) (vCons (vVar 18) vNil)))
@[reducible] def v_law_L2 : VE := (vMakeX "Step" (fun ds m k x => ph_Step___init__ (ds ++ [.tup []]) m k x) (vCons (vLst (vCons (vC (.str "a")) (vCons (vC (.str "b")) (vCons (vC (.str "c")) (vCons (vC (.str "d")) vNil))))) vNil))
@[reducible] def v_law_L3 : VE := (vCallX ph_Step_stay (vCons (vLst (vCons (vC (.str "a")) (vCons (vC (.str "a")) vNil))) vNil))
def v_law_lams : List VE := [v_law_L0, v_law_L1, v_law_L2, v_law_L3]
@[reducible] def v_law_b1 (Pl : Nat → Obj → Prop) (Pt : Addr) : VS :=
  (vSeq (vSet 19 (vLstO (vCons (vLamV Pt (lamQ "law") (Pl 0)) (vCons (vLamV Pt (lamQ "law") (Pl 1)) (vCons (vLamV Pt (lamQ "law") (Pl 2)) vNil)))))
    (vSeq (vDrop (vBM "list" oAppend (vVar 19) (vCons (vLamV Pt (lamQ "law") (Pl 3)) vNil)))
    (vIfS (tV (vOp oNe (vErrs Pl 1 3 2 v_law_lams v__law_why v__law_errors (vVar 19)) (vLst (vCons (vTup (vCons (vC (.str "InvalidName")) (vCons (vVar 15) vNil))) (vCons (vTup (vCons (vC (.str "InvalidTie")) (vCons (vVar 17) vNil))) (vCons (vTup (vCons (vC (.str "InvalidName")) (vCons (vC (.str "d")) vNil))) (vCons (vTup (vCons (vC (.str "InvalidName")) (vCons (vC (.str "a")) vNil))) vNil))))))) (vRet (vC (.bl false))) vNext)))
@[reducible] def v_law_b2 (Pl : Nat → Obj → Prop) (Pt : Addr) : VS :=
  (vSeq (vAsg (vTup (vCons (vCall ph__law_draw (vCons (vVar 1) (vCons (vOp oAdd (vCB oLen (vCons (vVar 3) vNil)) (vC (.int 1))) vNil))) (vCons (vCall ph__law_any (vCons (vVar 1) (vCons (vLst (vCons (vC (.str "")) (vCons (vC (.str "A")) (vCons (vC (.str "x'")) (vCons (vC (.str "abcdefg")) (vCons (vOp oAdd (vOp oIx (vVar 3) (vC (.int 0))) (vC (.str "'"))) vNil)))))) vNil))) vNil))) (gTp 2 (gCn (gN 14) (gCn (gN 15) gNl))))
    (vSeq (vSet 16 (vCall ph__law_any (vCons (vVar 1) (vCons (vLst (vCons (vC .non) (vCons (vTup (vCons (vTup (vCons (vTup (vCons (vCall ph__law_strange (vCons (vVar 3) vNil)) (vCons (vTup (vCons (vC (.int 1)) (vCons (vC (.int 1)) vNil))) vNil))) vNil)) (vCons (vTup (vCons (vC (.int 0)) (vCons (vC (.int 1)) vNil))) vNil))) (vCons (vTup (vCons (vTup (vCons (vTup (vCons (vOp oAdd (vOp oIx (vVar 3) (vC (.int 0))) (vC (.str "'"))) (vCons (vTup (vCons (vC (.int 0)) (vCons (vC (.int 1)) vNil))) vNil))) vNil)) (vCons (vTup (vCons (vC (.int 0)) (vCons (vC (.int 1)) vNil))) vNil))) (vCons (vTup vNil) vNil))))) vNil))))
    (vSeq (vSet 17 (vCall ph__law_draw (vCons (vVar 1) (vCons (vOp oAdd (vCB oLen (vCons (vVar 4) vNil)) (vC (.int 1))) vNil))))
    (vSeq (vSet 18 (vOp oAdd (vOp oAdd (vSl (vVar 4) vNoP (vP (vVar 17))) (vLst (vCons (vVar 16) vNil))) (vSl (vVar 4) (vP (vVar 17)) vNoP)))
    (v_law_b1 Pl Pt)))))
@[reducible] def v_law_b3 (Pl : Nat → Obj → Prop) (Pt : Addr) : VS :=
  (vSeq (vIfS (vOr (vNot (tV (vCall (ph__law_same 8) (vCons (vFz (vMeth "Step" "ties" ph_Step_ties (vCallX ph_Step_stay (vCons (vRev (vVar 3)) vNil)) vNil)) (vCons (vCall ph__law_stay_ties (vCons (vVar 3) vNil)) vNil))))) (vOr (tV (vOp (oEqI "Step" ph_Step___eq__) (vVar 5) (vVar 4))) (tV (vOp (oNeI "Step" ph_Step___eq__) (vVar 5) (vMakeX "Step" ph_Step___init__ (vCons (vVar 3) (vCons (vVar 4) vNil))))))) (vRet (vC (.bl false))) vNext)
    (v_law_b2 Pl Pt))
@[reducible] def v_law_b4 (Pl : Nat → Obj → Prop) (Pt : Addr) : VS :=
  (vSeq (vAsg (vTup (vCons (vCall ph__law_point (vCons (vVar 1) (vCons (vVar 3) vNil))) (vCons (vCall ph__law_point (vCons (vVar 1) (vCons (vVar 3) vNil))) vNil))) (gTp 2 (gCn (gN 10) (gCn (gN 11) gNl))))
    (vSeq (vSet 12 (vCB oAll (vCons (vLc (vWalk (vVar 4)) (gN 21) vYes (vCall ph__law_keeps (vCons (vVar 21) (vCons (vCall ph__law_values_of (vCons (vVar 10) (vCons (vVar 11) vNil))) vNil))) [21]) vNil)))
    (vSeq (vSet 13 (vCallX ph_Step_stay (vCons (vVar 3) vNil)))
    (vIfS (vNot (tV (vCall (ph__law_same 8) (vCons (vLst (vCons (vMeth "Step" "allows" ph_Step_allows (vVar 5) (vCons (vVar 10) (vCons (vVar 11) vNil))) (vCons (vMeth "Step" "allows" ph_Step_allows (vVar 13) (vCons (vVar 10) (vCons (vVar 11) vNil))) (vCons (vMeth "Step" "allows" ph_Step_allows (vVar 13) (vCons (vVar 11) (vCons (vVar 11) vNil))) vNil)))) (vCons (vLst (vCons (vVar 12) (vCons (vOp oEqK (vVar 10) (vVar 11)) (vCons (vC (.bl true)) vNil)))) vNil))))) (vRet (vC (.bl false))) vNext))))
@[reducible] def v_law_b5 (Pl : Nat → Obj → Prop) (Pt : Addr) : VS :=
  (vSeq (vSet 7 (vLst (vCons (vFz (vMeth "Step" "names" ph_Step_names (vVar 5) vNil)) (vCons (vFz (vMeth "Step" "ties" ph_Step_ties (vVar 5) vNil)) (vCons (vFz (vMeth "Lot" "names" ph_Lot_names (vMethX "Step" "lot" ph_Step_lot (vVar 5) vNil) vNil)) (vCons (vFz (vMeth "Lot" "ties" ph_Lot_ties (vMethX "Step" "lot" ph_Step_lot (vVar 5) vNil) vNil)) (vCons (vCB (oLenI "Step" ph_Step___len__) (vCons (vVar 5) vNil)) (vCons (vCB (oReprI "Step" ph_Step___repr__) (vCons (vVar 5) vNil)) (vCons (vC (.int 3)) vNil)))))))))
    (vSeq (vSet 8 (vOp oAdd (vOp oAdd (vOp oAdd (vOp oAdd (vC (.str "Step(")) (vCB oStr (vCons (vCB oLen (vCons (vVar 3) vNil)) vNil))) (vC (.str " names, "))) (vCB oStr (vCons (vCB oLen (vCons (vVar 4) vNil)) vNil))) (vC (.str " ties)"))))
    (vSeq (vIfS (vNot (tV (vCall (ph__law_same 8) (vCons (vVar 7) (vCons (vLst (vCons (vCB oSortA (vCons (vVar 3) vNil)) (vCons (vVar 4) (vCons (vVar 6) (vCons (vVar 4) (vCons (vCB oLen (vCons (vVar 4) vNil)) (vCons (vVar 8) (vCons (vC (.int 3)) vNil)))))))) vNil))))) (vRet (vC (.bl false))) vNext)
    (vSeq (vFor (vRng1 (vCons (vC (.int 3)) vNil)) (gN 9) (v_law_b4 Pl Pt))
    (v_law_b3 Pl Pt)))))
@[reducible] def v_law_b6 (Pl : Nat → Obj → Prop) (Pt : Addr) : VS :=
  (vSeq (vSet 3 (vCall ph__law_words (vCons (vVar 1) (vCons (vOp oAdd (vC (.int 1)) (vCall ph__law_draw (vCons (vVar 1) (vCons (vC (.int 3)) vNil)))) vNil))))
    (vSeq (vSet 4 (vCall ph__law_step_ties (vCons (vVar 1) (vCons (vVar 3) (vCons (vC (.int 3)) vNil)))))
    (vSeq (vSet 5 (vIf (tV (vOp oEq (vCall ph__law_draw (vCons (vVar 1) (vCons (vC (.int 2)) vNil))) (vC (.int 0)))) (vMakeX "Step" ph_Step___init__ (vCons (vVar 3) (vCons (vVar 4) vNil))) (vMakeK "Step" 2 (swapX ph_Step___init__) (vCons (vCB oTuple (vCons (vVar 4) vNil)) (vCons (vCB oTuple (vCons (vVar 3) vNil)) vNil)))))
    (vSeq (vSet 6 (vCB oSortA (vCons (vOp oAdd (vVar 3) (vLc (vWalk (vVar 3)) (gN 20) vYes (vOp oAdd (vVar 20) (vC (.str "'"))) [20])) vNil)))
    (v_law_b5 Pl Pt)))))
/- def law, slots 0 _law_script 1 _law_feed_here 2 _law_turn 3 _law_words_here 4 _law_bonds 5 _law_made 6 _law_wide 7 _law_told 8 _law_shown 9 _law_again 10 _law_before 11 _law_after 12 _law_due 13 _law_stays 14 _law_at 15 _law_odd 16 _law_bad 17 _law_spot 18 _law_bent 19 _law_asks 20 _law_name 21 _law_tie -/
@[reducible] def v_law (Pl : Nat → Obj → Prop) (Pt : Addr) : VS :=
  (vSeq (vSet 1 (vCall ph__law_feed (vCons (vVar 0) vNil)))
    (vSeq (vFor (vRng1 (vCons (vC (.int 3)) vNil)) (gN 2) (v_law_b6 Pl Pt))
    (vRet (vC (.bl true)))))


section
variable {PL : Nat → Obj → Prop} {us : List Nm} {Ts : List Te} {Pt p : Addr}
/-- a step is made -/
theorem mk_step (L : SW us Ts) {dn dt : D} {m : Mem} {q : Addr} {k : KD} {x : KX} (hq : m q = none) (h1 : itemsOf m dn = some (wsL us)) (h2 : itemsOf m dt = some (Ts.map teD)) (hk : k .non (mset m q (.ins "Step" (lotF (srt us) (Ts.map toT))))) :
    ph_Step___init__ [.ref q, dn, dt] (mset m q (.ins "Step" [])) k x := by
  have n3 := L.n3
  have tl := L.tl
  have sn : snmF [] us = none := snmF_ok L.wd (by simpa using L.nd) (by simpa using n3)
  refine ⟨q, dn, dt, us, Ts.map teD, rfl, mset_same, items_new h1 hq, items_new h2 hq, by omega, by rw [List.length_map]; omega, fun w hw => by have := (L.wd w hw).2.1; omega, fun d hd => ?_, (fun n e => by rw [sn] at e; cases e), fun _ => ⟨fun i e => ?_, fun _ => ?_⟩⟩
  · obtain ⟨T, hT, rfl⟩ := List.mem_map.mp hd
    exact te_pn (L.tq T hT).1 fun w hw => by have := (kn_nm L.wd w hw).2.1; omega
  · rw [L.lw.tsn fun w h => h] at e; cases e
  · rw [mset_mset, teDs_T]
    exact hk
theorem as_insC {C : Str} {m : Mem} {p : Addr} {fs : List (Str × D)} (h : m p = some (.ins C fs)) : asI C m (.ref p) = some fs := by rw [asI_2, h]; exact insO_1
theorem lot_ok (L : SW us Ts) : nmsF [] (srt (knwn (srt us))) = none ∧ tsF (srt (knwn (srt us))) 0 (Ts.map teD) = none := by
  rw [kn_srt]
  have nd := kn_nd L.nd L.wd
  exact ⟨nmsF_ok (fun n hn => (kn_nm L.wd n (srt_mem.mp hn)).1) (by simpa using srt_nodup nd), L.lw.tsn fun w hw => srt_mem.mpr hw⟩
/-- the step's lot -/
theorem step_lot (L : SW us Ts) {m : Mem} {k : KD} {x : KX} (hp : m p = some (.ins "Step" (lotF (srt us) (Ts.map toT)))) (hk : ∀ q, m q = none → k (.ref q) (mset m q (.ins "Lot" (lotF (srt (knwn us)) (Ts.map toT))))) : ph_Step_lot [.ref p] m k x := by
  obtain ⟨h1, h2⟩ := lot_ok L
  have n3 := L.n3
  have tl := L.tl
  refine ⟨.ref p, srt us, Ts.map teD, rfl, by rw [as_insC hp]; show some (lotG _ ((Ts.map toT).map tieD)) = _; rw [← teDs_T], by rw [srt_len]; omega, fun w hw => by have := (L.wd w (srt_mem.mp hw)).2.1; omega, by rw [List.length_map]; omega, fun d hd => ?_, h1, h2, fun q hq => ?_⟩
  · obtain ⟨T, hT, rfl⟩ := List.mem_map.mp hd
    exact te_pn (L.tq T hT).1 fun w hw => by have := (kn_nm L.wd w hw).2.1; omega
  · have := hk q hq
    rw [srt_srt, kn_srt, teDs_T]
    exact this
theorem all_cong {α : Type} {f g : α → Bool} : ∀ {l : List α}, (∀ x ∈ l, f x = g x) → l.all f = l.all g
  | [], _ => rfl
  | a :: l, h => by rw [List.all_cons, List.all_cons, h a List.mem_cons_self, all_cong fun x hx => h x (List.mem_cons_of_mem _ hx)]
theorem stay_sw {ns : List Nm} (h1 : ns ≠ []) (h2 : ns.length ≤ 3) (h3 : ns.Nodup) (h4 : ∀ w ∈ ns, Word w) : SW ns (stayQ (srt ns)) := by
  refine ⟨h1, h2, h3, h4, ?_, stay_tq⟩
  have e := congrArg List.length (stayQ_T (srt ns))
  rw [List.length_map, stayT_len, srt_len] at e
  omega
theorem stay_ok (L : SW us Ts) {ns : List Nm} (hn : ns.Perm us) {m : Mem} {k : KD} {x : KX} (hk : ∀ q, m q = none → k (.ref q) (mset m q (.ins "Step" (lotF (srt us) ((stayQ (srt us)).map toT))))) : ph_Step_stay [wsD ns] m k x := by
  have n3 := L.n3
  have wd : ∀ w ∈ ns, Word w := fun w hw => L.wd w (hn.mem_iff.mp hw)
  have nd : ns.Nodup := hn.nodup_iff.mpr L.nd
  have ln : ns.length ≤ 3 := by rw [hn.length_eq]; exact n3
  have S0 : SW ns (stayQ (srt ns)) := stay_sw (fun z => L.n1 (by rw [z] at hn; exact hn.symm.eq_nil)) ln nd wd
  have sn : snmF [] ns = none := snmF_ok wd (by simpa using nd) (by simpa using ln)
  refine ⟨ns, rfl, by omega, fun n hn => by have := (wd n hn).2.1; omega, (fun n e => by rw [sn] at e; cases e), fun _ => ⟨?_, fun q hq => ?_⟩⟩
  · rw [← stayQ_T, ← teDs_T]
    exact S0.lw.tsn fun w h => h
  · have := hk q hq
    rw [srt_pm hn, ← stayQ_T]
    exact this
theorem allows_ok (L : SW us Ts) {Us : List Te} (hU : ∀ T ∈ Us, TqOk (knwn us) T.ts ∧ Bq 60 T.b) (lU : Us.length ≤ 1000) {ps qs : Al} (H : PQ us ps qs) {d : D} {m : Mem} {k : KD} (hd : asI "Step" m d = some (lotF (srt us) (Us.map toT))) (hk : k (.bl (Us.all (kpt (valsA (srt us) ps qs)))) m) : ph_Step_allows [d, .dic (alD ps), .dic (alD qs)] m k := by
  have n3 := L.n3
  have lp : ps.length = us.length := by rw [← H.p, List.length_map]
  refine ⟨d, srt us, Us, ps, qs, rfl, hd, by rw [srt_len]; omega, fun w hw => ?_, by omega, ?_, lU, fun T hT => ?_, hk⟩
  · have hw := srt_mem.mp hw
    obtain ⟨x, e, _⟩ := H.new L.wd hw
    exact ⟨by have := (L.wd w hw).2.1; omega, x, e⟩
  · rw [H.p]
    have : (us ++ (srt us).map (· ++ [39])).Perm (knwn us) := ((srt_perm us).map _).append_left us
    exact this.nodup_iff.mpr (kn_nd L.nd L.wd)
  · obtain ⟨h1, h2⟩ := hU T hT
    refine ⟨by rcases h1.len with z | z <;> omega, h2.mono (by decide), fun t ht => ⟨(h1.bd t ht).mono (by decide), ?_⟩⟩
    obtain ⟨x, b, _, e⟩ := H.all L.wd (h1.nm t ht)
    exact ⟨x, e, b.mono (by decide)⟩
theorem at_w {us : List Nm} {w : Nm} (hw : us.head? = some w) : atI (us.map fun w => D.str (S w)) 0 = some (.str (S w)) := by
  cases us with
  | nil => cases hw
  | cons u r => cases hw; simp only [List.map_cons, atI_0]
/-- strings that are no names of a step -/
def oddS (w : Nm) : List Nm := [[], [65], [120, 39], [97, 98, 99, 100, 101, 102, 103], w ++ [39]]
theorem oddS_D (w : Nm) : [D.str "", D.str "A", D.str "x'", D.str "abcdefg", D.str (S (w ++ [39]))] = (oddS w).map fun w => D.str (S w) := by
  have h : (["", "A", "x'", "abcdefg"] : List Str) = [[], [65], [120, 39], [97, 98, 99, 100, 101, 102, 103]].map S := by decide +kernel
  have h2 := congrArg (fun l => l.map D.str ++ [D.str (S (w ++ [39]))]) h
  exact h2
theorem oddS_ok {w : Nm} (hw : Word w) : ∀ o ∈ oddS w, ¬ (nmL o = true ∧ o.drop (o.length - 1) ≠ [39]) ∧ o.length ≤ 7 ∧ ∀ c ∈ o, c < 256 := fun o ho => by
  unfold oddS at ho
  simp only [List.mem_cons, List.not_mem_nil, or_false] at ho
  have c4 : ∀ o ∈ ([[], [65], [120, 39], [97, 98, 99, 100, 101, 102, 103]] : List Nm), ¬ (nmL o = true ∧ o.drop (o.length - 1) ≠ [39]) ∧ o.length ≤ 7 ∧ ∀ c ∈ o, c < 256 := by decide +kernel
  rcases ho with rfl | rfl | rfl | rfl | rfl
  · exact c4 _ (by simp)
  · exact c4 _ (by simp)
  · exact c4 _ (by simp)
  · exact c4 _ (by simp)
  · have l := hw.2.1
    refine ⟨fun z => z.2 (by simp), by rw [List.length_append]; simp; omega, fun c hc => ?_⟩
    rcases List.mem_append.mp hc with hc | hc
    · have := hw.2.2 c hc; omega
    · rw [List.mem_singleton] at hc; omega
/-- items that are no ties of a step -/
def badS (st w : Nm) : List D := [.non, .tup [.tup [.tup [.str (S st), .tup [.int 1, .int 1]]], .tup [.int 0, .int 1]], .tup [.tup [.tup [.str (S (w ++ [39])), .tup [.int 0, .int 1]]], .tup [.int 0, .int 1]], .tup []]
theorem badS_no {ks : List Nm} {st w : Nm} (h : st ∉ ks) : ∀ d ∈ badS st w, tieIn ks d = false := by
  have t : ∀ d, isTie d = false → tieIn ks d = false := fun d h => by unfold tieIn; rw [h]; rfl
  intro d hd
  unfold badS at hd
  simp only [List.mem_cons, List.not_mem_nil, or_false] at hd
  rcases hd with rfl | rfl | rfl | rfl
  · exact t _ rfl
  · unfold tieIn
    show (_ && ([st].all fun n => decide (n ∈ ks))) = false
    rw [List.all_cons, decide_eq_false h, Bool.false_and, Bool.and_false]
  · refine t _ ?_
    unfold isTie areTs isTerm
    simp
  · exact t _ rfl
theorem badS_pn {st w : Nm} (h1 : st.length ≤ 100) (h2 : w.length ≤ 100) : ∀ d ∈ badS st w, Pn d := by
  have s1 : (S st).length ≤ 1000 := by rw [S_len]; omega
  have s2 : (S (w ++ [39])).length ≤ 1000 := by rw [S_len, List.length_append]; simp; omega
  intro d hd
  unfold badS at hd
  simp only [List.mem_cons, List.not_mem_nil, or_false] at hd
  rcases hd with rfl | rfl | rfl | rfl
  · exact ⟨0, trivial⟩
  · exact ⟨5, by simp [okT, s1]⟩
  · exact ⟨5, by simp only [okT, s2]; simp [okT, s2]⟩
  · exact ⟨1, by simp [okT]⟩
theorem w_k34_1 (L : SW us Ts) {sc x2 x5 x6 x7 x8 x9 x10 x11 x12 x13 x16 x19 x20 x21 : Option D} {ai sp : Nat} {od : Nm} {bn : List D} (hlt : snmF [] (us.take ai ++ od :: us.drop ai) = some od) (lod : od.length ≤ 7) (cod : ∀ c ∈ od, c < 256) (hbn : tsF (knwn us) 0 bn = some sp) (lbn : bn.length ≤ 20) (pbn : ∀ d ∈ bn, Pn d) {m : Mem} {G : DE} (hm : m Pt = some (.tab (lamQ "law")))
    (hG : ∀ x19 x20 x21 m', m' Pt = some (.tab (lamQ "law")) → G.nx [sc, some .feed, x2, some (wsD us), some (.lst (Ts.map teD)), x5, x6, x7, x8, x9, x10, x11, x12, x13, some (.int (ai : Int)), some (.str (S od)), x16, some (.int (sp : Int)), some (.lst bn), x19, x20, x21] m') :
    v_law_b1 PL Pt [sc, some .feed, x2, some (wsD us), some (.lst (Ts.map teD)), x5, x6, x7, x8, x9, x10, x11, x12, x13, some (.int (ai : Int)), some (.str (S od)), x16, some (.int (sp : Int)), some (.lst bn), x19, x20, x21] m G := by
  unfold v_law_b1
  have n3 := L.n3
  walk_at "vc"
  refine ⟨hm, fun f3 o3 hP3 hf3 => ⟨keep_new hm hf3, fun f4 o4 hP4 hf4 => ⟨keep_new (keep_new hm hf3) hf4, fun f5 o5 hP5 hf5 p hp => ⟨keep_new (keep_new (keep_new (keep_new hm hf3) hf4) hf5) hp, fun f6 o6 hP6 hf6 => ?_⟩⟩⟩⟩
  walk_at "vc"
  have a3 : mset m f3 (.fob o3) f3 = some (.fob o3) := mset_same
  have a4 : mset (mset m f3 (.fob o3)) f4 (.fob o4) f4 = some (.fob o4) := mset_same
  have b3 := keep_new (v := .fob o4) a3 hf4
  have a5 : mset (mset (mset m f3 (.fob o3)) f4 (.fob o4)) f5 (.fob o5) f5 = some (.fob o5) := mset_same
  have b4 := keep_new (v := .fob o5) a4 hf5
  have b3 := keep_new (v := .fob o5) b3 hf5
  have hm5 := keep_new (v := .fob o5) (keep_new (v := .fob o4) (keep_new (v := .fob o3) hm hf3) hf4) hf5
  generalize mset (mset (mset m f3 (.fob o3)) f4 (.fob o4)) f5 (.fob o5) = m5 at *
  have n3 : f3 ≠ p := fun z => by rw [z, hp] at b3; cases b3
  have n4 : f4 ≠ p := fun z => by rw [z, hp] at b4; cases b4
  have n5 : f5 ≠ p := fun z => by rw [z, hp] at a5; cases a5
  have nP : Pt ≠ p := fun z => by rw [z, hp] at hm5; cases hm5
  have ap : mset m5 p (.lst [.ref f3, .ref f4, .ref f5]) p = some (.lst [.ref f3, .ref f4, .ref f5]) := mset_same
  have c3 := keep_new (v := .fob o6) (keep_new (v := .lst [.ref f3, .ref f4, .ref f5]) b3 hp) hf6
  have c4 := keep_new (v := .fob o6) (keep_new (v := .lst [.ref f3, .ref f4, .ref f5]) b4 hp) hf6
  have c5 := keep_new (v := .fob o6) (keep_new (v := .lst [.ref f3, .ref f4, .ref f5]) a5 hp) hf6
  have cP := keep_new (v := .fob o6) (keep_new (v := .lst [.ref f3, .ref f4, .ref f5]) hm5 hp) hf6
  have c6 : mset (mset m5 p (.lst [.ref f3, .ref f4, .ref f5])) f6 (.fob o6) f6 = some (.fob o6) := mset_same
  have n6 : f6 ≠ p := fun z => by rw [z, ap] at hf6; cases hf6
  rw [keep_new ap hf6]
  walk_at "vc"
  refine ⟨by simp, ?_⟩
  generalize mset (mset m5 p (.lst [.ref f3, .ref f4, .ref f5])) f6 (.fob o6) = m6 at *
  have d3 : mset m6 p (.lst [.ref f3, .ref f4, .ref f5, .ref f6]) f3 = _ := (mset_ne n3).trans c3
  have d4 : mset m6 p (.lst [.ref f3, .ref f4, .ref f5, .ref f6]) f4 = _ := (mset_ne n4).trans c4
  have d5 : mset m6 p (.lst [.ref f3, .ref f4, .ref f5, .ref f6]) f5 = _ := (mset_ne n5).trans c5
  have d6 : mset m6 p (.lst [.ref f3, .ref f4, .ref f5, .ref f6]) f6 = _ := (mset_ne n6).trans c6
  have dP : mset m6 p (.lst [.ref f3, .ref f4, .ref f5, .ref f6]) Pt = _ := (mset_ne nP).trans cP
  have dp : mset m6 p (.lst [.ref f3, .ref f4, .ref f5, .ref f6]) p = _ := mset_same
  generalize mset m6 p (.lst [.ref f3, .ref f4, .ref f5, .ref f6]) = m7 at *
  have sn : snmF [] us = none := snmF_ok L.wd (by simpa using L.nd) (by simpa using L.n3)
  have ea : ("a" : Str) = S [97] := by decide +kernel
  have eb : ("b" : Str) = S [98] := by decide +kernel
  have ec : ("c" : Str) = S [99] := by decide +kernel
  have ed : ("d" : Str) = S [100] := by decide +kernel
  refine vErrs_at rfl dp (lmbs_cons d3 (lmbs_cons d4 (lmbs_cons d5 (lmbs_cons d6 lmbs_nil)))) fun σ => ?_
  refine ers (Q := fun m' => m' Pt = some (.tab (lamQ "law"))) (ys := [.tup [.str "InvalidName", .str (S od)], .tup [.str "InvalidTie", .int (sp : Int)], .tup [.str "InvalidName", .str "d"], .tup [.str "InvalidName", .str "a"]]) (by simp) (mdel_nofob dP (by simp) nP) (.cons ?_ (.cons ?_ (.cons ?_ (.cons ?_ .nil)))) fun m' hm' => ?_
  · refine lmb_x (C := "InvalidName") (g := "name") (d := .str (S od)) hP3 rfl (by decide +kernel) (fldK_nm (by decide +kernel) (by decide +kernel) (by decide +kernel)) fun m kk x hm hx => ?_
    unfold v_law_L0
    walk_at "vc"
    have c1 : cutD (us.map fun w => D.str (S w)) none (some (ai : Int)) = (us.take ai).map fun w => D.str (S w) := by rw [cutN_to, List.map_take]
    have c2 : cutD (us.map fun w => D.str (S w)) (some (ai : Int)) none = (us.drop ai).map fun w => D.str (S w) := by rw [cutN_fr, List.map_drop]
    have l1 : (us.take ai).length ≤ 3 := by rw [List.length_take]; have := L.n3; omega
    have l2 : (us.drop ai).length ≤ 3 := by rw [List.length_drop]; have := L.n3; omega
    have el : (us.take ai).map (fun w => D.str (S w)) ++ [.str (S od)] ++ (us.drop ai).map (fun w => D.str (S w)) = wsL (us.take ai ++ od :: us.drop ai) := by unfold wsL; simp
    rw [c1, c2, el]
    refine ⟨by rw [List.length_map]; omega, by simp only [List.length_append, List.length_map, List.length_cons, List.length_nil]; omega, fun q hq => ?_⟩
    refine ⟨q, _, _, us.take ai ++ od :: us.drop ai, bn, rfl, mset_same, rfl, rfl, by simp only [List.length_append, List.length_cons]; omega, by omega, fun w hw => ?_, pbn, fun n e => ?_, fun e => ?_⟩
    · rcases List.mem_append.mp hw with z | z
      · have := (L.wd w (List.mem_of_mem_take z)).2.1; omega
      · rcases List.mem_cons.mp z with z | z
        · rw [z]; omega
        · have := (L.wd w (List.mem_of_mem_drop z)).2.1; omega
    · rw [hlt] at e
      cases e
      exact hx _ (keep_new hm hq)
    · rw [hlt] at e; cases e
  · refine lmb_x (C := "InvalidTie") (g := "at") (d := .int (sp : Int)) hP4 rfl (by decide +kernel) (fldK_at (by decide +kernel) (by decide +kernel)) fun m kk x hm hx => ?_
    unfold v_law_L1
    walk_at "vc"
    intro q hq
    refine ⟨q, _, _, us, bn, rfl, mset_same, rfl, rfl, by omega, by omega, fun w hw => by have := (L.wd w hw).2.1; omega, pbn, (fun n e => by rw [sn] at e; cases e), fun _ => ⟨fun i e => ?_, fun e => ?_⟩⟩
    · rw [hbn] at e
      cases e
      exact hx _ (keep_new hm hq)
    · rw [hbn] at e; cases e
  · rw [ed]
    refine lmb_x (C := "InvalidName") (g := "name") (d := .str (S [100])) hP5 rfl (by decide +kernel) (fldK_nm (by decide +kernel) (by decide +kernel) (by decide +kernel)) fun m kk x hm hx => ?_
    unfold v_law_L2
    rw [ea, eb, ec, ed]
    walk_at "vc"
    intro q hq
    have e2 : snmF [] [[97], [98], [99], [100]] = some [100] := by decide +kernel
    refine ⟨q, _, _, [[97], [98], [99], [100]], [], rfl, mset_same, rfl, rfl, by simp, by simp, by simp, by simp, fun n e => ?_, fun e => ?_⟩
    · rw [e2] at e
      cases e
      exact hx _ (keep_new hm hq)
    · rw [e2] at e; cases e
  · rw [ea]
    refine lmb_x (C := "InvalidName") (g := "name") (d := .str (S [97])) hP6 rfl (by decide +kernel) (fldK_nm (by decide +kernel) (by decide +kernel) (by decide +kernel)) fun m kk x hm hx => ?_
    unfold v_law_L3
    rw [ea]
    walk_at "vc"
    have e2 : snmF [] [[97], [97]] = some [97] := by decide +kernel
    refine ⟨[[97], [97]], rfl, by simp, by simp, fun n e => ?_, fun e => ?_⟩
    · rw [e2] at e
      cases e
      exact hx _ hm
    · rw [e2] at e; cases e
  walk_at "vc"
  have q3 : PyData.strOk "InvalidName" = true := by decide +kernel
  have q4 : PyData.strOk "InvalidTie" = true := by decide +kernel
  have q5 : PyData.strOk "d" = true := by decide +kernel
  have q6 : PyData.strOk "a" = true := by decide +kernel
  refine eqP_refl (by simp only [cB, cBs, strOk_S cod, q3, q4, q5, q6, Bool.and_true]) (by simp only [dpD, dpDs]; decide) ?_
  walk_at "vc"
  exact hG _ _ _ m' hm'
theorem w_k34_2 (L : SW us Ts) {sc x2 x5 x6 x7 x8 x9 x10 x11 x12 x13 x14 x15 x16 x17 x18 x19 x20 x21 : Option D} {m : Mem} {G : DE} (hm : m Pt = some (.tab (lamQ "law")))
    (hG : ∀ x14 x15 x16 x17 x18 x19 x20 x21 m', m' Pt = some (.tab (lamQ "law")) → G.nx [sc, some .feed, x2, some (wsD us), some (.lst (Ts.map teD)), x5, x6, x7, x8, x9, x10, x11, x12, x13, x14, x15, x16, x17, x18, x19, x20, x21] m') :
    v_law_b2 PL Pt [sc, some .feed, x2, some (wsD us), some (.lst (Ts.map teD)), x5, x6, x7, x8, x9, x10, x11, x12, x13, x14, x15, x16, x17, x18, x19, x20, x21] m G := by
  unfold v_law_b2
  have n3 := L.n3
  have tl := L.tl
  obtain ⟨w, hw⟩ : ∃ w, us.head? = some w := by
    cases us with
    | nil => exact absurd rfl L.n1
    | cons u r => exact ⟨u, rfl⟩
  have hwu : w ∈ us := List.mem_of_mem_head? (by rw [hw]; exact Option.mem_some_self w)
  have wdw := L.wd w hwu
  have wl := wdw.2.1
  rw [quo_S]
  walk_at "vc"
  refine dr (by omega) (by (try simp); omega) fun ai a0 a1 => ?_
  obtain ⟨ai, rfl⟩ := Int.eq_ofNat_of_zero_le a0
  rw [at_w hw, onO_1]
  walk_at "vc"
  refine ⟨by omega, ?_⟩
  rw [oddS_D]
  refine ⟨by simp [oddS], by simp [oddS], fun d hd => ?_⟩
  obtain ⟨od, ho, rfl⟩ := List.mem_map.mp hd
  obtain ⟨o1, o2, o3⟩ := oddS_ok wdw od ho
  refine ⟨us, rfl, by omega, fun st hs hst => ?_⟩
  have so := strange_ok st hs
  have stk : st ∉ knwn us := fun z => by
    rcases List.mem_append.mp z with z | z
    · exact hst z
    · obtain ⟨v, hv, e⟩ := List.mem_map.mp z
      have : ∀ w ∈ strangeL, (39 : Nat) ∉ w := by decide +kernel
      exact this st hs (by rw [← e]; simp)
  walk_at "vc"
  refine ⟨by omega, by simp, by simp, fun d hd => ?_⟩
  have hd : d ∈ badS st w := hd
  have tl' : (Ts.map teD).length ≤ 6 := by rw [List.length_map]; omega
  refine dr (by omega) (by omega) fun sp s0 s1 => ?_
  obtain ⟨sp, rfl⟩ := Int.eq_ofNat_of_zero_le s0
  have c3 : cutD (Ts.map teD) none (some (sp : Int)) = (Ts.take sp).map teD := by rw [cutN_to, List.map_take]
  have c4 : cutD (Ts.map teD) (some (sp : Int)) none = (Ts.drop sp).map teD := by rw [cutN_fr, List.map_drop]
  have hsp : sp ≤ Ts.length := by simp only [List.length_map] at s1; omega
  have lt3 : (Ts.take sp).length = sp := by rw [List.length_take]; omega
  have lt4 : (Ts.drop sp).length ≤ 6 := by rw [List.length_drop]; omega
  dsimp only
  rw [c3, c4]
  refine ⟨by rw [List.length_map]; omega, by simp only [List.length_append, List.length_map, List.length_cons, List.length_nil]; omega, ?_⟩
  have eb : (Ts.take sp).map teD ++ [d] ++ (Ts.drop sp).map teD = (Ts.take sp).map teD ++ d :: (Ts.drop sp).map teD := by simp
  rw [eb]
  have nd1 : ([] ++ us.take ai).Nodup := by rw [List.nil_append]; exact L.nd.sublist (List.take_sublist _ _)
  have pt : ∀ T ∈ Ts, Pn (teD T) := fun T hT => te_pn (L.tq T hT).1 fun w hw => by have := (kn_nm L.wd w hw).2.1; omega
  refine w_k34_1 L (snmF_bad o1 (fun n hn => L.wd n (List.mem_of_mem_take hn)) nd1 (by rw [List.nil_append, List.length_take]; omega)) o2 o3 ?_ (by simp only [List.length_append, List.length_map, List.length_cons]; omega) (fun x hx => ?_) hm fun _ _ _ m' h => hG _ _ _ _ _ _ _ _ m' h
  · have := tsF_bad (ws := knwn us) (b := d) (r := (Ts.drop sp).map teD) (badS_no stk d hd) (ds := (Ts.take sp).map teD) (i := 0) fun x hx => by
      obtain ⟨T, hT, rfl⟩ := List.mem_map.mp hx
      exact L.lw.tin (List.mem_of_mem_take hT) fun w h => h
    rw [this, List.length_map, lt3, Nat.zero_add]
  · rcases List.mem_append.mp hx with z | z
    · obtain ⟨T, hT, rfl⟩ := List.mem_map.mp z
      exact pt T (List.mem_of_mem_take hT)
    · rcases List.mem_cons.mp z with z | z
      · rw [z]
        exact badS_pn (by omega) (by omega) d hd
      · obtain ⟨T, hT, rfl⟩ := List.mem_map.mp z
        exact pt T (List.mem_of_mem_drop hT)
/-- values before and behind -/
theorem w_k34_i (L : SW us Ts) {sc x2 x6 x7 x8 x9 x10 x11 x12 x13 x14 x15 x16 x17 x18 x19 x20 x21 : Option D} {m : Mem} {G : DE} (hm : m Pt = some (.tab (lamQ "law"))) (hp : m p = some (.ins "Step" (lotF (srt us) (Ts.map toT))))
    (hG : ∀ x10 x11 x12 x13 x21 m', m' Pt = some (.tab (lamQ "law")) → m' p = some (.ins "Step" (lotF (srt us) (Ts.map toT))) → G.nx [sc, some .feed, x2, some (wsD us), some (.lst (Ts.map teD)), some (.ref p), x6, x7, x8, x9, x10, x11, x12, x13, x14, x15, x16, x17, x18, x19, x20, x21] m') :
    v_law_b4 PL Pt [sc, some .feed, x2, some (wsD us), some (.lst (Ts.map teD)), some (.ref p), x6, x7, x8, x9, x10, x11, x12, x13, x14, x15, x16, x17, x18, x19, x20, x21] m G := by
  unfold v_law_b4
  have n3 := L.n3
  have tl := L.tl
  walk_at "vc"
  refine point' (by omega) L.nd fun ps hps bps => ?_
  refine point' (by omega) L.nd fun qs hqs bqs => ?_
  have H : PQ us ps qs := ⟨hps, hqs, bps, bqs⟩
  have H2 : PQ us qs qs := ⟨hqs, hqs, bqs, bqs⟩
  have lp : ps.length = us.length := by rw [← H.p, List.length_map]
  have lq : qs.length = us.length := by rw [← H.q, List.length_map]
  walk_at "vc"
  refine ⟨by rw [List.length_map]; omega, ?_⟩
  refine lc_map (h := fun T : Te => .bl (kpt (vals1 ps qs) T)) Ts [] (fun T hT k' _ hk' => ?_) ?_
  · obtain ⟨h1, h2⟩ := L.tq T hT
    walk_at "vc"
    refine ⟨ps, qs, rfl, by omega, by omega, fun q hq => ?_, by rw [H.q]; exact L.nd, ?_, ?_⟩
    · have : q.1 ∈ us := by rw [← H.q]; exact List.mem_map.mpr ⟨q, hq, rfl⟩
      have := (L.wd _ this).2.1
      omega
    · have e : (qs.map fun q => q.1 ++ [39]) = us.map (· ++ [39]) := by rw [← H.q, List.map_map]; rfl
      rw [e, H.p]
      exact kn_nd L.nd L.wd
    · refine ⟨T, _, vals1 ps qs, rfl, rfl, by rcases h1.len with z | z <;> omega, h2.mono (by decide), fun t ht => ⟨(h1.bd t ht).mono (by decide), ?_⟩, hk'⟩
      obtain ⟨x, b, e, _⟩ := H.all L.wd (h1.nm t ht)
      exact ⟨x, e, b.mono (by decide)⟩
  rw [List.nil_append, show (Ts.map fun T => D.bl (kpt (vals1 ps qs) T)) = (Ts.map (kpt (vals1 ps qs))).map D.bl by rw [List.map_map]; rfl, blsOf_map, onO_1]
  refine stay_ok L (List.Perm.refl us) fun r hr => ?_
  have p1 := keep_new (v := .ins "Step" (lotF (srt us) ((stayQ (srt us)).map toT))) hp hr
  have m1 := keep_new (v := .ins "Step" (lotF (srt us) ((stayQ (srt us)).map toT))) hm hr
  have r1 : mset m r (.ins "Step" (lotF (srt us) ((stayQ (srt us)).map toT))) r = _ := mset_same
  generalize mset m r (.ins "Step" (lotF (srt us) ((stayQ (srt us)).map toT))) = ma at p1 m1 r1 ⊢
  try dsimp only
  rw [p1, insO_1, onO_1]
  have SL : (stayQ (srt us)).length ≤ 1000 := by
    have := (stay_sw L.n1 L.n3 L.nd L.wd).tl
    omega
  refine ⟨lk_noG (by decide +kernel) (by decide +kernel), allows_ok L L.tq (by omega) H (as_insC p1) ?_⟩
  rw [as_insC r1, onO_1]
  refine ⟨lk_noG (by decide +kernel) (by decide +kernel), allows_ok L stay_tq SL H (as_insC r1) ?_⟩
  rw [as_insC r1, onO_1]
  refine ⟨lk_noG (by decide +kernel) (by decide +kernel), allows_ok L stay_tq SL H2 (as_insC r1) ?_⟩
  refine ⟨hitA qs ps, fun _ => hit_al qs ps, .lst [.bl (Ts.all (kpt (valsA (srt us) ps qs))), .bl (alEq ps qs), .bl true], ?_, ?_, ?_⟩
  · have e1 : (Ts.map (kpt (vals1 ps qs))).all id = Ts.all (kpt (valsA (srt us) ps qs)) := by
      rw [List.all_map]
      exact all_cong fun T hT => H.kpt L.wd (L.tq T hT).1
    have e2 : (false ^^ ((alD ps).length == (alD qs).length && hitA qs ps)) = alEq ps qs := by simp [alEq, alD]
    rw [e1, e2, stay_eq L.nd L.wd H, stay_tt L.wd H]
  · refine ⟨by simp, fun d hd => ?_⟩
    simp only [List.mem_cons, List.not_mem_nil, or_false] at hd
    rcases hd with rfl | rfl | rfl <;> trivial
  walk_at "vc"
  exact hG _ _ _ _ _ ma m1 p1
/-- the step in which all values stay -/
theorem w_k34_3 (L : SW us Ts) {sc x2 x6 x7 x8 x9 x10 x11 x12 x13 x14 x15 x16 x17 x18 x19 x20 x21 : Option D} {m : Mem} {G : DE} (hm : m Pt = some (.tab (lamQ "law"))) (hp : m p = some (.ins "Step" (lotF (srt us) (Ts.map toT))))
    (hG : ∀ x14 x15 x16 x17 x18 x19 x20 x21 m', m' Pt = some (.tab (lamQ "law")) → G.nx [sc, some .feed, x2, some (wsD us), some (.lst (Ts.map teD)), some (.ref p), x6, x7, x8, x9, x10, x11, x12, x13, x14, x15, x16, x17, x18, x19, x20, x21] m') :
    v_law_b3 PL Pt [sc, some .feed, x2, some (wsD us), some (.lst (Ts.map teD)), some (.ref p), x6, x7, x8, x9, x10, x11, x12, x13, x14, x15, x16, x17, x18, x19, x20, x21] m G := by
  unfold v_law_b3
  have n3 := L.n3
  have tl := L.tl
  walk_at "vc"
  rw [show (us.map fun w => D.str (S w)).reverse = wsL us.reverse by unfold wsL; rw [List.map_reverse]]
  refine stay_ok L (List.reverse_perm us) fun r hr => ?_
  have p1 := keep_new (v := .ins "Step" (lotF (srt us) ((stayQ (srt us)).map toT))) hp hr
  have m1 := keep_new (v := .ins "Step" (lotF (srt us) ((stayQ (srt us)).map toT))) hm hr
  have r1 : mset m r (.ins "Step" (lotF (srt us) ((stayQ (srt us)).map toT))) r = _ := mset_same
  generalize mset m r (.ins "Step" (lotF (srt us) ((stayQ (srt us)).map toT))) = ma at p1 m1 r1 ⊢
  try dsimp only
  have sl := (stay_sw L.n1 L.n3 L.nd L.wd).tl
  rw [as_insC r1, onO_1]
  refine ⟨lk_ties, .ref r, srt us, _, rfl, as_insC r1, by rw [List.length_map]; omega, fun q1 hq1 => ?_⟩
  dsimp only
  rw [mset_same]
  walk_at "vc"
  rw [mdel_mset hq1]
  refine ⟨us, rfl, by omega, fun w hw => by have := (L.wd w hw).2.1; omega, .lst ((stayT (srt us)).map tieD), by rw [stayQ_T], ?_, ?_⟩
  · refine pl_ties8 (n := 3) (by rw [← stayQ_T, List.length_map]; omega) fun T hT => ?_
    obtain ⟨w, _, hT⟩ := List.mem_flatMap.mp hT
    unfold eqT at hT
    simp only [List.mem_cons, List.not_mem_nil, or_false] at hT
    rcases hT with rfl | rfl <;> simp
  walk_at "vc"
  have c8 : ∀ w ∈ srt us, ∀ c ∈ w, c < 256 := fun w hw c hc => by have := (L.wd w (srt_mem.mp hw)).2.2 c hc; omega
  have E1 : LtE (srt us) (Ts.map toT) := L.lw.lte c8
  rw [p1, insO_1, onO_1]
  refine ⟨.inr rfl, .ref p, _, srt us, Ts.map toT, rfl, as_insC p1, E1, .inr ⟨rfl, rfl, ?_⟩⟩
  walk_at "vc"
  intro q2 hq2
  refine mk_step L hq2 rfl rfl ⟨rfl, ?_⟩
  have p2 := keep_new (v := .ins "Step" (lotF (srt us) (Ts.map toT))) p1 hq2
  have m2 := keep_new (v := .ins "Step" (lotF (srt us) (Ts.map toT))) m1 hq2
  have q2' : mset ma q2 (.ins "Step" (lotF (srt us) (Ts.map toT))) q2 = _ := mset_same
  generalize mset ma q2 (.ins "Step" (lotF (srt us) (Ts.map toT))) = mb at p2 m2 q2' ⊢
  rw [p2, insO_1, onO_1]
  refine ⟨.inl (by rw [as_insC q2']; rfl), .ref p, .ref q2, srt us, Ts.map toT, rfl, as_insC p2, E1, .inl ⟨_, _, as_insC q2', E1, ?_⟩⟩
  rw [decide_eq_true rfl, decide_eq_true rfl, Bool.and_self]
  walk_at "vc"
  exact w_k34_2 L m2 fun _ _ _ _ _ _ _ _ m' h => hG _ _ _ _ _ _ _ _ m' h
theorem w_k34_4 (L : SW us Ts) {sc x2 x7 x8 x9 x10 x11 x12 x13 x14 x15 x16 x17 x18 x19 x20 x21 : Option D} {m : Mem} {G : DE} (hm : m Pt = some (.tab (lamQ "law"))) (hp : m p = some (.ins "Step" (lotF (srt us) (Ts.map toT))))
    (hG : ∀ x7 x8 x9 x10 x11 x12 x13 x14 x15 x16 x17 x18 x19 x20 x21 m', m' Pt = some (.tab (lamQ "law")) → G.nx [sc, some .feed, x2, some (wsD us), some (.lst (Ts.map teD)), some (.ref p), some (.lst (wsL (srt (knwn us)))), x7, x8, x9, x10, x11, x12, x13, x14, x15, x16, x17, x18, x19, x20, x21] m') :
    v_law_b5 PL Pt [sc, some .feed, x2, some (wsD us), some (.lst (Ts.map teD)), some (.ref p), some (.lst (wsL (srt (knwn us)))), x7, x8, x9, x10, x11, x12, x13, x14, x15, x16, x17, x18, x19, x20, x21] m G := by
  unfold v_law_b5
  have n3 := L.n3
  have tl := L.tl
  have kl := knwn_len us
  have sl := srt_len (ns := us)
  have skl := srt_len (ns := knwn us)
  walk_at "vc"
  rw [hp, insO_1, onO_1]
  refine ⟨lk_names, .ref p, srt us, Ts.map toT, rfl, as_insC hp, by omega, fun q1 hq1 => ?_⟩
  dsimp only
  rw [mset_same]
  walk_at "vc"
  rw [mdel_mset hq1, hp, insO_1, onO_1]
  refine ⟨lk_ties, .ref p, srt us, Ts.map toT, rfl, as_insC hp, by rw [List.length_map]; omega, fun q2 hq2 => ?_⟩
  dsimp only
  rw [mset_same]
  walk_at "vc"
  rw [mdel_mset hq2, hp, insO_1, onO_1]
  refine ⟨lk_noG (by decide +kernel) (by decide +kernel), step_lot L hp fun q3 hq3 => ?_⟩
  have p1 := set_ne (u := .ins "Lot" (lotF (srt (knwn us)) (Ts.map toT))) hp hq3
  have m1 := keep_new (v := .ins "Lot" (lotF (srt (knwn us)) (Ts.map toT))) hm hq3
  have q1' : mset m q3 (.ins "Lot" (lotF (srt (knwn us)) (Ts.map toT))) q3 = _ := mset_same
  generalize mset m q3 (.ins "Lot" (lotF (srt (knwn us)) (Ts.map toT))) = ma at p1 m1 q1' ⊢
  rw [as_ins q1', onO_1]
  refine ⟨lk_names, .ref q3, srt (knwn us), Ts.map toT, rfl, as_ins q1', by omega, fun q4 hq4 => ?_⟩
  dsimp only
  rw [mset_same]
  walk_at "vc"
  rw [mdel_mset hq4, p1, insO_1, onO_1]
  refine ⟨lk_noG (by decide +kernel) (by decide +kernel), step_lot L p1 fun q5 hq5 => ?_⟩
  have p2 := set_ne (u := .ins "Lot" (lotF (srt (knwn us)) (Ts.map toT))) p1 hq5
  have m2 := keep_new (v := .ins "Lot" (lotF (srt (knwn us)) (Ts.map toT))) m1 hq5
  have q2' : mset ma q5 (.ins "Lot" (lotF (srt (knwn us)) (Ts.map toT))) q5 = _ := mset_same
  generalize mset ma q5 (.ins "Lot" (lotF (srt (knwn us)) (Ts.map toT))) = mb at p2 m2 q2' ⊢
  rw [as_ins q2', onO_1]
  refine ⟨lk_ties, .ref q5, srt (knwn us), Ts.map toT, rfl, as_ins q2', by rw [List.length_map]; omega, fun q6 hq6 => ?_⟩
  dsimp only
  rw [mset_same]
  walk_at "vc"
  rw [mdel_mset hq6, p2, insO_1, onO_1]
  refine ⟨.ref p, srt us, Ts.map toT, rfl, as_insC p2, ?_⟩
  walk_at "vc"
  refine ⟨⟨by omega, by rw [List.length_map]; omega⟩, ?_⟩
  rw [p2, insO_1, onO_1]
  refine ⟨.ref p, srt us, Ts.map toT, rfl, as_insC p2, by omega, by rw [List.length_map]; omega, ?_⟩
  walk_at "vc"
  have e1 : ("Step(" : Str) = S [83, 116, 101, 112, 40] := by decide +kernel
  have e2 : (" names, " : Str) = S [32, 110, 97, 109, 101, 115, 44, 32] := by decide +kernel
  have e3 : (" ties)" : Str) = S [32, 116, 105, 101, 115, 41] := by decide +kernel
  have sm : ∀ n : Nat, n ≤ 1000 → ((n : Int)).natAbs.log2 < 1920 := fun n h => Nat.lt_trans (log2_lt (n := (n : Int).natAbs) (k := 10) (by rw [Int.natAbs_natCast]; omega) (by decide)) (by decide)
  have il : ∀ n : Nat, n ≤ 1000 → (intL (n : Int)).length ≤ 1921 := fun n h => intL_len (sm n h)
  have l1 := il us.length (by omega)
  have l2 := il Ts.length (by omega)
  have er : reprT (srt us) (Ts.map toT) = [83, 116, 101, 112, 40] ++ intL (us.length : Int) ++ [32, 110, 97, 109, 101, 115, 44, 32] ++ intL (Ts.length : Int) ++ [32, 116, 105, 101, 115, 41] := by
    unfold reprT
    rw [sl, List.length_map]
  rw [er, show (us.map fun w => D.str (S w)) = wsL us from rfl, strDs_ws, onO_1]
  simp only [List.length_map, e1, e2, e3, intS_S, S_app, S_len]
  refine ⟨sm _ (by omega), ?_, ?_, sm _ (by omega), ?_, ?_, by omega, fun ys hy hs => ?_⟩
  · simp only [List.length_cons, List.length_nil]; omega
  · simp only [List.length_append, List.length_cons, List.length_nil]; omega
  · simp only [List.length_append, List.length_cons, List.length_nil]; omega
  · simp only [List.length_append, List.length_cons, List.length_nil]; omega
  rw [srtD_of hy hs]
  refine ⟨.lst [.lst (wsL (srt us)), .lst (Ts.map teD), .lst (wsL (srt (knwn us))), .lst (Ts.map teD), .int (Ts.length : Int), .str (S ([83, 116, 101, 112, 40] ++ intL (us.length : Int) ++ [32, 110, 97, 109, 101, 115, 44, 32] ++ intL (Ts.length : Int) ++ [32, 116, 105, 101, 115, 41])), .int 3], by rw [teDs_T], ?_, ?_⟩
  · refine ⟨by simp, fun d hd => ?_⟩
    have pt : Pl 7 (.lst (Ts.map teD)) := by
      rw [teDs_T]
      refine pl_ties8 (n := 2) (by rw [List.length_map]; omega) fun T hT => ?_
      obtain ⟨U, hU, rfl⟩ := List.mem_map.mp hT
      show (U.ts.map _).length ≤ 1000
      rw [List.length_map]
      rcases (L.tq U hU).1.len with z | z <;> omega
    simp only [List.mem_cons, List.not_mem_nil, or_false] at hd
    rcases hd with rfl | rfl | rfl | rfl | rfl | rfl | rfl
    · exact pl_wsL (n := 5) (by omega)
    · exact pt
    · exact pl_wsL (n := 5) (by omega)
    · exact pt
    · trivial
    · trivial
    · trivial
  walk_at "vc"
  refine ⟨by decide, ?_⟩
  refine forV_indP (fun _ s m' => m' Pt = some (.tab (lamQ "law")) ∧ m' p = some (.ins "Step" (lotF (srt us) (Ts.map toT))) ∧ ∃ (x7 x8 x9 x10 x11 x12 x13 x20 x21 : Option D), s = [sc, some .feed, x2, some (wsD us), some (.lst (Ts.map teD)), some (.ref p), some (.lst (wsL (srt (knwn us)))), x7, x8, x9, x10, x11, x12, x13, x14, x15, x16, x17, x18, x19, x20, x21]) ?_ ?_ ⟨m2, p2, _, _, _, _, _, _, _, _, _, rfl⟩
  · rintro s m' ⟨h1, h2, x7, x8, x9, x10, x11, x12, x13, x20, x21, rfl⟩
    exact w_k34_3 L h1 h2 fun _ _ _ _ _ _ _ _ m' h => hG _ _ _ _ _ _ _ _ _ _ _ _ _ _ _ m' h
  · rintro d ds s m' P ⟨h1, h2, x7, x8, x9, x10, x11, x12, x13, x20, x21, rfl⟩ ih
    walk_at "vc"
    exact w_k34_i L h1 h2 fun _ _ _ _ _ m' h1 h2 => ih _ _ ⟨h1, h2, _, _, _, _, _, _, _, _, _, rfl⟩
theorem w_k34_5 {sc x2 x3 x4 x5 x6 x7 x8 x9 x10 x11 x12 x13 x14 x15 x16 x17 x18 x19 x20 x21 : Option D} {m : Mem} {G : DE} (hm : m Pt = some (.tab (lamQ "law")))
    (hG : ∀ x3 x4 x5 x6 x7 x8 x9 x10 x11 x12 x13 x14 x15 x16 x17 x18 x19 x20 x21 m', m' Pt = some (.tab (lamQ "law")) → G.nx [sc, some .feed, x2, x3, x4, x5, x6, x7, x8, x9, x10, x11, x12, x13, x14, x15, x16, x17, x18, x19, x20, x21] m') :
    v_law_b6 PL Pt [sc, some .feed, x2, x3, x4, x5, x6, x7, x8, x9, x10, x11, x12, x13, x14, x15, x16, x17, x18, x19, x20, x21] m G := by
  unfold v_law_b6
  rw [quo_S]
  walk_at "vc"
  refine dr (by decide) (by decide) fun n n0 n1 => ?_
  obtain ⟨n, rfl⟩ := Int.eq_ofNat_of_zero_le n0
  walk_at "vc"
  refine ⟨n + 1, by simp; omega, by omega, fun us wl nd wd => ?_⟩
  have u0 : us ≠ [] := fun z => by rw [z] at wl; simp at wl
  walk_at "vc"
  refine ⟨us, 3, rfl, u0, by omega, wd, by decide, by decide, fun Ts tl tk => ?_⟩
  have L : SW us Ts := ⟨u0, by omega, nd, wd, by omega, tk⟩
  refine dr (by decide) (by decide) fun b b0 b1 => ?_
  walk_at "vc"
  have rest : ∀ (q : Addr) (m2 : Mem), m2 Pt = some (.tab (lamQ "law")) → m2 q = some (.ins "Step" (lotF (srt us) (Ts.map toT))) →
      (List.map (fun w => D.str (S w)) us).length ≤ 1000000 ∧ lcV (gN 20) vYes (vOp oAdd (vVar 20) (vC (D.str (S [39])))) [sc, some D.feed, x2, some (wsD us), some (D.lst (List.map teD Ts)), some (D.ref q), x6, x7, x8, x9, x10, x11, x12, x13, x14, x15, x16, x17, x18, x19, none, x21] (List.map (fun w => D.str (S w)) us) [] m2 fun es m2 =>
        (List.map (fun w => D.str (S w)) us).length + es.length ≤ 1000000 ∧ onO (strDs (List.map (fun w => D.str (S w)) us ++ es)) fun xs => xs.length ≤ 1000000 ∧ ∀ (ys : List Str), ys.Perm xs → sortedS ys = true →
          v_law_b5 PL Pt [sc, some D.feed, x2, some (wsD us), some (D.lst (List.map teD Ts)), some (D.ref q), some (D.lst (List.map D.str ys)), x7, x8, x9, x10, x11, x12, x13, x14, x15, x16, x17, x18, x19, x20, x21] m2 G := fun q m2 hm2 hq2 => by
    refine ⟨by rw [List.length_map]; omega, ?_⟩
    refine lc_map (h := fun n : Nm => .str (S (n ++ [39]))) us [] (fun n hn k' _ hk' => ?_) ?_
    · walk_at "vc"
      exact ⟨by have := (wd n hn).2.1; (try simp); omega, hk'⟩
    rw [List.nil_append, show (us.map fun n : Nm => D.str (S (n ++ [39]))) = wsL (us.map (· ++ [39])) by unfold wsL; rw [List.map_map]; rfl]
    have kl := knwn_len us
    unfold knwn at kl
    refine ⟨by simp only [List.length_map]; omega, ?_⟩
    rw [show (us.map fun w => D.str (S w)) = wsL us from rfl, ← wsL_app, strDs_ws, onO_1]
    refine ⟨by rw [List.length_map]; omega, fun ys hy hs => ?_⟩
    rw [srtD_of hy hs]
    exact w_k34_4 L hm2 hq2 fun _ _ _ _ _ _ _ _ _ _ _ _ _ _ _ m' h => hG _ _ _ _ _ _ _ _ _ _ _ _ _ _ _ _ _ _ _ m' h
  refine itP (fun _ q hq => ?_) fun _ q hq => ?_
  · exact mk_step L hq rfl rfl ⟨rfl, rest q _ (keep_new hm hq) mset_same⟩
  · exact mk_step L hq rfl rfl ⟨rfl, rest q _ (keep_new hm hq) mset_same⟩
end
theorem w_law : ∀ (PL : Nat → Obj → Prop) (Pt a : Addr) (ns : List Int), ns.length ≤ 63 → v_law PL Pt (dstart 22 [.lat a (ns.map D.int)]) (mset (fun _ => none) Pt (.tab (lamQ "law"))) endLaw := by
  intro PL Pt a ns hl
  have hm : mset (fun _ => none) Pt (.tab (lamQ "law")) Pt = some (.tab (lamQ "law")) := mset_same
  generalize mset (fun _ => none) Pt (.tab (lamQ "law")) = m at hm
  unfold v_law
  walk_at "vc"
  refine ⟨a, ns, rfl, by omega, ?_⟩
  walk_at "vc"
  refine ⟨by decide, ?_⟩
  refine forV_indP (fun _ s m' => ∃ (x2 x3 x4 x5 x6 x7 x8 x9 x10 x11 x12 x13 x14 x15 x16 x17 x18 x19 x20 x21 : Option D), s = [some (.lat a (ns.map D.int)), some .feed, x2, x3, x4, x5, x6, x7, x8, x9, x10, x11, x12, x13, x14, x15, x16, x17, x18, x19, x20, x21] ∧ m' Pt = some (.tab (lamQ "law"))) ?_ ?_ ⟨_, _, _, _, _, _, _, _, _, _, _, _, _, _, _, _, _, _, _, _, rfl, hm⟩
  · rintro s m' ⟨x2, x3, x4, x5, x6, x7, x8, x9, x10, x11, x12, x13, x14, x15, x16, x17, x18, x19, x20, x21, rfl, hm⟩
    walk_at "vc"
  · rintro d ds s m' P ⟨x2, x3, x4, x5, x6, x7, x8, x9, x10, x11, x12, x13, x14, x15, x16, x17, x18, x19, x20, x21, rfl, hm⟩ ih
    walk_at "vc"
    exact w_k34_5 hm fun _ _ _ _ _ _ _ _ _ _ _ _ _ _ _ _ _ _ _ m' h => ih _ _ ⟨_, _, _, _, _, _, _, _, _, _, _, _, _, _, _, _, _, _, _, _, rfl, h⟩


abbrev FnP (K : PySem.W.Frag) (x : Str) (st : Stmt) (f : Addr) (fd : FuncData) : Prop := FunD K x x (defArgs st) (defBody st) (defScope st) [] [] f fd
structure Tx (P : Program) (K : PySem.W.Frag) (mg : Str → Option Value) : Prop where
  f_abs : mg "abs" = none
  f_all : mg "all" = none
  f_bool : mg "bool" = none
  f_dict : mg "dict" = none
  f_enumerate : mg "enumerate" = none
  f_int : mg "int" = none
  f_isinstance : mg "isinstance" = none
  f_len : mg "len" = none
  f_list : mg "list" = none
  f_range : mg "range" = none
  f_repr : mg "repr" = none
  f_set : mg "set" = none
  f_sorted : mg "sorted" = none
  f_str : mg "str" = none
  f_tuple : mg "tuple" = none
  f_zip : mg "zip" = none
  c_MAX_LETTERS : ∃ t, mg "MAX_LETTERS" = some (.int 6 t)
  c_NEW : ∃ t, mg "NEW" = some (.str "'" t)
  c_SMALL : ∃ t, mg "SMALL" = some (.str "abcdefghijklmnopqrstuvwxyz" t)
  c_ONE : ∃ a, mg "ONE" = some (.ref a) ∧ ∀ H : Hp, SqN K H a ([1, 1].map V.int)
  c_ZERO : ∃ a, mg "ZERO" = some (.ref a) ∧ ∀ H : Hp, SqN K H a ([0, 1].map V.int)
  x_InvalidTie : XF P K mg x_InvalidTie
  x_InvalidName : XF P K mg x_InvalidName
  m_0 : ∃ C0 C1, mg "TieError" = some (.ref C0) ∧ mg "Missing" = some (.ref C1) ∧ MtOk K mg mt_0 [.ref C0, .ref C1] xfields
  m_1 : ∃ C0, mg "NothingLeft" = some (.ref C0) ∧ MtOk K mg mt_1 [.ref C0] xfields
  sup : (P.main.scope.names.lookup ("super" : Str)).isSome = false
  cl_Lot : ClN K mg "Lot" ["words", "held"]
  cl_Step : ClN K mg "Step" ["words", "held"]
  ic_Step : IsC K mg "Step"
  cv_Step_MOST : CvF K mg "Step" "MOST" 3
  ne_Step : NeC K mg "Step"
  e_Step___init__ : ∀ F, RpL K mg F [(He.Dv.v K (.adr (He.dflAt ("Step", some "__init__") 0)))] [D.tup []]
  g_divisor : ∃ f fd, mg "divisor" = some (.ref f) ∧ FunD K "divisor" "divisor" (defArgs sT_divisor) (defBody sT_divisor) (defScope sT_divisor) [] [] f fd
  g_lowest : ∃ f fd, mg "lowest" = some (.ref f) ∧ FunD K "lowest" "lowest" (defArgs sT_lowest) (defBody sT_lowest) (defScope sT_lowest) [] [] f fd
  g_is_whole : ∃ f fd, mg "is_whole" = some (.ref f) ∧ FunD K "is_whole" "is_whole" (defArgs sT_is_whole) (defBody sT_is_whole) (defScope sT_is_whole) [] [] f fd
  g_is_ratio : ∃ f fd, mg "is_ratio" = some (.ref f) ∧ FunD K "is_ratio" "is_ratio" (defArgs sT_is_ratio) (defBody sT_is_ratio) (defScope sT_is_ratio) [] [] f fd
  g_add : ∃ f fd, mg "add" = some (.ref f) ∧ FunD K "add" "add" (defArgs sT_add) (defBody sT_add) (defScope sT_add) [] [] f fd
  g_negative : ∃ f fd, mg "negative" = some (.ref f) ∧ FunD K "negative" "negative" (defArgs sT_negative) (defBody sT_negative) (defScope sT_negative) [] [] f fd
  g_multiply : ∃ f fd, mg "multiply" = some (.ref f) ∧ FunD K "multiply" "multiply" (defArgs sT_multiply) (defBody sT_multiply) (defScope sT_multiply) [] [] f fd
  g_is_less : ∃ f fd, mg "is_less" = some (.ref f) ∧ FunD K "is_less" "is_less" (defArgs sT_is_less) (defBody sT_is_less) (defScope sT_is_less) [] [] f fd
  g_is_name : ∃ f fd, mg "is_name" = some (.ref f) ∧ FunD K "is_name" "is_name" (defArgs sT_is_name) (defBody sT_is_name) (defScope sT_is_name) [] [] f fd
  g_is_tie : ∃ f fd, mg "is_tie" = some (.ref f) ∧ FunD K "is_tie" "is_tie" (defArgs sT_is_tie) (defBody sT_is_tie) (defScope sT_is_tie) [] [] f fd
  g_are_terms : ∃ f fd, mg "are_terms" = some (.ref f) ∧ FunD K "are_terms" "are_terms" (defArgs sT_are_terms) (defBody sT_are_terms) (defScope sT_are_terms) [] [] f fd
  g_names_in : ∃ f fd, mg "names_in" = some (.ref f) ∧ FunD K "names_in" "names_in" (defArgs sT_names_in) (defBody sT_names_in) (defScope sT_names_in) [] [] f fd
  g_sum_at : ∃ f fd, mg "sum_at" = some (.ref f) ∧ FunD K "sum_at" "sum_at" (defArgs sT_sum_at) (defBody sT_sum_at) (defScope sT_sum_at) [] [] f fd
  g_is_kept : ∃ f fd, mg "is_kept" = some (.ref f) ∧ FunD K "is_kept" "is_kept" (defArgs sT_is_kept) (defBody sT_is_kept) (defScope sT_is_kept) [] [] f fd
  g_Lot___init__ : ∃ Ca f fd, mg "Lot" = some (.ref Ca) ∧ L2.Mk K Ca f ∧ FunD K "__init__" "Lot.__init__" (defArgs sT_Lot___init__) (defBody sT_Lot___init__) (defScope sT_Lot___init__) [(He.Dv.v K (.adr (He.dflAt ("Lot", some "__init__") 0)))] [] f fd
  g_Lot_names : ∃ Ca f fd, mg "Lot" = some (.ref Ca) ∧ Cls K Ca ∧ Meth K Ca "names" f ∧ FunD K "names" "Lot.names" (defArgs sT_Lot_names) (defBody sT_Lot_names) (defScope sT_Lot_names) [] [] f fd
  g_Lot_ties : ∃ Ca f fd, mg "Lot" = some (.ref Ca) ∧ Cls K Ca ∧ Meth K Ca "ties" f ∧ FunD K "ties" "Lot.ties" (defArgs sT_Lot_ties) (defBody sT_Lot_ties) (defScope sT_Lot_ties) [] [] f fd
  g_equal_ties : ∃ f fd, mg "equal_ties" = some (.ref f) ∧ FunD K "equal_ties" "equal_ties" (defArgs sT_equal_ties) (defBody sT_equal_ties) (defScope sT_equal_ties) [] [] f fd
  g_Step___init__ : ∃ Ca f fd, mg "Step" = some (.ref Ca) ∧ L2.Mk K Ca f ∧ FunD K "__init__" "Step.__init__" (defArgs sT_Step___init__) (defBody sT_Step___init__) (defScope sT_Step___init__) [(He.Dv.v K (.adr (He.dflAt ("Step", some "__init__") 0)))] [] f fd
  g_Step_stay : SmF K mg d_Step_stay
  g_Step___eq__ : ∃ Ca f fd, mg "Step" = some (.ref Ca) ∧ Cls K Ca ∧ Meth K Ca "__eq__" f ∧ FunD K "__eq__" "Step.__eq__" (defArgs sT_Step___eq__) (defBody sT_Step___eq__) (defScope sT_Step___eq__) [] [] f fd
  g_Step___len__ : ∃ Ca f fd, mg "Step" = some (.ref Ca) ∧ Cls K Ca ∧ Meth K Ca "__len__" f ∧ FunD K "__len__" "Step.__len__" (defArgs sT_Step___len__) (defBody sT_Step___len__) (defScope sT_Step___len__) [] [] f fd
  g_Step___repr__ : ∃ Ca f fd, mg "Step" = some (.ref Ca) ∧ Cls K Ca ∧ Meth K Ca "__repr__" f ∧ FunD K "__repr__" "Step.__repr__" (defArgs sT_Step___repr__) (defBody sT_Step___repr__) (defScope sT_Step___repr__) [] [] f fd
  g_Step_all_names : ∃ Ca f fd, mg "Step" = some (.ref Ca) ∧ Cls K Ca ∧ Meth K Ca "all_names" f ∧ FunD K "all_names" "Step.all_names" (defArgs sT_Step_all_names) (defBody sT_Step_all_names) (defScope sT_Step_all_names) [] [] f fd
  g_Step_names : ∃ Ca f fd, mg "Step" = some (.ref Ca) ∧ Cls K Ca ∧ Meth K Ca "names" f ∧ FunD K "names" "Step.names" (defArgs sT_Step_names) (defBody sT_Step_names) (defScope sT_Step_names) [] [] f fd
  g_Step_ties : ∃ Ca f fd, mg "Step" = some (.ref Ca) ∧ Cls K Ca ∧ Meth K Ca "ties" f ∧ FunD K "ties" "Step.ties" (defArgs sT_Step_ties) (defBody sT_Step_ties) (defScope sT_Step_ties) [] [] f fd
  g_Step_lot : ∃ Ca f fd, mg "Step" = some (.ref Ca) ∧ Cls K Ca ∧ Meth K Ca "lot" f ∧ FunD K "lot" "Step.lot" (defArgs sT_Step_lot) (defBody sT_Step_lot) (defScope sT_Step_lot) [] [] f fd
  g_Step_allows : ∃ Ca f fd, mg "Step" = some (.ref Ca) ∧ Cls K Ca ∧ Meth K Ca "allows" f ∧ FunD K "allows" "Step.allows" (defArgs sT_Step_allows) (defBody sT_Step_allows) (defScope sT_Step_allows) [] [] f fd
  g__law_feed : ∃ f fd, mg "_law_feed" = some (.ref f) ∧ FunD K "_law_feed" "_law_feed" (defArgs sT__law_feed) (defBody sT__law_feed) (defScope sT__law_feed) [] [] f fd
  g__law_draw : ∃ f fd, mg "_law_draw" = some (.ref f) ∧ FunD K "_law_draw" "_law_draw" (defArgs sT__law_draw) (defBody sT__law_draw) (defScope sT__law_draw) [] [] f fd
  g__law_any : ∃ f fd, mg "_law_any" = some (.ref f) ∧ FunD K "_law_any" "_law_any" (defArgs sT__law_any) (defBody sT__law_any) (defScope sT__law_any) [] [] f fd
  g__law_same : ∃ f fd, mg "_law_same" = some (.ref f) ∧ FunD K "_law_same" "_law_same" (defArgs sT__law_same) (defBody sT__law_same) (defScope sT__law_same) [] [] f fd
  g__law_field : ∃ f fd, mg "_law_field" = some (.ref f) ∧ FunD K "_law_field" "_law_field" (defArgs sT__law_field) (defBody sT__law_field) (defScope sT__law_field) [] [] f fd
  g__law_why : ∃ f fd, mg "_law_why" = some (.ref f) ∧ FunD K "_law_why" "_law_why" (defArgs sT__law_why) (defBody sT__law_why) (defScope sT__law_why) [] [] f fd
  g__law_errors : ∃ f fd, mg "_law_errors" = some (.ref f) ∧ FunD K "_law_errors" "_law_errors" (defArgs sT__law_errors) (defBody sT__law_errors) (defScope sT__law_errors) [] [] f fd
  g__law_gcd : ∃ f fd, mg "_law_gcd" = some (.ref f) ∧ FunD K "_law_gcd" "_law_gcd" (defArgs sT__law_gcd) (defBody sT__law_gcd) (defScope sT__law_gcd) [] [] f fd
  g__law_low : ∃ f fd, mg "_law_low" = some (.ref f) ∧ FunD K "_law_low" "_law_low" (defArgs sT__law_low) (defBody sT__law_low) (defScope sT__law_low) [] [] f fd
  g__law_plus : ∃ f fd, mg "_law_plus" = some (.ref f) ∧ FunD K "_law_plus" "_law_plus" (defArgs sT__law_plus) (defBody sT__law_plus) (defScope sT__law_plus) [] [] f fd
  g__law_minus : ∃ f fd, mg "_law_minus" = some (.ref f) ∧ FunD K "_law_minus" "_law_minus" (defArgs sT__law_minus) (defBody sT__law_minus) (defScope sT__law_minus) [] [] f fd
  g__law_by : ∃ f fd, mg "_law_by" = some (.ref f) ∧ FunD K "_law_by" "_law_by" (defArgs sT__law_by) (defBody sT__law_by) (defScope sT__law_by) [] [] f fd
  g__law_under : ∃ f fd, mg "_law_under" = some (.ref f) ∧ FunD K "_law_under" "_law_under" (defArgs sT__law_under) (defBody sT__law_under) (defScope sT__law_under) [] [] f fd
  g__law_rate : ∃ f fd, mg "_law_rate" = some (.ref f) ∧ FunD K "_law_rate" "_law_rate" (defArgs sT__law_rate) (defBody sT__law_rate) (defScope sT__law_rate) [] [] f fd
  g__law_words : ∃ f fd, mg "_law_words" = some (.ref f) ∧ FunD K "_law_words" "_law_words" (defArgs sT__law_words) (defBody sT__law_words) (defScope sT__law_words) [] [] f fd
  g__law_strange : ∃ f fd, mg "_law_strange" = some (.ref f) ∧ FunD K "_law_strange" "_law_strange" (defArgs sT__law_strange) (defBody sT__law_strange) (defScope sT__law_strange) [] [] f fd
  g__law_total : ∃ f fd, mg "_law_total" = some (.ref f) ∧ FunD K "_law_total" "_law_total" (defArgs sT__law_total) (defBody sT__law_total) (defScope sT__law_total) [] [] f fd
  g__law_keeps : ∃ f fd, mg "_law_keeps" = some (.ref f) ∧ FunD K "_law_keeps" "_law_keeps" (defArgs sT__law_keeps) (defBody sT__law_keeps) (defScope sT__law_keeps) [] [] f fd
  g__law_point : ∃ f fd, mg "_law_point" = some (.ref f) ∧ FunD K "_law_point" "_law_point" (defArgs sT__law_point) (defBody sT__law_point) (defScope sT__law_point) [] [] f fd
  g__law_value_ties : ∃ f fd, mg "_law_value_ties" = some (.ref f) ∧ FunD K "_law_value_ties" "_law_value_ties" (defArgs sT__law_value_ties) (defBody sT__law_value_ties) (defScope sT__law_value_ties) [] [] f fd
  g__law_step_ties : ∃ f fd, mg "_law_step_ties" = some (.ref f) ∧ FunD K "_law_step_ties" "_law_step_ties" (defArgs sT__law_step_ties) (defBody sT__law_step_ties) (defScope sT__law_step_ties) [] [] f fd
  g__law_values_of : ∃ f fd, mg "_law_values_of" = some (.ref f) ∧ FunD K "_law_values_of" "_law_values_of" (defArgs sT__law_values_of) (defBody sT__law_values_of) (defScope sT__law_values_of) [] [] f fd
  g__law_stay_ties : ∃ f fd, mg "_law_stay_ties" = some (.ref f) ∧ FunD K "_law_stay_ties" "_law_stay_ties" (defArgs sT__law_stay_ties) (defBody sT__law_stay_ties) (defScope sT__law_stay_ties) [] [] f fd
  g_law : ∃ f fd, mg "law" = some (.ref f) ∧ FunD K "law" "law" (defArgs sT_law) (defBody sT_law) (defScope sT_law) [] [] f fd
section
variable {P : Program} {w : World} {K : PySem.W.Frag} {mg : Str → Option Value} {base : Heap}
theorem ok_InvalidTie (T : Tx P K mg) : Mk1 P w K mg "InvalidTie" "at" "tag" "InvalidTie" :=
  T.x_InvalidTie.mk1 (d := x_InvalidTie) rfl (fun _ => rfl) F.excBase_ValueError PySem.W.kxs_ValueError F.store_ValueError ⟨rfl, rfl, rfl, rfl, by decide +kernel, rfl, rfl⟩ rfl rfl T.sup (fun _ _ _ _ _ _ _ _ _ => rfl) rfl (by decide) (by decide) (by decide) (fun _ => rfl) (fun _ => rfl) (by decide +kernel) (by decide +kernel)
theorem ok_InvalidName (T : Tx P K mg) : Mk1 P w K mg "InvalidName" "name" "tag" "InvalidName" :=
  T.x_InvalidName.mk1 (d := x_InvalidName) rfl (fun _ => rfl) F.excBase_ValueError PySem.W.kxs_ValueError F.store_ValueError ⟨rfl, rfl, rfl, rfl, by decide +kernel, rfl, rfl⟩ rfl rfl T.sup (fun _ _ _ _ _ _ _ _ _ => rfl) rfl (by decide) (by decide) (by decide) (fun _ => rfl) (fun _ => rfl) (by decide +kernel) (by decide +kernel)
theorem ok_divisor (T : Tx P K mg) : Fn P w K mg base "divisor" 1 ph_divisor := by
  obtain ⟨f, fd, hm, F⟩ := T.g_divisor
  exact Fn.mk1 hm F.kp (FunD.bindsN F fun _ _ _ _ _ _ us hl => match us, hl with | [_, _], _ => rfl) (fn_P (v := v_divisor) F sc_divisor l_divisor (fun cdv A outer s H E hr =>
    (jss_cons (js_par (i := 0) (j := 1) (by rfl) sc_divisor.nd rfl rfl (by decide) rfl rfl (ja_cons (je_callB jo_abs (by rfl) T.f_abs (by decide +kernel) (ja_cons (jv 0) ja_nil)) (ja_cons (je_callB jo_abs (by rfl) T.f_abs (by decide +kernel) (ja_cons (jv 1) ja_nil)) ja_nil)) (by rfl))
      (jss_cons (js_while PassesOwn.never (jt_cmp jo_gt (jv 1) je_int (nomark _)) (jss_one (js_par (i := 0) (j := 1) (by rfl) sc_divisor.nd rfl rfl (by decide) rfl rfl (ja_cons (jv 1) (ja_cons (je_op jo_mod (jv 0) (jv 1)) ja_nil)) (by rfl))))
      (jss_one (js_ret (jv 0)))))) w_divisor)
theorem ok_is_whole (T : Tx P K mg) : Fn P w K mg base "is_whole" 1 ph_is_whole := by
  obtain ⟨f, fd, hm, F⟩ := T.g_is_whole
  exact Fn.mk1 hm F.kp (FunD.bindsN F fun _ _ _ _ _ _ us hl => match us, hl with | [_], _ => rfl) (fn_P (v := v_is_whole) F sc_is_whole l_is_whole (fun cdv A outer s H E hr =>
    (jss_one (js_ret (je_and (je_isi .int (by decide) (by decide +kernel) (by rfl) T.f_isinstance (by rfl) T.f_int (jv 0)) (je_one (je_not (je_isi .bl (by decide) (by decide +kernel) (by rfl) T.f_isinstance (by rfl) T.f_bool (jv 0)))))))) w_is_whole)
theorem ok_negative (T : Tx P K mg) : Fn P w K mg base "negative" 1 ph_negative := by
  obtain ⟨f, fd, hm, F⟩ := T.g_negative
  exact Fn.mk1 hm F.kp (FunD.bindsN F fun _ _ _ _ _ _ us hl => match us, hl with | [_], _ => rfl) (fn_P (v := v_negative) F sc_negative l_negative (fun cdv A outer s H E hr =>
    (jss_one (js_ret (je_tup (ja_cons (je_un jo_neg (je_ix (jv 0) je_int (fun _ _ => rfl))) (ja_cons (je_ix (jv 0) je_int (fun _ _ => rfl)) ja_nil)))))) w_negative)
theorem ok_is_less (T : Tx P K mg) : Fn P w K mg base "is_less" 1 ph_is_less := by
  obtain ⟨f, fd, hm, F⟩ := T.g_is_less
  exact Fn.mk1 hm F.kp (FunD.bindsN F fun _ _ _ _ _ _ us hl => match us, hl with | [_, _], _ => rfl) (fn_P (v := v_is_less) F sc_is_less l_is_less (fun cdv A outer s H E hr =>
    (jss_one (js_ret (je_cmp jo_lt (je_op jo_mul (je_ix (jv 0) je_int (fun _ _ => rfl)) (je_ix (jv 1) je_int (fun _ _ => rfl))) (je_op jo_mul (je_ix (jv 1) je_int (fun _ _ => rfl)) (je_ix (jv 0) je_int (fun _ _ => rfl))) (nomark _))))) w_is_less)
theorem ok_is_name (T : Tx P K mg) : Fn P w K mg base "is_name" 1 ph_is_name := by
  obtain ⟨f, fd, hm, F⟩ := T.g_is_name
  exact Fn.mk1 hm F.kp (FunD.bindsN F fun _ _ _ _ _ _ us hl => match us, hl with | [_], _ => rfl) (fn_P (v := v_is_name) F sc_is_name l_is_name (fun cdv A outer s H E hr =>
    (jss_cons (js_if (jt_not (jt_val (je_isi .str (by decide) (by decide +kernel) (by rfl) T.f_isinstance (by rfl) T.f_str (jv 0)))) (jss_one (js_ret je_bl)) jss_nil)
      (jss_cons (js_set (i := 1) sc_is_name.nd rfl (Or.inl rfl) (je_if (jt_cmp (jo_eq hr.units) (je_sl (jv 0) (jp_some (je_un jo_neg je_int)) jp_no) je_str (nomark _)) (je_sl (jv 0) jp_no (jp_some (je_un jo_neg je_int))) (jv 0)))
      (jss_one (js_ret (je_and (je_chain jo_le jo_le je_int (je_callB jo_len (by rfl) T.f_len (by decide +kernel) (ja_cons (jv 1) ja_nil)) (je_gint (by rfl) T.c_MAX_LETTERS)) (je_one (je_callB (jo_all rfl) (by rfl) T.f_all (by decide +kernel) (ja_cons (je_lc (own := [("sign", 2)]) (vs := [2]) rfl (by decide) rfl sc_is_name.nd (jf_seq (jv 1)) (blkOk_by (own := [("sign", 2)]) (N := N_is_name) (sc := defScope sT_is_name) (by decide +kernel)) (fun _ => (jg_name (i := 2) sc_is_name.nd rfl (Or.inl rfl))) (fun _ => jts_nil) (fun _ => (je_cmp (jo_inS) (jv 2) (je_gstr (by rfl) T.c_SMALL) (by rfl)))) ja_nil))))))))) w_is_name)
theorem ok_names_in (T : Tx P K mg) : Fn P w K mg base "names_in" 1 ph_names_in := by
  obtain ⟨f, fd, hm, F⟩ := T.g_names_in
  exact Fn.mk1 hm F.kp (FunD.bindsN F fun _ _ _ _ _ _ us hl => match us, hl with | [_], _ => rfl) (fn_0 (v := v_names_in) F sc_names_in l_names_in (fun cdv A outer s H E hr =>
    (jss_one (js_ret (je_lcO (own := [("name", 1), ("rate", 2)]) (vs := [1, 2]) rfl (by decide) rfl sc_names_in.nd (jf_seq (je_ix (jv 0) je_int (fun _ _ => rfl))) (blkOk_by (own := [("name", 1), ("rate", 2)]) (N := N_names_in) (sc := defScope sT_names_in) (by decide +kernel)) (fun _ => (jg_tup rfl (jgs_cons (jg_name (i := 1) sc_names_in.nd rfl (Or.inl rfl)) (jgs_cons (jg_name (i := 2) sc_names_in.nd rfl (Or.inl rfl)) jgs_nil)))) (fun _ => jts_nil) (fun _ => (jv 1)))))) w_names_in)
theorem ok_Lot_names (T : Tx P K mg) : Mt0 P w K mg base "Lot" "names" 1 ph_Lot_names := by
  obtain ⟨Ca, f, fd, hm, c, M, F⟩ := T.g_Lot_names
  exact Mt0.mk1 hm c M (FunD.bindsN F fun _ _ _ _ _ _ us hl => match us, hl with | [_], _ => rfl) (fn_0 (v := v_Lot_names) F sc_Lot_names l_Lot_names (fun cdv A outer s H E hr =>
    (jss_one (js_ret (je_callTy jo_listO (by rfl) T.f_list (by decide +kernel) (ja_cons (je_fld T.cl_Lot (by decide +kernel) (jv 0)) ja_nil))))) w_Lot_names)
theorem ok_Lot_ties (T : Tx P K mg) : Mt0 P w K mg base "Lot" "ties" 1 ph_Lot_ties := by
  obtain ⟨Ca, f, fd, hm, c, M, F⟩ := T.g_Lot_ties
  exact Mt0.mk1 hm c M (FunD.bindsN F fun _ _ _ _ _ _ us hl => match us, hl with | [_], _ => rfl) (fn_0 (v := v_Lot_ties) F sc_Lot_ties l_Lot_ties (fun cdv A outer s H E hr =>
    (jss_one (js_ret (je_callTy jo_listO (by rfl) T.f_list (by decide +kernel) (ja_cons (je_fld T.cl_Lot (by decide +kernel) (jv 0)) ja_nil))))) w_Lot_ties)
theorem ok_Step___eq__ (T : Tx P K mg) : Mt0 P w K mg base "Step" "__eq__" 1 ph_Step___eq__ := by
  obtain ⟨Ca, f, fd, hm, c, M, F⟩ := T.g_Step___eq__
  exact Mt0.mk1 hm c M (FunD.bindsN F fun _ _ _ _ _ _ us hl => match us, hl with | [_, _], _ => rfl) (fn_P (v := v_Step___eq__) F sc_Step___eq__ l_Step___eq__ (fun cdv A outer s H E hr =>
    (jss_one (js_ret (je_and (je_isiC T.cl_Step T.ic_Step (by rfl) T.f_isinstance (by rfl) (jv 1)) (je_and (je_cmp (jo_eq hr.units) (je_fld T.cl_Step (by decide +kernel) (jv 0)) (je_fld T.cl_Step (by decide +kernel) (jv 1)) (nomark _)) (je_one (je_cmp (jo_eq hr.units) (je_fld T.cl_Step (by decide +kernel) (jv 0)) (je_fld T.cl_Step (by decide +kernel) (jv 1)) (nomark _)))))))) w_Step___eq__)
theorem ok_Step___len__ (T : Tx P K mg) : Mt0 P w K mg base "Step" "__len__" 1 ph_Step___len__ := by
  obtain ⟨Ca, f, fd, hm, c, M, F⟩ := T.g_Step___len__
  exact Mt0.mk1 hm c M (FunD.bindsN F fun _ _ _ _ _ _ us hl => match us, hl with | [_], _ => rfl) (fn_P (v := v_Step___len__) F sc_Step___len__ l_Step___len__ (fun cdv A outer s H E hr =>
    (jss_one (js_ret (je_callB jo_len (by rfl) T.f_len (by decide +kernel) (ja_cons (je_fld T.cl_Step (by decide +kernel) (jv 0)) ja_nil))))) w_Step___len__)
theorem ok_Step___repr__ (T : Tx P K mg) : Mt0 P w K mg base "Step" "__repr__" 1 ph_Step___repr__ := by
  obtain ⟨Ca, f, fd, hm, c, M, F⟩ := T.g_Step___repr__
  exact Mt0.mk1 hm c M (FunD.bindsN F fun _ _ _ _ _ _ us hl => match us, hl with | [_], _ => rfl) (fn_P (v := v_Step___repr__) F sc_Step___repr__ l_Step___repr__ (fun cdv A outer s H E hr =>
    (jss_one (js_ret (je_joined (JJ.cons je_str (JJ.cons (je_fmt (je_callB jo_len (by rfl) T.f_len (by decide +kernel) (ja_cons (je_fld T.cl_Step (by decide +kernel) (jv 0)) ja_nil))) (JJ.cons je_str (JJ.cons (je_fmt (je_callB jo_len (by rfl) T.f_len (by decide +kernel) (ja_cons (je_fld T.cl_Step (by decide +kernel) (jv 0)) ja_nil))) (JJ.cons je_str JJ.nil))))))))) w_Step___repr__)
theorem ok_Step_all_names (T : Tx P K mg) : Mt0 P w K mg base "Step" "all_names" 1 ph_Step_all_names := by
  obtain ⟨Ca, f, fd, hm, c, M, F⟩ := T.g_Step_all_names
  exact Mt0.mk1 hm c M (FunD.bindsN F fun _ _ _ _ _ _ us hl => match us, hl with | [_], _ => rfl) (fn_P (v := v_Step_all_names) F sc_Step_all_names l_Step_all_names (fun cdv A outer s H E hr =>
    (jss_one (js_ret (je_callB jo_sortA (by rfl) T.f_sorted (by decide +kernel) (ja_cons (je_op jo_add (je_fld T.cl_Step (by decide +kernel) (jv 0)) (je_lc (own := [("name", 1)]) (vs := [1]) rfl (by decide) rfl sc_Step_all_names.nd (jf_seq (je_fld T.cl_Step (by decide +kernel) (jv 0))) (blkOk_by (own := [("name", 1)]) (N := N_Step_all_names) (sc := defScope sT_Step_all_names) (by decide +kernel)) (fun _ => (jg_name (i := 1) sc_Step_all_names.nd rfl (Or.inl rfl))) (fun _ => jts_nil) (fun _ => (je_op jo_add (jv 1) (je_gstr (by rfl) T.c_NEW))))) ja_nil))))) w_Step_all_names)
theorem ok_Step_names (T : Tx P K mg) : Mt0 P w K mg base "Step" "names" 1 ph_Step_names := by
  obtain ⟨Ca, f, fd, hm, c, M, F⟩ := T.g_Step_names
  exact Mt0.mk1 hm c M (FunD.bindsN F fun _ _ _ _ _ _ us hl => match us, hl with | [_], _ => rfl) (fn_0 (v := v_Step_names) F sc_Step_names l_Step_names (fun cdv A outer s H E hr =>
    (jss_one (js_ret (je_callTy jo_listO (by rfl) T.f_list (by decide +kernel) (ja_cons (je_fld T.cl_Step (by decide +kernel) (jv 0)) ja_nil))))) w_Step_names)
theorem ok_Step_ties (T : Tx P K mg) : Mt0 P w K mg base "Step" "ties" 1 ph_Step_ties := by
  obtain ⟨Ca, f, fd, hm, c, M, F⟩ := T.g_Step_ties
  exact Mt0.mk1 hm c M (FunD.bindsN F fun _ _ _ _ _ _ us hl => match us, hl with | [_], _ => rfl) (fn_0 (v := v_Step_ties) F sc_Step_ties l_Step_ties (fun cdv A outer s H E hr =>
    (jss_one (js_ret (je_callTy jo_listO (by rfl) T.f_list (by decide +kernel) (ja_cons (je_fld T.cl_Step (by decide +kernel) (jv 0)) ja_nil))))) w_Step_ties)
theorem ok__law_feed (T : Tx P K mg) : Fn P w K mg base "_law_feed" 1 ph__law_feed := by
  obtain ⟨f, fd, hm, F⟩ := T.g__law_feed
  exact Fn.mk1 hm F.kp (FunD.bindsN F fun _ _ _ _ _ _ us hl => match us, hl with | [_], _ => rfl) (feed_shift rfl (fn_0 (v := v__law_feed) F sc__law_feed l__law_feed (fun cdv A outer s H E hr =>
    (jss_cons (js_setLc (i := 1) rfl (sw_true rfl rfl rfl (by decide +kernel)) rfl (own := [("_law_cell", 3)]) (vs := [3]) rfl (by decide) rfl sc__law_feed.nd (jf_seq (je_sl (jv 0) jp_no (jp_some je_int))) (blkOk_by (own := [("_law_cell", 3)]) (N := N__law_feed) (sc := defScope sT__law_feed) (by decide +kernel)) (fun _ => (jg_name (i := 3) sc__law_feed.nd rfl (Or.inl rfl))) (fun _ => jts_nil) (fun _ => (je_callTy jo_int (by rfl) T.f_int (by decide +kernel) (ja_cons (jv 3) ja_nil))))
      (jss_cons (js_set (i := 2) sc__law_feed.nd rfl (Or.inl rfl) (je_op jo_add je_int (je_op jo_mul je_int (je_callB jo_len (by rfl) T.f_len (by decide +kernel) (ja_cons (jv 1) ja_nil)))))
      (jss_cons (js_for PassesOwn.never rfl (jf_seq (jv 1)) (jg_name (i := 3) sc__law_feed.nd rfl (Or.inl rfl))
      (jss_one (js_set (i := 2) sc__law_feed.nd rfl (Or.inl rfl) (je_op jo_mod (je_callTy jo_int (by rfl) T.f_int (by decide +kernel) (ja_cons (je_op jo_add (je_op jo_mul (jv 2) je_int) (jv 3)) ja_nil)) je_int))))
      (jss_one (js_ret (je_lstO (ja_cons (jv 1) (ja_cons je_int (ja_cons je_int (ja_cons (jv 2) ja_nil))))))))))) w__law_feed))
theorem ok__law_draw (T : Tx P K mg) : Fn P w K mg base "_law_draw" 1 ph__law_draw := by
  obtain ⟨f, fd, hm, F⟩ := T.g__law_draw
  exact Fn.mk1 hm F.kp (FunD.bindsN F fun _ _ _ _ _ _ us hl => match us, hl with | [_, _], _ => rfl) (draw_shift rfl (fn_0 (v := v__law_draw) F sc__law_draw l__law_draw (fun cdv A outer s H E hr =>
    (jss_cons (js_if (jt_cmp jo_lt (je_ix (jv 0) je_int (fun _ _ => rfl)) je_int (nomark _)) (jss_cons (js_setIx (je_op jo_add (je_ix (jv 0) je_int (fun _ _ => rfl)) je_int) (jv 0) je_int)
      (jss_cons (js_set (i := 2) sc__law_draw.nd rfl (Or.inl rfl) (je_op jo_add (je_ix (jv 0) je_int (fun _ _ => rfl)) (je_op jo_mul (je_ix (jv 0) je_int (fun _ _ => rfl)) je_int)))
      (jss_cons (js_if (jt_cmp jo_le (je_ix (jv 0) je_int (fun _ _ => rfl)) (je_callB jo_len (by rfl) T.f_len (by decide +kernel) (ja_cons (je_ix (jv 0) je_int (fun _ _ => rfl)) ja_nil)) (nomark _)) (jss_one (js_set (i := 2) sc__law_draw.nd rfl (Or.inl rfl) (je_ix (je_ix (jv 0) je_int (fun _ _ => rfl)) (je_op jo_sub (je_ix (jv 0) je_int (fun _ _ => rfl)) je_int) (fun _ _ => rfl)))) jss_nil)
      (jss_cons (js_if (JW.jt (jw_or (jt_cmp jo_gt (je_ix (jv 0) je_int (fun _ _ => rfl)) (je_callB jo_len (by rfl) T.f_len (by decide +kernel) (ja_cons (je_ix (jv 0) je_int (fun _ _ => rfl)) ja_nil)) (nomark _)) (jw_or1 (jt_cmp jo_lt (jv 2) (je_op jo_pow je_int je_int) (nomark _))))) (jss_cons (js_set (i := 3) sc__law_draw.nd rfl (Or.inl rfl) (je_op jo_mod (je_callTy jo_int (by rfl) T.f_int (by decide +kernel) (ja_cons (je_op jo_add (je_op jo_add (je_op jo_mul (jv 2) je_int) (je_op jo_mul (je_ix (jv 0) je_int (fun _ _ => rfl)) je_int)) (je_ix (jv 0) je_int (fun _ _ => rfl))) ja_nil)) je_int))
      (jss_cons (js_set (i := 4) sc__law_draw.nd rfl (Or.inl rfl) (je_op jo_mod (je_callTy jo_int (by rfl) T.f_int (by decide +kernel) (ja_cons (je_op jo_add (je_op jo_mul (jv 3) (jv 3)) (je_op jo_mul (je_ix (jv 0) je_int (fun _ _ => rfl)) je_int)) ja_nil)) je_int))
      (jss_one (js_ret (je_op jo_mod (je_op jo_fdiv (je_op jo_mod (je_callTy jo_int (by rfl) T.f_int (by decide +kernel) (ja_cons (je_op jo_add (je_op jo_mul (jv 4) je_int) (jv 3)) ja_nil)) je_int) je_int) (jv 1)))))) jss_nil)
      (jss_one (js_setIx (jv 2) (jv 0) je_int)))))) jss_nil)
      (jss_cons (js_set (i := 5) sc__law_draw.nd rfl (Or.inl rfl) (je_op jo_mod (je_callTy jo_int (by rfl) T.f_int (by decide +kernel) (ja_cons (je_ix (jv 0) je_int (fun _ _ => rfl)) ja_nil)) (jv 1)))
      (jss_cons (js_setIx (je_op jo_fdiv (je_callTy jo_int (by rfl) T.f_int (by decide +kernel) (ja_cons (je_ix (jv 0) je_int (fun _ _ => rfl)) ja_nil)) (jv 1)) (jv 0) je_int)
      (jss_one (js_ret (jv 5))))))) w__law_draw))
theorem ok__law_field (T : Tx P K mg) : FnF P w K mg base "_law_field" 1 xfields ph__law_field := by
  obtain ⟨f, fd, hm, F⟩ := T.g__law_field
  exact fn_F (v := v__law_field) hm F sc__law_field (FunD.bindsN F fun _ _ _ _ _ _ us hl => match us, hl with | [_], _ => rfl) l__law_field (fun cdv A outer s H p C dd hr hz hf hx =>
    (jss_cons (js_if (jt_cmp (jo_inL) (je_xf List.mem_cons_self hx (by decide +kernel) hz hf (jv 0)) (je_tup (ja_cons je_str (ja_cons je_str (ja_cons je_str ja_nil)))) (by rfl)) (jss_one (js_ret (je_xf List.mem_cons_self hx (by decide +kernel) hz hf (jv 0)))) jss_nil)
      (jss_cons (js_if (jt_cmp (jo_inL) (je_xf List.mem_cons_self hx (by decide +kernel) hz hf (jv 0)) (je_tup (ja_cons je_str (ja_cons je_str (ja_cons je_str (ja_cons je_str ja_nil))))) (by rfl)) (jss_one (js_ret (je_xf List.mem_cons_self hx (by decide +kernel) hz hf (jv 0)))) jss_nil)
      (jss_cons (js_if (jt_cmp (jo_inL) (je_xf List.mem_cons_self hx (by decide +kernel) hz hf (jv 0)) (je_tup (ja_cons je_str (ja_cons je_str (ja_cons je_str ja_nil)))) (by rfl)) (jss_one (js_ret (je_xf List.mem_cons_self hx (by decide +kernel) hz hf (jv 0)))) jss_nil)
      (jss_cons (js_if (jt_cmp (jo_inL) (je_xf List.mem_cons_self hx (by decide +kernel) hz hf (jv 0)) (je_tup (ja_cons je_str (ja_cons je_str ja_nil))) (by rfl)) (jss_one (js_ret (je_xf List.mem_cons_self hx (by decide +kernel) hz hf (jv 0)))) jss_nil)
      (jss_cons (js_if (jt_cmp (jo_eq hr.units) (je_xf List.mem_cons_self hx (by decide +kernel) hz hf (jv 0)) je_str (nomark _)) (jss_one (js_ret (je_xf List.mem_cons_self hx (by decide +kernel) hz hf (jv 0)))) jss_nil)
      (jss_cons (js_if (jt_cmp (jo_eq hr.units) (je_xf List.mem_cons_self hx (by decide +kernel) hz hf (jv 0)) je_str (nomark _)) (jss_one (js_ret (je_xf List.mem_cons_self hx (by decide +kernel) hz hf (jv 0)))) jss_nil)
      (jss_one (js_ret (je_if (jt_cmp (jo_eq hr.units) (je_xf List.mem_cons_self hx (by decide +kernel) hz hf (jv 0)) je_str (nomark _)) (je_xf List.mem_cons_self hx (by decide +kernel) hz hf (jv 0)) je_non)))))))))) w__law_field
theorem ok__law_gcd (T : Tx P K mg) : Fn P w K mg base "_law_gcd" 1 ph__law_gcd := by
  obtain ⟨f, fd, hm, F⟩ := T.g__law_gcd
  exact Fn.mk1 hm F.kp (FunD.bindsN F fun _ _ _ _ _ _ us hl => match us, hl with | [_, _], _ => rfl) (fn_P (v := v__law_gcd) F sc__law_gcd l__law_gcd (fun cdv A outer s H E hr =>
    (jss_cons (js_par (i := 0) (j := 1) (by rfl) sc__law_gcd.nd rfl rfl (by decide) rfl rfl (ja_cons (je_callB jo_abs (by rfl) T.f_abs (by decide +kernel) (ja_cons (jv 0) ja_nil)) (ja_cons (je_callB jo_abs (by rfl) T.f_abs (by decide +kernel) (ja_cons (jv 1) ja_nil)) ja_nil)) (by rfl))
      (jss_cons (js_while PassesOwn.never (jt_cmp (jo_ne hr.units) (jv 1) je_int (nomark _)) (jss_one (js_par (i := 0) (j := 1) (by rfl) sc__law_gcd.nd rfl rfl (by decide) rfl rfl (ja_cons (jv 1) (ja_cons (je_op jo_mod (je_callTy jo_int (by rfl) T.f_int (by decide +kernel) (ja_cons (jv 0) ja_nil)) (jv 1)) ja_nil)) (by rfl))))
      (jss_one (js_ret (jv 0)))))) w__law_gcd)
theorem ok__law_minus (T : Tx P K mg) : Fn P w K mg base "_law_minus" 1 ph__law_minus := by
  obtain ⟨f, fd, hm, F⟩ := T.g__law_minus
  exact Fn.mk1 hm F.kp (FunD.bindsN F fun _ _ _ _ _ _ us hl => match us, hl with | [_], _ => rfl) (fn_P (v := v__law_minus) F sc__law_minus l__law_minus (fun cdv A outer s H E hr =>
    (jss_one (js_ret (je_tup (ja_cons (je_un jo_neg (je_ix (jv 0) je_int (fun _ _ => rfl))) (ja_cons (je_ix (jv 0) je_int (fun _ _ => rfl)) ja_nil)))))) w__law_minus)
theorem ok__law_under (T : Tx P K mg) : Fn P w K mg base "_law_under" 1 ph__law_under := by
  obtain ⟨f, fd, hm, F⟩ := T.g__law_under
  exact Fn.mk1 hm F.kp (FunD.bindsN F fun _ _ _ _ _ _ us hl => match us, hl with | [_, _], _ => rfl) (fn_P (v := v__law_under) F sc__law_under l__law_under (fun cdv A outer s H E hr =>
    (jss_one (js_ret (je_cmp jo_lt (je_op jo_mul (je_ix (jv 0) je_int (fun _ _ => rfl)) (je_ix (jv 1) je_int (fun _ _ => rfl))) (je_op jo_mul (je_ix (jv 1) je_int (fun _ _ => rfl)) (je_ix (jv 0) je_int (fun _ _ => rfl))) (nomark _))))) w__law_under)
theorem ok__law_strange (T : Tx P K mg) : Fn P w K mg base "_law_strange" 1 ph__law_strange := by
  obtain ⟨f, fd, hm, F⟩ := T.g__law_strange
  exact Fn.mk1 hm F.kp (FunD.bindsN F fun _ _ _ _ _ _ us hl => match us, hl with | [_], _ => rfl) (fn_P (v := v__law_strange) F sc__law_strange l__law_strange (fun cdv A outer s H E hr =>
    (jss_one (js_ret (je_ix (je_lc (own := [("_law_word", 1)]) (vs := [1]) rfl (by decide) rfl sc__law_strange.nd (jf_seq (je_tup (ja_cons je_str (ja_cons je_str (ja_cons je_str (ja_cons je_str (ja_cons je_str (ja_cons je_str (ja_cons je_str (ja_cons je_str (ja_cons je_str (ja_cons je_str ja_nil)))))))))))) (blkOk_by (own := [("_law_word", 1)]) (N := N__law_strange) (sc := defScope sT__law_strange) (by decide +kernel)) (fun _ => (jg_name (i := 1) sc__law_strange.nd rfl (Or.inl rfl))) (fun _ => (jts_one (jt_cmp (jo_notinL) (jv 1) (jv 0) (by rfl)))) (fun _ => (jv 1))) je_int (fun _ _ => rfl))))) w__law_strange)
theorem ok__law_values_of (T : Tx P K mg) : Fn P w K mg base "_law_values_of" 1 ph__law_values_of := by
  obtain ⟨f, fd, hm, F⟩ := T.g__law_values_of
  exact Fn.mk1 hm F.kp (FunD.bindsN F fun _ _ _ _ _ _ us hl => match us, hl with | [_, _], _ => rfl) (fn_P (v := v__law_values_of) F sc__law_values_of l__law_values_of (fun cdv A outer s H E hr =>
    (jss_cons (js_set (i := 2) sc__law_values_of.nd rfl (Or.inl rfl) (je_callTy jo_dictO (by rfl) T.f_dict (by decide +kernel) (ja_cons (jv 0) ja_nil)))
      (jss_cons (js_for PassesOwn.never rfl (jf_keys (jv 1)) (jg_name (i := 3) sc__law_values_of.nd rfl (Or.inl rfl))
      (jss_one (js_dput (hu1 hr.units) (je_dget (hu1 hr.units) (jv 1) (jv 3) (fun _ _ => rfl)) (jv 2) (je_op jo_add (jv 3) je_str))))
      (jss_one (js_ret (je_fz (jv 2))))))) w__law_values_of)
theorem ok_lowest (T : Tx P K mg) : Fn P w K mg base "lowest" 2 ph_lowest := by
  obtain ⟨f, fd, hm, F⟩ := T.g_lowest
  exact Fn.mk1 hm F.kp (FunD.bindsN F fun _ _ _ _ _ _ us hl => match us, hl with | [_, _], _ => rfl) (fn_P (v := v_lowest) F sc_lowest l_lowest (fun cdv A outer s H E hr =>
    (jss_cons (js_set (i := 2) sc_lowest.nd rfl (Or.inl rfl) (je_fn (ok_divisor T) (hr.mono (by decide)) (by rfl) (ja_cons (jv 0) (ja_cons (jv 1) ja_nil))))
      (jss_cons (js_if (jt_cmp jo_lt (jv 1) je_int (nomark _)) (jss_one (js_set (i := 2) sc_lowest.nd rfl (Or.inl rfl) (je_un jo_neg (jv 2)))) jss_nil)
      (jss_one (js_ret (je_tup (ja_cons (je_op jo_fdiv (jv 0) (jv 2)) (ja_cons (je_op jo_fdiv (jv 1) (jv 2)) ja_nil)))))))) w_lowest)
theorem ok_is_ratio (T : Tx P K mg) : Fn P w K mg base "is_ratio" 2 ph_is_ratio := by
  obtain ⟨f, fd, hm, F⟩ := T.g_is_ratio
  exact Fn.mk1 hm F.kp (FunD.bindsN F fun _ _ _ _ _ _ us hl => match us, hl with | [_], _ => rfl) (fn_P (v := v_is_ratio) F sc_is_ratio l_is_ratio (fun cdv A outer s H E hr =>
    (jss_cons (js_if (JW.jt (jw_or (jt_not (jt_val (je_isi .tup (by decide) (by decide +kernel) (by rfl) T.f_isinstance (by rfl) T.f_tuple (jv 0)))) (jw_or (jt_cmp (jo_ne hr.units) (je_callB jo_len (by rfl) T.f_len (by decide +kernel) (ja_cons (jv 0) ja_nil)) je_int (nomark _)) (jw_or (jt_not (jt_val (je_fn (ok_is_whole T) (hr.mono (by decide)) (by rfl) (ja_cons (je_ix (jv 0) je_int (fun _ _ => rfl)) ja_nil)))) (jw_or1 (jt_not (jt_val (je_fn (ok_is_whole T) (hr.mono (by decide)) (by rfl) (ja_cons (je_ix (jv 0) je_int (fun _ _ => rfl)) ja_nil))))))))) (jss_one (js_ret je_bl)) jss_nil)
      (jss_one (js_ret (je_and (je_cmp jo_gt (je_ix (jv 0) je_int (fun _ _ => rfl)) je_int (nomark _)) (je_one (je_cmp (jo_eq hr.units) (je_fn (ok_divisor T) (hr.mono (by decide)) (by rfl) (ja_cons (je_ix (jv 0) je_int (fun _ _ => rfl)) (ja_cons (je_ix (jv 0) je_int (fun _ _ => rfl)) ja_nil))) je_int (nomark _)))))))) w_is_ratio)
theorem ok_equal_ties (T : Tx P K mg) : Fn P w K mg base "equal_ties" 2 ph_equal_ties := by
  obtain ⟨f, fd, hm, F⟩ := T.g_equal_ties
  exact Fn.mk1 hm F.kp (FunD.bindsN F fun _ _ _ _ _ _ us hl => match us, hl with | [_, _], _ => rfl) (fn_P (v := v_equal_ties) F sc_equal_ties l_equal_ties (fun cdv A outer s H E hr =>
    (jss_cons (js_set (i := 2) sc_equal_ties.nd rfl (Or.inl rfl) (je_tup (ja_cons (je_tup (ja_cons (jv 0) (ja_cons (je_gtup (vs := [1, 1].map V.int) (ds := [1, 1].map D.int) (by rfl) T.c_ONE (RpL.intsG _)) ja_nil))) (ja_cons (je_tup (ja_cons (jv 1) (ja_cons (je_tup (ja_cons (je_un jo_neg je_int) (ja_cons je_int ja_nil))) ja_nil))) ja_nil))))
      (jss_one (js_ret (je_lst (ja_cons (je_tup (ja_cons (jv 2) (ja_cons (je_gtup (vs := [0, 1].map V.int) (ds := [0, 1].map D.int) (by rfl) T.c_ZERO (RpL.intsG _)) ja_nil))) (ja_cons (je_tup (ja_cons (je_callTy jo_tuple (by rfl) T.f_tuple (by decide +kernel) (ja_cons (je_lc (own := [("name", 3), ("rate", 4)]) (vs := [3, 4]) rfl (by decide) rfl sc_equal_ties.nd (jf_seq (jv 2)) (blkOk_by (own := [("name", 3), ("rate", 4)]) (N := N_equal_ties) (sc := defScope sT_equal_ties) (by decide +kernel)) (fun _ => (jg_tup rfl (jgs_cons (jg_name (i := 3) sc_equal_ties.nd rfl (Or.inl rfl)) (jgs_cons (jg_name (i := 4) sc_equal_ties.nd rfl (Or.inl rfl)) jgs_nil)))) (fun _ => jts_nil) (fun _ => (je_tup (ja_cons (jv 3) (ja_cons (je_fn (ok_negative T) (hr.mono (by decide)) (by rfl) (ja_cons (jv 4) ja_nil)) ja_nil))))) ja_nil)) (ja_cons (je_gtup (vs := [0, 1].map V.int) (ds := [0, 1].map D.int) (by rfl) T.c_ZERO (RpL.intsG _)) ja_nil))) ja_nil))))))) w_equal_ties)
theorem ok__law_any (T : Tx P K mg) : Fn P w K mg base "_law_any" 2 ph__law_any := by
  obtain ⟨f, fd, hm, F⟩ := T.g__law_any
  exact Fn.mk1 hm F.kp (FunD.bindsN F fun _ _ _ _ _ _ us hl => match us, hl with | [_, _], _ => rfl) (fn_P (v := v__law_any) F sc__law_any l__law_any (fun cdv A outer s H E hr =>
    (jss_one (js_ret (je_ix (jv 1) (je_fn (ok__law_draw T) (hr.mono (by decide)) (by rfl) (ja_cons (jv 0) (ja_cons (je_callB jo_len (by rfl) T.f_len (by decide +kernel) (ja_cons (jv 1) ja_nil)) ja_nil))) (fun _ _ => rfl))))) w__law_any)
theorem ok__law_low (T : Tx P K mg) : Fn P w K mg base "_law_low" 2 ph__law_low := by
  obtain ⟨f, fd, hm, F⟩ := T.g__law_low
  exact Fn.mk1 hm F.kp (FunD.bindsN F fun _ _ _ _ _ _ us hl => match us, hl with | [_, _], _ => rfl) (fn_P (v := v__law_low) F sc__law_low l__law_low (fun cdv A outer s H E hr =>
    (jss_cons (js_set (i := 2) sc__law_low.nd rfl (Or.inl rfl) (je_fn (ok__law_gcd T) (hr.mono (by decide)) (by rfl) (ja_cons (jv 0) (ja_cons (jv 1) ja_nil))))
      (jss_cons (js_if (jt_cmp jo_lt (jv 1) je_int (nomark _)) (jss_one (js_set (i := 2) sc__law_low.nd rfl (Or.inl rfl) (je_un jo_neg (jv 2)))) jss_nil)
      (jss_one (js_ret (je_tup (ja_cons (je_op jo_fdiv (jv 0) (jv 2)) (ja_cons (je_op jo_fdiv (jv 1) (jv 2)) ja_nil)))))))) w__law_low)
theorem ok__law_words (T : Tx P K mg) : Fn P w K mg base "_law_words" 2 ph__law_words := by
  obtain ⟨f, fd, hm, F⟩ := T.g__law_words
  exact Fn.mk1 hm F.kp (FunD.bindsN F fun _ _ _ _ _ _ us hl => match us, hl with | [_, _], _ => rfl) (fn_P (v := v__law_words) F sc__law_words l__law_words (fun cdv A outer s H E hr =>
    (jss_cons (js_set (i := 2) sc__law_words.nd rfl (Or.inr rfl) je_str)
      (jss_cons (js_set (i := 3) sc__law_words.nd rfl (Or.inr rfl) (je_join je_str (je_lc (own := [("_law_k", 8)]) (vs := [8]) rfl (by decide) rfl sc__law_words.nd (jf_rng1 rfl T.f_range (ja_cons (je_fn (ok__law_draw T) (hr.mono (by decide)) (by rfl) (ja_cons (jv 0) (ja_cons je_int ja_nil))) ja_nil)) (blkOk_by (own := [("_law_k", 8)]) (N := N__law_words) (sc := defScope sT__law_words) (by decide +kernel)) (fun _ => (jg_name (i := 8) sc__law_words.nd rfl (Or.inl rfl))) (fun _ => jts_nil) (fun _ => (je_ix (jv 2) (je_fn (ok__law_draw T) (hr.mono (by decide)) (by rfl) (ja_cons (jv 0) (ja_cons je_int ja_nil))) (fun _ _ => rfl))))))
      (jss_cons (js_asg (je_tup (ja_cons (je_fn (ok__law_draw T) (hr.mono (by decide)) (by rfl) (ja_cons (jv 0) (ja_cons (je_op jo_add (je_callB jo_len (by rfl) T.f_len (by decide +kernel) (ja_cons (jv 3) ja_nil)) je_int) ja_nil))) (ja_cons (je_fn (ok__law_draw T) (hr.mono (by decide)) (by rfl) (ja_cons (jv 0) (ja_cons je_int ja_nil))) (ja_cons (je_fn (ok__law_draw T) (hr.mono (by decide)) (by rfl) (ja_cons (jv 0) (ja_cons je_int ja_nil))) ja_nil)))) (jg_tup rfl (jgs_cons (jg_name (i := 4) sc__law_words.nd rfl (Or.inr rfl)) (jgs_cons (jg_name (i := 5) sc__law_words.nd rfl (Or.inr rfl)) (jgs_cons (jg_name (i := 6) sc__law_words.nd rfl (Or.inl rfl)) jgs_nil)))))
      (jss_cons (js_setLc (i := 7) rfl (sw_true rfl rfl rfl (by decide +kernel)) rfl (own := [("_law_k", 8)]) (vs := [8]) rfl (by decide) rfl sc__law_words.nd (jf_rng1 rfl T.f_range (ja_cons (jv 1) ja_nil)) (blkOk_by (own := [("_law_k", 8)]) (N := N__law_words) (sc := defScope sT__law_words) (by decide +kernel)) (fun _ => (jg_name (i := 8) sc__law_words.nd rfl (Or.inl rfl))) (fun _ => jts_nil) (fun _ => (je_op jo_add (je_op jo_add (je_sl (jv 3) jp_no (jp_some (jv 4))) (je_ix (jv 2) (je_op jo_mod (je_callTy jo_int (by rfl) T.f_int (by decide +kernel) (ja_cons (je_op jo_add (jv 5) (je_op jo_mul je_int (jv 8))) ja_nil)) je_int) (fun _ _ => rfl))) (je_sl (jv 3) (jp_some (jv 4)) jp_no))))
      (jss_cons (js_if (jt_cmp (jo_eq hr.units) (jv 6) je_int (nomark _)) (jss_cons (js_setLc (i := 7) rfl (sw_true rfl rfl rfl (by decide +kernel)) rfl (own := [("_law_k", 8)]) (vs := [8]) rfl (by decide) rfl sc__law_words.nd (jf_rng1 rfl T.f_range (ja_cons (jv 1) ja_nil)) (blkOk_by (own := [("_law_k", 8)]) (N := N__law_words) (sc := defScope sT__law_words) (by decide +kernel)) (fun _ => (jg_name (i := 8) sc__law_words.nd rfl (Or.inl rfl))) (fun _ => jts_nil) (fun _ => (je_sl (je_op jo_add (je_sl (jv 3) jp_no (jp_some je_int)) (je_op jo_mul (je_ix (jv 2) (je_op jo_mod (je_callTy jo_int (by rfl) T.f_int (by decide +kernel) (ja_cons (je_op jo_add (jv 5) (je_op jo_mul je_int (jv 8))) ja_nil)) je_int) (fun _ _ => rfl)) (je_op jo_add je_int (je_op jo_mod (je_callTy jo_int (by rfl) T.f_int (by decide +kernel) (ja_cons (je_op jo_add (jv 8) (jv 5)) ja_nil)) je_int)))) (jp_some (je_un jo_neg je_int)) jp_no)))
      (jss_one (js_set (i := 7) sc__law_words.nd rfl (Or.inl rfl) (je_if (jt_cmp (jo_eq hr.units) (je_ls (by rfl) (by rfl) T.f_len (by rfl) T.f_sorted (by rfl) T.f_set (jv 7)) (jv 1) (nomark _)) (jv 7) (je_lc (own := [("_law_k", 8)]) (vs := [8]) rfl (by decide) rfl sc__law_words.nd (jf_rng1 rfl T.f_range (ja_cons (jv 1) ja_nil)) (blkOk_by (own := [("_law_k", 8)]) (N := N__law_words) (sc := defScope sT__law_words) (by decide +kernel)) (fun _ => (jg_name (i := 8) sc__law_words.nd rfl (Or.inl rfl))) (fun _ => jts_nil) (fun _ => (je_ix (jv 2) (je_op jo_mod (je_callTy jo_int (by rfl) T.f_int (by decide +kernel) (ja_cons (je_op jo_add (jv 5) (je_op jo_mul je_int (jv 8))) ja_nil)) je_int) (fun _ _ => rfl)))))))) jss_nil)
      (jss_one (js_ret (jv 7))))))))) w__law_words)
theorem ok__law_value_ties (T : Tx P K mg) : Fn P w K mg base "_law_value_ties" 2 ph__law_value_ties := by
  obtain ⟨f, fd, hm, F⟩ := T.g__law_value_ties
  exact Fn.mk1 hm F.kp (FunD.bindsN F fun _ _ _ _ _ _ us hl => match us, hl with | [_, _], _ => rfl) (fn_P (v := v__law_value_ties) F sc__law_value_ties l__law_value_ties (fun cdv A outer s H E hr =>
    (jss_one (js_ret (je_lst (ja_cons (je_tup (ja_cons (jv 0) (ja_cons (jv 1) ja_nil))) (ja_cons (je_tup (ja_cons (je_callTy jo_tuple (by rfl) T.f_tuple (by decide +kernel) (ja_cons (je_lc (own := [("_law_name", 2), ("_law_rate_here", 3)]) (vs := [2, 3]) rfl (by decide) rfl sc__law_value_ties.nd (jf_seq (jv 0)) (blkOk_by (own := [("_law_name", 2), ("_law_rate_here", 3)]) (N := N__law_value_ties) (sc := defScope sT__law_value_ties) (by decide +kernel)) (fun _ => (jg_tup rfl (jgs_cons (jg_name (i := 2) sc__law_value_ties.nd rfl (Or.inl rfl)) (jgs_cons (jg_name (i := 3) sc__law_value_ties.nd rfl (Or.inl rfl)) jgs_nil)))) (fun _ => jts_nil) (fun _ => (je_tup (ja_cons (jv 2) (ja_cons (je_fn (ok__law_minus T) (hr.mono (by decide)) (by rfl) (ja_cons (jv 3) ja_nil)) ja_nil))))) ja_nil)) (ja_cons (je_fn (ok__law_minus T) (hr.mono (by decide)) (by rfl) (ja_cons (jv 1) ja_nil)) ja_nil))) ja_nil)))))) w__law_value_ties)
theorem ok_add (T : Tx P K mg) : Fn P w K mg base "add" 3 ph_add := by
  obtain ⟨f, fd, hm, F⟩ := T.g_add
  exact Fn.mk1 hm F.kp (FunD.bindsN F fun _ _ _ _ _ _ us hl => match us, hl with | [_, _], _ => rfl) (fn_P (v := v_add) F sc_add l_add (fun cdv A outer s H E hr =>
    (jss_one (js_ret (je_fn (ok_lowest T) (hr.mono (by decide)) (by rfl) (ja_cons (je_op jo_add (je_op jo_mul (je_ix (jv 0) je_int (fun _ _ => rfl)) (je_ix (jv 1) je_int (fun _ _ => rfl))) (je_op jo_mul (je_ix (jv 1) je_int (fun _ _ => rfl)) (je_ix (jv 0) je_int (fun _ _ => rfl)))) (ja_cons (je_op jo_mul (je_ix (jv 0) je_int (fun _ _ => rfl)) (je_ix (jv 1) je_int (fun _ _ => rfl))) ja_nil)))))) w_add)
theorem ok_multiply (T : Tx P K mg) : Fn P w K mg base "multiply" 3 ph_multiply := by
  obtain ⟨f, fd, hm, F⟩ := T.g_multiply
  exact Fn.mk1 hm F.kp (FunD.bindsN F fun _ _ _ _ _ _ us hl => match us, hl with | [_, _], _ => rfl) (fn_P (v := v_multiply) F sc_multiply l_multiply (fun cdv A outer s H E hr =>
    (jss_one (js_ret (je_fn (ok_lowest T) (hr.mono (by decide)) (by rfl) (ja_cons (je_op jo_mul (je_ix (jv 0) je_int (fun _ _ => rfl)) (je_ix (jv 1) je_int (fun _ _ => rfl))) (ja_cons (je_op jo_mul (je_ix (jv 0) je_int (fun _ _ => rfl)) (je_ix (jv 1) je_int (fun _ _ => rfl))) ja_nil)))))) w_multiply)
theorem ok_are_terms (T : Tx P K mg) : Fn P w K mg base "are_terms" 3 ph_are_terms := by
  obtain ⟨f, fd, hm, F⟩ := T.g_are_terms
  exact Fn.mk1 hm F.kp (FunD.bindsN F fun _ _ _ _ _ _ us hl => match us, hl with | [_], _ => rfl) (fn_P (v := v_are_terms) F sc_are_terms l_are_terms (fun cdv A outer s H E hr =>
    (jss_cons (js_if (JW.jt (jw_or (jt_not (jt_val (je_isi .tup (by decide) (by decide +kernel) (by rfl) T.f_isinstance (by rfl) T.f_tuple (jv 0)))) (jw_or1 (jt_not (jt_chain jo_le jo_le je_int (je_callB jo_len (by rfl) T.f_len (by decide +kernel) (ja_cons (jv 0) ja_nil)) je_int))))) (jss_one (js_ret je_bl)) jss_nil)
      (jss_cons (js_for PassesOwn.never rfl (jf_seq (jv 0)) (jg_name (i := 1) sc_are_terms.nd rfl (Or.inl rfl))
      (jss_cons (js_if (JW.jt (jw_or (jt_not (jt_val (je_isi .tup (by decide) (by decide +kernel) (by rfl) T.f_isinstance (by rfl) T.f_tuple (jv 1)))) (jw_or (jt_cmp (jo_ne hr.units) (je_callB jo_len (by rfl) T.f_len (by decide +kernel) (ja_cons (jv 1) ja_nil)) je_int (nomark _)) (jw_or (jt_not (jt_val (je_isi .str (by decide) (by decide +kernel) (by rfl) T.f_isinstance (by rfl) T.f_str (je_ix (jv 1) je_int (fun _ _ => rfl))))) (jw_or1 (jt_not (jt_val (je_fn (ok_is_name T) (hr.mono (by decide)) (by rfl) (ja_cons (je_ix (jv 1) je_int (fun _ _ => rfl)) ja_nil))))))))) (jss_one (js_ret je_bl)) jss_nil)
      (jss_one (js_if (JW.jt (jw_or (jt_not (jt_val (je_fn (ok_is_ratio T) (hr.mono (by decide)) (by rfl) (ja_cons (je_ix (jv 1) je_int (fun _ _ => rfl)) ja_nil)))) (jw_or1 (jt_cmp (jo_eq hr.units) (je_ix (je_ix (jv 1) je_int (fun _ _ => rfl)) je_int (fun _ _ => rfl)) je_int (nomark _))))) (jss_one (js_ret je_bl)) jss_nil))))
      (jss_one (js_ret (je_or (je_cmp (jo_eq hr.units) (je_callB jo_len (by rfl) T.f_len (by decide +kernel) (ja_cons (jv 0) ja_nil)) je_int (nomark _)) (je_one (je_cmp jo_lt (je_ix (je_ix (jv 0) je_int (fun _ _ => rfl)) je_int (fun _ _ => rfl)) (je_ix (je_ix (jv 0) je_int (fun _ _ => rfl)) je_int (fun _ _ => rfl)) (nomark _))))))))) w_are_terms)
theorem ok__law_plus (T : Tx P K mg) : Fn P w K mg base "_law_plus" 3 ph__law_plus := by
  obtain ⟨f, fd, hm, F⟩ := T.g__law_plus
  exact Fn.mk1 hm F.kp (FunD.bindsN F fun _ _ _ _ _ _ us hl => match us, hl with | [_, _], _ => rfl) (fn_P (v := v__law_plus) F sc__law_plus l__law_plus (fun cdv A outer s H E hr =>
    (jss_one (js_ret (je_fn (ok__law_low T) (hr.mono (by decide)) (by rfl) (ja_cons (je_op jo_add (je_op jo_mul (je_ix (jv 0) je_int (fun _ _ => rfl)) (je_ix (jv 1) je_int (fun _ _ => rfl))) (je_op jo_mul (je_ix (jv 1) je_int (fun _ _ => rfl)) (je_ix (jv 0) je_int (fun _ _ => rfl)))) (ja_cons (je_op jo_mul (je_ix (jv 0) je_int (fun _ _ => rfl)) (je_ix (jv 1) je_int (fun _ _ => rfl))) ja_nil)))))) w__law_plus)
theorem ok__law_by (T : Tx P K mg) : Fn P w K mg base "_law_by" 3 ph__law_by := by
  obtain ⟨f, fd, hm, F⟩ := T.g__law_by
  exact Fn.mk1 hm F.kp (FunD.bindsN F fun _ _ _ _ _ _ us hl => match us, hl with | [_, _], _ => rfl) (fn_P (v := v__law_by) F sc__law_by l__law_by (fun cdv A outer s H E hr =>
    (jss_one (js_ret (je_fn (ok__law_low T) (hr.mono (by decide)) (by rfl) (ja_cons (je_op jo_mul (je_ix (jv 0) je_int (fun _ _ => rfl)) (je_ix (jv 1) je_int (fun _ _ => rfl))) (ja_cons (je_op jo_mul (je_ix (jv 0) je_int (fun _ _ => rfl)) (je_ix (jv 1) je_int (fun _ _ => rfl))) ja_nil)))))) w__law_by)
theorem ok__law_rate (T : Tx P K mg) : Fn P w K mg base "_law_rate" 3 ph__law_rate := by
  obtain ⟨f, fd, hm, F⟩ := T.g__law_rate
  exact Fn.mk1 hm F.kp (FunD.bindsN F fun _ _ _ _ _ _ us hl => match us, hl with | [_], _ => rfl) (fn_P (v := v__law_rate) F sc__law_rate l__law_rate (fun cdv A outer s H E hr =>
    (jss_one (js_ret (je_fn (ok__law_any T) (hr.mono (by decide)) (by rfl) (ja_cons (jv 0) (ja_cons (je_lst (ja_cons (je_tup (ja_cons je_int (ja_cons je_int ja_nil))) (ja_cons (je_tup (ja_cons (je_un jo_neg je_int) (ja_cons je_int ja_nil))) (ja_cons (je_tup (ja_cons je_int (ja_cons je_int ja_nil))) (ja_cons (je_tup (ja_cons je_int (ja_cons je_int ja_nil))) (ja_cons (je_tup (ja_cons (je_un jo_neg je_int) (ja_cons je_int ja_nil))) (ja_cons (je_tup (ja_cons je_int (ja_cons je_int ja_nil))) (ja_cons (je_tup (ja_cons je_int (ja_cons je_int ja_nil))) (ja_cons (je_tup (ja_cons (je_un jo_neg je_int) (ja_cons je_int ja_nil))) (ja_cons (je_tup (ja_cons (je_un jo_neg je_int) (ja_cons je_int ja_nil))) (ja_cons (je_tup (ja_cons je_int (ja_cons je_int ja_nil))) ja_nil))))))))))) ja_nil)))))) w__law_rate)
theorem ok__law_point (T : Tx P K mg) : Fn P w K mg base "_law_point" 3 ph__law_point := by
  obtain ⟨f, fd, hm, F⟩ := T.g__law_point
  exact Fn.mk1 hm F.kp (FunD.bindsN F fun _ _ _ _ _ _ us hl => match us, hl with | [_, _], _ => rfl) (fn_P (v := v__law_point) F sc__law_point l__law_point (fun cdv A outer s H E hr =>
    (jss_one (js_ret (je_callTy (jo_dict rfl) (by rfl) T.f_dict (by decide +kernel) (ja_cons (je_lc (own := [("_law_name", 2)]) (vs := [2]) rfl (by decide) rfl sc__law_point.nd (jf_seq (jv 1)) (blkOk_by (own := [("_law_name", 2)]) (N := N__law_point) (sc := defScope sT__law_point) (by decide +kernel)) (fun _ => (jg_name (i := 2) sc__law_point.nd rfl (Or.inl rfl))) (fun _ => jts_nil) (fun _ => (je_tup (ja_cons (jv 2) (ja_cons (je_fn (ok__law_any T) (hr.mono (by decide)) (by rfl) (ja_cons (jv 0) (ja_cons (je_lst (ja_cons (je_tup (ja_cons je_int (ja_cons je_int ja_nil))) (ja_cons (je_tup (ja_cons je_int (ja_cons je_int ja_nil))) (ja_cons (je_tup (ja_cons je_int (ja_cons je_int ja_nil))) (ja_cons (je_tup (ja_cons (je_un jo_neg je_int) (ja_cons je_int ja_nil))) (ja_cons (je_tup (ja_cons je_int (ja_cons je_int ja_nil))) (ja_cons (je_tup (ja_cons je_int (ja_cons je_int ja_nil))) (ja_cons (je_tup (ja_cons (je_un jo_neg je_int) (ja_cons je_int ja_nil))) ja_nil)))))))) ja_nil))) ja_nil))))) ja_nil))))) w__law_point)
theorem ok__law_stay_ties (T : Tx P K mg) : Fn P w K mg base "_law_stay_ties" 3 ph__law_stay_ties := by
  obtain ⟨f, fd, hm, F⟩ := T.g__law_stay_ties
  exact Fn.mk1 hm F.kp (FunD.bindsN F fun _ _ _ _ _ _ us hl => match us, hl with | [_], _ => rfl) (fn_P (v := v__law_stay_ties) F sc__law_stay_ties l__law_stay_ties (fun cdv A outer s H E hr =>
    (jss_cons (js_set (i := 1) sc__law_stay_ties.nd rfl (Or.inl rfl) (je_lst ja_nil))
      (jss_cons (js_for PassesOwn.never rfl (jf_seq (je_callB jo_sortA (by rfl) T.f_sorted (by decide +kernel) (ja_cons (jv 0) ja_nil))) (jg_name (i := 2) sc__law_stay_ties.nd rfl (Or.inl rfl))
      (jss_one (js_set (i := 1) sc__law_stay_ties.nd rfl (Or.inl rfl) (je_op jo_add (jv 1) (je_fn (ok__law_value_ties T) (hr.mono (by decide)) (by rfl) (ja_cons (je_tup (ja_cons (je_tup (ja_cons (jv 2) (ja_cons (je_tup (ja_cons je_int (ja_cons je_int ja_nil))) ja_nil))) (ja_cons (je_tup (ja_cons (je_op jo_add (jv 2) je_str) (ja_cons (je_tup (ja_cons (je_un jo_neg je_int) (ja_cons je_int ja_nil))) ja_nil))) ja_nil))) (ja_cons (je_tup (ja_cons je_int (ja_cons je_int ja_nil))) ja_nil)))))))
      (jss_one (js_ret (jv 1)))))) w__law_stay_ties)
theorem ok_is_tie (T : Tx P K mg) : Fn P w K mg base "is_tie" 4 ph_is_tie := by
  obtain ⟨f, fd, hm, F⟩ := T.g_is_tie
  exact Fn.mk1 hm F.kp (FunD.bindsN F fun _ _ _ _ _ _ us hl => match us, hl with | [_], _ => rfl) (fn_P (v := v_is_tie) F sc_is_tie l_is_tie (fun cdv A outer s H E hr =>
    (jss_cons (js_if (JW.jt (jw_or (jt_not (jt_val (je_isi .tup (by decide) (by decide +kernel) (by rfl) T.f_isinstance (by rfl) T.f_tuple (jv 0)))) (jw_or (jt_cmp (jo_ne hr.units) (je_callB jo_len (by rfl) T.f_len (by decide +kernel) (ja_cons (jv 0) ja_nil)) je_int (nomark _)) (jw_or1 (jt_not (jt_val (je_fn (ok_is_ratio T) (hr.mono (by decide)) (by rfl) (ja_cons (je_ix (jv 0) je_int (fun _ _ => rfl)) ja_nil)))))))) (jss_one (js_ret je_bl)) jss_nil)
      (jss_one (js_ret (je_fn (ok_are_terms T) (hr.mono (by decide)) (by rfl) (ja_cons (je_ix (jv 0) je_int (fun _ _ => rfl)) ja_nil)))))) w_is_tie)
theorem ok_sum_at (T : Tx P K mg) : Fn P w K mg base "sum_at" 4 ph_sum_at := by
  obtain ⟨f, fd, hm, F⟩ := T.g_sum_at
  exact Fn.mk1 hm F.kp (FunD.bindsN F fun _ _ _ _ _ _ us hl => match us, hl with | [_, _], _ => rfl) (fn_P (v := v_sum_at) F sc_sum_at l_sum_at (fun cdv A outer s H E hr =>
    (jss_cons (js_set (i := 2) sc_sum_at.nd rfl (Or.inl rfl) (je_gtup (vs := [0, 1].map V.int) (ds := [0, 1].map D.int) (by rfl) T.c_ZERO (RpL.intsG _)))
      (jss_cons (js_for PassesOwn.never rfl (jf_seq (jv 0)) (jg_tup rfl (jgs_cons (jg_name (i := 3) sc_sum_at.nd rfl (Or.inl rfl)) (jgs_cons (jg_name (i := 4) sc_sum_at.nd rfl (Or.inl rfl)) jgs_nil)))
      (jss_one (js_set (i := 2) sc_sum_at.nd rfl (Or.inl rfl) (je_fn (ok_add T) (hr.mono (by decide)) (by rfl) (ja_cons (jv 2) (ja_cons (je_fn (ok_multiply T) (hr.mono (by decide)) (by rfl) (ja_cons (jv 4) (ja_cons (je_dget (hu1 hr.units) (jv 1) (jv 3) (fun _ _ => rfl)) ja_nil))) ja_nil))))))
      (jss_one (js_ret (jv 2)))))) w_sum_at)
theorem ok__law_total (T : Tx P K mg) : Fn P w K mg base "_law_total" 4 ph__law_total := by
  obtain ⟨f, fd, hm, F⟩ := T.g__law_total
  exact Fn.mk1 hm F.kp (FunD.bindsN F fun _ _ _ _ _ _ us hl => match us, hl with | [_, _], _ => rfl) (fn_P (v := v__law_total) F sc__law_total l__law_total (fun cdv A outer s H E hr =>
    (jss_cons (js_set (i := 2) sc__law_total.nd rfl (Or.inl rfl) (je_tup (ja_cons je_int (ja_cons je_int ja_nil))))
      (jss_cons (js_for PassesOwn.never rfl (jf_seq (jv 0)) (jg_tup rfl (jgs_cons (jg_name (i := 3) sc__law_total.nd rfl (Or.inl rfl)) (jgs_cons (jg_name (i := 4) sc__law_total.nd rfl (Or.inl rfl)) jgs_nil)))
      (jss_one (js_set (i := 2) sc__law_total.nd rfl (Or.inl rfl) (je_fn (ok__law_plus T) (hr.mono (by decide)) (by rfl) (ja_cons (jv 2) (ja_cons (je_fn (ok__law_by T) (hr.mono (by decide)) (by rfl) (ja_cons (jv 4) (ja_cons (je_dget (hu1 hr.units) (jv 1) (jv 3) (fun _ _ => rfl)) ja_nil))) ja_nil))))))
      (jss_one (js_ret (jv 2)))))) w__law_total)
theorem ok__law_step_ties (T : Tx P K mg) : Fn P w K mg base "_law_step_ties" 4 ph__law_step_ties := by
  obtain ⟨f, fd, hm, F⟩ := T.g__law_step_ties
  exact Fn.mk1 hm F.kp (FunD.bindsN F fun _ _ _ _ _ _ us hl => match us, hl with | [_, _, _], _ => rfl) (fn_P (v := v__law_step_ties) F sc__law_step_ties l__law_step_ties (fun cdv A outer s H E hr =>
    (jss_cons (js_set (i := 3) sc__law_step_ties.nd rfl (Or.inl rfl) (je_lstO ja_nil))
      (jss_cons (js_for PassesOwn.never rfl (jf_rng1 rfl T.f_range (ja_cons (je_fn (ok__law_draw T) (hr.mono (by decide)) (by rfl) (ja_cons (jv 0) (ja_cons (je_op jo_add (jv 2) je_int) ja_nil))) ja_nil)) (jg_name (i := 4) sc__law_step_ties.nd rfl (Or.inl rfl))
      (jss_cons (js_par3 (i := 5) (j := 6) (l := 7) (by rfl) sc__law_step_ties.nd rfl rfl rfl (by decide) (by decide) (by decide) rfl rfl rfl (ja_cons (je_fn (ok__law_any T) (hr.mono (by decide)) (by rfl) (ja_cons (jv 0) (ja_cons (jv 1) ja_nil))) (ja_cons (je_fn (ok__law_any T) (hr.mono (by decide)) (by rfl) (ja_cons (jv 0) (ja_cons (jv 1) ja_nil))) (ja_cons (je_fn (ok__law_draw T) (hr.mono (by decide)) (by rfl) (ja_cons (jv 0) (ja_cons je_int ja_nil))) ja_nil))) (by rfl))
      (jss_cons (js_par (i := 8) (j := 9) (by rfl) sc__law_step_ties.nd rfl rfl (by decide) rfl rfl (ja_cons (je_fn (ok__law_rate T) (hr.mono (by decide)) (by rfl) (ja_cons (jv 0) ja_nil)) (ja_cons (je_fn (ok__law_any T) (hr.mono (by decide)) (by rfl) (ja_cons (jv 0) (ja_cons (je_lst (ja_cons (je_tup (ja_cons je_int (ja_cons je_int ja_nil))) (ja_cons (je_tup (ja_cons je_int (ja_cons je_int ja_nil))) (ja_cons (je_tup (ja_cons (je_un jo_neg je_int) (ja_cons je_int ja_nil))) (ja_cons (je_tup (ja_cons je_int (ja_cons je_int ja_nil))) (ja_cons (je_tup (ja_cons je_int (ja_cons je_int ja_nil))) ja_nil)))))) ja_nil))) ja_nil)) (by rfl))
      (jss_cons (js_set (i := 10) sc__law_step_ties.nd rfl (Or.inl rfl) (je_fn (ok__law_any T) (hr.mono (by decide)) (by rfl) (ja_cons (jv 0) (ja_cons (je_lst (ja_cons (je_tup (ja_cons je_int (ja_cons je_int ja_nil))) (ja_cons (je_tup (ja_cons (je_un jo_neg je_int) (ja_cons je_int ja_nil))) ja_nil))) ja_nil))))
      (jss_cons (js_if (jt_cmp (jo_eq hr.units) (jv 7) je_int (nomark _)) (jss_one (js_set (i := 11) sc__law_step_ties.nd rfl (Or.inl rfl) (je_tup (ja_cons (je_tup (ja_cons (jv 6) (ja_cons (jv 8) ja_nil))) ja_nil)))) (jss_one (js_if (jt_cmp (jo_eq hr.units) (jv 7) je_int (nomark _)) (jss_one (js_set (i := 11) sc__law_step_ties.nd rfl (Or.inl rfl) (je_tup (ja_cons (je_tup (ja_cons (je_op jo_add (jv 5) je_str) (ja_cons (jv 10) ja_nil))) ja_nil)))) (jss_one (js_set (i := 11) sc__law_step_ties.nd rfl (Or.inl rfl) (je_callTy jo_tuple (by rfl) T.f_tuple (by decide +kernel) (ja_cons (je_callB jo_sortN (by rfl) T.f_sorted (by decide +kernel) (ja_cons (je_lst (ja_cons (je_tup (ja_cons (je_op jo_add (jv 5) je_str) (ja_cons (jv 10) ja_nil))) (ja_cons (je_tup (ja_cons (jv 6) (ja_cons (je_fn (ok__law_minus T) (hr.mono (by decide)) (by rfl) (ja_cons (jv 8) ja_nil)) ja_nil))) ja_nil))) ja_nil)) ja_nil)))))))
      (jss_cons (js_expr (je_bm PySem.F.plainAttrs_list PySem.F.slot_list_append PySem.F.type_list_append jm_append (jv 3) (ja_cons (je_tup (ja_cons (jv 11) (ja_cons (jv 9) ja_nil))) ja_nil)))
      (jss_one (js_if (jt_cmp jo_gt (jv 7) je_int (nomark _)) (jss_one (js_expr (je_bm PySem.F.plainAttrs_list PySem.F.slot_list_append PySem.F.type_list_append jm_append (jv 3) (ja_cons (je_tup (ja_cons (je_callTy jo_tuple (by rfl) T.f_tuple (by decide +kernel) (ja_cons (je_lc (own := [("_law_name", 12), ("_law_part", 13)]) (vs := [12, 13]) rfl (by decide) rfl sc__law_step_ties.nd (jf_seq (jv 11)) (blkOk_by (own := [("_law_name", 12), ("_law_part", 13)]) (N := N__law_step_ties) (sc := defScope sT__law_step_ties) (by decide +kernel)) (fun _ => (jg_tup rfl (jgs_cons (jg_name (i := 12) sc__law_step_ties.nd rfl (Or.inl rfl)) (jgs_cons (jg_name (i := 13) sc__law_step_ties.nd rfl (Or.inl rfl)) jgs_nil)))) (fun _ => jts_nil) (fun _ => (je_tup (ja_cons (jv 12) (ja_cons (je_fn (ok__law_minus T) (hr.mono (by decide)) (by rfl) (ja_cons (jv 13) ja_nil)) ja_nil))))) ja_nil)) (ja_cons (je_fn (ok__law_minus T) (hr.mono (by decide)) (by rfl) (ja_cons (jv 9) ja_nil)) ja_nil))) ja_nil)))) jss_nil))))))))
      (jss_one (js_ret (je_fz (jv 3))))))) w__law_step_ties)
theorem ok_is_kept (T : Tx P K mg) : Fn P w K mg base "is_kept" 5 ph_is_kept := by
  obtain ⟨f, fd, hm, F⟩ := T.g_is_kept
  exact Fn.mk1 hm F.kp (FunD.bindsN F fun _ _ _ _ _ _ us hl => match us, hl with | [_, _], _ => rfl) (fn_P (v := v_is_kept) F sc_is_kept l_is_kept (fun cdv A outer s H E hr =>
    (jss_one (js_ret (je_not (je_fn (ok_is_less T) (hr.mono (by decide)) (by rfl) (ja_cons (je_ix (jv 0) je_int (fun _ _ => rfl)) (ja_cons (je_fn (ok_sum_at T) (hr.mono (by decide)) (by rfl) (ja_cons (je_ix (jv 0) je_int (fun _ _ => rfl)) (ja_cons (jv 1) ja_nil))) ja_nil))))))) w_is_kept)
theorem okF_Lot___init__ (T : Tx P K mg) : ∃ Ca f fd, mg "Lot" = some (.ref Ca) ∧ L2.Mk K Ca f ∧ FunD K "__init__" "Lot.__init__" (defArgs sT_Lot___init__) (defBody sT_Lot___init__) (defScope sT_Lot___init__) [(He.Dv.v K (.adr (He.dflAt ("Lot", some "__init__") 0)))] [] f fd ∧ FnOk P w K mg base (L2.CX P w) 5 f fd ["self", "names", "ties"] (SpX K mg ph_Lot___init__) := by
  obtain ⟨Ca, f, fd, hm, M, F⟩ := T.g_Lot___init__
  exact ⟨Ca, f, fd, hm, M, F, (fn_X (v := v_Lot___init__) F sc_Lot___init__ l_Lot___init__ (fun cdv A outer s H E hr =>
    (jss_cons (js_set (i := 3) sc_Lot___init__.nd rfl (Or.inr rfl) (je_lstO ja_nil))
      (jss_cons (js_forM (passes_of rfl) rfl (ji_items (jv 1)) (jg_name (i := 4) sc_Lot___init__.nd rfl (Or.inl rfl))
      (jss_cons (js_if (JW.jt (jw_or (jt_not (jt_val (je_fn (ok_is_name T) (hr.mono (by decide)) (by rfl) (ja_cons (jv 4) ja_nil)))) (jw_or1 (jt_cmp (jo_inL) (jv 4) (jv 3) (by rfl))))) (jss_one (js_raise1 rfl (takes_of rfl rfl rfl rfl) (ok_InvalidName T) hr (by rfl) (jv 4))) jss_nil)
      (jss_one (js_expr (je_bm PySem.F.plainAttrs_list PySem.F.slot_list_append PySem.F.type_list_append jm_append (jv 3) (ja_cons (jv 4) ja_nil))))))
      (jss_cons (js_forM (passes_of rfl) rfl (ji_enum (by rfl) T.f_enumerate (ja_cons (jv 2) ja_nil)) (jg_tup rfl (jgs_cons (jg_name (i := 5) sc_Lot___init__.nd rfl (Or.inl rfl)) (jgs_cons (jg_name (i := 6) sc_Lot___init__.nd rfl (Or.inl rfl)) jgs_nil)))
      (jss_one (js_if (JW.jt (jw_or (jt_not (jt_val (je_fn (ok_is_tie T) (hr.mono (by decide)) (by rfl) (ja_cons (jv 6) ja_nil)))) (jw_or1 (jt_not (jt_val (je_callB (jo_all rfl) (by rfl) T.f_all (by decide +kernel) (ja_cons (je_lc (own := [("name", 4)]) (vs := [4]) rfl (by decide) rfl sc_Lot___init__.nd (jf_seq (je_fz (je_fn (ok_names_in T) (hr.mono (by decide)) (by rfl) (ja_cons (jv 6) ja_nil)))) (blkOk_by (own := [("name", 4)]) (N := N_Lot___init__) (sc := defScope sT_Lot___init__) (by decide +kernel)) (fun _ => (jg_name (i := 4) sc_Lot___init__.nd rfl (Or.inl rfl))) (fun _ => jts_nil) (fun _ => (je_cmp (jo_inL) (jv 4) (jv 3) (by rfl)))) ja_nil))))))) (jss_one (js_raise1 rfl (takes_of rfl rfl rfl rfl) (ok_InvalidTie T) hr (by rfl) (jv 5))) jss_nil)))
      (jss_cons (js_fld T.cl_Lot (by decide +kernel) (je_callB jo_sortA (by rfl) T.f_sorted (by decide +kernel) (ja_cons (jv 3) ja_nil)) (jv 0))
      (jss_one (js_fld T.cl_Lot (by decide +kernel) (je_callTy jo_list (by rfl) T.f_list (by decide +kernel) (ja_cons (jv 2) ja_nil)) (jv 0)))))))) w_Lot___init__)⟩
theorem ok_Lot___init__ (T : Tx P K mg) : MkXC P w K mg base "Lot" 5 ph_Lot___init__ := by
  obtain ⟨Ca, f, fd, hm, M, F, G⟩ := okF_Lot___init__ (P := P) (w := w) (base := base) T
  exact MkXC.mk1 hm M (bindsF F (by simp) fun _ _ _ _ _ _ _ us its h1 h2 => match us, its, h1, h2 with | [_, _, _], [_], _, _ => ⟨_, rfl, rfl⟩) G
theorem okF_Step___init__ (T : Tx P K mg) : ∃ Ca f fd, mg "Step" = some (.ref Ca) ∧ L2.Mk K Ca f ∧ FunD K "__init__" "Step.__init__" (defArgs sT_Step___init__) (defBody sT_Step___init__) (defScope sT_Step___init__) [(He.Dv.v K (.adr (He.dflAt ("Step", some "__init__") 0)))] [] f fd ∧ FnOk P w K mg base (L2.CX P w) 5 f fd ["self", "names", "ties"] (SpX K mg ph_Step___init__) := by
  obtain ⟨Ca, f, fd, hm, M, F⟩ := T.g_Step___init__
  exact ⟨Ca, f, fd, hm, M, F, (fn_X (v := v_Step___init__) F sc_Step___init__ l_Step___init__ (fun cdv A outer s H E hr =>
    (jss_cons (js_set (i := 3) sc_Step___init__.nd rfl (Or.inl rfl) (je_lstO ja_nil))
      (jss_cons (js_forM (passes_of rfl) rfl (ji_items (jv 1)) (jg_name (i := 4) sc_Step___init__.nd rfl (Or.inl rfl))
      (jss_cons (js_if (JW.jt (jw_or (jt_not (jt_val (je_fn (ok_is_name T) (hr.mono (by decide)) (by rfl) (ja_cons (jv 4) ja_nil)))) (jw_or (jt_cmp (jo_eq hr.units) (je_sl (jv 4) (jp_some (je_un jo_neg je_int)) jp_no) (je_gstr (by rfl) T.c_NEW) (nomark _)) (jw_or (jt_cmp (jo_inL) (jv 4) (jv 3) (by rfl)) (jw_or1 (jt_cmp (jo_eq hr.units) (je_callB jo_len (by rfl) T.f_len (by decide +kernel) (ja_cons (jv 3) ja_nil)) (je_cv T.cv_Step_MOST (by rfl)) (nomark _))))))) (jss_one (js_raise1 rfl (takes_of rfl rfl rfl rfl) (ok_InvalidName T) hr (by rfl) (jv 4))) jss_nil)
      (jss_one (js_expr (je_bm PySem.F.plainAttrs_list PySem.F.slot_list_append PySem.F.type_list_append jm_append (jv 3) (ja_cons (jv 4) ja_nil))))))
      (jss_frz 3 (jss_cons (js_set (i := 5) sc_Step___init__.nd rfl (Or.inr rfl) (je_op jo_add (jv 3) (je_lc (own := [("name", 4)]) (vs := [4]) rfl (by decide) rfl sc_Step___init__.nd (jf_seq (jv 3)) (blkOk_by (own := [("name", 4)]) (N := N_Step___init__) (sc := defScope sT_Step___init__) (by decide +kernel)) (fun _ => (jg_name (i := 4) sc_Step___init__.nd rfl (Or.inl rfl))) (fun _ => jts_nil) (fun _ => (je_op jo_add (jv 4) (je_gstr (by rfl) T.c_NEW))))))
      (jss_cons (js_forM (passes_of rfl) rfl (ji_enum (by rfl) T.f_enumerate (ja_cons (jv 2) ja_nil)) (jg_tup rfl (jgs_cons (jg_name (i := 6) sc_Step___init__.nd rfl (Or.inl rfl)) (jgs_cons (jg_name (i := 7) sc_Step___init__.nd rfl (Or.inl rfl)) jgs_nil)))
      (jss_one (js_if (JW.jt (jw_or (jt_not (jt_val (je_fn (ok_is_tie T) (hr.mono (by decide)) (by rfl) (ja_cons (jv 7) ja_nil)))) (jw_or1 (jt_not (jt_val (je_callB (jo_all rfl) (by rfl) T.f_all (by decide +kernel) (ja_cons (je_lc (own := [("name", 4)]) (vs := [4]) rfl (by decide) rfl sc_Step___init__.nd (jf_seq (je_fz (je_fn (ok_names_in T) (hr.mono (by decide)) (by rfl) (ja_cons (jv 7) ja_nil)))) (blkOk_by (own := [("name", 4)]) (N := N_Step___init__) (sc := defScope sT_Step___init__) (by decide +kernel)) (fun _ => (jg_name (i := 4) sc_Step___init__.nd rfl (Or.inl rfl))) (fun _ => jts_nil) (fun _ => (je_cmp (jo_inL) (jv 4) (jv 5) (by rfl)))) ja_nil))))))) (jss_one (js_raise1 rfl (takes_of rfl rfl rfl rfl) (ok_InvalidTie T) hr (by rfl) (jv 6))) jss_nil)))
      (jss_cons (js_fld T.cl_Step (by decide +kernel) (je_callB jo_sortA (by rfl) T.f_sorted (by decide +kernel) (ja_cons (jv 3) ja_nil)) (jv 0))
      (jss_one (js_fld T.cl_Step (by decide +kernel) (je_callTy jo_list (by rfl) T.f_list (by decide +kernel) (ja_cons (jv 2) ja_nil)) (jv 0)))))))))) w_Step___init__)⟩
theorem ok_Step___init__ (T : Tx P K mg) : MkXC P w K mg base "Step" 5 ph_Step___init__ := by
  obtain ⟨Ca, f, fd, hm, M, F, G⟩ := okF_Step___init__ (P := P) (w := w) (base := base) T
  exact MkXC.mk1 hm M (bindsF F (by simp) fun _ _ _ _ _ _ _ us its h1 h2 => match us, its, h1, h2 with | [_, _, _], [_], _, _ => ⟨_, rfl, rfl⟩) G
theorem ok_Step___init___ks (T : Tx P K mg) : MkKC P w K mg base "Step" 5 ["ties", "names"] (swapX ph_Step___init__) := by
  obtain ⟨Ca, f, fd, hm, M, F, G⟩ := okF_Step___init__ (P := P) (w := w) (base := base) T
  exact MkKC.swap hm M G (bindsSw F (by simp) fun _ _ _ _ _ _ _ _ _ _ its h => match its, h with | [_], _ => ⟨_, rfl, rfl⟩)
theorem ok_Step___init___d1 (T : Tx P K mg) : MkXC P w K mg base "Step" 5 (fun ds m k x => ph_Step___init__ (ds ++ [.tup []]) m k x) := by
  obtain ⟨Ca, f, fd, hm, M, F, G⟩ := okF_Step___init__ (P := P) (w := w) (base := base) T
  exact MkXC.mkD hm M T.e_Step___init__ (F.binds1 (ps := ["self", "names", "ties"]) 2 0 (by simp) rfl fun _ _ _ _ _ _ _ us its h1 h2 => match us, its, h1, h2 with | [_, _], [_], _, _ => ⟨_, rfl, rfl⟩) G
theorem ok__law_keeps (T : Tx P K mg) : Fn P w K mg base "_law_keeps" 5 ph__law_keeps := by
  obtain ⟨f, fd, hm, F⟩ := T.g__law_keeps
  exact Fn.mk1 hm F.kp (FunD.bindsN F fun _ _ _ _ _ _ us hl => match us, hl with | [_, _], _ => rfl) (fn_P (v := v__law_keeps) F sc__law_keeps l__law_keeps (fun cdv A outer s H E hr =>
    (jss_one (js_ret (je_not (je_fn (ok__law_under T) (hr.mono (by decide)) (by rfl) (ja_cons (je_ix (jv 0) je_int (fun _ _ => rfl)) (ja_cons (je_fn (ok__law_total T) (hr.mono (by decide)) (by rfl) (ja_cons (je_ix (jv 0) je_int (fun _ _ => rfl)) (ja_cons (jv 1) ja_nil))) ja_nil))))))) w__law_keeps)
theorem ok_Step_allows (T : Tx P K mg) : Mt0 P w K mg base "Step" "allows" 6 ph_Step_allows := by
  obtain ⟨Ca, f, fd, hm, c, M, F⟩ := T.g_Step_allows
  exact Mt0.mk1 hm c M (FunD.bindsN F fun _ _ _ _ _ _ us hl => match us, hl with | [_, _, _], _ => rfl) (fn_P (v := v_Step_allows) F sc_Step_allows l_Step_allows (fun cdv A outer s H E hr =>
    (jss_cons (js_set (i := 3) sc_Step_allows.nd rfl (Or.inr rfl) (je_fz (je_spread (jv 1) (je_dc (own := [("name", 4)]) (vs := [4]) rfl (by decide) rfl sc_Step_allows.nd (jf_seq (je_fld T.cl_Step (by decide +kernel) (jv 0))) (blkOk_by (own := [("name", 4)]) (N := N_Step_allows) (sc := defScope sT_Step_allows) (by decide +kernel)) (fun _ => (jg_name (i := 4) sc_Step_allows.nd rfl (Or.inl rfl))) (fun _ => jts_nil) (fun _ => (je_op jo_add (jv 4) (je_gstr (by rfl) T.c_NEW))) (fun _ => (je_dget (hu1 hr.units) (jv 2) (jv 4) (fun _ _ => rfl)))))))
      (jss_one (js_ret (je_callB (jo_all rfl) (by rfl) T.f_all (by decide +kernel) (ja_cons (je_lc (own := [("tie", 5)]) (vs := [5]) rfl (by decide) rfl sc_Step_allows.nd (jf_seq (je_fld T.cl_Step (by decide +kernel) (jv 0))) (blkOk_by (own := [("tie", 5)]) (N := N_Step_allows) (sc := defScope sT_Step_allows) (by decide +kernel)) (fun _ => (jg_name (i := 5) sc_Step_allows.nd rfl (Or.inl rfl))) (fun _ => jts_nil) (fun _ => (je_fn (ok_is_kept T) (hr.mono (by decide)) (by rfl) (ja_cons (jv 5) (ja_cons (jv 3) ja_nil))))) ja_nil)))))) w_Step_allows)
theorem ok_Step_stay (T : Tx P K mg) : SmX P w K mg base "Step" "stay" 7 ph_Step_stay := by
  obtain ⟨Ca, p, g, fd, hm, r, c, F⟩ := T.g_Step_stay.ex
  exact SmX.mk1 hm r c (FunD.bindsN F fun _ _ _ _ _ _ us hl => match us, hl with | [_], _ => rfl) (fn_X (v := v_Step_stay) F sc_Step_stay l_Step_stay (fun cdv A outer s H E hr =>
    (jss_cons (js_set (i := 1) sc_Step_stay.nd rfl (Or.inl rfl) (je_lstO ja_nil))
      (jss_cons (js_for (passes_of rfl) rfl (jf_seq (je_callB jo_sortA (by rfl) T.f_sorted (by decide +kernel) (ja_cons (jv 0) ja_nil))) (jg_name (i := 2) sc_Step_stay.nd rfl (Or.inl rfl))
      (jss_one (js_expr (je_bm PySem.F.plainAttrs_list PySem.F.slot_list_extend PySem.F.type_list_extend jm_extend (jv 1) (ja_cons (je_fn (ok_equal_ties T) (hr.mono (by decide)) (by rfl) (ja_cons (jv 2) (ja_cons (je_op jo_add (jv 2) (je_gstr (by rfl) T.c_NEW)) ja_nil))) ja_nil)))))
      (jss_one (js_ret (je_makeX (takes_of rfl rfl rfl rfl) (ok_Step___init__ T) (hr.mono (by decide)) (by rfl) (ja_cons (jv 0) (ja_cons (jv 1) ja_nil)))))))) w_Step_stay)
theorem ok_Step_lot (T : Tx P K mg) : MtX P w K mg base "Step" "lot" 7 ph_Step_lot := by
  obtain ⟨Ca, f, fd, hm, c, M, F⟩ := T.g_Step_lot
  exact MtX.mk1 hm c M (FunD.bindsN F fun _ _ _ _ _ _ us hl => match us, hl with | [_], _ => rfl) (fn_X (v := v_Step_lot) F sc_Step_lot l_Step_lot (fun cdv A outer s H E hr =>
    (jss_one (js_ret (je_makeX (takes_of rfl rfl rfl rfl) (ok_Lot___init__ T) (hr.mono (by decide)) (by rfl) (ja_cons (je_meth0 (ok_Step_all_names T) (hr.mono (by decide)) (jv 0)) (ja_cons (je_fld T.cl_Step (by decide +kernel) (jv 0)) ja_nil)))))) w_Step_lot)
theorem ok__law_why (T : Tx P K mg) : FnL P w K mg base "_law_why" 7 3 v__law_why := by
  obtain ⟨f, fd, hm, F⟩ := T.g__law_why
  obtain ⟨C0_0, C0_1, n0_0, n0_1, mt0⟩ := T.m_0
  obtain ⟨C1_0, n1_0, mt1⟩ := T.m_1
  exact ⟨f, fd, "_law_ask", _, _, _, _, _, hm, F, (FunD.bindsN F fun _ _ _ _ _ _ us hl => match us, hl with | [_], _ => rfl), sc__law_why, rfl, Or.inl rfl, by decide, by decide, rfl, fun cdv A outer s H ask hr act =>
    (jss_cons (js_set (i := 1) sc__law_why.nd rfl (Or.inl rfl) (je_tup (ja_cons je_str (ja_cons je_non ja_nil))))
      (jss_cons (js_try (i := 2) (ns := xfields) rfl rfl sc__law_why.nd rfl rfl takes_none5 (fun W' pn xe tk ps =>
      (jss_one (js_set (i := 1) sc__law_why.nd rfl (Or.inl rfl) (je_tup (ja_cons je_str (ja_cons (act _ _ _ _ _ tk) ja_nil))))))
      (JHs.cons (Ce.two ⟨by rfl, by decide, Or.inl n0_0⟩ ⟨by rfl, by decide, Or.inl n0_1⟩) mt0 (fun a dd C oe pn hz hf hx =>
      (jss_one (js_set (i := 1) sc__law_why.nd rfl (Or.inl rfl) (je_tup (ja_cons (je_xf List.mem_cons_self hx (by decide +kernel) hz hf (jv 2)) (ja_cons (je_fnF (ok__law_field T) (roomM (L2H.roomH_of (hr.mono (by decide)))) List.mem_cons_self hz hf hx (by rfl) (ja_cons (jv 2) ja_nil)) ja_nil))))))
      (JHs.cons (Ce.one ⟨by rfl, by decide, Or.inl n1_0⟩) mt1 (fun a dd C oe pn hz hf hx =>
      (jss_one (js_set (i := 1) sc__law_why.nd rfl (Or.inl rfl) (je_tup (ja_cons (je_xf List.mem_cons_self hx (by decide +kernel) hz hf (jv 2)) (ja_cons je_non ja_nil))))))
      JHs.nil)))
      (jss_one (js_ret (jv 1)))))⟩
theorem ok__law_errors (T : Tx P K mg) : FnE P w K mg base "_law_errors" "_law_why" 7 2 1 v__law_errors := by
  obtain ⟨f, fd, hm, F⟩ := T.g__law_errors
  exact ⟨f, fd, "_law_asks", "_law_ask", _, _, _, _, _, hm, F, (FunD.bindsN F fun _ _ _ _ _ _ us hl => match us, hl with | [_], _ => rfl), sc__law_errors, rfl, fun cdv A outer s H ask hr act =>
    (jss_one (js_ret (je_lc (own := [("_law_ask", 1)]) (vs := [1]) rfl (by decide) rfl sc__law_errors.nd (jf_seq (jv 0)) (blkOk_by (own := [("_law_ask", 1)]) (N := N__law_errors) (sc := defScope sT__law_errors) (by decide +kernel)) (fun _ => (jg_name (i := 1) sc__law_errors.nd rfl (Or.inl rfl))) (fun _ => jts_nil) (fun _ => (act _ _ _ _ _ rfl rfl rfl rfl rfl hr (by rfl) (jv 1))))))⟩
theorem ok__law_same (T : Tx P K mg) : ∀ n : Nat, Fn P w K mg base "_law_same" (n + 1) (ph__law_same n)
  | 0 => by
    obtain ⟨f, fd, hm, F⟩ := T.g__law_same
    have ih : Fn P w K mg base "_law_same" 0 (fun _ _ _ => False) := ⟨f, hm, F.kp, fun _ _ _ _ _ _ _ _ _ _ _ ⟨_, _, _, _, _, _, _, z, _⟩ => z.elim⟩
    exact Fn.mk1 hm F.kp (FunD.bindsN F fun _ _ _ _ _ _ us hl => match us, hl with | [_, _], _ => rfl) (fn_P (v := v__law_same (fun _ _ _ => False)) F sc__law_same (l__law_same _) (fun cdv A outer s H E hr =>
    (jss_cons (js_if (jt_cmp jo_is (jv 1) je_non (nomark _)) (jss_one (js_ret (je_cmp jo_is (jv 0) je_non (nomark _)))) jss_nil)
      (jss_cons (js_if (JW.jt (jw_or (jt_val (je_isi .bl (by decide) (by decide +kernel) (by rfl) T.f_isinstance (by rfl) T.f_bool (jv 1))) (jw_or1 (jt_val (je_isi .bl (by decide) (by decide +kernel) (by rfl) T.f_isinstance (by rfl) T.f_bool (jv 0)))))) (jss_one (js_ret (je_and (je_isi .bl (by decide) (by decide +kernel) (by rfl) T.f_isinstance (by rfl) T.f_bool (jv 1)) (je_and (je_isi .bl (by decide) (by decide +kernel) (by rfl) T.f_isinstance (by rfl) T.f_bool (jv 0)) (je_one (je_cmp (jo_eq hr.units) (jv 0) (jv 1) (nomark _))))))) jss_nil)
      (jss_cons (js_if (jt_val (je_isi2 .int .str (by decide) (by decide) (by decide +kernel) (by decide +kernel) (by rfl) T.f_isinstance (by rfl) T.f_int (by rfl) T.f_str (jv 1))) (jss_one (js_ret (je_and (je_isi2 .int .str (by decide) (by decide) (by decide +kernel) (by decide +kernel) (by rfl) T.f_isinstance (by rfl) T.f_int (by rfl) T.f_str (jv 0)) (je_and (je_cmp (jo_eq hr.units) (je_isi .int (by decide) (by decide +kernel) (by rfl) T.f_isinstance (by rfl) T.f_int (jv 0)) (je_isi .int (by decide) (by decide +kernel) (by rfl) T.f_isinstance (by rfl) T.f_int (jv 1)) (nomark _)) (je_one (je_cmp (jo_eq hr.units) (jv 0) (jv 1) (nomark _))))))) jss_nil)
      (jss_cons (js_if (jt_val (je_isi .dic (by decide) (by decide +kernel) (by rfl) T.f_isinstance (by rfl) T.f_dict (jv 1))) jss_never jss_nil)
      (jss_cons (js_if (JW.jt (jw_or (jt_cmp (jo_ne hr.units) (je_isi .lst (by decide) (by decide +kernel) (by rfl) T.f_isinstance (by rfl) T.f_list (jv 1)) (je_isi .lst (by decide) (by decide +kernel) (by rfl) T.f_isinstance (by rfl) T.f_list (jv 0)) (nomark _)) (jw_or1 (jt_cmp (jo_ne hr.units) (je_isi .tup (by decide) (by decide +kernel) (by rfl) T.f_isinstance (by rfl) T.f_tuple (jv 1)) (je_isi .tup (by decide) (by decide +kernel) (by rfl) T.f_isinstance (by rfl) T.f_tuple (jv 0)) (nomark _))))) (jss_one (js_ret je_bl)) jss_nil)
      (jss_one (js_ret (je_and (je_cmp (jo_eq hr.units) (je_callB jo_len (by rfl) T.f_len (by decide +kernel) (ja_cons (jv 0) ja_nil)) (je_callB jo_len (by rfl) T.f_len (by decide +kernel) (ja_cons (jv 1) ja_nil)) (nomark _)) (je_one (je_callB (jo_all rfl) (by rfl) T.f_all (by decide +kernel) (ja_cons (je_lc (own := [("_law_one", 3), ("_law_two", 4)]) (vs := [3, 4]) rfl (by decide) rfl sc__law_same.nd (jf_zip (by rfl) T.f_zip (ja_cons (jv 0) (ja_cons (jv 1) ja_nil))) (blkOk_by (own := [("_law_one", 3), ("_law_two", 4)]) (N := N__law_same) (sc := defScope sT__law_same) (by decide +kernel)) (fun _ => (jg_tup rfl (jgs_cons (jg_name (i := 3) sc__law_same.nd rfl (Or.inl rfl)) (jgs_cons (jg_name (i := 4) sc__law_same.nd rfl (Or.inl rfl)) jgs_nil)))) (fun _ => jts_nil) (fun _ => (je_fn (ih) (hr.mono (by omega)) (by rfl) (ja_cons (jv 3) (ja_cons (jv 4) ja_nil))))) ja_nil)))))))))))) (w__law_same_0))
  | n + 1 => by
    obtain ⟨f, fd, hm, F⟩ := T.g__law_same
    have ih : Fn P w K mg base "_law_same" (n + 1) (ph__law_same n) := ok__law_same T n
    exact Fn.mk1 hm F.kp (FunD.bindsN F fun _ _ _ _ _ _ us hl => match us, hl with | [_, _], _ => rfl) (fn_P (v := v__law_same (ph__law_same n)) F sc__law_same (l__law_same _) (fun cdv A outer s H E hr =>
    (jss_cons (js_if (jt_cmp jo_is (jv 1) je_non (nomark _)) (jss_one (js_ret (je_cmp jo_is (jv 0) je_non (nomark _)))) jss_nil)
      (jss_cons (js_if (JW.jt (jw_or (jt_val (je_isi .bl (by decide) (by decide +kernel) (by rfl) T.f_isinstance (by rfl) T.f_bool (jv 1))) (jw_or1 (jt_val (je_isi .bl (by decide) (by decide +kernel) (by rfl) T.f_isinstance (by rfl) T.f_bool (jv 0)))))) (jss_one (js_ret (je_and (je_isi .bl (by decide) (by decide +kernel) (by rfl) T.f_isinstance (by rfl) T.f_bool (jv 1)) (je_and (je_isi .bl (by decide) (by decide +kernel) (by rfl) T.f_isinstance (by rfl) T.f_bool (jv 0)) (je_one (je_cmp (jo_eq hr.units) (jv 0) (jv 1) (nomark _))))))) jss_nil)
      (jss_cons (js_if (jt_val (je_isi2 .int .str (by decide) (by decide) (by decide +kernel) (by decide +kernel) (by rfl) T.f_isinstance (by rfl) T.f_int (by rfl) T.f_str (jv 1))) (jss_one (js_ret (je_and (je_isi2 .int .str (by decide) (by decide) (by decide +kernel) (by decide +kernel) (by rfl) T.f_isinstance (by rfl) T.f_int (by rfl) T.f_str (jv 0)) (je_and (je_cmp (jo_eq hr.units) (je_isi .int (by decide) (by decide +kernel) (by rfl) T.f_isinstance (by rfl) T.f_int (jv 0)) (je_isi .int (by decide) (by decide +kernel) (by rfl) T.f_isinstance (by rfl) T.f_int (jv 1)) (nomark _)) (je_one (je_cmp (jo_eq hr.units) (jv 0) (jv 1) (nomark _))))))) jss_nil)
      (jss_cons (js_if (jt_val (je_isi .dic (by decide) (by decide +kernel) (by rfl) T.f_isinstance (by rfl) T.f_dict (jv 1))) jss_never jss_nil)
      (jss_cons (js_if (JW.jt (jw_or (jt_cmp (jo_ne hr.units) (je_isi .lst (by decide) (by decide +kernel) (by rfl) T.f_isinstance (by rfl) T.f_list (jv 1)) (je_isi .lst (by decide) (by decide +kernel) (by rfl) T.f_isinstance (by rfl) T.f_list (jv 0)) (nomark _)) (jw_or1 (jt_cmp (jo_ne hr.units) (je_isi .tup (by decide) (by decide +kernel) (by rfl) T.f_isinstance (by rfl) T.f_tuple (jv 1)) (je_isi .tup (by decide) (by decide +kernel) (by rfl) T.f_isinstance (by rfl) T.f_tuple (jv 0)) (nomark _))))) (jss_one (js_ret je_bl)) jss_nil)
      (jss_one (js_ret (je_and (je_cmp (jo_eq hr.units) (je_callB jo_len (by rfl) T.f_len (by decide +kernel) (ja_cons (jv 0) ja_nil)) (je_callB jo_len (by rfl) T.f_len (by decide +kernel) (ja_cons (jv 1) ja_nil)) (nomark _)) (je_one (je_callB (jo_all rfl) (by rfl) T.f_all (by decide +kernel) (ja_cons (je_lc (own := [("_law_one", 3), ("_law_two", 4)]) (vs := [3, 4]) rfl (by decide) rfl sc__law_same.nd (jf_zip (by rfl) T.f_zip (ja_cons (jv 0) (ja_cons (jv 1) ja_nil))) (blkOk_by (own := [("_law_one", 3), ("_law_two", 4)]) (N := N__law_same) (sc := defScope sT__law_same) (by decide +kernel)) (fun _ => (jg_tup rfl (jgs_cons (jg_name (i := 3) sc__law_same.nd rfl (Or.inl rfl)) (jgs_cons (jg_name (i := 4) sc__law_same.nd rfl (Or.inl rfl)) jgs_nil)))) (fun _ => jts_nil) (fun _ => (je_fn (ih) (hr.mono (by omega)) (by rfl) (ja_cons (jv 3) (ja_cons (jv 4) ja_nil))))) ja_nil)))))))))))) (w__law_same n))
def lms_law : List Lmd := [(lamAt (exK (stV (stAt (stB (stAt (defBody sT_law) 1)) 13)) 0) none), (lamAt (exK (stV (stAt (stB (stAt (defBody sT_law) 1)) 13)) 1) (some "_law_a")), (lamAt (exK (stV (stAt (stB (stAt (defBody sT_law) 1)) 13)) 2) (some "_law_b")), (lamAt (exK (stV (stAt (stB (stAt (defBody sT_law) 1)) 14)) 0) (some "_law_c"))]
theorem ok_law {f c Pt : Addr} {fd : FuncData} (T : Tx P K mg) (F : FnP K "law" sT_law f fd) (hc : fd.code = .ref c) (TB : LamX.TabB base mg c Pt) : FnOk P w K mg base CX0 11 f fd ["_law_script"] (SpLawT K Pt) :=
  fn_lawT (v := fun Pt s m G => ∀ Pl, v_law Pl Pt s m G) (q := lamQ "law") F sc_law hc (fun A outer s H E hr =>
    have hL : ∀ (j : Nat) (L : Lmd), lms_law[j]? = some L → ∃ ve : VE, v_law_lams[j]? = some ve ∧ LmdK (cxOf CX0 P w K mg base N_law "law" (defScope sT_law) f (.ref c) A outer s H E).nox 7 L ve := (lmk_cons ⟨(lamV_by (N := N_law) (sc := defScope sT_law) (by decide +kernel)), (fun _ _ _ _ _ _ => rfl), fun A outer s H E f c' hr =>
      (je_makeX (takes_of rfl rfl rfl rfl) (ok_Step___init__ T) (hr.mono (by decide)) (by rfl) (ja_cons (je_op jo_add (je_op jo_add (je_sl (jv 3) jp_no (jp_some (jv 14))) (je_lst (ja_cons (jv 15) ja_nil))) (je_sl (jv 3) (jp_some (jv 14)) jp_no)) (ja_cons (jv 18) ja_nil)))⟩
    (lmk_cons ⟨(lamV_by (N := N_law) (sc := defScope sT_law) (by decide +kernel)), (fun _ _ _ _ _ _ _ => ⟨_, rfl, fun _ => rfl⟩), fun A outer s H E f c' hr =>
      (je_makeX (takes_of rfl rfl rfl rfl) (ok_Step___init__ T) (hr.mono (by decide)) (by rfl) (ja_cons (jv 3) (ja_cons (jv 18) ja_nil)))⟩
    (lmk_cons ⟨(lamV_by (N := N_law) (sc := defScope sT_law) (by decide +kernel)), (fun _ _ _ _ _ _ _ => ⟨_, rfl, fun _ => rfl⟩), fun A outer s H E f c' hr =>
      (je_makeX (takes_of rfl rfl rfl rfl) (ok_Step___init___d1 T) (hr.mono (by decide)) (by rfl) (ja_cons (je_lst (ja_cons je_str (ja_cons je_str (ja_cons je_str (ja_cons je_str ja_nil))))) ja_nil))⟩
    (lmk_cons ⟨(lamV_by (N := N_law) (sc := defScope sT_law) (by decide +kernel)), (fun _ _ _ _ _ _ _ => ⟨_, rfl, fun _ => rfl⟩), fun A outer s H E f c' hr =>
      (je_smethX (takes_of rfl rfl rfl rfl) (ok_Step_stay T) (hr.mono (by decide)) (by rfl) (ja_cons (je_lst (ja_cons je_str (ja_cons je_str ja_nil))) ja_nil))⟩
    lmk_nil))))
    JSs.imp (v1 := v_law (LmdP (envOfC "law" (defScope sT_law) s.heap.objs.size f (.ref c)).cells (lamQ "law") lms_law) Pt) ((jss_cons (js_set (i := 1) sc_law.nd rfl (Or.inl rfl) (je_fn (ok__law_feed T) (hr.mono (by decide)) (by rfl) (ja_cons (jv 0) ja_nil)))
      (jss_cons (js_for PassesOwn.never rfl (jf_rng1 rfl T.f_range (ja_cons je_int ja_nil)) (jg_name (i := 2) sc_law.nd rfl (Or.inl rfl))
      (jss_cons (js_set (i := 3) sc_law.nd rfl (Or.inr rfl) (je_fn (ok__law_words T) (hr.mono (by decide)) (by rfl) (ja_cons (jv 1) (ja_cons (je_op jo_add je_int (je_fn (ok__law_draw T) (hr.mono (by decide)) (by rfl) (ja_cons (jv 1) (ja_cons je_int ja_nil)))) ja_nil))))
      (jss_cons (js_set (i := 4) sc_law.nd rfl (Or.inl rfl) (je_fn (ok__law_step_ties T) (hr.mono (by decide)) (by rfl) (ja_cons (jv 1) (ja_cons (jv 3) (ja_cons je_int ja_nil)))))
      (jss_cons (js_set (i := 5) sc_law.nd rfl (Or.inl rfl) (je_if (jt_cmp (jo_eq hr.units) (je_fn (ok__law_draw T) (hr.mono (by decide)) (by rfl) (ja_cons (jv 1) (ja_cons je_int ja_nil))) je_int (nomark _)) (je_makeX takes_none5 (ok_Step___init__ T) (hr.mono (by decide)) (by rfl) (ja_cons (jv 3) (ja_cons (jv 4) ja_nil))) (je_makeK takes_none5 (ok_Step___init___ks T) (hr.mono (by decide)) (by rfl) (jk_cons (je_callTy jo_tuple (by rfl) T.f_tuple (by decide +kernel) (ja_cons (jv 4) ja_nil)) (jk_cons (je_callTy jo_tuple (by rfl) T.f_tuple (by decide +kernel) (ja_cons (jv 3) ja_nil)) jk_nil)))))
      (jss_cons (js_set (i := 6) sc_law.nd rfl (Or.inl rfl) (je_callB jo_sortA (by rfl) T.f_sorted (by decide +kernel) (ja_cons (je_op jo_add (jv 3) (je_lc (own := [("_law_name", 20)]) (vs := [20]) rfl (by decide) rfl sc_law.nd (jf_seq (jv 3)) (blkOk_by (own := [("_law_name", 20)]) (N := N_law) (sc := defScope sT_law) (by decide +kernel)) (fun _ => (jg_name (i := 20) sc_law.nd rfl (Or.inl rfl))) (fun _ => jts_nil) (fun _ => (je_op jo_add (jv 20) je_str)))) ja_nil)))
      (jss_cons (js_set (i := 7) sc_law.nd rfl (Or.inl rfl) (je_lst (ja_cons (je_fz (je_meth0 (ok_Step_names T) (hr.mono (by decide)) (jv 5))) (ja_cons (je_fz (je_meth0 (ok_Step_ties T) (hr.mono (by decide)) (jv 5))) (ja_cons (je_fz (je_meth0 (ok_Lot_names T) (hr.mono (by decide)) (je_methX0 takes_none5 (ok_Step_lot T) (hr.mono (by decide)) (jv 5)))) (ja_cons (je_fz (je_meth0 (ok_Lot_ties T) (hr.mono (by decide)) (je_methX0 takes_none5 (ok_Step_lot T) (hr.mono (by decide)) (jv 5)))) (ja_cons (je_callB (jo_lenI (ok_Step___len__ T) (hr.mono (by decide))) (by rfl) T.f_len (by decide +kernel) (ja_cons (jv 5) ja_nil)) (ja_cons (je_callB (jo_reprI (ok_Step___repr__ T) (hr.mono (by decide))) (by rfl) T.f_repr (by decide +kernel) (ja_cons (jv 5) ja_nil)) (ja_cons (je_cv T.cv_Step_MOST (by rfl)) ja_nil)))))))))
      (jss_cons (js_set (i := 8) sc_law.nd rfl (Or.inl rfl) (je_op jo_add (je_op jo_add (je_op jo_add (je_op jo_add je_str (je_callTy jo_str (by rfl) T.f_str (by decide +kernel) (ja_cons (je_callB jo_len (by rfl) T.f_len (by decide +kernel) (ja_cons (jv 3) ja_nil)) ja_nil))) je_str) (je_callTy jo_str (by rfl) T.f_str (by decide +kernel) (ja_cons (je_callB jo_len (by rfl) T.f_len (by decide +kernel) (ja_cons (jv 4) ja_nil)) ja_nil))) je_str))
      (jss_cons (js_if (jt_not (jt_val (je_fn (ok__law_same T 8) (hr.mono (by decide)) (by rfl) (ja_cons (jv 7) (ja_cons (je_lst (ja_cons (je_callB jo_sortA (by rfl) T.f_sorted (by decide +kernel) (ja_cons (jv 3) ja_nil)) (ja_cons (jv 4) (ja_cons (jv 6) (ja_cons (jv 4) (ja_cons (je_callB jo_len (by rfl) T.f_len (by decide +kernel) (ja_cons (jv 4) ja_nil)) (ja_cons (jv 8) (ja_cons je_int ja_nil)))))))) ja_nil))))) (jss_one (js_ret je_bl)) jss_nil)
      (jss_cons (js_for PassesOwn.never rfl (jf_rng1 rfl T.f_range (ja_cons je_int ja_nil)) (jg_name (i := 9) sc_law.nd rfl (Or.inl rfl))
      (jss_cons (js_asg (je_tup (ja_cons (je_fn (ok__law_point T) (hr.mono (by decide)) (by rfl) (ja_cons (jv 1) (ja_cons (jv 3) ja_nil))) (ja_cons (je_fn (ok__law_point T) (hr.mono (by decide)) (by rfl) (ja_cons (jv 1) (ja_cons (jv 3) ja_nil))) ja_nil))) (jg_tup rfl (jgs_cons (jg_name (i := 10) sc_law.nd rfl (Or.inr rfl)) (jgs_cons (jg_name (i := 11) sc_law.nd rfl (Or.inr rfl)) jgs_nil))))
      (jss_cons (js_set (i := 12) sc_law.nd rfl (Or.inl rfl) (je_callB (jo_all rfl) (by rfl) T.f_all (by decide +kernel) (ja_cons (je_lc (own := [("_law_tie", 21)]) (vs := [21]) rfl (by decide) rfl sc_law.nd (jf_seq (jv 4)) (blkOk_by (own := [("_law_tie", 21)]) (N := N_law) (sc := defScope sT_law) (by decide +kernel)) (fun _ => (jg_name (i := 21) sc_law.nd rfl (Or.inl rfl))) (fun _ => jts_nil) (fun _ => (je_fn (ok__law_keeps T) (hr.mono (by decide)) (by rfl) (ja_cons (jv 21) (ja_cons (je_fn (ok__law_values_of T) (hr.mono (by decide)) (by rfl) (ja_cons (jv 10) (ja_cons (jv 11) ja_nil))) ja_nil))))) ja_nil)))
      (jss_cons (js_set (i := 13) sc_law.nd rfl (Or.inl rfl) (je_smethX takes_none5 (ok_Step_stay T) (hr.mono (by decide)) (by rfl) (ja_cons (jv 3) ja_nil)))
      (jss_one (js_if (jt_not (jt_val (je_fn (ok__law_same T 8) (hr.mono (by decide)) (by rfl) (ja_cons (je_lst (ja_cons (je_meth (ok_Step_allows T) (hr.mono (by decide)) (jv 5) (ja_cons (jv 10) (ja_cons (jv 11) ja_nil))) (ja_cons (je_meth (ok_Step_allows T) (hr.mono (by decide)) (jv 13) (ja_cons (jv 10) (ja_cons (jv 11) ja_nil))) (ja_cons (je_meth (ok_Step_allows T) (hr.mono (by decide)) (jv 13) (ja_cons (jv 11) (ja_cons (jv 11) ja_nil))) ja_nil)))) (ja_cons (je_lst (ja_cons (jv 12) (ja_cons (je_cmp (jo_eqK hr.units) (jv 10) (jv 11) (nomark _)) (ja_cons je_bl ja_nil)))) ja_nil))))) (jss_one (js_ret je_bl)) jss_nil))))))
      (jss_cons (js_if (JW.jt (jw_or (jt_not (jt_val (je_fn (ok__law_same T 8) (hr.mono (by decide)) (by rfl) (ja_cons (je_fz (je_meth0 (ok_Step_ties T) (hr.mono (by decide)) (je_smethX takes_none5 (ok_Step_stay T) (hr.mono (by decide)) (by rfl) (ja_cons (je_rev (jv 3)) ja_nil)))) (ja_cons (je_fn (ok__law_stay_ties T) (hr.mono (by decide)) (by rfl) (ja_cons (jv 3) ja_nil)) ja_nil))))) (jw_or (jt_cmp (jo_eqI (ok_Step___eq__ T) (hr.mono (by decide))) (jv 5) (jv 4) (nomark _)) (jw_or1 (jt_cmp (jo_neI (ok_Step___eq__ T) T.ne_Step (hr.mono (by decide))) (jv 5) (je_makeX takes_none5 (ok_Step___init__ T) (hr.mono (by decide)) (by rfl) (ja_cons (jv 3) (ja_cons (jv 4) ja_nil))) (nomark _)))))) (jss_one (js_ret je_bl)) jss_nil)
      (jss_cons (js_asg (je_tup (ja_cons (je_fn (ok__law_draw T) (hr.mono (by decide)) (by rfl) (ja_cons (jv 1) (ja_cons (je_op jo_add (je_callB jo_len (by rfl) T.f_len (by decide +kernel) (ja_cons (jv 3) ja_nil)) je_int) ja_nil))) (ja_cons (je_fn (ok__law_any T) (hr.mono (by decide)) (by rfl) (ja_cons (jv 1) (ja_cons (je_lst (ja_cons je_str (ja_cons je_str (ja_cons je_str (ja_cons je_str (ja_cons (je_op jo_add (je_ix (jv 3) je_int (fun _ _ => rfl)) je_str) ja_nil)))))) ja_nil))) ja_nil))) (jg_tup rfl (jgs_cons (jg_name (i := 14) sc_law.nd rfl (Or.inr rfl)) (jgs_cons (jg_name (i := 15) sc_law.nd rfl (Or.inr rfl)) jgs_nil))))
      (jss_cons (js_set (i := 16) sc_law.nd rfl (Or.inl rfl) (je_fn (ok__law_any T) (hr.mono (by decide)) (by rfl) (ja_cons (jv 1) (ja_cons (je_lst (ja_cons je_non (ja_cons (je_tup (ja_cons (je_tup (ja_cons (je_tup (ja_cons (je_fn (ok__law_strange T) (hr.mono (by decide)) (by rfl) (ja_cons (jv 3) ja_nil)) (ja_cons (je_tup (ja_cons je_int (ja_cons je_int ja_nil))) ja_nil))) ja_nil)) (ja_cons (je_tup (ja_cons je_int (ja_cons je_int ja_nil))) ja_nil))) (ja_cons (je_tup (ja_cons (je_tup (ja_cons (je_tup (ja_cons (je_op jo_add (je_ix (jv 3) je_int (fun _ _ => rfl)) je_str) (ja_cons (je_tup (ja_cons je_int (ja_cons je_int ja_nil))) ja_nil))) ja_nil)) (ja_cons (je_tup (ja_cons je_int (ja_cons je_int ja_nil))) ja_nil))) (ja_cons (je_tup ja_nil) ja_nil))))) ja_nil))))
      (jss_cons (js_set (i := 17) sc_law.nd rfl (Or.inl rfl) (je_fn (ok__law_draw T) (hr.mono (by decide)) (by rfl) (ja_cons (jv 1) (ja_cons (je_op jo_add (je_callB jo_len (by rfl) T.f_len (by decide +kernel) (ja_cons (jv 4) ja_nil)) je_int) ja_nil))))
      (jss_cons (js_set (i := 18) sc_law.nd rfl (Or.inr rfl) (je_op jo_add (je_op jo_add (je_sl (jv 4) jp_no (jp_some (jv 17))) (je_lst (ja_cons (jv 16) ja_nil))) (je_sl (jv 4) (jp_some (jv 17)) jp_no)))
      (jss_cons (js_set (i := 19) sc_law.nd rfl (Or.inl rfl) (je_lstO (ja_cons (je_lamV0 (L := (lamAt (exK (stV (stAt (stB (stAt (defBody sT_law) 1)) 13)) 0) none)) TB rfl (lamV_by (N := N_law) (sc := defScope sT_law) (by decide +kernel)) rfl rfl (fun _ h => ⟨_, rfl, h⟩)) (ja_cons (je_lamV1 (L := (lamAt (exK (stV (stAt (stB (stAt (defBody sT_law) 1)) 13)) 1) (some "_law_a"))) TB rfl (lamV_by (N := N_law) (sc := defScope sT_law) (by decide +kernel)) rfl rfl pe_int rfl (fun _ h => ⟨_, rfl, h⟩)) (ja_cons (je_lamV1 (L := (lamAt (exK (stV (stAt (stB (stAt (defBody sT_law) 1)) 13)) 2) (some "_law_b"))) TB rfl (lamV_by (N := N_law) (sc := defScope sT_law) (by decide +kernel)) rfl rfl pe_int rfl (fun _ h => ⟨_, rfl, h⟩)) ja_nil)))))
      (jss_cons (js_expr (je_bm PySem.F.plainAttrs_list PySem.F.slot_list_append PySem.F.type_list_append jm_append (jv 19) (ja_cons (je_lamV1 (L := (lamAt (exK (stV (stAt (stB (stAt (defBody sT_law) 1)) 14)) 0) (some "_law_c"))) TB rfl (lamV_by (N := N_law) (sc := defScope sT_law) (by decide +kernel)) rfl rfl pe_int rfl (fun _ h => ⟨_, rfl, h⟩)) ja_nil)))
      (jss_one (js_if (jt_cmp (jo_ne hr.units) (je_errs (fun _ => rfl) (fun G _ _ => ok__law_errors (base := G) T) (fun G _ _ => ok__law_why (base := G) T) hL (by rfl) (jv 19) (hr.mono (by decide))) (je_lst (ja_cons (je_tup (ja_cons je_str (ja_cons (jv 15) ja_nil))) (ja_cons (je_tup (ja_cons je_str (ja_cons (jv 17) ja_nil))) (ja_cons (je_tup (ja_cons je_str (ja_cons je_str ja_nil))) (ja_cons (je_tup (ja_cons je_str (ja_cons je_str ja_nil))) ja_nil))))) (nomark _)) (jss_one (js_ret je_bl)) jss_nil))))))))))))))))))
      (jss_one (js_ret je_bl))))) fun s m G h => h _) (fun Pt a ns hl Pl => w_law Pl Pt a ns hl)
end
theorem facts {P : Program} {w : World} {K : PySem.W.Frag} {h : Heap} {mg : Str → Option Value} {f : Addr} (hP : P.main.file = fileN) (hsup : (P.main.scope.names.lookup ("super" : Str)).isSome = false) (X : K.In h) (G : h.Ns mainGlobals mg) (hfa : mg ("law" : Str) = some (.ref f)) (c : SaysY fas fns tbs xds sds fileN K) :
    ∃ fd : FuncData, (∀ (s : Shared) (v : Value), BindsTo s fd ⟨[v], []⟩ [("_law_script", v)]) ∧ ∀ c Pt : Addr, lawTab K = some (c, Pt) → ∀ base : Heap, LamX.TabB base mg c Pt → FnOk P w K mg base CX0 11 f fd ["_law_script"] (SpLawT K Pt) := by
  obtain ⟨fd_0, F_0⟩ := c.d.def_ 0 (d := d_divisor) rfl
  obtain ⟨fd_1, F_1⟩ := c.d.def_ 1 (d := d_lowest) rfl
  obtain ⟨fd_2, F_2⟩ := c.d.def_ 2 (d := d_is_whole) rfl
  obtain ⟨fd_3, F_3⟩ := c.d.def_ 3 (d := d_is_ratio) rfl
  obtain ⟨fd_4, F_4⟩ := c.d.def_ 4 (d := d_add) rfl
  obtain ⟨fd_5, F_5⟩ := c.d.def_ 5 (d := d_negative) rfl
  obtain ⟨fd_6, F_6⟩ := c.d.def_ 6 (d := d_multiply) rfl
  obtain ⟨fd_7, F_7⟩ := c.d.def_ 7 (d := d_is_less) rfl
  obtain ⟨fd_8, F_8⟩ := c.d.def_ 8 (d := d_is_name) rfl
  obtain ⟨fd_9, F_9⟩ := c.d.def_ 9 (d := d_is_tie) rfl
  obtain ⟨fd_10, F_10⟩ := c.d.def_ 10 (d := d_are_terms) rfl
  obtain ⟨fd_11, F_11⟩ := c.d.def_ 11 (d := d_names_in) rfl
  obtain ⟨fd_12, F_12⟩ := c.d.def_ 12 (d := d_sum_at) rfl
  obtain ⟨fd_13, F_13⟩ := c.d.def_ 13 (d := d_is_kept) rfl
  obtain ⟨fd_14, F_14⟩ := c.d.def_ 14 (d := d_Lot___init__) rfl
  obtain ⟨fd_15, F_15⟩ := c.d.def_ 15 (d := d_Lot_names) rfl
  obtain ⟨fd_16, F_16⟩ := c.d.def_ 16 (d := d_Lot_ties) rfl
  obtain ⟨fd_17, F_17⟩ := c.d.def_ 17 (d := d_equal_ties) rfl
  obtain ⟨fd_18, F_18⟩ := c.d.def_ 18 (d := d_Step___init__) rfl
  obtain ⟨fd_19, F_19⟩ := c.d.def_ 19 (d := d_Step___eq__) rfl
  obtain ⟨fd_20, F_20⟩ := c.d.def_ 20 (d := d_Step___len__) rfl
  obtain ⟨fd_21, F_21⟩ := c.d.def_ 21 (d := d_Step___repr__) rfl
  obtain ⟨fd_22, F_22⟩ := c.d.def_ 22 (d := d_Step_all_names) rfl
  obtain ⟨fd_23, F_23⟩ := c.d.def_ 23 (d := d_Step_names) rfl
  obtain ⟨fd_24, F_24⟩ := c.d.def_ 24 (d := d_Step_ties) rfl
  obtain ⟨fd_25, F_25⟩ := c.d.def_ 25 (d := d_Step_lot) rfl
  obtain ⟨fd_26, F_26⟩ := c.d.def_ 26 (d := d_Step_allows) rfl
  obtain ⟨fd_27, F_27⟩ := c.d.def_ 27 (d := d__law_feed) rfl
  obtain ⟨fd_28, F_28⟩ := c.d.def_ 28 (d := d__law_draw) rfl
  obtain ⟨fd_29, F_29⟩ := c.d.def_ 29 (d := d__law_any) rfl
  obtain ⟨fd_30, F_30⟩ := c.d.def_ 30 (d := d__law_same) rfl
  obtain ⟨fd_31, F_31⟩ := c.d.def_ 31 (d := d__law_field) rfl
  obtain ⟨fd_32, F_32⟩ := c.d.def_ 32 (d := d__law_why) rfl
  obtain ⟨fd_33, F_33⟩ := c.d.def_ 33 (d := d__law_errors) rfl
  obtain ⟨fd_34, F_34⟩ := c.d.def_ 34 (d := d__law_gcd) rfl
  obtain ⟨fd_35, F_35⟩ := c.d.def_ 35 (d := d__law_low) rfl
  obtain ⟨fd_36, F_36⟩ := c.d.def_ 36 (d := d__law_plus) rfl
  obtain ⟨fd_37, F_37⟩ := c.d.def_ 37 (d := d__law_minus) rfl
  obtain ⟨fd_38, F_38⟩ := c.d.def_ 38 (d := d__law_by) rfl
  obtain ⟨fd_39, F_39⟩ := c.d.def_ 39 (d := d__law_under) rfl
  obtain ⟨fd_40, F_40⟩ := c.d.def_ 40 (d := d__law_rate) rfl
  obtain ⟨fd_41, F_41⟩ := c.d.def_ 41 (d := d__law_words) rfl
  obtain ⟨fd_42, F_42⟩ := c.d.def_ 42 (d := d__law_strange) rfl
  obtain ⟨fd_43, F_43⟩ := c.d.def_ 43 (d := d__law_total) rfl
  obtain ⟨fd_44, F_44⟩ := c.d.def_ 44 (d := d__law_keeps) rfl
  obtain ⟨fd_45, F_45⟩ := c.d.def_ 45 (d := d__law_point) rfl
  obtain ⟨fd_46, F_46⟩ := c.d.def_ 46 (d := d__law_value_ties) rfl
  obtain ⟨fd_47, F_47⟩ := c.d.def_ 47 (d := d__law_step_ties) rfl
  obtain ⟨fd_48, F_48⟩ := c.d.def_ 48 (d := d__law_values_of) rfl
  obtain ⟨fd_49, F_49⟩ := c.d.def_ 49 (d := d__law_stay_ties) rfl
  obtain ⟨fd_50, F_50⟩ := c.d.def_ 50 (d := d_law) rfl
  obtain ⟨hn0, hm0⟩ := mtT_ok X G (c.tab 2 (t := mtT ["TieError", "Missing"] mt_0 xfields) rfl)
  obtain ⟨hn1, hm1⟩ := mtT_ok X G (c.tab 3 (t := mtT ["NothingLeft"] mt_1 xfields) rfl)
  have T : Tx P K mg := ⟨He.free_ok X G (c.d.fact 51 (f := .free "abs") rfl), He.free_ok X G (c.d.fact 52 (f := .free "all") rfl), He.free_ok X G (c.d.fact 53 (f := .free "bool") rfl), He.free_ok X G (c.d.fact 54 (f := .free "dict") rfl), He.free_ok X G (c.d.fact 55 (f := .free "enumerate") rfl), He.free_ok X G (c.d.fact 56 (f := .free "int") rfl), He.free_ok X G (c.d.fact 57 (f := .free "isinstance") rfl), He.free_ok X G (c.d.fact 58 (f := .free "len") rfl), He.free_ok X G (c.d.fact 59 (f := .free "list") rfl), He.free_ok X G (c.d.fact 60 (f := .free "range") rfl), He.free_ok X G (c.d.fact 61 (f := .free "repr") rfl), He.free_ok X G (c.d.fact 62 (f := .free "set") rfl), He.free_ok X G (c.d.fact 63 (f := .free "sorted") rfl), He.free_ok X G (c.d.fact 64 (f := .free "str") rfl), He.free_ok X G (c.d.fact 65 (f := .free "tuple") rfl), He.free_ok X G (c.d.fact 66 (f := .free "zip") rfl), He.int_ok X G (c.d.fact 67 (f := .int "MAX_LETTERS" 6) rfl), He.str_ok X G (c.d.fact 68 (f := .str "NEW" "'") rfl), He.str_ok X G (c.d.fact 69 (f := .str "SMALL" "abcdefghijklmnopqrstuvwxyz") rfl), tupT_ok X G (c.tab 0 (t := tupT "ONE" [1, 1]) rfl), tupT_ok X G (c.tab 1 (t := tupT "ZERO" [0, 1]) rfl), c.xf X G hP 0 (d := x_InvalidTie) rfl, c.xf X G hP 1 (d := x_InvalidName) rfl, ⟨_, _, hn0 "TieError" (by decide +kernel), hn0 "Missing" (by decide +kernel), hm0⟩, ⟨_, hn1 "NothingLeft" (by decide +kernel), hm1⟩, hsup, ⟨_, He.glo_ok X G (c.d.fact 70 (f := .glo "Lot") rfl), He.cls_ok (c.d.fact 71 (f := .cls "Lot") rfl), List.forall_mem_cons.mpr ⟨He.noat_ok (c.d.fact 72 (f := .noat "Lot" "words") rfl), List.forall_mem_cons.mpr ⟨He.noat_ok (c.d.fact 73 (f := .noat "Lot" "held") rfl), fun _ hz => nomatch hz⟩⟩⟩, ⟨_, He.glo_ok X G (c.d.fact 74 (f := .glo "Step") rfl), He.cls_ok (c.d.fact 75 (f := .cls "Step") rfl), List.forall_mem_cons.mpr ⟨He.noat_ok (c.d.fact 76 (f := .noat "Step" "words") rfl), List.forall_mem_cons.mpr ⟨He.noat_ok (c.d.fact 77 (f := .noat "Step" "held") rfl), fun _ hz => nomatch hz⟩⟩⟩, isC_of X G (c.tab 4 (t := isiT "Step") rfl), cvF_of X G (c.tab 5 (t := cvT "Step" "MOST" 3) rfl), neC_of X G (c.tab 6 (t := neT "Step") rfl), emT_ok (c.tab 7 (t := emT ("Step", some "__init__") 0) rfl), ⟨_, _, He.glo_ok X G (c.d.fact 0 (f := .glo "divisor") rfl), F_0⟩, ⟨_, _, He.glo_ok X G (c.d.fact 1 (f := .glo "lowest") rfl), F_1⟩, ⟨_, _, He.glo_ok X G (c.d.fact 2 (f := .glo "is_whole") rfl), F_2⟩, ⟨_, _, He.glo_ok X G (c.d.fact 3 (f := .glo "is_ratio") rfl), F_3⟩, ⟨_, _, He.glo_ok X G (c.d.fact 4 (f := .glo "add") rfl), F_4⟩, ⟨_, _, He.glo_ok X G (c.d.fact 5 (f := .glo "negative") rfl), F_5⟩, ⟨_, _, He.glo_ok X G (c.d.fact 6 (f := .glo "multiply") rfl), F_6⟩, ⟨_, _, He.glo_ok X G (c.d.fact 7 (f := .glo "is_less") rfl), F_7⟩, ⟨_, _, He.glo_ok X G (c.d.fact 8 (f := .glo "is_name") rfl), F_8⟩, ⟨_, _, He.glo_ok X G (c.d.fact 9 (f := .glo "is_tie") rfl), F_9⟩, ⟨_, _, He.glo_ok X G (c.d.fact 10 (f := .glo "are_terms") rfl), F_10⟩, ⟨_, _, He.glo_ok X G (c.d.fact 11 (f := .glo "names_in") rfl), F_11⟩, ⟨_, _, He.glo_ok X G (c.d.fact 12 (f := .glo "sum_at") rfl), F_12⟩, ⟨_, _, He.glo_ok X G (c.d.fact 13 (f := .glo "is_kept") rfl), F_13⟩, ⟨_, _, _, He.glo_ok X G (c.d.fact 14 (f := .glo "Lot") rfl), He.mkr_ok (c.d.fact 78 (f := .mkr "Lot") rfl), F_14⟩, ⟨_, _, _, He.glo_ok X G (c.d.fact 15 (f := .glo "Lot") rfl), He.cls_ok (c.d.fact 71 (f := .cls "Lot") rfl), He.meth_ok (c.d.fact 79 (f := .meth "Lot" "names") rfl), F_15⟩, ⟨_, _, _, He.glo_ok X G (c.d.fact 16 (f := .glo "Lot") rfl), He.cls_ok (c.d.fact 71 (f := .cls "Lot") rfl), He.meth_ok (c.d.fact 80 (f := .meth "Lot" "ties") rfl), F_16⟩, ⟨_, _, He.glo_ok X G (c.d.fact 17 (f := .glo "equal_ties") rfl), F_17⟩, ⟨_, _, _, He.glo_ok X G (c.d.fact 18 (f := .glo "Step") rfl), He.mkr_ok (c.d.fact 81 (f := .mkr "Step") rfl), F_18⟩, c.smF X G 0 (d := d_Step_stay) rfl, ⟨_, _, _, He.glo_ok X G (c.d.fact 19 (f := .glo "Step") rfl), He.cls_ok (c.d.fact 75 (f := .cls "Step") rfl), He.meth_ok (c.d.fact 82 (f := .meth "Step" "__eq__") rfl), F_19⟩, ⟨_, _, _, He.glo_ok X G (c.d.fact 20 (f := .glo "Step") rfl), He.cls_ok (c.d.fact 75 (f := .cls "Step") rfl), He.meth_ok (c.d.fact 83 (f := .meth "Step" "__len__") rfl), F_20⟩, ⟨_, _, _, He.glo_ok X G (c.d.fact 21 (f := .glo "Step") rfl), He.cls_ok (c.d.fact 75 (f := .cls "Step") rfl), He.meth_ok (c.d.fact 84 (f := .meth "Step" "__repr__") rfl), F_21⟩, ⟨_, _, _, He.glo_ok X G (c.d.fact 22 (f := .glo "Step") rfl), He.cls_ok (c.d.fact 75 (f := .cls "Step") rfl), He.meth_ok (c.d.fact 85 (f := .meth "Step" "all_names") rfl), F_22⟩, ⟨_, _, _, He.glo_ok X G (c.d.fact 23 (f := .glo "Step") rfl), He.cls_ok (c.d.fact 75 (f := .cls "Step") rfl), He.meth_ok (c.d.fact 86 (f := .meth "Step" "names") rfl), F_23⟩, ⟨_, _, _, He.glo_ok X G (c.d.fact 24 (f := .glo "Step") rfl), He.cls_ok (c.d.fact 75 (f := .cls "Step") rfl), He.meth_ok (c.d.fact 87 (f := .meth "Step" "ties") rfl), F_24⟩, ⟨_, _, _, He.glo_ok X G (c.d.fact 25 (f := .glo "Step") rfl), He.cls_ok (c.d.fact 75 (f := .cls "Step") rfl), He.meth_ok (c.d.fact 88 (f := .meth "Step" "lot") rfl), F_25⟩, ⟨_, _, _, He.glo_ok X G (c.d.fact 26 (f := .glo "Step") rfl), He.cls_ok (c.d.fact 75 (f := .cls "Step") rfl), He.meth_ok (c.d.fact 89 (f := .meth "Step" "allows") rfl), F_26⟩, ⟨_, _, He.glo_ok X G (c.d.fact 27 (f := .glo "_law_feed") rfl), F_27⟩, ⟨_, _, He.glo_ok X G (c.d.fact 28 (f := .glo "_law_draw") rfl), F_28⟩, ⟨_, _, He.glo_ok X G (c.d.fact 29 (f := .glo "_law_any") rfl), F_29⟩, ⟨_, _, He.glo_ok X G (c.d.fact 30 (f := .glo "_law_same") rfl), F_30⟩, ⟨_, _, He.glo_ok X G (c.d.fact 31 (f := .glo "_law_field") rfl), F_31⟩, ⟨_, _, He.glo_ok X G (c.d.fact 32 (f := .glo "_law_why") rfl), F_32⟩, ⟨_, _, He.glo_ok X G (c.d.fact 33 (f := .glo "_law_errors") rfl), F_33⟩, ⟨_, _, He.glo_ok X G (c.d.fact 34 (f := .glo "_law_gcd") rfl), F_34⟩, ⟨_, _, He.glo_ok X G (c.d.fact 35 (f := .glo "_law_low") rfl), F_35⟩, ⟨_, _, He.glo_ok X G (c.d.fact 36 (f := .glo "_law_plus") rfl), F_36⟩, ⟨_, _, He.glo_ok X G (c.d.fact 37 (f := .glo "_law_minus") rfl), F_37⟩, ⟨_, _, He.glo_ok X G (c.d.fact 38 (f := .glo "_law_by") rfl), F_38⟩, ⟨_, _, He.glo_ok X G (c.d.fact 39 (f := .glo "_law_under") rfl), F_39⟩, ⟨_, _, He.glo_ok X G (c.d.fact 40 (f := .glo "_law_rate") rfl), F_40⟩, ⟨_, _, He.glo_ok X G (c.d.fact 41 (f := .glo "_law_words") rfl), F_41⟩, ⟨_, _, He.glo_ok X G (c.d.fact 42 (f := .glo "_law_strange") rfl), F_42⟩, ⟨_, _, He.glo_ok X G (c.d.fact 43 (f := .glo "_law_total") rfl), F_43⟩, ⟨_, _, He.glo_ok X G (c.d.fact 44 (f := .glo "_law_keeps") rfl), F_44⟩, ⟨_, _, He.glo_ok X G (c.d.fact 45 (f := .glo "_law_point") rfl), F_45⟩, ⟨_, _, He.glo_ok X G (c.d.fact 46 (f := .glo "_law_value_ties") rfl), F_46⟩, ⟨_, _, He.glo_ok X G (c.d.fact 47 (f := .glo "_law_step_ties") rfl), F_47⟩, ⟨_, _, He.glo_ok X G (c.d.fact 48 (f := .glo "_law_values_of") rfl), F_48⟩, ⟨_, _, He.glo_ok X G (c.d.fact 49 (f := .glo "_law_stay_ties") rfl), F_49⟩, ⟨_, _, He.glo_ok X G (c.d.fact 50 (f := .glo "law") rfl), F_50⟩⟩
  have e := hfa.symm.trans (He.glo_ok X G (c.d.fact 50 (f := .glo "law") rfl))
  cases e
  have b := FunD.bindsA (ps := ["_law_script"]) F_50 fun _ _ _ _ _ _ us hl => match us, hl with | [_], _ => rfl
  refine ⟨fd_50, fun s v => b s [v] rfl, fun c Pt hl base TB => ?_⟩
  have F' := F_50
  obtain ⟨oc, od, dV, kV, doc, pm, an, cdv, ct, osl, e1, lk, _⟩ := F'.ex
  exact ok_law T F_50 (lawTab_code hl lk) TB
end Ts
open PySem PySem.W PySem.Calls PyProof.Rows
set_option maxRecDepth 100000 in
set_option maxHeartbeats 0 in
theorem PySem.Challenge.cw_tiespan_k34_steps_return_what_they_are_m_holds : PySem.Challenge.rw_tiespan_k34_steps_return_what_they_are_m.Holds := by
  w_on; o_law
  refine HandSHeadRun.head_any (r := OpenLaw.row PySem.Challenge.rw_tiespan_k34_steps_return_what_they_are_m) (q := view (OpenLaw.row PySem.Challenge.rw_tiespan_k34_steps_return_what_they_are_m).prog [129]) (H := Ts.hkk) (ob := Ts.obb) (M := 14000) (loose := Ts.looseN) (d := HandSHeadRun.topDef (OpenLaw.row PySem.Challenge.rw_tiespan_k34_steps_return_what_they_are_m).prog 129) (kwd := []) Ts.ob_eq
    (by kernel_rfl) (fun s => by kernel_rfl) Ts.runEqW (by kernel_rfl) (by kernel_rfl) (by kernel_rfl) (by rfl) (by first | assumption | decide +kernel) (by decide +kernel) ⟨rfl, rfl, rfl, rfl, rfl, by decide +kernel⟩ ?hw ?hc
  case hw => w_witness2
  case hc =>
    refine Ts.walk_ofTB (l := PySem.Challenge.rw_tiespan_k34_steps_return_what_they_are_m) (n := 63) (k := 11) (x := "_law_script") rfl (by decide) (by kernel_rfl) ⟨rfl, by decide, by decide⟩ ?F
    intro w mg fa h Y G hmg0
    obtain ⟨K, c, Pt, KX, sx, hlt, hch, hno, hPt⟩ := Y
    have hmg : mg ("law" : PySem.Str) = some (.ref fa) := by
      have e : (HandSHeadRun.topDef (OpenLaw.row PySem.Challenge.rw_tiespan_k34_steps_return_what_they_are_m).prog 129).name = ("law" : PySem.Str) := by kernel_rfl
      rw [← e]
      exact hmg0
    obtain ⟨fd, hb, hF⟩ := Ts.facts (P := (PySem.Challenge.rw_tiespan_k34_steps_return_what_they_are_m).prog) (w := w) (by kernel_rfl) (by kernel_rfl) KX G hmg sx
    exact ⟨K, fd, c, Pt, Ts.SpLawT K Pt, KX, hPt, hno, PySem.W.codeHd_of_K KX hch, hb, fun H a ns hl hT hS => ⟨a, ns, rfl, hS, hT, hl, fun _ => rfl⟩, fun base _ _ TB => hF c Pt hlt base TB⟩

