import PyProof.Rows.All
import Wide.All
import OpenK.AllK
import Wide.FinOn
import HandS.ForMost
import HandS.WordsExc
import HandS.Defaults
import HandS.IsInst
import HandS.TupAny
import HandS.TupMul
import HandS.Style
import HandS.Conv
import HandS.Wide
import HandS.Exc
import HandS.CallSlots
import HandS.HeadWalk
import HandS.RaiseMore
import HandS.Small
import HandS.Head0
import HandS.Head1
import HandS.Head2
import HandS.HeadEnd
import HandS.HeadHook1
import HandS.HeadHook2
import KE.KStateDown
import PySem.Challenge.RW_serieskept_k08_whole_checks_of_octets
set_option Elab.async false
set_option linter.all false
set_option maxRecDepth 100000
set_option maxHeartbeats 2000000
namespace SM
open PySem PySem.Spec PyProof.Rows L2

/-! ### values, heap, results of the small machine -/
abbrev PV := PyData
inductive EV where
  | pv (x : PV) | ref (a : Nat) | scr (xs : List PV)
inductive SO where
  | lst (xs : List PV) | lk (xs : List PV) | busy | dead
abbrev Res := EV
abbrev REnv := List (Option EV)
abbrev SHeap := List SO
inductive RM (α : Type) where
  | ok (a : α) (h : SHeap) | exc (c : Nat) (fs : List (Str × PV)) (h : SHeap) | no
def RM.bind {α β : Type} : RM α → (α → SHeap → RM β) → RM β
  | .ok a h, k => k a h
  | .exc c fs h, _ => .exc c fs h
  | .no, _ => .no
abbrev R := RM Res

/-! ### what stands for what -/
mutual
inductive RP (K : PySem.W.Frag) (H : Hp) (M : Addr → Prop) : PV → V → Prop
  | non : RP K H M .none .non
  | bl (b : Bool) : RP K H M (.bool b) (.bl b)
  | int (i : Int) : RP K H M (.int i) (.int i)
  | str (x : Str) : RP K H M (.str x) (.str x)
  | lst {a : Addr} {xs : List PV} {vs : List V} : Rd H a (.lst vs) → ¬ M a → RPs K H M xs vs → RP K H M (.list xs) (.ref a)
  | tup {a : Addr} {xs : List PV} {vs : List V} : SqT K H a vs → RPs K H M xs vs → RP K H M (.tuple xs) (.ref a)
inductive RPs (K : PySem.W.Frag) (H : Hp) (M : Addr → Prop) : List PV → List V → Prop
  | nil : RPs K H M [] []
  | cons {x : PV} {xs : List PV} {v : V} {vs : List V} : RP K H M x v → RPs K H M xs vs → RPs K H M (x :: xs) (v :: vs)
end

section
variable {K : PySem.W.Frag} {H H' : Hp} {M M' : Addr → Prop}
mutual
theorem RP.map (f : ∀ a vs, SqT K H a vs → SqT K H' a vs) (g : ∀ a vs, Rd H a (.lst vs) → ¬ M a → Rd H' a (.lst vs) ∧ ¬ M' a) : ∀ (x : PV) (v : V), RP K H M x v → RP K H' M' x v
  | .none, _, h => by cases h; exact .non
  | .bool b, _, h => by cases h; exact .bl b
  | .int i, _, h => by cases h; exact .int i
  | .str x, _, h => by cases h; exact .str x
  | .list xs, _, h => by
    cases h with
    | lst h1 h2 h3 => exact .lst (g _ _ h1 h2).1 (g _ _ h1 h2).2 (RPs.map f g xs _ h3)
  | .tuple xs, _, h => by
    cases h with
    | tup h1 h3 => exact .tup (f _ _ h1) (RPs.map f g xs _ h3)
  | .dict _, _, h => by cases h
theorem RPs.map (f : ∀ a vs, SqT K H a vs → SqT K H' a vs) (g : ∀ a vs, Rd H a (.lst vs) → ¬ M a → Rd H' a (.lst vs) ∧ ¬ M' a) : ∀ (xs : List PV) (vs : List V), RPs K H M xs vs → RPs K H' M' xs vs
  | [], _, h => by cases h; exact .nil
  | x :: xs, _, h => by
    cases h with
    | cons h1 h2 => exact .cons (RP.map f g x _ h1) (RPs.map f g xs _ h2)
end
theorem RPs.length : ∀ {xs : List PV} {vs : List V}, RPs K H M xs vs → xs.length = vs.length
  | [], _, h => by cases h; rfl
  | x :: xs, _, h => by
    cases h with
    | cons h1 h2 => simp [RPs.length h2]
theorem RPs.get : ∀ {xs : List PV} {vs : List V} {i : Nat} {x : PV}, RPs K H M xs vs → xs[i]? = some x → ∃ v, vs[i]? = some v ∧ RP K H M x v
  | [], _, _, _, h, e => by simp at e
  | y :: ys, _, 0, x, h, e => by
    cases h with
    | cons h1 h2 => simp at e; subst e; exact ⟨_, rfl, h1⟩
  | y :: ys, _, i + 1, x, h, e => by
    cases h with
    | cons h1 h2 =>
      obtain ⟨v, e1, r⟩ := RPs.get (i := i) h2 (by simpa using e)
      exact ⟨v, by simpa using e1, r⟩
theorem RPs.getV : ∀ {xs : List PV} {vs : List V} {i : Nat} {v : V}, RPs K H M xs vs → vs[i]? = some v → ∃ x, xs[i]? = some x ∧ RP K H M x v
  | _, [], _, _, h, e => by simp at e
  | _, y :: ys, 0, x, h, e => by
    cases h with
    | cons h1 h2 => simp at e; subst e; exact ⟨_, rfl, h1⟩
  | _, y :: ys, i + 1, x, h, e => by
    cases h with
    | cons h1 h2 =>
      obtain ⟨v, e1, r⟩ := RPs.getV (i := i) h2 (by simpa using e)
      exact ⟨v, by simpa using e1, r⟩
theorem RPs.append : ∀ {xs ys : List PV} {vs ws : List V}, RPs K H M xs vs → RPs K H M ys ws → RPs K H M (xs ++ ys) (vs ++ ws)
  | [], _, _, _, h, k => by cases h; exact k
  | x :: xs, _, _, _, h, k => by
    cases h with
    | cons h1 h2 => exact .cons h1 (RPs.append h2 k)
theorem RPs.take : ∀ {xs : List PV} {vs : List V} (n : Nat), RPs K H M xs vs → RPs K H M (xs.take n) (vs.take n)
  | _, _, 0, h => by simp; exact .nil
  | [], _, n + 1, h => by cases h; simp; exact .nil
  | x :: xs, _, n + 1, h => by
    cases h with
    | cons h1 h2 => exact .cons h1 (RPs.take n h2)
theorem RPs.drop : ∀ {xs : List PV} {vs : List V} (n : Nat), RPs K H M xs vs → RPs K H M (xs.drop n) (vs.drop n)
  | _, _, 0, h => by simpa using h
  | [], _, n + 1, h => by cases h; simp; exact .nil
  | x :: xs, _, n + 1, h => by
    cases h with
    | cons h1 h2 => exact RPs.drop n h2
theorem RPs.set : ∀ {xs : List PV} {vs : List V} {x : PV} {v : V} (n : Nat), RPs K H M xs vs → RP K H M x v → RPs K H M (xs.set n x) (vs.set n v)
  | [], _, _, _, _, h, _ => by cases h; exact .nil
  | y :: ys, _, _, _, 0, h, r => by
    cases h with
    | cons h1 h2 => exact .cons r h2
  | y :: ys, _, _, _, n + 1, h, r => by
    cases h with
    | cons h1 h2 => exact .cons h1 (RPs.set n h2 r)
mutual
theorem RP.dp : ∀ (x : PV) (v : V), RP K H M x v → Dp K H v x
  | .none, _, h => by cases h; exact .non
  | .bool b, _, h => by cases h; exact .bl b
  | .int i, _, h => by cases h; exact .int i
  | .str x, _, h => by cases h; exact .str x
  | .list xs, _, h => by
    cases h with
    | lst h1 h2 h3 => exact .lst (.inl h1) (RPs.dp xs _ h3)
  | .tuple xs, _, h => by
    cases h with
    | tup h1 h3 => exact .tup h1 (RPs.dp xs _ h3)
  | .dict _, _, h => by cases h
theorem RPs.dp : ∀ (xs : List PV) (vs : List V), RPs K H M xs vs → DpAll K H vs xs
  | [], _, h => by cases h; exact .nil
  | x :: xs, _, h => by
    cases h with
    | cons h1 h2 => exact .cons (RP.dp x _ h1) (RPs.dp xs _ h2)
end
end

/-- a live cell's address -/
def Live (μ : List Addr) (h : SHeap) (a : Addr) : Prop := ∃ (i : Nat) (o : SO), μ[i]? = some a ∧ h[i]? = some o ∧ o ≠ SO.dead

/-- a cell that may be written -/
def Mtb (μ : List Addr) (h : SHeap) (a : Addr) : Prop := ∃ (i : Nat) (o : SO), μ[i]? = some a ∧ h[i]? = some o ∧ o ≠ SO.dead ∧ o ≠ SO.busy ∧ ∀ xs, o ≠ SO.lk xs
theorem Mtb.live {μ : List Addr} {h : SHeap} {a : Addr} (m : Mtb μ h a) : Live μ h a := let ⟨i, o, e1, e2, n, _, _⟩ := m; ⟨i, o, e1, e2, n⟩

def RO (K : PySem.W.Frag) (H : Hp) (M : Addr → Prop) : SO → HO → Prop
  | .lst xs, .lst vs => RPs K H M xs vs
  | .lk xs, .lst vs => RPs K H M xs vs
  | .busy, .lst _ => True
  | _, _ => False

/-- the small heap h stands in H, its cells at μ -/
structure RH (K : PySem.W.Frag) (μ : List Addr) (h : SHeap) (H : Hp) : Prop where
  len : μ.length = h.length
  nd : μ.Nodup
  tr : ∀ (i : Nat) a, μ[i]? = some a → H a ≠ none
  obj : ∀ (i : Nat) (o : SO), h[i]? = some o → o ≠ .dead → ∃ a ho, μ[i]? = some a ∧ H a = some ho ∧ RO K H (Live μ h) o ho

/-- the script: a list that is read alone, perhaps one of the module's own -/
def RScr (K : PySem.W.Frag) (μ : List Addr) (h : SHeap) (H : Hp) (xs : List PV) (w : V) : Prop := ∃ a vs, w = .ref a ∧ ((∃ (o : Obj) (its : Array Value) (n : Nat), K.lookup a = some o ∧ o.cls = .type "list" ∧ o.dict = none ∧ o.data = .seq its n ∧ its.size ≤ sizeLine ∧ Vals vs its.toList) ∨ (Rd H a (.lst vs) ∧ ¬ Live μ h a)) ∧ RPs K H (Live μ h) xs vs
def RE (K : PySem.W.Frag) (μ : List Addr) (h : SHeap) (H : Hp) : EV → V → Prop
  | .pv x, w => RP K H (Live μ h) x w
  | .ref i, w => ∃ a, μ[i]? = some a ∧ w = .ref a
  | .scr xs, w => RScr K μ h H xs w
structure REs (K : PySem.W.Frag) (μ : List Addr) (h : SHeap) (H : Hp) (ρ : REnv) (σ : L2.St) : Prop where
  len : ρ.length = σ.length
  at_ : ∀ (i : Nat) (v : EV), ρ[i]? = some (some v) → ∃ w, σ[i]? = some (some w) ∧ RE K μ h H v w

/-- from (μ, h, H) on to (μ', h', H') -/
structure Go (μ : List Addr) (h : SHeap) (H : Hp) (μ' : List Addr) (h' : SHeap) (H' : Hp) : Prop where
  pre : ∀ (i : Nat) a, μ[i]? = some a → μ'[i]? = some a
  new : ∀ (i : Nat) a, μ'[i]? = some a → μ[i]? = some a ∨ H a = none
  dead : ∀ (i : Nat), h[i]? = some .dead → h'[i]? = some .dead
  lk : ∀ (i : Nat) xs, h[i]? = some (.lk xs) → h'[i]? = some (.lk xs)
  bz : ∀ (i : Nat), h[i]? = some .busy → h'[i]? = some .busy
  pres : ∀ a o, H a = some o → ¬ Mtb μ h a → H' a = some o
  trk : ∀ a, H a ≠ none → H' a ≠ none

def RR (K : PySem.W.Frag) (μ : List Addr) (h : SHeap) (H₀ H : Hp) : Res → V → Prop
  | .pv x, w => RP K H (Live μ h) x w
  | .ref i, w => ∃ a, μ[i]? = some a ∧ w = .ref a
  | .scr xs, w => RScr K μ h H xs w

section
variable {K : PySem.W.Frag} {μ μ' μ₁ μ₂ : List Addr} {h h' h₁ h₂ : SHeap} {H H' H₀ H₁ H₂ : Hp} {ρ : REnv} {σ : L2.St}
theorem RO.lst_of {o : SO} {ho : HO} {M : Addr → Prop} (r : RO K H M o ho) : ∃ vs, ho = .lst vs := by
  cases o with
  | lst xs => cases ho with
    | lst vs => exact ⟨_, rfl⟩
    | _ => exact False.elim r
  | lk xs => cases ho with
    | lst vs => exact ⟨_, rfl⟩
    | _ => exact False.elim r
  | busy => cases ho with
    | lst vs => exact ⟨_, rfl⟩
    | _ => exact False.elim r
  | dead => exact False.elim r
theorem RO.ne_dead {o : SO} {ho : HO} {M : Addr → Prop} (r : RO K H M o ho) : o ≠ .dead := by
  rintro rfl; exact r
theorem RO.map {M M' : Addr → Prop} {o : SO} {ho : HO} (f : ∀ a vs, SqT K H a vs → SqT K H' a vs) (g : ∀ a vs, Rd H a (.lst vs) → ¬ M a → Rd H' a (.lst vs) ∧ ¬ M' a) (r : RO K H M o ho) : RO K H' M' o ho := by
  cases o with
  | lst xs => cases ho with
    | lst vs => exact RPs.map f g xs _ r
    | _ => exact False.elim r
  | lk xs => cases ho with
    | lst vs => exact RPs.map f g xs _ r
    | _ => exact False.elim r
  | busy => cases ho with
    | lst vs => exact trivial
    | _ => exact False.elim r
  | dead => exact False.elim r
theorem RH.live_lst (r : RH K μ h H) {a : Addr} (l : Live μ h a) : ∃ vs, H a = some (.lst vs) := by
  obtain ⟨i, o, e1, e2, ne⟩ := l
  obtain ⟨b, ho, e3, e4, ro⟩ := r.obj i o e2 ne
  rw [e1] at e3; cases e3
  obtain ⟨vs, rfl⟩ := ro.lst_of
  exact ⟨vs, e4⟩
theorem Go.refl : Go μ h H μ h H := ⟨fun _ _ e => e, fun _ _ e => .inl e, fun _ e => e, fun _ _ e => e, fun _ e => e, fun _ _ e _ => e, fun _ e => e⟩
/-- what is live later and was tracked was live -/
theorem Go.live (g : Go μ h H μ' h' H') (r : RH K μ h H) {a : Addr} (l : Live μ' h' a) (t : H a ≠ none) : Live μ h a := by
  obtain ⟨i, o, e1, e2, ne⟩ := l
  rcases g.new i a e1 with e | e
  · have hi : i < μ.length := (List.getElem?_eq_some_iff.mp e).1
    have hi' : i < h.length := by rw [← r.len]; exact hi
    refine ⟨i, h[i], e, by simp [hi'], fun z => ?_⟩
    have := g.dead i (by simp [hi', z])
    rw [e2] at this
    exact ne (Option.some.inj this)
  · exact absurd e t
/-- what may be written later and was tracked might be written -/
theorem Go.mtb (g : Go μ h H μ' h' H') (r : RH K μ h H) {a : Addr} (l : Mtb μ' h' a) (t : H a ≠ none) : Mtb μ h a := by
  obtain ⟨i, o, e1, e2, ne, nb, nl⟩ := l
  rcases g.new i a e1 with e | e
  · have hi : i < μ.length := (List.getElem?_eq_some_iff.mp e).1
    have hi' : i < h.length := by rw [← r.len]; exact hi
    refine ⟨i, h[i], e, by simp [hi'], fun z => ?_, fun z => ?_, fun xs z => ?_⟩
    · have := g.dead i (by simp [hi', z])
      rw [e2] at this
      exact ne (Option.some.inj this)
    · have := g.bz i (by simp [hi', z])
      rw [e2] at this
      exact nb (Option.some.inj this)
    · have := g.lk i xs (by simp [hi', z])
      rw [e2] at this
      exact nl xs (Option.some.inj this)
  · exact absurd e t
theorem Go.trans (g : Go μ h H μ₁ h₁ H₁) (g' : Go μ₁ h₁ H₁ μ₂ h₂ H₂) (r : RH K μ h H) : Go μ h H μ₂ h₂ H₂ where
  pre := fun i a e => g'.pre i a (g.pre i a e)
  new := fun i a e => by
    rcases g'.new i a e with e | e
    · exact g.new i a e
    · right
      cases q : H a with
      | none => rfl
      | some o => exact absurd e (g.trk a (by rw [q]; exact fun z => nomatch z))
  dead := fun i e => g'.dead i (g.dead i e)
  lk := fun i xs e => g'.lk i xs (g.lk i xs e)
  bz := fun i e => g'.bz i (g.bz i e)
  pres := fun a o e nl => g'.pres a o (g.pres a o e nl) fun l => nl (g.mtb r l (by rw [e]; exact fun z => nomatch z))
  trk := fun a t => g'.trk a (g.trk a t)
theorem Go.sqT (g : Go μ h H μ' h' H') (r : RH K μ h H) (a : Addr) (vs : List V) (s : SqT K H a vs) : SqT K H' a vs := by
  rcases s with (s | ⟨o, s⟩) | s
  · exact .inl (.inl (g.pres _ _ s fun l => by obtain ⟨ws, e⟩ := r.live_lst l.live; rw [s] at e; cases e))
  · exact .inl (.inr ⟨o, g.pres _ _ s fun l => by obtain ⟨ws, e⟩ := r.live_lst l.live; rw [s] at e; cases e⟩)
  · exact .inr s
theorem Go.rdL (g : Go μ h H μ' h' H') (r : RH K μ h H) (a : Addr) (vs : List V) (s : Rd H a (.lst vs)) (nl : ¬ Live μ h a) : Rd H' a (.lst vs) ∧ ¬ Live μ' h' a := by
  rcases s with s | ⟨o, s⟩
  · exact ⟨.inl (g.pres _ _ s fun m => nl m.live), fun l => nl (g.live r l (by rw [s]; exact fun z => nomatch z))⟩
  · exact ⟨.inr ⟨o, g.pres _ _ s fun m => nl m.live⟩, fun l => nl (g.live r l (by rw [s]; exact fun z => nomatch z))⟩
theorem RP.go {x : PV} {v : V} (p : RP K H (Live μ h) x v) (g : Go μ h H μ' h' H') (r : RH K μ h H) : RP K H' (Live μ' h') x v := RP.map (g.sqT r) (g.rdL r) x v p
theorem RPs.go {x : List PV} {v : List V} (p : RPs K H (Live μ h) x v) (g : Go μ h H μ' h' H') (r : RH K μ h H) : RPs K H' (Live μ' h') x v := RPs.map (g.sqT r) (g.rdL r) x v p
theorem RScr.go {x : List PV} {v : V} (p : RScr K μ h H x v) (g : Go μ h H μ' h' H') (r : RH K μ h H) : RScr K μ' h' H' x v := by
  obtain ⟨a, vs, e, q, k⟩ := p
  exact ⟨a, vs, e, q.imp id fun ⟨q1, q2⟩ => g.rdL r _ _ q1 q2, k.go g r⟩
theorem RE.go {x : EV} {v : V} (p : RE K μ h H x v) (g : Go μ h H μ' h' H') (r : RH K μ h H) : RE K μ' h' H' x v := by
  cases x with
  | pv x => exact RP.go p g r
  | ref i => obtain ⟨a, e, q⟩ := p; exact ⟨a, g.pre _ _ e, q⟩
  | scr xs => exact RScr.go p g r
theorem REs.go (p : REs K μ h H ρ σ) (g : Go μ h H μ' h' H') (r : RH K μ h H) : REs K μ' h' H' ρ σ :=
  ⟨p.len, fun i v e => let ⟨w, e1, q⟩ := p.at_ i v e; ⟨w, e1, q.go g r⟩⟩
theorem RR.go {x : Res} {v : V} (p : RR K μ h H₀ H x v) (g : Go μ h H μ' h' H') (r : RH K μ h H) : RR K μ' h' H₀ H' x v := by
  cases x with
  | pv x => exact RP.go p g r
  | ref i => obtain ⟨a, e, q⟩ := p; exact ⟨a, g.pre _ _ e, q⟩
  | scr xs => exact RScr.go p g r
theorem RR.back {x : Res} {v : V} (p : RR K μ h H₁ H x v) (t : ∀ a, H₀ a ≠ none → H₁ a ≠ none) : RR K μ h H₀ H x v := by
  cases x with
  | pv x => exact p
  | ref i => exact p
  | scr xs => exact p
theorem RR.re {x : Res} {v : V} (p : RR K μ h H₁ H x v) : RE K μ h H x v := by
  cases x with
  | pv x => exact p
  | ref i => exact p
  | scr xs => exact p
theorem RE.rr {x : Res} {v : V} (p : RE K μ h H x v) : RR K μ h H₁ H x v := by
  cases x with
  | pv x => exact p
  | ref i => exact p
  | scr xs => exact p
end

/-! ### exceptions -/
structure Cfg where
  K : PySem.W.Frag
  cls : Nat → Addr

def RX (cf : Cfg) (H : Hp) (M : Addr → Prop) (c : Nat) (fs : List (Str × PV)) (cls : Value) (d : Option Addr) : Prop :=
  cls = .ref (cf.cls c) ∧ match fs with
    | [] => d = none
    | _ => ∃ dd gs, d = some dd ∧ H dd = some (.xd gs) ∧ gs.map (·.1) = fs.map (·.1) ∧ RPs cf.K H M (fs.map (·.2)) (gs.map (·.2))

/-- what is wanted behind a result -/
def Post (cf : Cfg) (W : WX) (σ : L2.St) (μ : List Addr) (h : SHeap) (H : Hp) (Q : VK) : R → Prop
  | .ok r h' => ∀ μ' w H', Go μ h H μ' h' H' → RH cf.K μ' h' H' → RR cf.K μ' h' H H' r w → Q w H'
  | .exc c fs h' => ∀ μ' H' cls d, Go μ h H μ' h' H' → RH cf.K μ' h' H' → RX cf H' (Live μ' h') c fs cls d → W cls d σ H'
  | .no => False
def tX (cf : Cfg) (W : WX) (run : REnv → SHeap → R) : TE := fun σ H Q => ∃ μ ρ h, RH cf.K μ h H ∧ REs cf.K μ h H ρ σ ∧ Post cf W σ μ h H Q (run ρ h)

section
variable {cf : Cfg} {W : WX} {σ : L2.St} {μ μ₁ : List Addr} {h h₁ : SHeap} {H H₁ : Hp} {Q Q' : VK} {res : R}
theorem Post.later (p : Post cf W σ μ h H Q res) (g : Go μ h H μ₁ h₁ H₁) (r : RH cf.K μ h H) : Post cf W σ μ₁ h₁ H₁ Q res := by
  cases res with
  | ok x h' => exact fun μ' w H' g' r' rr => p μ' w H' (g.trans g' r) r' (rr.back g.trk)
  | exc c fs h' => exact fun μ' H' cls d g' r' rx => p μ' H' cls d (g.trans g' r) r' rx
  | no => exact p
theorem Post.mono (p : Post cf W σ μ h H Q res) (k : ∀ w H', Q w H' → Q' w H') : Post cf W σ μ h H Q' res := by
  cases res with
  | ok x h' => exact fun μ' w H' g' r' rr => k _ _ (p μ' w H' g' r' rr)
  | exc c fs h' => exact p
  | no => exact p
theorem tX.mono {run : REnv → SHeap → R} (p : tX cf W run σ H Q) (k : ∀ w H', Q w H' → Q' w H') : tX cf W run σ H Q' := by
  obtain ⟨μ, ρ, h, r, e, p⟩ := p
  exact ⟨μ, ρ, h, r, e, p.mono k⟩
/-- one part, then the rest -/
theorem Post.bind {ra : R} {k : Res → SHeap → R} (r : RH cf.K μ h H) (p : Post cf W σ μ h H Q (ra.bind k)) :
    Post cf W σ μ h H (fun x H1 => ∃ μ1 y h1, Go μ h H μ1 h1 H1 ∧ RH cf.K μ1 h1 H1 ∧ RR cf.K μ1 h1 H H1 y x ∧ Post cf W σ μ1 h1 H1 Q (k y h1)) ra := by
  cases ra with
  | ok x h' => exact fun μ' w H' g' r' rr => ⟨μ', x, h', g', r', rr, Post.later p g' r⟩
  | exc c fs h' => exact p
  | no => exact p
theorem tX.bind {ra : REnv → SHeap → R} {k : REnv → Res → SHeap → R} (p : tX cf W (fun ρ h => (ra ρ h).bind (k ρ)) σ H Q) :
    tX cf W ra σ H (fun x H1 => ∃ μ1 ρ y h1 H0, RH cf.K μ1 h1 H1 ∧ REs cf.K μ1 h1 H1 ρ σ ∧ RR cf.K μ1 h1 H0 H1 y x ∧ (∀ a, H a ≠ none → H1 a ≠ none) ∧ Post cf W σ μ1 h1 H1 Q (k ρ y h1)) := by
  obtain ⟨μ, ρ, h, r, e, p⟩ := p
  exact ⟨μ, ρ, h, r, e, (Post.bind r p).mono fun x H1 ⟨μ1, y, h1, g, r1, rr, q⟩ => ⟨μ1, ρ, y, h1, H, r1, e.go g r, rr, g.trk, q⟩⟩
end
theorem _root_.L2.PE.imp {X : Cx} {e : Expr} {t t' : TE} (h : PE X e t) (k : ∀ σ H Q, t' σ H Q → t σ H Q) : PE X e t' := ⟨fun pins s σ H Q I q => h.run pins s σ H Q I (k σ H Q q)⟩
end SM

set_option maxRecDepth 100000
set_option maxHeartbeats 4000000
namespace SM
open PySem PySem.Spec PyProof.Rows L2

section
variable {cf : Cfg} {K : PySem.W.Frag} {W : WX} {σ : L2.St} {μ : List Addr} {h : SHeap} {H : Hp} {Q : VK} {p : Addr} {o : HO}
theorem Go.upd_new (e : H p = none) : Go μ h H μ h (upd H p o) :=
  ⟨fun _ _ e => e, fun _ _ e => .inl e, fun _ e => e, fun _ _ e => e, fun _ e => e, fun a u q _ => by rw [upd_ne (ne_of_none q e)]; exact q, fun a t => by
    by_cases z : a = p
    · rw [z, upd_same]; exact fun z => nomatch z
    · rw [upd_ne z]; exact t⟩
theorem RH.mapH {μ h H H'} (r : RH K μ h H) (g : Go μ h H μ h H') (k : ∀ a vs, H a = some (.lst vs) → Live μ h a → H' a = some (.lst vs)) : RH K μ h H' where
  len := r.len
  nd := r.nd
  tr := fun i a e => g.trk a (r.tr i a e)
  obj := fun i u e ne => by
    obtain ⟨a, ho, e1, e2, ro⟩ := r.obj i u e ne
    obtain ⟨vs, rfl⟩ := ro.lst_of
    exact ⟨a, _, e1, k a vs e2 ⟨i, u, e1, e, ne⟩, ro.map (g.sqT r) (g.rdL r)⟩
theorem RH.upd_new (r : RH K μ h H) (e : H p = none) : RH K μ h (upd H p o) := r.mapH (Go.upd_new e) fun a vs q _ => by rw [upd_ne (ne_of_none q e)]; exact q
theorem RH.notin (r : RH K μ h H) (e : H p = none) : p ∉ μ := fun m => by
  obtain ⟨i, hi, q⟩ := List.mem_iff_getElem.mp m
  exact r.tr i p (by rw [List.getElem?_eq_getElem hi, q]) e
/-- a new cell -/
theorem RH.push {D : Addr} {o : SO} {ho : HO} (r : RH K μ h H) (e : H D = none) (ro : RO K H (Live μ h) o ho) : Go μ h H (μ ++ [D]) (h ++ [o]) (upd H D ho) ∧ RH K (μ ++ [D]) (h ++ [o]) (upd H D ho) := by
  have atNew : ∀ (i : Nat) a, (μ ++ [D])[i]? = some a → μ[i]? = some a ∨ (i = μ.length ∧ a = D) := fun i a q => by
    by_cases hi : i < μ.length
    · rw [List.getElem?_append_left hi] at q; exact .inl q
    · rw [List.getElem?_append_right (by omega)] at q
      right
      have : i - μ.length = 0 := by
        cases z : i - μ.length with
        | zero => rfl
        | succ k => rw [z] at q; simp at q
      rw [this] at q
      simp at q
      exact ⟨by omega, q.symm⟩
  have cells : ∀ (i : Nat) u, (h ++ [o])[i]? = some u → h[i]? = some u ∨ (i = h.length ∧ u = o) := fun i u q => by
    by_cases hi : i < h.length
    · rw [List.getElem?_append_left hi] at q; exact .inl q
    · rw [List.getElem?_append_right (by omega)] at q
      right
      have : i - h.length = 0 := by
        cases z : i - h.length with
        | zero => rfl
        | succ k => rw [z] at q; simp at q
      rw [this] at q
      simp at q
      exact ⟨by omega, q.symm⟩
  have old : ∀ (i : Nat) u, h[i]? = some u → (h ++ [o])[i]? = some u := fun i u q => by rw [List.getElem?_append_left (List.getElem?_eq_some_iff.mp q).1]; exact q
  have oldm : ∀ (i : Nat) a, μ[i]? = some a → (μ ++ [D])[i]? = some a := fun i u q => by rw [List.getElem?_append_left (List.getElem?_eq_some_iff.mp q).1]; exact q
  have g : Go μ h H (μ ++ [D]) (h ++ [o]) (upd H D ho) := by
    refine ⟨oldm, fun i a q => ?_, fun i q => old i _ q, fun i xs q => old i _ q, fun i q => old i _ q, fun a o q _ => by rw [upd_ne (ne_of_none q e)]; exact q, fun a t => ?_⟩
    · rcases atNew i a q with q | ⟨_, rfl⟩
      · exact .inl q
      · exact .inr e
    · by_cases z : a = D
      · rw [z, upd_same]; exact fun z => nomatch z
      · rw [upd_ne z]; exact t
  refine ⟨g, ⟨by rw [List.length_append, List.length_append, r.len]; rfl, ?_, fun i a q => ?_, fun i u q ne => ?_⟩⟩
  · refine List.nodup_append.mpr ⟨r.nd, by simp, fun a ha b hb z => ?_⟩
    rw [List.mem_singleton] at hb
    subst hb; subst z
    exact r.notin e ha
  · rcases atNew i a q with q | ⟨_, rfl⟩
    · exact g.trk a (r.tr i a q)
    · rw [upd_same]; exact fun z => nomatch z
  · rcases cells i u q with q | ⟨rfl, rfl⟩
    · obtain ⟨a, ho', e1, e2, ro'⟩ := r.obj i u q ne
      exact ⟨a, ho', oldm i a e1, by rw [upd_ne (ne_of_none e2 e)]; exact e2, ro'.map (g.sqT r) (g.rdL r)⟩
    · exact ⟨D, ho, by rw [← r.len, List.getElem?_append_right (Nat.le_refl _)]; simp, upd_same, ro.map (g.sqT r) (g.rdL r)⟩
/-- a new list, in a cell of its own -/
def newL (xs : List PV) (h : SHeap) : R := .ok (.ref h.length) (h ++ [.lst xs])
theorem Post.newL {xs : List PV} {vs : List V} (r : RH cf.K μ h H) (k : Post cf W σ μ h H Q (SM.newL xs h)) (q : RPs cf.K H (Live μ h) xs vs) : ∀ p, H p = none → Q (.ref p) (upd H p (.lst vs)) := fun p e => by
  obtain ⟨g, r1⟩ := r.push (o := .lst xs) (ho := .lst vs) e q
  exact k _ _ _ g r1 ⟨p, by rw [← r.len, List.getElem?_append_right (Nat.le_refl _)]; simp, rfl⟩
theorem Post.newT {xs : List PV} {vs : List V} (r : RH cf.K μ h H) (k : Post cf W σ μ h H Q (.ok (.pv (.tuple xs)) h)) (q : RPs cf.K H (Live μ h) xs vs) : ∀ p, H p = none → Q (.ref p) (upd H p (.tup vs)) := fun p e =>
  k μ _ _ (Go.upd_new e) (r.upd_new e) (.tup (SqT.of upd_same) (q.go (Go.upd_new e) r))
theorem Post.here {x : Res} {w : V} (r : RH cf.K μ h H) (k : Post cf W σ μ h H Q (.ok x h)) (q : RR cf.K μ h H H x w) : Q w H := k μ w H Go.refl r q
end

/-! ### lists in any of their three ways -/
def Res.list? (h : SHeap) : Res → Option (List PV)
  | .pv (.list xs) => some xs
  | .ref a => (match h[a]? with
    | some (.lst xs) => some xs
    | some (.lk xs) => some xs
    | _ => none)
  | _ => none
section
variable {cf : Cfg} {K : PySem.W.Frag} {W : WX} {σ : L2.St} {μ : List Addr} {h : SHeap} {H H₀ H₁ : Hp} {Q : VK}
theorem RR.list {x : Res} {w : V} {xs : List PV} (r : RH K μ h H) (q : RR K μ h H₀ H x w) (e : x.list? h = some xs) : ∃ a vs, w = .ref a ∧ Rd H a (.lst vs) ∧ RPs K H (Live μ h) xs vs := by
  unfold Res.list? at e
  split at e
  · cases e
    cases q with
    | lst h1 h2 h3 => exact ⟨_, _, rfl, h1, h3⟩
  · rename_i a
    obtain ⟨b, e1, rfl⟩ := q
    split at e
    · rename_i ys hy
      cases e
      obtain ⟨c, ho, e2, e3, ro⟩ := r.obj a _ hy (fun z => nomatch z)
      rw [e1] at e2; cases e2
      obtain ⟨vs, rfl⟩ := ro.lst_of
      exact ⟨b, vs, rfl, .inl e3, ro⟩
    · rename_i ys hy
      cases e
      obtain ⟨c, ho, e2, e3, ro⟩ := r.obj a _ hy (fun z => nomatch z)
      rw [e1] at e2; cases e2
      obtain ⟨vs, rfl⟩ := ro.lst_of
      exact ⟨b, vs, rfl, .inl e3, ro⟩
    · cases e
  · cases e
theorem RR.toInt {w : V} {i : Int} (q : RR K μ h H₀ H (.pv (.int i)) w) : w = .int i := by cases q; rfl
theorem RR.toStr {w : V} {x : Str} (q : RR K μ h H₀ H (.pv (.str x)) w) : w = .str x := by cases q; rfl
theorem RR.toBl {w : V} {b : Bool} (q : RR K μ h H₀ H (.pv (.bool b)) w) : w = .bl b := by cases q; rfl
theorem RR.toNon {w : V} (q : RR K μ h H₀ H (.pv .none) w) : w = .non := by cases q; rfl
theorem RR.toTup {w : V} {xs : List PV} (q : RR K μ h H₀ H (.pv (.tuple xs)) w) : ∃ a vs, w = .ref a ∧ SqT K H a vs ∧ RPs K H (Live μ h) xs vs := by
  cases q with
  | tup h1 h2 => exact ⟨_, _, rfl, h1, h2⟩
theorem rrInt {i : Int} : RR K μ h H₀ H (.pv (.int i)) (.int i) := RP.int i
theorem rrStr {i : Str} : RR K μ h H₀ H (.pv (.str i)) (.str i) := RP.str i
theorem rrBl {i : Bool} : RR K μ h H₀ H (.pv (.bool i)) (.bl i) := RP.bl i
theorem rrNon : RR K μ h H₀ H (.pv .none) .non := RP.non
theorem rrTup {a : Addr} {xs : List PV} {vs : List V} (h1 : SqT K H a vs) (h2 : RPs K H (Live μ h) xs vs) : RR K μ h H₀ H (.pv (.tuple xs)) (.ref a) := RP.tup h1 h2
end

/-! ### operators -/
abbrev SZ : Nat := 16777216
theorem szL {n : Nat} (h : n ≤ SZ) : n ≤ sizeLine := by rw [sizeLine_eq]; exact h
def mulOk (i j : Int) : Bool := decide (i.natAbs.log2 + j.natAbs.log2 < 134000000)
theorem mulOk_ok {i j : Int} (h : mulOk i j = true) : IntMulOk i j := by
  have b : ∀ x : Int, Builtin.Int.intBits x ≤ x.natAbs.log2 + 1 := fun x => by
    unfold Builtin.Int.intBits
    split <;> omega
  have h1 := b i
  have h2 := b j
  have h3 : i.natAbs.log2 + j.natAbs.log2 < 134000000 := of_decide_eq_true h
  have e : bitsLine = 134217728 := by decide
  unfold IntMulOk
  intro z
  rw [Bool.and_eq_true] at z
  have z2 := z.2
  unfold Builtin.Int.intTooBig at z2
  have z3 := of_decide_eq_true z2
  rw [e] at z3
  omega
def onInt (x y : Res) (k : Int → Int → R) : R := match x with
  | .pv (.int i) => (match y with
    | .pv (.int j) => k i j
    | _ => .no)
  | _ => .no
def orNo (c : Bool) (r : R) : R := match c with
  | true => r
  | false => .no
def addLists (x y : Res) (h : SHeap) : R := match x.list? h with
  | some i => (match y.list? h with
    | some j => orNo (Nat.ble (i.length + j.length) SZ) (newL (i ++ j) h)
    | none => .no)
  | none => .no
def opAdd (x y : Res) (h : SHeap) : R := match x with
  | .pv (.int i) => (match y with
    | .pv (.int j) => .ok (.pv (.int (i + j))) h
    | _ => .no)
  | .pv (.str i) => (match y with
    | .pv (.str j) => orNo (Nat.ble (i.length + j.length) SZ) (.ok (.pv (.str (i ++ j))) h)
    | _ => .no)
  | .pv (.tuple i) => (match y with
    | .pv (.tuple j) => orNo (Nat.ble (i.length + j.length) SZ) (.ok (.pv (.tuple (i ++ j))) h)
    | _ => .no)
  | _ => addLists x y h
def opBin (op : Operator) (x y : Res) (h : SHeap) : R := match op with
  | .Add => opAdd x y h
  | .Sub => onInt x y fun i j => .ok (.pv (.int (i - j))) h
  | .Mult => onInt x y fun i j => orNo (mulOk i j) (.ok (.pv (.int (i * j))) h)
  | .FloorDiv => onInt x y fun i j => orNo (decide (0 < j) && Nat.blt j.natAbs.log2 9000) (.ok (.pv (.int (i / j))) h)
  | .Mod => onInt x y fun i j => orNo (decide (0 < j)) (.ok (.pv (.int (i % j))) h)
  | .Pow => onInt x y fun i j => orNo (decide (0 ≤ j) && (Nat.ble j.natAbs 1000000 && Nat.blt i.natAbs 18446744073709551616)) (.ok (.pv (.int (i ^ j.toNat))) h)
  | _ => .no
theorem Post.no {cf : Cfg} {W : WX} {σ : L2.St} {μ : List Addr} {h : SHeap} {H : Hp} {Q : VK} {P : Prop} (p : Post cf W σ μ h H Q .no) : P := False.elim p
theorem Post.orNo {cf : Cfg} {W : WX} {σ : L2.St} {μ : List Addr} {h : SHeap} {H : Hp} {Q : VK} {c : Bool} {r : R} (p : Post cf W σ μ h H Q (orNo c r)) : c = true ∧ Post cf W σ μ h H Q r := by
  cases c with
  | true => exact ⟨rfl, p⟩
  | false => exact p.no
theorem Post.onInt {cf : Cfg} {W : WX} {σ : L2.St} {μ : List Addr} {h : SHeap} {H H1 H2 : Hp} {Q : VK} {x y : Res} {u w : V} {k : Int → Int → R} (p : Post cf W σ μ h H Q (onInt x y k)) (rx : RR cf.K μ h H1 H x u) (ry : RR cf.K μ h H2 H y w) :
    ∃ i j, u = .int i ∧ w = .int j ∧ Post cf W σ μ h H Q (k i j) := by
  unfold SM.onInt at p
  split at p
  · split at p
    · exact ⟨_, _, rx.toInt, ry.toInt, p⟩
    · exact p.no
  · exact p.no

section
variable {X : Cx}
def CMulB (i j : Int) : Prop := mulOk i j = true
theorem op_mulB : OpR X (binaryOp .Mult) (rI CMulB fun i j => .int (i * j)) := opI fun _ _ _ _ _ _ _ hc q => mul_int q (mulOk_ok hc)
/-- list + list, both read -/
def rCatR : R2 := fun x y H Q => ∃ l b xs zs, x = .ref l ∧ y = .ref b ∧ Rd H l (.lst xs) ∧ Rd H b (.lst zs) ∧ xs.length + zs.length ≤ sizeLine ∧ ∀ p, H p = none → Q (.ref p) (upd H p (.lst (xs ++ zs)))
theorem Inv.rdl {pins : List (Addr × Obj)} {σ : L2.St} {H : Hp} {s : Shared} {p : Addr} {xs : List V} (I : Inv X pins σ H s) (h : Rd H p (.lst xs)) :
    xs.length ≤ sizeLine ∧ ∃ (its : List Value) (n : Nat), Vals xs its ∧ xs.length = its.length ∧ s.heap.get? p = some { cls := .type "list", data := .seq its.toArray n } := by
  obtain ⟨z, its, n, r, e⟩ := h.ok I.hok
  exact ⟨z, its, n, r, r.length, e⟩
theorem op_catR : OpR X (binaryOp .Add) rCatR := by
  intro pins s σ H x y v u Q I rx ry h
  obtain ⟨l, b, xs, zs, rfl, rfl, hH, hB, hz, q⟩ := h
  cases rx
  cases ry
  obtain ⟨z, its, n, r, hl, e⟩ := Inv.rdl I hH
  obtain ⟨z2, its2, n2, r2, hl2, e2⟩ := Inv.rdl I hB
  refine PySem.P.add_list e e2 ?_ (by rw [List.size_toArray, List.size_toArray]; omega)
  have ea : its.toArray ++ its2.toArray = (its ++ its2).toArray := by simp
  rw [ea]
  exact ⟨.ref _, _, I.lnew (t' := s.toks) (r.append r2) (by rw [List.length_append]; omega), rfl, q _ I.fresh⟩

def rNone : R2 := fun _ _ _ _ => False
theorem opr_none {f : Value → Value → Sem Value} : OpR X f rNone := fun _ _ _ _ _ _ _ _ _ _ _ _ h => h.elim

/-- what an operator of the small machine asks of a rule -/
def BinOk (cf : Cfg) (X : Cx) (W : WX) (f : Value → Value → Sem Value) (g : Res → Res → SHeap → R) : Prop :=
  ∃ r : R2, OpR X f r ∧ ∀ {σ : L2.St} {μ : List Addr} {h : SHeap} {H Ha Hb : Hp} {x y : Res} {u w : V} {Q : VK}, RH cf.K μ h H → RR cf.K μ h Ha H x u → RR cf.K μ h Hb H y w → Post cf W σ μ h H Q (g x y h) → r u w H Q
theorem bin_ok {cf : Cfg} {W : WX} (hK : X.K = cf.K) (op : Operator) : BinOk cf X W (binaryOp op) (opBin op) := by
  cases op with
  | Add =>
    refine ⟨_, op_add.or (op_add_str.or (op_catA.or op_catR)), fun {σ μ h H Ha Hb x y u w Q} r rx ry p => ?_⟩
    have p : Post cf W σ μ h H Q (opAdd x y h) := p
    unfold opAdd at p
    split at p
    · split at p
      · obtain rfl := rx.toInt
        obtain rfl := ry.toInt
        exact .inl ⟨_, _, rfl, rfl, p.here r rrInt⟩
      · exact p.no
    · split at p
      · obtain rfl := rx.toStr
        obtain rfl := ry.toStr
        obtain ⟨hz, p⟩ := p.orNo
        exact .inr (.inl ⟨_, _, rfl, rfl, szL (Nat.le_of_ble_eq_true hz), p.here r rrStr⟩)
      · exact p.no
    · split at p
      · obtain ⟨a, vs, rfl, ha, qa⟩ := rx.toTup
        obtain ⟨b, ws, rfl, hb, qb⟩ := ry.toTup
        obtain ⟨hz, p⟩ := p.orNo
        refine .inr (.inr (.inl ⟨a, b, vs, ws, rfl, rfl, by rw [hK]; exact ha, by rw [hK]; exact hb, by rw [← qa.length, ← qb.length]; exact szL (Nat.le_of_ble_eq_true hz), fun e => ?_, fun e1 e2 => ?_, fun _ _ => Post.newT r p (qa.append qb)⟩))
        · subst e
          cases qa
          exact p.here r (rrTup hb qb)
        · subst e2
          cases qb
          rw [List.append_nil] at p
          exact p.here r (rrTup ha qa)
      · exact p.no
    · unfold addLists at p
      split at p
      · rename_i i e1
        split at p
        · rename_i j e2
          obtain ⟨hz, p⟩ := p.orNo
          obtain ⟨a, vs, rfl, ha, qa⟩ := rx.list r e1
          obtain ⟨b, ws, rfl, hb, qb⟩ := ry.list r e2
          exact .inr (.inr (.inr ⟨a, b, vs, ws, rfl, rfl, ha, hb, by rw [← qa.length, ← qb.length]; exact szL (Nat.le_of_ble_eq_true hz), Post.newL r p (qa.append qb)⟩))
        · exact p.no
      · exact p.no
  | Sub =>
    refine ⟨_, op_sub, fun {σ μ h H Ha Hb x y u w Q} r rx ry p => ?_⟩
    obtain ⟨i, j, rfl, rfl, p⟩ := Post.onInt p rx ry
    exact ⟨_, _, rfl, rfl, p.here r rrInt⟩
  | Mult =>
    refine ⟨_, op_mulB, fun {σ μ h H Ha Hb x y u w Q} r rx ry p => ?_⟩
    obtain ⟨i, j, rfl, rfl, p⟩ := Post.onInt p rx ry
    obtain ⟨c, p⟩ := p.orNo
    exact ⟨_, _, rfl, rfl, c, p.here r rrInt⟩
  | FloorDiv =>
    refine ⟨_, op_fdivW, fun {σ μ h H Ha Hb x y u w Q} r rx ry p => ?_⟩
    obtain ⟨i, j, rfl, rfl, p⟩ := Post.onInt p rx ry
    obtain ⟨c, p⟩ := p.orNo
    obtain ⟨c1, c2⟩ := Bool.and_eq_true_iff.mp c
    exact ⟨_, _, rfl, rfl, ⟨of_decide_eq_true c1, Nat.le_of_ble_eq_true c2⟩, p.here r rrInt⟩
  | Mod =>
    refine ⟨_, op_mod, fun {σ μ h H Ha Hb x y u w Q} r rx ry p => ?_⟩
    obtain ⟨i, j, rfl, rfl, p⟩ := Post.onInt p rx ry
    obtain ⟨c, p⟩ := p.orNo
    exact ⟨_, _, rfl, rfl, of_decide_eq_true c, p.here r rrInt⟩
  | Pow =>
    refine ⟨_, op_pow, fun {σ μ h H Ha Hb x y u w Q} r rx ry p => ?_⟩
    obtain ⟨i, j, rfl, rfl, p⟩ := Post.onInt p rx ry
    obtain ⟨c, p⟩ := p.orNo
    obtain ⟨c1, c2⟩ := Bool.and_eq_true_iff.mp c
    obtain ⟨c2, c3⟩ := Bool.and_eq_true_iff.mp c2
    exact ⟨_, _, rfl, rfl, ⟨of_decide_eq_true c1, (by have := Nat.le_of_ble_eq_true c2; omega), Nat.le_of_ble_eq_true c3⟩, p.here r rrInt⟩
  | _ => exact ⟨_, opr_none, fun r rx ry p => p.no⟩
end

/-! ### what an expression that answers a plain value made on the way, goes -/
def cutR (n : Nat) : R → R
  | .ok (.pv x) h => .ok (.pv x) (h.take n)
  | .ok (.ref a) h => .ok (.ref a) h
  | .ok (.scr a) h => .ok (.scr a) h
  | .exc c fs h => .exc c fs h
  | .no => .no
section
variable {cf : Cfg} {K : PySem.W.Frag} {W : WX} {σ : L2.St} {μ μ' : List Addr} {h h' : SHeap} {H H' : Hp} {Q : VK}
theorem take_some {α : Type} {l : List α} {i n : Nat} {x : α} (z : (l.take n)[i]? = some x) : l[i]? = some x ∧ i < n := by
  have hi : i < n := by
    have := (List.getElem?_eq_some_iff.mp z).1
    rw [List.length_take] at this
    omega
  rw [List.getElem?_take_of_lt hi] at z
  exact ⟨z, hi⟩
theorem live_take {n : Nat} {a : Addr} (l : Live (μ.take n) (h.take n) a) : Live μ h a := let ⟨i, o, k1, k2, ne⟩ := l; ⟨i, o, (take_some k1).1, (take_some k2).1, ne⟩
theorem RH.take (r : RH K μ h H) (n : Nat) : RH K (μ.take n) (h.take n) H where
  len := by rw [List.length_take, List.length_take, r.len]
  nd := r.nd.sublist (List.take_sublist _ _)
  tr := fun i a z => r.tr i a (take_some z).1
  obj := fun i o z ne => by
    obtain ⟨z1, hi⟩ := take_some z
    obtain ⟨a, ho, k1, k2, ro⟩ := r.obj i o z1 ne
    exact ⟨a, ho, by rw [List.getElem?_take_of_lt hi]; exact k1, k2, ro.map (fun _ _ s => s) fun b us s nl => ⟨s, fun l => nl (live_take l)⟩⟩
theorem Go.take (g : Go μ h H μ' h' H') (r : RH K μ h H) {n : Nat} (hn : h.length ≤ n) : Go μ h H (μ'.take n) (h'.take n) H' := by
  have lt0 : ∀ {i : Nat} {o : SO}, h[i]? = some o → i < n := fun z => Nat.lt_of_lt_of_le (List.getElem?_eq_some_iff.mp z).1 hn
  exact ⟨fun i a z => by rw [List.getElem?_take_of_lt (Nat.lt_of_lt_of_le (List.getElem?_eq_some_iff.mp z).1 (by rw [r.len]; exact hn))]; exact g.pre i a z, fun i a z => g.new i a (take_some z).1, fun i z => by rw [List.getElem?_take_of_lt (lt0 z)]; exact g.dead i z, fun i xs z => by rw [List.getElem?_take_of_lt (lt0 z)]; exact g.lk i xs z,
    fun i z => by rw [List.getElem?_take_of_lt (lt0 z)]; exact g.bz i z, g.pres, g.trk⟩
theorem Post.cut {res : R} (r : RH cf.K μ h H) (p : Post cf W σ μ h H Q (cutR h.length res)) : Post cf W σ μ h H Q res := by
  cases res with
  | ok x h' =>
    cases x with
    | pv x => exact fun μ' w H' g r' rr => p (μ'.take h.length) w H' (g.take r (Nat.le_refl _)) (r'.take _) (show RP _ _ _ _ _ from RP.map (fun _ _ s => s) (fun b us s nl => ⟨s, fun l => nl (live_take l)⟩) _ _ rr)
    | ref a => exact p
    | scr a => exact p
  | exc c fs h' => exact p
  | no => exact p
def rCut (ra : REnv → SHeap → R) : REnv → SHeap → R := fun ρ h => cutR h.length (ra ρ h)
theorem tX.cut {ra : REnv → SHeap → R} {H : Hp} (p : tX cf W (rCut ra) σ H Q) : tX cf W ra σ H Q := by
  obtain ⟨μ, ρ, h, r, e, p⟩ := p
  exact ⟨μ, ρ, h, r, e, p.cut r⟩
theorem x_cut {X : Cx} {e : Expr} {ra : REnv → SHeap → R} (ha : PE X e (tX cf W ra)) : PE X e (tX cf W (rCut ra)) := ha.imp fun _ _ _ q => q.cut
theorem x_cutT {X : Cx} {e : Expr} {ra : REnv → SHeap → R} (ha : PT X e (tB (tX cf W ra))) : PT X e (tB (tX cf W (rCut ra))) := ⟨fun pins s σ H Q I q => ha.run pins s σ H Q I (tX.cut q)⟩
end
end SM

set_option maxRecDepth 100000
set_option maxHeartbeats 4000000
namespace SM
open PySem PySem.Spec PyProof.Rows L2

/-! ### comparisons -/
def Res.pv? (h : SHeap) (x : Res) : Option PV := match x with
  | .pv d => some d
  | y => (y.list? h).map .list
def deepEq (x y : Res) (h : SHeap) (k : Bool → Bool) : R := match x.pv? h with
  | some d => (match y.pv? h with
    | some e => orNo (SeqAt.shaped d && SeqAt.shaped e) (.ok (.pv (.bool (k (PyData.eqv d e)))) h)
    | none => .no)
  | none => .no
def eqF (k : Bool → Bool) (x y : Res) (h : SHeap) : R := match x with
  | .pv (.int i) => (match y with
    | .pv (.int j) => .ok (.pv (.bool (k (decide (i = j))))) h
    | _ => deepEq x y h k)
  | .pv (.str i) => (match y with
    | .pv (.str j) => .ok (.pv (.bool (k (decide (i = j))))) h
    | _ => deepEq x y h k)
  | _ => deepEq x y h k
@[simp] def Res.isNon : Res → Bool
  | .pv .none => true | _ => false
@[simp] def Res.isBl (b : Bool) : Res → Bool
  | .pv (.bool c) => c == b | _ => false
/-- is: the right one None, True or False -/
def isF (k : Bool → Bool) (x y : Res) (h : SHeap) : R := match y with
  | .pv .none => .ok (.pv (.bool (k x.isNon))) h
  | .pv (.bool b) => .ok (.pv (.bool (k (x.isBl b)))) h
  | _ => .no
def flatP : PV → Bool
  | .none => true | .bool _ => true | .int _ => true | .str _ => true | _ => false
def strIn (x y : Str) : Bool := !(Builtin.Str.occurrences y x 0 y.length 1).isEmpty
def Res.seq? (h : SHeap) (x : Res) : Option (List PV) := match x with
  | .pv (.tuple xs) => some xs
  | y => y.list? h
def inF (k : Bool → Bool) (x y : Res) (h : SHeap) : R := match y with
  | .pv (.str j) => (match x with
    | .pv (.str i) => .ok (.pv (.bool (k (strIn i j)))) h
    | _ => .no)
  | _ => (match y.seq? h with
    | some ys => (match x with
      | .pv d => orNo (flatP d && ys.all flatP) (.ok (.pv (.bool (k (ys.any fun z => PyData.eqv z d)))) h)
      | _ => .no)
    | none => .no)
def onStr (x y : Res) (k : Str → Str → R) : R := match x with
  | .pv (.str i) => (match y with
    | .pv (.str j) => k i j
    | _ => .no)
  | _ => .no
def ordF (f : Int → Int → Bool) (x y : Res) (h : SHeap) : R := onInt x y fun i j => .ok (.pv (.bool (f i j))) h
def cmpF (op : CmpOp) (x y : Res) (h : SHeap) : R := match op with
  | .Eq => eqF id x y h
  | .NotEq => eqF not x y h
  | .Lt => ordF (fun i j => decide (i < j)) x y h
  | .LtE => ordF (fun i j => decide (i ≤ j)) x y h
  | .Gt => ordF (fun i j => decide (j < i)) x y h
  | .GtE => ordF (fun i j => decide (j ≤ i)) x y h
  | .Is => isF id x y h
  | .IsNot => isF not x y h
  | .In => inF id x y h
  | .NotIn => inF not x y h

section
variable {X : Cx}
def rIsC (k : Bool → Bool) : R2 := fun x y H Q => (y = .non ∨ ∃ b, y = .bl b) ∧ Q (.bl (k (decide (x = y)))) H
theorem beq_dec {x y : V} {v u : Value} (rx : RelV x v) (ry : RelV y u) (hy : y = .non ∨ ∃ b, y = .bl b) : plainIs v u = true ∧ (v == u) = decide (x = y) := by
  have key : plainIs v u = true := by
    rcases hy with rfl | ⟨b, rfl⟩
    · cases ry
      cases x with
      | int _ => obtain ⟨t, rfl⟩ := rx; rfl
      | str _ => obtain ⟨t, rfl⟩ := rx; rfl
      | byt _ => obtain ⟨t, rfl⟩ := rx; rfl
      | flt _ => obtain ⟨t, rfl⟩ := rx; rfl
      | _ => cases rx; rfl
    · cases ry
      cases x with
      | int _ => obtain ⟨t, rfl⟩ := rx; rfl
      | str _ => obtain ⟨t, rfl⟩ := rx; rfl
      | byt _ => obtain ⟨t, rfl⟩ := rx; rfl
      | flt _ => obtain ⟨t, rfl⟩ := rx; rfl
      | _ => cases rx; rfl
  refine ⟨key, ?_⟩
  by_cases e : x = y
  · subst e
    have : v = u := by
      rcases hy with rfl | ⟨b, rfl⟩
      · cases rx; cases ry; rfl
      · cases rx; cases ry; rfl
    subst this
    simp
  · have ne : v ≠ u := fun z => e (by subst z; exact rx.inj ry)
    rw [beq_eq_false_iff_ne.mpr ne, decide_eq_false e]
theorem op_isC : OpR X (compareOp .Is) (rIsC id) := by
  intro pins s σ H x y v u Q I rx ry h
  obtain ⟨hy, q⟩ := h
  obtain ⟨hp, e⟩ := beq_dec rx ry hy
  exact wpAny_is_plain hp ⟨.bl _, H, I, by rw [e]; rfl, q⟩
theorem op_isnC : OpR X (compareOp .IsNot) (rIsC not) := by
  intro pins s σ H x y v u Q I rx ry h
  obtain ⟨hy, q⟩ := h
  obtain ⟨hp, e⟩ := beq_dec rx ry hy
  exact wpAny_isNot_plain hp ⟨.bl _, H, I, by rw [e]; rfl, q⟩
end
section
variable {cf : Cfg} {K : PySem.W.Frag} {W : WX} {σ : L2.St} {μ : List Addr} {h : SHeap} {H H₀ H₁ H₂ : Hp} {Q : VK}
theorem RR.pvD {x : Res} {w : V} {d : PV} (r : RH K μ h H) (q : RR K μ h H₀ H x w) (e : x.pv? h = some d) : Dp K H w d := by
  unfold Res.pv? at e
  split at e
  · cases e; exact RP.dp _ _ q
  · cases z : x.list? h with
    | none => rw [z] at e; cases e
    | some xs =>
      rw [z] at e
      cases e
      obtain ⟨a, vs, rfl, h1, h2⟩ := q.list r z
      exact .lst (.inl h1) (RPs.dp _ _ h2)
theorem RR.seq {x : Res} {w : V} {xs : List PV} (r : RH K μ h H) (q : RR K μ h H₀ H x w) (e : x.seq? h = some xs) : ∃ a vs, w = .ref a ∧ (SqL K H a vs ∨ SqT K H a vs) ∧ RPs K H (Live μ h) xs vs := by
  unfold Res.seq? at e
  split at e
  · cases e
    obtain ⟨a, vs, rfl, h1, h2⟩ := q.toTup
    exact ⟨a, vs, rfl, .inr h1, h2⟩
  · obtain ⟨a, vs, rfl, h1, h2⟩ := q.list r e
    exact ⟨a, vs, rfl, .inl (.inl h1), h2⟩
theorem flat_of {M : Addr → Prop} {d : PV} {w : V} (q : RP K H M d w) (f : flatP d = true) : flatV w = true ∧ ∀ e u, RP K H M e u → flatP e = true → eqV u w = PyData.eqv e d := by
  cases q with
  | non => exact ⟨rfl, fun e u r f => by cases r <;> first | rfl | cases f⟩
  | bl b => exact ⟨rfl, fun e u r f => by cases r <;> first | rfl | cases f⟩
  | int i => exact ⟨rfl, fun e u r f => by cases r <;> first | rfl | cases f⟩
  | str x => exact ⟨rfl, fun e u r f => by cases r <;> first | rfl | cases f⟩
  | lst _ _ _ => cases f
  | tup _ _ => cases f
theorem any_of {M : Addr → Prop} {d : PV} {w : V} (q : RP K H M d w) (f : flatP d = true) : ∀ {ys : List PV} {vs : List V}, RPs K H M ys vs → ys.all flatP = true → vs.all flatV = true ∧ inV w vs = ys.any fun z => PyData.eqv z d
  | [], _, h, _ => by cases h; exact ⟨rfl, rfl⟩
  | y :: ys, _, h, g => by
    cases h with
    | cons h1 h2 =>
      rw [List.all_cons, Bool.and_eq_true] at g
      obtain ⟨i1, i2⟩ := any_of q f h2 g.2
      obtain ⟨f1, _⟩ := flat_of h1 g.1
      refine ⟨by rw [List.all_cons, f1, i1]; rfl, ?_⟩
      unfold inV at i2 ⊢
      rw [List.any_cons, List.any_cons, i2, (flat_of q f).2 _ _ h1 g.1]
theorem Post.onStr {x y : Res} {u w : V} {k : Str → Str → R} (p : Post cf W σ μ h H Q (SM.onStr x y k)) (rx : RR cf.K μ h H₁ H x u) (ry : RR cf.K μ h H₂ H y w) :
    ∃ i j, u = .str i ∧ w = .str j ∧ Post cf W σ μ h H Q (k i j) := by
  unfold SM.onStr at p
  split at p
  · split at p
    · exact ⟨_, _, rx.toStr, ry.toStr, p⟩
    · exact p.no
  · exact p.no
end
section
variable {X : Cx} {cf : Cfg} {W : WX}
theorem eq_ok {op : CmpOp} {k : Bool → Bool} {rd : R2} (o1 : OpR X (compareOp op) (fun x y H Q => scal x y = true ∧ Q (.bl (k (decide (x = y)))) H)) (o2 : OpR X (compareOp op) (fun x y H Q => ∃ d e, Dp cf.K H x d ∧ Dp cf.K H y e ∧ SeqAt.shaped d = true ∧ SeqAt.shaped e = true ∧ Q (.bl (k (PyData.eqv d e))) H)) :
    BinOk cf X W (compareOp op) (eqF k) := by
  refine ⟨_, o1.or o2, fun {σ μ h H Ha Hb x y u w Q} r rx ry p => ?_⟩
  have deep : Post cf W σ μ h H Q (deepEq x y h k) → ∃ d e, Dp cf.K H u d ∧ Dp cf.K H w e ∧ SeqAt.shaped d = true ∧ SeqAt.shaped e = true ∧ Q (.bl (k (PyData.eqv d e))) H := fun p => by
    unfold deepEq at p
    split at p
    · rename_i d e1
      split at p
      · rename_i e e2
        obtain ⟨c, p⟩ := p.orNo
        obtain ⟨c1, c2⟩ := Bool.and_eq_true_iff.mp c
        exact ⟨d, e, rx.pvD r e1, ry.pvD r e2, c1, c2, p.here r rrBl⟩
      · exact p.no
    · exact p.no
  unfold eqF at p
  split at p
  · split at p
    · obtain rfl := rx.toInt
      obtain rfl := ry.toInt
      refine .inl ⟨rfl, ?_⟩
      have z := p.here r (w := .bl _) rrBl
      rename_i i _ j
      have e : decide (V.int i = V.int j) = decide (i = j) := by
        by_cases e : i = j
        · subst e; simp
        · rw [decide_eq_false e, decide_eq_false fun z => e (V.int.inj z)]
      rw [e]; exact z
    · exact .inr (deep p)
  · split at p
    · obtain rfl := rx.toStr
      obtain rfl := ry.toStr
      refine .inl ⟨rfl, ?_⟩
      have z := p.here r (w := .bl _) rrBl
      rename_i i _ j
      have e : decide (V.str i = V.str j) = decide (i = j) := by
        by_cases e : i = j
        · subst e; simp
        · rw [decide_eq_false e, decide_eq_false fun z => e (V.str.inj z)]
      rw [e]; exact z
    · exact .inr (deep p)
  · exact .inr (deep p)
theorem is_ok {op : CmpOp} {k : Bool → Bool} (o : OpR X (compareOp op) (rIsC k)) : BinOk cf X W (compareOp op) (isF k) := by
  refine ⟨_, o, fun {σ μ h H Ha Hb x y u w Q} r rx ry p => ?_⟩
  unfold isF at p
  split at p
  · obtain rfl := ry.toNon
    refine ⟨.inl rfl, ?_⟩
    have z := p.here r (w := .bl _) rrBl
    have e : decide (u = V.non) = x.isNon := by
      cases x with
      | pv d => cases rx <;> rfl
      | ref a => obtain ⟨_, _, rfl⟩ := rx; rfl
      | scr a => obtain ⟨_, _, rfl, _, _⟩ := rx; rfl
    rw [e]; exact z
  · rename_i b
    obtain rfl := ry.toBl
    refine ⟨.inr ⟨_, rfl⟩, ?_⟩
    have z := p.here r (w := .bl _) rrBl
    have e : decide (u = V.bl b) = x.isBl b := by
      cases x with
      | pv d =>
        cases rx with
        | bl c => cases c <;> cases b <;> rfl
        | _ => rfl
      | ref a => obtain ⟨_, _, rfl⟩ := rx; rfl
      | scr a => obtain ⟨_, _, rfl, _, _⟩ := rx; rfl
    rw [e]; exact z
  · exact p.no
theorem in_ok {op : CmpOp} {neg : Bool} {k : Bool → Bool} (hk : ∀ b, k b = if neg then !b else b) (o1 : OpR X (compareOp op) (fun x y H Q => ∃ i j, x = .str i ∧ y = .str j ∧ Q (.bl (k (strIn i j))) H)) (o2 : OpR X (compareOp op) (rIn cf.K neg)) : BinOk cf X W (compareOp op) (inF k) := by
  refine ⟨_, o1.or o2, fun {σ μ h H Ha Hb x y u w Q} r rx ry p => ?_⟩
  unfold inF at p
  split at p
  · split at p
    · obtain rfl := rx.toStr
      obtain rfl := ry.toStr
      exact .inl ⟨_, _, rfl, rfl, p.here r rrBl⟩
    · exact p.no
  · split at p
    · rename_i ys e
      split at p
      · rename_i d
        obtain ⟨c, p⟩ := p.orNo
        obtain ⟨c1, c2⟩ := Bool.and_eq_true_iff.mp c
        obtain ⟨a, vs, rfl, hs, hv⟩ := ry.seq r e
        obtain ⟨i1, i2⟩ := any_of (K := cf.K) rx c1 hv c2
        refine .inr ⟨a, vs, rfl, hs, (flat_of (K := cf.K) rx c1).1, i1, ?_⟩
        have z := p.here r (w := .bl _) rrBl
        rw [hk] at z
        rw [← i2] at z
        cases neg <;> exact z
      · exact p.no
    · exact p.no
theorem ord_ok {op : CmpOp} {f : Int → Int → Bool} (o : OpR X (compareOp op) (rI0 fun i j => .bl (f i j))) : BinOk cf X W (compareOp op) (ordF f) := by
  refine ⟨_, o, fun {σ μ h H Ha Hb x y u w Q} r rx ry p => ?_⟩
  obtain ⟨i, j, rfl, rfl, p⟩ := Post.onInt p rx ry
  exact ⟨_, _, rfl, rfl, p.here r rrBl⟩
theorem cmp_ok (hK : X.K = cf.K) (hu : X.A.units + 64 < cLine) (op : CmpOp) : BinOk cf X W (compareOp op) (cmpF op) := by
  cases op with
  | Eq => exact eq_ok (rd := rNone) (k := id) op_eq (hK ▸ op_eqD hu)
  | NotEq => exact eq_ok (rd := rNone) (k := not) op_ne (hK ▸ op_neD hu)
  | Lt => exact ord_ok op_lt
  | LtE => exact ord_ok op_le
  | Gt => exact ord_ok op_gt
  | GtE => exact ord_ok op_ge
  | Is => exact is_ok op_isC
  | IsNot => exact is_ok op_isnC
  | In => exact in_ok (neg := false) (k := id) (fun _ => rfl) op_in_str (hK ▸ op_in_seq)
  | NotIn => exact in_ok (neg := true) (k := not) (fun _ => rfl) op_notin_str (hK ▸ op_notIn_seq)
end
end SM

set_option maxRecDepth 100000
set_option maxHeartbeats 4000000
namespace SM
open PySem PySem.Spec PyProof.Rows L2

/-! ### several results -/
inductive RRs (K : PySem.W.Frag) (μ : List Addr) (h : SHeap) (H₀ H : Hp) : List Res → List V → Prop
  | nil : RRs K μ h H₀ H [] []
  | cons {x : Res} {w : V} {xs : List Res} {ws : List V} : RR K μ h H₀ H x w → RRs K μ h H₀ H xs ws → RRs K μ h H₀ H (x :: xs) (w :: ws)
def PostA (cf : Cfg) (W : WX) (σ : L2.St) (μ : List Addr) (h : SHeap) (H : Hp) (Q : List V → Hp → Prop) : RM (List Res) → Prop
  | .ok r h' => ∀ μ' w H', Go μ h H μ' h' H' → RH cf.K μ' h' H' → RRs cf.K μ' h' H H' r w → Q w H'
  | .exc c fs h' => ∀ μ' H' cls d, Go μ h H μ' h' H' → RH cf.K μ' h' H' → RX cf H' (Live μ' h') c fs cls d → W cls d σ H'
  | .no => False
def tXA (cf : Cfg) (W : WX) (run : REnv → SHeap → RM (List Res)) : TA := fun σ H Q => ∃ μ ρ h, RH cf.K μ h H ∧ REs cf.K μ h H ρ σ ∧ PostA cf W σ μ h H Q (run ρ h)
section
variable {cf : Cfg} {K : PySem.W.Frag} {W : WX} {σ : L2.St} {μ μ' μ₁ : List Addr} {h h' h₁ : SHeap} {H H' H₀ H₁ : Hp} {ρ : REnv}
theorem RRs.back {xs : List Res} {ws : List V} (p : RRs K μ h H₁ H xs ws) (t : ∀ a, H₀ a ≠ none → H₁ a ≠ none) : RRs K μ h H₀ H xs ws := by
  induction p with
  | nil => exact .nil
  | cons r _ ih => exact .cons (r.back t) ih
theorem RRs.go {xs : List Res} {ws : List V} (p : RRs K μ h H₀ H xs ws) (g : Go μ h H μ' h' H') (r : RH K μ h H) : RRs K μ' h' H₀ H' xs ws := by
  induction p with
  | nil => exact .nil
  | cons q _ ih => exact .cons (q.go g r) ih
theorem RRs.length {xs : List Res} {ws : List V} (p : RRs K μ h H₀ H xs ws) : xs.length = ws.length := by
  induction p with
  | nil => rfl
  | cons q _ ih => simp [ih]
theorem PostA.later {Q : List V → Hp → Prop} {res : RM (List Res)} (p : PostA cf W σ μ h H Q res) (g : Go μ h H μ₁ h₁ H₁) (r : RH cf.K μ h H) : PostA cf W σ μ₁ h₁ H₁ Q res := by
  cases res with
  | ok x h' => exact fun μ' w H' g' r' rr => p μ' w H' (g.trans g' r) r' (rr.back g.trk)
  | exc c fs h' => exact fun μ' H' cls d g' r' rx => p μ' H' cls d (g.trans g' r) r' rx
  | no => exact p
theorem PostA.mono {Q Q' : List V → Hp → Prop} {res : RM (List Res)} (p : PostA cf W σ μ h H Q res) (k : ∀ w H', Q w H' → Q' w H') : PostA cf W σ μ h H Q' res := by
  cases res with
  | ok x h' => exact fun μ' w H' g' r' rr => k _ _ (p μ' w H' g' r' rr)
  | exc c fs h' => exact p
  | no => exact p
theorem PostA.bind {Q : VK} {ra : RM (List Res)} {k : List Res → SHeap → R} (r : RH cf.K μ h H) (p : Post cf W σ μ h H Q (ra.bind k)) :
    PostA cf W σ μ h H (fun x H1 => ∃ μ1 y h1, Go μ h H μ1 h1 H1 ∧ RH cf.K μ1 h1 H1 ∧ RRs cf.K μ1 h1 H H1 y x ∧ Post cf W σ μ1 h1 H1 Q (k y h1)) ra := by
  cases ra with
  | ok x h' => exact fun μ' w H' g' r' rr => ⟨μ', x, h', g', r', rr, Post.later p g' r⟩
  | exc c fs h' => exact p
  | no => exact p
end

def evCons (ra : REnv → SHeap → R) (rb : REnv → SHeap → RM (List Res)) : REnv → SHeap → RM (List Res) := fun ρ h => (ra ρ h).bind fun x h1 => (rb ρ h1).bind fun xs h2 => .ok (x :: xs) h2
section
variable {X : Cx} {cf : Cfg} {W : WX} {e a b c : Expr} {es : List Expr} {ra rb rc : REnv → SHeap → R} {rs : REnv → SHeap → RM (List Res)} {pos : Pos}
theorem xa_nil : PA X [] (tXA cf W fun _ h => .ok [] h) := ⟨fun pos pins s σ H Q I ⟨μ, ρ, h, r, e, p⟩ => pa_nil.run pos pins s σ H Q I (p μ [] H Go.refl r .nil)⟩
theorem xa_cons (ha : PE X e (tX cf W ra)) (hb : PA X es (tXA cf W rs)) (hs : starEach (e :: es) X.env = (false, eval e X.env) :: starEach es X.env) : PA X (e :: es) (tXA cf W (evCons ra rs)) := by
  refine ⟨fun pos pins s σ H Q I ⟨μ, ρ, h, r, en, p⟩ => (pa_cons ha hb hs).run pos pins s σ H Q I ?_⟩
  refine ⟨μ, ρ, h, r, en, ?_⟩
  unfold evCons at p
  cases ea : ra ρ h with
  | no => rw [ea] at p; exact p
  | exc c fs h1 => rw [ea] at p; exact p
  | ok x h1 =>
    rw [ea] at p
    intro μ1 w H1 g1 r1 rr1
    refine ⟨μ1, ρ, h1, r1, en.go g1 r, ?_⟩
    have p : PostA cf W σ μ h H Q ((rs ρ h1).bind fun xs h2 => .ok (x :: xs) h2) := p
    cases eb : rs ρ h1 with
    | no => rw [eb] at p; exact p
    | exc c fs h2 => rw [eb] at p; exact fun μ' H' cls d g' r' rx => p μ' H' cls d (g1.trans g' r) r' rx
    | ok xs h2 =>
      rw [eb] at p
      intro μ2 ws H2 g2 r2 rr2
      exact p μ2 (w :: ws) H2 (g1.trans g2 r) r2 (.cons (rr1.go g2 r1) (rr2.back g1.trk))

/-! ### the small parts -/
def rVar (i : Nat) : REnv → SHeap → R := fun ρ h => match ρ[i]? with
  | some (some (.pv x)) => .ok (.pv x) h
  | some (some (.ref a)) => .ok (.ref a) h
  | some (some (.scr a)) => .ok (.scr a) h
  | _ => .no
theorem x_var {i : Nat} {x : Str} (hN : X.N[i]? = some x) (hv : Vis X.env.scope x) (hd : (x == ("__debug__" : Str)) = false) (hcd : (x == ("__classdict__" : Str)) = false) : PE X (.Name x pos) (tX cf W (rVar i)) := by
  refine (pe_var (pos := pos) hN hv hd hcd).imp fun σ H Q ⟨μ, ρ, h, r, en, p⟩ => ?_
  unfold rVar at p
  split at p
  · rename_i y e1
    obtain ⟨w, e2, q⟩ := en.at_ _ _ e1
    exact ⟨w, e2, p.here r q⟩
  · rename_i y e1
    obtain ⟨w, e2, q⟩ := en.at_ _ _ e1
    exact ⟨w, e2, p.here r q⟩
  · rename_i y e1
    obtain ⟨w, e2, q⟩ := en.at_ _ _ e1
    exact ⟨w, e2, p.here r q⟩
  · exact p.no
def rCst (v : PV) : REnv → SHeap → R := fun _ h => .ok (.pv v) h
theorem x_cst {v : PV} {w : V} (hc : PE X e (tC w)) (hr : ∀ H M, RP cf.K H M v w) : PE X e (tX cf W (rCst v)) :=
  hc.imp fun σ H Q ⟨μ, ρ, h, r, en, p⟩ => p.here (x := .pv v) r (hr _ _)
def rNo : REnv → SHeap → R := fun _ _ => .no
theorem x_no : PE X e (tX cf W rNo) := ⟨fun _ _ _ _ _ _ ⟨_, _, _, _, _, p⟩ => p.no⟩
def rOp (g : Res → Res → SHeap → R) (ra rb : REnv → SHeap → R) : REnv → SHeap → R := fun ρ h => (ra ρ h).bind fun x h1 => (rb ρ h1).bind fun y h2 => g x y h2
theorem x_opT {g : Res → Res → SHeap → R} {r : R2} (hr : ∀ {σ : L2.St} {μ : List Addr} {h : SHeap} {H Ha Hb : Hp} {x y : Res} {u w : V} {Q : VK}, RH cf.K μ h H → RR cf.K μ h Ha H x u → RR cf.K μ h Hb H y w → Post cf W σ μ h H Q (g x y h) → r u w H Q)
    {σ : L2.St} {H : Hp} {Q : VK} (q : tX cf W (rOp g ra rb) σ H Q) : tOp r (tX cf W ra) (tX cf W rb) σ H Q := by
  refine (tX.bind (k := fun ρ x h1 => (rb ρ h1).bind fun y h2 => g x y h2) q).mono fun x H1 ⟨μ1, ρ, y, h1, H0, r1, e1, rr1, t1, p⟩ => ?_
  refine ⟨μ1, ρ, h1, r1, e1, (Post.bind r1 p).mono fun z H2 ⟨μ2, y2, h2, g2, r2, rr2, p2⟩ => ?_⟩
  exact hr r2 (rr1.go g2 r1) rr2 p2
theorem x_bin {op : Operator} (hK : X.K = cf.K) (ha : PE X a (tX cf W ra)) (hb : PE X b (tX cf W rb)) : PE X (.BinOp a op b pos) (tX cf W (rOp (opBin op) ra rb)) := by
  obtain ⟨r, ho, hr⟩ := bin_ok (W := W) hK op
  exact (pe_op ho ha hb).imp fun σ H Q q => x_opT hr q
theorem x_cmp {op : CmpOp} (hK : X.K = cf.K) (hu : X.A.units + 64 < cLine) (hm : behindInMarks op b = false) (ha : PE X a (tX cf W ra)) (hb : PE X b (tX cf W rb)) :
    PE X (.Compare a [op] [b] pos) (tX cf W (rOp (cmpF op) ra rb)) ∧ PT X (.Compare a [op] [b] pos) (tB (tX cf W (rOp (cmpF op) ra rb))) := by
  obtain ⟨r, ho, hr⟩ := cmp_ok (W := W) hK hu op
  exact ⟨(pe_cmpR ho ha hb hm).imp fun σ H Q q => x_opT hr q, ⟨fun pins s σ H Q I q => (pt_cmpR ho ha hb hm).run pins s σ H Q I (x_opT hr q)⟩⟩
/-- a op b op' c -/
def rChain (g g' : Res → Res → SHeap → R) (ra rb rc : REnv → SHeap → R) : REnv → SHeap → R := fun ρ h => (ra ρ h).bind fun x h1 => (rb ρ h1).bind fun y h2 => (g x y h2).bind fun z h3 => match z with
  | .pv (.bool true) => (rc ρ h3).bind fun v h4 => g' y v h4
  | .pv (.bool false) => .ok (.pv (.bool false)) h3
  | _ => .no
theorem x_chainT {g g' : Res → Res → SHeap → R} {r r' : R2}
    (hr : ∀ {σ : L2.St} {μ : List Addr} {h : SHeap} {H Ha Hb : Hp} {x y : Res} {u w : V} {Q : VK}, RH cf.K μ h H → RR cf.K μ h Ha H x u → RR cf.K μ h Hb H y w → Post cf W σ μ h H Q (g x y h) → r u w H Q)
    (hr' : ∀ {σ : L2.St} {μ : List Addr} {h : SHeap} {H Ha Hb : Hp} {x y : Res} {u w : V} {Q : VK}, RH cf.K μ h H → RR cf.K μ h Ha H x u → RR cf.K μ h Hb H y w → Post cf W σ μ h H Q (g' x y h) → r' u w H Q)
    {σ : L2.St} {H : Hp} {Q : VK} (q : tX cf W (rChain g g' ra rb rc) σ H Q) : tChain r r' (tX cf W ra) (tX cf W rb) (tX cf W rc) σ H Q := by
  refine (tX.bind (k := fun ρ x h1 => (rb ρ h1).bind fun y h2 => (g x y h2).bind fun z h3 => match z with
    | .pv (.bool true) => (rc ρ h3).bind fun v h4 => g' y v h4
    | .pv (.bool false) => .ok (.pv (.bool false)) h3
    | _ => .no) q).mono fun u H1 ⟨μ1, ρ, x, h1, H0, r1, e1, rr1, t1, p⟩ => ?_
  refine ⟨μ1, ρ, h1, r1, e1, (Post.bind r1 p).mono fun w H2 ⟨μ2, y, h2, g2, r2, rr2, p2⟩ => ?_⟩
  refine hr r2 (rr1.go g2 r1) rr2 ((Post.bind r2 p2).mono fun z H3 ⟨μ3, zr, h3, g3, r3, rr3, p3⟩ => ?_)
  split at p3
  · refine ⟨true, rr3.toBl, ?_⟩
    rw [if_pos rfl]
    refine ⟨μ3, ρ, h3, r3, (e1.go g2 r1).go g3 r2, (Post.bind r3 p3).mono fun v H4 ⟨μ4, vr, h4, g4, r4, rr4, p4⟩ => ?_⟩
    exact hr' r4 ((rr2.go g3 r2).go g4 r3) rr4 p4
  · refine ⟨false, rr3.toBl, ?_⟩
    rw [if_neg Bool.false_ne_true]
    exact p3.here r3 rrBl
  · exact p3.no
theorem x_chain {op op' : CmpOp} (hK : X.K = cf.K) (hu : X.A.units + 64 < cLine) (hm : lastMarks [op, op'] [b, c] = false) (ha : PE X a (tX cf W ra)) (hb : PE X b (tX cf W rb)) (hc : PE X c (tX cf W rc)) :
    PE X (.Compare a [op, op'] [b, c] pos) (tX cf W (rChain (cmpF op) (cmpF op') ra rb rc)) ∧ PT X (.Compare a [op, op'] [b, c] pos) (tB (tX cf W (rChain (cmpF op) (cmpF op') ra rb rc))) := by
  obtain ⟨r, ho, hr⟩ := cmp_ok (W := W) hK hu op
  obtain ⟨r', ho', hr'⟩ := cmp_ok (W := W) hK hu op'
  exact ⟨(pe_chain ho ho' ha hb hc hm).imp fun σ H Q q => x_chainT hr hr' q, ⟨fun pins s σ H Q I q => (pt_chain ho ho' ha hb hc hm).run pins s σ H Q I (x_chainT hr hr' q)⟩⟩
/-- by a bool -/
def onBl (x : Res) (k : Bool → R) : R := match x with
  | .pv (.bool b) => k b
  | _ => .no
theorem Post.onBl {σ : L2.St} {μ : List Addr} {h : SHeap} {H H1 : Hp} {Q : VK} {x : Res} {u : V} {k : Bool → R} (p : Post cf W σ μ h H Q (SM.onBl x k)) (rx : RR cf.K μ h H1 H x u) : ∃ b, u = .bl b ∧ Post cf W σ μ h H Q (k b) := by
  unfold SM.onBl at p
  split at p
  · exact ⟨_, rx.toBl, p⟩
  · exact p.no
def rAnd (ra rb : REnv → SHeap → R) : REnv → SHeap → R := fun ρ h => (ra ρ h).bind fun x h1 => onBl x fun b => if b = true then rb ρ h1 else .ok (.pv (.bool false)) h1
def rOr (ra rb : REnv → SHeap → R) : REnv → SHeap → R := fun ρ h => (ra ρ h).bind fun x h1 => onBl x fun b => if b = true then .ok (.pv (.bool true)) h1 else rb ρ h1
def rNot (ra : REnv → SHeap → R) : REnv → SHeap → R := fun ρ h => (ra ρ h).bind fun x h1 => onBl x fun b => .ok (.pv (.bool (!b))) h1
def rIfe (rc ra rb : REnv → SHeap → R) : REnv → SHeap → R := fun ρ h => (rc ρ h).bind fun x h1 => onBl x fun b => if b = true then ra ρ h1 else rb ρ h1
theorem x_andV {σ : L2.St} {H : Hp} {Q : VK} (q : tX cf W (rAnd ra rb) σ H Q) : tAndV (tX cf W ra) (tX cf W rb) σ H Q := by
  refine (tX.bind (k := fun ρ x h1 => onBl x fun b => if b = true then rb ρ h1 else .ok (.pv (.bool false)) h1) q).mono fun u H1 ⟨μ1, ρ, x, h1, H0, r1, e1, rr1, t1, p⟩ => ?_
  obtain ⟨b, rfl, p⟩ := Post.onBl p rr1
  refine ⟨b, rfl, ?_⟩
  cases b with
  | true => exact ⟨μ1, ρ, h1, r1, e1, p⟩
  | false => exact Post.here (x := .pv (.bool false)) r1 p rrBl
theorem x_orV {σ : L2.St} {H : Hp} {Q : VK} (q : tX cf W (rOr ra rb) σ H Q) : tOrV (tX cf W ra) (tX cf W rb) σ H Q := by
  refine (tX.bind (k := fun ρ x h1 => onBl x fun b => if b = true then .ok (.pv (.bool true)) h1 else rb ρ h1) q).mono fun u H1 ⟨μ1, ρ, x, h1, H0, r1, e1, rr1, t1, p⟩ => ?_
  obtain ⟨b, rfl, p⟩ := Post.onBl p rr1
  refine ⟨b, rfl, ?_⟩
  cases b with
  | true => exact Post.here (x := .pv (.bool true)) r1 p rrBl
  | false => exact ⟨μ1, ρ, h1, r1, e1, p⟩
/-- a test's reading, by the value's -/
theorem tB_mono {t : TE} {σ : L2.St} {H : Hp} {Q Q' : Bool → Hp → Prop} (h : tB t σ H Q) (m : ∀ {Q Q' : VK}, t σ H Q → (∀ v H', Q v H' → Q' v H') → t σ H Q') (k : ∀ b H', Q b H' → Q' b H') : tB t σ H Q' :=
  m h fun _ _ ⟨c, e, q⟩ => ⟨c, e, k _ _ q⟩
theorem x_andT {σ : L2.St} {H : Hp} {Q : Bool → Hp → Prop} (q : tB (tX cf W (rAnd ra rb)) σ H Q) : tAnd (tB (tX cf W ra)) (tB (tX cf W rb)) σ H Q := by
  refine (tX.bind (k := fun ρ x h1 => onBl x fun b => if b = true then rb ρ h1 else .ok (.pv (.bool false)) h1) q).mono fun u H1 ⟨μ1, ρ, x, h1, H0, r1, e1, rr1, t1, p⟩ => ?_
  obtain ⟨b, rfl, p⟩ := Post.onBl p rr1
  refine ⟨b, rfl, ?_⟩
  cases b with
  | true => rw [if_pos rfl]; exact ⟨μ1, ρ, h1, r1, e1, p⟩
  | false =>
    rw [if_neg Bool.false_ne_true]
    obtain ⟨c, e, q⟩ := Post.here (x := .pv (.bool false)) r1 p rrBl
    cases e; exact q
theorem x_orT {σ : L2.St} {H : Hp} {Q : Bool → Hp → Prop} (q : tB (tX cf W (rOr ra rb)) σ H Q) : tOr (tB (tX cf W ra)) (tB (tX cf W rb)) σ H Q := by
  refine (tX.bind (k := fun ρ x h1 => onBl x fun b => if b = true then .ok (.pv (.bool true)) h1 else rb ρ h1) q).mono fun u H1 ⟨μ1, ρ, x, h1, H0, r1, e1, rr1, t1, p⟩ => ?_
  obtain ⟨b, rfl, p⟩ := Post.onBl p rr1
  refine ⟨b, rfl, ?_⟩
  cases b with
  | true =>
    rw [if_pos rfl]
    obtain ⟨c, e, q⟩ := Post.here (x := .pv (.bool true)) r1 p rrBl
    cases e; exact q
  | false => rw [if_neg Bool.false_ne_true]; exact ⟨μ1, ρ, h1, r1, e1, p⟩
theorem x_notV {σ : L2.St} {H : Hp} {Q : VK} (q : tX cf W (rNot ra) σ H Q) : tNotV (tX cf W ra) σ H Q := by
  refine (tX.bind (k := fun ρ x h1 => onBl x fun b => .ok (.pv (.bool (!b))) h1) q).mono fun u H1 ⟨μ1, ρ, x, h1, H0, r1, e1, rr1, t1, p⟩ => ?_
  obtain ⟨b, rfl, p⟩ := Post.onBl p rr1
  exact ⟨b, rfl, p.here r1 rrBl⟩
theorem x_notT {σ : L2.St} {H : Hp} {Q : Bool → Hp → Prop} (q : tB (tX cf W (rNot ra)) σ H Q) : tNot (tB (tX cf W ra)) σ H Q := by
  refine (tX.bind (k := fun ρ x h1 => onBl x fun b => .ok (.pv (.bool (!b))) h1) q).mono fun u H1 ⟨μ1, ρ, x, h1, H0, r1, e1, rr1, t1, p⟩ => ?_
  obtain ⟨b, rfl, p⟩ := Post.onBl p rr1
  obtain ⟨c, e, q⟩ := p.here r1 rrBl
  cases e
  exact ⟨b, rfl, q⟩
theorem x_ifeT {σ : L2.St} {H : Hp} {Q : VK} (q : tX cf W (rIfe rc ra rb) σ H Q) : tIf (tB (tX cf W rc)) (tX cf W ra) (tX cf W rb) σ H Q := by
  refine (tX.bind (k := fun ρ x h1 => onBl x fun b => if b = true then ra ρ h1 else rb ρ h1) q).mono fun u H1 ⟨μ1, ρ, x, h1, H0, r1, e1, rr1, t1, p⟩ => ?_
  obtain ⟨b, rfl, p⟩ := Post.onBl p rr1
  refine ⟨b, rfl, ?_⟩
  cases b with
  | true => rw [if_pos rfl]; exact ⟨μ1, ρ, h1, r1, e1, p⟩
  | false => rw [if_neg Bool.false_ne_true]; exact ⟨μ1, ρ, h1, r1, e1, p⟩
def rNeg (ra : REnv → SHeap → R) : REnv → SHeap → R := fun ρ h => (ra ρ h).bind fun x h1 => match x with
  | .pv (.int i) => .ok (.pv (.int (-i))) h1
  | _ => .no
theorem x_neg (ha : PE X a (tX cf W ra)) : PE X (.UnaryOp .USub a pos) (tX cf W (rNeg ra)) := by
  refine (pe_un un_neg ha).imp fun σ H Q q => ?_
  refine (tX.bind (k := fun ρ x h1 => match x with
    | .pv (.int i) => .ok (.pv (.int (-i))) h1
    | _ => .no) q).mono fun u H1 ⟨μ1, ρ, x, h1, H0, r1, e1, rr1, t1, p⟩ => ?_
  split at p
  · exact ⟨_, rr1.toInt, p.here r1 rrInt⟩
  · exact p.no
end

/-! ### freezing: a value for good -/
def freeze (h : SHeap) : Res → Option (PV × SHeap)
  | .pv x => some (x, h)
  | .ref a => (match h[a]? with
    | some (.lst xs) => some (.list xs, h.set a .dead)
    | _ => none)
  | .scr _ => none
def freezes (h : SHeap) : List Res → Option (List PV × SHeap)
  | [] => some ([], h)
  | x :: xs => (match freeze h x with
    | some (y, h1) => (match freezes h1 xs with
      | some (ys, h2) => some (y :: ys, h2)
      | none => none)
    | none => none)
section
variable {cf : Cfg} {K : PySem.W.Frag} {W : WX} {σ : L2.St} {μ μ' μ₁ : List Addr} {h h' h₁ : SHeap} {H H' H₀ H₁ : Hp} {ρ : REnv}
theorem get_set {α : Type} {l : List α} {i j : Nat} {x y : α} (e : (l.set i x)[j]? = some y) : (i = j ∧ y = x ∧ i < l.length) ∨ (i ≠ j ∧ l[j]? = some y) := by
  by_cases q : i = j
  · subst q
    by_cases hi : i < l.length
    · rw [List.getElem?_set_self hi] at e; cases e; exact .inl ⟨rfl, rfl, hi⟩
    · rw [List.getElem?_eq_none (by simpa using hi)] at e; cases e
  · rw [List.getElem?_set_ne q] at e; exact .inr ⟨q, e⟩
theorem Go.kill {a : Nat} {xs : List PV} (ha : h[a]? = some (.lst xs)) : Go μ h H μ (h.set a .dead) H :=
  ⟨fun _ _ e => e, fun _ _ e => .inl e, fun i e => by
    by_cases q : a = i
    · subst q
      rw [List.getElem?_set_self (List.getElem?_eq_some_iff.mp e).1]
    · rw [List.getElem?_set_ne q]; exact e, fun i ys e => by
    by_cases q : a = i
    · subst q
      rw [ha] at e; cases e
    · rw [List.getElem?_set_ne q]; exact e, fun i e => by
    by_cases q : a = i
    · subst q
      rw [ha] at e; cases e
    · rw [List.getElem?_set_ne q]; exact e, fun _ _ e _ => e, fun _ e => e⟩
theorem Live.unkill {a : Nat} {p : Addr} (l : Live μ (h.set a .dead) p) : Live μ h p := by
  obtain ⟨i, o, e1, e2, ne⟩ := l
  rcases get_set e2 with ⟨_, rfl, _⟩ | ⟨_, e⟩
  · exact absurd rfl ne
  · exact ⟨i, o, e1, e, ne⟩
theorem RH.kill (r : RH K μ h H) {a : Nat} {xs : List PV} (ha : h[a]? = some (.lst xs)) : RH K μ (h.set a .dead) H where
  len := by rw [List.length_set]; exact r.len
  nd := r.nd
  tr := r.tr
  obj := fun i u e ne => by
    rcases get_set e with ⟨_, rfl, _⟩ | ⟨_, e⟩
    · exact absurd rfl ne
    · obtain ⟨b, ho, e1, e2, ro⟩ := r.obj i u e ne
      exact ⟨b, ho, e1, e2, ro.map ((Go.kill ha).sqT r) ((Go.kill ha).rdL r)⟩
theorem nodup_at {l : List Addr} (n : l.Nodup) {i j : Nat} {a : Addr} (e1 : l[i]? = some a) (e2 : l[j]? = some a) : i = j := by
  obtain ⟨h1, q1⟩ := List.getElem?_eq_some_iff.mp e1
  obtain ⟨h2, q2⟩ := List.getElem?_eq_some_iff.mp e2
  exact (List.getElem_inj n).mp (q1.trans q2.symm)
/-- a frozen result -/
theorem freeze_ok {x : Res} {w : V} {y : PV} {h' : SHeap} (r : RH K μ h H) (q : RR K μ h H₀ H x w) (e : freeze h x = some (y, h')) : Go μ h H μ h' H ∧ RH K μ h' H ∧ RP K H (Live μ h') y w := by
  unfold freeze at e
  split at e
  · cases e; exact ⟨Go.refl, r, q⟩
  · rename_i a
    obtain ⟨b, e1, rfl⟩ := q
    split at e
    · rename_i ys hy
      cases e
      obtain ⟨c, ho, e2, e3, ro⟩ := r.obj a _ hy (fun z => nomatch z)
      rw [e1] at e2; cases e2
      obtain ⟨vs, rfl⟩ := ro.lst_of
      refine ⟨Go.kill hy, r.kill hy, .lst (.inl e3) (fun ⟨i, o, z1, z2, ne⟩ => ?_) (RPs.go ro (Go.kill hy) r)⟩
      have hi : i = a := nodup_at r.nd z1 e1
      subst hi
      rcases get_set z2 with ⟨_, rfl, _⟩ | ⟨q, _⟩
      · exact ne rfl
      · exact q rfl
    · cases e
  · cases e
theorem freezes_ok : ∀ {xs : List Res} {ws : List V} {ys : List PV} {h h' : SHeap} {H₀ : Hp}, RH K μ h H → RRs K μ h H₀ H xs ws → freezes h xs = some (ys, h') → Go μ h H μ h' H ∧ RH K μ h' H ∧ RPs K H (Live μ h') ys ws
  | [], _, _, _, _, _, r, q, e => by cases q; cases e; exact ⟨Go.refl, r, .nil⟩
  | x :: xs, _, _, _, _, _, r, q, e => by
    cases q with
    | cons q1 q2 =>
      unfold freezes at e
      split at e
      · rename_i y h1 e1
        split at e
        · rename_i ys h2 e2
          cases e
          obtain ⟨g1, r1, p1⟩ := freeze_ok r q1 e1
          obtain ⟨g2, r2, p2⟩ := freezes_ok r1 (q2.go g1 r) e2
          exact ⟨g1.trans g2 r, r2, .cons (p1.go g2 r1) p2⟩
        · cases e
      · cases e
theorem freezes_length : ∀ {xs : List Res} {ys : List PV} {h h' : SHeap}, freezes h xs = some (ys, h') → ys.length = xs.length
  | [], _, _, _, e => by cases e; rfl
  | x :: xs, _, _, _, e => by
    unfold freezes at e
    split at e
    · split at e
      · rename_i e2
        cases e
        simp [freezes_length e2]
      · cases e
    · cases e
end
/-- a display: its items for good -/
def onFrz (xs : List Res) (h : SHeap) (k : List PV → SHeap → R) : R := match freezes h xs with
  | some (ys, h1) => orNo (Nat.ble ys.length SZ) (k ys h1)
  | none => .no
def rTup (rs : REnv → SHeap → RM (List Res)) : REnv → SHeap → R := fun ρ h => (rs ρ h).bind fun xs h1 => onFrz xs h1 fun ys h2 => .ok (.pv (.tuple ys)) h2
def rLst (rs : REnv → SHeap → RM (List Res)) : REnv → SHeap → R := fun ρ h => (rs ρ h).bind fun xs h1 => onFrz xs h1 fun ys h2 => newL ys h2
section
variable {X : Cx} {cf : Cfg} {W : WX} {e a b c : Expr} {es : List Expr} {ra rb rc : REnv → SHeap → R} {rs : REnv → SHeap → RM (List Res)} {pos : Pos}
theorem tXA.bind {k : REnv → List Res → SHeap → R} {σ : L2.St} {H : Hp} {Q : VK} (p : tX cf W (fun ρ h => (rs ρ h).bind (k ρ)) σ H Q) :
    tXA cf W rs σ H (fun x H1 => ∃ μ1 ρ y h1 H0, RH cf.K μ1 h1 H1 ∧ REs cf.K μ1 h1 H1 ρ σ ∧ RRs cf.K μ1 h1 H0 H1 y x ∧ Post cf W σ μ1 h1 H1 Q (k ρ y h1)) := by
  obtain ⟨μ, ρ, h, r, e, p⟩ := p
  exact ⟨μ, ρ, h, r, e, (PostA.bind r p).mono fun x H1 ⟨μ1, y, h1, g, r1, rr, q⟩ => ⟨μ1, ρ, y, h1, H, r1, e.go g r, rr, q⟩⟩
theorem Post.frz {σ : L2.St} {μ : List Addr} {h : SHeap} {H H0 : Hp} {Q : VK} {xs : List Res} {ws : List V} {k : List PV → SHeap → R} (r : RH cf.K μ h H) (rr : RRs cf.K μ h H0 H xs ws) (p : Post cf W σ μ h H Q (onFrz xs h k)) :
    ∃ ys h1, Go μ h H μ h1 H ∧ RH cf.K μ h1 H ∧ RPs cf.K H (Live μ h1) ys ws ∧ ws.length ≤ sizeLine ∧ Post cf W σ μ h1 H Q (k ys h1) := by
  unfold onFrz at p
  split at p
  · rename_i ys h1 e
    obtain ⟨c, p⟩ := p.orNo
    obtain ⟨g, r1, q⟩ := freezes_ok r rr e
    exact ⟨ys, h1, g, r1, q, by rw [← q.length]; exact szL (Nat.le_of_ble_eq_true c), p.later g r⟩
  · exact p.no
theorem x_tup {x1} (h : PA X es (tXA cf W rs)) : PE X (.Tuple es x1 pos) (tX cf W (rTup rs)) := by
  refine (pe_tup h).imp fun σ H Q q => ?_
  obtain ⟨μ, ρ, h, r, e, p⟩ := tXA.bind (k := fun _ xs h1 => onFrz xs h1 fun ys h2 => .ok (.pv (.tuple ys)) h2) q
  refine ⟨μ, ρ, h, r, e, p.mono fun ws H1 ⟨μ1, ρ1, xs, h1, H0, r1, e1, rr, p⟩ => ?_⟩
  obtain ⟨ys, h2, g, r2, q, hl, p⟩ := Post.frz r1 rr p
  exact ⟨hl, Post.newT r2 p q⟩
theorem x_lst (h : PA X es (tXA cf W rs)) : PE X (.List es pos) (tX cf W (rLst rs)) := by
  refine (pe_lst h).imp fun σ H Q q => ?_
  obtain ⟨μ, ρ, h, r, e, p⟩ := tXA.bind (k := fun _ xs h1 => onFrz xs h1 fun ys h2 => newL ys h2) q
  refine ⟨μ, ρ, h, r, e, p.mono fun ws H1 ⟨μ1, ρ1, xs, h1, H0, r1, e1, rr, p⟩ => ?_⟩
  obtain ⟨ys, h2, g, r2, q, hl, p⟩ := Post.frz r1 rr p
  exact ⟨hl, Post.newL r2 p q⟩

/-! ### subscripts, slices -/
def subF (x i : Res) (h : SHeap) : R := match i with
  | .pv (.int n) => (match x with
    | .pv (.str z) => orNo (Nat.ble z.length SZ) (match atI z.cps.toList n with
      | some c => .ok (.pv (.str ⟨#[c]⟩)) h
      | none => .no)
    | _ => (match x.seq? h with
      | some xs => (match atI xs n with
        | some v => .ok (.pv v) h
        | none => .no)
      | none => .no))
  | _ => .no
theorem atI_rp {K : PySem.W.Frag} {H : Hp} {M : Addr → Prop} {xs : List PV} {vs : List V} {n : Int} {x : PV} (q : RPs K H M xs vs) (e : atI xs n = some x) : ∃ v, atI vs n = some v ∧ RP K H M x v := by
  unfold atI at e ⊢
  rw [← q.length]
  cases z : ixN xs.length n with
  | none => rw [z] at e; cases e
  | some j =>
    rw [z] at e
    exact q.get e
theorem x_sub (hK : X.K = cf.K) (hs : PlainIx b) (ha : PE X a (tX cf W ra)) (hb : PE X b (tX cf W rb)) : PE X (.Subscript a b pos) (tX cf W (rOp subF ra rb)) := by
  refine (pe_ix ix_seq ha hb hs).imp fun σ H Q q => x_opT (fun {σ μ h H Ha Hb x y u w Q} r rx ry p => ?_) q
  unfold subF at p
  split at p
  · obtain rfl := ry.toInt
    split at p
    · obtain rfl := rx.toStr
      obtain ⟨hc, p⟩ := p.orNo
      split at p
      · exact .inr (.inr ⟨_, _, _, rfl, rfl, szL (Nat.le_of_ble_eq_true hc), by assumption, p.here r rrStr⟩)
      · exact p.no
    · split at p
      · rename_i xs e
        split at p
        · rename_i v e2
          obtain ⟨a, vs, rfl, hsq, hv⟩ := rx.seq r e
          obtain ⟨v', e3, rp⟩ := atI_rp hv e2
          rcases hsq with hl | ht
          · exact .inl ⟨a, vs, _, v', rfl, rfl, by rw [hK]; exact hl, e3, p.here r rp⟩
          · exact .inr (.inl ⟨a, vs, _, v', rfl, rfl, by rw [hK]; exact ht, e3, p.here r rp⟩)
        · exact p.no
      · exact p.no
  · exact p.no
end
end SM

set_option maxRecDepth 100000
set_option maxHeartbeats 4000000
namespace SM
open PySem PySem.Spec PyProof.Rows L2

/-! ### slices -/
def cutL {α : Type} (xs : List α) (lo hi : Option Int) : List α := (xs.drop (HT.sIx xs.length 0 lo)).take (HT.sIx xs.length xs.length hi - HT.sIx xs.length 0 lo)
theorem cutL_rp {K : PySem.W.Frag} {H : Hp} {M : Addr → Prop} {xs : List PV} {vs : List V} {lo hi : Option Int} (q : RPs K H M xs vs) : RPs K H M (cutL xs lo hi) (cutV vs lo hi) := by
  unfold cutL cutV
  rw [q.length]
  exact (q.drop _).take _
inductive RO2 : Option Int → Prop
/-- an optional part: nothing, or an int -/
def rPart (p : Option (REnv → SHeap → R)) (k : Option Int → SHeap → R) (ρ : REnv) (h : SHeap) : R := match p with
  | none => k none h
  | some ra => (ra ρ h).bind fun x h1 => match x with
    | .pv (.int i) => k (some i) h1
    | _ => .no
def sliceF (x : Res) (lo hi : Option Int) (h : SHeap) : R := match x with
  | .pv (.str z) => orNo (Nat.ble z.length SZ) (.ok (.pv (.str (cutS z lo hi))) h)
  | .pv (.tuple xs) => .ok (.pv (.tuple (cutL xs lo hi))) h
  | _ => (match x.list? h with
    | some xs => newL (cutL xs lo hi) h
    | none => .no)
def rSlice (ra : REnv → SHeap → R) (lo hi : Option (REnv → SHeap → R)) : REnv → SHeap → R := fun ρ h => (ra ρ h).bind fun x h1 => rPart lo (fun l h2 => rPart hi (fun u h3 => sliceF x l u h3) ρ h2) ρ h1
section
variable {X : Cx} {cf : Cfg} {W : WX} {e a b c : Expr} {es : List Expr} {ra rb rc : REnv → SHeap → R} {rs : REnv → SHeap → RM (List Res)} {pos : Pos}
theorem Post.part {σ : L2.St} {μ : List Addr} {h : SHeap} {H : Hp} {Q : VK} {ρ : REnv} {lo : Option Expr} {rl : Option (REnv → SHeap → R)} {k : Option Int → SHeap → R} {tl : TO}
    (htl : ∀ {σ H} {Q : Option Int → Hp → Prop}, (match rl with | none => Q none H | some ra => tX cf W ra σ H fun x H1 => ∃ i, x = .int i ∧ Q (some i) H1) → tl σ H Q)
    (r : RH cf.K μ h H) (en : REs cf.K μ h H ρ σ) (p : Post cf W σ μ h H Q (rPart rl k ρ h)) :
    tl σ H fun l H1 => ∃ μ1 h1, Go μ h H μ1 h1 H1 ∧ RH cf.K μ1 h1 H1 ∧ Post cf W σ μ1 h1 H1 Q (k l h1) := by
  apply htl
  cases rl with
  | none => exact ⟨μ, h, Go.refl, r, p⟩
  | some ra =>
    refine ⟨μ, ρ, h, r, en, (Post.bind r p).mono fun x H1 ⟨μ1, y, h1, g1, r1, rr1, p1⟩ => ?_⟩
    split at p1
    · exact ⟨_, rr1.toInt, μ1, h1, g1, r1, p1⟩
    · exact p1.no
theorem cutV_whole {vs : List V} {lo hi : Option Int} (hw : HT.sIx vs.length 0 lo = 0 ∧ HT.sIx vs.length vs.length hi = vs.length) : cutV vs lo hi = vs := by
  unfold cutV
  rw [hw.1, hw.2]
  simp
theorem slice_ok (hK : X.K = cf.K) : ∃ r, SlR X r ∧ ∀ {σ : L2.St} {μ : List Addr} {h : SHeap} {H Ha : Hp} {x : Res} {lo hi : Option Int} {u : V} {Q : VK}, RH cf.K μ h H → RR cf.K μ h Ha H x u → Post cf W σ μ h H Q (sliceF x lo hi h) → r u lo hi H Q := by
  refine ⟨_, (sl_str.or (sl_tupA.or sl_list)), fun {σ μ h H Ha x lo hi u Q} r rx p => ?_⟩
  unfold sliceF at p
  split at p
  · obtain rfl := rx.toStr
    obtain ⟨hc, p⟩ := p.orNo
    exact .inl ⟨_, rfl, szL (Nat.le_of_ble_eq_true hc), p.here r rrStr⟩
  · obtain ⟨a, vs, rfl, ht, hv⟩ := rx.toTup
    refine .inr (.inl ⟨a, vs, rfl, by rw [hK]; exact ht, fun hw => ?_, fun _ => Post.newT r p (cutL_rp hv)⟩)
    refine p.here r (rrTup ht ?_)
    have := cutL_rp (lo := lo) (hi := hi) hv
    rw [cutV_whole hw] at this
    exact this
  · split at p
    · rename_i xs e
      obtain ⟨a, vs, rfl, hl, hv⟩ := rx.list r e
      exact .inr (.inr ⟨a, vs, rfl, .inl (by exact hl), Post.newL r p (cutL_rp hv)⟩)
    · exact p.no
theorem x_slice {lo hi : Option Expr} {rl ru : Option (REnv → SHeap → R)} {tl tu : TO} {p2 : Pos} (hK : X.K = cf.K) (ha : PE X a (tX cf W ra)) (hl : PO X lo tl) (hu : PO X hi tu)
    (htl : ∀ {σ H} {Q : Option Int → Hp → Prop}, (match rl with | none => Q none H | some ra => tX cf W ra σ H fun x H1 => ∃ i, x = .int i ∧ Q (some i) H1) → tl σ H Q)
    (htu : ∀ {σ H} {Q : Option Int → Hp → Prop}, (match ru with | none => Q none H | some ra => tX cf W ra σ H fun x H1 => ∃ i, x = .int i ∧ Q (some i) H1) → tu σ H Q)
    (ml : ∀ {σ H} {Q Q' : Option Int → Hp → Prop}, tl σ H Q → (∀ l H', Q l H' → Q' l H') → tl σ H Q') (mu : ∀ {σ H} {Q Q' : Option Int → Hp → Prop}, tu σ H Q → (∀ l H', Q l H' → Q' l H') → tu σ H Q') :
    PE X (.Subscript a (.Slice lo hi none p2) pos) (tX cf W (rSlice ra rl ru)) := by
  obtain ⟨r, ho, hr⟩ := slice_ok (W := W) hK
  refine (pe_slice ho ha hl hu).imp fun σ H Q q => ?_
  refine (tX.bind (k := fun ρ x h1 => rPart rl (fun l h2 => rPart ru (fun u h3 => sliceF x l u h3) ρ h2) ρ h1) q).mono fun u H1 ⟨μ1, ρ, x, h1, H0, r1, e1, rr1, t1, p⟩ => ?_
  refine ml (Post.part (lo := lo) htl r1 e1 p) fun l H2 ⟨μ2, h2, g2, r2, p2⟩ => ?_
  refine mu (Post.part (lo := hi) htu r2 (e1.go g2 r1) p2) fun v H3 ⟨μ3, h3, g3, r3, p3⟩ => ?_
  exact hr r3 ((rr1.go g2 r1).go g3 r2) p3

/-! ### built-in functions -/
def CallOk (cf : Cfg) (X : Cx) (W : WX) (f : Value) (g : List Res → SHeap → R) : Prop :=
  ∃ r, CallR X f r ∧ ∀ {σ : L2.St} {μ : List Addr} {h : SHeap} {H Ha : Hp} {xs : List Res} {ws : List V} {Q : VK}, RH cf.K μ h H → RRs cf.K μ h Ha H xs ws → Post cf W σ μ h H Q (g xs h) → r ws H Q
def rBi (g : List Res → SHeap → R) (rs : REnv → SHeap → RM (List Res)) : REnv → SHeap → R := fun ρ h => (rs ρ h).bind fun xs h1 => g xs h1
theorem x_biT {g : List Res → SHeap → R} {r : List V → Hp → VK → Prop} (hr : ∀ {σ : L2.St} {μ : List Addr} {h : SHeap} {H Ha : Hp} {xs : List Res} {ws : List V} {Q : VK}, RH cf.K μ h H → RRs cf.K μ h Ha H xs ws → Post cf W σ μ h H Q (g xs h) → r ws H Q)
    {σ : L2.St} {H : Hp} {Q : VK} (q : tX cf W (rBi g rs) σ H Q) : tCB r (tXA cf W rs) σ H Q := by
  obtain ⟨μ, ρ, h, r', e, p⟩ := tXA.bind (k := fun _ xs h1 => g xs h1) q
  exact ⟨μ, ρ, h, r', e, p.mono fun ws H1 ⟨μ1, ρ1, xs, h1, H0, r1, e1, rr, p⟩ => hr r1 rr p⟩
theorem x_callB {x : Str} {id : String} {g : List Res → SHeap → R} {p : Pos} (hc : CallOk cf X W (.builtin id) g) (hg : Gl X x) (hm : X.mg x = none) (hv : bootBuiltins x = some (.builtin id)) (ha : PA X (e :: es) (tXA cf W rs)) (hn : x ≠ "__name__") (hdb : (x == ("__debug__" : Str)) = false)
    (he : starEach (e :: es) X.env = (false, eval e X.env) :: starEach es X.env) (hpl : (backTo pos (starEach es X.env)).any (·.1) = false) : PE X (.Call (.Name x p) (e :: es) [] pos) (tX cf W (rBi g rs)) := by
  obtain ⟨r, ho, hr⟩ := hc
  exact (pe_callB ho hg hm hv ha hn hdb he hpl).imp fun σ H Q q => x_biT hr q
theorem x_callTy {x : Str} {T : String} {g : List Res → SHeap → R} {p : Pos} (hc : CallOk cf X W (.type T) g) (hg : Gl X x) (hm : X.mg x = none) (hv : bootBuiltins x = some (.type T)) (ha : PA X (e :: es) (tXA cf W rs)) (hn : x ≠ "__name__") (hdb : (x == ("__debug__" : Str)) = false)
    (he : starEach (e :: es) X.env = (false, eval e X.env) :: starEach es X.env) (hpl : (backTo pos (starEach es X.env)).any (·.1) = false) : PE X (.Call (.Name x p) (e :: es) [] pos) (tX cf W (rBi g rs)) := by
  obtain ⟨r, ho, hr⟩ := hc
  exact (pe_callTy ho hg hm hv ha hn hdb he hpl).imp fun σ H Q q => x_biT hr q

def on1 (xs : List Res) (k : Res → R) : R := match xs with
  | [x] => k x
  | _ => .no
theorem Post.on1 {σ : L2.St} {μ : List Addr} {h : SHeap} {H H0 : Hp} {Q : VK} {xs : List Res} {ws : List V} {k : Res → R} (rr : RRs cf.K μ h H0 H xs ws) (p : Post cf W σ μ h H Q (SM.on1 xs k)) : ∃ x w, ws = [w] ∧ RR cf.K μ h H0 H x w ∧ Post cf W σ μ h H Q (k x) := by
  unfold SM.on1 at p
  split at p
  · cases rr with
    | cons q t => cases t; exact ⟨_, _, rfl, q, p⟩
  · exact p.no
def on2 (xs : List Res) (k : Res → Res → R) : R := match xs with
  | [x, y] => k x y
  | _ => .no
theorem Post.on2 {σ : L2.St} {μ : List Addr} {h : SHeap} {H H0 : Hp} {Q : VK} {xs : List Res} {ws : List V} {k : Res → Res → R} (rr : RRs cf.K μ h H0 H xs ws) (p : Post cf W σ μ h H Q (SM.on2 xs k)) : ∃ x y w v, ws = [w, v] ∧ RR cf.K μ h H0 H x w ∧ RR cf.K μ h H0 H y v ∧ Post cf W σ μ h H Q (k x y) := by
  unfold SM.on2 at p
  split at p
  · cases rr with
    | cons q t => cases t with
      | cons q2 t2 => cases t2; exact ⟨_, _, _, _, rfl, q, q2, p⟩
  · exact p.no
def fAbs (xs : List Res) (h : SHeap) : R := on1 xs fun x => match x with
  | .pv (.int i) => .ok (.pv (.int (if i < 0 then -i else i))) h
  | _ => .no
theorem abs_ok : CallOk cf X W (.builtin "abs") fAbs := by
  refine ⟨_, call_abs, fun {σ μ h H Ha xs ws Q} r rr p => ?_⟩
  obtain ⟨x, w, rfl, q, p⟩ := Post.on1 rr p
  split at p
  · obtain rfl := q.toInt
    exact ⟨_, rfl, p.here r rrInt⟩
  · exact p.no
def fInt (xs : List Res) (h : SHeap) : R := on1 xs fun x => match x with
  | .pv (.int i) => .ok (.pv (.int i)) h
  | .pv (.bool b) => .ok (.pv (.int (if b then 1 else 0))) h
  | _ => .no
theorem int_ok : CallOk cf X W (.type "int") fInt := by
  refine ⟨_, call_int1, fun {σ μ h H Ha xs ws Q} r rr p => ?_⟩
  obtain ⟨x, w, rfl, q, p⟩ := Post.on1 rr p
  split at p
  · obtain rfl := q.toInt
    exact .inl ⟨_, rfl, p.here r rrInt⟩
  · obtain rfl := q.toBl
    exact .inr ⟨_, rfl, p.here r rrInt⟩
  · exact p.no
def fLen (xs : List Res) (h : SHeap) : R := on1 xs fun x => match x with
  | .pv (.str z) => orNo (Nat.ble z.length SZ) (.ok (.pv (.int z.length)) h)
  | _ => (match x.seq? h with
    | some xs => .ok (.pv (.int xs.length)) h
    | none => .no)
theorem len_ok (hK : X.K = cf.K) : CallOk cf X W (.builtin "len") fLen := by
  refine ⟨_, call_len, fun {σ μ h H Ha xs ws Q} r rr p => ?_⟩
  obtain ⟨x, w, rfl, q, p⟩ := Post.on1 rr p
  split at p
  · obtain rfl := q.toStr
    obtain ⟨hc, p⟩ := p.orNo
    exact ⟨_, _, rfl, ⟨szL (Nat.le_of_ble_eq_true hc), rfl⟩, p.here r rrInt⟩
  · split at p
    · rename_i ys e
      obtain ⟨a, vs, rfl, hs, hv⟩ := q.seq r e
      rw [hv.length] at p
      rcases hs with hs | hs
      · exact ⟨_, _, rfl, .inl ⟨vs, by rw [hK]; exact hs, rfl⟩, p.here r rrInt⟩
      · exact ⟨_, _, rfl, .inr ⟨vs, by rw [hK]; exact hs, rfl⟩, p.here r rrInt⟩
    · exact p.no
def fList (xs : List Res) (h : SHeap) : R := on1 xs fun x => match x with
  | .scr xs => newL xs h
  | _ => (match x.seq? h with
    | some xs => newL xs h
    | none => .no)
theorem list_ok (hK : X.K = cf.K) : CallOk cf X W (.type "list") fList := by
  refine ⟨_, call_list_of, fun {σ μ h H Ha xs ws Q} r rr p => ?_⟩
  obtain ⟨x, w, rfl, q, p⟩ := Post.on1 rr p
  split at p
  · rename_i ys
    obtain ⟨a, vs, rfl, hs, hv⟩ := q
    refine ⟨a, vs, rfl, .inl ?_, Post.newL r p hv⟩
    rcases hs with hs | ⟨hs, _⟩
    · rw [hK]; exact .inr hs
    · exact .inl hs
  · split at p
    · rename_i ys e
      obtain ⟨a, vs, rfl, hs, hv⟩ := q.seq r e
      exact ⟨a, vs, rfl, by rw [hK]; exact hs, Post.newL r p hv⟩
    · exact p.no
def fTuple (xs : List Res) (h : SHeap) : R := on1 xs fun x => match x.seq? h with
  | some xs => .ok (.pv (.tuple xs)) h
  | none => .no
theorem tuple_ok (hK : X.K = cf.K) : CallOk cf X W (.type "tuple") fTuple := by
  refine ⟨_, call_tuple_of, fun {σ μ h H Ha xs ws Q} r rr p => ?_⟩
  obtain ⟨x, w, rfl, q, p⟩ := Post.on1 rr p
  split at p
  · rename_i ys e
    obtain ⟨a, vs, rfl, hs, hv⟩ := q.seq r e
    rcases hs with hs | hs
    · exact ⟨a, vs, rfl, .inl ⟨by rw [hK]; exact hs, Post.newT r p hv⟩⟩
    · exact ⟨a, vs, rfl, .inr ⟨by rw [hK]; exact hs, p.here r (rrTup hs hv)⟩⟩
  · exact p.no
/-- a list of bools -/
def bools : List PV → Option (List Bool)
  | [] => some []
  | .bool b :: r => (bools r).map (b :: ·)
  | _ => none
theorem bools_ok {K : PySem.W.Frag} {H : Hp} {M : Addr → Prop} : ∀ {xs : List PV} {vs : List V} {bs : List Bool}, RPs K H M xs vs → bools xs = some bs → vs = bs.map V.bl
  | [], _, _, q, e => by cases q; cases e; rfl
  | .bool b :: r, _, _, q, e => by
    cases q with
    | cons q1 q2 =>
      cases q1
      cases z : bools r with
      | none => rw [bools, z] at e; cases e
      | some cs =>
        rw [bools, z] at e
        cases e
        rw [List.map_cons, ← bools_ok q2 z]
def fAll (xs : List Res) (h : SHeap) : R := on1 xs fun x => match x.list? h with
  | some ys => (match bools ys with
    | some bs => .ok (.pv (.bool (bs.all id))) h
    | none => .no)
  | none => .no
theorem all_ok (hK : X.K = cf.K) (hc : X.calm = true) : CallOk cf X W (.builtin "all") fAll := by
  refine ⟨_, cr_all hc, fun {σ μ h H Ha xs ws Q} r rr p => ?_⟩
  obtain ⟨x, w, rfl, q, p⟩ := Post.on1 rr p
  split at p
  · rename_i ys e
    split at p
    · rename_i bs e2
      obtain ⟨a, vs, rfl, hs, hv⟩ := q.list r e
      obtain rfl := bools_ok hv e2
      exact ⟨a, bs, rfl, .inl hs, p.here r rrBl⟩
    · exact p.no
  · exact p.no
def fAny (xs : List Res) (h : SHeap) : R := on1 xs fun x => match x.list? h with
  | some ys => (match bools ys with
    | some bs => .ok (.pv (.bool (bs.any id))) h
    | none => .no)
  | none => .no
theorem any_ok (hK : X.K = cf.K) (hc : X.calm = true) : CallOk cf X W (.builtin "any") fAny := by
  refine ⟨_, cr_any hc, fun {σ μ h H Ha xs ws Q} r rr p => ?_⟩
  obtain ⟨x, w, rfl, q, p⟩ := Post.on1 rr p
  split at p
  · rename_i ys e
    split at p
    · rename_i bs e2
      obtain ⟨a, vs, rfl, hs, hv⟩ := q.list r e
      obtain rfl := bools_ok hv e2
      exact ⟨a, bs, rfl, .inl hs, p.here r rrBl⟩
    · exact p.no
  · exact p.no
/-- a list of ints -/
def intsOf : List PV → Option (List Int)
  | [] => some []
  | .int b :: r => (intsOf r).map (b :: ·)
  | _ => none
theorem intsOf_ok {K : PySem.W.Frag} {H : Hp} {M : Addr → Prop} : ∀ {xs : List PV} {vs : List V} {bs : List Int}, RPs K H M xs vs → intsOf xs = some bs → vs = bs.map V.int
  | [], _, _, q, e => by cases q; cases e; rfl
  | .int b :: r, _, _, q, e => by
    cases q with
    | cons q1 q2 =>
      cases q1
      cases z : intsOf r with
      | none => rw [intsOf, z] at e; cases e
      | some cs =>
        rw [intsOf, z] at e
        cases e
        rw [List.map_cons, ← intsOf_ok q2 z]
def fSum (xs : List Res) (h : SHeap) : R := on1 xs fun x => match x.list? h with
  | some ys => (match intsOf ys with
    | some bs => .ok (.pv (.int bs.sum)) h
    | none => .no)
  | none => .no
theorem sum_ok (hK : X.K = cf.K) (hc : X.calm = true) : CallOk cf X W (.builtin "sum") fSum := by
  refine ⟨_, cr_sum hc, fun {σ μ h H Ha xs ws Q} r rr p => ?_⟩
  obtain ⟨x, w, rfl, q, p⟩ := Post.on1 rr p
  split at p
  · rename_i ys e
    split at p
    · rename_i bs e2
      obtain ⟨a, vs, rfl, hs, hv⟩ := q.list r e
      obtain rfl := intsOf_ok hv e2
      exact ⟨a, bs, rfl, .inl hs, p.here r rrInt⟩
    · exact p.no
  · exact p.no
def leastOf : List Int → Int
  | [] => 0
  | [x] => x
  | x :: r => if leastOf r < x then leastOf r else x
def mostOf : List Int → Int
  | [] => 0
  | [x] => x
  | x :: r => if x < mostOf r then mostOf r else x
theorem mostOf_spec : ∀ {l : List Int} {m : Int}, m ∈ l → (∀ y, y ∈ l → y ≤ m) → m = mostOf l
  | [x], m, h, _ => by simpa [mostOf] using h
  | x :: y :: r, m, h, k => by
    have e : mostOf (x :: y :: r) = if x < mostOf (y :: r) then mostOf (y :: r) else x := rfl
    rw [e]
    have mem : ∀ (y : Int) (r : List Int), mostOf (y :: r) ∈ y :: r := by
      intro y r
      induction r generalizing y with
      | nil => simp [mostOf]
      | cons z r ih =>
        have e : mostOf (y :: z :: r) = if y < mostOf (z :: r) then mostOf (z :: r) else y := rfl
        rw [e]
        split
        · exact List.mem_cons_of_mem _ (ih z)
        · exact List.mem_cons_self
    have hm := k _ (List.mem_cons_of_mem x (mem y r))
    have hx := k _ (List.mem_cons_self (a := x) (l := y :: r))
    rcases List.mem_cons.mp h with rfl | h'
    · split
      · omega
      · rfl
    · have := mostOf_spec h' fun z hz => k z (List.mem_cons_of_mem _ hz)
      split <;> omega
theorem leastOf_spec : ∀ {l : List Int} {m : Int}, m ∈ l → (∀ y, y ∈ l → m ≤ y) → m = leastOf l
  | [x], m, h, _ => by simpa [leastOf] using h
  | x :: y :: r, m, h, k => by
    have e : leastOf (x :: y :: r) = if leastOf (y :: r) < x then leastOf (y :: r) else x := rfl
    rw [e]
    have mem : ∀ (y : Int) (r : List Int), leastOf (y :: r) ∈ y :: r := by
      intro y r
      induction r generalizing y with
      | nil => simp [leastOf]
      | cons z r ih =>
        have e : leastOf (y :: z :: r) = if leastOf (z :: r) < y then leastOf (z :: r) else y := rfl
        rw [e]
        split
        · exact List.mem_cons_of_mem _ (ih z)
        · exact List.mem_cons_self
    have hm := k _ (List.mem_cons_of_mem x (mem y r))
    have hx := k _ (List.mem_cons_self (a := x) (l := y :: r))
    rcases List.mem_cons.mp h with rfl | h'
    · split
      · omega
      · rfl
    · have := leastOf_spec h' fun z hz => k z (List.mem_cons_of_mem _ hz)
      split <;> omega
/-- max, min: two ints, or a list of ints -/
def fMax (xs : List Res) (h : SHeap) : R := match xs with
  | [x] => (match x.list? h with
    | some ys => (match intsOf ys with
      | some (b :: bs) => .ok (.pv (.int (mostOf (b :: bs)))) h
      | _ => .no)
    | none => .no)
  | [x, y] => onInt x y fun i j => .ok (.pv (.int (if j > i then j else i))) h
  | _ => .no
theorem max_ok (hK : X.K = cf.K) (hc : X.calm = true) : CallOk cf X W (.builtin "max") fMax := by
  refine ⟨_, (cr_max hc).or (call_max2 hc), fun {σ μ h H Ha xs ws Q} r rr p => ?_⟩
  unfold fMax at p
  split at p
  · cases rr with
    | cons q t =>
      cases t
      split at p
      · rename_i ys e
        split at p
        · rename_i b bs e2
          obtain ⟨a, vs, rfl, hs, hv⟩ := q.list r e
          obtain rfl := intsOf_ok hv e2
          exact .inl ⟨a, _, rfl, .inl hs, by simp, fun m h1 h2 => by rw [mostOf_spec h1 h2]; exact p.here r rrInt⟩
        · exact p.no
      · exact p.no
  · cases rr with
    | cons q t => cases t with
      | cons q2 t2 =>
        cases t2
        obtain ⟨i, j, rfl, rfl, p⟩ := Post.onInt p q q2
        exact .inr ⟨i, j, rfl, p.here r rrInt⟩
  · exact p.no
def fMin (xs : List Res) (h : SHeap) : R := match xs with
  | [x] => (match x.list? h with
    | some ys => (match intsOf ys with
      | some (b :: bs) => .ok (.pv (.int (leastOf (b :: bs)))) h
      | _ => .no)
    | none => .no)
  | [x, y] => onInt x y fun i j => .ok (.pv (.int (if j < i then j else i))) h
  | _ => .no
theorem min_ok (hK : X.K = cf.K) (hc : X.calm = true) : CallOk cf X W (.builtin "min") fMin := by
  refine ⟨_, (cr_min hc).or (call_min2 hc), fun {σ μ h H Ha xs ws Q} r rr p => ?_⟩
  unfold fMin at p
  split at p
  · cases rr with
    | cons q t =>
      cases t
      split at p
      · rename_i ys e
        split at p
        · rename_i b bs e2
          obtain ⟨a, vs, rfl, hs, hv⟩ := q.list r e
          obtain rfl := intsOf_ok hv e2
          exact .inl ⟨a, _, rfl, .inl hs, by simp, fun m h1 h2 => by rw [leastOf_spec h1 h2]; exact p.here r rrInt⟩
        · exact p.no
      · exact p.no
  · cases rr with
    | cons q t => cases t with
      | cons q2 t2 =>
        cases t2
        obtain ⟨i, j, rfl, rfl, p⟩ := Post.onInt p q q2
        exact .inr ⟨i, j, rfl, p.here r rrInt⟩
  · exact p.no
end
end SM

set_option maxRecDepth 100000
set_option maxHeartbeats 4000000
namespace SM
open PySem PySem.Spec PyProof.Rows L2

/-! ### targets -/
mutual
inductive Tg where
  | nm (i : Nat) | tp (ts : Tgs)
inductive Tgs where
  | nil | cons (t : Tg) (ts : Tgs)
end
def Tgs.len : Tgs → Nat
  | .nil => 0
  | .cons _ ts => ts.len + 1
mutual
@[simp] def bindT : Tg → EV → REnv → Option REnv
  | .nm i, x, ρ => some (ρ.set i (some x))
  | .tp ts, x, ρ => (match x with
    | .pv (.tuple xs) => bindTs ts xs ρ
    | _ => none)
@[simp] def bindTs : Tgs → List PV → REnv → Option REnv
  | .nil, xs, ρ => (match xs with
    | [] => some ρ
    | _ => none)
  | .cons t ts, xs, ρ => (match xs with
    | x :: r => (match bindT t (.pv x) ρ with
      | some ρ1 => bindTs ts r ρ1
      | none => none)
    | [] => none)
end
mutual
def slotsT : Tg → List Nat
  | .nm i => [i]
  | .tp ts => slotsTs ts
def slotsTs : Tgs → List Nat
  | .nil => []
  | .cons t ts => slotsT t ++ slotsTs ts
end

section
variable {cf : Cfg} {K : PySem.W.Frag} {W : WX} {σ : L2.St} {μ μ' μ₁ : List Addr} {h h' h₁ : SHeap} {H H' H₀ H₁ : Hp} {ρ ρ' : REnv}
theorem REs.set {x : EV} {w : V} (e : REs K μ h H ρ σ) (q : RE K μ h H x w) (i : Nat) : REs K μ h H (ρ.set i (some x)) (σ.set i (some w)) where
  len := by rw [List.length_set, List.length_set]; exact e.len
  at_ := fun j v ej => by
    rcases get_set ej with ⟨rfl, q2, hi⟩ | ⟨ne, ej⟩
    · cases q2
      exact ⟨w, by rw [List.getElem?_set_self (by rw [← e.len]; exact hi)], q⟩
    · obtain ⟨u, e1, r⟩ := e.at_ j v ej
      exact ⟨u, by rw [List.getElem?_set_ne ne]; exact e1, r⟩
end
/-- what a target's reading asks: the value x at w; then the new slots -/
def gX (cf : Cfg) (t : Tg) : TG := fun w σ H Q => ∃ μ ρ h x ρ', RH cf.K μ h H ∧ REs cf.K μ h H ρ σ ∧ RE cf.K μ h H x w ∧ bindT t x ρ = some ρ' ∧ ∀ σ', REs cf.K μ h H ρ' σ' → (∀ j, j ∉ slotsT t → σ'[j]? = σ[j]?) → Q σ' H
def gXs (cf : Cfg) (t : Tgs) : TGs := fun ws σ H Q => ∃ μ ρ h xs ρ', RH cf.K μ h H ∧ REs cf.K μ h H ρ σ ∧ RPs cf.K H (Live μ h) xs ws ∧ bindTs t xs ρ = some ρ' ∧ ∀ σ', REs cf.K μ h H ρ' σ' → (∀ j, j ∉ slotsTs t → σ'[j]? = σ[j]?) → Q σ' H
theorem _root_.L2.PG.imp {X : Cx} {e : Expr} {t t' : TG} (h : PG X e t) (k : ∀ v σ H Q, t' v σ H Q → t v σ H Q) : PG X e t' := ⟨fun pins s σ H v u Q I r q => h.run pins s σ H v u Q I r (k v σ H Q q)⟩
theorem _root_.L2.PGs.imp {X : Cx} {e : List Expr} {t t' : TGs} (h : PGs X e t) (k : ∀ v σ H Q, t' v σ H Q → t v σ H Q) : PGs X e t' := ⟨fun pins s σ H v u Q I r q => h.run pins s σ H v u Q I r (k v σ H Q q)⟩
section
variable {X : Cx} {cf : Cfg} {W : WX} {e a b c : Expr} {es : List Expr} {pos : Pos}
theorem g_name {i : Nat} {x : Str} (hN : X.N.Nodup) (hi : X.N[i]? = some x) (hx : Loc X.env.scope x) (hf : X.fn x = true ∨ X.env.scope.names.lookup x = some .local) : PG X (.Name x pos) (gX cf (.nm i)) := by
  refine (pg_name hN hi hx hf).imp fun w σ H Q ⟨μ, ρ, h, x, ρ', r, en, q, eb, k⟩ => ?_
  cases eb
  exact k _ (en.set q i) fun j hj => by
    rw [List.getElem?_set_ne]
    intro z
    exact hj (by simp [slotsT, z])
theorem g_nil : PGs X [] (gXs cf .nil) := by
  refine pgs_nil.imp fun ws σ H Q ⟨μ, ρ, h, xs, ρ', r, en, q, eb, k⟩ => ?_
  unfold bindTs at eb
  split at eb
  · cases eb
    cases q
    exact ⟨rfl, k σ en fun _ _ => rfl⟩
  · cases eb
theorem g_cons {t : Tg} {ts : Tgs} (h1 : PG X e (gX cf t)) (h2 : PGs X es (gXs cf ts)) (hs : (assignEach (e :: es) X.env).map (·.2) = assign e X.env :: (assignEach es X.env).map (·.2)) : PGs X (e :: es) (gXs cf (.cons t ts)) := by
  refine (pgs_cons h1 h2 hs).imp fun ws σ H Q ⟨μ, ρ, h, xs, ρ', r, en, q, eb, k⟩ => ?_
  unfold bindTs at eb
  split at eb
  · rename_i x xr
    cases q with
    | cons q1 q2 =>
      split at eb
      · rename_i ρ1 e1
        refine ⟨_, _, rfl, μ, ρ, h, .pv x, ρ1, r, en, q1, e1, fun σ1 en1 st1 => ?_⟩
        exact ⟨μ, ρ1, h, xr, ρ', r, en1, q2, eb, fun σ2 en2 st2 => k σ2 en2 fun j hj => by
          simp only [slotsTs, List.mem_append, not_or] at hj
          rw [st2 j hj.2, st1 j hj.1]⟩
      · cases eb
  · cases eb
theorem bindTs_len : ∀ {ts : Tgs} {xs : List PV} {ρ ρ' : REnv}, bindTs ts xs ρ = some ρ' → xs.length = ts.len
  | .nil, xs, _, _, e => by
    unfold bindTs at e
    split at e
    · rfl
    · cases e
  | .cons t ts, xs, _, _, e => by
    unfold bindTs at e
    split at e
    · split at e
      · simp [Tgs.len, bindTs_len e]
      · cases e
    · cases e
theorem g_tup {ts : Tgs} {k : Nat} (hK : X.K = cf.K) (hc : X.calm = true) (h : PGs X es (gXs cf ts)) (hn : (assignEach es X.env).length = ts.len) (hst : (assignEach es X.env).findIdx? (·.1) = none) : PG X (.Tuple es k pos) (gX cf (.tp ts)) := by
  refine (pg_tup hc h hn hst).imp fun w σ H Q ⟨μ, ρ, h, x, ρ', r, en, q, eb, k⟩ => ?_
  unfold bindT at eb
  split at eb
  · cases q with
    | tup h1 h2 =>
      exact ⟨_, _, rfl, by rw [hK]; exact h1, by rw [← h2.length]; exact bindTs_len eb, μ, ρ, h, _, ρ', r, en, h2, eb, k⟩
  · cases eb
end

/-! ### what a loop walks -/
structure Src where
  items : List EV
  lock : Option Nat
structure WalkS (cf : Cfg) (μ : List Addr) (h : SHeap) (H : Hp) (J : It) (items : List EV) : Prop where
  goes : ∀ μ1 h1 H1 (i : Nat), Go μ h H μ1 h1 H1 → RH cf.K μ1 h1 H1 → i < items.length → J.go i H1
  stops : ∀ μ1 h1 H1, Go μ h H μ1 h1 H1 → RH cf.K μ1 h1 H1 → J.stop items.length H1
  yields : ∀ μ1 h1 H1 (i : Nat) x H2, Go μ h H μ1 h1 H1 → RH cf.K μ1 h1 H1 → i < items.length → J.yld i H1 x H2 → ∃ e, items[i]? = some e ∧ Go μ1 h1 H1 μ1 h1 H2 ∧ RH cf.K μ1 h1 H2 ∧ RE cf.K μ1 h1 H2 e x
def PostI' (cf : Cfg) (W : WX) (σ : L2.St) (μ : List Addr) (h : SHeap) (H : Hp) (Q : It → Hp → Prop) : RM Src → Prop
  | .ok s h' => ∀ μ' H' J hu, Go μ h H μ' hu H' → RH cf.K μ' hu H' → (match s.lock with | none => h' = hu | some a => ∃ xs, hu[a]? = some (.lst xs) ∧ h' = hu.set a (.lk xs)) → WalkS cf μ' h' H' J s.items → Q J H'
  | .exc c fs h' => ∀ μ' H' cls d, Go μ h H μ' h' H' → RH cf.K μ' h' H' → RX cf H' (Live μ' h') c fs cls d → W cls d σ H'
  | .no => False
/-- a loop's source, its lock taken off (what is told of the state is as it was unlocked) -/
def SrcOk (cf : Cfg) (X : Cx) (W : WX) (tg iter : Expr) (run : REnv → SHeap → RM Src) : Prop :=
  ∃ wi, PI X tg iter wi ∧ ∀ {σ H R}, (∃ μ ρ h, RH cf.K μ h H ∧ REs cf.K μ h H ρ σ ∧ PostI' cf W σ μ h H R (run ρ h)) → wi σ H R
section
variable {cf : Cfg} {K : PySem.W.Frag} {W : WX} {σ : L2.St} {μ μ' μ₁ : List Addr} {h h' h₁ : SHeap} {H H' H₀ H₁ : Hp} {ρ ρ' : REnv}
/-- locking and unlocking a cell changes nothing that is live -/
theorem live_lk {a : Nat} {xs ys : List PV} (e : h[a]? = some (.lst xs)) : Live μ (h.set a (.lk ys)) = Live μ h := by
  funext b
  refine propext ⟨fun ⟨i, o, e1, e2, ne⟩ => ?_, fun ⟨i, o, e1, e2, ne⟩ => ?_⟩
  · rcases get_set e2 with ⟨rfl, _, _⟩ | ⟨_, e3⟩
    · exact ⟨_, _, e1, e, fun z => nomatch z⟩
    · exact ⟨i, o, e1, e3, ne⟩
  · by_cases q : a = i
    · subst q
      exact ⟨a, .lk ys, e1, by rw [List.getElem?_set_self (List.getElem?_eq_some_iff.mp e).1], fun z => nomatch z⟩
    · exact ⟨i, o, e1, by rw [List.getElem?_set_ne q]; exact e2, ne⟩
theorem live_unl {a : Nat} {xs ys : List PV} (e : h[a]? = some (.lk xs)) : Live μ (h.set a (.lst ys)) = Live μ h := by
  funext b
  refine propext ⟨fun ⟨i, o, e1, e2, ne⟩ => ?_, fun ⟨i, o, e1, e2, ne⟩ => ?_⟩
  · rcases get_set e2 with ⟨rfl, _, _⟩ | ⟨_, e3⟩
    · exact ⟨_, _, e1, e, fun z => nomatch z⟩
    · exact ⟨i, o, e1, e3, ne⟩
  · by_cases q : a = i
    · subst q
      exact ⟨a, .lst ys, e1, by rw [List.getElem?_set_self (List.getElem?_eq_some_iff.mp e).1], fun z => nomatch z⟩
    · exact ⟨i, o, e1, by rw [List.getElem?_set_ne q]; exact e2, ne⟩
theorem RH.lock {a : Nat} {xs : List PV} (r : RH K μ h H) (e : h[a]? = some (.lst xs)) : RH K μ (h.set a (.lk xs)) H where
  len := by rw [List.length_set]; exact r.len
  nd := r.nd
  tr := r.tr
  obj := fun i u eu ne => by
    rw [live_lk e]
    rcases get_set eu with ⟨rfl, rfl, _⟩ | ⟨_, eu⟩
    · obtain ⟨b, ho, e1, e2, ro⟩ := r.obj _ _ e (fun z => nomatch z)
      exact ⟨b, ho, e1, e2, by cases ho <;> exact ro⟩
    · exact r.obj i u eu ne
theorem RH.unlock {a : Nat} {xs : List PV} (r : RH K μ h H) (e : h[a]? = some (.lk xs)) : RH K μ (h.set a (.lst xs)) H where
  len := by rw [List.length_set]; exact r.len
  nd := r.nd
  tr := r.tr
  obj := fun i u eu ne => by
    rw [live_unl e]
    rcases get_set eu with ⟨rfl, rfl, _⟩ | ⟨_, eu⟩
    · obtain ⟨b, ho, e1, e2, ro⟩ := r.obj _ _ e (fun z => nomatch z)
      exact ⟨b, ho, e1, e2, by cases ho <;> exact ro⟩
    · exact r.obj i u eu ne
/-- over a stretch with a lock -/
theorem Go.locked {a : Nat} {xs : List PV} (r : RH K μ h H) (e : h[a]? = some (.lst xs)) (g : Go μ (h.set a (.lk xs)) H μ' h' H') : h'[a]? = some (.lk xs) ∧ Go μ h H μ' (h'.set a (.lst xs)) H' := by
  have ha : a < h.length := (List.getElem?_eq_some_iff.mp e).1
  have hk : h'[a]? = some (.lk xs) := g.lk a xs (by rw [List.getElem?_set_self ha])
  have other : ∀ i o, h[i]? = some o → (∀ ys, o ≠ .lst ys) → a ≠ i ∧ (h.set a (.lk xs))[i]? = some o := fun i o q ne => by
    have n : a ≠ i := fun z => by subst z; rw [e] at q; cases q; exact ne xs rfl
    exact ⟨n, by rw [List.getElem?_set_ne n]; exact q⟩
  refine ⟨hk, g.pre, g.new, fun i q => ?_, fun i ys q => ?_, fun i q => ?_, fun b o q nm => g.pres b o q fun ⟨i, u, e1, e2, n1, n3, n2⟩ => ?_, g.trk⟩
  · obtain ⟨n, q2⟩ := other i _ q (fun _ z => nomatch z)
    rw [List.getElem?_set_ne n]
    exact g.dead i q2
  · obtain ⟨n, q2⟩ := other i _ q (fun _ z => nomatch z)
    rw [List.getElem?_set_ne n]
    exact g.lk i ys q2
  · obtain ⟨n, q2⟩ := other i _ q (fun _ z => nomatch z)
    rw [List.getElem?_set_ne n]
    exact g.bz i q2
  · rcases get_set e2 with ⟨_, rfl, _⟩ | ⟨_, e3⟩
    · exact n2 xs rfl
    · exact nm ⟨i, u, e1, e3, n1, n3, n2⟩
theorem RE.cast {x : EV} {w : V} {h2 : SHeap} (e : Live μ h2 = Live μ h) (q : RE K μ h H x w) : RE K μ h2 H x w := by
  cases x with
  | pv x => unfold RE at *; rw [e]; exact q
  | ref i => exact q
  | scr i => unfold RE RScr at *; rw [e]; exact q
theorem REs.cast {h2 : SHeap} (e : Live μ h2 = Live μ h) (q : REs K μ h H ρ σ) : REs K μ h2 H ρ σ := ⟨q.len, fun i v ev => let ⟨w, e1, q1⟩ := q.at_ i v ev; ⟨w, e1, q1.cast e⟩⟩
theorem RR.cast {x : Res} {w : V} {h2 : SHeap} (e : Live μ h2 = Live μ h) (q : RR K μ h H₀ H x w) : RR K μ h2 H₀ H x w := by
  cases x with
  | pv x => unfold RR at *; rw [e]; exact q
  | ref i => exact q
  | scr i => unfold RR RScr at *; rw [e]; exact q
end
/-- an iterated value -/
def srcOf (x : Res) (h : SHeap) : RM Src := match x with
  | .pv (.tuple xs) => .ok ⟨xs.map .pv, none⟩ h
  | .pv (.list xs) => .ok ⟨xs.map .pv, none⟩ h
  | .pv (.str z) => .ok ⟨z.cps.toList.map fun c => .pv (.str ⟨#[c]⟩), none⟩ h
  | .ref a => (match h[a]? with
    | some (.lst xs) => .ok ⟨xs.map .pv, some a⟩ (h.set a (.lk xs))
    | some (.lk xs) => .ok ⟨xs.map .pv, none⟩ h
    | _ => .no)
  | _ => .no
def iVal (ra : REnv → SHeap → R) : REnv → SHeap → RM Src := fun ρ h => (ra ρ h).bind srcOf
section
variable {cf : Cfg} {K : PySem.W.Frag} {W : WX} {σ : L2.St} {μ μ' μ₁ : List Addr} {h h' h₁ : SHeap} {H H' H₀ H₁ : Hp} {ρ ρ' : REnv}
/-- a list that is not written meanwhile -/
theorem walk_lst {a : Addr} {xs : List PV} {vs : List V} (r : RH cf.K μ h H) (hr : Rd H a (.lst vs)) (nm : ¬ Mtb μ h a) (q : RPs cf.K H (Live μ h) xs vs) : WalkS cf μ h H (Itl cf.K a) (xs.map .pv) := by
  have st : ∀ {μ1 h1 H1}, Go μ h H μ1 h1 H1 → SqL cf.K H1 a vs := fun g => by
    rcases hr with hr | ⟨o, hr⟩
    · exact .inl (.inl (g.pres _ _ hr nm))
    · exact .inl (.inr ⟨o, g.pres _ _ hr nm⟩)
  have len : (xs.map EV.pv).length = vs.length := by rw [List.length_map]; exact q.length
  refine ⟨fun μ1 h1 H1 i g r1 hi => ⟨vs, vs[i]'(by rw [← len]; exact hi), st g, by rw [List.getElem?_eq_getElem]⟩, fun μ1 h1 H1 g r1 => ⟨vs, st g, by rw [len]; exact Nat.le_refl _⟩, fun μ1 h1 H1 i x H2 g r1 hi y => ?_⟩
  obtain ⟨rfl, y⟩ := y
  have e := y vs (st g)
  obtain ⟨z, ez, rz⟩ := (q.go g r).getV e
  exact ⟨.pv z, by rw [List.getElem?_map, ez]; rfl, Go.refl, r1, rz⟩
theorem walk_tpl {a : Addr} {xs : List PV} {vs : List V} (r : RH cf.K μ h H) (hr : SqT cf.K H a vs) (q : RPs cf.K H (Live μ h) xs vs) : WalkS cf μ h H (Itt cf.K a) (xs.map .pv) := by
  have len : (xs.map EV.pv).length = vs.length := by rw [List.length_map]; exact q.length
  refine ⟨fun μ1 h1 H1 i g r1 hi => ⟨vs, vs[i]'(by rw [← len]; exact hi), g.sqT r _ _ hr, by rw [List.getElem?_eq_getElem]⟩, fun μ1 h1 H1 g r1 => ⟨vs, g.sqT r _ _ hr, by rw [len]; exact Nat.le_refl _⟩, fun μ1 h1 H1 i x H2 g r1 hi y => ?_⟩
  obtain ⟨rfl, y⟩ := y
  have e := y vs (g.sqT r _ _ hr)
  obtain ⟨z, ez, rz⟩ := (q.go g r).getV e
  exact ⟨.pv z, by rw [List.getElem?_map, ez]; rfl, Go.refl, r1, rz⟩
theorem walk_st {z : Str} : WalkS cf μ h H (Its z) (z.cps.toList.map fun c => .pv (.str ⟨#[c]⟩)) := by
  have len : (z.cps.toList.map fun c => EV.pv (.str ⟨#[c]⟩)).length = z.cps.size := by rw [List.length_map, Array.length_toList]
  refine ⟨fun μ1 h1 H1 i g r1 hi => by rw [len] at hi; exact hi, fun μ1 h1 H1 g r1 => by rw [len]; exact Nat.le_refl _, fun μ1 h1 H1 i x H2 g r1 hi y => ?_⟩
  obtain ⟨rfl, c, e, rfl⟩ := y
  exact ⟨.pv (.str ⟨#[c]⟩), by rw [List.getElem?_map, Array.getElem?_toList, e]; rfl, Go.refl, r1, .str _⟩
theorem walk_rg {lo : Int} {n : Nat} : WalkS cf μ h H (Itr lo n) ((List.range n).map fun i => .pv (.int (lo + (i : Nat)))) := by
  have len : ((List.range n).map fun i => EV.pv (.int (lo + (i : Nat)))).length = n := by rw [List.length_map, List.length_range]
  refine ⟨fun μ1 h1 H1 i g r1 hi => by rw [len] at hi; exact hi, fun μ1 h1 H1 g r1 => by rw [len]; exact Nat.le_refl _, fun μ1 h1 H1 i x H2 g r1 hi y => ?_⟩
  obtain ⟨rfl, rfl⟩ := y
  rw [len] at hi
  exact ⟨.pv (.int (lo + (i : Nat))), by rw [List.getElem?_map, List.getElem?_range hi]; rfl, Go.refl, r1, RP.int _⟩
theorem walk_rgC {lo c : Int} {n : Nat} : WalkS cf μ h H (Itc lo c n) ((List.range n).map fun i => .pv (.int (lo + (i : Nat) * c))) := by
  have len : ((List.range n).map fun i => EV.pv (.int (lo + (i : Nat) * c))).length = n := by rw [List.length_map, List.length_range]
  refine ⟨fun μ1 h1 H1 i g r1 hi => by rw [len] at hi; exact hi, fun μ1 h1 H1 g r1 => by rw [len]; exact Nat.le_refl _, fun μ1 h1 H1 i x H2 g r1 hi y => ?_⟩
  obtain ⟨rfl, rfl⟩ := y
  rw [len] at hi
  exact ⟨.pv (.int (lo + (i : Nat) * c)), by rw [List.getElem?_map, List.getElem?_range hi]; rfl, Go.refl, r1, RP.int _⟩
end
theorem pi_or {X : Cx} {tg iter : Expr} {w1 w2 : TI} (h1 : PI X tg iter w1) (h2 : PI X tg iter w2) : PI X tg iter (fun σ H R => w1 σ H R ∨ w2 σ H R) :=
  ⟨fun pins s σ H R I q => q.elim (h1.run pins s σ H R I) (h2.run pins s σ H R I)⟩
/-- the three at once, by the value -/
def iAny (K : PySem.W.Frag) (te : TE) : TI := fun σ H R => te σ H fun x H1 => (∃ a, x = .ref a ∧ (∃ xs, SqL K H1 a xs) ∧ R (Itl K a) H1) ∨ (∃ a, x = .ref a ∧ (∃ xs, SqT K H1 a xs) ∧ R (Itt K a) H1) ∨ ∃ z, x = .str z ∧ R (Its z) H1
section
variable {X : Cx} {cf : Cfg} {W : WX} {tg e a b c : Expr} {es : List Expr} {pos : Pos}
/-- a value already there, walked -/
theorem pi_any {l : Expr} {tl : TE} (hl : PE X l tl) : PI X tg l (iAny X.K tl) := by
  refine ⟨fun pins s σ H R I h => ?_⟩
  refine thn (hl.run pins s σ H _ I h) fun v s1 ⟨x, H1, I1, r1, q1⟩ => ?_
  rcases q1 with ⟨a, e, ⟨xs, hq⟩, q⟩ | ⟨a, e, ⟨xs, hq⟩, q⟩ | ⟨z, e, q⟩
  · subst e
    cases r1
    obtain ⟨its, rv, p, hz⟩ := I1.list hq
    refine wpAny_pyIter_list p.isList ?_
    refine ⟨s1.heap.objs.size, [s1.heap.objs.size], _, _, H1, rfl, I1.kept (t' := s1.toks) fun b o e => Heap.get?_push_of_some _ e, turn_list a _, ⟨_, Heap.get?_push_size _ rfl, rfl, rfl⟩, fun b hb => ?_, q⟩
    have e : b = s1.heap.objs.size := by simpa using hb
    subst e
    exact I1.fpOk (Nat.le_refl _) (I1.hok.fresh (Nat.le_refl _))
  · subst e
    cases r1
    obtain ⟨its, rv, p, hz⟩ := I1.tuple hq
    refine wpAny_pyIter_tuple (show s1.heap.IsTuple a its.toArray from p) ?_
    refine ⟨s1.heap.objs.size, [s1.heap.objs.size], _, _, H1, rfl, I1.kept (t' := s1.toks) fun b o e => Heap.get?_push_of_some _ e, turn_tuple a _, ⟨_, Heap.get?_push_size _ rfl, rfl, rfl⟩, fun b hb => ?_, q⟩
    have e : b = s1.heap.objs.size := by simpa using hb
    subst e
    exact I1.fpOk (Nat.le_refl _) (I1.hok.fresh (Nat.le_refl _))
  · subst e
    obtain ⟨t, rfl⟩ := r1
    cases ha : z.cps.all (· < 128)
    · exact wpAny_pyIter_wide ha (pi_one (tk := s1.toks) I1 _ (turn_str _ z t "str_iterator" (.inr rfl)) ⟨_, Heap.get?_push_size _ rfl, rfl, rfl⟩ q)
    · exact wpAny_pyIter_ascii ha (pi_one (tk := s1.toks) I1 _ (turn_str _ z t "str_ascii_iterator" (.inl rfl)) ⟨_, Heap.get?_push_size _ rfl, rfl, rfl⟩ q)
theorem RMbind_no {α β : Type} (k : α → SHeap → RM β) : (RM.no : RM α).bind k = .no := rfl
theorem x_srcVal {ra : REnv → SHeap → R} (hK : X.K = cf.K) (ha : PE X e (tX cf W ra)) : SrcOk cf X W tg e (iVal ra) := by
  refine ⟨_, pi_any ha, fun {σ H R} ⟨μ, ρ, h, r, en, p⟩ => ⟨μ, ρ, h, r, en, ?_⟩⟩
  unfold iVal at p
  cases ea : ra ρ h with
  | no => rw [ea] at p; exact p
  | exc c fs h1 => rw [ea] at p; exact p
  | ok x h1 =>
    rw [ea] at p
    intro μ1 w H1 g1 r1 rr1
    replace p : PostI' cf W σ μ h H R (srcOf x h1) := p
    unfold srcOf at p
    rw [hK]
    split at p
    · obtain ⟨a, vs, rfl, ht, hv⟩ := rr1.toTup
      exact .inr (.inl ⟨a, rfl, ⟨vs, ht⟩, p μ1 H1 _ h1 g1 r1 rfl (walk_tpl r1 ht hv)⟩)
    · cases rr1 with
      | lst k1 k2 k3 => exact .inl ⟨_, rfl, ⟨_, .inl k1⟩, p μ1 H1 _ h1 g1 r1 rfl (walk_lst r1 k1 (fun m => k2 m.live) k3)⟩
    · obtain rfl := rr1.toStr
      exact .inr (.inr ⟨_, rfl, p μ1 H1 _ h1 g1 r1 rfl walk_st⟩)
    · rename_i a
      obtain ⟨b, e1, rfl⟩ := rr1
      split at p
      · rename_i xs hx
        obtain ⟨c, ho, e2, e3, ro⟩ := r1.obj a _ hx (fun z => nomatch z)
        rw [e1] at e2; cases e2
        obtain ⟨vs, rfl⟩ := ro.lst_of
        refine .inl ⟨b, rfl, ⟨vs, .inl (.inl e3)⟩, p μ1 H1 _ h1 g1 r1 ⟨xs, hx, rfl⟩ (walk_lst (r1.lock hx) (.inl e3) (fun ⟨i, o, z1, z2, _, _, nl⟩ => ?_) (by rw [live_lk hx]; exact ro))⟩
        have hi := nodup_at r1.nd z1 e1
        subst hi
        rcases get_set z2 with ⟨_, rfl, _⟩ | ⟨q, _⟩
        · exact nl _ rfl
        · exact q rfl
      · rename_i xs hx
        obtain ⟨c, ho, e2, e3, ro⟩ := r1.obj a _ hx (fun z => nomatch z)
        rw [e1] at e2; cases e2
        obtain ⟨vs, rfl⟩ := ro.lst_of
        refine .inl ⟨b, rfl, ⟨vs, .inl (.inl e3)⟩, p μ1 H1 _ h1 g1 r1 rfl (walk_lst r1 (.inl e3) (fun ⟨i, o, z1, z2, _, _, nl⟩ => ?_) ro)⟩
        have hi := nodup_at r1.nd z1 e1
        subst hi
        rw [hx] at z2; cases z2
        exact nl _ rfl
      · exact p.elim
    · exact p.elim

/-! ### ranges -/
def rgB (i : Int) : Bool := Nat.blt i.natAbs 4611686018427387904
theorem rgB_ok {i : Int} (h : rgB i = true) : -(2 ^ 62) ≤ i ∧ i < 2 ^ 62 := by
  have b : i.natAbs + 1 ≤ 4611686018427387904 := Nat.le_of_ble_eq_true h
  omega
theorem rgB_of {i : Int} (h : i.natAbs < 4611686018427387904) : rgB i = true := Nat.ble_eq_true_of_le h
def orNoS (c : Bool) (r : RM Src) : RM Src := match c with
  | true => r
  | false => .no
def rg1 (xs : List Res) (h : SHeap) : RM Src := match xs with
  | [.pv (.int j)] => orNoS (rgB j) (.ok ⟨(List.range j.toNat).map fun i => .pv (.int (0 + (i : Nat))), none⟩ h)
  | _ => .no
def rg2 (xs : List Res) (h : SHeap) : RM Src := match xs with
  | [.pv (.int i), .pv (.int j)] => orNoS (rgB i && rgB j) (.ok ⟨(List.range (j - i).toNat).map fun k => .pv (.int (i + (k : Nat))), none⟩ h)
  | _ => .no
def rg3 (xs : List Res) (h : SHeap) : RM Src := match xs with
  | [.pv (.int i), .pv (.int j), .pv (.int c)] => orNoS (decide (c ≠ 0) && (Nat.blt c.natAbs 1073741824 && (Builtin.Range.small i j c && decide (0 ≤ Builtin.Range.rangeSize i j c)))) (.ok ⟨(List.range (Builtin.Range.rangeSize i j c).toNat).map fun k => .pv (.int (i + (k : Nat) * c)), none⟩ h)
  | _ => .no
def iRg (g : List Res → SHeap → RM Src) (rs : REnv → SHeap → RM (List Res)) : REnv → SHeap → RM Src := fun ρ h => (rs ρ h).bind g
theorem PostI'.orNo {σ : L2.St} {μ : List Addr} {h : SHeap} {H : Hp} {R : It → Hp → Prop} {c : Bool} {r : RM Src} (p : PostI' cf W σ μ h H R (orNoS c r)) : c = true ∧ PostI' cf W σ μ h H R r := by
  cases c with
  | true => exact ⟨rfl, p⟩
  | false => exact p.elim
theorem RRs.toInt1 {K : PySem.W.Frag} {μ : List Addr} {h : SHeap} {H₀ H : Hp} {i : Int} {ws : List V} (r : RRs K μ h H₀ H [.pv (.int i)] ws) : ws = [.int i] := by
  cases r with
  | cons q t => cases t; rw [q.toInt]
theorem RRs.toInt2 {K : PySem.W.Frag} {μ : List Addr} {h : SHeap} {H₀ H : Hp} {i j : Int} {ws : List V} (r : RRs K μ h H₀ H [.pv (.int i), .pv (.int j)] ws) : ws = [.int i, .int j] := by
  cases r with
  | cons q t => rw [q.toInt, t.toInt1]
theorem RRs.toInt3 {K : PySem.W.Frag} {μ : List Addr} {h : SHeap} {H₀ H : Hp} {i j k : Int} {ws : List V} (r : RRs K μ h H₀ H [.pv (.int i), .pv (.int j), .pv (.int k)] ws) : ws = [.int i, .int j, .int k] := by
  cases r with
  | cons q t => rw [q.toInt, t.toInt2]
theorem iArgs {g : List Res → SHeap → RM Src} {rs : REnv → SHeap → RM (List Res)} {σ : L2.St} {H : Hp} {R : It → Hp → Prop} {Q : List V → Hp → Prop}
    (k : ∀ {μ h H1 H0 xs ws}, RH cf.K μ h H1 → RRs cf.K μ h H0 H1 xs ws → PostI' cf W σ μ h H1 R (g xs h) → Q ws H1)
    (p : ∃ μ ρ h, RH cf.K μ h H ∧ REs cf.K μ h H ρ σ ∧ PostI' cf W σ μ h H R (iRg g rs ρ h)) : tXA cf W rs σ H Q := by
  obtain ⟨μ, ρ, h, r, en, p⟩ := p
  refine ⟨μ, ρ, h, r, en, ?_⟩
  unfold iRg at p
  cases ea : rs ρ h with
  | no => rw [ea] at p; exact p
  | exc c fs h1 => rw [ea] at p; exact p
  | ok xs h1 =>
    rw [ea] at p
    intro μ1 ws H1 g1 r1 rr1
    refine k r1 rr1 ?_
    have p : PostI' cf W σ μ h H R (g xs h1) := p
    cases eg : g xs h1 with
    | no => rw [eg] at p; exact p
    | exc c fs h2 => rw [eg] at p; exact fun μ' H' cls d g' r' rx => p μ' H' cls d (g1.trans g' r) r' rx
    | ok s h2 => rw [eg] at p; exact fun μ' H' J hu g' r' hl w => p μ' H' J hu (g1.trans g' r) r' hl w
theorem x_rg1 {rs : REnv → SHeap → RM (List Res)} {p : Pos} (hg : Gl X "range") (hm : X.mg "range" = none) (ha : PA X [a] (tXA cf W rs)) (hs : starEach [a] X.env = [(false, eval a X.env)]) : SrcOk cf X W tg (.Call (.Name "range" p) [a] [] pos) (iRg rg1 rs) := by
  refine ⟨_, pi_range1 hg hm ha hs, fun {σ H R} q => iArgs (fun {μ h H1 H0 xs ws} r rr p => ?_) q⟩
  unfold rg1 at p
  split at p
  · obtain rfl := rr.toInt1
    obtain ⟨c, p⟩ := p.orNo
    obtain ⟨c1, c2⟩ := rgB_ok c
    exact ⟨_, rfl, c1, c2, p μ H1 _ h Go.refl r rfl walk_rg⟩
  · exact p.elim
theorem x_rg2 {rs : REnv → SHeap → RM (List Res)} {p : Pos} (hg : Gl X "range") (hm : X.mg "range" = none) (ha : PA X [a, b] (tXA cf W rs)) (hs : starEach [a, b] X.env = [(false, eval a X.env), (false, eval b X.env)]) (hs2 : starEach [b] X.env = [(false, eval b X.env)]) : SrcOk cf X W tg (.Call (.Name "range" p) [a, b] [] pos) (iRg rg2 rs) := by
  refine ⟨_, pi_range2 hg hm ha hs hs2, fun {σ H R} q => iArgs (fun {μ h H1 H0 xs ws} r rr p => ?_) q⟩
  unfold rg2 at p
  split at p
  · obtain rfl := rr.toInt2
    obtain ⟨c, p⟩ := p.orNo
    obtain ⟨ci, cj⟩ := Bool.and_eq_true_iff.mp c
    obtain ⟨c1, c2⟩ := rgB_ok ci
    obtain ⟨c3, c4⟩ := rgB_ok cj
    exact ⟨_, _, rfl, ⟨c1, c2, c3, c4⟩, p μ H1 _ h Go.refl r rfl walk_rg⟩
  · exact p.elim
theorem x_rg3 {rs : REnv → SHeap → RM (List Res)} {p : Pos} (hg : Gl X "range") (hm : X.mg "range" = none) (ha : PA X [a, b, c] (tXA cf W rs)) (hs : starEach [a, b, c] X.env = (false, eval a X.env) :: starEach [b, c] X.env) (hpl : (backTo pos (starEach [b, c] X.env)).any (·.1) = false) : SrcOk cf X W tg (.Call (.Name "range" p) [a, b, c] [] pos) (iRg rg3 rs) := by
  refine ⟨_, pi_range3 hg hm ha hs hpl, fun {σ H R} q => iArgs (fun {μ h H1 H0 xs ws} r rr p => ?_) q⟩
  unfold rg3 at p
  split at p
  · obtain rfl := rr.toInt3
    obtain ⟨c, p⟩ := p.orNo
    obtain ⟨c1, c⟩ := Bool.and_eq_true_iff.mp c
    obtain ⟨c2, c⟩ := Bool.and_eq_true_iff.mp c
    obtain ⟨c3, c4⟩ := Bool.and_eq_true_iff.mp c
    exact ⟨_, _, _, _, rfl, ⟨of_decide_eq_true c1, Nat.le_of_ble_eq_true c2, c3, (Int.toNat_of_nonneg (of_decide_eq_true c4)).symm⟩, p μ H1 _ h Go.refl r rfl walk_rgC⟩
  · exact p.elim
end
end SM

set_option maxRecDepth 100000
set_option maxHeartbeats 4000000
namespace SM
open PySem PySem.Spec PyProof.Rows L2

def wipeE (ρ : REnv) : List Nat → REnv
  | [] => ρ
  | v :: vs => (wipeE ρ vs).set v none
/-- a comprehension's turns; c: the test (none: none) -/
def compL (t : Tg) (rc : Option (REnv → SHeap → R)) (re : REnv → SHeap → R) (ρ : REnv) : List EV → SHeap → RM (List PV)
  | [], h => .ok [] h
  | x :: xs, h => (match bindT t x ρ with
    | some ρ1 => (match (match rc with | none => RM.ok (EV.pv (.bool true)) h | some rc => rc ρ1 h) with
      | .ok (.pv (.bool true)) h1 => (match re ρ1 h1 with
        | .ok y h2 => (match freeze h2 y with
          | some (z, h3) => (match compL t rc re ρ xs h3 with
            | .ok zs h4 => .ok (z :: zs) h4
            | _ => .no)
          | none => .no)
        | _ => .no)
      | .ok (.pv (.bool false)) h1 => compL t rc re ρ xs h1
      | _ => .no)
    | none => .no)
def unl (l : Option Nat) (h : SHeap) : SHeap := match l with
  | none => h
  | some a => (match h[a]? with
    | some (.lk xs) => h.set a (.lst xs)
    | _ => h)
def compR (t : Tg) (vs : List Nat) (rc : Option (REnv → SHeap → R)) (re : REnv → SHeap → R) (ρ : REnv) (s : Src) (h : SHeap) : R :=
  orNo (Nat.ble s.items.length SZ) (match compL t rc re (wipeE ρ vs) s.items (h ++ [.busy]) with
    | .ok zs h2 => .ok (.ref h.length) (unl s.lock (h2.set h.length (.lst zs)))
    | _ => .no)
def rLc (ri : REnv → SHeap → RM Src) (t : Tg) (vs : List Nat) (rc : Option (REnv → SHeap → R)) (re : REnv → SHeap → R) : REnv → SHeap → R := fun ρ h => (ri ρ h).bind fun s h1 => compR t vs rc re ρ s h1

section
variable {cf : Cfg} {K : PySem.W.Frag} {W : WX} {σ : L2.St} {μ μ' μ₁ : List Addr} {h h' h₁ : SHeap} {H H' H₀ H₁ : Hp} {ρ ρ' : REnv}
theorem wipeE_len (ρ : REnv) : ∀ vs : List Nat, (wipeE ρ vs).length = ρ.length
  | [] => rfl
  | v :: vs => by unfold wipeE; rw [List.length_set, wipeE_len ρ vs]
theorem wipeE_some {ρ : REnv} {i : Nat} {x : EV} : ∀ {vs : List Nat}, (wipeE ρ vs)[i]? = some (some x) → ρ[i]? = some (some x) ∧ i ∉ vs
  | [], h => ⟨h, by simp⟩
  | v :: vs, h => by
    unfold wipeE at h
    rcases get_set h with ⟨_, e, _⟩ | ⟨ne, h⟩
    · cases e
    · obtain ⟨h1, h2⟩ := wipeE_some h
      exact ⟨h1, by simp only [List.mem_cons, not_or]; exact ⟨fun e => ne e.symm, h2⟩⟩
mutual
theorem bindT_len : ∀ {t : Tg} {x : EV} {ρ ρ' : REnv}, bindT t x ρ = some ρ' → ρ'.length = ρ.length
  | .nm i, x, ρ, ρ', e => by
    unfold bindT at e
    cases e
    rw [List.length_set]
  | .tp ts, x, ρ, ρ', e => by
    unfold bindT at e
    split at e
    · exact bindTs_len' e
    · cases e
theorem bindTs_len' : ∀ {t : Tgs} {x : List PV} {ρ ρ' : REnv}, bindTs t x ρ = some ρ' → ρ'.length = ρ.length
  | .nil, xs, _, _, e => by
    unfold bindTs at e
    split at e
    · cases e; rfl
    · cases e
  | .cons t ts, xs, _, _, e => by
    unfold bindTs at e
    split at e
    · split at e
      · rename_i e1
        exact (bindTs_len' e).trans (bindT_len e1)
      · cases e
    · cases e
end
theorem wipe_keep {σ : L2.St} {i : Nat} {vs : List Nat} (hn : i ∉ vs) : (wipe σ vs)[i]? = σ[i]? := by
  induction vs with
  | nil => rfl
  | cons v vs ih =>
    simp only [List.mem_cons, not_or] at hn
    unfold wipe
    rw [List.getElem?_set_ne (fun e => hn.1 e.symm)]
    exact ih hn.2
theorem wipe_in {σ : L2.St} {i : Nat} {vs : List Nat} (hn : i ∈ vs) (hi : i < σ.length) : (wipe σ vs)[i]? = some none := by
  induction vs with
  | nil => cases hn
  | cons v vs ih =>
    unfold wipe
    by_cases q : v = i
    · subst q
      rw [List.getElem?_set_self (by rw [wipe_length]; exact hi)]
    · rw [List.getElem?_set_ne q]
      exact ih ((List.mem_cons.mp hn).resolve_left fun e => q e.symm)
theorem REs.wipe (e : REs K μ h H ρ σ) (vs : List Nat) : REs K μ h H (wipeE ρ vs) (L2.wipe σ vs) where
  len := by rw [wipeE_len, wipe_length]; exact e.len
  at_ := fun i v ev => by
    obtain ⟨e1, n⟩ := wipeE_some ev
    obtain ⟨w, e2, q⟩ := e.at_ i v e1
    exact ⟨w, by rw [wipe_keep n]; exact e2, q⟩
theorem wipe_eq {σ σ2 : L2.St} {vs : List Nat} (hl : σ2.length = σ.length) (st : ∀ j, j ∉ vs → σ2[j]? = (wipe σ vs)[j]?) : wipe σ2 vs = wipe σ vs := by
  apply List.ext_getElem?
  intro j
  by_cases q : j ∈ vs
  · by_cases hj : j < σ.length
    · rw [wipe_in q hj, wipe_in q (by omega)]
    · rw [List.getElem?_eq_none (by rw [wipe_length]; omega), List.getElem?_eq_none (by rw [wipe_length]; omega)]
  · rw [wipe_keep q, st j q]
/-- a cell for what is being made at D -/
theorem RH.busy {D : Addr} {vs : List V} (r : RH K μ h H) (e : H D = none) : Go μ h H (μ ++ [D]) (h ++ [.busy]) (upd H D (.lst vs)) ∧ RH K (μ ++ [D]) (h ++ [.busy]) (upd H D (.lst vs)) := r.push (o := .busy) (ho := .lst vs) e trivial
/-- what is being made changes -/
theorem RH.busyUpd {D : Addr} {n : Nat} {vs ws : List V} (r : RH K μ h H) (e1 : μ[n]? = some D) (e2 : h[n]? = some .busy) (e : H D = some (.lst ws)) : RH K μ h (upd H D (.lst vs)) ∧
    (∀ {x w}, RP K H (Live μ h) x w → RP K (upd H D (.lst vs)) (Live μ h) x w) ∧ ∀ {x w}, RPs K H (Live μ h) x w → RPs K (upd H D (.lst vs)) (Live μ h) x w := by
  have lv : Live μ h D := ⟨n, _, e1, e2, fun z => nomatch z⟩
  have f : ∀ a us, SqT K H a us → SqT K (upd H D (.lst vs)) a us := fun a us s => by
    rcases s with (s | ⟨o, s⟩) | s
    · exact .inl (.inl (by rw [upd_ne (ne_of s e (fun z => nomatch z))]; exact s))
    · exact .inl (.inr ⟨o, by rw [upd_ne (ne_of s e (fun z => nomatch z))]; exact s⟩)
    · exact .inr s
  have g : ∀ a us, Rd H a (.lst us) → ¬ Live μ h a → Rd (upd H D (.lst vs)) a (.lst us) ∧ ¬ Live μ h a := fun a us s nl => by
    have ne : a ≠ D := fun z => nl (z ▸ lv)
    rcases s with s | ⟨o, s⟩
    · exact ⟨.inl (by rw [upd_ne ne]; exact s), nl⟩
    · exact ⟨.inr ⟨o, by rw [upd_ne ne]; exact s⟩, nl⟩
  refine ⟨⟨r.len, r.nd, fun i a q => ?_, fun i o q ne => ?_⟩, fun {x w} p => RP.map f g x w p, fun {x w} p => RPs.map f g x w p⟩
  · by_cases z : a = D
    · rw [z, upd_same]; exact fun z => nomatch z
    · rw [upd_ne z]; exact r.tr i a q
  · obtain ⟨a, ho, k1, k2, ro⟩ := r.obj i o q ne
    by_cases z : a = D
    · subst z
      have hi := nodup_at r.nd k1 e1
      subst hi
      rw [e2] at q; cases q
      exact ⟨a, .lst vs, k1, upd_same, trivial⟩
    · exact ⟨a, ho, k1, by rw [upd_ne z]; exact k2, ro.map f g⟩
theorem Go.busyUpd {D : Addr} {vs ws : List V} {μ0 : List Addr} {h0 : SHeap} {H0 : Hp} (g : Go μ0 h0 H0 μ h H) (e0 : H0 D = none) (e : H D = some (.lst ws)) : Go μ0 h0 H0 μ h (upd H D (.lst vs)) :=
  ⟨g.pre, g.new, g.dead, g.lk, g.bz, fun a o q nm => by rw [upd_ne (ne_of_none q e0)]; exact g.pres a o q nm, fun a t => by
    by_cases z : a = D
    · rw [z, upd_same]; exact fun z => nomatch z
    · rw [upd_ne z]; exact g.trk a t⟩
/-- the busy cell is the list's own -/
theorem RH.unbusy {D : Addr} {n : Nat} {zs : List PV} {vs : List V} {μ0 : List Addr} {h0 : SHeap} {H0 : Hp} (g : Go μ0 h0 H0 μ h H) (r : RH K μ h H) (hn : n = h0.length) (e1 : μ[n]? = some D) (e2 : h[n]? = some .busy)
    (eD : H D = some (.lst vs)) (q : RPs K H (Live μ h) zs vs) : Go μ0 h0 H0 μ (h.set n (.lst zs)) H ∧ RH K μ (h.set n (.lst zs)) H := by
  have hnl : n < h.length := (List.getElem?_eq_some_iff.mp e2).1
  have lv : Live μ (h.set n (.lst zs)) = Live μ h := by
    funext b
    refine propext ⟨fun ⟨i, o, k1, k2, ne⟩ => ?_, fun ⟨i, o, k1, k2, ne⟩ => ?_⟩
    · rcases get_set k2 with ⟨rfl, _, _⟩ | ⟨_, k3⟩
      · exact ⟨_, _, k1, e2, fun z => nomatch z⟩
      · exact ⟨i, o, k1, k3, ne⟩
    · by_cases w : n = i
      · subst w
        exact ⟨n, .lst zs, k1, by rw [List.getElem?_set_self hnl], fun z => nomatch z⟩
      · exact ⟨i, o, k1, by rw [List.getElem?_set_ne w]; exact k2, ne⟩
  have lt0 : ∀ {i : Nat} {o : SO}, h0[i]? = some o → n ≠ i := fun z => by
    have := (List.getElem?_eq_some_iff.mp z).1
    omega
  refine ⟨⟨g.pre, g.new, fun i z => by rw [List.getElem?_set_ne (lt0 z)]; exact g.dead i z, fun i xs z => by rw [List.getElem?_set_ne (lt0 z)]; exact g.lk i xs z, fun i z => by rw [List.getElem?_set_ne (lt0 z)]; exact g.bz i z, g.pres, g.trk⟩,
    ⟨by rw [List.length_set]; exact r.len, r.nd, r.tr, fun i o z ne => ?_⟩⟩
  rw [lv]
  rcases get_set z with ⟨rfl, rfl, _⟩ | ⟨_, z1⟩
  · exact ⟨D, _, e1, eD, q⟩
  · exact r.obj i o z1 ne
/-- the lock goes, at the end of what stands between -/
theorem Go.unl {l : Option Nat} {hu : SHeap} {μ0 : List Addr} {H0 : Hp} (r0 : RH K μ0 hu H0) (hl : match l with | none => h₁ = hu | some a => ∃ xs, hu[a]? = some (.lst xs) ∧ h₁ = hu.set a (.lk xs)) (g : Go μ0 h₁ H0 μ h H) (r : RH K μ h H) :
    Go μ0 hu H0 μ (SM.unl l h) H ∧ RH K μ (SM.unl l h) H ∧ Live μ (SM.unl l h) = Live μ h := by
  cases l with
  | none =>
    have e : h₁ = hu := hl
    subst e
    exact ⟨g, r, rfl⟩
  | some a =>
    obtain ⟨xs, e, e2⟩ : ∃ xs, hu[a]? = some (.lst xs) ∧ h₁ = hu.set a (.lk xs) := hl
    subst e2
    obtain ⟨k, g2⟩ := g.locked r0 e
    have eu : SM.unl (some a) h = h.set a (.lst xs) := by simp only [SM.unl, k]
    rw [eu]
    exact ⟨g2, r.unlock k, live_unl k⟩
end

section
variable {X : Cx} {cf : Cfg} {W : WX} {tg iter elt : Expr} {ifs : List Expr} {scope : Scope} {own : List (Str × Nat)} {pos : Pos} {ri : REnv → SHeap → RM Src} {re : REnv → SHeap → R} {rc : Option (REnv → SHeap → R)} {t : Tg}
abbrev W0 : WX := fun _ _ _ _ => False
def condT (cf : Cfg) (rc : Option (REnv → SHeap → R)) : TT := match rc with
  | none => tYes
  | some rc => tB (tX cf W0 rc)
theorem drop_cons {α : Type} {l : List α} {i : Nat} {x : α} (h : l[i]? = some x) : l.drop i = x :: l.drop (i + 1) := by
  obtain ⟨hi, e⟩ := List.getElem?_eq_some_iff.mp h
  rw [List.drop_eq_getElem_cons hi, e]
/-- between two turns of a comprehension -/
def LcInv (cf : Cfg) (t : Tg) (rc : Option (REnv → SHeap → R)) (re : REnv → SHeap → R) (ρw : REnv) (items : List EV) (n : Nat) (D : Addr) (μ1 : List Addr) (h1 : SHeap) (H1 : Hp) (zs : List PV) (hz : SHeap) (i m : Nat) (Hc : Hp) : Prop :=
  m = items.length - i ∧ i ≤ items.length ∧ ∃ μc hc accP accV, Go μ1 h1 H1 μc hc Hc ∧ RH cf.K μc hc Hc ∧ μc[n]? = some D ∧ hc[n]? = some .busy ∧ Hc D = some (.lst accV) ∧ RPs cf.K Hc (Live μc hc) accP accV ∧ accP.length ≤ i ∧
    ∃ zr, compL t rc re ρw (items.drop i) hc = .ok zr hz ∧ accP ++ zr = zs
/-- one more item -/
theorem LcInv.next {ρw ρ1 : REnv} {items : List EV} {n : Nat} {D : Addr} {μ1 μc : List Addr} {h1 hc hz : SHeap} {H1 Hd : Hp} {zs zr accP : List PV} {accV : List V} {i : Nat} {σ' : L2.St} (r1 : RH cf.K μ1 h1 H1) (hD : H1 D = none) (hlt : i < items.length) (hsz : items.length ≤ SZ)
    (gd : Go μ1 h1 H1 μc hc Hd) (rd : RH cf.K μc hc Hd) (kD : μc[n]? = some D) (kb : hc[n]? = some .busy) (eD : Hd D = some (.lst accV)) (qa : RPs cf.K Hd (Live μc hc) accP accV) (la : accP.length ≤ i) (en : REs cf.K μc hc Hd ρ1 σ')
    (ec : (match re ρ1 hc with
        | .ok y h2 => (match freeze h2 y with
          | some (z, h3) => (match compL t rc re ρw (items.drop (i + 1)) h3 with
            | .ok zs h4 => .ok (z :: zs) h4
            | _ => .no)
          | none => .no)
        | _ => .no) = RM.ok zr hz) (ez : accP ++ zr = zs) :
    tX cf W0 re σ' Hd fun y H4 => ∃ acc, H4 D = some (.lst acc) ∧ acc.length < sizeLine ∧ LcInv cf t rc re ρw items n D μ1 h1 H1 zs hz (i + 1) (items.length - (i + 1)) (upd H4 D (.lst (acc ++ [y]))) := by
  refine ⟨μc, ρ1, hc, rd, en, ?_⟩
  split at ec
  · rename_i y h2 e2
    rw [e2]
    intro μ4 w H4 g4 r4 rr4
    have nb : ¬ Mtb μc hc D := fun ⟨i', o, k1, k2, _, nb, _⟩ => by
      have hi' := nodup_at rd.nd k1 kD
      subst hi'
      rw [kb] at k2; cases k2
      exact nb rfl
    have eD4 := g4.pres D _ eD nb
    split at ec
    · rename_i z h3 e3
      obtain ⟨g5, r5, q5⟩ := freeze_ok r4 rr4 e3
      split at ec
      · rename_i zs' h4 e4
        cases ec
        have g14 := (gd.trans g4 r1).trans g5 r1
        have kb5 := g5.bz _ (g4.bz _ kb)
        have kD5 := g5.pre _ _ (g4.pre _ _ kD)
        obtain ⟨r6, c1, c2⟩ := RH.busyUpd (vs := accV ++ [w]) r5 kD5 kb5 eD4
        refine ⟨accV, eD4, ?_, rfl, hlt, μ4, h3, accP ++ [z], accV ++ [w], g14.busyUpd hD eD4, r6, kD5, kb5, upd_same, c2 (RPs.append ((qa.go g4 rd).go g5 r4) (.cons q5 .nil)), by rw [List.length_append]; show accP.length + 1 ≤ i + 1; omega, zs', e4, by rw [List.append_assoc]; exact ez⟩
        rw [← qa.length]
        exact Nat.lt_of_lt_of_le (Nat.lt_of_le_of_lt la hlt) (szL hsz)
      · cases ec
    · cases ec
  · cases ec
/-- a comprehension's reading -/
theorem lc_read {wi : TI} {vs : List Nat} (hwi : ∀ {σ H R}, (∃ μ ρ h, RH cf.K μ h H ∧ REs cf.K μ h H ρ σ ∧ PostI' cf W σ μ h H R (ri ρ h)) → wi σ H R) (hsl : ∀ j, j ∈ slotsT t → j ∈ vs)
    {σ : L2.St} {H : Hp} {Q : VK} (p : tX cf W (rLc ri t vs rc re) σ H Q) : tLc wi (gX cf t) (condT cf rc) (tX cf W0 re) vs σ H Q := by
  obtain ⟨μ, ρ, h, r, en, p⟩ := p
  refine hwi ⟨μ, ρ, h, r, en, ?_⟩
  unfold rLc at p
  cases ei : ri ρ h with
  | no => rw [ei] at p; exact p
  | exc c fs h1 => rw [ei] at p; exact p
  | ok s h1 =>
    rw [ei] at p
    replace p : Post cf W σ μ h H Q (compR t vs rc re ρ s h1) := p
    unfold compR at p
    obtain ⟨hz, p⟩ := p.orNo
    replace hz : s.items.length ≤ SZ := Nat.le_of_ble_eq_true hz
    intro μ1 H1 J hu g1 ru hl wk D hD
    have r1 : RH cf.K μ1 h1 H1 := by
      cases hlk : s.lock with
      | none => rw [hlk] at hl; rw [show h1 = hu from hl]; exact ru
      | some a =>
        rw [hlk] at hl
        obtain ⟨xs, e, e2⟩ : ∃ xs, hu[a]? = some (.lst xs) ∧ h1 = hu.set a (.lk xs) := hl
        rw [e2]; exact ru.lock e
    split at p
    · rename_i zs hz2 ec
      obtain ⟨gb, rb⟩ := r1.busy (vs := []) hD
      have en1 : ∀ {μc hc Hc}, Go μ1 h1 H1 μc hc Hc → REs cf.K μc hc Hc (wipeE ρ vs) (wipe σ vs) := fun {μc hc Hc} g => by
        have e1 : REs cf.K μ1 hu H1 ρ σ := en.go g1 r
        have e2 : REs cf.K μ1 h1 H1 ρ σ := by
          cases hlk : s.lock with
          | none => rw [hlk] at hl; rw [show h1 = hu from hl]; exact e1
          | some a =>
            rw [hlk] at hl
            obtain ⟨xs, e, e3⟩ : ∃ xs, hu[a]? = some (.lst xs) ∧ h1 = hu.set a (.lk xs) := hl
            rw [e3]; exact e1.cast (live_lk e)
        exact (e2.go g r1).wipe _
      refine ⟨LcInv cf t rc re (wipeE ρ vs) s.items h1.length D μ1 h1 H1 zs hz2, ⟨s.items.length, rfl, Nat.zero_le _, μ1 ++ [D], h1 ++ [.busy], [], [], gb, rb, ?_, ?_, upd_same, .nil, Nat.zero_le _, zs, by rw [List.drop_zero]; exact ec, rfl⟩, ?_⟩
      · rw [← r1.len, List.getElem?_append_right (Nat.le_refl _)]; simp
      · rw [List.getElem?_append_right (Nat.le_refl _)]; simp
      rintro i m Hc ⟨rfl, hi, μc, hcc, accP, accV, gc, rcx, kD, kb, eD, qa, la, zr, ec2, ez⟩
      by_cases hlt : i < s.items.length
      · right
        refine ⟨wk.goes μc hcc Hc i gc rcx hlt, LcInv cf t rc re (wipeE ρ vs) s.items h1.length D μ1 h1 H1 zs hz2 (i + 1) (s.items.length - (i + 1)), fun H' w => ⟨s.items.length - (i + 1), by omega, w⟩, fun xv Hd y => ?_⟩
        obtain ⟨ev, ee, gd, rd, qe⟩ := wk.yields μc hcc Hc i xv Hd gc rcx hlt y
        have g1d := gc.trans gd r1
        rw [drop_cons ee] at ec2
        unfold compL at ec2
        split at ec2
        · rename_i ρ1 eb
          refine ⟨μc, _, hcc, ev, ρ1, rd, en1 g1d, qe, eb, fun σ' en2 st => ⟨wipe_eq ?_ fun j hj => st j fun z => hj (hsl j z), ?_⟩⟩
          · rw [← en2.len, ← en.len, bindT_len eb, wipeE_len]
          · have nb : ¬ Mtb μc hcc D := fun ⟨i', o, k1, k2, _, nb, _⟩ => by
              have hi' := nodup_at rcx.nd k1 kD
              subst hi'
              rw [kb] at k2; cases k2
              exact nb rfl
            have eDd : Hd D = some (.lst accV) := gd.pres D _ eD nb
            have qd := qa.go gd rcx
            cases rc with
            | none =>
              simp only at ec2
              exact LcInv.next r1 hD hlt hz g1d rd kD kb eDd qd la en2 ec2 ez
            | some rc =>
              simp only at ec2
              refine ⟨μc, ρ1, hcc, rd, en2, ?_⟩
              split at ec2
              · rename_i h2 e2
                rw [e2]
                intro μ3 w3 H3 g3 r3 rr3
                refine ⟨true, rr3.toBl, ?_⟩
                show if true = true then _ else _
                rw [if_pos rfl]
                exact LcInv.next r1 hD hlt hz (g1d.trans g3 r1) r3 (g3.pre _ _ kD) (g3.bz _ kb) (g3.pres D _ eDd nb) (qd.go g3 rd) la (en2.go g3 rd) ec2 ez
              · rename_i h2 e2
                rw [e2]
                intro μ3 w3 H3 g3 r3 rr3
                refine ⟨false, rr3.toBl, ?_⟩
                show if false = true then _ else _
                rw [if_neg Bool.false_ne_true]
                exact ⟨rfl, hlt, μ3, h2, accP, accV, g1d.trans g3 r1, r3, g3.pre _ _ kD, g3.bz _ kb, g3.pres D _ eDd nb, qd.go g3 rd, by omega, zr, ec2, ez⟩
              · cases ec2
        · cases ec2
      · left
        have e : i = s.items.length := by omega
        subst e
        refine ⟨wk.stops μc hcc Hc gc rcx, ?_⟩
        rw [List.drop_length] at ec2
        cases ec2
        rw [List.append_nil] at ez
        subst ez
        obtain ⟨ge, re'⟩ := RH.unbusy gc rcx rfl kD kb eD qa
        obtain ⟨gf, rf, lf⟩ := Go.unl ru hl ge re'
        exact p μc (.ref D) Hc (g1.trans gf r) rf ⟨D, kD, rfl⟩
    · exact p.no
/-- [elt for tg in iter if ..] -/
theorem x_lc (hc : X.calm = true) (hN : X.N.Nodup) (hi : SrcOk cf X W tg iter ri) (ok : BlkOk X.N X.env.scope scope own) (hsl : ∀ j, j ∈ slotsT t → j ∈ own.map (·.2))
    (hg : ∀ (s : Shared) (H : Hp) (C : Addr) (cl : List (Str × Addr)) (fp : List Addr), PG (X.blk s H scope (compEnvC scope cl C X.env) fp) tg (gX cf t))
    (ht : ∀ (s : Shared) (H : Hp) (C : Addr) (cl : List (Str × Addr)) (fp : List Addr), PTs (X.blk s H scope (compEnvC scope cl C X.env) fp) ifs (condT cf rc))
    (he : ∀ (s : Shared) (H : Hp) (C : Addr) (cl : List (Str × Addr)) (fp : List Addr), PE (X.blk s H scope (compEnvC scope cl C X.env) fp) elt (tX cf W0 re)) (hs : ∀ x, foldedSetIterable iter X.env x = pure x) :
    PE X (.ListComp elt [⟨tg, iter, ifs, 0⟩] scope pos) (tX cf W (rLc ri t (own.map (·.2)) rc re)) := by
  obtain ⟨wi, hpi, hwi⟩ := hi
  exact (pe_lc (pos := pos) hc hN hpi ok hg ht he hs).imp fun σ H Q q => lc_read hwi hsl q
end
end SM

set_option maxRecDepth 100000
set_option maxHeartbeats 4000000
namespace SM
open PySem PySem.Spec PyProof.Rows L2

/-! ### defs called -/
abbrev CallF := Nat → List EV → SHeap → R
def spF (cf : Cfg) (C : CallF) (f np : Nat) : Sp := fun vs H Q E => ∃ μ h args, RH cf.K μ h H ∧ RRs cf.K μ h H H args vs ∧ args.length = np ∧ Post cf (fun c d _ H => E c d H) [] μ h H Q (C f args h)
theorem Post.callW {cf : Cfg} {W : WX} {σ : L2.St} {μ : List Addr} {h : SHeap} {H : Hp} {Q : VK} {r : R} (p : Post cf W σ μ h H Q r) : Post cf (fun c d _ H => W c d σ H) [] μ h H Q r := by
  cases r with
  | ok x h' => exact p
  | exc c fs h' => exact p
  | no => exact p
def rCall (C : CallF) (f np : Nat) (rs : REnv → SHeap → RM (List Res)) : REnv → SHeap → R := fun ρ h => (rs ρ h).bind fun xs h1 => orNo (Nat.beq xs.length np) (C f xs h1)
section
variable {X : Cx} {cf : Cfg} {W : WX} {C : CallF} {k f np : Nat} {fa : Addr} {fd : FuncData} {ps : List Str} {x : Str} {p pos : Pos} {e : Expr} {es : List Expr} {rs : REnv → SHeap → RM (List Res)}
theorem RRs.same {K : PySem.W.Frag} {μ : List Addr} {h : SHeap} {H₁ H₂ H : Hp} {xs : List Res} {ws : List V} (p : RRs K μ h H₁ H xs ws) : RRs K μ h H₂ H xs ws := by
  induction p with
  | nil => exact .nil
  | cons q _ ih => exact .cons q.re.rr ih
theorem x_callT {σ : L2.St} {H : Hp} {Q : VK} (q : tX cf W (rCall C f np rs) σ H Q) : tCallSD (spF cf C f np) [] (fun σ => WE W σ) (tXA cf W rs) σ H Q := by
  obtain ⟨μ, ρ, h, r, e, p⟩ := tXA.bind (k := fun _ xs h1 => orNo (Nat.beq xs.length np) (C f xs h1)) q
  refine ⟨μ, ρ, h, r, e, p.mono fun ws H1 ⟨μ1, ρ1, xs, h1, H0, r1, e1, rr, p⟩ => ?_⟩
  obtain ⟨hc, p⟩ := p.orNo
  rw [List.append_nil]
  exact ⟨μ1, h1, xs, r1, rr.same, Nat.eq_of_beq_eq_true hc, p.callW⟩
theorem x_call (tk : Takes X W) (F : FnOk X.prog X.w X.K X.mg X.base (L2.CX X.prog X.w) k fa fd ps (spF cf C f np)) (hr : Room k X.A) (hg : Gl X x) (hm : X.mg x = some (.ref fa)) (hk : PySem.W.keepIn X.K (.ref fa) = true) (hb : Binds X.K fd ps []) (ha : PA X (e :: es) (tXA cf W rs))
    (hdb : (x == ("__debug__" : Str)) = false) (he : starEach (e :: es) X.env = (false, eval e X.env) :: starEach es X.env) (hpl : (backTo pos (starEach es X.env)).any (·.1) = false) : PE X (.Call (.Name x p) (e :: es) [] pos) (tX cf W (rCall C f np rs)) :=
  (pe_callSD F hr hg hm hk hb .nil (fun σ => passAt tk σ) ha hdb he hpl).imp fun σ H Q q => x_callT q
theorem x_call0 (tk : Takes X W) (F : FnOk X.prog X.w X.K X.mg X.base (L2.CX X.prog X.w) k fa fd ps (spF cf C f np)) (hr : Room k X.A) (hg : Gl X x) (hm : X.mg x = some (.ref fa)) (hk : PySem.W.keepIn X.K (.ref fa) = true) (hb : Binds X.K fd ps [])
    (hdb : (x == ("__debug__" : Str)) = false) : PE X (.Call (.Name x p) [] [] pos) (tX cf W (rCall C f np fun _ h => .ok [] h)) := by
  refine ⟨fun pins s σ H Q I q => ?_⟩
  refine wpAny_Call_Name_kw (ld_glob I hg hm ?_ hdb)
  refine PySem.W.callWith_K0 I.kIn hk (run_fnSD (us := []) (vs := []) (dvs := []) (E := fun σ => WE W σ) F hr hb .nil (passAt tk σ) I .nil ?_)
  obtain ⟨μ, ρ, h, r, e, p⟩ := q
  obtain ⟨hc, p⟩ := p.orNo
  exact ⟨μ, h, [], r, .nil, Nat.eq_of_beq_eq_true hc, p.callW⟩
end

/-! ### statements -/
inductive FR where
  | nx (ρ : REnv) (h : SHeap) | rt (r : Res) (h : SHeap) | bk (ρ : REnv) (h : SHeap) | ct (ρ : REnv) (h : SHeap) | exc (c : Nat) (fs : List (Str × PV)) (ρ : REnv) (h : SHeap) | no
def RM.toF {α : Type} (x : RM α) (ρ : REnv) (k : α → SHeap → FR) : FR := match x with
  | .ok a h => k a h
  | .exc c fs h => .exc c fs ρ h
  | .no => .no
def PostS (cf : Cfg) (W : WX) (μ : List Addr) (h : SHeap) (H : Hp) (D : Ends) : FR → Prop
  | .nx ρ' h' => ∀ μ' σ' H', Go μ h H μ' h' H' → RH cf.K μ' h' H' → REs cf.K μ' h' H' ρ' σ' → D.nx σ' H'
  | .bk ρ' h' => ∀ μ' σ' H', Go μ h H μ' h' H' → RH cf.K μ' h' H' → REs cf.K μ' h' H' ρ' σ' → D.bk σ' H'
  | .ct ρ' h' => ∀ μ' σ' H', Go μ h H μ' h' H' → RH cf.K μ' h' H' → REs cf.K μ' h' H' ρ' σ' → D.ct σ' H'
  | .rt r h' => ∀ μ' w H', Go μ h H μ' h' H' → RH cf.K μ' h' H' → RE cf.K μ' h' H' r w → D.rt w H'
  | .exc c fs ρ' h' => ∀ μ' σ' H' cls d, Go μ h H μ' h' H' → RH cf.K μ' h' H' → REs cf.K μ' h' H' ρ' σ' → RX cf H' (Live μ' h') c fs cls d → W cls d σ' H'
  | .no => False
def tS (cf : Cfg) (W : WX) (run : REnv → SHeap → FR) : TS := fun D σ H => ∃ μ ρ h, RH cf.K μ h H ∧ REs cf.K μ h H ρ σ ∧ PostS cf W μ h H D (run ρ h)
theorem _root_.L2.PS.imp {X : Cx} {e : Stmt} {t t' : TS} (h : PS X e t) (k : ∀ D σ H, t' D σ H → t D σ H) : PS X e t' := ⟨fun pins s σ H D I q => h.run pins s σ H D I (k D σ H q)⟩
theorem _root_.L2.PSs.imp {X : Cx} {e : List Stmt} {t t' : TS} (h : PSs X e t) (k : ∀ D σ H, t' D σ H → t D σ H) : PSs X e t' := ⟨fun pins s σ H D I q => h.run pins s σ H D I (k D σ H q)⟩

section
variable {cf : Cfg} {W : WX} {σ : L2.St} {μ μ' μ₁ : List Addr} {h h' h₁ : SHeap} {H H' H₀ H₁ : Hp} {ρ ρ' : REnv} {D : Ends}
theorem PostS.no {P : Prop} (p : PostS cf W μ h H D .no) : P := False.elim p
theorem PostS.later {res : FR} (p : PostS cf W μ h H D res) (g : Go μ h H μ₁ h₁ H₁) (r : RH cf.K μ h H) : PostS cf W μ₁ h₁ H₁ D res := by
  cases res with
  | nx ρ' h' => exact fun μ' σ' H' g' r' e' => p μ' σ' H' (g.trans g' r) r' e'
  | bk ρ' h' => exact fun μ' σ' H' g' r' e' => p μ' σ' H' (g.trans g' r) r' e'
  | ct ρ' h' => exact fun μ' σ' H' g' r' e' => p μ' σ' H' (g.trans g' r) r' e'
  | rt r' h' => exact fun μ' σ' H' g' r' e' => p μ' σ' H' (g.trans g' r) r' e'
  | exc c fs ρ' h' => exact fun μ' σ' H' cls d g' r' e' rx => p μ' σ' H' cls d (g.trans g' r) r' e' rx
  | no => exact p
/-- an expression, then the rest -/
theorem PostS.bind {ra : R} {k : Res → SHeap → FR} (r : RH cf.K μ h H) (en : REs cf.K μ h H ρ σ) (p : PostS cf W μ h H D (ra.toF ρ k)) :
    Post cf W σ μ h H (fun x H1 => ∃ μ1 y h1, Go μ h H μ1 h1 H1 ∧ RH cf.K μ1 h1 H1 ∧ REs cf.K μ1 h1 H1 ρ σ ∧ RE cf.K μ1 h1 H1 y x ∧ PostS cf W μ1 h1 H1 D (k y h1)) ra := by
  cases ra with
  | ok x h' => exact fun μ' w H' g' r' rr => ⟨μ', x, h', g', r', en.go g' r, rr.re, PostS.later p g' r⟩
  | exc c fs h' => exact fun μ' H' cls d g' r' rx => p μ' σ H' cls d g' r' (en.go g' r) rx
  | no => exact p
theorem PostS.bindA {ra : RM (List Res)} {k : List Res → SHeap → FR} (r : RH cf.K μ h H) (en : REs cf.K μ h H ρ σ) (p : PostS cf W μ h H D (ra.toF ρ k)) :
    PostA cf W σ μ h H (fun x H1 => ∃ μ1 y h1, Go μ h H μ1 h1 H1 ∧ RH cf.K μ1 h1 H1 ∧ REs cf.K μ1 h1 H1 ρ σ ∧ RRs cf.K μ1 h1 H H1 y x ∧ PostS cf W μ1 h1 H1 D (k y h1)) ra := by
  cases ra with
  | ok x h' => exact fun μ' w H' g' r' rr => ⟨μ', x, h', g', r', en.go g' r, rr, PostS.later p g' r⟩
  | exc c fs h' => exact fun μ' H' cls d g' r' rx => p μ' σ H' cls d g' r' (en.go g' r) rx
  | no => exact p
theorem tS.bind {ra : REnv → SHeap → R} {k : REnv → Res → SHeap → FR} (q : tS cf W (fun ρ h => (ra ρ h).toF ρ (k ρ)) D σ H) :
    tX cf W ra σ H (fun x H1 => ∃ μ1 ρ y h1, RH cf.K μ1 h1 H1 ∧ REs cf.K μ1 h1 H1 ρ σ ∧ RE cf.K μ1 h1 H1 y x ∧ PostS cf W μ1 h1 H1 D (k ρ y h1)) := by
  obtain ⟨μ, ρ, h, r, en, p⟩ := q
  exact ⟨μ, ρ, h, r, en, (PostS.bind r en p).mono fun x H1 ⟨μ1, y, h1, g, r1, e1, rr, p1⟩ => ⟨μ1, ρ, y, h1, r1, e1, rr, p1⟩⟩
end

def rExpr (ra : REnv → SHeap → R) : REnv → SHeap → FR := fun ρ h => (ra ρ h).toF ρ fun _ h1 => .nx ρ h1
def rSet (i : Nat) (ra : REnv → SHeap → R) : REnv → SHeap → FR := fun ρ h => (ra ρ h).toF ρ fun x h1 => .nx (ρ.set i (some x)) h1
def rUnp (t : Tg) (ra : REnv → SHeap → R) : REnv → SHeap → FR := fun ρ h => (ra ρ h).toF ρ fun x h1 => match bindT t x ρ with
  | some ρ1 => .nx ρ1 h1
  | none => .no
def rRet (ra : REnv → SHeap → R) : REnv → SHeap → FR := fun ρ h => (ra ρ h).toF ρ fun x h1 => .rt x h1
def onBlF (x : Res) (k : Bool → FR) : FR := match x with
  | .pv (.bool b) => k b
  | _ => .no
def rIf (rc : REnv → SHeap → R) (ra rb : REnv → SHeap → FR) : REnv → SHeap → FR := fun ρ h => (rc ρ h).toF ρ fun x h1 => onBlF x fun b => if b = true then ra ρ h1 else rb ρ h1
def rSeq (ra rb : REnv → SHeap → FR) : REnv → SHeap → FR := fun ρ h => match ra ρ h with
  | .nx ρ1 h1 => rb ρ1 h1
  | r => r
def par2 (i j : Nat) (rs : REnv → SHeap → RM (List Res)) : REnv → SHeap → FR := fun ρ h => (rs ρ h).toF ρ fun xs h1 => match xs with
  | [x, y] => .nx ((ρ.set i (some x)).set j (some y)) h1
  | _ => .no
def par3 (i j l : Nat) (rs : REnv → SHeap → RM (List Res)) : REnv → SHeap → FR := fun ρ h => (rs ρ h).toF ρ fun xs h1 => match xs with
  | [x, y, z] => .nx (((ρ.set i (some x)).set j (some y)).set l (some z)) h1
  | _ => .no
section
variable {X : Cx} {cf : Cfg} {W : WX} {e a b c tg : Expr} {es : List Expr} {ra rb rc : REnv → SHeap → R} {sa sb : REnv → SHeap → FR} {rs : REnv → SHeap → RM (List Res)} {pos : Pos}
theorem s_expr (he : PE X e (tX cf W ra)) (hs : swapsWith e none pos.line X.env = pure false) : PS X (.Expr e pos) (tS cf W (rExpr ra)) :=
  (ps_expr he hs).imp fun D σ H q => (tS.bind (k := fun ρ _ h1 => .nx ρ h1) q).mono fun x H1 ⟨μ1, ρ, y, h1, r1, e1, rr, p⟩ => p μ1 σ H1 Go.refl r1 e1
theorem asg_read {i : Nat} {D : Ends} {σ : L2.St} {H : Hp} (q : tS cf W (rSet i ra) D σ H) : tX cf W ra σ H (fun x H1 => D.nx (σ.set i (some x)) H1) :=
  (tS.bind (k := fun ρ x h1 => .nx (ρ.set i (some x)) h1) q).mono fun x H1 ⟨μ1, ρ, y, h1, r1, e1, rr, p⟩ => p μ1 _ H1 Go.refl r1 (e1.set rr i)
theorem s_set {i : Nat} {x : Str} {pos' : Pos} (hN : X.N.Nodup) (hi : X.N[i]? = some x) (hx : Loc X.env.scope x) (he : PE X e (tX cf W ra)) (hs : swapsWith e (some (.Name x pos')) pos.line X.env = pure false) (hf : X.fn x = true ∨ X.env.scope.names.lookup x = some .local) :
    PS X (.Assign [.Name x pos'] e pos) (tS cf W (rSet i ra)) := (ps_set hN hi hx he hs hf).imp fun D σ H q => asg_read q
theorem s_unp {t : Tg} (he : PE X e (tX cf W ra)) (hg : PG X tg (gX cf t)) (hs : swapsWithSole [tg] e pos.line X.env = pure false) (hw : swappedStores [tg] e X.env = pure none) (h1 : (assignEach [tg] X.env).map (·.2) = [assign tg X.env]) : PS X (.Assign [tg] e pos) (tS cf W (rUnp t ra)) := by
  refine (ps_asg he hg hs hw h1).imp fun D σ H q => (tS.bind (k := fun ρ x h1 => match bindT t x ρ with | some ρ1 => .nx ρ1 h1 | none => .no) q).mono fun x H1 ⟨μ1, ρ, y, h1, r1, e1, rr, p⟩ => ?_
  split at p
  · rename_i ρ1 eb
    exact ⟨μ1, ρ, h1, y, ρ1, r1, e1, rr, eb, fun σ' e2 _ => p μ1 σ' H1 Go.refl r1 e2⟩
  · exact p.no
theorem s_ret (he : PE X e (tX cf W ra)) : PS X (.Return (some e) pos) (tS cf W (rRet ra)) :=
  (ps_ret he).imp fun D σ H q => (tS.bind (k := fun ρ x h1 => .rt x h1) q).mono fun x H1 ⟨μ1, ρ, y, h1, r1, e1, rr, p⟩ => p μ1 x H1 Go.refl r1 rr
theorem s_retN : PS X (.Return none pos) (tS cf W fun _ h => .rt (.pv .none) h) := ps_retN.imp fun D σ H ⟨μ, ρ, h, r, en, p⟩ => p μ .non H Go.refl r (show RP _ _ _ _ _ from .non)
theorem s_pass : PS X (.Pass pos) (tS cf W fun ρ h => .nx ρ h) := ps_pass.imp fun D σ H ⟨μ, ρ, h, r, en, p⟩ => p μ σ H Go.refl r en
theorem s_break : PS X (.Break pos) (tS cf W fun ρ h => .bk ρ h) := ps_break.imp fun D σ H ⟨μ, ρ, h, r, en, p⟩ => p μ σ H Go.refl r en
theorem s_cont : PS X (.Continue pos) (tS cf W fun ρ h => .ct ρ h) := ps_continue.imp fun D σ H ⟨μ, ρ, h, r, en, p⟩ => p μ σ H Go.refl r en
theorem s_no {st : Stmt} : PS X st (tS cf W fun _ _ => .no) := ⟨fun _ _ _ _ _ _ ⟨_, _, _, _, _, p⟩ => p.elim⟩
theorem ss_nil : PSs X [] (tS cf W fun ρ h => .nx ρ h) := pss_nil.imp fun D σ H ⟨μ, ρ, h, r, en, p⟩ => p μ σ H Go.refl r en
theorem ss_cons {st : Stmt} {sts : List Stmt} (h1 : PS X st (tS cf W sa)) (h2 : PSs X sts (tS cf W sb)) : PSs X (st :: sts) (tS cf W (rSeq sa sb)) := by
  refine (pss_cons h1 h2).imp fun D σ H ⟨μ, ρ, h, r, en, p⟩ => ⟨μ, ρ, h, r, en, ?_⟩
  unfold rSeq at p
  cases ea : sa ρ h with
  | nx ρ1 h1 => rw [ea] at p; exact fun μ' σ' H' g' r' e' => ⟨μ', ρ1, h1, r', e', PostS.later p g' r⟩
  | rt x h1 => rw [ea] at p; exact p
  | bk x h1 => rw [ea] at p; exact p
  | ct x h1 => rw [ea] at p; exact p
  | exc c fs ρ1 h1 => rw [ea] at p; exact p
  | no => rw [ea] at p; exact p
theorem PostS.onBl {μ : List Addr} {h : SHeap} {H : Hp} {D : Ends} {x : Res} {u : V} {k : Bool → FR} (p : PostS cf W μ h H D (onBlF x k)) (rx : RE cf.K μ h H x u) : ∃ b, u = .bl b ∧ PostS cf W μ h H D (k b) := by
  unfold onBlF at p
  split at p
  · cases rx; exact ⟨_, rfl, p⟩
  · exact p.no
theorem s_if {sta stb : List Stmt} (hc : PT X c (tB (tX cf W rc))) (ha : PSs X sta (tS cf W sa)) (hb : PSs X stb (tS cf W sb)) : PS X (.If c sta stb pos) (tS cf W (rIf rc sa sb)) := by
  refine (ps_if hc ha hb).imp fun D σ H q => (tS.bind (k := fun ρ x h1 => onBlF x fun b => if b = true then sa ρ h1 else sb ρ h1) q).mono fun x H1 ⟨μ1, ρ, y, h1, r1, e1, rr, p⟩ => ?_
  obtain ⟨b, rfl, p⟩ := PostS.onBl p rr
  refine ⟨b, rfl, ?_⟩
  cases b with
  | true => rw [if_pos rfl]; exact ⟨μ1, ρ, h1, r1, e1, p⟩
  | false => rw [if_neg Bool.false_ne_true]; exact ⟨μ1, ρ, h1, r1, e1, p⟩
theorem s_par2 {i j : Nat} {x y : Str} {px py pt : Pos} {kt k2 pt2} (hc : X.calm = true) (hN : X.N.Nodup) (hi : X.N[i]? = some x) (hj : X.N[j]? = some y) (hij : i ≠ j) (hx : X.env.scope.names.lookup x = some .local) (hy : X.env.scope.names.lookup y = some .local) (ha : PA X [a, b] (tXA cf W rs))
    (hw : swappedStores [.Tuple [.Name x px, .Name y py] kt pt] (.Tuple [a, b] k2 pt2) X.env = pure (some [x, y])) (hs : swapsWithSole [.Tuple [.Name x px, .Name y py] kt pt] (.Tuple [a, b] k2 pt2) pos.line X.env = pure false) :
    PS X (.Assign [.Tuple [.Name x px, .Name y py] kt pt] (.Tuple [a, b] k2 pt2) pos) (tS cf W (par2 i j rs)) := by
  refine (ps_par hc hN hi hj hij hx hy ha hw hs).imp fun D σ H ⟨μ, ρ, h, r, en, p⟩ => ?_
  refine ⟨μ, ρ, h, r, en, (PostS.bindA (k := fun xs h1 => match xs with | [x, y] => .nx ((ρ.set i (some x)).set j (some y)) h1 | _ => .no) r en p).mono fun ws H1 ⟨μ1, xs, h1, g1, r1, e1, rr, p1⟩ => ?_⟩
  split at p1
  · cases rr with
    | cons q1 t => cases t with
      | cons q2 t => cases t; exact ⟨_, _, rfl, p1 μ1 _ H1 Go.refl r1 ((e1.set q1.re i).set q2.re j)⟩
  · exact p1.no
theorem s_par3 {i j l : Nat} {x y z : Str} {px py pz pt : Pos} {kt k2 pt2} (hc : X.calm = true) (hN : X.N.Nodup) (hi : X.N[i]? = some x) (hj : X.N[j]? = some y) (hl : X.N[l]? = some z) (hij : i ≠ j) (hil : i ≠ l) (hjl : j ≠ l) (hx : X.env.scope.names.lookup x = some .local) (hy : X.env.scope.names.lookup y = some .local) (hz : X.env.scope.names.lookup z = some .local) (ha : PA X [a, b, c] (tXA cf W rs))
    (hw : swappedStores [.Tuple [.Name x px, .Name y py, .Name z pz] kt pt] (.Tuple [a, b, c] k2 pt2) X.env = pure (some [x, y, z])) (hs : swapsWithSole [.Tuple [.Name x px, .Name y py, .Name z pz] kt pt] (.Tuple [a, b, c] k2 pt2) pos.line X.env = pure false) :
    PS X (.Assign [.Tuple [.Name x px, .Name y py, .Name z pz] kt pt] (.Tuple [a, b, c] k2 pt2) pos) (tS cf W (par3 i j l rs)) := by
  refine (ps_par3 hc hN hi hj hl hij hil hjl hx hy hz ha hw hs).imp fun D σ H ⟨μ, ρ, h, r, en, p⟩ => ?_
  refine ⟨μ, ρ, h, r, en, (PostS.bindA (k := fun xs h1 => match xs with | [x, y, z] => .nx (((ρ.set i (some x)).set j (some y)).set l (some z)) h1 | _ => .no) r en p).mono fun ws H1 ⟨μ1, xs, h1, g1, r1, e1, rr, p1⟩ => ?_⟩
  split at p1
  · cases rr with
    | cons q1 t => cases t with
      | cons q2 t => cases t with
        | cons q3 t => cases t; exact ⟨_, _, _, rfl, p1 μ1 _ H1 Go.refl r1 (((e1.set q1.re i).set q2.re j).set q3.re l)⟩
  · exact p1.no
end

/-! ### stores into lists -/
def setF (o i v : Res) (ρ : REnv) (h : SHeap) : FR := match o with
  | .ref a => (match i with
    | .pv (.int n) => (match freeze h v with
      | some (y, h1) => (match h1[a]? with
        | some (.lst xs) => (match ixN xs.length n with
          | some j => .nx ρ (h1.set a (.lst (xs.set j y)))
          | none => .no)
        | _ => .no)
      | none => .no)
    | _ => .no)
  | _ => .no
def rSetSub (ra rb rv : REnv → SHeap → R) : REnv → SHeap → FR := fun ρ h => (rv ρ h).toF ρ fun v h1 => (ra ρ h1).toF ρ fun o h2 => (rb ρ h2).toF ρ fun i h3 => setF o i v ρ h3
section
variable {cf : Cfg} {K : PySem.W.Frag} {W : WX} {σ : L2.St} {μ μ' μ₁ : List Addr} {h h' h₁ : SHeap} {H H' H₀ H₁ : Hp} {ρ ρ' : REnv} {D : Ends}
/-- a live list is written -/
theorem RH.write {a : Nat} {p : Addr} {xs ys : List PV} {vs ws : List V} (r : RH K μ h H) (e1 : μ[a]? = some p) (e2 : h[a]? = some (.lst xs)) (e : H p = some (.lst vs)) (q : RPs K H (Live μ h) ys ws) :
    Go μ h H μ (h.set a (.lst ys)) (upd H p (.lst ws)) ∧ RH K μ (h.set a (.lst ys)) (upd H p (.lst ws)) := by
  have ha : a < h.length := (List.getElem?_eq_some_iff.mp e2).1
  have lv : Live μ h p := ⟨a, _, e1, e2, fun z => nomatch z⟩
  have mt : Mtb μ h p := ⟨a, _, e1, e2, (fun z => nomatch z), (fun z => nomatch z), fun _ z => nomatch z⟩
  have lvE : Live μ (h.set a (.lst ys)) = Live μ h := by
    funext b
    refine propext ⟨fun ⟨i, o, k1, k2, ne⟩ => ?_, fun ⟨i, o, k1, k2, ne⟩ => ?_⟩
    · rcases get_set k2 with ⟨rfl, _, _⟩ | ⟨_, k3⟩
      · exact ⟨_, _, k1, e2, fun z => nomatch z⟩
      · exact ⟨i, o, k1, k3, ne⟩
    · by_cases w : a = i
      · subst w
        exact ⟨a, .lst ys, k1, by rw [List.getElem?_set_self ha], fun z => nomatch z⟩
      · exact ⟨i, o, k1, by rw [List.getElem?_set_ne w]; exact k2, ne⟩
  have other : ∀ (i : Nat) (o : SO), h[i]? = some o → (∀ zs, o ≠ SO.lst zs) → (h.set a (.lst ys))[i]? = some o := fun i o q ne => by
    have n : a ≠ i := fun z => by subst z; rw [e2] at q; cases q; exact ne xs rfl
    rw [List.getElem?_set_ne n]; exact q
  have g : Go μ h H μ (h.set a (.lst ys)) (upd H p (.lst ws)) := by
    refine ⟨fun _ _ z => z, fun _ _ z => .inl z, fun i z => other i _ z (fun _ z => nomatch z), fun i xs z => other i _ z (fun _ z => nomatch z), fun i z => other i _ z (fun _ z => nomatch z), fun b o z nm => ?_, fun b t => ?_⟩
    · rw [upd_ne (fun w => nm (by rw [w]; exact mt))]; exact z
    · by_cases z : b = p
      · rw [z, upd_same]; exact fun z => nomatch z
      · rw [upd_ne z]; exact t
  refine ⟨g, ⟨by rw [List.length_set]; exact r.len, r.nd, fun i b z => g.trk b (r.tr i b z), fun i o z ne => ?_⟩⟩
  rcases get_set z with ⟨rfl, rfl, _⟩ | ⟨ne2, z1⟩
  · exact ⟨p, .lst ws, e1, upd_same, RPs.map (g.sqT r) (g.rdL r) _ _ q⟩
  · obtain ⟨b, ho, k1, k2, ro⟩ := r.obj i o z1 ne
    have nb : b ≠ p := fun w => ne2 (nodup_at r.nd e1 (w ▸ k1))
    exact ⟨b, ho, k1, by rw [upd_ne nb]; exact k2, ro.map (g.sqT r) (g.rdL r)⟩
theorem set_read {o i v : Res} {ov iv w : V} (r : RH cf.K μ h H) (en : REs cf.K μ h H ρ σ) (qo : RE cf.K μ h H o ov) (qi : RE cf.K μ h H i iv) (qv : RE cf.K μ h H v w) (p : PostS cf W μ h H D (setF o i v ρ h)) : rSetL ov iv w H (fun H' => D.nx σ H') := by
  unfold setF at p
  split at p
  · rename_i a
    obtain ⟨b, e1, rfl⟩ := qo
    split at p
    · cases qi
      split at p
      · rename_i y h1 ef
        obtain ⟨g1, r1, qy⟩ := freeze_ok (H₀ := H) r qv.rr ef
        split at p
        · rename_i xs hx
          split at p
          · rename_i j ej
            obtain ⟨c, ho, k1, k2, ro⟩ := r1.obj a _ hx (fun z => nomatch z)
            rw [e1] at k1; cases k1
            obtain ⟨vs, rfl⟩ := ro.lst_of
            obtain ⟨g2, r2⟩ := r1.write e1 hx k2 (RPs.set j ro qy)
            exact ⟨b, vs, _, j, rfl, rfl, k2, by rw [← RPs.length ro]; exact ej, p μ σ _ (g1.trans g2 r) r2 ((en.go g1 r).go g2 r1)⟩
          · exact p.no
        · exact p.no
      · exact p.no
    · exact p.no
  · exact p.no
end
section
variable {X : Cx} {cf : Cfg} {W : WX} {e a b c tg : Expr} {es : List Expr} {ra rb rc rv : REnv → SHeap → R} {sa sb : REnv → SHeap → FR} {rs : REnv → SHeap → RM (List Res)} {pos : Pos}
theorem s_setSub {spos : Pos} (hv : PE X e (tX cf W rv)) (ha : PE X a (tX cf W ra)) (hb : PE X b (tX cf W rb)) (hs : swapsWithSole [.Subscript a b spos] e pos.line X.env = pure false) (hw : swappedStores [.Subscript a b spos] e X.env = pure none) (h1 : (assignEach [.Subscript a b spos] X.env).map (·.2) = [assign (.Subscript a b spos) X.env])
    (hass : ∀ v, assign (.Subscript a b spos) X.env v = (do
      let ov ← holding [v] (eval a X.env)
      let iv ← holding [v, ov] (eval b X.env)
      standAt spos
      holding [v, ov, iv] (setItem ov iv v)
      release [v, ov, iv] [])) : PS X (.Assign [.Subscript a b spos] e pos) (tS cf W (rSetSub ra rb rv)) := by
  refine (ps_asg hv (pg_sub ha hb set_list hass) hs hw h1).imp fun D σ H q => ?_
  refine (tS.bind (k := fun ρ v h1 => (ra ρ h1).toF ρ fun o h2 => (rb ρ h2).toF ρ fun i h3 => setF o i v ρ h3) q).mono fun w H1 ⟨μ1, ρ, v, h1, r1, e1, rr1, p1⟩ => ?_
  refine ⟨μ1, ρ, h1, r1, e1, (PostS.bind r1 e1 p1).mono fun ov H2 ⟨μ2, o, h2, g2, r2, e2, rr2, p2⟩ => ?_⟩
  refine ⟨μ2, ρ, h2, r2, e2, (PostS.bind r2 e2 p2).mono fun iv H3 ⟨μ3, i, h3, g3, r3, e3, rr3, p3⟩ => ?_⟩
  exact set_read r3 e3 (rr2.go g3 r2) rr3 ((rr1.go g2 r1).go g3 r2) p3
end
end SM

set_option maxRecDepth 100000
set_option maxHeartbeats 4000000
namespace SM
open PySem PySem.Spec PyProof.Rows L2

/-! ### x.append(e) -/
def appF (a : Nat) (v : Res) (h : SHeap) : R := match freeze h v with
  | some (y, h1) => (match h1[a]? with
    | some (.lst xs) => orNo (Nat.blt xs.length SZ) (.ok (.pv .none) (h1.set a (.lst (xs ++ [y]))))
    | _ => .no)
  | none => .no
def onCell (x : Res) (h : SHeap) (k : Nat → R) : R := match x with
  | .ref a => (match h[a]? with
    | some (.lst _) => k a
    | some (.lk _) => k a
    | _ => .no)
  | _ => .no
def rApp (ra rb : REnv → SHeap → R) : REnv → SHeap → R := fun ρ h => (ra ρ h).bind fun x h1 => onCell x h1 fun a => (rb ρ h1).bind fun y h2 => appF a y h2
section
variable {X : Cx} {cf : Cfg} {W : WX} {e a b c tg o : Expr} {es : List Expr} {ra rb rc rv : REnv → SHeap → R} {sa sb : REnv → SHeap → FR} {rs : REnv → SHeap → RM (List Res)} {pos apos : Pos}
theorem Post.onCell {σ : L2.St} {μ : List Addr} {h : SHeap} {H H1 : Hp} {Q : VK} {x : Res} {u : V} {k : Nat → R} (r : RH cf.K μ h H) (p : Post cf W σ μ h H Q (SM.onCell x h k)) (rx : RR cf.K μ h H1 H x u) : ∃ a p vs, u = .ref p ∧ μ[a]? = some p ∧ H p = some (.lst vs) ∧ Post cf W σ μ h H Q (k a) := by
  unfold SM.onCell at p
  split at p
  · rename_i a
    obtain ⟨b, e1, rfl⟩ := rx
    split at p
    · rename_i ys hx
      obtain ⟨c, ho, k1, k2, ro⟩ := r.obj a _ hx (fun z => nomatch z)
      rw [e1] at k1; cases k1
      obtain ⟨vs, rfl⟩ := ro.lst_of
      exact ⟨a, b, vs, rfl, e1, k2, p⟩
    · rename_i ys hx
      obtain ⟨c, ho, k1, k2, ro⟩ := r.obj a _ hx (fun z => nomatch z)
      rw [e1] at k1; cases k1
      obtain ⟨vs, rfl⟩ := ro.lst_of
      exact ⟨a, b, vs, rfl, e1, k2, p⟩
    · exact p.no
  · exact p.no
theorem x_append (hK : X.K = cf.K) (ho : PE X o (tX cf W ra)) (he : PE X e (tX cf W rb)) (hbase : attributeBase o "append" X.env (eval o X.env) = eval o X.env) (hs : starEach [e] X.env = [(false, eval e X.env)]) (hline : (apos.endLine == pos.line) = true) :
    PE X (.Call (.Attribute o "append" apos) [e] [] pos) (tX cf W (rApp ra rb)) := by
  have hn : starEach [] X.env = [] := rfl
  refine (pe_bm PySem.F.plainAttrs_list PySem.F.slot_list_append PySem.F.type_list_append mt_append ho (pa_cons he pa_nil (by rw [hs, hn])) hbase (by rw [hs]; rfl) hline (by rw [hs, hn]) rfl).imp fun σ H Q q => ?_
  refine (tX.bind (k := fun ρ x h1 => onCell x h1 fun a => (rb ρ h1).bind fun y h2 => appF a y h2) q).mono fun u H1 ⟨μ1, ρ, x, h1, H0, r1, e1, rr1, t1, p⟩ => ?_
  obtain ⟨a, pa, vs, rfl, m1, l1, p⟩ := Post.onCell r1 p rr1
  refine ⟨.inl ⟨rfl, vs, SqL.of l1⟩, μ1, ρ, h1, r1, e1, (Post.bind r1 p).mono fun w H2 ⟨μ2, y, h2, g2, r2, rr2, p2⟩ => ?_⟩
  unfold appF at p2
  split at p2
  · rename_i z h3 ef
    obtain ⟨g3, r3, qy⟩ := freeze_ok r2 rr2 ef
    split at p2
    · rename_i xs hx
      obtain ⟨hc, p2⟩ := p2.orNo
      have m3 := g3.pre _ _ (g2.pre _ _ m1)
      obtain ⟨c, ho, k1, k2, ro⟩ := r3.obj a _ hx (fun z => nomatch z)
      rw [m3] at k1; cases k1
      obtain ⟨ws, rfl⟩ := ro.lst_of
      have ln : xs.length = ws.length := RPs.length ro
      obtain ⟨g4, r4⟩ := r3.write m3 hx k2 (RPs.append ro (.cons qy .nil))
      refine ⟨pa, ws, w, rfl, rfl, k2, by rw [← ln]; exact Nat.lt_of_lt_of_le (Nat.le_of_ble_eq_true hc) (szL (Nat.le_refl _)), ?_⟩
      exact p2 μ2 .non _ (g3.trans g4 r2) r4 rrNon
    · exact p2.no
  · exact p2.no

/-! ### for -/
def forL (t : Tg) (rb : REnv → SHeap → FR) : List EV → REnv → SHeap → FR
  | [], ρ, h => .nx ρ h
  | x :: xs, ρ, h => (match bindT t x ρ with
    | some ρ1 => (match rb ρ1 h with
      | .nx ρ2 h2 => forL t rb xs ρ2 h2
      | .ct ρ2 h2 => forL t rb xs ρ2 h2
      | .bk ρ2 h2 => .nx ρ2 h2
      | .rt r h2 => .rt r h2
      | .exc c fs ρ2 h2 => .exc c fs ρ2 h2
      | .no => .no)
    | none => .no)
def unlF (l : Option Nat) : FR → FR
  | .nx ρ h => .nx ρ (unl l h)
  | .rt r h => .rt r (unl l h)
  | .bk ρ h => .bk ρ (unl l h)
  | .ct ρ h => .ct ρ (unl l h)
  | .exc c fs ρ h => .exc c fs ρ (unl l h)
  | .no => .no
def rFor (ri : REnv → SHeap → RM Src) (t : Tg) (rb : REnv → SHeap → FR) : REnv → SHeap → FR := fun ρ h => (ri ρ h).toF ρ fun s h1 => unlF s.lock (forL t rb s.items ρ h1)
/-- between two turns -/
def ForInv (cf : Cfg) (t : Tg) (rb : REnv → SHeap → FR) (items : List EV) (μ1 : List Addr) (h1 : SHeap) (H1 : Hp) (fin : FR) (i m : Nat) (σc : L2.St) (Hc : Hp) : Prop :=
  m = items.length - i ∧ i ≤ items.length ∧ ∃ μc hc ρc, Go μ1 h1 H1 μc hc Hc ∧ RH cf.K μc hc Hc ∧ REs cf.K μc hc Hc ρc σc ∧ forL t rb (items.drop i) ρc hc = fin
theorem RX.cast {H : Hp} {c : Nat} {fs : List (Str × PV)} {cls : Value} {d : Option Addr} {M M' : Addr → Prop} (e : M' = M) (q : RX cf H M c fs cls d) : RX cf H M' c fs cls d := e ▸ q
/-- behind a lock -/
theorem PostS.unl {μ μ1 : List Addr} {h hu h1 : SHeap} {H H1 : Hp} {D : Ends} {l : Option Nat} {fin : FR} (r : RH cf.K μ h H) (g1 : Go μ h H μ1 hu H1) (ru : RH cf.K μ1 hu H1) (hl : match l with | none => h1 = hu | some a => ∃ xs, hu[a]? = some (.lst xs) ∧ h1 = hu.set a (.lk xs))
    (p : PostS cf W μ h H D (unlF l fin)) : PostS cf W μ1 h1 H1 D fin := by
  cases fin with
  | nx ρ' h' => exact fun μ' σ' H' g' r' e' => let ⟨ga, ra, la⟩ := Go.unl ru hl g' r'; p μ' σ' H' (g1.trans ga r) ra (e'.cast la)
  | bk ρ' h' => exact fun μ' σ' H' g' r' e' => let ⟨ga, ra, la⟩ := Go.unl ru hl g' r'; p μ' σ' H' (g1.trans ga r) ra (e'.cast la)
  | ct ρ' h' => exact fun μ' σ' H' g' r' e' => let ⟨ga, ra, la⟩ := Go.unl ru hl g' r'; p μ' σ' H' (g1.trans ga r) ra (e'.cast la)
  | rt r'' h' => exact fun μ' σ' H' g' r' e' => let ⟨ga, ra, la⟩ := Go.unl ru hl g' r'; p μ' σ' H' (g1.trans ga r) ra (e'.cast la)
  | exc c fs ρ' h' => exact fun μ' σ' H' cls d g' r' e' rx => let ⟨ga, ra, la⟩ := Go.unl ru hl g' r'; p μ' σ' H' cls d (g1.trans ga r) ra (e'.cast la) (rx.cast la)
  | no => exact p
theorem s_for {t : Tg} {tg iter : Expr} {body : List Stmt} {ri : REnv → SHeap → RM Src} (hp : PassesOwn (model X.prog X.w) X.A X.env X.xe) (hc : X.calm = true) (hi : SrcOk cf X W tg iter ri) (hg : PG X tg (gX cf t)) (hb : PSs X body (tS cf W sb)) (hs : ∀ x, foldedSetIterable iter X.env x = pure x) :
    PS X (.For tg iter body [] pos) (tS cf W (rFor ri t sb)) := by
  obtain ⟨wi, hpi, hwi⟩ := hi
  refine (ps_for hp hc hpi hg hb hs).imp fun D σ H ⟨μ, ρ, h, r, en, p⟩ => ?_
  refine hwi ⟨μ, ρ, h, r, en, ?_⟩
  unfold rFor at p
  cases ei : ri ρ h with
  | no => rw [ei] at p; exact p
  | exc c fs h1 => rw [ei] at p; exact fun μ' H' cls d g' r' rx => p μ' σ H' cls d g' r' (en.go g' r) rx
  | ok s h1 =>
    rw [ei] at p
    replace p : PostS cf W μ h H D (unlF s.lock (forL t sb s.items ρ h1)) := p
    intro μ1 H1 J hu g1 ru hl wk
    have p1 := PostS.unl r g1 ru hl p
    have r1 : RH cf.K μ1 h1 H1 := by
      cases hlk : s.lock with
      | none => rw [hlk] at hl; rw [show h1 = hu from hl]; exact ru
      | some a =>
        rw [hlk] at hl
        obtain ⟨xs, e, e2⟩ : ∃ xs, hu[a]? = some (.lst xs) ∧ h1 = hu.set a (.lk xs) := hl
        rw [e2]; exact ru.lock e
    have en1 : REs cf.K μ1 h1 H1 ρ σ := by
      have e1 : REs cf.K μ1 hu H1 ρ σ := en.go g1 r
      cases hlk : s.lock with
      | none => rw [hlk] at hl; rw [show h1 = hu from hl]; exact e1
      | some a =>
        rw [hlk] at hl
        obtain ⟨xs, e, e3⟩ : ∃ xs, hu[a]? = some (.lst xs) ∧ h1 = hu.set a (.lk xs) := hl
        rw [e3]; exact e1.cast (live_lk e)
    generalize hfin : forL t sb s.items ρ h1 = fin at p1
    refine ⟨ForInv cf t sb s.items μ1 h1 H1 fin, ⟨s.items.length, rfl, Nat.zero_le _, μ1, h1, ρ, Go.refl, r1, en1, by rw [List.drop_zero]; exact hfin⟩, ?_⟩
    clear hfin
    rintro i m σc Hc ⟨rfl, hi, μc, hcc, ρc, gc, rc, ec, ef⟩
    by_cases hlt : i < s.items.length
    · right
      refine ⟨wk.goes μc hcc Hc i gc rc hlt, ForInv cf t sb s.items μ1 h1 H1 fin (i + 1) (s.items.length - (i + 1)), fun σ' H' w => ⟨s.items.length - (i + 1), by omega, w⟩, fun xv Hd y => ?_⟩
      obtain ⟨ev, ee, gd, rd, qe⟩ := wk.yields μc hcc Hc i xv Hd gc rc hlt y
      have g1d := gc.trans gd r1
      rw [drop_cons ee] at ef
      unfold forL at ef
      split at ef
      · rename_i ρ1 eb
        refine ⟨μc, ρc, hcc, ev, ρ1, rd, ec.go gd rc, qe, eb, fun σ2 en2 _ => ⟨μc, ρ1, hcc, rd, en2, ?_⟩⟩
        cases er : sb ρ1 hcc with
        | nx ρ2 h2 => rw [er] at ef; exact fun μ' σ' H' g' r' e' => ⟨rfl, hlt, μ', h2, ρ2, g1d.trans g' r1, r', e', ef⟩
        | ct ρ2 h2 => rw [er] at ef; exact fun μ' σ' H' g' r' e' => ⟨rfl, hlt, μ', h2, ρ2, g1d.trans g' r1, r', e', ef⟩
        | bk ρ2 h2 => rw [er] at ef; rw [← ef] at p1; exact fun μ' σ' H' g' r' e' => p1 μ' σ' H' (g1d.trans g' r1) r' e'
        | rt x h2 => rw [er] at ef; rw [← ef] at p1; exact fun μ' σ' H' g' r' e' => p1 μ' σ' H' (g1d.trans g' r1) r' e'
        | exc c fs ρ2 h2 => rw [er] at ef; rw [← ef] at p1; exact fun μ' σ' H' cls d g' r' e' rx => p1 μ' σ' H' cls d (g1d.trans g' r1) r' e' rx
        | no => rw [er] at ef; rw [← ef] at p1; exact p1
      · rw [← ef] at p1
        exact p1.elim
    · left
      have e : i = s.items.length := by omega
      subst e
      rw [List.drop_length] at ef
      rw [← ef] at p1
      exact ⟨wk.stops μc hcc Hc gc rc, p1 μc σc Hc gc rc ec⟩

/-! ### while -/
def whL (rc : REnv → SHeap → R) (rb : REnv → SHeap → FR) : Nat → REnv → SHeap → FR
  | 0, _, _ => .no
  | n + 1, ρ, h => (rc ρ h).toF ρ fun x h1 => onBlF x fun b => if b = true then (match rb ρ h1 with
      | .nx ρ2 h2 => whL rc rb n ρ2 h2
      | .ct ρ2 h2 => whL rc rb n ρ2 h2
      | .bk ρ2 h2 => .nx ρ2 h2
      | .rt r h2 => .rt r h2
      | .exc c fs ρ2 h2 => .exc c fs ρ2 h2
      | .no => .no) else .nx ρ h1
abbrev WF : Nat := 10000000
def rWh (rc : REnv → SHeap → R) (rb : REnv → SHeap → FR) : REnv → SHeap → FR := fun ρ h => whL rc rb WF ρ h
theorem s_while {body : List Stmt} (hp : PassesOwn (model X.prog X.w) X.A X.env X.xe) (hc : PT X c (tB (tX cf W rc))) (hb : PSs X body (tS cf W sb)) : PS X (.While c body [] pos) (tS cf W (rWh rc sb)) := by
  refine (ps_while hp hc hb).imp fun D σ H ⟨μ, ρ, h, r, en, p⟩ => ?_
  refine ⟨fun m σc Hc => ∃ μc hc ρc, RH cf.K μc hc Hc ∧ REs cf.K μc hc Hc ρc σc ∧ PostS cf W μc hc Hc D (whL rc sb m ρc hc), ⟨WF, μ, h, ρ, r, en, p⟩, ?_⟩
  rintro m σc Hc ⟨μc, hcc, ρc, rcc, ec, pc⟩
  cases m with
  | zero => exact pc.elim
  | succ n =>
    unfold whL at pc
    refine ⟨μc, ρc, hcc, rcc, ec, (PostS.bind rcc ec pc).mono fun x H1 ⟨μ1, y, h1, g1, r1, e1, rr, p1⟩ => ?_⟩
    obtain ⟨b, rfl, p1⟩ := PostS.onBl p1 rr
    refine ⟨b, rfl, ?_⟩
    cases b with
    | false =>
      rw [if_neg Bool.false_ne_true] at p1 ⊢
      exact p1 μ1 σc H1 Go.refl r1 e1
    | true =>
      rw [if_pos rfl] at p1 ⊢
      refine ⟨fun σ' H' => ∃ μc hc ρc, RH cf.K μc hc H' ∧ REs cf.K μc hc H' ρc σ' ∧ PostS cf W μc hc H' D (whL rc sb n ρc hc), fun σ' H' w => ⟨n, Nat.lt_succ_self _, w⟩, μ1, ρc, h1, r1, e1, ?_⟩
      cases er : sb ρc h1 with
      | nx ρ2 h2 => rw [er] at p1; exact fun μ' σ' H' g' r' e' => ⟨μ', h2, ρ2, r', e', PostS.later p1 g' r1⟩
      | ct ρ2 h2 => rw [er] at p1; exact fun μ' σ' H' g' r' e' => ⟨μ', h2, ρ2, r', e', PostS.later p1 g' r1⟩
      | bk ρ2 h2 => rw [er] at p1; exact p1
      | rt x h2 => rw [er] at p1; exact p1
      | exc c fs ρ2 h2 => rw [er] at p1; exact p1
      | no => rw [er] at p1; exact p1
end
end SM

set_option maxRecDepth 100000
set_option maxHeartbeats 4000000
namespace SM
open PySem PySem.Spec PyProof.Rows L2

/-! ### isinstance -/
inductive Ty where
  | non | bl | int | str | lst | tup
def Ty.nm : Ty → String
  | .non => "NoneType"
  | .bl => "bool"
  | .int => "int"
  | .str => "str"
  | .lst => "list"
  | .tup => "tuple"
/-- a is of b's kind -/
@[simp] def Ty.isA : Ty → Ty → Bool
  | .bl, .int => true
  | .bl, .bl => true
  | .int, .int => true
  | .str, .str => true
  | .lst, .lst => true
  | .tup, .tup => true
  | _, _ => false
theorem Ty.isA_ok : ∀ (a b : Ty), b.nm ≠ "NoneType" → kitB a.nm b.nm = some (a.isA b)
  | .non, .bl, _ | .non, .int, _ | .non, .str, _ | .non, .lst, _ | .non, .tup, _ => by decide +kernel
  | .bl, .bl, _ | .bl, .int, _ | .bl, .str, _ | .bl, .lst, _ | .bl, .tup, _ => by decide +kernel
  | .int, .bl, _ | .int, .int, _ | .int, .str, _ | .int, .lst, _ | .int, .tup, _ => by decide +kernel
  | .str, .bl, _ | .str, .int, _ | .str, .str, _ | .str, .lst, _ | .str, .tup, _ => by decide +kernel
  | .lst, .bl, _ | .lst, .int, _ | .lst, .str, _ | .lst, .lst, _ | .lst, .tup, _ => by decide +kernel
  | .tup, .bl, _ | .tup, .int, _ | .tup, .str, _ | .tup, .lst, _ | .tup, .tup, _ => by decide +kernel
  | _, .non, h => absurd rfl h
def Res.ty (h : SHeap) : Res → Option Ty
  | .pv .none => some .non
  | .pv (.bool _) => some .bl
  | .pv (.int _) => some .int
  | .pv (.str _) => some .str
  | .pv (.list _) => some .lst
  | .pv (.tuple _) => some .tup
  | .pv (.dict _) => none
  | .scr _ => none
  | .ref a => (match h[a]? with
    | some (.lst _) => some .lst
    | some (.lk _) => some .lst
    | _ => none)
def isiF (T : Ty) (x : Res) (h : SHeap) : R := match x.ty h with
  | some t => .ok (.pv (.bool (t.isA T))) h
  | none => .no
def rIsi1 (T : Ty) (ra : REnv → SHeap → R) : REnv → SHeap → R := fun ρ h => (ra ρ h).bind fun x h1 => isiF T x h1
section
variable {X : Cx} {cf : Cfg} {W : WX} {e a b c : Expr} {es rest : List Expr} {ra rb rc : REnv → SHeap → R} {sa sb : REnv → SHeap → FR} {rs : REnv → SHeap → RM (List Res)} {pos : Pos}
theorem RR.tyX {K : PySem.W.Frag} {μ : List Addr} {h : SHeap} {H H₀ : Hp} {x : Res} {w : V} {t : Ty} (r : RH K μ h H) (q : RR K μ h H₀ H x w) (e : x.ty h = some t) : TyX K H w (.type t.nm) := by
  unfold Res.ty at e
  split at e
  · cases e; cases q; exact .base .non
  · cases e; cases q; exact .base (.bl _)
  · cases e; cases q; exact .base (.int _)
  · cases e; cases q; exact .base (.str _)
  · cases e
    cases q with
    | lst h1 h2 h3 =>
      rcases h1 with h1 | ⟨o, h1⟩
      · exact .base (.lst h1)
      · exact .base (.frz h1)
  · cases e
    cases q with
    | tup h1 h2 =>
      rcases h1 with (h1 | ⟨o, h1⟩) | ⟨o, its, n, h1, h2, _⟩
      · exact .base (.tup h1)
      · exact .fTuple h1
      · exact .kTuple h1 h2
  · cases e
  · cases e
  · rename_i i
    obtain ⟨p, e1, rfl⟩ := q
    split at e
    · rename_i xs hx
      cases e
      obtain ⟨c, ho, k1, k2, ro⟩ := r.obj i _ hx (fun z => nomatch z)
      rw [e1] at k1; cases k1
      obtain ⟨vs, rfl⟩ := ro.lst_of
      exact .base (.lst k2)
    · rename_i xs hx
      cases e
      obtain ⟨c, ho, k1, k2, ro⟩ := r.obj i _ hx (fun z => nomatch z)
      rw [e1] at k1; cases k1
      obtain ⟨vs, rfl⟩ := ro.lst_of
      exact .base (.lst k2)
    · cases e
theorem x_isi {T : Ty} {x : Str} {p pT : Pos} (hK : X.K = cf.K) (hT : T.nm ≠ "NoneType") (he : PE X e (tX cf W ra)) (hg : Gl X "isinstance") (hm : X.mg "isinstance" = none) (hgT : Gl X x) (hmT : X.mg x = none) (hbT : bootBuiltins x = some (.type T.nm)) (hn : x ≠ "__name__") (hd : (x == ("__debug__" : Str)) = false)
    (h1 : starEach [e, .Name x pT] X.env = (false, eval e X.env) :: starEach [.Name x pT] X.env) (h2 : starEach [.Name x pT] X.env = (false, eval (.Name x pT) X.env) :: starEach [] X.env) (hpl : (backTo pos (starEach [.Name x pT] X.env)).any (·.1) = false) :
    PE X (.Call (.Name "isinstance" p) [e, .Name x pT] [] pos) (tX cf W (rIsi1 T ra)) := by
  refine (pe_callB call_isi hg hm (by decide +kernel) (pa_cons he (pa_cons (pe_bltn (v := .ty T.nm) hgT hmT hbT rfl hn hd) pa_nil h2) h1) (by decide) (by decide) h1 hpl).imp fun σ H Q q => ?_
  refine (tX.bind (k := fun _ x h1 => isiF T x h1) q).mono fun u H1 ⟨μ1, ρ, y, h1, H0, r1, e1, rr1, t1, p⟩ => ?_
  unfold isiF at p
  split at p
  · rename_i t et
    exact ⟨u, .ty T.nm, .type t.nm, .type T.nm, t.isA T, rfl, .ty _, by rw [hK]; exact rr1.tyX r1 et, kit_ty (t.isA_ok T hT), p.here r1 rrBl⟩
  · exact p.no

/-! ### tests -/
theorem t_val (he : PE X e (tX cf W ra)) (h : ∀ whole, isTrue e X.env whole = (do let v ← whole; standAt e.pos; holding [v] (truthy v))) : PT X e (tB (tX cf W ra)) := pt_val he h
theorem x_and1 (ha : PE X a (tX cf W ra)) : PE X (.BoolOp .And [a] pos) (tX cf W ra) := pe_one ha
theorem x_or1 (ha : PE X a (tX cf W ra)) : PE X (.BoolOp .Or [a] pos) (tX cf W ra) := pe_one ha
theorem x_and (ha : PE X a (tX cf W ra)) (hb : PE X (.BoolOp .And (b :: rest) pos) (tX cf W rb)) : PE X (.BoolOp .And (a :: b :: rest) pos) (tX cf W (rAnd ra rb)) := (pe_and ha hb).imp fun _ _ _ q => x_andV q
theorem x_or (ha : PE X a (tX cf W ra)) (hb : PE X (.BoolOp .Or (b :: rest) pos) (tX cf W rb)) : PE X (.BoolOp .Or (a :: b :: rest) pos) (tX cf W (rOr ra rb)) := (pe_or ha hb).imp fun _ _ _ q => x_orV q
theorem x_not (ha : PE X a (tX cf W ra)) : PE X (.UnaryOp .Not a pos) (tX cf W (rNot ra)) := (pe_not ha).imp fun _ _ _ q => x_notV q
theorem x_ife (hc : PT X c (tB (tX cf W rc))) (ha : PE X a (tX cf W ra)) (hb : PE X b (tX cf W rb)) : PE X (.IfExp c a b pos) (tX cf W (rIfe rc ra rb)) := (pe_ifExp hc ha hb).imp fun _ _ _ q => x_ifeT q
theorem t_and1 (ha : PT X a (tB (tX cf W ra))) : PW X (.BoolOp .And [a] pos) (tB (tX cf W ra)) := pw_and1 ha
theorem t_or1 (ha : PT X a (tB (tX cf W ra))) : PW X (.BoolOp .Or [a] pos) (tB (tX cf W ra)) := pw_or1 ha
theorem t_and (ha : PT X a (tB (tX cf W ra))) (hb : PW X (.BoolOp .And (b :: rest) pos) (tB (tX cf W rb))) : PW X (.BoolOp .And (a :: b :: rest) pos) (tB (tX cf W (rAnd ra rb))) := ⟨fun wh pins s σ H Q I q => (pw_and ha hb).run wh pins s σ H Q I (x_andT q)⟩
theorem t_or (ha : PT X a (tB (tX cf W ra))) (hb : PW X (.BoolOp .Or (b :: rest) pos) (tB (tX cf W rb))) : PW X (.BoolOp .Or (a :: b :: rest) pos) (tB (tX cf W (rOr ra rb))) := ⟨fun wh pins s σ H Q I q => (pw_or ha hb).run wh pins s σ H Q I (x_orT q)⟩
theorem t_not (ha : PT X a (tB (tX cf W ra))) : PT X (.UnaryOp .Not a pos) (tB (tX cf W (rNot ra))) := ⟨fun pins s σ H Q I q => (pt_not ha).run pins s σ H Q I (x_notT q)⟩

/-! ### x op= e, ints -/
def rAug (i : Nat) (op : Operator) (ra : REnv → SHeap → R) : REnv → SHeap → FR := fun ρ h => (ra ρ h).toF ρ fun y h1 => (rVar i ρ h1).toF ρ fun x h2 => onIntF x y op ρ h2 i
where onIntF (x y : Res) (op : Operator) (ρ : REnv) (h : SHeap) (i : Nat) : FR := match op with
  | .Add => (match x, y with
    | .pv (.int a), .pv (.int b) => .nx (ρ.set i (some (.pv (.int (a + b))))) h
    | _, _ => .no)
  | _ => .no
/-- what names are called by hold a W that never comes -/
theorem takesW0 : Takes X W0 := fun u s' ⟨_, _, _, _, _, _, _, _, _, _, _, _, _, _, _, _, z⟩ => False.elim z
end

/-! ### a def's end -/
@[simp] def finish (n : Nat) : FR → R
  | .rt (.pv x) h => .ok (.pv x) (h.take n)
  | .rt (.ref a) h => if a < n then .ok (.ref a) (h.take n) else (match h[a]? with
    | some o => .ok (.ref n) (h.take n ++ [o])
    | none => .no)
  | .nx _ h => .ok (.pv .none) (h.take n)
  | .exc c fs _ h => .exc c fs (h.take n)
  | _ => .no
@[simp] def startE (nl : Nat) (args : List EV) : REnv := args.map some ++ List.replicate (nl - args.length) none
@[simp] def fnR (nl : Nat) (b : REnv → SHeap → FR) (args : List EV) (h : SHeap) : R := finish h.length (b (startE nl args) h)
section
variable {cf : Cfg} {K : PySem.W.Frag} {W : WX} {σ : L2.St} {μ μ' : List Addr} {h h' : SHeap} {H H' H₀ : Hp} {Q : VK}
theorem RP.take {x : PV} {w : V} {n : Nat} (q : RP K H (Live μ h) x w) : RP K H (Live (μ.take n) (h.take n)) x w := RP.map (fun _ _ s => s) (fun b us s nl => ⟨s, fun l => nl (live_take l)⟩) _ _ q
theorem RPs.take' {x : List PV} {w : List V} {n : Nat} (q : RPs K H (Live μ h) x w) : RPs K H (Live (μ.take n) (h.take n)) x w := RPs.map (fun _ _ s => s) (fun b us s nl => ⟨s, fun l => nl (live_take l)⟩) _ _ q
/-- the cells from n on go, but for the one at a, which comes to n -/
theorem RH.move {a : Nat} {p : Addr} {o : SO} {n : Nat} (r : RH K μ' h' H') (hn : n ≤ h'.length) (hna : n ≤ a) (e1 : μ'[a]? = some p) (e2 : h'[a]? = some o) : RH K (μ'.take n ++ [p]) (h'.take n ++ [o]) H' ∧ ∀ b, Live (μ'.take n ++ [p]) (h'.take n ++ [o]) b → Live μ' h' b := by
  have lm : (μ'.take n).length = n := by rw [List.length_take, r.len]; omega
  have lh : (h'.take n).length = n := by rw [List.length_take]; omega
  have am : ∀ {i : Nat} {b : Addr}, (μ'.take n ++ [p])[i]? = some b → (i < n ∧ μ'[i]? = some b) ∨ (i = n ∧ b = p) := fun {i b} z => by
    by_cases hi : i < n
    · rw [List.getElem?_append_left (by rw [lm]; exact hi)] at z
      exact .inl ⟨hi, (take_some z).1⟩
    · rw [List.getElem?_append_right (by rw [lm]; omega), lm] at z
      have : i - n = 0 := by
        cases q : i - n with
        | zero => rfl
        | succ k => rw [q] at z; simp at z
      rw [this] at z
      simp at z
      exact .inr ⟨by omega, z.symm⟩
  have ah : ∀ {i : Nat} {b : SO}, (h'.take n ++ [o])[i]? = some b → (i < n ∧ h'[i]? = some b) ∨ (i = n ∧ b = o) := fun {i b} z => by
    by_cases hi : i < n
    · rw [List.getElem?_append_left (by rw [lh]; exact hi)] at z
      exact .inl ⟨hi, (take_some z).1⟩
    · rw [List.getElem?_append_right (by rw [lh]; omega), lh] at z
      have : i - n = 0 := by
        cases q : i - n with
        | zero => rfl
        | succ k => rw [q] at z; simp at z
      rw [this] at z
      simp at z
      exact .inr ⟨by omega, z.symm⟩
  have lv : ∀ b, Live (μ'.take n ++ [p]) (h'.take n ++ [o]) b → Live μ' h' b := fun b ⟨i, u, z1, z2, ne⟩ => by
    rcases am z1 with ⟨h1, k1⟩ | ⟨h1, k1⟩
    · rcases ah z2 with ⟨_, k2⟩ | ⟨h2, k2⟩
      · exact ⟨i, u, k1, k2, ne⟩
      · omega
    · rcases ah z2 with ⟨h2, k2⟩ | ⟨h2, k2⟩
      · omega
      · exact ⟨a, o, by rw [k1]; exact e1, e2, by rw [← k2]; exact ne⟩
  refine ⟨⟨by rw [List.length_append, List.length_append, lm, lh]; rfl, ?_, fun i b z => ?_, fun i u z ne => ?_⟩, lv⟩
  · refine List.nodup_append.mpr ⟨r.nd.sublist (List.take_sublist _ _), by simp, fun b hb c hc z => ?_⟩
    rw [List.mem_singleton] at hc
    subst hc; subst z
    obtain ⟨j, hj, q⟩ := List.mem_iff_getElem.mp hb
    have q2 : (μ'.take n)[j]? = some b := by rw [List.getElem?_eq_getElem hj, q]
    have := nodup_at r.nd (take_some q2).1 e1
    have := (take_some q2).2
    omega
  · rcases am z with ⟨_, k⟩ | ⟨_, k⟩
    · exact r.tr i b k
    · rw [k]; exact r.tr a p e1
  · rcases ah z with ⟨hi, k⟩ | ⟨hi, k⟩
    · obtain ⟨b, ho, k1, k2, ro⟩ := r.obj i u k ne
      exact ⟨b, ho, by rw [List.getElem?_append_left (by rw [lm]; exact hi), List.getElem?_take_of_lt hi]; exact k1, k2, ro.map (fun _ _ s => s) fun b us s nl => ⟨s, fun l => nl (lv _ l)⟩⟩
    · subst k; subst hi
      obtain ⟨b, ho, k1, k2, ro⟩ := r.obj a u e2 ne
      rw [e1] at k1; cases k1
      exact ⟨p, ho, by rw [List.getElem?_append_right (by rw [lm]; exact Nat.le_refl _), lm]; simp, k2, ro.map (fun _ _ s => s) fun b us s nl => ⟨s, fun l => nl (lv _ l)⟩⟩
theorem Go.move {a : Nat} {p : Addr} {o : SO} (g : Go μ h H μ' h' H') (r : RH K μ h H) (hna : h.length ≤ a) (e1 : μ'[a]? = some p) (hl : h.length ≤ h'.length) (hm : μ'.length = h'.length) : Go μ h H (μ'.take h.length ++ [p]) (h'.take h.length ++ [o]) H' := by
  have lm : (μ'.take h.length).length = h.length := by rw [List.length_take, hm]; omega
  have lh : (h'.take h.length).length = h.length := by rw [List.length_take]; omega
  have at_ : ∀ {i : Nat} {u : SO}, h[i]? = some u → ∀ {w : SO}, h'[i]? = some w → (h'.take h.length ++ [o])[i]? = some w := fun {i u} z {w} z2 => by
    have hi := (List.getElem?_eq_some_iff.mp z).1
    rw [List.getElem?_append_left (by rw [lh]; exact hi), List.getElem?_take_of_lt hi]; exact z2
  refine ⟨fun i b z => ?_, fun i b z => ?_, fun i z => at_ z (g.dead i z), fun i xs z => at_ z (g.lk i xs z), fun i z => at_ z (g.bz i z), g.pres, g.trk⟩
  · have hi : i < h.length := by rw [← r.len]; exact (List.getElem?_eq_some_iff.mp z).1
    rw [List.getElem?_append_left (by rw [lm]; exact hi), List.getElem?_take_of_lt hi]; exact g.pre i b z
  · by_cases hi : i < h.length
    · rw [List.getElem?_append_left (by rw [lm]; exact hi)] at z
      exact g.new i b (take_some z).1
    · rw [List.getElem?_append_right (by rw [lm]; omega), lm] at z
      have hz : i - h.length = 0 := by
        cases q : i - h.length with
        | zero => rfl
        | succ k => rw [q] at z; simp at z
      rw [hz] at z
      simp at z
      subst z
      rcases g.new a p e1 with k | k
      · have := (List.getElem?_eq_some_iff.mp k).1
        rw [r.len] at this
        omega
      · exact .inr k
/-- a def's end is what its body wants -/
theorem Post.fin {E : XK} {res : FR} (r : RH cf.K μ h H) (p : Post cf (fun c d _ H => E c d H) [] μ h H Q (finish h.length res)) : PostS cf (fun c d _ H => E c d H) μ h H { nx := fun _ H' => Q .non H', rt := Q } res := by
  have cut : ∀ {μ' h' H'}, Go μ h H μ' h' H' → RH cf.K μ' h' H' → Go μ h H (μ'.take h.length) (h'.take h.length) H' ∧ RH cf.K (μ'.take h.length) (h'.take h.length) H' := fun g r' => ⟨g.take r (Nat.le_refl _), r'.take _⟩
  cases res with
  | nx ρ' h' => exact fun μ' σ' H' g r' _ => let ⟨g2, r2⟩ := cut g r'; p _ .non H' g2 r2 rrNon
  | bk ρ' h' => exact p.no
  | ct ρ' h' => exact p.no
  | no => exact p.no
  | exc c fs ρ' h' => exact fun μ' σ' H' cls d g r' _ rx => let ⟨g2, r2⟩ := cut g r'; p _ H' cls d g2 r2 (by
      obtain ⟨e, q⟩ := rx
      refine ⟨e, ?_⟩
      cases fs with
      | nil => exact q
      | cons f fs => obtain ⟨dd, gs, q1, q2, q3, q4⟩ := q; exact ⟨dd, gs, q1, q2, q3, RPs.take' q4⟩)
  | rt x h' =>
    cases x with
    | pv x => exact fun μ' w H' g r' q => let ⟨g2, r2⟩ := cut g r'; p _ w H' g2 r2 (RP.take q)
    | scr x => exact p.no
    | ref a =>
      intro μ' w H' g r' q
      obtain ⟨b, e1, rfl⟩ := q
      by_cases ha : a < h.length
      · replace p : Post cf (fun c d _ H => E c d H) [] μ h H Q (if a < h.length then .ok (.ref a) (h'.take h.length) else (match h'[a]? with
          | some o => .ok (.ref h.length) (h'.take h.length ++ [o])
          | none => .no)) := p
        rw [if_pos ha] at p
        obtain ⟨g2, r2⟩ := cut g r'
        exact p _ _ H' g2 r2 ⟨b, by rw [List.getElem?_take_of_lt ha]; exact e1, rfl⟩
      · replace p : Post cf (fun c d _ H => E c d H) [] μ h H Q (if a < h.length then .ok (.ref a) (h'.take h.length) else (match h'[a]? with
          | some o => .ok (.ref h.length) (h'.take h.length ++ [o])
          | none => .no)) := p
        rw [if_neg ha] at p
        have hl : a < h'.length := by rw [← r'.len]; exact (List.getElem?_eq_some_iff.mp e1).1
        split at p
        · rename_i o eo
          obtain ⟨r2, lv⟩ := r'.move (n := h.length) (by omega) (by omega) e1 eo
          exact p _ _ H' (g.move r (by omega) e1 (by omega) r'.len) r2 ⟨b, by
            have lm : (μ'.take h.length).length = h.length := by rw [List.length_take, r'.len]; omega
            rw [List.getElem?_append_right (by rw [lm]; exact Nat.le_refl _), lm]; simp, rfl⟩
        · exact p.no
/-- the slots at a def's start -/
theorem REs.start {N : List Str} {args : List EV} {vs : List V} (q : RRs K μ h H₀ H args vs) : REs K μ h H (startE N.length args) (start N vs) where
  len := by
    unfold startE L2.start
    rw [List.length_append, List.length_append, List.length_map, List.length_map, List.length_replicate, List.length_replicate, q.length]
  at_ := fun i v e => by
    unfold startE at e
    by_cases hi : i < args.length
    · rw [List.getElem?_append_left (by rw [List.length_map]; exact hi), List.getElem?_map] at e
      unfold L2.start
      rw [List.getElem?_append_left (by rw [List.length_map, ← q.length]; exact hi), List.getElem?_map]
      have e2 : args[i]? = some v := by
        cases z : args[i]? with
        | none => rw [z] at e; cases e
        | some u => rw [z] at e; cases e; rfl
      clear e hi
      induction q generalizing i with
      | nil => simp at e2
      | cons q1 _ ih =>
        cases i with
        | zero => simp at e2; subst e2; exact ⟨_, rfl, q1.re⟩
        | succ i => simp at e2; exact ih i e2
    · rw [List.getElem?_append_right (by rw [List.length_map]; omega)] at e
      rw [List.getElem?_replicate] at e
      split at e
      · cases e
      · cases e
end

/-! ### the table of defs -/
/-- what a call of the def x asks (f: its number) -/
def CallC (cf : Cfg) (P : Program) (w : World) (mg : Str → Option Value) (base : Heap) (k : Nat) (C : CallF) (f : Nat) (x : Str) (np : Nat) : Prop :=
  ∃ fa fd ps, FnOk P w cf.K mg base (L2.CX P w) k fa fd ps (spF cf C f np) ∧ mg x = some (.ref fa) ∧ PySem.W.keepIn cf.K (.ref fa) = true ∧ Binds cf.K fd ps []
def CallsC (cf : Cfg) (P : Program) (w : World) (mg : Str → Option Value) (base : Heap) (k : Nat) (C : CallF) (tab : List (Str × Nat)) : Prop :=
  ∀ (f : Nat) (x : Str) (np : Nat), tab[f]? = some (x, np) → CallC cf P w mg base k C f x np
section
variable {X : Cx} {cf : Cfg} {W : WX} {C : CallF} {tab : List (Str × Nat)} {k f np : Nat} {x : Str} {p pos : Pos} {e : Expr} {es : List Expr} {rs : REnv → SHeap → RM (List Res)}
theorem x_callC (cs : CallsC cf X.prog X.w X.mg X.base k C tab) (hf : tab[f]? = some (x, np)) (hK : X.K = cf.K) (tk : Takes X W) (hr : Room k X.A) (hg : Gl X x) (ha : PA X (e :: es) (tXA cf W rs))
    (hdb : (x == ("__debug__" : Str)) = false) (he : starEach (e :: es) X.env = (false, eval e X.env) :: starEach es X.env) (hpl : (backTo pos (starEach es X.env)).any (·.1) = false) : PE X (.Call (.Name x p) (e :: es) [] pos) (tX cf W (rCall C f np rs)) := by
  obtain ⟨fa, fd, ps, F, hm, hk, hb⟩ := cs f x np hf
  rw [← hK] at F hk hb
  exact x_call tk F hr hg hm hk hb ha hdb he hpl
theorem x_callC0 (cs : CallsC cf X.prog X.w X.mg X.base k C tab) (hf : tab[f]? = some (x, np)) (hK : X.K = cf.K) (tk : Takes X W) (hr : Room k X.A) (hg : Gl X x)
    (hdb : (x == ("__debug__" : Str)) = false) : PE X (.Call (.Name x p) [] [] pos) (tX cf W (rCall C f np fun _ h => .ok [] h)) := by
  obtain ⟨fa, fd, ps, F, hm, hk, hb⟩ := cs f x np hf
  rw [← hK] at F hk hb
  exact x_call0 tk F hr hg hm hk hb hdb
end
/-- one def, one level higher -/
theorem fn_step {cf : Cfg} {P : Program} {w : World} {mg : Str → Option Value} {base : Heap} {qual xn : Str} {params : Arguments} {body : List Stmt} {scope : Scope} {fa : Addr} {fd : FuncData} {N ps : List Str} {C' : CallF} {fi np k : Nat} {b : REnv → SHeap → FR}
    (F : FunD cf.K xn qual params body scope [] [] fa fd) (S : FnScope N ps scope) (hn : ps.length = np) (hC : ∀ args h, C' fi args h = fnR N.length b args h)
    (hb : ∀ (cdv : Value) (A : Around) (outer : List Env) (s : Shared) (H : Hp) (E : XK), Room k (A.deeper (envOfC qual scope s.heap.objs.size fa cdv)) → PSs (cxOf (L2.CX P w) P w cf.K mg base N qual scope fa cdv A outer s H E) body (tS cf (fun c d _ H => E c d H) b)) :
    FnOk P w cf.K mg base (L2.CX P w) (k + 1) fa fd ps (spF cf C' fi np) := by
  refine F.ok S (fun vs H Q E ⟨μ, h, args, _, q, e, _⟩ => ?_) fun cdv A outer s H vs Q E hr ⟨μ, h, args, r, q, e, p⟩ => ⟨_, hb cdv A outer s H E hr, ?_⟩
  · rw [← q.length, e, hn]
  · rw [hC] at p
    exact ⟨μ, _, h, r, REs.start q, Post.fin r p⟩
theorem fn_zero {cf : Cfg} {P : Program} {w : World} {mg : Str → Option Value} {base : Heap} {fa : Addr} {fd : FuncData} {ps : List Str} {C' : CallF} {fi np k : Nat} (hC : ∀ args h, C' fi args h = .no) : FnOk P w cf.K mg base (L2.CX P w) k fa fd ps (spF cf C' fi np) :=
  ⟨fun vs H Q E ⟨μ, h, args, _, q, e, p⟩ => by rw [hC] at p; exact p.no, fun A outer s H args us vs Q E hr he hb hv ⟨μ, h, ar, _, q, e, p⟩ => by rw [hC] at p; exact p.no⟩
end SM
namespace SM
open PySem PySem.Spec PyProof.Rows L2
section
variable {cf : Cfg} {X : Cx} {W : WX}
theorem x_cmpE {a b : Expr} {ra rb : REnv → SHeap → R} {pos : Pos} {op : CmpOp} (hK : X.K = cf.K) (hu : X.A.units + 64 < cLine) (hm : behindInMarks op b = false) (ha : PE X a (tX cf W ra)) (hb : PE X b (tX cf W rb)) : PE X (.Compare a [op] [b] pos) (tX cf W (rOp (cmpF op) ra rb)) := (x_cmp hK hu hm ha hb).1
theorem x_cmpT {a b : Expr} {ra rb : REnv → SHeap → R} {pos : Pos} {op : CmpOp} (hK : X.K = cf.K) (hu : X.A.units + 64 < cLine) (hm : behindInMarks op b = false) (ha : PE X a (tX cf W ra)) (hb : PE X b (tX cf W rb)) : PT X (.Compare a [op] [b] pos) (tB (tX cf W (rOp (cmpF op) ra rb))) := (x_cmp hK hu hm ha hb).2
theorem x_chainE {a b c : Expr} {ra rb rc : REnv → SHeap → R} {pos : Pos} {op op' : CmpOp} (hK : X.K = cf.K) (hu : X.A.units + 64 < cLine) (hm : lastMarks [op, op'] [b, c] = false) (ha : PE X a (tX cf W ra)) (hb : PE X b (tX cf W rb)) (hc : PE X c (tX cf W rc)) : PE X (.Compare a [op, op'] [b, c] pos) (tX cf W (rChain (cmpF op) (cmpF op') ra rb rc)) := (x_chain hK hu hm ha hb hc).1
theorem x_chainT' {a b c : Expr} {ra rb rc : REnv → SHeap → R} {pos : Pos} {op op' : CmpOp} (hK : X.K = cf.K) (hu : X.A.units + 64 < cLine) (hm : lastMarks [op, op'] [b, c] = false) (ha : PE X a (tX cf W ra)) (hb : PE X b (tX cf W rb)) (hc : PE X c (tX cf W rc)) : PT X (.Compare a [op, op'] [b, c] pos) (tB (tX cf W (rChain (cmpF op) (cmpF op') ra rb rc))) := (x_chain hK hu hm ha hb hc).2
def fStr (xs : List Res) (h : SHeap) : R := on1 xs fun x => match x with
  | .pv (.str z) => .ok (.pv (.str z)) h
  | .pv (.int i) => orNo (decide (i.natAbs.log2 < 1920)) (.ok (.pv (.str (PySem.Str.ofString (toString i)))) h)
  | _ => .no
theorem str_ok : CallOk cf X W (.type "str") fStr := by
  refine ⟨fun xs H Q => (∃ a, xs = [.str a] ∧ Q (.str a) H) ∨ ∃ i, xs = [.int i] ∧ i.natAbs.log2 < 1920 ∧ Q (.str (toString i)) H, fun pins s σ H xs us Q I r h => h.elim (SkE.call_str_str pins s σ H xs us Q I r) (call_str_int pins s σ H xs us Q I r), fun {σ μ h H Ha xs ws Q} r rr p => ?_⟩
  obtain ⟨x, w, rfl, q, p⟩ := Post.on1 rr p
  split at p
  · obtain rfl := q.toStr
    exact .inl ⟨_, rfl, p.here r rrStr⟩
  · obtain rfl := q.toInt
    obtain ⟨hc, p⟩ := p.orNo
    exact .inr ⟨_, rfl, of_decide_eq_true hc, p.here r rrStr⟩
  · exact p.no
end
/-! ### slices' parts -/
def POk (cf : Cfg) (X : Cx) (W : WX) (lo : Option Expr) (rl : Option (REnv → SHeap → R)) : Prop := ∃ tl : TO, PO X lo tl ∧
  (∀ {σ H} {Q : Option Int → Hp → Prop}, (match rl with | none => Q none H | some ra => tX cf W ra σ H fun x H1 => ∃ i, x = .int i ∧ Q (some i) H1) → tl σ H Q) ∧
  ∀ {σ H} {Q Q' : Option Int → Hp → Prop}, tl σ H Q → (∀ l H', Q l H' → Q' l H') → tl σ H Q'
section
variable {X : Cx} {cf : Cfg} {W : WX} {e a b c : Expr} {ra rb rc : REnv → SHeap → R} {pos : Pos}
theorem p_n : POk cf X W none none := ⟨tNoPart, po_none, fun q => q, fun q k => k _ _ q⟩
theorem p_s (h : PE X e (tX cf W ra)) : POk cf X W (some e) (some ra) := ⟨_, po_some h, fun q => q, fun q k => tX.mono q fun x H1 ⟨i, e, q⟩ => ⟨i, e, k _ _ q⟩⟩
theorem x_sl {lo hi : Option Expr} {rl ru : Option (REnv → SHeap → R)} {p2 : Pos} (hK : X.K = cf.K) (ha : PE X a (tX cf W ra)) (hl : POk cf X W lo rl) (hu : POk cf X W hi ru) : PE X (.Subscript a (.Slice lo hi none p2) pos) (tX cf W (rSlice ra rl ru)) := by
  obtain ⟨tl, h1, h2, h3⟩ := hl
  obtain ⟨tu, k1, k2, k3⟩ := hu
  exact x_slice hK ha h1 k1 h2 k2 h3 k3
/-- a name of the module at a constant int, str -/
theorem x_gi {x : Str} {i : Int} (hg : Gl X x) (hm : ∃ t, X.mg x = some (.int i t)) (hd : (x == ("__debug__" : Str)) = false) : PE X (.Name x pos) (tX cf W (rCst (.int i))) := by
  obtain ⟨t, hm⟩ := hm
  exact x_cst (pe_glob (v := .int i) hg hm ⟨t, rfl⟩ hd) fun _ _ => .int _
theorem x_gs {x z : Str} (hg : Gl X x) (hm : ∃ t, X.mg x = some (.str z t)) (hd : (x == ("__debug__" : Str)) = false) : PE X (.Name x pos) (tX cf W (rCst (.str z))) := by
  obtain ⟨t, hm⟩ := hm
  exact x_cst (pe_glob (v := .str z) hg hm ⟨t, rfl⟩ hd) fun _ _ => .str _
theorem x_int {i : Int} {j pos} : PE X (.Constant (.int i) j pos) (tX cf W (rCst (.int i))) := x_cst pe_int fun _ _ => .int _
theorem x_str {i : Str} {j pos} : PE X (.Constant (.str i) j pos) (tX cf W (rCst (.str i))) := x_cst pe_str fun _ _ => .str _
theorem x_bl {i : Bool} {j pos} : PE X (.Constant (.bool i) j pos) (tX cf W (rCst (.bool i))) := x_cst pe_bl fun _ _ => .bl _
theorem x_non {j pos} : PE X (.Constant .none j pos) (tX cf W (rCst .none)) := x_cst pe_non fun _ _ => .non
/-- a condition of a comprehension -/
theorem c_none : PTs X [] (condT cf none) := pts_nil
theorem c_one (h : PT X c (tB (tX cf W0 rc))) : PTs X [c] (condT cf (some rc)) := pts_one h
theorem s_setLc {i : Nat} {y : Str} {py : Pos} {elt tg iter : Expr} {ifs : List Expr} {scope : Scope} {own : List (Str × Nat)} {spos : Pos} {ri : REnv → SHeap → RM Src} {re : REnv → SHeap → R} {rc : Option (REnv → SHeap → R)} {t : Tg} (hc : X.calm = true) (hN : X.N.Nodup) (hy : X.N[i]? = some y) (hyl : X.env.scope.names.lookup y = some .local)
    (hsw : swapsWith (.ListComp elt [⟨tg, iter, ifs, 0⟩] scope pos) (some (.Name y py)) spos.line X.env = pure true) (hi : SrcOk cf X W tg iter ri) (ok : BlkOk X.N X.env.scope scope own) (hsl : ∀ j, j ∈ slotsT t → j ∈ own.map (·.2))
    (hg : ∀ (s : Shared) (H : Hp) (C : Addr) (cl : List (Str × Addr)) (fp : List Addr), PG (X.blk s H scope (compEnvC scope cl C X.env) fp) tg (gX cf t))
    (ht : ∀ (s : Shared) (H : Hp) (C : Addr) (cl : List (Str × Addr)) (fp : List Addr), PTs (X.blk s H scope (compEnvC scope cl C X.env) fp) ifs (condT cf rc))
    (he : ∀ (s : Shared) (H : Hp) (C : Addr) (cl : List (Str × Addr)) (fp : List Addr), PE (X.blk s H scope (compEnvC scope cl C X.env) fp) elt (tX cf W0 re)) (hs : ∀ x, foldedSetIterable iter X.env x = pure x) :
    PS X (.Assign [.Name y py] (.ListComp elt [⟨tg, iter, ifs, 0⟩] scope pos) spos) (tS cf W (rSet i (rLc ri t (own.map (·.2)) rc re))) := by
  obtain ⟨wi, hpi, hwi⟩ := hi
  refine (ps_setLc hc hN hy hyl hsw hpi ok hg ht he hs).imp fun D σ H q => ?_
  have q2 : tX cf W (rLc ri t (own.map (·.2)) rc re) σ H (fun x H1 => D.nx (σ.set i (some x)) H1) := asg_read q
  exact lc_read hwi hsl q2
end
/-! ### a law's end -/
theorem law_at {l : PySem.W.OpenLaw} {w : World} {cf : Cfg} {k n : Nat} {mg : Str → Option Value} {fa : Addr} {h : Heap} {fd : FuncData} {C : CallF} {f : Nat} {x : Str} (hb : ∀ (s : Shared) (u : Value), BindsTo s fd ⟨[u], []⟩ [(x, u)])
    (hl : ∀ ns : List Int, ns.length ≤ n → (∀ z ∈ ns, Builtin.Int.intBits z ≤ 1048576) → ∃ h', C f [.scr (ns.map .int)] [] = .ok (.pv (.bool true)) h')
    (hF : ∀ base : Heap, cf.K.In base → base.Ns mainGlobals mg → FnOk l.prog w cf.K mg base (L2.CX l.prog w) k fa fd [x] (spF cf C f 1)) : LamX.LawAtS l w cf.K (L2.CX l.prog w) k n x mg fa h := by
  refine ⟨fd, [], spF cf C f 1, fun p hp => (nomatch hp), fun p hp => (nomatch hp), fun p hp => (nomatch hp), hb, fun H a ns hn hz _ hS => ?_, fun base h1 h2 _ => hF base h1 h2⟩
  obtain ⟨h', e⟩ := hl ns hn hz
  have vals : ∀ xs : List Int, RPs cf.K H (Live [] []) (xs.map PyData.int) (xs.map V.int) := fun xs => by
    induction xs with
    | nil => exact .nil
    | cons x xs ih => exact .cons (.int x) ih
  refine ⟨[], [], [.scr (ns.map .int)], ⟨rfl, List.nodup_nil, fun i a z => by simp at z, fun i o z => by simp at z⟩, .cons (show RScr _ _ _ _ _ _ from ⟨a, _, rfl, ?_, vals ns⟩) .nil, rfl, ?_⟩
  · rcases hS with hS | hS
    · exact .inr ⟨hS, fun ⟨i, o, z, _⟩ => by simp at z⟩
    · exact .inl hS
  · rw [e]
    exact fun μ' w H' _ _ q => q.toBl
end SM

set_option maxRecDepth 100000
set_option maxHeartbeats 4000000
namespace SM
open PySem PySem.Spec PyProof.Rows L2
/-! ### the machine's equations, applied -/
section
variable {α β : Type} {a : α} {h h1 : SHeap} {ρ ρ' : REnv} {c : Nat} {fs : List (Str × PV)} {ra rb rc rl ru : REnv → SHeap → R} {sa sb : REnv → SHeap → FR} {rs : REnv → SHeap → RM (List Res)} {C : CallF} {f np n : Nat} {x y : Res} {xs : List Res} {g : List Res → SHeap → R} {op : Operator}
@[simp] theorem bind_ok {k : α → SHeap → RM β} : (RM.ok a h).bind k = k a h := rfl
@[simp] theorem bind_exc {k : α → SHeap → RM β} : (RM.exc c fs h).bind k = .exc c fs h := rfl
@[simp] theorem toF_ok {k : α → SHeap → FR} : (RM.ok a h).toF ρ k = k a h := rfl
@[simp] theorem toF_exc {k : α → SHeap → FR} : (RM.exc c fs h : RM α).toF ρ k = .exc c fs ρ h := rfl
@[simp] theorem ap_rVar : rVar n ρ h = (match ρ[n]? with | some (some (.pv x)) => .ok (.pv x) h | some (some (.ref a)) => .ok (.ref a) h | some (some (.scr a)) => .ok (.scr a) h | _ => .no) := rfl
@[simp] theorem ap_rCst {v : PV} : rCst v ρ h = .ok (.pv v) h := rfl
@[simp] theorem ap_rOp {g : Res → Res → SHeap → R} : rOp g ra rb ρ h = (ra ρ h).bind fun x h1 => (rb ρ h1).bind fun y h2 => g x y h2 := rfl
@[simp] theorem ap_onBl {b : Bool} {k : Bool → R} : onBl (.pv (.bool b)) k = k b := rfl
@[simp] theorem ap_onBlF {b : Bool} {k : Bool → FR} : onBlF (.pv (.bool b)) k = k b := rfl
@[simp] theorem ap_rChain {g g' : Res → Res → SHeap → R} : rChain g g' ra rb rc ρ h = (ra ρ h).bind fun x h1 => (rb ρ h1).bind fun y h2 => (g x y h2).bind fun z h3 => onBl z fun b => if b = true then (rc ρ h3).bind fun v h4 => g' y v h4 else .ok (.pv (.bool false)) h3 := by
  unfold rChain
  congr; funext x h1; congr; funext y h2; congr; funext z h3
  unfold onBl
  split
  · simp
  · simp
  · rename_i n1 n2
    split
    · rename_i b
      cases b
      · exact absurd rfl n2
      · exact absurd rfl n1
    · rfl
@[simp] theorem ap_rAnd : rAnd ra rb ρ h = (ra ρ h).bind fun x h1 => onBl x fun b => if b = true then rb ρ h1 else .ok (.pv (.bool false)) h1 := rfl
@[simp] theorem ap_rOr : rOr ra rb ρ h = (ra ρ h).bind fun x h1 => onBl x fun b => if b = true then .ok (.pv (.bool true)) h1 else rb ρ h1 := rfl
@[simp] theorem ap_rNot : rNot ra ρ h = (ra ρ h).bind fun x h1 => onBl x fun b => .ok (.pv (.bool (!b))) h1 := rfl
@[simp] theorem ap_rIfe : rIfe rc ra rb ρ h = (rc ρ h).bind fun x h1 => onBl x fun b => if b = true then ra ρ h1 else rb ρ h1 := rfl
@[simp] theorem ap_rIsi1 {T : Ty} : rIsi1 T ra ρ h = (ra ρ h).bind fun x h1 => isiF T x h1 := rfl
@[simp] theorem isi_non {T : Ty} : isiF T (.pv .none) h = .ok (.pv (.bool (Ty.isA .non T))) h := rfl
@[simp] theorem isi_bl {T : Ty} {b : Bool} : isiF T (.pv (.bool b)) h = .ok (.pv (.bool (Ty.isA .bl T))) h := rfl
@[simp] theorem isi_int {T : Ty} {b : Int} : isiF T (.pv (.int b)) h = .ok (.pv (.bool (Ty.isA .int T))) h := rfl
@[simp] theorem isi_str {T : Ty} {b : Str} : isiF T (.pv (.str b)) h = .ok (.pv (.bool (Ty.isA .str T))) h := rfl
@[simp] theorem isi_lst {T : Ty} {b : List PV} : isiF T (.pv (.list b)) h = .ok (.pv (.bool (Ty.isA .lst T))) h := rfl
@[simp] theorem isi_tup {T : Ty} {b : List PV} : isiF T (.pv (.tuple b)) h = .ok (.pv (.bool (Ty.isA .tup T))) h := rfl
@[simp] theorem ap_rNeg : rNeg ra ρ h = (ra ρ h).bind fun x h1 => match x with | .pv (.int i) => .ok (.pv (.int (-i))) h1 | _ => .no := rfl
@[simp] theorem orNo_t {r : R} : orNo true r = r := rfl
@[simp] theorem orNoS_t {r : RM Src} : orNoS true r = r := rfl
@[simp] theorem on_int {i j : Int} {k : Int → Int → R} : onInt (.pv (.int i)) (.pv (.int j)) k = k i j := rfl
@[simp] theorem op_addI {i j : Int} : opBin .Add (.pv (.int i)) (.pv (.int j)) h = .ok (.pv (.int (i + j))) h := rfl
@[simp] theorem op_addS {i j : Str} : opBin .Add (.pv (.str i)) (.pv (.str j)) h = orNo (Nat.ble (i.length + j.length) SZ) (.ok (.pv (.str (i ++ j))) h) := rfl
@[simp] theorem op_addT {i j : List PV} : opBin .Add (.pv (.tuple i)) (.pv (.tuple j)) h = orNo (Nat.ble (i.length + j.length) SZ) (.ok (.pv (.tuple (i ++ j))) h) := rfl
@[simp] theorem op_subI : opBin .Sub x y h = onInt x y fun i j => .ok (.pv (.int (i - j))) h := rfl
@[simp] theorem op_mulI : opBin .Mult x y h = onInt x y fun i j => orNo (mulOk i j) (.ok (.pv (.int (i * j))) h) := rfl
@[simp] theorem op_divI : opBin .FloorDiv x y h = onInt x y fun i j => orNo (decide (0 < j) && Nat.blt j.natAbs.log2 9000) (.ok (.pv (.int (i / j))) h) := rfl
@[simp] theorem op_modI : opBin .Mod x y h = onInt x y fun i j => orNo (decide (0 < j)) (.ok (.pv (.int (i % j))) h) := rfl
@[simp] theorem op_powI : opBin .Pow x y h = onInt x y fun i j => orNo (decide (0 ≤ j) && (Nat.ble j.natAbs 1000000 && Nat.blt i.natAbs 18446744073709551616)) (.ok (.pv (.int (i ^ j.toNat))) h) := rfl
@[simp] theorem cm_lt : cmpF .Lt x y h = onInt x y fun i j => .ok (.pv (.bool (decide (i < j)))) h := rfl
@[simp] theorem cm_le : cmpF .LtE x y h = onInt x y fun i j => .ok (.pv (.bool (decide (i ≤ j)))) h := rfl
@[simp] theorem cm_gt : cmpF .Gt x y h = onInt x y fun i j => .ok (.pv (.bool (decide (j < i)))) h := rfl
@[simp] theorem cm_ge : cmpF .GtE x y h = onInt x y fun i j => .ok (.pv (.bool (decide (j ≤ i)))) h := rfl
@[simp] theorem cm_eqI {i j : Int} : cmpF .Eq (.pv (.int i)) (.pv (.int j)) h = .ok (.pv (.bool (decide (i = j)))) h := rfl
@[simp] theorem cm_neI {i j : Int} : cmpF .NotEq (.pv (.int i)) (.pv (.int j)) h = .ok (.pv (.bool (!decide (i = j)))) h := rfl
@[simp] theorem cm_eqS {i j : Str} : cmpF .Eq (.pv (.str i)) (.pv (.str j)) h = .ok (.pv (.bool (decide (i = j)))) h := rfl
@[simp] theorem cm_neS {i j : Str} : cmpF .NotEq (.pv (.str i)) (.pv (.str j)) h = .ok (.pv (.bool (!decide (i = j)))) h := rfl
@[simp] theorem cm_eqT {i j : List PV} : cmpF .Eq (.pv (.tuple i)) (.pv (.tuple j)) h = orNo (SeqAt.shaped (.tuple i) && SeqAt.shaped (.tuple j)) (.ok (.pv (.bool (PyData.eqv (.tuple i) (.tuple j)))) h) := rfl
@[simp] theorem cm_neT {i j : List PV} : cmpF .NotEq (.pv (.tuple i)) (.pv (.tuple j)) h = orNo (SeqAt.shaped (.tuple i) && SeqAt.shaped (.tuple j)) (.ok (.pv (.bool (!PyData.eqv (.tuple i) (.tuple j)))) h) := rfl
@[simp] theorem cm_isN : cmpF .Is x (.pv .none) h = .ok (.pv (.bool x.isNon)) h := rfl
@[simp] theorem cm_isnN : cmpF .IsNot x (.pv .none) h = .ok (.pv (.bool (!x.isNon))) h := rfl
@[simp] theorem cm_isB {b : Bool} : cmpF .Is x (.pv (.bool b)) h = .ok (.pv (.bool (x.isBl b))) h := rfl
@[simp] theorem ap_evCons : evCons ra rs ρ h = (ra ρ h).bind fun x h1 => (rs ρ h1).bind fun xs h2 => .ok (x :: xs) h2 := rfl
@[simp] theorem ap_rCall : rCall C f np rs ρ h = (rs ρ h).bind fun xs h1 => orNo (Nat.beq xs.length np) (C f xs h1) := rfl
@[simp] theorem ap_rBi : rBi g rs ρ h = (rs ρ h).bind fun xs h1 => g xs h1 := rfl
@[simp] theorem ap_rCut : rCut ra ρ h = cutR h.length (ra ρ h) := rfl
@[simp] theorem cut_pv {x : PV} : cutR n (.ok (.pv x) h) = .ok (.pv x) (h.take n) := rfl
@[simp] theorem cut_ref {x : Nat} : cutR n (.ok (.ref x) h) = .ok (.ref x) h := rfl
@[simp] theorem cut_exc : cutR n (.exc c fs h) = .exc c fs h := rfl
@[simp] theorem f_int {i : Int} : fInt [.pv (.int i)] h = .ok (.pv (.int i)) h := rfl
@[simp] theorem f_intB {b : Bool} : fInt [.pv (.bool b)] h = .ok (.pv (.int (if b then 1 else 0))) h := rfl
@[simp] theorem f_abs {i : Int} : fAbs [.pv (.int i)] h = .ok (.pv (.int (if i < 0 then -i else i))) h := rfl
@[simp] theorem f_lenT {i : List PV} : fLen [.pv (.tuple i)] h = .ok (.pv (.int i.length)) h := rfl
@[simp] theorem f_lenL {i : List PV} : fLen [.pv (.list i)] h = .ok (.pv (.int i.length)) h := rfl
@[simp] theorem f_lenS {i : Str} : fLen [.pv (.str i)] h = orNo (Nat.ble i.length SZ) (.ok (.pv (.int i.length)) h) := rfl
@[simp] theorem f_strS {i : Str} : fStr [.pv (.str i)] h = .ok (.pv (.str i)) h := rfl
/-- a cell's list -/
theorem f_lenR {a : Nat} {ys : List PV} (e : h[a]? = some (.lst ys)) : fLen [.ref a] h = .ok (.pv (.int ys.length)) h := by
  show (match Res.seq? h (.ref a) with | some xs => RM.ok (EV.pv (.int xs.length)) h | none => .no) = _
  unfold Res.seq? Res.list?
  simp only [e]
@[simp] theorem f_listS {ys : List PV} : fList [.scr ys] h = .ok (.ref h.length) (h ++ [.lst ys]) := rfl
@[simp] theorem f_listT {ys : List PV} : fList [.pv (.tuple ys)] h = .ok (.ref h.length) (h ++ [.lst ys]) := rfl
@[simp] theorem f_listL {ys : List PV} : fList [.pv (.list ys)] h = .ok (.ref h.length) (h ++ [.lst ys]) := rfl
theorem f_tupR {a : Nat} {ys : List PV} (e : h[a]? = some (.lst ys)) : fTuple [.ref a] h = .ok (.pv (.tuple ys)) h := by
  show (match Res.seq? h (.ref a) with | some xs => RM.ok (EV.pv (.tuple xs)) h | none => .no) = _
  unfold Res.seq? Res.list?
  simp only [e]
@[simp] theorem f_tupR' {ys : List PV} : fTuple [.ref h.length] (h ++ [.lst ys]) = .ok (.pv (.tuple ys)) (h ++ [.lst ys]) := f_tupR (by simp)
@[simp] theorem f_tupT {ys : List PV} : fTuple [.pv (.tuple ys)] h = .ok (.pv (.tuple ys)) h := rfl
theorem f_allR {a : Nat} {ys : List PV} {bs : List Bool} (e : h[a]? = some (.lst ys)) (e2 : bools ys = some bs) : fAll [.ref a] h = .ok (.pv (.bool (bs.all id))) h := by
  show (match Res.list? h (.ref a) with | some ys => (match bools ys with | some bs => RM.ok (EV.pv (.bool (bs.all id))) h | none => .no) | none => .no) = _
  unfold Res.list?
  simp only [e, e2]
theorem f_anyR {a : Nat} {ys : List PV} {bs : List Bool} (e : h[a]? = some (.lst ys)) (e2 : bools ys = some bs) : fAny [.ref a] h = .ok (.pv (.bool (bs.any id))) h := by
  show (match Res.list? h (.ref a) with | some ys => (match bools ys with | some bs => RM.ok (EV.pv (.bool (bs.any id))) h | none => .no) | none => .no) = _
  unfold Res.list?
  simp only [e, e2]
@[simp] theorem ap_subT {ys : List PV} {i : Int} : subF (.pv (.tuple ys)) (.pv (.int i)) h = (match atI ys i with | some v => .ok (.pv v) h | none => .no) := rfl
@[simp] theorem ap_subL {ys : List PV} {i : Int} : subF (.pv (.list ys)) (.pv (.int i)) h = (match atI ys i with | some v => .ok (.pv v) h | none => .no) := rfl
theorem ap_subR {a : Nat} {ys : List PV} {i : Int} (e : h[a]? = some (.lst ys)) : subF (.ref a) (.pv (.int i)) h = (match atI ys i with | some v => .ok (.pv v) h | none => .no) := by
  show (match Res.seq? h (.ref a) with | some xs => (match atI xs i with | some v => RM.ok (EV.pv v) h | none => .no) | none => .no) = _
  unfold Res.seq? Res.list?
  simp only [e]
@[simp] theorem fz_pv {x : PV} : freeze h (.pv x) = some (x, h) := rfl
@[simp] theorem fzs_nil : freezes h [] = some ([], h) := rfl
@[simp] theorem fzs_pv {x : PV} : freezes h (.pv x :: xs) = (match freezes h xs with | some (ys, h2) => some (x :: ys, h2) | none => none) := rfl
@[simp] theorem ap_onFrz {k : List PV → SHeap → R} : onFrz xs h k = (match freezes h xs with | some (ys, h1) => orNo (Nat.ble ys.length SZ) (k ys h1) | none => .no) := rfl
@[simp] theorem ap_rTup : rTup rs ρ h = (rs ρ h).bind fun xs h1 => onFrz xs h1 fun ys h2 => .ok (.pv (.tuple ys)) h2 := rfl
@[simp] theorem ap_rLst : rLst rs ρ h = (rs ρ h).bind fun xs h1 => onFrz xs h1 fun ys h2 => newL ys h2 := rfl
@[simp] theorem ap_newL {ys : List PV} : newL ys h = .ok (.ref h.length) (h ++ [.lst ys]) := rfl
@[simp] theorem part_n {k : Option Int → SHeap → R} : rPart none k ρ h = k none h := rfl
@[simp] theorem part_s {k : Option Int → SHeap → R} : rPart (some ra) k ρ h = (ra ρ h).bind fun x h1 => match x with | .pv (.int i) => k (some i) h1 | _ => .no := rfl
@[simp] theorem ap_slT {ys : List PV} {lo hi : Option Int} : sliceF (.pv (.tuple ys)) lo hi h = .ok (.pv (.tuple (cutL ys lo hi))) h := rfl
@[simp] theorem ap_slS {ys : Str} {lo hi : Option Int} : sliceF (.pv (.str ys)) lo hi h = orNo (Nat.ble ys.length SZ) (.ok (.pv (.str (cutS ys lo hi))) h) := rfl
@[simp] theorem ap_rSlice {lo hi : Option (REnv → SHeap → R)} : rSlice ra lo hi ρ h = (ra ρ h).bind fun x h1 => rPart lo (fun l h2 => rPart hi (fun u h3 => sliceF x l u h3) ρ h2) ρ h1 := rfl
@[simp] theorem ap_rLc {ri : REnv → SHeap → RM Src} {t : Tg} {vs : List Nat} {rcc : Option (REnv → SHeap → R)} {re : REnv → SHeap → R} : rLc ri t vs rcc re ρ h = (ri ρ h).bind fun s h1 => compR t vs rcc re ρ s h1 := rfl
theorem ap_comp {t : Tg} {vs : List Nat} {rcc : Option (REnv → SHeap → R)} {re : REnv → SHeap → R} {items : List EV} {zs : List PV} {h2 : SHeap} (hs : Nat.ble items.length SZ = true) (e : compL t rcc re (wipeE ρ vs) items (h ++ [.busy]) = .ok zs h2) : compR t vs rcc re ρ ⟨items, none⟩ h = .ok (.ref h.length) (h2.set h.length (.lst zs)) := by
  unfold compR
  simp only [hs, orNo, e, unl]
@[simp] theorem ap_iRg {g : List Res → SHeap → RM Src} : iRg g rs ρ h = (rs ρ h).bind g := rfl
@[simp] theorem ap_iVal : iVal ra ρ h = (ra ρ h).bind srcOf := rfl
@[simp] theorem so_tup {ys : List PV} : srcOf (.pv (.tuple ys)) h = .ok ⟨ys.map .pv, none⟩ h := rfl
@[simp] theorem so_lst {ys : List PV} : srcOf (.pv (.list ys)) h = .ok ⟨ys.map .pv, none⟩ h := rfl
theorem so_ref {a : Nat} {ys : List PV} (e : h[a]? = some (.lst ys)) : srcOf (.ref a) h = .ok ⟨ys.map .pv, some a⟩ (h.set a (.lk ys)) := by
  unfold srcOf
  simp only [e]
@[simp] theorem r1_int {j : Int} : rg1 [.pv (.int j)] h = orNoS (rgB j) (.ok ⟨(List.range j.toNat).map fun i => .pv (.int (0 + (i : Nat))), none⟩ h) := rfl
@[simp] theorem r2_int {i j : Int} : rg2 [.pv (.int i), .pv (.int j)] h = orNoS (rgB i && rgB j) (.ok ⟨(List.range (j - i).toNat).map fun k => .pv (.int (i + (k : Nat))), none⟩ h) := rfl
/-! statements -/
@[simp] theorem ap_rExpr : rExpr ra ρ h = (ra ρ h).toF ρ fun _ h1 => .nx ρ h1 := rfl
@[simp] theorem ap_rSet : rSet n ra ρ h = (ra ρ h).toF ρ fun x h1 => .nx (ρ.set n (some x)) h1 := rfl
@[simp] theorem ap_rUnp {t : Tg} : rUnp t ra ρ h = (ra ρ h).toF ρ fun x h1 => match bindT t x ρ with | some ρ1 => .nx ρ1 h1 | none => .no := rfl
@[simp] theorem ap_rRet : rRet ra ρ h = (ra ρ h).toF ρ fun x h1 => .rt x h1 := rfl
@[simp] theorem ap_rIf : rIf rc sa sb ρ h = (rc ρ h).toF ρ fun x h1 => onBlF x fun b => if b = true then sa ρ h1 else sb ρ h1 := rfl
@[simp] theorem ap_rSeq : rSeq sa sb ρ h = (match sa ρ h with | .nx ρ1 h1 => sb ρ1 h1 | r => r) := rfl
@[simp] theorem ap_par2 {i j : Nat} : par2 i j rs ρ h = (rs ρ h).toF ρ fun xs h1 => match xs with | [x, y] => .nx ((ρ.set i (some x)).set j (some y)) h1 | _ => .no := rfl
@[simp] theorem ap_par3 {i j l : Nat} : par3 i j l rs ρ h = (rs ρ h).toF ρ fun xs h1 => match xs with | [x, y, z] => .nx (((ρ.set i (some x)).set j (some y)).set l (some z)) h1 | _ => .no := rfl
@[simp] theorem ap_rSetSub : rSetSub ra rb rc ρ h = (rc ρ h).toF ρ fun v h1 => (ra ρ h1).toF ρ fun o h2 => (rb ρ h2).toF ρ fun i h3 => setF o i v ρ h3 := rfl
theorem ap_setF {a : Nat} {i : Int} {y : PV} {ys : List PV} {j : Nat} (e : h[a]? = some (.lst ys)) (ej : ixN ys.length i = some j) : setF (.ref a) (.pv (.int i)) (.pv y) ρ h = .nx ρ (h.set a (.lst (ys.set j y))) := by
  unfold setF
  simp only [freeze, e, ej]
@[simp] theorem ap_rFor {ri : REnv → SHeap → RM Src} {t : Tg} : rFor ri t sb ρ h = (ri ρ h).toF ρ fun s h1 => unlF s.lock (forL t sb s.items ρ h1) := rfl
@[simp] theorem unlF_nx : unlF none (.nx ρ h) = .nx ρ h := rfl
@[simp] theorem unlF_rt {r : Res} : unlF none (.rt r h) = .rt r h := rfl
@[simp] theorem unlF_exc : unlF none (.exc c fs ρ h) = .exc c fs ρ h := rfl
@[simp] theorem forL_nil {t : Tg} : forL t sb [] ρ h = .nx ρ h := rfl
@[simp] theorem ap_rWh : rWh rc sb ρ h = whL rc sb WF ρ h := rfl
@[simp] theorem ap_rApp : rApp ra rb ρ h = (ra ρ h).bind fun x h1 => onCell x h1 fun a => (rb ρ h1).bind fun y h2 => appF a y h2 := rfl
@[simp high] theorem ble_SZ {n : Nat} : Nat.ble n SZ = decide (n ≤ 16777216) := by
  by_cases q : n ≤ 16777216
  · rw [decide_eq_true q]; exact Nat.ble_eq_true_of_le q
  · rw [decide_eq_false q]; exact Bool.eq_false_iff.mpr fun z => q (Nat.le_of_ble_eq_true z)
@[simp] theorem ble_dec {n m : Nat} : Nat.ble n m = decide (n ≤ m) := by
  by_cases q : n ≤ m
  · rw [decide_eq_true q]; exact Nat.ble_eq_true_of_le q
  · rw [decide_eq_false q]; exact Bool.eq_false_iff.mpr fun z => q (Nat.le_of_ble_eq_true z)
@[simp] theorem blt_dec {n m : Nat} : Nat.blt n m = decide (n < m) := ble_dec
end
end SM

set_option maxRecDepth 100000
set_option maxHeartbeats 0
namespace LW
open PySem PySem.Spec PyProof.Rows L2 SM
def top (i : Nat) : Stmt := PySem.Challenge.pw_serieskept_k08_whole_checks_of_octets.main.body.getD i (.Pass ⟨0, 0, 0, 0⟩)
def tab : List (Str × Nat) := [("is_whole", 3), ("is_tuple_of", 3), ("need_octets", 1), ("check_in", 2), ("power_of", 1), ("check_of", 1), ("need_check", 1), ("check_on", 2), ("check_joined", 3), ("_law_cup", 1), ("_law_roll", 2), ("_law_same", 2), ("_law_power", 1), ("_law_sum", 1), ("_law_right", 2), ("law", 1)]
/-- what is known of the names of the module -/
structure Mg (mg : Str → Option Value) : Prop where
  f_abs : mg "abs" = none
  f_all : mg "all" = none
  f_bool : mg "bool" = none
  f_int : mg "int" = none
  f_isinstance : mg "isinstance" = none
  f_len : mg "len" = none
  f_list : mg "list" = none
  f_range : mg "range" = none
  f_str : mg "str" = none
  f_tuple : mg "tuple" = none
  i_BEGIN : ∃ t, mg "BEGIN" = some (.int 7 t)
  i_OCTETS : ∃ t, mg "OCTETS" = some (.int 200000 t)
  i_PRIME : ∃ t, mg "PRIME" = some (.int 4294967291 t)
  i_STEP : ∃ t, mg "STEP" = some (.int 1000003 t)
/-! is_whole -/
def b0 (C : CallF) : REnv → SHeap → FR := (rSeq (rRet (rAnd (rIsi1 .int (rVar 0)) (rAnd (rNot (rIsi1 .bl (rVar 0))) (rChain (cmpF .LtE) (cmpF .LtE) (rVar 1) (rVar 0) (rVar 2))))) (fun ρ h => .nx ρ h))
theorem sc0 : FnScope ["value", "low", "high"] ["value", "low", "high"] (defScope (top 4)) := ⟨rfl, rfl, rfl, by decide +kernel, rfl, by decide +kernel, by decide +kernel⟩
theorem w0 {cf : Cfg} {P : Program} {w : World} {mg : Str → Option Value} {base : Heap} {k : Nat} {C : CallF} (m : Mg mg) (cs : CallsC cf P w mg base k C tab) (fa : Addr) (cdv : Value) (A : Around) (outer : List Env) (s : Shared) (H : Hp) (E : XK) (hr : Room k (A.deeper (envOfC "is_whole" (defScope (top 4)) s.heap.objs.size fa cdv))) :
    PSs (cxOf (L2.CX P w) P w cf.K mg base ["value", "low", "high"] "is_whole" (defScope (top 4)) fa cdv A outer s H E) (defBody (top 4)) (tS cf (fun c d _ H => E c d H) (b0 C)) := by
  have tk : Takes (cxOf (L2.CX P w) P w cf.K mg base ["value", "low", "high"] "is_whole" (defScope (top 4)) fa cdv A outer s H E) (fun c d _ H => E c d H) := takes_of rfl rfl rfl rfl
  have hp := passes_of (X := cxOf (L2.CX P w) P w cf.K mg base ["value", "low", "high"] "is_whole" (defScope (top 4)) fa cdv A outer s H E) rfl
  have nd := sc0.nd
  have hu := hr.units
  exact (ss_cons (s_ret (x_and (x_isi (T := .int) rfl (by decide) (x_var (i := 0) (by rfl) (by first | exact .inl rfl | exact .inr (.inl rfl) | exact .inr (.inr rfl)) (by decide) (by decide)) (by rfl) m.f_isinstance (by rfl) m.f_int (by decide +kernel) (by decide) (by decide) (by rfl) (by rfl) (by rfl)) (x_and (x_not (x_isi (T := .bl) rfl (by decide) (x_var (i := 0) (by rfl) (by first | exact .inl rfl | exact .inr (.inl rfl) | exact .inr (.inr rfl)) (by decide) (by decide)) (by rfl) m.f_isinstance (by rfl) m.f_bool (by decide +kernel) (by decide) (by decide) (by rfl) (by rfl) (by rfl))) (x_and1 (x_chainE rfl hu (by rfl) (x_var (i := 1) (by rfl) (by first | exact .inl rfl | exact .inr (.inl rfl) | exact .inr (.inr rfl)) (by decide) (by decide)) (x_var (i := 0) (by rfl) (by first | exact .inl rfl | exact .inr (.inl rfl) | exact .inr (.inr rfl)) (by decide) (by decide)) (x_var (i := 2) (by rfl) (by first | exact .inl rfl | exact .inr (.inl rfl) | exact .inr (.inr rfl)) (by decide) (by decide)))))))
    ss_nil)
/-! is_tuple_of -/
def b1 (C : CallF) : REnv → SHeap → FR := (rSeq (rRet (rAnd (rIsi1 .tup (rVar 0)) (rChain (cmpF .LtE) (cmpF .LtE) (rVar 1) (rBi fLen (evCons (rVar 0) (fun _ h => .ok [] h))) (rVar 2)))) (fun ρ h => .nx ρ h))
theorem sc1 : FnScope ["value", "low", "high"] ["value", "low", "high"] (defScope (top 5)) := ⟨rfl, rfl, rfl, by decide +kernel, rfl, by decide +kernel, by decide +kernel⟩
theorem w1 {cf : Cfg} {P : Program} {w : World} {mg : Str → Option Value} {base : Heap} {k : Nat} {C : CallF} (m : Mg mg) (cs : CallsC cf P w mg base k C tab) (fa : Addr) (cdv : Value) (A : Around) (outer : List Env) (s : Shared) (H : Hp) (E : XK) (hr : Room k (A.deeper (envOfC "is_tuple_of" (defScope (top 5)) s.heap.objs.size fa cdv))) :
    PSs (cxOf (L2.CX P w) P w cf.K mg base ["value", "low", "high"] "is_tuple_of" (defScope (top 5)) fa cdv A outer s H E) (defBody (top 5)) (tS cf (fun c d _ H => E c d H) (b1 C)) := by
  have tk : Takes (cxOf (L2.CX P w) P w cf.K mg base ["value", "low", "high"] "is_tuple_of" (defScope (top 5)) fa cdv A outer s H E) (fun c d _ H => E c d H) := takes_of rfl rfl rfl rfl
  have hp := passes_of (X := cxOf (L2.CX P w) P w cf.K mg base ["value", "low", "high"] "is_tuple_of" (defScope (top 5)) fa cdv A outer s H E) rfl
  have nd := sc1.nd
  have hu := hr.units
  exact (ss_cons (s_ret (x_and (x_isi (T := .tup) rfl (by decide) (x_var (i := 0) (by rfl) (by first | exact .inl rfl | exact .inr (.inl rfl) | exact .inr (.inr rfl)) (by decide) (by decide)) (by rfl) m.f_isinstance (by rfl) m.f_tuple (by decide +kernel) (by decide) (by decide) (by rfl) (by rfl) (by rfl)) (x_and1 (x_chainE rfl hu (by rfl) (x_var (i := 1) (by rfl) (by first | exact .inl rfl | exact .inr (.inl rfl) | exact .inr (.inr rfl)) (by decide) (by decide)) (x_callB (len_ok rfl) (by rfl) m.f_len (by decide +kernel) (xa_cons (x_var (i := 0) (by rfl) (by first | exact .inl rfl | exact .inr (.inl rfl) | exact .inr (.inr rfl)) (by decide) (by decide)) xa_nil (by rfl)) (by decide) (by decide) (by rfl) (by rfl)) (x_var (i := 2) (by rfl) (by first | exact .inl rfl | exact .inr (.inl rfl) | exact .inr (.inr rfl)) (by decide) (by decide))))))
    ss_nil)
/-! need_octets -/
def b2 (C : CallF) : REnv → SHeap → FR := (rSeq (rIf (rOr (rNot (rCall C 1 3 (evCons (rVar 0) (evCons (rCst (.int 0)) (evCons (rCst (.int 200000)) (fun _ h => .ok [] h)))))) (rNot (rCut (rBi fAll (evCons (rLc (iVal (rVar 0)) (.nm 1) [1] none (rCall C 0 3 (evCons (rVar 1) (evCons (rCst (.int 0)) (evCons (rCst (.int 255)) (fun _ h => .ok [] h)))))) (fun _ h => .ok [] h)))))) (rSeq (fun _ _ => .no) (fun ρ h => .nx ρ h)) (fun ρ h => .nx ρ h)) (fun ρ h => .nx ρ h))
theorem sc2 : FnScope ["octets", "one"] ["octets"] (defScope (top 8)) := ⟨rfl, rfl, rfl, by decide +kernel, rfl, by decide +kernel, by decide +kernel⟩
theorem w2 {cf : Cfg} {P : Program} {w : World} {mg : Str → Option Value} {base : Heap} {k : Nat} {C : CallF} (m : Mg mg) (cs : CallsC cf P w mg base k C tab) (fa : Addr) (cdv : Value) (A : Around) (outer : List Env) (s : Shared) (H : Hp) (E : XK) (hr : Room k (A.deeper (envOfC "need_octets" (defScope (top 8)) s.heap.objs.size fa cdv))) :
    PSs (cxOf (L2.CX P w) P w cf.K mg base ["octets", "one"] "need_octets" (defScope (top 8)) fa cdv A outer s H E) (defBody (top 8)) (tS cf (fun c d _ H => E c d H) (b2 C)) := by
  have tk : Takes (cxOf (L2.CX P w) P w cf.K mg base ["octets", "one"] "need_octets" (defScope (top 8)) fa cdv A outer s H E) (fun c d _ H => E c d H) := takes_of rfl rfl rfl rfl
  have hp := passes_of (X := cxOf (L2.CX P w) P w cf.K mg base ["octets", "one"] "need_octets" (defScope (top 8)) fa cdv A outer s H E) rfl
  have nd := sc2.nd
  have hu := hr.units
  exact (ss_cons (s_if (L2.PW.pt (t_or (t_not (t_val (x_callC cs (f := 1) (by rfl) rfl tk hr (by rfl) (xa_cons (x_var (i := 0) (by rfl) (by first | exact .inl rfl | exact .inr (.inl rfl) | exact .inr (.inr rfl)) (by decide) (by decide)) (xa_cons x_int (xa_cons (x_gi (by rfl) m.i_OCTETS (by decide)) xa_nil (by rfl)) (by rfl)) (by rfl)) (by decide) (by rfl) (by rfl)) (by intro _; rfl))) (t_or1 (t_not (t_val (x_cut (x_callB (all_ok rfl rfl) (by rfl) m.f_all (by decide +kernel) (xa_cons (x_lc rfl nd (x_srcVal rfl (x_var (i := 0) (by rfl) (by first | exact .inl rfl | exact .inr (.inl rfl) | exact .inr (.inr rfl)) (by decide) (by decide))) (blkOk_by (own := [("one", 1)]) (by rfl)) (by decide) (fun _ _ _ _ _ => (g_name nd (by rfl) (by first | exact .inl rfl | exact .inr rfl) (by first | exact .inl rfl | exact .inr rfl))) (fun _ _ _ _ _ => c_none) (fun _ _ _ _ _ => (x_callC cs (f := 0) (by rfl) rfl takesW0 hr (by rfl) (xa_cons (x_var (i := 1) (by rfl) (by first | exact .inl rfl | exact .inr (.inl rfl) | exact .inr (.inr rfl)) (by decide) (by decide)) (xa_cons x_int (xa_cons x_int xa_nil (by rfl)) (by rfl)) (by rfl)) (by decide) (by rfl) (by rfl))) (by intro _; rfl)) xa_nil (by rfl)) (by decide) (by decide) (by rfl) (by rfl))) (by intro _; rfl))))))
    (ss_cons s_no
    ss_nil)
    ss_nil)
    ss_nil)
/-! check_in -/
def b3 (C : CallF) : REnv → SHeap → FR := (rSeq (rFor (iVal (rVar 1)) (.nm 2) (rSeq (rSet 0 (rOp (opBin .Mod) (rOp (opBin .Add) (rOp (opBin .Add) (rOp (opBin .Mult) (rVar 0) (rCst (.int 1000003))) (rVar 2)) (rCst (.int 1))) (rCst (.int 4294967291)))) (fun ρ h => .nx ρ h))) (rSeq (rRet (rVar 0)) (fun ρ h => .nx ρ h)))
theorem sc3 : FnScope ["check", "octets", "octet"] ["check", "octets"] (defScope (top 13)) := ⟨rfl, rfl, rfl, by decide +kernel, rfl, by decide +kernel, by decide +kernel⟩
theorem w3 {cf : Cfg} {P : Program} {w : World} {mg : Str → Option Value} {base : Heap} {k : Nat} {C : CallF} (m : Mg mg) (cs : CallsC cf P w mg base k C tab) (fa : Addr) (cdv : Value) (A : Around) (outer : List Env) (s : Shared) (H : Hp) (E : XK) (hr : Room k (A.deeper (envOfC "check_in" (defScope (top 13)) s.heap.objs.size fa cdv))) :
    PSs (cxOf (L2.CX P w) P w cf.K mg base ["check", "octets", "octet"] "check_in" (defScope (top 13)) fa cdv A outer s H E) (defBody (top 13)) (tS cf (fun c d _ H => E c d H) (b3 C)) := by
  have tk : Takes (cxOf (L2.CX P w) P w cf.K mg base ["check", "octets", "octet"] "check_in" (defScope (top 13)) fa cdv A outer s H E) (fun c d _ H => E c d H) := takes_of rfl rfl rfl rfl
  have hp := passes_of (X := cxOf (L2.CX P w) P w cf.K mg base ["check", "octets", "octet"] "check_in" (defScope (top 13)) fa cdv A outer s H E) rfl
  have nd := sc3.nd
  have hu := hr.units
  exact (ss_cons (s_for hp rfl (x_srcVal rfl (x_var (i := 1) (by rfl) (by first | exact .inl rfl | exact .inr (.inl rfl) | exact .inr (.inr rfl)) (by decide) (by decide))) (g_name nd (by rfl) (by first | exact .inl rfl | exact .inr rfl) (by first | exact .inl rfl | exact .inr rfl))
    (ss_cons (s_set nd (by rfl) (by first | exact .inl rfl | exact .inr rfl) (x_bin rfl (x_bin rfl (x_bin rfl (x_bin rfl (x_var (i := 0) (by rfl) (by first | exact .inl rfl | exact .inr (.inl rfl) | exact .inr (.inr rfl)) (by decide) (by decide)) (x_gi (by rfl) m.i_STEP (by decide))) (x_var (i := 2) (by rfl) (by first | exact .inl rfl | exact .inr (.inl rfl) | exact .inr (.inr rfl)) (by decide) (by decide))) x_int) (x_gi (by rfl) m.i_PRIME (by decide))) (by rfl) (.inl rfl))
    ss_nil) (by intro _; rfl))
    (ss_cons (s_ret (x_var (i := 0) (by rfl) (by first | exact .inl rfl | exact .inr (.inl rfl) | exact .inr (.inr rfl)) (by decide) (by decide)))
    ss_nil))
/-! power_of -/
def b4 (C : CallF) : REnv → SHeap → FR := (rSeq (par2 1 2 (evCons (rCst (.int 1)) (evCons (rCst (.int 1000003)) (fun _ h => .ok [] h)))) (rSeq (rWh (rOp (cmpF .Gt) (rVar 0) (rCst (.int 0))) (rSeq (par3 1 2 0 (evCons (rIfe (rOp (cmpF .Eq) (rOp (opBin .Mod) (rVar 0) (rCst (.int 2))) (rCst (.int 1))) (rOp (opBin .Mod) (rOp (opBin .Mult) (rVar 1) (rVar 2)) (rCst (.int 4294967291))) (rVar 1)) (evCons (rOp (opBin .Mod) (rOp (opBin .Mult) (rVar 2) (rVar 2)) (rCst (.int 4294967291))) (evCons (rOp (opBin .FloorDiv) (rVar 0) (rCst (.int 2))) (fun _ h => .ok [] h))))) (fun ρ h => .nx ρ h))) (rSeq (rRet (rVar 1)) (fun ρ h => .nx ρ h))))
theorem sc4 : FnScope ["many", "found", "own"] ["many"] (defScope (top 14)) := ⟨rfl, rfl, rfl, by decide +kernel, rfl, by decide +kernel, by decide +kernel⟩
theorem w4 {cf : Cfg} {P : Program} {w : World} {mg : Str → Option Value} {base : Heap} {k : Nat} {C : CallF} (m : Mg mg) (cs : CallsC cf P w mg base k C tab) (fa : Addr) (cdv : Value) (A : Around) (outer : List Env) (s : Shared) (H : Hp) (E : XK) (hr : Room k (A.deeper (envOfC "power_of" (defScope (top 14)) s.heap.objs.size fa cdv))) :
    PSs (cxOf (L2.CX P w) P w cf.K mg base ["many", "found", "own"] "power_of" (defScope (top 14)) fa cdv A outer s H E) (defBody (top 14)) (tS cf (fun c d _ H => E c d H) (b4 C)) := by
  have tk : Takes (cxOf (L2.CX P w) P w cf.K mg base ["many", "found", "own"] "power_of" (defScope (top 14)) fa cdv A outer s H E) (fun c d _ H => E c d H) := takes_of rfl rfl rfl rfl
  have hp := passes_of (X := cxOf (L2.CX P w) P w cf.K mg base ["many", "found", "own"] "power_of" (defScope (top 14)) fa cdv A outer s H E) rfl
  have nd := sc4.nd
  have hu := hr.units
  exact (ss_cons (s_par2 (i := 1) (j := 2) rfl nd (by rfl) (by rfl) (by decide) rfl rfl (xa_cons x_int (xa_cons (x_gi (by rfl) m.i_STEP (by decide)) xa_nil (by rfl)) (by rfl)) (by rfl) (by rfl))
    (ss_cons (s_while hp (x_cmpT rfl hu (nobehind _ (by decide) (by decide)) (x_var (i := 0) (by rfl) (by first | exact .inl rfl | exact .inr (.inl rfl) | exact .inr (.inr rfl)) (by decide) (by decide)) x_int)
    (ss_cons (s_par3 (i := 1) (j := 2) (l := 0) rfl nd (by rfl) (by rfl) (by rfl) (by decide) (by decide) (by decide) rfl rfl rfl (xa_cons (x_ife (x_cmpT rfl hu (nobehind _ (by decide) (by decide)) (x_bin rfl (x_var (i := 0) (by rfl) (by first | exact .inl rfl | exact .inr (.inl rfl) | exact .inr (.inr rfl)) (by decide) (by decide)) x_int) x_int) (x_bin rfl (x_bin rfl (x_var (i := 1) (by rfl) (by first | exact .inl rfl | exact .inr (.inl rfl) | exact .inr (.inr rfl)) (by decide) (by decide)) (x_var (i := 2) (by rfl) (by first | exact .inl rfl | exact .inr (.inl rfl) | exact .inr (.inr rfl)) (by decide) (by decide))) (x_gi (by rfl) m.i_PRIME (by decide))) (x_var (i := 1) (by rfl) (by first | exact .inl rfl | exact .inr (.inl rfl) | exact .inr (.inr rfl)) (by decide) (by decide))) (xa_cons (x_bin rfl (x_bin rfl (x_var (i := 2) (by rfl) (by first | exact .inl rfl | exact .inr (.inl rfl) | exact .inr (.inr rfl)) (by decide) (by decide)) (x_var (i := 2) (by rfl) (by first | exact .inl rfl | exact .inr (.inl rfl) | exact .inr (.inr rfl)) (by decide) (by decide))) (x_gi (by rfl) m.i_PRIME (by decide))) (xa_cons (x_bin rfl (x_var (i := 0) (by rfl) (by first | exact .inl rfl | exact .inr (.inl rfl) | exact .inr (.inr rfl)) (by decide) (by decide)) x_int) xa_nil (by rfl)) (by rfl)) (by rfl)) (by rfl) (by rfl))
    ss_nil))
    (ss_cons (s_ret (x_var (i := 1) (by rfl) (by first | exact .inl rfl | exact .inr (.inl rfl) | exact .inr (.inr rfl)) (by decide) (by decide)))
    ss_nil)))
/-! check_of -/
def b5 (C : CallF) : REnv → SHeap → FR := (rSeq (rExpr (rCall C 2 1 (evCons (rVar 0) (fun _ h => .ok [] h)))) (rSeq (rRet (rCall C 3 2 (evCons (rCst (.int 7)) (evCons (rVar 0) (fun _ h => .ok [] h))))) (fun ρ h => .nx ρ h)))
theorem sc5 : FnScope ["octets"] ["octets"] (defScope (top 15)) := ⟨rfl, rfl, rfl, by decide +kernel, rfl, by decide +kernel, by decide +kernel⟩
theorem w5 {cf : Cfg} {P : Program} {w : World} {mg : Str → Option Value} {base : Heap} {k : Nat} {C : CallF} (m : Mg mg) (cs : CallsC cf P w mg base k C tab) (fa : Addr) (cdv : Value) (A : Around) (outer : List Env) (s : Shared) (H : Hp) (E : XK) (hr : Room k (A.deeper (envOfC "check_of" (defScope (top 15)) s.heap.objs.size fa cdv))) :
    PSs (cxOf (L2.CX P w) P w cf.K mg base ["octets"] "check_of" (defScope (top 15)) fa cdv A outer s H E) (defBody (top 15)) (tS cf (fun c d _ H => E c d H) (b5 C)) := by
  have tk : Takes (cxOf (L2.CX P w) P w cf.K mg base ["octets"] "check_of" (defScope (top 15)) fa cdv A outer s H E) (fun c d _ H => E c d H) := takes_of rfl rfl rfl rfl
  have hp := passes_of (X := cxOf (L2.CX P w) P w cf.K mg base ["octets"] "check_of" (defScope (top 15)) fa cdv A outer s H E) rfl
  have nd := sc5.nd
  have hu := hr.units
  exact (ss_cons (s_expr (x_callC cs (f := 2) (by rfl) rfl tk hr (by rfl) (xa_cons (x_var (i := 0) (by rfl) (by first | exact .inl rfl | exact .inr (.inl rfl) | exact .inr (.inr rfl)) (by decide) (by decide)) xa_nil (by rfl)) (by decide) (by rfl) (by rfl)) (by rfl))
    (ss_cons (s_ret (x_callC cs (f := 3) (by rfl) rfl tk hr (by rfl) (xa_cons (x_gi (by rfl) m.i_BEGIN (by decide)) (xa_cons (x_var (i := 0) (by rfl) (by first | exact .inl rfl | exact .inr (.inl rfl) | exact .inr (.inr rfl)) (by decide) (by decide)) xa_nil (by rfl)) (by rfl)) (by decide) (by rfl) (by rfl)))
    ss_nil))
/-! need_check -/
def b6 (C : CallF) : REnv → SHeap → FR := (rSeq (rIf (rNot (rCall C 0 3 (evCons (rVar 0) (evCons (rCst (.int 0)) (evCons (rOp (opBin .Sub) (rCst (.int 4294967291)) (rCst (.int 1))) (fun _ h => .ok [] h)))))) (rSeq (fun _ _ => .no) (fun ρ h => .nx ρ h)) (fun ρ h => .nx ρ h)) (fun ρ h => .nx ρ h))
theorem sc6 : FnScope ["check"] ["check"] (defScope (top 16)) := ⟨rfl, rfl, rfl, by decide +kernel, rfl, by decide +kernel, by decide +kernel⟩
theorem w6 {cf : Cfg} {P : Program} {w : World} {mg : Str → Option Value} {base : Heap} {k : Nat} {C : CallF} (m : Mg mg) (cs : CallsC cf P w mg base k C tab) (fa : Addr) (cdv : Value) (A : Around) (outer : List Env) (s : Shared) (H : Hp) (E : XK) (hr : Room k (A.deeper (envOfC "need_check" (defScope (top 16)) s.heap.objs.size fa cdv))) :
    PSs (cxOf (L2.CX P w) P w cf.K mg base ["check"] "need_check" (defScope (top 16)) fa cdv A outer s H E) (defBody (top 16)) (tS cf (fun c d _ H => E c d H) (b6 C)) := by
  have tk : Takes (cxOf (L2.CX P w) P w cf.K mg base ["check"] "need_check" (defScope (top 16)) fa cdv A outer s H E) (fun c d _ H => E c d H) := takes_of rfl rfl rfl rfl
  have hp := passes_of (X := cxOf (L2.CX P w) P w cf.K mg base ["check"] "need_check" (defScope (top 16)) fa cdv A outer s H E) rfl
  have nd := sc6.nd
  have hu := hr.units
  exact (ss_cons (s_if (t_not (t_val (x_callC cs (f := 0) (by rfl) rfl tk hr (by rfl) (xa_cons (x_var (i := 0) (by rfl) (by first | exact .inl rfl | exact .inr (.inl rfl) | exact .inr (.inr rfl)) (by decide) (by decide)) (xa_cons x_int (xa_cons (x_bin rfl (x_gi (by rfl) m.i_PRIME (by decide)) x_int) xa_nil (by rfl)) (by rfl)) (by rfl)) (by decide) (by rfl) (by rfl)) (by intro _; rfl)))
    (ss_cons s_no
    ss_nil)
    ss_nil)
    ss_nil)
/-! check_on -/
def b7 (C : CallF) : REnv → SHeap → FR := (rSeq (rExpr (rCall C 6 1 (evCons (rVar 0) (fun _ h => .ok [] h)))) (rSeq (rExpr (rCall C 2 1 (evCons (rVar 1) (fun _ h => .ok [] h)))) (rSeq (rRet (rCall C 3 2 (evCons (rVar 0) (evCons (rVar 1) (fun _ h => .ok [] h))))) (fun ρ h => .nx ρ h))))
theorem sc7 : FnScope ["check", "octets"] ["check", "octets"] (defScope (top 17)) := ⟨rfl, rfl, rfl, by decide +kernel, rfl, by decide +kernel, by decide +kernel⟩
theorem w7 {cf : Cfg} {P : Program} {w : World} {mg : Str → Option Value} {base : Heap} {k : Nat} {C : CallF} (m : Mg mg) (cs : CallsC cf P w mg base k C tab) (fa : Addr) (cdv : Value) (A : Around) (outer : List Env) (s : Shared) (H : Hp) (E : XK) (hr : Room k (A.deeper (envOfC "check_on" (defScope (top 17)) s.heap.objs.size fa cdv))) :
    PSs (cxOf (L2.CX P w) P w cf.K mg base ["check", "octets"] "check_on" (defScope (top 17)) fa cdv A outer s H E) (defBody (top 17)) (tS cf (fun c d _ H => E c d H) (b7 C)) := by
  have tk : Takes (cxOf (L2.CX P w) P w cf.K mg base ["check", "octets"] "check_on" (defScope (top 17)) fa cdv A outer s H E) (fun c d _ H => E c d H) := takes_of rfl rfl rfl rfl
  have hp := passes_of (X := cxOf (L2.CX P w) P w cf.K mg base ["check", "octets"] "check_on" (defScope (top 17)) fa cdv A outer s H E) rfl
  have nd := sc7.nd
  have hu := hr.units
  exact (ss_cons (s_expr (x_callC cs (f := 6) (by rfl) rfl tk hr (by rfl) (xa_cons (x_var (i := 0) (by rfl) (by first | exact .inl rfl | exact .inr (.inl rfl) | exact .inr (.inr rfl)) (by decide) (by decide)) xa_nil (by rfl)) (by decide) (by rfl) (by rfl)) (by rfl))
    (ss_cons (s_expr (x_callC cs (f := 2) (by rfl) rfl tk hr (by rfl) (xa_cons (x_var (i := 1) (by rfl) (by first | exact .inl rfl | exact .inr (.inl rfl) | exact .inr (.inr rfl)) (by decide) (by decide)) xa_nil (by rfl)) (by decide) (by rfl) (by rfl)) (by rfl))
    (ss_cons (s_ret (x_callC cs (f := 3) (by rfl) rfl tk hr (by rfl) (xa_cons (x_var (i := 0) (by rfl) (by first | exact .inl rfl | exact .inr (.inl rfl) | exact .inr (.inr rfl)) (by decide) (by decide)) (xa_cons (x_var (i := 1) (by rfl) (by first | exact .inl rfl | exact .inr (.inl rfl) | exact .inr (.inr rfl)) (by decide) (by decide)) xa_nil (by rfl)) (by rfl)) (by decide) (by rfl) (by rfl)))
    ss_nil)))
/-! check_joined -/
def b8 (C : CallF) : REnv → SHeap → FR := (rSeq (rExpr (rCall C 6 1 (evCons (rVar 0) (fun _ h => .ok [] h)))) (rSeq (rExpr (rCall C 6 1 (evCons (rVar 1) (fun _ h => .ok [] h)))) (rSeq (rIf (rNot (rCall C 0 3 (evCons (rVar 2) (evCons (rCst (.int 0)) (evCons (rOp (opBin .Pow) (rCst (.int 10)) (rCst (.int 18))) (fun _ h => .ok [] h)))))) (rSeq (fun _ _ => .no) (fun ρ h => .nx ρ h)) (fun ρ h => .nx ρ h)) (rSeq (rRet (rOp (opBin .Mod) (rOp (opBin .Add) (rVar 1) (rOp (opBin .Mult) (rOp (opBin .Sub) (rVar 0) (rCst (.int 7))) (rCall C 4 1 (evCons (rVar 2) (fun _ h => .ok [] h))))) (rCst (.int 4294967291)))) (fun ρ h => .nx ρ h)))))
theorem sc8 : FnScope ["one", "other", "many"] ["one", "other", "many"] (defScope (top 18)) := ⟨rfl, rfl, rfl, by decide +kernel, rfl, by decide +kernel, by decide +kernel⟩
theorem w8 {cf : Cfg} {P : Program} {w : World} {mg : Str → Option Value} {base : Heap} {k : Nat} {C : CallF} (m : Mg mg) (cs : CallsC cf P w mg base k C tab) (fa : Addr) (cdv : Value) (A : Around) (outer : List Env) (s : Shared) (H : Hp) (E : XK) (hr : Room k (A.deeper (envOfC "check_joined" (defScope (top 18)) s.heap.objs.size fa cdv))) :
    PSs (cxOf (L2.CX P w) P w cf.K mg base ["one", "other", "many"] "check_joined" (defScope (top 18)) fa cdv A outer s H E) (defBody (top 18)) (tS cf (fun c d _ H => E c d H) (b8 C)) := by
  have tk : Takes (cxOf (L2.CX P w) P w cf.K mg base ["one", "other", "many"] "check_joined" (defScope (top 18)) fa cdv A outer s H E) (fun c d _ H => E c d H) := takes_of rfl rfl rfl rfl
  have hp := passes_of (X := cxOf (L2.CX P w) P w cf.K mg base ["one", "other", "many"] "check_joined" (defScope (top 18)) fa cdv A outer s H E) rfl
  have nd := sc8.nd
  have hu := hr.units
  exact (ss_cons (s_expr (x_callC cs (f := 6) (by rfl) rfl tk hr (by rfl) (xa_cons (x_var (i := 0) (by rfl) (by first | exact .inl rfl | exact .inr (.inl rfl) | exact .inr (.inr rfl)) (by decide) (by decide)) xa_nil (by rfl)) (by decide) (by rfl) (by rfl)) (by rfl))
    (ss_cons (s_expr (x_callC cs (f := 6) (by rfl) rfl tk hr (by rfl) (xa_cons (x_var (i := 1) (by rfl) (by first | exact .inl rfl | exact .inr (.inl rfl) | exact .inr (.inr rfl)) (by decide) (by decide)) xa_nil (by rfl)) (by decide) (by rfl) (by rfl)) (by rfl))
    (ss_cons (s_if (t_not (t_val (x_callC cs (f := 0) (by rfl) rfl tk hr (by rfl) (xa_cons (x_var (i := 2) (by rfl) (by first | exact .inl rfl | exact .inr (.inl rfl) | exact .inr (.inr rfl)) (by decide) (by decide)) (xa_cons x_int (xa_cons (x_bin rfl x_int x_int) xa_nil (by rfl)) (by rfl)) (by rfl)) (by decide) (by rfl) (by rfl)) (by intro _; rfl)))
    (ss_cons s_no
    ss_nil)
    ss_nil)
    (ss_cons (s_ret (x_bin rfl (x_bin rfl (x_var (i := 1) (by rfl) (by first | exact .inl rfl | exact .inr (.inl rfl) | exact .inr (.inr rfl)) (by decide) (by decide)) (x_bin rfl (x_bin rfl (x_var (i := 0) (by rfl) (by first | exact .inl rfl | exact .inr (.inl rfl) | exact .inr (.inr rfl)) (by decide) (by decide)) (x_gi (by rfl) m.i_BEGIN (by decide))) (x_callC cs (f := 4) (by rfl) rfl tk hr (by rfl) (xa_cons (x_var (i := 2) (by rfl) (by first | exact .inl rfl | exact .inr (.inl rfl) | exact .inr (.inr rfl)) (by decide) (by decide)) xa_nil (by rfl)) (by decide) (by rfl) (by rfl)))) (x_gi (by rfl) m.i_PRIME (by decide))))
    ss_nil))))
/-! _law_cup -/
def b9 (C : CallF) : REnv → SHeap → FR := (rSeq (rSet 1 (rCut (rBi fAbs (evCons (rCut (rOp subF (rOp (opBin .Add) (rBi fList (evCons (rVar 0) (fun _ h => .ok [] h))) (rLst (evCons (rCst (.int 0)) (fun _ h => .ok [] h)))) (rCst (.int 0)))) (fun _ h => .ok [] h))))) (rSeq (rRet (rLst (evCons (rIfe (rOp (cmpF .GtE) (rVar 1) (rOp (opBin .Pow) (rCst (.int 10)) (rCst (.int 18)))) (rOp (opBin .FloorDiv) (rVar 1) (rCst (.int 79))) (rCst (.int 0))) (evCons (rOp (opBin .Add) (rOp (opBin .Mod) (rBi fInt (evCons (rOp (opBin .Add) (rOp (opBin .Mult) (rVar 1) (rCst (.int 311))) (rCst (.int 4019))) (fun _ h => .ok [] h))) (rCst (.int 2077507117))) (rCst (.int 157))) (fun _ h => .ok [] h))))) (fun ρ h => .nx ρ h)))
theorem sc9 : FnScope ["script", "cell"] ["script"] (defScope (top 20)) := ⟨rfl, rfl, rfl, by decide +kernel, rfl, by decide +kernel, by decide +kernel⟩
theorem w9 {cf : Cfg} {P : Program} {w : World} {mg : Str → Option Value} {base : Heap} {k : Nat} {C : CallF} (m : Mg mg) (cs : CallsC cf P w mg base k C tab) (fa : Addr) (cdv : Value) (A : Around) (outer : List Env) (s : Shared) (H : Hp) (E : XK) (hr : Room k (A.deeper (envOfC "_law_cup" (defScope (top 20)) s.heap.objs.size fa cdv))) :
    PSs (cxOf (L2.CX P w) P w cf.K mg base ["script", "cell"] "_law_cup" (defScope (top 20)) fa cdv A outer s H E) (defBody (top 20)) (tS cf (fun c d _ H => E c d H) (b9 C)) := by
  have tk : Takes (cxOf (L2.CX P w) P w cf.K mg base ["script", "cell"] "_law_cup" (defScope (top 20)) fa cdv A outer s H E) (fun c d _ H => E c d H) := takes_of rfl rfl rfl rfl
  have hp := passes_of (X := cxOf (L2.CX P w) P w cf.K mg base ["script", "cell"] "_law_cup" (defScope (top 20)) fa cdv A outer s H E) rfl
  have nd := sc9.nd
  have hu := hr.units
  exact (ss_cons (s_set nd (by rfl) (by first | exact .inl rfl | exact .inr rfl) (x_cut (x_callB abs_ok (by rfl) m.f_abs (by decide +kernel) (xa_cons (x_cut (x_sub rfl (by intro _ _; rfl) (x_bin rfl (x_callTy (list_ok rfl) (by rfl) m.f_list (by decide +kernel) (xa_cons (x_var (i := 0) (by rfl) (by first | exact .inl rfl | exact .inr (.inl rfl) | exact .inr (.inr rfl)) (by decide) (by decide)) xa_nil (by rfl)) (by decide) (by decide) (by rfl) (by rfl)) (x_lst (xa_cons x_int xa_nil (by rfl)))) x_int)) xa_nil (by rfl)) (by decide) (by decide) (by rfl) (by rfl))) (by rfl) (.inl rfl))
    (ss_cons (s_ret (x_lst (xa_cons (x_ife (x_cmpT rfl hu (nobehind _ (by decide) (by decide)) (x_var (i := 1) (by rfl) (by first | exact .inl rfl | exact .inr (.inl rfl) | exact .inr (.inr rfl)) (by decide) (by decide)) (x_bin rfl x_int x_int)) (x_bin rfl (x_var (i := 1) (by rfl) (by first | exact .inl rfl | exact .inr (.inl rfl) | exact .inr (.inr rfl)) (by decide) (by decide)) x_int) x_int) (xa_cons (x_bin rfl (x_bin rfl (x_callTy int_ok (by rfl) m.f_int (by decide +kernel) (xa_cons (x_bin rfl (x_bin rfl (x_var (i := 1) (by rfl) (by first | exact .inl rfl | exact .inr (.inl rfl) | exact .inr (.inr rfl)) (by decide) (by decide)) x_int) x_int) xa_nil (by rfl)) (by decide) (by decide) (by rfl) (by rfl)) x_int) x_int) xa_nil (by rfl)) (by rfl))))
    ss_nil))
/-! _law_roll -/
def b10 (C : CallF) : REnv → SHeap → FR := (rSeq (rIf (rOp (cmpF .Gt) (rOp subF (rVar 0) (rCst (.int 0))) (rCst (.int 0))) (rSeq (rSet 2 (rOp (opBin .Mod) (rBi fInt (evCons (rOp subF (rVar 0) (rCst (.int 0))) (fun _ h => .ok [] h))) (rVar 1))) (rSeq (rSetSub (rVar 0) (rCst (.int 0)) (rOp (opBin .FloorDiv) (rOp subF (rVar 0) (rCst (.int 0))) (rVar 1))) (rSeq (rRet (rVar 2)) (fun ρ h => .nx ρ h)))) (fun ρ h => .nx ρ h)) (rSeq (rSetSub (rVar 0) (rCst (.int 1)) (rOp (opBin .Mod) (rBi fInt (evCons (rOp (opBin .Add) (rOp (opBin .Mult) (rOp subF (rVar 0) (rCst (.int 1))) (rCst (.int 30881))) (rCst (.int 7877))) (fun _ h => .ok [] h))) (rCst (.int 2147483399)))) (rSeq (rSet 3 (rOp (opBin .Mod) (rBi fInt (evCons (rOp (opBin .Mult) (rOp subF (rVar 0) (rCst (.int 1))) (rOp (opBin .Add) (rOp subF (rVar 0) (rCst (.int 1))) (rCst (.int 229)))) (fun _ h => .ok [] h))) (rCst (.int 2147483563)))) (rSeq (rRet (rOp (opBin .Mod) (rBi fInt (evCons (rOp (opBin .FloorDiv) (rVar 3) (rCst (.int 811))) (fun _ h => .ok [] h))) (rVar 1))) (fun ρ h => .nx ρ h)))))
theorem sc10 : FnScope ["cup", "many", "found", "deep"] ["cup", "many"] (defScope (top 21)) := ⟨rfl, rfl, rfl, by decide +kernel, rfl, by decide +kernel, by decide +kernel⟩
theorem w10 {cf : Cfg} {P : Program} {w : World} {mg : Str → Option Value} {base : Heap} {k : Nat} {C : CallF} (m : Mg mg) (cs : CallsC cf P w mg base k C tab) (fa : Addr) (cdv : Value) (A : Around) (outer : List Env) (s : Shared) (H : Hp) (E : XK) (hr : Room k (A.deeper (envOfC "_law_roll" (defScope (top 21)) s.heap.objs.size fa cdv))) :
    PSs (cxOf (L2.CX P w) P w cf.K mg base ["cup", "many", "found", "deep"] "_law_roll" (defScope (top 21)) fa cdv A outer s H E) (defBody (top 21)) (tS cf (fun c d _ H => E c d H) (b10 C)) := by
  have tk : Takes (cxOf (L2.CX P w) P w cf.K mg base ["cup", "many", "found", "deep"] "_law_roll" (defScope (top 21)) fa cdv A outer s H E) (fun c d _ H => E c d H) := takes_of rfl rfl rfl rfl
  have hp := passes_of (X := cxOf (L2.CX P w) P w cf.K mg base ["cup", "many", "found", "deep"] "_law_roll" (defScope (top 21)) fa cdv A outer s H E) rfl
  have nd := sc10.nd
  have hu := hr.units
  exact (ss_cons (s_if (x_cmpT rfl hu (nobehind _ (by decide) (by decide)) (x_sub rfl (by intro _ _; rfl) (x_var (i := 0) (by rfl) (by first | exact .inl rfl | exact .inr (.inl rfl) | exact .inr (.inr rfl)) (by decide) (by decide)) x_int) x_int)
    (ss_cons (s_set nd (by rfl) (by first | exact .inl rfl | exact .inr rfl) (x_bin rfl (x_callTy int_ok (by rfl) m.f_int (by decide +kernel) (xa_cons (x_sub rfl (by intro _ _; rfl) (x_var (i := 0) (by rfl) (by first | exact .inl rfl | exact .inr (.inl rfl) | exact .inr (.inr rfl)) (by decide) (by decide)) x_int) xa_nil (by rfl)) (by decide) (by decide) (by rfl) (by rfl)) (x_var (i := 1) (by rfl) (by first | exact .inl rfl | exact .inr (.inl rfl) | exact .inr (.inr rfl)) (by decide) (by decide))) (by rfl) (.inl rfl))
    (ss_cons (s_setSub (x_bin rfl (x_sub rfl (by intro _ _; rfl) (x_var (i := 0) (by rfl) (by first | exact .inl rfl | exact .inr (.inl rfl) | exact .inr (.inr rfl)) (by decide) (by decide)) x_int) (x_var (i := 1) (by rfl) (by first | exact .inl rfl | exact .inr (.inl rfl) | exact .inr (.inr rfl)) (by decide) (by decide))) (x_var (i := 0) (by rfl) (by first | exact .inl rfl | exact .inr (.inl rfl) | exact .inr (.inr rfl)) (by decide) (by decide)) x_int (by rfl) (by rfl) (by rfl) (by intro _; rfl))
    (ss_cons (s_ret (x_var (i := 2) (by rfl) (by first | exact .inl rfl | exact .inr (.inl rfl) | exact .inr (.inr rfl)) (by decide) (by decide)))
    ss_nil)))
    ss_nil)
    (ss_cons (s_setSub (x_bin rfl (x_callTy int_ok (by rfl) m.f_int (by decide +kernel) (xa_cons (x_bin rfl (x_bin rfl (x_sub rfl (by intro _ _; rfl) (x_var (i := 0) (by rfl) (by first | exact .inl rfl | exact .inr (.inl rfl) | exact .inr (.inr rfl)) (by decide) (by decide)) x_int) x_int) x_int) xa_nil (by rfl)) (by decide) (by decide) (by rfl) (by rfl)) x_int) (x_var (i := 0) (by rfl) (by first | exact .inl rfl | exact .inr (.inl rfl) | exact .inr (.inr rfl)) (by decide) (by decide)) x_int (by rfl) (by rfl) (by rfl) (by intro _; rfl))
    (ss_cons (s_set nd (by rfl) (by first | exact .inl rfl | exact .inr rfl) (x_bin rfl (x_callTy int_ok (by rfl) m.f_int (by decide +kernel) (xa_cons (x_bin rfl (x_sub rfl (by intro _ _; rfl) (x_var (i := 0) (by rfl) (by first | exact .inl rfl | exact .inr (.inl rfl) | exact .inr (.inr rfl)) (by decide) (by decide)) x_int) (x_bin rfl (x_sub rfl (by intro _ _; rfl) (x_var (i := 0) (by rfl) (by first | exact .inl rfl | exact .inr (.inl rfl) | exact .inr (.inr rfl)) (by decide) (by decide)) x_int) x_int)) xa_nil (by rfl)) (by decide) (by decide) (by rfl) (by rfl)) x_int) (by rfl) (.inl rfl))
    (ss_cons (s_ret (x_bin rfl (x_callTy int_ok (by rfl) m.f_int (by decide +kernel) (xa_cons (x_bin rfl (x_var (i := 3) (by rfl) (by first | exact .inl rfl | exact .inr (.inl rfl) | exact .inr (.inr rfl)) (by decide) (by decide)) x_int) xa_nil (by rfl)) (by decide) (by decide) (by rfl) (by rfl)) (x_var (i := 1) (by rfl) (by first | exact .inl rfl | exact .inr (.inl rfl) | exact .inr (.inr rfl)) (by decide) (by decide))))
    ss_nil))))
/-! _law_same -/
def b11 (C : CallF) : REnv → SHeap → FR := (rSeq (rIf (rIsi1 .tup (rVar 1)) (rSeq (rIf (rOr (rNot (rIsi1 .tup (rVar 0))) (rOp (cmpF .NotEq) (rBi fLen (evCons (rVar 0) (fun _ h => .ok [] h))) (rBi fLen (evCons (rVar 1) (fun _ h => .ok [] h))))) (rSeq (rRet (rCst (.bool false))) (fun ρ h => .nx ρ h)) (fun ρ h => .nx ρ h)) (rSeq (rRet (rCut (rBi fAll (evCons (rLc (iRg rg1 (evCons (rBi fLen (evCons (rVar 1) (fun _ h => .ok [] h))) (fun _ h => .ok [] h))) (.nm 2) [2] none (rCall C 11 2 (evCons (rOp subF (rVar 0) (rVar 2)) (evCons (rOp subF (rVar 1) (rVar 2)) (fun _ h => .ok [] h))))) (fun _ h => .ok [] h))))) (fun ρ h => .nx ρ h))) (fun ρ h => .nx ρ h)) (rSeq (rIf (rOp (cmpF .Is) (rVar 1) (rCst .none)) (rSeq (rRet (rOp (cmpF .Is) (rVar 0) (rCst .none))) (fun ρ h => .nx ρ h)) (fun ρ h => .nx ρ h)) (rSeq (rIf (rIsi1 .bl (rVar 1)) (rSeq (rRet (rIfe (rVar 1) (rOp (cmpF .Is) (rVar 0) (rCst (.bool true))) (rOp (cmpF .Is) (rVar 0) (rCst (.bool false))))) (fun ρ h => .nx ρ h)) (fun ρ h => .nx ρ h)) (rSeq (rIf (rIsi1 .int (rVar 1)) (rSeq (rRet (rAnd (rIsi1 .int (rVar 0)) (rAnd (rNot (rIsi1 .bl (rVar 0))) (rOp (cmpF .Eq) (rBi fInt (evCons (rVar 0) (fun _ h => .ok [] h))) (rVar 1))))) (fun ρ h => .nx ρ h)) (fun ρ h => .nx ρ h)) (rSeq (rRet (rAnd (rIsi1 .str (rVar 0)) (rOp (cmpF .Eq) (rBi fStr (evCons (rVar 0) (fun _ h => .ok [] h))) (rVar 1)))) (fun ρ h => .nx ρ h))))))
theorem sc11 : FnScope ["told", "due", "at"] ["told", "due"] (defScope (top 22)) := ⟨rfl, rfl, rfl, by decide +kernel, rfl, by decide +kernel, by decide +kernel⟩
theorem w11 {cf : Cfg} {P : Program} {w : World} {mg : Str → Option Value} {base : Heap} {k : Nat} {C : CallF} (m : Mg mg) (cs : CallsC cf P w mg base k C tab) (fa : Addr) (cdv : Value) (A : Around) (outer : List Env) (s : Shared) (H : Hp) (E : XK) (hr : Room k (A.deeper (envOfC "_law_same" (defScope (top 22)) s.heap.objs.size fa cdv))) :
    PSs (cxOf (L2.CX P w) P w cf.K mg base ["told", "due", "at"] "_law_same" (defScope (top 22)) fa cdv A outer s H E) (defBody (top 22)) (tS cf (fun c d _ H => E c d H) (b11 C)) := by
  have tk : Takes (cxOf (L2.CX P w) P w cf.K mg base ["told", "due", "at"] "_law_same" (defScope (top 22)) fa cdv A outer s H E) (fun c d _ H => E c d H) := takes_of rfl rfl rfl rfl
  have hp := passes_of (X := cxOf (L2.CX P w) P w cf.K mg base ["told", "due", "at"] "_law_same" (defScope (top 22)) fa cdv A outer s H E) rfl
  have nd := sc11.nd
  have hu := hr.units
  exact (ss_cons (s_if (t_val (x_isi (T := .tup) rfl (by decide) (x_var (i := 1) (by rfl) (by first | exact .inl rfl | exact .inr (.inl rfl) | exact .inr (.inr rfl)) (by decide) (by decide)) (by rfl) m.f_isinstance (by rfl) m.f_tuple (by decide +kernel) (by decide) (by decide) (by rfl) (by rfl) (by rfl)) (by intro _; rfl))
    (ss_cons (s_if (L2.PW.pt (t_or (t_not (t_val (x_isi (T := .tup) rfl (by decide) (x_var (i := 0) (by rfl) (by first | exact .inl rfl | exact .inr (.inl rfl) | exact .inr (.inr rfl)) (by decide) (by decide)) (by rfl) m.f_isinstance (by rfl) m.f_tuple (by decide +kernel) (by decide) (by decide) (by rfl) (by rfl) (by rfl)) (by intro _; rfl))) (t_or1 (x_cmpT rfl hu (nobehind _ (by decide) (by decide)) (x_callB (len_ok rfl) (by rfl) m.f_len (by decide +kernel) (xa_cons (x_var (i := 0) (by rfl) (by first | exact .inl rfl | exact .inr (.inl rfl) | exact .inr (.inr rfl)) (by decide) (by decide)) xa_nil (by rfl)) (by decide) (by decide) (by rfl) (by rfl)) (x_callB (len_ok rfl) (by rfl) m.f_len (by decide +kernel) (xa_cons (x_var (i := 1) (by rfl) (by first | exact .inl rfl | exact .inr (.inl rfl) | exact .inr (.inr rfl)) (by decide) (by decide)) xa_nil (by rfl)) (by decide) (by decide) (by rfl) (by rfl))))))
    (ss_cons (s_ret x_bl)
    ss_nil)
    ss_nil)
    (ss_cons (s_ret (x_cut (x_callB (all_ok rfl rfl) (by rfl) m.f_all (by decide +kernel) (xa_cons (x_lc rfl nd (x_rg1 (by rfl) m.f_range (xa_cons (x_callB (len_ok rfl) (by rfl) m.f_len (by decide +kernel) (xa_cons (x_var (i := 1) (by rfl) (by first | exact .inl rfl | exact .inr (.inl rfl) | exact .inr (.inr rfl)) (by decide) (by decide)) xa_nil (by rfl)) (by decide) (by decide) (by rfl) (by rfl)) xa_nil (by rfl)) (by rfl)) (blkOk_by (own := [("at", 2)]) (by rfl)) (by decide) (fun _ _ _ _ _ => (g_name nd (by rfl) (by first | exact .inl rfl | exact .inr rfl) (by first | exact .inl rfl | exact .inr rfl))) (fun _ _ _ _ _ => c_none) (fun _ _ _ _ _ => (x_callC cs (f := 11) (by rfl) rfl takesW0 hr (by rfl) (xa_cons (x_sub rfl (by intro _ _; rfl) (x_var (i := 0) (by rfl) (by first | exact .inl rfl | exact .inr (.inl rfl) | exact .inr (.inr rfl)) (by decide) (by decide)) (x_var (i := 2) (by rfl) (by first | exact .inl rfl | exact .inr (.inl rfl) | exact .inr (.inr rfl)) (by decide) (by decide))) (xa_cons (x_sub rfl (by intro _ _; rfl) (x_var (i := 1) (by rfl) (by first | exact .inl rfl | exact .inr (.inl rfl) | exact .inr (.inr rfl)) (by decide) (by decide)) (x_var (i := 2) (by rfl) (by first | exact .inl rfl | exact .inr (.inl rfl) | exact .inr (.inr rfl)) (by decide) (by decide))) xa_nil (by rfl)) (by rfl)) (by decide) (by rfl) (by rfl))) (by intro _; rfl)) xa_nil (by rfl)) (by decide) (by decide) (by rfl) (by rfl))))
    ss_nil))
    ss_nil)
    (ss_cons (s_if (x_cmpT rfl hu (nobehind _ (by decide) (by decide)) (x_var (i := 1) (by rfl) (by first | exact .inl rfl | exact .inr (.inl rfl) | exact .inr (.inr rfl)) (by decide) (by decide)) x_non)
    (ss_cons (s_ret (x_cmpE rfl hu (nobehind _ (by decide) (by decide)) (x_var (i := 0) (by rfl) (by first | exact .inl rfl | exact .inr (.inl rfl) | exact .inr (.inr rfl)) (by decide) (by decide)) x_non))
    ss_nil)
    ss_nil)
    (ss_cons (s_if (t_val (x_isi (T := .bl) rfl (by decide) (x_var (i := 1) (by rfl) (by first | exact .inl rfl | exact .inr (.inl rfl) | exact .inr (.inr rfl)) (by decide) (by decide)) (by rfl) m.f_isinstance (by rfl) m.f_bool (by decide +kernel) (by decide) (by decide) (by rfl) (by rfl) (by rfl)) (by intro _; rfl))
    (ss_cons (s_ret (x_ife (t_val (x_var (i := 1) (by rfl) (by first | exact .inl rfl | exact .inr (.inl rfl) | exact .inr (.inr rfl)) (by decide) (by decide)) (by intro _; rfl)) (x_cmpE rfl hu (nobehind _ (by decide) (by decide)) (x_var (i := 0) (by rfl) (by first | exact .inl rfl | exact .inr (.inl rfl) | exact .inr (.inr rfl)) (by decide) (by decide)) x_bl) (x_cmpE rfl hu (nobehind _ (by decide) (by decide)) (x_var (i := 0) (by rfl) (by first | exact .inl rfl | exact .inr (.inl rfl) | exact .inr (.inr rfl)) (by decide) (by decide)) x_bl)))
    ss_nil)
    ss_nil)
    (ss_cons (s_if (t_val (x_isi (T := .int) rfl (by decide) (x_var (i := 1) (by rfl) (by first | exact .inl rfl | exact .inr (.inl rfl) | exact .inr (.inr rfl)) (by decide) (by decide)) (by rfl) m.f_isinstance (by rfl) m.f_int (by decide +kernel) (by decide) (by decide) (by rfl) (by rfl) (by rfl)) (by intro _; rfl))
    (ss_cons (s_ret (x_and (x_isi (T := .int) rfl (by decide) (x_var (i := 0) (by rfl) (by first | exact .inl rfl | exact .inr (.inl rfl) | exact .inr (.inr rfl)) (by decide) (by decide)) (by rfl) m.f_isinstance (by rfl) m.f_int (by decide +kernel) (by decide) (by decide) (by rfl) (by rfl) (by rfl)) (x_and (x_not (x_isi (T := .bl) rfl (by decide) (x_var (i := 0) (by rfl) (by first | exact .inl rfl | exact .inr (.inl rfl) | exact .inr (.inr rfl)) (by decide) (by decide)) (by rfl) m.f_isinstance (by rfl) m.f_bool (by decide +kernel) (by decide) (by decide) (by rfl) (by rfl) (by rfl))) (x_and1 (x_cmpE rfl hu (nobehind _ (by decide) (by decide)) (x_callTy int_ok (by rfl) m.f_int (by decide +kernel) (xa_cons (x_var (i := 0) (by rfl) (by first | exact .inl rfl | exact .inr (.inl rfl) | exact .inr (.inr rfl)) (by decide) (by decide)) xa_nil (by rfl)) (by decide) (by decide) (by rfl) (by rfl)) (x_var (i := 1) (by rfl) (by first | exact .inl rfl | exact .inr (.inl rfl) | exact .inr (.inr rfl)) (by decide) (by decide)))))))
    ss_nil)
    ss_nil)
    (ss_cons (s_ret (x_and (x_isi (T := .str) rfl (by decide) (x_var (i := 0) (by rfl) (by first | exact .inl rfl | exact .inr (.inl rfl) | exact .inr (.inr rfl)) (by decide) (by decide)) (by rfl) m.f_isinstance (by rfl) m.f_str (by decide +kernel) (by decide) (by decide) (by rfl) (by rfl) (by rfl)) (x_and1 (x_cmpE rfl hu (nobehind _ (by decide) (by decide)) (x_callTy str_ok (by rfl) m.f_str (by decide +kernel) (xa_cons (x_var (i := 0) (by rfl) (by first | exact .inl rfl | exact .inr (.inl rfl) | exact .inr (.inr rfl)) (by decide) (by decide)) xa_nil (by rfl)) (by decide) (by decide) (by rfl) (by rfl)) (x_var (i := 1) (by rfl) (by first | exact .inl rfl | exact .inr (.inl rfl) | exact .inr (.inr rfl)) (by decide) (by decide))))))
    ss_nil)))))
/-! _law_power -/
def b12 (C : CallF) : REnv → SHeap → FR := (rSeq (rUnp (.tp (.cons (.nm 1) (.cons (.nm 2) .nil))) (rTup (evCons (rCst (.int 1)) (evCons (rCst (.int 1000003)) (fun _ h => .ok [] h))))) (rSeq (rWh (rOp (cmpF .Gt) (rVar 0) (rCst (.int 0))) (rSeq (par3 1 2 0 (evCons (rIfe (rOp (cmpF .Eq) (rOp (opBin .Mod) (rBi fInt (evCons (rVar 0) (fun _ h => .ok [] h))) (rCst (.int 2))) (rCst (.int 1))) (rOp (opBin .Mod) (rBi fInt (evCons (rOp (opBin .Mult) (rVar 1) (rVar 2)) (fun _ h => .ok [] h))) (rCst (.int 4294967291))) (rVar 1)) (evCons (rOp (opBin .Mod) (rBi fInt (evCons (rOp (opBin .Mult) (rVar 2) (rVar 2)) (fun _ h => .ok [] h))) (rCst (.int 4294967291))) (evCons (rOp (opBin .FloorDiv) (rVar 0) (rCst (.int 2))) (fun _ h => .ok [] h))))) (fun ρ h => .nx ρ h))) (rSeq (rRet (rVar 1)) (fun ρ h => .nx ρ h))))
theorem sc12 : FnScope ["many", "found", "own"] ["many"] (defScope (top 23)) := ⟨rfl, rfl, rfl, by decide +kernel, rfl, by decide +kernel, by decide +kernel⟩
theorem w12 {cf : Cfg} {P : Program} {w : World} {mg : Str → Option Value} {base : Heap} {k : Nat} {C : CallF} (m : Mg mg) (cs : CallsC cf P w mg base k C tab) (fa : Addr) (cdv : Value) (A : Around) (outer : List Env) (s : Shared) (H : Hp) (E : XK) (hr : Room k (A.deeper (envOfC "_law_power" (defScope (top 23)) s.heap.objs.size fa cdv))) :
    PSs (cxOf (L2.CX P w) P w cf.K mg base ["many", "found", "own"] "_law_power" (defScope (top 23)) fa cdv A outer s H E) (defBody (top 23)) (tS cf (fun c d _ H => E c d H) (b12 C)) := by
  have tk : Takes (cxOf (L2.CX P w) P w cf.K mg base ["many", "found", "own"] "_law_power" (defScope (top 23)) fa cdv A outer s H E) (fun c d _ H => E c d H) := takes_of rfl rfl rfl rfl
  have hp := passes_of (X := cxOf (L2.CX P w) P w cf.K mg base ["many", "found", "own"] "_law_power" (defScope (top 23)) fa cdv A outer s H E) rfl
  have nd := sc12.nd
  have hu := hr.units
  exact (ss_cons (s_unp (x_tup (xa_cons x_int (xa_cons x_int xa_nil (by rfl)) (by rfl))) (g_tup rfl rfl (g_cons (g_name nd (by rfl) (by first | exact .inl rfl | exact .inr rfl) (by first | exact .inl rfl | exact .inr rfl)) (g_cons (g_name nd (by rfl) (by first | exact .inl rfl | exact .inr rfl) (by first | exact .inl rfl | exact .inr rfl)) g_nil (by rfl)) (by rfl)) (by rfl) (by rfl)) (by rfl) (by rfl) (by rfl))
    (ss_cons (s_while hp (x_cmpT rfl hu (nobehind _ (by decide) (by decide)) (x_var (i := 0) (by rfl) (by first | exact .inl rfl | exact .inr (.inl rfl) | exact .inr (.inr rfl)) (by decide) (by decide)) x_int)
    (ss_cons (s_par3 (i := 1) (j := 2) (l := 0) rfl nd (by rfl) (by rfl) (by rfl) (by decide) (by decide) (by decide) rfl rfl rfl (xa_cons (x_ife (x_cmpT rfl hu (nobehind _ (by decide) (by decide)) (x_bin rfl (x_callTy int_ok (by rfl) m.f_int (by decide +kernel) (xa_cons (x_var (i := 0) (by rfl) (by first | exact .inl rfl | exact .inr (.inl rfl) | exact .inr (.inr rfl)) (by decide) (by decide)) xa_nil (by rfl)) (by decide) (by decide) (by rfl) (by rfl)) x_int) x_int) (x_bin rfl (x_callTy int_ok (by rfl) m.f_int (by decide +kernel) (xa_cons (x_bin rfl (x_var (i := 1) (by rfl) (by first | exact .inl rfl | exact .inr (.inl rfl) | exact .inr (.inr rfl)) (by decide) (by decide)) (x_var (i := 2) (by rfl) (by first | exact .inl rfl | exact .inr (.inl rfl) | exact .inr (.inr rfl)) (by decide) (by decide))) xa_nil (by rfl)) (by decide) (by decide) (by rfl) (by rfl)) x_int) (x_var (i := 1) (by rfl) (by first | exact .inl rfl | exact .inr (.inl rfl) | exact .inr (.inr rfl)) (by decide) (by decide))) (xa_cons (x_bin rfl (x_callTy int_ok (by rfl) m.f_int (by decide +kernel) (xa_cons (x_bin rfl (x_var (i := 2) (by rfl) (by first | exact .inl rfl | exact .inr (.inl rfl) | exact .inr (.inr rfl)) (by decide) (by decide)) (x_var (i := 2) (by rfl) (by first | exact .inl rfl | exact .inr (.inl rfl) | exact .inr (.inr rfl)) (by decide) (by decide))) xa_nil (by rfl)) (by decide) (by decide) (by rfl) (by rfl)) x_int) (xa_cons (x_bin rfl (x_var (i := 0) (by rfl) (by first | exact .inl rfl | exact .inr (.inl rfl) | exact .inr (.inr rfl)) (by decide) (by decide)) x_int) xa_nil (by rfl)) (by rfl)) (by rfl)) (by rfl) (by rfl))
    ss_nil))
    (ss_cons (s_ret (x_var (i := 1) (by rfl) (by first | exact .inl rfl | exact .inr (.inl rfl) | exact .inr (.inr rfl)) (by decide) (by decide)))
    ss_nil)))
/-! _law_sum -/
def b13 (C : CallF) : REnv → SHeap → FR := (rSeq (par2 1 2 (evCons (rBi fLen (evCons (rVar 0) (fun _ h => .ok [] h))) (evCons (rOp (opBin .Mult) (rCst (.int 7)) (rCall C 12 1 (evCons (rBi fLen (evCons (rVar 0) (fun _ h => .ok [] h))) (fun _ h => .ok [] h)))) (fun _ h => .ok [] h)))) (rSeq (rFor (iRg rg1 (evCons (rVar 1) (fun _ h => .ok [] h))) (.nm 3) (rSeq (rSet 2 (rOp (opBin .Add) (rVar 2) (rOp (opBin .Mult) (rOp (opBin .Add) (rOp subF (rVar 0) (rVar 3)) (rCst (.int 1))) (rCall C 12 1 (evCons (rOp (opBin .Sub) (rOp (opBin .Sub) (rVar 1) (rCst (.int 1))) (rVar 3)) (fun _ h => .ok [] h)))))) (fun ρ h => .nx ρ h))) (rSeq (rRet (rOp (opBin .Mod) (rBi fInt (evCons (rVar 2) (fun _ h => .ok [] h))) (rCst (.int 4294967291)))) (fun ρ h => .nx ρ h))))
theorem sc13 : FnScope ["octets", "many", "found", "at"] ["octets"] (defScope (top 24)) := ⟨rfl, rfl, rfl, by decide +kernel, rfl, by decide +kernel, by decide +kernel⟩
theorem w13 {cf : Cfg} {P : Program} {w : World} {mg : Str → Option Value} {base : Heap} {k : Nat} {C : CallF} (m : Mg mg) (cs : CallsC cf P w mg base k C tab) (fa : Addr) (cdv : Value) (A : Around) (outer : List Env) (s : Shared) (H : Hp) (E : XK) (hr : Room k (A.deeper (envOfC "_law_sum" (defScope (top 24)) s.heap.objs.size fa cdv))) :
    PSs (cxOf (L2.CX P w) P w cf.K mg base ["octets", "many", "found", "at"] "_law_sum" (defScope (top 24)) fa cdv A outer s H E) (defBody (top 24)) (tS cf (fun c d _ H => E c d H) (b13 C)) := by
  have tk : Takes (cxOf (L2.CX P w) P w cf.K mg base ["octets", "many", "found", "at"] "_law_sum" (defScope (top 24)) fa cdv A outer s H E) (fun c d _ H => E c d H) := takes_of rfl rfl rfl rfl
  have hp := passes_of (X := cxOf (L2.CX P w) P w cf.K mg base ["octets", "many", "found", "at"] "_law_sum" (defScope (top 24)) fa cdv A outer s H E) rfl
  have nd := sc13.nd
  have hu := hr.units
  exact (ss_cons (s_par2 (i := 1) (j := 2) rfl nd (by rfl) (by rfl) (by decide) rfl rfl (xa_cons (x_callB (len_ok rfl) (by rfl) m.f_len (by decide +kernel) (xa_cons (x_var (i := 0) (by rfl) (by first | exact .inl rfl | exact .inr (.inl rfl) | exact .inr (.inr rfl)) (by decide) (by decide)) xa_nil (by rfl)) (by decide) (by decide) (by rfl) (by rfl)) (xa_cons (x_bin rfl x_int (x_callC cs (f := 12) (by rfl) rfl tk hr (by rfl) (xa_cons (x_callB (len_ok rfl) (by rfl) m.f_len (by decide +kernel) (xa_cons (x_var (i := 0) (by rfl) (by first | exact .inl rfl | exact .inr (.inl rfl) | exact .inr (.inr rfl)) (by decide) (by decide)) xa_nil (by rfl)) (by decide) (by decide) (by rfl) (by rfl)) xa_nil (by rfl)) (by decide) (by rfl) (by rfl))) xa_nil (by rfl)) (by rfl)) (by rfl) (by rfl))
    (ss_cons (s_for hp rfl (x_rg1 (by rfl) m.f_range (xa_cons (x_var (i := 1) (by rfl) (by first | exact .inl rfl | exact .inr (.inl rfl) | exact .inr (.inr rfl)) (by decide) (by decide)) xa_nil (by rfl)) (by rfl)) (g_name nd (by rfl) (by first | exact .inl rfl | exact .inr rfl) (by first | exact .inl rfl | exact .inr rfl))
    (ss_cons (s_set nd (by rfl) (by first | exact .inl rfl | exact .inr rfl) (x_bin rfl (x_var (i := 2) (by rfl) (by first | exact .inl rfl | exact .inr (.inl rfl) | exact .inr (.inr rfl)) (by decide) (by decide)) (x_bin rfl (x_bin rfl (x_sub rfl (by intro _ _; rfl) (x_var (i := 0) (by rfl) (by first | exact .inl rfl | exact .inr (.inl rfl) | exact .inr (.inr rfl)) (by decide) (by decide)) (x_var (i := 3) (by rfl) (by first | exact .inl rfl | exact .inr (.inl rfl) | exact .inr (.inr rfl)) (by decide) (by decide))) x_int) (x_callC cs (f := 12) (by rfl) rfl tk hr (by rfl) (xa_cons (x_bin rfl (x_bin rfl (x_var (i := 1) (by rfl) (by first | exact .inl rfl | exact .inr (.inl rfl) | exact .inr (.inr rfl)) (by decide) (by decide)) x_int) (x_var (i := 3) (by rfl) (by first | exact .inl rfl | exact .inr (.inl rfl) | exact .inr (.inr rfl)) (by decide) (by decide))) xa_nil (by rfl)) (by decide) (by rfl) (by rfl)))) (by rfl) (.inl rfl))
    ss_nil) (by intro _; rfl))
    (ss_cons (s_ret (x_bin rfl (x_callTy int_ok (by rfl) m.f_int (by decide +kernel) (xa_cons (x_var (i := 2) (by rfl) (by first | exact .inl rfl | exact .inr (.inl rfl) | exact .inr (.inr rfl)) (by decide) (by decide)) xa_nil (by rfl)) (by decide) (by decide) (by rfl) (by rfl)) x_int))
    ss_nil)))
/-! _law_right -/
def b14 (C : CallF) : REnv → SHeap → FR := (rSeq (rSet 2 (rCut (rBi fTuple (evCons (rLc (iRg rg1 (evCons (rCall C 10 2 (evCons (rVar 0) (evCons (rOp (opBin .Add) (rVar 1) (rCst (.int 1))) (fun _ h => .ok [] h)))) (fun _ h => .ok [] h))) (.nm 14) [14] none (rCall C 10 2 (evCons (rVar 0) (evCons (rCst (.int 256)) (fun _ h => .ok [] h))))) (fun _ h => .ok [] h))))) (rSeq (rSet 3 (rCall C 10 2 (evCons (rVar 0) (evCons (rOp (opBin .Add) (rBi fLen (evCons (rVar 2) (fun _ h => .ok [] h))) (rCst (.int 1))) (fun _ h => .ok [] h))))) (rSeq (par2 4 5 (evCons (rSlice (rVar 2) none (some (rVar 3))) (evCons (rSlice (rVar 2) (some (rVar 3)) none) (fun _ h => .ok [] h)))) (rSeq (rSet 6 (rCall C 13 1 (evCons (rVar 2) (fun _ h => .ok [] h)))) (rSeq (rSet 7 (rTup (evCons (rCall C 5 1 (evCons (rVar 2) (fun _ h => .ok [] h))) (evCons (rCall C 7 2 (evCons (rCall C 13 1 (evCons (rVar 4) (fun _ h => .ok [] h))) (evCons (rVar 5) (fun _ h => .ok [] h)))) (evCons (rCall C 8 3 (evCons (rCall C 13 1 (evCons (rVar 4) (fun _ h => .ok [] h))) (evCons (rCall C 13 1 (evCons (rVar 5) (fun _ h => .ok [] h))) (evCons (rBi fLen (evCons (rVar 5) (fun _ h => .ok [] h))) (fun _ h => .ok [] h))))) (fun _ h => .ok [] h)))))) (rSeq (rIf (rNot (rCall C 11 2 (evCons (rVar 7) (evCons (rTup (evCons (rVar 6) (evCons (rVar 6) (evCons (rVar 6) (fun _ h => .ok [] h))))) (fun _ h => .ok [] h))))) (rSeq (rRet (rCst (.bool false))) (fun ρ h => .nx ρ h)) (fun ρ h => .nx ρ h)) (rSeq (rIf (rOp (cmpF .NotEq) (rVar 2) (rTup (fun _ h => .ok [] h))) (rSeq (par2 8 9 (evCons (rCall C 10 2 (evCons (rVar 0) (evCons (rBi fLen (evCons (rVar 2) (fun _ h => .ok [] h))) (fun _ h => .ok [] h)))) (evCons (rOp (opBin .Add) (rCst (.int 1)) (rCall C 10 2 (evCons (rVar 0) (evCons (rCst (.int 255)) (fun _ h => .ok [] h))))) (fun _ h => .ok [] h)))) (rSeq (rIf (rCut (rOp (cmpF .Eq) (rCut (rCall C 5 1 (evCons (rOp (opBin .Add) (rOp (opBin .Add) (rSlice (rVar 2) none (some (rVar 8))) (rTup (evCons (rOp (opBin .Mod) (rBi fInt (evCons (rOp (opBin .Add) (rOp subF (rVar 2) (rVar 8)) (rVar 9)) (fun _ h => .ok [] h))) (rCst (.int 256))) (fun _ h => .ok [] h)))) (rSlice (rVar 2) (some (rOp (opBin .Add) (rVar 8) (rCst (.int 1)))) none)) (fun _ h => .ok [] h)))) (rVar 6))) (rSeq (rRet (rCst (.bool false))) (fun ρ h => .nx ρ h)) (fun ρ h => .nx ρ h)) (fun ρ h => .nx ρ h))) (fun ρ h => .nx ρ h)) (rSeq (par3 10 11 12 (evCons (rLc (iRg rg1 (evCons (rCst (.int 3)) (fun _ h => .ok [] h))) (.nm 15) [15] none (rCall C 10 2 (evCons (rVar 0) (evCons (rCst (.int 4294967291)) (fun _ h => .ok [] h))))) (evCons (rCall C 10 2 (evCons (rVar 0) (evCons (rOp (opBin .Mult) (rCst (.int 5)) (rOp (opBin .Pow) (rCst (.int 10)) (rCst (.int 17)))) (fun _ h => .ok [] h)))) (evCons (rCall C 10 2 (evCons (rVar 0) (evCons (rOp (opBin .Mult) (rCst (.int 5)) (rOp (opBin .Pow) (rCst (.int 10)) (rCst (.int 17)))) (fun _ h => .ok [] h)))) (fun _ h => .ok [] h))))) (rSeq (rSet 13 (rCall C 8 3 (evCons (rCall C 8 3 (evCons (rOp subF (rVar 10) (rCst (.int 0))) (evCons (rOp subF (rVar 10) (rCst (.int 1))) (evCons (rVar 11) (fun _ h => .ok [] h))))) (evCons (rOp subF (rVar 10) (rCst (.int 2))) (evCons (rVar 12) (fun _ h => .ok [] h)))))) (rSeq (rRet (rOp (cmpF .Eq) (rVar 13) (rCall C 8 3 (evCons (rOp subF (rVar 10) (rCst (.int 0))) (evCons (rCall C 8 3 (evCons (rOp subF (rVar 10) (rCst (.int 1))) (evCons (rOp subF (rVar 10) (rCst (.int 2))) (evCons (rVar 12) (fun _ h => .ok [] h))))) (evCons (rOp (opBin .Add) (rVar 11) (rVar 12)) (fun _ h => .ok [] h))))))) (fun ρ h => .nx ρ h)))))))))))
theorem sc14 : FnScope ["cup", "most", "octets", "at", "one", "other", "due", "told", "place", "more", "rows", "far", "near", "left", "step", "part"] ["cup", "most"] (defScope (top 25)) := ⟨rfl, rfl, rfl, by decide +kernel, rfl, by decide +kernel, by decide +kernel⟩
theorem w14 {cf : Cfg} {P : Program} {w : World} {mg : Str → Option Value} {base : Heap} {k : Nat} {C : CallF} (m : Mg mg) (cs : CallsC cf P w mg base k C tab) (fa : Addr) (cdv : Value) (A : Around) (outer : List Env) (s : Shared) (H : Hp) (E : XK) (hr : Room k (A.deeper (envOfC "_law_right" (defScope (top 25)) s.heap.objs.size fa cdv))) :
    PSs (cxOf (L2.CX P w) P w cf.K mg base ["cup", "most", "octets", "at", "one", "other", "due", "told", "place", "more", "rows", "far", "near", "left", "step", "part"] "_law_right" (defScope (top 25)) fa cdv A outer s H E) (defBody (top 25)) (tS cf (fun c d _ H => E c d H) (b14 C)) := by
  have tk : Takes (cxOf (L2.CX P w) P w cf.K mg base ["cup", "most", "octets", "at", "one", "other", "due", "told", "place", "more", "rows", "far", "near", "left", "step", "part"] "_law_right" (defScope (top 25)) fa cdv A outer s H E) (fun c d _ H => E c d H) := takes_of rfl rfl rfl rfl
  have hp := passes_of (X := cxOf (L2.CX P w) P w cf.K mg base ["cup", "most", "octets", "at", "one", "other", "due", "told", "place", "more", "rows", "far", "near", "left", "step", "part"] "_law_right" (defScope (top 25)) fa cdv A outer s H E) rfl
  have nd := sc14.nd
  have hu := hr.units
  exact (ss_cons (s_set nd (by rfl) (by first | exact .inl rfl | exact .inr rfl) (x_cut (x_callTy (tuple_ok rfl) (by rfl) m.f_tuple (by decide +kernel) (xa_cons (x_lc rfl nd (x_rg1 (by rfl) m.f_range (xa_cons (x_callC cs (f := 10) (by rfl) rfl tk hr (by rfl) (xa_cons (x_var (i := 0) (by rfl) (by first | exact .inl rfl | exact .inr (.inl rfl) | exact .inr (.inr rfl)) (by decide) (by decide)) (xa_cons (x_bin rfl (x_var (i := 1) (by rfl) (by first | exact .inl rfl | exact .inr (.inl rfl) | exact .inr (.inr rfl)) (by decide) (by decide)) x_int) xa_nil (by rfl)) (by rfl)) (by decide) (by rfl) (by rfl)) xa_nil (by rfl)) (by rfl)) (blkOk_by (own := [("step", 14)]) (by rfl)) (by decide) (fun _ _ _ _ _ => (g_name nd (by rfl) (by first | exact .inl rfl | exact .inr rfl) (by first | exact .inl rfl | exact .inr rfl))) (fun _ _ _ _ _ => c_none) (fun _ _ _ _ _ => (x_callC cs (f := 10) (by rfl) rfl takesW0 hr (by rfl) (xa_cons (x_var (i := 0) (by rfl) (by first | exact .inl rfl | exact .inr (.inl rfl) | exact .inr (.inr rfl)) (by decide) (by decide)) (xa_cons x_int xa_nil (by rfl)) (by rfl)) (by decide) (by rfl) (by rfl))) (by intro _; rfl)) xa_nil (by rfl)) (by decide) (by decide) (by rfl) (by rfl))) (by rfl) (.inl rfl))
    (ss_cons (s_set nd (by rfl) (by first | exact .inl rfl | exact .inr rfl) (x_callC cs (f := 10) (by rfl) rfl tk hr (by rfl) (xa_cons (x_var (i := 0) (by rfl) (by first | exact .inl rfl | exact .inr (.inl rfl) | exact .inr (.inr rfl)) (by decide) (by decide)) (xa_cons (x_bin rfl (x_callB (len_ok rfl) (by rfl) m.f_len (by decide +kernel) (xa_cons (x_var (i := 2) (by rfl) (by first | exact .inl rfl | exact .inr (.inl rfl) | exact .inr (.inr rfl)) (by decide) (by decide)) xa_nil (by rfl)) (by decide) (by decide) (by rfl) (by rfl)) x_int) xa_nil (by rfl)) (by rfl)) (by decide) (by rfl) (by rfl)) (by rfl) (.inl rfl))
    (ss_cons (s_par2 (i := 4) (j := 5) rfl nd (by rfl) (by rfl) (by decide) rfl rfl (xa_cons (x_sl rfl (x_var (i := 2) (by rfl) (by first | exact .inl rfl | exact .inr (.inl rfl) | exact .inr (.inr rfl)) (by decide) (by decide)) p_n (p_s (x_var (i := 3) (by rfl) (by first | exact .inl rfl | exact .inr (.inl rfl) | exact .inr (.inr rfl)) (by decide) (by decide)))) (xa_cons (x_sl rfl (x_var (i := 2) (by rfl) (by first | exact .inl rfl | exact .inr (.inl rfl) | exact .inr (.inr rfl)) (by decide) (by decide)) (p_s (x_var (i := 3) (by rfl) (by first | exact .inl rfl | exact .inr (.inl rfl) | exact .inr (.inr rfl)) (by decide) (by decide))) p_n) xa_nil (by rfl)) (by rfl)) (by rfl) (by rfl))
    (ss_cons (s_set nd (by rfl) (by first | exact .inl rfl | exact .inr rfl) (x_callC cs (f := 13) (by rfl) rfl tk hr (by rfl) (xa_cons (x_var (i := 2) (by rfl) (by first | exact .inl rfl | exact .inr (.inl rfl) | exact .inr (.inr rfl)) (by decide) (by decide)) xa_nil (by rfl)) (by decide) (by rfl) (by rfl)) (by rfl) (.inl rfl))
    (ss_cons (s_set nd (by rfl) (by first | exact .inl rfl | exact .inr rfl) (x_tup (xa_cons (x_callC cs (f := 5) (by rfl) rfl tk hr (by rfl) (xa_cons (x_var (i := 2) (by rfl) (by first | exact .inl rfl | exact .inr (.inl rfl) | exact .inr (.inr rfl)) (by decide) (by decide)) xa_nil (by rfl)) (by decide) (by rfl) (by rfl)) (xa_cons (x_callC cs (f := 7) (by rfl) rfl tk hr (by rfl) (xa_cons (x_callC cs (f := 13) (by rfl) rfl tk hr (by rfl) (xa_cons (x_var (i := 4) (by rfl) (by first | exact .inl rfl | exact .inr (.inl rfl) | exact .inr (.inr rfl)) (by decide) (by decide)) xa_nil (by rfl)) (by decide) (by rfl) (by rfl)) (xa_cons (x_var (i := 5) (by rfl) (by first | exact .inl rfl | exact .inr (.inl rfl) | exact .inr (.inr rfl)) (by decide) (by decide)) xa_nil (by rfl)) (by rfl)) (by decide) (by rfl) (by rfl)) (xa_cons (x_callC cs (f := 8) (by rfl) rfl tk hr (by rfl) (xa_cons (x_callC cs (f := 13) (by rfl) rfl tk hr (by rfl) (xa_cons (x_var (i := 4) (by rfl) (by first | exact .inl rfl | exact .inr (.inl rfl) | exact .inr (.inr rfl)) (by decide) (by decide)) xa_nil (by rfl)) (by decide) (by rfl) (by rfl)) (xa_cons (x_callC cs (f := 13) (by rfl) rfl tk hr (by rfl) (xa_cons (x_var (i := 5) (by rfl) (by first | exact .inl rfl | exact .inr (.inl rfl) | exact .inr (.inr rfl)) (by decide) (by decide)) xa_nil (by rfl)) (by decide) (by rfl) (by rfl)) (xa_cons (x_callB (len_ok rfl) (by rfl) m.f_len (by decide +kernel) (xa_cons (x_var (i := 5) (by rfl) (by first | exact .inl rfl | exact .inr (.inl rfl) | exact .inr (.inr rfl)) (by decide) (by decide)) xa_nil (by rfl)) (by decide) (by decide) (by rfl) (by rfl)) xa_nil (by rfl)) (by rfl)) (by rfl)) (by decide) (by rfl) (by rfl)) xa_nil (by rfl)) (by rfl)) (by rfl))) (by rfl) (.inl rfl))
    (ss_cons (s_if (t_not (t_val (x_callC cs (f := 11) (by rfl) rfl tk hr (by rfl) (xa_cons (x_var (i := 7) (by rfl) (by first | exact .inl rfl | exact .inr (.inl rfl) | exact .inr (.inr rfl)) (by decide) (by decide)) (xa_cons (x_tup (xa_cons (x_var (i := 6) (by rfl) (by first | exact .inl rfl | exact .inr (.inl rfl) | exact .inr (.inr rfl)) (by decide) (by decide)) (xa_cons (x_var (i := 6) (by rfl) (by first | exact .inl rfl | exact .inr (.inl rfl) | exact .inr (.inr rfl)) (by decide) (by decide)) (xa_cons (x_var (i := 6) (by rfl) (by first | exact .inl rfl | exact .inr (.inl rfl) | exact .inr (.inr rfl)) (by decide) (by decide)) xa_nil (by rfl)) (by rfl)) (by rfl))) xa_nil (by rfl)) (by rfl)) (by decide) (by rfl) (by rfl)) (by intro _; rfl)))
    (ss_cons (s_ret x_bl)
    ss_nil)
    ss_nil)
    (ss_cons (s_if (x_cmpT rfl hu (nobehind _ (by decide) (by decide)) (x_var (i := 2) (by rfl) (by first | exact .inl rfl | exact .inr (.inl rfl) | exact .inr (.inr rfl)) (by decide) (by decide)) (x_tup xa_nil))
    (ss_cons (s_par2 (i := 8) (j := 9) rfl nd (by rfl) (by rfl) (by decide) rfl rfl (xa_cons (x_callC cs (f := 10) (by rfl) rfl tk hr (by rfl) (xa_cons (x_var (i := 0) (by rfl) (by first | exact .inl rfl | exact .inr (.inl rfl) | exact .inr (.inr rfl)) (by decide) (by decide)) (xa_cons (x_callB (len_ok rfl) (by rfl) m.f_len (by decide +kernel) (xa_cons (x_var (i := 2) (by rfl) (by first | exact .inl rfl | exact .inr (.inl rfl) | exact .inr (.inr rfl)) (by decide) (by decide)) xa_nil (by rfl)) (by decide) (by decide) (by rfl) (by rfl)) xa_nil (by rfl)) (by rfl)) (by decide) (by rfl) (by rfl)) (xa_cons (x_bin rfl x_int (x_callC cs (f := 10) (by rfl) rfl tk hr (by rfl) (xa_cons (x_var (i := 0) (by rfl) (by first | exact .inl rfl | exact .inr (.inl rfl) | exact .inr (.inr rfl)) (by decide) (by decide)) (xa_cons x_int xa_nil (by rfl)) (by rfl)) (by decide) (by rfl) (by rfl))) xa_nil (by rfl)) (by rfl)) (by rfl) (by rfl))
    (ss_cons (s_if (x_cutT (x_cmpT rfl hu (nobehind _ (by decide) (by decide)) (x_cut (x_callC cs (f := 5) (by rfl) rfl tk hr (by rfl) (xa_cons (x_bin rfl (x_bin rfl (x_sl rfl (x_var (i := 2) (by rfl) (by first | exact .inl rfl | exact .inr (.inl rfl) | exact .inr (.inr rfl)) (by decide) (by decide)) p_n (p_s (x_var (i := 8) (by rfl) (by first | exact .inl rfl | exact .inr (.inl rfl) | exact .inr (.inr rfl)) (by decide) (by decide)))) (x_tup (xa_cons (x_bin rfl (x_callTy int_ok (by rfl) m.f_int (by decide +kernel) (xa_cons (x_bin rfl (x_sub rfl (by intro _ _; rfl) (x_var (i := 2) (by rfl) (by first | exact .inl rfl | exact .inr (.inl rfl) | exact .inr (.inr rfl)) (by decide) (by decide)) (x_var (i := 8) (by rfl) (by first | exact .inl rfl | exact .inr (.inl rfl) | exact .inr (.inr rfl)) (by decide) (by decide))) (x_var (i := 9) (by rfl) (by first | exact .inl rfl | exact .inr (.inl rfl) | exact .inr (.inr rfl)) (by decide) (by decide))) xa_nil (by rfl)) (by decide) (by decide) (by rfl) (by rfl)) x_int) xa_nil (by rfl)))) (x_sl rfl (x_var (i := 2) (by rfl) (by first | exact .inl rfl | exact .inr (.inl rfl) | exact .inr (.inr rfl)) (by decide) (by decide)) (p_s (x_bin rfl (x_var (i := 8) (by rfl) (by first | exact .inl rfl | exact .inr (.inl rfl) | exact .inr (.inr rfl)) (by decide) (by decide)) x_int)) p_n)) xa_nil (by rfl)) (by decide) (by rfl) (by rfl))) (x_var (i := 6) (by rfl) (by first | exact .inl rfl | exact .inr (.inl rfl) | exact .inr (.inr rfl)) (by decide) (by decide))))
    (ss_cons (s_ret x_bl)
    ss_nil)
    ss_nil)
    ss_nil))
    ss_nil)
    (ss_cons (s_par3 (i := 10) (j := 11) (l := 12) rfl nd (by rfl) (by rfl) (by rfl) (by decide) (by decide) (by decide) rfl rfl rfl (xa_cons (x_lc rfl nd (x_rg1 (by rfl) m.f_range (xa_cons x_int xa_nil (by rfl)) (by rfl)) (blkOk_by (own := [("part", 15)]) (by rfl)) (by decide) (fun _ _ _ _ _ => (g_name nd (by rfl) (by first | exact .inl rfl | exact .inr rfl) (by first | exact .inl rfl | exact .inr rfl))) (fun _ _ _ _ _ => c_none) (fun _ _ _ _ _ => (x_callC cs (f := 10) (by rfl) rfl takesW0 hr (by rfl) (xa_cons (x_var (i := 0) (by rfl) (by first | exact .inl rfl | exact .inr (.inl rfl) | exact .inr (.inr rfl)) (by decide) (by decide)) (xa_cons x_int xa_nil (by rfl)) (by rfl)) (by decide) (by rfl) (by rfl))) (by intro _; rfl)) (xa_cons (x_callC cs (f := 10) (by rfl) rfl tk hr (by rfl) (xa_cons (x_var (i := 0) (by rfl) (by first | exact .inl rfl | exact .inr (.inl rfl) | exact .inr (.inr rfl)) (by decide) (by decide)) (xa_cons (x_bin rfl x_int (x_bin rfl x_int x_int)) xa_nil (by rfl)) (by rfl)) (by decide) (by rfl) (by rfl)) (xa_cons (x_callC cs (f := 10) (by rfl) rfl tk hr (by rfl) (xa_cons (x_var (i := 0) (by rfl) (by first | exact .inl rfl | exact .inr (.inl rfl) | exact .inr (.inr rfl)) (by decide) (by decide)) (xa_cons (x_bin rfl x_int (x_bin rfl x_int x_int)) xa_nil (by rfl)) (by rfl)) (by decide) (by rfl) (by rfl)) xa_nil (by rfl)) (by rfl)) (by rfl)) (by rfl) (by rfl))
    (ss_cons (s_set nd (by rfl) (by first | exact .inl rfl | exact .inr rfl) (x_callC cs (f := 8) (by rfl) rfl tk hr (by rfl) (xa_cons (x_callC cs (f := 8) (by rfl) rfl tk hr (by rfl) (xa_cons (x_sub rfl (by intro _ _; rfl) (x_var (i := 10) (by rfl) (by first | exact .inl rfl | exact .inr (.inl rfl) | exact .inr (.inr rfl)) (by decide) (by decide)) x_int) (xa_cons (x_sub rfl (by intro _ _; rfl) (x_var (i := 10) (by rfl) (by first | exact .inl rfl | exact .inr (.inl rfl) | exact .inr (.inr rfl)) (by decide) (by decide)) x_int) (xa_cons (x_var (i := 11) (by rfl) (by first | exact .inl rfl | exact .inr (.inl rfl) | exact .inr (.inr rfl)) (by decide) (by decide)) xa_nil (by rfl)) (by rfl)) (by rfl)) (by decide) (by rfl) (by rfl)) (xa_cons (x_sub rfl (by intro _ _; rfl) (x_var (i := 10) (by rfl) (by first | exact .inl rfl | exact .inr (.inl rfl) | exact .inr (.inr rfl)) (by decide) (by decide)) x_int) (xa_cons (x_var (i := 12) (by rfl) (by first | exact .inl rfl | exact .inr (.inl rfl) | exact .inr (.inr rfl)) (by decide) (by decide)) xa_nil (by rfl)) (by rfl)) (by rfl)) (by decide) (by rfl) (by rfl)) (by rfl) (.inl rfl))
    (ss_cons (s_ret (x_cmpE rfl hu (nobehind _ (by decide) (by decide)) (x_var (i := 13) (by rfl) (by first | exact .inl rfl | exact .inr (.inl rfl) | exact .inr (.inr rfl)) (by decide) (by decide)) (x_callC cs (f := 8) (by rfl) rfl tk hr (by rfl) (xa_cons (x_sub rfl (by intro _ _; rfl) (x_var (i := 10) (by rfl) (by first | exact .inl rfl | exact .inr (.inl rfl) | exact .inr (.inr rfl)) (by decide) (by decide)) x_int) (xa_cons (x_callC cs (f := 8) (by rfl) rfl tk hr (by rfl) (xa_cons (x_sub rfl (by intro _ _; rfl) (x_var (i := 10) (by rfl) (by first | exact .inl rfl | exact .inr (.inl rfl) | exact .inr (.inr rfl)) (by decide) (by decide)) x_int) (xa_cons (x_sub rfl (by intro _ _; rfl) (x_var (i := 10) (by rfl) (by first | exact .inl rfl | exact .inr (.inl rfl) | exact .inr (.inr rfl)) (by decide) (by decide)) x_int) (xa_cons (x_var (i := 12) (by rfl) (by first | exact .inl rfl | exact .inr (.inl rfl) | exact .inr (.inr rfl)) (by decide) (by decide)) xa_nil (by rfl)) (by rfl)) (by rfl)) (by decide) (by rfl) (by rfl)) (xa_cons (x_bin rfl (x_var (i := 11) (by rfl) (by first | exact .inl rfl | exact .inr (.inl rfl) | exact .inr (.inr rfl)) (by decide) (by decide)) (x_var (i := 12) (by rfl) (by first | exact .inl rfl | exact .inr (.inl rfl) | exact .inr (.inr rfl)) (by decide) (by decide))) xa_nil (by rfl)) (by rfl)) (by rfl)) (by decide) (by rfl) (by rfl))))
    ss_nil))))))))))
/-! law -/
def b15 (C : CallF) : REnv → SHeap → FR := (rSeq (rSet 1 (rCall C 9 1 (evCons (rVar 0) (fun _ h => .ok [] h)))) (rSeq (rFor (iVal (rTup (evCons (rCst (.int 3)) (evCons (rCst (.int 20)) (evCons (rCst (.int 40)) (evCons (rCst (.int 40)) (fun _ h => .ok [] h))))))) (.nm 2) (rSeq (rIf (rNot (rCall C 14 2 (evCons (rVar 1) (evCons (rVar 2) (fun _ h => .ok [] h))))) (rSeq (rRet (rCst (.bool false))) (fun ρ h => .nx ρ h)) (fun ρ h => .nx ρ h)) (fun ρ h => .nx ρ h))) (rSeq (par2 3 4 (evCons (rCall C 10 2 (evCons (rVar 1) (evCons (rCst (.int 4294967291)) (fun _ h => .ok [] h)))) (evCons (rCall C 10 2 (evCons (rVar 1) (evCons (rCst (.int 256)) (fun _ h => .ok [] h)))) (fun _ h => .ok [] h)))) (rSeq (rSet 5 (rTup (evCons (rCall C 5 1 (evCons (rTup (fun _ h => .ok [] h)) (fun _ h => .ok [] h))) (evCons (rCall C 7 2 (evCons (rVar 3) (evCons (rTup (fun _ h => .ok [] h)) (fun _ h => .ok [] h)))) (evCons (rCall C 8 3 (evCons (rVar 3) (evCons (rCst (.int 7)) (evCons (rCst (.int 0)) (fun _ h => .ok [] h))))) (evCons (rCall C 8 3 (evCons (rCst (.int 7)) (evCons (rVar 3) (evCons (rCst (.int 9)) (fun _ h => .ok [] h))))) (evCons (rCall C 5 1 (evCons (rTup (evCons (rVar 4) (fun _ h => .ok [] h))) (fun _ h => .ok [] h))) (evCons (rCall C 8 3 (evCons (rVar 3) (evCons (rCst (.int 7)) (evCons (rCst (.int 4294967290)) (fun _ h => .ok [] h))))) (fun _ h => .ok [] h))))))))) (rSeq (rRet (rCall C 11 2 (evCons (rVar 5) (evCons (rTup (evCons (rCst (.int 7)) (evCons (rVar 3) (evCons (rVar 3) (evCons (rVar 3) (evCons (rOp (opBin .Add) (rOp (opBin .Add) (rOp (opBin .Mult) (rCst (.int 7)) (rCst (.int 1000003))) (rVar 4)) (rCst (.int 1))) (evCons (rVar 3) (fun _ h => .ok [] h)))))))) (fun _ h => .ok [] h))))) (fun ρ h => .nx ρ h))))))
theorem sc15 : FnScope ["script", "cup", "most", "check", "octet", "told"] ["script"] (defScope (top 26)) := ⟨rfl, rfl, rfl, by decide +kernel, rfl, by decide +kernel, by decide +kernel⟩
theorem w15 {cf : Cfg} {P : Program} {w : World} {mg : Str → Option Value} {base : Heap} {k : Nat} {C : CallF} (m : Mg mg) (cs : CallsC cf P w mg base k C tab) (fa : Addr) (cdv : Value) (A : Around) (outer : List Env) (s : Shared) (H : Hp) (E : XK) (hr : Room k (A.deeper (envOfC "law" (defScope (top 26)) s.heap.objs.size fa cdv))) :
    PSs (cxOf (L2.CX P w) P w cf.K mg base ["script", "cup", "most", "check", "octet", "told"] "law" (defScope (top 26)) fa cdv A outer s H E) (defBody (top 26)) (tS cf (fun c d _ H => E c d H) (b15 C)) := by
  have tk : Takes (cxOf (L2.CX P w) P w cf.K mg base ["script", "cup", "most", "check", "octet", "told"] "law" (defScope (top 26)) fa cdv A outer s H E) (fun c d _ H => E c d H) := takes_of rfl rfl rfl rfl
  have hp := passes_of (X := cxOf (L2.CX P w) P w cf.K mg base ["script", "cup", "most", "check", "octet", "told"] "law" (defScope (top 26)) fa cdv A outer s H E) rfl
  have nd := sc15.nd
  have hu := hr.units
  exact (ss_cons (s_set nd (by rfl) (by first | exact .inl rfl | exact .inr rfl) (x_callC cs (f := 9) (by rfl) rfl tk hr (by rfl) (xa_cons (x_var (i := 0) (by rfl) (by first | exact .inl rfl | exact .inr (.inl rfl) | exact .inr (.inr rfl)) (by decide) (by decide)) xa_nil (by rfl)) (by decide) (by rfl) (by rfl)) (by rfl) (.inl rfl))
    (ss_cons (s_for hp rfl (x_srcVal rfl (x_tup (xa_cons x_int (xa_cons x_int (xa_cons x_int (xa_cons x_int xa_nil (by rfl)) (by rfl)) (by rfl)) (by rfl)))) (g_name nd (by rfl) (by first | exact .inl rfl | exact .inr rfl) (by first | exact .inl rfl | exact .inr rfl))
    (ss_cons (s_if (t_not (t_val (x_callC cs (f := 14) (by rfl) rfl tk hr (by rfl) (xa_cons (x_var (i := 1) (by rfl) (by first | exact .inl rfl | exact .inr (.inl rfl) | exact .inr (.inr rfl)) (by decide) (by decide)) (xa_cons (x_var (i := 2) (by rfl) (by first | exact .inl rfl | exact .inr (.inl rfl) | exact .inr (.inr rfl)) (by decide) (by decide)) xa_nil (by rfl)) (by rfl)) (by decide) (by rfl) (by rfl)) (by intro _; rfl)))
    (ss_cons (s_ret x_bl)
    ss_nil)
    ss_nil)
    ss_nil) (by intro _; rfl))
    (ss_cons (s_par2 (i := 3) (j := 4) rfl nd (by rfl) (by rfl) (by decide) rfl rfl (xa_cons (x_callC cs (f := 10) (by rfl) rfl tk hr (by rfl) (xa_cons (x_var (i := 1) (by rfl) (by first | exact .inl rfl | exact .inr (.inl rfl) | exact .inr (.inr rfl)) (by decide) (by decide)) (xa_cons x_int xa_nil (by rfl)) (by rfl)) (by decide) (by rfl) (by rfl)) (xa_cons (x_callC cs (f := 10) (by rfl) rfl tk hr (by rfl) (xa_cons (x_var (i := 1) (by rfl) (by first | exact .inl rfl | exact .inr (.inl rfl) | exact .inr (.inr rfl)) (by decide) (by decide)) (xa_cons x_int xa_nil (by rfl)) (by rfl)) (by decide) (by rfl) (by rfl)) xa_nil (by rfl)) (by rfl)) (by rfl) (by rfl))
    (ss_cons (s_set nd (by rfl) (by first | exact .inl rfl | exact .inr rfl) (x_tup (xa_cons (x_callC cs (f := 5) (by rfl) rfl tk hr (by rfl) (xa_cons (x_tup xa_nil) xa_nil (by rfl)) (by decide) (by rfl) (by rfl)) (xa_cons (x_callC cs (f := 7) (by rfl) rfl tk hr (by rfl) (xa_cons (x_var (i := 3) (by rfl) (by first | exact .inl rfl | exact .inr (.inl rfl) | exact .inr (.inr rfl)) (by decide) (by decide)) (xa_cons (x_tup xa_nil) xa_nil (by rfl)) (by rfl)) (by decide) (by rfl) (by rfl)) (xa_cons (x_callC cs (f := 8) (by rfl) rfl tk hr (by rfl) (xa_cons (x_var (i := 3) (by rfl) (by first | exact .inl rfl | exact .inr (.inl rfl) | exact .inr (.inr rfl)) (by decide) (by decide)) (xa_cons x_int (xa_cons x_int xa_nil (by rfl)) (by rfl)) (by rfl)) (by decide) (by rfl) (by rfl)) (xa_cons (x_callC cs (f := 8) (by rfl) rfl tk hr (by rfl) (xa_cons x_int (xa_cons (x_var (i := 3) (by rfl) (by first | exact .inl rfl | exact .inr (.inl rfl) | exact .inr (.inr rfl)) (by decide) (by decide)) (xa_cons x_int xa_nil (by rfl)) (by rfl)) (by rfl)) (by decide) (by rfl) (by rfl)) (xa_cons (x_callC cs (f := 5) (by rfl) rfl tk hr (by rfl) (xa_cons (x_tup (xa_cons (x_var (i := 4) (by rfl) (by first | exact .inl rfl | exact .inr (.inl rfl) | exact .inr (.inr rfl)) (by decide) (by decide)) xa_nil (by rfl))) xa_nil (by rfl)) (by decide) (by rfl) (by rfl)) (xa_cons (x_callC cs (f := 8) (by rfl) rfl tk hr (by rfl) (xa_cons (x_var (i := 3) (by rfl) (by first | exact .inl rfl | exact .inr (.inl rfl) | exact .inr (.inr rfl)) (by decide) (by decide)) (xa_cons x_int (xa_cons x_int xa_nil (by rfl)) (by rfl)) (by rfl)) (by decide) (by rfl) (by rfl)) xa_nil (by rfl)) (by rfl)) (by rfl)) (by rfl)) (by rfl)) (by rfl))) (by rfl) (.inl rfl))
    (ss_cons (s_ret (x_callC cs (f := 11) (by rfl) rfl tk hr (by rfl) (xa_cons (x_var (i := 5) (by rfl) (by first | exact .inl rfl | exact .inr (.inl rfl) | exact .inr (.inr rfl)) (by decide) (by decide)) (xa_cons (x_tup (xa_cons x_int (xa_cons (x_var (i := 3) (by rfl) (by first | exact .inl rfl | exact .inr (.inl rfl) | exact .inr (.inr rfl)) (by decide) (by decide)) (xa_cons (x_var (i := 3) (by rfl) (by first | exact .inl rfl | exact .inr (.inl rfl) | exact .inr (.inr rfl)) (by decide) (by decide)) (xa_cons (x_var (i := 3) (by rfl) (by first | exact .inl rfl | exact .inr (.inl rfl) | exact .inr (.inr rfl)) (by decide) (by decide)) (xa_cons (x_bin rfl (x_bin rfl (x_bin rfl x_int x_int) (x_var (i := 4) (by rfl) (by first | exact .inl rfl | exact .inr (.inl rfl) | exact .inr (.inr rfl)) (by decide) (by decide))) x_int) (xa_cons (x_var (i := 3) (by rfl) (by first | exact .inl rfl | exact .inr (.inl rfl) | exact .inr (.inr rfl)) (by decide) (by decide)) xa_nil (by rfl)) (by rfl)) (by rfl)) (by rfl)) (by rfl)) (by rfl))) xa_nil (by rfl)) (by rfl)) (by decide) (by rfl) (by rfl)))
    ss_nil)))))
def bodyOf (C : CallF) : Nat → Nat × (REnv → SHeap → FR)
  | 0 => (3, b0 C)
  | 1 => (3, b1 C)
  | 2 => (2, b2 C)
  | 3 => (3, b3 C)
  | 4 => (3, b4 C)
  | 5 => (1, b5 C)
  | 6 => (1, b6 C)
  | 7 => (2, b7 C)
  | 8 => (3, b8 C)
  | 9 => (2, b9 C)
  | 10 => (4, b10 C)
  | 11 => (3, b11 C)
  | 12 => (3, b12 C)
  | 13 => (4, b13 C)
  | 14 => (16, b14 C)
  | 15 => (6, b15 C)
  | _ => (0, fun _ _ => .no)
def callAt : Nat → CallF
  | 0 => fun _ _ _ => .no
  | n + 1 => fun f args h => fnR (bodyOf (callAt n) f).1 (bodyOf (callAt n) f).2 args h
theorem at0 (n : Nat) (args : List EV) (h : SHeap) : callAt (n + 1) 0 args h = fnR 3 (b0 (callAt n)) args h := rfl
theorem at1 (n : Nat) (args : List EV) (h : SHeap) : callAt (n + 1) 1 args h = fnR 3 (b1 (callAt n)) args h := rfl
theorem at2 (n : Nat) (args : List EV) (h : SHeap) : callAt (n + 1) 2 args h = fnR 2 (b2 (callAt n)) args h := rfl
theorem at3 (n : Nat) (args : List EV) (h : SHeap) : callAt (n + 1) 3 args h = fnR 3 (b3 (callAt n)) args h := rfl
theorem at4 (n : Nat) (args : List EV) (h : SHeap) : callAt (n + 1) 4 args h = fnR 3 (b4 (callAt n)) args h := rfl
theorem at5 (n : Nat) (args : List EV) (h : SHeap) : callAt (n + 1) 5 args h = fnR 1 (b5 (callAt n)) args h := rfl
theorem at6 (n : Nat) (args : List EV) (h : SHeap) : callAt (n + 1) 6 args h = fnR 1 (b6 (callAt n)) args h := rfl
theorem at7 (n : Nat) (args : List EV) (h : SHeap) : callAt (n + 1) 7 args h = fnR 2 (b7 (callAt n)) args h := rfl
theorem at8 (n : Nat) (args : List EV) (h : SHeap) : callAt (n + 1) 8 args h = fnR 3 (b8 (callAt n)) args h := rfl
theorem at9 (n : Nat) (args : List EV) (h : SHeap) : callAt (n + 1) 9 args h = fnR 2 (b9 (callAt n)) args h := rfl
theorem at10 (n : Nat) (args : List EV) (h : SHeap) : callAt (n + 1) 10 args h = fnR 4 (b10 (callAt n)) args h := rfl
theorem at11 (n : Nat) (args : List EV) (h : SHeap) : callAt (n + 1) 11 args h = fnR 3 (b11 (callAt n)) args h := rfl
theorem at12 (n : Nat) (args : List EV) (h : SHeap) : callAt (n + 1) 12 args h = fnR 3 (b12 (callAt n)) args h := rfl
theorem at13 (n : Nat) (args : List EV) (h : SHeap) : callAt (n + 1) 13 args h = fnR 4 (b13 (callAt n)) args h := rfl
theorem at14 (n : Nat) (args : List EV) (h : SHeap) : callAt (n + 1) 14 args h = fnR 16 (b14 (callAt n)) args h := rfl
theorem at15 (n : Nat) (args : List EV) (h : SHeap) : callAt (n + 1) 15 args h = fnR 6 (b15 (callAt n)) args h := rfl
abbrev FnP (K : PySem.W.Frag) (x : Str) (st : Stmt) (f : Addr) (fd : FuncData) : Prop := FunD K x x (defArgs st) (defBody st) (defScope st) [] [] f fd
structure Fns (K : PySem.W.Frag) (mg : Str → Option Value) : Prop where
  d0 : ∃ fa fd, mg "is_whole" = some (.ref fa) ∧ FnP K "is_whole" (top 4) fa fd
  d1 : ∃ fa fd, mg "is_tuple_of" = some (.ref fa) ∧ FnP K "is_tuple_of" (top 5) fa fd
  d2 : ∃ fa fd, mg "need_octets" = some (.ref fa) ∧ FnP K "need_octets" (top 8) fa fd
  d3 : ∃ fa fd, mg "check_in" = some (.ref fa) ∧ FnP K "check_in" (top 13) fa fd
  d4 : ∃ fa fd, mg "power_of" = some (.ref fa) ∧ FnP K "power_of" (top 14) fa fd
  d5 : ∃ fa fd, mg "check_of" = some (.ref fa) ∧ FnP K "check_of" (top 15) fa fd
  d6 : ∃ fa fd, mg "need_check" = some (.ref fa) ∧ FnP K "need_check" (top 16) fa fd
  d7 : ∃ fa fd, mg "check_on" = some (.ref fa) ∧ FnP K "check_on" (top 17) fa fd
  d8 : ∃ fa fd, mg "check_joined" = some (.ref fa) ∧ FnP K "check_joined" (top 18) fa fd
  d9 : ∃ fa fd, mg "_law_cup" = some (.ref fa) ∧ FnP K "_law_cup" (top 20) fa fd
  d10 : ∃ fa fd, mg "_law_roll" = some (.ref fa) ∧ FnP K "_law_roll" (top 21) fa fd
  d11 : ∃ fa fd, mg "_law_same" = some (.ref fa) ∧ FnP K "_law_same" (top 22) fa fd
  d12 : ∃ fa fd, mg "_law_power" = some (.ref fa) ∧ FnP K "_law_power" (top 23) fa fd
  d13 : ∃ fa fd, mg "_law_sum" = some (.ref fa) ∧ FnP K "_law_sum" (top 24) fa fd
  d14 : ∃ fa fd, mg "_law_right" = some (.ref fa) ∧ FnP K "_law_right" (top 25) fa fd
  d15 : ∃ fa fd, mg "law" = some (.ref fa) ∧ FnP K "law" (top 26) fa fd
theorem calls {cf : Cfg} {P : Program} {w : World} {mg : Str → Option Value} {base : Heap} (m : Mg mg) (F : Fns cf.K mg) : ∀ k, CallsC cf P w mg base k (callAt k) tab
  | 0 => fun f x np e => by
    match f, e with
    | 0, e =>
      cases e
      obtain ⟨fa, fd, hm, D⟩ := F.d0
      exact ⟨fa, fd, ["value", "low", "high"], fn_zero (fun _ _ => rfl), hm, D.kp, D.bindsN fun _ _ _ _ _ _ us hl => match us, hl with | [_, _, _], _ => rfl⟩
    | 1, e =>
      cases e
      obtain ⟨fa, fd, hm, D⟩ := F.d1
      exact ⟨fa, fd, ["value", "low", "high"], fn_zero (fun _ _ => rfl), hm, D.kp, D.bindsN fun _ _ _ _ _ _ us hl => match us, hl with | [_, _, _], _ => rfl⟩
    | 2, e =>
      cases e
      obtain ⟨fa, fd, hm, D⟩ := F.d2
      exact ⟨fa, fd, ["octets"], fn_zero (fun _ _ => rfl), hm, D.kp, D.bindsN fun _ _ _ _ _ _ us hl => match us, hl with | [_], _ => rfl⟩
    | 3, e =>
      cases e
      obtain ⟨fa, fd, hm, D⟩ := F.d3
      exact ⟨fa, fd, ["check", "octets"], fn_zero (fun _ _ => rfl), hm, D.kp, D.bindsN fun _ _ _ _ _ _ us hl => match us, hl with | [_, _], _ => rfl⟩
    | 4, e =>
      cases e
      obtain ⟨fa, fd, hm, D⟩ := F.d4
      exact ⟨fa, fd, ["many"], fn_zero (fun _ _ => rfl), hm, D.kp, D.bindsN fun _ _ _ _ _ _ us hl => match us, hl with | [_], _ => rfl⟩
    | 5, e =>
      cases e
      obtain ⟨fa, fd, hm, D⟩ := F.d5
      exact ⟨fa, fd, ["octets"], fn_zero (fun _ _ => rfl), hm, D.kp, D.bindsN fun _ _ _ _ _ _ us hl => match us, hl with | [_], _ => rfl⟩
    | 6, e =>
      cases e
      obtain ⟨fa, fd, hm, D⟩ := F.d6
      exact ⟨fa, fd, ["check"], fn_zero (fun _ _ => rfl), hm, D.kp, D.bindsN fun _ _ _ _ _ _ us hl => match us, hl with | [_], _ => rfl⟩
    | 7, e =>
      cases e
      obtain ⟨fa, fd, hm, D⟩ := F.d7
      exact ⟨fa, fd, ["check", "octets"], fn_zero (fun _ _ => rfl), hm, D.kp, D.bindsN fun _ _ _ _ _ _ us hl => match us, hl with | [_, _], _ => rfl⟩
    | 8, e =>
      cases e
      obtain ⟨fa, fd, hm, D⟩ := F.d8
      exact ⟨fa, fd, ["one", "other", "many"], fn_zero (fun _ _ => rfl), hm, D.kp, D.bindsN fun _ _ _ _ _ _ us hl => match us, hl with | [_, _, _], _ => rfl⟩
    | 9, e =>
      cases e
      obtain ⟨fa, fd, hm, D⟩ := F.d9
      exact ⟨fa, fd, ["script"], fn_zero (fun _ _ => rfl), hm, D.kp, D.bindsN fun _ _ _ _ _ _ us hl => match us, hl with | [_], _ => rfl⟩
    | 10, e =>
      cases e
      obtain ⟨fa, fd, hm, D⟩ := F.d10
      exact ⟨fa, fd, ["cup", "many"], fn_zero (fun _ _ => rfl), hm, D.kp, D.bindsN fun _ _ _ _ _ _ us hl => match us, hl with | [_, _], _ => rfl⟩
    | 11, e =>
      cases e
      obtain ⟨fa, fd, hm, D⟩ := F.d11
      exact ⟨fa, fd, ["told", "due"], fn_zero (fun _ _ => rfl), hm, D.kp, D.bindsN fun _ _ _ _ _ _ us hl => match us, hl with | [_, _], _ => rfl⟩
    | 12, e =>
      cases e
      obtain ⟨fa, fd, hm, D⟩ := F.d12
      exact ⟨fa, fd, ["many"], fn_zero (fun _ _ => rfl), hm, D.kp, D.bindsN fun _ _ _ _ _ _ us hl => match us, hl with | [_], _ => rfl⟩
    | 13, e =>
      cases e
      obtain ⟨fa, fd, hm, D⟩ := F.d13
      exact ⟨fa, fd, ["octets"], fn_zero (fun _ _ => rfl), hm, D.kp, D.bindsN fun _ _ _ _ _ _ us hl => match us, hl with | [_], _ => rfl⟩
    | 14, e =>
      cases e
      obtain ⟨fa, fd, hm, D⟩ := F.d14
      exact ⟨fa, fd, ["cup", "most"], fn_zero (fun _ _ => rfl), hm, D.kp, D.bindsN fun _ _ _ _ _ _ us hl => match us, hl with | [_, _], _ => rfl⟩
    | 15, e =>
      cases e
      obtain ⟨fa, fd, hm, D⟩ := F.d15
      exact ⟨fa, fd, ["script"], fn_zero (fun _ _ => rfl), hm, D.kp, D.bindsN fun _ _ _ _ _ _ us hl => match us, hl with | [_], _ => rfl⟩
    | n + 16, e => exact absurd e (by simp [tab])
  | k + 1 => fun f x np e => by
    have ih := calls (P := P) (w := w) (base := base) m F k
    match f, e with
    | 0, e =>
      cases e
      obtain ⟨fa, fd, hm, D⟩ := F.d0
      exact ⟨fa, fd, ["value", "low", "high"], fn_step D sc0 rfl (fun _ _ => rfl) (w0 m ih fa), hm, D.kp, D.bindsN fun _ _ _ _ _ _ us hl => match us, hl with | [_, _, _], _ => rfl⟩
    | 1, e =>
      cases e
      obtain ⟨fa, fd, hm, D⟩ := F.d1
      exact ⟨fa, fd, ["value", "low", "high"], fn_step D sc1 rfl (fun _ _ => rfl) (w1 m ih fa), hm, D.kp, D.bindsN fun _ _ _ _ _ _ us hl => match us, hl with | [_, _, _], _ => rfl⟩
    | 2, e =>
      cases e
      obtain ⟨fa, fd, hm, D⟩ := F.d2
      exact ⟨fa, fd, ["octets"], fn_step D sc2 rfl (fun _ _ => rfl) (w2 m ih fa), hm, D.kp, D.bindsN fun _ _ _ _ _ _ us hl => match us, hl with | [_], _ => rfl⟩
    | 3, e =>
      cases e
      obtain ⟨fa, fd, hm, D⟩ := F.d3
      exact ⟨fa, fd, ["check", "octets"], fn_step D sc3 rfl (fun _ _ => rfl) (w3 m ih fa), hm, D.kp, D.bindsN fun _ _ _ _ _ _ us hl => match us, hl with | [_, _], _ => rfl⟩
    | 4, e =>
      cases e
      obtain ⟨fa, fd, hm, D⟩ := F.d4
      exact ⟨fa, fd, ["many"], fn_step D sc4 rfl (fun _ _ => rfl) (w4 m ih fa), hm, D.kp, D.bindsN fun _ _ _ _ _ _ us hl => match us, hl with | [_], _ => rfl⟩
    | 5, e =>
      cases e
      obtain ⟨fa, fd, hm, D⟩ := F.d5
      exact ⟨fa, fd, ["octets"], fn_step D sc5 rfl (fun _ _ => rfl) (w5 m ih fa), hm, D.kp, D.bindsN fun _ _ _ _ _ _ us hl => match us, hl with | [_], _ => rfl⟩
    | 6, e =>
      cases e
      obtain ⟨fa, fd, hm, D⟩ := F.d6
      exact ⟨fa, fd, ["check"], fn_step D sc6 rfl (fun _ _ => rfl) (w6 m ih fa), hm, D.kp, D.bindsN fun _ _ _ _ _ _ us hl => match us, hl with | [_], _ => rfl⟩
    | 7, e =>
      cases e
      obtain ⟨fa, fd, hm, D⟩ := F.d7
      exact ⟨fa, fd, ["check", "octets"], fn_step D sc7 rfl (fun _ _ => rfl) (w7 m ih fa), hm, D.kp, D.bindsN fun _ _ _ _ _ _ us hl => match us, hl with | [_, _], _ => rfl⟩
    | 8, e =>
      cases e
      obtain ⟨fa, fd, hm, D⟩ := F.d8
      exact ⟨fa, fd, ["one", "other", "many"], fn_step D sc8 rfl (fun _ _ => rfl) (w8 m ih fa), hm, D.kp, D.bindsN fun _ _ _ _ _ _ us hl => match us, hl with | [_, _, _], _ => rfl⟩
    | 9, e =>
      cases e
      obtain ⟨fa, fd, hm, D⟩ := F.d9
      exact ⟨fa, fd, ["script"], fn_step D sc9 rfl (fun _ _ => rfl) (w9 m ih fa), hm, D.kp, D.bindsN fun _ _ _ _ _ _ us hl => match us, hl with | [_], _ => rfl⟩
    | 10, e =>
      cases e
      obtain ⟨fa, fd, hm, D⟩ := F.d10
      exact ⟨fa, fd, ["cup", "many"], fn_step D sc10 rfl (fun _ _ => rfl) (w10 m ih fa), hm, D.kp, D.bindsN fun _ _ _ _ _ _ us hl => match us, hl with | [_, _], _ => rfl⟩
    | 11, e =>
      cases e
      obtain ⟨fa, fd, hm, D⟩ := F.d11
      exact ⟨fa, fd, ["told", "due"], fn_step D sc11 rfl (fun _ _ => rfl) (w11 m ih fa), hm, D.kp, D.bindsN fun _ _ _ _ _ _ us hl => match us, hl with | [_, _], _ => rfl⟩
    | 12, e =>
      cases e
      obtain ⟨fa, fd, hm, D⟩ := F.d12
      exact ⟨fa, fd, ["many"], fn_step D sc12 rfl (fun _ _ => rfl) (w12 m ih fa), hm, D.kp, D.bindsN fun _ _ _ _ _ _ us hl => match us, hl with | [_], _ => rfl⟩
    | 13, e =>
      cases e
      obtain ⟨fa, fd, hm, D⟩ := F.d13
      exact ⟨fa, fd, ["octets"], fn_step D sc13 rfl (fun _ _ => rfl) (w13 m ih fa), hm, D.kp, D.bindsN fun _ _ _ _ _ _ us hl => match us, hl with | [_], _ => rfl⟩
    | 14, e =>
      cases e
      obtain ⟨fa, fd, hm, D⟩ := F.d14
      exact ⟨fa, fd, ["cup", "most"], fn_step D sc14 rfl (fun _ _ => rfl) (w14 m ih fa), hm, D.kp, D.bindsN fun _ _ _ _ _ _ us hl => match us, hl with | [_, _], _ => rfl⟩
    | 15, e =>
      cases e
      obtain ⟨fa, fd, hm, D⟩ := F.d15
      exact ⟨fa, fd, ["script"], fn_step D sc15 rfl (fun _ _ => rfl) (w15 m ih fa), hm, D.kp, D.bindsN fun _ _ _ _ _ _ us hl => match us, hl with | [_], _ => rfl⟩
    | n + 16, e => exact absurd e (by simp [tab])
/-! ### the head -/
def fn : List He.DefD := [⟨("is_whole", none), "is_whole", "is_whole", defArgs (top 4), defBody (top 4), defScope (top 4), [], []⟩,
  ⟨("is_tuple_of", none), "is_tuple_of", "is_tuple_of", defArgs (top 5), defBody (top 5), defScope (top 5), [], []⟩,
  ⟨("need_octets", none), "need_octets", "need_octets", defArgs (top 8), defBody (top 8), defScope (top 8), [], []⟩,
  ⟨("check_in", none), "check_in", "check_in", defArgs (top 13), defBody (top 13), defScope (top 13), [], []⟩,
  ⟨("power_of", none), "power_of", "power_of", defArgs (top 14), defBody (top 14), defScope (top 14), [], []⟩,
  ⟨("check_of", none), "check_of", "check_of", defArgs (top 15), defBody (top 15), defScope (top 15), [], []⟩,
  ⟨("need_check", none), "need_check", "need_check", defArgs (top 16), defBody (top 16), defScope (top 16), [], []⟩,
  ⟨("check_on", none), "check_on", "check_on", defArgs (top 17), defBody (top 17), defScope (top 17), [], []⟩,
  ⟨("check_joined", none), "check_joined", "check_joined", defArgs (top 18), defBody (top 18), defScope (top 18), [], []⟩,
  ⟨("_law_cup", none), "_law_cup", "_law_cup", defArgs (top 20), defBody (top 20), defScope (top 20), [], []⟩,
  ⟨("_law_roll", none), "_law_roll", "_law_roll", defArgs (top 21), defBody (top 21), defScope (top 21), [], []⟩,
  ⟨("_law_same", none), "_law_same", "_law_same", defArgs (top 22), defBody (top 22), defScope (top 22), [], []⟩,
  ⟨("_law_power", none), "_law_power", "_law_power", defArgs (top 23), defBody (top 23), defScope (top 23), [], []⟩,
  ⟨("_law_sum", none), "_law_sum", "_law_sum", defArgs (top 24), defBody (top 24), defScope (top 24), [], []⟩,
  ⟨("_law_right", none), "_law_right", "_law_right", defArgs (top 25), defBody (top 25), defScope (top 25), [], []⟩,
  ⟨("law", none), "law", "law", defArgs (top 26), defBody (top 26), defScope (top 26), [], []⟩]
def fa : List He.Fa := [.glo "is_whole", .glo "is_tuple_of", .glo "need_octets", .glo "check_in", .glo "power_of", .glo "check_of", .glo "need_check", .glo "check_on", .glo "check_joined", .glo "_law_cup", .glo "_law_roll", .glo "_law_same", .glo "_law_power", .glo "_law_sum", .glo "_law_right", .glo "law", .free "abs", .free "all", .free "bool", .free "int", .free "isinstance", .free "len", .free "list", .free "range", .free "str", .free "tuple", .int "BEGIN" 7, .int "OCTETS" 200000, .int "PRIME" 4294967291, .int "STEP" 1000003]
def nm0 : List Str := ["SeriesError", "InvalidNumber", "is_whole", "is_tuple_of", "OCTETS", "need_octets", "PRIME", "STEP", "BEGIN", "check_in", "power_of", "check_of", "need_check", "check_on", "check_joined", "_law_cup", "_law_roll", "_law_same", "_law_power", "_law_sum", "_law_right"]
def names : List Str := nm0
abbrev RwO : PySem.W.OpenRow := PySem.W.OpenLaw.row PySem.Challenge.rw_serieskept_k08_whole_checks_of_octets
abbrev hk : PySem.W.Hook := He.hookD 4 fa fn
def ob (s : PySem.W.SharedT) : He.AlD := He.obsDG 4 fa fn (HandSHeadRun.getT s)
theorem ob_eq (s : PySem.W.SharedT) : ob s = hk.obs s.abs := He.obsDG_eq (HandSHeadRun.getT_eq s)
theorem run (w : World) : HandSHeadRun.RunEq RwO (PySem.W.view RwO.prog [26]) hk ob 4000 names w := by
  intro os
  kernel_rfl
theorem mg_of {K : PySem.W.Frag} {h : Heap} {mg : Str → Option Value} (X : K.In h) (G : h.Ns mainGlobals mg) (c : He.SaysD fa fn K) : Mg mg := ⟨He.free_ok X G (c.fact 16 (f := .free "abs") rfl), He.free_ok X G (c.fact 17 (f := .free "all") rfl), He.free_ok X G (c.fact 18 (f := .free "bool") rfl), He.free_ok X G (c.fact 19 (f := .free "int") rfl), He.free_ok X G (c.fact 20 (f := .free "isinstance") rfl), He.free_ok X G (c.fact 21 (f := .free "len") rfl), He.free_ok X G (c.fact 22 (f := .free "list") rfl), He.free_ok X G (c.fact 23 (f := .free "range") rfl), He.free_ok X G (c.fact 24 (f := .free "str") rfl), He.free_ok X G (c.fact 25 (f := .free "tuple") rfl), He.int_ok X G (c.fact 26 (f := .int "BEGIN" 7) rfl), He.int_ok X G (c.fact 27 (f := .int "OCTETS" 200000) rfl), He.int_ok X G (c.fact 28 (f := .int "PRIME" 4294967291) rfl), He.int_ok X G (c.fact 29 (f := .int "STEP" 1000003) rfl)⟩
theorem fns_of {K : PySem.W.Frag} {h : Heap} {mg : Str → Option Value} (X : K.In h) (G : h.Ns mainGlobals mg) (c : He.SaysD fa fn K) : Fns K mg := ⟨let ⟨fd, D⟩ := c.def_ 0 (d := ⟨("is_whole", none), "is_whole", "is_whole", defArgs (top 4), defBody (top 4), defScope (top 4), [], []⟩) rfl; ⟨_, fd, He.glo_ok X G (c.fact 0 (f := .glo "is_whole") rfl), D⟩,
  let ⟨fd, D⟩ := c.def_ 1 (d := ⟨("is_tuple_of", none), "is_tuple_of", "is_tuple_of", defArgs (top 5), defBody (top 5), defScope (top 5), [], []⟩) rfl; ⟨_, fd, He.glo_ok X G (c.fact 1 (f := .glo "is_tuple_of") rfl), D⟩,
  let ⟨fd, D⟩ := c.def_ 2 (d := ⟨("need_octets", none), "need_octets", "need_octets", defArgs (top 8), defBody (top 8), defScope (top 8), [], []⟩) rfl; ⟨_, fd, He.glo_ok X G (c.fact 2 (f := .glo "need_octets") rfl), D⟩,
  let ⟨fd, D⟩ := c.def_ 3 (d := ⟨("check_in", none), "check_in", "check_in", defArgs (top 13), defBody (top 13), defScope (top 13), [], []⟩) rfl; ⟨_, fd, He.glo_ok X G (c.fact 3 (f := .glo "check_in") rfl), D⟩,
  let ⟨fd, D⟩ := c.def_ 4 (d := ⟨("power_of", none), "power_of", "power_of", defArgs (top 14), defBody (top 14), defScope (top 14), [], []⟩) rfl; ⟨_, fd, He.glo_ok X G (c.fact 4 (f := .glo "power_of") rfl), D⟩,
  let ⟨fd, D⟩ := c.def_ 5 (d := ⟨("check_of", none), "check_of", "check_of", defArgs (top 15), defBody (top 15), defScope (top 15), [], []⟩) rfl; ⟨_, fd, He.glo_ok X G (c.fact 5 (f := .glo "check_of") rfl), D⟩,
  let ⟨fd, D⟩ := c.def_ 6 (d := ⟨("need_check", none), "need_check", "need_check", defArgs (top 16), defBody (top 16), defScope (top 16), [], []⟩) rfl; ⟨_, fd, He.glo_ok X G (c.fact 6 (f := .glo "need_check") rfl), D⟩,
  let ⟨fd, D⟩ := c.def_ 7 (d := ⟨("check_on", none), "check_on", "check_on", defArgs (top 17), defBody (top 17), defScope (top 17), [], []⟩) rfl; ⟨_, fd, He.glo_ok X G (c.fact 7 (f := .glo "check_on") rfl), D⟩,
  let ⟨fd, D⟩ := c.def_ 8 (d := ⟨("check_joined", none), "check_joined", "check_joined", defArgs (top 18), defBody (top 18), defScope (top 18), [], []⟩) rfl; ⟨_, fd, He.glo_ok X G (c.fact 8 (f := .glo "check_joined") rfl), D⟩,
  let ⟨fd, D⟩ := c.def_ 9 (d := ⟨("_law_cup", none), "_law_cup", "_law_cup", defArgs (top 20), defBody (top 20), defScope (top 20), [], []⟩) rfl; ⟨_, fd, He.glo_ok X G (c.fact 9 (f := .glo "_law_cup") rfl), D⟩,
  let ⟨fd, D⟩ := c.def_ 10 (d := ⟨("_law_roll", none), "_law_roll", "_law_roll", defArgs (top 21), defBody (top 21), defScope (top 21), [], []⟩) rfl; ⟨_, fd, He.glo_ok X G (c.fact 10 (f := .glo "_law_roll") rfl), D⟩,
  let ⟨fd, D⟩ := c.def_ 11 (d := ⟨("_law_same", none), "_law_same", "_law_same", defArgs (top 22), defBody (top 22), defScope (top 22), [], []⟩) rfl; ⟨_, fd, He.glo_ok X G (c.fact 11 (f := .glo "_law_same") rfl), D⟩,
  let ⟨fd, D⟩ := c.def_ 12 (d := ⟨("_law_power", none), "_law_power", "_law_power", defArgs (top 23), defBody (top 23), defScope (top 23), [], []⟩) rfl; ⟨_, fd, He.glo_ok X G (c.fact 12 (f := .glo "_law_power") rfl), D⟩,
  let ⟨fd, D⟩ := c.def_ 13 (d := ⟨("_law_sum", none), "_law_sum", "_law_sum", defArgs (top 24), defBody (top 24), defScope (top 24), [], []⟩) rfl; ⟨_, fd, He.glo_ok X G (c.fact 13 (f := .glo "_law_sum") rfl), D⟩,
  let ⟨fd, D⟩ := c.def_ 14 (d := ⟨("_law_right", none), "_law_right", "_law_right", defArgs (top 25), defBody (top 25), defScope (top 25), [], []⟩) rfl; ⟨_, fd, He.glo_ok X G (c.fact 14 (f := .glo "_law_right") rfl), D⟩,
  let ⟨fd, D⟩ := c.def_ 15 (d := ⟨("law", none), "law", "law", defArgs (top 26), defBody (top 26), defScope (top 26), [], []⟩) rfl; ⟨_, fd, He.glo_ok X G (c.fact 15 (f := .glo "law") rfl), D⟩⟩
theorem at_law {w : World} {mg : Str → Option Value} {fa' : Addr} {h : Heap} {K : PySem.W.Frag} {k : Nat} (X : K.In h) (G : h.Ns mainGlobals mg) (c : He.SaysD fa fn K) (hm : mg ("law" : Str) = some (.ref fa'))
    (hl : ∀ ns : List Int, ns.length ≤ 63 → (∀ z ∈ ns, Builtin.Int.intBits z ≤ 1048576) → ∃ h', callAt k 15 [.scr (ns.map .int)] [] = .ok (.pv (.bool true)) h') :
    LamX.LawAtS PySem.Challenge.rw_serieskept_k08_whole_checks_of_octets w K (L2.CX PySem.Challenge.rw_serieskept_k08_whole_checks_of_octets.prog w) k 63 "script" mg fa' h := by
  obtain ⟨fd, D⟩ := c.def_ 15 (d := ⟨("law", none), "law", "law", defArgs (top 26), defBody (top 26), defScope (top 26), [], []⟩) rfl
  have e := hm.symm.trans (He.glo_ok X G (c.fact 15 (f := .glo "law") rfl))
  cases e
  have b := FunD.bindsA (ps := ["script"]) D fun _ _ _ _ _ _ us hl => match us, hl with | [_], _ => rfl
  refine law_at (cf := ⟨K, fun _ => 0⟩) (f := 15) (C := callAt k) (fun s v => b s [v] rfl) hl fun base h1 h2 => ?_
  have M := mg_of h1 h2 c
  have Fs := fns_of h1 h2 c
  match k with
  | 0 => exact fn_zero fun _ _ => rfl
  | k + 1 => exact fn_step D sc15 rfl (fun _ _ => rfl) (w15 M (calls M Fs k) _)
end LW

set_option maxRecDepth 100000
set_option maxHeartbeats 1000000
namespace LW
open PySem PySem.Spec PyProof.Rows L2 SM

theorem ok0 (n : Nat) (v lo hi : Int) (h : SHeap) : callAt (n + 1) 0 [.pv (.int v), .pv (.int lo), .pv (.int hi)] h = .ok (.pv (.bool (decide (lo ≤ v) && decide (v ≤ hi)))) h := by
  show fnR 3 (b0 (callAt n)) _ _ = _
  unfold b0
  simp
  by_cases h1 : lo ≤ v <;> simp [h1]
theorem ok1 (n : Nat) (xs : List PV) (lo hi : Int) (h : SHeap) : callAt (n + 1) 1 [.pv (.tuple xs), .pv (.int lo), .pv (.int hi)] h = .ok (.pv (.bool (decide (lo ≤ (xs.length : Int)) && decide ((xs.length : Int) ≤ hi)))) h := by
  show fnR 3 (b1 (callAt n)) _ _ = _
  unfold b1
  simp
  by_cases h1 : lo ≤ (xs.length : Int) <;> simp [h1]
/-- octets -/
def Oct (o : Int) : Prop := 0 ≤ o ∧ o ≤ 255
def zsP (xs : List Int) : List PV := xs.map .int
theorem comp2 (n : Nat) (ρ : REnv) (hρ : ρ.length = 2) : ∀ (xs : List Int) (h : SHeap), (∀ x ∈ xs, Oct x) →
    compL (.nm 1) none (rCall (callAt (n + 1)) 0 3 (evCons (rVar 1) (evCons (rCst (.int 0)) (evCons (rCst (.int 255)) (fun _ h => .ok [] h))))) ρ (xs.map fun x => .pv (.int x)) h = .ok (xs.map fun _ => .bool true) h
  | [], h, _ => rfl
  | x :: xs, h, q => by
    have e1 : (ρ.set 1 (some (.pv (.int x))))[1]? = some (some (.pv (.int x))) := List.getElem?_set_self (by omega)
    have hx := q x (by simp)
    have ih := comp2 n ρ hρ xs h fun y hy => q y (by simp [hy])
    unfold compL
    simp only [List.map_cons, bindT]
    simp [e1, ok0, hx.1, hx.2, ih]
theorem all_true : ∀ xs : List Int, (xs.map fun _ => true).all id = true
  | [] => rfl
  | x :: xs => by simp
theorem bools_true : ∀ xs : List Int, bools (xs.map fun _ => .bool true) = some (xs.map fun _ => true)
  | [] => rfl
  | x :: xs => by simp [bools, bools_true xs]
theorem ok2 (n : Nat) (xs : List Int) (h : SHeap) (hx : ∀ x ∈ xs, Oct x) (hl : xs.length ≤ 200000) : callAt (n + 2) 2 [.pv (.tuple (zsP xs))] h = .ok (.pv .none) h := by
  show fnR 2 (b2 (callAt (n + 1))) _ _ = _
  unfold b2 zsP
  have hl2 : ((xs.length : Nat) : Int) ≤ 200000 := by omega
  have c := comp2 n [some (.pv (.tuple (xs.map .int))), none] rfl xs (h ++ [.busy]) hx
  have sz : xs.length ≤ 16777216 := by omega
  have e3 : (xs.map PyData.int).map EV.pv = xs.map fun x => .pv (.int x) := by simp
  have ea : fAll [.ref h.length] (h ++ [.lst (xs.map fun _ => .bool true)]) = .ok (.pv (.bool true)) (h ++ [.lst (xs.map fun _ => .bool true)]) := by
    rw [f_allR (by simp) (bools_true xs), all_true]
  simp [ok1, hl2, compR, e3, wipeE, c, sz, unl, ea]
end LW

set_option maxRecDepth 100000
set_option maxHeartbeats 1000000
namespace LW
open PySem PySem.Spec PyProof.Rows L2 SM


/-! ### plain arithmetic -/
def stepc (c o : Int) : Int := (c * 1000003 + o + 1) % 4294967291
def F (c : Int) (xs : List Int) : Int := xs.foldl stepc c
def pw (m : Nat) : Int := (1000003 ^ m : Int) % 4294967291
theorem lgI {i : Int} {k : Nat} (hk : 0 < k) (h : i.natAbs < 2 ^ k) : i.natAbs.log2 < k := by
  by_cases z : i.natAbs = 0
  · rw [z]; exact hk
  · exact (Nat.log2_lt z).mpr h
theorem mulS {i j : Int} (h1 : i.natAbs < 2 ^ 1000) (h2 : j.natAbs < 2 ^ 1000) : mulOk i j = true := by
  have a := lgI (by omega) h1
  have b := lgI (by omega) h2
  exact decide_eq_true (by omega)
theorem big64 {n : Nat} (h : n < 18446744073709551616) : n < 2 ^ 1000 := Nat.lt_of_lt_of_le h (by decide)
theorem mul64 {i j : Int} (h1 : i.natAbs < 18446744073709551616) (h2 : j.natAbs < 18446744073709551616) : mulOk i j = true := mulS (big64 h1) (big64 h2)
theorem modR (x : Int) : 0 ≤ x % 4294967291 ∧ x % 4294967291 < 4294967291 := ⟨Int.emod_nonneg _ (by decide), Int.emod_lt_of_pos _ (by decide)⟩
theorem F_rng {c : Int} (h : 0 ≤ c ∧ c < 4294967291) : ∀ xs : List Int, 0 ≤ F c xs ∧ F c xs < 4294967291
  | [] => h
  | x :: xs => by
    show 0 ≤ F (stepc c x) xs ∧ F (stepc c x) xs < 4294967291
    exact F_rng (modR _) xs
theorem pw_rng (m : Nat) : 0 ≤ pw m ∧ pw m < 4294967291 := modR _

/-! ### check_in -/
def body3 : REnv → SHeap → FR := (rSeq (rSet 0 (rOp (opBin .Mod) (rOp (opBin .Add) (rOp (opBin .Add) (rOp (opBin .Mult) (rVar 0) (rCst (.int 1000003))) (rVar 2)) (rCst (.int 1))) (rCst (.int 4294967291)))) (fun ρ h => .nx ρ h))
theorem loop3 (T : Option EV) (h : SHeap) : ∀ (xs : List Int) (c : Int) (v : Option EV), 0 ≤ c ∧ c < 4294967291 → ∃ v', forL (.nm 2) body3 (xs.map fun x => .pv (.int x)) [some (.pv (.int c)), T, v] h = .nx [some (.pv (.int (F c xs))), T, v'] h
  | [], c, v, _ => ⟨v, rfl⟩
  | x :: xs, c, v, hc => by
    obtain ⟨v', e⟩ := loop3 T h xs (stepc c x) (some (.pv (.int x))) (modR _)
    refine ⟨v', ?_⟩
    have m : mulOk c 1000003 = true := mul64 (by omega) (by decide)
    have eb : body3 [some (.pv (.int c)), T, some (.pv (.int x))] h = .nx [some (.pv (.int (stepc c x))), T, some (.pv (.int x))] h := by
      unfold body3 stepc
      simp [m]
    show forL (.nm 2) body3 (.pv (.int x) :: xs.map fun x => .pv (.int x)) _ h = _
    unfold forL
    simp only [bindT, List.set_cons_succ, List.set_cons_zero, eb]
    exact e
theorem ok3 (n : Nat) (c : Int) (xs : List Int) (h : SHeap) (hc : 0 ≤ c ∧ c < 4294967291) : callAt (n + 1) 3 [.pv (.int c), .pv (.tuple (zsP xs))] h = .ok (.pv (.int (F c xs))) h := by
  obtain ⟨v', e⟩ := loop3 (some (.pv (.tuple (zsP xs)))) h xs c none hc
  have e3 : (zsP xs).map EV.pv = xs.map fun x => .pv (.int x) := by simp [zsP]
  show SM.finish h.length (rSeq (rFor (iVal (rVar 1)) (.nm 2) body3) (rSeq (rRet (rVar 0)) (fun ρ h => .nx ρ h)) [some (.pv (.int c)), some (.pv (.tuple (zsP xs))), none] h) = _
  simp [e3, e]

/-! ### power_of -/
def test4 : REnv → SHeap → SM.R := (rOp (cmpF .Gt) (rVar 0) (rCst (.int 0)))
def body4 : REnv → SHeap → FR := (rSeq (par3 1 2 0 (evCons (rIfe (rOp (cmpF .Eq) (rOp (opBin .Mod) (rVar 0) (rCst (.int 2))) (rCst (.int 1))) (rOp (opBin .Mod) (rOp (opBin .Mult) (rVar 1) (rVar 2)) (rCst (.int 4294967291))) (rVar 1)) (evCons (rOp (opBin .Mod) (rOp (opBin .Mult) (rVar 2) (rVar 2)) (rCst (.int 4294967291))) (evCons (rOp (opBin .FloorDiv) (rVar 0) (rCst (.int 2))) (fun _ h => .ok [] h))))) (fun ρ h => .nx ρ h))
def body12 : REnv → SHeap → FR := (rSeq (par3 1 2 0 (evCons (rIfe (rOp (cmpF .Eq) (rOp (opBin .Mod) (rBi fInt (evCons (rVar 0) (fun _ h => .ok [] h))) (rCst (.int 2))) (rCst (.int 1))) (rOp (opBin .Mod) (rBi fInt (evCons (rOp (opBin .Mult) (rVar 1) (rVar 2)) (fun _ h => .ok [] h))) (rCst (.int 4294967291))) (rVar 1)) (evCons (rOp (opBin .Mod) (rBi fInt (evCons (rOp (opBin .Mult) (rVar 2) (rVar 2)) (fun _ h => .ok [] h))) (rCst (.int 4294967291))) (evCons (rOp (opBin .FloorDiv) (rVar 0) (rCst (.int 2))) (fun _ h => .ok [] h))))) (fun ρ h => .nx ρ h))
abbrev st4 (m f o : Int) : REnv := [some (.pv (.int m)), some (.pv (.int f)), some (.pv (.int o))]
theorem turn4 (m f o : Int) (h : SHeap) (hf : 0 ≤ f ∧ f < 4294967291) (ho : 0 ≤ o ∧ o < 4294967291) : body4 (st4 m f o) h = .nx (st4 (m / 2) (if m % 2 = 1 then f * o % 4294967291 else f) (o * o % 4294967291)) h := by
  have m1 : mulOk f o = true := mul64 (by omega) (by omega)
  have m2 : mulOk o o = true := mul64 (by omega) (by omega)
  have l2 : Nat.log2 2 < 9000 := by decide +kernel
  unfold body4
  by_cases e : m % 2 = 1 <;> simp [m1, m2, l2, e]
theorem turn12 (m f o : Int) (h : SHeap) (hf : 0 ≤ f ∧ f < 4294967291) (ho : 0 ≤ o ∧ o < 4294967291) : body12 (st4 m f o) h = .nx (st4 (m / 2) (if m % 2 = 1 then f * o % 4294967291 else f) (o * o % 4294967291)) h := by
  have m1 : mulOk f o = true := mul64 (by omega) (by omega)
  have m2 : mulOk o o = true := mul64 (by omega) (by omega)
  have l2 : Nat.log2 2 < 9000 := by decide +kernel
  unfold body12
  by_cases e : m % 2 = 1 <;> simp [m1, m2, l2, e]
theorem pow_half (f o : Int) (m : Nat) : (if (m : Int) % 2 = 1 then f * o % 4294967291 else f) * (o * o % 4294967291) ^ (m / 2) % 4294967291 = f * o ^ m % 4294967291 := by
  have e1 : ∀ (x y : Int) (k : Nat), x * (y % 4294967291) ^ k % 4294967291 = x * y ^ k % 4294967291 := fun x y k => by
    rw [Int.mul_emod, ← Int.emod_emod_of_dvd ((y % 4294967291) ^ k) (Int.dvd_refl _)]
    have : ∀ k : Nat, (y % 4294967291) ^ k % 4294967291 = y ^ k % 4294967291 := fun k => by
      induction k with
      | zero => simp
      | succ k ih => rw [Int.pow_succ, Int.pow_succ, Int.mul_emod, ih, Int.emod_emod_of_dvd _ (Int.dvd_refl _), ← Int.mul_emod]
    rw [Int.emod_emod_of_dvd _ (Int.dvd_refl _), this, ← Int.mul_emod]
  rw [e1]
  have e2 : (o * o) ^ (m / 2) = o ^ (2 * (m / 2)) := by rw [Int.pow_mul]; congr 1; rw [Int.pow_succ, Int.pow_succ, Int.pow_zero, Int.one_mul]
  by_cases z : (m : Int) % 2 = 1
  · rw [if_pos z, e2]
    have hm : m = 2 * (m / 2) + 1 := by omega
    have e3 : f * o ^ m = f * o * o ^ (2 * (m / 2)) := by
      conv => lhs; rw [hm, Int.pow_succ, Int.mul_comm (o ^ _) o, ← Int.mul_assoc]
    rw [e3, Int.mul_emod (f * o % 4294967291), Int.emod_emod_of_dvd _ (Int.dvd_refl _), ← Int.mul_emod]
  · rw [if_neg z, e2]
    have hm : m = 2 * (m / 2) := by omega
    conv => rhs; rw [hm]
theorem loop4 {rb : REnv → SHeap → FR} (hb : ∀ (m f o : Int) (h : SHeap), 0 ≤ f ∧ f < 4294967291 → 0 ≤ o ∧ o < 4294967291 → rb (st4 m f o) h = .nx (st4 (m / 2) (if m % 2 = 1 then f * o % 4294967291 else f) (o * o % 4294967291)) h) (h : SHeap) :
    ∀ (k m : Nat) (f o : Int) (fuel : Nat), m < 2 ^ k → k < fuel → 0 ≤ f ∧ f < 4294967291 → 0 ≤ o ∧ o < 4294967291 → ∃ o', whL test4 rb fuel (st4 m f o) h = .nx (st4 0 (f * o ^ m % 4294967291) o') h
  | k, m, f, o, 0, _, hk, _, _ => absurd hk (by omega)
  | k, m, f, o, fuel + 1, hm, hk, hf, ho => by
    have et : test4 (st4 m f o) h = .ok (.pv (.bool (decide ((0 : Int) < m)))) h := by simp [test4]
    by_cases z : m = 0
    · subst z
      refine ⟨o, ?_⟩
      have e : f * o ^ 0 % 4294967291 = f := by rw [Int.pow_zero, Int.mul_one]; exact Int.emod_eq_of_lt hf.1 hf.2
      unfold whL
      rw [et, e]
      simp
    · cases k with
      | zero => exact absurd hm (by omega)
      | succ k =>
        have hp : (0 : Int) < m := by omega
        obtain ⟨o', e⟩ := loop4 hb h k (m / 2) (if (m : Int) % 2 = 1 then f * o % 4294967291 else f) (o * o % 4294967291) fuel (by rw [Nat.pow_succ] at hm; omega) (by omega) (by split; exact modR _; exact hf) (modR _)
        refine ⟨o', ?_⟩
        have eh : ((m / 2 : Nat) : Int) = (m : Int) / 2 := by omega
        rw [pow_half, eh] at e
        unfold whL
        rw [et]
        simp only [RM.toF, onBlF, hp, decide_true, if_true, hb m f o h hf ho]
        exact e
theorem ok4 (n m : Nat) (h : SHeap) (hm : m < 2 ^ 64) : callAt (n + 1) 4 [.pv (.int m)] h = .ok (.pv (.int (pw m))) h := by
  obtain ⟨o', e⟩ := loop4 turn4 h 64 m 1 1000003 WF hm (by decide) (by decide) (by decide)
  have er : whL test4 body4 WF (st4 m 1 1000003) h = .nx (st4 0 (pw m) o') h := by
    rw [e]
    unfold pw
    rw [Int.one_mul]
  show SM.finish h.length (rSeq (par2 1 2 (evCons (rCst (.int 1)) (evCons (rCst (.int 1000003)) (fun _ h => .ok [] h)))) (rSeq (rWh test4 body4) (rSeq (rRet (rVar 1)) (fun ρ h => .nx ρ h))) [some (.pv (.int m)), none, none] h) = _
  simp [er]
theorem ok12 (n m : Nat) (h : SHeap) (hm : m < 2 ^ 64) : callAt (n + 1) 12 [.pv (.int m)] h = .ok (.pv (.int (pw m))) h := by
  obtain ⟨o', e⟩ := loop4 turn12 h 64 m 1 1000003 WF hm (by decide) (by decide) (by decide)
  have er : whL test4 body12 WF (st4 m 1 1000003) h = .nx (st4 0 (pw m) o') h := by
    rw [e]
    unfold pw
    rw [Int.one_mul]
  show SM.finish h.length (rSeq (rUnp (.tp (.cons (.nm 1) (.cons (.nm 2) .nil))) (rTup (evCons (rCst (.int 1)) (evCons (rCst (.int 1000003)) (fun _ h => .ok [] h))))) (rSeq (rWh test4 body12) (rSeq (rRet (rVar 1)) (fun ρ h => .nx ρ h))) [some (.pv (.int m)), none, none] h) = _
  simp [er]
end LW

set_option maxRecDepth 100000
set_option maxHeartbeats 1000000
namespace LW
open PySem PySem.Spec PyProof.Rows L2 SM

theorem ok6 (n : Nat) (c : Int) (h : SHeap) (hc : 0 ≤ c ∧ c < 4294967291) : callAt (n + 2) 6 [.pv (.int c)] h = .ok (.pv .none) h := by
  show fnR 1 (b6 (callAt (n + 1))) _ _ = _
  unfold b6
  have h2 : c ≤ 4294967290 := by omega
  simp [ok0, hc.1, h2]
theorem ok5 (n : Nat) (xs : List Int) (h : SHeap) (hx : ∀ x ∈ xs, Oct x) (hl : xs.length ≤ 200000) : callAt (n + 3) 5 [.pv (.tuple (zsP xs))] h = .ok (.pv (.int (F 7 xs))) h := by
  show fnR 1 (b5 (callAt (n + 2))) _ _ = _
  unfold b5
  simp [ok2 n xs h hx hl, ok3 (n + 1) 7 xs h (by decide)]
theorem ok7 (n : Nat) (c : Int) (xs : List Int) (h : SHeap) (hc : 0 ≤ c ∧ c < 4294967291) (hx : ∀ x ∈ xs, Oct x) (hl : xs.length ≤ 200000) : callAt (n + 3) 7 [.pv (.int c), .pv (.tuple (zsP xs))] h = .ok (.pv (.int (F c xs))) h := by
  show fnR 2 (b7 (callAt (n + 2))) _ _ = _
  unfold b7
  simp [ok2 n xs h hx hl, ok3 (n + 1) c xs h hc, ok6 n c h hc]
theorem ok8 (n : Nat) (a b : Int) (m : Nat) (h : SHeap) (ha : 0 ≤ a ∧ a < 4294967291) (hb : 0 ≤ b ∧ b < 4294967291) (hm : m ≤ 1000000000000000000) :
    callAt (n + 3) 8 [.pv (.int a), .pv (.int b), .pv (.int m)] h = .ok (.pv (.int ((b + (a - 7) * pw m) % 4294967291))) h := by
  show fnR 3 (b8 (callAt (n + 2))) _ _ = _
  unfold b8
  have hm2 : (m : Int) ≤ 1000000000000000000 := by omega
  have r := pw_rng m
  have mu : mulOk (a - 7) (pw m) = true := mul64 (by omega) (by omega)
  simp [ok6 n a h ha, ok6 n b h hb, ok0 (n + 1), hm2, ok4 (n + 1) m h (by omega), mu]
/-! ### the cup -/
def cupO (a b : Int) : SO := .lst [.int a, .int b]
structure Cup (a b : Int) : Prop where
  ha : 0 ≤ a
  hb : 0 ≤ b
  hb2 : b < 4294967296
theorem sub0 {a b : Int} {t : SHeap} : subF (.ref 0) (.pv (.int 0)) (cupO a b :: t) = .ok (.pv (.int a)) (cupO a b :: t) := by rw [ap_subR (ys := [.int a, .int b]) rfl]; rfl
theorem sub1 {a b : Int} {t : SHeap} : subF (.ref 0) (.pv (.int 1)) (cupO a b :: t) = .ok (.pv (.int b)) (cupO a b :: t) := by rw [ap_subR (ys := [.int a, .int b]) rfl]; rfl
theorem set0 {a b c : Int} {t : SHeap} {ρ : REnv} : setF (.ref 0) (.pv (.int 0)) (.pv (.int c)) ρ (cupO a b :: t) = .nx ρ (cupO c b :: t) := by rw [ap_setF (ys := [.int a, .int b]) (j := 0) rfl rfl]; rfl
theorem set1 {a b c : Int} {t : SHeap} {ρ : REnv} : setF (.ref 0) (.pv (.int 1)) (.pv (.int c)) ρ (cupO a b :: t) = .nx ρ (cupO a c :: t) := by rw [ap_setF (ys := [.int a, .int b]) (j := 1) rfl rfl]; rfl
theorem ok10 (n : Nat) (a b many : Int) (t : SHeap) (c : Cup a b) (h0 : 0 < many) (h1 : many < 4611686018427387904) :
    ∃ r a' b', Cup a' b' ∧ 0 ≤ r ∧ r < many ∧ callAt (n + 1) 10 [.ref 0, .pv (.int many)] (cupO a b :: t) = .ok (.pv (.int r)) (cupO a' b' :: t) := by
  have lg : many.natAbs.log2 < 9000 := by
    have := lgI (i := many) (k := 62) (by omega) (by omega)
    omega
  by_cases h : 0 < a
  · refine ⟨a % many, a / many, b, ⟨Int.ediv_nonneg c.ha (by omega), c.hb, c.hb2⟩, Int.emod_nonneg _ (by omega), Int.emod_lt_of_pos _ h0, ?_⟩
    show fnR 4 (b10 (callAt n)) _ _ = _
    unfold b10
    simp [h, h0, lg, sub0, sub1, set0, set1]
  · refine ⟨((b * 30881 + 7877) % 2147483399 * ((b * 30881 + 7877) % 2147483399 + 229) % 2147483563 / 811) % many, a, (b * 30881 + 7877) % 2147483399, ⟨c.ha, Int.emod_nonneg _ (by decide), Int.lt_trans (Int.emod_lt_of_pos _ (by decide)) (by decide)⟩, Int.emod_nonneg _ (by omega), Int.emod_lt_of_pos _ h0, ?_⟩
    · show fnR 4 (b10 (callAt n)) _ _ = _
      unfold b10
      have m1 : mulOk b 30881 = true := mul64 (by have := c.hb; have := c.hb2; omega) (by decide)
      have r1 : 0 ≤ (b * 30881 + 7877) % 2147483399 := Int.emod_nonneg _ (by decide)
      have r2 : (b * 30881 + 7877) % 2147483399 < 2147483399 := Int.emod_lt_of_pos _ (by decide)
      have m2 : mulOk ((b * 30881 + 7877) % 2147483399) ((b * 30881 + 7877) % 2147483399 + 229) = true := mul64 (by omega) (by omega)
      have l8 : Nat.log2 811 < 9000 := by decide +kernel
      simp [h, h0, lg, sub0, sub1, set0, set1, m1, m2, l8]
end LW

set_option maxRecDepth 100000
set_option maxHeartbeats 1000000
namespace LW
open PySem PySem.Spec PyProof.Rows L2 SM
theorem log_le {z : Int} (h : Builtin.Int.intBits z ≤ 1048576) : z.natAbs.log2 ≤ 1048576 := by
  unfold Builtin.Int.intBits at h
  split at h
  · rename_i e
    simp_all
  · omega
theorem ok9 (n : Nat) (ns : List Int) (hz : ∀ z ∈ ns, Builtin.Int.intBits z ≤ 1048576) (hl : ns.length ≤ 63) : ∃ a b, Cup a b ∧ callAt (n + 1) 9 [.scr (ns.map .int)] [] = .ok (.ref 0) [cupO a b] := by
  obtain ⟨z, hd, hb⟩ : ∃ z : Int, (atI ((ns.map PyData.int) ++ [.int 0]) 0 = some (.int z)) ∧ z.natAbs.log2 ≤ 1048576 := by
    cases ns with
    | nil => exact ⟨0, rfl, by decide⟩
    | cons z r => exact ⟨z, by simp [atI, ixN, show (0 : Int) < (r.length : Int) + 1 + 1 by omega], log_le (hz z (by simp))⟩
  have az : (if z < 0 then -z else z) = (z.natAbs : Int) := by split <;> omega
  have m1 : mulOk (z.natAbs : Int) 311 = true := by
    have e : (z.natAbs : Int).natAbs = z.natAbs := by omega
    refine decide_eq_true ?_
    rw [e]
    have : Int.natAbs 311 = 311 := rfl
    rw [this]
    have : Nat.log2 311 ≤ 20 := by decide +kernel
    omega
  have sz : ns.length ≤ 16777215 := by omega
  have l7 : Nat.log2 79 < 9000 := by decide +kernel
  have r0 : 0 ≤ ((z.natAbs : Int) * 311 + 4019) % 2077507117 := Int.emod_nonneg _ (by decide)
  have r1 : ((z.natAbs : Int) * 311 + 4019) % 2077507117 < 2077507117 := Int.emod_lt_of_pos _ (by decide)
  refine ⟨if 1000000000000000000 ≤ (z.natAbs : Int) then (z.natAbs : Int) / 79 else 0, ((z.natAbs : Int) * 311 + 4019) % 2077507117 + 157, ⟨by split <;> omega, by omega, by omega⟩, ?_⟩
  rw [at9]
  unfold b9 cupO
  by_cases hc : 1000000000000000000 ≤ (z.natAbs : Int)
  · simp [opBin, opAdd, addLists, Res.list?, ap_subR, hd, az, sz, l7, hc, m1]
  · simp [opBin, opAdd, addLists, Res.list?, ap_subR, hd, az, sz, l7, hc, m1]

/-! ### _law_same -/
theorem ok11i (n : Nat) (x : Int) (h : SHeap) : callAt (n + 1) 11 [.pv (.int x), .pv (.int x)] h = .ok (.pv (.bool true)) h := by
  rw [at11]
  unfold b11
  simp
def elt11 (C : CallF) : REnv → SHeap → SM.R := (rCall C 11 2 (evCons (rOp subF (rVar 0) (rVar 2)) (evCons (rOp subF (rVar 1) (rVar 2)) (fun _ h => .ok [] h))))
theorem comp11 (n : Nat) (xs : List Int) (h : SHeap) : ∀ l : List Nat, (∀ i ∈ l, i < xs.length) →
    compL (.nm 2) none (elt11 (callAt (n + 1))) [some (.pv (.tuple (zsP xs))), some (.pv (.tuple (zsP xs))), none] (l.map fun i => .pv (.int (0 + (i : Nat)))) h = .ok (l.map fun _ => .bool true) h
  | [], _ => rfl
  | i :: l, q => by
    have hi := q i (by simp)
    have ih := comp11 n xs h l fun j hj => q j (by simp [hj])
    have ea : atI (zsP xs) (i : Int) = some (.int xs[i]) := by
      unfold atI ixN zsP
      simp [hi]
    unfold compL
    simp only [List.map_cons, bindT, List.set_cons_succ, List.set_cons_zero]
    have ev : elt11 (callAt (n + 1)) [some (.pv (.tuple (zsP xs))), some (.pv (.tuple (zsP xs))), some (.pv (.int (0 + (i : Int))))] h = .ok (.pv (.bool true)) h := by
      unfold elt11
      simp [ea, ok11i]
    simp only [ev, freeze, ih]
theorem bt11 : ∀ l : List Nat, bools (l.map fun _ => PyData.bool true) = some (l.map fun _ => true)
  | [] => rfl
  | x :: l => by simp [bools, bt11 l]
theorem all11 : ∀ l : List Nat, (l.map fun _ => true).all id = true
  | [] => rfl
  | x :: l => by simp
theorem ea11 (l : List Nat) (h : SHeap) : fAll [.ref h.length] (h ++ [.lst (l.map fun _ => .bool true)]) = .ok (.pv (.bool true)) (h ++ [.lst (l.map fun _ => .bool true)]) := by
  rw [f_allR (by simp) (bt11 l), all11]
theorem er11 (n : Nat) (xs : List Int) (h : SHeap) (hl : xs.length ≤ 1000) : compR (.nm 2) [2] none (elt11 (callAt (n + 1))) [some (.pv (.tuple (zsP xs))), some (.pv (.tuple (zsP xs))), none] ⟨(List.range xs.length).map fun i => .pv (.int (0 + (i : Nat))), none⟩ h = .ok (.ref h.length) (h ++ [.lst ((List.range xs.length).map fun _ => .bool true)]) := by
  have c := comp11 n xs (h ++ [.busy]) (List.range xs.length) fun i hi => List.mem_range.mp hi
  have sz : xs.length ≤ 16777216 := by omega
  rw [ap_comp (by simp [sz]) c]
  simp
theorem ok11 (n : Nat) (xs : List Int) (h : SHeap) (hl : xs.length ≤ 1000) : callAt (n + 2) 11 [.pv (.tuple (zsP xs)), .pv (.tuple (zsP xs))] h = .ok (.pv (.bool true)) h := by
  have lz : (zsP xs).length = xs.length := by simp [zsP]
  have rg : rgB (xs.length : Int) = true := rgB_of (by omega)
  have er := er11 n xs h hl
  have ea := ea11 (List.range xs.length) h
  unfold elt11 at er
  simp only [Int.zero_add] at er
  rw [at11]
  unfold b11
  simp [er, lz, rg, ea]
end LW

set_option maxRecDepth 100000
set_option maxHeartbeats 1000000
namespace LW
open PySem PySem.Spec PyProof.Rows L2 SM
/-! ### _law_sum -/
def Asum : List Int → Int
  | [] => 0
  | x :: xs => (x + 1) * pw xs.length + Asum xs
theorem pw_zero : pw 0 = 1 := rfl
theorem pw_succ (m : Nat) : pw (m + 1) = pw m * 1000003 % 4294967291 := by
  unfold pw
  rw [Int.pow_succ, Int.mul_emod]
  conv => rhs; rw [Int.mul_emod, Int.emod_emod_of_dvd _ (Int.dvd_refl _)]
theorem emod_mul_l (a b : Int) : (a % 4294967291) * b % 4294967291 = a * b % 4294967291 := by
  rw [Int.mul_emod, Int.emod_emod_of_dvd _ (Int.dvd_refl _), ← Int.mul_emod]
theorem emod_mul_r (a b : Int) : a * (b % 4294967291) % 4294967291 = a * b % 4294967291 := by
  rw [Int.mul_comm, emod_mul_l, Int.mul_comm]
theorem emod_add_l (a b : Int) : (a % 4294967291 + b) % 4294967291 = (a + b) % 4294967291 := by
  rw [Int.add_emod, Int.emod_emod_of_dvd _ (Int.dvd_refl _), ← Int.add_emod]
theorem emod_add_r (a b : Int) : (a + b % 4294967291) % 4294967291 = (a + b) % 4294967291 := by
  rw [Int.add_comm, emod_add_l, Int.add_comm]
theorem F_sum : ∀ (xs : List Int) (c : Int), 0 ≤ c ∧ c < 4294967291 → (c * pw xs.length + Asum xs) % 4294967291 = F c xs
  | [], c, h => by
    show (c * pw 0 + 0) % 4294967291 = c
    rw [pw_zero, Int.mul_one, Int.add_zero]
    exact Int.emod_eq_of_lt h.1 h.2
  | x :: xs, c, h => by
    have ih := F_sum xs (stepc c x) (modR _)
    show (c * pw (xs.length + 1) + ((x + 1) * pw xs.length + Asum xs)) % 4294967291 = F (stepc c x) xs
    rw [← ih, pw_succ]
    unfold stepc
    rw [← emod_add_l (c * _), emod_mul_r, emod_add_l, ← emod_add_l ((c * 1000003 + x + 1) % 4294967291 * _), emod_mul_l, emod_add_l]
    congr 1
    rw [show c * 1000003 + x + 1 = c * 1000003 + (x + 1) by omega, Int.add_mul (c * 1000003) (x + 1), Int.mul_comm (pw xs.length) 1000003, ← Int.mul_assoc]
    omega
def body13 (C : CallF) : REnv → SHeap → FR := (rSeq (rSet 2 (rOp (opBin .Add) (rVar 2) (rOp (opBin .Mult) (rOp (opBin .Add) (rOp subF (rVar 0) (rVar 3)) (rCst (.int 1))) (rCall C 12 1 (evCons (rOp (opBin .Sub) (rOp (opBin .Sub) (rVar 1) (rCst (.int 1))) (rVar 3)) (fun _ h => .ok [] h)))))) (fun ρ h => .nx ρ h))
theorem loop13 (n : Nat) (xs : List Int) (h : SHeap) (hx : ∀ x ∈ xs, Oct x) (hl : xs.length ≤ 1000) : ∀ (ys : List Int) (i : Nat) (f : Int) (v : Option EV), xs.drop i = ys → i ≤ xs.length →
    ∃ v', forL (.nm 3) (body13 (callAt (n + 1))) ((List.range' i ys.length).map fun k => .pv (.int (k : Nat))) [some (.pv (.tuple (zsP xs))), some (.pv (.int xs.length)), some (.pv (.int f)), v] h =
      .nx [some (.pv (.tuple (zsP xs))), some (.pv (.int xs.length)), some (.pv (.int (f + Asum ys))), v'] h
  | [], i, f, v, _, _ => ⟨v, by simp [Asum]⟩
  | y :: ys, i, f, v, e, hi => by
    have hlt : i < xs.length := by
      rcases Nat.lt_or_ge i xs.length with q | q
      · exact q
      · rw [List.drop_eq_nil_of_le q] at e; cases e
    have e2 := e
    rw [List.drop_eq_getElem_cons hlt] at e2
    obtain ⟨ey, es⟩ := List.cons.inj e2
    have ln : ys.length + 1 = xs.length - i := by
      have := congrArg List.length e
      rw [List.length_drop, List.length_cons] at this
      omega
    obtain ⟨v', ih⟩ := loop13 n xs h hx hl ys (i + 1) (f + (y + 1) * pw ys.length) (some (.pv (.int (i : Nat)))) es (by omega)
    refine ⟨v', ?_⟩
    have hy : Oct y := by
      rw [← ey]
      exact hx _ (List.getElem_mem hlt)
    have ea : atI (zsP xs) (i : Int) = some (.int y) := by
      unfold atI ixN zsP
      simp [hlt, ey]
    have em : (xs.length : Int) - 1 - (i : Int) = (ys.length : Nat) := by omega
    have r := pw_rng ys.length
    have mu : mulOk (y + 1) (pw ys.length) = true := mul64 (by have := hy.1; have := hy.2; omega) (by omega)
    have eb : body13 (callAt (n + 1)) [some (.pv (.tuple (zsP xs))), some (.pv (.int xs.length)), some (.pv (.int f)), some (.pv (.int (i : Nat)))] h = .nx [some (.pv (.tuple (zsP xs))), some (.pv (.int xs.length)), some (.pv (.int (f + (y + 1) * pw ys.length))), some (.pv (.int (i : Nat)))] h := by
      unfold body13
      simp [ea, em, ok12 n ys.length h (by omega), mu]
    rw [List.length_cons, List.range'_succ, List.map_cons]
    unfold forL
    simp only [bindT, List.set_cons_succ, List.set_cons_zero, eb]
    rw [ih]
    show _ = FR.nx [_, _, some (.pv (.int (f + ((y + 1) * pw ys.length + Asum ys)))), v'] h
    rw [Int.add_assoc]
theorem ok13 (n : Nat) (xs : List Int) (h : SHeap) (hx : ∀ x ∈ xs, Oct x) (hl : xs.length ≤ 1000) : callAt (n + 2) 13 [.pv (.tuple (zsP xs))] h = .ok (.pv (.int (F 7 xs))) h := by
  obtain ⟨v', e⟩ := loop13 n xs h hx hl xs 0 (7 * pw xs.length) none (List.drop_zero) (by omega)
  rw [← List.range_eq_range'] at e
  have lz : (zsP xs).length = xs.length := by simp [zsP]
  have rg : rgB (xs.length : Int) = true := rgB_of (by omega)
  have r := pw_rng xs.length
  have mu : mulOk 7 (pw xs.length) = true := mul64 (by decide) (by omega)
  have fs := F_sum xs 7 (by decide)
  rw [at13]
  unfold b13
  unfold body13 at e
  simp [lz, ok12 n xs.length h (by omega), mu, rg, e, fs]

/-! ### rolls in a comprehension -/
def elt10 (C : CallF) (mm : Int) : REnv → SHeap → SM.R := rCall C 10 2 (evCons (rVar 0) (evCons (rCst (.int mm)) (fun _ h => .ok [] h)))
theorem comp10 (n k : Nat) (mm : Int) (h0 : 0 < mm) (h1 : mm < 4611686018427387904) (ρ : REnv) (hk : k ≠ 0) (hρ : ρ[0]? = some (some (.ref 0))) (t : SHeap) : ∀ (items : List EV) (a b : Int), Cup a b →
    ∃ (xs : List Int) (a' b' : Int), Cup a' b' ∧ (∀ x ∈ xs, 0 ≤ x ∧ x < mm) ∧ xs.length = items.length ∧ compL (.nm k) none (elt10 (callAt (n + 1)) mm) ρ items (cupO a b :: t) = .ok (zsP xs) (cupO a' b' :: t)
  | [], a, b, c => ⟨[], a, b, c, fun _ h => (nomatch h), rfl, rfl⟩
  | it :: items, a, b, c => by
    obtain ⟨r, a1, b1, c1, r0, r1, e1⟩ := ok10 n a b mm t c h0 h1
    obtain ⟨xs, a2, b2, c2, hx, hl, e2⟩ := comp10 n k mm h0 h1 ρ hk hρ t items a1 b1 c1
    refine ⟨r :: xs, a2, b2, c2, fun x hx' => ?_, by simp [hl], ?_⟩
    · rcases List.mem_cons.mp hx' with rfl | hx'
      · exact ⟨r0, r1⟩
      · exact hx x hx'
    · have ev : elt10 (callAt (n + 1)) mm (ρ.set k (some it)) (cupO a b :: t) = .ok (.pv (.int r)) (cupO a1 b1 :: t) := by
        unfold elt10
        have z : (ρ.set k (some it))[0]? = some (some (.ref 0)) := by rw [List.getElem?_set_ne hk]; exact hρ
        simp [z, e1]
      unfold compL
      simp only [bindT, ev, freeze, e2]
      rfl
theorem compR10 (n k L : Nat) (mm a b : Int) (h0 : 0 < mm) (h1 : mm < 4611686018427387904) (ρ : REnv) (hk : k ≠ 0) (hρ : ρ[0]? = some (some (.ref 0))) (hL : L ≤ 1000) (f : Nat → EV) (c : Cup a b) :
    ∃ (xs : List Int) (a' b' : Int), Cup a' b' ∧ (∀ x ∈ xs, 0 ≤ x ∧ x < mm) ∧ xs.length = L ∧ compR (.nm k) [k] none (elt10 (callAt (n + 1)) mm) ρ ⟨(List.range L).map f, none⟩ [cupO a b] = .ok (.ref 1) [cupO a' b', .lst (zsP xs)] := by
  have hw : (wipeE ρ [k])[0]? = some (some (.ref 0)) := by
    show (ρ.set k none)[0]? = _
    rw [List.getElem?_set_ne hk]; exact hρ
  obtain ⟨xs, a', b', c', hx, hl, e⟩ := comp10 n k mm h0 h1 (wipeE ρ [k]) hk hw [.busy] ((List.range L).map f) a b c
  refine ⟨xs, a', b', c', hx, by simpa using hl, ?_⟩
  have e2 : compL (.nm k) none (elt10 (callAt (n + 1)) mm) (wipeE ρ [k]) ((List.range L).map f) ([cupO a b] ++ [.busy]) = .ok (zsP xs) [cupO a' b', .busy] := e
  rw [ap_comp (by simp; omega) e2]
  rfl
end LW

set_option maxRecDepth 100000
set_option maxHeartbeats 4000000
namespace LW
open PySem PySem.Spec PyProof.Rows L2 SM
/-! ### the law's mathematics -/
theorem F_app (c : Int) (xs ys : List Int) : F c (xs ++ ys) = F (F c xs) ys := List.foldl_append
theorem F7 (xs : List Int) : 0 ≤ F 7 xs ∧ F 7 xs < 4294967291 := F_rng (by decide) xs
theorem joined (a : Int) (ys : List Int) (ha : 0 ≤ a ∧ a < 4294967291) : (F 7 ys + (a - 7) * pw ys.length) % 4294967291 = F a ys := by
  rw [← F_sum ys 7 (by decide), emod_add_l, ← F_sum ys a ha, Int.sub_mul]
  congr 1
  omega
theorem step_inj {c d x : Int} (hc : 0 ≤ c ∧ c < 4294967291) (hd : 0 ≤ d ∧ d < 4294967291) (e : stepc c x = stepc d x) : c = d := by
  unfold stepc at e
  omega
theorem F_inj : ∀ (xs : List Int) {c d : Int}, 0 ≤ c ∧ c < 4294967291 → 0 ≤ d ∧ d < 4294967291 → F c xs = F d xs → c = d
  | [], _, _, _, _, e => e
  | x :: xs, c, d, hc, hd, e => step_inj hc hd (F_inj xs (modR _) (modR _) e)
theorem other {xs ys : List Int} {o o' : Int} (h : Oct o) (h' : Oct o') (ne : o ≠ o') : F 7 (xs ++ o :: ys) ≠ F 7 (xs ++ o' :: ys) := fun e => by
  rw [F_app, F_app] at e
  have e2 : stepc (F 7 xs) o = stepc (F 7 xs) o' := F_inj ys (modR _) (modR _) e
  unfold stepc at e2
  obtain ⟨h1, h2⟩ := h
  obtain ⟨h3, h4⟩ := h'
  omega
theorem pw_add (m k : Nat) : pw (m + k) = pw m * pw k % 4294967291 := by
  unfold pw
  rw [Int.pow_add, emod_mul_l, emod_mul_r]
theorem assoc3 (r0 r1 r2 : Int) (m k : Nat) : (r2 + ((r1 + (r0 - 7) * pw m) % 4294967291 - 7) * pw k) % 4294967291 = ((r2 + (r1 - 7) * pw k) % 4294967291 + (r0 - 7) * pw (m + k)) % 4294967291 := by
  rw [emod_add_l, pw_add, Int.add_comm (r2 + (r1 - 7) * pw k), ← emod_add_l ((r0 - 7) * _), emod_mul_r, emod_add_l]
  rw [Int.sub_mul ((r1 + (r0 - 7) * pw m) % 4294967291), Int.add_comm r2, Int.sub_eq_add_neg, Int.add_assoc, ← emod_add_l ((r1 + (r0 - 7) * pw m) % 4294967291 * pw k), emod_mul_l, emod_add_l]
  congr 1
  rw [Int.add_mul, Int.sub_mul r1, Int.mul_assoc (r0 - 7)]
  omega
/-- a power, by its halves -/
def hpw : Nat → Nat → Nat
  | 0, _ => 1
  | k + 1, m => if m % 2 = 1 then hpw k (m / 2) * hpw k (m / 2) * 1000003 % 4294967291 else hpw k (m / 2) * hpw k (m / 2) % 4294967291
theorem hpw_ok : ∀ (k m : Nat), m < 2 ^ k → pw m = (hpw k m : Nat)
  | 0, m, h => by
    have : m = 0 := by omega
    subst this
    rfl
  | k + 1, m, h => by
    have ih := hpw_ok k (m / 2) (by rw [Nat.pow_succ] at h; omega)
    unfold hpw
    by_cases z : m % 2 = 1
    · rw [if_pos z]
      have hm : m = (m / 2 + m / 2) + 1 := by omega
      conv => lhs; rw [hm]
      rw [pw_succ, pw_add, emod_mul_l, ih]
      simp
    · rw [if_neg z]
      have hm : m = m / 2 + m / 2 := by omega
      conv => lhs; rw [hm]
      rw [pw_add, ih]
      simp
theorem pw_prime : pw 4294967290 = 1 := by
  rw [hpw_ok 32 4294967290 (by decide)]
  have : hpw 32 4294967290 = 1 := by decide +kernel
  rw [this]
  rfl
theorem zs_len (xs : List Int) : (zsP xs).length = xs.length := by simp [zsP]
theorem zs_app (xs ys : List Int) : zsP xs ++ zsP ys = zsP (xs ++ ys) := by simp [zsP]
theorem cut_lo (xs : List Int) (k : Nat) (h : k ≤ xs.length) : cutL (zsP xs) none (some (k : Int)) = zsP (xs.take k) := by
  unfold cutL
  rw [HT.sIx_none, HT.sIx_nat, zs_len, Nat.min_eq_left h]
  simp [zsP]
theorem cut_hi (xs : List Int) (k : Nat) (h : k ≤ xs.length) : cutL (zsP xs) (some (k : Int)) none = zsP (xs.drop k) := by
  unfold cutL
  rw [HT.sIx_none, HT.sIx_nat, zs_len, Nat.min_eq_left h]
  simp only [zsP, ← List.map_drop, ← List.map_take]
  rw [List.take_of_length_le (by rw [List.length_drop]; omega)]
theorem can_zs (xs : List Int) : SeqAt.shaped (.tuple (zsP xs)) = true := by
  have e1 : ∀ xs : List Int, PyData.canLayAll0 (zsP xs) = true ∧ PyData.depthAll (zsP xs) = 0 := fun xs => by
    induction xs with
    | nil => exact ⟨rfl, rfl⟩
    | cons x xs ih =>
      refine ⟨?_, ?_⟩
      · show (PyData.canLay0 (.int x) && PyData.canLayAll0 (zsP xs)) = true
        rw [ih.1]; rfl
      · show max (PyData.depth (.int x)) (PyData.depthAll (zsP xs)) = 0
        rw [ih.2]; rfl
  unfold SeqAt.shaped
  rw [Bool.and_eq_true]
  refine ⟨?_, decide_eq_true ?_⟩
  · show PyData.canLayAll0 (zsP xs) = true
    exact (e1 xs).1
  · show PyData.depthAll (zsP xs) + 1 ≤ 64
    rw [(e1 xs).2]; decide
theorem can_nil : SeqAt.shaped (.tuple []) = true := can_zs []
theorem eqv_zs (xs : List Int) : PyData.eqv (.tuple (zsP xs)) (.tuple []) = xs.isEmpty := by
  cases xs <;> rfl
end LW

set_option maxRecDepth 100000
set_option maxHeartbeats 4000000
namespace LW
open PySem PySem.Spec PyProof.Rows L2 SM
def rest14 (C : CallF) : REnv → SHeap → FR := (rSeq (par3 10 11 12 (evCons (rLc (iRg rg1 (evCons (rCst (.int 3)) (fun _ h => .ok [] h))) (.nm 15) [15] none (rCall C 10 2 (evCons (rVar 0) (evCons (rCst (.int 4294967291)) (fun _ h => .ok [] h))))) (evCons (rCall C 10 2 (evCons (rVar 0) (evCons (rOp (opBin .Mult) (rCst (.int 5)) (rOp (opBin .Pow) (rCst (.int 10)) (rCst (.int 17)))) (fun _ h => .ok [] h)))) (evCons (rCall C 10 2 (evCons (rVar 0) (evCons (rOp (opBin .Mult) (rCst (.int 5)) (rOp (opBin .Pow) (rCst (.int 10)) (rCst (.int 17)))) (fun _ h => .ok [] h)))) (fun _ h => .ok [] h))))) (rSeq (rSet 13 (rCall C 8 3 (evCons (rCall C 8 3 (evCons (rOp subF (rVar 10) (rCst (.int 0))) (evCons (rOp subF (rVar 10) (rCst (.int 1))) (evCons (rVar 11) (fun _ h => .ok [] h))))) (evCons (rOp subF (rVar 10) (rCst (.int 2))) (evCons (rVar 12) (fun _ h => .ok [] h)))))) (rSeq (rRet (rOp (cmpF .Eq) (rVar 13) (rCall C 8 3 (evCons (rOp subF (rVar 10) (rCst (.int 0))) (evCons (rCall C 8 3 (evCons (rOp subF (rVar 10) (rCst (.int 1))) (evCons (rOp subF (rVar 10) (rCst (.int 2))) (evCons (rVar 12) (fun _ h => .ok [] h))))) (evCons (rOp (opBin .Add) (rVar 11) (rVar 12)) (fun _ h => .ok [] h))))))) (fun ρ h => .nx ρ h))))
theorem b14_eq (C : CallF) : b14 C = (rSeq (rSet 2 (rCut (rBi fTuple (evCons (rLc (iRg rg1 (evCons (rCall C 10 2 (evCons (rVar 0) (evCons (rOp (opBin .Add) (rVar 1) (rCst (.int 1))) (fun _ h => .ok [] h)))) (fun _ h => .ok [] h))) (.nm 14) [14] none (rCall C 10 2 (evCons (rVar 0) (evCons (rCst (.int 256)) (fun _ h => .ok [] h))))) (fun _ h => .ok [] h))))) (rSeq (rSet 3 (rCall C 10 2 (evCons (rVar 0) (evCons (rOp (opBin .Add) (rBi fLen (evCons (rVar 2) (fun _ h => .ok [] h))) (rCst (.int 1))) (fun _ h => .ok [] h))))) (rSeq (par2 4 5 (evCons (rSlice (rVar 2) none (some (rVar 3))) (evCons (rSlice (rVar 2) (some (rVar 3)) none) (fun _ h => .ok [] h)))) (rSeq (rSet 6 (rCall C 13 1 (evCons (rVar 2) (fun _ h => .ok [] h)))) (rSeq (rSet 7 (rTup (evCons (rCall C 5 1 (evCons (rVar 2) (fun _ h => .ok [] h))) (evCons (rCall C 7 2 (evCons (rCall C 13 1 (evCons (rVar 4) (fun _ h => .ok [] h))) (evCons (rVar 5) (fun _ h => .ok [] h)))) (evCons (rCall C 8 3 (evCons (rCall C 13 1 (evCons (rVar 4) (fun _ h => .ok [] h))) (evCons (rCall C 13 1 (evCons (rVar 5) (fun _ h => .ok [] h))) (evCons (rBi fLen (evCons (rVar 5) (fun _ h => .ok [] h))) (fun _ h => .ok [] h))))) (fun _ h => .ok [] h)))))) (rSeq (rIf (rNot (rCall C 11 2 (evCons (rVar 7) (evCons (rTup (evCons (rVar 6) (evCons (rVar 6) (evCons (rVar 6) (fun _ h => .ok [] h))))) (fun _ h => .ok [] h))))) (rSeq (rRet (rCst (.bool false))) (fun ρ h => .nx ρ h)) (fun ρ h => .nx ρ h)) (rSeq (rIf (rOp (cmpF .NotEq) (rVar 2) (rTup (fun _ h => .ok [] h))) (rSeq (par2 8 9 (evCons (rCall C 10 2 (evCons (rVar 0) (evCons (rBi fLen (evCons (rVar 2) (fun _ h => .ok [] h))) (fun _ h => .ok [] h)))) (evCons (rOp (opBin .Add) (rCst (.int 1)) (rCall C 10 2 (evCons (rVar 0) (evCons (rCst (.int 255)) (fun _ h => .ok [] h))))) (fun _ h => .ok [] h)))) (rSeq (rIf (rCut (rOp (cmpF .Eq) (rCut (rCall C 5 1 (evCons (rOp (opBin .Add) (rOp (opBin .Add) (rSlice (rVar 2) none (some (rVar 8))) (rTup (evCons (rOp (opBin .Mod) (rBi fInt (evCons (rOp (opBin .Add) (rOp subF (rVar 2) (rVar 8)) (rVar 9)) (fun _ h => .ok [] h))) (rCst (.int 256))) (fun _ h => .ok [] h)))) (rSlice (rVar 2) (some (rOp (opBin .Add) (rVar 8) (rCst (.int 1)))) none)) (fun _ h => .ok [] h)))) (rVar 6))) (rSeq (rRet (rCst (.bool false))) (fun ρ h => .nx ρ h)) (fun ρ h => .nx ρ h)) (fun ρ h => .nx ρ h))) (fun ρ h => .nx ρ h)) (rest14 C)))))))) := rfl
theorem tail14 (n : Nat) (a b : Int) (c : Cup a b) (v1 v2 v3 v4 v5 v6 v7 v8 v9 : Option EV) : ∃ a' b' x, Cup a' b' ∧ rest14 (callAt (n + 4)) [some (.ref 0), v1, v2, v3, v4, v5, v6, v7, v8, v9, none, none, none, none, none, none] [cupO a b] = .rt (.pv (.bool true)) [cupO a' b', x] := by
  obtain ⟨xs, a1, b1, c1, hx, hl, e1⟩ := compR10 (n + 3) 15 3 4294967291 a b (by decide) (by decide) [some (.ref 0), v1, v2, v3, v4, v5, v6, v7, v8, v9, none, none, none, none, none, none] (by decide) rfl (by decide) (fun i => .pv (.int (i : Nat))) c
  obtain ⟨r0, r1, r2, rfl⟩ : ∃ r0 r1 r2, xs = [r0, r1, r2] := by
    match xs, hl with
    | [x, y, z], _ => exact ⟨x, y, z, rfl⟩
  have h0 := hx r0 (by simp)
  have h1 := hx r1 (by simp)
  have h2 := hx r2 (by simp)
  obtain ⟨f, a2, b2, c2, f0, f1, e2⟩ := ok10 (n + 3) a1 b1 500000000000000000 [.lst (zsP [r0, r1, r2])] c1 (by decide) (by decide)
  obtain ⟨g, a3, b3, c3, g0, g1, e3⟩ := ok10 (n + 3) a2 b2 500000000000000000 [.lst (zsP [r0, r1, r2])] c2 (by decide) (by decide)
  obtain ⟨fn, rfl⟩ := Int.eq_ofNat_of_zero_le f0
  obtain ⟨gn, rfl⟩ := Int.eq_ofNat_of_zero_le g0
  have q0 : subF (.ref 1) (.pv (.int 0)) [cupO a3 b3, .lst (zsP [r0, r1, r2])] = .ok (.pv (.int r0)) [cupO a3 b3, .lst (zsP [r0, r1, r2])] := by rw [ap_subR (ys := zsP [r0, r1, r2]) rfl]; rfl
  have q1 : subF (.ref 1) (.pv (.int 1)) [cupO a3 b3, .lst (zsP [r0, r1, r2])] = .ok (.pv (.int r1)) [cupO a3 b3, .lst (zsP [r0, r1, r2])] := by rw [ap_subR (ys := zsP [r0, r1, r2]) rfl]; rfl
  have q2 : subF (.ref 1) (.pv (.int 2)) [cupO a3 b3, .lst (zsP [r0, r1, r2])] = .ok (.pv (.int r2)) [cupO a3 b3, .lst (zsP [r0, r1, r2])] := by rw [ap_subR (ys := zsP [r0, r1, r2]) rfl]; rfl
  have s1 := ok8 (n + 1) r0 r1 fn [cupO a3 b3, .lst (zsP [r0, r1, r2])] h0 h1 (by omega)
  have s2 := ok8 (n + 1) _ r2 gn [cupO a3 b3, .lst (zsP [r0, r1, r2])] (modR (r1 + (r0 - 7) * pw fn)) h2 (by omega)
  have s3 := ok8 (n + 1) r1 r2 gn [cupO a3 b3, .lst (zsP [r0, r1, r2])] h1 h2 (by omega)
  have s4 := ok8 (n + 1) r0 _ (fn + gn) [cupO a3 b3, .lst (zsP [r0, r1, r2])] h0 (modR (r2 + (r1 - 7) * pw gn)) (by omega)
  rw [← assoc3, Int.natCast_add] at s4
  have rg : rgB 3 = true := by decide
  have rg' : List.range 3 = [0, 1, 2] := rfl
  have mu : mulOk 5 100000000000000000 = true := by decide +kernel
  refine ⟨a3, b3, .lst (zsP [r0, r1, r2]), c3, ?_⟩
  unfold rest14
  unfold elt10 at e1
  simp [rg, e1, e2, e3, mu, q0, q1, q2, s1, s2, s3, s4]
end LW

set_option maxRecDepth 100000
set_option maxHeartbeats 4000000
namespace LW
open PySem PySem.Spec PyProof.Rows L2 SM
theorem ok14 (n : Nat) (a b most : Int) (c : Cup a b) (h0 : 0 ≤ most) (h1 : most ≤ 40) : ∃ a' b', Cup a' b' ∧ callAt (n + 5) 14 [.ref 0, .pv (.int most)] [cupO a b] = .ok (.pv (.bool true)) [cupO a' b'] := by
  obtain ⟨L, a1, b1, c1, l0, l1, e1⟩ := ok10 (n + 3) a b (most + 1) [] c (by omega) (by omega)
  obtain ⟨Ln, rfl⟩ := Int.eq_ofNat_of_zero_le l0
  obtain ⟨xs, a2, b2, c2, hx, hl, e2⟩ := compR10 (n + 3) 14 Ln 256 a1 b1 (by decide) (by decide) [some (.ref 0), some (.pv (.int most)), none, none, none, none, none, none, none, none, none, none, none, none, none, none] (by decide) rfl (by omega) (fun i => .pv (.int (i : Nat))) c1
  have ho : ∀ x ∈ xs, Oct x := fun x h => ⟨(hx x h).1, by have := (hx x h).2; omega⟩
  have hl2 : xs.length ≤ 40 := by omega
  obtain ⟨k, a3, b3, c3, k0, k1, e3⟩ := ok10 (n + 3) a2 b2 ((xs.length : Int) + 1) [] c2 (by omega) (by omega)
  obtain ⟨kn, rfl⟩ := Int.eq_ofNat_of_zero_le k0
  have hk : kn ≤ xs.length := by omega
  have ot : ∀ x ∈ xs.take kn, Oct x := fun x h => ho x (List.mem_of_mem_take h)
  have od : ∀ x ∈ xs.drop kn, Oct x := fun x h => ho x (List.mem_of_mem_drop h)
  have lt : (xs.take kn).length ≤ 200000 := by rw [List.length_take]; omega
  have ld : (xs.drop kn).length ≤ 200000 := by rw [List.length_drop]; omega
  have rg : rgB (Ln : Int) = true := rgB_of (by omega)
  have ft : fTuple [.ref 1] [cupO a2 b2, .lst (zsP xs)] = .ok (.pv (.tuple (zsP xs))) [cupO a2 b2, .lst (zsP xs)] := f_tupR rfl
  -- the sums
  have s1 := ok13 (n + 2) xs [cupO a3 b3] ho (by omega)
  have s2 := ok5 (n + 1) xs [cupO a3 b3] ho (by omega)
  have s3 := ok13 (n + 2) (xs.take kn) [cupO a3 b3] ot (by rw [List.length_take]; omega)
  have s4 := ok13 (n + 2) (xs.drop kn) [cupO a3 b3] od (by rw [List.length_drop]; omega)
  have s5 := ok7 (n + 1) (F 7 (xs.take kn)) (xs.drop kn) [cupO a3 b3] (F7 _) od ld
  have s6 := ok8 (n + 1) (F 7 (xs.take kn)) (F 7 (xs.drop kn)) (xs.drop kn).length [cupO a3 b3] (F7 _) (F7 _) (by omega)
  have ea : F (F 7 (xs.take kn)) (xs.drop kn) = F 7 xs := by rw [← F_app, List.take_append_drop]
  rw [joined _ _ (F7 _), ea] at s6
  rw [ea] at s5
  have s7 : callAt (n + 4) 11 [.pv (.tuple [.int (F 7 xs), .int (F 7 xs), .int (F 7 xs)]), .pv (.tuple [.int (F 7 xs), .int (F 7 xs), .int (F 7 xs)])] [cupO a3 b3] = .ok (.pv (.bool true)) [cupO a3 b3] := ok11 (n + 2) [F 7 xs, F 7 xs, F 7 xs] [cupO a3 b3] (by simp)
  have em : cutL (zsP xs) (some (kn : Int)) none = zsP (xs.drop kn) := cut_hi xs kn hk
  have ld2 : (zsP (xs.drop kn)).length = (xs.drop kn).length := zs_len _
  have en : zsP xs = [] ↔ xs = [] := by cases xs <;> simp [zsP]
  rw [at14, b14_eq]
  unfold elt10 at e2
  by_cases hne : xs = []
  · obtain ⟨a4, b4, x, c4, et⟩ := tail14 n a3 b3 c3 (some (.pv (.int most))) (some (.pv (.tuple (zsP xs)))) (some (.pv (.int kn))) (some (.pv (.tuple (zsP (xs.take kn))))) (some (.pv (.tuple (zsP (xs.drop kn))))) (some (.pv (.int (F 7 xs)))) (some (.pv (.tuple [.int (F 7 xs), .int (F 7 xs), .int (F 7 xs)]))) none none
    refine ⟨a4, b4, c4, ?_⟩
    have ee : xs.isEmpty = true := by rw [hne]; rfl
    simp only [List.length_drop] at s6
    simp [e1, rg, e2, e3, ft, cut_lo xs kn hk, em, s1, s2, s3, s4, s5, s6, s7, zs_len, ld2, can_zs, can_nil, eqv_zs, ee, et]
  · have ee : xs.isEmpty = false := by cases xs with | nil => exact absurd rfl hne | cons _ _ => rfl
    have lp : 0 < xs.length := List.length_pos_iff.mpr hne
    obtain ⟨p, a4, b4, c4, p0, p1, e4⟩ := ok10 (n + 3) a3 b3 (xs.length : Int) [] c3 (by omega) (by omega)
    obtain ⟨pn, rfl⟩ := Int.eq_ofNat_of_zero_le p0
    have hp : pn < xs.length := by omega
    obtain ⟨q, a5, b5, c5, q0, q1, e5⟩ := ok10 (n + 3) a4 b4 255 [] c4 (by decide) (by decide)
    obtain ⟨a6, b6, x, c6, et⟩ := tail14 n a5 b5 c5 (some (.pv (.int most))) (some (.pv (.tuple (zsP xs)))) (some (.pv (.int kn))) (some (.pv (.tuple (zsP (xs.take kn))))) (some (.pv (.tuple (zsP (xs.drop kn))))) (some (.pv (.int (F 7 xs)))) (some (.pv (.tuple [.int (F 7 xs), .int (F 7 xs), .int (F 7 xs)]))) (some (.pv (.int pn))) (some (.pv (.int (1 + q))))
    refine ⟨a6, b6, c6, ?_⟩
    have hy : Oct xs[pn] := ho _ (List.getElem_mem hp)
    have ay : atI (zsP xs) (pn : Int) = some (.int xs[pn]) := by
      unfold atI ixN zsP
      simp [hp]
    have hy1 := hy.1
    have hy2 := hy.2
    have oy : Oct ((xs[pn] + (1 + q)) % 256) := ⟨Int.emod_nonneg _ (by decide), by have := Int.emod_lt_of_pos (xs[pn] + (1 + q)) (show (0 : Int) < 256 by decide); omega⟩
    have ny : xs[pn] ≠ (xs[pn] + (1 + q)) % 256 := by omega
    have exs : xs.take pn ++ xs[pn] :: xs.drop (pn + 1) = xs := by rw [← List.drop_eq_getElem_cons hp, List.take_append_drop]
    have nF : F 7 (xs.take pn ++ (xs[pn] + (1 + q)) % 256 :: xs.drop (pn + 1)) ≠ F 7 xs := fun e => by
      have := other (xs := xs.take pn) (ys := xs.drop (pn + 1)) hy oy ny
      rw [exs] at this
      exact this e.symm
    have lc : (xs.take pn ++ (xs[pn] + (1 + q)) % 256 :: xs.drop (pn + 1)).length ≤ 200000 := by
      rw [List.length_append, List.length_cons, List.length_take, List.length_drop]; omega
    have oc : ∀ z ∈ xs.take pn ++ (xs[pn] + (1 + q)) % 256 :: xs.drop (pn + 1), Oct z := fun z hz => by
      rcases List.mem_append.mp hz with h | h
      · exact ho z (List.mem_of_mem_take h)
      · rcases List.mem_cons.mp h with rfl | h
        · exact oy
        · exact ho z (List.mem_of_mem_drop h)
    have s8 := ok5 (n + 1) _ [cupO a5 b5] oc lc
    have z8 : zsP (xs.take pn ++ (xs[pn] + (1 + q)) % 256 :: xs.drop (pn + 1)) = zsP (xs.take pn) ++ .int ((xs[pn] + (1 + q)) % 256) :: zsP (xs.drop (pn + 1)) := by simp [zsP]
    rw [z8] at s8
    have ch : cutL (zsP xs) (some ((pn : Int) + 1)) none = zsP (xs.drop (pn + 1)) := cut_hi xs (pn + 1) (by omega)
    have sz : min pn xs.length + 1 + (xs.length - (pn + 1)) ≤ 16777216 := by omega
    have sz1 : min pn xs.length + 1 ≤ 16777216 := by omega
    have sz2 : min pn xs.length ≤ 16777215 := by omega
    simp only [List.length_drop] at s6
    simp [e1, rg, e2, e3, e4, e5, ft, cut_lo xs kn hk, cut_lo xs pn (Nat.le_of_lt hp), ch, em, s1, s2, s3, s4, s5, s6, s7, s8, nF, ay, zs_len, ld2, can_zs, can_nil, eqv_zs, ee, et, sz, sz1, sz2]
end LW

set_option maxRecDepth 100000
set_option maxHeartbeats 4000000
namespace LW
open PySem PySem.Spec PyProof.Rows L2 SM
theorem forL_cons {t : Tg} {rb : REnv → SHeap → FR} {x : EV} {xs : List EV} {ρ : REnv} {h : SHeap} : forL t rb (x :: xs) ρ h = (match bindT t x ρ with
    | some ρ1 => (match rb ρ1 h with
      | .nx ρ2 h2 => forL t rb xs ρ2 h2
      | .ct ρ2 h2 => forL t rb xs ρ2 h2
      | .bk ρ2 h2 => .nx ρ2 h2
      | .rt r h2 => .rt r h2
      | .exc c fs ρ2 h2 => .exc c fs ρ2 h2
      | .no => .no)
    | none => .no) := rfl
theorem ok15 (n : Nat) (ns : List Int) (hl : ns.length ≤ 63) (hz : ∀ z ∈ ns, Builtin.Int.intBits z ≤ 1048576) : ∃ h', callAt (n + 6) 15 [.scr (ns.map .int)] [] = .ok (.pv (.bool true)) h' := by
  obtain ⟨a0, b0, c0, e0⟩ := ok9 (n + 4) ns hz hl
  obtain ⟨a1, b1, c1, e1⟩ := ok14 n a0 b0 3 c0 (by decide) (by decide)
  obtain ⟨a2, b2, c2, e2⟩ := ok14 n a1 b1 20 c1 (by decide) (by decide)
  obtain ⟨a3, b3, c3, e3⟩ := ok14 n a2 b2 40 c2 (by decide) (by decide)
  obtain ⟨a4, b4, c4, e4⟩ := ok14 n a3 b3 40 c3 (by decide) (by decide)
  obtain ⟨k, a5, b5, c5, k0, k1, e5⟩ := ok10 (n + 4) a4 b4 4294967291 [] c4 (by decide) (by decide)
  obtain ⟨o, a6, b6, c6, o0, o1, e6⟩ := ok10 (n + 4) a5 b5 256 [] c5 (by decide) (by decide)
  have s1 : callAt (n + 5) 5 [.pv (.tuple [])] [cupO a6 b6] = .ok (.pv (.int 7)) [cupO a6 b6] := ok5 (n + 2) [] [cupO a6 b6] (fun _ h => nomatch h) (by decide)
  have s2 : callAt (n + 5) 7 [.pv (.int k), .pv (.tuple [])] [cupO a6 b6] = .ok (.pv (.int k)) [cupO a6 b6] := ok7 (n + 2) k [] [cupO a6 b6] ⟨k0, k1⟩ (fun _ h => nomatch h) (by decide)
  have s3 : callAt (n + 5) 8 [.pv (.int k), .pv (.int 7), .pv (.int 0)] [cupO a6 b6] = .ok (.pv (.int k)) [cupO a6 b6] := by
    have := ok8 (n + 2) k 7 0 [cupO a6 b6] ⟨k0, k1⟩ (by decide) (by decide)
    rw [pw_zero, show (7 + (k - 7) * 1) % 4294967291 = k by omega] at this
    exact this
  have s4 : callAt (n + 5) 8 [.pv (.int 7), .pv (.int k), .pv (.int 9)] [cupO a6 b6] = .ok (.pv (.int k)) [cupO a6 b6] := by
    have := ok8 (n + 2) 7 k 9 [cupO a6 b6] (by decide) ⟨k0, k1⟩ (by decide)
    rw [show (7 : Int) - 7 = 0 from rfl, Int.zero_mul, show (k + 0) % 4294967291 = k by omega] at this
    exact this
  have s5 : callAt (n + 5) 5 [.pv (.tuple [.int o])] [cupO a6 b6] = .ok (.pv (.int (7000021 + o + 1))) [cupO a6 b6] := by
    have := ok5 (n + 2) [o] [cupO a6 b6] (fun x h => by rw [List.mem_singleton] at h; subst h; exact ⟨o0, by omega⟩) (by simp)
    have ef : F 7 [o] = 7000021 + o + 1 := by
      show (7 * 1000003 + o + 1) % 4294967291 = _
      omega
    rw [ef] at this
    exact this
  have s6 : callAt (n + 5) 8 [.pv (.int k), .pv (.int 7), .pv (.int 4294967290)] [cupO a6 b6] = .ok (.pv (.int k)) [cupO a6 b6] := by
    have := ok8 (n + 2) k 7 4294967290 [cupO a6 b6] ⟨k0, k1⟩ (by decide) (by decide)
    rw [pw_prime, show (7 + (k - 7) * 1) % 4294967291 = k by omega] at this
    exact this
  have s7 : callAt (n + 5) 11 [.pv (.tuple [.int 7, .int k, .int k, .int k, .int (7000021 + o + 1), .int k]), .pv (.tuple [.int 7, .int k, .int k, .int k, .int (7000021 + o + 1), .int k])] [cupO a6 b6] = .ok (.pv (.bool true)) [cupO a6 b6] := ok11 (n + 3) [7, k, k, k, 7000021 + o + 1, k] [cupO a6 b6] (by simp)
  have mu : mulOk 7 1000003 = true := by decide +kernel
  refine ⟨[], ?_⟩
  rw [at15]
  unfold LW.b15
  simp [e0, e1, e2, e3, e4, e5, e6, forL_cons, mu, s1, s2, s3, s4, s5, s6, s7]
end LW

set_option maxRecDepth 100000
set_option maxHeartbeats 0
open PySem PySem.W PySem.Calls PyProof.Rows
theorem PySem.Challenge.cw_serieskept_k08_whole_checks_of_octets_holds : PySem.Challenge.rw_serieskept_k08_whole_checks_of_octets.Holds := by
  w_on; o_law
  refine HandSHeadRun.head_any (r := OpenLaw.row PySem.Challenge.rw_serieskept_k08_whole_checks_of_octets) (q := view (OpenLaw.row PySem.Challenge.rw_serieskept_k08_whole_checks_of_octets).prog [26]) (H := LW.hk) (ob := LW.ob) (M := 4000) (loose := LW.names) (d := HandSHeadRun.topDef (OpenLaw.row PySem.Challenge.rw_serieskept_k08_whole_checks_of_octets).prog 26) (kwd := []) LW.ob_eq
    (by kernel_rfl) (fun s => by kernel_rfl) LW.run (by kernel_rfl) (by kernel_rfl) (by kernel_rfl) (by rfl) (by first | assumption | decide +kernel) (by decide +kernel) ⟨rfl, rfl, rfl, rfl, rfl, by decide +kernel⟩ ?hw ?hc
  case hw => w_witness2
  case hc =>
    refine LamX.walk_ofTsE (l := PySem.Challenge.rw_serieskept_k08_whole_checks_of_octets) (n := 63) (k := 100) (x := "script") (CX := fun w => L2.CX PySem.Challenge.rw_serieskept_k08_whole_checks_of_octets.prog w) rfl (by decide) (by kernel_rfl) ⟨rfl, by decide, by decide⟩ ?F (fun _ _ _ _ _ ⟨_, _, _, _, _, _, _, _, _, _, _, _, z⟩ => z)
    intro w mg fa h Y G hmg0
    obtain ⟨K, KX, c⟩ := Y
    have hmg : mg ("law" : PySem.Str) = some (.ref fa) := by
      have e : (HandSHeadRun.topDef (OpenLaw.row PySem.Challenge.rw_serieskept_k08_whole_checks_of_octets).prog 26).name = ("law" : PySem.Str) := by kernel_rfl
      rw [← e]
      exact hmg0
    exact ⟨K, KX, LW.at_law KX G c hmg (fun ns h1 h2 => LW.ok15 94 ns h1 h2)⟩

