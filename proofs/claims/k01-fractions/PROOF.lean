import PyProof.Rows.All
import Wide.All
import OpenK.AllK
import Wide.FinOn
import PySem.Challenge.RW_ohmpatch_k01_fractions_by_own_integers
import HandS.ForMost
import HandS.Exc
import HandS.ExcOwn
import HandS.ExcInit
import HandS.CallSlots
import HandS.Defaults
import HandS.Flow
import HandS.WordsExc
import HandS.Wide
import HandS.WideBits
import HandS.TupAny
import HandS.TupMul
import HandS.TupLe
import HandS.Gcd
import HandS.RaiseMore
import HandS.Conv
import HandS.SortOrd
import KE.SortData
import KE.DataCmp
import KE.DataMinMax
import HandS.Deep
import HandS.TryOnly
import HandS.WordsDict
import HandS.IsInst
import HandS.Text
import HandS.Style
import HandS.Dict
import HandS.RevTup
import HandS.FStr
import HandS.ExcIs
import PyProof.RowDictHeap
import PyProof.ReprRoads
import HandS.ClsMeth
import HandS.HeadWalk
import HandS.Head0
import HandS.Head1
import HandS.Head2
import HandS.HeadEnd
import HandS.HeadHook1
import HandS.HeadHook2
import HandS.EndBits
import KE.KStateDown
import HandS.Head3
import HandS.Codes
section
set_option Elab.async false
set_option linter.all false
set_option maxRecDepth 100000
set_option maxHeartbeats 1000000
/-! DL1: a layer of values as data over the hand layer: tuples are trees, what can change has a number in a store. -/
namespace DL
open PySem PySem.Spec PyProof.Rows L2

/-! ### values, stores, results -/
inductive D where
  | non | bl (b : Bool) | int (i : Int) | str (s : Str) | tup (xs : List D) | ref (l : Nat)
inductive Ob where
  | lst (xs : List D) | fro (xs : List D) | dct (kvs : List (Key × D)) | exc (c : Str) (fs : List (Str × D))
abbrev Sto := List Ob
abbrev Ev := List (Option D)
inductive R (α : Type) where
  | ok (a : α) (S : Sto) | exc (c : Str) (fs : List (Str × D)) (ρ : Ev) (S : Sto) | bad
def R.bind {α β : Type} : R α → (α → Sto → R β) → R β
  | .ok a S, f => f a S
  | .exc c fs ρ S, _ => .exc c fs ρ S
  | .bad, _ => .bad
@[simp] theorem R.bind_ok {α β : Type} (a : α) (S : Sto) (f : α → Sto → R β) : (R.ok a S).bind f = f a S := rfl
@[simp] theorem R.bind_exc {α β : Type} (c fs ρ) (S : Sto) (f : α → Sto → R β) : (R.exc c fs ρ S).bind f = .exc c fs ρ S := rfl
@[simp] theorem R.bind_bad {α β : Type} (f : α → Sto → R β) : (R.bad).bind f = .bad := rfl

def R.nx {α : Type} : R α → Prop
  | .exc _ _ _ _ => False
  | _ => True
/-! ### how they stand in the heap -/
section
variable (K : PySem.W.Frag) (H : Hp) (φ : Nat → Addr) (n : Nat)
mutual
inductive RelD : D → V → Prop
  | non : RelD .non .non
  | bl (b : Bool) : RelD (.bl b) (.bl b)
  | int (i : Int) : RelD (.int i) (.int i)
  | str (s : Str) : RelD (.str s) (.str s)
  | tup {a : Addr} {ds : List D} {vs : List V} (hl : ds.length ≤ sizeLine) (h : SqT K H a vs) (r : RelDs ds vs) : RelD (.tup ds) (.ref a)
  | ref {l : Nat} (h : l < n) : RelD (.ref l) (.ref (φ l))
inductive RelDs : List D → List V → Prop
  | nil : RelDs [] []
  | cons {d : D} {v : V} {ds : List D} {vs : List V} (h : RelD d v) (r : RelDs ds vs) : RelDs (d :: ds) (v :: vs)
end
inductive RelFs : List (Str × D) → List (Str × V) → Prop
  | nil : RelFs [] []
  | cons {f : Str} {d : D} {v : V} {ds : List (Str × D)} {vs : List (Str × V)} (h : RelD K H φ n d v) (r : RelFs ds vs) : RelFs ((f, d) :: ds) ((f, v) :: vs)
inductive RelKs {κ : Type} : List (κ × D) → List (κ × V) → Prop
  | nil : RelKs [] []
  | cons {f : κ} {d : D} {v : V} {ds : List (κ × D)} {vs : List (κ × V)} (h : RelD K H φ n d v) (r : RelKs ds vs) : RelKs ((f, d) :: ds) ((f, v) :: vs)
end

/-- the classes' addresses by name -/
structure Gs where
  K : PySem.W.Frag
  cA : Str → Addr

def ObR (G : Gs) (H : Hp) (φ : Nat → Addr) (n : Nat) (a : Addr) : Ob → Prop
  | .lst ds => ds.length ≤ sizeLine ∧ ∃ vs, H a = some (.lst vs) ∧ RelDs G.K H φ n ds vs
  | .fro ds => ds.length ≤ sizeLine ∧ ∃ o vs, H a = some (.frz o (.lst vs)) ∧ RelDs G.K H φ n ds vs
  | .dct kvs => ∃ vs, H a = some (.dK vs) ∧ RelKs G.K H φ n kvs vs
  | .exc c fs => ∃ d vs, H a = some (exo a (G.cA c) (some d)) ∧ H d = some (exd d vs) ∧ RelFs G.K H φ n fs vs
/-- the interpreter's own dict stands still: so nothing of ours is it -/
def Sys (H : Hp) : Prop := ∃ o f, H sysModules = some (.frz o (.ext f))
theorem Sys.upd {H : Hp} {p : Addr} {o : HO} (s : Sys H) (h : ∀ ob f, H p ≠ some (.frz ob (.ext f))) : Sys (L2.upd H p o) := by
  obtain ⟨a, b, e⟩ := s
  exact ⟨a, b, by rw [L2.upd_ne (fun z => h a b (by rw [← z]; exact e))]; exact e⟩
theorem Sys.new {H : Hp} {p : Addr} {o : HO} (s : Sys H) (h : H p = none) : Sys (L2.upd H p o) := s.upd fun _ _ z => by rw [h] at z; cases z
structure Rep (G : Gs) (H : Hp) (φ : Nat → Addr) (S : Sto) : Prop where
  sys : Sys H
  inj : ∀ l m, l < S.length → m < S.length → φ l = φ m → l = m
  ob : ∀ l o, S[l]? = some o → ObR G H φ S.length (φ l) o
/-- what lies behind: the numbers keep their addresses, the tuples stand -/
structure Fut (G : Gs) (φ : Nat → Addr) (n : Nat) (H : Hp) (φ' : Nat → Addr) (n' : Nat) (H' : Hp) : Prop where
  le : n ≤ n'
  fix : ∀ l, l < n → φ' l = φ l
  tups : ∀ a vs, H a = some (.tup vs) → H' a = some (.tup vs)
  frzs : ∀ a o u, H a = some (.frz o u) → H' a = some (.frz o u)
  keep : ∀ a u, H a = some u → (∀ l, l < n → φ l ≠ a) → H' a = some u
  there : ∀ a, H a ≠ none → H' a ≠ none
  new : ∀ l, n ≤ l → l < n' → H (φ' l) = none
theorem Fut.refl {G : Gs} {φ : Nat → Addr} {n : Nat} {H : Hp} : Fut G φ n H φ n H := ⟨Nat.le_refl _, fun _ _ => rfl, fun _ _ h => h, fun _ _ _ h => h, fun _ _ h _ => h, fun _ h => h, fun _ h1 h2 => absurd (Nat.lt_of_lt_of_le h2 h1) (Nat.lt_irrefl _)⟩
theorem Fut.trans {G : Gs} {φ φ1 φ2 : Nat → Addr} {n n1 n2 : Nat} {H H1 H2 : Hp} (a : Fut G φ n H φ1 n1 H1) (b : Fut G φ1 n1 H1 φ2 n2 H2) : Fut G φ n H φ2 n2 H2 where
  le := Nat.le_trans a.le b.le
  fix := fun l h => (b.fix l (Nat.lt_of_lt_of_le h a.le)).trans (a.fix l h)
  tups := fun x vs h => b.tups x vs (a.tups x vs h)
  frzs := fun x o u h => b.frzs x o u (a.frzs x o u h)
  keep := fun x u h hn => b.keep x u (a.keep x u h hn) fun l hl z => by
    by_cases c : l < n
    · exact hn l c ((a.fix l c).symm.trans z)
    · have q := a.new l (Nat.le_of_not_lt c) hl
      rw [z, h] at q
      cases q
  new := fun l h1 h2 => by
    by_cases c : l < n1
    · rw [b.fix l c]
      exact a.new l h1 c
    · exact Classical.byContradiction fun z => a.there _ z (b.new l (Nat.le_of_not_lt c) h2)
  there := fun x h => b.there x (a.there x h)
/-- what relations of values lean on -/
structure Fix (φ : Nat → Addr) (n : Nat) (H : Hp) (φ' : Nat → Addr) (n' : Nat) (H' : Hp) : Prop where
  le : n ≤ n'
  fix : ∀ l, l < n → φ' l = φ l
  tups : ∀ a vs, H a = some (.tup vs) → H' a = some (.tup vs)
  frzs : ∀ a o u, H a = some (.frz o u) → H' a = some (.frz o u)
section
variable {G : Gs} {K : PySem.W.Frag} {φ φ' : Nat → Addr} {n n' : Nat} {H H' : Hp}
theorem Fut.toFix (f : Fut G φ n H φ' n' H') : Fix φ n H φ' n' H' := ⟨f.le, f.fix, f.tups, f.frzs⟩
theorem Fix.sqt (f : Fix φ n H φ' n' H') {a : Addr} {vs : List V} : SqT K H a vs → SqT K H' a vs
  | .inl (.inl h) => .inl (.inl (f.tups _ _ h))
  | .inl (.inr ⟨o, h⟩) => .inl (.inr ⟨o, f.frzs _ _ _ h⟩)
  | .inr h => .inr h
theorem Fut.sqt (f : Fut G φ n H φ' n' H') {a : Addr} {vs : List V} (h : SqT K H a vs) : SqT K H' a vs := f.toFix.sqt h
mutual
theorem RelD.mono (f : Fix φ n H φ' n' H') : ∀ {d : D} {v : V}, RelD K H φ n d v → RelD K H' φ' n' d v
  | _, _, .non => .non
  | _, _, .bl b => .bl b
  | _, _, .int i => .int i
  | _, _, .str s => .str s
  | _, _, .tup hl h r => .tup hl (f.sqt h) (RelDs.mono f r)
  | _, _, .ref (l := l) h => by
    rw [← f.fix l h]
    exact .ref (Nat.lt_of_lt_of_le h f.le)
theorem RelDs.mono (f : Fix φ n H φ' n' H') : ∀ {d : List D} {v : List V}, RelDs K H φ n d v → RelDs K H' φ' n' d v
  | _, _, .nil => .nil
  | _, _, .cons h r => .cons (RelD.mono f h) (RelDs.mono f r)
end
theorem RelFs.mono (f : Fix φ n H φ' n' H') : ∀ {d : List (Str × D)} {v : List (Str × V)}, RelFs K H φ n d v → RelFs K H' φ' n' d v
  | _, _, .nil => .nil
  | _, _, .cons h r => .cons (h.mono f) (RelFs.mono f r)
theorem RelKs.mono {κ : Type} (f : Fix φ n H φ' n' H') : ∀ {d : List (κ × D)} {v : List (κ × V)}, RelKs K H φ n d v → RelKs K H' φ' n' d v
  | _, _, .nil => .nil
  | _, _, .cons h r => .cons (h.mono f) (RelKs.mono f r)
theorem RelD.fut (f : Fut G φ n H φ' n' H') {d : D} {v : V} (r : RelD K H φ n d v) : RelD K H' φ' n' d v := r.mono f.toFix
theorem RelDs.fut (f : Fut G φ n H φ' n' H') {d : List D} {v : List V} (r : RelDs K H φ n d v) : RelDs K H' φ' n' d v := r.mono f.toFix
theorem RelFs.fut (f : Fut G φ n H φ' n' H') {d : List (Str × D)} {v : List (Str × V)} (r : RelFs K H φ n d v) : RelFs K H' φ' n' d v := r.mono f.toFix
theorem RelKs.fut {κ : Type} (f : Fut G φ n H φ' n' H') {d : List (κ × D)} {v : List (κ × V)} (r : RelKs K H φ n d v) : RelKs K H' φ' n' d v := r.mono f.toFix
theorem RelDs.length {K : PySem.W.Frag} : ∀ {d : List D} {v : List V}, RelDs K H φ n d v → d.length = v.length
  | _, _, .nil => rfl
  | _, _, .cons _ r => congrArg (· + 1) (RelDs.length r)
theorem RelDs.get {K : PySem.W.Frag} : ∀ {d : List D} {v : List V} {i : Nat} {x : D}, RelDs K H φ n d v → d[i]? = some x → ∃ y, v[i]? = some y ∧ RelD K H φ n x y
  | _, _, _, _, .nil, h => by simp at h
  | _, _, 0, _, .cons h r, e => by
    simp at e
    subst e
    exact ⟨_, rfl, h⟩
  | _, _, i + 1, _, .cons h r, e => by
    obtain ⟨y, h1, h2⟩ := RelDs.get (i := i) r (by simpa using e)
    exact ⟨y, by simpa using h1, h2⟩
theorem RelDs.append {K : PySem.W.Frag} : ∀ {d e : List D} {v w : List V}, RelDs K H φ n d v → RelDs K H φ n e w → RelDs K H φ n (d ++ e) (v ++ w)
  | _, _, _, _, .nil, s => s
  | _, _, _, _, .cons h r, s => .cons h (RelDs.append r s)
theorem RelDs.set {K : PySem.W.Frag} {x : D} {y : V} (q : RelD K H φ n x y) : ∀ {d : List D} {v : List V} (i : Nat), RelDs K H φ n d v → RelDs K H φ n (d.set i x) (v.set i y)
  | _, _, _, .nil => .nil
  | _, _, 0, .cons h r => .cons q r
  | _, _, i + 1, .cons h r => .cons h (RelDs.set q i r)
theorem RelDs.take {K : PySem.W.Frag} : ∀ {d : List D} {v : List V} (i : Nat), RelDs K H φ n d v → RelDs K H φ n (d.take i) (v.take i)
  | _, _, 0, _ => .nil
  | _, _, _ + 1, .nil => .nil
  | _, _, i + 1, .cons h r => .cons h (RelDs.take i r)
theorem RelDs.drop {K : PySem.W.Frag} : ∀ {d : List D} {v : List V} (i : Nat), RelDs K H φ n d v → RelDs K H φ n (d.drop i) (v.drop i)
  | _, _, 0, r => r
  | _, _, _ + 1, .nil => .nil
  | _, _, i + 1, .cons h r => RelDs.drop i r
theorem RelDs.reverse {K : PySem.W.Frag} : ∀ {d : List D} {v : List V}, RelDs K H φ n d v → RelDs K H φ n d.reverse v.reverse
  | _, _, .nil => .nil
  | _, _, .cons h r => by
    rw [List.reverse_cons, List.reverse_cons]
    exact RelDs.append (RelDs.reverse r) (.cons h .nil)
end

/-- the frame's slots -/
structure EnvR (K : PySem.W.Frag) (H : Hp) (φ : Nat → Addr) (n : Nat) (ρ : Ev) (σ : L2.St) : Prop where
  len : ρ.length = σ.length
  at_ : ∀ (i : Nat) (d : D), ρ[i]? = some (some d) → ∃ v, σ[i]? = some (some v) ∧ RelD K H φ n d v
theorem EnvR.fut {G : Gs} {φ φ' : Nat → Addr} {n n' : Nat} {H H' : Hp} {ρ : Ev} {σ : L2.St} (e : EnvR G.K H φ n ρ σ) (f : Fut G φ n H φ' n' H') : EnvR G.K H' φ' n' ρ σ := ⟨e.len, fun i d h =>
  let ⟨v, h1, h2⟩ := e.at_ i d h
  ⟨v, h1, h2.fut f⟩⟩
theorem EnvR.set {K : PySem.W.Frag} {H : Hp} {φ : Nat → Addr} {n : Nat} {ρ : Ev} {σ : L2.St} {i : Nat} {d : D} {v : V} (e : EnvR K H φ n ρ σ) (r : RelD K H φ n d v) : EnvR K H φ n (ρ.set i (some d)) (σ.set i (some v)) := ⟨by rw [List.length_set, List.length_set]; exact e.len, fun j x h => by
  by_cases q : i = j
  · subst q
    by_cases hi : i < ρ.length
    · rw [List.getElem?_set_self hi] at h
      cases h
      exact ⟨v, List.getElem?_set_self (by rw [← e.len]; exact hi), r⟩
    · rw [List.getElem?_eq_none (by simpa using hi)] at h
      cases h
  · rw [List.getElem?_set_ne q] at h
    obtain ⟨y, h1, h2⟩ := e.at_ j x h
    exact ⟨y, by rw [List.getElem?_set_ne q]; exact h1, h2⟩⟩
theorem EnvR.unset {K : PySem.W.Frag} {H : Hp} {φ : Nat → Addr} {n : Nat} {ρ : Ev} {σ : L2.St} {i : Nat} {o : Option V} (e : EnvR K H φ n ρ σ) : EnvR K H φ n (ρ.set i none) (σ.set i o) := ⟨by rw [List.length_set, List.length_set]; exact e.len, fun j x h => by
  by_cases q : i = j
  · subst q
    by_cases hi : i < ρ.length
    · rw [List.getElem?_set_self hi] at h
      cases h
    · rw [List.getElem?_eq_none (by simpa using hi)] at h
      cases h
  · rw [List.getElem?_set_ne q] at h
    obtain ⟨y, h1, h2⟩ := e.at_ j x h
    exact ⟨y, by rw [List.getElem?_set_ne q]; exact h1, h2⟩⟩

/-! ### readings by results -/
abbrev Rl (α β : Type) := PySem.W.Frag → Hp → (Nat → Addr) → Nat → α → β → Prop
/-- an exception's wish -/
def PostX (G : Gs) (W : WX) (φ : Nat → Addr) (n : Nat) (H : Hp) (c : Str) (fs : List (Str × D)) (ρ' : Ev) (S' : Sto) : Prop :=
  ∀ φ' H' σ' dx vs, Fut G φ n H φ' S'.length H' → Rep G H' φ' S' → EnvR G.K H' φ' S'.length ρ' σ' → H' dx = some (.xd vs) → RelFs G.K H' φ' S'.length fs vs → W (.ref (G.cA c)) (some dx) σ' H'
/-- what is wanted of a result -/
def Post {α β : Type} (T : Rl α β) (G : Gs) (W : WX) (φ : Nat → Addr) (n : Nat) (H : Hp) (r : R α) (Q : β → Hp → Prop) : Prop := match r with
  | .ok d S' => ∀ φ' H' v, Fut G φ n H φ' S'.length H' → Rep G H' φ' S' → T G.K H' φ' S'.length d v → Q v H'
  | .exc c fs ρ' S' => PostX G W φ n H c fs ρ' S'
  | .bad => False
/-- a meaning: of slots and a store -/
abbrev Den (α : Type) := Ev → Sto → R α
def TG {α β : Type} (T : Rl α β) (G : Gs) (W : WX) (f : Den α) : L2.St → Hp → (β → Hp → Prop) → Prop := fun σ H Q => ∃ φ S ρ, Rep G H φ S ∧ EnvR G.K H φ S.length ρ σ ∧ Post T G W φ S.length H (f ρ S) Q
abbrev RelB : Rl Bool Bool := fun _ _ _ _ b c => b = c
abbrev TD (G : Gs) (W : WX) (f : Den D) : TE := TG RelD G W f
abbrev TDA (G : Gs) (W : WX) (f : Den (List D)) : TA := TG RelDs G W f
abbrev TDB (G : Gs) (W : WX) (f : Den Bool) : TT := TG RelB G W f
section
variable {G : Gs} {W : WX} {φ φ1 : Nat → Addr} {n n1 : Nat} {H H1 : Hp} {σ : L2.St}
theorem PostX.fut {c : Str} {fs : List (Str × D)} {ρ' : Ev} {S' : Sto} (f : Fut G φ n H φ1 n1 H1) (h : PostX G W φ n H c fs ρ' S') : PostX G W φ1 n1 H1 c fs ρ' S' :=
  fun φ' H' σ' dx vs f' rp er e rd => h φ' H' σ' dx vs (f.trans f') rp er e rd
theorem Post.fut {α β : Type} {T : Rl α β} {r : R α} {Q : β → Hp → Prop} (f : Fut G φ n H φ1 n1 H1) (h : Post T G W φ n H r Q) : Post T G W φ1 n1 H1 r Q := by
  cases r with
  | ok d S => exact fun φ' H' v f' rp rd => h φ' H' v (f.trans f') rp rd
  | exc c fs ρ' S => exact PostX.fut f h
  | bad => exact h
/-- a part first, then the rest -/
theorem TG.seq {α β α' β' : Type} {T : Rl α β} {T' : Rl α' β'} {fa : Den α} {g : α → Sto → R α'} {ρ : Ev} {S : Sto} {Q : β' → Hp → Prop} {Q1 : β → Hp → Prop}
    (rp : Rep G H φ S) (er : EnvR G.K H φ S.length ρ σ) (h : Post T' G W φ S.length H ((fa ρ S).bind g) Q)
    (k : ∀ φ1 S1 H1 d v, Fut G φ S.length H φ1 S1.length H1 → Rep G H1 φ1 S1 → EnvR G.K H1 φ1 S1.length ρ σ → T G.K H1 φ1 S1.length d v → Post T' G W φ1 S1.length H1 (g d S1) Q → Q1 v H1) : TG T G W fa σ H Q1 := by
  refine ⟨φ, S, ρ, rp, er, ?_⟩
  cases e : fa ρ S with
  | ok d S1 =>
    rw [e] at h
    exact fun φ1 H1 v f1 rp1 rd => k φ1 S1 H1 d v f1 rp1 (er.fut f1) rd (Post.fut f1 h)
  | exc c fs ρ' S1 =>
    rw [e] at h
    exact h
  | bad =>
    rw [e] at h
    exact h.elim
end
end DL
end
section
set_option Elab.async false
set_option linter.all false
set_option maxRecDepth 100000
set_option maxHeartbeats 1000000
/-! DL2: expressions -/
namespace DL
open PySem PySem.Spec PyProof.Rows L2

theorem _root_.L2.PE.imp {X : Cx} {e : Expr} {t t' : TE} (h : PE X e t) (i : ∀ σ H Q, t' σ H Q → t σ H Q) : PE X e t' := ⟨fun pins s σ H Q I hw => h.run pins s σ H Q I (i σ H Q hw)⟩
theorem _root_.L2.PT.imp {X : Cx} {e : Expr} {t t' : TT} (h : PT X e t) (i : ∀ σ H Q, t' σ H Q → t σ H Q) : PT X e t' := ⟨fun pins s σ H Q I hw => h.run pins s σ H Q I (i σ H Q hw)⟩
theorem _root_.L2.PW.imp {X : Cx} {e : Expr} {t t' : TT} (h : PW X e t) (i : ∀ σ H Q, t' σ H Q → t σ H Q) : PW X e t' := ⟨fun wh pins s σ H Q I hw => h.run wh pins s σ H Q I (i σ H Q hw)⟩
theorem _root_.L2.PA.imp {X : Cx} {e : List Expr} {t t' : TA} (h : PA X e t) (i : ∀ σ H Q, t' σ H Q → t σ H Q) : PA X e t' := ⟨fun pos pins s σ H Q I hw => h.run pos pins s σ H Q I (i σ H Q hw)⟩
theorem _root_.L2.PS.imp {X : Cx} {e : Stmt} {t t' : TS} (h : PS X e t) (i : ∀ D σ H, t' D σ H → t D σ H) : PS X e t' := ⟨fun pins s σ H D I hw => h.run pins s σ H D I (i D σ H hw)⟩
theorem _root_.L2.PSs.imp {X : Cx} {e : List Stmt} {t t' : TS} (h : PSs X e t) (i : ∀ D σ H, t' D σ H → t D σ H) : PSs X e t' := ⟨fun pins s σ H D I hw => h.run pins s σ H D I (i D σ H hw)⟩

section
variable {G : Gs} {W : WX} {X : Cx}
/-- a result that is just a value -/
theorem post_ok {α β : Type} {T : Rl α β} {φ : Nat → Addr} {H : Hp} {d : α} {S : Sto} {v : β} {Q : β → Hp → Prop} (h : Post T G W φ S.length H (.ok d S) Q) (rp : Rep G H φ S) (r : T G.K H φ S.length d v) : Q v H := h φ H v Fut.refl rp r

/-! ### names, constants, displays -/
def fVar (i : Nat) : Den D := fun ρ S => match ρ[i]? with
  | some (some d) => .ok d S
  | _ => .bad
theorem de_var {i : Nat} {x : Str} {pos : Pos} (hN : X.N[i]? = some x) (hv : Vis X.env.scope x) (hd : (x == ("__debug__" : Str)) = false) (hcd : (x == ("__classdict__" : Str)) = false) : PE X (.Name x pos) (TD G W (fVar i)) :=
  (pe_var (i := i) hN hv hd hcd).imp fun σ H Q ⟨φ, S, ρ, rp, er, h⟩ => by
    unfold fVar at h
    cases e : ρ[i]? with
    | none => rw [e] at h; exact h.elim
    | some o =>
      cases o with
      | none => rw [e] at h; exact h.elim
      | some d =>
        rw [e] at h
        obtain ⟨v, h1, h2⟩ := er.at_ i d e
        exact ⟨v, h1, post_ok h rp h2⟩
def fC (d : D) : Den D := fun _ S => .ok d S
theorem td_const {d : D} {v : V} (hr : ∀ H φ n, RelD G.K H φ n d v) : ∀ σ H Q, TD G W (fC d) σ H Q → tC v σ H Q := fun σ H Q ⟨φ, S, ρ, rp, er, h⟩ => post_ok h rp (hr _ _ _)
/-- arguments, items -/
def fNil : Den (List D) := fun _ S => .ok [] S
def fCons (a : Den D) (r : Den (List D)) : Den (List D) := fun ρ S => (a ρ S).bind fun x S1 => (r ρ S1).bind fun xs S2 => .ok (x :: xs) S2
theorem da_nil : PA X [] (TDA G W fNil) := pa_nil.imp fun σ H Q ⟨φ, S, ρ, rp, er, h⟩ => post_ok h rp .nil
theorem da_cons {e : Expr} {es : List Expr} {f : Den D} {fs : Den (List D)} (ha : PE X e (TD G W f)) (hr : PA X es (TDA G W fs)) (hs : starEach (e :: es) X.env = (false, eval e X.env) :: starEach es X.env) : PA X (e :: es) (TDA G W (fCons f fs)) :=
  (pa_cons ha hr hs).imp fun σ H Q ⟨φ, S, ρ, rp, er, h⟩ => TG.seq rp er h fun φ1 S1 H1 d v f1 rp1 er1 rd h1 => TG.seq rp1 er1 h1 fun φ2 S2 H2 ds vs f2 rp2 er2 rds h2 => post_ok h2 rp2 (.cons (rd.fut f2) rds)
theorem upd_there {H : Hp} {p : Addr} {o : HO} (a : Addr) (h : H a ≠ none) : upd H p o a ≠ none := fun z => by
  by_cases c : a = p
  · rw [c, upd_same] at z
    cases z
  · rw [upd_ne c] at z
    exact h z
/-- a new object -/
theorem Rep.alloc {φ : Nat → Addr} {H : Hp} {S : Sto} {p : Addr} {o : HO} {ob : Ob} (rp : Rep G H φ S) (hp : H p = none) (hob : ∀ H' φ', Fut G φ S.length H φ' (S.length + 1) H' → H' p = some o → ObR G H' φ' (S.length + 1) p ob) :
    Fut G φ S.length H (fun l => if l = S.length then p else φ l) (S ++ [ob]).length (upd H p o) ∧ Rep G (upd H p o) (fun l => if l = S.length then p else φ l) (S ++ [ob]) := by
  have hl : (S ++ [ob]).length = S.length + 1 := by simp
  have hne : ∀ b u, H b = some u → b ≠ p := fun b u e z => by rw [z, hp] at e; cases e
  have ft : Fut G φ S.length H (fun l => if l = S.length then p else φ l) (S.length + 1) (upd H p o) :=
    ⟨Nat.le_succ _, fun l h => if_neg (Nat.ne_of_lt h), fun a vs h => by rw [upd_ne (hne _ _ h)]; exact h, fun a o u h => by rw [upd_ne (hne _ _ h)]; exact h, fun a u h _ => by rw [upd_ne (hne _ _ h)]; exact h, upd_there, fun l h1 h2 => by
      have e : l = S.length := by omega
      simp only [e, if_pos]
      exact hp⟩
  have hat : ∀ l o', S[l]? = some o' → H (φ l) ≠ none := fun l o' e z => by
    have q := rp.ob l o' e
    cases o' with
    | lst ds => obtain ⟨_, vs, e1, _⟩ := q; rw [z] at e1; cases e1
    | fro ds => obtain ⟨_, _, vs, e1, _⟩ := q; rw [z] at e1; cases e1
    | dct ds => obtain ⟨vs, e1, _⟩ := q; rw [z] at e1; cases e1
    | exc c fs => obtain ⟨_, vs, e1, _⟩ := q; rw [z] at e1; cases e1
  rw [hl]
  refine ⟨ft, rp.sys.new hp, ?_, ?_⟩
  · intro l m h1 h2 e
    rw [hl] at h1 h2
    have key : ∀ k, k < S.length → φ k ≠ p := fun k hk z => hat k _ (List.getElem?_eq_getElem hk) (by rw [z]; exact hp)
    by_cases c1 : l = S.length <;> by_cases c2 : m = S.length
    · rw [c1, c2]
    · exfalso
      simp only [if_pos c1, if_neg c2] at e
      exact key m (by omega) e.symm
    · exfalso
      simp only [if_neg c1, if_pos c2] at e
      exact key l (by omega) e
    · simp only [if_neg c1, if_neg c2] at e
      exact rp.inj l m (by omega) (by omega) e
  · intro l o' e
    rw [hl]
    by_cases c1 : l = S.length
    · subst c1
      have e2 : ob = o' := by simpa using e
      subst e2
      simp only [if_pos]
      exact hob _ _ ft upd_same
    · have lt : l < S.length := by
        have := (List.getElem?_eq_some_iff.mp e).1
        rw [hl] at this
        omega
      have e2 : S[l]? = some o' := by rwa [List.getElem?_append_left lt] at e
      simp only [if_neg c1]
      have q := rp.ob l o' e2
      have nep : φ l ≠ p := fun z => hat l o' e2 (by rw [z]; exact hp)
      cases o' with
      | lst ds => obtain ⟨z, vs, e1, r⟩ := q; exact ⟨z, vs, by rw [upd_ne nep]; exact e1, r.fut ft⟩
      | fro ds => obtain ⟨zz, o, vs, e1, r⟩ := q; exact ⟨zz, o, vs, by rw [upd_ne nep]; exact e1, r.fut ft⟩
      | dct ds => obtain ⟨vs, e1, r⟩ := q; exact ⟨vs, by rw [upd_ne nep]; exact e1, r.fut ft⟩
      | exc c fs => obtain ⟨d, vs, e1, e2, r⟩ := q; exact ⟨d, vs, by rw [upd_ne nep]; exact e1, by rw [upd_ne (hne _ _ e2)]; exact e2, r.fut ft⟩
/-- a new tuple -/
theorem Rep.newTup {φ : Nat → Addr} {H : Hp} {S : Sto} {p : Addr} {xs : List V} (rp : Rep G H φ S) (hp : H p = none) : Fut G φ S.length H φ S.length (upd H p (.tup xs)) ∧ Rep G (upd H p (.tup xs)) φ S := by
  have hne : ∀ b u, H b = some u → b ≠ p := fun b u e z => by rw [z, hp] at e; cases e
  have ft : Fut G φ S.length H φ S.length (upd H p (.tup xs)) :=
    ⟨Nat.le_refl _, fun l h => rfl, fun a vs h => by rw [upd_ne (hne _ _ h)]; exact h, fun a o u h => by rw [upd_ne (hne _ _ h)]; exact h, fun a u h _ => by rw [upd_ne (hne _ _ h)]; exact h, upd_there, fun l h1 h2 => absurd (Nat.lt_of_lt_of_le h2 h1) (Nat.lt_irrefl _)⟩
  refine ⟨ft, rp.sys.new hp, rp.inj, fun l o e => ?_⟩
  have q := rp.ob l o e
  cases o with
  | lst ds => obtain ⟨z, vs, e1, r⟩ := q; exact ⟨z, vs, by rw [upd_ne (hne _ _ e1)]; exact e1, r.fut ft⟩
  | fro ds => obtain ⟨zz, o, vs, e1, r⟩ := q; exact ⟨zz, o, vs, by rw [upd_ne (hne _ _ e1)]; exact e1, r.fut ft⟩
  | dct ds => obtain ⟨vs, e1, r⟩ := q; exact ⟨vs, by rw [upd_ne (hne _ _ e1)]; exact e1, r.fut ft⟩
  | exc c fs => obtain ⟨d, vs, e1, e2, r⟩ := q; exact ⟨d, vs, by rw [upd_ne (hne _ _ e1)]; exact e1, by rw [upd_ne (hne _ _ e2)]; exact e2, r.fut ft⟩
theorem post_tup {φ : Nat → Addr} {H : Hp} {S : Sto} {ds : List D} {vs : List V} {Q : VK} {p : Addr} (h : Post RelD G W φ S.length H (.ok (.tup ds) S) Q) (rp : Rep G H φ S) (r : RelDs G.K H φ S.length ds vs) (hl : ds.length ≤ sizeLine) (hp : H p = none) : Q (.ref p) (upd H p (.tup vs)) := by
  obtain ⟨ft, rp1⟩ := rp.newTup (xs := vs) hp
  exact h φ _ _ ft rp1 (.tup hl (.inl (.inl upd_same)) (r.fut ft))
theorem post_lst {φ : Nat → Addr} {H : Hp} {S : Sto} {ds : List D} {vs : List V} {Q : VK} {p : Addr} (h : Post RelD G W φ S.length H (.ok (.ref S.length) (S ++ [.lst ds])) Q) (rp : Rep G H φ S) (r : RelDs G.K H φ S.length ds vs) (hl : ds.length ≤ sizeLine) (hp : H p = none) : Q (.ref p) (upd H p (.lst vs)) := by
  obtain ⟨ft, rp1⟩ := rp.alloc (o := .lst vs) (ob := .lst ds) hp fun H' φ' ft e => ⟨hl, vs, e, r.fut ft⟩
  refine h _ _ _ ft rp1 ?_
  have : RelD G.K (upd H p (.lst vs)) (fun l => if l = S.length then p else φ l) (S ++ [Ob.lst ds]).length (.ref S.length) (.ref ((fun l => if l = S.length then p else φ l) S.length)) := .ref (by simp)
  simpa using this
def fTup (fs : Den (List D)) : Den D := fun ρ S => (fs ρ S).bind fun ds S1 => .ok (.tup ds) S1
def mkLst (ds : List D) (S : Sto) : R D := .ok (.ref S.length) (S ++ [.lst ds])
def fLst (fs : Den (List D)) : Den D := fun ρ S => (fs ρ S).bind mkLst
/-- so many items -/
def Len (n : Nat) (fs : Den (List D)) : Prop := ∀ ρ S ds S', fs ρ S = .ok ds S' → ds.length = n
theorem Len.nil : Len 0 fNil := fun ρ S ds S' h => by cases h; rfl
theorem Len.cons {n : Nat} {f : Den D} {fs : Den (List D)} (h : Len n fs) : Len (n + 1) (fCons f fs) := fun ρ S ds S' e => by
  unfold fCons at e
  cases e1 : f ρ S with
  | ok x S1 =>
    rw [e1] at e
    cases e2 : fs ρ S1 with
    | ok xs S2 =>
      simp only [R.bind_ok, e2] at e
      cases e
      simp [h _ _ _ _ e2]
    | exc c q r s => simp [e2] at e
    | bad => simp [e2] at e
  | exc c q r s => simp [e1] at e
  | bad => simp [e1] at e
theorem TG.seqL {n : Nat} {β' α' : Type} {T' : Rl α' β'} {fa : Den (List D)} (hn : Len n fa) {φ : Nat → Addr} {H : Hp} {σ : L2.St} {g : List D → Sto → R α'} {ρ : Ev} {S : Sto} {Q : β' → Hp → Prop} {Q1 : List V → Hp → Prop}
    (rp : Rep G H φ S) (er : EnvR G.K H φ S.length ρ σ) (h : Post T' G W φ S.length H ((fa ρ S).bind g) Q)
    (k : ∀ φ1 S1 H1 d v, Fut G φ S.length H φ1 S1.length H1 → Rep G H1 φ1 S1 → EnvR G.K H1 φ1 S1.length ρ σ → RelDs G.K H1 φ1 S1.length d v → d.length = n → Post T' G W φ1 S1.length H1 (g d S1) Q → Q1 v H1) : TG RelDs G W fa σ H Q1 := by
  refine ⟨φ, S, ρ, rp, er, ?_⟩
  cases e : fa ρ S with
  | ok d S1 =>
    rw [e] at h
    exact fun φ1 H1 v f1 rp1 rd => k φ1 S1 H1 d v f1 rp1 (er.fut f1) rd (hn _ _ _ _ e) (Post.fut f1 h)
  | exc c fs ρ' S1 =>
    rw [e] at h
    exact h
  | bad =>
    rw [e] at h
    exact h.elim
theorem de_tup {es : List Expr} {fs : Den (List D)} {k : Nat} {pos : Pos} {n : Nat} (h : PA X es (TDA G W fs)) (hn : Len n fs) (hz : n ≤ sizeLine) : PE X (.Tuple es k pos) (TD G W (fTup fs)) :=
  (pe_tup h).imp fun σ H Q ⟨φ, S, ρ, rp, er, hq⟩ => TG.seqL hn rp er hq fun φ1 S1 H1 ds vs f1 rp1 er1 rds hl h1 => ⟨by rw [← rds.length, hl]; exact hz, fun p hp => post_tup h1 rp1 rds (by rw [hl]; exact hz) hp⟩
theorem de_lst {es : List Expr} {fs : Den (List D)} {pos : Pos} {n : Nat} (h : PA X es (TDA G W fs)) (hn : Len n fs) (hz : n ≤ sizeLine) : PE X (.List es pos) (TD G W (fLst fs)) :=
  (pe_lst h).imp fun σ H Q ⟨φ, S, ρ, rp, er, hq⟩ => TG.seqL hn rp er hq fun φ1 S1 H1 ds vs f1 rp1 er1 rds hl h1 => ⟨by rw [← rds.length, hl]; exact hz, fun p hp => post_lst h1 rp1 rds (by rw [hl]; exact hz) hp⟩

/-! ### operators -/
abbrev Op2 := D → D → Sto → R D
/-- an operation's reading by its meaning -/
def RD2 (G : Gs) (op : Op2) : R2 := fun v u H Q => ∃ φ S x y, Rep G H φ S ∧ RelD G.K H φ S.length x v ∧ RelD G.K H φ S.length y u ∧ Post RelD G (fun _ _ _ _ => False) φ S.length H (op x y S) Q
/-- no exception -/
def NX2 (op : Op2) : Prop := ∀ x y S, (op x y S).nx
theorem Post.anyW {α β : Type} {T : Rl α β} {W' : WX} {φ : Nat → Addr} {n : Nat} {H : Hp} {r : R α} {Q : β → Hp → Prop} (hx : r.nx) (h : Post T G W φ n H r Q) : Post T G W' φ n H r Q := by
  cases r with
  | ok d S => exact h
  | exc c fs ρ S => exact hx.elim
  | bad => exact h
def fOp (op : Op2) (fa fb : Den D) : Den D := fun ρ S => (fa ρ S).bind fun x S1 => (fb ρ S1).bind fun y S2 => op x y S2
theorem td_op {op : Op2} {fa fb : Den D} (nx : NX2 op) : ∀ σ H Q, TD G W (fOp op fa fb) σ H Q → tOp (RD2 G op) (TD G W fa) (TD G W fb) σ H Q := fun σ H Q ⟨φ, S, ρ, rp, er, h⟩ =>
  TG.seq rp er h fun φ1 S1 H1 x v f1 rp1 er1 rx h1 => TG.seq rp1 er1 h1 fun φ2 S2 H2 y u f2 rp2 er2 ry h2 => ⟨φ2, S2, x, y, rp2, rx.fut f2, ry, Post.anyW (nx x y S2) h2⟩
theorem de_bin {op : Operator} {o : Op2} {a b : Expr} {fa fb : Den D} {pos : Pos} (ho : OpR X (binaryOp op) (RD2 G o)) (nx : NX2 o) (ha : PE X a (TD G W fa)) (hb : PE X b (TD G W fb)) : PE X (.BinOp a op b pos) (TD G W (fOp o fa fb)) := (pe_op ho ha hb).imp (td_op nx)
theorem de_cmp {op : CmpOp} {o : Op2} {a b : Expr} {fa fb : Den D} {pos : Pos} (ho : OpR X (compareOp op) (RD2 G o)) (nx : NX2 o) (ha : PE X a (TD G W fa)) (hb : PE X b (TD G W fb)) (hm : behindInMarks op b = false) : PE X (.Compare a [op] [b] pos) (TD G W (fOp o fa fb)) := (pe_cmpR ho ha hb hm).imp (td_op nx)
abbrev Op1 := D → Sto → R D
def RD1 (G : Gs) (op : Op1) : V → Hp → VK → Prop := fun v H Q => ∃ φ S x, Rep G H φ S ∧ RelD G.K H φ S.length x v ∧ Post RelD G (fun _ _ _ _ => False) φ S.length H (op x S) Q
def NX1 (op : Op1) : Prop := ∀ x S, (op x S).nx
def fUn (op : Op1) (fa : Den D) : Den D := fun ρ S => (fa ρ S).bind op
theorem de_un {op : UnaryOp} {o : Op1} {a : Expr} {fa : Den D} {pos : Pos} (ho : UnR X (unaryOp op) (RD1 G o)) (nx : NX1 o) (ha : PE X a (TD G W fa)) : PE X (.UnaryOp op a pos) (TD G W (fUn o fa)) :=
  (pe_un ho ha).imp fun σ H Q ⟨φ, S, ρ, rp, er, h⟩ => TG.seq rp er h fun φ1 S1 H1 x v f1 rp1 er1 rx h1 => ⟨φ1, S1, x, rp1, rx, Post.anyW (nx x S1) h1⟩
end
end DL
end
section
set_option Elab.async false
set_option linter.all false
set_option maxRecDepth 100000
set_option maxHeartbeats 1000000
/-! DL3: data, operators -/
namespace DL
open PySem PySem.Spec PyProof.Rows L2

/-! ### a value as data -/
def mapO {α β : Type} (f : α → Option β) : List α → Option (List β)
  | [] => some []
  | x :: xs => match f x with
    | some y => (match mapO f xs with
      | some ys => some (y :: ys)
      | none => none)
    | none => none
def res (S : Sto) : Nat → D → Option PyData
  | 0, _ => none
  | _ + 1, .non => some .none
  | _ + 1, .bl b => some (.bool b)
  | _ + 1, .int i => some (.int i)
  | _ + 1, .str s => if PyData.strOk s = true then some (.str s) else none
  | n + 1, .tup xs => (mapO (res S n) xs).map .tuple
  | n + 1, .ref l => match S[l]? with
    | some (.lst xs) => (mapO (res S n) xs).map .list
    | some (.fro xs) => (mapO (res S n) xs).map .list
    | _ => none
section
variable {G : Gs} {W : WX} {X : Cx} {H : Hp} {φ : Nat → Addr} {S : Sto}
theorem mapO_dp {n m : Nat} (f : D → Option PyData) (ih : ∀ d v p, RelD G.K H φ m d v → f d = some p → Dp G.K H v p ∧ p.canLay0 = true ∧ p.depth ≤ n) :
    ∀ (xs : List D) (vs : List V) (ps : List PyData), RelDs G.K H φ m xs vs → mapO f xs = some ps → DpAll G.K H vs ps ∧ PyData.canLayAll0 ps = true ∧ PyData.depthAll ps ≤ n
  | [], _, _, .nil, e => by
    cases e
    exact ⟨.nil, rfl, Nat.zero_le _⟩
  | x :: xs, _, _, .cons h r, e => by
    unfold mapO at e
    cases e1 : f x with
    | none => rw [e1] at e; cases e
    | some y =>
      rw [e1] at e
      cases e2 : mapO f xs with
      | none => rw [e2] at e; cases e
      | some ys =>
        rw [e2] at e
        cases e
        obtain ⟨a1, a2, a3⟩ := ih _ _ _ h e1
        obtain ⟨b1, b2, b3⟩ := mapO_dp f ih xs _ ys r e2
        refine ⟨.cons a1 b1, ?_, ?_⟩
        · simp only [PyData.canLayAll0, a2, b2, Bool.and_self]
        · simp only [PyData.depthAll]
          omega
theorem res_dp (rp : Rep G H φ S) : ∀ (n : Nat) (d : D) (v : V) (p : PyData), RelD G.K H φ S.length d v → res S n d = some p → Dp G.K H v p ∧ p.canLay0 = true ∧ p.depth ≤ n
  | 0, _, _, _, _, e => by cases e
  | n + 1, _, _, _, .non, e => by cases e; exact ⟨.non, by simp only [PyData.canLay0], by simp only [PyData.depth]; omega⟩
  | n + 1, _, _, _, .bl b, e => by cases e; exact ⟨.bl b, by simp only [PyData.canLay0], by simp only [PyData.depth]; omega⟩
  | n + 1, _, _, _, .int i, e => by cases e; exact ⟨.int i, by simp only [PyData.canLay0], by simp only [PyData.depth]; omega⟩
  | n + 1, _, _, _, .str s, e => by
    unfold res at e
    by_cases c : PyData.strOk s = true
    · rw [if_pos c] at e
      cases e
      exact ⟨.str s, by simp only [PyData.canLay0, c], by simp only [PyData.depth]; omega⟩
    · rw [if_neg c] at e
      cases e
  | n + 1, _, _, _, .tup hl h r, e => by
    unfold res at e
    obtain ⟨ps, e1, e2⟩ := Option.map_eq_some_iff.mp e
    subst e2
    obtain ⟨a, b, c⟩ := mapO_dp (res S n) (res_dp rp n) _ _ ps r e1
    exact ⟨.tup h a, by simp only [PyData.canLay0, b], by simp only [PyData.depth]; omega⟩
  | n + 1, _, _, _, .ref (l := l) h, e => by
    unfold res at e
    cases q : S[l]? with
    | none => rw [q] at e; cases e
    | some o =>
      rw [q] at e
      have ob := rp.ob l o q
      cases o with
      | lst xs =>
        obtain ⟨ps, e1, e2⟩ := Option.map_eq_some_iff.mp e
        subst e2
        obtain ⟨_, vs, hv, r⟩ := ob
        obtain ⟨a, b, c⟩ := mapO_dp (res S n) (res_dp rp n) _ _ ps r e1
        exact ⟨.lst (.of hv) a, by simp only [PyData.canLay0, b], by simp only [PyData.depth]; omega⟩
      | fro xs =>
        obtain ⟨ps, e1, e2⟩ := Option.map_eq_some_iff.mp e
        subst e2
        obtain ⟨_, _, vs, hv, r⟩ := ob
        obtain ⟨a, b, c⟩ := mapO_dp (res S n) (res_dp rp n) _ _ ps r e1
        exact ⟨.lst (.inl (.inr ⟨_, hv⟩)) a, by simp only [PyData.canLay0, b], by simp only [PyData.depth]; omega⟩
      | dct _ => cases e
      | exc _ _ => cases e
end
def res2 (S : Sto) (x y : D) (k : PyData → PyData → R D) : R D := match res S 40 x with
  | some a => (match res S 40 y with
    | some b => k a b
    | none => .bad)
  | none => .bad
section
variable {G : Gs} {W : WX} {X : Cx}
theorem post_bad {α β : Type} {T : Rl α β} {φ : Nat → Addr} {n : Nat} {H : Hp} {Q : β → Hp → Prop} (h : Post T G W φ n H .bad Q) : False := h
/-- two data -/
theorem res2_cases {φ : Nat → Addr} {H : Hp} {S : Sto} {x y : D} {v u : V} {k : PyData → PyData → R D} {Q : VK} (rp : Rep G H φ S) (rx : RelD G.K H φ S.length x v) (ry : RelD G.K H φ S.length y u)
    (h : Post RelD G W φ S.length H (res2 S x y k) Q) : ∃ a b, Dp G.K H v a ∧ Dp G.K H u b ∧ SeqAt.shaped a = true ∧ SeqAt.shaped b = true ∧ a.depth ≤ 40 ∧ b.depth ≤ 40 ∧ Post RelD G W φ S.length H (k a b) Q := by
  unfold res2 at h
  cases e1 : res S 40 x with
  | none => rw [e1] at h; exact h.elim
  | some a =>
    rw [e1] at h
    cases e2 : res S 40 y with
    | none => rw [e2] at h; exact h.elim
    | some b =>
      rw [e2] at h
      obtain ⟨a1, a2, a3⟩ := res_dp rp 40 x v a rx e1
      obtain ⟨b1, b2, b3⟩ := res_dp rp 40 y u b ry e2
      refine ⟨a, b, a1, b1, ?_, ?_, a3, b3, h⟩
      · unfold SeqAt.shaped
        rw [a2, decide_eq_true (by omega)]
        rfl
      · unfold SeqAt.shaped
        rw [b2, decide_eq_true (by omega)]
        rfl
/-- the list that stands at a number -/
def lstOf (S : Sto) : D → Option (List D)
  | .ref l => match S[l]? with
    | some (.lst xs) => some xs
    | _ => none
  | _ => none
theorem lstOf_at {φ : Nat → Addr} {H : Hp} {S : Sto} {x : D} {v : V} {xs : List D} (rp : Rep G H φ S) (rx : RelD G.K H φ S.length x v) (h : lstOf S x = some xs) : ∃ a vs, v = .ref a ∧ H a = some (.lst vs) ∧ RelDs G.K H φ S.length xs vs ∧ xs.length ≤ sizeLine := by
  cases rx with
  | @ref l hl =>
    unfold lstOf at h
    cases q : S[l]? with
    | none => simp [q] at h
    | some o =>
      cases o with
      | lst ys =>
        simp [q] at h
        subst h
        obtain ⟨z, vs, e, r⟩ := rp.ob l _ q
        exact ⟨_, vs, rfl, e, r, z⟩
      | _ => simp [q] at h
  | _ => cases h
/-- two lists of different lengths -/
def offL (S : Sto) (x y : D) : Bool := match lstOf S x with
  | some xs => (match lstOf S y with
    | some ys => xs.length != ys.length
    | none => false)
  | none => false
theorem offL_at {φ : Nat → Addr} {H : Hp} {S : Sto} {x y : D} {v u : V} (rp : Rep G H φ S) (rx : RelD G.K H φ S.length x v) (ry : RelD G.K H φ S.length y u) (h : offL S x y = true) :
    ∃ a b vs us, v = .ref a ∧ u = .ref b ∧ H a = some (.lst vs) ∧ H b = some (.lst us) ∧ vs.length ≠ us.length := by
  unfold offL at h
  cases e1 : lstOf S x with
  | none => rw [e1] at h; cases h
  | some xs =>
    rw [e1] at h
    cases e2 : lstOf S y with
    | none => rw [e2] at h; cases h
    | some ys =>
      rw [e2] at h
      obtain ⟨a, vs, q1, q2, q3, _⟩ := lstOf_at rp rx e1
      obtain ⟨b, us, p1, p2, p3, _⟩ := lstOf_at rp ry e2
      refine ⟨a, b, vs, us, q1, p1, q2, p2, ?_⟩
      rw [← q3.length, ← p3.length]
      simpa using h
def eqD : Op2 := fun x y S => if offL S x y = true then .ok (.bl false) S else res2 S x y fun a b => .ok (.bl (PyData.eqv a b)) S
def neD : Op2 := fun x y S => if offL S x y = true then .ok (.bl true) S else res2 S x y fun a b => .ok (.bl (!PyData.eqv a b)) S
theorem res2_nx {S : Sto} {x y : D} {k : PyData → PyData → R D} (h : ∀ a b, (k a b).nx) : (res2 S x y k).nx := by
  unfold res2
  cases res S 40 x with
  | none => exact True.intro
  | some a =>
    cases res S 40 y with
    | none => exact True.intro
    | some b => exact h a b
def twoS : D → D → Option (Str × Str)
  | .str a, .str b => some (a, b)
  | _, _ => none
theorem twoS_at {x y : D} {a b : Str} (h : twoS x y = some (a, b)) : x = .str a ∧ y = .str b := by
  cases x <;> cases y <;> first | cases h; exact ⟨rfl, rfl⟩ | cases h
def opEq : Op2 := fun x y S => match twoS x y with
  | some (a, b) => .ok (.bl (a == b)) S
  | none => eqD x y S
def opNe : Op2 := fun x y S => match twoS x y with
  | some (a, b) => .ok (.bl (!(a == b))) S
  | none => neD x y S
theorem nx_eqD : NX2 eqD := fun x y S => by
  unfold eqD
  split
  · exact True.intro
  · exact res2_nx fun _ _ => True.intro
theorem nx_neD : NX2 neD := fun x y S => by
  unfold neD
  split
  · exact True.intro
  · exact res2_nx fun _ _ => True.intro
theorem nx_eq : NX2 opEq := fun x y S => by
  unfold opEq
  cases twoS x y with
  | some p => exact True.intro
  | none => exact nx_eqD x y S
theorem nx_ne : NX2 opNe := fun x y S => by
  unfold opNe
  cases twoS x y with
  | some p => exact True.intro
  | none => exact nx_neD x y S
theorem or_eqD (hK : X.K = G.K) (hu : X.A.units + 64 < cLine) : OpR X (compareOp .Eq) (RD2 G eqD) := fun pins s σ H x y v u Q I rx ry ⟨φ, S, dx, dy, rp, hx, hy, h⟩ => by
  unfold eqD at h
  by_cases c : offL S dx dy = true
  · rw [if_pos c] at h
    have q := post_ok h rp (.bl _)
    obtain ⟨a, b, vs, us, rfl, rfl, ha, hb, hne⟩ := offL_at rp hx hy c
    cases (show v = Value.ref a from rx)
    cases (show u = Value.ref b from ry)
    obtain ⟨ws, r1, p1, _⟩ := I.list (SqL.of ha)
    obtain ⟨zs, r2, p2, _⟩ := I.list (SqL.of hb)
    refine SeqAt.RcAt.lists_lengths p1.isList p2.isList ?_ (by omega) X.prog X.w _ _ ⟨.bl false, H, I, rfl, q⟩
    rw [List.size_toArray, List.size_toArray, ← r1.length, ← r2.length]
    simpa using hne
  · rw [if_neg c] at h
    obtain ⟨a, b, a1, b1, a2, b2, _, _, q⟩ := res2_cases rp hx hy h
    exact op_eqD hu pins s σ H x y v u Q I rx ry ⟨a, b, by rw [hK]; exact a1, by rw [hK]; exact b1, a2, b2, post_ok q rp (.bl _)⟩
theorem or_neD (hK : X.K = G.K) (hu : X.A.units + 64 < cLine) : OpR X (compareOp .NotEq) (RD2 G neD) := fun pins s σ H x y v u Q I rx ry ⟨φ, S, dx, dy, rp, hx, hy, h⟩ => by
  unfold neD at h
  by_cases c : offL S dx dy = true
  · rw [if_pos c] at h
    have q := post_ok h rp (.bl _)
    obtain ⟨a, b, vs, us, rfl, rfl, ha, hb, hne⟩ := offL_at rp hx hy c
    cases (show v = Value.ref a from rx)
    cases (show u = Value.ref b from ry)
    obtain ⟨ws, r1, p1, _⟩ := I.list (SqL.of ha)
    obtain ⟨zs, r2, p2, _⟩ := I.list (SqL.of hb)
    refine SeqAt.RcNeAt.lists_lengths p1.isList p2.isList ?_ (by omega) X.prog X.w _ _ ⟨.bl true, H, I, rfl, q⟩
    rw [List.size_toArray, List.size_toArray, ← r1.length, ← r2.length]
    simpa using hne
  · rw [if_neg c] at h
    obtain ⟨a, b, a1, b1, a2, b2, _, _, q⟩ := res2_cases rp hx hy h
    exact op_neD hu pins s σ H x y v u Q I rx ry ⟨a, b, by rw [hK]; exact a1, by rw [hK]; exact b1, a2, b2, post_ok q rp (.bl _)⟩
theorem or_eq (hK : X.K = G.K) (hu : X.A.units + 64 < cLine) : OpR X (compareOp .Eq) (RD2 G opEq) := fun pins s σ H x y v u Q I rx ry ⟨φ, S, dx, dy, rp, hx, hy, h⟩ => by
  unfold opEq at h
  cases c : twoS dx dy with
  | none =>
    rw [c] at h
    exact or_eqD hK hu pins s σ H x y v u Q I rx ry ⟨φ, S, dx, dy, rp, hx, hy, h⟩
  | some p =>
    rw [c] at h
    obtain ⟨rfl, rfl⟩ := twoS_at c
    cases hx
    cases hy
    have q := post_ok h rp (.bl _)
    exact op_eq pins s σ H _ _ v u Q I rx ry ⟨rfl, by rw [dec_str]; exact q⟩
theorem or_ne (hK : X.K = G.K) (hu : X.A.units + 64 < cLine) : OpR X (compareOp .NotEq) (RD2 G opNe) := fun pins s σ H x y v u Q I rx ry ⟨φ, S, dx, dy, rp, hx, hy, h⟩ => by
  unfold opNe at h
  cases c : twoS dx dy with
  | none =>
    rw [c] at h
    exact or_neD hK hu pins s σ H x y v u Q I rx ry ⟨φ, S, dx, dy, rp, hx, hy, h⟩
  | some p =>
    rw [c] at h
    obtain ⟨rfl, rfl⟩ := twoS_at c
    cases hx
    cases hy
    have q := post_ok h rp (.bl _)
    exact op_ne pins s σ H _ _ v u Q I rx ry ⟨rfl, by rw [dec_str]; exact q⟩
def isNon : PyData → Bool
  | .none => true
  | _ => false
def ordOk (a b : PyData) : Bool := PySem.W.alike a b && !isNon a
theorem ordOk_ok {a b : PyData} (h : ordOk a b = true) : PySem.W.alike a b = true ∧ a ≠ .none := by
  obtain ⟨h1, h2⟩ := Bool.and_eq_true_iff.mp h
  exact ⟨h1, fun z => by subst z; cases h2⟩
def opOrd (f : PyData → PyData → Bool) : Op2 := fun x y S => res2 S x y fun a b => if ordOk a b = true then .ok (.bl (f a b)) S else .bad
def opLt : Op2 := opOrd fun a b => PySem.W.dataLt a b
def opGt : Op2 := opOrd fun a b => PySem.W.dataLt b a
def opLe : Op2 := opOrd fun a b => !PySem.W.dataLt b a
def opGe : Op2 := opOrd fun a b => !PySem.W.dataLt a b
theorem nx_ord {f : PyData → PyData → Bool} : NX2 (opOrd f) := fun x y S => res2_nx fun a b => by
  split <;> exact True.intro
theorem or_ord {f : PyData → PyData → Bool} {op : CmpOp} (hK : X.K = G.K) (hu : X.A.units + 64 < cLine)
    (rule : ∀ (A : Around) (E : Value → Shared → Prop) (s : Shared) (a b : Value) (da db : PyData) (as bs : List Addr) (Q : Value → Shared → Prop), Reads s.heap a da as → Reads s.heap b db bs → PySem.W.alike da db = true → da ≠ .none → A.units + min da.depth db.depth < cLine → Q (.bool (f da db)) s → wpAny (model X.prog X.w) A (compareOp op a b) Q E s) :
    OpR X (compareOp op) (RD2 G (opOrd f)) := fun pins s σ H x y v u Q I rx ry ⟨φ, S, dx, dy, rp, hx, hy, h⟩ => by
  obtain ⟨a, b, a1, b1, a2, b2, a3, b3, q⟩ := res2_cases rp hx hy h
  by_cases c : ordOk a b = true
  · rw [if_pos c] at q
    obtain ⟨c1, c2⟩ := ordOk_ok c
    rw [← hK] at a1 b1
    obtain ⟨as, r1⟩ := Dp.reads I a x v a1 rx
    obtain ⟨bs, r2⟩ := Dp.reads I b y u b1 ry
    exact rule X.A X.xe s v u a b as bs _ r1 r2 c1 c2 (by omega) ⟨.bl _, H, I, rfl, post_ok q rp (.bl _)⟩
  · rw [if_neg c] at q
    exact q.elim
theorem or_lt (hK : X.K = G.K) (hu : X.A.units + 64 < cLine) : OpR X (compareOp .Lt) (RD2 G opLt) := or_ord hK hu fun _ _ _ _ _ _ _ _ _ _ r1 r2 h1 h2 h3 q => PySem.W.lt_data r1 r2 h1 h2 h3 q
theorem or_gt (hK : X.K = G.K) (hu : X.A.units + 64 < cLine) : OpR X (compareOp .Gt) (RD2 G opGt) := or_ord hK hu fun _ _ _ _ _ _ _ _ _ _ r1 r2 h1 h2 h3 q => PySem.W.gt_data r1 r2 h1 h2 h3 q
theorem or_le (hK : X.K = G.K) (hu : X.A.units + 64 < cLine) : OpR X (compareOp .LtE) (RD2 G opLe) := or_ord hK hu fun _ _ _ _ _ _ _ _ _ _ r1 r2 h1 h2 h3 q => PySem.W.le_data r1 r2 h1 h2 h3 q
theorem or_ge (hK : X.K = G.K) (hu : X.A.units + 64 < cLine) : OpR X (compareOp .GtE) (RD2 G opGe) := or_ord hK hu fun _ _ _ _ _ _ _ _ _ _ r1 r2 h1 h2 h3 q => PySem.W.ge_data r1 r2 h1 h2 h3 q

/-! ### arithmetic -/
def addI (i : Int) (y : D) (S : Sto) : R D := match y with
  | .int j => .ok (.int (i + j)) S
  | .bl k => .ok (.int (i + b2i k)) S
  | _ => .bad
def addS (a : Str) (y : D) (S : Sto) : R D := match y with
  | .str b => if a.length + b.length ≤ sizeLine then .ok (.str (a ++ b)) S else .bad
  | _ => .bad
def addT (a : List D) (y : D) (S : Sto) : R D := match y with
  | .tup b => if a.length + b.length ≤ sizeLine then .ok (.tup (a ++ b)) S else .bad
  | _ => .bad
def addL (x y : D) (S : Sto) : R D := match lstOf S x with
  | some a => (match lstOf S y with
    | some b => if a.length + b.length ≤ sizeLine then mkLst (a ++ b) S else .bad
    | none => .bad)
  | none => .bad
def opAdd : Op2 := fun x y S => match x with
  | .int i => addI i y S
  | .str a => addS a y S
  | .tup a => addT a y S
  | .ref l => addL (.ref l) y S
  | _ => .bad
theorem nx_add : NX2 opAdd := fun x y S => by
  cases x with
  | int i => cases y <;> exact True.intro
  | str a => cases y with
    | str b =>
      show R.nx (if _ then _ else _)
      split <;> exact True.intro
    | _ => exact True.intro
  | tup a => cases y with
    | tup b =>
      show R.nx (if _ then _ else _)
      split <;> exact True.intro
    | _ => exact True.intro
  | ref l =>
    show (addL _ _ _).nx
    unfold addL
    cases lstOf S (D.ref l) with
    | none => exact True.intro
    | some a =>
      cases lstOf S y with
      | none => exact True.intro
      | some b =>
        show R.nx (if _ then _ else _)
        split <;> exact True.intro
  | _ => exact True.intro
theorem or_add (hK : X.K = G.K) : OpR X (binaryOp .Add) (RD2 G opAdd) := fun pins s σ H x y v u Q I rx ry ⟨φ, S, dx, dy, rp, hx, hy, h⟩ => by
  cases hx with
  | int i =>
    cases hy with
    | int j => exact op_add pins s σ H _ _ v u Q I rx ry ⟨i, j, rfl, rfl, post_ok h rp (.int _)⟩
    | bl k => exact op_add_ib pins s σ H _ _ v u Q I rx ry ⟨i, k, rfl, rfl, post_ok h rp (.int _)⟩
    | _ => exact (post_bad h).elim
  | str a =>
    cases hy with
    | str b =>
      replace h : Post RelD G (fun _ _ _ _ => False) φ S.length H (if a.length + b.length ≤ sizeLine then .ok (.str (a ++ b)) S else .bad) Q := h
      by_cases c : a.length + b.length ≤ sizeLine
      · rw [if_pos c] at h
        exact op_add_str pins s σ H _ _ v u Q I rx ry ⟨a, b, rfl, rfl, c, post_ok h rp (.str _)⟩
      · rw [if_neg c] at h
        exact (post_bad h).elim
    | _ => exact (post_bad h).elim
  | @tup a1 as vs hl1 t1 r1 =>
    cases hy with
    | @tup a2 bs ws hl2 t2 r2 =>
      replace h : Post RelD G (fun _ _ _ _ => False) φ S.length H (if as.length + bs.length ≤ sizeLine then .ok (.tup (as ++ bs)) S else .bad) Q := h
      by_cases c : as.length + bs.length ≤ sizeLine
      · rw [if_pos c] at h
        refine op_catA pins s σ H _ _ v u Q I rx ry ⟨a1, a2, vs, ws, rfl, rfl, by rw [hK]; exact t1, by rw [hK]; exact t2, by rw [← r1.length, ← r2.length]; exact c, fun z => ?_, fun z1 z2 => ?_, fun z1 z2 p hp => ?_⟩
        · subst z
          cases r1
          exact post_ok h rp (.tup hl2 t2 r2)
        · subst z2
          cases r2
          rw [List.append_nil] at h
          exact post_ok h rp (.tup hl1 t1 r1)
        · exact post_tup h rp (r1.append r2) (by rw [List.length_append]; exact c) hp
      · rw [if_neg c] at h
        exact (post_bad h).elim
    | _ => exact (post_bad h).elim
  | non => exact (post_bad h).elim
  | bl b => exact (post_bad h).elim
  | @ref l hl =>
    have hx : RelD G.K H φ S.length (.ref l) (.ref (φ l)) := .ref hl
    replace h : Post RelD G (fun _ _ _ _ => False) φ S.length H (addL (.ref l) dy S) Q := h
    unfold addL at h
    cases e1 : lstOf S (.ref l) with
    | none => rw [e1] at h; exact (post_bad h).elim
    | some a =>
      rw [e1] at h
      cases e2 : lstOf S dy with
      | none => rw [e2] at h; exact (post_bad h).elim
      | some b =>
        rw [e2] at h
        replace h : Post RelD G (fun _ _ _ _ => False) φ S.length H (if a.length + b.length ≤ sizeLine then mkLst (a ++ b) S else .bad) Q := h
        by_cases c : a.length + b.length ≤ sizeLine
        · rw [if_pos c] at h
          obtain ⟨l', vs, e, h1, r1, z1⟩ := lstOf_at rp hx e1
          cases e
          obtain ⟨m, ws, rfl, h2, r2, z2⟩ := lstOf_at rp hy e2
          exact op_cat pins s σ H _ _ v u Q I rx ry ⟨_, m, vs, ws, rfl, rfl, h1, h2, by rw [← r1.length, ← r2.length]; exact c, fun p hp => post_lst h rp (r1.append r2) (by rw [List.length_append]; exact c) hp⟩
        · rw [if_neg c] at h
          exact (post_bad h).elim
def opSub : Op2
  | .int i, .int j, S => .ok (.int (i - j)) S
  | _, _, _ => .bad
theorem nx_sub : NX2 opSub := fun x y S => by
  unfold opSub
  split <;> exact True.intro
theorem or_sub : OpR X (binaryOp .Sub) (RD2 G opSub) := fun pins s σ H x y v u Q I rx ry ⟨φ, S, dx, dy, rp, hx, hy, h⟩ => by
  cases hx with
  | int i =>
    cases hy with
    | int j => exact op_sub pins s σ H _ _ v u Q I rx ry ⟨i, j, rfl, rfl, post_ok h rp (.int _)⟩
    | _ => exact h.elim
  | _ => exact h.elim
/-- a product that has room -/
def mulFit (i j : Int) : Bool := decide (i.natAbs < 2 ^ 64) || (decide (j.natAbs < 2 ^ 64) || decide (Builtin.Int.intBits i + Builtin.Int.intBits j ≤ 134217728))
theorem mulFit_ok {i j : Int} (h : mulFit i j = true) : IntMulOk i j := by
  rcases Bool.or_eq_true_iff.mp h with h | h
  · have := of_decide_eq_true h
    exact .of_left (intBits_le_64 (by omega) (by omega))
  · rcases Bool.or_eq_true_iff.mp h with h | h
    · have := of_decide_eq_true h
      exact .of_right (intBits_le_64 (by omega) (by omega))
    · have := of_decide_eq_true h
      exact CMulX.ok (show (Builtin.Int.intBits i : Int) + (Builtin.Int.intBits j : Int) ≤ 134217728 by omega)
def mulK (x : D) (k : Int) (S : Sto) : R D := match x with
  | .int i => if mulFit i k = true then .ok (.int (i * k)) S else .bad
  | .tup xs => if -(2 ^ 62) ≤ k ∧ k ≤ 1000 ∧ xs.length ≤ 1000 then .ok (.tup (List.replicate k.toNat xs).flatten) S else .bad
  | .ref l => (match lstOf S (.ref l) with
    | some a => if k < 2 ^ 63 ∧ -(2 ^ 63) ≤ k ∧ a.length * k.toNat ≤ sizeLine then mkLst (List.replicate k.toNat a).flatten S else .bad
    | none => .bad)
  | _ => .bad
def opMul : Op2 := fun x y S => match y with
  | .int k => mulK x k S
  | _ => .bad
theorem RelDs.rep {K : PySem.W.Frag} {H : Hp} {φ : Nat → Addr} {n : Nat} {ds : List D} {vs : List V} (r : RelDs K H φ n ds vs) : ∀ k, RelDs K H φ n (List.replicate k ds).flatten (List.replicate k vs).flatten
  | 0 => .nil
  | k + 1 => by
    rw [List.replicate_succ, List.replicate_succ, List.flatten_cons, List.flatten_cons]
    exact r.append (RelDs.rep r k)
theorem len_rep {α : Type} (xs : List α) : ∀ k, (List.replicate k xs).flatten.length = xs.length * k
  | 0 => by simp
  | k + 1 => by rw [List.replicate_succ, List.flatten_cons, List.length_append, len_rep xs k, Nat.mul_succ]; omega
end
end DL
end
section
set_option Elab.async false
set_option linter.all false
set_option maxRecDepth 100000
set_option maxHeartbeats 1000000
/-! DL4: more operators: products, quotients, items, slices, membership, identity -/
namespace DL
open PySem PySem.Spec PyProof.Rows L2

section
variable {G : Gs} {W : WX} {X : Cx}
theorem nx_ite {α : Type} {c : Prop} [Decidable c] {a b : R α} (ha : a.nx) (hb : b.nx) : (if c then a else b).nx := by
  by_cases h : c
  · rw [if_pos h]; exact ha
  · rw [if_neg h]; exact hb
theorem nx_mul : NX2 opMul := fun x y S => by
  cases y with
  | int k =>
    cases x with
    | int i => exact nx_ite True.intro True.intro
    | tup xs => exact nx_ite True.intro True.intro
    | ref l =>
      show (mulK (.ref l) k S).nx
      unfold mulK
      cases e : lstOf S (.ref l) with
      | none => simp only [e]; exact True.intro
      | some a => simp only [e]; exact nx_ite True.intro True.intro
    | _ => exact True.intro
  | _ => exact True.intro

/-- a tuple times 1 is itself -/
theorem tup_mul_one (l : Addr) (items : Array Value) (n : Nat) (dd : Option Addr) (sl : Array (Option Value)) (x : Int) (u : Tok) (c0 : (decide (x < -(2 ^ 63)) || decide (x ≥ 2 ^ 63)) = false) (c1 : (items.isEmpty || x == 1) = true) :
    Meets (Builtin.«tuple.__mul__» ⟨[.ref l, .int x u], []⟩) (fun _ R s => s.heap.get? l = some { cls := .type "tuple", dict := dd, data := .seq items n, slots := sl } ∧
      R (.ok (.ret (Value.ref l))) s) :=
  .of_wp fun prog w A R s h => by
    obtain ⟨hp, g, d, tk, os⟩ := s
    obtain ⟨hl, h⟩ := h
    have f1 := AutoSeq1.idx_int
    wp_walk using wpAny_loadPart' hl
    repeat (first
      | (refine wpAny_ite_false (decide_eq_false (by rw [c0]; exact Bool.false_ne_true)) ?_; wp_walk using wpAny_loadPart' hl)
      | (refine wpAny_ite_true (decide_eq_true (by rw [c1])) ?_; wp_walk using wpAny_loadPart' hl))
    exact ⟨_, rfl, h⟩
/-- a tuple times 0 or less is nothing -/
theorem tup_mul_none (l : Addr) (items : Array Value) (n : Nat) (dd : Option Addr) (sl : Array (Option Value)) (x : Int) (u : Tok) (c0 : (decide (x < -(2 ^ 63)) || decide (x ≥ 2 ^ 63)) = false) (c1 : (items.isEmpty || x == 1) = false) (c2 : (decide (x ≤ 0) || items.isEmpty) = true) :
    Meets (Builtin.«tuple.__mul__» ⟨[.ref l, .int x u], []⟩) (fun _ R s => s.heap.get? l = some { cls := .type "tuple", dict := dd, data := .seq items n, slots := sl } ∧
      R (.ok (.ret (Value.ref s.heap.objs.size))) { s with heap := s.heap.push { cls := Value.type "tuple", data := Data.seq #[] }, toks := s.toks }) :=
  .of_wp fun prog w A R s h => by
    obtain ⟨hp, g, d, tk, os⟩ := s
    obtain ⟨hl, h⟩ := h
    have f1 := AutoSeq1.idx_int
    wp_walk using wpAny_loadPart' hl
    repeat (first
      | (refine wpAny_ite_false (decide_eq_false (by rw [c0]; exact Bool.false_ne_true)) ?_; wp_walk using wpAny_loadPart' hl)
      | (refine wpAny_ite_false (decide_eq_false (by rw [c1]; exact Bool.false_ne_true)) ?_; wp_walk using wpAny_loadPart' hl)
      | (refine wpAny_ite_true (decide_eq_true (by rw [c2])) ?_; wp_walk using wpAny_loadPart' hl))
    exact ⟨_, rfl, h⟩
theorem or_mul (hK : X.K = G.K) : OpR X (binaryOp .Mult) (RD2 G opMul) := fun pins s σ H x y v u Q I rx ry ⟨φ, S, dx, dy, rp, hx, hy, h⟩ => by
  cases hy with
  | int k =>
    cases hx with
    | int i =>
      replace h : Post RelD G (fun _ _ _ _ => False) φ S.length H (if mulFit i k = true then .ok (.int (i * k)) S else .bad) Q := h
      by_cases c : mulFit i k = true
      · rw [if_pos c] at h
        obtain ⟨t, rfl⟩ := rx
        obtain ⟨t', rfl⟩ := ry
        exact mul_int ⟨.int _, H, I.tok _, ⟨_, rfl⟩, post_ok h rp (.int _)⟩ (mulFit_ok c)
      · rw [if_neg c] at h
        exact (post_bad h).elim
    | @tup a xs vs hl t r =>
      replace h : Post RelD G (fun _ _ _ _ => False) φ S.length H (if -(2 ^ 62) ≤ k ∧ k ≤ 1000 ∧ xs.length ≤ 1000 then .ok (.tup (List.replicate k.toNat xs).flatten) S else .bad) Q := h
      by_cases c : -(2 ^ 62) ≤ k ∧ k ≤ 1000 ∧ xs.length ≤ 1000
      · rw [if_pos c] at h
        obtain ⟨c2, c3, c4⟩ := c
        by_cases c5 : 2 ≤ k ∧ xs ≠ []
        · refine op_repT pins s σ H _ _ v u Q I rx ry ⟨a, k, vs, rfl, rfl, by rw [hK]; exact t, fun z => c5.2 ?_, c5.1, c3, by rw [← r.length]; exact c4, fun p hp => post_tup h rp (r.rep _) ?_ hp⟩
          · subst z
            cases r
            rfl
          · rw [len_rep, sizeLine_eq]
            have : xs.length * k.toNat ≤ 1000 * 1000 := Nat.mul_le_mul c4 (by omega)
            omega
        · have t0 := t
          cases rx
          obtain ⟨tk, rfl⟩ := ry
          rw [← hK] at t
          obtain ⟨its, rv, ⟨⟨cls, dd, data, sl⟩, ho, hc, n, hd⟩, hs⟩ := I.tuple t
          simp only at hc hd
          subst hc hd
          have c0 : (decide (k < -(2 ^ 63)) || decide (k ≥ 2 ^ 63)) = false := by
            rw [decide_eq_false (by omega), decide_eq_false (by omega)] <;> rfl
          have hle : its.length = xs.length := by rw [← rv.length, r.length]
          by_cases c6 : k = 1 ∨ xs = []
          · have e : (List.replicate k.toNat xs).flatten = xs := by
              rcases c6 with z | z
              · subst z
                simp
              · subst z
                simp
            rw [e] at h
            refine wpAny_binaryOp_repeat_ref (T := "tuple") (U := "int") (by decide) ⟨_, ho, rfl⟩ (fun s' => typeIs_int s' k tk) noFill_tuple_mul F.fills_int_mul F.slot_int_rmul repeat_tuple F.slot_int_index.lookup
              (call_meets F.slot_int_rmul (typeIs_int s k tk) F.entry_int_rmul (F.args_int_rmul_2 _ _) (int_rmul_tuple k tk a its.toArray n dd sl)
                ⟨ho, rfl, ⟨_, ho, rfl⟩, call_meets F.slot_tuple_mul ⟨_, ho, rfl⟩ F.entry_tuple_mul (F.args_tuple_mul_2 _ _) (tup_mul_one a its.toArray n dd sl k tk c0 (by
                  rcases c6 with z | z
                  · subst z
                    simp
                  · have : its = [] := List.eq_nil_of_length_eq_zero (by rw [hle, z]; rfl)
                    subst this
                    rfl)) ⟨ho, ?_⟩⟩)
            exact ⟨.ref a, H, I, rfl, post_ok h rp (.tup hl t0 r)⟩
          · have k0 : k ≤ 0 := by
              have h1 : k ≠ 1 := fun z => c6 (.inl z)
              have h2 : xs ≠ [] := fun z => c6 (.inr z)
              have h3 : ¬ 2 ≤ k := fun z => c5 ⟨z, h2⟩
              omega
            have e : (List.replicate k.toNat xs).flatten = [] := by
              have : k.toNat = 0 := by omega
              rw [this]
              rfl
            rw [e] at h
            have ne : its.toArray.isEmpty = false := by
              cases its with
              | nil => exact absurd (List.eq_nil_of_length_eq_zero hle.symm) fun z => c6 (.inr z)
              | cons a b => rfl
            refine wpAny_binaryOp_repeat_ref (T := "tuple") (U := "int") (by decide) ⟨_, ho, rfl⟩ (fun s' => typeIs_int s' k tk) noFill_tuple_mul F.fills_int_mul F.slot_int_rmul repeat_tuple F.slot_int_index.lookup
              (call_meets F.slot_int_rmul (typeIs_int s k tk) F.entry_int_rmul (F.args_int_rmul_2 _ _) (int_rmul_tuple k tk a its.toArray n dd sl)
                ⟨ho, rfl, ⟨_, ho, rfl⟩, call_meets F.slot_tuple_mul ⟨_, ho, rfl⟩ F.entry_tuple_mul (F.args_tuple_mul_2 _ _) (tup_mul_none a its.toArray n dd sl k tk c0 (by
                  rw [ne, Bool.false_or]
                  exact beq_eq_false_iff_ne.mpr (by omega)) (by rw [decide_eq_true k0]; rfl)) ⟨ho, ?_⟩⟩)
            have hf := I.hok.fresh (Nat.le_refl s.heap.objs.size)
            refine ⟨.ref s.heap.objs.size, upd H s.heap.objs.size (.tup []), I.laid (t' := s.toks) (fun b u e => Heap.get?_push_of_some _ e) (Nat.le_refl _) ⟨Nat.zero_le _, [], .nil, IsTup.new _ _⟩, rfl, post_tup h rp .nil (Nat.zero_le _) hf⟩
      · rw [if_neg c] at h
        exact (post_bad h).elim
    | @ref l hl =>
      have hx : RelD G.K H φ S.length (.ref l) (.ref (φ l)) := .ref hl
      replace h : Post RelD G (fun _ _ _ _ => False) φ S.length H (mulK (.ref l) k S) Q := h
      unfold mulK at h
      cases e1 : lstOf S (.ref l) with
      | none => simp only [e1] at h; exact (post_bad h).elim
      | some a =>
        simp only [e1] at h
        by_cases c : k < 2 ^ 63 ∧ -(2 ^ 63) ≤ k ∧ a.length * k.toNat ≤ sizeLine
        · rw [if_pos c] at h
          obtain ⟨c1, c2, c3⟩ := c
          obtain ⟨l', vs, e, h1, r1, z1⟩ := lstOf_at rp hx e1
          cases e
          exact op_rep pins s σ H _ _ v u Q I rx ry ⟨_, k, vs, rfl, rfl, h1, c2, c1, by rw [← r1.length]; exact c3, fun p hp => post_lst h rp (r1.rep _) (by rw [len_rep]; exact c3) hp⟩
        · rw [if_neg c] at h
          exact (post_bad h).elim
    | _ => exact (post_bad h).elim
  | _ => exact (post_bad h).elim
/-- quotients, rests, powers -/
def opFdiv : Op2 := fun x y S => match x, y with
  | .int i, .int j => if j ≠ 0 ∧ j.natAbs.log2 < 9000 then .ok (.int (i.fdiv j)) S else .bad
  | _, _ => .bad
def opMod : Op2 := fun x y S => match x, y with
  | .int i, .int j => if j ≠ 0 then .ok (.int (i.fmod j)) S else .bad
  | _, _ => .bad
def opPow : Op2 := fun x y S => match x, y with
  | .int i, .int j => if 0 ≤ j ∧ j ≤ 1000000 ∧ i.natAbs < 2 ^ 64 then .ok (.int (i ^ j.toNat)) S else .bad
  | _, _ => .bad
theorem nx_fdiv : NX2 opFdiv := fun x y S => by
  cases x <;> cases y <;> first | exact True.intro | exact nx_ite True.intro True.intro
theorem nx_mod : NX2 opMod := fun x y S => by
  cases x <;> cases y <;> first | exact True.intro | exact nx_ite True.intro True.intro
theorem nx_pow : NX2 opPow := fun x y S => by
  cases x <;> cases y <;> first | exact True.intro | exact nx_ite True.intro True.intro
theorem or_ints {f : Value → Value → Sem Value} {op : Op2} {c : Int → Int → Prop} [∀ i j, Decidable (c i j)] {g : Int → Int → Int} (he : ∀ i j S, op (.int i) (.int j) S = if c i j then .ok (.int (g i j)) S else .bad)
    (hb : ∀ x y S, (∀ i j, ¬ (x = .int i ∧ y = .int j)) → op x y S = .bad)
    (rule : ∀ (i j : Int) (t u : Tok) (s : Shared) (Q : Value → Shared → Prop), c i j → Q (.int (g i j) s.toks) { s with toks := s.toks + 1 } → wpAny (model X.prog X.w) X.A (f (.int i t) (.int j u)) Q X.xe s) : OpR X f (RD2 G op) := fun pins s σ H x y v u Q I rx ry ⟨φ, S, dx, dy, rp, hx, hy, h⟩ => by
  have both : ∃ i j, dx = .int i ∧ dy = .int j := by
    refine Classical.byContradiction fun z => ?_
    rw [hb dx dy S fun i j e => z ⟨i, j, e⟩] at h
    exact post_bad h
  obtain ⟨i, j, rfl, rfl⟩ := both
  cases hx
  cases hy
  obtain ⟨t, rfl⟩ := rx
  obtain ⟨t', rfl⟩ := ry
  rw [he] at h
  by_cases q : c i j
  · rw [if_pos q] at h
    exact rule i j t t' s _ q ⟨.int _, H, I.tok _, ⟨_, rfl⟩, post_ok h rp (.int _)⟩
  · rw [if_neg q] at h
    exact (post_bad h).elim
theorem or_fdiv : OpR X (binaryOp .FloorDiv) (RD2 G opFdiv) := or_ints (c := fun _ j => j ≠ 0 ∧ j.natAbs.log2 < 9000) (g := fun i j => i.fdiv j) (fun _ _ _ => rfl) (fun x y S h => by cases x <;> cases y <;> first | rfl | exact (h _ _ ⟨rfl, rfl⟩).elim)
  fun i j t u s Q hc q => floordiv_int hc.1 q (.inl (PyProof.noPylong_of_log2 hc.2))
theorem or_mod : OpR X (binaryOp .Mod) (RD2 G opMod) := or_ints (c := fun _ j => j ≠ 0) (g := fun i j => i.fmod j) (fun _ _ _ => rfl) (fun x y S h => by cases x <;> cases y <;> first | rfl | exact (h _ _ ⟨rfl, rfl⟩).elim)
  fun i j t u s Q hc q => PyProof.Rows.mod_int hc q
theorem or_pow : OpR X (binaryOp .Pow) (RD2 G opPow) := fun pins s σ H x y v u Q I rx ry ⟨φ, S, dx, dy, rp, hx, hy, h⟩ => by
  cases hx with
  | int i =>
    cases hy with
    | int j =>
      replace h : Post RelD G (fun _ _ _ _ => False) φ S.length H (if 0 ≤ j ∧ j ≤ 1000000 ∧ i.natAbs < 2 ^ 64 then .ok (.int (i ^ j.toNat)) S else .bad) Q := h
      by_cases c : 0 ≤ j ∧ j ≤ 1000000 ∧ i.natAbs < 2 ^ 64
      · rw [if_pos c] at h
        exact op_pow pins s σ H _ _ v u Q I rx ry ⟨i, j, rfl, rfl, c, post_ok h rp (.int _)⟩
      · rw [if_neg c] at h
        exact (post_bad h).elim
    | _ => exact (post_bad h).elim
  | _ => exact (post_bad h).elim
def opNeg : Op1 := fun x S => match x with
  | .int i => .ok (.int (-i)) S
  | _ => .bad
theorem nx_neg : NX1 opNeg := fun x S => by cases x <;> exact True.intro
theorem ur_neg : UnR X (unaryOp .USub) (RD1 G opNeg) := fun pins s σ H x v Q I rx ⟨φ, S, dx, rp, hx, h⟩ => by
  cases hx with
  | int i => exact un_neg pins s σ H _ v Q I rx ⟨i, rfl, post_ok h rp (.int _)⟩
  | _ => exact (post_bad h).elim

/-! ### items, slices -/
/-- the list at a number, one that may be read -/
def seqOf (S : Sto) : Nat → Option (List D)
  | l => match S[l]? with
    | some (.lst xs) => some xs
    | some (.fro xs) => some xs
    | _ => none
theorem seqOf_at {φ : Nat → Addr} {H : Hp} {S : Sto} {l : Nat} {xs : List D} (rp : Rep G H φ S) (h : seqOf S l = some xs) : ∃ vs, SqL G.K H (φ l) vs ∧ RelDs G.K H φ S.length xs vs := by
  unfold seqOf at h
  cases q : S[l]? with
  | none => simp [q] at h
  | some o =>
    cases o with
    | lst ys =>
      simp [q] at h
      subst h
      obtain ⟨z, vs, e, r⟩ := rp.ob l _ q
      exact ⟨vs, .of e, r⟩
    | fro ys =>
      simp [q] at h
      subst h
      obtain ⟨zz, z, vs, e, r⟩ := rp.ob l _ q
      exact ⟨vs, .inl (.inr ⟨_, e⟩), r⟩
    | _ => simp [q] at h
def optR {α : Type} (o : Option α) (f : α → R D) : R D := match o with
  | some a => f a
  | none => .bad
theorem optR_nx {α : Type} {o : Option α} {f : α → R D} (h : ∀ a, (f a).nx) : (optR o f).nx := by
  cases o with
  | none => exact True.intro
  | some a => exact h a
theorem post_opt {α β : Type} {T : Rl D β} {φ : Nat → Addr} {n : Nat} {H : Hp} {o : Option α} {f : α → R D} {Q : β → Hp → Prop} (h : Post T G W φ n H (optR o f) Q) : ∃ a, o = some a ∧ Post T G W φ n H (f a) Q := by
  cases o with
  | none => exact (post_bad h).elim
  | some a => exact ⟨a, rfl, h⟩
def opIdx : Op2 := fun x y S => match y with
  | .int i => (match x with
    | .tup xs => optR (atI xs i) fun d => .ok d S
    | .ref l => optR (seqOf S l) fun xs => optR (atI xs i) fun d => .ok d S
    | .str z => if z.length ≤ sizeLine then optR (atI z.cps.toList i) fun c => .ok (.str ⟨#[c]⟩) S else .bad
    | _ => .bad)
  | _ => .bad
theorem nx_idx : NX2 opIdx := fun x y S => by
  cases y with
  | int i =>
    cases x with
    | tup xs => exact optR_nx fun _ => True.intro
    | ref l => exact optR_nx fun _ => optR_nx fun _ => True.intro
    | str z => exact nx_ite (optR_nx fun _ => True.intro) True.intro
    | _ => exact True.intro
  | _ => exact True.intro
theorem RelDs.atI {K : PySem.W.Frag} {H : Hp} {φ : Nat → Addr} {n : Nat} {ds : List D} {vs : List V} {i : Int} {d : D} (r : RelDs K H φ n ds vs) (h : atI ds i = some d) : ∃ v, L2.atI vs i = some v ∧ RelD K H φ n d v := by
  unfold L2.atI at h ⊢
  rw [← r.length]
  obtain ⟨j, h1, h2⟩ := Option.bind_eq_some_iff.mp h
  obtain ⟨v, h3, h4⟩ := r.get h2
  exact ⟨v, by rw [h1]; exact h3, h4⟩
theorem xr_idx (hK : X.K = G.K) : IxR X (RD2 G opIdx) := fun value slice pins s σ H x y v u Q I rx ry ⟨φ, S, dx, dy, rp, hx, hy, h⟩ hs => by
  cases hy with
  | int i =>
    cases hx with
    | @tup a xs vs hl t r =>
      obtain ⟨d, e, h⟩ := post_opt (o := L2.atI xs i) h
      obtain ⟨w, e2, r2⟩ := r.atI e
      exact ix_tup value slice pins s σ H _ _ v u Q I rx ry ⟨a, vs, i, w, rfl, rfl, by rw [hK]; exact t, e2, post_ok h rp r2⟩ hs
    | @ref l hl =>
      obtain ⟨xs, e1, h⟩ := post_opt (o := seqOf S l) h
      obtain ⟨d, e, h⟩ := post_opt (o := L2.atI xs i) h
      obtain ⟨vs, q, r⟩ := seqOf_at rp e1
      obtain ⟨w, e2, r2⟩ := r.atI e
      exact ix_list value slice pins s σ H _ _ v u Q I rx ry ⟨_, vs, i, w, rfl, rfl, by rw [hK]; exact q, e2, post_ok h rp r2⟩ hs
    | str z =>
      replace h : Post RelD G (fun _ _ _ _ => False) φ S.length H (if z.length ≤ sizeLine then optR (L2.atI z.cps.toList i) fun c => .ok (.str ⟨#[c]⟩) S else .bad) Q := h
      by_cases c : z.length ≤ sizeLine
      · rw [if_pos c] at h
        obtain ⟨d, e, h⟩ := post_opt h
        exact ix_str value slice pins s σ H _ _ v u Q I rx ry ⟨z, i, d, rfl, rfl, c, e, post_ok h rp (.str _)⟩ hs
      · rw [if_neg c] at h
        exact (post_bad h).elim
    | _ => exact (post_bad h).elim
  | _ => exact (post_bad h).elim
theorem de_idx {a b : Expr} {fa fb : Den D} {pos : Pos} (hK : X.K = G.K) (ha : PE X a (TD G W fa)) (hb : PE X b (TD G W fb)) (hs : PlainIx b) : PE X (.Subscript a b pos) (TD G W (fOp opIdx fa fb)) := (pe_ix (xr_idx hK) ha hb hs).imp (td_op nx_idx)
def cutD (xs : List D) (lo hi : Option Int) : List D := (xs.drop (HT.sIx xs.length 0 lo)).take (HT.sIx xs.length xs.length hi - HT.sIx xs.length 0 lo)
theorem RelDs.cut {K : PySem.W.Frag} {H : Hp} {φ : Nat → Addr} {n : Nat} {ds : List D} {vs : List V} (lo hi : Option Int) (r : RelDs K H φ n ds vs) : RelDs K H φ n (cutD ds lo hi) (cutV vs lo hi) := by
  unfold cutD cutV
  rw [r.length]
  exact (r.drop _).take _
theorem cutD_le (xs : List D) (lo hi : Option Int) : (cutD xs lo hi).length ≤ xs.length := by
  unfold cutD
  rw [List.length_take, List.length_drop]
  omega
def opCut (x : D) (lo hi : Option Int) (S : Sto) : R D := match x with
  | .tup xs => .ok (.tup (cutD xs lo hi)) S
  | .ref l => optR (seqOf S l) fun xs => mkLst (cutD xs lo hi) S
  | .str z => if z.length ≤ sizeLine then .ok (.str (cutS z lo hi)) S else .bad
  | _ => .bad
theorem nx_cut (x : D) (lo hi : Option Int) (S : Sto) : (opCut x lo hi S).nx := by
  cases x with
  | ref l => exact optR_nx fun _ => True.intro
  | str z => exact nx_ite True.intro True.intro
  | _ => exact True.intro
theorem whole_cut (xs : List D) (lo hi : Option Int) (h : HT.sIx xs.length 0 lo = 0 ∧ HT.sIx xs.length xs.length hi = xs.length) : cutD xs lo hi = xs := by
  unfold cutD
  rw [h.1, h.2]
  simp
def RDc (G : Gs) : V → Option Int → Option Int → Hp → VK → Prop := fun v lo hi H Q => ∃ φ S x, Rep G H φ S ∧ RelD G.K H φ S.length x v ∧ Post RelD G (fun _ _ _ _ => False) φ S.length H (opCut x lo hi S) Q
theorem sr_cut (hK : X.K = G.K) : SlR X (RDc G) := fun pins s σ H x v vl vu lo hi sl Q I rx hs pl pu ⟨φ, S, dx, rp, hx, h⟩ => by
  cases hx with
  | @tup a xs vs hl t r =>
    refine sl_tupA pins s σ H _ v vl vu lo hi sl Q I rx hs pl pu ⟨a, vs, rfl, by rw [hK]; exact t, fun z => ?_, fun z p hp => ?_⟩
    · have e : cutD xs lo hi = xs := whole_cut xs lo hi (by rw [r.length]; exact z)
      replace h : Post RelD G (fun _ _ _ _ => False) φ S.length H (.ok (.tup (cutD xs lo hi)) S) Q := h
      rw [e] at h
      exact post_ok h rp (.tup hl t r)
    · exact post_tup h rp (r.cut lo hi) (Nat.le_trans (cutD_le _ _ _) hl) hp
  | @ref l hl =>
    obtain ⟨xs, e1, h⟩ := post_opt (o := seqOf S l) h
    obtain ⟨vs, q, r⟩ := seqOf_at rp e1
    rw [← hK] at q
    obtain ⟨_, r3, _, hz⟩ := I.list q
    exact sl_list pins s σ H _ v vl vu lo hi sl Q I rx hs pl pu ⟨_, vs, rfl, q, fun p hp => post_lst h rp (r.cut lo hi) (Nat.le_trans (cutD_le _ _ _) (by rw [r.length]; exact hz)) hp⟩
  | str z =>
    replace h : Post RelD G (fun _ _ _ _ => False) φ S.length H (if z.length ≤ sizeLine then .ok (.str (cutS z lo hi)) S else .bad) Q := h
    by_cases c : z.length ≤ sizeLine
    · rw [if_pos c] at h
      exact sl_str pins s σ H _ v vl vu lo hi sl Q I rx hs pl pu ⟨z, rfl, c, post_ok h rp (.str _)⟩
    · rw [if_neg c] at h
      exact (post_bad h).elim
  | _ => exact (post_bad h).elim
end
end DL
end
section
set_option Elab.async false
set_option linter.all false
set_option maxRecDepth 100000
set_option maxHeartbeats 1000000
/-! DL5: truth, tests, membership, identity, conditional expressions -/
namespace DL
open PySem PySem.Spec PyProof.Rows L2

section
variable {G : Gs} {W : WX} {X : Cx}
/-! ### membership, identity -/
def anyIn (neg : Bool) (a : PyData) (xs : List PyData) : Bool := neg != xs.any fun z => PyData.eqv z a
def inData (neg : Bool) (S : Sto) (a b : PyData) : R D := match b with
  | .list xs => .ok (.bl (anyIn neg a xs)) S
  | .tuple xs => .ok (.bl (anyIn neg a xs)) S
  | _ => .bad
def opIn (neg : Bool) : Op2 := fun x c S => match c with
  | .str z => (match x with
    | .str y => if y.length = 1 then .ok (.bl (neg != decide (y.cps.getD 0 0 ∈ z.cps.toList))) S else .bad
    | _ => .bad)
  | c => res2 S x c (inData neg S)
theorem nx_inData {neg : Bool} {S : Sto} {a b : PyData} : (inData neg S a b).nx := by cases b <;> exact True.intro
theorem nx_in {neg : Bool} : NX2 (opIn neg) := fun x c S => by
  cases c with
  | str z =>
    cases x with
    | str y => exact nx_ite True.intro True.intro
    | _ => exact True.intro
  | non => exact res2_nx (S := S) (x := x) (y := .non) (k := inData neg S) fun _ _ => nx_inData
  | bl _ => exact res2_nx (S := S) (x := x) (y := .bl _) (k := inData neg S) fun _ _ => nx_inData
  | int _ => exact res2_nx (S := S) (x := x) (y := .int _) (k := inData neg S) fun _ _ => nx_inData
  | tup _ => exact res2_nx (S := S) (x := x) (y := .tup _) (k := inData neg S) fun _ _ => nx_inData
  | ref _ => exact res2_nx (S := S) (x := x) (y := .ref _) (k := inData neg S) fun _ _ => nx_inData
theorem one_sign {y : Str} (h : y.length = 1) : y = ⟨#[y.cps.getD 0 0]⟩ := by
  obtain ⟨⟨l⟩⟩ := y
  have h' : l.length = 1 := h
  match l, h' with
  | [c], _ => rfl
theorem in_data {op : CmpOp} {neg : Bool} (hK : X.K = G.K) (hu : X.A.units + 65 < cLine) (hop : (op = .In ∧ neg = false) ∨ (op = .NotIn ∧ neg = true)) {pins : List (Addr × Obj)} {s : Shared} {σ : L2.St} {H : Hp} {x y : V} {v u : Value} {Q : VK} (I : Inv X pins σ H s) (rx : RelV x v) (ry : RelV y u)
    {φ : Nat → Addr} {S : Sto} {dx dy : D} (rp : Rep G H φ S) (hx : RelD G.K H φ S.length dx x) (hy : RelD G.K H φ S.length dy y)
    (h : Post RelD G (fun _ _ _ _ => False) φ S.length H (res2 S dx dy (inData neg S)) Q) : wpAny (model X.prog X.w) X.A (compareOp op v u) (EP X pins σ Q) X.xe s := by
  obtain ⟨a, b, a1, b1, a2, b2, a3, b3, q⟩ := res2_cases rp hx hy h
  rw [← hK] at a1 b1
  obtain ⟨as, r1⟩ := Dp.reads I a x v a1 rx
  obtain ⟨bs, r2⟩ := Dp.reads I b y u b1 ry
  have c1 := SeqAt.canLay_of_shaped a2
  have c2 := SeqAt.canLay_of_shaped b2
  have done : ∀ k, Post RelD G (fun _ _ _ _ => False) φ S.length H (.ok (.bl k) S) Q → EP X pins σ Q (.bool k) s := fun k q => ⟨.bl k, H, I, rfl, post_ok q rp (.bl _)⟩
  cases b with
  | list xs =>
    have l1 : PyData.canLayAll0 xs = true := by simpa only [PyData.canLay0] using c2
    rcases hop with ⟨rfl, rfl⟩ | ⟨rfl, rfl⟩
    · exact SeqAt.in_list_reads r2 r1 l1 c1 (by omega) (by have := done _ q; unfold anyIn at this; simpa using this)
    · exact SeqAt.notIn_list_reads r2 r1 l1 c1 (by omega) (by have := done _ q; unfold anyIn at this; simpa using this)
  | tuple xs =>
    have l1 : PyData.canLayAll0 xs = true := by simpa only [PyData.canLay0] using c2
    rcases hop with ⟨rfl, rfl⟩ | ⟨rfl, rfl⟩
    · exact SeqAt.in_tuple_reads r2 r1 l1 c1 (by omega) (by have := done _ q; unfold anyIn at this; simpa using this)
    · exact SeqAt.notIn_tuple_reads r2 r1 l1 c1 (by omega) (by have := done _ q; unfold anyIn at this; simpa using this)
  | _ => exact (post_bad q).elim
theorem or_in (hK : X.K = G.K) (hu : X.A.units + 65 < cLine) : OpR X (compareOp .In) (RD2 G (opIn false)) := fun pins s σ H x y v u Q I rx ry ⟨φ, S, dx, dy, rp, hx, hy, h⟩ => by
  cases hy with
  | str z =>
    cases hx with
    | str y =>
      replace h : Post RelD G (fun _ _ _ _ => False) φ S.length H (if y.length = 1 then .ok (.bl (false != decide (y.cps.getD 0 0 ∈ z.cps.toList))) S else .bad) Q := h
      by_cases c : y.length = 1
      · rw [if_pos c] at h
        rw [one_sign c] at rx
        exact op_in_sign pins s σ H _ _ v u Q I rx ry ⟨_, z, rfl, rfl, by have := post_ok h rp (.bl _); simpa using this⟩
      · rw [if_neg c] at h
        exact (post_bad h).elim
    | _ => exact (post_bad h).elim
  | non => exact in_data hK hu (.inl ⟨rfl, rfl⟩) I rx ry rp hx .non h
  | bl b => exact in_data hK hu (.inl ⟨rfl, rfl⟩) I rx ry rp hx (.bl b) h
  | int b => exact in_data hK hu (.inl ⟨rfl, rfl⟩) I rx ry rp hx (.int b) h
  | tup h1 h2 h3 => exact in_data hK hu (.inl ⟨rfl, rfl⟩) I rx ry rp hx (.tup h1 h2 h3) h
  | ref hl => exact in_data hK hu (.inl ⟨rfl, rfl⟩) I rx ry rp hx (.ref hl) h
theorem or_notIn (hK : X.K = G.K) (hu : X.A.units + 65 < cLine) : OpR X (compareOp .NotIn) (RD2 G (opIn true)) := fun pins s σ H x y v u Q I rx ry ⟨φ, S, dx, dy, rp, hx, hy, h⟩ => by
  cases hy with
  | str z =>
    cases hx with
    | str y =>
      replace h : Post RelD G (fun _ _ _ _ => False) φ S.length H (if y.length = 1 then .ok (.bl (true != decide (y.cps.getD 0 0 ∈ z.cps.toList))) S else .bad) Q := h
      by_cases c : y.length = 1
      · rw [if_pos c] at h
        rw [one_sign c] at rx
        exact op_notIn_sign pins s σ H _ _ v u Q I rx ry ⟨_, z, rfl, rfl, by have := post_ok h rp (.bl _); simpa using this⟩
      · rw [if_neg c] at h
        exact (post_bad h).elim
    | _ => exact (post_bad h).elim
  | non => exact in_data hK hu (.inr ⟨rfl, rfl⟩) I rx ry rp hx .non h
  | bl b => exact in_data hK hu (.inr ⟨rfl, rfl⟩) I rx ry rp hx (.bl b) h
  | int b => exact in_data hK hu (.inr ⟨rfl, rfl⟩) I rx ry rp hx (.int b) h
  | tup h1 h2 h3 => exact in_data hK hu (.inr ⟨rfl, rfl⟩) I rx ry rp hx (.tup h1 h2 h3) h
  | ref hl => exact in_data hK hu (.inr ⟨rfl, rfl⟩) I rx ry rp hx (.ref hl) h
def isNone : D → Bool
  | .non => true
  | _ => false
theorem isNone_rel {K : PySem.W.Frag} {H : Hp} {φ : Nat → Addr} {n : Nat} {d : D} {v : V} (r : RelD K H φ n d v) : decide (v = .non) = isNone d := by
  cases r <;> first | rfl | exact decide_eq_false (fun z => by cases z)
def opIs (neg : Bool) : Op2 := fun x y S => match y with
  | .non => .ok (.bl (neg != isNone x)) S
  | .bl b => (match x with
    | .bl a => .ok (.bl (neg != decide (a = b))) S
    | _ => .bad)
  | _ => .bad
theorem nx_is {neg : Bool} : NX2 (opIs neg) := fun x y S => by
  cases y with
  | bl b => cases x <;> exact True.intro
  | _ => exact True.intro
theorem or_is : OpR X (compareOp .Is) (RD2 G (opIs false)) := fun pins s σ H x y v u Q I rx ry ⟨φ, S, dx, dy, rp, hx, hy, h⟩ => by
  cases hy with
  | non => exact op_isN pins s σ H _ _ v u Q I rx ry ⟨rfl, by rw [isNone_rel hx]; have := post_ok h rp (.bl _); simpa using this⟩
  | bl b =>
    cases hx with
    | bl a => exact op_is_bl pins s σ H _ _ v u Q I rx ry ⟨a, b, rfl, rfl, by have := post_ok h rp (.bl _); simpa using this⟩
    | _ => exact (post_bad h).elim
  | _ => exact (post_bad h).elim
theorem or_isNot : OpR X (compareOp .IsNot) (RD2 G (opIs true)) := fun pins s σ H x y v u Q I rx ry ⟨φ, S, dx, dy, rp, hx, hy, h⟩ => by
  cases hy with
  | non => exact op_notN pins s σ H _ _ v u Q I rx ry ⟨rfl, by rw [isNone_rel hx]; have := post_ok h rp (.bl _); simpa using this⟩
  | bl b =>
    cases hx with
    | bl a => exact op_isnot_bl pins s σ H _ _ v u Q I rx ry ⟨a, b, rfl, rfl, by have := post_ok h rp (.bl _); simpa using this⟩
    | _ => exact (post_bad h).elim
  | _ => exact (post_bad h).elim

/-! ### truth -/
def tru (S : Sto) : D → Option Bool
  | .non => some false
  | .bl b => some b
  | .int i => some (i != 0)
  | .str s => if s.length ≤ sizeLine then some ((s.length : Int) != 0) else none
  | .tup xs => some (!xs.isEmpty)
  | .ref l => match S[l]? with
    | some (.lst xs) => some (!xs.isEmpty)
    | some (.fro xs) => some (!xs.isEmpty)
    | some (.dct kvs) => some (!kvs.isEmpty)
    | _ => none
theorem RelDs.empty {K : PySem.W.Frag} {H : Hp} {φ : Nat → Addr} {n : Nat} {d : List D} {v : List V} (r : RelDs K H φ n d v) : d.isEmpty = v.isEmpty := by cases r <;> rfl
theorem RelKs.empty {κ : Type} {K : PySem.W.Frag} {H : Hp} {φ : Nat → Addr} {n : Nat} {d : List (κ × D)} {v : List (κ × V)} (r : RelKs K H φ n d v) : d.isEmpty = v.isEmpty := by cases r <;> rfl
theorem tru_V {φ : Nat → Addr} {H : Hp} {S : Sto} {d : D} {v : V} {b : Bool} (rp : Rep G H φ S) (r : RelD G.K H φ S.length d v) (h : tru S d = some b) : TruV G.K v H b := by
  cases r with
  | non => cases h; rfl
  | bl k => cases h; rfl
  | int i => cases h; rfl
  | str s =>
    replace h : (if s.length ≤ sizeLine then some ((s.length : Int) != 0) else none) = some b := h
    by_cases c : s.length ≤ sizeLine
    · rw [if_pos c] at h
      cases h
      exact ⟨c, rfl⟩
    · rw [if_neg c] at h
      cases h
  | tup hl t r =>
    cases h
    exact .inr (.inl ⟨_, t, by rw [r.empty]⟩)
  | @ref l hl =>
    unfold tru at h
    cases q : S[l]? with
    | none => simp [q] at h
    | some o =>
      have ob := rp.ob l o q
      cases o with
      | lst ys =>
        simp only [q] at h
        cases h
        obtain ⟨z, vs, e, r⟩ := ob
        exact .inl ⟨vs, .of e, by rw [r.empty]⟩
      | fro ys =>
        simp only [q] at h
        cases h
        obtain ⟨zz, z, vs, e, r⟩ := ob
        exact .inl ⟨vs, .inl (.inr ⟨_, e⟩), by rw [r.empty]⟩
      | dct ys =>
        simp only [q] at h
        cases h
        obtain ⟨vs, e, r⟩ := ob
        exact .inr (.inr ⟨vs, e, by rw [r.empty]⟩)
      | exc _ _ => simp [q] at h
def optB (o : Option Bool) (S : Sto) : R Bool := match o with
  | some b => .ok b S
  | none => .bad
def fTest (f : Den D) : Den Bool := fun ρ S => (f ρ S).bind fun d S1 => optB (tru S1 d) S1
theorem post_optB {φ : Nat → Addr} {n : Nat} {H : Hp} {o : Option Bool} {S : Sto} {Q : Bool → Hp → Prop} (h : Post RelB G W φ n H (optB o S) Q) : ∃ b, o = some b ∧ Post RelB G W φ n H (.ok b S) Q := by
  cases o with
  | none => exact (post_bad h).elim
  | some b => exact ⟨b, rfl, h⟩
theorem dt_val {e : Expr} {f : Den D} (hK : X.K = G.K) (h : PE X e (TD G W f)) (he : ∀ whole, isTrue e X.env whole = (do let v ← whole; standAt e.pos; holding [v] (truthy v))) : PT X e (TDB G W (fTest f)) :=
  (pt_truth h he).imp fun σ H Q ⟨φ, S, ρ, rp, er, hq⟩ => TG.seq rp er hq fun φ1 S1 H1 d v f1 rp1 er1 rd h1 => by
    obtain ⟨b, e1, h2⟩ := post_optB h1
    exact ⟨b, by rw [hK]; exact tru_V rp1 rd e1, post_ok h2 rp1 rfl⟩
/-- a comparison as a test -/
def fBool (f : Den D) : Den Bool := fun ρ S => (f ρ S).bind fun d S1 => match d with
  | .bl b => .ok b S1
  | _ => .bad
theorem dt_cmp {op : CmpOp} {o : Op2} {a b : Expr} {fa fb : Den D} {pos : Pos} (ho : OpR X (compareOp op) (RD2 G o)) (nx : NX2 o) (ha : PE X a (TD G W fa)) (hb : PE X b (TD G W fb)) (hm : behindInMarks op b = false) : PT X (.Compare a [op] [b] pos) (TDB G W (fBool (fOp o fa fb))) :=
  (pt_cmpR ho ha hb hm).imp fun σ H Q ⟨φ, S, ρ, rp, er, h⟩ => td_op (G := G) (W := W) nx σ H _ (TG.seq (fa := fOp o fa fb) rp er h fun φ1 S1 H1 d v f1 rp1 er1 rd h1 => by
    cases rd with
    | bl k => exact ⟨k, rfl, post_ok h1 rp1 rfl⟩
    | _ => exact (post_bad h1).elim)
def fNotT (f : Den Bool) : Den Bool := fun ρ S => (f ρ S).bind fun b S1 => .ok (!b) S1
theorem dt_not {a : Expr} {f : Den Bool} {pos : Pos} (ha : PT X a (TDB G W f)) : PT X (.UnaryOp .Not a pos) (TDB G W (fNotT f)) :=
  (pt_not ha).imp fun σ H Q ⟨φ, S, ρ, rp, er, h⟩ => TG.seq rp er h fun φ1 S1 H1 d v f1 rp1 er1 rd h1 => by
    cases rd
    exact post_ok h1 rp1 rfl
def fAndT (a b : Den Bool) : Den Bool := fun ρ S => (a ρ S).bind fun c S1 => if c = true then b ρ S1 else .ok false S1
def fOrT (a b : Den Bool) : Den Bool := fun ρ S => (a ρ S).bind fun c S1 => if c = true then .ok true S1 else b ρ S1
theorem dw_and {a b : Expr} {rest : List Expr} {fa fb : Den Bool} {pos : Pos} (ha : PT X a (TDB G W fa)) (hb : PW X (.BoolOp .And (b :: rest) pos) (TDB G W fb)) : PW X (.BoolOp .And (a :: b :: rest) pos) (TDB G W (fAndT fa fb)) :=
  (pw_and ha hb).imp fun σ H Q ⟨φ, S, ρ, rp, er, h⟩ => TG.seq rp er h fun φ1 S1 H1 d v f1 rp1 er1 rd h1 => by
    cases rd
    cases d with
    | true => rw [if_pos rfl]; exact ⟨φ1, S1, ρ, rp1, er1, h1⟩
    | false => rw [if_neg Bool.false_ne_true]; exact post_ok h1 rp1 rfl
theorem dw_or {a b : Expr} {rest : List Expr} {fa fb : Den Bool} {pos : Pos} (ha : PT X a (TDB G W fa)) (hb : PW X (.BoolOp .Or (b :: rest) pos) (TDB G W fb)) : PW X (.BoolOp .Or (a :: b :: rest) pos) (TDB G W (fOrT fa fb)) :=
  (pw_or ha hb).imp fun σ H Q ⟨φ, S, ρ, rp, er, h⟩ => TG.seq rp er h fun φ1 S1 H1 d v f1 rp1 er1 rd h1 => by
    cases rd
    cases d with
    | true => rw [if_pos rfl]; exact post_ok h1 rp1 rfl
    | false => rw [if_neg Bool.false_ne_true]; exact ⟨φ1, S1, ρ, rp1, er1, h1⟩
/-- values by truth -/
def fAnd (a b : Den D) : Den D := fun ρ S => (a ρ S).bind fun x S1 => match tru S1 x with
  | some true => b ρ S1
  | some false => .ok x S1
  | none => .bad
def fOr (a b : Den D) : Den D := fun ρ S => (a ρ S).bind fun x S1 => match tru S1 x with
  | some true => .ok x S1
  | some false => b ρ S1
  | none => .bad
theorem de_and {a b : Expr} {rest : List Expr} {fa fb : Den D} {pos : Pos} (hK : X.K = G.K) (ha : PE X a (TD G W fa)) (hb : PE X (.BoolOp .And (b :: rest) pos) (TD G W fb)) : PE X (.BoolOp .And (a :: b :: rest) pos) (TD G W (fAnd fa fb)) :=
  (pe_andT ha hb).imp fun σ H Q ⟨φ, S, ρ, rp, er, h⟩ => TG.seq rp er h fun φ1 S1 H1 d v f1 rp1 er1 rd h1 => by
    cases e : tru S1 d with
    | none => rw [e] at h1; exact (post_bad h1).elim
    | some k =>
      rw [e] at h1
      refine ⟨k, by rw [hK]; exact tru_V rp1 rd e, ?_⟩
      cases k with
      | true => rw [if_pos rfl]; exact ⟨φ1, S1, ρ, rp1, er1, h1⟩
      | false => rw [if_neg Bool.false_ne_true]; exact post_ok h1 rp1 rd
theorem de_or {a b : Expr} {rest : List Expr} {fa fb : Den D} {pos : Pos} (hK : X.K = G.K) (ha : PE X a (TD G W fa)) (hb : PE X (.BoolOp .Or (b :: rest) pos) (TD G W fb)) : PE X (.BoolOp .Or (a :: b :: rest) pos) (TD G W (fOr fa fb)) :=
  (pe_orT ha hb).imp fun σ H Q ⟨φ, S, ρ, rp, er, h⟩ => TG.seq rp er h fun φ1 S1 H1 d v f1 rp1 er1 rd h1 => by
    cases e : tru S1 d with
    | none => rw [e] at h1; exact (post_bad h1).elim
    | some k =>
      rw [e] at h1
      refine ⟨k, by rw [hK]; exact tru_V rp1 rd e, ?_⟩
      cases k with
      | true => rw [if_pos rfl]; exact post_ok h1 rp1 rd
      | false => rw [if_neg Bool.false_ne_true]; exact ⟨φ1, S1, ρ, rp1, er1, h1⟩
def fNot (a : Den D) : Den D := fun ρ S => (fTest a ρ S).bind fun b S1 => .ok (.bl (!b)) S1
theorem de_not {a : Expr} {fa : Den D} {pos : Pos} (hK : X.K = G.K) (ha : PE X a (TD G W fa)) : PE X (.UnaryOp .Not a pos) (TD G W (fNot fa)) :=
  (pe_notT ha).imp fun σ H Q ⟨φ, S, ρ, rp, er, h⟩ => by
    have h' : Post RelD G W φ S.length H ((fa ρ S).bind fun d S1 => (optB (tru S1 d) S1).bind fun b S2 => .ok (.bl (!b)) S2) Q := by
      have e : (fNot fa ρ S) = ((fa ρ S).bind fun d S1 => (optB (tru S1 d) S1).bind fun b S2 => .ok (.bl (!b)) S2) := by
        unfold fNot fTest
        cases fa ρ S <;> rfl
      rw [← e]
      exact h
    exact TG.seq rp er h' fun φ1 S1 H1 d v f1 rp1 er1 rd h1 => by
      cases e : tru S1 d with
      | none => rw [e] at h1; exact (post_bad h1).elim
      | some k =>
        rw [e] at h1
        exact ⟨k, by rw [hK]; exact tru_V rp1 rd e, post_ok h1 rp1 (.bl _)⟩
def fIf {α : Type} (t : Den Bool) (a b : Den α) : Den α := fun ρ S => (t ρ S).bind fun c S1 => if c = true then a ρ S1 else b ρ S1
theorem de_if {c a b : Expr} {t : Den Bool} {fa fb : Den D} {pos : Pos} (hc : PT X c (TDB G W t)) (ha : PE X a (TD G W fa)) (hb : PE X b (TD G W fb)) : PE X (.IfExp c a b pos) (TD G W (fIf t fa fb)) :=
  (pe_ifExp hc ha hb).imp fun σ H Q ⟨φ, S, ρ, rp, er, h⟩ => TG.seq rp er h fun φ1 S1 H1 d v f1 rp1 er1 rd h1 => by
    cases rd
    cases d with
    | true => rw [if_pos rfl]; exact ⟨φ1, S1, ρ, rp1, er1, h1⟩
    | false => rw [if_neg Bool.false_ne_true]; exact ⟨φ1, S1, ρ, rp1, er1, h1⟩
end
end DL
end
section
set_option Elab.async false
set_option linter.all false
set_option maxRecDepth 100000
set_option maxHeartbeats 1000000
/-! DL6: statements, targets -/
namespace DL
open PySem PySem.Spec PyProof.Rows L2

inductive Fl where
  | nx (ρ : Ev) | ret (d : D) | brk (ρ : Ev) | cnt (ρ : Ev)
inductive FlV where
  | nx (σ : L2.St) | ret (v : V) | brk (σ : L2.St) | cnt (σ : L2.St)
def RelFl : Rl Fl FlV := fun K H φ n f g => match f, g with
  | .nx ρ, .nx σ => EnvR K H φ n ρ σ
  | .ret d, .ret v => RelD K H φ n d v
  | .brk ρ, .brk σ => EnvR K H φ n ρ σ
  | .cnt ρ, .cnt σ => EnvR K H φ n ρ σ
  | _, _ => False
def endsQ (E : Ends) : FlV → Hp → Prop
  | .nx σ, H => E.nx σ H
  | .ret v, H => E.rt v H
  | .brk σ, H => E.bk σ H
  | .cnt σ, H => E.ct σ H
abbrev DenS := Den Fl
/-- a statement's reading by its meaning -/
def TDS (G : Gs) (W : WX) (f : DenS) : TS := fun E σ H => TG RelFl G W f σ H (endsQ E)
abbrev RelEv : Rl Ev L2.St := fun K H φ n ρ σ => EnvR K H φ n ρ σ
section
variable {G : Gs} {W : WX} {X : Cx}
/-! ### blocks -/
def sNil : DenS := fun ρ S => .ok (.nx ρ) S
def goOn (b : DenS) (f : Fl) (S : Sto) : R Fl := match f with
  | .nx ρ1 => b ρ1 S
  | f => .ok f S
def sSeq (a b : DenS) : DenS := fun ρ S => (a ρ S).bind (goOn b)
theorem ds_nil : PSs X [] (TDS G W sNil) := pss_nil.imp fun E σ H ⟨φ, S, ρ, rp, er, h⟩ => post_ok (v := FlV.nx σ) h rp er
theorem ds_pass {pos : Pos} : PS X (.Pass pos) (TDS G W sNil) := ps_pass.imp fun E σ H ⟨φ, S, ρ, rp, er, h⟩ => post_ok (v := FlV.nx σ) h rp er
def sBrk : DenS := fun ρ S => .ok (.brk ρ) S
def sCnt : DenS := fun ρ S => .ok (.cnt ρ) S
theorem ds_break {pos : Pos} : PS X (.Break pos) (TDS G W sBrk) := ps_break.imp fun E σ H ⟨φ, S, ρ, rp, er, h⟩ => post_ok (v := FlV.brk σ) h rp er
theorem ds_continue {pos : Pos} : PS X (.Continue pos) (TDS G W sCnt) := ps_continue.imp fun E σ H ⟨φ, S, ρ, rp, er, h⟩ => post_ok (v := FlV.cnt σ) h rp er
/-- another wish about the ends -/
theorem TDS.ends {f : DenS} {E E' : Ends} {σ : L2.St} {H : Hp} (h : ∀ g H', endsQ E g H' → endsQ E' g H') (t : TDS G W f E σ H) : TDS G W f E' σ H := by
  obtain ⟨φ, S, ρ, rp, er, q⟩ := t
  refine ⟨φ, S, ρ, rp, er, ?_⟩
  cases e : f ρ S with
  | ok d S1 =>
    rw [e] at q
    exact fun φ' H' v ft rp' r => h v H' (q φ' H' v ft rp' r)
  | exc c fs ρ' S1 =>
    rw [e] at q
    exact q
  | bad =>
    rw [e] at q
    exact q
theorem TDS.seq {f : DenS} {g : Fl → Sto → R Fl} {E E' : Ends} {σ : L2.St} {H : Hp} {φ : Nat → Addr} {S : Sto} {ρ : Ev} (rp : Rep G H φ S) (er : EnvR G.K H φ S.length ρ σ) (h : Post RelFl G W φ S.length H ((f ρ S).bind g) (endsQ E))
    (k : ∀ φ1 S1 H1 d v, Fut G φ S.length H φ1 S1.length H1 → Rep G H1 φ1 S1 → RelFl G.K H1 φ1 S1.length d v → Post RelFl G W φ1 S1.length H1 (g d S1) (endsQ E) → endsQ E' v H1) : TDS G W f E' σ H :=
  TG.seq rp er h fun φ1 S1 H1 d v f1 rp1 _ rd h1 => k φ1 S1 H1 d v f1 rp1 rd h1
theorem seq_ends {b : DenS} {E : Ends} {φ1 : Nat → Addr} {S1 : Sto} {H1 : Hp} {d : Fl} {v : FlV} (rp1 : Rep G H1 φ1 S1) (rd : RelFl G.K H1 φ1 S1.length d v)
    (h1 : Post RelFl G W φ1 S1.length H1 (goOn b d S1) (endsQ E)) : endsQ { E with nx := TDS G W b E } v H1 := by
  cases d with
  | nx ρ1 => cases v with
    | nx σ1 => exact ⟨φ1, S1, ρ1, rp1, rd, h1⟩
    | _ => exact rd.elim
  | ret x => cases v with
    | ret y => exact post_ok (Q := endsQ E) (v := FlV.ret y) h1 rp1 rd
    | _ => exact rd.elim
  | brk ρ1 => cases v with
    | brk σ1 => exact post_ok (Q := endsQ E) (v := FlV.brk σ1) h1 rp1 rd
    | _ => exact rd.elim
  | cnt ρ1 => cases v with
    | cnt σ1 => exact post_ok (Q := endsQ E) (v := FlV.cnt σ1) h1 rp1 rd
    | _ => exact rd.elim
theorem ds_cons {st : Stmt} {rest : List Stmt} {a b : DenS} (h1 : PS X st (TDS G W a)) (h2 : PSs X rest (TDS G W b)) : PSs X (st :: rest) (TDS G W (sSeq a b)) :=
  (pss_cons h1 h2).imp fun E σ H ⟨φ, S, ρ, rp, er, h⟩ => TDS.seq rp er h fun φ1 S1 H1 d v f1 rp1 rd h1 => seq_ends rp1 rd h1
/-- a dropped value, a return -/
def sExpr (f : Den D) : DenS := fun ρ S => (f ρ S).bind fun _ S1 => .ok (.nx ρ) S1
theorem ds_expr {e : Expr} {f : Den D} {pos : Pos} (he : PE X e (TD G W f)) (hs : swapsWith e none pos.line X.env = pure false) : PS X (.Expr e pos) (TDS G W (sExpr f)) :=
  (ps_expr he hs).imp fun E σ H ⟨φ, S, ρ, rp, er, h⟩ => TG.seq rp er h fun φ1 S1 H1 d v f1 rp1 er1 rd h1 => post_ok (v := FlV.nx σ) h1 rp1 er1
theorem ds_doc {x : Str} {j : Nat} {pos pos' : Pos} : PS X (.Expr (.Constant (.str x) j pos) pos') (TDS G W sNil) := ps_doc.imp fun E σ H ⟨φ, S, ρ, rp, er, h⟩ => post_ok (v := FlV.nx σ) h rp er
def sRet (f : Den D) : DenS := fun ρ S => (f ρ S).bind fun d S1 => .ok (.ret d) S1
theorem ds_ret {e : Expr} {f : Den D} {pos : Pos} (he : PE X e (TD G W f)) : PS X (.Return (some e) pos) (TDS G W (sRet f)) :=
  (ps_ret he).imp fun E σ H ⟨φ, S, ρ, rp, er, h⟩ => TG.seq rp er h fun φ1 S1 H1 d v f1 rp1 er1 rd h1 => post_ok (v := FlV.ret v) h1 rp1 rd
def sRetN : DenS := fun _ S => .ok (.ret .non) S
theorem ds_retN {pos : Pos} : PS X (.Return none pos) (TDS G W sRetN) := ps_retN.imp fun E σ H ⟨φ, S, ρ, rp, er, h⟩ => post_ok (v := FlV.ret .non) h rp .non
theorem ds_if {c : Expr} {t : Den Bool} {a b : List Stmt} {fa fb : DenS} {pos : Pos} (hc : PT X c (TDB G W t)) (ha : PSs X a (TDS G W fa)) (hb : PSs X b (TDS G W fb)) : PS X (.If c a b pos) (TDS G W (fIf t fa fb)) :=
  (ps_if hc ha hb).imp fun E σ H ⟨φ, S, ρ, rp, er, h⟩ => TG.seq rp er h fun φ1 S1 H1 d v f1 rp1 er1 rd h1 => by
    cases rd
    cases d with
    | true => rw [if_pos rfl]; exact ⟨φ1, S1, ρ, rp1, er1, h1⟩
    | false => rw [if_neg Bool.false_ne_true]; exact ⟨φ1, S1, ρ, rp1, er1, h1⟩

/-! ### targets -/
abbrev DenG := D → Den Ev
def TDG (G : Gs) (W : WX) (f : DenG) : L2.TG := fun v σ H Q => ∃ φ S ρ d, Rep G H φ S ∧ EnvR G.K H φ S.length ρ σ ∧ RelD G.K H φ S.length d v ∧ Post RelEv G W φ S.length H (f d ρ S) Q
theorem _root_.L2.PG.imp {tg : Expr} {t t' : L2.TG} (h : PG X tg t) (i : ∀ v σ H Q, t' v σ H Q → t v σ H Q) : PG X tg t' := ⟨fun pins s σ H v u Q I r hw => h.run pins s σ H v u Q I r (i v σ H Q hw)⟩
theorem _root_.L2.PGs.imp {tg : List Expr} {t t' : TGs} (h : PGs X tg t) (i : ∀ v σ H Q, t' v σ H Q → t v σ H Q) : PGs X tg t' := ⟨fun pins s σ H v u Q I r hw => h.run pins s σ H v u Q I r (i v σ H Q hw)⟩
def tName (i : Nat) : DenG := fun d ρ S => .ok (ρ.set i (some d)) S
theorem dg_name {i : Nat} {x : Str} {pos : Pos} (hN : X.N.Nodup) (hi : X.N[i]? = some x) (hx : Loc X.env.scope x) (hf : X.fn x = true ∨ X.env.scope.names.lookup x = some .local) : PG X (.Name x pos) (TDG G W (tName i)) :=
  (pg_name hN hi hx hf).imp fun v σ H Q ⟨φ, S, ρ, d, rp, er, rd, h⟩ => post_ok (v := σ.set i (some v)) h rp (er.set rd)
def TDGs (G : Gs) (W : WX) (f : List D → Den Ev) : TGs := fun vs σ H Q => ∃ φ S ρ ds, Rep G H φ S ∧ EnvR G.K H φ S.length ρ σ ∧ RelDs G.K H φ S.length ds vs ∧ Post RelEv G W φ S.length H (f ds ρ S) Q
def tNil : List D → Den Ev := fun ds ρ S => match ds with
  | [] => .ok ρ S
  | _ => .bad
def tCons (a : DenG) (r : List D → Den Ev) : List D → Den Ev := fun ds ρ S => match ds with
  | d :: ds => (a d ρ S).bind fun ρ1 S1 => r ds ρ1 S1
  | [] => .bad
theorem dgs_nil : PGs X [] (TDGs G W tNil) := pgs_nil.imp fun v σ H Q ⟨φ, S, ρ, ds, rp, er, rd, h⟩ => by
  cases rd with
  | nil => exact ⟨rfl, post_ok (v := σ) h rp er⟩
  | cons _ _ => exact (post_bad h).elim
theorem dgs_cons {e : Expr} {es : List Expr} {t : DenG} {u : List D → Den Ev} (h1 : PG X e (TDG G W t)) (h2 : PGs X es (TDGs G W u)) (hs : (assignEach (e :: es) X.env).map (·.2) = assign e X.env :: (assignEach es X.env).map (·.2)) : PGs X (e :: es) (TDGs G W (tCons t u)) :=
  (pgs_cons h1 h2 hs).imp fun vs σ H Q ⟨φ, S, ρ, ds, rp, er, rd, h⟩ => by
    cases rd with
    | nil => exact (post_bad h).elim
    | @cons d v ds vs r rs =>
      refine ⟨v, vs, rfl, φ, S, ρ, d, rp, er, r, ?_⟩
      replace h : Post RelEv G W φ S.length H ((t d ρ S).bind fun ρ1 S1 => u ds ρ1 S1) Q := h
      cases e : t d ρ S with
      | ok ρ1 S1 =>
        rw [e] at h
        exact fun φ1 H1 σ1 f1 rp1 er1 => ⟨φ1, S1, ρ1, ds, rp1, er1, rs.fut f1, Post.fut f1 h⟩
      | exc c fs ρ' S1 => rw [e] at h; exact h
      | bad => rw [e] at h; exact h
def seqT (d : D) (S : Sto) : Option (List D) := match d with
  | .tup ds => some ds
  | .ref l => (match S[l]? with
    | some (.lst ds) => some ds
    | some (.fro ds) => some ds
    | _ => none)
  | _ => none
def tTup (n : Nat) (u : List D → Den Ev) : DenG := fun d ρ S => match seqT d S with
  | some ds => if ds.length = n then u ds ρ S else .bad
  | none => .bad
theorem _root_.L2.PG.or {tg : Expr} {t t' : L2.TG} (h : PG X tg t) (h' : PG X tg t') : PG X tg (fun v σ H Q => t v σ H Q ∨ t' v σ H Q) := ⟨fun pins s σ H v u Q I r hw => hw.elim (h.run pins s σ H v u Q I r) (h'.run pins s σ H v u Q I r)⟩
/-- what is unpacked -/
theorem seqT_at {φ : Nat → Addr} {H : Hp} {S : Sto} {d : D} {v : V} {ds : List D} (rp : Rep G H φ S) (rd : RelD G.K H φ S.length d v) (h : seqT d S = some ds) : ∃ a vs, v = .ref a ∧ (SqT G.K H a vs ∨ SqL G.K H a vs) ∧ RelDs G.K H φ S.length ds vs := by
  cases rd with
  | @tup a xs vs hl t r =>
    cases h
    exact ⟨a, vs, rfl, .inl t, r⟩
  | @ref l hl =>
    unfold seqT at h
    dsimp only at h
    cases q : S[l]? with
    | none => simp [q] at h
    | some o =>
      have ob := rp.ob l _ q
      cases o with
      | lst xs =>
        simp only [q] at h
        cases h
        obtain ⟨z, vs, e, r⟩ := ob
        exact ⟨_, vs, rfl, .inr (.of e), r⟩
      | fro xs =>
        simp only [q] at h
        cases h
        obtain ⟨zz, z, vs, e, r⟩ := ob
        exact ⟨_, vs, rfl, .inr (.inl (.inr ⟨_, e⟩)), r⟩
      | dct _ => simp [q] at h
      | exc _ _ => simp [q] at h
  | _ => cases h
theorem dg_tup {es : List Expr} {k : Nat} {u : List D → Den Ev} {n : Nat} {pos : Pos} (hK : X.K = G.K) (hc : X.calm = true) (h : PGs X es (TDGs G W u)) (hn : (assignEach es X.env).length = n) (hst : (assignEach es X.env).findIdx? (·.1) = none) : PG X (.Tuple es k pos) (TDG G W (tTup n u)) :=
  ((pg_tup hc h hn hst).or (pg_lst hc h hn hst)).imp fun v σ H Q ⟨φ, S, ρ, d, rp, er, rd, hq⟩ => by
    unfold tTup at hq
    cases q : seqT d S with
    | none => rw [q] at hq; exact (post_bad hq).elim
    | some ds =>
      rw [q] at hq
      replace hq : Post RelEv G W φ S.length H (if ds.length = n then u ds ρ S else .bad) Q := hq
      obtain ⟨a, vs, rfl, sq, r⟩ := seqT_at rp rd q
      by_cases c : ds.length = n
      · rw [if_pos c] at hq
        rcases sq with t | t
        · exact .inl ⟨a, vs, rfl, by rw [hK]; exact t, by rw [← r.length]; exact c, φ, S, ρ, ds, rp, er, r, hq⟩
        · exact .inr ⟨a, vs, rfl, by rw [hK]; exact t, by rw [← r.length]; exact c, φ, S, ρ, ds, rp, er, r, hq⟩
      · rw [if_neg c] at hq
        exact (post_bad hq).elim

/-! ### stores into lists -/
def stoLst (S : Sto) (l : Nat) (xs : List D) : Sto := S.set l (.lst xs)
theorem Rep.write {φ : Nat → Addr} {H : Hp} {S : Sto} {l : Nat} {xs ys : List D} {vs : List V} (rp : Rep G H φ S) (h : S[l]? = some (.lst xs)) (r : RelDs G.K H φ S.length ys vs) (hl : ys.length ≤ sizeLine) :
    Fut G φ S.length H φ (S.set l (.lst ys)).length (upd H (φ l) (.lst vs)) ∧ Rep G (upd H (φ l) (.lst vs)) φ (S.set l (.lst ys)) := by
  obtain ⟨_, ws, e, _⟩ := rp.ob l _ h
  have lt : l < S.length := (List.getElem?_eq_some_iff.mp h).1
  have sz : (S.set l (Ob.lst ys)).length = S.length := List.length_set
  have ft : Fut G φ S.length H φ S.length (upd H (φ l) (.lst vs)) := ⟨Nat.le_refl _, fun _ _ => rfl, fun a us q => by
      rw [upd_ne (fun z => by rw [z, e] at q; cases q)]
      exact q, fun a o u q => by
      rw [upd_ne (fun z => by rw [z, e] at q; cases q)]
      exact q, fun a u q hn => by
      rw [upd_ne (fun z => hn l lt z.symm)]
      exact q, upd_there, fun l h1 h2 => absurd (Nat.lt_of_lt_of_le h2 h1) (Nat.lt_irrefl _)⟩
  rw [sz]
  refine ⟨ft, rp.sys.upd fun _ _ z => by (rw [e] at z; cases z), fun a b h1 h2 q => rp.inj a b (by rw [← sz]; exact h1) (by rw [← sz]; exact h2) q, fun m o q => ?_⟩
  rw [sz]
  by_cases c : l = m
  · subst c
    rw [List.getElem?_set_self lt] at q
    cases q
    exact ⟨hl, vs, upd_same, r.fut ft⟩
  · rw [List.getElem?_set_ne c] at q
    have ltm : m < S.length := (List.getElem?_eq_some_iff.mp q).1
    have ne : φ m ≠ φ l := fun z => c (rp.inj l m lt ltm z.symm)
    have ob := rp.ob m o q
    cases o with
    | lst ds => obtain ⟨z, us, e1, r1⟩ := ob; exact ⟨z, us, by rw [upd_ne ne]; exact e1, r1.fut ft⟩
    | fro ds => obtain ⟨zz, z, us, e1, r1⟩ := ob; exact ⟨zz, z, us, by rw [upd_ne ne]; exact e1, r1.fut ft⟩
    | dct ds => obtain ⟨us, e1, r1⟩ := ob; exact ⟨us, by rw [upd_ne ne]; exact e1, r1.fut ft⟩
    | exc c fs =>
      obtain ⟨d, us, e1, e2, r1⟩ := ob
      refine ⟨d, us, by rw [upd_ne ne]; exact e1, ?_, r1.fut ft⟩
      rw [upd_ne (fun z => by rw [z, e] at e2; cases e2)]
      exact e2
/-- x[i] = v of a list -/
def setIn (S : Sto) (l : Nat) (xs : List D) (v i : D) : R Unit := match i with
  | .int k => (match ixN xs.length k with
    | some j => .ok () (S.set l (.lst (xs.set j v)))
    | none => .bad)
  | _ => .bad
def setAt (S : Sto) (l : Nat) (i v : D) : Option Ob → R Unit
  | some (.lst xs) => setIn S l xs v i
  | _ => .bad
def setIdx (o i v : D) (S : Sto) : R Unit := match o with
  | .ref l => setAt S l i v S[l]?
  | _ => .bad
end
end DL
end
section
set_option Elab.async false
set_option linter.all false
set_option maxRecDepth 100000
set_option maxHeartbeats 1000000
/-! DL7: stores, assignments, loops -/
namespace DL
open PySem PySem.Spec PyProof.Rows L2

section
variable {G : Gs} {W : WX} {X : Cx}
abbrev RelU : Rl Unit Unit := fun _ _ _ _ _ _ => True
/-- a store by values -/
def RDs (G : Gs) (f : D → D → D → Sto → R Unit) : TSet := fun o i v H Q => ∃ φ S x y z, Rep G H φ S ∧ RelD G.K H φ S.length x o ∧ RelD G.K H φ S.length y i ∧ RelD G.K H φ S.length z v ∧ Post RelU G (fun _ _ _ _ => False) φ S.length H (f x y z S) (fun _ H' => Q H')
theorem setIdx_nx (o i v : D) (S : Sto) : (setIdx o i v S).nx := by
  cases o with
  | ref l =>
    show (setAt S l i v S[l]?).nx
    cases S[l]? with
    | none => exact True.intro
    | some ob =>
      cases ob with
      | lst xs =>
        cases i with
        | int k =>
          show (match ixN xs.length k with
            | some j => R.ok () (S.set l (.lst (xs.set j v)))
            | none => R.bad).nx
          cases ixN xs.length k <;> exact True.intro
        | _ => exact True.intro
      | _ => exact True.intro
  | _ => exact True.intro
theorem rs_set : PSet X (RDs G setIdx) := fun pins s σ H o i v ov iv u Q I ro ri rv ⟨φ, S, x, y, z, rp, hx, hy, hz, h⟩ => by
  cases hx with
  | @ref l hl =>
    replace h : Post RelU G (fun _ _ _ _ => False) φ S.length H (setAt S l y z S[l]?) (fun _ H' => Q H') := h
    cases q : S[l]? with
    | none => rw [q] at h; exact (post_bad h).elim
    | some ob =>
      rw [q] at h
      cases ob with
      | lst xs =>
        cases hy with
        | int k =>
          replace h : Post RelU G (fun _ _ _ _ => False) φ S.length H (match ixN xs.length k with
            | some j => .ok () (S.set l (.lst (xs.set j z)))
            | none => .bad) (fun _ H' => Q H') := h
          cases e : ixN xs.length k with
          | none => rw [e] at h; exact (post_bad h).elim
          | some j =>
            rw [e] at h
            obtain ⟨zl, vs, ea, r⟩ := rp.ob l _ q
            obtain ⟨ft, rp1⟩ := rp.write q (r.set hz j) (by rw [List.length_set]; exact zl)
            exact set_list pins s σ H _ _ v ov iv u Q I ro ri rv ⟨_, vs, k, j, rfl, rfl, ea, by rw [← r.length]; exact e, h φ _ () ft rp1 True.intro⟩
        | _ => exact (post_bad h).elim
      | _ => exact (post_bad h).elim
  | _ => exact (post_bad h).elim
def tSub (fo fi : Den D) (st : D → D → D → Sto → R Unit) : DenG := fun d ρ S => (fo ρ S).bind fun o S1 => (fi ρ S1).bind fun i S2 => (st o i d S2).bind fun _ S3 => .ok ρ S3
theorem dg_sub {o i : Expr} {fo fi : Den D} {st : D → D → D → Sto → R Unit} {pos : Pos} (nx : ∀ o i v S, (st o i v S).nx) (hs : PSet X (RDs G st)) (ho : PE X o (TD G W fo)) (hi : PE X i (TD G W fi))
    (ha : ∀ v, assign (.Subscript o i pos) X.env v = (do
      let ov ← holding [v] (eval o X.env)
      let iv ← holding [v, ov] (eval i X.env)
      standAt pos
      holding [v, ov, iv] (setItem ov iv v)
      release [v, ov, iv] [])) : PG X (.Subscript o i pos) (TDG G W (tSub fo fi st)) :=
  (pg_sub ho hi hs ha).imp fun v σ H Q ⟨φ, S, ρ, d, rp, er, rd, h⟩ => TG.seq rp er h fun φ1 S1 H1 x vo f1 rp1 er1 rx h1 => TG.seq rp1 er1 h1 fun φ2 S2 H2 y vi f2 rp2 er2 ry h2 => by
    refine ⟨φ2, S2, x, y, d, rp2, rx.fut f2, ry, (rd.fut f1).fut f2, ?_⟩
    have nx1 := nx x y d S2
    cases e : st x y d S2 with
    | ok a S3 =>
      rw [e] at h2
      exact fun φ3 H3 _ f3 rp3 _ => post_ok (v := σ) (Post.fut f3 h2) rp3 (er2.fut f3)
    | exc c fs ρ' S3 => rw [e] at nx1; exact nx1.elim
    | bad => rw [e] at h2; exact (post_bad h2).elim
/-- target = value -/
def sAsg (f : Den D) (g : DenG) : DenS := fun ρ S => (f ρ S).bind fun d S1 => (g d ρ S1).bind fun ρ1 S2 => .ok (.nx ρ1) S2
theorem asg_ends {g : DenG} {E : Ends} {φ1 : Nat → Addr} {S1 : Sto} {H1 : Hp} {ρ : Ev} {σ : L2.St} {d : D} {v : V} (rp1 : Rep G H1 φ1 S1) (er1 : EnvR G.K H1 φ1 S1.length ρ σ) (rd : RelD G.K H1 φ1 S1.length d v)
    (h1 : Post RelFl G W φ1 S1.length H1 ((g d ρ S1).bind fun ρ1 S2 => .ok (.nx ρ1) S2) (endsQ E)) : TDG G W g v σ H1 E.nx := by
  refine ⟨φ1, S1, ρ, d, rp1, er1, rd, ?_⟩
  cases e : g d ρ S1 with
  | ok ρ1 S2 =>
    rw [e] at h1
    exact fun φ2 H2 σ2 f2 rp2 er2 => post_ok (v := FlV.nx σ2) (Post.fut f2 h1) rp2 er2
  | exc c fs ρ' S2 => rw [e] at h1; exact h1
  | bad => rw [e] at h1; exact (post_bad h1).elim
theorem ds_asg {tg e : Expr} {f : Den D} {g : DenG} {pos : Pos} (he : PE X e (TD G W f)) (hg : PG X tg (TDG G W g)) (hs : swapsWithSole [tg] e pos.line X.env = pure false) (hw : swappedStores [tg] e X.env = pure none)
    (h1 : (assignEach [tg] X.env).map (·.2) = [assign tg X.env]) : PS X (.Assign [tg] e pos) (TDS G W (sAsg f g)) :=
  (ps_asg he hg hs hw h1).imp fun E σ H ⟨φ, S, ρ, rp, er, h⟩ => TG.seq rp er h fun φ1 S1 H1 d v f1 rp1 er1 rd h1 => asg_ends rp1 er1 rd h1
theorem ds_set {i : Nat} {x : Str} {e : Expr} {f : Den D} {pos pos' : Pos} (hN : X.N.Nodup) (hi : X.N[i]? = some x) (hx : Loc X.env.scope x) (he : PE X e (TD G W f)) (hs : swapsWith e (some (.Name x pos')) pos.line X.env = pure false) (hf : X.fn x = true ∨ X.env.scope.names.lookup x = some .local) :
    PS X (.Assign [.Name x pos'] e pos) (TDS G W (sAsg f (tName i))) :=
  (ps_set hN hi hx he hs hf).imp fun E σ H ⟨φ, S, ρ, rp, er, h⟩ => TG.seq rp er h fun φ1 S1 H1 d v f1 rp1 er1 rd h1 => post_ok (v := FlV.nx (σ.set i (some v))) h1 rp1 (er1.set rd)
/-- a, b = x, y by names -/
def sPar2 (i j : Nat) (fs : Den (List D)) : DenS := fun ρ S => (fs ρ S).bind fun ds S1 => match ds with
  | [a, b] => .ok (.nx ((ρ.set i (some a)).set j (some b))) S1
  | _ => .bad
theorem ds_par2 {i j : Nat} {x y : Str} {a b : Expr} {fs : Den (List D)} {px py pt pos : Pos} {kt k2 pt2} (hc : X.calm = true) (hN : X.N.Nodup) (hi : X.N[i]? = some x) (hj : X.N[j]? = some y) (hij : i ≠ j)
    (hx : X.env.scope.names.lookup x = some .local) (hy : X.env.scope.names.lookup y = some .local) (ha : PA X [a, b] (TDA G W fs))
    (hw : swappedStores [.Tuple [.Name x px, .Name y py] kt pt] (.Tuple [a, b] k2 pt2) X.env = pure (some [x, y])) :
    PS X (.Assign [.Tuple [.Name x px, .Name y py] kt pt] (.Tuple [a, b] k2 pt2) pos) (TDS G W (sPar2 i j fs)) :=
  (ps_par hc hN hi hj hij hx hy ha hw).imp fun E σ H ⟨φ, S, ρ, rp, er, h⟩ => TG.seq rp er h fun φ1 S1 H1 ds vs f1 rp1 er1 rd h1 => by
    cases rd with
    | nil => exact (post_bad h1).elim
    | cons r1 q1 =>
      cases q1 with
      | nil => exact (post_bad h1).elim
      | cons r2 q2 =>
        cases q2 with
        | nil => exact ⟨_, _, rfl, post_ok (Q := endsQ E) (v := FlV.nx _) h1 rp1 ((er1.set r1).set r2)⟩
        | cons _ _ => exact (post_bad h1).elim
def sPar3 (i j l : Nat) (fs : Den (List D)) : DenS := fun ρ S => (fs ρ S).bind fun ds S1 => match ds with
  | [a, b, c] => .ok (.nx (((ρ.set i (some a)).set j (some b)).set l (some c))) S1
  | _ => .bad
/-- name op= e -/
def sAug (i : Nat) (o : Op2) (f : Den D) : DenS := fun ρ S => (fVar i ρ S).bind fun x S0 => (f ρ S0).bind fun y S1 => (o x y S1).bind fun z S2 => .ok (.nx (ρ.set i (some z))) S2
theorem ds_aug {i : Nat} {x : Str} {e : Expr} {f : Den D} {op : Operator} {o : Op2} {pos pos' : Pos} (hN : X.N.Nodup) (hi : X.N[i]? = some x) (hx : Loc X.env.scope x) (he : PE X e (TD G W f)) (nx : NX2 o) (ho : OpR X (inplaceOp op) (RD2 G o)) (hf : X.fn x = true ∨ X.env.scope.names.lookup x = some .local) :
    PS X (.AugAssign (.Name x pos') op e pos) (TDS G W (sAug i o f)) :=
  (ps_aug (ti := RD2 G o) hN hi hx he ho hf).imp fun E σ H ⟨φ, S, ρ, rp, er, h⟩ => by
    replace h : Post RelFl G W φ S.length H ((fVar i ρ S).bind fun x S0 => (f ρ S0).bind fun y S1 => (o x y S1).bind fun z S2 => .ok (.nx (ρ.set i (some z))) S2) (endsQ E) := h
    unfold fVar at h
    cases e1 : ρ[i]? with
    | none => rw [e1] at h; exact (post_bad h).elim
    | some q =>
      cases q with
      | none => rw [e1] at h; exact (post_bad h).elim
      | some d =>
        rw [e1] at h
        obtain ⟨v, h1, h2⟩ := er.at_ i d e1
        refine ⟨v, h1, ?_⟩
        replace h : Post RelFl G W φ S.length H ((f ρ S).bind fun y S1 => (o d y S1).bind fun z S2 => .ok (.nx (ρ.set i (some z))) S2) (endsQ E) := h
        refine TG.seq rp er h fun φ1 S1 H1 y u f1 rp1 er1 ry h1 => ⟨φ1, S1, d, y, rp1, h2.fut f1, ry, ?_⟩
        have nx1 := nx d y S1
        cases e : o d y S1 with
        | ok z S2 =>
          rw [e] at h1
          exact fun φ2 H2 w f2 rp2 rz => post_ok (Q := endsQ E) (v := FlV.nx (σ.set i (some w))) (Post.fut f2 h1) rp2 ((er1.fut f2).set rz)
        | exc c fs ρ' S3 => rw [e] at nx1; exact nx1.elim
        | bad => rw [e] at h1; exact (post_bad h1).elim

/-! ### what is walked -/
/-- the items, and what must stay so -/
structure ItD where
  items : List D
  ok : Sto → Prop
def ItR (G : Gs) (φ0 : Nat → Addr) (n0 : Nat) (H0 : Hp) (it : ItD) (J : It) : Prop := ∀ φ S H, Fut G φ0 n0 H0 φ S.length H → Rep G H φ S → it.ok S →
  (∀ i, i < it.items.length → J.go i H) ∧ (∀ i d, it.items[i]? = some d → ∀ x H', J.yld i H x H' → Fut G φ S.length H φ S.length H' ∧ Rep G H' φ S ∧ RelD G.K H' φ S.length d x) ∧ J.stop it.items.length H
def RelIt (G : Gs) : Rl ItD It := fun _ H φ n it J => it.items.length ≤ sizeLine ∧ ItR G φ n H it J
open Classical in
noncomputable def forG (g : DenG) (body : DenS) (ok : Sto → Prop) : List D → DenS
  | [], ρ, S => if ok S then .ok (.nx ρ) S else .bad
  | d :: ds, ρ, S => if ok S then (g d ρ S).bind fun ρ1 S1 => (body ρ1 S1).bind fun f S2 => match f with
      | .nx ρ2 => forG g body ok ds ρ2 S2
      | .cnt ρ2 => forG g body ok ds ρ2 S2
      | .brk ρ2 => .ok (.nx ρ2) S2
      | .ret d => .ok (.ret d) S2
    else .bad
noncomputable def sFor (it : Den ItD) (g : DenG) (body : DenS) : DenS := fun ρ S => (it ρ S).bind fun i S1 => forG g body i.ok i.items ρ S1
abbrev TDI (G : Gs) (W : WX) (f : Den ItD) : TI := TG (RelIt G) G W f
theorem _root_.L2.PI.imp {tg iter : Expr} {t t' : TI} (h : PI X tg iter t) (i : ∀ σ H Q, t' σ H Q → t σ H Q) : PI X tg iter t' := ⟨fun pins s σ H R I hw => h.run pins s σ H R I (i σ H R hw)⟩
theorem ds_for {tg iter : Expr} {body : List Stmt} {it : Den ItD} {g : DenG} {fb : DenS} {pos : Pos} (hp : PassesOwn (model X.prog X.w) X.A X.env X.xe) (hc : X.calm = true) (hi : PI X tg iter (TDI G W it)) (hg : PG X tg (TDG G W g)) (hb : PSs X body (TDS G W fb))
    (hs : ∀ x, foldedSetIterable iter X.env x = pure x) : PS X (.For tg iter body [] pos) (TDS G W (sFor it g fb)) :=
  (ps_for hp hc hi hg hb hs).imp fun E σ H ⟨φ, S, ρ, rp, er, h⟩ => TG.seq rp er h fun φ1 S1 H1 d J f1 rp1 er1 rd h1 => by
    refine ⟨fun i m σ' H' => i ≤ d.items.length ∧ m = d.items.length - i ∧ ∃ φ' S' ρ', Fut G φ1 S1.length H1 φ' S'.length H' ∧ Rep G H' φ' S' ∧ EnvR G.K H' φ' S'.length ρ' σ' ∧ Post RelFl G W φ' S'.length H' (forG g fb d.ok (d.items.drop i) ρ' S') (endsQ E),
      ⟨d.items.length, Nat.zero_le _, rfl, φ1, S1, ρ, Fut.refl, rp1, er1, by simpa using h1⟩, ?_⟩
    rintro i m σ' H' ⟨hi', rfl, φ', S', ρ', ft, rp', er', hq⟩
    by_cases c : i < d.items.length
    · rw [List.drop_eq_getElem_cons c] at hq
      unfold forG at hq
      by_cases k : d.ok S'
      · rw [if_pos k] at hq
        obtain ⟨a1, a2, a3⟩ := rd.2 φ' S' H' ft rp' k
        refine .inr ⟨a1 i c, fun σ'' H'' => ∃ φ'' S'' ρ'', Fut G φ1 S1.length H1 φ'' S''.length H'' ∧ Rep G H'' φ'' S'' ∧ EnvR G.K H'' φ'' S''.length ρ'' σ'' ∧ Post RelFl G W φ'' S''.length H'' (forG g fb d.ok (d.items.drop (i + 1)) ρ'' S'') (endsQ E),
          fun σ'' H'' z => ⟨_, by omega, c, rfl, z⟩, fun x H2 hy => ?_⟩
        obtain ⟨b1, b2, b3⟩ := a2 i _ (List.getElem?_eq_getElem c) x H2 hy
        refine ⟨φ', S', ρ', _, b2, er'.fut b1, b3, ?_⟩
        replace hq := Post.fut b1 hq
        cases e : g d.items[i] ρ' S' with
        | ok ρ1 S2 =>
          rw [e] at hq
          refine fun φ3 H3 σ3 f3 rp3 er3 => TDS.seq rp3 er3 (Post.fut f3 hq) fun φ4 S4 H4 fl v f4 rp4 r4 h4 => ?_
          have ft4 : Fut G φ1 S1.length H1 φ4 S4.length H4 := ((ft.trans b1).trans f3).trans f4
          cases fl with
          | nx ρ4 => cases v with
            | nx σ4 => exact ⟨φ4, S4, ρ4, ft4, rp4, r4, h4⟩
            | _ => exact r4.elim
          | cnt ρ4 => cases v with
            | cnt σ4 => exact ⟨φ4, S4, ρ4, ft4, rp4, r4, h4⟩
            | _ => exact r4.elim
          | brk ρ4 => cases v with
            | brk σ4 => exact post_ok (Q := endsQ E) (v := FlV.nx σ4) h4 rp4 r4
            | _ => exact r4.elim
          | ret d4 => cases v with
            | ret v4 => exact post_ok (Q := endsQ E) (v := FlV.ret v4) h4 rp4 r4
            | _ => exact r4.elim
        | exc c fs ρ' S3 => rw [e] at hq; exact hq
        | bad => rw [e] at hq; exact (post_bad hq).elim
      · rw [if_neg k] at hq
        exact (post_bad hq).elim
    · have e : i = d.items.length := by omega
      subst e
      rw [List.drop_length] at hq
      unfold forG at hq
      by_cases k : d.ok S'
      · rw [if_pos k] at hq
        obtain ⟨a1, a2, a3⟩ := rd.2 φ' S' H' ft rp' k
        exact .inl ⟨a3, post_ok (Q := endsQ E) (v := FlV.nx σ') hq rp' er'⟩
      · rw [if_neg k] at hq
        exact (post_bad hq).elim

/-! ### while -/
def whileN (c : Den Bool) (b : DenS) : Nat → DenS
  | 0, _, _ => .bad
  | n + 1, ρ, S => (c ρ S).bind fun k S1 => if k = true then (b ρ S1).bind fun f S2 => match f with
      | .nx ρ2 => whileN c b n ρ2 S2
      | .cnt ρ2 => whileN c b n ρ2 S2
      | .brk ρ2 => .ok (.nx ρ2) S2
      | .ret d => .ok (.ret d) S2
    else .ok (.nx ρ) S1
open Classical in
noncomputable def sWhile (c : Den Bool) (b : DenS) : DenS := fun ρ S => if h : ∃ n, whileN c b n ρ S ≠ .bad then whileN c b (Classical.choose h) ρ S else .bad
theorem ds_while {c : Expr} {body : List Stmt} {fc : Den Bool} {fb : DenS} {pos : Pos} (hp : PassesOwn (model X.prog X.w) X.A X.env X.xe) (hc : PT X c (TDB G W fc)) (hb : PSs X body (TDS G W fb)) : PS X (.While c body [] pos) (TDS G W (sWhile fc fb)) :=
  (ps_while hp hc hb).imp fun E σ H ⟨φ, S, ρ, rp, er, h⟩ => by
    unfold sWhile at h
    split at h
    · rename_i hn
      refine ⟨fun m σ' H' => ∃ φ' S' ρ', Rep G H' φ' S' ∧ EnvR G.K H' φ' S'.length ρ' σ' ∧ Post RelFl G W φ' S'.length H' (whileN fc fb m ρ' S') (endsQ E), ⟨_, φ, S, ρ, rp, er, h⟩, ?_⟩
      rintro m σ' H' ⟨φ', S', ρ', rp', er', hq⟩
      cases m with
      | zero => exact (post_bad hq).elim
      | succ m =>
        refine TG.seq (g := fun k S1 => if k = true then (fb ρ' S1).bind fun f S2 => match f with
            | .nx ρ2 => whileN fc fb m ρ2 S2
            | .cnt ρ2 => whileN fc fb m ρ2 S2
            | .brk ρ2 => .ok (.nx ρ2) S2
            | .ret d => .ok (.ret d) S2
          else .ok (.nx ρ') S1) rp' er' hq fun φ1 S1 H1 k v f1 rp1 er1 rd h1 => ?_
        cases rd
        cases k with
        | false =>
          rw [if_neg Bool.false_ne_true]
          exact post_ok (Q := endsQ E) (v := FlV.nx σ') h1 rp1 er1
        | true =>
          rw [if_pos rfl]
          refine ⟨fun σ'' H'' => ∃ φ'' S'' ρ'', Rep G H'' φ'' S'' ∧ EnvR G.K H'' φ'' S''.length ρ'' σ'' ∧ Post RelFl G W φ'' S''.length H'' (whileN fc fb m ρ'' S'') (endsQ E), fun σ'' H'' z => ⟨m, Nat.lt_succ_self m, z⟩, ?_⟩
          refine TDS.seq rp1 er1 h1 fun φ4 S4 H4 fl v f4 rp4 r4 h4 => ?_
          cases fl with
          | nx ρ4 => cases v with
            | nx σ4 => exact ⟨φ4, S4, ρ4, rp4, r4, h4⟩
            | _ => exact r4.elim
          | cnt ρ4 => cases v with
            | cnt σ4 => exact ⟨φ4, S4, ρ4, rp4, r4, h4⟩
            | _ => exact r4.elim
          | brk ρ4 => cases v with
            | brk σ4 => exact post_ok (Q := endsQ E) (v := FlV.nx σ4) h4 rp4 r4
            | _ => exact r4.elim
          | ret d4 => cases v with
            | ret v4 => exact post_ok (Q := endsQ E) (v := FlV.ret v4) h4 rp4 r4
            | _ => exact r4.elim
    · exact (post_bad h).elim
end
end DL
end
section
set_option Elab.async false
set_option linter.all false
set_option maxRecDepth 100000
set_option maxHeartbeats 1000000
/-! DL8: what is walked: lists, tuples, ranges; comprehensions -/
namespace DL
open PySem PySem.Spec PyProof.Rows L2

section
variable {G : Gs} {W : WX} {X : Cx}
theorem _root_.L2.PI.or {tg iter : Expr} {t t' : TI} (h : PI X tg iter t) (h' : PI X tg iter t') : PI X tg iter (fun σ H R => t σ H R ∨ t' σ H R) := ⟨fun pins s σ H R I hw => hw.elim (h.run pins s σ H R I) (h'.run pins s σ H R I)⟩
/-- a list, a tuple -/
def itOf (d : D) (S : Sto) : R ItD := match d with
  | .tup xs => .ok ⟨xs, fun _ => True⟩ S
  | .str z => if z.length ≤ sizeLine then .ok ⟨z.cps.toList.map fun c => .str ⟨#[c]⟩, fun _ => True⟩ S else .bad
  | .ref l => (match S[l]? with
    | some (.lst xs) => .ok ⟨xs, fun S' => S'[l]? = some (.lst xs)⟩ S
    | some (.fro xs) => .ok ⟨xs, fun S' => S'[l]? = some (.fro xs)⟩ S
    | _ => .bad)
  | _ => .bad
def iSeq (f : Den D) : Den ItD := fun ρ S => (f ρ S).bind itOf
theorem itr_tup {φ : Nat → Addr} {n : Nat} {H : Hp} {a : Addr} {xs : List D} {vs : List V} (t : SqT G.K H a vs) (r : RelDs G.K H φ n xs vs) (huniq : True) : ItR G φ n H ⟨xs, fun _ => True⟩ (Itt G.K a) := fun φ' S' H' ft rp' _ => by
  have t' := ft.sqt t
  have r' := r.fut ft
  refine ⟨fun i hi => ?_, fun i d hd x H'' hy => ?_, ?_⟩
  · obtain ⟨y, h1, _⟩ := r'.get (List.getElem?_eq_getElem hi)
    exact ⟨vs, y, t', h1⟩
  · obtain ⟨e, hy⟩ := hy
    subst e
    obtain ⟨y, h1, h2⟩ := r'.get hd
    rw [Option.some.inj ((hy vs t').symm.trans h1)]
    exact ⟨Fut.refl, rp', h2⟩
  · exact ⟨vs, t', by rw [← r.length]; exact Nat.le_refl _⟩
theorem itr_lst {φ : Nat → Addr} {S : Sto} {H : Hp} {l : Nat} {xs : List D} (hl : l < S.length) : ItR G φ S.length H ⟨xs, fun S' => S'[l]? = some (.lst xs)⟩ (Itl G.K (φ l)) := fun φ' S' H' ft rp' ok => by
  obtain ⟨z, vs, e, r⟩ := rp'.ob l _ ok
  rw [ft.fix l hl] at e
  have t : SqL G.K H' (φ l) vs := .of e
  refine ⟨fun i hi => ?_, fun i d hd x H'' hy => ?_, ?_⟩
  · obtain ⟨y, h1, _⟩ := r.get (List.getElem?_eq_getElem hi)
    exact ⟨vs, y, t, h1⟩
  · obtain ⟨e, hy⟩ := hy
    subst e
    obtain ⟨y, h1, h2⟩ := r.get hd
    rw [Option.some.inj ((hy vs t).symm.trans h1)]
    exact ⟨Fut.refl, rp', h2⟩
  · exact ⟨vs, t, by rw [← r.length]; exact Nat.le_refl _⟩
theorem itr_fro {φ : Nat → Addr} {S : Sto} {H : Hp} {l : Nat} {xs : List D} (hl : l < S.length) : ItR G φ S.length H ⟨xs, fun S' => S'[l]? = some (.fro xs)⟩ (Itl G.K (φ l)) := fun φ' S' H' ft rp' ok => by
  obtain ⟨zz, o, vs, e, r⟩ := rp'.ob l _ ok
  rw [ft.fix l hl] at e
  have t : SqL G.K H' (φ l) vs := .inl (.inr ⟨_, e⟩)
  refine ⟨fun i hi => ?_, fun i d hd x H'' hy => ?_, ?_⟩
  · obtain ⟨y, h1, _⟩ := r.get (List.getElem?_eq_getElem hi)
    exact ⟨vs, y, t, h1⟩
  · obtain ⟨e, hy⟩ := hy
    subst e
    obtain ⟨y, h1, h2⟩ := r.get hd
    rw [Option.some.inj ((hy vs t).symm.trans h1)]
    exact ⟨Fut.refl, rp', h2⟩
  · exact ⟨vs, t, by rw [← r.length]; exact Nat.le_refl _⟩
theorem itr_str {φ : Nat → Addr} {n : Nat} {H : Hp} {z : Str} : ItR G φ n H ⟨z.cps.toList.map fun c => .str ⟨#[c]⟩, fun _ => True⟩ (Its z) := fun φ' S' H' ft rp' _ => by
  refine ⟨fun i hi => ?_, fun i d hd x H'' hy => ?_, ?_⟩
  · show i < z.cps.size
    simpa using hi
  · obtain ⟨e, c, hc, hx⟩ := hy
    subst e hx
    rw [List.getElem?_map] at hd
    have hc2 : z.cps.toList[i]? = some c := by simpa using hc
    rw [hc2] at hd
    cases hd
    exact ⟨Fut.refl, rp', .str _⟩
  · show z.cps.size ≤ _
    simp
/-- a part whose result is known -/
theorem TG.of {α β : Type} {T : Rl α β} {f : Den α} {φ : Nat → Addr} {S : Sto} {ρ : Ev} {H : Hp} {σ : L2.St} {Q : β → Hp → Prop} (rp : Rep G H φ S) (er : EnvR G.K H φ S.length ρ σ) (h : Post T G W φ S.length H (f ρ S) Q) : TG T G W f σ H Q := ⟨φ, S, ρ, rp, er, h⟩
theorem di_seq {tg e : Expr} {f : Den D} (hK : X.K = G.K) (he : PE X e (TD G W f)) : PI X tg e (TDI G W (iSeq f)) :=
  (((pi_tup (tg := tg) he).or (pi_list he)).or (pi_str he)).imp fun σ H R ⟨φ, S, ρ, rp, er, h⟩ => by
    replace h : Post (RelIt G) G W φ S.length H ((f ρ S).bind itOf) R := h
    cases e : f ρ S with
    | exc c fs ρ' S1 =>
      rw [e] at h
      exact .inl (.inl (TG.of rp er (by rw [e]; exact h)))
    | bad => rw [e] at h; exact (post_bad h).elim
    | ok d S1 =>
      rw [e] at h
      replace h : Post (RelIt G) G W φ S.length H (itOf d S1) R := h
      cases d with
      | str z =>
        replace h : Post (RelIt G) G W φ S.length H (if z.length ≤ sizeLine then .ok ⟨z.cps.toList.map fun c => .str ⟨#[c]⟩, fun _ => True⟩ S1 else .bad) R := h
        by_cases c : z.length ≤ sizeLine
        · rw [if_pos c] at h
          refine .inr (TG.of rp er ?_)
          rw [e]
          intro φ1 H1 v f1 rp1 rd
          cases rd
          exact ⟨z, rfl, post_ok (Post.fut f1 h) rp1 ⟨by rw [List.length_map]; exact c, itr_str⟩⟩
        · rw [if_neg c] at h
          exact (post_bad h).elim
      | tup xs =>
        refine .inl (.inl (TG.of rp er ?_))
        rw [e]
        intro φ1 H1 v f1 rp1 rd
        cases rd with
        | @tup a _ vs hl t r =>
          exact ⟨a, rfl, ⟨vs, by rw [hK]; exact t⟩, by rw [hK]; exact post_ok (Post.fut f1 h) rp1 ⟨hl, itr_tup t r trivial⟩⟩
      | ref l =>
        refine .inl (.inr (TG.of rp er ?_))
        rw [e]
        intro φ1 H1 v f1 rp1 rd
        cases rd with
        | ref hl =>
          replace h := Post.fut f1 h
          unfold itOf at h
          dsimp only at h
          cases q : S1[l]? with
          | none => simp only [q] at h; exact (post_bad h).elim
          | some o =>
            simp only [q] at h
            cases o with
            | lst xs =>
              obtain ⟨z, vs, ea, r⟩ := rp1.ob l _ q
              exact ⟨_, rfl, ⟨vs, .of ea⟩, by rw [hK]; exact post_ok h rp1 ⟨z, itr_lst hl⟩⟩
            | fro xs =>
              obtain ⟨zz, z, vs, ea, r⟩ := rp1.ob l _ q
              exact ⟨_, rfl, ⟨vs, .inl (.inr ⟨_, ea⟩)⟩, by rw [hK]; exact post_ok h rp1 ⟨zz, itr_fro hl⟩⟩
            | _ => exact (post_bad h).elim
      | _ => exact (post_bad h).elim

/-! ### ranges -/
def rngs (lo c : Int) (n : Nat) : List D := (List.range n).map fun i => .int (lo + (i : Nat) * c)
theorem rngs_len {lo c : Int} {n : Nat} : (rngs lo c n).length = n := by simp [rngs]
theorem rngs_at {lo c : Int} {n i : Nat} {d : D} (h : (rngs lo c n)[i]? = some d) : i < n ∧ d = .int (lo + (i : Nat) * c) := by
  unfold rngs at h
  rw [List.getElem?_map] at h
  obtain ⟨j, h1, h2⟩ := Option.map_eq_some_iff.mp h
  obtain ⟨h3, h4⟩ := List.getElem?_eq_some_iff.mp h1
  rw [List.getElem_range] at h4
  subst h4
  exact ⟨by simpa using h3, h2.symm⟩
def rngIt (lo c : Int) (n : Nat) (S : Sto) : R ItD := if n ≤ 16777216 then .ok ⟨rngs lo c n, fun _ => True⟩ S else .bad
theorem itr_rng {φ : Nat → Addr} {n0 : Nat} {H : Hp} {lo : Int} {n : Nat} : ItR G φ n0 H ⟨rngs lo 1 n, fun _ => True⟩ (Itr lo n) := fun φ' S' H' ft rp' _ =>
  ⟨fun i hi => show i < n by simpa [rngs_len] using hi, fun i d hd x H'' ⟨e, ex⟩ => by
    subst e ex
    obtain ⟨_, e⟩ := rngs_at hd
    subst e
    rw [Int.mul_one]
    exact ⟨Fut.refl, rp', .int _⟩, show n ≤ (rngs lo 1 n).length by rw [rngs_len]; exact Nat.le_refl _⟩
theorem itr_rngC {φ : Nat → Addr} {n0 : Nat} {H : Hp} {lo c : Int} {n : Nat} : ItR G φ n0 H ⟨rngs lo c n, fun _ => True⟩ (Itc lo c n) := fun φ' S' H' ft rp' _ =>
  ⟨fun i hi => show i < n by simpa [rngs_len] using hi, fun i d hd x H'' ⟨e, ex⟩ => by
    subst e ex
    obtain ⟨_, e⟩ := rngs_at hd
    subst e
    exact ⟨Fut.refl, rp', .int _⟩, show n ≤ (rngs lo c n).length by rw [rngs_len]; exact Nat.le_refl _⟩
def rng1 (ds : List D) (S : Sto) : R ItD := match ds with
  | [.int j] => if -(2 ^ 62) ≤ j then rngIt 0 1 j.toNat S else .bad
  | _ => .bad
def rng2 (ds : List D) (S : Sto) : R ItD := match ds with
  | [.int i, .int j] => if -(2 ^ 62) ≤ i ∧ j < 2 ^ 62 ∧ i < 2 ^ 62 ∧ -(2 ^ 62) ≤ j then rngIt i 1 (j - i).toNat S else .bad
  | _ => .bad
def rng3 (ds : List D) (S : Sto) : R ItD := match ds with
  | [.int i, .int j, .int c] => if c ≠ 0 ∧ c.natAbs < 1073741824 ∧ Builtin.Range.small i j c = true ∧ 0 ≤ Builtin.Range.rangeSize i j c then rngIt i c (Builtin.Range.rangeSize i j c).toNat S else .bad
  | _ => .bad
theorem rngIt_ok {lo c : Int} {n : Nat} {S : Sto} {φ : Nat → Addr} {H : Hp} {Q : It → Hp → Prop} (h : Post (RelIt G) G W φ S.length H (rngIt lo c n S) Q) : n ≤ sizeLine ∧ Post (RelIt G) G W φ S.length H (.ok ⟨rngs lo c n, fun _ => True⟩ S) Q := by
  unfold rngIt at h
  by_cases k : n ≤ 16777216
  · rw [if_pos k] at h
    exact ⟨by rw [sizeLine_eq]; exact k, h⟩
  · rw [if_neg k] at h
    exact (post_bad h).elim
def iRng (k : List D → Sto → R ItD) (fs : Den (List D)) : Den ItD := fun ρ S => (fs ρ S).bind k
theorem di_rng1 {tg a : Expr} {fs : Den (List D)} {p pos : Pos} (hg : Gl X "range") (hm : X.mg "range" = none) (ha : PA X [a] (TDA G W fs)) (hs : starEach [a] X.env = [(false, eval a X.env)]) : PI X tg (.Call (.Name "range" p) [a] [] pos) (TDI G W (iRng rng1 fs)) :=
  (pi_range1 hg hm ha hs).imp fun σ H R ⟨φ, S, ρ, rp, er, h⟩ => TG.seq rp er h fun φ1 S1 H1 ds vs f1 rp1 er1 rd h1 => by
    cases rd with
    | nil => exact (post_bad h1).elim
    | cons r q =>
      cases q with
      | cons _ _ => cases r <;> exact (post_bad h1).elim
      | nil =>
        cases r with
        | int j =>
          replace h1 : Post (RelIt G) G W φ1 S1.length H1 (if -(2 ^ 62) ≤ j then rngIt 0 1 j.toNat S1 else .bad) R := h1
          by_cases c : -(2 ^ 62) ≤ j
          · rw [if_pos c] at h1
            obtain ⟨z, h2⟩ := rngIt_ok h1
            have z' := z
            rw [sizeLine_eq] at z'
            exact ⟨j, rfl, c, by omega, post_ok h2 rp1 ⟨by rw [rngs_len]; exact z, itr_rng⟩⟩
          · rw [if_neg c] at h1
            exact (post_bad h1).elim
        | _ => exact (post_bad h1).elim
theorem di_rng2 {tg a b : Expr} {fs : Den (List D)} {p pos : Pos} (hg : Gl X "range") (hm : X.mg "range" = none) (ha : PA X [a, b] (TDA G W fs)) (hs : starEach [a, b] X.env = [(false, eval a X.env), (false, eval b X.env)]) (hs2 : starEach [b] X.env = [(false, eval b X.env)]) : PI X tg (.Call (.Name "range" p) [a, b] [] pos) (TDI G W (iRng rng2 fs)) :=
  (pi_range2 hg hm ha hs hs2).imp fun σ H R ⟨φ, S, ρ, rp, er, h⟩ => TG.seq rp er h fun φ1 S1 H1 ds vs f1 rp1 er1 rd h1 => by
    cases rd with
    | nil => exact (post_bad h1).elim
    | cons r q =>
      cases q with
      | nil => cases r <;> exact (post_bad h1).elim
      | cons r2 q =>
        cases q with
        | cons _ _ => cases r <;> cases r2 <;> exact (post_bad h1).elim
        | nil =>
          cases r with
          | int i =>
            cases r2 with
            | int j =>
              replace h1 : Post (RelIt G) G W φ1 S1.length H1 (if -(2 ^ 62) ≤ i ∧ j < 2 ^ 62 ∧ i < 2 ^ 62 ∧ -(2 ^ 62) ≤ j then rngIt i 1 (j - i).toNat S1 else .bad) R := h1
              by_cases c : -(2 ^ 62) ≤ i ∧ j < 2 ^ 62 ∧ i < 2 ^ 62 ∧ -(2 ^ 62) ≤ j
              · rw [if_pos c] at h1
                obtain ⟨z, h2⟩ := rngIt_ok h1
                exact ⟨i, j, rfl, ⟨c.1, c.2.2.1, c.2.2.2, c.2.1⟩, post_ok h2 rp1 ⟨by rw [rngs_len]; exact z, itr_rng⟩⟩
              · rw [if_neg c] at h1
                exact (post_bad h1).elim
            | _ => exact (post_bad h1).elim
          | _ => cases r2 <;> exact (post_bad h1).elim
theorem di_rng3 {tg a b c : Expr} {fs : Den (List D)} {p pos : Pos} (hg : Gl X "range") (hm : X.mg "range" = none) (ha : PA X [a, b, c] (TDA G W fs)) (hs : starEach [a, b, c] X.env = (false, eval a X.env) :: starEach [b, c] X.env) (hpl : (backTo pos (starEach [b, c] X.env)).any (·.1) = false) : PI X tg (.Call (.Name "range" p) [a, b, c] [] pos) (TDI G W (iRng rng3 fs)) :=
  (pi_range3 hg hm ha hs hpl).imp fun σ H R ⟨φ, S, ρ, rp, er, h⟩ => TG.seq rp er h fun φ1 S1 H1 ds vs f1 rp1 er1 rd h1 => by
    cases rd with
    | nil => exact (post_bad h1).elim
    | cons r q =>
      cases q with
      | nil => cases r <;> exact (post_bad h1).elim
      | cons r2 q =>
        cases q with
        | nil => cases r <;> cases r2 <;> exact (post_bad h1).elim
        | cons r3 q =>
          cases q with
          | cons _ _ => cases r <;> cases r2 <;> cases r3 <;> exact (post_bad h1).elim
          | nil =>
            cases r with
            | int i =>
              cases r2 with
              | int j =>
                cases r3 with
                | int k =>
                  replace h1 : Post (RelIt G) G W φ1 S1.length H1 (if k ≠ 0 ∧ k.natAbs < 1073741824 ∧ Builtin.Range.small i j k = true ∧ 0 ≤ Builtin.Range.rangeSize i j k then rngIt i k (Builtin.Range.rangeSize i j k).toNat S1 else .bad) R := h1
                  by_cases c : k ≠ 0 ∧ k.natAbs < 1073741824 ∧ Builtin.Range.small i j k = true ∧ 0 ≤ Builtin.Range.rangeSize i j k
                  · rw [if_pos c] at h1
                    obtain ⟨z, h2⟩ := rngIt_ok h1
                    exact ⟨i, j, k, _, rfl, ⟨c.1, c.2.1, c.2.2.1, (Int.toNat_of_nonneg c.2.2.2).symm⟩, post_ok h2 rp1 ⟨by rw [rngs_len]; exact z, itr_rngC⟩⟩
                  · rw [if_neg c] at h1
                    exact (post_bad h1).elim
                | _ => exact (post_bad h1).elim
              | _ => cases r3 <;> exact (post_bad h1).elim
            | _ => cases r2 <;> cases r3 <;> exact (post_bad h1).elim

/-! ### comprehensions -/
def wipeD (ρ : Ev) : List Nat → Ev
  | [] => ρ
  | v :: vs => (wipeD ρ vs).set v none
theorem EnvR.wipe {K : PySem.W.Frag} {H : Hp} {φ : Nat → Addr} {n : Nat} {ρ : Ev} {σ : L2.St} (e : EnvR K H φ n ρ σ) : ∀ vs, EnvR K H φ n (wipeD ρ vs) (L2.wipe σ vs)
  | [] => e
  | v :: vs => EnvR.unset (EnvR.wipe e vs)
/-- a target within a comprehension: it stores its own names alone -/
def TDGw (G : Gs) (W : WX) (vs : List Nat) (f : DenG) : L2.TG := fun v σ H Q => ∃ φ S ρ d, Rep G H φ S ∧ EnvR G.K H φ S.length ρ σ ∧ RelD G.K H φ S.length d v ∧
  Post (fun K H φ n ρ' σ' => EnvR K H φ n ρ' σ' ∧ L2.wipe σ' vs = L2.wipe σ vs) G W φ S.length H (f d ρ S) Q
theorem set_set_comm {α : Type} (l : List α) (i j : Nat) (a b : α) (h : i ≠ j) : (l.set i a).set j b = (l.set j b).set i a := List.set_comm _ _ h
theorem wipe_set {σ : L2.St} {i : Nat} {x : Option V} : ∀ {vs : List Nat}, i ∈ vs → L2.wipe (σ.set i x) vs = L2.wipe σ vs
  | v :: vs, h => by
    show (L2.wipe (σ.set i x) vs).set v none = (L2.wipe σ vs).set v none
    by_cases c : i ∈ vs
    · rw [wipe_set c]
    · have e : i = v := by
        rcases List.mem_cons.mp h with e | e
        · exact e
        · exact absurd e c
      subst e
      have key : ∀ ws : List Nat, i ∉ ws → L2.wipe (σ.set i x) ws = (L2.wipe σ ws).set i x := fun ws => by
        induction ws with
        | nil => intro _; rfl
        | cons w ws ih =>
          intro hn
          show (L2.wipe (σ.set i x) ws).set w none = ((L2.wipe σ ws).set w none).set i x
          rw [ih (fun z => hn (List.mem_cons_of_mem _ z)), set_set_comm _ _ _ _ _ (fun z => hn (by rw [z]; exact List.mem_cons_self))]
      rw [key vs c, List.set_set]
theorem dgw_name {vs : List Nat} {i : Nat} {x : Str} {pos : Pos} (hN : X.N.Nodup) (hi : X.N[i]? = some x) (hx : Loc X.env.scope x) (hf : X.fn x = true ∨ X.env.scope.names.lookup x = some .local) (hv : i ∈ vs) : PG X (.Name x pos) (TDGw G W vs (tName i)) :=
  (pg_name hN hi hx hf).imp fun v σ H Q ⟨φ, S, ρ, d, rp, er, rd, h⟩ => post_ok (v := σ.set i (some v)) h rp ⟨er.set rd, wipe_set hv⟩
def TDGsw (G : Gs) (W : WX) (ws : List Nat) (f : List D → Den Ev) : TGs := fun vs σ H Q => ∃ φ S ρ ds, Rep G H φ S ∧ EnvR G.K H φ S.length ρ σ ∧ RelDs G.K H φ S.length ds vs ∧
  Post (fun K H φ n ρ' σ' => EnvR K H φ n ρ' σ' ∧ L2.wipe σ' ws = L2.wipe σ ws) G W φ S.length H (f ds ρ S) Q
theorem dgws_nil {ws : List Nat} : PGs X [] (TDGsw G W ws tNil) := pgs_nil.imp fun v σ H Q ⟨φ, S, ρ, ds, rp, er, rd, h⟩ => by
  cases rd with
  | nil => exact ⟨rfl, post_ok (v := σ) h rp ⟨er, rfl⟩⟩
  | cons _ _ => exact (post_bad h).elim
theorem dgws_cons {ws : List Nat} {e : Expr} {es : List Expr} {t : DenG} {u : List D → Den Ev} (h1 : PG X e (TDGw G W ws t)) (h2 : PGs X es (TDGsw G W ws u)) (hs : (assignEach (e :: es) X.env).map (·.2) = assign e X.env :: (assignEach es X.env).map (·.2)) : PGs X (e :: es) (TDGsw G W ws (tCons t u)) :=
  (pgs_cons h1 h2 hs).imp fun vs σ H Q ⟨φ, S, ρ, ds, rp, er, rd, h⟩ => by
    cases rd with
    | nil => exact (post_bad h).elim
    | @cons d v ds vs r rs =>
      refine ⟨v, vs, rfl, φ, S, ρ, d, rp, er, r, ?_⟩
      replace h : Post (fun K H φ n ρ' σ' => EnvR K H φ n ρ' σ' ∧ L2.wipe σ' ws = L2.wipe σ ws) G W φ S.length H ((t d ρ S).bind fun ρ1 S1 => u ds ρ1 S1) Q := h
      cases e : t d ρ S with
      | ok ρ1 S1 =>
        rw [e] at h
        refine fun φ1 H1 σ1 f1 rp1 er1 => ⟨φ1, S1, ρ1, ds, rp1, er1.1, rs.fut f1, ?_⟩
        replace h : Post (fun K H φ n ρ' σ' => EnvR K H φ n ρ' σ' ∧ L2.wipe σ' ws = L2.wipe σ ws) G W φ1 S1.length H1 (u ds ρ1 S1) Q := Post.fut f1 h
        rw [er1.2]
        exact h
      | exc c fs ρ' S1 => rw [e] at h; exact h
      | bad => rw [e] at h; exact h
theorem dgw_tup {ws : List Nat} {es : List Expr} {k : Nat} {u : List D → Den Ev} {n : Nat} {pos : Pos} (hK : X.K = G.K) (hc : X.calm = true) (h : PGs X es (TDGsw G W ws u)) (hn : (assignEach es X.env).length = n) (hst : (assignEach es X.env).findIdx? (·.1) = none) : PG X (.Tuple es k pos) (TDGw G W ws (tTup n u)) :=
  ((pg_tup hc h hn hst).or (pg_lst hc h hn hst)).imp fun v σ H Q ⟨φ, S, ρ, d, rp, er, rd, hq⟩ => by
    unfold tTup at hq
    cases q : seqT d S with
    | none => rw [q] at hq; exact (post_bad hq).elim
    | some ds =>
      rw [q] at hq
      replace hq : Post (fun K H φ n ρ' σ' => EnvR K H φ n ρ' σ' ∧ L2.wipe σ' ws = L2.wipe σ ws) G W φ S.length H (if ds.length = n then u ds ρ S else .bad) Q := hq
      obtain ⟨a, vs, rfl, sq, r⟩ := seqT_at rp rd q
      by_cases c : ds.length = n
      · rw [if_pos c] at hq
        rcases sq with t | t
        · exact .inl ⟨a, vs, rfl, by rw [hK]; exact t, by rw [← r.length]; exact c, φ, S, ρ, ds, rp, er, r, hq⟩
        · exact .inr ⟨a, vs, rfl, by rw [hK]; exact t, by rw [← r.length]; exact c, φ, S, ρ, ds, rp, er, r, hq⟩
      · rw [if_neg c] at hq
        exact (post_bad hq).elim
/-- no exception: what raises is not told -/
def R.strict {α : Type} : R α → R α
  | .exc _ _ _ _ => .bad
  | r => r
@[simp] theorem R.strict_ok {α : Type} (a : α) (S : Sto) : (R.ok a S).strict = .ok a S := rfl
open Classical in
/-- the items that a comprehension makes -/
noncomputable def lcG (g : DenG) (tt : Den Bool) (te : Den D) (ok : Sto → Prop) (ρ : Ev) : List D → List D → Sto → R (List D)
  | [], acc, S => if ok S then .ok acc S else .bad
  | d :: ds, acc, S => if ok S then (g d ρ S).strict.bind fun ρ2 S2 => (tt ρ2 S2).strict.bind fun b S3 => if b = true then (te ρ2 S3).strict.bind fun y S4 => lcG g tt te ok ρ ds (acc ++ [y]) S4 else lcG g tt te ok ρ ds acc S3
    else .bad
noncomputable def fLc (it : Den ItD) (g : DenG) (tt : Den Bool) (te : Den D) (vs : List Nat) : Den D := fun ρ S => (it ρ S).bind fun i S1 => (lcG g tt te i.ok (wipeD ρ vs) i.items [] S1).bind mkLst
abbrev W0 : WX := fun _ _ _ _ => False
theorem takes0 {X : Cx} : Takes X W0 := fun u s' ⟨_, _, _, _, _, _, _, _, _, _, _, _, _, _, _, _, h⟩ => h.elim
theorem ObR.mono {φ φ' : Nat → Addr} {n n' : Nat} {H : Hp} {a : Addr} {o : Ob} (f : Fix φ n H φ' n' H) (h : ObR G H φ n a o) : ObR G H φ' n' a o := by
  cases o with
  | lst ds => obtain ⟨z, vs, e, r⟩ := h; exact ⟨z, vs, e, r.mono f⟩
  | fro ds => obtain ⟨z, o, vs, e, r⟩ := h; exact ⟨z, o, vs, e, r.mono f⟩
  | dct ds => obtain ⟨vs, e, r⟩ := h; exact ⟨vs, e, r.mono f⟩
  | exc c fs => obtain ⟨d, vs, e, e2, r⟩ := h; exact ⟨d, vs, e, e2, r.mono f⟩
def plusAt (φ : Nat → Addr) (n : Nat) (p : Addr) : Nat → Addr := fun l => if l = n then p else φ l
theorem plusAt_lt {φ : Nat → Addr} {n l : Nat} {p : Addr} (h : l < n) : plusAt φ n p l = φ l := if_neg (Nat.ne_of_lt h)
theorem plusAt_at {φ : Nat → Addr} {n : Nat} {p : Addr} : plusAt φ n p n = p := if_pos rfl
/-- an object that has no number gets one -/
theorem Rep.number {φ : Nat → Addr} {H : Hp} {S : Sto} {p : Addr} {vs : List V} {ds : List D} (rp : Rep G H φ S) (hp : H p = some (.lst vs)) (hn : ∀ l, l < S.length → φ l ≠ p) (r : RelDs G.K H φ S.length ds vs) (hl : ds.length ≤ sizeLine) :
    Rep G H (plusAt φ S.length p) (S ++ [.lst ds]) ∧ ∀ {φ0 : Nat → Addr} {n0 : Nat} {H0 : Hp}, Fut G φ0 n0 H0 φ S.length H → H0 p = none → Fut G φ0 n0 H0 (plusAt φ S.length p) (S ++ [Ob.lst ds]).length H := by
  have sz : (S ++ [Ob.lst ds]).length = S.length + 1 := by simp
  have fx : Fix φ S.length H (plusAt φ S.length p) (S.length + 1) H := ⟨Nat.le_succ _, fun l h => plusAt_lt h, fun _ _ h => h, fun _ _ _ h => h⟩
  rw [sz]
  refine ⟨⟨rp.sys, fun l m h1 h2 e => ?_, fun l o e => ?_⟩, fun {φ0 n0 H0} ft h0 => ⟨Nat.le_trans ft.le (Nat.le_succ _), fun l h => (plusAt_lt (Nat.lt_of_lt_of_le h ft.le)).trans (ft.fix l h), ft.tups, ft.frzs, ft.keep, ft.there, fun l h1 h2 => ?_⟩⟩
  · rw [sz] at h1 h2
    by_cases c1 : l = S.length <;> by_cases c2 : m = S.length
    · rw [c1, c2]
    · rw [c1, plusAt_at, plusAt_lt (by omega)] at e
      exact absurd e.symm (hn m (by omega))
    · rw [c2, plusAt_at, plusAt_lt (by omega)] at e
      exact absurd e (hn l (by omega))
    · rw [plusAt_lt (by omega), plusAt_lt (by omega)] at e
      exact rp.inj l m (by omega) (by omega) e
  · rw [sz]
    by_cases c1 : l = S.length
    · subst c1
      have e2 : Ob.lst ds = o := by simpa using e
      subst e2
      rw [plusAt_at]
      exact ⟨hl, vs, hp, r.mono fx⟩
    · have lt : l < S.length := by
        have := (List.getElem?_eq_some_iff.mp e).1
        rw [sz] at this
        omega
      have e2 : S[l]? = some o := by rwa [List.getElem?_append_left lt] at e
      rw [plusAt_lt lt]
      exact (rp.ob l o e2).mono fx
  · by_cases c1 : l = S.length
    · rw [c1, plusAt_at]
      exact h0
    · rw [plusAt_lt (by omega)]
      exact ft.new l h1 (by omega)
theorem TG.seqN {α β α' β' : Type} {T : Rl α β} {T' : Rl α' β'} {fa : Den α} {φ : Nat → Addr} {H : Hp} {σ : L2.St} {g : α → Sto → R α'} {ρ : Ev} {S : Sto} {Q : β' → Hp → Prop} {Q1 : β → Hp → Prop}
    (rp : Rep G H φ S) (er : EnvR G.K H φ S.length ρ σ) (h : Post T' G W φ S.length H ((fa ρ S).strict.bind g) Q)
    (k : ∀ φ1 S1 H1 d v, Fut G φ S.length H φ1 S1.length H1 → Rep G H1 φ1 S1 → EnvR G.K H1 φ1 S1.length ρ σ → T G.K H1 φ1 S1.length d v → Post T' G W φ1 S1.length H1 (g d S1) Q → Q1 v H1) : TG T G W0 fa σ H Q1 := by
  refine ⟨φ, S, ρ, rp, er, ?_⟩
  cases e : fa ρ S with
  | ok d S1 =>
    rw [e] at h
    exact fun φ1 H1 v f1 rp1 rd => k φ1 S1 H1 d v f1 rp1 (er.fut f1) rd (Post.fut f1 h)
  | exc c fs ρ' S1 =>
    rw [e] at h
    exact (post_bad h).elim
  | bad =>
    rw [e] at h
    exact (post_bad h).elim
theorem wipe_set_same {σ : L2.St} (v : Nat) : ∀ vs : List Nat, L2.wipe (σ.set v none) vs = (L2.wipe σ vs).set v none
  | [] => rfl
  | w :: vs => by
    show (L2.wipe (σ.set v none) vs).set w none = ((L2.wipe σ vs).set w none).set v none
    rw [wipe_set_same v vs]
    by_cases c : v = w
    · rw [c]
    · exact List.set_comm _ _ c
theorem wipe_wipe {σ : L2.St} : ∀ vs : List Nat, L2.wipe (L2.wipe σ vs) vs = L2.wipe σ vs
  | [] => rfl
  | v :: vs => by
    show (L2.wipe ((L2.wipe σ vs).set v none) vs).set v none = (L2.wipe σ vs).set v none
    rw [wipe_set_same, wipe_wipe vs, List.set_set]
theorem Rep.put {φ : Nat → Addr} {H : Hp} {S : Sto} {p : Addr} {xs ys : List V} (rp : Rep G H φ S) (hp : H p = some (.lst xs)) (hn : ∀ l, l < S.length → φ l ≠ p) : Rep G (upd H p (.lst ys)) φ S ∧ Fix φ S.length H φ S.length (upd H p (.lst ys)) := by
  have fx : Fix φ S.length H φ S.length (upd H p (.lst ys)) := ⟨Nat.le_refl _, fun _ _ => rfl, fun a vs h => by rw [upd_ne (fun z => by rw [z, hp] at h; cases h)]; exact h, fun a o u h => by rw [upd_ne (fun z => by rw [z, hp] at h; cases h)]; exact h⟩
  refine ⟨⟨rp.sys.upd fun _ _ z => by (rw [hp] at z; cases z), rp.inj, fun l o e => ?_⟩, fx⟩
  have lt : l < S.length := (List.getElem?_eq_some_iff.mp e).1
  have ne := hn l lt
  have ob := rp.ob l o e
  cases o with
  | lst ds => obtain ⟨z, us, e1, r1⟩ := ob; exact ⟨z, us, by rw [upd_ne ne]; exact e1, r1.mono fx⟩
  | fro ds => obtain ⟨zz, z, us, e1, r1⟩ := ob; exact ⟨zz, z, us, by rw [upd_ne ne]; exact e1, r1.mono fx⟩
  | dct ds => obtain ⟨us, e1, r1⟩ := ob; exact ⟨us, by rw [upd_ne ne]; exact e1, r1.mono fx⟩
  | exc c fs =>
    obtain ⟨d, us, e1, e2, r1⟩ := ob
    refine ⟨d, us, by rw [upd_ne ne]; exact e1, ?_, r1.mono fx⟩
    rw [upd_ne (fun z => by rw [z, hp] at e2; cases e2)]
    exact e2
theorem EnvR.mono {K : PySem.W.Frag} {φ φ' : Nat → Addr} {n n' : Nat} {H H' : Hp} {ρ : Ev} {σ : L2.St} (e : EnvR K H φ n ρ σ) (f : Fix φ n H φ' n' H') : EnvR K H' φ' n' ρ σ := ⟨e.len, fun i d h =>
  let ⟨v, h1, h2⟩ := e.at_ i d h
  ⟨v, h1, h2.mono f⟩⟩
/-- the state of a comprehension: its list stands at p, which has no number -/
structure LcSt (G : Gs) (φ1 : Nat → Addr) (n1 : Nat) (H1 : Hp) (p : Addr) (φ : Nat → Addr) (S : Sto) (H : Hp) (acc : List D) (vs : List V) : Prop where
  ft : Fut G φ1 n1 H1 φ S.length H
  rp : Rep G H φ S
  at_ : H p = some (.lst vs)
  no : ∀ l, l < S.length → φ l ≠ p
  rel : RelDs G.K H φ S.length acc vs
theorem LcSt.step {φ1 : Nat → Addr} {n1 : Nat} {H1 : Hp} {p : Addr} {φ φ' : Nat → Addr} {S S' : Sto} {H H' : Hp} {acc : List D} {vs : List V} (c : LcSt G φ1 n1 H1 p φ S H acc vs) (f : Fut G φ S.length H φ' S'.length H') (rp : Rep G H' φ' S') : LcSt G φ1 n1 H1 p φ' S' H' acc vs where
  ft := c.ft.trans f
  rp := rp
  at_ := f.keep _ _ c.at_ c.no
  no := fun l hl z => by
    by_cases k : l < S.length
    · exact c.no l k ((f.fix l k).symm.trans z)
    · have := f.new l (Nat.le_of_not_lt k) hl
      rw [z, c.at_] at this
      cases this
  rel := c.rel.fut f
theorem LcSt.push {φ1 : Nat → Addr} {n1 : Nat} {H1 : Hp} {p : Addr} {φ : Nat → Addr} {S : Sto} {H : Hp} {acc : List D} {vs : List V} {d : D} {v : V} (h1 : H1 p = none) (c : LcSt G φ1 n1 H1 p φ S H acc vs) (r : RelD G.K H φ S.length d v) : LcSt G φ1 n1 H1 p φ S (upd H p (.lst (vs ++ [v]))) (acc ++ [d]) (vs ++ [v]) := by
  obtain ⟨rp1, fx⟩ := c.rp.put (ys := vs ++ [v]) c.at_ c.no
  refine ⟨⟨c.ft.le, c.ft.fix, fun a us h => fx.tups a us (c.ft.tups a us h), fun a o u h => fx.frzs a o u (c.ft.frzs a o u h), fun a u h hn => ?_, fun a h => upd_there a (c.ft.there a h), c.ft.new⟩, rp1, upd_same, c.no, (c.rel.append (.cons r .nil)).mono fx⟩
  rw [upd_ne (fun z => by rw [z, h1] at h; cases h)]
  exact c.ft.keep a u h hn
theorem lc_read {it : Den ItD} {g : DenG} {tt : Den Bool} {te : Den D} {ws : List Nat} {φ : Nat → Addr} {S : Sto} {ρ : Ev} {σ : L2.St} {H : Hp} {Q : VK} (rp : Rep G H φ S) (er : EnvR G.K H φ S.length ρ σ) (h : Post RelD G W φ S.length H (fLc it g tt te ws ρ S) Q) :
    tLc (TDI G W it) (TDGw G W0 ws g) (TDB G W0 tt) (TD G W0 te) ws σ H Q := by
  refine TG.seq rp er h fun φ1 S1 H1 d J f1 rp1 er1 rd h1 p hp => ?_
  have hp1 : ∀ l, l < S1.length → φ1 l ≠ p := fun l hl z => by
    have ob := rp1.ob l _ (List.getElem?_eq_getElem hl)
    rw [z] at ob
    cases q : S1[l] with
    | lst ds => rw [q] at ob; obtain ⟨_, vs, e1, _⟩ := ob; rw [hp] at e1; cases e1
    | fro ds => rw [q] at ob; obtain ⟨_, _, vs, e1, _⟩ := ob; rw [hp] at e1; cases e1
    | dct ds => rw [q] at ob; obtain ⟨vs, e1, _⟩ := ob; rw [hp] at e1; cases e1
    | exc c fs => rw [q] at ob; obtain ⟨_, vs, e1, _⟩ := ob; rw [hp] at e1; cases e1
  have start : LcSt G φ1 S1.length H1 p φ1 S1 (upd H1 p (.lst [])) [] [] := by
    have fx : Fix φ1 S1.length H1 φ1 S1.length (upd H1 p (.lst [])) := ⟨Nat.le_refl _, fun _ _ => rfl, fun a vs h => by rw [upd_ne (fun z => by rw [z, hp] at h; cases h)]; exact h, fun a o u h => by rw [upd_ne (fun z => by rw [z, hp] at h; cases h)]; exact h⟩
    refine ⟨⟨Nat.le_refl _, fun _ _ => rfl, fx.tups, fx.frzs, fun a u h _ => by rw [upd_ne (fun z => by rw [z, hp] at h; cases h)]; exact h, fun a h => upd_there a h, fun l h1 h2 => absurd (Nat.lt_of_lt_of_le h2 h1) (Nat.lt_irrefl _)⟩, ⟨rp1.sys.new hp, rp1.inj, fun l o e => ?_⟩, upd_same, hp1, .nil⟩
    have ob := rp1.ob l o e
    have ne : ∀ {a u}, H1 a = some u → a ≠ p := fun h z => by rw [z, hp] at h; cases h
    cases o with
    | lst ds => obtain ⟨z, us, e1, r1⟩ := ob; exact ⟨z, us, by rw [upd_ne (ne e1)]; exact e1, r1.mono fx⟩
    | fro ds => obtain ⟨zz, z, us, e1, r1⟩ := ob; exact ⟨zz, z, us, by rw [upd_ne (ne e1)]; exact e1, r1.mono fx⟩
    | dct ds => obtain ⟨us, e1, r1⟩ := ob; exact ⟨us, by rw [upd_ne (ne e1)]; exact e1, r1.mono fx⟩
    | exc c fs => obtain ⟨d, us, e1, e2, r1⟩ := ob; exact ⟨d, us, by rw [upd_ne (ne e1)]; exact e1, by rw [upd_ne (ne e2)]; exact e2, r1.mono fx⟩
  refine ⟨fun i m H' => i ≤ d.items.length ∧ m = d.items.length - i ∧ ∃ φ' S' acc vs, LcSt G φ1 S1.length H1 p φ' S' H' acc vs ∧ acc.length ≤ i ∧ EnvR G.K H' φ' S'.length ρ σ ∧ Post RelD G W φ1 S1.length H1 ((lcG g tt te d.ok (wipeD ρ ws) (d.items.drop i) acc S').bind mkLst) Q,
    ⟨d.items.length, Nat.zero_le _, rfl, φ1, S1, [], [], start, Nat.le_refl _, er1.fut start.ft, by simpa using h1⟩, ?_⟩
  rintro i m H' ⟨hi, rfl, φ', S', acc, vs, st, hacc, er', hq⟩
  by_cases c : i < d.items.length
  · rw [List.drop_eq_getElem_cons c] at hq
    unfold lcG at hq
    by_cases k : d.ok S'
    · rw [if_pos k] at hq
      obtain ⟨a1, a2, a3⟩ := rd.2 φ' S' H' st.ft st.rp k
      refine .inr ⟨a1 i c, fun H'' => ∃ φ'' S'' acc vs, LcSt G φ1 S1.length H1 p φ'' S'' H'' acc vs ∧ acc.length ≤ i + 1 ∧ EnvR G.K H'' φ'' S''.length ρ σ ∧ Post RelD G W φ1 S1.length H1 ((lcG g tt te d.ok (wipeD ρ ws) (d.items.drop (i + 1)) acc S'').bind mkLst) Q,
        fun H'' z => ⟨_, by omega, c, rfl, z⟩, fun x H2 hy => ?_⟩
      obtain ⟨b1, b2, b3⟩ := a2 i _ (List.getElem?_eq_getElem c) x H2 hy
      have st2 := st.step b1 b2
      have er2 := er'.fut b1
      refine ⟨φ', S', wipeD ρ ws, _, b2, er2.wipe ws, b3, ?_⟩
      cases e : g d.items[i] (wipeD ρ ws) S' with
      | exc c fs ρ' S3 => rw [e] at hq; exact (post_bad hq).elim
      | bad => rw [e] at hq; exact (post_bad hq).elim
      | ok ρ2 S2 =>
        rw [e] at hq
        intro φ3 H3 σ3 f3 rp3 er3
        have st3 := st2.step f3 rp3
        have ee := er2.fut f3
        refine ⟨er3.2.trans (wipe_wipe ws), φ3, S2, ρ2, rp3, er3.1, ?_⟩
        cases e2 : tt ρ2 S2 with
        | exc c fs ρ' S3 => simp only [R.strict_ok, R.bind_ok, e2] at hq; exact (post_bad hq).elim
        | bad => simp only [R.strict_ok, R.bind_ok, e2] at hq; exact (post_bad hq).elim
        | ok b S3 =>
          simp only [R.strict_ok, R.bind_ok, e2] at hq
          intro φ4 H4 b' f4 rp4 eb
          cases eb
          have st4 := st3.step f4 rp4
          have ee4 := ee.fut f4
          cases b with
          | false =>
            rw [if_neg Bool.false_ne_true] at hq ⊢
            exact ⟨φ4, S3, acc, vs, st4, by omega, ee4, hq⟩
          | true =>
            rw [if_pos rfl] at hq ⊢
            refine ⟨φ4, S3, ρ2, rp4, er3.1.fut f4, ?_⟩
            cases e3 : te ρ2 S3 with
            | exc c fs ρ' S3 => simp only [e3] at hq; exact (post_bad hq).elim
            | bad => simp only [e3] at hq; exact (post_bad hq).elim
            | ok y S4 =>
              simp only [R.strict_ok, R.bind_ok, e3] at hq
              intro φ5 H5 v f5 rp5 ry
              have st5 := st4.step f5 rp5
              have ee5 := ee4.fut f5
              obtain ⟨_, fx⟩ := rp5.put (ys := vs ++ [v]) st5.at_ st5.no
              refine ⟨vs, st5.at_, ?_, φ5, S4, acc ++ [y], vs ++ [v], st5.push hp ry, by rw [List.length_append]; simp; omega, ee5.mono fx, hq⟩
              rw [← st5.rel.length]
              have := rd.1
              omega
    · rw [if_neg k] at hq
      exact (post_bad hq).elim
  · have e : i = d.items.length := by omega
    subst e
    rw [List.drop_length] at hq
    unfold lcG at hq
    by_cases k : d.ok S'
    · rw [if_pos k] at hq
      obtain ⟨a1, a2, a3⟩ := rd.2 φ' S' H' st.ft st.rp k
      refine .inl ⟨a3, ?_⟩
      obtain ⟨rpn, ftn⟩ := st.rp.number st.at_ st.no st.rel (Nat.le_trans hacc rd.1)
      have := hq (plusAt φ' S'.length p) H' (.ref p) (ftn st.ft hp) rpn (by
        have q : RelD G.K H' (plusAt φ' S'.length p) (S' ++ [Ob.lst acc]).length (.ref S'.length) (.ref (plusAt φ' S'.length p S'.length)) := .ref (by simp)
        rw [plusAt_at] at q
        exact q)
      exact this
    · rw [if_neg k] at hq
      exact (post_bad hq).elim
theorem de_lc {elt tg iter : Expr} {ifs : List Expr} {scope : Scope} {own : List (Str × Nat)} {pos : Pos} {it : Den ItD} {g : DenG} {tt : Den Bool} {te : Den D} (hc : X.calm = true) (hN : X.N.Nodup) (hi : PI X tg iter (TDI G W it)) (ok : BlkOk X.N X.env.scope scope own)
    (hg : ∀ (s : Shared) (H : Hp) (C : Addr) (cl : List (Str × Addr)) (fp : List Addr), PG (X.blk s H scope (compEnvC scope cl C X.env) fp) tg (TDGw G W0 (own.map (·.2)) g)) (ht : ∀ (s : Shared) (H : Hp) (C : Addr) (cl : List (Str × Addr)) (fp : List Addr), PTs (X.blk s H scope (compEnvC scope cl C X.env) fp) ifs (TDB G W0 tt))
    (he : ∀ (s : Shared) (H : Hp) (C : Addr) (cl : List (Str × Addr)) (fp : List Addr), PE (X.blk s H scope (compEnvC scope cl C X.env) fp) elt (TD G W0 te)) (hs : ∀ x, foldedSetIterable iter X.env x = pure x) :
    PE X (.ListComp elt [⟨tg, iter, ifs, 0⟩] scope pos) (TD G W (fLc it g tt te (own.map (·.2)))) :=
  (pe_lc hc hN hi ok hg ht he hs).imp fun σ H Q ⟨φ, S, ρ, rp, er, h⟩ => lc_read rp er h
end
end DL
end
section
set_option Elab.async false
set_option linter.all false
set_option maxRecDepth 100000
set_option maxHeartbeats 1000000
/-! DL9: calls of the program's functions -/
namespace DL
open PySem PySem.Spec PyProof.Rows L2

/-- a callee's exception, at the caller's slots -/
def reEv (ρ : Ev) : R D → R D
  | .ok d S => .ok d S
  | .exc c fs _ S => .exc c fs ρ S
  | .bad => .bad
/-- what a body's end means for the caller -/
def strip : R Fl → R D
  | .ok (.nx _) S => .ok .non S
  | .ok (.ret d) S => .ok d S
  | .ok _ _ => .bad
  | .exc c fs ρ S => .exc c fs ρ S
  | .bad => .bad
abbrev Cl := List D → Sto → R D
def fCall (cl : Cl) (fs : Den (List D)) : Den D := fun ρ S => (fs ρ S).bind fun ds S1 => reEv ρ (cl ds S1)
def spD (G : Gs) (n : Nat) (cl : Cl) : Sp := fun vs H Q E => vs.length = n ∧ ∃ φ S ds, Rep G H φ S ∧ RelDs G.K H φ S.length ds vs ∧ Post RelD G (fun c d _ H' => E c d H') φ S.length H (reEv [] (cl ds S)) Q
def entry (n : Nat) (ds : List D) : Ev := ds.map some ++ List.replicate (n - ds.length) none
section
variable {G : Gs} {W : WX} {X : Cx}
theorem post_call {cl : Cl} {φ : Nat → Addr} {S : Sto} {H : Hp} {ρ : Ev} {σ : L2.St} {ds : List D} {vs : List V} {Q : VK} {n : Nat} (hl : vs.length = n) (rp : Rep G H φ S) (er : EnvR G.K H φ S.length ρ σ) (rd : RelDs G.K H φ S.length ds vs)
    (h : Post RelD G W φ S.length H (reEv ρ (cl ds S)) Q) : spD G n cl vs H Q (WE W σ) := by
  refine ⟨hl, φ, S, ds, rp, rd, ?_⟩
  cases e : cl ds S with
  | ok d S1 => rw [e] at h; exact h
  | bad => rw [e] at h; exact (post_bad h).elim
  | exc c fs ρ' S1 =>
    rw [e] at h
    exact fun φ' H' σ' dx vs' ft rp' _ ex rf => h φ' H' σ dx vs' ft rp' (er.fut ft) ex rf
/-- a function's promise: what its meaning gives, the call gives -/
structure FnG (G : Gs) (P : Program) (w : World) (mg : Str → Option Value) (base : Heap) (k : Nat) (f : Addr) (fd : FuncData) (ps : List Str) (cl : Cl) : Prop where
  run : ∀ (A : Around) (outer : List Env) (s : Shared) (H : Hp) (args : Args) (us : List Value) (vs : List V) (Q : VK) (E : XK), Room k A → A.guards = some [] → Env0 P w G.K mg base A outer s H → BindsTo s fd args (ps.zip us) → Vals vs us →
    spD G ps.length cl vs H Q E → codeAny (model P w) A (.call (.ref f) args) (CR (L2.CX P w) outer P w H s Q E) s
section
variable {k : Nat} {f : Addr} {fd : FuncData} {ps : List Str} {cl : Cl} {x : Str} {p pos : Pos} {e : Expr} {es : List Expr} {fs : Den (List D)}
theorem run_g {pins : List (Addr × Obj)} {σ : L2.St} {H : Hp} {s : Shared} {Q : VK} {args : Args} {us : List Value} {vs : List V} (F : FnG G X.prog X.w X.mg X.base k f fd ps cl) (hK : X.K = G.K) (hr : Room k X.A) (hgd : X.A.guards = some []) (hb : BindsTo s fd args (ps.zip us)) (tk : Takes X W)
    (I : Inv X pins σ H s) (r : Vals vs us) (h : spD G ps.length cl vs H Q (WE W σ)) : wpAny (model X.prog X.w) X.A (call (.ref f) args.pos args.kw) (EP X pins σ Q) X.xe s := by
  have e0 : Env0 X.prog X.w G.K X.mg X.base X.A X.stack s H := by
    rw [← hK]
    exact I.env0
  refine wpAny_call (codeAny_mono (F.run X.A X.stack s H args us vs Q (WE W σ) hr hgd e0 hb r h) fun o s' hq => ?_)
  match o, hq with
  | .error u, hq => exact passAt tk σ pins H s u s' I hq
  | .ok (.ret u), hq => exact I.after hq
  | .ok .next, hq => exact False.elim hq
  | .ok .brk, hq => exact False.elim hq
  | .ok .cont, hq => exact False.elim hq
theorem de_call (F : FnG G X.prog X.w X.mg X.base k f fd ps cl) (hK : X.K = G.K) (hr : Room k X.A) (hgd : X.A.guards = some []) (hg : Gl X x) (hm : X.mg x = some (.ref f)) (hk : PySem.W.keepIn X.K (.ref f) = true) (hb : Binds X.K fd ps []) (tk : Takes X W)
    (hn : Len ps.length fs) (ha : PA X (e :: es) (TDA G W fs)) (hdb : (x == ("__debug__" : Str)) = false) (he : starEach (e :: es) X.env = (false, eval e X.env) :: starEach es X.env) (hpl : (backTo pos (starEach es X.env)).any (·.1) = false) :
    PE X (.Call (.Name x p) (e :: es) [] pos) (TD G W (fCall cl fs)) := by
  refine ⟨fun pins s σ H Q I ⟨φ, S, ρ, rp, er, h⟩ => ?_⟩
  refine wpAny_Call_Name_kw (ld_glob I hg hm ?_ hdb)
  refine PySem.W.callWith_K (h₀ := X.base) I.ok.mod.kin hk (thn (ha.run pos pins s σ H (fun vs H1 => spD G ps.length cl vs H1 Q (WE W σ)) I (TG.seqL hn rp er h fun φ1 S1 H1 ds vs f1 rp1 er1 rd hl h1 => post_call (by rw [← rd.length]; exact hl) rp1 er1 rd h1)) fun us s1 ⟨vs, H1, I1, r, q⟩ => ⟨I1.kIn, ?_⟩) he hpl
  have hl : us.length = ps.length := by rw [← r.length]; exact q.1
  have b := hb s1 us I1.kIn (by rw [List.append_nil]; exact hl)
  rw [List.append_nil] at b
  exact run_g (args := ⟨us, []⟩) F hK hr hgd b tk I1 r q
theorem de_call0 (F : FnG G X.prog X.w X.mg X.base k f fd [] cl) (hK : X.K = G.K) (hr : Room k X.A) (hgd : X.A.guards = some []) (hg : Gl X x) (hm : X.mg x = some (.ref f)) (hk : PySem.W.keepIn X.K (.ref f) = true) (hb : Binds X.K fd [] []) (tk : Takes X W)
    (hdb : (x == ("__debug__" : Str)) = false) : PE X (.Call (.Name x p) [] [] pos) (TD G W (fCall cl fNil)) := by
  refine ⟨fun pins s σ H Q I ⟨φ, S, ρ, rp, er, h⟩ => ?_⟩
  refine wpAny_Call_Name_kw (ld_glob I hg hm ?_ hdb)
  exact PySem.W.callWith_K0 I.kIn hk (run_g (args := ⟨[], []⟩) (us := []) F hK hr hgd (hb s [] I.kIn rfl) tk I .nil (post_call rfl rp er .nil h))
/-- a call that leaves the last parameters to their defaults -/
def fCallD (cl : Cl) (ds : List D) (fs : Den (List D)) : Den D := fun ρ S => (fs ρ S).bind fun xs S1 => reEv ρ (cl (xs ++ ds) S1)
theorem de_callD {ds : List D} {dvs : List V} {dus : List Value} {n : Nat} (F : FnG G X.prog X.w X.mg X.base k f fd ps cl) (hK : X.K = G.K) (hr : Room k X.A) (hgd : X.A.guards = some []) (hg : Gl X x) (hm : X.mg x = some (.ref f)) (hk : PySem.W.keepIn X.K (.ref f) = true) (hb : Binds X.K fd ps dus) (hv : Vals dvs dus) (hd : ∀ H φ n, RelDs G.K H φ n ds dvs) (tk : Takes X W)
    (hn : Len n fs) (hl : n + ds.length = ps.length) (ha : PA X (e :: es) (TDA G W fs)) (hdb : (x == ("__debug__" : Str)) = false) (he : starEach (e :: es) X.env = (false, eval e X.env) :: starEach es X.env) (hpl : (backTo pos (starEach es X.env)).any (·.1) = false) :
    PE X (.Call (.Name x p) (e :: es) [] pos) (TD G W (fCallD cl ds fs)) := by
  refine ⟨fun pins s σ H Q I ⟨φ, S, ρ, rp, er, h⟩ => ?_⟩
  refine wpAny_Call_Name_kw (ld_glob I hg hm ?_ hdb)
  have ld : ds.length = dvs.length := (hd H φ 0).length
  refine PySem.W.callWith_K (h₀ := X.base) I.ok.mod.kin hk (thn (ha.run pos pins s σ H (fun vs H1 => spD G ps.length cl (vs ++ dvs) H1 Q (WE W σ)) I (TG.seqL hn rp er h fun φ1 S1 H1 xs vs f1 rp1 er1 rd hl1 h1 => post_call (by rw [List.length_append, ← rd.length, hl1, ← ld]; exact hl) rp1 er1 (rd.append (hd _ _ _)) h1)) fun us s1 ⟨vs, H1, I1, r, q⟩ => ⟨I1.kIn, ?_⟩) he hpl
  have r2 : Vals (vs ++ dvs) (us ++ dus) := r.append hv
  have hl2 : (us ++ dus).length = ps.length := by rw [← r2.length]; exact q.1
  exact run_g (args := ⟨us, []⟩) F hK hr hgd (hb s1 us I1.kIn hl2) tk I1 r2 q
/-! ### keywords -/
/-- by name: the values of ps -/
def byName {α : Type} (l : List (Str × α)) (d : α) : List Str → List α
  | [] => []
  | q :: ps => (l.lookup q).getD d :: byName l d ps
def fCallK (cl : Cl) (ps ks : List Str) (fs fk : Den (List D)) : Den D := fun ρ S => (fs ρ S).bind fun ds S1 => (fk ρ S1).bind fun es S2 => reEv ρ (cl (byName ((ps.zip ds) ++ ks.zip es) .non ps) S2)
end
/-! ### a function's promise -/
theorem EnvR.entry {K : PySem.W.Frag} {H : Hp} {φ : Nat → Addr} {m : Nat} {N : List Str} {ds : List D} {vs : List V} (r : RelDs K H φ m ds vs) : EnvR K H φ m (entry N.length ds) (start N vs) := ⟨by
  unfold DL.entry L2.start
  rw [r.length]
  simp only [List.length_append, List.length_map, List.length_replicate]
  rw [r.length], fun i d h => by
  unfold DL.entry at h
  unfold L2.start
  by_cases hi : i < ds.length
  · rw [List.getElem?_append_left (by simpa using hi), List.getElem?_map] at h
    have e : ds[i]? = some d := by
      cases q : ds[i]? with
      | none => rw [q] at h; cases h
      | some y => rw [q] at h; cases h; rfl
    obtain ⟨v, h1, h2⟩ := r.get e
    exact ⟨v, by rw [List.getElem?_append_left (by rw [List.length_map, ← r.length]; exact hi), List.getElem?_map, h1]; rfl, h2⟩
  · rw [List.getElem?_append_right (by simpa using hi), List.getElem?_replicate] at h
    split at h <;> cases h⟩
/-- what a body must be told of its context -/
def BodyOk (G : Gs) (P : Program) (w : World) (mg : Str → Option Value) (base : Heap) (k : Nat) (N : List Str) (sc : Scope) (body : List Stmt) (fb : DenS) : Prop :=
  ∀ (X : Cx) (W : WX), X.prog = P → X.w = w → X.K = G.K → X.mg = mg → X.base = base → X.N = N → X.env.scope = sc → X.calm = true → (∀ x, X.fn x = true) → Room k X.A → X.A.guards = some [] → Takes X W → PassesOwn (model X.prog X.w) X.A X.env X.xe → X.stack = X.env :: X.outer → X.env.frame = some X.env.locals → PSs X body (TDS G W fb)
theorem fn_ok {P : Program} {w : World} {mg : Str → Option Value} {base : Heap} {x qual : Str} {params : Arguments} {body : List Stmt} {scope : Scope} {f : Addr} {fd : FuncData} {N ps : List Str} {k : Nat} {fb : DenS} {cl : Cl} {dvs : List V} {kvs : List (Str × V)}
    (F : FunD G.K x qual params body scope dvs kvs f fd) (Sc : FnScope N ps scope) (hcl : ∀ ds S, cl ds S = strip (fb (entry N.length ds) S)) (hb : BodyOk G P w mg base k N scope body fb) : FnG G P w mg base (k + 1) f fd ps cl := by
  obtain ⟨oc, od, dV, kV, doc, pm, an, cdv, ct, osl, rfl, lk, hcd, _, _⟩ := F.ex
  refine ⟨fun A outer s H args us vs Q E hr hgd e0 bt r hsp => ?_⟩
  have KX : G.K.In s.heap := e0.mod.kin.keeps fun b o e => (e0.bs b o e).1
  have lim : s.heap.NoLimit := e0.mod.nolimit.keeps fun b o e => (e0.bs b o e).1
  have kinds : ∀ y ∈ ps.zip us, scope.names.lookup y.1 = some .local ∨ (scope.names.lookup y.1 = some .cell ∧ ((cellsFrom (s.heap.objs.size + 1) scope.names []).lookup y.1).isSome = true) := fun y hy => by
    obtain ⟨n, v⟩ := y
    have q := Sc.par n (List.of_mem_zip hy).1
    exact q.elim .inl fun q => .inr ⟨q, PySem.W.cellsFrom_some _ _ _ (.inl q)⟩
  refine codeAny_call_function hr.depth (KX _ _ lk) rfl Sc.co Sc.gen rfl (PySem.W.codeRec_of KX hcd) (bt _ _ _ _ ?_)
  refine wpAny_newFunctionEnv_cells Sc.kind kinds fun env he s1 xc => ?_
  subst he
  refine ⟨lim.keeps xc.toInCall.keep, codeAny_func ?_⟩
  have I : Inv (cxOf (L2.CX P w) P w G.K mg base N qual scope f cdv A outer s H E) [] (L2.start N vs) H s1 := inv_start Sc hr.hd e0 hsp.1 r xc
  obtain ⟨hl, φ, S, ds, rp, rd, h⟩ := hsp
  have hbody := hb (cxOf (L2.CX P w) P w G.K mg base N qual scope f cdv A outer s H E) (fun c d _ H' => E c d H') rfl rfl rfl rfl rfl rfl rfl rfl (fun _ => rfl) (hr.deeper _) hgd (takes_of rfl rfl rfl rfl) (passes_of (K := _) rfl) rfl rfl
  have want : TDS G (fun c d _ H' => E c d H') fb { nx := fun _ H' => Q .non H', rt := Q } (L2.start N vs) H := by
    refine ⟨φ, S, entry N.length ds, rp, EnvR.entry rd, ?_⟩
    rw [hcl] at h
    cases e : fb (entry N.length ds) S with
    | bad => rw [e] at h; exact (post_bad h).elim
    | exc c fs ρ' S1 =>
      rw [e] at h
      exact fun φ' H' σ' dx vs' ft rp' _ ex rf => h φ' H' [] dx vs' ft rp' ⟨rfl, fun i d hd => by simp at hd⟩ ex rf
    | ok fl S1 =>
      rw [e] at h
      cases fl with
      | nx ρ1 =>
        intro φ' H' v ft rp' r
        cases v with
        | nx σ1 => exact h φ' H' .non ft rp' .non
        | ret _ => exact r.elim
        | brk _ => exact r.elim
        | cnt _ => exact r.elim
      | ret d =>
        intro φ' H' v ft rp' r
        cases v with
        | ret v1 => exact h φ' H' v1 ft rp' r
        | nx _ => exact r.elim
        | brk _ => exact r.elim
        | cnt _ => exact r.elim
      | brk ρ1 => exact (post_bad (T := RelD) h).elim
      | cnt ρ1 => exact (post_bad (T := RelD) h).elim
  refine wpAny_mono (hbody.run [] s1 (L2.start N vs) H _ I want) (fun fl s' hs => ?_) fun _ _ hs => hs
  match fl, hs with
  | .ret u, ⟨v, σ', H', J, rv, q⟩ => exact ⟨v, H', J.os, J.bare, J.base, J.hok, rv, q⟩
  | .next, ⟨σ', H', J, q⟩ => exact ⟨V.non, H', J.os, J.bare, J.base, J.hok, (rfl : Value.none = Value.none), q⟩
  | .brk, ⟨_, _, _, q⟩ => exact False.elim q
  | .cont, ⟨_, _, _, q⟩ => exact False.elim q
end
end DL
end
section
set_option Elab.async false
set_option linter.all false
set_option maxRecDepth 100000
set_option maxHeartbeats 1000000
/-! DL10: built-in functions -/
namespace DL
open PySem PySem.Spec PyProof.Rows L2

abbrev Bf := List D → Sto → R D
def RDf (G : Gs) (bf : Bf) : List V → Hp → VK → Prop := fun vs H Q => ∃ φ S ds, Rep G H φ S ∧ RelDs G.K H φ S.length ds vs ∧ Post RelD G (fun _ _ _ _ => False) φ S.length H (bf ds S) Q
def NXf (bf : Bf) : Prop := ∀ ds S, (bf ds S).nx
def fB (bf : Bf) (fs : Den (List D)) : Den D := fun ρ S => (fs ρ S).bind bf
def seqD (S : Sto) : D → Option (List D)
  | .tup xs => some xs
  | .ref l => seqOf S l
  | _ => none
section
variable {G : Gs} {W : WX} {X : Cx}
theorem td_b {bf : Bf} {fs : Den (List D)} (nx : NXf bf) : ∀ σ H Q, TD G W (fB bf fs) σ H Q → tCB (RDf G bf) (TDA G W fs) σ H Q := fun σ H Q ⟨φ, S, ρ, rp, er, h⟩ =>
  TG.seq rp er h fun φ1 S1 H1 ds vs f1 rp1 er1 rd h1 => ⟨φ1, S1, ds, rp1, rd, Post.anyW (nx ds S1) h1⟩
theorem de_b {bf : Bf} {fs : Den (List D)} {x : Str} {id : String} {e : Expr} {es : List Expr} {p pos : Pos} (hc : CallR X (.builtin id) (RDf G bf)) (nx : NXf bf) (hg : Gl X x) (hm : X.mg x = none) (hv : bootBuiltins x = some (.builtin id)) (ha : PA X (e :: es) (TDA G W fs))
    (hn : x ≠ "__name__") (hdb : (x == ("__debug__" : Str)) = false) (he : starEach (e :: es) X.env = (false, eval e X.env) :: starEach es X.env) (hpl : (backTo pos (starEach es X.env)).any (·.1) = false) : PE X (.Call (.Name x p) (e :: es) [] pos) (TD G W (fB bf fs)) :=
  (pe_callB hc hg hm hv ha hn hdb he hpl).imp (td_b nx)
theorem de_ty {bf : Bf} {fs : Den (List D)} {x : Str} {T : String} {e : Expr} {es : List Expr} {p pos : Pos} (hc : CallR X (.type T) (RDf G bf)) (nx : NXf bf) (hg : Gl X x) (hm : X.mg x = none) (hv : bootBuiltins x = some (.type T)) (ha : PA X (e :: es) (TDA G W fs))
    (hn : x ≠ "__name__") (hdb : (x == ("__debug__" : Str)) = false) (he : starEach (e :: es) X.env = (false, eval e X.env) :: starEach es X.env) (hpl : (backTo pos (starEach es X.env)).any (·.1) = false) : PE X (.Call (.Name x p) (e :: es) [] pos) (TD G W (fB bf fs)) :=
  (pe_callTy hc hg hm hv ha hn hdb he hpl).imp (td_b nx)
theorem de_fun {bf : Bf} {fs : Den (List D)} {x : Str} {id : String} {e : Expr} {es : List Expr} {p pos : Pos} (hc : CallR X (.builtin id) (RDf G bf)) (nx : NXf bf) (hg : Gl X x) (hm : X.mg x = some (.builtin id)) (ha : PA X (e :: es) (TDA G W fs))
    (hdb : (x == ("__debug__" : Str)) = false) (he : starEach (e :: es) X.env = (false, eval e X.env) :: starEach es X.env) (hpl : (backTo pos (starEach es X.env)).any (·.1) = false) : PE X (.Call (.Name x p) (e :: es) [] pos) (TD G W (fB bf fs)) :=
  (pe_callBfun hc hg hm ha hdb he hpl).imp (td_b nx)
theorem seqD_at {φ : Nat → Addr} {H : Hp} {S : Sto} {d : D} {v : V} {xs : List D} (rp : Rep G H φ S) (r : RelD G.K H φ S.length d v) (h : seqD S d = some xs) : ∃ a vs, v = .ref a ∧ (SqL G.K H a vs ∨ SqT G.K H a vs) ∧ RelDs G.K H φ S.length xs vs := by
  cases r with
  | tup hl t r =>
    cases h
    exact ⟨_, _, rfl, .inr t, r⟩
  | ref hl =>
    obtain ⟨vs, q, r⟩ := seqOf_at rp h
    exact ⟨_, vs, rfl, .inl q, r⟩
  | _ => cases h
theorem one_rel {φ : Nat → Addr} {n : Nat} {H : Hp} {d : D} {vs : List V} {K : PySem.W.Frag} (r : RelDs K H φ n [d] vs) : ∃ v, vs = [v] ∧ RelD K H φ n d v := by
  cases r with
  | cons h q =>
    cases q
    exact ⟨_, rfl, h⟩
theorem two_rel {φ : Nat → Addr} {n : Nat} {H : Hp} {d e : D} {vs : List V} {K : PySem.W.Frag} (r : RelDs K H φ n [d, e] vs) : ∃ v u, vs = [v, u] ∧ RelD K H φ n d v ∧ RelD K H φ n e u := by
  cases r with
  | cons h q =>
    obtain ⟨u, rfl, hu⟩ := one_rel q
    exact ⟨_, u, rfl, h, hu⟩
/-- one argument -/
def b1 (f : D → Sto → R D) : Bf := fun ds S => match ds with
  | [d] => f d S
  | _ => .bad
def b2 (f : D → D → Sto → R D) : Bf := fun ds S => match ds with
  | [d, e] => f d e S
  | _ => .bad
theorem nx_b1 {f : D → Sto → R D} (h : ∀ d S, (f d S).nx) : NXf (b1 f) := fun ds S => by
  match ds with
  | [] => exact True.intro
  | [d] => exact h d S
  | _ :: _ :: _ => exact True.intro
theorem nx_b2 {f : D → D → Sto → R D} (h : ∀ d e S, (f d e S).nx) : NXf (b2 f) := fun ds S => by
  match ds with
  | [] => exact True.intro
  | [_] => exact True.intro
  | [d, e] => exact h d e S
  | _ :: _ :: _ :: _ => exact True.intro
theorem cr_b1 {g : Value} {f : D → Sto → R D} (h : ∀ (pins : List (Addr × Obj)) (s : Shared) (σ : L2.St) (H : Hp) (v : V) (us : List Value) (Q : VK) (φ : Nat → Addr) (S : Sto) (d : D), Inv X pins σ H s → Vals [v] us → Rep G H φ S → RelD G.K H φ S.length d v →
      Post RelD G (fun _ _ _ _ => False) φ S.length H (f d S) Q → wpAny (model X.prog X.w) X.A (call g us) (EP X pins σ Q) X.xe s) : CallR X g (RDf G (b1 f)) := fun pins s σ H vs us Q I r ⟨φ, S, ds, rp, rd, hq⟩ => by
  match ds, rd with
  | [d], rd =>
    obtain ⟨v, rfl, r1⟩ := one_rel rd
    exact h pins s σ H v us Q φ S d I r rp r1 hq
  | [], _ => exact (post_bad hq).elim
  | _ :: _ :: _, _ => exact (post_bad hq).elim
theorem cr_b2 {g : Value} {f : D → D → Sto → R D} (h : ∀ (pins : List (Addr × Obj)) (s : Shared) (σ : L2.St) (H : Hp) (v u : V) (us : List Value) (Q : VK) (φ : Nat → Addr) (S : Sto) (d e : D), Inv X pins σ H s → Vals [v, u] us → Rep G H φ S → RelD G.K H φ S.length d v → RelD G.K H φ S.length e u →
      Post RelD G (fun _ _ _ _ => False) φ S.length H (f d e S) Q → wpAny (model X.prog X.w) X.A (call g us) (EP X pins σ Q) X.xe s) : CallR X g (RDf G (b2 f)) := fun pins s σ H vs us Q I r ⟨φ, S, ds, rp, rd, hq⟩ => by
  match ds, rd with
  | [d, e], rd =>
    obtain ⟨v, u, rfl, r1, r2⟩ := two_rel rd
    exact h pins s σ H v u us Q φ S d e I r rp r1 r2 hq
  | [], _ => exact (post_bad hq).elim
  | [_], _ => exact (post_bad hq).elim
  | _ :: _ :: _ :: _, _ => exact (post_bad hq).elim

/-! ### len -/
def lenK (S : Sto) : D → Option Nat
  | .str z => if z.length ≤ sizeLine then some z.length else none
  | .tup xs => some xs.length
  | .ref l => match S[l]? with
    | some (.lst xs) => some xs.length
    | some (.fro xs) => some xs.length
    | some (.dct kvs) => some kvs.length
    | _ => none
  | _ => none
def bLen : D → Sto → R D := fun d S => optR (lenK S d) fun n => .ok (.int n) S
theorem nx_len : NXf (b1 bLen) := nx_b1 fun _ _ => optR_nx fun _ => True.intro
theorem RelKs.length {κ : Type} {K : PySem.W.Frag} {H : Hp} {φ : Nat → Addr} {n : Nat} : ∀ {d : List (κ × D)} {v : List (κ × V)}, RelKs K H φ n d v → d.length = v.length
  | _, _, .nil => rfl
  | _, _, .cons _ r => congrArg (· + 1) (RelKs.length r)
theorem cr_len (hK : X.K = G.K) : CallR X (.builtin "len") (RDf G (b1 bLen)) := cr_b1 fun pins s σ H v us Q φ S d I r rp rd h => by
  obtain ⟨n, e, h⟩ := post_opt (o := lenK S d) h
  have q := post_ok h rp (.int _)
  cases rd with
  | str z =>
    replace e : (if z.length ≤ sizeLine then some z.length else none) = some n := e
    by_cases c : z.length ≤ sizeLine
    · rw [if_pos c] at e
      cases e
      exact call_len_str pins s σ H _ us Q I r ⟨z, rfl, c, q⟩
    · rw [if_neg c] at e
      cases e
  | tup hl t rr =>
    cases e
    exact call_len_seq pins s σ H _ us Q I r ⟨_, _, rfl, .inr (by rw [hK]; exact t), by rw [← rr.length]; exact q⟩
  | @ref l hl =>
    unfold lenK at e
    cases k : S[l]? with
    | none => simp [k] at e
    | some o =>
      have ob := rp.ob l o k
      cases o with
      | lst xs =>
        simp only [k] at e
        cases e
        obtain ⟨z, ws, ea, rr⟩ := ob
        exact call_len_seq pins s σ H _ us Q I r ⟨_, ws, rfl, .inl (by rw [hK]; exact .of ea), by rw [← rr.length]; exact q⟩
      | fro xs =>
        simp only [k] at e
        cases e
        obtain ⟨zz, z, ws, ea, rr⟩ := ob
        exact call_len_seq pins s σ H _ us Q I r ⟨_, ws, rfl, .inl (by rw [hK]; exact .inl (.inr ⟨_, ea⟩)), by rw [← rr.length]; exact q⟩
      | dct kvs =>
        simp only [k] at e
        cases e
        obtain ⟨ws, ea, rr⟩ := ob
        exact call_lenD pins s σ H _ us Q I r ⟨_, ws, rfl, ea, by rw [← rr.length]; exact q⟩
      | exc _ _ => simp [k] at e
  | _ => cases e

/-! ### numbers -/
def bAbs : D → Sto → R D := fun d S => match d with
  | .int i => .ok (.int (if i < 0 then -i else i)) S
  | _ => .bad
theorem nx_abs : NXf (b1 bAbs) := nx_b1 fun d _ => by cases d <;> exact True.intro
theorem cr_abs : CallR X (.builtin "abs") (RDf G (b1 bAbs)) := cr_b1 fun pins s σ H v us Q φ S d I r rp rd h => by
  cases rd with
  | int i => exact call_abs pins s σ H _ us Q I r ⟨i, rfl, post_ok h rp (.int _)⟩
  | _ => exact (post_bad h).elim
def bInt : D → Sto → R D := fun d S => match d with
  | .int i => .ok (.int i) S
  | .bl k => .ok (.int (if k = true then 1 else 0)) S
  | .str a => if a.length ≤ 640 then optR (intText? a) fun n => .ok (.int n) S else .bad
  | _ => .bad
theorem nx_int : NXf (b1 bInt) := nx_b1 fun d _ => by
  cases d with
  | str a => exact nx_ite (optR_nx fun _ => True.intro) True.intro
  | _ => exact True.intro
theorem cr_int : CallR X (.type "int") (RDf G (b1 bInt)) := cr_b1 fun pins s σ H v us Q φ S d I r rp rd h => by
  cases rd with
  | int i => exact call_int1 pins s σ H _ us Q I r (.inl ⟨i, rfl, post_ok h rp (.int _)⟩)
  | bl k => exact call_int1 pins s σ H _ us Q I r (.inr ⟨k, rfl, post_ok h rp (.int _)⟩)
  | str a =>
    replace h : Post RelD G (fun _ _ _ _ => False) φ S.length H (if a.length ≤ 640 then optR (intText? a) fun n => .ok (.int n) S else .bad) Q := h
    by_cases c : a.length ≤ 640
    · rw [if_pos c] at h
      obtain ⟨n, e, h⟩ := post_opt h
      exact call_int_str pins s σ H _ us Q I r ⟨a, n, rfl, e, c, post_ok h rp (.int _)⟩
    · rw [if_neg c] at h
      exact (post_bad h).elim
  | _ => exact (post_bad h).elim
def bStr : D → Sto → R D := fun d S => match d with
  | .int i => if i.natAbs.log2 < 1920 then .ok (.str (toString i)) S else .bad
  | .str a => .ok (.str a) S
  | _ => .bad
theorem nx_str : NXf (b1 bStr) := nx_b1 fun d _ => by
  cases d with
  | int a => exact nx_ite True.intro True.intro
  | _ => exact True.intro
theorem cr_str : CallR X (.type "str") (RDf G (b1 bStr)) := cr_b1 fun pins s σ H v us Q φ S d I r rp rd h => by
  cases rd with
  | int i =>
    replace h : Post RelD G (fun _ _ _ _ => False) φ S.length H (if i.natAbs.log2 < 1920 then .ok (.str (toString i)) S else .bad) Q := h
    by_cases c : i.natAbs.log2 < 1920
    · rw [if_pos c] at h
      exact call_str_int pins s σ H _ us Q I r ⟨i, rfl, c, post_ok h rp (.str _)⟩
    · rw [if_neg c] at h
      exact (post_bad h).elim
  | str a => exact SkE.call_str_str pins s σ H _ us Q I r ⟨a, rfl, post_ok h rp (.str _)⟩
  | _ => exact (post_bad h).elim
def bGcd : D → D → Sto → R D := fun d e S => match d, e with
  | .int a, .int b => .ok (.int ((Nat.gcd a.natAbs b.natAbs : Nat) : Int)) S
  | _, _ => .bad
theorem nx_gcd : NXf (b2 bGcd) := nx_b2 fun d e _ => by cases d <;> cases e <;> exact True.intro
theorem cr_gcd : CallR X (.builtin "math.gcd") (RDf G (b2 bGcd)) := cr_b2 fun pins s σ H v u us Q φ S d e I r rp rd re h => by
  cases rd with
  | int a =>
    cases re with
    | int b => exact L2.cr_gcd pins s σ H _ us Q I r ⟨a, b, rfl, post_ok h rp (.int _)⟩
    | _ => exact (post_bad h).elim
  | _ => cases re <;> exact (post_bad h).elim

/-! ### over lists of numbers, of truth values -/
def asInt : D → Option Int
  | .int i => some i
  | _ => none
def asBl : D → Option Bool
  | .bl b => some b
  | _ => none
theorem ints_rel {K : PySem.W.Frag} {H : Hp} {φ : Nat → Addr} {n : Nat} : ∀ {ds : List D} {vs : List V} {ns : List Int}, RelDs K H φ n ds vs → mapO asInt ds = some ns → vs = ns.map V.int
  | _, _, _, .nil, e => by cases e; rfl
  | d :: ds, _, _, .cons h r, e => by
    unfold mapO at e
    cases e1 : asInt d with
    | none => rw [e1] at e; cases e
    | some i =>
      rw [e1] at e
      cases e2 : mapO asInt ds with
      | none => rw [e2] at e; cases e
      | some is =>
        rw [e2] at e
        cases e
        have q := ints_rel r e2
        cases h <;> cases e1
        rw [q]
        rfl
theorem bls_rel {K : PySem.W.Frag} {H : Hp} {φ : Nat → Addr} {n : Nat} : ∀ {ds : List D} {vs : List V} {ns : List Bool}, RelDs K H φ n ds vs → mapO asBl ds = some ns → vs = ns.map V.bl
  | _, _, _, .nil, e => by cases e; rfl
  | d :: ds, _, _, .cons h r, e => by
    unfold mapO at e
    cases e1 : asBl d with
    | none => rw [e1] at e; cases e
    | some i =>
      rw [e1] at e
      cases e2 : mapO asBl ds with
      | none => rw [e2] at e; cases e
      | some is =>
        rw [e2] at e
        cases e
        have q := bls_rel r e2
        cases h <;> cases e1
        rw [q]
        rfl
/-- the items of a list -/
def lsD (S : Sto) : D → Option (List D)
  | .ref l => seqOf S l
  | _ => none
theorem lsD_at {φ : Nat → Addr} {H : Hp} {S : Sto} {d : D} {v : V} {xs : List D} (rp : Rep G H φ S) (r : RelD G.K H φ S.length d v) (h : lsD S d = some xs) : ∃ a vs, v = .ref a ∧ SqL G.K H a vs ∧ RelDs G.K H φ S.length xs vs := by
  cases r with
  | ref hl =>
    obtain ⟨vs, q, r⟩ := seqOf_at rp h
    exact ⟨_, vs, rfl, q, r⟩
  | _ => cases h
def bNums (f : List Int → Option D) : D → Sto → R D := fun d S => optR (lsD S d) fun xs => optR (mapO asInt xs) fun ns => optR (f ns) fun z => .ok z S
def bBls (f : List Bool → D) : D → Sto → R D := fun d S => optR (lsD S d) fun xs => optR (mapO asBl xs) fun ns => .ok (f ns) S
theorem nx_nums {f : List Int → Option D} : NXf (b1 (bNums f)) := nx_b1 fun _ _ => optR_nx fun _ => optR_nx fun _ => optR_nx fun _ => True.intro
theorem nx_bls {f : List Bool → D} : NXf (b1 (bBls f)) := nx_b1 fun _ _ => optR_nx fun _ => optR_nx fun _ => True.intro
def sumF (ns : List Int) : Option D := some (.int ns.sum)
theorem cr_sum1 (hK : X.K = G.K) (hc : X.calm = true) : CallR X (.builtin "sum") (RDf G (b1 (bNums sumF))) := cr_b1 fun pins s σ H v us Q φ S d I r rp rd h => by
  obtain ⟨xs, e1, h⟩ := post_opt (o := lsD S d) h
  obtain ⟨ns, e2, h⟩ := post_opt h
  obtain ⟨z, e3, h⟩ := post_opt h
  cases e3
  obtain ⟨a, vs, rfl, q, rr⟩ := lsD_at rp rd e1
  have e := ints_rel rr e2
  subst e
  exact cr_sum hc pins s σ H _ us Q I r ⟨a, ns, rfl, by rw [hK]; exact q, post_ok h rp (.int _)⟩
def allF (ns : List Bool) : D := .bl (ns.all id)
def anyF (ns : List Bool) : D := .bl (ns.any id)
theorem cr_all1 (hK : X.K = G.K) (hc : X.calm = true) : CallR X (.builtin "all") (RDf G (b1 (bBls allF))) := cr_b1 fun pins s σ H v us Q φ S d I r rp rd h => by
  obtain ⟨xs, e1, h⟩ := post_opt (o := lsD S d) h
  obtain ⟨ns, e2, h⟩ := post_opt h
  obtain ⟨a, vs, rfl, q, rr⟩ := lsD_at rp rd e1
  have e := bls_rel rr e2
  subst e
  exact cr_all hc pins s σ H _ us Q I r ⟨a, ns, rfl, by rw [hK]; exact q, post_ok h rp (.bl _)⟩
theorem cr_any1 (hK : X.K = G.K) (hc : X.calm = true) : CallR X (.builtin "any") (RDf G (b1 (bBls anyF))) := cr_b1 fun pins s σ H v us Q φ S d I r rp rd h => by
  obtain ⟨xs, e1, h⟩ := post_opt (o := lsD S d) h
  obtain ⟨ns, e2, h⟩ := post_opt h
  obtain ⟨a, vs, rfl, q, rr⟩ := lsD_at rp rd e1
  have e := bls_rel rr e2
  subst e
  exact cr_any hc pins s σ H _ us Q I r ⟨a, ns, rfl, by rw [hK]; exact q, post_ok h rp (.bl _)⟩
/-- max, min: of a list of numbers, of two numbers -/
def maxF (ns : List Int) : Option D := match ns with
  | [] => none
  | n :: ns => some (.int (ns.foldl max n))
def minF (ns : List Int) : Option D := match ns with
  | [] => none
  | n :: ns => some (.int (ns.foldl min n))
def b12 (f : D → Sto → R D) (g : D → D → Sto → R D) : Bf := fun ds S => match ds with
  | [d] => f d S
  | [d, e] => g d e S
  | _ => .bad
theorem nx_b12 {f : D → Sto → R D} {g : D → D → Sto → R D} (h : ∀ d S, (f d S).nx) (h2 : ∀ d e S, (g d e S).nx) : NXf (b12 f g) := fun ds S => by
  match ds with
  | [] => exact True.intro
  | [d] => exact h d S
  | [d, e] => exact h2 d e S
  | _ :: _ :: _ :: _ => exact True.intro
theorem cr_b12 {c : Value} {f : D → Sto → R D} {g : D → D → Sto → R D} (h1 : CallR X c (RDf G (b1 f))) (h2 : CallR X c (RDf G (b2 g))) : CallR X c (RDf G (b12 f g)) := fun pins s σ H vs us Q I r ⟨φ, S, ds, rp, rd, hq⟩ => by
  match ds, rd with
  | [d], rd => exact h1 pins s σ H vs us Q I r ⟨φ, S, [d], rp, rd, hq⟩
  | [d, e], rd => exact h2 pins s σ H vs us Q I r ⟨φ, S, [d, e], rp, rd, hq⟩
  | [], _ => exact (post_bad hq).elim
  | _ :: _ :: _ :: _, _ => exact (post_bad hq).elim
def bMax2 : D → D → Sto → R D := fun d e S => match d, e with
  | .int i, .int j => .ok (.int (if j > i then j else i)) S
  | _, _ => .bad
def bMin2 : D → D → Sto → R D := fun d e S => match d, e with
  | .int i, .int j => .ok (.int (if j < i then j else i)) S
  | _, _ => .bad
theorem foldl_max (ns : List Int) (m n : Int) (h1 : m = n ∨ m ∈ ns) (h2 : n ≤ m ∧ ∀ y ∈ ns, y ≤ m) : ns.foldl max n = m := by
  induction ns generalizing n with
  | nil => simp at h1; exact h1.symm
  | cons a as ih =>
    rw [List.foldl_cons]
    have ha := h2.2 a List.mem_cons_self
    refine ih (max n a) ?_ ⟨by omega, fun y hy => h2.2 y (List.mem_cons_of_mem _ hy)⟩
    rcases h1 with e | e
    · left; omega
    · rcases List.mem_cons.mp e with e | e
      · left; omega
      · right; exact e
theorem foldl_min (ns : List Int) (m n : Int) (h1 : m = n ∨ m ∈ ns) (h2 : m ≤ n ∧ ∀ y ∈ ns, m ≤ y) : ns.foldl min n = m := by
  induction ns generalizing n with
  | nil => simp at h1; exact h1.symm
  | cons a as ih =>
    rw [List.foldl_cons]
    have ha := h2.2 a List.mem_cons_self
    refine ih (min n a) ?_ ⟨by omega, fun y hy => h2.2 y (List.mem_cons_of_mem _ hy)⟩
    rcases h1 with e | e
    · left; omega
    · rcases List.mem_cons.mp e with e | e
      · left; omega
      · right; exact e
theorem cr_max1 (hK : X.K = G.K) (hc : X.calm = true) : CallR X (.builtin "max") (RDf G (b1 (bNums maxF))) := cr_b1 fun pins s σ H v us Q φ S d I r rp rd h => by
  obtain ⟨xs, e1, h⟩ := post_opt (o := lsD S d) h
  obtain ⟨ns, e2, h⟩ := post_opt h
  obtain ⟨z, e3, h⟩ := post_opt h
  obtain ⟨a, vs, rfl, q, rr⟩ := lsD_at rp rd e1
  have e := ints_rel rr e2
  subst e
  cases ns with
  | nil => cases e3
  | cons n ns =>
    cases e3
    refine cr_max hc pins s σ H _ us Q I r ⟨a, n :: ns, rfl, by rw [hK]; exact q, Nat.succ_pos _, fun m hm hy => ?_⟩
    rw [foldl_max ns m n (List.mem_cons.mp hm) ⟨hy _ List.mem_cons_self, fun y h => hy _ (List.mem_cons_of_mem _ h)⟩] at h
    exact post_ok h rp (.int _)
theorem cr_min1 (hK : X.K = G.K) (hc : X.calm = true) : CallR X (.builtin "min") (RDf G (b1 (bNums minF))) := cr_b1 fun pins s σ H v us Q φ S d I r rp rd h => by
  obtain ⟨xs, e1, h⟩ := post_opt (o := lsD S d) h
  obtain ⟨ns, e2, h⟩ := post_opt h
  obtain ⟨z, e3, h⟩ := post_opt h
  obtain ⟨a, vs, rfl, q, rr⟩ := lsD_at rp rd e1
  have e := ints_rel rr e2
  subst e
  cases ns with
  | nil => cases e3
  | cons n ns =>
    cases e3
    refine cr_min hc pins s σ H _ us Q I r ⟨a, n :: ns, rfl, by rw [hK]; exact q, Nat.succ_pos _, fun m hm hy => ?_⟩
    rw [foldl_min ns m n (List.mem_cons.mp hm) ⟨hy _ List.mem_cons_self, fun y h => hy _ (List.mem_cons_of_mem _ h)⟩] at h
    exact post_ok h rp (.int _)
theorem cr_max2 (hc : X.calm = true) : CallR X (.builtin "max") (RDf G (b2 bMax2)) := cr_b2 fun pins s σ H v u us Q φ S d e I r rp rd re h => by
  cases rd with
  | int a =>
    cases re with
    | int b => exact call_max2 hc pins s σ H _ us Q I r ⟨a, b, rfl, post_ok h rp (.int _)⟩
    | _ => exact (post_bad h).elim
  | _ => cases re <;> exact (post_bad h).elim
theorem cr_min2 (hc : X.calm = true) : CallR X (.builtin "min") (RDf G (b2 bMin2)) := cr_b2 fun pins s σ H v u us Q φ S d e I r rp rd re h => by
  cases rd with
  | int a =>
    cases re with
    | int b => exact call_min2 hc pins s σ H _ us Q I r ⟨a, b, rfl, post_ok h rp (.int _)⟩
    | _ => exact (post_bad h).elim
  | _ => cases re <;> exact (post_bad h).elim
abbrev bMax : Bf := b12 (bNums maxF) bMax2
abbrev bMin : Bf := b12 (bNums minF) bMin2
theorem nx_max : NXf bMax := nx_b12 (fun _ _ => optR_nx fun _ => optR_nx fun _ => optR_nx fun _ => True.intro) fun d e _ => by cases d <;> cases e <;> exact True.intro
theorem nx_min : NXf bMin := nx_b12 (fun _ _ => optR_nx fun _ => optR_nx fun _ => optR_nx fun _ => True.intro) fun d e _ => by cases d <;> cases e <;> exact True.intro

/-! ### list, tuple -/
def bList : D → Sto → R D := fun d S => optR (seqD S d) fun xs => if xs.length ≤ 16777216 then mkLst xs S else .bad
def mkTup (xs : List D) (S : Sto) : R D := if xs.length ≤ 16777216 then .ok (.tup xs) S else .bad
def bTuple : D → Sto → R D := fun d S => match d with
  | .tup xs => .ok (.tup xs) S
  | d => optR (lsD S d) fun xs => mkTup xs S
theorem nx_list : NXf (b1 bList) := nx_b1 fun _ S => optR_nx fun xs => nx_ite (a := mkLst xs S) True.intro True.intro
theorem nx_tuple : NXf (b1 bTuple) := nx_b1 fun d _ => by
  cases d with
  | tup xs => exact True.intro
  | ref l => exact optR_nx fun xs => nx_ite True.intro True.intro
  | _ => exact True.intro
theorem cr_list (hK : X.K = G.K) : CallR X (.type "list") (RDf G (b1 bList)) := cr_b1 fun pins s σ H v us Q φ S d I r rp rd h => by
  obtain ⟨xs, e1, h⟩ := post_opt (o := seqD S d) h
  obtain ⟨a, vs, rfl, q, rr⟩ := seqD_at rp rd e1
  by_cases c : xs.length ≤ 16777216
  · rw [if_pos c] at h
    exact call_list_of pins s σ H _ us Q I r ⟨a, vs, rfl, by rw [hK]; exact q, fun p hp => post_lst h rp rr (by rw [sizeLine_eq]; exact c) hp⟩
  · rw [if_neg c] at h
    exact (post_bad h).elim
theorem cr_tuple (hK : X.K = G.K) : CallR X (.type "tuple") (RDf G (b1 bTuple)) := cr_b1 fun pins s σ H v us Q φ S d I r rp rd h => by
  cases rd with
  | tup hl t rr => exact call_tuple_of pins s σ H _ us Q I r ⟨_, _, rfl, .inr ⟨by rw [hK]; exact t, post_ok h rp (.tup hl t rr)⟩⟩
  | @ref l hl =>
    obtain ⟨xs, e1, h⟩ := post_opt (o := lsD S (.ref l)) h
    obtain ⟨a, vs, e, q, rr⟩ := lsD_at rp (.ref hl) e1
    cases e
    unfold mkTup at h
    by_cases c : xs.length ≤ 16777216
    · rw [if_pos c] at h
      exact call_tuple_of pins s σ H _ us Q I r ⟨_, vs, rfl, .inl ⟨by rw [hK]; exact q, fun p hp => post_tup h rp rr (by rw [sizeLine_eq]; exact c) hp⟩⟩
    · rw [if_neg c] at h
      exact (post_bad h).elim
  | _ => exact (post_bad h).elim
end
end DL
end
section
set_option Elab.async false
set_option linter.all false
set_option maxRecDepth 100000
set_option maxHeartbeats 1000000
/-! DL11: sorted -/
namespace PySem.W
open PySem PySem.Spec PySem.Calls PyProof.Rows
section
variable {prog : Program} {w : World} {A : Around} {E : Value → Shared → Prop} {s : Shared}
/-- the items of a list or of a tuple, collected -/
theorem dl_collect {l : Addr} {o : Obj} {n : Nat} {vs : List Value} {T : String} {Q : List Value → Shared → Prop} (ho : s.heap.get? l = some o) (hc : o.cls = .type T) (hT : T = "list" ∨ T = "tuple") (hd : o.data = .seq vs.toArray n) (hz : vs.length ≤ sizeLine)
    (h : Q vs { s with heap := (s.heap.push (seqObj "list" #[] 0)).update s.heap.objs.size (Obj.mapSeq (· ++ vs.toArray)) }) : wpAny (model prog w) A (collect (.ref l)) Q E s := by
  unfold collect
  refine wpAny_bind (wpAny_runValue (codeAny_builtin entry_proto_collect' ?_))
  refine wpAny_bind (wpAny_newList (wpAny_pure ⟨Code.quiet_builtin _ (by decide +kernel), codeAny_builtin entry_list_iadd' ?_⟩))
  have hl1 : (s.heap.push (seqObj "list" #[] 0)).get? l = some o := Heap.get?_push_of_some _ ho
  have hn1 : (s.heap.push (seqObj "list" #[] 0)).get? s.heap.objs.size = some (seqObj "list" #[] 0) := Heap.get?_push_size _ rfl
  show wpAny _ _ (Builtin.List.listExtendWith (.ref s.heap.objs.size) (.ref l) (.ref s.heap.objs.size)) _ _ { s with heap := s.heap.push (seqObj "list" #[] 0) }
  unfold Builtin.List.listExtendWith
  refine wpAny_bind (wpAny_typeOf (T := T) ⟨o, hl1, hc⟩ ?_)
  have hif : (Builtin.List.listSameRef (.ref s.heap.objs.size) (.ref l) || Value.type T == .type "list" || Value.type T == .type "tuple") = true := by
    rcases hT with e | e
    · subst e
      rw [show (Value.type "list" == Value.type "list") = true from rfl, Bool.or_true, Bool.true_or]
    · subst e
      rw [show (Value.type "tuple" == Value.type "tuple") = true from rfl, Bool.or_true]
  rw [if_pos hif]
  refine wpAny_bind (listItems_at hl1 hd (wpAny_bind (listItems_at (xs := #[]) (n := 0) hn1 rfl ?_)))
  rw [if_neg (by simp)]
  refine wpAny_bind (listUpdate_at (xs := #[]) (n := 0) hn1 rfl ?_ (Nat.zero_le _) (by simp only [Array.size_append, List.size_toArray]; show 0 + vs.length ≤ _; omega))
  refine wpAny_pure ?_
  refine wpAny_bind (wpAny_load (get?_update_seq hn1 _) ?_)
  have e : ((#[] : Array Value) ++ vs.toArray).toList = vs := by simp
  show wpAny (model prog w) A (pure ((#[] : Array Value) ++ vs.toArray).toList) Q E _
  rw [e]
  exact wpAny_pure h
theorem dl_sorted {β : Type} {l : Addr} {o : Obj} {n : Nat} {vs : List Value} {bs : List β} {enc : β → PyData} {R : Value → β → Prop} {T : String} {Q : Value → Shared → Prop} (ho : s.heap.get? l = some o) (hc : o.cls = .type T) (hT : T = "list" ∨ T = "tuple") (hd : o.data = .seq vs.toArray n) (e : EachIs R vs bs)
    (er : EachIs (fun v b => ∃ as, Reads s.heap v (enc b) as) vs bs) (hal : AllAlike (bs.map enc)) (hk : Sortable (bs.map enc)) (hL : bs.length ≤ sizeLine) (hu : ∀ b, b ∈ bs → A.units + 2 + (enc b).depth < cLine)
    (h : ∀ out, EachIs R out (bs.mergeSort (dataLe false enc)) → Q (.ref (s.heap.objs.size + 1)) { s with heap := sortedAll s.heap vs (List.toArray out) }) : wpAny (model prog w) A (call (.builtin "sorted") [.ref l]) Q E s := by
  have hz : vs.length ≤ sizeLine := by rw [e.length]; exact hL
  have er' := er.mono fun _ _ ⟨as, r⟩ => (⟨as, PyProof.Rows.Reads.keeps (fun _ _ => sorting_copy_old) r⟩ : ∃ as, Reads (sortingHeap (copyHeap s.heap vs) (s.heap.objs.size + 1) vs) _ _ as)
  have St : SortsAt prog w A.in1.in1 { s with heap := sortingHeap (copyHeap s.heap vs) (s.heap.objs.size + 1) vs } _ vs := SortsAt.data (each_map (R := fun v d => ∃ as, Reads (sortingHeap (copyHeap s.heap vs) (s.heap.objs.size + 1) vs) v d as) enc er') hal hk (bound_map hu)
  refine call_function_entry_kw kind_sorted plain_sorted entry_sorted (args_sorted1 _) ?_
  unfold Builtin.«sorted»
  refine wpAny_bind (m := checkCount "sorted" 1 1 _) (wpAny_pure (wpAny_bind (dl_collect ho hc hT hd hz (wpAny_bind (wpAny_newList ?_ hz)))))
  have hs : ((s.heap.push (seqObj "list" #[] 0)).update s.heap.objs.size (Obj.mapSeq (· ++ vs.toArray))).objs.size = s.heap.objs.size + 1 := by rw [Heap.size_update, size_push']
  show wpAny _ _ _ _ _ { s with heap := copyHeap s.heap vs }
  rw [hs]
  refine wpAny_bind (wpAny_holding (wpAny_call_entry_kw slot_list_sort ⟨_, copyHeap_at s.heap vs, rfl⟩ entry_list_sort ?body (args_list_sort _)))
  case body =>
    refine wpAny_mono (list_sort_vals (s := { s with heap := copyHeap s.heap vs }) (P := fun f s' => f = .done (.ret .none) ∧ Q (.ref (s.heap.objs.size + 1)) s') (copyHeap_at s.heap vs) St hz ⟨rfl, h _ (sortVals_data false e er' hal)⟩) (fun f s' hf => ?_) fun _ _ e => e
    obtain ⟨rfl, hq⟩ := hf
    exact ⟨_, rfl, wpAny_pure ⟨_, rfl, hq⟩⟩
end
end PySem.W
namespace DL
open PySem PySem.Spec PyProof.Rows L2
section
variable {G : Gs} {W : WX} {X : Cx}
def alikeB (ps : List PyData) : Bool := ps.all fun a => ps.all fun b => PySem.W.alike a b
def tupB : PyData → Bool
  | .tuple (_ :: _) => true
  | _ => false
def flatB : PyData → Bool
  | .none => false
  | .tuple _ => false
  | _ => true
def sortB (ps : List PyData) : Bool := alikeB ps && (ps.all tupB || ps.all flatB)
theorem sortB_ok {ps : List PyData} (h : sortB ps = true) : PySem.W.AllAlike ps ∧ PySem.W.Sortable ps := by
  unfold sortB alikeB at h
  simp only [Bool.and_eq_true, Bool.or_eq_true, List.all_eq_true] at h
  obtain ⟨h1, h2⟩ := h
  refine ⟨fun d hd e he => h1 d hd e he, ?_⟩
  rcases h2 with h | h
  · refine .inl fun d hd => ?_
    have q := h d hd
    unfold tupB at q
    split at q
    · exact ⟨_, _, rfl⟩
    · cases q
  · refine .inr fun d hd => ?_
    have q := h d hd
    constructor
    · rintro rfl
      cases q
    · rintro xs rfl
      cases q
def dat (S : Sto) (d : D) : PyData := (res S 38 d).getD .none
def sortD (S : Sto) (xs : List D) : List D := xs.mergeSort (PySem.W.dataLe false (dat S))
def bSorted : D → Sto → R D := fun d S => optR (seqD S d) fun xs => optR (mapO (res S 38) xs) fun ps => if sortB ps = true then mkLst (sortD S xs) S else .bad
theorem nx_sorted : NXf (b1 bSorted) := nx_b1 fun _ S => optR_nx fun xs => optR_nx fun ps => nx_ite (a := mkLst (sortD S xs) S) True.intro True.intro
theorem mapO_map {f : D → Option PyData} : ∀ {xs : List D} {ps : List PyData}, mapO f xs = some ps → xs.map (fun d => (f d).getD .none) = ps
  | [], _, e => by cases e; rfl
  | x :: xs, _, e => by
    unfold mapO at e
    cases e1 : f x with
    | none => rw [e1] at e; cases e
    | some y =>
      rw [e1] at e
      cases e2 : mapO f xs with
      | none => rw [e2] at e; cases e
      | some ys =>
        rw [e2] at e
        cases e
        rw [List.map_cons, mapO_map e2, e1]
        rfl
theorem mapO_at {f : D → Option PyData} : ∀ {xs : List D} {ps : List PyData}, mapO f xs = some ps → ∀ d ∈ xs, ∃ p, f d = some p
  | [], _, e, d, hd => by cases hd
  | x :: xs, _, e, d, hd => by
    unfold mapO at e
    cases e1 : f x with
    | none => rw [e1] at e; cases e
    | some y =>
      rw [e1] at e
      cases e2 : mapO f xs with
      | none => rw [e2] at e; cases e
      | some ys =>
        rcases List.mem_cons.mp hd with q | q
        · rw [q]
          exact ⟨y, e1⟩
        · exact mapO_at e2 d q
/-- values that stand for D -/
def SrtR (K : PySem.W.Frag) (H : Hp) (φ : Nat → Addr) (n : Nat) (u : Value) (d : D) : Prop := ∃ v, RelV v u ∧ RelD K H φ n d v
theorem srt_each {K : PySem.W.Frag} {H : Hp} {φ : Nat → Addr} {n : Nat} : ∀ {ds : List D} {vs : List V} {us : List Value}, RelDs K H φ n ds vs → Vals vs us → PySem.W.EachIs (SrtR K H φ n) us ds
  | _, _, _, .nil, .nil => .nil
  | _, _, _, .cons h r, .cons q p => .cons ⟨_, q, h⟩ (srt_each r p)
theorem srt_back {K : PySem.W.Frag} {H : Hp} {φ : Nat → Addr} {n : Nat} : ∀ {us : List Value} {ds : List D}, PySem.W.EachIs (SrtR K H φ n) us ds → ∃ vs, RelDs K H φ n ds vs ∧ Vals vs us
  | _, _, .nil => ⟨[], .nil, .nil⟩
  | _, _, .cons ⟨v, h1, h2⟩ r => by
    obtain ⟨vs, r1, r2⟩ := srt_back r
    exact ⟨v :: vs, .cons h2 r1, .cons h1 r2⟩
theorem srt_reads (hK : X.K = G.K) {pins : List (Addr × Obj)} {s : Shared} {σ : L2.St} {H : Hp} {φ : Nat → Addr} {S : Sto} (I : Inv X pins σ H s) (rp : Rep G H φ S) : ∀ {ds : List D} {vs : List V} {us : List Value}, RelDs G.K H φ S.length ds vs → Vals vs us → (∀ d ∈ ds, ∃ p, res S 38 d = some p) →
    PySem.W.EachIs (fun v b => ∃ as, Reads s.heap v (dat S b) as) us ds
  | _, _, _, .nil, .nil, _ => .nil
  | d :: _, v :: _, u :: _, .cons h r, .cons q p, hp => by
    refine .cons ?_ (srt_reads hK I rp r p fun d hd => hp d (List.mem_cons_of_mem _ hd))
    obtain ⟨z, hz⟩ := hp d List.mem_cons_self
    obtain ⟨a1, a2, a3⟩ := res_dp rp 38 d v z h hz
    rw [← hK] at a1
    obtain ⟨as, ra⟩ := Dp.reads I z v u a1 q
    refine ⟨as, ?_⟩
    unfold dat
    rw [hz]
    exact ra
theorem cr_sorted1 (hK : X.K = G.K) (hu : X.A.units + 65 < cLine) : CallR X (.builtin "sorted") (RDf G (b1 bSorted)) := cr_b1 fun pins s σ H v us Q φ S d I r rp rd h => by
  obtain ⟨xs, e1, h⟩ := post_opt (o := seqD S d) h
  obtain ⟨ps, e2, h⟩ := post_opt h
  obtain ⟨a, vs, rfl, q, rr⟩ := seqD_at rp rd e1
  by_cases c : sortB ps = true
  · rw [if_pos c] at h
    obtain ⟨u, rfl, ru⟩ := vals1 r
    obtain rfl : u = Value.ref a := ru
    obtain ⟨al, so⟩ := sortB_ok c
    rw [← mapO_map e2] at al so
    have at1 := mapO_at e2
    have key : ∀ (its : List Value) (o : Obj) (n : Nat) (T : String), Vals vs its → vs.length ≤ sizeLine → s.heap.get? a = some o → o.cls = .type T → (T = "list" ∨ T = "tuple") → o.data = .seq its.toArray n →
        wpAny (model X.prog X.w) X.A (call (.builtin "sorted") [.ref a]) (EP X pins σ Q) X.xe s := fun its o n T rv hz ho hc hT hd => by
      refine PySem.W.dl_sorted (enc := dat S) (R := SrtR G.K H φ S.length) ho hc hT hd (srt_each rr rv) (srt_reads hK I rp rr rv at1) al so (by rw [rr.length]; exact hz) (fun b hb => ?_) fun out ho => ?_
      · obtain ⟨p, hp⟩ := at1 b hb
        obtain ⟨y, hy⟩ : ∃ y, RelD G.K H φ S.length b y := by
          obtain ⟨i, hi⟩ := List.getElem?_of_mem hb
          obtain ⟨y, _, q⟩ := rr.get hi
          exact ⟨y, q⟩
        have := (res_dp rp 38 b y p hy hp).2.2
        have e : (dat S b) = p := by unfold dat; rw [hp]; rfl
        rw [e]
        omega
      · obtain ⟨ws, r1, r2⟩ := srt_back ho
        obtain ⟨m, hm⟩ := sortedAll_at s.heap its (List.toArray out)
        have hl : (sortD S xs).length ≤ sizeLine := by
          unfold sortD
          rw [List.length_mergeSort, rr.length]
          exact hz
        refine ⟨.ref (s.heap.objs.size + 1), upd H (s.heap.objs.size + 1) (.lst ws), I.laid (t' := s.toks) (fun b u e => sortedAll_old e) (Nat.le_succ _) ⟨by rw [← r1.length]; exact hl, out, m, r2, hm⟩, rfl, ?_⟩
        exact post_lst h rp r1 hl (I.hok.fresh (Nat.le_succ _))
    rcases q with q | q
    · obtain ⟨its, rv, pl, hz⟩ := I.list (by rw [hK]; exact q)
      obtain ⟨o, ho, hc, n, hd⟩ := pl.isList
      exact key its o n _ rv hz ho hc (.inl rfl) hd
    · obtain ⟨its, rv, pl, hz⟩ := I.tuple (by rw [hK]; exact q)
      obtain ⟨o, ho, hc, n, hd⟩ := pl
      exact key its o n _ rv hz ho hc (.inr rfl) hd
  · rw [if_neg c] at h
    exact (post_bad h).elim
end
end DL
end
section
set_option Elab.async false
set_option linter.all false
set_option maxRecDepth 100000
set_option maxHeartbeats 1000000
/-! DL12: chains of comparisons, slices, dict displays, methods -/
namespace DL
open PySem PySem.Spec PyProof.Rows L2
section
variable {G : Gs} {W : WX} {X : Cx}
/-! ### a < b < c -/
def fChain : List (Op2 × Den D) → D → Den D
  | [], _, _, _ => .bad
  | [p], x, ρ, S => (p.2 ρ S).bind fun y S1 => p.1 x y S1
  | p :: q :: r, x, ρ, S => (p.2 ρ S).bind fun y S1 => (p.1 x y S1).bind fun z S2 => match z with
    | .bl true => fChain (q :: r) y ρ S2
    | .bl false => .ok (.bl false) S2
    | _ => .bad
def fCmps (f : Den D) (l : List (Op2 × Den D)) : Den D := fun ρ S => (f ρ S).bind fun x S1 => fChain l x ρ S1
inductive ChOk (G : Gs) (W : WX) (X : Cx) : List CmpOp → List Expr → List (Op2 × Den D) → Prop
  | nil : ChOk G W X [] [] []
  | cons {op : CmpOp} {ops : List CmpOp} {b : Expr} {es : List Expr} {o : Op2} {f : Den D} {l : List (Op2 × Den D)} (ho : OpR X (compareOp op) (RD2 G o)) (nx : NX2 o) (hb : PE X b (TD G W f)) (r : ChOk G W X ops es l) : ChOk G W X (op :: ops) (b :: es) ((o, f) :: l)
theorem ch_run {pos : Pos} : ∀ {l : List (Op2 × Den D)} {ops : List CmpOp} {es : List Expr}, ChOk G W X ops es l → l ≠ [] → ∀ (pins : List (Addr × Obj)) (s : Shared) (σ : L2.St) (H : Hp) (Q : VK) (x : V) (v : Value) (dx : D) (φ : Nat → Addr) (S : Sto) (ρ : Ev), Inv X pins σ H s → RelV x v →
    Rep G H φ S → EnvR G.K H φ S.length ρ σ → RelD G.K H φ S.length dx x → Post RelD G W φ S.length H (fChain l dx ρ S) Q → wpAny (model X.prog X.w) X.A (compareChain pos v ops (evalEach es X.env)) (EP X pins σ Q) X.xe s
  | [], _, _, _, hl => absurd rfl hl
  | [_], _, _, .cons ho nx hb .nil, _ => fun pins s σ H Q x v dx φ S ρ I rx rp er rd h => by
    refine chain_last (thn (hb.run pins s σ H _ I (TG.seq (Q1 := fun y H1 => RD2 G _ x y H1 Q) rp er h fun φ1 S1 H1 y u f1 rp1 er1 ry h1 => ⟨φ1, S1, dx, y, rp1, rd.fut f1, ry, Post.anyW (nx _ _ _) h1⟩)) fun u s1 ⟨y, H1, I1, r1, q1⟩ => ho pins s1 σ H1 x y v u Q I1 rx r1 q1)
  | (o, f) :: p2 :: l, _, _, .cons ho nx hb (.cons ho2 nx2 hb2 r), _ => fun pins s σ H Q x v dx φ S ρ I rx rp er rd h => by
    refine chain_link (thn (hb.run pins s σ H (fun y H1 => RD2 G o x y H1 fun z H2 => ∃ k, z = .bl k ∧ if k = true then ∃ φ2 S2 dy, Rep G H2 φ2 S2 ∧ EnvR G.K H2 φ2 S2.length ρ σ ∧ RelD G.K H2 φ2 S2.length dy y ∧ Post RelD G W φ2 S2.length H2 (fChain (p2 :: l) dy ρ S2) Q else Q (.bl false) H2) I (TG.seq rp er h fun φ1 S1 H1 y u f1 rp1 er1 ry h1 => ?_)) fun u s1 ⟨y, H1, I1, r1, q1⟩ => ?_)
    · refine ⟨φ1, S1, dx, y, rp1, rd.fut f1, ry, ?_⟩
      have n := nx dx y S1
      dsimp only at h1
      cases e : o dx y S1 with
      | exc c fs ρ' S2 => rw [e] at n; exact n.elim
      | bad => rw [e] at h1; exact (post_bad h1).elim
      | ok z S2 =>
        rw [e] at h1
        intro φ2 H2 zv f2 rp2 rz
        replace h1 := Post.fut f2 h1
        cases rz with
        | bl k =>
          refine ⟨k, rfl, ?_⟩
          cases k with
          | true => exact ⟨φ2, S2, y, rp2, er1.fut f2, ry.fut f2, h1⟩
          | false => exact post_ok h1 rp2 (.bl _)
        | _ => exact (post_bad h1).elim
    · refine thn (ho pins s1 σ H1 x y v u _ I1 rx r1 q1) fun c s2 ⟨z, H2, I2, r2, k, ez, q2⟩ => ?_
      subst ez
      cases r2
      refine wpAny_truthy_bool ?_
      cases k with
      | false => exact ite_ff ⟨.bl false, H2, I2, rfl, q2⟩
      | true =>
        obtain ⟨φ2, S2, dy, rp2, er2, rdy, h2⟩ := q2
        exact ite_tt (ch_run (.cons ho2 nx2 hb2 r) (by simp) _ _ _ _ _ _ _ _ _ _ _ I2 r1 rp2 er2 rdy h2)
theorem ch_test {pos : Pos} : ∀ {l : List (Op2 × Den D)} {ops : List CmpOp} {es : List Expr}, ChOk G W X ops es l → l ≠ [] → ∀ (pins : List (Addr × Obj)) (s : Shared) (σ : L2.St) (H : Hp) (Q : Bool → Hp → Prop) (x : V) (v : Value) (dx : D) (φ : Nat → Addr) (S : Sto) (ρ : Ev), Inv X pins σ H s → RelV x v →
    Rep G H φ S → EnvR G.K H φ S.length ρ σ → RelD G.K H φ S.length dx x → Post RelB G W φ S.length H (fBool (fun ρ S => fChain l dx ρ S) ρ S) Q → wpAny (model X.prog X.w) X.A (testChain pos v ops (evalEach es X.env)) (TP X pins σ Q) X.xe s
  | [], _, _, _, hl => absurd rfl hl
  | [(o, f)], _, _, .cons ho nx hb .nil, _ => fun pins s σ H Q x v dx φ S ρ I rx rp er rd h => by
    have h' : Post RelB G W φ S.length H ((f ρ S).bind fun y S1 => (o dx y S1).bind fun d S1 => match d with
        | .bl b => .ok b S1
        | _ => .bad) Q := by
      have e : fBool (fun ρ S => fChain [(o, f)] dx ρ S) ρ S = ((f ρ S).bind fun y S1 => (o dx y S1).bind fun d S1 => match d with
        | .bl b => .ok b S1
        | _ => .bad) := by
        show ((f ρ S).bind fun y S1 => o dx y S1).bind _ = _
        cases f ρ S <;> rfl
      rw [← e]
      exact h
    refine test_last (thn (hb.run pins s σ H (fun y H1 => RD2 G o x y H1 fun z H2 => ∃ k, z = .bl k ∧ Q k H2) I (TG.seq rp er h' fun φ1 S1 H1 y u f1 rp1 er1 ry h1 => ?_)) fun u s1 ⟨y, H1, I1, r1, q1⟩ => ?_)
    · refine ⟨φ1, S1, dx, y, rp1, rd.fut f1, ry, ?_⟩
      have n := nx dx y S1
      cases e : o dx y S1 with
      | exc c fs ρ' S2 => rw [e] at n; exact n.elim
      | bad => rw [e] at h1; exact (post_bad h1).elim
      | ok z S2 =>
        rw [e] at h1
        intro φ2 H2 zv f2 rp2 rz
        replace h1 := Post.fut f2 h1
        cases rz with
        | bl k => exact ⟨k, rfl, post_ok h1 rp2 rfl⟩
        | _ => exact (post_bad h1).elim
    · refine thn (ho pins s1 σ H1 x y v u _ I1 rx r1 q1) fun c s2 ⟨z, H2, I2, r2, k, ez, q2⟩ => ?_
      subst ez
      cases r2
      exact wpAny_truthy_bool ⟨H2, I2, q2⟩
  | (o, f) :: p2 :: l, _, _, .cons ho nx hb (.cons ho2 nx2 hb2 r), _ => fun pins s σ H Q x v dx φ S ρ I rx rp er rd h => by
    have h' : Post RelB G W φ S.length H ((f ρ S).bind fun y S1 => (o dx y S1).bind fun z S2 => match z with
        | .bl true => fBool (fun ρ S => fChain (p2 :: l) y ρ S) ρ S2
        | .bl false => .ok false S2
        | _ => .bad) Q := by
      have e : fBool (fun ρ S => fChain ((o, f) :: p2 :: l) dx ρ S) ρ S = ((f ρ S).bind fun y S1 => (o dx y S1).bind fun z S2 => match z with
        | .bl true => fBool (fun ρ S => fChain (p2 :: l) y ρ S) ρ S2
        | .bl false => .ok false S2
        | _ => .bad) := by
        show ((f ρ S).bind fun y S1 => (o dx y S1).bind fun z S2 => match z with
          | .bl true => fChain (p2 :: l) y ρ S2
          | .bl false => R.ok (D.bl false) S2
          | _ => .bad).bind _ = _
        cases f ρ S with
        | ok y S1 =>
          simp only [R.bind_ok]
          cases o dx y S1 with
          | ok z S2 =>
            simp only [R.bind_ok]
            cases z with
            | bl k => cases k <;> rfl
            | _ => rfl
          | _ => rfl
        | _ => rfl
      rw [← e]
      exact h
    refine test_link (thn (hb.run pins s σ H (fun y H1 => RD2 G o x y H1 fun z H2 => ∃ k, z = .bl k ∧ if k = true then ∃ φ2 S2 dy, Rep G H2 φ2 S2 ∧ EnvR G.K H2 φ2 S2.length ρ σ ∧ RelD G.K H2 φ2 S2.length dy y ∧ Post RelB G W φ2 S2.length H2 (fBool (fun ρ S => fChain (p2 :: l) dy ρ S) ρ S2) Q else Q false H2) I (TG.seq rp er h' fun φ1 S1 H1 y u f1 rp1 er1 ry h1 => ?_)) fun u s1 ⟨y, H1, I1, r1, q1⟩ => ?_)
    · refine ⟨φ1, S1, dx, y, rp1, rd.fut f1, ry, ?_⟩
      have n := nx dx y S1
      cases e : o dx y S1 with
      | exc c fs ρ' S2 => rw [e] at n; exact n.elim
      | bad => rw [e] at h1; exact (post_bad h1).elim
      | ok z S2 =>
        rw [e] at h1
        intro φ2 H2 zv f2 rp2 rz
        replace h1 := Post.fut f2 h1
        cases rz with
        | bl k =>
          refine ⟨k, rfl, ?_⟩
          cases k with
          | true => exact ⟨φ2, S2, y, rp2, er1.fut f2, ry.fut f2, h1⟩
          | false => exact post_ok h1 rp2 rfl
        | _ => exact (post_bad h1).elim
    · refine thn (ho pins s1 σ H1 x y v u _ I1 rx r1 q1) fun c s2 ⟨z, H2, I2, r2, k, ez, q2⟩ => ?_
      subst ez
      cases r2
      refine wpAny_truthy_bool ?_
      cases k with
      | false => exact ite_ff ⟨H2, I2, q2⟩
      | true =>
        obtain ⟨φ2, S2, dy, rp2, er2, rdy, h2⟩ := q2
        exact ite_tt (ch_test (.cons ho2 nx2 hb2 r) (by simp) _ _ _ _ _ _ _ _ _ _ _ I2 r1 rp2 er2 rdy h2)
theorem de_chain {a b c : Expr} {op op' : CmpOp} {ops : List CmpOp} {es : List Expr} {f : Den D} {l : List (Op2 × Den D)} {pos : Pos} (ha : PE X a (TD G W f)) (h : ChOk G W X (op :: op' :: ops) (b :: c :: es) l) (hm : lastMarks (op :: op' :: ops) (b :: c :: es) = false) :
    PE X (.Compare a (op :: op' :: ops) (b :: c :: es) pos) (TD G W (fCmps f l)) := ⟨fun pins s σ H Q I ⟨φ, S, ρ, rp, er, hq⟩ => Compare_chain (thn (ha.run pins s σ H (fun x H1 => ∃ φ1 S1 dx, Rep G H1 φ1 S1 ∧ EnvR G.K H1 φ1 S1.length ρ σ ∧ RelD G.K H1 φ1 S1.length dx x ∧ Post RelD G W φ1 S1.length H1 (fChain l dx ρ S1) Q) I
    (TG.seq rp er hq fun φ1 S1 H1 x v f1 rp1 er1 rx h1 => ⟨φ1, S1, x, rp1, er1, rx, h1⟩)) fun v s1 ⟨x, H1, I1, r1, φ1, S1, dx, rp1, er1, rx, h1⟩ => ch_run h (by rintro rfl; cases h) _ _ _ _ _ _ _ _ _ _ _ I1 r1 rp1 er1 rx h1) hm⟩
theorem dt_chain {a b c : Expr} {op op' : CmpOp} {ops : List CmpOp} {es : List Expr} {f : Den D} {l : List (Op2 × Den D)} {pos : Pos} (ha : PE X a (TD G W f)) (h : ChOk G W X (op :: op' :: ops) (b :: c :: es) l) (hm : lastMarks (op :: op' :: ops) (b :: c :: es) = false) :
    PT X (.Compare a (op :: op' :: ops) (b :: c :: es) pos) (TDB G W (fBool (fCmps f l))) := ⟨fun pins s σ H Q I ⟨φ, S, ρ, rp, er, hq⟩ => by
  have h' : Post RelB G W φ S.length H ((f ρ S).bind fun x S1 => fBool (fun ρ S => fChain l x ρ S) ρ S1) Q := by
    have e : fBool (fCmps f l) ρ S = ((f ρ S).bind fun x S1 => fBool (fun ρ S => fChain l x ρ S) ρ S1) := by
      unfold fBool fCmps
      cases f ρ S <;> rfl
    rw [← e]
    exact hq
  exact isTrue_chain (thn (ha.run pins s σ H (fun x H1 => ∃ φ1 S1 dx, Rep G H1 φ1 S1 ∧ EnvR G.K H1 φ1 S1.length ρ σ ∧ RelD G.K H1 φ1 S1.length dx x ∧ Post RelB G W φ1 S1.length H1 (fBool (fun ρ S => fChain l dx ρ S) ρ S1) Q) I
    (TG.seq rp er h' fun φ1 S1 H1 x v f1 rp1 er1 rx h1 => ⟨φ1, S1, x, rp1, er1, rx, h1⟩)) fun v s1 ⟨x, H1, I1, r1, φ1, S1, dx, rp1, er1, rx, h1⟩ => ch_test h (by rintro rfl; cases h) _ _ _ _ _ _ _ _ _ _ _ I1 r1 rp1 er1 rx h1) hm⟩
end
end DL
end
section
set_option Elab.async false
set_option linter.all false
set_option maxRecDepth 100000
set_option maxHeartbeats 1000000
/-! DL13: slices -/
namespace HT
open PySem PySem.Spec PySem.Calls PyProof.Rows
section
variable {prog : Program} {w : World} {A : Around} {E : Value → Shared → Prop} {s : Shared}
theorem dl_back (n : Nat) : Builtin.Slice.sliceAdjust none none (-1) (n : Int) = ((n : Int) - 1, -1) := by
  unfold Builtin.Slice.sliceAdjust
  simp
theorem dl_places (n : Nat) : Builtin.Slice.slicePlaces ((n : Int) - 1) (-1) (-1) = n := by
  unfold Builtin.Slice.slicePlaces
  have h1 : ¬ ((-1 : Int) > 0) := by omega
  simp only [h1, if_false]
  simp
  try omega
theorem dl_applied {sl : Addr} {vs : Value} {n : Nat} {Q : Int × Int × Nat → Shared → Prop} (hs : s.heap.IsSliceOf sl .none .none vs) (ps : IsPart vs (some (-1)))
    (h : Q ((n : Int) - 1, -1, n) s) : wpAny (model prog w) A (Builtin.Slice.sliceApplied (.ref sl) (pure (n : Int))) Q E s := by
  obtain ⟨os, hos, hcs, hds⟩ := id hs
  unfold Builtin.Slice.sliceApplied Builtin.Slice.sliceFields
  refine wpAny_bind (wpAny_bind (wpAny_field hos hds (x := .none) rfl (wpAny_bind (wpAny_field hos hds (x := .none) rfl (wpAny_bind (wpAny_field hos hds (x := vs) rfl (wpAny_pure ?_)))))))
  refine wpAny_bind (slicePart_ ps ?_)
  show wpAny _ _ (if ((-1 : Int) == 0) = true then _ else _) _ _ s
  rw [if_neg (by decide)]
  refine wpAny_bind (slicePart_ .none (wpAny_bind (slicePart_ .none (wpAny_bind (wpAny_pure ?_)))))
  show wpAny _ _ (match Builtin.Slice.sliceAdjust none none (-1) (n : Int) with | (lo, hi) => pure (lo, (-1 : Int), Builtin.Slice.slicePlaces lo hi (-1))) _ _ s
  rw [dl_back n]
  show wpAny _ _ (pure ((n : Int) - 1, (-1 : Int), Builtin.Slice.slicePlaces ((n : Int) - 1) (-1) (-1))) _ _ s
  rw [dl_places]
  exact wpAny_pure h
theorem dl_fm {α β : Type} {f : α → Option β} {g : α → β} : ∀ {l : List α}, (∀ x ∈ l, f x = some (g x)) → l.filterMap f = l.map g
  | [], _ => rfl
  | x :: l, h => by
    rw [List.filterMap_cons_some (h x List.mem_cons_self), dl_fm fun y hy => h y (List.mem_cons_of_mem _ hy)]
    rfl
theorem dl_pick (xs : Array Value) : ((List.range xs.size).filterMap fun (m : Nat) => xs[(((xs.size : Nat) : Int) - 1 + (m : Int) * (-1)).toNat]?).toArray = xs.toList.reverse.toArray := by
  congr 1
  have e : (fun (m : Nat) => xs[(((xs.size : Nat) : Int) - 1 + (m : Int) * (-1)).toNat]?) = fun m => xs.toList[xs.toList.length - 1 - m]? := by
    funext m
    have : (((xs.size : Nat) : Int) - 1 + (m : Int) * (-1)).toNat = xs.toList.length - 1 - m := by rw [Array.length_toList]; omega
    rw [this, Array.getElem?_toList]
  rw [e]
  have key : ∀ l : List Value, (List.range l.length).filterMap (fun m => l[l.length - 1 - m]?) = l.reverse := fun l => by
    apply List.ext_getElem?
    intro i
    have e2 : (List.range l.length).filterMap (fun m => l[l.length - 1 - m]?) = (List.range l.length).map fun m => (l[l.length - 1 - m]?).getD .none := by
      refine dl_fm fun m hm => ?_
      have hm := List.mem_range.mp hm
      rw [List.getElem?_eq_getElem (by omega)]
      rfl
    rw [e2, List.getElem?_map]
    by_cases hi : i < l.length
    · rw [List.getElem?_range hi, List.getElem?_reverse hi]
      show some ((l[l.length - 1 - i]?).getD .none) = _
      rw [List.getElem?_eq_getElem (by omega)]
      rfl
    · rw [List.getElem?_eq_none (by simpa using hi), List.getElem?_eq_none (by simpa using hi)]
      rfl
  have := key xs.toList
  rw [Array.length_toList] at this ⊢
  exact this
theorem dl_tupRev {t sl : Addr} {items : Array Value} {vs : Value} {Q : Value → Shared → Prop} (ht : IsTup s.heap t items) (hs : s.heap.IsSliceOf sl .none .none vs) (ps : IsPart vs (some (-1)))
    (h : Q (.ref s.heap.objs.size) { s with heap := s.heap.push { cls := .type "tuple", data := .seq items.toList.reverse.toArray } })
    (hsz : items.size ≤ sizeLine) : wpAny (model prog w) A (getItem (.ref t) (.ref sl)) Q E s := by
  have hz : sizeOk (.seq items.toList.reverse.toArray) := by
    show items.toList.reverse.toArray.size ≤ sizeLine
    rw [List.size_toArray, List.length_reverse, Array.length_toList]
    exact hsz
  obtain ⟨os, hos, hcs, hds⟩ := id hs
  have hTs : s.TypeIs (.ref sl) "slice" := ⟨os, hos, hcs⟩
  unfold getItem
  try with_reducible refine wpAny_holding ?_
  first | refine wpAny_bind (wpAny_pure ?_) | skip
  refine wpAny_bind (wpAny_sequenceKey ht.typeIs (by decide) ?_)
  refine wpAny_bind (wpAny_callSpecial?_slot (name := Str.ofString "__getitem__") ht.typeIs PyProof.Rows.slot_tuple_getitem
    (wpAny_call_entry PyProof.Rows.slot_tuple_getitem ht.typeIs entry_tuple_getitem ?_ (args_tuple_getitem _ _)))
  show wpAny _ _ (Builtin.Tuple.tupleItemsOf (.ref t) >>= _) _ _ s
  refine wpAny_bind (tupleItemsOf_ ht (wpAny_bind (wpAny_typeOf hTs ?_)))
  rw [if_pos (by decide)]
  refine wpAny_bind (dl_applied hs ps ?_)
  have hno : ¬ ((((items.size : Int) - 1 == 0) && ((-1 : Int) == 1) && (items.size == items.size)) = true) := by
    rw [show ((-1 : Int) == 1) = false from rfl]
    simp
  show wpAny _ _ (if (((items.size : Int) - 1 == 0) && ((-1 : Int) == 1) && (items.size == items.size)) = true then _ else _) _ _ s
  rw [if_neg hno, dl_pick]
  first
    | exact wpAny_bind (m := Builtin.Tuple.tupleExact _) (wpAny_newObj_type (wpAny_pure ⟨_, rfl, wpAny_pure h⟩) hz)
    | exact wpAny_bind (m := Builtin.Tuple.tupleExact _) (wpAny_newObj_type (wpAny_bind (wpAny_pure (wpAny_pure ⟨_, rfl, wpAny_pure h⟩))) hz)
    | exact wpAny_bind (wpAny_bind (m := Builtin.Tuple.tupleExact _) (wpAny_newObj_type (wpAny_pure (wpAny_pure ⟨_, rfl, wpAny_pure h⟩)) hz))
    | exact wpAny_bind (wpAny_bind (m := Builtin.Tuple.tupleExact _) (wpAny_newObj_type (wpAny_pure ⟨_, rfl, wpAny_pure h⟩) hz))
end
end HT
namespace DL
open PySem PySem.Spec PyProof.Rows L2
section
variable {G : Gs} {W : WX} {X : Cx}
/-! ### e[a:b] -/
/-- a part of a slice: an int, or none written -/
def fPart (o : Option (Den D)) : Den (Option Int) := match o with
  | none => fun _ S => .ok none S
  | some f => fun ρ S => (f ρ S).bind fun d S1 => match d with
    | .int i => .ok (some i) S1
    | _ => .bad
def fSlice (f : Den D) (lo hi : Option (Den D)) : Den D := fun ρ S => (f ρ S).bind fun x S1 => (fPart lo ρ S1).bind fun l S2 => (fPart hi ρ S2).bind fun h S3 => opCut x l h S3
abbrev RelO' : Rl (Option Int) (Option Int) := fun _ _ _ _ a b => a = b
def PartOk (G : Gs) (W : WX) (X : Cx) : Option Expr → Option (Den D) → Prop
  | none, none => True
  | some e, some f => PE X e (TD G W f)
  | _, _ => False
theorem po_part {e : Option Expr} {f : Option (Den D)} (h : PartOk G W X e f) : ∃ t, PO X e t ∧ ∀ σ H Q, TG RelO' G W (fPart f) σ H Q → t σ H Q := by
  cases e with
  | none =>
    cases f with
    | some _ => exact h.elim
    | none =>
      refine ⟨_, po_none, fun σ H Q ⟨φ, S, ρ, rp, er, hq⟩ => ?_⟩
      exact hq φ H none Fut.refl rp rfl
  | some e =>
    cases f with
    | none => exact h.elim
    | some f =>
      refine ⟨_, po_some h, fun σ H Q ⟨φ, S, ρ, rp, er, hq⟩ => TG.seq rp er hq fun φ1 S1 H1 d v f1 rp1 er1 rd h1 => ?_⟩
      cases rd with
      | int i => exact ⟨i, rfl, h1 φ1 H1 (some i) Fut.refl rp1 rfl⟩
      | _ => exact (post_bad h1).elim
theorem de_slice {e : Expr} {lo hi : Option Expr} {f : Den D} {fl fh : Option (Den D)} {p2 pos : Pos} (hK : X.K = G.K) (he : PE X e (TD G W f)) (hl : PartOk G W X lo fl) (hh : PartOk G W X hi fh) : PE X (.Subscript e (.Slice lo hi none p2) pos) (TD G W (fSlice f fl fh)) := by
  obtain ⟨tl, pl, il⟩ := po_part hl
  obtain ⟨th, ph, ih⟩ := po_part hh
  exact (pe_slice (sr_cut hK) he pl ph).imp fun σ H Q ⟨φ, S, ρ, rp, er, h⟩ => TG.seq rp er h fun φ1 S1 H1 x v f1 rp1 er1 rx h1 => il _ _ _ (TG.seq rp1 er1 h1 fun φ2 S2 H2 l l' f2 rp2 er2 el h2 => ih _ _ _ (TG.seq rp2 er2 h2 fun φ3 S3 H3 u u' f3 rp3 er3 eu h3 => by
    cases el
    cases eu
    exact ⟨φ3, S3, x, rp3, (rx.fut f2).fut f3, Post.anyW (nx_cut _ _ _ _) h3⟩))
/-! ### e[::-1] -/
def opRev (x : D) (S : Sto) : R D := match x with
  | .tup xs => .ok (.tup xs.reverse) S
  | .ref l => optR (seqOf S l) fun xs => mkLst xs.reverse S
  | _ => .bad
def fRev (f : Den D) : Den D := fun ρ S => (f ρ S).bind opRev
theorem de_rev {e : Expr} {f : Den D} {k : Nat} {p1 p2 p3 pos : Pos} (hK : X.K = G.K) (he : PE X e (TD G W f)) : PE X (.Subscript e (.Slice none none (some (.UnaryOp .USub (.Constant (.int 1) k p1) p2)) p3) pos) (TD G W (fRev f)) := by
  refine ⟨fun pins s σ H Q I ⟨φ, S, ρ, rp, er, h⟩ => ?_⟩
  refine Subscript_ (thn (he.run pins s σ H (fun x H1 => ∃ φ1 S1 d, Rep G H1 φ1 S1 ∧ RelD G.K H1 φ1 S1.length d x ∧ Post RelD G W φ1 S1.length H1 (opRev d S1) Q) I (TG.seq rp er h fun φ1 S1 H1 x v f1 rp1 er1 rx h1 => ⟨φ1, S1, x, rp1, rx, h1⟩)) fun v s1 ⟨x, H1, I1, r1, φ1, S1, d, rp1, rd, h1⟩ => ?_)
  have hst : PO X (some (.UnaryOp .USub (.Constant (.int 1) k p1) p2)) (tPart (tUn (rU fun i => .int (-i)) (tC (.int 1)))) := po_some (pe_un un_neg pe_int)
  refine wpAny_Slice (thn (po_none.run pins s1 σ H1 (fun o H2 => o = none ∧ H2 = H1) I1 ⟨rfl, rfl⟩) fun vl s2 ⟨l, H2, I2, pl, el, e2⟩ => ?_)
  subst el e2
  refine thn (po_none.run pins s2 σ H2 (fun o H3 => o = none ∧ H3 = H2) I2 ⟨rfl, rfl⟩) fun vu s3 ⟨u, H3, I3, pu, eu, e3⟩ => ?_
  subst eu e3
  refine thn (hst.run pins s3 σ H3 (fun o H4 => o = some (-1) ∧ H4 = H3) I3 ⟨1, rfl, -1, rfl, rfl, rfl⟩) fun vs s4 ⟨o, H4, I4, ps, eo, e4⟩ => ?_
  subst eo e4
  have I5 : Inv X pins σ H4 { s4 with heap := s4.heap.push { cls := .type "slice", data := .fields #[vl, vu, vs] } } := I4.kept (t' := s4.toks) fun b ob q => Heap.get?_push_of_some _ q
  have go : ∀ a T, v = .ref a → (({ s4 with heap := s4.heap.push { cls := .type "slice", data := .fields #[vl, vu, vs] } } : Shared).TypeIs (.ref a) T) → (∃ id, typeLookup (.type T) "__getitem__" = pure (some (.builtin id))) →
      wpAny (model X.prog X.w) X.A (getItem (.ref a) (.ref s4.heap.objs.size)) (EP X pins σ Q) X.xe { s4 with heap := s4.heap.push { cls := .type "slice", data := .fields #[vl, vu, vs] } } →
      wpAny (model X.prog X.w) X.A (subscriptTail e (.Slice none none (some (.UnaryOp .USub (.Constant (.int 1) k p1) p2)) p3) v (.ref s4.heap.objs.size)) (EP X pins σ Q) X.xe { s4 with heap := s4.heap.push { cls := .type "slice", data := .fields #[vl, vu, vs] } } := fun a T ev hT ⟨id, hl⟩ hg => by
    subst ev
    exact tail_any (ops := [.ref a, .ref s4.heap.objs.size]) hT hl hg (by with_unfolding_all rfl)
  cases pl
  cases pu
  cases rd with
  | @tup a xs ws hl t r =>
    obtain rfl : v = Value.ref a := r1
    rw [← hK] at t
    obtain ⟨its, rv, ht, hz⟩ := I5.tuple t
    refine go a "tuple" rfl ht.typeIs ⟨_, PyProof.Rows.slot_tuple_getitem.lookup⟩ ?_
    refine HT.dl_tupRev ht (Heap.IsSliceOf.new _ _ _ vs) ps ?_ (by rw [List.size_toArray, ← rv.length]; exact hz)
    have hf := I5.hok.fresh (Nat.le_refl _)
    refine ⟨.ref _, _, I5.laid (t' := s4.toks) (o := .tup ws.reverse) (fun b ob q => Heap.get?_push_of_some _ q) (Nat.le_refl _) ?_, rfl, post_tup h1 rp1 r.reverse (by rw [List.length_reverse]; exact hl) hf⟩
    refine ⟨by rw [List.length_reverse]; exact hz, its.reverse, rv.reverse, ?_⟩
    exact IsTup.new _ _
  | @ref l hl =>
    obtain rfl : v = Value.ref (φ1 l) := r1
    obtain ⟨xs, e1, h1⟩ := post_opt (o := seqOf S1 l) h1
    obtain ⟨ws, q, r⟩ := seqOf_at rp1 e1
    rw [← hK] at q
    obtain ⟨its, rv, ht, hz⟩ := I5.list q
    refine go _ "list" rfl ht.isList.typeIs ⟨_, PySem.slot_list_getitem.lookup⟩ ?_
    refine wpAny_getItem_list_slice ht.isList (Heap.IsSliceOf.new _ _ _ vs) .none .none ps (by decide) ?_ (by rw [List.size_toArray, ← rv.length]; exact hz)
    rw [PySem.W.krv_pick]
    have hf := I5.hok.fresh (Nat.le_refl _)
    refine ⟨.ref _, _, I5.laid (t' := s4.toks) (o := .lst ws.reverse) (fun b ob q => Heap.get?_push_of_some _ q) (Nat.le_refl _) ?_, rfl, post_lst h1 rp1 r.reverse (by rw [List.length_reverse, r.length]; exact hz) hf⟩
    exact ⟨by rw [List.length_reverse]; exact hz, _, 0, rv.reverse, Heap.get?_push_size _ rfl⟩
  | _ => exact (post_bad h1).elim
end
end DL
end
section
set_option Elab.async false
set_option linter.all false
set_option maxRecDepth 100000
set_option maxHeartbeats 1000000
/-! DL14: calls by keywords, dict displays, methods -/
namespace DL
open PySem PySem.Spec PyProof.Rows L2
theorem _root_.L2.PK.imp {X : Cx} {e : List Keyword} {t t' : TA} (h : PK X e t) (i : ∀ σ H Q, t' σ H Q → t σ H Q) : PK X e t' := ⟨fun pos pins s σ H Q I hw => h.run pos pins s σ H Q I (i σ H Q hw)⟩
section
variable {G : Gs} {W : WX} {X : Cx}
theorem dk_nil : PK X [] (TDA G W fNil) := pk_nil.imp fun σ H Q ⟨φ, S, ρ, rp, er, h⟩ => post_ok h rp .nil
theorem dk_cons {nm : Option Str} {kpos : Pos} {e : Expr} {kws : List Keyword} {f : Den D} {fs : Den (List D)} (ha : PE X e (TD G W f)) (hr : PK X kws (TDA G W fs)) : PK X (⟨nm, e, kpos⟩ :: kws) (TDA G W (fCons f fs)) :=
  (pk_cons ha hr).imp fun σ H Q ⟨φ, S, ρ, rp, er, h⟩ => TG.seq rp er h fun φ1 S1 H1 d v f1 rp1 er1 rd h1 => TG.seq rp1 er1 h1 fun φ2 S2 H2 ds vs f2 rp2 er2 rds h2 => post_ok h2 rp2 (.cons (rd.fut f2) rds)
/-- how a def's parameters are bound by n values and the keywords ks -/
def KwB (K : PySem.W.Frag) (fd : FuncData) (ps : List Str) (n : Nat) (ks : List Str) : Prop := ∀ (s : Shared) (us ws : List Value), K.In s.heap → us.length = n → ws.length = ks.length → BindsTo s fd ⟨us, ks.zip ws⟩ (ps.zip (byName (ps.zip us ++ ks.zip ws) .none ps))
theorem look_rel {K : PySem.W.Frag} {H : Hp} {φ : Nat → Addr} {m : Nat} {q : Str} : ∀ {ps : List Str} {ds : List D} {vs : List V} {l : List (Str × D)} {l' : List (Str × V)}, RelDs K H φ m ds vs → RelD K H φ m ((l.lookup q).getD .non) ((l'.lookup q).getD .non) →
    RelD K H φ m (((ps.zip ds ++ l).lookup q).getD .non) (((ps.zip vs ++ l').lookup q).getD .non)
  | [], _, _, _, _, _, h => h
  | _ :: _, _, _, _, _, .nil, h => h
  | p :: ps, _, _, l, l', .cons r1 r2, h => by
    simp only [List.zip_cons_cons, List.cons_append, List.lookup_cons]
    cases q == p with
    | true => exact r1
    | false => exact look_rel r2 h
theorem byName_rel {K : PySem.W.Frag} {H : Hp} {φ : Nat → Addr} {m : Nat} {ps ks : List Str} {ds es : List D} {vs zs : List V} (r1 : RelDs K H φ m ds vs) (r2 : RelDs K H φ m es zs) : ∀ qs, RelDs K H φ m (byName (ps.zip ds ++ ks.zip es) .non qs) (byName (ps.zip vs ++ ks.zip zs) .non qs)
  | [] => .nil
  | q :: qs => .cons (look_rel r1 (by
      have := look_rel (ps := ks) (q := q) (l := []) (l' := []) r2 .non
      rw [List.append_nil, List.append_nil] at this
      exact this)) (byName_rel r1 r2 qs)
theorem look_val {q : Str} : ∀ {ps : List Str} {vs : List V} {us : List Value} {l : List (Str × V)} {l' : List (Str × Value)}, Vals vs us → RelV ((l.lookup q).getD .non) ((l'.lookup q).getD .none) →
    RelV (((ps.zip vs ++ l).lookup q).getD .non) (((ps.zip us ++ l').lookup q).getD .none)
  | [], _, _, _, _, _, h => h
  | _ :: _, _, _, _, _, .nil, h => h
  | p :: ps, _, _, l, l', .cons r1 r2, h => by
    simp only [List.zip_cons_cons, List.cons_append, List.lookup_cons]
    cases q == p with
    | true => exact r1
    | false => exact look_val r2 h
theorem byName_val {ps ks : List Str} {vs zs : List V} {us ws : List Value} (r1 : Vals vs us) (r2 : Vals zs ws) : ∀ qs, Vals (byName (ps.zip vs ++ ks.zip zs) .non qs) (byName (ps.zip us ++ ks.zip ws) .none qs)
  | [] => .nil
  | q :: qs => .cons (look_val r1 (by
      have := look_val (ps := ks) (q := q) (l := []) (l' := []) r2 rfl
      rw [List.append_nil, List.append_nil] at this
      exact this)) (byName_val r1 r2 qs)
theorem byName_len {α : Type} {l : List (Str × α)} {d : α} : ∀ ps : List Str, (byName l d ps).length = ps.length
  | [] => rfl
  | _ :: ps => congrArg (· + 1) (byName_len ps)
section
variable {k n : Nat} {f : Addr} {fd : FuncData} {ps ks : List Str} {cl : Cl} {x : Str} {p pos : Pos} {es : List Expr} {kws : List Keyword} {fs fk : Den (List D)}
theorem de_callK (F : FnG G X.prog X.w X.mg X.base k f fd ps cl) (hK : X.K = G.K) (hr : Room k X.A) (hgd : X.A.guards = some []) (hg : Gl X x) (hm : X.mg x = some (.ref f)) (hk : PySem.W.keepIn X.K (.ref f) = true) (hb : KwB X.K fd ps n ks) (tk : Takes X W)
    (hn : Len n fs) (hf0 : es = [] → fs = fNil ∧ n = 0) (hz : Len ks.length fk) (ha : PA X es (TDA G W fs)) (hkw : PK X kws (TDA G W fk)) (hdb : (x == ("__debug__" : Str)) = false) (he : ∀ e r, es = e :: r → starEach (e :: r) X.env = (false, eval e X.env) :: starEach r X.env)
    (hall : (backToKw pos (keywordEach kws X.env)).all (·.1.isSome) = true) (hks : (backToKw pos (keywordEach kws X.env)).filterMap (·.1) = ks)
    (hpl : ((backTo pos (starEach es X.env)).any (·.1) || (backToKw pos (keywordEach kws X.env)).any (·.1.isNone)) = false) :
    PE X (.Call (.Name x p) es kws pos) (TD G W (fCallK cl ps ks fs fk)) := by
  refine ⟨fun pins s σ H Q I ⟨φ, S, ρ, rp, er, h⟩ => ?_⟩
  refine wpAny_Call_Name_kw (ld_glob I hg hm ?_ hdb)
  have fin : ∀ {s2 : Shared} {H2 : Hp} {us ws : List Value} {vs zs : List V}, Inv X pins σ H2 s2 → Vals vs us → Vals zs ws → (vs.length = n ∧ zs.length = ks.length ∧ ∃ φ2 S2 ds es, Rep G H2 φ2 S2 ∧ EnvR G.K H2 φ2 S2.length ρ σ ∧ RelDs G.K H2 φ2 S2.length ds vs ∧ RelDs G.K H2 φ2 S2.length es zs ∧
      Post RelD G W φ2 S2.length H2 (reEv ρ (cl (byName (ps.zip ds ++ ks.zip es) .non ps) S2)) Q) → wpAny (model X.prog X.w) X.A (call (.ref f) us (ks.zip ws)) (EP X pins σ Q) X.xe s2 := fun {s2 H2 us ws vs zs} I2 r rz ⟨l1, l2, φ2, S2, ds, es, rp2, er2, rd, re, h2⟩ => by
    refine run_g (args := ⟨us, ks.zip ws⟩) F hK hr hgd (hb s2 us ws I2.kIn (by rw [← r.length]; exact l1) (by rw [← rz.length]; exact l2)) tk I2 (byName_val r rz ps) ?_
    exact post_call (byName_len ps) rp2 er2 (byName_rel rd re ps) h2
  have kw : ∀ {s1 : Shared} {H1 : Hp} {us : List Value} {vs : List V} {φ1 : Nat → Addr} {S1 : Sto} {ds : List D}, Inv X pins σ H1 s1 → Vals vs us → Rep G H1 φ1 S1 → EnvR G.K H1 φ1 S1.length ρ σ → RelDs G.K H1 φ1 S1.length ds vs → ds.length = n →
      Post RelD G W φ1 S1.length H1 ((fk ρ S1).bind fun es S2 => reEv ρ (cl (byName ((ps.zip ds) ++ ks.zip es) .non ps) S2)) Q →
      wpAny (model X.prog X.w) X.A (evalAll ((backToKw pos (keywordEach kws X.env)).map (·.2))) (fun ws s2 => X.K.In s2.heap ∧ wpAny (model X.prog X.w) X.A (call (.ref f) ([] ++ us) (((backToKw pos (keywordEach kws X.env)).filterMap (·.1)).zip ws)) (EP X pins σ Q) X.xe s2) X.xe s1 := fun {s1 H1 us vs φ1 S1 ds} I1 r rp1 er1 rd hl h1 => by
    refine thn (hkw.run pos pins s1 σ H1 (fun zs H2 => vs.length = n ∧ zs.length = ks.length ∧ ∃ φ2 S2 ds es, Rep G H2 φ2 S2 ∧ EnvR G.K H2 φ2 S2.length ρ σ ∧ RelDs G.K H2 φ2 S2.length ds vs ∧ RelDs G.K H2 φ2 S2.length es zs ∧
      Post RelD G W φ2 S2.length H2 (reEv ρ (cl (byName (ps.zip ds ++ ks.zip es) .non ps) S2)) Q) I1 (TG.seqL hz rp1 er1 h1 fun φ2 S2 H2 es zs f2 rp2 er2 re hl2 h2 => ⟨by rw [← rd.length]; exact hl, by rw [← re.length]; exact hl2, φ2, S2, ds, es, rp2, er2, rd.fut f2, re, h2⟩)) fun ws s2 ⟨zs, H2, I2, rz, q⟩ => ⟨I2.kIn, ?_⟩
    rw [hks, List.nil_append]
    exact fin I2 r rz q
  cases es with
  | nil =>
    obtain ⟨rfl, rfl⟩ := hf0 rfl
    refine PySem.W.callWith_KW0 (h₀ := X.base) I.ok.mod.kin hk hall ?_ hpl
    have := kw (us := []) I .nil rp er .nil rfl h
    simpa using this
  | cons e r =>
    refine PySem.W.callWith_KW (h₀ := X.base) I.ok.mod.kin hk hall (thn (ha.run pos pins s σ H (fun vs H1 => ∃ φ1 S1 ds, Rep G H1 φ1 S1 ∧ EnvR G.K H1 φ1 S1.length ρ σ ∧ RelDs G.K H1 φ1 S1.length ds vs ∧ ds.length = n ∧
      Post RelD G W φ1 S1.length H1 ((fk ρ S1).bind fun es S2 => reEv ρ (cl (byName ((ps.zip ds) ++ ks.zip es) .non ps) S2)) Q) I (TG.seqL hn rp er h fun φ1 S1 H1 ds vs f1 rp1 er1 rd hl h1 => ⟨φ1, S1, ds, rp1, er1, rd, hl, h1⟩)) fun us s1 ⟨vs, H1, I1, r, φ1, S1, ds, rp1, er1, rd, hl, h1⟩ => kw I1 r rp1 er1 rd hl h1) hpl (he e r rfl)
end
end
end DL
end
section
set_option Elab.async false
set_option linter.all false
set_option maxRecDepth 100000
set_option maxHeartbeats 1000000
/-! DL15: dict displays, methods -/
namespace DL
open PySem PySem.Spec PyProof.Rows L2
section
variable {G : Gs} {W : WX} {X : Cx}
/-- an object laid aside, to get its number later -/
theorem Rep.lay {φ : Nat → Addr} {H : Hp} {S : Sto} {p : Addr} {o : HO} (rp : Rep G H φ S) (hp : H p = none) : Fut G φ S.length H φ S.length (upd H p o) ∧ Rep G (upd H p o) φ S ∧ ∀ l, l < S.length → φ l ≠ p := by
  have hne : ∀ b u, H b = some u → b ≠ p := fun b u e z => by rw [z, hp] at e; cases e
  have ft : Fut G φ S.length H φ S.length (upd H p o) :=
    ⟨Nat.le_refl _, fun l h => rfl, fun a vs h => by rw [upd_ne (hne _ _ h)]; exact h, fun a o u h => by rw [upd_ne (hne _ _ h)]; exact h, fun a u h _ => by rw [upd_ne (hne _ _ h)]; exact h, upd_there, fun l h1 h2 => absurd (Nat.lt_of_lt_of_le h2 h1) (Nat.lt_irrefl _)⟩
  refine ⟨ft, ⟨rp.sys.new hp, rp.inj, fun l o e => ?_⟩, fun l hl z => ?_⟩
  · have q := rp.ob l o e
    cases o with
    | lst ds => obtain ⟨z, vs, e1, r⟩ := q; exact ⟨z, vs, by rw [upd_ne (hne _ _ e1)]; exact e1, r.fut ft⟩
    | fro ds => obtain ⟨zz, o, vs, e1, r⟩ := q; exact ⟨zz, o, vs, by rw [upd_ne (hne _ _ e1)]; exact e1, r.fut ft⟩
    | dct ds => obtain ⟨vs, e1, r⟩ := q; exact ⟨vs, by rw [upd_ne (hne _ _ e1)]; exact e1, r.fut ft⟩
    | exc c fs => obtain ⟨d, vs, e1, e2, r⟩ := q; exact ⟨d, vs, by rw [upd_ne (hne _ _ e1)]; exact e1, by rw [upd_ne (hne _ _ e2)]; exact e2, r.fut ft⟩
  · have q := rp.ob l _ (List.getElem?_eq_getElem hl)
    cases k : S[l] with
    | lst ds => rw [k] at q; obtain ⟨z', vs, e1, r⟩ := q; exact hne _ _ e1 z
    | fro ds => rw [k] at q; obtain ⟨zz, o, vs, e1, r⟩ := q; exact hne _ _ e1 z
    | dct ds => rw [k] at q; obtain ⟨vs, e1, r⟩ := q; exact hne _ _ e1 z
    | exc c fs => rw [k] at q; obtain ⟨d, vs, e1, e2, r⟩ := q; exact hne _ _ e1 z
/-- it stands still while it has no number -/
theorem Fut.still {φ φ' : Nat → Addr} {n n' : Nat} {H H' : Hp} {p : Addr} {o : HO} (f : Fut G φ n H φ' n' H') (hp : H p = some o) (no : ∀ l, l < n → φ l ≠ p) : H' p = some o ∧ ∀ l, l < n' → φ' l ≠ p := ⟨f.keep _ _ hp no, fun l hl z => by
  by_cases c : l < n
  · exact no l c ((f.fix l c).symm.trans z)
  · have q := f.new l (Nat.le_of_not_lt c) hl
    rw [z, hp] at q
    cases q⟩
/-- a dict that stands aside gets its pairs and its number -/
theorem Rep.birth {φ : Nat → Addr} {H : Hp} {S : Sto} {p : Addr} {us : List (Key × V)} {o : HO} {ob : Ob} (rp : Rep G H φ S) (hp : H p = some (.dK us)) (no : ∀ l, l < S.length → φ l ≠ p)
    (hob : ∀ H' φ', Fix φ S.length H φ' (S.length + 1) H' → H' p = some o → ObR G H' φ' (S.length + 1) p ob) :
    Rep G (upd H p o) (plusAt φ S.length p) (S ++ [ob]) ∧ Fix φ S.length H (plusAt φ S.length p) (S.length + 1) (upd H p o) ∧ ∀ {φ0 : Nat → Addr} {n0 : Nat} {H0 : Hp}, Fut G φ0 n0 H0 φ S.length H → H0 p = none → Fut G φ0 n0 H0 (plusAt φ S.length p) (S ++ [ob]).length (upd H p o) := by
  have sz : (S ++ [ob]).length = S.length + 1 := by simp
  have nt1 : ∀ a vs, H a = some (.tup vs) → a ≠ p := fun a vs h z => by rw [z, hp] at h; cases h
  have nt2 : ∀ a o u, H a = some (.frz o u) → a ≠ p := fun a o u h z => by rw [z, hp] at h; cases h
  have fx : Fix φ S.length H (plusAt φ S.length p) (S.length + 1) (upd H p o) := ⟨Nat.le_succ _, fun l h => plusAt_lt h, fun a vs h => by rw [upd_ne (nt1 _ _ h)]; exact h, fun a o u h => by rw [upd_ne (nt2 _ _ _ h)]; exact h⟩
  refine ⟨⟨rp.sys.upd fun _ _ z => by (rw [hp] at z; cases z), fun l m h1 h2 e => ?_, fun l ob' e => ?_⟩, fx, fun {φ0 n0 H0} ft h0 => ?_⟩
  · rw [sz] at h1 h2
    by_cases c1 : l = S.length <;> by_cases c2 : m = S.length
    · rw [c1, c2]
    · rw [c1, plusAt_at, plusAt_lt (by omega)] at e
      exact absurd e.symm (no m (by omega))
    · rw [c2, plusAt_at, plusAt_lt (by omega)] at e
      exact absurd e (no l (by omega))
    · rw [plusAt_lt (by omega), plusAt_lt (by omega)] at e
      exact rp.inj l m (by omega) (by omega) e
  · rw [sz]
    by_cases c1 : l = S.length
    · subst c1
      have e2 : ob = ob' := by simpa using e
      subst e2
      rw [plusAt_at]
      exact hob _ _ fx upd_same
    · have lt : l < S.length := by
        have := (List.getElem?_eq_some_iff.mp e).1
        rw [sz] at this
        omega
      have e2 : S[l]? = some ob' := by rwa [List.getElem?_append_left lt] at e
      rw [plusAt_lt lt]
      have q := rp.ob l ob' e2
      have ne := no l lt
      cases ob' with
      | lst ds => obtain ⟨z, vs, e1, r⟩ := q; exact ⟨z, vs, by rw [upd_ne ne]; exact e1, r.mono fx⟩
      | fro ds => obtain ⟨zz, o, vs, e1, r⟩ := q; exact ⟨zz, o, vs, by rw [upd_ne ne]; exact e1, r.mono fx⟩
      | dct ds => obtain ⟨vs, e1, r⟩ := q; exact ⟨vs, by rw [upd_ne ne]; exact e1, r.mono fx⟩
      | exc c fs =>
        obtain ⟨d, vs, e1, e3, r⟩ := q
        have hd : d ≠ p := fun z => by
          rw [z, hp] at e3
          cases Option.some.inj e3
        exact ⟨d, vs, by rw [upd_ne ne]; exact e1, by rw [upd_ne hd]; exact e3, r.mono fx⟩
  · rw [sz]
    refine ⟨Nat.le_trans ft.le (Nat.le_succ _), fun l h => (plusAt_lt (Nat.lt_of_lt_of_le h ft.le)).trans (ft.fix l h), fun a vs h => fx.tups _ _ (ft.tups a vs h), fun a o u h => fx.frzs _ _ _ (ft.frzs a o u h), fun a u h hn => ?_, fun a h => upd_there a (ft.there a h), fun l h1 h2 => ?_⟩
    · rw [upd_ne (fun z => by rw [z, h0] at h; cases h)]
      exact ft.keep a u h hn
    · by_cases c : l = S.length
      · rw [c, plusAt_at]
        exact h0
      · rw [plusAt_lt (by omega)]
        exact ft.new l h1 (by omega)
/-! ### {k: v, ..} -/
def asKey : D → Option Key
  | .int i => some (.inl i)
  | .str s => some (.inr s)
  | _ => none
theorem asKey_rel {K : PySem.W.Frag} {H : Hp} {φ : Nat → Addr} {n : Nat} {d : D} {v : V} {k : Key} (r : RelD K H φ n d v) (h : asKey d = some k) : v = kV k := by
  cases r <;> cases h <;> rfl
def putD (kvs : List (Key × D)) (k : Key) (v : D) : List (Key × D) := if (kvs.any fun p => decide (p.1 = k)) = true then kvs.map (fun p => if p.1 = k then (p.1, v) else p) else kvs ++ [(k, v)]
def fPairs : List (Den D × Den D) → Den (List (Key × D))
  | [], _, S => .ok [] S
  | p :: r, ρ, S => (p.1 ρ S).bind fun x S1 => (p.2 ρ S1).bind fun y S2 => (fPairs r ρ S2).bind fun ps S3 => match asKey x with
    | some k => .ok ((k, y) :: ps) S3
    | none => .bad
theorem R.bind_assoc {α β γ : Type} (r : R α) (f : α → Sto → R β) (g : β → Sto → R γ) : (r.bind f).bind g = r.bind fun a S => (f a S).bind g := by cases r <;> rfl
def mkDct (ps : List (Key × D)) (S : Sto) : R D := .ok (.ref S.length) (S ++ [.dct (ps.foldl (fun acc kv => putD acc kv.1 kv.2) [])])
def fDict (l : List (Den D × Den D)) : Den D := fun ρ S => (fPairs l ρ S).bind mkDct
inductive PrOk (G : Gs) (W : WX) (X : Cx) : List (Option Expr) → List Expr → List (Den D × Den D) → Prop
  | nil : PrOk G W X [] [] []
  | cons {k v : Expr} {ks : List (Option Expr)} {vs : List Expr} {f g : Den D} {l : List (Den D × Den D)} (hk : PE X k (TD G W f)) (hv : PE X v (TD G W g)) (r : PrOk G W X ks vs l) : PrOk G W X (some k :: ks) (v :: vs) ((f, g) :: l)
theorem PrOk.pps {pos : Pos} : ∀ {ks : List (Option Expr)} {vs : List Expr} {l : List (Den D × Den D)}, PrOk G W X ks vs l → PPs X pos ks vs (l.map fun p => (TD G W p.1, TD G W p.2))
  | _, _, _, .nil => pps_nil
  | _, _, _, .cons hk hv r => pps_cons hk hv r.pps
theorem PrOk.len : ∀ {ks : List (Option Expr)} {vs : List Expr} {l : List (Den D × Den D)}, PrOk G W X ks vs l → ks.all (·.isSome) = true ∧ ks.length = vs.length ∧ ks.length = l.length
  | _, _, _, .nil => ⟨rfl, rfl, rfl⟩
  | _, _, _, .cons hk hv r => by
    obtain ⟨h1, h2, h3⟩ := r.len
    exact ⟨by simp [h1], by simp [h2], by simp [h3]⟩
theorem RelKs.put {K : PySem.W.Frag} {H : Hp} {φ : Nat → Addr} {n : Nat} {k : Key} {d : D} {v : V} (r : RelD K H φ n d v) : ∀ {a : List (Key × D)} {b : List (Key × V)}, RelKs K H φ n a b → RelKs K H φ n (putD a k d) (putK b k v) := fun {a b} q => by
  have h1 : ∀ {a : List (Key × D)} {b : List (Key × V)}, RelKs K H φ n a b → (a.any fun p => decide (p.1 = k)) = (b.any fun p => decide (p.1 = k)) := fun {a b} q => by
    induction q with
    | nil => rfl
    | cons _ _ ih => simp only [List.any_cons, ih]
  have h2 : ∀ {a : List (Key × D)} {b : List (Key × V)}, RelKs K H φ n a b → RelKs K H φ n (a.map fun p => if p.1 = k then (p.1, d) else p) (b.map fun p => if p.1 = k then (p.1, v) else p) := fun {a b} q => by
    induction q with
    | nil => exact .nil
    | @cons f d' v' ds vs h _ ih =>
      rw [List.map_cons, List.map_cons]
      by_cases c : f = k
      · rw [if_pos c, if_pos c]
        exact .cons r ih
      · rw [if_neg c, if_neg c]
        exact .cons h ih
  have h3 : ∀ {a : List (Key × D)} {b : List (Key × V)}, RelKs K H φ n a b → RelKs K H φ n (a ++ [(k, d)]) (b ++ [(k, v)]) := fun {a b} q => by
    induction q with
    | nil => exact .cons r .nil
    | cons h _ ih => exact .cons h ih
  unfold putD putK
  rw [h1 q]
  split
  · exact h2 q
  · exact h3 q
theorem RelKs.merge {K : PySem.W.Frag} {H : Hp} {φ : Nat → Addr} {n : Nat} {b : List (Key × D)} {b' : List (Key × V)} (q : RelKs K H φ n b b') : ∀ {a : List (Key × D)} {a' : List (Key × V)}, RelKs K H φ n a a' → RelKs K H φ n (b.foldl (fun acc kv => putD acc kv.1 kv.2) a) (mergeK a' b') := by
  induction q with
  | nil => intro a a' r; exact r
  | cons h _ ih => intro a a' r; exact ih (RelKs.put h r)
/-- the pairs' reading -/
theorem pairs_read {p : Addr} {φ0 : Nat → Addr} {n0 : Nat} {H0 : Hp} {ρ : Ev} {σ : L2.St} {Q : List (V × V) → Hp → Prop} : ∀ (l : List (Den D × Den D)) (φ : Nat → Addr) (S : Sto) (H : Hp) (g : List (Key × D) → Sto → R D) (Q0 : VK), Fut G φ0 n0 H0 φ S.length H → Rep G H φ S → EnvR G.K H φ S.length ρ σ → H p = some (.dK []) → (∀ i, i < S.length → φ i ≠ p) →
    Post RelD G W φ0 n0 H0 ((fPairs l ρ S).bind g) Q0 →
    (∀ φ1 S1 H1 ps kvs, Fut G φ S.length H φ1 S1.length H1 → Rep G H1 φ1 S1 → H1 p = some (.dK []) → (∀ i, i < S1.length → φ1 i ≠ p) → RelKs G.K H1 φ1 S1.length ps kvs → ps.length = l.length → Post RelD G W φ0 n0 H0 (g ps S1) Q0 → Q (kvs.map fun kv => (kV kv.1, kv.2)) H1) →
    tPairs (l.map fun p => (TD G W p.1, TD G W p.2)) σ H Q
  | [], φ, S, H, g, Q0, ft, rp, er, hp, no, h, k => k φ S H [] [] Fut.refl rp hp no .nil rfl h
  | (f1, f2) :: l, φ, S, H, g, Q0, ft, rp, er, hp, no, h, k => by
    replace h : Post RelD G W φ0 n0 H0 (((f1 ρ S).bind fun x S1 => (f2 ρ S1).bind fun y S2 => (fPairs l ρ S2).bind fun ps S3 => match asKey x with
      | some k => R.ok ((k, y) :: ps) S3
      | none => .bad).bind g) Q0 := h
    rw [R.bind_assoc] at h
    refine ⟨φ, S, ρ, rp, er, ?_⟩
    show Post RelD G W φ S.length H (f1 ρ S) _
    cases e1 : f1 ρ S with
    | bad => rw [e1] at h; exact (post_bad h).elim
    | exc c fs ρ' S1 => rw [e1] at h; exact PostX.fut ft h
    | ok x S1 =>
      rw [e1] at h
      intro φ1 H1 v fa rp1 rx
      obtain ⟨hp1, no1⟩ := fa.still hp no
      refine ⟨φ1, S1, ρ, rp1, er.fut fa, ?_⟩
      show Post RelD G W φ1 S1.length H1 (f2 ρ S1) _
      rw [R.bind_ok, R.bind_assoc] at h
      cases e2 : f2 ρ S1 with
      | bad => rw [e2] at h; exact (post_bad h).elim
      | exc c fs ρ' S2 => rw [e2] at h; exact PostX.fut (ft.trans fa) h
      | ok y S2 =>
        rw [e2] at h
        intro φ2 H2 u fb rp2 ry
        obtain ⟨hp2, no2⟩ := fb.still hp1 no1
        rw [R.bind_ok, R.bind_assoc] at h
        refine pairs_read l φ2 S2 H2 _ Q0 ((ft.trans fa).trans fb) rp2 ((er.fut fa).fut fb) hp2 no2 h fun φ3 S3 H3 ps kvs f3 rp3 hp3 no3 rk hl h3 => ?_
        cases hk : asKey x with
        | none => rw [hk] at h3; exact (post_bad h3).elim
        | some key =>
          rw [hk] at h3
          have ev := asKey_rel rx hk
          subst ev
          exact k φ3 S3 H3 ((key, y) :: ps) ((key, u) :: kvs) ((fa.trans fb).trans f3) rp3 hp3 no3 (.cons (ry.fut f3) rk) (congrArg (· + 1) hl) h3
theorem de_dict {ks : List (Option Expr)} {vs : List Expr} {l : List (Den D × Den D)} {pos : Pos} (h : PrOk G W X ks vs l) (h0 : ks ≠ []) (h15 : ks.length ≤ 15) : PE X (.Dict ks vs pos) (TD G W (fDict l)) := by
  obtain ⟨l1, l2, l3⟩ := h.len
  refine (pe_disp (h.pps (pos := pos)) l1 l2 h0 h15).imp fun σ H Q ⟨φ, S, ρ, rp, er, hq⟩ p hp => ?_
  obtain ⟨ft, rp1, no⟩ := rp.lay (o := .dK []) hp
  refine pairs_read l φ S _ mkDct Q ft rp1 (er.fut ft) upd_same no hq fun φ1 S1 H1 ps kvs f1 rp2 hp1 no1 rk hl h1 => ?_
  refine ⟨hp1, kvs, rfl, by rw [← rk.length, hl, ← l3]; exact h15, ?_⟩
  obtain ⟨rp3, fx, ftn⟩ := rp2.birth (o := .dK (mergeK [] kvs)) (ob := .dct (ps.foldl (fun acc kv => putD acc kv.1 kv.2) [])) hp1 no1 fun H' φ' fx e => ⟨_, e, (RelKs.merge rk .nil).mono fx⟩
  refine h1 _ _ _ (ftn (ft.trans f1) hp) rp3 ?_
  have q : RelD G.K (upd H1 p (.dK (mergeK [] kvs))) (plusAt φ1 S1.length p) (S1 ++ [Ob.dct (ps.foldl (fun acc kv => putD acc kv.1 kv.2) [])]).length (.ref S1.length) (.ref (plusAt φ1 S1.length p S1.length)) := .ref (by simp)
  rw [plusAt_at] at q
  exact q
def fDict0 : Den D := fun _ S => .ok (.ref S.length) (S ++ [.dct []])
theorem de_dict0 {pos : Pos} : PE X (.Dict [] [] pos) (TD G W fDict0) := pe_dnewK.imp fun σ H Q ⟨φ, S, ρ, rp, er, hq⟩ p hp => by
  obtain ⟨ft, rp1⟩ := rp.alloc (o := .dK []) (ob := .dct []) hp fun H' φ' ft e => ⟨[], e, .nil⟩
  refine hq _ _ _ ft rp1 ?_
  have q : RelD G.K (upd H p (.dK [])) (fun l => if l = S.length then p else φ l) (S ++ [Ob.dct []]).length (.ref S.length) (.ref ((fun l => if l = S.length then p else φ l) S.length)) := .ref (by simp)
  simpa using q
/-! ### o.m(..) -/
abbrev Mf := D → List D → Sto → R D
def RDm (G : Gs) (m : Mf) : V → List V → Hp → VK → Prop := fun v vs H Q => ∃ φ S d ds, Rep G H φ S ∧ RelD G.K H φ S.length d v ∧ RelDs G.K H φ S.length ds vs ∧ Post RelD G (fun _ _ _ _ => False) φ S.length H (m d ds S) Q
def NXm (m : Mf) : Prop := ∀ d ds S, (m d ds S).nx
/-- the value's type, as methods go by it -/
def tyD (T : String) (S : Sto) : D → Bool
  | .str _ => decide (T = "str")
  | .ref l => match S[l]? with
    | some (.lst _) => decide (T = "list")
    | some (.fro _) => decide (T = "list")
    | some (.dct _) => decide (T = "dict")
    | _ => false
  | _ => false
def fM (T : String) (m : Mf) (fo : Den D) (fs : Den (List D)) : Den D := fun ρ S => (fo ρ S).bind fun o S1 => if tyD T S1 o = true then (fs ρ S1).bind fun ds S2 => m o ds S2 else .bad
theorem tyD_ok {T : String} {φ : Nat → Addr} {H : Hp} {S : Sto} {d : D} {v : V} (rp : Rep G H φ S) (r : RelD G.K H φ S.length d v) (h : tyD T S d = true) : tyV G.K T v H := by
  cases r with
  | str s =>
    have e : T = "str" := of_decide_eq_true h
    exact e
  | @ref l hl =>
    unfold tyD at h
    cases q : S[l]? with
    | none => simp [q] at h
    | some o =>
      have ob := rp.ob l o q
      cases o with
      | lst xs =>
        simp only [q] at h
        obtain ⟨z, vs, e, _⟩ := ob
        exact .inl ⟨of_decide_eq_true h, vs, .of e⟩
      | fro xs =>
        simp only [q] at h
        obtain ⟨zz, z, vs, e, _⟩ := ob
        exact .inl ⟨of_decide_eq_true h, vs, .inl (.inr ⟨_, e⟩)⟩
      | dct xs =>
        simp only [q] at h
        obtain ⟨vs, e, _⟩ := ob
        exact .inr (.inr (.inl ⟨of_decide_eq_true h, .inl ⟨vs, e⟩⟩))
      | exc _ _ => simp [q] at h
  | _ => cases h
section
variable {o e : Expr} {es : List Expr} {fo : Den D} {fs : Den (List D)} {name : Str} {apos cpos : Pos} {T id : String} {m : Mf}
theorem de_m (hK : X.K = G.K) (pa : PlainAttrs T) (slot : Slot T name id) (hty : typeOf (.builtin id) = pure (.type "method_descriptor")) (hm : MtR X id (RDm G m)) (nx : NXm m) (ho : PE X o (TD G W fo)) (ha : PA X (e :: es) (TDA G W fs))
    (hbase : attributeBase o name X.env (eval o X.env) = eval o X.env)
    (hfew : ((backTo cpos (starEach (e :: es) X.env)).all (fun x => !x.1) && (backToKw cpos (keywordEach [] X.env)).all (fun x => x.1.isSome)
      && decide ((e :: es).length + ([] : List Keyword).length + (if ([] : List Keyword).isEmpty then 0 else 1) < 30)) = true)
    (hline : (apos.endLine == cpos.line) = true) (hs : starEach (e :: es) X.env = (false, eval e X.env) :: starEach es X.env) (hplain : (backTo cpos (starEach es X.env)).any (·.1) = false) :
    PE X (.Call (.Attribute o name apos) (e :: es) [] cpos) (TD G W (fM T m fo fs)) :=
  (pe_bm pa slot hty hm ho ha hbase hfew hline hs hplain).imp fun σ H Q ⟨φ, S, ρ, rp, er, h⟩ => TG.seq rp er h fun φ1 S1 H1 d v f1 rp1 er1 rd h1 => by
    by_cases c : tyD T S1 d = true
    · rw [if_pos c] at h1
      exact ⟨by rw [hK]; exact tyD_ok rp1 rd c, TG.seq rp1 er1 h1 fun φ2 S2 H2 ds vs f2 rp2 er2 rds h2 => ⟨φ2, S2, d, ds, rp2, rd.fut f2, rds, Post.anyW (nx _ _ _) h2⟩⟩
    · rw [if_neg c] at h1
      exact (post_bad h1).elim
theorem de_m0 (hK : X.K = G.K) (pa : PlainAttrs T) (slot : Slot T name id) (hty : typeOf (.builtin id) = pure (.type "method_descriptor")) (hm : MtR X id (RDm G m)) (nx : NXm m) (ho : PE X o (TD G W fo))
    (hbase : attributeBase o name X.env (eval o X.env) = eval o X.env) (hline : (apos.endLine == cpos.line) = true) : PE X (.Call (.Attribute o name apos) [] [] cpos) (TD G W (fM T m fo fNil)) :=
  (pe_bm0 pa slot hty hm ho hbase hline).imp fun σ H Q ⟨φ, S, ρ, rp, er, h⟩ => TG.seq rp er h fun φ1 S1 H1 d v f1 rp1 er1 rd h1 => by
    by_cases c : tyD T S1 d = true
    · rw [if_pos c] at h1
      exact ⟨by rw [hK]; exact tyD_ok rp1 rd c, φ1, S1, d, [], rp1, rd, .nil, Post.anyW (nx _ _ _) h1⟩
    · rw [if_neg c] at h1
      exact (post_bad h1).elim
end
/-! ### append -/
def mAppend : Mf := fun o ds S => match o, ds with
  | .ref l, [d] => (match S[l]? with
    | some (.lst xs) => if xs.length < 16777216 then .ok .non (S.set l (.lst (xs ++ [d]))) else .bad
    | _ => .bad)
  | _, _ => .bad
theorem nx_append : NXm mAppend := fun o ds S => by
  unfold mAppend
  split
  · split
    · exact nx_ite True.intro True.intro
    · exact True.intro
  · exact True.intro
theorem mt_append1 : MtR X "list.append" (RDm G mAppend) := fun pins s σ H x xs v us Q I rx rv ⟨φ, S, d, ds, rp, rd, rds, h⟩ => by
  unfold mAppend at h
  split at h
  · rename_i l y
    obtain ⟨yv, rfl, ry⟩ := one_rel rds
    cases rd with
    | ref hl =>
      split at h
      · rename_i zs q
        by_cases c : zs.length < 16777216
        · rw [if_pos c] at h
          obtain ⟨z, ws, e, rw'⟩ := rp.ob l _ q
          obtain ⟨ft, rp1⟩ := rp.write q (rw'.append (.cons ry .nil)) (by rw [List.length_append, List.length_singleton, sizeLine_eq]; omega)
          refine mt_append pins s σ H _ _ v us Q I rx rv ⟨_, ws, yv, rfl, rfl, e, by rw [← rw'.length, sizeLine_eq]; exact c, ?_⟩
          exact h φ _ .non ft rp1 .non
        · rw [if_neg c] at h
          exact (post_bad h).elim
      · exact (post_bad h).elim
  · exact (post_bad h).elim
end
end DL
end
section
set_option Elab.async false
set_option linter.all false
set_option maxRecDepth 100000
set_option maxHeartbeats 4000000
/-! DL15m: f-strings, methods of texts -/
namespace DL
open PySem PySem.Spec PyProof.Rows L2
section
variable {G : Gs} {W : WX} {X : Cx}
/-! ### f-strings -/
def fmtD (d : D) (S : Sto) : R D := match d with
  | .str y => if y.length ≤ sizeLine then .ok (.str y) S else .bad
  | .int i => if i.natAbs.log2 < 1920 then .ok (.str (toString i)) S else .bad
  | _ => .bad
def fFmt (f : Den D) : Den D := fun ρ S => (f ρ S).bind fmtD
theorem de_fmt {e : Expr} {f : Den D} {pos : Pos} (he : PE X e (TD G W f)) : PE X (.FormattedValue e (-1) none pos) (TD G W (fFmt f)) :=
  (pe_fmt he).imp fun σ H Q ⟨φ, S, ρ, rp, er, h⟩ => TG.seq rp er h fun φ1 S1 H1 d v f1 rp1 er1 rd h1 => by
    cases rd with
    | str y =>
      replace h1 : Post RelD G W φ1 S1.length H1 (if y.length ≤ sizeLine then .ok (.str y) S1 else .bad) Q := h1
      by_cases c : y.length ≤ sizeLine
      · rw [if_pos c] at h1
        exact .inl ⟨y, rfl, c, post_ok h1 rp1 (.str y)⟩
      · rw [if_neg c] at h1
        exact (post_bad h1).elim
    | int i =>
      replace h1 : Post RelD G W φ1 S1.length H1 (if i.natAbs.log2 < 1920 then .ok (.str (toString i)) S1 else .bad) Q := h1
      by_cases c : i.natAbs.log2 < 1920
      · rw [if_pos c] at h1
        exact .inr ⟨i, rfl, c, post_ok h1 rp1 (.str _)⟩
      · rw [if_neg c] at h1
        exact (post_bad h1).elim
    | _ => exact (post_bad h1).elim
def joinK (k : Str → Den D) (acc : Str) (ρ : Ev) (d : D) (S : Sto) : R D := match d with
  | .str y => if (acc ++ y).length ≤ sizeLine then k (acc ++ y) ρ S else .bad
  | _ => .bad
def fJs : List (Den D) → Str → Den D
  | [], acc => fun _ S => .ok (.str acc) S
  | f :: fs, acc => fun ρ S => (f ρ S).bind (joinK (fJs fs) acc ρ)
inductive JsOk (G : Gs) (W : WX) (X : Cx) : List Expr → List (Den D) → Prop
  | nil : JsOk G W X [] []
  | cons {e : Expr} {es : List Expr} {f : Den D} {fs : List (Den D)} (h : PE X e (TD G W f)) (r : JsOk G W X es fs) : JsOk G W X (e :: es) (f :: fs)
theorem JsOk.pj {es : List Expr} {fs : List (Den D)} (h : JsOk G W X es fs) : PJ X es (fs.map fun f => TD G W f) := by
  induction h with
  | nil => exact .nil
  | cons h _ ih => exact .cons h ih
theorem js_read {σ : L2.St} {Q : VK} : ∀ (fs : List (Den D)) (acc : Str) (φ : Nat → Addr) (S : Sto) (ρ : Ev) (H : Hp), Rep G H φ S → EnvR G.K H φ S.length ρ σ → Post RelD G W φ S.length H (fJs fs acc ρ S) Q → tJs (fs.map fun f => TD G W f) acc σ H fun out H1 => Q (.str out) H1
  | [], acc, φ, S, ρ, H, rp, er, h => post_ok (T := RelD) h rp (.str acc)
  | f :: fs, acc, φ, S, ρ, H, rp, er, h => TG.seq rp er h fun φ1 S1 H1 d v f1 rp1 er1 rd h1 => by
    cases rd with
    | str y =>
      replace h1 : Post RelD G W φ1 S1.length H1 (if (acc ++ y).length ≤ sizeLine then fJs fs (acc ++ y) ρ S1 else .bad) Q := h1
      by_cases c : (acc ++ y).length ≤ sizeLine
      · rw [if_pos c] at h1
        exact ⟨y, rfl, c, js_read fs (acc ++ y) φ1 S1 ρ H1 rp1 er1 h1⟩
      · rw [if_neg c] at h1
        exact (post_bad h1).elim
    | _ => exact (post_bad h1).elim
theorem de_js {v1 v2 : Expr} {rest : List Expr} {fs : List (Den D)} {pos : Pos} (h : JsOk G W X (v1 :: v2 :: rest) fs) : PE X (.JoinedStr (v1 :: v2 :: rest) pos) (TD G W (fJs fs Str.empty)) :=
  (pe_joined h.pj).imp fun σ H Q ⟨φ, S, ρ, rp, er, q⟩ => js_read fs Str.empty φ S ρ H rp er q
/-! ### methods of texts -/
def mPartition : Mf := fun d ds S => match d, ds with
  | .str a, [.str b] => if (b.length == 0) = false ∧ a.length ≤ sizeLine then .ok (.tup [.str (Txt.partition a b).1, .str (Txt.partition a b).2.1, .str (Txt.partition a b).2.2]) S else .bad
  | _, _ => .bad
theorem nx_partition : NXm mPartition := fun d ds S => by
  unfold mPartition
  split
  · split <;> exact True.intro
  · exact True.intro
theorem mt_partition1 : MtR X "str.partition" (RDm G mPartition) := fun pins s σ H x xs v us Q I rx rv ⟨φ, S, d, ds, rp, rd, rds, h⟩ => by
  unfold mPartition at h
  split at h
  · rename_i a b
    obtain ⟨yv, rfl, ry⟩ := one_rel rds
    cases rd
    cases ry
    by_cases c : (b.length == 0) = false ∧ a.length ≤ sizeLine
    · rw [if_pos c] at h
      refine mt_partition pins s σ H _ _ v us Q I rx rv ⟨a, b, rfl, rfl, c.1, c.2, fun p hp => ?_⟩
      exact post_tup h rp (.cons (.str _) (.cons (.str _) (.cons (.str _) .nil))) (by rw [sizeLine_eq]; exact Nat.le_of_ble_eq_true rfl) hp
    · rw [if_neg c] at h
      exact (post_bad h).elim
  · exact (post_bad h).elim
end
end DL
end
section
set_option Elab.async false
set_option linter.all false
set_option maxRecDepth 100000
set_option maxHeartbeats 1000000
/-! DL16: isinstance -/
namespace PySem.W
open PySem PySem.Spec PySem.Calls PyProof.Rows
section
variable {prog : Program} {w : World} {A : Around} {E : Value → Shared → Prop} {s : Shared} {K : Frag} {x D : Addr} {ox : Obj} {od : Option Obj}
theorem dl_classOf (C : L2.ExcC K D) : findObj K D od "__class__" = some (.bind (.builtin "getset_descriptor.__get__") (.builtin "object.__class__")) := by
  obtain ⟨cd, hc, _⟩ := any_some C.hd
  unfold findObj
  rw [hc, Option.bind_some, C.ha, Option.bind_some]
  simp [C.hn, C.ht]
theorem dl_attrClass (C : L2.ExcC K D) {Q : Option Value → Shared → Prop} (X : K.In s.heap) (I : InstAt s.heap x ox D od) (h : Q (some (.ref D)) { s with toks := s.toks + 1 }) : wpAny (model prog w) A (getAttr? (.ref x) "__class__") Q E s := by
  obtain ⟨hp, g, d, t, os⟩ := s
  have l0 := I.type (M := model prog w)
  have l1 := looks_findIn (M := model prog w) X C.hg
  have l2 := looks_findIn (M := model prog w) X C.hk
  have l3 := looks_find (M := model prog w) X I (dl_classOf C (od := od))
  have isEx : Looks (model prog w) hp (isInstance (.ref x) (.type "BaseException")) true := l0.andThen (looks_subIn X C.hs)
  have q0 : (false && onTheHeap (Value.builtin "BaseException.__getattribute__")) = false := rfl
  have q1 : (onTheHeap (Value.ref D) && Value.builtin "BaseException.__getattribute__" == Value.builtin "object.__getattribute__") = false := by
    have z : (Value.builtin "BaseException.__getattribute__" == Value.builtin "object.__getattribute__") = false := by decide +kernel
    rw [z]
    rfl
  unfold getAttr? getAttrBy? getAttrBy
  refine wpAny_bind (wpAny_mkText (wpAny_bind (wpAny_attempt (wpAny_holding (wpAny_bind (l0.at (wpAny_bind (l1.at ?_))))))))
  show wpAny _ _ (if (onTheHeap (Value.ref D) && Value.builtin "BaseException.__getattribute__" == Value.builtin "object.__getattribute__") = true then _ else _) _ _ _
  rw [q1, if_neg Bool.false_ne_true]
  unfold getAttrByItsOwn hookBefore
  refine wpAny_bind ?_
  rw [if_pos (show onTheHeap (Value.ref D) = true from rfl)]
  refine l2.at (wpAny_bind (wpAny_attempt (wpAny_holding ?_)))
  unfold callGetattribute
  rw [q0, if_neg Bool.false_ne_true]
  unfold boundAndCalled
  rw [PySem.F.excAttr_ValueError.ga.bind (.ref x)]
  refine wpAny_bind (wpAny_pure ?_)
  show wpAny _ _ (call (.builtin "BaseException.__getattribute__") [.ref x, .str "__class__" t]) _ _ _
  refine wpAny_call (codeAny_call_builtin PySem.F.excAttr_ValueError.ga.plain PySem.F.entry_bexc_ga ?_)
  refine @check_slot (model prog w) _ _ ⟨hp, g, d, t + 1, os⟩ "BaseException.__getattribute__" "BaseException" "__getattribute__" (.ref x) [.str "__class__" t] [] _ (by decide +kernel) (by decide +kernel) isEx (PySem.F.args_bexc_ga (.ref x) (.str "__class__" t)) ?_
  unfold Builtin.«object.__getattribute__»
  refine wpAny_bind (wpAny_of_eq (a := ((Value.ref x : Value), [Value.str "__class__" t])) (by first | rfl | (simp only [slotArgs]; rfl)) ?_)
  refine wpAny_bind (wpAny_pure (wpAny_bind (l0.at (wpAny_bind (l3.at ?_)))))
  show wpAny _ _ (holding [Value.builtin "object.__class__"] (call (.builtin "getset_descriptor.__get__") [.builtin "object.__class__", .ref x, .ref D]) >>= ret) _ _ _
  refine wpAny_bind (wpAny_holding (wpAny_call (class_get (s := ⟨hp, g, d, t + 1, os⟩) (ox := ox) (od := od) X I C.hm ?_)))
  refine wpAny_pure ?_
  show wpAny _ _ (handedOut (.ref D)) _ _ _
  rw [handedOut_of (v := .ref D) rfl]
  first
    | exact wpAny_pure (wpAny_pure h)
    | exact wpAny_pure h
    | exact wpAny_pure (wpAny_bind (wpAny_pure (wpAny_pure h)))
theorem dl_kitExc (C : L2.ExcC K D) : KitX K (.ref x) (.ref D) (fun h => InstAt h x ox D od) where
  ty := fun _ _ _ I => I.type
  it := fun _ _ X _ => by
    obtain ⟨cd, hc, _⟩ := any_some C.hd
    unfold clsIn at hc
    split at hc
    · rename_i c' d' cd' sl' ho
      exact fun A' Q' E' s' k q => by
        unfold isType loadHead
        exact wpAny_bind (wpAny_loadPart (k _ _ (X _ _ ho)) (wpAny_pure q))
    · cases hc
  ne := fun h tp dd its n sl X htp => by
    obtain ⟨cd, hc, _⟩ := any_some C.hd
    cases b : (Value.ref D == .ref tp) with
    | false => rfl
    | true =>
      have e : D = tp := Value.ref.inj (beq_iff_eq.mp b)
      subst e
      unfold clsIn at hc
      split at hc
      · rename_i c' d' cd' sl' ho
        cases (X _ _ ho).symm.trans htp
      · cases hc
  ca := fun X I k => dl_attrClass C X I k
end
end PySem.W
namespace DL
open PySem PySem.Spec PyProof.Rows L2
inductive Ty where
  | b (t : String) | x (c : Str)
def Ty.val (G : Gs) : Ty → Value
  | .b t => .type t
  | .x c => .ref (G.cA c)
def clsD (S : Sto) : D → Option Ty
  | .non => some (.b "NoneType")
  | .bl _ => some (.b "bool")
  | .int _ => some (.b "int")
  | .str _ => some (.b "str")
  | .tup _ => some (.b "tuple")
  | .ref l => match S[l]? with
    | some (.lst _) => some (.b "list")
    | some (.fro _) => some (.b "list")
    | some (.dct _) => some (.b "dict")
    | some (.exc c _) => some (.x c)
    | none => none
section
variable {G : Gs} {W : WX} {X : Cx}
theorem clsD_kit (hK : X.K = G.K) {pins : List (Addr × Obj)} {σ : L2.St} {H : Hp} {s : Shared} {φ : Nat → Addr} {S : Sto} {d : D} {v : V} {u : Value} {t : Ty} (hx : ∀ c, t = .x c → ExcC X.K (G.cA c)) (I : Inv X pins σ H s) (rp : Rep G H φ S) (rd : RelD G.K H φ S.length d v) (rv : RelV v u) (h : clsD S d = some t) :
    ∃ P : Heap → Prop, PySem.W.KitX X.K u (t.val G) P ∧ P s.heap ∧ u ≠ .builtin "__main__.__loader__#opaque" := by
  cases rd with
  | non => cases h; exact kit_of I rv (.base .non)
  | bl b => cases h; exact kit_of I rv (.base (.bl b))
  | int i => cases h; exact kit_of I rv (.base (.int i))
  | str z => cases h; exact kit_of I rv (.base (.str z))
  | @tup a _ vs hl q r =>
    cases h
    rw [← hK] at q
    obtain ⟨its, _, ⟨o, h1, h2, _⟩, _⟩ := I.tuple q
    obtain rfl : u = Value.ref a := rv
    exact ⟨_, PySem.W.kitx_tuple, ⟨o, h1, h2⟩, fun z => nomatch z⟩
  | @ref l hl =>
    unfold clsD at h
    cases q : S[l]? with
    | none => simp [q] at h
    | some o =>
      have ob := rp.ob l o q
      cases o with
      | lst xs =>
        simp only [q] at h
        cases h
        obtain ⟨z, vs, e, _⟩ := ob
        exact kit_of I rv (.base (.lst e))
      | fro xs =>
        simp only [q] at h
        cases h
        obtain ⟨zz, z, vs, e, _⟩ := ob
        exact kit_of I rv (.base (.frz e))
      | dct xs =>
        simp only [q] at h
        cases h
        obtain ⟨vs, e, _⟩ := ob
        exact kit_of I rv (.base (.dK e))
      | exc c fs =>
        simp only [q] at h
        cases h
        obtain ⟨d, vs, e1, e2, r⟩ := ob
        obtain rfl : u = Value.ref (φ l) := rv
        obtain ⟨t1, ho⟩ := exo_at I.hok e1
        obtain ⟨mA, ⟨od, es, ep, hd1, hd2, _⟩, _⟩ := exd_at I.hok e2
        exact ⟨_, PySem.W.dl_kitExc (od := some od) (hx c rfl), ⟨ho, rfl, rfl, hd1⟩, fun z => nomatch z⟩
/-- isinstance(e, class) -/
def fIsi (ans : Ty → Option Bool) (f : Den D) : Den D := fun ρ S => (f ρ S).bind fun d S1 => optR (clsD S1 d) fun t => optR (ans t) fun b => .ok (.bl b) S1
theorem de_isi {ans : Ty → Option Bool} {c : V} {cv : Value} {e ce : Expr} {f : Den D} {p pos : Pos} (hK : X.K = G.K) (hans : ∀ t b, ans t = some b → PySem.W.kitOne X.K (t.val G) cv = some b) (hx : ∀ n b, ans (.x n) = some b → ExcC X.K (G.cA n)) (hc : ClsV c cv) (he : PE X e (TD G W f)) (hce : PE X ce (tC c))
    (hg : Gl X "isinstance") (hm : X.mg "isinstance" = none) (hs : starEach [e, ce] X.env = (false, eval e X.env) :: starEach [ce] X.env) (hs2 : starEach [ce] X.env = [(false, eval ce X.env)]) : PE X (.Call (.Name "isinstance" p) [e, ce] [] pos) (TD G W (fIsi ans f)) := by
  have rd : CallR X (.builtin "isinstance") (fun xs H Q => ∃ φ S d v, xs = [v, c] ∧ Rep G H φ S ∧ RelD G.K H φ S.length d v ∧ Post RelD G (fun _ _ _ _ => False) φ S.length H (optR (clsD S d) fun t => optR (ans t) fun b => .ok (.bl b) S) Q) := by
    intro pins s σ H xs us Q I r ⟨φ, S, d, v, ex, rp, rd, h⟩
    subst ex
    obtain ⟨u1, u2, rfl, r1, r2⟩ := vals2 r
    obtain ⟨t, e1, h⟩ := post_opt (o := clsD S d) h
    obtain ⟨b, e2, h⟩ := post_opt h
    have e3 := hc.eq r2
    subst e3
    obtain ⟨P, Z, hp, hne⟩ := clsD_kit hK (fun n en => hx n b (by rw [← en]; exact e2)) I rp rd r1 e1
    exact PySem.W.kia_one Z I.kIn hp (hans t b e2) hne fun tk => ⟨.bl b, H, I.tok tk, rfl, post_ok h rp (.bl b)⟩
  refine (pe_callB rd hg hm rfl (pa_cons he (pa_cons hce pa_nil hs2) hs) (he := hs) (hpl := by rw [hs2]; rfl)).imp fun σ H Q ⟨φ, S, ρ, rp, er, h⟩ => TG.seq rp er h fun φ1 S1 H1 d v f1 rp1 er1 rd1 h1 => ?_
  exact ⟨φ1, S1, d, v, rfl, rp1, rd1, Post.anyW (optR_nx (o := clsD S1 d) fun t => optR_nx fun b => True.intro) h1⟩
end
end DL
end
section
set_option Elab.async false
set_option linter.all false
set_option maxRecDepth 100000
set_option maxHeartbeats 1000000
/-! DL17: repr -/
namespace DL
open PySem PySem.Spec PyProof.Rows L2
def keyP : Key → PyData
  | .inl i => .int i
  | .inr x => .str x
def kvO (f : D → Option PyData) : List (Key × D) → Option (List (PyData × PyData))
  | [] => some []
  | x :: xs => match f x.2 with
    | some y => (match kvO f xs with
      | some ys => some ((keyP x.1, y) :: ys)
      | none => none)
    | none => none
/-- a value as data, with dicts -/
def resR (S : Sto) : Nat → D → Option PyData
  | 0, _ => none
  | _ + 1, .non => some .none
  | _ + 1, .bl b => some (.bool b)
  | _ + 1, .int i => some (.int i)
  | _ + 1, .str s => some (.str s)
  | n + 1, .tup xs => (mapO (resR S n) xs).map .tuple
  | n + 1, .ref l => match S[l]? with
    | some (.lst xs) => (mapO (resR S n) xs).map .list
    | some (.fro xs) => (mapO (resR S n) xs).map .list
    | some (.dct kvs) => (kvO (resR S n) kvs).map .dict
    | _ => none
section
variable {G : Gs} {W : WX} {X : Cx} {pins : List (Addr × Obj)} {σ : L2.St} {H : Hp} {s : Shared} {φ : Nat → Addr} {S : Sto}
/-- what such data are, in the heap -/
def RdR (s : Shared) (n : Nat) (u : Value) (p : PyData) : Prop := ∃ as, Reads s.heap u p as ∧ sysModules ∉ as ∧ p.depth ≤ n
def RdRs (s : Shared) (n : Nat) (us : List Value) (ps : List PyData) : Prop := ∃ as, ReadsAll s.heap us ps as ∧ sysModules ∉ as ∧ PyData.depthAll ps ≤ n
theorem mapO_rdr {m n : Nat} (f : D → Option PyData) (ih : ∀ d v u p, RelD G.K H φ m d v → RelV v u → f d = some p → RdR s n u p) :
    ∀ (xs : List D) (vs : List V) (us : List Value) (ps : List PyData), RelDs G.K H φ m xs vs → Vals vs us → mapO f xs = some ps → RdRs s n us ps
  | [], _, _, _, .nil, .nil, e => by
    cases e
    exact ⟨[], .nil, by simp, Nat.zero_le _⟩
  | x :: xs, _, _, _, .cons h r, .cons q t, e => by
    unfold mapO at e
    cases e1 : f x with
    | none => rw [e1] at e; cases e
    | some y =>
      rw [e1] at e
      cases e2 : mapO f xs with
      | none => rw [e2] at e; cases e
      | some ys =>
        rw [e2] at e
        cases e
        obtain ⟨as, a1, a2, a3⟩ := ih _ _ _ _ h q e1
        obtain ⟨bs, b1, b2, b3⟩ := mapO_rdr f ih xs _ _ ys r t e2
        refine ⟨as ++ bs, .cons a1 b1, ?_, ?_⟩
        · rw [List.mem_append]
          exact fun z => z.elim a2 b2
        · simp only [PyData.depthAll]
          omega
theorem kvO_rdr {m n : Nat} (f : D → Option PyData) (ih : ∀ d v u p, RelD G.K H φ m d v → RelV v u → f d = some p → RdR s n u p) :
    ∀ (xs : List (Key × D)) (vs : List (Key × V)) (us : List (Key × Value)) (ps : List (PyData × PyData)), RelKs G.K H φ m xs vs → KV vs us → kvO f xs = some ps → ∃ as, PyProof.V.PairsRead s.heap keyP us ps as ∧ sysModules ∉ as ∧ PyData.depthKv ps ≤ n
  | [], _, _, _, .nil, .nil, e => by
    cases e
    exact ⟨[], .nil, by simp, Nat.zero_le _⟩
  | x :: xs, _, _, _, .cons h r, .cons q t, e => by
    unfold kvO at e
    cases e1 : f x.2 with
    | none => simp only [e1] at e; cases e
    | some y =>
      simp only [e1] at e
      cases e2 : kvO f xs with
      | none => simp only [e2] at e; cases e
      | some ys =>
        simp only [e2] at e
        cases e
        obtain ⟨q1, q2⟩ := q
        obtain ⟨as, a1, a2, a3⟩ := ih _ _ _ _ h q2 e1
        obtain ⟨bs, b1, b2, b3⟩ := kvO_rdr f ih xs _ _ ys r t e2
        have hk : (keyP x.1).depth = 0 := by cases x.1 <;> simp only [keyP, PyData.depth]
        refine ⟨as ++ bs, ?_, ?_, ?_⟩
        · have e : x.1 = _ := q1
          rw [e]
          exact .cons a1 b1
        · rw [List.mem_append]
          exact fun z => z.elim a2 b2
        · simp only [PyData.depthKv]
          omega
theorem sys_ne (rp : Rep G H φ S) {a : Addr} {o : HO} (e : H a = some o) (h : ∀ ob f, o ≠ .frz ob (.ext f)) : sysModules ≠ a := fun z => by
  obtain ⟨ob, f, q⟩ := rp.sys
  rw [z, e] at q
  exact h _ _ (Option.some.inj q)
theorem resR_reads (hK : X.K = G.K) (I : Inv X pins σ H s) (rp : Rep G H φ S) : ∀ (n : Nat) (d : D) (v : V) (u : Value) (p : PyData), RelD G.K H φ S.length d v → RelV v u → resR S n d = some p → RdR s n u p
  | 0, _, _, _, _, _, _, e => by cases e
  | n + 1, _, _, _, _, .non, q, e => by
    cases e
    cases q
    exact ⟨[], .none, by simp, by simp only [PyData.depth]; omega⟩
  | n + 1, _, _, _, _, .bl b, q, e => by
    cases e
    cases q
    exact ⟨[], .bool b, by simp, by simp only [PyData.depth]; omega⟩
  | n + 1, _, _, _, _, .int i, q, e => by
    cases e
    obtain ⟨t, rfl⟩ := q
    exact ⟨[], .int i t, by simp, by simp only [PyData.depth]; omega⟩
  | n + 1, _, _, _, _, .str x, q, e => by
    cases e
    obtain ⟨t, rfl⟩ := q
    exact ⟨[], .str x t, by simp, by simp only [PyData.depth]; omega⟩
  | n + 1, _, _, _, _, .tup (a := a) hl h r, q, e => by
    unfold resR at e
    obtain ⟨ps, e1, e2⟩ := Option.map_eq_some_iff.mp e
    subst e2
    obtain rfl : _ = Value.ref a := q
    rw [← hK] at h
    obtain ⟨its, rv, ⟨o, h1, h2, m, h3⟩, _⟩ := I.tuple h
    obtain ⟨as, a1, a2, a3⟩ := mapO_rdr (resR S n) (resR_reads hK I rp n) _ _ its ps r rv e1
    exact ⟨as, .tuple h1 h2 h3 (by rw [List.toList_toArray]; exact a1), a2, by simp only [PyData.depth]; omega⟩
  | n + 1, _, _, _, _, .ref (l := l) h, q, e => by
    unfold resR at e
    obtain rfl : _ = Value.ref (φ l) := q
    cases k : S[l]? with
    | none => rw [k] at e; cases e
    | some o =>
      rw [k] at e
      have ob := rp.ob l o k
      cases o with
      | lst xs =>
        obtain ⟨ps, e1, e2⟩ := Option.map_eq_some_iff.mp e
        subst e2
        obtain ⟨_, vs, hv, r⟩ := ob
        obtain ⟨its, rv, pl, _⟩ := I.list (.of hv)
        obtain ⟨o, h1, h2, m, h3⟩ := pl.isList
        obtain ⟨as, a1, a2, a3⟩ := mapO_rdr (resR S n) (resR_reads hK I rp n) _ _ its ps r rv e1
        refine ⟨_ :: as, .list h1 h2 h3 (by rw [List.toList_toArray]; exact a1), ?_, by simp only [PyData.depth]; omega⟩
        exact fun z => (List.mem_cons.mp z).elim (sys_ne rp hv fun _ _ z => by cases z) a2
      | fro xs =>
        obtain ⟨ps, e1, e2⟩ := Option.map_eq_some_iff.mp e
        subst e2
        obtain ⟨_, ob', vs, hv, r⟩ := ob
        obtain ⟨its, rv, pl, _⟩ := I.list (.inl (.inr ⟨_, hv⟩))
        obtain ⟨o, h1, h2, m, h3⟩ := pl.isList
        obtain ⟨as, a1, a2, a3⟩ := mapO_rdr (resR S n) (resR_reads hK I rp n) _ _ its ps r rv e1
        refine ⟨_ :: as, .list h1 h2 h3 (by rw [List.toList_toArray]; exact a1), ?_, by simp only [PyData.depth]; omega⟩
        exact fun z => (List.mem_cons.mp z).elim (sys_ne rp hv fun _ _ z => by cases z) a2
      | dct kvs =>
        obtain ⟨ps, e1, e2⟩ := Option.map_eq_some_iff.mp e
        subst e2
        obtain ⟨vs, hv, r⟩ := ob
        obtain ⟨_, _, us, rv, dd⟩ := dk_of I.hok hv
        obtain ⟨as, a1, a2, a3⟩ := kvO_rdr (resR S n) (resR_reads hK I rp n) _ _ us ps r rv e1
        refine ⟨_ :: as, PyProof.V.reads_dictOf (enc := keyP) (fun k key hk => ?_) dd a1, ?_, by simp only [PyData.depth]; omega⟩
        · rcases keyIs_shape hk with ⟨i, t, rfl, rfl⟩ | ⟨x, t, rfl, rfl⟩
          · exact .int i t
          · exact .str x t
        · exact fun z => (List.mem_cons.mp z).elim (sys_ne rp hv fun _ _ z => by cases z) a2
      | exc _ _ => cases e
/-- repr of data -/
def bRepr : D → Sto → R D := fun d S => optR (resR S 40 d) fun p => if p.showable = true ∧ p.shown.length ≤ 16777216 then .ok (.str p.shown) S else .bad
theorem nx_repr : NXf (b1 bRepr) := nx_b1 fun d S => optR_nx (o := resR S 40 d) fun p => nx_ite True.intro True.intro
theorem cr_repr (hK : X.K = G.K) (hu : X.A.units + 65 < cLine) (hgd : X.A.guards = some []) : CallR X (.builtin "repr") (RDf G (b1 bRepr)) := cr_b1 fun pins s σ H v us Q φ S d I r rp rd h => by
  obtain ⟨p, e, h⟩ := post_opt (o := resR S 40 d) h
  by_cases c : p.showable = true ∧ p.shown.length ≤ 16777216
  · rw [if_pos c] at h
    obtain ⟨u, rfl, ru⟩ := vals1 r
    obtain ⟨as, ra, hs, hd⟩ := resR_reads hK I rp 40 d v u p rd ru e
    have q : Q (.str p.shown) H := post_ok h rp (.str _)
    have hz : p.shown.length ≤ sizeLine := by rw [sizeLine_eq]; exact c.2
    cases ra with
    | none => exact PySem.P.repr_of_none ⟨.str _, H, I.tok _, ⟨_, rfl⟩, by simpa only [PyData.shown] using q⟩
    | bool b => exact PySem.P.repr_of_bool ⟨.str _, H, I.tok _, ⟨_, rfl⟩, by simpa only [PyData.shown] using q⟩
    | int i t =>
      have hsh := c.1
      simp only [PyData.showable, decide_eq_true_eq] at hsh
      exact PySem.P.repr_of_int hsh ⟨.str _, H, I.tok _, ⟨_, rfl⟩, by simpa only [PyData.shown] using q⟩
    | str x t =>
      simp only [PyData.shown] at hz
      exact PySem.P.repr_of_str ⟨.str _, H, I.tok _, ⟨_, rfl⟩, by simpa only [PyData.shown] using q⟩ (hsz := hz)
    | list a1 a2 a3 a4 => exact PySem.repr_of_reads' (.list a1 a2 a3 a4) c.1 (fun _ => hs) hgd (by omega) (fun _ _ z => z) (fun h' u tk hk => ⟨.str _, H, I.kept (t' := tk) hk, ⟨u, rfl⟩, q⟩) hz
    | tuple a1 a2 a3 a4 => exact PySem.repr_of_reads' (.tuple a1 a2 a3 a4) c.1 (fun _ => hs) hgd (by omega) (fun _ _ z => z) (fun h' u tk hk => ⟨.str _, H, I.kept (t' := tk) hk, ⟨u, rfl⟩, q⟩) hz
    | dict a1 a2 a3 a4 a5 => exact PySem.repr_of_reads' (.dict a1 a2 a3 a4 a5) c.1 (fun _ => hs) hgd (by omega) (fun _ _ z => z) (fun h' u tk hk => ⟨.str _, H, I.kept (t' := tk) hk, ⟨u, rfl⟩, q⟩) hz
  · rw [if_neg c] at h
    exact (post_bad h).elim
end
end DL
end
section
set_option Elab.async false
set_option linter.all false
set_option maxRecDepth 100000
set_option maxHeartbeats 4000000
/-! DL17x: exceptions made as values -/
namespace DL
open PySem PySem.Spec PyProof.Rows L2
def isStar : Expr → Bool
  | .Starred .. => true
  | _ => false
theorem star_eq {e : Expr} {es : List Expr} {env : Env} (h : isStar e = false) : starEach (e :: es) env = (false, eval e env) :: starEach es env := by
  cases e <;> first | rfl | cases h
section
variable {X : Cx}
/-- B.__init__(self, ..) where B is an own class over ValueError without an __init__ -/
theorem pe_clsinit {pl : Sem Bool} {x : Str} {B : Addr} {mc : Value} {e : Expr} {es : List Expr} {ta : TA} {p1 p2 pos : Pos} (hg : Gl X x) (hm : X.mg x = some (.ref B)) (hdb : (x == ("__debug__" : Str)) = false) (rd : PySem.W.readsIn X.K B mc = true) (ga : PySem.W.specialIn X.K (.ref B) "__getattribute__" = some (some (.builtin "type.__getattribute__")))
    (at_ : PySem.W.findCls X.K (.ref B) mc "__init__" = some (.val (.builtin "ValueError.__init__"))) (ha : PA X (e :: es) ta)
    (hc : eval (.Call (.Attribute (.Name x p1) "__init__" p2) (e :: es) [] pos) X.env = (do
      let ov ← eval (.Name x p1) X.env
      standAt p2.atName
      let (f, first) ← holding [ov] (getMethod ov "__init__" pl)
      callWith pos f first (backTo pos (starEach (e :: es) X.env)) (backToKw pos (keywordEach [] X.env))))
    (he : starEach (e :: es) X.env = (false, eval e X.env) :: starEach es X.env) (hpl : (backTo pos (starEach es X.env)).any (·.1) = false) :
    PE X (.Call (.Attribute (.Name x p1) "__init__" p2) (e :: es) [] pos) (tVeI X.K ta) := by
  refine ⟨fun pins s σ H Q I h => ?_⟩
  refine PySem.W.methodCall_KW (ld_glob I hg hm ?_ hdb) hc
  refine PySem.W.method_cls I.kIn ga (PySem.W.cls_value I.kIn rd at_ (by rfl) ?_)
  show wpAny _ _ (callWith pos (Value.builtin "ValueError.__init__") [] (backTo pos (starEach (e :: es) X.env)) []) _ _ _
  refine PyProof.Rows.callWith_method1 (thn (ha.run pos pins _ σ H _ (I.tok _) h) fun us s1 ⟨vs, H1, I1, r1, a, C, ws, ev, hl, T, ea, q⟩ => ?_) he hpl
  subst ev
  cases r1 with
  | @cons _ u0 _ ur ra rw' =>
    obtain rfl : u0 = Value.ref a := ra
    exact oinit_ok T I1 ea (by rw [← Paired.length rw', sizeLine_eq]; omega) fun s' J => ⟨.non, H1, J, rfl, q⟩
theorem call_form {x m : Str} {p1 p2 pos : Pos} {e e2 : Expr} {env : Env} (h1 : isStar e = false) (h2 : isStar e2 = false) (hl : (p2.endLine == pos.line) = true) : eval (.Call (.Attribute (.Name x p1) m p2) [e, e2] [] pos) env = (do
      let ov ← eval (.Name x p1) env
      standAt p2.atName
      let (f, first) ← holding [ov] (getMethod ov m (plainOf (.Name x p1) env))
      callWith pos f first (backTo pos (starEach [e, e2] env)) (backToKw pos (keywordEach [] env))) := by
  have hf : methodCallForm 2 (backTo pos (starEach [e, e2] env)) (backToKw pos (keywordEach [] env)) = true := by
    rw [star_eq h1, star_eq h2]
    rfl
  have h : ∀ ov, methodCall (.Name x p1) m p2 pos env ov 2 (backTo pos (starEach [e, e2] env)) (backToKw pos (keywordEach [] env)) = (do
      let (f, first) ← holding [ov] (getMethod ov m (plainOf (.Name x p1) env))
      callWith pos f first (backTo pos (starEach [e, e2] env)) (backToKw pos (keywordEach [] env))) := fun ov => mcall_line hf hl
  show (do
    let ov ← eval (.Name x p1) env
    standAt p2.atName
    methodCall (.Name x p1) m p2 pos env ov 2 (backTo pos (starEach [e, e2] env)) (backToKw pos (keywordEach [] env))) = _
  simp only [h]
/-- what such an __init__ does -/
def spInit (C : Addr) (fld : Str) : Sp := fun vs H Q _ => ∃ (a : Addr) (y : V), vs = [.ref a, y] ∧ H a = some (exo a C none) ∧ ∀ dx, H dx = none → dx ≠ a → Q .non (upd (upd H dx (exd dx [(fld, y)])) a (exo a C (some dx)))
/-- the class's text and facts -/
structure XcOk (K : PySem.W.Frag) (C : Addr) (fld : Str) (fI : Addr) (fd : FuncData) : Prop where
  T : OexC K C
  iC : PySem.W.findIn K (.ref C) "__init__" = some (some (.ref fI))
  tI : PySem.W.typeIn K (.ref fI) = some (.type "function")
  no : PySem.W.findIn K (.ref C) fld = some none
/-- C(e) as a value -/
def fMkx (c fld : Str) (f : Den D) : Den D := fun ρ S => (f ρ S).bind fun d S1 => .ok (.ref S1.length) (S1 ++ [.exc c [(fld, d)]])
theorem upd_upd_same {H : Hp} {a : Addr} {o u : HO} {p : Addr} {v : HO} (h : p ≠ a) : upd (upd (upd H a o) p v) a u = upd (upd H p v) a u := by
  funext b
  by_cases c : b = a
  · rw [c, upd_same, upd_same]
  · rw [upd_ne c, upd_ne c]
    by_cases c2 : b = p
    · rw [c2, upd_same, upd_same]
    · rw [upd_ne c2, upd_ne c2, upd_ne c]
theorem exd_ext {d : Addr} {fs : List (Str × V)} : ∃ φ, exd d fs = .ext φ := ⟨_, rfl⟩
theorem pe_mkx {G : Gs} {W : WX} {CX : CXT} {x c fld : Str} {fI : Addr} {k : Nat} {fd : FuncData} {p pos : Pos} {e : Expr} {f : Den D} (hK : X.K = G.K) (T : XcOk X.K (G.cA c) fld fI fd)
    (F1 : FnOk X.prog X.w X.K X.mg X.base CX k fI fd ["self", "given"] (spInit (G.cA c) fld)) (hr : Room (k + 1) X.A) (hb : Binds X.K fd ["self", "given"] []) (hx : Passes CX X (fun _ _ _ => False)) (hg : Gl X x) (hm : X.mg x = some (.ref (G.cA c))) (he' : PE X e (TD G W f))
    (hdb : (x == ("__debug__" : Str)) = false) (he : starEach [e] X.env = (false, eval e X.env) :: starEach [] X.env) :
    PE X (.Call (.Name x p) [e] [] pos) (TD G W (fMkx c fld f)) := by
  refine ⟨fun pins s σ H Q I ⟨φ, S, ρ, rp, er, h⟩ => ?_⟩
  obtain ⟨nm, q, N, bs, bm, sn, sub, ab, col, dd, k0, k1, k2, k3, k5, hC, hbm⟩ := T.T.cls
  refine wpAny_Call_Name_kw (ld_glob I hg hm ?_ hdb)
  refine PySem.W.callWith_K (h₀ := X.base) I.ok.mod.kin T.T.kC (thn ((pa_cons he' pa_nil he).run pos pins s σ H (fun vs H1 => ∃ y, vs = [y] ∧ ∃ φ1 S1 d, Rep G H1 φ1 S1 ∧ RelD G.K H1 φ1 S1.length d y ∧ Post RelD G W φ1 S1.length H1 (.ok (.ref S1.length) (S1 ++ [.exc c [(fld, d)]])) Q) I
    (TG.seq rp er h fun φ1 S1 H1 d v f1 rp1 er1 rd h1 => ⟨v, rfl, φ1, S1, d, rp1, rd, h1⟩)) fun us s1 ⟨vs, H1, I1, r1, y, ev, φ1, S1, d, rp1, rd, h1⟩ => ⟨I1.kIn, ?_⟩) he rfl
  subst ev
  show wpAny _ _ (call (.ref (G.cA c)) us) _ _ _
  obtain ⟨hp, g, dr, tk, os⟩ := s1
  have hsz : hp.objs.size ≤ hp.objs.size + 1 := Nat.le_succ _
  have hn : H1 (hp.objs.size + 1) = none := I1.hok.fresh hsz
  have kk : ∀ b o, hp.get? b = some o → ((hp.push (PySem.W.kdv_tup us)).push (PySem.HandSPX.excO (G.cA c) hp.objs.size)).get? b = some o := fun b o e => Heap.get?_push_of_some _ (Heap.get?_push_of_some _ e)
  have hget : ((hp.push (PySem.W.kdv_tup us)).push (PySem.HandSPX.excO (G.cA c) hp.objs.size)).get? (hp.objs.size + 1) = some (PySem.HandSPX.excO (G.cA c) hp.objs.size) := by heap_get
  have I2 : Inv X pins σ (upd H1 (hp.objs.size + 1) (exo (hp.objs.size + 1) (G.cA c) none)) ⟨(hp.push (PySem.W.kdv_tup us)).push (PySem.HandSPX.excO (G.cA c) hp.objs.size), g, dr, tk, os⟩ :=
    I1.laid (t' := tk) (a := hp.objs.size + 1) (o := exo (hp.objs.size + 1) (G.cA c) none) (h' := (hp.push (PySem.W.kdv_tup us)).push (PySem.HandSPX.excO (G.cA c) hp.objs.size)) kk hsz (exo_ok hget)
  have r2 : Vals [V.ref (hp.objs.size + 1), y] (Value.ref (hp.objs.size + 1) :: us) := .cons rfl r1
  have hl : (Value.ref (hp.objs.size + 1) :: us).length = 2 := r2.length.symm
  have hus : us.length ≤ sizeLine := by
    rw [← Paired.length r1, sizeLine_eq]
    show 1 ≤ _
    omega
  -- what stands behind it
  have want : spInit (G.cA c) fld [V.ref (hp.objs.size + 1), y] (upd H1 (hp.objs.size + 1) (exo (hp.objs.size + 1) (G.cA c) none)) (fun v H2 => v = .non ∧ Q (.ref (hp.objs.size + 1)) H2) fun _ _ _ => False := by
    refine ⟨_, y, rfl, upd_same, fun dx hd ne => ⟨rfl, ?_⟩⟩
    rw [upd_upd_same ne]
    rw [upd_ne ne] at hd
    obtain ⟨ft0, rp2, no⟩ := rp1.lay (o := exd dx [(fld, y)]) hd
    have hn2 : upd H1 dx (exd dx [(fld, y)]) (hp.objs.size + 1) = none := by rw [upd_ne (Ne.symm ne)]; exact hn
    obtain ⟨ft1, rp3⟩ := rp2.alloc (o := exo (hp.objs.size + 1) (G.cA c) (some dx)) (ob := .exc c [(fld, d)]) hn2 fun H' φ' ft e => by
      refine ⟨dx, [(fld, y)], e, ?_, .cons ((rd.fut ft0).fut ft) .nil⟩
      exact ft.keep dx _ upd_same no
    refine h1 _ _ _ (ft0.trans ft1) rp3 ?_
    have q2 : RelD G.K (upd (upd H1 dx (exd dx [(fld, y)])) (hp.objs.size + 1) (exo (hp.objs.size + 1) (G.cA c) (some dx))) (fun l => if l = S1.length then hp.objs.size + 1 else φ1 l) (S1 ++ [Ob.exc c [(fld, d)]]).length (.ref S1.length) (.ref ((fun l => if l = S1.length then hp.objs.size + 1 else φ1 l) S1.length)) := .ref (by simp)
    simpa using q2
  have bb := hb _ (Value.ref (hp.objs.size + 1) :: us) I2.kIn (by rw [List.append_nil]; exact hl)
  rw [List.append_nil] at bb
  refine wpAny_call (PySem.HandSPX.call_own F.excBase_ValueError (fun Y => PySem.HandSPX.refsVE_contains Y bm hbm) (I1.kIn _ _ hC) (PySem.W.looks_findIn I1.kIn T.iC) (fun self => PySem.W.bind_fn I1.kIn self T.tI) hus
    (codeAny_mono (F1.run _ X.stack _ _ ⟨Value.ref (hp.objs.size + 1) :: us, []⟩ (Value.ref (hp.objs.size + 1) :: us) _ _ (fun _ _ _ => False) (hr.make (G.cA c) us []) (I2.env0.make (G.cA c) us []) bb r2 want) fun r s' hq' => ?_))
  match r, hq' with
  | .error u, hq' => exact hx pins σ _ _ u s' I2 hq'
  | .ok .next, hq' => exact False.elim hq'
  | .ok .brk, hq' => exact False.elim hq'
  | .ok .cont, hq' => exact False.elim hq'
  | .ok (.ret u), hq' =>
    obtain ⟨v, H2, J, rv, ev, q2⟩ := I2.after hq'
    subst ev
    exact ⟨rv, ⟨V.ref (hp.objs.size + 1), H2, J, rfl, q2⟩⟩
/-- such an __init__ keeps its promise -/
theorem init_fn {P : Program} {w : World} {K : PySem.W.Frag} {mg : Str → Option Value} {base : Heap} {CX : CXT} {nm qual bx fld txt : Str} {params : Arguments} {scope : Scope} {fI C B : Addr} {mc : Value} {fd : FuncData} {p1 p2 p3 p4 p5 p6 q1 q2 q3 q4 : Pos} {j : Nat}
    (F : FunD K nm qual params [.Expr (.Call (.Attribute (.Name bx p1) "__init__" p2) [.Name "self" p3, .Constant (.str txt) j p4] [] p5) p6, .Assign [.Attribute (.Name "self" q1) fld q2] (.Name "given" q3) q4] scope [] [] fI fd)
    (Sc : FnScope ["self", "given"] ["self", "given"] scope) (hb : scope.names.lookup bx = some .globalImplicit) (hdb : (bx == ("__debug__" : Str)) = false) (hs : scope.names.lookup ("self" : Str) = some .local) (hv : scope.names.lookup ("given" : Str) = some .local) (hm : mg bx = some (.ref B)) (T : OexC K C) (no : PySem.W.findIn K (.ref C) fld = some none)
    (hl : (p2.endLine == p5.line) = true) (rd : PySem.W.readsIn K B mc = true) (ga : PySem.W.specialIn K (.ref B) "__getattribute__" = some (some (.builtin "type.__getattribute__"))) (at_ : PySem.W.findCls K (.ref B) mc "__init__" = some (.val (.builtin "ValueError.__init__"))) : FnOk P w K mg base CX 1 fI fd ["self", "given"] (spInit C fld) := by
  refine F.ok Sc (fun vs H Q E h => ?_) (fun cdv A outer s H vs Q E hr h => ?_)
  · obtain ⟨a, y, rfl, _⟩ := h
    rfl
  · refine ⟨tSeq (tDrop (tVeI K (L2.tCons (tVar 0) (L2.tCons (tC (.str txt)) L2.tNil)))) (tOst K fld (tVar 0) (tVar 1)), ?_, ?_⟩
    · have g0 : ∀ p, PE (cxOf CX P w K mg base ["self", "given"] qual scope fI cdv A outer s H E) (.Name "self" p) (tVar 0) := fun p => pe_var rfl (.inl hs) (by decide) (by decide)
      have g1 : ∀ p, PE (cxOf CX P w K mg base ["self", "given"] qual scope fI cdv A outer s H E) (.Name "given" p) (tVar 1) := fun p => pe_var rfl (.inl hv) (by decide) (by decide)
      refine pss_cons (ps_expr (pe_clsinit (B := B) hb hm hdb rd ga at_ (pa_cons (g0 _) (pa_cons pe_str pa_nil)) (call_form rfl rfl hl) rfl rfl) rfl) ?_
      exact pss_one (ps_ost (g0 _) (g1 _))
    · obtain ⟨a, y, rfl, e, h⟩ := h
      refine ⟨.ref a, rfl, a, C, [.str txt], rfl, Nat.le_of_ble_eq_true rfl, T, e, ?_⟩
      refine ⟨y, rfl, .ref a, rfl, a, C, rfl, T, no, .inl ⟨e, fun dx hd ne => ?_⟩⟩
      exact h dx hd ne
end
end DL
end
section
set_option Elab.async false
set_option linter.all false
set_option maxRecDepth 100000
set_option maxHeartbeats 1000000
/-! DL18: meanings with their proofs: contexts, tables, small pieces -/
namespace DL
open PySem PySem.Spec PyProof.Rows L2

/-! ### what a text may name -/
/-- a class of ours as it is asked -/
structure XfOk (K : PySem.W.Frag) (C : Addr) (fld : Str) : Prop where
  E : ExcC K C
  no : PySem.W.findIn K (.ref C) fld = some none
structure Tab where
  fns : List (Str × List Str)
  kws : List (Str × Nat × List Str)
  gl : List Str
  cs : List (Str × D)
  gcd : Bool
  isi : Ty → Ty → Option Bool
  xcs : List (Str × Str)
  exm : Str → Str → Option Bool
  cls : List Str
  dfs : List (Str × List D)
structure CxOk (T : Tab) (cl : Str → Cl) (G : Gs) (W : WX) (X : Cx) (N : List Str) (sc : Scope) (k : Nat) : Prop where
  K : X.K = G.K
  eN : X.N = N
  nd : N.Nodup
  eS : X.env.scope = sc
  kind : sc.kind = .function
  calm : X.calm = true
  room : Room (k + 2) X.A
  gd : X.A.guards = some []
  tk : Takes X W
  fns : ∀ x ps, T.fns.lookup x = some ps → ∃ f fd, FnG G X.prog X.w X.mg X.base (k + 2) f fd ps (cl x) ∧ X.mg x = some (.ref f) ∧ PySem.W.keepIn X.K (.ref f) = true ∧ Binds X.K fd ps [] ∧ ∀ n ks, (x, n, ks) ∈ T.kws → KwB X.K fd ps n ks
  blt : ∀ x, T.gl.contains x = false → X.mg x = none
  gcd : T.gcd = true → X.mg "gcd" = some (.builtin "math.gcd")
  cs : ∀ x d, T.cs.lookup x = some d → ∃ u v, X.mg x = some u ∧ RelV v u ∧ ∀ H φ n, RelD G.K H φ n d v
  isi : ∀ t c b, T.isi t c = some b → PySem.W.kitOne X.K (t.val G) (c.val G) = some b ∧ ∀ n, t = .x n → ExcC X.K (G.cA n)
  xcs : ∀ c fld, T.xcs.lookup c = some fld → ∃ fI fd, XcOk X.K (G.cA c) fld fI fd ∧ FnOk X.prog X.w X.K X.mg X.base (L2.CX X.prog X.w) 1 fI fd ["self", "given"] (spInit (G.cA c) fld) ∧ Binds X.K fd ["self", "given"] [] ∧ X.mg c = some (.ref (G.cA c))
  xf : ∀ c fld, T.xcs.lookup c = some fld → XfOk X.K (G.cA c) fld
  xe : ∀ c d r, T.exm c d = some r → PySem.W.exmOne X.K (.ref (G.cA c)) (.ref (G.cA d)) = some r
  cls : ∀ d, T.cls.contains d = true → X.mg d = some (.ref (G.cA d))
  dfs : ∀ x ps ds, T.fns.lookup x = some ps → T.dfs.lookup x = some ds → ∃ f fd dvs dus, FnG G X.prog X.w X.mg X.base (k + 2) f fd ps (cl x) ∧ X.mg x = some (.ref f) ∧ PySem.W.keepIn X.K (.ref f) = true ∧ Binds X.K fd ps dus ∧ Vals dvs dus ∧ ∀ H φ n, RelDs G.K H φ n ds dvs
/-- a def's own frame -/
structure Fr0 (X : Cx) : Prop where
  fn : ∀ x, X.fn x = true
  ps : PassesOwn (model X.prog X.w) X.A X.env X.xe
  stk : X.stack = X.env :: X.outer
  frm : X.env.frame = some X.env.locals
section
variable {T : Tab} {cl : Str → Cl} {G : Gs} {W : WX} {X : Cx} {N : List Str} {sc : Scope} {k : Nat}
theorem CxOk.units (c : CxOk T cl G W X N sc k) : X.A.units + 65 < cLine := by have := c.room.un; omega
theorem CxOk.vis (c : CxOk T cl G W X N sc k) {x : Str} (h : sc.names.lookup x = some .local ∨ sc.names.lookup x = some .cell ∨ sc.names.lookup x = some .free) : Vis X.env.scope x := by
  rw [c.eS]
  exact h
theorem CxOk.gl (c : CxOk T cl G W X N sc k) {x : Str} (h : sc.names.lookup x = some .globalImplicit) : Gl X x := by
  show X.env.scope.names.lookup x = _
  rw [c.eS]
  exact h
/-- within a comprehension's block -/
theorem CxOk.blk (c : CxOk T cl G W X N sc k) {scope : Scope} (hk : scope.kind = .function) (s : Shared) (H : Hp) (C : Addr) (cs : List (Str × Addr)) (fp : List Addr) : CxOk T cl G W0 (X.blk s H scope (compEnvC scope cs C X.env) fp) N (relS scope sc) k where
  K := c.K
  eN := c.eN
  nd := c.nd
  eS := by rw [← c.eS]; rfl
  kind := hk
  calm := c.calm
  room := c.room
  gd := c.gd
  tk := takes0
  fns := c.fns
  blt := c.blt
  gcd := c.gcd
  cs := c.cs
  isi := c.isi
  xcs := c.xcs
  xf := c.xf
  xe := c.xe
  cls := c.cls
  dfs := c.dfs
/-- within a try's body -/
theorem CxOk.tr (c : CxOk T cl G W X N sc k) {W2 : WX} (pn : List (Addr × Obj)) (xe : Value → Shared → Prop) (tk : Takes (X.tr pn xe) W2) : CxOk T cl G W2 (X.tr pn xe) N sc k where
  K := c.K
  eN := c.eN
  nd := c.nd
  eS := c.eS
  kind := c.kind
  calm := c.calm
  room := c.room
  gd := c.gd
  tk := tk
  fns := c.fns
  blt := c.blt
  gcd := c.gcd
  cs := c.cs
  isi := c.isi
  xcs := c.xcs
  xf := c.xf
  xe := c.xe
  cls := c.cls
  dfs := c.dfs
theorem Fr0.tr (z : Fr0 X) (pn : List (Addr × Obj)) (xe : Value → Shared → Prop) (h : PassesOwn (model X.prog X.w) X.A X.env xe) : Fr0 (X.tr pn xe) := ⟨z.fn, h, z.stk, z.frm⟩
end
/-! ### stars -/
def noStars : List Expr → Bool
  | [] => true
  | e :: es => !isStar e && noStars es
theorem noStars_cons {e : Expr} {es : List Expr} (h : noStars (e :: es) = true) : isStar e = false ∧ noStars es = true := by
  unfold noStars at h
  rw [Bool.and_eq_true, Bool.not_eq_true'] at h
  exact h
theorem star_any {env : Env} {pos : Pos} : ∀ {es : List Expr}, noStars es = true → (backTo pos (starEach es env)).any (·.1) = false
  | [], _ => rfl
  | e :: es, h => by
    obtain ⟨h1, h2⟩ := noStars_cons h
    rw [star_eq h1]
    show (false || (backTo pos (starEach es env)).any (·.1)) = false
    rw [star_any h2]
    rfl
theorem star_all {env : Env} {pos : Pos} : ∀ {es : List Expr}, noStars es = true → (backTo pos (starEach es env)).all (fun x => !x.1) = true
  | [], _ => rfl
  | e :: es, h => by
    obtain ⟨h1, h2⟩ := noStars_cons h
    rw [star_eq h1]
    show (true && (backTo pos (starEach es env)).all (fun x => !x.1)) = true
    rw [star_all h2]
    rfl
theorem asg_map {e : Expr} {es : List Expr} {env : Env} (h : isStar e = false) : (assignEach (e :: es) env).map (·.2) = assign e env :: (assignEach es env).map (·.2) := by
  cases e <;> first | rfl | cases h
theorem asg_len {env : Env} : ∀ {es : List Expr}, (assignEach es env).length = es.length
  | [] => rfl
  | e :: es => by
    have ih := asg_len (env := env) (es := es)
    cases e <;> (show (assignEach es env).length + 1 = _; rw [ih]; rfl)
theorem asg_star {env : Env} : ∀ {es : List Expr}, noStars es = true → (assignEach es env).findIdx? (·.1) = none
  | [], _ => rfl
  | e :: es, h => by
    obtain ⟨h1, h2⟩ := noStars_cons h
    have ih := asg_star (env := env) h2
    have e1 : assignEach (e :: es) env = (false, assign e env) :: assignEach es env := by cases e <;> first | rfl | cases h1
    rw [e1, List.findIdx?_cons]
    simp [ih]
/-! ### slots -/
def ix (N : List Str) (x : Str) : Option Nat := N.findIdx? (· == x)
theorem ix_ok {N : List Str} {x : Str} {i : Nat} (h : ix N x = some i) : N[i]? = some x := by
  unfold ix at h
  obtain ⟨h1, h2, _⟩ := List.findIdx?_eq_some_iff_getElem.mp h
  rw [List.getElem?_eq_getElem h1]
  exact congrArg some (beq_iff_eq.mp h2)
/-! ### texts that swap -/
def isComp : Expr → Bool
  | .ListComp .. => true
  | .SetComp .. => true
  | .DictComp .. => true
  | _ => false
theorem swaps_not {e : Expr} {t : Option Expr} {l : Nat} {env : Env} (h : isComp e = false) : swapsWith e t l env = pure false := by
  cases e <;> first | rfl | cases h
def isSet : Expr → Bool
  | .Set .. => true
  | _ => false
theorem fold_not {e : Expr} {env : Env} {x : Value} (h : isSet e = false) : foldedSetIterable e env x = pure x := by
  cases e <;> first | rfl | cases h
def isSlice : Expr → Bool
  | .Slice .. => true
  | _ => false
theorem plain_ix {b : Expr} (h : isSlice b = false) : PlainIx b := fun o i => by
  cases b <;> first | rfl | cases h
/-- tests that are values -/
def isVal : Expr → Bool
  | .UnaryOp .Not _ _ => false
  | .BoolOp .. => false
  | .IfExp .. => false
  | .Compare .. => false
  | _ => true
theorem isTrue_val {e : Expr} {env : Env} {whole : Sem Value} (h : isVal e = true) : isTrue e env whole = (do let v ← whole; standAt e.pos; holding [v] (truthy v)) := by
  cases e with
  | UnaryOp op x pos => cases op <;> first | rfl | cases h
  | BoolOp => cases h
  | IfExp => cases h
  | Compare => cases h
  | _ => rfl
def isCall : Expr → Bool
  | .Call .. => true
  | _ => false
theorem base_not {o : Expr} {m : Str} {env : Env} {whole : Sem Value} (h : isCall o = false) : attributeBase o m env whole = whole := by
  cases o <;> first | rfl | cases h
/-! ### isinstance -/
def tyNames : List String := ["NoneType", "bool", "int", "str", "tuple", "list", "dict"]
def isB (a b : String) : Option Bool := if tyNames.contains a && (tyNames.contains b && b != "NoneType") then some (a == b || (a == "bool" && b == "int")) else none
theorem isB_all : (tyNames.all fun a => tyNames.all fun b => match isB a b with
    | none => true
    | some r => decide (kitB a b = some r)) = true := by decide +kernel
theorem isB_ok {a b : String} {r : Bool} (h : isB a b = some r) : kitB a b = some r := by
  have h0 := h
  unfold isB at h
  split at h
  · rename_i c
    simp only [Bool.and_eq_true] at c
    have ha := List.contains_iff_mem.mp c.1
    have hb := List.contains_iff_mem.mp c.2.1
    have q := List.all_eq_true.mp (List.all_eq_true.mp isB_all a ha) b hb
    rw [h0] at q
    exact of_decide_eq_true q
  · cases h
def ansB (T : Tab) (b : String) : Ty → Option Bool
  | .b a => isB a b
  | .x c => T.isi (.x c) (.b b)
end DL
end
section
set_option Elab.async false
set_option linter.all false
set_option maxRecDepth 100000
set_option maxHeartbeats 2000000
/-! DL19: meanings of expressions, each with its proof -/
namespace DL
open PySem PySem.Spec PyProof.Rows L2
structure SE (T : Tab) (cl : Str → Cl) (N : List Str) (sc : Scope) (e : Expr) where
  f : Den D
  ok : ∀ {G : Gs} {W : WX} {X : Cx} {k : Nat}, CxOk T cl G W X N sc k → PE X e (TD G W f)
structure SA (T : Tab) (cl : Str → Cl) (N : List Str) (sc : Scope) (es : List Expr) where
  f : Den (List D)
  len : Len es.length f
  ns : noStars es = true
  ok : ∀ {G : Gs} {W : WX} {X : Cx} {k : Nat}, CxOk T cl G W X N sc k → PA X es (TDA G W f)
structure SK (T : Tab) (cl : Str → Cl) (N : List Str) (sc : Scope) (kws : List Keyword) where
  f : Den (List D)
  ks : List Str
  len : Len ks.length f
  nm : ∀ env pos, (backToKw pos (keywordEach kws env)).map (·.1) = ks.map some
  ok : ∀ {G : Gs} {W : WX} {X : Cx} {k : Nat}, CxOk T cl G W X N sc k → PK X kws (TDA G W f)
structure ST (T : Tab) (cl : Str → Cl) (N : List Str) (sc : Scope) (e : Expr) where
  f : Den Bool
  ok : ∀ {G : Gs} {W : WX} {X : Cx} {k : Nat}, CxOk T cl G W X N sc k → PT X e (TDB G W f)
structure SW (T : Tab) (cl : Str → Cl) (N : List Str) (sc : Scope) (e : Expr) where
  f : Den Bool
  ok : ∀ {G : Gs} {W : WX} {X : Cx} {k : Nat}, CxOk T cl G W X N sc k → PW X e (TDB G W f)
structure STs (T : Tab) (cl : Str → Cl) (N : List Str) (sc : Scope) (ifs : List Expr) where
  f : Den Bool
  ok : ∀ {G : Gs} {W : WX} {X : Cx} {k : Nat}, CxOk T cl G W X N sc k → PTs X ifs (TDB G W f)
structure SC (T : Tab) (cl : Str → Cl) (N : List Str) (sc : Scope) (ops : List CmpOp) (es : List Expr) where
  l : List (Op2 × Den D)
  ok : ∀ {G : Gs} {W : WX} {X : Cx} {k : Nat}, CxOk T cl G W X N sc k → ChOk G W X ops es l
structure SP (T : Tab) (cl : Str → Cl) (N : List Str) (sc : Scope) (ks : List (Option Expr)) (vs : List Expr) where
  l : List (Den D × Den D)
  ok : ∀ {G : Gs} {W : WX} {X : Cx} {k : Nat}, CxOk T cl G W X N sc k → PrOk G W X ks vs l
structure SO (T : Tab) (cl : Str → Cl) (N : List Str) (sc : Scope) (o : Option Expr) where
  f : Option (Den D)
  ok : ∀ {G : Gs} {W : WX} {X : Cx} {k : Nat}, CxOk T cl G W X N sc k → PartOk G W X o f
structure SI (T : Tab) (cl : Str → Cl) (N : List Str) (sc : Scope) (tg e : Expr) where
  f : Den ItD
  ok : ∀ {G : Gs} {W : WX} {X : Cx} {k : Nat}, CxOk T cl G W X N sc k → PI X tg e (TDI G W f)
/-- a comprehension's target -/
structure SGw (T : Tab) (cl : Str → Cl) (N : List Str) (sc scope : Scope) (ws : List Nat) (tg : Expr) where
  f : DenG
  ok : ∀ {G : Gs} {W : WX} {X : Cx} {k : Nat}, CxOk T cl G W X N sc k → (∀ x, scope.names.lookup x = some .cell → X.fn x = true) → PG X tg (TDGw G W ws f)
structure SGsw (T : Tab) (cl : Str → Cl) (N : List Str) (sc scope : Scope) (ws : List Nat) (tgs : List Expr) where
  f : List D → Den Ev
  ns : noStars tgs = true
  ok : ∀ {G : Gs} {W : WX} {X : Cx} {k : Nat}, CxOk T cl G W X N sc k → (∀ x, scope.names.lookup x = some .cell → X.fn x = true) → PGs X tgs (TDGsw G W ws f)

/-! ### operators -/
structure BinOk (op : Operator) where
  o : Op2
  nx : NX2 o
  ok : ∀ {G : Gs} {X : Cx}, X.K = G.K → OpR X (binaryOp op) (RD2 G o)
def binTab : (op : Operator) → Option (BinOk op)
  | .Add => some ⟨opAdd, nx_add, fun h => or_add h⟩
  | .Sub => some ⟨opSub, nx_sub, fun _ => or_sub⟩
  | .Mult => some ⟨opMul, nx_mul, fun h => or_mul h⟩
  | .FloorDiv => some ⟨opFdiv, nx_fdiv, fun _ => or_fdiv⟩
  | .Mod => some ⟨opMod, nx_mod, fun _ => or_mod⟩
  | .Pow => some ⟨opPow, nx_pow, fun _ => or_pow⟩
  | _ => none
structure CmpOk (op : CmpOp) where
  o : Op2
  nx : NX2 o
  ok : ∀ {G : Gs} {X : Cx}, X.K = G.K → X.A.units + 65 < cLine → OpR X (compareOp op) (RD2 G o)
def cmpTab : (op : CmpOp) → CmpOk op
  | .Eq => ⟨opEq, nx_eq, fun h u => or_eq h (by omega)⟩
  | .NotEq => ⟨opNe, nx_ne, fun h u => or_ne h (by omega)⟩
  | .Lt => ⟨opLt, nx_ord, fun h u => or_lt h (by omega)⟩
  | .LtE => ⟨opLe, nx_ord, fun h u => or_le h (by omega)⟩
  | .Gt => ⟨opGt, nx_ord, fun h u => or_gt h (by omega)⟩
  | .GtE => ⟨opGe, nx_ord, fun h u => or_ge h (by omega)⟩
  | .Is => ⟨opIs false, nx_is, fun _ _ => or_is⟩
  | .IsNot => ⟨opIs true, nx_is, fun _ _ => or_isNot⟩
  | .In => ⟨opIn false, nx_in, fun h u => or_in h u⟩
  | .NotIn => ⟨opIn true, nx_in, fun h u => or_notIn h u⟩
/-! ### built-in functions -/
structure BOk (x : Str) where
  bf : Bf
  nx : NXf bf
  ok : ∀ {G : Gs} {X : Cx}, X.K = G.K → X.calm = true → X.A.units + 65 < cLine → X.A.guards = some [] →
    (∃ id, bootBuiltins x = some (.builtin id) ∧ CallR X (.builtin id) (RDf G bf)) ∨ ∃ t, bootBuiltins x = some (.type t) ∧ CallR X (.type t) (RDf G bf)
theorem bb_len : bootBuiltins "len" = some (.builtin "len") := by decide +kernel
theorem bb_abs : bootBuiltins "abs" = some (.builtin "abs") := by decide +kernel
theorem bb_int : bootBuiltins "int" = some (.type "int") := by decide +kernel
theorem bb_str : bootBuiltins "str" = some (.type "str") := by decide +kernel
theorem bb_list : bootBuiltins "list" = some (.type "list") := by decide +kernel
theorem bb_tuple : bootBuiltins "tuple" = some (.type "tuple") := by decide +kernel
theorem bb_sum : bootBuiltins "sum" = some (.builtin "sum") := by decide +kernel
theorem bb_all : bootBuiltins "all" = some (.builtin "all") := by decide +kernel
theorem bb_any : bootBuiltins "any" = some (.builtin "any") := by decide +kernel
theorem bb_max : bootBuiltins "max" = some (.builtin "max") := by decide +kernel
theorem bb_min : bootBuiltins "min" = some (.builtin "min") := by decide +kernel
theorem bb_sorted : bootBuiltins "sorted" = some (.builtin "sorted") := by decide +kernel
theorem bb_repr : bootBuiltins "repr" = some (.builtin "repr") := by decide +kernel
theorem bb_isinstance : bootBuiltins "isinstance" = some (.builtin "isinstance") := by decide +kernel
def bTab (x : Str) : Option (BOk x) :=
  if h : x = "len" then some ⟨b1 bLen, nx_len, fun hK _ _ _ => .inl ⟨_, h ▸ bb_len, cr_len hK⟩⟩
  else if h : x = "int" then some ⟨b1 bInt, nx_int, fun _ _ _ _ => .inr ⟨_, h ▸ bb_int, cr_int⟩⟩
  else if h : x = "max" then some ⟨bMax, nx_max, fun hK hc _ _ => .inl ⟨_, h ▸ bb_max, cr_b12 (cr_max1 hK hc) (cr_max2 hc)⟩⟩
  else if h : x = "min" then some ⟨bMin, nx_min, fun hK hc _ _ => .inl ⟨_, h ▸ bb_min, cr_b12 (cr_min1 hK hc) (cr_min2 hc)⟩⟩
  else if h : x = "abs" then some ⟨b1 bAbs, nx_abs, fun _ _ _ _ => .inl ⟨_, h ▸ bb_abs, cr_abs⟩⟩
  else if h : x = "sum" then some ⟨b1 (bNums sumF), nx_nums, fun hK hc _ _ => .inl ⟨_, h ▸ bb_sum, cr_sum1 hK hc⟩⟩
  else if h : x = "all" then some ⟨b1 (bBls allF), nx_bls, fun hK hc _ _ => .inl ⟨_, h ▸ bb_all, cr_all1 hK hc⟩⟩
  else if h : x = "any" then some ⟨b1 (bBls anyF), nx_bls, fun hK hc _ _ => .inl ⟨_, h ▸ bb_any, cr_any1 hK hc⟩⟩
  else if h : x = "list" then some ⟨b1 bList, nx_list, fun hK _ _ _ => .inr ⟨_, h ▸ bb_list, cr_list hK⟩⟩
  else if h : x = "tuple" then some ⟨b1 bTuple, nx_tuple, fun hK _ _ _ => .inr ⟨_, h ▸ bb_tuple, cr_tuple hK⟩⟩
  else if h : x = "sorted" then some ⟨b1 bSorted, nx_sorted, fun hK _ hu _ => .inl ⟨_, h ▸ bb_sorted, cr_sorted1 hK hu⟩⟩
  else if h : x = "repr" then some ⟨b1 bRepr, nx_repr, fun hK _ hu hg => .inl ⟨_, h ▸ bb_repr, cr_repr hK hu hg⟩⟩
  else if h : x = "str" then some ⟨b1 bStr, nx_str, fun _ _ _ _ => .inr ⟨_, h ▸ bb_str, cr_str⟩⟩
  else none
/-! ### methods -/
structure MOk (m : Str) (n : Nat) where
  T : String
  id : String
  f : Mf
  nx : NXm f
  pa : PlainAttrs T
  slot : Slot T m id
  hty : typeOf (.builtin id) = pure (.type "method_descriptor")
  ok : ∀ {G : Gs} {X : Cx}, X.K = G.K → MtR X id (RDm G f)
def mTab (m : Str) (n : Nat) : Option (MOk m n) :=
  if h : m = "append" ∧ n = 1 then some ⟨"list", "list.append", mAppend, nx_append, PySem.F.plainAttrs_list, h.1 ▸ PySem.F.slot_list_append, PySem.F.type_list_append, fun _ => mt_append1⟩
  else if h : m = "partition" ∧ n = 1 then some ⟨"str", "str.partition", mPartition, nx_partition, PySem.F.plainAttrs_str, h.1 ▸ PySem.F.slot_str_partition, PySem.F.type_str_partition, fun _ => mt_partition1⟩
  else none
section
variable {T : Tab} {cl : Str → Cl} {N : List Str} {sc : Scope}
/-- a name of the interpreter's own -/
def bltOk (T : Tab) (sc : Scope) (x : Str) : Bool := decide (sc.names.lookup x = some .globalImplicit) && (!T.gl.contains x && (decide (x ≠ "__name__") && !(x == ("__debug__" : Str))))
theorem bltOk_ok {x : Str} (h : bltOk T sc x = true) : sc.names.lookup x = some .globalImplicit ∧ T.gl.contains x = false ∧ x ≠ "__name__" ∧ (x == ("__debug__" : Str)) = false := by
  unfold bltOk at h
  simp only [Bool.and_eq_true, decide_eq_true_eq, Bool.not_eq_true'] at h
  exact ⟨h.1, h.2.1, h.2.2.1, h.2.2.2⟩
def mkBlt {e : Expr} {es : List Expr} (x : Str) (p pos : Pos) (b : BOk x) (a : SA T cl N sc (e :: es)) (h : bltOk T sc x = true) : SE T cl N sc (.Call (.Name x p) (e :: es) [] pos) where
  f := fB b.bf a.f
  ok := fun {G W X k} c => by
    obtain ⟨h1, h2, h3, h4⟩ := bltOk_ok h
    obtain ⟨s1, s2⟩ := noStars_cons a.ns
    rcases b.ok c.K c.calm c.units c.gd with ⟨id, e1, e2⟩ | ⟨t, e1, e2⟩
    · exact de_b e2 b.nx (c.gl h1) (c.blt x h2) e1 (a.ok c) h3 h4 (star_eq s1) (star_any s2)
    · exact de_ty e2 b.nx (c.gl h1) (c.blt x h2) e1 (a.ok c) h3 h4 (star_eq s1) (star_any s2)
def mkFn {es : List Expr} (x : Str) (p pos : Pos) (ps : List Str) (a : SA T cl N sc es) (h : sc.names.lookup x = some .globalImplicit) (hp : T.fns.lookup x = some ps) (hl : ps.length = es.length) (hd : (x == ("__debug__" : Str)) = false) : SE T cl N sc (.Call (.Name x p) es [] pos) :=
  match es, a, hl with
  | [], a, hl => ⟨fCall (cl x) fNil, fun {G W X k} c => by
      obtain ⟨f, fd, F, hm, hk, hb, _⟩ := c.fns x ps hp
      have e : ps = [] := List.length_eq_zero_iff.mp hl
      subst e
      exact de_call0 F c.K c.room c.gd (c.gl h) hm hk hb c.tk hd⟩
  | e :: es, a, hl => ⟨fCall (cl x) a.f, fun {G W X k} c => by
      obtain ⟨f, fd, F, hm, hk, hb, _⟩ := c.fns x ps hp
      obtain ⟨s1, s2⟩ := noStars_cons a.ns
      exact de_call F c.K c.room c.gd (c.gl h) hm hk hb c.tk (by rw [hl]; exact a.len) (a.ok c) hd (star_eq s1) (star_any s2)⟩
def mkFnD {e : Expr} {es : List Expr} (x : Str) (p pos : Pos) (ps : List Str) (ds : List D) (a : SA T cl N sc (e :: es)) (h : sc.names.lookup x = some .globalImplicit) (hp : T.fns.lookup x = some ps) (hd : T.dfs.lookup x = some ds) (hl : (e :: es).length + ds.length = ps.length) (hdb : (x == ("__debug__" : Str)) = false) : SE T cl N sc (.Call (.Name x p) (e :: es) [] pos) :=
  ⟨fCallD (cl x) ds a.f, fun {G W X k} c => by
    obtain ⟨f, fd, dvs, dus, F, hm, hk, hb, hv, hr⟩ := c.dfs x ps ds hp hd
    obtain ⟨s1, s2⟩ := noStars_cons a.ns
    exact de_callD F c.K c.room c.gd (c.gl h) hm hk hb hv hr c.tk a.len hl (a.ok c) hdb (star_eq s1) (star_any s2)⟩
theorem kw_all {kws : List Keyword} {ks : List Str} {env : Env} {pos : Pos} (h : (backToKw pos (keywordEach kws env)).map (·.1) = ks.map some) :
    (backToKw pos (keywordEach kws env)).all (·.1.isSome) = true ∧ (backToKw pos (keywordEach kws env)).filterMap (·.1) = ks ∧ (backToKw pos (keywordEach kws env)).any (·.1.isNone) = false := by
  have key : ∀ (l : List (Option Str × Sem Value)) (ks : List Str), l.map (·.1) = ks.map some → l.all (·.1.isSome) = true ∧ l.filterMap (·.1) = ks ∧ l.any (·.1.isNone) = false := fun l => by
    induction l with
    | nil =>
      intro ks e
      cases ks with
      | nil => exact ⟨rfl, rfl, rfl⟩
      | cons _ _ => cases e
    | cons a l ih =>
      intro ks e
      cases ks with
      | nil => cases e
      | cons q qs =>
        rw [List.map_cons, List.map_cons] at e
        injection e with e1 e2
        obtain ⟨i1, i2, i3⟩ := ih qs e2
        refine ⟨?_, ?_, ?_⟩
        · rw [List.all_cons, e1, i1]
          rfl
        · rw [List.filterMap_cons, e1, i2]
        · rw [List.any_cons, e1, i3]
          rfl
  exact key _ _ h
def mkFnK {es : List Expr} {kws : List Keyword} (x : Str) (p pos : Pos) (ps : List Str) (a : SA T cl N sc es) (q : SK T cl N sc kws) (h : sc.names.lookup x = some .globalImplicit) (hp : T.fns.lookup x = some ps) (hw : (x, es.length, q.ks) ∈ T.kws) (hd : (x == ("__debug__" : Str)) = false) : SE T cl N sc (.Call (.Name x p) es kws pos) :=
  match es, a, hw with
  | [], a, hw => ⟨fCallK (cl x) ps q.ks fNil q.f, fun {G W X k} c => by
      obtain ⟨f, fd, F, hm, hk, hb, hkw⟩ := c.fns x ps hp
      obtain ⟨k1, k2, k3⟩ := kw_all (q.nm X.env pos)
      exact de_callK F c.K c.room c.gd (c.gl h) hm hk (hkw 0 q.ks hw) c.tk Len.nil (fun _ => ⟨rfl, rfl⟩) q.len da_nil (q.ok c) hd (fun e r z => nomatch z) k1 k2 (by rw [k3, Bool.or_false]; rfl)⟩
  | e :: es, a, hw => ⟨fCallK (cl x) ps q.ks a.f q.f, fun {G W X k} c => by
      obtain ⟨f, fd, F, hm, hk, hb, hkw⟩ := c.fns x ps hp
      obtain ⟨k1, k2, k3⟩ := kw_all (q.nm X.env pos)
      obtain ⟨s1, s2⟩ := noStars_cons a.ns
      exact de_callK F c.K c.room c.gd (c.gl h) hm hk (hkw _ q.ks hw) c.tk a.len (fun z => nomatch z) q.len (a.ok c) (q.ok c) hd (fun e' r z => by cases z; exact star_eq s1) k1 k2 (by rw [k3, Bool.or_false]; exact star_any a.ns)⟩
def mkGcd {a b : Expr} (x : Str) (hx : x = "gcd") (p pos : Pos) (q : SA T cl N sc [a, b]) (h : sc.names.lookup ("gcd" : Str) = some .globalImplicit) (hg : T.gcd = true) : SE T cl N sc (.Call (.Name x p) [a, b] [] pos) where
  f := fB (b2 bGcd) q.f
  ok := fun {G W X k} c => by
    subst hx
    obtain ⟨s1, s2⟩ := noStars_cons q.ns
    exact de_fun cr_gcd nx_gcd (c.gl h) (c.gcd hg) (q.ok c) (by decide) (star_eq s1) (star_any s2)
/-- isinstance(e, T) with T built in -/
def mkIsi {e : Expr} (x : Str) (hx : x = "isinstance") (tn : Str) (t : String) (p p2 pos : Pos) (a : SE T cl N sc e) (hs : isStar e = false) (h : bltOk T sc "isinstance" = true) (h2 : bltOk T sc tn = true) (hb : bootBuiltins tn = some (.type t)) : SE T cl N sc (.Call (.Name x p) [e, .Name tn p2] [] pos) where
  f := fIsi (ansB T t) a.f
  ok := fun {G W X k} c => by
    subst hx
    obtain ⟨g1, g2, g3, g4⟩ := bltOk_ok h
    obtain ⟨t1, t2, t3, t4⟩ := bltOk_ok h2
    refine de_isi (c := .ty t) (cv := .type t) c.K (fun y b hy => ?_) (fun n b hy => (c.isi _ _ b hy).2 n rfl) (.ty t) (a.ok c) (pe_bltn (c.gl t1) (c.blt tn t2) hb rfl t3 t4) (c.gl g1) (c.blt _ g2) (star_eq hs) rfl
    cases y with
    | b n => exact kit_ty (isB_ok hy)
    | x n => exact (c.isi _ _ b hy).1
def ansX (T : Tab) (d : Str) : Ty → Option Bool := fun t => T.isi t (.x d)
/-- isinstance(e, C) with C a class of ours -/
def mkIsiX {e : Expr} (x : Str) (hx : x = "isinstance") (tn : Str) (p p2 pos : Pos) (a : SE T cl N sc e) (hs : isStar e = false) (h : bltOk T sc "isinstance" = true) (h2 : T.cls.contains tn = true) (h3 : sc.names.lookup tn = some .globalImplicit) (h4 : (tn == ("__debug__" : Str)) = false) : SE T cl N sc (.Call (.Name x p) [e, .Name tn p2] [] pos) where
  f := fIsi (ansX T tn) a.f
  ok := fun {G W X k} c => by
    subst hx
    obtain ⟨g1, g2, g3, g4⟩ := bltOk_ok h
    exact de_isi (c := .ref (G.cA tn)) (cv := .ref (G.cA tn)) c.K (fun y b hy => (c.isi _ _ b hy).1) (fun n b hy => (c.isi _ _ b hy).2 n rfl) (.own _) (a.ok c) (pe_glob (c.gl h3) (c.cls tn h2) rfl h4) (c.gl g1) (c.blt _ g2) (star_eq hs) rfl
end
end DL
end
section
set_option Elab.async false
set_option linter.all false
set_option maxRecDepth 100000
set_option maxHeartbeats 4000000
/-! DL20: the builder of meanings -/
namespace DL
open PySem PySem.Spec PyProof.Rows L2
section
variable {T : Tab} {cl : Str → Cl} {N : List Str} {sc : Scope}
def visB (sc : Scope) (x : Str) : Bool := decide (sc.names.lookup x = some .local) || (decide (sc.names.lookup x = some .cell) || decide (sc.names.lookup x = some .free))
theorem visB_ok {x : Str} (h : visB sc x = true) : sc.names.lookup x = some .local ∨ sc.names.lookup x = some .cell ∨ sc.names.lookup x = some .free := by
  unfold visB at h
  simpa only [Bool.or_eq_true, decide_eq_true_eq] using h
def mkName (T : Tab) (cl : Str → Cl) (N : List Str) (sc : Scope) (x : Str) (pos : Pos) : Option (SE T cl N sc (.Name x pos)) :=
  if h : visB sc x = true ∧ (x == ("__debug__" : Str)) = false ∧ (x == ("__classdict__" : Str)) = false then
    match hi : ix N x with
    | some i => some ⟨fVar i, fun c => de_var (by rw [c.eN]; exact ix_ok hi) (c.vis (visB_ok h.1)) h.2.1 h.2.2⟩
    | none => none
  else if h : sc.names.lookup x = some .globalImplicit ∧ (x == ("__debug__" : Str)) = false then
    match hd : T.cs.lookup x with
    | some d => some ⟨fC d, fun c => by
        obtain ⟨u, v, h1, h2, h3⟩ := c.cs x d hd
        exact (pe_glob (c.gl h.1) h1 h2 h.2).imp (td_const h3)⟩
    | none => none
  else none
def mkConst (T : Tab) (cl : Str → Cl) (N : List Str) (sc : Scope) (k : Nat) (pos : Pos) : (c : Const) → Option (SE T cl N sc (.Constant c k pos))
  | .none => some ⟨fC .non, fun _ => pe_non.imp (td_const fun _ _ _ => .non)⟩
  | .bool b => some ⟨fC (.bl b), fun _ => pe_bl.imp (td_const fun _ _ _ => .bl b)⟩
  | .int i => some ⟨fC (.int i), fun _ => pe_int.imp (td_const fun _ _ _ => .int i)⟩
  | .str s => some ⟨fC (.str s), fun _ => pe_str.imp (td_const fun _ _ _ => .str s)⟩
  | _ => none
def fTrue : Den Bool := fun _ S => .ok true S
theorem sz_small {n : Nat} (h : n ≤ 1000) : n ≤ sizeLine := by rw [sizeLine_eq]; omega
theorem passes0 {X : Cx} : Passes (L2.CX X.prog X.w) X (fun _ _ _ => False) := fun _ _ _ _ _ _ _ ⟨_, _, _, _, _, _, _, _, _, _, _, _, z⟩ => z.elim
/-- a comprehension's own slots -/
def ownN (N : List Str) (scope : Scope) : List (Str × Nat) := scope.names.filterMap fun y => match y.2 with
  | .local => (ix N y.1).map fun i => (y.1, i)
  | .cell => (ix N y.1).map fun i => (y.1, i)
  | _ => none
mutual
def mkGw (T : Tab) (cl : Str → Cl) (N : List Str) (sc scope : Scope) (ws : List Nat) : (n : Nat) → (tg : Expr) → Option (SGw T cl N sc scope ws tg)
  | 0, _ => none
  | n + 1, tg => match tg with
    | .Name x pos => match hi : ix N x with
      | none => none
      | some i => if h : i ∈ ws ∧ (sc.names.lookup x = some .local ∨ (sc.names.lookup x = some .cell ∧ scope.names.lookup x = some .cell)) then
          some ⟨tName i, fun {G W X k} c hf => dgw_name (by rw [c.eN]; exact c.nd) (by rw [c.eN]; exact ix_ok hi) (by
            show X.env.scope.names.lookup x = some .local ∨ X.env.scope.names.lookup x = some .cell
            rw [c.eS]
            exact h.2.elim .inl fun z => .inr z.1) (by
            rw [c.eS]
            exact h.2.elim .inr fun z => .inl (hf x z.2)) h.1⟩
        else none
    | .Tuple es k pos => match mkGsw T cl N sc scope ws n es with
      | some u => some ⟨tTup es.length u.f, fun c hf => dgw_tup c.K c.calm (u.ok c hf) asg_len (asg_star u.ns)⟩
      | none => none
    | _ => none
def mkGsw (T : Tab) (cl : Str → Cl) (N : List Str) (sc scope : Scope) (ws : List Nat) : (n : Nat) → (es : List Expr) → Option (SGsw T cl N sc scope ws es)
  | 0, _ => none
  | n + 1, es => match es with
    | [] => some ⟨tNil, rfl, fun _ _ => dgws_nil⟩
    | e :: es => if h : isStar e = false then match mkGw T cl N sc scope ws n e, mkGsw T cl N sc scope ws n es with
        | some a, some u => some ⟨tCons a.f u.f, by unfold noStars; rw [h, u.ns]; rfl, fun c hf => dgws_cons (a.ok c hf) (u.ok c hf) (asg_map h)⟩
        | _, _ => none
      else none
end
end
structure SJ (T : Tab) (cl : Str → Cl) (N : List Str) (sc : Scope) (es : List Expr) where
  l : List (Den D)
  ok : ∀ {G : Gs} {W : WX} {X : Cx} {k : Nat}, CxOk T cl G W X N sc k → JsOk G W X es l
theorem single_map (nm : Option Str) (e : Expr) (kpos : Pos) (kws : List Keyword) (env : Env) (pos : Pos) : (backToKw pos (keywordEach (⟨nm, e, kpos⟩ :: kws) env)).map (·.1) = nm :: (backToKw pos (keywordEach kws env)).map (·.1) := rfl
theorem pts_yes {G : Gs} {W : WX} {X : Cx} : PTs X [] (TDB G W fTrue) := ⟨fun pins s σ H Q I ⟨φ, S, ρ, rp, er, h⟩ => pts_nil.run pins s σ H Q I (post_ok (v := true) h rp rfl)⟩
mutual
noncomputable def mkE (T : Tab) (cl : Str → Cl) (N : List Str) : (n : Nat) → (sc : Scope) → (e : Expr) → Option (SE T cl N sc e)
  | 0, _, _ => none
  | n + 1, sc, e => match e with
    | .Constant c k pos => mkConst T cl N sc k pos c
    | .Name x pos => mkName T cl N sc x pos
    | .Tuple es k pos => match mkA T cl N n sc es with
      | some a => if h : es.length ≤ 1000 then some ⟨fTup a.f, fun c => de_tup (a.ok c) a.len (sz_small h)⟩ else none
      | none => none
    | .List es pos => match mkA T cl N n sc es with
      | some a => if h : es.length ≤ 1000 then some ⟨fLst a.f, fun c => de_lst (a.ok c) a.len (sz_small h)⟩ else none
      | none => none
    | .Dict [] [] pos => some ⟨fDict0, fun _ => de_dict0⟩
    | .Dict (k :: ks) vs pos => match mkPr T cl N n sc (k :: ks) vs with
      | some a => if h : (k :: ks).length ≤ 15 then some ⟨fDict a.l, fun c => de_dict (a.ok c) (by simp) h⟩ else none
      | none => none
    | .BinOp a op b pos => match mkE T cl N n sc a, mkE T cl N n sc b, binTab op with
      | some x, some y, some o => some ⟨fOp o.o x.f y.f, fun c => de_bin (o.ok c.K) o.nx (x.ok c) (y.ok c)⟩
      | _, _, _ => none
    | .UnaryOp .USub a pos => match mkE T cl N n sc a with
      | some x => some ⟨fUn opNeg x.f, fun c => de_un ur_neg nx_neg (x.ok c)⟩
      | none => none
    | .UnaryOp .Not a pos => match mkE T cl N n sc a with
      | some x => some ⟨fNot x.f, fun c => de_not c.K (x.ok c)⟩
      | none => none
    | .Compare a [op] [b] pos => match mkE T cl N n sc a, mkE T cl N n sc b with
      | some x, some y => if h : behindInMarks op b = false then some ⟨fOp (cmpTab op).o x.f y.f, fun c => de_cmp ((cmpTab op).ok c.K c.units) (cmpTab op).nx (x.ok c) (y.ok c) h⟩ else none
      | _, _ => none
    | .Compare a (op :: op' :: ops) (b :: b' :: es) pos => match mkE T cl N n sc a, mkCh T cl N n sc (op :: op' :: ops) (b :: b' :: es) with
      | some x, some y => if h : lastMarks (op :: op' :: ops) (b :: b' :: es) = false then some ⟨fCmps x.f y.l, fun c => de_chain (x.ok c) (y.ok c) h⟩ else none
      | _, _ => none
    | .BoolOp .And [a] pos => match mkE T cl N n sc a with
      | some x => some ⟨x.f, fun c => pe_one (x.ok c)⟩
      | none => none
    | .BoolOp .And (a :: b :: rest) pos => match mkE T cl N n sc a, mkE T cl N n sc (.BoolOp .And (b :: rest) pos) with
      | some x, some y => some ⟨fAnd x.f y.f, fun c => de_and c.K (x.ok c) (y.ok c)⟩
      | _, _ => none
    | .BoolOp .Or [a] pos => match mkE T cl N n sc a with
      | some x => some ⟨x.f, fun c => pe_one (x.ok c)⟩
      | none => none
    | .BoolOp .Or (a :: b :: rest) pos => match mkE T cl N n sc a, mkE T cl N n sc (.BoolOp .Or (b :: rest) pos) with
      | some x, some y => some ⟨fOr x.f y.f, fun c => de_or c.K (x.ok c) (y.ok c)⟩
      | _, _ => none
    | .IfExp t a b pos => match mkT T cl N n sc t, mkE T cl N n sc a, mkE T cl N n sc b with
      | some w, some x, some y => some ⟨fIf w.f x.f y.f, fun c => de_if (w.ok c) (x.ok c) (y.ok c)⟩
      | _, _, _ => none
    | .Subscript a (.Slice none none (some (.UnaryOp .USub (.Constant (.int 1) k p1) p2)) p3) pos => match mkE T cl N n sc a with
      | some x => some ⟨fRev x.f, fun c => de_rev c.K (x.ok c)⟩
      | none => none
    | .Subscript a (.Slice lo hi none p2) pos => match mkE T cl N n sc a, mkO T cl N n sc lo, mkO T cl N n sc hi with
      | some x, some l, some h => some ⟨fSlice x.f l.f h.f, fun c => de_slice c.K (x.ok c) (l.ok c) (h.ok c)⟩
      | _, _, _ => none
    | .Subscript a b pos => match mkE T cl N n sc a, mkE T cl N n sc b with
      | some x, some y => if h : isSlice b = false then some ⟨fOp opIdx x.f y.f, fun c => de_idx c.K (x.ok c) (y.ok c) (plain_ix h)⟩ else none
      | _, _ => none
    | .Call (.Name x p) [e, .Name tn p2] [] pos =>
      if hx : x = "isinstance" ∧ bltOk T sc "isinstance" = true then
        (if h2 : bltOk T sc tn = true then
          match hb : bootBuiltins tn with
          | some (.type t) => (match mkE T cl N n sc e with
            | some a => if hs : isStar e = false then some (mkIsi x hx.1 tn t p p2 pos a hs hx.2 h2 hb) else none
            | none => none)
          | _ => none
        else if h3 : T.cls.contains tn = true ∧ sc.names.lookup tn = some .globalImplicit ∧ (tn == ("__debug__" : Str)) = false then
          (match mkE T cl N n sc e with
          | some a => if hs : isStar e = false then some (mkIsiX x hx.1 tn p p2 pos a hs hx.2 h3.1 h3.2.1 h3.2.2) else none
          | none => none)
        else none)
      else mkCall T cl N n sc x p [e, .Name tn p2] pos
    | .Call (.Name x p) args [] pos => mkCall T cl N n sc x p args pos
    | .Call (.Name x p) args (kw :: kws) pos => match mkA T cl N n sc args, mkK T cl N n sc (kw :: kws), hp : T.fns.lookup x with
      | some a, some q, some ps => if h : sc.names.lookup x = some .globalImplicit ∧ (x, args.length, q.ks) ∈ T.kws ∧ (x == ("__debug__" : Str)) = false then some (mkFnK x p pos ps a q h.1 hp h.2.1 h.2.2) else none
      | _, _, _ => none
    | .Call (.Attribute o m apos) [] [] pos => match mkE T cl N n sc o, mTab m 0 with
      | some a, some q => if h : isCall o = false ∧ (apos.endLine == pos.line) = true then some ⟨fM q.T q.f a.f fNil, fun c => de_m0 c.K q.pa q.slot q.hty (q.ok c.K) q.nx (a.ok c) (base_not h.1) h.2⟩ else none
      | _, _ => none
    | .Call (.Attribute o m apos) (e :: es) [] pos => match mkE T cl N n sc o, mkA T cl N n sc (e :: es), mTab m (e :: es).length with
      | some a, some r, some q => if h : isCall o = false ∧ (apos.endLine == pos.line) = true ∧ (e :: es).length < 30 then some ⟨fM q.T q.f a.f r.f, fun c => by
          obtain ⟨s1, s2⟩ := noStars_cons r.ns
          exact de_m c.K q.pa q.slot q.hty (q.ok c.K) q.nx (a.ok c) (r.ok c) (base_not h.1) (by
            rw [star_all r.ns]
            show (true && true && decide ((e :: es).length + 0 + 0 < 30)) = true
            simpa using h.2.2) h.2.1 (star_eq s1) (star_any s2)⟩ else none
      | _, _, _ => none
    | .ListComp elt [⟨tg, iter, ifs, 0⟩] scope pos => match mkI T cl N n sc tg iter, mkGw T cl N (relS scope sc) scope ((ownN N scope).map (·.2)) n tg, mkTs T cl N n (relS scope sc) ifs, mkE T cl N n (relS scope sc) elt with
      | some i, some g, some t, some x =>
        if h : blkC N sc scope (ownN N scope) = true ∧ scope.kind = .function ∧ isSet iter = false then
          some ⟨fLc i.f g.f t.f x.f ((ownN N scope).map (·.2)), fun {G W X k} c => de_lc c.calm (by rw [c.eN]; exact c.nd) (i.ok c) (by rw [c.eN, c.eS]; exact blkOk_by h.1)
            (fun s H C cs fp => g.ok (c.blk h.2.1 s H C cs fp) fun y hy => by
              show (scope.names.lookup y == some .cell) = true
              rw [hy]
              rfl) (fun s H C cs fp => t.ok (c.blk h.2.1 s H C cs fp)) (fun s H C cs fp => x.ok (c.blk h.2.1 s H C cs fp)) fun y => fold_not h.2.2⟩
        else none
      | _, _, _, _ => none
    | .FormattedValue e (-1) none pos => match mkE T cl N n sc e with
      | some x => some ⟨fFmt x.f, fun c => de_fmt (x.ok c)⟩
      | none => none
    | .JoinedStr (v1 :: v2 :: rest) pos => match mkJ T cl N n sc (v1 :: v2 :: rest) with
      | some q => some ⟨fJs q.l Str.empty, fun c => de_js (q.ok c)⟩
      | none => none
    | .JoinedStr [v] pos => match mkE T cl N n sc v with
      | some x => some ⟨x.f, fun c => pe_joined1 (x.ok c)⟩
      | none => none
    | _ => none
noncomputable def mkJ (T : Tab) (cl : Str → Cl) (N : List Str) : (n : Nat) → (sc : Scope) → (es : List Expr) → Option (SJ T cl N sc es)
  | 0, _, _ => none
  | n + 1, sc, es => match es with
    | [] => some ⟨[], fun _ => .nil⟩
    | e :: es => match mkE T cl N n sc e, mkJ T cl N n sc es with
      | some a, some r => some ⟨a.f :: r.l, fun c => .cons (a.ok c) (r.ok c)⟩
      | _, _ => none
noncomputable def mkCall (T : Tab) (cl : Str → Cl) (N : List Str) : (n : Nat) → (sc : Scope) → (x : Str) → (p : Pos) → (args : List Expr) → (pos : Pos) → Option (SE T cl N sc (.Call (.Name x p) args [] pos))
  | 0, _, _, _, _, _ => none
  | n + 1, sc, x, p, args, pos => match mkA T cl N n sc args with
    | none => none
    | some a => match hp : T.fns.lookup x with
      | some ps => if h : sc.names.lookup x = some .globalImplicit ∧ ps.length = args.length ∧ (x == ("__debug__" : Str)) = false then some (mkFn x p pos ps a h.1 hp h.2.1 h.2.2) else (match args, a, hdf : T.dfs.lookup x with
        | e :: es, a, some ds => if h : sc.names.lookup x = some .globalImplicit ∧ (e :: es).length + ds.length = ps.length ∧ (x == ("__debug__" : Str)) = false then some (mkFnD x p pos ps ds a h.1 hp hdf h.2.1 h.2.2) else none
        | _, _, _ => none)
      | none => match hx : T.xcs.lookup x with
      | some fld => (match args with
        | [e] => (match mkE T cl N n sc e with
          | some y => if h : sc.names.lookup x = some .globalImplicit ∧ isStar e = false ∧ (x == ("__debug__" : Str)) = false then some ⟨fMkx x fld y.f, fun {G W X k} c => by
              obtain ⟨fI, fd, h1, h2, h3, h4⟩ := c.xcs x fld hx
              exact pe_mkx c.K h1 h2 (c.room.mono (Nat.le_add_left 2 _)) h3 passes0 (c.gl h.1) h4 (y.ok c) h.2.2 (star_eq h.2.1)⟩ else none
          | none => none)
        | _ => none)
      | none => match args, a with
        | [], _ => none
        | e :: es, a => match bTab x with
          | some b => if h : bltOk T sc x = true then some (mkBlt x p pos b a h) else none
          | none => match es, a with
            | [e2], a => if h : x = "gcd" ∧ sc.names.lookup ("gcd" : Str) = some .globalImplicit ∧ T.gcd = true then some (mkGcd x h.1 p pos a h.2.1 h.2.2) else none
            | _, _ => none
noncomputable def mkA (T : Tab) (cl : Str → Cl) (N : List Str) : (n : Nat) → (sc : Scope) → (es : List Expr) → Option (SA T cl N sc es)
  | 0, _, _ => none
  | n + 1, sc, es => match es with
    | [] => some ⟨fNil, Len.nil, rfl, fun _ => da_nil⟩
    | e :: es => if h : isStar e = false then match mkE T cl N n sc e, mkA T cl N n sc es with
        | some a, some r => some ⟨fCons a.f r.f, r.len.cons, by unfold noStars; rw [h, r.ns]; rfl, fun c => da_cons (a.ok c) (r.ok c) (star_eq h)⟩
        | _, _ => none
      else none
noncomputable def mkK (T : Tab) (cl : Str → Cl) (N : List Str) : (n : Nat) → (sc : Scope) → (kws : List Keyword) → Option (SK T cl N sc kws)
  | 0, _, _ => none
  | n + 1, sc, kws => match kws with
    | [] => some ⟨fNil, [], Len.nil, fun _ _ => rfl, fun _ => dk_nil⟩
    | ⟨some nm, e, kpos⟩ :: kws => match mkE T cl N n sc e, mkK T cl N n sc kws with
      | some a, some r => some ⟨fCons a.f r.f, nm :: r.ks, r.len.cons, fun env pos => by rw [single_map, r.nm env pos]; rfl, fun c => dk_cons (a.ok c) (r.ok c)⟩
      | _, _ => none
    | _ => none
noncomputable def mkO (T : Tab) (cl : Str → Cl) (N : List Str) : (n : Nat) → (sc : Scope) → (o : Option Expr) → Option (SO T cl N sc o)
  | 0, _, _ => none
  | n + 1, sc, o => match o with
    | none => some ⟨none, fun _ => trivial⟩
    | some e => match mkE T cl N n sc e with
      | some a => some ⟨some a.f, fun c => a.ok c⟩
      | none => none
noncomputable def mkPr (T : Tab) (cl : Str → Cl) (N : List Str) : (n : Nat) → (sc : Scope) → (ks : List (Option Expr)) → (vs : List Expr) → Option (SP T cl N sc ks vs)
  | 0, _, _, _ => none
  | n + 1, sc, ks, vs => match ks, vs with
    | [], [] => some ⟨[], fun _ => .nil⟩
    | some k :: ks, v :: vs => match mkE T cl N n sc k, mkE T cl N n sc v, mkPr T cl N n sc ks vs with
      | some a, some b, some r => some ⟨(a.f, b.f) :: r.l, fun c => .cons (a.ok c) (b.ok c) (r.ok c)⟩
      | _, _, _ => none
    | _, _ => none
noncomputable def mkCh (T : Tab) (cl : Str → Cl) (N : List Str) : (n : Nat) → (sc : Scope) → (ops : List CmpOp) → (es : List Expr) → Option (SC T cl N sc ops es)
  | 0, _, _, _ => none
  | n + 1, sc, ops, es => match ops, es with
    | [], [] => some ⟨[], fun _ => .nil⟩
    | op :: ops, e :: es => match mkE T cl N n sc e, mkCh T cl N n sc ops es with
      | some a, some r => some ⟨((cmpTab op).o, a.f) :: r.l, fun c => .cons ((cmpTab op).ok c.K c.units) (cmpTab op).nx (a.ok c) (r.ok c)⟩
      | _, _ => none
    | _, _ => none
noncomputable def mkT (T : Tab) (cl : Str → Cl) (N : List Str) : (n : Nat) → (sc : Scope) → (e : Expr) → Option (ST T cl N sc e)
  | 0, _, _ => none
  | n + 1, sc, e => match e with
    | .Compare a [op] [b] pos => match mkE T cl N n sc a, mkE T cl N n sc b with
      | some x, some y => if h : behindInMarks op b = false then some ⟨fBool (fOp (cmpTab op).o x.f y.f), fun c => dt_cmp ((cmpTab op).ok c.K c.units) (cmpTab op).nx (x.ok c) (y.ok c) h⟩ else none
      | _, _ => none
    | .Compare a (op :: op' :: ops) (b :: b' :: es) pos => match mkE T cl N n sc a, mkCh T cl N n sc (op :: op' :: ops) (b :: b' :: es) with
      | some x, some y => if h : lastMarks (op :: op' :: ops) (b :: b' :: es) = false then some ⟨fBool (fCmps x.f y.l), fun c => dt_chain (x.ok c) (y.ok c) h⟩ else none
      | _, _ => none
    | .UnaryOp .Not a pos => match mkT T cl N n sc a with
      | some x => some ⟨fNotT x.f, fun c => dt_not (x.ok c)⟩
      | none => none
    | .BoolOp op vs pos => match mkW T cl N n sc (.BoolOp op vs pos) with
      | some x => some ⟨x.f, fun c => (x.ok c).pt⟩
      | none => none
    | e => if h : isVal e = true then match mkE T cl N n sc e with
        | some x => some ⟨fTest x.f, fun c => dt_val c.K (x.ok c) fun _ => isTrue_val h⟩
        | none => none
      else none
noncomputable def mkW (T : Tab) (cl : Str → Cl) (N : List Str) : (n : Nat) → (sc : Scope) → (e : Expr) → Option (SW T cl N sc e)
  | 0, _, _ => none
  | n + 1, sc, e => match e with
    | .BoolOp .And [a] pos => match mkT T cl N n sc a with
      | some x => some ⟨x.f, fun c => pw_and1 (x.ok c)⟩
      | none => none
    | .BoolOp .Or [a] pos => match mkT T cl N n sc a with
      | some x => some ⟨x.f, fun c => pw_or1 (x.ok c)⟩
      | none => none
    | .BoolOp .And (a :: b :: rest) pos => match mkT T cl N n sc a, mkW T cl N n sc (.BoolOp .And (b :: rest) pos) with
      | some x, some y => some ⟨fAndT x.f y.f, fun c => dw_and (x.ok c) (y.ok c)⟩
      | _, _ => none
    | .BoolOp .Or (a :: b :: rest) pos => match mkT T cl N n sc a, mkW T cl N n sc (.BoolOp .Or (b :: rest) pos) with
      | some x, some y => some ⟨fOrT x.f y.f, fun c => dw_or (x.ok c) (y.ok c)⟩
      | _, _ => none
    | _ => none
noncomputable def mkTs (T : Tab) (cl : Str → Cl) (N : List Str) : (n : Nat) → (sc : Scope) → (ifs : List Expr) → Option (STs T cl N sc ifs)
  | 0, _, _ => none
  | n + 1, sc, ifs => match ifs with
    | [] => some ⟨fTrue, fun _ => pts_yes⟩
    | [c] => match mkT T cl N n sc c with
      | some x => some ⟨x.f, fun c => pts_one (x.ok c)⟩
      | none => none
    | _ => none
noncomputable def mkI (T : Tab) (cl : Str → Cl) (N : List Str) : (n : Nat) → (sc : Scope) → (tg e : Expr) → Option (SI T cl N sc tg e)
  | 0, _, _, _ => none
  | n + 1, sc, tg, e => match e with
    | .Call (.Name x p) [a] [] pos => if h : x = "range" ∧ bltOk T sc "range" = true then match mkA T cl N n sc [a] with
        | some q => some ⟨iRng rng1 q.f, fun c => by
            obtain ⟨g1, g2, _, _⟩ := bltOk_ok h.2
            obtain ⟨s1, s2⟩ := noStars_cons q.ns
            rw [h.1]
            exact di_rng1 (c.gl g1) (c.blt _ g2) (q.ok c) (star_eq s1)⟩
        | none => none
      else match mkCall T cl N n sc x p [a] pos with
        | some q => some ⟨iSeq q.f, fun c => di_seq c.K (q.ok c)⟩
        | none => none
    | .Call (.Name x p) [a, b] [] pos => if h : x = "range" ∧ bltOk T sc "range" = true then match mkA T cl N n sc [a, b] with
        | some q => some ⟨iRng rng2 q.f, fun c => by
            obtain ⟨g1, g2, _, _⟩ := bltOk_ok h.2
            obtain ⟨s1, s2⟩ := noStars_cons q.ns
            obtain ⟨s3, s4⟩ := noStars_cons s2
            rw [h.1]
            exact di_rng2 (c.gl g1) (c.blt _ g2) (q.ok c) (by rw [star_eq s1, star_eq s3]; rfl) (star_eq s3)⟩
        | none => none
      else match mkCall T cl N n sc x p [a, b] pos with
        | some q => some ⟨iSeq q.f, fun c => di_seq c.K (q.ok c)⟩
        | none => none
    | .Call (.Name x p) [a, b, d] [] pos => if h : x = "range" ∧ bltOk T sc "range" = true then match mkA T cl N n sc [a, b, d] with
        | some q => some ⟨iRng rng3 q.f, fun c => by
            obtain ⟨g1, g2, _, _⟩ := bltOk_ok h.2
            obtain ⟨s1, s2⟩ := noStars_cons q.ns
            rw [h.1]
            exact di_rng3 (c.gl g1) (c.blt _ g2) (q.ok c) (star_eq s1) (star_any s2)⟩
        | none => none
      else match mkCall T cl N n sc x p [a, b, d] pos with
        | some q => some ⟨iSeq q.f, fun c => di_seq c.K (q.ok c)⟩
        | none => none
    | e => match mkE T cl N n sc e with
      | some q => some ⟨iSeq q.f, fun c => di_seq c.K (q.ok c)⟩
      | none => none
end
end DL
end
section
set_option Elab.async false
set_option linter.all false
set_option maxRecDepth 100000
set_option maxHeartbeats 4000000
/-! DL21: the builder: statements -/
namespace DL
open PySem PySem.Spec PyProof.Rows L2
section
variable {G : Gs} {W : WX} {X : Cx}
theorem ds_par3 {i j l : Nat} {x y z : Str} {a b c : Expr} {fs : Den (List D)} {px py pz pt pos : Pos} {kt k2 pt2} (hc : X.calm = true) (hN : X.N.Nodup) (hi : X.N[i]? = some x) (hj : X.N[j]? = some y) (hl : X.N[l]? = some z) (hij : i ≠ j) (hil : i ≠ l) (hjl : j ≠ l)
    (hx : X.env.scope.names.lookup x = some .local) (hy : X.env.scope.names.lookup y = some .local) (hz : X.env.scope.names.lookup z = some .local) (ha : PA X [a, b, c] (TDA G W fs))
    (hw : swappedStores [.Tuple [.Name x px, .Name y py, .Name z pz] kt pt] (.Tuple [a, b, c] k2 pt2) X.env = pure (some [x, y, z])) :
    PS X (.Assign [.Tuple [.Name x px, .Name y py, .Name z pz] kt pt] (.Tuple [a, b, c] k2 pt2) pos) (TDS G W (sPar3 i j l fs)) :=
  (ps_par3 hc hN hi hj hl hij hil hjl hx hy hz ha hw).imp fun E σ H ⟨φ, S, ρ, rp, er, h⟩ => TG.seq rp er h fun φ1 S1 H1 ds vs f1 rp1 er1 rd h1 => by
    cases rd with
    | nil => exact (post_bad h1).elim
    | cons r1 q1 =>
      cases q1 with
      | nil => exact (post_bad h1).elim
      | cons r2 q2 =>
        cases q2 with
        | nil => exact (post_bad h1).elim
        | cons r3 q3 =>
          cases q3 with
          | nil => exact ⟨_, _, _, rfl, post_ok (Q := endsQ E) (v := FlV.nx _) h1 rp1 (((er1.set r1).set r2).set r3)⟩
          | cons _ _ => exact (post_bad h1).elim
/-- x = [.. for ..] -/
theorem ds_setLc {i : Nat} {y : Str} {py : Pos} {elt tg iter : Expr} {ifs : List Expr} {scope : Scope} {own : List (Str × Nat)} {pos spos : Pos} {it : Den ItD} {g : DenG} {tt : Den Bool} {te : Den D} (hc : X.calm = true) (hN : X.N.Nodup) (hy : X.N[i]? = some y) (hyl : X.env.scope.names.lookup y = some .local)
    (hsw : swapsWith (.ListComp elt [⟨tg, iter, ifs, 0⟩] scope pos) (some (.Name y py)) spos.line X.env = pure true) (hi : PI X tg iter (TDI G W it)) (ok : BlkOk X.N X.env.scope scope own)
    (hg : ∀ (s : Shared) (H : Hp) (C : Addr) (cl : List (Str × Addr)) (fp : List Addr), PG (X.blk s H scope (compEnvC scope cl C X.env) fp) tg (TDGw G W0 (own.map (·.2)) g)) (ht : ∀ (s : Shared) (H : Hp) (C : Addr) (cl : List (Str × Addr)) (fp : List Addr), PTs (X.blk s H scope (compEnvC scope cl C X.env) fp) ifs (TDB G W0 tt))
    (he : ∀ (s : Shared) (H : Hp) (C : Addr) (cl : List (Str × Addr)) (fp : List Addr), PE (X.blk s H scope (compEnvC scope cl C X.env) fp) elt (TD G W0 te)) (hs : ∀ x, foldedSetIterable iter X.env x = pure x) :
    PS X (.Assign [.Name y py] (.ListComp elt [⟨tg, iter, ifs, 0⟩] scope pos) spos) (TDS G W (sAsg (fLc it g tt te (own.map (·.2))) (tName i))) :=
  (ps_setLc hc hN hy hyl hsw hi ok hg ht he hs).imp fun E σ H ⟨φ, S, ρ, rp, er, h⟩ => by
    refine lc_read rp er ?_
    replace h : Post RelFl G W φ S.length H ((fLc it g tt te (own.map (·.2)) ρ S).bind fun d S1 => (tName i d ρ S1).bind fun ρ1 S2 => .ok (.nx ρ1) S2) (endsQ E) := h
    cases e : fLc it g tt te (own.map (·.2)) ρ S with
    | bad => rw [e] at h; exact (post_bad h).elim
    | exc c fs ρ' S1 => rw [e] at h; exact h
    | ok d S1 =>
      rw [e] at h
      exact fun φ1 H1 v f1 rp1 rd => post_ok (Q := endsQ E) (v := FlV.nx (σ.set i (some v))) (Post.fut f1 h) rp1 ((er.fut f1).set rd)
end
/-! ### what the text's stores do -/
def swB (sc : Scope) (x : Str) (px lp : Pos) (scope : Scope) : Bool := (sc.names.lookup x == some .local) && (px.line == lp.line) && !(scope.names.any fun (n, k) => n == x && (k == .local || k == .cell))
theorem block_fn {env : Env} (h : env.scope.kind = .function) : env.blockKind = .function := by
  unfold Env.blockKind
  rw [h]
  rfl
theorem swB_ok {sc : Scope} {env : Env} {x : Str} {px lp : Pos} {elt : Expr} {gens : List Comprehension} {scope : Scope} {l : Nat} (hS : env.scope = sc) (hk : sc.kind = .function) : swapsWith (.ListComp elt gens scope lp) (some (.Name x px)) l env = pure (swB sc x px lp scope) := by
  show (pure (env.blockKind == .function && env.scope.names.lookup x == some .local && px.line == lp.line && !(scope.names.any fun (n, k) => n == x && (k == .local || k == .cell))) : Sem Bool) = _
  rw [block_fn (by rw [hS]; exact hk), hS]
  rfl
def lineOf (ts : List Expr) : Nat := (ts.head?.map (·.pos.line)).getD 0
def namesOf (sc : Scope) (line : Nat) (ts : List Expr) : List Str := ts.filterMap fun
  | .Name id pos => if sc.names.lookup id == some .local && pos.line == line then some id else none
  | _ => none
def swS (sc : Scope) (ts vs : List Expr) : Option (Option (List Str)) :=
  if (!(ts.length == 2 || ts.length == 3) || vs.length != ts.length) = true then some none
  else if vs.any isStar = true then some none
  else if ((namesOf sc (lineOf ts) ts).length != ts.length || (namesOf sc (lineOf ts) ts).eraseDups.length != (namesOf sc (lineOf ts) ts).length) = true then some none
  else if vs.all (foldedForSure 8) = true then some none
  else if vs.all (constantsAlone 8) = true then none
  else some (some (namesOf sc (lineOf ts) ts))
theorem swS_ok {sc : Scope} {env : Env} {ts vs : List Expr} {r : Option (List Str)} {kt k2 : Nat} {pt p2 : Pos} (hS : env.scope = sc) (hk : sc.kind = .function) (h : swS sc ts vs = some r) : swappedStores [.Tuple ts kt pt] (.Tuple vs k2 p2) env = pure r := by
  have hb := block_fn (env := env) (by rw [hS]; exact hk)
  have hn : (ts.filterMap fun | .Name id pos => if env.kindOf id == some .local && pos.line == lineOf ts then some id else none | _ => none) = namesOf sc (lineOf ts) ts := by
    unfold namesOf Env.kindOf
    rw [hS]
  unfold swappedStores
  simp only [pure_bind]
  unfold swS at h
  have hbn : (env.blockKind != .function) = false := by rw [hb]; rfl
  rw [hbn, Bool.or_false]
  by_cases c : (!(ts.length == 2 || ts.length == 3) || vs.length != ts.length) = true
  · rw [if_pos c] at h
    cases h
    exact if_pos c
  · rw [if_neg c] at h
    refine (if_neg c).trans ?_
    by_cases c2 : vs.any isStar = true
    · rw [if_pos c2] at h
      cases h
      exact if_pos c2
    · rw [if_neg c2] at h
      refine (if_neg c2).trans ?_
      have hn2 : (ts.filterMap fun | .Name id pos => if env.kindOf id == some .local && pos.line == (ts.head?.map (·.pos.line)).getD 0 then some id else none | _ => none) = namesOf sc (lineOf ts) ts := hn
      by_cases c3 : ((namesOf sc (lineOf ts) ts).length != ts.length || (namesOf sc (lineOf ts) ts).eraseDups.length != (namesOf sc (lineOf ts) ts).length) = true
      · rw [if_pos c3] at h
        cases h
        rw [← hn2] at c3
        exact if_pos c3
      · rw [if_neg c3] at h
        by_cases c4 : vs.all (foldedForSure 8) = true
        · rw [if_pos c4] at h
          cases h
          rw [← hn2] at c3
          exact (if_neg c3).trans (if_pos c4)
        · rw [if_neg c4] at h
          by_cases c5 : vs.all (constantsAlone 8) = true
          · rw [if_pos c5] at h
            cases h
          · rw [if_neg c5] at h
            cases h
            rw [← hn2] at c3
            refine (if_neg c3).trans ((if_neg c4).trans ?_)
            have : (vs.all (constantsAlone 8)) = false := by simpa using c5
            rw [this, ← hn2]
            rfl
def isTup : Expr → Bool
  | .Tuple .. => true
  | _ => false
theorem swN_ok {ts : List Expr} {v : Expr} {env : Env} {kt : Nat} {pt : Pos} (h : isTup v = false) : swappedStores [.Tuple ts kt pt] v env = pure none := by
  cases v <;> first | rfl | cases h
theorem swI_ok {o i v : Expr} {env : Env} {p : Pos} : swappedStores [.Subscript o i p] v env = pure none := by
  cases v <;> rfl
end DL
end
section
set_option Elab.async false
set_option linter.all false
set_option maxRecDepth 100000
set_option maxHeartbeats 4000000
/-! DL21r: raise -/
namespace DL
open PySem PySem.Spec PyProof.Rows L2
def sRaise (c fld : Str) (f : Den D) : DenS := fun ρ S => (f ρ S).bind fun d S1 => .exc c [(fld, d)] ρ S1
section
variable {G : Gs} {W : WX} {X : Cx}
theorem ds_raise {CX : CXT} {x c fld : Str} {fI : Addr} {k : Nat} {fd : FuncData} {p pos pos2 : Pos} {e : Expr} {f : Den D} (hK : X.K = G.K) (hc : X.calm = true) (tk : Takes X W) (T : XcOk X.K (G.cA c) fld fI fd)
    (F1 : FnOk X.prog X.w X.K X.mg X.base CX k fI fd ["self", "given"] (spInit (G.cA c) fld)) (hr : Room (k + 1) X.A) (hb : Binds X.K fd ["self", "given"] []) (hx : Passes CX X (fun _ _ _ => False)) (hg : Gl X x) (hm : X.mg x = some (.ref (G.cA c))) (he' : PE X e (TD G W f))
    (hdb : (x == ("__debug__" : Str)) = false) (he : starEach [e] X.env = (false, eval e X.env) :: starEach [] X.env) :
    PS X (.Raise (some (.Call (.Name x p) [e] [] pos)) none pos2) (TDS G W (sRaise c fld f)) := by
  refine (ps_raise hc tk (pmk_oex (dvs := []) T.T T.iC T.tI F1 hr hb .nil hx hg hm (pa_cons he' pa_nil he) hdb he rfl)).imp fun E σ H ⟨φ, S, ρ, rp, er, h⟩ => ?_
  refine TG.seq rp er h fun φ1 S1 H1 d v f1 rp1 er1 rd h1 => ⟨Nat.le_of_ble_eq_true rfl, fun a ha => ⟨a, v, rfl, upd_same, fun dx hdx ne => ⟨rfl, dx, [(fld, v)], upd_same, ?_, ?_, ?_⟩⟩⟩
  · rw [upd_ne ne, upd_same]
  · rw [upd_ne ne] at hdx
    exact hdx
  · rw [upd_ne ne] at hdx
    have e2 : upd (del (upd (upd (upd H1 a (exo a (G.cA c) none)) dx (exd dx [(fld, v)])) a (exo a (G.cA c) (some dx))) a) dx (.xd [(fld, v)]) = upd H1 dx (.xd [(fld, v)]) := by
      funext b
      by_cases c1 : b = dx
      · rw [c1, upd_same, upd_same]
      · rw [upd_ne c1, upd_ne c1]
        by_cases c2 : b = a
        · rw [c2, del_same, ha]
        · rw [del_ne c2, upd_ne c2, upd_ne c1, upd_ne c2]
    rw [e2]
    obtain ⟨ft0, rp2, no⟩ := rp1.lay (o := .xd [(fld, v)]) hdx
    exact h1 φ1 _ σ dx [(fld, v)] ft0 rp2 (er1.fut ft0) upd_same (.cons (rd.fut ft0) .nil)
end
end DL
end
section
set_option Elab.async false
set_option linter.all false
set_option maxRecDepth 100000
set_option maxHeartbeats 4000000
/-! DL21s: except suites: the error that is held is no value of ours; its field and its class are told -/
namespace DL
open PySem PySem.Spec PyProof.Rows L2
/-- the error at a, whose dict is dd, is held in slot i -/
structure Held (G : Gs) (i a : Nat) (dd : Addr) (fs : List (Str × D)) (φ : Nat → Addr) (S : Sto) (ρ : Ev) (σ : L2.St) (H : Hp) : Prop where
  rp : Rep G H φ S
  er : EnvR G.K H φ S.length ρ σ
  xd : ∃ vs, H dd = some (.xd vs) ∧ RelFs G.K H φ S.length fs vs
  sl : σ[i]? = some (some (.ref a))
section
variable {G : Gs} {X : Cx} {i a : Nat} {dd : Addr} {fs : List (Str × D)} {φ : Nat → Addr} {S : Sto} {ρ : Ev} {σ : L2.St} {H : Hp}
theorem Held.fut (h : Held G i a dd fs φ S ρ σ H) {φ1 : Nat → Addr} {S1 : Sto} {H1 : Hp} (ft : Fut G φ S.length H φ1 S1.length H1) (rp1 : Rep G H1 φ1 S1) : Held G i a dd fs φ1 S1 ρ σ H1 := by
  refine ⟨rp1, h.er.fut ft, ?_, h.sl⟩
  obtain ⟨vs, e, r⟩ := h.xd
  refine ⟨vs, ft.keep dd _ e fun l hl z => ?_, r.fut ft⟩
  have ob := h.rp.ob l _ (List.getElem?_eq_getElem hl)
  generalize S[l] = o at ob
  cases o with
  | lst _ =>
    obtain ⟨_, _, q, _⟩ := ob
    rw [z, e] at q
    cases q
  | fro _ =>
    obtain ⟨_, _, _, q, _⟩ := ob
    rw [z, e] at q
    cases q
  | dct _ =>
    obtain ⟨_, q, _⟩ := ob
    rw [z, e] at q
    cases q
  | exc _ _ =>
    obtain ⟨_, _, q, _⟩ := ob
    rw [z, e] at q
    cases q
def THe {α β : Type} (T : Rl α β) (G : Gs) (i a : Nat) (dd : Addr) (fs : List (Str × D)) (f : Den α) : L2.St → Hp → (β → Hp → Prop) → Prop := fun σ H Q => ∃ φ S ρ, Held G i a dd fs φ S ρ σ H ∧ Post T G W0 φ S.length H (f ρ S) Q
theorem THe.seq {α β α' β' : Type} {T : Rl α β} {T' : Rl α' β'} {fa : Den α} {g : α → Sto → R α'} {Q : β' → Hp → Prop} {Q1 : β → Hp → Prop} (hd : Held G i a dd fs φ S ρ σ H) (h : Post T' G W0 φ S.length H ((fa ρ S).bind g) Q)
    (k : ∀ φ1 S1 H1 d v, Fut G φ S.length H φ1 S1.length H1 → Held G i a dd fs φ1 S1 ρ σ H1 → T G.K H1 φ1 S1.length d v → Post T' G W0 φ1 S1.length H1 (g d S1) Q → Q1 v H1) : THe T G i a dd fs fa σ H Q1 := by
  refine ⟨φ, S, ρ, hd, ?_⟩
  cases e : fa ρ S with
  | ok d S1 =>
    rw [e] at h
    exact fun φ1 H1 v f1 rp1 rd => k φ1 S1 H1 d v f1 (hd.fut f1 rp1) rd (Post.fut f1 h)
  | exc c fs ρ' S1 =>
    rw [e] at h
    exact h
  | bad =>
    rw [e] at h
    exact h.elim
theorem he_of {e : Expr} {f : Den D} (h : PE X e (TD G W0 f)) : PE X e (THe RelD G i a dd fs f) := h.imp fun σ H Q ⟨φ, S, ρ, hd, q⟩ => ⟨φ, S, ρ, hd.rp, hd.er, q⟩
theorem RelFs.look {K : PySem.W.Frag} {n : Nat} {f : Str} {d : D} : ∀ {ds : List (Str × D)} {vs : List (Str × V)}, RelFs K H φ n ds vs → ds.lookup f = some d → ∃ v, vs.lookup f = some v ∧ RelD K H φ n d v
  | _, _, .nil, h => by cases h
  | _, _, .cons (f := g) r rs, h => by
    rw [List.lookup_cons] at h ⊢
    cases k : (f == g) with
    | true =>
      rw [k] at h
      cases h
      exact ⟨_, rfl, r⟩
    | false =>
      rw [k] at h
      exact RelFs.look rs h
/-- e.f of the error that is held -/
def hFld (fld : Str) (fs : List (Str × D)) : Den D := fun _ S => match fs.lookup fld with
  | some d => .ok d S
  | none => .bad
theorem he_fld {oe : Obj} {pn : List (Addr × Obj)} {fld n : Str} {C : Addr} {pos pos2 : Pos} (T : XfOk X.K C fld) (hz : Zc (.ref C) (some dd) oe) (hf : ∃ vs, oe.data = .fields vs) (hN : X.N[i]? = some n) (hv : Vis X.env.scope n) (hd : (n == ("__debug__" : Str)) = false) (hcd : (n == ("__classdict__" : Str)) = false) :
    PE (X.suite a ((a, oe) :: pn)) (.Attribute (.Name n pos) fld pos2) (THe RelD G i a dd fs (hFld fld fs)) := by
  refine ⟨fun pins s σ H Q I ⟨φ, S, ρ, hh, h⟩ => ?_⟩
  have pv : PE (X.suite a ((a, oe) :: pn)) (.Name n pos) (tVar i) := pe_var hN hv hd hcd
  refine attr_of rfl (thn (pv.run pins s σ H (fun v H1 => v = .ref a ∧ H1 = H) I ⟨_, hh.sl, rfl, rfl⟩) fun u s1 ⟨v, H1, I1, rv, ev, eh⟩ => ?_)
  subst ev eh
  obtain rfl : u = Value.ref a := rv
  obtain ⟨ha, _⟩ := I1.pin (a, oe) (List.mem_append_left _ List.mem_cons_self)
  obtain ⟨ws, hd⟩ := hf
  obtain ⟨vs, ex, rf⟩ := hh.xd
  unfold hFld at h
  cases hl : fs.lookup fld with
  | none => rw [hl] at h; exact h.elim
  | some d =>
    rw [hl] at h
    obtain ⟨v, lv, rd⟩ := rf.look hl
    obtain ⟨mA, hns, hr⟩ : ObjOk X.prog X.w H1 s1.heap dd (.xd vs) := I1.hok dd _ ex
    obtain ⟨od, ho, hlk⟩ := lookIn_ns hns
    obtain ⟨u, hu, ru⟩ := RelO.some_of (v := v) (o := mA fld) (by rw [← lv]; exact hr fld)
    have J : PySem.W.InstAt s1.heap a oe C (some od) := ⟨ha, hz.1, by unfold PySem.W.notCls; rw [hd] <;> rfl, by rw [hz.2]; exact ho⟩
    exact HandSPX.exc_get I1.kIn J T.E.hg T.E.hk T.E.hs (PySem.W.findObj_own T.E.hd T.no rfl (by rw [hlk, hu])) (handed_of ru) ⟨v, H1, I1.tok _, ru, h φ H1 v .refl hh.rp rd⟩
/-- isinstance(e, c) of the error that is held -/
def hIsi (b : Bool) : Den D := fun _ S => .ok (.bl b) S
theorem he_isi {oe : Obj} {pn : List (Addr × Obj)} {n : Str} {C : Addr} {c : V} {cv : Value} {b : Bool} {ce : Expr} {p pos pos2 : Pos} (E : ExcC X.K C) (hz : Zc (.ref C) (some dd) oe) (hf : ∃ vs, oe.data = .fields vs) (hN : X.N[i]? = some n) (hv : Vis X.env.scope n) (hd : (n == ("__debug__" : Str)) = false) (hcd : (n == ("__classdict__" : Str)) = false)
    (hans : PySem.W.kitOne X.K (.ref C) cv = some b) (hc : ClsV c cv) (hce : PE (X.suite a ((a, oe) :: pn)) ce (tC c)) (hg : Gl X "isinstance") (hm : X.mg "isinstance" = none) (hs : starEach [.Name n pos, ce] X.env = (false, eval (.Name n pos) X.env) :: starEach [ce] X.env) (hs2 : starEach [ce] X.env = [(false, eval ce X.env)]) :
    PE (X.suite a ((a, oe) :: pn)) (.Call (.Name "isinstance" p) [.Name n pos, ce] [] pos2) (THe RelD G i a dd fs (hIsi b)) := by
  have pv : PE (X.suite a ((a, oe) :: pn)) (.Name n pos) (tVar i) := pe_var hN hv hd hcd
  have rd : CallR (X.suite a ((a, oe) :: pn)) (.builtin "isinstance") (fun xs H Q => xs = [.ref a, c] ∧ (∃ vs, H dd = some (.xd vs)) ∧ Q (.bl b) H) := by
    intro pins s σ H xs us Q I r ⟨ex, ⟨vs, hx⟩, q⟩
    subst ex
    obtain ⟨u1, u2, rfl, r1, r2⟩ := vals2 r
    have e3 := hc.eq r2
    subst e3
    obtain rfl : u1 = Value.ref a := r1
    obtain ⟨ha, _⟩ := I.pin (a, oe) (List.mem_append_left _ List.mem_cons_self)
    obtain ⟨ws, hdt⟩ := hf
    obtain ⟨mA, hns, hr⟩ : ObjOk X.prog X.w H s.heap dd (.xd vs) := I.hok dd _ hx
    obtain ⟨od, ho, hlk⟩ := lookIn_ns hns
    have J : PySem.W.InstAt s.heap a oe C (some od) := ⟨ha, hz.1, by unfold PySem.W.notCls; rw [hdt] <;> rfl, by rw [hz.2]; exact ho⟩
    exact PySem.W.kia_one (PySem.W.dl_kitExc (od := some od) E) I.kIn J hans (fun z => nomatch z) fun tk => ⟨.bl b, H, I.tok tk, rfl, q⟩
  refine (pe_callB rd hg hm rfl (pa_cons pv (pa_cons hce pa_nil hs2) hs) (he := hs) (hpl := by
    show (backTo pos2 (starEach [ce] X.env)).any (·.1) = false
    rw [hs2]; rfl)).imp fun σ H Q ⟨φ, S, ρ, hh, h⟩ => ?_
  obtain ⟨vs, ex, rf⟩ := hh.xd
  exact ⟨_, hh.sl, rfl, ⟨vs, ex⟩, h φ H (.bl b) .refl hh.rp (.bl b)⟩
theorem hea_nil : PA X [] (THe RelDs G i a dd fs fNil) := pa_nil.imp fun σ H Q ⟨φ, S, ρ, hh, h⟩ => post_ok h hh.rp .nil
theorem hea_cons {e : Expr} {es : List Expr} {f : Den D} {gs : Den (List D)} (ha : PE X e (THe RelD G i a dd fs f)) (hr : PA X es (THe RelDs G i a dd fs gs)) (hs : starEach (e :: es) X.env = (false, eval e X.env) :: starEach es X.env) : PA X (e :: es) (THe RelDs G i a dd fs (fCons f gs)) :=
  (pa_cons ha hr hs).imp fun σ H Q ⟨φ, S, ρ, hh, h⟩ => THe.seq hh h fun φ1 S1 H1 d v f1 h1 rd q1 => THe.seq h1 q1 fun φ2 S2 H2 ds vs f2 h2 rds q2 => post_ok q2 h2.rp (.cons (rd.fut f2) rds)
theorem THe.seqL {α' β' : Type} {T' : Rl α' β'} {n : Nat} {gs : Den (List D)} {g : List D → Sto → R α'} {Q : β' → Hp → Prop} {Q1 : List V → Hp → Prop} (hn : Len n gs) (hd : Held G i a dd fs φ S ρ σ H) (h : Post T' G W0 φ S.length H ((gs ρ S).bind g) Q)
    (k : ∀ φ1 S1 H1 ds vs, Held G i a dd fs φ1 S1 ρ σ H1 → RelDs G.K H1 φ1 S1.length ds vs → ds.length = n → Post T' G W0 φ1 S1.length H1 (g ds S1) Q → Q1 vs H1) : THe RelDs G i a dd fs gs σ H Q1 := by
  refine ⟨φ, S, ρ, hd, ?_⟩
  have hl := hn ρ S
  cases e : gs ρ S with
  | ok ds S1 =>
    rw [e] at h hl
    exact fun φ1 H1 v f1 rp1 rd => k φ1 S1 H1 ds v (hd.fut f1 rp1) rd (hl _ _ rfl) (Post.fut f1 h)
  | exc c fs ρ' S1 =>
    rw [e] at h
    exact h
  | bad =>
    rw [e] at h
    exact h.elim
theorem he_lst {es : List Expr} {gs : Den (List D)} {pos : Pos} {n : Nat} (h : PA X es (THe RelDs G i a dd fs gs)) (hn : Len n gs) (hz : n ≤ sizeLine) : PE X (.List es pos) (THe RelD G i a dd fs (fLst gs)) :=
  (pe_lst h).imp fun σ H Q ⟨φ, S, ρ, hh, q⟩ => THe.seqL hn hh q fun φ1 S1 H1 ds vs h1 rds hl q1 => ⟨by rw [← rds.length, hl]; exact hz, fun p hp => post_lst q1 h1.rp rds (by rw [hl]; exact hz) hp⟩
theorem he_tup {es : List Expr} {gs : Den (List D)} {k : Nat} {pos : Pos} {n : Nat} (h : PA X es (THe RelDs G i a dd fs gs)) (hn : Len n gs) (hz : n ≤ sizeLine) : PE X (.Tuple es k pos) (THe RelD G i a dd fs (fTup gs)) :=
  (pe_tup h).imp fun σ H Q ⟨φ, S, ρ, hh, q⟩ => THe.seqL hn hh q fun φ1 S1 H1 ds vs h1 rds hl q1 => ⟨by rw [← rds.length, hl]; exact hz, fun p hp => post_tup q1 h1.rp rds (by rw [hl]; exact hz) hp⟩
/-! ### suites of one statement -/
def THs (G : Gs) (i a : Nat) (dd : Addr) (fs : List (Str × D)) (f : DenS) : TS := fun E σ H => THe RelFl G i a dd fs f σ H (endsQ E)
theorem hs_ret {e : Expr} {f : Den D} {pos : Pos} (he : PE X e (THe RelD G i a dd fs f)) : PSs X [.Return (some e) pos] (THs G i a dd fs (sRet f)) :=
  (pss_one (ps_ret he)).imp fun E σ H ⟨φ, S, ρ, hh, h⟩ => THe.seq hh h fun φ1 S1 H1 d v f1 h1 rd q1 => post_ok (v := FlV.ret v) q1 h1.rp rd
theorem hs_set {e : Expr} {f : Den D} {j : Nat} {x : Str} {px pos : Pos} (hN : X.N.Nodup) (hj : X.N[j]? = some x) (hx : Loc X.env.scope x) (he : PE X e (THe RelD G i a dd fs f)) (hsw : swapsWith e (some (.Name x px)) pos.line X.env = pure false) (hf : X.fn x = true ∨ X.env.scope.names.lookup x = some .local) :
    PSs X [.Assign [.Name x px] e pos] (THs G i a dd fs (sAsg f (tName j))) :=
  (pss_one (ps_set hN hj hx he hsw hf)).imp fun E σ H ⟨φ, S, ρ, hh, h⟩ => THe.seq hh h fun φ1 S1 H1 d v f1 h1 rd q1 => post_ok (v := FlV.nx (σ.set j (some v))) q1 h1.rp (h1.er.set rd)
end
/-! ### try: body, except x as n: suite -/
/-- the slot of the error is empty behind its suite -/
def clrFl (i : Nat) : Fl → Fl
  | .nx ρ => .nx (ρ.set i none)
  | .brk ρ => .brk (ρ.set i none)
  | .cnt ρ => .cnt (ρ.set i none)
  | .ret d => .ret d
def clrR (i : Nat) : R Fl → R Fl
  | .ok f S => .ok (clrFl i f) S
  | _ => .bad
def hTry (exm : Str → Str → Option Bool) (x : Str) (i : Nat) (su : Str → List (Str × D) → DenS) : R Fl → R Fl
  | .exc c fs ρ S => match exm c x with
    | some true => if i < ρ.length then clrR i (su c fs (ρ.set i none) S) else .bad
    | some false => .exc c fs ρ S
    | none => .bad
  | r => r
def sTry (exm : Str → Str → Option Bool) (b : DenS) (x : Str) (i : Nat) (su : Str → List (Str × D) → DenS) : DenS := fun ρ S => hTry exm x i su (b ρ S)
section
variable {G : Gs} {W : WX} {X : Cx}
theorem ds_try {exm : Str → Str → Option Bool} {b : DenS} {su : Str → List (Str × D) → DenS} {i : Nat} {x n : Str} {body : List Stmt} {st : Stmt} {np pos pos2 : Pos} (hs : X.stack = X.env :: X.outer) (hf : X.env.frame = some X.env.locals) (hN : X.N.Nodup) (hi : X.N[i]? = some n) (hln : X.env.kindOf n = some .local)
    (hg : Gl X x) (hdb : (x == ("__debug__" : Str)) = false) (hm : X.mg x = some (.ref (G.cA x))) (tk : Takes X W) (hex : ∀ c r, exm c x = some r → PySem.W.exmOne X.K (.ref (G.cA c)) (.ref (G.cA x)) = some r)
    (hb : ∀ (W : WX) (pn : List (Addr × Obj)) (xe : Value → Shared → Prop), Takes (X.tr pn xe) W → PassesOwn (model X.prog X.w) X.A X.env xe → PSs (X.tr pn xe) body (TDS G W b))
    (hsu : ∀ (a : Addr) (oe : Obj) (c : Str) (fs : List (Str × D)) (dd : Addr) (pn : List (Addr × Obj)), Zc (.ref (G.cA c)) (some dd) oe → (∃ vs, oe.data = .fields vs) → exm c x = some true → PSs (X.suite a ((a, oe) :: pn)) [st] (THs G i a dd fs (su c fs))) :
    PS X (.Try body [.ExceptHandler (some (.Name x np)) (some n) [st] pos2] [] [] pos) (TDS G W (sTry exm b x i su)) := by
  refine (ps_try_as (tb := fun W => TDS G W b) (ts := fun a cls d E σ H => ∃ c fs dd, cls = .ref (G.cA c) ∧ d = some dd ∧ exm c x = some true ∧ THs G i a dd fs (su c fs) E σ H) (Wout := W) (c := .ref (G.cA x)) hs hf hN hi hln ⟨hg, hdb, .inl hm⟩ tk hb (fun a oe cls d pn hz hfl => ⟨fun pins s σ H D I ⟨c, fs, dd, h1, h2, h3, h⟩ => ?_⟩)).imp fun D σ H ⟨φ, S, ρ, rp, er, h⟩ => ?_
  · subst h1 h2
    exact (hsu a oe c fs dd pn hz hfl h3).run pins s σ H D I h
  refine ⟨φ, S, ρ, rp, er, ?_⟩
  replace h : Post RelFl G W φ S.length H (hTry exm x i su (b ρ S)) (endsQ D) := h
  cases e : b ρ S with
  | ok d S1 => rw [e] at h; exact h
  | bad => rw [e] at h; exact h
  | exc c fs ρ' S' =>
    rw [e] at h
    unfold hTry at h
    intro φ' H' σ' dx vs ft rp' er' ex rf
    cases hx : exm c x with
    | none => simp only [hx] at h; exact (post_bad h).elim
    | some r =>
      refine ⟨r, hex c r hx, fun hr a ha => ?_, fun hr => ?_⟩
      · subst hr
        simp only [hx] at h
        by_cases hl : i < ρ'.length
        · rw [if_pos hl] at h
          refine ⟨c, fs, dx, rfl, rfl, hx, φ', S', ρ'.set i none, ⟨rp', er'.unset, ⟨vs, ex, rf⟩, List.getElem?_set_self (by rw [← er'.len]; exact hl)⟩, ?_⟩
          replace h := Post.fut ft h
          cases es : su c fs (ρ'.set i none) S' with
          | bad => rw [es] at h; exact (post_bad h).elim
          | exc _ _ _ _ => rw [es] at h; exact (post_bad h).elim
          | ok f S2 =>
            rw [es] at h
            intro φ2 H2 v f2 rp2 rd
            cases f with
            | nx ρ2 => cases v with
              | nx σ2 => exact h φ2 H2 (.nx (σ2.set i none)) f2 rp2 (EnvR.unset rd)
              | _ => exact rd.elim
            | ret d => cases v with
              | ret y => exact h φ2 H2 (.ret y) f2 rp2 rd
              | _ => exact rd.elim
            | brk ρ2 => cases v with
              | brk σ2 => exact h φ2 H2 (.brk (σ2.set i none)) f2 rp2 (EnvR.unset rd)
              | _ => exact rd.elim
            | cnt ρ2 => cases v with
              | cnt σ2 => exact h φ2 H2 (.cnt (σ2.set i none)) f2 rp2 (EnvR.unset rd)
              | _ => exact rd.elim
        · rw [if_neg hl] at h
          exact (post_bad h).elim
      · subst hr
        simp only [hx] at h
        exact h φ' H' σ' dx vs ft rp' er' ex rf
end
end DL
end
section
set_option Elab.async false
set_option linter.all false
set_option maxRecDepth 100000
set_option maxHeartbeats 4000000
/-! DL21u: the builder of except suites -/
namespace DL
open PySem PySem.Spec PyProof.Rows L2
def locB (sc : Scope) (x : Str) : Bool := decide (sc.names.lookup x = some .local) || decide (sc.names.lookup x = some .cell)
theorem locB_ok {sc : Scope} {x : Str} (h : locB sc x = true) : sc.names.lookup x = some .local ∨ sc.names.lookup x = some .cell := by
  unfold locB at h
  simpa only [Bool.or_eq_true, decide_eq_true_eq] using h
abbrev DenH := Str → List (Str × D) → Den D
/-- what is known of the suite's frame -/
structure Sui (G : Gs) (X : Cx) (nm : Str) (i a : Nat) (oe : Obj) (c : Str) (dd : Addr) : Prop where
  hz : Zc (.ref (G.cA c)) (some dd) oe
  hf : ∃ vs, oe.data = .fields vs
  at_ : X.N[i]? = some nm
  vis : Vis X.env.scope nm
  d1 : (nm == ("__debug__" : Str)) = false
  d2 : (nm == ("__classdict__" : Str)) = false
structure SH (T : Tab) (N : List Str) (sc : Scope) (nm : Str) (i : Nat) (e : Expr) where
  f : DenH
  ok : ∀ {cl : Str → Cl} {G : Gs} {W : WX} {X : Cx} {k : Nat}, CxOk T cl G W X N sc k → ∀ (a : Addr) (oe : Obj) (c : Str) (fs : List (Str × D)) (dd : Addr) (pn : List (Addr × Obj)), Sui G X nm i a oe c dd → PE (X.suite a ((a, oe) :: pn)) e (THe RelD G i a dd fs (f c fs))
structure SHs (T : Tab) (N : List Str) (sc : Scope) (nm : Str) (i : Nat) (es : List Expr) where
  f : Str → List (Str × D) → Den (List D)
  len : ∀ c fs, Len es.length (f c fs)
  ns : noStars es = true
  ok : ∀ {cl : Str → Cl} {G : Gs} {W : WX} {X : Cx} {k : Nat}, CxOk T cl G W X N sc k → ∀ (a : Addr) (oe : Obj) (c : Str) (fs : List (Str × D)) (dd : Addr) (pn : List (Addr × Obj)), Sui G X nm i a oe c dd → PA (X.suite a ((a, oe) :: pn)) es (THe RelDs G i a dd fs (f c fs))
structure SHt (T : Tab) (N : List Str) (sc : Scope) (nm : Str) (i : Nat) (st : Stmt) where
  f : Str → List (Str × D) → DenS
  ok : ∀ {cl : Str → Cl} {G : Gs} {W : WX} {X : Cx} {k : Nat}, CxOk T cl G W X N sc k → X.N[i]? = some nm → Vis X.env.scope nm → (nm == ("__debug__" : Str)) = false → (nm == ("__classdict__" : Str)) = false → (∀ x, X.fn x = true) →
    ∀ (a : Addr) (oe : Obj) (c : Str) (fs : List (Str × D)) (dd : Addr) (pn : List (Addr × Obj)), Zc (.ref (G.cA c)) (some dd) oe → (∃ vs, oe.data = .fields vs) → PSs (X.suite a ((a, oe) :: pn)) [st] (THs G i a dd fs (f c fs))
theorem pe_never {X : Cx} {e : Expr} {G : Gs} {i a : Nat} {dd : Addr} {fs : List (Str × D)} : PE X e (THe RelD G i a dd fs fun _ _ => .bad) := ⟨fun _ _ _ _ _ _ ⟨_, _, _, _, h⟩ => h.elim⟩
def hFldT (T : Tab) (fld : Str) : DenH := fun c fs => if T.xcs.lookup c = some fld then hFld fld fs else fun _ _ => .bad
def hIsiT (T : Tab) (d : Str) : DenH := fun c _ => match T.isi (.x c) (.x d) with
  | some b => hIsi b
  | none => fun _ _ => .bad
section
variable (T : Tab) (N : List Str) (sc : Scope) (nm : Str) (i : Nat)
def hC (d : D) : DenH := fun _ _ => fC d
def mkHc (k : Nat) (pos : Pos) : (c : Const) → Option (SH T N sc nm i (.Constant c k pos))
  | .none => some ⟨hC .non, fun _ _ _ _ _ _ _ _ => he_of (pe_non.imp (td_const fun _ _ _ => .non))⟩
  | .bool b => some ⟨hC (.bl b), fun _ _ _ _ _ _ _ _ => he_of (pe_bl.imp (td_const fun _ _ _ => .bl b))⟩
  | .int j => some ⟨hC (.int j), fun _ _ _ _ _ _ _ _ => he_of (pe_int.imp (td_const fun _ _ _ => .int j))⟩
  | .str s => some ⟨hC (.str s), fun _ _ _ _ _ _ _ _ => he_of (pe_str.imp (td_const fun _ _ _ => .str s))⟩
  | _ => none
mutual
noncomputable def mkH : (n : Nat) → (e : Expr) → Option (SH T N sc nm i e)
  | 0, _ => none
  | n + 1, e => match e with
    | .Constant c k pos => mkHc T N sc nm i k pos c
    | .Name x pos => if h : visB sc x = true ∧ (x == ("__debug__" : Str)) = false ∧ (x == ("__classdict__" : Str)) = false then
        match hi : ix N x with
        | some j => some ⟨fun _ _ => fVar j, fun {cl G W X k} c a oe cn fs dd pn _ => he_of (de_var (X := X.suite a ((a, oe) :: pn)) (i := j) (by
            show X.N[j]? = some x
            rw [c.eN]
            exact ix_ok hi) (c.vis (visB_ok h.1)) h.2.1 h.2.2)⟩
        | none => none
      else none
    | .Attribute (.Name x p) fld p2 => if hx : x = nm then some ⟨hFldT T fld, fun {cl G W X k} c a oe cn fs dd pn s => by
        subst hx
        unfold hFldT
        by_cases z : T.xcs.lookup cn = some fld
        · rw [if_pos z]
          exact he_fld (c.xf cn fld z) s.hz s.hf s.at_ s.vis s.d1 s.d2
        · rw [if_neg z]
          exact pe_never⟩ else none
    | .Call (.Name y p) [.Name x p1, .Name tn p2] [] pos => if h : x = nm ∧ y = "isinstance" ∧ T.cls.contains tn = true ∧ bltOk T sc "isinstance" = true ∧ sc.names.lookup tn = some .globalImplicit ∧ (tn == ("__debug__" : Str)) = false then
        some ⟨hIsiT T tn, fun {cl G W X k} c a oe cn fs dd pn s => by
          obtain ⟨rfl, rfl, h3, h4, h5, h6⟩ := h
          unfold hIsiT
          cases z : T.isi (.x cn) (.x tn) with
          | none => exact pe_never
          | some b =>
            obtain ⟨k1, k2⟩ := c.isi _ _ _ z
            obtain ⟨g1, g2, _, _⟩ := bltOk_ok h4
            exact he_isi (k2 cn rfl) s.hz s.hf s.at_ s.vis s.d1 s.d2 k1 (.own _) (pe_glob (X := X.suite a ((a, oe) :: pn)) (c.gl h5) (c.cls tn h3) rfl h6) (c.gl g1) (c.blt _ g2) rfl rfl⟩
      else none
    | .List es pos => match mkHl n es with
      | some q => if h : es.length ≤ 1000 then some ⟨fun c fs => fLst (q.f c fs), fun c a oe cn fs dd pn s => he_lst (q.ok c a oe cn fs dd pn s) (q.len cn fs) (sz_small h)⟩ else none
      | none => none
    | .Tuple es k pos => match mkHl n es with
      | some q => if h : es.length ≤ 1000 then some ⟨fun c fs => fTup (q.f c fs), fun c a oe cn fs dd pn s => he_tup (q.ok c a oe cn fs dd pn s) (q.len cn fs) (sz_small h)⟩ else none
      | none => none
    | _ => none
noncomputable def mkHl : (n : Nat) → (es : List Expr) → Option (SHs T N sc nm i es)
  | 0, _ => none
  | n + 1, es => match es with
    | [] => some ⟨fun _ _ => fNil, fun _ _ => Len.nil, rfl, fun _ _ _ _ _ _ _ _ => hea_nil⟩
    | e :: es => if h : isStar e = false then match mkH n e, mkHl n es with
        | some x, some r => some ⟨fun c fs => fCons (x.f c fs) (r.f c fs), fun c fs => (r.len c fs).cons, by unfold noStars; rw [h, r.ns]; rfl, fun c a oe cn fs dd pn s => hea_cons (x.ok c a oe cn fs dd pn s) (r.ok c a oe cn fs dd pn s) (star_eq h)⟩
        | _, _ => none
      else none
end
noncomputable def mkHs : (st : Stmt) → Option (SHt T N sc nm i st)
  | .Return (some e) pos => match mkH T N sc nm i 60 e with
    | some x => some ⟨fun c fs => sRet (x.f c fs), fun c h1 h2 h3 h4 _ a oe cn fs dd pn hz hf => hs_ret (x.ok c a oe cn fs dd pn ⟨hz, hf, h1, h2, h3, h4⟩)⟩
    | none => none
  | .Assign [.Name y py] e pos => match hj : ix N y, mkH T N sc nm i 60 e with
    | some j, some x => if h : locB sc y = true ∧ isComp e = false then some ⟨fun c fs => sAsg (x.f c fs) (tName j), fun {cl G W X k} c h1 h2 h3 h4 hfn a oe cn fs dd pn hz hf =>
        hs_set (X := X.suite a ((a, oe) :: pn)) (by show X.N.Nodup; rw [c.eN]; exact c.nd) (by show X.N[j]? = some y; rw [c.eN]; exact ix_ok hj) (by
          show X.env.scope.names.lookup y = some .local ∨ X.env.scope.names.lookup y = some .cell
          rw [c.eS]
          exact locB_ok h.1) (x.ok c a oe cn fs dd pn ⟨hz, hf, h1, h2, h3, h4⟩) (swaps_not h.2) (.inl (hfn y))⟩ else none
    | _, _ => none
  | _ => none
end
end DL
end
section
set_option Elab.async false
set_option linter.all false
set_option maxRecDepth 100000
set_option maxHeartbeats 4000000
/-! DL22: the builder: statements, bodies -/
namespace DL
open PySem PySem.Spec PyProof.Rows L2
structure SG (T : Tab) (cl : Str → Cl) (N : List Str) (sc : Scope) (tg : Expr) where
  f : DenG
  ok : ∀ {G : Gs} {W : WX} {X : Cx} {k : Nat}, CxOk T cl G W X N sc k → (∀ x, X.fn x = true) → PG X tg (TDG G W f)
structure SGs (T : Tab) (cl : Str → Cl) (N : List Str) (sc : Scope) (tgs : List Expr) where
  f : List D → Den Ev
  ns : noStars tgs = true
  ok : ∀ {G : Gs} {W : WX} {X : Cx} {k : Nat}, CxOk T cl G W X N sc k → (∀ x, X.fn x = true) → PGs X tgs (TDGs G W f)
structure SS (T : Tab) (cl : Str → Cl) (N : List Str) (sc : Scope) (st : Stmt) where
  f : DenS
  ok : ∀ {G : Gs} {W : WX} {X : Cx} {k : Nat}, CxOk T cl G W X N sc k → Fr0 X → PS X st (TDS G W f)
structure SSs (T : Tab) (cl : Str → Cl) (N : List Str) (sc : Scope) (sts : List Stmt) where
  f : DenS
  ok : ∀ {G : Gs} {W : WX} {X : Cx} {k : Nat}, CxOk T cl G W X N sc k → Fr0 X → PSs X sts (TDS G W f)
theorem asg_sub {o i : Expr} {pos : Pos} {env : Env} {v : Value} (h : isSlice i = false) : assign (.Subscript o i pos) env v = (do
      let ov ← holding [v] (eval o env)
      let iv ← holding [v, ov] (eval i env)
      standAt pos
      holding [v, ov, iv] (setItem ov iv v)
      release [v, ov, iv] []) := by
  cases i <;> first | rfl | cases h
mutual
noncomputable def mkG (T : Tab) (cl : Str → Cl) (N : List Str) (sc : Scope) : (n : Nat) → (tg : Expr) → Option (SG T cl N sc tg)
  | 0, _ => none
  | n + 1, tg => match tg with
    | .Name x pos => match hi : ix N x with
      | some i => if h : locB sc x = true then some ⟨tName i, fun {G W X k} c hf => dg_name (by rw [c.eN]; exact c.nd) (by rw [c.eN]; exact ix_ok hi) (by
          show X.env.scope.names.lookup x = some .local ∨ X.env.scope.names.lookup x = some .cell
          rw [c.eS]
          exact locB_ok h) (.inl (hf x))⟩ else none
      | none => none
    | .Tuple es k pos => match mkGs T cl N sc n es with
      | some u => some ⟨tTup es.length u.f, fun c hf => dg_tup c.K c.calm (u.ok c hf) asg_len (asg_star u.ns)⟩
      | none => none
    | .Subscript o i pos => match mkE T cl N 60 sc o, mkE T cl N 60 sc i with
      | some x, some y => if h : isSlice i = false then some ⟨tSub x.f y.f setIdx, fun c hf => dg_sub setIdx_nx rs_set (x.ok c) (y.ok c) fun _ => asg_sub h⟩ else none
      | _, _ => none
    | _ => none
noncomputable def mkGs (T : Tab) (cl : Str → Cl) (N : List Str) (sc : Scope) : (n : Nat) → (es : List Expr) → Option (SGs T cl N sc es)
  | 0, _ => none
  | n + 1, es => match es with
    | [] => some ⟨tNil, rfl, fun _ _ => dgs_nil⟩
    | e :: es => if h : isStar e = false then match mkG T cl N sc n e, mkGs T cl N sc n es with
        | some a, some u => some ⟨tCons a.f u.f, by unfold noStars; rw [h, u.ns]; rfl, fun c hf => dgs_cons (a.ok c hf) (u.ok c hf) (asg_map h)⟩
        | _, _ => none
      else none
end
theorem sole_not {t e : Expr} {l : Nat} {env : Env} (h : isComp e = false) : swapsWithSole [t] e l env = pure false := swaps_not h
theorem sole_tup {ts : List Expr} {kt : Nat} {pt : Pos} {e : Expr} {l : Nat} {env : Env} : swapsWithSole [.Tuple ts kt pt] e l env = pure false := by
  cases e <;> rfl
theorem sole_sub {o i : Expr} {pt : Pos} {e : Expr} {l : Nat} {env : Env} : swapsWithSole [.Subscript o i pt] e l env = pure false := by
  cases e <;> rfl
noncomputable def mkAsg (T : Tab) (cl : Str → Cl) (N : List Str) (sc : Scope) (tg e : Expr) (pos : Pos) : Option (SS T cl N sc (.Assign [tg] e pos)) :=
  match tg with
  | .Name x px => match hi : ix N x with
    | none => none
    | some i => if h : locB sc x = true then
        match e with
        | .ListComp elt [⟨ct, iter, ifs, 0⟩] scope lp => if hsw : swB sc x px lp scope = true then
            (match mkI T cl N 60 sc ct iter, mkGw T cl N (relS scope sc) scope ((ownN N scope).map (·.2)) 60 ct, mkTs T cl N 60 (relS scope sc) ifs, mkE T cl N 60 (relS scope sc) elt with
            | some it, some g, some t, some y =>
              if h2 : blkC N sc scope (ownN N scope) = true ∧ scope.kind = .function ∧ isSet iter = false ∧ sc.names.lookup x = some .local then
                some ⟨sAsg (fLc it.f g.f t.f y.f ((ownN N scope).map (·.2))) (tName i), fun {G W X k} c _ => ds_setLc c.calm (by rw [c.eN]; exact c.nd) (by rw [c.eN]; exact ix_ok hi) (by rw [c.eS]; exact h2.2.2.2)
                  (by rw [swB_ok c.eS c.kind, hsw]) (it.ok c) (by rw [c.eN, c.eS]; exact blkOk_by h2.1)
                  (fun s H C cs fp => g.ok (c.blk h2.2.1 s H C cs fp) fun y hy => by
                    show (scope.names.lookup y == some .cell) = true
                    rw [hy]
                    rfl) (fun s H C cs fp => t.ok (c.blk h2.2.1 s H C cs fp)) (fun s H C cs fp => y.ok (c.blk h2.2.1 s H C cs fp)) fun y => fold_not h2.2.2.1⟩
              else none
            | _, _, _, _ => none)
          else match mkE T cl N 60 sc (.ListComp elt [⟨ct, iter, ifs, 0⟩] scope lp) with
            | some y => some ⟨sAsg y.f (tName i), fun {G W X k} c z => ds_set (by rw [c.eN]; exact c.nd) (by rw [c.eN]; exact ix_ok hi) (by
                show X.env.scope.names.lookup x = some .local ∨ X.env.scope.names.lookup x = some .cell
                rw [c.eS]
                exact locB_ok h) (y.ok c) (by rw [swB_ok c.eS c.kind]; congr 1; simpa using hsw) (.inl (z.fn x))⟩
            | none => none
        | e => if hc : isComp e = false then match mkE T cl N 60 sc e with
            | some y => some ⟨sAsg y.f (tName i), fun {G W X k} c z => ds_set (by rw [c.eN]; exact c.nd) (by rw [c.eN]; exact ix_ok hi) (by
                show X.env.scope.names.lookup x = some .local ∨ X.env.scope.names.lookup x = some .cell
                rw [c.eS]
                exact locB_ok h) (y.ok c) (swaps_not hc) (.inl (z.fn x))⟩
            | none => none
          else none
      else none
  | .Tuple ts kt pt => match e with
    | .Tuple vs k2 p2 => match hw : swS sc ts vs with
      | none => none
      | some none => (match mkE T cl N 60 sc (.Tuple vs k2 p2), mkG T cl N sc 60 (.Tuple ts kt pt) with
        | some y, some g => some ⟨sAsg y.f g.f, fun c z => ds_asg (y.ok c) (g.ok c z.fn) sole_tup (swS_ok c.eS c.kind hw) rfl⟩
        | _, _ => none)
      | some (some names) => match ts, vs, hw with
        | [.Name x px, .Name y py], [a, b], hw => (match hi : ix N x, hj : ix N y, mkA T cl N 60 sc [a, b] with
          | some i, some j, some q => if h : names = [x, y] ∧ i ≠ j ∧ sc.names.lookup x = some .local ∧ sc.names.lookup y = some .local then
              some ⟨sPar2 i j q.f, fun {G W X k} c _ => ds_par2 c.calm (by rw [c.eN]; exact c.nd) (by rw [c.eN]; exact ix_ok hi) (by rw [c.eN]; exact ix_ok hj) h.2.1 (by rw [c.eS]; exact h.2.2.1) (by rw [c.eS]; exact h.2.2.2) (q.ok c)
                (by rw [swS_ok c.eS c.kind hw, h.1])⟩
            else none
          | _, _, _ => none)
        | [.Name x px, .Name y py, .Name z pz], [a, b, d], hw => (match hi : ix N x, hj : ix N y, hl : ix N z, mkA T cl N 60 sc [a, b, d] with
          | some i, some j, some l, some q => if h : names = [x, y, z] ∧ (i ≠ j ∧ i ≠ l ∧ j ≠ l) ∧ sc.names.lookup x = some .local ∧ sc.names.lookup y = some .local ∧ sc.names.lookup z = some .local then
              some ⟨sPar3 i j l q.f, fun {G W X k} c _ => ds_par3 c.calm (by rw [c.eN]; exact c.nd) (by rw [c.eN]; exact ix_ok hi) (by rw [c.eN]; exact ix_ok hj) (by rw [c.eN]; exact ix_ok hl) h.2.1.1 h.2.1.2.1 h.2.1.2.2 (by rw [c.eS]; exact h.2.2.1) (by rw [c.eS]; exact h.2.2.2.1) (by rw [c.eS]; exact h.2.2.2.2) (q.ok c)
                (by rw [swS_ok c.eS c.kind hw, h.1])⟩
            else none
          | _, _, _, _ => none)
        | _, _, _ => none
    | e => if hc : isTup e = false then match mkE T cl N 60 sc e, mkG T cl N sc 60 (.Tuple ts kt pt) with
        | some y, some g => some ⟨sAsg y.f g.f, fun c z => ds_asg (y.ok c) (g.ok c z.fn) sole_tup (swN_ok hc) rfl⟩
        | _, _ => none
      else none
  | .Subscript o i p => match mkE T cl N 60 sc e, mkG T cl N sc 60 (.Subscript o i p) with
    | some y, some g => some ⟨sAsg y.f g.f, fun c z => ds_asg (y.ok c) (g.ok c z.fn) sole_sub swI_ok rfl⟩
    | _, _ => none
  | _ => none
def isDoc : Expr → Bool
  | .Constant (.str _) _ _ => true
  | _ => false
mutual
noncomputable def mkS (T : Tab) (cl : Str → Cl) (N : List Str) (sc : Scope) : (n : Nat) → (st : Stmt) → Option (SS T cl N sc st)
  | 0, _ => none
  | n + 1, st => match st with
    | .Assign [tg] e pos => mkAsg T cl N sc tg e pos
    | .Expr (.Constant (.str x) j p) pos => some ⟨sNil, fun _ _ => ds_doc⟩
    | .Expr e pos => if h : isComp e = false then match mkE T cl N 60 sc e with
        | some x => some ⟨sExpr x.f, fun c _ => ds_expr (x.ok c) (swaps_not h)⟩
        | none => none
      else none
    | .Return (some e) pos => match mkE T cl N 60 sc e with
      | some x => some ⟨sRet x.f, fun c _ => ds_ret (x.ok c)⟩
      | none => none
    | .Return none pos => some ⟨sRetN, fun _ _ => ds_retN⟩
    | .Pass pos => some ⟨sNil, fun _ _ => ds_pass⟩
    | .Break pos => some ⟨sBrk, fun _ _ => ds_break⟩
    | .Continue pos => some ⟨sCnt, fun _ _ => ds_continue⟩
    | .If t a b pos => match mkT T cl N 60 sc t, mkSs T cl N sc n a, mkSs T cl N sc n b with
      | some w, some x, some y => some ⟨fIf w.f x.f y.f, fun c z => ds_if (w.ok c) (x.ok c z) (y.ok c z)⟩
      | _, _, _ => none
    | .For tg it body [] pos => match mkI T cl N 60 sc tg it, mkG T cl N sc 60 tg, mkSs T cl N sc n body with
      | some i, some g, some b => if h : isSet it = false then some ⟨sFor i.f g.f b.f, fun c z => ds_for z.ps c.calm (i.ok c) (g.ok c z.fn) (b.ok c z) fun _ => fold_not h⟩ else none
      | _, _, _ => none
    | .While t body [] pos => match mkT T cl N 60 sc t, mkSs T cl N sc n body with
      | some w, some b => some ⟨sWhile w.f b.f, fun c z => ds_while z.ps (w.ok c) (b.ok c z)⟩
      | _, _ => none
    | .Raise (some (.Call (.Name x p) [e] [] pos)) none pos2 => match hx : T.xcs.lookup x, mkE T cl N 60 sc e with
      | some fld, some y => if h : sc.names.lookup x = some .globalImplicit ∧ isStar e = false ∧ (x == ("__debug__" : Str)) = false then some ⟨sRaise x fld y.f, fun c _ => by
          obtain ⟨fI, fd, h1, h2, h3, h4⟩ := c.xcs x fld hx
          exact ds_raise c.K c.calm c.tk h1 h2 (c.room.mono (Nat.le_add_left 2 _)) h3 passes0 (c.gl h.1) h4 (y.ok c) h.2.2 (star_eq h.2.1)⟩ else none
      | _, _ => none
    | .Try body [.ExceptHandler (some (.Name x np)) (some nm) [st] pos2] [] [] pos => match hi : ix N nm, mkSs T cl N sc n body with
      | some i, some b => (match mkHs T N sc nm i st with
        | some q => if h : sc.names.lookup nm = some .local ∧ sc.names.lookup x = some .globalImplicit ∧ (x == ("__debug__" : Str)) = false ∧ T.cls.contains x = true ∧ (nm == ("__debug__" : Str)) = false ∧ (nm == ("__classdict__" : Str)) = false then
            some ⟨sTry T.exm b.f x i q.f, fun {G W X k} c z => ds_try z.stk z.frm (by rw [c.eN]; exact c.nd) (by rw [c.eN]; exact ix_ok hi) (by
              show X.env.scope.names.lookup nm = some .local
              rw [c.eS]
              exact h.1) (c.gl h.2.1) h.2.2.1 (c.cls x h.2.2.2.1) c.tk (fun cn r hr => c.xe cn x r hr) (fun W2 pn xe tk ps => b.ok (c.tr pn xe tk) (z.tr pn xe ps))
              (fun a oe cn fs dd pn hz hf _ => q.ok c (by rw [c.eN]; exact ix_ok hi) (c.vis (.inl h.1)) h.2.2.2.2.1 h.2.2.2.2.2 z.fn a oe cn fs dd pn hz hf)⟩
          else none
        | none => none)
      | _, _ => none
    | _ => none
noncomputable def mkSs (T : Tab) (cl : Str → Cl) (N : List Str) (sc : Scope) : (n : Nat) → (sts : List Stmt) → Option (SSs T cl N sc sts)
  | 0, _ => none
  | n + 1, sts => match sts with
    | [] => some ⟨sNil, fun _ _ => ds_nil⟩
    | st :: r => match mkS T cl N sc n st, mkSs T cl N sc n r with
      | some a, some b => some ⟨sSeq a.f b.f, fun c z => ds_cons (a.ok c z) (b.ok c z)⟩
      | _, _ => none
end
end DL
end
section
set_option Elab.async false
set_option linter.all false
set_option maxRecDepth 100000
set_option maxHeartbeats 4000000
/-! DL23: the head's facts, the law's call -/
namespace DL
open PySem PySem.Spec PyProof.Rows L2
/-! ### the head's hook: facts, defs, a check of one's own -/
def notList (g : Addr → Option Obj) (a : Addr) : Bool := a != sysModules && (match g a with
  | some o => !decide (o.cls = .type "list")
  | none => false)
def asX (g : Addr → Option Obj) (n : Nat) : List Addr := (cStatics :: He.asD g n).filter (notList g)
def sysDict (g : Addr → Option Obj) : Bool := match g sysModules with
  | some o => decide (o.cls = .type "dict")
  | none => false
def obsX (n : Nat) (fa : List He.Fa) (ex : PySem.W.Frag → Bool) (fn : List He.DefD) (g : Addr → Option Obj) : He.AlD :=
  (((He.obsD fa fn (He.frG g (asX g n))).1 && (ex (He.frG g (asX g n)) && sysDict g)), (He.obsD fa fn (He.frG g (asX g n))).2)
structure SaysX (fa : List He.Fa) (ex : PySem.W.Frag → Bool) (fn : List He.DefD) (K : PySem.W.Frag) (h : Heap) : Prop where
  kin : K.In h
  d : He.SaysD fa fn K
  ex : ex K = true
  nl : ∀ a o, K.lookup a = some o → a ≠ sysModules ∧ o.cls ≠ .type "list"
  sys : ∃ o, h.get? sysModules = some o ∧ o.cls = .type "dict"
theorem frG_mem {g : Addr → Option Obj} {a : Addr} {o : Obj} : ∀ as : List Addr, (He.frG g as).lookup a = some o → a ∈ as
  | [], e => nomatch (show (none : Option Obj) = some o from e)
  | b :: r, e => by
    unfold He.frG at e
    cases hb : g b with
    | none =>
      rw [List.filterMap_cons, hb] at e
      exact List.mem_cons_of_mem _ (frG_mem r e)
    | some ob =>
      rw [List.filterMap_cons, hb] at e
      have e2 : (match a == b with | true => some ob | false => (He.frG g r).lookup a) = some o := e
      cases q : (a == b) with
      | true => rw [beq_iff_eq.mp q]; exact List.mem_cons_self
      | false =>
        rw [q] at e2
        exact List.mem_cons_of_mem _ (frG_mem r e2)
def hookX (n : Nat) (fa : List He.Fa) (ex : PySem.W.Frag → Bool) (fn : List He.DefD) : PySem.W.Hook where
  α := He.AlD
  obs := fun s => obsX n fa ex fn s.heap.get?
  val := fun _ => He.valD fn
  says := fun _ h => ∃ K : PySem.W.Frag, SaysX fa ex fn K h
  of := fun _ s e => by
    have e1 : (((He.obsD fa fn (He.frG s.heap.get? (asX s.heap.get? n))).1 && (ex (He.frG s.heap.get? (asX s.heap.get? n)) && sysDict s.heap.get?)) = true) := congrArg (fun z : He.AlD => z.1) e
    have e2 : (He.obsD fa fn (He.frG s.heap.get? (asX s.heap.get? n))).2 = fn.map He.DefD.val := congrArg (fun z : He.AlD => z.2) e
    simp only [Bool.and_eq_true] at e1
    refine ⟨He.frG s.heap.get? (asX s.heap.get? n), He.frG_in, Prod.ext e1.1 e2, e1.2.1, fun a o h => ?_, ?_⟩
    · have hm := frG_mem _ h
      have ho := He.frG_at _ h
      have q := (List.mem_filter.mp hm).2
      unfold notList at q
      rw [ho] at q
      simp only [Bool.and_eq_true, Bool.not_eq_true', decide_eq_false_iff_not, bne_iff_ne, ne_eq] at q
      exact q
    · have q := e1.2.2
      unfold sysDict at q
      cases k : s.heap.get? sysModules with
      | none => rw [k] at q; cases q
      | some o => rw [k] at q; exact ⟨o, rfl, of_decide_eq_true q⟩
  keeps := fun _ _ _ ⟨K, c⟩ k => ⟨K, PySem.W.Frag.In.keeps c.kin k, c.d, c.ex, c.nl, let ⟨o, h1, h2⟩ := c.sys; ⟨o, k _ _ h1, h2⟩⟩
theorem obsX_eq {n : Nat} {fa : List He.Fa} {ex : PySem.W.Frag → Bool} {fn : List He.DefD} {g : Addr → Option Obj} {s : Shared} (h : ∀ a, g a = s.heap.get? a) : obsX n fa ex fn g = (hookX n fa ex fn).obs s := by
  have e : g = s.heap.get? := funext h
  rw [e] <;> rfl
theorem script_rel {K : PySem.W.Frag} {H : Hp} {φ : Nat → Addr} {m : Nat} : ∀ ns : List Int, RelDs K H φ m (ns.map D.int) (ns.map V.int)
  | [] => .nil
  | n :: ns => .cons (.int n) (script_rel ns)
/-! ### the law's call -/
theorem law_callX {P : Program} {w : World} {G : Gs} {mg mb : Str → Option Value} {k : Nat} {fa a : Addr} {fd : FuncData} {x : Str} {cl : Cl} {s₁ : Shared} {vs : List Value} {ns : List Int}
    (KX : G.K.In s₁.heap) (nl : ∀ a o, G.K.lookup a = some o → a ≠ sysModules ∧ o.cls ≠ .type "list") (hsys : ∃ o, s₁.heap.get? sysModules = some o ∧ o.cls = .type "dict") (hns : s₁.heap.Ns mainGlobals mg) (hb : s₁.heap.Ns builtinsNs mb) (hbb : ∀ x : Str, x ≠ "__name__" → mb x = bootBuiltins x) (hlim : s₁.heap.NoLimit) (hg : s₁.gens = #[])
    (ha : s₁.heap.get? a = some { cls := .type "list", data := .seq vs.toArray }) (hi : IntsAre vs ns) (hl : ns.length ≤ sizeLine) (hr : Room k callerA)
    (F : ∀ base : Heap, G.K.In base → base.Ns mainGlobals mg → FnG G P w mg base k fa fd [x] cl) (hbind : ∀ (s : Shared) (u : Value), BindsTo s fd ⟨[u], []⟩ [(x, u)])
    (hcl : ∃ S', cl [.ref 0] [.fro (ns.map D.int)] = .ok (.bl true) S') :
    codeAny (model P w) callerA (.call (.ref fa) ⟨[.ref a], []⟩) (fun r s' => r = .ok (.ret (.bool true)) ∧ OldK s₁.heap s'.heap ∧ s'.os = s₁.os ∧ AllBare s'.gens) s₁ := by
  obtain ⟨oS, hS1, hS2⟩ := hsys
  have rv := vals_ints hi
  have ne : a ≠ sysModules := fun z => by
    rw [z, hS1] at ha
    cases ha
    have z2 : Value.type "list" = Value.type "dict" := hS2
    exact absurd z2 (by decide)
  -- what is tracked: the script, the interpreter's dict
  let H : Hp := fun b => if b = a then some (.frz { cls := .type "list", data := .seq vs.toArray } (.lst (ns.map V.int))) else if b = sysModules then some (.frz oS (.ext fun h => h.get? sysModules = some oS)) else none
  have Ha : H a = some (.frz { cls := .type "list", data := .seq vs.toArray } (.lst (ns.map V.int))) := if_pos rfl
  have Hs : H sysModules = some (.frz oS (.ext fun h => h.get? sysModules = some oS)) := (if_neg (Ne.symm ne)).trans (if_pos rfl)
  have Hn : ∀ b, b ≠ a → b ≠ sysModules → H b = none := fun b h1 h2 => (if_neg h1).trans (if_neg h2)
  have Hc : ∀ b u, H b = some u → (b = a ∧ u = .frz { cls := .type "list", data := .seq vs.toArray } (.lst (ns.map V.int))) ∨ (b = sysModules ∧ u = .frz oS (.ext fun h => h.get? sysModules = some oS)) := fun b u e => by
    by_cases h1 : b = a
    · subst h1
      rw [Ha] at e
      cases e
      exact .inl ⟨rfl, rfl⟩
    · by_cases h2 : b = sysModules
      · subst h2
        rw [Hs] at e
        cases e
        exact .inr ⟨rfl, rfl⟩
      · rw [Hn b h1 h2] at e
        cases e
  have hok : HOk P w H s₁.heap := fun b u e => by
    rcases Hc b u e with ⟨rfl, rfl⟩ | ⟨rfl, rfl⟩
    · exact ⟨ha, by rw [List.length_map]; exact hl, vs, _, rv, ha⟩
    · exact ⟨hS1, hS1, ⟨oS, hS1⟩, fun h1 h2 z k => k _ z⟩
  have nsK : ∀ {b : Addr} {m : Str → Option Value}, b ≠ sysModules → s₁.heap.Ns b m → (hidT s₁.heap H).Ns b m := fun {b m} hb ⟨o, es, ep, e, d, r⟩ => ⟨o, es, ep, hidT_get e (Hn b (fun z => by
    subst z
    rw [ha] at e
    cases e
    have d' : Data.seq vs.toArray _ = Data.dict es ep := d
    cases d') hb), d, r⟩
  have hKb : G.K.In (hidT s₁.heap H) := fun b o e => by
    obtain ⟨n1, n2⟩ := nl b o e
    refine hidT_get (KX b o e) (Hn b (fun z => ?_) n1)
    subst z
    have q := KX b o e
    rw [ha] at q
    cases q
    exact n2 rfl
  have hM : Mod G.K mg (hidT s₁.heap H) := ⟨hKb, nsK (by decide) hns, ⟨mb, nsK (by decide) hb, hbb⟩, let ⟨mc, h1, h2⟩ := hlim; ⟨mc, nsK (by decide) h1, h2⟩⟩
  have e0 : Env0 P w G.K mg (hidT s₁.heap H) callerA [] s₁ H := ⟨rfl, hM, fun b o e => of_hidT e, Nat.le_of_eq (hidT_size _ _), trivial, fun b hb => absurd (show b ∈ ([] : List Addr) from hb) (by simp), hok, .of_eq hg⟩
  -- the script's number
  have rp : Rep G H (fun _ => a) [.fro (ns.map D.int)] := ⟨⟨oS, _, Hs⟩, fun l m h1 h2 _ => by
      have h1' : l < 1 := h1
      have h2' : m < 1 := h2
      omega, fun l o e => by
      cases l with
      | succ l => simp at e
      | zero =>
        simp at e
        subst e
        refine ⟨by rw [List.length_map]; exact hl, _, _, Ha, ?_⟩
        exact script_rel ns⟩
  have sp : spD G 1 cl [.ref a] H (fun v _ => v = .bl true) fun _ _ _ => False := by
    obtain ⟨S', hc⟩ := hcl
    refine ⟨rfl, fun _ => a, [.fro (ns.map D.int)], [.ref 0], rp, .cons (.ref (φ := fun _ => a) (l := 0) Nat.zero_lt_one) .nil, ?_⟩
    rw [hc]
    exact fun φ' H' v ft rp' rd => by
      cases rd
      rfl
  refine codeAny_mono ((F _ hKb (nsK (by decide) hns)).run callerA [] s₁ H ⟨[.ref a], []⟩ [.ref a] [.ref a] _ _ hr rfl e0 (hbind s₁ (.ref a)) (.cons rfl .nil) sp) fun r s' h => ?_
  match r, h with
  | .error u, h =>
    obtain ⟨_, _, _, _, _, _, _, _, _, _, _, _, z⟩ := h
    exact z.elim
  | .ok .next, h => exact False.elim h
  | .ok .brk, h => exact False.elim h
  | .ok .cont, h => exact False.elim h
  | .ok (.ret u), h =>
    obtain ⟨v, H', os, bare, un, hok', r', q⟩ := h
    have q' : v = .bl true := q
    subst q'
    obtain rfl : u = Value.bool true := r'
    refine ⟨rfl, OldK.of_keep fun b o e => ?_, os, bare⟩
    cases q : H b with
    | none => exact un.keep b o e q (by intro z; exact absurd (show b ∈ ([] : List Addr) from z) (by simp)) (by simp)
    | some u =>
      have key : ∀ ob f, H b = some (.frz ob f) → s'.heap.get? b = some o := fun ob f z => by
        have z2 := un.frzs b ob _ z
        obtain ⟨e1, _⟩ := hok b _ z
        obtain ⟨e2, _⟩ := hok' b _ z2
        rw [e] at e1
        cases e1
        exact e2
      rcases Hc b u q with ⟨_, z⟩ | ⟨_, z⟩ <;> (subst z; exact key _ _ q)
/-- the end, from what the head tells -/
theorem walk_x {l : PySem.W.OpenLaw} {n k : Nat} {q : Program} {loose : List Str} {XP : (Str → Option Value) → Heap → Prop} {d : DefRec} {x : Str} {fa : List He.Fa} {ex : PySem.W.Frag → Bool} {fn : List He.DefD} {cl : Cl}
    (hn : l.most = some n) (hn2 : n ≤ sizeLine) (hdf : d.params.defaults = []) (hr : Room k callerA)
    (F : ∀ (w : World) (mg : Str → Option Value) (f : Addr) (h : Heap) (K : PySem.W.Frag), SaysX fa ex fn K h → h.Ns mainGlobals mg → mg d.name = some (.ref f) →
      ∃ (G : Gs) (fd : FuncData), G.K = K ∧ (∀ (s : Shared) (u : Value), BindsTo s fd ⟨[u], []⟩ [(x, u)]) ∧ ∀ base : Heap, G.K.In base → base.Ns mainGlobals mg → FnG G l.prog w mg base k f fd [x] cl)
    (hcl : ∀ ns : List Int, ns.length ≤ n → (∀ z ∈ ns, Builtin.Int.intBits z ≤ 1048576) → ∃ S', cl [.ref 0] [.fro (ns.map D.int)] = .ok (.bl true) S') :
    PySem.W.WalkO q loose XP (fun _ h => ∃ K : PySem.W.Frag, SaysX fa ex fn K h) l.row.toRowW d [] (fun f vs => PySem.call f vs) := by
  refine Att.attach_callB hn hdf fun w s₀ s₁ mg mb f o pm cd doc a vs ns Gr Y ho hd hcd hmg hobj hints hlen hbits hg => ?_
  obtain ⟨K, c⟩ := Y
  obtain ⟨G, fd, hK, hb, hF⟩ := F w mg f _ K c Gr.T.g hmg
  exact law_callX (by rw [hK]; exact c.kin) (by rw [hK]; exact c.nl) c.sys Gr.T.g Gr.T.b Gr.T.builtins Gr.T.nolimit hg hobj hints (Nat.le_trans hlen hn2) hr hF hb (hcl ns hlen hbits)
end DL
end
section
set_option Elab.async false
set_option linter.all false
set_option maxRecDepth 100000
set_option maxHeartbeats 4000000
/-! DL24: a law's functions by name, their meanings by depth -/
namespace DL
open PySem PySem.Spec PyProof.Rows L2
/-- a function of the text, and its meaning -/
structure En where
  name : Str
  ps : List Str
  N : List Str
  params : Arguments
  body : List Stmt
  sc : Scope
  d : (Str → Cl) → DenS
  dfl : List D := []
def callN (es : List En) : Nat → Str → Cl
  | 0, _ => fun _ _ => .bad
  | k + 1, x => match es.find? (·.name == x) with
    | some e => fun ds S => strip (e.d (callN es k) (entry e.N.length ds) S)
    | none => fun _ _ => .bad
/-- a default, as the text has it -/
def dfV : D → V
  | .int i => .int i
  | .str s => .str s
  | .bl b => .bl b
  | _ => .non
def dfT : D → He.Dv
  | .int i => .int i
  | .str s => .str s
  | .bl b => .bl b
  | _ => .non
theorem dfT_v (K : PySem.W.Frag) (d : D) : (dfT d).v K = dfV d := by cases d <;> rfl
def basB : D → Bool
  | .int _ => true
  | .str _ => true
  | .bl _ => true
  | .non => true
  | _ => false
theorem dfs_rel {K : PySem.W.Frag} {H : Hp} {φ : Nat → Addr} {n : Nat} : ∀ {ds : List D}, ds.all basB = true → RelDs K H φ n ds (ds.map dfV)
  | [], _ => .nil
  | d :: ds, h => by
    rw [List.all_cons, Bool.and_eq_true] at h
    refine .cons ?_ (dfs_rel h.2)
    have h1 := h.1
    cases d with
    | non => exact .non
    | bl b => exact .bl b
    | int i => exact .int i
    | str s => exact .str s
    | tup _ => cases h1
    | ref _ => cases h1
structure EnOk (T : Tab) (e : En) : Prop where
  made : ∀ cl, (mkSs T cl e.N e.sc 60 e.body).map SSs.f = some (e.d cl)
  sc : FnScope e.N e.ps e.sc
  bind : e.dfl = [] → ∀ (kV doc pm : Value) (an : Option Addr) (cdv ct : Value) (us : List Value), us.length = e.ps.length → bindArgs (PySem.W.fnOf e.name e.name e.params e.body e.sc .none kV doc pm an cdv ct) ⟨us, []⟩ = pure (e.ps.zip us)
  bindD : e.dfl ≠ [] → e.dfl.all basB = true ∧ (∀ n ks, (e.name, n, ks) ∉ T.kws) ∧ e.dfl.length ≤ e.ps.length ∧ ∀ n j, (n = e.ps.length ∧ j = e.dfl.length) ∨ (n = e.ps.length - e.dfl.length ∧ j = 0) → ∀ (A : Addr) (kV doc pm : Value) (an : Option Addr) (cdv ct : Value) (us its : List Value), us.length = n → its.length = e.dfl.length →
    ∃ k, bindArgs (PySem.W.fnOf e.name e.name e.params e.body e.sc (.ref A) kV doc pm an cdv ct) ⟨us, []⟩ = seqItems? (.ref A) >>= k ∧ k (some its.toArray) = pure (e.ps.zip (us ++ its.drop j))
  kw : ∀ n ks, (e.name, n, ks) ∈ T.kws → ∀ (kV doc pm : Value) (an : Option Addr) (cdv ct : Value) (us ws : List Value), us.length = n → ws.length = ks.length →
    bindArgs (PySem.W.fnOf e.name e.name e.params e.body e.sc .none kV doc pm an cdv ct) ⟨us, ks.zip ws⟩ = pure (e.ps.zip (byName (e.ps.zip us ++ ks.zip ws) .none e.ps))
/-- what holds of the module -/
structure Mg (T : Tab) (es : List En) (G : Gs) (mg : Str → Option Value) : Prop where
  fn : ∀ e ∈ es, ∃ f fd, FunD G.K e.name e.name e.params e.body e.sc (e.dfl.map dfV) [] f fd ∧ mg e.name = some (.ref f)
  tab : ∀ x ps, T.fns.lookup x = some ps → ∃ e, es.find? (·.name == x) = some e ∧ e.ps = ps
  blt : ∀ x, T.gl.contains x = false → mg x = none
  gcd : T.gcd = true → mg "gcd" = some (.builtin "math.gcd")
  cs : ∀ x d, T.cs.lookup x = some d → ∃ u v, mg x = some u ∧ RelV v u ∧ ∀ H φ n, RelD G.K H φ n d v
  isi : ∀ t c b, T.isi t c = some b → PySem.W.kitOne G.K (t.val G) (c.val G) = some b ∧ ∀ n, t = .x n → ExcC G.K (G.cA n)
  xcs : ∀ c fld, T.xcs.lookup c = some fld → ∃ fI fd, XcOk G.K (G.cA c) fld fI fd ∧ (∀ (P : Program) (w : World) (base : Heap), FnOk P w G.K mg base (L2.CX P w) 1 fI fd ["self", "given"] (spInit (G.cA c) fld)) ∧ Binds G.K fd ["self", "given"] [] ∧ mg c = some (.ref (G.cA c))
  xf : ∀ c fld, T.xcs.lookup c = some fld → XfOk G.K (G.cA c) fld
  xe : ∀ c d r, T.exm c d = some r → PySem.W.exmOne G.K (.ref (G.cA c)) (.ref (G.cA d)) = some r
  cls : ∀ d, T.cls.contains d = true → mg d = some (.ref (G.cA d))
  dfs : ∀ x ds, T.dfs.lookup x = some ds → ∃ e, es.find? (·.name == x) = some e ∧ e.dfl = ds ∧ ds ≠ []
theorem funD_bd {K : PySem.W.Frag} {e : En} {T : Tab} {f : Addr} {fd : FuncData} (F : FunD K e.name e.name e.params e.body e.sc (e.dfl.map dfV) [] f fd) (o : EnOk T e) : Binds K fd e.ps [] ∧ (∀ n ks, (e.name, n, ks) ∈ T.kws → KwB K fd e.ps n ks) ∧ (e.dfl ≠ [] → ∃ dus, Vals (e.dfl.map dfV) dus ∧ Binds K fd e.ps dus) := by
  by_cases hd : e.dfl = []
  · rw [hd] at F
    refine ⟨F.bindsN (o.bind hd), fun n ks hk => ?_, fun z => absurd hd z⟩
    obtain ⟨oc, od, dV, kV, doc, pm, an, cdv, ct, osl, rfl, lk, hcd, hD, hK⟩ := F.ex
    rcases hD with ⟨_, rfl⟩ | ⟨z, _⟩
    · exact fun s us ws _ h1 h2 => .of_eq (o.kw n ks hk kV doc pm an cdv ct us ws h1 h2)
    · exact absurd rfl z
  · obtain ⟨_, nk, le, hb⟩ := o.bindD hd
    have ne : e.dfl.map dfV ≠ [] := fun z => hd (List.map_eq_nil_iff.mp z)
    have lm : (e.dfl.map dfV).length = e.dfl.length := List.length_map _
    refine ⟨?_, fun n ks hk => absurd hk (nk n ks), fun _ => ?_⟩
    · obtain ⟨ds, h1, h2⟩ := F.binds1 (ps := e.ps) e.ps.length e.dfl.length ne (by rw [lm]; omega) fun A kV doc pm an cdv ct us its q1 q2 => hb _ _ (.inl ⟨rfl, rfl⟩) A kV doc pm an cdv ct us its q1 (by rw [q2, lm])
      rw [List.drop_of_length_le (by rw [lm]; exact Nat.le_refl _)] at h1
      cases h1
      exact h2
    · exact F.binds1 (ps := e.ps) (e.ps.length - e.dfl.length) 0 ne (by rw [lm]; omega) fun A kV doc pm an cdv ct us its q1 q2 => hb _ _ (.inr ⟨rfl, rfl⟩) A kV doc pm an cdv ct us its q1 (by rw [q2, lm])
section
variable {T : Tab} {es : List En} {G : Gs} {mg : Str → Option Value} {P : Program} {w : World} {base : Heap}
theorem fns_ok (M : Mg T es G mg) (ok : ∀ e ∈ es, EnOk T e) : ∀ (k : Nat) (e : En), es.find? (·.name == e.name) = some e → ∀ (f : Addr) (fd : FuncData), FunD G.K e.name e.name e.params e.body e.sc (e.dfl.map dfV) [] f fd → FnG G P w mg base (k + 2) f fd e.ps (callN es k e.name)
  | 0, e, he, f, fd, F => ⟨fun A outer s H args us vs Q E hr hgd e0 bt r ⟨_, φ, S, ds, _, _, h⟩ => (post_bad (T := RelD) h).elim⟩
  | k + 1, e, he, f, fd, F => by
    have hm : e ∈ es := List.mem_of_find?_eq_some he
    have o := ok e hm
    have ih := fns_ok M ok k
    obtain ⟨q, hq, hf⟩ := Option.map_eq_some_iff.mp (o.made (callN es k))
    refine fn_ok (N := e.N) (fb := e.d (callN es k)) F o.sc (fun ds S => ?_) fun X W h1 h2 h3 h4 h5 h6 h7 h8 h9 h10 h11 h12 h13 h14 h15 => ?_
    · show (match es.find? (fun z : En => z.name == e.name) with
        | some e => fun ds S => strip (e.d (callN es k) (entry e.N.length ds) S)
        | none => fun _ _ => R.bad) ds S = _
      rw [he]
    · rw [← hf]
      subst h1 h2 h4 h5
      refine q.ok ⟨h3, h6, o.sc.nd, h7, o.sc.kind, h8, h10, h11, h12, fun x ps hx => ?_, M.blt, M.gcd, M.cs, fun t c b hb => by rw [h3]; exact M.isi t c b hb, fun c fld hc => by
        obtain ⟨fI, fd', x1, x2, x3, x4⟩ := M.xcs c fld hc
        rw [h3]
        exact ⟨fI, fd', x1, x2 _ _ _, x3, x4⟩, fun c fld hc => by rw [h3]; exact M.xf c fld hc, fun c d r hr => by rw [h3]; exact M.xe c d r hr, M.cls, fun x ps ds hx hds => ?_⟩ ⟨h9, h13, h14, h15⟩
      · obtain ⟨e', he', rfl⟩ := M.tab x ps hx
        have hm' : e' ∈ es := List.mem_of_find?_eq_some he'
        have hn : e'.name = x := by
          have := List.find?_some he'
          exact beq_iff_eq.mp this
        subst hn
        obtain ⟨f', fd', F', hg'⟩ := M.fn e' hm'
        have b := funD_bd F' (ok e' hm')
        rw [h3]
        exact ⟨f', fd', ih e' he' f' fd' F', hg', F'.kp, b.1, b.2.1⟩
      · obtain ⟨e', he', rfl⟩ := M.tab x ps hx
        obtain ⟨e2, he2, rfl, hne⟩ := M.dfs x ds hds
        rw [he'] at he2
        cases he2
        have hm' : e' ∈ es := List.mem_of_find?_eq_some he'
        have hn : e'.name = x := by
          have := List.find?_some he'
          exact beq_iff_eq.mp this
        subst hn
        obtain ⟨f', fd', F', hg'⟩ := M.fn e' hm'
        obtain ⟨dus, v1, v2⟩ := (funD_bd F' (ok e' hm')).2.2 hne
        have fl := ((ok e' hm').bindD hne).1
        rw [h3]
        exact ⟨f', fd', _, dus, ih e' he' f' fd' F', hg', F'.kp, v2, v1, fun H φ n => dfs_rel fl⟩
end
/-- a function's datum for the head -/
def En.dd (e : En) : He.DefD := ⟨(e.name, none), e.name, e.name, e.params, e.body, e.sc, e.dfl.map dfT, []⟩
theorem En.dd_v (e : En) (K : PySem.W.Frag) : e.dd.dvs K = e.dfl.map dfV := by
  show (e.dfl.map dfT).map (He.Dv.v K) = _
  rw [List.map_map]
  exact List.map_congr_left fun d _ => dfT_v K d
/-! ### the text's functions by place -/
def stAt (p : Program) (n : Nat) : Stmt := (p.main.body[n]?).getD (.Pass ⟨0, 0, 0, 0⟩)
def bodyAt (p : Program) (n : Nat) : List Stmt := match stAt p n with
  | .FunctionDef _ _ b _ _ _ _ _ _ _ => b
  | _ => []
def scAt (p : Program) (n : Nat) : Scope := match stAt p n with
  | .FunctionDef _ _ _ _ _ _ s _ _ _ => s
  | _ => ⟨.module, [], false, false, []⟩
def argsAt (p : Program) (n : Nat) : Arguments := match stAt p n with
  | .FunctionDef _ a _ _ _ _ _ _ _ _ => a
  | _ => ⟨[], [], none, [], [], none, []⟩
theorem kw_none {l : List (Str × Nat × List Str)} {x : Str} {n : Nat} {ks : List Str} (h : (l.all fun q => !(q.1 == x)) = true) : (x, n, ks) ∉ l := fun hm => by
  have := List.all_eq_true.mp h _ hm
  simp at this
theorem kw_of {l0 : List (Str × Nat × List Str)} {l : List (Nat × List Str)} {x : Str} {n : Nat} {ks : List Str} (h : (l0.all fun q => !(q.1 == x) || l.contains q.2) = true) (hm : (x, n, ks) ∈ l0) : (n, ks) ∈ l := by
  have := List.all_eq_true.mp h _ hm
  simpa using this
/-! ### checks -/
def fnScB (N P : List Str) (sc : Scope) : Bool := (match sc.kind with | .function => true | _ => false) && (!sc.isCoroutine && (!sc.isGenerator && (decide N.Nodup && (decide (N.take P.length = P) && ((P.all fun x => decide (sc.names.lookup x = some .local) || decide (sc.names.lookup x = some .cell)) && sc.names.all fun y => !decide (y.2 = .free))))))
theorem fnSc_of {N P : List Str} {sc : Scope} (h : fnScB N P sc = true) : FnScope N P sc := by
  unfold fnScB at h
  simp only [Bool.and_eq_true, Bool.not_eq_true', decide_eq_true_eq, List.all_eq_true, Bool.or_eq_true, decide_eq_false_iff_not] at h
  obtain ⟨h1, h2, h3, h4, h5, h6, h7⟩ := h
  refine ⟨?_, h2, h3, h4, h5, h6, h7⟩
  split at h1
  · assumption
  · cases h1
end DL
end
section
set_option Elab.async false
set_option linter.all false
set_option maxRecDepth 100000
set_option maxHeartbeats 4000000
/-! DL25: what the head must tell, checked -/
namespace DL
open PySem PySem.Spec PyProof.Rows L2
/-- the module's names are among these -/
def keysB (K : PySem.W.Frag) (gl : List Str) : Bool := match K.lookup mainGlobals with
  | some ⟨_, _, .dict es _, _⟩ => es.toList.all fun e => !e.refKey && (match e.key with
    | .str x _ => gl.contains x
    | _ => false)
  | _ => false
theorem keysB_ok {K : PySem.W.Frag} {gl : List Str} (h : keysB K gl = true) {x : Str} (hx : gl.contains x = false) : PySem.W.nsIn K mainGlobals x = some none := by
  unfold keysB at h
  unfold PySem.W.nsIn
  split at h
  · rename_i es _ _ e
    rw [e]
    simp only
    have hf : es.toList.find? (·.key.isStr x) = none := by
      rw [List.find?_eq_none]
      intro en hen hs
      have q := List.all_eq_true.mp h en hen
      rw [Bool.and_eq_true] at q
      obtain ⟨_, q2⟩ := q
      split at q2
      · rename_i y t hk
        rw [hk] at hs
        have e2 : y = x := by simpa [Value.isStr] using hs
        rw [e2, hx] at q2
        cases q2
      · cases q2
    have hr : es.toList.any (·.refKey) = false := by
      rw [List.any_eq_false]
      intro en hen
      have q := List.all_eq_true.mp h en hen
      rw [Bool.and_eq_true, Bool.not_eq_true'] at q
      rw [q.1]
      exact Bool.false_ne_true
    rw [hf, hr]
    rfl
  · cases h
def allV (f : Value → D → Bool) : List Value → List D → Bool
  | [], [] => true
  | u :: us, d :: ds => f u d && allV f us ds
  | _, _ => false
/-- a value of the module: a number, a text, a tuple of such -/
def constV (K : PySem.W.Frag) : Nat → Value → D → Bool
  | 0, _, _ => false
  | n + 1, u, d => match u, d with
    | .int j _, .int i => decide (j = i)
    | .str y _, .str z => decide (y = z)
    | .bool y, .bl z => decide (y = z)
    | .none, .non => true
    | .ref a, .tup ds => (match K.lookup a with
      | some ⟨.type t, _, .seq its _, _⟩ => decide (t = "tuple") && (decide (its.size ≤ 1000) && allV (constV K n) its.toList ds)
      | _ => false)
    | _, _ => false
theorem allV_ok {K : PySem.W.Frag} {f : Value → D → Bool} (hf : ∀ u d, f u d = true → ∃ v, RelV v u ∧ ∀ H φ n, RelD K H φ n d v) : ∀ {us : List Value} {ds : List D}, allV f us ds = true → us.length = ds.length ∧ ∃ vs, Vals vs us ∧ ∀ H φ n, RelDs K H φ n ds vs
  | [], [], _ => ⟨rfl, [], .nil, fun _ _ _ => .nil⟩
  | u :: us, d :: ds, h => by
    unfold allV at h
    rw [Bool.and_eq_true] at h
    obtain ⟨v, r1, r2⟩ := hf u d h.1
    obtain ⟨hl, vs, r3, r4⟩ := allV_ok hf h.2
    exact ⟨congrArg (· + 1) hl, v :: vs, .cons r1 r3, fun H φ n => .cons (r2 H φ n) (r4 H φ n)⟩
  | [], _ :: _, h => by cases h
  | _ :: _, [], h => by cases h
theorem constV_ok {K : PySem.W.Frag} : ∀ (n : Nat) (u : Value) (d : D), constV K n u d = true → ∃ v, RelV v u ∧ ∀ H φ m, RelD K H φ m d v
  | 0, _, _, h => by cases h
  | n + 1, u, d, h => by
    unfold constV at h
    split at h
    · rename_i j t i
      have e2 : j = i := of_decide_eq_true h
      subst e2
      exact ⟨.int j, ⟨t, rfl⟩, fun _ _ _ => .int j⟩
    · rename_i y t z
      have e2 : y = z := of_decide_eq_true h
      subst e2
      exact ⟨.str y, ⟨t, rfl⟩, fun _ _ _ => .str y⟩
    · rename_i y z
      have e2 : y = z := of_decide_eq_true h
      subst e2
      exact ⟨.bl y, rfl, fun _ _ _ => .bl y⟩
    · exact ⟨.non, rfl, fun _ _ _ => .non⟩
    · rename_i a ds
      split at h
      · rename_i t dd its m sl e
        simp only [Bool.and_eq_true, decide_eq_true_eq] at h
        obtain ⟨rfl, h2, h3⟩ := h
        obtain ⟨hl, vs, r1, r2⟩ := allV_ok (constV_ok n) h3
        have sz : its.size ≤ sizeLine := by rw [sizeLine_eq]; omega
        refine ⟨.ref a, rfl, fun H φ k => .tup (by rw [← hl]; exact sz) (.inr ⟨_, its, m, e, rfl, rfl, sz, r1⟩) (r2 H φ k)⟩
      · cases h
    · cases h
def constB (K : PySem.W.Frag) (x : Str) (d : D) : Bool := match PySem.W.nsIn K mainGlobals x with
  | some (some u) => constV K 10 u d
  | _ => false
theorem constB_ok {K : PySem.W.Frag} {x : Str} {d : D} (h : constB K x d = true) : ∃ u v, PySem.W.nsIn K mainGlobals x = some (some u) ∧ RelV v u ∧ ∀ H φ n, RelD K H φ n d v := by
  unfold constB at h
  split at h
  · rename_i u e
    obtain ⟨v, h1, h2⟩ := constV_ok 10 u d h
    exact ⟨u, v, e, h1, h2⟩
  · cases h
/-! ### classes -/
def oexB (K : PySem.W.Frag) (C : Addr) : Bool := (match K.lookup C with
  | some ⟨.type t, _, .cls cd, sl⟩ => decide (t = "type") && (cd.hasDict && (!cd.hasDel && ((match cd.mro with
      | .ref C' :: bm => decide (C' = C) && PySem.HandSPX.refsVE bm
      | _ => false) && (match sl with
      | ⟨[_, _, _, _, some (.builtin n), _]⟩ => decide (n = "ValueError.__new__")
      | _ => false))))
  | _ => false) && (decide (PySem.W.findIn K (.ref C) "__setattr__" = some (some (.builtin "object.__setattr__"))) && (decide (PySem.W.subIn K (.ref C) (.type "BaseException") = some true) && (decide (PySem.W.typeIn K (.ref C) = some (.type "type")) && PySem.W.keepIn K (.ref C))))
theorem oexB_ok {K : PySem.W.Frag} {C : Addr} (h : oexB K C = true) : OexC K C := by
  unfold oexB at h
  simp only [Bool.and_eq_true, decide_eq_true_eq] at h
  obtain ⟨h1, h2, h3, h4, h5⟩ := h
  refine ⟨?_, h2, h3, h4, h5⟩
  split at h1
  · rename_i t dd cd sl e
    simp only [Bool.and_eq_true, decide_eq_true_eq, Bool.not_eq_true'] at h1
    obtain ⟨rfl, a1, a2, a3, a4⟩ := h1
    split at a3
    · rename_i C' bm em
      simp only [Bool.and_eq_true, decide_eq_true_eq] at a3
      obtain ⟨rfl, b2⟩ := a3
      split at a4
      · rename_i k0 k1 k2 k3 n k5
        have en : n = "ValueError.__new__" := of_decide_eq_true a4
        subst en
        obtain ⟨nm, bs, mro, N, q, hdct, sn, sub, ab, col, hdel⟩ := cd
        simp only at a1 a2 em
        subst a1 a2 em
        exact ⟨nm, q, N, bs, bm, sn, sub, ab, col, dd, k0, k1, k2, k3, k5, e, b2⟩
      · cases a4
    · cases a3
  · cases h1
def excB (K : PySem.W.Frag) (C : Addr) : Bool := decide (PySem.W.findIn K (.ref C) "__getattribute__" = some (some (.builtin "BaseException.__getattribute__"))) && (decide (PySem.W.findIn K (.ref C) "__getattr__" = some none) && (decide (PySem.W.subIn K (.ref C) (.type "BaseException") = some true) && (PySem.W.hasDictIn K C &&
  (decide (PySem.W.findIn K (.ref C) "__class__" = some (some (.builtin "object.__class__"))) && (decide (PySem.W.specialIn K (.builtin "object.__class__") "__get__" = some (some (.builtin "getset_descriptor.__get__"))) && (decide (PySem.W.takesIn K (.builtin "object.__class__") = some true) && decide (PySem.W.mroIn K C (.type "object") = some true)))))))
theorem excB_ok {K : PySem.W.Frag} {C : Addr} (h : excB K C = true) : ExcC K C := by
  unfold excB at h
  simp only [Bool.and_eq_true, decide_eq_true_eq] at h
  obtain ⟨h1, h2, h3, h4, h5, h6, h7, h8⟩ := h
  exact ⟨h1, h2, h3, h4, h5, h6, h7, h8⟩
/-- an exception class of the text: its name, its field, the class whose __init__ it calls, the place of its text -/
structure Xc where
  c : Str
  fld : Str
  b : Str
  i : Nat
def initAt (p : Program) (n : Nat) : Stmt := match stAt p n with
  | .ClassDef _ _ _ (st :: _) _ _ _ _ _ _ _ => st
  | _ => .Pass ⟨0, 0, 0, 0⟩
def stArgs : Stmt → Arguments
  | .FunctionDef _ a _ _ _ _ _ _ _ _ => a
  | _ => ⟨[], [], none, [], [], none, []⟩
def stBody : Stmt → List Stmt
  | .FunctionDef _ _ b _ _ _ _ _ _ _ => b
  | _ => []
def stScope : Stmt → Scope
  | .FunctionDef _ _ _ _ _ _ s _ _ _ => s
  | _ => ⟨.module, [], false, false, []⟩
def Xc.dd (p : Program) (x : Xc) : He.DefD := ⟨(x.c, some "__init__"), "__init__", x.c ++ ".__init__", stArgs (initAt p x.i), stBody (initAt p x.i), stScope (initAt p x.i), [], []⟩
def xcB (K : PySem.W.Frag) (x : Xc) : Bool := oexB K (He.ga K x.c) && (excB K (He.ga K x.c) && (decide (PySem.W.nsIn K mainGlobals x.c = some (some (.ref (He.ga K x.c)))) && (decide (PySem.W.nsIn K mainGlobals x.b = some (some (.ref (He.ga K x.b)))) &&
  (decide (PySem.W.findIn K (.ref (He.ga K x.c)) "__init__" = some (some (.ref (He.ma K (He.ga K x.c) "__init__")))) && (decide (PySem.W.typeIn K (.ref (He.ma K (He.ga K x.c) "__init__")) = some (.type "function")) && (decide (PySem.W.findIn K (.ref (He.ga K x.c)) x.fld = some none) &&
  (PySem.W.readsIn K (He.ga K x.b) (.type "type") && (decide (PySem.W.specialIn K (.ref (He.ga K x.b)) "__getattribute__" = some (some (.builtin "type.__getattribute__"))) && (match PySem.W.findCls K (.ref (He.ga K x.b)) (.type "type") "__init__" with
    | some (.val (.builtin n)) => decide (n = "ValueError.__init__")
    | _ => false)))))))))
def tyB : List String := ["bool", "int", "str", "tuple", "list", "dict"]
def kitsB (K : PySem.W.Frag) (xs : List Xc) : Bool := xs.all fun x => tyB.all fun b => decide (PySem.W.kitOne K (.ref (He.ga K x.c)) (.type b) = some false)
/-- our classes, asked by one another -/
def kits2B (K : PySem.W.Frag) (xs : List Xc) : Bool := xs.all fun x => (xs.all fun y => decide (PySem.W.kitOne K (.ref (He.ga K x.c)) (.ref (He.ga K y.c)) = some (x.c == y.c)) && decide (PySem.W.exmOne K (.ref (He.ga K x.c)) (.ref (He.ga K y.c)) = some (x.c == y.c))) &&
  (decide (PySem.W.kitOne K (.ref (He.ga K x.c)) (.ref (He.ga K x.b)) = some true) && (decide (PySem.W.exmOne K (.ref (He.ga K x.c)) (.ref (He.ga K x.b)) = some true) && (tyNames.all fun b => decide (PySem.W.kitOne K (.type b) (.ref (He.ga K x.c)) = some false) && decide (PySem.W.kitOne K (.type b) (.ref (He.ga K x.b)) = some false))))
def exB (T : Tab) (xs : List Xc) (K : PySem.W.Frag) : Bool := keysB K T.gl && (T.cs.all (fun p => constB K p.1 p.2) && ((!T.gcd || decide (PySem.W.nsIn K mainGlobals "gcd" = some (some (.builtin "math.gcd")))) && (xs.all (xcB K) && (kitsB K xs && kits2B K xs))))
/-- isinstance of exceptions: of built-in types they are none -/
def isX (xs : List Xc) (t k : Ty) : Option Bool := match t, k with
  | .x c, .b b => if (xs.any fun x => x.c == c) && tyB.contains b then some false else none
  | .x c, .x d => if xs.any fun x => x.c == c then (if xs.any fun x => x.c == d then some (c == d) else if xs.any fun x => x.c == c && x.b == d then some true else none) else none
  | .b a, .x d => if tyNames.contains a && xs.any fun x => x.c == d || x.b == d then some false else none
  | _, _ => none
/-- which clause takes which error -/
def exX (xs : List Xc) (c d : Str) : Option Bool := if xs.any fun x => x.c == c then (if xs.any fun x => x.c == d then some (c == d) else if xs.any fun x => x.c == c && x.b == d then some true else none) else none
def clX (xs : List Xc) : List Str := xs.map Xc.c ++ xs.map Xc.b
theorem any_eq {xs : List Xc} {f : Xc → Bool} (h : (xs.any f) = true) : ∃ x ∈ xs, f x = true := List.any_eq_true.mp h
theorem kit2_ok {K : PySem.W.Frag} {xs : List Xc} (h : kits2B K xs = true) : (∀ c d r, exX xs c d = some r → PySem.W.exmOne K (.ref (He.ga K c)) (.ref (He.ga K d)) = some r ∧ PySem.W.kitOne K (.ref (He.ga K c)) (.ref (He.ga K d)) = some r) ∧
    ∀ a d, (tyNames.contains a && xs.any fun x => x.c == d || x.b == d) = true → PySem.W.kitOne K (.type a) (.ref (He.ga K d)) = some false := by
  unfold kits2B at h
  rw [List.all_eq_true] at h
  refine ⟨fun c d r hr => ?_, fun a d hd => ?_⟩
  · unfold exX at hr
    split at hr
    · rename_i k1
      obtain ⟨x, hx, q1⟩ := any_eq k1
      have e1 : x.c = c := beq_iff_eq.mp q1
      split at hr
      · rename_i k2
        obtain ⟨y, hy, q2⟩ := any_eq k2
        have e2 : y.c = d := beq_iff_eq.mp q2
        cases hr
        have hh := h x hx
        rw [Bool.and_eq_true, List.all_eq_true] at hh
        have h2 := hh.1 y hy
        rw [Bool.and_eq_true, decide_eq_true_eq, decide_eq_true_eq, e1, e2] at h2
        exact ⟨h2.2, h2.1⟩
      · split at hr
        · rename_i k2
          obtain ⟨y, hy, q2⟩ := any_eq k2
          rw [Bool.and_eq_true] at q2
          have e2 : y.c = c := beq_iff_eq.mp q2.1
          have e3 : y.b = d := beq_iff_eq.mp q2.2
          cases hr
          have hh := h y hy
          simp only [Bool.and_eq_true, decide_eq_true_eq] at hh
          rw [e2, e3] at hh
          exact ⟨hh.2.2.1, hh.2.1⟩
        · cases hr
    · cases hr
  · rw [Bool.and_eq_true] at hd
    obtain ⟨x, hx, q⟩ := any_eq hd.2
    have hh := h x hx
    simp only [Bool.and_eq_true] at hh
    have h2 := List.all_eq_true.mp hh.2.2.2 a (List.contains_iff_mem.mp hd.1)
    rw [Bool.and_eq_true, decide_eq_true_eq, decide_eq_true_eq] at h2
    rw [Bool.or_eq_true] at q
    rcases q with q | q
    · rw [← beq_iff_eq.mp q]
      exact h2.1
    · rw [← beq_iff_eq.mp q]
      exact h2.2
end DL
end
section
set_option Elab.async false
set_option linter.all false
set_option maxRecDepth 100000
set_option maxHeartbeats 4000000
/-! DL26: from the head to the law's meaning -/
namespace DL
open PySem PySem.Spec PyProof.Rows L2
/-- the text of an exception class's __init__ -/
def xtB (p : Program) (x : Xc) : Bool := (match stBody (initAt p x.i) with
  | [.Expr (.Call (.Attribute (.Name bx _) m p2) [.Name s _, .Constant (.str _) _ _] [] p5) _, .Assign [.Attribute (.Name s2 _) fld _] (.Name g _) _] =>
    decide (bx = x.b) && (decide (m = "__init__") && (decide (s = "self") && (decide (s2 = "self") && (decide (g = "given") && (decide (fld = x.fld) && ((p2.endLine == p5.line) && !(bx == ("__debug__" : Str))))))))
  | _ => false) && (fnScB ["self", "given"] ["self", "given"] (stScope (initAt p x.i)) && (decide ((stScope (initAt p x.i)).names.lookup x.b = some .globalImplicit) && (decide ((stScope (initAt p x.i)).names.lookup ("self" : Str) = some .local) && decide ((stScope (initAt p x.i)).names.lookup ("given" : Str) = some .local))))
structure XcText (p : Program) (x : Xc) : Prop where
  t : xtB p x = true
  bind : ∀ (kV doc pm : Value) (an : Option Addr) (cdv ct : Value) (us : List Value), us.length = 2 → bindArgs (PySem.W.fnOf "__init__" (x.c ++ ".__init__") (stArgs (initAt p x.i)) (stBody (initAt p x.i)) (stScope (initAt p x.i)) .none kV doc pm an cdv ct) ⟨us, []⟩ = pure ((["self", "given"] : List Str).zip us)
def gOf (K : PySem.W.Frag) : Gs := ⟨K, He.ga K⟩
theorem xc_ok {p : Program} {x : Xc} {K : PySem.W.Frag} {h : Heap} {mg : Str → Option Value} (t : XcText p x) (b : xcB K x = true) {fd : FuncData} (F : FunD K "__init__" (x.c ++ ".__init__") (stArgs (initAt p x.i)) (stBody (initAt p x.i)) (stScope (initAt p x.i)) [] [] (He.fAd K (x.c, some "__init__")) fd) (X : K.In h) (Gm : h.Ns mainGlobals mg) :
    XcOk K (He.ga K x.c) x.fld (He.fAd K (x.c, some "__init__")) fd ∧ (∀ (P : Program) (w : World) (base : Heap), FnOk P w K mg base (L2.CX P w) 1 (He.fAd K (x.c, some "__init__")) fd ["self", "given"] (spInit (He.ga K x.c) x.fld)) ∧ Binds K fd ["self", "given"] [] ∧ mg x.c = some (.ref (He.ga K x.c)) ∧ ExcC K (He.ga K x.c) := by
  unfold xcB at b
  simp only [Bool.and_eq_true, decide_eq_true_eq] at b
  obtain ⟨b1, b2, b3, b4, b5, b6, b7, b8, b9, b10⟩ := b
  have ox := oexB_ok b1
  have tt := t.t
  unfold xtB at tt
  simp only [Bool.and_eq_true, decide_eq_true_eq] at tt
  obtain ⟨t1, t2, t3, t4, t5⟩ := tt
  have mb : mg x.b = some (.ref (He.ga K x.b)) := PySem.W.mg_of X Gm b4
  have fc : PySem.W.findCls K (.ref (He.ga K x.b)) (.type "type") "__init__" = some (.val (.builtin "ValueError.__init__")) := by
    split at b10
    · rename_i n e
      rw [e, of_decide_eq_true b10]
    · cases b10
  refine ⟨⟨ox, b5, b6, b7⟩, fun P w base => ?_, F.bindsN t.bind, PySem.W.mg_of X Gm b3, excB_ok b2⟩
  have key : ∀ body, body = stBody (initAt p x.i) → FunD K "__init__" (x.c ++ ".__init__") (stArgs (initAt p x.i)) body (stScope (initAt p x.i)) [] [] (He.fAd K (x.c, some "__init__")) fd → (match body with
      | [.Expr (.Call (.Attribute (.Name bx _) m p2) [.Name s _, .Constant (.str _) _ _] [] p5) _, .Assign [.Attribute (.Name s2 _) fld _] (.Name g _) _] =>
        decide (bx = x.b) && (decide (m = "__init__") && (decide (s = "self") && (decide (s2 = "self") && (decide (g = "given") && (decide (fld = x.fld) && ((p2.endLine == p5.line) && !(bx == ("__debug__" : Str))))))))
      | _ => false) = true → FnOk P w K mg base (L2.CX P w) 1 (He.fAd K (x.c, some "__init__")) fd ["self", "given"] (spInit (He.ga K x.c) x.fld) := fun body _ F q => by
    split at q
    · simp only [Bool.and_eq_true, decide_eq_true_eq, Bool.not_eq_true'] at q
      obtain ⟨rfl, rfl, rfl, rfl, rfl, rfl, q7, q8⟩ := q
      exact init_fn F (fnSc_of t2) t3 q8 t4 t5 mb ox b7 q7 b8 b9 fc
    · cases q
  exact key _ rfl F t1
def fnX (p : Program) (es : List En) (xs : List Xc) : List He.DefD := es.map En.dd ++ xs.map (Xc.dd p)
def faX (es : List En) : List He.Fa := es.map fun e => .glo e.name
/-- the table's parts agree -/
structure TabOk (T : Tab) (es : List En) (xs : List Xc) : Prop where
  tab : ∀ x ps, T.fns.lookup x = some ps → ∃ e, es.find? (·.name == x) = some e ∧ e.ps = ps
  isi : T.isi = isX xs
  exm : T.exm = exX xs
  cls : T.cls = clX xs
  dfs : ∀ x ds, T.dfs.lookup x = some ds → ∃ e, es.find? (·.name == x) = some e ∧ e.dfl = ds ∧ ds ≠ []
  xcs : ∀ c fld, T.xcs.lookup c = some fld → ∃ x ∈ xs, x.c = c ∧ x.fld = fld
theorem mg_of_head {p : Program} {T : Tab} {es : List En} {xs : List Xc} {K : PySem.W.Frag} {h : Heap} {mg : Str → Option Value} (to : TabOk T es xs) (tx : ∀ x ∈ xs, XcText p x) (c : SaysX (faX es) (exB T xs) (fnX p es xs) K h) (Gm : h.Ns mainGlobals mg) : Mg T es (gOf K) mg := by
  have ex := c.ex
  unfold exB at ex
  simp only [Bool.and_eq_true] at ex
  obtain ⟨e1, e2, e3, e4, e5, e6⟩ := ex
  have excs : ∀ x ∈ xs, ExcC K (He.ga K x.c) := fun x hx => by
    have b := List.all_eq_true.mp e4 x hx
    unfold xcB at b
    rw [Bool.and_eq_true, Bool.and_eq_true] at b
    exact excB_ok b.2.1
  have xfun : ∀ x ∈ xs, ∃ fd, FunD K "__init__" (x.c ++ ".__init__") (stArgs (initAt p x.i)) (stBody (initAt p x.i)) (stScope (initAt p x.i)) [] [] (He.fAd K (x.c, some "__init__")) fd := fun x hx => by
    obtain ⟨i, hi⟩ := List.getElem?_of_mem hx
    exact c.d.def_ (es.length + i) (d := x.dd p) (by
      unfold fnX
      rw [List.getElem?_append_right (by rw [List.length_map]; omega), List.length_map, Nat.add_sub_cancel_left, List.getElem?_map, hi]
      rfl)
  refine ⟨fun e he => ?_, to.tab, fun x hx => PySem.W.mg_none_of c.kin Gm (keysB_ok e1 hx), fun hg => ?_, fun x d hd => ?_, fun t k b hb => ?_, fun cn fld hc => ?_, fun cn fld hc => ?_, fun c1 d1 r hr => ?_, fun d hd => ?_, to.dfs⟩
  · obtain ⟨i, hi⟩ := List.getElem?_of_mem he
    obtain ⟨fd, F⟩ := c.d.def_ i (d := e.dd) (by
      unfold fnX
      rw [List.getElem?_append_left (by rw [List.length_map]; exact (List.getElem?_eq_some_iff.mp hi).1), List.getElem?_map, hi]
      rfl)
    have g := c.d.fact i (f := .glo e.name) (by
      unfold faX
      rw [List.getElem?_map, hi]
      rfl)
    rw [e.dd_v] at F
    exact ⟨_, fd, F, He.glo_ok c.kin Gm g⟩
  · rw [hg] at e3
    simp only [Bool.not_true, Bool.false_or, decide_eq_true_eq] at e3
    exact PySem.W.mg_of c.kin Gm e3
  · have hm : ∃ p ∈ T.cs, p = (x, d) := by
      have : ∀ l : List (Str × D), l.lookup x = some d → ∃ p ∈ l, p = (x, d) := fun l => by
        induction l with
        | nil => intro z; cases z
        | cons q l ih =>
          obtain ⟨y, v⟩ := q
          intro z
          rw [List.lookup_cons] at z
          cases k : (x == y) with
          | true =>
            rw [k] at z
            cases z
            exact ⟨_, List.mem_cons_self, by rw [beq_iff_eq.mp k]⟩
          | false =>
            rw [k] at z
            obtain ⟨p, h1, h2⟩ := ih z
            exact ⟨p, List.mem_cons_of_mem _ h1, h2⟩
      exact this _ hd
    obtain ⟨q, hq, rfl⟩ := hm
    obtain ⟨u, v, h1, h2, h3⟩ := constB_ok (List.all_eq_true.mp e2 _ hq)
    exact ⟨u, v, PySem.W.mg_of c.kin Gm h1, h2, h3⟩
  · rw [to.isi] at hb
    unfold isX at hb
    split at hb
    · rename_i cn bn
      split at hb
      · rename_i k
        cases hb
        rw [Bool.and_eq_true] at k
        obtain ⟨x, hx, hxc⟩ := List.any_eq_true.mp k.1
        have ec : x.c = cn := beq_iff_eq.mp hxc
        have q := List.all_eq_true.mp (List.all_eq_true.mp e5 x hx) bn (List.contains_iff_mem.mp k.2)
        have q := of_decide_eq_true q
        rw [ec] at q
        refine ⟨q, fun n hn => ?_⟩
        cases hn
        have b := List.all_eq_true.mp e4 x hx
        unfold xcB at b
        rw [Bool.and_eq_true, Bool.and_eq_true] at b
        have := excB_ok b.2.1
        rw [ec] at this
        exact this
      · cases hb
    · rename_i cn dn
      have hb2 : exX xs cn dn = some b := hb
      refine ⟨((kit2_ok e6).1 cn dn b hb2).2, fun n hn => ?_⟩
      cases hn
      unfold exX at hb2
      split at hb2
      · rename_i k1
        obtain ⟨x, hx, q1⟩ := any_eq k1
        rw [← beq_iff_eq.mp q1]
        exact excs x hx
      · cases hb2
    · rename_i an dn
      split at hb
      · rename_i k1
        cases hb
        exact ⟨(kit2_ok e6).2 an dn k1, fun n hn => by cases hn⟩
      · cases hb
    · cases hb
  · obtain ⟨x, hx, rfl, rfl⟩ := to.xcs cn fld hc
    obtain ⟨fd, F⟩ := xfun x hx
    obtain ⟨r1, r2, r3, r4, _⟩ := xc_ok (tx x hx) (List.all_eq_true.mp e4 x hx) F c.kin Gm
    exact ⟨_, fd, r1, r2, r3, r4⟩
  · obtain ⟨x, hx, rfl, rfl⟩ := to.xcs cn fld hc
    obtain ⟨fd, F⟩ := xfun x hx
    obtain ⟨r1, r2, r3, r4, r5⟩ := xc_ok (tx x hx) (List.all_eq_true.mp e4 x hx) F c.kin Gm
    exact ⟨r5, r1.no⟩
  · rw [to.exm] at hr
    exact ((kit2_ok e6).1 c1 d1 r hr).1
  · rw [to.cls] at hd
    have hd2 := List.contains_iff_mem.mp hd
    unfold clX at hd2
    have mgs : ∀ x ∈ xs, mg x.c = some (.ref (He.ga K x.c)) ∧ mg x.b = some (.ref (He.ga K x.b)) := fun x hx => by
      have b := List.all_eq_true.mp e4 x hx
      unfold xcB at b
      simp only [Bool.and_eq_true, decide_eq_true_eq] at b
      exact ⟨PySem.W.mg_of c.kin Gm b.2.2.1, PySem.W.mg_of c.kin Gm b.2.2.2.1⟩
    rcases List.mem_append.mp hd2 with z | z
    · obtain ⟨x, hx, rfl⟩ := List.mem_map.mp z
      exact (mgs x hx).1
    · obtain ⟨x, hx, rfl⟩ := List.mem_map.mp z
      exact (mgs x hx).2
/-- the law's walk, from its meaning -/
theorem walk_dl {l : PySem.W.OpenLaw} {n k : Nat} {q : Program} {loose : List Str} {XP : (Str → Option Value) → Heap → Prop} {d : DefRec} {p : Program} {T : Tab} {es : List En} {xs : List Xc} {e : En} {x : Str}
    (hn : l.most = some n) (hn2 : n ≤ sizeLine) (hdf : d.params.defaults = []) (hr : Room (k + 2) callerA) (to : TabOk T es xs) (ok : ∀ e ∈ es, EnOk T e) (tx : ∀ x ∈ xs, XcText p x)
    (he : es.find? (·.name == e.name) = some e) (hd : d.name = e.name) (hps : e.ps = [x]) (hdn : e.dfl = [])
    (hcl : ∀ ns : List Int, ns.length ≤ n → (∀ z ∈ ns, Builtin.Int.intBits z ≤ 1048576) → ∃ S', callN es k e.name [.ref 0] [.fro (ns.map D.int)] = .ok (.bl true) S') :
    PySem.W.WalkO q loose XP (fun _ h => ∃ K : PySem.W.Frag, SaysX (faX es) (exB T xs) (fnX p es xs) K h) l.row.toRowW d [] (fun f vs => PySem.call f vs) := by
  refine walk_x (k := k + 2) (x := x) (cl := callN es k e.name) hn hn2 hdf hr (fun w mg f h K c Gm hf => ?_) hcl
  have M := mg_of_head to tx c Gm
  have hm : e ∈ es := List.mem_of_find?_eq_some he
  obtain ⟨f', fd, F, hg⟩ := M.fn e hm
  rw [hd, hg] at hf
  cases hf
  have F0 := F
  rw [hdn] at F0
  have bd := FunD.bindsA (ps := e.ps) F0 ((ok e hm).bind hdn)
  refine ⟨gOf K, fd, rfl, fun s u => ?_, fun base _ hbase => ?_⟩
  · have := bd s [u] (by rw [hps]; rfl)
    rw [hps] at this
    exact this
  · have := fns_ok (P := l.prog) (w := w) (base := base) M ok k e he f fd F
    rw [hps] at this
    exact this
theorem lookup_mem {α : Type} {x : Str} {d : α} : ∀ {l : List (Str × α)}, l.lookup x = some d → (x, d) ∈ l
  | [], h => nomatch h
  | (y, v) :: l, h => by
    rw [List.lookup_cons] at h
    cases k : (x == y) with
    | true =>
      rw [k] at h
      cases h
      rw [beq_iff_eq.mp k]
      exact List.mem_cons_self
    | false =>
      rw [k] at h
      exact List.mem_cons_of_mem _ (lookup_mem h)
def flatEq : D → D → Bool
  | .int i, .int j => decide (i = j)
  | .str i, .str j => decide (i = j)
  | .bl i, .bl j => decide (i = j)
  | .non, .non => true
  | _, _ => false
theorem flatEq_ok {a b : D} (h : flatEq a b = true) : a = b := by
  unfold flatEq at h
  split at h
  · rw [of_decide_eq_true h]
  · rw [of_decide_eq_true h]
  · rw [of_decide_eq_true h]
  · rfl
  · cases h
theorem zip_eq : ∀ {a b : List D}, a.length = b.length → ((a.zip b).all fun r => flatEq r.1 r.2) = true → a = b
  | [], [], _, _ => rfl
  | x :: a, y :: b, hl, h => by
    rw [List.zip_cons_cons, List.all_cons, Bool.and_eq_true] at h
    rw [show x = y from flatEq_ok h.1, zip_eq (Nat.succ.inj hl) h.2]
  | [], _ :: _, h, _ => by cases h
  | _ :: _, [], h, _ => by cases h
theorem tabOk_of {T : Tab} {es : List En} {xs : List Xc} (hi : T.isi = isX xs) (hi2 : T.exm = exX xs) (hi3 : T.cls = clX xs) (h1 : (T.fns.all fun q => match es.find? (fun z => z.name == q.1) with
      | some e => decide (e.ps = q.2)
      | none => false) = true) (h2 : (T.xcs.all fun q => xs.any fun x => decide (x.c = q.1) && decide (x.fld = q.2)) = true) (h3 : (T.dfs.all fun q => match es.find? (fun z => z.name == q.1) with
      | some e => decide (e.dfl.length = q.2.length) && (!q.2.isEmpty && (e.dfl.zip q.2).all fun r => flatEq r.1 r.2)
      | none => false) = true) : TabOk T es xs := by
  refine ⟨fun x ps hx => ?_, hi, hi2, hi3, fun x ds hx => ?_, fun c fld hc => ?_⟩
  · have := List.all_eq_true.mp h1 _ (lookup_mem hx)
    split at this
    · rename_i e he
      exact ⟨e, he, of_decide_eq_true this⟩
    · cases this
  · have := List.all_eq_true.mp h3 _ (lookup_mem hx)
    split at this
    · rename_i e he
      simp only [Bool.and_eq_true, decide_eq_true_eq, Bool.not_eq_true'] at this
      exact ⟨e, he, zip_eq this.1 this.2.2, fun z => by have := this.2.1; simp [z] at this⟩
    · cases this
  · have := List.all_eq_true.mp h2 _ (lookup_mem hc)
    obtain ⟨x, hx, q⟩ := List.any_eq_true.mp this
    rw [Bool.and_eq_true, decide_eq_true_eq, decide_eq_true_eq] at q
    exact ⟨x, hx, q.1, q.2⟩
end DL
end
section
set_option Elab.async false
set_option linter.all false
set_option maxRecDepth 100000
set_option maxHeartbeats 4000000
/-! DL27: meanings, run -/
namespace DL
open PySem PySem.Spec PyProof.Rows L2
def andK (r : R D) (x : D) (S1 : Sto) : Option Bool → R D
  | some c => if c = true then r else .ok x S1
  | none => .bad
def orK (r : R D) (x : D) (S1 : Sto) : Option Bool → R D
  | some c => if c = true then .ok x S1 else r
  | none => .bad
@[simp] theorem x_andK (r : R D) (x : D) (S1 : Sto) (c : Bool) : andK r x S1 (some c) = if c = true then r else .ok x S1 := rfl
@[simp] theorem x_orK (r : R D) (x : D) (S1 : Sto) (c : Bool) : orK r x S1 (some c) = if c = true then .ok x S1 else r := rfl
theorem bind_ite {α β : Type} {c : Prop} [Decidable c] (a b : R α) (f : α → Sto → R β) : (if c then a else b).bind f = if c then a.bind f else b.bind f := by
  split <;> rfl
section
variable (ρ : Ev) (Sz : Sto)
@[simp] theorem x_sSeq (a b : DenS) : sSeq a b ρ Sz = (a ρ Sz).bind (goOn b) := rfl
@[simp] theorem x_sNil : sNil ρ Sz = .ok (.nx ρ) Sz := rfl
@[simp] theorem x_sBrk : sBrk ρ Sz = .ok (.brk ρ) Sz := rfl
@[simp] theorem x_sCnt : sCnt ρ Sz = .ok (.cnt ρ) Sz := rfl
@[simp] theorem x_sRet (f : Den D) : sRet f ρ Sz = (f ρ Sz).bind fun d S1 => .ok (.ret d) S1 := rfl
@[simp] theorem x_sRetN : sRetN ρ Sz = .ok (.ret .non) Sz := rfl
@[simp] theorem x_sExpr (f : Den D) : sExpr f ρ Sz = (f ρ Sz).bind fun _ S1 => .ok (.nx ρ) S1 := rfl
@[simp] theorem x_goOn_nx (b : DenS) : goOn b (.nx ρ) Sz = b ρ Sz := rfl
@[simp] theorem x_goOn_ret (b : DenS) (d : D) : goOn b (.ret d) Sz = .ok (.ret d) Sz := rfl
@[simp] theorem x_goOn_brk (b : DenS) : goOn b (.brk ρ) Sz = .ok (.brk ρ) Sz := rfl
@[simp] theorem x_goOn_cnt (b : DenS) : goOn b (.cnt ρ) Sz = .ok (.cnt ρ) Sz := rfl
@[simp] theorem x_sAsg (f : Den D) (g : DenG) : sAsg f g ρ Sz = (f ρ Sz).bind fun d S1 => (g d ρ S1).bind fun ρ1 S2 => .ok (.nx ρ1) S2 := rfl
@[simp] theorem x_tName (i : Nat) (d : D) : tName i d ρ Sz = .ok (ρ.set i (some d)) Sz := rfl
@[simp] theorem x_tTup (n : Nat) (u : List D → Den Ev) (ds : List D) : tTup n u (.tup ds) ρ Sz = if ds.length = n then u ds ρ Sz else .bad := rfl
theorem x_tTupL {l : Nat} {ds : List D} (h : Sz[l]? = some (.lst ds)) (n : Nat) (u : List D → Den Ev) : tTup n u (.ref l) ρ Sz = if ds.length = n then u ds ρ Sz else .bad := by
  unfold tTup seqT
  simp only [h]
@[simp] theorem x_tNil : tNil [] ρ Sz = .ok ρ Sz := rfl
@[simp] theorem x_tCons (a : DenG) (r : List D → Den Ev) (d : D) (ds : List D) : tCons a r (d :: ds) ρ Sz = (a d ρ Sz).bind fun ρ1 S1 => r ds ρ1 S1 := rfl
@[simp] theorem x_tSub (fo fi : Den D) (st : D → D → D → Sto → R Unit) (d : D) : tSub fo fi st d ρ Sz = (fo ρ Sz).bind fun o S1 => (fi ρ S1).bind fun i S2 => (st o i d S2).bind fun _ S3 => .ok ρ S3 := rfl
@[simp] theorem x_fIf {α : Type} (t : Den Bool) (a b : Den α) : fIf t a b ρ Sz = (t ρ Sz).bind fun c S1 => if c = true then a ρ S1 else b ρ S1 := rfl
@[simp] theorem x_fC (d : D) : fC d ρ Sz = .ok d Sz := rfl
@[simp] theorem x_fNil : fNil ρ Sz = .ok [] Sz := rfl
@[simp] theorem x_fCons (a : Den D) (r : Den (List D)) : fCons a r ρ Sz = (a ρ Sz).bind fun x S1 => (r ρ S1).bind fun xs S2 => .ok (x :: xs) S2 := rfl
@[simp] theorem x_fTup (fs : Den (List D)) : fTup fs ρ Sz = (fs ρ Sz).bind fun ds S1 => .ok (.tup ds) S1 := rfl
@[simp] theorem x_fLst (fs : Den (List D)) : fLst fs ρ Sz = (fs ρ Sz).bind mkLst := rfl
@[simp] theorem x_mkLst (ds : List D) : mkLst ds Sz = .ok (.ref Sz.length) (Sz ++ [.lst ds]) := rfl
@[simp] theorem x_fOp (op : Op2) (fa fb : Den D) : fOp op fa fb ρ Sz = (fa ρ Sz).bind fun x S1 => (fb ρ S1).bind fun y S2 => op x y S2 := rfl
@[simp] theorem x_fUn (op : Op1) (fa : Den D) : fUn op fa ρ Sz = (fa ρ Sz).bind op := rfl
@[simp] theorem x_fTest (f : Den D) : fTest f ρ Sz = (f ρ Sz).bind fun d S1 => optB (tru S1 d) S1 := rfl
@[simp] theorem x_fBool (f : Den D) : fBool f ρ Sz = (f ρ Sz).bind fun d S1 => match d with | .bl b => .ok b S1 | _ => .bad := rfl
@[simp] theorem x_fNotT (f : Den Bool) : fNotT f ρ Sz = (f ρ Sz).bind fun b S1 => .ok (!b) S1 := rfl
@[simp] theorem x_fAndT (a b : Den Bool) : fAndT a b ρ Sz = (a ρ Sz).bind fun c S1 => if c = true then b ρ S1 else .ok false S1 := rfl
@[simp] theorem x_fOrT (a b : Den Bool) : fOrT a b ρ Sz = (a ρ Sz).bind fun c S1 => if c = true then .ok true S1 else b ρ S1 := rfl
@[simp] theorem x_fAnd (a b : Den D) : fAnd a b ρ Sz = (a ρ Sz).bind fun x S1 => andK (b ρ S1) x S1 (tru S1 x) := by
  show (a ρ Sz).bind _ = _
  congr 1
  funext x S1
  cases tru S1 x with
  | none => rfl
  | some c => cases c <;> rfl
@[simp] theorem x_fOr (a b : Den D) : fOr a b ρ Sz = (a ρ Sz).bind fun x S1 => orK (b ρ S1) x S1 (tru S1 x) := by
  show (a ρ Sz).bind _ = _
  congr 1
  funext x S1
  cases tru S1 x with
  | none => rfl
  | some c => cases c <;> rfl
@[simp] theorem x_fNot (a : Den D) : fNot a ρ Sz = (a ρ Sz).bind fun d S1 => (optB (tru S1 d) S1).bind fun b S2 => .ok (.bl (!b)) S2 := by
  show ((a ρ Sz).bind fun d S1 => optB (tru S1 d) S1).bind _ = _
  rw [R.bind_assoc]
@[simp] theorem x_optB (b : Bool) : optB (some b) Sz = .ok b Sz := rfl
@[simp] theorem x_fB (bf : Bf) (fs : Den (List D)) : fB bf fs ρ Sz = (fs ρ Sz).bind bf := rfl
@[simp] theorem x_b1 (f : D → Sto → R D) (d : D) : b1 f [d] Sz = f d Sz := rfl
@[simp] theorem x_b2 (f : D → D → Sto → R D) (d e : D) : b2 f [d, e] Sz = f d e Sz := rfl
@[simp] theorem x_bMax1 (d : D) : bMax [d] Sz = bNums maxF d Sz := rfl
@[simp] theorem x_bMax2 (i j : Int) : bMax [.int i, .int j] Sz = .ok (.int (if j > i then j else i)) Sz := rfl
@[simp] theorem x_bMin1 (d : D) : bMin [d] Sz = bNums minF d Sz := rfl
@[simp] theorem x_bMin2 (i j : Int) : bMin [.int i, .int j] Sz = .ok (.int (if j < i then j else i)) Sz := rfl
@[simp] theorem x_fIsi (ans : Ty → Option Bool) (f : Den D) : fIsi ans f ρ Sz = (f ρ Sz).bind fun d S1 => optR (clsD S1 d) fun t => optR (ans t) fun b => .ok (.bl b) S1 := rfl
@[simp] theorem x_optR {α : Type} (a : α) (f : α → R D) : optR (some a) f = f a := rfl
@[simp] theorem x_fCall (cl : Cl) (fs : Den (List D)) : fCall cl fs ρ Sz = (fs ρ Sz).bind fun ds S1 => reEv ρ (cl ds S1) := rfl
@[simp] theorem x_reEv (d : D) : reEv ρ (.ok d Sz) = .ok d Sz := rfl
@[simp] theorem x_fCallK (cl : Cl) (ps ks : List Str) (fs fk : Den (List D)) : fCallK cl ps ks fs fk ρ Sz = (fs ρ Sz).bind fun ds S1 => (fk ρ S1).bind fun es S2 => reEv ρ (cl (byName ((ps.zip ds) ++ ks.zip es) .non ps) S2) := rfl
@[simp] theorem x_fCmps (f : Den D) (l : List (Op2 × Den D)) : fCmps f l ρ Sz = (f ρ Sz).bind fun x S1 => fChain l x ρ S1 := rfl
@[simp] theorem x_fChain1 (p : Op2 × Den D) (x : D) : fChain [p] x ρ Sz = (p.2 ρ Sz).bind fun y S1 => p.1 x y S1 := rfl
@[simp] theorem x_fChain2 (p q : Op2 × Den D) (r : List (Op2 × Den D)) (x : D) : fChain (p :: q :: r) x ρ Sz = (p.2 ρ Sz).bind fun y S1 => (p.1 x y S1).bind fun z S2 => match z with
    | .bl true => fChain (q :: r) y ρ S2
    | .bl false => .ok (.bl false) S2
    | _ => .bad := rfl
@[simp] theorem x_fSlice (f : Den D) (lo hi : Option (Den D)) : fSlice f lo hi ρ Sz = (f ρ Sz).bind fun x S1 => (fPart lo ρ S1).bind fun l S2 => (fPart hi ρ S2).bind fun h S3 => opCut x l h S3 := rfl
@[simp] theorem x_fPart0 : fPart none ρ Sz = .ok none Sz := rfl
@[simp] theorem x_fPart1 (f : Den D) : fPart (some f) ρ Sz = (f ρ Sz).bind fun d S1 => match d with | .int i => .ok (some i) S1 | _ => .bad := rfl
@[simp] theorem x_fRev (f : Den D) : fRev f ρ Sz = (f ρ Sz).bind opRev := rfl
@[simp] theorem x_fDict0 : fDict0 ρ Sz = .ok (.ref Sz.length) (Sz ++ [.dct []]) := rfl
@[simp] theorem x_fMkx (c fld : Str) (f : Den D) : fMkx c fld f ρ Sz = (f ρ Sz).bind fun d S1 => .ok (.ref S1.length) (S1 ++ [.exc c [(fld, d)]]) := rfl
@[simp] theorem x_fM (t : String) (m : Mf) (fo : Den D) (fs : Den (List D)) : fM t m fo fs ρ Sz = (fo ρ Sz).bind fun o S1 => if tyD t S1 o = true then (fs ρ S1).bind fun ds S2 => m o ds S2 else .bad := rfl
@[simp] theorem x_sRaise (c fld : Str) (f : Den D) : sRaise c fld f ρ Sz = (f ρ Sz).bind fun d S1 => .exc c [(fld, d)] ρ S1 := rfl
@[simp] theorem x_fCallD (cl : Cl) (ds : List D) (fs : Den (List D)) : fCallD cl ds fs ρ Sz = (fs ρ Sz).bind fun xs S1 => reEv ρ (cl (xs ++ ds) S1) := rfl
@[simp] theorem x_fFmt (f : Den D) : fFmt f ρ Sz = (f ρ Sz).bind fmtD := rfl
@[simp] theorem x_fJs0 (acc : Str) : fJs [] acc ρ Sz = .ok (.str acc) Sz := rfl
@[simp] theorem x_fJsS (f : Den D) (fs : List (Den D)) (acc : Str) : fJs (f :: fs) acc ρ Sz = (f ρ Sz).bind (joinK (fJs fs) acc ρ) := rfl
@[simp] theorem x_reEvX (c : Str) (fs : List (Str × D)) (ρ2 : Ev) : reEv ρ (.exc c fs ρ2 Sz) = .exc c fs ρ Sz := rfl
@[simp] theorem x_stripX (c : Str) (fs : List (Str × D)) : strip (.exc c fs ρ Sz) = .exc c fs ρ Sz := rfl
@[simp] theorem x_strip_nx : strip (.ok (.nx ρ) Sz) = .ok .non Sz := rfl
@[simp] theorem x_strip_ret (d : D) : strip (.ok (.ret d) Sz) = .ok d Sz := rfl
@[simp] theorem x_iSeq (f : Den D) : iSeq f ρ Sz = (f ρ Sz).bind itOf := rfl
@[simp] theorem x_iRng (k : List D → Sto → R ItD) (fs : Den (List D)) : iRng k fs ρ Sz = (fs ρ Sz).bind k := rfl
@[simp] theorem x_fTrue : fTrue ρ Sz = .ok true Sz := rfl
end
theorem x_var {ρ : Ev} {Sz : Sto} {i : Nat} {d : D} (h : ρ[i]? = some (some d)) : fVar i ρ Sz = .ok d Sz := by
  unfold fVar
  rw [h]
@[simp] theorem x_var0 (d : D) (l : Ev) (Sz : Sto) : fVar 0 (some d :: l) Sz = .ok d Sz := rfl
@[simp] theorem x_varS (i : Nat) (o : Option D) (l : Ev) (Sz : Sto) : fVar (i + 1) (o :: l) Sz = fVar i l Sz := rfl
/-! ### numbers -/
section
variable (Sz : Sto) (i j : Int)
@[simp] theorem x_add : opAdd (.int i) (.int j) Sz = .ok (.int (i + j)) Sz := rfl
@[simp] theorem x_sub : opSub (.int i) (.int j) Sz = .ok (.int (i - j)) Sz := rfl
@[simp] theorem x_neg : opNeg (.int i) Sz = .ok (.int (-i)) Sz := rfl
theorem x_mul (h : mulFit i j = true) : opMul (.int i) (.int j) Sz = .ok (.int (i * j)) Sz := by
  show (if mulFit i j = true then R.ok (D.int (i * j)) Sz else .bad) = _
  rw [if_pos h]
@[simp] theorem x_eq : opEq (.int i) (.int j) Sz = .ok (.bl (decide (i = j))) Sz := by
  show R.ok (D.bl (PyData.eqv (.int i) (.int j))) Sz = _
  congr 2
@[simp] theorem x_ne : opNe (.int i) (.int j) Sz = .ok (.bl (!decide (i = j))) Sz := by
  show R.ok (D.bl (!PyData.eqv (.int i) (.int j))) Sz = _
  congr 2
@[simp] theorem x_lt : opLt (.int i) (.int j) Sz = .ok (.bl (decide (i < j))) Sz := by
  show (if ordOk (.int i) (.int j) = true then R.ok (D.bl (PySem.W.dataLt (.int i) (.int j))) Sz else .bad) = _
  rw [if_pos (show ordOk _ _ = true from rfl), PySem.W.dataLt_int]
@[simp] theorem x_gt : opGt (.int i) (.int j) Sz = .ok (.bl (decide (j < i))) Sz := by
  show (if ordOk (.int i) (.int j) = true then R.ok (D.bl (PySem.W.dataLt (.int j) (.int i))) Sz else .bad) = _
  rw [if_pos (show ordOk _ _ = true from rfl), PySem.W.dataLt_int]
@[simp] theorem x_le : opLe (.int i) (.int j) Sz = .ok (.bl (decide (i ≤ j))) Sz := by
  show (if ordOk (.int i) (.int j) = true then R.ok (D.bl (!PySem.W.dataLt (.int j) (.int i))) Sz else .bad) = _
  rw [if_pos (show ordOk _ _ = true from rfl), PySem.W.dataLt_int]
  congr 2
  by_cases h : i ≤ j
  · rw [decide_eq_true h, decide_eq_false (by omega)]; rfl
  · rw [decide_eq_false h, decide_eq_true (by omega)]; rfl
@[simp] theorem x_ge : opGe (.int i) (.int j) Sz = .ok (.bl (decide (j ≤ i))) Sz := by
  show (if ordOk (.int i) (.int j) = true then R.ok (D.bl (!PySem.W.dataLt (.int i) (.int j))) Sz else .bad) = _
  rw [if_pos (show ordOk _ _ = true from rfl), PySem.W.dataLt_int]
  congr 2
  by_cases h : j ≤ i
  · rw [decide_eq_true h, decide_eq_false (by omega)]; rfl
  · rw [decide_eq_false h, decide_eq_true (by omega)]; rfl
theorem x_fdiv (h : j ≠ 0 ∧ j.natAbs.log2 < 9000) : opFdiv (.int i) (.int j) Sz = .ok (.int (i.fdiv j)) Sz := by
  show (if j ≠ 0 ∧ j.natAbs.log2 < 9000 then R.ok (D.int (i.fdiv j)) Sz else .bad) = _
  rw [if_pos h]
theorem x_mod (h : j ≠ 0) : opMod (.int i) (.int j) Sz = .ok (.int (i.fmod j)) Sz := by
  show (if j ≠ 0 then R.ok (D.int (i.fmod j)) Sz else .bad) = _
  rw [if_pos h]
theorem x_pow (h : 0 ≤ j ∧ j ≤ 1000000 ∧ i.natAbs < 2 ^ 64) : opPow (.int i) (.int j) Sz = .ok (.int (i ^ j.toNat)) Sz := by
  show (if 0 ≤ j ∧ j ≤ 1000000 ∧ i.natAbs < 2 ^ 64 then R.ok (D.int (i ^ j.toNat)) Sz else .bad) = _
  rw [if_pos h]
@[simp] theorem x_bInt : bInt (.int i) Sz = .ok (.int i) Sz := rfl
@[simp] theorem x_bAbs : bAbs (.int i) Sz = .ok (.int (if i < 0 then -i else i)) Sz := rfl
@[simp] theorem x_bGcd : bGcd (.int i) (.int j) Sz = .ok (.int ((Nat.gcd i.natAbs j.natAbs : Nat) : Int)) Sz := rfl
end
/-! ### kinds, truth, items -/
section
variable (Sz : Sto) (i : Int) (b : Bool) (s : Str) (xs : List D)
@[simp] theorem c_non : clsD Sz .non = some (.b "NoneType") := rfl
@[simp] theorem c_bl : clsD Sz (.bl b) = some (.b "bool") := rfl
@[simp] theorem c_int : clsD Sz (.int i) = some (.b "int") := rfl
@[simp] theorem c_str : clsD Sz (.str s) = some (.b "str") := rfl
@[simp] theorem c_tup : clsD Sz (.tup xs) = some (.b "tuple") := rfl
@[simp] theorem t_bl : tru Sz (.bl b) = some b := rfl
@[simp] theorem t_int : tru Sz (.int i) = some (i != 0) := rfl
@[simp] theorem t_non : tru Sz .non = some false := rfl
@[simp] theorem t_tup : tru Sz (.tup xs) = some (!xs.isEmpty) := rfl
@[simp] theorem x_len_tup : bLen (.tup xs) Sz = .ok (.int xs.length) Sz := rfl
theorem x_len_lst {l : Nat} (h : Sz[l]? = some (.lst xs)) : bLen (.ref l) Sz = .ok (.int xs.length) Sz := by
  show optR (match Sz[l]? with
    | some (.lst xs) => some xs.length
    | some (.fro xs) => some xs.length
    | some (.dct kvs) => some kvs.length
    | _ => none) _ = _
  rw [h]
  rfl
theorem at_nat (l : List D) (k : Nat) (h : k < l.length) : L2.atI l (k : Int) = l[k]? := by
  unfold L2.atI ixN
  have h1 : (0:Int) ≤ k := by omega
  have h2 : (k:Int) < l.length := by omega
  simp [h1, h2]
@[simp] theorem at_0 (a : D) (l : List D) : L2.atI (a :: l) 0 = some a := at_nat (a :: l) 0 (by simp)
@[simp] theorem at_1 (a b : D) (l : List D) : L2.atI (a :: b :: l) 1 = some b := at_nat (a :: b :: l) 1 (by simp)
@[simp] theorem at_2 (a b c : D) (l : List D) : L2.atI (a :: b :: c :: l) 2 = some c := at_nat (a :: b :: c :: l) 2 (by simp)
@[simp] theorem at_3 (a b c d : D) (l : List D) : L2.atI (a :: b :: c :: d :: l) 3 = some d := at_nat (a :: b :: c :: d :: l) 3 (by simp)
@[simp] theorem x_idx_tup : opIdx (.tup xs) (.int i) Sz = optR (L2.atI xs i) fun d => .ok d Sz := rfl
theorem x_idx_lst {l : Nat} (h : seqOf Sz l = some xs) : opIdx (.ref l) (.int i) Sz = optR (L2.atI xs i) fun d => .ok d Sz := by
  show optR (seqOf Sz l) _ = _
  rw [h]
  rfl
end
end DL
end
section
set_option Elab.async false
set_option linter.all false
set_option maxRecDepth 100000
set_option maxHeartbeats 4000000
/-! DL28: loops, run -/
namespace DL
open PySem PySem.Spec PyProof.Rows L2
/-! ### while -/
theorem whileN_mono {c : Den Bool} {b : DenS} : ∀ (n : Nat) {ρ : Ev} {Sz : Sto}, whileN c b n ρ Sz ≠ .bad → whileN c b (n + 1) ρ Sz = whileN c b n ρ Sz
  | 0, _, _, h => absurd rfl h
  | n + 1, ρ, Sz, h => by
    have e1 : ∀ n, whileN c b (n + 1) ρ Sz = (c ρ Sz).bind fun k S1 => if k = true then (b ρ S1).bind fun f S2 => match f with
      | .nx ρ2 => whileN c b n ρ2 S2
      | .cnt ρ2 => whileN c b n ρ2 S2
      | .brk ρ2 => .ok (.nx ρ2) S2
      | .ret d => .ok (.ret d) S2
    else .ok (.nx ρ) S1 := fun n => rfl
    rw [e1 n] at h
    rw [e1 (n + 1), e1 n]
    cases q : c ρ Sz with
    | bad => rfl
    | exc _ _ _ _ => rfl
    | ok k S1 =>
      rw [q] at h
      simp only [R.bind_ok] at h ⊢
      by_cases hk : k = true
      · rw [if_pos hk] at h
        rw [if_pos hk, if_pos hk]
        cases q2 : b ρ S1 with
        | bad => rfl
        | exc _ _ _ _ => rfl
        | ok f S2 =>
          rw [q2] at h
          simp only [R.bind_ok] at h ⊢
          cases f with
          | nx ρ2 => exact whileN_mono n h
          | cnt ρ2 => exact whileN_mono n h
          | brk _ => rfl
          | ret _ => rfl
      · rw [if_neg hk, if_neg hk]
theorem whileN_le {c : Den Bool} {b : DenS} {n m : Nat} {ρ : Ev} {Sz : Sto} (h : whileN c b n ρ Sz ≠ .bad) (le : n ≤ m) : whileN c b m ρ Sz = whileN c b n ρ Sz := by
  induction le with
  | refl => rfl
  | step _ ih => rw [whileN_mono _ (by rw [ih]; exact h), ih]
theorem x_while {c : Den Bool} {b : DenS} {n : Nat} {ρ : Ev} {Sz : Sto} {r : R Fl} (h : whileN c b n ρ Sz = r) (hr : r ≠ .bad) : sWhile c b ρ Sz = r := by
  have hx : ∃ n, whileN c b n ρ Sz ≠ .bad := ⟨n, by rw [h]; exact hr⟩
  unfold sWhile
  rw [dif_pos hx]
  have h2 := Classical.choose_spec hx
  rcases Nat.le_total n (Classical.choose hx) with z | z
  · rw [whileN_le (by rw [h]; exact hr) z, h]
  · rw [← h, whileN_le h2 z]
theorem whileN_stop {c : Den Bool} {b : DenS} {n : Nat} {ρ : Ev} {Sz S1 : Sto} (h : c ρ Sz = .ok false S1) : whileN c b (n + 1) ρ Sz = .ok (.nx ρ) S1 := by
  show (c ρ Sz).bind _ = _
  rw [h]
  rfl
theorem whileN_step {c : Den Bool} {b : DenS} {n : Nat} {ρ ρ2 : Ev} {Sz S1 S2 : Sto} (h : c ρ Sz = .ok true S1) (hb : b ρ S1 = .ok (.nx ρ2) S2) : whileN c b (n + 1) ρ Sz = whileN c b n ρ2 S2 := by
  show (c ρ Sz).bind _ = _
  rw [h, R.bind_ok, if_pos rfl, hb]
  rfl
/-! ### comprehensions -/
/-- nothing is changed -/
theorem lcG_pure {g : DenG} {tt : Den Bool} {te : Den D} {ok : Sto → Prop} {ρ : Ev} {Sz : Sto} (v : D → D) (p : D → Bool) (ho : ok Sz) : ∀ (ds acc : List D),
    (∀ d ∈ ds, ∃ ρ', g d ρ Sz = .ok ρ' Sz ∧ tt ρ' Sz = .ok (p d) Sz ∧ (p d = true → te ρ' Sz = .ok (v d) Sz)) → lcG g tt te ok ρ ds acc Sz = .ok (acc ++ (ds.filter p).map v) Sz
  | [], acc, _ => by
    unfold lcG
    rw [if_pos ho]
    simp
  | d :: ds, acc, h => by
    obtain ⟨ρ', h1, h2, h3⟩ := h d List.mem_cons_self
    have ih := fun a => lcG_pure v p ho ds a fun x hx => h x (List.mem_cons_of_mem _ hx)
    unfold lcG
    rw [if_pos ho, h1]
    simp only [R.strict_ok, R.bind_ok]
    rw [h2]
    simp only [R.strict_ok, R.bind_ok]
    cases hp : p d with
    | false => rw [if_neg (by simp), ih, List.filter_cons_of_neg (by simp [hp])]
    | true =>
      rw [if_pos rfl, h3 hp]
      simp only [R.strict_ok, R.bind_ok]
      rw [ih, List.filter_cons_of_pos hp, List.map_cons]
      simp
/-- with an invariant of the store and of what was made -/
theorem lcG_inv {g : DenG} {tt : Den Bool} {te : Den D} {ok : Sto → Prop} {ρ : Ev} (P : List D → Sto → Prop) : ∀ (ds acc : List D) (Sz : Sto), P acc Sz → (∀ acc S', P acc S' → ok S') →
    (∀ d ∈ ds, ∀ acc S1, P acc S1 → ∃ ρ' S2 b S3, g d ρ S1 = .ok ρ' S2 ∧ tt ρ' S2 = .ok b S3 ∧ (b = false → P acc S3) ∧ (b = true → ∃ y S4, te ρ' S3 = .ok y S4 ∧ P (acc ++ [y]) S4)) → ∃ out S', lcG g tt te ok ρ ds acc Sz = .ok out S' ∧ P out S'
  | [], acc, Sz, h0, ho, _ => ⟨acc, Sz, by unfold lcG; rw [if_pos (ho _ _ h0)], h0⟩
  | d :: ds, acc, Sz, h0, ho, h => by
    obtain ⟨ρ', S2, b, S3, h1, h2, h3, h4⟩ := h d List.mem_cons_self acc Sz h0
    have ih := fun a s hp => lcG_inv P ds a s hp ho fun x hx => h x (List.mem_cons_of_mem _ hx)
    unfold lcG
    rw [if_pos (ho _ _ h0), h1]
    simp only [R.strict_ok, R.bind_ok]
    rw [h2]
    simp only [R.strict_ok, R.bind_ok]
    cases b with
    | false =>
      rw [if_neg (by simp)]
      exact ih acc S3 (h3 rfl)
    | true =>
      obtain ⟨y, S4, h5, h6⟩ := h4 rfl
      rw [if_pos rfl, h5]
      simp only [R.strict_ok, R.bind_ok]
      exact ih _ S4 h6
/-! ### for -/
theorem forG_inv {g : DenG} {body : DenS} {ok : Sto → Prop} (P : Ev → Sto → Prop) (Q : D → Sto → Prop) : ∀ (ds : List D) (ρ : Ev) (Sz : Sto), P ρ Sz → (∀ ρ S', P ρ S' → ok S') →
    (∀ d ∈ ds, ∀ ρ S1, P ρ S1 → ∃ ρ' S2, g d ρ S1 = .ok ρ' S2 ∧ ∃ f S3, body ρ' S2 = .ok f S3 ∧ ((∃ ρ2, f = .nx ρ2 ∧ P ρ2 S3) ∨ ∃ r, f = .ret r ∧ Q r S3)) →
    (∃ ρ' S', forG g body ok ds ρ Sz = .ok (.nx ρ') S' ∧ P ρ' S') ∨ ∃ r S', forG g body ok ds ρ Sz = .ok (.ret r) S' ∧ Q r S'
  | [], ρ, Sz, h0, ho, _ => .inl ⟨ρ, Sz, by unfold forG; rw [if_pos (ho _ _ h0)], h0⟩
  | d :: ds, ρ, Sz, h0, ho, h => by
    obtain ⟨ρ', S2, h1, f, S3, h2, h3⟩ := h d List.mem_cons_self ρ Sz h0
    have ih := fun a s hp => forG_inv P Q ds a s hp ho fun x hx => h x (List.mem_cons_of_mem _ hx)
    unfold forG
    rw [if_pos (ho _ _ h0), h1]
    simp only [R.bind_ok]
    rw [h2]
    simp only [R.bind_ok]
    rcases h3 with ⟨ρ2, rfl, hp⟩ | ⟨r, rfl, hq⟩
    · exact ih ρ2 S3 hp
    · exact .inr ⟨r, S3, rfl, hq⟩
theorem forG_inv0 {g : DenG} {body : DenS} {ok : Sto → Prop} (P : Ev → Sto → Prop) (ds : List D) (ρ : Ev) (Sz : Sto) (h0 : P ρ Sz) (ho : ∀ ρ S', P ρ S' → ok S')
    (h : ∀ d ∈ ds, ∀ ρ S1, P ρ S1 → ∃ ρ' S2, g d ρ S1 = .ok ρ' S2 ∧ ∃ ρ2 S3, body ρ' S2 = .ok (.nx ρ2) S3 ∧ P ρ2 S3) : ∃ ρ' S', forG g body ok ds ρ Sz = .ok (.nx ρ') S' ∧ P ρ' S' := by
  rcases forG_inv P (fun _ _ => False) ds ρ Sz h0 ho (fun d hd ρ S1 hp => by
    obtain ⟨ρ', S2, h1, ρ2, S3, h2, h3⟩ := h d hd ρ S1 hp
    exact ⟨ρ', S2, h1, _, S3, h2, .inl ⟨ρ2, rfl, h3⟩⟩) with q | ⟨_, _, _, f⟩
  · exact q
  · exact f.elim
theorem x_sFor {it : Den ItD} {g : DenG} {body : DenS} {ρ : Ev} {Sz S1 : Sto} {i : ItD} (h : it ρ Sz = .ok i S1) : sFor it g body ρ Sz = forG g body i.ok i.items ρ S1 := by
  unfold sFor
  rw [h]
  rfl
theorem x_fLc {it : Den ItD} {g : DenG} {tt : Den Bool} {te : Den D} {vs : List Nat} {ρ : Ev} {Sz S1 : Sto} {i : ItD} (h : it ρ Sz = .ok i S1) : fLc it g tt te vs ρ Sz = (lcG g tt te i.ok (wipeD ρ vs) i.items [] S1).bind mkLst := by
  unfold fLc
  rw [h]
  rfl
theorem x_rng1 {j : Int} {Sz : Sto} (h : -(2 ^ 62) ≤ j) (h2 : j.toNat ≤ 16777216) : rng1 [.int j] Sz = .ok ⟨rngs 0 1 j.toNat, fun _ => True⟩ Sz := by
  show (if -(2 ^ 62) ≤ j then rngIt 0 1 j.toNat Sz else .bad) = _
  rw [if_pos h]
  unfold rngIt
  rw [if_pos h2]
@[simp] theorem x_itOf_tup (xs : List D) (Sz : Sto) : itOf (.tup xs) Sz = .ok ⟨xs, fun _ => True⟩ Sz := rfl
theorem rngs_mem {n : Nat} {d : D} (h : d ∈ rngs 0 1 n) : ∃ i : Nat, i < n ∧ d = .int i := by
  unfold rngs at h
  obtain ⟨i, h1, rfl⟩ := List.mem_map.mp h
  exact ⟨i, List.mem_range.mp h1, by simp⟩
end DL
end
section
set_option Elab.async false
set_option linter.all false
set_option maxRecDepth 100000
set_option maxHeartbeats 0
namespace DL
open PySem PySem.Spec PyProof.Rows L2
abbrev S (x : String) : Str := Str.ofString x
abbrev pw : Program := PySem.Challenge.pw_ohmpatch_k01_fractions_by_own_integers
abbrev c_ZERO : D := (.tup [(.int 0), (.int 1)])
abbrev c_DIGITS : D := (.str "0123456789")
abbrev c_MOST_DIGITS : D := (.int 200)
abbrev c_BEYOND_DIGITS : D := (.int 100000000000000000000000000000000000000000000000000000000000000000000000000000000000000000000000000000000000000000000000000000000000000000000000000000000000000000000000000000000000000000000000000000000)
def xs : List Xc := [⟨(S "InvalidNumber"), (S "given"), (S "NetError"), 3⟩, ⟨(S "InvalidFraction"), (S "given"), (S "NetError"), 4⟩, ⟨(S "InvalidText"), (S "given"), (S "NetError"), 5⟩]
def T : Tab where
  fns := [((S "lowest"), [(S "top"), (S "bottom")]), ((S "added"), [(S "one"), (S "other")]), ((S "lessened"), [(S "one"), (S "other")]), ((S "multiplied"), [(S "one"), (S "other")]), ((S "divided"), [(S "one"), (S "other")]), ((S "is_less"), [(S "one"), (S "other")]), ((S "is_integer"), [(S "value")]), ((S "is_short"), [(S "value")]), ((S "is_tuple"), [(S "value"), (S "many")]), ((S "count_in"), [(S "word"), (S "most")]), ((S "integer_in"), [(S "word")]), ((S "is_fraction"), [(S "value")]), ((S "is_writable"), [(S "value")]), ((S "check_fractions"), [(S "one"), (S "other")]), ((S "fraction"), [(S "top"), (S "bottom")]), ((S "plus"), [(S "one"), (S "other")]), ((S "minus"), [(S "one"), (S "other")]), ((S "times"), [(S "one"), (S "other")]), ((S "over"), [(S "one"), (S "other")]), ((S "below"), [(S "one"), (S "other")]), ((S "fraction_text"), [(S "value")]), ((S "fraction_in"), [(S "text")]), ((S "write_fraction"), [(S "value")]), ((S "read_fraction"), [(S "text")]), ((S "_law_cell"), [(S "script"), (S "k")]), ((S "_law_box"), [(S "great")]), ((S "_law_take"), [(S "box"), (S "many")]), ((S "_law_same"), [(S "told"), (S "due")]), ((S "_law_shared"), [(S "one"), (S "other")]), ((S "_law_frac"), [(S "top"), (S "bottom")]), ((S "_law_whole"), [(S "box")]), ((S "_law_bottom"), [(S "box")]), ((S "_law_pair"), [(S "box")]), ((S "_law_due"), [(S "one"), (S "other")]), ((S "_law_told"), [(S "one"), (S "other"), (S "by_name")]), ((S "_law_is_due"), [(S "value")]), ((S "_law_near"), [(S "box"), (S "one")]), ((S "_law_shapes_right"), [(S "box"), (S "one")]), ((S "_law_made_right"), [(S "box"), (S "one"), (S "by_name")]), ((S "_law_text"), [(S "one")]), ((S "_law_texts_right"), [(S "one"), (S "by_name")]), ((S "_law_read"), [(S "text"), (S "by_name")]), ((S "_law_written"), [(S "value"), (S "by_name")]), ((S "_law_great_right"), [(S "box"), (S "by_name")]), ((S "_law_cell_right"), [(S "box")]), ((S "law"), [(S "script")])]
  kws := [((S "over"), 0, [(S "one"), (S "other")]), ((S "plus"), 0, [(S "one"), (S "other")]), ((S "minus"), 0, [(S "one"), (S "other")]), ((S "times"), 0, [(S "other"), (S "one")]), ((S "below"), 0, [(S "one"), (S "other")]), ((S "is_fraction"), 0, [(S "value")]), ((S "fraction"), 0, [(S "top"), (S "bottom")]), ((S "write_fraction"), 0, [(S "value")]), ((S "read_fraction"), 0, [(S "text")])]
  gl := [(S "lowest"), (S "added"), (S "lessened"), (S "multiplied"), (S "divided"), (S "is_less"), (S "is_integer"), (S "is_short"), (S "is_tuple"), (S "count_in"), (S "integer_in"), (S "is_fraction"), (S "is_writable"), (S "check_fractions"), (S "fraction"), (S "plus"), (S "minus"), (S "times"), (S "over"), (S "below"), (S "fraction_text"), (S "fraction_in"), (S "write_fraction"), (S "read_fraction"), (S "_law_cell"), (S "_law_box"), (S "_law_take"), (S "_law_same"), (S "_law_shared"), (S "_law_frac"), (S "_law_whole"), (S "_law_bottom"), (S "_law_pair"), (S "_law_due"), (S "_law_told"), (S "_law_is_due"), (S "_law_near"), (S "_law_shapes_right"), (S "_law_made_right"), (S "_law_text"), (S "_law_texts_right"), (S "_law_read"), (S "_law_written"), (S "_law_great_right"), (S "_law_cell_right"), (S "law"), (S "ZERO"), (S "DIGITS"), (S "MOST_DIGITS"), (S "BEYOND_DIGITS"), (S "gcd"), (S "NetError"), (S "InvalidNumber"), (S "InvalidFraction"), (S "InvalidText"), (S "__name__")] ++ startupNames
  cs := [((S "ZERO"), c_ZERO), ((S "DIGITS"), c_DIGITS), ((S "MOST_DIGITS"), c_MOST_DIGITS), ((S "BEYOND_DIGITS"), c_BEYOND_DIGITS)]
  gcd := true
  isi := isX xs
  xcs := [((S "InvalidNumber"), (S "given")), ((S "InvalidFraction"), (S "given")), ((S "InvalidText"), (S "given"))]
  exm := exX xs
  cls := clX xs
  dfs := [((S "count_in"), [(.int 200)])]
noncomputable def d_lowest (cl : Str → Cl) : DenS := (sSeq (sAsg (fIf (fBool (fOp opGt (fVar 1) (fC (.int 0)))) (fB (b2 bGcd) (fCons (fVar 0) (fCons (fVar 1) fNil))) (fUn opNeg (fB (b2 bGcd) (fCons (fVar 0) (fCons (fVar 1) fNil))))) (tName 2)) (sSeq (sRet (fTup (fCons (fOp opFdiv (fVar 0) (fVar 2)) (fCons (fOp opFdiv (fVar 1) (fVar 2)) fNil)))) sNil))
noncomputable def e_lowest : En := ⟨S "lowest", [(S "top"), (S "bottom")], [(S "top"), (S "bottom"), (S "shared")], argsAt pw 8, bodyAt pw 8, scAt pw 8, d_lowest, []⟩
theorem ok_lowest : EnOk T e_lowest where
  made := fun cl => by kernel_rfl
  sc := fnSc_of (by kernel_rfl)
  bind := fun _ _ _ _ _ _ _ us hl => match us, hl with | [_, _], _ => by kernel_rfl
  bindD := fun h => absurd rfl h
  kw := fun n ks h => absurd h (kw_none (by decide +kernel))
noncomputable def d_added (cl : Str → Cl) : DenS := (sSeq (sRet (fCall (cl "lowest") (fCons (fOp opAdd (fOp opMul (fOp opIdx (fVar 0) (fC (.int 0))) (fOp opIdx (fVar 1) (fC (.int 1)))) (fOp opMul (fOp opIdx (fVar 1) (fC (.int 0))) (fOp opIdx (fVar 0) (fC (.int 1))))) (fCons (fOp opMul (fOp opIdx (fVar 0) (fC (.int 1))) (fOp opIdx (fVar 1) (fC (.int 1)))) fNil)))) sNil)
noncomputable def e_added : En := ⟨S "added", [(S "one"), (S "other")], [(S "one"), (S "other")], argsAt pw 9, bodyAt pw 9, scAt pw 9, d_added, []⟩
theorem ok_added : EnOk T e_added where
  made := fun cl => by kernel_rfl
  sc := fnSc_of (by kernel_rfl)
  bind := fun _ _ _ _ _ _ _ us hl => match us, hl with | [_, _], _ => by kernel_rfl
  bindD := fun h => absurd rfl h
  kw := fun n ks h => absurd h (kw_none (by decide +kernel))
noncomputable def d_lessened (cl : Str → Cl) : DenS := (sSeq (sRet (fCall (cl "lowest") (fCons (fOp opSub (fOp opMul (fOp opIdx (fVar 0) (fC (.int 0))) (fOp opIdx (fVar 1) (fC (.int 1)))) (fOp opMul (fOp opIdx (fVar 1) (fC (.int 0))) (fOp opIdx (fVar 0) (fC (.int 1))))) (fCons (fOp opMul (fOp opIdx (fVar 0) (fC (.int 1))) (fOp opIdx (fVar 1) (fC (.int 1)))) fNil)))) sNil)
noncomputable def e_lessened : En := ⟨S "lessened", [(S "one"), (S "other")], [(S "one"), (S "other")], argsAt pw 10, bodyAt pw 10, scAt pw 10, d_lessened, []⟩
theorem ok_lessened : EnOk T e_lessened where
  made := fun cl => by kernel_rfl
  sc := fnSc_of (by kernel_rfl)
  bind := fun _ _ _ _ _ _ _ us hl => match us, hl with | [_, _], _ => by kernel_rfl
  bindD := fun h => absurd rfl h
  kw := fun n ks h => absurd h (kw_none (by decide +kernel))
noncomputable def d_multiplied (cl : Str → Cl) : DenS := (sSeq (sRet (fCall (cl "lowest") (fCons (fOp opMul (fOp opIdx (fVar 0) (fC (.int 0))) (fOp opIdx (fVar 1) (fC (.int 0)))) (fCons (fOp opMul (fOp opIdx (fVar 0) (fC (.int 1))) (fOp opIdx (fVar 1) (fC (.int 1)))) fNil)))) sNil)
noncomputable def e_multiplied : En := ⟨S "multiplied", [(S "one"), (S "other")], [(S "one"), (S "other")], argsAt pw 11, bodyAt pw 11, scAt pw 11, d_multiplied, []⟩
theorem ok_multiplied : EnOk T e_multiplied where
  made := fun cl => by kernel_rfl
  sc := fnSc_of (by kernel_rfl)
  bind := fun _ _ _ _ _ _ _ us hl => match us, hl with | [_, _], _ => by kernel_rfl
  bindD := fun h => absurd rfl h
  kw := fun n ks h => absurd h (kw_none (by decide +kernel))
noncomputable def d_divided (cl : Str → Cl) : DenS := (sSeq (sRet (fCall (cl "lowest") (fCons (fOp opMul (fOp opIdx (fVar 0) (fC (.int 0))) (fOp opIdx (fVar 1) (fC (.int 1)))) (fCons (fOp opMul (fOp opIdx (fVar 0) (fC (.int 1))) (fOp opIdx (fVar 1) (fC (.int 0)))) fNil)))) sNil)
noncomputable def e_divided : En := ⟨S "divided", [(S "one"), (S "other")], [(S "one"), (S "other")], argsAt pw 12, bodyAt pw 12, scAt pw 12, d_divided, []⟩
theorem ok_divided : EnOk T e_divided where
  made := fun cl => by kernel_rfl
  sc := fnSc_of (by kernel_rfl)
  bind := fun _ _ _ _ _ _ _ us hl => match us, hl with | [_, _], _ => by kernel_rfl
  bindD := fun h => absurd rfl h
  kw := fun n ks h => absurd h (kw_none (by decide +kernel))
noncomputable def d_is_less (cl : Str → Cl) : DenS := (sSeq (sRet (fOp opLt (fOp opMul (fOp opIdx (fVar 0) (fC (.int 0))) (fOp opIdx (fVar 1) (fC (.int 1)))) (fOp opMul (fOp opIdx (fVar 1) (fC (.int 0))) (fOp opIdx (fVar 0) (fC (.int 1)))))) sNil)
noncomputable def e_is_less : En := ⟨S "is_less", [(S "one"), (S "other")], [(S "one"), (S "other")], argsAt pw 13, bodyAt pw 13, scAt pw 13, d_is_less, []⟩
theorem ok_is_less : EnOk T e_is_less where
  made := fun cl => by kernel_rfl
  sc := fnSc_of (by kernel_rfl)
  bind := fun _ _ _ _ _ _ _ us hl => match us, hl with | [_, _], _ => by kernel_rfl
  bindD := fun h => absurd rfl h
  kw := fun n ks h => absurd h (kw_none (by decide +kernel))
noncomputable def d_is_integer (cl : Str → Cl) : DenS := (sSeq (sRet (fAnd (fIsi (ansB T "int") (fVar 0)) (fNot (fIsi (ansB T "bool") (fVar 0))))) sNil)
noncomputable def e_is_integer : En := ⟨S "is_integer", [(S "value")], [(S "value")], argsAt pw 18, bodyAt pw 18, scAt pw 18, d_is_integer, []⟩
theorem ok_is_integer : EnOk T e_is_integer where
  made := fun cl => by kernel_rfl
  sc := fnSc_of (by kernel_rfl)
  bind := fun _ _ _ _ _ _ _ us hl => match us, hl with | [_], _ => by kernel_rfl
  bindD := fun h => absurd rfl h
  kw := fun n ks h => absurd h (kw_none (by decide +kernel))
noncomputable def d_is_short (cl : Str → Cl) : DenS := (sSeq (sRet (fCmps (fUn opNeg (fC c_BEYOND_DIGITS)) [(opLt, (fVar 0)), (opLt, (fC c_BEYOND_DIGITS))])) sNil)
noncomputable def e_is_short : En := ⟨S "is_short", [(S "value")], [(S "value")], argsAt pw 19, bodyAt pw 19, scAt pw 19, d_is_short, []⟩
theorem ok_is_short : EnOk T e_is_short where
  made := fun cl => by kernel_rfl
  sc := fnSc_of (by kernel_rfl)
  bind := fun _ _ _ _ _ _ _ us hl => match us, hl with | [_], _ => by kernel_rfl
  bindD := fun h => absurd rfl h
  kw := fun n ks h => absurd h (kw_none (by decide +kernel))
noncomputable def d_is_tuple (cl : Str → Cl) : DenS := (sSeq (sRet (fAnd (fIsi (ansB T "tuple") (fVar 0)) (fOp opEq (fB (b1 bLen) (fCons (fVar 0) fNil)) (fVar 1)))) sNil)
noncomputable def e_is_tuple : En := ⟨S "is_tuple", [(S "value"), (S "many")], [(S "value"), (S "many")], argsAt pw 20, bodyAt pw 20, scAt pw 20, d_is_tuple, []⟩
theorem ok_is_tuple : EnOk T e_is_tuple where
  made := fun cl => by kernel_rfl
  sc := fnSc_of (by kernel_rfl)
  bind := fun _ _ _ _ _ _ _ us hl => match us, hl with | [_, _], _ => by kernel_rfl
  bindD := fun h => absurd rfl h
  kw := fun n ks h => absurd h (kw_none (by decide +kernel))
noncomputable def d_count_in (cl : Str → Cl) : DenS := (sSeq (fIf (fOrT (fNotT (fBool (fCmps (fC (.int 1)) [(opLe, (fB (b1 bLen) (fCons (fVar 0) fNil))), (opLe, (fVar 1))]))) (fNotT (fTest (fB (b1 (bBls allF)) (fCons (fLc (iSeq (fVar 0)) (tName 2) fTrue (fOp (opIn false) (fVar 2) (fC c_DIGITS)) [2]) fNil))))) (sSeq (sRet (fC .non)) sNil) sNil) (sSeq (sRet (fIf (fOrT (fBool (fOp opEq (fVar 0) (fC (.str "0")))) (fBool (fOp opNe (fOp opIdx (fVar 0) (fC (.int 0))) (fC (.str "0"))))) (fB (b1 bInt) (fCons (fVar 0) fNil)) (fC .non))) sNil))
noncomputable def e_count_in : En := ⟨S "count_in", [(S "word"), (S "most")], [(S "word"), (S "most"), (S "sign")], argsAt pw 21, bodyAt pw 21, scAt pw 21, d_count_in, [(.int 200)]⟩
theorem ok_count_in : EnOk T e_count_in where
  made := fun cl => by kernel_rfl
  sc := fnSc_of (by kernel_rfl)
  bind := fun h => absurd h (by simp [e_count_in])
  bindD := fun _ => ⟨rfl, fun n ks => kw_none (by decide +kernel), by decide, fun n j h A kV doc pm an cdv ct us its h1 h2 => by
    rcases h with ⟨rfl, rfl⟩ | ⟨rfl, rfl⟩
    · match us, its, h1, h2 with
      | [_, _], [_], _, _ => exact ⟨_, rfl, rfl⟩
    · match us, its, h1, h2 with
      | [_], [_], _, _ => exact ⟨_, rfl, rfl⟩⟩
  kw := fun n ks h => absurd h (kw_none (by decide +kernel))
noncomputable def d_integer_in (cl : Str → Cl) : DenS := (sSeq (fIf (fBool (fOp opNe (fSlice (fVar 0) none (some (fC (.int 1)))) (fC (.str "-")))) (sSeq (sRet (fCallD (cl "count_in") [(.int 200)] (fCons (fVar 0) fNil))) sNil) sNil) (sSeq (sAsg (fCallD (cl "count_in") [(.int 200)] (fCons (fSlice (fVar 0) (some (fC (.int 1))) none) fNil)) (tName 1)) (sSeq (sRet (fIf (fOrT (fBool (fOp (opIs false) (fVar 1) (fC .non))) (fBool (fOp opEq (fVar 1) (fC (.int 0))))) (fC .non) (fUn opNeg (fVar 1)))) sNil)))
noncomputable def e_integer_in : En := ⟨S "integer_in", [(S "word")], [(S "word"), (S "count")], argsAt pw 22, bodyAt pw 22, scAt pw 22, d_integer_in, []⟩
theorem ok_integer_in : EnOk T e_integer_in where
  made := fun cl => by kernel_rfl
  sc := fnSc_of (by kernel_rfl)
  bind := fun _ _ _ _ _ _ _ us hl => match us, hl with | [_], _ => by kernel_rfl
  bindD := fun h => absurd rfl h
  kw := fun n ks h => absurd h (kw_none (by decide +kernel))
noncomputable def d_is_fraction (cl : Str → Cl) : DenS := (sSeq (fIf (fNotT (fTest (fCall (cl "is_tuple") (fCons (fVar 0) (fCons (fC (.int 2)) fNil))))) (sSeq (sRet (fC (.bl false))) sNil) sNil) (sSeq (sAsg (fVar 0) (tTup 2 (tCons (tName 1) (tCons (tName 2) tNil)))) (sSeq (sRet (fAnd (fCall (cl "is_integer") (fCons (fVar 1) fNil)) (fAnd (fCall (cl "is_integer") (fCons (fVar 2) fNil)) (fAnd (fOp opGt (fVar 2) (fC (.int 0))) (fOp opEq (fB (b2 bGcd) (fCons (fVar 1) (fCons (fVar 2) fNil))) (fC (.int 1))))))) sNil)))
noncomputable def e_is_fraction : En := ⟨S "is_fraction", [(S "value")], [(S "value"), (S "top"), (S "bottom")], argsAt pw 24, bodyAt pw 24, scAt pw 24, d_is_fraction, []⟩
theorem ok_is_fraction : EnOk T e_is_fraction where
  made := fun cl => by kernel_rfl
  sc := fnSc_of (by kernel_rfl)
  bind := fun _ _ _ _ _ _ _ us hl => match us, hl with | [_], _ => by kernel_rfl
  bindD := fun h => absurd rfl h
  kw := fun n ks h => by
    have h2 := kw_of (l := [(0, [(S "value")])]) (by decide +kernel) h
    rcases List.mem_cons.mp h2 with h3 | h2
    · cases h3
      exact fun _ _ _ _ _ _ us ws h4 h5 => match us, ws, h4, h5 with | [], [_], _, _ => by kernel_rfl
    · cases h2
noncomputable def d_is_writable (cl : Str → Cl) : DenS := (sSeq (sRet (fAnd (fCall (cl "is_fraction") (fCons (fVar 0) fNil)) (fAnd (fCall (cl "is_short") (fCons (fOp opIdx (fVar 0) (fC (.int 0))) fNil)) (fCall (cl "is_short") (fCons (fOp opIdx (fVar 0) (fC (.int 1))) fNil))))) sNil)
noncomputable def e_is_writable : En := ⟨S "is_writable", [(S "value")], [(S "value")], argsAt pw 25, bodyAt pw 25, scAt pw 25, d_is_writable, []⟩
theorem ok_is_writable : EnOk T e_is_writable where
  made := fun cl => by kernel_rfl
  sc := fnSc_of (by kernel_rfl)
  bind := fun _ _ _ _ _ _ _ us hl => match us, hl with | [_], _ => by kernel_rfl
  bindD := fun h => absurd rfl h
  kw := fun n ks h => absurd h (kw_none (by decide +kernel))
noncomputable def d_check_fractions (cl : Str → Cl) : DenS := (sSeq (fIf (fNotT (fTest (fCall (cl "is_fraction") (fCons (fVar 0) fNil)))) (sSeq (sRaise "InvalidFraction" "given" (fVar 0)) sNil) sNil) (sSeq (fIf (fNotT (fTest (fCall (cl "is_fraction") (fCons (fVar 1) fNil)))) (sSeq (sRaise "InvalidFraction" "given" (fVar 1)) sNil) sNil) sNil))
noncomputable def e_check_fractions : En := ⟨S "check_fractions", [(S "one"), (S "other")], [(S "one"), (S "other")], argsAt pw 26, bodyAt pw 26, scAt pw 26, d_check_fractions, []⟩
theorem ok_check_fractions : EnOk T e_check_fractions where
  made := fun cl => by kernel_rfl
  sc := fnSc_of (by kernel_rfl)
  bind := fun _ _ _ _ _ _ _ us hl => match us, hl with | [_, _], _ => by kernel_rfl
  bindD := fun h => absurd rfl h
  kw := fun n ks h => absurd h (kw_none (by decide +kernel))
noncomputable def d_fraction (cl : Str → Cl) : DenS := (sSeq (fIf (fNotT (fTest (fCall (cl "is_integer") (fCons (fVar 0) fNil)))) (sSeq (sRaise "InvalidNumber" "given" (fVar 0)) sNil) sNil) (sSeq (fIf (fOrT (fNotT (fTest (fCall (cl "is_integer") (fCons (fVar 1) fNil)))) (fBool (fOp opEq (fVar 1) (fC (.int 0))))) (sSeq (sRaise "InvalidNumber" "given" (fVar 1)) sNil) sNil) (sSeq (sRet (fCall (cl "lowest") (fCons (fVar 0) (fCons (fVar 1) fNil)))) sNil)))
noncomputable def e_fraction : En := ⟨S "fraction", [(S "top"), (S "bottom")], [(S "top"), (S "bottom")], argsAt pw 27, bodyAt pw 27, scAt pw 27, d_fraction, []⟩
theorem ok_fraction : EnOk T e_fraction where
  made := fun cl => by kernel_rfl
  sc := fnSc_of (by kernel_rfl)
  bind := fun _ _ _ _ _ _ _ us hl => match us, hl with | [_, _], _ => by kernel_rfl
  bindD := fun h => absurd rfl h
  kw := fun n ks h => by
    have h2 := kw_of (l := [(0, [(S "top"), (S "bottom")])]) (by decide +kernel) h
    rcases List.mem_cons.mp h2 with h3 | h2
    · cases h3
      exact fun _ _ _ _ _ _ us ws h4 h5 => match us, ws, h4, h5 with | [], [_, _], _, _ => by kernel_rfl
    · cases h2
noncomputable def d_plus (cl : Str → Cl) : DenS := (sSeq (sExpr (fCall (cl "check_fractions") (fCons (fVar 0) (fCons (fVar 1) fNil)))) (sSeq (sRet (fCall (cl "added") (fCons (fVar 0) (fCons (fVar 1) fNil)))) sNil))
noncomputable def e_plus : En := ⟨S "plus", [(S "one"), (S "other")], [(S "one"), (S "other")], argsAt pw 28, bodyAt pw 28, scAt pw 28, d_plus, []⟩
theorem ok_plus : EnOk T e_plus where
  made := fun cl => by kernel_rfl
  sc := fnSc_of (by kernel_rfl)
  bind := fun _ _ _ _ _ _ _ us hl => match us, hl with | [_, _], _ => by kernel_rfl
  bindD := fun h => absurd rfl h
  kw := fun n ks h => by
    have h2 := kw_of (l := [(0, [(S "one"), (S "other")])]) (by decide +kernel) h
    rcases List.mem_cons.mp h2 with h3 | h2
    · cases h3
      exact fun _ _ _ _ _ _ us ws h4 h5 => match us, ws, h4, h5 with | [], [_, _], _, _ => by kernel_rfl
    · cases h2
noncomputable def d_minus (cl : Str → Cl) : DenS := (sSeq (sExpr (fCall (cl "check_fractions") (fCons (fVar 0) (fCons (fVar 1) fNil)))) (sSeq (sRet (fCall (cl "lessened") (fCons (fVar 0) (fCons (fVar 1) fNil)))) sNil))
noncomputable def e_minus : En := ⟨S "minus", [(S "one"), (S "other")], [(S "one"), (S "other")], argsAt pw 29, bodyAt pw 29, scAt pw 29, d_minus, []⟩
theorem ok_minus : EnOk T e_minus where
  made := fun cl => by kernel_rfl
  sc := fnSc_of (by kernel_rfl)
  bind := fun _ _ _ _ _ _ _ us hl => match us, hl with | [_, _], _ => by kernel_rfl
  bindD := fun h => absurd rfl h
  kw := fun n ks h => by
    have h2 := kw_of (l := [(0, [(S "one"), (S "other")])]) (by decide +kernel) h
    rcases List.mem_cons.mp h2 with h3 | h2
    · cases h3
      exact fun _ _ _ _ _ _ us ws h4 h5 => match us, ws, h4, h5 with | [], [_, _], _, _ => by kernel_rfl
    · cases h2
noncomputable def d_times (cl : Str → Cl) : DenS := (sSeq (sExpr (fCall (cl "check_fractions") (fCons (fVar 0) (fCons (fVar 1) fNil)))) (sSeq (sRet (fCall (cl "multiplied") (fCons (fVar 0) (fCons (fVar 1) fNil)))) sNil))
noncomputable def e_times : En := ⟨S "times", [(S "one"), (S "other")], [(S "one"), (S "other")], argsAt pw 30, bodyAt pw 30, scAt pw 30, d_times, []⟩
theorem ok_times : EnOk T e_times where
  made := fun cl => by kernel_rfl
  sc := fnSc_of (by kernel_rfl)
  bind := fun _ _ _ _ _ _ _ us hl => match us, hl with | [_, _], _ => by kernel_rfl
  bindD := fun h => absurd rfl h
  kw := fun n ks h => by
    have h2 := kw_of (l := [(0, [(S "other"), (S "one")])]) (by decide +kernel) h
    rcases List.mem_cons.mp h2 with h3 | h2
    · cases h3
      exact fun _ _ _ _ _ _ us ws h4 h5 => match us, ws, h4, h5 with | [], [_, _], _, _ => by kernel_rfl
    · cases h2
noncomputable def d_over (cl : Str → Cl) : DenS := (sSeq (sExpr (fCall (cl "check_fractions") (fCons (fVar 0) (fCons (fVar 1) fNil)))) (sSeq (fIf (fBool (fOp opEq (fVar 1) (fC c_ZERO))) (sSeq (sRaise "InvalidFraction" "given" (fVar 1)) sNil) sNil) (sSeq (sRet (fCall (cl "divided") (fCons (fVar 0) (fCons (fVar 1) fNil)))) sNil)))
noncomputable def e_over : En := ⟨S "over", [(S "one"), (S "other")], [(S "one"), (S "other")], argsAt pw 31, bodyAt pw 31, scAt pw 31, d_over, []⟩
theorem ok_over : EnOk T e_over where
  made := fun cl => by kernel_rfl
  sc := fnSc_of (by kernel_rfl)
  bind := fun _ _ _ _ _ _ _ us hl => match us, hl with | [_, _], _ => by kernel_rfl
  bindD := fun h => absurd rfl h
  kw := fun n ks h => by
    have h2 := kw_of (l := [(0, [(S "one"), (S "other")])]) (by decide +kernel) h
    rcases List.mem_cons.mp h2 with h3 | h2
    · cases h3
      exact fun _ _ _ _ _ _ us ws h4 h5 => match us, ws, h4, h5 with | [], [_, _], _, _ => by kernel_rfl
    · cases h2
noncomputable def d_below (cl : Str → Cl) : DenS := (sSeq (sExpr (fCall (cl "check_fractions") (fCons (fVar 0) (fCons (fVar 1) fNil)))) (sSeq (sRet (fCall (cl "is_less") (fCons (fVar 0) (fCons (fVar 1) fNil)))) sNil))
noncomputable def e_below : En := ⟨S "below", [(S "one"), (S "other")], [(S "one"), (S "other")], argsAt pw 32, bodyAt pw 32, scAt pw 32, d_below, []⟩
theorem ok_below : EnOk T e_below where
  made := fun cl => by kernel_rfl
  sc := fnSc_of (by kernel_rfl)
  bind := fun _ _ _ _ _ _ _ us hl => match us, hl with | [_, _], _ => by kernel_rfl
  bindD := fun h => absurd rfl h
  kw := fun n ks h => by
    have h2 := kw_of (l := [(0, [(S "one"), (S "other")])]) (by decide +kernel) h
    rcases List.mem_cons.mp h2 with h3 | h2
    · cases h3
      exact fun _ _ _ _ _ _ us ws h4 h5 => match us, ws, h4, h5 with | [], [_, _], _, _ => by kernel_rfl
    · cases h2
noncomputable def d_fraction_text (cl : Str → Cl) : DenS := (sSeq (sAsg (fVar 0) (tTup 2 (tCons (tName 1) (tCons (tName 2) tNil)))) (sSeq (sRet (fIf (fBool (fOp opEq (fVar 2) (fC (.int 1)))) (fB (b1 bStr) (fCons (fVar 1) fNil)) (fJs [(fFmt (fVar 1)), (fC (.str "/")), (fFmt (fVar 2))] Str.empty))) sNil))
noncomputable def e_fraction_text : En := ⟨S "fraction_text", [(S "value")], [(S "value"), (S "top"), (S "bottom")], argsAt pw 33, bodyAt pw 33, scAt pw 33, d_fraction_text, []⟩
theorem ok_fraction_text : EnOk T e_fraction_text where
  made := fun cl => by kernel_rfl
  sc := fnSc_of (by kernel_rfl)
  bind := fun _ _ _ _ _ _ _ us hl => match us, hl with | [_], _ => by kernel_rfl
  bindD := fun h => absurd rfl h
  kw := fun n ks h => absurd h (kw_none (by decide +kernel))
noncomputable def d_fraction_in (cl : Str → Cl) : DenS := (sSeq (sAsg (fM "str" mPartition (fVar 0) (fCons (fC (.str "/")) fNil)) (tTup 3 (tCons (tName 1) (tCons (tName 2) (tCons (tName 3) tNil))))) (sSeq (sAsg (fCall (cl "integer_in") (fCons (fVar 1) fNil)) (tName 4)) (sSeq (fIf (fOrT (fBool (fOp (opIs false) (fVar 4) (fC .non))) (fBool (fOp opEq (fVar 2) (fC (.str ""))))) (sSeq (sRet (fIf (fBool (fOp (opIs false) (fVar 4) (fC .non))) (fC .non) (fTup (fCons (fVar 4) (fCons (fC (.int 1)) fNil))))) sNil) sNil) (sSeq (sAsg (fCallD (cl "count_in") [(.int 200)] (fCons (fVar 3) fNil)) (tName 5)) (sSeq (fIf (fOrT (fBool (fOp (opIs false) (fVar 5) (fC .non))) (fOrT (fBool (fOp opLt (fVar 5) (fC (.int 2)))) (fBool (fOp opNe (fB (b2 bGcd) (fCons (fVar 4) (fCons (fVar 5) fNil))) (fC (.int 1)))))) (sSeq (sRet (fC .non)) sNil) sNil) (sSeq (sRet (fTup (fCons (fVar 4) (fCons (fVar 5) fNil)))) sNil))))))
noncomputable def e_fraction_in : En := ⟨S "fraction_in", [(S "text")], [(S "text"), (S "word"), (S "sign"), (S "behind"), (S "top"), (S "bottom")], argsAt pw 34, bodyAt pw 34, scAt pw 34, d_fraction_in, []⟩
theorem ok_fraction_in : EnOk T e_fraction_in where
  made := fun cl => by kernel_rfl
  sc := fnSc_of (by kernel_rfl)
  bind := fun _ _ _ _ _ _ _ us hl => match us, hl with | [_], _ => by kernel_rfl
  bindD := fun h => absurd rfl h
  kw := fun n ks h => absurd h (kw_none (by decide +kernel))
noncomputable def d_write_fraction (cl : Str → Cl) : DenS := (sSeq (fIf (fNotT (fTest (fCall (cl "is_writable") (fCons (fVar 0) fNil)))) (sSeq (sRaise "InvalidFraction" "given" (fVar 0)) sNil) sNil) (sSeq (sRet (fCall (cl "fraction_text") (fCons (fVar 0) fNil))) sNil))
noncomputable def e_write_fraction : En := ⟨S "write_fraction", [(S "value")], [(S "value")], argsAt pw 35, bodyAt pw 35, scAt pw 35, d_write_fraction, []⟩
theorem ok_write_fraction : EnOk T e_write_fraction where
  made := fun cl => by kernel_rfl
  sc := fnSc_of (by kernel_rfl)
  bind := fun _ _ _ _ _ _ _ us hl => match us, hl with | [_], _ => by kernel_rfl
  bindD := fun h => absurd rfl h
  kw := fun n ks h => by
    have h2 := kw_of (l := [(0, [(S "value")])]) (by decide +kernel) h
    rcases List.mem_cons.mp h2 with h3 | h2
    · cases h3
      exact fun _ _ _ _ _ _ us ws h4 h5 => match us, ws, h4, h5 with | [], [_], _, _ => by kernel_rfl
    · cases h2
noncomputable def d_read_fraction (cl : Str → Cl) : DenS := (sSeq (sAsg (fIf (fTest (fIsi (ansB T "str") (fVar 0))) (fCall (cl "fraction_in") (fCons (fVar 0) fNil)) (fC .non)) (tName 1)) (sSeq (fIf (fBool (fOp (opIs false) (fVar 1) (fC .non))) (sSeq (sRaise "InvalidText" "given" (fVar 0)) sNil) sNil) (sSeq (sRet (fVar 1)) sNil)))
noncomputable def e_read_fraction : En := ⟨S "read_fraction", [(S "text")], [(S "text"), (S "found")], argsAt pw 36, bodyAt pw 36, scAt pw 36, d_read_fraction, []⟩
theorem ok_read_fraction : EnOk T e_read_fraction where
  made := fun cl => by kernel_rfl
  sc := fnSc_of (by kernel_rfl)
  bind := fun _ _ _ _ _ _ _ us hl => match us, hl with | [_], _ => by kernel_rfl
  bindD := fun h => absurd rfl h
  kw := fun n ks h => by
    have h2 := kw_of (l := [(0, [(S "text")])]) (by decide +kernel) h
    rcases List.mem_cons.mp h2 with h3 | h2
    · cases h3
      exact fun _ _ _ _ _ _ us ws h4 h5 => match us, ws, h4, h5 with | [], [_], _, _ => by kernel_rfl
    · cases h2
noncomputable def d__law_cell (cl : Str → Cl) : DenS := (sSeq (sRet (fIf (fBool (fOp opLt (fVar 1) (fB (b1 bLen) (fCons (fVar 0) fNil)))) (fOp opIdx (fVar 0) (fVar 1)) (fOp opAdd (fOp opMul (fC (.int 7919)) (fVar 1)) (fOp opMod (fB (b1 bInt) (fCons (fB (b1 (bNums sumF)) (fCons (fSlice (fVar 0) none (some (fC (.int 1)))) fNil)) fNil)) (fC (.int 1000003)))))) sNil)
noncomputable def e__law_cell : En := ⟨S "_law_cell", [(S "script"), (S "k")], [(S "script"), (S "k")], argsAt pw 38, bodyAt pw 38, scAt pw 38, d__law_cell, []⟩
theorem ok__law_cell : EnOk T e__law_cell where
  made := fun cl => by kernel_rfl
  sc := fnSc_of (by kernel_rfl)
  bind := fun _ _ _ _ _ _ _ us hl => match us, hl with | [_, _], _ => by kernel_rfl
  bindD := fun h => absurd rfl h
  kw := fun n ks h => absurd h (kw_none (by decide +kernel))
noncomputable def d__law_box (cl : Str → Cl) : DenS := (sSeq (sRet (fLst (fCons (fB (b1 bAbs) (fCons (fVar 0) fNil)) (fCons (fOp opGe (fB (b1 bAbs) (fCons (fVar 0) fNil)) (fOp opPow (fC (.int 10)) (fC (.int 18)))) (fCons (fOp opMod (fB (b1 bInt) (fCons (fB (b1 bAbs) (fCons (fVar 0) fNil)) fNil)) (fC (.int 2147483629))) (fCons (fC (.int 0)) fNil)))))) sNil)
noncomputable def e__law_box : En := ⟨S "_law_box", [(S "great")], [(S "great")], argsAt pw 39, bodyAt pw 39, scAt pw 39, d__law_box, []⟩
theorem ok__law_box : EnOk T e__law_box where
  made := fun cl => by kernel_rfl
  sc := fnSc_of (by kernel_rfl)
  bind := fun _ _ _ _ _ _ _ us hl => match us, hl with | [_], _ => by kernel_rfl
  bindD := fun h => absurd rfl h
  kw := fun n ks h => absurd h (kw_none (by decide +kernel))
noncomputable def d__law_take (cl : Str → Cl) : DenS := (sSeq (fIf (fAndT (fTest (fOp opIdx (fVar 0) (fC (.int 1)))) (fBool (fOp opGt (fOp opIdx (fVar 0) (fC (.int 0))) (fC (.int 0))))) (sSeq (sAsg (fOp opMod (fB (b1 bInt) (fCons (fOp opIdx (fVar 0) (fC (.int 0))) fNil)) (fVar 1)) (tName 2)) (sSeq (sAsg (fOp opFdiv (fOp opIdx (fVar 0) (fC (.int 0))) (fVar 1)) (tSub (fVar 0) (fC (.int 0)) setIdx)) (sSeq (sRet (fVar 2)) sNil))) sNil) (sSeq (sAsg (fOp opAdd (fOp opIdx (fVar 0) (fC (.int 3))) (fC (.int 1))) (tSub (fVar 0) (fC (.int 3)) setIdx)) (sSeq (sAsg (fOp opMod (fB (b1 bInt) (fCons (fOp opPow (fOp opAdd (fOp opAdd (fOp opIdx (fVar 0) (fC (.int 2))) (fOp opMul (fC (.int 15485917)) (fOp opIdx (fVar 0) (fC (.int 3))))) (fC (.int 179425093))) (fC (.int 5))) fNil)) (fC (.int 2147483647))) (tName 3)) (sSeq (sRet (fOp opMod (fB (b1 bInt) (fCons (fOp opFdiv (fOp opMod (fB (b1 bInt) (fCons (fOp opPow (fOp opAdd (fOp opMul (fVar 3) (fC (.int 48271))) (fOp opMul (fC (.int 7927)) (fOp opIdx (fVar 0) (fC (.int 3))))) (fC (.int 3))) fNil)) (fC (.int 2147483587))) (fC (.int 64))) fNil)) (fVar 1))) sNil))))
noncomputable def e__law_take : En := ⟨S "_law_take", [(S "box"), (S "many")], [(S "box"), (S "many"), (S "digit"), (S "mixed")], argsAt pw 40, bodyAt pw 40, scAt pw 40, d__law_take, []⟩
theorem ok__law_take : EnOk T e__law_take where
  made := fun cl => by kernel_rfl
  sc := fnSc_of (by kernel_rfl)
  bind := fun _ _ _ _ _ _ _ us hl => match us, hl with | [_, _], _ => by kernel_rfl
  bindD := fun h => absurd rfl h
  kw := fun n ks h => absurd h (kw_none (by decide +kernel))
noncomputable def d__law_same (cl : Str → Cl) : DenS := (sSeq (fIf (fOrT (fBool (fOp (opIs false) (fVar 1) (fC .non))) (fTest (fIsi (ansB T "bool") (fVar 1)))) (sSeq (sRet (fIf (fBool (fOp (opIs false) (fVar 1) (fC .non))) (fOp (opIs false) (fVar 0) (fC .non)) (fAnd (fIsi (ansB T "bool") (fVar 0)) (fOp opEq (fOp (opIs false) (fVar 0) (fC (.bl true))) (fOp (opIs false) (fVar 1) (fC (.bl true))))))) sNil) sNil) (sSeq (fIf (fTest (fIsi (ansB T "int") (fVar 1))) (sSeq (sRet (fAnd (fIsi (ansB T "int") (fVar 0)) (fAnd (fNot (fIsi (ansB T "bool") (fVar 0))) (fOp opEq (fOp opSub (fB (b1 bInt) (fCons (fVar 0) fNil)) (fVar 1)) (fC (.int 0)))))) sNil) sNil) (sSeq (fIf (fTest (fIsi (ansB T "str") (fVar 1))) (sSeq (sRet (fAnd (fIsi (ansB T "str") (fVar 0)) (fAnd (fOp opEq (fB (b1 bLen) (fCons (fVar 0) fNil)) (fB (b1 bLen) (fCons (fVar 1) fNil))) (fOp opEq (fLc (iRng rng1 (fCons (fB (b1 bLen) (fCons (fVar 1) fNil)) fNil)) (tName 2) (fBool (fOp opNe (fSlice (fVar 0) (some (fVar 2)) (some (fOp opAdd (fVar 2) (fC (.int 1))))) (fOp opIdx (fVar 1) (fVar 2)))) (fVar 2) [2]) (fLst fNil))))) sNil) sNil) (sSeq (fIf (fOrT (fBool (fOp opNe (fIsi (ansB T "list") (fVar 0)) (fIsi (ansB T "list") (fVar 1)))) (fBool (fOp opNe (fIsi (ansB T "tuple") (fVar 0)) (fIsi (ansB T "tuple") (fVar 1))))) (sSeq (sRet (fC (.bl false))) sNil) sNil) (sSeq (sRet (fAnd (fOp opEq (fB (b1 bLen) (fCons (fVar 0) fNil)) (fB (b1 bLen) (fCons (fVar 1) fNil))) (fOp opEq (fLc (iRng rng1 (fCons (fB (b1 bLen) (fCons (fVar 1) fNil)) fNil)) (tName 2) (fNotT (fTest (fCall (cl "_law_same") (fCons (fOp opIdx (fVar 0) (fVar 2)) (fCons (fOp opIdx (fVar 1) (fVar 2)) fNil))))) (fVar 2) [2]) (fLst fNil)))) sNil)))))
noncomputable def e__law_same : En := ⟨S "_law_same", [(S "told"), (S "due")], [(S "told"), (S "due"), (S "k")], argsAt pw 41, bodyAt pw 41, scAt pw 41, d__law_same, []⟩
theorem ok__law_same : EnOk T e__law_same where
  made := fun cl => by kernel_rfl
  sc := fnSc_of (by kernel_rfl)
  bind := fun _ _ _ _ _ _ _ us hl => match us, hl with | [_, _], _ => by kernel_rfl
  bindD := fun h => absurd rfl h
  kw := fun n ks h => absurd h (kw_none (by decide +kernel))
noncomputable def d__law_shared (cl : Str → Cl) : DenS := (sSeq (sPar2 0 1 (fCons (fB (b1 bAbs) (fCons (fVar 0) fNil)) (fCons (fB (b1 bAbs) (fCons (fVar 1) fNil)) fNil))) (sSeq (sWhile (fBool (fOp opGt (fVar 1) (fC (.int 0)))) (sSeq (sPar2 0 1 (fCons (fVar 1) (fCons (fOp opMod (fB (b1 bInt) (fCons (fVar 0) fNil)) (fVar 1)) fNil))) sNil)) (sSeq (sRet (fVar 0)) sNil)))
noncomputable def e__law_shared : En := ⟨S "_law_shared", [(S "one"), (S "other")], [(S "one"), (S "other")], argsAt pw 42, bodyAt pw 42, scAt pw 42, d__law_shared, []⟩
theorem ok__law_shared : EnOk T e__law_shared where
  made := fun cl => by kernel_rfl
  sc := fnSc_of (by kernel_rfl)
  bind := fun _ _ _ _ _ _ _ us hl => match us, hl with | [_, _], _ => by kernel_rfl
  bindD := fun h => absurd rfl h
  kw := fun n ks h => absurd h (kw_none (by decide +kernel))
noncomputable def d__law_frac (cl : Str → Cl) : DenS := (sSeq (sAsg (fIf (fBool (fOp opGt (fVar 1) (fC (.int 0)))) (fCall (cl "_law_shared") (fCons (fVar 0) (fCons (fVar 1) fNil))) (fOp opSub (fC (.int 0)) (fCall (cl "_law_shared") (fCons (fVar 0) (fCons (fVar 1) fNil))))) (tName 2)) (sSeq (sRet (fTup (fCons (fOp opFdiv (fVar 0) (fVar 2)) (fCons (fOp opFdiv (fVar 1) (fVar 2)) fNil)))) sNil))
noncomputable def e__law_frac : En := ⟨S "_law_frac", [(S "top"), (S "bottom")], [(S "top"), (S "bottom"), (S "shared")], argsAt pw 43, bodyAt pw 43, scAt pw 43, d__law_frac, []⟩
theorem ok__law_frac : EnOk T e__law_frac where
  made := fun cl => by kernel_rfl
  sc := fnSc_of (by kernel_rfl)
  bind := fun _ _ _ _ _ _ _ us hl => match us, hl with | [_, _], _ => by kernel_rfl
  bindD := fun h => absurd rfl h
  kw := fun n ks h => absurd h (kw_none (by decide +kernel))
noncomputable def d__law_whole (cl : Str → Cl) : DenS := (sSeq (sPar3 1 2 3 (fCons (fCall (cl "_law_take") (fCons (fVar 0) (fCons (fC (.int 8)) fNil))) (fCons (fOp opSub (fC (.int 1)) (fOp opMul (fC (.int 2)) (fCall (cl "_law_take") (fCons (fVar 0) (fCons (fC (.int 2)) fNil))))) (fCons (fC (.int 0)) fNil)))) (sSeq (fIf (fBool (fOp opGt (fVar 1) (fC (.int 5)))) (sSeq (sFor (iRng rng1 (fCons (fC (.int 7)) fNil)) (tName 4) (sSeq (sAsg (fOp opMod (fB (b1 bInt) (fCons (fOp opAdd (fOp opMul (fVar 3) (fC (.int 1000003))) (fCall (cl "_law_take") (fCons (fVar 0) (fCons (fC (.int 1000003)) fNil)))) fNil)) (fOp opPow (fC (.int 10)) (fC (.int 40)))) (tName 3)) sNil)) (sSeq (sRet (fIf (fBool (fOp opEq (fVar 1) (fC (.int 6)))) (fOp opMul (fVar 2) (fVar 3)) (fOp opMul (fVar 2) (fOp opSub (fOp opSub (fOp opPow (fC (.int 10)) (fC (.int 40))) (fC (.int 1))) (fOp opMod (fB (b1 bInt) (fCons (fVar 3) fNil)) (fC (.int 1000))))))) sNil)) sNil) (sSeq (fIf (fBool (fOp opEq (fVar 1) (fC (.int 5)))) (sSeq (sRet (fOp opMul (fVar 2) (fCall (cl "_law_take") (fCons (fVar 0) (fCons (fC (.int 1000003)) fNil))))) sNil) sNil) (sSeq (sRet (fOp opMul (fVar 2) (fOp opIdx (fLst (fCons (fCall (cl "_law_take") (fCons (fVar 0) (fCons (fC (.int 3)) fNil))) (fCons (fOp opAdd (fC (.int 1)) (fCall (cl "_law_take") (fCons (fVar 0) (fCons (fC (.int 9)) fNil)))) (fCons (fCall (cl "_law_take") (fCons (fVar 0) (fCons (fC (.int 13)) fNil))) (fCons (fOp opMul (fC (.int 12)) (fCall (cl "_law_take") (fCons (fVar 0) (fCons (fC (.int 9)) fNil)))) (fCons (fC (.int 0)) fNil)))))) (fVar 1)))) sNil))))
noncomputable def e__law_whole : En := ⟨S "_law_whole", [(S "box")], [(S "box"), (S "way"), (S "sign"), (S "found"), (S "k")], argsAt pw 44, bodyAt pw 44, scAt pw 44, d__law_whole, []⟩
theorem ok__law_whole : EnOk T e__law_whole where
  made := fun cl => by kernel_rfl
  sc := fnSc_of (by kernel_rfl)
  bind := fun _ _ _ _ _ _ _ us hl => match us, hl with | [_], _ => by kernel_rfl
  bindD := fun h => absurd rfl h
  kw := fun n ks h => absurd h (kw_none (by decide +kernel))
noncomputable def d__law_bottom (cl : Str → Cl) : DenS := (sSeq (sAsg (fCall (cl "_law_whole") (fCons (fVar 0) fNil)) (tName 1)) (sSeq (sRet (fIf (fBool (fOp opNe (fVar 1) (fC (.int 0)))) (fVar 1) (fOp opAdd (fC (.int 1)) (fCall (cl "_law_take") (fCons (fVar 0) (fCons (fC (.int 9)) fNil)))))) sNil))
noncomputable def e__law_bottom : En := ⟨S "_law_bottom", [(S "box")], [(S "box"), (S "found")], argsAt pw 45, bodyAt pw 45, scAt pw 45, d__law_bottom, []⟩
theorem ok__law_bottom : EnOk T e__law_bottom where
  made := fun cl => by kernel_rfl
  sc := fnSc_of (by kernel_rfl)
  bind := fun _ _ _ _ _ _ _ us hl => match us, hl with | [_], _ => by kernel_rfl
  bindD := fun h => absurd rfl h
  kw := fun n ks h => absurd h (kw_none (by decide +kernel))
noncomputable def d__law_pair (cl : Str → Cl) : DenS := (sSeq (sAsg (fCall (cl "_law_take") (fCons (fVar 0) (fCons (fC (.int 6)) fNil))) (tName 1)) (sSeq (sPar2 2 3 (fCons (fCall (cl "_law_frac") (fCons (fCall (cl "_law_whole") (fCons (fVar 0) fNil)) (fCons (fCall (cl "_law_bottom") (fCons (fVar 0) fNil)) fNil))) (fCons (fCall (cl "_law_frac") (fCons (fCall (cl "_law_whole") (fCons (fVar 0) fNil)) (fCons (fCall (cl "_law_bottom") (fCons (fVar 0) fNil)) fNil))) fNil))) (sSeq (fIf (fBool (fOp opEq (fVar 1) (fC (.int 0)))) (sSeq (sRet (fLst (fCons (fVar 2) (fCons (fVar 2) fNil)))) sNil) sNil) (sSeq (fIf (fBool (fOp opEq (fVar 1) (fC (.int 1)))) (sSeq (sRet (fLst (fCons (fVar 2) (fCons (fTup (fCons (fOp opSub (fC (.int 0)) (fOp opIdx (fVar 2) (fC (.int 0)))) (fCons (fOp opIdx (fVar 2) (fC (.int 1))) fNil))) fNil)))) sNil) sNil) (sSeq (fIf (fBool (fOp opEq (fVar 1) (fC (.int 2)))) (sSeq (sRet (fLst (fCons (fVar 2) (fCons (fCall (cl "_law_frac") (fCons (fIf (fBool (fOp opLt (fB (b1 bAbs) (fCons (fOp opIdx (fVar 2) (fC (.int 0))) fNil)) (fOp opPow (fC (.int 10)) (fC (.int 39))))) (fOp opAdd (fOp opIdx (fVar 2) (fC (.int 0))) (fOp opIdx (fLst (fCons (fC (.int 1)) (fCons (fUn opNeg (fC (.int 1))) fNil))) (fCall (cl "_law_take") (fCons (fVar 0) (fCons (fC (.int 2)) fNil))))) (fC (.int 0))) (fCons (fOp opIdx (fVar 2) (fC (.int 1))) fNil))) fNil)))) sNil) sNil) (sSeq (fIf (fBool (fOp opEq (fVar 1) (fC (.int 3)))) (sSeq (sRet (fOp opIdx (fLst (fCons (fLst (fCons (fTup (fCons (fC (.int 0)) (fCons (fC (.int 1)) fNil))) (fCons (fVar 2) fNil))) (fCons (fLst (fCons (fVar 2) (fCons (fTup (fCons (fC (.int 0)) (fCons (fC (.int 1)) fNil))) fNil))) (fCons (fLst (fCons (fVar 2) (fCons (fTup (fCons (fC (.int 1)) (fCons (fC (.int 1)) fNil))) fNil))) (fCons (fLst (fCons (fTup (fCons (fUn opNeg (fC (.int 1))) (fCons (fC (.int 1)) fNil))) (fCons (fVar 2) fNil))) fNil))))) (fCall (cl "_law_take") (fCons (fVar 0) (fCons (fC (.int 4)) fNil))))) sNil) sNil) (sSeq (sRet (fLst (fCons (fVar 2) (fCons (fVar 3) fNil)))) sNil)))))))
noncomputable def e__law_pair : En := ⟨S "_law_pair", [(S "box")], [(S "box"), (S "way"), (S "one"), (S "other")], argsAt pw 46, bodyAt pw 46, scAt pw 46, d__law_pair, []⟩
theorem ok__law_pair : EnOk T e__law_pair where
  made := fun cl => by kernel_rfl
  sc := fnSc_of (by kernel_rfl)
  bind := fun _ _ _ _ _ _ _ us hl => match us, hl with | [_], _ => by kernel_rfl
  bindD := fun h => absurd rfl h
  kw := fun n ks h => absurd h (kw_none (by decide +kernel))
noncomputable def d__law_due (cl : Str → Cl) : DenS := (sSeq (sAsg (fVar 0) (tTup 2 (tCons (tName 2) (tCons (tName 3) tNil)))) (sSeq (sAsg (fVar 1) (tTup 2 (tCons (tName 4) (tCons (tName 5) tNil)))) (sSeq (sAsg (fIf (fBool (fOp opEq (fVar 4) (fC (.int 0)))) (fC .non) (fCall (cl "_law_frac") (fCons (fOp opMul (fVar 2) (fVar 5)) (fCons (fOp opMul (fVar 3) (fVar 4)) fNil)))) (tName 6)) (sSeq (sRet (fLst (fCons (fCall (cl "_law_frac") (fCons (fOp opAdd (fOp opMul (fVar 2) (fVar 5)) (fOp opMul (fVar 4) (fVar 3))) (fCons (fOp opMul (fVar 3) (fVar 5)) fNil))) (fCons (fCall (cl "_law_frac") (fCons (fOp opSub (fOp opMul (fVar 2) (fVar 5)) (fOp opMul (fVar 4) (fVar 3))) (fCons (fOp opMul (fVar 3) (fVar 5)) fNil))) (fCons (fCall (cl "_law_frac") (fCons (fOp opMul (fVar 2) (fVar 4)) (fCons (fOp opMul (fVar 3) (fVar 5)) fNil))) (fCons (fVar 6) (fCons (fOp opLt (fOp opMul (fVar 2) (fVar 5)) (fOp opMul (fVar 4) (fVar 3))) fNil))))))) sNil))))
noncomputable def e__law_due : En := ⟨S "_law_due", [(S "one"), (S "other")], [(S "one"), (S "other"), (S "a"), (S "b"), (S "c"), (S "d"), (S "quotient")], argsAt pw 47, bodyAt pw 47, scAt pw 47, d__law_due, []⟩
theorem ok__law_due : EnOk T e__law_due where
  made := fun cl => by kernel_rfl
  sc := fnSc_of (by kernel_rfl)
  bind := fun _ _ _ _ _ _ _ us hl => match us, hl with | [_, _], _ => by kernel_rfl
  bindD := fun h => absurd rfl h
  kw := fun n ks h => absurd h (kw_none (by decide +kernel))
noncomputable def d__law_told (cl : Str → Cl) : DenS := (sSeq (fIf (fTest (fVar 2)) (sSeq (sAsg (fIf (fBool (fOp opEq (fOp opIdx (fVar 1) (fC (.int 0))) (fC (.int 0)))) (fC .non) (fCallK (cl "over") ["one", "other"] ["one", "other"] fNil (fCons (fVar 0) (fCons (fVar 1) fNil)))) (tName 3)) (sSeq (sAsg (fLst (fCons (fCallK (cl "plus") ["one", "other"] ["one", "other"] fNil (fCons (fVar 0) (fCons (fVar 1) fNil))) (fCons (fCallK (cl "minus") ["one", "other"] ["one", "other"] fNil (fCons (fVar 0) (fCons (fVar 1) fNil))) (fCons (fCallK (cl "times") ["one", "other"] ["other", "one"] fNil (fCons (fVar 1) (fCons (fVar 0) fNil))) fNil)))) (tName 4)) (sSeq (sRet (fOp opAdd (fVar 4) (fLst (fCons (fVar 3) (fCons (fCallK (cl "below") ["one", "other"] ["one", "other"] fNil (fCons (fVar 0) (fCons (fVar 1) fNil))) fNil))))) sNil))) sNil) (sSeq (sAsg (fIf (fBool (fOp opEq (fOp opIdx (fVar 1) (fC (.int 0))) (fC (.int 0)))) (fC .non) (fCall (cl "over") (fCons (fVar 0) (fCons (fVar 1) fNil)))) (tName 3)) (sSeq (sRet (fLst (fCons (fCall (cl "plus") (fCons (fVar 0) (fCons (fVar 1) fNil))) (fCons (fCall (cl "minus") (fCons (fVar 0) (fCons (fVar 1) fNil))) (fCons (fCall (cl "times") (fCons (fVar 0) (fCons (fVar 1) fNil))) (fCons (fVar 3) (fCons (fCall (cl "below") (fCons (fVar 0) (fCons (fVar 1) fNil))) fNil))))))) sNil)))
noncomputable def e__law_told : En := ⟨S "_law_told", [(S "one"), (S "other"), (S "by_name")], [(S "one"), (S "other"), (S "by_name"), (S "quotient"), (S "told")], argsAt pw 48, bodyAt pw 48, scAt pw 48, d__law_told, []⟩
theorem ok__law_told : EnOk T e__law_told where
  made := fun cl => by kernel_rfl
  sc := fnSc_of (by kernel_rfl)
  bind := fun _ _ _ _ _ _ _ us hl => match us, hl with | [_, _, _], _ => by kernel_rfl
  bindD := fun h => absurd rfl h
  kw := fun n ks h => absurd h (kw_none (by decide +kernel))
noncomputable def d__law_is_due (cl : Str → Cl) : DenS := (sSeq (fIf (fOrT (fNotT (fTest (fIsi (ansB T "tuple") (fVar 0)))) (fBool (fOp opNe (fB (b1 bLen) (fCons (fVar 0) fNil)) (fC (.int 2))))) (sSeq (sRet (fC (.bl false))) sNil) sNil) (sSeq (sAsg (fVar 0) (tTup 2 (tCons (tName 1) (tCons (tName 2) tNil)))) (sSeq (fIf (fOrT (fNotT (fTest (fIsi (ansB T "int") (fVar 1)))) (fOrT (fNotT (fTest (fIsi (ansB T "int") (fVar 2)))) (fOrT (fTest (fIsi (ansB T "bool") (fVar 1))) (fTest (fIsi (ansB T "bool") (fVar 2)))))) (sSeq (sRet (fC (.bl false))) sNil) sNil) (sSeq (sRet (fAnd (fOp opGt (fVar 2) (fC (.int 0))) (fOp opEq (fCall (cl "_law_shared") (fCons (fVar 1) (fCons (fVar 2) fNil))) (fC (.int 1))))) sNil))))
noncomputable def e__law_is_due : En := ⟨S "_law_is_due", [(S "value")], [(S "value"), (S "top"), (S "bottom")], argsAt pw 49, bodyAt pw 49, scAt pw 49, d__law_is_due, []⟩
theorem ok__law_is_due : EnOk T e__law_is_due where
  made := fun cl => by kernel_rfl
  sc := fnSc_of (by kernel_rfl)
  bind := fun _ _ _ _ _ _ _ us hl => match us, hl with | [_], _ => by kernel_rfl
  bindD := fun h => absurd rfl h
  kw := fun n ks h => absurd h (kw_none (by decide +kernel))
noncomputable def d__law_near (cl : Str → Cl) : DenS := (sSeq (sAsg (fTup (fCons (fOp opAdd (fC (.int 2)) (fCall (cl "_law_take") (fCons (fVar 0) (fCons (fC (.int 9)) fNil)))) (fCons (fVar 1) fNil))) (tTup 2 (tCons (tName 2) (tCons (tTup 2 (tCons (tName 3) (tCons (tName 4) tNil))) tNil)))) (sSeq (fIf (fOrT (fBool (fOp opGe (fB (b1 bAbs) (fCons (fVar 3) fNil)) (fOp opPow (fC (.int 10)) (fC (.int 38))))) (fBool (fOp opGe (fVar 4) (fOp opPow (fC (.int 10)) (fC (.int 38)))))) (sSeq (sAsg (fCall (cl "_law_frac") (fCons (fOp opMod (fB (b1 bInt) (fCons (fVar 3) fNil)) (fOp opPow (fC (.int 10)) (fC (.int 19)))) (fCons (fOp opAdd (fC (.int 1)) (fOp opMod (fB (b1 bInt) (fCons (fVar 4) fNil)) (fOp opPow (fC (.int 10)) (fC (.int 38))))) fNil))) (tTup 2 (tCons (tName 3) (tCons (tName 4) tNil)))) sNil) sNil) (sSeq (sAsg (fLst (fCons (fTup (fCons (fOp opMul (fVar 3) (fVar 2)) (fCons (fOp opMul (fVar 4) (fVar 2)) fNil))) (fCons (fTup (fCons (fOp opSub (fC (.int 0)) (fVar 3)) (fCons (fOp opSub (fC (.int 0)) (fVar 4)) fNil))) (fCons (fLst (fCons (fVar 3) (fCons (fVar 4) fNil))) (fCons (fTup (fCons (fVar 3) fNil)) (fCons (fTup (fCons (fVar 3) (fCons (fVar 4) (fCons (fC (.int 1)) fNil)))) (fCons (fTup (fCons (fVar 3) (fCons (fC (.int 0)) fNil))) fNil))))))) (tName 5)) (sSeq (sAsg (fOp opAdd (fVar 5) (fLst (fCons (fTup (fCons (fVar 4) (fCons (fVar 3) fNil))) (fCons (fTup (fCons (fVar 3) (fCons (fB (b1 bStr) (fCons (fVar 4) fNil)) fNil))) (fCons (fTup (fCons (fC .non) (fCons (fVar 4) fNil))) (fCons (fTup (fCons (fTup (fCons (fVar 3) (fCons (fVar 4) fNil))) fNil)) (fCons (fVar 3) (fCons (fC .non) (fCons (fC (.str "1/2")) (fCons (fDict [((fVar 3), (fVar 4))]) fNil)))))))))) (tName 5)) (sSeq (sAsg (fOp opAdd (fVar 5) (fLst (fCons (fTup (fCons (fC (.bl true)) (fCons (fVar 4) fNil))) (fCons (fTup (fCons (fVar 3) (fCons (fC (.bl true)) fNil))) (fCons (fTup (fCons (fC (.bl false)) (fCons (fC (.int 1)) fNil))) (fCons (fTup (fCons (fC (.int 0)) (fCons (fVar 2) fNil))) (fCons (fTup (fCons (fC (.int 0)) (fCons (fC (.int 1)) fNil))) (fCons (fTup (fCons (fC (.int 1)) (fCons (fC (.int 0)) fNil))) (fCons (fTup (fCons (fVar 2) (fCons (fVar 2) fNil))) (fCons (fTup fNil) (fCons (fLst fNil) (fCons (fC (.bl true)) fNil)))))))))))) (tName 5)) (sSeq (sRet (fOp opAdd (fVar 5) (fLst (fCons (fTup (fCons (fOp opAdd (fVar 3) (fVar 4)) (fCons (fVar 4) fNil))) (fCons (fTup (fCons (fVar 3) (fCons (fOp opAdd (fVar 4) (fC (.int 1))) fNil))) (fCons (fTup (fCons (fC (.int 1)) (fCons (fVar 2) fNil))) (fCons (fTup (fCons (fTup (fCons (fVar 3) fNil)) (fCons (fVar 4) fNil))) (fCons (fTup (fCons (fC (.int 0)) (fCons (fC (.int 0)) fNil))) (fCons (fTup (fCons (fC (.int 0)) (fCons (fUn opNeg (fC (.int 1))) fNil))) fNil))))))))) sNil))))))
noncomputable def e__law_near : En := ⟨S "_law_near", [(S "box"), (S "one")], [(S "box"), (S "one"), (S "factor"), (S "top"), (S "bottom"), (S "found")], argsAt pw 50, bodyAt pw 50, scAt pw 50, d__law_near, []⟩
theorem ok__law_near : EnOk T e__law_near where
  made := fun cl => by kernel_rfl
  sc := fnSc_of (by kernel_rfl)
  bind := fun _ _ _ _ _ _ _ us hl => match us, hl with | [_, _], _ => by kernel_rfl
  bindD := fun h => absurd rfl h
  kw := fun n ks h => absurd h (kw_none (by decide +kernel))
noncomputable def d__law_shapes_right (cl : Str → Cl) : DenS := (sSeq (sAsg (fLc (iSeq (fCall (cl "_law_near") (fCons (fVar 0) (fCons (fVar 1) fNil)))) (tName 3) (fNotT (fTest (fCall (cl "_law_same") (fCons (fCall (cl "is_fraction") (fCons (fVar 3) fNil)) (fCons (fCall (cl "_law_is_due") (fCons (fVar 3) fNil)) fNil))))) (fVar 3) [3]) (tName 2)) (sSeq (sRet (fAnd (fOp opEq (fVar 2) (fLst fNil)) (fCall (cl "_law_same") (fCons (fCallK (cl "is_fraction") ["value"] ["value"] fNil (fCons (fVar 1) fNil)) (fCons (fC (.bl true)) fNil))))) sNil))
noncomputable def e__law_shapes_right : En := ⟨S "_law_shapes_right", [(S "box"), (S "one")], [(S "box"), (S "one"), (S "wrong"), (S "value")], argsAt pw 51, bodyAt pw 51, scAt pw 51, d__law_shapes_right, []⟩
theorem ok__law_shapes_right : EnOk T e__law_shapes_right where
  made := fun cl => by kernel_rfl
  sc := fnSc_of (by kernel_rfl)
  bind := fun _ _ _ _ _ _ _ us hl => match us, hl with | [_, _], _ => by kernel_rfl
  bindD := fun h => absurd rfl h
  kw := fun n ks h => absurd h (kw_none (by decide +kernel))
noncomputable def d__law_made_right (cl : Str → Cl) : DenS := (sSeq (sAsg (fOp opIdx (fLst (fCons (fC (.int 1)) (fCons (fUn opNeg (fC (.int 1))) (fCons (fC (.int 2)) (fCons (fUn opNeg (fC (.int 6))) (fCons (fC (.int 35)) (fCons (fUn opNeg (fC (.int 1001))) fNil))))))) (fCall (cl "_law_take") (fCons (fVar 0) (fCons (fC (.int 6)) fNil)))) (tName 3)) (sSeq (sPar2 4 5 (fCons (fOp opMul (fOp opIdx (fVar 1) (fC (.int 0))) (fVar 3)) (fCons (fOp opMul (fOp opIdx (fVar 1) (fC (.int 1))) (fVar 3)) fNil))) (sSeq (fIf (fOrT (fBool (fOp opGe (fB (b1 bAbs) (fCons (fVar 4) fNil)) (fOp opPow (fC (.int 10)) (fC (.int 40))))) (fBool (fOp opGe (fB (b1 bAbs) (fCons (fVar 5) fNil)) (fOp opPow (fC (.int 10)) (fC (.int 40)))))) (sSeq (sPar2 4 5 (fCons (fOp opSub (fC (.int 0)) (fOp opIdx (fVar 1) (fC (.int 0)))) (fCons (fOp opSub (fC (.int 0)) (fOp opIdx (fVar 1) (fC (.int 1)))) fNil))) sNil) sNil) (sSeq (sAsg (fIf (fTest (fVar 2)) (fCallK (cl "fraction") ["top", "bottom"] ["top", "bottom"] fNil (fCons (fVar 4) (fCons (fVar 5) fNil))) (fCall (cl "fraction") (fCons (fVar 4) (fCons (fVar 5) fNil)))) (tName 6)) (sSeq (sAsg (fLst (fCons (fCall (cl "fraction") (fCons (fC (.int 0)) (fCons (fVar 5) fNil))) (fCons (fCall (cl "fraction") (fCons (fVar 5) (fCons (fVar 5) fNil))) (fCons (fCall (cl "fraction") (fCons (fVar 4) (fCons (fOp opIdx (fLst (fCons (fC (.int 1)) (fCons (fUn opNeg (fC (.int 1))) fNil))) (fOp opMod (fB (b1 bInt) (fCons (fVar 4) fNil)) (fC (.int 2)))) fNil))) fNil)))) (tName 7)) (sSeq (sAsg (fLst (fCons (fTup (fCons (fC (.int 0)) (fCons (fC (.int 1)) fNil))) (fCons (fTup (fCons (fC (.int 1)) (fCons (fC (.int 1)) fNil))) (fCons (fTup (fCons (fOp opMul (fVar 4) (fOp opIdx (fLst (fCons (fC (.int 1)) (fCons (fUn opNeg (fC (.int 1))) fNil))) (fOp opMod (fB (b1 bInt) (fCons (fVar 4) fNil)) (fC (.int 2))))) (fCons (fC (.int 1)) fNil))) fNil)))) (tName 8)) (sSeq (sRet (fAnd (fCall (cl "_law_same") (fCons (fVar 6) (fCons (fVar 1) fNil))) (fCall (cl "_law_same") (fCons (fVar 7) (fCons (fVar 8) fNil))))) sNil)))))))
noncomputable def e__law_made_right : En := ⟨S "_law_made_right", [(S "box"), (S "one"), (S "by_name")], [(S "box"), (S "one"), (S "by_name"), (S "factor"), (S "top"), (S "bottom"), (S "told"), (S "again"), (S "due")], argsAt pw 52, bodyAt pw 52, scAt pw 52, d__law_made_right, []⟩
theorem ok__law_made_right : EnOk T e__law_made_right where
  made := fun cl => by kernel_rfl
  sc := fnSc_of (by kernel_rfl)
  bind := fun _ _ _ _ _ _ _ us hl => match us, hl with | [_, _, _], _ => by kernel_rfl
  bindD := fun h => absurd rfl h
  kw := fun n ks h => absurd h (kw_none (by decide +kernel))
noncomputable def d__law_text (cl : Str → Cl) : DenS := (sSeq (sRet (fIf (fBool (fOp opEq (fOp opIdx (fVar 0) (fC (.int 1))) (fC (.int 1)))) (fB (b1 bStr) (fCons (fOp opIdx (fVar 0) (fC (.int 0))) fNil)) (fOp opAdd (fOp opAdd (fB (b1 bStr) (fCons (fOp opIdx (fVar 0) (fC (.int 0))) fNil)) (fC (.str "/"))) (fB (b1 bStr) (fCons (fOp opIdx (fVar 0) (fC (.int 1))) fNil))))) sNil)
noncomputable def e__law_text : En := ⟨S "_law_text", [(S "one")], [(S "one")], argsAt pw 53, bodyAt pw 53, scAt pw 53, d__law_text, []⟩
theorem ok__law_text : EnOk T e__law_text where
  made := fun cl => by kernel_rfl
  sc := fnSc_of (by kernel_rfl)
  bind := fun _ _ _ _ _ _ _ us hl => match us, hl with | [_], _ => by kernel_rfl
  bindD := fun h => absurd rfl h
  kw := fun n ks h => absurd h (kw_none (by decide +kernel))
noncomputable def d__law_texts_right (cl : Str → Cl) : DenS := (sSeq (sAsg (fCall (cl "_law_text") (fCons (fVar 0) fNil)) (tName 2)) (sSeq (sAsg (fIf (fTest (fVar 1)) (fCallK (cl "write_fraction") ["value"] ["value"] fNil (fCons (fVar 0) fNil)) (fCall (cl "write_fraction") (fCons (fVar 0) fNil))) (tName 3)) (sSeq (sAsg (fIf (fTest (fVar 1)) (fCallK (cl "read_fraction") ["text"] ["text"] fNil (fCons (fVar 2) fNil)) (fCall (cl "read_fraction") (fCons (fVar 2) fNil))) (tName 4)) (sSeq (sRet (fAnd (fCall (cl "_law_same") (fCons (fVar 3) (fCons (fVar 2) fNil))) (fAnd (fCall (cl "_law_same") (fCons (fVar 4) (fCons (fVar 0) fNil))) (fCall (cl "_law_same") (fCons (fCall (cl "read_fraction") (fCons (fVar 3) fNil)) (fCons (fVar 0) fNil)))))) sNil))))
noncomputable def e__law_texts_right : En := ⟨S "_law_texts_right", [(S "one"), (S "by_name")], [(S "one"), (S "by_name"), (S "due"), (S "told"), (S "back")], argsAt pw 54, bodyAt pw 54, scAt pw 54, d__law_texts_right, []⟩
theorem ok__law_texts_right : EnOk T e__law_texts_right where
  made := fun cl => by kernel_rfl
  sc := fnSc_of (by kernel_rfl)
  bind := fun _ _ _ _ _ _ _ us hl => match us, hl with | [_, _], _ => by kernel_rfl
  bindD := fun h => absurd rfl h
  kw := fun n ks h => absurd h (kw_none (by decide +kernel))
noncomputable def d__law_read (cl : Str → Cl) : DenS := (sSeq (sTry T.exm (sSeq (sRet (fLst (fCons (fC (.str "told")) (fCons (fIf (fTest (fVar 1)) (fCallK (cl "read_fraction") ["text"] ["text"] fNil (fCons (fVar 0) fNil)) (fCall (cl "read_fraction") (fCons (fVar 0) fNil))) fNil)))) sNil) "InvalidText" 2 (fun c fs => (sRet (fLst (fCons (hC (.str "no text") c fs) (fCons (hFldT T "given" c fs) (fCons (hIsiT T "NetError" c fs) fNil))))))) sNil)
noncomputable def e__law_read : En := ⟨S "_law_read", [(S "text"), (S "by_name")], [(S "text"), (S "by_name"), (S "e")], argsAt pw 55, bodyAt pw 55, scAt pw 55, d__law_read, []⟩
theorem ok__law_read : EnOk T e__law_read where
  made := fun cl => by kernel_rfl
  sc := fnSc_of (by kernel_rfl)
  bind := fun _ _ _ _ _ _ _ us hl => match us, hl with | [_, _], _ => by kernel_rfl
  bindD := fun h => absurd rfl h
  kw := fun n ks h => absurd h (kw_none (by decide +kernel))
noncomputable def d__law_written (cl : Str → Cl) : DenS := (sSeq (sTry T.exm (sSeq (sRet (fLst (fCons (fC (.str "told")) (fCons (fIf (fTest (fVar 1)) (fCallK (cl "write_fraction") ["value"] ["value"] fNil (fCons (fVar 0) fNil)) (fCall (cl "write_fraction") (fCons (fVar 0) fNil))) fNil)))) sNil) "InvalidFraction" 2 (fun c fs => (sRet (fLst (fCons (hC (.str "no fraction") c fs) (fCons (hFldT T "given" c fs) (fCons (hIsiT T "NetError" c fs) fNil))))))) sNil)
noncomputable def e__law_written : En := ⟨S "_law_written", [(S "value"), (S "by_name")], [(S "value"), (S "by_name"), (S "e")], argsAt pw 56, bodyAt pw 56, scAt pw 56, d__law_written, []⟩
theorem ok__law_written : EnOk T e__law_written where
  made := fun cl => by kernel_rfl
  sc := fnSc_of (by kernel_rfl)
  bind := fun _ _ _ _ _ _ _ us hl => match us, hl with | [_, _], _ => by kernel_rfl
  bindD := fun h => absurd rfl h
  kw := fun n ks h => absurd h (kw_none (by decide +kernel))
noncomputable def d__law_great_right (cl : Str → Cl) : DenS := (sSeq (sPar3 2 3 4 (fCons (fCall (cl "_law_take") (fCons (fVar 0) (fCons (fC (.int 2)) fNil))) (fCons (fOp opSub (fC (.int 1)) (fOp opMul (fC (.int 2)) (fCall (cl "_law_take") (fCons (fVar 0) (fCons (fC (.int 2)) fNil))))) (fCons (fOp opAdd (fC (.int 2)) (fCall (cl "_law_take") (fCons (fVar 0) (fCons (fC (.int 8)) fNil)))) fNil)))) (sSeq (sAsg (fOp opAdd (fLc (iRng rng1 (fCons (fC (.int 5)) fNil)) (tName 5) fTrue (fOp opSub (fOp opSub (fOp opPow (fC (.int 10)) (fC (.int 40))) (fC (.int 1))) (fCall (cl "_law_take") (fCons (fVar 0) (fCons (fC (.int 1000003)) fNil)))) [5]) (fLst (fCons (fVar 4) fNil))) (tName 6)) (sSeq (sPar2 7 8 (fCons (fTup (fCons (fVar 3) (fCons (fC (.int 1)) fNil))) (fCons (fVar 3) fNil))) (sSeq (sFor (iRng rng1 (fCons (fC (.int 6)) fNil)) (tName 5) (sSeq (sAsg (fCall (cl "times") (fCons (fVar 7) (fCons (fIf (fBool (fOp opEq (fVar 2) (fC (.int 1)))) (fTup (fCons (fC (.int 1)) (fCons (fOp opIdx (fVar 6) (fVar 5)) fNil))) (fTup (fCons (fOp opIdx (fVar 6) (fVar 5)) (fCons (fC (.int 1)) fNil)))) fNil))) (tName 7)) (sSeq (sAsg (fOp opMul (fVar 8) (fOp opIdx (fVar 6) (fVar 5))) (tName 8)) (sSeq (sAsg (fIf (fBool (fOp opEq (fVar 2) (fC (.int 1)))) (fTup (fCons (fVar 3) (fCons (fB (b1 bAbs) (fCons (fVar 8) fNil)) fNil))) (fTup (fCons (fVar 8) (fCons (fC (.int 1)) fNil)))) (tName 9)) (sSeq (sAsg (fCall (cl "_law_text") (fCons (fVar 9) fNil)) (tName 10)) (sSeq (sAsg (fIf (fBool (fOp opLt (fVar 5) (fC (.int 5)))) (fLst (fCons (fC (.str "told")) (fCons (fVar 10) fNil))) (fLst (fCons (fC (.str "no fraction")) (fCons (fVar 9) (fCons (fC (.bl true)) fNil))))) (tName 11)) (sSeq (sAsg (fIf (fBool (fOp opLt (fVar 5) (fC (.int 5)))) (fLst (fCons (fC (.str "told")) (fCons (fVar 9) fNil))) (fLst (fCons (fC (.str "no text")) (fCons (fVar 10) (fCons (fC (.bl true)) fNil))))) (tName 12)) (sSeq (fIf (fOrT (fNotT (fTest (fCall (cl "_law_same") (fCons (fVar 7) (fCons (fVar 9) fNil))))) (fNotT (fTest (fCall (cl "_law_same") (fCons (fCall (cl "is_fraction") (fCons (fVar 7) fNil)) (fCons (fC (.bl true)) fNil)))))) (sSeq (sRet (fC (.bl false))) sNil) sNil) (sSeq (fIf (fOrT (fNotT (fTest (fCall (cl "_law_same") (fCons (fCall (cl "_law_written") (fCons (fVar 7) (fCons (fVar 1) fNil))) (fCons (fVar 11) fNil))))) (fNotT (fTest (fCall (cl "_law_same") (fCons (fCall (cl "_law_read") (fCons (fVar 10) (fCons (fNot (fVar 1)) fNil))) (fCons (fVar 12) fNil)))))) (sSeq (sRet (fC (.bl false))) sNil) sNil) sNil))))))))) (sSeq (sRet (fC (.bl true))) sNil)))))
noncomputable def e__law_great_right : En := ⟨S "_law_great_right", [(S "box"), (S "by_name")], [(S "box"), (S "by_name"), (S "turned"), (S "sign"), (S "more"), (S "k"), (S "parts"), (S "told"), (S "due"), (S "whole"), (S "text"), (S "written"), (S "read")], argsAt pw 57, bodyAt pw 57, scAt pw 57, d__law_great_right, []⟩
theorem ok__law_great_right : EnOk T e__law_great_right where
  made := fun cl => by kernel_rfl
  sc := fnSc_of (by kernel_rfl)
  bind := fun _ _ _ _ _ _ _ us hl => match us, hl with | [_, _], _ => by kernel_rfl
  bindD := fun h => absurd rfl h
  kw := fun n ks h => absurd h (kw_none (by decide +kernel))
noncomputable def d__law_cell_right (cl : Str → Cl) : DenS := (sSeq (sPar2 1 2 (fCons (fOp opEq (fCall (cl "_law_take") (fCons (fVar 0) (fCons (fC (.int 2)) fNil))) (fC (.int 1))) (fCons (fCall (cl "_law_take") (fCons (fVar 0) (fCons (fC (.int 3)) fNil))) fNil))) (sSeq (fIf (fAndT (fBool (fOp opEq (fVar 2) (fC (.int 0)))) (fNotT (fTest (fCall (cl "_law_great_right") (fCons (fVar 0) (fCons (fVar 1) fNil)))))) (sSeq (sRet (fC (.bl false))) sNil) sNil) (sSeq (sFor (iRng rng1 (fCons (fC (.int 2)) fNil)) (tName 3) (sSeq (sAsg (fCall (cl "_law_pair") (fCons (fVar 0) fNil)) (tTup 2 (tCons (tName 4) (tCons (tName 5) tNil)))) (sSeq (sPar2 6 7 (fCons (fCall (cl "_law_due") (fCons (fVar 4) (fCons (fVar 5) fNil))) (fCons (fCall (cl "_law_due") (fCons (fVar 5) (fCons (fVar 4) fNil))) fNil))) (sSeq (sFor (iRng rng1 (fCons (fC (.int 2)) fNil)) (tName 8) (sSeq (fIf (fOrT (fNotT (fTest (fCall (cl "_law_same") (fCons (fCall (cl "_law_told") (fCons (fVar 4) (fCons (fVar 5) (fCons (fVar 1) fNil)))) (fCons (fVar 6) fNil))))) (fNotT (fTest (fCall (cl "_law_same") (fCons (fCall (cl "_law_told") (fCons (fVar 5) (fCons (fVar 4) (fCons (fNot (fVar 1)) fNil)))) (fCons (fVar 7) fNil)))))) (sSeq (sRet (fC (.bl false))) sNil) sNil) sNil)) (sSeq (fIf (fOrT (fNotT (fTest (fCall (cl "_law_shapes_right") (fCons (fVar 0) (fCons (fVar 4) fNil))))) (fOrT (fNotT (fTest (fCall (cl "_law_made_right") (fCons (fVar 0) (fCons (fVar 4) (fCons (fVar 1) fNil)))))) (fNotT (fTest (fCall (cl "_law_made_right") (fCons (fVar 0) (fCons (fVar 5) (fCons (fNot (fVar 1)) fNil)))))))) (sSeq (sRet (fC (.bl false))) sNil) sNil) (sSeq (sFor (iSeq (fOp opAdd (fLst (fCons (fVar 4) (fCons (fVar 5) fNil))) (fLc (iSeq (fSlice (fVar 6) none (some (fC (.int 4))))) (tName 10) (fBool (fOp (opIs true) (fVar 10) (fC .non))) (fVar 10) [10]))) (tName 9) (sSeq (fIf (fOrT (fNotT (fTest (fCall (cl "_law_texts_right") (fCons (fVar 9) (fCons (fVar 1) fNil))))) (fNotT (fTest (fCall (cl "_law_same") (fCons (fCall (cl "is_fraction") (fCons (fVar 9) fNil)) (fCons (fC (.bl true)) fNil)))))) (sSeq (sRet (fC (.bl false))) sNil) sNil) sNil)) sNil)))))) (sSeq (sRet (fC (.bl true))) sNil))))
noncomputable def e__law_cell_right : En := ⟨S "_law_cell_right", [(S "box")], [(S "box"), (S "by_name"), (S "great"), (S "turn"), (S "one"), (S "other"), (S "due"), (S "back"), (S "again"), (S "item"), (S "part")], argsAt pw 58, bodyAt pw 58, scAt pw 58, d__law_cell_right, []⟩
theorem ok__law_cell_right : EnOk T e__law_cell_right where
  made := fun cl => by kernel_rfl
  sc := fnSc_of (by kernel_rfl)
  bind := fun _ _ _ _ _ _ _ us hl => match us, hl with | [_], _ => by kernel_rfl
  bindD := fun h => absurd rfl h
  kw := fun n ks h => absurd h (kw_none (by decide +kernel))
noncomputable def d_law (cl : Str → Cl) : DenS := (sSeq (sFor (iRng rng1 (fCons (fB bMax (fCons (fC (.int 2)) (fCons (fB bMin (fCons (fC (.int 6)) (fCons (fB (b1 bLen) (fCons (fVar 0) fNil)) fNil))) fNil))) fNil)) (tName 1) (sSeq (fIf (fNotT (fTest (fCall (cl "_law_cell_right") (fCons (fCall (cl "_law_box") (fCons (fCall (cl "_law_cell") (fCons (fVar 0) (fCons (fVar 1) fNil))) fNil)) fNil)))) (sSeq (sRet (fC (.bl false))) sNil) sNil) sNil)) (sSeq (sRet (fC (.bl true))) sNil))
noncomputable def e_law : En := ⟨S "law", [(S "script")], [(S "script"), (S "k")], argsAt pw 59, bodyAt pw 59, scAt pw 59, d_law, []⟩
theorem ok_law : EnOk T e_law where
  made := fun cl => by kernel_rfl
  sc := fnSc_of (by kernel_rfl)
  bind := fun _ _ _ _ _ _ _ us hl => match us, hl with | [_], _ => by kernel_rfl
  bindD := fun h => absurd rfl h
  kw := fun n ks h => absurd h (kw_none (by decide +kernel))
noncomputable def es : List En := [e_lowest, e_added, e_lessened, e_multiplied, e_divided, e_is_less, e_is_integer, e_is_short, e_is_tuple, e_count_in, e_integer_in, e_is_fraction, e_is_writable, e_check_fractions, e_fraction, e_plus, e_minus, e_times, e_over, e_below, e_fraction_text, e_fraction_in, e_write_fraction, e_read_fraction, e__law_cell, e__law_box, e__law_take, e__law_same, e__law_shared, e__law_frac, e__law_whole, e__law_bottom, e__law_pair, e__law_due, e__law_told, e__law_is_due, e__law_near, e__law_shapes_right, e__law_made_right, e__law_text, e__law_texts_right, e__law_read, e__law_written, e__law_great_right, e__law_cell_right, e_law]
theorem es_ok : ∀ e ∈ es, EnOk T e := fun e he => by
  unfold es at he
  simp only [List.mem_cons, List.not_mem_nil, or_false] at he
  rcases he with rfl | rfl | rfl | rfl | rfl | rfl | rfl | rfl | rfl | rfl | rfl | rfl | rfl | rfl | rfl | rfl | rfl | rfl | rfl | rfl | rfl | rfl | rfl | rfl | rfl | rfl | rfl | rfl | rfl | rfl | rfl | rfl | rfl | rfl | rfl | rfl | rfl | rfl | rfl | rfl | rfl | rfl | rfl | rfl | rfl | rfl
  all_goals first | exact ok_lowest | exact ok_added | exact ok_lessened | exact ok_multiplied | exact ok_divided | exact ok_is_less | exact ok_is_integer | exact ok_is_short | exact ok_is_tuple | exact ok_count_in | exact ok_integer_in | exact ok_is_fraction | exact ok_is_writable | exact ok_check_fractions | exact ok_fraction | exact ok_plus | exact ok_minus | exact ok_times | exact ok_over | exact ok_below | exact ok_fraction_text | exact ok_fraction_in | exact ok_write_fraction | exact ok_read_fraction | exact ok__law_cell | exact ok__law_box | exact ok__law_take | exact ok__law_same | exact ok__law_shared | exact ok__law_frac | exact ok__law_whole | exact ok__law_bottom | exact ok__law_pair | exact ok__law_due | exact ok__law_told | exact ok__law_is_due | exact ok__law_near | exact ok__law_shapes_right | exact ok__law_made_right | exact ok__law_text | exact ok__law_texts_right | exact ok__law_read | exact ok__law_written | exact ok__law_great_right | exact ok__law_cell_right | exact ok_law
theorem xs_ok : ∀ x ∈ xs, XcText pw x := fun x hx => by
  unfold xs at hx
  simp only [List.mem_cons, List.not_mem_nil, or_false] at hx
  rcases hx with rfl | rfl | rfl
  all_goals exact ⟨by kernel_rfl, fun _ _ _ _ _ _ us hl => match us, hl with | [_, _], _ => by kernel_rfl⟩
theorem to : TabOk T es xs := tabOk_of rfl rfl rfl (by kernel_rfl) (by kernel_rfl) (by kernel_rfl)
end DL
end
section
set_option Elab.async false
set_option linter.all false
set_option maxRecDepth 100000
set_option maxHeartbeats 0
namespace DL
open PySem PySem.Spec PyProof.Rows L2
abbrev RR : PySem.W.OpenRow := PySem.W.OpenLaw.row PySem.Challenge.rw_ohmpatch_k01_fractions_by_own_integers
noncomputable abbrev hk : PySem.W.Hook := hookX 5 (faX es) (exB T xs) (fnX pw es xs)
noncomputable def ob (s : PySem.W.SharedT) : He.AlD := obsX 5 (faX es) (exB T xs) (fnX pw es xs) (HandSHeadRun.getT s)
theorem ob_eq (s : PySem.W.SharedT) : ob s = hk.obs s.abs := obsX_eq (HandSHeadRun.getT_eq s)
def loose : List PySem.Str := ([(S "lowest"), (S "added"), (S "lessened"), (S "multiplied"), (S "divided"), (S "is_less"), (S "is_integer"), (S "is_short"), (S "is_tuple"), (S "count_in"), (S "integer_in"), (S "is_fraction"), (S "is_writable"), (S "check_fractions"), (S "fraction"), (S "plus"), (S "minus"), (S "times"), (S "over"), (S "below"), (S "fraction_text"), (S "fraction_in"), (S "write_fraction"), (S "read_fraction"), (S "_law_cell"), (S "_law_box"), (S "_law_take"), (S "_law_same"), (S "_law_shared"), (S "_law_frac")] : List PySem.Str) ++ ([(S "_law_whole"), (S "_law_bottom"), (S "_law_pair"), (S "_law_due"), (S "_law_told"), (S "_law_is_due"), (S "_law_near"), (S "_law_shapes_right"), (S "_law_made_right"), (S "_law_text"), (S "_law_texts_right"), (S "_law_read"), (S "_law_written"), (S "_law_great_right"), (S "_law_cell_right"), (S "ZERO"), (S "DIGITS"), (S "MOST_DIGITS"), (S "BEYOND_DIGITS"), (S "gcd"), (S "NetError"), (S "InvalidNumber"), (S "InvalidFraction"), (S "InvalidText")] : List PySem.Str)
theorem run (w : World) : HandSHeadRun.RunEqI RR (PySem.W.view RR.prog [0, 59]) hk ob 8000 loose w := by
  unfold HandSHeadRun.RunEqI
  kernel_rfl
end DL
open PySem PySem.W PySem.Calls PyProof.Rows
theorem DL.law_holds (k : Nat) (hr : L2.Room (k + 2) callerA) (hp : ∀ ns : List Int, ns.length ≤ 63 → (∀ z ∈ ns, Builtin.Int.intBits z ≤ 1048576) → ∃ S', DL.callN DL.es k DL.e_law.name [.ref 0] [.fro (ns.map DL.D.int)] = .ok (.bl true) S') : PySem.Challenge.rw_ohmpatch_k01_fractions_by_own_integers.Holds := by
  w_on; o_law
  refine HandSHeadRun.head_imp (r := OpenLaw.row PySem.Challenge.rw_ohmpatch_k01_fractions_by_own_integers) (q := view (OpenLaw.row PySem.Challenge.rw_ohmpatch_k01_fractions_by_own_integers).prog [0, 59]) (H := DL.hk) (ob := DL.ob) (M := 8000) (loose := DL.loose) (d := HandSHeadRun.topDef (OpenLaw.row PySem.Challenge.rw_ohmpatch_k01_fractions_by_own_integers).prog 59) (kwd := []) DL.ob_eq
    DL.run (by kernel_rfl) (by kernel_rfl) (by kernel_rfl) (by rfl) (by first | assumption | decide +kernel) (by decide +kernel) ⟨rfl, rfl, rfl, rfl, rfl, by decide +kernel⟩ ?hw ?hc
  case hw => w_witness2
  case hc => exact DL.walk_dl (l := PySem.Challenge.rw_ohmpatch_k01_fractions_by_own_integers) (n := 63) (k := k) (x := DL.S "script") (p := DL.pw) rfl (by decide) (by kernel_rfl) hr DL.to DL.es_ok DL.xs_ok (e := DL.e_law) (by kernel_rfl) (by kernel_rfl) rfl rfl hp
end
section
set_option Elab.async false
set_option linter.all false
set_option maxRecDepth 100000
set_option maxHeartbeats 4000000
/-! KC: what the laws' proofs share -/
namespace DL
open PySem PySem.Spec PyProof.Rows L2
variable {k b n : Nat} {A Sz : Sto} {d : D}
def kInt : D → Bool
  | .int _ => true
  | .bl _ => true
  | _ => false
def kBool : D → Bool
  | .bl _ => true
  | _ => false
def kTup : D → Bool
  | .tup _ => true
  | _ => false
def isIntD : D → Bool
  | .int _ => true
  | _ => false
theorem x_entry (n : Nat) (ds : List D) : entry n ds = ds.map some ++ List.replicate (n - ds.length) none := rfl
def tupN (n : Int) : D → Bool
  | .tup xs => decide ((xs.length : Int) = n)
  | _ => false
theorem tupN_2 {d : D} (h : tupN 2 d = true) : ∃ a b, d = .tup [a, b] := by
  match d, h with
  | .tup [a, b], _ => exact ⟨a, b, rfl⟩
  | .tup [], h => simp [tupN] at h
  | .tup [a], h => simp [tupN] at h
  | .tup (a :: b :: c :: l), h => simp [tupN] at h; omega
theorem tupN_3 {d : D} (h : tupN 3 d = true) : ∃ a b c, d = .tup [a, b, c] := by
  match d, h with
  | .tup [a, b, c], _ => exact ⟨a, b, c, rfl⟩
  | .tup [], h => simp [tupN] at h
  | .tup [a], h => simp [tupN] at h
  | .tup [a, b], h => simp [tupN] at h
  | .tup (a :: b :: c :: e :: l), h => simp [tupN] at h; omega
theorem at_new (xs : List D) : (Sz ++ [Ob.lst xs])[Sz.length]? = some (.lst xs) := by simp
theorem seq_new (xs : List D) : seqOf (Sz ++ [Ob.lst xs]) Sz.length = some xs := by
  unfold seqOf
  simp [at_new]
theorem mapO_bl {α : Type} (q : α → Bool) : ∀ l : List α, mapO asBl (l.map fun x => .bl (q x)) = some (l.map q)
  | [] => rfl
  | x :: l => by
    simp only [List.map_cons, mapO, asBl, mapO_bl q l]
theorem x_all {α : Type} (q : α → Bool) (l : List α) : bBls allF (.ref Sz.length) (Sz ++ [.lst (l.map fun x => .bl (q x))]) = .ok (.bl (l.all q)) (Sz ++ [.lst (l.map fun x => .bl (q x))]) := by
  show optR (seqOf (Sz ++ [.lst (l.map fun x => .bl (q x))]) Sz.length) _ = _
  rw [seq_new]
  show optR (mapO asBl _) _ = _
  rw [mapO_bl]
  show R.ok (D.bl ((l.map q).all id)) _ = _
  rw [List.all_map]
  rfl
def itm (ts : List D) (i : Nat) : D := ts[i]?.getD .non
theorem at_get {ts : List D} {i : Nat} (h : i < ts.length) : L2.atI ts (i : Int) = some (itm ts i) := by
  rw [at_nat ts i h]
  simp [itm, List.getElem?_eq_getElem h]
theorem x_idx_get {ts : List D} {i : Nat} (h : i < ts.length) : opIdx (.tup ts) (.int (i : Int)) Sz = .ok (itm ts i) Sz := by
  rw [x_idx_tup, at_get h]
  rfl
theorem itm_mem {ts : List D} {i : Nat} (h : i < ts.length) : itm ts i ∈ ts := by
  simp [itm, List.getElem?_eq_getElem h]
theorem kTup_yes {b : D} (h : kTup b = true) : ∃ ts, b = .tup ts := by
  cases b with
  | tup ts => exact ⟨ts, rfl⟩
  | _ => cases h
theorem filt_true {α : Type} (l : List α) : l.filter (fun _ => true) = l := List.filter_eq_self.mpr fun _ _ => rfl
theorem fmod_nat (n m : Nat) : (n : Int).fmod (m : Int) = ((n % m : Nat) : Int) := by
  rw [Int.fmod_eq_emod_of_nonneg _ (by omega)]
  rfl
theorem fdiv_nat (n m : Nat) : (n : Int).fdiv (m : Int) = ((n / m : Nat) : Int) := by
  rw [Int.fdiv_eq_ediv_of_nonneg _ (by omega)]
  rfl
theorem abs_nat (i : Int) : (if i < 0 then -i else i) = (i.natAbs : Int) := by
  split <;> omega
theorem fdiv_one (i : Int) : i.fdiv 1 = i := by simp
theorem eq_ints2 (a b c e : Int) : opEq (.tup [.int a, .int b]) (.tup [.int c, .int e]) Sz = .ok (.bl (decide (a = c) && decide (b = e))) Sz := by
  show R.ok (D.bl (PyData.eqv (.tuple [.int a, .int b]) (.tuple [.int c, .int e]))) Sz = _
  simp only [PyData.eqv, PyData.eqvAll, Bool.and_true]
  rfl
theorem at_two {xs ys : List D} : (Sz ++ [Ob.lst xs, Ob.lst ys])[Sz.length]? = some (.lst xs) ∧ (Sz ++ [Ob.lst xs, Ob.lst ys])[Sz.length + 1]? = some (.lst ys) := by
  constructor
  · simp
  · rw [List.getElem?_append_right (by omega)]
    simp
theorem off_nil (xs : List D) : offL (Sz ++ [Ob.lst xs, Ob.lst []]) (.ref Sz.length) (.ref (Sz.length + 1)) = !xs.isEmpty := by
  simp only [offL, lstOf, at_two.1, at_two.2]
  cases xs <;> rfl
theorem ne_nil (xs : List D) : opNe (.ref Sz.length) (.ref (Sz.length + 1)) (Sz ++ [Ob.lst xs, Ob.lst []]) = .ok (.bl (!xs.isEmpty)) (Sz ++ [Ob.lst xs, Ob.lst []]) := by
  show neD _ _ _ = _
  unfold neD
  rw [off_nil]
  cases xs with
  | cons x xs => rfl
  | nil =>
    show res2 _ _ _ _ = _
    unfold res2
    simp only [res, at_two.1, at_two.2]
    rfl
theorem eq_nil (xs : List D) : opEq (.ref Sz.length) (.ref (Sz.length + 1)) (Sz ++ [Ob.lst xs, Ob.lst []]) = .ok (.bl xs.isEmpty) (Sz ++ [Ob.lst xs, Ob.lst []]) := by
  show eqD _ _ _ = _
  unfold eqD
  rw [off_nil]
  cases xs with
  | cons x xs => rfl
  | nil =>
    show res2 _ _ _ _ = _
    unfold res2
    simp only [res, at_two.1, at_two.2]
    rfl
def ExtB (b : Nat) (A B : Sto) : Prop := A.length ≤ B.length ∧ ∀ l o, l ≠ b → A[l]? = some o → B[l]? = some o
theorem ExtB.refl {b : Nat} {A : Sto} : ExtB b A A := ⟨Nat.le_refl _, fun _ _ _ h => h⟩
theorem ExtB.trans {b : Nat} {A B C : Sto} (h1 : ExtB b A B) (h2 : ExtB b B C) : ExtB b A C := ⟨Nat.le_trans h1.1 h2.1, fun l o hl h => h2.2 l o hl (h1.2 l o hl h)⟩
theorem ExtB.app {b : Nat} {A : Sto} (e : Sto) : ExtB b A (A ++ e) := ⟨by simp, fun l o _ h => by
  have hl : l < A.length := by
    by_cases c : l < A.length
    · exact c
    · rw [List.getElem?_eq_none (by omega)] at h
      cases h
  rw [List.getElem?_append_left hl]
  exact h⟩
def BoxIs (b N : Nat) (S : Sto) (a : Int) (f : Bool) (m c : Int) : Prop := S[b]? = some (.lst [.int a, .bl f, .int m, .int c]) ∧ 0 ≤ a ∧ 0 ≤ m ∧ m < 2 ^ 31 ∧ 0 ≤ c ∧ c ≤ N
def BoxAt (b N : Nat) (S : Sto) : Prop := ∃ a f m c, BoxIs b N S a f m c
theorem set_at {S : Sto} {b : Nat} {o o' : Ob} (h : S[b]? = some o) : (S.set b o')[b]? = some o' := by
  have hl : b < S.length := by
    by_cases c : b < S.length
    · exact c
    · rw [List.getElem?_eq_none (by omega)] at h
      cases h
  rw [List.getElem?_set_self hl]
theorem ExtB.set {b : Nat} {S : Sto} {o : Ob} : ExtB b S (S.set b o) := ⟨by simp, fun l o hl h => by
  rw [List.getElem?_set_ne (by omega)]
  exact h⟩
theorem seq_lst {S : Sto} {b : Nat} {xs : List D} (h : S[b]? = some (.lst xs)) : seqOf S b = some xs := by
  unfold seqOf
  simp only [h]
theorem set_0 {S : Sto} {b : Nat} {x0 x1 x2 x3 v : D} (h : S[b]? = some (.lst [x0, x1, x2, x3])) : setIdx (.ref b) (.int 0) v S = .ok () (S.set b (.lst [v, x1, x2, x3])) := by
  show setAt S b (.int 0) v S[b]? = _
  rw [h]
  rfl
theorem set_3 {S : Sto} {b : Nat} {x0 x1 x2 x3 v : D} (h : S[b]? = some (.lst [x0, x1, x2, x3])) : setIdx (.ref b) (.int 3) v S = .ok () (S.set b (.lst [x0, x1, x2, v])) := by
  show setAt S b (.int 3) v S[b]? = _
  rw [h]
  rfl
theorem BoxAt.le {N M : Nat} (h : BoxAt b N Sz) (e : N ≤ M) : BoxAt b M Sz := by
  obtain ⟨a, f, q, c, h1, h2, h3, h4, h5, h6⟩ := h
  exact ⟨a, f, q, c, h1, h2, h3, h4, h5, by omega⟩
theorem forG_idx {g : DenG} {body : DenS} {ok : Sto → Prop} (P : Nat → Ev → Sto → Prop) : ∀ (ds : List D) (i : Nat) (ρ : Ev) (Sz : Sto), P i ρ Sz → (∀ i ρ S', P i ρ S' → ok S') →
    (∀ d ∈ ds, ∀ j ρ S1, j < i + ds.length → P j ρ S1 → ∃ ρ' S2, g d ρ S1 = .ok ρ' S2 ∧ ∃ ρ2 S3, body ρ' S2 = .ok (.nx ρ2) S3 ∧ P (j + 1) ρ2 S3) → ∃ ρ' S', forG g body ok ds ρ Sz = .ok (.nx ρ') S' ∧ P (i + ds.length) ρ' S'
  | [], i, ρ, Sz, h0, ho, _ => ⟨ρ, Sz, by unfold forG; rw [if_pos (ho _ _ _ h0)], h0⟩
  | d :: ds, i, ρ, Sz, h0, ho, h => by
    obtain ⟨ρ', S2, h1, ρ2, S3, h2, h3⟩ := h d List.mem_cons_self i ρ Sz (by simp) h0
    obtain ⟨ρ4, S4, h5, h6⟩ := forG_idx P ds (i + 1) ρ2 S3 h3 ho fun x hx j ρ S1 hj hp => h x (List.mem_cons_of_mem _ hx) j ρ S1 (by simp; omega) hp
    refine ⟨ρ4, S4, ?_, ?_⟩
    · unfold forG
      rw [if_pos (ho _ _ _ h0), h1]
      simp only [R.bind_ok]
      rw [h2]
      simp only [R.bind_ok]
      exact h5
    · rw [List.length_cons, show i + (ds.length + 1) = i + 1 + ds.length by omega]
      exact h6
def Runs (r : R D) (Q : D → Sto → Prop) : Prop := ∃ v S', r = .ok v S' ∧ Q v S'
def RunsF (r : R Fl) (P : Ev → Sto → Prop) : Prop := ∃ ρ S', r = .ok (.nx ρ) S' ∧ P ρ S'
theorem runs_seq {a b : DenS} {ρ : Ev} {Sz : Sto} {Q : D → Sto → Prop} (h : RunsF (a ρ Sz) fun ρ' S' => Runs (strip (b ρ' S')) Q) : Runs (strip (sSeq a b ρ Sz)) Q := by
  obtain ⟨ρ', S', h1, v, S2, h2, h3⟩ := h
  refine ⟨v, S2, ?_, h3⟩
  rw [x_sSeq, h1]
  exact h2
theorem runs_ok {ρ : Ev} {Sz : Sto} {P : Ev → Sto → Prop} (h : P ρ Sz) : RunsF (.ok (.nx ρ) Sz) P := ⟨_, _, rfl, h⟩
theorem runs_eq {r : R Fl} {ρ : Ev} {Sz : Sto} {P : Ev → Sto → Prop} (e : r = .ok (.nx ρ) Sz) (h : P ρ Sz) : RunsF r P := ⟨_, _, e, h⟩
theorem runs_for {it : Den ItD} {g : DenG} {body : DenS} {ρ : Ev} {Sz S1 : Sto} {i : ItD} {Q : Ev → Sto → Prop} (h : it ρ Sz = .ok i S1) (P : Nat → Ev → Sto → Prop) (h0 : P 0 ρ S1) (ho : ∀ j ρ S', P j ρ S' → i.ok S')
    (hs : ∀ d ∈ i.items, ∀ j ρ S1, j < i.items.length → P j ρ S1 → ∃ ρ' S2, g d ρ S1 = .ok ρ' S2 ∧ RunsF (body ρ' S2) (P (j + 1))) (hq : ∀ ρ' S', P i.items.length ρ' S' → Q ρ' S') : RunsF (sFor it g body ρ Sz) Q := by
  obtain ⟨ρ', S', h1, h2⟩ := forG_idx P i.items 0 ρ S1 h0 ho (fun d hd j ρ S1 hj hp => by
    obtain ⟨ρ', S2, e1, ρ2, S3, e2, e3⟩ := hs d hd j ρ S1 (by simpa using hj) hp
    exact ⟨ρ', S2, e1, ρ2, S3, e2, e3⟩)
  refine ⟨ρ', S', ?_, hq ρ' S' (by simpa using h2)⟩
  rw [x_sFor h]
  exact h1
theorem runsF_seq {a b : DenS} {ρ : Ev} {Sz : Sto} {Q : Ev → Sto → Prop} (h : RunsF (a ρ Sz) fun ρ' S' => RunsF (b ρ' S') Q) : RunsF (sSeq a b ρ Sz) Q := by
  obtain ⟨ρ', S', h1, v, S2, h2, h3⟩ := h
  refine ⟨v, S2, ?_, h3⟩
  rw [x_sSeq, h1]
  exact h2
theorem runsF_nil {ρ : Ev} {Sz : Sto} {Q : Ev → Sto → Prop} (h : Q ρ Sz) : RunsF (sNil ρ Sz) Q := ⟨ρ, Sz, rfl, h⟩
theorem BoxAt.lt {N : Nat} (h : BoxAt b N Sz) : b < Sz.length := by
  obtain ⟨a, f, q, c, h1, _⟩ := h
  by_cases c : b < Sz.length
  · exact c
  · rw [List.getElem?_eq_none (by omega)] at h1
    cases h1
theorem BoxAt.app {N : Nat} (h : BoxAt b N Sz) (e : Sto) : BoxAt b N (Sz ++ e) := by
  have hl := h.lt
  obtain ⟨a, f, q, c, h1, h2⟩ := h
  exact ⟨a, f, q, c, by rw [List.getElem?_append_left hl]; exact h1, h2⟩
theorem BoxAt.ne {N l : Nat} {o : Ob} (h : BoxAt b N Sz) (e : l ≠ b) : BoxAt b N (Sz.set l o) := by
  obtain ⟨a, f, q, c, h1, h2⟩ := h
  exact ⟨a, f, q, c, by rw [List.getElem?_set_ne e]; exact h1, h2⟩
theorem ExtB.setNew {B : Sto} {l : Nat} {o : Ob} (h : ExtB b A B) (e : A.length ≤ l) : ExtB b A (B.set l o) := ⟨by simp; exact h.1, fun m x hm hx => by
  have hl : m < A.length := by
    by_cases c : m < A.length
    · exact c
    · rw [List.getElem?_eq_none (by omega)] at hx
      cases hx
  rw [List.getElem?_set_ne (by omega)]
  exact h.2 m x hm hx⟩
theorem ExtB.new {B : Sto} {e : Sto} (h : ExtB b A B) : ExtB b A (B ++ e) := h.trans (.app e)
theorem x_tuple_new {S : Sto} {xs : List D} (h : xs.length ≤ 16777216) : bTuple (.ref S.length) (S ++ [.lst xs]) = .ok (.tup xs) (S ++ [.lst xs]) := by
  show optR (seqOf (S ++ [.lst xs]) S.length) _ = _
  rw [seq_new]
  show mkTup xs _ = _
  unfold mkTup
  rw [if_pos h]
theorem at_int {xs : List D} {r : Int} (h0 : 0 ≤ r) (h : r < xs.length) : ∃ x ∈ xs, L2.atI xs r = some x := by
  have e : r = ((r.toNat : Nat) : Int) := by omega
  have hl : r.toNat < xs.length := by omega
  refine ⟨itm xs r.toNat, itm_mem hl, ?_⟩
  rw [e]
  exact at_get hl
theorem x_idx_at {S : Sto} {l : Nat} {xs : List D} {i : Int} {x : D} (h : S[l]? = some (.lst xs)) (hx : L2.atI xs i = some x) : opIdx (.ref l) (.int i) S = .ok x S := by
  rw [x_idx_lst _ _ _ (seq_lst h), hx]
  rfl
theorem x_app {S : Sto} {l : Nat} {xs : List D} {d : D} (h : S[l]? = some (.lst xs)) (hl : xs.length < 16777216) : mAppend (.ref l) [d] S = .ok .non (S.set l (.lst (xs ++ [d]))) := by
  unfold mAppend
  simp only [h]
  rw [if_pos hl]
theorem x_addL {S : Sto} {l m : Nat} {xs ys : List D} (h1 : S[l]? = some (.lst xs)) (h2 : S[m]? = some (.lst ys)) (hl : xs.length + ys.length ≤ 16777216) : opAdd (.ref l) (.ref m) S = .ok (.ref S.length) (S ++ [.lst (xs ++ ys)]) := by
  show addL (.ref l) (.ref m) S = _
  unfold addL lstOf
  simp only [h1, h2]
  rw [if_pos (by rw [sizeLine_eq]; exact hl)]
  rfl
theorem x_cutL {S : Sto} {l : Nat} {xs : List D} {lo hi : Option Int} (h : S[l]? = some (.lst xs)) : opCut (.ref l) lo hi S = .ok (.ref S.length) (S ++ [.lst (cutD xs lo hi)]) := by
  show optR (seqOf S l) _ = _
  rw [seq_lst h]
  rfl
theorem at_old {S : Sto} {e : Sto} {l : Nat} {o : Ob} (h : S[l]? = some o) : (S ++ e)[l]? = some o := by
  have hl : l < S.length := by
    by_cases c : l < S.length
    · exact c
    · rw [List.getElem?_eq_none (by omega)] at h
      cases h
  rw [List.getElem?_append_left hl]
  exact h
def getL (e : Sto) (i : Nat) : List D := match e[i]? with
  | some (.lst xs) => xs
  | _ => []
def isL (e : Sto) (i : Nat) : Bool := match e[i]? with
  | some (.lst _) => true
  | _ => false
theorem isL_at {e : Sto} {i : Nat} (h : isL e i = true) : e[i]? = some (.lst (getL e i)) := by
  unfold isL at h
  unfold getL
  cases q : e[i]? with
  | none => rw [q] at h; cases h
  | some o =>
    rw [q] at h
    cases o with
    | lst xs => rfl
    | _ => cases h
theorem at_plus {A e : Sto} {i : Nat} : (A ++ e)[A.length + i]? = e[i]? := by
  rw [List.getElem?_append_right (by omega)]
  congr 1
  omega
theorem x_addAt {A e : Sto} {i j : Nat} (h1 : isL e i = true) (h2 : isL e j = true) (hl : (getL e i).length + (getL e j).length ≤ 16777216) : opAdd (.ref (A.length + i)) (.ref (A.length + j)) (A ++ e) = .ok (.ref (A.length + e.length)) (A ++ (e ++ [.lst (getL e i ++ getL e j)])) := by
  have h := x_addL (S := A ++ e) (l := A.length + i) (m := A.length + j) (by rw [at_plus]; exact isL_at h1) (by rw [at_plus]; exact isL_at h2) hl
  rw [h, List.length_append, List.append_assoc]
def txt (i : Int) : Str := toString i
theorem x_bStr {p : Int} {S : Sto} (h : p.natAbs < 10 ^ 60) : bStr (.int p) S = .ok (.str (txt p)) S := by
  show (if p.natAbs.log2 < 1920 then R.ok (D.str (toString p)) S else .bad) = _
  rw [if_pos]
  · rfl
  by_cases z : p.natAbs = 0
  · rw [z]
    decide
  · exact (Nat.log2_lt z).mpr (Nat.lt_trans h (by decide +kernel))
def dict1 (x y : D) (S : Sto) : R D := match x with
  | .int i => .ok (.ref S.length) (S ++ [.dct [(.inl i, y)]])
  | _ => .bad
theorem x_fDict1 {f g : Den D} {ρ : Ev} {S S1 S2 : Sto} {i : Int} {y : D} (h1 : f ρ S = .ok (.int i) S1) (h2 : g ρ S1 = .ok y S2) : fDict [(f, g)] ρ S = .ok (.ref S2.length) (S2 ++ [.dct [(.inl i, y)]]) := by
  show (((f ρ S).bind fun x S1 => (g ρ S1).bind fun y S2 => (fPairs [] ρ S2).bind fun ps S3 => match asKey x with
    | some k => .ok ((k, y) :: ps) S3
    | none => .bad)).bind mkDct = _
  rw [h1, R.bind_ok, h2]
  rfl
theorem x_fDictV {i j : Nat} {ρ : Ev} {S : Sto} {a : Int} {y : D} (h1 : ρ[i]? = some (some (.int a))) (h2 : ρ[j]? = some (some y)) : fDict [(fVar i, fVar j)] ρ S = .ok (.ref S.length) (S ++ [.dct [(.inl a, y)]]) := x_fDict1 (x_var h1) (x_var h2)
theorem all_nil {P : D → Prop} : ∀ x ∈ ([] : List D), P x := fun _ h => by cases h
theorem all_cons {P : D → Prop} {a : D} {l : List D} (h : P a) (t : ∀ x ∈ l, P x) : ∀ x ∈ a :: l, P x := fun x hx => by
  rcases List.mem_cons.mp hx with rfl | hx
  · exact h
  · exact t x hx
theorem x_addAt0 {A e : Sto} {j : Nat} (h1 : isL e 0 = true) (h2 : isL e j = true) (hl : (getL e 0).length + (getL e j).length ≤ 16777216) : opAdd (.ref A.length) (.ref (A.length + j)) (A ++ e) = .ok (.ref (A.length + e.length)) (A ++ (e ++ [.lst (getL e 0 ++ getL e j)])) := x_addAt (A := A) (e := e) (i := 0) h1 h2 hl
theorem x_cutT (xs : List D) (lo hi : Option Int) (S : Sto) : opCut (.tup xs) lo hi S = .ok (.tup (cutD xs lo hi)) S := rfl
theorem x_addT {a c : List D} {S : Sto} (h : a.length + c.length ≤ 16777216) : opAdd (.tup a) (.tup c) S = .ok (.tup (a ++ c)) S := by
  show (if a.length + c.length ≤ sizeLine then R.ok (D.tup (a ++ c)) S else .bad) = _
  rw [if_pos (by rw [sizeLine_eq]; exact h)]
theorem cut_take (ts : List D) (i : Nat) : cutD ts none (some (i : Int)) = ts.take i := by
  unfold cutD
  rw [HT.sIx_none, HT.sIx_nat]
  simp
theorem cut_drop (ts : List D) (i : Nat) : cutD ts (some (i : Int)) none = ts.drop i := by
  unfold cutD
  rw [HT.sIx_none, HT.sIx_nat]
  rcases Nat.le_total i ts.length with h | h
  · rw [Nat.min_eq_left h, List.take_of_length_le (by simp)]
  · rw [Nat.min_eq_right h]
    simp [List.drop_eq_nil_of_le h]
theorem x_itOf_lst {S : Sto} {l : Nat} {xs : List D} (h : S[l]? = some (.lst xs)) : itOf (.ref l) S = .ok ⟨xs, fun S' => S'[l]? = some (.lst xs)⟩ S := by
  unfold itOf
  simp only [h]
theorem lcG_len {g : DenG} {tt : Den Bool} {te : Den D} {ok : Sto → Prop} {ρ : Ev} : ∀ {ds acc out : List D} {Sz S' : Sto}, lcG g tt te ok ρ ds acc Sz = .ok out S' → out.length ≤ acc.length + ds.length
  | [], acc, out, Sz, S', h => by
    unfold lcG at h
    split at h
    · cases h; omega
    · cases h
  | d :: ds, acc, out, Sz, S', h => by
    unfold lcG at h
    split at h
    · cases q1 : (g d ρ Sz).strict with
      | bad => rw [q1] at h; cases h
      | exc _ _ _ _ => rw [q1] at h; cases h
      | ok ρ2 S2 =>
        rw [q1] at h
        simp only [R.bind_ok] at h
        cases q2 : (tt ρ2 S2).strict with
        | bad => rw [q2] at h; cases h
        | exc _ _ _ _ => rw [q2] at h; cases h
        | ok c S3 =>
          rw [q2] at h
          simp only [R.bind_ok] at h
          cases c with
          | false =>
            rw [if_neg (by simp)] at h
            have := lcG_len h
            simp
            omega
          | true =>
            rw [if_pos rfl] at h
            cases q3 : (te ρ2 S3).strict with
            | bad => rw [q3] at h; cases h
            | exc _ _ _ _ => rw [q3] at h; cases h
            | ok y S4 =>
              rw [q3] at h
              simp only [R.bind_ok] at h
              have := lcG_len h
              simp at this ⊢
              omega
    · cases h
theorem u_nat {r : Int} {n : Nat} (h0 : 0 ≤ r) (h : r < n) : ∃ i : Nat, r = (i : Int) ∧ i < n := ⟨r.toNat, by omega, by omega⟩
theorem range_len {a n c : Int} (ha : 0 ≤ a) (hc : 1 ≤ c) (hn : 0 ≤ n) : (Builtin.Range.rangeSize a n c).toNat ≤ n.toNat ∧ 0 ≤ Builtin.Range.rangeSize a n c := by
  unfold Builtin.Range.rangeSize
  rw [if_pos (by omega)]
  split
  · have h1 : 0 ≤ (n - a - 1) / c := Int.ediv_nonneg (by omega) (by omega)
    have h2 : (n - a - 1) / c ≤ n - a - 1 := Int.ediv_le_self _ (by omega)
    omega
  · omega
theorem range_at {a n c : Int} {i : Nat} (ha : 0 ≤ a) (hc : 1 ≤ c) (hn : 0 ≤ n) (hi : i < (Builtin.Range.rangeSize a n c).toNat) : 0 ≤ a + (i : Int) * c ∧ a + (i : Int) * c < n := by
  unfold Builtin.Range.rangeSize at hi
  rw [if_pos (by omega)] at hi
  split at hi
  · have h0 : 0 ≤ (i : Int) * c := Int.mul_nonneg (by omega) (by omega)
    have h1 : (i : Int) ≤ (n - a - 1) / c := by omega
    have h2 : (i : Int) * c ≤ (n - a - 1) / c * c := Int.mul_le_mul_of_nonneg_right h1 (by omega)
    have h3 := Int.ediv_mul_le (n - a - 1) (show c ≠ 0 by omega)
    omega
  · omega
theorem x_rng3 {a n c : Int} {S : Sto} (ha : 0 ≤ a) (ha2 : a ≤ 1000) (hc : 1 ≤ c) (hc2 : c ≤ 1000) (hn : 0 ≤ n) (hn2 : n ≤ 1000) : rng3 [.int a, .int n, .int c] S = .ok ⟨rngs a c (Builtin.Range.rangeSize a n c).toNat, fun _ => True⟩ S := by
  obtain ⟨l1, l2⟩ := range_len ha hc hn
  show (if c ≠ 0 ∧ c.natAbs < 1073741824 ∧ Builtin.Range.small a n c = true ∧ 0 ≤ Builtin.Range.rangeSize a n c then rngIt a c (Builtin.Range.rangeSize a n c).toNat S else .bad) = _
  have hsm : Builtin.Range.small a n c = true := ?_
  rw [if_pos ⟨by omega, by omega, hsm, l2⟩]
  · unfold rngIt
    rw [if_pos (by omega)]
  · have fit : ∀ z : Int, 0 ≤ z → z ≤ 10000 → Builtin.Range.rangeFitsLong z = true := fun z h1 h2 => by
      unfold Builtin.Range.rangeFitsLong
      rw [Bool.and_eq_true, decide_eq_true_eq, decide_eq_true_eq]
      omega
    generalize hz : Builtin.Range.rangeSize a n c = z at *
    unfold Builtin.Range.small
    rw [hz]
    simp [fit a ha (by omega), fit n hn (by omega), fit c (by omega) (by omega), fit z l2 (by omega), show 0 < c by omega, fit (n + (c - 1)) (by omega) (by omega)]
theorem runsF_if_t {t : Den Bool} {x y : DenS} {ρ : Ev} {S1 : Sto} {Q : Ev → Sto → Prop} (h : t ρ Sz = .ok true S1) (hq : RunsF (x ρ S1) Q) : RunsF (fIf t x y ρ Sz) Q := by
  obtain ⟨ρ', S', h1, h2⟩ := hq
  refine ⟨ρ', S', ?_, h2⟩
  rw [x_fIf, h, R.bind_ok, if_pos rfl]
  exact h1
theorem runsF_if_f {t : Den Bool} {x y : DenS} {ρ : Ev} {S1 : Sto} {Q : Ev → Sto → Prop} (h : t ρ Sz = .ok false S1) (hq : RunsF (y ρ S1) Q) : RunsF (fIf t x y ρ Sz) Q := by
  obtain ⟨ρ', S', h1, h2⟩ := hq
  refine ⟨ρ', S', ?_, h2⟩
  rw [x_fIf, h, R.bind_ok, if_neg (by simp)]
  exact h1
theorem of_runs {r : R D} {v : D} {Q : Sto → Prop} (h : Runs r fun w S' => w = v ∧ Q S') : ∃ S', r = .ok v S' ∧ Q S' := by
  obtain ⟨w, S', h, rfl, q⟩ := h
  exact ⟨S', h, q⟩
theorem seq_fro {S : Sto} {b : Nat} {xs : List D} (h : S[b]? = some (.fro xs)) : seqOf S b = some xs := by
  unfold seqOf
  simp only [h]
end DL
end
section
set_option Elab.async false
set_option linter.all false
set_option maxRecDepth 100000
set_option maxHeartbeats 4000000
/-! KT: the box of the laws: numbers drawn of a cell. Its three constants differ from law to law -/
namespace DL
open PySem PySem.Spec PyProof.Rows L2
variable {k b n : Nat} {A Sz : Sto} {d : D}
/-- _law_take, its constants c1, c2, c3 -/
noncomputable def takeD (c1 c2 c3 : Int) : DenS := (sSeq (fIf (fAndT (fTest (fOp opIdx (fVar 0) (fC (.int 1)))) (fBool (fOp opGt (fOp opIdx (fVar 0) (fC (.int 0))) (fC (.int 0))))) (sSeq (sAsg (fOp opMod (fB (b1 bInt) (fCons (fOp opIdx (fVar 0) (fC (.int 0))) fNil)) (fVar 1)) (tName 2)) (sSeq (sAsg (fOp opFdiv (fOp opIdx (fVar 0) (fC (.int 0))) (fVar 1)) (tSub (fVar 0) (fC (.int 0)) setIdx)) (sSeq (sRet (fVar 2)) sNil))) sNil) (sSeq (sAsg (fOp opAdd (fOp opIdx (fVar 0) (fC (.int 3))) (fC (.int 1))) (tSub (fVar 0) (fC (.int 3)) setIdx)) (sSeq (sAsg (fOp opMod (fB (b1 bInt) (fCons (fOp opPow (fOp opAdd (fOp opAdd (fOp opIdx (fVar 0) (fC (.int 2))) (fOp opMul (fC (.int c1)) (fOp opIdx (fVar 0) (fC (.int 3))))) (fC (.int c2))) (fC (.int 5))) fNil)) (fC (.int 2147483647))) (tName 3)) (sSeq (sRet (fOp opMod (fB (b1 bInt) (fCons (fOp opFdiv (fOp opMod (fB (b1 bInt) (fCons (fOp opPow (fOp opAdd (fOp opMul (fVar 3) (fC (.int 48271))) (fOp opMul (fC (.int c3)) (fOp opIdx (fVar 0) (fC (.int 3))))) (fC (.int 3))) fNil)) (fC (.int 2147483587))) (fC (.int 64))) fNil)) (fVar 1))) sNil))))
theorem take_run {c1 c2 c3 : Int} (k1 : 0 ≤ c1 ∧ c1 < 2 ^ 30) (k2 : 0 ≤ c2 ∧ c2 < 2 ^ 30) (k3 : 0 ≤ c3 ∧ c3 < 2 ^ 30) {N : Nat} {m : Int} (hb : BoxAt b N Sz) (hN : N ≤ 100000) (hm : 0 < m) (hm2 : m ≤ 100000000) :
    ∃ r S', strip (takeD c1 c2 c3 (entry 4 [.ref b, .int m]) Sz) = .ok (.int r) S' ∧ 0 ≤ r ∧ r < m ∧ BoxAt b (N + 1) S' ∧ ExtB b Sz S' ∧ S'.length = Sz.length := by
  obtain ⟨a, f, q, c, h1, h2, h3, h4, h5, h6⟩ := hb
  unfold takeD
  have i0 : opIdx (.ref b) (.int 0) Sz = .ok (.int a) Sz := by rw [x_idx_lst _ _ _ (seq_lst h1)]; simp
  have i1 : opIdx (.ref b) (.int 1) Sz = .ok (.bl f) Sz := by rw [x_idx_lst _ _ _ (seq_lst h1)]; simp
  have i3 : opIdx (.ref b) (.int 3) Sz = .ok (.int c) Sz := by rw [x_idx_lst _ _ _ (seq_lst h1)]; simp
  have hmz : m ≠ 0 := by omega
  have hlg : m.natAbs.log2 < 9000 := by
    have : m.natAbs.log2 < 27 := (Nat.log2_lt (by omega)).mpr (by omega)
    omega
  have hml : m ≠ 0 ∧ m.natAbs.log2 < 9000 := ⟨hmz, hlg⟩
  by_cases hc : f = true ∧ 0 < a
  · obtain ⟨rfl, ha⟩ := hc
    refine ⟨a.fmod m, Sz.set b (.lst [.int (a.fdiv m), .bl true, .int q, .int c]), ?_, ?_, ?_, ⟨a.fdiv m, true, q, c, set_at h1, ?_, h3, h4, h5, by omega⟩, .set, by simp⟩
    · simp [entry, i0, i1, ha, x_mod _ _ _ hmz, x_fdiv _ _ _ hml, set_0 h1]
    · rw [Int.fmod_eq_emod_of_nonneg _ (by omega)]
      exact Int.emod_nonneg _ hmz
    · rw [Int.fmod_eq_emod_of_nonneg _ (by omega)]
      exact Int.emod_lt_of_pos _ hm
    · rw [Int.fdiv_eq_ediv_of_nonneg _ (by omega)]
      exact Int.ediv_nonneg h2 (by omega)
  · have hs := set_3 (v := .int (c + 1)) h1
    have g2 := set_at (o' := Ob.lst [.int a, .bl f, .int q, .int (c + 1)]) h1
    have j2 : opIdx (.ref b) (.int 2) (Sz.set b (Ob.lst [.int a, .bl f, .int q, .int (c + 1)])) = .ok (.int q) (Sz.set b (Ob.lst [.int a, .bl f, .int q, .int (c + 1)])) := by rw [x_idx_lst _ _ _ (seq_lst g2)]; simp
    have j3 : opIdx (.ref b) (.int 3) (Sz.set b (Ob.lst [.int a, .bl f, .int q, .int (c + 1)])) = .ok (.int (c + 1)) (Sz.set b (Ob.lst [.int a, .bl f, .int q, .int (c + 1)])) := by rw [x_idx_lst _ _ _ (seq_lst g2)]; simp
    have cb : (c + 1).natAbs < 2 ^ 20 := by omega
    have m1 : mulFit c1 (c + 1) = true := by
      have : c1.natAbs < 2 ^ 64 := by omega
      simp [mulFit, this]
    have m2 : mulFit c3 (c + 1) = true := by
      have : c3.natAbs < 2 ^ 64 := by omega
      simp [mulFit, this]
    have w1 : (c1 * (c + 1)).natAbs < 2 ^ 50 := by
      rw [Int.natAbs_mul]
      have : c1.natAbs * (c + 1).natAbs < 2 ^ 30 * 2 ^ 20 := Nat.mul_lt_mul'' (by omega) cb
      omega
    have w3 : (c3 * (c + 1)).natAbs < 2 ^ 50 := by
      rw [Int.natAbs_mul]
      have : c3.natAbs * (c + 1).natAbs < 2 ^ 30 * 2 ^ 20 := Nat.mul_lt_mul'' (by omega) cb
      omega
    generalize he1 : c1 * (c + 1) = e1 at *
    generalize hM : ((q + e1 + c2) ^ 5).fmod 2147483647 = M
    have hM0 : 0 ≤ M ∧ M < 2147483647 := by
      rw [← hM, Int.fmod_eq_emod_of_nonneg _ (by omega)]
      exact ⟨Int.emod_nonneg _ (by omega), Int.emod_lt_of_pos _ (by omega)⟩
    have m3 : mulFit M 48271 = true := by
      have : M.natAbs < 2 ^ 64 := by omega
      simp [mulFit, this]
    have p1 : (0 : Int) ≤ 5 ∧ (5 : Int) ≤ 1000000 ∧ (q + e1 + c2).natAbs < 2 ^ 64 := ⟨by omega, by omega, by omega⟩
    have p2 : (0 : Int) ≤ 3 ∧ (3 : Int) ≤ 1000000 ∧ (M * 48271 + c3 * (c + 1)).natAbs < 2 ^ 64 := ⟨by omega, by omega, by omega⟩
    have z1 : (2147483647 : Int) ≠ 0 := by omega
    have z2 : (2147483587 : Int) ≠ 0 := by omega
    have z3 : (64 : Int) ≠ 0 ∧ (64 : Int).natAbs.log2 < 9000 := by decide
    refine ⟨((((M * 48271 + c3 * (c + 1)) ^ 3).fmod 2147483587).fdiv 64).fmod m, Sz.set b (.lst [.int a, .bl f, .int q, .int (c + 1)]), ?_, ?_, ?_, ⟨a, f, q, c + 1, g2, h2, h3, h4, by omega, by omega⟩, .set, by simp⟩
    · have w1 : opPow (.int (q + e1 + c2)) (.int 5) (Sz.set b (Ob.lst [.int a, .bl f, .int q, .int (c + 1)])) = .ok (.int ((q + e1 + c2) ^ 5)) _ := x_pow _ _ _ p1
      have w2 : opPow (.int (M * 48271 + c3 * (c + 1))) (.int 3) (Sz.set b (Ob.lst [.int a, .bl f, .int q, .int (c + 1)])) = .ok (.int ((M * 48271 + c3 * (c + 1)) ^ 3)) _ := x_pow _ _ _ p2
      have mm1 : ∀ S, opMul (.int c1) (.int (c + 1)) S = .ok (.int e1) S := fun S => by rw [x_mul _ _ _ m1, he1]
      have cond : (f = true ∧ 0 < a) = False := by simpa using hc
      cases f with
      | false => simp [entry, i0, i1, i3, hs, j2, j3, mm1, w1, x_mod _ _ _ z1, hM, x_mul _ _ _ m3, x_mul _ _ _ m2, w2, x_mod _ _ _ z2, x_fdiv _ _ _ z3, x_mod _ _ _ hmz]
      | true =>
        have ha : ¬ 0 < a := fun z => hc ⟨rfl, z⟩
        simp [entry, i0, i1, i3, ha, hs, j2, j3, mm1, w1, x_mod _ _ _ z1, hM, x_mul _ _ _ m3, x_mul _ _ _ m2, w2, x_mod _ _ _ z2, x_fdiv _ _ _ z3, x_mod _ _ _ hmz]
    · rw [Int.fmod_eq_emod_of_nonneg _ (by omega)]
      exact Int.emod_nonneg _ hmz
    · rw [Int.fmod_eq_emod_of_nonneg _ (by omega)]
      exact Int.emod_lt_of_pos _ hm
end DL
end
section
set_option Elab.async false
set_option linter.all false
set_option maxRecDepth 100000
set_option maxHeartbeats 4000000
/-! KS: _law_same of what is the same -/
namespace DL
open PySem PySem.Spec PyProof.Rows L2
variable {k b n : Nat} {A Sz : Sto} {d : D}
noncomputable def sameD (T : Tab) (cl : Str → Cl) : DenS := (sSeq (fIf (fOrT (fBool (fOp (opIs false) (fVar 1) (fC .non))) (fTest (fIsi (ansB T "bool") (fVar 1)))) (sSeq (sRet (fIf (fBool (fOp (opIs false) (fVar 1) (fC .non))) (fOp (opIs false) (fVar 0) (fC .non)) (fAnd (fIsi (ansB T "bool") (fVar 0)) (fOp opEq (fOp (opIs false) (fVar 0) (fC (.bl true))) (fOp (opIs false) (fVar 1) (fC (.bl true))))))) sNil) sNil) (sSeq (fIf (fTest (fIsi (ansB T "int") (fVar 1))) (sSeq (sRet (fAnd (fIsi (ansB T "int") (fVar 0)) (fAnd (fNot (fIsi (ansB T "bool") (fVar 0))) (fOp opEq (fOp opSub (fB (b1 bInt) (fCons (fVar 0) fNil)) (fVar 1)) (fC (.int 0)))))) sNil) sNil) (sSeq (fIf (fTest (fIsi (ansB T "str") (fVar 1))) (sSeq (sRet (fAnd (fIsi (ansB T "str") (fVar 0)) (fAnd (fOp opEq (fB (b1 bLen) (fCons (fVar 0) fNil)) (fB (b1 bLen) (fCons (fVar 1) fNil))) (fOp opEq (fLc (iRng rng1 (fCons (fB (b1 bLen) (fCons (fVar 1) fNil)) fNil)) (tName 2) (fBool (fOp opNe (fSlice (fVar 0) (some (fVar 2)) (some (fOp opAdd (fVar 2) (fC (.int 1))))) (fOp opIdx (fVar 1) (fVar 2)))) (fVar 2) [2]) (fLst fNil))))) sNil) sNil) (sSeq (fIf (fOrT (fBool (fOp opNe (fIsi (ansB T "list") (fVar 0)) (fIsi (ansB T "list") (fVar 1)))) (fBool (fOp opNe (fIsi (ansB T "tuple") (fVar 0)) (fIsi (ansB T "tuple") (fVar 1))))) (sSeq (sRet (fC (.bl false))) sNil) sNil) (sSeq (sRet (fAnd (fOp opEq (fB (b1 bLen) (fCons (fVar 0) fNil)) (fB (b1 bLen) (fCons (fVar 1) fNil))) (fOp opEq (fLc (iRng rng1 (fCons (fB (b1 bLen) (fCons (fVar 1) fNil)) fNil)) (tName 2) (fNotT (fTest (fCall (cl "_law_same") (fCons (fOp opIdx (fVar 0) (fVar 2)) (fCons (fOp opIdx (fVar 1) (fVar 2)) fNil))))) (fVar 2) [2]) (fLst fNil)))) sNil)))))
/-- the same all through, to depth n -/
def Eqv (S : Sto) : Nat → D → D → Prop
  | 0, _, _ => False
  | n + 1, x, y => match y with
    | .non => x = .non
    | .bl b => x = .bl b
    | .int i => x = .int i
    | .str z => x = .str z ∧ z.length ≤ 1000000
    | .tup ys => ∃ xs, x = .tup xs ∧ xs.length = ys.length ∧ ys.length ≤ 1000000 ∧ ∀ i, i < ys.length → Eqv S n (itm xs i) (itm ys i)
    | .ref m => ∃ l xs ys, x = .ref l ∧ S[l]? = some (.lst xs) ∧ S[m]? = some (.lst ys) ∧ xs.length = ys.length ∧ ys.length ≤ 1000000 ∧ ∀ i, i < ys.length → Eqv S n (itm xs i) (itm ys i)
theorem Eqv.ext {S B : Sto} (h : ∀ (l : Nat) (xs : List D), S[l]? = some (Ob.lst xs) → B[l]? = some (Ob.lst xs)) : ∀ {n : Nat} {x y : D}, Eqv S n x y → Eqv B n x y
  | 0, _, _, e => e
  | n + 1, x, y, e => by
    cases y with
    | non => exact e
    | bl b => exact e
    | int i => exact e
    | str z => exact e
    | tup ys =>
      obtain ⟨xs, h1, h2, h3, h4⟩ := e
      exact ⟨xs, h1, h2, h3, fun i hi => Eqv.ext h (h4 i hi)⟩
    | ref m =>
      obtain ⟨l, xs, ys, h1, h2, h3, h4, h5, h6⟩ := e
      exact ⟨l, xs, ys, h1, h _ _ h2, h _ _ h3, h4, h5, fun i hi => Eqv.ext h (h6 i hi)⟩
theorem Eqv.app {S : Sto} {n : Nat} {x y : D} (h : Eqv S n x y) (e : Sto) : Eqv (S ++ e) n x y := h.ext fun _ _ q => at_old q
theorem Eqv.up {S : Sto} : ∀ {n : Nat} {x y : D}, Eqv S n x y → Eqv S (n + 1) x y
  | 0, _, _, e => e.elim
  | n + 1, x, y, e => by
    cases y with
    | non => exact e
    | bl b => exact e
    | int i => exact e
    | str z => exact e
    | tup ys =>
      obtain ⟨xs, h1, h2, h3, h4⟩ := e
      exact ⟨xs, h1, h2, h3, fun i hi => (h4 i hi).up⟩
    | ref m =>
      obtain ⟨l, xs, ys, h1, h2, h3, h4, h5, h6⟩ := e
      exact ⟨l, xs, ys, h1, h2, h3, h4, h5, fun i hi => (h6 i hi).up⟩
section
variable {T : Tab} {cl : Str → Cl}
theorem chr_cut {z : Str} {i : Nat} (h : i < z.length) : ∃ c, L2.atI z.cps.toList (i : Int) = some c ∧ cutS z (some (i : Int)) (some ((i : Int) + 1)) = ⟨#[c]⟩ := by
  have hl : z.cps.toList.length = z.length := by simp [Str.length]
  refine ⟨z.cps.toList[i]'(by omega), ?_, ?_⟩
  · unfold L2.atI ixN
    rw [if_pos (by omega), if_pos (by omega)]
    show z.cps.toList[((i : Int)).toNat]? = _
    rw [Int.toNat_natCast, List.getElem?_eq_getElem (by omega)]
  · unfold cutS
    rw [show ((i : Int) + 1) = ((i + 1 : Nat) : Int) by omega, HT.sIx_nat, HT.sIx_nat, Nat.min_eq_left (by omega), Nat.min_eq_left (by omega)]
    rw [List.drop_eq_getElem_cons (by omega)]
    simp
theorem same_str {z : Str} {o2 : Option D} (hz : z.length ≤ 1000000) : fLc (iRng rng1 (fCons (fB (b1 bLen) (fCons (fVar 1) fNil)) fNil)) (tName 2) (fBool (fOp opNe (fSlice (fVar 0) (some (fVar 2)) (some (fOp opAdd (fVar 2) (fC (.int 1))))) (fOp opIdx (fVar 1) (fVar 2)))) (fVar 2) [2] [some (.str z), some (.str z), o2] Sz = .ok (.ref Sz.length) (Sz ++ [.lst []]) := by
  have hl : bLen (.str z) Sz = .ok (.int z.length) Sz := by
    show optR (if z.length ≤ sizeLine then some z.length else none) _ = _
    rw [if_pos (by rw [sizeLine_eq]; omega)]
    rfl
  rw [x_fLc (i := ⟨rngs 0 1 z.length, fun _ => True⟩) (S1 := Sz) (by
    simp [hl]
    rw [x_rng1 (by omega) (by omega)]
    simp)]
  rw [lcG_pure (fun d => d) (fun _ => false) trivial _ _ (fun t h => by
    obtain ⟨i, hi, rfl⟩ := rngs_mem h
    refine ⟨[some (.str z), some (.str z), some (.int i)], rfl, ?_, nofun⟩
    obtain ⟨c, h1, h2⟩ := chr_cut hi
    have q1 : opCut (.str z) (some (i : Int)) (some ((i : Int) + 1)) Sz = .ok (.str ⟨#[c]⟩) Sz := by
      show (if z.length ≤ sizeLine then R.ok (D.str (cutS z _ _)) Sz else .bad) = _
      rw [if_pos (by rw [sizeLine_eq]; omega), h2]
    have q2 : opIdx (.str z) (.int (i : Int)) Sz = .ok (.str ⟨#[c]⟩) Sz := by
      show (if z.length ≤ sizeLine then optR (L2.atI z.cps.toList (i : Int)) fun c => .ok (.str ⟨#[c]⟩) Sz else .bad) = _
      rw [if_pos (by rw [sizeLine_eq]; omega), h1]
      rfl
    have q3 : opNe (.str ⟨#[c]⟩) (.str ⟨#[c]⟩) Sz = .ok (.bl false) Sz := by
      show R.ok (D.bl (!((⟨#[c]⟩ : Str) == ⟨#[c]⟩))) Sz = _
      simp
    simp [q1, q2, q3])]
  simp [mkLst]
/-- the items, one beside the other -/
theorem same_items {xs ys : List D} {x y : D} {o2 : Option D} {n : Nat} (hcl : ∀ x y S, Eqv S n x y → ∃ e, cl "_law_same" [x, y] S = .ok (.bl true) (S ++ e)) (hx : ∀ e i, i < xs.length → opIdx x (.int (i : Int)) (Sz ++ e) = .ok (itm xs i) (Sz ++ e)) (hy : ∀ e i, i < ys.length → opIdx y (.int (i : Int)) (Sz ++ e) = .ok (itm ys i) (Sz ++ e)) (hly : bLen y Sz = .ok (.int ys.length) Sz)
    (hl : xs.length = ys.length) (hm : ys.length ≤ 1000000) (h : ∀ i, i < ys.length → Eqv Sz n (itm xs i) (itm ys i)) :
    ∃ e, fLc (iRng rng1 (fCons (fB (b1 bLen) (fCons (fVar 1) fNil)) fNil)) (tName 2) (fNotT (fTest (fCall (cl "_law_same") (fCons (fOp opIdx (fVar 0) (fVar 2)) (fCons (fOp opIdx (fVar 1) (fVar 2)) fNil))))) (fVar 2) [2] [some x, some y, o2] Sz = .ok (.ref (Sz ++ e).length) (Sz ++ e ++ [.lst []]) := by
  rw [x_fLc (i := ⟨rngs 0 1 ys.length, fun _ => True⟩) (S1 := Sz) (by
    simp [hly]
    rw [x_rng1 (by omega) (by omega)]
    simp)]
  obtain ⟨out, S', q, e, rfl, rfl⟩ := lcG_inv (g := tName 2) (tt := fNotT (fTest (fCall (cl "_law_same") (fCons (fOp opIdx (fVar 0) (fVar 2)) (fCons (fOp opIdx (fVar 1) (fVar 2)) fNil))))) (te := fVar 2) (ok := fun _ => True) (ρ := [some x, some y, none])
    (fun acc S' => ∃ e, acc = [] ∧ S' = Sz ++ e) (rngs 0 1 ys.length) [] Sz ⟨[], rfl, by simp⟩ (fun _ _ _ => trivial) (by
      rintro v hv acc S1 ⟨e, rfl, rfl⟩
      obtain ⟨i, hi, rfl⟩ := rngs_mem hv
      obtain ⟨e2, q⟩ := hcl _ _ _ ((h i hi).app e)
      refine ⟨_, _, false, Sz ++ e ++ e2, rfl, ?_, fun _ => ⟨e ++ e2, rfl, by rw [List.append_assoc]⟩, nofun⟩
      simp only [x_fNotT, x_fTest, x_fCall, x_fCons, x_fNil, x_fOp, List.set, x_varS, x_var0, R.bind_ok, hx e i (by omega), hy e i hi, q, x_reEv]
      rfl)
  have wd : wipeD [some x, some y, o2] [2] = [some x, some y, none] := rfl
  rw [wd, q]
  exact ⟨e, rfl⟩
theorem eq_nilA (e : Sto) : opEq (.ref (Sz ++ e).length) (.ref ((Sz ++ e ++ [Ob.lst []]).length)) (Sz ++ e ++ [Ob.lst []] ++ [Ob.lst []]) = .ok (.bl true) (Sz ++ e ++ [Ob.lst []] ++ [Ob.lst []]) := by
  have := eq_nil (Sz := Sz ++ e) []
  simp only [List.length_append, List.length_cons, List.length_nil, List.append_assoc, List.cons_append, List.nil_append, Nat.zero_add] at this ⊢
  exact this
theorem same_run {n : Nat} {x y : D} (hcl : ∀ x y S, Eqv S n x y → ∃ e, cl "_law_same" [x, y] S = .ok (.bl true) (S ++ e)) (h : Eqv Sz (n + 1) x y) : ∃ e, strip (sameD T cl (entry 3 [x, y]) Sz) = .ok (.bl true) (Sz ++ e) := by
  have isn : ∀ x S, opIs false x .non S = .ok (.bl (match x with | .non => true | _ => false)) S := fun x S => by cases x <;> rfl
  have ist : ∀ b S, opIs false (.bl b) (.bl true) S = .ok (.bl b) S := fun b S => by cases b <;> rfl
  have eqb : ∀ b S, opEq (.bl b) (.bl b) S = .ok (.bl true) S := fun b S => by cases b <;> rfl
  have neb : ∀ b S, opNe (.bl b) (.bl b) S = .ok (.bl false) S := fun b S => by cases b <;> rfl
  have tb : ∀ b S, tru S (.bl b) = some b := fun b S => rfl
  have an : ∀ t a, ansB T t (.b a) = isB a t := fun t a => rfl
  unfold sameD
  cases y with
  | non =>
    cases h
    exact ⟨[], by simp [entry, isn]⟩
  | bl b =>
    cases h
    exact ⟨[], by simp [entry, isn, ist, eqb, tb, clsD, an, isB, tyNames]⟩
  | int i =>
    cases h
    exact ⟨[], by simp [entry, isn, ist, eqb, tb, clsD, an, isB, tyNames]⟩
  | str z =>
    obtain ⟨rfl, hz⟩ := h
    have hl : ∀ S, bLen (.str z) S = .ok (.int z.length) S := fun S => by
      show optR (if z.length ≤ sizeLine then some z.length else none) _ = _
      rw [if_pos (by rw [sizeLine_eq]; omega)]
      rfl
    have hq := same_str (Sz := Sz) (o2 := none) hz
    have hn := eq_nilA (Sz := Sz) []
    simp only [List.append_nil, List.append_assoc, List.cons_append, List.nil_append, List.length_append, List.length_cons, List.length_nil, Nat.zero_add] at hn
    refine ⟨[.lst [], .lst []], ?_⟩
    simp [entry, isn, tb, clsD, an, isB, tyNames, hl, hq, hn]
  | tup ys =>
    obtain ⟨xs, rfl, hl, hm, hi⟩ := h
    obtain ⟨e, hq⟩ := same_items (Sz := Sz) (x := .tup xs) (y := .tup ys) (o2 := none) hcl (fun e i h => x_idx_get h) (fun e i h => x_idx_get h) rfl hl hm hi
    have hn := eq_nilA (Sz := Sz) e
    refine ⟨e ++ [.lst []] ++ [.lst []], ?_⟩
    generalize hA : Sz ++ e = A at hq hn
    have e1 : Sz ++ (e ++ [Ob.lst []] ++ [Ob.lst []]) = A ++ [Ob.lst []] ++ [Ob.lst []] := by rw [← hA]; simp
    rw [e1]
    simp only [List.append_nil, List.append_assoc, List.cons_append, List.nil_append, List.length_append, List.length_cons, List.length_nil, Nat.zero_add] at hn hq ⊢
    simp [entry, isn, tb, clsD, an, isB, tyNames, hq, hn, hl, neb]
  | ref m =>
    obtain ⟨l, xs, ys, rfl, g1, g2, hl, hm, hi⟩ := h
    obtain ⟨e, hq⟩ := same_items (Sz := Sz) (x := .ref l) (y := .ref m) (xs := xs) (ys := ys) (o2 := none) hcl (fun e i h => x_idx_at (at_old g1) (at_get h)) (fun e i h => x_idx_at (at_old g2) (at_get h)) (x_len_lst _ _ g2) hl hm hi
    have hn := eq_nilA (Sz := Sz) e
    refine ⟨e ++ [.lst []] ++ [.lst []], ?_⟩
    generalize hA : Sz ++ e = A at hq hn
    have e1 : Sz ++ (e ++ [Ob.lst []] ++ [Ob.lst []]) = A ++ [Ob.lst []] ++ [Ob.lst []] := by rw [← hA]; simp
    rw [e1]
    simp only [List.append_nil, List.append_assoc, List.cons_append, List.nil_append, List.length_append, List.length_cons, List.length_nil, Nat.zero_add] at hn hq ⊢
    simp [entry, isn, tb, clsD, g1, g2, an, isB, tyNames, x_len_lst _ _ g1, x_len_lst _ _ g2, hq, hn, hl, neb]
end
end DL
end
section
set_option Elab.async false
set_option linter.all false
set_option maxRecDepth 100000
set_option maxHeartbeats 4000000
/-! K01a: the functions by depth -/
namespace DL
open PySem PySem.Spec PyProof.Rows L2
theorem u_lowest (k : Nat) (ds : List D) (Sz : Sto) : callN es (k + 1) "lowest" ds Sz = strip (d_lowest (callN es k) (entry 3 ds) Sz) := by kernel_rfl
theorem u_added (k : Nat) (ds : List D) (Sz : Sto) : callN es (k + 1) "added" ds Sz = strip (d_added (callN es k) (entry 2 ds) Sz) := by kernel_rfl
theorem u_lessened (k : Nat) (ds : List D) (Sz : Sto) : callN es (k + 1) "lessened" ds Sz = strip (d_lessened (callN es k) (entry 2 ds) Sz) := by kernel_rfl
theorem u_multiplied (k : Nat) (ds : List D) (Sz : Sto) : callN es (k + 1) "multiplied" ds Sz = strip (d_multiplied (callN es k) (entry 2 ds) Sz) := by kernel_rfl
theorem u_divided (k : Nat) (ds : List D) (Sz : Sto) : callN es (k + 1) "divided" ds Sz = strip (d_divided (callN es k) (entry 2 ds) Sz) := by kernel_rfl
theorem u_is_less (k : Nat) (ds : List D) (Sz : Sto) : callN es (k + 1) "is_less" ds Sz = strip (d_is_less (callN es k) (entry 2 ds) Sz) := by kernel_rfl
theorem u_is_integer (k : Nat) (ds : List D) (Sz : Sto) : callN es (k + 1) "is_integer" ds Sz = strip (d_is_integer (callN es k) (entry 1 ds) Sz) := by kernel_rfl
theorem u_is_short (k : Nat) (ds : List D) (Sz : Sto) : callN es (k + 1) "is_short" ds Sz = strip (d_is_short (callN es k) (entry 1 ds) Sz) := by kernel_rfl
theorem u_is_tuple (k : Nat) (ds : List D) (Sz : Sto) : callN es (k + 1) "is_tuple" ds Sz = strip (d_is_tuple (callN es k) (entry 2 ds) Sz) := by kernel_rfl
theorem u_count_in (k : Nat) (ds : List D) (Sz : Sto) : callN es (k + 1) "count_in" ds Sz = strip (d_count_in (callN es k) (entry 3 ds) Sz) := by kernel_rfl
theorem u_integer_in (k : Nat) (ds : List D) (Sz : Sto) : callN es (k + 1) "integer_in" ds Sz = strip (d_integer_in (callN es k) (entry 2 ds) Sz) := by kernel_rfl
theorem u_is_fraction (k : Nat) (ds : List D) (Sz : Sto) : callN es (k + 1) "is_fraction" ds Sz = strip (d_is_fraction (callN es k) (entry 3 ds) Sz) := by kernel_rfl
theorem u_is_writable (k : Nat) (ds : List D) (Sz : Sto) : callN es (k + 1) "is_writable" ds Sz = strip (d_is_writable (callN es k) (entry 1 ds) Sz) := by kernel_rfl
theorem u_check_fractions (k : Nat) (ds : List D) (Sz : Sto) : callN es (k + 1) "check_fractions" ds Sz = strip (d_check_fractions (callN es k) (entry 2 ds) Sz) := by kernel_rfl
theorem u_fraction (k : Nat) (ds : List D) (Sz : Sto) : callN es (k + 1) "fraction" ds Sz = strip (d_fraction (callN es k) (entry 2 ds) Sz) := by kernel_rfl
theorem u_plus (k : Nat) (ds : List D) (Sz : Sto) : callN es (k + 1) "plus" ds Sz = strip (d_plus (callN es k) (entry 2 ds) Sz) := by kernel_rfl
theorem u_minus (k : Nat) (ds : List D) (Sz : Sto) : callN es (k + 1) "minus" ds Sz = strip (d_minus (callN es k) (entry 2 ds) Sz) := by kernel_rfl
theorem u_times (k : Nat) (ds : List D) (Sz : Sto) : callN es (k + 1) "times" ds Sz = strip (d_times (callN es k) (entry 2 ds) Sz) := by kernel_rfl
theorem u_over (k : Nat) (ds : List D) (Sz : Sto) : callN es (k + 1) "over" ds Sz = strip (d_over (callN es k) (entry 2 ds) Sz) := by kernel_rfl
theorem u_below (k : Nat) (ds : List D) (Sz : Sto) : callN es (k + 1) "below" ds Sz = strip (d_below (callN es k) (entry 2 ds) Sz) := by kernel_rfl
theorem u_fraction_text (k : Nat) (ds : List D) (Sz : Sto) : callN es (k + 1) "fraction_text" ds Sz = strip (d_fraction_text (callN es k) (entry 3 ds) Sz) := by kernel_rfl
theorem u_fraction_in (k : Nat) (ds : List D) (Sz : Sto) : callN es (k + 1) "fraction_in" ds Sz = strip (d_fraction_in (callN es k) (entry 6 ds) Sz) := by kernel_rfl
theorem u_write_fraction (k : Nat) (ds : List D) (Sz : Sto) : callN es (k + 1) "write_fraction" ds Sz = strip (d_write_fraction (callN es k) (entry 1 ds) Sz) := by kernel_rfl
theorem u_read_fraction (k : Nat) (ds : List D) (Sz : Sto) : callN es (k + 1) "read_fraction" ds Sz = strip (d_read_fraction (callN es k) (entry 2 ds) Sz) := by kernel_rfl
theorem u__law_cell (k : Nat) (ds : List D) (Sz : Sto) : callN es (k + 1) "_law_cell" ds Sz = strip (d__law_cell (callN es k) (entry 2 ds) Sz) := by kernel_rfl
theorem u__law_box (k : Nat) (ds : List D) (Sz : Sto) : callN es (k + 1) "_law_box" ds Sz = strip (d__law_box (callN es k) (entry 1 ds) Sz) := by kernel_rfl
theorem u__law_take (k : Nat) (ds : List D) (Sz : Sto) : callN es (k + 1) "_law_take" ds Sz = strip (d__law_take (callN es k) (entry 4 ds) Sz) := by kernel_rfl
theorem u__law_same (k : Nat) (ds : List D) (Sz : Sto) : callN es (k + 1) "_law_same" ds Sz = strip (d__law_same (callN es k) (entry 3 ds) Sz) := by kernel_rfl
theorem u__law_shared (k : Nat) (ds : List D) (Sz : Sto) : callN es (k + 1) "_law_shared" ds Sz = strip (d__law_shared (callN es k) (entry 2 ds) Sz) := by kernel_rfl
theorem u__law_frac (k : Nat) (ds : List D) (Sz : Sto) : callN es (k + 1) "_law_frac" ds Sz = strip (d__law_frac (callN es k) (entry 3 ds) Sz) := by kernel_rfl
theorem u__law_whole (k : Nat) (ds : List D) (Sz : Sto) : callN es (k + 1) "_law_whole" ds Sz = strip (d__law_whole (callN es k) (entry 5 ds) Sz) := by kernel_rfl
theorem u__law_bottom (k : Nat) (ds : List D) (Sz : Sto) : callN es (k + 1) "_law_bottom" ds Sz = strip (d__law_bottom (callN es k) (entry 2 ds) Sz) := by kernel_rfl
theorem u__law_pair (k : Nat) (ds : List D) (Sz : Sto) : callN es (k + 1) "_law_pair" ds Sz = strip (d__law_pair (callN es k) (entry 4 ds) Sz) := by kernel_rfl
theorem u__law_due (k : Nat) (ds : List D) (Sz : Sto) : callN es (k + 1) "_law_due" ds Sz = strip (d__law_due (callN es k) (entry 7 ds) Sz) := by kernel_rfl
theorem u__law_told (k : Nat) (ds : List D) (Sz : Sto) : callN es (k + 1) "_law_told" ds Sz = strip (d__law_told (callN es k) (entry 5 ds) Sz) := by kernel_rfl
theorem u__law_is_due (k : Nat) (ds : List D) (Sz : Sto) : callN es (k + 1) "_law_is_due" ds Sz = strip (d__law_is_due (callN es k) (entry 3 ds) Sz) := by kernel_rfl
theorem u__law_near (k : Nat) (ds : List D) (Sz : Sto) : callN es (k + 1) "_law_near" ds Sz = strip (d__law_near (callN es k) (entry 6 ds) Sz) := by kernel_rfl
theorem u__law_shapes_right (k : Nat) (ds : List D) (Sz : Sto) : callN es (k + 1) "_law_shapes_right" ds Sz = strip (d__law_shapes_right (callN es k) (entry 4 ds) Sz) := by kernel_rfl
theorem u__law_made_right (k : Nat) (ds : List D) (Sz : Sto) : callN es (k + 1) "_law_made_right" ds Sz = strip (d__law_made_right (callN es k) (entry 9 ds) Sz) := by kernel_rfl
theorem u__law_text (k : Nat) (ds : List D) (Sz : Sto) : callN es (k + 1) "_law_text" ds Sz = strip (d__law_text (callN es k) (entry 1 ds) Sz) := by kernel_rfl
theorem u__law_texts_right (k : Nat) (ds : List D) (Sz : Sto) : callN es (k + 1) "_law_texts_right" ds Sz = strip (d__law_texts_right (callN es k) (entry 5 ds) Sz) := by kernel_rfl
theorem u__law_read (k : Nat) (ds : List D) (Sz : Sto) : callN es (k + 1) "_law_read" ds Sz = strip (d__law_read (callN es k) (entry 3 ds) Sz) := by kernel_rfl
theorem u__law_written (k : Nat) (ds : List D) (Sz : Sto) : callN es (k + 1) "_law_written" ds Sz = strip (d__law_written (callN es k) (entry 3 ds) Sz) := by kernel_rfl
theorem u__law_great_right (k : Nat) (ds : List D) (Sz : Sto) : callN es (k + 1) "_law_great_right" ds Sz = strip (d__law_great_right (callN es k) (entry 13 ds) Sz) := by kernel_rfl
theorem u__law_cell_right (k : Nat) (ds : List D) (Sz : Sto) : callN es (k + 1) "_law_cell_right" ds Sz = strip (d__law_cell_right (callN es k) (entry 11 ds) Sz) := by kernel_rfl
theorem u_law (k : Nat) (ds : List D) (Sz : Sto) : callN es (k + 1) "law" ds Sz = strip (d_law (callN es k) (entry 2 ds) Sz) := by kernel_rfl
end DL
end
section
set_option Elab.async false
set_option linter.all false
set_option maxRecDepth 100000
set_option maxHeartbeats 4000000
set_option exponentiation.threshold 5000
/-! K01b: fractions: the program's and the law's -/
namespace DL
open PySem PySem.Spec PyProof.Rows L2
variable {k b n : Nat} {A Sz : Sto} {d : D}
theorem r__law_take {N : Nat} {m : Int} (hb : BoxAt b N Sz) (hN : N ≤ 100000) (hm : 0 < m) (hm2 : m ≤ 100000000) :
    ∃ r S', callN es (k + 1) "_law_take" [.ref b, .int m] Sz = .ok (.int r) S' ∧ 0 ≤ r ∧ r < m ∧ BoxAt b (N + 1) S' ∧ ExtB b Sz S' ∧ S'.length = Sz.length := by
  rw [u__law_take]
  exact take_run (c1 := 15485917) (c2 := 179425093) (c3 := 7927) (by decide) (by decide) (by decide) hb hN hm hm2
theorem r__law_same : ∀ (n k : Nat) (x y : D) (S : Sto), Eqv S n x y → ∃ e, callN es (k + n) "_law_same" [x, y] S = .ok (.bl true) (S ++ e)
  | 0, _, _, _, _, h => h.elim
  | n + 1, k, x, y, S, h => by
    obtain ⟨e, q⟩ := same_run (T := T) (cl := callN es (k + n)) (fun x y S h => r__law_same n k x y S h) h
    refine ⟨e, ?_⟩
    rw [show k + (n + 1) = (k + n) + 1 by omega, u__law_same]
    exact q
/-! ### sizes -/
theorem mulFit_of {i j : Int} (hi : i.natAbs < 2 ^ 60000000) (hj : j.natAbs < 2 ^ 60000000) : mulFit i j = true := by
  have h1 : Builtin.Int.intBits i ≤ 60000000 := intBits_le_iff.mpr hi
  have h2 : Builtin.Int.intBits j ≤ 60000000 := intBits_le_iff.mpr hj
  unfold mulFit
  rw [decide_eq_true (show Builtin.Int.intBits i + Builtin.Int.intBits j ≤ 134217728 by omega)]
  simp
/-- at most 300 digits -/
def Sm (i : Int) : Prop := i.natAbs < 10 ^ 600
theorem sm_big {i : Int} (h : Sm i) : i.natAbs < 2 ^ 60000000 := Nat.lt_of_lt_of_le h (Nat.le_trans (show 10 ^ 600 ≤ 2 ^ 2000 by decide +kernel) (Nat.pow_le_pow_right (by decide) (by decide)))
theorem x_mulS {i j : Int} {S : Sto} (hi : Sm i) (hj : Sm j) : opMul (.int i) (.int j) S = .ok (.int (i * j)) S := x_mul _ _ _ (mulFit_of (sm_big hi) (sm_big hj))
theorem sm_log {g : Nat} (h : g < 10 ^ 600) : g.log2 < 9000 := by
  by_cases z : g = 0
  · rw [z]
    decide
  · exact (Nat.log2_lt z).mpr (Nat.lt_trans h (by decide +kernel))
/-! ### the greatest that divides both -/
theorem gcd_loop2 (x2 : Ev) : ∀ (m n : Nat), ∃ f, whileN (fBool (fOp opGt (fVar 1) (fC (.int 0)))) (sSeq (sPar2 0 1 (fCons (fVar 1) (fCons (fOp opMod (fB (b1 bInt) (fCons (fVar 0) fNil)) (fVar 1)) fNil))) sNil) f ([some (.int (n : Int)), some (.int (m : Int))] ++ x2) Sz = .ok (.nx ([some (.int ((Nat.gcd m n : Nat) : Int)), some (.int 0)] ++ x2)) Sz := by
  intro m
  induction m using Nat.strongRecOn with
  | _ m ih =>
    intro n
    by_cases c : m = 0
    · subst c
      exact ⟨1, by rw [whileN_stop (S1 := Sz) (by simp), Nat.gcd_zero_left]; rfl⟩
    · obtain ⟨f, hf⟩ := ih (n % m) (Nat.mod_lt _ (by omega)) m
      refine ⟨f + 1, ?_⟩
      have hm : (m : Int) ≠ 0 := by omega
      have mp : (0 : Int) < (m : Int) := by omega
      rw [whileN_step (ρ2 := [some (.int (m : Int)), some (.int ((n % m : Nat) : Int))] ++ x2) (S1 := Sz) (S2 := Sz) (by simp [mp]; omega) (by simp [sPar2, x_mod _ _ _ hm, fmod_nat]), hf, ← Nat.gcd_rec]
theorem r__law_shared (x y : Int) : callN es (k + 1) "_law_shared" [.int x, .int y] Sz = .ok (.int ((Nat.gcd x.natAbs y.natAbs : Nat) : Int)) Sz := by
  rw [u__law_shared]
  unfold d__law_shared
  obtain ⟨f, hf⟩ := gcd_loop2 (Sz := Sz) [] y.natAbs x.natAbs
  have hw := x_while hf (by simp)
  simp only [List.append_nil] at hw
  simp [entry, sPar2, abs_nat, hw, Nat.gcd_comm]
/-- the fraction that tells one by another -/
def shG (t b : Int) : Int := if 0 < b then ((Nat.gcd t.natAbs b.natAbs : Nat) : Int) else -((Nat.gcd t.natAbs b.natAbs : Nat) : Int)
def lowD (t b : Int) : D := .tup [.int (t.fdiv (shG t b)), .int (b.fdiv (shG t b))]
theorem shG_ok {t b : Int} (hb : b ≠ 0) (hs : Sm b) : shG t b ≠ 0 ∧ (shG t b).natAbs.log2 < 9000 := by
  have hg : 0 < Nat.gcd t.natAbs b.natAbs := Nat.gcd_pos_of_pos_right _ (by omega)
  have hl : Nat.gcd t.natAbs b.natAbs ≤ b.natAbs := Nat.gcd_le_right _ (by omega)
  have hl2 := sm_log (Nat.lt_of_le_of_lt hl hs)
  unfold shG
  split
  · exact ⟨by omega, by rw [Int.natAbs_natCast]; exact hl2⟩
  · exact ⟨by omega, by rw [Int.natAbs_neg, Int.natAbs_natCast]; exact hl2⟩
theorem r__law_frac {t b : Int} (hb : b ≠ 0) (hs : Sm b) : callN es (k + 2) "_law_frac" [.int t, .int b] Sz = .ok (lowD t b) Sz := by
  rw [u__law_frac]
  unfold d__law_frac lowD
  have hg := shG_ok (t := t) hb hs
  by_cases c : 0 < b
  · have e : shG t b = ((Nat.gcd t.natAbs b.natAbs : Nat) : Int) := if_pos c
    rw [e] at hg ⊢
    simp [entry, c, r__law_shared, x_fdiv _ _ _ hg]
  · have e : shG t b = -((Nat.gcd t.natAbs b.natAbs : Nat) : Int) := if_neg c
    rw [e] at hg ⊢
    have e2 : (0 : Int) - ((Nat.gcd t.natAbs b.natAbs : Nat) : Int) = -((Nat.gcd t.natAbs b.natAbs : Nat) : Int) := by omega
    simp [entry, c, r__law_shared, e2, x_fdiv _ _ _ hg]
theorem x_gcd (i j : Int) (S : Sto) : bGcd (.int i) (.int j) S = .ok (.int ((Nat.gcd i.natAbs j.natAbs : Nat) : Int)) S := rfl
theorem r_lowest {t b : Int} (hb : b ≠ 0) (hs : Sm b) : callN es (k + 1) "lowest" [.int t, .int b] Sz = .ok (lowD t b) Sz := by
  rw [u_lowest]
  unfold d_lowest lowD
  have hg := shG_ok (t := t) hb hs
  by_cases c : 0 < b
  · have e : shG t b = ((Nat.gcd t.natAbs b.natAbs : Nat) : Int) := if_pos c
    rw [e] at hg ⊢
    simp [entry, c, x_gcd, x_fdiv _ _ _ hg]
  · have e : shG t b = -((Nat.gcd t.natAbs b.natAbs : Nat) : Int) := if_neg c
    rw [e] at hg ⊢
    simp [entry, c, x_gcd, x_fdiv _ _ _ hg]
/-- a fraction, of so many digits -/
def FrOk (N : Nat) (p q : Int) : Prop := 0 < q ∧ Nat.gcd p.natAbs q.natAbs = 1 ∧ p.natAbs < 10 ^ N ∧ q.natAbs < 10 ^ N
theorem low_fr {t b : Int} {N : Nat} (hb : b ≠ 0) (ht : t.natAbs < 10 ^ N) (hs : b.natAbs < 10 ^ N) : ∃ p q, lowD t b = .tup [.int p, .int q] ∧ FrOk N p q ∧ (t ≠ 0 → p ≠ 0) := by
  have hg : 0 < Nat.gcd t.natAbs b.natAbs := Nat.gcd_pos_of_pos_right _ (by omega)
  refine ⟨_, _, rfl, ?_⟩
  have key : ∀ (g : Nat) (x : Int) (s : Int), 0 < g → (s = 1 ∨ s = -1) → (g : Nat) ∣ x.natAbs → (x.fdiv (s * g)) = s * (x / (g : Int)) ∧ (x / (g : Int)).natAbs = x.natAbs / g := fun g x s h0 hs hd => by
    obtain ⟨c, hc⟩ := hd
    have hx : x = (g : Int) * (if 0 ≤ x then (c : Int) else -(c : Int)) := by
      split
      · have : x = ((x.natAbs : Nat) : Int) := by omega
        rw [this, hc]
        push_cast
        rfl
      · have : x = -((x.natAbs : Nat) : Int) := by omega
        rw [this, hc]
        push_cast
        rw [Int.mul_neg]
    generalize (if 0 ≤ x then (c : Int) else -(c : Int)) = y at hx
    subst hx
    have hg0 : (g : Int) ≠ 0 := by omega
    rw [Int.mul_ediv_cancel_left _ hg0]
    constructor
    · rcases hs with rfl | rfl
      · rw [Int.one_mul, Int.one_mul, Int.mul_fdiv_cancel_left _ hg0]
      · rw [show (-1 : Int) * (g : Int) = -(g : Int) by omega, show (g : Int) * y = (-(g : Int)) * (-y) by rw [Int.neg_mul_neg], Int.mul_fdiv_cancel_left _ (by omega)]
        omega
    · rw [Int.natAbs_mul, Int.natAbs_natCast, Nat.mul_div_cancel_left _ h0]
  have hd1 : Nat.gcd t.natAbs b.natAbs ∣ t.natAbs := Nat.gcd_dvd_left _ _
  have hd2 : Nat.gcd t.natAbs b.natAbs ∣ b.natAbs := Nat.gcd_dvd_right _ _
  have cop : Nat.gcd (t.natAbs / Nat.gcd t.natAbs b.natAbs) (b.natAbs / Nat.gcd t.natAbs b.natAbs) = 1 := by
    rw [Nat.gcd_div hd1 hd2, Nat.div_self hg]
  have l1 : t.natAbs / Nat.gcd t.natAbs b.natAbs ≤ t.natAbs := Nat.div_le_self _ _
  have l2 : b.natAbs / Nat.gcd t.natAbs b.natAbs ≤ b.natAbs := Nat.div_le_self _ _
  have bp : 0 < b.natAbs / Nat.gcd t.natAbs b.natAbs := Nat.div_pos (Nat.le_of_dvd (by omega) hd2) hg
  have tz : t ≠ 0 → 0 < t.natAbs / Nat.gcd t.natAbs b.natAbs := fun h => Nat.div_pos (Nat.le_of_dvd (by omega) hd1) hg
  generalize hgg : Nat.gcd t.natAbs b.natAbs = g at *
  have es : ∃ s : Int, (s = 1 ∨ s = -1) ∧ shG t b = s * (g : Int) ∧ 0 < s * (b / (g : Int)) := by
    by_cases c : 0 < b
    · refine ⟨1, .inl rfl, by unfold shG; rw [if_pos c, hgg, Int.one_mul], ?_⟩
      have := (key g b 1 hg (.inl rfl) hd2).2
      have h0 : 0 ≤ b / (g : Int) := Int.ediv_nonneg (by omega) (by omega)
      omega
    · refine ⟨-1, .inr rfl, by unfold shG; rw [if_neg c, hgg]; omega, ?_⟩
      have := (key g b 1 hg (.inl rfl) hd2).2
      have h0 : b / (g : Int) ≤ 0 := by
        have : b ≤ 0 := by omega
        exact Int.ediv_nonpos_of_nonpos_of_neg this (by omega)
      omega
  obtain ⟨s, hs1, hs2, hs3⟩ := es
  obtain ⟨a1, a2⟩ := key g t s hg hs1 hd1
  obtain ⟨c1, c2⟩ := key g b s hg hs1 hd2
  rw [hs2, a1, c1]
  have n1 : (s * (t / (g : Int))).natAbs = t.natAbs / g := by
    rw [Int.natAbs_mul, a2]
    rcases hs1 with rfl | rfl <;> simp
  have n2 : (s * (b / (g : Int))).natAbs = b.natAbs / g := by
    rw [Int.natAbs_mul, c2]
    rcases hs1 with rfl | rfl <;> simp
  refine ⟨⟨hs3, by rw [n1, n2]; exact cop, by rw [n1]; omega, by rw [n2]; omega⟩, fun h z => ?_⟩
  have := tz h
  rw [z] at n1
  simp at n1
  omega
end DL
end
section
set_option Elab.async false
set_option linter.all false
set_option maxRecDepth 100000
set_option maxHeartbeats 4000000
set_option exponentiation.threshold 5000
/-! K01c: what is a fraction: both answers -/
namespace DL
open PySem PySem.Spec PyProof.Rows L2
inductive VS (Sz : Sto) : D → Prop
  | non : VS Sz .non
  | bl (b : Bool) : VS Sz (.bl b)
  | int {i : Int} (h : i.natAbs < 10 ^ 600) : VS Sz (.int i)
  | str (s : Str) : VS Sz (.str s)
  | tup {ds : List D} (h : ∀ d ∈ ds, VS Sz d) : VS Sz (.tup ds)
  | lst {l : Nat} {xs : List D} (h : Sz[l]? = some (.lst xs)) : VS Sz (.ref l)
  | dct {l : Nat} {xs : List (Key × D)} (h : Sz[l]? = some (.dct xs)) : VS Sz (.ref l)
@[simp] theorem a_int_NoneType : ansB T "int" (.b "NoneType") = some false := rfl
@[simp] theorem a_int_bool : ansB T "int" (.b "bool") = some true := rfl
@[simp] theorem a_int_int : ansB T "int" (.b "int") = some true := rfl
@[simp] theorem a_int_str : ansB T "int" (.b "str") = some false := rfl
@[simp] theorem a_int_tuple : ansB T "int" (.b "tuple") = some false := rfl
@[simp] theorem a_bool_NoneType : ansB T "bool" (.b "NoneType") = some false := rfl
@[simp] theorem a_bool_bool : ansB T "bool" (.b "bool") = some true := rfl
@[simp] theorem a_bool_int : ansB T "bool" (.b "int") = some false := rfl
@[simp] theorem a_bool_str : ansB T "bool" (.b "str") = some false := rfl
@[simp] theorem a_bool_tuple : ansB T "bool" (.b "tuple") = some false := rfl
@[simp] theorem a_tuple_NoneType : ansB T "tuple" (.b "NoneType") = some false := rfl
@[simp] theorem a_tuple_bool : ansB T "tuple" (.b "bool") = some false := rfl
@[simp] theorem a_tuple_int : ansB T "tuple" (.b "int") = some false := rfl
@[simp] theorem a_tuple_str : ansB T "tuple" (.b "str") = some false := rfl
@[simp] theorem a_tuple_tuple : ansB T "tuple" (.b "tuple") = some true := rfl
section
variable {Sz : Sto} {d : D}
theorem isi_int (h : VS Sz d) : (optR (clsD Sz d) fun t => optR (ansB T "int" t) fun b => .ok (.bl b) Sz) = .ok (.bl (kInt d)) Sz := by
  cases h with
  | lst h => simp only [clsD, h]; rfl
  | dct h => simp only [clsD, h]; rfl
  | _ => rfl
theorem isi_bool (h : VS Sz d) : (optR (clsD Sz d) fun t => optR (ansB T "bool" t) fun b => .ok (.bl b) Sz) = .ok (.bl (kBool d)) Sz := by
  cases h with
  | lst h => simp only [clsD, h]; rfl
  | dct h => simp only [clsD, h]; rfl
  | _ => rfl
theorem isi_tuple (h : VS Sz d) : (optR (clsD Sz d) fun t => optR (ansB T "tuple" t) fun b => .ok (.bl b) Sz) = .ok (.bl (kTup d)) Sz := by
  cases h with
  | lst h => simp only [clsD, h]; rfl
  | dct h => simp only [clsD, h]; rfl
  | _ => rfl
end
variable {k b n : Nat} {A Sz : Sto} {d : D}
theorem r_is_integer (h : VS Sz d) : callN es (k + 1) "is_integer" [d] Sz = .ok (.bl (isIntD d)) Sz := by
  rw [u_is_integer]
  simp only [d_is_integer, x_entry, List.map, List.length_cons, List.length_nil, List.cons_append, List.nil_append, x_sSeq, x_sRet, x_fAnd, x_fNot, x_fIsi, x_var0, R.bind_ok, isi_int h, isi_bool h, t_bl, x_andK, x_optB, x_goOn_ret, bind_ite, x_strip_ret]
  cases d <;> rfl
theorem r_is_tuple {n : Int} (h : VS Sz d) : callN es (k + 1) "is_tuple" [d, .int n] Sz = .ok (.bl (tupN n d)) Sz := by
  rw [u_is_tuple]
  unfold d_is_tuple
  simp only [entry, List.map, List.length_cons, List.length_nil, List.cons_append, List.nil_append, x_sSeq, x_sRet, x_fAnd, x_fIsi, x_var0, x_varS, R.bind_ok, isi_tuple h, t_bl, x_andK]
  cases d <;> simp [kTup, tupN]
def fracD : D → Bool
  | .tup [.int a, .int b] => decide (0 < b) && decide (Nat.gcd a.natAbs b.natAbs = 1)
  | _ => false
theorem fracD_no {d : D} (c : tupN 2 d = false) : fracD d = false := by
  unfold fracD
  split
  · simp [tupN] at c
  · rfl
theorem VS.two {a b : D} (h : VS Sz (.tup [a, b])) : VS Sz a ∧ VS Sz b := by
  cases h with
  | tup h => exact ⟨h a (by simp), h b (by simp)⟩
theorem r_is_fraction (h : VS Sz d) : callN es (k + 2) "is_fraction" [d] Sz = .ok (.bl (fracD d)) Sz := by
  rw [u_is_fraction]
  simp [d_is_fraction, entry, r_is_tuple h]
  cases c : tupN 2 d with
  | false =>
    simp [fracD_no c]
  | true =>
    obtain ⟨a, b, rfl⟩ := tupN_2 c
    obtain ⟨h1, h2⟩ := h.two
    simp [r_is_integer h1, r_is_integer h2]
    cases a with
    | int i =>
      cases b with
      | int j =>
        simp [isIntD, fracD]
        by_cases z : 0 < j <;> simp [z]
        norm_cast
      | _ => simp [isIntD, fracD]
    | _ => simp [isIntD, fracD]
theorem fracD_yes {d : D} (h : fracD d = true) : ∃ a b, d = .tup [.int a, .int b] := by
  unfold fracD at h
  split at h
  · exact ⟨_, _, rfl⟩
  · cases h
end DL
end
section
set_option Elab.async false
set_option linter.all false
set_option maxRecDepth 100000
set_option maxHeartbeats 4000000
set_option exponentiation.threshold 5000
/-! K01d: sums, differences, products, quotients, order: told and due -/
namespace DL
open PySem PySem.Spec PyProof.Rows L2
variable {k b n : Nat} {A Sz : Sto} {d : D}
theorem kTup_false {d : D} (h : VS Sz d) (c : kTup d = false) : fracD d = false := by
  cases d <;> first | rfl | cases c
theorem r__law_is_due (h : VS Sz d) : callN es (k + 2) "_law_is_due" [d] Sz = .ok (.bl (fracD d)) Sz := by
  rw [u__law_is_due]
  unfold d__law_is_due
  cases c : kTup d with
  | false => simp [entry, isi_tuple h, c, kTup_false h c]
  | true =>
    cases d with
    | tup xs =>
      by_cases hl : xs.length = 2
      · obtain ⟨x, y, hxy⟩ := tupN_2 (d := .tup xs) (by simp [tupN, hl])
        cases hxy
        obtain ⟨h1, h2⟩ := h.two
        have t2 : tupN 2 (.tup [x, y]) = true := rfl
        cases x with
        | int i =>
          cases y with
          | int j =>
            by_cases z : 0 < j
            · simp [entry, isi_tuple h, kTup, isi_int h1, isi_int h2, isi_bool h1, isi_bool h2, kInt, kBool, r__law_shared, z, fracD]
              norm_cast
            · simp [entry, isi_tuple h, kTup, isi_int h1, isi_int h2, isi_bool h1, isi_bool h2, kInt, kBool, r__law_shared, z, fracD]
          | _ => simp [entry, isi_tuple h, kTup, isi_int h1, isi_int h2, isi_bool h1, isi_bool h2, kInt, kBool, fracD]
        | bl c =>
          cases hy : kInt y <;> simp [entry, isi_tuple h, kTup, isi_int h1, isi_int h2, isi_bool h1, isi_bool h2, kInt, kBool, hy, fracD]
        | _ => simp [entry, isi_tuple h, kTup, isi_int h1, isi_int h2, isi_bool h1, isi_bool h2, kInt, kBool, fracD]
      · have hl2 : ¬ ((xs.length : Int) = 2) := by omega
        have : fracD (.tup xs) = false := fracD_no (by simp [tupN, hl2])
        simp [entry, isi_tuple h, kTup, hl2, this]
    | _ => cases c
/-- a fraction as a value -/
def fr (p q : Int) : D := .tup [.int p, .int q]
theorem Sm.of {N : Nat} {i : Int} (h : i.natAbs < 10 ^ N) (hN : N ≤ 600) : Sm i := Nat.lt_of_lt_of_le h (Nat.pow_le_pow_right (by decide) hN)
theorem mul_lt {N M : Nat} {i j : Int} (hi : i.natAbs < 10 ^ N) (hj : j.natAbs < 10 ^ M) : (i * j).natAbs < 10 ^ (N + M) := by
  rw [Int.natAbs_mul, Nat.pow_add]
  exact Nat.mul_lt_mul'' hi hj
theorem FrOk.vs {N : Nat} {p q : Int} (h : FrOk N p q) (hN : N ≤ 600) : VS Sz (fr p q) := .tup (all_cons (.int (Sm.of h.2.2.1 hN)) (all_cons (.int (Sm.of h.2.2.2 hN)) all_nil))
theorem FrOk.frac {N : Nat} {p q : Int} (h : FrOk N p q) : fracD (fr p q) = true := by
  show (decide (0 < q) && decide (Nat.gcd p.natAbs q.natAbs = 1)) = true
  rw [decide_eq_true h.1, decide_eq_true h.2.1]
  rfl
section
variable {N : Nat} {p q r s : Int}
theorem r_check_fractions (h1 : FrOk N p q) (h2 : FrOk N r s) (hN : N ≤ 250) : callN es (k + 3) "check_fractions" [fr p q, fr r s] Sz = .ok .non Sz := by
  rw [u_check_fractions]
  unfold d_check_fractions
  simp [entry, r_is_fraction (h1.vs (by omega)), r_is_fraction (h2.vs (by omega)), h1.frac, h2.frac]
theorem fr_idx0 (S : Sto) : opIdx (fr p q) (.int 0) S = .ok (.int p) S := rfl
theorem fr_idx1 (S : Sto) : opIdx (fr p q) (.int 1) S = .ok (.int q) S := rfl
theorem prod_ne (h1 : FrOk N p q) (h2 : FrOk N r s) : q * s ≠ 0 := by
  have := Int.mul_pos h1.1 h2.1
  omega
theorem prod_sm (hq : q.natAbs < 10 ^ N) (hs : s.natAbs < 10 ^ N) (hN : N ≤ 250) : Sm (q * s) := Sm.of (mul_lt hq hs) (by omega)
theorem r_plus (h1 : FrOk N p q) (h2 : FrOk N r s) (hN : N ≤ 250) : callN es (k + 4) "plus" [fr p q, fr r s] Sz = .ok (lowD (p * s + r * q) (q * s)) Sz := by
  rw [u_plus]
  unfold d_plus
  have m : ∀ {i j : Int} {S : Sto}, i.natAbs < 10 ^ N → j.natAbs < 10 ^ N → opMul (.int i) (.int j) S = .ok (.int (i * j)) S := fun hi hj => x_mulS (Sm.of hi (by omega)) (Sm.of hj (by omega))
  have ad : ∀ S, callN es (k + 3) "added" [fr p q, fr r s] S = .ok (lowD (p * s + r * q) (q * s)) S := fun S => by
    rw [u_added]
    unfold d_added
    simp [entry, fr_idx0, fr_idx1, m h1.2.2.1 h2.2.2.2, m h2.2.2.1 h1.2.2.2, m h1.2.2.2 h2.2.2.2, r_lowest (prod_ne h1 h2) (prod_sm h1.2.2.2 h2.2.2.2 hN)]
  simp [entry, r_check_fractions h1 h2 hN, ad]
theorem r_minus (h1 : FrOk N p q) (h2 : FrOk N r s) (hN : N ≤ 250) : callN es (k + 4) "minus" [fr p q, fr r s] Sz = .ok (lowD (p * s - r * q) (q * s)) Sz := by
  rw [u_minus]
  unfold d_minus
  have m : ∀ {i j : Int} {S : Sto}, i.natAbs < 10 ^ N → j.natAbs < 10 ^ N → opMul (.int i) (.int j) S = .ok (.int (i * j)) S := fun hi hj => x_mulS (Sm.of hi (by omega)) (Sm.of hj (by omega))
  have ad : ∀ S, callN es (k + 3) "lessened" [fr p q, fr r s] S = .ok (lowD (p * s - r * q) (q * s)) S := fun S => by
    rw [u_lessened]
    unfold d_lessened
    simp [entry, fr_idx0, fr_idx1, m h1.2.2.1 h2.2.2.2, m h2.2.2.1 h1.2.2.2, m h1.2.2.2 h2.2.2.2, r_lowest (prod_ne h1 h2) (prod_sm h1.2.2.2 h2.2.2.2 hN)]
  simp [entry, r_check_fractions h1 h2 hN, ad]
theorem r_times (h1 : FrOk N p q) (h2 : FrOk N r s) (hN : N ≤ 250) : callN es (k + 4) "times" [fr p q, fr r s] Sz = .ok (lowD (p * r) (q * s)) Sz := by
  rw [u_times]
  unfold d_times
  have m : ∀ {i j : Int} {S : Sto}, i.natAbs < 10 ^ N → j.natAbs < 10 ^ N → opMul (.int i) (.int j) S = .ok (.int (i * j)) S := fun hi hj => x_mulS (Sm.of hi (by omega)) (Sm.of hj (by omega))
  have ad : ∀ S, callN es (k + 3) "multiplied" [fr p q, fr r s] S = .ok (lowD (p * r) (q * s)) S := fun S => by
    rw [u_multiplied]
    unfold d_multiplied
    simp [entry, fr_idx0, fr_idx1, m h1.2.2.1 h2.2.2.1, m h1.2.2.2 h2.2.2.2, r_lowest (prod_ne h1 h2) (prod_sm h1.2.2.2 h2.2.2.2 hN)]
  simp [entry, r_check_fractions h1 h2 hN, ad]
theorem r_over (h1 : FrOk N p q) (h2 : FrOk N r s) (hN : N ≤ 250) (hr : r ≠ 0) : callN es (k + 4) "over" [fr p q, fr r s] Sz = .ok (lowD (p * s) (q * r)) Sz := by
  rw [u_over]
  unfold d_over
  have m : ∀ {i j : Int} {S : Sto}, i.natAbs < 10 ^ N → j.natAbs < 10 ^ N → opMul (.int i) (.int j) S = .ok (.int (i * j)) S := fun hi hj => x_mulS (Sm.of hi (by omega)) (Sm.of hj (by omega))
  have hq0 : q ≠ 0 := by have := h1.1; omega
  have ad : ∀ S, callN es (k + 3) "divided" [fr p q, fr r s] S = .ok (lowD (p * s) (q * r)) S := fun S => by
    rw [u_divided]
    unfold d_divided
    simp [entry, fr_idx0, fr_idx1, m h1.2.2.1 h2.2.2.2, m h1.2.2.2 h2.2.2.1, r_lowest (Int.mul_ne_zero hq0 hr) (prod_sm h1.2.2.2 h2.2.2.1 hN)]
  have ez : ∀ S, opEq (fr r s) c_ZERO S = .ok (.bl false) S := fun S => by
    show opEq (.tup [.int r, .int s]) (.tup [.int 0, .int 1]) S = _
    rw [eq_ints2, decide_eq_false hr]
    rfl
  simp [entry, r_check_fractions h1 h2 hN, ad, ez]
theorem r_below (h1 : FrOk N p q) (h2 : FrOk N r s) (hN : N ≤ 250) : callN es (k + 4) "below" [fr p q, fr r s] Sz = .ok (.bl (decide (p * s < r * q))) Sz := by
  rw [u_below]
  unfold d_below
  have m : ∀ {i j : Int} {S : Sto}, i.natAbs < 10 ^ N → j.natAbs < 10 ^ N → opMul (.int i) (.int j) S = .ok (.int (i * j)) S := fun hi hj => x_mulS (Sm.of hi (by omega)) (Sm.of hj (by omega))
  have ad : ∀ S, callN es (k + 3) "is_less" [fr p q, fr r s] S = .ok (.bl (decide (p * s < r * q))) S := fun S => by
    rw [u_is_less]
    unfold d_is_less
    simp [entry, fr_idx0, fr_idx1, m h1.2.2.1 h2.2.2.2, m h2.2.2.1 h1.2.2.2]
  simp [entry, r_check_fractions h1 h2 hN, ad]
/-- what is due -/
def dueL (a b c d : Int) : List D := [lowD (a * d + c * b) (b * d), lowD (a * d - c * b) (b * d), lowD (a * c) (b * d), if c = 0 then .non else lowD (a * d) (b * c), .bl (decide (a * d < c * b))]
theorem r__law_due (h1 : FrOk N p q) (h2 : FrOk N r s) (hN : N ≤ 250) : callN es (k + 3) "_law_due" [fr p q, fr r s] Sz = .ok (.ref Sz.length) (Sz ++ [.lst (dueL p q r s)]) := by
  rw [u__law_due]
  unfold d__law_due dueL
  have m : ∀ {i j : Int} {S : Sto}, i.natAbs < 10 ^ N → j.natAbs < 10 ^ N → opMul (.int i) (.int j) S = .ok (.int (i * j)) S := fun hi hj => x_mulS (Sm.of hi (by omega)) (Sm.of hj (by omega))
  have hq0 : q ≠ 0 := by have := h1.1; omega
  have f1 : ∀ t S, callN es (k + 2) "_law_frac" [.int t, .int (q * s)] S = .ok (lowD t (q * s)) S := fun t S => r__law_frac (prod_ne h1 h2) (prod_sm h1.2.2.2 h2.2.2.2 hN)
  have ps : ∀ S, opMul (.int p) (.int s) S = .ok (.int (p * s)) S := fun S => m h1.2.2.1 h2.2.2.2
  have rq : ∀ S, opMul (.int r) (.int q) S = .ok (.int (r * q)) S := fun S => m h2.2.2.1 h1.2.2.2
  have qs : ∀ S, opMul (.int q) (.int s) S = .ok (.int (q * s)) S := fun S => m h1.2.2.2 h2.2.2.2
  have pr : ∀ S, opMul (.int p) (.int r) S = .ok (.int (p * r)) S := fun S => m h1.2.2.1 h2.2.2.1
  have qr : ∀ S, opMul (.int q) (.int r) S = .ok (.int (q * r)) S := fun S => m h1.2.2.2 h2.2.2.1
  by_cases z : r = 0
  · subst z
    simp [entry, fr, ps, rq, qs, pr, qr, f1]
  · have f2 : ∀ t S, callN es (k + 2) "_law_frac" [.int t, .int (q * r)] S = .ok (lowD t (q * r)) S := fun t S => r__law_frac (Int.mul_ne_zero hq0 z) (prod_sm h1.2.2.2 h2.2.2.1 hN)
    simp [entry, fr, z, ps, rq, qs, pr, qr, f1, f2]
theorem by_oo (x y : D) : byName [((S "one"), x), ((S "other"), y)] .non [(S "one"), (S "other")] = [x, y] := rfl
theorem by_to (x y : D) : byName [((S "other"), y), ((S "one"), x)] .non [(S "one"), (S "other")] = [x, y] := rfl
theorem r__law_told (c : Bool) (h1 : FrOk N p q) (h2 : FrOk N r s) (hN : N ≤ 250) : ∃ l e, callN es (k + 5) "_law_told" [fr p q, fr r s, .bl c] Sz = .ok (.ref l) (Sz ++ e) ∧ (Sz ++ e)[l]? = some (.lst (dueL p q r s)) := by
  rw [u__law_told]
  unfold d__law_told dueL
  have pl := fun S => r_plus (k := k) (Sz := S) h1 h2 hN
  have mi := fun S => r_minus (k := k) (Sz := S) h1 h2 hN
  have ti := fun S => r_times (k := k) (Sz := S) h1 h2 hN
  have be := fun S => r_below (k := k) (Sz := S) h1 h2 hN
  have at2 : ∀ (a b c : List D), (Sz ++ [Ob.lst a, Ob.lst b, Ob.lst c])[Sz.length + 2]? = some (.lst c) := fun a b c => at_plus (A := Sz) (e := [Ob.lst a, Ob.lst b, Ob.lst c]) (i := 2)
  by_cases z : r = 0
  · subst z
    cases c with
    | false => exact ⟨_, _, by simp [entry, fr_idx0, pl, mi, ti, be], at_new _⟩
    | true =>
      refine ⟨Sz.length + 2, [.lst [lowD (p * s + 0 * q) (q * s), lowD (p * s - 0 * q) (q * s), lowD (p * 0) (q * s)], .lst [.non, .bl (decide (p * s < 0 * q))], .lst [lowD (p * s + 0 * q) (q * s), lowD (p * s - 0 * q) (q * s), lowD (p * 0) (q * s), .non, .bl (decide (p * s < 0 * q))]], ?_, at2 _ _ _⟩
      simp [entry, fr_idx0, pl, mi, ti, be, by_oo, by_to, x_addAt0, isL, getL]
  · have ov := fun S => r_over (k := k) (Sz := S) h1 h2 hN z
    cases c with
    | false => exact ⟨_, _, by simp [entry, fr_idx0, pl, mi, ti, be, ov, z], at_new _⟩
    | true =>
      refine ⟨Sz.length + 2, [.lst [lowD (p * s + r * q) (q * s), lowD (p * s - r * q) (q * s), lowD (p * r) (q * s)], .lst [lowD (p * s) (q * r), .bl (decide (p * s < r * q))], .lst [lowD (p * s + r * q) (q * s), lowD (p * s - r * q) (q * s), lowD (p * r) (q * s), lowD (p * s) (q * r), .bl (decide (p * s < r * q))]], ?_, by rw [if_neg z]; exact at2 _ _ _⟩
      simp [entry, fr_idx0, pl, mi, ti, be, ov, by_oo, by_to, x_addAt0, isL, getL, z]
end
end DL
end
section
set_option Elab.async false
set_option linter.all false
set_option maxRecDepth 100000
set_option maxHeartbeats 4000000
set_option exponentiation.threshold 5000
/-! K01e: values near a fraction -/
namespace DL
open PySem PySem.Spec PyProof.Rows L2
variable {k b n : Nat} {A Sz : Sto} {d : D} {p q : Int}
theorem sm0 (i : Int) (h : i.natAbs < 10 ^ 60) : VS Sz (.int i) := .int (Sm.of h (by omega))
theorem x_pow10 (n : Nat) (h : n ≤ 1000) (S : Sto) : opPow (.int 10) (.int (n : Int)) S = .ok (.int (10 ^ n)) S := by
  rw [x_pow _ _ _ ⟨by omega, by omega, by decide⟩]
  simp
theorem fmod_bd {i m : Int} (hm : 0 < m) : 0 ≤ i.fmod m ∧ i.fmod m < m := by
  rw [Int.fmod_eq_emod_of_nonneg _ (by omega)]
  exact ⟨Int.emod_nonneg _ (by omega), Int.emod_lt_of_pos _ hm⟩
/-- what is told of such a list -/
def NearQ (b N : Nat) (Sz : Sto) (v : D) (S' : Sto) : Prop := ∃ l vs, v = .ref l ∧ l ≠ b ∧ S'[l]? = some (.lst vs) ∧ (∀ v ∈ vs, VS S' v) ∧ BoxAt b (N + 1) S' ∧ ExtB b Sz S'
theorem r__law_near {N : Nat} (hb : BoxAt b N Sz) (hN : N ≤ 90000) (h : FrOk 41 p q) : ∃ l vs S', callN es (k + 3) "_law_near" [.ref b, fr p q] Sz = .ok (.ref l) S' ∧ l ≠ b ∧ S'[l]? = some (.lst vs) ∧ (∀ v ∈ vs, VS S' v) ∧ BoxAt b (N + 1) S' ∧ ExtB b Sz S' := by
  rw [u__law_near]
  unfold d__law_near
  obtain ⟨r, S1, q1, r0, r1, b1, x1, l1⟩ := r__law_take (k := k + 1) (m := 9) hb (by omega) (by omega) (by omega)
  suffices hs : Runs _ (NearQ b N Sz) from by
    obtain ⟨v, S', h1, l, vs, rfl, h2⟩ := hs
    exact ⟨l, vs, S', h1, h2⟩
  refine runs_seq (runs_eq (ρ := [some (.ref b), some (fr p q), some (.int (2 + r)), some (.int p), some (.int q), none]) (Sz := S1) (by
    simp [entry, q1, fr]) ?_)
  obtain ⟨B38, hB38⟩ : ∃ B : Int, B = 10 ^ 38 := ⟨_, rfl⟩
  obtain ⟨B19, hB19⟩ : ∃ B : Int, B = 10 ^ 19 := ⟨_, rfl⟩
  have p38 : ∀ S, opPow (.int 10) (.int 38) S = .ok (.int B38) S := fun S => by rw [hB38]; exact x_pow10 38 (by omega) S
  have p19 : ∀ S, opPow (.int 10) (.int 19) S = .ok (.int B19) S := fun S => by rw [hB19]; exact x_pow10 19 (by omega) S
  have m19 : B19 ≠ 0 := by omega
  have m38 : B38 ≠ 0 := by omega
  refine runs_seq ?_
  suffices hs : RunsF _ (fun ρ' S' => S' = S1 ∧ ∃ t u : Int, ρ' = [some (.ref b), some (fr p q), some (.int (2 + r)), some (.int t), some (.int u), none] ∧ t.natAbs < 10 ^ 41 ∧ u.natAbs < 10 ^ 41) from by
    obtain ⟨ρ', S', h1, rfl, t, u, rfl, ht, hu⟩ := hs
    refine ⟨_, _, h1, ?_⟩
    have f2 : (2 + r).natAbs < 2 ^ 64 := by omega
    have mt : ∀ S, opMul (.int t) (.int (2 + r)) S = .ok (.int (t * (2 + r))) S := fun S => x_mul _ _ _ (by simp [mulFit, f2])
    have mu : ∀ S, opMul (.int u) (.int (2 + r)) S = .ok (.int (u * (2 + r))) S := fun S => x_mul _ _ _ (by simp [mulFit, f2])
    have fd : ∀ x y z w S, fDict [(fVar 3, fVar 4)] [x, y, z, some (.int t), some (.int u), w] S = .ok (.ref S.length) (S ++ [.dct [(.inl t, .int u)]]) := fun x y z w S => x_fDictV rfl rfl
    have bs : ∀ S, bStr (.int u) S = .ok (.str (txt u)) S := fun S => x_bStr (by omega)
    have vt : ∀ {S}, VS S (.int t) := sm0 t (by omega)
    have vu : ∀ {S}, VS S (.int u) := sm0 u (by omega)
    have vr : ∀ {S}, VS S (.int (2 + r)) := sm0 _ (by omega)
    have c10 : (2 + r).natAbs < 10 ^ 2 := by omega
    have vtm : ∀ {S}, VS S (.int (t * (2 + r))) := .int (Sm.of (mul_lt ht c10) (by omega))
    have vum : ∀ {S}, VS S (.int (u * (2 + r))) := .int (Sm.of (mul_lt hu c10) (by omega))
    have bl := b1.lt
    simp [mt, mu, fd, bs, x_addAt, x_addAt0, isL, getL, Nat.add_assoc]
    refine ⟨_, _, rfl, S'.length + 9, _, rfl, by omega, at_plus (i := 9), ?_, b1.app _, x1.trans (.app _)⟩
    generalize hB : S' ++ [_, _, _, _, _, _, _, _, _, _] = B
    have g0 : VS B (.ref S'.length) := .lst (xs := [.int t, .int u]) (by rw [← hB]; exact at_plus (i := 0))
    have g2 : VS B (.ref (S'.length + 2)) := .dct (xs := [(.inl t, .int u)]) (by rw [← hB]; exact at_plus (i := 2))
    have g5 : VS B (.ref (S'.length + 5)) := .lst (xs := []) (by rw [← hB]; exact at_plus (i := 5))
    clear hB
    have s60 : ∀ i : Int, i.natAbs < 10 ^ 60 → VS B (.int i) := fun i h => sm0 i h
    repeat' (first | exact all_nil | refine all_cons ?_ ?_)
    all_goals first
      | exact g0
      | exact g2
      | exact g5
      | exact vtm
      | exact .non
      | exact .bl _
      | exact .str _
      | exact s60 _ (by omega)
      | (refine .tup ?_
         repeat' (first | exact all_nil | refine all_cons ?_ ?_)
         all_goals first
           | exact vtm
           | exact vum
           | exact .non
           | exact .bl _
           | exact .str _
           | exact s60 _ (by omega)
           | (refine .tup ?_
              repeat' (first | exact all_nil | refine all_cons ?_ ?_)
              all_goals exact s60 _ (by omega)))
  by_cases c : B38 ≤ (p.natAbs : Int) ∨ B38 ≤ q
  · have hd := fmod_bd (i := p) (m := B19) (by omega)
    have hd2 := fmod_bd (i := q) (m := B38) (by omega)
    generalize hx : p.fmod B19 = x at hd
    generalize hy : q.fmod B38 = y at hd2
    obtain ⟨t, u, e, f, _⟩ := low_fr (t := x) (b := 1 + y) (N := 41) (by omega) (by omega) (by omega)
    have lf : ∀ S, callN es (k + 2) "_law_frac" [.int x, .int (1 + y)] S = .ok (.tup [.int t, .int u]) S := fun S => by
      rw [r__law_frac (by omega) (Sm.of (N := 41) (by omega) (by omega)), e]
    refine runsF_if_t (S1 := S1) ?_ (runsF_seq (runs_eq (ρ := [some (.ref b), some (fr p q), some (.int (2 + r)), some (.int t), some (.int u), none]) (Sz := S1) ?_ (runsF_nil ⟨rfl, t, u, rfl, f.2.2.1, f.2.2.2⟩)))
    · by_cases c1 : B38 ≤ (p.natAbs : Int)
      · simp [p38, abs_nat, c1]
      · have c2 := c.resolve_left c1
        simp [p38, abs_nat, c1, c2]
    · simp [p19, p38, x_mod _ _ _ m19, x_mod _ _ _ m38, hx, hy, lf]
  · have c1 : ¬ B38 ≤ (p.natAbs : Int) := fun z => c (.inl z)
    have c2 : ¬ B38 ≤ q := fun z => c (.inr z)
    exact runsF_if_f (S1 := S1) (by simp [p38, abs_nat, c1, c2]) (runsF_nil ⟨rfl, p, q, rfl, h.2.2.1, h.2.2.2⟩)
end DL
end
section
set_option Elab.async false
set_option linter.all false
set_option maxRecDepth 100000
set_option maxHeartbeats 4000000
set_option exponentiation.threshold 5000
/-! K01f: shapes, fractions made -/
namespace DL
open PySem PySem.Spec PyProof.Rows L2
variable {k b n : Nat} {A Sz : Sto} {d : D} {p q : Int}
theorem VS.app {S : Sto} {d : D} (h : VS S d) (e : Sto) : VS (S ++ e) d := by
  induction h with
  | non => exact .non
  | bl b => exact .bl b
  | int h => exact .int h
  | str s => exact .str s
  | tup _ ih => exact .tup ih
  | lst h => exact .lst (at_old h)
  | dct h => exact .dct (at_old h)
theorem r_same_bl (c : Bool) (S : Sto) : ∃ e, callN es (k + 1) "_law_same" [.bl c, .bl c] S = .ok (.bl true) (S ++ e) := r__law_same 1 k _ _ S rfl
theorem by_v (x : D) : byName [((S "value"), x)] .non [(S "value")] = [x] := rfl
theorem r__law_shapes_right {N : Nat} (hb : BoxAt b N Sz) (hN : N ≤ 90000) (h : FrOk 41 p q) : ∃ S', callN es (k + 4) "_law_shapes_right" [.ref b, fr p q] Sz = .ok (.bl true) S' ∧ BoxAt b (N + 1) S' ∧ ExtB b Sz S' := by
  rw [u__law_shapes_right]
  unfold d__law_shapes_right
  obtain ⟨l, vs, S1, q1, hl, g1, v1, b1, x1⟩ := r__law_near (k := k) hb hN h
  have lc : ∃ e, fLc (iSeq (fCall (callN es (k + 3) "_law_near") (fCons (fVar 0) (fCons (fVar 1) fNil)))) (tName 3) (fNotT (fTest (fCall (callN es (k + 3) "_law_same") (fCons (fCall (callN es (k + 3) "is_fraction") (fCons (fVar 3) fNil)) (fCons (fCall (callN es (k + 3) "_law_is_due") (fCons (fVar 3) fNil)) fNil))))) (fVar 3) [3] [some (.ref b), some (fr p q), none, none] Sz = .ok (.ref (S1 ++ e).length) (S1 ++ e ++ [.lst []]) := by
    rw [x_fLc (i := ⟨vs, fun S' => S'[l]? = some (.lst vs)⟩) (S1 := S1) (by simp [q1]; exact x_itOf_lst g1)]
    obtain ⟨out, S', qq, e, rfl, rfl⟩ := lcG_inv (g := tName 3) (tt := fNotT (fTest (fCall (callN es (k + 3) "_law_same") (fCons (fCall (callN es (k + 3) "is_fraction") (fCons (fVar 3) fNil)) (fCons (fCall (callN es (k + 3) "_law_is_due") (fCons (fVar 3) fNil)) fNil))))) (te := fVar 3) (ok := fun S' => S'[l]? = some (.lst vs)) (ρ := [some (.ref b), some (fr p q), none, none])
      (fun acc S' => ∃ e, acc = [] ∧ S' = S1 ++ e) vs [] S1 ⟨[], rfl, by simp⟩ (fun acc S' h => by
        obtain ⟨e, _, rfl⟩ := h
        exact at_old g1) (by
        rintro v hv acc S2 ⟨e, rfl, rfl⟩
        obtain ⟨e2, q2⟩ := r_same_bl (k := k + 2) (fracD v) (S1 ++ e)
        refine ⟨_, _, false, S1 ++ e ++ e2, rfl, ?_, fun _ => ⟨e ++ e2, rfl, by rw [List.append_assoc]⟩, nofun⟩
        simp only [x_fNotT, x_fTest, x_fCall, x_fCons, x_fNil, List.set, x_varS, x_var0, R.bind_ok, r_is_fraction (k := k + 1) ((v1 v hv).app e), r__law_is_due (k := k + 1) ((v1 v hv).app e), q2, x_reEv]
        rfl)
    have wd : wipeD [some (.ref b), some (fr p q), none, none] [3] = [some (.ref b), some (fr p q), none, none] := rfl
    rw [wd, qq]
    exact ⟨e, rfl⟩
  obtain ⟨e, lc⟩ := lc
  have hn := eq_nilA (Sz := S1) e
  obtain ⟨e2, q2⟩ := r_same_bl (k := k + 2) true (S1 ++ e ++ [Ob.lst []] ++ [Ob.lst []])
  refine ⟨S1 ++ e ++ [Ob.lst []] ++ [Ob.lst []] ++ e2, ?_, (((b1.app e).app _).app _).app e2, (((x1.trans (.app e)).trans (.app _)).trans (.app _)).trans (.app e2)⟩
  generalize hA : S1 ++ e = A at lc hn q2 ⊢
  simp only [List.append_assoc, List.cons_append, List.nil_append, List.length_append, List.length_cons, List.length_nil, Nat.zero_add] at hn q2 lc ⊢
  have fq := r_is_fraction (k := k + 1) (Sz := A ++ [Ob.lst [], Ob.lst []]) (h.vs (by omega))
  rw [h.frac] at fq
  simp [entry, lc, hn, by_v, fq, q2]
theorem low_mul {N : Nat} {g : Int} (h : FrOk N p q) (hg : g ≠ 0) : lowD (p * g) (q * g) = fr p q := by
  have e : shG (p * g) (q * g) = g := by
    unfold shG
    rw [Int.natAbs_mul, Int.natAbs_mul, Nat.gcd_mul_right, h.2.1, Nat.one_mul]
    by_cases c : 0 < g
    · rw [if_pos (Int.mul_pos h.1 c)]
      omega
    · have : ¬ 0 < q * g := by
        have := Int.mul_neg_of_pos_of_neg h.1 (show g < 0 by omega)
        omega
      rw [if_neg this]
      omega
  unfold lowD fr
  rw [e, Int.mul_fdiv_cancel _ hg, Int.mul_fdiv_cancel _ hg]
theorem fr01 : FrOk 41 0 1 := ⟨by decide, by decide, by decide, by decide⟩
theorem fr11 : FrOk 41 1 1 := ⟨by decide, by decide, by decide, by decide⟩
theorem frx1 {N : Nat} {x : Int} (h : x.natAbs < 10 ^ N) (hN : 1 ≤ N) : FrOk N x 1 := ⟨by decide, by simp, h, by
  have : (10 : Nat) ^ 1 ≤ 10 ^ N := Nat.pow_le_pow_right (by decide) hN
  simp only [Int.natAbs_one]
  omega⟩
theorem low_0 {u : Int} (hu : u ≠ 0) : lowD 0 u = fr 0 1 := by
  have := low_mul (g := u) fr01 hu
  rwa [Int.zero_mul, Int.one_mul] at this
theorem low_s {u : Int} (hu : u ≠ 0) : lowD u u = fr 1 1 := by
  have := low_mul (g := u) fr11 hu
  rwa [Int.one_mul] at this
theorem low_1 {t : Int} : lowD t 1 = fr t 1 := by
  have := low_mul (p := t) (q := 1) (N := t.natAbs + 1) (g := 1) (frx1 (Nat.lt_of_lt_of_le Nat.lt_two_pow_self (Nat.le_trans (Nat.pow_le_pow_left (by decide) _) (Nat.pow_le_pow_right (by decide) (Nat.le_succ _)))) (by omega)) (by decide)
  rwa [Int.mul_one, Int.one_mul] at this
theorem low_m1 {t : Int} : lowD t (-1) = fr (-t) 1 := by
  have := low_mul (p := -t) (q := 1) (N := t.natAbs + 1) (g := -1) (frx1 (by rw [Int.natAbs_neg]; exact Nat.lt_of_lt_of_le Nat.lt_two_pow_self (Nat.le_trans (Nat.pow_le_pow_left (by decide) _) (Nat.pow_le_pow_right (by decide) (Nat.le_succ _)))) (by omega)) (by decide)
  rwa [Int.one_mul, show -t * -1 = t by omega] at this
theorem r_fraction {x y : Int} (hx : Sm x) (hy : Sm y) (h0 : y ≠ 0) : callN es (k + 2) "fraction" [.int x, .int y] Sz = .ok (lowD x y) Sz := by
  rw [u_fraction]
  unfold d_fraction
  simp [entry, r_is_integer (VS.int hx), r_is_integer (VS.int hy), isIntD, h0, r_lowest h0 hy]
theorem eqv_fr {S : Sto} {n : Nat} : Eqv S (n + 2) (fr p q) (fr p q) := ⟨_, rfl, rfl, by simp, fun i hi => by
  match i, hi with
  | 0, _ => exact rfl
  | 1, _ => exact rfl
  | i + 2, hi => simp at hi; omega⟩
theorem eqv_list {S : Sto} {n l m : Nat} {xs : List D} (h1 : S[l]? = some (.lst xs)) (h2 : S[m]? = some (.lst xs)) (hl : xs.length ≤ 1000000) (h : ∀ v ∈ xs, Eqv S n v v) : Eqv S (n + 1) (.ref l) (.ref m) := ⟨l, xs, xs, rfl, h1, h2, rfl, hl, fun i hi => h _ (itm_mem hi)⟩
theorem by_tb (x y : D) : byName [((S "top"), x), ((S "bottom"), y)] .non [(S "top"), (S "bottom")] = [x, y] := rfl
theorem at_mem {xs : List D} {i : Nat} {x : D} (h : L2.atI xs (i : Int) = some x) : x ∈ xs := by
  by_cases c : i < xs.length
  · rw [at_get c] at h
    cases h
    exact itm_mem c
  · unfold L2.atI ixN at h
    rw [if_pos (by omega), if_neg (by omega)] at h
    cases h
theorem r__law_made_right {N : Nat} (c : Bool) (hb : BoxAt b N Sz) (hN : N ≤ 90000) (h : FrOk 41 p q) : ∃ S', callN es (k + 4) "_law_made_right" [.ref b, fr p q, .bl c] Sz = .ok (.bl true) S' ∧ BoxAt b (N + 1) S' ∧ ExtB b Sz S' := by
  rw [u__law_made_right]
  unfold d__law_made_right
  refine of_runs ?_
  generalize hL : [D.int 1, D.int (-1), D.int 2, D.int (-6), D.int 35, D.int (-1001)] = L
  obtain ⟨r, S1, q1, r0, r1, b1, x1, l1⟩ := r__law_take (k := k + 2) (m := 6) (hb.app [.lst L]) (by omega) (by omega) (by omega)
  have g1 : S1[Sz.length]? = some (.lst L) := x1.2 _ _ (by have := hb.lt; omega) (at_new L)
  obtain ⟨f, hf, a1⟩ := at_int (xs := L) r0 (by rw [← hL]; exact r1)
  have hf' : ∃ g : Int, f = .int g ∧ g ≠ 0 ∧ g.natAbs ≤ 1001 := by
    rw [← hL] at hf
    simp only [List.mem_cons, List.not_mem_nil, or_false] at hf
    rcases hf with rfl | rfl | rfl | rfl | rfl | rfl <;> exact ⟨_, rfl, by omega, by omega⟩
  obtain ⟨g, rfl, g0, gb⟩ := hf'
  have i1 := x_idx_at g1 a1
  have X1 : ExtB b Sz S1 := (ExtB.app _).trans x1
  refine runs_seq (runs_eq (ρ := [some (.ref b), some (fr p q), some (.bl c), some (.int g), none, none, none, none, none]) (Sz := S1) (by
    simp [entry, hL, q1, i1]) ?_)
  have gs : g.natAbs < 2 ^ 64 := by omega
  have mp : ∀ S, opMul (.int p) (.int g) S = .ok (.int (p * g)) S := fun S => x_mul _ _ _ (by simp [mulFit, gs])
  have mq : ∀ S, opMul (.int q) (.int g) S = .ok (.int (q * g)) S := fun S => x_mul _ _ _ (by simp [mulFit, gs])
  refine runs_seq (runs_eq (ρ := [some (.ref b), some (fr p q), some (.bl c), some (.int g), some (.int (p * g)), some (.int (q * g)), none, none, none]) (Sz := S1) (by
    simp [sPar2, fr_idx0, fr_idx1, mp, mq]) ?_)
  refine runs_seq ?_
  obtain ⟨B40, hB40⟩ : ∃ B : Int, B = 10 ^ 40 := ⟨_, rfl⟩
  have p40 : ∀ S, opPow (.int 10) (.int 40) S = .ok (.int B40) S := fun S => by rw [hB40]; exact x_pow10 40 (by omega) S
  suffices hs : RunsF _ (fun ρ' S' => S' = S1 ∧ ∃ g2 : Int, ρ' = [some (.ref b), some (fr p q), some (.bl c), some (.int g), some (.int (p * g2)), some (.int (q * g2)), none, none, none] ∧ g2 ≠ 0 ∧ g2.natAbs ≤ 1001) from by
    obtain ⟨ρ', S', h1, rfl, g2, rfl, n0, nb⟩ := hs
    refine ⟨_, _, h1, ?_⟩
    have ge : g2.natAbs < 10 ^ 4 := by omega
    have sp : Sm (p * g2) := Sm.of (mul_lt h.2.2.1 ge) (by omega)
    have sq : Sm (q * g2) := Sm.of (mul_lt h.2.2.2 ge) (by omega)
    have hq0 : q ≠ 0 := by have := h.1; omega
    have z0 : q * g2 ≠ 0 := Int.mul_ne_zero hq0 n0
    have ft : ∀ S, callN es (k + 3) "fraction" [.int (p * g2), .int (q * g2)] S = .ok (fr p q) S := fun S => by rw [r_fraction sp sq z0, low_mul h n0]
    have f0 : ∀ S, callN es (k + 3) "fraction" [.int 0, .int (q * g2)] S = .ok (fr 0 1) S := fun S => by rw [r_fraction (Sm.of (N := 1) (by decide) (by omega)) sq z0, low_0 z0]
    have fs : ∀ S, callN es (k + 3) "fraction" [.int (q * g2), .int (q * g2)] S = .ok (fr 1 1) S := fun S => by rw [r_fraction sq sq z0, low_s z0]
    generalize hT : p * g2 = t at *
    generalize hU : q * g2 = u at *
    refine runs_seq (runs_eq (ρ := [some (.ref b), some (fr p q), some (.bl c), some (.int g), some (.int t), some (.int u), some (fr p q), none, none]) (Sz := S') (by
      cases c <;> simp [ft, by_tb]) ?_)
    -- the sign
    have hm := fmod_bd (i := t) (m := 2) (by decide)
    have m2 : (2 : Int) ≠ 0 := by decide
    obtain ⟨s, hs, hsl⟩ : ∃ s : Int, (s = 1 ∨ s = -1) ∧ ∀ e : Sto, ∀ l, e[l]? = some (.lst [.int 1, .int (-1)]) → opIdx (.ref l) (.int (t.fmod 2)) e = .ok (.int s) e := by
      by_cases z : t.fmod 2 = 0
      · exact ⟨1, .inl rfl, fun e l he => x_idx_at he (by rw [z]; rfl)⟩
      · have z1 : t.fmod 2 = 1 := by omega
        exact ⟨-1, .inr rfl, fun e l he => x_idx_at he (by rw [z1]; rfl)⟩
    have ss : s.natAbs < 2 ^ 64 := by rcases hs with rfl | rfl <;> decide
    have fl : ∀ S, callN es (k + 3) "fraction" [.int t, .int s] S = .ok (fr (t * s) 1) S := fun S => by
      rw [r_fraction sp (Sm.of (N := 1) (by rcases hs with rfl | rfl <;> decide) (by omega)) (by rcases hs with rfl | rfl <;> decide)]
      rcases hs with rfl | rfl
      · rw [low_1, Int.mul_one]
      · rw [low_m1, show -t = t * -1 by omega]
    have mts : ∀ S, opMul (.int t) (.int s) S = .ok (.int (t * s)) S := fun S => x_mul _ _ _ (by simp [mulFit, ss])
    have s1 := hsl (S' ++ [Ob.lst [.int 1, .int (-1)]]) S'.length (at_new _)
    refine runs_seq (runs_eq (ρ := [some (.ref b), some (fr p q), some (.bl c), some (.int g), some (.int t), some (.int u), some (fr p q), some (.ref (S'.length + 1)), none]) (Sz := S' ++ [.lst [.int 1, .int (-1)], .lst [fr 0 1, fr 1 1, fr (t * s) 1]]) (by
      simp [f0, fs, x_mod _ _ _ m2, s1, fl]) ?_)
    have s2 := hsl (S' ++ [.lst [.int 1, .int (-1)], .lst [fr 0 1, fr 1 1, fr (t * s) 1]] ++ [Ob.lst [.int 1, .int (-1)]]) (S'.length + 2) (by
      have := at_new (Sz := S' ++ [.lst [.int 1, .int (-1)], .lst [fr 0 1, fr 1 1, fr (t * s) 1]]) [.int 1, .int (-1)]
      simpa using this)
    simp only [List.append_assoc, List.cons_append, List.nil_append] at s2
    have ff : ∀ x y : Int, D.tup [.int x, .int y] = fr x y := fun x y => rfl
    refine runs_seq (runs_eq (ρ := [some (.ref b), some (fr p q), some (.bl c), some (.int g), some (.int t), some (.int u), some (fr p q), some (.ref (S'.length + 1)), some (.ref (S'.length + 3))]) (Sz := S' ++ [.lst [.int 1, .int (-1)], .lst [fr 0 1, fr 1 1, fr (t * s) 1], .lst [.int 1, .int (-1)], .lst [fr 0 1, fr 1 1, fr (t * s) 1]]) (by
      simp [x_mod _ _ _ m2, s2, mts, ff]) ?_)
    generalize hB : S' ++ [.lst [.int 1, .int (-1)], .lst [fr 0 1, fr 1 1, fr (t * s) 1], .lst [.int 1, .int (-1)], .lst [fr 0 1, fr 1 1, fr (t * s) 1]] = B
    have e1 : B[S'.length + 1]? = some (.lst [fr 0 1, fr 1 1, fr (t * s) 1]) := by rw [← hB]; exact at_plus (i := 1)
    have e3 : B[S'.length + 3]? = some (.lst [fr 0 1, fr 1 1, fr (t * s) 1]) := by rw [← hB]; exact at_plus (i := 3)
    have bB : BoxAt b (N + 1) B := by rw [← hB]; exact b1.app _
    have xB : ExtB b Sz B := by rw [← hB]; exact X1.trans (.app _)
    obtain ⟨e4, q4⟩ := r__law_same 2 (k + 1) (fr p q) (fr p q) B eqv_fr
    have v3 : Eqv (B ++ e4) 3 (.ref (S'.length + 1)) (.ref (S'.length + 3)) := eqv_list (at_old e1) (at_old e3) (by simp) (all_cons eqv_fr (all_cons eqv_fr (all_cons eqv_fr all_nil)))
    obtain ⟨e5, q5⟩ := r__law_same 3 k _ _ _ v3
    refine ⟨.bl true, B ++ e4 ++ e5, ?_, rfl, (bB.app _).app _, (xB.trans (.app _)).trans (.app _)⟩
    simp [q4, q5]
  have hp41 := h.2.2.1
  have hq41 := h.2.2.2
  by_cases cc : B40 ≤ ((p * g).natAbs : Int) ∨ B40 ≤ ((q * g).natAbs : Int)
  · refine runsF_if_t (S1 := S1) ?_ (runsF_seq (runs_eq (ρ := [some (.ref b), some (fr p q), some (.bl c), some (.int g), some (.int (p * -1)), some (.int (q * -1)), none, none, none]) (Sz := S1) ?_ (runsF_nil ⟨rfl, -1, rfl, by decide, by decide⟩)))
    · by_cases c1 : B40 ≤ ((p * g).natAbs : Int)
      · simp only [x_fOrT, x_fBool, x_fOp, x_fB, x_b1, x_fCons, x_fNil, x_fC, x_varS, x_var0, R.bind_ok, x_bAbs, abs_nat, p40, x_ge, c1, decide_true, if_true]
      · have c2 := cc.resolve_left c1
        simp only [x_fOrT, x_fBool, x_fOp, x_fB, x_b1, x_fCons, x_fNil, x_fC, x_varS, x_var0, R.bind_ok, x_bAbs, abs_nat, p40, x_ge, c1, c2, decide_true, decide_false, Bool.false_eq_true, if_false]
    · simp [sPar2, fr_idx0, fr_idx1]
  · have c1 : ¬ B40 ≤ ((p * g).natAbs : Int) := fun z => cc (.inl z)
    have c2 : ¬ B40 ≤ ((q * g).natAbs : Int) := fun z => cc (.inr z)
    exact runsF_if_f (S1 := S1) (by simp only [x_fOrT, x_fBool, x_fOp, x_fB, x_b1, x_fCons, x_fNil, x_fC, x_varS, x_var0, R.bind_ok, x_bAbs, abs_nat, p40, x_ge, c1, c2, decide_false, Bool.false_eq_true, if_false]) (runsF_nil ⟨rfl, g, rfl, g0, gb⟩)
end DL
end
section
set_option Elab.async false
set_option linter.all false
set_option maxRecDepth 100000
set_option maxHeartbeats 4000000
set_option exponentiation.threshold 5000
/-! K01g: texts of fractions -/
namespace DL
open PySem PySem.Spec PyProof.Rows L2
variable {k b n : Nat} {A Sz : Sto} {d : D} {p q : Int}
/-- the signs of a number's text -/
def txL (i : Int) : List Nat := if i < 0 then 45 :: TL.numL i.natAbs else TL.numL i.natAbs
theorem txt_S (i : Int) : txt i = SX.S (txL i) := by
  unfold txL txt
  cases i with
  | ofNat n =>
    rw [if_neg (by show ¬ ((n : Int) < 0); omega)]
    exact SX.num_S n
  | negSucc m =>
    rw [if_pos (Int.negSucc_lt_zero m)]
    show Str.ofString (toString (Int.negSucc m)) = _
    have e1 := SX.num_S (m + 1)
    rw [Str.ofString_eq_toList] at e1
    rw [Str.ofString_eq_toList]
    have e2 : (toString (Int.negSucc m) : String).toList = '-' :: (toString (((m + 1 : Nat)) : Int)).toList := by
      show ("-" ++ toString (m + 1)).toList = _
      rw [String.toList_append]
      rfl
    rw [e2]
    have e3 := SX.S_inj e1
    rw [List.map_cons, e3]
    rfl
theorem numL_lt_pow (n : Nat) : n < 10 ^ (TL.numL n).length := by
  induction n using Nat.strongRecOn with
  | _ n ih =>
    by_cases h : n < 10
    · rw [TL.numL_lt h]
      exact h
    · have := ih (n / 10) (by omega)
      rw [TL.numL_step (by omega), List.length_append, List.length_singleton, Nat.pow_succ]
      omega
theorem numL_head (n : Nat) : n ≠ 0 → ∃ c r, TL.numL n = c :: r ∧ c ≠ 48 := by
  induction n using Nat.strongRecOn with
  | _ n ih =>
    intro h0
    by_cases h : n < 10
    · rw [TL.numL_lt h]
      exact ⟨_, _, rfl, by omega⟩
    · obtain ⟨c, r, e, hc⟩ := ih (n / 10) (by omega) (by omega)
      rw [TL.numL_step (by omega), e]
      exact ⟨c, _, rfl, hc⟩
theorem S_length (l : List Nat) : (SX.S l).length = l.length := SX.S_len l
theorem x_lenS (l : List Nat) (h : l.length ≤ 16777216) (S : Sto) : bLen (.str (SX.S l)) S = .ok (.int l.length) S := by
  show optR (if (SX.S l).length ≤ sizeLine then some (SX.S l).length else none) _ = _
  rw [if_pos (by rw [sizeLine_eq, S_length]; exact h), S_length]
  rfl
theorem eqS (a c : List Nat) (S : Sto) : opEq (.str (SX.S a)) (.str (SX.S c)) S = .ok (.bl (decide (a = c))) S := by
  show R.ok (D.bl (SX.S a == SX.S c)) S = _
  rw [SX.S_beq_eq]
theorem neS (a c : List Nat) (S : Sto) : opNe (.str (SX.S a)) (.str (SX.S c)) S = .ok (.bl (!decide (a = c))) S := by
  show R.ok (D.bl (!(SX.S a == SX.S c))) S = _
  rw [SX.S_beq_eq]
theorem idx0S {c : Nat} {r : List Nat} (h : (c :: r).length ≤ 16777216) (S : Sto) : opIdx (.str (SX.S (c :: r))) (.int 0) S = .ok (.str (SX.S [c])) S := by
  show (if (SX.S (c :: r)).length ≤ sizeLine then optR (L2.atI (SX.S (c :: r)).cps.toList 0) fun c => .ok (.str ⟨#[c]⟩) S else .bad) = _
  rw [if_pos (by rw [sizeLine_eq, S_length]; exact h)]
  have e : L2.atI (SX.S (c :: r)).cps.toList 0 = some c := by
    show L2.atI (c :: r) 0 = some c
    unfold L2.atI ixN
    simp
  rw [e]
  rfl
theorem cut1S (l : List Nat) (h : l.length ≤ 16777216) (S : Sto) : opCut (.str (SX.S l)) none (some 1) S = .ok (.str (SX.S (l.take 1))) S := by
  show (if (SX.S l).length ≤ sizeLine then R.ok (D.str (cutS (SX.S l) none (some ((1 : Nat) : Int)))) S else .bad) = _
  rw [if_pos (by rw [sizeLine_eq, S_length]; exact h)]
  unfold cutS
  rw [HT.sIx_none, HT.sIx_nat, S_length]
  simp only [List.drop_zero, Nat.sub_zero]
  congr 3
  cases l with
  | nil => rfl
  | cons c r =>
    rw [Nat.min_eq_left (by simp)]
theorem cutR1S (c : Nat) (r : List Nat) (h : (c :: r).length ≤ 16777216) (S : Sto) : opCut (.str (SX.S (c :: r))) (some 1) none S = .ok (.str (SX.S r)) S := by
  show (if (SX.S (c :: r)).length ≤ sizeLine then R.ok (D.str (cutS (SX.S (c :: r)) (some ((1 : Nat) : Int)) none)) S else .bad) = _
  rw [if_pos (by rw [sizeLine_eq, S_length]; exact h)]
  unfold cutS
  rw [HT.sIx_none, HT.sIx_nat, S_length, Nat.min_eq_left (by simp)]
  congr 3
  simp
/-! ### numbers of texts -/
theorem digit_in {c : Nat} (h : 48 ≤ c ∧ c ≤ 57) (S : Sto) : opIn false (.str ⟨#[c]⟩) c_DIGITS S = .ok (.bl true) S := by
  show (if (⟨#[c]⟩ : Str).length = 1 then R.ok (D.bl (false != decide ((⟨#[c]⟩ : Str).cps.getD 0 0 ∈ (Str.ofString "0123456789").cps.toList))) S else .bad) = _
  rw [if_pos (show (⟨#[c]⟩ : Str).length = 1 from rfl)]
  have e : (Str.ofString "0123456789").cps.toList = [48, 49, 50, 51, 52, 53, 54, 55, 56, 57] := by decide +kernel
  rw [e]
  have : c ∈ [48, 49, 50, 51, 52, 53, 54, 55, 56, 57] := by
    simp only [List.mem_cons, List.not_mem_nil, or_false]
    omega
  have g : (⟨#[c]⟩ : Str).cps.getD 0 0 = c := rfl
  rw [g, decide_eq_true this]
  rfl
theorem digits_lc {l : List Nat} (hd : NumText.AllDigits l) (hl : l.length ≤ 200) {o1 o2 : Option D} : fLc (iSeq (fVar 0)) (tName 2) fTrue (fOp (opIn false) (fVar 2) (fC c_DIGITS)) [2] [some (.str (SX.S l)), o1, o2] Sz = .ok (.ref Sz.length) (Sz ++ [.lst (l.map fun _ => .bl true)]) := by
  have it : itOf (.str (SX.S l)) Sz = .ok ⟨l.map fun c => .str ⟨#[c]⟩, fun _ => True⟩ Sz := by
    show (if (SX.S l).length ≤ sizeLine then R.ok (⟨(SX.S l).cps.toList.map fun c => .str ⟨#[c]⟩, fun _ => True⟩ : ItD) Sz else .bad) = _
    rw [if_pos (by rw [sizeLine_eq, S_length]; omega)]
  rw [x_fLc (i := ⟨l.map fun c => .str ⟨#[c]⟩, fun _ => True⟩) (S1 := Sz) (by simp [it])]
  rw [lcG_pure (fun _ => .bl true) (fun _ => true) trivial _ _ (fun t h => by
    obtain ⟨c, hc, rfl⟩ := List.mem_map.mp h
    exact ⟨[some (.str (SX.S l)), o1, some (.str ⟨#[c]⟩)], rfl, rfl, fun _ => by
      show opIn false (.str ⟨#[c]⟩) c_DIGITS Sz = _
      exact digit_in (hd c hc) Sz⟩)]
  rw [filt_true, List.map_map]
  rfl
theorem digits_all (l : List Nat) : bBls allF (.ref Sz.length) (Sz ++ [.lst (l.map fun _ => .bl true)]) = .ok (.bl true) (Sz ++ [.lst (l.map fun _ => .bl true)]) := by
  have xa := x_all (Sz := Sz) (fun _ : Nat => true) l
  rwa [show l.all (fun _ => true) = true from List.all_eq_true.mpr fun _ _ => rfl] at xa
theorem x_intS {l : List Nat} (hd : NumText.AllDigits l) (hne : l ≠ []) (hl : l.length ≤ 600) (S : Sto) : bInt (.str (SX.S l)) S = .ok (.int ((NumText.digitsVal l : Nat) : Int)) S := by
  show (if (SX.S l).length ≤ 640 then optR (intText? (SX.S l)) fun n => .ok (.int n) S else .bad) = _
  rw [if_pos (by rw [S_length]; omega), SX.int_S (List.all_eq_true.mpr fun c hc => by
    have := hd c hc
    rw [Bool.and_eq_true, decide_eq_true_eq, decide_eq_true_eq]
    exact this) hne (by omega)]
  rfl
theorem str0 : (D.str "0") = .str (SX.S [48]) := by
  have : (("0" : String) : Str) = SX.S [48] := by decide +kernel
  rw [this]
theorem strM : (D.str "-") = .str (SX.S [45]) := by
  have : (("-" : String) : Str) = SX.S [45] := by decide +kernel
  rw [this]
theorem strE : (D.str "") = .str (SX.S []) := by
  have : (("" : String) : Str) = SX.S [] := by decide +kernel
  rw [this]
theorem strSl : (("/" : String) : Str) = SX.S [47] := by decide +kernel
theorem r_count_in (n : Nat) (h : n < 10 ^ 200) : ∃ e, callN es (k + 1) "count_in" [.str (SX.S (TL.numL n)), .int 200] Sz = .ok (.int n) (Sz ++ e) := by
  rw [u_count_in]
  unfold d_count_in
  have hl := TL.numL_len (n := n) (k := 200) (by omega) h
  have hne := TL.numL_ne n
  have hl1 : 1 ≤ (TL.numL n).length := by
    cases e : TL.numL n with
    | nil => exact absurd e hne
    | cons _ _ => simp
  have hd := TL.numL_digits n
  have hv := TL.numL_val n
  have li := x_lenS (TL.numL n) (by omega)
  have ad := digits_lc (Sz := Sz) (o1 := some (.int 200)) (o2 := none) hd hl
  have ax := digits_all (Sz := Sz) (TL.numL n)
  have bi := x_intS hd hne (by omega)
  rw [hv] at bi
  have c1 : (1 : Int) ≤ ((TL.numL n).length : Int) := by omega
  have c2 : ((TL.numL n).length : Int) ≤ 200 := by omega
  refine ⟨[.lst ((TL.numL n).map fun _ => .bl true)], ?_⟩
  by_cases z : n = 0
  · subst z
    have e0 : TL.numL 0 = [48] := by decide +kernel
    rw [e0] at li ad ax bi ⊢
    simp only [List.map_cons, List.map_nil] at ad ax ⊢
    simp [entry, li, ad, ax, str0, eqS, bi]
  · obtain ⟨c, r, e, hc⟩ := numL_head n z
    rw [e] at hl li ad ax bi c1 c2 ⊢
    have ix := fun S => idx0S (c := c) (r := r) (by omega) S
    generalize hm : (c :: r).map (fun _ => D.bl true) = ms at ad ax ⊢
    have ne : (c :: r : List Nat) ≠ [48] := fun z => hc (by cases z; rfl)
    have ne2 : ([c] : List Nat) ≠ [48] := fun z => hc (by cases z; rfl)
    generalize hn : (c :: r).length = m at c1 c2 li
    simp [entry, li, c1, c2, ad, ax, str0, eqS, neS, bi, ix, hc]
theorem r_count_big (n : Nat) (h : 10 ^ 200 ≤ n) (h2 : n < 10 ^ 600) : callN es (k + 1) "count_in" [.str (SX.S (TL.numL n)), .int 200] Sz = .ok .non Sz := by
  rw [u_count_in]
  unfold d_count_in
  have hl := TL.numL_len (n := n) (k := 600) (by omega) h2
  have hb : 200 < (TL.numL n).length := by
    refine Classical.byContradiction fun z => ?_
    have h1 := numL_lt_pow n
    have h3 : 10 ^ (TL.numL n).length ≤ 10 ^ 200 := Nat.pow_le_pow_right (by decide) (by omega)
    omega
  have li := x_lenS (TL.numL n) (by omega)
  have c1 : (1 : Int) ≤ ((TL.numL n).length : Int) := by omega
  have c2 : ¬ ((TL.numL n).length : Int) ≤ 200 := by omega
  simp [entry, li, c1, c2]
end DL
end
section
set_option Elab.async false
set_option linter.all false
set_option maxRecDepth 100000
set_option maxHeartbeats 4000000
set_option exponentiation.threshold 5000
/-! K01h: texts read and written -/
namespace DL
open PySem PySem.Spec PyProof.Rows L2
variable {k b n : Nat} {A Sz : Sto} {d : D} {p q : Int}
theorem txL_len {N : Nat} (hN : 0 < N) (h : p.natAbs < 10 ^ N) : (txL p).length ≤ N + 1 := by
  have := TL.numL_len hN h
  unfold txL
  split
  · rw [List.length_cons]
    omega
  · omega
theorem txL_free {s : Nat} (h : s < 45 ∨ 57 < s ∨ (45 < s ∧ s < 48)) : s ∉ txL p := fun hm => by
  unfold txL at hm
  split at hm
  · rcases List.mem_cons.mp hm with z | z
    · omega
    · exact TL.numL_free (by omega) z
  · exact TL.numL_free (by omega) hm
theorem numL_cons (n : Nat) : ∃ c r, TL.numL n = c :: r ∧ 48 ≤ c ∧ c ≤ 57 := by
  cases e : TL.numL n with
  | nil => exact absurd e (TL.numL_ne n)
  | cons c r =>
    have := TL.numL_digits n c (by rw [e]; exact List.mem_cons_self)
    exact ⟨c, r, rfl, this⟩
theorem r_integer_in (h : p.natAbs < 10 ^ 200) : ∃ e, callN es (k + 2) "integer_in" [.str (SX.S (txL p))] Sz = .ok (.int p) (Sz ++ e) := by
  rw [u_integer_in]
  unfold d_integer_in
  obtain ⟨e, hc⟩ := r_count_in (k := k) (Sz := Sz) p.natAbs h
  have hl := TL.numL_len (n := p.natAbs) (k := 200) (by omega) h
  refine ⟨e, ?_⟩
  by_cases z : p < 0
  · have e1 : txL p = 45 :: TL.numL p.natAbs := if_pos z
    rw [e1]
    have c1 := fun S => cut1S (45 :: TL.numL p.natAbs) (by simp; omega) S
    have c2 := fun S => cutR1S 45 (TL.numL p.natAbs) (by simp; omega) S
    have nz : ¬ (p.natAbs = 0) := by omega
    have isn : ∀ S, opIs false (.int (p.natAbs : Int)) .non S = .ok (.bl false) S := fun S => rfl
    have ng : -((p.natAbs : Nat) : Int) = p := by omega
    simp only [List.take_succ_cons, List.take_zero] at c1
    generalize hn : p.natAbs = n at *
    simp [entry, c1, c2, strM, neS, hc, isn, nz, ng]
  · have e1 : txL p = TL.numL p.natAbs := if_neg z
    rw [e1]
    obtain ⟨c, r, e2, h48, _⟩ := numL_cons p.natAbs
    have c1 := fun S => cut1S (TL.numL p.natAbs) (by omega) S
    rw [e2, List.take_succ_cons, List.take_zero, ← e2] at c1
    have nc : c ≠ 45 := by omega
    have ng : ((p.natAbs : Nat) : Int) = p := by omega
    rw [ng] at hc
    simp [entry, c1, strM, neS, nc, hc]
theorem r_integer_big (h : 10 ^ 200 ≤ p.natAbs) (h2 : p.natAbs < 10 ^ 600) : callN es (k + 2) "integer_in" [.str (SX.S (txL p))] Sz = .ok .non Sz := by
  rw [u_integer_in]
  unfold d_integer_in
  have hc := r_count_big (k := k) (Sz := Sz) p.natAbs h h2
  have hl := TL.numL_len (n := p.natAbs) (k := 600) (by omega) h2
  by_cases z : p < 0
  · have e1 : txL p = 45 :: TL.numL p.natAbs := if_pos z
    rw [e1]
    have c1 := fun S => cut1S (45 :: TL.numL p.natAbs) (by simp; omega) S
    have c2 := fun S => cutR1S 45 (TL.numL p.natAbs) (by simp; omega) S
    have isn : ∀ S, opIs false .non .non S = .ok (.bl true) S := fun S => rfl
    simp only [List.take_succ_cons, List.take_zero] at c1
    generalize hn : p.natAbs = n at *
    simp [entry, c1, c2, strM, neS, hc, isn]
  · have e1 : txL p = TL.numL p.natAbs := if_neg z
    rw [e1]
    obtain ⟨c, r, e2, h48, _⟩ := numL_cons p.natAbs
    have c1 := fun S => cut1S (TL.numL p.natAbs) (by omega) S
    rw [e2, List.take_succ_cons, List.take_zero, ← e2] at c1
    have nc : c ≠ 45 := by omega
    simp [entry, c1, strM, neS, nc, hc]
/-- the signs of a fraction's text -/
def TX (p q : Int) : List Nat := if q = 1 then txL p else txL p ++ 47 :: TL.numL q.natAbs
theorem TX_len {N : Nat} (hN : 0 < N) (hp : p.natAbs < 10 ^ N) (hq : q.natAbs < 10 ^ N) : (TX p q).length ≤ 2 * N + 2 := by
  have h1 := txL_len hN hp
  have h2 := TL.numL_len hN hq
  unfold TX
  split
  · omega
  · rw [List.length_append, List.length_cons]
    omega
theorem part_1 (l : List Nat) (hl : l.length ≤ 16777216) (h : 47 ∉ l) (S : Sto) : mPartition (.str (SX.S l)) [.str "/"] S = .ok (.tup [.str (SX.S l), .str (SX.S []), .str (SX.S [])]) S := by
  rw [strSl]
  have e := SX.partition_none (a := l) (b := [47]) (by simp) (TL.par_none1 (acc := []) h)
  show (if ((SX.S [47]).length == 0) = false ∧ (SX.S l).length ≤ sizeLine then R.ok (D.tup [.str (Txt.partition (SX.S l) (SX.S [47])).1, .str (Txt.partition (SX.S l) (SX.S [47])).2.1, .str (Txt.partition (SX.S l) (SX.S [47])).2.2]) S else .bad) = _
  rw [if_pos ⟨rfl, by rw [sizeLine_eq, S_length]; exact hl⟩, e]
theorem part_2 (l r : List Nat) (hl : (l ++ 47 :: r).length ≤ 16777216) (h : 47 ∉ l) (S : Sto) : mPartition (.str (SX.S (l ++ 47 :: r))) [.str "/"] S = .ok (.tup [.str (SX.S l), .str (SX.S [47]), .str (SX.S r)]) S := by
  rw [strSl]
  have e := SX.partition_some (a := l ++ 47 :: r) (b := [47]) (p := l) (q := r) (by simp) (by
    have := TL.par_part1 (s := 47) (S := []) (p := l) (rest := r) (acc := []) h
    simpa using this)
  show (if ((SX.S [47]).length == 0) = false ∧ (SX.S (l ++ 47 :: r)).length ≤ sizeLine then R.ok (D.tup [.str (Txt.partition (SX.S (l ++ 47 :: r)) (SX.S [47])).1, .str (Txt.partition (SX.S (l ++ 47 :: r)) (SX.S [47])).2.1, .str (Txt.partition (SX.S (l ++ 47 :: r)) (SX.S [47])).2.2]) S else .bad) = _
  rw [if_pos ⟨rfl, by rw [sizeLine_eq, S_length]; exact hl⟩, e]
theorem tyS (l : List Nat) (S : Sto) : tyD "str" S (.str (SX.S l)) = true := rfl
theorem isn_int (i : Int) (S : Sto) : opIs false (.int i) .non S = .ok (.bl false) S := rfl
theorem isn_non (S : Sto) : opIs false .non .non S = .ok (.bl true) S := rfl
theorem isn_tup (xs : List D) (S : Sto) : opIs false (.tup xs) .non S = .ok (.bl false) S := rfl
theorem isn_fr (S : Sto) : opIs false (fr p q) .non S = .ok (.bl false) S := rfl
theorem r_fraction_in (h : FrOk 200 p q) : ∃ e, callN es (k + 3) "fraction_in" [.str (SX.S (TX p q))] Sz = .ok (fr p q) (Sz ++ e) := by
  rw [u_fraction_in]
  unfold d_fraction_in
  obtain ⟨e1, h1⟩ := r_integer_in (k := k) (Sz := Sz) h.2.2.1
  have hl := TX_len (N := 200) (by omega) h.2.2.1 h.2.2.2
  by_cases z : q = 1
  · subst z
    have e0 : TX p 1 = txL p := if_pos rfl
    rw [e0] at hl ⊢
    have pa := part_1 (txL p) (by omega) (txL_free (by omega))
    refine ⟨e1, ?_⟩
    simp [entry, tyS, pa, h1, isn_int, strE, eqS, fr]
  · have e0 : TX p q = txL p ++ 47 :: TL.numL q.natAbs := if_neg z
    rw [e0] at hl ⊢
    have pa := part_2 (txL p) (TL.numL q.natAbs) (by omega) (txL_free (by omega))
    obtain ⟨e2, h2⟩ := r_count_in (k := k + 1) (Sz := Sz ++ e1) q.natAbs h.2.2.2
    have hq := h.1
    have nq : ((q.natAbs : Nat) : Int) = q := by omega
    rw [nq] at h2
    have q2 : ¬ q < 2 := by omega
    have gg : ((Nat.gcd p.natAbs q.natAbs : Nat) : Int) = 1 := by rw [h.2.1]; rfl
    refine ⟨e1 ++ e2, ?_⟩
    have q2' : 2 ≤ q := by omega
    rw [← List.append_assoc]
    simp [entry, tyS, pa, h1, isn_int, strE, eqS, h2, q2', Int.not_lt.mpr q2', x_gcd, gg, fr]
theorem is_str (l : List Nat) (S : Sto) : (optR (clsD S (.str (SX.S l))) fun t => optR (ansB T "str" t) fun b => .ok (.bl b) S) = .ok (.bl true) S := rfl
theorem r_read_fraction (h : FrOk 200 p q) : ∃ e, callN es (k + 4) "read_fraction" [.str (SX.S (TX p q))] Sz = .ok (fr p q) (Sz ++ e) := by
  rw [u_read_fraction]
  unfold d_read_fraction
  obtain ⟨e, q1⟩ := r_fraction_in (k := k) (Sz := Sz) h
  have as : ansB T "str" (.b "str") = some true := rfl
  exact ⟨e, by simp [entry, as, q1, isn_fr]⟩
/-! ### written -/
theorem x_bStrT {i : Int} (h : i.natAbs < 10 ^ 500) (S : Sto) : bStr (.int i) S = .ok (.str (SX.S (txL i))) S := by
  show (if i.natAbs.log2 < 1920 then R.ok (D.str (toString i)) S else .bad) = _
  have hl : i.natAbs.log2 < 1920 := by
    by_cases z : i.natAbs = 0
    · rw [z]
      decide
    · exact (Nat.log2_lt z).mpr (Nat.lt_trans h (by decide +kernel))
  rw [if_pos hl, ← txt_S]
  rfl
theorem x_fmtT {i : Int} (h : i.natAbs < 10 ^ 500) (S : Sto) : fmtD (.int i) S = .ok (.str (SX.S (txL i))) S := x_bStrT h S
theorem x_joinK (f : Str → Den D) (acc : Str) (ρ : Ev) (y : Str) (S : Sto) : joinK f acc ρ (.str y) S = if (acc ++ y).length ≤ sizeLine then f (acc ++ y) ρ S else .bad := rfl
theorem x_addS {a c : List Nat} (h : a.length + c.length ≤ 16777216) (S : Sto) : opAdd (.str (SX.S a)) (.str (SX.S c)) S = .ok (.str (SX.S (a ++ c))) S := by
  show (if (SX.S a).length + (SX.S c).length ≤ sizeLine then R.ok (D.str (SX.S a ++ SX.S c)) S else .bad) = _
  rw [if_pos (by rw [sizeLine_eq, S_length, S_length]; exact h), SX.S_cat]
theorem txL_pos (hq : 0 < q) : txL q = TL.numL q.natAbs := if_neg (by omega)
theorem r__law_text {N : Nat} (h0 : 0 < N) (hN : N ≤ 500) (h : FrOk N p q) : callN es (k + 1) "_law_text" [fr p q] Sz = .ok (.str (SX.S (TX p q))) Sz := by
  rw [u__law_text]
  unfold d__law_text
  have big : ∀ {i : Int}, i.natAbs < 10 ^ N → i.natAbs < 10 ^ 500 := fun h => Nat.lt_of_lt_of_le h (Nat.pow_le_pow_right (by decide) hN)
  have bp := x_bStrT (big h.2.2.1)
  have bq := x_bStrT (big h.2.2.2)
  have l1 := txL_len h0 h.2.2.1
  have l2 := txL_len h0 h.2.2.2
  by_cases z : q = 1
  · subst z
    have e0 : TX p 1 = txL p := if_pos rfl
    simp [entry, fr_idx0, fr_idx1, bp, e0]
  · have e0 : TX p q = txL p ++ 47 :: TL.numL q.natAbs := if_neg z
    rw [txL_pos h.1] at bq l2
    have a1 := x_addS (a := txL p) (c := [47]) (by simp; omega)
    have a2 := x_addS (a := txL p ++ [47]) (c := TL.numL q.natAbs) (by simp; omega)
    simp only [List.append_assoc, List.cons_append, List.nil_append] at a1 a2
    have sl : D.str "/" = .str (SX.S [47]) := by rw [strSl]
    simp [entry, fr_idx0, fr_idx1, bp, bq, z, e0, sl, a1, a2]
theorem r_is_short (i : Int) : callN es (k + 1) "is_short" [.int i] Sz = .ok (.bl (decide (i.natAbs < 10 ^ 200))) Sz := by
  rw [u_is_short]
  unfold d_is_short
  obtain ⟨B, hB⟩ : ∃ B : Int, B = 10 ^ 200 := ⟨_, rfl⟩
  have cB : c_BEYOND_DIGITS = .int B := by rw [hB]; rfl
  rw [cB]
  have e : (decide (i.natAbs < 10 ^ 200)) = (decide (-B < i) && decide (i < B)) := by
    rw [Bool.eq_iff_iff]
    simp only [Bool.and_eq_true, decide_eq_true_eq]
    omega
  rw [e]
  by_cases c1 : -B < i
  · simp [entry, c1]
  · simp [entry, c1]
theorem r_is_writable (h : FrOk 600 p q) : callN es (k + 3) "is_writable" [fr p q] Sz = .ok (.bl (decide (p.natAbs < 10 ^ 200) && decide (q.natAbs < 10 ^ 200))) Sz := by
  rw [u_is_writable]
  unfold d_is_writable
  have f := r_is_fraction (k := k) (Sz := Sz) (h.vs (Nat.le_refl _))
  rw [h.frac] at f
  have s1 := r_is_short (k := k + 1) (Sz := Sz) p
  have s2 := r_is_short (k := k + 1) (Sz := Sz) q
  generalize hb1 : decide (p.natAbs < 10 ^ 200) = b1 at *
  generalize hb2 : decide (q.natAbs < 10 ^ 200) = b2 at *
  cases b1 <;> simp [entry, f, fr_idx0, fr_idx1, s1, s2]
theorem r_fraction_text (h : FrOk 200 p q) : callN es (k + 1) "fraction_text" [fr p q] Sz = .ok (.str (SX.S (TX p q))) Sz := by
  rw [u_fraction_text]
  unfold d_fraction_text
  have big : ∀ {i : Int}, i.natAbs < 10 ^ 200 → i.natAbs < 10 ^ 500 := fun h => Nat.lt_of_lt_of_le h (Nat.pow_le_pow_right (by decide) (by decide))
  have bp := x_bStrT (big h.2.2.1)
  have fp := x_fmtT (big h.2.2.1)
  have fq := x_fmtT (big h.2.2.2)
  have l1 := txL_len (N := 200) (by omega) h.2.2.1
  have l2 := txL_len (N := 200) (by omega) h.2.2.2
  by_cases z : q = 1
  · subst z
    have e0 : TX p 1 = txL p := if_pos rfl
    simp [entry, fr, bp, e0]
  · have e0 : TX p q = txL p ++ 47 :: TL.numL q.natAbs := if_neg z
    rw [txL_pos h.1] at fq l2
    have sl : D.str "/" = .str (SX.S [47]) := by rw [strSl]
    have c1 : Str.empty ++ SX.S (txL p) = SX.S (txL p) := SX.S_cat [] (txL p)
    have c2 : SX.S (txL p) ++ SX.S [47] = SX.S (txL p ++ [47]) := SX.S_cat _ _
    have c3 : SX.S (txL p ++ [47]) ++ SX.S (TL.numL q.natAbs) = SX.S (txL p ++ 47 :: TL.numL q.natAbs) := by
      rw [SX.S_cat, List.append_assoc]
      rfl
    have z1 : (SX.S (txL p)).length ≤ sizeLine := by rw [sizeLine_eq, S_length]; omega
    have z2 : (SX.S (txL p ++ [47])).length ≤ sizeLine := by rw [sizeLine_eq, S_length]; simp; omega
    have z3 : (SX.S (txL p ++ 47 :: TL.numL q.natAbs)).length ≤ sizeLine := by rw [sizeLine_eq, S_length]; simp; omega
    simp [entry, fr, z, fp, fq, sl, x_joinK, c1, c2, c3, z1, z2, z3, e0]
theorem r_write_fraction (h : FrOk 200 p q) : callN es (k + 4) "write_fraction" [fr p q] Sz = .ok (.str (SX.S (TX p q))) Sz := by
  rw [u_write_fraction]
  unfold d_write_fraction
  have w := r_is_writable (k := k) (Sz := Sz) (p := p) (q := q) ⟨h.1, h.2.1, Nat.lt_of_lt_of_le h.2.2.1 (Nat.pow_le_pow_right (by decide) (by decide)), Nat.lt_of_lt_of_le h.2.2.2 (Nat.pow_le_pow_right (by decide) (by decide))⟩
  rw [decide_eq_true h.2.2.1, decide_eq_true h.2.2.2] at w
  have t := r_fraction_text (k := k + 2) (Sz := Sz) h
  simp [entry, w, t]
theorem by_tx (x : D) : byName [((S "text"), x)] .non [(S "text")] = [x] := rfl
theorem r__law_texts_right (c : Bool) (h : FrOk 200 p q) : ∃ e, callN es (k + 5) "_law_texts_right" [fr p q, .bl c] Sz = .ok (.bl true) (Sz ++ e) := by
  rw [u__law_texts_right]
  unfold d__law_texts_right
  have lt := r__law_text (k := k + 3) (Sz := Sz) (by omega) (by omega) h
  have wr := r_write_fraction (k := k) (Sz := Sz) h
  obtain ⟨e1, rd1⟩ := r_read_fraction (k := k) (Sz := Sz) h
  have tl := TX_len (N := 200) (by omega) h.2.2.1 h.2.2.2
  have v1 : Eqv (Sz ++ e1) 1 (.str (SX.S (TX p q))) (.str (SX.S (TX p q))) := ⟨rfl, by rw [S_length]; omega⟩
  obtain ⟨e2, s1⟩ := r__law_same 1 (k + 3) _ _ _ v1
  obtain ⟨e3, s2⟩ := r__law_same 2 (k + 2) (fr p q) (fr p q) (Sz ++ e1 ++ e2) eqv_fr
  obtain ⟨e4, rd2⟩ := r_read_fraction (k := k) (Sz := Sz ++ e1 ++ e2 ++ e3) h
  obtain ⟨e5, s3⟩ := r__law_same 2 (k + 2) (fr p q) (fr p q) (Sz ++ e1 ++ e2 ++ e3 ++ e4) eqv_fr
  refine ⟨e1 ++ e2 ++ e3 ++ e4 ++ e5, ?_⟩
  have ee : Sz ++ (e1 ++ e2 ++ e3 ++ e4 ++ e5) = Sz ++ e1 ++ e2 ++ e3 ++ e4 ++ e5 := by simp
  rw [ee]
  generalize hE5 : Sz ++ e1 ++ e2 ++ e3 ++ e4 ++ e5 = E5 at *
  generalize hE4 : Sz ++ e1 ++ e2 ++ e3 ++ e4 = E4 at *
  generalize hE3 : Sz ++ e1 ++ e2 ++ e3 = E3 at *
  generalize hE2 : Sz ++ e1 ++ e2 = E2 at *
  generalize hE1 : Sz ++ e1 = E1 at *
  cases c <;> simp [entry, lt, wr, rd1, by_v, by_tx, s1, s2, rd2, s3]
end DL
end
section
set_option Elab.async false
set_option linter.all false
set_option maxRecDepth 100000
set_option maxHeartbeats 4000000
set_option exponentiation.threshold 5000
/-! K01i: texts and fractions that are refused; products of 200 and 201 digits -/
namespace DL
open PySem PySem.Spec PyProof.Rows L2
variable {k b n : Nat} {A Sz : Sto} {d : D} {p q : Int}
theorem r_fraction_bad (h : (q = 1 ∧ 10 ^ 200 ≤ p.natAbs ∧ p.natAbs < 10 ^ 600) ∨ (1 < q ∧ p.natAbs < 10 ^ 200 ∧ 10 ^ 200 ≤ q.natAbs ∧ q.natAbs < 10 ^ 600)) : ∃ e, callN es (k + 3) "fraction_in" [.str (SX.S (TX p q))] Sz = .ok .non (Sz ++ e) := by
  rw [u_fraction_in]
  unfold d_fraction_in
  rcases h with ⟨rfl, h1, h2⟩ | ⟨hq, h1, h2, h3⟩
  · have hl := txL_len (N := 600) (by omega) h2
    have e0 : TX p 1 = txL p := if_pos rfl
    rw [e0]
    have pa := part_1 (txL p) (by omega) (txL_free (by omega))
    have ii := r_integer_big (k := k) (Sz := Sz) h1 h2
    exact ⟨[], by simp [entry, tyS, pa, ii, isn_non]⟩
  · have l1 := txL_len (N := 200) (by omega) h1
    have l2 := TL.numL_len (n := q.natAbs) (k := 600) (by omega) h3
    have e0 : TX p q = txL p ++ 47 :: TL.numL q.natAbs := if_neg (by omega)
    rw [e0]
    have pa := part_2 (txL p) (TL.numL q.natAbs) (by simp; omega) (txL_free (by omega))
    obtain ⟨e1, ii⟩ := r_integer_in (k := k) (Sz := Sz) h1
    have cc := r_count_big (k := k + 1) (Sz := Sz ++ e1) q.natAbs h2 h3
    exact ⟨e1, by simp [entry, tyS, pa, ii, isn_int, strE, eqS, cc, isn_non]⟩
theorem r_read_bad (h : (q = 1 ∧ 10 ^ 200 ≤ p.natAbs ∧ p.natAbs < 10 ^ 600) ∨ (1 < q ∧ p.natAbs < 10 ^ 200 ∧ 10 ^ 200 ≤ q.natAbs ∧ q.natAbs < 10 ^ 600)) : ∃ ρ e, callN es (k + 4) "read_fraction" [.str (SX.S (TX p q))] Sz = .exc "InvalidText" [("given", .str (SX.S (TX p q)))] ρ (Sz ++ e) := by
  rw [u_read_fraction]
  unfold d_read_fraction
  obtain ⟨e, q1⟩ := r_fraction_bad (k := k) (Sz := Sz) h
  have as : ansB T "str" (.b "str") = some true := rfl
  exact ⟨[some (.str (SX.S (TX p q))), some .non], e, by simp [entry, as, q1, isn_non]⟩
theorem r_write_bad (h : FrOk 600 p q) (hb : 10 ^ 200 ≤ p.natAbs ∨ 10 ^ 200 ≤ q.natAbs) : ∃ ρ, callN es (k + 4) "write_fraction" [fr p q] Sz = .exc "InvalidFraction" [("given", fr p q)] ρ Sz := by
  rw [u_write_fraction]
  unfold d_write_fraction
  have w := r_is_writable (k := k) (Sz := Sz) h
  have e : (decide (p.natAbs < 10 ^ 200) && decide (q.natAbs < 10 ^ 200)) = false := by
    rw [Bool.and_eq_false_iff]
    rcases hb with z | z
    · exact .inl (decide_eq_false (by omega))
    · exact .inr (decide_eq_false (by omega))
  rw [e] at w
  exact ⟨[some (fr p q)], by simp [entry, w]⟩
/-! ### asked with a try -/
theorem exm_T : T.exm (S "InvalidText") (S "InvalidText") = some true := by kernel_rfl
theorem exm_F : T.exm (S "InvalidFraction") (S "InvalidFraction") = some true := by kernel_rfl
theorem xcs_T : T.xcs.lookup (S "InvalidText") = some (S "given") := by kernel_rfl
theorem xcs_F : T.xcs.lookup (S "InvalidFraction") = some (S "given") := by kernel_rfl
theorem isi_T : T.isi (.x (S "InvalidText")) (.x (S "NetError")) = some true := by kernel_rfl
theorem isi_F : T.isi (.x (S "InvalidFraction")) (.x (S "NetError")) = some true := by kernel_rfl
theorem hFld_T (d : D) (ρ : Ev) (S1 : Sto) : hFldT T (S "given") (S "InvalidText") [(S "given", d)] ρ S1 = .ok d S1 := by
  unfold hFldT
  rw [if_pos xcs_T]
  rfl
theorem hFld_F (d : D) (ρ : Ev) (S1 : Sto) : hFldT T (S "given") (S "InvalidFraction") [(S "given", d)] ρ S1 = .ok d S1 := by
  unfold hFldT
  rw [if_pos xcs_F]
  rfl
theorem hIsi_T (fs : List (Str × D)) (ρ : Ev) (S1 : Sto) : hIsiT T (S "NetError") (S "InvalidText") fs ρ S1 = .ok (.bl true) S1 := by
  unfold hIsiT
  rw [isi_T]
  rfl
theorem hIsi_F (fs : List (Str × D)) (ρ : Ev) (S1 : Sto) : hIsiT T (S "NetError") (S "InvalidFraction") fs ρ S1 = .ok (.bl true) S1 := by
  unfold hIsiT
  rw [isi_F]
  rfl
theorem x_hC (d : D) (c : Str) (fs : List (Str × D)) (ρ : Ev) (S1 : Sto) : hC d c fs ρ S1 = .ok d S1 := rfl
theorem x_sTry {exm : Str → Str → Option Bool} {bb : DenS} {x : Str} {i : Nat} {su : Str → List (Str × D) → DenS} {ρ : Ev} {S1 : Sto} : sTry exm bb x i su ρ S1 = hTry exm x i su (bb ρ S1) := rfl
theorem x_hTry_ok {exm : Str → Str → Option Bool} {x : Str} {i : Nat} {su : Str → List (Str × D) → DenS} {f : Fl} {S1 : Sto} : hTry exm x i su (.ok f S1) = .ok f S1 := rfl
theorem x_hTry_x {exm : Str → Str → Option Bool} {c x : Str} {i : Nat} {su : Str → List (Str × D) → DenS} {fs : List (Str × D)} {ρ : Ev} {S1 : Sto} (h : exm c x = some true) (hl : i < ρ.length) : hTry exm x i su (.exc c fs ρ S1) = clrR i (su c fs (ρ.set i none) S1) := by
  unfold hTry
  simp only [h, if_pos hl]
theorem x_clr_ret {i : Nat} {d : D} {S1 : Sto} : clrR i (.ok (.ret d) S1) = .ok (.ret d) S1 := rfl
theorem r__law_read (c : Bool) (h : FrOk 200 p q) : ∃ l e, callN es (k + 5) "_law_read" [.str (SX.S (TX p q)), .bl c] Sz = .ok (.ref l) (Sz ++ e) ∧ (Sz ++ e)[l]? = some (.lst [.str "told", fr p q]) := by
  rw [u__law_read]
  unfold d__law_read
  obtain ⟨e, rd⟩ := r_read_fraction (k := k) (Sz := Sz) h
  refine ⟨(Sz ++ e).length, e ++ [.lst [.str "told", fr p q]], ?_, by rw [← List.append_assoc]; exact at_new _⟩
  rw [← List.append_assoc]
  generalize hE : Sz ++ e = E at rd ⊢
  cases c <;> simp [entry, x_sTry, by_tx, rd, x_hTry_ok]
theorem r__law_read_bad (c : Bool) (h : (q = 1 ∧ 10 ^ 200 ≤ p.natAbs ∧ p.natAbs < 10 ^ 600) ∨ (1 < q ∧ p.natAbs < 10 ^ 200 ∧ 10 ^ 200 ≤ q.natAbs ∧ q.natAbs < 10 ^ 600)) : ∃ l e, callN es (k + 5) "_law_read" [.str (SX.S (TX p q)), .bl c] Sz = .ok (.ref l) (Sz ++ e) ∧ (Sz ++ e)[l]? = some (.lst [.str "no text", .str (SX.S (TX p q)), .bl true]) := by
  rw [u__law_read]
  unfold d__law_read
  obtain ⟨ρ, e, rd⟩ := r_read_bad (k := k) (Sz := Sz) h
  refine ⟨(Sz ++ e).length, e ++ [.lst [.str "no text", .str (SX.S (TX p q)), .bl true]], ?_, by rw [← List.append_assoc]; exact at_new _⟩
  rw [← List.append_assoc]
  generalize hE : Sz ++ e = E at rd ⊢
  generalize hX : SX.S (TX p q) = x at rd ⊢
  have ht := fun su S1 (ρ : Ev) (hl : 2 < ρ.length) => x_hTry_x (su := su) (S1 := S1) (fs := [(S "given", .str x)]) exm_T hl
  have hf := hFld_T (.str x)
  have hi := hIsi_T [(S "given", .str x)]
  cases c <;> simp [entry, x_sTry, by_tx, rd, ht, hf, hi, x_hC, x_clr_ret]
theorem r__law_written (c : Bool) (h : FrOk 200 p q) : ∃ l e, callN es (k + 5) "_law_written" [fr p q, .bl c] Sz = .ok (.ref l) (Sz ++ e) ∧ (Sz ++ e)[l]? = some (.lst [.str "told", .str (SX.S (TX p q))]) := by
  rw [u__law_written]
  unfold d__law_written
  have wr := r_write_fraction (k := k) (Sz := Sz) h
  refine ⟨Sz.length, [.lst [.str "told", .str (SX.S (TX p q))]], ?_, at_new _⟩
  cases c <;> simp [entry, x_sTry, by_v, wr, x_hTry_ok]
theorem r__law_written_bad (c : Bool) (h : FrOk 600 p q) (hb : 10 ^ 200 ≤ p.natAbs ∨ 10 ^ 200 ≤ q.natAbs) : ∃ l e, callN es (k + 5) "_law_written" [fr p q, .bl c] Sz = .ok (.ref l) (Sz ++ e) ∧ (Sz ++ e)[l]? = some (.lst [.str "no fraction", fr p q, .bl true]) := by
  rw [u__law_written]
  unfold d__law_written
  obtain ⟨ρ, wr⟩ := r_write_bad (k := k) (Sz := Sz) h hb
  refine ⟨Sz.length, [.lst [.str "no fraction", fr p q, .bl true]], ?_, at_new _⟩
  have ht := fun su S1 (ρ : Ev) (hl : 2 < ρ.length) => x_hTry_x (su := su) (S1 := S1) (fs := [(S "given", fr p q)]) exm_F hl
  have hf := hFld_F (fr p q)
  have hi := hIsi_F [(S "given", fr p q)]
  cases c <;> simp [entry, x_sTry, by_v, wr, ht, hf, hi, x_hC, x_clr_ret]
end DL
end
section
set_option Elab.async false
set_option linter.all false
set_option maxRecDepth 100000
set_option maxHeartbeats 4000000
set_option exponentiation.threshold 5000
/-! K01j: what is drawn -/
namespace DL
open PySem PySem.Spec PyProof.Rows L2
variable {k b n : Nat} {A Sz : Sto} {d : D} {p q : Int}
theorem mul_s {s w : Int} (hs : s = 1 ∨ s = -1) (S : Sto) : opMul (.int s) (.int w) S = .ok (.int (s * w)) S := x_mul _ _ _ (by
  have : s.natAbs < 2 ^ 64 := by rcases hs with rfl | rfl <;> decide
  simp [mulFit, this])
theorem sgn_abs {s w : Int} (hs : s = 1 ∨ s = -1) : (s * w).natAbs = w.natAbs := by
  rcases hs with rfl | rfl <;> simp
theorem r__law_whole {N : Nat} (hb : BoxAt b N Sz) (hN : N ≤ 90000) : ∃ w S', callN es (k + 2) "_law_whole" [.ref b] Sz = .ok (.int w) S' ∧ w.natAbs < 10 ^ 40 ∧ BoxAt b (N + 10) S' ∧ ExtB b Sz S' := by
  rw [u__law_whole]
  unfold d__law_whole
  obtain ⟨way, S1, q1, w0, w1, b1, x1, l1⟩ := r__law_take (k := k) (m := 8) hb (by omega) (by omega) (by omega)
  obtain ⟨sg, S2, q2, s0, s1, b2, x2, l2⟩ := r__law_take (k := k) (m := 2) b1 (by omega) (by omega) (by omega)
  have X2 := x1.trans x2
  obtain ⟨s, hs, hs1⟩ : ∃ s : Int, 1 - 2 * sg = s ∧ (s = 1 ∨ s = -1) := ⟨_, rfl, by omega⟩
  have m2 : ∀ S, opMul (.int 2) (.int sg) S = .ok (.int (2 * sg)) S := fun S => x_mul _ _ _ (by simp [mulFit])
  suffices hr : Runs _ (fun v S' => ∃ w : Int, v = .int w ∧ w.natAbs < 10 ^ 40 ∧ BoxAt b (N + 10) S' ∧ ExtB b Sz S') from by
    obtain ⟨v, S', h1, w, rfl, h2⟩ := hr
    exact ⟨w, S', h1, h2⟩
  refine runs_seq (runs_eq (ρ := [some (.ref b), some (.int way), some (.int s), some (.int 0), none]) (Sz := S2) (by
    simp [entry, sPar3, q1, q2, m2, hs]) ?_)
  obtain ⟨B40, hB40⟩ : ∃ B : Int, B = 10 ^ 40 := ⟨_, rfl⟩
  have p40 : ∀ S, opPow (.int 10) (.int 40) S = .ok (.int B40) S := fun S => by rw [hB40]; exact x_pow10 40 (by omega) S
  have z40 : B40 ≠ 0 := by omega
  have z1000 : (1000 : Int) ≠ 0 := by decide
  have mw : ∀ w S, opMul (.int s) (.int w) S = .ok (.int (s * w)) S := fun w S => mul_s hs1 S
  by_cases c : 5 < way
  · obtain ⟨ρ', S', h1, f, y, rfl, f0, f1, b3, x3⟩ : RunsF (sFor (iRng rng1 (fCons (fC (.int 7)) fNil)) (tName 4) (sSeq (sAsg (fOp opMod (fB (DL.b1 bInt) (fCons (fOp opAdd (fOp opMul (fVar 3) (fC (.int 1000003))) (fCall (callN es (k + 1) "_law_take") (fCons (fVar 0) (fCons (fC (.int 1000003)) fNil)))) fNil)) (fOp opPow (fC (.int 10)) (fC (.int 40)))) (tName 3)) sNil) [some (.ref b), some (.int way), some (.int s), some (.int 0), none] S2)
        (fun ρ' S' => ∃ (f : Int) (y : Option D), ρ' = [some (.ref b), some (.int way), some (.int s), some (.int f), y] ∧ 0 ≤ f ∧ f < B40 ∧ BoxAt b (N + 9) S' ∧ ExtB b Sz S') := by
      refine runs_for (i := ⟨rngs 0 1 7, fun _ => True⟩) (S1 := S2) (by simp; rw [x_rng1 (by omega) (by omega)]; rfl)
        (fun i ρ S' => ∃ (f : Int) (y : Option D), ρ = [some (.ref b), some (.int way), some (.int s), some (.int f), y] ∧ 0 ≤ f ∧ f < B40 ∧ BoxAt b (N + 2 + i) S' ∧ ExtB b Sz S') ⟨0, none, rfl, by omega, by omega, b2, X2⟩ (fun _ _ _ _ => trivial) ?_ ?_
      · rintro d hd j ρ S3 hj ⟨f, y, rfl, f0, f1, b3, x3⟩
        rw [rngs_len] at hj
        refine ⟨_, _, rfl, ?_⟩
        obtain ⟨r, S4, q4, r0, r1, b4, x4, l4⟩ := r__law_take (k := k) (m := 1000003) b3 (by omega) (by omega) (by omega)
        have mf : ∀ S, opMul (.int f) (.int 1000003) S = .ok (.int (f * 1000003)) S := fun S => x_mul _ _ _ (by simp [mulFit])
        have fb := fmod_bd (i := f * 1000003 + r) (m := B40) (by omega)
        refine runs_eq (ρ := [some (.ref b), some (.int way), some (.int s), some (.int ((f * 1000003 + r).fmod B40)), some d]) (Sz := S4) (by
          simp [mf, q4, p40, x_mod _ _ _ z40]) ⟨_, _, rfl, fb.1, fb.2, b4, x3.trans x4⟩
      · rintro ρ S' ⟨f, y, rfl, f0, f1, b3, x3⟩
        rw [rngs_len] at b3
        exact ⟨f, y, rfl, f0, f1, b3, x3⟩
    have fm := fmod_bd (i := f) (m := 1000) (by decide)
    by_cases c6 : way = 6
    · refine ⟨.int (s * f), S', ?_, s * f, rfl, by rw [sgn_abs hs1]; omega, b3.le (by omega), x3⟩
      subst c6
      simp only [x_sSeq, x_fIf, x_fBool, x_fOp, x_varS, x_var0, x_fC, R.bind_ok, x_gt, show decide ((5 : Int) < 6) = true from rfl, decide_true, if_true, h1, x_goOn_nx, x_sRet, x_eq, mw, x_goOn_ret, x_strip_ret]
    · refine ⟨.int (s * (B40 - 1 - f.fmod 1000)), S', ?_, _, rfl, by rw [sgn_abs hs1]; omega, b3.le (by omega), x3⟩
      simp only [x_sSeq, x_fIf, x_fBool, x_fOp, x_varS, x_var0, x_fC, R.bind_ok, x_gt, c, decide_true, if_true, h1, x_goOn_nx, x_sRet, x_eq, decide_eq_false c6, Bool.false_eq_true, if_false, p40, x_sub, x_fB, x_b1, x_fCons, x_fNil, x_bInt, x_mod _ _ _ z1000, mw, x_goOn_ret, x_strip_ret]
  · have c' : ¬ (5 : Int) < way := c
    by_cases c5 : way = 5
    · obtain ⟨r, S3, q3, r0, r1, b3, x3, l3⟩ := r__law_take (k := k) (m := 1000003) b2 (by omega) (by omega) (by omega)
      refine ⟨.int (s * r), S3, ?_, _, rfl, by rw [sgn_abs hs1]; omega, b3.le (by omega), X2.trans x3⟩
      subst c5
      simp [q3, mw]
    · obtain ⟨a1, S3, q3, a10, a11, b3, x3, l3⟩ := r__law_take (k := k) (m := 3) b2 (by omega) (by omega) (by omega)
      obtain ⟨a2, S4, q4, a20, a21, b4, x4, l4⟩ := r__law_take (k := k) (m := 9) b3 (by omega) (by omega) (by omega)
      obtain ⟨a3, S5, q5, a30, a31, b5, x5, l5⟩ := r__law_take (k := k) (m := 13) b4 (by omega) (by omega) (by omega)
      obtain ⟨a4, S6, q6, a40, a41, b6, x6, l6⟩ := r__law_take (k := k) (m := 9) b5 (by omega) (by omega) (by omega)
      have m12 : ∀ S, opMul (.int 12) (.int a4) S = .ok (.int (12 * a4)) S := fun S => x_mul _ _ _ (by simp [mulFit])
      obtain ⟨x, hx, ax⟩ := at_int (xs := [.int a1, .int (1 + a2), .int a3, .int (12 * a4), .int 0]) w0 (by simp; omega)
      have hx2 : ∃ w : Int, x = .int w ∧ w.natAbs < 1000 := by
        simp only [List.mem_cons, List.not_mem_nil, or_false] at hx
        rcases hx with rfl | rfl | rfl | rfl | rfl <;> exact ⟨_, rfl, by omega⟩
      obtain ⟨w, rfl, hw⟩ := hx2
      have ix := x_idx_at (at_new (Sz := S6) [.int a1, .int (1 + a2), .int a3, .int (12 * a4), .int 0]) ax
      refine ⟨.int (s * w), S6 ++ [.lst [.int a1, .int (1 + a2), .int a3, .int (12 * a4), .int 0]], ?_, _, rfl, by rw [sgn_abs hs1]; omega, (b6.app _).le (by omega), (((X2.trans x3).trans (x4.trans (x5.trans x6)))).trans (.app _)⟩
      have c3 : way ≤ 5 := by omega
      simp [c3, Int.not_lt.mpr c3, c5, q3, q4, q5, q6, m12, ix, mw]
theorem r__law_bottom {N : Nat} (hb : BoxAt b N Sz) (hN : N ≤ 80000) : ∃ w S', callN es (k + 3) "_law_bottom" [.ref b] Sz = .ok (.int w) S' ∧ w ≠ 0 ∧ w.natAbs < 10 ^ 40 ∧ BoxAt b (N + 11) S' ∧ ExtB b Sz S' := by
  rw [u__law_bottom]
  unfold d__law_bottom
  obtain ⟨w, S1, q1, hw, b1, x1⟩ := r__law_whole (k := k) hb (by omega)
  by_cases z : w = 0
  · subst z
    obtain ⟨r, S2, q2, r0, r1, b2, x2, l2⟩ := r__law_take (k := k + 1) (m := 9) b1 (by omega) (by omega) (by omega)
    exact ⟨1 + r, S2, by simp [entry, q1, q2], by omega, by omega, b2, x1.trans x2⟩
  · exact ⟨w, S1, by simp [entry, q1, z], z, hw, b1.le (by omega), x1⟩
/-- two fractions that are drawn -/
def PairQ (b N : Nat) (Sz : Sto) (v : D) (S' : Sto) : Prop := ∃ l p q r s, v = .ref l ∧ S'[l]? = some (.lst [fr p q, fr r s]) ∧ FrOk 41 p q ∧ FrOk 41 r s ∧ BoxAt b (N + 50) S' ∧ ExtB b Sz S'
theorem FrOk.le {N M : Nat} (h : FrOk N p q) (e : N ≤ M) : FrOk M p q := ⟨h.1, h.2.1, Nat.lt_of_lt_of_le h.2.2.1 (Nat.pow_le_pow_right (by decide) e), Nat.lt_of_lt_of_le h.2.2.2 (Nat.pow_le_pow_right (by decide) e)⟩
theorem r__law_pair {N : Nat} (hb : BoxAt b N Sz) (hN : N ≤ 70000) : Runs (callN es (k + 4) "_law_pair" [.ref b] Sz) (PairQ b N Sz) := by
  rw [u__law_pair]
  unfold d__law_pair
  obtain ⟨way, S1, q1, w0, w1, b1, x1, l1⟩ := r__law_take (k := k + 2) (m := 6) hb (by omega) (by omega) (by omega)
  obtain ⟨t, S2, q2, ht, b2, x2⟩ := r__law_whole (k := k + 1) b1 (by omega)
  obtain ⟨u, S3, q3, hu0, hu, b3, x3⟩ := r__law_bottom (k := k) b2 (by omega)
  obtain ⟨t2, S4, q4, ht2, b4, x4⟩ := r__law_whole (k := k + 1) b3 (by omega)
  obtain ⟨u2, S5, q5, hu20, hu2, b5, x5⟩ := r__law_bottom (k := k) b4 (by omega)
  obtain ⟨p, q, e1, f1, _⟩ := low_fr (N := 40) hu0 ht hu
  obtain ⟨r, s, e2, f2, _⟩ := low_fr (N := 40) hu20 ht2 hu2
  have F1 : FrOk 41 p q := f1.le (by omega)
  have F2 : FrOk 41 r s := f2.le (by omega)
  have X5 : ExtB b Sz S5 := x1.trans (x2.trans (x3.trans (x4.trans x5)))
  have lf1 : ∀ S, callN es (k + 3) "_law_frac" [.int t, .int u] S = .ok (fr p q) S := fun S => by rw [r__law_frac hu0 (Sm.of hu (by omega)), e1]; rfl
  have lf2 : ∀ S, callN es (k + 3) "_law_frac" [.int t2, .int u2] S = .ok (fr r s) S := fun S => by rw [r__law_frac hu20 (Sm.of hu2 (by omega)), e2]; rfl
  refine runs_seq (runs_eq (ρ := [some (.ref b), some (.int way), none, none]) (Sz := S1) (by simp [entry, q1]) ?_)
  refine runs_seq (runs_eq (ρ := [some (.ref b), some (.int way), some (fr p q), some (fr r s)]) (Sz := S5) (by simp [sPar2, q2, q3, lf1, q4, q5, lf2]) ?_)
  have bl := b5.lt
  have ff : ∀ x y : Int, D.tup [.int x, .int y] = fr x y := fun x y => rfl
  have Fm : FrOk 41 (-p) q := ⟨F1.1, by rw [Int.natAbs_neg]; exact F1.2.1, by rw [Int.natAbs_neg]; exact F1.2.2.1, F1.2.2.2⟩
  have Fm1 : FrOk 41 (-1) 1 := ⟨by decide, by decide, by decide, by decide⟩
  by_cases c0 : way = 0
  · subst c0
    exact ⟨.ref S5.length, S5 ++ [.lst [fr p q, fr p q]], by simp, _, _, _, _, _, rfl, at_new _, F1, F1, (b5.app _).le (by omega), X5.trans (.app _)⟩
  by_cases c1 : way = 1
  · subst c1
    exact ⟨.ref S5.length, S5 ++ [.lst [fr p q, fr (-p) q]], by simp [fr_idx0, fr_idx1, ff], _, _, _, _, _, rfl, at_new _, F1, Fm, (b5.app _).le (by omega), X5.trans (.app _)⟩
  by_cases c2 : way = 2
  · subst c2
    obtain ⟨B39, hB39⟩ : ∃ B : Int, B = 10 ^ 39 := ⟨_, rfl⟩
    have p39 : ∀ S, opPow (.int 10) (.int 39) S = .ok (.int B39) S := fun S => by rw [hB39]; exact x_pow10 39 (by omega) S
    have q0 : q ≠ 0 := by have := F1.1; omega
    by_cases ca : (p.natAbs : Int) < B39
    · obtain ⟨g, S6, q6, g0, g1, b6, x6, l6⟩ := r__law_take (k := k + 2) (m := 2) (b5.app [.lst [.int 1, .int (-1)]]) (by omega) (by omega) (by omega)
      have h6 : S6[S5.length]? = some (.lst [.int 1, .int (-1)]) := x6.2 _ _ (by omega) (at_new _)
      obtain ⟨e, he, ae⟩ := at_int (xs := [.int 1, .int (-1)]) g0 (by simp; omega)
      have he2 : ∃ w : Int, e = .int w ∧ w.natAbs = 1 := by
        simp only [List.mem_cons, List.not_mem_nil, or_false] at he
        rcases he with rfl | rfl <;> exact ⟨_, rfl, by decide⟩
      obtain ⟨w, rfl, hw⟩ := he2
      have ix := x_idx_at h6 ae
      have pw : (p + w).natAbs < 10 ^ 41 := by
        have h1 := f1.2.2.1
        omega
      obtain ⟨r2, s2, e3, f3, _⟩ := low_fr (N := 41) (t := p + w) q0 pw F1.2.2.2
      have lf3 : ∀ S, callN es (k + 3) "_law_frac" [.int (p + w), .int q] S = .ok (fr r2 s2) S := fun S => by rw [r__law_frac q0 (Sm.of F1.2.2.2 (by omega)), e3]; rfl
      refine ⟨.ref S6.length, S6 ++ [.lst [fr p q, fr r2 s2]], ?_, _, _, _, _, _, rfl, at_new _, F1, f3, (b6.app _).le (by omega), (X5.trans ((ExtB.app _).trans x6)).trans (.app _)⟩
      simp [fr_idx0, fr_idx1, abs_nat, p39, ca, q6, ix, lf3]
    · have lf3 : ∀ S, callN es (k + 3) "_law_frac" [.int 0, .int q] S = .ok (fr 0 1) S := fun S => by rw [r__law_frac q0 (Sm.of F1.2.2.2 (by omega)), low_0 q0]
      have ca' : B39 ≤ (p.natAbs : Int) := by omega
      refine ⟨.ref S5.length, S5 ++ [.lst [fr p q, fr 0 1]], ?_, _, _, _, _, _, rfl, at_new _, F1, fr01, (b5.app _).le (by omega), X5.trans (.app _)⟩
      simp [fr_idx0, fr_idx1, abs_nat, p39, ca', Int.not_lt.mpr ca', lf3]
  by_cases c3 : way = 3
  · subst c3
    obtain ⟨g, S6, q6, g0, g1, b6, x6, l6⟩ := r__law_take (k := k + 2) (m := 4) (b5.app [.lst [fr 0 1, fr p q], .lst [fr p q, fr 0 1], .lst [fr p q, fr 1 1], .lst [fr (-1) 1, fr p q], .lst [.ref S5.length, .ref (S5.length + 1), .ref (S5.length + 2), .ref (S5.length + 3)]]) (by omega) (by omega) (by omega)
    have at_ : ∀ i o, [Ob.lst [fr 0 1, fr p q], .lst [fr p q, fr 0 1], .lst [fr p q, fr 1 1], .lst [fr (-1) 1, fr p q], .lst [.ref S5.length, .ref (S5.length + 1), .ref (S5.length + 2), .ref (S5.length + 3)]][i]? = some o → S6[S5.length + i]? = some o := fun i o h => x6.2 _ _ (by omega) (by rw [at_plus]; exact h)
    have h4 := at_ 4 _ rfl
    obtain ⟨e, he, ae⟩ := at_int (xs := [.ref S5.length, .ref (S5.length + 1), .ref (S5.length + 2), .ref (S5.length + 3)]) g0 (by simp; omega)
    have ix := x_idx_at h4 ae
    refine ⟨e, S6, by simp [ff, Nat.add_assoc, q6, ix], ?_⟩
    simp only [List.mem_cons, List.not_mem_nil, or_false] at he
    have b7 := b6.le (show N + 1 + 10 + 11 + 10 + 11 + 1 ≤ N + 50 by omega)
    have x7 := X5.trans ((ExtB.app _).trans x6)
    rcases he with rfl | rfl | rfl | rfl
    · exact ⟨_, _, _, _, _, rfl, at_ 0 _ rfl, fr01, F1, b7, x7⟩
    · exact ⟨_, _, _, _, _, rfl, at_ 1 _ rfl, F1, fr01, b7, x7⟩
    · exact ⟨_, _, _, _, _, rfl, at_ 2 _ rfl, F1, fr11, b7, x7⟩
    · exact ⟨_, _, _, _, _, rfl, at_ 3 _ rfl, Fm1, F1, b7, x7⟩
  · refine ⟨.ref S5.length, S5 ++ [.lst [fr p q, fr r s]], by simp [c0, c1, c2, c3], _, _, _, _, _, rfl, at_new _, F1, F2, (b5.app _).le (by omega), X5.trans (.app _)⟩
end DL
end
section
set_option Elab.async false
set_option linter.all false
set_option maxRecDepth 100000
set_option maxHeartbeats 4000000
set_option exponentiation.threshold 5000
/-! K01k: products of 200 and 201 digits -/
namespace DL
open PySem PySem.Spec PyProof.Rows L2
variable {k b n : Nat} {A Sz : Sto} {d : D} {p q : Int}
/-- a comprehension with a count -/
theorem lcG_idx {g : DenG} {tt : Den Bool} {te : Den D} {ok : Sto → Prop} {ρ : Ev} (P : Nat → List D → Sto → Prop) : ∀ (ds : List D) (i : Nat) (acc : List D) (Sz : Sto), P i acc Sz → (∀ i acc S', P i acc S' → ok S') →
    (∀ d ∈ ds, ∀ j acc S1, j < i + ds.length → P j acc S1 → ∃ ρ' S2 S3 y S4, g d ρ S1 = .ok ρ' S2 ∧ tt ρ' S2 = .ok true S3 ∧ te ρ' S3 = .ok y S4 ∧ P (j + 1) (acc ++ [y]) S4) → ∃ out S', lcG g tt te ok ρ ds acc Sz = .ok out S' ∧ P (i + ds.length) out S'
  | [], i, acc, Sz, h0, ho, _ => ⟨acc, Sz, by unfold lcG; rw [if_pos (ho _ _ _ h0)], h0⟩
  | d :: ds, i, acc, Sz, h0, ho, h => by
    obtain ⟨ρ', S2, S3, y, S4, h1, h2, h3, h4⟩ := h d List.mem_cons_self i acc Sz (by simp) h0
    obtain ⟨out, S', q1, q2⟩ := lcG_idx P ds (i + 1) (acc ++ [y]) S4 h4 ho fun x hx j a s hj hp => h x (List.mem_cons_of_mem _ hx) j a s (by simp; omega) hp
    refine ⟨out, S', ?_, ?_⟩
    · unfold lcG
      rw [if_pos (ho _ _ _ h0), h1]
      simp only [R.strict_ok, R.bind_ok]
      rw [h2]
      simp only [R.strict_ok, R.bind_ok]
      rw [if_pos trivial, h3]
      simp only [R.strict_ok, R.bind_ok]
      exact q1
    · rw [List.length_cons, show i + (ds.length + 1) = i + 1 + ds.length by omega]
      exact q2
/-- the told products: the number as the bottom, or as the top -/
def wP (tn : Bool) (s : Int) (m : Nat) : Int := if tn then s else s * (m : Int)
def wQ (tn : Bool) (s : Int) (m : Nat) : Int := if tn then (m : Int) else 1
theorem w_fr {tn : Bool} {s : Int} {m N : Nat} (hs : s = 1 ∨ s = -1) (h0 : 0 < m) (hm : m < 10 ^ N) (hN : 1 ≤ N) : FrOk N (wP tn s m) (wQ tn s m) := by
  have h10 : 10 ≤ 10 ^ N := by
    have : (10 : Nat) ^ 1 ≤ 10 ^ N := Nat.pow_le_pow_right (by decide) hN
    omega
  have sa : s.natAbs = 1 := by rcases hs with rfl | rfl <;> rfl
  cases tn with
  | true => exact ⟨show (0 : Int) < (m : Int) by omega, by show Nat.gcd s.natAbs _ = 1; rw [sa]; exact Nat.gcd_one_left _, show s.natAbs < _ by omega, show ((m : Int)).natAbs < _ by rw [Int.natAbs_natCast]; exact hm⟩
  | false => exact ⟨show (0 : Int) < 1 by decide, by show Nat.gcd _ (1 : Int).natAbs = 1; exact Nat.gcd_one_right _, by
      show (s * (m : Int)).natAbs < _
      rw [sgn_abs hs, Int.natAbs_natCast]
      exact hm, show ((1 : Int)).natAbs < _ by
      show 1 < _
      omega⟩
theorem w_times {tn : Bool} {s : Int} {m v : Nat} (hs : s = 1 ∨ s = -1) (h0 : 0 < m) (hv : 0 < v) (hm : m < 10 ^ 200) (hv2 : v < 10 ^ 45) (S : Sto) :
    callN es (k + 4) "times" [fr (wP tn s m) (wQ tn s m), if tn then fr 1 (v : Int) else fr (v : Int) 1] S = .ok (fr (wP tn s (m * v)) (wQ tn s (m * v))) S := by
  have f1 := w_fr (tn := tn) (N := 250) hs h0 (Nat.lt_of_lt_of_le hm (Nat.pow_le_pow_right (by decide) (by decide))) (by omega)
  have vb : v < 10 ^ 250 := Nat.lt_of_lt_of_le hv2 (Nat.pow_le_pow_right (by decide) (by decide))
  have mv : m * v < 10 ^ 250 := by
    have : m * v < 10 ^ 200 * 10 ^ 45 := Nat.mul_lt_mul'' hm hv2
    rw [← Nat.pow_add] at this
    exact Nat.lt_of_lt_of_le this (Nat.pow_le_pow_right (by decide) (by decide))
  have f3 := w_fr (tn := tn) (N := 250) hs (Nat.mul_pos h0 hv) mv (by omega)
  cases tn with
  | true =>
    have f2 : FrOk 250 1 (v : Int) := ⟨by omega, by show Nat.gcd 1 _ = 1; exact Nat.gcd_one_left _, by decide, by rw [Int.natAbs_natCast]; exact vb⟩
    have t := r_times (k := k) (Sz := S) f1 f2 (by omega)
    have e := low_mul (g := 1) f3 (by decide)
    rw [Int.mul_one, Int.mul_one] at e
    have e2 : lowD (wP true s m * 1) (wQ true s m * (v : Int)) = lowD (wP true s (m * v)) (wQ true s (m * v)) := by
      show lowD (s * 1) ((m : Int) * (v : Int)) = lowD s (((m * v : Nat)) : Int)
      rw [Int.mul_one]
      push_cast
      rfl
    rw [e2, e] at t
    exact t
  | false =>
    have f2 : FrOk 250 (v : Int) 1 := frx1 (by rw [Int.natAbs_natCast]; exact vb) (by omega)
    have t := r_times (k := k) (Sz := S) f1 f2 (by omega)
    have e2 : lowD (wP false s m * (v : Int)) (wQ false s m * 1) = fr (wP false s (m * v)) (wQ false s (m * v)) := by
      show lowD (s * (m : Int) * (v : Int)) (1 * 1) = fr (s * (((m * v : Nat)) : Int)) 1
      rw [Int.one_mul, low_1]
      push_cast
      rw [Int.mul_assoc]
    rw [e2] at t
    exact t
/-- one product judged -/
theorem great_step {c : Bool} {wp wq : Int} {j : Nat} (h : FrOk 600 wp wq) (hj : if j < 5 then FrOk 200 wp wq else (wq = 1 ∧ 10 ^ 200 ≤ wp.natAbs ∧ wp.natAbs < 10 ^ 600) ∨ (1 < wq ∧ wp.natAbs < 10 ^ 200 ∧ 10 ^ 200 ≤ wq.natAbs ∧ wq.natAbs < 10 ^ 600)) :
    ∃ l e w, callN es (k + 5) "_law_written" [fr wp wq, .bl c] Sz = .ok (.ref l) (Sz ++ e) ∧ (Sz ++ e)[l]? = some (.lst w) ∧ w = (if j < 5 then [.str "told", .str (SX.S (TX wp wq))] else [.str "no fraction", fr wp wq, .bl true]) := by
  by_cases z : j < 5
  · rw [if_pos z] at hj ⊢
    obtain ⟨l, e, h1, h2⟩ := r__law_written (k := k) (Sz := Sz) c hj
    exact ⟨l, e, _, h1, h2, rfl⟩
  · rw [if_neg z] at hj ⊢
    obtain ⟨l, e, h1, h2⟩ := r__law_written_bad (k := k) (Sz := Sz) c h (by
      rcases hj with z | z
      · exact .inl z.2.1
      · exact .inr z.2.2.1)
    exact ⟨l, e, _, h1, h2, rfl⟩
theorem great_read {c : Bool} {wp wq : Int} {j : Nat} (hj : if j < 5 then FrOk 200 wp wq else (wq = 1 ∧ 10 ^ 200 ≤ wp.natAbs ∧ wp.natAbs < 10 ^ 600) ∨ (1 < wq ∧ wp.natAbs < 10 ^ 200 ∧ 10 ^ 200 ≤ wq.natAbs ∧ wq.natAbs < 10 ^ 600)) :
    ∃ l e w, callN es (k + 5) "_law_read" [.str (SX.S (TX wp wq)), .bl c] Sz = .ok (.ref l) (Sz ++ e) ∧ (Sz ++ e)[l]? = some (.lst w) ∧ w = (if j < 5 then [.str "told", fr wp wq] else [.str "no text", .str (SX.S (TX wp wq)), .bl true]) := by
  by_cases z : j < 5
  · rw [if_pos z] at hj ⊢
    obtain ⟨l, e, h1, h2⟩ := r__law_read (k := k) (Sz := Sz) c hj
    exact ⟨l, e, _, h1, h2, rfl⟩
  · rw [if_neg z] at hj ⊢
    obtain ⟨l, e, h1, h2⟩ := r__law_read_bad (k := k) (Sz := Sz) c hj
    exact ⟨l, e, _, h1, h2, rfl⟩
end DL
end
section
set_option Elab.async false
set_option linter.all false
set_option maxRecDepth 100000
set_option maxHeartbeats 4000000
set_option exponentiation.threshold 5000
/-! K01l: products of 200 and 201 digits, run -/
namespace DL
open PySem PySem.Spec PyProof.Rows L2
variable {k b n : Nat} {A Sz : Sto} {d : D} {p q : Int}
theorem eqv_self_str (l : List Nat) (hl : l.length ≤ 1000000) {S : Sto} {n : Nat} : Eqv S (n + 1) (.str (SX.S l)) (.str (SX.S l)) := ⟨rfl, by rw [S_length]; exact hl⟩
theorem eqv_lit (x : Str) (hx : x.length ≤ 1000000) {S : Sto} {n : Nat} : Eqv S (n + 1) (.str x) (.str x) := ⟨rfl, hx⟩
theorem t_bl' (c : Bool) (S : Sto) : tru S (.bl c) = some c := rfl
/-- the low bound of the parts -/
def LB : Nat := 10 ^ 40 - 1000003
def UB : Nat := 10 ^ 40 - 1
theorem forG_at {g : DenG} {body : DenS} {ok : Sto → Prop} (P : Nat → Ev → Sto → Prop) (all : List D) : ∀ (ds : List D) (i : Nat) (ρ : Ev) (Sz : Sto), (∀ m d, ds[m]? = some d → all[i + m]? = some d) → P i ρ Sz → (∀ i ρ S', P i ρ S' → ok S') →
    (∀ j d, all[j]? = some d → ∀ ρ S1, P j ρ S1 → ∃ ρ' S2, g d ρ S1 = .ok ρ' S2 ∧ RunsF (body ρ' S2) (P (j + 1))) → ∃ ρ' S', forG g body ok ds ρ Sz = .ok (.nx ρ') S' ∧ P (i + ds.length) ρ' S'
  | [], i, ρ, Sz, _, h0, ho, _ => ⟨ρ, Sz, by unfold forG; rw [if_pos (ho _ _ _ h0)], h0⟩
  | d :: ds, i, ρ, Sz, ha, h0, ho, h => by
    obtain ⟨ρ', S2, h1, ρ2, S3, h2, h3⟩ := h i d (ha 0 d rfl) ρ Sz h0
    obtain ⟨ρ4, S4, h5, h6⟩ := forG_at P all ds (i + 1) ρ2 S3 (fun m x hx => by
      have := ha (m + 1) x (by simpa using hx)
      rwa [show i + (m + 1) = i + 1 + m by omega] at this) h3 ho h
    refine ⟨ρ4, S4, ?_, ?_⟩
    · unfold forG
      rw [if_pos (ho _ _ _ h0), h1]
      simp only [R.bind_ok]
      rw [h2]
      simp only [R.bind_ok]
      exact h5
    · rw [List.length_cons, show i + (ds.length + 1) = i + 1 + ds.length by omega]
      exact h6
theorem runs_forI {it : Den ItD} {g : DenG} {body : DenS} {ρ : Ev} {Sz S1 : Sto} {i : ItD} {Q : Ev → Sto → Prop} (h : it ρ Sz = .ok i S1) (P : Nat → Ev → Sto → Prop) (h0 : P 0 ρ S1) (ho : ∀ j ρ S', P j ρ S' → i.ok S')
    (hs : ∀ j d, i.items[j]? = some d → ∀ ρ S1, P j ρ S1 → ∃ ρ' S2, g d ρ S1 = .ok ρ' S2 ∧ RunsF (body ρ' S2) (P (j + 1))) (hq : ∀ ρ' S', P i.items.length ρ' S' → Q ρ' S') : RunsF (sFor it g body ρ Sz) Q := by
  obtain ⟨ρ', S', h1, h2⟩ := forG_at P i.items i.items 0 ρ S1 (fun m d hm => by rwa [Nat.zero_add]) h0 ho hs
  refine ⟨ρ', S', ?_, hq ρ' S' (by simpa using h2)⟩
  rw [x_sFor h]
  exact h1
theorem r__law_great_right {N : Nat} (c : Bool) (hb : BoxAt b N Sz) (hN : N ≤ 70000) : ∃ S', callN es (k + 6) "_law_great_right" [.ref b, .bl c] Sz = .ok (.bl true) S' ∧ BoxAt b (N + 10) S' ∧ ExtB b Sz S' := by
  rw [u__law_great_right]
  unfold d__law_great_right
  refine of_runs ?_
  obtain ⟨tu, S1, q1, t0, t1, b1', x1, l1⟩ := r__law_take (k := k + 4) (m := 2) hb (by omega) (by omega) (by omega)
  obtain ⟨sg, S2, q2, s0, s1, b2', x2, l2⟩ := r__law_take (k := k + 4) (m := 2) b1' (by omega) (by omega) (by omega)
  obtain ⟨mo, S3, q3, m0, m1, b3, x3, l3⟩ := r__law_take (k := k + 4) (m := 8) b2' (by omega) (by omega) (by omega)
  obtain ⟨s, hs, hs1⟩ : ∃ s : Int, 1 - 2 * sg = s ∧ (s = 1 ∨ s = -1) := ⟨_, rfl, by omega⟩
  have m2 : ∀ S, opMul (.int 2) (.int sg) S = .ok (.int (2 * sg)) S := fun S => x_mul _ _ _ (by simp [mulFit])
  have X3 := x1.trans (x2.trans x3)
  refine runs_seq (runs_eq (ρ := [some (.ref b), some (.bl c), some (.int tu), some (.int s), some (.int (2 + mo)), none, none, none, none, none, none, none, none]) (Sz := S3) (by
    simp [entry, sPar3, q1, q2, q3, m2, hs]) ?_)
  -- parts
  obtain ⟨B40, hB40⟩ : ∃ B : Int, B = 10 ^ 40 := ⟨_, rfl⟩
  have p40 : ∀ S, opPow (.int 10) (.int 40) S = .ok (.int B40) S := fun S => by rw [hB40]; exact x_pow10 40 (by omega) S
  have bl3 := b3.lt
  obtain ⟨out, S4, qo, ol, ov, b4, x4⟩ := lcG_idx (g := tName 5) (tt := fTrue) (te := fOp opSub (fOp opSub (fOp opPow (fC (.int 10)) (fC (.int 40))) (fC (.int 1))) (fCall (callN es (k + 5) "_law_take") (fCons (fVar 0) (fCons (fC (.int 1000003)) fNil)))) (ok := fun _ => True) (ρ := [some (.ref b), some (.bl c), some (.int tu), some (.int s), some (.int (2 + mo)), none, none, none, none, none, none, none, none])
    (fun i acc S' => acc.length = i ∧ (∀ v ∈ acc, ∃ z : Nat, v = .int (z : Int) ∧ LB ≤ z ∧ z ≤ UB) ∧ BoxAt b (N + 3 + i) S' ∧ ExtB b Sz S') (rngs 0 1 5) 0 [] S3 ⟨rfl, by simp, b3, X3⟩ (fun _ _ _ _ => trivial) (by
      rintro v hv j acc S5 hj ⟨h1, h2, h3, h4⟩
      rw [rngs_len] at hj
      obtain ⟨r, S6, q6, r0, r1, b6, x6, l6⟩ := r__law_take (k := k + 4) (m := 1000003) h3 (by omega) (by omega) (by omega)
      refine ⟨_, _, _, .int (B40 - 1 - r), S6, rfl, rfl, by simp [p40, q6], by simp [h1], fun w hw => ?_, b6, h4.trans x6⟩
      rcases List.mem_append.mp hw with hw | hw
      · exact h2 w hw
      · rw [List.mem_singleton] at hw
        subst hw
        refine ⟨(B40 - 1 - r).toNat, ?_, ?_, ?_⟩
        · rw [Int.toNat_of_nonneg (by omega)]
        · unfold LB
          omega
        · unfold UB
          omega)
  rw [rngs_len] at ol b4
  have lc : fLc (iRng rng1 (fCons (fC (.int 5)) fNil)) (tName 5) fTrue (fOp opSub (fOp opSub (fOp opPow (fC (.int 10)) (fC (.int 40))) (fC (.int 1))) (fCall (callN es (k + 5) "_law_take") (fCons (fVar 0) (fCons (fC (.int 1000003)) fNil)))) [5] [some (.ref b), some (.bl c), some (.int tu), some (.int s), some (.int (2 + mo)), none, none, none, none, none, none, none, none] S3 = .ok (.ref S4.length) (S4 ++ [.lst out]) := by
    rw [x_fLc (i := ⟨rngs 0 1 5, fun _ => True⟩) (S1 := S3) (by simp; rw [x_rng1 (by omega) (by omega)]; rfl)]
    have wd : wipeD [some (.ref b), some (.bl c), some (.int tu), some (.int s), some (.int (2 + mo)), none, none, none, none, none, none, none, none] [5] = [some (.ref b), some (.bl c), some (.int tu), some (.int s), some (.int (2 + mo)), none, none, none, none, none, none, none, none] := rfl
    rw [wd, qo]
    rfl
  obtain ⟨mn, hmn, hm2, hm9⟩ : ∃ mn : Nat, 2 + mo = (mn : Int) ∧ 2 ≤ mn ∧ mn ≤ 9 := ⟨(2 + mo).toNat, by omega, by omega, by omega⟩
  rw [hmn] at lc ⊢
  have pa := x_addAt (A := S4) (e := [Ob.lst out, Ob.lst [.int (mn : Int)]]) (i := 0) (j := 1) rfl rfl (by simp [getL, ol])
  generalize hps : out ++ [.int (mn : Int)] = ps
  have hpl : ps.length = 6 := by rw [← hps]; simp [ol]
  refine runs_seq (runs_eq (ρ := [some (.ref b), some (.bl c), some (.int tu), some (.int s), some (.int (mn : Int)), none, some (.ref (S4.length + 2)), none, none, none, none, none, none]) (Sz := S4 ++ [.lst out, .lst [.int (mn : Int)], .lst ps]) (by
    have pa2 : opAdd (.ref S4.length) (.ref (S4.length + 1)) (S4 ++ [Ob.lst out, Ob.lst [.int (mn : Int)]]) = .ok (.ref (S4.length + 2)) (S4 ++ [.lst out, .lst [.int (mn : Int)], .lst ps]) := by
      rw [← hps]
      exact pa
    rw [x_sAsg, x_fOp, lc]
    simp [pa2]) ?_)
  -- told, due
  refine runs_seq (runs_eq (ρ := [some (.ref b), some (.bl c), some (.int tu), some (.int s), some (.int (mn : Int)), none, some (.ref (S4.length + 2)), some (fr s 1), some (.int s), none, none, none, none]) (Sz := S4 ++ [.lst out, .lst [.int (mn : Int)], .lst ps]) (by
    simp [sPar2, fr]) ?_)
  have b5 : BoxAt b (N + 8) (S4 ++ [.lst out, .lst [.int (mn : Int)], .lst ps]) := (b4.le (by omega)).app _
  have x5 : ExtB b Sz (S4 ++ [.lst out, .lst [.int (mn : Int)], .lst ps]) := x4.trans (.app _)
  have g5 : (S4 ++ [.lst out, .lst [.int (mn : Int)], .lst ps])[S4.length + 2]? = some (.lst ps) := at_plus (A := S4) (e := [.lst out, .lst [.int (mn : Int)], .lst ps]) (i := 2)
  generalize hS5 : S4 ++ [.lst out, .lst [.int (mn : Int)], .lst ps] = S5 at b5 x5 g5 ⊢
  generalize S4.length + 2 = lp at g5 ⊢
  obtain ⟨tn, htn⟩ : ∃ tn : Bool, tn = decide (tu = 1) := ⟨_, rfl⟩
  have w0 : fr s 1 = fr (wP tn s 1) (wQ tn s 1) := by
    cases tn
    · show fr s 1 = fr (s * ((1 : Nat) : Int)) 1
      simp
    · rfl
  rw [w0]
  refine runs_seq (runs_forI (i := ⟨rngs 0 1 6, fun _ => True⟩) (S1 := S5) (by simp; rw [x_rng1 (by omega) (by omega)]; rfl)
    (fun i ρ S' => ∃ (m : Nat) (y5 y9 y10 y11 y12 : Option D), ρ = [some (.ref b), some (.bl c), some (.int tu), some (.int s), some (.int (mn : Int)), y5, some (.ref lp), some (fr (wP tn s m) (wQ tn s m)), some (.int (s * (m : Int))), y9, y10, y11, y12] ∧ S'[lp]? = some (.lst ps) ∧ 0 < m ∧ (i ≤ 5 → LB ^ i ≤ m ∧ m ≤ UB ^ i) ∧ BoxAt b (N + 8) S' ∧ ExtB b Sz S')
    ⟨1, none, none, none, none, none, by simp, g5, by omega, fun _ => ⟨by simp, by simp⟩, b5, x5⟩ (fun _ _ _ _ => trivial) ?_ ?_)
  · rintro j d hd ρ S6 ⟨m, y5, y9, y10, y11, y12, rfl, g6, mp, mb, b6, x6⟩
    obtain ⟨hj, rfl⟩ := rngs_at hd
    simp only [Int.zero_add, Int.mul_one]
    refine ⟨_, _, rfl, ?_⟩
    obtain ⟨lm, um⟩ := mb (by omega)
    -- the part
    have hv : ∃ v : Nat, itm ps j = .int (v : Int) ∧ 0 < v ∧ v < 10 ^ 45 ∧ (j < 5 → LB ≤ v ∧ v ≤ UB) ∧ (¬ j < 5 → 2 ≤ v ∧ v ≤ 9) := by
      by_cases z : j < 5
      · have e : itm ps j = itm out j := by
          unfold itm
          rw [← hps, List.getElem?_append_left (by omega)]
        obtain ⟨v, h1, h2, h3⟩ := ov _ (itm_mem (ts := out) (i := j) (by omega))
        have l0 : 0 < LB := by unfold LB; decide
        have u0 : UB < 10 ^ 45 := by unfold UB; decide
        exact ⟨v, by rw [e, h1], by omega, by omega, fun _ => ⟨h2, h3⟩, fun y => absurd z y⟩
      · have e : itm ps j = .int (mn : Int) := by
          unfold itm
          rw [← hps, show j = out.length by omega]
          simp
        exact ⟨mn, e, by omega, by omega, fun y => absurd y z, fun _ => ⟨hm2, hm9⟩⟩
    obtain ⟨v, iv, v0, v45, vlo, vhi⟩ := hv
    have ix : ∀ S : Sto, S[lp]? = some (.lst ps) → opIdx (.ref lp) (.int (j : Int)) S = .ok (.int (v : Int)) S := fun S h => by
      rw [x_idx_at h (at_get (by omega)), iv]
    have i6 := ix S6 g6
    have u200 : UB ^ 5 < 10 ^ 200 := by unfold UB; decide +kernel
    have u1 : 1 ≤ UB := by unfold UB; decide
    have m200 : m < 10 ^ 200 := by
      have : UB ^ j ≤ UB ^ 5 := Nat.pow_le_pow_right u1 (by omega)
      omega
    obtain ⟨m2, hm2'⟩ : ∃ m2 : Nat, m2 = m * v := ⟨_, rfl⟩
    have mp2 : 0 < m2 := by rw [hm2']; exact Nat.mul_pos mp v0
    have m245 : m2 < 10 ^ 245 := by
      have : m * v < 10 ^ 200 * 10 ^ 45 := Nat.mul_lt_mul'' m200 v45
      rw [← Nat.pow_add] at this
      omega
    obtain ⟨wp, hwp⟩ : ∃ w, w = wP tn s m2 := ⟨_, rfl⟩
    obtain ⟨wq, hwq⟩ : ∃ w, w = wQ tn s m2 := ⟨_, rfl⟩
    have f600 : FrOk 600 wp wq := by
      rw [hwp, hwq]
      exact w_fr hs1 mp2 (Nat.lt_trans m245 (by decide +kernel)) (by omega)
    have f250 : FrOk 250 wp wq := by
      rw [hwp, hwq]
      exact w_fr hs1 mp2 (Nat.lt_trans m245 (by decide +kernel)) (by omega)
    have next : j + 1 ≤ 5 → LB ^ (j + 1) ≤ m2 ∧ m2 ≤ UB ^ (j + 1) := fun y => by
      obtain ⟨h1, h2⟩ := vlo (by omega)
      rw [hm2', Nat.pow_succ, Nat.pow_succ]
      exact ⟨Nat.mul_le_mul lm h1, Nat.mul_le_mul um h2⟩
    have judge : if j < 5 then FrOk 200 wp wq else (wq = 1 ∧ 10 ^ 200 ≤ wp.natAbs ∧ wp.natAbs < 10 ^ 600) ∨ (1 < wq ∧ wp.natAbs < 10 ^ 200 ∧ 10 ^ 200 ≤ wq.natAbs ∧ wq.natAbs < 10 ^ 600) := by
      by_cases z : j < 5
      · rw [if_pos z, hwp, hwq]
        obtain ⟨h1, h2⟩ := next (by omega)
        have : UB ^ (j + 1) ≤ UB ^ 5 := Nat.pow_le_pow_right u1 (by omega)
        exact w_fr hs1 mp2 (by omega) (by omega)
      · rw [if_neg z]
        have j5 : j = 5 := by omega
        obtain ⟨h1, h2⟩ := vhi z
        have big : 10 ^ 200 ≤ m2 := by
          rw [hm2']
          have l5 : LB ^ 5 ≤ m := by rw [j5] at lm; exact lm
          have : LB ^ 5 * 2 ≤ m * v := Nat.mul_le_mul l5 h1
          have lb : 10 ^ 200 ≤ LB ^ 5 * 2 := by unfold LB; decide +kernel
          omega
        have m600 : m2 < 10 ^ 600 := Nat.lt_trans m245 (by decide +kernel)
        rw [hwp, hwq]
        cases tn with
        | true =>
          refine .inr ⟨show (1 : Int) < (m2 : Int) by omega, show s.natAbs < _ from ?_, ?_, ?_⟩
          · have : s.natAbs = 1 := by rcases hs1 with rfl | rfl <;> rfl
            omega
          · show _ ≤ ((m2 : Int)).natAbs
            rw [Int.natAbs_natCast]
            exact big
          · show ((m2 : Int)).natAbs < _
            rw [Int.natAbs_natCast]
            exact m600
        | false =>
          refine .inl ⟨rfl, ?_, ?_⟩
          · show _ ≤ (s * (m2 : Int)).natAbs
            rw [sgn_abs hs1, Int.natAbs_natCast]
            exact big
          · show (s * (m2 : Int)).natAbs < _
            rw [sgn_abs hs1, Int.natAbs_natCast]
            exact m600
    -- told
    have ti := fun S => w_times (k := k + 1) (tn := tn) hs1 mp v0 m200 v45 S
    rw [← hm2', ← hwp, ← hwq] at ti
    refine runsF_seq (runs_eq (ρ := [some (.ref b), some (.bl c), some (.int tu), some (.int s), some (.int (mn : Int)), some (.int (j : Int)), some (.ref lp), some (fr wp wq), some (.int (s * (m : Int))), y9, y10, y11, y12]) (Sz := S6) (by
      by_cases z : tu = 1
      · have tt : tn = true := by rw [htn, decide_eq_true z]
        rw [tt] at ti ⊢
        simp only [if_true, fr] at ti
        simp [z, i6, fr, ti]
      · have tt : tn = false := by rw [htn, decide_eq_false z]
        rw [tt] at ti ⊢
        simp only [Bool.false_eq_true, if_false, fr] at ti
        simp [z, i6, fr, ti]) ?_)
    -- due
    have sm1 : Sm (s * (m : Int)) := by
      show (s * (m : Int)).natAbs < _
      rw [sgn_abs hs1, Int.natAbs_natCast]
      exact Nat.lt_trans m200 (by decide +kernel)
    have sm2 : Sm (v : Int) := by
      show ((v : Int)).natAbs < _
      rw [Int.natAbs_natCast]
      exact Nat.lt_trans v45 (by decide +kernel)
    have md : ∀ S, opMul (.int (s * (m : Int))) (.int (v : Int)) S = .ok (.int (s * (m2 : Int))) S := fun S => by
      rw [x_mulS sm1 sm2, hm2']
      push_cast
      rw [Int.mul_assoc]
    refine runsF_seq (runs_eq (ρ := [some (.ref b), some (.bl c), some (.int tu), some (.int s), some (.int (mn : Int)), some (.int (j : Int)), some (.ref lp), some (fr wp wq), some (.int (s * (m2 : Int))), y9, y10, y11, y12]) (Sz := S6) (by
      simp [i6, md]) ?_)
    -- whole
    have ab : (s * (m2 : Int)).natAbs = m2 := by rw [sgn_abs hs1, Int.natAbs_natCast]
    refine runsF_seq (runs_eq (ρ := [some (.ref b), some (.bl c), some (.int tu), some (.int s), some (.int (mn : Int)), some (.int (j : Int)), some (.ref lp), some (fr wp wq), some (.int (s * (m2 : Int))), some (fr wp wq), y10, y11, y12]) (Sz := S6) (by
      by_cases z : tu = 1
      · have tt : tn = true := by rw [htn, decide_eq_true z]
        have e1 : fr wp wq = .tup [.int s, .int (m2 : Int)] := by rw [hwp, hwq, tt]; rfl
        rw [e1]
        simp [z, abs_nat, ab]
      · have tt : tn = false := by rw [htn, decide_eq_false z]
        have e1 : fr wp wq = .tup [.int (s * (m2 : Int)), .int 1] := by rw [hwp, hwq, tt]; rfl
        rw [e1]
        simp [z]) ?_)
    -- text
    have lt := r__law_text (k := k + 4) (Sz := S6) (N := 250) (by omega) (by omega) f250
    have tl := TX_len (N := 250) (by omega) f250.2.2.1 f250.2.2.2
    generalize hX : SX.S (TX wp wq) = x at *
    refine runsF_seq (runs_eq (ρ := [some (.ref b), some (.bl c), some (.int tu), some (.int s), some (.int (mn : Int)), some (.int (j : Int)), some (.ref lp), some (fr wp wq), some (.int (s * (m2 : Int))), some (fr wp wq), some (.str x), y11, y12]) (Sz := S6) (by
      simp [lt]) ?_)
    -- written, read
    have cj : (decide ((j : Int) < 5)) = decide (j < 5) := by
      rw [Bool.eq_iff_iff, decide_eq_true_eq, decide_eq_true_eq]
      omega
    obtain ⟨wl, hwl⟩ : ∃ wl, wl = (if j < 5 then [D.str "told", D.str x] else [D.str "no fraction", fr wp wq, D.bl true]) := ⟨_, rfl⟩
    obtain ⟨rl, hrl⟩ : ∃ rl, rl = (if j < 5 then [D.str "told", fr wp wq] else [D.str "no text", D.str x, D.bl true]) := ⟨_, rfl⟩
    refine runsF_seq (runs_eq (ρ := [some (.ref b), some (.bl c), some (.int tu), some (.int s), some (.int (mn : Int)), some (.int (j : Int)), some (.ref lp), some (fr wp wq), some (.int (s * (m2 : Int))), some (fr wp wq), some (.str x), some (.ref S6.length), y12]) (Sz := S6 ++ [.lst wl]) (by
      by_cases z : j < 5
      · have z2 : (j : Int) < 5 := by omega
        rw [if_pos z] at hwl
        simp [z2, hwl]
      · have z2 : ¬ (j : Int) < 5 := by omega
        rw [if_neg z] at hwl
        simp only [x_sAsg, x_fIf, x_fBool, x_fOp, x_varS, x_var0, x_fC, R.bind_ok, x_lt, decide_eq_false z2, Bool.false_eq_true, if_false, x_fLst, x_fCons, x_fNil, x_mkLst, x_tName, List.set, hwl]) ?_)
    refine runsF_seq (runs_eq (ρ := [some (.ref b), some (.bl c), some (.int tu), some (.int s), some (.int (mn : Int)), some (.int (j : Int)), some (.ref lp), some (fr wp wq), some (.int (s * (m2 : Int))), some (fr wp wq), some (.str x), some (.ref S6.length), some (.ref (S6.length + 1))]) (Sz := S6 ++ [.lst wl, .lst rl]) (by
      by_cases z : j < 5
      · have z2 : (j : Int) < 5 := by omega
        rw [if_pos z] at hrl
        simp [z2, hrl]
      · have z2 : ¬ (j : Int) < 5 := by omega
        rw [if_neg z] at hrl
        simp only [x_sAsg, x_fIf, x_fBool, x_fOp, x_varS, x_var0, x_fC, R.bind_ok, x_lt, decide_eq_false z2, Bool.false_eq_true, if_false, x_fLst, x_fCons, x_fNil, x_mkLst, x_tName, List.set, hrl, List.append_assoc, List.cons_append, List.nil_append, List.length_append, List.length_cons, List.length_nil, Nat.zero_add]) ?_)
    have a1 : (S6 ++ [Ob.lst wl, Ob.lst rl])[S6.length]? = some (.lst wl) := at_plus (A := S6) (e := [Ob.lst wl, Ob.lst rl]) (i := 0)
    have a2 : (S6 ++ [Ob.lst wl, Ob.lst rl])[S6.length + 1]? = some (.lst rl) := at_plus (A := S6) (e := [Ob.lst wl, Ob.lst rl]) (i := 1)
    have b7 := b6.app [Ob.lst wl, Ob.lst rl]
    have x7 := x6.trans (ExtB.app [Ob.lst wl, Ob.lst rl])
    have g7 := at_old (e := [Ob.lst wl, Ob.lst rl]) g6
    generalize S6 ++ [Ob.lst wl, Ob.lst rl] = S7 at *
    -- the first test
    obtain ⟨e8, s8⟩ := r__law_same 2 (k + 3) (fr wp wq) (fr wp wq) S7 eqv_fr
    have fq := r_is_fraction (k := k + 3) (Sz := S7 ++ e8) (f600.vs (Nat.le_refl _))
    rw [f600.frac] at fq
    obtain ⟨e9, s9⟩ := r_same_bl (k := k + 4) true (S7 ++ e8)
    refine runsF_seq (runs_eq (ρ := [some (.ref b), some (.bl c), some (.int tu), some (.int s), some (.int (mn : Int)), some (.int (j : Int)), some (.ref lp), some (fr wp wq), some (.int (s * (m2 : Int))), some (fr wp wq), some (.str x), some (.ref S6.length), some (.ref (S6.length + 1))]) (Sz := S7 ++ e8 ++ e9) (by
      generalize S7 ++ e8 = S8 at *
      simp [s8, fq, s9]) ?_)
    -- the second test
    obtain ⟨lw, e10, w, q10, g10, hw⟩ := great_step (k := k) (Sz := S7 ++ e8 ++ e9) (c := c) f600 judge
    rw [hX, ← hwl] at hw
    rw [hw] at g10
    have pl : ∀ (z : List D), (∀ v ∈ z, v = .str "told" ∨ v = .str x ∨ v = .str "no fraction" ∨ v = .str "no text" ∨ v = fr wp wq ∨ v = .bl true) → ∀ S, ∀ v ∈ z, Eqv S 2 v v := fun z hz S v hv => by
      rcases hz v hv with rfl | rfl | rfl | rfl | rfl | rfl
      · exact ⟨rfl, by decide⟩
      · exact ⟨rfl, by rw [← hX, S_length]; omega⟩
      · exact ⟨rfl, by decide⟩
      · exact ⟨rfl, by decide⟩
      · exact eqv_fr
      · exact rfl
    have pw : ∀ S, ∀ v ∈ wl, Eqv S 2 v v := fun S => pl wl (by
      rw [hwl]
      split
      · exact all_cons (.inl rfl) (all_cons (.inr (.inl rfl)) all_nil)
      · exact all_cons (.inr (.inr (.inl rfl))) (all_cons (.inr (.inr (.inr (.inr (.inl rfl))))) (all_cons (.inr (.inr (.inr (.inr (.inr rfl))))) all_nil))) S
    have pr : ∀ S, ∀ v ∈ rl, Eqv S 2 v v := fun S => pl rl (by
      rw [hrl]
      split
      · exact all_cons (.inl rfl) (all_cons (.inr (.inr (.inr (.inr (.inl rfl))))) all_nil)
      · exact all_cons (.inr (.inr (.inr (.inl rfl)))) (all_cons (.inr (.inl rfl)) (all_cons (.inr (.inr (.inr (.inr (.inr rfl))))) all_nil))) S
    have lw3 : wl.length ≤ 1000000 := by rw [hwl]; split <;> simp
    have lr3 : rl.length ≤ 1000000 := by rw [hrl]; split <;> simp
    obtain ⟨e11, s11⟩ := r__law_same 3 (k + 2) _ _ _ (eqv_list (n := 2) g10 (at_old (at_old (at_old a1))) lw3 (pw _))
    obtain ⟨lr, e12, w, q12, g12, hw⟩ := great_read (k := k) (Sz := S7 ++ e8 ++ e9 ++ e10 ++ e11) (c := !c) judge
    rw [hX, ← hrl] at hw
    rw [hw] at g12
    obtain ⟨e13, s13⟩ := r__law_same 3 (k + 2) _ _ _ (eqv_list (n := 2) g12 (at_old (at_old (at_old (at_old (at_old a2))))) lr3 (pr _))
    rw [hX] at q12
    refine runsF_seq (runs_eq (ρ := [some (.ref b), some (.bl c), some (.int tu), some (.int s), some (.int (mn : Int)), some (.int (j : Int)), some (.ref lp), some (fr wp wq), some (.int (s * (m2 : Int))), some (fr wp wq), some (.str x), some (.ref S6.length), some (.ref (S6.length + 1))]) (Sz := S7 ++ e8 ++ e9 ++ e10 ++ e11 ++ e12 ++ e13) (by
      generalize S7 ++ e8 ++ e9 ++ e10 ++ e11 ++ e12 ++ e13 = S13 at *
      generalize S7 ++ e8 ++ e9 ++ e10 ++ e11 ++ e12 = S12 at *
      generalize S7 ++ e8 ++ e9 ++ e10 ++ e11 = S11 at *
      generalize S7 ++ e8 ++ e9 ++ e10 = S10 at *
      generalize S7 ++ e8 ++ e9 = S9 at *
      simp [q10, s11, q12, s13]) ?_)
    refine runsF_nil ⟨m2, _, _, _, _, _, by rw [hwp, hwq], at_old (at_old (at_old (at_old (at_old (at_old g7))))), mp2, next, (((((b7.app _).app _).app _).app _).app _).app _, (((((x7.trans (.app _)).trans (.app _)).trans (.app _)).trans (.app _)).trans (.app _)).trans (.app _)⟩
  · rintro ρ S' ⟨m, y5, y9, y10, y11, y12, rfl, g6, mp, mb, b6, x6⟩
    exact ⟨.bl true, S', rfl, rfl, b6.le (by omega), x6⟩
end DL
end
section
set_option Elab.async false
set_option linter.all false
set_option maxRecDepth 100000
set_option maxHeartbeats 4000000
set_option exponentiation.threshold 5000
/-! K01m: a cell, the law -/
namespace DL
open PySem PySem.Spec PyProof.Rows L2
variable {k b n : Nat} {A Sz : Sto} {d : D} {p q r s : Int}
theorem low_eqv {t u : Int} {S : Sto} {n : Nat} : Eqv S (n + 2) (lowD t u) (lowD t u) := eqv_fr
theorem due_eqv {S : Sto} : ∀ v ∈ dueL p q r s, Eqv S 2 v v := by
  unfold dueL
  refine all_cons low_eqv (all_cons low_eqv (all_cons low_eqv (all_cons ?_ (all_cons rfl all_nil))))
  split
  · exact rfl
  · exact low_eqv
theorem low_200 {t u : Int} (hu : u ≠ 0) (ht : t.natAbs < 10 ^ 200) (hb : u.natAbs < 10 ^ 200) : ∃ x y, lowD t u = fr x y ∧ FrOk 200 x y := by
  obtain ⟨x, y, e, f, _⟩ := low_fr (N := 200) hu ht hb
  exact ⟨x, y, e, f⟩
theorem due_frs (h1 : FrOk 41 p q) (h2 : FrOk 41 r s) : ∀ v ∈ (dueL p q r s).take 4, v = .non ∨ ∃ x y, v = fr x y ∧ FrOk 200 x y := by
  have ps := mul_lt h1.2.2.1 h2.2.2.2
  have rq := mul_lt h2.2.2.1 h1.2.2.2
  have qs := mul_lt h1.2.2.2 h2.2.2.2
  have pr := mul_lt h1.2.2.1 h2.2.2.1
  have qr := mul_lt h1.2.2.2 h2.2.2.1
  have z := prod_ne h1 h2
  have q0 : q ≠ 0 := by have := h1.1; omega
  show ∀ v ∈ [lowD (p * s + r * q) (q * s), lowD (p * s - r * q) (q * s), lowD (p * r) (q * s), if r = 0 then .non else lowD (p * s) (q * r)], _
  refine all_cons (.inr (low_200 z (by omega) (by omega))) (all_cons (.inr (low_200 z (by omega) (by omega))) (all_cons (.inr (low_200 z (by omega) (by omega))) (all_cons ?_ all_nil)))
  by_cases c : r = 0
  · rw [if_pos c]
    exact .inl rfl
  · rw [if_neg c]
    exact .inr (low_200 (Int.mul_ne_zero q0 c) (by omega) (by omega))
def nonB : D → Bool
  | .non => true
  | _ => false
theorem x_isNot (x : D) (S : Sto) : opIs true x .non S = .ok (.bl (!nonB x)) S := by cases x <;> rfl
theorem told_step (c : Bool) {lx : Nat} (h1 : FrOk 41 p q) (h2 : FrOk 41 r s) (g : Sz[lx]? = some (.lst (dueL p q r s))) : ∃ l e e2, callN es (k + 5) "_law_told" [fr p q, fr r s, .bl c] Sz = .ok (.ref l) (Sz ++ e) ∧ callN es (k + 5) "_law_same" [.ref l, .ref lx] (Sz ++ e) = .ok (.bl true) (Sz ++ e ++ e2) := by
  obtain ⟨l, e, q1, g1⟩ := r__law_told (k := k) (Sz := Sz) c h1 h2 (by omega)
  obtain ⟨e2, q2⟩ := r__law_same 3 (k + 2) _ _ _ (eqv_list (n := 2) g1 (at_old g) (by simp [dueL]) due_eqv)
  exact ⟨l, e, e2, q1, q2⟩
theorem r__law_cell_right (hb : BoxAt b 0 Sz) : ∃ S', callN es (k + 7) "_law_cell_right" [.ref b] Sz = .ok (.bl true) S' ∧ ExtB b Sz S' := by
  rw [u__law_cell_right]
  unfold d__law_cell_right
  refine of_runs ?_
  obtain ⟨w, S1, q1, w0, w1, b1', x1, l1⟩ := r__law_take (k := k + 5) (m := 2) hb (by omega) (by omega) (by omega)
  obtain ⟨gr, S2, q2, g0, g1, b2', x2, l2⟩ := r__law_take (k := k + 5) (m := 3) b1' (by omega) (by omega) (by omega)
  have X2 := x1.trans x2
  generalize hc : decide (w = 1) = c
  refine runs_seq (runs_eq (ρ := [some (.ref b), some (.bl c), some (.int gr), none, none, none, none, none, none, none, none]) (Sz := S2) (by
    simp [entry, sPar2, q1, q2, hc]) ?_)
  refine runs_seq ?_
  suffices hs : RunsF _ (fun ρ' S' => ρ' = [some (.ref b), some (.bl c), some (.int gr), none, none, none, none, none, none, none, none] ∧ BoxAt b 20 S' ∧ ExtB b Sz S') from by
    obtain ⟨ρ', S3, h1, rfl, b3, X3⟩ := hs
    refine ⟨_, _, h1, ?_⟩
    refine runs_seq (runs_for (i := ⟨rngs 0 1 2, fun _ => True⟩) (S1 := S3) (by simp; rw [x_rng1 (by omega) (by omega)]; rfl)
      (fun i ρ S' => ∃ y3 y4 y5 y6 y7 y8 y9 y10, ρ = [some (.ref b), some (.bl c), some (.int gr), y3, y4, y5, y6, y7, y8, y9, y10] ∧ BoxAt b (20 + 100 * i) S' ∧ ExtB b Sz S') ⟨_, _, _, _, _, _, _, _, rfl, b3, X3⟩ (fun _ _ _ _ => trivial) ?_ ?_)
    · rintro d hd j ρ S4 hj ⟨y3, y4, y5, y6, y7, y8, y9, y10, rfl, b4, X4⟩
      rw [rngs_len] at hj
      refine ⟨_, _, rfl, ?_⟩
      -- the pair
      obtain ⟨v, S5, q5, l, p, q, r, s, rfl, g5, f1, f2, b5, x5⟩ := r__law_pair (k := k + 2) b4 (by omega)
      refine runsF_seq (runs_eq (ρ := [some (.ref b), some (.bl c), some (.int gr), some d, some (fr p q), some (fr r s), y6, y7, y8, y9, y10]) (Sz := S5) (by
        simp [q5, x_tTupL _ _ g5]) ?_)
      have X5 := X4.trans x5
      -- due, back
      have du := r__law_due (k := k + 3) (Sz := S5) f1 f2 (by omega)
      have ba := r__law_due (k := k + 3) (Sz := S5 ++ [.lst (dueL p q r s)]) f2 f1 (by omega)
      refine runsF_seq (runs_eq (ρ := [some (.ref b), some (.bl c), some (.int gr), some d, some (fr p q), some (fr r s), some (.ref S5.length), some (.ref (S5.length + 1)), y8, y9, y10]) (Sz := S5 ++ [.lst (dueL p q r s), .lst (dueL r s p q)]) (by
        simp [sPar2, du, ba]) ?_)
      have g6 : (S5 ++ [Ob.lst (dueL p q r s), .lst (dueL r s p q)])[S5.length]? = some (.lst (dueL p q r s)) := at_plus (A := S5) (e := [Ob.lst (dueL p q r s), .lst (dueL r s p q)]) (i := 0)
      have g7 : (S5 ++ [Ob.lst (dueL p q r s), .lst (dueL r s p q)])[S5.length + 1]? = some (.lst (dueL r s p q)) := at_plus (A := S5) (e := [Ob.lst (dueL p q r s), .lst (dueL r s p q)]) (i := 1)
      have b6 := b5.app [Ob.lst (dueL p q r s), .lst (dueL r s p q)]
      have X6 := X5.trans (.app [Ob.lst (dueL p q r s), .lst (dueL r s p q)])
      generalize S5 ++ [Ob.lst (dueL p q r s), .lst (dueL r s p q)] = S6 at *
      generalize S5.length = l6 at *
      -- asked twice
      refine runsF_seq ?_
      suffices hs : RunsF _ (fun ρ' S' => ∃ y8, ρ' = [some (.ref b), some (.bl c), some (.int gr), some d, some (fr p q), some (fr r s), some (.ref l6), some (.ref (l6 + 1)), y8, y9, y10] ∧ ∃ e, S' = S6 ++ e) from by
        obtain ⟨ρ', S7, h1, y8, rfl, e7, rfl⟩ := hs
        refine ⟨_, _, h1, ?_⟩
        have b7 := b6.app e7
        have X7 := X6.trans (.app e7)
        have g8 := at_old (e := e7) g6
        -- shapes, made
        obtain ⟨S8, q8, b8, x8⟩ := r__law_shapes_right (k := k + 2) b7 (by omega) f1
        obtain ⟨S9, q9, b9, x9⟩ := r__law_made_right (k := k + 2) c b8 (by omega) f1
        obtain ⟨S10, q10, b10, x10⟩ := r__law_made_right (k := k + 2) (!c) b9 (by omega) f2
        have X10 := X7.trans (x8.trans (x9.trans x10))
        have ne6 : l6 ≠ b := fun z => by
          obtain ⟨a, f, m, cc, h1, _⟩ := b6
          rw [← z, g6] at h1
          simp [dueL, lowD] at h1
        have g10 : S10[l6]? = some (.lst (dueL p q r s)) := (x8.trans (x9.trans x10)).2 _ _ ne6 g8
        refine runsF_seq (runs_eq (ρ := [some (.ref b), some (.bl c), some (.int gr), some d, some (fr p q), some (fr r s), some (.ref l6), some (.ref (l6 + 1)), y8, y9, y10]) (Sz := S10) (by
          simp [q8, q9, q10]) ?_)
        -- the texts
        generalize hfl : ((dueL p q r s).take 4).filter (fun x => !nonB x) = fl
        have hfr : ∀ v ∈ [fr p q, fr r s] ++ fl, ∃ x y, v = fr x y ∧ FrOk 200 x y := fun v hv => by
          rcases List.mem_append.mp hv with hv | hv
          · simp only [List.mem_cons, List.not_mem_nil, or_false] at hv
            rcases hv with rfl | rfl
            · exact ⟨p, q, rfl, f1.le (by omega)⟩
            · exact ⟨r, s, rfl, f2.le (by omega)⟩
          · rw [← hfl, List.mem_filter] at hv
            rcases due_frs f1 f2 v hv.1 with rfl | z
            · simp [nonB] at hv
            · exact z
        have hfl6 : fl.length ≤ 4 := by
          rw [← hfl]
          refine Nat.le_trans (List.length_filter_le _ _) ?_
          simp [dueL]
        have cd := cut_take (dueL p q r s) 4
        have c4 := x_cutL (lo := none) (hi := some ((4 : Nat) : Int)) (at_old (e := [Ob.lst [fr p q, fr r s]]) g10)
        rw [cd] at c4
        obtain ⟨T0, hT0⟩ : ∃ T0, T0 = S10 ++ [Ob.lst [fr p q, fr r s]] := ⟨_, rfl⟩
        rw [← hT0] at c4
        have c4' : opCut (.ref l6) none (some 4) T0 = .ok (.ref T0.length) (T0 ++ [.lst ((dueL p q r s).take 4)]) := c4
        have gn := at_new (Sz := T0) ((dueL p q r s).take 4)
        have itx := x_itOf_lst gn
        have lc : fLc (iSeq (fSlice (fVar 6) none (some (fC (.int 4))))) (tName 10) (fBool (fOp (opIs true) (fVar 10) (fC .non))) (fVar 10) [10] [some (.ref b), some (.bl c), some (.int gr), some d, some (fr p q), some (fr r s), some (.ref l6), some (.ref (l6 + 1)), y8, y9, y10] T0 = .ok (.ref (T0.length + 1)) (T0 ++ [.lst ((dueL p q r s).take 4), .lst fl]) := by
          rw [x_fLc (i := ⟨(dueL p q r s).take 4, fun S' => S'[T0.length]? = some (.lst ((dueL p q r s).take 4))⟩) (S1 := T0 ++ [.lst ((dueL p q r s).take 4)]) (by
            simp only [x_iSeq, x_fSlice, x_varS, x_var0, R.bind_ok, x_fPart0, x_fPart1, x_fC, c4', itx])]
          rw [lcG_pure (fun d => d) (fun x => !nonB x) gn _ _ (fun t h => ⟨[some (.ref b), some (.bl c), some (.int gr), some d, some (fr p q), some (fr r s), some (.ref l6), some (.ref (l6 + 1)), y8, y9, some t], rfl, by simp [x_isNot], fun _ => rfl⟩)]
          rw [hfl]
          simp [mkLst]
        have tl : T0.length = S10.length + 1 := by rw [hT0]; simp
        have ga : (T0 ++ [Ob.lst ((dueL p q r s).take 4), .lst fl])[S10.length]? = some (.lst [fr p q, fr r s]) := at_old (by rw [hT0]; exact at_new _)
        have gf : (T0 ++ [Ob.lst ((dueL p q r s).take 4), .lst fl])[T0.length + 1]? = some (.lst fl) := at_plus (A := T0) (e := [Ob.lst ((dueL p q r s).take 4), .lst fl]) (i := 1)
        have ad := x_addL ga gf (by simp; omega)
        have bT : BoxAt b (20 + 100 * (j + 1)) (T0 ++ [Ob.lst ((dueL p q r s).take 4), .lst fl]) := by
          rw [hT0]
          exact ((b10.app _).app _).le (by omega)
        have xT : ExtB b Sz (T0 ++ [Ob.lst ((dueL p q r s).take 4), .lst fl]) := by
          rw [hT0]
          exact (X10.trans (.app _)).trans (.app _)
        generalize hT1 : T0 ++ [Ob.lst ((dueL p q r s).take 4), .lst fl] = T1 at *
        have gi := at_new (Sz := T1) ([fr p q, fr r s] ++ fl)
        have it2 := x_itOf_lst gi
        refine runsF_seq (runs_for (i := ⟨[fr p q, fr r s] ++ fl, fun S' => S'[T1.length]? = some (.lst ([fr p q, fr r s] ++ fl))⟩) (S1 := T1 ++ [.lst ([fr p q, fr r s] ++ fl)]) (by
            rw [x_iSeq, x_fOp, x_fLst]
            simp only [x_fCons, x_fNil, x_varS, x_var0, R.bind_ok, x_mkLst, ← hT0, lc, ad, it2])
          (fun i ρ S' => ∃ y9, ρ = [some (.ref b), some (.bl c), some (.int gr), some d, some (fr p q), some (fr r s), some (.ref l6), some (.ref (l6 + 1)), y8, y9, y10] ∧ ∃ e, S' = T1 ++ [.lst ([fr p q, fr r s] ++ fl)] ++ e) ⟨_, rfl, [], by simp⟩ (fun _ _ _ ⟨_, _, e, h⟩ => by rw [h]; exact at_old gi) ?_ ?_)
        · rintro v hv i ρ S11 hi ⟨y9, rfl, e, rfl⟩
          obtain ⟨x, y, rfl, fx⟩ := hfr v hv
          refine ⟨_, _, rfl, ?_⟩
          obtain ⟨e1, t1⟩ := r__law_texts_right (k := k + 1) (Sz := T1 ++ [.lst ([fr p q, fr r s] ++ fl)] ++ e) c fx
          have fq := r_is_fraction (k := k + 4) (Sz := T1 ++ [.lst ([fr p q, fr r s] ++ fl)] ++ e ++ e1) (fx.vs (by omega))
          rw [fx.frac] at fq
          obtain ⟨e2, s2⟩ := r_same_bl (k := k + 5) true (T1 ++ [.lst ([fr p q, fr r s] ++ fl)] ++ e ++ e1)
          refine runsF_seq (runs_eq (ρ := [some (.ref b), some (.bl c), some (.int gr), some d, some (fr p q), some (fr r s), some (.ref l6), some (.ref (l6 + 1)), y8, some (fr x y), y10]) (Sz := T1 ++ [.lst ([fr p q, fr r s] ++ fl)] ++ e ++ e1 ++ e2) (by
            generalize T1 ++ [.lst ([fr p q, fr r s] ++ fl)] ++ e ++ e1 ++ e2 = U2 at *
            generalize T1 ++ [.lst ([fr p q, fr r s] ++ fl)] ++ e ++ e1 = U1 at *
            generalize T1 ++ [.lst ([fr p q, fr r s] ++ fl)] ++ e = U0 at *
            simp [t1, fq, s2]) ?_)
          exact runsF_nil ⟨_, rfl, e ++ e1 ++ e2, by simp⟩
        · rintro ρ S' ⟨y9, rfl, e, rfl⟩
          exact runsF_nil ⟨_, _, _, _, _, _, _, _, rfl, ((bT.app _).app _).le (by omega), (xT.trans (.app _)).trans (.app _)⟩
      refine runs_for (i := ⟨rngs 0 1 2, fun _ => True⟩) (S1 := S6) (by simp; rw [x_rng1 (by omega) (by omega)]; rfl)
        (fun i ρ S' => ∃ y8, ρ = [some (.ref b), some (.bl c), some (.int gr), some d, some (fr p q), some (fr r s), some (.ref l6), some (.ref (l6 + 1)), y8, y9, y10] ∧ ∃ e, S' = S6 ++ e) ⟨y8, rfl, [], by simp⟩ (fun _ _ _ _ => trivial) ?_ (fun ρ S' h => h)
      rintro d2 hd2 j2 ρ S7 hj2 ⟨y8, rfl, e, rfl⟩
      refine ⟨_, _, rfl, ?_⟩
      obtain ⟨la, ea, ea2, ta, sa⟩ := told_step (k := k + 1) (Sz := S6 ++ e) c f1 f2 (at_old g6)
      obtain ⟨lb, eb, eb2, tb, sb⟩ := told_step (k := k + 1) (Sz := S6 ++ e ++ ea ++ ea2) (!c) f2 f1 (at_old (at_old (at_old g7)))
      refine runsF_seq (runs_eq (ρ := [some (.ref b), some (.bl c), some (.int gr), some d, some (fr p q), some (fr r s), some (.ref l6), some (.ref (l6 + 1)), some d2, y9, y10]) (Sz := S6 ++ e ++ ea ++ ea2 ++ eb ++ eb2) (by
        generalize S6 ++ e ++ ea ++ ea2 ++ eb ++ eb2 = U4 at *
        generalize S6 ++ e ++ ea ++ ea2 ++ eb = U3 at *
        generalize S6 ++ e ++ ea ++ ea2 = U2 at *
        generalize S6 ++ e ++ ea = U1 at *
        generalize S6 ++ e = U0 at *
        simp [ta, sa, tb, sb]) ?_)
      exact runsF_nil ⟨_, rfl, e ++ ea ++ ea2 ++ eb ++ eb2, by simp⟩
    · rintro ρ S' ⟨y3, y4, y5, y6, y7, y8, y9, y10, rfl, b4, X4⟩
      exact ⟨.bl true, S', rfl, rfl, X4⟩
  by_cases z : gr = 0
  · subst z
    obtain ⟨S3, q3, b3, x3⟩ := r__law_great_right (k := k) c b2' (by omega)
    exact runs_eq (by simp [q3]) ⟨rfl, b3.le (by omega), X2.trans x3⟩
  · exact runs_eq (by simp [z]) ⟨rfl, b2'.le (by omega), X2⟩
/-! ### the law -/
theorem r__law_box (g : Int) : ∃ o, callN es (k + 1) "_law_box" [.int g] Sz = .ok (.ref Sz.length) (Sz ++ [o]) ∧ BoxAt Sz.length 0 (Sz ++ [o]) := by
  rw [u__law_box]
  unfold d__law_box
  have pw : ∀ S, opPow (.int 10) (.int 18) S = .ok (.int (10 ^ 18)) S := fun S => x_pow _ _ _ (by decide)
  have z1 : (2147483629 : Int) ≠ 0 := by decide
  generalize ha : (if g < 0 then -g else g : Int) = a
  have ha0 : 0 ≤ a := by
    rw [← ha]
    split <;> omega
  have hf : 0 ≤ a.fmod 2147483629 ∧ a.fmod 2147483629 < 2147483629 := by
    rw [Int.fmod_eq_emod_of_nonneg _ (by omega)]
    exact ⟨Int.emod_nonneg _ z1, Int.emod_lt_of_pos _ (by omega)⟩
  refine ⟨.lst [.int a, .bl (decide (10 ^ 18 ≤ a)), .int (a.fmod 2147483629), .int 0], ?_, a, _, _, _, at_new _, ha0, hf.1, by omega, by omega, by omega⟩
  simp [entry, ha, pw, x_mod _ _ _ z1]
theorem r__law_cell {ns : List Int} {j : Nat} (h : Sz[0]? = some (.fro (ns.map .int))) (hj : j ≤ 100) : ∃ z e, callN es (k + 1) "_law_cell" [.ref 0, .int (j : Int)] Sz = .ok (.int z) (Sz ++ e) := by
  rw [u__law_cell]
  unfold d__law_cell
  have hl : bLen (.ref 0) Sz = .ok (.int ns.length) Sz := by
    show optR (lenK Sz (.ref 0)) _ = _
    unfold lenK
    simp only [h]
    simp
  by_cases z : (j : Int) < (ns.length : Int)
  · have hi : opIdx (.ref 0) (.int (j : Int)) Sz = .ok (.int (ns[j]'(by omega))) Sz := by
      rw [x_idx_lst _ _ _ (seq_fro h)]
      have : (ns.map D.int)[j]? = some (.int (ns[j]'(by omega))) := by simp [show j < ns.length by omega]
      unfold L2.atI ixN
      rw [if_pos (by omega), if_pos (by simp; omega)]
      show optR ((ns.map D.int)[((j : Int)).toNat]?) _ = _
      rw [Int.toNat_natCast, this]
      rfl
    exact ⟨ns[j]'(by omega), [], by simp [entry, hl, z, hi]⟩
  · have hc : opCut (.ref 0) none (some 1) Sz = .ok (.ref Sz.length) (Sz ++ [.lst ((ns.map D.int).take 1)]) := by
      show optR (seqOf Sz 0) _ = _
      rw [seq_fro h]
      show mkLst (cutD _ none (some ((1 : Nat) : Int))) _ = _
      rw [cut_take]
      rfl
    have hm : ∃ ks : List Int, mapO asInt ((ns.map D.int).take 1) = some ks := by
      cases ns with
      | nil => exact ⟨[], rfl⟩
      | cons n ns => exact ⟨[n], rfl⟩
    obtain ⟨ks, hm⟩ := hm
    have hs : bNums sumF (.ref Sz.length) (Sz ++ [.lst ((ns.map D.int).take 1)]) = .ok (.int ks.sum) (Sz ++ [.lst ((ns.map D.int).take 1)]) := by
      show optR (seqOf _ _) _ = _
      rw [seq_new]
      show optR (mapO asInt _) _ = _
      rw [hm]
      rfl
    have m1 : mulFit 7919 (j : Int) = true := by simp [mulFit]
    have z1 : (1000003 : Int) ≠ 0 := by decide
    generalize (ns.map D.int).take 1 = tk at hc hs
    refine ⟨7919 * (j : Int) + ks.sum.fmod 1000003, [.lst tk], ?_⟩
    simp [entry, hl, z, hc, hs, x_mul _ _ _ m1, x_mod _ _ _ z1]
theorem law_runs (k : Nat) (ns : List Int) (hl : ns.length ≤ 63) : ∃ S', callN es (k + 8) e_law.name [.ref 0] [.fro (ns.map .int)] = .ok (.bl true) S' := by
  show ∃ S', callN es (k + 8) "law" [.ref 0] [.fro (ns.map .int)] = .ok (.bl true) S'
  rw [u_law]
  unfold d_law
  have hln : bLen (.ref 0) [.fro (ns.map .int)] = .ok (.int ns.length) [.fro (ns.map .int)] := by
    show optR (lenK _ (.ref 0)) _ = _
    unfold lenK
    simp
  have hc : ∃ c : Nat, (if (if (ns.length : Int) < 6 then (ns.length : Int) else 6) > 2 then (if (ns.length : Int) < 6 then (ns.length : Int) else 6) else 2) = (c : Int) ∧ c ≤ 6 := by
    by_cases z : (ns.length : Int) < 6
    · rw [if_pos z]
      by_cases z2 : (ns.length : Int) > 2
      · rw [if_pos z2]
        exact ⟨ns.length, rfl, by omega⟩
      · rw [if_neg z2]
        exact ⟨2, rfl, by omega⟩
    · rw [if_neg z, if_pos (by omega)]
      exact ⟨6, rfl, by omega⟩
  obtain ⟨c, hc, c6⟩ := hc
  refine of_runs (Q := fun _ => True) (v := .bl true) ?_ |>.imp fun S' h => h.1
  refine runs_seq (runs_for (i := ⟨rngs 0 1 c, fun _ => True⟩) (S1 := [.fro (ns.map .int)]) (by
      simp [entry, hln]
      rw [hc, x_rng1 (by omega) (by omega)]
      rfl)
    (fun i ρ S' => ∃ y, ρ = [some (.ref 0), y] ∧ S'[0]? = some (.fro (ns.map .int))) ⟨none, rfl, rfl⟩ (fun _ _ _ _ => trivial) ?_ ?_)
  · rintro d hd j ρ S1 hj ⟨y, rfl, h0⟩
    obtain ⟨i, hi, rfl⟩ := rngs_mem hd
    refine ⟨_, _, rfl, ?_⟩
    obtain ⟨z, e1, q1⟩ := r__law_cell (k := k + 6) (j := i) h0 (by omega)
    have h1 := at_old (e := e1) h0
    generalize S1 ++ e1 = B at q1 h1
    obtain ⟨o, q2, b2⟩ := r__law_box (k := k + 6) (Sz := B) z
    obtain ⟨S3, q3, X3⟩ := r__law_cell_right (k := k) b2
    have l0 : 0 < B.length := by
      cases B with
      | nil => cases h1
      | cons _ _ => simp
    have h3 : S3[0]? = some (.fro (ns.map .int)) := X3.2 _ _ (by omega) (at_old h1)
    have t1 : ∀ S, tru S (.bl true) = some true := fun S => rfl
    refine runs_eq (ρ := [some (.ref 0), some (.int i)]) (Sz := S3) ?_ ⟨_, rfl, h3⟩
    simp [q1, q2, q3, t1]
  · rintro ρ S' ⟨y, rfl, h0⟩
    exact ⟨.bl true, S', rfl, rfl, trivial⟩
end DL
end
section
set_option Elab.async false
set_option maxRecDepth 100000
set_option maxHeartbeats 8000000
theorem PySem.Challenge.cw_ohmpatch_k01_fractions_by_own_integers_holds : PySem.Challenge.rw_ohmpatch_k01_fractions_by_own_integers.Holds := by
  refine DL.law_holds 8 ⟨rfl, by decide, by decide⟩ fun ns h _ => ?_
  exact DL.law_runs 0 ns h
end
