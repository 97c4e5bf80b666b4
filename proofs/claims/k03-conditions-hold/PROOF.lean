import PyProof.Rows.All
import Wide.All
import OpenK.AllK
import Wide.FinOn
import HandS.ForMost
import HandS.ForExc
import HandS.CallSlots
import HandS.Defaults
import HandS.Zip
import HandS.TupAny
import HandS.IsInst
import HandS.Deep
import HandS.Style
import KE.LtData
import KE.KTupSum
import HandS.Small
import HandS.NoneIn
import KE.GoesMore
import KE.GoesEnum
import HandS.Conv
import HandS.HeadEnd
import HandS.EndBits
import KE.KStateDown
import HandS.Ends
import HandS.More
import HandS.Words
import HandS.WordsExc
import HandS.Head0
import HandS.Head1
import HandS.Head2
import HandS.HeadHook1
import HandS.HeadHook2
import PySem.Challenge.RW_everylanding_k03_conditions_hold
set_option Elab.async false
set_option linter.all false
set_option maxRecDepth 100000
set_option autoImplicit false
/-! EL: a functional reading of a Python subset over HandS. -/
namespace EL
open PySem PySem.Spec PyProof.Rows
open L2 hiding XE

/-- plain values: what a Python value is worth, without addresses -/
inductive D where
  | non | bl (b : Bool) | int (i : Int) | str (x : Str)
  | tup (ds : List D) | lst (ds : List D) | scr (ds : List D)
  | dic (kvs : List (Key × D))
  | ins (c : String) (fs : List (Str × D))
  | obj (c : String) (fs : List (Str × D))

inductive Kd where | pl | par | own | io | bw
  deriving DecidableEq

/-- what is written, where the classes stand, which ones never change -/
structure Core where
  K : PySem.W.Frag
  cm : String → Addr
  fz : Addr → Prop
/-- the static part of a reading -/
structure Sig where
  c : Core
  kd : Nat → Kd
  n : Nat
  fin : ∀ i, n ≤ i → kd i ≠ .bw
/-- the slots' kinds by a list -/
def kdOf (l : List Kd) (i : Nat) : Kd := l.getD i .pl
def sg (C : Core) (l : List Kd) : Sig := ⟨C, kdOf l, l.length, fun i h => by unfold kdOf; rw [List.getD_eq_getElem?_getD, List.getElem?_eq_none h]; intro z; cases z⟩

/-- a list that is only read: frozen, or the module's own -/
def SqR (K : PySem.W.Frag) (H : Hp) (a : Addr) (vs : List V) : Prop :=
  (∃ o, H a = some (.frz o (.lst vs))) ∨ ∃ (ob : Obj) (us : Array Value) (k : Nat), K.lookup a = some ob ∧ ob.cls = .type "list" ∧ ob.dict = none ∧ ob.data = .seq us k ∧ us.size ≤ sizeLine ∧ Vals vs us.toList
theorem SqR.toL {K : PySem.W.Frag} {H : Hp} {a : Addr} {vs : List V} (h : SqR K H a vs) : SqL K H a vs := h.elim (fun h => .inl (.inr h)) .inr
theorem SqR.keep {K : PySem.W.Frag} {H H2 : Hp} {a : Addr} {vs : List V} (h : SqR K H a vs) (k : ∀ o u, H a = some (.frz o u) → H2 a = some (.frz o u)) : SqR K H2 a vs := h.elim (fun ⟨o, h⟩ => .inl ⟨o, k _ _ h⟩) .inr
mutual
/-- d is what v is worth in H; F: the addresses of its mutable parts -/
inductive Rep (S : Core) (R : Addr → Prop) (H : Hp) : D → V → List Addr → Prop
  | non : Rep S R H .non .non []
  | bl (b : Bool) : Rep S R H (.bl b) (.bl b) []
  | int (i : Int) : Rep S R H (.int i) (.int i) []
  | str (x : Str) : Rep S R H (.str x) (.str x) []
  | tup {ds : List D} {a : Addr} {vs : List V} {F : List Addr} (h : SqT S.K H a vs) (l : vs.length ≤ sizeLine) (r : Reps S R H ds vs F) : Rep S R H (.tup ds) (.ref a) F
  | lst {ds : List D} {a : Addr} {vs : List V} {F : List Addr} (h : H a = some (.lst vs)) (l : vs.length ≤ sizeLine) (r : Reps S R H ds vs F) : Rep S R H (.lst ds) (.ref a) (a :: F)
  | scr {ds : List D} {a : Addr} {vs : List V} {F : List Addr} (h : SqR S.K H a vs) (l : vs.length ≤ sizeLine) (r : Reps S R H ds vs F) : Rep S R H (.scr ds) (.ref a) F
  | dic {kvs : List (Key × D)} {a : Addr} {ws : List (Key × V)} {F : List Addr} (h : H a = some (.dK ws)) (l : ws.length ≤ sizeLine) (e : ws.map (·.1) = kvs.map (·.1)) (r : Reps S R H (kvs.map (·.2)) (ws.map (·.2)) F) : Rep S R H (.dic kvs) (.ref a) (a :: F)
  | ins {c : String} {fs : List (Str × D)} {a dx : Addr} {ws : List (Str × V)} {F : List Addr} (h : H a = some (.ins (S.cm c) dx ws)) (z : S.fz (S.cm c)) (n : ¬ R a) (e : ws.map (·.1) = fs.map (·.1)) (r : Reps S R H (fs.map (·.2)) (ws.map (·.2)) F) : Rep S R H (.ins c fs) (.ref a) F
  | obj {c : String} {fs : List (Str × D)} {a dx : Addr} {ws : List (Str × V)} {F : List Addr} (h : H a = some (.ins (S.cm c) dx ws)) (n : ¬ S.fz (S.cm c) ∨ R a) (e : ws.map (·.1) = fs.map (·.1)) (r : Reps S R H (fs.map (·.2)) (ws.map (·.2)) F) : Rep S R H (.obj c fs) (.ref a) (a :: F)
inductive Reps (S : Core) (R : Addr → Prop) (H : Hp) : List D → List V → List Addr → Prop
  | nil : Reps S R H [] [] []
  | cons {d : D} {v : V} {F : List Addr} {ds : List D} {vs : List V} {G : List Addr} (r : Rep S R H d v F) (t : Reps S R H ds vs G) : Reps S R H (d :: ds) (v :: vs) (F ++ G)
end

/-- what may change -/
def Mu (S : Core) (R : Addr → Prop) : HO → Addr → Prop
  | .lst _, _ => True
  | .dK _, _ => True
  | .ins C _ _, a => ¬ S.fz C ∨ R a
  | _, _ => False

section
variable {S : Core} {R : Addr → Prop} {H H' : Hp}
theorem sqT_keep {K : PySem.W.Frag} {a : Addr} {xs : List V} (k : ∀ o, H a = some o → H' a = some o) (h : SqT K H a xs) : SqT K H' a xs := by
  rcases h with (h | ⟨o, h⟩) | h
  · exact .inl (.inl (k _ h))
  · exact .inl (.inr ⟨o, k _ h⟩)
  · exact .inr h
mutual
/-- a reading stands where its objects stand -/
theorem Rep.keep {d : D} {v : V} {F : List Addr} (k : ∀ a o, H a = some o → (¬ Mu S R o a ∨ a ∈ F) → H' a = some o) : Rep S R H d v F → Rep S R H' d v F
  | .non => .non
  | .bl b => .bl b
  | .int i => .int i
  | .str x => .str x
  | .tup h l r => .tup (by
      rcases h with (h | ⟨o, h⟩) | h
      · exact .inl (.inl (k _ _ h (.inl fun z => z)))
      · exact .inl (.inr ⟨o, k _ _ h (.inl fun z => z)⟩)
      · exact .inr h) l (Reps.keep k r)
  | .lst h l r => .lst (k _ _ h (.inr (by simp))) l (Reps.keep (fun a o e z => k a o e (z.imp id fun m => by simp [m])) r)
  | .scr h l r => .scr (h.keep fun o u q => k _ _ q (.inl fun z => z)) l (Reps.keep k r)
  | .dic h l e r => .dic (k _ _ h (.inr (by simp))) l e (Reps.keep (fun a o e z => k a o e (z.imp id fun m => by simp [m])) r)
  | .ins h z n e r => .ins (k _ _ h (.inl fun q => q.elim (fun q => q z) n)) z n e (Reps.keep k r)
  | .obj h n e r => .obj (k _ _ h (.inr (by simp))) n e (Reps.keep (fun a o e z => k a o e (z.imp id fun m => by simp [m])) r)
theorem Reps.keep {ds : List D} {vs : List V} {F : List Addr} (k : ∀ a o, H a = some o → (¬ Mu S R o a ∨ a ∈ F) → H' a = some o) : Reps S R H ds vs F → Reps S R H' ds vs F
  | .nil => .nil
  | .cons r t => .cons (Rep.keep (fun a o e z => k a o e (z.imp id fun m => by simp [m])) r) (Reps.keep (fun a o e z => k a o e (z.imp id fun m => by simp [m])) t)
end
theorem Rep.same {d : D} {v : V} {F : List Addr} (r : Rep S R H d v F) (k : Same H H') : Rep S R H' d v F := r.keep fun a o e _ => k a o e
theorem Reps.same {ds : List D} {vs : List V} {F : List Addr} (r : Reps S R H ds vs F) (k : Same H H') : Reps S R H' ds vs F := r.keep fun a o e _ => k a o e
mutual
/-- the mutable parts stand in H -/
theorem Rep.mem {d : D} {v : V} {F : List Addr} : Rep S R H d v F → ∀ a ∈ F, ∃ o, H a = some o ∧ Mu S R o a
  | .non => by simp
  | .bl b => by simp
  | .int i => by simp
  | .str x => by simp
  | .tup h l r => Reps.mem r
  | .lst h l r => fun a m => by
      rcases List.mem_cons.mp m with rfl | m
      · exact ⟨_, h, trivial⟩
      · exact Reps.mem r a m
  | .scr h l r => Reps.mem r
  | .dic h l e r => fun a m => by
      rcases List.mem_cons.mp m with rfl | m
      · exact ⟨_, h, trivial⟩
      · exact Reps.mem r a m
  | .ins h z n e r => Reps.mem r
  | .obj h n e r => fun a m => by
      rcases List.mem_cons.mp m with rfl | m
      · exact ⟨_, h, n⟩
      · exact Reps.mem r a m
theorem Reps.mem {ds : List D} {vs : List V} {F : List Addr} : Reps S R H ds vs F → ∀ a ∈ F, ∃ o, H a = some o ∧ Mu S R o a
  | .nil => by simp
  | .cons r t => fun a m => by
      rcases List.mem_append.mp m with m | m
      · exact Rep.mem r a m
      · exact Reps.mem t a m
end
theorem Reps.length {ds : List D} {vs : List V} {F : List Addr} : Reps S R H ds vs F → ds.length = vs.length
  | .nil => rfl
  | .cons r t => by simp [Reps.length t]
theorem Reps.get {ds : List D} {vs : List V} {F : List Addr} {i : Nat} {d : D} : Reps S R H ds vs F → ds[i]? = some d → ∃ v G A B, vs[i]? = some v ∧ Rep S R H d v G ∧ F = A ++ G ++ B
  | .nil, e => by simp at e
  | .cons (F := F) (G := G) r t, e => by
      cases i with
      | zero => simp at e; subst e; exact ⟨_, F, [], G, rfl, r, by simp⟩
      | succ i =>
        obtain ⟨v, Q, A, B, h1, h2, h3⟩ := Reps.get (i := i) t (by simpa using e)
        exact ⟨v, Q, F ++ A, B, by simpa using h1, h2, by rw [h3]; simp⟩
theorem Reps.app {ds es : List D} {vs ws : List V} {F G : List Addr} : Reps S R H ds vs F → Reps S R H es ws G → Reps S R H (ds ++ es) (vs ++ ws) (F ++ G)
  | .nil, s => s
  | .cons r t, s => by rw [List.append_assoc]; exact .cons r (Reps.app t s)
end

/-! ### plain values -/
mutual
/-- nothing of it can change -/
def pureD : D → Bool
  | .non => true | .bl _ => true | .int _ => true | .str _ => true
  | .tup ds => pureDs ds
  | .lst _ => false | .scr _ => false | .dic _ => false | .obj _ _ => false
  | .ins _ fs => pureFs fs
def pureDs : List D → Bool
  | [] => true
  | d :: ds => pureD d && pureDs ds
def pureFs : List (Str × D) → Bool
  | [] => true
  | (_, d) :: ds => pureD d && pureFs ds
end
theorem pureFs_eq : ∀ fs : List (Str × D), pureFs fs = pureDs (fs.map (·.2))
  | [] => rfl
  | (_, d) :: fs => by simp [pureFs, pureDs, pureFs_eq fs]
section
variable {S : Core} {R : Addr → Prop} {H H' : Hp}
mutual
theorem Rep.pure {d : D} {v : V} {F : List Addr} : Rep S R H d v F → pureD d = true → F = []
  | .non, _ => rfl
  | .bl b, _ => rfl
  | .int i, _ => rfl
  | .str x, _ => rfl
  | .tup h l r, p => Reps.pure r (by simpa [pureD] using p)
  | .lst h l r, p => by simp [pureD] at p
  | .scr h l r, p => by simp [pureD] at p
  | .dic h l e r, p => by simp [pureD] at p
  | .ins h z n e r, p => Reps.pure r (by rw [← pureFs_eq]; simpa [pureD] using p)
  | .obj h n e r, p => by simp [pureD] at p
theorem Reps.pure {ds : List D} {vs : List V} {F : List Addr} : Reps S R H ds vs F → pureDs ds = true → F = []
  | .nil, _ => rfl
  | .cons r t, p => by
    simp only [pureDs, Bool.and_eq_true] at p
    rw [Rep.pure r p.1, Reps.pure t p.2]; rfl
end
end

/-! ### environments -/
abbrev Env := List (Option D)
structure Base where
  R : Addr → Prop
  P0 : Addr → Prop
  H0 : Hp
  iv : Nat → V
  Fp : Nat → List Addr
  wf : ∀ i, ∀ a ∈ Fp i, P0 a
/-- slot i holds something that may be changed here -/
def Own (S : Sig) (ρ : Env) (i : Nat) : Prop := (S.kd i = .own ∨ S.kd i = .io) ∧ ∃ d, ρ[i]? = some (some d)
structure EnvR (S : Sig) (B : Base) (ρ : Env) (σ : L2.St) (Fs : Nat → List Addr) (H : Hp) : Prop where
  len : ρ.length = σ.length
  slot : ∀ i d, ρ[i]? = some (some d) → ∃ v, σ[i]? = some (some v) ∧ Rep S.c B.R H d v (Fs i)
  pl : ∀ i d, ρ[i]? = some (some d) → S.kd i = .pl → Fs i = []
  par : ∀ i d, ρ[i]? = some (some d) → S.kd i = .par → Fs i = B.Fp i ∧ σ[i]? = some (some (B.iv i))
  bw : ∀ i d, ρ[i]? = some (some d) → S.kd i = .bw → ∀ a ∈ Fs i, B.P0 a
  own : ∀ i, Own S ρ i → (Fs i).Nodup ∧ ∀ a ∈ Fs i, ¬ B.P0 a
  dis : ∀ i j, Own S ρ i → Own S ρ j → i ≠ j → ∀ a ∈ Fs i, a ∉ Fs j
  iov : ∀ i, Own S ρ i → S.kd i = .io → σ[i]? = some (some (B.iv i))
  prot : ∀ a o, B.P0 a ∨ ¬ Mu S.c B.R o a → B.H0 a = some o → H a = some o
  pdom : ∀ a, B.P0 a → ∃ o, B.H0 a = some o
  tr : ∀ a o, B.H0 a = some o → ∃ u, H a = some u
/-- what a piece of a run does to the heap -/
structure Step (S : Sig) (eff : Bool) (ρ : Env) (Fs : Nat → List Addr) (H : Hp) (ρ' : Env) (Fs' : Nat → List Addr) (H' : Hp) : Prop where
  chg : ∀ a o, H a = some o → H' a = some o ∨ ∃ i, Own S ρ i ∧ a ∈ Fs i
  grow : ∀ i a, Own S ρ' i → a ∈ Fs' i → H a = none ∨ ∃ j, Own S ρ j ∧ a ∈ Fs j
  dom : ∀ a, H' a = none → H a = none
  noeff : eff = false → ρ' = ρ ∧ (∀ i, Own S ρ i → Fs' i = Fs i) ∧ Same H H'
section
variable {S : Sig} {e1 e2 : Bool} {ρ ρ1 ρ2 : Env} {Fs Fs1 Fs2 : Nat → List Addr} {H H1 H2 : Hp}
theorem Step.refl {e : Bool} : Step S e ρ Fs H ρ Fs H := ⟨fun _ _ h => .inl h, fun i a o m => .inr ⟨i, o, m⟩, fun _ h => h, fun _ => ⟨rfl, fun _ _ => rfl, Same.refl _⟩⟩
theorem Same.dom {H H1 : Hp} (k : Same H H1) {a : Addr} (h : H1 a = none) : H a = none := k.free h
theorem Step.of_same {e : Bool} (k : Same H H1) : Step S e ρ Fs H ρ Fs H1 := ⟨fun _ _ h => .inl (k _ _ h), fun i a o m => .inr ⟨i, o, m⟩, fun _ h => k.free h, fun _ => ⟨rfl, fun _ _ => rfl, k⟩⟩
theorem Step.trans (s : Step S e1 ρ Fs H ρ1 Fs1 H1) (t : Step S e2 ρ1 Fs1 H1 ρ2 Fs2 H2) : Step S (e1 || e2) ρ Fs H ρ2 Fs2 H2 where
  chg := fun a o h => by
    rcases s.chg a o h with h1 | h1
    · rcases t.chg a o h1 with h2 | ⟨i, oi, m⟩
      · exact .inl h2
      · rcases s.grow i a oi m with n | q
        · rw [h] at n; cases n
        · exact .inr q
    · exact .inr h1
  grow := fun i a oi m => by
    rcases t.grow i a oi m with n | ⟨j, oj, mj⟩
    · exact .inl (s.dom a n)
    · exact s.grow j a oj mj
  dom := fun a h => s.dom a (t.dom a h)
  noeff := fun h => by
    simp only [Bool.or_eq_false_iff] at h
    obtain ⟨rfl, q, k⟩ := s.noeff h.1
    obtain ⟨rfl, q', k'⟩ := t.noeff h.2
    exact ⟨rfl, fun i o => (q' i o).trans (q i o), k.trans k'⟩
theorem Step.weak {e : Bool} (s : Step S e ρ Fs H ρ1 Fs1 H1) (h : e1 = false → e = false) : Step S e1 ρ Fs H ρ1 Fs1 H1 := ⟨s.chg, s.grow, s.dom, fun z => s.noeff (h z)⟩
end

/-- how a value stands to the slots: anyhow; within what is protected or the slots T; new; nothing to change in it -/
inductive Md where | bo | al (T : List Nat) | fr | pu
def MdOk (S : Sig) (B : Base) (m : Md) (ρ : Env) (Fs : Nat → List Addr) (H : Hp) (ρ' : Env) (Fs' : Nat → List Addr) (F : List Addr) : Prop :=
  match m with
  | .bo => True
  | .al T => ∀ a ∈ F, B.P0 a ∨ ∃ i ∈ T, Own S ρ' i ∧ a ∈ Fs' i
  | .fr => F.Nodup ∧ (∀ a ∈ F, H a = none ∨ ∃ j, Own S ρ j ∧ a ∈ Fs j) ∧ ∀ i, Own S ρ' i → ∀ a ∈ F, a ∉ Fs' i
  | .pu => F = []
/-- a value's parts are apart from all that may change -/
def Md.sep : Md → Bool
  | .bo => false | .al T => T.isEmpty | .fr => true | .pu => true
structure Post (S : Sig) (B : Base) (m : Md) (eff : Bool) (σ : L2.St) (ρ : Env) (Fs : Nat → List Addr) (H : Hp) (ρ' : Env) (d : D) (v : V) (H' : Hp) (Fs' : Nat → List Addr) (F : List Addr) : Prop where
  env : EnvR S B ρ' σ Fs' H'
  rep : Rep S.c B.R H' d v F
  step : Step S eff ρ Fs H ρ' Fs' H'
  md : MdOk S B m ρ Fs H ρ' Fs' F
/-- how a piece of a run ends: a value and the slots; an error with its fields; not told -/
inductive Rs (α : Type) where
  | ok (a : α) (ρ : Env)
  | er (c : String) (fs : List (Str × D)) (ρ : Env)
  | st
abbrev M (α : Type) := Env → Rs α
def bindR {α β : Type} (r : Rs α) (f : α → Env → Rs β) : Rs β := match r with
  | .ok a ρ => f a ρ
  | .er c fs ρ => .er c fs ρ
  | .st => .st
/-- an exception with its fields -/
def XdOk (S : Core) (R : Addr → Prop) (H : Hp) (fs : List (Str × D)) (dd : Option Addr) : Prop :=
  fs = [] ∨ ∃ (a : Addr) (ws : List (Str × V)) (F : List Addr), dd = some a ∧ H a = some (.xd ws) ∧ ws.map (·.1) = fs.map (·.1) ∧ Reps S R H (fs.map (·.2)) (ws.map (·.2)) F
def ErW (S : Sig) (B : Base) (W : WX) (c : String) (fs : List (Str × D)) (ρ' : Env) : Prop :=
  ∀ (σ' : L2.St) (Fs' : Nat → List Addr) (H' : Hp) (dd : Option Addr), EnvR S B ρ' σ' Fs' H' → XdOk S.c B.R H' fs dd → W (.ref (S.c.cm c)) dd σ' H'
def Wn {α : Type} (Er : String → List (Str × D) → Env → Prop) (P : α → Env → Prop) : Rs α → Prop
  | .ok a ρ => P a ρ
  | .er c fs ρ => Er c fs ρ
  | .st => False
theorem Wn.imp {α : Type} {Er : String → List (Str × D) → Env → Prop} {P P' : α → Env → Prop} {r : Rs α} (h : Wn Er P r) (k : ∀ a ρ, r = .ok a ρ → P a ρ → P' a ρ) : Wn Er P' r := by
  cases r with
  | ok a ρ => exact k a ρ rfl h
  | er c fs ρ => exact h
  | st => exact h
theorem Wn.bind {α β : Type} {Er : String → List (Str × D) → Env → Prop} {P : β → Env → Prop} {r : Rs α} {f : α → Env → Rs β} (h : Wn Er P (bindR r f)) : Wn Er (fun a ρ => Wn Er P (f a ρ)) r := by
  cases r with
  | ok a ρ => exact h
  | er c fs ρ => exact h
  | st => exact h
/-- the reading t is what ev tells -/
def RE (S : Sig) (W : WX) (m : Md) (eff : Bool) (ev : M D) (t : TE) : Prop :=
  ∀ (B : Base) (ρ : Env) (σ : L2.St) (Fs : Nat → List Addr) (H : Hp) (Q : VK), EnvR S B ρ σ Fs H →
    Wn (ErW S B W) (fun d ρ' => ∀ v H' Fs' F, Post S B m eff σ ρ Fs H ρ' d v H' Fs' F → Q v H') (ev ρ) → t σ H Q
structure XE (X : Cx) (S : Sig) (W : WX) (e : Expr) (m : Md) (eff : Bool) (ev : M D) : Prop where
  ex : ∃ t, PE X e t ∧ RE S W m eff ev t
/-- .. of several values -/
structure PostA (S : Sig) (B : Base) (m : Md) (eff : Bool) (σ : L2.St) (ρ : Env) (Fs : Nat → List Addr) (H : Hp) (ρ' : Env) (ds : List D) (vs : List V) (H' : Hp) (Fs' : Nat → List Addr) (F : List Addr) : Prop where
  env : EnvR S B ρ' σ Fs' H'
  rep : Reps S.c B.R H' ds vs F
  step : Step S eff ρ Fs H ρ' Fs' H'
  md : MdOk S B m ρ Fs H ρ' Fs' F
def RA (S : Sig) (W : WX) (m : Md) (eff : Bool) (ev : M (List D)) (t : TA) : Prop :=
  ∀ (B : Base) (ρ : Env) (σ : L2.St) (Fs : Nat → List Addr) (H : Hp) (Q : List V → Hp → Prop), EnvR S B ρ σ Fs H →
    Wn (ErW S B W) (fun ds ρ' => ∀ vs H' Fs' F, PostA S B m eff σ ρ Fs H ρ' ds vs H' Fs' F → Q vs H') (ev ρ) → t σ H Q
structure XA (X : Cx) (S : Sig) (W : WX) (es : List Expr) (m : Md) (eff : Bool) (ev : M (List D)) : Prop where
  ex : ∃ t, PA X es t ∧ RA S W m eff ev t
  len : ∀ ρ ds ρ', ev ρ = .ok ds ρ' → ds.length = es.length
def RT (S : Sig) (W : WX) (eff : Bool) (ev : M Bool) (t : TT) : Prop :=
  ∀ (B : Base) (ρ : Env) (σ : L2.St) (Fs : Nat → List Addr) (H : Hp) (Q : Bool → Hp → Prop), EnvR S B ρ σ Fs H →
    Wn (ErW S B W) (fun b ρ' => ∀ H' Fs', EnvR S B ρ' σ Fs' H' → Step S eff ρ Fs H ρ' Fs' H' → Q b H') (ev ρ) → t σ H Q
structure XT (X : Cx) (S : Sig) (W : WX) (e : Expr) (eff : Bool) (ev : M Bool) : Prop where
  ex : ∃ t, PT X e t ∧ RT S W eff ev t
structure XW (X : Cx) (S : Sig) (W : WX) (e : Expr) (eff : Bool) (ev : M Bool) : Prop where
  ex : ∃ t, PW X e t ∧ RT S W eff ev t
/-- what an operation on values gives -/
structure VP (S : Core) (R : Addr → Prop) (m : Md) (H : Hp) (d : D) (v : V) (H' : Hp) (F : List Addr) : Prop where
  same : Same H H'
  rep : Rep S R H' d v F
  md : match m with | .pu => F = [] | .fr => F.Nodup ∧ ∀ a ∈ F, H a = none | .bo => True | .al _ => False
/-- an operation of two values is told by g -/
def Op2 (S : Core) (r : R2) (g : D → D → Option D) (m : Md) : Prop := ∀ (R : Addr → Prop) (H : Hp) (d1 d2 d : D) (x y : V) (F1 F2 : List Addr) (Q : VK),
  Rep S R H d1 x F1 → Rep S R H d2 y F2 → g d1 d2 = some d → (∀ v H' F, VP S R m H d v H' F → Q v H') → r x y H Q
def Op1 (S : Core) (r : V → Hp → VK → Prop) (g : D → Option D) (m : Md) : Prop := ∀ (R : Addr → Prop) (H : Hp) (d1 d : D) (x : V) (F1 : List Addr) (Q : VK),
  Rep S R H d1 x F1 → g d1 = some d → (∀ v H' F, VP S R m H d v H' F → Q v H') → r x H Q
def OpN (S : Core) (r : List V → Hp → VK → Prop) (g : List D → Option D) (m : Md) : Prop := ∀ (R : Addr → Prop) (H : Hp) (ds : List D) (d : D) (xs : List V) (F1 : List Addr) (Q : VK),
  Reps S R H ds xs F1 → g ds = some d → (∀ v H' F, VP S R m H d v H' F → Q v H') → r xs H Q
end EL

namespace EL
open PySem PySem.Spec PyProof.Rows
open L2 hiding XE
section
variable {X : Cx} {S : Sig} {B : Base} {m m1 m2 : Md} {e1 e2 : Bool} {σ : L2.St} {ρ ρ1 ρ' : Env} {Fs Fs1 Fs' : Nat → List Addr} {H H1 H' : Hp} {d : D} {v : V} {F : List Addr}

theorem EnvR.fresh (I : EnvR S B ρ σ Fs H) {a : Addr} (h : H a = none) : ¬ B.P0 a := fun p => by
  obtain ⟨o, q⟩ := I.pdom a p
  rw [I.prot a o (.inl p) q] at h; cases h
theorem EnvR.parP (I : EnvR S B ρ σ Fs H) {i : Nat} (e : ρ[i]? = some (some d)) (h : S.kd i = .par) : ∀ a ∈ Fs i, B.P0 a := fun a ha => B.wf i a (by rw [← (I.par i d e h).1]; exact ha)
theorem EnvR.mem (I : EnvR S B ρ σ Fs H) {i : Nat} (o : Own S ρ i) {a : Addr} (m : a ∈ Fs i) : ∃ u, H a = some u ∧ Mu S.c B.R u a := by
  obtain ⟨d, e⟩ := o.2
  obtain ⟨v, _, r⟩ := I.slot i d e
  exact r.mem a m
/-- nothing but new objects -/
theorem EnvR.same (I : EnvR S B ρ σ Fs H) (k : Same H H') : EnvR S B ρ σ Fs H' :=
  ⟨I.len, fun i d e => by obtain ⟨v, h, r⟩ := I.slot i d e; exact ⟨v, h, r.same k⟩, I.pl, I.par, I.bw, I.own, I.dis, I.iov, fun a o p q => k _ _ (I.prot a o p q), I.pdom, fun a o q => let ⟨u, z⟩ := I.tr a o q; ⟨u, k _ _ z⟩⟩
theorem Step.keeps (I : EnvR S B ρ σ Fs H) (s : Step S e1 ρ Fs H ρ1 Fs1 H1) (h : ∀ a ∈ F, ∀ i, Own S ρ i → a ∉ Fs i) : ∀ a o, H a = some o → (¬ Mu S.c B.R o a ∨ a ∈ F) → H1 a = some o := fun a o e z => by
  rcases s.chg a o e with q | ⟨i, oi, m⟩
  · exact q
  · rcases z with z | z
    · obtain ⟨u, e2, mu⟩ := I.mem oi m
      rw [e] at e2; cases e2
      exact absurd mu z
    · exact absurd m (h a z i oi)
/-- a value that is apart stands behind a step -/
theorem Rep.step (r : Rep S.c B.R H d v F) (I : EnvR S B ρ σ Fs H) (s : Step S e1 ρ Fs H ρ1 Fs1 H1) (h : ∀ a ∈ F, ∀ i, Own S ρ i → a ∉ Fs i) : Rep S.c B.R H1 d v F := r.keep (s.keeps I h)
theorem Reps.step {ds : List D} {vs : List V} (r : Reps S.c B.R H ds vs F) (I : EnvR S B ρ σ Fs H) (s : Step S e1 ρ Fs H ρ1 Fs1 H1) (h : ∀ a ∈ F, ∀ i, Own S ρ i → a ∉ Fs i) : Reps S.c B.R H1 ds vs F := r.keep (s.keeps I h)
theorem MdOk.apart (I : EnvR S B ρ' σ Fs' H') (h : MdOk S B m ρ Fs H ρ' Fs' F) (z : m.sep = true) : ∀ a ∈ F, ∀ i, Own S ρ' i → a ∉ Fs' i := by
  intro a ha i oi q
  cases m with
  | bo => cases z
  | al T =>
    rcases h a ha with p | ⟨j, hj, _⟩
    · exact (I.own i oi).2 a q p
    · have : T = [] := by simpa [Md.sep] using z
      subst this; cases hj
  | fr => exact h.2.2 i oi a ha q
  | pu => rw [show F = [] from h] at ha; cases ha
/-- the first value behind the second one's step -/
theorem Post.over (p : Post S B m e1 σ ρ Fs H ρ1 d v H1 Fs1 F) (s : Step S e2 ρ1 Fs1 H1 ρ' Fs' H') (h : (!e2 || m.sep) = true) : Rep S.c B.R H' d v F := by
  cases e2 with
  | false => exact p.rep.same (s.noeff rfl).2.2
  | true => exact p.rep.step p.env s (p.md.apart p.env (by simpa using h))
theorem MdOk.of_nil : MdOk S B m ρ Fs H ρ' Fs' [] := by
  cases m with
  | bo => trivial
  | al T => intro a h; cases h
  | fr => exact ⟨List.nodup_nil, (by intro a h; cases h), (by intro _ _ a h; cases h)⟩
  | pu => rfl
/-- m stands above m' -/
def Md.le : Md → Md → Bool
  | .pu, _ => true
  | _, .bo => true
  | .fr, .fr => true
  | .al T, .al T' => T.all T'.contains
  | _, _ => false
theorem MdOk.le (h : MdOk S B m ρ Fs H ρ' Fs' F) (z : m.le m1 = true) : MdOk S B m1 ρ Fs H ρ' Fs' F := by
  cases m with
  | pu => rw [show F = [] from h]; exact MdOk.of_nil
  | bo => cases m1 <;> first | trivial | cases z
  | fr => cases m1 <;> first | trivial | exact h | cases z
  | al T =>
    cases m1 with
    | bo => trivial
    | al T' =>
      intro a ha
      rcases h a ha with p | ⟨i, hi, q⟩
      · exact .inl p
      · refine .inr ⟨i, ?_, q⟩
        have := List.all_eq_true.mp z i hi
        simpa using this
    | fr => cases z
    | pu => cases z
theorem XE.sub {W : WX} {e : Expr} {ev : M D} (h : XE X S W e m e1 ev) (z : m.le m1 = true := by rfl) (ze : (!e1 || e2) = true := by rfl) : XE X S W e m1 e2 ev := by
  obtain ⟨t, p, r⟩ := h.ex
  refine ⟨t, p, fun B ρ σ Fs H Q I he => r B ρ σ Fs H Q I (he.imp fun d ρ' _ k v H' Fs' F q => k v H' Fs' F ⟨q.env, q.rep, q.step.weak (fun z' => ?_), q.md.le z⟩)⟩
  subst z'; simpa using ze
/-- two modes together -/
def Md.join : Md → Md → Md
  | .pu, m => m
  | m, .pu => m
  | .fr, .fr => .fr
  | .al T, .al T' => .al (T ++ T')
  | _, _ => .bo
theorem MdOk.join {G : List Addr} {ρ2 : Env} {Fs2 : Nat → List Addr} {H2 : Hp} (I1 : EnvR S B ρ1 σ Fs1 H1) (s : Step S e1 ρ Fs H ρ1 Fs1 H1) (t : Step S e2 ρ1 Fs1 H1 ρ2 Fs2 H2) (h1 : MdOk S B m1 ρ Fs H ρ1 Fs1 F) (h2 : MdOk S B m2 ρ1 Fs1 H1 ρ2 Fs2 G)
    (rm : ∀ a ∈ F, ∃ u, H1 a = some u) (z : (!e2 || m1.sep) = true) : MdOk S B (m1.join m2) ρ Fs H ρ2 Fs2 (F ++ G) := by
  have frG : MdOk S B .fr ρ1 Fs1 H1 ρ2 Fs2 G → MdOk S B .fr ρ Fs H ρ2 Fs2 G := fun g => by
    refine ⟨g.1, fun a ha => ?_, g.2.2⟩
    rcases g.2.1 a ha with q | ⟨j, oj, mj⟩
    · exact .inl (s.dom a q)
    · exact s.grow j a oj mj
  have frF : MdOk S B .fr ρ Fs H ρ1 Fs1 F → MdOk S B .fr ρ Fs H ρ2 Fs2 F := fun g => by
    refine ⟨g.1, g.2.1, fun i oi a ha q => ?_⟩
    obtain ⟨u, hu⟩ := rm a ha
    rcases t.grow i a oi q with n | ⟨j, oj, mj⟩
    · rw [hu] at n; cases n
    · exact g.2.2 j oj a ha mj
  have alF : ∀ T, m1 = .al T → MdOk S B (.al T) ρ Fs H ρ2 Fs2 F := fun T e a ha => by
    subst e
    rcases h1 a ha with p | ⟨i, hi, oi, q⟩
    · exact .inl p
    · cases e2 with
      | false => obtain ⟨rfl, f, _⟩ := t.noeff rfl; exact .inr ⟨i, hi, oi, by rw [f i oi]; exact q⟩
      | true =>
        have : T = [] := by simpa [Md.sep] using z
        subst this; cases hi
  cases m1 with
  | pu =>
    rw [show F = [] from h1]
    cases m2 with
    | fr => exact frG h2
    | bo => trivial
    | al T => exact h2
    | pu => exact h2
  | bo => cases m2 <;> trivial
  | fr =>
    cases m2 with
    | pu => rw [show G = [] from h2, List.append_nil]; exact frF h1
    | fr =>
      have g := frG h2
      have f := frF h1
      refine ⟨List.nodup_append.mpr ⟨f.1, g.1, fun a ha b hb e => ?_⟩, fun a ha => ?_, fun i oi a ha => ?_⟩
      · subst e
        obtain ⟨u, hu⟩ := rm a ha
        rcases h2.2.1 a hb with n | ⟨j, oj, mj⟩
        · rw [hu] at n; cases n
        · exact h1.2.2 j oj a ha mj
      · rcases List.mem_append.mp ha with q | q
        · exact f.2.1 a q
        · exact g.2.1 a q
      · rcases List.mem_append.mp ha with q | q
        · exact f.2.2 i oi a q
        · exact g.2.2 i oi a q
    | bo => trivial
    | al T => trivial
  | al T =>
    cases m2 with
    | pu => rw [show G = [] from h2, List.append_nil]; exact alF T rfl
    | al T' =>
      intro a ha
      rcases List.mem_append.mp ha with q | q
      · rcases alF T rfl a q with p | ⟨i, hi, p⟩
        · exact .inl p
        · exact .inr ⟨i, List.mem_append_left _ hi, p⟩
      · rcases h2 a q with p | ⟨i, hi, p⟩
        · exact .inl p
        · exact .inr ⟨i, List.mem_append_right _ hi, p⟩
    | bo => trivial
    | fr => trivial
theorem Rep.some (r : Rep S.c B.R H d v F) : ∀ a ∈ F, ∃ u, H a = some u := fun a ha => let ⟨o, h, _⟩ := r.mem a ha; ⟨o, h⟩
theorem Reps.some {ds : List D} {vs : List V} (r : Reps S.c B.R H ds vs F) : ∀ a ∈ F, ∃ u, H a = some u := fun a ha => let ⟨o, h, _⟩ := r.mem a ha; ⟨o, h⟩


variable {W : WX}
/-! ### lists of values -/
def eaNil : M (List D) := fun ρ => .ok [] ρ
def eaCons (a : M D) (b : M (List D)) : M (List D) := fun ρ => bindR (a ρ) fun d ρ => bindR (b ρ) fun ds ρ => .ok (d :: ds) ρ
theorem xa_nil : XA X S W [] .pu false eaNil := ⟨⟨_, pa_nil, fun B ρ σ Fs H Q I h => h [] H Fs [] ⟨I, .nil, Step.refl, rfl⟩⟩, fun _ _ _ h => by cases h; rfl⟩
theorem bindR_ok {α β : Type} {r : Rs α} {f : α → Env → Rs β} {b : β} {ρ' : Env} (h : bindR r f = .ok b ρ') : ∃ a ρ1, r = .ok a ρ1 ∧ f a ρ1 = .ok b ρ' := by
  cases r with
  | ok a ρ1 => exact ⟨a, ρ1, rfl, h⟩
  | er c fs ρ1 => cases h
  | st => cases h
theorem ra_cons {ea : M D} {eb : M (List D)} {ta : TE} {tb : TA} (ra : RE S W m1 e1 ea ta) (rb : RA S W m2 e2 eb tb) (z : (!e2 || m1.sep) = true) : RA S W (m1.join m2) (e1 || e2) (eaCons ea eb) (tCons ta tb) := fun B ρ σ Fs H Q I h =>
  ra B ρ σ Fs H _ I (h.bind.imp fun d ρ1 _ h1 v H1 Fs1 F p1 => rb B ρ1 σ Fs1 H1 _ p1.env (h1.bind.imp fun ds ρ2 _ h2 vs H2 Fs2 G p2 =>
    h2 _ H2 Fs2 (F ++ G) ⟨p2.env, .cons (p1.over p2.step z) p2.rep, p1.step.trans p2.step, MdOk.join p1.env p1.step p2.step p1.md p2.md p1.rep.some z⟩))
theorem xa_cons {e : Expr} {es : List Expr} {ea : M D} {eb : M (List D)} (ha : XE X S W e m1 e1 ea) (hb : XA X S W es m2 e2 eb) (z : (!e2 || m1.sep) = true := by rfl) (hs : starEach (e :: es) X.env = (false, eval e X.env) :: starEach es X.env := by rfl) :
    XA X S W (e :: es) (m1.join m2) (e1 || e2) (eaCons ea eb) := by
  obtain ⟨ta, pa, ra⟩ := ha.ex
  obtain ⟨tb, pb, rb⟩ := hb.ex
  refine ⟨⟨_, pa_cons pa pb hs, ra_cons ra rb z⟩, fun ρ ds ρ' h => ?_⟩
  obtain ⟨d, ρ1, _, h⟩ := bindR_ok h
  obtain ⟨ds', ρ2, h2, h⟩ := bindR_ok h
  cases h
  simp [hb.len _ _ _ h2]
/-- an operation's value behind its operands -/
theorem VP.post {ds : List D} {vs : List V} {ρ2 : Env} {Fs2 : Nat → List Addr} {H2 H3 : Hp} {G : List Addr} (p : PostA S B m1 e1 σ ρ Fs H ρ2 ds vs H2 Fs2 G) (q : VP S.c B.R m H2 d v H3 F) : Post S B m e1 σ ρ Fs H ρ2 d v H3 Fs2 F where
  env := p.env.same q.same
  rep := q.rep
  step := by simpa using p.step.trans (e2 := false) (Step.of_same q.same)
  md := by
    have h := q.md
    cases m with
    | bo => trivial
    | al T => exact h.elim
    | pu => exact h
    | fr =>
      refine ⟨h.1, fun a ha => .inl (p.step.dom a (h.2 a ha)), fun i oi a ha n => ?_⟩
      obtain ⟨u, hu, _⟩ := p.env.mem oi n
      rw [h.2 a ha] at hu; cases hu

/-! ### constants, names -/
def eC (d : D) : M D := fun ρ => .ok d ρ
theorem re_c {t : TE} (hp : ∀ B : Base, ∀ H, Rep S.c B.R H d v []) (ht : ∀ σ H Q, Q v H → t σ H Q) : RE S W .pu false (eC d) t := fun B ρ σ Fs H Q I h =>
  ht _ _ _ (h v H Fs [] ⟨I, hp B H, Step.refl, MdOk.of_nil⟩)
theorem xe_int {i : Int} {j : Nat} {pos : Pos} : XE X S W (.Constant (.int i) j pos) .pu false (eC (.int i)) := ⟨_, pe_int, re_c (v := .int i) (fun _ _ => .int i) fun _ _ _ h => h⟩
theorem xe_bl {b : Bool} {j : Nat} {pos : Pos} : XE X S W (.Constant (.bool b) j pos) .pu false (eC (.bl b)) := ⟨_, pe_bl, re_c (v := .bl b) (fun _ _ => .bl b) fun _ _ _ h => h⟩
theorem xe_non {j : Nat} {pos : Pos} : XE X S W (.Constant .none j pos) .pu false (eC .non) := ⟨_, pe_non, re_c (v := .non) (fun _ _ => .non) fun _ _ _ h => h⟩
theorem xe_str {x : Str} {j : Nat} {pos : Pos} : XE X S W (.Constant (.str x) j pos) .pu false (eC (.str x)) := ⟨_, pe_str, re_c (v := .str x) (fun _ _ => .str x) fun _ _ _ h => h⟩
/-- a module's constant -/
theorem xe_glob {x : Str} {u : Value} {pos : Pos} (hg : Gl X x) (hm : X.mg x = .some u) (r : RelV v u) (hp : ∀ (R : Addr → Prop) H, Rep S.c R H d v []) (hd : (x == ("__debug__" : Str)) = false := by decide) : XE X S W (.Name x pos) .pu false (eC d) := ⟨_, pe_glob hg hm r hd, re_c (v := v) (fun B H => hp B.R H) fun _ _ _ h => h⟩

/-- slot i -/
def eV (i : Nat) : M D := fun ρ => match ρ[i]? with | some (some d) => .ok d ρ | _ => .st
def mdV (S : Sig) (i : Nat) : Md := match S.kd i with | .pl => .pu | .par => .al [] | .own => .al [i] | .io => .al [i] | .bw => .al []
theorem re_v {i : Nat} : RE S W (mdV S i) false (eV i) (tVar i) := fun B ρ σ Fs H Q I h => by
  unfold eV at h
  split at h
  · rename_i d e
    obtain ⟨v, hv, r⟩ := I.slot i d e
    refine ⟨v, hv, h v H Fs (Fs i) ⟨I, r, Step.refl, ?_⟩⟩
    unfold mdV
    cases q : S.kd i with
    | pl => exact I.pl i d e q
    | par => exact fun a ha => .inl (I.parP e q a ha)
    | own => exact fun a ha => .inr ⟨i, List.mem_singleton.mpr rfl, ⟨.inl q, d, e⟩, ha⟩
    | io => exact fun a ha => .inr ⟨i, List.mem_singleton.mpr rfl, ⟨.inr q, d, e⟩, ha⟩
    | bw => exact fun a ha => .inl (I.bw i d e q a ha)
  · exact h.elim
theorem xe_v (i : Nat) {x : Str} {pos : Pos} (hN : X.N[i]? = some x := by rfl) (hv : Vis X.env.scope x := by first | exact Or.inl rfl | exact Or.inr (Or.inl rfl) | exact Or.inr (Or.inr rfl)) (hd : (x == ("__debug__" : Str)) = false := by decide)
    (hcd : (x == ("__classdict__" : Str)) = false := by decide) : XE X S W (.Name x pos) (mdV S i) false (eV i) := ⟨_, pe_var hN hv hd hcd, re_v⟩
/-- the value of slot i is taken out -/
def eMv (i : Nat) : M D := fun ρ => match ρ[i]? with | some (some d) => .ok d (ρ.set i none) | _ => .st
theorem re_mv {i : Nat} (hi : S.kd i = .own) : RE S W .fr true (eMv i) (tVar i) := fun B ρ σ Fs H Q I h => by
  unfold eMv at h
  split at h
  · rename_i d e
    obtain ⟨v, hv, r⟩ := I.slot i d e
    have back : ∀ j d', (ρ.set i none)[j]? = some (some d') → ρ[j]? = some (some d') ∧ j ≠ i := fun j d' q => by
      by_cases hj : j = i
      · subst hj
        rw [List.getElem?_set_self (List.getElem?_eq_some_iff.mp e).1] at q; cases q
      · rw [List.getElem?_set_ne (Ne.symm hj)] at q; exact ⟨q, hj⟩
    have ob : ∀ j, Own S (ρ.set i none) j → Own S ρ j ∧ j ≠ i := fun j oj => by
      obtain ⟨d', q⟩ := oj.2
      exact ⟨⟨oj.1, d', (back j d' q).1⟩, (back j d' q).2⟩
    have oi : Own S ρ i := ⟨.inl hi, d, e⟩
    refine ⟨v, hv, h v H Fs (Fs i) ⟨⟨by simpa using I.len, fun j d' q => I.slot j d' (back j d' q).1, fun j d' q => I.pl j d' (back j d' q).1, fun j d' q => I.par j d' (back j d' q).1, fun j d' q => I.bw j d' (back j d' q).1, fun j oj => I.own j (ob j oj).1, fun j k oj ok => I.dis j k (ob j oj).1 (ob k ok).1, fun j oj => I.iov j (ob j oj).1, I.prot, I.pdom, I.tr⟩, r, ?_, ?_⟩⟩
    · exact ⟨fun _ _ q => .inl q, fun j a oj m => .inr ⟨j, (ob j oj).1, m⟩, fun _ q => q, fun q => by cases q⟩
    · exact ⟨(I.own i oi).1, fun a ha => .inr ⟨i, oi, ha⟩, fun j oj a ha q => I.dis i j oi (ob j oj).1 (Ne.symm (ob j oj).2) a ha q⟩
  · exact h.elim
theorem xe_mv (i : Nat) {x : Str} {pos : Pos} (hk : S.kd i = .own := by rfl) (hN : X.N[i]? = some x := by rfl) (hv : Vis X.env.scope x := by first | exact Or.inl rfl | exact Or.inr (Or.inl rfl) | exact Or.inr (Or.inr rfl)) (hd : (x == ("__debug__" : Str)) = false := by decide)
    (hcd : (x == ("__classdict__" : Str)) = false := by decide) : XE X S W (.Name x pos) .fr true (eMv i) := ⟨_, pe_var hN hv hd hcd, re_mv hk⟩
/-- a dynamic look: nothing of the value can change -/
def ePure (a : M D) : M D := fun ρ => bindR (a ρ) fun d ρ => if pureD d then .ok d ρ else .st
theorem XE.pure {e : Expr} {ev : M D} (h : XE X S W e m e1 ev) : XE X S W e .pu e1 (ePure ev) := by
  obtain ⟨t, p, r⟩ := h.ex
  refine ⟨t, p, fun B ρ σ Fs H Q I he => r B ρ σ Fs H Q I (he.bind.imp fun d ρ' _ k v H' Fs' F q => ?_)⟩
  split at k
  · rename_i hp
    exact k v H' Fs' F ⟨q.env, q.rep, q.step, q.rep.pure hp⟩
  · exact k.elim

/-! ### operations -/
def lift (o : Option D) (ρ : Env) : Rs D := match o with | some d => .ok d ρ | none => .st
theorem Wn.lift {Er : String → List (Str × D) → Env → Prop} {P : D → Env → Prop} {o : Option D} (h : Wn Er P (lift o ρ)) : ∃ d, o = some d ∧ P d ρ := by
  cases o with
  | none => exact h.elim
  | some d => exact ⟨d, rfl, h⟩
def eBin (g : D → D → Option D) (a b : M D) : M D := fun ρ => bindR (a ρ) fun x ρ => bindR (b ρ) fun y ρ => lift (g x y) ρ
theorem re_bin {g : D → D → Option D} {r : R2} {ea eb : M D} {ta tb : TE} (hg : Op2 S.c r g m) (ra : RE S W m1 e1 ea ta) (rb : RE S W m2 e2 eb tb) (z : (!e2 || m1.sep) = true) : RE S W m (e1 || e2) (eBin g ea eb) (tOp r ta tb) := fun B ρ σ Fs H Q I h =>
  ra B ρ σ Fs H _ I (h.bind.imp fun d1 ρ1 _ h1 x H1 Fs1 F p1 => rb B ρ1 σ Fs1 H1 _ p1.env (h1.bind.imp fun d2 ρ2 _ h2 y H2 Fs2 G p2 => by
    obtain ⟨d, hd, k⟩ := h2.lift
    refine hg B.R H2 d1 d2 d x y F G _ (p1.over p2.step z) p2.rep hd fun v H3 F3 q => k v H3 Fs2 F3 ?_
    exact VP.post (ds := []) (vs := []) (G := []) (m1 := .bo) ⟨p2.env, .nil, p1.step.trans p2.step, trivial⟩ q))
theorem xe_bin {op : Operator} {g : D → D → Option D} {r : R2} {a b : Expr} {ea eb : M D} {pos : Pos} (ho : OpR X (binaryOp op) r) (hg : Op2 S.c r g m) (ha : XE X S W a m1 e1 ea) (hb : XE X S W b m2 e2 eb) (z : (!e2 || m1.sep) = true := by rfl) :
    XE X S W (.BinOp a op b pos) m (e1 || e2) (eBin g ea eb) := by
  obtain ⟨ta, pa, ra⟩ := ha.ex
  obtain ⟨tb, pb, rb⟩ := hb.ex
  exact ⟨_, pe_op ho pa pb, re_bin hg ra rb z⟩
theorem xe_cmp {op : CmpOp} {g : D → D → Option D} {r : R2} {a b : Expr} {ea eb : M D} {pos : Pos} (ho : OpR X (compareOp op) r) (hg : Op2 S.c r g m) (ha : XE X S W a m1 e1 ea) (hb : XE X S W b m2 e2 eb) (hm : behindInMarks op b = false := by rfl) (z : (!e2 || m1.sep) = true := by rfl) :
    XE X S W (.Compare a [op] [b] pos) m (e1 || e2) (eBin g ea eb) := by
  obtain ⟨ta, pa, ra⟩ := ha.ex
  obtain ⟨tb, pb, rb⟩ := hb.ex
  exact ⟨_, pe_cmpR ho pa pb hm, re_bin hg ra rb z⟩
def eUn (g : D → Option D) (a : M D) : M D := fun ρ => bindR (a ρ) fun x ρ => lift (g x) ρ
theorem re_un {g : D → Option D} {r : V → Hp → VK → Prop} {ea : M D} {ta : TE} (hg : Op1 S.c r g m) (ra : RE S W m1 e1 ea ta) : RE S W m e1 (eUn g ea) (tUn r ta) := fun B ρ σ Fs H Q I h =>
  ra B ρ σ Fs H _ I (h.bind.imp fun d1 ρ1 _ h1 x H1 Fs1 F p1 => by
    obtain ⟨d, hd, k⟩ := h1.lift
    refine hg B.R H1 d1 d x F _ p1.rep hd fun v H3 F3 q => k v H3 Fs1 F3 ?_
    exact VP.post (ds := []) (vs := []) (G := []) (m1 := .bo) ⟨p1.env, .nil, p1.step, trivial⟩ q)
theorem xe_un {op : UnaryOp} {g : D → Option D} {r : V → Hp → VK → Prop} {a : Expr} {ea : M D} {pos : Pos} (ho : UnR X (unaryOp op) r) (hg : Op1 S.c r g m) (ha : XE X S W a m1 e1 ea) : XE X S W (.UnaryOp op a pos) m e1 (eUn g ea) := by
  obtain ⟨ta, pa, ra⟩ := ha.ex
  exact ⟨_, pe_un ho pa, re_un hg ra⟩
/-- a call of a builtin by its values -/
def eN (g : List D → Option D) (a : M (List D)) : M D := fun ρ => bindR (a ρ) fun ds ρ => lift (g ds) ρ
theorem re_n {g : List D → Option D} {r : List V → Hp → VK → Prop} {ea : M (List D)} {ta : TA} (hg : OpN S.c r g m) (ra : RA S W m1 e1 ea ta) : RE S W m e1 (eN g ea) (tCB r ta) := fun B ρ σ Fs H Q I h =>
  ra B ρ σ Fs H _ I (h.bind.imp fun d1 ρ1 _ h1 x H1 Fs1 F p1 => by
    obtain ⟨d, hd, k⟩ := h1.lift
    exact hg B.R H1 d1 d x F _ p1.rep hd fun v H3 F3 q => k v H3 Fs1 F3 (VP.post p1 q))
theorem xe_callB {id : String} {g : List D → Option D} {r : List V → Hp → VK → Prop} {x : Str} {e : Expr} {es : List Expr} {ea : M (List D)} {p pos : Pos} (ho : CallR X (.builtin id) r) (hg : OpN S.c r g m) (ha : XA X S W (e :: es) m1 e1 ea) (hx : Gl X x) (hm : X.mg x = none) (hv : bootBuiltins x = some (.builtin id))
    (hn : x ≠ "__name__" := by decide) (hdb : (x == ("__debug__" : Str)) = false := by decide) (he : starEach (e :: es) X.env = (false, eval e X.env) :: starEach es X.env := by rfl) (hpl : (backTo pos (starEach es X.env)).any (·.1) = false := by rfl) :
    XE X S W (.Call (.Name x p) (e :: es) [] pos) m e1 (eN g ea) := by
  obtain ⟨ta, pa, ra⟩ := ha.ex
  exact ⟨_, pe_callB ho hx hm hv pa hn hdb he hpl, re_n hg ra⟩
theorem xe_callTy {T : String} {g : List D → Option D} {r : List V → Hp → VK → Prop} {x : Str} {e : Expr} {es : List Expr} {ea : M (List D)} {p pos : Pos} (ho : CallR X (.type T) r) (hg : OpN S.c r g m) (ha : XA X S W (e :: es) m1 e1 ea) (hx : Gl X x) (hm : X.mg x = none) (hv : bootBuiltins x = some (.type T))
    (hn : x ≠ "__name__" := by decide) (hdb : (x == ("__debug__" : Str)) = false := by decide) (he : starEach (e :: es) X.env = (false, eval e X.env) :: starEach es X.env := by rfl) (hpl : (backTo pos (starEach es X.env)).any (·.1) = false := by rfl) :
    XE X S W (.Call (.Name x p) (e :: es) [] pos) m e1 (eN g ea) := by
  obtain ⟨ta, pa, ra⟩ := ha.ex
  exact ⟨_, pe_callTy ho hx hm hv pa hn hdb he hpl, re_n hg ra⟩
/-! ### displays -/
/-- a tuple whose parts cannot change -/
def eTup (a : M (List D)) : M D := fun ρ => bindR (a ρ) fun ds ρ => if pureDs ds && decide (ds.length ≤ sizeLine) then .ok (.tup ds) ρ else .st
theorem same_upd {a : Addr} {o : HO} (h : H a = none) : Same H (upd H a o) := fun b u q => by rw [upd_ne (ne_of_none q h)]; exact q
theorem xe_tup {es : List Expr} {ea : M (List D)} {x1 : Nat} {pos : Pos} (ha : XA X S W es m1 e1 ea) : XE X S W (.Tuple es x1 pos) .pu e1 (eTup ea) := by
  obtain ⟨ta, pa, ra⟩ := ha.ex
  refine ⟨_, pe_tup pa, fun B ρ σ Fs H Q I h => ra B ρ σ Fs H _ I (h.bind.imp fun ds ρ1 _ h1 vs H1 Fs1 F p1 => ?_)⟩
  split at h1
  · rename_i hc
    simp only [Bool.and_eq_true, decide_eq_true_eq] at hc
    have hl : vs.length ≤ sizeLine := by rw [← p1.rep.length]; exact hc.2
    refine ⟨hl, fun p hp => h1 _ _ Fs1 [] (VP.post p1 ⟨same_upd hp, ?_, rfl⟩)⟩
    have e := p1.rep.pure hc.1
    subst e
    exact .tup (SqT.of upd_same) hl (p1.rep.same (same_upd hp))
  · exact h1.elim
/-- a tuple of anything -/
def eTupX (a : M (List D)) : M D := fun ρ => bindR (a ρ) fun ds ρ => if ds.length ≤ sizeLine then .ok (.tup ds) ρ else .st
theorem Post.newA {ds : List D} {vs : List V} {ρ2 : Env} {Fs2 : Nat → List Addr} {H2 : Hp} {p : Addr} {o : HO} (q : PostA S B m e1 σ ρ Fs H ρ2 ds vs H2 Fs2 F) (hp : H2 p = none) (r : Rep S.c B.R (upd H2 p o) d v F) : Post S B m e1 σ ρ Fs H ρ2 d v (upd H2 p o) Fs2 F :=
  ⟨q.env.same (same_upd hp), r, by simpa using q.step.trans (e2 := false) (Step.of_same (same_upd hp)), q.md⟩
theorem xe_tupX {es : List Expr} {ea : M (List D)} {x1 : Nat} {pos : Pos} (ha : XA X S W es m1 e1 ea) : XE X S W (.Tuple es x1 pos) m1 e1 (eTupX ea) := by
  obtain ⟨ta, pa, ra⟩ := ha.ex
  refine ⟨_, pe_tup pa, fun B ρ σ Fs H Q I h => ra B ρ σ Fs H _ I (h.bind.imp fun ds ρ1 _ h1 vs H1 Fs1 F p1 => ?_)⟩
  split at h1
  · rename_i hc
    have hl : vs.length ≤ sizeLine := by rw [← p1.rep.length]; exact hc
    exact ⟨hl, fun p hp => h1 _ _ Fs1 F (Post.newA p1 hp (.tup (SqT.of upd_same) hl (p1.rep.same (same_upd hp))))⟩
  · exact h1.elim
/-- a list whose parts cannot change -/
def eLst (a : M (List D)) : M D := fun ρ => bindR (a ρ) fun ds ρ => if pureDs ds && decide (ds.length ≤ sizeLine) then .ok (.lst ds) ρ else .st
theorem xe_lst {es : List Expr} {ea : M (List D)} {pos : Pos} (ha : XA X S W es m1 e1 ea) : XE X S W (.List es pos) .fr e1 (eLst ea) := by
  obtain ⟨ta, pa, ra⟩ := ha.ex
  refine ⟨_, pe_lst pa, fun B ρ σ Fs H Q I h => ra B ρ σ Fs H _ I (h.bind.imp fun ds ρ1 _ h1 vs H1 Fs1 F p1 => ?_)⟩
  split at h1
  · rename_i hc
    simp only [Bool.and_eq_true, decide_eq_true_eq] at hc
    have hl : vs.length ≤ sizeLine := by rw [← p1.rep.length]; exact hc.2
    refine ⟨hl, fun p hp => h1 _ _ Fs1 [p] (VP.post p1 ⟨same_upd hp, ?_, by simp, by intro a ha; simp at ha; rw [ha]; exact hp⟩)⟩
    have e := p1.rep.pure hc.1
    subst e
    exact .lst upd_same hl (p1.rep.same (same_upd hp))
  · exact h1.elim
/-- a list of anything: new, or anyhow -/
def eLstX (a : M (List D)) : M D := fun ρ => bindR (a ρ) fun ds ρ => if ds.length ≤ sizeLine then .ok (.lst ds) ρ else .st
def Md.lstX : Md → Md | .fr => .fr | .pu => .fr | _ => .bo
theorem xe_lstX {es : List Expr} {ea : M (List D)} {pos : Pos} (ha : XA X S W es m1 e1 ea) : XE X S W (.List es pos) m1.lstX e1 (eLstX ea) := by
  obtain ⟨ta, pa, ra⟩ := ha.ex
  refine ⟨_, pe_lst pa, fun B ρ σ Fs H Q I h => ra B ρ σ Fs H _ I (h.bind.imp fun ds ρ1 _ h1 vs H1 Fs1 F p1 => ?_)⟩
  split at h1
  · rename_i hc
    have hl : vs.length ≤ sizeLine := by rw [← p1.rep.length]; exact hc
    refine ⟨hl, fun p hp => h1 _ _ Fs1 (p :: F) ⟨p1.env.same (same_upd hp), .lst upd_same hl (p1.rep.same (same_upd hp)), by simpa using p1.step.trans (e2 := false) (Step.of_same (same_upd hp)), ?_⟩⟩
    have nm : p ∉ F := fun z => by obtain ⟨u, hu⟩ := p1.rep.some p z; rw [hp] at hu; cases hu
    have go : MdOk S B .fr ρ Fs H ρ1 Fs1 F → MdOk S B .fr ρ Fs H ρ1 Fs1 (p :: F) := fun g => by
      refine ⟨List.nodup_cons.mpr ⟨nm, g.1⟩, fun a ha => ?_, fun i oi a ha => ?_⟩
      · rcases List.mem_cons.mp ha with rfl | ha
        · exact .inl (p1.step.dom _ hp)
        · exact g.2.1 a ha
      · rcases List.mem_cons.mp ha with rfl | ha
        · exact fun z => by obtain ⟨u, hu, _⟩ := p1.env.mem oi z; rw [hp] at hu; cases hu
        · exact g.2.2 i oi a ha
    cases m1 with
    | fr => exact go p1.md
    | pu => exact go (p1.md.le (m1 := .fr) rfl)
    | bo => trivial
    | al T => trivial
  · exact h1.elim
/-! ### tests -/
/-- a value that is True or False, as a test -/
def ebV (a : M D) : M Bool := fun ρ => bindR (a ρ) fun d ρ => match d with | .bl b => .ok b ρ | _ => .st
theorem Rep.bl_inv {R : Addr → Prop} {b : Bool} {x : V} (h : Rep S.c R H (.bl b) x F) : x = .bl b := by cases h; rfl
theorem rt_of {ea : M D} {ta : TE} {t : TT} (ra : RE S W m e1 ea ta) (ht : ∀ σ H Q, ta σ H (fun x H' => ∃ k, x = .bl k ∧ Q k H') → t σ H Q) : RT S W e1 (ebV ea) t := fun B ρ σ Fs H Q I h =>
  ht _ _ _ (ra B ρ σ Fs H _ I (h.bind.imp fun d ρ' _ h1 v H' Fs' F p => by
    cases d with
    | bl b => exact ⟨b, p.rep.bl_inv, h1 H' Fs' p.env p.step⟩
    | _ => exact h1.elim))
theorem xt_cmp {op : CmpOp} {g : D → D → Option D} {r : R2} {a b : Expr} {ea eb : M D} {pos : Pos} (ho : OpR X (compareOp op) r) (hg : Op2 S.c r g m) (ha : XE X S W a m1 e1 ea) (hb : XE X S W b m2 e2 eb) (hm : behindInMarks op b = false := by rfl) (z : (!e2 || m1.sep) = true := by rfl) :
    XT X S W (.Compare a [op] [b] pos) (e1 || e2) (ebV (eBin g ea eb)) := by
  obtain ⟨ta, pa, ra⟩ := ha.ex
  obtain ⟨tb, pb, rb⟩ := hb.ex
  exact ⟨_, pt_cmpR ho pa pb hm, rt_of (re_bin hg ra rb z) fun σ H Q h => h⟩
def ebAnd (a b : M Bool) : M Bool := fun ρ => bindR (a ρ) fun c ρ => if c then b ρ else .ok false ρ
def ebOr (a b : M Bool) : M Bool := fun ρ => bindR (a ρ) fun c ρ => if c then .ok true ρ else b ρ
def ebNot (a : M Bool) : M Bool := fun ρ => bindR (a ρ) fun c ρ => .ok (!c) ρ
theorem rt_and {a b : M Bool} {ta tb : TT} (ra : RT S W e1 a ta) (rb : RT S W e2 b tb) : RT S W (e1 || e2) (ebAnd a b) (tAnd ta tb) := fun B ρ σ Fs H Q I h =>
  ra B ρ σ Fs H _ I (h.bind.imp fun c ρ1 _ h1 H1 Fs1 I1 s1 => by
    cases c with
    | true => exact iteT (rb B ρ1 σ Fs1 H1 _ I1 (h1.imp fun c' ρ2 _ k H2 Fs2 I2 s2 => k H2 Fs2 I2 (s1.trans s2)))
    | false => exact iteF (h1 H1 Fs1 I1 (s1.weak fun z => by simp at z; exact z.1)))
theorem rt_or {a b : M Bool} {ta tb : TT} (ra : RT S W e1 a ta) (rb : RT S W e2 b tb) : RT S W (e1 || e2) (ebOr a b) (tOr ta tb) := fun B ρ σ Fs H Q I h =>
  ra B ρ σ Fs H _ I (h.bind.imp fun c ρ1 _ h1 H1 Fs1 I1 s1 => by
    cases c with
    | false => exact iteF (rb B ρ1 σ Fs1 H1 _ I1 (h1.imp fun c' ρ2 _ k H2 Fs2 I2 s2 => k H2 Fs2 I2 (s1.trans s2)))
    | true => exact iteT (h1 H1 Fs1 I1 (s1.weak fun z => by simp at z; exact z.1)))
theorem rt_not {a : M Bool} {ta : TT} (ra : RT S W e1 a ta) : RT S W e1 (ebNot a) (tNot ta) := fun B ρ σ Fs H Q I h =>
  ra B ρ σ Fs H _ I (h.bind.imp fun c ρ1 _ h1 H1 Fs1 I1 s1 => h1 H1 Fs1 I1 s1)
variable {a b : Expr} {rest : List Expr} {ea eb : M Bool} {pos : Pos}
theorem xw_and1 (ha : XT X S W a e1 ea) : XW X S W (.BoolOp .And [a] pos) e1 ea := let ⟨t, p, r⟩ := ha.ex; ⟨t, pw_and1 p, r⟩
theorem xw_or1 (ha : XT X S W a e1 ea) : XW X S W (.BoolOp .Or [a] pos) e1 ea := let ⟨t, p, r⟩ := ha.ex; ⟨t, pw_or1 p, r⟩
theorem xw_and (ha : XT X S W a e1 ea) (hb : XW X S W (.BoolOp .And (b :: rest) pos) e2 eb) : XW X S W (.BoolOp .And (a :: b :: rest) pos) (e1 || e2) (ebAnd ea eb) := let ⟨_, p, r⟩ := ha.ex; let ⟨_, p', r'⟩ := hb.ex; ⟨_, pw_and p p', rt_and r r'⟩
theorem xw_or (ha : XT X S W a e1 ea) (hb : XW X S W (.BoolOp .Or (b :: rest) pos) e2 eb) : XW X S W (.BoolOp .Or (a :: b :: rest) pos) (e1 || e2) (ebOr ea eb) := let ⟨_, p, r⟩ := ha.ex; let ⟨_, p', r'⟩ := hb.ex; ⟨_, pw_or p p', rt_or r r'⟩
theorem XW.pt {e : Expr} {ev : M Bool} (h : XW X S W e e1 ev) : XT X S W e e1 ev := let ⟨t, p, r⟩ := h.ex; ⟨t, p.pt, r⟩
theorem xt_not (ha : XT X S W a e1 ea) : XT X S W (.UnaryOp .Not a pos) e1 (ebNot ea) := let ⟨_, p, r⟩ := ha.ex; ⟨_, pt_not p, rt_not r⟩
/-- truth -/
def truD : D → Option Bool
  | .non => some false
  | .bl b => some b
  | .int i => some (i != 0)
  | .str x => if x.length ≤ sizeLine then some (x.length != 0) else none
  | .tup ds => some (!ds.isEmpty)
  | .lst ds => some (!ds.isEmpty)
  | .scr ds => some (!ds.isEmpty)
  | .dic kvs => some (!kvs.isEmpty)
  | _ => none
def ebT (a : M D) : M Bool := fun ρ => bindR (a ρ) fun d ρ => match truD d with | some b => .ok b ρ | none => .st
theorem Reps.empty {R : Addr → Prop} {ds : List D} {vs : List V} (h : Reps S.c R H ds vs F) : vs.isEmpty = ds.isEmpty := by cases h <;> rfl
theorem tru_ok' {R : Addr → Prop} {c : Bool} (r : Rep S.c R H d v F) (h : truD d = some c) : TruV S.c.K v H c := by
  cases r with
  | non => simp [truD] at h; exact h.symm ▸ rfl
  | bl b => simp [truD] at h; exact h.symm ▸ rfl
  | int i => simp [truD] at h; subst h; rfl
  | str x =>
    simp only [truD] at h
    split at h
    · rename_i hl
      simp at h
      subst h
      refine ⟨hl, ?_⟩
      rw [Bool.eq_iff_iff]
      simp
    · cases h
  | tup q l r => simp [truD] at h; exact .inr (.inl ⟨_, q, by rw [Reps.empty r]; simp [h]⟩)
  | lst q l r => simp [truD] at h; exact .inl ⟨_, SqL.of q, by rw [Reps.empty r]; simp [h]⟩
  | scr q l r => simp [truD] at h; exact .inl ⟨_, q.toL, by rw [Reps.empty r]; simp [h]⟩
  | dic q l e r =>
    simp [truD] at h
    refine .inr (.inr ⟨_, q, ?_⟩)
    rename_i kvs a ws G
    have : ws.length = kvs.length := by simpa using congrArg List.length e
    have e2 : ws.isEmpty = kvs.isEmpty := by cases ws <;> cases kvs <;> first | rfl | simp at this
    rw [e2, h]; simp
  | ins => simp [truD] at h
  | obj => simp [truD] at h
theorem xt_truth (hk : X.K = S.c.K) {ev : M D} (ha : XE X S W a m e1 ev) (he : ∀ whole, isTrue a X.env whole = (do let v ← whole; standAt a.pos; holding [v] (truthy v)) := by intro _; rfl) : XT X S W a e1 (ebT ev) := by
  obtain ⟨t, p, r⟩ := ha.ex
  refine ⟨_, pt_truth p he, fun B ρ σ Fs H Q I h => r B ρ σ Fs H _ I (h.bind.imp fun d ρ1 _ h1 v H' Fs' F q => ?_)⟩
  split at h1
  · rename_i c hc
    exact ⟨c, by rw [hk]; exact tru_ok' q.rep hc, h1 H' Fs' q.env q.step⟩
  · exact h1.elim
/-! ### and, or, not as values; a if c else b -/
def eAndV (a b : M D) : M D := fun ρ => bindR (a ρ) fun d ρ => match d with | .bl true => b ρ | .bl false => .ok (.bl false) ρ | _ => .st
def eOrV (a b : M D) : M D := fun ρ => bindR (a ρ) fun d ρ => match d with | .bl true => .ok (.bl true) ρ | .bl false => b ρ | _ => .st
def eNotV (a : M D) : M D := fun ρ => bindR (a ρ) fun d ρ => match d with | .bl b => .ok (.bl (!b)) ρ | _ => .st
theorem xe_one {op : BoolOp} {ev : M D} (ha : XE X S W a m e1 ev) : XE X S W (.BoolOp op [a] pos) m e1 ev := let ⟨_, p, r⟩ := ha.ex; ⟨_, pe_one p, r⟩
theorem Post.bl {c : Bool} {e : Bool} (I : EnvR S B ρ' σ Fs' H') (s : Step S e ρ Fs H ρ' Fs' H') : Post S B m e σ ρ Fs H ρ' (.bl c) (.bl c) H' Fs' [] := ⟨I, .bl c, s, MdOk.of_nil⟩
theorem Post.seq {e2 : Bool} (s1 : Step S e1 ρ Fs H ρ1 Fs1 H1) (q : Post S B m e2 σ ρ1 Fs1 H1 ρ' d v H' Fs' F) : Post S B m (e1 || e2) σ ρ Fs H ρ' d v H' Fs' F := by
  refine ⟨q.env, q.rep, s1.trans q.step, ?_⟩
  have h := q.md
  cases m with
  | fr =>
    refine ⟨h.1, fun a ha => ?_, h.2.2⟩
    rcases h.2.1 a ha with n | ⟨j, oj, mj⟩
    · exact .inl (s1.dom a n)
    · exact s1.grow j a oj mj
  | bo => trivial
  | al T => exact h
  | pu => exact h
theorem xe_and {ev1 ev2 : M D} (ha : XE X S W a m1 e1 ev1) (hb : XE X S W (.BoolOp .And (b :: rest) pos) m e2 ev2) : XE X S W (.BoolOp .And (a :: b :: rest) pos) m (e1 || e2) (eAndV ev1 ev2) := by
  obtain ⟨ta, pa, ra⟩ := ha.ex
  obtain ⟨tb, pb, rb⟩ := hb.ex
  refine ⟨_, pe_and pa pb, fun B ρ σ Fs H Q I h => ra B ρ σ Fs H _ I (h.bind.imp fun d ρ1 _ h1 v H1 Fs1 F p => ?_)⟩
  split at h1
  · exact ⟨true, p.rep.bl_inv, iteT (rb B ρ1 σ Fs1 H1 _ p.env (h1.imp fun d2 ρ2 _ k v2 H2 Fs2 G q => k v2 H2 Fs2 G (Post.seq p.step q)))⟩
  · exact ⟨false, p.rep.bl_inv, iteF (h1 _ H1 Fs1 [] (Post.bl p.env (p.step.weak fun z => by simp at z; exact z.1)))⟩
  · exact h1.elim
theorem xe_or {ev1 ev2 : M D} (ha : XE X S W a m1 e1 ev1) (hb : XE X S W (.BoolOp .Or (b :: rest) pos) m e2 ev2) : XE X S W (.BoolOp .Or (a :: b :: rest) pos) m (e1 || e2) (eOrV ev1 ev2) := by
  obtain ⟨ta, pa, ra⟩ := ha.ex
  obtain ⟨tb, pb, rb⟩ := hb.ex
  refine ⟨_, pe_or pa pb, fun B ρ σ Fs H Q I h => ra B ρ σ Fs H _ I (h.bind.imp fun d ρ1 _ h1 v H1 Fs1 F p => ?_)⟩
  split at h1
  · exact ⟨true, p.rep.bl_inv, iteT (h1 _ H1 Fs1 [] (Post.bl p.env (p.step.weak fun z => by simp at z; exact z.1)))⟩
  · exact ⟨false, p.rep.bl_inv, iteF (rb B ρ1 σ Fs1 H1 _ p.env (h1.imp fun d2 ρ2 _ k v2 H2 Fs2 G q => k v2 H2 Fs2 G (Post.seq p.step q)))⟩
  · exact h1.elim
theorem xe_not {ev1 : M D} (ha : XE X S W a m1 e1 ev1) : XE X S W (.UnaryOp .Not a pos) .pu e1 (eNotV ev1) := by
  obtain ⟨ta, pa, ra⟩ := ha.ex
  refine ⟨_, pe_not pa, fun B ρ σ Fs H Q I h => ra B ρ σ Fs H _ I (h.bind.imp fun d ρ1 _ h1 v H1 Fs1 F p => ?_)⟩
  split at h1
  · exact ⟨_, p.rep.bl_inv, h1 _ H1 Fs1 [] (Post.bl p.env p.step)⟩
  · exact h1.elim
def eIf (c : M Bool) (a b : M D) : M D := fun ρ => bindR (c ρ) fun k ρ => if k then a ρ else b ρ
theorem Post.up {e e' : Bool} (q : Post S B m e σ ρ Fs H ρ' d v H' Fs' F) (h : m.le m1 = true) (he : e' = false → e = false) : Post S B m1 e' σ ρ Fs H ρ' d v H' Fs' F := ⟨q.env, q.rep, q.step.weak he, q.md.le h⟩
theorem xe_ifExp {c : Expr} {ev1 ev2 : M D} {e3 : Bool} (hc : XT X S W c e3 ea) (ha : XE X S W a m e1 ev1) (hb : XE X S W b m e2 ev2) : XE X S W (.IfExp c a b pos) m (e3 || (e1 || e2)) (eIf ea ev1 ev2) := by
  obtain ⟨tc, pc, rc⟩ := hc.ex
  obtain ⟨ta, pa, ra⟩ := ha.ex
  obtain ⟨tb, pb, rb⟩ := hb.ex
  refine ⟨_, pe_ifExp pc pa pb, fun B ρ σ Fs H Q I h => rc B ρ σ Fs H _ I (h.bind.imp fun k ρ1 _ h1 H1 Fs1 I1 s1 => ?_)⟩
  have le : m.le m = true := by cases m <;> simp [Md.le]
  cases k with
  | true => exact iteT (ra B ρ1 σ Fs1 H1 _ I1 (h1.imp fun d2 ρ2 _ k v2 H2 Fs2 G q => k v2 H2 Fs2 G ((Post.seq s1 q).up le fun z => by simp at z; simp [z])))
  | false => exact iteF (rb B ρ1 σ Fs1 H1 _ I1 (h1.imp fun d2 ρ2 _ k v2 H2 Fs2 G q => k v2 H2 Fs2 G ((Post.seq s1 q).up le fun z => by simp at z; simp [z])))
end
end EL

namespace EL
open PySem PySem.Spec PyProof.Rows
open L2 hiding XE
/-! ### what a def promises -/
inductive Fr where
  | ok (d : D) (o : D)
  | er (c : String) (fs : List (Str × D)) (o : D)
  | st
/-- the parts of several values, one by one -/
structure RepL (S : Core) (R : Addr → Prop) (H : Hp) (ds : List D) (vs : List V) (Fs : Nat → List Addr) : Prop where
  len : ds.length = vs.length
  get : ∀ i d, ds[i]? = some d → ∃ v, vs[i]? = some v ∧ Rep S R H d v (Fs i)
structure FArgs (S : Core) (R : Addr → Prop) (io : Option Nat) (H : Hp) (ds : List D) (vs : List V) (Fs : Nat → List Addr) : Prop where
  rep : RepL S R H ds vs Fs
  own : ∀ i ∈ io, i < ds.length ∧ (Fs i).Nodup ∧ ∀ j, j < ds.length → j ≠ i → ∀ a ∈ Fs i, a ∉ Fs j
structure FEnd (S : Core) (R : Addr → Prop) (io : Option Nat) (H : Hp) (vs : List V) (Fs : Nat → List Addr) (o : D) (H' : Hp) (Fo : List Addr) : Prop where
  chg : ∀ a u, H a = some u → H' a = some u ∨ ∃ i ∈ io, a ∈ Fs i
  dom : ∀ a, H' a = none → H a = none
  out : ∀ i ∈ io, ∃ w, vs[i]? = some w ∧ Rep S R H' o w Fo ∧ Fo.Nodup ∧ ∀ a ∈ Fo, H a = none ∨ a ∈ Fs i
def FMd (io : Option Nat) (rm : Md) (H : Hp) (Fs : Nat → List Addr) (Fo G : List Addr) : Prop := match rm with
  | .pu => G = []
  | .fr => G.Nodup ∧ (∀ a ∈ G, H a = none ∨ ∃ i ∈ io, a ∈ Fs i) ∧ ∀ i ∈ io, ∀ a ∈ G, a ∉ Fo
  | .bo => True
  | .al _ => False
def FWn (S : Core) (R : Addr → Prop) (io : Option Nat) (rm : Md) (H : Hp) (vs : List V) (Fs : Nat → List Addr) (Q : VK) (E : XK) : Fr → Prop
  | .ok d o => ∀ v H' Fo G, FEnd S R io H vs Fs o H' Fo → Rep S R H' d v G → FMd io rm H Fs Fo G → Q v H'
  | .er c fs o => ∀ dd H' Fo, FEnd S R io H vs Fs o H' Fo → XdOk S R H' fs dd → E (.ref (S.cm c)) dd H'
  | .st => False
/-- the promise: F tells what comes of such arguments; n of them -/
def spD (S : Core) (n : Nat) (io : Option Nat) (rm : Md) (F : List D → Fr) : Sp := fun vs H Q E =>
  ∃ (R : Addr → Prop) (ds : List D) (Fs : Nat → List Addr), ds.length = n ∧ FArgs S R io H ds vs Fs ∧ FWn S R io rm H vs Fs Q E (F ds)
theorem spD.len {S : Core} {n : Nat} {io : Option Nat} {rm : Md} {F : List D → Fr} {vs : List V} {H : Hp} {Q : VK} {E : XK} (h : spD S n io rm F vs H Q E) : vs.length = n := by
  obtain ⟨R, ds, Fs, hn, ha, _⟩ := h
  rw [← ha.rep.len]; exact hn
/-- the same def told otherwise -/
theorem spD.imp {S : Core} {n : Nat} {io : Option Nat} {rm : Md} {F G : List D → Fr} (k : ∀ ds, ds.length = n → G ds ≠ .st → F ds = G ds) {vs : List V} {H : Hp} {Q : VK} {E : XK} (h : spD S n io rm G vs H Q E) : spD S n io rm F vs H Q E := by
  obtain ⟨R, ds, Fs, hn, ha, hw⟩ := h
  refine ⟨R, ds, Fs, hn, ha, ?_⟩
  have ne : G ds ≠ .st := fun z => by rw [z] at hw; exact hw
  rw [k ds hn ne]; exact hw

section
variable {X : Cx} {S : Sig} {B : Base} {W : WX} {m m1 m2 rm : Md} {e1 e2 : Bool} {σ : L2.St} {ρ ρ1 ρ' : Env} {Fs Fs1 Fs' : Nat → List Addr} {H H1 H' : Hp} {d : D} {v : V} {F : List Addr}
theorem Reps.split {C : Core} {R : Addr → Prop} {ds : List D} {vs : List V} {F : List Addr} : Reps C R H ds vs F → ∃ Fs : Nat → List Addr, RepL C R H ds vs Fs ∧ ∀ i, ∀ a ∈ Fs i, a ∈ F
  | .nil => ⟨fun _ => [], ⟨rfl, fun i d e => by simp at e⟩, fun i a h => by cases h⟩
  | .cons (F := F1) (G := G) r t => by
    obtain ⟨Fs, h1, h2⟩ := Reps.split t
    refine ⟨fun i => match i with | 0 => F1 | i + 1 => Fs i, ⟨by simp [h1.len], fun i d e => ?_⟩, fun i a h => ?_⟩
    · cases i with
      | zero => simp at e; subst e; exact ⟨_, rfl, r⟩
      | succ i => obtain ⟨v, q1, q2⟩ := h1.get i d (by simpa using e); exact ⟨v, by simpa using q1, q2⟩
    · cases i with
      | zero => exact List.mem_append_left _ h
      | succ i => exact List.mem_append_right _ (h2 i a h)
/-- a call that changes nothing -/
def eCall (F : List D → Fr) (a : M (List D)) : M D := fun ρ => bindR (a ρ) fun ds ρ => match F ds with | .ok d _ => .ok d ρ | .er c fs _ => .er c fs ρ | .st => .st
def Md.fn : Md → Bool | .al _ => false | _ => true
theorem xe_call {x : Str} {f : Addr} {fd : FuncData} {ps : List Str} {n k : Nat} {F : List D → Fr} {e : Expr} {es : List Expr} {ea : M (List D)} {p pos : Pos} (tk : Takes X W) (G : FnOk X.prog X.w X.K X.mg X.base (L2.CX X.prog X.w) k f fd ps (spD S.c n none rm F)) (hr : Room k X.A) (hg : Gl X x)
    (hm : X.mg x = some (.ref f)) (hk : PySem.W.keepIn X.K (.ref f) = true) (hb : Binds X.K fd ps []) (hn : ps.length = n) (ha : XA X S W (e :: es) m1 e1 ea) (hrm : rm.fn = true := by rfl) (hne : (e :: es).length = n := by rfl) (hdb : (x == ("__debug__" : Str)) = false := by decide) (he : starEach (e :: es) X.env = (false, eval e X.env) :: starEach es X.env := by rfl)
    (hpl : (backTo pos (starEach es X.env)).any (·.1) = false := by rfl) : XE X S W (.Call (.Name x p) (e :: es) [] pos) rm e1 (eCall F ea) := by
  obtain ⟨ta, pa, ra⟩ := ha.ex
  refine ⟨_, pe_callSD G hr hg hm hk hb .nil (fun σ => passAt tk σ) pa hdb he hpl, fun B ρ σ Fs H Q I h => ra B ρ σ Fs H _ I (h.bind.imp fun ds ρ1 hds h1 vs H1 Fs1 F1 q => ?_)⟩
  obtain ⟨Gs, g1, g2⟩ := q.rep.split
  refine ⟨B.R, ds, Gs, (ha.len _ _ _ hds).trans hne, ⟨by simpa using g1, fun i hi => by cases hi⟩, ?_⟩
  have sm : ∀ {o H2 Fo}, FEnd S.c B.R none H1 (vs ++ []) Gs o H2 Fo → Same H1 H2 := fun {o H2 Fo} fe a u hu => by
    rcases fe.chg a u hu with z | ⟨i, hi, _⟩
    · exact z
    · cases hi
  cases hf : F ds with
  | st => rw [hf] at h1; exact h1.elim
  | ok d o =>
    rw [hf] at h1
    intro v H2 Fo G fe r md
    refine h1 v H2 Fs1 G (VP.post (F := G) q ⟨sm fe, r, ?_⟩)
    cases rm with
    | pu => exact md
    | bo => trivial
    | al T => exact md.elim
    | fr => exact ⟨md.1, fun a ha => (md.2.1 a ha).elim id fun ⟨i, hi, _⟩ => by cases hi⟩
  | er c fs o =>
    rw [hf] at h1
    intro dd H2 Fo fe xd
    exact h1 σ Fs1 H2 dd (q.env.same (sm fe)) xd

/-! ### a call that changes what stands in a slot -/
/-- the arguments of such a call: io the place of the changed one, s its slot -/
structure PostI (S : Sig) (B : Base) (eff : Bool) (io s : Nat) (σ : L2.St) (ρ : Env) (Fs : Nat → List Addr) (H : Hp) (ρ' : Env) (ds : List D) (vs : List V) (H' : Hp) (Fs' Gs : Nat → List Addr) : Prop where
  env : EnvR S B ρ' σ Fs' H'
  rep : RepL S.c B.R H' ds vs Gs
  step : Step S eff ρ Fs H ρ' Fs' H'
  sep : ∀ i, i < ds.length → i ≠ io → ∀ a ∈ Gs i, ∀ j, Own S ρ' j → a ∉ Fs' j
  at_ : ∃ w, vs[io]? = some w ∧ σ[s]? = some (some w) ∧ Gs io = Fs' s
  ow : Own S ρ' s
  lt : io < ds.length
def RI (S : Sig) (W : WX) (eff : Bool) (io s : Nat) (ev : M (List D)) (t : TA) : Prop :=
  ∀ (B : Base) (ρ : Env) (σ : L2.St) (Fs : Nat → List Addr) (H : Hp) (Q : List V → Hp → Prop), EnvR S B ρ σ Fs H →
    Wn (ErW S B W) (fun ds ρ' => ∀ vs H' Fs' Gs, PostI S B eff io s σ ρ Fs H ρ' ds vs H' Fs' Gs → Q vs H') (ev ρ) → t σ H Q
structure XI (X : Cx) (S : Sig) (W : WX) (es : List Expr) (eff : Bool) (io s : Nat) (ev : M (List D)) : Prop where
  ex : ∃ t, PA X es t ∧ RI S W eff io s ev t
  len : ∀ ρ ds ρ', ev ρ = .ok ds ρ' → ds.length = es.length
/-- the changed one first, the others apart -/
def eiHere (s : Nat) (b : M (List D)) : M (List D) := fun ρ => match ρ[s]? with
  | some (some _) => bindR (b ρ) fun ds ρ => match ρ[s]? with | some (some d) => .ok (d :: ds) ρ | _ => .st
  | _ => .st
def hasS (S : Sig) (s : Nat) : Bool := match S.kd s with | .own => true | .io => true | _ => false
theorem hasS_own {s : Nat} (h : hasS S s = true) : S.kd s = .own ∨ S.kd s = .io := by
  unfold hasS at h
  cases q : S.kd s <;> rw [q] at h <;> first | exact .inl rfl | exact .inr rfl | cases h
theorem xi_here (s : Nat) {x : Str} {pos : Pos} {es : List Expr} {eb : M (List D)} (hb : XA X S W es m2 e2 eb) (z : m2.sep = true := by rfl) (hk : hasS S s = true := by rfl) (hN : X.N[s]? = some x := by rfl) (hv : Vis X.env.scope x := by first | exact Or.inl rfl | exact Or.inr (Or.inl rfl) | exact Or.inr (Or.inr rfl))
    (hd : (x == ("__debug__" : Str)) = false := by decide) (hcd : (x == ("__classdict__" : Str)) = false := by decide) (hs : starEach (.Name x pos :: es) X.env = (false, eval (.Name x pos) X.env) :: starEach es X.env := by rfl) :
    XI X S W (.Name x pos :: es) e2 0 s (eiHere s eb) := by
  obtain ⟨tb, pb, rb⟩ := hb.ex
  refine ⟨⟨_, pa_cons (pe_var hN hv hd hcd) pb hs, fun B ρ σ Fs H Q I h => ?_⟩, fun ρ ds ρ' h => ?_⟩
  · unfold eiHere at h
    split at h
    · rename_i d0 e0
      obtain ⟨v, hv, _⟩ := I.slot s d0 e0
      refine ⟨v, hv, rb B ρ σ Fs H _ I (h.bind.imp fun ds ρ1 _ h1 vs H1 Fs1 F q => ?_)⟩
      split at h1
      · rename_i d e
        obtain ⟨v', hv', r⟩ := q.env.slot s d e
        rw [hv] at hv'
        cases hv'
        obtain ⟨Gs, g1, g2⟩ := q.rep.split
        refine h1 (v :: vs) H1 Fs1 (fun i => match i with | 0 => Fs1 s | i + 1 => Gs i) ⟨q.env, ⟨by simp [g1.len], fun i d' e' => ?_⟩, q.step, fun i hi hn a ha j oj => ?_, ⟨v, rfl, hv, rfl⟩, ⟨hasS_own hk, d, e⟩, by simp⟩
        · cases i with
          | zero => simp at e'; subst e'; exact ⟨v, rfl, r⟩
          | succ i => obtain ⟨w, q1, q2⟩ := g1.get i d' (by simpa using e'); exact ⟨w, by simpa using q1, q2⟩
        · cases i with
          | zero => exact absurd rfl hn
          | succ i => exact q.md.apart q.env z a (g2 i a ha) j oj
      · exact h1.elim
    · exact h.elim
  · unfold eiHere at h
    split at h
    · obtain ⟨ds', ρ1, h2, h⟩ := bindR_ok h
      split at h
      · cases h; simp [hb.len _ _ _ h2]
      · cases h
    · cases h
/-- .. further on: the values ahead are apart -/
def eiNext (a : M D) (b : M (List D)) : M (List D) := eaCons a b
theorem xi_next {e : Expr} {es : List Expr} {ea : M D} {eb : M (List D)} {io s : Nat} (ha : XE X S W e m1 e1 ea) (hb : XI X S W es e2 io s eb) (z : m1.sep = true := by rfl) (hs : starEach (e :: es) X.env = (false, eval e X.env) :: starEach es X.env := by rfl) :
    XI X S W (e :: es) (e1 || e2) (io + 1) s (eiNext ea eb) := by
  obtain ⟨ta, pa, ra⟩ := ha.ex
  obtain ⟨tb, pb, rb⟩ := hb.ex
  refine ⟨⟨_, pa_cons pa pb hs, fun B ρ σ Fs H Q I h => ra B ρ σ Fs H _ I (h.bind.imp fun d ρ1 _ h1 v H1 Fs1 F p1 => rb B ρ1 σ Fs1 H1 _ p1.env (h1.bind.imp fun ds ρ2 _ h2 vs H2 Fs2 Gs p2 => ?_))⟩, fun ρ ds ρ' h => ?_⟩
  · have ap := p1.md.apart p1.env z
    refine h2 _ H2 Fs2 (fun i => match i with | 0 => F | i + 1 => Gs i) ⟨p2.env, ⟨by simp [p2.rep.len], fun i d' e' => ?_⟩, p1.step.trans p2.step, fun i hi hn a ha j oj => ?_, ?_, p2.ow, by simpa using p2.lt⟩
    · cases i with
      | zero => simp at e'; subst e'; exact ⟨v, rfl, p1.rep.step p1.env p2.step ap⟩
      | succ i => obtain ⟨w, q1, q2⟩ := p2.rep.get i d' (by simpa using e'); exact ⟨w, by simpa using q1, q2⟩
    · cases i with
      | zero =>
        intro q
        obtain ⟨u, hu⟩ := p1.rep.some a ha
        rcases p2.step.grow j a oj q with n | ⟨k, ok, mk⟩
        · rw [hu] at n; cases n
        · exact ap a ha k ok mk
      | succ i => exact p2.sep i (by simpa using hi) (by omega) a ha j oj
    · obtain ⟨w, q1, q2, q3⟩ := p2.at_
      exact ⟨w, by simpa using q1, q2, q3⟩
  · obtain ⟨d, ρ1, _, h⟩ := bindR_ok h
    obtain ⟨ds', ρ2, h2, h⟩ := bindR_ok h
    cases h
    simp [hb.len _ _ _ h2]
def eCallI (F : List D → Fr) (s : Nat) (a : M (List D)) : M D := fun ρ => bindR (a ρ) fun ds ρ => match F ds with | .ok d o => .ok d (ρ.set s (some o)) | .er c fs o => .er c fs (ρ.set s (some o)) | .st => .st
/-- the slot's new content, at the same address -/
theorem EnvR.mut {i : Nat} {o : D} {w : V} {G : List Addr} (I : EnvR S B ρ σ Fs H) (oi : Own S ρ i) (hw : σ[i]? = some (some w)) (chg : ∀ a u, H a = some u → H' a = some u ∨ a ∈ Fs i) (dom : ∀ a, H' a = none → H a = none)
    (r : Rep S.c B.R H' o w G) (nd : G.Nodup) (np : ∀ a ∈ G, ¬ B.P0 a) (dj : ∀ a ∈ G, ∀ j, Own S ρ j → j ≠ i → a ∉ Fs j) : EnvR S B (ρ.set i (some o)) σ (fun j => if j = i then G else Fs j) H' := by
  obtain ⟨d0, e0⟩ := oi.2
  have hlt : i < ρ.length := (List.getElem?_eq_some_iff.mp e0).1
  have gs : ∀ j d, (ρ.set i (some o))[j]? = some (some d) → (j = i ∧ d = o) ∨ (j ≠ i ∧ ρ[j]? = some (some d)) := fun j d q => by
    by_cases hj : j = i
    · subst hj
      rw [List.getElem?_set_self hlt] at q
      cases q
      exact .inl ⟨rfl, rfl⟩
    · rw [List.getElem?_set_ne (Ne.symm hj)] at q
      exact .inr ⟨hj, q⟩
  have ob : ∀ j, Own S (ρ.set i (some o)) j → Own S ρ j := fun j oj => by
    obtain ⟨d, q⟩ := oj.2
    rcases gs j d q with ⟨rfl, _⟩ | ⟨_, q⟩
    · exact oi
    · exact ⟨oj.1, d, q⟩
  have notFi : ∀ j d, j ≠ i → ρ[j]? = some (some d) → ∀ a ∈ Fs j, a ∉ Fs i := fun j d hj e a ha q => by
    cases hk : S.kd j with
    | pl => rw [I.pl j d e hk] at ha; cases ha
    | par => exact (I.own i oi).2 a q (I.parP e hk a ha)
    | own => exact I.dis j i ⟨.inl hk, d, e⟩ oi hj a ha q
    | io => exact I.dis j i ⟨.inr hk, d, e⟩ oi hj a ha q
    | bw => exact (I.own i oi).2 a q (I.bw j d e hk a ha)
  refine ⟨by simpa using I.len, fun j d q => ?_, fun j d q hk => ?_, fun j d q hk => ?_, fun j d q hk => ?_, fun j oj => ?_, fun j k oj ok hjk a ha q => ?_, fun j oj hk => I.iov j (ob j oj) hk, fun a u p q => ?_, I.pdom, fun a u q => ?_⟩
  · rcases gs j d q with ⟨rfl, rfl⟩ | ⟨hj, q⟩
    · exact ⟨w, hw, by simpa using r⟩
    · obtain ⟨v, hv, rv⟩ := I.slot j d q
      refine ⟨v, hv, ?_⟩
      rw [if_neg hj]
      refine rv.keep fun a u hu z => ?_
      rcases chg a u hu with k | k
      · exact k
      · rcases z with z | z
        · obtain ⟨u', hu', mu⟩ := I.mem oi k
          rw [hu] at hu'; cases hu'
          exact absurd mu z
        · exact absurd k (notFi j d hj q a z)
  · rcases gs j d q with ⟨rfl, rfl⟩ | ⟨hj, q⟩
    · rcases oi.1 with z | z <;> rw [hk] at z <;> cases z
    · simp only [if_neg hj]; exact I.pl j d q hk
  · rcases gs j d q with ⟨rfl, rfl⟩ | ⟨hj, q⟩
    · rcases oi.1 with z | z <;> rw [hk] at z <;> cases z
    · simp only [if_neg hj]; exact I.par j d q hk
  · rcases gs j d q with ⟨rfl, rfl⟩ | ⟨hj, q⟩
    · rcases oi.1 with z | z <;> rw [hk] at z <;> cases z
    · simp only [if_neg hj]; exact I.bw j d q hk
  · by_cases hj : j = i
    · subst hj; simp only [if_pos]; exact ⟨nd, np⟩
    · simp only [if_neg hj]; exact I.own j (ob j oj)
  · by_cases hj : j = i
    · subst hj
      simp only [if_pos] at ha
      rw [if_neg (Ne.symm hjk)] at q
      exact dj a ha k (ob k ok) (Ne.symm hjk) q
    · simp only [if_neg hj] at ha
      by_cases hk : k = i
      · subst hk
        simp only [if_pos] at q
        exact dj a q j (ob j oj) hj ha
      · simp only [if_neg hk] at q
        exact I.dis j k (ob j oj) (ob k ok) hjk a ha q
  · rcases chg a u (I.prot a u p q) with k | k
    · exact k
    · rcases p with p | p
      · exact absurd p ((I.own i oi).2 a k)
      · obtain ⟨u', hu', mu⟩ := I.mem oi k
        rw [I.prot a u (.inr p) q] at hu'; cases hu'
        exact absurd mu p
  · obtain ⟨u', z⟩ := I.tr a u q
    cases k : H' a with
    | some u2 => exact ⟨u2, rfl⟩
    | none => rw [dom a k] at z; cases z
theorem xe_callI {x : Str} {f : Addr} {fd : FuncData} {ps : List Str} {n k io s : Nat} {F : List D → Fr} {e : Expr} {es : List Expr} {ea : M (List D)} {p pos : Pos} (tk : Takes X W) (G : FnOk X.prog X.w X.K X.mg X.base (L2.CX X.prog X.w) k f fd ps (spD S.c n (some io) rm F)) (hr : Room k X.A) (hg : Gl X x)
    (hm : X.mg x = some (.ref f)) (hk : PySem.W.keepIn X.K (.ref f) = true) (hb : Binds X.K fd ps []) (ha : XI X S W (e :: es) e1 io s ea) (hrm : rm.fn = true := by rfl) (hne : (e :: es).length = n := by rfl) (hdb : (x == ("__debug__" : Str)) = false := by decide) (he : starEach (e :: es) X.env = (false, eval e X.env) :: starEach es X.env := by rfl)
    (hpl : (backTo pos (starEach es X.env)).any (·.1) = false := by rfl) : XE X S W (.Call (.Name x p) (e :: es) [] pos) rm true (eCallI F s ea) := by
  obtain ⟨ta, pa, ra⟩ := ha.ex
  refine ⟨_, pe_callSD G hr hg hm hk hb .nil (fun σ => passAt tk σ) pa hdb he hpl, fun B ρ σ Fs H Q I h => ra B ρ σ Fs H _ I (h.bind.imp fun ds ρ1 hds h1 vs H1 Fs1 Gs q => ?_)⟩
  obtain ⟨w, hw, hσ, hG⟩ := q.at_
  have oi := q.ow
  refine ⟨B.R, ds, Gs, (ha.len _ _ _ hds).trans hne, ⟨by simpa using q.rep, fun i hi => ?_⟩, ?_⟩
  · cases hi
    refine ⟨q.lt, by rw [hG]; exact (q.env.own s oi).1, fun j hj hn a ha z => q.sep j hj hn a z s oi ?_⟩
    rw [hG] at ha; exact ha
  have key : ∀ {o H2 Fo}, FEnd S.c B.R (some io) H1 (vs ++ []) Gs o H2 Fo → EnvR S B (ρ1.set s (some o)) σ (fun j => if j = s then Fo else Fs1 j) H2 ∧ Step S true ρ Fs H (ρ1.set s (some o)) (fun j => if j = s then Fo else Fs1 j) H2 := fun {o H2 Fo} fe => by
    obtain ⟨w', hw', r, nd, fo⟩ := fe.out io rfl
    rw [List.append_nil, hw] at hw'
    cases hw'
    have chg : ∀ a u, H1 a = some u → H2 a = some u ∨ a ∈ Fs1 s := fun a u hu => by
      rcases fe.chg a u hu with z | ⟨i, hi, z⟩
      · exact .inl z
      · cases hi; rw [hG] at z; exact .inr z
    have fo' : ∀ a ∈ Fo, H1 a = none ∨ a ∈ Fs1 s := fun a ha => by rw [← hG]; exact fo a ha
    refine ⟨q.env.mut oi hσ chg fe.dom r nd (fun a ha => ?_) fun a ha j oj hj z => ?_, ?_⟩
    · rcases fo' a ha with z | z
      · exact q.env.fresh z
      · exact (q.env.own s oi).2 a z
    · rcases fo' a ha with y | y
      · obtain ⟨u, hu, _⟩ := q.env.mem oj z
        rw [y] at hu; cases hu
      · exact q.env.dis s j oi oj (Ne.symm hj) a y z
    · refine (q.step.trans (e2 := true) ?_).weak fun z => by cases z
      refine ⟨fun a u hu => ?_, fun i a oj ha => ?_, fe.dom, fun z => by cases z⟩
      · rcases chg a u hu with z | z
        · exact .inl z
        · exact .inr ⟨s, oi, z⟩
      · by_cases hi : i = s
        · subst hi
          simp only [if_pos] at ha
          rcases fo' a ha with z | z
          · exact .inl z
          · exact .inr ⟨i, oi, z⟩
        · simp only [if_neg hi] at ha
          obtain ⟨d', q'⟩ := oj.2
          rw [List.getElem?_set_ne (Ne.symm hi)] at q'
          exact .inr ⟨i, ⟨oj.1, d', q'⟩, ha⟩
  cases hf : F ds with
  | st => rw [hf] at h1; exact h1.elim
  | ok d o =>
    rw [hf] at h1
    intro v H2 Fo Gr fe r md
    obtain ⟨I2, s2⟩ := key fe
    refine h1 v H2 _ Gr ⟨I2, r, s2, ?_⟩
    cases rm with
    | pu => exact md
    | bo => trivial
    | al T => exact md.elim
    | fr =>
      have back : ∀ a, H1 a = none ∨ a ∈ Fs1 s → H a = none ∨ ∃ j, Own S ρ j ∧ a ∈ Fs j := fun a z => by
        rcases z with z | z
        · exact .inl (q.step.dom a z)
        · exact q.step.grow s a oi z
      have gm : ∀ a ∈ Gr, H1 a = none ∨ a ∈ Fs1 s := fun a ha => by
        rcases md.2.1 a ha with z | ⟨i, hi, z⟩
        · exact .inl z
        · cases hi; rw [hG] at z; exact .inr z
      refine ⟨md.1, fun a haa => back a (gm a haa), fun i oj a haa z => ?_⟩
      by_cases hi : i = s
      · simp only [if_pos hi] at z
        exact md.2.2 io rfl a haa z
      · simp only [if_neg hi] at z
        obtain ⟨d', q'⟩ := oj.2
        rw [List.getElem?_set_ne (Ne.symm hi)] at q'
        have oj' : Own S ρ1 i := ⟨oj.1, d', q'⟩
        rcases gm a haa with y | y
        · obtain ⟨u, hu, _⟩ := q.env.mem oj' z
          rw [y] at hu; cases hu
        · exact q.env.dis s i oi oj' (Ne.symm hi) a y z
  | er c fs o =>
    rw [hf] at h1
    intro dd H2 Fo fe xd
    exact h1 σ _ H2 dd (key fe).1 xd
end
end EL

namespace EL
open PySem PySem.Spec PyProof.Rows
open L2 hiding XE
/-! ### statements -/
inductive So where
  | nx (ρ : Env) | ret (d : D) (ρ : Env) | bk (ρ : Env) | ct (ρ : Env) | er (c : String) (fs : List (Str × D)) (ρ : Env) | st
abbrev Ms := Env → So
def bindS {α : Type} (r : Rs α) (f : α → Env → So) : So := match r with
  | .ok a ρ => f a ρ
  | .er c fs ρ => .er c fs ρ
  | .st => .st
def RetOk (S : Sig) (B : Base) (rm : Md) (ρ' : Env) (Fs' : Nat → List Addr) (F : List Addr) : Prop := match rm with
  | .pu => F = []
  | .fr => F.Nodup ∧ (∀ a ∈ F, ¬ B.P0 a) ∧ ∀ i, Own S ρ' i → ∀ a ∈ F, a ∉ Fs' i
  | .bo => True
  | .al _ => False
def SWn (S : Sig) (B : Base) (W : WX) (rm : Md) (E : Ends) : So → Prop
  | .nx ρ' => ∀ σ' Fs' H', EnvR S B ρ' σ' Fs' H' → E.nx σ' H'
  | .ret d ρ' => ∀ v σ' Fs' H' F, EnvR S B ρ' σ' Fs' H' → Rep S.c B.R H' d v F → RetOk S B rm ρ' Fs' F → E.rt v H'
  | .bk ρ' => ∀ σ' Fs' H', EnvR S B ρ' σ' Fs' H' → E.bk σ' H'
  | .ct ρ' => ∀ σ' Fs' H', EnvR S B ρ' σ' Fs' H' → E.ct σ' H'
  | .er c fs ρ' => ErW S B W c fs ρ'
  | .st => False
def RS (S : Sig) (W : WX) (rm : Md) (ev : Ms) (t : TS) : Prop :=
  ∀ (B : Base) (ρ : Env) (σ : L2.St) (Fs : Nat → List Addr) (H : Hp) (E : Ends), EnvR S B ρ σ Fs H → SWn S B W rm E (ev ρ) → t E σ H
structure XS (X : Cx) (S : Sig) (W : WX) (rm : Md) (s : Stmt) (ev : Ms) : Prop where
  ex : ∃ t, PS X s t ∧ RS S W rm ev t
structure XSs (X : Cx) (S : Sig) (W : WX) (rm : Md) (ss : List Stmt) (ev : Ms) : Prop where
  ex : ∃ t, PSs X ss t ∧ RS S W rm ev t
section
variable {X : Cx} {S : Sig} {B : Base} {W : WX} {m m1 m2 rm : Md} {e1 e2 : Bool} {σ : L2.St} {ρ ρ1 ρ' : Env} {Fs Fs1 Fs' : Nat → List Addr} {H H1 H' : Hp} {d : D} {v : V} {F : List Addr} {pos : Pos}
theorem SWn.bind {α : Type} {E : Ends} {r : Rs α} {f : α → Env → So} (h : SWn S B W rm E (bindS r f)) : Wn (ErW S B W) (fun a ρ => SWn S B W rm E (f a ρ)) r := by
  cases r with
  | ok a ρ => exact h
  | er c fs ρ => exact h
  | st => exact h
def sNil : Ms := fun ρ => .nx ρ
def sSeq (a b : Ms) : Ms := fun ρ => match a ρ with | .nx ρ' => b ρ' | r => r
theorem xs_nil : XSs X S W rm [] sNil := ⟨_, pss_nil, fun B ρ σ Fs H E I h => h σ Fs H I⟩
theorem xs_pass : XS X S W rm (.Pass pos) sNil := ⟨_, ps_pass, fun B ρ σ Fs H E I h => h σ Fs H I⟩
theorem xs_cons {s : Stmt} {ss : List Stmt} {a b : Ms} (ha : XS X S W rm s a) (hb : XSs X S W rm ss b) : XSs X S W rm (s :: ss) (sSeq a b) := by
  obtain ⟨ta, pa, ra⟩ := ha.ex
  obtain ⟨tb, pb, rb⟩ := hb.ex
  refine ⟨_, pss_cons pa pb, fun B ρ σ Fs H E I h => ra B ρ σ Fs H _ I ?_⟩
  unfold sSeq at h
  cases q : a ρ with
  | nx ρ' => rw [q] at h; exact fun σ' Fs' H' I' => rb B ρ' σ' Fs' H' E I' h
  | ret d ρ' => rw [q] at h; exact h
  | bk ρ' => rw [q] at h; exact h
  | ct ρ' => rw [q] at h; exact h
  | er c fs ρ' => rw [q] at h; exact h
  | st => rw [q] at h; exact h
theorem xs_one {s : Stmt} {a : Ms} (ha : XS X S W rm s a) : XSs X S W rm [s] a := by
  obtain ⟨ta, pa, ra⟩ := ha.ex
  exact ⟨_, pss_one pa, ra⟩
def sDrop (a : M D) : Ms := fun ρ => bindS (a ρ) fun _ ρ => .nx ρ
theorem xs_expr {e : Expr} {a : M D} (ha : XE X S W e m e1 a) (hs : swapsWith e none pos.line X.env = Pure.pure false := by rfl) : XS X S W rm (.Expr e pos) (sDrop a) := by
  obtain ⟨ta, pa, ra⟩ := ha.ex
  exact ⟨_, ps_expr pa hs, fun B ρ σ Fs H E I h => ra B ρ σ Fs H _ I (h.bind.imp fun d ρ1 _ h1 v H1 Fs1 F q => h1 σ Fs1 H1 q.env)⟩
def sRet (a : M D) : Ms := fun ρ => bindS (a ρ) fun d ρ => .ret d ρ
theorem RetOk.of (q : Post S B m e1 σ ρ Fs H ρ1 d v H1 Fs1 F) (I : EnvR S B ρ σ Fs H) (z : m.le rm = true) (hrm : rm.fn = true) : RetOk S B rm ρ1 Fs1 F := by
  have h := q.md.le z
  cases rm with
  | bo => trivial
  | pu => exact h
  | al T => cases hrm
  | fr =>
    refine ⟨h.1, fun a ha => ?_, h.2.2⟩
    rcases h.2.1 a ha with n | ⟨j, oj, mj⟩
    · exact I.fresh n
    · exact (I.own j oj).2 a mj
theorem xs_ret {e : Expr} {a : M D} (ha : XE X S W e m e1 a) (z : m.le rm = true := by rfl) (hrm : rm.fn = true := by rfl) : XS X S W rm (.Return (some e) pos) (sRet a) := by
  obtain ⟨ta, pa, ra⟩ := ha.ex
  exact ⟨_, ps_ret pa, fun B ρ σ Fs H E I h => ra B ρ σ Fs H _ I (h.bind.imp fun d ρ1 _ h1 v H1 Fs1 F q => h1 v σ Fs1 H1 F q.env q.rep (RetOk.of q I z hrm))⟩
def sRetN : Ms := fun ρ => .ret .non ρ
theorem RetOk.nil (hrm : rm.fn = true) : RetOk S B rm ρ' Fs' [] := by
  cases rm with
  | bo => trivial
  | pu => rfl
  | al T => cases hrm
  | fr => exact ⟨List.nodup_nil, (by intro a h; cases h), (by intro _ _ a h; cases h)⟩
theorem xs_retN (hrm : rm.fn = true := by rfl) : XS X S W rm (.Return none pos) sRetN := ⟨_, ps_retN, fun B ρ σ Fs H E I h => h .non σ Fs H [] I .non (RetOk.nil hrm)⟩
def sIf (c : M Bool) (a b : Ms) : Ms := fun ρ => bindS (c ρ) fun k ρ => if k then a ρ else b ρ
theorem xs_if {c : Expr} {a b : List Stmt} {ec : M Bool} {ea eb : Ms} (hc : XT X S W c e1 ec) (ha : XSs X S W rm a ea) (hb : XSs X S W rm b eb) : XS X S W rm (.If c a b pos) (sIf ec ea eb) := by
  obtain ⟨tc, pc, rc⟩ := hc.ex
  obtain ⟨ta, pa, ra⟩ := ha.ex
  obtain ⟨tb, pb, rb⟩ := hb.ex
  refine ⟨_, ps_if pc pa pb, fun B ρ σ Fs H E I h => rc B ρ σ Fs H _ I (h.bind.imp fun k ρ1 _ h1 H1 Fs1 I1 s1 => ?_)⟩
  cases k with
  | true => exact iteT (ra B ρ1 σ Fs1 H1 E I1 h1)
  | false => exact iteF (rb B ρ1 σ Fs1 H1 E I1 h1)
theorem xs_break : XS X S W rm (.Break pos) (fun ρ => .bk ρ) := ⟨_, ps_break, fun B ρ σ Fs H E I h => h σ Fs H I⟩
theorem xs_continue : XS X S W rm (.Continue pos) (fun ρ => .ct ρ) := ⟨_, ps_continue, fun B ρ σ Fs H E I h => h σ Fs H I⟩
/-- a way that is not gone -/
theorem xs_never {s : Stmt} : XS X S W rm s (fun _ => .st) := ⟨_, ps_never, fun B ρ σ Fs H E I h => h.elim⟩
theorem xss_never {s : List Stmt} : XSs X S W rm s (fun _ => .st) := ⟨_, pss_never, fun B ρ σ Fs H E I h => h.elim⟩

/-! ### stores -/
theorem getElem?_set_some {α : Type} {l : List α} {i j : Nat} {x y : α} (h : (l.set i x)[j]? = some y) : (j = i ∧ y = x ∧ i < l.length) ∨ (j ≠ i ∧ l[j]? = some y) := by
  by_cases hj : j = i
  · subst hj
    by_cases hl : j < l.length
    · rw [List.getElem?_set_self hl] at h; cases h; exact .inl ⟨rfl, rfl, hl⟩
    · rw [List.getElem?_eq_none (by simpa using hl)] at h; cases h
  · rw [List.getElem?_set_ne (Ne.symm hj)] at h; exact .inr ⟨hj, h⟩
theorem EnvR.put {i : Nat} (I : EnvR S B ρ σ Fs H) (r : Rep S.c B.R H d v F) (h : (S.kd i = .pl ∧ F = []) ∨ (S.kd i = .bw ∧ ∀ a ∈ F, B.P0 a) ∨ (S.kd i = .own ∧ F.Nodup ∧ (∀ a ∈ F, ¬ B.P0 a) ∧ ∀ j, Own S ρ j → j ≠ i → ∀ a ∈ F, a ∉ Fs j)) :
    EnvR S B (ρ.set i (some d)) (σ.set i (some v)) (fun j => if j = i then F else Fs j) H := by
  have gs : ∀ j d', (ρ.set i (some d))[j]? = some (some d') → (j = i ∧ d' = d ∧ i < ρ.length) ∨ (j ≠ i ∧ ρ[j]? = some (some d')) := fun j d' q => by
    rcases getElem?_set_some q with ⟨a, b, c⟩ | z
    · exact .inl ⟨a, Option.some.inj b, c⟩
    · exact .inr z
  have ob : ∀ j, Own S (ρ.set i (some d)) j → j ≠ i → Own S ρ j := fun j oj hj => by
    obtain ⟨d', q⟩ := oj.2
    rcases gs j d' q with ⟨z, _⟩ | ⟨_, q⟩
    · exact absurd z hj
    · exact ⟨oj.1, d', q⟩
  have ow : ∀ j, Own S (ρ.set i (some d)) j → j = i → F.Nodup ∧ (∀ a ∈ F, ¬ B.P0 a) ∧ ∀ j, Own S ρ j → j ≠ i → ∀ a ∈ F, a ∉ Fs j := fun j oj hj => by
    subst hj
    rcases h with ⟨hk, _⟩ | ⟨hk, _⟩ | ⟨_, z⟩
    · rcases oj.1 with z | z <;> rw [hk] at z <;> cases z
    · rcases oj.1 with z | z <;> rw [hk] at z <;> cases z
    · exact z
  refine ⟨by simpa using I.len, fun j d' q => ?_, fun j d' q hk => ?_, fun j d' q hk => ?_, fun j d' q hk => ?_, fun j oj => ?_, fun j k oj ok hjk a ha q => ?_, fun j oj hk => ?_, I.prot, I.pdom, I.tr⟩
  · rcases gs j d' q with ⟨rfl, rfl, hl⟩ | ⟨hj, q⟩
    · exact ⟨v, List.getElem?_set_self (by rw [← I.len]; exact hl), by simpa using r⟩
    · obtain ⟨w, hw, rw'⟩ := I.slot j d' q
      exact ⟨w, by rw [List.getElem?_set_ne (Ne.symm hj)]; exact hw, by simpa [hj] using rw'⟩
  · rcases gs j d' q with ⟨rfl, rfl, hl⟩ | ⟨hj, q⟩
    · rcases h with ⟨_, z⟩ | ⟨z, _⟩ | ⟨z, _⟩
      · simpa using z
      · rw [hk] at z; cases z
      · rw [hk] at z; cases z
    · simp only [if_neg hj]; exact I.pl j d' q hk
  · rcases gs j d' q with ⟨rfl, rfl, hl⟩ | ⟨hj, q⟩
    · rcases h with ⟨z, _⟩ | ⟨z, _⟩ | ⟨z, _⟩ <;> rw [hk] at z <;> cases z
    · simp only [if_neg hj]; rw [List.getElem?_set_ne (Ne.symm hj)]; exact I.par j d' q hk
  · rcases gs j d' q with ⟨rfl, rfl, hl⟩ | ⟨hj, q⟩
    · rcases h with ⟨z, _⟩ | ⟨_, z⟩ | ⟨z, _⟩
      · rw [hk] at z; cases z
      · simpa using z
      · rw [hk] at z; cases z
    · simp only [if_neg hj]; exact I.bw j d' q hk
  · by_cases hj : j = i
    · simp only [if_pos hj]; exact ⟨(ow j oj hj).1, (ow j oj hj).2.1⟩
    · simp only [if_neg hj]; exact I.own j (ob j oj hj)
  · by_cases hj : j = i
    · simp only [if_pos hj] at ha
      have hk : k ≠ i := fun z => hjk (hj.trans z.symm)
      simp only [if_neg hk] at q
      exact (ow j oj hj).2.2 k (ob k ok hk) hk a ha q
    · simp only [if_neg hj] at ha
      by_cases hk : k = i
      · simp only [if_pos hk] at q
        exact (ow k ok hk).2.2 j (ob j oj hj) hj a q ha
      · simp only [if_neg hk] at q
        exact I.dis j k (ob j oj hj) (ob k ok hk) hjk a ha q
  · by_cases hj : j = i
    · subst hj
      rcases h with ⟨z, _⟩ | ⟨z, _⟩ | ⟨z, _⟩ <;> rw [hk] at z <;> cases z
    · rw [List.getElem?_set_ne (Ne.symm hj)]; exact I.iov j (ob j oj hj) hk
/-- what may be stored in slot i -/
def putMd (S : Sig) (i : Nat) (m : Md) : Bool := match S.kd i with | .pl => (match m with | .pu => true | _ => false) | .own => m.le .fr | _ => false
theorem put_ok {i : Nat} (q : Post S B m e1 σ ρ Fs H ρ1 d v H1 Fs1 F) (I : EnvR S B ρ σ Fs H) (z : putMd S i m = true) : EnvR S B (ρ1.set i (some d)) (σ.set i (some v)) (fun j => if j = i then F else Fs1 j) H1 := by
  refine q.env.put q.rep ?_
  unfold putMd at z
  cases hk : S.kd i with
  | pl => rw [hk] at z; cases m <;> first | exact .inl ⟨rfl, q.md⟩ | cases z
  | par => rw [hk] at z; cases z
  | io => rw [hk] at z; cases z
  | bw => rw [hk] at z; cases z
  | own =>
    rw [hk] at z
    have h := RetOk.of (rm := .fr) q I z rfl
    exact .inr (.inr ⟨rfl, h.1, h.2.1, fun j oj _ a ha => h.2.2 j oj a ha⟩)
def sSet (i : Nat) (a : M D) : Ms := fun ρ => bindS (a ρ) fun d ρ => .nx (ρ.set i (some d))
theorem xs_set (i : Nat) {x : Str} {pos' : Pos} {e : Expr} {a : M D} (hN : X.N.Nodup) (ha : XE X S W e m e1 a) (z : putMd S i m = true := by rfl) (hi : X.N[i]? = some x := by rfl) (hx : Loc X.env.scope x := by first | exact Or.inl rfl | exact Or.inr rfl) (hs : swapsWith e (some (.Name x pos')) pos.line X.env = Pure.pure false := by rfl)
    (hf : X.fn x = true ∨ X.env.scope.names.lookup x = some .local := by first | exact .inl rfl | exact .inr rfl) : XS X S W rm (.Assign [.Name x pos'] e pos) (sSet i a) := by
  obtain ⟨ta, pa, ra⟩ := ha.ex
  exact ⟨_, ps_set hN hi hx pa hs hf, fun B ρ σ Fs H E I h => ra B ρ σ Fs H _ I (h.bind.imp fun d ρ1 _ h1 v H1 Fs1 F q => h1 _ _ H1 (put_ok q I z))⟩
end
end EL

namespace EL
open PySem PySem.Spec PyProof.Rows
open L2 hiding XE
/-! ### a def and its body -/
def outOf (io : Option Nat) (ρ : Env) : Option D := match io with
  | none => some .non
  | some p => match ρ[p]? with | some (some d) => some d | _ => none
def endOf (io : Option Nat) : So → Fr
  | .ret d ρ => match outOf io ρ with | some o => .ok d o | none => .st
  | .nx ρ => match outOf io ρ with | some o => .ok .non o | none => .st
  | .er c fs ρ => match outOf io ρ with | some o => .er c fs o | none => .st
  | _ => .st
def plOk (pls : List Nat) (ds : List D) : Bool := pls.all fun i => match ds[i]? with | some d => pureD d | none => false
/-- the body's value for such arguments: n of them, N slots, those of pls plain -/
def runF (n N : Nat) (pls : List Nat) (io : Option Nat) (ev : Ms) (ds : List D) : Fr :=
  if plOk pls ds then endOf io (ev (ds.map some ++ List.replicate (N - n) none)) else .st
def kdOk (n : Nat) (pls : List Nat) (io : Option Nat) (kd : Nat → Kd) : Bool := (List.range n).all fun i => match kd i with
  | .par => true | .pl => pls.contains i | .io => io == some i | .own => false | .bw => false
section
variable {P : Program} {w : World} {K : PySem.W.Frag} {mg : Str → Option Value} {base : Heap}
theorem start_get {N : List Str} {vs : List V} {i : Nat} {v : V} (h : vs[i]? = some v) : (L2.start N vs)[i]? = some (some v) := by
  unfold L2.start
  have hl : i < vs.length := (List.getElem?_eq_some_iff.mp h).1
  rw [List.getElem?_append_left (by simpa using hl), List.getElem?_map, h]; rfl
theorem entry_get {ds : List D} {k i : Nat} {d : D} (h : (ds.map some ++ List.replicate k none)[i]? = some (some d)) : ds[i]? = some d := by
  by_cases hl : i < ds.length
  · rw [List.getElem?_append_left (by simpa using hl), List.getElem?_map] at h
    cases q : ds[i]? with
    | none => rw [q] at h; cases h
    | some u => rw [q] at h; cases h; rfl
  · rw [List.getElem?_append_right (by simpa using hl)] at h
    rw [List.getElem?_replicate] at h
    split at h <;> cases h
theorem fn_ok {x qual : Str} {params : Arguments} {body : List Stmt} {scope : Scope} {dvs : List V} {kws : List (Str × V)} {f : Addr} {fd : FuncData} {N ps : List Str} {k n : Nat} {pls : List Nat} {io : Option Nat} {rm : Md} {C : Core} {ks : List Kd} {ev : Ms} (F : FunD K x qual params body scope dvs kws f fd) (sc : FnScope N ps scope) (hn : ps.length = n) (hk : kdOk n pls io (kdOf ks) = true) (hrm : rm.fn = true) (hio : ∀ i ∈ io, i < n ∧ kdOf ks i = .io)
    (hbody : ∀ (cdv : Value) (A : Around) (outer : List PySem.Env) (s : Shared) (H : Hp) (E : XK), Room k (A.deeper (envOfC qual scope s.heap.objs.size f cdv)) →
      XSs (cxOf (L2.CX P w) P w K mg base N qual scope f cdv A outer s H E) (sg C ks) (fun cls d _ H' => E cls d H') rm body ev) :
    FnOk P w K mg base (L2.CX P w) (k + 1) f fd ps (spD C n io rm (runF n N.length pls io ev)) := by
  refine F.ok sc (fun vs H Q E h => (spD.len h).trans hn.symm) (fun cdv A outer s H vs Q E hr h => ?_)
  obtain ⟨t, pt, rt⟩ := (hbody cdv A outer s H E hr).ex
  refine ⟨t, pt, ?_⟩
  obtain ⟨R, ds, Fs, hl, ha, hw⟩ := h
  unfold runF at hw
  split at hw
  case isFalse => exact hw.elim
  rename_i hpl
  have hkd : ∀ i, i < n → kdOf ks i = .par ∨ (kdOf ks i = .pl ∧ i ∈ pls) ∨ (kdOf ks i = .io ∧ io = some i) := fun i hi => by
    have := List.all_eq_true.mp hk i (List.mem_range.mpr hi)
    cases q : kdOf ks i <;> rw [q] at this
    · exact .inr (.inl ⟨rfl, by simpa using this⟩)
    · exact .inl rfl
    · cases this
    · exact .inr (.inr ⟨rfl, by simpa using this⟩)
    · cases this
  have hvl : vs.length = n := by rw [← ha.rep.len]; exact hl
  have nN : n ≤ N.length := by
    have := congrArg List.length sc.pre
    rw [List.length_take, hn] at this
    omega
  have wf0 : ∀ i d, ds[i]? = some d → kdOf ks i = .par → ∀ a ∈ Fs i, (∃ o, H a = some o) ∧ ∀ i ∈ io, a ∉ Fs i := fun i d e1 hk'' a haa => by
    obtain ⟨v, hv, r⟩ := ha.rep.get i d e1
    refine ⟨let ⟨o, z, _⟩ := r.mem a haa; ⟨o, z⟩, fun j hj q => ?_⟩
    have ne : i ≠ j := fun z => by
      subst z
      rw [(hio i hj).2] at hk''; cases hk''
    exact (ha.own j hj).2.2 i (List.getElem?_eq_some_iff.mp e1).1 ne a q haa
  let B : Base := ⟨R, fun a => (∃ o, H a = some o) ∧ ∀ i ∈ io, a ∉ Fs i, H, fun i => (vs[i]?).getD .non, fun i => if kdOf ks i = .par ∧ i < ds.length then Fs i else [], fun i a haa => by
    split at haa
    · rename_i hc
      exact wf0 i _ (List.getElem?_eq_getElem hc.2) hc.1 a haa
    · cases haa⟩
  have I : EnvR (sg C ks) B (ds.map some ++ List.replicate (N.length - n) none) (L2.start N vs) Fs H := by
    have gt : ∀ i d, (ds.map some ++ List.replicate (N.length - n) none)[i]? = some (some d) → ds[i]? = some d ∧ i < n := fun i d e => by
      have := entry_get e
      exact ⟨this, by rw [← hl]; exact (List.getElem?_eq_some_iff.mp this).1⟩
    have io_of : ∀ i, Own (sg C ks) (ds.map some ++ List.replicate (N.length - n) none) i → io = some i ∧ kdOf ks i = .io := fun i oi => by
      obtain ⟨d, e⟩ := oi.2
      rcases hkd i (gt i d e).2 with z | ⟨z, _⟩ | ⟨z, y⟩
      · rcases oi.1 with q | q <;> (have q' : kdOf ks i = _ := q; rw [z] at q'; cases q')
      · rcases oi.1 with q | q <;> (have q' : kdOf ks i = _ := q; rw [z] at q'; cases q')
      · exact ⟨y, z⟩
    refine ⟨by simp [L2.start, hl, hvl], fun i d e => ?_, fun i d e hk' => ?_, fun i d e hk' => ?_, fun i d e hk' => ?_, fun i oi => ?_, fun i j oi oj hij => ?_, fun i oi _ => ?_, fun a o p q => q, fun a p => p.1, fun a o q => ⟨o, q⟩⟩
    · obtain ⟨v, hv, r⟩ := ha.rep.get i d (gt i d e).1
      exact ⟨v, start_get hv, r⟩
    · obtain ⟨e1, hi⟩ := gt i d e
      obtain ⟨v, hv, r⟩ := ha.rep.get i d e1
      have hk'' : kdOf ks i = .pl := hk'
      rcases hkd i hi with z | ⟨z, y⟩ | ⟨z, _⟩
      · rw [hk''] at z; cases z
      · have := List.all_eq_true.mp hpl i y
        rw [e1] at this
        exact r.pure this
      · rw [hk''] at z; cases z
    · obtain ⟨e1, hi⟩ := gt i d e
      obtain ⟨v, hv, r⟩ := ha.rep.get i d e1
      have hk'' : kdOf ks i = .par := hk'
      refine ⟨(if_pos ⟨hk'', by rw [hl]; exact hi⟩).symm, ?_⟩
      show (L2.start N vs)[i]? = some (some ((vs[i]?).getD .non))
      rw [start_get hv, hv]; rfl
    · have hk'' : kdOf ks i = .bw := hk'
      rcases hkd i (gt i d e).2 with z | ⟨z, y⟩ | ⟨z, _⟩ <;> rw [hk''] at z <;> cases z
    · obtain ⟨y, _⟩ := io_of i oi
      have h2 := ha.own i y
      exact ⟨h2.2.1, fun a haa p => p.2 i y haa⟩
    · exact absurd (Option.some.inj ((io_of i oi).1.symm.trans (io_of j oj).1)) hij
    · obtain ⟨d, e⟩ := oi.2
      obtain ⟨v, hv, r⟩ := ha.rep.get i d (gt i d e).1
      show (L2.start N vs)[i]? = some (some ((vs[i]?).getD .non))
      rw [start_get hv, hv]; rfl
  have fin : ∀ {ρ' σ' Fs' H' o}, EnvR (sg C ks) B ρ' σ' Fs' H' → outOf io ρ' = some o → ∃ Fo, FEnd C R io H vs Fs o H' Fo ∧ ∀ {G}, RetOk (sg C ks) B rm ρ' Fs' G → FMd io rm H Fs Fo G := fun {ρ' σ' Fs' H' o} J ho => by
    have chg : ∀ a u, H a = some u → H' a = some u ∨ ∃ i ∈ io, a ∈ Fs i := fun a u hu => by
      by_cases hp : ∃ i ∈ io, a ∈ Fs i
      · exact .inr hp
      · exact .inl (J.prot a u (.inl ⟨⟨u, hu⟩, fun i hi q => hp ⟨i, hi, q⟩⟩) hu)
    have dom : ∀ a, H' a = none → H a = none := fun a h' => by
      cases q : H a with
      | none => rfl
      | some u => obtain ⟨u', z⟩ := J.tr a u q; rw [h'] at z; cases z
    have np : ∀ a, ¬ B.P0 a → H a = none ∨ ∃ i ∈ io, a ∈ Fs i := fun a hp => by
      cases q : H a with
      | none => exact .inl rfl
      | some u =>
        refine .inr (Classical.byContradiction fun z => hp ⟨⟨u, q⟩, fun i hi y => z ⟨i, hi, y⟩⟩)
    cases io with
    | none =>
      refine ⟨[], ⟨chg, dom, fun i hi => by cases hi⟩, fun {G} r => ?_⟩
      cases rm with
      | bo => trivial
      | pu => exact r
      | al T => cases hrm
      | fr => exact ⟨r.1, fun a haa => np a (r.2.1 a haa), fun i hi => by cases hi⟩
    | some p =>
      unfold outOf at ho
      simp only at ho
      split at ho
      case h_2 => cases ho
      rename_i d e
      cases ho
      have op : Own (sg C ks) ρ' p := ⟨.inr (hio p rfl).2, o, e⟩
      obtain ⟨v, hv, r⟩ := J.slot p o e
      have iv := J.iov p op (hio p rfl).2
      rw [hv] at iv
      have ev' : v = (vs[p]?).getD .non := Option.some.inj (Option.some.inj iv)
      have hp : p < vs.length := by rw [hvl]; exact (hio p rfl).1
      refine ⟨Fs' p, ⟨chg, dom, fun i hi => ?_⟩, fun {G} rr => ?_⟩
      · cases hi
        refine ⟨v, ?_, r, (J.own p op).1, fun a haa => ?_⟩
        · rw [List.getElem?_eq_getElem hp] at ev' ⊢
          rw [ev']; rfl
        · rcases np a ((J.own p op).2 a haa) with z | ⟨i, hi, z⟩
          · exact .inl z
          · cases hi; exact .inr z
      · cases rm with
        | bo => trivial
        | pu => exact rr
        | al T => cases hrm
        | fr => exact ⟨rr.1, fun a haa => np a (rr.2.1 a haa), fun i hi => by cases hi; exact rr.2.2 p op⟩
  refine rt B _ _ Fs H _ I ?_
  unfold endOf at hw
  split at hw
  · rename_i d ρ' he
    rw [he]
    split at hw
    · rename_i o ho
      intro v σ' Fs' H' G J r rr
      obtain ⟨Fo, fe, fm⟩ := fin J ho
      exact hw v H' Fo G fe r (fm rr)
    · exact hw.elim
  · rename_i ρ' he
    rw [he]
    split at hw
    · rename_i o ho
      intro σ' Fs' H' J
      obtain ⟨Fo, fe, fm⟩ := fin J ho
      exact hw .non H' Fo [] fe .non (fm (RetOk.nil hrm))
    · exact hw.elim
  · rename_i c fs ρ' he
    rw [he]
    split at hw
    · rename_i o ho
      intro σ' Fs' H' dd J xd
      obtain ⟨Fo, fe, fm⟩ := fin J ho
      exact hw dd H' Fo fe xd
    · exact hw.elim
  · exact hw.elim
end
end EL

namespace EL
open PySem PySem.Spec PyProof.Rows
open L2 hiding XE
/-- the slots of T are only read -/
def lockS (S : Sig) (T : List Nat) : Sig := match T with
  | [] => S
  | i :: T => ⟨S.c, fun j => if (i :: T).contains j then .par else S.kd j, S.n, fun j h => by
      split
      · intro z; cases z
      · exact S.fin j h⟩
theorem lockS_c (S : Sig) (T : List Nat) : (lockS S T).c = S.c := by cases T <;> rfl
theorem lockS_n (S : Sig) (T : List Nat) : (lockS S T).n = S.n := by cases T <;> rfl
theorem lockS_in {S : Sig} {T : List Nat} {j : Nat} (h : j ∈ T) : (lockS S T).kd j = .par := by
  cases T with
  | nil => cases h
  | cons i T => show (if _ then _ else _) = _; rw [if_pos]; simpa using h
theorem lockS_out {S : Sig} {T : List Nat} {j : Nat} (h : j ∉ T) : (lockS S T).kd j = S.kd j := by
  cases T with
  | nil => rfl
  | cons i T => show (if _ then _ else _) = _; rw [if_neg]; simpa using h
def Live (ρ : Env) (i : Nat) : Prop := ∃ d, ρ[i]? = some (some d)
/-- own, handed in to be changed, or lent -/
def hasT (S : Sig) (s : Nat) : Bool := match S.kd s with | .own => true | .io => true | .bw => true | _ => false
theorem hasT_own {S : Sig} {s : Nat} (h : hasT S s = true) : S.kd s = .own ∨ S.kd s = .io ∨ S.kd s = .bw := by
  unfold hasT at h
  cases q : S.kd s <;> rw [q] at h <;> first | exact .inl rfl | exact .inr (.inl rfl) | exact .inr (.inr rfl) | cases h
/-- every lent slot is emptied or only read -/
def bwOk (S : Sig) (ws T : List Nat) : Bool := (List.range S.n).all fun i => (match S.kd i with | .bw => false | _ => true) || ws.contains i || T.contains i
theorem bwOk_of {S : Sig} {ws T : List Nat} (h : bwOk S ws T = true) {i : Nat} (hk : S.kd i = .bw) : i ∈ ws ∨ i ∈ T := by
  have hl : i < S.n := Nat.lt_of_not_le fun z => S.fin i z hk
  have := List.all_eq_true.mp h i (List.mem_range.mpr hl)
  rw [hk] at this
  simpa using this
/-- the ground of a loop: what it walks, Fp, and the slots T stand still -/
structure Lk (S : Sig) (B : Base) (T : List Nat) (ρ : Env) (σ : L2.St) (Fs : Nat → List Addr) (H : Hp) (Fp : List Addr) (B' : Base) : Prop where
  R : B'.R = B.R
  P0 : ∀ a, B'.P0 a ↔ B.P0 a ∨ a ∈ Fp ∨ ∃ i ∈ T, Live ρ i ∧ a ∈ Fs i
  H0 : B'.H0 = H
  ivT : ∀ i ∈ T, S.kd i ≠ .io → ∀ v, σ[i]? = some (some v) → B'.iv i = v
  iv : ∀ i, i ∉ T ∨ S.kd i = .io → B'.iv i = B.iv i
  FpT : ∀ i ∈ T, (Live ρ i → B'.Fp i = Fs i) ∧ (¬ Live ρ i → B'.Fp i = [])
  Fp : ∀ i, i ∉ T → B'.Fp i = B.Fp i
section
variable {X : Cx} {S : Sig} {B B' : Base} {W : WX} {m m1 m2 rm : Md} {e1 e2 : Bool} {σ σ' : L2.St} {ρ ρ1 ρ' : Env} {Fs Fs1 Fs' : Nat → List Addr} {H H1 H' : Hp} {d : D} {v : V} {F Fp : List Addr} {pos : Pos} {T ws : List Nat}
theorem Own.live {i : Nat} (h : Own S ρ i) : Live ρ i := h.2
open Classical in
theorem Lk.mk' (S : Sig) (B : Base) (T : List Nat) (ρ : Env) (σ : L2.St) (Fs : Nat → List Addr) (H : Hp) (Fp : List Addr) : ∃ B', Lk S B T ρ σ Fs H Fp B' := by
  refine ⟨⟨B.R, fun a => B.P0 a ∨ a ∈ Fp ∨ ∃ i ∈ T, Live ρ i ∧ a ∈ Fs i, H, fun i => if i ∈ T ∧ S.kd i ≠ .io then (match σ[i]? with | some (some v) => v | _ => .non) else B.iv i, fun i => if i ∈ T then (if Live ρ i then Fs i else []) else B.Fp i, fun i a ha => ?_⟩, rfl, fun a => Iff.rfl, rfl, fun i hi hk v hv => ?_, fun i hi => ?_, fun i hi => ⟨fun o => ?_, fun o => ?_⟩, fun i hi => ?_⟩
  · split at ha
    · rename_i hi
      split at ha
      · rename_i ho; exact .inr (.inr ⟨i, hi, ho, ha⟩)
      · cases ha
    · exact .inl (B.wf i a ha)
  · simp only [if_pos (And.intro hi hk), hv]
  · have : ¬ (i ∈ T ∧ S.kd i ≠ .io) := fun z => hi.elim (fun q => q z.1) fun q => z.2 q
    simp only [if_neg this]
  · simp only [if_pos hi, if_pos o]
  · simp only [if_pos hi, if_neg o]
  · simp only [if_neg hi]
theorem own_lock {i : Nat} (h : Own (lockS S T) ρ i) : Own S ρ i ∧ i ∉ T := by
  by_cases hi : i ∈ T
  · rcases h.1 with z | z <;> rw [lockS_in hi] at z <;> cases z
  · exact ⟨⟨by rw [← lockS_out hi]; exact h.1, h.2⟩, hi⟩
theorem own_unlock {i : Nat} (h : Own S ρ i) (hi : i ∉ T) : Own (lockS S T) ρ i := ⟨by rw [lockS_out hi]; exact h.1, h.2⟩
/-- the slots vs emptied -/
def wipeE (ρ : Env) : List Nat → Env
  | [] => ρ
  | v :: vs => (wipeE ρ vs).set v none
theorem wipeE_length (ρ : Env) : ∀ vs, (wipeE ρ vs).length = ρ.length
  | [] => rfl
  | v :: vs => by unfold wipeE; rw [List.length_set, wipeE_length ρ vs]
theorem wipeE_some {ρ : Env} {i : Nat} {d : D} : ∀ {vs : List Nat}, (wipeE ρ vs)[i]? = some (some d) → ρ[i]? = some (some d) ∧ i ∉ vs
  | [], h => ⟨h, by simp⟩
  | v :: vs, h => by
    unfold wipeE at h
    by_cases hi : v = i
    · subst hi
      by_cases hv : v < (wipeE ρ vs).length
      · rw [List.getElem?_set_self hv] at h; cases h
      · rw [List.getElem?_eq_none (by simpa using hv)] at h; cases h
    · rw [List.getElem?_set_ne hi] at h
      obtain ⟨h1, h2⟩ := wipeE_some h
      exact ⟨h1, by simp only [List.mem_cons, not_or]; exact ⟨fun e => hi e.symm, h2⟩⟩
theorem EnvR.drop (I : EnvR S B ρ σ Fs H) : EnvR S B (wipeE ρ ws) σ Fs H := by
  have g : ∀ i d, (wipeE ρ ws)[i]? = some (some d) → ρ[i]? = some (some d) ∧ i ∉ ws := fun i d e => wipeE_some e
  have ob : ∀ i, Own S (wipeE ρ ws) i → Own S ρ i := fun i oi => by
    obtain ⟨d, e⟩ := oi.2
    exact ⟨oi.1, d, (g i d e).1⟩
  exact ⟨by rw [wipeE_length]; exact I.len, fun i d e => I.slot i d (g i d e).1, fun i d e => I.pl i d (g i d e).1, fun i d e => I.par i d (g i d e).1, fun i d e => I.bw i d (g i d e).1,
    fun i oi => I.own i (ob i oi), fun i j oi oj => I.dis i j (ob i oi) (ob j oj), fun i oi => I.iov i (ob i oi), I.prot, I.pdom, I.tr⟩
/-- what the loop's ground asks of what is walked -/
structure Wk (S : Sig) (B : Base) (T : List Nat) (ρ : Env) (Fs : Nat → List Addr) (H : Hp) (Fp : List Addr) : Prop where
  tk : ∀ a ∈ Fp, ∃ o, H a = some o
  sep : ∀ a ∈ Fp, ∀ i, Own S ρ i → a ∈ Fs i → i ∈ T
  has : ∀ i ∈ T, hasT S i = true
theorem EnvR.lock (I : EnvR S B ρ σ Fs H) (wk : Wk S B T ρ Fs H Fp) (lk : Lk S B T ρ σ Fs H Fp B') : EnvR (lockS S T) B' ρ σ Fs H := by
  refine ⟨I.len, fun i d e => ?_, fun i d e hk => ?_, fun i d e hk => ?_, fun i d e hk a ha => ?_, fun i oi => ?_, fun i j oi oj => I.dis i j (own_lock oi).1 (own_lock oj).1, fun i oi hk => ?_, fun a o p q => ?_, fun a p => ?_, fun a o q => ?_⟩
  · obtain ⟨v, hv, r⟩ := I.slot i d e
    exact ⟨v, hv, by rw [lockS_c, lk.R]; exact r⟩
  · by_cases hi : i ∈ T
    · rw [lockS_in hi] at hk; cases hk
    · rw [lockS_out hi] at hk; exact I.pl i d e hk
  · by_cases hi : i ∈ T
    · obtain ⟨v, hv, r⟩ := I.slot i d e
      refine ⟨((lk.FpT i hi).1 ⟨d, e⟩).symm, ?_⟩
      by_cases z : S.kd i = .io
      · rw [lk.iv i (.inr z)]; exact I.iov i ⟨.inr z, d, e⟩ z
      · rw [hv, lk.ivT i hi z v hv]
    · rw [lockS_out hi] at hk
      rw [lk.Fp i hi, lk.iv i (.inl hi)]; exact I.par i d e hk
  · by_cases hi : i ∈ T
    · rw [lockS_in hi] at hk; cases hk
    · rw [lockS_out hi] at hk
      exact (lk.P0 a).mpr (.inl (I.bw i d e hk a ha))
  · obtain ⟨o, hi⟩ := own_lock oi
    refine ⟨(I.own i o).1, fun a ha p => ?_⟩
    rcases (lk.P0 a).mp p with z | z | ⟨j, hj, ⟨d', e'⟩, z⟩
    · exact (I.own i o).2 a ha z
    · exact hi (wk.sep a z i o ha)
    · have ne : i ≠ j := fun q => hi (q ▸ hj)
      rcases hasT_own (wk.has j hj) with k | k | k
      · exact I.dis i j o ⟨.inl k, d', e'⟩ ne a ha z
      · exact I.dis i j o ⟨.inr k, d', e'⟩ ne a ha z
      · exact (I.own i o).2 a ha (I.bw j d' e' k a z)
  · obtain ⟨o, hi⟩ := own_lock oi
    rw [lk.iv i (.inl hi)]
    rw [lockS_out hi] at hk
    exact I.iov i o hk
  · rw [lk.H0] at q; exact q
  · rw [lk.H0]
    rcases (lk.P0 a).mp p with z | z | ⟨j, hj, ⟨d', e'⟩, z⟩
    · obtain ⟨o, q⟩ := I.pdom a z
      exact ⟨o, I.prot a o (.inl z) q⟩
    · exact wk.tk a z
    · obtain ⟨v, hv, r⟩ := I.slot j d' e'
      exact r.some a z
  · rw [lk.H0] at q; exact ⟨o, q⟩
theorem EnvR.unlock {ρ0 : Env} {σ0 : L2.St} {Fs0 : Nat → List Addr} {H0 : Hp} (I : EnvR S B ρ0 σ0 Fs0 H0) (wk : Wk S B T ρ0 Fs0 H0 Fp) (lk : Lk S B T ρ0 σ0 Fs0 H0 Fp B') (J : EnvR (lockS S T) B' ρ σ Fs H) (hw : ∀ i, Live ρ i → S.kd i = .bw → i ∈ T) : EnvR S B ρ σ Fs H := by
  have fT : ∀ i ∈ T, ∀ d, ρ[i]? = some (some d) → Fs i = B'.Fp i ∧ σ[i]? = some (some (B'.iv i)) := fun i hi d e => J.par i d e (lockS_in hi)
  have fN : ∀ i ∈ T, ∀ d, ρ[i]? = some (some d) → ∀ a ∈ Fs i, Live ρ0 i ∧ a ∈ Fs0 i := fun i hi d e a ha => by
    rw [(fT i hi d e).1] at ha
    by_cases o : Live ρ0 i
    · exact ⟨o, by rw [← (lk.FpT i hi).1 o]; exact ha⟩
    · rw [(lk.FpT i hi).2 o] at ha; cases ha
  refine ⟨J.len, fun i d e => ?_, fun i d e hk => ?_, fun i d e hk => ?_, fun i d e hk a ha => ?_, fun i oi => ?_, fun i j oi oj hij a ha q => ?_, fun i oi hk => ?_, fun a o p q => ?_, I.pdom, fun a o q => ?_⟩
  · obtain ⟨v, hv, r⟩ := J.slot i d e
    exact ⟨v, hv, by rw [lockS_c, lk.R] at r; exact r⟩
  · by_cases hi : i ∈ T
    · rcases hasT_own (wk.has i hi) with z | z | z <;> rw [hk] at z <;> cases z
    · exact J.pl i d e (by rw [lockS_out hi]; exact hk)
  · by_cases hi : i ∈ T
    · rcases hasT_own (wk.has i hi) with z | z | z <;> rw [hk] at z <;> cases z
    · rw [← lk.Fp i hi, ← lk.iv i (.inl hi)]; exact J.par i d e (by rw [lockS_out hi]; exact hk)
  · have hi := hw i ⟨d, e⟩ hk
    obtain ⟨⟨d', e'⟩, a1⟩ := fN i hi d e a ha
    exact I.bw i d' e' hk a a1
  · by_cases hi : i ∈ T
    · obtain ⟨d, e⟩ := oi.2
      by_cases o : Live ρ0 i
      · have f : Fs i = Fs0 i := by rw [(fT i hi d e).1, (lk.FpT i hi).1 o]
        rw [f]; exact I.own i ⟨oi.1, o⟩
      · have f : Fs i = [] := by rw [(fT i hi d e).1, (lk.FpT i hi).2 o]
        rw [f]; exact ⟨List.nodup_nil, by intro a h; cases h⟩
    · have := J.own i (own_unlock oi hi)
      exact ⟨this.1, fun a ha p => this.2 a ha ((lk.P0 a).mpr (.inl p))⟩
  · obtain ⟨di, ei⟩ := oi.2
    obtain ⟨dj, ej⟩ := oj.2
    by_cases hi : i ∈ T
    · obtain ⟨o1, a1⟩ := fN i hi di ei a ha
      by_cases hj : j ∈ T
      · obtain ⟨o2, a2⟩ := fN j hj dj ej a q
        exact I.dis i j ⟨oi.1, o1⟩ ⟨oj.1, o2⟩ hij a a1 a2
      · exact (J.own j (own_unlock oj hj)).2 a q ((lk.P0 a).mpr (.inr (.inr ⟨i, hi, o1, a1⟩)))
    · by_cases hj : j ∈ T
      · obtain ⟨o2, a2⟩ := fN j hj dj ej a q
        exact (J.own i (own_unlock oi hi)).2 a ha ((lk.P0 a).mpr (.inr (.inr ⟨j, hj, o2, a2⟩)))
      · exact J.dis i j (own_unlock oi hi) (own_unlock oj hj) hij a ha q
  · by_cases hi : i ∈ T
    · obtain ⟨d, e⟩ := oi.2
      rw [(fT i hi d e).2, lk.iv i (.inr hk)]
    · rw [← lk.iv i (.inl hi)]
      exact J.iov i (own_unlock oi hi) (by rw [lockS_out hi]; exact hk)
  · have q0 := I.prot a o p q
    refine J.prot a o ?_ (by rw [lk.H0]; exact q0)
    rcases p with p | p
    · exact .inl ((lk.P0 a).mpr (.inl p))
    · exact .inr (by rw [lockS_c, lk.R]; exact p)
  · obtain ⟨u, z⟩ := I.tr a o q
    exact J.tr a u (by rw [lk.H0]; exact z)
theorem live_wipe (h : bwOk S ws T = true) : ∀ i, Live (wipeE ρ ws) i → S.kd i = .bw → i ∈ T := fun i ⟨d, e⟩ hk => (bwOk_of h hk).resolve_left (wipeE_some e).2

/-! ### what is walked -/
/-- at each turn the item of ds, while the ground stands -/
structure ItOk (C : Core) (R : Addr → Prop) (pu : Bool) (Hs : Hp) (Fp : List Addr) (J : It) (ds : List D) : Prop where
  step : ∀ H, (∀ a o, Hs a = some o → (¬ Mu C R o a ∨ a ∈ Fp) → H a = some o) → ∀ i d, ds[i]? = some d → J.go i H ∧ ∀ x H', J.yld i H x H' → Same H H' ∧ ∃ G, Rep C R H' d x G ∧ (pu = true → G = []) ∧ ∀ a ∈ G, a ∈ Fp
  stop : ∀ H, (∀ a o, Hs a = some o → (¬ Mu C R o a ∨ a ∈ Fp) → H a = some o) → ∀ i, ds.length ≤ i → J.stop i H
  len : ds.length ≤ sizeLine
def RIt (S : Sig) (W : WX) (T : List Nat) (pu : Bool) (eff : Bool) (ev : M (List D)) (t : TI) : Prop :=
  ∀ (B : Base) (ρ : Env) (σ : L2.St) (Fs : Nat → List Addr) (H : Hp) (Q : It → Hp → Prop), EnvR S B ρ σ Fs H →
    Wn (ErW S B W) (fun ds ρ' => ∀ J H' Fs' Fp, EnvR S B ρ' σ Fs' H' → Step S eff ρ Fs H ρ' Fs' H' → Wk S B T ρ' Fs' H' Fp → ItOk S.c B.R pu H' Fp J ds → Q J H') (ev ρ) → t σ H Q
structure XIt (X : Cx) (S : Sig) (W : WX) (tg iter : Expr) (T : List Nat) (pu : Bool) (eff : Bool) (ev : M (List D)) : Prop where
  ex : ∃ t, PI X tg iter t ∧ RIt S W T pu eff ev t
/-- what a store to targets leaves -/
structure Bnd (S : Sig) (ts : List Nat) (ρ ρ' : Env) (σ σ' : L2.St) (Fs Fs' : Nat → List Addr) : Prop where
  sg : ∀ i, i ∉ ts → σ'[i]? = σ[i]?
  rh : ∀ i, i ∉ ts → ρ'[i]? = ρ[i]?
  own : ∀ i, Own S ρ' i → Own S ρ i ∧ Fs' i = Fs i
  back : ∀ i, Own S ρ i → Own S ρ' i
  len : σ'.length = σ.length
  le2 : ρ'.length = ρ.length
/-- a target: bd stores an item; ts the slots that it fills -/
def RG (S : Sig) (pu : Bool) (ts : List Nat) (bd : D → Env → Option Env) (g : TG) : Prop :=
  ∀ (B : Base) (ρ ρ' : Env) (σ : L2.St) (Fs : Nat → List Addr) (H : Hp) (d : D) (x : V) (G : List Addr) (Q : L2.St → Hp → Prop), EnvR S B ρ σ Fs H → Rep S.c B.R H d x G → (pu = true → G = []) → (∀ a ∈ G, B.P0 a) → bd d ρ = some ρ' →
    (∀ σ' Fs', EnvR S B ρ' σ' Fs' H → Bnd S ts ρ ρ' σ σ' Fs Fs' → Q σ' H) → g x σ H Q
structure XG (X : Cx) (S : Sig) (pu : Bool) (tg : Expr) (ts : List Nat) (bd : D → Env → Option Env) : Prop where
  ex : ∃ g, PG X tg g ∧ RG S pu ts bd g
def plS (S : Sig) (i : Nat) : Bool := match S.kd i with | .pl => true | _ => false
theorem plS_pl {i : Nat} (h : plS S i = true) : S.kd i = .pl := by
  unfold plS at h
  cases q : S.kd i <;> rw [q] at h <;> first | rfl | cases h
def gSet (i : Nat) : D → Env → Option Env := fun d ρ => some (ρ.set i (some d))
/-- a slot that takes an item: plain ones plain items -/
def takeS (S : Sig) (pu : Bool) (i : Nat) : Bool := match S.kd i with | .pl => pu | .bw => true | _ => false
theorem takeS_of {pu : Bool} {i : Nat} (h : takeS S pu i = true) : (S.kd i = .pl ∧ pu = true) ∨ S.kd i = .bw := by
  unfold takeS at h
  cases q : S.kd i <;> rw [q] at h <;> first | exact .inl ⟨rfl, h⟩ | exact .inr rfl | cases h
theorem rg_name {pu : Bool} {i : Nat} (h : takeS S pu i = true) : RG S pu [i] (gSet i) (gName i) := fun B ρ ρ' σ Fs H d x G Q I r g0 g1 hb k => by
  cases hb
  have hk := takeS_of h
  have no : ∀ {ρ2 : Env} {j : Nat}, Own S ρ2 j → j ≠ i := fun {ρ2 j} oj z => by
    subst z
    rcases hk with ⟨hk, _⟩ | hk <;> rcases oj.1 with q | q <;> rw [hk] at q <;> cases q
  refine k _ _ (I.put r (hk.elim (fun z => .inl ⟨z.1, g0 z.2⟩) fun z => .inr (.inl ⟨z, g1⟩))) ⟨fun j hj => ?_, fun j hj => ?_, fun j oj => ?_, fun j oj => ?_, by simp, by simp⟩
  · rw [List.getElem?_set_ne (by simpa using Ne.symm (by simpa using hj))]
  · rw [List.getElem?_set_ne (by simpa using Ne.symm (by simpa using hj))]
  · obtain ⟨d', q⟩ := oj.2
    rw [List.getElem?_set_ne (Ne.symm (no oj))] at q
    exact ⟨⟨oj.1, d', q⟩, by simp only [if_neg (no oj)]⟩
  · obtain ⟨d', q⟩ := oj.2
    exact ⟨oj.1, d', by rw [List.getElem?_set_ne (Ne.symm (no oj))]; exact q⟩
theorem xg_name {pu : Bool} (i : Nat) {x : Str} {p : Pos} (hN : X.N.Nodup) (h : takeS S pu i = true := by rfl) (hi : X.N[i]? = some x := by rfl) (hx : Loc X.env.scope x := by first | exact Or.inl rfl | exact Or.inr rfl) (hf : X.fn x = true ∨ X.env.scope.names.lookup x = some .local := by first | exact .inl rfl | exact .inr rfl) :
    XG X S pu (.Name x p) [i] (gSet i) := ⟨_, pg_name hN hi hx hf, rg_name h⟩
/-- several targets of a tuple -/
def RGs (S : Sig) (pu : Bool) (ts : List Nat) (bd : List D → Env → Option Env) (g : TGs) : Prop :=
  ∀ (B : Base) (ρ ρ' : Env) (σ : L2.St) (Fs : Nat → List Addr) (H : Hp) (ds : List D) (xs : List V) (G : List Addr) (Q : L2.St → Hp → Prop), EnvR S B ρ σ Fs H → Reps S.c B.R H ds xs G → (pu = true → G = []) → (∀ a ∈ G, B.P0 a) → bd ds ρ = some ρ' →
    (∀ σ' Fs', EnvR S B ρ' σ' Fs' H → Bnd S ts ρ ρ' σ σ' Fs Fs' → Q σ' H) → g xs σ H Q
structure XGs (X : Cx) (S : Sig) (pu : Bool) (tgs : List Expr) (ts : List Nat) (bd : List D → Env → Option Env) : Prop where
  ex : ∃ g, PGs X tgs g ∧ RGs S pu ts bd g
def gsNil : List D → Env → Option Env := fun ds ρ => match ds with | [] => some ρ | _ => none
def gsCons (a : D → Env → Option Env) (b : List D → Env → Option Env) : List D → Env → Option Env := fun ds ρ => match ds with | d :: ds => (a d ρ).bind (b ds) | [] => none
theorem xgs_nil {pu : Bool} : XGs X S pu [] [] gsNil := ⟨_, pgs_nil, fun B ρ ρ' σ Fs H ds xs G Q I r _ _ hb k => by
  cases ds with
  | nil => cases hb; cases r; exact ⟨rfl, k σ Fs I ⟨fun _ _ => rfl, fun _ _ => rfl, fun i o => ⟨o, rfl⟩, fun i o => o, rfl, rfl⟩⟩
  | cons => cases hb⟩
theorem xgs_cons {pu : Bool} {tg : Expr} {tgs : List Expr} {ts us : List Nat} {a : D → Env → Option Env} {b : List D → Env → Option Env} (ha : XG X S pu tg ts a) (hb : XGs X S pu tgs us b) (hs : (assignEach (tg :: tgs) X.env).map (·.2) = assign tg X.env :: (assignEach tgs X.env).map (·.2) := by rfl) : XGs X S pu (tg :: tgs) (ts ++ us) (gsCons a b) := by
  obtain ⟨g, pg, rg⟩ := ha.ex
  obtain ⟨gs, pgs, rgs⟩ := hb.ex
  refine ⟨_, pgs_cons pg pgs hs, fun B ρ ρ' σ Fs H ds xs G Q I r g0 g1 h k => ?_⟩
  cases r with
  | nil => cases h
  | cons r1 r2 =>
    rename_i d x F1 ds ys F2
    unfold gsCons at h
    simp only at h
    have z1 : pu = true → F1 = [] := fun z => (List.append_eq_nil_iff.mp (g0 z)).1
    have z2 : pu = true → F2 = [] := fun z => (List.append_eq_nil_iff.mp (g0 z)).2
    cases q : a d ρ with
    | none => rw [q] at h; cases h
    | some ρ1 =>
      rw [q] at h
      refine ⟨x, ys, rfl, rg B ρ ρ1 σ Fs H d x F1 _ I r1 z1 (fun a ha => g1 a (List.mem_append_left _ ha)) q fun σ1 Fs1 I1 b1 => rgs B ρ1 ρ' σ1 Fs1 H ds ys F2 _ I1 r2 z2 (fun a ha => g1 a (List.mem_append_right _ ha)) h fun σ2 Fs2 I2 b2 => k σ2 Fs2 I2 ⟨fun i hi => ?_, fun i hi => ?_, fun i o => ?_, fun i o => b2.back i (b1.back i o), b2.len.trans b1.len, b2.le2.trans b1.le2⟩⟩
      · rw [List.mem_append, not_or] at hi
        rw [b2.sg i hi.2, b1.sg i hi.1]
      · rw [List.mem_append, not_or] at hi
        rw [b2.rh i hi.2, b1.rh i hi.1]
      · obtain ⟨p1, p2⟩ := b2.own i o
        obtain ⟨p3, p4⟩ := b1.own i p1
        exact ⟨p3, p2.trans p4⟩
def gTupD (b : List D → Env → Option Env) : D → Env → Option Env := fun d ρ => match d with | .tup ds => b ds ρ | _ => none
theorem xg_tup {pu : Bool} (hk : X.K = S.c.K) {es : List Expr} {k n : Nat} {p : Pos} {ts : List Nat} {b : List D → Env → Option Env} (hc : X.calm = true) (hb : XGs X S pu es ts b) (hl : ∀ ds ρ ρ', b ds ρ = some ρ' → ds.length = n) (hn : (assignEach es X.env).length = n := by rfl) (hst : (assignEach es X.env).findIdx? (·.1) = none := by rfl) :
    XG X S pu (.Tuple es k p) ts (gTupD b) := by
  obtain ⟨gs, pgs, rgs⟩ := hb.ex
  refine ⟨_, pg_tup hc pgs hn hst, fun B ρ ρ' σ Fs H d x G Q I r g0 g1 h k => ?_⟩
  unfold gTupD at h
  split at h
  · rename_i ds
    cases r with
    | tup q l r => exact ⟨_, _, rfl, by rw [hk]; exact q, by rw [← r.length]; exact hl _ _ _ h, rgs B ρ ρ' σ Fs H ds _ _ Q I r g0 g1 h k⟩
  · cases h
/-! ### loops -/
def loopS (bd : D → Env → Option Env) (body : Ms) : List D → Env → So
  | [], ρ => .nx ρ
  | d :: ds, ρ => match bd d ρ with
    | none => .st
    | some ρ1 => match body ρ1 with
      | .nx ρ2 => loopS bd body ds ρ2
      | .ct ρ2 => loopS bd body ds ρ2
      | .bk ρ2 => .nx ρ2
      | .ret d ρ2 => .ret d ρ2
      | .er c fs ρ2 => .er c fs ρ2
      | .st => .st
def wipeSo (ws : List Nat) : So → So
  | .nx ρ => .nx (wipeE ρ ws) | .ret d ρ => .ret d (wipeE ρ ws) | .bk ρ => .bk (wipeE ρ ws) | .ct ρ => .ct (wipeE ρ ws) | .er c fs ρ => .er c fs (wipeE ρ ws) | .st => .st
theorem wipeSo_nil (o : So) : wipeSo [] o = o := by cases o <;> rfl
def sFor (ws : List Nat) (it : M (List D)) (bd : D → Env → Option Env) (body : Ms) : Ms := fun ρ => bindS (it ρ) fun ds ρ => wipeSo ws (loopS bd body ds ρ)
theorem own_of_lock {i : Nat} (h : Own (lockS S T) ρ i) : Own S ρ i := (own_lock h).1
theorem own_drop {i : Nat} (h : Own S (wipeE ρ ws) i) : Own S ρ i := let ⟨d, e⟩ := h.2; ⟨h.1, d, (wipeE_some e).1⟩
theorem RetOk.unlock {ρ0 : Env} {σ0 : L2.St} {Fs0 : Nat → List Addr} {H0 : Hp} (lk : Lk S B T ρ0 σ0 Fs0 H0 Fp B') (J : EnvR (lockS S T) B' ρ σ Fs H) (h : RetOk (lockS S T) B' rm ρ Fs F) : RetOk S B rm (wipeE ρ ws) Fs F := by
  cases rm with
  | bo => trivial
  | pu => exact h
  | al _ => exact h
  | fr =>
    refine ⟨h.1, fun a ha p => h.2.1 a ha ((lk.P0 a).mpr (.inl p)), fun i oi a ha q => ?_⟩
    have oi := own_drop oi
    by_cases hi : i ∈ T
    · obtain ⟨d, e⟩ := oi.2
      have f := (J.par i d e (lockS_in hi)).1
      rw [f] at q
      exact h.2.1 a ha (B'.wf i a q)
    · exact h.2.2 i (own_unlock oi hi) a ha q
theorem SWn.unlock {ρ0 : Env} {σ0 : L2.St} {Fs0 : Nat → List Addr} {H0 : Hp} {E : Ends} {o : So} (hw : bwOk S ws T = true) (I : EnvR S B ρ0 σ0 Fs0 H0) (wk : Wk S B T ρ0 Fs0 H0 Fp) (lk : Lk S B T ρ0 σ0 Fs0 H0 Fp B') (h : SWn S B W rm E (wipeSo ws o)) : SWn (lockS S T) B' W rm E o := by
  have u : ∀ {ρ' σ' Fs' H'}, EnvR (lockS S T) B' ρ' σ' Fs' H' → EnvR S B (wipeE ρ' ws) σ' Fs' H' := fun J => I.unlock wk lk J.drop (live_wipe hw)
  cases o with
  | nx ρ' => exact fun σ' Fs' H' J => h σ' Fs' H' (u J)
  | ret d ρ' => exact fun v σ' Fs' H' F J r rr => h v σ' Fs' H' F (u J) (by rw [lockS_c, lk.R] at r; exact r) (RetOk.unlock lk J rr)
  | bk ρ' => exact fun σ' Fs' H' J => h σ' Fs' H' (u J)
  | ct ρ' => exact fun σ' Fs' H' J => h σ' Fs' H' (u J)
  | er c fs ρ' => exact fun σ' Fs' H' dd J xd => by rw [lockS_c]; exact h σ' Fs' H' dd (u J) (by rw [lockS_c, lk.R] at xd; exact xd)
  | st => exact h
theorem xs_for {pu : Bool} {tg iter : Expr} {body : List Stmt} {T ts : List Nat} {it : M (List D)} {bd : D → Env → Option Env} {eb : Ms} (ws : List Nat) (hp : PassesOwn (model X.prog X.w) X.A X.env X.xe) (hc : X.calm = true) (hi : XIt X S W tg iter T pu e1 it) (hg : XG X (lockS S T) pu tg ts bd) (hb : XSs X (lockS S T) W rm body eb)
    (hw : bwOk S ws T = true := by rfl) (hs : ∀ x, foldedSetIterable iter X.env x = Pure.pure x := by intro _; rfl) : XS X S W rm (.For tg iter body [] pos) (sFor ws it bd eb) := by
  obtain ⟨ti, pi, ri⟩ := hi.ex
  obtain ⟨g, pg, rg⟩ := hg.ex
  obtain ⟨tb, pb, rb⟩ := hb.ex
  refine ⟨_, ps_for hp hc pi pg pb hs, fun B ρ σ Fs H E I h => ri B ρ σ Fs H _ I (h.bind.imp fun ds ρ1 _ h1 J H1 Fs1 Fp I1 s1 wk ok => ?_)⟩
  obtain ⟨B', lk⟩ := Lk.mk' S B T ρ1 σ Fs1 H1 Fp
  have ground : ∀ {ρ2 σ2 Fs2 H2}, EnvR (lockS S T) B' ρ2 σ2 Fs2 H2 → ∀ a o, H1 a = some o → (¬ Mu S.c B.R o a ∨ a ∈ Fp) → H2 a = some o := fun {ρ2 σ2 Fs2 H2} J2 a o q z => by
    refine J2.prot a o ?_ (by rw [lk.H0]; exact q)
    rcases z with z | z
    · exact .inr (by rw [lockS_c, lk.R]; exact z)
    · exact .inl ((lk.P0 a).mpr (.inr (.inl z)))
  have u : ∀ {ρ' σ' Fs' H'}, EnvR (lockS S T) B' ρ' σ' Fs' H' → EnvR S B (wipeE ρ' ws) σ' Fs' H' := fun J => I1.unlock wk lk J.drop (live_wipe hw)
  refine ⟨fun i m σ H => i ≤ ds.length ∧ m = ds.length - i ∧ ∃ ρ Fs, EnvR (lockS S T) B' ρ σ Fs H ∧ SWn S B W rm E (wipeSo ws (loopS bd eb (ds.drop i) ρ)), ⟨_, Nat.zero_le _, rfl, ρ1, Fs1, I1.lock wk lk, by simpa using h1⟩, fun i m σ2 H2 ⟨hi, hm, ρ2, Fs2, J2, h2⟩ => ?_⟩
  by_cases hl : i < ds.length
  · have hd : ds[i]? = some ds[i] := List.getElem?_eq_getElem hl
    obtain ⟨go, yld⟩ := ok.step H2 (ground J2) i _ hd
    refine .inr ⟨go, fun σ' H' => ∃ ρ Fs, EnvR (lockS S T) B' ρ σ' Fs H' ∧ SWn S B W rm E (wipeSo ws (loopS bd eb (ds.drop (i + 1)) ρ)), fun σ' H' ⟨ρ', Fs', a, b⟩ => ⟨_, by omega, by omega, rfl, ρ', Fs', a, b⟩, fun x H' hx => ?_⟩
    obtain ⟨sm, G, rx, g0, g1⟩ := yld x H' hx
    rw [List.drop_eq_getElem_cons hl] at h2
    unfold loopS at h2
    cases q : bd ds[i] ρ2 with
    | none => rw [q] at h2; exact h2.elim
    | some ρ3 =>
      rw [q] at h2
      refine rg B' ρ2 ρ3 σ2 Fs2 H' _ x G _ (J2.same sm) (by rw [lockS_c, lk.R]; exact rx) g0 (fun a ha => (lk.P0 a).mpr (.inr (.inl (g1 a ha)))) q fun σ3 Fs3 J3 _ => rb B' ρ3 σ3 Fs3 H' _ J3 ?_
      simp only at h2
      cases o : eb ρ3 with
      | nx ρ4 => rw [o] at h2; exact fun σ' Fs' H'' J' => ⟨ρ4, Fs', J', h2⟩
      | ct ρ4 => rw [o] at h2; exact fun σ' Fs' H'' J' => ⟨ρ4, Fs', J', h2⟩
      | bk ρ4 => rw [o] at h2; exact fun σ' Fs' H'' J' => h2 σ' Fs' H'' (u J')
      | ret d ρ4 => rw [o] at h2; exact SWn.unlock (o := .ret d ρ4) hw I1 wk lk h2
      | er c fs ρ4 => rw [o] at h2; exact SWn.unlock (E := E) (o := .er c fs ρ4) hw I1 wk lk h2
      | st => rw [o] at h2; exact h2.elim
  · refine .inl ⟨ok.stop H2 (ground J2) i (by omega), ?_⟩
    rw [List.drop_eq_nil_of_le (by omega)] at h2
    exact h2 σ2 Fs2 H2 (u J2)
end
end EL

namespace EL
open PySem PySem.Spec PyProof.Rows
open L2 hiding XE
section
variable {X : Cx} {S : Sig} {B B' : Base} {W : WX} {m m1 m2 rm : Md} {e1 e2 : Bool} {σ σ' : L2.St} {ρ ρ1 ρ' : Env} {Fs Fs1 Fs' : Nat → List Addr} {H H1 H' : Hp} {d : D} {v : V} {F Fp : List Addr} {pos : Pos} {T : List Nat}
/-! ### sources -/
/-- a list, a tuple or a text, walked -/
def iSeq (K : PySem.W.Frag) (tl : TE) : TI := fun σ H R => tl σ H fun x H1 => (∃ a, x = .ref a ∧ (∃ xs, SqL K H1 a xs) ∧ R (Itl K a) H1) ∨ (∃ a, x = .ref a ∧ (∃ xs, SqT K H1 a xs) ∧ R (Itt K a) H1) ∨ ∃ z, x = .str z ∧ R (Its z) H1
theorem pi_seq {tg l : Expr} {tl : TE} (hl : PE X l tl) : PI X tg l (iSeq X.K tl) := by
  refine ⟨fun pins s σ H R I h => ?_⟩
  refine thn (hl.run pins s σ H _ I h) fun v s1 ⟨x, H1, I1, r1, q1⟩ => ?_
  rcases q1 with ⟨a, e, ⟨xs, hq⟩, q⟩ | ⟨a, e, ⟨xs, hq⟩, q⟩ | ⟨z, e, q⟩
  · subst e
    cases r1
    obtain ⟨its, rv, p, hz⟩ := I1.list hq
    refine wpAny_pyIter_list p.isList ⟨s1.heap.objs.size, [s1.heap.objs.size], _, _, H1, rfl, I1.kept (t' := s1.toks) (fun b o e => Heap.get?_push_of_some _ e), turn_list a _, ⟨_, Heap.get?_push_size _ rfl, rfl, rfl⟩, (fun b hb => ?_), q⟩
    obtain rfl : b = s1.heap.objs.size := by simpa using hb
    exact I1.fpOk (Nat.le_refl _) (I1.hok.fresh (Nat.le_refl _))
  · subst e
    cases r1
    obtain ⟨its, rv, p, hz⟩ := I1.tuple hq
    refine wpAny_pyIter_tuple (show s1.heap.IsTuple a its.toArray from p) ⟨s1.heap.objs.size, [s1.heap.objs.size], _, _, H1, rfl, I1.kept (t' := s1.toks) (fun b o e => Heap.get?_push_of_some _ e), turn_tuple a _, ⟨_, Heap.get?_push_size _ rfl, rfl, rfl⟩, (fun b hb => ?_), q⟩
    obtain rfl : b = s1.heap.objs.size := by simpa using hb
    exact I1.fpOk (Nat.le_refl _) (I1.hok.fresh (Nat.le_refl _))
  · subst e
    obtain ⟨t, rfl⟩ := r1
    cases ha : z.cps.all (· < 128)
    · exact wpAny_pyIter_wide ha (pi_one (tk := s1.toks) I1 _ (turn_str _ z t "str_iterator" (.inr rfl)) ⟨_, Heap.get?_push_size _ rfl, rfl, rfl⟩ q)
    · exact wpAny_pyIter_ascii ha (pi_one (tk := s1.toks) I1 _ (turn_str _ z t "str_ascii_iterator" (.inl rfl)) ⟨_, Heap.get?_push_size _ rfl, rfl, rfl⟩ q)
/-- the signs of a text, each a text -/
def signsD (x : Str) : List D := x.cps.toList.map fun c => .str ⟨#[c]⟩
/-- the items of a source that cannot change -/
def itemsD : D → Option (List D)
  | .lst ds => if pureDs ds then some ds else none
  | .scr ds => if pureDs ds then some ds else none
  | .tup ds => if pureDs ds then some ds else none
  | .str x => if x.length ≤ sizeLine then some (signsD x) else none
  | _ => none
def itSeq (a : M D) : M (List D) := fun ρ => bindR (a ρ) fun d ρ => match itemsD d with | some ds => .ok ds ρ | none => .st
def Md.ts : Md → List Nat | .al T => T | _ => []
def Md.walk : Md → Bool | .bo => false | _ => true
protected theorem Reps.at' {C : Core} {R : Addr → Prop} {ds : List D} {vs : List V} (r : Reps C R H ds vs []) {i : Nat} (e : ds[i]? = Option.some d) : ∃ v, vs[i]? = Option.some v ∧ Rep C R H d v [] := by
  obtain ⟨v, G, A, Bb, h1, h2, h3⟩ := r.get e
  have h4 := h3.symm
  simp only [List.append_eq_nil_iff] at h4
  obtain ⟨⟨rfl, rfl⟩, rfl⟩ := h4
  exact ⟨v, h1, h2⟩
theorem Wk.of {ρ0 : Env} {Fs0 : Nat → List Addr} {H0 : Hp} (q : Post S B m e1 σ ρ0 Fs0 H0 ρ d v H Fs F) (hw : m.walk = true) (hT : m.ts.all (hasT S) = true) : Wk S B m.ts ρ Fs H F := by
  refine ⟨q.rep.some, fun a ha i oi hi => ?_, fun i hi => List.all_eq_true.mp hT i hi⟩
  have h := q.md
  cases m with
  | bo => cases hw
  | pu => rw [show F = [] from h] at ha; cases ha
  | fr => exact absurd hi (h.2.2 i oi a ha)
  | al T =>
    rcases h a ha with p | ⟨j, hj, oj, z⟩
    · exact absurd p ((q.env.own i oi).2 a hi)
    · by_cases e : i = j
      · subst e; exact hj
      · exact absurd z (q.env.dis i j oi oj e a hi)
theorem rit_seq {ea : M D} {ta : TE} (K : PySem.W.Frag) (hK : K = S.c.K) (ra : RE S W m e1 ea ta) (hw : m.walk = true) (hT : m.ts.all (hasT S) = true) : RIt S W m.ts true e1 (itSeq ea) (iSeq K ta) := fun B ρ σ Fs H Q I h => by
  subst hK
  refine ra B ρ σ Fs H _ I (h.bind.imp fun d ρ1 _ h1 v H1 Fs1 F q => ?_)
  have wk := Wk.of q hw hT
  cases hd : itemsD d with
  | none => rw [hd] at h1; exact h1.elim
  | some ds =>
    rw [hd] at h1
    have rr := q.rep
    have fin := fun J ok => h1 J H1 Fs1 F q.env q.step wk ok
    cases rr with
    | tup hs l r =>
      simp only [itemsD] at hd
      split at hd <;> cases hd
      rename_i hp
      have e := r.pure hp
      subst e
      refine .inr (.inl ⟨_, rfl, ⟨_, hs⟩, fin _ ⟨fun H2 g i d e => ?_, fun H2 g i hi => ?_, by rw [r.length]; exact l⟩⟩)
      all_goals have hs2 := (Rep.keep g (.tup hs l r)); cases hs2 with | tup hs2 l2 r2 => ?_
      · obtain ⟨x, hx, rx⟩ := r2.at' e
        refine ⟨⟨_, x, hs2, hx⟩, fun y H' hy => ?_⟩
        obtain ⟨rfl, hy⟩ := hy
        have := hy _ hs2
        rw [hx] at this; cases this
        exact ⟨Same.refl _, [], rx, fun _ => rfl, fun a h => by cases h⟩
      · exact ⟨_, hs2, by rw [← r2.length]; exact hi⟩
    | lst hs l r =>
      simp only [itemsD] at hd
      split at hd <;> cases hd
      rename_i hp
      have e := r.pure hp
      subst e
      refine .inl ⟨_, rfl, ⟨_, SqL.of hs⟩, fin _ ⟨fun H2 g i d e => ?_, fun H2 g i hi => ?_, by rw [r.length]; exact l⟩⟩
      · have h2 := g _ _ hs (.inr (by simp))
        obtain ⟨x, hx, rx⟩ := r.at' e
        refine ⟨⟨_, x, SqL.of h2, hx⟩, fun y H' hy => ?_⟩
        obtain ⟨rfl, hy⟩ := hy
        have := hy _ (SqL.of h2)
        rw [hx] at this; cases this
        exact ⟨Same.refl _, [], rx.keep fun a o q z => g a o q (z.imp id fun z => by cases z), fun _ => rfl, fun a h => by cases h⟩
      · exact ⟨_, SqL.of (g _ _ hs (.inr (by simp))), by rw [← r.length]; exact hi⟩
    | scr hs l r =>
      simp only [itemsD] at hd
      split at hd <;> cases hd
      rename_i hp
      have e := r.pure hp
      subst e
      have sq : ∀ {H2 : Hp}, (∀ a o, H1 a = some o → (¬ Mu S.c B.R o a ∨ a ∈ []) → H2 a = some o) → SqL S.c.K H2 _ _ := fun g => (hs.keep fun o u q => g _ _ q (.inl fun z => z)).toL
      refine .inl ⟨_, rfl, ⟨_, hs.toL⟩, fin _ ⟨fun H2 g i d e => ?_, fun H2 g i hi => ?_, by rw [r.length]; exact l⟩⟩
      · obtain ⟨x, hx, rx⟩ := r.at' e
        refine ⟨⟨_, x, sq g, hx⟩, fun y H' hy => ?_⟩
        obtain ⟨rfl, hy⟩ := hy
        have := hy _ (sq g)
        rw [hx] at this; cases this
        exact ⟨Same.refl _, [], rx.keep g, fun _ => rfl, fun a h => by cases h⟩
      · exact ⟨_, sq g, by rw [← r.length]; exact hi⟩
    | str z =>
      simp only [itemsD] at hd
      split at hd <;> cases hd
      rename_i hp
      refine .inr (.inr ⟨z, rfl, fin _ ⟨fun H2 g i d e => ?_, fun H2 g i hi => ?_, by simp [signsD]; exact hp⟩⟩)
      · have e2 : z.cps.toList[i]?.map (fun c => D.str ⟨#[c]⟩) = some d := by rw [← List.getElem?_map]; exact e
        cases hc : z.cps.toList[i]? with
        | none => rw [hc] at e2; cases e2
        | some c =>
          rw [hc] at e2
          cases e2
          have hc' : z.cps[i]? = some c := by rw [← Array.getElem?_toList]; exact hc
          refine ⟨(Array.getElem?_eq_some_iff.mp hc').1, fun y H' hy => ?_⟩
          obtain ⟨rfl, c', h3, rfl⟩ := hy
          rw [hc'] at h3; cases h3
          exact ⟨Same.refl _, [], .str _, fun _ => rfl, fun a h => by cases h⟩
      · exact (show z.cps.size ≤ i by simpa [signsD] using hi)
    | non => cases hd
    | bl => cases hd
    | int => cases hd
    | dic => cases hd
    | ins => cases hd
    | obj => cases hd
theorem xi_seq {tg l : Expr} {ea : M D} (hK : X.K = S.c.K) (ha : XE X S W l m e1 ea) (hw : m.walk = true := by rfl) (hT : m.ts.all (hasT S) = true := by rfl) : XIt X S W tg l m.ts true e1 (itSeq ea) := by
  obtain ⟨t, p, r⟩ := ha.ex
  exact ⟨_, pi_seq p, rit_seq X.K hK r hw hT⟩
/-- the items of any list or tuple -/
def itemsX : D → Option (List D)
  | .lst ds => some ds
  | .scr ds => some ds
  | .tup ds => some ds
  | _ => none
def itSeqX (a : M D) : M (List D) := fun ρ => bindR (a ρ) fun d ρ => match itemsX d with | some ds => .ok ds ρ | none => .st
theorem Reps.at2 {C : Core} {R : Addr → Prop} {ds : List D} {vs : List V} (r : Reps C R H ds vs F) {i : Nat} (e : ds[i]? = Option.some d) : ∃ v G, vs[i]? = Option.some v ∧ Rep C R H d v G ∧ ∀ a ∈ G, a ∈ F := by
  obtain ⟨v, G, A, Bb, h1, h2, h3⟩ := r.get e
  exact ⟨v, G, h1, h2, fun a ha => by rw [h3]; simp [ha]⟩
theorem rit_seqX {ea : M D} {ta : TE} (K : PySem.W.Frag) (hK : K = S.c.K) (ra : RE S W m e1 ea ta) (hw : m.walk = true) (hT : m.ts.all (hasT S) = true) : RIt S W m.ts false e1 (itSeqX ea) (iSeq K ta) := fun B ρ σ Fs H Q I h => by
  subst hK
  refine ra B ρ σ Fs H _ I (h.bind.imp fun d ρ1 _ h1 v H1 Fs1 F q => ?_)
  have wk := Wk.of q hw hT
  cases hd : itemsX d with
  | none => rw [hd] at h1; exact h1.elim
  | some ds =>
    rw [hd] at h1
    have rr := q.rep
    have fin := fun J ok => h1 J H1 Fs1 F q.env q.step wk ok
    cases rr with
    | tup hs l r =>
      cases hd
      refine .inr (.inl ⟨_, rfl, ⟨_, hs⟩, fin _ ⟨fun H2 g i d e => ?_, fun H2 g i hi => ?_, by rw [r.length]; exact l⟩⟩)
      all_goals have hs2 := (Rep.keep g (.tup hs l r)); cases hs2 with | tup hs2 l2 r2 => ?_
      · obtain ⟨x, G, hx, rx, hG⟩ := r2.at2 e
        refine ⟨⟨_, x, hs2, hx⟩, fun y H' hy => ?_⟩
        obtain ⟨rfl, hy⟩ := hy
        have := hy _ hs2
        rw [hx] at this; cases this
        exact ⟨Same.refl _, G, rx, (by intro z; cases z), hG⟩
      · exact ⟨_, hs2, by rw [← r2.length]; exact hi⟩
    | lst hs l r =>
      cases hd
      refine .inl ⟨_, rfl, ⟨_, SqL.of hs⟩, fin _ ⟨fun H2 g i d e => ?_, fun H2 g i hi => ?_, by rw [r.length]; exact l⟩⟩
      · have h2 := g _ _ hs (.inr (by simp))
        obtain ⟨x, G, hx, rx, hG⟩ := r.at2 e
        refine ⟨⟨_, x, SqL.of h2, hx⟩, fun y H' hy => ?_⟩
        obtain ⟨rfl, hy⟩ := hy
        have := hy _ (SqL.of h2)
        rw [hx] at this; cases this
        exact ⟨Same.refl _, G, rx.keep fun a o q z => g a o q (z.imp id fun z => List.mem_cons_of_mem _ (hG a z)), (by intro z; cases z), fun a ha => List.mem_cons_of_mem _ (hG a ha)⟩
      · exact ⟨_, SqL.of (g _ _ hs (.inr (by simp))), by rw [← r.length]; exact hi⟩
    | scr hs l r =>
      cases hd
      have sq : ∀ {H2 : Hp}, (∀ a o, H1 a = some o → (¬ Mu S.c B.R o a ∨ a ∈ F) → H2 a = some o) → SqL S.c.K H2 _ _ := fun g => (hs.keep fun o u q => g _ _ q (.inl fun z => z)).toL
      refine .inl ⟨_, rfl, ⟨_, hs.toL⟩, fin _ ⟨fun H2 g i d e => ?_, fun H2 g i hi => ?_, by rw [r.length]; exact l⟩⟩
      · obtain ⟨x, G, hx, rx, hG⟩ := r.at2 e
        refine ⟨⟨_, x, sq g, hx⟩, fun y H' hy => ?_⟩
        obtain ⟨rfl, hy⟩ := hy
        have := hy _ (sq g)
        rw [hx] at this; cases this
        exact ⟨Same.refl _, G, rx.keep fun a o q z => g a o q (z.imp id (hG a)), (by intro z; cases z), hG⟩
      · exact ⟨_, sq g, by rw [← r.length]; exact hi⟩
    | str z => cases hd
    | non => cases hd
    | bl => cases hd
    | int => cases hd
    | dic => cases hd
    | ins => cases hd
    | obj => cases hd
theorem xi_seqX {tg l : Expr} {ea : M D} (hK : X.K = S.c.K) (ha : XE X S W l m e1 ea) (hw : m.walk = true := by rfl) (hT : m.ts.all (hasT S) = true := by rfl) : XIt X S W tg l m.ts false e1 (itSeqX ea) := by
  obtain ⟨t, p, r⟩ := ha.ex
  exact ⟨_, pi_seq p, rit_seqX X.K hK r hw hT⟩
/-- range(n) -/
def rangeD (lo : Int) (n : Nat) : List D := (List.range n).map fun i => .int (lo + (i : Nat))
def okR (i : Int) : Bool := decide (-(2 ^ 62) ≤ i) && decide (i < 2 ^ 62)
def itR1 (a : M (List D)) : M (List D) := fun ρ => bindR (a ρ) fun ds ρ => match ds with | [.int j] => if okR j && decide (j.toNat ≤ sizeLine) then .ok (rangeD 0 j.toNat) ρ else .st | _ => .st
def itR2 (a : M (List D)) : M (List D) := fun ρ => bindR (a ρ) fun ds ρ => match ds with | [.int i, .int j] => if okR i && okR j && decide ((j - i).toNat ≤ sizeLine) then .ok (rangeD i (j - i).toNat) ρ else .st | _ => .st
theorem okR_iff {i : Int} : okR i = true ↔ -(2 ^ 62) ≤ i ∧ i < 2 ^ 62 := by simp [okR]
theorem range_ok {C : Core} {R : Addr → Prop} {lo : Int} {n : Nat} (h : n ≤ sizeLine) : ItOk C R true H [] (Itr lo n) (rangeD lo n) := by
  refine ⟨fun H2 g i d e => ?_, fun H2 g i hi => (show n ≤ i by simpa [rangeD] using hi), by simpa [rangeD] using h⟩
  have hl : i < n := by have := (List.getElem?_eq_some_iff.mp e).1; simpa [rangeD] using this
  have e2 : d = .int (lo + (i : Nat)) := by
    simp only [rangeD, List.getElem?_map, List.getElem?_range hl] at e
    cases e; rfl
  subst e2
  refine ⟨hl, fun x H' hx => ?_⟩
  obtain ⟨rfl, rfl⟩ := hx
  exact ⟨Same.refl _, [], .int _, fun _ => rfl, fun a h => by cases h⟩
theorem Wk.nil : Wk S B [] ρ Fs H [] := ⟨fun a h => (by cases h), (fun a h => by cases h), fun i h => by cases h⟩
theorem Reps.int1 {C : Core} {R : Addr → Prop} {j : Int} {vs : List V} (r : Reps C R H [.int j] vs F) : vs = [.int j] := by
  cases r with | cons r t => cases r; cases t; rfl
theorem Reps.int2 {C : Core} {R : Addr → Prop} {i j : Int} {vs : List V} (r : Reps C R H [.int i, .int j] vs F) : vs = [.int i, .int j] := by
  cases r with | cons r t => cases r; rw [Reps.int1 t]
theorem xi_range1 {tg a : Expr} {ea : M (List D)} {p : Pos} (hg : Gl X "range") (hm : X.mg "range" = none) (ha : XA X S W [a] m e1 ea) (hs : starEach [a] X.env = [(false, eval a X.env)] := by rfl) : XIt X S W tg (.Call (.Name "range" p) [a] [] pos) [] true e1 (itR1 ea) := by
  obtain ⟨t, pa, r⟩ := ha.ex
  refine ⟨_, pi_range1 hg hm pa hs, fun B ρ σ Fs H Q I h => r B ρ σ Fs H _ I (h.bind.imp fun ds ρ1 _ h1 vs H1 Fs1 F q => ?_)⟩
  split at h1
  · rename_i j
    split at h1
    · rename_i hc
      simp only [Bool.and_eq_true, decide_eq_true_eq] at hc
      have := okR_iff.mp hc.1
      exact ⟨_, q.rep.int1, this.1, this.2, h1 _ H1 Fs1 [] q.env q.step Wk.nil (range_ok hc.2)⟩
    · exact h1.elim
  · exact h1.elim
theorem xi_range2 {tg a b : Expr} {ea : M (List D)} {p : Pos} (hg : Gl X "range") (hm : X.mg "range" = none) (ha : XA X S W [a, b] m e1 ea) (hs : starEach [a, b] X.env = [(false, eval a X.env), (false, eval b X.env)] := by rfl) (hs2 : starEach [b] X.env = [(false, eval b X.env)] := by rfl) :
    XIt X S W tg (.Call (.Name "range" p) [a, b] [] pos) [] true e1 (itR2 ea) := by
  obtain ⟨t, pa, r⟩ := ha.ex
  refine ⟨_, pi_range2 hg hm pa hs hs2, fun B ρ σ Fs H Q I h => r B ρ σ Fs H _ I (h.bind.imp fun ds ρ1 _ h1 vs H1 Fs1 F q => ?_)⟩
  split at h1
  · rename_i i j
    split at h1
    · rename_i hc
      simp only [Bool.and_eq_true, decide_eq_true_eq] at hc
      have hi := okR_iff.mp hc.1.1
      have hj := okR_iff.mp hc.1.2
      exact ⟨_, _, q.rep.int2, ⟨hi.1, hi.2, hj.1, hj.2⟩, h1 _ H1 Fs1 [] q.env q.step Wk.nil (range_ok hc.2)⟩
    · exact h1.elim
  · exact h1.elim
/-! ### while -/
def loopW (c : M Bool) (body : Ms) : Nat → Env → So
  | 0, _ => .st
  | n + 1, ρ => bindS (c ρ) fun k ρ => if k then (match body ρ with | .nx ρ => loopW c body n ρ | .ct ρ => loopW c body n ρ | .bk ρ => .nx ρ | r => r) else .nx ρ
open Classical in
noncomputable def sWhile (c : M Bool) (body : Ms) : Ms := fun ρ => if h : ∃ n, loopW c body n ρ ≠ .st then loopW c body (Classical.choose h) ρ else .st
theorem loopW_up {c : M Bool} {body : Ms} : ∀ {n : Nat} {k : Nat} {ρ : Env}, loopW c body n ρ ≠ .st → loopW c body (n + k) ρ = loopW c body n ρ
  | 0, k, ρ, h => absurd rfl h
  | n + 1, k, ρ, h => by
    have e : n + 1 + k = (n + k) + 1 := by omega
    rw [e]
    unfold loopW at h ⊢
    cases q : c ρ with
    | st => rfl
    | er _ _ _ => rfl
    | ok b ρ1 =>
      rw [q] at h
      cases b with
      | false => rfl
      | true =>
        simp only [bindS, if_true] at h ⊢
        cases r : body ρ1 with
        | nx ρ2 => rw [r] at h; simp only at h ⊢; exact loopW_up h
        | ct ρ2 => rw [r] at h; simp only at h ⊢; exact loopW_up h
        | bk ρ2 => rfl
        | ret d ρ2 => rfl
        | er _ _ _ => rfl
        | st => rfl
theorem sWhile_eq {c : M Bool} {body : Ms} {n : Nat} {ρ : Env} (h : loopW c body n ρ ≠ .st) : sWhile c body ρ = loopW c body n ρ := by
  have hx : ∃ n, loopW c body n ρ ≠ .st := ⟨n, h⟩
  unfold sWhile
  rw [dif_pos hx]
  have h2 := Classical.choose_spec hx
  have a := loopW_up (k := n) h2
  have b := loopW_up (k := Classical.choose hx) h
  rw [← a, ← b, Nat.add_comm]
theorem xs_while {c : Expr} {body : List Stmt} {ec : M Bool} {eb : Ms} (hp : PassesOwn (model X.prog X.w) X.A X.env X.xe) (hc : XT X S W c e1 ec) (hb : XSs X S W rm body eb) : XS X S W rm (.While c body [] pos) (sWhile ec eb) := by
  obtain ⟨tc, pc, rc⟩ := hc.ex
  obtain ⟨tb, pb, rb⟩ := hb.ex
  refine ⟨_, ps_while hp pc pb, fun B ρ σ Fs H E I h => ?_⟩
  have hx : ∃ n, loopW ec eb n ρ ≠ .st := by
    apply Classical.byContradiction
    intro hn
    unfold sWhile at h
    rw [dif_neg hn] at h
    exact h
  obtain ⟨n, hn⟩ := hx
  rw [sWhile_eq hn] at h
  refine ⟨fun m σ H => ∃ ρ Fs, EnvR S B ρ σ Fs H ∧ SWn S B W rm E (loopW ec eb m ρ), ⟨n, ρ, Fs, I, h⟩, fun m σ1 H1 ⟨ρ1, Fs1, I1, h1⟩ => ?_⟩
  cases m with
  | zero => exact h1.elim
  | succ m =>
    unfold loopW at h1
    refine rc B ρ1 σ1 Fs1 H1 _ I1 (h1.bind.imp fun k ρ2 _ h2 H2 Fs2 I2 s2 => ?_)
    cases k with
    | false => exact iteF (h2 σ1 Fs2 H2 I2)
    | true =>
      refine iteT ⟨fun σ' H' => ∃ ρ Fs, EnvR S B ρ σ' Fs H' ∧ SWn S B W rm E (loopW ec eb m ρ), fun σ' H' q => ⟨m, Nat.lt_succ_self _, q⟩, rb B ρ2 σ1 Fs2 H2 _ I2 ?_⟩
      simp only [if_true] at h2
      cases r : eb ρ2 with
      | nx ρ3 => rw [r] at h2; exact fun σ' Fs' H' J => ⟨ρ3, Fs', J, h2⟩
      | ct ρ3 => rw [r] at h2; exact fun σ' Fs' H' J => ⟨ρ3, Fs', J, h2⟩
      | bk ρ3 => rw [r] at h2; exact h2
      | ret d ρ3 => rw [r] at h2; exact h2
      | er _ _ _ => rw [r] at h2; exact h2
      | st => rw [r] at h2; exact h2.elim
end
end EL

namespace EL
open PySem PySem.Spec PyProof.Rows
open L2 hiding XE
abbrev W0 : WX := fun _ _ _ _ => False
/-! ### the readings that the tellings are -/
def teOf (S : Sig) (W : WX) (m : Md) (eff : Bool) (ev : M D) : TE := fun σ H Q => ∃ (B : Base) (ρ : Env) (Fs : Nat → List Addr), EnvR S B ρ σ Fs H ∧ Wn (ErW S B W) (fun d ρ' => ∀ v H' Fs' F, Post S B m eff σ ρ Fs H ρ' d v H' Fs' F → Q v H') (ev ρ)
def ttOf (S : Sig) (W : WX) (eff : Bool) (ev : M Bool) : TT := fun σ H Q => ∃ (B : Base) (ρ : Env) (Fs : Nat → List Addr), EnvR S B ρ σ Fs H ∧ Wn (ErW S B W) (fun b ρ' => ∀ H' Fs', EnvR S B ρ' σ Fs' H' → Step S eff ρ Fs H ρ' Fs' H' → Q b H') (ev ρ)
def tgOf (S : Sig) (pu : Bool) (ts : List Nat) (bd : D → Env → Option Env) : TG := fun x σ H Q => ∃ (B : Base) (ρ ρ' : Env) (Fs : Nat → List Addr) (d : D) (G : List Addr), EnvR S B ρ σ Fs H ∧ Rep S.c B.R H d x G ∧ (pu = true → G = []) ∧ (∀ a ∈ G, B.P0 a) ∧ bd d ρ = some ρ' ∧
  (∀ σ' Fs', EnvR S B ρ' σ' Fs' H → Bnd S ts ρ ρ' σ σ' Fs Fs' → Q σ' H)
def tiOf (S : Sig) (W : WX) (T : List Nat) (pu : Bool) (eff : Bool) (ev : M (List D)) : TI := fun σ H Q => ∃ (B : Base) (ρ : Env) (Fs : Nat → List Addr), EnvR S B ρ σ Fs H ∧
    Wn (ErW S B W) (fun ds ρ' => ∀ J H' Fs' Fp, EnvR S B ρ' σ Fs' H' → Step S eff ρ Fs H ρ' Fs' H' → Wk S B T ρ' Fs' H' Fp → ItOk S.c B.R pu H' Fp J ds → Q J H') (ev ρ)
section
variable {X : Cx} {S : Sig} {B B' : Base} {W : WX} {m m1 m2 rm : Md} {e1 e2 e3 : Bool} {σ σ' : L2.St} {ρ ρ1 ρ' : Env} {Fs Fs1 Fs' : Nat → List Addr} {H H1 H' : Hp} {d : D} {v : V} {F Fp : List Addr} {pos : Pos} {T ts : List Nat}
theorem XE.te {e : Expr} {ev : M D} (h : XE X S W e m e1 ev) : PE X e (teOf S W m e1 ev) := by
  obtain ⟨t, p, r⟩ := h.ex
  exact ⟨fun pins s σ H Q I ⟨B, ρ, Fs, J, w⟩ => p.run pins s σ H Q I (r B ρ σ Fs H Q J w)⟩
theorem XT.tt {e : Expr} {ev : M Bool} (h : XT X S W e e1 ev) : PT X e (ttOf S W e1 ev) := by
  obtain ⟨t, p, r⟩ := h.ex
  exact ⟨fun pins s σ H Q I ⟨B, ρ, Fs, J, w⟩ => p.run pins s σ H Q I (r B ρ σ Fs H Q J w)⟩
theorem XG.tg {pu : Bool} {e : Expr} {bd : D → Env → Option Env} (h : XG X S pu e ts bd) : PG X e (tgOf S pu ts bd) := by
  obtain ⟨t, p, r⟩ := h.ex
  exact ⟨fun pins s σ H v u Q I rv ⟨B, ρ, ρ', Fs, d, G, J, rr, g0, g1, hb, k⟩ => p.run pins s σ H v u Q I rv (r B ρ ρ' σ Fs H d v G Q J rr g0 g1 hb k)⟩
theorem XIt.ti {pu : Bool} {tg e : Expr} {ev : M (List D)} (h : XIt X S W tg e T pu e1 ev) : PI X tg e (tiOf S W T pu e1 ev) := by
  obtain ⟨t, p, r⟩ := h.ex
  exact ⟨fun pins s σ H Q I ⟨B, ρ, Fs, J, w⟩ => p.run pins s σ H Q I (r B ρ σ Fs H Q J w)⟩

/-! ### comprehensions -/
/-- the tests of a clause -/
structure XC (X : Cx) (S : Sig) (W : WX) (ifs : List Expr) (eff : Bool) (ev : M Bool) : Prop where
  ex : ∃ t, PTs X ifs t ∧ RT S W eff ev t
def ebYes : M Bool := fun ρ => .ok true ρ
theorem xc_nil : XC X S W [] false ebYes := ⟨_, pts_nil, fun B ρ σ Fs H Q I h => h H Fs I Step.refl⟩
theorem xc_one {c : Expr} {ev : M Bool} (h : XT X S W c e1 ev) : XC X S W [c] e1 ev := let ⟨_, p, r⟩ := h.ex; ⟨_, pts_one p, r⟩
theorem XC.tt {ifs : List Expr} {ev : M Bool} (h : XC X S W ifs e1 ev) : PTs X ifs (ttOf S W e1 ev) := by
  obtain ⟨t, p, r⟩ := h.ex
  exact ⟨fun pins s σ H Q I ⟨B, ρ, Fs, J, w⟩ => p.run pins s σ H Q I (r B ρ σ Fs H Q J w)⟩
/-- the slots vs given back as they were -/
def backE (ρ0 : Env) (ρ : Env) : List Nat → Env
  | [] => ρ
  | v :: vs => (backE ρ0 ρ vs).set v (ρ0.getD v none)
theorem backE_length (ρ0 ρ : Env) : ∀ vs, (backE ρ0 ρ vs).length = ρ.length
  | [] => rfl
  | v :: vs => by unfold backE; rw [List.length_set, backE_length ρ0 ρ vs]
theorem wipe_out' {σ : L2.St} {i : Nat} : ∀ {vs : List Nat}, i ∉ vs → (wipe σ vs)[i]? = σ[i]?
  | [], _ => rfl
  | v :: vs, h => by
    simp only [List.mem_cons, not_or] at h
    unfold wipe
    rw [List.getElem?_set_ne (fun e => h.1 e.symm), wipe_out' h.2]
theorem wipe_in {σ : L2.St} {i : Nat} : ∀ {vs : List Nat}, i ∈ vs → (wipe σ vs)[i]? = if i < σ.length then some none else none
  | v :: vs, h => by
    unfold wipe
    by_cases e : v = i
    · subst e
      by_cases hl : v < σ.length
      · rw [List.getElem?_set_self (by rw [wipe_length]; exact hl), if_pos hl]
      · rw [List.getElem?_eq_none (by simpa [wipe_length] using hl), if_neg hl]
    · rw [List.getElem?_set_ne e]
      exact wipe_in ((List.mem_cons.mp h).resolve_left fun q => e q.symm)
theorem wipe_eq {σ σ' : L2.St} {vs : List Nat} (hl : σ'.length = σ.length) (h : ∀ i, i ∉ vs → σ'[i]? = σ[i]?) : wipe σ' vs = wipe (wipe σ vs) vs ∧ wipe σ' vs = wipe σ vs := by
  have a : ∀ τ : L2.St, τ.length = σ.length → (∀ i, i ∉ vs → τ[i]? = σ[i]?) → wipe τ vs = wipe σ vs := fun τ e k => by
    apply List.ext_getElem?
    intro i
    by_cases hi : i ∈ vs
    · rw [wipe_in hi, wipe_in hi, e]
    · rw [wipe_out' hi, wipe_out' hi, k i hi]
  exact ⟨by rw [a σ' hl h, a (wipe σ vs) (wipe_length σ vs) fun i hi => wipe_out' hi], a σ' hl h⟩
theorem wipeE_out {ρ : Env} {i : Nat} : ∀ {vs : List Nat}, i ∉ vs → (wipeE ρ vs)[i]? = ρ[i]?
  | [], _ => rfl
  | v :: vs, h => by
    simp only [List.mem_cons, not_or] at h
    unfold wipeE
    rw [List.getElem?_set_ne (fun e => h.1 e.symm), wipeE_out h.2]
theorem backE_out {ρ0 ρ : Env} {i : Nat} : ∀ {vs : List Nat}, i ∉ vs → (backE ρ0 ρ vs)[i]? = ρ[i]?
  | [], _ => rfl
  | v :: vs, h => by
    simp only [List.mem_cons, not_or] at h
    unfold backE
    rw [List.getElem?_set_ne (fun e => h.1 e.symm), backE_out h.2]
theorem backE_in {ρ0 ρ : Env} {i : Nat} : ∀ {vs : List Nat}, i ∈ vs → (backE ρ0 ρ vs)[i]? = if i < ρ.length then some (ρ0.getD i none) else none
  | v :: vs, h => by
    unfold backE
    by_cases e : v = i
    · subst e
      by_cases hl : v < ρ.length
      · rw [List.getElem?_set_self (by rw [backE_length]; exact hl), if_pos hl]
      · rw [List.getElem?_eq_none (by simpa [backE_length] using hl), if_neg hl]
    · rw [List.getElem?_set_ne e]
      exact backE_in ((List.mem_cons.mp h).resolve_left fun q => e q.symm)
theorem back_wipe (ρ : Env) (vs : List Nat) : backE ρ (wipeE ρ vs) vs = ρ := by
  apply List.ext_getElem?
  intro i
  by_cases hi : i ∈ vs
  · rw [backE_in hi, wipeE_length]
    split
    · rename_i h; rw [List.getD_eq_getElem?_getD, List.getElem?_eq_getElem h]; rfl
    · rename_i h; rw [List.getElem?_eq_none (by omega)]
  · rw [backE_out hi, wipeE_out hi]
def lcLoop (vs : List Nat) (bd : D → Env → Option Env) (tt : M Bool) (ee : M D) : List D → Env → Rs (List D)
  | [], ρ => .ok [] ρ
  | d :: ds, ρ => match bd d ρ with
    | none => .st
    | some ρ1 => match tt ρ1 with
      | .ok true ρ2 => match ee ρ2 with
        | .ok y ρ3 => if pureD y then (match lcLoop vs bd tt ee ds (wipeE ρ3 vs) with | .ok ys ρ4 => .ok (y :: ys) ρ4 | _ => .st) else .st
        | _ => .st
      | .ok false ρ2 => lcLoop vs bd tt ee ds (wipeE ρ2 vs)
      | _ => .st
def eLc (vs : List Nat) (it : M (List D)) (bd : D → Env → Option Env) (tt : M Bool) (ee : M D) : M D := fun ρ => bindR (it ρ) fun ds ρ1 =>
  match lcLoop vs bd tt ee ds (wipeE ρ1 vs) with | .ok ys ρ2 => .ok (.lst ys) (backE ρ1 ρ2 vs) | _ => .st
theorem EnvR.wipe {vs : List Nat} (I : EnvR S B ρ σ Fs H) : EnvR S B (wipeE ρ vs) (L2.wipe σ vs) Fs H := by
  have g : ∀ i d, (wipeE ρ vs)[i]? = some (some d) → ρ[i]? = some (some d) ∧ i ∉ vs := fun i d e => wipeE_some e
  have ob : ∀ i, Own S (wipeE ρ vs) i → Own S ρ i ∧ i ∉ vs := fun i oi => by
    obtain ⟨d, e⟩ := oi.2
    exact ⟨⟨oi.1, d, (g i d e).1⟩, (g i d e).2⟩
  exact ⟨by rw [wipeE_length, wipe_length]; exact I.len, fun i d e => by rw [wipe_out' (g i d e).2]; exact I.slot i d (g i d e).1, fun i d e => I.pl i d (g i d e).1, fun i d e hk => by rw [wipe_out' (g i d e).2]; exact I.par i d (g i d e).1 hk, fun i d e => I.bw i d (g i d e).1,
    fun i oi => I.own i (ob i oi).1, fun i j oi oj => I.dis i j (ob i oi).1 (ob j oj).1, fun i oi hk => by rw [wipe_out' (ob i oi).2]; exact I.iov i (ob i oi).1 hk, I.prot, I.pdom, I.tr⟩
/-- the slots of the block may be forgotten -/
theorem EnvR.rewipe {vs : List Nat} (I : EnvR S B ρ σ' Fs H) (e : L2.wipe σ' vs = L2.wipe σ vs) : EnvR S B (wipeE ρ vs) (L2.wipe σ vs) Fs H := by
  rw [← e]; exact I.wipe
theorem step_wipe {vs : List Nat} (s : Step S e1 ρ Fs H ρ1 Fs1 H1) (h : e1 = true) : Step S e2 ρ Fs H (wipeE ρ1 vs) Fs1 H1 → True := fun _ => trivial
theorem Step.upd {D : Addr} {o : HO} (s : Step S e1 ρ Fs H ρ1 Fs1 H1) (h : H D = none) : Step S e1 ρ Fs H ρ1 Fs1 (L2.upd H1 D o) := by
  have ne : ∀ a u, H a = some u → a ≠ D := fun a u q => ne_of_none q h
  refine ⟨fun a u q => ?_, s.grow, fun a q => ?_, fun z => ?_⟩
  · rw [upd_ne (ne a u q)]; exact s.chg a u q
  · by_cases e : a = D
    · rw [e]; exact h
    · rw [upd_ne e] at q; exact s.dom a q
  · obtain ⟨a, b, c⟩ := s.noeff z
    exact ⟨a, b, fun x u q => by rw [upd_ne (ne x u q)]; exact c x u q⟩
theorem EnvR.upd {D : Addr} {u0 o : HO} (I : EnvR S B ρ σ Fs H) (hD : H D = some u0) (hB : B.H0 D = none) (hO : ∀ i, Own S ρ i → D ∉ Fs i) (mu : Mu S.c B.R u0 D := by trivial) : EnvR S B ρ σ Fs (L2.upd H D o) := by
  have nP : ¬ B.P0 D := fun p => by obtain ⟨u, q⟩ := I.pdom D p; rw [hB] at q; cases q
  refine ⟨I.len, fun i d e => ?_, I.pl, I.par, I.bw, I.own, I.dis, I.iov, fun a u p q => ?_, I.pdom, fun a u q => ?_⟩
  · obtain ⟨v, hv, r⟩ := I.slot i d e
    refine ⟨v, hv, r.keep fun a u q z => ?_⟩
    have ne : a ≠ D := fun z' => by
      subst z'
      rw [hD] at q; cases q
      rcases z with z | z
      · exact z mu
      · cases hk : S.kd i with
        | pl => rw [I.pl i d e hk] at z; cases z
        | par => exact nP (I.parP e hk a z)
        | own => exact hO i ⟨.inl hk, d, e⟩ z
        | io => exact hO i ⟨.inr hk, d, e⟩ z
        | bw => exact nP (I.bw i d e hk a z)
    rw [upd_ne ne]; exact q
  · have := I.prot a u p q
    by_cases e : a = D
    · subst e; rw [hB] at q; cases q
    · rw [upd_ne e]; exact this
  · by_cases e : a = D
    · subst e; exact ⟨o, upd_same⟩
    · rw [upd_ne e]; exact I.tr a u q
theorem Step.unlock {ρ0 : Env} {σ0 : L2.St} {Fs0 : Nat → List Addr} {H0 : Hp} (I : EnvR S B ρ0 σ0 Fs0 H0) (wk : Wk S B T ρ0 Fs0 H0 Fp) (lk : Lk S B T ρ0 σ0 Fs0 H0 Fp B') (J : EnvR (lockS S T) B' ρ1 σ Fs1 H1) (s : Step (lockS S T) e1 ρ Fs H ρ1 Fs1 H1)
    (h : ∀ i, i ∈ T → (Live ρ0 i ↔ Live ρ i) ∧ Fs i = Fs0 i) : Step S e1 ρ Fs H ρ1 Fs1 H1 := by
  refine ⟨fun a u q => (s.chg a u q).imp id fun ⟨i, oi, m⟩ => ⟨i, own_of_lock oi, m⟩, fun i a oi m => ?_, s.dom, fun z => ?_⟩
  · by_cases hi : i ∈ T
    · obtain ⟨d, e⟩ := oi.2
      have f := (J.par i d e (lockS_in hi)).1
      by_cases o : Live ρ0 i
      · obtain ⟨o2, f2⟩ := h i hi
        rw [f, (lk.FpT i hi).1 o, ← f2] at m
        exact .inr ⟨i, ⟨oi.1, o2.mp o⟩, m⟩
      · rw [f, (lk.FpT i hi).2 o] at m; cases m
    · exact (s.grow i a (own_unlock oi hi) m).imp id fun ⟨j, oj, mj⟩ => ⟨j, own_of_lock oj, mj⟩
  · obtain ⟨q1, q2, q3⟩ := s.noeff z
    refine ⟨q1, fun i oi => ?_, q3⟩
    by_cases hi : i ∈ T
    · obtain ⟨d, e⟩ := oi.2
      have f := (J.par i d (by rw [q1]; exact e) (lockS_in hi)).1
      obtain ⟨o2, f2⟩ := h i hi
      rw [f, (lk.FpT i hi).1 (o2.mpr oi.2), f2]
    · exact q2 i (own_unlock oi hi)
theorem Reps.snoc {C : Core} {R : Addr → Prop} {ys : List D} {y : D} {acc : List V} {x : V} (h : Reps C R H ys acc []) (r : Rep C R H y x []) : Reps C R H (ys ++ [y]) (acc ++ [x]) [] := by
  have := h.app (.cons r .nil)
  simpa using this
/-- a comprehension's parts and what they tell -/
structure XL (X : Cx) (S : Sig) (W : WX) (elt tg iter : Expr) (ifs : List Expr) (scope : Scope) (own : List (Str × Nat)) (eff : Bool) (ev : M D) : Prop where
  ex : ∃ wi g tt te, PI X tg iter wi ∧ BlkOk X.N X.env.scope scope own ∧ (∀ (s : Shared) (H : Hp) (C : Addr) (cl : List (Str × Addr)) (fp : List Addr), PG (X.blk s H scope (compEnvC scope cl C X.env) fp) tg g) ∧
    (∀ (s : Shared) (H : Hp) (C : Addr) (cl : List (Str × Addr)) (fp : List Addr), PTs (X.blk s H scope (compEnvC scope cl C X.env) fp) ifs tt) ∧
    (∀ (s : Shared) (H : Hp) (C : Addr) (cl : List (Str × Addr)) (fp : List Addr), PE (X.blk s H scope (compEnvC scope cl C X.env) fp) elt te) ∧ RE S W .fr eff ev (tLc wi g tt te (own.map (·.2)))
theorem xl_lc {pu : Bool} {own : List (Str × Nat)} {tg iter elt : Expr} {ifs : List Expr} {scope : Scope} {it : M (List D)} {bd : D → Env → Option Env} {tt : M Bool} {ee : M D} (hi : XIt X S W tg iter T pu e1 it) (ok : blkC X.N X.env.scope scope own = true)
    (hg : ∀ (s : Shared) (H : Hp) (C : Addr) (cl : List (Str × Addr)) (fp : List Addr), XG (X.blk s H scope (compEnvC scope cl C X.env) fp) (lockS S T) pu tg ts bd) (ht : ∀ (s : Shared) (H : Hp) (C : Addr) (cl : List (Str × Addr)) (fp : List Addr), XC (X.blk s H scope (compEnvC scope cl C X.env) fp) (lockS S T) W0 ifs e2 tt)
    (he : ∀ (s : Shared) (H : Hp) (C : Addr) (cl : List (Str × Addr)) (fp : List Addr), XE (X.blk s H scope (compEnvC scope cl C X.env) fp) (lockS S T) W0 elt m e3 ee) (hts : ts.all (own.map (·.2)).contains = true := by rfl) (hpl : (own.map (·.2)).all (takeS (lockS S T) true) = true := by rfl) (hbw : bwOk S (own.map (·.2)) T = true := by rfl) :
    XL X S W elt tg iter ifs scope own (e1 || (e2 || e3)) (eLc (own.map (·.2)) it bd tt ee) := by
  obtain ⟨ti, pi, ri⟩ := hi.ex
  refine ⟨_, _, _, _, pi, blkOk_by ok, fun s H C cl fp => (hg s H C cl fp).tg, fun s H C cl fp => (ht s H C cl fp).tt, fun s H C cl fp => (he s H C cl fp).te, fun B ρ σ Fs H Q I h => ri B ρ σ Fs H _ I (h.bind.imp fun ds ρ1 _ h1 J H1 Fs1 Fp I1 s1 wk okk L hL => ?_)⟩
  generalize hvs : own.map (·.2) = vs at *
  obtain ⟨B', lk⟩ := Lk.mk' S B T ρ1 σ Fs1 H1 Fp
  have plv : ∀ i ∈ vs, (lockS S T).kd i = .pl ∨ (lockS S T).kd i = .bw := fun i hi => (takeS_of (List.all_eq_true.mp hpl i hi)).imp And.left id
  have tsv : ∀ i, i ∉ vs → i ∉ ts := fun i hi z => hi (by simpa using List.all_eq_true.mp hts i z)
  have ownv : ∀ {ρ2 : Env} {i : Nat}, Own (lockS S T) ρ2 i → i ∉ vs := fun {ρ2 i} oi hi => by
    rcases plv i hi with k | k <;> rcases oi.1 with z | z <;> rw [k] at z <;> cases z
  have ow : ∀ {ρ2 : Env} {i : Nat}, Own (lockS S T) ρ2 i → Own (lockS S T) (wipeE ρ2 vs) i := fun {ρ2 i} oi => by
    obtain ⟨d, e⟩ := oi.2
    exact ⟨oi.1, d, by rw [wipeE_out (ownv oi)]; exact e⟩
  have wo : ∀ {ρ2 : Env} {i : Nat}, Own (lockS S T) (wipeE ρ2 vs) i → Own (lockS S T) ρ2 i := fun {ρ2 i} oi => by
    obtain ⟨d, e⟩ := oi.2
    exact ⟨oi.1, d, (wipeE_some e).1⟩
  have ground : ∀ {ρ2 σ2 Fs2 H2}, EnvR (lockS S T) B' ρ2 σ2 Fs2 H2 → ∀ a o, H1 a = some o → (¬ Mu S.c B.R o a ∨ a ∈ Fp) → H2 a = some o := fun {ρ2 σ2 Fs2 H2} J2 a o q z => by
    refine J2.prot a o ?_ (by rw [lk.H0]; exact q)
    rcases z with z | z
    · exact .inr (by rw [lockS_c, lk.R]; exact z)
    · exact .inl ((lk.P0 a).mpr (.inr (.inl z)))
  have hB' : B'.H0 L = none := by rw [lk.H0]; exact hL
  -- the state between two turns
  let ew := e2 || e3
  have Il := I1.lock wk lk
  refine ⟨fun i mm H2 => i ≤ ds.length ∧ mm = ds.length - i ∧ ∃ ρ2 Fs2 acc ys, EnvR (lockS S T) B' (wipeE ρ2 vs) (wipe σ vs) Fs2 H2 ∧ Step (lockS S T) ew (wipeE ρ1 vs) Fs1 H1 (wipeE ρ2 vs) Fs2 H2 ∧ H2 L = some (.lst acc) ∧ Reps S.c B.R H2 ys acc [] ∧ acc.length ≤ i ∧ (∀ j, Own (lockS S T) (wipeE ρ2 vs) j → L ∉ Fs2 j) ∧
      ∃ zs ρ3, lcLoop vs bd tt ee (ds.drop i) (wipeE ρ2 vs) = .ok zs ρ3 ∧ (∀ v H' Fs' F, Post S B .fr (e1 || (e2 || e3)) σ ρ Fs H (backE ρ1 ρ3 vs) (.lst (ys ++ zs)) v H' Fs' F → Q v H'), ⟨_, Nat.zero_le _, rfl, ρ1, Fs1, [], [], ?_⟩, fun i mm H2 ⟨hi, hm, ρ2, Fs2, acc, ys, J2, st2, hL2, ra, hac, hO2, zs, ρ3, hz, hq⟩ => ?_⟩
  · -- the start
    have J0 : EnvR (lockS S T) B' (wipeE ρ1 vs) (wipe σ vs) Fs1 (upd H1 L (.lst [])) := Il.wipe.same (same_upd hL)
    refine ⟨J0, Step.of_same (same_upd hL), upd_same, .nil, Nat.le_refl _, fun j oj z => ?_, ?_⟩
    · obtain ⟨u, hu, _⟩ := Il.wipe.mem oj z
      rw [hL] at hu; cases hu
    · cases q : lcLoop vs bd tt ee ds (wipeE ρ1 vs) with
      | ok zs ρ3 => rw [q] at h1; exact ⟨zs, ρ3, by simpa using q, h1⟩
      | er _ _ _ => rw [q] at h1; exact h1.elim
      | st => rw [q] at h1; exact h1.elim
  · by_cases hl : i < ds.length
    · -- a turn
      have hd : ds[i]? = some ds[i] := List.getElem?_eq_getElem hl
      obtain ⟨go, yld⟩ := okk.step H2 (ground J2) i _ hd
      refine .inr ⟨go, fun H5 => ∃ ρ2 Fs2 acc ys, EnvR (lockS S T) B' (wipeE ρ2 vs) (wipe σ vs) Fs2 H5 ∧ Step (lockS S T) ew (wipeE ρ1 vs) Fs1 H1 (wipeE ρ2 vs) Fs2 H5 ∧ H5 L = some (.lst acc) ∧ Reps S.c B.R H5 ys acc [] ∧ acc.length ≤ i + 1 ∧ (∀ j, Own (lockS S T) (wipeE ρ2 vs) j → L ∉ Fs2 j) ∧
        ∃ zs ρ3, lcLoop vs bd tt ee (ds.drop (i + 1)) (wipeE ρ2 vs) = .ok zs ρ3 ∧ (∀ v H' Fs' F, Post S B .fr (e1 || (e2 || e3)) σ ρ Fs H (backE ρ1 ρ3 vs) (.lst (ys ++ zs)) v H' Fs' F → Q v H'), fun H5 q => ⟨_, by omega, by omega, rfl, q⟩, fun x H3 hx => ?_⟩
      obtain ⟨sm, G, rx, g0, g1⟩ := yld x H3 hx
      rw [List.drop_eq_getElem_cons hl] at hz
      unfold lcLoop at hz
      cases qb : bd ds[i] (wipeE ρ2 vs) with
      | none => rw [qb] at hz; cases hz
      | some ρ4 =>
        rw [qb] at hz
        simp only at hz
        have J3 := J2.same sm
        refine ⟨B', wipeE ρ2 vs, ρ4, Fs2, ds[i], G, J3, by rw [lockS_c, lk.R]; exact rx, g0, (fun a ha => (lk.P0 a).mpr (.inr (.inl (g1 a ha)))), qb, fun σ4 Fs4 J4 b4 => ?_⟩
        have hw4 : wipe σ4 vs = wipe σ vs := by
          have := (wipe_eq (σ := wipe σ vs) (σ' := σ4) (vs := vs) b4.len (fun j hj => b4.sg j (tsv j hj))).2
          rw [this]
          exact (wipe_eq (σ := σ) (σ' := wipe σ vs) (vs := vs) (wipe_length σ vs) fun j hj => wipe_out' hj).2
        have hw2 : wipe (wipe σ vs) vs = wipe σ vs := (wipe_eq (σ := σ) (σ' := wipe σ vs) (vs := vs) (wipe_length σ vs) fun j hj => wipe_out' hj).2
        refine ⟨hw4, B', ρ4, Fs4, J4, ?_⟩
        have hL3 : H3 L = some (.lst acc) := sm _ _ hL2
        have nL4 : ∀ j, Own (lockS S T) ρ4 j → L ∉ Fs4 j := fun j oj z => by
          obtain ⟨o2, f2⟩ := b4.own j oj
          rw [f2] at z; exact hO2 j o2 z
        have ra3 := ra.same sm
        -- behind the tests
        have aft : ∀ {e5 : Bool} {ρ5 Fs5 H5}, EnvR (lockS S T) B' ρ5 σ4 Fs5 H5 → Step (lockS S T) e5 ρ4 Fs4 H3 ρ5 Fs5 H5 → (ew = false → e5 = false) →
            H5 L = some (.lst acc) ∧ (∀ j, Own (lockS S T) ρ5 j → L ∉ Fs5 j) ∧ EnvR (lockS S T) B' (wipeE ρ5 vs) (wipe σ vs) Fs5 H5 ∧ Step (lockS S T) ew (wipeE ρ1 vs) Fs1 H1 (wipeE ρ5 vs) Fs5 H5 ∧ Reps S.c B.R H5 ys acc [] := fun {e5 ρ5 Fs5 H5} J5 s5 h5 => by
          have hL5 : H5 L = some (.lst acc) := by
            rcases s5.chg L _ hL3 with z | ⟨j, oj, z⟩
            · exact z
            · exact absurd z (nL4 j oj)
          refine ⟨hL5, fun j oj z => ?_, J5.rewipe hw4, ?_, ?_⟩
          · rcases s5.grow j L oj z with n | ⟨k, ok, mk⟩
            · rw [hL3] at n; cases n
            · exact nL4 k ok mk
          · have sT : Step (lockS S T) ew (wipeE ρ2 vs) Fs2 H2 (wipeE ρ5 vs) Fs5 H5 := by
              refine ⟨fun a u q => ?_, fun i a oi m => ?_, fun a n => ?_, fun z => ?_⟩
              · rcases s5.chg a u (sm _ _ q) with z | ⟨j, oj, z⟩
                · exact .inl z
                · obtain ⟨o2, f2⟩ := b4.own j oj
                  rw [f2] at z; exact .inr ⟨j, o2, z⟩
              · rcases s5.grow i a (wo oi) m with n | ⟨j, oj, z⟩
                · exact .inl (sm.free n)
                · obtain ⟨o2, f2⟩ := b4.own j oj
                  rw [f2] at z; exact .inr ⟨j, o2, z⟩
              · exact sm.free (s5.dom a n)
              · obtain ⟨rfl, f5, k5⟩ := s5.noeff (h5 z)
                refine ⟨?_, fun i oi => ?_, sm.trans k5⟩
                · apply List.ext_getElem?
                  intro j
                  by_cases hj : j ∈ vs
                  · have e1 : ∀ r : Env, (wipeE r vs)[j]? = if j < r.length then some none else none := fun r => by
                      have : ∀ us : List Nat, j ∈ us → (wipeE r us)[j]? = if j < r.length then some none else none := by
                        intro us
                        induction us with
                        | nil => intro h; cases h
                        | cons u us ih =>
                          intro h
                          unfold wipeE
                          by_cases e : u = j
                          · subst e
                            by_cases hl' : u < r.length
                            · rw [List.getElem?_set_self (by rw [wipeE_length]; exact hl'), if_pos hl']
                            · rw [List.getElem?_eq_none (by simpa [wipeE_length] using hl'), if_neg hl']
                          · rw [List.getElem?_set_ne e]
                            exact ih ((List.mem_cons.mp h).resolve_left fun q => e q.symm)
                      exact this vs hj
                    rw [e1, e1, b4.le2, wipeE_length]
                  · rw [wipeE_out hj, b4.rh j (tsv j hj)]
                · have o4 := b4.back i oi
                  rw [f5 i o4, (b4.own i o4).2]
            have := st2.trans sT
            simpa using this
          · refine ra3.keep fun a u q z => ?_
            rcases s5.chg a u q with k | ⟨j, oj, k⟩
            · exact k
            · rcases z with z | z
              · obtain ⟨u', hu', mu⟩ := J4.mem oj k
                rw [q] at hu'; cases hu'
                rw [lockS_c, lk.R] at mu
                exact absurd mu z
              · cases z
        cases qt : tt ρ4 with
        | er _ _ _ => rw [qt] at hz; cases hz
        | st => rw [qt] at hz; cases hz
        | ok b ρ5 =>
          rw [qt] at hz
          intro H5 Fs5 J5 s5
          cases b with
          | false =>
            obtain ⟨q1, q2, q3, q4, q5⟩ := aft J5 s5 fun z => by simp only [ew, Bool.or_eq_false_iff] at z; exact z.1
            exact iteF ⟨ρ5, Fs5, acc, ys, q3, q4, q1, q5, by omega, fun j oj => q2 j (wo oj), zs, ρ3, hz, hq⟩
          | true =>
            refine iteT ⟨B', ρ5, Fs5, J5, ?_⟩
            simp only at hz
            cases qe : ee ρ5 with
            | er _ _ _ => rw [qe] at hz; cases hz
            | st => rw [qe] at hz; cases hz
            | ok y ρ6 =>
              rw [qe] at hz
              simp only at hz
              split at hz
              · rename_i hp
                intro v H6 Fs6 F6 p
                obtain ⟨q1, q2, q3, q4, q5⟩ := aft (e5 := e2 || e3) p.env (s5.trans p.step) fun z => z
                have F0 := p.rep.pure hp
                have rv := p.rep
                rw [F0, lockS_c, lk.R] at rv
                have hlen : acc.length < sizeLine := by have := okk.len; omega
                refine ⟨acc, q1, hlen, ?_⟩
                cases q6 : lcLoop vs bd tt ee (ds.drop (i + 1)) (wipeE ρ6 vs) with
                | er _ _ _ => rw [q6] at hz; cases hz
                | st => rw [q6] at hz; cases hz
                | ok zs' ρ7 =>
                  rw [q6] at hz
                  simp only at hz
                  cases hz
                  have kp : ∀ a u, H6 a = some u → (¬ Mu S.c B.R u a ∨ a ∈ []) → (upd H6 L (.lst (acc ++ [v]))) a = some u := fun a u q z => by
                    have ne : a ≠ L := fun z' => by
                      subst z'
                      rw [q1] at q; cases q
                      rcases z with z | z
                      · exact z trivial
                      · cases z
                    rw [upd_ne ne]; exact q
                  refine ⟨ρ6, Fs6, acc ++ [v], ys ++ [y], q3.upd q1 hB' (fun j oj => q2 j (wo oj)), q4.upd hL, upd_same, (q5.keep kp).snoc (rv.keep kp), by simp; omega, fun j oj => q2 j (wo oj), zs', ρ3, q6, ?_⟩
                  simpa using hq
              · cases hz
    · -- the end
      refine .inl ⟨okk.stop H2 (ground J2) i (by omega), ?_⟩
      rw [List.drop_eq_nil_of_le (by omega)] at hz
      cases hz
      have J3 := I1.unlock wk lk J2 fun i hl hk => (bwOk_of hbw hk).resolve_left fun z => by obtain ⟨d, e⟩ := hl; exact (wipeE_some e).2 z
      have vT : ∀ i ∈ vs, i ∉ T := fun i hi z => by rcases plv i hi with k | k <;> rw [lockS_in z] at k <;> cases k
      have plS' : ∀ i ∈ vs, S.kd i = .pl ∨ S.kd i = .bw := fun i hi => by rw [← lockS_out (vT i hi)]; exact plv i hi
      have noOwn : ∀ {ρ5 : Env} {i : Nat}, Own S ρ5 i → i ∉ vs := fun {ρ5 i} oi hi => by
        rcases plS' i hi with k | k <;> rcases oi.1 with z | z <;> rw [k] at z <;> cases z
      have ob : ∀ i, Own S (backE ρ1 (wipeE ρ2 vs) vs) i → Own S (wipeE ρ2 vs) i := fun i oi => by
        obtain ⟨d, e⟩ := oi.2
        rw [backE_out (noOwn oi)] at e
        exact ⟨oi.1, d, e⟩
      have lenE : (wipeE ρ2 vs).length = ρ1.length := by rw [J2.len, wipe_length, I1.len]
      have live : ∀ i d, (backE ρ1 (wipeE ρ2 vs) vs)[i]? = some (some d) → (i ∈ vs ∧ ρ1[i]? = some (some d)) ∨ (i ∉ vs ∧ (wipeE ρ2 vs)[i]? = some (some d)) := fun i d e => by
        by_cases hi : i ∈ vs
        · rw [backE_in hi] at e
          split at e
          · rename_i hl'
            refine .inl ⟨hi, ?_⟩
            rw [List.getD_eq_getElem?_getD] at e
            rw [lenE] at hl'
            rw [List.getElem?_eq_getElem hl'] at e ⊢
            exact e
          · cases e
        · rw [backE_out hi] at e; exact .inr ⟨hi, e⟩
      have hLo : ∀ j, Own S (wipeE ρ2 vs) j → L ∉ Fs2 j := fun j oj z => by
        by_cases hj : j ∈ T
        · obtain ⟨d, e⟩ := oj.2
          have f := (J2.par j d e (lockS_in hj)).1
          rw [f] at z
          by_cases o : Live ρ1 j
          · rw [(lk.FpT j hj).1 o] at z
            obtain ⟨d', e'⟩ := o
            obtain ⟨v', _, r'⟩ := I1.slot j d' e'
            obtain ⟨u, hu⟩ := r'.some L z
            rw [hL] at hu; cases hu
          · rw [(lk.FpT j hj).2 o] at z; cases z
        · exact hO2 j (own_unlock oj hj) z
      have st3 : Step S ew (wipeE ρ1 vs) Fs1 H1 (wipeE ρ2 vs) Fs2 H2 := Step.unlock I1 wk lk J2 st2 fun i hi => ⟨⟨fun o => by
        obtain ⟨d, e⟩ := o
        exact ⟨d, by rw [wipeE_out (fun z => vT i z hi)]; exact e⟩, fun o => by
        obtain ⟨d, e⟩ := o
        exact ⟨d, (wipeE_some e).1⟩⟩, rfl⟩
      have imm : ∀ a u, H1 a = some u → ¬ Mu S.c B.R u a → H2 a = some u := fun a u q z => ground J2 a u q (.inl z)
      refine hq (.ref L) H2 (fun i => if i ∈ vs then Fs1 i else Fs2 i) [L] ⟨⟨by rw [backE_length, lenE]; exact I1.len, fun i d e => ?_, fun i d e hk => ?_, fun i d e hk => ?_, fun i d e hk => ?_, fun i oi => ?_, fun i j oi oj hij => ?_, fun i oi hk => ?_, J3.prot, J3.pdom, J3.tr⟩, ?_, ?_, ?_⟩
      · rcases live i d e with ⟨hi, e⟩ | ⟨hi, e⟩
        · obtain ⟨v, hv, r⟩ := I1.slot i d e
          refine ⟨v, hv, ?_⟩
          simp only [if_pos hi]
          refine r.keep fun a u q z => z.elim (imm a u q) fun z => ?_
          rcases plS' i hi with k | k
          · rw [I1.pl i d e k] at z; cases z
          · have p := I1.bw i d e k a z
            obtain ⟨o, q0⟩ := I1.pdom a p
            have := I1.prot a o (.inl p) q0
            rw [q] at this; cases this
            exact J3.prot a u (.inl p) q0
        · obtain ⟨v, hv, r⟩ := J3.slot i d e
          refine ⟨v, ?_, ?_⟩
          · rw [wipe_out' hi] at hv; exact hv
          · simp only [if_neg hi]; exact r
      · rcases live i d e with ⟨hi, e⟩ | ⟨hi, e⟩
        · simp only [if_pos hi]; exact I1.pl i d e hk
        · simp only [if_neg hi]; exact J3.pl i d e hk
      · rcases live i d e with ⟨hi, e⟩ | ⟨hi, e⟩
        · rcases plS' i hi with k | k <;> rw [hk] at k <;> cases k
        · simp only [if_neg hi]
          have := J3.par i d e hk
          rw [wipe_out' hi] at this; exact this
      · rcases live i d e with ⟨hi, e⟩ | ⟨hi, e⟩
        · simp only [if_pos hi]; exact I1.bw i d e hk
        · simp only [if_neg hi]; exact J3.bw i d e hk
      · have hi := noOwn oi
        simp only [if_neg hi]; exact J3.own i (ob i oi)
      · simp only [if_neg (noOwn oi), if_neg (noOwn oj)]
        exact J3.dis i j (ob i oi) (ob j oj) hij
      · have := J3.iov i (ob i oi) hk
        rw [wipe_out' (noOwn oi)] at this; exact this
      · rw [List.append_nil]
        exact .lst hL2 (by have := okk.len; omega) ra
      · refine s1.trans ⟨fun a u q => (st3.chg a u q).imp id fun ⟨j, oj, m⟩ => ⟨j, let ⟨d, e⟩ := oj.2; ⟨oj.1, d, (wipeE_some e).1⟩, m⟩, fun j a oj m => ?_, st3.dom, fun z => ?_⟩
        · simp only [if_neg (noOwn oj)] at m
          refine (st3.grow j a (ob j oj) m).imp id fun ⟨k, ok, mk⟩ => ?_
          obtain ⟨d, e⟩ := ok.2
          exact ⟨k, ⟨ok.1, d, (wipeE_some e).1⟩, mk⟩
        · obtain ⟨q1, q2, q3⟩ := st3.noeff z
          refine ⟨by rw [q1, back_wipe], fun j oj => ?_, q3⟩
          simp only [if_neg (noOwn oj)]
          obtain ⟨d, e⟩ := oj.2
          exact q2 j ⟨oj.1, d, by rw [wipeE_out (noOwn oj)]; exact e⟩
      · refine ⟨by simp, fun a ha => ?_, fun j oj a ha z => ?_⟩
        · simp only [List.mem_singleton] at ha
          exact .inl (by rw [ha]; exact s1.dom L hL)
        · simp only [List.mem_singleton] at ha
          subst ha
          simp only [if_neg (noOwn oj)] at z
          exact hLo j (ob j oj) z
theorem xe_lc {own : List (Str × Nat)} {tg iter elt : Expr} {ifs : List Expr} {scope : Scope} {ev : M D} (hc : X.calm = true) (hN : X.N.Nodup) (h : XL X S W elt tg iter ifs scope own e1 ev) (hs : ∀ x, foldedSetIterable iter X.env x = Pure.pure x := by intro _; rfl) :
    XE X S W (.ListComp elt [⟨tg, iter, ifs, 0⟩] scope pos) .fr e1 ev := by
  obtain ⟨wi, g, tt, te, h1, h2, h3, h4, h5, h6⟩ := h.ex
  exact ⟨_, pe_lc hc hN h1 h2 h3 h4 h5 hs, h6⟩
/-- x = [..], x a local -/
theorem xs_lc (i : Nat) {y : Str} {py spos : Pos} {own : List (Str × Nat)} {tg iter elt : Expr} {ifs : List Expr} {scope : Scope} {ev : M D} (hc : X.calm = true) (hN : X.N.Nodup) (h : XL X S W elt tg iter ifs scope own e1 ev) (z : putMd S i .fr = true := by rfl) (hi : X.N[i]? = some y := by rfl) (hy : X.env.scope.names.lookup y = some .local := by rfl)
    (hk : X.env.scope.kind = .function := by rfl) (hl : (py.line == pos.line) = true := by rfl) (ha : (scope.names.any fun (n, k) => n == y && (k == .local || k == .cell)) = false := by rfl) (hs : ∀ x, foldedSetIterable iter X.env x = Pure.pure x := by intro _; rfl) :
    XS X S W rm (.Assign [.Name y py] (.ListComp elt [⟨tg, iter, ifs, 0⟩] scope pos) spos) (sSet i ev) := by
  obtain ⟨wi, g, tt, te, h1, h2, h3, h4, h5, h6⟩ := h.ex
  exact ⟨_, ps_setLc hc hN hi hy (sw_true hk hy hl ha) h1 h2 h3 h4 h5 hs, fun B ρ σ Fs H E I hq => h6 B ρ σ Fs H _ I (hq.bind.imp fun d ρ1 _ h1 v H1 Fs1 F q => h1 _ _ H1 (put_ok q I z))⟩
end
end EL

namespace EL
open PySem PySem.Spec PyProof.Rows
open L2 hiding XE
section
variable {X : Cx} {C : Core} {R : Addr → Prop} {H H' : Hp} {F : List Addr}
/-! ### values of operations -/
theorem VP.val {d : D} {v : V} (r : Rep C R H d v []) : VP C R .pu H d v H [] := ⟨Same.refl _, r, rfl⟩
theorem VP.new {d : D} {p : Addr} {o : HO} (hp : H p = none) (r : Rep C R (upd H p o) d (.ref p) []) : VP C R .pu H d (.ref p) (upd H p o) [] := ⟨same_upd hp, r, rfl⟩
theorem VP.newL {ds : List D} {p : Addr} {vs : List V} (hp : H p = none) (hl : vs.length ≤ sizeLine) (r : Reps C R H ds vs []) : VP C R .fr H (.lst ds) (.ref p) (upd H p (.lst vs)) [p] :=
  ⟨same_upd hp, .lst upd_same hl (r.same (same_upd hp)), by simp, by intro a ha; simp at ha; rw [ha]; exact hp⟩
theorem Rep.int_inv {i : Int} {x : V} (h : Rep C R H (.int i) x F) : x = .int i := by cases h; rfl
theorem Rep.str_inv {i : Str} {x : V} (h : Rep C R H (.str i) x F) : x = .str i := by cases h; rfl
theorem Rep.blI {b : Bool} {x : V} (h : Rep C R H (.bl b) x F) : x = .bl b := by cases h; rfl
theorem Rep.nonI {x : V} (h : Rep C R H .non x F) : x = .non := by cases h; rfl
theorem Rep.tup_inv {ds : List D} {x : V} (h : Rep C R H (.tup ds) x F) : ∃ a vs, x = .ref a ∧ SqT C.K H a vs ∧ vs.length ≤ sizeLine ∧ Reps C R H ds vs F := by cases h; exact ⟨_, _, rfl, ‹_›, ‹_›, ‹_›⟩
/-- a list that may be changed or is locked -/
theorem Rep.lst_inv {ds : List D} {x : V} (h : Rep C R H (.lst ds) x F) : ∃ a vs G, x = .ref a ∧ SqL C.K H a vs ∧ vs.length ≤ sizeLine ∧ Reps C R H ds vs G ∧ ∀ b ∈ G, b ∈ F := by
  cases h with
  | lst h l r => exact ⟨_, _, _, rfl, SqL.of h, l, r, fun b hb => List.mem_cons_of_mem _ hb⟩
def dAdd : D → D → Option D
  | .int i, .int j => some (.int (i + j))
  | .str x, .str y => if x.length + y.length ≤ sizeLine then some (.str (x ++ y)) else none
  | .tup xs, .tup ys => if pureDs xs && pureDs ys && decide (xs.length + ys.length ≤ sizeLine) then some (.tup (xs ++ ys)) else none
  | _, _ => none
theorem op2_add (hK : X.K = C.K) : Op2 C (fun x y H Q => (rI0 fun i j => .int (i + j)) x y H Q ∨ ((fun x y H Q => ∃ i j, x = .str i ∧ y = .str j ∧ i.length + j.length ≤ sizeLine ∧ Q (.str (i ++ j)) H) x y H Q ∨ rCatA X.K x y H Q)) dAdd .pu := by
  intro R H d1 d2 d x y F1 F2 Q r1 r2 hg k
  rw [hK]
  cases d1 <;> cases d2 <;> simp only [dAdd] at hg <;> try (cases hg; done)
  · cases hg
    exact .inl ⟨_, _, r1.int_inv, r2.int_inv, k _ _ [] (VP.val (.int _))⟩
  · split at hg <;> cases hg
    rename_i hl
    exact .inr (.inl ⟨_, _, r1.str_inv, r2.str_inv, hl, k _ _ [] (VP.val (.str _))⟩)
  · rename_i xs ys
    split at hg <;> cases hg
    rename_i hc
    simp only [Bool.and_eq_true, decide_eq_true_eq] at hc
    obtain ⟨a, vs, rfl, ha, la, ra⟩ := r1.tup_inv
    obtain ⟨b, ws, rfl, hb, lb, rb⟩ := r2.tup_inv
    have e1 := ra.pure hc.1.1
    have e2 := rb.pure hc.1.2
    subst e1 e2
    have rr : Reps C R H (xs ++ ys) (vs ++ ws) [] := by simpa using ra.app rb
    have hl : vs.length + ws.length ≤ sizeLine := by rw [← ra.length, ← rb.length]; exact hc.2
    refine .inr (.inr ⟨a, b, vs, ws, rfl, rfl, ha, hb, hl, fun e => ?_, fun _ e => ?_, fun _ _ p hp => ?_⟩)
    · subst e
      have ex : xs = [] := by have := ra.length; simpa using this
      subst ex
      exact k _ _ [] (VP.val (.tup hb lb rb))
    · subst e
      have ex : ys = [] := by have := rb.length; simpa using this
      subst ex
      have k' := k (.ref a) H []
      rw [List.append_nil] at k'
      exact k' (VP.val (.tup ha la ra))
    · exact k _ _ [] (VP.new hp (.tup (SqT.of upd_same) (by simpa using hl) (rr.same (same_upd hp))))
def dAddL : D → D → Option D
  | .lst xs, .lst ys => if pureDs xs && pureDs ys && decide (xs.length + ys.length ≤ sizeLine) then some (.lst (xs ++ ys)) else none
  | _, _ => none
def dSub : D → D → Option D
  | .int i, .int j => some (.int (i - j))
  | _, _ => none
theorem op2_sub : Op2 C (rI0 fun i j => .int (i - j)) dSub .pu := by
  intro R H d1 d2 d x y F1 F2 Q r1 r2 hg k
  cases d1 <;> cases d2 <;> simp only [dSub] at hg <;> try (cases hg; done)
  cases hg
  exact ⟨_, _, r1.int_inv, r2.int_inv, k _ _ [] (VP.val (.int _))⟩
def small64' (i : Int) : Bool := decide (-(2 ^ 64) < i) && decide (i < 2 ^ 64)
def dMul : D → D → Option D
  | .int i, .int j => if small64' i || small64' j then some (.int (i * j)) else none
  | _, _ => none
theorem op2_mul : Op2 C (rI CMul fun i j => .int (i * j)) dMul .pu := by
  intro R H d1 d2 d x y F1 F2 Q r1 r2 hg k
  cases d1 <;> cases d2 <;> simp only [dMul] at hg <;> try (cases hg; done)
  split at hg <;> cases hg
  rename_i hc
  simp only [small64', Bool.or_eq_true, Bool.and_eq_true, decide_eq_true_eq] at hc
  exact ⟨_, _, r1.int_inv, r2.int_inv, hc, k _ _ [] (VP.val (.int _))⟩
def dFdiv : D → D → Option D
  | .int i, .int j => if 0 < j && decide (j < 1073741824) then some (.int (i / j)) else none
  | _, _ => none
theorem op2_fdiv : Op2 C (rI CDiv fun i j => .int (i / j)) dFdiv .pu := by
  intro R H d1 d2 d x y F1 F2 Q r1 r2 hg k
  cases d1 <;> cases d2 <;> simp only [dFdiv] at hg <;> try (cases hg; done)
  split at hg <;> cases hg
  rename_i hc
  simp only [Bool.and_eq_true, decide_eq_true_eq] at hc
  exact ⟨_, _, r1.int_inv, r2.int_inv, hc, k _ _ [] (VP.val (.int _))⟩
def dMod : D → D → Option D
  | .int i, .int j => if 0 < j then some (.int (i % j)) else none
  | _, _ => none
theorem op2_mod : Op2 C (rI (fun _ j => 0 < j) fun i j => .int (i % j)) dMod .pu := by
  intro R H d1 d2 d x y F1 F2 Q r1 r2 hg k
  cases d1 <;> cases d2 <;> simp only [dMod] at hg <;> try (cases hg; done)
  split at hg <;> cases hg
  rename_i hc
  exact ⟨_, _, r1.int_inv, r2.int_inv, hc, k _ _ [] (VP.val (.int _))⟩
def dPow : D → D → Option D
  | .int i, .int j => if 0 ≤ j && decide (j ≤ 1000000) && decide (i.natAbs < 2 ^ 64) then some (.int (i ^ j.toNat)) else none
  | _, _ => none
theorem op2_pow : Op2 C (rI CPow fun i j => .int (i ^ j.toNat)) dPow .pu := by
  intro R H d1 d2 d x y F1 F2 Q r1 r2 hg k
  cases d1 <;> cases d2 <;> simp only [dPow] at hg <;> try (cases hg; done)
  split at hg <;> cases hg
  rename_i hc
  simp only [Bool.and_eq_true, decide_eq_true_eq] at hc
  exact ⟨_, _, r1.int_inv, r2.int_inv, ⟨hc.1.1, hc.1.2, hc.2⟩, k _ _ [] (VP.val (.int _))⟩
/-- [a, b] * n of what cannot change -/
def dRep : D → D → Option D
  | .lst xs, .int n => if pureDs xs && decide (-(2 ^ 63) ≤ n) && decide (n < 2 ^ 63) && decide (xs.length * n.toNat ≤ sizeLine) then some (.lst (List.replicate n.toNat xs).flatten) else none
  | _, _ => none
theorem Reps.rep {ds : List D} {vs : List V} (r : Reps C R H ds vs []) : ∀ n : Nat, Reps C R H (List.replicate n ds).flatten (List.replicate n vs).flatten []
  | 0 => .nil
  | n + 1 => by
    rw [List.replicate_succ, List.replicate_succ, List.flatten_cons, List.flatten_cons]
    simpa using r.app (Reps.rep r n)
theorem rep_lst {ds : List D} {x : V} (h : Rep C R H (.lst ds) x F) : ∃ a vs G, x = .ref a ∧ H a = some (.lst vs) ∧ vs.length ≤ sizeLine ∧ Reps C R H ds vs G ∧ F = a :: G := by
  cases h with
  | lst h l r => exact ⟨_, _, _, rfl, h, l, r, rfl⟩
theorem op2_addL : Op2 C rCat dAddL .fr := by
  intro R H d1 d2 d x y F1 F2 Q r1 r2 hg k
  cases d1 <;> cases d2 <;> simp only [dAddL] at hg <;> try (cases hg; done)
  split at hg <;> cases hg
  rename_i hc
  simp only [Bool.and_eq_true, decide_eq_true_eq] at hc
  obtain ⟨a, vs, G, rfl, ha, la, ra, _⟩ := rep_lst r1
  obtain ⟨b, ws, G', rfl, hb, lb, rb, _⟩ := rep_lst r2
  have e1 := ra.pure hc.1.1
  have e2 := rb.pure hc.1.2
  subst e1 e2
  have rr := ra.app rb
  have hl : vs.length + ws.length ≤ sizeLine := by rw [← ra.length, ← rb.length]; exact hc.2
  exact ⟨a, b, vs, ws, rfl, rfl, ha, hb, hl, fun p hp => k _ _ [p] (VP.newL hp (by simpa using hl) (by simpa using rr))⟩
theorem op2_rep : Op2 C rRep dRep .fr := by
  intro R H d1 d2 d x y F1 F2 Q r1 r2 hg k
  cases d1 <;> cases d2 <;> simp only [dRep] at hg <;> try (cases hg; done)
  split at hg <;> cases hg
  rename_i ds n hc
  simp only [Bool.and_eq_true, decide_eq_true_eq] at hc
  obtain ⟨a, vs, G, rfl, ha, la, ra, _⟩ := rep_lst r1
  have e1 := ra.pure hc.1.1.1
  subst e1
  have hl : vs.length * n.toNat ≤ sizeLine := by rw [← ra.length]; exact hc.2
  refine ⟨a, n, vs, rfl, r2.int_inv, ha, hc.1.1.2, hc.1.2, hl, fun p hp => k _ _ [p] (VP.newL hp ?_ (ra.rep _))⟩
  rw [List.length_flatten]
  simp only [List.map_replicate, List.sum_replicate_nat]
  rw [Nat.mul_comm]; exact hl
/-! ### is -/
def dIsN : D → D → Option D | d, .non => some (.bl (match d with | .non => true | _ => false)) | _, _ => none
def dNotN : D → D → Option D | d, .non => some (.bl (match d with | .non => false | _ => true)) | _, _ => none
theorem op2_isN : Op2 C (fun x y H Q => y = .non ∧ Q (.bl (decide (x = .non))) H) dIsN .pu := by
  intro R H d1 d2 d x y F1 F2 Q r1 r2 hg k
  cases d2 <;> simp only [dIsN] at hg <;> try (cases hg; done)
  cases hg
  refine ⟨r2.nonI, k _ _ [] ⟨Same.refl _, ?_, rfl⟩⟩
  cases r1 <;> exact .bl _
theorem op2_notN : Op2 C (fun x y H Q => y = .non ∧ Q (.bl (!decide (x = .non))) H) dNotN .pu := by
  intro R H d1 d2 d x y F1 F2 Q r1 r2 hg k
  cases d2 <;> simp only [dNotN] at hg <;> try (cases hg; done)
  cases hg
  refine ⟨r2.nonI, k _ _ [] ⟨Same.refl _, ?_, rfl⟩⟩
  cases r1 <;> exact .bl _
/-- x is True, x is False -/
theorem op_isB : OpR X (compareOp .Is) (fun x y H Q => ∃ b : Bool, y = .bl b ∧ Q (.bl (decide (x = .bl b))) H) := by
  intro pins s σ H x y v u Q I rx ry h
  obtain ⟨b, rfl, q⟩ := h
  cases ry
  cases x with
  | bl c =>
    cases rx
    refine wpAny_is_plain rfl (fin_bl I q ?_)
    cases b <;> cases c <;> rfl
  | non => cases rx; exact wpAny_is_plain rfl (fin_bl I q (by cases b <;> rfl))
  | int i => obtain ⟨t, rfl⟩ := rx; exact wpAny_is_plain rfl (fin_bl I q (by cases b <;> rfl))
  | str i => obtain ⟨t, rfl⟩ := rx; exact wpAny_is_plain rfl (fin_bl I q (by cases b <;> rfl))
  | byt i => obtain ⟨t, rfl⟩ := rx; exact wpAny_is_plain rfl (fin_bl I q (by cases b <;> rfl))
  | flt i => obtain ⟨t, rfl⟩ := rx; exact wpAny_is_plain rfl (fin_bl I q (by cases b <;> rfl))
  | ref a => cases rx; exact wpAny_is_plain rfl (fin_bl I q (by cases b <;> rfl))
  | ty n => cases rx; exact wpAny_is_plain rfl (fin_bl I q (by cases b <;> rfl))
theorem op_notB : OpR X (compareOp .IsNot) (fun x y H Q => ∃ b : Bool, y = .bl b ∧ Q (.bl (!decide (x = .bl b))) H) := by
  intro pins s σ H x y v u Q I rx ry h
  obtain ⟨b, rfl, q⟩ := h
  cases ry
  cases x with
  | bl c =>
    cases rx
    refine wpAny_isNot_plain rfl (fin_bl I q ?_)
    cases b <;> cases c <;> rfl
  | non => cases rx; exact wpAny_isNot_plain rfl (fin_bl I q (by cases b <;> rfl))
  | int i => obtain ⟨t, rfl⟩ := rx; exact wpAny_isNot_plain rfl (fin_bl I q (by cases b <;> rfl))
  | str i => obtain ⟨t, rfl⟩ := rx; exact wpAny_isNot_plain rfl (fin_bl I q (by cases b <;> rfl))
  | byt i => obtain ⟨t, rfl⟩ := rx; exact wpAny_isNot_plain rfl (fin_bl I q (by cases b <;> rfl))
  | flt i => obtain ⟨t, rfl⟩ := rx; exact wpAny_isNot_plain rfl (fin_bl I q (by cases b <;> rfl))
  | ref a => cases rx; exact wpAny_isNot_plain rfl (fin_bl I q (by cases b <;> rfl))
  | ty n => cases rx; exact wpAny_isNot_plain rfl (fin_bl I q (by cases b <;> rfl))
def dIsB : D → D → Option D | d, .bl b => some (.bl (match d with | .bl c => c == b | _ => false)) | _, _ => none
def dNotB : D → D → Option D | d, .bl b => some (.bl (match d with | .bl c => c != b | _ => true)) | _, _ => none
theorem op2_isB : Op2 C (fun x y H Q => ∃ b : Bool, y = .bl b ∧ Q (.bl (decide (x = .bl b))) H) dIsB .pu := by
  intro R H d1 d2 d x y F1 F2 Q r1 r2 hg k
  cases d2 <;> simp only [dIsB] at hg <;> try (cases hg; done)
  cases hg
  rename_i b
  refine ⟨b, r2.blI, k _ _ [] ⟨Same.refl _, ?_, rfl⟩⟩
  cases r1 with
  | bl c => cases b <;> cases c <;> exact .bl _
  | _ => cases b <;> exact .bl _
theorem op2_notB : Op2 C (fun x y H Q => ∃ b : Bool, y = .bl b ∧ Q (.bl (!decide (x = .bl b))) H) dNotB .pu := by
  intro R H d1 d2 d x y F1 F2 Q r1 r2 hg k
  cases d2 <;> simp only [dNotB] at hg <;> try (cases hg; done)
  cases hg
  rename_i b
  refine ⟨b, r2.blI, k _ _ [] ⟨Same.refl _, ?_, rfl⟩⟩
  cases r1 with
  | bl c => cases b <;> cases c <;> exact .bl _
  | _ => cases b <;> exact .bl _
end
end EL

namespace EL
open PySem PySem.Spec PyProof.Rows
open L2 hiding XE
/-! ### data: ==, in, < -/
mutual
/-- a value as plain data -/
def toPy : D → Option PyData
  | .non => some .none
  | .bl b => some (.bool b)
  | .int i => some (.int i)
  | .str x => some (.str x)
  | .tup ds => (toPys ds).map .tuple
  | .lst ds => (toPys ds).map .list
  | _ => none
def toPys : List D → Option (List PyData)
  | [] => some []
  | d :: ds => (toPy d).bind fun p => (toPys ds).map fun ps => p :: ps
end
mutual
/-- plain data, texts of signs that there are -/
def datD : D → Bool
  | .non => true | .bl _ => true | .int _ => true
  | .str x => PyData.strOk x
  | .tup ds => datDs ds | .lst ds => datDs ds
  | _ => false
def datDs : List D → Bool
  | [] => true
  | d :: ds => datD d && datDs ds
end
mutual
def depD : D → Nat
  | .tup ds => depDs ds + 1 | .lst ds => depDs ds + 1
  | _ => 0
def depDs : List D → Nat
  | [] => 0
  | d :: ds => max (depD d) (depDs ds)
end
def okD (d : D) : Bool := datD d && decide (depD d ≤ 64)
mutual
theorem toPy_ok : ∀ {d : D}, datD d = true → ∃ p, toPy d = some p ∧ p.canLay0 = true ∧ p.depth = depD d
  | .non, _ => ⟨_, rfl, rfl, rfl⟩
  | .bl b, _ => ⟨_, rfl, rfl, rfl⟩
  | .int i, _ => ⟨_, rfl, rfl, rfl⟩
  | .str x, h => ⟨_, rfl, h, rfl⟩
  | .tup ds, h => by
    obtain ⟨ps, h1, h2, h3⟩ := toPys_ok (ds := ds) (by simpa [datD] using h)
    exact ⟨.tuple ps, by simp [toPy, h1], by simpa [PyData.canLay0] using h2, by simp [PyData.depth, depD, h3]⟩
  | .lst ds, h => by
    obtain ⟨ps, h1, h2, h3⟩ := toPys_ok (ds := ds) (by simpa [datD] using h)
    exact ⟨.list ps, by simp [toPy, h1], by simpa [PyData.canLay0] using h2, by simp [PyData.depth, depD, h3]⟩
  | .scr _, h => by simp [datD] at h
  | .dic _, h => by simp [datD] at h
  | .ins _ _, h => by simp [datD] at h
  | .obj _ _, h => by simp [datD] at h
theorem toPys_ok : ∀ {ds : List D}, datDs ds = true → ∃ ps, toPys ds = some ps ∧ PyData.canLayAll0 ps = true ∧ PyData.depthAll ps = depDs ds
  | [], _ => ⟨[], rfl, rfl, rfl⟩
  | d :: ds, h => by
    simp only [datDs, Bool.and_eq_true] at h
    obtain ⟨p, h1, h2, h3⟩ := toPy_ok (d := d) h.1
    obtain ⟨ps, q1, q2, q3⟩ := toPys_ok (ds := ds) h.2
    exact ⟨p :: ps, by simp [toPys, h1, q1], by simp [PyData.canLayAll0, h2, q2], by simp [PyData.depthAll, depDs, h3, q3]⟩
end
theorem okD_py {d : D} (h : okD d = true) : ∃ p, toPy d = some p ∧ SeqAt.shaped p = true := by
  simp only [okD, Bool.and_eq_true, decide_eq_true_eq] at h
  obtain ⟨p, h1, h2, h3⟩ := toPy_ok h.1
  exact ⟨p, h1, by simp [SeqAt.shaped, h2, h3, h.2]⟩
mutual
theorem Rep.dp {C : Core} {R : Addr → Prop} {H : Hp} {d : D} {v : V} {F : List Addr} {p : PyData} : Rep C R H d v F → toPy d = some p → Dp C.K H v p
  | .non, e => by simp only [toPy] at e; cases e; exact .non
  | .bl b, e => by simp only [toPy] at e; cases e; exact .bl b
  | .int i, e => by simp only [toPy] at e; cases e; exact .int i
  | .str x, e => by simp only [toPy] at e; cases e; exact .str x
  | .tup (ds := ds) h l r, e => by
    simp only [toPy] at e
    cases q : toPys ds with
    | none => rw [q] at e; cases e
    | some ps => rw [q] at e; cases e; exact .tup h (Reps.dp r q)
  | .lst (ds := ds) h l r, e => by
    simp only [toPy] at e
    cases q : toPys ds with
    | none => rw [q] at e; cases e
    | some ps => rw [q] at e; cases e; exact .lst (SqL.of h) (Reps.dp r q)
  | .scr h l r, e => by simp [toPy] at e
  | .dic h l e' r, e => by simp [toPy] at e
  | .ins h z n e' r, e => by simp [toPy] at e
  | .obj h n e' r, e => by simp [toPy] at e
theorem Reps.dp {C : Core} {R : Addr → Prop} {H : Hp} {ds : List D} {vs : List V} {F : List Addr} {ps : List PyData} : Reps C R H ds vs F → toPys ds = some ps → DpAll C.K H vs ps
  | .nil, e => by simp only [toPys] at e; cases e; exact .nil
  | .cons (d := d) (ds := ds) r t, e => by
    simp only [toPys] at e
    cases q : toPy d with
    | none => rw [q] at e; cases e
    | some p =>
      rw [q] at e
      cases q2 : toPys ds with
      | none => rw [q2] at e; cases e
      | some ps => rw [q2] at e; cases e; exact .cons (Rep.dp r q) (Reps.dp t q2)
end
mutual
/-- == of plain data -/
def eqvD : D → D → Bool
  | .non, .non => true
  | .bl a, .bl b => a == b
  | .bl a, .int j => (if a then 1 else 0) == j
  | .int i, .bl b => i == (if b then 1 else 0)
  | .int i, .int j => i == j
  | .str x, .str y => x == y
  | .lst xs, .lst ys => eqvDs xs ys
  | .tup xs, .tup ys => eqvDs xs ys
  | _, _ => false
def eqvDs : List D → List D → Bool
  | [], [] => true
  | x :: xs, y :: ys => eqvD x y && eqvDs xs ys
  | _, _ => false
end
mutual
theorem eqv_py : ∀ {a b : D} {p q : PyData}, toPy a = some p → toPy b = some q → PyData.eqv p q = eqvD a b
  | .tup xs, b, p, q, ha, hb => by
    simp only [toPy] at ha
    cases h1 : toPys xs with
    | none => rw [h1] at ha; cases ha
    | some ps =>
      rw [h1] at ha; cases ha
      cases b with
      | tup ys =>
        simp only [toPy] at hb
        cases h2 : toPys ys with
        | none => rw [h2] at hb; cases hb
        | some qs => rw [h2] at hb; cases hb; simp only [PyData.eqv, eqvD]; exact eqvs_py h1 h2
      | lst ys =>
        simp only [toPy] at hb
        cases h2 : toPys ys with
        | none => rw [h2] at hb; cases hb
        | some qs => rw [h2] at hb; cases hb; simp [PyData.eqv, eqvD]
      | non => cases hb; simp [PyData.eqv, eqvD]
      | bl => cases hb; simp [PyData.eqv, eqvD]
      | int => cases hb; simp [PyData.eqv, eqvD]
      | str => cases hb; simp [PyData.eqv, eqvD]
      | scr => cases hb
      | dic => cases hb
      | ins => cases hb
      | obj => cases hb
  | .lst xs, b, p, q, ha, hb => by
    simp only [toPy] at ha
    cases h1 : toPys xs with
    | none => rw [h1] at ha; cases ha
    | some ps =>
      rw [h1] at ha; cases ha
      cases b with
      | lst ys =>
        simp only [toPy] at hb
        cases h2 : toPys ys with
        | none => rw [h2] at hb; cases hb
        | some qs => rw [h2] at hb; cases hb; simp only [PyData.eqv, eqvD]; exact eqvs_py h1 h2
      | tup ys =>
        simp only [toPy] at hb
        cases h2 : toPys ys with
        | none => rw [h2] at hb; cases hb
        | some qs => rw [h2] at hb; cases hb; simp [PyData.eqv, eqvD]
      | non => cases hb; simp [PyData.eqv, eqvD]
      | bl => cases hb; simp [PyData.eqv, eqvD]
      | int => cases hb; simp [PyData.eqv, eqvD]
      | str => cases hb; simp [PyData.eqv, eqvD]
      | scr => cases hb
      | dic => cases hb
      | ins => cases hb
      | obj => cases hb
  | .non, b, p, q, ha, hb => by
    cases ha
    cases b <;> first | (simp only [toPy] at hb; cases hb; simp [PyData.eqv, eqvD]; done) | (simp only [toPy, Option.map_eq_some_iff] at hb; obtain ⟨_, _, rfl⟩ := hb; (try simp [PyData.eqv, eqvD]))
  | .bl _, b, p, q, ha, hb => by
    cases ha
    cases b <;> first | (simp only [toPy] at hb; cases hb; simp [PyData.eqv, eqvD]; done) | (simp only [toPy, Option.map_eq_some_iff] at hb; obtain ⟨_, _, rfl⟩ := hb; (try simp [PyData.eqv, eqvD]))
  | .int _, b, p, q, ha, hb => by
    cases ha
    cases b <;> first | (simp only [toPy] at hb; cases hb; simp [PyData.eqv, eqvD]; done) | (simp only [toPy, Option.map_eq_some_iff] at hb; obtain ⟨_, _, rfl⟩ := hb; (try simp [PyData.eqv, eqvD]))
  | .str _, b, p, q, ha, hb => by
    cases ha
    cases b <;> first | (simp only [toPy] at hb; cases hb; simp [PyData.eqv, eqvD]; done) | (simp only [toPy, Option.map_eq_some_iff] at hb; obtain ⟨_, _, rfl⟩ := hb; (try simp [PyData.eqv, eqvD]))
  | .scr _, b, p, q, ha, hb => by cases ha
  | .dic _, b, p, q, ha, hb => by cases ha
  | .ins _ _, b, p, q, ha, hb => by cases ha
  | .obj _ _, b, p, q, ha, hb => by cases ha
theorem eqvs_py : ∀ {as bs : List D} {ps qs : List PyData}, toPys as = some ps → toPys bs = some qs → PyData.eqvAll ps qs = eqvDs as bs
  | [], [], ps, qs, ha, hb => by cases ha; cases hb; simp [PyData.eqvAll, eqvDs]
  | [], b :: bs, ps, qs, ha, hb => by
    cases ha
    simp only [toPys] at hb
    cases h1 : toPy b with
    | none => rw [h1] at hb; cases hb
    | some p =>
      rw [h1] at hb
      cases h2 : toPys bs with
      | none => rw [h2] at hb; cases hb
      | some qs => rw [h2] at hb; cases hb; simp [PyData.eqvAll, eqvDs]
  | a :: as, [], ps, qs, ha, hb => by
    cases hb
    simp only [toPys] at ha
    cases h1 : toPy a with
    | none => rw [h1] at ha; cases ha
    | some p =>
      rw [h1] at ha
      cases h2 : toPys as with
      | none => rw [h2] at ha; cases ha
      | some qs => rw [h2] at ha; cases ha; simp [PyData.eqvAll, eqvDs]
  | a :: as, b :: bs, ps, qs, ha, hb => by
    simp only [toPys] at ha hb
    cases h1 : toPy a with
    | none => rw [h1] at ha; cases ha
    | some p =>
      rw [h1] at ha
      cases h2 : toPys as with
      | none => rw [h2] at ha; cases ha
      | some ps' =>
        rw [h2] at ha; cases ha
        cases h3 : toPy b with
        | none => rw [h3] at hb; cases hb
        | some q =>
          rw [h3] at hb
          cases h4 : toPys bs with
          | none => rw [h4] at hb; cases hb
          | some qs' =>
            rw [h4] at hb; cases hb
            simp only [PyData.eqvAll, eqvDs]
            rw [eqv_py h1 h3, eqvs_py h2 h4]
end
section
variable {X : Cx} {C : Core} {R : Addr → Prop} {H H' : Hp} {F : List Addr}
def dEq (a b : D) : Option D := if okD a && okD b then some (.bl (eqvD a b)) else none
def dNe (a b : D) : Option D := if okD a && okD b then some (.bl (!eqvD a b)) else none
theorem op2_eq (hK : X.K = C.K) : Op2 C (rEqD X.K) dEq .pu := by
  intro R H d1 d2 d x y F1 F2 Q r1 r2 hg k
  unfold dEq at hg
  split at hg <;> cases hg
  rename_i hc
  simp only [Bool.and_eq_true] at hc
  obtain ⟨p, h1, h2⟩ := okD_py hc.1
  obtain ⟨q, h3, h4⟩ := okD_py hc.2
  refine ⟨p, q, by rw [hK]; exact r1.dp h1, by rw [hK]; exact r2.dp h3, h2, h4, ?_⟩
  rw [eqv_py h1 h3]
  exact k _ _ [] (VP.val (.bl _))
theorem op2_ne (hK : X.K = C.K) : Op2 C (rNeD X.K) dNe .pu := by
  intro R H d1 d2 d x y F1 F2 Q r1 r2 hg k
  unfold dNe at hg
  split at hg <;> cases hg
  rename_i hc
  simp only [Bool.and_eq_true] at hc
  obtain ⟨p, h1, h2⟩ := okD_py hc.1
  obtain ⟨q, h3, h4⟩ := okD_py hc.2
  refine ⟨p, q, by rw [hK]; exact r1.dp h1, by rw [hK]; exact r2.dp h3, h2, h4, ?_⟩
  rw [eqv_py h1 h3]
  exact k _ _ [] (VP.val (.bl _))
/-! ### < and its like -/
def dLtI (p : Int → Int → Bool) : D → D → Option D
  | .int i, .int j => some (.bl (p i j))
  | _, _ => none
theorem op2_cmpI {p : Int → Int → Bool} : Op2 C (rI0 fun i j => .bl (p i j)) (dLtI p) .pu := by
  intro R H d1 d2 d x y F1 F2 Q r1 r2 hg k
  cases d1 <;> cases d2 <;> simp only [dLtI] at hg <;> try (cases hg; done)
  cases hg
  exact ⟨_, _, r1.int_inv, r2.int_inv, k _ _ [] (VP.val (.bl _))⟩
def dLt : D → D → Option D := dLtI fun i j => decide (i < j)
def dLe : D → D → Option D := dLtI fun i j => decide (i ≤ j)
def dGt : D → D → Option D := dLtI fun i j => decide (j < i)
def dGe : D → D → Option D := dLtI fun i j => decide (j ≤ i)
/-! ### in -/
def inD (x : D) : D → Option Bool
  | .lst ds => if okD x && okD (.lst ds) then some (ds.any fun z => eqvD z x) else none
  | .tup ds => if okD x && okD (.tup ds) then some (ds.any fun z => eqvD z x) else none
  | .str y => match x with | .str z => some (!(Builtin.Str.occurrences y z 0 y.length 1).isEmpty) | _ => none
  | _ => none
def dIn (x c : D) : Option D := (inD x c).map .bl
def dNotIn (x c : D) : Option D := (inD x c).map fun b => .bl (!b)
theorem any_py : ∀ {ds : List D} {ps : List PyData} {d : D} {p : PyData}, toPys ds = some ps → toPy d = some p → (ps.any fun z => PyData.eqv z p) = ds.any fun z => eqvD z d
  | [], ps, d, p, h, hd => by cases h; rfl
  | a :: as, ps, d, p, h, hd => by
    simp only [toPys] at h
    cases h1 : toPy a with
    | none => rw [h1] at h; cases h
    | some q =>
      rw [h1] at h
      cases h2 : toPys as with
      | none => rw [h2] at h; cases h
      | some qs =>
        rw [h2] at h; cases h
        simp only [List.any_cons]
        rw [eqv_py h1 hd, any_py h2 hd]
/-- in over a tuple of data -/
def rInT (K : PySem.W.Frag) (neg : Bool) : R2 := fun x y H Q => ∃ d ds, Dp K H x d ∧ Dp K H y (.tuple ds) ∧ SeqAt.shaped d = true ∧ SeqAt.shaped (.tuple ds) = true ∧ Q (.bl (if neg then !(ds.any fun z => PyData.eqv z d) else ds.any fun z => PyData.eqv z d)) H
theorem op_inT (hu : X.A.units + 65 < cLine) : OpR X (compareOp .In) (rInT X.K false) := by
  intro pins s σ H x y v u Q I rx ry h
  obtain ⟨d, ds, hd, he, sd, se, q⟩ := h
  obtain ⟨as, r1⟩ := Dp.reads I d x v hd rx
  obtain ⟨bs, r2⟩ := Dp.reads I (.tuple ds) y u he ry
  exact SeqAt.in_tuple_reads r2 r1 (SeqAt.canLay_of_shaped se) (SeqAt.canLay_of_shaped sd) (PyProof.Rows.room_in_shaped sd hu) (fin_bl I q rfl)
theorem op_notInT (hu : X.A.units + 65 < cLine) : OpR X (compareOp .NotIn) (rInT X.K true) := by
  intro pins s σ H x y v u Q I rx ry h
  obtain ⟨d, ds, hd, he, sd, se, q⟩ := h
  obtain ⟨as, r1⟩ := Dp.reads I d x v hd rx
  obtain ⟨bs, r2⟩ := Dp.reads I (.tuple ds) y u he ry
  exact SeqAt.notIn_tuple_reads r2 r1 (SeqAt.canLay_of_shaped se) (SeqAt.canLay_of_shaped sd) (PyProof.Rows.room_in_shaped sd hu) (fin_bl I q rfl)
theorem in_ways {R : Addr → Prop} {H : Hp} {d1 d2 : D} {b : Bool} {x y : V} {F1 F2 : List Addr} (r1 : Rep C R H d1 x F1) (r2 : Rep C R H d2 y F2) (h : inD d1 d2 = some b) :
    (∃ d ds, Dp C.K H x d ∧ Dp C.K H y (.list ds) ∧ SeqAt.shaped d = true ∧ SeqAt.shaped (.list ds) = true ∧ b = ds.any fun z => PyData.eqv z d) ∨ (∃ d ds, Dp C.K H x d ∧ Dp C.K H y (.tuple ds) ∧ SeqAt.shaped d = true ∧ SeqAt.shaped (.tuple ds) = true ∧ b = ds.any fun z => PyData.eqv z d) ∨
      ∃ i j, x = .str i ∧ y = .str j ∧ b = !(Builtin.Str.occurrences j i 0 j.length 1).isEmpty := by
  cases d2 with
  | lst ds =>
    simp only [inD] at h
    split at h <;> cases h
    rename_i hc
    simp only [Bool.and_eq_true] at hc
    obtain ⟨p, h1, h2⟩ := okD_py hc.1
    obtain ⟨q, h3, h4⟩ := okD_py hc.2
    have h5 := h3
    simp only [toPy] at h3
    cases h6 : toPys ds with
    | none => rw [h6] at h3; cases h3
    | some qs => rw [h6] at h3; cases h3; exact .inl ⟨p, qs, r1.dp h1, r2.dp h5, h2, h4, (any_py h6 h1).symm⟩
  | tup ds =>
    simp only [inD] at h
    split at h <;> cases h
    rename_i hc
    simp only [Bool.and_eq_true] at hc
    obtain ⟨p, h1, h2⟩ := okD_py hc.1
    obtain ⟨q, h3, h4⟩ := okD_py hc.2
    have h5 := h3
    simp only [toPy] at h3
    cases h6 : toPys ds with
    | none => rw [h6] at h3; cases h3
    | some qs => rw [h6] at h3; cases h3; exact .inr (.inl ⟨p, qs, r1.dp h1, r2.dp h5, h2, h4, (any_py h6 h1).symm⟩)
  | str y =>
    cases d1 <;> simp only [inD] at h <;> cases h
    exact .inr (.inr ⟨_, _, r1.str_inv, r2.str_inv, rfl⟩)
  | non => cases h
  | bl => cases h
  | int => cases h
  | scr => cases h
  | dic => cases h
  | ins => cases h
  | obj => cases h
def rInA (K : PySem.W.Frag) : R2 := fun x y H Q => rInD K x y H Q ∨ (rInT K false x y H Q ∨ (fun x y H Q => ∃ i j, x = .str i ∧ y = .str j ∧ Q (.bl (!(Builtin.Str.occurrences j i 0 j.length 1).isEmpty)) H) x y H Q)
def rNotInA (K : PySem.W.Frag) : R2 := fun x y H Q => rNotInD K x y H Q ∨ (rInT K true x y H Q ∨ (fun x y H Q => ∃ i j, x = .str i ∧ y = .str j ∧ Q (.bl (!(!(Builtin.Str.occurrences j i 0 j.length 1).isEmpty))) H) x y H Q)
theorem op_inA (hu : X.A.units + 65 < cLine) : OpR X (compareOp .In) (rInA X.K) := (op_inD hu).or ((op_inT hu).or op_in_str)
theorem op_notInA (hu : X.A.units + 65 < cLine) : OpR X (compareOp .NotIn) (rNotInA X.K) := (op_notInD hu).or ((op_notInT hu).or op_notIn_str)
theorem op2_in (hK : X.K = C.K) : Op2 C (rInA X.K) dIn .pu := by
  intro R H d1 d2 d x y F1 F2 Q r1 r2 hg k
  unfold dIn at hg
  cases h : inD d1 d2 with
  | none => rw [h] at hg; cases hg
  | some b =>
    rw [h] at hg; cases hg
    rw [hK]
    have kk := k _ _ [] (VP.val (.bl b))
    rcases in_ways r1 r2 h with ⟨d, ds, a1, a2, a3, a4, e⟩ | ⟨d, ds, a1, a2, a3, a4, e⟩ | ⟨i, j, a1, a2, e⟩
    · exact .inl ⟨d, ds, a1, a2, a3, a4, by rw [← e]; exact kk⟩
    · exact .inr (.inl ⟨d, ds, a1, a2, a3, a4, by simpa [← e] using kk⟩)
    · exact .inr (.inr ⟨i, j, a1, a2, by rw [← e]; exact kk⟩)
theorem op2_notIn (hK : X.K = C.K) : Op2 C (rNotInA X.K) dNotIn .pu := by
  intro R H d1 d2 d x y F1 F2 Q r1 r2 hg k
  unfold dNotIn at hg
  cases h : inD d1 d2 with
  | none => rw [h] at hg; cases hg
  | some b =>
    rw [h] at hg; cases hg
    rw [hK]
    have kk := k _ _ [] (VP.val (.bl (!b)))
    rcases in_ways r1 r2 h with ⟨d, ds, a1, a2, a3, a4, e⟩ | ⟨d, ds, a1, a2, a3, a4, e⟩ | ⟨i, j, a1, a2, e⟩
    · exact .inl ⟨d, ds, a1, a2, a3, a4, by rw [← e]; exact kk⟩
    · exact .inr (.inl ⟨d, ds, a1, a2, a3, a4, by simpa [← e] using kk⟩)
    · exact .inr (.inr ⟨i, j, a1, a2, by rw [← e]; exact kk⟩)
end
end EL

namespace EL
open PySem PySem.Spec PyProof.Rows
open L2 hiding XE
section
variable {X : Cx} {S : Sig} {C : Core} {W : WX} {R : Addr → Prop} {H H' : Hp} {F : List Addr} {m m1 m2 : Md} {e1 e2 : Bool} {pos : Pos}
/-! ### isinstance -/
def tyD : D → Option String
  | .non => some "NoneType" | .bl _ => some "bool" | .int _ => some "int" | .str _ => some "str" | .tup _ => some "tuple" | .lst _ => some "list" | .dic _ => some "dict"
  | _ => none
def isiB (a b : String) : Bool := a == b || (a == "bool" && b == "int")
def tyOkN (T : String) : Bool := ["int", "str", "tuple", "list", "dict", "bool"].contains T
def dIsi (T : String) (d : D) : Option D := (tyD d).map fun a => .bl (isiB a T)
def dIsi2 (Ts : List String) (d : D) : Option D := (tyD d).map fun a => .bl (Ts.any (isiB a))
theorem kitB_ok {a T : String} (ha : a = "NoneType" ∨ a = "bool" ∨ a = "int" ∨ a = "str" ∨ a = "tuple" ∨ a = "list" ∨ a = "dict") (h : tyOkN T = true) : kitB a T = some (isiB a T) := by
  have hT : T = "int" ∨ T = "str" ∨ T = "tuple" ∨ T = "list" ∨ T = "dict" ∨ T = "bool" := by simpa [tyOkN] using h
  rcases ha with rfl | rfl | rfl | rfl | rfl | rfl | rfl <;> rcases hT with rfl | rfl | rfl | rfl | rfl | rfl <;> decide +kernel
theorem ty_of {d : D} {v : V} {a : String} (r : Rep C R H d v F) (h : tyD d = some a) : TyX C.K H v (.type a) ∧ (a = "NoneType" ∨ a = "bool" ∨ a = "int" ∨ a = "str" ∨ a = "tuple" ∨ a = "list" ∨ a = "dict") := by
  cases r with
  | non => cases h; exact ⟨.base .non, by simp⟩
  | bl b => cases h; exact ⟨.base (.bl _), by simp⟩
  | int i => cases h; exact ⟨.base (.int _), by simp⟩
  | str x => cases h; exact ⟨.base (.str _), by simp⟩
  | tup hs l r =>
    cases h
    refine ⟨?_, by simp⟩
    rcases hs with (q | ⟨o, q⟩) | ⟨o, its, n, q, c, _⟩
    · exact .base (.tup q)
    · exact .fTuple q
    · exact .kTuple q c
  | lst hs l r => cases h; exact ⟨.base (.lst hs), by simp⟩
  | scr hs l r => cases h
  | dic hs l e r => cases h; exact ⟨.base (.dK hs), by simp⟩
  | ins => cases h
  | obj => cases h
theorem xe_isi (hK : X.K = S.c.K) {T : String} {x tn : Str} {e : Expr} {ev : M D} {p p2 : Pos} (ha : XE X S W e m e1 ev) (hx : Gl X x) (hm : X.mg x = none) (hv : bootBuiltins x = some (.builtin "isinstance")) (ht : Gl X tn) (hmt : X.mg tn = none) (hvt : bootBuiltins tn = some (.type T)) (hT : tyOkN T = true := by decide)
    (hn : x ≠ "__name__" := by decide) (hdb : (x == ("__debug__" : Str)) = false := by decide) (hn2 : tn ≠ "__name__" := by decide) (hdb2 : (tn == ("__debug__" : Str)) = false := by decide)
    (he : starEach [e, .Name tn p2] X.env = (false, eval e X.env) :: starEach [.Name tn p2] X.env := by rfl) (he2 : starEach [.Name tn p2] X.env = (false, eval (.Name tn p2) X.env) :: starEach [] X.env := by rfl) (hpl : (backTo pos (starEach [.Name tn p2] X.env)).any (·.1) = false := by rfl) :
    XE X S W (.Call (.Name x p) [e, .Name tn p2] [] pos) .pu e1 (eUn (dIsi T) ev) := by
  obtain ⟨ta, pa, ra⟩ := ha.ex
  refine ⟨_, pe_callB call_isi hx hm hv (pa_cons pa (pa_cons (pe_bltn (v := .ty T) ht hmt hvt rfl hn2 hdb2) pa_nil he2) he) hn hdb he hpl, fun B ρ σ Fs H Q I h => ra B ρ σ Fs H _ I (h.bind.imp fun d ρ1 _ h1 v H1 Fs1 F q => ?_)⟩
  obtain ⟨d', hd, k⟩ := h1.lift
  unfold dIsi at hd
  cases ht' : tyD d with
  | none => rw [ht'] at hd; cases hd
  | some a =>
    rw [ht'] at hd; cases hd
    obtain ⟨t1, t2⟩ := ty_of q.rep ht'
    exact ⟨v, .ty T, .type a, .type T, _, rfl, .ty T, by rw [hK]; exact t1, kit_ty (kitB_ok t2 hT), k _ H1 Fs1 [] ⟨q.env, .bl _, q.step, rfl⟩⟩
theorem xe_isi2 (hK : X.K = S.c.K) {T U : String} {x tn un : Str} {e : Expr} {ev : M D} {p p2 p3 p4 : Pos} {kk : Nat} (ha : XE X S W e m e1 ev) (hx : Gl X x) (hm : X.mg x = none) (hv : bootBuiltins x = some (.builtin "isinstance")) (ht : Gl X tn) (hmt : X.mg tn = none) (hvt : bootBuiltins tn = some (.type T)) (hu : Gl X un) (hmu : X.mg un = none) (hvu : bootBuiltins un = some (.type U)) (hT : tyOkN T = true := by decide) (hU : tyOkN U = true := by decide)
    (hn : x ≠ "__name__" := by decide) (hdb : (x == ("__debug__" : Str)) = false := by decide) (hn2 : tn ≠ "__name__" := by decide) (hdb2 : (tn == ("__debug__" : Str)) = false := by decide) (hn3 : un ≠ "__name__" := by decide) (hdb3 : (un == ("__debug__" : Str)) = false := by decide)
    (he : starEach [e, .Tuple [.Name tn p2, .Name un p3] kk p4] X.env = (false, eval e X.env) :: starEach [.Tuple [.Name tn p2, .Name un p3] kk p4] X.env := by rfl) (he2 : starEach [.Tuple [.Name tn p2, .Name un p3] kk p4] X.env = (false, eval (.Tuple [.Name tn p2, .Name un p3] kk p4) X.env) :: starEach [] X.env := by rfl)
    (he3 : starEach [.Name tn p2, .Name un p3] X.env = (false, eval (.Name tn p2) X.env) :: starEach [.Name un p3] X.env := by rfl) (he4 : starEach [.Name un p3] X.env = (false, eval (.Name un p3) X.env) :: starEach [] X.env := by rfl) (hpl : (backTo pos (starEach [.Tuple [.Name tn p2, .Name un p3] kk p4] X.env)).any (·.1) = false := by rfl) :
    XE X S W (.Call (.Name x p) [e, .Tuple [.Name tn p2, .Name un p3] kk p4] [] pos) .pu e1 (eUn (dIsi2 [T, U]) ev) := by
  obtain ⟨ta, pa, ra⟩ := ha.ex
  refine ⟨_, pe_callB call_isiT hx hm hv (pa_cons pa (pa_cons (pe_tup (pa_cons (pe_bltn (v := .ty T) ht hmt hvt rfl hn2 hdb2) (pa_cons (pe_bltn (v := .ty U) hu hmu hvu rfl hn3 hdb3) pa_nil he4) he3)) pa_nil he2) he) hn hdb he hpl, fun B ρ σ Fs H Q I h => ra B ρ σ Fs H _ I (h.bind.imp fun d ρ1 _ h1 v H1 Fs1 F q => ?_)⟩
  obtain ⟨d', hd, k⟩ := h1.lift
  unfold dIsi2 at hd
  cases ht' : tyD d with
  | none => rw [ht'] at hd; cases hd
  | some a =>
    rw [ht'] at hd; cases hd
    refine ⟨by show 2 ≤ sizeLine; decide, fun tp hp => ?_⟩
    have r2 := q.rep.same (same_upd (o := .tup [.ty T, .ty U]) hp)
    obtain ⟨t1, t2⟩ := ty_of r2 ht'
    refine ⟨v, tp, [.ty T, .ty U], .type a, [.type T, .type U], _, rfl, upd_same, .cons (.ty T) (.cons (.ty U) .nil), by rw [hK]; exact t1, ?_, k _ _ Fs1 [] ⟨q.env.same (same_upd hp), .bl _, by simpa using q.step.trans (e2 := false) (Step.of_same (same_upd hp)), rfl⟩⟩
    have k1 := kit_ty (K := X.K) (kitB_ok t2 hT)
    have k2 := kit_ty (K := X.K) (kitB_ok t2 hU)
    refine kitAny_cons k1 (fun z => kitAny_cons k2 (fun z2 => ?_) fun z2 => ?_) fun z => ?_
    · rw [show [T, U].any (isiB a) = false by simp [z, z2]]; exact kitAny_nil
    · simp [z2]
    · simp [z]
/-! ### len, sum, all, any -/
def dLen : List D → Option D
  | [.str x] => if x.length ≤ sizeLine then some (.int x.length) else none
  | [.tup ds] => some (.int ds.length)
  | [.lst ds] => some (.int ds.length)
  | [.scr ds] => some (.int ds.length)
  | _ => none
theorem reps_one {d : D} {vs : List V} (r : Reps C R H [d] vs F) : ∃ v, vs = [v] ∧ Rep C R H d v F := by
  cases r with
  | cons r t => cases t; exact ⟨_, rfl, by simpa using r⟩
theorem opn_len (hK : X.K = C.K) : OpN C (fun xs H Q => ∃ x n, xs = [x] ∧ LenV X.K x H n ∧ Q (.int n) H) dLen .pu := by
  intro R H ds d xs F Q r hg k
  rw [hK]
  match ds, hg with
  | [.str x], hg =>
    simp only [dLen] at hg
    split at hg <;> cases hg
    rename_i hl
    replace r := reps_one r; obtain ⟨v, rfl, r⟩ := r
    rw [r.str_inv]
    exact ⟨_, _, rfl, ⟨hl, rfl⟩, k _ _ [] (VP.val (.int _))⟩
  | [.tup ds], hg =>
    cases hg
    replace r := reps_one r; obtain ⟨v, rfl, r⟩ := r
    obtain ⟨a, vs, rfl, hs, hl, rr⟩ := r.tup_inv
    exact ⟨_, _, rfl, .inr ⟨_, hs, rr.length⟩, k _ _ [] (VP.val (.int _))⟩
  | [.lst ds], hg =>
    cases hg
    replace r := reps_one r; obtain ⟨v, rfl, r⟩ := r
    obtain ⟨a, vs, G, rfl, hs, hl, rr, _⟩ := rep_lst r
    exact ⟨_, _, rfl, .inl ⟨_, SqL.of hs, rr.length⟩, k _ _ [] (VP.val (.int _))⟩
  | [.scr ds], hg =>
    cases hg
    replace r := reps_one r; obtain ⟨v, rfl, r⟩ := r
    cases r with
    | scr hs hl rr => exact ⟨_, _, rfl, .inl ⟨_, hs.toL, rr.length⟩, k _ _ [] (VP.val (.int _))⟩
def intsD : List D → Option (List Int)
  | [] => some []
  | .int i :: ds => (intsD ds).map (i :: ·)
  | _ :: _ => none
def blsD : List D → Option (List Bool)
  | [] => some []
  | .bl i :: ds => (blsD ds).map (i :: ·)
  | _ :: _ => none
theorem ints_of : ∀ {ds : List D} {ns : List Int} {vs : List V} {F : List Addr}, Reps C R H ds vs F → intsD ds = some ns → vs = ns.map V.int
  | [], ns, vs, F, r, h => by cases h; cases r; rfl
  | .int i :: ds, ns, vs, F, r, h => by
    simp only [intsD] at h
    cases q : intsD ds with
    | none => rw [q] at h; cases h
    | some ms =>
      rw [q] at h; cases h
      cases r with
      | cons r t => rw [r.int_inv, ints_of t q]; rfl
theorem bls_of : ∀ {ds : List D} {ns : List Bool} {vs : List V} {F : List Addr}, Reps C R H ds vs F → blsD ds = some ns → vs = ns.map V.bl
  | [], ns, vs, F, r, h => by cases h; cases r; rfl
  | .bl i :: ds, ns, vs, F, r, h => by
    simp only [blsD] at h
    cases q : blsD ds with
    | none => rw [q] at h; cases h
    | some ms =>
      rw [q] at h; cases h
      cases r with
      | cons r t => rw [r.blI, bls_of t q]; rfl
/-- sum of a list or a tuple of ints -/
def rSumA (K : PySem.W.Frag) : List V → Hp → VK → Prop := fun vs H Q => ∃ (a : Addr) (ns : List Int), vs = [V.ref a] ∧ (SqL K H a (ns.map V.int) ∨ SqT K H a (ns.map V.int)) ∧ Q (.int ns.sum) H
theorem cr_sumA (hc : X.calm = true) : CallR X (.builtin "sum") (rSumA X.K) := by
  intro pins s σ H vs us Q I r h
  obtain ⟨a, ns, rfl, hs | hs, q⟩ := h
  · exact cr_sum hc pins s σ H _ us Q I r ⟨a, ns, rfl, hs, q⟩
  · obtain ⟨its, rv, ht, _⟩ := I.tuple hs
    have hi : IntsAre its ns := rv.ints
    rw [Vals.ref1 r]
    obtain ⟨xs, e⟩ := hi.allInts.items
    have hn : numsOf (intItems xs).toList = ns := by rw [← e]; exact hi.numsOf
    rw [nums_intItems] at hn
    have ht2 : s.heap.IsTuple a (intItems xs) := by rw [← e]; exact ht
    refine PySem.W.ktm_sumG (I.ok.hd hc) ht2 fun h' tk t' hk => ⟨.int ns.sum, H, I.kept hk, ⟨t', ?_⟩, q⟩
    rw [preSum_eq, List.take_of_length_le (by simp), hn]
def dSum : List D → Option D
  | [.lst ds] => (intsD ds).map fun ns => .int ns.sum
  | [.tup ds] => (intsD ds).map fun ns => .int ns.sum
  | _ => none
theorem opn_sum (hK : X.K = C.K) : OpN C (rSumA X.K) dSum .pu := by
  intro R H ds d xs F Q r hg k
  rw [hK]
  match ds, hg with
  | [.lst ds], hg =>
    simp only [dSum] at hg
    cases q : intsD ds with
    | none => rw [q] at hg; cases hg
    | some ns =>
      rw [q] at hg; cases hg
      replace r := reps_one r; obtain ⟨v, rfl, r⟩ := r
      obtain ⟨a, vs, G, rfl, hs, hl, rr, _⟩ := rep_lst r
      rw [ints_of rr q] at hs
      exact ⟨a, ns, rfl, .inl (SqL.of hs), k _ _ [] (VP.val (.int _))⟩
  | [.tup ds], hg =>
    simp only [dSum] at hg
    cases q : intsD ds with
    | none => rw [q] at hg; cases hg
    | some ns =>
      rw [q] at hg; cases hg
      replace r := reps_one r; obtain ⟨v, rfl, r⟩ := r
      obtain ⟨a, vs, rfl, hs, hl, rr⟩ := r.tup_inv
      rw [ints_of rr q] at hs
      exact ⟨a, ns, rfl, .inr hs, k _ _ [] (VP.val (.int _))⟩
def dAll : List D → Option D
  | [.lst ds] => (blsD ds).map fun bs => .bl (bs.all id)
  | _ => none
def dAny : List D → Option D
  | [.lst ds] => (blsD ds).map fun bs => .bl (bs.any id)
  | _ => none
theorem opn_all (hK : X.K = C.K) : OpN C (rAll X.K) dAll .pu := by
  intro R H ds d xs F Q r hg k
  rw [hK]
  match ds, hg with
  | [.lst ds], hg =>
    simp only [dAll] at hg
    cases q : blsD ds with
    | none => rw [q] at hg; cases hg
    | some ns =>
      rw [q] at hg; cases hg
      replace r := reps_one r; obtain ⟨v, rfl, r⟩ := r
      obtain ⟨a, vs, G, rfl, hs, hl, rr, _⟩ := rep_lst r
      rw [bls_of rr q] at hs
      exact ⟨a, ns, rfl, SqL.of hs, k _ _ [] (VP.val (.bl _))⟩
theorem opn_any (hK : X.K = C.K) : OpN C (rAny X.K) dAny .pu := by
  intro R H ds d xs F Q r hg k
  rw [hK]
  match ds, hg with
  | [.lst ds], hg =>
    simp only [dAny] at hg
    cases q : blsD ds with
    | none => rw [q] at hg; cases hg
    | some ns =>
      rw [q] at hg; cases hg
      replace r := reps_one r; obtain ⟨v, rfl, r⟩ := r
      obtain ⟨a, vs, G, rfl, hs, hl, rr, _⟩ := rep_lst r
      rw [bls_of rr q] at hs
      exact ⟨a, ns, rfl, SqL.of hs, k _ _ [] (VP.val (.bl _))⟩
/-! ### int(x), list(x), tuple(x) -/
def dInt : List D → Option D
  | [.int i] => some (.int i)
  | [.bl b] => some (.int (if b then 1 else 0))
  | _ => none
theorem opn_int : OpN C (fun xs H Q => (∃ i, xs = [.int i] ∧ Q (.int i) H) ∨ ∃ k, xs = [.bl k] ∧ Q (.int (if k then 1 else 0)) H) dInt .pu := by
  intro R H ds d xs F Q r hg k
  match ds, hg with
  | [.int i], hg => cases hg; replace r := reps_one r; obtain ⟨v, rfl, r⟩ := r; rw [r.int_inv]; exact .inl ⟨_, rfl, k _ _ [] (VP.val (.int _))⟩
  | [.bl i], hg => cases hg; replace r := reps_one r; obtain ⟨v, rfl, r⟩ := r; rw [r.blI]; exact .inr ⟨_, rfl, k _ _ [] (VP.val (.int _))⟩
/-- list(x) of a list or a tuple whose items cannot change -/
def dList : List D → Option D
  | [.lst ds] => if pureDs ds then some (.lst ds) else none
  | [.scr ds] => if pureDs ds then some (.lst ds) else none
  | [.tup ds] => if pureDs ds then some (.lst ds) else none
  | _ => none
theorem opn_list (hK : X.K = C.K) : OpN C (fun xs H Q => ∃ p ys, xs = [.ref p] ∧ (SqL X.K H p ys ∨ SqT X.K H p ys) ∧ ∀ l, H l = none → Q (.ref l) (upd H l (.lst ys))) dList .fr := by
  intro R H ds d xs F Q r hg k
  rw [hK]
  match ds, hg with
  | [.lst ds], hg =>
    simp only [dList] at hg
    split at hg <;> cases hg
    rename_i hp
    replace r := reps_one r; obtain ⟨v, rfl, r⟩ := r
    obtain ⟨a, vs, G, rfl, hs, hl, rr, _⟩ := rep_lst r
    have e := rr.pure hp
    subst e
    exact ⟨a, vs, rfl, .inl (SqL.of hs), fun l hn => k _ _ [l] (VP.newL hn hl rr)⟩
  | [.scr ds], hg =>
    simp only [dList] at hg
    split at hg <;> cases hg
    rename_i hp
    replace r := reps_one r; obtain ⟨v, rfl, r⟩ := r
    cases r with
    | scr hs hl rr =>
      have e := rr.pure hp
      subst e
      exact ⟨_, _, rfl, .inl hs.toL, fun l hn => k _ _ [l] (VP.newL hn hl rr)⟩
  | [.tup ds], hg =>
    simp only [dList] at hg
    split at hg <;> cases hg
    rename_i hp
    replace r := reps_one r; obtain ⟨v, rfl, r⟩ := r
    obtain ⟨a, vs, rfl, hs, hl, rr⟩ := r.tup_inv
    have e := rr.pure hp
    subst e
    exact ⟨a, vs, rfl, .inr hs, fun l hn => k _ _ [l] (VP.newL hn hl rr)⟩
def dTuple : List D → Option D
  | [.lst ds] => if pureDs ds then some (.tup ds) else none
  | [.tup ds] => if pureDs ds then some (.tup ds) else none
  | _ => none
theorem opn_tuple (hK : X.K = C.K) : OpN C (fun xs H Q => ∃ p ys, xs = [.ref p] ∧ ((SqL X.K H p ys ∧ ∀ l, H l = none → Q (.ref l) (upd H l (.tup ys))) ∨ (SqT X.K H p ys ∧ Q (.ref p) H))) dTuple .pu := by
  intro R H ds d xs F Q r hg k
  rw [hK]
  match ds, hg with
  | [.lst ds], hg =>
    simp only [dTuple] at hg
    split at hg <;> cases hg
    rename_i hp
    replace r := reps_one r; obtain ⟨v, rfl, r⟩ := r
    obtain ⟨a, vs, G, rfl, hs, hl, rr, _⟩ := rep_lst r
    have e := rr.pure hp
    subst e
    exact ⟨a, vs, rfl, .inl ⟨SqL.of hs, fun l hn => k _ _ [] (VP.new hn (.tup (SqT.of upd_same) hl (rr.same (same_upd hn))))⟩⟩
  | [.tup ds], hg =>
    simp only [dTuple] at hg
    split at hg <;> cases hg
    rename_i hp
    replace r := reps_one r; obtain ⟨v, rfl, r⟩ := r
    obtain ⟨a, vs, rfl, hs, hl, rr⟩ := r.tup_inv
    have e := rr.pure hp
    subst e
    exact ⟨a, vs, rfl, .inr ⟨hs, k _ _ [] (VP.val (.tup hs hl rr))⟩⟩
end
end EL

namespace EL
open PySem PySem.Spec PyProof.Rows
open L2 hiding XE
/-! ### keys -/
def keyD : D → Option Key
  | .int i => some (.inl i)
  | .str x => some (.inr x)
  | _ => none
def valD (kvs : List (Key × D)) (k : Key) : Option D := (kvs.find? fun kv => decide (kv.1 = k)).map (·.2)
def putD (kvs : List (Key × D)) (k : Key) (v : D) : List (Key × D) :=
  if (kvs.any fun kv => decide (kv.1 = k)) = true then kvs.map (fun kv => if kv.1 = k then (kv.1, v) else kv) else kvs ++ [(k, v)]
section
variable {X : Cx} {S : Sig} {C : Core} {B : Base} {W : WX} {R : Addr → Prop} {σ : L2.St} {ρ ρ1 ρ' : Env} {Fs Fs1 Fs' : Nat → List Addr} {H H1 H' : Hp} {F : List Addr} {m m1 m2 rm : Md} {e1 e2 : Bool} {pos : Pos} {d : D} {v : V}
theorem key_v {k : Key} {x : V} (r : Rep C R H d x F) (h : keyD d = some k) : x = kV k := by
  cases d <;> simp only [keyD] at h <;> cases h
  · exact r.int_inv
  · exact r.str_inv
theorem Reps.cons_nil {ds : List D} {xs : List V} (r : Reps C R H (d :: ds) xs []) : ∃ x ys, xs = x :: ys ∧ Rep C R H d x [] ∧ Reps C R H ds ys [] := by
  generalize hF : ([] : List Addr) = F at r
  generalize hD : d :: ds = ds' at r
  cases r with
  | nil => cases hD
  | cons r1 r2 =>
    cases hD
    obtain ⟨e1, e2⟩ := List.append_eq_nil_iff.mp hF.symm
    subst e1; subst e2
    exact ⟨_, _, rfl, r1, r2⟩
theorem Rep.dic_inv {kvs : List (Key × D)} {x : V} (h : Rep C R H (.dic kvs) x F) : ∃ a ws G, x = .ref a ∧ H a = Option.some (.dK ws) ∧ ws.length ≤ sizeLine ∧ ws.map (·.1) = kvs.map (·.1) ∧ Reps C R H (kvs.map (·.2)) (ws.map (·.2)) G ∧ F = a :: G := by
  cases h with
  | dic h l e r => exact ⟨_, _, _, rfl, h, l, e, r, rfl⟩
theorem val_of {k : Key} : ∀ {kvs : List (Key × D)} {ws : List (Key × V)} {F : List Addr}, ws.map (·.1) = kvs.map (·.1) → Reps C R H (kvs.map (·.2)) (ws.map (·.2)) F →
    (valD kvs k = none → valV ws k = none) ∧ ∀ d, valD kvs k = some d → ∃ v A G Bb, valV ws k = some v ∧ Rep C R H d v G ∧ F = A ++ G ++ Bb
  | [], [], F, e, r => ⟨fun _ => rfl, fun d h => by cases h⟩
  | [], _ :: _, F, e, r => by simp at e
  | _ :: _, [], F, e, r => by simp at e
  | (k1, d1) :: kvs, (k2, v2) :: ws, F, e, r => by
    simp only [List.map_cons, List.cons.injEq] at e r
    obtain ⟨rfl, e⟩ := e
    cases r with
    | cons r t =>
      rename_i F1 F2
      obtain ⟨ih1, ih2⟩ := val_of (k := k) e t
      by_cases hk : k2 = k
      · subst hk
        refine ⟨fun h => by simp [valD] at h, fun d h => ?_⟩
        simp [valD] at h
        subst h
        exact ⟨v2, [], F1, F2, by simp [valV], r, by simp⟩
      · have a1 : valD ((k2, d1) :: kvs) k = valD kvs k := by simp [valD, List.find?_cons, hk]
        have a2 : valV ((k2, v2) :: ws) k = valV ws k := by simp [valV, List.find?_cons, hk]
        rw [a1, a2]
        refine ⟨ih1, fun d h => ?_⟩
        obtain ⟨v, A, G, Bb, h1, h2, h3⟩ := ih2 d h
        exact ⟨v, F1 ++ A, G, Bb, h1, h2, by rw [h3]; simp⟩
theorem put_map {k : Key} {y : D} {x : V} (ry : Rep C R H y x []) : ∀ {kvs : List (Key × D)} {ws : List (Key × V)}, ws.map (·.1) = kvs.map (·.1) → Reps C R H (kvs.map (·.2)) (ws.map (·.2)) [] →
    (ws.map fun kv => if kv.1 = k then (kv.1, x) else kv).map (·.1) = (kvs.map fun kv => if kv.1 = k then (kv.1, y) else kv).map (·.1) ∧ Reps C R H ((kvs.map fun kv => if kv.1 = k then (kv.1, y) else kv).map (·.2)) ((ws.map fun kv => if kv.1 = k then (kv.1, x) else kv).map (·.2)) []
  | [], [], e, r => ⟨rfl, .nil⟩
  | [], _ :: _, e, r => by simp at e
  | _ :: _, [], e, r => by simp at e
  | (k1, d1) :: kvs, (k2, v2) :: ws, e, r => by
    simp only [List.map_cons, List.cons.injEq] at e r
    obtain ⟨rfl, e⟩ := e
    obtain ⟨v', ys, e3, r1, r2⟩ := r.cons_nil
    simp only [List.cons.injEq] at e3
    obtain ⟨rfl, rfl⟩ := e3
    obtain ⟨ih1, ih2⟩ := put_map (k := k) ry e r2
    simp only [List.map_cons]
    by_cases hk : k2 = k
    · simp only [if_pos hk, ih1]
      exact ⟨trivial, .cons (F := []) (G := []) ry ih2⟩
    · simp only [if_neg hk, ih1]
      exact ⟨trivial, .cons (F := []) (G := []) r1 ih2⟩
theorem put_of {k : Key} {y : D} {x : V} {kvs : List (Key × D)} {ws : List (Key × V)} (ry : Rep C R H y x []) (e : ws.map (·.1) = kvs.map (·.1)) (r : Reps C R H (kvs.map (·.2)) (ws.map (·.2)) []) :
    (putK ws k x).map (·.1) = (putD kvs k y).map (·.1) ∧ Reps C R H ((putD kvs k y).map (·.2)) ((putK ws k x).map (·.2)) [] ∧ (putK ws k x).length ≤ ws.length + 1 := by
  have ha : (ws.any fun kv => decide (kv.1 = k)) = kvs.any fun kv => decide (kv.1 = k) := by
    have h1 : ∀ {β : Type} (l : List (Key × β)), (l.any fun kv => decide (kv.1 = k)) = (l.map (·.1)).any fun z => decide (z = k) := fun l => by rw [List.any_map]; rfl
    rw [h1, h1, e]
  unfold putK putD
  rw [ha]
  split
  · obtain ⟨h1, h2⟩ := put_map (k := k) ry e r
    exact ⟨h1, h2, by simp⟩
  · refine ⟨by simp [e], ?_, by simp⟩
    simp only [List.map_append, List.map_cons, List.map_nil]
    have := r.app (.cons ry .nil)
    simpa using this
/-! ### an item -/
/-- an item of a list, a tuple, a text, by its place -/
def dIx : D → D → Option D
  | .tup ds, .int i => atI ds i
  | .lst ds, .int i => atI ds i
  | .scr ds, .int i => atI ds i
  | .str x, .int i => if x.length ≤ sizeLine then (atI x.cps.toList i).map fun c => .str ⟨#[c]⟩ else none
  | .dic kvs, k => (keyD k).bind (valD kvs)
  | _, _ => none
/-- an item of a dict -/
def rIxD : R2 := fun x y H Q => ∃ a v, x = .ref a ∧ DGet H a y (some v) ∧ Q v H
theorem ix_dict (hu : X.A.units + 1 < cLine) : IxR X rIxD := by
  intro value slice pins s σ H x y v u Q I rx ry h hs
  obtain ⟨a, w, rfl, g, q⟩ := h
  obtain rfl : v = Value.ref a := rx
  exact PyProof.Rows.tail_any (dict_typeIs I g) PySem.F.slot_dict_getitem.lookup (d_getItem hu I g ry fun w' s' I' r' => ⟨w, H, I', r', q⟩) hs
def rIxA (K : PySem.W.Frag) : R2 := fun x y H Q => rIx K x y H Q ∨ rIxD x y H Q
theorem ix_any (hu : X.A.units + 1 < cLine) : IxR X (rIxA X.K) := ix_seq.or (ix_dict hu)
theorem Reps.at_ {ds : List D} {vs : List V} {i : Int} (r : Reps C R H ds vs F) (e : atI ds i = Option.some d) : ∃ v A G Bb, atI vs i = Option.some v ∧ Rep C R H d v G ∧ F = A ++ G ++ Bb := by
  unfold atI at e ⊢
  rw [← r.length]
  cases q : ixN ds.length i with
  | none => rw [q] at e; cases e
  | some j =>
    rw [q] at e
    obtain ⟨v, G, A, Bb, h1, h2, h3⟩ := r.get (i := j) e
    exact ⟨v, A, G, Bb, h1, h2, h3⟩
theorem ix_ways {d1 d2 : D} {x y : V} {F1 F2 : List Addr} (r1 : Rep C R H d1 x F1) (r2 : Rep C R H d2 y F2) (h : dIx d1 d2 = some d) :
    ∃ v G, (∀ Q : VK, Q v H → rIxA C.K x y H Q) ∧ Rep C R H d v G ∧ (F1.Nodup → G.Nodup) ∧ ∀ a ∈ G, a ∈ F1 := by
  have sub : ∀ {A G Bb : List Addr}, ((A ++ G ++ Bb).Nodup → G.Nodup) ∧ ∀ a ∈ G, a ∈ A ++ G ++ Bb := fun {A G Bb} => ⟨fun n => (List.nodup_append.mp (List.nodup_append.mp n).1).2.1, fun a ha => by simp [ha]⟩
  cases r1 with
  | tup hs l r =>
    cases d2 <;> simp only [dIx] at h <;> try (cases h; done)
    obtain ⟨v, A, G, Bb, h1, h2, rfl⟩ := r.at_ h
    exact ⟨v, G, fun Q q => .inl (.inr (.inl ⟨_, _, _, v, rfl, r2.int_inv, hs, h1, q⟩)), h2, sub⟩
  | lst hs l r =>
    cases d2 <;> simp only [dIx] at h <;> try (cases h; done)
    obtain ⟨v, A, G, Bb, h1, h2, rfl⟩ := r.at_ h
    exact ⟨v, G, fun Q q => .inl (.inl ⟨_, _, _, v, rfl, r2.int_inv, SqL.of hs, h1, q⟩), h2, fun n => sub.1 (List.nodup_cons.mp n).2, fun a ha => List.mem_cons_of_mem _ (sub.2 a ha)⟩
  | scr hs l r =>
    cases d2 <;> simp only [dIx] at h <;> try (cases h; done)
    obtain ⟨v, A, G, Bb, h1, h2, rfl⟩ := r.at_ h
    exact ⟨v, G, fun Q q => .inl (.inl ⟨_, _, _, v, rfl, r2.int_inv, hs.toL, h1, q⟩), h2, sub⟩
  | str z =>
    cases d2 <;> simp only [dIx] at h <;> try (cases h; done)
    split at h
    · rename_i hl
      simp only [Option.map_eq_some_iff] at h
      obtain ⟨c, hc, rfl⟩ := h
      exact ⟨_, [], fun Q q => .inl (.inr (.inr ⟨z, _, c, rfl, r2.int_inv, hl, hc, q⟩)), .str _, fun _ => List.nodup_nil, fun a ha => by cases ha⟩
    · cases h
  | dic hs l e r =>
    simp only [dIx] at h
    cases hk : keyD d2 with
    | none => rw [hk] at h; cases h
    | some k =>
      rw [hk] at h
      obtain ⟨v, A, G, Bb, h1, h2, rfl⟩ := (val_of (k := k) e r).2 d h
      refine ⟨v, G, fun Q q => .inr ⟨_, v, rfl, ?_, q⟩, h2, fun n => sub.1 (List.nodup_cons.mp n).2, fun a ha => List.mem_cons_of_mem _ (sub.2 a ha)⟩
      rw [key_v r2 hk, ← h1]
      exact DGet.k hs
  | non => cases h
  | bl => cases h
  | int => cases h
  | ins => cases h
  | obj => cases h
theorem MdOk.sub {G : List Addr} (h : MdOk S B m ρ Fs H ρ' Fs' F) (n : F.Nodup → G.Nodup) (s : ∀ a ∈ G, a ∈ F) : MdOk S B m ρ Fs H ρ' Fs' G := by
  cases m with
  | bo => trivial
  | al T => exact fun a ha => h a (s a ha)
  | fr => exact ⟨n h.1, fun a ha => h.2.1 a (s a ha), fun i oi a ha => h.2.2 i oi a (s a ha)⟩
  | pu =>
    have e : F = [] := h
    cases G with
    | nil => rfl
    | cons a G => have := s a (by simp); rw [e] at this; cases this
theorem Md.join_pu (m : Md) : m.join .pu = m := by cases m <;> rfl
theorem xe_ix (hK : X.K = S.c.K) (hu : X.A.units + 1 < cLine) {a b : Expr} {ea eb : M D} (ha : XE X S W a m1 e1 ea) (hb : XE X S W b .pu e2 eb) (z : (!e2 || m1.sep) = true := by rfl) (hs : PlainIx b := by exact fun _ _ => rfl) : XE X S W (.Subscript a b pos) m1 (e1 || e2) (eBin dIx ea eb) := by
  obtain ⟨ta, pa, ra⟩ := ha.ex
  obtain ⟨tb, pb, rb⟩ := hb.ex
  refine ⟨_, pe_ix (ix_any hu) pa pb hs, fun B ρ σ Fs H Q I h => ra B ρ σ Fs H _ I (h.bind.imp fun d1 ρ1 _ h1 x H1 Fs1 F p1 => rb B ρ1 σ Fs1 H1 _ p1.env (h1.bind.imp fun d2 ρ2 _ h2 y H2 Fs2 G p2 => ?_))⟩
  obtain ⟨d, hd, k⟩ := h2.lift
  obtain ⟨v, G', w, r, n, s⟩ := ix_ways (p1.over p2.step z) p2.rep hd
  rw [hK]
  refine w _ (k v H2 Fs2 G' ⟨p2.env, r, p1.step.trans p2.step, ?_⟩)
  have j := MdOk.join (m2 := .pu) p1.env p1.step p2.step p1.md p2.md p1.rep.some z
  rw [Md.join_pu] at j
  have e : G = [] := p2.md
  subst e
  rw [List.append_nil] at j
  exact j.sub n s
/-! ### slices -/
structure XO (X : Cx) (S : Sig) (W : WX) (e : Option Expr) (ev : M (Option Int)) : Prop where
  ex : ∃ t, PO X e t ∧ ∀ (B : Base) (ρ : Env) (σ : L2.St) (Fs : Nat → List Addr) (H : Hp) (Q : Option Int → Hp → Prop), EnvR S B ρ σ Fs H →
    Wn (ErW S B W) (fun o ρ' => ∀ H' Fs', EnvR S B ρ' σ Fs' H' → Step S false ρ Fs H ρ' Fs' H' → Q o H') (ev ρ) → t σ H Q
def eoNone : M (Option Int) := fun ρ => .ok none ρ
def eoSome (a : M D) : M (Option Int) := fun ρ => bindR (a ρ) fun d ρ => match d with | .int i => .ok (some i) ρ | _ => .st
theorem xo_none : XO X S W none eoNone := ⟨_, po_none, fun B ρ σ Fs H Q I h => h H Fs I Step.refl⟩
theorem xo_some {e : Expr} {ev : M D} (ha : XE X S W e m e1 ev) (h0 : e1 = false := by rfl) : XO X S W (some e) (eoSome ev) := by
  subst h0
  obtain ⟨ta, pa, ra⟩ := ha.ex
  refine ⟨_, po_some pa, fun B ρ σ Fs H Q I h => ra B ρ σ Fs H _ I (h.bind.imp fun d ρ1 _ h1 v H1 Fs1 F p => ?_)⟩
  split at h1
  · exact ⟨_, p.rep.int_inv, h1 H1 Fs1 p.env p.step⟩
  · exact h1.elim
def cutD {α : Type} (xs : List α) (lo hi : Option Int) : List α := (xs.drop (HT.sIx xs.length 0 lo)).take (HT.sIx xs.length xs.length hi - HT.sIx xs.length 0 lo)
def dSl (x : D) (lo hi : Option Int) : Option D := match x with
  | .tup ds => if pureDs ds then some (.tup (cutD ds lo hi)) else none
  | .lst ds => if pureDs ds then some (.lst (cutD ds lo hi)) else none
  | .str z => if z.length ≤ sizeLine then some (.str (cutS z lo hi)) else none
  | _ => none
def eSl (a : M D) (lo hi : M (Option Int)) : M D := fun ρ => bindR (a ρ) fun x ρ => bindR (lo ρ) fun l ρ => bindR (hi ρ) fun h ρ => lift (dSl x l h) ρ
theorem Reps.take {ds : List D} {vs : List V} (n : Nat) (r : Reps C R H ds vs []) : Reps C R H (ds.take n) (vs.take n) [] := by
  induction n generalizing ds vs with
  | zero => simpa using Reps.nil
  | succ n ih =>
    cases ds with
    | nil => cases r; simpa using Reps.nil
    | cons d ds =>
      obtain ⟨x, ys, rfl, r1, r2⟩ := r.cons_nil
      exact .cons (F := []) (G := []) r1 (ih r2)
theorem Reps.drop {ds : List D} {vs : List V} (n : Nat) (r : Reps C R H ds vs []) : Reps C R H (ds.drop n) (vs.drop n) [] := by
  induction n generalizing ds vs with
  | zero => simpa using r
  | succ n ih =>
    cases ds with
    | nil => cases r; simpa using Reps.nil
    | cons d ds =>
      obtain ⟨x, ys, rfl, r1, r2⟩ := r.cons_nil
      exact ih r2
theorem Reps.cut {ds : List D} {vs : List V} {lo hi : Option Int} (r : Reps C R H ds vs []) : Reps C R H (cutD ds lo hi) (cutV vs lo hi) [] := by
  unfold cutD cutV
  rw [← r.length]
  exact (r.drop _).take _
def rSlAny (K : PySem.W.Frag) : V → Option Int → Option Int → Hp → VK → Prop := fun x lo hi H Q => rSlL K x lo hi H Q ∨ (rSlA K x lo hi H Q ∨ rSlS x lo hi H Q)
theorem sl_any : SlR X (rSlAny X.K) := sl_list.or (sl_tupA.or sl_str)
theorem xe_sl (hK : X.K = S.c.K) {a : Expr} {lo hi : Option Expr} {p2 : Pos} {ea : M D} {el eh : M (Option Int)} (ha : XE X S W a m1 e1 ea) (hl : XO X S W lo el) (hh : XO X S W hi eh) : XE X S W (.Subscript a (.Slice lo hi none p2) pos) .fr e1 (eSl ea el eh) := by
  obtain ⟨ta, pa, ra⟩ := ha.ex
  obtain ⟨tl, pl, rl⟩ := hl.ex
  obtain ⟨th, ph, rh⟩ := hh.ex
  refine ⟨_, pe_slice sl_any pa pl ph, fun B ρ σ Fs H Q I h => ra B ρ σ Fs H _ I (h.bind.imp fun d1 ρ1 _ h1 x H1 Fs1 F p1 => rl B ρ1 σ Fs1 H1 _ p1.env (h1.bind.imp fun lo ρ2 _ h2 H2 Fs2 I2 s2 => rh B ρ2 σ Fs2 H2 _ I2 (h2.bind.imp fun hi ρ3 _ h3 H3 Fs3 I3 s3 => ?_)))⟩
  obtain ⟨d, hd, k⟩ := h3.lift
  have r0 := (p1.rep.same (s2.noeff rfl).2.2).same (s3.noeff rfl).2.2
  have st : Step S e1 ρ Fs H ρ3 Fs3 H3 := by have := (p1.step.trans s2).trans s3; simpa using this
  have fin : ∀ {v H4 F4}, VP S.c B.R .fr H3 d v H4 F4 → Q v H4 := fun {v H4 F4} q => k v H4 Fs3 F4 (VP.post (ds := []) (vs := []) (G := []) (m1 := .bo) ⟨I3, .nil, st, trivial⟩ q)
  rw [hK]
  cases d1 <;> simp only [dSl] at hd <;> try (cases hd; done)
  · split at hd <;> cases hd
    rename_i hc
    rw [r0.str_inv]
    exact .inr (.inr ⟨_, rfl, hc, fin ⟨Same.refl _, .str _, List.nodup_nil, fun a ha => by cases ha⟩⟩)
  · split at hd <;> cases hd
    rename_i hp
    obtain ⟨a, vs, rfl, hs, hl, rr⟩ := r0.tup_inv
    have e := rr.pure hp
    subst e
    refine .inr (.inl ⟨a, vs, rfl, hs, fun hw => ?_, fun _ p hp => fin (F4 := []) ⟨same_upd hp, .tup (SqT.of upd_same) (Nat.le_trans (cutV_length _ _ _) hl) (rr.cut.same (same_upd hp)), List.nodup_nil, fun a ha => by cases ha⟩⟩)
    refine fin (F4 := []) ⟨Same.refl _, ?_, List.nodup_nil, fun a ha => by cases ha⟩
    rw [cutD, rr.length, hw.1, hw.2, List.drop_zero, Nat.sub_zero, ← rr.length, List.take_length]
    exact .tup hs hl rr
  · split at hd <;> cases hd
    rename_i hp
    obtain ⟨a, vs, G, rfl, hs, hl, rr, _⟩ := rep_lst r0
    have e := rr.pure hp
    subst e
    exact .inl ⟨a, vs, rfl, SqL.of hs, fun p hp => fin (VP.newL hp (Nat.le_trans (cutV_length _ _ _) hl) rr.cut)⟩
end
end EL

namespace EL
open PySem PySem.Spec PyProof.Rows
open L2 hiding XE
section
variable {X : Cx} {S : Sig} {C : Core} {B : Base} {W : WX} {R : Addr → Prop} {σ : L2.St} {ρ ρ1 ρ' : Env} {Fs Fs1 Fs' : Nat → List Addr} {H H1 H' : Hp} {F G : List Addr} {m m1 m2 rm : Md} {e1 e2 : Bool} {pos : Pos} {d : D} {v : V}
/-! ### stores into what stands in a slot -/
theorem Reps.cons_inv {ds : List D} {xs : List V} (r : Reps C R H (d :: ds) xs F) : ∃ x ys F1 F2, xs = x :: ys ∧ Rep C R H d x F1 ∧ Reps C R H ds ys F2 ∧ F = F1 ++ F2 := by
  cases r with
  | cons r1 r2 => exact ⟨_, _, _, _, rfl, r1, r2, rfl⟩
theorem Reps.setAt (q : Rep C R H d v []) : ∀ {F : List Addr} {i : Nat} {ds : List D} {vs : List V}, Reps C R H ds vs F → ∃ G, Reps C R H (ds.set i d) (vs.set i v) G ∧ G.Sublist F
  | _, i, [], _, r => by cases r; exact ⟨[], .nil, .slnil⟩
  | _, i, d1 :: ds, _, r => by
    obtain ⟨x, ys, F1, F2, rfl, r1, r2, rfl⟩ := r.cons_inv
    cases i with
    | zero => exact ⟨[] ++ F2, .cons q r2, List.sublist_append_right _ _⟩
    | succ i =>
      obtain ⟨G, h1, h2⟩ := Reps.setAt (i := i) (ds := ds) (vs := ys) q r2
      exact ⟨F1 ++ G, .cons r1 h1, (List.Sublist.refl _).append h2⟩
theorem put_map' {k : Key} {y : D} {x : V} (ry : Rep C R H y x []) : ∀ {kvs : List (Key × D)} {ws : List (Key × V)} {F : List Addr}, ws.map (·.1) = kvs.map (·.1) → Reps C R H (kvs.map (·.2)) (ws.map (·.2)) F →
    (ws.map fun kv => if kv.1 = k then (kv.1, x) else kv).map (·.1) = (kvs.map fun kv => if kv.1 = k then (kv.1, y) else kv).map (·.1) ∧ ∃ G, Reps C R H ((kvs.map fun kv => if kv.1 = k then (kv.1, y) else kv).map (·.2)) ((ws.map fun kv => if kv.1 = k then (kv.1, x) else kv).map (·.2)) G ∧ G.Sublist F
  | [], [], F, e, r => ⟨rfl, by cases r; exact ⟨[], .nil, .slnil⟩⟩
  | [], _ :: _, F, e, r => by simp at e
  | _ :: _, [], F, e, r => by simp at e
  | (k1, d1) :: kvs, (k2, v2) :: ws, F, e, r => by
    simp only [List.map_cons, List.cons.injEq] at e r
    obtain ⟨rfl, e⟩ := e
    obtain ⟨v', ys, F1, F2, e3, r1, r2, rfl⟩ := r.cons_inv
    simp only [List.cons.injEq] at e3
    obtain ⟨rfl, rfl⟩ := e3
    obtain ⟨ih1, G, ih2, ih3⟩ := put_map' (k := k) ry e r2
    simp only [List.map_cons]
    by_cases hk : k2 = k
    · simp only [if_pos hk, ih1]
      exact ⟨trivial, [] ++ G, .cons ry ih2, ih3.trans (List.sublist_append_right _ _)⟩
    · simp only [if_neg hk, ih1]
      exact ⟨trivial, F1 ++ G, .cons r1 ih2, (List.Sublist.refl _).append ih3⟩
theorem put_of' {k : Key} {y : D} {x : V} {kvs : List (Key × D)} {ws : List (Key × V)} (ry : Rep C R H y x []) (e : ws.map (·.1) = kvs.map (·.1)) (r : Reps C R H (kvs.map (·.2)) (ws.map (·.2)) F) :
    (putK ws k x).map (·.1) = (putD kvs k y).map (·.1) ∧ ∃ G, Reps C R H ((putD kvs k y).map (·.2)) ((putK ws k x).map (·.2)) G ∧ G.Sublist F := by
  have ha : (ws.any fun kv => decide (kv.1 = k)) = kvs.any fun kv => decide (kv.1 = k) := by
    have h1 : ∀ {β : Type} (l : List (Key × β)), (l.any fun kv => decide (kv.1 = k)) = (l.map (·.1)).any fun z => decide (z = k) := fun l => by rw [List.any_map]; rfl
    rw [h1, h1, e]
  unfold putK putD
  rw [ha]
  split
  · exact put_map' ry e r
  · refine ⟨by simp [e], F, ?_, List.Sublist.refl _⟩
    have := r.app (.cons (F := []) ry .nil)
    simpa using this
theorem PSet.or {t1 t2 : TSet} (h1 : PSet X t1) (h2 : PSet X t2) : PSet X (fun o i v H Q => t1 o i v H Q ∨ t2 o i v H Q) := by
  intro pins s σ H o i v ov iv u Q I ro ri rv h
  rcases h with h | h
  · exact h1 pins s σ H o i v ov iv u Q I ro ri rv h
  · exact h2 pins s σ H o i v ov iv u Q I ro ri rv h
/-- x[k] = v, of a list or a dict -/
def dPut : D → D → D → Option D
  | .lst ds, .int i, y => (ixN ds.length i).map fun j => .lst (ds.set j y)
  | .dic kvs, k, y => (keyD k).bind fun q => if kvs.length < sizeLine then some (.dic (putD kvs q y)) else none
  | _, _, _ => none
def rPut : TSet := fun o i v H Q => rSetL o i v H Q ∨ rSetD o i v H Q
theorem put_any (hu : X.A.units + 1 < cLine) : PSet X rPut := PSet.or set_list (set_dict hu)
theorem dPut_ways {d0 dk dv o : D} {x k w : V} {F Fk : List Addr} {Q : Hp → Prop} (r0 : Rep C R H d0 x F) (rk : Rep C R H dk k Fk) (rv : Rep C R H dv w []) (nd : F.Nodup) (h : dPut d0 dk dv = some o)
    (q : ∀ H' G, Rep C R H' o x G → G.Sublist F → (∀ a u, H a = some u → H' a = some u ∨ a ∈ F) → (∀ a, H' a = none → H a = none) → Q H') : rPut x k w H Q := by
  have ch : ∀ {a : Addr} {o : HO} {F1 : List Addr}, (∀ b u, H b = some u → upd H a o b = some u ∨ b ∈ a :: F1) := fun {a o F1} b u hb => by
    by_cases e : b = a
    · exact .inr (by simp [e])
    · exact .inl (by rw [upd_ne e]; exact hb)
  have dm : ∀ {a : Addr} {o u : HO}, H a = some u → ∀ b, upd H a o b = none → H b = none := fun {a o u} hu b hb => by
    by_cases e : b = a
    · subst e; rw [upd_same] at hb; cases hb
    · rw [upd_ne e] at hb; exact hb
  have kp : ∀ {a : Addr} {u0 u1 : HO} {G : List Addr}, H a = some u0 → Mu C R u0 a → a ∉ G → ∀ b u, H b = some u → (¬ Mu C R u b ∨ b ∈ G) → upd H a u1 b = some u := fun {a u0 u1 G} h0 mu na b u hb z => by
    have e : b ≠ a := fun e => by
      subst e
      rw [h0] at hb; cases hb
      rcases z with z | z
      · exact z mu
      · exact na z
    rw [upd_ne e]; exact hb
  cases r0 with
  | lst hs hl r =>
    cases dk <;> simp only [dPut] at h <;> try (cases h; done)
    simp only [Option.map_eq_some_iff] at h
    obtain ⟨j, hj, rfl⟩ := h
    rename_i a vs F1 i
    obtain ⟨G, g1, g2⟩ := r.setAt (i := j) rv
    have na : a ∉ G := fun z => (List.nodup_cons.mp nd).1 (g2.subset z)
    exact .inl ⟨a, vs, i, j, rfl, rk.int_inv, hs, by rw [← r.length]; exact hj, q _ (a :: G) (.lst upd_same (by simpa using hl) (g1.keep (kp hs trivial na))) (g2.cons₂ a) ch (dm hs)⟩
  | dic hs hl e r =>
    simp only [dPut] at h
    cases hk : keyD dk with
    | none => rw [hk] at h; cases h
    | some kk =>
      rw [hk] at h
      simp only [Option.bind_some] at h
      split at h <;> cases h
      rename_i kvs a ws F1 hlt
      obtain ⟨g0, G, g1, g2⟩ := put_of' (k := kk) rv e r
      have na : a ∉ G := fun z => (List.nodup_cons.mp nd).1 (g2.subset z)
      have hw : ws.length = kvs.length := by simpa using congrArg List.length e
      have hlp := length_putK ws kk w
      refine .inr ⟨a, _, rfl, ?_, q _ (a :: G) (.dic upd_same (by omega) g0 (g1.keep (kp hs trivial na))) (g2.cons₂ a) ch (dm hs)⟩
      rw [key_v rk hk]
      exact DPut.k hs (by omega)
  | non => cases h
  | bl => cases h
  | int => cases h
  | str => cases h
  | tup => cases h
  | scr => cases h
  | ins => cases h
  | obj => cases h
def liftS (o : Option D) (f : D → So) : So := match o with | some d => f d | none => .st
/-- v, then the slot, then the key -/
def sPut (s : Nat) (k a : M D) : Ms := fun ρ => bindS (a ρ) fun y ρ => match ρ[s]? with
  | some (some d0) => bindS (k ρ) fun k ρ => liftS (dPut d0 k y) fun o => .nx (ρ.set s (some o))
  | _ => .st
theorem xs_put (s : Nat) {x : Str} {p pos' : Pos} {i e : Expr} {ek ea : M D} (hu : X.A.units + 1 < cLine) (ha : XE X S W e .pu e1 ea) (hk : XE X S W i m2 e2 ek) (h0 : e2 = false := by rfl) (hs : hasS S s = true := by rfl) (hN : X.N[s]? = some x := by rfl) (hv : Vis X.env.scope x := by first | exact Or.inl rfl | exact Or.inr (Or.inl rfl) | exact Or.inr (Or.inr rfl))
    (hd : (x == ("__debug__" : Str)) = false := by decide) (hcd : (x == ("__classdict__" : Str)) = false := by decide) (h1 : swapsWithSole [.Subscript (.Name x p) i pos'] e pos.line X.env = Pure.pure false := by rfl) (h2 : swappedStores [.Subscript (.Name x p) i pos'] e X.env = Pure.pure none := by rfl)
    (h3 : (assignEach [.Subscript (.Name x p) i pos'] X.env).map (·.2) = [assign (.Subscript (.Name x p) i pos') X.env] := by rfl)
    (h4 : ∀ v, assign (.Subscript (.Name x p) i pos') X.env v = (do
      let a ← holding [v] (eval (.Name x p) X.env)
      let b ← holding [v, a] (eval i X.env)
      standAt pos'
      holding [v, a, b] (setItem a b v)
      release [v, a, b] []) := by intro _; rfl) : XS X S W rm (.Assign [.Subscript (.Name x p) i pos'] e pos) (sPut s ek ea) := by
  subst h0
  obtain ⟨ta, pa, ra⟩ := ha.ex
  obtain ⟨tk, pk, rk⟩ := hk.ex
  refine ⟨_, ps_asg pa (pg_sub (pe_var hN hv hd hcd) pk (put_any hu) h4) h1 h2 h3, fun B ρ σ Fs H E I h => ra B ρ σ Fs H _ I (h.bind.imp fun y ρ1 _ g1 v H1 Fs1 F q => ?_)⟩
  split at g1
  · rename_i d0 e0
    obtain ⟨w, hw, r0⟩ := q.env.slot s d0 e0
    refine ⟨w, hw, rk B ρ1 σ Fs1 H1 _ q.env (g1.bind.imp fun k ρ2 _ g2 u H2 Fs2 F2 q2 => ?_)⟩
    cases ho : dPut d0 k y with
    | none => rw [ho] at g2; exact g2.elim
    | some o =>
      rw [ho] at g2
      obtain ⟨rfl, fe, sm⟩ := q2.step.noeff rfl
      have ow : Own S ρ2 s := ⟨hasS_own hs, d0, e0⟩
      obtain ⟨w', hw', r2⟩ := q2.env.slot s d0 e0
      rw [hw] at hw'; cases hw'
      have f0 : F = [] := q.md
      subst f0
      have own := q2.env.own s ow
      exact dPut_ways r2 q2.rep (q.rep.same sm) own.1 ho fun H3 G r3 sb ch dm => g2 σ _ H3 (q2.env.mut ow hw ch dm r3 (sb.nodup own.1) (fun a ha => own.2 a (sb.subset ha)) fun a ha j oj hj z => q2.env.dis j s oj ow hj a z (sb.subset ha))
  · exact g1.elim
end
end EL

namespace EL
open PySem PySem.Spec PyProof.Rows
open L2 hiding XE
section
variable {X : Cx} {S : Sig} {C : Core} {B : Base} {W : WX} {R : Addr → Prop} {σ : L2.St} {ρ ρ1 ρ' : Env} {Fs Fs1 Fs' : Nat → List Addr} {H H1 H' : Hp} {F G : List Addr} {m m1 m2 rm : Md} {e1 e2 : Bool} {pos : Pos} {d : D} {v : V}
/-! ### methods that change what stands in a slot -/
/-- g: what the method gives and leaves; nd: its arguments may go in -/
def OpU (C : Core) (r : V → List V → Hp → VK → Prop) (nd : Bool) (g : D → List D → Option (D × D)) : Prop := ∀ (R : Addr → Prop) (H : Hp) (d0 res o : D) (x : V) (F0 : List Addr) (ds : List D) (xs : List V) (F1 : List Addr) (Q : VK),
  Rep C R H d0 x F0 → Reps C R H ds xs F1 → F0.Nodup → (nd = true → F1.Nodup ∧ ∀ a ∈ F1, a ∉ F0) → g d0 ds = some (res, o) →
    (∀ v H' G F', (∀ a u, H a = some u → H' a = some u ∨ a ∈ F0) → (∀ a, H' a = none → H a = none) → Rep C R H' o x F' → F'.Nodup → (∀ a ∈ F', a ∈ F0 ∨ (nd = true ∧ a ∈ F1) ∨ H a = none) → Rep C R H' res v G → G.Nodup → (∀ a ∈ G, (a ∈ F0 ∨ H a = none) ∧ a ∉ F') → Q v H') → r x xs H Q
def tyM : D → Option String
  | .lst _ => some "list"
  | .dic _ => some "dict"
  | _ => none
def eMt (T : String) (s : Nat) (g : D → List D → Option (D × D)) (a : M (List D)) : M D := fun ρ => match ρ[s]? with
  | some (some d0) => if tyM d0 = some T then bindR (a ρ) fun ds ρ => (match ρ[s]? with
    | some (some d0) => (match g d0 ds with | some (res, o) => .ok res (ρ.set s (some o)) | none => .st)
    | _ => .st) else .st
  | _ => .st
theorem ty_ok {T : String} {K : PySem.W.Frag} {x : V} (r : Rep C R H d x F) (h : tyM d = some T) : tyV K T x H := by
  cases r <;> simp only [tyM] at h <;> cases h
  · rename_i hs _ _; exact .inl ⟨rfl, _, SqL.of hs⟩
  · rename_i hs _ _ _; exact .inr (.inr (.inl ⟨rfl, .inl ⟨_, hs⟩⟩))
theorem xe_mt (s : Nat) {T id : String} {name x : Str} {p apos : Pos} {r : V → List V → Hp → VK → Prop} {nd : Bool} {g : D → List D → Option (D × D)} {e : Expr} {es : List Expr} {ea : M (List D)} (pa : PlainAttrs T) (slot : Slot T name id) (hty : typeOf (.builtin id) = Pure.pure (.type "method_descriptor")) (hm : MtR X id r) (hg : OpU S.c r nd g)
    (ha : XA X S W (e :: es) m1 e1 ea) (z : (!nd || m1.le .fr) = true := by rfl) (hk : hasS S s = true := by rfl) (hN : X.N[s]? = some x := by rfl) (hv : Vis X.env.scope x := by first | exact Or.inl rfl | exact Or.inr (Or.inl rfl) | exact Or.inr (Or.inr rfl)) (hd : (x == ("__debug__" : Str)) = false := by decide) (hcd : (x == ("__classdict__" : Str)) = false := by decide)
    (hbase : attributeBase (.Name x p) name X.env (eval (.Name x p) X.env) = eval (.Name x p) X.env := by rfl)
    (hfew : ((backTo pos (starEach (e :: es) X.env)).all (fun x => !x.1) && (backToKw pos (keywordEach [] X.env)).all (fun x => x.1.isSome) && decide ((e :: es).length + ([] : List Keyword).length + (if ([] : List Keyword).isEmpty then 0 else 1) < 30)) = true := by rfl)
    (hline : (apos.endLine == pos.line) = true := by rfl) (hs : starEach (e :: es) X.env = (false, eval e X.env) :: starEach es X.env := by rfl) (hplain : (backTo pos (starEach es X.env)).any (·.1) = false := by rfl) :
    XE X S W (.Call (.Attribute (.Name x p) name apos) (e :: es) [] pos) .fr true (eMt T s g ea) := by
  obtain ⟨ta, pa', ra⟩ := ha.ex
  refine ⟨_, pe_bm pa slot hty hm (pe_var hN hv hd hcd) pa' hbase hfew hline hs hplain, fun B ρ σ Fs H Q I h => ?_⟩
  unfold eMt at h
  split at h
  case h_2 => exact h.elim
  rename_i d0 e0
  split at h
  case isFalse => exact h.elim
  rename_i ht
  obtain ⟨w, hw, r0⟩ := I.slot s d0 e0
  refine ⟨w, hw, ty_ok r0 ht, ra B ρ σ Fs H _ I (h.bind.imp fun ds ρ1 _ h1 vs H1 Fs1 F q => ?_)⟩
  split at h1
  case h_2 => exact h1.elim
  rename_i d1 e1'
  split at h1
  case h_2 => exact h1.elim
  rename_i res o hgo
  obtain ⟨w', hw', r1⟩ := q.env.slot s d1 e1'
  rw [hw] at hw'; cases hw'
  have ow : Own S ρ1 s := ⟨hasS_own hk, d1, e1'⟩
  have own := q.env.own s ow
  have fr : nd = true → MdOk S B .fr ρ Fs H ρ1 Fs1 F := fun hn => q.md.le (by subst hn; simpa using z)
  refine hg B.R H1 d1 res o w (Fs1 s) ds vs F Q r1 q.rep own.1 (fun hn => ⟨(fr hn).1, fun a ha => (fr hn).2.2 s ow a ha⟩) hgo fun v H2 G F' ch dm r2 n2 f2 r3 n3 g3 => ?_
  have fresh : ∀ {a}, H1 a = none → ∀ i, Own S ρ1 i → a ∉ Fs1 i := fun {a} n i oi m => by
    obtain ⟨u, hu, _⟩ := q.env.mem oi m
    rw [n] at hu; cases hu
  have lt : s < ρ1.length := (List.getElem?_eq_some_iff.mp e1').1
  have ob : ∀ j, Own S (ρ1.set s (some o)) j → Own S ρ1 j := fun j oj => by
    by_cases hj : j = s
    · subst hj; exact ow
    · obtain ⟨d', q'⟩ := oj.2
      rw [List.getElem?_set_ne (Ne.symm hj)] at q'
      exact ⟨oj.1, d', q'⟩
  have np : ∀ a ∈ F', ¬ B.P0 a := fun a ha => by
    rcases f2 a ha with k | ⟨hn, k⟩ | k
    · exact own.2 a k
    · rcases (fr hn).2.1 a k with n | ⟨j, oj, mj⟩
      · exact I.fresh n
      · exact (I.own j oj).2 a mj
    · exact q.env.fresh k
  have dj : ∀ a ∈ F', ∀ j, Own S ρ1 j → j ≠ s → a ∉ Fs1 j := fun a ha j oj hj m => by
    rcases f2 a ha with k | ⟨hn, k⟩ | k
    · exact q.env.dis j s oj ow hj a m k
    · exact (fr hn).2.2 j oj a k m
    · exact fresh k j oj m
  have back : ∀ a, a ∈ Fs1 s ∨ H1 a = none → H a = none ∨ ∃ j, Own S ρ j ∧ a ∈ Fs j := fun a k => by
    rcases k with k | k
    · exact q.step.grow s a ow k
    · exact .inl (q.step.dom a k)
  refine h1 v H2 (fun j => if j = s then F' else Fs1 j) G ⟨q.env.mut ow hw ch dm r2 n2 np dj, r3, ⟨fun a u hu => ?_, fun i a oi ha => ?_, fun a ha => q.step.dom a (dm a ha), fun z' => by cases z'⟩, n3, fun a ha => back a (g3 a ha).1, fun i oi a ha => ?_⟩
  · rcases q.step.chg a u hu with k | k
    · rcases ch a u k with k | k
      · exact .inl k
      · rcases q.step.grow s a ow k with n | k
        · rw [hu] at n; cases n
        · exact .inr k
    · exact .inr k
  · by_cases hi : i = s
    · simp only [if_pos hi] at ha
      rcases f2 a ha with k | ⟨hn, k⟩ | k
      · exact back a (.inl k)
      · exact (fr hn).2.1 a k
      · exact back a (.inr k)
    · simp only [if_neg hi] at ha
      exact q.step.grow i a (ob i oi) ha
  · by_cases hi : i = s
    · simp only [if_pos hi]; exact (g3 a ha).2
    · simp only [if_neg hi]
      intro m
      rcases (g3 a ha).1 with k | k
      · exact q.env.dis i s (ob i oi) ow hi a m k
      · exact fresh k i (ob i oi) m
/-- the list at a written anew -/
theorem lst_write {a : Addr} {xs ys : List V} {F' : List Addr} {es : List D} (h0 : H a = some (.lst xs)) (na : a ∉ F') (r : Reps C R H es ys F') (hl : ys.length ≤ sizeLine) :
    Rep C R (upd H a (.lst ys)) (.lst es) (.ref a) (a :: F') ∧ (∀ b u, H b = some u → upd H a (.lst ys) b = some u ∨ b = a) ∧ ∀ b, upd H a (.lst ys) b = none → H b = none := by
  refine ⟨.lst upd_same hl (r.keep fun b u hb z => ?_), fun b u hb => ?_, fun b hb => ?_⟩
  · have e : b ≠ a := fun e => by
      subst e
      rw [h0] at hb; cases hb
      rcases z with z | z
      · exact z trivial
      · exact na z
    rw [upd_ne e]; exact hb
  · by_cases e : b = a
    · exact .inr e
    · exact .inl (by rw [upd_ne e]; exact hb)
  · by_cases e : b = a
    · subst e; rw [upd_same] at hb; cases hb
    · rw [upd_ne e] at hb; exact hb
def dApp : D → List D → Option (D × D)
  | .lst ds, [y] => if ds.length < sizeLine then some (.non, .lst (ds ++ [y])) else none
  | _, _ => none
def dExt : D → List D → Option (D × D)
  | .lst ds, [.lst es] => if pureDs es && decide (ds.length + es.length ≤ sizeLine) then some (.non, .lst (ds ++ es)) else none
  | _, _ => none
theorem opu_app : OpU C rAppend true dApp := by
  intro R H d0 res o x F0 ds xs F1 Q r0 r1 n0 n1 h q
  cases r0 <;> simp only [dApp] at h <;> try (cases h; done)
  rename_i ds0 a vs F2 hs hl r2
  cases r1 with
  | nil => cases h
  | cons r3 r4 =>
    cases r4 with
    | cons => cases h
    | nil =>
      rename_i y w F3
      simp only at h
      split at h <;> cases h
      rename_i hlt
      obtain ⟨m1, m2⟩ := n1 rfl
      rw [List.append_nil] at m1 m2 q
      obtain ⟨k1, k2⟩ := List.nodup_cons.mp n0
      have na : a ∉ F2 ++ F3 := fun z => by
        rcases List.mem_append.mp z with z | z
        · exact k1 z
        · exact m2 a z (by simp)
      have rr : Reps C R H (ds0 ++ [y]) (vs ++ [w]) (F2 ++ F3) := by
        have := r2.app (.cons r3 .nil)
        simpa using this
      obtain ⟨w1, w2, w3⟩ := lst_write hs na rr (by rw [List.length_append, List.length_singleton, ← r2.length]; omega)
      refine ⟨a, vs, w, rfl, rfl, hs, by rw [← r2.length]; exact hlt, q _ _ [] (a :: (F2 ++ F3)) (fun b u hb => (w2 b u hb).imp id fun e => by simp [e]) w3 w1 (List.nodup_cons.mpr ⟨na, List.nodup_append.mpr ⟨k2, m1, fun b hb c hc e => ?_⟩⟩) (fun b hb => ?_) .non List.nodup_nil (by intro _ z; cases z)⟩
      · subst e; exact m2 b hc (by simp [hb])
      · rcases List.mem_cons.mp hb with rfl | hb
        · exact .inl (by simp)
        · rcases List.mem_append.mp hb with z | z
          · exact .inl (by simp [z])
          · exact .inr (.inl ⟨rfl, z⟩)
theorem opu_ext : OpU C rExtend false dExt := by
  intro R H d0 res o x F0 ds xs F1 Q r0 r1 n0 n1 h q
  unfold dExt at h
  split at h
  case h_2 => cases h
  rename_i ds0 es
  split at h <;> cases h
  rename_i hc
  simp only [Bool.and_eq_true, decide_eq_true_eq] at hc
  obtain ⟨a, vs, F2, rfl, hs, hl, r2, rfl⟩ := rep_lst r0
  obtain ⟨y, ys, F3, F4, rfl, r3, r4, rfl⟩ := r1.cons_inv
  cases r4
  obtain ⟨b, zs, G, rfl, hb, hlb, rb, _⟩ := rep_lst r3
  have e := rb.pure hc.1
  subst e
  obtain ⟨k1, k2⟩ := List.nodup_cons.mp n0
  have rr : Reps C R H (ds0 ++ es) (vs ++ zs) F2 := by
    have := r2.app rb
    simpa using this
  have l1 := r2.length
  have l2 := rb.length
  obtain ⟨w1, w2, w3⟩ := lst_write hs k1 rr (by rw [List.length_append]; omega)
  exact ⟨a, b, vs, zs, rfl, rfl, hs, hb, by omega, q _ _ [] (a :: F2) (fun b u hb => (w2 b u hb).imp id fun e => by simp [e]) w3 w1 n0 (fun b hb => .inl hb) .non List.nodup_nil (by intro _ z; cases z)⟩
end
end EL

namespace EL
open PySem PySem.Spec PyProof.Rows
open L2 hiding XE
section
variable {X : Cx} {S : Sig} {C : Core} {B : Base} {W : WX} {R : Addr → Prop} {σ : L2.St} {ρ ρ1 ρ' : Env} {Fs Fs1 Fs' : Nat → List Addr} {H H1 H' : Hp} {F G : List Addr} {m m1 m2 m3 rm : Md} {e1 e2 e3 : Bool} {pos : Pos} {d : D} {v : V}
/-! ### dict displays -/
def flatV : List (V × V) → List V
  | [] => []
  | p :: r => p.1 :: p.2 :: flatV r
/-- keys and values by turns -/
def pairD : List D → Option (List (Key × D))
  | [] => some []
  | k :: y :: r => (keyD k).bind fun q => (pairD r).map fun kvs => (q, y) :: kvs
  | _ => none
theorem pair_of : ∀ {kvs : List (Key × D)} {ds : List D} {ps : List (V × V)} {F : List Addr}, pairD ds = some kvs → Reps C R H ds (flatV ps) F → ∃ ws : List (Key × V), ps = ws.map (fun kv => (kV kv.1, kv.2)) ∧ ws.map (·.1) = kvs.map (·.1) ∧ Reps C R H (kvs.map (·.2)) (ws.map (·.2)) F
  | kvs, [], ps, F, h, r => by
    cases h
    cases ps with
    | nil => cases r; exact ⟨[], rfl, rfl, .nil⟩
    | cons p ps => cases r
  | kvs, [_], ps, F, h, r => by cases h
  | kvs, k :: y :: ds, ps, F, h, r => by
    cases ps with
    | nil => cases r
    | cons p ps =>
      obtain ⟨x1, y1, F1, F2, e1, r1, r2, rfl⟩ := r.cons_inv
      obtain ⟨x2, y2, F3, F4, e2, r3, r4, rfl⟩ := r2.cons_inv
      simp only [flatV, List.cons.injEq] at e1
      obtain ⟨rfl, rfl⟩ := e1
      cases e2
      simp only [pairD] at h
      cases hk : keyD k with
      | none => rw [hk] at h; cases h
      | some q =>
        rw [hk] at h
        simp only [Option.bind_some, Option.map_eq_some_iff] at h
        obtain ⟨kvs', h', rfl⟩ := h
        obtain ⟨ws, rfl, w2, w3⟩ := pair_of h' r4
        have f1 : F1 = [] := r1.pure (by cases k <;> first | rfl | cases hk)
        have kv := key_v r1 hk
        refine ⟨(q, p.2) :: ws, by simp only [List.map_cons]; rw [← kv], by simp [w2], ?_⟩
        subst f1
        simpa using Reps.cons r3 w3
theorem merge_new : ∀ {ws acc : List (Key × V)}, ((acc ++ ws).map (·.1)).Nodup → mergeK acc ws = acc ++ ws
  | [], acc, _ => by simp [mergeK]
  | p :: ws, acc, h => by
    have h1 : putK acc p.1 p.2 = acc ++ [p] := by
      unfold putK
      rw [if_neg]
      intro z
      obtain ⟨q, hq, e⟩ := List.any_eq_true.mp z
      have e : q.1 = p.1 := by simpa using e
      rw [List.map_append, List.nodup_append] at h
      exact h.2.2 q.1 (List.mem_map_of_mem hq) p.1 (by simp) e
    show mergeK (putK acc p.1 p.2) ws = _
    rw [h1, merge_new (by simpa using h)]
    simp
def RPr (S : Sig) (W : WX) (m : Md) (eff : Bool) (ev : M (List D)) (trs : List (TE × TE)) : Prop :=
  ∀ (B : Base) (ρ : Env) (σ : L2.St) (Fs : Nat → List Addr) (H : Hp) (Q : List (V × V) → Hp → Prop), EnvR S B ρ σ Fs H →
    Wn (ErW S B W) (fun ds ρ' => ∀ ps H' Fs' F, PostA S B m eff σ ρ Fs H ρ' ds (flatV ps) H' Fs' F → Q ps H') (ev ρ) → tPairs trs σ H Q
structure XPr (X : Cx) (S : Sig) (W : WX) (pos : Pos) (ks : List (Option Expr)) (vs : List Expr) (m : Md) (eff : Bool) (ev : M (List D)) : Prop where
  ex : ∃ trs, PPs X pos ks vs trs ∧ RPr S W m eff ev trs
theorem xp_nil : XPr X S W pos [] [] .pu false eaNil := ⟨_, pps_nil, fun B ρ σ Fs H Q I h => h [] H Fs [] ⟨I, .nil, Step.refl, rfl⟩⟩
theorem Md.pu_join (m : Md) : Md.join .pu m = m := by cases m <;> rfl
theorem xp_cons {k y : Expr} {ks : List (Option Expr)} {ys : List Expr} {ek ey : M D} {eb : M (List D)} (hk : XE X S W k .pu false ek) (hy : XE X S W y m1 e1 ey) (hb : XPr X S W pos ks ys m2 e2 eb) (z : (!e2 || m1.sep) = true := by rfl) :
    XPr X S W pos (some k :: ks) (y :: ys) (m1.join m2) (e1 || e2) (eaCons ek (eaCons ey eb)) := by
  obtain ⟨tk, pk, rk⟩ := hk.ex
  obtain ⟨ty, py, ry⟩ := hy.ex
  obtain ⟨tb, pb, rb⟩ := hb.ex
  refine ⟨_, pps_cons pk py pb, fun B ρ σ Fs H Q I h => rk B ρ σ Fs H _ I (h.bind.imp fun dk ρ1 _ h1 v1 H1 Fs1 F1 p1 => ry B ρ1 σ Fs1 H1 _ p1.env (h1.bind.bind.imp fun dy ρ2 _ h2 v2 H2 Fs2 F2 p2 => rb B ρ2 σ Fs2 H2 _ p2.env (h2.bind.imp fun ds ρ3 _ h3 ps H3 Fs3 F3 p3 => ?_)))⟩
  have q12 : PostA S B (m1.join m2) (e1 || e2) σ ρ1 Fs1 H1 ρ3 (dy :: ds) (v2 :: flatV ps) H3 Fs3 (F2 ++ F3) := ⟨p3.env, .cons (p2.over p3.step z) p3.rep, p2.step.trans p3.step, MdOk.join p2.env p2.step p3.step p2.md p3.md p2.rep.some z⟩
  have zz : (!(e1 || e2) || Md.pu.sep) = true := by simp [Md.sep]
  have st := p1.step.trans q12.step
  have mj := MdOk.join p1.env p1.step q12.step p1.md q12.md p1.rep.some zz
  rw [Md.pu_join] at mj
  exact h3 ((v1, v2) :: ps) H3 Fs3 (F1 ++ (F2 ++ F3)) ⟨q12.env, .cons (p1.over q12.step zz) q12.rep, by simpa using st, mj⟩
def eDisp (a : M (List D)) : M D := fun ρ => bindR (a ρ) fun ds ρ => match pairD ds with | some kvs => if (kvs.map (·.1)).Nodup ∧ kvs.length ≤ 15 then .ok (.dic kvs) ρ else .st | none => .st
theorem xe_disp {ks : List (Option Expr)} {ys : List Expr} {ea : M (List D)} (h : XPr X S W pos ks ys m1 e1 ea) (h1 : ks.all (·.isSome) = true := by rfl) (h2 : ks.length = ys.length := by rfl) (h3 : ks ≠ [] := by intro z; cases z) (h4 : ks.length ≤ 15 := by decide) (z : m1.le .fr = true := by rfl) :
    XE X S W (.Dict ks ys pos) .fr e1 (eDisp ea) := by
  obtain ⟨trs, pp, rp⟩ := h.ex
  refine ⟨_, pe_disp pp h1 h2 h3 h4, fun B ρ σ Fs H Q I h p hp => ?_⟩
  have sm : Same H (upd H p (.dK [])) := same_upd hp
  refine rp B ρ σ Fs _ _ (I.same sm) (h.bind.imp fun ds ρ1 _ g1 ps H1 Fs1 F q => ?_)
  split at g1
  case h_2 => exact g1.elim
  rename_i kvs hkv
  split at g1
  case isFalse => exact g1.elim
  rename_i hc
  obtain ⟨ws, rfl, w2, w3⟩ := pair_of hkv q.rep
  have np : ∀ {i}, Own S ρ i → p ∉ Fs i := fun {i} oi z => by
    obtain ⟨u, hu, _⟩ := I.mem oi z
    rw [hp] at hu; cases hu
  have h0 : H1 p = some (.dK []) := by
    rcases q.step.chg p _ upd_same with z | ⟨i, oi, z⟩
    · exact z
    · exact absurd z (np oi)
  have wl : ws.length = kvs.length := by simpa using congrArg List.length w2
  have nd : ((([] : List (Key × V)) ++ ws).map (·.1)).Nodup := by rw [List.nil_append, w2]; exact hc.1
  have np1 : ∀ {i}, Own S ρ1 i → p ∉ Fs1 i := fun {i} oi z => by
    rcases q.step.grow i p oi z with n | ⟨j, oj, z⟩
    · rw [upd_same] at n; cases n
    · exact np oj z
  have fr : MdOk S B .fr ρ Fs (upd H p (.dK [])) ρ1 Fs1 F := q.md.le z
  have npF : p ∉ F := fun z => by
    rcases fr.2.1 p z with n | ⟨j, oj, z⟩
    · rw [upd_same] at n; cases n
    · exact np oj z
  have st : Step S e1 ρ Fs H ρ1 Fs1 H1 := by simpa using (Step.of_same (e := false) sm).trans q.step
  have hB : B.H0 p = none := by
    cases k : B.H0 p with
    | none => rfl
    | some o => obtain ⟨u, z⟩ := I.tr p o k; rw [hp] at z; cases z
  refine ⟨h0, ws, rfl, by rw [wl]; exact hc.2, ?_⟩
  rw [merge_new nd, List.nil_append]
  refine g1 _ _ Fs1 (p :: F) ⟨q.env.upd h0 hB (fun j oj => np1 oj), .dic upd_same (by have := hc.2; rw [wl, sizeLine_eq]; omega) w2 (w3.keep fun b u hb z => ?_), st.upd hp, List.nodup_cons.mpr ⟨npF, fr.1⟩, fun a ha => ?_, fun i oi a ha => ?_⟩
  · have e : b ≠ p := fun e => by
      subst e
      rw [h0] at hb; cases hb
      rcases z with z | z
      · exact z trivial
      · exact npF z
    rw [upd_ne e]; exact hb
  · rcases List.mem_cons.mp ha with rfl | ha
    · exact .inl hp
    · exact (fr.2.1 a ha).imp (fun n => sm.free n) id
  · rcases List.mem_cons.mp ha with rfl | ha
    · exact np1 oi
    · exact fr.2.2 i oi a ha
end
end EL

namespace EL
open PySem PySem.Spec PyProof.Rows
open L2 hiding XE
section
variable {X : Cx} {S : Sig} {C : Core} {B : Base} {W : WX} {R : Addr → Prop} {σ : L2.St} {ρ ρ1 ρ' : Env} {Fs Fs1 Fs' : Nat → List Addr} {H H1 H' : Hp} {F G : List Addr} {m m1 m2 m3 rm : Md} {e1 e2 e3 : Bool} {pos : Pos} {d : D} {v : V}
/-! ### d.get(k, x) -/
def eGet2 (a k y : M D) : M D := fun ρ => bindR (a ρ) fun d ρ => match d with
  | .dic kvs => bindR (k ρ) fun k ρ => bindR (y ρ) fun y ρ => (match keyD k with | some q => .ok ((valD kvs q).getD y) ρ | none => .st)
  | _ => .st
theorem xe_get2 {o i e : Expr} {apos : Pos} {ea ek ey : M D} (hu : X.A.units + 1 < cLine) (ha : XE X S W o m1 e1 ea) (hk : XE X S W i m2 e2 ek) (hy : XE X S W e m3 e3 ey) (h2 : e2 = false := by rfl) (h3 : e3 = false := by rfl) (mm : M2 X o "get" apos i e pos := by exact ⟨rfl, rfl, rfl, rfl⟩) :
    XE X S W (.Call (.Attribute o "get" apos) [i, e] [] pos) .bo e1 (eGet2 ea ek ey) := by
  subst h2; subst h3
  obtain ⟨ta, pa, ra⟩ := ha.ex
  obtain ⟨tk, pk, rk⟩ := hk.ex
  obtain ⟨ty, py, ry⟩ := hy.ex
  refine ⟨_, pe_dget2 hu pa pk py mm, fun B ρ σ Fs H Q I h => ra B ρ σ Fs H _ I (h.bind.imp fun d ρ1 _ h1 x H1 Fs1 F1 p1 => ?_)⟩
  split at h1
  case h_2 => exact h1.elim
  rename_i kvs _
  obtain ⟨a, ws, G, rfl, ha, hl, ee, rr, _⟩ := p1.rep.dic_inv
  refine ⟨a, rfl, .inl ⟨ws, .inl ha⟩, rk B ρ1 σ Fs1 H1 _ p1.env (h1.bind.imp fun k ρ2 _ h2 y H2 Fs2 F2 p2 => ry B ρ2 σ Fs2 H2 _ p2.env (h2.bind.imp fun z ρ3 _ h3 w H3 Fs3 F3 p3 => ?_))⟩
  split at h3
  case h_2 => exact h3.elim
  rename_i q hq
  have s2 := (p2.step.noeff rfl).2.2
  have s3 := (p3.step.noeff rfl).2.2
  have hd : H3 a = some (.dK ws) := s3 _ _ (s2 _ _ ha)
  have st : Step S e1 ρ Fs H ρ3 Fs3 H3 := by have := (p1.step.trans p2.step).trans p3.step; simpa using this
  have rk' := p2.rep.same s3
  have vo := val_of (k := q) ee ((rr.same s2).same s3)
  refine ⟨valV ws q, by rw [key_v rk' hq]; exact DGet.k hd, ?_⟩
  cases hv : valD kvs q with
  | none =>
    rw [hv] at h3
    rw [vo.1 hv]
    exact h3 w H3 Fs3 F3 ⟨p3.env, p3.rep, st, trivial⟩
  | some dv =>
    rw [hv] at h3
    obtain ⟨v, A, G, Bb, g1, g2, _⟩ := vo.2 dv hv
    rw [g1]
    exact h3 v H3 Fs3 G ⟨p3.env, g2, st, trivial⟩
/-! ### a, b = x, y -/
def sPar (i j : Nat) (a b : M D) : Ms := fun ρ => bindS (a ρ) fun x ρ => bindS (b ρ) fun y ρ => .nx ((ρ.set i (some x)).set j (some y))
theorem putMd_pu {i : Nat} (z : putMd S i m = true) : S.kd i = .pl ∨ S.kd i = .own := by
  unfold putMd at z
  cases hk : S.kd i <;> rw [hk] at z <;> first | exact .inl rfl | exact .inr rfl | cases z
/-- what put_ok asks of a value -/
def PutF (S : Sig) (B : Base) (i : Nat) (ρ : Env) (Fs : Nat → List Addr) (F : List Addr) : Prop := (S.kd i = .pl ∧ F = []) ∨ (S.kd i = .own ∧ F.Nodup ∧ (∀ a ∈ F, ¬ B.P0 a) ∧ ∀ j, Own S ρ j → ∀ a ∈ F, a ∉ Fs j)
theorem putF_of {i : Nat} (q : Post S B m e1 σ ρ Fs H ρ1 d v H1 Fs1 F) (I : EnvR S B ρ σ Fs H) (z : putMd S i m = true) : PutF S B i ρ1 Fs1 F := by
  unfold putMd at z
  cases hk : S.kd i with
  | pl => rw [hk] at z; cases m <;> first | exact .inl ⟨hk, q.md⟩ | cases z
  | par => rw [hk] at z; cases z
  | io => rw [hk] at z; cases z
  | bw => rw [hk] at z; cases z
  | own =>
    rw [hk] at z
    have h := RetOk.of (rm := .fr) q I z rfl
    exact .inr ⟨hk, h.1, h.2.1, h.2.2⟩
theorem PutF.put {i : Nat} (h : PutF S B i ρ Fs F) (I : EnvR S B ρ σ Fs H) (r : Rep S.c B.R H d v F) : EnvR S B (ρ.set i (some d)) (σ.set i (some v)) (fun j => if j = i then F else Fs j) H :=
  I.put r (h.elim .inl fun h => .inr (.inr ⟨h.1, h.2.1, h.2.2.1, fun j oj _ a ha => h.2.2.2 j oj a ha⟩))
theorem PutF.next {i j : Nat} (h : PutF S B i ρ Fs F) (g : PutF S B j ρ Fs G) (fg : ∀ a ∈ F, a ∉ G) (hij : i ≠ j) : PutF S B j (ρ.set i (some d)) (fun k => if k = i then F else Fs k) G := by
  rcases g with g | ⟨g1, g2, g3, g4⟩
  · exact .inl g
  · refine .inr ⟨g1, g2, g3, fun k ok a ha => ?_⟩
    by_cases hk : k = i
    · simp only [if_pos hk]
      exact fun z => fg a z ha
    · simp only [if_neg hk]
      obtain ⟨d', q⟩ := ok.2
      rw [List.getElem?_set_ne (Ne.symm hk)] at q
      exact g4 k ⟨ok.1, d', q⟩ a ha
theorem xs_par (i j : Nat) {x y : Str} {a b : Expr} {px py pt : Pos} {kt k2 : Nat} {pt2 : Pos} {ea eb : M D} (hc : X.calm = true) (hN : X.N.Nodup) (ha : XE X S W a m1 e1 ea) (hb : XE X S W b m2 e2 eb) (z : (!e2 || m1.sep) = true := by rfl) (z1 : putMd S i m1 = true := by rfl) (z2 : putMd S j m2 = true := by rfl) (hi : X.N[i]? = some x := by rfl) (hj : X.N[j]? = some y := by rfl) (hij : i ≠ j := by decide)
    (hx : X.env.scope.names.lookup x = some .local := by rfl) (hy : X.env.scope.names.lookup y = some .local := by rfl) (hs1 : starEach [a, b] X.env = (false, eval a X.env) :: starEach [b] X.env := by rfl) (hs2 : starEach [b] X.env = (false, eval b X.env) :: starEach [] X.env := by rfl)
    (hw : swappedStores [.Tuple [.Name x px, .Name y py] kt pt] (.Tuple [a, b] k2 pt2) X.env = Pure.pure (some [x, y]) := by rfl)
    (hs : swapsWithSole [.Tuple [.Name x px, .Name y py] kt pt] (.Tuple [a, b] k2 pt2) pos.line X.env = Pure.pure false := by rfl) : XS X S W rm (.Assign [.Tuple [.Name x px, .Name y py] kt pt] (.Tuple [a, b] k2 pt2) pos) (sPar i j ea eb) := by
  obtain ⟨ta, pa, ra⟩ := ha.ex
  obtain ⟨tb, pb, rb⟩ := hb.ex
  refine ⟨_, ps_par hc hN hi hj hij hx hy (pa_cons pa (pa_cons pb pa_nil hs2) hs1) hw hs, fun B ρ σ Fs H E I h => ra B ρ σ Fs H _ I (h.bind.imp fun d1 ρ1 _ h1 v1 H1 Fs1 F1 p1 => rb B ρ1 σ Fs1 H1 _ p1.env (h1.bind.imp fun d2 ρ2 _ h2 v2 H2 Fs2 F2 p2 => ?_))⟩
  have r1 := p1.over p2.step z
  have q1 : PutF S B i ρ2 Fs2 F1 := by
    rcases putMd_pu z1 with k | k
    · refine .inl ⟨k, ?_⟩
      have := putF_of p1 I z1
      rcases this with q | q
      · exact q.2
      · rw [k] at q; cases q.1
    · rcases putF_of p1 I z1 with q | ⟨_, n1, n2, n3⟩
      · rw [k] at q; cases q.1
      · refine .inr ⟨k, n1, n2, fun l ol a ha m => ?_⟩
        obtain ⟨u, hu⟩ := p1.rep.some a ha
        rcases p2.step.grow l a ol m with n | ⟨l', ol', m'⟩
        · rw [hu] at n; cases n
        · exact n3 l' ol' a ha m'
  have q2 := putF_of p2 p1.env z2
  have fg : ∀ a ∈ F1, a ∉ F2 := fun a h1' h2' => by
    rcases q2 with q | ⟨k, _⟩
    · rw [q.2] at h2'; cases h2'
    · unfold putMd at z2
      rw [k] at z2
      have f2 := (p2.md.le z2).2.1 a h2'
      rcases q1 with q | ⟨k1, _⟩
      · rw [q.2] at h1'; cases h1'
      · unfold putMd at z1
        rw [k1] at z1
        obtain ⟨u, hu⟩ := p1.rep.some a h1'
        rcases f2 with n | ⟨l, ol, ml⟩
        · rw [hu] at n; cases n
        · exact (p1.md.le z1).2.2 l ol a h1' ml
  exact ⟨v1, v2, rfl, h2 _ _ H2 ((q1.next q2 fg hij).put (q1.put p2.env r1) p2.rep)⟩
/-! ### a, b, .. = a tuple or a list of plain things -/
def sUnp (b : List D → Env → Option Env) (a : M D) : Ms := fun ρ => bindS (a ρ) fun d ρ => match (match d with | .tup ds => some ds | .lst ds => some ds | _ => none) with
  | some ds => if pureDs ds then (match b ds ρ with | some ρ' => .nx ρ' | none => .st) else .st
  | none => .st
theorem PG.or {tg : Expr} {g1 g2 : TG} (h1 : PG X tg g1) (h2 : PG X tg g2) : PG X tg (fun v σ H Q => g1 v σ H Q ∨ g2 v σ H Q) := ⟨fun pins s σ H v u Q I r h => h.elim (h1.run pins s σ H v u Q I r) (h2.run pins s σ H v u Q I r)⟩
theorem xs_unp {es : List Expr} {k n : Nat} {p : Pos} {ts : List Nat} {e : Expr} {ea : M D} {b : List D → Env → Option Env} (hk : X.K = S.c.K) (hc : X.calm = true) (ha : XE X S W e m e1 ea) (hb : XGs X S true es ts b) (hl : ∀ ds ρ ρ', b ds ρ = some ρ' → ds.length = n) (hn : (assignEach es X.env).length = n := by rfl) (hst : (assignEach es X.env).findIdx? (·.1) = none := by rfl)
    (h1 : swapsWithSole [.Tuple es k p] e pos.line X.env = Pure.pure false := by rfl) (h2 : swappedStores [.Tuple es k p] e X.env = Pure.pure none := by rfl)
    (h3 : (assignEach [.Tuple es k p] X.env).map (·.2) = [assign (.Tuple es k p) X.env] := by rfl) : XS X S W rm (.Assign [.Tuple es k p] e pos) (sUnp b ea) := by
  obtain ⟨ta, pa, ra⟩ := ha.ex
  obtain ⟨gs, pgs, rgs⟩ := hb.ex
  refine ⟨_, ps_asg pa (PG.or (pg_tup hc pgs hn hst) (pg_unl hc pgs hn hst)) h1 h2 h3, fun B ρ σ Fs H E I h => ra B ρ σ Fs H _ I (h.bind.imp fun d ρ1 _ g1 v H1 Fs1 F q => ?_)⟩
  split at g1
  case h_2 => exact g1.elim
  rename_i ds hds
  split at g1
  case isFalse => exact g1.elim
  rename_i hp
  split at g1
  case h_2 => exact g1.elim
  rename_i ρ2 hb'
  have len := hl _ _ _ hb'
  rw [hk]
  split at hds <;> cases hds
  · obtain ⟨a, vs, rfl, hs, hl', rr⟩ := q.rep.tup_inv
    have e := rr.pure hp
    subst e
    exact .inl ⟨a, vs, rfl, hs, by rw [← rr.length]; exact len, rgs B ρ1 ρ2 σ Fs1 H1 ds vs [] _ q.env rr (fun _ => rfl) (by intro a z; cases z) hb' fun σ' Fs' J _ => g1 σ' Fs' H1 J⟩
  · obtain ⟨a, vs, G, rfl, hs, hl', rr, _⟩ := rep_lst q.rep
    have e := rr.pure hp
    subst e
    exact .inr ⟨a, vs, rfl, SqL.of hs, by rw [← rr.length]; exact len, rgs B ρ1 ρ2 σ Fs1 H1 ds vs [] _ q.env rr (fun _ => rfl) (by intro a z; cases z) hb' fun σ' Fs' J _ => g1 σ' Fs' H1 J⟩
end
end EL

/-! enumerate of a tuple -/
namespace EL
open PySem PySem.Spec PyProof.Rows
open L2 hiding XE
section
set_option maxHeartbeats 1000000 in
theorem enumNew1 {v : Value} {o : Obj} {Hh : Heap → Prop} (B : Begins v o Hh) :
    Meets (Builtin.«enumerate.__new__» ⟨[.type "enumerate", v], []⟩) (fun _ Rr st => Hh st.heap ∧
      Rr (.ok (.ret (.ref (st.heap.push o).objs.size))) { st with heap := (st.heap.push o).push { cls := .type "enumerate", data := .fields #[.none, .bool false, .ref st.heap.objs.size, rawInt 0, .none, .none] } }) :=
  .of_wp fun pg wd Ar Rr st hh => by
    obtain ⟨hp, g, dd, tk, os⟩ := st
    obtain ⟨hb, hh⟩ := hh
    have hsub := sub_enumerate
    have it1 : ∀ {A2 : Around} {E2 : Value → Shared → Prop} {Q2 : Value → Shared → Prop}, Q2 (.ref hp.objs.size) ⟨hp.push o, g, dd, tk, os⟩ → wpAny (model pg wd) A2 (pyIter v) Q2 E2 ⟨hp, g, dd, tk, os⟩ :=
      fun k => B.iter pg wd _ _ ⟨hp, g, dd, tk, os⟩ _ hb k
    wp_walk using it1
    refine wpAny_stack_any fun sk => wpAny_pure ?_
    split
    · rename_i c _ _ _ _ _
      cases (c == Value.type "enumerate")
      · wp_walk using it1
        exact ⟨_, rfl, hh⟩
      · wp_walk using it1
        exact ⟨_, rfl, hh⟩
    · wp_walk using it1
      exact ⟨_, rfl, hh⟩
theorem enumCall1 {pg : Program} {wd : World} {Ar : Around} {E : Value → Shared → Prop} {st : Shared} {v : Value} {o : Obj} {Hh : Heap → Prop} {Q : Value → Shared → Prop} (B : Begins v o Hh) (hb : Hh st.heap)
    (k : ∀ h2, IsEnum h2 (st.heap.objs.size + 1) st.heap.objs.size 0 .none → h2.get? st.heap.objs.size = some o → (∀ b u, st.heap.get? b = some u → h2.get? b = some u) → Q (.ref (st.heap.objs.size + 1)) { st with heap := h2 }) :
    wpAny (model pg wd) Ar (call (.type "enumerate") [v]) Q E st := by
  refine callType_new F.called_enumerate (by decide) (F.typeCall_enumerate_1 _) (F.newCall_enumerate_1 _) (fun ob => F.args_object_init_2 ob _) F.entry_enumerate_new (enumNew1 B) ⟨hb, ?_⟩
  have z1 : (st.heap.push o).objs.size = st.heap.objs.size + 1 := Heap.size_push ..
  show _ ∧ _
  rw [z1]
  have e1 : IsEnum ((st.heap.push o).push { cls := .type "enumerate", data := .fields #[.none, .bool false, .ref st.heap.objs.size, rawInt 0, .none, .none] }) (st.heap.objs.size + 1) st.heap.objs.size 0 .none := by
    have q := Heap.get?_push_size (st.heap.push o) (o := { cls := .type "enumerate", data := .fields #[.none, .bool false, .ref st.heap.objs.size, rawInt 0, .none, .none] }) rfl
    rw [z1] at q; exact q
  exact ⟨⟨_, e1, rfl⟩, k _ e1 (Heap.get?_push_of_some _ (Heap.get?_push_size _ B.free)) fun b u q => Heap.get?_push_of_some _ (Heap.get?_push_of_some _ q)⟩
end
/-- the tuple at a, each item in a new pair -/
def IteT (K : PySem.W.Frag) (a : Addr) : It :=
  ⟨fun i H => ∃ (vs : List V) (y : V), SqT K H a vs ∧ vs[i]? = some y, fun i H v H' => ∃ T y, v = .ref T ∧ H T = none ∧ H' = upd H T (.tup [.int (i : Nat), y]) ∧ ∀ vs, SqT K H a vs → vs[i]? = some y, fun i H => ∃ vs : List V, SqT K H a vs ∧ vs.length ≤ i⟩
theorem turn_enumT {P : Program} {w : World} {K : PySem.W.Frag} {elts : List Expr} {kk : Nat} {tpos : Pos} (a e it : Addr) :
    Turn P w K (.Tuple elts kk tpos) (IteT K a) [e, it] e (fun i h => (∃ u, IsEnum h e it ((i : Nat) : Int) u) ∧ h.IsTupleIter it a i ∧ e ≠ it ∧ a ≠ it ∧ e ≠ a) where
  mem := by simp
  obj := fun i h st b hb => by
    obtain ⟨⟨u, he⟩, ⟨o, ho, hc, hd⟩, _⟩ := st
    have q : b = e ∨ b = it := by simpa using hb
    rcases q with q | q
    · subst q; exact ⟨_, he, fun v r => nomatch r⟩
    · subst q; exact ⟨o, ho, fun v r => by rw [hd] at r; cases r⟩
  keep := fun i h h' st k => ⟨let ⟨u, he⟩ := st.1; ⟨u, k e (by simp) _ he⟩, st.2.1.at fun o q => k it (by simp) o q, st.2.2⟩
  item := by
    intro X hP hw hK hc i pins s σ H E I hf st hg
    subst hP hw hK
    obtain ⟨⟨u0, he⟩, hit, ne1, ne2, ne3⟩ := st
    obtain ⟨vs, y, hq, hy⟩ := hg
    obtain ⟨its, rv, pt, _⟩ := I.tuple hq
    obtain ⟨u, hu, ru⟩ := rv.get hy
    have lt1 : e < s.heap.objs.size := Heap.lt_size he
    have lt2 : it < s.heap.objs.size := by obtain ⟨_, q, _⟩ := hit; exact Heap.lt_size q
    have hl : i < its.toArray.size := by simpa using (List.getElem?_eq_some_iff.mp hu).1
    refine wpAny_pyNext_enum_itemD (Draws.tuple (show X.A.in1.handled = none from I.ok.hd hc) it a ne2 its.toArray) he ⟨hit, show s.heap.IsTuple a its.toArray from pt⟩ hl ne1 (by simp [ne1, ne3]) fun x2 h2 tk hx2 ho hst hT hsz hk => ?_
    have ex : x2 = u := by
      have q1 : its[i]? = some x2 := by simpa using hx2
      rw [hu] at q1; cases q1; rfl
    subst ex
    refine ⟨_, rfl, wpAny_letOwnedTupleGo_enum (s := { s with heap := h2, toks := tk + 1 }) ho fun h3 he3 sb => ?_⟩
    have hT3 : h3.get? s.heap.objs.size = some { cls := .type "tuple", data := .seq #[.int i tk, x2] } := (sb.2 _ (Nat.ne_of_gt lt1)).trans hT
    have nw : ObjOk X.prog X.w (upd H s.heap.objs.size (.tup [.int (i : Nat), y])) h3 s.heap.objs.size (.tup [.int (i : Nat), y]) :=
      ⟨by show 2 ≤ sizeLine; decide, [.int i tk, x2], .cons ⟨_, rfl⟩ (.cons ru .nil), ⟨_, hT3, rfl, _, rfl⟩⟩
    have I2 : Inv X pins σ (upd H s.heap.objs.size (.tup [.int (i : Nat), y])) { s with heap := h3, toks := tk + 1 } :=
      I.turnedNew (ch := [e, it]) (fun b ob hb q => (sb.2 b (fun z => hb (by simp [z]))).trans (hk b ob (fun z => hb (by simp [z])) (fun z => hb (by simp [z])) q)) hf (Nat.le_refl _) nw
    refine ⟨.ref s.heap.objs.size, _, I2, rfl, ⟨_, y, rfl, I.hok.fresh (Nat.le_refl _), rfl, fun zs hz => by rw [I.tuple_inj hz hq]; exact hy⟩, ⟨⟨x2, ?_⟩, hst.1.at fun o q => (sb.2 it (Ne.symm ne1)).trans q, ne1, ne2, ne3⟩, fun b hb => ?_⟩
    · have q1 : ((i + 1 : Nat) : Int) = (i : Int) + 1 := by omega
      rw [q1]; exact he3
    · have lb : b < s.heap.objs.size := by
        have q : b = e ∨ b = it := by simpa using hb
        rcases q with q | q
        · rw [q]; exact lt1
        · rw [q]; exact lt2
      rw [upd_ne (Nat.ne_of_lt lb)]
      exact (hf b hb).1
  done := by
    intro X hP hw hK hc i pins s σ H E I hf st hg
    subst hP hw hK
    obtain ⟨⟨u0, he⟩, hit, ne1, ne2, ne3⟩ := st
    obtain ⟨vs, hq, hy⟩ := hg
    obtain ⟨its, rv, pt, _⟩ := I.tuple hq
    obtain ⟨f0, f1, f2, f3, f4, f5⟩ := hf it (by simp)
    have hl := rv.length
    have DD : Draws X.prog X.w X.A.in1 it [it, a] i (fun _ _ => True) (fun j h => j = i ∧ h.IsTupleIter it a i ∧ h.IsTuple a its.toArray) :=
      { live := fun _ _ q => let ⟨o, ho, _⟩ := q.2.1; ⟨o, ho⟩
        frame := fun _ _ _ q k => ⟨q.1, q.2.1.at fun o r => k it (by simp) o r, q.2.2.at fun o r => k a (by simp) o r⟩
        item := fun j s2 Q2 E2 lt q k => absurd q.1 (Nat.ne_of_lt lt)
        done := fun s2 Q2 E2 q k => wpAny_nextOf_tuple_end (show X.A.in1.handled = none from I.ok.hd hc) q.2.1 q.2.2 (by simp; omega) k }
    exact wpAny_pyNext_enum_endD DD he ⟨rfl, hit, show s.heap.IsTuple a its.toArray from pt⟩ fun h2 eb => ⟨rfl, I.turned (t' := s.toks) (fun b o hb q => eb b o hb q) f0 f1 f3 f4 f5⟩
  self := fun A i s Q E st h => let ⟨⟨_, he⟩, _⟩ := st; wpAny_pyIter_enum he h
section
variable {X : Cx} {S : Sig} {W : WX} {m m1 : Md} {e1 : Bool} {pos : Pos}
def iEnumA (K : PySem.W.Frag) (ta : TA) : TI := fun σ H R => ta σ H fun vs H1 => ∃ a, vs = [.ref a] ∧ ((∃ xs, SqL K H1 a xs ∧ R (Ite K a) H1) ∨ ∃ xs, SqT K H1 a xs ∧ R (IteT K a) H1)
theorem pi_enumA {e : Expr} {ta : TA} {p tpos : Pos} {elts : List Expr} {kk : Nat} (hg : Gl X "enumerate") (hm : X.mg "enumerate" = none) (ha : PA X [e] ta) (hs : starEach [e] X.env = [(false, eval e X.env)] := by rfl) :
    PI X (.Tuple elts kk tpos) (.Call (.Name "enumerate" p) [e] [] pos) (iEnumA X.K ta) := by
  refine ⟨fun pins s σ H R I h => ?_⟩
  refine Call_ (ld_blt I hg hm boot_enumerate (PyProof.Rows.callWith_type1 (thn (ha.run pos pins s σ H _ I h) fun us s1 ⟨vs, H1, I1, r1, a, ex, q⟩ => ?_) hs rfl))
  subst ex
  obtain rfl := Vals.ref1 r1
  have fp : ∀ b ∈ [s1.heap.objs.size + 1, s1.heap.objs.size], FpOk X pins H1 b := fun b hb => by
    have q2 : b = s1.heap.objs.size + 1 ∨ b = s1.heap.objs.size := by simpa using hb
    have le : s1.heap.objs.size ≤ b := by
      rcases q2 with z | z
      · rw [z]; exact Nat.le_succ _
      · rw [z]; exact Nat.le_refl _
    exact I1.fpOk le (I1.hok.fresh le)
  rcases q with ⟨xs, hq, q⟩ | ⟨xs, hq, q⟩
  · obtain ⟨its, rv, pt, _⟩ := I1.list hq
    refine call_enumerate_list pt.isList fun h2 he hi hz hk => wpAny_pyIter_enum he ?_
    exact ⟨s1.heap.objs.size + 1, [s1.heap.objs.size + 1, s1.heap.objs.size], _, _, H1, rfl, I1.kept (t' := s1.toks) hk, turn_enum a (s1.heap.objs.size + 1) s1.heap.objs.size, ⟨⟨.none, he⟩, hi, Nat.succ_ne_self _⟩, fp, q⟩
  · obtain ⟨its, rv, pt, _⟩ := I1.tuple hq
    have la : a < s1.heap.objs.size := let ⟨o, ho, _⟩ := id pt; Heap.lt_size ho
    refine enumCall1 (begins_tuple a its.toArray) (show s1.heap.IsTuple a its.toArray from pt) fun h2 he hi hk => wpAny_pyIter_enum he ?_
    exact ⟨s1.heap.objs.size + 1, [s1.heap.objs.size + 1, s1.heap.objs.size], _, _, H1, rfl, I1.kept (t' := s1.toks) hk, turn_enumT a (s1.heap.objs.size + 1) s1.heap.objs.size, ⟨⟨.none, he⟩, ⟨_, hi, rfl, rfl⟩, Nat.succ_ne_self _, Nat.ne_of_lt la, Nat.ne_of_gt (Nat.lt_succ_of_lt la)⟩, fp, q⟩
/-- the items with their places -/
def enumD (ds : List D) : List D := (List.range ds.length).map fun i => .tup [.int (i : Nat), ds.getD i .non]
def itEnum (a : M D) : M (List D) := fun ρ => bindR (a ρ) fun d ρ => match (match d with | .tup ds => some ds | .lst ds => some ds | .scr ds => some ds | _ => none) with
  | some ds => if pureDs ds then .ok (enumD ds) ρ else .st
  | none => .st
theorem enum_get {ds : List D} {i : Nat} {d : D} (h : (enumD ds)[i]? = some d) : ∃ y, ds[i]? = some y ∧ d = .tup [.int (i : Nat), y] := by
  have hl : i < ds.length := by simpa [enumD] using (List.getElem?_eq_some_iff.mp h).1
  refine ⟨ds[i], List.getElem?_eq_getElem hl, ?_⟩
  simp only [enumD, List.getElem?_map, List.getElem?_range hl, Option.map_some, Option.some.injEq] at h
  rw [← h, List.getD_eq_getElem?_getD, List.getElem?_eq_getElem hl]; rfl
theorem pair_rep {C : Core} {R : Addr → Prop} {H : Hp} {T : Addr} {i : Nat} {y : D} {x : V} (hT : H T = none) (r : Rep C R H y x []) : Rep C R (upd H T (.tup [.int (i : Nat), x])) (.tup [.int (i : Nat), y]) (.ref T) [] :=
  .tup (SqT.of upd_same) (by show 2 ≤ sizeLine; decide) (.cons (F := []) (G := []) (.int _) (.cons (F := []) (G := []) (r.same (same_upd hT)) .nil))
theorem xi_enum {e : Expr} {ea : M D} {p tpos : Pos} {elts : List Expr} {kk : Nat} (hK : X.K = S.c.K) (hg : Gl X "enumerate") (hmg : X.mg "enumerate" = none) (ha : XE X S W e m e1 ea) (hw : m.walk = true := by rfl) (hT : m.ts.all (hasT S) = true := by rfl) (hs : starEach [e] X.env = [(false, eval e X.env)] := by rfl) (hs' : starEach [e] X.env = (false, eval e X.env) :: starEach [] X.env := by rfl) :
    XIt X S W (.Tuple elts kk tpos) (.Call (.Name "enumerate" p) [e] [] pos) m.ts true e1 (itEnum ea) := by
  obtain ⟨t, pa, r⟩ := ha.ex
  refine ⟨_, pi_enumA hg hmg (pa_cons pa pa_nil hs') hs, fun B ρ σ Fs H Q I h => ?_⟩
  have go : t σ H fun v H1 => ∃ a, [v] = [.ref a] ∧ ((∃ xs, SqL X.K H1 a xs ∧ Q (Ite X.K a) H1) ∨ ∃ xs, SqT X.K H1 a xs ∧ Q (IteT X.K a) H1) := by
    refine r B ρ σ Fs H _ I (h.bind.imp fun d ρ1 _ h1 v H1 Fs1 F q => ?_)
    have wk := Wk.of q hw hT
    split at h1
    case h_2 => exact h1.elim
    rename_i ds hds
    split at h1
    case isFalse => exact h1.elim
    rename_i hp
    have len : ∀ {n}, ds.length = n → n ≤ sizeLine → (enumD ds).length ≤ sizeLine := fun e l => by simp [enumD, e, l]
    have stp : ∀ {i}, (enumD ds).length ≤ i → ds.length ≤ i := fun h => by simpa [enumD] using h
    have fin := fun J ok => h1 J H1 Fs1 F q.env q.step wk ok
    rw [hK]
    have rr := q.rep
    split at hds <;> cases hds
    · cases rr with
      | tup hs l r =>
        have e := r.pure hp
        subst e
        refine ⟨_, rfl, .inr ⟨_, hs, fin _ ⟨fun H2 g i d e => ?_, fun H2 g i hi => ?_, len r.length l⟩⟩⟩
        all_goals have hs2 := (Rep.keep g (.tup hs l r)); cases hs2 with | tup hs2 l2 r2 => ?_
        · obtain ⟨y, hy, rfl⟩ := enum_get e
          obtain ⟨x, hx, rx⟩ := r2.at' hy
          refine ⟨⟨_, x, hs2, hx⟩, fun z H' hz => ?_⟩
          obtain ⟨T, y', rfl, hT', rfl, hy'⟩ := hz
          have := hy' _ hs2
          rw [hx] at this; cases this
          exact ⟨same_upd hT', [], pair_rep hT' rx, fun _ => rfl, fun a h => by cases h⟩
        · exact ⟨_, hs2, by rw [← r2.length]; exact stp hi⟩
    · cases rr with
      | lst hs l r =>
        have e := r.pure hp
        subst e
        refine ⟨_, rfl, .inl ⟨_, SqL.of hs, fin _ ⟨fun H2 g i d e => ?_, fun H2 g i hi => ?_, len r.length l⟩⟩⟩
        · have h2 := g _ _ hs (.inr (by simp))
          obtain ⟨y, hy, rfl⟩ := enum_get e
          obtain ⟨x, hx, rx⟩ := r.at' hy
          refine ⟨⟨_, x, SqL.of h2, hx⟩, fun z H' hz => ?_⟩
          obtain ⟨T, y', rfl, hT', rfl, hy'⟩ := hz
          have := hy' _ (SqL.of h2)
          rw [hx] at this; cases this
          exact ⟨same_upd hT', [], pair_rep hT' (rx.keep fun a o q z => g a o q (z.imp id fun z => by cases z)), fun _ => rfl, fun a h => by cases h⟩
        · exact ⟨_, SqL.of (g _ _ hs (.inr (by simp))), by rw [← r.length]; exact stp hi⟩
    · cases rr with
      | scr hs l r =>
        have e := r.pure hp
        subst e
        have sq : ∀ {H2 : Hp}, (∀ a o, H1 a = some o → (¬ Mu S.c B.R o a ∨ a ∈ []) → H2 a = some o) → SqL S.c.K H2 _ _ := fun g => (hs.keep fun o u q => g _ _ q (.inl fun z => z)).toL
        refine ⟨_, rfl, .inl ⟨_, hs.toL, fin _ ⟨fun H2 g i d e => ?_, fun H2 g i hi => ?_, len r.length l⟩⟩⟩
        · obtain ⟨y, hy, rfl⟩ := enum_get e
          obtain ⟨x, hx, rx⟩ := r.at' hy
          refine ⟨⟨_, x, sq g, hx⟩, fun z H' hz => ?_⟩
          obtain ⟨T, y', rfl, hT', rfl, hy'⟩ := hz
          have := hy' _ (sq g)
          rw [hx] at this; cases this
          exact ⟨same_upd hT', [], pair_rep hT' (rx.keep g), fun _ => rfl, fun a h => by cases h⟩
        · exact ⟨_, sq g, by rw [← r.length]; exact stp hi⟩
  exact go
end
end EL

/-! list and tuple of a range -/
namespace EL
open PySem PySem.Spec PyProof.Rows
open L2 hiding XE
section
variable {X : Cx} {S : Sig} {C : Core} {W : WX} {m m1 m2 : Md} {e1 e2 : Bool} {pos : Pos} {R : Addr → Prop} {H : Hp}
/-- a range's two bounds -/
structure XRg (X : Cx) (S : Sig) (W : WX) (e : Expr) (eff : Bool) (ev : M (Int × Int)) : Prop where
  ex : ∃ t, PRg X e t ∧ ∀ (B : Base) (ρ : Env) (σ : L2.St) (Fs : Nat → List Addr) (H : Hp) (Q : Int → Int → Hp → Prop), EnvR S B ρ σ Fs H →
    Wn (ErW S B W) (fun p ρ' => ∀ H' Fs', EnvR S B ρ' σ Fs' H' → Step S eff ρ Fs H ρ' Fs' H' → Q p.1 p.2 H') (ev ρ) → t σ H Q
def eRg1 (a : M D) : M (Int × Int) := fun ρ => bindR (a ρ) fun d ρ => match d with | .int i => .ok (0, i) ρ | _ => .st
def eRg2 (a b : M D) : M (Int × Int) := fun ρ => bindR (a ρ) fun x ρ => bindR (b ρ) fun y ρ => match x, y with | .int i, .int j => .ok (i, j) ρ | _, _ => .st
theorem xrg_1 {a : Expr} {ea : M D} {p : Pos} (hg : Gl X "range") (hm : X.mg "range" = none) (ha : XE X S W a m1 e1 ea) (na : starEach [a] X.env = (false, eval a X.env) :: starEach [] X.env := by rfl) : XRg X S W (.Call (.Name "range" p) [a] [] pos) e1 (eRg1 ea) := by
  obtain ⟨ta, pa, ra⟩ := ha.ex
  refine ⟨_, prg_1 hg hm pa na, fun B ρ σ Fs H Q I h => ra B ρ σ Fs H _ I (h.bind.imp fun d ρ1 _ h1 v H1 Fs1 F q => ?_)⟩
  split at h1
  · exact ⟨_, q.rep.int_inv, h1 H1 Fs1 q.env q.step⟩
  · exact h1.elim
theorem xrg_2 {a b : Expr} {ea eb : M D} {p : Pos} (hg : Gl X "range") (hm : X.mg "range" = none) (ha : XE X S W a m1 e1 ea) (hb : XE X S W b m2 e2 eb) (na : starEach [a, b] X.env = (false, eval a X.env) :: starEach [b] X.env := by rfl) (nb : starEach [b] X.env = (false, eval b X.env) :: starEach [] X.env := by rfl) (hp : (backTo pos (starEach [b] X.env)).any (·.1) = false := by rfl) :
    XRg X S W (.Call (.Name "range" p) [a, b] [] pos) (e1 || e2) (eRg2 ea eb) := by
  obtain ⟨ta, pa, ra⟩ := ha.ex
  obtain ⟨tb, pb, rb⟩ := hb.ex
  refine ⟨_, prg_2 hg hm pa pb na nb hp, fun B ρ σ Fs H Q I h => ra B ρ σ Fs H _ I (h.bind.imp fun d1 ρ1 _ h1 v H1 Fs1 F q => rb B ρ1 σ Fs1 H1 _ q.env (h1.bind.imp fun d2 ρ2 _ h2 w H2 Fs2 G q2 => ?_))⟩
  split at h2
  · exact ⟨_, _, q.rep.int_inv, q2.rep.int_inv, h2 H2 Fs2 q2.env (q.step.trans q2.step)⟩
  · exact h2.elim
def okRg (i j : Int) : Bool := okR i && okR j && decide ((j - i).toNat ≤ sizeLine)
theorem okRg_of {i j : Int} (h : okRg i j = true) : RgOk i j := by
  simp only [okRg, Bool.and_eq_true, decide_eq_true_eq] at h
  obtain ⟨⟨h1, h2⟩, h3⟩ := h
  have a1 := okR_iff.mp h1
  have a2 := okR_iff.mp h2
  rw [sizeLine_eq] at h3
  exact ⟨a1.1, a1.2, a2.1, a2.2, by omega⟩
theorem reps_rg {i j : Int} : Reps C R H (rangeD i (j - i).toNat) (rgV i j) [] := by
  unfold rangeD rgV
  generalize List.range (j - i).toNat = l
  induction l with
  | nil => exact .nil
  | cons k l ih => exact .cons (F := []) (G := []) (.int _) ih
def eLstRg (a : M (Int × Int)) : M D := fun ρ => bindR (a ρ) fun p ρ => if okRg p.1 p.2 then .ok (.lst (rangeD p.1 (p.2 - p.1).toNat)) ρ else .st
def eTupRg (a : M (Int × Int)) : M D := fun ρ => bindR (a ρ) fun p ρ => if okRg p.1 p.2 then .ok (.tup (rangeD p.1 (p.2 - p.1).toNat)) ρ else .st
theorem rg_len {i j : Int} (h : okRg i j = true) : (rgV i j).length ≤ sizeLine := by
  rw [rgV_length]
  simp only [okRg, Bool.and_eq_true, decide_eq_true_eq] at h
  exact h.2
theorem xe_listRg {e : Expr} {ev : M (Int × Int)} {p : Pos} (hc : X.calm = true) (hg : Gl X "list") (hm : X.mg "list" = none) (ha : XRg X S W e e1 ev) (na : starEach [e] X.env = (false, eval e X.env) :: starEach [] X.env := by rfl) : XE X S W (.Call (.Name "list" p) [e] [] pos) .fr e1 (eLstRg ev) := by
  obtain ⟨ta, pa, ra⟩ := ha.ex
  refine ⟨_, pe_listRg hc hg hm pa na, fun B ρ σ Fs H Q I h => ra B ρ σ Fs H _ I (h.bind.imp fun q ρ1 _ h1 H1 Fs1 I1 s1 => ?_)⟩
  split at h1
  · rename_i ok
    refine ⟨okRg_of ok, fun a hp => h1 _ _ Fs1 [a] (VP.post (ds := []) (vs := []) (G := []) (m1 := .bo) ⟨I1, .nil, s1, trivial⟩ ⟨same_upd hp, .lst upd_same (rg_len ok) reps_rg, by simp, by intro b hb; simp at hb; rw [hb]; exact hp⟩)⟩
  · exact h1.elim
theorem xe_tupRg {e : Expr} {ev : M (Int × Int)} {p : Pos} (hc : X.calm = true) (hg : Gl X "tuple") (hm : X.mg "tuple" = none) (ha : XRg X S W e e1 ev) (na : starEach [e] X.env = (false, eval e X.env) :: starEach [] X.env := by rfl) : XE X S W (.Call (.Name "tuple" p) [e] [] pos) .pu e1 (eTupRg ev) := by
  obtain ⟨ta, pa, ra⟩ := ha.ex
  refine ⟨_, pe_tupRg hc hg hm pa na, fun B ρ σ Fs H Q I h => ra B ρ σ Fs H _ I (h.bind.imp fun q ρ1 _ h1 H1 Fs1 I1 s1 => ?_)⟩
  split at h1
  · rename_i ok
    refine ⟨okRg_of ok, fun a hp => h1 _ _ Fs1 [] (VP.post (ds := []) (vs := []) (G := []) (m1 := .bo) ⟨I1, .nil, s1, trivial⟩ ⟨same_upd hp, .tup (SqT.of upd_same) (rg_len ok) reps_rg, rfl⟩)⟩
  · exact h1.elim
end
end EL

/-! short rules for a printed derivation -/
namespace EL
open PySem PySem.Spec PyProof.Rows
open L2 hiding XE
def bltL : List Str := ["len", "sum", "all", "any", "int", "list", "tuple", "range", "enumerate", "isinstance", "str", "bool", "dict"]
/-- what stands of a place in a def's body -/
structure Cq (X : Cx) (S : Sig) : Prop where
  K : X.K = S.c.K
  calm : X.calm = true
  un : X.A.units + 200 < cLine
  fb : ∀ x ∈ bltL, X.mg x = none
  nd : X.N.Nodup
section
variable {X : Cx} {S : Sig}
theorem Cq.lk (q : Cq X S) (T : List Nat) : Cq X (lockS S T) := ⟨by rw [lockS_c]; exact q.K, q.calm, q.un, q.fb, q.nd⟩
theorem Cq.bk (q : Cq X S) (T : List Nat) {s : Shared} {H : Hp} {sc : Scope} {ce : PySem.Env} {fp : List Addr} : Cq (X.blk s H sc ce fp) (lockS S T) := ⟨by rw [lockS_c]; exact q.K, q.calm, q.un, q.fb, q.nd⟩
theorem Cq.u1 (q : Cq X S) : X.A.units + 1 < cLine := by have := q.un; omega
theorem Cq.u64 (q : Cq X S) : X.A.units + 64 < cLine := by have := q.un; omega
theorem Cq.u65 (q : Cq X S) : X.A.units + 65 < cLine := by have := q.un; omega
variable {W : WX} {m m1 m2 : Md} {e1 e2 : Bool} {pos p : Pos} {a b e : Expr} {ea eb : M D} {es : List Expr} {eas : M (List D)}
theorem x_eq (q : Cq X S) (ha : XE X S W a m1 e1 ea) (hb : XE X S W b m2 e2 eb) (z : (!e2 || m1.sep) = true := by rfl) (hm : behindInMarks .Eq b = false := by rfl) : XE X S W (.Compare a [.Eq] [b] pos) .pu (e1 || e2) (eBin dEq ea eb) := xe_cmp (op_eqD q.u64) (op2_eq q.K) ha hb hm z
theorem x_ne (q : Cq X S) (ha : XE X S W a m1 e1 ea) (hb : XE X S W b m2 e2 eb) (z : (!e2 || m1.sep) = true := by rfl) (hm : behindInMarks .NotEq b = false := by rfl) : XE X S W (.Compare a [.NotEq] [b] pos) .pu (e1 || e2) (eBin dNe ea eb) := xe_cmp (op_neD q.u64) (op2_ne q.K) ha hb hm z
theorem t_eq (q : Cq X S) (ha : XE X S W a m1 e1 ea) (hb : XE X S W b m2 e2 eb) (z : (!e2 || m1.sep) = true := by rfl) (hm : behindInMarks .Eq b = false := by rfl) : XT X S W (.Compare a [.Eq] [b] pos) (e1 || e2) (ebV (eBin dEq ea eb)) := xt_cmp (op_eqD q.u64) (op2_eq q.K) ha hb hm z
theorem t_ne (q : Cq X S) (ha : XE X S W a m1 e1 ea) (hb : XE X S W b m2 e2 eb) (z : (!e2 || m1.sep) = true := by rfl) (hm : behindInMarks .NotEq b = false := by rfl) : XT X S W (.Compare a [.NotEq] [b] pos) (e1 || e2) (ebV (eBin dNe ea eb)) := xt_cmp (op_neD q.u64) (op2_ne q.K) ha hb hm z
theorem x_in (q : Cq X S) (ha : XE X S W a m1 e1 ea) (hb : XE X S W b m2 e2 eb) (z : (!e2 || m1.sep) = true := by rfl) (hm : behindInMarks .In b = false := by rfl) : XE X S W (.Compare a [.In] [b] pos) .pu (e1 || e2) (eBin dIn ea eb) := xe_cmp (op_inA q.u65) (op2_in q.K) ha hb hm z
theorem x_ni (q : Cq X S) (ha : XE X S W a m1 e1 ea) (hb : XE X S W b m2 e2 eb) (z : (!e2 || m1.sep) = true := by rfl) (hm : behindInMarks .NotIn b = false := by rfl) : XE X S W (.Compare a [.NotIn] [b] pos) .pu (e1 || e2) (eBin dNotIn ea eb) := xe_cmp (op_notInA q.u65) (op2_notIn q.K) ha hb hm z
theorem t_in (q : Cq X S) (ha : XE X S W a m1 e1 ea) (hb : XE X S W b m2 e2 eb) (z : (!e2 || m1.sep) = true := by rfl) (hm : behindInMarks .In b = false := by rfl) : XT X S W (.Compare a [.In] [b] pos) (e1 || e2) (ebV (eBin dIn ea eb)) := xt_cmp (op_inA q.u65) (op2_in q.K) ha hb hm z
theorem t_ni (q : Cq X S) (ha : XE X S W a m1 e1 ea) (hb : XE X S W b m2 e2 eb) (z : (!e2 || m1.sep) = true := by rfl) (hm : behindInMarks .NotIn b = false := by rfl) : XT X S W (.Compare a [.NotIn] [b] pos) (e1 || e2) (ebV (eBin dNotIn ea eb)) := xt_cmp (op_notInA q.u65) (op2_notIn q.K) ha hb hm z
def iLt : Int → Int → Bool := fun i j => decide (i < j)
def iLe : Int → Int → Bool := fun i j => decide (i ≤ j)
def iGt : Int → Int → Bool := fun i j => decide (j < i)
def iGe : Int → Int → Bool := fun i j => decide (j ≤ i)
theorem x_lt (q : Cq X S) (ha : XE X S W a m1 e1 ea) (hb : XE X S W b m2 e2 eb) (z : (!e2 || m1.sep) = true := by rfl) (hm : behindInMarks .Lt b = false := by rfl) : XE X S W (.Compare a [.Lt] [b] pos) .pu (e1 || e2) (eBin (dLtI iLt) ea eb) := xe_cmp op_lt op2_cmpI ha hb hm z
theorem x_le (q : Cq X S) (ha : XE X S W a m1 e1 ea) (hb : XE X S W b m2 e2 eb) (z : (!e2 || m1.sep) = true := by rfl) (hm : behindInMarks .LtE b = false := by rfl) : XE X S W (.Compare a [.LtE] [b] pos) .pu (e1 || e2) (eBin (dLtI iLe) ea eb) := xe_cmp op_le op2_cmpI ha hb hm z
theorem x_gt (q : Cq X S) (ha : XE X S W a m1 e1 ea) (hb : XE X S W b m2 e2 eb) (z : (!e2 || m1.sep) = true := by rfl) (hm : behindInMarks .Gt b = false := by rfl) : XE X S W (.Compare a [.Gt] [b] pos) .pu (e1 || e2) (eBin (dLtI iGt) ea eb) := xe_cmp op_gt op2_cmpI ha hb hm z
theorem x_ge (q : Cq X S) (ha : XE X S W a m1 e1 ea) (hb : XE X S W b m2 e2 eb) (z : (!e2 || m1.sep) = true := by rfl) (hm : behindInMarks .GtE b = false := by rfl) : XE X S W (.Compare a [.GtE] [b] pos) .pu (e1 || e2) (eBin (dLtI iGe) ea eb) := xe_cmp op_ge op2_cmpI ha hb hm z
theorem t_lt (q : Cq X S) (ha : XE X S W a m1 e1 ea) (hb : XE X S W b m2 e2 eb) (z : (!e2 || m1.sep) = true := by rfl) (hm : behindInMarks .Lt b = false := by rfl) : XT X S W (.Compare a [.Lt] [b] pos) (e1 || e2) (ebV (eBin (dLtI iLt) ea eb)) := xt_cmp op_lt op2_cmpI ha hb hm z
theorem t_le (q : Cq X S) (ha : XE X S W a m1 e1 ea) (hb : XE X S W b m2 e2 eb) (z : (!e2 || m1.sep) = true := by rfl) (hm : behindInMarks .LtE b = false := by rfl) : XT X S W (.Compare a [.LtE] [b] pos) (e1 || e2) (ebV (eBin (dLtI iLe) ea eb)) := xt_cmp op_le op2_cmpI ha hb hm z
theorem t_gt (q : Cq X S) (ha : XE X S W a m1 e1 ea) (hb : XE X S W b m2 e2 eb) (z : (!e2 || m1.sep) = true := by rfl) (hm : behindInMarks .Gt b = false := by rfl) : XT X S W (.Compare a [.Gt] [b] pos) (e1 || e2) (ebV (eBin (dLtI iGt) ea eb)) := xt_cmp op_gt op2_cmpI ha hb hm z
theorem t_ge (q : Cq X S) (ha : XE X S W a m1 e1 ea) (hb : XE X S W b m2 e2 eb) (z : (!e2 || m1.sep) = true := by rfl) (hm : behindInMarks .GtE b = false := by rfl) : XT X S W (.Compare a [.GtE] [b] pos) (e1 || e2) (ebV (eBin (dLtI iGe) ea eb)) := xt_cmp op_ge op2_cmpI ha hb hm z
/-- x is None, x is True, .. -/
def dIs (neg : Bool) : D → D → Option D := fun x y => match y with | .non => if neg then dNotN x y else dIsN x y | .bl _ => if neg then dNotB x y else dIsB x y | _ => none
theorem x_isN (q : Cq X S) (ha : XE X S W a m1 e1 ea) (hb : XE X S W b m2 false eb) (hm : behindInMarks .Is b = false := by rfl) : XE X S W (.Compare a [.Is] [b] pos) .pu (e1 || false) (eBin dIsN ea eb) := xe_cmp op_isN op2_isN ha hb hm rfl
theorem x_ntN (q : Cq X S) (ha : XE X S W a m1 e1 ea) (hb : XE X S W b m2 false eb) (hm : behindInMarks .IsNot b = false := by rfl) : XE X S W (.Compare a [.IsNot] [b] pos) .pu (e1 || false) (eBin dNotN ea eb) := xe_cmp op_notN op2_notN ha hb hm rfl
theorem x_isB (q : Cq X S) (ha : XE X S W a m1 e1 ea) (hb : XE X S W b m2 false eb) (hm : behindInMarks .Is b = false := by rfl) : XE X S W (.Compare a [.Is] [b] pos) .pu (e1 || false) (eBin dIsB ea eb) := xe_cmp op_isB op2_isB ha hb hm rfl
theorem x_ntB (q : Cq X S) (ha : XE X S W a m1 e1 ea) (hb : XE X S W b m2 false eb) (hm : behindInMarks .IsNot b = false := by rfl) : XE X S W (.Compare a [.IsNot] [b] pos) .pu (e1 || false) (eBin dNotB ea eb) := xe_cmp op_notB op2_notB ha hb hm rfl
theorem t_isN (q : Cq X S) (ha : XE X S W a m1 e1 ea) (hb : XE X S W b m2 false eb) (hm : behindInMarks .Is b = false := by rfl) : XT X S W (.Compare a [.Is] [b] pos) (e1 || false) (ebV (eBin dIsN ea eb)) := xt_cmp op_isN op2_isN ha hb hm rfl
theorem t_ntN (q : Cq X S) (ha : XE X S W a m1 e1 ea) (hb : XE X S W b m2 false eb) (hm : behindInMarks .IsNot b = false := by rfl) : XT X S W (.Compare a [.IsNot] [b] pos) (e1 || false) (ebV (eBin dNotN ea eb)) := xt_cmp op_notN op2_notN ha hb hm rfl
theorem t_isB (q : Cq X S) (ha : XE X S W a m1 e1 ea) (hb : XE X S W b m2 false eb) (hm : behindInMarks .Is b = false := by rfl) : XT X S W (.Compare a [.Is] [b] pos) (e1 || false) (ebV (eBin dIsB ea eb)) := xt_cmp op_isB op2_isB ha hb hm rfl
theorem t_ntB (q : Cq X S) (ha : XE X S W a m1 e1 ea) (hb : XE X S W b m2 false eb) (hm : behindInMarks .IsNot b = false := by rfl) : XT X S W (.Compare a [.IsNot] [b] pos) (e1 || false) (ebV (eBin dNotB ea eb)) := xt_cmp op_notB op2_notB ha hb hm rfl
theorem x_add (q : Cq X S) (ha : XE X S W a m1 e1 ea) (hb : XE X S W b m2 e2 eb) (z : (!e2 || m1.sep) = true := by rfl) : XE X S W (.BinOp a .Add b pos) .pu (e1 || e2) (eBin dAdd ea eb) := xe_bin (op_add.or (op_add_str.or op_catA)) (op2_add q.K) ha hb z
theorem x_addL (q : Cq X S) (ha : XE X S W a m1 e1 ea) (hb : XE X S W b m2 e2 eb) (z : (!e2 || m1.sep) = true := by rfl) : XE X S W (.BinOp a .Add b pos) .fr (e1 || e2) (eBin dAddL ea eb) := xe_bin op_cat op2_addL ha hb z
theorem x_sub (q : Cq X S) (ha : XE X S W a m1 e1 ea) (hb : XE X S W b m2 e2 eb) (z : (!e2 || m1.sep) = true := by rfl) : XE X S W (.BinOp a .Sub b pos) .pu (e1 || e2) (eBin dSub ea eb) := xe_bin op_sub op2_sub ha hb z
theorem x_mul (q : Cq X S) (ha : XE X S W a m1 e1 ea) (hb : XE X S W b m2 e2 eb) (z : (!e2 || m1.sep) = true := by rfl) : XE X S W (.BinOp a .Mult b pos) .pu (e1 || e2) (eBin dMul ea eb) := xe_bin op_mul op2_mul ha hb z
theorem x_rep (q : Cq X S) (ha : XE X S W a m1 e1 ea) (hb : XE X S W b m2 e2 eb) (z : (!e2 || m1.sep) = true := by rfl) : XE X S W (.BinOp a .Mult b pos) .fr (e1 || e2) (eBin dRep ea eb) := xe_bin op_rep op2_rep ha hb z
theorem x_fdiv (q : Cq X S) (ha : XE X S W a m1 e1 ea) (hb : XE X S W b m2 e2 eb) (z : (!e2 || m1.sep) = true := by rfl) : XE X S W (.BinOp a .FloorDiv b pos) .pu (e1 || e2) (eBin dFdiv ea eb) := xe_bin op_fdiv op2_fdiv ha hb z
theorem x_mod (q : Cq X S) (ha : XE X S W a m1 e1 ea) (hb : XE X S W b m2 e2 eb) (z : (!e2 || m1.sep) = true := by rfl) : XE X S W (.BinOp a .Mod b pos) .pu (e1 || e2) (eBin dMod ea eb) := xe_bin op_mod op2_mod ha hb z
theorem x_pow (q : Cq X S) (ha : XE X S W a m1 e1 ea) (hb : XE X S W b m2 e2 eb) (z : (!e2 || m1.sep) = true := by rfl) : XE X S W (.BinOp a .Pow b pos) .pu (e1 || e2) (eBin dPow ea eb) := xe_bin op_pow op2_pow ha hb z
theorem x_ix (q : Cq X S) (ha : XE X S W a m1 e1 ea) (hb : XE X S W b .pu e2 eb) (z : (!e2 || m1.sep) = true := by rfl) (hs : PlainIx b := by exact fun _ _ => rfl) : XE X S W (.Subscript a b pos) m1 (e1 || e2) (eBin dIx ea eb) := xe_ix q.K q.u1 ha hb z hs
def eA1 (g : List D → Option D) (a : M D) : M D := eN g (eaCons a eaNil)
theorem Md.join_pu' (m : Md) : m.join .pu = m := by cases m <;> rfl
theorem xa_one (ha : XE X S W e m1 e1 ea) (hs : starEach (e :: []) X.env = (false, eval e X.env) :: starEach [] X.env := by rfl) : XA X S W [e] m1 e1 (eaCons ea eaNil) := by
  have h := xa_cons ha (xa_nil (X := X) (S := S) (W := W)) rfl hs
  rw [Md.join_pu', Bool.or_false] at h
  exact h
theorem x_len (q : Cq X S) (ha : XE X S W e m1 e1 ea) (hx : Gl X "len" := by rfl) (hs : starEach (e :: []) X.env = (false, eval e X.env) :: starEach [] X.env := by rfl) (hpl : (backTo pos (starEach [] X.env)).any (·.1) = false := by rfl) : XE X S W (.Call (.Name "len" p) [e] [] pos) .pu e1 (eA1 dLen ea) :=
  xe_callB call_len (opn_len q.K) (xa_one ha hs) hx (q.fb _ (by decide)) boot_len (by decide) (by decide) hs hpl
theorem x_sum (q : Cq X S) (ha : XE X S W e m1 e1 ea) (hx : Gl X "sum" := by rfl) (hs : starEach (e :: []) X.env = (false, eval e X.env) :: starEach [] X.env := by rfl) (hpl : (backTo pos (starEach [] X.env)).any (·.1) = false := by rfl) : XE X S W (.Call (.Name "sum" p) [e] [] pos) .pu e1 (eA1 dSum ea) :=
  xe_callB (cr_sumA q.calm) (opn_sum q.K) (xa_one ha hs) hx (q.fb _ (by decide)) (by decide +kernel) (by decide) (by decide) hs hpl
theorem x_all (q : Cq X S) (ha : XE X S W e m1 e1 ea) (hx : Gl X "all" := by rfl) (hs : starEach (e :: []) X.env = (false, eval e X.env) :: starEach [] X.env := by rfl) (hpl : (backTo pos (starEach [] X.env)).any (·.1) = false := by rfl) : XE X S W (.Call (.Name "all" p) [e] [] pos) .pu e1 (eA1 dAll ea) :=
  xe_callB (cr_all q.calm) (opn_all q.K) (xa_one ha hs) hx (q.fb _ (by decide)) (by decide +kernel) (by decide) (by decide) hs hpl
theorem x_any (q : Cq X S) (ha : XE X S W e m1 e1 ea) (hx : Gl X "any" := by rfl) (hs : starEach (e :: []) X.env = (false, eval e X.env) :: starEach [] X.env := by rfl) (hpl : (backTo pos (starEach [] X.env)).any (·.1) = false := by rfl) : XE X S W (.Call (.Name "any" p) [e] [] pos) .pu e1 (eA1 dAny ea) :=
  xe_callB (cr_any q.calm) (opn_any q.K) (xa_one ha hs) hx (q.fb _ (by decide)) (by decide +kernel) (by decide) (by decide) hs hpl
theorem x_int (q : Cq X S) (ha : XE X S W e m1 e1 ea) (hx : Gl X "int" := by rfl) (hs : starEach (e :: []) X.env = (false, eval e X.env) :: starEach [] X.env := by rfl) (hpl : (backTo pos (starEach [] X.env)).any (·.1) = false := by rfl) : XE X S W (.Call (.Name "int" p) [e] [] pos) .pu e1 (eA1 dInt ea) :=
  xe_callTy call_int1 opn_int (xa_one ha hs) hx (q.fb _ (by decide)) boot_int (by decide) (by decide) hs hpl
theorem x_list (q : Cq X S) (ha : XE X S W e m1 e1 ea) (hx : Gl X "list" := by rfl) (hs : starEach (e :: []) X.env = (false, eval e X.env) :: starEach [] X.env := by rfl) (hpl : (backTo pos (starEach [] X.env)).any (·.1) = false := by rfl) : XE X S W (.Call (.Name "list" p) [e] [] pos) .fr e1 (eA1 dList ea) :=
  xe_callTy call_list_of (opn_list q.K) (xa_one ha hs) hx (q.fb _ (by decide)) boot_list (by decide) (by decide) hs hpl
theorem x_tuple (q : Cq X S) (ha : XE X S W e m1 e1 ea) (hx : Gl X "tuple" := by rfl) (hs : starEach (e :: []) X.env = (false, eval e X.env) :: starEach [] X.env := by rfl) (hpl : (backTo pos (starEach [] X.env)).any (·.1) = false := by rfl) : XE X S W (.Call (.Name "tuple" p) [e] [] pos) .pu e1 (eA1 dTuple ea) :=
  xe_callTy call_tuple_of (opn_tuple q.K) (xa_one ha hs) hx (q.fb _ (by decide)) boot_tuple (by decide) (by decide) hs hpl
theorem x_isi (q : Cq X S) (tn : Str) {p2 : Pos} (T : String) (ha : XE X S W e m1 e1 ea) (hb : tn ∈ bltL := by decide) (hvt : bootBuiltins tn = some (.type T) := by decide +kernel) (hT : tyOkN T = true := by decide) (hn2 : tn ≠ "__name__" := by decide) (hdb2 : (tn == ("__debug__" : Str)) = false := by decide) (hx : Gl X "isinstance" := by rfl) (ht : Gl X tn := by rfl)
    (he : starEach [e, .Name tn p2] X.env = (false, eval e X.env) :: starEach [.Name tn p2] X.env := by rfl) (he2 : starEach [.Name tn p2] X.env = (false, eval (.Name tn p2) X.env) :: starEach [] X.env := by rfl) (hpl : (backTo pos (starEach [.Name tn p2] X.env)).any (·.1) = false := by rfl) :
    XE X S W (.Call (.Name "isinstance" p) [e, .Name tn p2] [] pos) .pu e1 (eUn (dIsi T) ea) :=
  xe_isi q.K ha hx (q.fb _ (by decide)) boot_isinstance ht (q.fb _ hb) hvt hT (by decide) (by decide) hn2 hdb2 he he2 hpl
theorem x_sl (q : Cq X S) {lo hi : Option Expr} {p2 : Pos} {el eh : M (Option Int)} (ha : XE X S W a m1 e1 ea) (hl : XO X S W lo el) (hh : XO X S W hi eh) : XE X S W (.Subscript a (.Slice lo hi none p2) pos) .fr e1 (eSl ea el eh) := xe_sl q.K ha hl hh
theorem t_tru (q : Cq X S) (ha : XE X S W a m e1 ea) (he : ∀ whole, isTrue a X.env whole = (do let v ← whole; standAt a.pos; holding [v] (truthy v)) := by intro _; rfl) : XT X S W a e1 (ebT ea) := xt_truth q.K ha he
theorem x_app (q : Cq X S) (s : Nat) {x : Str} {p apos : Pos} (ha : XE X S W e m1 e1 ea) (z : m1.le .fr = true := by rfl) (hk : hasS S s = true := by rfl) (hN : X.N[s]? = some x := by rfl) (hv : Vis X.env.scope x := by first | exact Or.inl rfl | exact Or.inr (Or.inl rfl) | exact Or.inr (Or.inr rfl)) (hd : (x == ("__debug__" : Str)) = false := by decide) (hcd : (x == ("__classdict__" : Str)) = false := by decide)
    (hbase : attributeBase (.Name x p) "append" X.env (eval (.Name x p) X.env) = eval (.Name x p) X.env := by rfl)
    (hfew : ((backTo pos (starEach (e :: []) X.env)).all (fun x => !x.1) && (backToKw pos (keywordEach [] X.env)).all (fun x => x.1.isSome) && decide ((e :: []).length + ([] : List Keyword).length + (if ([] : List Keyword).isEmpty then 0 else 1) < 30)) = true := by rfl)
    (hline : (apos.endLine == pos.line) = true := by rfl) (hs : starEach (e :: []) X.env = (false, eval e X.env) :: starEach [] X.env := by rfl) (hplain : (backTo pos (starEach [] X.env)).any (·.1) = false := by rfl) :
    XE X S W (.Call (.Attribute (.Name x p) "append" apos) [e] [] pos) .fr true (eMt "list" s dApp (eaCons ea eaNil)) :=
  xe_mt s PySem.F.plainAttrs_list PySem.F.slot_list_append PySem.F.type_list_append mt_append opu_app (xa_one ha hs) z hk hN hv hd hcd hbase hfew hline hs hplain
theorem x_ext (q : Cq X S) (s : Nat) {x : Str} {p apos : Pos} (ha : XE X S W e m1 e1 ea) (hk : hasS S s = true := by rfl) (hN : X.N[s]? = some x := by rfl) (hv : Vis X.env.scope x := by first | exact Or.inl rfl | exact Or.inr (Or.inl rfl) | exact Or.inr (Or.inr rfl)) (hd : (x == ("__debug__" : Str)) = false := by decide) (hcd : (x == ("__classdict__" : Str)) = false := by decide)
    (hbase : attributeBase (.Name x p) "extend" X.env (eval (.Name x p) X.env) = eval (.Name x p) X.env := by rfl)
    (hfew : ((backTo pos (starEach (e :: []) X.env)).all (fun x => !x.1) && (backToKw pos (keywordEach [] X.env)).all (fun x => x.1.isSome) && decide ((e :: []).length + ([] : List Keyword).length + (if ([] : List Keyword).isEmpty then 0 else 1) < 30)) = true := by rfl)
    (hline : (apos.endLine == pos.line) = true := by rfl) (hs : starEach (e :: []) X.env = (false, eval e X.env) :: starEach [] X.env := by rfl) (hplain : (backTo pos (starEach [] X.env)).any (·.1) = false := by rfl) :
    XE X S W (.Call (.Attribute (.Name x p) "extend" apos) [e] [] pos) .fr true (eMt "list" s dExt (eaCons ea eaNil)) :=
  xe_mt s PySem.F.plainAttrs_list PySem.F.slot_list_extend PySem.F.type_list_extend mt_extend opu_ext (xa_one ha hs) rfl hk hN hv hd hcd hbase hfew hline hs hplain
theorem gl_nil : ∀ ds ρ ρ', gsNil ds ρ = some ρ' → ds.length = 0 := fun ds ρ ρ' h => by
  cases ds with
  | nil => rfl
  | cons => cases h
theorem gl_cons {g : D → Env → Option Env} {b : List D → Env → Option Env} {n : Nat} (hb : ∀ ds ρ ρ', b ds ρ = some ρ' → ds.length = n) : ∀ ds ρ ρ', gsCons g b ds ρ = some ρ' → ds.length = n + 1 := fun ds ρ ρ' h => by
  cases ds with
  | nil => cases h
  | cons d ds =>
    unfold gsCons at h
    simp only at h
    cases q : g d ρ with
    | none => rw [q] at h; cases h
    | some ρ1 => rw [q] at h; simp [hb ds ρ1 ρ' h]
/-- a if c else b, as a test -/
theorem pt_ifE {c : Expr} {tc ta tb : TT} (hc : PT X c tc) (ha : PT X a ta) (hb : PT X b tb) : PT X (.IfExp c a b pos) (fun σ H Q => tc σ H fun k H1 => if k = true then ta σ H1 Q else tb σ H1 Q) := by
  refine ⟨fun pins s σ H Q I h => isTrue_IfExp (thn (hc.run pins s σ H _ I h) fun k s1 ⟨H1, I1, q1⟩ => ?_)⟩
  cases k with
  | true => exact ha.run pins s1 σ H1 Q I1 q1
  | false => exact hb.run pins s1 σ H1 Q I1 q1
def ebIf (c a b : M Bool) : M Bool := fun ρ => bindR (c ρ) fun k ρ => if k then a ρ else b ρ
theorem xt_if {c : Expr} {ec ea eb : M Bool} {e3 : Bool} (hc : XT X S W c e3 ec) (ha : XT X S W a e1 ea) (hb : XT X S W b e2 eb) : XT X S W (.IfExp c a b pos) (e3 || (e1 || e2)) (ebIf ec ea eb) := by
  obtain ⟨tc, pc, rc⟩ := hc.ex
  obtain ⟨ta, pa, ra⟩ := ha.ex
  obtain ⟨tb, pb, rb⟩ := hb.ex
  refine ⟨_, pt_ifE pc pa pb, fun B ρ σ Fs H Q I h => rc B ρ σ Fs H _ I (h.bind.imp fun k ρ1 _ h1 H1 Fs1 I1 s1 => ?_)⟩
  cases k with
  | true => exact iteT (ra B ρ1 σ Fs1 H1 _ I1 (h1.imp fun b ρ2 _ h2 H2 Fs2 I2 s2 => h2 H2 Fs2 I2 ((s1.trans s2).weak fun z => by simp at z; simp [z])))
  | false => exact iteF (rb B ρ1 σ Fs1 H1 _ I1 (h1.imp fun b ρ2 _ h2 H2 Fs2 I2 s2 => h2 H2 Fs2 I2 ((s1.trans s2).weak fun z => by simp at z; simp [z])))
/-! ### a def of the text, its promise -/
/-- the global x is a def that keeps spD of F -/
structure FnG (P : Program) (w : World) (K : PySem.W.Frag) (mg : Str → Option Value) (base : Heap) (C : Core) (k : Nat) (x : Str) (n : Nat) (io : Option Nat) (rm : Md) (F : List D → Fr) : Prop where
  ex : ∃ f fd ps, FnOk P w K mg base (L2.CX P w) k f fd ps (spD C n io rm F) ∧ mg x = some (.ref f) ∧ PySem.W.keepIn K (.ref f) = true ∧ Binds K fd ps [] ∧ ps.length = n
section
variable {P : Program} {w : World} {K : PySem.W.Frag} {mg : Str → Option Value} {base : Heap} {C : Core} {k n : Nat} {x : Str} {io : Option Nat} {rm : Md} {F G : List D → Fr}
theorem FnG.imp (g : FnG P w K mg base C k x n io rm F) (h : ∀ ds, ds.length = n → G ds ≠ .st → F ds = G ds) : FnG P w K mg base C k x n io rm G := by
  obtain ⟨f, fd, ps, g1, g2⟩ := g.ex
  exact ⟨f, fd, ps, g1.imp fun vs H Q E q => q.imp h, g2⟩
theorem FnG.mono {j : Nat} (g : FnG P w K mg base C k x n io rm F) (h : k ≤ j) : FnG P w K mg base C j x n io rm F := by
  obtain ⟨f, fd, ps, g1, g2⟩ := g.ex
  exact ⟨f, fd, ps, g1.mono h, g2⟩
end
theorem x_call {x : Str} {n k : Nat} {rm : Md} {F : List D → Fr} (tk : Takes X W) (G : FnG X.prog X.w X.K X.mg X.base S.c k x n none rm F) (hr : Room k X.A) (ha : XA X S W (e :: es) m1 e1 eas) (hg : Gl X x := by rfl) (hrm : rm.fn = true := by rfl) (hne : (e :: es).length = n := by rfl) (hdb : (x == ("__debug__" : Str)) = false := by decide) (he : starEach (e :: es) X.env = (false, eval e X.env) :: starEach es X.env := by rfl)
    (hpl : (backTo pos (starEach es X.env)).any (·.1) = false := by rfl) : XE X S W (.Call (.Name x p) (e :: es) [] pos) rm e1 (eCall F eas) := by
  obtain ⟨f, fd, ps, g1, g2, g3, g4, g5⟩ := G.ex
  exact xe_call tk g1 hr hg g2 g3 g4 g5 ha hrm hne hdb he hpl
theorem x_callI {x : Str} {n k io s : Nat} {rm : Md} {F : List D → Fr} (tk : Takes X W) (G : FnG X.prog X.w X.K X.mg X.base S.c k x n (some io) rm F) (hr : Room k X.A) (ha : XI X S W (e :: es) e1 io s eas) (hg : Gl X x := by rfl) (hrm : rm.fn = true := by rfl) (hne : (e :: es).length = n := by rfl) (hdb : (x == ("__debug__" : Str)) = false := by decide) (he : starEach (e :: es) X.env = (false, eval e X.env) :: starEach es X.env := by rfl)
    (hpl : (backTo pos (starEach es X.env)).any (·.1) = false := by rfl) : XE X S W (.Call (.Name x p) (e :: es) [] pos) rm true (eCallI F s eas) := by
  obtain ⟨f, fd, ps, g1, g2, g3, g4, g5⟩ := G.ex
  exact xe_callI tk g1 hr hg g2 g3 g4 ha hrm hne hdb he hpl
end
section
variable {P : Program} {w : World} {K : PySem.W.Frag} {mg : Str → Option Value} {base : Heap} {C : Core}
/-- what stands of the module's names -/
structure Gz (mg : Str → Option Value) (C : Core) (K : PySem.W.Frag) : Prop where
  cK : C.K = K
  fb : ∀ x ∈ bltL, mg x = none
theorem cq_of {CX : CXT} {N : List Str} {qual : Str} {scope : Scope} {f : Addr} {cdv : Value} {A : Around} {outer : List PySem.Env} {s : Shared} {H : Hp} {E : XK} {k : Nat} {ks : List Kd} (Z : Gz mg C K) (nd : N.Nodup) (hr : Room k (A.deeper (envOfC qual scope s.heap.objs.size f cdv))) :
    Cq (cxOf CX P w K mg base N qual scope f cdv A outer s H E) (sg C ks) :=
  ⟨Z.cK.symm, rfl, (by have h := hr.un; show (A.deeper (envOfC qual scope s.heap.objs.size f cdv)).units + 200 < cLine; omega), Z.fb, nd⟩
end
end EL

/-! what a reading gives: single steps in plain Lean -/
namespace EL
open PySem PySem.Spec
open L2 hiding XE
theorem runF_ok {n N : Nat} {pls : List Nat} {io : Option Nat} {ev : Ms} {ds : List D} (h : plOk pls ds = true) : runF n N pls io ev ds = endOf io (ev (ds.map some ++ List.replicate (N - n) none)) := by unfold runF; rw [if_pos h]
section
variable {α β : Type} {a b : M D} {x y d d' : D} {ρ ρ1 ρ2 ρ3 : Env} {ds es : List D} {as bs : M (List D)} {g : D → D → Option D}
theorem p_bin (ha : a ρ = .ok x ρ1) (hb : b ρ1 = .ok y ρ2) (hg : g x y = some d) : eBin g a b ρ = .ok d ρ2 := by unfold eBin; rw [ha]; show bindR (b ρ1) _ = _; rw [hb]; show lift (g x y) ρ2 = _; rw [hg]; rfl
theorem p_un {g : D → Option D} (ha : a ρ = .ok x ρ1) (hg : g x = some d) : eUn g a ρ = .ok d ρ1 := by unfold eUn; rw [ha]; show lift (g x) ρ1 = _; rw [hg]; rfl
theorem p_a1 {g : List D → Option D} (ha : a ρ = .ok x ρ1) (hg : g [x] = some d) : eA1 g a ρ = .ok d ρ1 := by unfold eA1 eN eaCons; rw [ha]; show lift (g [x]) ρ1 = _; rw [hg]; rfl
theorem p_nil : eaNil ρ = .ok [] ρ := rfl
theorem p_cons (ha : a ρ = .ok x ρ1) (hb : bs ρ1 = .ok ds ρ2) : eaCons a bs ρ = .ok (x :: ds) ρ2 := by unfold eaCons; rw [ha]; show bindR (bs ρ1) _ = _; rw [hb]; rfl
theorem p_tup (ha : as ρ = .ok ds ρ1) (hp : pureDs ds = true) (hl : ds.length ≤ sizeLine) : eTup as ρ = .ok (.tup ds) ρ1 := by unfold eTup; rw [ha]; show (if _ then _ else _) = _; rw [if_pos (by simp [hp, hl])]
theorem p_lst (ha : as ρ = .ok ds ρ1) (hp : pureDs ds = true) (hl : ds.length ≤ sizeLine) : eLst as ρ = .ok (.lst ds) ρ1 := by unfold eLst; rw [ha]; show (if _ then _ else _) = _; rw [if_pos (by simp [hp, hl])]
theorem p_pure (ha : a ρ = .ok x ρ1) (hp : pureD x = true) : ePure a ρ = .ok x ρ1 := by unfold ePure; rw [ha]; show (if _ then _ else _) = _; rw [if_pos hp]
theorem p_call {F : List D → Fr} (ha : as ρ = .ok ds ρ1) (hf : F ds = .ok d d') : eCall F as ρ = .ok d ρ1 := by unfold eCall; rw [ha]; show (match F ds with | .ok d _ => _ | .er c fs _ => _ | .st => _) = _; rw [hf]
theorem p_callI {F : List D → Fr} {s : Nat} (ha : as ρ = .ok ds ρ1) (hf : F ds = .ok d d') (e : ρ1.set s (some d') = ρ2) : eCallI F s as ρ = .ok d ρ2 := by unfold eCallI; rw [ha]; show (match F ds with | .ok d o => _ | .er c fs o => _ | .st => _) = _; rw [hf, ← e]
theorem p_here {s : Nat} (e0 : ρ[s]? = some (some x)) (hb : bs ρ = .ok ds ρ1) (e1 : ρ1[s]? = some (some y)) : eiHere s bs ρ = .ok (y :: ds) ρ1 := by
  unfold eiHere
  rw [e0]
  show bindR (bs ρ) _ = _
  rw [hb]
  show (match ρ1[s]? with | some (some d) => _ | _ => _) = _
  rw [e1]
theorem p_next (ha : a ρ = .ok x ρ1) (hb : bs ρ1 = .ok ds ρ2) : eiNext a bs ρ = .ok (x :: ds) ρ2 := p_cons ha hb
theorem p_and {p q : Bool} (ha : a ρ = .ok (.bl p) ρ1) (hb : b ρ1 = .ok (.bl q) ρ1) : eAndV a b ρ = .ok (.bl (p && q)) ρ1 := by
  unfold eAndV
  rw [ha]
  cases p with
  | true => exact hb
  | false => rfl
theorem p_andT {p q : Bool} (ha : a ρ = .ok (.bl p) ρ1) (hb : p = true → b ρ1 = .ok (.bl q) ρ1) : eAndV a b ρ = .ok (.bl (p && q)) ρ1 := by
  unfold eAndV
  rw [ha]
  cases p with
  | true => exact hb rfl
  | false => rfl
theorem p_or {p q : Bool} (ha : a ρ = .ok (.bl p) ρ1) (hb : p = false → b ρ1 = .ok (.bl q) ρ1) : eOrV a b ρ = .ok (.bl (p || q)) ρ1 := by
  unfold eOrV
  rw [ha]
  cases p with
  | true => rfl
  | false => exact hb rfl
theorem p_not {p : Bool} (ha : a ρ = .ok (.bl p) ρ1) : eNotV a ρ = .ok (.bl (!p)) ρ1 := by unfold eNotV; rw [ha]; rfl
theorem p_if {c : M Bool} {k : Bool} (hc : c ρ = .ok k ρ1) (h : (if k then a ρ1 else b ρ1) = .ok d ρ2) : eIf c a b ρ = .ok d ρ2 := by unfold eIf; rw [hc]; exact h
theorem b_v {k : Bool} (ha : a ρ = .ok (.bl k) ρ1) : ebV a ρ = .ok k ρ1 := by unfold ebV; rw [ha]; rfl
theorem b_t {k : Bool} (ha : a ρ = .ok d ρ1) (h : truD d = some k) : ebT a ρ = .ok k ρ1 := by unfold ebT; rw [ha]; show (match truD d with | some b => _ | none => _) = _; rw [h]
theorem b_and {ca cb : M Bool} {p q : Bool} (ha : ca ρ = .ok p ρ1) (hb : p = true → cb ρ1 = .ok q ρ1) : ebAnd ca cb ρ = .ok (p && q) ρ1 := by
  unfold ebAnd
  rw [ha]
  cases p with
  | true => exact hb rfl
  | false => rfl
theorem b_or {ca cb : M Bool} {p q : Bool} (ha : ca ρ = .ok p ρ1) (hb : p = false → cb ρ1 = .ok q ρ1) : ebOr ca cb ρ = .ok (p || q) ρ1 := by
  unfold ebOr
  rw [ha]
  cases p with
  | true => rfl
  | false => exact hb rfl
theorem b_not {ca : M Bool} {p : Bool} (ha : ca ρ = .ok p ρ1) : ebNot ca ρ = .ok (!p) ρ1 := by unfold ebNot; rw [ha]; rfl
/-! statements -/
variable {s t : Ms} {r : So} {c : M Bool} {k : Bool}
theorem q_seq (h : s ρ = .nx ρ1) (h2 : t ρ1 = r) : sSeq s t ρ = r := by unfold sSeq; rw [h]; exact h2
theorem q_seqR (h : s ρ = .ret d ρ1) : sSeq s t ρ = .ret d ρ1 := by unfold sSeq; rw [h]
theorem q_if (h : c ρ = .ok k ρ1) (h2 : (if k then s ρ1 else t ρ1) = r) : sIf c s t ρ = r := by unfold sIf; rw [h]; exact h2
theorem q_ifF {u v : Ms} (h : c ρ = .ok false ρ1) (h2 : u ρ1 = r) : sSeq (sIf c s sNil) u ρ = r := q_seq (q_if h rfl) h2
theorem q_ifT {u v : Ms} (h : c ρ = .ok true ρ1) (h2 : s ρ1 = .ret d ρ2) : sSeq (sIf c s v) u ρ = .ret d ρ2 := q_seqR (q_if h h2)
theorem q_ret (h : a ρ = .ok d ρ1) : sRet a ρ = .ret d ρ1 := by unfold sRet; rw [h]; rfl
theorem q_set {i : Nat} (h : a ρ = .ok d ρ1) (e : ρ1.set i (some d) = ρ2) : sSet i a ρ = .nx ρ2 := by unfold sSet; rw [h, ← e]; rfl
theorem q_drop (h : a ρ = .ok d ρ1) : sDrop a ρ = .nx ρ1 := by unfold sDrop; rw [h]; rfl
theorem q_put {s : Nat} {ek : M D} {k o : D} (h : a ρ = .ok y ρ1) (e0 : ρ1[s]? = some (some x)) (hk : ek ρ1 = .ok k ρ2) (hp : dPut x k y = some o) (e : ρ2.set s (some o) = ρ3) : sPut s ek a ρ = .nx ρ3 := by
  unfold sPut
  rw [h]
  show (match ρ1[s]? with | some (some d0) => _ | _ => _) = _
  rw [e0]
  show bindS (ek ρ1) _ = _
  rw [hk]
  show liftS (dPut x k y) _ = _
  rw [hp, ← e]; rfl
theorem q_par {i j : Nat} (h : a ρ = .ok x ρ1) (h2 : b ρ1 = .ok y ρ2) (e : (ρ2.set i (some x)).set j (some y) = ρ3) : sPar i j a b ρ = .nx ρ3 := by
  unfold sPar; rw [h]; show bindS (b ρ1) _ = _; rw [h2, ← e]; rfl
theorem q_unpT {bd : List D → Env → Option Env} (h : a ρ = .ok (.tup ds) ρ1) (hp : pureDs ds = true) (hb : bd ds ρ1 = some ρ2) : sUnp bd a ρ = .nx ρ2 := by
  unfold sUnp; rw [h]; show (if _ then _ else _) = _; rw [if_pos hp, hb]
theorem q_unpL {bd : List D → Env → Option Env} (h : a ρ = .ok (.lst ds) ρ1) (hp : pureDs ds = true) (hb : bd ds ρ1 = some ρ2) : sUnp bd a ρ = .nx ρ2 := by
  unfold sUnp; rw [h]; show (if _ then _ else _) = _; rw [if_pos hp, hb]
/-! sources, loops -/
theorem i_tup (h : a ρ = .ok (.tup ds) ρ1) (hp : pureDs ds = true) : itSeq a ρ = .ok ds ρ1 := by unfold itSeq; rw [h]; show (match itemsD (.tup ds) with | some ds => _ | none => _) = _; rw [show itemsD (.tup ds) = some ds from if_pos hp]
theorem i_lst (h : a ρ = .ok (.lst ds) ρ1) (hp : pureDs ds = true) : itSeq a ρ = .ok ds ρ1 := by unfold itSeq; rw [h]; show (match itemsD (.lst ds) with | some ds => _ | none => _) = _; rw [show itemsD (.lst ds) = some ds from if_pos hp]
theorem i_scr (h : a ρ = .ok (.scr ds) ρ1) (hp : pureDs ds = true) : itSeq a ρ = .ok ds ρ1 := by unfold itSeq; rw [h]; show (match itemsD (.scr ds) with | some ds => _ | none => _) = _; rw [show itemsD (.scr ds) = some ds from if_pos hp]
theorem i_enumT (h : a ρ = .ok (.tup ds) ρ1) (hp : pureDs ds = true) : itEnum a ρ = .ok (enumD ds) ρ1 := by unfold itEnum; rw [h]; show (if _ then _ else _) = _; rw [if_pos hp]
theorem i_r1 {j : Int} (h : as ρ = .ok [.int j] ρ1) (h1 : -(2 ^ 62) ≤ j) (h2 : j.toNat ≤ sizeLine) : itR1 as ρ = .ok (rangeD 0 j.toNat) ρ1 := by
  unfold itR1; rw [h]; show (if _ then _ else _) = _; rw [if_pos]
  rw [sizeLine_eq] at h2 ⊢
  simp [okR]; omega
theorem l_comp {vs : List Nat} {it : M (List D)} {bd : D → Env → Option Env} {tt : M Bool} {ee : M D} (h : it ρ = .ok ds ρ1) (hl : lcLoop vs bd tt ee ds (wipeE ρ1 vs) = .ok es ρ2) (e : backE ρ1 ρ2 vs = ρ3) : eLc vs it bd tt ee ρ = .ok (.lst es) ρ3 := by
  unfold eLc; rw [h]; show (match lcLoop vs bd tt ee ds (wipeE ρ1 vs) with | .ok ys ρ2 => _ | _ => _) = _; rw [hl, ← e]
/-- a comprehension that changes nothing -/
theorem lc_pure {vs : List Nat} {bd : D → Env → Option Env} {tt : M Bool} {ee : M D} {p : D → Bool} {f : D → D} {ds : List D} : (∀ d ∈ ds, ∃ ρd, bd d ρ = some ρd ∧ tt ρd = .ok (p d) ρd ∧ (p d = true → ee ρd = .ok (f d) ρd ∧ pureD (f d) = true) ∧ wipeE ρd vs = ρ) → lcLoop vs bd tt ee ds ρ = .ok ((ds.filter p).map f) ρ := by
  induction ds with
  | nil => intro _; rfl
  | cons d ds ih =>
    intro h
    obtain ⟨ρd, h1, h2, h3, h4⟩ := h d (by simp)
    have ih := ih fun d' m => h d' (by simp [m])
    unfold lcLoop
    rw [h1]
    simp only
    rw [h2]
    cases hp : p d with
    | false =>
      simp only
      rw [h4, ih, List.filter_cons_of_neg (by simp [hp])]
    | true =>
      simp only
      obtain ⟨h5, h6⟩ := h3 hp
      rw [h5]
      simp only
      rw [if_pos h6, h4, ih, List.filter_cons_of_pos (by simp [hp])]
      rfl
/-- a comprehension that changes slots, I its invariant, T what holds of each value -/
theorem lc_inv {vs : List Nat} {bd : D → Env → Option Env} {tt : M Bool} {ee : M D} {I : Env → Prop} {T : D → Prop} {ds : List D} : (∀ d ∈ ds, ∀ ρ, I ρ → ∃ ρd k ρt, bd d ρ = some ρd ∧ tt ρd = .ok k ρt ∧ (k = false → I (wipeE ρt vs)) ∧ (k = true → ∃ y ρe, ee ρt = .ok y ρe ∧ pureD y = true ∧ T y ∧ I (wipeE ρe vs))) →
    ∀ {ρ : Env}, I ρ → ∃ ys ρ', lcLoop vs bd tt ee ds ρ = .ok ys ρ' ∧ ys.length ≤ ds.length ∧ (∀ y ∈ ys, T y) ∧ I ρ' := by
  induction ds with
  | nil => intro _ ρ hi; exact ⟨[], ρ, rfl, Nat.le_refl _, by simp, hi⟩
  | cons d ds ih =>
    intro h ρ hi
    obtain ⟨ρd, k, ρt, h1, h2, h3, h4⟩ := h d (by simp) ρ hi
    have ih := fun {ρ} (hi : I ρ) => ih (fun d' m => h d' (by simp [m])) (ρ := ρ) hi
    unfold lcLoop
    rw [h1]
    simp only
    rw [h2]
    cases k with
    | false =>
      obtain ⟨ys, ρ', g1, g2, g3, g4⟩ := ih (h3 rfl)
      exact ⟨ys, ρ', g1, by simp; omega, g3, g4⟩
    | true =>
      obtain ⟨y, ρe, g1, g2, g3, g4⟩ := h4 rfl
      obtain ⟨ys, ρ', k1, k2, k3, k4⟩ := ih g4
      simp only
      rw [g1]
      simp only
      rw [if_pos g2, k1]
      exact ⟨y :: ys, ρ', rfl, by simp; omega, by simpa using ⟨g3, k3⟩, k4⟩
/-- .. where every item gives a value -/
theorem lc_all {vs : List Nat} {bd : D → Env → Option Env} {ee : M D} {I : Env → Prop} {T : D → Prop} {ds : List D} : (∀ d ∈ ds, ∀ ρ, I ρ → ∃ ρd, bd d ρ = some ρd ∧ ∃ y ρe, ee ρd = .ok y ρe ∧ pureD y = true ∧ T y ∧ I (wipeE ρe vs)) →
    ∀ {ρ : Env}, I ρ → ∃ ys ρ', lcLoop vs bd ebYes ee ds ρ = .ok ys ρ' ∧ ys.length = ds.length ∧ (∀ y ∈ ys, T y) ∧ I ρ' := by
  induction ds with
  | nil => intro _ ρ hi; exact ⟨[], ρ, rfl, rfl, by simp, hi⟩
  | cons d ds ih =>
    intro h ρ hi
    obtain ⟨ρd, h1, y, ρe, g1, g2, g3, g4⟩ := h d (by simp) ρ hi
    obtain ⟨ys, ρ', k1, k2, k3, k4⟩ := ih (fun d' m => h d' (by simp [m])) g4
    unfold lcLoop
    rw [h1]
    simp only [ebYes]
    rw [g1]
    simp only
    rw [if_pos g2, k1]
    exact ⟨y :: ys, ρ', rfl, by simp [k2], by simpa using ⟨g3, k3⟩, k4⟩
/-- a loop whose body goes on, I its invariant by place -/
theorem l_for {it : M (List D)} {bd : D → Env → Option Env} {body : Ms} {I : Env → Prop} {ds : List D} (h : it ρ = .ok ds ρ1) (h0 : I ρ1) (hs : ∀ d ∈ ds, ∀ ρ, I ρ → ∃ ρd ρe, bd d ρ = some ρd ∧ (body ρd = .nx ρe ∨ body ρd = .ct ρe) ∧ I ρe) : ∃ ρ2, sFor [] it bd body ρ = .nx ρ2 ∧ I ρ2 := by
  unfold sFor
  rw [h]
  show ∃ ρ2, wipeSo [] (loopS bd body ds ρ1) = .nx ρ2 ∧ I ρ2
  rw [wipeSo_nil]
  clear h
  induction ds generalizing ρ1 with
  | nil => exact ⟨ρ1, rfl, h0⟩
  | cons d ds ih =>
    obtain ⟨ρd, ρe, g1, g2, g3⟩ := hs d (by simp) ρ1 h0
    obtain ⟨ρ2, k1, k2⟩ := ih g3 fun d' m => hs d' (by simp [m])
    refine ⟨ρ2, ?_, k2⟩
    unfold loopS
    rw [g1]
    simp only
    rcases g2 with g2 | g2 <;> rw [g2] <;> exact k1
end
theorem pureDs_mem : ∀ {ds : List D}, (∀ d ∈ ds, pureD d = true) → pureDs ds = true
  | [], _ => rfl
  | d :: ds, h => by
    have h1 := h d (by simp)
    have h2 : pureDs ds = true := pureDs_mem fun d' m => h d' (List.mem_cons_of_mem _ m)
    simp [pureDs, h1, h2]
theorem pureDs_map {α : Type} {f : α → D} {xs : List α} (h : ∀ x, pureD (f x) = true) : pureDs (xs.map f) = true := pureDs_mem fun d m => by
  obtain ⟨x, _, rfl⟩ := List.mem_map.mp m
  exact h x
theorem blsD_map : ∀ bs : List Bool, blsD (bs.map D.bl) = some bs
  | [] => rfl
  | b :: bs => by simp [blsD, blsD_map bs]
theorem intsD_map : ∀ ns : List Int, intsD (ns.map D.int) = some ns
  | [] => rfl
  | n :: ns => by simp [intsD, intsD_map ns]
theorem dEq_int (i j : Int) : dEq (.int i) (.int j) = some (.bl (decide (i = j))) := rfl
theorem dEq_str {x y : Str} (hx : PyData.strOk x = true) (hy : PyData.strOk y = true) : dEq (.str x) (.str y) = some (.bl (x == y)) := by
  unfold dEq okD datD depD; rw [hx, hy]; rfl
theorem dEq_si {x : Str} (hx : PyData.strOk x = true) (j : Int) : dEq (.str x) (.int j) = some (.bl false) := by
  unfold dEq okD datD depD; rw [hx]; rfl
theorem dEq_is {x : Str} (hx : PyData.strOk x = true) (j : Int) : dEq (.int j) (.str x) = some (.bl false) := by
  unfold dEq okD datD depD; rw [hx]; rfl
theorem eqv_nil (ds : List D) : eqvD (.lst ds) (.lst []) = ds.isEmpty := by cases ds <;> rfl
/-! the same where the slots stay -/
section
variable {a b : M D} {x y d d' : D} {ρ : Env} {ds es : List D} {as bs : M (List D)} {g : D → D → Option D} {s t : Ms} {r : So} {c : M Bool} {k : Bool}
theorem p_bin0 (ha : a ρ = .ok x ρ) (hb : b ρ = .ok y ρ) (hg : g x y = some d) : eBin g a b ρ = .ok d ρ := p_bin ha hb hg
theorem p_un0 {g : D → Option D} (ha : a ρ = .ok x ρ) (hg : g x = some d) : eUn g a ρ = .ok d ρ := p_un ha hg
theorem p_a10 {g : List D → Option D} (ha : a ρ = .ok x ρ) (hg : g [x] = some d) : eA1 g a ρ = .ok d ρ := p_a1 ha hg
theorem p_cons0 (ha : a ρ = .ok x ρ) (hb : bs ρ = .ok ds ρ) : eaCons a bs ρ = .ok (x :: ds) ρ := p_cons ha hb
theorem p_tup0 (ha : as ρ = .ok ds ρ) (hp : pureDs ds = true) (hl : ds.length ≤ sizeLine) : eTup as ρ = .ok (.tup ds) ρ := p_tup ha hp hl
theorem p_lst0 (ha : as ρ = .ok ds ρ) (hp : pureDs ds = true) (hl : ds.length ≤ sizeLine) : eLst as ρ = .ok (.lst ds) ρ := p_lst ha hp hl
theorem p_pure0 (ha : a ρ = .ok x ρ) (hp : pureD x = true) : ePure a ρ = .ok x ρ := p_pure ha hp
theorem p_call0 {F : List D → Fr} (ha : as ρ = .ok ds ρ) (hf : F ds = .ok d d') : eCall F as ρ = .ok d ρ := p_call ha hf
theorem p_and0 {p q : Bool} (ha : a ρ = .ok (.bl p) ρ) (hb : b ρ = .ok (.bl q) ρ) : eAndV a b ρ = .ok (.bl (p && q)) ρ := p_and ha hb
theorem p_andT0 {p q : Bool} (ha : a ρ = .ok (.bl p) ρ) (hb : p = true → b ρ = .ok (.bl q) ρ) : eAndV a b ρ = .ok (.bl (p && q)) ρ := p_andT ha hb
theorem p_or0 {p q : Bool} (ha : a ρ = .ok (.bl p) ρ) (hb : p = false → b ρ = .ok (.bl q) ρ) : eOrV a b ρ = .ok (.bl (p || q)) ρ := p_or ha hb
theorem p_not0 {p : Bool} (ha : a ρ = .ok (.bl p) ρ) : eNotV a ρ = .ok (.bl (!p)) ρ := p_not ha
theorem b_v0 (ha : a ρ = .ok (.bl k) ρ) : ebV a ρ = .ok k ρ := b_v ha
theorem b_and0 {ca cb : M Bool} {p q : Bool} (ha : ca ρ = .ok p ρ) (hb : p = true → cb ρ = .ok q ρ) : ebAnd ca cb ρ = .ok (p && q) ρ := b_and ha hb
theorem b_or0 {ca cb : M Bool} {p q : Bool} (ha : ca ρ = .ok p ρ) (hb : p = false → cb ρ = .ok q ρ) : ebOr ca cb ρ = .ok (p || q) ρ := b_or ha hb
theorem b_not0 {ca : M Bool} {p : Bool} (ha : ca ρ = .ok p ρ) : ebNot ca ρ = .ok (!p) ρ := b_not ha
theorem q_if0 (h : c ρ = .ok k ρ) (h2 : (if k then s ρ else t ρ) = r) : sIf c s t ρ = r := q_if h h2
theorem q_ifF0 {u : Ms} (h : c ρ = .ok false ρ) (h2 : u ρ = r) : sSeq (sIf c s sNil) u ρ = r := q_ifF (v := sNil) h h2
theorem q_ifT0 {u v : Ms} (h : c ρ = .ok true ρ) (h2 : s ρ = .ret d ρ) : sSeq (sIf c s v) u ρ = .ret d ρ := q_ifT h h2
/-- if c: return d, as the law has it -/
theorem q_ifR {u : Ms} (h : c ρ = .ok k ρ) (h1 : k = true → s ρ = r) (hr : ∀ ρ', r ≠ .nx ρ') (h2 : k = false → u ρ = r) : sSeq (sIf c s sNil) u ρ = r := by
  cases k with
  | false => exact q_ifF0 h (h2 rfl)
  | true =>
    unfold sSeq
    rw [q_if0 (t := sNil) h (if_pos rfl), h1 rfl]
    cases r with
    | nx ρ' => exact absurd rfl (hr ρ')
    | _ => rfl
theorem q_ret0 (h : a ρ = .ok d ρ) : sRet a ρ = .ret d ρ := q_ret h
theorem q_set0 {i : Nat} (h : a ρ = .ok d ρ) : sSet i a ρ = .nx (ρ.set i (some d)) := q_set h rfl
theorem i_tup0 (h : a ρ = .ok (.tup ds) ρ) (hp : pureDs ds = true) : itSeq a ρ = .ok ds ρ := i_tup h hp
theorem i_lst0 (h : a ρ = .ok (.lst ds) ρ) (hp : pureDs ds = true) : itSeq a ρ = .ok ds ρ := i_lst h hp
/-- a comprehension that changes nothing -/
theorem l_pure {vs : List Nat} {it : M (List D)} {bd : D → Env → Option Env} {tt : M Bool} {ee : M D} {p : D → Bool} {f : D → D} (h : it ρ = .ok ds ρ) (hb : backE ρ (wipeE ρ vs) vs = ρ)
    (hs : ∀ d ∈ ds, ∃ ρd, bd d (wipeE ρ vs) = some ρd ∧ tt ρd = .ok (p d) ρd ∧ (p d = true → ee ρd = .ok (f d) ρd ∧ pureD (f d) = true) ∧ wipeE ρd vs = wipeE ρ vs) : eLc vs it bd tt ee ρ = .ok (.lst ((ds.filter p).map f)) ρ := l_comp h (lc_pure hs) hb
/-- .. of every item -/
theorem l_map {vs : List Nat} {it : M (List D)} {bd : D → Env → Option Env} {ee : M D} {f : D → D} (h : it ρ = .ok ds ρ) (hb : backE ρ (wipeE ρ vs) vs = ρ)
    (hs : ∀ d ∈ ds, ∃ ρd, bd d (wipeE ρ vs) = some ρd ∧ ee ρd = .ok (f d) ρd ∧ pureD (f d) = true ∧ wipeE ρd vs = wipeE ρ vs) : eLc vs it bd ebYes ee ρ = .ok (.lst (ds.map f)) ρ := by
  have := l_pure (tt := ebYes) (p := fun _ => true) (f := f) h hb (fun d m => let ⟨ρd, h1, h2, h3, h4⟩ := hs d m; ⟨ρd, h1, rfl, fun _ => ⟨h2, h3⟩, h4⟩)
  rw [List.filter_eq_self.mpr (fun _ _ => rfl)] at this
  exact this
/-- a comprehension over told items that changes nothing -/
theorem l_pureA {α : Type} {vs : List Nat} {it : M (List D)} {bd : D → Env → Option Env} {tt : M Bool} {ee : M D} {xs : List α} {e : α → D} {p : α → Bool} {f : α → D} (h : it ρ = .ok (xs.map e) ρ) (hb : backE ρ (wipeE ρ vs) vs = ρ)
    (hs : ∀ x ∈ xs, ∃ ρd, bd (e x) (wipeE ρ vs) = some ρd ∧ tt ρd = .ok (p x) ρd ∧ (p x = true → ee ρd = .ok (f x) ρd ∧ pureD (f x) = true) ∧ wipeE ρd vs = wipeE ρ vs) : eLc vs it bd tt ee ρ = .ok (.lst ((xs.filter p).map f)) ρ := by
  refine l_comp h ?_ hb
  clear h hb
  induction xs with
  | nil => rfl
  | cons x xs ih =>
    obtain ⟨ρd, h1, h2, h3, h4⟩ := hs x (by simp)
    have ih := ih fun y m => hs y (by simp [m])
    rw [List.map_cons]
    unfold lcLoop
    rw [h1]
    simp only
    rw [h2]
    cases hp : p x with
    | false =>
      simp only
      rw [h4, ih, List.filter_cons_of_neg (by simp [hp])]
    | true =>
      simp only
      obtain ⟨h5, h6⟩ := h3 hp
      rw [h5]
      simp only
      rw [if_pos h6, h4, ih, List.filter_cons_of_pos (by simp [hp])]
      rfl
theorem l_mapA {α : Type} {vs : List Nat} {it : M (List D)} {bd : D → Env → Option Env} {ee : M D} {xs : List α} {e f : α → D} (h : it ρ = .ok (xs.map e) ρ) (hb : backE ρ (wipeE ρ vs) vs = ρ)
    (hs : ∀ x ∈ xs, ∃ ρd, bd (e x) (wipeE ρ vs) = some ρd ∧ ee ρd = .ok (f x) ρd ∧ pureD (f x) = true ∧ wipeE ρd vs = wipeE ρ vs) : eLc vs it bd ebYes ee ρ = .ok (.lst (xs.map f)) ρ := by
  have := l_pureA (tt := ebYes) (p := fun _ => true) (f := f) h hb (fun d m => let ⟨ρd, h1, h2, h3, h4⟩ := hs d m; ⟨ρd, h1, rfl, fun _ => ⟨h2, h3⟩, h4⟩)
  rw [List.filter_eq_self.mpr (fun _ _ => rfl)] at this
  exact this
end
theorem any_ok {α : Type} {xs : List α} {g : α → Bool} : dAny [.lst (xs.map fun x => .bl (g x))] = some (.bl (xs.any g)) := by
  have e : (xs.map fun x => D.bl (g x)) = (xs.map g).map D.bl := by rw [List.map_map]; rfl
  show (blsD _).map _ = _
  rw [e, blsD_map]
  simp [List.any_map]
theorem all_ok {α : Type} {xs : List α} {g : α → Bool} : dAll [.lst (xs.map fun x => .bl (g x))] = some (.bl (xs.all g)) := by
  have e : (xs.map fun x => D.bl (g x)) = (xs.map g).map D.bl := by rw [List.map_map]; rfl
  show (blsD _).map _ = _
  rw [e, blsD_map]
  simp [List.all_map]
theorem sum_ok (ns : List Int) : dSum [.tup (ns.map D.int)] = some (.int ns.sum) := by show (intsD _).map _ = _; rw [intsD_map]; rfl
section
variable {it : M (List D)} {bd : D → Env → Option Env} {body : Ms} {ρ ρ1 ρ2 : Env} {d y : D}
theorem for_nil (h : it ρ = .ok [] ρ) : sFor [] it bd body ρ = .nx ρ := by unfold sFor; rw [h]; rfl
theorem for_oneR (h : it ρ = .ok [d] ρ) (hb : bd d ρ = some ρ1) (hr : body ρ1 = .ret y ρ2) : sFor [] it bd body ρ = .ret y ρ2 := by
  unfold sFor
  rw [h]
  show wipeSo [] (loopS bd body [d] ρ) = _
  rw [wipeSo_nil]
  unfold loopS
  rw [hb]
  show (match body ρ1 with | .nx ρ2 => _ | .ct ρ2 => _ | .bk ρ2 => _ | .ret d ρ2 => _ | .er c fs ρ2 => _ | .st => _) = _
  rw [hr]
theorem for_oneN (h : it ρ = .ok [d] ρ) (hb : bd d ρ = some ρ1) (hr : body ρ1 = .nx ρ2) : sFor [] it bd body ρ = .nx ρ2 := by
  unfold sFor
  rw [h]
  show wipeSo [] (loopS bd body [d] ρ) = _
  rw [wipeSo_nil]
  unfold loopS
  rw [hb]
  show (match body ρ1 with | .nx ρ2 => _ | .ct ρ2 => _ | .bk ρ2 => _ | .ret d ρ2 => _ | .er c fs ρ2 => _ | .st => _) = _
  rw [hr]; rfl
end
theorem mul_r {i j : Int} (h : small64' j = true) : dMul (.int i) (.int j) = some (.int (i * j)) := if_pos (by simp [h])
theorem mul_l {i j : Int} (h : small64' i = true) : dMul (.int i) (.int j) = some (.int (i * j)) := if_pos (by simp [h])
theorem mod_p {i j : Int} (h : 0 < j) : dMod (.int i) (.int j) = some (.int (i % j)) := if_pos h
theorem fdiv_p {i j : Int} (h : 0 < j) (h2 : j < 1073741824) : dFdiv (.int i) (.int j) = some (.int (i / j)) := if_pos (by simp [h, h2])
theorem p_disp {as : M (List D)} {ρ ρ1 : Env} {ds : List D} {kvs : List (Key × D)} (ha : as ρ = .ok ds ρ1) (hp : EL.pairD ds = some kvs) (h1 : (kvs.map (·.1)).Nodup) (h2 : kvs.length ≤ 15) : eDisp as ρ = .ok (.dic kvs) ρ1 := by
  unfold eDisp
  rw [ha]
  show (match EL.pairD ds with | some kvs => _ | none => _) = _
  rw [hp]
  exact if_pos ⟨h1, h2⟩
end EL

/-! the end of a law whose promise hangs on the world -/
namespace EL
open PySem PySem.Spec PyProof.Rows
open L2 hiding XE
theorem walk_w {lw : PySem.W.OpenLaw} {top lev : Nat} {vw : Program} {lo : List Str} {Xp : (Str → Option Value) → Heap → Prop} {Yp : World → Heap → Prop} {dr : DefRec} {x : Str} (Cxx : World → CXT) (h1 : lw.most = some top) (h2 : top ≤ sizeLine) (h3 : dr.params.defaults = []) (h4 : Room lev callerA)
    (Fz : ∀ (wd : World) (ns : Str → Option Value) (at_ : Addr) (hp : Heap), Yp wd hp → hp.Ns mainGlobals ns → ns dr.name = some (.ref at_) →
      ∃ (Kf : PySem.W.Frag) (fd : FuncData) (sp : Sp), Kf.In hp ∧ (∀ (st : Shared) (v : Value), BindsTo st fd ⟨[v], []⟩ [(x, v)]) ∧
        (∀ (Ha : Hp) (a : Addr) (zs : List Int), zs.length ≤ top → Only Ha → SqL Kf Ha a (zs.map V.int) → sp [.ref a] Ha (fun v _ => v = .bl true) fun _ _ _ => False) ∧
        ∀ bs : Heap, Kf.In bs → bs.Ns mainGlobals ns → FnOk lw.prog wd Kf ns bs (Cxx wd) lev at_ fd [x] sp)
    (hno : ∀ (wd : World) (Ha : Hp) (st : Shared) (u : Value) (st' : Shared), Cxx wd [] Ha st (fun _ _ _ => False) u st' → False) :
    PySem.W.WalkO vw lo Xp Yp lw.row.toRowW dr [] (fun g us => PySem.call g us) := by
  refine Att.attach_call h1 h3 fun wd z0 z1 ns mb at_ ob pm cd doc a us zs G Y _ _ _ hmg hobj hints hlen hg => ?_
  obtain ⟨Kf, fd, sp, kx, hb, hs, hF⟩ := Fz wd ns at_ _ Y G.T.g hmg
  exact law_call kx G.T.g G.T.b G.T.builtins G.T.nolimit hg hobj hints (Nat.le_trans hlen h2) h4 hF hb (fun Ha hO hS => hs Ha a zs hlen hO hS) fun Ha u st' => hno wd Ha z1 u st'
theorem cx_no {P : Program} {wd : World} {Ha : Hp} {st st' : Shared} {u : Value} (h : L2.CX P wd [] Ha st (fun _ _ _ => False) u st') : False := by
  obtain ⟨_, _, _, _, _, _, _, _, _, _, _, _, z⟩ := h
  exact z
/-- the law's argument, a list of ints that is only read -/
theorem script_ok {C : Core} {F : List D → Fr} {H : Hp} {a : Addr} {ns : List Int} {o : D} (hl : ns.length ≤ 63) (hO : Only H) (hS : SqL C.K H a (ns.map V.int)) (hF : F [.scr (ns.map .int)] = .ok (.bl true) o) : spD C 1 none .pu F [.ref a] H (fun v _ => v = .bl true) fun _ _ _ => False := by
  have rr : ∀ ms : List Int, Reps C (fun _ => False) H (ms.map D.int) (ms.map V.int) [] := fun ms => by
    induction ms with
    | nil => exact .nil
    | cons m ms ih => exact .cons (F := []) (G := []) (.int m) ih
  have hR : SqR C.K H a (ns.map V.int) := by
    rcases hS with (h | h) | h
    · rcases hO a with n | ⟨u, xs, n⟩ <;> rw [n] at h <;> cases h
    · exact .inl h
    · exact .inr h
  refine ⟨fun _ => False, [.scr (ns.map .int)], fun _ => [], rfl, ⟨⟨rfl, fun i d e => ?_⟩, fun i hi => by cases hi⟩, ?_⟩
  · cases i with
    | zero => cases e; exact ⟨_, rfl, .scr hR (by rw [List.length_map, sizeLine_eq]; omega) (rr ns)⟩
    | succ i => cases e
  · rw [hF]
    intro v H' Fo G _ r _
    cases r; rfl
end EL

namespace K03
open PySem PySem.Spec PyProof.Rows EL
open L2 hiding XE
def top (i : Nat) : Stmt := PySem.Challenge.pw_everylanding_k03_conditions_hold.main.body.getD i (.Pass ⟨0, 0, 0, 0⟩)
abbrev FnP (K : PySem.W.Frag) (x : Str) (st : Stmt) (f : Addr) (fd : FuncData) : Prop := FunD K x x (defArgs st) (defBody st) (defScope st) [] [] f fd
section
variable {P : Program} {w : World} {K : PySem.W.Frag} {mg : Str → Option Value} {base : Heap} {C : Core} {f : Addr} {fd : FuncData}
/-! is_true -/
abbrev st_is_true : Stmt := top 1
def ev_is_true (F_is_true : List D → Fr) (F_atom_holds : List D → Fr) : Ms :=
  (sSeq (sIf (ebV (eBin dEq (eBin dIx (eV 0) (eC (.int 0))) (eC (.str "not")))) (sRet (eNotV (eCall F_is_true (eaCons (eBin dIx (eV 0) (eC (.int 1))) (eaCons (eV 1) (eaCons (eV 2) eaNil)))))) sNil)
  (sSeq (sIf (ebV (eBin dEq (eBin dIx (eV 0) (eC (.int 0))) (eC (.str "and")))) (sRet (eA1 dAll (eLc [3] (itSeq (eBin dIx (eV 0) (eC (.int 1)))) (gSet 3) ebYes (eCall F_is_true (eaCons (eV 3) (eaCons (eV 1) (eaCons (eV 2) eaNil))))))) sNil)
  (sSeq (sIf (ebV (eBin dEq (eBin dIx (eV 0) (eC (.int 0))) (eC (.str "or")))) (sRet (eA1 dAny (eLc [3] (itSeq (eBin dIx (eV 0) (eC (.int 1)))) (gSet 3) ebYes (eCall F_is_true (eaCons (eV 3) (eaCons (eV 1) (eaCons (eV 2) eaNil))))))) sNil)
  (sRet (eCall F_atom_holds (eaCons (eV 0) (eaCons (eV 1) (eaCons (eV 2) eaNil))))))))
def rf_is_true (F_is_true : List D → Fr) (F_atom_holds : List D → Fr) : List D → Fr := runF 3 4 [0, 1, 2] none (ev_is_true F_is_true F_atom_holds)
theorem sc_is_true : FnScope ["condition", "mode", "sight", "part"] ["condition", "mode", "sight"] (defScope st_is_true) := ⟨rfl, rfl, rfl, by decide +kernel, rfl, by decide +kernel, by decide +kernel⟩
theorem okf_is_true {k : Nat} {F_is_true F_atom_holds : List D → Fr} (Z : Gz mg C K) (F : FnP K "is_true" st_is_true f fd) (G_is_true : FnG P w K mg base C k "is_true" 3 none .pu F_is_true) (G_atom_holds : FnG P w K mg base C k "atom_holds" 3 none .pu F_atom_holds) : FnOk P w K mg base (L2.CX P w) (k + 1) f fd ["condition", "mode", "sight"] (spD C 3 none .pu (rf_is_true F_is_true F_atom_holds)) := by
  refine fn_ok (ks := [.pl, .pl, .pl, .pl]) F sc_is_true rfl rfl rfl (by intro i hi; cases hi <;> exact ⟨by decide, rfl⟩) (fun cdv A outer s H E hr => ?_)
  have q := cq_of (ks := [.pl, .pl, .pl, .pl]) (C := C) (CX := L2.CX P w) (P := P) (w := w) (base := base) (N := ["condition", "mode", "sight", "part"]) (f := f) (cdv := cdv) (A := A) (outer := outer) (s := s) (H := H) (E := E) (scope := defScope st_is_true) (qual := "is_true") Z sc_is_true.nd hr
  have tk := takes_of (X := cxOf (L2.CX P w) P w K mg base ["condition", "mode", "sight", "part"] "is_true" (defScope st_is_true) f cdv A outer s H E) rfl rfl rfl rfl
  have hp := passes_of (X := cxOf (L2.CX P w) P w K mg base ["condition", "mode", "sight", "part"] "is_true" (defScope st_is_true) f cdv A outer s H E) rfl
  exact (xs_cons (xs_if (t_eq q (x_ix q (xe_v 0) xe_int) xe_str) (xs_one (xs_ret (xe_not (x_call tk G_is_true hr (xa_cons (x_ix q (xe_v 0) xe_int) (xa_cons (xe_v 1) (xa_cons (xe_v 2) xa_nil))))))) xs_nil)
    (xs_cons (xs_if (t_eq q (x_ix q (xe_v 0) xe_int) xe_str) (xs_one (xs_ret (x_all q (xe_lc q.calm q.nd (xl_lc (own := [("part", 3)]) (xi_seq q.K (x_ix q (xe_v 0) xe_int)) rfl (fun _ _ _ _ _ => (xg_name 3 (q.bk []).nd)) (fun _ _ _ _ _ => xc_nil) (fun _ _ _ _ _ => (x_call takes0 G_is_true hr (xa_cons (xe_v 3) (xa_cons (xe_v 1) (xa_cons (xe_v 2) xa_nil)))))))))) xs_nil)
    (xs_cons (xs_if (t_eq q (x_ix q (xe_v 0) xe_int) xe_str) (xs_one (xs_ret (x_any q (xe_lc q.calm q.nd (xl_lc (own := [("part", 3)]) (xi_seq q.K (x_ix q (xe_v 0) xe_int)) rfl (fun _ _ _ _ _ => (xg_name 3 (q.bk []).nd)) (fun _ _ _ _ _ => xc_nil) (fun _ _ _ _ _ => (x_call takes0 G_is_true hr (xa_cons (xe_v 3) (xa_cons (xe_v 1) (xa_cons (xe_v 2) xa_nil)))))))))) xs_nil)
    (xs_one (xs_ret (x_call tk G_atom_holds hr (xa_cons (xe_v 0) (xa_cons (xe_v 1) (xa_cons (xe_v 2) xa_nil)))))))))
theorem ok_is_true {k : Nat} {F_is_true F_atom_holds : List D → Fr} (Z : Gz mg C K) (F : FnP K "is_true" st_is_true f fd) (gm : mg "is_true" = some (.ref f)) (G_is_true : FnG P w K mg base C k "is_true" 3 none .pu F_is_true) (G_atom_holds : FnG P w K mg base C k "atom_holds" 3 none .pu F_atom_holds) : FnG P w K mg base C (k + 1) "is_true" 3 none .pu (rf_is_true F_is_true F_atom_holds) :=
  ⟨f, fd, ["condition", "mode", "sight"], okf_is_true Z F G_is_true G_atom_holds, gm, F.kp, F.bindsN (fun _ _ _ _ _ _ us hl => match us, hl with | [_, _, _], _ => rfl), rfl⟩
theorem nv_is_true {k : Nat} (F : FnP K "is_true" st_is_true f fd) (gm : mg "is_true" = some (.ref f)) : FnG P w K mg base C (k + 1) "is_true" 3 none .pu (fun _ => .st) := by
  have h : FnG P w K mg base C (k + 1) "is_true" 3 none .pu (runF 3 4 [0, 1, 2] none fun _ => .st) := ⟨f, fd, ["condition", "mode", "sight"], fn_ok (ks := [.pl, .pl, .pl, .pl]) F sc_is_true rfl rfl rfl (by intro i hi; cases hi <;> exact ⟨by decide, rfl⟩) (fun cdv A outer s H E hr => xss_never), gm, F.kp, F.bindsN (fun _ _ _ _ _ _ us hl => match us, hl with | [_, _, _], _ => rfl), rfl⟩
  exact h.imp fun ds _ h2 => absurd rfl h2
/-! atom_holds -/
abbrev st_atom_holds : Stmt := top 2
def ev_atom_holds (F_is_at : List D → Fr) (F_is_there : List D → Fr) (F_is_lit_there : List D → Fr) (F_car_holds : List D → Fr) : Ms :=
  (sSeq (sUnp (gsCons (gSet 3) (gsCons (gSet 4) (gsCons (gSet 5) (gsCons (gSet 6) (gsCons (gSet 7) gsNil))))) (eV 2))
  (sSeq (sIf (ebV (eBin dEq (eBin dIx (eV 0) (eC (.int 0))) (eC (.str "always")))) (sRet (eC (.bl true))) sNil)
  (sSeq (sIf (ebV (eBin dEq (eBin dIx (eV 0) (eC (.int 0))) (eC (.str "mode")))) (sRet (eBin dEq (eBin dIx (eV 0) (eC (.int 1))) (eV 1))) sNil)
  (sSeq (sIf (ebV (eBin dEq (eBin dIx (eV 0) (eC (.int 0))) (eC (.str "at")))) (sRet (eCall F_is_at (eaCons (eBin dIx (eV 0) (eC (.int 1))) (eaCons (eV 3) (eaCons (eA1 dLen (eV 4)) eaNil))))) sNil)
  (sSeq (sIf (ebV (eBin dEq (eBin dIx (eV 0) (eC (.int 0))) (eC (.str "rider")))) (sRet (eA1 dAny (eLc [8, 9] (itEnum (eV 4)) (gTupD (gsCons (gSet 8) (gsCons (gSet 9) gsNil))) ebYes (eAndV (eBin (dLtI iGt) (eV 9) (eC (.int 0))) (eCall F_is_there (eaCons (eBin dIx (eV 0) (eC (.int 1))) (eaCons (eV 8) (eaCons (eV 3) eaNil)))))))) sNil)
  (sSeq (sIf (ebV (eBin dEq (eBin dIx (eV 0) (eC (.int 0))) (eC (.str "full")))) (sRet (eBin dEq (eA1 dSum (eV 4)) (eV 5))) sNil)
  (sSeq (sIf (ebV (eBin dEq (eBin dIx (eV 0) (eC (.int 0))) (eC (.str "empty")))) (sRet (eBin dEq (eA1 dSum (eV 4)) (eC (.int 0)))) sNil)
  (sSeq (sIf (ebV (eBin dEq (eBin dIx (eV 0) (eC (.int 0))) (eC (.str "lit")))) (sRet (eA1 dAny (eLc [10] (itSeq (eV 6)) (gSet 10) ebYes (eCall F_is_lit_there (eaCons (eV 0) (eaCons (eV 10) (eaCons (eV 3) eaNil))))))) sNil)
  (sRet (eA1 dAny (eLc [11, 12, 13] (itSeq (eV 7)) (gTupD (gsCons (gSet 11) (gsCons (gSet 12) (gsCons (gSet 13) gsNil)))) ebYes (eAndV (eBin dEq (eV 11) (eBin dIx (eV 0) (eC (.int 1)))) (eCall F_car_holds (eaCons (eV 0) (eaCons (eV 12) (eaCons (eV 13) (eaCons (eV 3) eaNil)))))))))))))))))
def rf_atom_holds (F_is_at : List D → Fr) (F_is_there : List D → Fr) (F_is_lit_there : List D → Fr) (F_car_holds : List D → Fr) : List D → Fr := runF 3 14 [0, 1, 2] none (ev_atom_holds F_is_at F_is_there F_is_lit_there F_car_holds)
theorem sc_atom_holds : FnScope ["atom", "mode", "sight", "place", "load", "room", "lit", "others", "floor", "number", "landing", "car", "at", "own"] ["atom", "mode", "sight"] (defScope st_atom_holds) := ⟨rfl, rfl, rfl, by decide +kernel, rfl, by decide +kernel, by decide +kernel⟩
theorem okf_atom_holds {k : Nat} {F_is_at F_is_there F_is_lit_there F_car_holds : List D → Fr} (Z : Gz mg C K) (F : FnP K "atom_holds" st_atom_holds f fd) (G_is_at : FnG P w K mg base C k "is_at" 3 none .pu F_is_at) (G_is_there : FnG P w K mg base C k "is_there" 3 none .pu F_is_there) (G_is_lit_there : FnG P w K mg base C k "is_lit_there" 3 none .pu F_is_lit_there) (G_car_holds : FnG P w K mg base C k "car_holds" 4 none .pu F_car_holds) : FnOk P w K mg base (L2.CX P w) (k + 1) f fd ["atom", "mode", "sight"] (spD C 3 none .pu (rf_atom_holds F_is_at F_is_there F_is_lit_there F_car_holds)) := by
  refine fn_ok (ks := [.pl, .pl, .pl, .pl, .pl, .pl, .pl, .pl, .pl, .pl, .pl, .pl, .pl, .pl]) F sc_atom_holds rfl rfl rfl (by intro i hi; cases hi <;> exact ⟨by decide, rfl⟩) (fun cdv A outer s H E hr => ?_)
  have q := cq_of (ks := [.pl, .pl, .pl, .pl, .pl, .pl, .pl, .pl, .pl, .pl, .pl, .pl, .pl, .pl]) (C := C) (CX := L2.CX P w) (P := P) (w := w) (base := base) (N := ["atom", "mode", "sight", "place", "load", "room", "lit", "others", "floor", "number", "landing", "car", "at", "own"]) (f := f) (cdv := cdv) (A := A) (outer := outer) (s := s) (H := H) (E := E) (scope := defScope st_atom_holds) (qual := "atom_holds") Z sc_atom_holds.nd hr
  have tk := takes_of (X := cxOf (L2.CX P w) P w K mg base ["atom", "mode", "sight", "place", "load", "room", "lit", "others", "floor", "number", "landing", "car", "at", "own"] "atom_holds" (defScope st_atom_holds) f cdv A outer s H E) rfl rfl rfl rfl
  have hp := passes_of (X := cxOf (L2.CX P w) P w K mg base ["atom", "mode", "sight", "place", "load", "room", "lit", "others", "floor", "number", "landing", "car", "at", "own"] "atom_holds" (defScope st_atom_holds) f cdv A outer s H E) rfl
  exact (xs_cons (xs_unp q.K q.calm (xe_v 2) (xgs_cons (xg_name 3 q.nd) (xgs_cons (xg_name 4 q.nd) (xgs_cons (xg_name 5 q.nd) (xgs_cons (xg_name 6 q.nd) (xgs_cons (xg_name 7 q.nd) xgs_nil))))) (gl_cons (gl_cons (gl_cons (gl_cons (gl_cons gl_nil))))))
    (xs_cons (xs_if (t_eq q (x_ix q (xe_v 0) xe_int) xe_str) (xs_one (xs_ret xe_bl)) xs_nil)
    (xs_cons (xs_if (t_eq q (x_ix q (xe_v 0) xe_int) xe_str) (xs_one (xs_ret (x_eq q (x_ix q (xe_v 0) xe_int) (xe_v 1)))) xs_nil)
    (xs_cons (xs_if (t_eq q (x_ix q (xe_v 0) xe_int) xe_str) (xs_one (xs_ret (x_call tk G_is_at hr (xa_cons (x_ix q (xe_v 0) xe_int) (xa_cons (xe_v 3) (xa_cons (x_len q (xe_v 4)) xa_nil)))))) xs_nil)
    (xs_cons (xs_if (t_eq q (x_ix q (xe_v 0) xe_int) xe_str) (xs_one (xs_ret (x_any q (xe_lc q.calm q.nd (xl_lc (own := [("floor", 8), ("number", 9)]) (xi_enum q.K rfl (q.fb _ (by decide)) (xe_v 4)) rfl (fun _ _ _ _ _ => (xg_tup (q.bk []).K (q.bk []).calm (xgs_cons (xg_name 8 (q.bk []).nd) (xgs_cons (xg_name 9 (q.bk []).nd) xgs_nil)) (gl_cons (gl_cons gl_nil)))) (fun _ _ _ _ _ => xc_nil) (fun _ _ _ _ _ => (xe_and (x_gt (q.bk []) (xe_v 9) xe_int) (xe_one (x_call takes0 G_is_there hr (xa_cons (x_ix (q.bk []) (xe_v 0) xe_int) (xa_cons (xe_v 8) (xa_cons (xe_v 3) xa_nil)))))))))))) xs_nil)
    (xs_cons (xs_if (t_eq q (x_ix q (xe_v 0) xe_int) xe_str) (xs_one (xs_ret (x_eq q (x_sum q (xe_v 4)) (xe_v 5)))) xs_nil)
    (xs_cons (xs_if (t_eq q (x_ix q (xe_v 0) xe_int) xe_str) (xs_one (xs_ret (x_eq q (x_sum q (xe_v 4)) xe_int))) xs_nil)
    (xs_cons (xs_if (t_eq q (x_ix q (xe_v 0) xe_int) xe_str) (xs_one (xs_ret (x_any q (xe_lc q.calm q.nd (xl_lc (own := [("landing", 10)]) (xi_seq q.K (xe_v 6)) rfl (fun _ _ _ _ _ => (xg_name 10 (q.bk []).nd)) (fun _ _ _ _ _ => xc_nil) (fun _ _ _ _ _ => (x_call takes0 G_is_lit_there hr (xa_cons (xe_v 0) (xa_cons (xe_v 10) (xa_cons (xe_v 3) xa_nil)))))))))) xs_nil)
    (xs_one (xs_ret (x_any q (xe_lc q.calm q.nd (xl_lc (own := [("car", 11), ("at", 12), ("own", 13)]) (xi_seq q.K (xe_v 7)) rfl (fun _ _ _ _ _ => (xg_tup (q.bk []).K (q.bk []).calm (xgs_cons (xg_name 11 (q.bk []).nd) (xgs_cons (xg_name 12 (q.bk []).nd) (xgs_cons (xg_name 13 (q.bk []).nd) xgs_nil))) (gl_cons (gl_cons (gl_cons gl_nil))))) (fun _ _ _ _ _ => xc_nil) (fun _ _ _ _ _ => (xe_and (x_eq (q.bk []) (xe_v 11) (x_ix (q.bk []) (xe_v 0) xe_int)) (xe_one (x_call takes0 G_car_holds hr (xa_cons (xe_v 0) (xa_cons (xe_v 12) (xa_cons (xe_v 13) (xa_cons (xe_v 3) xa_nil)))))))))))))))))))))
theorem ok_atom_holds {k : Nat} {F_is_at F_is_there F_is_lit_there F_car_holds : List D → Fr} (Z : Gz mg C K) (F : FnP K "atom_holds" st_atom_holds f fd) (gm : mg "atom_holds" = some (.ref f)) (G_is_at : FnG P w K mg base C k "is_at" 3 none .pu F_is_at) (G_is_there : FnG P w K mg base C k "is_there" 3 none .pu F_is_there) (G_is_lit_there : FnG P w K mg base C k "is_lit_there" 3 none .pu F_is_lit_there) (G_car_holds : FnG P w K mg base C k "car_holds" 4 none .pu F_car_holds) : FnG P w K mg base C (k + 1) "atom_holds" 3 none .pu (rf_atom_holds F_is_at F_is_there F_is_lit_there F_car_holds) :=
  ⟨f, fd, ["atom", "mode", "sight"], okf_atom_holds Z F G_is_at G_is_there G_is_lit_there G_car_holds, gm, F.kp, F.bindsN (fun _ _ _ _ _ _ us hl => match us, hl with | [_, _, _], _ => rfl), rfl⟩
/-! is_at -/
abbrev st_is_at : Stmt := top 3
def ev_is_at  : Ms :=
  (sSeq (sIf (ebV (eBin dEq (eV 0) (eC (.str "top")))) (sRet (eBin dEq (eV 1) (eBin dSub (eV 2) (eC (.int 1))))) sNil)
  (sRet (eBin dEq (eV 1) (eIf (ebV (eBin dEq (eV 0) (eC (.str "bottom")))) (eC (.int 0)) (eV 0)))))
def rf_is_at  : List D → Fr := runF 3 3 [0, 1, 2] none (ev_is_at )
theorem sc_is_at : FnScope ["word", "place", "floors"] ["word", "place", "floors"] (defScope st_is_at) := ⟨rfl, rfl, rfl, by decide +kernel, rfl, by decide +kernel, by decide +kernel⟩
theorem okf_is_at {k : Nat} (Z : Gz mg C K) (F : FnP K "is_at" st_is_at f fd)  : FnOk P w K mg base (L2.CX P w) (k + 1) f fd ["word", "place", "floors"] (spD C 3 none .pu (rf_is_at )) := by
  refine fn_ok (ks := [.pl, .pl, .pl]) F sc_is_at rfl rfl rfl (by intro i hi; cases hi <;> exact ⟨by decide, rfl⟩) (fun cdv A outer s H E hr => ?_)
  have q := cq_of (ks := [.pl, .pl, .pl]) (C := C) (CX := L2.CX P w) (P := P) (w := w) (base := base) (N := ["word", "place", "floors"]) (f := f) (cdv := cdv) (A := A) (outer := outer) (s := s) (H := H) (E := E) (scope := defScope st_is_at) (qual := "is_at") Z sc_is_at.nd hr
  have tk := takes_of (X := cxOf (L2.CX P w) P w K mg base ["word", "place", "floors"] "is_at" (defScope st_is_at) f cdv A outer s H E) rfl rfl rfl rfl
  have hp := passes_of (X := cxOf (L2.CX P w) P w K mg base ["word", "place", "floors"] "is_at" (defScope st_is_at) f cdv A outer s H E) rfl
  exact (xs_cons (xs_if (t_eq q (xe_v 0) xe_str) (xs_one (xs_ret (x_eq q (xe_v 1) (x_sub q (xe_v 2) xe_int)))) xs_nil)
    (xs_one (xs_ret (x_eq q (xe_v 1) (xe_ifExp (t_eq q (xe_v 0) xe_str) xe_int (xe_v 0))))))
theorem ok_is_at {k : Nat} (Z : Gz mg C K) (F : FnP K "is_at" st_is_at f fd) (gm : mg "is_at" = some (.ref f))  : FnG P w K mg base C (k + 1) "is_at" 3 none .pu (rf_is_at ) :=
  ⟨f, fd, ["word", "place", "floors"], okf_is_at Z F , gm, F.kp, F.bindsN (fun _ _ _ _ _ _ us hl => match us, hl with | [_, _, _], _ => rfl), rfl⟩
/-! is_there -/
abbrev st_is_there : Stmt := top 4
def ev_is_there  : Ms :=
  (sSeq (sIf (ebV (eBin dEq (eV 0) (eC (.str "here")))) (sRet (eBin dEq (eV 1) (eV 2))) sNil)
  (sSeq (sIf (ebV (eBin dEq (eV 0) (eC (.str "above")))) (sRet (eBin (dLtI iGt) (eV 1) (eV 2))) sNil)
  (sSeq (sIf (ebV (eBin dEq (eV 0) (eC (.str "below")))) (sRet (eBin (dLtI iLt) (eV 1) (eV 2))) sNil)
  (sRet (eBin dEq (eV 1) (eV 0))))))
def rf_is_there  : List D → Fr := runF 3 3 [0, 1, 2] none (ev_is_there )
theorem sc_is_there : FnScope ["word", "floor", "place"] ["word", "floor", "place"] (defScope st_is_there) := ⟨rfl, rfl, rfl, by decide +kernel, rfl, by decide +kernel, by decide +kernel⟩
theorem okf_is_there {k : Nat} (Z : Gz mg C K) (F : FnP K "is_there" st_is_there f fd)  : FnOk P w K mg base (L2.CX P w) (k + 1) f fd ["word", "floor", "place"] (spD C 3 none .pu (rf_is_there )) := by
  refine fn_ok (ks := [.pl, .pl, .pl]) F sc_is_there rfl rfl rfl (by intro i hi; cases hi <;> exact ⟨by decide, rfl⟩) (fun cdv A outer s H E hr => ?_)
  have q := cq_of (ks := [.pl, .pl, .pl]) (C := C) (CX := L2.CX P w) (P := P) (w := w) (base := base) (N := ["word", "floor", "place"]) (f := f) (cdv := cdv) (A := A) (outer := outer) (s := s) (H := H) (E := E) (scope := defScope st_is_there) (qual := "is_there") Z sc_is_there.nd hr
  have tk := takes_of (X := cxOf (L2.CX P w) P w K mg base ["word", "floor", "place"] "is_there" (defScope st_is_there) f cdv A outer s H E) rfl rfl rfl rfl
  have hp := passes_of (X := cxOf (L2.CX P w) P w K mg base ["word", "floor", "place"] "is_there" (defScope st_is_there) f cdv A outer s H E) rfl
  exact (xs_cons (xs_if (t_eq q (xe_v 0) xe_str) (xs_one (xs_ret (x_eq q (xe_v 1) (xe_v 2)))) xs_nil)
    (xs_cons (xs_if (t_eq q (xe_v 0) xe_str) (xs_one (xs_ret (x_gt q (xe_v 1) (xe_v 2)))) xs_nil)
    (xs_cons (xs_if (t_eq q (xe_v 0) xe_str) (xs_one (xs_ret (x_lt q (xe_v 1) (xe_v 2)))) xs_nil)
    (xs_one (xs_ret (x_eq q (xe_v 1) (xe_v 0)))))))
theorem ok_is_there {k : Nat} (Z : Gz mg C K) (F : FnP K "is_there" st_is_there f fd) (gm : mg "is_there" = some (.ref f))  : FnG P w K mg base C (k + 1) "is_there" 3 none .pu (rf_is_there ) :=
  ⟨f, fd, ["word", "floor", "place"], okf_is_there Z F , gm, F.kp, F.bindsN (fun _ _ _ _ _ _ us hl => match us, hl with | [_, _, _], _ => rfl), rfl⟩
/-! is_lit_there -/
abbrev st_is_lit_there : Stmt := top 5
def ev_is_lit_there (F_is_there : List D → Fr) : Ms :=
  (sRet (eAndV (eCall F_is_there (eaCons (eBin dIx (eV 0) (eC (.int 1))) (eaCons (eBin dIx (eV 1) (eC (.int 0))) (eaCons (eV 2) eaNil)))) (eOrV (eBin dEq (eA1 dLen (eV 0)) (eC (.int 2))) (eBin dEq (eBin dIx (eV 0) (eC (.int 2))) (eBin dIx (eV 1) (eC (.int 1)))))))
def rf_is_lit_there (F_is_there : List D → Fr) : List D → Fr := runF 3 3 [0, 1, 2] none (ev_is_lit_there F_is_there)
theorem sc_is_lit_there : FnScope ["atom", "landing", "place"] ["atom", "landing", "place"] (defScope st_is_lit_there) := ⟨rfl, rfl, rfl, by decide +kernel, rfl, by decide +kernel, by decide +kernel⟩
theorem okf_is_lit_there {k : Nat} {F_is_there : List D → Fr} (Z : Gz mg C K) (F : FnP K "is_lit_there" st_is_lit_there f fd) (G_is_there : FnG P w K mg base C k "is_there" 3 none .pu F_is_there) : FnOk P w K mg base (L2.CX P w) (k + 1) f fd ["atom", "landing", "place"] (spD C 3 none .pu (rf_is_lit_there F_is_there)) := by
  refine fn_ok (ks := [.pl, .pl, .pl]) F sc_is_lit_there rfl rfl rfl (by intro i hi; cases hi <;> exact ⟨by decide, rfl⟩) (fun cdv A outer s H E hr => ?_)
  have q := cq_of (ks := [.pl, .pl, .pl]) (C := C) (CX := L2.CX P w) (P := P) (w := w) (base := base) (N := ["atom", "landing", "place"]) (f := f) (cdv := cdv) (A := A) (outer := outer) (s := s) (H := H) (E := E) (scope := defScope st_is_lit_there) (qual := "is_lit_there") Z sc_is_lit_there.nd hr
  have tk := takes_of (X := cxOf (L2.CX P w) P w K mg base ["atom", "landing", "place"] "is_lit_there" (defScope st_is_lit_there) f cdv A outer s H E) rfl rfl rfl rfl
  have hp := passes_of (X := cxOf (L2.CX P w) P w K mg base ["atom", "landing", "place"] "is_lit_there" (defScope st_is_lit_there) f cdv A outer s H E) rfl
  exact (xs_one (xs_ret (xe_and (x_call tk G_is_there hr (xa_cons (x_ix q (xe_v 0) xe_int) (xa_cons (x_ix q (xe_v 1) xe_int) (xa_cons (xe_v 2) xa_nil)))) (xe_one (xe_or (x_eq q (x_len q (xe_v 0)) xe_int) (xe_one (x_eq q (x_ix q (xe_v 0) xe_int) (x_ix q (xe_v 1) xe_int))))))))
theorem ok_is_lit_there {k : Nat} {F_is_there : List D → Fr} (Z : Gz mg C K) (F : FnP K "is_lit_there" st_is_lit_there f fd) (gm : mg "is_lit_there" = some (.ref f)) (G_is_there : FnG P w K mg base C k "is_there" 3 none .pu F_is_there) : FnG P w K mg base C (k + 1) "is_lit_there" 3 none .pu (rf_is_lit_there F_is_there) :=
  ⟨f, fd, ["atom", "landing", "place"], okf_is_lit_there Z F G_is_there, gm, F.kp, F.bindsN (fun _ _ _ _ _ _ us hl => match us, hl with | [_, _, _], _ => rfl), rfl⟩
/-! car_holds -/
abbrev st_car_holds : Stmt := top 6
def ev_car_holds (F_is_there : List D → Fr) : Ms :=
  (sSeq (sIf (ebV (eBin dEq (eBin dIx (eV 0) (eC (.int 2))) (eC (.str "at")))) (sRet (eBin dEq (eV 1) (eBin dIx (eV 0) (eC (.int 3))))) sNil)
  (sSeq (sIf (ebV (eBin dEq (eBin dIx (eV 0) (eC (.int 2))) (eC (.str "in")))) (sRet (eBin dEq (eV 2) (eBin dIx (eV 0) (eC (.int 3))))) sNil)
  (sRet (eCall F_is_there (eaCons (eBin dIx (eV 0) (eC (.int 2))) (eaCons (eV 1) (eaCons (eV 3) eaNil)))))))
def rf_car_holds (F_is_there : List D → Fr) : List D → Fr := runF 4 4 [0, 1, 2, 3] none (ev_car_holds F_is_there)
theorem sc_car_holds : FnScope ["atom", "at", "own", "place"] ["atom", "at", "own", "place"] (defScope st_car_holds) := ⟨rfl, rfl, rfl, by decide +kernel, rfl, by decide +kernel, by decide +kernel⟩
theorem okf_car_holds {k : Nat} {F_is_there : List D → Fr} (Z : Gz mg C K) (F : FnP K "car_holds" st_car_holds f fd) (G_is_there : FnG P w K mg base C k "is_there" 3 none .pu F_is_there) : FnOk P w K mg base (L2.CX P w) (k + 1) f fd ["atom", "at", "own", "place"] (spD C 4 none .pu (rf_car_holds F_is_there)) := by
  refine fn_ok (ks := [.pl, .pl, .pl, .pl]) F sc_car_holds rfl rfl rfl (by intro i hi; cases hi <;> exact ⟨by decide, rfl⟩) (fun cdv A outer s H E hr => ?_)
  have q := cq_of (ks := [.pl, .pl, .pl, .pl]) (C := C) (CX := L2.CX P w) (P := P) (w := w) (base := base) (N := ["atom", "at", "own", "place"]) (f := f) (cdv := cdv) (A := A) (outer := outer) (s := s) (H := H) (E := E) (scope := defScope st_car_holds) (qual := "car_holds") Z sc_car_holds.nd hr
  have tk := takes_of (X := cxOf (L2.CX P w) P w K mg base ["atom", "at", "own", "place"] "car_holds" (defScope st_car_holds) f cdv A outer s H E) rfl rfl rfl rfl
  have hp := passes_of (X := cxOf (L2.CX P w) P w K mg base ["atom", "at", "own", "place"] "car_holds" (defScope st_car_holds) f cdv A outer s H E) rfl
  exact (xs_cons (xs_if (t_eq q (x_ix q (xe_v 0) xe_int) xe_str) (xs_one (xs_ret (x_eq q (xe_v 1) (x_ix q (xe_v 0) xe_int)))) xs_nil)
    (xs_cons (xs_if (t_eq q (x_ix q (xe_v 0) xe_int) xe_str) (xs_one (xs_ret (x_eq q (xe_v 2) (x_ix q (xe_v 0) xe_int)))) xs_nil)
    (xs_one (xs_ret (x_call tk G_is_there hr (xa_cons (x_ix q (xe_v 0) xe_int) (xa_cons (xe_v 1) (xa_cons (xe_v 3) xa_nil))))))))
theorem ok_car_holds {k : Nat} {F_is_there : List D → Fr} (Z : Gz mg C K) (F : FnP K "car_holds" st_car_holds f fd) (gm : mg "car_holds" = some (.ref f)) (G_is_there : FnG P w K mg base C k "is_there" 3 none .pu F_is_there) : FnG P w K mg base C (k + 1) "car_holds" 4 none .pu (rf_car_holds F_is_there) :=
  ⟨f, fd, ["atom", "at", "own", "place"], okf_car_holds Z F G_is_there, gm, F.kp, F.bindsN (fun _ _ _ _ _ _ us hl => match us, hl with | [_, _, _, _], _ => rfl), rfl⟩
/-! holds -/
abbrev st_holds : Stmt := top 8
def ev_holds (F_is_true : List D → Fr) : Ms :=
  (sRet (eCall F_is_true (eaCons (eV 0) (eaCons (eV 1) (eaCons (eV 2) eaNil)))))
def rf_holds (F_is_true : List D → Fr) : List D → Fr := runF 3 3 [0, 1, 2] none (ev_holds F_is_true)
theorem sc_holds : FnScope ["condition", "mode", "sight"] ["condition", "mode", "sight"] (defScope st_holds) := ⟨rfl, rfl, rfl, by decide +kernel, rfl, by decide +kernel, by decide +kernel⟩
theorem okf_holds {k : Nat} {F_is_true : List D → Fr} (Z : Gz mg C K) (F : FnP K "holds" st_holds f fd) (G_is_true : FnG P w K mg base C k "is_true" 3 none .pu F_is_true) : FnOk P w K mg base (L2.CX P w) (k + 1) f fd ["condition", "mode", "sight"] (spD C 3 none .pu (rf_holds F_is_true)) := by
  refine fn_ok (ks := [.pl, .pl, .pl]) F sc_holds rfl rfl rfl (by intro i hi; cases hi <;> exact ⟨by decide, rfl⟩) (fun cdv A outer s H E hr => ?_)
  have q := cq_of (ks := [.pl, .pl, .pl]) (C := C) (CX := L2.CX P w) (P := P) (w := w) (base := base) (N := ["condition", "mode", "sight"]) (f := f) (cdv := cdv) (A := A) (outer := outer) (s := s) (H := H) (E := E) (scope := defScope st_holds) (qual := "holds") Z sc_holds.nd hr
  have tk := takes_of (X := cxOf (L2.CX P w) P w K mg base ["condition", "mode", "sight"] "holds" (defScope st_holds) f cdv A outer s H E) rfl rfl rfl rfl
  have hp := passes_of (X := cxOf (L2.CX P w) P w K mg base ["condition", "mode", "sight"] "holds" (defScope st_holds) f cdv A outer s H E) rfl
  exact (xs_one (xs_ret (x_call tk G_is_true hr (xa_cons (xe_v 0) (xa_cons (xe_v 1) (xa_cons (xe_v 2) xa_nil))))))
theorem ok_holds {k : Nat} {F_is_true : List D → Fr} (Z : Gz mg C K) (F : FnP K "holds" st_holds f fd) (gm : mg "holds" = some (.ref f)) (G_is_true : FnG P w K mg base C k "is_true" 3 none .pu F_is_true) : FnG P w K mg base C (k + 1) "holds" 3 none .pu (rf_holds F_is_true) :=
  ⟨f, fd, ["condition", "mode", "sight"], okf_holds Z F G_is_true, gm, F.kp, F.bindsN (fun _ _ _ _ _ _ us hl => match us, hl with | [_, _, _], _ => rfl), rfl⟩
/-! _law_any_atom -/
abbrev st__law_any_atom : Stmt := top 10
def ev__law_any_atom (F__law_draw : List D → Fr) (F__law_pick : List D → Fr) : Ms :=
  (sSeq (sPar 3 4 (eCallI F__law_draw 0 (eiHere 0 (eaCons (eC (.int 12)) eaNil))) (eCallI F__law_draw 0 (eiHere 0 (eaCons (eBin dAdd (eV 2) (eA1 dInt (eBin dEq (eCallI F__law_draw 0 (eiHere 0 (eaCons (eC (.int 8)) eaNil))) (eC (.int 0))))) eaNil))))
  (sSeq (sIf (ebV (eBin dEq (eV 3) (eC (.int 0)))) (sRet (eTup (eaCons (eC (.str "always")) eaNil))) sNil)
  (sSeq (sIf (ebV (eBin dEq (eV 3) (eC (.int 1)))) (sRet (eTup (eaCons (eC (.str "mode")) (eaCons (eCallI F__law_pick 0 (eiHere 0 (eaCons (eV 1) eaNil))) eaNil)))) sNil)
  (sSeq (sIf (ebV (eBin dEq (eV 3) (eC (.int 2)))) (sRet (eTup (eaCons (eC (.str "at")) (eaCons (eCallI F__law_pick 0 (eiHere 0 (eaCons (eLst (eaCons (eV 4) (eaCons (eV 4) (eaCons (eC (.str "top")) (eaCons (eC (.str "bottom")) eaNil))))) eaNil))) eaNil)))) sNil)
  (sSeq (sIf (ebV (eBin (dLtI iLt) (eV 3) (eC (.int 6)))) (sRet (eTup (eaCons (eC (.str "rider")) (eaCons (eCallI F__law_pick 0 (eiHere 0 (eaCons (eLst (eaCons (eV 4) (eaCons (eV 4) (eaCons (eC (.str "here")) (eaCons (eC (.str "above")) (eaCons (eC (.str "below")) eaNil)))))) eaNil))) eaNil)))) sNil)
  (sSeq (sIf (ebV (eBin dEq (eV 3) (eC (.int 6)))) (sRet (eCallI F__law_pick 0 (eiHere 0 (eaCons (eLst (eaCons (eTup (eaCons (eC (.str "full")) eaNil)) (eaCons (eTup (eaCons (eC (.str "empty")) eaNil)) eaNil))) eaNil)))) sNil)
  (sSeq (sIf (ebV (eBin (dLtI iLt) (eV 3) (eC (.int 10)))) (sRet (eCallI F__law_pick 0 (eiHere 0 (eaCons (eLst (eaCons (eTup (eaCons (eC (.str "lit")) (eaCons (eV 4) (eaCons (eC (.str "up")) eaNil)))) (eaCons (eTup (eaCons (eC (.str "lit")) (eaCons (eV 4) (eaCons (eC (.str "down")) eaNil)))) (eaCons (eTup (eaCons (eC (.str "lit")) (eaCons (eC (.str "here")) (eaCons (eC (.str "up")) eaNil)))) (eaCons (eTup (eaCons (eC (.str "lit")) (eaCons (eC (.str "here")) (eaCons (eC (.str "down")) eaNil)))) (eaCons (eTup (eaCons (eC (.str "lit")) (eaCons (eC (.str "above")) eaNil))) (eaCons (eTup (eaCons (eC (.str "lit")) (eaCons (eC (.str "below")) eaNil))) eaNil))))))) eaNil)))) sNil)
  (sSeq (sSet 5 (eCallI F__law_draw 0 (eiHere 0 (eaCons (eC (.int 2)) eaNil))))
  (sRet (eCallI F__law_pick 0 (eiHere 0 (eaCons (eLst (eaCons (eTup (eaCons (eC (.str "car")) (eaCons (eV 5) (eaCons (eC (.str "at")) (eaCons (eV 4) eaNil))))) (eaCons (eTup (eaCons (eC (.str "car")) (eaCons (eV 5) (eaCons (eC (.str "above")) eaNil)))) (eaCons (eTup (eaCons (eC (.str "car")) (eaCons (eV 5) (eaCons (eC (.str "below")) eaNil)))) (eaCons (eTup (eaCons (eC (.str "car")) (eaCons (eV 5) (eaCons (eC (.str "here")) eaNil)))) (eaCons (eTup (eaCons (eC (.str "car")) (eaCons (eV 5) (eaCons (eC (.str "in")) (eaCons (eCallI F__law_pick 0 (eiHere 0 (eaCons (eBin dAdd (eV 1) (eTup (eaCons (eC (.str "go")) (eaCons (eC (.str "zz")) eaNil)))) eaNil))) eaNil))))) eaNil)))))) eaNil))))))))))))
def rf__law_any_atom (F__law_draw : List D → Fr) (F__law_pick : List D → Fr) : List D → Fr := runF 3 6 [1, 2] (some 0) (ev__law_any_atom F__law_draw F__law_pick)
theorem sc__law_any_atom : FnScope ["pen", "modes", "floors", "way", "floor", "car"] ["pen", "modes", "floors"] (defScope st__law_any_atom) := ⟨rfl, rfl, rfl, by decide +kernel, rfl, by decide +kernel, by decide +kernel⟩
theorem okf__law_any_atom {k : Nat} {F__law_draw F__law_pick : List D → Fr} (Z : Gz mg C K) (F : FnP K "_law_any_atom" st__law_any_atom f fd) (G__law_draw : FnG P w K mg base C k "_law_draw" 2 (some 0) .pu F__law_draw) (G__law_pick : FnG P w K mg base C k "_law_pick" 2 (some 0) .pu F__law_pick) : FnOk P w K mg base (L2.CX P w) (k + 1) f fd ["pen", "modes", "floors"] (spD C 3 (some 0) .pu (rf__law_any_atom F__law_draw F__law_pick)) := by
  refine fn_ok (ks := [.io, .pl, .pl, .pl, .pl, .pl]) F sc__law_any_atom rfl rfl rfl (by intro i hi; cases hi <;> exact ⟨by decide, rfl⟩) (fun cdv A outer s H E hr => ?_)
  have q := cq_of (ks := [.io, .pl, .pl, .pl, .pl, .pl]) (C := C) (CX := L2.CX P w) (P := P) (w := w) (base := base) (N := ["pen", "modes", "floors", "way", "floor", "car"]) (f := f) (cdv := cdv) (A := A) (outer := outer) (s := s) (H := H) (E := E) (scope := defScope st__law_any_atom) (qual := "_law_any_atom") Z sc__law_any_atom.nd hr
  have tk := takes_of (X := cxOf (L2.CX P w) P w K mg base ["pen", "modes", "floors", "way", "floor", "car"] "_law_any_atom" (defScope st__law_any_atom) f cdv A outer s H E) rfl rfl rfl rfl
  have hp := passes_of (X := cxOf (L2.CX P w) P w K mg base ["pen", "modes", "floors", "way", "floor", "car"] "_law_any_atom" (defScope st__law_any_atom) f cdv A outer s H E) rfl
  exact (xs_cons (xs_par 3 4 q.calm q.nd (x_callI tk G__law_draw hr (xi_here 0 (xa_cons xe_int xa_nil))) (x_callI tk G__law_draw hr (xi_here 0 (xa_cons (x_add q (xe_v 2) (x_int q (x_eq q (x_callI tk G__law_draw hr (xi_here 0 (xa_cons xe_int xa_nil))) xe_int))) xa_nil))))
    (xs_cons (xs_if (t_eq q (xe_v 3) xe_int) (xs_one (xs_ret (xe_tup (xa_cons xe_str xa_nil)))) xs_nil)
    (xs_cons (xs_if (t_eq q (xe_v 3) xe_int) (xs_one (xs_ret (xe_tup (xa_cons xe_str (xa_cons (x_callI tk G__law_pick hr (xi_here 0 (xa_cons (xe_v 1) xa_nil))) xa_nil))))) xs_nil)
    (xs_cons (xs_if (t_eq q (xe_v 3) xe_int) (xs_one (xs_ret (xe_tup (xa_cons xe_str (xa_cons (x_callI tk G__law_pick hr (xi_here 0 (xa_cons (xe_lst (xa_cons (xe_v 4) (xa_cons (xe_v 4) (xa_cons xe_str (xa_cons xe_str xa_nil))))) xa_nil))) xa_nil))))) xs_nil)
    (xs_cons (xs_if (t_lt q (xe_v 3) xe_int) (xs_one (xs_ret (xe_tup (xa_cons xe_str (xa_cons (x_callI tk G__law_pick hr (xi_here 0 (xa_cons (xe_lst (xa_cons (xe_v 4) (xa_cons (xe_v 4) (xa_cons xe_str (xa_cons xe_str (xa_cons xe_str xa_nil)))))) xa_nil))) xa_nil))))) xs_nil)
    (xs_cons (xs_if (t_eq q (xe_v 3) xe_int) (xs_one (xs_ret (x_callI tk G__law_pick hr (xi_here 0 (xa_cons (xe_lst (xa_cons (xe_tup (xa_cons xe_str xa_nil)) (xa_cons (xe_tup (xa_cons xe_str xa_nil)) xa_nil))) xa_nil))))) xs_nil)
    (xs_cons (xs_if (t_lt q (xe_v 3) xe_int) (xs_one (xs_ret (x_callI tk G__law_pick hr (xi_here 0 (xa_cons (xe_lst (xa_cons (xe_tup (xa_cons xe_str (xa_cons (xe_v 4) (xa_cons xe_str xa_nil)))) (xa_cons (xe_tup (xa_cons xe_str (xa_cons (xe_v 4) (xa_cons xe_str xa_nil)))) (xa_cons (xe_tup (xa_cons xe_str (xa_cons xe_str (xa_cons xe_str xa_nil)))) (xa_cons (xe_tup (xa_cons xe_str (xa_cons xe_str (xa_cons xe_str xa_nil)))) (xa_cons (xe_tup (xa_cons xe_str (xa_cons xe_str xa_nil))) (xa_cons (xe_tup (xa_cons xe_str (xa_cons xe_str xa_nil))) xa_nil))))))) xa_nil))))) xs_nil)
    (xs_cons (xs_set 5 q.nd (x_callI tk G__law_draw hr (xi_here 0 (xa_cons xe_int xa_nil))))
    (xs_one (xs_ret (x_callI tk G__law_pick hr (xi_here 0 (xa_cons (xe_lst (xa_cons (xe_tup (xa_cons xe_str (xa_cons (xe_v 5) (xa_cons xe_str (xa_cons (xe_v 4) xa_nil))))) (xa_cons (xe_tup (xa_cons xe_str (xa_cons (xe_v 5) (xa_cons xe_str xa_nil)))) (xa_cons (xe_tup (xa_cons xe_str (xa_cons (xe_v 5) (xa_cons xe_str xa_nil)))) (xa_cons (xe_tup (xa_cons xe_str (xa_cons (xe_v 5) (xa_cons xe_str xa_nil)))) (xa_cons (xe_tup (xa_cons xe_str (xa_cons (xe_v 5) (xa_cons xe_str (xa_cons (x_callI tk G__law_pick hr (xi_here 0 (xa_cons (x_add q (xe_v 1) (xe_tup (xa_cons xe_str (xa_cons xe_str xa_nil)))) xa_nil))) xa_nil))))) xa_nil)))))) xa_nil)))))))))))))
theorem ok__law_any_atom {k : Nat} {F__law_draw F__law_pick : List D → Fr} (Z : Gz mg C K) (F : FnP K "_law_any_atom" st__law_any_atom f fd) (gm : mg "_law_any_atom" = some (.ref f)) (G__law_draw : FnG P w K mg base C k "_law_draw" 2 (some 0) .pu F__law_draw) (G__law_pick : FnG P w K mg base C k "_law_pick" 2 (some 0) .pu F__law_pick) : FnG P w K mg base C (k + 1) "_law_any_atom" 3 (some 0) .pu (rf__law_any_atom F__law_draw F__law_pick) :=
  ⟨f, fd, ["pen", "modes", "floors"], okf__law_any_atom Z F G__law_draw G__law_pick, gm, F.kp, F.bindsN (fun _ _ _ _ _ _ us hl => match us, hl with | [_, _, _], _ => rfl), rfl⟩
/-! _law_drawn_condition -/
abbrev st__law_drawn_condition : Stmt := top 11
def ev__law_drawn_condition (F__law_draw : List D → Fr) (F__law_any_atom : List D → Fr) (F__law_drawn_condition : List D → Fr) (F__law_pick : List D → Fr) : Ms :=
  (sSeq (sSet 4 (eCallI F__law_draw 0 (eiHere 0 (eaCons (eC (.int 6)) eaNil))))
  (sSeq (sIf (ebOr (ebV (eBin dEq (eV 3) (eC (.int 0)))) (ebV (eBin (dLtI iLt) (eV 4) (eC (.int 2))))) (sRet (eCallI F__law_any_atom 0 (eiHere 0 (eaCons (eV 1) (eaCons (eV 2) eaNil))))) sNil)
  (sSeq (sIf (ebV (eBin dEq (eV 4) (eC (.int 2)))) (sRet (eTup (eaCons (eC (.str "not")) (eaCons (eCallI F__law_drawn_condition 0 (eiHere 0 (eaCons (eV 1) (eaCons (eV 2) (eaCons (eBin dSub (eV 3) (eC (.int 1))) eaNil))))) eaNil)))) sNil)
  (sSeq (sSet 5 (eA1 dTuple (eLc [6] (itR1 (eaCons (eBin dAdd (eC (.int 2)) (eA1 dInt (eBin dEq (eCallI F__law_draw 0 (eiHere 0 (eaCons (eC (.int 4)) eaNil))) (eC (.int 0))))) eaNil)) (gSet 6) ebYes (eCallI F__law_drawn_condition 0 (eiHere 0 (eaCons (eV 1) (eaCons (eV 2) (eaCons (eBin dSub (eV 3) (eC (.int 1))) eaNil))))))))
  (sRet (eTup (eaCons (eCallI F__law_pick 0 (eiHere 0 (eaCons (eLst (eaCons (eC (.str "and")) (eaCons (eC (.str "and")) (eaCons (eC (.str "or")) eaNil)))) eaNil))) (eaCons (eV 5) eaNil))))))))
def rf__law_drawn_condition (F__law_draw : List D → Fr) (F__law_any_atom : List D → Fr) (F__law_drawn_condition : List D → Fr) (F__law_pick : List D → Fr) : List D → Fr := runF 4 7 [1, 2, 3] (some 0) (ev__law_drawn_condition F__law_draw F__law_any_atom F__law_drawn_condition F__law_pick)
theorem sc__law_drawn_condition : FnScope ["pen", "modes", "floors", "deep", "way", "parts", "lap"] ["pen", "modes", "floors", "deep"] (defScope st__law_drawn_condition) := ⟨rfl, rfl, rfl, by decide +kernel, rfl, by decide +kernel, by decide +kernel⟩
theorem okf__law_drawn_condition {k : Nat} {F__law_draw F__law_any_atom F__law_drawn_condition F__law_pick : List D → Fr} (Z : Gz mg C K) (F : FnP K "_law_drawn_condition" st__law_drawn_condition f fd) (G__law_draw : FnG P w K mg base C k "_law_draw" 2 (some 0) .pu F__law_draw) (G__law_any_atom : FnG P w K mg base C k "_law_any_atom" 3 (some 0) .pu F__law_any_atom) (G__law_drawn_condition : FnG P w K mg base C k "_law_drawn_condition" 4 (some 0) .pu F__law_drawn_condition) (G__law_pick : FnG P w K mg base C k "_law_pick" 2 (some 0) .pu F__law_pick) : FnOk P w K mg base (L2.CX P w) (k + 1) f fd ["pen", "modes", "floors", "deep"] (spD C 4 (some 0) .pu (rf__law_drawn_condition F__law_draw F__law_any_atom F__law_drawn_condition F__law_pick)) := by
  refine fn_ok (ks := [.io, .pl, .pl, .pl, .pl, .pl, .pl]) F sc__law_drawn_condition rfl rfl rfl (by intro i hi; cases hi <;> exact ⟨by decide, rfl⟩) (fun cdv A outer s H E hr => ?_)
  have q := cq_of (ks := [.io, .pl, .pl, .pl, .pl, .pl, .pl]) (C := C) (CX := L2.CX P w) (P := P) (w := w) (base := base) (N := ["pen", "modes", "floors", "deep", "way", "parts", "lap"]) (f := f) (cdv := cdv) (A := A) (outer := outer) (s := s) (H := H) (E := E) (scope := defScope st__law_drawn_condition) (qual := "_law_drawn_condition") Z sc__law_drawn_condition.nd hr
  have tk := takes_of (X := cxOf (L2.CX P w) P w K mg base ["pen", "modes", "floors", "deep", "way", "parts", "lap"] "_law_drawn_condition" (defScope st__law_drawn_condition) f cdv A outer s H E) rfl rfl rfl rfl
  have hp := passes_of (X := cxOf (L2.CX P w) P w K mg base ["pen", "modes", "floors", "deep", "way", "parts", "lap"] "_law_drawn_condition" (defScope st__law_drawn_condition) f cdv A outer s H E) rfl
  exact (xs_cons (xs_set 4 q.nd (x_callI tk G__law_draw hr (xi_here 0 (xa_cons xe_int xa_nil))))
    (xs_cons (xs_if (XW.pt (xw_or (t_eq q (xe_v 3) xe_int) (xw_or1 (t_lt q (xe_v 4) xe_int)))) (xs_one (xs_ret (x_callI tk G__law_any_atom hr (xi_here 0 (xa_cons (xe_v 1) (xa_cons (xe_v 2) xa_nil)))))) xs_nil)
    (xs_cons (xs_if (t_eq q (xe_v 4) xe_int) (xs_one (xs_ret (xe_tup (xa_cons xe_str (xa_cons (x_callI tk G__law_drawn_condition hr (xi_here 0 (xa_cons (xe_v 1) (xa_cons (xe_v 2) (xa_cons (x_sub q (xe_v 3) xe_int) xa_nil))))) xa_nil))))) xs_nil)
    (xs_cons (xs_set 5 q.nd (x_tuple q (xe_lc q.calm q.nd (xl_lc (own := [("lap", 6)]) (xi_range1 rfl (q.fb _ (by decide)) (xa_cons (x_add q xe_int (x_int q (x_eq q (x_callI tk G__law_draw hr (xi_here 0 (xa_cons xe_int xa_nil))) xe_int))) xa_nil)) rfl (fun _ _ _ _ _ => (xg_name 6 (q.bk []).nd)) (fun _ _ _ _ _ => xc_nil) (fun _ _ _ _ _ => (x_callI takes0 G__law_drawn_condition hr (xi_here 0 (xa_cons (xe_v 1) (xa_cons (xe_v 2) (xa_cons (x_sub (q.bk []) (xe_v 3) xe_int) xa_nil))))))))))
    (xs_one (xs_ret (xe_tup (xa_cons (x_callI tk G__law_pick hr (xi_here 0 (xa_cons (xe_lst (xa_cons xe_str (xa_cons xe_str (xa_cons xe_str xa_nil)))) xa_nil))) (xa_cons (xe_v 5) xa_nil)))))))))
theorem ok__law_drawn_condition {k : Nat} {F__law_draw F__law_any_atom F__law_drawn_condition F__law_pick : List D → Fr} (Z : Gz mg C K) (F : FnP K "_law_drawn_condition" st__law_drawn_condition f fd) (gm : mg "_law_drawn_condition" = some (.ref f)) (G__law_draw : FnG P w K mg base C k "_law_draw" 2 (some 0) .pu F__law_draw) (G__law_any_atom : FnG P w K mg base C k "_law_any_atom" 3 (some 0) .pu F__law_any_atom) (G__law_drawn_condition : FnG P w K mg base C k "_law_drawn_condition" 4 (some 0) .pu F__law_drawn_condition) (G__law_pick : FnG P w K mg base C k "_law_pick" 2 (some 0) .pu F__law_pick) : FnG P w K mg base C (k + 1) "_law_drawn_condition" 4 (some 0) .pu (rf__law_drawn_condition F__law_draw F__law_any_atom F__law_drawn_condition F__law_pick) :=
  ⟨f, fd, ["pen", "modes", "floors", "deep"], okf__law_drawn_condition Z F G__law_draw G__law_any_atom G__law_drawn_condition G__law_pick, gm, F.kp, F.bindsN (fun _ _ _ _ _ _ us hl => match us, hl with | [_, _, _, _], _ => rfl), rfl⟩
theorem nv__law_drawn_condition {k : Nat} (F : FnP K "_law_drawn_condition" st__law_drawn_condition f fd) (gm : mg "_law_drawn_condition" = some (.ref f)) : FnG P w K mg base C (k + 1) "_law_drawn_condition" 4 (some 0) .pu (fun _ => .st) := by
  have h : FnG P w K mg base C (k + 1) "_law_drawn_condition" 4 (some 0) .pu (runF 4 7 [1, 2, 3] (some 0) fun _ => .st) := ⟨f, fd, ["pen", "modes", "floors", "deep"], fn_ok (ks := [.io, .pl, .pl, .pl, .pl, .pl, .pl]) F sc__law_drawn_condition rfl rfl rfl (by intro i hi; cases hi <;> exact ⟨by decide, rfl⟩) (fun cdv A outer s H E hr => xss_never), gm, F.kp, F.bindsN (fun _ _ _ _ _ _ us hl => match us, hl with | [_, _, _, _], _ => rfl), rfl⟩
  exact h.imp fun ds _ h2 => absurd rfl h2
/-! _law_drawn_sight -/
abbrev st__law_drawn_sight : Stmt := top 12
def ev__law_drawn_sight (F__law_draw : List D → Fr) (F__law_landings : List D → Fr) (F__law_pick : List D → Fr) : Ms :=
  (sSeq (sUnp (gsCons (gSet 2) (gsCons (gSet 3) (gsCons (gSet 4) gsNil))) (eV 1))
  (sSeq (sSet 5 (eBin dRep (eLst (eaCons (eC (.int 0)) eaNil)) (eV 2)))
  (sSeq (sFor [] (itR1 (eaCons (eCallI F__law_draw 0 (eiHere 0 (eaCons (eBin dAdd (eV 3) (eC (.int 1))) eaNil))) eaNil)) (gSet 6) (sSeq (sSet 7 (eCallI F__law_draw 0 (eiHere 0 (eaCons (eV 2) eaNil))))
  (sPut 5 (eV 7) (eBin dAdd (eBin dIx (eV 5) (eV 7)) (eC (.int 1))))))
  (sSeq (sSet 8 (eA1 dTuple (eLc [9] (itSeq (eCall F__law_landings (eaCons (eV 2) eaNil))) (gSet 9) (ebV (eBin dEq (eCallI F__law_draw 0 (eiHere 0 (eaCons (eC (.int 2)) eaNil))) (eC (.int 0)))) (eV 9))))
  (sSeq (sSet 10 (eA1 dTuple (eLc [11, 12] (itSeq (eV 4)) (gTupD (gsCons (gSet 11) (gsCons (gSet 12) gsNil))) ebYes (eTup (eaCons (eV 11) (eaCons (eCallI F__law_draw 0 (eiHere 0 (eaCons (eV 2) eaNil))) (eaCons (eCallI F__law_pick 0 (eiHere 0 (eaCons (eV 12) eaNil))) eaNil)))))))
  (sRet (eTup (eaCons (eCallI F__law_draw 0 (eiHere 0 (eaCons (eV 2) eaNil))) (eaCons (eA1 dTuple (eV 5)) (eaCons (eV 3) (eaCons (eV 8) (eaCons (eV 10) eaNil))))))))))))
def rf__law_drawn_sight (F__law_draw : List D → Fr) (F__law_landings : List D → Fr) (F__law_pick : List D → Fr) : List D → Fr := runF 2 13 [1] (some 0) (ev__law_drawn_sight F__law_draw F__law_landings F__law_pick)
theorem sc__law_drawn_sight : FnScope ["pen", "setting", "floors", "room", "others", "load", "lap", "at", "lit", "one", "cars", "car", "modes"] ["pen", "setting"] (defScope st__law_drawn_sight) := ⟨rfl, rfl, rfl, by decide +kernel, rfl, by decide +kernel, by decide +kernel⟩
theorem okf__law_drawn_sight {k : Nat} {F__law_draw F__law_landings F__law_pick : List D → Fr} (Z : Gz mg C K) (F : FnP K "_law_drawn_sight" st__law_drawn_sight f fd) (G__law_draw : FnG P w K mg base C k "_law_draw" 2 (some 0) .pu F__law_draw) (G__law_landings : FnG P w K mg base C k "_law_landings" 1 none .fr F__law_landings) (G__law_pick : FnG P w K mg base C k "_law_pick" 2 (some 0) .pu F__law_pick) : FnOk P w K mg base (L2.CX P w) (k + 1) f fd ["pen", "setting"] (spD C 2 (some 0) .pu (rf__law_drawn_sight F__law_draw F__law_landings F__law_pick)) := by
  refine fn_ok (ks := [.io, .pl, .pl, .pl, .pl, .own, .pl, .pl, .pl, .pl, .pl, .pl, .pl]) F sc__law_drawn_sight rfl rfl rfl (by intro i hi; cases hi <;> exact ⟨by decide, rfl⟩) (fun cdv A outer s H E hr => ?_)
  have q := cq_of (ks := [.io, .pl, .pl, .pl, .pl, .own, .pl, .pl, .pl, .pl, .pl, .pl, .pl]) (C := C) (CX := L2.CX P w) (P := P) (w := w) (base := base) (N := ["pen", "setting", "floors", "room", "others", "load", "lap", "at", "lit", "one", "cars", "car", "modes"]) (f := f) (cdv := cdv) (A := A) (outer := outer) (s := s) (H := H) (E := E) (scope := defScope st__law_drawn_sight) (qual := "_law_drawn_sight") Z sc__law_drawn_sight.nd hr
  have tk := takes_of (X := cxOf (L2.CX P w) P w K mg base ["pen", "setting", "floors", "room", "others", "load", "lap", "at", "lit", "one", "cars", "car", "modes"] "_law_drawn_sight" (defScope st__law_drawn_sight) f cdv A outer s H E) rfl rfl rfl rfl
  have hp := passes_of (X := cxOf (L2.CX P w) P w K mg base ["pen", "setting", "floors", "room", "others", "load", "lap", "at", "lit", "one", "cars", "car", "modes"] "_law_drawn_sight" (defScope st__law_drawn_sight) f cdv A outer s H E) rfl
  exact (xs_cons (xs_unp q.K q.calm (xe_v 1) (xgs_cons (xg_name 2 q.nd) (xgs_cons (xg_name 3 q.nd) (xgs_cons (xg_name 4 q.nd) xgs_nil))) (gl_cons (gl_cons (gl_cons gl_nil))))
    (xs_cons (xs_set 5 q.nd (x_rep q (xe_lst (xa_cons xe_int xa_nil)) (xe_v 2)))
    (xs_cons (xs_for [] hp q.calm (xi_range1 rfl (q.fb _ (by decide)) (xa_cons (x_callI tk G__law_draw hr (xi_here 0 (xa_cons (x_add q (xe_v 3) xe_int) xa_nil))) xa_nil)) (xg_name 6 (q.lk []).nd) (xs_cons (xs_set 7 (q.lk []).nd (x_callI tk G__law_draw hr (xi_here 0 (xa_cons (xe_v 2) xa_nil))))
    (xs_one (xs_put 5 (q.lk []).u1 (x_add (q.lk []) (x_ix (q.lk []) (xe_v 5) (xe_v 7)) xe_int) (xe_v 7)))))
    (xs_cons (xs_set 8 q.nd (x_tuple q (xe_lc q.calm q.nd (xl_lc (own := [("one", 9)]) (xi_seq q.K (x_call tk G__law_landings hr (xa_cons (xe_v 2) xa_nil))) rfl (fun _ _ _ _ _ => (xg_name 9 (q.bk []).nd)) (fun _ _ _ _ _ => (xc_one (t_eq (q.bk []) (x_callI takes0 G__law_draw hr (xi_here 0 (xa_cons xe_int xa_nil))) xe_int))) (fun _ _ _ _ _ => (xe_v 9))))))
    (xs_cons (xs_set 10 q.nd (x_tuple q (xe_lc q.calm q.nd (xl_lc (own := [("car", 11), ("modes", 12)]) (xi_seq q.K (xe_v 4)) rfl (fun _ _ _ _ _ => (xg_tup (q.bk []).K (q.bk []).calm (xgs_cons (xg_name 11 (q.bk []).nd) (xgs_cons (xg_name 12 (q.bk []).nd) xgs_nil)) (gl_cons (gl_cons gl_nil)))) (fun _ _ _ _ _ => xc_nil) (fun _ _ _ _ _ => (xe_tup (xa_cons (xe_v 11) (xa_cons (x_callI takes0 G__law_draw hr (xi_here 0 (xa_cons (xe_v 2) xa_nil))) (xa_cons (x_callI takes0 G__law_pick hr (xi_here 0 (xa_cons (xe_v 12) xa_nil))) xa_nil)))))))))
    (xs_one (xs_ret (xe_tup (xa_cons (x_callI tk G__law_draw hr (xi_here 0 (xa_cons (xe_v 2) xa_nil))) (xa_cons (x_tuple q (xe_v 5)) (xa_cons (xe_v 3) (xa_cons (xe_v 8) (xa_cons (xe_v 10) xa_nil)))))))))))))
theorem ok__law_drawn_sight {k : Nat} {F__law_draw F__law_landings F__law_pick : List D → Fr} (Z : Gz mg C K) (F : FnP K "_law_drawn_sight" st__law_drawn_sight f fd) (gm : mg "_law_drawn_sight" = some (.ref f)) (G__law_draw : FnG P w K mg base C k "_law_draw" 2 (some 0) .pu F__law_draw) (G__law_landings : FnG P w K mg base C k "_law_landings" 1 none .fr F__law_landings) (G__law_pick : FnG P w K mg base C k "_law_pick" 2 (some 0) .pu F__law_pick) : FnG P w K mg base C (k + 1) "_law_drawn_sight" 2 (some 0) .pu (rf__law_drawn_sight F__law_draw F__law_landings F__law_pick) :=
  ⟨f, fd, ["pen", "setting"], okf__law_drawn_sight Z F G__law_draw G__law_landings G__law_pick, gm, F.kp, F.bindsN (fun _ _ _ _ _ _ us hl => match us, hl with | [_, _], _ => rfl), rfl⟩
/-! _law_pen -/
abbrev st__law_pen : Stmt := top 13
def ev__law_pen  : Ms :=
  (sSeq (sSet 1 (eC (.int 0)))
  (sSeq (sFor [] (itSeq (eV 0)) (gSet 2) (sSet 1 (eBin dMod (eA1 dInt (eBin dAdd (eBin dMul (eV 1) (eC (.int 47))) (eV 2))) (eC (.int 1000000007)))))
  (sRet (eDisp (eaCons (eC (.str "cells")) (eaCons (eA1 dList (eV 0)) (eaCons (eC (.str "at")) (eaCons (eC (.int 0)) (eaCons (eC (.str "digits")) (eaCons (eC (.int 0)) (eaCons (eC (.str "count")) (eaCons (eC (.int 0)) (eaCons (eC (.str "fold")) (eaCons (eV 1) eaNil))))))))))))))
def rf__law_pen  : List D → Fr := runF 1 3 [] none (ev__law_pen )
theorem sc__law_pen : FnScope ["script", "fold", "cell"] ["script"] (defScope st__law_pen) := ⟨rfl, rfl, rfl, by decide +kernel, rfl, by decide +kernel, by decide +kernel⟩
theorem okf__law_pen {k : Nat} (Z : Gz mg C K) (F : FnP K "_law_pen" st__law_pen f fd)  : FnOk P w K mg base (L2.CX P w) (k + 1) f fd ["script"] (spD C 1 none .fr (rf__law_pen )) := by
  refine fn_ok (ks := [.par, .pl, .pl]) F sc__law_pen rfl rfl rfl (by intro i hi; cases hi <;> exact ⟨by decide, rfl⟩) (fun cdv A outer s H E hr => ?_)
  have q := cq_of (ks := [.par, .pl, .pl]) (C := C) (CX := L2.CX P w) (P := P) (w := w) (base := base) (N := ["script", "fold", "cell"]) (f := f) (cdv := cdv) (A := A) (outer := outer) (s := s) (H := H) (E := E) (scope := defScope st__law_pen) (qual := "_law_pen") Z sc__law_pen.nd hr
  have tk := takes_of (X := cxOf (L2.CX P w) P w K mg base ["script", "fold", "cell"] "_law_pen" (defScope st__law_pen) f cdv A outer s H E) rfl rfl rfl rfl
  have hp := passes_of (X := cxOf (L2.CX P w) P w K mg base ["script", "fold", "cell"] "_law_pen" (defScope st__law_pen) f cdv A outer s H E) rfl
  exact (xs_cons (xs_set 1 q.nd xe_int)
    (xs_cons (xs_for [] hp q.calm (xi_seq q.K (xe_v 0)) (xg_name 2 (q.lk []).nd) (xs_one (xs_set 1 (q.lk []).nd (x_mod (q.lk []) (x_int (q.lk []) (x_add (q.lk []) (x_mul (q.lk []) (xe_v 1) xe_int) (xe_v 2))) xe_int))))
    (xs_one (xs_ret (xe_disp (xp_cons xe_str (x_list q (xe_v 0)) (xp_cons xe_str xe_int (xp_cons xe_str xe_int (xp_cons xe_str xe_int (xp_cons xe_str (xe_v 1) xp_nil))))))))))
theorem ok__law_pen {k : Nat} (Z : Gz mg C K) (F : FnP K "_law_pen" st__law_pen f fd) (gm : mg "_law_pen" = some (.ref f))  : FnG P w K mg base C (k + 1) "_law_pen" 1 none .fr (rf__law_pen ) :=
  ⟨f, fd, ["script"], okf__law_pen Z F , gm, F.kp, F.bindsN (fun _ _ _ _ _ _ us hl => match us, hl with | [_], _ => rfl), rfl⟩
/-! _law_draw -/
abbrev st__law_draw : Stmt := top 14
def ev__law_draw  : Ms :=
  (sSeq (sPut 0 (eC (.str "count")) (eBin dAdd (eBin dIx (eV 0) (eC (.str "count"))) (eC (.int 1))))
  (sSeq (sIf (ebAnd (ebV (eBin dEq (eBin dIx (eV 0) (eC (.str "digits"))) (eC (.int 0)))) (ebV (eBin (dLtI iLt) (eBin dIx (eV 0) (eC (.str "at"))) (eA1 dLen (eBin dIx (eV 0) (eC (.str "cells"))))))) (sSeq (sSet 2 (ePure (eBin dIx (eBin dIx (eV 0) (eC (.str "cells"))) (ePure (eBin dIx (eV 0) (eC (.str "at")))))))
  (sSeq (sPut 0 (eC (.str "at")) (eBin dAdd (eBin dIx (eV 0) (eC (.str "at"))) (eC (.int 1))))
  (sIf (ebV (eBin (dLtI iGe) (eV 2) (eBin dPow (eC (.int 10)) (eC (.int 18))))) (sPut 0 (eC (.str "digits")) (eBin dSub (eV 2) (eBin dPow (eC (.int 10)) (eC (.int 18))))) (sPut 0 (eC (.str "fold")) (eBin dMod (eA1 dInt (eBin dAdd (eBin dMul (eBin dIx (eV 0) (eC (.str "fold"))) (eC (.int 69069))) (eV 2))) (eC (.int 2147483587))))))) sNil)
  (sSeq (sIf (ebV (eBin (dLtI iGt) (eBin dIx (eV 0) (eC (.str "digits"))) (eC (.int 0)))) (sSeq (sSet 3 (eBin dMod (eA1 dInt (eBin dIx (eV 0) (eC (.str "digits")))) (eV 1)))
  (sSeq (sPut 0 (eC (.str "digits")) (eBin dFdiv (eBin dIx (eV 0) (eC (.str "digits"))) (eV 1)))
  (sRet (eV 3)))) sNil)
  (sSeq (sSet 4 (eBin dMod (eA1 dInt (eBin dAdd (eBin dAdd (eBin dMul (eBin dIx (eV 0) (eC (.str "fold"))) (eC (.int 48271))) (eBin dMul (eBin dIx (eV 0) (eC (.str "count"))) (eC (.int 7919)))) (eC (.int 13)))) (eC (.int 2147483647))))
  (sSeq (sSet 4 (eBin dMod (eA1 dInt (eBin dAdd (eBin dAdd (eBin dMul (eV 4) (eV 4)) (eBin dMul (eC (.int 31)) (eV 4))) (eBin dIx (eV 0) (eC (.str "count"))))) (eC (.int 2147483629))))
  (sSeq (sPut 0 (eC (.str "fold")) (eBin dMod (eA1 dInt (eBin dAdd (eBin dMul (eV 4) (eC (.int 16807))) (eC (.int 7)))) (eC (.int 2147483647))))
  (sRet (eBin dMod (eA1 dInt (eBin dFdiv (eV 4) (eC (.int 64)))) (eV 1)))))))))
def rf__law_draw  : List D → Fr := runF 2 5 [1] (some 0) (ev__law_draw )
theorem sc__law_draw : FnScope ["pen", "many", "cell", "digit", "blend"] ["pen", "many"] (defScope st__law_draw) := ⟨rfl, rfl, rfl, by decide +kernel, rfl, by decide +kernel, by decide +kernel⟩
theorem okf__law_draw {k : Nat} (Z : Gz mg C K) (F : FnP K "_law_draw" st__law_draw f fd)  : FnOk P w K mg base (L2.CX P w) (k + 1) f fd ["pen", "many"] (spD C 2 (some 0) .pu (rf__law_draw )) := by
  refine fn_ok (ks := [.io, .pl, .pl, .pl, .pl]) F sc__law_draw rfl rfl rfl (by intro i hi; cases hi <;> exact ⟨by decide, rfl⟩) (fun cdv A outer s H E hr => ?_)
  have q := cq_of (ks := [.io, .pl, .pl, .pl, .pl]) (C := C) (CX := L2.CX P w) (P := P) (w := w) (base := base) (N := ["pen", "many", "cell", "digit", "blend"]) (f := f) (cdv := cdv) (A := A) (outer := outer) (s := s) (H := H) (E := E) (scope := defScope st__law_draw) (qual := "_law_draw") Z sc__law_draw.nd hr
  have tk := takes_of (X := cxOf (L2.CX P w) P w K mg base ["pen", "many", "cell", "digit", "blend"] "_law_draw" (defScope st__law_draw) f cdv A outer s H E) rfl rfl rfl rfl
  have hp := passes_of (X := cxOf (L2.CX P w) P w K mg base ["pen", "many", "cell", "digit", "blend"] "_law_draw" (defScope st__law_draw) f cdv A outer s H E) rfl
  exact (xs_cons (xs_put 0 q.u1 (x_add q (x_ix q (xe_v 0) xe_str) xe_int) xe_str)
    (xs_cons (xs_if (XW.pt (xw_and (t_eq q (x_ix q (xe_v 0) xe_str) xe_int) (xw_and1 (t_lt q (x_ix q (xe_v 0) xe_str) (x_len q (x_ix q (xe_v 0) xe_str)))))) (xs_cons (xs_set 2 q.nd (XE.pure (x_ix q (x_ix q (xe_v 0) xe_str) (XE.pure (x_ix q (xe_v 0) xe_str)))))
    (xs_cons (xs_put 0 q.u1 (x_add q (x_ix q (xe_v 0) xe_str) xe_int) xe_str)
    (xs_one (xs_if (t_ge q (xe_v 2) (x_pow q xe_int xe_int)) (xs_one (xs_put 0 q.u1 (x_sub q (xe_v 2) (x_pow q xe_int xe_int)) xe_str)) (xs_one (xs_put 0 q.u1 (x_mod q (x_int q (x_add q (x_mul q (x_ix q (xe_v 0) xe_str) xe_int) (xe_v 2))) xe_int) xe_str)))))) xs_nil)
    (xs_cons (xs_if (t_gt q (x_ix q (xe_v 0) xe_str) xe_int) (xs_cons (xs_set 3 q.nd (x_mod q (x_int q (x_ix q (xe_v 0) xe_str)) (xe_v 1)))
    (xs_cons (xs_put 0 q.u1 (x_fdiv q (x_ix q (xe_v 0) xe_str) (xe_v 1)) xe_str)
    (xs_one (xs_ret (xe_v 3))))) xs_nil)
    (xs_cons (xs_set 4 q.nd (x_mod q (x_int q (x_add q (x_add q (x_mul q (x_ix q (xe_v 0) xe_str) xe_int) (x_mul q (x_ix q (xe_v 0) xe_str) xe_int)) xe_int)) xe_int))
    (xs_cons (xs_set 4 q.nd (x_mod q (x_int q (x_add q (x_add q (x_mul q (xe_v 4) (xe_v 4)) (x_mul q xe_int (xe_v 4))) (x_ix q (xe_v 0) xe_str))) xe_int))
    (xs_cons (xs_put 0 q.u1 (x_mod q (x_int q (x_add q (x_mul q (xe_v 4) xe_int) xe_int)) xe_int) xe_str)
    (xs_one (xs_ret (x_mod q (x_int q (x_fdiv q (xe_v 4) xe_int)) (xe_v 1))))))))))
theorem ok__law_draw {k : Nat} (Z : Gz mg C K) (F : FnP K "_law_draw" st__law_draw f fd) (gm : mg "_law_draw" = some (.ref f))  : FnG P w K mg base C (k + 1) "_law_draw" 2 (some 0) .pu (rf__law_draw ) :=
  ⟨f, fd, ["pen", "many"], okf__law_draw Z F , gm, F.kp, F.bindsN (fun _ _ _ _ _ _ us hl => match us, hl with | [_, _], _ => rfl), rfl⟩
/-! _law_pick -/
abbrev st__law_pick : Stmt := top 15
def ev__law_pick (F__law_draw : List D → Fr) : Ms :=
  (sRet (ePure (eBin dIx (eV 1) (eCallI F__law_draw 0 (eiHere 0 (eaCons (eA1 dLen (eV 1)) eaNil))))))
def rf__law_pick (F__law_draw : List D → Fr) : List D → Fr := runF 2 2 [] (some 0) (ev__law_pick F__law_draw)
theorem sc__law_pick : FnScope ["pen", "some"] ["pen", "some"] (defScope st__law_pick) := ⟨rfl, rfl, rfl, by decide +kernel, rfl, by decide +kernel, by decide +kernel⟩
theorem okf__law_pick {k : Nat} {F__law_draw : List D → Fr} (Z : Gz mg C K) (F : FnP K "_law_pick" st__law_pick f fd) (G__law_draw : FnG P w K mg base C k "_law_draw" 2 (some 0) .pu F__law_draw) : FnOk P w K mg base (L2.CX P w) (k + 1) f fd ["pen", "some"] (spD C 2 (some 0) .pu (rf__law_pick F__law_draw)) := by
  refine fn_ok (ks := [.io, .par]) F sc__law_pick rfl rfl rfl (by intro i hi; cases hi <;> exact ⟨by decide, rfl⟩) (fun cdv A outer s H E hr => ?_)
  have q := cq_of (ks := [.io, .par]) (C := C) (CX := L2.CX P w) (P := P) (w := w) (base := base) (N := ["pen", "some"]) (f := f) (cdv := cdv) (A := A) (outer := outer) (s := s) (H := H) (E := E) (scope := defScope st__law_pick) (qual := "_law_pick") Z sc__law_pick.nd hr
  have tk := takes_of (X := cxOf (L2.CX P w) P w K mg base ["pen", "some"] "_law_pick" (defScope st__law_pick) f cdv A outer s H E) rfl rfl rfl rfl
  have hp := passes_of (X := cxOf (L2.CX P w) P w K mg base ["pen", "some"] "_law_pick" (defScope st__law_pick) f cdv A outer s H E) rfl
  exact (xs_one (xs_ret (XE.pure (x_ix q (xe_v 1) (x_callI tk G__law_draw hr (xi_here 0 (xa_cons (x_len q (xe_v 1)) xa_nil)))))))
theorem ok__law_pick {k : Nat} {F__law_draw : List D → Fr} (Z : Gz mg C K) (F : FnP K "_law_pick" st__law_pick f fd) (gm : mg "_law_pick" = some (.ref f)) (G__law_draw : FnG P w K mg base C k "_law_draw" 2 (some 0) .pu F__law_draw) : FnG P w K mg base C (k + 1) "_law_pick" 2 (some 0) .pu (rf__law_pick F__law_draw) :=
  ⟨f, fd, ["pen", "some"], okf__law_pick Z F G__law_draw, gm, F.kp, F.bindsN (fun _ _ _ _ _ _ us hl => match us, hl with | [_, _], _ => rfl), rfl⟩
/-! _law_is -/
abbrev st__law_is : Stmt := top 16
def ev__law_is (F__law_is : List D → Fr) : Ms :=
  (sSeq (sIf (ebT (eUn (dIsi "tuple") (eV 1))) (sSeq (sIf (ebOr (ebNot (ebT (eUn (dIsi "tuple") (eV 0)))) (ebV (eBin dNe (eA1 dLen (eV 0)) (eA1 dLen (eV 1))))) (sRet (eC (.bl false))) sNil)
  (sRet (eBin dEq (eLc [2] (itR1 (eaCons (eA1 dLen (eV 1)) eaNil)) (gSet 2) (ebNot (ebT (eCall F__law_is (eaCons (eBin dIx (eV 0) (eV 2)) (eaCons (eBin dIx (eV 1) (eV 2)) eaNil))))) (eV 2)) (eLst eaNil)))) sNil)
  (sSeq (sIf (ebV (eBin dIsN (eV 1) (eC .non))) (sRet (eBin dIsN (eV 0) (eC .non))) sNil)
  (sSeq (sIf (ebV (eBin dIsB (eV 1) (eC (.bl true)))) (sRet (eBin dIsB (eV 0) (eC (.bl true)))) sNil)
  (sSeq (sIf (ebV (eBin dIsB (eV 1) (eC (.bl false)))) (sRet (eBin dIsB (eV 0) (eC (.bl false)))) sNil)
  (sSeq (sIf (ebT (eUn (dIsi "str") (eV 1))) (sRet (eAndV (eUn (dIsi "str") (eV 0)) (eBin dEq (eV 0) (eV 1)))) sNil)
  (sRet (eAndV (eUn (dIsi "int") (eV 0)) (eAndV (eNotV (eUn (dIsi "bool") (eV 0))) (eBin dEq (eV 0) (eV 1))))))))))
def rf__law_is (F__law_is : List D → Fr) : List D → Fr := runF 2 3 [] none (ev__law_is F__law_is)
theorem sc__law_is : FnScope ["told", "due", "at"] ["told", "due"] (defScope st__law_is) := ⟨rfl, rfl, rfl, by decide +kernel, rfl, by decide +kernel, by decide +kernel⟩
theorem okf__law_is {k : Nat} {F__law_is : List D → Fr} (Z : Gz mg C K) (F : FnP K "_law_is" st__law_is f fd) (G__law_is : FnG P w K mg base C k "_law_is" 2 none .pu F__law_is) : FnOk P w K mg base (L2.CX P w) (k + 1) f fd ["told", "due"] (spD C 2 none .pu (rf__law_is F__law_is)) := by
  refine fn_ok (ks := [.par, .par, .pl]) F sc__law_is rfl rfl rfl (by intro i hi; cases hi <;> exact ⟨by decide, rfl⟩) (fun cdv A outer s H E hr => ?_)
  have q := cq_of (ks := [.par, .par, .pl]) (C := C) (CX := L2.CX P w) (P := P) (w := w) (base := base) (N := ["told", "due", "at"]) (f := f) (cdv := cdv) (A := A) (outer := outer) (s := s) (H := H) (E := E) (scope := defScope st__law_is) (qual := "_law_is") Z sc__law_is.nd hr
  have tk := takes_of (X := cxOf (L2.CX P w) P w K mg base ["told", "due", "at"] "_law_is" (defScope st__law_is) f cdv A outer s H E) rfl rfl rfl rfl
  have hp := passes_of (X := cxOf (L2.CX P w) P w K mg base ["told", "due", "at"] "_law_is" (defScope st__law_is) f cdv A outer s H E) rfl
  exact (xs_cons (xs_if (t_tru q (x_isi q "tuple" "tuple" (xe_v 1))) (xs_cons (xs_if (XW.pt (xw_or (xt_not (t_tru q (x_isi q "tuple" "tuple" (xe_v 0)))) (xw_or1 (t_ne q (x_len q (xe_v 0)) (x_len q (xe_v 1)))))) (xs_one (xs_ret xe_bl)) xs_nil)
    (xs_one (xs_ret (x_eq q (xe_lc q.calm q.nd (xl_lc (own := [("at", 2)]) (xi_range1 rfl (q.fb _ (by decide)) (xa_cons (x_len q (xe_v 1)) xa_nil)) rfl (fun _ _ _ _ _ => (xg_name 2 (q.bk []).nd)) (fun _ _ _ _ _ => (xc_one (xt_not (t_tru (q.bk []) (x_call takes0 G__law_is hr (xa_cons (x_ix (q.bk []) (xe_v 0) (xe_v 2)) (xa_cons (x_ix (q.bk []) (xe_v 1) (xe_v 2)) xa_nil))))))) (fun _ _ _ _ _ => (xe_v 2)))) (xe_lst xa_nil))))) xs_nil)
    (xs_cons (xs_if (t_isN q (xe_v 1) xe_non) (xs_one (xs_ret (x_isN q (xe_v 0) xe_non))) xs_nil)
    (xs_cons (xs_if (t_isB q (xe_v 1) xe_bl) (xs_one (xs_ret (x_isB q (xe_v 0) xe_bl))) xs_nil)
    (xs_cons (xs_if (t_isB q (xe_v 1) xe_bl) (xs_one (xs_ret (x_isB q (xe_v 0) xe_bl))) xs_nil)
    (xs_cons (xs_if (t_tru q (x_isi q "str" "str" (xe_v 1))) (xs_one (xs_ret (xe_and (x_isi q "str" "str" (xe_v 0)) (xe_one (x_eq q (xe_v 0) (xe_v 1)))))) xs_nil)
    (xs_one (xs_ret (xe_and (x_isi q "int" "int" (xe_v 0)) (xe_and (xe_not (x_isi q "bool" "bool" (xe_v 0))) (xe_one (x_eq q (xe_v 0) (xe_v 1))))))))))))
theorem ok__law_is {k : Nat} {F__law_is : List D → Fr} (Z : Gz mg C K) (F : FnP K "_law_is" st__law_is f fd) (gm : mg "_law_is" = some (.ref f)) (G__law_is : FnG P w K mg base C k "_law_is" 2 none .pu F__law_is) : FnG P w K mg base C (k + 1) "_law_is" 2 none .pu (rf__law_is F__law_is) :=
  ⟨f, fd, ["told", "due"], okf__law_is Z F G__law_is, gm, F.kp, F.bindsN (fun _ _ _ _ _ _ us hl => match us, hl with | [_, _], _ => rfl), rfl⟩
theorem nv__law_is {k : Nat} (F : FnP K "_law_is" st__law_is f fd) (gm : mg "_law_is" = some (.ref f)) : FnG P w K mg base C (k + 1) "_law_is" 2 none .pu (fun _ => .st) := by
  have h : FnG P w K mg base C (k + 1) "_law_is" 2 none .pu (runF 2 3 [] none fun _ => .st) := ⟨f, fd, ["told", "due"], fn_ok (ks := [.par, .par, .pl]) F sc__law_is rfl rfl rfl (by intro i hi; cases hi <;> exact ⟨by decide, rfl⟩) (fun cdv A outer s H E hr => xss_never), gm, F.kp, F.bindsN (fun _ _ _ _ _ _ us hl => match us, hl with | [_, _], _ => rfl), rfl⟩
  exact h.imp fun ds _ h2 => absurd rfl h2
/-! _law_landings -/
abbrev st__law_landings : Stmt := top 17
def ev__law_landings  : Ms :=
  (sSeq (sSet 1 (eLst eaNil))
  (sSeq (sFor [] (itR1 (eaCons (eV 0) eaNil)) (gSet 2) (sDrop (eMt "list" 1 dExt (eaCons (eLc [3] (itSeq (eLst (eaCons (eC (.str "down")) (eaCons (eC (.str "up")) eaNil)))) (gSet 3) (ebIf (ebV (eBin dEq (eV 3) (eC (.str "down")))) (ebV (eBin (dLtI iGt) (eV 2) (eC (.int 0)))) (ebV (eBin (dLtI iLt) (eV 2) (eBin dSub (eV 0) (eC (.int 1)))))) (eTup (eaCons (eV 2) (eaCons (eV 3) eaNil)))) eaNil))))
  (sRet (eMv 1))))
def rf__law_landings  : List D → Fr := runF 1 4 [0] none (ev__law_landings )
theorem sc__law_landings : FnScope ["floors", "found", "floor", "way"] ["floors"] (defScope st__law_landings) := ⟨rfl, rfl, rfl, by decide +kernel, rfl, by decide +kernel, by decide +kernel⟩
theorem okf__law_landings {k : Nat} (Z : Gz mg C K) (F : FnP K "_law_landings" st__law_landings f fd)  : FnOk P w K mg base (L2.CX P w) (k + 1) f fd ["floors"] (spD C 1 none .fr (rf__law_landings )) := by
  refine fn_ok (ks := [.pl, .own, .pl, .pl]) F sc__law_landings rfl rfl rfl (by intro i hi; cases hi <;> exact ⟨by decide, rfl⟩) (fun cdv A outer s H E hr => ?_)
  have q := cq_of (ks := [.pl, .own, .pl, .pl]) (C := C) (CX := L2.CX P w) (P := P) (w := w) (base := base) (N := ["floors", "found", "floor", "way"]) (f := f) (cdv := cdv) (A := A) (outer := outer) (s := s) (H := H) (E := E) (scope := defScope st__law_landings) (qual := "_law_landings") Z sc__law_landings.nd hr
  have tk := takes_of (X := cxOf (L2.CX P w) P w K mg base ["floors", "found", "floor", "way"] "_law_landings" (defScope st__law_landings) f cdv A outer s H E) rfl rfl rfl rfl
  have hp := passes_of (X := cxOf (L2.CX P w) P w K mg base ["floors", "found", "floor", "way"] "_law_landings" (defScope st__law_landings) f cdv A outer s H E) rfl
  exact (xs_cons (xs_set 1 q.nd (xe_lst xa_nil))
    (xs_cons (xs_for [] hp q.calm (xi_range1 rfl (q.fb _ (by decide)) (xa_cons (xe_v 0) xa_nil)) (xg_name 2 (q.lk []).nd) (xs_one (xs_expr (x_ext (q.lk []) 1 (xe_lc (q.lk []).calm (q.lk []).nd (xl_lc (own := [("way", 3)]) (xi_seq (q.lk []).K (xe_lst (xa_cons xe_str (xa_cons xe_str xa_nil)))) rfl (fun _ _ _ _ _ => (xg_name 3 ((q.lk []).bk []).nd)) (fun _ _ _ _ _ => (xc_one (xt_if (t_eq ((q.lk []).bk []) (xe_v 3) xe_str) (t_gt ((q.lk []).bk []) (xe_v 2) xe_int) (t_lt ((q.lk []).bk []) (xe_v 2) (x_sub ((q.lk []).bk []) (xe_v 0) xe_int))))) (fun _ _ _ _ _ => (xe_tup (xa_cons (xe_v 2) (xa_cons (xe_v 3) xa_nil))))))))))
    (xs_one (xs_ret (xe_mv 1)))))
theorem ok__law_landings {k : Nat} (Z : Gz mg C K) (F : FnP K "_law_landings" st__law_landings f fd) (gm : mg "_law_landings" = some (.ref f))  : FnG P w K mg base C (k + 1) "_law_landings" 1 none .fr (rf__law_landings ) :=
  ⟨f, fd, ["floors"], okf__law_landings Z F , gm, F.kp, F.bindsN (fun _ _ _ _ _ _ us hl => match us, hl with | [_], _ => rfl), rfl⟩
/-! _law_floors -/
abbrev st__law_floors : Stmt := top 18
def ev__law_floors  : Ms :=
  (sSeq (sIf (ebV (eBin dEq (eV 0) (eC (.str "here")))) (sRet (eLst (eaCons (eV 1) eaNil))) sNil)
  (sSeq (sIf (ebV (eBin dEq (eV 0) (eC (.str "above")))) (sRet (eLstRg (eRg2 (eBin dAdd (eV 1) (eC (.int 1))) (eV 2)))) sNil)
  (sSeq (sIf (ebV (eBin dEq (eV 0) (eC (.str "below")))) (sRet (eLstRg (eRg1 (eV 1)))) sNil)
  (sRet (eLst (eaCons (eV 0) eaNil))))))
def rf__law_floors  : List D → Fr := runF 3 3 [0, 1, 2] none (ev__law_floors )
theorem sc__law_floors : FnScope ["pick", "place", "many"] ["pick", "place", "many"] (defScope st__law_floors) := ⟨rfl, rfl, rfl, by decide +kernel, rfl, by decide +kernel, by decide +kernel⟩
theorem okf__law_floors {k : Nat} (Z : Gz mg C K) (F : FnP K "_law_floors" st__law_floors f fd)  : FnOk P w K mg base (L2.CX P w) (k + 1) f fd ["pick", "place", "many"] (spD C 3 none .fr (rf__law_floors )) := by
  refine fn_ok (ks := [.pl, .pl, .pl]) F sc__law_floors rfl rfl rfl (by intro i hi; cases hi <;> exact ⟨by decide, rfl⟩) (fun cdv A outer s H E hr => ?_)
  have q := cq_of (ks := [.pl, .pl, .pl]) (C := C) (CX := L2.CX P w) (P := P) (w := w) (base := base) (N := ["pick", "place", "many"]) (f := f) (cdv := cdv) (A := A) (outer := outer) (s := s) (H := H) (E := E) (scope := defScope st__law_floors) (qual := "_law_floors") Z sc__law_floors.nd hr
  have tk := takes_of (X := cxOf (L2.CX P w) P w K mg base ["pick", "place", "many"] "_law_floors" (defScope st__law_floors) f cdv A outer s H E) rfl rfl rfl rfl
  have hp := passes_of (X := cxOf (L2.CX P w) P w K mg base ["pick", "place", "many"] "_law_floors" (defScope st__law_floors) f cdv A outer s H E) rfl
  exact (xs_cons (xs_if (t_eq q (xe_v 0) xe_str) (xs_one (xs_ret (xe_lst (xa_cons (xe_v 1) xa_nil)))) xs_nil)
    (xs_cons (xs_if (t_eq q (xe_v 0) xe_str) (xs_one (xs_ret (xe_listRg q.calm rfl (q.fb _ (by decide)) (xrg_2 rfl (q.fb _ (by decide)) (x_add q (xe_v 1) xe_int) (xe_v 2))))) xs_nil)
    (xs_cons (xs_if (t_eq q (xe_v 0) xe_str) (xs_one (xs_ret (xe_listRg q.calm rfl (q.fb _ (by decide)) (xrg_1 rfl (q.fb _ (by decide)) (xe_v 1))))) xs_nil)
    (xs_one (xs_ret (xe_lst (xa_cons (xe_v 0) xa_nil)))))))
theorem ok__law_floors {k : Nat} (Z : Gz mg C K) (F : FnP K "_law_floors" st__law_floors f fd) (gm : mg "_law_floors" = some (.ref f))  : FnG P w K mg base C (k + 1) "_law_floors" 3 none .fr (rf__law_floors ) :=
  ⟨f, fd, ["pick", "place", "many"], okf__law_floors Z F , gm, F.kp, F.bindsN (fun _ _ _ _ _ _ us hl => match us, hl with | [_, _, _], _ => rfl), rfl⟩
/-! _law_holds -/
abbrev st__law_holds : Stmt := top 19
def ev__law_holds (F__law_holds : List D → Fr) (F__law_floors : List D → Fr) : Ms :=
  (sSeq (sUnp (gsCons (gSet 3) (gsCons (gSet 4) (gsCons (gSet 5) (gsCons (gSet 6) (gsCons (gSet 7) gsNil))))) (eV 2))
  (sSeq (sUnp (gsCons (gSet 8) (gsCons (gSet 9) gsNil)) (eTup (eaCons (eBin dIx (eV 0) (eC (.int 0))) (eaCons (eA1 dLen (eBin dIx (eV 2) (eC (.int 1)))) eaNil))))
  (sSeq (sIf (ebV (eBin dEq (eV 8) (eC (.str "not")))) (sRet (eNotV (eCall F__law_holds (eaCons (eBin dIx (eV 0) (eC (.int 1))) (eaCons (eV 1) (eaCons (eV 2) eaNil)))))) sNil)
  (sSeq (sIf (ebV (eBin dIn (eV 8) (eTup (eaCons (eC (.str "and")) (eaCons (eC (.str "or")) eaNil))))) (sSeq (sSet 10 (eLc [11] (itSeq (eBin dIx (eV 0) (eC (.int 1)))) (gSet 11) ebYes (eCall F__law_holds (eaCons (eV 11) (eaCons (eV 1) (eaCons (eV 2) eaNil))))))
  (sRet (eIf (ebV (eBin dEq (eV 8) (eC (.str "and")))) (eBin dNotIn (eC (.bl false)) (eV 10)) (eBin dIn (eC (.bl true)) (eV 10))))) sNil)
  (sSeq (sIf (ebV (eBin dEq (eV 8) (eC (.str "always")))) (sRet (eC (.bl true))) sNil)
  (sSeq (sIf (ebV (eBin dEq (eV 8) (eC (.str "mode")))) (sRet (eBin dEq (eBin dIx (eV 0) (eC (.int 1))) (eV 1))) sNil)
  (sSeq (sIf (ebV (eBin dEq (eV 8) (eC (.str "at")))) (sRet (eBin dEq (eV 3) (eGet2 (eDisp (eaCons (eC (.str "top")) (eaCons (eBin dSub (eV 9) (eC (.int 1))) (eaCons (eC (.str "bottom")) (eaCons (eC (.int 0)) eaNil))))) (eBin dIx (eV 0) (eC (.int 1))) (eBin dIx (eV 0) (eC (.int 1)))))) sNil)
  (sSeq (sIf (ebV (eBin dIn (eV 8) (eTup (eaCons (eC (.str "full")) (eaCons (eC (.str "empty")) eaNil))))) (sRet (eBin dEq (eA1 dSum (eV 4)) (eIf (ebV (eBin dEq (eV 8) (eC (.str "full")))) (eV 5) (eC (.int 0))))) sNil)
  (sSeq (sIf (ebV (eBin dEq (eV 8) (eC (.str "rider")))) (sRet (eBin dNe (eLc [12] (itSeq (eCall F__law_floors (eaCons (eBin dIx (eV 0) (eC (.int 1))) (eaCons (eV 3) (eaCons (eV 9) eaNil))))) (gSet 12) (ebAnd (ebV (eBin (dLtI iLt) (eV 12) (eV 9))) (ebV (eBin (dLtI iGt) (eBin dIx (eV 4) (eV 12)) (eC (.int 0))))) (eV 12)) (eLst eaNil))) sNil)
  (sSeq (sIf (ebV (eBin dEq (eV 8) (eC (.str "lit")))) (sSeq (sSet 13 (eCall F__law_floors (eaCons (eBin dIx (eV 0) (eC (.int 1))) (eaCons (eV 3) (eaCons (eV 9) eaNil)))))
  (sRet (eBin dNe (eLc [11] (itSeq (eV 6)) (gSet 11) (ebAnd (ebV (eBin dIn (eBin dIx (eV 11) (eC (.int 0))) (eV 13))) (ebOr (ebV (eBin (dLtI iLt) (eA1 dLen (eV 0)) (eC (.int 3)))) (ebV (eBin dEq (eBin dIx (eV 11) (eC (.int 1))) (eBin dIx (eV 0) (eC (.int 2))))))) (eV 11)) (eLst eaNil)))) sNil)
  (sSeq (sFor [] (itSeq (eV 7)) (gTupD (gsCons (gSet 14) (gsCons (gSet 15) (gsCons (gSet 16) gsNil)))) (sIf (ebV (eBin dEq (eV 14) (eBin dIx (eV 0) (eC (.int 1))))) (sSeq (sIf (ebV (eBin dEq (eBin dIx (eV 0) (eC (.int 2))) (eC (.str "in")))) (sRet (eBin dEq (eV 16) (eBin dIx (eV 0) (eC (.int 3))))) sNil)
  (sRet (eBin dIn (eV 15) (eCall F__law_floors (eaCons (eIf (ebV (eBin dEq (eBin dIx (eV 0) (eC (.int 2))) (eC (.str "at")))) (eBin dIx (eV 0) (eC (.int 3))) (eBin dIx (eV 0) (eC (.int 2)))) (eaCons (eV 3) (eaCons (eV 9) eaNil))))))) sNil))
  (sRet (eC (.bl false))))))))))))))
def rf__law_holds (F__law_holds : List D → Fr) (F__law_floors : List D → Fr) : List D → Fr := runF 3 17 [0, 1, 2] none (ev__law_holds F__law_holds F__law_floors)
theorem sc__law_holds : FnScope ["condition", "mode", "view", "place", "load", "room", "lit", "others", "word", "many", "told", "one", "floor", "floors", "car", "where", "own"] ["condition", "mode", "view"] (defScope st__law_holds) := ⟨rfl, rfl, rfl, by decide +kernel, rfl, by decide +kernel, by decide +kernel⟩
theorem okf__law_holds {k : Nat} {F__law_holds F__law_floors : List D → Fr} (Z : Gz mg C K) (F : FnP K "_law_holds" st__law_holds f fd) (G__law_holds : FnG P w K mg base C k "_law_holds" 3 none .pu F__law_holds) (G__law_floors : FnG P w K mg base C k "_law_floors" 3 none .fr F__law_floors) : FnOk P w K mg base (L2.CX P w) (k + 1) f fd ["condition", "mode", "view"] (spD C 3 none .pu (rf__law_holds F__law_holds F__law_floors)) := by
  refine fn_ok (ks := [.pl, .pl, .pl, .pl, .pl, .pl, .pl, .pl, .pl, .pl, .own, .pl, .pl, .own, .pl, .pl, .pl]) F sc__law_holds rfl rfl rfl (by intro i hi; cases hi <;> exact ⟨by decide, rfl⟩) (fun cdv A outer s H E hr => ?_)
  have q := cq_of (ks := [.pl, .pl, .pl, .pl, .pl, .pl, .pl, .pl, .pl, .pl, .own, .pl, .pl, .own, .pl, .pl, .pl]) (C := C) (CX := L2.CX P w) (P := P) (w := w) (base := base) (N := ["condition", "mode", "view", "place", "load", "room", "lit", "others", "word", "many", "told", "one", "floor", "floors", "car", "where", "own"]) (f := f) (cdv := cdv) (A := A) (outer := outer) (s := s) (H := H) (E := E) (scope := defScope st__law_holds) (qual := "_law_holds") Z sc__law_holds.nd hr
  have tk := takes_of (X := cxOf (L2.CX P w) P w K mg base ["condition", "mode", "view", "place", "load", "room", "lit", "others", "word", "many", "told", "one", "floor", "floors", "car", "where", "own"] "_law_holds" (defScope st__law_holds) f cdv A outer s H E) rfl rfl rfl rfl
  have hp := passes_of (X := cxOf (L2.CX P w) P w K mg base ["condition", "mode", "view", "place", "load", "room", "lit", "others", "word", "many", "told", "one", "floor", "floors", "car", "where", "own"] "_law_holds" (defScope st__law_holds) f cdv A outer s H E) rfl
  exact (xs_cons (xs_unp q.K q.calm (xe_v 2) (xgs_cons (xg_name 3 q.nd) (xgs_cons (xg_name 4 q.nd) (xgs_cons (xg_name 5 q.nd) (xgs_cons (xg_name 6 q.nd) (xgs_cons (xg_name 7 q.nd) xgs_nil))))) (gl_cons (gl_cons (gl_cons (gl_cons (gl_cons gl_nil))))))
    (xs_cons (xs_unp q.K q.calm (xe_tup (xa_cons (x_ix q (xe_v 0) xe_int) (xa_cons (x_len q (x_ix q (xe_v 2) xe_int)) xa_nil))) (xgs_cons (xg_name 8 q.nd) (xgs_cons (xg_name 9 q.nd) xgs_nil)) (gl_cons (gl_cons gl_nil)))
    (xs_cons (xs_if (t_eq q (xe_v 8) xe_str) (xs_one (xs_ret (xe_not (x_call tk G__law_holds hr (xa_cons (x_ix q (xe_v 0) xe_int) (xa_cons (xe_v 1) (xa_cons (xe_v 2) xa_nil))))))) xs_nil)
    (xs_cons (xs_if (t_in q (xe_v 8) (xe_tup (xa_cons xe_str (xa_cons xe_str xa_nil)))) (xs_cons (xs_lc 10 q.calm q.nd (xl_lc (own := [("one", 11)]) (xi_seq q.K (x_ix q (xe_v 0) xe_int)) rfl (fun _ _ _ _ _ => (xg_name 11 (q.bk []).nd)) (fun _ _ _ _ _ => xc_nil) (fun _ _ _ _ _ => (x_call takes0 G__law_holds hr (xa_cons (xe_v 11) (xa_cons (xe_v 1) (xa_cons (xe_v 2) xa_nil)))))))
    (xs_one (xs_ret (xe_ifExp (t_eq q (xe_v 8) xe_str) (x_ni q xe_bl (xe_v 10)) (x_in q xe_bl (xe_v 10)))))) xs_nil)
    (xs_cons (xs_if (t_eq q (xe_v 8) xe_str) (xs_one (xs_ret xe_bl)) xs_nil)
    (xs_cons (xs_if (t_eq q (xe_v 8) xe_str) (xs_one (xs_ret (x_eq q (x_ix q (xe_v 0) xe_int) (xe_v 1)))) xs_nil)
    (xs_cons (xs_if (t_eq q (xe_v 8) xe_str) (xs_one (xs_ret (x_eq q (xe_v 3) (xe_get2 q.u1 (xe_disp (xp_cons xe_str (x_sub q (xe_v 9) xe_int) (xp_cons xe_str xe_int xp_nil))) (x_ix q (xe_v 0) xe_int) (x_ix q (xe_v 0) xe_int))))) xs_nil)
    (xs_cons (xs_if (t_in q (xe_v 8) (xe_tup (xa_cons xe_str (xa_cons xe_str xa_nil)))) (xs_one (xs_ret (x_eq q (x_sum q (xe_v 4)) (xe_ifExp (t_eq q (xe_v 8) xe_str) (xe_v 5) xe_int)))) xs_nil)
    (xs_cons (xs_if (t_eq q (xe_v 8) xe_str) (xs_one (xs_ret (x_ne q (xe_lc q.calm q.nd (xl_lc (own := [("floor", 12)]) (xi_seq q.K (x_call tk G__law_floors hr (xa_cons (x_ix q (xe_v 0) xe_int) (xa_cons (xe_v 3) (xa_cons (xe_v 9) xa_nil))))) rfl (fun _ _ _ _ _ => (xg_name 12 (q.bk []).nd)) (fun _ _ _ _ _ => (xc_one (XW.pt (xw_and (t_lt (q.bk []) (xe_v 12) (xe_v 9)) (xw_and1 (t_gt (q.bk []) (x_ix (q.bk []) (xe_v 4) (xe_v 12)) xe_int)))))) (fun _ _ _ _ _ => (xe_v 12)))) (xe_lst xa_nil)))) xs_nil)
    (xs_cons (xs_if (t_eq q (xe_v 8) xe_str) (xs_cons (xs_set 13 q.nd (x_call tk G__law_floors hr (xa_cons (x_ix q (xe_v 0) xe_int) (xa_cons (xe_v 3) (xa_cons (xe_v 9) xa_nil)))))
    (xs_one (xs_ret (x_ne q (xe_lc q.calm q.nd (xl_lc (own := [("one", 11)]) (xi_seq q.K (xe_v 6)) rfl (fun _ _ _ _ _ => (xg_name 11 (q.bk []).nd)) (fun _ _ _ _ _ => (xc_one (XW.pt (xw_and (t_in (q.bk []) (x_ix (q.bk []) (xe_v 11) xe_int) (xe_v 13)) (xw_and1 (XW.pt (xw_or (t_lt (q.bk []) (x_len (q.bk []) (xe_v 0)) xe_int) (xw_or1 (t_eq (q.bk []) (x_ix (q.bk []) (xe_v 11) xe_int) (x_ix (q.bk []) (xe_v 0) xe_int)))))))))) (fun _ _ _ _ _ => (xe_v 11)))) (xe_lst xa_nil))))) xs_nil)
    (xs_cons (xs_for [] hp q.calm (xi_seq q.K (xe_v 7)) (xg_tup (q.lk []).K (q.lk []).calm (xgs_cons (xg_name 14 (q.lk []).nd) (xgs_cons (xg_name 15 (q.lk []).nd) (xgs_cons (xg_name 16 (q.lk []).nd) xgs_nil))) (gl_cons (gl_cons (gl_cons gl_nil)))) (xs_one (xs_if (t_eq (q.lk []) (xe_v 14) (x_ix (q.lk []) (xe_v 0) xe_int)) (xs_cons (xs_if (t_eq (q.lk []) (x_ix (q.lk []) (xe_v 0) xe_int) xe_str) (xs_one (xs_ret (x_eq (q.lk []) (xe_v 16) (x_ix (q.lk []) (xe_v 0) xe_int)))) xs_nil)
    (xs_one (xs_ret (x_in (q.lk []) (xe_v 15) (x_call tk G__law_floors hr (xa_cons (xe_ifExp (t_eq (q.lk []) (x_ix (q.lk []) (xe_v 0) xe_int) xe_str) (x_ix (q.lk []) (xe_v 0) xe_int) (x_ix (q.lk []) (xe_v 0) xe_int)) (xa_cons (xe_v 3) (xa_cons (xe_v 9) xa_nil)))))))) xs_nil)))
    (xs_one (xs_ret xe_bl)))))))))))))
theorem ok__law_holds {k : Nat} {F__law_holds F__law_floors : List D → Fr} (Z : Gz mg C K) (F : FnP K "_law_holds" st__law_holds f fd) (gm : mg "_law_holds" = some (.ref f)) (G__law_holds : FnG P w K mg base C k "_law_holds" 3 none .pu F__law_holds) (G__law_floors : FnG P w K mg base C k "_law_floors" 3 none .fr F__law_floors) : FnG P w K mg base C (k + 1) "_law_holds" 3 none .pu (rf__law_holds F__law_holds F__law_floors) :=
  ⟨f, fd, ["condition", "mode", "view"], okf__law_holds Z F G__law_holds G__law_floors, gm, F.kp, F.bindsN (fun _ _ _ _ _ _ us hl => match us, hl with | [_, _, _], _ => rfl), rfl⟩
theorem nv__law_holds {k : Nat} (F : FnP K "_law_holds" st__law_holds f fd) (gm : mg "_law_holds" = some (.ref f)) : FnG P w K mg base C (k + 1) "_law_holds" 3 none .pu (fun _ => .st) := by
  have h : FnG P w K mg base C (k + 1) "_law_holds" 3 none .pu (runF 3 17 [0, 1, 2] none fun _ => .st) := ⟨f, fd, ["condition", "mode", "view"], fn_ok (ks := [.pl, .pl, .pl, .pl, .pl, .pl, .pl, .pl, .pl, .pl, .own, .pl, .pl, .own, .pl, .pl, .pl]) F sc__law_holds rfl rfl rfl (by intro i hi; cases hi <;> exact ⟨by decide, rfl⟩) (fun cdv A outer s H E hr => xss_never), gm, F.kp, F.bindsN (fun _ _ _ _ _ _ us hl => match us, hl with | [_, _, _], _ => rfl), rfl⟩
  exact h.imp fun ds _ h2 => absurd rfl h2
/-! _law_setting -/
abbrev st__law_setting : Stmt := top 20
def ev__law_setting (F__law_draw : List D → Fr) (F__law_pick : List D → Fr) : Ms :=
  (sSeq (sPar 1 2 (eBin dAdd (eC (.int 2)) (eCallI F__law_draw 0 (eiHere 0 (eaCons (eC (.int 5)) eaNil)))) (eTup (eaCons (eC (.str "go")) (eaCons (eC (.str "zz")) (eaCons (eC (.str "a")) eaNil)))))
  (sSeq (sSet 3 (eCallI F__law_pick 0 (eiHere 0 (eaCons (eLst (eaCons (eTup eaNil) (eaCons (eTup (eaCons (eTup (eaCons (eC (.int 0)) (eaCons (eV 2) eaNil))) eaNil)) (eaCons (eTup (eaCons (eTup (eaCons (eC (.int 1)) (eaCons (eV 2) eaNil))) eaNil)) (eaCons (eTup (eaCons (eTup (eaCons (eC (.int 1)) (eaCons (eV 2) eaNil))) eaNil)) eaNil))))) eaNil))))
  (sRet (eTup (eaCons (eV 1) (eaCons (eBin dAdd (eC (.int 1)) (eCallI F__law_draw 0 (eiHere 0 (eaCons (eC (.int 3)) eaNil)))) (eaCons (eV 3) eaNil)))))))
def rf__law_setting (F__law_draw : List D → Fr) (F__law_pick : List D → Fr) : List D → Fr := runF 1 4 [] (some 0) (ev__law_setting F__law_draw F__law_pick)
theorem sc__law_setting : FnScope ["pen", "floors", "modes", "others"] ["pen"] (defScope st__law_setting) := ⟨rfl, rfl, rfl, by decide +kernel, rfl, by decide +kernel, by decide +kernel⟩
theorem okf__law_setting {k : Nat} {F__law_draw F__law_pick : List D → Fr} (Z : Gz mg C K) (F : FnP K "_law_setting" st__law_setting f fd) (G__law_draw : FnG P w K mg base C k "_law_draw" 2 (some 0) .pu F__law_draw) (G__law_pick : FnG P w K mg base C k "_law_pick" 2 (some 0) .pu F__law_pick) : FnOk P w K mg base (L2.CX P w) (k + 1) f fd ["pen"] (spD C 1 (some 0) .pu (rf__law_setting F__law_draw F__law_pick)) := by
  refine fn_ok (ks := [.io, .pl, .pl, .pl]) F sc__law_setting rfl rfl rfl (by intro i hi; cases hi <;> exact ⟨by decide, rfl⟩) (fun cdv A outer s H E hr => ?_)
  have q := cq_of (ks := [.io, .pl, .pl, .pl]) (C := C) (CX := L2.CX P w) (P := P) (w := w) (base := base) (N := ["pen", "floors", "modes", "others"]) (f := f) (cdv := cdv) (A := A) (outer := outer) (s := s) (H := H) (E := E) (scope := defScope st__law_setting) (qual := "_law_setting") Z sc__law_setting.nd hr
  have tk := takes_of (X := cxOf (L2.CX P w) P w K mg base ["pen", "floors", "modes", "others"] "_law_setting" (defScope st__law_setting) f cdv A outer s H E) rfl rfl rfl rfl
  have hp := passes_of (X := cxOf (L2.CX P w) P w K mg base ["pen", "floors", "modes", "others"] "_law_setting" (defScope st__law_setting) f cdv A outer s H E) rfl
  exact (xs_cons (xs_par 1 2 q.calm q.nd (x_add q xe_int (x_callI tk G__law_draw hr (xi_here 0 (xa_cons xe_int xa_nil)))) (xe_tup (xa_cons xe_str (xa_cons xe_str (xa_cons xe_str xa_nil)))))
    (xs_cons (xs_set 3 q.nd (x_callI tk G__law_pick hr (xi_here 0 (xa_cons (xe_lst (xa_cons (xe_tup xa_nil) (xa_cons (xe_tup (xa_cons (xe_tup (xa_cons xe_int (xa_cons (xe_v 2) xa_nil))) xa_nil)) (xa_cons (xe_tup (xa_cons (xe_tup (xa_cons xe_int (xa_cons (xe_v 2) xa_nil))) xa_nil)) (xa_cons (xe_tup (xa_cons (xe_tup (xa_cons xe_int (xa_cons (xe_v 2) xa_nil))) xa_nil)) xa_nil))))) xa_nil))))
    (xs_one (xs_ret (xe_tup (xa_cons (xe_v 1) (xa_cons (x_add q xe_int (x_callI tk G__law_draw hr (xi_here 0 (xa_cons xe_int xa_nil)))) (xa_cons (xe_v 3) xa_nil))))))))
theorem ok__law_setting {k : Nat} {F__law_draw F__law_pick : List D → Fr} (Z : Gz mg C K) (F : FnP K "_law_setting" st__law_setting f fd) (gm : mg "_law_setting" = some (.ref f)) (G__law_draw : FnG P w K mg base C k "_law_draw" 2 (some 0) .pu F__law_draw) (G__law_pick : FnG P w K mg base C k "_law_pick" 2 (some 0) .pu F__law_pick) : FnG P w K mg base C (k + 1) "_law_setting" 1 (some 0) .pu (rf__law_setting F__law_draw F__law_pick) :=
  ⟨f, fd, ["pen"], okf__law_setting Z F G__law_draw G__law_pick, gm, F.kp, F.bindsN (fun _ _ _ _ _ _ us hl => match us, hl with | [_], _ => rfl), rfl⟩
/-! law -/
abbrev st_law : Stmt := top 21
def ev_law (F__law_pen : List D → Fr) (F__law_setting : List D → Fr) (F__law_drawn_sight : List D → Fr) (F__law_pick : List D → Fr) (F__law_drawn_condition : List D → Fr) (F__law_is : List D → Fr) (F_holds : List D → Fr) (F__law_holds : List D → Fr) (F__law_any_atom : List D → Fr) : Ms :=
  (sSeq (sSet 1 (eCall F__law_pen (eaCons (eV 0) eaNil)))
  (sSeq (sSet 2 (eTup (eaCons (eC (.str "a")) (eaCons (eC (.str "go")) (eaCons (eC (.str "zz")) eaNil)))))
  (sSeq (sFor [] (itR1 (eaCons (eC (.int 12)) eaNil)) (gSet 3) (sSeq (sSet 4 (eCallI F__law_setting 1 (eiHere 1 eaNil)))
  (sSeq (sPar 5 6 (eCallI F__law_drawn_sight 1 (eiHere 1 (eaCons (eV 4) eaNil))) (eCallI F__law_pick 1 (eiHere 1 (eaCons (eV 2) eaNil))))
  (sSeq (sUnp (gsCons (gSet 7) (gsCons (gSet 8) gsNil)) (eLc [9] (itR1 (eaCons (eC (.int 2)) eaNil)) (gSet 9) ebYes (eCallI F__law_drawn_condition 1 (eiHere 1 (eaCons (eV 2) (eaCons (eBin dIx (eV 4) (eC (.int 0))) (eaCons (eC (.int 1)) eaNil)))))))
  (sSeq (sSet 10 (eLst (eaCons (eV 7) (eaCons (eV 8) (eaCons (eTup (eaCons (eC (.str "not")) (eaCons (eV 7) eaNil))) (eaCons (eTup (eaCons (eC (.str "and")) (eaCons (eTup (eaCons (eV 7) (eaCons (eV 8) eaNil))) eaNil))) (eaCons (eTup (eaCons (eC (.str "or")) (eaCons (eTup (eaCons (eV 8) (eaCons (eV 7) (eaCons (eTup (eaCons (eC (.str "not")) (eaCons (eV 8) eaNil))) eaNil)))) eaNil))) (eaCons (eTup (eaCons (eC (.str "not")) (eaCons (eTup (eaCons (eC (.str "or")) (eaCons (eTup (eaCons (eV 7) (eaCons (eV 8) eaNil))) eaNil))) eaNil))) eaNil))))))))
  (sSeq (sFor [] (itSeq (eV 10)) (gSet 11) (sIf (ebNot (ebT (eCall F__law_is (eaCons (eCall F_holds (eaCons (eV 11) (eaCons (eV 6) (eaCons (eV 5) eaNil)))) (eaCons (eCall F__law_holds (eaCons (eV 11) (eaCons (eV 6) (eaCons (eV 5) eaNil)))) eaNil))))) (sRet (eC (.bl false))) sNil))
  (sSeq (sSet 12 (eCallI F__law_any_atom 1 (eiHere 1 (eaCons (eV 2) (eaCons (eBin dIx (eV 4) (eC (.int 0))) eaNil)))))
  (sSeq (sIf (ebNot (ebT (eCall F__law_is (eaCons (eCall F_holds (eaCons (eV 12) (eaCons (eV 6) (eaCons (eV 5) eaNil)))) (eaCons (eCall F__law_holds (eaCons (eV 12) (eaCons (eV 6) (eaCons (eV 5) eaNil)))) eaNil))))) (sRet (eC (.bl false))) sNil)
  (sSeq (sPar 13 14 (eCall F_holds (eaCons (eV 7) (eaCons (eV 6) (eaCons (eV 5) eaNil)))) (eCall F_holds (eaCons (eV 8) (eaCons (eV 6) (eaCons (eV 5) eaNil)))))
  (sSeq (sIf (ebOr (ebV (eBin dNe (eCall F_holds (eaCons (eTup (eaCons (eC (.str "and")) (eaCons (eTup (eaCons (eV 7) (eaCons (eV 8) eaNil))) eaNil))) (eaCons (eV 6) (eaCons (eV 5) eaNil)))) (eAndV (eV 13) (eV 14)))) (ebV (eBin dNe (eCall F_holds (eaCons (eTup (eaCons (eC (.str "or")) (eaCons (eTup (eaCons (eV 7) (eaCons (eV 8) eaNil))) eaNil))) (eaCons (eV 6) (eaCons (eV 5) eaNil)))) (eOrV (eV 13) (eV 14))))) (sRet (eC (.bl false))) sNil)
  (sIf (ebOr (ebV (eBin dEq (eCall F_holds (eaCons (eTup (eaCons (eC (.str "not")) (eaCons (eV 7) eaNil))) (eaCons (eV 6) (eaCons (eV 5) eaNil)))) (eV 13))) (ebV (eBin dNotB (eCall F_holds (eaCons (eTup (eaCons (eC (.str "always")) eaNil)) (eaCons (eV 6) (eaCons (eV 5) eaNil)))) (eC (.bl true))))) (sRet (eC (.bl false))) sNil)))))))))))
  (sRet (eC (.bl true))))))
def rf_law (F__law_pen : List D → Fr) (F__law_setting : List D → Fr) (F__law_drawn_sight : List D → Fr) (F__law_pick : List D → Fr) (F__law_drawn_condition : List D → Fr) (F__law_is : List D → Fr) (F_holds : List D → Fr) (F__law_holds : List D → Fr) (F__law_any_atom : List D → Fr) : List D → Fr := runF 1 15 [] none (ev_law F__law_pen F__law_setting F__law_drawn_sight F__law_pick F__law_drawn_condition F__law_is F_holds F__law_holds F__law_any_atom)
theorem sc_law : FnScope ["script", "pen", "modes", "lap", "setting", "sight", "mode", "one", "other", "turn", "rows", "condition", "atom", "first", "second"] ["script"] (defScope st_law) := ⟨rfl, rfl, rfl, by decide +kernel, rfl, by decide +kernel, by decide +kernel⟩
theorem okf_law {k : Nat} {F__law_pen F__law_setting F__law_drawn_sight F__law_pick F__law_drawn_condition F__law_is F_holds F__law_holds F__law_any_atom : List D → Fr} (Z : Gz mg C K) (F : FnP K "law" st_law f fd) (G__law_pen : FnG P w K mg base C k "_law_pen" 1 none .fr F__law_pen) (G__law_setting : FnG P w K mg base C k "_law_setting" 1 (some 0) .pu F__law_setting) (G__law_drawn_sight : FnG P w K mg base C k "_law_drawn_sight" 2 (some 0) .pu F__law_drawn_sight) (G__law_pick : FnG P w K mg base C k "_law_pick" 2 (some 0) .pu F__law_pick) (G__law_drawn_condition : FnG P w K mg base C k "_law_drawn_condition" 4 (some 0) .pu F__law_drawn_condition) (G__law_is : FnG P w K mg base C k "_law_is" 2 none .pu F__law_is) (G_holds : FnG P w K mg base C k "holds" 3 none .pu F_holds) (G__law_holds : FnG P w K mg base C k "_law_holds" 3 none .pu F__law_holds) (G__law_any_atom : FnG P w K mg base C k "_law_any_atom" 3 (some 0) .pu F__law_any_atom) : FnOk P w K mg base (L2.CX P w) (k + 1) f fd ["script"] (spD C 1 none .pu (rf_law F__law_pen F__law_setting F__law_drawn_sight F__law_pick F__law_drawn_condition F__law_is F_holds F__law_holds F__law_any_atom)) := by
  refine fn_ok (ks := [.par, .own, .pl, .pl, .pl, .pl, .pl, .pl, .pl, .pl, .own, .pl, .pl, .pl, .pl]) F sc_law rfl rfl rfl (by intro i hi; cases hi <;> exact ⟨by decide, rfl⟩) (fun cdv A outer s H E hr => ?_)
  have q := cq_of (ks := [.par, .own, .pl, .pl, .pl, .pl, .pl, .pl, .pl, .pl, .own, .pl, .pl, .pl, .pl]) (C := C) (CX := L2.CX P w) (P := P) (w := w) (base := base) (N := ["script", "pen", "modes", "lap", "setting", "sight", "mode", "one", "other", "turn", "rows", "condition", "atom", "first", "second"]) (f := f) (cdv := cdv) (A := A) (outer := outer) (s := s) (H := H) (E := E) (scope := defScope st_law) (qual := "law") Z sc_law.nd hr
  have tk := takes_of (X := cxOf (L2.CX P w) P w K mg base ["script", "pen", "modes", "lap", "setting", "sight", "mode", "one", "other", "turn", "rows", "condition", "atom", "first", "second"] "law" (defScope st_law) f cdv A outer s H E) rfl rfl rfl rfl
  have hp := passes_of (X := cxOf (L2.CX P w) P w K mg base ["script", "pen", "modes", "lap", "setting", "sight", "mode", "one", "other", "turn", "rows", "condition", "atom", "first", "second"] "law" (defScope st_law) f cdv A outer s H E) rfl
  exact (xs_cons (xs_set 1 q.nd (x_call tk G__law_pen hr (xa_cons (xe_v 0) xa_nil)))
    (xs_cons (xs_set 2 q.nd (xe_tup (xa_cons xe_str (xa_cons xe_str (xa_cons xe_str xa_nil)))))
    (xs_cons (xs_for [] hp q.calm (xi_range1 rfl (q.fb _ (by decide)) (xa_cons xe_int xa_nil)) (xg_name 3 (q.lk []).nd) (xs_cons (xs_set 4 (q.lk []).nd (x_callI tk G__law_setting hr (xi_here 1 xa_nil)))
    (xs_cons (xs_par 5 6 (q.lk []).calm (q.lk []).nd (x_callI tk G__law_drawn_sight hr (xi_here 1 (xa_cons (xe_v 4) xa_nil))) (x_callI tk G__law_pick hr (xi_here 1 (xa_cons (xe_v 2) xa_nil))))
    (xs_cons (xs_unp (q.lk []).K (q.lk []).calm (xe_lc (q.lk []).calm (q.lk []).nd (xl_lc (own := [("turn", 9)]) (xi_range1 rfl ((q.lk []).fb _ (by decide)) (xa_cons xe_int xa_nil)) rfl (fun _ _ _ _ _ => (xg_name 9 ((q.lk []).bk []).nd)) (fun _ _ _ _ _ => xc_nil) (fun _ _ _ _ _ => (x_callI takes0 G__law_drawn_condition hr (xi_here 1 (xa_cons (xe_v 2) (xa_cons (x_ix ((q.lk []).bk []) (xe_v 4) xe_int) (xa_cons xe_int xa_nil)))))))) (xgs_cons (xg_name 7 (q.lk []).nd) (xgs_cons (xg_name 8 (q.lk []).nd) xgs_nil)) (gl_cons (gl_cons gl_nil)))
    (xs_cons (xs_set 10 (q.lk []).nd (xe_lst (xa_cons (xe_v 7) (xa_cons (xe_v 8) (xa_cons (xe_tup (xa_cons xe_str (xa_cons (xe_v 7) xa_nil))) (xa_cons (xe_tup (xa_cons xe_str (xa_cons (xe_tup (xa_cons (xe_v 7) (xa_cons (xe_v 8) xa_nil))) xa_nil))) (xa_cons (xe_tup (xa_cons xe_str (xa_cons (xe_tup (xa_cons (xe_v 8) (xa_cons (xe_v 7) (xa_cons (xe_tup (xa_cons xe_str (xa_cons (xe_v 8) xa_nil))) xa_nil)))) xa_nil))) (xa_cons (xe_tup (xa_cons xe_str (xa_cons (xe_tup (xa_cons xe_str (xa_cons (xe_tup (xa_cons (xe_v 7) (xa_cons (xe_v 8) xa_nil))) xa_nil))) xa_nil))) xa_nil))))))))
    (xs_cons (xs_for [] hp (q.lk []).calm (xi_seq (q.lk []).K (xe_v 10)) (xg_name 11 ((q.lk []).lk [10]).nd) (xs_one (xs_if (xt_not (t_tru ((q.lk []).lk [10]) (x_call tk G__law_is hr (xa_cons (x_call tk G_holds hr (xa_cons (xe_v 11) (xa_cons (xe_v 6) (xa_cons (xe_v 5) xa_nil)))) (xa_cons (x_call tk G__law_holds hr (xa_cons (xe_v 11) (xa_cons (xe_v 6) (xa_cons (xe_v 5) xa_nil)))) xa_nil))))) (xs_one (xs_ret xe_bl)) xs_nil)))
    (xs_cons (xs_set 12 (q.lk []).nd (x_callI tk G__law_any_atom hr (xi_here 1 (xa_cons (xe_v 2) (xa_cons (x_ix (q.lk []) (xe_v 4) xe_int) xa_nil)))))
    (xs_cons (xs_if (xt_not (t_tru (q.lk []) (x_call tk G__law_is hr (xa_cons (x_call tk G_holds hr (xa_cons (xe_v 12) (xa_cons (xe_v 6) (xa_cons (xe_v 5) xa_nil)))) (xa_cons (x_call tk G__law_holds hr (xa_cons (xe_v 12) (xa_cons (xe_v 6) (xa_cons (xe_v 5) xa_nil)))) xa_nil))))) (xs_one (xs_ret xe_bl)) xs_nil)
    (xs_cons (xs_par 13 14 (q.lk []).calm (q.lk []).nd (x_call tk G_holds hr (xa_cons (xe_v 7) (xa_cons (xe_v 6) (xa_cons (xe_v 5) xa_nil)))) (x_call tk G_holds hr (xa_cons (xe_v 8) (xa_cons (xe_v 6) (xa_cons (xe_v 5) xa_nil)))))
    (xs_cons (xs_if (XW.pt (xw_or (t_ne (q.lk []) (x_call tk G_holds hr (xa_cons (xe_tup (xa_cons xe_str (xa_cons (xe_tup (xa_cons (xe_v 7) (xa_cons (xe_v 8) xa_nil))) xa_nil))) (xa_cons (xe_v 6) (xa_cons (xe_v 5) xa_nil)))) (xe_and (xe_v 13) (xe_one (xe_v 14)))) (xw_or1 (t_ne (q.lk []) (x_call tk G_holds hr (xa_cons (xe_tup (xa_cons xe_str (xa_cons (xe_tup (xa_cons (xe_v 7) (xa_cons (xe_v 8) xa_nil))) xa_nil))) (xa_cons (xe_v 6) (xa_cons (xe_v 5) xa_nil)))) (xe_or (xe_v 13) (xe_one (xe_v 14))))))) (xs_one (xs_ret xe_bl)) xs_nil)
    (xs_one (xs_if (XW.pt (xw_or (t_eq (q.lk []) (x_call tk G_holds hr (xa_cons (xe_tup (xa_cons xe_str (xa_cons (xe_v 7) xa_nil))) (xa_cons (xe_v 6) (xa_cons (xe_v 5) xa_nil)))) (xe_v 13)) (xw_or1 (t_ntB (q.lk []) (x_call tk G_holds hr (xa_cons (xe_tup (xa_cons xe_str xa_nil)) (xa_cons (xe_v 6) (xa_cons (xe_v 5) xa_nil)))) xe_bl)))) (xs_one (xs_ret xe_bl)) xs_nil))))))))))))
    (xs_one (xs_ret xe_bl)))))
theorem ok_law {k : Nat} {F__law_pen F__law_setting F__law_drawn_sight F__law_pick F__law_drawn_condition F__law_is F_holds F__law_holds F__law_any_atom : List D → Fr} (Z : Gz mg C K) (F : FnP K "law" st_law f fd) (gm : mg "law" = some (.ref f)) (G__law_pen : FnG P w K mg base C k "_law_pen" 1 none .fr F__law_pen) (G__law_setting : FnG P w K mg base C k "_law_setting" 1 (some 0) .pu F__law_setting) (G__law_drawn_sight : FnG P w K mg base C k "_law_drawn_sight" 2 (some 0) .pu F__law_drawn_sight) (G__law_pick : FnG P w K mg base C k "_law_pick" 2 (some 0) .pu F__law_pick) (G__law_drawn_condition : FnG P w K mg base C k "_law_drawn_condition" 4 (some 0) .pu F__law_drawn_condition) (G__law_is : FnG P w K mg base C k "_law_is" 2 none .pu F__law_is) (G_holds : FnG P w K mg base C k "holds" 3 none .pu F_holds) (G__law_holds : FnG P w K mg base C k "_law_holds" 3 none .pu F__law_holds) (G__law_any_atom : FnG P w K mg base C k "_law_any_atom" 3 (some 0) .pu F__law_any_atom) : FnG P w K mg base C (k + 1) "law" 1 none .pu (rf_law F__law_pen F__law_setting F__law_drawn_sight F__law_pick F__law_drawn_condition F__law_is F_holds F__law_holds F__law_any_atom) :=
  ⟨f, fd, ["script"], okf_law Z F G__law_pen G__law_setting G__law_drawn_sight G__law_pick G__law_drawn_condition G__law_is G_holds G__law_holds G__law_any_atom, gm, F.kp, F.bindsN (fun _ _ _ _ _ _ us hl => match us, hl with | [_], _ => rfl), rfl⟩
end
end K03

namespace K03
open PySem PySem.Spec PyProof.Rows EL
open L2 hiding XE
/-! ### the plain law: what the conditions mean -/
inductive Wd | num (f : Int) | here | above | below
def Wd.d : Wd → D | .num f => .int f | .here => .str "here" | .above => .str "above" | .below => .str "below"
def thereB : Wd → Int → Int → Bool | .num f, i, _ => decide (i = f) | .here, i, p => decide (i = p) | .above, i, p => decide (p < i) | .below, i, p => decide (i < p)
inductive Atom
  | always | mode (m : Str) | atN (f : Int) | atTop | atBottom | rider (w : Wd) | full | empty
  | lit (w : Wd) | litW (w : Wd) (u : Bool) | carAt (c f : Int) | carW (c : Int) (w : Wd) | carIn (c : Int) (m : Str)
def upD (u : Bool) : Str := if u then "up" else "down"
def Atom.d : Atom → D
  | .always => .tup [.str "always"]
  | .mode m => .tup [.str "mode", .str m]
  | .atN f => .tup [.str "at", .int f]
  | .atTop => .tup [.str "at", .str "top"]
  | .atBottom => .tup [.str "at", .str "bottom"]
  | .rider w => .tup [.str "rider", w.d]
  | .full => .tup [.str "full"]
  | .empty => .tup [.str "empty"]
  | .lit w => .tup [.str "lit", w.d]
  | .litW w u => .tup [.str "lit", w.d, .str (upD u)]
  | .carAt c f => .tup [.str "car", .int c, .str "at", .int f]
  | .carW c w => .tup [.str "car", .int c, w.d]
  | .carIn c m => .tup [.str "car", .int c, .str "in", .str m]
structure Sg where
  p : Int
  load : List Int
  room : Int
  lit : List (Int × Bool)
  cars : List (Int × Int × Str)
def litD (x : Int × Bool) : D := .tup [.int x.1, .str (upD x.2)]
def carD (x : Int × Int × Str) : D := .tup [.int x.1, .int x.2.1, .str x.2.2]
def Sg.ds (s : Sg) : List D := [.int s.p, .tup (s.load.map .int), .int s.room, .tup (s.lit.map litD), .tup (s.cars.map carD)]
def Sg.d (s : Sg) : D := .tup s.ds
structure SgOk (s : Sg) : Prop where
  p0 : 0 ≤ s.p
  p1 : s.p < s.load.length
  nl : s.load.length ≤ 6
  li : ∀ x ∈ s.lit, 0 ≤ x.1 ∧ x.1 < s.load.length
  ll : s.lit.length ≤ 12
  cl : s.cars.length ≤ 1
  cm : ∀ x ∈ s.cars, PyData.strOk x.2.2 = true
  ca : ∀ x ∈ s.cars, 0 ≤ x.2.1 ∧ x.2.1 < s.load.length
def riderB (s : Sg) (w : Wd) : Bool := (List.range s.load.length).any fun i => decide (0 < s.load.getD i 0) && thereB w i s.p
def semA (s : Sg) (mode : Str) : Atom → Bool
  | .always => true
  | .mode m => m == mode
  | .atN f => decide (s.p = f)
  | .atTop => decide (s.p = s.load.length - 1)
  | .atBottom => decide (s.p = 0)
  | .rider w => riderB s w
  | .full => decide (s.load.sum = s.room)
  | .empty => decide (s.load.sum = 0)
  | .lit w => s.lit.any fun x => thereB w x.1 s.p
  | .litW w u => s.lit.any fun x => thereB w x.1 s.p && (u == x.2)
  | .carAt c f => s.cars.any fun x => decide (x.1 = c) && decide (x.2.1 = f)
  | .carW c w => s.cars.any fun x => decide (x.1 = c) && thereB w x.2.1 s.p
  | .carIn c m => s.cars.any fun x => decide (x.1 = c) && (x.2.2 == m)
def AtOk : Atom → Prop
  | .mode m => PyData.strOk m = true
  | .carIn _ m => PyData.strOk m = true
  | .rider (.num f) => 0 ≤ f
  | _ => True
theorem pu_load (l : List Int) : pureDs (l.map D.int) = true := pureDs_map fun _ => rfl
theorem pu_lit (l : List (Int × Bool)) : pureDs (l.map litD) = true := pureDs_map fun _ => rfl
theorem pu_car (l : List (Int × Int × Str)) : pureDs (l.map carD) = true := pureDs_map fun _ => rfl
theorem pu_sg (s : Sg) : pureDs s.ds = true := by simp [Sg.ds, pureDs, pureD, pu_load, pu_lit, pu_car]
theorem pu_atom (a : Atom) : pureD a.d = true := by
  cases a <;> first | rfl | (rename_i w; cases w <;> rfl) | (rename_i w u; cases w <;> rfl)
theorem up_eq (u v : Bool) : (upD u == upD v) = (u == v) := by cases u <;> cases v <;> rfl
theorem up_ok (u : Bool) : PyData.strOk (upD u) = true := by cases u <;> kernel_rfl
/-! ### the program's side -/
abbrev fThere := rf_is_there
abbrev fAt := rf_is_at
abbrev fLit := rf_is_lit_there fThere
abbrev fCar := rf_car_holds fThere
abbrev fAtom := rf_atom_holds fAt fThere fLit fCar
theorem there_ok (w : Wd) (i p : Int) : fThere [w.d, .int i, .int p] = .ok (.bl (thereB w i p)) .non := by cases w <;> kernel_rfl
theorem at_top (p n : Int) : fAt [.str "top", .int p, .int n] = .ok (.bl (decide (p = n - 1))) .non := by kernel_rfl
theorem at_bot (p n : Int) : fAt [.str "bottom", .int p, .int n] = .ok (.bl (decide (p = 0))) .non := by kernel_rfl
theorem at_num (f p n : Int) : fAt [.int f, .int p, .int n] = .ok (.bl (decide (p = f))) .non := by kernel_rfl
theorem pu_wd (w : Wd) : pureD w.d = true := by cases w <;> rfl
theorem lit_ok (w : Wd) (x : Int × Bool) (p : Int) : fLit [.tup [.str "lit", w.d], litD x, .int p] = .ok (.bl (thereB w x.1 p)) .non := by
  unfold fLit rf_is_lit_there
  rw [runF_ok (by simp [plOk, pureD, pureDs, pu_wd, litD])]
  show endOf none (ev_is_lit_there fThere [some (.tup [.str "lit", w.d]), some (litD x), some (.int p)]) = _
  have h : ev_is_lit_there fThere [some (.tup [.str "lit", w.d]), some (litD x), some (.int p)] = .ret (.bl (thereB w x.1 p && true)) [some (.tup [.str "lit", w.d]), some (litD x), some (.int p)] :=
    q_ret0 (p_and0 (p_call0 (p_cons0 (by kernel_rfl) (p_cons0 (by kernel_rfl) (p_cons0 (by kernel_rfl) p_nil))) (there_ok w x.1 p)) (by kernel_rfl))
  rw [h, Bool.and_true]; rfl
theorem litW_ok (w : Wd) (u : Bool) (x : Int × Bool) (p : Int) : fLit [.tup [.str "lit", w.d, .str (upD u)], litD x, .int p] = .ok (.bl (thereB w x.1 p && (u == x.2))) .non := by
  unfold fLit rf_is_lit_there
  rw [runF_ok (by simp [plOk, pureD, pureDs, pu_wd, litD])]
  show endOf none (ev_is_lit_there fThere [some (.tup [.str "lit", w.d, .str (upD u)]), some (litD x), some (.int p)]) = _
  have h : ev_is_lit_there fThere [some (.tup [.str "lit", w.d, .str (upD u)]), some (litD x), some (.int p)] = .ret (.bl (thereB w x.1 p && (false || (upD u == upD x.2)))) [some (.tup [.str "lit", w.d, .str (upD u)]), some (litD x), some (.int p)] :=
    q_ret0 (p_and0 (p_call0 (p_cons0 (by kernel_rfl) (p_cons0 (by kernel_rfl) (p_cons0 (by kernel_rfl) p_nil))) (there_ok w x.1 p)) (p_or0 (by kernel_rfl) fun _ => p_bin0 (by kernel_rfl) (by kernel_rfl) (dEq_str (up_ok u) (up_ok x.2))))
  rw [h, Bool.false_or, up_eq]; rfl
theorem carAt_ok (c f at_ p : Int) (own : Str) : fCar [.tup [.str "car", .int c, .str "at", .int f], .int at_, .str own, .int p] = .ok (.bl (decide (at_ = f))) .non := by kernel_rfl
theorem carIn_ok (c at_ p : Int) (m own : Str) (h1 : PyData.strOk m = true) (h2 : PyData.strOk own = true) : fCar [.tup [.str "car", .int c, .str "in", .str m], .int at_, .str own, .int p] = .ok (.bl (own == m)) .non := by
  have h : ev_car_holds fThere [some (.tup [.str "car", .int c, .str "in", .str m]), some (.int at_), some (.str own), some (.int p)] = .ret (.bl (own == m)) [some (.tup [.str "car", .int c, .str "in", .str m]), some (.int at_), some (.str own), some (.int p)] :=
    q_ifF0 (by kernel_rfl) (q_ifT0 (by kernel_rfl) (q_ret0 (p_bin0 (by kernel_rfl) (by kernel_rfl) (dEq_str h2 h1))))
  show endOf none (ev_car_holds fThere [some (.tup [.str "car", .int c, .str "in", .str m]), some (.int at_), some (.str own), some (.int p)]) = _
  rw [h]; rfl
theorem carW_ok (c at_ p : Int) (w : Wd) (own : Str) : fCar [.tup [.str "car", .int c, w.d], .int at_, .str own, .int p] = .ok (.bl (thereB w at_ p)) .non := by
  cases w <;> kernel_rfl
def at0 (a : Atom) (m : Str) (s : Sg) : EL.Env := [some a.d, some (.str m), some s.d, some (.int s.p), some (.tup (s.load.map .int)), some (.int s.room), some (.tup (s.lit.map litD)), some (.tup (s.cars.map carD)), none, none, none, none, none, none]
theorem atom_ok (a : Atom) (ha : AtOk a) (m : Str) (hm : PyData.strOk m = true) (s : Sg) (hs : SgOk s) : fAtom [a.d, .str m, s.d] = .ok (.bl (semA s m a)) .non := by
  suffices h : ev_atom_holds fAt fThere fLit fCar [some a.d, some (.str m), some s.d, none, none, none, none, none, none, none, none, none, none, none] = .ret (.bl (semA s m a)) (at0 a m s) by
    unfold fAtom rf_atom_holds
    rw [runF_ok (by simp [plOk, pureD, pu_atom, Sg.d, pu_sg])]
    show endOf none (ev_atom_holds fAt fThere fLit fCar [some a.d, some (.str m), some s.d, none, none, none, none, none, none, none, none, none, none, none]) = _
    rw [h]; rfl
  unfold ev_atom_holds
  refine q_seq (q_unpT (ds := s.ds) rfl (pu_sg s) rfl) ?_
  show _ = So.ret (.bl (semA s m a)) (at0 a m s)
  show sSeq _ _ (at0 a m s) = _
  cases a with
  | always => exact q_ifT0 (by kernel_rfl) (q_ret0 rfl)
  | mode k => exact q_ifF0 (by kernel_rfl) (q_ifT0 (by kernel_rfl) (q_ret0 (p_bin0 rfl rfl (dEq_str ha hm))))
  | atN f => exact q_ifF0 (by kernel_rfl) (q_ifF0 (by kernel_rfl) (q_ifT0 (by kernel_rfl) (q_ret0 (p_call0 (p_cons0 rfl (p_cons0 rfl (p_cons0 (p_a10 rfl rfl) p_nil))) (at_num f s.p _)))))
  | atTop =>
    have h := at_top s.p ((s.load.map D.int).length : Int)
    rw [List.length_map] at h
    exact q_ifF0 (by kernel_rfl) (q_ifF0 (by kernel_rfl) (q_ifT0 (by kernel_rfl) (q_ret0 (p_call0 (p_cons0 rfl (p_cons0 rfl (p_cons0 (p_a10 rfl (by show some (D.int ((s.load.map D.int).length : Int)) = _; rw [List.length_map])) p_nil))) h))))
  | atBottom => exact q_ifF0 (by kernel_rfl) (q_ifF0 (by kernel_rfl) (q_ifT0 (by kernel_rfl) (q_ret0 (p_call0 (p_cons0 rfl (p_cons0 rfl (p_cons0 (p_a10 rfl rfl) p_nil))) (at_bot s.p _)))))
  | rider w =>
    refine q_ifF0 (by kernel_rfl) (q_ifF0 (by kernel_rfl) (q_ifF0 (by kernel_rfl) (q_ifT0 (by kernel_rfl) (q_ret0 (p_a10 (l_mapA (xs := List.range s.load.length) (e := fun i => .tup [.int (i : Nat), .int (s.load.getD i 0)]) (f := fun i => .bl (decide (0 < s.load.getD i 0) && thereB w (i : Nat) s.p)) ?_ rfl fun i hi => ?_) any_ok)))))
    · refine (i_enumT (a := eV 4) (ρ := at0 (.rider w) m s) (ρ1 := at0 (.rider w) m s) (ds := s.load.map D.int) rfl (pu_load _)).trans ?_
      congr 1
      unfold enumD
      rw [List.length_map]
      refine List.map_congr_left fun i hi => ?_
      have hl : i < s.load.length := List.mem_range.mp hi
      simp [List.getD_eq_getElem?_getD, hl]
    · exact ⟨_, rfl, p_and0 (by kernel_rfl) (p_call0 (p_cons0 rfl (p_cons0 rfl (p_cons0 rfl p_nil))) (there_ok w _ _)), rfl, rfl⟩
  | full => exact q_ifF0 (by kernel_rfl) (q_ifF0 (by kernel_rfl) (q_ifF0 (by kernel_rfl) (q_ifF0 (by kernel_rfl) (q_ifT0 (by kernel_rfl) (q_ret0 (p_bin0 (p_a10 rfl (sum_ok _)) rfl (dEq_int _ _)))))))
  | empty => exact q_ifF0 (by kernel_rfl) (q_ifF0 (by kernel_rfl) (q_ifF0 (by kernel_rfl) (q_ifF0 (by kernel_rfl) (q_ifF0 (by kernel_rfl) (q_ifT0 (by kernel_rfl) (q_ret0 (p_bin0 (p_a10 rfl (sum_ok _)) rfl (dEq_int _ _))))))))
  | lit w =>
    refine q_ifF0 (by kernel_rfl) (q_ifF0 (by kernel_rfl) (q_ifF0 (by kernel_rfl) (q_ifF0 (by kernel_rfl) (q_ifF0 (by kernel_rfl) (q_ifF0 (by kernel_rfl) (q_ifT0 (by kernel_rfl) (q_ret0 (p_a10 (l_mapA (xs := s.lit) (e := litD) (f := fun x => .bl (thereB w x.1 s.p)) (i_tup0 rfl (pu_lit _)) rfl fun x hx => ?_) any_ok))))))))
    exact ⟨_, rfl, p_call0 (p_cons0 rfl (p_cons0 rfl (p_cons0 rfl p_nil))) (lit_ok w x _), rfl, rfl⟩
  | litW w u =>
    refine q_ifF0 (by kernel_rfl) (q_ifF0 (by kernel_rfl) (q_ifF0 (by kernel_rfl) (q_ifF0 (by kernel_rfl) (q_ifF0 (by kernel_rfl) (q_ifF0 (by kernel_rfl) (q_ifT0 (by kernel_rfl) (q_ret0 (p_a10 (l_mapA (xs := s.lit) (e := litD) (f := fun x => .bl (thereB w x.1 s.p && (u == x.2))) (i_tup0 rfl (pu_lit _)) rfl fun x hx => ?_) any_ok))))))))
    exact ⟨_, rfl, p_call0 (p_cons0 rfl (p_cons0 rfl (p_cons0 rfl p_nil))) (litW_ok w u x _), rfl, rfl⟩
  | carAt c f =>
    refine q_ifF0 (by kernel_rfl) (q_ifF0 (by kernel_rfl) (q_ifF0 (by kernel_rfl) (q_ifF0 (by kernel_rfl) (q_ifF0 (by kernel_rfl) (q_ifF0 (by kernel_rfl) (q_ifF0 (by kernel_rfl) (q_ret0 (p_a10 (l_mapA (xs := s.cars) (e := carD) (f := fun x => .bl (decide (x.1 = c) && decide (x.2.1 = f))) (i_tup0 rfl (pu_car _)) rfl fun x hx => ?_) any_ok))))))))
    exact ⟨_, rfl, p_and0 (p_bin0 rfl rfl (dEq_int _ _)) (p_call0 (p_cons0 rfl (p_cons0 rfl (p_cons0 rfl (p_cons0 rfl p_nil)))) (carAt_ok c f _ _ _)), rfl, rfl⟩
  | carW c w =>
    refine q_ifF0 (by kernel_rfl) (q_ifF0 (by kernel_rfl) (q_ifF0 (by kernel_rfl) (q_ifF0 (by kernel_rfl) (q_ifF0 (by kernel_rfl) (q_ifF0 (by kernel_rfl) (q_ifF0 (by kernel_rfl) (q_ret0 (p_a10 (l_mapA (xs := s.cars) (e := carD) (f := fun x => .bl (decide (x.1 = c) && thereB w x.2.1 s.p)) (i_tup0 rfl (pu_car _)) rfl fun x hx => ?_) any_ok))))))))
    exact ⟨_, rfl, p_and0 (p_bin0 rfl rfl (dEq_int _ _)) (p_call0 (p_cons0 rfl (p_cons0 rfl (p_cons0 rfl (p_cons0 rfl p_nil)))) (carW_ok c _ _ w _)), rfl, rfl⟩
  | carIn c k =>
    refine q_ifF0 (by kernel_rfl) (q_ifF0 (by kernel_rfl) (q_ifF0 (by kernel_rfl) (q_ifF0 (by kernel_rfl) (q_ifF0 (by kernel_rfl) (q_ifF0 (by kernel_rfl) (q_ifF0 (by kernel_rfl) (q_ret0 (p_a10 (l_mapA (xs := s.cars) (e := carD) (f := fun x => .bl (decide (x.1 = c) && (x.2.2 == k))) (i_tup0 rfl (pu_car _)) rfl fun x hx => ?_) any_ok))))))))
    exact ⟨_, rfl, p_and0 (p_bin0 rfl rfl (dEq_int _ _)) (p_call0 (p_cons0 rfl (p_cons0 rfl (p_cons0 rfl (p_cons0 rfl p_nil)))) (carIn_ok c _ _ k _ ha (hs.cm x hx))), rfl, rfl⟩
end K03

namespace K03
open PySem PySem.Spec PyProof.Rows EL
open L2 hiding XE
/-! ### the law's side -/
abbrev fFlo := rf__law_floors
def rg (lo hi : Int) : List Int := (List.range (hi - lo).toNat).map fun i => lo + (i : Nat)
def floL : Wd → Int → Int → List Int
  | .num f, _, _ => [f] | .here, p, _ => [p] | .above, p, n => rg (p + 1) n | .below, p, _ => rg 0 p
theorem rg_mem {lo hi x : Int} : x ∈ rg lo hi ↔ lo ≤ x ∧ x < hi := by
  simp only [rg, List.mem_map, List.mem_range]
  constructor
  · rintro ⟨i, h, rfl⟩; omega
  · intro h; exact ⟨(x - lo).toNat, by omega, by omega⟩
theorem rangeD_rg (lo hi : Int) : rangeD lo (hi - lo).toNat = (rg lo hi).map .int := by simp [rangeD, rg, List.map_map, Function.comp_def]
theorem flo_ok (w : Wd) {p n : Int} (h0 : 0 ≤ p) (h1 : p ≤ 6) (h2 : 0 ≤ n) (h3 : n ≤ 6) : fFlo [w.d, .int p, .int n] = .ok (.lst ((floL w p n).map .int)) .non := by
  have ok : ∀ {i j : Int}, 0 ≤ i → i ≤ 7 → 0 ≤ j → j ≤ 6 → okRg i j = true := fun {i j} a b c d => by
    have e : sizeLine = 16777216 := sizeLine_eq
    simp [okRg, okR, e]; omega
  have rgE : ∀ {ev : M (Int × Int)} {ρ : EL.Env} {i j : Int}, ev ρ = .ok (i, j) ρ → okRg i j = true → eLstRg ev ρ = .ok (.lst ((rg i j).map .int)) ρ := fun {ev ρ i j} h k => by
    unfold eLstRg
    rw [h]
    show (if okRg i j = true then _ else _) = _
    rw [if_pos k, rangeD_rg]
  cases w with
  | num f => kernel_rfl
  | here => kernel_rfl
  | above =>
    have h : ev__law_floors [some (.str "above"), some (.int p), some (.int n)] = .ret (.lst ((rg (p + 1) n).map .int)) [some (.str "above"), some (.int p), some (.int n)] :=
      q_ifF0 (by kernel_rfl) (q_ifT0 (by kernel_rfl) (q_ret0 (rgE rfl (ok (by omega) (by omega) h2 h3))))
    show endOf none (ev__law_floors [some (.str "above"), some (.int p), some (.int n)]) = _
    rw [h]; rfl
  | below =>
    have h : ev__law_floors [some (.str "below"), some (.int p), some (.int n)] = .ret (.lst ((rg 0 p).map .int)) [some (.str "below"), some (.int p), some (.int n)] :=
      q_ifF0 (by kernel_rfl) (q_ifF0 (by kernel_rfl) (q_ifT0 (by kernel_rfl) (q_ret0 (rgE rfl (ok (Int.le_refl 0) (by omega) h0 h1)))))
    show endOf none (ev__law_floors [some (.str "below"), some (.int p), some (.int n)]) = _
    rw [h]; rfl
theorem dat_ints : ∀ xs : List Int, datDs (xs.map D.int) = true ∧ depDs (xs.map D.int) = 0
  | [] => ⟨rfl, rfl⟩
  | x :: xs => by obtain ⟨h1, h2⟩ := dat_ints xs; simp [datDs, depDs, datD, depD, h1, h2]
theorem dat_lits : ∀ xs : List (Int × Bool), datDs (xs.map litD) = true ∧ depDs (xs.map litD) ≤ 1
  | [] => ⟨rfl, by decide⟩
  | x :: xs => by obtain ⟨h1, h2⟩ := dat_lits xs; simp [datDs, depDs, datD, depD, litD, h1, up_ok]; omega
theorem ne_nil {ds : List D} (h1 : datDs ds = true) (h2 : depDs ds ≤ 1) : dNe (.lst ds) (.lst []) = some (.bl (!ds.isEmpty)) := by
  have e : okD (.lst ds) = true := by simp [okD, datD, depD, h1]; omega
  unfold dNe
  rw [e, eqv_nil]; rfl
theorem filt_any {α : Type} (xs : List α) (p : α → Bool) (f : α → D) : (!((xs.filter p).map f).isEmpty) = xs.any p := by
  induction xs with
  | nil => rfl
  | cons x xs ih =>
    cases h : p x with
    | true => simp [h]
    | false => simp only [List.any_cons, h, Bool.false_or, ← ih]; rw [List.filter_cons_of_neg (by simp [h])]
theorem in_ints (i : Int) (xs : List Int) : dIn (.int i) (.lst (xs.map .int)) = some (.bl (xs.any fun z => z == i)) := by
  obtain ⟨h1, h2⟩ := dat_ints xs
  have e : okD (.lst (xs.map .int)) = true := by simp [okD, datD, depD, h1, h2]
  show (if (okD (.int i) && okD (.lst (xs.map .int))) = true then some ((xs.map D.int).any fun z => eqvD z (.int i)) else none).map D.bl = _
  rw [if_pos (by rw [e]; rfl)]
  show some (D.bl _) = _
  rw [List.any_map]; rfl
theorem at_load (l : List Int) (f : Int) (h0 : 0 ≤ f) (h1 : f < l.length) : dIx (.tup (l.map .int)) (.int f) = some (.int (l.getD f.toNat 0)) := by
  have hl : f.toNat < l.length := by omega
  show atI (l.map D.int) f = _
  unfold atI ixN
  rw [List.length_map, if_pos h0, if_pos h1]
  simp [hl]
theorem flo_there (w : Wd) {p n x : Int} (h0 : 0 ≤ x) (h1 : x < n) : ((floL w p n).any fun z => z == x) = thereB w x p := by
  rw [Bool.eq_iff_iff, List.any_eq_true]
  cases w with
  | num f =>
    simp only [floL, thereB, decide_eq_true_eq, List.mem_singleton, beq_iff_eq]
    exact ⟨fun ⟨z, h, e⟩ => by omega, fun h => ⟨x, by omega, rfl⟩⟩
  | here =>
    simp only [floL, thereB, decide_eq_true_eq, List.mem_singleton, beq_iff_eq]
    exact ⟨fun ⟨z, h, e⟩ => by omega, fun h => ⟨x, by omega, rfl⟩⟩
  | above =>
    simp only [floL, thereB, decide_eq_true_eq, rg_mem, beq_iff_eq]
    exact ⟨fun ⟨z, h, e⟩ => by omega, fun h => ⟨x, by omega, rfl⟩⟩
  | below =>
    simp only [floL, thereB, decide_eq_true_eq, rg_mem, beq_iff_eq]
    exact ⟨fun ⟨z, h, e⟩ => by omega, fun h => ⟨x, by omega, rfl⟩⟩
def wOk : Wd → Prop | .num f => 0 ≤ f | _ => True
theorem flo_mem {w : Wd} {p n x : Int} (hw : wOk w) (h0 : 0 ≤ p) (h : x ∈ floL w p n) : 0 ≤ x := by
  cases w with
  | num f => simp only [floL, List.mem_singleton] at h; rw [h]; exact hw
  | here => simp only [floL, List.mem_singleton] at h; rw [h]; exact h0
  | above => have := rg_mem.mp h; omega
  | below => have := rg_mem.mp h; omega
theorem rider_eq (s : Sg) (hs : SgOk s) (w : Wd) (hw : wOk w) : ((floL w s.p s.load.length).any fun (f : Int) => decide (f < s.load.length) && decide (0 < s.load.getD f.toNat 0)) = riderB s w := by
  unfold riderB
  rw [Bool.eq_iff_iff, List.any_eq_true, List.any_eq_true]
  constructor
  · rintro ⟨f, hf, h⟩
    simp only [Bool.and_eq_true, decide_eq_true_eq] at h
    have f0 := flo_mem hw hs.p0 hf
    refine ⟨f.toNat, List.mem_range.mpr (by omega), ?_⟩
    have e : ((f.toNat : Nat) : Int) = f := by omega
    have t := flo_there w (p := s.p) f0 h.1
    have t2 : ((floL w s.p s.load.length).any fun z => z == f) = true := List.any_eq_true.mpr ⟨f, hf, by simp⟩
    rw [t2] at t
    simp only [Bool.and_eq_true, decide_eq_true_eq]
    exact ⟨h.2, by rw [e]; exact t.symm⟩
  · rintro ⟨i, hi, h⟩
    simp only [Bool.and_eq_true, decide_eq_true_eq] at h
    have hl := List.mem_range.mp hi
    have t := flo_there w (p := s.p) (n := s.load.length) (x := (i : Nat)) (by omega) (by omega)
    rw [h.2] at t
    obtain ⟨z, hz, e⟩ := List.any_eq_true.mp t
    have e : z = (i : Nat) := by simpa using e
    subst e
    refine ⟨_, hz, ?_⟩
    simp only [Bool.and_eq_true, decide_eq_true_eq]
    exact ⟨by omega, h.1⟩
def tagA : Atom → Str
  | .always => "always" | .mode _ => "mode" | .atN _ => "at" | .atTop => "at" | .atBottom => "at" | .rider _ => "rider" | .full => "full" | .empty => "empty"
  | .lit _ => "lit" | .litW _ _ => "lit" | .carAt _ _ => "car" | .carW _ _ => "car" | .carIn _ _ => "car"
def la0 (a : Atom) (m : Str) (s : Sg) (x13 x14 x15 x16 : Option D) : EL.Env := [some a.d, some (.str m), some s.d, some (.int s.p), some (.tup (s.load.map .int)), some (.int s.room), some (.tup (s.lit.map litD)), some (.tup (s.cars.map carD)), some (.str (tagA a)), some (.int s.load.length), none, none, none, x13, x14, x15, x16]
def la1 (a : Atom) (m : Str) (s : Sg) : EL.Env := [some a.d, some (.str m), some s.d, some (.int s.p), some (.tup (s.load.map .int)), some (.int s.room), some (.tup (s.lit.map litD)), some (.tup (s.cars.map carD)), none, none, none, none, none, none, none, none, none]
theorem any_cong {α : Type} {xs : List α} {p q : α → Bool} (h : ∀ x ∈ xs, p x = q x) : xs.any p = xs.any q := by
  induction xs with
  | nil => rfl
  | cons x xs ih => rw [List.any_cons, List.any_cons, h x (by simp), ih fun y m => h y (by simp [m])]
theorem cars_cases {s : Sg} (hs : SgOk s) : s.cars = [] ∨ ∃ x, s.cars = [x] := by
  have h := hs.cl
  match hc : s.cars with
  | [] => exact .inl rfl
  | [x] => exact .inr ⟨x, rfl⟩
  | _ :: _ :: _ => rw [hc] at h; simp at h
theorem lawA_ok (F : List D → EL.Fr) (a : Atom) (ha : AtOk a) (m : Str) (hm : PyData.strOk m = true) (s : Sg) (hs : SgOk s) : rf__law_holds F fFlo [a.d, .str m, s.d] = .ok (.bl (semA s m a)) .non := by
  have p0 := hs.p0
  have p1 := hs.p1
  have nl := hs.nl
  suffices h : ∃ ρ, ev__law_holds F fFlo [some a.d, some (.str m), some s.d, none, none, none, none, none, none, none, none, none, none, none, none, none, none] = .ret (.bl (semA s m a)) ρ by
    obtain ⟨ρ, h⟩ := h
    unfold rf__law_holds
    rw [runF_ok (by simp [plOk, pureD, pu_atom, Sg.d, pu_sg])]
    show endOf none (ev__law_holds F fFlo [some a.d, some (.str m), some s.d, none, none, none, none, none, none, none, none, none, none, none, none, none, none]) = _
    rw [h]; rfl
  have flo : ∀ w : Wd, fFlo [w.d, .int s.p, .int s.load.length] = .ok (.lst ((floL w s.p s.load.length).map .int)) .non := fun w => flo_ok w p0 (by omega) (by omega) (by omega)
  have hlen : eA1 dLen (eBin dIx (eV 2) (eC (.int 1))) (la1 a m s) = .ok (.int s.load.length) (la1 a m s) :=
    p_a10 (x := .tup (s.load.map .int)) rfl (by show some (D.int ((s.load.map D.int).length : Int)) = _; rw [List.length_map])
  have htag : eBin dIx (eV 0) (eC (.int 0)) (la1 a m s) = .ok (.str (tagA a)) (la1 a m s) := by cases a <;> rfl
  have go : ∀ {u : Ms} {ρ0 : EL.Env}, (∃ ρ, u (la0 a m s none none none none) = .ret (.bl (semA s m a)) ρ) → ∃ ρ, sSeq (sUnp (gsCons (gSet 3) (gsCons (gSet 4) (gsCons (gSet 5) (gsCons (gSet 6) (gsCons (gSet 7) gsNil))))) (eV 2)) (sSeq (sUnp (gsCons (gSet 8) (gsCons (gSet 9) gsNil)) (eTup (eaCons (eBin dIx (eV 0) (eC (.int 0))) (eaCons (eA1 dLen (eBin dIx (eV 2) (eC (.int 1)))) eaNil)))) u) [some a.d, some (.str m), some s.d, none, none, none, none, none, none, none, none, none, none, none, none, none, none] = .ret (.bl (semA s m a)) ρ := fun {u ρ0} ⟨ρ, h⟩ =>
    ⟨ρ, q_seq (ρ1 := la1 a m s) (q_unpT (ds := s.ds) rfl (pu_sg s) rfl) (q_seq (ρ1 := la0 a m s none none none none) (q_unpT (ds := [.str (tagA a), .int s.load.length]) (p_tup0 (p_cons0 htag (p_cons0 hlen p_nil)) rfl (by show 2 ≤ sizeLine; decide)) rfl rfl) h)⟩
  unfold ev__law_holds
  refine go (ρ0 := []) ?_
  clear hlen htag go
  cases a with
  | always => exact ⟨_, q_ifF0 (by kernel_rfl) (q_ifF0 (by kernel_rfl) (q_ifT0 (by kernel_rfl) (q_ret0 rfl)))⟩
  | mode k => exact ⟨_, q_ifF0 (by kernel_rfl) (q_ifF0 (by kernel_rfl) (q_ifF0 (by kernel_rfl) (q_ifT0 (by kernel_rfl) (q_ret0 (p_bin0 rfl rfl (dEq_str ha hm))))))⟩
  | atN f => exact ⟨_, q_ifF0 (by kernel_rfl) (q_ifF0 (by kernel_rfl) (q_ifF0 (by kernel_rfl) (q_ifF0 (by kernel_rfl) (q_ifT0 (by kernel_rfl) (q_ret0 (p_bin0 rfl (y := .int f) (by kernel_rfl) (dEq_int _ _)))))))⟩
  | atTop => exact ⟨_, q_ifF0 (by kernel_rfl) (q_ifF0 (by kernel_rfl) (q_ifF0 (by kernel_rfl) (q_ifF0 (by kernel_rfl) (q_ifT0 (by kernel_rfl) (q_ret0 (p_bin0 rfl (y := .int (s.load.length - 1)) (by kernel_rfl) (dEq_int _ _)))))))⟩
  | atBottom => exact ⟨_, q_ifF0 (by kernel_rfl) (q_ifF0 (by kernel_rfl) (q_ifF0 (by kernel_rfl) (q_ifF0 (by kernel_rfl) (q_ifT0 (by kernel_rfl) (q_ret0 (p_bin0 rfl (y := .int 0) (by kernel_rfl) (dEq_int _ _)))))))⟩
  | full => exact ⟨_, q_ifF0 (by kernel_rfl) (q_ifF0 (by kernel_rfl) (q_ifF0 (by kernel_rfl) (q_ifF0 (by kernel_rfl) (q_ifF0 (by kernel_rfl) (q_ifT0 (by kernel_rfl) (q_ret0 (p_bin0 (p_a10 rfl (sum_ok _)) (y := .int s.room) (by kernel_rfl) (dEq_int _ _))))))))⟩
  | empty => exact ⟨_, q_ifF0 (by kernel_rfl) (q_ifF0 (by kernel_rfl) (q_ifF0 (by kernel_rfl) (q_ifF0 (by kernel_rfl) (q_ifF0 (by kernel_rfl) (q_ifT0 (by kernel_rfl) (q_ret0 (p_bin0 (p_a10 rfl (sum_ok _)) (y := .int 0) (by kernel_rfl) (dEq_int _ _))))))))⟩
  | rider w =>
    have hw : wOk w := by cases w <;> first | exact ha | trivial
    have hb : dNe (.lst (((floL w s.p s.load.length).filter fun (f : Int) => decide (f < s.load.length) && decide (0 < s.load.getD f.toNat 0)).map D.int)) (.lst []) = some (.bl (semA s m (.rider w))) := by
      obtain ⟨h1, h2⟩ := dat_ints ((floL w s.p s.load.length).filter fun (f : Int) => decide (f < s.load.length) && decide (0 < s.load.getD f.toNat 0))
      rw [ne_nil h1 (by omega), filt_any, rider_eq s hs w hw]; rfl
    refine ⟨_, q_ifF0 (by kernel_rfl) (q_ifF0 (by kernel_rfl) (q_ifF0 (by kernel_rfl) (q_ifF0 (by kernel_rfl) (q_ifF0 (by kernel_rfl) (q_ifF0 (by kernel_rfl) (q_ifT0 (by kernel_rfl) (q_ret0 (p_bin0 (l_pureA (xs := floL w s.p s.load.length) (e := .int) (f := .int) (p := fun (f : Int) => decide (f < s.load.length) && decide (0 < s.load.getD f.toNat 0)) (i_lst0 (p_call0 (p_cons0 rfl (p_cons0 rfl (p_cons0 rfl p_nil))) (flo w)) (pu_load _)) rfl fun f hf => ?_) rfl hb))))))))⟩
    refine ⟨_, rfl, b_and0 (b_v0 rfl) fun h => b_v0 (p_bin0 (p_bin0 rfl rfl (at_load _ _ (flo_mem hw p0 hf) (of_decide_eq_true h))) rfl rfl), fun _ => ⟨rfl, rfl⟩, rfl⟩
  | lit w =>
    have hb : dNe (.lst ((s.lit.filter fun x => ((floL w s.p s.load.length).any fun z => z == x.1) && (true || true)).map litD)) (.lst []) = some (.bl (semA s m (.lit w))) := by
      obtain ⟨h1, h2⟩ := dat_lits (s.lit.filter fun x => ((floL w s.p s.load.length).any fun z => z == x.1) && (true || true))
      rw [ne_nil h1 h2, filt_any]
      congr 2
      exact any_cong fun x hx => by
        rw [flo_there w (hs.li x hx).1 (hs.li x hx).2]
        rw [Bool.or_true, Bool.and_true]
    refine ⟨_, q_ifF0 (by kernel_rfl) <| q_ifF0 (by kernel_rfl) <| q_ifF0 (by kernel_rfl) <| q_ifF0 (by kernel_rfl) <| q_ifF0 (by kernel_rfl) <| q_ifF0 (by kernel_rfl) <| q_ifF0 (by kernel_rfl) <| q_ifT (v := sNil) (ρ1 := la0 (.lit w) m s none none none none) (by kernel_rfl) <| q_seq (ρ1 := la0 (.lit w) m s (some (.lst ((floL w s.p s.load.length).map .int))) none none none) (q_set0 (p_call0 (p_cons0 rfl (p_cons0 rfl (p_cons0 rfl p_nil))) (flo w))) <| q_ret0 <| p_bin0 (l_pureA (xs := s.lit) (e := litD) (f := litD) (p := fun x => ((floL w s.p s.load.length).any fun z => z == x.1) && (true || true)) (i_tup0 rfl (pu_lit _)) rfl fun x hx => ?_) rfl hb⟩
    exact ⟨_, rfl, b_and0 (b_v0 (p_bin0 rfl rfl (in_ints _ _))) fun _ => b_or0 (by kernel_rfl) (fun h => by cases h), fun _ => ⟨rfl, rfl⟩, rfl⟩
  | litW w u =>
    have hb : dNe (.lst ((s.lit.filter fun x => ((floL w s.p s.load.length).any fun z => z == x.1) && (false || (upD x.2 == upD u))).map litD)) (.lst []) = some (.bl (semA s m (.litW w u))) := by
      obtain ⟨h1, h2⟩ := dat_lits (s.lit.filter fun x => ((floL w s.p s.load.length).any fun z => z == x.1) && (false || (upD x.2 == upD u)))
      rw [ne_nil h1 h2, filt_any]
      congr 2
      exact any_cong fun x hx => by
        rw [flo_there w (hs.li x hx).1 (hs.li x hx).2]
        rw [Bool.false_or, up_eq]
        congr 1
        cases u <;> cases x.2 <;> rfl
    refine ⟨_, q_ifF0 (by kernel_rfl) <| q_ifF0 (by kernel_rfl) <| q_ifF0 (by kernel_rfl) <| q_ifF0 (by kernel_rfl) <| q_ifF0 (by kernel_rfl) <| q_ifF0 (by kernel_rfl) <| q_ifF0 (by kernel_rfl) <| q_ifT (v := sNil) (ρ1 := la0 (.litW w u) m s none none none none) (by kernel_rfl) <| q_seq (ρ1 := la0 (.litW w u) m s (some (.lst ((floL w s.p s.load.length).map .int))) none none none) (q_set0 (p_call0 (p_cons0 rfl (p_cons0 rfl (p_cons0 rfl p_nil))) (flo w))) <| q_ret0 <| p_bin0 (l_pureA (xs := s.lit) (e := litD) (f := litD) (p := fun x => ((floL w s.p s.load.length).any fun z => z == x.1) && (false || (upD x.2 == upD u))) (i_tup0 rfl (pu_lit _)) rfl fun x hx => ?_) rfl hb⟩
    exact ⟨_, rfl, b_and0 (b_v0 (p_bin0 rfl rfl (in_ints _ _))) fun _ => b_or0 (by kernel_rfl) (fun h => b_v0 (p_bin0 rfl rfl (dEq_str (up_ok _) (up_ok _)))), fun _ => ⟨rfl, rfl⟩, rfl⟩
  | carAt c f =>
    rcases cars_cases hs with hc | ⟨x, hc⟩
    · exact ⟨_, q_ifF0 (by kernel_rfl) <| q_ifF0 (by kernel_rfl) <| q_ifF0 (by kernel_rfl) <| q_ifF0 (by kernel_rfl) <| q_ifF0 (by kernel_rfl) <| q_ifF0 (by kernel_rfl) <| q_ifF0 (by kernel_rfl) <| q_ifF0 (by kernel_rfl) <| q_seq (ρ1 := la0 (.carAt c f) m s none none none none) (for_nil ((i_tup0 rfl (pu_car _)).trans (by rw [hc]; rfl))) <| q_ret0 (by show Rs.ok (D.bl false) _ = _; simp [semA, hc])⟩
    · by_cases he : x.1 = c
      · refine ⟨_, q_ifF0 (by kernel_rfl) <| q_ifF0 (by kernel_rfl) <| q_ifF0 (by kernel_rfl) <| q_ifF0 (by kernel_rfl) <| q_ifF0 (by kernel_rfl) <| q_ifF0 (by kernel_rfl) <| q_ifF0 (by kernel_rfl) <| q_ifF0 (by kernel_rfl) <| q_seqR <| for_oneR (d := carD x) (ρ1 := la0 (.carAt c f) m s none (some (.int x.1)) (some (.int x.2.1)) (some (.str x.2.2))) ((i_tup0 rfl (pu_car _)).trans (by rw [hc]; rfl)) rfl <| q_if (k := true) (ρ1 := la0 (.carAt c f) m s none (some (.int x.1)) (some (.int x.2.1)) (some (.str x.2.2))) (b_v0 (p_bin0 rfl rfl (by rw [dEq_int]; simp [he]))) <| q_ifF0 (by kernel_rfl) <| q_ret0 <| p_bin0 rfl (p_call0 (p_cons0 (x := .int f) (by kernel_rfl) (p_cons0 rfl (p_cons0 rfl p_nil))) (flo (.num f))) ?_⟩
        rw [in_ints]
        simp [semA, hc, he, floL, eq_comm]
        rfl
      · exact ⟨_, q_ifF0 (by kernel_rfl) <| q_ifF0 (by kernel_rfl) <| q_ifF0 (by kernel_rfl) <| q_ifF0 (by kernel_rfl) <| q_ifF0 (by kernel_rfl) <| q_ifF0 (by kernel_rfl) <| q_ifF0 (by kernel_rfl) <| q_ifF0 (by kernel_rfl) <| q_seq (for_oneN (d := carD x) (ρ1 := la0 (.carAt c f) m s none (some (.int x.1)) (some (.int x.2.1)) (some (.str x.2.2))) ((i_tup0 rfl (pu_car _)).trans (by rw [hc]; rfl)) rfl <| q_if (k := false) (ρ1 := la0 (.carAt c f) m s none (some (.int x.1)) (some (.int x.2.1)) (some (.str x.2.2))) (b_v0 (p_bin0 rfl rfl (by rw [dEq_int]; simp [he]))) rfl) <| q_ret0 (by show Rs.ok (D.bl false) _ = _; simp [semA, hc, he])⟩
  | carW c w =>
    rcases cars_cases hs with hc | ⟨x, hc⟩
    · exact ⟨_, q_ifF0 (by kernel_rfl) <| q_ifF0 (by kernel_rfl) <| q_ifF0 (by kernel_rfl) <| q_ifF0 (by kernel_rfl) <| q_ifF0 (by kernel_rfl) <| q_ifF0 (by kernel_rfl) <| q_ifF0 (by kernel_rfl) <| q_ifF0 (by kernel_rfl) <| q_seq (ρ1 := la0 (.carW c w) m s none none none none) (for_nil ((i_tup0 rfl (pu_car _)).trans (by rw [hc]; rfl))) <| q_ret0 (by show Rs.ok (D.bl false) _ = _; simp [semA, hc])⟩
    · by_cases he : x.1 = c
      · refine ⟨_, q_ifF0 (by kernel_rfl) <| q_ifF0 (by kernel_rfl) <| q_ifF0 (by kernel_rfl) <| q_ifF0 (by kernel_rfl) <| q_ifF0 (by kernel_rfl) <| q_ifF0 (by kernel_rfl) <| q_ifF0 (by kernel_rfl) <| q_ifF0 (by kernel_rfl) <| q_seqR <| for_oneR (d := carD x) (ρ1 := la0 (.carW c w) m s none (some (.int x.1)) (some (.int x.2.1)) (some (.str x.2.2))) ((i_tup0 rfl (pu_car _)).trans (by rw [hc]; rfl)) rfl <| q_if (k := true) (ρ1 := la0 (.carW c w) m s none (some (.int x.1)) (some (.int x.2.1)) (some (.str x.2.2))) (b_v0 (p_bin0 rfl rfl (by rw [dEq_int]; simp [he]))) <| q_ifF0 (by cases w <;> kernel_rfl) <| q_ret0 <| p_bin0 rfl (p_call0 (p_cons0 (x := w.d) (by cases w <;> kernel_rfl) (p_cons0 rfl (p_cons0 rfl p_nil))) (flo w)) ?_⟩
        have hx := hs.ca x (by rw [hc]; simp)
        rw [in_ints, flo_there w hx.1 hx.2]
        simp [semA, hc, he]
      · exact ⟨_, q_ifF0 (by kernel_rfl) <| q_ifF0 (by kernel_rfl) <| q_ifF0 (by kernel_rfl) <| q_ifF0 (by kernel_rfl) <| q_ifF0 (by kernel_rfl) <| q_ifF0 (by kernel_rfl) <| q_ifF0 (by kernel_rfl) <| q_ifF0 (by kernel_rfl) <| q_seq (for_oneN (d := carD x) (ρ1 := la0 (.carW c w) m s none (some (.int x.1)) (some (.int x.2.1)) (some (.str x.2.2))) ((i_tup0 rfl (pu_car _)).trans (by rw [hc]; rfl)) rfl <| q_if (k := false) (ρ1 := la0 (.carW c w) m s none (some (.int x.1)) (some (.int x.2.1)) (some (.str x.2.2))) (b_v0 (p_bin0 rfl rfl (by rw [dEq_int]; simp [he]))) rfl) <| q_ret0 (by show Rs.ok (D.bl false) _ = _; simp [semA, hc, he])⟩
  | carIn c k =>
    rcases cars_cases hs with hc | ⟨x, hc⟩
    · exact ⟨_, q_ifF0 (by kernel_rfl) <| q_ifF0 (by kernel_rfl) <| q_ifF0 (by kernel_rfl) <| q_ifF0 (by kernel_rfl) <| q_ifF0 (by kernel_rfl) <| q_ifF0 (by kernel_rfl) <| q_ifF0 (by kernel_rfl) <| q_ifF0 (by kernel_rfl) <| q_seq (ρ1 := la0 (.carIn c k) m s none none none none) (for_nil ((i_tup0 rfl (pu_car _)).trans (by rw [hc]; rfl))) <| q_ret0 (by show Rs.ok (D.bl false) _ = _; simp [semA, hc])⟩
    · by_cases he : x.1 = c
      · refine ⟨_, q_ifF0 (by kernel_rfl) <| q_ifF0 (by kernel_rfl) <| q_ifF0 (by kernel_rfl) <| q_ifF0 (by kernel_rfl) <| q_ifF0 (by kernel_rfl) <| q_ifF0 (by kernel_rfl) <| q_ifF0 (by kernel_rfl) <| q_ifF0 (by kernel_rfl) <| q_seqR <| for_oneR (d := carD x) (ρ1 := la0 (.carIn c k) m s none (some (.int x.1)) (some (.int x.2.1)) (some (.str x.2.2))) ((i_tup0 rfl (pu_car _)).trans (by rw [hc]; rfl)) rfl <| q_if (k := true) (ρ1 := la0 (.carIn c k) m s none (some (.int x.1)) (some (.int x.2.1)) (some (.str x.2.2))) (b_v0 (p_bin0 rfl rfl (by rw [dEq_int]; simp [he]))) <| q_ifT0 (by kernel_rfl) <| q_ret0 <| p_bin0 rfl rfl ?_⟩
        refine (dEq_str (hs.cm x (by rw [hc]; simp)) ha).trans ?_
        simp [semA, hc, he]
      · exact ⟨_, q_ifF0 (by kernel_rfl) <| q_ifF0 (by kernel_rfl) <| q_ifF0 (by kernel_rfl) <| q_ifF0 (by kernel_rfl) <| q_ifF0 (by kernel_rfl) <| q_ifF0 (by kernel_rfl) <| q_ifF0 (by kernel_rfl) <| q_ifF0 (by kernel_rfl) <| q_seq (for_oneN (d := carD x) (ρ1 := la0 (.carIn c k) m s none (some (.int x.1)) (some (.int x.2.1)) (some (.str x.2.2))) ((i_tup0 rfl (pu_car _)).trans (by rw [hc]; rfl)) rfl <| q_if (k := false) (ρ1 := la0 (.carIn c k) m s none (some (.int x.1)) (some (.int x.2.1)) (some (.str x.2.2))) (b_v0 (p_bin0 rfl rfl (by rw [dEq_int]; simp [he]))) rfl) <| q_ret0 (by show Rs.ok (D.bl false) _ = _; simp [semA, hc, he])⟩
end K03

namespace K03
open PySem PySem.Spec PyProof.Rows EL
open L2 hiding XE
/-! ### conditions: what one is worth at a sight, in a mode -/
inductive CSem (s : Sg) (m : Str) : Nat → D → Bool → Prop
  | at_ {k : Nat} (a : Atom) (ha : AtOk a) : CSem s m k a.d (semA s m a)
  | no {k : Nat} {c : D} {b : Bool} (h : CSem s m k c b) : CSem s m (k + 1) (.tup [.str "not", c]) (!b)
  | and {k : Nat} (cs : List (D × Bool)) (h : ∀ x ∈ cs, CSem s m k x.1 x.2) : CSem s m (k + 1) (.tup [.str "and", .tup (cs.map (·.1))]) (cs.all (·.2))
  | or {k : Nat} (cs : List (D × Bool)) (h : ∀ x ∈ cs, CSem s m k x.1 x.2) : CSem s m (k + 1) (.tup [.str "or", .tup (cs.map (·.1))]) (cs.any (·.2))
theorem CSem.pure {s : Sg} {m : Str} {k : Nat} {c : D} {b : Bool} (h : CSem s m k c b) : pureD c = true := by
  induction h with
  | at_ a _ => exact pu_atom a
  | no _ ih => simp [pureD, pureDs, ih]
  | and cs _ ih => simp only [pureD, pureDs, Bool.true_and, Bool.and_true]; exact pureDs_mem fun d hd => by obtain ⟨x, hx, rfl⟩ := List.mem_map.mp hd; exact ih x hx
  | or cs _ ih => simp only [pureD, pureDs, Bool.true_and, Bool.and_true]; exact pureDs_mem fun d hd => by obtain ⟨x, hx, rfl⟩ := List.mem_map.mp hd; exact ih x hx
theorem CSem.mono {s : Sg} {m : Str} {k j : Nat} {c : D} {b : Bool} (h : CSem s m k c b) (hj : k ≤ j) : CSem s m j c b := by
  induction h generalizing j with
  | at_ a ha => exact .at_ a ha
  | no _ ih => obtain ⟨j, rfl⟩ : ∃ i, j = i + 1 := ⟨j - 1, by omega⟩; exact .no (ih (by omega))
  | and cs _ ih => obtain ⟨j, rfl⟩ : ∃ i, j = i + 1 := ⟨j - 1, by omega⟩; exact .and cs fun x hx => ih x hx (by omega)
  | or cs _ ih => obtain ⟨j, rfl⟩ : ∃ i, j = i + 1 := ⟨j - 1, by omega⟩; exact .or cs fun x hx => ih x hx (by omega)
def fTrue : Nat → List D → EL.Fr
  | 0 => fun _ => .st
  | j + 1 => rf_is_true (fTrue j) fAtom
def fLH : Nat → List D → EL.Fr
  | 0 => fun _ => .st
  | j + 1 => rf__law_holds (fLH j) fFlo
section
variable {s : Sg} {m : Str}
theorem pu_cs {k : Nat} {cs : List (D × Bool)} (h : ∀ x ∈ cs, CSem s m k x.1 x.2) : pureDs (cs.map (·.1)) = true := pureDs_mem fun d hd => by obtain ⟨x, hx, rfl⟩ := List.mem_map.mp hd; exact (h x hx).pure
theorem tr_ok (hm : PyData.strOk m = true) (hs : SgOk s) {k : Nat} {c : D} {b : Bool} (h : CSem s m k c b) : fTrue (k + 1) [c, .str m, s.d] = .ok (.bl b) .non := by
  have key : ∀ {k : Nat} {c : D} {b : Bool} {ρ : EL.Env}, CSem s m k c b → ev_is_true (fTrue k) fAtom [some c, some (.str m), some s.d, none] = .ret (.bl b) ρ → fTrue (k + 1) [c, .str m, s.d] = .ok (.bl b) .non := fun {k c b ρ} h q => by
    unfold fTrue rf_is_true
    rw [runF_ok (by simp [plOk, pureD, h.pure, Sg.d, pu_sg])]
    show endOf none (ev_is_true (fTrue k) fAtom [some c, some (.str m), some s.d, none]) = _
    rw [q]; rfl
  induction h with
  | at_ a ha =>
    refine key (.at_ a ha) (q_ifF0 (by cases a <;> kernel_rfl) <| q_ifF0 (by cases a <;> kernel_rfl) <| q_ifF0 (by cases a <;> kernel_rfl) <| q_ret0 <| p_call0 (p_cons0 rfl (p_cons0 rfl (p_cons0 rfl p_nil))) (atom_ok a ha m hm s hs))
  | no h ih => exact key (.no h) (q_ifT0 (by kernel_rfl) <| q_ret0 <| p_not0 <| p_call0 (p_cons0 rfl (p_cons0 rfl (p_cons0 rfl p_nil))) ih)
  | and cs h ih => exact key (.and cs h) (q_ifF0 (by kernel_rfl) <| q_ifT0 (by kernel_rfl) <| q_ret0 <| p_a10 (l_mapA (xs := cs) (e := (·.1)) (f := fun x => .bl x.2) (i_tup0 rfl (pu_cs h)) rfl fun x hx => ⟨_, rfl, p_call0 (p_cons0 rfl (p_cons0 rfl (p_cons0 rfl p_nil))) (ih x hx), rfl, rfl⟩) all_ok)
  | or cs h ih => exact key (.or cs h) (q_ifF0 (by kernel_rfl) <| q_ifF0 (by kernel_rfl) <| q_ifT0 (by kernel_rfl) <| q_ret0 <| p_a10 (l_mapA (xs := cs) (e := (·.1)) (f := fun x => .bl x.2) (i_tup0 rfl (pu_cs h)) rfl fun x hx => ⟨_, rfl, p_call0 (p_cons0 rfl (p_cons0 rfl (p_cons0 rfl p_nil))) (ih x hx), rfl, rfl⟩) any_ok)
theorem dat_bls : ∀ xs : List Bool, datDs (xs.map D.bl) = true ∧ depDs (xs.map D.bl) = 0
  | [] => ⟨rfl, rfl⟩
  | x :: xs => by obtain ⟨h1, h2⟩ := dat_bls xs; simp [datDs, depDs, datD, depD, h1, h2]
theorem in_bls (i : Bool) (xs : List Bool) : inD (.bl i) (.lst (xs.map .bl)) = some (xs.any fun z => z == i) := by
  obtain ⟨h1, h2⟩ := dat_bls xs
  have e : okD (.lst (xs.map .bl)) = true := by simp [okD, datD, depD, h1, h2]
  show (if (okD (.bl i) && okD (.lst (xs.map .bl))) = true then some ((xs.map D.bl).any fun z => eqvD z (.bl i)) else none) = _
  rw [if_pos (by rw [e]; rfl), List.any_map]; rfl
def lc1 (c : D) (m : Str) (s : Sg) : EL.Env := [some c, some (.str m), some s.d, some (.int s.p), some (.tup (s.load.map .int)), some (.int s.room), some (.tup (s.lit.map litD)), some (.tup (s.cars.map carD)), none, none, none, none, none, none, none, none, none]
def lc0 (c : D) (t : Str) (m : Str) (s : Sg) (x : Option D) : EL.Env := [some c, some (.str m), some s.d, some (.int s.p), some (.tup (s.load.map .int)), some (.int s.room), some (.tup (s.lit.map litD)), some (.tup (s.cars.map carD)), some (.str t), some (.int s.load.length), x, none, none, none, none, none, none]
theorem lh_ok (hm : PyData.strOk m = true) (hs : SgOk s) {k : Nat} {c : D} {b : Bool} (h : CSem s m k c b) : fLH (k + 1) [c, .str m, s.d] = .ok (.bl b) .non := by
  have key : ∀ {k : Nat} {c : D} {b : Bool} {u : Ms} (t : Str) {ρ : EL.Env}, CSem s m k c b → (ev__law_holds (fLH k) fFlo = sSeq (sUnp (gsCons (gSet 3) (gsCons (gSet 4) (gsCons (gSet 5) (gsCons (gSet 6) (gsCons (gSet 7) gsNil))))) (eV 2)) (sSeq (sUnp (gsCons (gSet 8) (gsCons (gSet 9) gsNil)) (eTup (eaCons (eBin dIx (eV 0) (eC (.int 0))) (eaCons (eA1 dLen (eBin dIx (eV 2) (eC (.int 1)))) eaNil)))) u)) →
      eBin dIx (eV 0) (eC (.int 0)) (lc1 c m s) = .ok (.str t) (lc1 c m s) → u (lc0 c t m s none) = .ret (.bl b) ρ → fLH (k + 1) [c, .str m, s.d] = .ok (.bl b) .non := fun {k c b u} t {ρ} h hu ht q => by
    have hlen : eA1 dLen (eBin dIx (eV 2) (eC (.int 1))) (lc1 c m s) = .ok (.int s.load.length) (lc1 c m s) :=
      p_a10 (x := .tup (s.load.map .int)) rfl (by show some (D.int ((s.load.map D.int).length : Int)) = _; rw [List.length_map])
    unfold fLH rf__law_holds
    rw [runF_ok (by simp [plOk, pureD, h.pure, Sg.d, pu_sg])]
    show endOf none (ev__law_holds (fLH k) fFlo [some c, some (.str m), some s.d, none, none, none, none, none, none, none, none, none, none, none, none, none, none]) = _
    rw [hu]
    exact (congrArg (endOf none) (q_seq (ρ1 := lc1 c m s) (q_unpT (a := eV 2) (ds := s.ds) rfl (pu_sg s) rfl) (q_seq (ρ1 := lc0 c t m s none) (q_unpT (ds := [.str t, .int s.load.length]) (p_tup0 (p_cons0 ht (p_cons0 hlen p_nil)) rfl (by show 2 ≤ sizeLine; decide)) rfl rfl) q))).trans rfl
  induction h with
  | at_ a ha => exact lawA_ok _ a ha m hm s hs
  | no h ih => exact key "not" (.no h) rfl rfl (q_ifT0 (by kernel_rfl) <| q_ret0 <| p_not0 <| p_call0 (p_cons0 rfl (p_cons0 rfl (p_cons0 rfl p_nil))) ih)
  | and cs h ih =>
    refine key "and" (.and cs h) rfl rfl (q_ifF0 (by kernel_rfl) <| q_ifT (v := sNil) (ρ1 := lc0 (.tup [.str "and", .tup (cs.map (·.1))]) "and" m s none) (by kernel_rfl) <| q_seq (ρ1 := lc0 (.tup [.str "and", .tup (cs.map (·.1))]) "and" m s (some (.lst (cs.map fun x => .bl x.2)))) (q_set (l_mapA (xs := cs) (e := (·.1)) (f := fun x => .bl x.2) (i_tup0 rfl (pu_cs h)) rfl fun x hx => ⟨_, rfl, p_call0 (p_cons0 rfl (p_cons0 rfl (p_cons0 rfl p_nil))) (ih x hx), rfl, rfl⟩) rfl) <| q_ret0 <| p_if (k := true) (by kernel_rfl) <| p_bin0 rfl rfl ?_)
    have e : (cs.map fun x => D.bl x.2) = (cs.map (·.2)).map D.bl := by rw [List.map_map]; rfl
    rw [e]
    unfold dNotIn
    rw [in_bls, List.any_map]
    show some (D.bl _) = _
    congr 2
    rw [Bool.eq_iff_iff]
    simp [List.any_eq_true, List.all_eq_true]
  | or cs h ih =>
    refine key "or" (.or cs h) rfl rfl (q_ifF0 (by kernel_rfl) <| q_ifT (v := sNil) (ρ1 := lc0 (.tup [.str "or", .tup (cs.map (·.1))]) "or" m s none) (by kernel_rfl) <| q_seq (ρ1 := lc0 (.tup [.str "or", .tup (cs.map (·.1))]) "or" m s (some (.lst (cs.map fun x => .bl x.2)))) (q_set (l_mapA (xs := cs) (e := (·.1)) (f := fun x => .bl x.2) (i_tup0 rfl (pu_cs h)) rfl fun x hx => ⟨_, rfl, p_call0 (p_cons0 rfl (p_cons0 rfl (p_cons0 rfl p_nil))) (ih x hx), rfl, rfl⟩) rfl) <| q_ret0 <| p_if (k := false) (by kernel_rfl) <| p_bin0 rfl rfl ?_)
    have e : (cs.map fun x => D.bl x.2) = (cs.map (·.2)).map D.bl := by rw [List.map_map]; rfl
    rw [e]
    unfold dIn
    rw [in_bls, List.any_map]
    show some (D.bl _) = _
    congr 2
    rw [Bool.eq_iff_iff]
    simp [List.any_eq_true]
end
end K03

namespace K03
open PySem PySem.Spec PyProof.Rows EL
open L2 hiding XE
/-! ### the pen -/
def penD (cs : List Int) (at_ dg ct fo : Int) : D := .dic [(.inr "cells", .lst (cs.map .int)), (.inr "at", .int at_), (.inr "digits", .int dg), (.inr "count", .int ct), (.inr "fold", .int fo)]
def PenOk (d : D) : Prop := ∃ cs at_ dg ct fo, d = penD cs at_ dg ct fo ∧ 0 ≤ at_ ∧ 0 ≤ dg
theorem at_lst (l : List Int) (f : Int) (h0 : 0 ≤ f) (h1 : f < l.length) : dIx (.lst (l.map .int)) (.int f) = some (.int (l.getD f.toNat 0)) := at_load l f h0 h1
def pe (cs : List Int) (at_ dg ct fo many : Int) (x2 x3 x4 : Option D) : EL.Env := [some (penD cs at_ dg ct fo), some (.int many), x2, x3, x4]
def drawTail : Ms :=
    (sSeq (sIf (ebV (eBin (dLtI iGt) (eBin dIx (eV 0) (eC (.str "digits"))) (eC (.int 0)))) (sSeq (sSet 3 (eBin dMod (eA1 dInt (eBin dIx (eV 0) (eC (.str "digits")))) (eV 1)))
  (sSeq (sPut 0 (eC (.str "digits")) (eBin dFdiv (eBin dIx (eV 0) (eC (.str "digits"))) (eV 1)))
  (sRet (eV 3)))) sNil)
  (sSeq (sSet 4 (eBin dMod (eA1 dInt (eBin dAdd (eBin dAdd (eBin dMul (eBin dIx (eV 0) (eC (.str "fold"))) (eC (.int 48271))) (eBin dMul (eBin dIx (eV 0) (eC (.str "count"))) (eC (.int 7919)))) (eC (.int 13)))) (eC (.int 2147483647))))
  (sSeq (sSet 4 (eBin dMod (eA1 dInt (eBin dAdd (eBin dAdd (eBin dMul (eV 4) (eV 4)) (eBin dMul (eC (.int 31)) (eV 4))) (eBin dIx (eV 0) (eC (.str "count"))))) (eC (.int 2147483629))))
  (sSeq (sPut 0 (eC (.str "fold")) (eBin dMod (eA1 dInt (eBin dAdd (eBin dMul (eV 4) (eC (.int 16807))) (eC (.int 7)))) (eC (.int 2147483647))))
  (sRet (eBin dMod (eA1 dInt (eBin dFdiv (eV 4) (eC (.int 64)))) (eV 1)))))))
theorem tail_ok (cs : List Int) {at_ dg : Int} (ct fo : Int) {many : Int} (x2 : Option D) (a0 : 0 ≤ at_) (d0 : 0 ≤ dg) (h1 : 1 ≤ many) (h2 : many < 1073741824) : ∃ r dg' fo' x3 x4, drawTail (pe cs at_ dg ct fo many x2 none none) = .ret (.int r) (pe cs at_ dg' ct fo' many x2 x3 x4) ∧ 0 ≤ r ∧ r < many ∧ 0 ≤ dg' := by
  have m0 : (0 : Int) < many := by omega
  by_cases hd : 0 < dg
  · refine ⟨dg % many, dg / many, fo, some (.int (dg % many)), none, q_ifT (v := sNil) (ρ1 := pe cs at_ dg ct fo many x2 none none) (b_v0 (p_bin0 (x := .int dg) (by kernel_rfl) rfl (by show some (D.bl (decide (0 < dg))) = _; rw [decide_eq_true hd]))) <|
      q_seq (ρ1 := pe cs at_ dg ct fo many x2 (some (.int (dg % many))) none) (q_set (p_bin0 (p_a10 (x := .int dg) (by kernel_rfl) rfl) rfl (mod_p m0)) rfl) <|
      q_seq (ρ1 := pe cs at_ (dg / many) ct fo many x2 (some (.int (dg % many))) none) (q_put (o := penD cs at_ (dg / many) ct fo) (p_bin0 (x := .int dg) (by kernel_rfl) rfl (fdiv_p m0 h2)) rfl rfl (by kernel_rfl) (by kernel_rfl)) <| q_ret rfl, Int.emod_nonneg _ (by omega), Int.emod_lt_of_pos _ m0, Int.ediv_nonneg d0 (by omega)⟩
  · let b1 : Int := (fo * 48271 + ct * 7919 + 13) % 2147483647
    let b2 : Int := (b1 * b1 + 31 * b1 + ct) % 2147483629
    have e1 : -(2 ^ 64) < b1 ∧ b1 < 2 ^ 64 := by
      have := Int.emod_nonneg (fo * 48271 + ct * 7919 + 13) (b := 2147483647) (by omega)
      have := Int.emod_lt_of_pos (fo * 48271 + ct * 7919 + 13) (b := 2147483647) (by omega)
      constructor <;> (show _ < _; omega)
    have e3 : small64' b1 = true := by simp only [small64', Bool.and_eq_true, decide_eq_true_eq]; exact e1
    refine ⟨(b2 / 64) % many, dg, (b2 * 16807 + 7) % 2147483647, none, some (.int b2), q_ifF0 (b_v0 (p_bin0 (x := .int dg) (by kernel_rfl) rfl (by show some (D.bl (decide (0 < dg))) = _; rw [decide_eq_false hd]))) <|
      q_seq (ρ1 := pe cs at_ dg ct fo many x2 none (some (.int b1))) (q_set (p_bin0 (p_a10 (p_bin0 (p_bin0 (p_bin0 (x := .int fo) (by kernel_rfl) rfl (mul_r rfl)) (p_bin0 (x := .int ct) (by kernel_rfl) rfl (mul_r rfl)) rfl) rfl rfl) rfl) rfl (mod_p (by decide))) rfl) <|
      q_seq (ρ1 := pe cs at_ dg ct fo many x2 none (some (.int b2))) (q_set (p_bin0 (p_a10 (p_bin0 (p_bin0 (p_bin0 (x := .int b1) (y := .int b1) rfl rfl (mul_r e3)) (p_bin0 (y := .int b1) rfl rfl (mul_r e3)) rfl) (y := .int ct) (by kernel_rfl) rfl) rfl) rfl (mod_p (by decide))) rfl) <|
      q_seq (ρ1 := pe cs at_ dg ct ((b2 * 16807 + 7) % 2147483647) many x2 none (some (.int b2))) (q_put (o := penD cs at_ dg ct ((b2 * 16807 + 7) % 2147483647)) (p_bin0 (p_a10 (p_bin0 (p_bin0 (x := .int b2) rfl rfl (mul_r rfl)) rfl rfl) rfl) rfl (mod_p (by decide))) rfl rfl (by kernel_rfl) (by kernel_rfl)) <|
      q_ret (p_bin0 (p_a10 (p_bin0 (x := .int b2) rfl rfl (fdiv_p (by decide) (by decide))) rfl) rfl (mod_p m0)), Int.emod_nonneg _ (by omega), Int.emod_lt_of_pos _ m0, d0⟩
theorem draw_ok {pen : D} (h : PenOk pen) {many : Int} (h1 : 1 ≤ many) (h2 : many < 1073741824) : ∃ r pen', rf__law_draw [pen, .int many] = .ok (.int r) pen' ∧ 0 ≤ r ∧ r < many ∧ PenOk pen' := by
  obtain ⟨cs, at_, dg, ct, fo, rfl, a0, d0⟩ := h
  suffices q : ∃ r at_' dg' fo' x2 x3 x4, ev__law_draw (pe cs at_ dg ct fo many none none none) = .ret (.int r) (pe cs at_' dg' (ct + 1) fo' many x2 x3 x4) ∧ 0 ≤ r ∧ r < many ∧ 0 ≤ at_' ∧ 0 ≤ dg' by
    obtain ⟨r, at_', dg', fo', x2, x3, x4, q1, q2, q3, q4, q5⟩ := q
    refine ⟨r, penD cs at_' dg' (ct + 1) fo', ?_, q2, q3, cs, at_', dg', ct + 1, fo', rfl, q4, q5⟩
    show endOf (some 0) (ev__law_draw (pe cs at_ dg ct fo many none none none)) = _
    rw [q1]; rfl
  have go : ∀ {at2 dg2 fo2 : Int} {x2 : Option D} {B : Ms}, 0 ≤ at2 → 0 ≤ dg2 → B (pe cs at_ dg (ct + 1) fo many none none none) = .nx (pe cs at2 dg2 (ct + 1) fo2 many x2 none none) →
      ∃ r at_' dg' fo' x2 x3 x4, sSeq (sPut 0 (eC (.str "count")) (eBin dAdd (eBin dIx (eV 0) (eC (.str "count"))) (eC (.int 1)))) (sSeq B drawTail) (pe cs at_ dg ct fo many none none none) = .ret (.int r) (pe cs at_' dg' (ct + 1) fo' many x2 x3 x4) ∧ 0 ≤ r ∧ r < many ∧ 0 ≤ at_' ∧ 0 ≤ dg' := fun {at2 dg2 fo2 x2 B} b0 b1 hB => by
    obtain ⟨r, dg', fo', x3, x4, t1, t2, t3, t4⟩ := tail_ok cs (ct + 1) fo2 x2 b0 b1 h1 h2
    exact ⟨r, at2, dg', fo', x2, x3, x4, q_seq (ρ1 := pe cs at_ dg (ct + 1) fo many none none none) (by kernel_rfl) (q_seq hB t1), t2, t3, b0, t4⟩
  have test : ebAnd (ebV (eBin dEq (eBin dIx (eV 0) (eC (.str "digits"))) (eC (.int 0)))) (ebV (eBin (dLtI iLt) (eBin dIx (eV 0) (eC (.str "at"))) (eA1 dLen (eBin dIx (eV 0) (eC (.str "cells")))))) (pe cs at_ dg (ct + 1) fo many none none none) = .ok (decide (dg = 0) && decide (at_ < ((cs.map D.int).length : Nat))) (pe cs at_ dg (ct + 1) fo many none none none) :=
    b_and0 (b_v0 (by kernel_rfl)) fun _ => b_v0 (by kernel_rfl)
  rw [List.length_map] at test
  by_cases hc : dg = 0 ∧ at_ < cs.length
  · have test := test.trans (congrArg (fun z => Rs.ok z (pe cs at_ dg (ct + 1) fo many none none none)) (show (decide (dg = 0) && decide (at_ < cs.length)) = true by rw [decide_eq_true hc.1, decide_eq_true hc.2]; rfl))
    have cell : ePure (eBin dIx (eBin dIx (eV 0) (eC (.str "cells"))) (ePure (eBin dIx (eV 0) (eC (.str "at"))))) (pe cs at_ dg (ct + 1) fo many none none none) = .ok (.int (cs.getD at_.toNat 0)) (pe cs at_ dg (ct + 1) fo many none none none) :=
      p_pure0 (p_bin0 (x := .lst (cs.map .int)) (y := .int at_) (by kernel_rfl) (p_pure0 (by kernel_rfl) rfl) (at_lst cs at_ a0 hc.2)) rfl
    generalize cs.getD at_.toNat 0 = c at cell
    by_cases hg : (1000000000000000000 : Int) ≤ c
    · exact go (at2 := at_ + 1) (dg2 := c - 1000000000000000000) (fo2 := fo) (x2 := some (.int c)) (by omega) (by omega) (q_if (k := true) test <| q_seq (ρ1 := pe cs at_ dg (ct + 1) fo many (some (.int c)) none none) (q_set cell rfl) <| q_seq (ρ1 := pe cs (at_ + 1) dg (ct + 1) fo many (some (.int c)) none none) (by kernel_rfl) <|
        q_if (k := true) (ρ1 := pe cs (at_ + 1) dg (ct + 1) fo many (some (.int c)) none none) (b_v0 (p_bin0 (x := .int c) (y := .int 1000000000000000000) rfl (by kernel_rfl) (by show some (D.bl (decide ((1000000000000000000 : Int) ≤ c))) = _; rw [decide_eq_true hg]))) (by kernel_rfl))
    · exact go (at2 := at_ + 1) (dg2 := dg) (fo2 := (fo * 69069 + c) % 2147483587) (x2 := some (.int c)) (by omega) d0 (q_if (k := true) test <| q_seq (ρ1 := pe cs at_ dg (ct + 1) fo many (some (.int c)) none none) (q_set cell rfl) <| q_seq (ρ1 := pe cs (at_ + 1) dg (ct + 1) fo many (some (.int c)) none none) (by kernel_rfl) <|
        q_if (k := false) (ρ1 := pe cs (at_ + 1) dg (ct + 1) fo many (some (.int c)) none none) (b_v0 (p_bin0 (x := .int c) (y := .int 1000000000000000000) rfl (by kernel_rfl) (by show some (D.bl (decide ((1000000000000000000 : Int) ≤ c))) = _; rw [decide_eq_false hg]))) <|
        q_put (o := penD cs (at_ + 1) dg (ct + 1) ((fo * 69069 + c) % 2147483587)) (p_bin0 (p_a10 (p_bin0 (p_bin0 (x := .int fo) (by kernel_rfl) rfl (mul_r rfl)) rfl rfl) rfl) rfl (mod_p (by decide))) rfl rfl (by kernel_rfl) (by kernel_rfl))
  · have test := test.trans (congrArg (fun z => Rs.ok z (pe cs at_ dg (ct + 1) fo many none none none)) (show (decide (dg = 0) && decide (at_ < cs.length)) = false by
      by_cases h : dg = 0
      · rw [decide_eq_false (fun z => hc ⟨h, z⟩), Bool.and_false]
      · rw [decide_eq_false h, Bool.false_and]))
    exact go (at2 := at_) (dg2 := dg) (fo2 := fo) (x2 := none) a0 d0 (q_if (k := false) test rfl)
end K03

set_option maxHeartbeats 0
namespace K03
open PySem PySem.Spec PyProof.Rows EL
open L2 hiding XE
abbrev fDraw := rf__law_draw
abbrev fPick := rf__law_pick fDraw
theorem at_mem {ds : List D} {r : Int} (h0 : 0 ≤ r) (h1 : r < ds.length) : ∃ y ∈ ds, atI ds r = some y := by
  have hl : r.toNat < ds.length := by omega
  refine ⟨ds[r.toNat], List.getElem_mem hl, ?_⟩
  unfold atI ixN
  rw [if_pos h0, if_pos h1]
  simp [hl]
theorem pick_ok {pen : D} (h : PenOk pen) {L : D} {n : Int} (hl : dLen [L] = some (.int n)) (h1 : 1 ≤ n) (h2 : n < 1073741824) {T : D → Prop} (hi : ∀ r, 0 ≤ r → r < n → ∃ y, dIx L (.int r) = some y ∧ pureD y = true ∧ T y) : ∃ y pen', fPick [pen, L] = .ok y pen' ∧ pureD y = true ∧ T y ∧ PenOk pen' := by
  obtain ⟨r, pen', g1, g2, g3, g4⟩ := draw_ok h h1 h2
  obtain ⟨y, k1, k2, k3⟩ := hi r g2 g3
  refine ⟨y, pen', ?_, k2, k3, g4⟩
  have q : ev__law_pick fDraw [some pen, some L] = .ret y [some pen', some L] :=
    q_ret (p_pure (p_bin (x := L) rfl (p_callI (p_here (ρ1 := [some pen, some L]) rfl (p_cons0 (p_a10 rfl hl) p_nil) rfl) g1 rfl) k1) k2)
  show endOf (some 0) (ev__law_pick fDraw [some pen, some L]) = _
  rw [q]; rfl
section
variable {E : D → EL.Env} {e : M D} {pen pen1 : D} {s : Nat}
theorem c_draw (h0 : ∀ x, (E x)[s]? = some (some x)) (hs : ∀ x y, (E x).set s (some y) = E y) {n : Int} (hp : PenOk pen1) (he : e (E pen) = .ok (.int n) (E pen1)) (h1 : 1 ≤ n) (h2 : n < 1073741824) :
    ∃ r pen', eCallI fDraw s (eiHere s (eaCons e eaNil)) (E pen) = .ok (.int r) (E pen') ∧ 0 ≤ r ∧ r < n ∧ PenOk pen' := by
  obtain ⟨r, pen', g1, g2, g3, g4⟩ := draw_ok hp h1 h2
  exact ⟨r, pen', p_callI (p_here (h0 pen) (p_cons he p_nil) (h0 pen1)) g1 (hs _ _), g2, g3, g4⟩
theorem c_pick (h0 : ∀ x, (E x)[s]? = some (some x)) (hs : ∀ x y, (E x).set s (some y) = E y) {L : D} {n : Int} (hp : PenOk pen1) (he : e (E pen) = .ok L (E pen1)) (hl : dLen [L] = some (.int n)) (h1 : 1 ≤ n) (h2 : n < 1073741824) {T : D → Prop} (hi : ∀ r, 0 ≤ r → r < n → ∃ y, dIx L (.int r) = some y ∧ pureD y = true ∧ T y) :
    ∃ y pen', eCallI fPick s (eiHere s (eaCons e eaNil)) (E pen) = .ok y (E pen') ∧ pureD y = true ∧ T y ∧ PenOk pen' := by
  obtain ⟨y, pen', g1, g2, g3, g4⟩ := pick_ok hp hl h1 h2 hi
  exact ⟨y, pen', p_callI (p_here (h0 pen) (p_cons he p_nil) (h0 pen1)) g1 (hs _ _), g2, g3, g4⟩
theorem c_pickL (h0 : ∀ x, (E x)[s]? = some (some x)) (hs : ∀ x y, (E x).set s (some y) = E y) {ds : List D} (hp : PenOk pen1) (he : e (E pen) = .ok (.lst ds) (E pen1)) (h1 : 1 ≤ ds.length) (h2 : ds.length < 1073741824) {T : D → Prop} (hi : ∀ y ∈ ds, pureD y = true ∧ T y) :
    ∃ y pen', eCallI fPick s (eiHere s (eaCons e eaNil)) (E pen) = .ok y (E pen') ∧ pureD y = true ∧ T y ∧ PenOk pen' :=
  c_pick h0 hs hp he (n := ds.length) rfl (by omega) (by omega) fun r a b => let ⟨y, m, k⟩ := at_mem a b; ⟨y, k, hi y m⟩
theorem c_pickT (h0 : ∀ x, (E x)[s]? = some (some x)) (hs : ∀ x y, (E x).set s (some y) = E y) {ds : List D} (hp : PenOk pen1) (he : e (E pen) = .ok (.tup ds) (E pen1)) (h1 : 1 ≤ ds.length) (h2 : ds.length < 1073741824) {T : D → Prop} (hi : ∀ y ∈ ds, pureD y = true ∧ T y) :
    ∃ y pen', eCallI fPick s (eiHere s (eaCons e eaNil)) (E pen) = .ok y (E pen') ∧ pureD y = true ∧ T y ∧ PenOk pen' :=
  c_pick h0 hs hp he (n := ds.length) rfl (by omega) (by omega) fun r a b => let ⟨y, m, k⟩ := at_mem a b; ⟨y, k, hi y m⟩
end
/-! ### drawn atoms -/
abbrev fAny := rf__law_any_atom fDraw fPick
def modesD : D := .tup [.str "a", .str "go", .str "zz"]
def AD (y : D) : Prop := ∃ a, AtOk a ∧ a.d = y
def MD (y : D) : Prop := ∃ m, PyData.strOk m = true ∧ y = .str m
def ae (fl : Int) (x3 x4 x5 : Option D) (pen : D) : EL.Env := [some pen, some modesD, some (.int fl), x3, x4, x5]
theorem md_lit {m : Str} (h : PyData.strOk m = true) : pureD (.str m) = true ∧ MD (.str m) := ⟨rfl, m, h, rfl⟩
theorem eq_F {i j : Int} (h : i ≠ j) : dEq (.int i) (.int j) = some (.bl false) := by rw [dEq_int, decide_eq_false h]
theorem eq_T {i j : Int} (h : i = j) : dEq (.int i) (.int j) = some (.bl true) := by rw [dEq_int, decide_eq_true h]
theorem lt_F {i j : Int} (h : ¬ i < j) : dLtI iLt (.int i) (.int j) = some (.bl false) := by show some (D.bl (decide (i < j))) = _; rw [decide_eq_false h]
theorem lt_T {i j : Int} (h : i < j) : dLtI iLt (.int i) (.int j) = some (.bl true) := by show some (D.bl (decide (i < j))) = _; rw [decide_eq_true h]
theorem len2 : 2 ≤ sizeLine := by decide
theorem any_atom_ok {pen : D} (hp : PenOk pen) {fl : Int} (f0 : 2 ≤ fl) (f1 : fl ≤ 6) : ∃ y pen', fAny [pen, modesD, .int fl] = .ok y pen' ∧ AD y ∧ PenOk pen' := by
  suffices q : ∃ y x3 x4 x5 pen', ev__law_any_atom fDraw fPick (ae fl none none none pen) = .ret y (ae fl x3 x4 x5 pen') ∧ AD y ∧ PenOk pen' by
    obtain ⟨y, x3, x4, x5, pen', q1, q2, q3⟩ := q
    refine ⟨y, pen', ?_, q2, q3⟩
    show endOf (some 0) (ev__law_any_atom fDraw fPick (ae fl none none none pen)) = _
    rw [q1]; rfl
  obtain ⟨way, pen1, a1, a2, a3, p1⟩ := c_draw (E := ae fl none none none) (s := 0) (e := eC (.int 12)) (pen := pen) (fun _ => rfl) (fun _ _ => rfl) hp rfl (by omega) (by omega)
  obtain ⟨r8, pen2, b1, b2, b3, p2⟩ := c_draw (E := ae fl none none none) (s := 0) (e := eC (.int 8)) (pen := pen1) (fun _ => rfl) (fun _ _ => rfl) p1 rfl (by omega) (by omega)
  have hint : ∃ z : Int, eBin dAdd (eV 2) (eA1 dInt (eBin dEq (eCallI fDraw 0 (eiHere 0 (eaCons (eC (.int 8)) eaNil))) (eC (.int 0)))) (ae fl none none none pen1) = .ok (.int z) (ae fl none none none pen2) ∧ 1 ≤ z ∧ z ≤ 7 := by
    refine ⟨fl + (if decide (r8 = 0) = true then 1 else 0), p_bin (x := .int fl) rfl (p_a1 (p_bin b1 rfl (dEq_int _ _)) rfl) rfl, ?_, ?_⟩ <;> split <;> omega
  obtain ⟨z, z1, z2, z3⟩ := hint
  obtain ⟨f, pen3, c1, c2, c3, p3⟩ := c_draw (E := ae fl none none none) (s := 0) (pen := pen1) (fun _ => rfl) (fun _ _ => rfl) p2 z1 z2 (by omega)
  have st : sPar 3 4 (eCallI fDraw 0 (eiHere 0 (eaCons (eC (.int 12)) eaNil))) (eCallI fDraw 0 (eiHere 0 (eaCons (eBin dAdd (eV 2) (eA1 dInt (eBin dEq (eCallI fDraw 0 (eiHere 0 (eaCons (eC (.int 8)) eaNil))) (eC (.int 0))))) eaNil))) (ae fl none none none pen) = .nx (ae fl (some (.int way)) (some (.int f)) none pen3) := q_par a1 c1 rfl
  suffices q : ∃ y x5 pen', ∃ u, ev__law_any_atom fDraw fPick = sSeq (sPar 3 4 (eCallI fDraw 0 (eiHere 0 (eaCons (eC (.int 12)) eaNil))) (eCallI fDraw 0 (eiHere 0 (eaCons (eBin dAdd (eV 2) (eA1 dInt (eBin dEq (eCallI fDraw 0 (eiHere 0 (eaCons (eC (.int 8)) eaNil))) (eC (.int 0))))) eaNil)))) u ∧ u (ae fl (some (.int way)) (some (.int f)) none pen3) = .ret y (ae fl (some (.int way)) (some (.int f)) x5 pen') ∧ AD y ∧ PenOk pen' by
    obtain ⟨y, x5, pen', u, q1, q2, q3, q4⟩ := q
    exact ⟨y, _, _, x5, pen', by rw [q1]; exact q_seq st q2, q3, q4⟩
  have nw : ∀ {k : Int}, way ≠ k → ebV (eBin dEq (eV 3) (eC (.int k))) (ae fl (some (.int way)) (some (.int f)) none pen3) = .ok false (ae fl (some (.int way)) (some (.int f)) none pen3) := fun h => b_v0 (p_bin0 rfl rfl (eq_F h))
  have yw : ∀ {k : Int}, way = k → ebV (eBin dEq (eV 3) (eC (.int k))) (ae fl (some (.int way)) (some (.int f)) none pen3) = .ok true (ae fl (some (.int way)) (some (.int f)) none pen3) := fun h => b_v0 (p_bin0 rfl rfl (eq_T h))
  have nl : ∀ {k : Int}, ¬ way < k → ebV (eBin (dLtI iLt) (eV 3) (eC (.int k))) (ae fl (some (.int way)) (some (.int f)) none pen3) = .ok false (ae fl (some (.int way)) (some (.int f)) none pen3) := fun h => b_v0 (p_bin0 rfl rfl (lt_F h))
  have yl : ∀ {k : Int}, way < k → ebV (eBin (dLtI iLt) (eV 3) (eC (.int k))) (ae fl (some (.int way)) (some (.int f)) none pen3) = .ok true (ae fl (some (.int way)) (some (.int f)) none pen3) := fun h => b_v0 (p_bin0 rfl rfl (lt_T h))
  have ok1 : PyData.strOk "a" = true := by kernel_rfl
  have ok2 : PyData.strOk "go" = true := by kernel_rfl
  have ok3 : PyData.strOk "zz" = true := by kernel_rfl
  by_cases w0 : way = 0
  · exact ⟨_, none, pen3, _, rfl, q_ifT0 (yw w0) (q_ret0 (by kernel_rfl)), ⟨.always, trivial, rfl⟩, p3⟩
  by_cases w1 : way = 1
  · obtain ⟨y, pen4, d1, d2, ⟨m, d3, rfl⟩, p4⟩ := c_pickT (E := ae fl (some (.int way)) (some (.int f)) none) (s := 0) (e := eV 1) (pen := pen3) (fun _ => rfl) (fun _ _ => rfl) p3 rfl (by decide) (by decide) (T := MD) (by
      intro y hy
      simp only [List.mem_cons, List.not_mem_nil, or_false] at hy
      rcases hy with rfl | rfl | rfl <;> exact md_lit (by assumption))
    exact ⟨_, none, pen4, _, rfl, q_ifF0 (nw w0) (q_ifT (yw w1) (q_ret (p_tup (p_cons (x := .str "mode") rfl (p_cons d1 p_nil)) rfl len2))), ⟨.mode m, d3, rfl⟩, p4⟩
  by_cases w2 : way = 2
  · obtain ⟨y, pen4, d1, d2, ⟨a, d3, d4⟩, p4⟩ := c_pickL (E := ae fl (some (.int way)) (some (.int f)) none) (s := 0) (e := eLst (eaCons (eV 4) (eaCons (eV 4) (eaCons (eC (.str "top")) (eaCons (eC (.str "bottom")) eaNil))))) (pen := pen3) (fun _ => rfl) (fun _ _ => rfl) (ds := [.int f, .int f, .str "top", .str "bottom"]) p3 (by kernel_rfl) (by simp) (by simp) (T := fun y => AD (.tup [.str "at", y])) (by
      intro y hy
      simp only [List.mem_cons, List.not_mem_nil, or_false] at hy
      rcases hy with rfl | rfl | rfl | rfl
      · exact ⟨rfl, .atN f, trivial, rfl⟩
      · exact ⟨rfl, .atN f, trivial, rfl⟩
      · exact ⟨rfl, .atTop, trivial, rfl⟩
      · exact ⟨rfl, .atBottom, trivial, rfl⟩)
    exact ⟨_, none, pen4, _, rfl, q_ifF0 (nw w0) (q_ifF0 (nw w1) (q_ifT (yw w2) (q_ret (p_tup (p_cons (x := .str "at") rfl (p_cons d1 p_nil)) (by simp [pureDs, pureD, d2]) len2)))), ⟨a, d3, d4⟩, p4⟩
  by_cases w6 : way < 6
  · obtain ⟨y, pen4, d1, d2, ⟨a, d3, d4⟩, p4⟩ := c_pickL (E := ae fl (some (.int way)) (some (.int f)) none) (s := 0) (e := eLst (eaCons (eV 4) (eaCons (eV 4) (eaCons (eC (.str "here")) (eaCons (eC (.str "above")) (eaCons (eC (.str "below")) eaNil)))))) (pen := pen3) (fun _ => rfl) (fun _ _ => rfl) (ds := [.int f, .int f, .str "here", .str "above", .str "below"]) p3 (by kernel_rfl) (by simp) (by simp) (T := fun y => AD (.tup [.str "rider", y])) (by
      intro y hy
      simp only [List.mem_cons, List.not_mem_nil, or_false] at hy
      rcases hy with rfl | rfl | rfl | rfl | rfl
      · exact ⟨rfl, .rider (.num f), c2, rfl⟩
      · exact ⟨rfl, .rider (.num f), c2, rfl⟩
      · exact ⟨rfl, .rider .here, trivial, rfl⟩
      · exact ⟨rfl, .rider .above, trivial, rfl⟩
      · exact ⟨rfl, .rider .below, trivial, rfl⟩)
    exact ⟨_, none, pen4, _, rfl, q_ifF0 (nw w0) (q_ifF0 (nw w1) (q_ifF0 (nw w2) (q_ifT (yl w6) (q_ret (p_tup (p_cons (x := .str "rider") rfl (p_cons d1 p_nil)) (by simp [pureDs, pureD, d2]) len2))))), ⟨a, d3, d4⟩, p4⟩
  by_cases w7 : way = 6
  · obtain ⟨y, pen4, d1, d2, d3, p4⟩ := c_pickL (E := ae fl (some (.int way)) (some (.int f)) none) (s := 0) (e := eLst (eaCons (eTup (eaCons (eC (.str "full")) eaNil)) (eaCons (eTup (eaCons (eC (.str "empty")) eaNil)) eaNil))) (pen := pen3) (fun _ => rfl) (fun _ _ => rfl) (ds := [.tup [.str "full"], .tup [.str "empty"]]) p3 (by kernel_rfl) (by simp) (by simp) (T := AD) (by
      intro y hy
      simp only [List.mem_cons, List.not_mem_nil, or_false] at hy
      rcases hy with rfl | rfl
      · exact ⟨rfl, .full, trivial, rfl⟩
      · exact ⟨rfl, .empty, trivial, rfl⟩)
    exact ⟨_, none, pen4, _, rfl, q_ifF0 (nw w0) (q_ifF0 (nw w1) (q_ifF0 (nw w2) (q_ifF0 (nl w6) (q_ifT (yw w7) (q_ret d1))))), d3, p4⟩
  by_cases w10 : way < 10
  · obtain ⟨y, pen4, d1, d2, d3, p4⟩ := c_pickL (E := ae fl (some (.int way)) (some (.int f)) none) (s := 0) (e := eLst (eaCons (eTup (eaCons (eC (.str "lit")) (eaCons (eV 4) (eaCons (eC (.str "up")) eaNil)))) (eaCons (eTup (eaCons (eC (.str "lit")) (eaCons (eV 4) (eaCons (eC (.str "down")) eaNil)))) (eaCons (eTup (eaCons (eC (.str "lit")) (eaCons (eC (.str "here")) (eaCons (eC (.str "up")) eaNil)))) (eaCons (eTup (eaCons (eC (.str "lit")) (eaCons (eC (.str "here")) (eaCons (eC (.str "down")) eaNil)))) (eaCons (eTup (eaCons (eC (.str "lit")) (eaCons (eC (.str "above")) eaNil))) (eaCons (eTup (eaCons (eC (.str "lit")) (eaCons (eC (.str "below")) eaNil))) eaNil))))))) (pen := pen3) (fun _ => rfl) (fun _ _ => rfl)
      (ds := [.tup [.str "lit", .int f, .str "up"], .tup [.str "lit", .int f, .str "down"], .tup [.str "lit", .str "here", .str "up"], .tup [.str "lit", .str "here", .str "down"], .tup [.str "lit", .str "above"], .tup [.str "lit", .str "below"]]) p3 (by kernel_rfl) (by simp) (by simp) (T := AD) (by
      intro y hy
      simp only [List.mem_cons, List.not_mem_nil, or_false] at hy
      rcases hy with rfl | rfl | rfl | rfl | rfl | rfl
      · exact ⟨rfl, .litW (.num f) true, trivial, rfl⟩
      · exact ⟨rfl, .litW (.num f) false, trivial, rfl⟩
      · exact ⟨rfl, .litW .here true, trivial, rfl⟩
      · exact ⟨rfl, .litW .here false, trivial, rfl⟩
      · exact ⟨rfl, .lit .above, trivial, rfl⟩
      · exact ⟨rfl, .lit .below, trivial, rfl⟩)
    exact ⟨_, none, pen4, _, rfl, q_ifF0 (nw w0) (q_ifF0 (nw w1) (q_ifF0 (nw w2) (q_ifF0 (nl w6) (q_ifF0 (nw w7) (q_ifT (yl w10) (q_ret d1)))))), d3, p4⟩
  obtain ⟨c, pen4, e1, e2, e3, p4⟩ := c_draw (E := ae fl (some (.int way)) (some (.int f)) none) (s := 0) (e := eC (.int 2)) (pen := pen3) (fun _ => rfl) (fun _ _ => rfl) p3 rfl (by omega) (by omega)
  obtain ⟨y5, pen5, g1, g2, ⟨m, g3, rfl⟩, p5⟩ := c_pickT (E := ae fl (some (.int way)) (some (.int f)) (some (.int c))) (s := 0) (e := eBin dAdd (eV 1) (eTup (eaCons (eC (.str "go")) (eaCons (eC (.str "zz")) eaNil)))) (pen := pen4) (fun _ => rfl) (fun _ _ => rfl) (ds := [.str "a", .str "go", .str "zz", .str "go", .str "zz"]) p4 (by kernel_rfl) (by simp) (by simp) (T := MD) (by
    intro y hy
    simp only [List.mem_cons, List.not_mem_nil, or_false] at hy
    rcases hy with rfl | rfl | rfl | rfl | rfl <;> exact md_lit (by assumption))
  obtain ⟨y, pen6, d1, d2, d3, p6⟩ := c_pickL (E := ae fl (some (.int way)) (some (.int f)) (some (.int c))) (s := 0) (e := (eLst (eaCons (eTup (eaCons (eC (.str "car")) (eaCons (eV 5) (eaCons (eC (.str "at")) (eaCons (eV 4) eaNil))))) (eaCons (eTup (eaCons (eC (.str "car")) (eaCons (eV 5) (eaCons (eC (.str "above")) eaNil)))) (eaCons (eTup (eaCons (eC (.str "car")) (eaCons (eV 5) (eaCons (eC (.str "below")) eaNil)))) (eaCons (eTup (eaCons (eC (.str "car")) (eaCons (eV 5) (eaCons (eC (.str "here")) eaNil)))) (eaCons (eTup (eaCons (eC (.str "car")) (eaCons (eV 5) (eaCons (eC (.str "in")) (eaCons (eCallI fPick 0 (eiHere 0 (eaCons (eBin dAdd (eV 1) (eTup (eaCons (eC (.str "go")) (eaCons (eC (.str "zz")) eaNil)))) eaNil))) eaNil))))) eaNil))))))) (pen := pen4) (fun _ => rfl) (fun _ _ => rfl) (ds := [.tup [.str "car", .int c, .str "at", .int f], .tup [.str "car", .int c, .str "above"], .tup [.str "car", .int c, .str "below"], .tup [.str "car", .int c, .str "here"], .tup [.str "car", .int c, .str "in", .str m]]) p5
    (p_lst (p_cons (ρ1 := ae fl (some (.int way)) (some (.int f)) (some (.int c)) pen4) (by kernel_rfl) (p_cons (ρ1 := ae fl (some (.int way)) (some (.int f)) (some (.int c)) pen4) (by kernel_rfl) (p_cons (ρ1 := ae fl (some (.int way)) (some (.int f)) (some (.int c)) pen4) (by kernel_rfl) (p_cons (ρ1 := ae fl (some (.int way)) (some (.int f)) (some (.int c)) pen4) (by kernel_rfl) (p_cons (p_tup (p_cons (x := .str "car") rfl (p_cons (x := .int c) rfl (p_cons (x := .str "in") rfl (p_cons g1 p_nil)))) rfl (by show 4 ≤ sizeLine; decide)) p_nil))))) rfl (by show 5 ≤ sizeLine; decide)) (by simp) (by simp) (T := AD) (by
      intro y hy
      simp only [List.mem_cons, List.not_mem_nil, or_false] at hy
      rcases hy with rfl | rfl | rfl | rfl | rfl
      · exact ⟨rfl, .carAt c f, trivial, rfl⟩
      · exact ⟨rfl, .carW c .above, trivial, rfl⟩
      · exact ⟨rfl, .carW c .below, trivial, rfl⟩
      · exact ⟨rfl, .carW c .here, trivial, rfl⟩
      · exact ⟨rfl, .carIn c m, g3, rfl⟩)
  exact ⟨_, some (.int c), pen6, _, rfl, q_ifF0 (nw w0) (q_ifF0 (nw w1) (q_ifF0 (nw w2) (q_ifF0 (nl w6) (q_ifF0 (nw w7) (q_ifF0 (nl w10) (q_seq (ρ1 := ae fl (some (.int way)) (some (.int f)) (some (.int c)) pen4) (q_set e1 rfl) (q_ret d1))))))), d3, p6⟩
end K03

set_option maxHeartbeats 0
namespace K03
open PySem PySem.Spec PyProof.Rows EL
open L2 hiding XE
/-! ### drawn conditions -/
def CD (k : Nat) (y : D) : Prop := ∀ (s : Sg) (m : Str), ∃ b, CSem s m k y b
theorem cd_atom {k : Nat} {y : D} (h : AD y) : CD k y := fun s m => by obtain ⟨a, h1, rfl⟩ := h; exact ⟨_, .at_ a h1⟩
theorem CD.pu {k : Nat} {y : D} (h : CD k y) : pureD y = true := let ⟨_, q⟩ := h ⟨0, [], 0, [], []⟩ "a"; q.pure
theorem cd_list {k : Nat} {s : Sg} {m : Str} : ∀ {ys : List D}, (∀ y ∈ ys, CD k y) → ∃ cs : List (D × Bool), ys = cs.map (·.1) ∧ ∀ x ∈ cs, CSem s m k x.1 x.2
  | [], _ => ⟨[], rfl, by simp⟩
  | y :: ys, h => by
    obtain ⟨cs, h1, h2⟩ := cd_list (k := k) (s := s) (m := m) (ys := ys) fun y hy => h y (by simp [hy])
    obtain ⟨b, hb⟩ := h y (by simp) s m
    exact ⟨(y, b) :: cs, by simp [h1], by intro x hx; rcases List.mem_cons.mp hx with rfl | hx; exact hb; exact h2 x hx⟩
abbrev fC0 := rf__law_drawn_condition fDraw fAny (fun _ => .st) fPick
abbrev fC1 := rf__law_drawn_condition fDraw fAny fC0 fPick
def ce (fl dp : Int) (x4 x5 : Option D) (pen : D) : EL.Env := [some pen, some modesD, some (.int fl), some (.int dp), x4, x5, none]
theorem c_any {E : D → EL.Env} {pen : D} {s : Nat} {a b : M D} (h0 : ∀ x, (E x)[s]? = some (some x)) (hs : ∀ x y, (E x).set s (some y) = E y) {fl : Int} (f0 : 2 ≤ fl) (f1 : fl ≤ 6) (hp : PenOk pen) (ha : a (E pen) = .ok modesD (E pen)) (hb : b (E pen) = .ok (.int fl) (E pen)) :
    ∃ y pen', eCallI fAny s (eiHere s (eaCons a (eaCons b eaNil))) (E pen) = .ok y (E pen') ∧ AD y ∧ PenOk pen' := by
  obtain ⟨y, pen', g1, g2, g3⟩ := any_atom_ok hp f0 f1
  exact ⟨y, pen', p_callI (p_here (h0 pen) (p_cons ha (p_cons hb p_nil)) (h0 pen)) g1 (hs _ _), g2, g3⟩
theorem cond_run {F : List D → EL.Fr} {fl dp : Int} {pen pen' y : D} {x4 x5 : Option D} (h : ev__law_drawn_condition fDraw fAny F fPick (ce fl dp none none pen) = .ret y (ce fl dp x4 x5 pen')) : rf__law_drawn_condition fDraw fAny F fPick [pen, modesD, .int fl, .int dp] = .ok y pen' := by
  unfold rf__law_drawn_condition
  rw [runF_ok (by rfl)]
  show endOf (some 0) (ev__law_drawn_condition fDraw fAny F fPick (ce fl dp none none pen)) = _
  rw [h]; rfl
theorem cond0_ok {pen : D} (hp : PenOk pen) {fl : Int} (f0 : 2 ≤ fl) (f1 : fl ≤ 6) : ∃ y pen', fC0 [pen, modesD, .int fl, .int 0] = .ok y pen' ∧ CD 0 y ∧ PenOk pen' := by
  obtain ⟨way, pen1, a1, a2, a3, p1⟩ := c_draw (E := ce fl 0 none none) (s := 0) (e := eC (.int 6)) (pen := pen) (fun _ => rfl) (fun _ _ => rfl) hp rfl (by omega) (by omega)
  obtain ⟨y, pen2, b1, b2, p2⟩ := c_any (E := ce fl 0 (some (.int way)) none) (s := 0) (a := eV 1) (b := eV 2) (fun _ => rfl) (fun _ _ => rfl) f0 f1 p1 rfl rfl
  exact ⟨y, pen2, cond_run (q_seq (ρ1 := ce fl 0 (some (.int way)) none pen1) (q_set a1 rfl) (q_ifT (by kernel_rfl) (q_ret b1))), cd_atom b2, p2⟩
theorem c_cond0 {E : D → EL.Env} {pen : D} {s : Nat} {a b c : M D} (h0 : ∀ x, (E x)[s]? = some (some x)) (hs : ∀ x y, (E x).set s (some y) = E y) {fl : Int} (f0 : 2 ≤ fl) (f1 : fl ≤ 6) (hp : PenOk pen) (ha : a (E pen) = .ok modesD (E pen)) (hb : b (E pen) = .ok (.int fl) (E pen)) (hc : c (E pen) = .ok (.int 0) (E pen)) :
    ∃ y pen', eCallI fC0 s (eiHere s (eaCons a (eaCons b (eaCons c eaNil)))) (E pen) = .ok y (E pen') ∧ CD 0 y ∧ PenOk pen' := by
  obtain ⟨y, pen', g1, g2, g3⟩ := cond0_ok hp f0 f1
  exact ⟨y, pen', p_callI (p_here (h0 pen) (p_cons ha (p_cons hb (p_cons hc p_nil))) (h0 pen)) g1 (hs _ _), g2, g3⟩
theorem cond1_ok {pen : D} (hp : PenOk pen) {fl : Int} (f0 : 2 ≤ fl) (f1 : fl ≤ 6) : ∃ y pen', fC1 [pen, modesD, .int fl, .int 1] = .ok y pen' ∧ CD 1 y ∧ PenOk pen' := by
  obtain ⟨way, pen1, a1, a2, a3, p1⟩ := c_draw (E := ce fl 1 none none) (s := 0) (e := eC (.int 6)) (pen := pen) (fun _ => rfl) (fun _ _ => rfl) hp rfl (by omega) (by omega)
  have t1 : ebV (eBin dEq (eV 3) (eC (.int 0))) (ce fl 1 (some (.int way)) none pen1) = .ok false (ce fl 1 (some (.int way)) none pen1) := by kernel_rfl
  by_cases w2 : way < 2
  · obtain ⟨y, pen2, b1, b2, p2⟩ := c_any (E := ce fl 1 (some (.int way)) none) (s := 0) (a := eV 1) (b := eV 2) (fun _ => rfl) (fun _ _ => rfl) f0 f1 p1 rfl rfl
    exact ⟨y, pen2, cond_run (q_seq (ρ1 := ce fl 1 (some (.int way)) none pen1) (q_set a1 rfl) (q_ifT (b_or (p := false) (q := true) t1 fun _ => b_v0 (p_bin0 rfl rfl (lt_T w2))) (q_ret b1))), cd_atom b2, p2⟩
  by_cases w3 : way = 2
  · obtain ⟨y, pen2, b1, b2, p2⟩ := c_cond0 (E := ce fl 1 (some (.int way)) none) (s := 0) (a := eV 1) (b := eV 2) (c := eBin dSub (eV 3) (eC (.int 1))) (fun _ => rfl) (fun _ _ => rfl) f0 f1 p1 rfl rfl rfl
    exact ⟨.tup [.str "not", y], pen2, cond_run (q_seq (ρ1 := ce fl 1 (some (.int way)) none pen1) (q_set a1 rfl) (q_ifF0 (b_or (p := false) (q := false) t1 fun _ => b_v0 (p_bin0 rfl rfl (lt_F w2))) (q_ifT (b_v0 (p_bin0 rfl rfl (eq_T w3))) (q_ret (p_tup (p_cons (x := .str "not") rfl (p_cons b1 p_nil)) (by simp [pureDs, pureD, b2.pu]) len2))))),
      (fun s m => by obtain ⟨b, h⟩ := b2 s m; exact ⟨_, .no h⟩), p2⟩
  · obtain ⟨r4, pen2, b1, b2, b3, p2⟩ := c_draw (E := ce fl 1 (some (.int way)) none) (s := 0) (e := eC (.int 4)) (pen := pen1) (fun _ => rfl) (fun _ _ => rfl) p1 rfl (by omega) (by omega)
    have hint : ∃ z : Int, eBin dAdd (eC (.int 2)) (eA1 dInt (eBin dEq (eCallI fDraw 0 (eiHere 0 (eaCons (eC (.int 4)) eaNil))) (eC (.int 0)))) (ce fl 1 (some (.int way)) none pen1) = .ok (.int z) (ce fl 1 (some (.int way)) none pen2) ∧ 2 ≤ z ∧ z ≤ 3 := by
      refine ⟨2 + (if decide (r4 = 0) = true then 1 else 0), p_bin (x := .int 2) rfl (p_a1 (p_bin b1 rfl (dEq_int _ _)) rfl) rfl, ?_, ?_⟩ <;> split <;> omega
    obtain ⟨z, z1, z2, z3⟩ := hint
    obtain ⟨ys, ρ5, l1, l2, l3, pen5, p5, rfl⟩ := lc_all (vs := [6]) (bd := gSet 6) (ee := eCallI fC0 0 (eiHere 0 (eaCons (eV 1) (eaCons (eV 2) (eaCons (eBin dSub (eV 3) (eC (.int 1))) eaNil))))) (I := fun ρ => ∃ pen, PenOk pen ∧ ρ = ce fl 1 (some (.int way)) none pen) (T := CD 0) (ds := rangeD 0 z.toNat) (by
      rintro d _ ρ ⟨pen6, p6, rfl⟩
      obtain ⟨y, pen7, b1, b2, p7⟩ := c_cond0 (E := fun pen => (ce fl 1 (some (.int way)) none pen).set 6 (some d)) (s := 0) (a := eV 1) (b := eV 2) (c := eBin dSub (eV 3) (eC (.int 1))) (pen := pen6) (fun _ => rfl) (fun _ _ => rfl) f0 f1 p6 rfl rfl rfl
      exact ⟨_, rfl, y, _, b1, b2.pu, b2, pen7, p7, rfl⟩) (ρ := ce fl 1 (some (.int way)) none pen2) ⟨pen2, p2, rfl⟩
    have hz : z.toNat ≤ sizeLine := by rw [sizeLine_eq]; omega
    have comp : eLc [6] (itR1 (eaCons (eBin dAdd (eC (.int 2)) (eA1 dInt (eBin dEq (eCallI fDraw 0 (eiHere 0 (eaCons (eC (.int 4)) eaNil))) (eC (.int 0))))) eaNil)) (gSet 6) ebYes (eCallI fC0 0 (eiHere 0 (eaCons (eV 1) (eaCons (eV 2) (eaCons (eBin dSub (eV 3) (eC (.int 1))) eaNil))))) (ce fl 1 (some (.int way)) none pen1) = .ok (.lst ys) (ce fl 1 (some (.int way)) none pen5) :=
      l_comp (i_r1 (p_cons z1 p_nil) (by omega) hz) l1 rfl
    have hpu : pureDs ys = true := pureDs_mem fun d hd => (l3 d hd).pu
    obtain ⟨y, pen6, d1, d2, d3, p6⟩ := c_pickL (E := ce fl 1 (some (.int way)) (some (.tup ys))) (s := 0) (e := eLst (eaCons (eC (.str "and")) (eaCons (eC (.str "and")) (eaCons (eC (.str "or")) eaNil)))) (pen := pen5) (fun _ => rfl) (fun _ _ => rfl) (ds := [.str "and", .str "and", .str "or"]) p5 (by kernel_rfl) (by simp) (by simp) (T := fun y => y = .str "and" ∨ y = .str "or") (by
      intro y hy
      simp only [List.mem_cons, List.not_mem_nil, or_false] at hy
      rcases hy with rfl | rfl | rfl
      · exact ⟨rfl, .inl rfl⟩
      · exact ⟨rfl, .inl rfl⟩
      · exact ⟨rfl, .inr rfl⟩)
    refine ⟨.tup [y, .tup ys], pen6, cond_run (q_seq (ρ1 := ce fl 1 (some (.int way)) none pen1) (q_set a1 rfl) <| q_ifF0 (b_or (p := false) (q := false) t1 fun _ => b_v0 (p_bin0 rfl rfl (lt_F w2))) <| q_ifF0 (b_v0 (p_bin0 rfl rfl (eq_F w3))) <| q_seq (ρ1 := ce fl 1 (some (.int way)) (some (.tup ys)) pen5) (q_set (p_a1 comp (if_pos hpu)) rfl) <| q_ret (p_tup (p_cons d1 (p_cons rfl p_nil)) (by simp [pureDs, pureD, d2, hpu]) len2)), fun s m => ?_, p6⟩
    obtain ⟨cs, rfl, hc⟩ := cd_list (s := s) (m := m) l3
    rcases d3 with rfl | rfl
    · exact ⟨_, .and cs hc⟩
    · exact ⟨_, .or cs hc⟩
/-! ### the pen, the setting, the sight -/
theorem pen_ok (ns : List Int) : ∃ pen, rf__law_pen [.scr (ns.map .int)] = .ok pen .non ∧ PenOk pen := by
  obtain ⟨ρ2, g1, fo, x2, rfl⟩ := l_for (it := itSeq (eV 0)) (bd := gSet 2) (body := sSet 1 (eBin dMod (eA1 dInt (eBin dAdd (eBin dMul (eV 1) (eC (.int 47))) (eV 2))) (eC (.int 1000000007)))) (I := fun ρ => ∃ (fo : Int) (x2 : Option D), ρ = [some (.scr (ns.map .int)), some (.int fo), x2]) (ρ := [some (.scr (ns.map .int)), some (.int 0), none]) (ρ1 := [some (.scr (ns.map .int)), some (.int 0), none]) (ds := ns.map .int) (i_scr rfl (pu_load ns)) ⟨0, none, rfl⟩ (by
    rintro d hd ρ ⟨fo, x2, rfl⟩
    obtain ⟨c, _, rfl⟩ := List.mem_map.mp hd
    exact ⟨_, _, rfl, .inl (q_set (p_bin0 (p_a10 (p_bin0 (p_bin0 (x := .int fo) rfl rfl (mul_r rfl)) (y := .int c) rfl rfl) rfl) rfl (mod_p (by decide))) rfl), _, _, rfl⟩)
  have q : ev__law_pen [some (.scr (ns.map .int)), none, none] = .ret (penD ns 0 0 0 fo) [some (.scr (ns.map .int)), some (.int fo), x2] :=
    q_seq (ρ1 := [some (.scr (ns.map .int)), some (.int 0), none]) rfl <| q_seq g1 <| q_ret (by
      have h : eA1 dList (eV 0) [some (.scr (ns.map .int)), some (.int fo), x2] = .ok (.lst (ns.map .int)) [some (.scr (ns.map .int)), some (.int fo), x2] := p_a10 (x := .scr (ns.map .int)) rfl (if_pos (pu_load ns))
      exact p_disp (p_cons0 (x := .str "cells") rfl (p_cons0 h (p_cons0 (x := .str "at") rfl (p_cons0 (x := .int 0) rfl (p_cons0 (x := .str "digits") rfl (p_cons0 (x := .int 0) rfl (p_cons0 (x := .str "count") rfl (p_cons0 (x := .int 0) rfl (p_cons0 (x := .str "fold") rfl (p_cons0 (x := .int fo) rfl p_nil)))))))))) rfl (show ([.inr "cells", .inr "at", .inr "digits", .inr "count", .inr "fold"] : List Key).Nodup by decide) (by show 5 ≤ 15; decide))
  refine ⟨penD ns 0 0 0 fo, ?_, ns, 0, 0, 0, fo, rfl, by omega, by omega⟩
  show endOf none (ev__law_pen [some (.scr (ns.map .int)), none, none]) = _
  rw [q]; rfl
end K03

set_option maxHeartbeats 0
namespace K03
open PySem PySem.Spec PyProof.Rows EL
open L2 hiding XE
/-! ### the setting, the sight -/
def modes2D : D := .tup [.str "go", .str "zz", .str "a"]
def ocD (c : Int) : D := .tup [.int c, modes2D]
def setD (fl room : Int) (os : List Int) : D := .tup [.int fl, .int room, .tup (os.map ocD)]
theorem pu_oc (os : List Int) : pureDs (os.map ocD) = true := pureDs_map fun _ => rfl
def ste (x1 x2 x3 : Option D) (pen : D) : EL.Env := [some pen, x1, x2, x3]
theorem setting_ok {pen : D} (hp : PenOk pen) : ∃ fl room os pen', rf__law_setting fDraw fPick [pen] = .ok (setD fl room os) pen' ∧ 2 ≤ fl ∧ fl ≤ 6 ∧ 1 ≤ room ∧ room ≤ 3 ∧ os.length ≤ 1 ∧ PenOk pen' := by
  obtain ⟨r, pen1, a1, a2, a3, p1⟩ := c_draw (E := ste none none none) (s := 0) (e := eC (.int 5)) (pen := pen) (fun _ => rfl) (fun _ _ => rfl) hp rfl (by omega) (by omega)
  obtain ⟨y, pen2, b1, b2, ⟨os, b3, rfl⟩, p2⟩ := c_pickL (E := ste (some (.int (2 + r))) (some modes2D) none) (s := 0) (e := eLst (eaCons (eTup eaNil) (eaCons (eTup (eaCons (eTup (eaCons (eC (.int 0)) (eaCons (eV 2) eaNil))) eaNil)) (eaCons (eTup (eaCons (eTup (eaCons (eC (.int 1)) (eaCons (eV 2) eaNil))) eaNil)) (eaCons (eTup (eaCons (eTup (eaCons (eC (.int 1)) (eaCons (eV 2) eaNil))) eaNil)) eaNil))))) (pen := pen1) (fun _ => rfl) (fun _ _ => rfl) (ds := [.tup (([] : List Int).map ocD), .tup ([0].map ocD), .tup ([1].map ocD), .tup ([1].map ocD)]) p1 (by kernel_rfl) (by simp) (by simp) (T := fun y => ∃ os : List Int, os.length ≤ 1 ∧ y = .tup (os.map ocD)) (by
    intro y hy
    simp only [List.mem_cons, List.not_mem_nil, or_false] at hy
    rcases hy with rfl | rfl | rfl | rfl
    · exact ⟨rfl, [], by decide, rfl⟩
    · exact ⟨rfl, [0], by decide, rfl⟩
    · exact ⟨rfl, [1], by decide, rfl⟩
    · exact ⟨rfl, [1], by decide, rfl⟩)
  obtain ⟨r3, pen3, c1, c2, c3, p3⟩ := c_draw (E := ste (some (.int (2 + r))) (some modes2D) (some (.tup (os.map ocD)))) (s := 0) (e := eC (.int 3)) (pen := pen2) (fun _ => rfl) (fun _ _ => rfl) p2 rfl (by omega) (by omega)
  refine ⟨2 + r, 1 + r3, os, pen3, ?_, by omega, by omega, by omega, by omega, b3, p3⟩
  have q : ev__law_setting fDraw fPick (ste none none none pen) = .ret (setD (2 + r) (1 + r3) os) (ste (some (.int (2 + r))) (some modes2D) (some (.tup (os.map ocD))) pen3) :=
    q_seq (ρ1 := ste (some (.int (2 + r))) (some modes2D) none pen1) (q_par (p_bin (x := .int 2) rfl a1 rfl) (y := modes2D) (ρ2 := ste none none none pen1) (by kernel_rfl) rfl) <|
    q_seq (ρ1 := ste (some (.int (2 + r))) (some modes2D) (some (.tup (os.map ocD))) pen2) (q_set b1 rfl) <|
    q_ret (p_tup (p_cons (x := .int (2 + r)) rfl (p_cons (p_bin (x := .int 1) rfl c1 rfl) (p_cons rfl p_nil))) (by simp [pureDs, pureD, pu_oc]) (by show 3 ≤ sizeLine; decide))
  show endOf (some 0) (ev__law_setting fDraw fPick (ste none none none pen)) = _
  rw [q]; rfl
abbrev fLand := rf__law_landings
def litsOf (n : Nat) : List (Int × Bool) := (List.range n).flatMap fun (i : Nat) => (if 0 < i then [(Int.ofNat i, false)] else []) ++ (if i + 1 < n then [(Int.ofNat i, true)] else [])
theorem land_ok {fl : Int} (f0 : 2 ≤ fl) (f1 : fl ≤ 6) : ∃ ls : List (Int × Bool), fLand [.int fl] = .ok (.lst (ls.map litD)) .non ∧ ls.length ≤ 12 ∧ ∀ x ∈ ls, 0 ≤ x.1 ∧ x.1 < fl := by
  have h : fl = 2 ∨ fl = 3 ∨ fl = 4 ∨ fl = 5 ∨ fl = 6 := by omega
  rcases h with rfl | rfl | rfl | rfl | rfl
  · exact ⟨litsOf 2, by kernel_rfl, by decide, by decide⟩
  · exact ⟨litsOf 3, by kernel_rfl, by decide, by decide⟩
  · exact ⟨litsOf 4, by kernel_rfl, by decide, by decide⟩
  · exact ⟨litsOf 5, by kernel_rfl, by decide, by decide⟩
  · exact ⟨litsOf 6, by kernel_rfl, by decide, by decide⟩
theorem choose_map {α : Type} {e : α → D} {P : α → Prop} : ∀ {ys : List D}, (∀ y ∈ ys, ∃ x, P x ∧ y = e x) → ∃ xs : List α, ys = xs.map e ∧ ∀ x ∈ xs, P x
  | [], _ => ⟨[], rfl, by simp⟩
  | y :: ys, h => by
    obtain ⟨xs, h1, h2⟩ := choose_map (ys := ys) fun y hy => h y (by simp [hy])
    obtain ⟨x, h3, h4⟩ := h y (by simp)
    exact ⟨x :: xs, by simp [h1, h4], by intro z hz; rcases List.mem_cons.mp hz with rfl | hz; exact h3; exact h2 z hz⟩
def se (fl room : Int) (os : List Int) (x5 x6 x7 x8 x10 : Option D) (pen : D) : EL.Env := [some pen, some (setD fl room os), some (.int fl), some (.int room), some (.tup (os.map ocD)), x5, x6, x7, x8, none, x10, none, none]
theorem put_load (l : List Int) (i v : Int) (h0 : 0 ≤ i) (h1 : i < l.length) : dPut (.lst (l.map .int)) (.int i) (.int v) = some (.lst ((l.set i.toNat v).map .int)) := by
  show (ixN (l.map D.int).length i).map _ = _
  unfold ixN
  rw [List.length_map, if_pos h0, if_pos h1]
  show some (D.lst ((l.map D.int).set i.toNat (.int v))) = _
  rw [List.map_set]
theorem rep0 {fl : Int} (f0 : 2 ≤ fl) (f1 : fl ≤ 6) : dRep (.lst [.int 0]) (.int fl) = some (.lst ((List.replicate fl.toNat (0 : Int)).map .int)) := by
  have h : fl = 2 ∨ fl = 3 ∨ fl = 4 ∨ fl = 5 ∨ fl = 6 := by omega
  rcases h with rfl | rfl | rfl | rfl | rfl <;> kernel_rfl
abbrev fSight := rf__law_drawn_sight fDraw fLand fPick
theorem sight_ok {pen : D} (hp : PenOk pen) {fl room : Int} {os : List Int} (f0 : 2 ≤ fl) (f1 : fl ≤ 6) (r0 : 1 ≤ room) (r1 : room ≤ 3) (ho : os.length ≤ 1) : ∃ s pen', fSight [pen, setD fl room os] = .ok (Sg.d s) pen' ∧ SgOk s ∧ (s.load.length : Int) = fl ∧ PenOk pen' := by
  obtain ⟨n, pen1, a1, a2, a3, p1⟩ := c_draw (E := se fl room os (some (.lst ((List.replicate fl.toNat (0 : Int)).map .int))) none none none none) (s := 0) (e := eBin dAdd (eV 3) (eC (.int 1))) (pen := pen) (fun _ => rfl) (fun _ _ => rfl) (n := room + 1) hp rfl (by omega) (by omega)
  have hn : n.toNat ≤ sizeLine := by rw [sizeLine_eq]; omega
  obtain ⟨ρ2, b1, pen2, l, x6, x7, p2, hl, rfl⟩ := l_for (bd := gSet 6) (body := sSeq (sSet 7 (eCallI fDraw 0 (eiHere 0 (eaCons (eV 2) eaNil)))) (sPut 5 (eV 7) (eBin dAdd (eBin dIx (eV 5) (eV 7)) (eC (.int 1))))) (I := fun ρ => ∃ (pen : D) (l : List Int) (x6 x7 : Option D), PenOk pen ∧ (l.length : Int) = fl ∧ ρ = se fl room os (some (.lst (l.map .int))) x6 x7 none none pen) (i_r1 (p_cons a1 p_nil) (by omega) hn) ⟨pen1, List.replicate fl.toNat 0, none, none, p1, by simp; omega, rfl⟩ (by
    rintro d hd ρ ⟨pen3, l, x6, x7, p3, hl, rfl⟩
    obtain ⟨at_, pen4, c1, c2, c3, p4⟩ := c_draw (E := se fl room os (some (.lst (l.map .int))) (some d) x7 none none) (s := 0) (e := eV 2) (pen := pen3) (fun _ => rfl) (fun _ _ => rfl) (n := fl) p3 rfl (by omega) (by omega)
    refine ⟨_, _, rfl, .inl (q_seq (ρ1 := se fl room os (some (.lst (l.map .int))) (some d) (some (.int at_)) none none pen4) (q_set c1 rfl) (q_put (p_bin0 (p_bin0 (x := .lst (l.map .int)) (y := .int at_) rfl rfl (at_lst l at_ c2 (by omega))) rfl rfl) rfl rfl (put_load l at_ _ c2 (by omega)) rfl)), pen4, l.set at_.toNat (l.getD at_.toNat 0 + 1), some d, some (.int at_), p4, by simp [hl], rfl⟩)
  obtain ⟨ls, d1, d2, d3⟩ := land_ok f0 f1
  obtain ⟨ys, ρ5, e1, e2, e3, pen5, p5, rfl⟩ := lc_inv (vs := [9]) (bd := gSet 9) (tt := ebV (eBin dEq (eCallI fDraw 0 (eiHere 0 (eaCons (eC (.int 2)) eaNil))) (eC (.int 0)))) (ee := eV 9) (I := fun ρ => ∃ pen, PenOk pen ∧ ρ = se fl room os (some (.lst (l.map .int))) x6 x7 none none pen) (T := fun y => ∃ x : Int × Bool, (0 ≤ x.1 ∧ x.1 < fl) ∧ y = litD x) (ds := ls.map litD) (by
    rintro d hd ρ ⟨pen3, p3, rfl⟩
    obtain ⟨x, hx, rfl⟩ := List.mem_map.mp hd
    obtain ⟨r, pen4, c1, c2, c3, p4⟩ := c_draw (E := fun pen => (se fl room os (some (.lst (l.map .int))) x6 x7 none none pen).set 9 (some (litD x))) (s := 0) (e := eC (.int 2)) (pen := pen3) (fun _ => rfl) (fun _ _ => rfl) p3 rfl (by omega) (by omega)
    exact ⟨_, decide (r = 0), _, rfl, b_v (p_bin c1 rfl (dEq_int _ _)), fun _ => ⟨pen4, p4, rfl⟩, fun _ => ⟨litD x, _, rfl, rfl, ⟨x, d3 x hx, rfl⟩, pen4, p4, rfl⟩⟩) (ρ := se fl room os (some (.lst (l.map .int))) x6 x7 none none pen2) ⟨pen2, p2, rfl⟩
  obtain ⟨lits, rfl, hlit⟩ := choose_map (e := litD) (P := fun x => 0 ≤ x.1 ∧ x.1 < fl) e3
  have comp1 : eA1 dTuple (eLc [9] (itSeq (eCall fLand (eaCons (eV 2) eaNil))) (gSet 9) (ebV (eBin dEq (eCallI fDraw 0 (eiHere 0 (eaCons (eC (.int 2)) eaNil))) (eC (.int 0)))) (eV 9)) (se fl room os (some (.lst (l.map .int))) x6 x7 none none pen2) = .ok (.tup (lits.map litD)) (se fl room os (some (.lst (l.map .int))) x6 x7 none none pen5) :=
    p_a1 (l_comp (i_lst (p_call (p_cons (x := .int fl) rfl p_nil) d1) (pu_lit ls)) e1 rfl) (if_pos (pu_lit lits))
  have okm : ∀ m : Str, m = "go" ∨ m = "zz" ∨ m = "a" → PyData.strOk m = true := by
    rintro m (rfl | rfl | rfl) <;> kernel_rfl
  obtain ⟨zs, ρ6, g1, g2, g3, pen6, p6, rfl⟩ := lc_all (vs := [11, 12]) (bd := gTupD (gsCons (gSet 11) (gsCons (gSet 12) gsNil))) (ee := eTup (eaCons (eV 11) (eaCons (eCallI fDraw 0 (eiHere 0 (eaCons (eV 2) eaNil))) (eaCons (eCallI fPick 0 (eiHere 0 (eaCons (eV 12) eaNil))) eaNil)))) (I := fun ρ => ∃ pen, PenOk pen ∧ ρ = se fl room os (some (.lst (l.map .int))) x6 x7 (some (.tup (lits.map litD))) none pen) (T := fun y => ∃ x : Int × Int × Str, (PyData.strOk x.2.2 = true ∧ 0 ≤ x.2.1 ∧ x.2.1 < fl) ∧ y = carD x) (ds := os.map ocD) (by
    rintro d hd ρ ⟨pen3, p3, rfl⟩
    obtain ⟨c, hc, rfl⟩ := List.mem_map.mp hd
    obtain ⟨r, pen4, c1, c2, c3, p4⟩ := c_draw (E := fun pen => ((se fl room os (some (.lst (l.map .int))) x6 x7 (some (.tup (lits.map litD))) none pen).set 11 (some (.int c))).set 12 (some modes2D)) (s := 0) (e := eV 2) (pen := pen3) (fun _ => rfl) (fun _ _ => rfl) (n := fl) p3 rfl (by omega) (by omega)
    obtain ⟨y, pen7, k1, k2, ⟨m, k3, rfl⟩, p7⟩ := c_pickT (E := fun pen => ((se fl room os (some (.lst (l.map .int))) x6 x7 (some (.tup (lits.map litD))) none pen).set 11 (some (.int c))).set 12 (some modes2D)) (s := 0) (e := eV 12) (pen := pen4) (fun _ => rfl) (fun _ _ => rfl) (ds := [.str "go", .str "zz", .str "a"]) p4 rfl (by decide) (by decide) (T := MD) (by
      intro y hy
      simp only [List.mem_cons, List.not_mem_nil, or_false] at hy
      rcases hy with rfl | rfl | rfl <;> exact md_lit (okm _ (by simp)))
    exact ⟨_, rfl, carD (c, r, m), _, p_tup (p_cons (x := .int c) rfl (p_cons c1 (p_cons k1 p_nil))) rfl (by show 3 ≤ sizeLine; decide), rfl, ⟨(c, r, m), ⟨k3, c2, c3⟩, rfl⟩, pen7, p7, rfl⟩) (ρ := se fl room os (some (.lst (l.map .int))) x6 x7 (some (.tup (lits.map litD))) none pen5) ⟨pen5, p5, rfl⟩
  obtain ⟨cars, rfl, hcar⟩ := choose_map (e := carD) (P := fun x => PyData.strOk x.2.2 = true ∧ 0 ≤ x.2.1 ∧ x.2.1 < fl) g3
  have comp2 : eA1 dTuple (eLc [11, 12] (itSeq (eV 4)) (gTupD (gsCons (gSet 11) (gsCons (gSet 12) gsNil))) ebYes (eTup (eaCons (eV 11) (eaCons (eCallI fDraw 0 (eiHere 0 (eaCons (eV 2) eaNil))) (eaCons (eCallI fPick 0 (eiHere 0 (eaCons (eV 12) eaNil))) eaNil))))) (se fl room os (some (.lst (l.map .int))) x6 x7 (some (.tup (lits.map litD))) none pen5) = .ok (.tup (cars.map carD)) (se fl room os (some (.lst (l.map .int))) x6 x7 (some (.tup (lits.map litD))) none pen6) :=
    p_a1 (l_comp (i_tup rfl (pu_oc os)) g1 rfl) (if_pos (pu_car cars))
  obtain ⟨p, pen7, h1, h2, h3, p7⟩ := c_draw (E := se fl room os (some (.lst (l.map .int))) x6 x7 (some (.tup (lits.map litD))) (some (.tup (cars.map carD)))) (s := 0) (e := eV 2) (pen := pen6) (fun _ => rfl) (fun _ _ => rfl) (n := fl) p6 rfl (by omega) (by omega)
  refine ⟨⟨p, l, room, lits, cars⟩, pen7, ?_, ⟨h2, by show p < (l.length : Int); omega, by show l.length ≤ 6; omega, fun x hx => by have := hlit x hx; show 0 ≤ x.1 ∧ x.1 < (l.length : Int); omega, by have := e2; simp only [List.length_map] at this; show lits.length ≤ 12; omega, by have := g2; simp only [List.length_map] at this; show cars.length ≤ 1; omega, fun x hx => (hcar x hx).1, fun x hx => by have := hcar x hx; show 0 ≤ x.2.1 ∧ x.2.1 < (l.length : Int); omega⟩, hl, p7⟩
  have q : ev__law_drawn_sight fDraw fLand fPick [some pen, some (setD fl room os), none, none, none, none, none, none, none, none, none, none, none] = .ret (Sg.d ⟨p, l, room, lits, cars⟩) (se fl room os (some (.lst (l.map .int))) x6 x7 (some (.tup (lits.map litD))) (some (.tup (cars.map carD))) pen7) :=
    q_seq (ρ1 := se fl room os none none none none none pen) (q_unpT (ds := [.int fl, .int room, .tup (os.map ocD)]) rfl (by simp [pureDs, pureD, pu_oc]) rfl) <|
    q_seq (ρ1 := se fl room os (some (.lst ((List.replicate fl.toNat (0 : Int)).map .int))) none none none none pen) (q_set (p_bin0 (x := .lst [.int 0]) (y := .int fl) (by kernel_rfl) rfl (rep0 f0 f1)) rfl) <|
    q_seq b1 <| q_seq (ρ1 := se fl room os (some (.lst (l.map .int))) x6 x7 (some (.tup (lits.map litD))) none pen5) (q_set comp1 rfl) <|
    q_seq (ρ1 := se fl room os (some (.lst (l.map .int))) x6 x7 (some (.tup (lits.map litD))) (some (.tup (cars.map carD))) pen6) (q_set comp2 rfl) <|
    q_ret (p_tup (p_cons h1 (p_cons (p_a1 (x := .lst (l.map .int)) rfl (if_pos (pu_load l))) (p_cons rfl (p_cons rfl (p_cons rfl p_nil))))) (pu_sg ⟨p, l, room, lits, cars⟩) (by show 5 ≤ sizeLine; decide))
  unfold fSight rf__law_drawn_sight
  rw [runF_ok (by simp [plOk, setD, pureD, pureDs, pu_oc])]
  show endOf (some 0) (ev__law_drawn_sight fDraw fLand fPick [some pen, some (setD fl room os), none, none, none, none, none, none, none, none, none, none, none]) = _
  rw [q]; rfl
end K03

set_option maxHeartbeats 0
namespace K03
open PySem PySem.Spec PyProof.Rows EL
open L2 hiding XE
/-! ### the law -/
abbrev fSet := rf__law_setting fDraw fPick
abbrev fIs := rf__law_is (fun _ => .st)
abbrev fHo := rf_holds (fTrue 4)
abbrev fLaw := rf_law rf__law_pen fSet fSight fPick fC1 fIs fHo (fLH 4) fAny
theorem is_ok (a b : Bool) : fIs [.bl a, .bl b] = .ok (.bl (a == b)) .non := by cases a <;> cases b <;> kernel_rfl
theorem ho_ok {s : Sg} {m : Str} (hm : PyData.strOk m = true) (hs : SgOk s) {c : D} {b : Bool} (h : CSem s m 3 c b) : fHo [c, .str m, s.d] = .ok (.bl b) .non := by
  have q : ev_holds (fTrue 4) [some c, some (.str m), some s.d] = .ret (.bl b) [some c, some (.str m), some s.d] := q_ret0 (p_call0 (p_cons0 rfl (p_cons0 rfl (p_cons0 rfl p_nil))) (tr_ok hm hs h))
  unfold fHo rf_holds
  rw [runF_ok (by simp [plOk, pureD, h.pure, Sg.d, pu_sg])]
  show endOf none (ev_holds (fTrue 4) [some c, some (.str m), some s.d]) = _
  rw [q]; rfl
def ll (sc : D) (x3 x4 x5 x6 x7 x8 x10 x11 x12 x13 x14 : Option D) (pen : D) : EL.Env := [some sc, some pen, some modesD, x3, x4, x5, x6, x7, x8, none, x10, x11, x12, x13, x14]
def lawBody : Ms :=
  (sSeq (sSet 4 (eCallI fSet 1 (eiHere 1 eaNil)))
  (sSeq (sPar 5 6 (eCallI fSight 1 (eiHere 1 (eaCons (eV 4) eaNil))) (eCallI fPick 1 (eiHere 1 (eaCons (eV 2) eaNil))))
  (sSeq (sUnp (gsCons (gSet 7) (gsCons (gSet 8) gsNil)) (eLc [9] (itR1 (eaCons (eC (.int 2)) eaNil)) (gSet 9) ebYes (eCallI fC1 1 (eiHere 1 (eaCons (eV 2) (eaCons (eBin dIx (eV 4) (eC (.int 0))) (eaCons (eC (.int 1)) eaNil)))))))
  (sSeq (sSet 10 (eLst (eaCons (eV 7) (eaCons (eV 8) (eaCons (eTup (eaCons (eC (.str "not")) (eaCons (eV 7) eaNil))) (eaCons (eTup (eaCons (eC (.str "and")) (eaCons (eTup (eaCons (eV 7) (eaCons (eV 8) eaNil))) eaNil))) (eaCons (eTup (eaCons (eC (.str "or")) (eaCons (eTup (eaCons (eV 8) (eaCons (eV 7) (eaCons (eTup (eaCons (eC (.str "not")) (eaCons (eV 8) eaNil))) eaNil)))) eaNil))) (eaCons (eTup (eaCons (eC (.str "not")) (eaCons (eTup (eaCons (eC (.str "or")) (eaCons (eTup (eaCons (eV 7) (eaCons (eV 8) eaNil))) eaNil))) eaNil))) eaNil))))))))
  (sSeq (sFor [] (itSeq (eV 10)) (gSet 11) (sIf (ebNot (ebT (eCall fIs (eaCons (eCall fHo (eaCons (eV 11) (eaCons (eV 6) (eaCons (eV 5) eaNil)))) (eaCons (eCall (fLH 4) (eaCons (eV 11) (eaCons (eV 6) (eaCons (eV 5) eaNil)))) eaNil))))) (sRet (eC (.bl false))) sNil))
  (sSeq (sSet 12 (eCallI fAny 1 (eiHere 1 (eaCons (eV 2) (eaCons (eBin dIx (eV 4) (eC (.int 0))) eaNil)))))
  (sSeq (sIf (ebNot (ebT (eCall fIs (eaCons (eCall fHo (eaCons (eV 12) (eaCons (eV 6) (eaCons (eV 5) eaNil)))) (eaCons (eCall (fLH 4) (eaCons (eV 12) (eaCons (eV 6) (eaCons (eV 5) eaNil)))) eaNil))))) (sRet (eC (.bl false))) sNil)
  (sSeq (sPar 13 14 (eCall fHo (eaCons (eV 7) (eaCons (eV 6) (eaCons (eV 5) eaNil)))) (eCall fHo (eaCons (eV 8) (eaCons (eV 6) (eaCons (eV 5) eaNil)))))
  (sSeq (sIf (ebOr (ebV (eBin dNe (eCall fHo (eaCons (eTup (eaCons (eC (.str "and")) (eaCons (eTup (eaCons (eV 7) (eaCons (eV 8) eaNil))) eaNil))) (eaCons (eV 6) (eaCons (eV 5) eaNil)))) (eAndV (eV 13) (eV 14)))) (ebV (eBin dNe (eCall fHo (eaCons (eTup (eaCons (eC (.str "or")) (eaCons (eTup (eaCons (eV 7) (eaCons (eV 8) eaNil))) eaNil))) (eaCons (eV 6) (eaCons (eV 5) eaNil)))) (eOrV (eV 13) (eV 14))))) (sRet (eC (.bl false))) sNil)
  (sIf (ebOr (ebV (eBin dEq (eCall fHo (eaCons (eTup (eaCons (eC (.str "not")) (eaCons (eV 7) eaNil))) (eaCons (eV 6) (eaCons (eV 5) eaNil)))) (eV 13))) (ebV (eBin dNotB (eCall fHo (eaCons (eTup (eaCons (eC (.str "always")) eaNil)) (eaCons (eV 6) (eaCons (eV 5) eaNil)))) (eC (.bl true))))) (sRet (eC (.bl false))) sNil))))))))))
theorem ne_bl (a b : Bool) : dNe (.bl a) (.bl b) = some (.bl (!(a == b))) := by cases a <;> cases b <;> rfl
theorem eq_bl (a b : Bool) : dEq (.bl a) (.bl b) = some (.bl (a == b)) := by cases a <;> cases b <;> rfl
theorem body_ok {sc pen : D} (hp : PenOk pen) (x3 x4 x5 x6 x7 x8 x10 x11 x12 x13 x14 : Option D) : ∃ y4 y5 y6 y7 y8 y10 y11 y12 y13 y14 pen', lawBody (ll sc x3 x4 x5 x6 x7 x8 x10 x11 x12 x13 x14 pen) = .nx (ll sc x3 y4 y5 y6 y7 y8 y10 y11 y12 y13 y14 pen') ∧ PenOk pen' := by
  obtain ⟨fl, room, os, pen1, a1, f0, f1, r0, r1, ho, p1⟩ := setting_ok hp
  have s1 : sSet 4 (eCallI fSet 1 (eiHere 1 eaNil)) (ll sc x3 x4 x5 x6 x7 x8 x10 x11 x12 x13 x14 pen) = .nx (ll sc x3 (some (setD fl room os)) x5 x6 x7 x8 x10 x11 x12 x13 x14 pen1) := q_set (p_callI (p_here rfl p_nil rfl) a1 rfl) rfl
  obtain ⟨s, pen2, b1, hs, hl, p2⟩ := sight_ok p1 f0 f1 r0 r1 ho
  have okm : ∀ m : Str, m = "a" ∨ m = "go" ∨ m = "zz" → PyData.strOk m = true := by
    rintro m (rfl | rfl | rfl) <;> kernel_rfl
  obtain ⟨y, pen3, c1, c2, ⟨m, hm, rfl⟩, p3⟩ := c_pickT (E := ll sc x3 (some (setD fl room os)) x5 x6 x7 x8 x10 x11 x12 x13 x14) (s := 1) (e := eV 2) (pen := pen2) (fun _ => rfl) (fun _ _ => rfl) (ds := [.str "a", .str "go", .str "zz"]) p2 rfl (by decide) (by decide) (T := MD) (by
    intro y hy
    simp only [List.mem_cons, List.not_mem_nil, or_false] at hy
    rcases hy with rfl | rfl | rfl <;> exact md_lit (okm _ (by simp)))
  have s2 : sPar 5 6 (eCallI fSight 1 (eiHere 1 (eaCons (eV 4) eaNil))) (eCallI fPick 1 (eiHere 1 (eaCons (eV 2) eaNil))) (ll sc x3 (some (setD fl room os)) x5 x6 x7 x8 x10 x11 x12 x13 x14 pen1) = .nx (ll sc x3 (some (setD fl room os)) (some s.d) (some (.str m)) x7 x8 x10 x11 x12 x13 x14 pen3) :=
    q_par (p_callI (p_here rfl (p_cons rfl p_nil) rfl) b1 rfl) c1 rfl
  obtain ⟨ys, ρ5, l1, l2, l3, pen5, p5, rfl⟩ := lc_all (vs := [9]) (bd := gSet 9) (ee := eCallI fC1 1 (eiHere 1 (eaCons (eV 2) (eaCons (eBin dIx (eV 4) (eC (.int 0))) (eaCons (eC (.int 1)) eaNil))))) (I := fun ρ => ∃ pen, PenOk pen ∧ ρ = ll sc x3 (some (setD fl room os)) (some s.d) (some (.str m)) x7 x8 x10 x11 x12 x13 x14 pen) (T := CD 1) (ds := rangeD 0 2) (by
    rintro d _ ρ ⟨pen6, p6, rfl⟩
    obtain ⟨y, pen7, g1, g2, g3⟩ := cond1_ok p6 f0 f1
    exact ⟨_, rfl, y, _, p_callI (p_here rfl (p_cons rfl (p_cons rfl (p_cons rfl p_nil))) rfl) g1 rfl, g2.pu, g2, pen7, g3, rfl⟩) (ρ := ll sc x3 (some (setD fl room os)) (some s.d) (some (.str m)) x7 x8 x10 x11 x12 x13 x14 pen3) ⟨pen3, p3, rfl⟩
  obtain ⟨y1, y2, rfl⟩ : ∃ y1 y2, ys = [y1, y2] := by
    have h2 : ys.length = 2 := l2
    match ys, h2 with
    | [a, b], _ => exact ⟨a, b, rfl⟩
  obtain ⟨t1, t2⟩ : CD 1 y1 ∧ CD 1 y2 := ⟨l3 y1 (by simp), l3 y2 (by simp)⟩
  have u1 := t1.pu
  have u2 := t2.pu
  have s3 : sUnp (gsCons (gSet 7) (gsCons (gSet 8) gsNil)) (eLc [9] (itR1 (eaCons (eC (.int 2)) eaNil)) (gSet 9) ebYes (eCallI fC1 1 (eiHere 1 (eaCons (eV 2) (eaCons (eBin dIx (eV 4) (eC (.int 0))) (eaCons (eC (.int 1)) eaNil)))))) (ll sc x3 (some (setD fl room os)) (some s.d) (some (.str m)) x7 x8 x10 x11 x12 x13 x14 pen3) = .nx (ll sc x3 (some (setD fl room os)) (some s.d) (some (.str m)) (some y1) (some y2) x10 x11 x12 x13 x14 pen5) :=
    q_unpL (l_comp (i_r1 (j := 2) (p_cons rfl p_nil) (by omega) (by decide)) l1 rfl) (by simp [pureDs, u1, u2]) rfl
  obtain ⟨v1, k1⟩ := t1 s m
  obtain ⟨v2, k2⟩ := t2 s m
  have kk : ∀ {k : Nat} {c : D} {b : Bool}, CSem s m k c b → k ≤ 3 → CSem s m 3 c b := fun h j => h.mono j
  have d1 : CSem s m 2 (.tup [.str "not", y1]) (!v1) := .no k1
  have d2 : CSem s m 2 (.tup [.str "and", .tup [y1, y2]]) (v1 && (v2 && true)) := .and [(y1, v1), (y2, v2)] (by intro x hx; simp only [List.mem_cons, List.not_mem_nil, or_false] at hx; rcases hx with rfl | rfl; exact k1; exact k2)
  have d3 : CSem s m 2 (.tup [.str "or", .tup [y1, y2]]) (v1 || (v2 || false)) := .or [(y1, v1), (y2, v2)] (by intro x hx; simp only [List.mem_cons, List.not_mem_nil, or_false] at hx; rcases hx with rfl | rfl; exact k1; exact k2)
  have d4 : CSem s m 3 (.tup [.str "or", .tup [y2, y1, .tup [.str "not", y2]]]) (v2 || (v1 || (!v2 || false))) := .or [(y2, v2), (y1, v1), (.tup [.str "not", y2], !v2)] (by intro x hx; simp only [List.mem_cons, List.not_mem_nil, or_false] at hx; rcases hx with rfl | rfl | rfl; exact k2.mono (by omega); exact k1.mono (by omega); exact .no k2)
  have d5 : CSem s m 3 (.tup [.str "not", .tup [.str "or", .tup [y1, y2]]]) (!(v1 || (v2 || false))) := .no d3
  let rs : List D := [y1, y2, .tup [.str "not", y1], .tup [.str "and", .tup [y1, y2]], .tup [.str "or", .tup [y2, y1, .tup [.str "not", y2]]], .tup [.str "not", .tup [.str "or", .tup [y1, y2]]]]
  have hrs : ∀ c ∈ rs, ∃ b, CSem s m 3 c b := by
    intro c hc
    simp only [rs, List.mem_cons, List.not_mem_nil, or_false] at hc
    rcases hc with rfl | rfl | rfl | rfl | rfl | rfl
    · exact ⟨_, k1.mono (by omega)⟩
    · exact ⟨_, k2.mono (by omega)⟩
    · exact ⟨_, d1.mono (by omega)⟩
    · exact ⟨_, d2.mono (by omega)⟩
    · exact ⟨_, d4⟩
    · exact ⟨_, d5⟩
  have prs : pureDs rs = true := pureDs_mem fun c hc => let ⟨_, h⟩ := hrs c hc; h.pure
  have pp : ∀ {ds : List D}, pureDs ds = true → pureD (.tup ds) = true := fun h => by simpa [pureD] using h
  have sz : ∀ {n : Nat}, n ≤ 6 → n ≤ sizeLine := fun h => by rw [sizeLine_eq]; omega
  have s4 : (eLst (eaCons (eV 7) (eaCons (eV 8) (eaCons (eTup (eaCons (eC (.str "not")) (eaCons (eV 7) eaNil))) (eaCons (eTup (eaCons (eC (.str "and")) (eaCons (eTup (eaCons (eV 7) (eaCons (eV 8) eaNil))) eaNil))) (eaCons (eTup (eaCons (eC (.str "or")) (eaCons (eTup (eaCons (eV 8) (eaCons (eV 7) (eaCons (eTup (eaCons (eC (.str "not")) (eaCons (eV 8) eaNil))) eaNil)))) eaNil))) (eaCons (eTup (eaCons (eC (.str "not")) (eaCons (eTup (eaCons (eC (.str "or")) (eaCons (eTup (eaCons (eV 7) (eaCons (eV 8) eaNil))) eaNil))) eaNil))) eaNil))))))) (ll sc x3 (some (setD fl room os)) (some s.d) (some (.str m)) (some y1) (some y2) x10 x11 x12 x13 x14 pen5) = .ok (.lst rs) (ll sc x3 (some (setD fl room os)) (some s.d) (some (.str m)) (some y1) (some y2) x10 x11 x12 x13 x14 pen5) :=
    p_lst0 (p_cons0 rfl (p_cons0 rfl (p_cons0 (p_tup0 (p_cons0 rfl (p_cons0 rfl p_nil)) (by simp [pureDs, pureD, u1]) (sz (by simp))) (p_cons0 (p_tup0 (p_cons0 rfl (p_cons0 (p_tup0 (p_cons0 rfl (p_cons0 rfl p_nil)) (by simp [pureDs, pureD, u1, u2]) (sz (by simp))) p_nil)) (by simp [pureDs, pureD, u1, u2]) (sz (by simp))) (p_cons0 (p_tup0 (p_cons0 rfl (p_cons0 (p_tup0 (p_cons0 rfl (p_cons0 rfl (p_cons0 (p_tup0 (p_cons0 rfl (p_cons0 rfl p_nil)) (by simp [pureDs, pureD, u2]) (sz (by simp))) p_nil))) (by simp [pureDs, pureD, u1, u2]) (sz (by simp))) p_nil)) (by simp [pureDs, pureD, u1, u2]) (sz (by simp))) (p_cons0 (p_tup0 (p_cons0 rfl (p_cons0 (p_tup0 (p_cons0 rfl (p_cons0 (p_tup0 (p_cons0 rfl (p_cons0 rfl p_nil)) (by simp [pureDs, pureD, u1, u2]) (sz (by simp))) p_nil)) (by simp [pureDs, pureD, u1, u2]) (sz (by simp))) p_nil)) (by simp [pureDs, pureD, u1, u2]) (sz (by simp))) p_nil)))))) prs (sz (by simp [rs]))
  have hh : ∀ {c : D} {b : Bool} {e : M D} {ρ : EL.Env}, CSem s m 3 c b → e ρ = .ok c ρ → eV 6 ρ = .ok (.str m) ρ → eV 5 ρ = .ok s.d ρ → eCall fHo (eaCons e (eaCons (eV 6) (eaCons (eV 5) eaNil))) ρ = .ok (.bl b) ρ := fun h e1 e2 e3 => p_call0 (p_cons0 e1 (p_cons0 e2 (p_cons0 e3 p_nil))) (ho_ok hm hs h)
  have hlw : ∀ {c : D} {b : Bool} {e : M D} {ρ : EL.Env}, CSem s m 3 c b → e ρ = .ok c ρ → eV 6 ρ = .ok (.str m) ρ → eV 5 ρ = .ok s.d ρ → eCall (fLH 4) (eaCons e (eaCons (eV 6) (eaCons (eV 5) eaNil))) ρ = .ok (.bl b) ρ := fun h e1 e2 e3 => p_call0 (p_cons0 e1 (p_cons0 e2 (p_cons0 e3 p_nil))) (lh_ok hm hs h)
  have tst : ∀ {c : D} {b : Bool} {e : M D} {ρ : EL.Env}, CSem s m 3 c b → e ρ = .ok c ρ → eV 6 ρ = .ok (.str m) ρ → eV 5 ρ = .ok s.d ρ → ebNot (ebT (eCall fIs (eaCons (eCall fHo (eaCons e (eaCons (eV 6) (eaCons (eV 5) eaNil)))) (eaCons (eCall (fLH 4) (eaCons e (eaCons (eV 6) (eaCons (eV 5) eaNil)))) eaNil)))) ρ = .ok false ρ := fun {c b e ρ} h e1 e2 e3 =>
    b_not0 (p := true) (b_t (p_call0 (p_cons0 (hh h e1 e2 e3) (p_cons0 (hlw h e1 e2 e3) p_nil)) (is_ok b b)) (by cases b <;> rfl))
  obtain ⟨ρ6, s5, z11, rfl⟩ := l_for (it := itSeq (eV 10)) (bd := gSet 11) (body := (sIf (ebNot (ebT (eCall fIs (eaCons (eCall fHo (eaCons (eV 11) (eaCons (eV 6) (eaCons (eV 5) eaNil)))) (eaCons (eCall (fLH 4) (eaCons (eV 11) (eaCons (eV 6) (eaCons (eV 5) eaNil)))) eaNil))))) (sRet (eC (.bl false))) sNil)) (I := fun ρ => ∃ z, ρ = ll sc x3 (some (setD fl room os)) (some s.d) (some (.str m)) (some y1) (some y2) (some (.lst rs)) z x12 x13 x14 pen5) (i_lst (a := eV 10) (ρ := ll sc x3 (some (setD fl room os)) (some s.d) (some (.str m)) (some y1) (some y2) (some (.lst rs)) x11 x12 x13 x14 pen5) rfl prs) ⟨x11, rfl⟩ (by
    rintro c hc ρ ⟨z, rfl⟩
    obtain ⟨b, hb⟩ := hrs c hc
    exact ⟨_, ll sc x3 (some (setD fl room os)) (some s.d) (some (.str m)) (some y1) (some y2) (some (.lst rs)) (some c) x12 x13 x14 pen5, rfl, .inl (q_if (k := false) (tst hb rfl rfl rfl) rfl), some c, rfl⟩)
  obtain ⟨ya, pen7, g1, ⟨at_, g2, rfl⟩, p7⟩ := c_any (E := ll sc x3 (some (setD fl room os)) (some s.d) (some (.str m)) (some y1) (some y2) (some (.lst rs)) z11 x12 x13 x14) (s := 1) (a := eV 2) (b := eBin dIx (eV 4) (eC (.int 0))) (fun _ => rfl) (fun _ _ => rfl) f0 f1 p5 rfl rfl
  let e7 := ll sc x3 (some (setD fl room os)) (some s.d) (some (.str m)) (some y1) (some y2) (some (.lst rs)) z11 (some at_.d) x13 x14 pen7
  let e8 := ll sc x3 (some (setD fl room os)) (some s.d) (some (.str m)) (some y1) (some y2) (some (.lst rs)) z11 (some at_.d) (some (.bl v1)) (some (.bl v2)) pen7
  have k1' := k1.mono (j := 3) (by omega)
  have k2' := k2.mono (j := 3) (by omega)
  refine ⟨_, _, _, _, _, _, _, _, _, _, pen7, q_seq s1 <| q_seq s2 <| q_seq s3 <| q_seq (q_set s4 rfl) <| q_seq s5 <| q_seq (ρ1 := e7) (q_set g1 rfl) <| q_ifF0 (tst (.at_ at_ g2) rfl rfl rfl) <| q_seq (ρ1 := e8) (q_par (hh k1' rfl rfl rfl) (hh k2' rfl rfl rfl) rfl) <| q_ifF0 (b_or0 (p := false) (q := false) (b_v0 (p_bin0 (hh (d2.mono (by omega)) (p_tup0 (p_cons0 rfl (p_cons0 (p_tup0 (p_cons0 rfl (p_cons0 rfl p_nil)) (by simp [pureDs, pureD, u1, u2]) (sz (by simp))) p_nil)) (by simp [pureDs, pureD, u1, u2]) (sz (by simp))) rfl rfl) (p_and0 (p := v1) (q := v2) rfl rfl) ?_))
    fun _ => b_v0 (p_bin0 (hh (d3.mono (by omega)) (p_tup0 (p_cons0 rfl (p_cons0 (p_tup0 (p_cons0 rfl (p_cons0 rfl p_nil)) (by simp [pureDs, pureD, u1, u2]) (sz (by simp))) p_nil)) (by simp [pureDs, pureD, u1, u2]) (sz (by simp))) rfl rfl) (p_or0 (p := v1) (q := v2) rfl fun _ => rfl) ?_)) <|
    q_if (k := false) (ρ1 := e8) (b_or0 (p := false) (q := false) (b_v0 (p_bin0 (hh (d1.mono (by omega)) (p_tup0 (p_cons0 rfl (p_cons0 rfl p_nil)) (by simp [pureDs, pureD, u1]) (sz (by simp))) rfl rfl) rfl ?_)) fun _ => b_v0 (p_bin0 (hh (.at_ .always trivial) (by kernel_rfl) rfl rfl) rfl rfl)) rfl, p7⟩
  · rw [ne_bl]; cases v1 <;> cases v2 <;> rfl
  · rw [ne_bl]; cases v1 <;> cases v2 <;> rfl
  · rw [eq_bl]; cases v1 <;> rfl
theorem law_ok (ns : List Int) : fLaw [.scr (ns.map .int)] = .ok (.bl true) .non := by
  obtain ⟨pen, a1, p1⟩ := pen_ok ns
  obtain ⟨ρ2, b1, pen2, x3, x4, x5, x6, x7, x8, x10, x11, x12, x13, x14, p2, rfl⟩ := l_for (bd := gSet 3) (body := lawBody) (I := fun ρ => ∃ pen x3 x4 x5 x6 x7 x8 x10 x11 x12 x13 x14, PenOk pen ∧ ρ = ll (.scr (ns.map .int)) x3 x4 x5 x6 x7 x8 x10 x11 x12 x13 x14 pen) (i_r1 (as := eaCons (eC (.int 12)) eaNil) (ρ := ll (.scr (ns.map .int)) none none none none none none none none none none none pen) (j := 12) (p_cons rfl p_nil) (by omega) (by decide)) ⟨pen, none, none, none, none, none, none, none, none, none, none, none, p1, rfl⟩ (by
    rintro d _ ρ ⟨pen3, x3, x4, x5, x6, x7, x8, x10, x11, x12, x13, x14, p3, rfl⟩
    obtain ⟨y4, y5, y6, y7, y8, y10, y11, y12, y13, y14, pen4, g1, g2⟩ := body_ok (sc := .scr (ns.map .int)) p3 (some d) x4 x5 x6 x7 x8 x10 x11 x12 x13 x14
    exact ⟨_, _, rfl, .inl g1, pen4, some d, y4, y5, y6, y7, y8, y10, y11, y12, y13, y14, g2, rfl⟩)
  have q : ev_law rf__law_pen fSet fSight fPick fC1 fIs fHo (fLH 4) fAny [some (.scr (ns.map .int)), none, none, none, none, none, none, none, none, none, none, none, none, none, none] = .ret (.bl true) (ll (.scr (ns.map .int)) x3 x4 x5 x6 x7 x8 x10 x11 x12 x13 x14 pen2) :=
    q_seq (ρ1 := [some (.scr (ns.map .int)), some pen, none, none, none, none, none, none, none, none, none, none, none, none, none]) (q_set (p_call0 (p_cons0 rfl p_nil) a1) rfl) <| q_seq (ρ1 := ll (.scr (ns.map .int)) none none none none none none none none none none none pen) (by kernel_rfl) <| q_seq b1 <| q_ret rfl
  show endOf none (ev_law rf__law_pen fSet fSight fPick fC1 fIs fHo (fLH 4) fAny [some (.scr (ns.map .int)), none, none, none, none, none, none, none, none, none, none, none, none, none, none]) = _
  rw [q]; rfl
end K03

set_option maxHeartbeats 0
namespace K03
open PySem PySem.Spec PyProof.Rows EL
open L2 hiding XE
/-! ### the head -/
def dd (x : Str) (st : Stmt) : He.DefD := ⟨(x, none), x, x, defArgs st, defBody st, defScope st, [], []⟩
def fn : List He.DefD := [dd "is_true" st_is_true, dd "atom_holds" st_atom_holds, dd "is_at" st_is_at, dd "is_there" st_is_there, dd "is_lit_there" st_is_lit_there, dd "car_holds" st_car_holds, dd "holds" st_holds, dd "_law_any_atom" st__law_any_atom, dd "_law_drawn_condition" st__law_drawn_condition, dd "_law_drawn_sight" st__law_drawn_sight, dd "_law_pen" st__law_pen, dd "_law_draw" st__law_draw, dd "_law_pick" st__law_pick, dd "_law_is" st__law_is, dd "_law_landings" st__law_landings, dd "_law_floors" st__law_floors, dd "_law_holds" st__law_holds, dd "_law_setting" st__law_setting, dd "law" st_law]
def faG : List He.Fa := [.glo "is_true", .glo "atom_holds", .glo "is_at", .glo "is_there", .glo "is_lit_there", .glo "car_holds", .glo "holds", .glo "_law_any_atom", .glo "_law_drawn_condition", .glo "_law_drawn_sight", .glo "_law_pen", .glo "_law_draw", .glo "_law_pick", .glo "_law_is", .glo "_law_landings", .glo "_law_floors", .glo "_law_holds", .glo "_law_setting", .glo "law"]
def fa : List He.Fa := faG ++ bltL.map He.Fa.free
abbrev Rw : PySem.W.OpenRow := PySem.W.OpenLaw.row PySem.Challenge.rw_everylanding_k03_conditions_hold
abbrev hk : PySem.W.Hook := He.hookD 4 fa fn
def ob (s : PySem.W.SharedT) : He.AlD := He.obsDG 4 fa fn (HandSHeadRun.getT s)
theorem ob_eq (s : PySem.W.SharedT) : ob s = hk.obs s.abs := He.obsDG_eq (HandSHeadRun.getT_eq s)

theorem run (w : World) : HandSHeadRun.RunEq Rw (PySem.W.view Rw.prog [21]) hk ob 3000 ["is_true", "atom_holds", "is_at", "is_there", "is_lit_there", "car_holds", "holds", "_law_any_atom", "_law_drawn_condition", "_law_drawn_sight", "_law_pen", "_law_draw", "_law_pick", "_law_is", "_law_landings", "_law_floors", "_law_holds", "_law_setting"] w := by
  intro os
  kernel_rfl
theorem facts {P : Program} {w : World} {K : PySem.W.Frag} {h : Heap} {mg : Str → Option Value} {f : Addr} (X : K.In h) (G : h.Ns mainGlobals mg) (hfa : mg ("law" : Str) = some (.ref f)) (c : He.SaysD fa fn K) :
    ∃ (C : Core) (fd : FuncData), C.K = K ∧ (∀ (s : Shared) (v : Value), BindsTo s fd ⟨[v], []⟩ [("script", v)]) ∧ ∀ base : Heap, K.In base → base.Ns mainGlobals mg → FnOk P w K mg base (L2.CX P w) 9 f fd ["script"] (spD C 1 none .pu fLaw) := by
  let C : Core := ⟨K, fun _ => 0, fun _ => False⟩
  have Z : Gz mg C K := ⟨rfl, fun x hx => by
    have m : He.Fa.free x ∈ fa := List.mem_append_right _ (List.mem_map_of_mem hx)
    obtain ⟨i, hi⟩ := List.getElem?_of_mem m
    exact He.free_ok X G (c.fact i hi)⟩
  obtain ⟨fd_is_true, F_is_true⟩ := c.def_ 0 (d := dd "is_true" st_is_true) rfl
  have m_is_true := He.glo_ok X G (c.fact 0 (f := .glo "is_true") rfl)
  obtain ⟨fd_atom_holds, F_atom_holds⟩ := c.def_ 1 (d := dd "atom_holds" st_atom_holds) rfl
  have m_atom_holds := He.glo_ok X G (c.fact 1 (f := .glo "atom_holds") rfl)
  obtain ⟨fd_is_at, F_is_at⟩ := c.def_ 2 (d := dd "is_at" st_is_at) rfl
  have m_is_at := He.glo_ok X G (c.fact 2 (f := .glo "is_at") rfl)
  obtain ⟨fd_is_there, F_is_there⟩ := c.def_ 3 (d := dd "is_there" st_is_there) rfl
  have m_is_there := He.glo_ok X G (c.fact 3 (f := .glo "is_there") rfl)
  obtain ⟨fd_is_lit_there, F_is_lit_there⟩ := c.def_ 4 (d := dd "is_lit_there" st_is_lit_there) rfl
  have m_is_lit_there := He.glo_ok X G (c.fact 4 (f := .glo "is_lit_there") rfl)
  obtain ⟨fd_car_holds, F_car_holds⟩ := c.def_ 5 (d := dd "car_holds" st_car_holds) rfl
  have m_car_holds := He.glo_ok X G (c.fact 5 (f := .glo "car_holds") rfl)
  obtain ⟨fd_holds, F_holds⟩ := c.def_ 6 (d := dd "holds" st_holds) rfl
  have m_holds := He.glo_ok X G (c.fact 6 (f := .glo "holds") rfl)
  obtain ⟨fd__law_any_atom, F__law_any_atom⟩ := c.def_ 7 (d := dd "_law_any_atom" st__law_any_atom) rfl
  have m__law_any_atom := He.glo_ok X G (c.fact 7 (f := .glo "_law_any_atom") rfl)
  obtain ⟨fd__law_drawn_condition, F__law_drawn_condition⟩ := c.def_ 8 (d := dd "_law_drawn_condition" st__law_drawn_condition) rfl
  have m__law_drawn_condition := He.glo_ok X G (c.fact 8 (f := .glo "_law_drawn_condition") rfl)
  obtain ⟨fd__law_drawn_sight, F__law_drawn_sight⟩ := c.def_ 9 (d := dd "_law_drawn_sight" st__law_drawn_sight) rfl
  have m__law_drawn_sight := He.glo_ok X G (c.fact 9 (f := .glo "_law_drawn_sight") rfl)
  obtain ⟨fd__law_pen, F__law_pen⟩ := c.def_ 10 (d := dd "_law_pen" st__law_pen) rfl
  have m__law_pen := He.glo_ok X G (c.fact 10 (f := .glo "_law_pen") rfl)
  obtain ⟨fd__law_draw, F__law_draw⟩ := c.def_ 11 (d := dd "_law_draw" st__law_draw) rfl
  have m__law_draw := He.glo_ok X G (c.fact 11 (f := .glo "_law_draw") rfl)
  obtain ⟨fd__law_pick, F__law_pick⟩ := c.def_ 12 (d := dd "_law_pick" st__law_pick) rfl
  have m__law_pick := He.glo_ok X G (c.fact 12 (f := .glo "_law_pick") rfl)
  obtain ⟨fd__law_is, F__law_is⟩ := c.def_ 13 (d := dd "_law_is" st__law_is) rfl
  have m__law_is := He.glo_ok X G (c.fact 13 (f := .glo "_law_is") rfl)
  obtain ⟨fd__law_landings, F__law_landings⟩ := c.def_ 14 (d := dd "_law_landings" st__law_landings) rfl
  have m__law_landings := He.glo_ok X G (c.fact 14 (f := .glo "_law_landings") rfl)
  obtain ⟨fd__law_floors, F__law_floors⟩ := c.def_ 15 (d := dd "_law_floors" st__law_floors) rfl
  have m__law_floors := He.glo_ok X G (c.fact 15 (f := .glo "_law_floors") rfl)
  obtain ⟨fd__law_holds, F__law_holds⟩ := c.def_ 16 (d := dd "_law_holds" st__law_holds) rfl
  have m__law_holds := He.glo_ok X G (c.fact 16 (f := .glo "_law_holds") rfl)
  obtain ⟨fd__law_setting, F__law_setting⟩ := c.def_ 17 (d := dd "_law_setting" st__law_setting) rfl
  have m__law_setting := He.glo_ok X G (c.fact 17 (f := .glo "_law_setting") rfl)
  obtain ⟨fd_law, F_law⟩ := c.def_ 18 (d := dd "law" st_law) rfl
  have e := hfa.symm.trans (He.glo_ok X G (c.fact 18 (f := .glo "law") rfl))
  cases e
  have b := FunD.bindsA (ps := ["script"]) F_law fun _ _ _ _ _ _ us hl => match us, hl with | [_], _ => rfl
  refine ⟨C, fd_law, rfl, fun s v => b s [v] rfl, fun base _ _ => ?_⟩
  have there := ok_is_there (P := P) (w := w) (base := base) (k := 0) Z F_is_there m_is_there
  have iat := ok_is_at (P := P) (w := w) (base := base) (k := 0) Z F_is_at m_is_at
  have ilit := ok_is_lit_there (P := P) (w := w) (base := base) (k := 1) Z F_is_lit_there m_is_lit_there there
  have icar := ok_car_holds (P := P) (w := w) (base := base) (k := 1) Z F_car_holds m_car_holds there
  have atom := ok_atom_holds (P := P) (w := w) (base := base) (k := 2) Z F_atom_holds m_atom_holds (iat.mono (by omega)) (there.mono (by omega)) ilit icar
  have tr0 := (nv_is_true (P := P) (w := w) (base := base) (C := C) (k := 0) F_is_true m_is_true).mono (j := 3) (by omega)
  have tr1 := ok_is_true (k := 3) Z F_is_true m_is_true tr0 atom
  have tr2 := ok_is_true (k := 4) Z F_is_true m_is_true tr1 (atom.mono (by omega))
  have tr3 := ok_is_true (k := 5) Z F_is_true m_is_true tr2 (atom.mono (by omega))
  have tr4 := ok_is_true (k := 6) Z F_is_true m_is_true tr3 (atom.mono (by omega))
  have hold := ok_holds (k := 7) Z F_holds m_holds tr4
  have flo := ok__law_floors (P := P) (w := w) (base := base) (k := 0) Z F__law_floors m__law_floors
  have lh0 := nv__law_holds (P := P) (w := w) (base := base) (C := C) (k := 0) F__law_holds m__law_holds
  have lh1 := ok__law_holds (k := 1) Z F__law_holds m__law_holds lh0 flo
  have lh2 := ok__law_holds (k := 2) Z F__law_holds m__law_holds lh1 (flo.mono (by omega))
  have lh3 := ok__law_holds (k := 3) Z F__law_holds m__law_holds lh2 (flo.mono (by omega))
  have lh4 := ok__law_holds (k := 4) Z F__law_holds m__law_holds lh3 (flo.mono (by omega))
  have draw := ok__law_draw (P := P) (w := w) (base := base) (k := 0) Z F__law_draw m__law_draw
  have pick := ok__law_pick (k := 1) Z F__law_pick m__law_pick draw
  have anya := ok__law_any_atom (k := 2) Z F__law_any_atom m__law_any_atom (draw.mono (by omega)) pick
  have cn0 := (nv__law_drawn_condition (P := P) (w := w) (base := base) (C := C) (k := 0) F__law_drawn_condition m__law_drawn_condition).mono (j := 3) (by omega)
  have cn1 := ok__law_drawn_condition (k := 3) Z F__law_drawn_condition m__law_drawn_condition (draw.mono (by omega)) anya cn0 (pick.mono (by omega))
  have cn2 := ok__law_drawn_condition (k := 4) Z F__law_drawn_condition m__law_drawn_condition (draw.mono (by omega)) (anya.mono (by omega)) cn1 (pick.mono (by omega))
  have land := ok__law_landings (P := P) (w := w) (base := base) (k := 0) Z F__law_landings m__law_landings
  have sight := ok__law_drawn_sight (k := 2) Z F__law_drawn_sight m__law_drawn_sight (draw.mono (by omega)) (land.mono (by omega)) pick
  have pen := ok__law_pen (P := P) (w := w) (base := base) (k := 0) Z F__law_pen m__law_pen
  have setg := ok__law_setting (k := 2) Z F__law_setting m__law_setting (draw.mono (by omega)) pick
  have is0 := nv__law_is (P := P) (w := w) (base := base) (C := C) (k := 0) F__law_is m__law_is
  have is1 := ok__law_is (k := 1) Z F__law_is m__law_is is0
  exact okf_law (k := 8) Z F_law (pen.mono (by omega)) (setg.mono (by omega)) (sight.mono (by omega)) (pick.mono (by omega)) (cn2.mono (by omega)) (is1.mono (by omega)) hold (lh4.mono (by omega)) (anya.mono (by omega))
end K03
open PySem PySem.W PySem.Calls PyProof.Rows
theorem PySem.Challenge.cw_everylanding_k03_conditions_hold_holds : PySem.Challenge.rw_everylanding_k03_conditions_hold.Holds := by
  w_on; o_law
  refine HandSHeadRun.head_any (r := OpenLaw.row PySem.Challenge.rw_everylanding_k03_conditions_hold) (q := view (OpenLaw.row PySem.Challenge.rw_everylanding_k03_conditions_hold).prog [21]) (H := K03.hk) (ob := K03.ob) (M := 3000) (loose := ["is_true", "atom_holds", "is_at", "is_there", "is_lit_there", "car_holds", "holds", "_law_any_atom", "_law_drawn_condition", "_law_drawn_sight", "_law_pen", "_law_draw", "_law_pick", "_law_is", "_law_landings", "_law_floors", "_law_holds", "_law_setting"]) (d := HandSHeadRun.topDef (OpenLaw.row PySem.Challenge.rw_everylanding_k03_conditions_hold).prog 21) (kwd := []) K03.ob_eq
    (by kernel_rfl) (fun s => by kernel_rfl) K03.run (by kernel_rfl) (by kernel_rfl) (by kernel_rfl) (by rfl) (by first | assumption | decide +kernel) (by decide +kernel) ⟨rfl, rfl, rfl, rfl, rfl, by decide +kernel⟩ ?hw ?hc
  case hw => w_witness2
  case hc =>
    refine EL.walk_w (lw := PySem.Challenge.rw_everylanding_k03_conditions_hold) (top := 63) (lev := 9) (x := "script") (fun wd => L2.CX (PySem.Challenge.rw_everylanding_k03_conditions_hold).prog wd) rfl (by decide) (by kernel_rfl) ⟨rfl, by decide, by decide⟩ ?F (fun _ _ _ _ _ z => EL.cx_no z)
    intro wd mg at_ hp Y G hmg0
    obtain ⟨Kf, kx, c⟩ := Y
    have hmg : mg ("law" : PySem.Str) = some (.ref at_) := by
      have e : (HandSHeadRun.topDef (OpenLaw.row PySem.Challenge.rw_everylanding_k03_conditions_hold).prog 21).name = ("law" : PySem.Str) := by kernel_rfl
      rw [← e]
      exact hmg0
    obtain ⟨C, fd, hK, hb, hF⟩ := K03.facts (P := (PySem.Challenge.rw_everylanding_k03_conditions_hold).prog) (w := wd) kx G hmg c
    exact ⟨Kf, fd, EL.spD C 1 none .pu K03.fLaw, kx, hb, fun Ha a zs hl hO hS => EL.script_ok hl hO (by rw [hK]; exact hS) (K03.law_ok zs), hF⟩
