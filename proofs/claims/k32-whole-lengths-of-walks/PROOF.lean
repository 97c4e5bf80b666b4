import PyProof.Rows.All
import Wide.All
import OpenK.AllK
import Wide.FinOn
import HandS.ForMost
import HandS.ForExc
import HandS.CallSlots
import HandS.Defaults
import HandS.Zip
import HandS.TupAny
import HandS.IsInst
import HandS.Deep
import HandS.Style
import KE.LtData
import KE.KTupSum
import HandS.Small
import HandS.NoneIn
import KE.GoesMore
import KE.GoesEnum
import HandS.Conv
import HandS.HeadEnd
import HandS.EndBits
import HandS.DictComp
import HandS.DictTup
import HandS.SortRule
import KE.SortUse
import KE.KStateDown
import HandS.Ends
import HandS.More
import HandS.Words
import HandS.WordsExc
import HandS.Head0
import HandS.Head1
import HandS.Head2
import HandS.HeadHook1
import HandS.HeadHook2
import HandS.HeadHook4
import PySem.Challenge.RW_everylanding_k32_whole_lengths_of_walks
set_option Elab.async false
set_option linter.all false
set_option maxRecDepth 100000
set_option autoImplicit false
/-! EL: a functional reading of a Python subset over HandS. -/
namespace EL
open PySem PySem.Spec PyProof.Rows
open L2 hiding XE

/-- plain values: what a Python value is worth, without addresses -/
inductive D where
  | non | bl (b : Bool) | int (i : Int) | str (x : Str)
  | tup (ds : List D) | lst (ds : List D) | scr (ds : List D)
  | ice (ds : List D)
  | dic (kvs : List (Key × D))
  | ins (c : String) (fs : List (Str × D))
  | obj (c : String) (fs : List (Str × D))

inductive Kd where | pl | par | own | io | bw
  deriving DecidableEq

/-- what is written, where the classes stand, which ones never change -/
structure Core where
  K : PySem.W.Frag
  cm : String → Addr
  fz : Addr → Prop
/-- the static part of a reading -/
structure Sig where
  c : Core
  kd : Nat → Kd
  n : Nat
  fin : ∀ i, n ≤ i → kd i ≠ .bw
/-- the slots' kinds by a list -/
def kdOf (l : List Kd) (i : Nat) : Kd := l.getD i .pl
def sg (C : Core) (l : List Kd) : Sig := ⟨C, kdOf l, l.length, fun i h => by unfold kdOf; rw [List.getD_eq_getElem?_getD, List.getElem?_eq_none h]; intro z; cases z⟩

/-- a list that is only read: frozen, or the module's own -/
def SqR (K : PySem.W.Frag) (H : Hp) (a : Addr) (vs : List V) : Prop :=
  (∃ o, H a = some (.frz o (.lst vs))) ∨ ∃ (ob : Obj) (us : Array Value) (k : Nat), K.lookup a = some ob ∧ ob.cls = .type "list" ∧ ob.dict = none ∧ ob.data = .seq us k ∧ us.size ≤ sizeLine ∧ Vals vs us.toList
theorem SqR.toL {K : PySem.W.Frag} {H : Hp} {a : Addr} {vs : List V} (h : SqR K H a vs) : SqL K H a vs := h.elim (fun h => .inl (.inr h)) .inr
theorem SqR.keep {K : PySem.W.Frag} {H H2 : Hp} {a : Addr} {vs : List V} (h : SqR K H a vs) (k : ∀ o u, H a = some (.frz o u) → H2 a = some (.frz o u)) : SqR K H2 a vs := h.elim (fun ⟨o, h⟩ => .inl ⟨o, k _ _ h⟩) .inr
mutual
/-- d is what v is worth in H; F: the addresses of its mutable parts -/
inductive Rep (S : Core) (R : Addr → Prop) (H : Hp) : D → V → List Addr → Prop
  | non : Rep S R H .non .non []
  | bl (b : Bool) : Rep S R H (.bl b) (.bl b) []
  | int (i : Int) : Rep S R H (.int i) (.int i) []
  | str (x : Str) : Rep S R H (.str x) (.str x) []
  | tup {ds : List D} {a : Addr} {vs : List V} {F : List Addr} (h : SqT S.K H a vs) (l : vs.length ≤ sizeLine) (r : Reps S R H ds vs F) : Rep S R H (.tup ds) (.ref a) F
  | lst {ds : List D} {a : Addr} {vs : List V} {F : List Addr} (h : H a = some (.lst vs)) (l : vs.length ≤ sizeLine) (r : Reps S R H ds vs F) : Rep S R H (.lst ds) (.ref a) (a :: F)
  | scr {ds : List D} {a : Addr} {vs : List V} {F : List Addr} (h : SqR S.K H a vs) (l : vs.length ≤ sizeLine) (r : Reps S R H ds vs F) : Rep S R H (.scr ds) (.ref a) F
  | ice {ds : List D} {a : Addr} {vs : List V} {F : List Addr} {o : Obj} (h : H a = some (.frz o (.lst vs))) (l : vs.length ≤ sizeLine) (r : Reps S R H ds vs F) : Rep S R H (.ice ds) (.ref a) F
  | dic {kvs : List (Key × D)} {a : Addr} {ws : List (Key × V)} {F : List Addr} (h : H a = some (.dK ws)) (l : ws.length ≤ sizeLine) (e : ws.map (·.1) = kvs.map (·.1)) (r : Reps S R H (kvs.map (·.2)) (ws.map (·.2)) F) : Rep S R H (.dic kvs) (.ref a) (a :: F)
  | ins {c : String} {fs : List (Str × D)} {a dx : Addr} {ws : List (Str × V)} {F : List Addr} (h : H a = some (.ins (S.cm c) dx ws)) (z : S.fz (S.cm c)) (n : ¬ R a) (e : ws.map (·.1) = fs.map (·.1)) (r : Reps S R H (fs.map (·.2)) (ws.map (·.2)) F) : Rep S R H (.ins c fs) (.ref a) F
  | obj {c : String} {fs : List (Str × D)} {a dx : Addr} {ws : List (Str × V)} {F : List Addr} (h : H a = some (.ins (S.cm c) dx ws)) (n : ¬ S.fz (S.cm c) ∨ R a) (e : ws.map (·.1) = fs.map (·.1)) (r : Reps S R H (fs.map (·.2)) (ws.map (·.2)) F) : Rep S R H (.obj c fs) (.ref a) (a :: F)
inductive Reps (S : Core) (R : Addr → Prop) (H : Hp) : List D → List V → List Addr → Prop
  | nil : Reps S R H [] [] []
  | cons {d : D} {v : V} {F : List Addr} {ds : List D} {vs : List V} {G : List Addr} (r : Rep S R H d v F) (t : Reps S R H ds vs G) : Reps S R H (d :: ds) (v :: vs) (F ++ G)
end

/-- what may change -/
def Mu (S : Core) (R : Addr → Prop) : HO → Addr → Prop
  | .lst _, _ => True
  | .dK _, _ => True
  | .ins C _ _, a => ¬ S.fz C ∨ R a
  | _, _ => False

section
variable {S : Core} {R : Addr → Prop} {H H' : Hp}
theorem sqT_keep {K : PySem.W.Frag} {a : Addr} {xs : List V} (k : ∀ o, H a = some o → H' a = some o) (h : SqT K H a xs) : SqT K H' a xs := by
  rcases h with (h | ⟨o, h⟩) | h
  · exact .inl (.inl (k _ h))
  · exact .inl (.inr ⟨o, k _ h⟩)
  · exact .inr h
mutual
/-- a reading stands where its objects stand -/
theorem Rep.keep {d : D} {v : V} {F : List Addr} (k : ∀ a o, H a = some o → (¬ Mu S R o a ∨ a ∈ F) → H' a = some o) : Rep S R H d v F → Rep S R H' d v F
  | .non => .non
  | .bl b => .bl b
  | .int i => .int i
  | .str x => .str x
  | .tup h l r => .tup (by
      rcases h with (h | ⟨o, h⟩) | h
      · exact .inl (.inl (k _ _ h (.inl fun z => z)))
      · exact .inl (.inr ⟨o, k _ _ h (.inl fun z => z)⟩)
      · exact .inr h) l (Reps.keep k r)
  | .lst h l r => .lst (k _ _ h (.inr (by simp))) l (Reps.keep (fun a o e z => k a o e (z.imp id fun m => by simp [m])) r)
  | .scr h l r => .scr (h.keep fun o u q => k _ _ q (.inl fun z => z)) l (Reps.keep k r)
  | .ice h l r => .ice (k _ _ h (.inl fun z => z)) l (Reps.keep k r)
  | .dic h l e r => .dic (k _ _ h (.inr (by simp))) l e (Reps.keep (fun a o e z => k a o e (z.imp id fun m => by simp [m])) r)
  | .ins h z n e r => .ins (k _ _ h (.inl fun q => q.elim (fun q => q z) n)) z n e (Reps.keep k r)
  | .obj h n e r => .obj (k _ _ h (.inr (by simp))) n e (Reps.keep (fun a o e z => k a o e (z.imp id fun m => by simp [m])) r)
theorem Reps.keep {ds : List D} {vs : List V} {F : List Addr} (k : ∀ a o, H a = some o → (¬ Mu S R o a ∨ a ∈ F) → H' a = some o) : Reps S R H ds vs F → Reps S R H' ds vs F
  | .nil => .nil
  | .cons r t => .cons (Rep.keep (fun a o e z => k a o e (z.imp id fun m => by simp [m])) r) (Reps.keep (fun a o e z => k a o e (z.imp id fun m => by simp [m])) t)
end
theorem Rep.same {d : D} {v : V} {F : List Addr} (r : Rep S R H d v F) (k : Same H H') : Rep S R H' d v F := r.keep fun a o e _ => k a o e
theorem Reps.same {ds : List D} {vs : List V} {F : List Addr} (r : Reps S R H ds vs F) (k : Same H H') : Reps S R H' ds vs F := r.keep fun a o e _ => k a o e
mutual
/-- the mutable parts stand in H -/
theorem Rep.mem {d : D} {v : V} {F : List Addr} : Rep S R H d v F → ∀ a ∈ F, ∃ o, H a = some o ∧ Mu S R o a
  | .non => by simp
  | .bl b => by simp
  | .int i => by simp
  | .str x => by simp
  | .tup h l r => Reps.mem r
  | .lst h l r => fun a m => by
      rcases List.mem_cons.mp m with rfl | m
      · exact ⟨_, h, trivial⟩
      · exact Reps.mem r a m
  | .scr h l r => Reps.mem r
  | .ice h l r => Reps.mem r
  | .dic h l e r => fun a m => by
      rcases List.mem_cons.mp m with rfl | m
      · exact ⟨_, h, trivial⟩
      · exact Reps.mem r a m
  | .ins h z n e r => Reps.mem r
  | .obj h n e r => fun a m => by
      rcases List.mem_cons.mp m with rfl | m
      · exact ⟨_, h, n⟩
      · exact Reps.mem r a m
theorem Reps.mem {ds : List D} {vs : List V} {F : List Addr} : Reps S R H ds vs F → ∀ a ∈ F, ∃ o, H a = some o ∧ Mu S R o a
  | .nil => by simp
  | .cons r t => fun a m => by
      rcases List.mem_append.mp m with m | m
      · exact Rep.mem r a m
      · exact Reps.mem t a m
end
theorem Reps.length {ds : List D} {vs : List V} {F : List Addr} : Reps S R H ds vs F → ds.length = vs.length
  | .nil => rfl
  | .cons r t => by simp [Reps.length t]
theorem Reps.get {ds : List D} {vs : List V} {F : List Addr} {i : Nat} {d : D} : Reps S R H ds vs F → ds[i]? = some d → ∃ v G A B, vs[i]? = some v ∧ Rep S R H d v G ∧ F = A ++ G ++ B
  | .nil, e => by simp at e
  | .cons (F := F) (G := G) r t, e => by
      cases i with
      | zero => simp at e; subst e; exact ⟨_, F, [], G, rfl, r, by simp⟩
      | succ i =>
        obtain ⟨v, Q, A, B, h1, h2, h3⟩ := Reps.get (i := i) t (by simpa using e)
        exact ⟨v, Q, F ++ A, B, by simpa using h1, h2, by rw [h3]; simp⟩
theorem Reps.app {ds es : List D} {vs ws : List V} {F G : List Addr} : Reps S R H ds vs F → Reps S R H es ws G → Reps S R H (ds ++ es) (vs ++ ws) (F ++ G)
  | .nil, s => s
  | .cons r t, s => by rw [List.append_assoc]; exact .cons r (Reps.app t s)
end

/-! ### plain values -/
mutual
/-- nothing of it can change -/
def pureD : D → Bool
  | .non => true | .bl _ => true | .int _ => true | .str _ => true
  | .tup ds => pureDs ds
  | .ice ds => pureDs ds
  | .lst _ => false | .scr _ => false | .dic _ => false | .obj _ _ => false
  | .ins _ fs => pureFs fs
def pureDs : List D → Bool
  | [] => true
  | d :: ds => pureD d && pureDs ds
def pureFs : List (Str × D) → Bool
  | [] => true
  | (_, d) :: ds => pureD d && pureFs ds
end
theorem pureFs_eq : ∀ fs : List (Str × D), pureFs fs = pureDs (fs.map (·.2))
  | [] => rfl
  | (_, d) :: fs => by simp [pureFs, pureDs, pureFs_eq fs]
section
variable {S : Core} {R : Addr → Prop} {H H' : Hp}
mutual
theorem Rep.pure {d : D} {v : V} {F : List Addr} : Rep S R H d v F → pureD d = true → F = []
  | .non, _ => rfl
  | .bl b, _ => rfl
  | .int i, _ => rfl
  | .str x, _ => rfl
  | .tup h l r, p => Reps.pure r (by simpa [pureD] using p)
  | .lst h l r, p => by simp [pureD] at p
  | .scr h l r, p => by simp [pureD] at p
  | .ice h l r, p => Reps.pure r (by simpa [pureD] using p)
  | .dic h l e r, p => by simp [pureD] at p
  | .ins h z n e r, p => Reps.pure r (by rw [← pureFs_eq]; simpa [pureD] using p)
  | .obj h n e r, p => by simp [pureD] at p
theorem Reps.pure {ds : List D} {vs : List V} {F : List Addr} : Reps S R H ds vs F → pureDs ds = true → F = []
  | .nil, _ => rfl
  | .cons r t, p => by
    simp only [pureDs, Bool.and_eq_true] at p
    rw [Rep.pure r p.1, Reps.pure t p.2]; rfl
end
end

/-! ### environments -/
abbrev Env := List (Option D)
structure Base where
  R : Addr → Prop
  P0 : Addr → Prop
  H0 : Hp
  iv : Nat → V
  Fp : Nat → List Addr
  wf : ∀ i, ∀ a ∈ Fp i, P0 a
  rd : ∀ a, R a → ∃ o, H0 a = some o
/-- slot i holds something that may be changed here -/
def Own (S : Sig) (ρ : Env) (i : Nat) : Prop := (S.kd i = .own ∨ S.kd i = .io) ∧ ∃ d, ρ[i]? = some (some d)
structure EnvR (S : Sig) (B : Base) (ρ : Env) (σ : L2.St) (Fs : Nat → List Addr) (H : Hp) : Prop where
  len : ρ.length = σ.length
  slot : ∀ i d, ρ[i]? = some (some d) → ∃ v, σ[i]? = some (some v) ∧ Rep S.c B.R H d v (Fs i)
  pl : ∀ i d, ρ[i]? = some (some d) → S.kd i = .pl → Fs i = []
  par : ∀ i d, ρ[i]? = some (some d) → S.kd i = .par → Fs i = B.Fp i ∧ σ[i]? = some (some (B.iv i))
  bw : ∀ i d, ρ[i]? = some (some d) → S.kd i = .bw → ∀ a ∈ Fs i, B.P0 a
  own : ∀ i, Own S ρ i → (Fs i).Nodup ∧ ∀ a ∈ Fs i, ¬ B.P0 a
  dis : ∀ i j, Own S ρ i → Own S ρ j → i ≠ j → ∀ a ∈ Fs i, a ∉ Fs j
  iov : ∀ i, Own S ρ i → S.kd i = .io → σ[i]? = some (some (B.iv i))
  prot : ∀ a o, B.P0 a ∨ ¬ Mu S.c B.R o a → B.H0 a = some o → H a = some o
  pdom : ∀ a, B.P0 a → ∃ o, B.H0 a = some o
  tr : ∀ a o, B.H0 a = some o → ∃ u, H a = some u
/-- what a piece of a run does to the heap -/
structure Step (S : Sig) (eff : Bool) (ρ : Env) (Fs : Nat → List Addr) (H : Hp) (ρ' : Env) (Fs' : Nat → List Addr) (H' : Hp) : Prop where
  chg : ∀ a o, H a = some o → H' a = some o ∨ ∃ i, Own S ρ i ∧ a ∈ Fs i
  grow : ∀ i a, Own S ρ' i → a ∈ Fs' i → H a = none ∨ ∃ j, Own S ρ j ∧ a ∈ Fs j
  dom : ∀ a, H' a = none → H a = none
  noeff : eff = false → ρ' = ρ ∧ (∀ i, Own S ρ i → Fs' i = Fs i) ∧ Same H H'
section
variable {S : Sig} {e1 e2 : Bool} {ρ ρ1 ρ2 : Env} {Fs Fs1 Fs2 : Nat → List Addr} {H H1 H2 : Hp}
theorem Step.refl {e : Bool} : Step S e ρ Fs H ρ Fs H := ⟨fun _ _ h => .inl h, fun i a o m => .inr ⟨i, o, m⟩, fun _ h => h, fun _ => ⟨rfl, fun _ _ => rfl, Same.refl _⟩⟩
theorem Same.dom {H H1 : Hp} (k : Same H H1) {a : Addr} (h : H1 a = none) : H a = none := k.free h
theorem Step.of_same {e : Bool} (k : Same H H1) : Step S e ρ Fs H ρ Fs H1 := ⟨fun _ _ h => .inl (k _ _ h), fun i a o m => .inr ⟨i, o, m⟩, fun _ h => k.free h, fun _ => ⟨rfl, fun _ _ => rfl, k⟩⟩
theorem Step.trans (s : Step S e1 ρ Fs H ρ1 Fs1 H1) (t : Step S e2 ρ1 Fs1 H1 ρ2 Fs2 H2) : Step S (e1 || e2) ρ Fs H ρ2 Fs2 H2 where
  chg := fun a o h => by
    rcases s.chg a o h with h1 | h1
    · rcases t.chg a o h1 with h2 | ⟨i, oi, m⟩
      · exact .inl h2
      · rcases s.grow i a oi m with n | q
        · rw [h] at n; cases n
        · exact .inr q
    · exact .inr h1
  grow := fun i a oi m => by
    rcases t.grow i a oi m with n | ⟨j, oj, mj⟩
    · exact .inl (s.dom a n)
    · exact s.grow j a oj mj
  dom := fun a h => s.dom a (t.dom a h)
  noeff := fun h => by
    simp only [Bool.or_eq_false_iff] at h
    obtain ⟨rfl, q, k⟩ := s.noeff h.1
    obtain ⟨rfl, q', k'⟩ := t.noeff h.2
    exact ⟨rfl, fun i o => (q' i o).trans (q i o), k.trans k'⟩
theorem Step.weak {e : Bool} (s : Step S e ρ Fs H ρ1 Fs1 H1) (h : e1 = false → e = false) : Step S e1 ρ Fs H ρ1 Fs1 H1 := ⟨s.chg, s.grow, s.dom, fun z => s.noeff (h z)⟩
end

/-- how a value stands to the slots: anyhow; within what is protected or the slots T; new; nothing to change in it -/
inductive Md where | bo | al (T : List Nat) | fr | pu
def MdOk (S : Sig) (B : Base) (m : Md) (ρ : Env) (Fs : Nat → List Addr) (H : Hp) (ρ' : Env) (Fs' : Nat → List Addr) (F : List Addr) : Prop :=
  match m with
  | .bo => True
  | .al T => ∀ a ∈ F, B.P0 a ∨ ∃ i ∈ T, Own S ρ' i ∧ a ∈ Fs' i
  | .fr => F.Nodup ∧ (∀ a ∈ F, H a = none ∨ ∃ j, Own S ρ j ∧ a ∈ Fs j) ∧ ∀ i, Own S ρ' i → ∀ a ∈ F, a ∉ Fs' i
  | .pu => F = []
/-- a value's parts are apart from all that may change -/
def Md.sep : Md → Bool
  | .bo => false | .al T => T.isEmpty | .fr => true | .pu => true
structure Post (S : Sig) (B : Base) (m : Md) (eff : Bool) (σ : L2.St) (ρ : Env) (Fs : Nat → List Addr) (H : Hp) (ρ' : Env) (d : D) (v : V) (H' : Hp) (Fs' : Nat → List Addr) (F : List Addr) : Prop where
  env : EnvR S B ρ' σ Fs' H'
  rep : Rep S.c B.R H' d v F
  step : Step S eff ρ Fs H ρ' Fs' H'
  md : MdOk S B m ρ Fs H ρ' Fs' F
/-- how a piece of a run ends: a value and the slots; an error with its fields; not told -/
inductive Rs (α : Type) where
  | ok (a : α) (ρ : Env)
  | er (c : String) (fs : List (Str × D)) (ρ : Env)
  | st
abbrev M (α : Type) := Env → Rs α
def bindR {α β : Type} (r : Rs α) (f : α → Env → Rs β) : Rs β := match r with
  | .ok a ρ => f a ρ
  | .er c fs ρ => .er c fs ρ
  | .st => .st
/-- an exception with its fields -/
def XdOk (S : Core) (R : Addr → Prop) (H : Hp) (fs : List (Str × D)) (dd : Option Addr) : Prop :=
  fs = [] ∨ ∃ (a : Addr) (ws : List (Str × V)) (F : List Addr), dd = some a ∧ H a = some (.xd ws) ∧ ws.map (·.1) = fs.map (·.1) ∧ Reps S R H (fs.map (·.2)) (ws.map (·.2)) F
def ErW (S : Sig) (B : Base) (W : WX) (c : String) (fs : List (Str × D)) (ρ' : Env) : Prop :=
  ∀ (σ' : L2.St) (Fs' : Nat → List Addr) (H' : Hp) (dd : Option Addr), EnvR S B ρ' σ' Fs' H' → XdOk S.c B.R H' fs dd → W (.ref (S.c.cm c)) dd σ' H'
def Wn {α : Type} (Er : String → List (Str × D) → Env → Prop) (P : α → Env → Prop) : Rs α → Prop
  | .ok a ρ => P a ρ
  | .er c fs ρ => Er c fs ρ
  | .st => False
theorem Wn.imp {α : Type} {Er : String → List (Str × D) → Env → Prop} {P P' : α → Env → Prop} {r : Rs α} (h : Wn Er P r) (k : ∀ a ρ, r = .ok a ρ → P a ρ → P' a ρ) : Wn Er P' r := by
  cases r with
  | ok a ρ => exact k a ρ rfl h
  | er c fs ρ => exact h
  | st => exact h
theorem Wn.bind {α β : Type} {Er : String → List (Str × D) → Env → Prop} {P : β → Env → Prop} {r : Rs α} {f : α → Env → Rs β} (h : Wn Er P (bindR r f)) : Wn Er (fun a ρ => Wn Er P (f a ρ)) r := by
  cases r with
  | ok a ρ => exact h
  | er c fs ρ => exact h
  | st => exact h
/-- the reading t is what ev tells -/
def RE (S : Sig) (W : WX) (m : Md) (eff : Bool) (ev : M D) (t : TE) : Prop :=
  ∀ (B : Base) (ρ : Env) (σ : L2.St) (Fs : Nat → List Addr) (H : Hp) (Q : VK), EnvR S B ρ σ Fs H →
    Wn (ErW S B W) (fun d ρ' => ∀ v H' Fs' F, Post S B m eff σ ρ Fs H ρ' d v H' Fs' F → Q v H') (ev ρ) → t σ H Q
structure XE (X : Cx) (S : Sig) (W : WX) (e : Expr) (m : Md) (eff : Bool) (ev : M D) : Prop where
  ex : ∃ t, PE X e t ∧ RE S W m eff ev t
/-- .. of several values -/
structure PostA (S : Sig) (B : Base) (m : Md) (eff : Bool) (σ : L2.St) (ρ : Env) (Fs : Nat → List Addr) (H : Hp) (ρ' : Env) (ds : List D) (vs : List V) (H' : Hp) (Fs' : Nat → List Addr) (F : List Addr) : Prop where
  env : EnvR S B ρ' σ Fs' H'
  rep : Reps S.c B.R H' ds vs F
  step : Step S eff ρ Fs H ρ' Fs' H'
  md : MdOk S B m ρ Fs H ρ' Fs' F
def RA (S : Sig) (W : WX) (m : Md) (eff : Bool) (ev : M (List D)) (t : TA) : Prop :=
  ∀ (B : Base) (ρ : Env) (σ : L2.St) (Fs : Nat → List Addr) (H : Hp) (Q : List V → Hp → Prop), EnvR S B ρ σ Fs H →
    Wn (ErW S B W) (fun ds ρ' => ∀ vs H' Fs' F, PostA S B m eff σ ρ Fs H ρ' ds vs H' Fs' F → Q vs H') (ev ρ) → t σ H Q
structure XA (X : Cx) (S : Sig) (W : WX) (es : List Expr) (m : Md) (eff : Bool) (ev : M (List D)) : Prop where
  ex : ∃ t, PA X es t ∧ RA S W m eff ev t
  len : ∀ ρ ds ρ', ev ρ = .ok ds ρ' → ds.length = es.length
def RT (S : Sig) (W : WX) (eff : Bool) (ev : M Bool) (t : TT) : Prop :=
  ∀ (B : Base) (ρ : Env) (σ : L2.St) (Fs : Nat → List Addr) (H : Hp) (Q : Bool → Hp → Prop), EnvR S B ρ σ Fs H →
    Wn (ErW S B W) (fun b ρ' => ∀ H' Fs', EnvR S B ρ' σ Fs' H' → Step S eff ρ Fs H ρ' Fs' H' → Q b H') (ev ρ) → t σ H Q
structure XT (X : Cx) (S : Sig) (W : WX) (e : Expr) (eff : Bool) (ev : M Bool) : Prop where
  ex : ∃ t, PT X e t ∧ RT S W eff ev t
structure XW (X : Cx) (S : Sig) (W : WX) (e : Expr) (eff : Bool) (ev : M Bool) : Prop where
  ex : ∃ t, PW X e t ∧ RT S W eff ev t
/-- what an operation on values gives -/
structure VP (S : Core) (R : Addr → Prop) (m : Md) (H : Hp) (d : D) (v : V) (H' : Hp) (F : List Addr) : Prop where
  same : Same H H'
  rep : Rep S R H' d v F
  md : match m with | .pu => F = [] | .fr => F.Nodup ∧ ∀ a ∈ F, H a = none | .bo => True | .al _ => False
/-- an operation of two values is told by g -/
def Op2 (S : Core) (r : R2) (g : D → D → Option D) (m : Md) : Prop := ∀ (R : Addr → Prop) (H : Hp) (d1 d2 d : D) (x y : V) (F1 F2 : List Addr) (Q : VK),
  Rep S R H d1 x F1 → Rep S R H d2 y F2 → g d1 d2 = some d → (∀ v H' F, VP S R m H d v H' F → Q v H') → r x y H Q
def Op1 (S : Core) (r : V → Hp → VK → Prop) (g : D → Option D) (m : Md) : Prop := ∀ (R : Addr → Prop) (H : Hp) (d1 d : D) (x : V) (F1 : List Addr) (Q : VK),
  Rep S R H d1 x F1 → g d1 = some d → (∀ v H' F, VP S R m H d v H' F → Q v H') → r x H Q
def OpN (S : Core) (r : List V → Hp → VK → Prop) (g : List D → Option D) (m : Md) : Prop := ∀ (R : Addr → Prop) (H : Hp) (ds : List D) (d : D) (xs : List V) (F1 : List Addr) (Q : VK),
  Reps S R H ds xs F1 → g ds = some d → (∀ v H' F, VP S R m H d v H' F → Q v H') → r xs H Q
end EL

namespace EL
open PySem PySem.Spec PyProof.Rows
open L2 hiding XE
section
variable {X : Cx} {S : Sig} {B : Base} {m m1 m2 : Md} {e1 e2 : Bool} {σ : L2.St} {ρ ρ1 ρ' : Env} {Fs Fs1 Fs' : Nat → List Addr} {H H1 H' : Hp} {d : D} {v : V} {F : List Addr}

theorem EnvR.rdH (I : EnvR S B ρ σ Fs H) {a : Addr} (h : B.R a) : ∃ o, H a = some o := let ⟨o, q⟩ := B.rd a h; I.tr a o q
theorem EnvR.fresh (I : EnvR S B ρ σ Fs H) {a : Addr} (h : H a = none) : ¬ B.P0 a := fun p => by
  obtain ⟨o, q⟩ := I.pdom a p
  rw [I.prot a o (.inl p) q] at h; cases h
theorem EnvR.parP (I : EnvR S B ρ σ Fs H) {i : Nat} (e : ρ[i]? = some (some d)) (h : S.kd i = .par) : ∀ a ∈ Fs i, B.P0 a := fun a ha => B.wf i a (by rw [← (I.par i d e h).1]; exact ha)
theorem EnvR.mem (I : EnvR S B ρ σ Fs H) {i : Nat} (o : Own S ρ i) {a : Addr} (m : a ∈ Fs i) : ∃ u, H a = some u ∧ Mu S.c B.R u a := by
  obtain ⟨d, e⟩ := o.2
  obtain ⟨v, _, r⟩ := I.slot i d e
  exact r.mem a m
/-- nothing but new objects -/
theorem EnvR.same (I : EnvR S B ρ σ Fs H) (k : Same H H') : EnvR S B ρ σ Fs H' :=
  ⟨I.len, fun i d e => by obtain ⟨v, h, r⟩ := I.slot i d e; exact ⟨v, h, r.same k⟩, I.pl, I.par, I.bw, I.own, I.dis, I.iov, fun a o p q => k _ _ (I.prot a o p q), I.pdom, fun a o q => let ⟨u, z⟩ := I.tr a o q; ⟨u, k _ _ z⟩⟩
theorem Step.keeps (I : EnvR S B ρ σ Fs H) (s : Step S e1 ρ Fs H ρ1 Fs1 H1) (h : ∀ a ∈ F, ∀ i, Own S ρ i → a ∉ Fs i) : ∀ a o, H a = some o → (¬ Mu S.c B.R o a ∨ a ∈ F) → H1 a = some o := fun a o e z => by
  rcases s.chg a o e with q | ⟨i, oi, m⟩
  · exact q
  · rcases z with z | z
    · obtain ⟨u, e2, mu⟩ := I.mem oi m
      rw [e] at e2; cases e2
      exact absurd mu z
    · exact absurd m (h a z i oi)
/-- a value that is apart stands behind a step -/
theorem Rep.step (r : Rep S.c B.R H d v F) (I : EnvR S B ρ σ Fs H) (s : Step S e1 ρ Fs H ρ1 Fs1 H1) (h : ∀ a ∈ F, ∀ i, Own S ρ i → a ∉ Fs i) : Rep S.c B.R H1 d v F := r.keep (s.keeps I h)
theorem Reps.step {ds : List D} {vs : List V} (r : Reps S.c B.R H ds vs F) (I : EnvR S B ρ σ Fs H) (s : Step S e1 ρ Fs H ρ1 Fs1 H1) (h : ∀ a ∈ F, ∀ i, Own S ρ i → a ∉ Fs i) : Reps S.c B.R H1 ds vs F := r.keep (s.keeps I h)
theorem MdOk.apart (I : EnvR S B ρ' σ Fs' H') (h : MdOk S B m ρ Fs H ρ' Fs' F) (z : m.sep = true) : ∀ a ∈ F, ∀ i, Own S ρ' i → a ∉ Fs' i := by
  intro a ha i oi q
  cases m with
  | bo => cases z
  | al T =>
    rcases h a ha with p | ⟨j, hj, _⟩
    · exact (I.own i oi).2 a q p
    · have : T = [] := by simpa [Md.sep] using z
      subst this; cases hj
  | fr => exact h.2.2 i oi a ha q
  | pu => rw [show F = [] from h] at ha; cases ha
/-- the first value behind the second one's step -/
theorem Post.over (p : Post S B m e1 σ ρ Fs H ρ1 d v H1 Fs1 F) (s : Step S e2 ρ1 Fs1 H1 ρ' Fs' H') (h : (!e2 || m.sep) = true) : Rep S.c B.R H' d v F := by
  cases e2 with
  | false => exact p.rep.same (s.noeff rfl).2.2
  | true => exact p.rep.step p.env s (p.md.apart p.env (by simpa using h))
theorem MdOk.of_nil : MdOk S B m ρ Fs H ρ' Fs' [] := by
  cases m with
  | bo => trivial
  | al T => intro a h; cases h
  | fr => exact ⟨List.nodup_nil, (by intro a h; cases h), (by intro _ _ a h; cases h)⟩
  | pu => rfl
/-- m stands above m' -/
def Md.le : Md → Md → Bool
  | .pu, _ => true
  | _, .bo => true
  | .fr, .fr => true
  | .al T, .al T' => T.all T'.contains
  | _, _ => false
theorem MdOk.le (h : MdOk S B m ρ Fs H ρ' Fs' F) (z : m.le m1 = true) : MdOk S B m1 ρ Fs H ρ' Fs' F := by
  cases m with
  | pu => rw [show F = [] from h]; exact MdOk.of_nil
  | bo => cases m1 <;> first | trivial | cases z
  | fr => cases m1 <;> first | trivial | exact h | cases z
  | al T =>
    cases m1 with
    | bo => trivial
    | al T' =>
      intro a ha
      rcases h a ha with p | ⟨i, hi, q⟩
      · exact .inl p
      · refine .inr ⟨i, ?_, q⟩
        have := List.all_eq_true.mp z i hi
        simpa using this
    | fr => cases z
    | pu => cases z
theorem XE.sub {W : WX} {e : Expr} {ev : M D} (h : XE X S W e m e1 ev) (z : m.le m1 = true := by rfl) (ze : (!e1 || e2) = true := by rfl) : XE X S W e m1 e2 ev := by
  obtain ⟨t, p, r⟩ := h.ex
  refine ⟨t, p, fun B ρ σ Fs H Q I he => r B ρ σ Fs H Q I (he.imp fun d ρ' _ k v H' Fs' F q => k v H' Fs' F ⟨q.env, q.rep, q.step.weak (fun z' => ?_), q.md.le z⟩)⟩
  subst z'; simpa using ze
/-- two modes together -/
def Md.join : Md → Md → Md
  | .pu, m => m
  | m, .pu => m
  | .fr, .fr => .fr
  | .al T, .al T' => .al (T ++ T')
  | _, _ => .bo
theorem MdOk.join {G : List Addr} {ρ2 : Env} {Fs2 : Nat → List Addr} {H2 : Hp} (I1 : EnvR S B ρ1 σ Fs1 H1) (s : Step S e1 ρ Fs H ρ1 Fs1 H1) (t : Step S e2 ρ1 Fs1 H1 ρ2 Fs2 H2) (h1 : MdOk S B m1 ρ Fs H ρ1 Fs1 F) (h2 : MdOk S B m2 ρ1 Fs1 H1 ρ2 Fs2 G)
    (rm : ∀ a ∈ F, ∃ u, H1 a = some u) (z : (!e2 || m1.sep) = true) : MdOk S B (m1.join m2) ρ Fs H ρ2 Fs2 (F ++ G) := by
  have frG : MdOk S B .fr ρ1 Fs1 H1 ρ2 Fs2 G → MdOk S B .fr ρ Fs H ρ2 Fs2 G := fun g => by
    refine ⟨g.1, fun a ha => ?_, g.2.2⟩
    rcases g.2.1 a ha with q | ⟨j, oj, mj⟩
    · exact .inl (s.dom a q)
    · exact s.grow j a oj mj
  have frF : MdOk S B .fr ρ Fs H ρ1 Fs1 F → MdOk S B .fr ρ Fs H ρ2 Fs2 F := fun g => by
    refine ⟨g.1, g.2.1, fun i oi a ha q => ?_⟩
    obtain ⟨u, hu⟩ := rm a ha
    rcases t.grow i a oi q with n | ⟨j, oj, mj⟩
    · rw [hu] at n; cases n
    · exact g.2.2 j oj a ha mj
  have alF : ∀ T, m1 = .al T → MdOk S B (.al T) ρ Fs H ρ2 Fs2 F := fun T e a ha => by
    subst e
    rcases h1 a ha with p | ⟨i, hi, oi, q⟩
    · exact .inl p
    · cases e2 with
      | false => obtain ⟨rfl, f, _⟩ := t.noeff rfl; exact .inr ⟨i, hi, oi, by rw [f i oi]; exact q⟩
      | true =>
        have : T = [] := by simpa [Md.sep] using z
        subst this; cases hi
  cases m1 with
  | pu =>
    rw [show F = [] from h1]
    cases m2 with
    | fr => exact frG h2
    | bo => trivial
    | al T => exact h2
    | pu => exact h2
  | bo => cases m2 <;> trivial
  | fr =>
    cases m2 with
    | pu => rw [show G = [] from h2, List.append_nil]; exact frF h1
    | fr =>
      have g := frG h2
      have f := frF h1
      refine ⟨List.nodup_append.mpr ⟨f.1, g.1, fun a ha b hb e => ?_⟩, fun a ha => ?_, fun i oi a ha => ?_⟩
      · subst e
        obtain ⟨u, hu⟩ := rm a ha
        rcases h2.2.1 a hb with n | ⟨j, oj, mj⟩
        · rw [hu] at n; cases n
        · exact h1.2.2 j oj a ha mj
      · rcases List.mem_append.mp ha with q | q
        · exact f.2.1 a q
        · exact g.2.1 a q
      · rcases List.mem_append.mp ha with q | q
        · exact f.2.2 i oi a q
        · exact g.2.2 i oi a q
    | bo => trivial
    | al T => trivial
  | al T =>
    cases m2 with
    | pu => rw [show G = [] from h2, List.append_nil]; exact alF T rfl
    | al T' =>
      intro a ha
      rcases List.mem_append.mp ha with q | q
      · rcases alF T rfl a q with p | ⟨i, hi, p⟩
        · exact .inl p
        · exact .inr ⟨i, List.mem_append_left _ hi, p⟩
      · rcases h2 a q with p | ⟨i, hi, p⟩
        · exact .inl p
        · exact .inr ⟨i, List.mem_append_right _ hi, p⟩
    | bo => trivial
    | fr => trivial
theorem Rep.some (r : Rep S.c B.R H d v F) : ∀ a ∈ F, ∃ u, H a = some u := fun a ha => let ⟨o, h, _⟩ := r.mem a ha; ⟨o, h⟩
theorem Reps.some {ds : List D} {vs : List V} (r : Reps S.c B.R H ds vs F) : ∀ a ∈ F, ∃ u, H a = some u := fun a ha => let ⟨o, h, _⟩ := r.mem a ha; ⟨o, h⟩


variable {W : WX}
/-! ### lists of values -/
def eaNil : M (List D) := fun ρ => .ok [] ρ
def eaCons (a : M D) (b : M (List D)) : M (List D) := fun ρ => bindR (a ρ) fun d ρ => bindR (b ρ) fun ds ρ => .ok (d :: ds) ρ
theorem xa_nil : XA X S W [] .pu false eaNil := ⟨⟨_, pa_nil, fun B ρ σ Fs H Q I h => h [] H Fs [] ⟨I, .nil, Step.refl, rfl⟩⟩, fun _ _ _ h => by cases h; rfl⟩
theorem bindR_ok {α β : Type} {r : Rs α} {f : α → Env → Rs β} {b : β} {ρ' : Env} (h : bindR r f = .ok b ρ') : ∃ a ρ1, r = .ok a ρ1 ∧ f a ρ1 = .ok b ρ' := by
  cases r with
  | ok a ρ1 => exact ⟨a, ρ1, rfl, h⟩
  | er c fs ρ1 => cases h
  | st => cases h
theorem ra_cons {ea : M D} {eb : M (List D)} {ta : TE} {tb : TA} (ra : RE S W m1 e1 ea ta) (rb : RA S W m2 e2 eb tb) (z : (!e2 || m1.sep) = true) : RA S W (m1.join m2) (e1 || e2) (eaCons ea eb) (tCons ta tb) := fun B ρ σ Fs H Q I h =>
  ra B ρ σ Fs H _ I (h.bind.imp fun d ρ1 _ h1 v H1 Fs1 F p1 => rb B ρ1 σ Fs1 H1 _ p1.env (h1.bind.imp fun ds ρ2 _ h2 vs H2 Fs2 G p2 =>
    h2 _ H2 Fs2 (F ++ G) ⟨p2.env, .cons (p1.over p2.step z) p2.rep, p1.step.trans p2.step, MdOk.join p1.env p1.step p2.step p1.md p2.md p1.rep.some z⟩))
theorem xa_cons {e : Expr} {es : List Expr} {ea : M D} {eb : M (List D)} (ha : XE X S W e m1 e1 ea) (hb : XA X S W es m2 e2 eb) (z : (!e2 || m1.sep) = true := by rfl) (hs : starEach (e :: es) X.env = (false, eval e X.env) :: starEach es X.env := by rfl) :
    XA X S W (e :: es) (m1.join m2) (e1 || e2) (eaCons ea eb) := by
  obtain ⟨ta, pa, ra⟩ := ha.ex
  obtain ⟨tb, pb, rb⟩ := hb.ex
  refine ⟨⟨_, pa_cons pa pb hs, ra_cons ra rb z⟩, fun ρ ds ρ' h => ?_⟩
  obtain ⟨d, ρ1, _, h⟩ := bindR_ok h
  obtain ⟨ds', ρ2, h2, h⟩ := bindR_ok h
  cases h
  simp [hb.len _ _ _ h2]
/-- an operation's value behind its operands -/
theorem VP.post {ds : List D} {vs : List V} {ρ2 : Env} {Fs2 : Nat → List Addr} {H2 H3 : Hp} {G : List Addr} (p : PostA S B m1 e1 σ ρ Fs H ρ2 ds vs H2 Fs2 G) (q : VP S.c B.R m H2 d v H3 F) : Post S B m e1 σ ρ Fs H ρ2 d v H3 Fs2 F where
  env := p.env.same q.same
  rep := q.rep
  step := by simpa using p.step.trans (e2 := false) (Step.of_same q.same)
  md := by
    have h := q.md
    cases m with
    | bo => trivial
    | al T => exact h.elim
    | pu => exact h
    | fr =>
      refine ⟨h.1, fun a ha => .inl (p.step.dom a (h.2 a ha)), fun i oi a ha n => ?_⟩
      obtain ⟨u, hu, _⟩ := p.env.mem oi n
      rw [h.2 a ha] at hu; cases hu

/-! ### constants, names -/
def eC (d : D) : M D := fun ρ => .ok d ρ
theorem re_c {t : TE} (hp : ∀ B : Base, ∀ H, Rep S.c B.R H d v []) (ht : ∀ σ H Q, Q v H → t σ H Q) : RE S W .pu false (eC d) t := fun B ρ σ Fs H Q I h =>
  ht _ _ _ (h v H Fs [] ⟨I, hp B H, Step.refl, MdOk.of_nil⟩)
theorem xe_int {i : Int} {j : Nat} {pos : Pos} : XE X S W (.Constant (.int i) j pos) .pu false (eC (.int i)) := ⟨_, pe_int, re_c (v := .int i) (fun _ _ => .int i) fun _ _ _ h => h⟩
theorem xe_bl {b : Bool} {j : Nat} {pos : Pos} : XE X S W (.Constant (.bool b) j pos) .pu false (eC (.bl b)) := ⟨_, pe_bl, re_c (v := .bl b) (fun _ _ => .bl b) fun _ _ _ h => h⟩
theorem xe_non {j : Nat} {pos : Pos} : XE X S W (.Constant .none j pos) .pu false (eC .non) := ⟨_, pe_non, re_c (v := .non) (fun _ _ => .non) fun _ _ _ h => h⟩
theorem xe_str {x : Str} {j : Nat} {pos : Pos} : XE X S W (.Constant (.str x) j pos) .pu false (eC (.str x)) := ⟨_, pe_str, re_c (v := .str x) (fun _ _ => .str x) fun _ _ _ h => h⟩
/-- a module's constant -/
theorem xe_glob {x : Str} {u : Value} {pos : Pos} (hg : Gl X x) (hm : X.mg x = .some u) (r : RelV v u) (hp : ∀ (R : Addr → Prop) H, Rep S.c R H d v []) (hd : (x == ("__debug__" : Str)) = false := by decide) : XE X S W (.Name x pos) .pu false (eC d) := ⟨_, pe_glob hg hm r hd, re_c (v := v) (fun B H => hp B.R H) fun _ _ _ h => h⟩

/-- slot i -/
def eV (i : Nat) : M D := fun ρ => match ρ[i]? with | some (some d) => .ok d ρ | _ => .st
def mdV (S : Sig) (i : Nat) : Md := match S.kd i with | .pl => .pu | .par => .al [] | .own => .al [i] | .io => .al [i] | .bw => .al []
theorem re_v {i : Nat} : RE S W (mdV S i) false (eV i) (tVar i) := fun B ρ σ Fs H Q I h => by
  unfold eV at h
  split at h
  · rename_i d e
    obtain ⟨v, hv, r⟩ := I.slot i d e
    refine ⟨v, hv, h v H Fs (Fs i) ⟨I, r, Step.refl, ?_⟩⟩
    unfold mdV
    cases q : S.kd i with
    | pl => exact I.pl i d e q
    | par => exact fun a ha => .inl (I.parP e q a ha)
    | own => exact fun a ha => .inr ⟨i, List.mem_singleton.mpr rfl, ⟨.inl q, d, e⟩, ha⟩
    | io => exact fun a ha => .inr ⟨i, List.mem_singleton.mpr rfl, ⟨.inr q, d, e⟩, ha⟩
    | bw => exact fun a ha => .inl (I.bw i d e q a ha)
  · exact h.elim
theorem xe_v (i : Nat) {x : Str} {pos : Pos} (hN : X.N[i]? = some x := by rfl) (hv : Vis X.env.scope x := by first | exact Or.inl rfl | exact Or.inr (Or.inl rfl) | exact Or.inr (Or.inr rfl)) (hd : (x == ("__debug__" : Str)) = false := by decide)
    (hcd : (x == ("__classdict__" : Str)) = false := by decide) : XE X S W (.Name x pos) (mdV S i) false (eV i) := ⟨_, pe_var hN hv hd hcd, re_v⟩
/-- the value of slot i is taken out -/
def eMv (i : Nat) : M D := fun ρ => match ρ[i]? with | some (some d) => .ok d (ρ.set i none) | _ => .st
theorem re_mv {i : Nat} (hi : S.kd i = .own) : RE S W .fr true (eMv i) (tVar i) := fun B ρ σ Fs H Q I h => by
  unfold eMv at h
  split at h
  · rename_i d e
    obtain ⟨v, hv, r⟩ := I.slot i d e
    have back : ∀ j d', (ρ.set i none)[j]? = some (some d') → ρ[j]? = some (some d') ∧ j ≠ i := fun j d' q => by
      by_cases hj : j = i
      · subst hj
        rw [List.getElem?_set_self (List.getElem?_eq_some_iff.mp e).1] at q; cases q
      · rw [List.getElem?_set_ne (Ne.symm hj)] at q; exact ⟨q, hj⟩
    have ob : ∀ j, Own S (ρ.set i none) j → Own S ρ j ∧ j ≠ i := fun j oj => by
      obtain ⟨d', q⟩ := oj.2
      exact ⟨⟨oj.1, d', (back j d' q).1⟩, (back j d' q).2⟩
    have oi : Own S ρ i := ⟨.inl hi, d, e⟩
    refine ⟨v, hv, h v H Fs (Fs i) ⟨⟨by simpa using I.len, fun j d' q => I.slot j d' (back j d' q).1, fun j d' q => I.pl j d' (back j d' q).1, fun j d' q => I.par j d' (back j d' q).1, fun j d' q => I.bw j d' (back j d' q).1, fun j oj => I.own j (ob j oj).1, fun j k oj ok => I.dis j k (ob j oj).1 (ob k ok).1, fun j oj => I.iov j (ob j oj).1, I.prot, I.pdom, I.tr⟩, r, ?_, ?_⟩⟩
    · exact ⟨fun _ _ q => .inl q, fun j a oj m => .inr ⟨j, (ob j oj).1, m⟩, fun _ q => q, fun q => by cases q⟩
    · exact ⟨(I.own i oi).1, fun a ha => .inr ⟨i, oi, ha⟩, fun j oj a ha q => I.dis i j oi (ob j oj).1 (Ne.symm (ob j oj).2) a ha q⟩
  · exact h.elim
theorem xe_mv (i : Nat) {x : Str} {pos : Pos} (hk : S.kd i = .own := by rfl) (hN : X.N[i]? = some x := by rfl) (hv : Vis X.env.scope x := by first | exact Or.inl rfl | exact Or.inr (Or.inl rfl) | exact Or.inr (Or.inr rfl)) (hd : (x == ("__debug__" : Str)) = false := by decide)
    (hcd : (x == ("__classdict__" : Str)) = false := by decide) : XE X S W (.Name x pos) .fr true (eMv i) := ⟨_, pe_var hN hv hd hcd, re_mv hk⟩
/-- a dynamic look: nothing of the value can change -/
def ePure (a : M D) : M D := fun ρ => bindR (a ρ) fun d ρ => if pureD d then .ok d ρ else .st
theorem XE.pure {e : Expr} {ev : M D} (h : XE X S W e m e1 ev) : XE X S W e .pu e1 (ePure ev) := by
  obtain ⟨t, p, r⟩ := h.ex
  refine ⟨t, p, fun B ρ σ Fs H Q I he => r B ρ σ Fs H Q I (he.bind.imp fun d ρ' _ k v H' Fs' F q => ?_)⟩
  split at k
  · rename_i hp
    exact k v H' Fs' F ⟨q.env, q.rep, q.step, q.rep.pure hp⟩
  · exact k.elim

/-! ### operations -/
def lift (o : Option D) (ρ : Env) : Rs D := match o with | some d => .ok d ρ | none => .st
theorem Wn.lift {Er : String → List (Str × D) → Env → Prop} {P : D → Env → Prop} {o : Option D} (h : Wn Er P (lift o ρ)) : ∃ d, o = some d ∧ P d ρ := by
  cases o with
  | none => exact h.elim
  | some d => exact ⟨d, rfl, h⟩
def eBin (g : D → D → Option D) (a b : M D) : M D := fun ρ => bindR (a ρ) fun x ρ => bindR (b ρ) fun y ρ => lift (g x y) ρ
theorem re_bin {g : D → D → Option D} {r : R2} {ea eb : M D} {ta tb : TE} (hg : Op2 S.c r g m) (ra : RE S W m1 e1 ea ta) (rb : RE S W m2 e2 eb tb) (z : (!e2 || m1.sep) = true) : RE S W m (e1 || e2) (eBin g ea eb) (tOp r ta tb) := fun B ρ σ Fs H Q I h =>
  ra B ρ σ Fs H _ I (h.bind.imp fun d1 ρ1 _ h1 x H1 Fs1 F p1 => rb B ρ1 σ Fs1 H1 _ p1.env (h1.bind.imp fun d2 ρ2 _ h2 y H2 Fs2 G p2 => by
    obtain ⟨d, hd, k⟩ := h2.lift
    refine hg B.R H2 d1 d2 d x y F G _ (p1.over p2.step z) p2.rep hd fun v H3 F3 q => k v H3 Fs2 F3 ?_
    exact VP.post (ds := []) (vs := []) (G := []) (m1 := .bo) ⟨p2.env, .nil, p1.step.trans p2.step, trivial⟩ q))
theorem xe_bin {op : Operator} {g : D → D → Option D} {r : R2} {a b : Expr} {ea eb : M D} {pos : Pos} (ho : OpR X (binaryOp op) r) (hg : Op2 S.c r g m) (ha : XE X S W a m1 e1 ea) (hb : XE X S W b m2 e2 eb) (z : (!e2 || m1.sep) = true := by rfl) :
    XE X S W (.BinOp a op b pos) m (e1 || e2) (eBin g ea eb) := by
  obtain ⟨ta, pa, ra⟩ := ha.ex
  obtain ⟨tb, pb, rb⟩ := hb.ex
  exact ⟨_, pe_op ho pa pb, re_bin hg ra rb z⟩
theorem xe_cmp {op : CmpOp} {g : D → D → Option D} {r : R2} {a b : Expr} {ea eb : M D} {pos : Pos} (ho : OpR X (compareOp op) r) (hg : Op2 S.c r g m) (ha : XE X S W a m1 e1 ea) (hb : XE X S W b m2 e2 eb) (hm : behindInMarks op b = false := by rfl) (z : (!e2 || m1.sep) = true := by rfl) :
    XE X S W (.Compare a [op] [b] pos) m (e1 || e2) (eBin g ea eb) := by
  obtain ⟨ta, pa, ra⟩ := ha.ex
  obtain ⟨tb, pb, rb⟩ := hb.ex
  exact ⟨_, pe_cmpR ho pa pb hm, re_bin hg ra rb z⟩
def eUn (g : D → Option D) (a : M D) : M D := fun ρ => bindR (a ρ) fun x ρ => lift (g x) ρ
theorem re_un {g : D → Option D} {r : V → Hp → VK → Prop} {ea : M D} {ta : TE} (hg : Op1 S.c r g m) (ra : RE S W m1 e1 ea ta) : RE S W m e1 (eUn g ea) (tUn r ta) := fun B ρ σ Fs H Q I h =>
  ra B ρ σ Fs H _ I (h.bind.imp fun d1 ρ1 _ h1 x H1 Fs1 F p1 => by
    obtain ⟨d, hd, k⟩ := h1.lift
    refine hg B.R H1 d1 d x F _ p1.rep hd fun v H3 F3 q => k v H3 Fs1 F3 ?_
    exact VP.post (ds := []) (vs := []) (G := []) (m1 := .bo) ⟨p1.env, .nil, p1.step, trivial⟩ q)
theorem xe_un {op : UnaryOp} {g : D → Option D} {r : V → Hp → VK → Prop} {a : Expr} {ea : M D} {pos : Pos} (ho : UnR X (unaryOp op) r) (hg : Op1 S.c r g m) (ha : XE X S W a m1 e1 ea) : XE X S W (.UnaryOp op a pos) m e1 (eUn g ea) := by
  obtain ⟨ta, pa, ra⟩ := ha.ex
  exact ⟨_, pe_un ho pa, re_un hg ra⟩
/-- a call of a builtin by its values -/
def eN (g : List D → Option D) (a : M (List D)) : M D := fun ρ => bindR (a ρ) fun ds ρ => lift (g ds) ρ
theorem re_n {g : List D → Option D} {r : List V → Hp → VK → Prop} {ea : M (List D)} {ta : TA} (hg : OpN S.c r g m) (ra : RA S W m1 e1 ea ta) : RE S W m e1 (eN g ea) (tCB r ta) := fun B ρ σ Fs H Q I h =>
  ra B ρ σ Fs H _ I (h.bind.imp fun d1 ρ1 _ h1 x H1 Fs1 F p1 => by
    obtain ⟨d, hd, k⟩ := h1.lift
    exact hg B.R H1 d1 d x F _ p1.rep hd fun v H3 F3 q => k v H3 Fs1 F3 (VP.post p1 q))
theorem xe_callB {id : String} {g : List D → Option D} {r : List V → Hp → VK → Prop} {x : Str} {e : Expr} {es : List Expr} {ea : M (List D)} {p pos : Pos} (ho : CallR X (.builtin id) r) (hg : OpN S.c r g m) (ha : XA X S W (e :: es) m1 e1 ea) (hx : Gl X x) (hm : X.mg x = none) (hv : bootBuiltins x = some (.builtin id))
    (hn : x ≠ "__name__" := by decide) (hdb : (x == ("__debug__" : Str)) = false := by decide) (he : starEach (e :: es) X.env = (false, eval e X.env) :: starEach es X.env := by rfl) (hpl : (backTo pos (starEach es X.env)).any (·.1) = false := by rfl) :
    XE X S W (.Call (.Name x p) (e :: es) [] pos) m e1 (eN g ea) := by
  obtain ⟨ta, pa, ra⟩ := ha.ex
  exact ⟨_, pe_callB ho hx hm hv pa hn hdb he hpl, re_n hg ra⟩
theorem xe_callTy {T : String} {g : List D → Option D} {r : List V → Hp → VK → Prop} {x : Str} {e : Expr} {es : List Expr} {ea : M (List D)} {p pos : Pos} (ho : CallR X (.type T) r) (hg : OpN S.c r g m) (ha : XA X S W (e :: es) m1 e1 ea) (hx : Gl X x) (hm : X.mg x = none) (hv : bootBuiltins x = some (.type T))
    (hn : x ≠ "__name__" := by decide) (hdb : (x == ("__debug__" : Str)) = false := by decide) (he : starEach (e :: es) X.env = (false, eval e X.env) :: starEach es X.env := by rfl) (hpl : (backTo pos (starEach es X.env)).any (·.1) = false := by rfl) :
    XE X S W (.Call (.Name x p) (e :: es) [] pos) m e1 (eN g ea) := by
  obtain ⟨ta, pa, ra⟩ := ha.ex
  exact ⟨_, pe_callTy ho hx hm hv pa hn hdb he hpl, re_n hg ra⟩
/-! ### displays -/
/-- a tuple whose parts cannot change -/
def eTup (a : M (List D)) : M D := fun ρ => bindR (a ρ) fun ds ρ => if pureDs ds && decide (ds.length ≤ sizeLine) then .ok (.tup ds) ρ else .st
theorem same_upd {a : Addr} {o : HO} (h : H a = none) : Same H (upd H a o) := fun b u q => by rw [upd_ne (ne_of_none q h)]; exact q
theorem xe_tup {es : List Expr} {ea : M (List D)} {x1 : Nat} {pos : Pos} (ha : XA X S W es m1 e1 ea) : XE X S W (.Tuple es x1 pos) .pu e1 (eTup ea) := by
  obtain ⟨ta, pa, ra⟩ := ha.ex
  refine ⟨_, pe_tup pa, fun B ρ σ Fs H Q I h => ra B ρ σ Fs H _ I (h.bind.imp fun ds ρ1 _ h1 vs H1 Fs1 F p1 => ?_)⟩
  split at h1
  · rename_i hc
    simp only [Bool.and_eq_true, decide_eq_true_eq] at hc
    have hl : vs.length ≤ sizeLine := by rw [← p1.rep.length]; exact hc.2
    refine ⟨hl, fun p hp => h1 _ _ Fs1 [] (VP.post p1 ⟨same_upd hp, ?_, rfl⟩)⟩
    have e := p1.rep.pure hc.1
    subst e
    exact .tup (SqT.of upd_same) hl (p1.rep.same (same_upd hp))
  · exact h1.elim
/-- a tuple of anything -/
def eTupX (a : M (List D)) : M D := fun ρ => bindR (a ρ) fun ds ρ => if ds.length ≤ sizeLine then .ok (.tup ds) ρ else .st
theorem Post.newA {ds : List D} {vs : List V} {ρ2 : Env} {Fs2 : Nat → List Addr} {H2 : Hp} {p : Addr} {o : HO} (q : PostA S B m e1 σ ρ Fs H ρ2 ds vs H2 Fs2 F) (hp : H2 p = none) (r : Rep S.c B.R (upd H2 p o) d v F) : Post S B m e1 σ ρ Fs H ρ2 d v (upd H2 p o) Fs2 F :=
  ⟨q.env.same (same_upd hp), r, by simpa using q.step.trans (e2 := false) (Step.of_same (same_upd hp)), q.md⟩
theorem xe_tupX {es : List Expr} {ea : M (List D)} {x1 : Nat} {pos : Pos} (ha : XA X S W es m1 e1 ea) : XE X S W (.Tuple es x1 pos) m1 e1 (eTupX ea) := by
  obtain ⟨ta, pa, ra⟩ := ha.ex
  refine ⟨_, pe_tup pa, fun B ρ σ Fs H Q I h => ra B ρ σ Fs H _ I (h.bind.imp fun ds ρ1 _ h1 vs H1 Fs1 F p1 => ?_)⟩
  split at h1
  · rename_i hc
    have hl : vs.length ≤ sizeLine := by rw [← p1.rep.length]; exact hc
    exact ⟨hl, fun p hp => h1 _ _ Fs1 F (Post.newA p1 hp (.tup (SqT.of upd_same) hl (p1.rep.same (same_upd hp))))⟩
  · exact h1.elim
/-- a list whose parts cannot change -/
def eLst (a : M (List D)) : M D := fun ρ => bindR (a ρ) fun ds ρ => if pureDs ds && decide (ds.length ≤ sizeLine) then .ok (.lst ds) ρ else .st
theorem xe_lst {es : List Expr} {ea : M (List D)} {pos : Pos} (ha : XA X S W es m1 e1 ea) : XE X S W (.List es pos) .fr e1 (eLst ea) := by
  obtain ⟨ta, pa, ra⟩ := ha.ex
  refine ⟨_, pe_lst pa, fun B ρ σ Fs H Q I h => ra B ρ σ Fs H _ I (h.bind.imp fun ds ρ1 _ h1 vs H1 Fs1 F p1 => ?_)⟩
  split at h1
  · rename_i hc
    simp only [Bool.and_eq_true, decide_eq_true_eq] at hc
    have hl : vs.length ≤ sizeLine := by rw [← p1.rep.length]; exact hc.2
    refine ⟨hl, fun p hp => h1 _ _ Fs1 [p] (VP.post p1 ⟨same_upd hp, ?_, by simp, by intro a ha; simp at ha; rw [ha]; exact hp⟩)⟩
    have e := p1.rep.pure hc.1
    subst e
    exact .lst upd_same hl (p1.rep.same (same_upd hp))
  · exact h1.elim
/-- a list of anything: new, or anyhow -/
def eLstX (a : M (List D)) : M D := fun ρ => bindR (a ρ) fun ds ρ => if ds.length ≤ sizeLine then .ok (.lst ds) ρ else .st
def Md.lstX : Md → Md | .fr => .fr | .pu => .fr | _ => .bo
theorem xe_lstX {es : List Expr} {ea : M (List D)} {pos : Pos} (ha : XA X S W es m1 e1 ea) : XE X S W (.List es pos) m1.lstX e1 (eLstX ea) := by
  obtain ⟨ta, pa, ra⟩ := ha.ex
  refine ⟨_, pe_lst pa, fun B ρ σ Fs H Q I h => ra B ρ σ Fs H _ I (h.bind.imp fun ds ρ1 _ h1 vs H1 Fs1 F p1 => ?_)⟩
  split at h1
  · rename_i hc
    have hl : vs.length ≤ sizeLine := by rw [← p1.rep.length]; exact hc
    refine ⟨hl, fun p hp => h1 _ _ Fs1 (p :: F) ⟨p1.env.same (same_upd hp), .lst upd_same hl (p1.rep.same (same_upd hp)), by simpa using p1.step.trans (e2 := false) (Step.of_same (same_upd hp)), ?_⟩⟩
    have nm : p ∉ F := fun z => by obtain ⟨u, hu⟩ := p1.rep.some p z; rw [hp] at hu; cases hu
    have go : MdOk S B .fr ρ Fs H ρ1 Fs1 F → MdOk S B .fr ρ Fs H ρ1 Fs1 (p :: F) := fun g => by
      refine ⟨List.nodup_cons.mpr ⟨nm, g.1⟩, fun a ha => ?_, fun i oi a ha => ?_⟩
      · rcases List.mem_cons.mp ha with rfl | ha
        · exact .inl (p1.step.dom _ hp)
        · exact g.2.1 a ha
      · rcases List.mem_cons.mp ha with rfl | ha
        · exact fun z => by obtain ⟨u, hu, _⟩ := p1.env.mem oi z; rw [hp] at hu; cases hu
        · exact g.2.2 i oi a ha
    cases m1 with
    | fr => exact go p1.md
    | pu => exact go (p1.md.le (m1 := .fr) rfl)
    | bo => trivial
    | al T => trivial
  · exact h1.elim
/-! ### tests -/
/-- a value that is True or False, as a test -/
def ebV (a : M D) : M Bool := fun ρ => bindR (a ρ) fun d ρ => match d with | .bl b => .ok b ρ | _ => .st
theorem Rep.bl_inv {R : Addr → Prop} {b : Bool} {x : V} (h : Rep S.c R H (.bl b) x F) : x = .bl b := by cases h; rfl
theorem rt_of {ea : M D} {ta : TE} {t : TT} (ra : RE S W m e1 ea ta) (ht : ∀ σ H Q, ta σ H (fun x H' => ∃ k, x = .bl k ∧ Q k H') → t σ H Q) : RT S W e1 (ebV ea) t := fun B ρ σ Fs H Q I h =>
  ht _ _ _ (ra B ρ σ Fs H _ I (h.bind.imp fun d ρ' _ h1 v H' Fs' F p => by
    cases d with
    | bl b => exact ⟨b, p.rep.bl_inv, h1 H' Fs' p.env p.step⟩
    | _ => exact h1.elim))
theorem xt_cmp {op : CmpOp} {g : D → D → Option D} {r : R2} {a b : Expr} {ea eb : M D} {pos : Pos} (ho : OpR X (compareOp op) r) (hg : Op2 S.c r g m) (ha : XE X S W a m1 e1 ea) (hb : XE X S W b m2 e2 eb) (hm : behindInMarks op b = false := by rfl) (z : (!e2 || m1.sep) = true := by rfl) :
    XT X S W (.Compare a [op] [b] pos) (e1 || e2) (ebV (eBin g ea eb)) := by
  obtain ⟨ta, pa, ra⟩ := ha.ex
  obtain ⟨tb, pb, rb⟩ := hb.ex
  exact ⟨_, pt_cmpR ho pa pb hm, rt_of (re_bin hg ra rb z) fun σ H Q h => h⟩
def ebAnd (a b : M Bool) : M Bool := fun ρ => bindR (a ρ) fun c ρ => if c then b ρ else .ok false ρ
def ebOr (a b : M Bool) : M Bool := fun ρ => bindR (a ρ) fun c ρ => if c then .ok true ρ else b ρ
def ebNot (a : M Bool) : M Bool := fun ρ => bindR (a ρ) fun c ρ => .ok (!c) ρ
theorem rt_and {a b : M Bool} {ta tb : TT} (ra : RT S W e1 a ta) (rb : RT S W e2 b tb) : RT S W (e1 || e2) (ebAnd a b) (tAnd ta tb) := fun B ρ σ Fs H Q I h =>
  ra B ρ σ Fs H _ I (h.bind.imp fun c ρ1 _ h1 H1 Fs1 I1 s1 => by
    cases c with
    | true => exact iteT (rb B ρ1 σ Fs1 H1 _ I1 (h1.imp fun c' ρ2 _ k H2 Fs2 I2 s2 => k H2 Fs2 I2 (s1.trans s2)))
    | false => exact iteF (h1 H1 Fs1 I1 (s1.weak fun z => by simp at z; exact z.1)))
theorem rt_or {a b : M Bool} {ta tb : TT} (ra : RT S W e1 a ta) (rb : RT S W e2 b tb) : RT S W (e1 || e2) (ebOr a b) (tOr ta tb) := fun B ρ σ Fs H Q I h =>
  ra B ρ σ Fs H _ I (h.bind.imp fun c ρ1 _ h1 H1 Fs1 I1 s1 => by
    cases c with
    | false => exact iteF (rb B ρ1 σ Fs1 H1 _ I1 (h1.imp fun c' ρ2 _ k H2 Fs2 I2 s2 => k H2 Fs2 I2 (s1.trans s2)))
    | true => exact iteT (h1 H1 Fs1 I1 (s1.weak fun z => by simp at z; exact z.1)))
theorem rt_not {a : M Bool} {ta : TT} (ra : RT S W e1 a ta) : RT S W e1 (ebNot a) (tNot ta) := fun B ρ σ Fs H Q I h =>
  ra B ρ σ Fs H _ I (h.bind.imp fun c ρ1 _ h1 H1 Fs1 I1 s1 => h1 H1 Fs1 I1 s1)
variable {a b : Expr} {rest : List Expr} {ea eb : M Bool} {pos : Pos}
theorem xw_and1 (ha : XT X S W a e1 ea) : XW X S W (.BoolOp .And [a] pos) e1 ea := let ⟨t, p, r⟩ := ha.ex; ⟨t, pw_and1 p, r⟩
theorem xw_or1 (ha : XT X S W a e1 ea) : XW X S W (.BoolOp .Or [a] pos) e1 ea := let ⟨t, p, r⟩ := ha.ex; ⟨t, pw_or1 p, r⟩
theorem xw_and (ha : XT X S W a e1 ea) (hb : XW X S W (.BoolOp .And (b :: rest) pos) e2 eb) : XW X S W (.BoolOp .And (a :: b :: rest) pos) (e1 || e2) (ebAnd ea eb) := let ⟨_, p, r⟩ := ha.ex; let ⟨_, p', r'⟩ := hb.ex; ⟨_, pw_and p p', rt_and r r'⟩
theorem xw_or (ha : XT X S W a e1 ea) (hb : XW X S W (.BoolOp .Or (b :: rest) pos) e2 eb) : XW X S W (.BoolOp .Or (a :: b :: rest) pos) (e1 || e2) (ebOr ea eb) := let ⟨_, p, r⟩ := ha.ex; let ⟨_, p', r'⟩ := hb.ex; ⟨_, pw_or p p', rt_or r r'⟩
theorem XW.pt {e : Expr} {ev : M Bool} (h : XW X S W e e1 ev) : XT X S W e e1 ev := let ⟨t, p, r⟩ := h.ex; ⟨t, p.pt, r⟩
theorem xt_not (ha : XT X S W a e1 ea) : XT X S W (.UnaryOp .Not a pos) e1 (ebNot ea) := let ⟨_, p, r⟩ := ha.ex; ⟨_, pt_not p, rt_not r⟩
/-- truth -/
def truD : D → Option Bool
  | .non => some false
  | .bl b => some b
  | .int i => some (i != 0)
  | .str x => if x.length ≤ sizeLine then some (x.length != 0) else none
  | .tup ds => some (!ds.isEmpty)
  | .lst ds => some (!ds.isEmpty)
  | .scr ds => some (!ds.isEmpty)
  | .ice ds => some (!ds.isEmpty)
  | .dic kvs => some (!kvs.isEmpty)
  | _ => none
def ebT (a : M D) : M Bool := fun ρ => bindR (a ρ) fun d ρ => match truD d with | some b => .ok b ρ | none => .st
theorem Reps.empty {R : Addr → Prop} {ds : List D} {vs : List V} (h : Reps S.c R H ds vs F) : vs.isEmpty = ds.isEmpty := by cases h <;> rfl
theorem tru_ok' {R : Addr → Prop} {c : Bool} (r : Rep S.c R H d v F) (h : truD d = some c) : TruV S.c.K v H c := by
  cases r with
  | non => simp [truD] at h; exact h.symm ▸ rfl
  | bl b => simp [truD] at h; exact h.symm ▸ rfl
  | int i => simp [truD] at h; subst h; rfl
  | str x =>
    simp only [truD] at h
    split at h
    · rename_i hl
      simp at h
      subst h
      refine ⟨hl, ?_⟩
      rw [Bool.eq_iff_iff]
      simp
    · cases h
  | tup q l r => simp [truD] at h; exact .inr (.inl ⟨_, q, by rw [Reps.empty r]; simp [h]⟩)
  | lst q l r => simp [truD] at h; exact .inl ⟨_, SqL.of q, by rw [Reps.empty r]; simp [h]⟩
  | scr q l r => simp [truD] at h; exact .inl ⟨_, q.toL, by rw [Reps.empty r]; simp [h]⟩
  | ice q l r => simp [truD] at h; exact .inl ⟨_, .inl (.inr ⟨_, q⟩), by rw [Reps.empty r]; simp [h]⟩
  | dic q l e r =>
    simp [truD] at h
    refine .inr (.inr ⟨_, q, ?_⟩)
    rename_i kvs a ws G
    have : ws.length = kvs.length := by simpa using congrArg List.length e
    have e2 : ws.isEmpty = kvs.isEmpty := by cases ws <;> cases kvs <;> first | rfl | simp at this
    rw [e2, h]; simp
  | ins => simp [truD] at h
  | obj => simp [truD] at h
theorem xt_truth (hk : X.K = S.c.K) {ev : M D} (ha : XE X S W a m e1 ev) (he : ∀ whole, isTrue a X.env whole = (do let v ← whole; standAt a.pos; holding [v] (truthy v)) := by intro _; rfl) : XT X S W a e1 (ebT ev) := by
  obtain ⟨t, p, r⟩ := ha.ex
  refine ⟨_, pt_truth p he, fun B ρ σ Fs H Q I h => r B ρ σ Fs H _ I (h.bind.imp fun d ρ1 _ h1 v H' Fs' F q => ?_)⟩
  split at h1
  · rename_i c hc
    exact ⟨c, by rw [hk]; exact tru_ok' q.rep hc, h1 H' Fs' q.env q.step⟩
  · exact h1.elim
/-! ### and, or, not as values; a if c else b -/
def eAndV (a b : M D) : M D := fun ρ => bindR (a ρ) fun d ρ => match d with | .bl true => b ρ | .bl false => .ok (.bl false) ρ | _ => .st
def eOrV (a b : M D) : M D := fun ρ => bindR (a ρ) fun d ρ => match d with | .bl true => .ok (.bl true) ρ | .bl false => b ρ | _ => .st
def eNotV (a : M D) : M D := fun ρ => bindR (a ρ) fun d ρ => match d with | .bl b => .ok (.bl (!b)) ρ | _ => .st
theorem xe_one {op : BoolOp} {ev : M D} (ha : XE X S W a m e1 ev) : XE X S W (.BoolOp op [a] pos) m e1 ev := let ⟨_, p, r⟩ := ha.ex; ⟨_, pe_one p, r⟩
theorem Post.bl {c : Bool} {e : Bool} (I : EnvR S B ρ' σ Fs' H') (s : Step S e ρ Fs H ρ' Fs' H') : Post S B m e σ ρ Fs H ρ' (.bl c) (.bl c) H' Fs' [] := ⟨I, .bl c, s, MdOk.of_nil⟩
theorem Post.seq {e2 : Bool} (s1 : Step S e1 ρ Fs H ρ1 Fs1 H1) (q : Post S B m e2 σ ρ1 Fs1 H1 ρ' d v H' Fs' F) : Post S B m (e1 || e2) σ ρ Fs H ρ' d v H' Fs' F := by
  refine ⟨q.env, q.rep, s1.trans q.step, ?_⟩
  have h := q.md
  cases m with
  | fr =>
    refine ⟨h.1, fun a ha => ?_, h.2.2⟩
    rcases h.2.1 a ha with n | ⟨j, oj, mj⟩
    · exact .inl (s1.dom a n)
    · exact s1.grow j a oj mj
  | bo => trivial
  | al T => exact h
  | pu => exact h
theorem xe_and {ev1 ev2 : M D} (ha : XE X S W a m1 e1 ev1) (hb : XE X S W (.BoolOp .And (b :: rest) pos) m e2 ev2) : XE X S W (.BoolOp .And (a :: b :: rest) pos) m (e1 || e2) (eAndV ev1 ev2) := by
  obtain ⟨ta, pa, ra⟩ := ha.ex
  obtain ⟨tb, pb, rb⟩ := hb.ex
  refine ⟨_, pe_and pa pb, fun B ρ σ Fs H Q I h => ra B ρ σ Fs H _ I (h.bind.imp fun d ρ1 _ h1 v H1 Fs1 F p => ?_)⟩
  split at h1
  · exact ⟨true, p.rep.bl_inv, iteT (rb B ρ1 σ Fs1 H1 _ p.env (h1.imp fun d2 ρ2 _ k v2 H2 Fs2 G q => k v2 H2 Fs2 G (Post.seq p.step q)))⟩
  · exact ⟨false, p.rep.bl_inv, iteF (h1 _ H1 Fs1 [] (Post.bl p.env (p.step.weak fun z => by simp at z; exact z.1)))⟩
  · exact h1.elim
theorem xe_or {ev1 ev2 : M D} (ha : XE X S W a m1 e1 ev1) (hb : XE X S W (.BoolOp .Or (b :: rest) pos) m e2 ev2) : XE X S W (.BoolOp .Or (a :: b :: rest) pos) m (e1 || e2) (eOrV ev1 ev2) := by
  obtain ⟨ta, pa, ra⟩ := ha.ex
  obtain ⟨tb, pb, rb⟩ := hb.ex
  refine ⟨_, pe_or pa pb, fun B ρ σ Fs H Q I h => ra B ρ σ Fs H _ I (h.bind.imp fun d ρ1 _ h1 v H1 Fs1 F p => ?_)⟩
  split at h1
  · exact ⟨true, p.rep.bl_inv, iteT (h1 _ H1 Fs1 [] (Post.bl p.env (p.step.weak fun z => by simp at z; exact z.1)))⟩
  · exact ⟨false, p.rep.bl_inv, iteF (rb B ρ1 σ Fs1 H1 _ p.env (h1.imp fun d2 ρ2 _ k v2 H2 Fs2 G q => k v2 H2 Fs2 G (Post.seq p.step q)))⟩
  · exact h1.elim
theorem xe_not {ev1 : M D} (ha : XE X S W a m1 e1 ev1) : XE X S W (.UnaryOp .Not a pos) .pu e1 (eNotV ev1) := by
  obtain ⟨ta, pa, ra⟩ := ha.ex
  refine ⟨_, pe_not pa, fun B ρ σ Fs H Q I h => ra B ρ σ Fs H _ I (h.bind.imp fun d ρ1 _ h1 v H1 Fs1 F p => ?_)⟩
  split at h1
  · exact ⟨_, p.rep.bl_inv, h1 _ H1 Fs1 [] (Post.bl p.env p.step)⟩
  · exact h1.elim
def eIf (c : M Bool) (a b : M D) : M D := fun ρ => bindR (c ρ) fun k ρ => if k then a ρ else b ρ
theorem Post.up {e e' : Bool} (q : Post S B m e σ ρ Fs H ρ' d v H' Fs' F) (h : m.le m1 = true) (he : e' = false → e = false) : Post S B m1 e' σ ρ Fs H ρ' d v H' Fs' F := ⟨q.env, q.rep, q.step.weak he, q.md.le h⟩
theorem xe_ifExp {c : Expr} {ev1 ev2 : M D} {e3 : Bool} (hc : XT X S W c e3 ea) (ha : XE X S W a m e1 ev1) (hb : XE X S W b m e2 ev2) : XE X S W (.IfExp c a b pos) m (e3 || (e1 || e2)) (eIf ea ev1 ev2) := by
  obtain ⟨tc, pc, rc⟩ := hc.ex
  obtain ⟨ta, pa, ra⟩ := ha.ex
  obtain ⟨tb, pb, rb⟩ := hb.ex
  refine ⟨_, pe_ifExp pc pa pb, fun B ρ σ Fs H Q I h => rc B ρ σ Fs H _ I (h.bind.imp fun k ρ1 _ h1 H1 Fs1 I1 s1 => ?_)⟩
  have le : m.le m = true := by cases m <;> simp [Md.le]
  cases k with
  | true => exact iteT (ra B ρ1 σ Fs1 H1 _ I1 (h1.imp fun d2 ρ2 _ k v2 H2 Fs2 G q => k v2 H2 Fs2 G ((Post.seq s1 q).up le fun z => by simp at z; simp [z])))
  | false => exact iteF (rb B ρ1 σ Fs1 H1 _ I1 (h1.imp fun d2 ρ2 _ k v2 H2 Fs2 G q => k v2 H2 Fs2 G ((Post.seq s1 q).up le fun z => by simp at z; simp [z])))
end
end EL

namespace EL
open PySem PySem.Spec PyProof.Rows
open L2 hiding XE
/-! ### what a def promises -/
inductive Fr where
  | ok (d : D) (o : D)
  | er (c : String) (fs : List (Str × D)) (o : D)
  | st
/-- the parts of several values, one by one -/
structure RepL (S : Core) (R : Addr → Prop) (H : Hp) (ds : List D) (vs : List V) (Fs : Nat → List Addr) : Prop where
  len : ds.length = vs.length
  get : ∀ i d, ds[i]? = some d → ∃ v, vs[i]? = some v ∧ Rep S R H d v (Fs i)
structure FArgs (S : Core) (R : Addr → Prop) (io : Option Nat) (H : Hp) (ds : List D) (vs : List V) (Fs : Nat → List Addr) : Prop where
  rep : RepL S R H ds vs Fs
  own : ∀ i ∈ io, i < ds.length ∧ (Fs i).Nodup ∧ ∀ j, j < ds.length → j ≠ i → ∀ a ∈ Fs i, a ∉ Fs j
  rd : ∀ a, R a → ∃ o, H a = some o
structure FEnd (S : Core) (R : Addr → Prop) (io : Option Nat) (H : Hp) (vs : List V) (Fs : Nat → List Addr) (o : D) (H' : Hp) (Fo : List Addr) : Prop where
  chg : ∀ a u, H a = some u → H' a = some u ∨ ∃ i ∈ io, a ∈ Fs i
  dom : ∀ a, H' a = none → H a = none
  out : ∀ i ∈ io, ∃ w, vs[i]? = some w ∧ Rep S R H' o w Fo ∧ Fo.Nodup ∧ ∀ a ∈ Fo, H a = none ∨ a ∈ Fs i
def FMd (io : Option Nat) (rm : Md) (H : Hp) (Fs : Nat → List Addr) (Fo G : List Addr) : Prop := match rm with
  | .pu => G = []
  | .fr => G.Nodup ∧ (∀ a ∈ G, H a = none ∨ ∃ i ∈ io, a ∈ Fs i) ∧ ∀ i ∈ io, ∀ a ∈ G, a ∉ Fo
  | .bo => True
  | .al _ => False
def FWn (S : Core) (R : Addr → Prop) (io : Option Nat) (rm : Md) (H : Hp) (vs : List V) (Fs : Nat → List Addr) (Q : VK) (E : XK) : Fr → Prop
  | .ok d o => ∀ v H' Fo G, FEnd S R io H vs Fs o H' Fo → Rep S R H' d v G → FMd io rm H Fs Fo G → Q v H'
  | .er c fs o => ∀ dd H' Fo, FEnd S R io H vs Fs o H' Fo → XdOk S R H' fs dd → E (.ref (S.cm c)) dd H'
  | .st => False
/-- the promise: F tells what comes of such arguments; n of them -/
def spD (S : Core) (n : Nat) (io : Option Nat) (rm : Md) (F : List D → Fr) : Sp := fun vs H Q E =>
  ∃ (R : Addr → Prop) (ds : List D) (Fs : Nat → List Addr), ds.length = n ∧ FArgs S R io H ds vs Fs ∧ FWn S R io rm H vs Fs Q E (F ds)
theorem spD.len {S : Core} {n : Nat} {io : Option Nat} {rm : Md} {F : List D → Fr} {vs : List V} {H : Hp} {Q : VK} {E : XK} (h : spD S n io rm F vs H Q E) : vs.length = n := by
  obtain ⟨R, ds, Fs, hn, ha, _⟩ := h
  rw [← ha.rep.len]; exact hn
/-- the same def told otherwise -/
theorem spD.imp {S : Core} {n : Nat} {io : Option Nat} {rm : Md} {F G : List D → Fr} (k : ∀ ds, ds.length = n → G ds ≠ .st → F ds = G ds) {vs : List V} {H : Hp} {Q : VK} {E : XK} (h : spD S n io rm G vs H Q E) : spD S n io rm F vs H Q E := by
  obtain ⟨R, ds, Fs, hn, ha, hw⟩ := h
  refine ⟨R, ds, Fs, hn, ha, ?_⟩
  have ne : G ds ≠ .st := fun z => by rw [z] at hw; exact hw
  rw [k ds hn ne]; exact hw

section
variable {X : Cx} {S : Sig} {B : Base} {W : WX} {m m1 m2 rm : Md} {e1 e2 : Bool} {σ : L2.St} {ρ ρ1 ρ' : Env} {Fs Fs1 Fs' : Nat → List Addr} {H H1 H' : Hp} {d : D} {v : V} {F : List Addr}
theorem Reps.split {C : Core} {R : Addr → Prop} {ds : List D} {vs : List V} {F : List Addr} : Reps C R H ds vs F → ∃ Fs : Nat → List Addr, RepL C R H ds vs Fs ∧ ∀ i, ∀ a ∈ Fs i, a ∈ F
  | .nil => ⟨fun _ => [], ⟨rfl, fun i d e => by simp at e⟩, fun i a h => by cases h⟩
  | .cons (F := F1) (G := G) r t => by
    obtain ⟨Fs, h1, h2⟩ := Reps.split t
    refine ⟨fun i => match i with | 0 => F1 | i + 1 => Fs i, ⟨by simp [h1.len], fun i d e => ?_⟩, fun i a h => ?_⟩
    · cases i with
      | zero => simp at e; subst e; exact ⟨_, rfl, r⟩
      | succ i => obtain ⟨v, q1, q2⟩ := h1.get i d (by simpa using e); exact ⟨v, by simpa using q1, q2⟩
    · cases i with
      | zero => exact List.mem_append_left _ h
      | succ i => exact List.mem_append_right _ (h2 i a h)
/-- a call that changes nothing -/
def eCall (F : List D → Fr) (a : M (List D)) : M D := fun ρ => bindR (a ρ) fun ds ρ => match F ds with | .ok d _ => .ok d ρ | .er c fs _ => .er c fs ρ | .st => .st
def Md.fn : Md → Bool | .al _ => false | _ => true
theorem xe_call {x : Str} {f : Addr} {fd : FuncData} {ps : List Str} {n k : Nat} {F : List D → Fr} {e : Expr} {es : List Expr} {ea : M (List D)} {p pos : Pos} (tk : Takes X W) (G : FnOk X.prog X.w X.K X.mg X.base (L2.CX X.prog X.w) k f fd ps (spD S.c n none rm F)) (hr : Room k X.A) (hg : Gl X x)
    (hm : X.mg x = some (.ref f)) (hk : PySem.W.keepIn X.K (.ref f) = true) (hb : Binds X.K fd ps []) (hn : ps.length = n) (ha : XA X S W (e :: es) m1 e1 ea) (hrm : rm.fn = true := by rfl) (hne : (e :: es).length = n := by rfl) (hdb : (x == ("__debug__" : Str)) = false := by decide) (he : starEach (e :: es) X.env = (false, eval e X.env) :: starEach es X.env := by rfl)
    (hpl : (backTo pos (starEach es X.env)).any (·.1) = false := by rfl) : XE X S W (.Call (.Name x p) (e :: es) [] pos) rm e1 (eCall F ea) := by
  obtain ⟨ta, pa, ra⟩ := ha.ex
  refine ⟨_, pe_callSD G hr hg hm hk hb .nil (fun σ => passAt tk σ) pa hdb he hpl, fun B ρ σ Fs H Q I h => ra B ρ σ Fs H _ I (h.bind.imp fun ds ρ1 hds h1 vs H1 Fs1 F1 q => ?_)⟩
  obtain ⟨Gs, g1, g2⟩ := q.rep.split
  refine ⟨B.R, ds, Gs, (ha.len _ _ _ hds).trans hne, ⟨by simpa using g1, (fun i hi => by cases hi), fun a ha => q.env.rdH ha⟩, ?_⟩
  have sm : ∀ {o H2 Fo}, FEnd S.c B.R none H1 (vs ++ []) Gs o H2 Fo → Same H1 H2 := fun {o H2 Fo} fe a u hu => by
    rcases fe.chg a u hu with z | ⟨i, hi, _⟩
    · exact z
    · cases hi
  cases hf : F ds with
  | st => rw [hf] at h1; exact h1.elim
  | ok d o =>
    rw [hf] at h1
    intro v H2 Fo G fe r md
    refine h1 v H2 Fs1 G (VP.post (F := G) q ⟨sm fe, r, ?_⟩)
    cases rm with
    | pu => exact md
    | bo => trivial
    | al T => exact md.elim
    | fr => exact ⟨md.1, fun a ha => (md.2.1 a ha).elim id fun ⟨i, hi, _⟩ => by cases hi⟩
  | er c fs o =>
    rw [hf] at h1
    intro dd H2 Fo fe xd
    exact h1 σ Fs1 H2 dd (q.env.same (sm fe)) xd

/-! ### a call that changes what stands in a slot -/
/-- the arguments of such a call: io the place of the changed one, s its slot -/
structure PostI (S : Sig) (B : Base) (eff : Bool) (io s : Nat) (σ : L2.St) (ρ : Env) (Fs : Nat → List Addr) (H : Hp) (ρ' : Env) (ds : List D) (vs : List V) (H' : Hp) (Fs' Gs : Nat → List Addr) : Prop where
  env : EnvR S B ρ' σ Fs' H'
  rep : RepL S.c B.R H' ds vs Gs
  step : Step S eff ρ Fs H ρ' Fs' H'
  sep : ∀ i, i < ds.length → i ≠ io → ∀ a ∈ Gs i, ∀ j, Own S ρ' j → a ∉ Fs' j
  at_ : ∃ w, vs[io]? = some w ∧ σ[s]? = some (some w) ∧ Gs io = Fs' s
  ow : Own S ρ' s
  lt : io < ds.length
def RI (S : Sig) (W : WX) (eff : Bool) (io s : Nat) (ev : M (List D)) (t : TA) : Prop :=
  ∀ (B : Base) (ρ : Env) (σ : L2.St) (Fs : Nat → List Addr) (H : Hp) (Q : List V → Hp → Prop), EnvR S B ρ σ Fs H →
    Wn (ErW S B W) (fun ds ρ' => ∀ vs H' Fs' Gs, PostI S B eff io s σ ρ Fs H ρ' ds vs H' Fs' Gs → Q vs H') (ev ρ) → t σ H Q
structure XI (X : Cx) (S : Sig) (W : WX) (es : List Expr) (eff : Bool) (io s : Nat) (ev : M (List D)) : Prop where
  ex : ∃ t, PA X es t ∧ RI S W eff io s ev t
  len : ∀ ρ ds ρ', ev ρ = .ok ds ρ' → ds.length = es.length
/-- the changed one first, the others apart -/
def eiHere (s : Nat) (b : M (List D)) : M (List D) := fun ρ => match ρ[s]? with
  | some (some _) => bindR (b ρ) fun ds ρ => match ρ[s]? with | some (some d) => .ok (d :: ds) ρ | _ => .st
  | _ => .st
def hasS (S : Sig) (s : Nat) : Bool := match S.kd s with | .own => true | .io => true | _ => false
theorem hasS_own {s : Nat} (h : hasS S s = true) : S.kd s = .own ∨ S.kd s = .io := by
  unfold hasS at h
  cases q : S.kd s <;> rw [q] at h <;> first | exact .inl rfl | exact .inr rfl | cases h
theorem xi_here (s : Nat) {x : Str} {pos : Pos} {es : List Expr} {eb : M (List D)} (hb : XA X S W es m2 e2 eb) (z : m2.sep = true := by rfl) (hk : hasS S s = true := by rfl) (hN : X.N[s]? = some x := by rfl) (hv : Vis X.env.scope x := by first | exact Or.inl rfl | exact Or.inr (Or.inl rfl) | exact Or.inr (Or.inr rfl))
    (hd : (x == ("__debug__" : Str)) = false := by decide) (hcd : (x == ("__classdict__" : Str)) = false := by decide) (hs : starEach (.Name x pos :: es) X.env = (false, eval (.Name x pos) X.env) :: starEach es X.env := by rfl) :
    XI X S W (.Name x pos :: es) e2 0 s (eiHere s eb) := by
  obtain ⟨tb, pb, rb⟩ := hb.ex
  refine ⟨⟨_, pa_cons (pe_var hN hv hd hcd) pb hs, fun B ρ σ Fs H Q I h => ?_⟩, fun ρ ds ρ' h => ?_⟩
  · unfold eiHere at h
    split at h
    · rename_i d0 e0
      obtain ⟨v, hv, _⟩ := I.slot s d0 e0
      refine ⟨v, hv, rb B ρ σ Fs H _ I (h.bind.imp fun ds ρ1 _ h1 vs H1 Fs1 F q => ?_)⟩
      split at h1
      · rename_i d e
        obtain ⟨v', hv', r⟩ := q.env.slot s d e
        rw [hv] at hv'
        cases hv'
        obtain ⟨Gs, g1, g2⟩ := q.rep.split
        refine h1 (v :: vs) H1 Fs1 (fun i => match i with | 0 => Fs1 s | i + 1 => Gs i) ⟨q.env, ⟨by simp [g1.len], fun i d' e' => ?_⟩, q.step, fun i hi hn a ha j oj => ?_, ⟨v, rfl, hv, rfl⟩, ⟨hasS_own hk, d, e⟩, by simp⟩
        · cases i with
          | zero => simp at e'; subst e'; exact ⟨v, rfl, r⟩
          | succ i => obtain ⟨w, q1, q2⟩ := g1.get i d' (by simpa using e'); exact ⟨w, by simpa using q1, q2⟩
        · cases i with
          | zero => exact absurd rfl hn
          | succ i => exact q.md.apart q.env z a (g2 i a ha) j oj
      · exact h1.elim
    · exact h.elim
  · unfold eiHere at h
    split at h
    · obtain ⟨ds', ρ1, h2, h⟩ := bindR_ok h
      split at h
      · cases h; simp [hb.len _ _ _ h2]
      · cases h
    · cases h
/-- .. further on: the values ahead are apart -/
def eiNext (a : M D) (b : M (List D)) : M (List D) := eaCons a b
theorem xi_next {e : Expr} {es : List Expr} {ea : M D} {eb : M (List D)} {io s : Nat} (ha : XE X S W e m1 e1 ea) (hb : XI X S W es e2 io s eb) (z : m1.sep = true := by rfl) (hs : starEach (e :: es) X.env = (false, eval e X.env) :: starEach es X.env := by rfl) :
    XI X S W (e :: es) (e1 || e2) (io + 1) s (eiNext ea eb) := by
  obtain ⟨ta, pa, ra⟩ := ha.ex
  obtain ⟨tb, pb, rb⟩ := hb.ex
  refine ⟨⟨_, pa_cons pa pb hs, fun B ρ σ Fs H Q I h => ra B ρ σ Fs H _ I (h.bind.imp fun d ρ1 _ h1 v H1 Fs1 F p1 => rb B ρ1 σ Fs1 H1 _ p1.env (h1.bind.imp fun ds ρ2 _ h2 vs H2 Fs2 Gs p2 => ?_))⟩, fun ρ ds ρ' h => ?_⟩
  · have ap := p1.md.apart p1.env z
    refine h2 _ H2 Fs2 (fun i => match i with | 0 => F | i + 1 => Gs i) ⟨p2.env, ⟨by simp [p2.rep.len], fun i d' e' => ?_⟩, p1.step.trans p2.step, fun i hi hn a ha j oj => ?_, ?_, p2.ow, by simpa using p2.lt⟩
    · cases i with
      | zero => simp at e'; subst e'; exact ⟨v, rfl, p1.rep.step p1.env p2.step ap⟩
      | succ i => obtain ⟨w, q1, q2⟩ := p2.rep.get i d' (by simpa using e'); exact ⟨w, by simpa using q1, q2⟩
    · cases i with
      | zero =>
        intro q
        obtain ⟨u, hu⟩ := p1.rep.some a ha
        rcases p2.step.grow j a oj q with n | ⟨k, ok, mk⟩
        · rw [hu] at n; cases n
        · exact ap a ha k ok mk
      | succ i => exact p2.sep i (by simpa using hi) (by omega) a ha j oj
    · obtain ⟨w, q1, q2, q3⟩ := p2.at_
      exact ⟨w, by simpa using q1, q2, q3⟩
  · obtain ⟨d, ρ1, _, h⟩ := bindR_ok h
    obtain ⟨ds', ρ2, h2, h⟩ := bindR_ok h
    cases h
    simp [hb.len _ _ _ h2]
def eCallI (F : List D → Fr) (s : Nat) (a : M (List D)) : M D := fun ρ => bindR (a ρ) fun ds ρ => match F ds with | .ok d o => .ok d (ρ.set s (some o)) | .er c fs o => .er c fs (ρ.set s (some o)) | .st => .st
/-- the slot's new content, at the same address -/
theorem EnvR.mut {i : Nat} {o : D} {w : V} {G : List Addr} (I : EnvR S B ρ σ Fs H) (oi : Own S ρ i) (hw : σ[i]? = some (some w)) (chg : ∀ a u, H a = some u → H' a = some u ∨ a ∈ Fs i) (dom : ∀ a, H' a = none → H a = none)
    (r : Rep S.c B.R H' o w G) (nd : G.Nodup) (np : ∀ a ∈ G, ¬ B.P0 a) (dj : ∀ a ∈ G, ∀ j, Own S ρ j → j ≠ i → a ∉ Fs j) : EnvR S B (ρ.set i (some o)) σ (fun j => if j = i then G else Fs j) H' := by
  obtain ⟨d0, e0⟩ := oi.2
  have hlt : i < ρ.length := (List.getElem?_eq_some_iff.mp e0).1
  have gs : ∀ j d, (ρ.set i (some o))[j]? = some (some d) → (j = i ∧ d = o) ∨ (j ≠ i ∧ ρ[j]? = some (some d)) := fun j d q => by
    by_cases hj : j = i
    · subst hj
      rw [List.getElem?_set_self hlt] at q
      cases q
      exact .inl ⟨rfl, rfl⟩
    · rw [List.getElem?_set_ne (Ne.symm hj)] at q
      exact .inr ⟨hj, q⟩
  have ob : ∀ j, Own S (ρ.set i (some o)) j → Own S ρ j := fun j oj => by
    obtain ⟨d, q⟩ := oj.2
    rcases gs j d q with ⟨rfl, _⟩ | ⟨_, q⟩
    · exact oi
    · exact ⟨oj.1, d, q⟩
  have notFi : ∀ j d, j ≠ i → ρ[j]? = some (some d) → ∀ a ∈ Fs j, a ∉ Fs i := fun j d hj e a ha q => by
    cases hk : S.kd j with
    | pl => rw [I.pl j d e hk] at ha; cases ha
    | par => exact (I.own i oi).2 a q (I.parP e hk a ha)
    | own => exact I.dis j i ⟨.inl hk, d, e⟩ oi hj a ha q
    | io => exact I.dis j i ⟨.inr hk, d, e⟩ oi hj a ha q
    | bw => exact (I.own i oi).2 a q (I.bw j d e hk a ha)
  refine ⟨by simpa using I.len, fun j d q => ?_, fun j d q hk => ?_, fun j d q hk => ?_, fun j d q hk => ?_, fun j oj => ?_, fun j k oj ok hjk a ha q => ?_, fun j oj hk => I.iov j (ob j oj) hk, fun a u p q => ?_, I.pdom, fun a u q => ?_⟩
  · rcases gs j d q with ⟨rfl, rfl⟩ | ⟨hj, q⟩
    · exact ⟨w, hw, by simpa using r⟩
    · obtain ⟨v, hv, rv⟩ := I.slot j d q
      refine ⟨v, hv, ?_⟩
      rw [if_neg hj]
      refine rv.keep fun a u hu z => ?_
      rcases chg a u hu with k | k
      · exact k
      · rcases z with z | z
        · obtain ⟨u', hu', mu⟩ := I.mem oi k
          rw [hu] at hu'; cases hu'
          exact absurd mu z
        · exact absurd k (notFi j d hj q a z)
  · rcases gs j d q with ⟨rfl, rfl⟩ | ⟨hj, q⟩
    · rcases oi.1 with z | z <;> rw [hk] at z <;> cases z
    · simp only [if_neg hj]; exact I.pl j d q hk
  · rcases gs j d q with ⟨rfl, rfl⟩ | ⟨hj, q⟩
    · rcases oi.1 with z | z <;> rw [hk] at z <;> cases z
    · simp only [if_neg hj]; exact I.par j d q hk
  · rcases gs j d q with ⟨rfl, rfl⟩ | ⟨hj, q⟩
    · rcases oi.1 with z | z <;> rw [hk] at z <;> cases z
    · simp only [if_neg hj]; exact I.bw j d q hk
  · by_cases hj : j = i
    · subst hj; simp only [if_pos]; exact ⟨nd, np⟩
    · simp only [if_neg hj]; exact I.own j (ob j oj)
  · by_cases hj : j = i
    · subst hj
      simp only [if_pos] at ha
      rw [if_neg (Ne.symm hjk)] at q
      exact dj a ha k (ob k ok) (Ne.symm hjk) q
    · simp only [if_neg hj] at ha
      by_cases hk : k = i
      · subst hk
        simp only [if_pos] at q
        exact dj a q j (ob j oj) hj ha
      · simp only [if_neg hk] at q
        exact I.dis j k (ob j oj) (ob k ok) hjk a ha q
  · rcases chg a u (I.prot a u p q) with k | k
    · exact k
    · rcases p with p | p
      · exact absurd p ((I.own i oi).2 a k)
      · obtain ⟨u', hu', mu⟩ := I.mem oi k
        rw [I.prot a u (.inr p) q] at hu'; cases hu'
        exact absurd mu p
  · obtain ⟨u', z⟩ := I.tr a u q
    cases k : H' a with
    | some u2 => exact ⟨u2, rfl⟩
    | none => rw [dom a k] at z; cases z
theorem xe_callI {x : Str} {f : Addr} {fd : FuncData} {ps : List Str} {n k io s : Nat} {F : List D → Fr} {e : Expr} {es : List Expr} {ea : M (List D)} {p pos : Pos} (tk : Takes X W) (G : FnOk X.prog X.w X.K X.mg X.base (L2.CX X.prog X.w) k f fd ps (spD S.c n (some io) rm F)) (hr : Room k X.A) (hg : Gl X x)
    (hm : X.mg x = some (.ref f)) (hk : PySem.W.keepIn X.K (.ref f) = true) (hb : Binds X.K fd ps []) (ha : XI X S W (e :: es) e1 io s ea) (hrm : rm.fn = true := by rfl) (hne : (e :: es).length = n := by rfl) (hdb : (x == ("__debug__" : Str)) = false := by decide) (he : starEach (e :: es) X.env = (false, eval e X.env) :: starEach es X.env := by rfl)
    (hpl : (backTo pos (starEach es X.env)).any (·.1) = false := by rfl) : XE X S W (.Call (.Name x p) (e :: es) [] pos) rm true (eCallI F s ea) := by
  obtain ⟨ta, pa, ra⟩ := ha.ex
  refine ⟨_, pe_callSD G hr hg hm hk hb .nil (fun σ => passAt tk σ) pa hdb he hpl, fun B ρ σ Fs H Q I h => ra B ρ σ Fs H _ I (h.bind.imp fun ds ρ1 hds h1 vs H1 Fs1 Gs q => ?_)⟩
  obtain ⟨w, hw, hσ, hG⟩ := q.at_
  have oi := q.ow
  refine ⟨B.R, ds, Gs, (ha.len _ _ _ hds).trans hne, ⟨by simpa using q.rep, fun i hi => ?_, fun a ha => q.env.rdH ha⟩, ?_⟩
  · cases hi
    refine ⟨q.lt, by rw [hG]; exact (q.env.own s oi).1, fun j hj hn a ha z => q.sep j hj hn a z s oi ?_⟩
    rw [hG] at ha; exact ha
  have key : ∀ {o H2 Fo}, FEnd S.c B.R (some io) H1 (vs ++ []) Gs o H2 Fo → EnvR S B (ρ1.set s (some o)) σ (fun j => if j = s then Fo else Fs1 j) H2 ∧ Step S true ρ Fs H (ρ1.set s (some o)) (fun j => if j = s then Fo else Fs1 j) H2 := fun {o H2 Fo} fe => by
    obtain ⟨w', hw', r, nd, fo⟩ := fe.out io rfl
    rw [List.append_nil, hw] at hw'
    cases hw'
    have chg : ∀ a u, H1 a = some u → H2 a = some u ∨ a ∈ Fs1 s := fun a u hu => by
      rcases fe.chg a u hu with z | ⟨i, hi, z⟩
      · exact .inl z
      · cases hi; rw [hG] at z; exact .inr z
    have fo' : ∀ a ∈ Fo, H1 a = none ∨ a ∈ Fs1 s := fun a ha => by rw [← hG]; exact fo a ha
    refine ⟨q.env.mut oi hσ chg fe.dom r nd (fun a ha => ?_) fun a ha j oj hj z => ?_, ?_⟩
    · rcases fo' a ha with z | z
      · exact q.env.fresh z
      · exact (q.env.own s oi).2 a z
    · rcases fo' a ha with y | y
      · obtain ⟨u, hu, _⟩ := q.env.mem oj z
        rw [y] at hu; cases hu
      · exact q.env.dis s j oi oj (Ne.symm hj) a y z
    · refine (q.step.trans (e2 := true) ?_).weak fun z => by cases z
      refine ⟨fun a u hu => ?_, fun i a oj ha => ?_, fe.dom, fun z => by cases z⟩
      · rcases chg a u hu with z | z
        · exact .inl z
        · exact .inr ⟨s, oi, z⟩
      · by_cases hi : i = s
        · subst hi
          simp only [if_pos] at ha
          rcases fo' a ha with z | z
          · exact .inl z
          · exact .inr ⟨i, oi, z⟩
        · simp only [if_neg hi] at ha
          obtain ⟨d', q'⟩ := oj.2
          rw [List.getElem?_set_ne (Ne.symm hi)] at q'
          exact .inr ⟨i, ⟨oj.1, d', q'⟩, ha⟩
  cases hf : F ds with
  | st => rw [hf] at h1; exact h1.elim
  | ok d o =>
    rw [hf] at h1
    intro v H2 Fo Gr fe r md
    obtain ⟨I2, s2⟩ := key fe
    refine h1 v H2 _ Gr ⟨I2, r, s2, ?_⟩
    cases rm with
    | pu => exact md
    | bo => trivial
    | al T => exact md.elim
    | fr =>
      have back : ∀ a, H1 a = none ∨ a ∈ Fs1 s → H a = none ∨ ∃ j, Own S ρ j ∧ a ∈ Fs j := fun a z => by
        rcases z with z | z
        · exact .inl (q.step.dom a z)
        · exact q.step.grow s a oi z
      have gm : ∀ a ∈ Gr, H1 a = none ∨ a ∈ Fs1 s := fun a ha => by
        rcases md.2.1 a ha with z | ⟨i, hi, z⟩
        · exact .inl z
        · cases hi; rw [hG] at z; exact .inr z
      refine ⟨md.1, fun a haa => back a (gm a haa), fun i oj a haa z => ?_⟩
      by_cases hi : i = s
      · simp only [if_pos hi] at z
        exact md.2.2 io rfl a haa z
      · simp only [if_neg hi] at z
        obtain ⟨d', q'⟩ := oj.2
        rw [List.getElem?_set_ne (Ne.symm hi)] at q'
        have oj' : Own S ρ1 i := ⟨oj.1, d', q'⟩
        rcases gm a haa with y | y
        · obtain ⟨u, hu, _⟩ := q.env.mem oj' z
          rw [y] at hu; cases hu
        · exact q.env.dis s i oi oj' (Ne.symm hi) a y z
  | er c fs o =>
    rw [hf] at h1
    intro dd H2 Fo fe xd
    exact h1 σ _ H2 dd (key fe).1 xd
end
end EL

namespace EL
open PySem PySem.Spec PyProof.Rows
open L2 hiding XE
/-! ### statements -/
inductive So where
  | nx (ρ : Env) | ret (d : D) (ρ : Env) | bk (ρ : Env) | ct (ρ : Env) | er (c : String) (fs : List (Str × D)) (ρ : Env) | st
abbrev Ms := Env → So
def bindS {α : Type} (r : Rs α) (f : α → Env → So) : So := match r with
  | .ok a ρ => f a ρ
  | .er c fs ρ => .er c fs ρ
  | .st => .st
def RetOk (S : Sig) (B : Base) (rm : Md) (ρ' : Env) (Fs' : Nat → List Addr) (F : List Addr) : Prop := match rm with
  | .pu => F = []
  | .fr => F.Nodup ∧ (∀ a ∈ F, ¬ B.P0 a) ∧ ∀ i, Own S ρ' i → ∀ a ∈ F, a ∉ Fs' i
  | .bo => True
  | .al _ => False
def SWn (S : Sig) (B : Base) (W : WX) (rm : Md) (E : Ends) : So → Prop
  | .nx ρ' => ∀ σ' Fs' H', EnvR S B ρ' σ' Fs' H' → E.nx σ' H'
  | .ret d ρ' => ∀ v σ' Fs' H' F, EnvR S B ρ' σ' Fs' H' → Rep S.c B.R H' d v F → RetOk S B rm ρ' Fs' F → E.rt v H'
  | .bk ρ' => ∀ σ' Fs' H', EnvR S B ρ' σ' Fs' H' → E.bk σ' H'
  | .ct ρ' => ∀ σ' Fs' H', EnvR S B ρ' σ' Fs' H' → E.ct σ' H'
  | .er c fs ρ' => ErW S B W c fs ρ'
  | .st => False
def RS (S : Sig) (W : WX) (rm : Md) (ev : Ms) (t : TS) : Prop :=
  ∀ (B : Base) (ρ : Env) (σ : L2.St) (Fs : Nat → List Addr) (H : Hp) (E : Ends), EnvR S B ρ σ Fs H → SWn S B W rm E (ev ρ) → t E σ H
structure XS (X : Cx) (S : Sig) (W : WX) (rm : Md) (s : Stmt) (ev : Ms) : Prop where
  ex : ∃ t, PS X s t ∧ RS S W rm ev t
structure XSs (X : Cx) (S : Sig) (W : WX) (rm : Md) (ss : List Stmt) (ev : Ms) : Prop where
  ex : ∃ t, PSs X ss t ∧ RS S W rm ev t
section
variable {X : Cx} {S : Sig} {B : Base} {W : WX} {m m1 m2 rm : Md} {e1 e2 : Bool} {σ : L2.St} {ρ ρ1 ρ' : Env} {Fs Fs1 Fs' : Nat → List Addr} {H H1 H' : Hp} {d : D} {v : V} {F : List Addr} {pos : Pos}
theorem SWn.bind {α : Type} {E : Ends} {r : Rs α} {f : α → Env → So} (h : SWn S B W rm E (bindS r f)) : Wn (ErW S B W) (fun a ρ => SWn S B W rm E (f a ρ)) r := by
  cases r with
  | ok a ρ => exact h
  | er c fs ρ => exact h
  | st => exact h
def sNil : Ms := fun ρ => .nx ρ
def sSeq (a b : Ms) : Ms := fun ρ => match a ρ with | .nx ρ' => b ρ' | r => r
theorem xs_nil : XSs X S W rm [] sNil := ⟨_, pss_nil, fun B ρ σ Fs H E I h => h σ Fs H I⟩
theorem xs_pass : XS X S W rm (.Pass pos) sNil := ⟨_, ps_pass, fun B ρ σ Fs H E I h => h σ Fs H I⟩
theorem xs_cons {s : Stmt} {ss : List Stmt} {a b : Ms} (ha : XS X S W rm s a) (hb : XSs X S W rm ss b) : XSs X S W rm (s :: ss) (sSeq a b) := by
  obtain ⟨ta, pa, ra⟩ := ha.ex
  obtain ⟨tb, pb, rb⟩ := hb.ex
  refine ⟨_, pss_cons pa pb, fun B ρ σ Fs H E I h => ra B ρ σ Fs H _ I ?_⟩
  unfold sSeq at h
  cases q : a ρ with
  | nx ρ' => rw [q] at h; exact fun σ' Fs' H' I' => rb B ρ' σ' Fs' H' E I' h
  | ret d ρ' => rw [q] at h; exact h
  | bk ρ' => rw [q] at h; exact h
  | ct ρ' => rw [q] at h; exact h
  | er c fs ρ' => rw [q] at h; exact h
  | st => rw [q] at h; exact h
theorem xs_one {s : Stmt} {a : Ms} (ha : XS X S W rm s a) : XSs X S W rm [s] a := by
  obtain ⟨ta, pa, ra⟩ := ha.ex
  exact ⟨_, pss_one pa, ra⟩
def sDrop (a : M D) : Ms := fun ρ => bindS (a ρ) fun _ ρ => .nx ρ
theorem xs_expr {e : Expr} {a : M D} (ha : XE X S W e m e1 a) (hs : swapsWith e none pos.line X.env = Pure.pure false := by rfl) : XS X S W rm (.Expr e pos) (sDrop a) := by
  obtain ⟨ta, pa, ra⟩ := ha.ex
  exact ⟨_, ps_expr pa hs, fun B ρ σ Fs H E I h => ra B ρ σ Fs H _ I (h.bind.imp fun d ρ1 _ h1 v H1 Fs1 F q => h1 σ Fs1 H1 q.env)⟩
def sRet (a : M D) : Ms := fun ρ => bindS (a ρ) fun d ρ => .ret d ρ
theorem RetOk.of (q : Post S B m e1 σ ρ Fs H ρ1 d v H1 Fs1 F) (I : EnvR S B ρ σ Fs H) (z : m.le rm = true) (hrm : rm.fn = true) : RetOk S B rm ρ1 Fs1 F := by
  have h := q.md.le z
  cases rm with
  | bo => trivial
  | pu => exact h
  | al T => cases hrm
  | fr =>
    refine ⟨h.1, fun a ha => ?_, h.2.2⟩
    rcases h.2.1 a ha with n | ⟨j, oj, mj⟩
    · exact I.fresh n
    · exact (I.own j oj).2 a mj
theorem xs_ret {e : Expr} {a : M D} (ha : XE X S W e m e1 a) (z : m.le rm = true := by rfl) (hrm : rm.fn = true := by rfl) : XS X S W rm (.Return (some e) pos) (sRet a) := by
  obtain ⟨ta, pa, ra⟩ := ha.ex
  exact ⟨_, ps_ret pa, fun B ρ σ Fs H E I h => ra B ρ σ Fs H _ I (h.bind.imp fun d ρ1 _ h1 v H1 Fs1 F q => h1 v σ Fs1 H1 F q.env q.rep (RetOk.of q I z hrm))⟩
def sRetN : Ms := fun ρ => .ret .non ρ
theorem RetOk.nil (hrm : rm.fn = true) : RetOk S B rm ρ' Fs' [] := by
  cases rm with
  | bo => trivial
  | pu => rfl
  | al T => cases hrm
  | fr => exact ⟨List.nodup_nil, (by intro a h; cases h), (by intro _ _ a h; cases h)⟩
theorem xs_retN (hrm : rm.fn = true := by rfl) : XS X S W rm (.Return none pos) sRetN := ⟨_, ps_retN, fun B ρ σ Fs H E I h => h .non σ Fs H [] I .non (RetOk.nil hrm)⟩
def sIf (c : M Bool) (a b : Ms) : Ms := fun ρ => bindS (c ρ) fun k ρ => if k then a ρ else b ρ
theorem xs_if {c : Expr} {a b : List Stmt} {ec : M Bool} {ea eb : Ms} (hc : XT X S W c e1 ec) (ha : XSs X S W rm a ea) (hb : XSs X S W rm b eb) : XS X S W rm (.If c a b pos) (sIf ec ea eb) := by
  obtain ⟨tc, pc, rc⟩ := hc.ex
  obtain ⟨ta, pa, ra⟩ := ha.ex
  obtain ⟨tb, pb, rb⟩ := hb.ex
  refine ⟨_, ps_if pc pa pb, fun B ρ σ Fs H E I h => rc B ρ σ Fs H _ I (h.bind.imp fun k ρ1 _ h1 H1 Fs1 I1 s1 => ?_)⟩
  cases k with
  | true => exact iteT (ra B ρ1 σ Fs1 H1 E I1 h1)
  | false => exact iteF (rb B ρ1 σ Fs1 H1 E I1 h1)
theorem xs_break : XS X S W rm (.Break pos) (fun ρ => .bk ρ) := ⟨_, ps_break, fun B ρ σ Fs H E I h => h σ Fs H I⟩
theorem xs_continue : XS X S W rm (.Continue pos) (fun ρ => .ct ρ) := ⟨_, ps_continue, fun B ρ σ Fs H E I h => h σ Fs H I⟩
/-- a way that is not gone -/
theorem xs_never {s : Stmt} : XS X S W rm s (fun _ => .st) := ⟨_, ps_never, fun B ρ σ Fs H E I h => h.elim⟩
theorem xss_never {s : List Stmt} : XSs X S W rm s (fun _ => .st) := ⟨_, pss_never, fun B ρ σ Fs H E I h => h.elim⟩

/-! ### stores -/
theorem getElem?_set_some {α : Type} {l : List α} {i j : Nat} {x y : α} (h : (l.set i x)[j]? = some y) : (j = i ∧ y = x ∧ i < l.length) ∨ (j ≠ i ∧ l[j]? = some y) := by
  by_cases hj : j = i
  · subst hj
    by_cases hl : j < l.length
    · rw [List.getElem?_set_self hl] at h; cases h; exact .inl ⟨rfl, rfl, hl⟩
    · rw [List.getElem?_eq_none (by simpa using hl)] at h; cases h
  · rw [List.getElem?_set_ne (Ne.symm hj)] at h; exact .inr ⟨hj, h⟩
theorem EnvR.put {i : Nat} (I : EnvR S B ρ σ Fs H) (r : Rep S.c B.R H d v F) (h : (S.kd i = .pl ∧ F = []) ∨ (S.kd i = .bw ∧ ∀ a ∈ F, B.P0 a) ∨ (S.kd i = .own ∧ F.Nodup ∧ (∀ a ∈ F, ¬ B.P0 a) ∧ ∀ j, Own S ρ j → j ≠ i → ∀ a ∈ F, a ∉ Fs j)) :
    EnvR S B (ρ.set i (some d)) (σ.set i (some v)) (fun j => if j = i then F else Fs j) H := by
  have gs : ∀ j d', (ρ.set i (some d))[j]? = some (some d') → (j = i ∧ d' = d ∧ i < ρ.length) ∨ (j ≠ i ∧ ρ[j]? = some (some d')) := fun j d' q => by
    rcases getElem?_set_some q with ⟨a, b, c⟩ | z
    · exact .inl ⟨a, Option.some.inj b, c⟩
    · exact .inr z
  have ob : ∀ j, Own S (ρ.set i (some d)) j → j ≠ i → Own S ρ j := fun j oj hj => by
    obtain ⟨d', q⟩ := oj.2
    rcases gs j d' q with ⟨z, _⟩ | ⟨_, q⟩
    · exact absurd z hj
    · exact ⟨oj.1, d', q⟩
  have ow : ∀ j, Own S (ρ.set i (some d)) j → j = i → F.Nodup ∧ (∀ a ∈ F, ¬ B.P0 a) ∧ ∀ j, Own S ρ j → j ≠ i → ∀ a ∈ F, a ∉ Fs j := fun j oj hj => by
    subst hj
    rcases h with ⟨hk, _⟩ | ⟨hk, _⟩ | ⟨_, z⟩
    · rcases oj.1 with z | z <;> rw [hk] at z <;> cases z
    · rcases oj.1 with z | z <;> rw [hk] at z <;> cases z
    · exact z
  refine ⟨by simpa using I.len, fun j d' q => ?_, fun j d' q hk => ?_, fun j d' q hk => ?_, fun j d' q hk => ?_, fun j oj => ?_, fun j k oj ok hjk a ha q => ?_, fun j oj hk => ?_, I.prot, I.pdom, I.tr⟩
  · rcases gs j d' q with ⟨rfl, rfl, hl⟩ | ⟨hj, q⟩
    · exact ⟨v, List.getElem?_set_self (by rw [← I.len]; exact hl), by simpa using r⟩
    · obtain ⟨w, hw, rw'⟩ := I.slot j d' q
      exact ⟨w, by rw [List.getElem?_set_ne (Ne.symm hj)]; exact hw, by simpa [hj] using rw'⟩
  · rcases gs j d' q with ⟨rfl, rfl, hl⟩ | ⟨hj, q⟩
    · rcases h with ⟨_, z⟩ | ⟨z, _⟩ | ⟨z, _⟩
      · simpa using z
      · rw [hk] at z; cases z
      · rw [hk] at z; cases z
    · simp only [if_neg hj]; exact I.pl j d' q hk
  · rcases gs j d' q with ⟨rfl, rfl, hl⟩ | ⟨hj, q⟩
    · rcases h with ⟨z, _⟩ | ⟨z, _⟩ | ⟨z, _⟩ <;> rw [hk] at z <;> cases z
    · simp only [if_neg hj]; rw [List.getElem?_set_ne (Ne.symm hj)]; exact I.par j d' q hk
  · rcases gs j d' q with ⟨rfl, rfl, hl⟩ | ⟨hj, q⟩
    · rcases h with ⟨z, _⟩ | ⟨_, z⟩ | ⟨z, _⟩
      · rw [hk] at z; cases z
      · simpa using z
      · rw [hk] at z; cases z
    · simp only [if_neg hj]; exact I.bw j d' q hk
  · by_cases hj : j = i
    · simp only [if_pos hj]; exact ⟨(ow j oj hj).1, (ow j oj hj).2.1⟩
    · simp only [if_neg hj]; exact I.own j (ob j oj hj)
  · by_cases hj : j = i
    · simp only [if_pos hj] at ha
      have hk : k ≠ i := fun z => hjk (hj.trans z.symm)
      simp only [if_neg hk] at q
      exact (ow j oj hj).2.2 k (ob k ok hk) hk a ha q
    · simp only [if_neg hj] at ha
      by_cases hk : k = i
      · simp only [if_pos hk] at q
        exact (ow k ok hk).2.2 j (ob j oj hj) hj a q ha
      · simp only [if_neg hk] at q
        exact I.dis j k (ob j oj hj) (ob k ok hk) hjk a ha q
  · by_cases hj : j = i
    · subst hj
      rcases h with ⟨z, _⟩ | ⟨z, _⟩ | ⟨z, _⟩ <;> rw [hk] at z <;> cases z
    · rw [List.getElem?_set_ne (Ne.symm hj)]; exact I.iov j (ob j oj hj) hk
/-- what may be stored in slot i -/
def putMd (S : Sig) (i : Nat) (m : Md) : Bool := match S.kd i with | .pl => (match m with | .pu => true | _ => false) | .own => m.le .fr | _ => false
theorem put_ok {i : Nat} (q : Post S B m e1 σ ρ Fs H ρ1 d v H1 Fs1 F) (I : EnvR S B ρ σ Fs H) (z : putMd S i m = true) : EnvR S B (ρ1.set i (some d)) (σ.set i (some v)) (fun j => if j = i then F else Fs1 j) H1 := by
  refine q.env.put q.rep ?_
  unfold putMd at z
  cases hk : S.kd i with
  | pl => rw [hk] at z; cases m <;> first | exact .inl ⟨rfl, q.md⟩ | cases z
  | par => rw [hk] at z; cases z
  | io => rw [hk] at z; cases z
  | bw => rw [hk] at z; cases z
  | own =>
    rw [hk] at z
    have h := RetOk.of (rm := .fr) q I z rfl
    exact .inr (.inr ⟨rfl, h.1, h.2.1, fun j oj _ a ha => h.2.2 j oj a ha⟩)
def sSet (i : Nat) (a : M D) : Ms := fun ρ => bindS (a ρ) fun d ρ => .nx (ρ.set i (some d))
theorem xs_set (i : Nat) {x : Str} {pos' : Pos} {e : Expr} {a : M D} (hN : X.N.Nodup) (ha : XE X S W e m e1 a) (z : putMd S i m = true := by rfl) (hi : X.N[i]? = some x := by rfl) (hx : Loc X.env.scope x := by first | exact Or.inl rfl | exact Or.inr rfl) (hs : swapsWith e (some (.Name x pos')) pos.line X.env = Pure.pure false := by rfl)
    (hf : X.fn x = true ∨ X.env.scope.names.lookup x = some .local := by first | exact .inl rfl | exact .inr rfl) : XS X S W rm (.Assign [.Name x pos'] e pos) (sSet i a) := by
  obtain ⟨ta, pa, ra⟩ := ha.ex
  exact ⟨_, ps_set hN hi hx pa hs hf, fun B ρ σ Fs H E I h => ra B ρ σ Fs H _ I (h.bind.imp fun d ρ1 _ h1 v H1 Fs1 F q => h1 _ _ H1 (put_ok q I z))⟩
end
end EL

namespace EL
open PySem PySem.Spec PyProof.Rows
open L2 hiding XE
/-! ### a def and its body -/
def outOf (io : Option Nat) (ρ : Env) : Option D := match io with
  | none => some .non
  | some p => match ρ[p]? with | some (some d) => some d | _ => none
def endOf (io : Option Nat) : So → Fr
  | .ret d ρ => match outOf io ρ with | some o => .ok d o | none => .st
  | .nx ρ => match outOf io ρ with | some o => .ok .non o | none => .st
  | .er c fs ρ => match outOf io ρ with | some o => .er c fs o | none => .st
  | _ => .st
def plOk (pls : List Nat) (ds : List D) : Bool := pls.all fun i => match ds[i]? with | some d => pureD d | none => false
/-- the body's value for such arguments: n of them, N slots, those of pls plain -/
def runF (n N : Nat) (pls : List Nat) (io : Option Nat) (ev : Ms) (ds : List D) : Fr :=
  if plOk pls ds then endOf io (ev (ds.map some ++ List.replicate (N - n) none)) else .st
def kdOk (n : Nat) (pls : List Nat) (io : Option Nat) (kd : Nat → Kd) : Bool := (List.range n).all fun i => match kd i with
  | .par => true | .pl => pls.contains i | .io => io == some i | .own => false | .bw => false
section
variable {P : Program} {w : World} {K : PySem.W.Frag} {mg : Str → Option Value} {base : Heap}
theorem start_get {N : List Str} {vs : List V} {i : Nat} {v : V} (h : vs[i]? = some v) : (L2.start N vs)[i]? = some (some v) := by
  unfold L2.start
  have hl : i < vs.length := (List.getElem?_eq_some_iff.mp h).1
  rw [List.getElem?_append_left (by simpa using hl), List.getElem?_map, h]; rfl
theorem entry_get {ds : List D} {k i : Nat} {d : D} (h : (ds.map some ++ List.replicate k none)[i]? = some (some d)) : ds[i]? = some d := by
  by_cases hl : i < ds.length
  · rw [List.getElem?_append_left (by simpa using hl), List.getElem?_map] at h
    cases q : ds[i]? with
    | none => rw [q] at h; cases h
    | some u => rw [q] at h; cases h; rfl
  · rw [List.getElem?_append_right (by simpa using hl)] at h
    rw [List.getElem?_replicate] at h
    split at h <;> cases h
theorem fn_ok {x qual : Str} {params : Arguments} {body : List Stmt} {scope : Scope} {dvs : List V} {kws : List (Str × V)} {f : Addr} {fd : FuncData} {N ps : List Str} {k n : Nat} {pls : List Nat} {io : Option Nat} {rm : Md} {C : Core} {ks : List Kd} {ev : Ms} (F : FunD K x qual params body scope dvs kws f fd) (sc : FnScope N ps scope) (hn : ps.length = n) (hk : kdOk n pls io (kdOf ks) = true) (hrm : rm.fn = true) (hio : ∀ i ∈ io, i < n ∧ kdOf ks i = .io)
    (hbody : ∀ (cdv : Value) (A : Around) (outer : List PySem.Env) (s : Shared) (H : Hp) (E : XK), Room k (A.deeper (envOfC qual scope s.heap.objs.size f cdv)) →
      XSs (cxOf (L2.CX P w) P w K mg base N qual scope f cdv A outer s H E) (sg C ks) (fun cls d _ H' => E cls d H') rm body ev) :
    FnOk P w K mg base (L2.CX P w) (k + 1) f fd ps (spD C n io rm (runF n N.length pls io ev)) := by
  refine F.ok sc (fun vs H Q E h => (spD.len h).trans hn.symm) (fun cdv A outer s H vs Q E hr h => ?_)
  obtain ⟨t, pt, rt⟩ := (hbody cdv A outer s H E hr).ex
  refine ⟨t, pt, ?_⟩
  obtain ⟨R, ds, Fs, hl, ha, hw⟩ := h
  unfold runF at hw
  split at hw
  case isFalse => exact hw.elim
  rename_i hpl
  have hkd : ∀ i, i < n → kdOf ks i = .par ∨ (kdOf ks i = .pl ∧ i ∈ pls) ∨ (kdOf ks i = .io ∧ io = some i) := fun i hi => by
    have := List.all_eq_true.mp hk i (List.mem_range.mpr hi)
    cases q : kdOf ks i <;> rw [q] at this
    · exact .inr (.inl ⟨rfl, by simpa using this⟩)
    · exact .inl rfl
    · cases this
    · exact .inr (.inr ⟨rfl, by simpa using this⟩)
    · cases this
  have hvl : vs.length = n := by rw [← ha.rep.len]; exact hl
  have nN : n ≤ N.length := by
    have := congrArg List.length sc.pre
    rw [List.length_take, hn] at this
    omega
  have wf0 : ∀ i d, ds[i]? = some d → kdOf ks i = .par → ∀ a ∈ Fs i, (∃ o, H a = some o) ∧ ∀ i ∈ io, a ∉ Fs i := fun i d e1 hk'' a haa => by
    obtain ⟨v, hv, r⟩ := ha.rep.get i d e1
    refine ⟨let ⟨o, z, _⟩ := r.mem a haa; ⟨o, z⟩, fun j hj q => ?_⟩
    have ne : i ≠ j := fun z => by
      subst z
      rw [(hio i hj).2] at hk''; cases hk''
    exact (ha.own j hj).2.2 i (List.getElem?_eq_some_iff.mp e1).1 ne a q haa
  let B : Base := ⟨R, fun a => (∃ o, H a = some o) ∧ ∀ i ∈ io, a ∉ Fs i, H, fun i => (vs[i]?).getD .non, fun i => if kdOf ks i = .par ∧ i < ds.length then Fs i else [], fun i a haa => by
    split at haa
    · rename_i hc
      exact wf0 i _ (List.getElem?_eq_getElem hc.2) hc.1 a haa
    · exact (nomatch haa), ha.rd⟩
  have I : EnvR (sg C ks) B (ds.map some ++ List.replicate (N.length - n) none) (L2.start N vs) Fs H := by
    have gt : ∀ i d, (ds.map some ++ List.replicate (N.length - n) none)[i]? = some (some d) → ds[i]? = some d ∧ i < n := fun i d e => by
      have := entry_get e
      exact ⟨this, by rw [← hl]; exact (List.getElem?_eq_some_iff.mp this).1⟩
    have io_of : ∀ i, Own (sg C ks) (ds.map some ++ List.replicate (N.length - n) none) i → io = some i ∧ kdOf ks i = .io := fun i oi => by
      obtain ⟨d, e⟩ := oi.2
      rcases hkd i (gt i d e).2 with z | ⟨z, _⟩ | ⟨z, y⟩
      · rcases oi.1 with q | q <;> (have q' : kdOf ks i = _ := q; rw [z] at q'; cases q')
      · rcases oi.1 with q | q <;> (have q' : kdOf ks i = _ := q; rw [z] at q'; cases q')
      · exact ⟨y, z⟩
    refine ⟨by simp [L2.start, hl, hvl], fun i d e => ?_, fun i d e hk' => ?_, fun i d e hk' => ?_, fun i d e hk' => ?_, fun i oi => ?_, fun i j oi oj hij => ?_, fun i oi _ => ?_, fun a o p q => q, fun a p => p.1, fun a o q => ⟨o, q⟩⟩
    · obtain ⟨v, hv, r⟩ := ha.rep.get i d (gt i d e).1
      exact ⟨v, start_get hv, r⟩
    · obtain ⟨e1, hi⟩ := gt i d e
      obtain ⟨v, hv, r⟩ := ha.rep.get i d e1
      have hk'' : kdOf ks i = .pl := hk'
      rcases hkd i hi with z | ⟨z, y⟩ | ⟨z, _⟩
      · rw [hk''] at z; cases z
      · have := List.all_eq_true.mp hpl i y
        rw [e1] at this
        exact r.pure this
      · rw [hk''] at z; cases z
    · obtain ⟨e1, hi⟩ := gt i d e
      obtain ⟨v, hv, r⟩ := ha.rep.get i d e1
      have hk'' : kdOf ks i = .par := hk'
      refine ⟨(if_pos ⟨hk'', by rw [hl]; exact hi⟩).symm, ?_⟩
      show (L2.start N vs)[i]? = some (some ((vs[i]?).getD .non))
      rw [start_get hv, hv]; rfl
    · have hk'' : kdOf ks i = .bw := hk'
      rcases hkd i (gt i d e).2 with z | ⟨z, y⟩ | ⟨z, _⟩ <;> rw [hk''] at z <;> cases z
    · obtain ⟨y, _⟩ := io_of i oi
      have h2 := ha.own i y
      exact ⟨h2.2.1, fun a haa p => p.2 i y haa⟩
    · exact absurd (Option.some.inj ((io_of i oi).1.symm.trans (io_of j oj).1)) hij
    · obtain ⟨d, e⟩ := oi.2
      obtain ⟨v, hv, r⟩ := ha.rep.get i d (gt i d e).1
      show (L2.start N vs)[i]? = some (some ((vs[i]?).getD .non))
      rw [start_get hv, hv]; rfl
  have fin : ∀ {ρ' σ' Fs' H' o}, EnvR (sg C ks) B ρ' σ' Fs' H' → outOf io ρ' = some o → ∃ Fo, FEnd C R io H vs Fs o H' Fo ∧ ∀ {G}, RetOk (sg C ks) B rm ρ' Fs' G → FMd io rm H Fs Fo G := fun {ρ' σ' Fs' H' o} J ho => by
    have chg : ∀ a u, H a = some u → H' a = some u ∨ ∃ i ∈ io, a ∈ Fs i := fun a u hu => by
      by_cases hp : ∃ i ∈ io, a ∈ Fs i
      · exact .inr hp
      · exact .inl (J.prot a u (.inl ⟨⟨u, hu⟩, fun i hi q => hp ⟨i, hi, q⟩⟩) hu)
    have dom : ∀ a, H' a = none → H a = none := fun a h' => by
      cases q : H a with
      | none => rfl
      | some u => obtain ⟨u', z⟩ := J.tr a u q; rw [h'] at z; cases z
    have np : ∀ a, ¬ B.P0 a → H a = none ∨ ∃ i ∈ io, a ∈ Fs i := fun a hp => by
      cases q : H a with
      | none => exact .inl rfl
      | some u =>
        refine .inr (Classical.byContradiction fun z => hp ⟨⟨u, q⟩, fun i hi y => z ⟨i, hi, y⟩⟩)
    cases io with
    | none =>
      refine ⟨[], ⟨chg, dom, fun i hi => by cases hi⟩, fun {G} r => ?_⟩
      cases rm with
      | bo => trivial
      | pu => exact r
      | al T => cases hrm
      | fr => exact ⟨r.1, fun a haa => np a (r.2.1 a haa), fun i hi => by cases hi⟩
    | some p =>
      unfold outOf at ho
      simp only at ho
      split at ho
      case h_2 => cases ho
      rename_i d e
      cases ho
      have op : Own (sg C ks) ρ' p := ⟨.inr (hio p rfl).2, o, e⟩
      obtain ⟨v, hv, r⟩ := J.slot p o e
      have iv := J.iov p op (hio p rfl).2
      rw [hv] at iv
      have ev' : v = (vs[p]?).getD .non := Option.some.inj (Option.some.inj iv)
      have hp : p < vs.length := by rw [hvl]; exact (hio p rfl).1
      refine ⟨Fs' p, ⟨chg, dom, fun i hi => ?_⟩, fun {G} rr => ?_⟩
      · cases hi
        refine ⟨v, ?_, r, (J.own p op).1, fun a haa => ?_⟩
        · rw [List.getElem?_eq_getElem hp] at ev' ⊢
          rw [ev']; rfl
        · rcases np a ((J.own p op).2 a haa) with z | ⟨i, hi, z⟩
          · exact .inl z
          · cases hi; exact .inr z
      · cases rm with
        | bo => trivial
        | pu => exact rr
        | al T => cases hrm
        | fr => exact ⟨rr.1, fun a haa => np a (rr.2.1 a haa), fun i hi => by cases hi; exact rr.2.2 p op⟩
  refine rt B _ _ Fs H _ I ?_
  unfold endOf at hw
  split at hw
  · rename_i d ρ' he
    rw [he]
    split at hw
    · rename_i o ho
      intro v σ' Fs' H' G J r rr
      obtain ⟨Fo, fe, fm⟩ := fin J ho
      exact hw v H' Fo G fe r (fm rr)
    · exact hw.elim
  · rename_i ρ' he
    rw [he]
    split at hw
    · rename_i o ho
      intro σ' Fs' H' J
      obtain ⟨Fo, fe, fm⟩ := fin J ho
      exact hw .non H' Fo [] fe .non (fm (RetOk.nil hrm))
    · exact hw.elim
  · rename_i c fs ρ' he
    rw [he]
    split at hw
    · rename_i o ho
      intro σ' Fs' H' dd J xd
      obtain ⟨Fo, fe, fm⟩ := fin J ho
      exact hw dd H' Fo fe xd
    · exact hw.elim
  · exact hw.elim
end
end EL

namespace EL
open PySem PySem.Spec PyProof.Rows
open L2 hiding XE
/-- the slots of T are only read -/
def lockS (S : Sig) (T : List Nat) : Sig := match T with
  | [] => S
  | i :: T => ⟨S.c, fun j => if (i :: T).contains j then .par else S.kd j, S.n, fun j h => by
      split
      · intro z; cases z
      · exact S.fin j h⟩
theorem lockS_c (S : Sig) (T : List Nat) : (lockS S T).c = S.c := by cases T <;> rfl
theorem lockS_n (S : Sig) (T : List Nat) : (lockS S T).n = S.n := by cases T <;> rfl
theorem lockS_in {S : Sig} {T : List Nat} {j : Nat} (h : j ∈ T) : (lockS S T).kd j = .par := by
  cases T with
  | nil => cases h
  | cons i T => show (if _ then _ else _) = _; rw [if_pos]; simpa using h
theorem lockS_out {S : Sig} {T : List Nat} {j : Nat} (h : j ∉ T) : (lockS S T).kd j = S.kd j := by
  cases T with
  | nil => rfl
  | cons i T => show (if _ then _ else _) = _; rw [if_neg]; simpa using h
def Live (ρ : Env) (i : Nat) : Prop := ∃ d, ρ[i]? = some (some d)
/-- own, handed in to be changed, or lent -/
def hasT (S : Sig) (s : Nat) : Bool := match S.kd s with | .own => true | .io => true | .bw => true | _ => false
theorem hasT_own {S : Sig} {s : Nat} (h : hasT S s = true) : S.kd s = .own ∨ S.kd s = .io ∨ S.kd s = .bw := by
  unfold hasT at h
  cases q : S.kd s <;> rw [q] at h <;> first | exact .inl rfl | exact .inr (.inl rfl) | exact .inr (.inr rfl) | cases h
/-- every lent slot is emptied or only read -/
def bwOk (S : Sig) (ws T : List Nat) : Bool := (List.range S.n).all fun i => (match S.kd i with | .bw => false | _ => true) || ws.contains i || T.contains i
theorem bwOk_of {S : Sig} {ws T : List Nat} (h : bwOk S ws T = true) {i : Nat} (hk : S.kd i = .bw) : i ∈ ws ∨ i ∈ T := by
  have hl : i < S.n := Nat.lt_of_not_le fun z => S.fin i z hk
  have := List.all_eq_true.mp h i (List.mem_range.mpr hl)
  rw [hk] at this
  simpa using this
/-- the ground of a loop: what it walks, Fp, and the slots T stand still -/
structure Lk (S : Sig) (B : Base) (T : List Nat) (ρ : Env) (σ : L2.St) (Fs : Nat → List Addr) (H : Hp) (Fp : List Addr) (B' : Base) : Prop where
  R : B'.R = B.R
  P0 : ∀ a, B'.P0 a ↔ B.P0 a ∨ a ∈ Fp ∨ ∃ i ∈ T, Live ρ i ∧ a ∈ Fs i
  H0 : B'.H0 = H
  ivT : ∀ i ∈ T, S.kd i ≠ .io → ∀ v, σ[i]? = some (some v) → B'.iv i = v
  iv : ∀ i, i ∉ T ∨ S.kd i = .io → B'.iv i = B.iv i
  FpT : ∀ i ∈ T, (Live ρ i → B'.Fp i = Fs i) ∧ (¬ Live ρ i → B'.Fp i = [])
  Fp : ∀ i, i ∉ T → B'.Fp i = B.Fp i
section
variable {X : Cx} {S : Sig} {B B' : Base} {W : WX} {m m1 m2 rm : Md} {e1 e2 : Bool} {σ σ' : L2.St} {ρ ρ1 ρ' : Env} {Fs Fs1 Fs' : Nat → List Addr} {H H1 H' : Hp} {d : D} {v : V} {F Fp : List Addr} {pos : Pos} {T ws : List Nat}
theorem Own.live {i : Nat} (h : Own S ρ i) : Live ρ i := h.2
open Classical in
theorem Lk.mk' (S : Sig) (B : Base) (T : List Nat) (ρ : Env) (σ : L2.St) (Fs : Nat → List Addr) (H : Hp) (Fp : List Addr) (rd : ∀ a, B.R a → ∃ o, H a = some o) : ∃ B', Lk S B T ρ σ Fs H Fp B' := by
  refine ⟨⟨B.R, fun a => B.P0 a ∨ a ∈ Fp ∨ ∃ i ∈ T, Live ρ i ∧ a ∈ Fs i, H, fun i => if i ∈ T ∧ S.kd i ≠ .io then (match σ[i]? with | some (some v) => v | _ => .non) else B.iv i, fun i => if i ∈ T then (if Live ρ i then Fs i else []) else B.Fp i, fun i a ha => ?_, rd⟩, rfl, fun a => Iff.rfl, rfl, fun i hi hk v hv => ?_, fun i hi => ?_, fun i hi => ⟨fun o => ?_, fun o => ?_⟩, fun i hi => ?_⟩
  · split at ha
    · rename_i hi
      split at ha
      · rename_i ho; exact .inr (.inr ⟨i, hi, ho, ha⟩)
      · cases ha
    · exact .inl (B.wf i a ha)
  · simp only [if_pos (And.intro hi hk), hv]
  · have : ¬ (i ∈ T ∧ S.kd i ≠ .io) := fun z => hi.elim (fun q => q z.1) fun q => z.2 q
    simp only [if_neg this]
  · simp only [if_pos hi, if_pos o]
  · simp only [if_pos hi, if_neg o]
  · simp only [if_neg hi]
theorem own_lock {i : Nat} (h : Own (lockS S T) ρ i) : Own S ρ i ∧ i ∉ T := by
  by_cases hi : i ∈ T
  · rcases h.1 with z | z <;> rw [lockS_in hi] at z <;> cases z
  · exact ⟨⟨by rw [← lockS_out hi]; exact h.1, h.2⟩, hi⟩
theorem own_unlock {i : Nat} (h : Own S ρ i) (hi : i ∉ T) : Own (lockS S T) ρ i := ⟨by rw [lockS_out hi]; exact h.1, h.2⟩
/-- the slots vs emptied -/
def wipeE (ρ : Env) : List Nat → Env
  | [] => ρ
  | v :: vs => (wipeE ρ vs).set v none
theorem wipeE_length (ρ : Env) : ∀ vs, (wipeE ρ vs).length = ρ.length
  | [] => rfl
  | v :: vs => by unfold wipeE; rw [List.length_set, wipeE_length ρ vs]
theorem wipeE_some {ρ : Env} {i : Nat} {d : D} : ∀ {vs : List Nat}, (wipeE ρ vs)[i]? = some (some d) → ρ[i]? = some (some d) ∧ i ∉ vs
  | [], h => ⟨h, by simp⟩
  | v :: vs, h => by
    unfold wipeE at h
    by_cases hi : v = i
    · subst hi
      by_cases hv : v < (wipeE ρ vs).length
      · rw [List.getElem?_set_self hv] at h; cases h
      · rw [List.getElem?_eq_none (by simpa using hv)] at h; cases h
    · rw [List.getElem?_set_ne hi] at h
      obtain ⟨h1, h2⟩ := wipeE_some h
      exact ⟨h1, by simp only [List.mem_cons, not_or]; exact ⟨fun e => hi e.symm, h2⟩⟩
theorem EnvR.drop (I : EnvR S B ρ σ Fs H) : EnvR S B (wipeE ρ ws) σ Fs H := by
  have g : ∀ i d, (wipeE ρ ws)[i]? = some (some d) → ρ[i]? = some (some d) ∧ i ∉ ws := fun i d e => wipeE_some e
  have ob : ∀ i, Own S (wipeE ρ ws) i → Own S ρ i := fun i oi => by
    obtain ⟨d, e⟩ := oi.2
    exact ⟨oi.1, d, (g i d e).1⟩
  exact ⟨by rw [wipeE_length]; exact I.len, fun i d e => I.slot i d (g i d e).1, fun i d e => I.pl i d (g i d e).1, fun i d e => I.par i d (g i d e).1, fun i d e => I.bw i d (g i d e).1,
    fun i oi => I.own i (ob i oi), fun i j oi oj => I.dis i j (ob i oi) (ob j oj), fun i oi => I.iov i (ob i oi), I.prot, I.pdom, I.tr⟩
/-- what the loop's ground asks of what is walked -/
structure Wk (S : Sig) (B : Base) (T : List Nat) (ρ : Env) (Fs : Nat → List Addr) (H : Hp) (Fp : List Addr) : Prop where
  tk : ∀ a ∈ Fp, ∃ o, H a = some o
  sep : ∀ a ∈ Fp, ∀ i, Own S ρ i → a ∈ Fs i → i ∈ T
  has : ∀ i ∈ T, hasT S i = true
theorem EnvR.lock (I : EnvR S B ρ σ Fs H) (wk : Wk S B T ρ Fs H Fp) (lk : Lk S B T ρ σ Fs H Fp B') : EnvR (lockS S T) B' ρ σ Fs H := by
  refine ⟨I.len, fun i d e => ?_, fun i d e hk => ?_, fun i d e hk => ?_, fun i d e hk a ha => ?_, fun i oi => ?_, fun i j oi oj => I.dis i j (own_lock oi).1 (own_lock oj).1, fun i oi hk => ?_, fun a o p q => ?_, fun a p => ?_, fun a o q => ?_⟩
  · obtain ⟨v, hv, r⟩ := I.slot i d e
    exact ⟨v, hv, by rw [lockS_c, lk.R]; exact r⟩
  · by_cases hi : i ∈ T
    · rw [lockS_in hi] at hk; cases hk
    · rw [lockS_out hi] at hk; exact I.pl i d e hk
  · by_cases hi : i ∈ T
    · obtain ⟨v, hv, r⟩ := I.slot i d e
      refine ⟨((lk.FpT i hi).1 ⟨d, e⟩).symm, ?_⟩
      by_cases z : S.kd i = .io
      · rw [lk.iv i (.inr z)]; exact I.iov i ⟨.inr z, d, e⟩ z
      · rw [hv, lk.ivT i hi z v hv]
    · rw [lockS_out hi] at hk
      rw [lk.Fp i hi, lk.iv i (.inl hi)]; exact I.par i d e hk
  · by_cases hi : i ∈ T
    · rw [lockS_in hi] at hk; cases hk
    · rw [lockS_out hi] at hk
      exact (lk.P0 a).mpr (.inl (I.bw i d e hk a ha))
  · obtain ⟨o, hi⟩ := own_lock oi
    refine ⟨(I.own i o).1, fun a ha p => ?_⟩
    rcases (lk.P0 a).mp p with z | z | ⟨j, hj, ⟨d', e'⟩, z⟩
    · exact (I.own i o).2 a ha z
    · exact hi (wk.sep a z i o ha)
    · have ne : i ≠ j := fun q => hi (q ▸ hj)
      rcases hasT_own (wk.has j hj) with k | k | k
      · exact I.dis i j o ⟨.inl k, d', e'⟩ ne a ha z
      · exact I.dis i j o ⟨.inr k, d', e'⟩ ne a ha z
      · exact (I.own i o).2 a ha (I.bw j d' e' k a z)
  · obtain ⟨o, hi⟩ := own_lock oi
    rw [lk.iv i (.inl hi)]
    rw [lockS_out hi] at hk
    exact I.iov i o hk
  · rw [lk.H0] at q; exact q
  · rw [lk.H0]
    rcases (lk.P0 a).mp p with z | z | ⟨j, hj, ⟨d', e'⟩, z⟩
    · obtain ⟨o, q⟩ := I.pdom a z
      exact ⟨o, I.prot a o (.inl z) q⟩
    · exact wk.tk a z
    · obtain ⟨v, hv, r⟩ := I.slot j d' e'
      exact r.some a z
  · rw [lk.H0] at q; exact ⟨o, q⟩
theorem EnvR.unlock {ρ0 : Env} {σ0 : L2.St} {Fs0 : Nat → List Addr} {H0 : Hp} (I : EnvR S B ρ0 σ0 Fs0 H0) (wk : Wk S B T ρ0 Fs0 H0 Fp) (lk : Lk S B T ρ0 σ0 Fs0 H0 Fp B') (J : EnvR (lockS S T) B' ρ σ Fs H) (hw : ∀ i, Live ρ i → S.kd i = .bw → i ∈ T) : EnvR S B ρ σ Fs H := by
  have fT : ∀ i ∈ T, ∀ d, ρ[i]? = some (some d) → Fs i = B'.Fp i ∧ σ[i]? = some (some (B'.iv i)) := fun i hi d e => J.par i d e (lockS_in hi)
  have fN : ∀ i ∈ T, ∀ d, ρ[i]? = some (some d) → ∀ a ∈ Fs i, Live ρ0 i ∧ a ∈ Fs0 i := fun i hi d e a ha => by
    rw [(fT i hi d e).1] at ha
    by_cases o : Live ρ0 i
    · exact ⟨o, by rw [← (lk.FpT i hi).1 o]; exact ha⟩
    · rw [(lk.FpT i hi).2 o] at ha; cases ha
  refine ⟨J.len, fun i d e => ?_, fun i d e hk => ?_, fun i d e hk => ?_, fun i d e hk a ha => ?_, fun i oi => ?_, fun i j oi oj hij a ha q => ?_, fun i oi hk => ?_, fun a o p q => ?_, I.pdom, fun a o q => ?_⟩
  · obtain ⟨v, hv, r⟩ := J.slot i d e
    exact ⟨v, hv, by rw [lockS_c, lk.R] at r; exact r⟩
  · by_cases hi : i ∈ T
    · rcases hasT_own (wk.has i hi) with z | z | z <;> rw [hk] at z <;> cases z
    · exact J.pl i d e (by rw [lockS_out hi]; exact hk)
  · by_cases hi : i ∈ T
    · rcases hasT_own (wk.has i hi) with z | z | z <;> rw [hk] at z <;> cases z
    · rw [← lk.Fp i hi, ← lk.iv i (.inl hi)]; exact J.par i d e (by rw [lockS_out hi]; exact hk)
  · have hi := hw i ⟨d, e⟩ hk
    obtain ⟨⟨d', e'⟩, a1⟩ := fN i hi d e a ha
    exact I.bw i d' e' hk a a1
  · by_cases hi : i ∈ T
    · obtain ⟨d, e⟩ := oi.2
      by_cases o : Live ρ0 i
      · have f : Fs i = Fs0 i := by rw [(fT i hi d e).1, (lk.FpT i hi).1 o]
        rw [f]; exact I.own i ⟨oi.1, o⟩
      · have f : Fs i = [] := by rw [(fT i hi d e).1, (lk.FpT i hi).2 o]
        rw [f]; exact ⟨List.nodup_nil, by intro a h; cases h⟩
    · have := J.own i (own_unlock oi hi)
      exact ⟨this.1, fun a ha p => this.2 a ha ((lk.P0 a).mpr (.inl p))⟩
  · obtain ⟨di, ei⟩ := oi.2
    obtain ⟨dj, ej⟩ := oj.2
    by_cases hi : i ∈ T
    · obtain ⟨o1, a1⟩ := fN i hi di ei a ha
      by_cases hj : j ∈ T
      · obtain ⟨o2, a2⟩ := fN j hj dj ej a q
        exact I.dis i j ⟨oi.1, o1⟩ ⟨oj.1, o2⟩ hij a a1 a2
      · exact (J.own j (own_unlock oj hj)).2 a q ((lk.P0 a).mpr (.inr (.inr ⟨i, hi, o1, a1⟩)))
    · by_cases hj : j ∈ T
      · obtain ⟨o2, a2⟩ := fN j hj dj ej a q
        exact (J.own i (own_unlock oi hi)).2 a ha ((lk.P0 a).mpr (.inr (.inr ⟨j, hj, o2, a2⟩)))
      · exact J.dis i j (own_unlock oi hi) (own_unlock oj hj) hij a ha q
  · by_cases hi : i ∈ T
    · obtain ⟨d, e⟩ := oi.2
      rw [(fT i hi d e).2, lk.iv i (.inr hk)]
    · rw [← lk.iv i (.inl hi)]
      exact J.iov i (own_unlock oi hi) (by rw [lockS_out hi]; exact hk)
  · have q0 := I.prot a o p q
    refine J.prot a o ?_ (by rw [lk.H0]; exact q0)
    rcases p with p | p
    · exact .inl ((lk.P0 a).mpr (.inl p))
    · exact .inr (by rw [lockS_c, lk.R]; exact p)
  · obtain ⟨u, z⟩ := I.tr a o q
    exact J.tr a u (by rw [lk.H0]; exact z)
theorem live_wipe (h : bwOk S ws T = true) : ∀ i, Live (wipeE ρ ws) i → S.kd i = .bw → i ∈ T := fun i ⟨d, e⟩ hk => (bwOk_of h hk).resolve_left (wipeE_some e).2

/-! ### what is walked -/
/-- at each turn the item of ds, while the ground stands -/
structure ItOk (C : Core) (R : Addr → Prop) (pu : Bool) (Hs : Hp) (Fp : List Addr) (J : It) (ds : List D) : Prop where
  step : ∀ H, (∀ a o, Hs a = some o → (¬ Mu C R o a ∨ a ∈ Fp) → H a = some o) → ∀ i d, ds[i]? = some d → J.go i H ∧ ∀ x H', J.yld i H x H' → Same H H' ∧ ∃ G, Rep C R H' d x G ∧ (pu = true → G = []) ∧ ∀ a ∈ G, a ∈ Fp
  stop : ∀ H, (∀ a o, Hs a = some o → (¬ Mu C R o a ∨ a ∈ Fp) → H a = some o) → ∀ i, ds.length ≤ i → J.stop i H
  len : ds.length ≤ sizeLine
def RIt (S : Sig) (W : WX) (T : List Nat) (pu : Bool) (eff : Bool) (ev : M (List D)) (t : TI) : Prop :=
  ∀ (B : Base) (ρ : Env) (σ : L2.St) (Fs : Nat → List Addr) (H : Hp) (Q : It → Hp → Prop), EnvR S B ρ σ Fs H →
    Wn (ErW S B W) (fun ds ρ' => ∀ J H' Fs' Fp, EnvR S B ρ' σ Fs' H' → Step S eff ρ Fs H ρ' Fs' H' → Wk S B T ρ' Fs' H' Fp → ItOk S.c B.R pu H' Fp J ds → Q J H') (ev ρ) → t σ H Q
structure XIt (X : Cx) (S : Sig) (W : WX) (tg iter : Expr) (T : List Nat) (pu : Bool) (eff : Bool) (ev : M (List D)) : Prop where
  ex : ∃ t, PI X tg iter t ∧ RIt S W T pu eff ev t
/-- what a store to targets leaves -/
structure Bnd (S : Sig) (ts : List Nat) (ρ ρ' : Env) (σ σ' : L2.St) (Fs Fs' : Nat → List Addr) : Prop where
  sg : ∀ i, i ∉ ts → σ'[i]? = σ[i]?
  rh : ∀ i, i ∉ ts → ρ'[i]? = ρ[i]?
  own : ∀ i, Own S ρ' i → Own S ρ i ∧ Fs' i = Fs i
  back : ∀ i, Own S ρ i → Own S ρ' i
  len : σ'.length = σ.length
  le2 : ρ'.length = ρ.length
/-- a target: bd stores an item; ts the slots that it fills -/
def RG (S : Sig) (pu : Bool) (ts : List Nat) (bd : D → Env → Option Env) (g : TG) : Prop :=
  ∀ (B : Base) (ρ ρ' : Env) (σ : L2.St) (Fs : Nat → List Addr) (H : Hp) (d : D) (x : V) (G : List Addr) (Q : L2.St → Hp → Prop), EnvR S B ρ σ Fs H → Rep S.c B.R H d x G → (pu = true → G = []) → (∀ a ∈ G, B.P0 a) → bd d ρ = some ρ' →
    (∀ σ' Fs', EnvR S B ρ' σ' Fs' H → Bnd S ts ρ ρ' σ σ' Fs Fs' → Q σ' H) → g x σ H Q
structure XG (X : Cx) (S : Sig) (pu : Bool) (tg : Expr) (ts : List Nat) (bd : D → Env → Option Env) : Prop where
  ex : ∃ g, PG X tg g ∧ RG S pu ts bd g
def plS (S : Sig) (i : Nat) : Bool := match S.kd i with | .pl => true | _ => false
theorem plS_pl {i : Nat} (h : plS S i = true) : S.kd i = .pl := by
  unfold plS at h
  cases q : S.kd i <;> rw [q] at h <;> first | rfl | cases h
def gSet (i : Nat) : D → Env → Option Env := fun d ρ => some (ρ.set i (some d))
/-- a slot that takes an item: plain ones plain items -/
def takeS (S : Sig) (pu : Bool) (i : Nat) : Bool := match S.kd i with | .pl => pu | .bw => true | _ => false
theorem takeS_of {pu : Bool} {i : Nat} (h : takeS S pu i = true) : (S.kd i = .pl ∧ pu = true) ∨ S.kd i = .bw := by
  unfold takeS at h
  cases q : S.kd i <;> rw [q] at h <;> first | exact .inl ⟨rfl, h⟩ | exact .inr rfl | cases h
theorem rg_name {pu : Bool} {i : Nat} (h : takeS S pu i = true) : RG S pu [i] (gSet i) (gName i) := fun B ρ ρ' σ Fs H d x G Q I r g0 g1 hb k => by
  cases hb
  have hk := takeS_of h
  have no : ∀ {ρ2 : Env} {j : Nat}, Own S ρ2 j → j ≠ i := fun {ρ2 j} oj z => by
    subst z
    rcases hk with ⟨hk, _⟩ | hk <;> rcases oj.1 with q | q <;> rw [hk] at q <;> cases q
  refine k _ _ (I.put r (hk.elim (fun z => .inl ⟨z.1, g0 z.2⟩) fun z => .inr (.inl ⟨z, g1⟩))) ⟨fun j hj => ?_, fun j hj => ?_, fun j oj => ?_, fun j oj => ?_, by simp, by simp⟩
  · rw [List.getElem?_set_ne (by simpa using Ne.symm (by simpa using hj))]
  · rw [List.getElem?_set_ne (by simpa using Ne.symm (by simpa using hj))]
  · obtain ⟨d', q⟩ := oj.2
    rw [List.getElem?_set_ne (Ne.symm (no oj))] at q
    exact ⟨⟨oj.1, d', q⟩, by simp only [if_neg (no oj)]⟩
  · obtain ⟨d', q⟩ := oj.2
    exact ⟨oj.1, d', by rw [List.getElem?_set_ne (Ne.symm (no oj))]; exact q⟩
theorem xg_name {pu : Bool} (i : Nat) {x : Str} {p : Pos} (hN : X.N.Nodup) (h : takeS S pu i = true := by rfl) (hi : X.N[i]? = some x := by rfl) (hx : Loc X.env.scope x := by first | exact Or.inl rfl | exact Or.inr rfl) (hf : X.fn x = true ∨ X.env.scope.names.lookup x = some .local := by first | exact .inl rfl | exact .inr rfl) :
    XG X S pu (.Name x p) [i] (gSet i) := ⟨_, pg_name hN hi hx hf, rg_name h⟩
/-- several targets of a tuple -/
def RGs (S : Sig) (pu : Bool) (ts : List Nat) (bd : List D → Env → Option Env) (g : TGs) : Prop :=
  ∀ (B : Base) (ρ ρ' : Env) (σ : L2.St) (Fs : Nat → List Addr) (H : Hp) (ds : List D) (xs : List V) (G : List Addr) (Q : L2.St → Hp → Prop), EnvR S B ρ σ Fs H → Reps S.c B.R H ds xs G → (pu = true → G = []) → (∀ a ∈ G, B.P0 a) → bd ds ρ = some ρ' →
    (∀ σ' Fs', EnvR S B ρ' σ' Fs' H → Bnd S ts ρ ρ' σ σ' Fs Fs' → Q σ' H) → g xs σ H Q
structure XGs (X : Cx) (S : Sig) (pu : Bool) (tgs : List Expr) (ts : List Nat) (bd : List D → Env → Option Env) : Prop where
  ex : ∃ g, PGs X tgs g ∧ RGs S pu ts bd g
def gsNil : List D → Env → Option Env := fun ds ρ => match ds with | [] => some ρ | _ => none
def gsCons (a : D → Env → Option Env) (b : List D → Env → Option Env) : List D → Env → Option Env := fun ds ρ => match ds with | d :: ds => (a d ρ).bind (b ds) | [] => none
theorem xgs_nil {pu : Bool} : XGs X S pu [] [] gsNil := ⟨_, pgs_nil, fun B ρ ρ' σ Fs H ds xs G Q I r _ _ hb k => by
  cases ds with
  | nil => cases hb; cases r; exact ⟨rfl, k σ Fs I ⟨fun _ _ => rfl, fun _ _ => rfl, fun i o => ⟨o, rfl⟩, fun i o => o, rfl, rfl⟩⟩
  | cons => cases hb⟩
theorem xgs_cons {pu : Bool} {tg : Expr} {tgs : List Expr} {ts us : List Nat} {a : D → Env → Option Env} {b : List D → Env → Option Env} (ha : XG X S pu tg ts a) (hb : XGs X S pu tgs us b) (hs : (assignEach (tg :: tgs) X.env).map (·.2) = assign tg X.env :: (assignEach tgs X.env).map (·.2) := by rfl) : XGs X S pu (tg :: tgs) (ts ++ us) (gsCons a b) := by
  obtain ⟨g, pg, rg⟩ := ha.ex
  obtain ⟨gs, pgs, rgs⟩ := hb.ex
  refine ⟨_, pgs_cons pg pgs hs, fun B ρ ρ' σ Fs H ds xs G Q I r g0 g1 h k => ?_⟩
  cases r with
  | nil => cases h
  | cons r1 r2 =>
    rename_i d x F1 ds ys F2
    unfold gsCons at h
    simp only at h
    have z1 : pu = true → F1 = [] := fun z => (List.append_eq_nil_iff.mp (g0 z)).1
    have z2 : pu = true → F2 = [] := fun z => (List.append_eq_nil_iff.mp (g0 z)).2
    cases q : a d ρ with
    | none => rw [q] at h; cases h
    | some ρ1 =>
      rw [q] at h
      refine ⟨x, ys, rfl, rg B ρ ρ1 σ Fs H d x F1 _ I r1 z1 (fun a ha => g1 a (List.mem_append_left _ ha)) q fun σ1 Fs1 I1 b1 => rgs B ρ1 ρ' σ1 Fs1 H ds ys F2 _ I1 r2 z2 (fun a ha => g1 a (List.mem_append_right _ ha)) h fun σ2 Fs2 I2 b2 => k σ2 Fs2 I2 ⟨fun i hi => ?_, fun i hi => ?_, fun i o => ?_, fun i o => b2.back i (b1.back i o), b2.len.trans b1.len, b2.le2.trans b1.le2⟩⟩
      · rw [List.mem_append, not_or] at hi
        rw [b2.sg i hi.2, b1.sg i hi.1]
      · rw [List.mem_append, not_or] at hi
        rw [b2.rh i hi.2, b1.rh i hi.1]
      · obtain ⟨p1, p2⟩ := b2.own i o
        obtain ⟨p3, p4⟩ := b1.own i p1
        exact ⟨p3, p2.trans p4⟩
def gTupD (b : List D → Env → Option Env) : D → Env → Option Env := fun d ρ => match d with | .tup ds => b ds ρ | _ => none
theorem xg_tup {pu : Bool} (hk : X.K = S.c.K) {es : List Expr} {k n : Nat} {p : Pos} {ts : List Nat} {b : List D → Env → Option Env} (hc : X.calm = true) (hb : XGs X S pu es ts b) (hl : ∀ ds ρ ρ', b ds ρ = some ρ' → ds.length = n) (hn : (assignEach es X.env).length = n := by rfl) (hst : (assignEach es X.env).findIdx? (·.1) = none := by rfl) :
    XG X S pu (.Tuple es k p) ts (gTupD b) := by
  obtain ⟨gs, pgs, rgs⟩ := hb.ex
  refine ⟨_, pg_tup hc pgs hn hst, fun B ρ ρ' σ Fs H d x G Q I r g0 g1 h k => ?_⟩
  unfold gTupD at h
  split at h
  · rename_i ds
    cases r with
    | tup q l r => exact ⟨_, _, rfl, by rw [hk]; exact q, by rw [← r.length]; exact hl _ _ _ h, rgs B ρ ρ' σ Fs H ds _ _ Q I r g0 g1 h k⟩
  · cases h
/-! ### loops -/
def loopS (bd : D → Env → Option Env) (body : Ms) : List D → Env → So
  | [], ρ => .nx ρ
  | d :: ds, ρ => match bd d ρ with
    | none => .st
    | some ρ1 => match body ρ1 with
      | .nx ρ2 => loopS bd body ds ρ2
      | .ct ρ2 => loopS bd body ds ρ2
      | .bk ρ2 => .nx ρ2
      | .ret d ρ2 => .ret d ρ2
      | .er c fs ρ2 => .er c fs ρ2
      | .st => .st
def wipeSo (ws : List Nat) : So → So
  | .nx ρ => .nx (wipeE ρ ws) | .ret d ρ => .ret d (wipeE ρ ws) | .bk ρ => .bk (wipeE ρ ws) | .ct ρ => .ct (wipeE ρ ws) | .er c fs ρ => .er c fs (wipeE ρ ws) | .st => .st
theorem wipeSo_nil (o : So) : wipeSo [] o = o := by cases o <;> rfl
def sFor (ws : List Nat) (it : M (List D)) (bd : D → Env → Option Env) (body : Ms) : Ms := fun ρ => bindS (it ρ) fun ds ρ => wipeSo ws (loopS bd body ds ρ)
theorem own_of_lock {i : Nat} (h : Own (lockS S T) ρ i) : Own S ρ i := (own_lock h).1
theorem own_drop {i : Nat} (h : Own S (wipeE ρ ws) i) : Own S ρ i := let ⟨d, e⟩ := h.2; ⟨h.1, d, (wipeE_some e).1⟩
theorem RetOk.unlock {ρ0 : Env} {σ0 : L2.St} {Fs0 : Nat → List Addr} {H0 : Hp} (lk : Lk S B T ρ0 σ0 Fs0 H0 Fp B') (J : EnvR (lockS S T) B' ρ σ Fs H) (h : RetOk (lockS S T) B' rm ρ Fs F) : RetOk S B rm (wipeE ρ ws) Fs F := by
  cases rm with
  | bo => trivial
  | pu => exact h
  | al _ => exact h
  | fr =>
    refine ⟨h.1, fun a ha p => h.2.1 a ha ((lk.P0 a).mpr (.inl p)), fun i oi a ha q => ?_⟩
    have oi := own_drop oi
    by_cases hi : i ∈ T
    · obtain ⟨d, e⟩ := oi.2
      have f := (J.par i d e (lockS_in hi)).1
      rw [f] at q
      exact h.2.1 a ha (B'.wf i a q)
    · exact h.2.2 i (own_unlock oi hi) a ha q
theorem SWn.unlock {ρ0 : Env} {σ0 : L2.St} {Fs0 : Nat → List Addr} {H0 : Hp} {E : Ends} {o : So} (hw : bwOk S ws T = true) (I : EnvR S B ρ0 σ0 Fs0 H0) (wk : Wk S B T ρ0 Fs0 H0 Fp) (lk : Lk S B T ρ0 σ0 Fs0 H0 Fp B') (h : SWn S B W rm E (wipeSo ws o)) : SWn (lockS S T) B' W rm E o := by
  have u : ∀ {ρ' σ' Fs' H'}, EnvR (lockS S T) B' ρ' σ' Fs' H' → EnvR S B (wipeE ρ' ws) σ' Fs' H' := fun J => I.unlock wk lk J.drop (live_wipe hw)
  cases o with
  | nx ρ' => exact fun σ' Fs' H' J => h σ' Fs' H' (u J)
  | ret d ρ' => exact fun v σ' Fs' H' F J r rr => h v σ' Fs' H' F (u J) (by rw [lockS_c, lk.R] at r; exact r) (RetOk.unlock lk J rr)
  | bk ρ' => exact fun σ' Fs' H' J => h σ' Fs' H' (u J)
  | ct ρ' => exact fun σ' Fs' H' J => h σ' Fs' H' (u J)
  | er c fs ρ' => exact fun σ' Fs' H' dd J xd => by rw [lockS_c]; exact h σ' Fs' H' dd (u J) (by rw [lockS_c, lk.R] at xd; exact xd)
  | st => exact h
theorem xs_for {pu : Bool} {tg iter : Expr} {body : List Stmt} {T ts : List Nat} {it : M (List D)} {bd : D → Env → Option Env} {eb : Ms} (ws : List Nat) (hp : PassesOwn (model X.prog X.w) X.A X.env X.xe) (hc : X.calm = true) (hi : XIt X S W tg iter T pu e1 it) (hg : XG X (lockS S T) pu tg ts bd) (hb : XSs X (lockS S T) W rm body eb)
    (hw : bwOk S ws T = true := by rfl) (hs : ∀ x, foldedSetIterable iter X.env x = Pure.pure x := by intro _; rfl) : XS X S W rm (.For tg iter body [] pos) (sFor ws it bd eb) := by
  obtain ⟨ti, pi, ri⟩ := hi.ex
  obtain ⟨g, pg, rg⟩ := hg.ex
  obtain ⟨tb, pb, rb⟩ := hb.ex
  refine ⟨_, ps_for hp hc pi pg pb hs, fun B ρ σ Fs H E I h => ri B ρ σ Fs H _ I (h.bind.imp fun ds ρ1 _ h1 J H1 Fs1 Fp I1 s1 wk ok => ?_)⟩
  obtain ⟨B', lk⟩ := Lk.mk' S B T ρ1 σ Fs1 H1 Fp fun a h => I1.rdH h
  have ground : ∀ {ρ2 σ2 Fs2 H2}, EnvR (lockS S T) B' ρ2 σ2 Fs2 H2 → ∀ a o, H1 a = some o → (¬ Mu S.c B.R o a ∨ a ∈ Fp) → H2 a = some o := fun {ρ2 σ2 Fs2 H2} J2 a o q z => by
    refine J2.prot a o ?_ (by rw [lk.H0]; exact q)
    rcases z with z | z
    · exact .inr (by rw [lockS_c, lk.R]; exact z)
    · exact .inl ((lk.P0 a).mpr (.inr (.inl z)))
  have u : ∀ {ρ' σ' Fs' H'}, EnvR (lockS S T) B' ρ' σ' Fs' H' → EnvR S B (wipeE ρ' ws) σ' Fs' H' := fun J => I1.unlock wk lk J.drop (live_wipe hw)
  refine ⟨fun i m σ H => i ≤ ds.length ∧ m = ds.length - i ∧ ∃ ρ Fs, EnvR (lockS S T) B' ρ σ Fs H ∧ SWn S B W rm E (wipeSo ws (loopS bd eb (ds.drop i) ρ)), ⟨_, Nat.zero_le _, rfl, ρ1, Fs1, I1.lock wk lk, by simpa using h1⟩, fun i m σ2 H2 ⟨hi, hm, ρ2, Fs2, J2, h2⟩ => ?_⟩
  by_cases hl : i < ds.length
  · have hd : ds[i]? = some ds[i] := List.getElem?_eq_getElem hl
    obtain ⟨go, yld⟩ := ok.step H2 (ground J2) i _ hd
    refine .inr ⟨go, fun σ' H' => ∃ ρ Fs, EnvR (lockS S T) B' ρ σ' Fs H' ∧ SWn S B W rm E (wipeSo ws (loopS bd eb (ds.drop (i + 1)) ρ)), fun σ' H' ⟨ρ', Fs', a, b⟩ => ⟨_, by omega, by omega, rfl, ρ', Fs', a, b⟩, fun x H' hx => ?_⟩
    obtain ⟨sm, G, rx, g0, g1⟩ := yld x H' hx
    rw [List.drop_eq_getElem_cons hl] at h2
    unfold loopS at h2
    cases q : bd ds[i] ρ2 with
    | none => rw [q] at h2; exact h2.elim
    | some ρ3 =>
      rw [q] at h2
      refine rg B' ρ2 ρ3 σ2 Fs2 H' _ x G _ (J2.same sm) (by rw [lockS_c, lk.R]; exact rx) g0 (fun a ha => (lk.P0 a).mpr (.inr (.inl (g1 a ha)))) q fun σ3 Fs3 J3 _ => rb B' ρ3 σ3 Fs3 H' _ J3 ?_
      simp only at h2
      cases o : eb ρ3 with
      | nx ρ4 => rw [o] at h2; exact fun σ' Fs' H'' J' => ⟨ρ4, Fs', J', h2⟩
      | ct ρ4 => rw [o] at h2; exact fun σ' Fs' H'' J' => ⟨ρ4, Fs', J', h2⟩
      | bk ρ4 => rw [o] at h2; exact fun σ' Fs' H'' J' => h2 σ' Fs' H'' (u J')
      | ret d ρ4 => rw [o] at h2; exact SWn.unlock (o := .ret d ρ4) hw I1 wk lk h2
      | er c fs ρ4 => rw [o] at h2; exact SWn.unlock (E := E) (o := .er c fs ρ4) hw I1 wk lk h2
      | st => rw [o] at h2; exact h2.elim
  · refine .inl ⟨ok.stop H2 (ground J2) i (by omega), ?_⟩
    rw [List.drop_eq_nil_of_le (by omega)] at h2
    exact h2 σ2 Fs2 H2 (u J2)
end
end EL

namespace EL
open PySem PySem.Spec PyProof.Rows
open L2 hiding XE
section
variable {X : Cx} {S : Sig} {B B' : Base} {W : WX} {m m1 m2 rm : Md} {e1 e2 : Bool} {σ σ' : L2.St} {ρ ρ1 ρ' : Env} {Fs Fs1 Fs' : Nat → List Addr} {H H1 H' : Hp} {d : D} {v : V} {F Fp : List Addr} {pos : Pos} {T : List Nat}
/-! ### sources -/
/-- a list, a tuple or a text, walked -/
def iSeq (K : PySem.W.Frag) (tl : TE) : TI := fun σ H R => tl σ H fun x H1 => (∃ a, x = .ref a ∧ (∃ xs, SqL K H1 a xs) ∧ R (Itl K a) H1) ∨ (∃ a, x = .ref a ∧ (∃ xs, SqT K H1 a xs) ∧ R (Itt K a) H1) ∨ ∃ z, x = .str z ∧ R (Its z) H1
theorem pi_seq {tg l : Expr} {tl : TE} (hl : PE X l tl) : PI X tg l (iSeq X.K tl) := by
  refine ⟨fun pins s σ H R I h => ?_⟩
  refine thn (hl.run pins s σ H _ I h) fun v s1 ⟨x, H1, I1, r1, q1⟩ => ?_
  rcases q1 with ⟨a, e, ⟨xs, hq⟩, q⟩ | ⟨a, e, ⟨xs, hq⟩, q⟩ | ⟨z, e, q⟩
  · subst e
    cases r1
    obtain ⟨its, rv, p, hz⟩ := I1.list hq
    refine wpAny_pyIter_list p.isList ⟨s1.heap.objs.size, [s1.heap.objs.size], _, _, H1, rfl, I1.kept (t' := s1.toks) (fun b o e => Heap.get?_push_of_some _ e), turn_list a _, ⟨_, Heap.get?_push_size _ rfl, rfl, rfl⟩, (fun b hb => ?_), q⟩
    obtain rfl : b = s1.heap.objs.size := by simpa using hb
    exact I1.fpOk (Nat.le_refl _) (I1.hok.fresh (Nat.le_refl _))
  · subst e
    cases r1
    obtain ⟨its, rv, p, hz⟩ := I1.tuple hq
    refine wpAny_pyIter_tuple (show s1.heap.IsTuple a its.toArray from p) ⟨s1.heap.objs.size, [s1.heap.objs.size], _, _, H1, rfl, I1.kept (t' := s1.toks) (fun b o e => Heap.get?_push_of_some _ e), turn_tuple a _, ⟨_, Heap.get?_push_size _ rfl, rfl, rfl⟩, (fun b hb => ?_), q⟩
    obtain rfl : b = s1.heap.objs.size := by simpa using hb
    exact I1.fpOk (Nat.le_refl _) (I1.hok.fresh (Nat.le_refl _))
  · subst e
    obtain ⟨t, rfl⟩ := r1
    cases ha : z.cps.all (· < 128)
    · exact wpAny_pyIter_wide ha (pi_one (tk := s1.toks) I1 _ (turn_str _ z t "str_iterator" (.inr rfl)) ⟨_, Heap.get?_push_size _ rfl, rfl, rfl⟩ q)
    · exact wpAny_pyIter_ascii ha (pi_one (tk := s1.toks) I1 _ (turn_str _ z t "str_ascii_iterator" (.inl rfl)) ⟨_, Heap.get?_push_size _ rfl, rfl, rfl⟩ q)
/-- the signs of a text, each a text -/
def signsD (x : Str) : List D := x.cps.toList.map fun c => .str ⟨#[c]⟩
/-- the items of a source that cannot change -/
def itemsD : D → Option (List D)
  | .lst ds => if pureDs ds then some ds else none
  | .scr ds => if pureDs ds then some ds else none
  | .ice ds => if pureDs ds then some ds else none
  | .tup ds => if pureDs ds then some ds else none
  | .str x => if x.length ≤ sizeLine then some (signsD x) else none
  | _ => none
def itSeq (a : M D) : M (List D) := fun ρ => bindR (a ρ) fun d ρ => match itemsD d with | some ds => .ok ds ρ | none => .st
def Md.ts : Md → List Nat | .al T => T | _ => []
def Md.walk : Md → Bool | .bo => false | _ => true
protected theorem Reps.at' {C : Core} {R : Addr → Prop} {ds : List D} {vs : List V} (r : Reps C R H ds vs []) {i : Nat} (e : ds[i]? = Option.some d) : ∃ v, vs[i]? = Option.some v ∧ Rep C R H d v [] := by
  obtain ⟨v, G, A, Bb, h1, h2, h3⟩ := r.get e
  have h4 := h3.symm
  simp only [List.append_eq_nil_iff] at h4
  obtain ⟨⟨rfl, rfl⟩, rfl⟩ := h4
  exact ⟨v, h1, h2⟩
theorem Wk.of {ρ0 : Env} {Fs0 : Nat → List Addr} {H0 : Hp} (q : Post S B m e1 σ ρ0 Fs0 H0 ρ d v H Fs F) (hw : m.walk = true) (hT : m.ts.all (hasT S) = true) : Wk S B m.ts ρ Fs H F := by
  refine ⟨q.rep.some, fun a ha i oi hi => ?_, fun i hi => List.all_eq_true.mp hT i hi⟩
  have h := q.md
  cases m with
  | bo => cases hw
  | pu => rw [show F = [] from h] at ha; cases ha
  | fr => exact absurd hi (h.2.2 i oi a ha)
  | al T =>
    rcases h a ha with p | ⟨j, hj, oj, z⟩
    · exact absurd p ((q.env.own i oi).2 a hi)
    · by_cases e : i = j
      · subst e; exact hj
      · exact absurd z (q.env.dis i j oi oj e a hi)
theorem rit_seq {ea : M D} {ta : TE} (K : PySem.W.Frag) (hK : K = S.c.K) (ra : RE S W m e1 ea ta) (hw : m.walk = true) (hT : m.ts.all (hasT S) = true) : RIt S W m.ts true e1 (itSeq ea) (iSeq K ta) := fun B ρ σ Fs H Q I h => by
  subst hK
  refine ra B ρ σ Fs H _ I (h.bind.imp fun d ρ1 _ h1 v H1 Fs1 F q => ?_)
  have wk := Wk.of q hw hT
  cases hd : itemsD d with
  | none => rw [hd] at h1; exact h1.elim
  | some ds =>
    rw [hd] at h1
    have rr := q.rep
    have fin := fun J ok => h1 J H1 Fs1 F q.env q.step wk ok
    cases rr with
    | tup hs l r =>
      simp only [itemsD] at hd
      split at hd <;> cases hd
      rename_i hp
      have e := r.pure hp
      subst e
      refine .inr (.inl ⟨_, rfl, ⟨_, hs⟩, fin _ ⟨fun H2 g i d e => ?_, fun H2 g i hi => ?_, by rw [r.length]; exact l⟩⟩)
      all_goals have hs2 := (Rep.keep g (.tup hs l r)); cases hs2 with | tup hs2 l2 r2 => ?_
      · obtain ⟨x, hx, rx⟩ := r2.at' e
        refine ⟨⟨_, x, hs2, hx⟩, fun y H' hy => ?_⟩
        obtain ⟨rfl, hy⟩ := hy
        have := hy _ hs2
        rw [hx] at this; cases this
        exact ⟨Same.refl _, [], rx, fun _ => rfl, fun a h => by cases h⟩
      · exact ⟨_, hs2, by rw [← r2.length]; exact hi⟩
    | lst hs l r =>
      simp only [itemsD] at hd
      split at hd <;> cases hd
      rename_i hp
      have e := r.pure hp
      subst e
      refine .inl ⟨_, rfl, ⟨_, SqL.of hs⟩, fin _ ⟨fun H2 g i d e => ?_, fun H2 g i hi => ?_, by rw [r.length]; exact l⟩⟩
      · have h2 := g _ _ hs (.inr (by simp))
        obtain ⟨x, hx, rx⟩ := r.at' e
        refine ⟨⟨_, x, SqL.of h2, hx⟩, fun y H' hy => ?_⟩
        obtain ⟨rfl, hy⟩ := hy
        have := hy _ (SqL.of h2)
        rw [hx] at this; cases this
        exact ⟨Same.refl _, [], rx.keep fun a o q z => g a o q (z.imp id fun z => by cases z), fun _ => rfl, fun a h => by cases h⟩
      · exact ⟨_, SqL.of (g _ _ hs (.inr (by simp))), by rw [← r.length]; exact hi⟩
    | scr hs l r =>
      simp only [itemsD] at hd
      split at hd <;> cases hd
      rename_i hp
      have e := r.pure hp
      subst e
      have sq : ∀ {H2 : Hp}, (∀ a o, H1 a = some o → (¬ Mu S.c B.R o a ∨ a ∈ []) → H2 a = some o) → SqL S.c.K H2 _ _ := fun g => (hs.keep fun o u q => g _ _ q (.inl fun z => z)).toL
      refine .inl ⟨_, rfl, ⟨_, hs.toL⟩, fin _ ⟨fun H2 g i d e => ?_, fun H2 g i hi => ?_, by rw [r.length]; exact l⟩⟩
      · obtain ⟨x, hx, rx⟩ := r.at' e
        refine ⟨⟨_, x, sq g, hx⟩, fun y H' hy => ?_⟩
        obtain ⟨rfl, hy⟩ := hy
        have := hy _ (sq g)
        rw [hx] at this; cases this
        exact ⟨Same.refl _, [], rx.keep g, fun _ => rfl, fun a h => by cases h⟩
      · exact ⟨_, sq g, by rw [← r.length]; exact hi⟩
    | ice hs l r =>
      simp only [itemsD] at hd
      split at hd <;> cases hd
      rename_i hp
      have e := r.pure hp
      subst e
      have sq : ∀ {H2 : Hp}, (∀ a o, H1 a = some o → (¬ Mu S.c B.R o a ∨ a ∈ []) → H2 a = some o) → SqL S.c.K H2 _ _ := fun g => .inl (.inr ⟨_, g _ _ hs (.inl fun z => z)⟩)
      refine .inl ⟨_, rfl, ⟨_, .inl (.inr ⟨_, hs⟩)⟩, fin _ ⟨fun H2 g i d e => ?_, fun H2 g i hi => ?_, by rw [r.length]; exact l⟩⟩
      · obtain ⟨x, hx, rx⟩ := r.at' e
        refine ⟨⟨_, x, sq g, hx⟩, fun y H' hy => ?_⟩
        obtain ⟨rfl, hy⟩ := hy
        have := hy _ (sq g)
        rw [hx] at this; cases this
        exact ⟨Same.refl _, [], rx.keep g, fun _ => rfl, fun a h => by cases h⟩
      · exact ⟨_, sq g, by rw [← r.length]; exact hi⟩
    | str z =>
      simp only [itemsD] at hd
      split at hd <;> cases hd
      rename_i hp
      refine .inr (.inr ⟨z, rfl, fin _ ⟨fun H2 g i d e => ?_, fun H2 g i hi => ?_, by simp [signsD]; exact hp⟩⟩)
      · have e2 : z.cps.toList[i]?.map (fun c => D.str ⟨#[c]⟩) = some d := by rw [← List.getElem?_map]; exact e
        cases hc : z.cps.toList[i]? with
        | none => rw [hc] at e2; cases e2
        | some c =>
          rw [hc] at e2
          cases e2
          have hc' : z.cps[i]? = some c := by rw [← Array.getElem?_toList]; exact hc
          refine ⟨(Array.getElem?_eq_some_iff.mp hc').1, fun y H' hy => ?_⟩
          obtain ⟨rfl, c', h3, rfl⟩ := hy
          rw [hc'] at h3; cases h3
          exact ⟨Same.refl _, [], .str _, fun _ => rfl, fun a h => by cases h⟩
      · exact (show z.cps.size ≤ i by simpa [signsD] using hi)
    | non => cases hd
    | bl => cases hd
    | int => cases hd
    | dic => cases hd
    | ins => cases hd
    | obj => cases hd
theorem xi_seq {tg l : Expr} {ea : M D} (hK : X.K = S.c.K) (ha : XE X S W l m e1 ea) (hw : m.walk = true := by rfl) (hT : m.ts.all (hasT S) = true := by rfl) : XIt X S W tg l m.ts true e1 (itSeq ea) := by
  obtain ⟨t, p, r⟩ := ha.ex
  exact ⟨_, pi_seq p, rit_seq X.K hK r hw hT⟩
/-- the items of any list or tuple -/
def itemsX : D → Option (List D)
  | .lst ds => some ds
  | .scr ds => some ds
  | .ice ds => some ds
  | .tup ds => some ds
  | _ => none
def itSeqX (a : M D) : M (List D) := fun ρ => bindR (a ρ) fun d ρ => match itemsX d with | some ds => .ok ds ρ | none => .st
theorem Reps.at2 {C : Core} {R : Addr → Prop} {ds : List D} {vs : List V} (r : Reps C R H ds vs F) {i : Nat} (e : ds[i]? = Option.some d) : ∃ v G, vs[i]? = Option.some v ∧ Rep C R H d v G ∧ ∀ a ∈ G, a ∈ F := by
  obtain ⟨v, G, A, Bb, h1, h2, h3⟩ := r.get e
  exact ⟨v, G, h1, h2, fun a ha => by rw [h3]; simp [ha]⟩
theorem rit_seqX {ea : M D} {ta : TE} (K : PySem.W.Frag) (hK : K = S.c.K) (ra : RE S W m e1 ea ta) (hw : m.walk = true) (hT : m.ts.all (hasT S) = true) : RIt S W m.ts false e1 (itSeqX ea) (iSeq K ta) := fun B ρ σ Fs H Q I h => by
  subst hK
  refine ra B ρ σ Fs H _ I (h.bind.imp fun d ρ1 _ h1 v H1 Fs1 F q => ?_)
  have wk := Wk.of q hw hT
  cases hd : itemsX d with
  | none => rw [hd] at h1; exact h1.elim
  | some ds =>
    rw [hd] at h1
    have rr := q.rep
    have fin := fun J ok => h1 J H1 Fs1 F q.env q.step wk ok
    cases rr with
    | tup hs l r =>
      cases hd
      refine .inr (.inl ⟨_, rfl, ⟨_, hs⟩, fin _ ⟨fun H2 g i d e => ?_, fun H2 g i hi => ?_, by rw [r.length]; exact l⟩⟩)
      all_goals have hs2 := (Rep.keep g (.tup hs l r)); cases hs2 with | tup hs2 l2 r2 => ?_
      · obtain ⟨x, G, hx, rx, hG⟩ := r2.at2 e
        refine ⟨⟨_, x, hs2, hx⟩, fun y H' hy => ?_⟩
        obtain ⟨rfl, hy⟩ := hy
        have := hy _ hs2
        rw [hx] at this; cases this
        exact ⟨Same.refl _, G, rx, (by intro z; cases z), hG⟩
      · exact ⟨_, hs2, by rw [← r2.length]; exact hi⟩
    | lst hs l r =>
      cases hd
      refine .inl ⟨_, rfl, ⟨_, SqL.of hs⟩, fin _ ⟨fun H2 g i d e => ?_, fun H2 g i hi => ?_, by rw [r.length]; exact l⟩⟩
      · have h2 := g _ _ hs (.inr (by simp))
        obtain ⟨x, G, hx, rx, hG⟩ := r.at2 e
        refine ⟨⟨_, x, SqL.of h2, hx⟩, fun y H' hy => ?_⟩
        obtain ⟨rfl, hy⟩ := hy
        have := hy _ (SqL.of h2)
        rw [hx] at this; cases this
        exact ⟨Same.refl _, G, rx.keep fun a o q z => g a o q (z.imp id fun z => List.mem_cons_of_mem _ (hG a z)), (by intro z; cases z), fun a ha => List.mem_cons_of_mem _ (hG a ha)⟩
      · exact ⟨_, SqL.of (g _ _ hs (.inr (by simp))), by rw [← r.length]; exact hi⟩
    | scr hs l r =>
      cases hd
      have sq : ∀ {H2 : Hp}, (∀ a o, H1 a = some o → (¬ Mu S.c B.R o a ∨ a ∈ F) → H2 a = some o) → SqL S.c.K H2 _ _ := fun g => (hs.keep fun o u q => g _ _ q (.inl fun z => z)).toL
      refine .inl ⟨_, rfl, ⟨_, hs.toL⟩, fin _ ⟨fun H2 g i d e => ?_, fun H2 g i hi => ?_, by rw [r.length]; exact l⟩⟩
      · obtain ⟨x, G, hx, rx, hG⟩ := r.at2 e
        refine ⟨⟨_, x, sq g, hx⟩, fun y H' hy => ?_⟩
        obtain ⟨rfl, hy⟩ := hy
        have := hy _ (sq g)
        rw [hx] at this; cases this
        exact ⟨Same.refl _, G, rx.keep fun a o q z => g a o q (z.imp id (hG a)), (by intro z; cases z), hG⟩
      · exact ⟨_, sq g, by rw [← r.length]; exact hi⟩
    | ice hs l r =>
      cases hd
      have sq : ∀ {H2 : Hp}, (∀ a o, H1 a = some o → (¬ Mu S.c B.R o a ∨ a ∈ F) → H2 a = some o) → SqL S.c.K H2 _ _ := fun g => .inl (.inr ⟨_, g _ _ hs (.inl fun z => z)⟩)
      refine .inl ⟨_, rfl, ⟨_, .inl (.inr ⟨_, hs⟩)⟩, fin _ ⟨fun H2 g i d e => ?_, fun H2 g i hi => ?_, by rw [r.length]; exact l⟩⟩
      · obtain ⟨x, G, hx, rx, hG⟩ := r.at2 e
        refine ⟨⟨_, x, sq g, hx⟩, fun y H' hy => ?_⟩
        obtain ⟨rfl, hy⟩ := hy
        have := hy _ (sq g)
        rw [hx] at this; cases this
        exact ⟨Same.refl _, G, rx.keep fun a o q z => g a o q (z.imp id (hG a)), (by intro z; cases z), hG⟩
      · exact ⟨_, sq g, by rw [← r.length]; exact hi⟩
    | str z => cases hd
    | non => cases hd
    | bl => cases hd
    | int => cases hd
    | dic => cases hd
    | ins => cases hd
    | obj => cases hd
theorem xi_seqX {tg l : Expr} {ea : M D} (hK : X.K = S.c.K) (ha : XE X S W l m e1 ea) (hw : m.walk = true := by rfl) (hT : m.ts.all (hasT S) = true := by rfl) : XIt X S W tg l m.ts false e1 (itSeqX ea) := by
  obtain ⟨t, p, r⟩ := ha.ex
  exact ⟨_, pi_seq p, rit_seqX X.K hK r hw hT⟩
/-- range(n) -/
def rangeD (lo : Int) (n : Nat) : List D := (List.range n).map fun i => .int (lo + (i : Nat))
def okR (i : Int) : Bool := decide (-(2 ^ 62) ≤ i) && decide (i < 2 ^ 62)
def itR1 (a : M (List D)) : M (List D) := fun ρ => bindR (a ρ) fun ds ρ => match ds with | [.int j] => if okR j && decide (j.toNat ≤ sizeLine) then .ok (rangeD 0 j.toNat) ρ else .st | _ => .st
def itR2 (a : M (List D)) : M (List D) := fun ρ => bindR (a ρ) fun ds ρ => match ds with | [.int i, .int j] => if okR i && okR j && decide ((j - i).toNat ≤ sizeLine) then .ok (rangeD i (j - i).toNat) ρ else .st | _ => .st
theorem okR_iff {i : Int} : okR i = true ↔ -(2 ^ 62) ≤ i ∧ i < 2 ^ 62 := by simp [okR]
theorem range_ok {C : Core} {R : Addr → Prop} {lo : Int} {n : Nat} (h : n ≤ sizeLine) : ItOk C R true H [] (Itr lo n) (rangeD lo n) := by
  refine ⟨fun H2 g i d e => ?_, fun H2 g i hi => (show n ≤ i by simpa [rangeD] using hi), by simpa [rangeD] using h⟩
  have hl : i < n := by have := (List.getElem?_eq_some_iff.mp e).1; simpa [rangeD] using this
  have e2 : d = .int (lo + (i : Nat)) := by
    simp only [rangeD, List.getElem?_map, List.getElem?_range hl] at e
    cases e; rfl
  subst e2
  refine ⟨hl, fun x H' hx => ?_⟩
  obtain ⟨rfl, rfl⟩ := hx
  exact ⟨Same.refl _, [], .int _, fun _ => rfl, fun a h => by cases h⟩
theorem Wk.nil : Wk S B [] ρ Fs H [] := ⟨fun a h => (by cases h), (fun a h => by cases h), fun i h => by cases h⟩
theorem Reps.int1 {C : Core} {R : Addr → Prop} {j : Int} {vs : List V} (r : Reps C R H [.int j] vs F) : vs = [.int j] := by
  cases r with | cons r t => cases r; cases t; rfl
theorem Reps.int2 {C : Core} {R : Addr → Prop} {i j : Int} {vs : List V} (r : Reps C R H [.int i, .int j] vs F) : vs = [.int i, .int j] := by
  cases r with | cons r t => cases r; rw [Reps.int1 t]
theorem xi_range1 {tg a : Expr} {ea : M (List D)} {p : Pos} (hg : Gl X "range") (hm : X.mg "range" = none) (ha : XA X S W [a] m e1 ea) (hs : starEach [a] X.env = [(false, eval a X.env)] := by rfl) : XIt X S W tg (.Call (.Name "range" p) [a] [] pos) [] true e1 (itR1 ea) := by
  obtain ⟨t, pa, r⟩ := ha.ex
  refine ⟨_, pi_range1 hg hm pa hs, fun B ρ σ Fs H Q I h => r B ρ σ Fs H _ I (h.bind.imp fun ds ρ1 _ h1 vs H1 Fs1 F q => ?_)⟩
  split at h1
  · rename_i j
    split at h1
    · rename_i hc
      simp only [Bool.and_eq_true, decide_eq_true_eq] at hc
      have := okR_iff.mp hc.1
      exact ⟨_, q.rep.int1, this.1, this.2, h1 _ H1 Fs1 [] q.env q.step Wk.nil (range_ok hc.2)⟩
    · exact h1.elim
  · exact h1.elim
theorem xi_range2 {tg a b : Expr} {ea : M (List D)} {p : Pos} (hg : Gl X "range") (hm : X.mg "range" = none) (ha : XA X S W [a, b] m e1 ea) (hs : starEach [a, b] X.env = [(false, eval a X.env), (false, eval b X.env)] := by rfl) (hs2 : starEach [b] X.env = [(false, eval b X.env)] := by rfl) :
    XIt X S W tg (.Call (.Name "range" p) [a, b] [] pos) [] true e1 (itR2 ea) := by
  obtain ⟨t, pa, r⟩ := ha.ex
  refine ⟨_, pi_range2 hg hm pa hs hs2, fun B ρ σ Fs H Q I h => r B ρ σ Fs H _ I (h.bind.imp fun ds ρ1 _ h1 vs H1 Fs1 F q => ?_)⟩
  split at h1
  · rename_i i j
    split at h1
    · rename_i hc
      simp only [Bool.and_eq_true, decide_eq_true_eq] at hc
      have hi := okR_iff.mp hc.1.1
      have hj := okR_iff.mp hc.1.2
      exact ⟨_, _, q.rep.int2, ⟨hi.1, hi.2, hj.1, hj.2⟩, h1 _ H1 Fs1 [] q.env q.step Wk.nil (range_ok hc.2)⟩
    · exact h1.elim
  · exact h1.elim
/-! ### while -/
def loopW (c : M Bool) (body : Ms) : Nat → Env → So
  | 0, _ => .st
  | n + 1, ρ => bindS (c ρ) fun k ρ => if k then (match body ρ with | .nx ρ => loopW c body n ρ | .ct ρ => loopW c body n ρ | .bk ρ => .nx ρ | r => r) else .nx ρ
open Classical in
noncomputable def sWhile (c : M Bool) (body : Ms) : Ms := fun ρ => if h : ∃ n, loopW c body n ρ ≠ .st then loopW c body (Classical.choose h) ρ else .st
theorem loopW_up {c : M Bool} {body : Ms} : ∀ {n : Nat} {k : Nat} {ρ : Env}, loopW c body n ρ ≠ .st → loopW c body (n + k) ρ = loopW c body n ρ
  | 0, k, ρ, h => absurd rfl h
  | n + 1, k, ρ, h => by
    have e : n + 1 + k = (n + k) + 1 := by omega
    rw [e]
    unfold loopW at h ⊢
    cases q : c ρ with
    | st => rfl
    | er _ _ _ => rfl
    | ok b ρ1 =>
      rw [q] at h
      cases b with
      | false => rfl
      | true =>
        simp only [bindS, if_true] at h ⊢
        cases r : body ρ1 with
        | nx ρ2 => rw [r] at h; simp only at h ⊢; exact loopW_up h
        | ct ρ2 => rw [r] at h; simp only at h ⊢; exact loopW_up h
        | bk ρ2 => rfl
        | ret d ρ2 => rfl
        | er _ _ _ => rfl
        | st => rfl
theorem sWhile_eq {c : M Bool} {body : Ms} {n : Nat} {ρ : Env} (h : loopW c body n ρ ≠ .st) : sWhile c body ρ = loopW c body n ρ := by
  have hx : ∃ n, loopW c body n ρ ≠ .st := ⟨n, h⟩
  unfold sWhile
  rw [dif_pos hx]
  have h2 := Classical.choose_spec hx
  have a := loopW_up (k := n) h2
  have b := loopW_up (k := Classical.choose hx) h
  rw [← a, ← b, Nat.add_comm]
theorem xs_while {c : Expr} {body : List Stmt} {ec : M Bool} {eb : Ms} (hp : PassesOwn (model X.prog X.w) X.A X.env X.xe) (hc : XT X S W c e1 ec) (hb : XSs X S W rm body eb) : XS X S W rm (.While c body [] pos) (sWhile ec eb) := by
  obtain ⟨tc, pc, rc⟩ := hc.ex
  obtain ⟨tb, pb, rb⟩ := hb.ex
  refine ⟨_, ps_while hp pc pb, fun B ρ σ Fs H E I h => ?_⟩
  have hx : ∃ n, loopW ec eb n ρ ≠ .st := by
    apply Classical.byContradiction
    intro hn
    unfold sWhile at h
    rw [dif_neg hn] at h
    exact h
  obtain ⟨n, hn⟩ := hx
  rw [sWhile_eq hn] at h
  refine ⟨fun m σ H => ∃ ρ Fs, EnvR S B ρ σ Fs H ∧ SWn S B W rm E (loopW ec eb m ρ), ⟨n, ρ, Fs, I, h⟩, fun m σ1 H1 ⟨ρ1, Fs1, I1, h1⟩ => ?_⟩
  cases m with
  | zero => exact h1.elim
  | succ m =>
    unfold loopW at h1
    refine rc B ρ1 σ1 Fs1 H1 _ I1 (h1.bind.imp fun k ρ2 _ h2 H2 Fs2 I2 s2 => ?_)
    cases k with
    | false => exact iteF (h2 σ1 Fs2 H2 I2)
    | true =>
      refine iteT ⟨fun σ' H' => ∃ ρ Fs, EnvR S B ρ σ' Fs H' ∧ SWn S B W rm E (loopW ec eb m ρ), fun σ' H' q => ⟨m, Nat.lt_succ_self _, q⟩, rb B ρ2 σ1 Fs2 H2 _ I2 ?_⟩
      simp only [if_true] at h2
      cases r : eb ρ2 with
      | nx ρ3 => rw [r] at h2; exact fun σ' Fs' H' J => ⟨ρ3, Fs', J, h2⟩
      | ct ρ3 => rw [r] at h2; exact fun σ' Fs' H' J => ⟨ρ3, Fs', J, h2⟩
      | bk ρ3 => rw [r] at h2; exact h2
      | ret d ρ3 => rw [r] at h2; exact h2
      | er _ _ _ => rw [r] at h2; exact h2
      | st => rw [r] at h2; exact h2.elim
end
end EL

namespace EL
open PySem PySem.Spec PyProof.Rows
open L2 hiding XE
abbrev W0 : WX := fun _ _ _ _ => False
/-! ### the readings that the tellings are -/
def teOf (S : Sig) (W : WX) (m : Md) (eff : Bool) (ev : M D) : TE := fun σ H Q => ∃ (B : Base) (ρ : Env) (Fs : Nat → List Addr), EnvR S B ρ σ Fs H ∧ Wn (ErW S B W) (fun d ρ' => ∀ v H' Fs' F, Post S B m eff σ ρ Fs H ρ' d v H' Fs' F → Q v H') (ev ρ)
def ttOf (S : Sig) (W : WX) (eff : Bool) (ev : M Bool) : TT := fun σ H Q => ∃ (B : Base) (ρ : Env) (Fs : Nat → List Addr), EnvR S B ρ σ Fs H ∧ Wn (ErW S B W) (fun b ρ' => ∀ H' Fs', EnvR S B ρ' σ Fs' H' → Step S eff ρ Fs H ρ' Fs' H' → Q b H') (ev ρ)
def tgOf (S : Sig) (pu : Bool) (ts : List Nat) (bd : D → Env → Option Env) : TG := fun x σ H Q => ∃ (B : Base) (ρ ρ' : Env) (Fs : Nat → List Addr) (d : D) (G : List Addr), EnvR S B ρ σ Fs H ∧ Rep S.c B.R H d x G ∧ (pu = true → G = []) ∧ (∀ a ∈ G, B.P0 a) ∧ bd d ρ = some ρ' ∧
  (∀ σ' Fs', EnvR S B ρ' σ' Fs' H → Bnd S ts ρ ρ' σ σ' Fs Fs' → Q σ' H)
def tiOf (S : Sig) (W : WX) (T : List Nat) (pu : Bool) (eff : Bool) (ev : M (List D)) : TI := fun σ H Q => ∃ (B : Base) (ρ : Env) (Fs : Nat → List Addr), EnvR S B ρ σ Fs H ∧
    Wn (ErW S B W) (fun ds ρ' => ∀ J H' Fs' Fp, EnvR S B ρ' σ Fs' H' → Step S eff ρ Fs H ρ' Fs' H' → Wk S B T ρ' Fs' H' Fp → ItOk S.c B.R pu H' Fp J ds → Q J H') (ev ρ)
section
variable {X : Cx} {S : Sig} {B B' : Base} {W : WX} {m m1 m2 rm : Md} {e1 e2 e3 : Bool} {σ σ' : L2.St} {ρ ρ1 ρ' : Env} {Fs Fs1 Fs' : Nat → List Addr} {H H1 H' : Hp} {d : D} {v : V} {F Fp : List Addr} {pos : Pos} {T ts : List Nat}
theorem XE.te {e : Expr} {ev : M D} (h : XE X S W e m e1 ev) : PE X e (teOf S W m e1 ev) := by
  obtain ⟨t, p, r⟩ := h.ex
  exact ⟨fun pins s σ H Q I ⟨B, ρ, Fs, J, w⟩ => p.run pins s σ H Q I (r B ρ σ Fs H Q J w)⟩
theorem XT.tt {e : Expr} {ev : M Bool} (h : XT X S W e e1 ev) : PT X e (ttOf S W e1 ev) := by
  obtain ⟨t, p, r⟩ := h.ex
  exact ⟨fun pins s σ H Q I ⟨B, ρ, Fs, J, w⟩ => p.run pins s σ H Q I (r B ρ σ Fs H Q J w)⟩
theorem XG.tg {pu : Bool} {e : Expr} {bd : D → Env → Option Env} (h : XG X S pu e ts bd) : PG X e (tgOf S pu ts bd) := by
  obtain ⟨t, p, r⟩ := h.ex
  exact ⟨fun pins s σ H v u Q I rv ⟨B, ρ, ρ', Fs, d, G, J, rr, g0, g1, hb, k⟩ => p.run pins s σ H v u Q I rv (r B ρ ρ' σ Fs H d v G Q J rr g0 g1 hb k)⟩
theorem XIt.ti {pu : Bool} {tg e : Expr} {ev : M (List D)} (h : XIt X S W tg e T pu e1 ev) : PI X tg e (tiOf S W T pu e1 ev) := by
  obtain ⟨t, p, r⟩ := h.ex
  exact ⟨fun pins s σ H Q I ⟨B, ρ, Fs, J, w⟩ => p.run pins s σ H Q I (r B ρ σ Fs H Q J w)⟩

/-! ### comprehensions -/
/-- the tests of a clause -/
structure XC (X : Cx) (S : Sig) (W : WX) (ifs : List Expr) (eff : Bool) (ev : M Bool) : Prop where
  ex : ∃ t, PTs X ifs t ∧ RT S W eff ev t
def ebYes : M Bool := fun ρ => .ok true ρ
theorem xc_nil : XC X S W [] false ebYes := ⟨_, pts_nil, fun B ρ σ Fs H Q I h => h H Fs I Step.refl⟩
theorem xc_one {c : Expr} {ev : M Bool} (h : XT X S W c e1 ev) : XC X S W [c] e1 ev := let ⟨_, p, r⟩ := h.ex; ⟨_, pts_one p, r⟩
theorem XC.tt {ifs : List Expr} {ev : M Bool} (h : XC X S W ifs e1 ev) : PTs X ifs (ttOf S W e1 ev) := by
  obtain ⟨t, p, r⟩ := h.ex
  exact ⟨fun pins s σ H Q I ⟨B, ρ, Fs, J, w⟩ => p.run pins s σ H Q I (r B ρ σ Fs H Q J w)⟩
/-- the slots vs given back as they were -/
def backE (ρ0 : Env) (ρ : Env) : List Nat → Env
  | [] => ρ
  | v :: vs => (backE ρ0 ρ vs).set v (ρ0.getD v none)
theorem backE_length (ρ0 ρ : Env) : ∀ vs, (backE ρ0 ρ vs).length = ρ.length
  | [] => rfl
  | v :: vs => by unfold backE; rw [List.length_set, backE_length ρ0 ρ vs]
theorem wipe_out' {σ : L2.St} {i : Nat} : ∀ {vs : List Nat}, i ∉ vs → (wipe σ vs)[i]? = σ[i]?
  | [], _ => rfl
  | v :: vs, h => by
    simp only [List.mem_cons, not_or] at h
    unfold wipe
    rw [List.getElem?_set_ne (fun e => h.1 e.symm), wipe_out' h.2]
theorem wipe_in {σ : L2.St} {i : Nat} : ∀ {vs : List Nat}, i ∈ vs → (wipe σ vs)[i]? = if i < σ.length then some none else none
  | v :: vs, h => by
    unfold wipe
    by_cases e : v = i
    · subst e
      by_cases hl : v < σ.length
      · rw [List.getElem?_set_self (by rw [wipe_length]; exact hl), if_pos hl]
      · rw [List.getElem?_eq_none (by simpa [wipe_length] using hl), if_neg hl]
    · rw [List.getElem?_set_ne e]
      exact wipe_in ((List.mem_cons.mp h).resolve_left fun q => e q.symm)
theorem wipe_eq {σ σ' : L2.St} {vs : List Nat} (hl : σ'.length = σ.length) (h : ∀ i, i ∉ vs → σ'[i]? = σ[i]?) : wipe σ' vs = wipe (wipe σ vs) vs ∧ wipe σ' vs = wipe σ vs := by
  have a : ∀ τ : L2.St, τ.length = σ.length → (∀ i, i ∉ vs → τ[i]? = σ[i]?) → wipe τ vs = wipe σ vs := fun τ e k => by
    apply List.ext_getElem?
    intro i
    by_cases hi : i ∈ vs
    · rw [wipe_in hi, wipe_in hi, e]
    · rw [wipe_out' hi, wipe_out' hi, k i hi]
  exact ⟨by rw [a σ' hl h, a (wipe σ vs) (wipe_length σ vs) fun i hi => wipe_out' hi], a σ' hl h⟩
theorem wipeE_out {ρ : Env} {i : Nat} : ∀ {vs : List Nat}, i ∉ vs → (wipeE ρ vs)[i]? = ρ[i]?
  | [], _ => rfl
  | v :: vs, h => by
    simp only [List.mem_cons, not_or] at h
    unfold wipeE
    rw [List.getElem?_set_ne (fun e => h.1 e.symm), wipeE_out h.2]
theorem backE_out {ρ0 ρ : Env} {i : Nat} : ∀ {vs : List Nat}, i ∉ vs → (backE ρ0 ρ vs)[i]? = ρ[i]?
  | [], _ => rfl
  | v :: vs, h => by
    simp only [List.mem_cons, not_or] at h
    unfold backE
    rw [List.getElem?_set_ne (fun e => h.1 e.symm), backE_out h.2]
theorem backE_in {ρ0 ρ : Env} {i : Nat} : ∀ {vs : List Nat}, i ∈ vs → (backE ρ0 ρ vs)[i]? = if i < ρ.length then some (ρ0.getD i none) else none
  | v :: vs, h => by
    unfold backE
    by_cases e : v = i
    · subst e
      by_cases hl : v < ρ.length
      · rw [List.getElem?_set_self (by rw [backE_length]; exact hl), if_pos hl]
      · rw [List.getElem?_eq_none (by simpa [backE_length] using hl), if_neg hl]
    · rw [List.getElem?_set_ne e]
      exact backE_in ((List.mem_cons.mp h).resolve_left fun q => e q.symm)
theorem back_wipe (ρ : Env) (vs : List Nat) : backE ρ (wipeE ρ vs) vs = ρ := by
  apply List.ext_getElem?
  intro i
  by_cases hi : i ∈ vs
  · rw [backE_in hi, wipeE_length]
    split
    · rename_i h; rw [List.getD_eq_getElem?_getD, List.getElem?_eq_getElem h]; rfl
    · rename_i h; rw [List.getElem?_eq_none (by omega)]
  · rw [backE_out hi, wipeE_out hi]
def lcLoop (vs : List Nat) (bd : D → Env → Option Env) (tt : M Bool) (ee : M D) : List D → Env → Rs (List D)
  | [], ρ => .ok [] ρ
  | d :: ds, ρ => match bd d ρ with
    | none => .st
    | some ρ1 => match tt ρ1 with
      | .ok true ρ2 => match ee ρ2 with
        | .ok y ρ3 => if pureD y then (match lcLoop vs bd tt ee ds (wipeE ρ3 vs) with | .ok ys ρ4 => .ok (y :: ys) ρ4 | _ => .st) else .st
        | _ => .st
      | .ok false ρ2 => lcLoop vs bd tt ee ds (wipeE ρ2 vs)
      | _ => .st
def eLc (vs : List Nat) (it : M (List D)) (bd : D → Env → Option Env) (tt : M Bool) (ee : M D) : M D := fun ρ => bindR (it ρ) fun ds ρ1 =>
  match lcLoop vs bd tt ee ds (wipeE ρ1 vs) with | .ok ys ρ2 => .ok (.lst ys) (backE ρ1 ρ2 vs) | _ => .st
theorem EnvR.wipe {vs : List Nat} (I : EnvR S B ρ σ Fs H) : EnvR S B (wipeE ρ vs) (L2.wipe σ vs) Fs H := by
  have g : ∀ i d, (wipeE ρ vs)[i]? = some (some d) → ρ[i]? = some (some d) ∧ i ∉ vs := fun i d e => wipeE_some e
  have ob : ∀ i, Own S (wipeE ρ vs) i → Own S ρ i ∧ i ∉ vs := fun i oi => by
    obtain ⟨d, e⟩ := oi.2
    exact ⟨⟨oi.1, d, (g i d e).1⟩, (g i d e).2⟩
  exact ⟨by rw [wipeE_length, wipe_length]; exact I.len, fun i d e => by rw [wipe_out' (g i d e).2]; exact I.slot i d (g i d e).1, fun i d e => I.pl i d (g i d e).1, fun i d e hk => by rw [wipe_out' (g i d e).2]; exact I.par i d (g i d e).1 hk, fun i d e => I.bw i d (g i d e).1,
    fun i oi => I.own i (ob i oi).1, fun i j oi oj => I.dis i j (ob i oi).1 (ob j oj).1, fun i oi hk => by rw [wipe_out' (ob i oi).2]; exact I.iov i (ob i oi).1 hk, I.prot, I.pdom, I.tr⟩
/-- the slots of the block may be forgotten -/
theorem EnvR.rewipe {vs : List Nat} (I : EnvR S B ρ σ' Fs H) (e : L2.wipe σ' vs = L2.wipe σ vs) : EnvR S B (wipeE ρ vs) (L2.wipe σ vs) Fs H := by
  rw [← e]; exact I.wipe
theorem step_wipe {vs : List Nat} (s : Step S e1 ρ Fs H ρ1 Fs1 H1) (h : e1 = true) : Step S e2 ρ Fs H (wipeE ρ1 vs) Fs1 H1 → True := fun _ => trivial
theorem Step.upd {D : Addr} {o : HO} (s : Step S e1 ρ Fs H ρ1 Fs1 H1) (h : H D = none) : Step S e1 ρ Fs H ρ1 Fs1 (L2.upd H1 D o) := by
  have ne : ∀ a u, H a = some u → a ≠ D := fun a u q => ne_of_none q h
  refine ⟨fun a u q => ?_, s.grow, fun a q => ?_, fun z => ?_⟩
  · rw [upd_ne (ne a u q)]; exact s.chg a u q
  · by_cases e : a = D
    · rw [e]; exact h
    · rw [upd_ne e] at q; exact s.dom a q
  · obtain ⟨a, b, c⟩ := s.noeff z
    exact ⟨a, b, fun x u q => by rw [upd_ne (ne x u q)]; exact c x u q⟩
theorem EnvR.upd {D : Addr} {u0 o : HO} (I : EnvR S B ρ σ Fs H) (hD : H D = some u0) (hB : B.H0 D = none) (hO : ∀ i, Own S ρ i → D ∉ Fs i) (mu : Mu S.c B.R u0 D := by trivial) : EnvR S B ρ σ Fs (L2.upd H D o) := by
  have nP : ¬ B.P0 D := fun p => by obtain ⟨u, q⟩ := I.pdom D p; rw [hB] at q; cases q
  refine ⟨I.len, fun i d e => ?_, I.pl, I.par, I.bw, I.own, I.dis, I.iov, fun a u p q => ?_, I.pdom, fun a u q => ?_⟩
  · obtain ⟨v, hv, r⟩ := I.slot i d e
    refine ⟨v, hv, r.keep fun a u q z => ?_⟩
    have ne : a ≠ D := fun z' => by
      subst z'
      rw [hD] at q; cases q
      rcases z with z | z
      · exact z mu
      · cases hk : S.kd i with
        | pl => rw [I.pl i d e hk] at z; cases z
        | par => exact nP (I.parP e hk a z)
        | own => exact hO i ⟨.inl hk, d, e⟩ z
        | io => exact hO i ⟨.inr hk, d, e⟩ z
        | bw => exact nP (I.bw i d e hk a z)
    rw [upd_ne ne]; exact q
  · have := I.prot a u p q
    by_cases e : a = D
    · subst e; rw [hB] at q; cases q
    · rw [upd_ne e]; exact this
  · by_cases e : a = D
    · subst e; exact ⟨o, upd_same⟩
    · rw [upd_ne e]; exact I.tr a u q
theorem Step.unlock {ρ0 : Env} {σ0 : L2.St} {Fs0 : Nat → List Addr} {H0 : Hp} (I : EnvR S B ρ0 σ0 Fs0 H0) (wk : Wk S B T ρ0 Fs0 H0 Fp) (lk : Lk S B T ρ0 σ0 Fs0 H0 Fp B') (J : EnvR (lockS S T) B' ρ1 σ Fs1 H1) (s : Step (lockS S T) e1 ρ Fs H ρ1 Fs1 H1)
    (h : ∀ i, i ∈ T → (Live ρ0 i ↔ Live ρ i) ∧ Fs i = Fs0 i) : Step S e1 ρ Fs H ρ1 Fs1 H1 := by
  refine ⟨fun a u q => (s.chg a u q).imp id fun ⟨i, oi, m⟩ => ⟨i, own_of_lock oi, m⟩, fun i a oi m => ?_, s.dom, fun z => ?_⟩
  · by_cases hi : i ∈ T
    · obtain ⟨d, e⟩ := oi.2
      have f := (J.par i d e (lockS_in hi)).1
      by_cases o : Live ρ0 i
      · obtain ⟨o2, f2⟩ := h i hi
        rw [f, (lk.FpT i hi).1 o, ← f2] at m
        exact .inr ⟨i, ⟨oi.1, o2.mp o⟩, m⟩
      · rw [f, (lk.FpT i hi).2 o] at m; cases m
    · exact (s.grow i a (own_unlock oi hi) m).imp id fun ⟨j, oj, mj⟩ => ⟨j, own_of_lock oj, mj⟩
  · obtain ⟨q1, q2, q3⟩ := s.noeff z
    refine ⟨q1, fun i oi => ?_, q3⟩
    by_cases hi : i ∈ T
    · obtain ⟨d, e⟩ := oi.2
      have f := (J.par i d (by rw [q1]; exact e) (lockS_in hi)).1
      obtain ⟨o2, f2⟩ := h i hi
      rw [f, (lk.FpT i hi).1 (o2.mpr oi.2), f2]
    · exact q2 i (own_unlock oi hi)
theorem Reps.snoc {C : Core} {R : Addr → Prop} {ys : List D} {y : D} {acc : List V} {x : V} (h : Reps C R H ys acc []) (r : Rep C R H y x []) : Reps C R H (ys ++ [y]) (acc ++ [x]) [] := by
  have := h.app (.cons r .nil)
  simpa using this
/-- a comprehension's parts and what they tell -/
structure XL (X : Cx) (S : Sig) (W : WX) (elt tg iter : Expr) (ifs : List Expr) (scope : Scope) (own : List (Str × Nat)) (eff : Bool) (ev : M D) : Prop where
  ex : ∃ wi g tt te, PI X tg iter wi ∧ BlkOk X.N X.env.scope scope own ∧ (∀ (s : Shared) (H : Hp) (C : Addr) (cl : List (Str × Addr)) (fp : List Addr), PG (X.blk s H scope (compEnvC scope cl C X.env) fp) tg g) ∧
    (∀ (s : Shared) (H : Hp) (C : Addr) (cl : List (Str × Addr)) (fp : List Addr), PTs (X.blk s H scope (compEnvC scope cl C X.env) fp) ifs tt) ∧
    (∀ (s : Shared) (H : Hp) (C : Addr) (cl : List (Str × Addr)) (fp : List Addr), PE (X.blk s H scope (compEnvC scope cl C X.env) fp) elt te) ∧ RE S W .fr eff ev (tLc wi g tt te (own.map (·.2)))
theorem xl_lc {pu : Bool} {own : List (Str × Nat)} {tg iter elt : Expr} {ifs : List Expr} {scope : Scope} {it : M (List D)} {bd : D → Env → Option Env} {tt : M Bool} {ee : M D} (hi : XIt X S W tg iter T pu e1 it) (ok : blkC X.N X.env.scope scope own = true)
    (hg : ∀ (s : Shared) (H : Hp) (C : Addr) (cl : List (Str × Addr)) (fp : List Addr), XG (X.blk s H scope (compEnvC scope cl C X.env) fp) (lockS S T) pu tg ts bd) (ht : ∀ (s : Shared) (H : Hp) (C : Addr) (cl : List (Str × Addr)) (fp : List Addr), XC (X.blk s H scope (compEnvC scope cl C X.env) fp) (lockS S T) W0 ifs e2 tt)
    (he : ∀ (s : Shared) (H : Hp) (C : Addr) (cl : List (Str × Addr)) (fp : List Addr), XE (X.blk s H scope (compEnvC scope cl C X.env) fp) (lockS S T) W0 elt m e3 ee) (hts : ts.all (own.map (·.2)).contains = true := by rfl) (hpl : (own.map (·.2)).all (takeS (lockS S T) true) = true := by rfl) (hbw : bwOk S (own.map (·.2)) T = true := by rfl) :
    XL X S W elt tg iter ifs scope own (e1 || (e2 || e3)) (eLc (own.map (·.2)) it bd tt ee) := by
  obtain ⟨ti, pi, ri⟩ := hi.ex
  refine ⟨_, _, _, _, pi, blkOk_by ok, fun s H C cl fp => (hg s H C cl fp).tg, fun s H C cl fp => (ht s H C cl fp).tt, fun s H C cl fp => (he s H C cl fp).te, fun B ρ σ Fs H Q I h => ri B ρ σ Fs H _ I (h.bind.imp fun ds ρ1 _ h1 J H1 Fs1 Fp I1 s1 wk okk L hL => ?_)⟩
  generalize hvs : own.map (·.2) = vs at *
  obtain ⟨B', lk⟩ := Lk.mk' S B T ρ1 σ Fs1 H1 Fp fun a h => I1.rdH h
  have plv : ∀ i ∈ vs, (lockS S T).kd i = .pl ∨ (lockS S T).kd i = .bw := fun i hi => (takeS_of (List.all_eq_true.mp hpl i hi)).imp And.left id
  have tsv : ∀ i, i ∉ vs → i ∉ ts := fun i hi z => hi (by simpa using List.all_eq_true.mp hts i z)
  have ownv : ∀ {ρ2 : Env} {i : Nat}, Own (lockS S T) ρ2 i → i ∉ vs := fun {ρ2 i} oi hi => by
    rcases plv i hi with k | k <;> rcases oi.1 with z | z <;> rw [k] at z <;> cases z
  have ow : ∀ {ρ2 : Env} {i : Nat}, Own (lockS S T) ρ2 i → Own (lockS S T) (wipeE ρ2 vs) i := fun {ρ2 i} oi => by
    obtain ⟨d, e⟩ := oi.2
    exact ⟨oi.1, d, by rw [wipeE_out (ownv oi)]; exact e⟩
  have wo : ∀ {ρ2 : Env} {i : Nat}, Own (lockS S T) (wipeE ρ2 vs) i → Own (lockS S T) ρ2 i := fun {ρ2 i} oi => by
    obtain ⟨d, e⟩ := oi.2
    exact ⟨oi.1, d, (wipeE_some e).1⟩
  have ground : ∀ {ρ2 σ2 Fs2 H2}, EnvR (lockS S T) B' ρ2 σ2 Fs2 H2 → ∀ a o, H1 a = some o → (¬ Mu S.c B.R o a ∨ a ∈ Fp) → H2 a = some o := fun {ρ2 σ2 Fs2 H2} J2 a o q z => by
    refine J2.prot a o ?_ (by rw [lk.H0]; exact q)
    rcases z with z | z
    · exact .inr (by rw [lockS_c, lk.R]; exact z)
    · exact .inl ((lk.P0 a).mpr (.inr (.inl z)))
  have hB' : B'.H0 L = none := by rw [lk.H0]; exact hL
  -- the state between two turns
  let ew := e2 || e3
  have Il := I1.lock wk lk
  refine ⟨fun i mm H2 => i ≤ ds.length ∧ mm = ds.length - i ∧ ∃ ρ2 Fs2 acc ys, EnvR (lockS S T) B' (wipeE ρ2 vs) (wipe σ vs) Fs2 H2 ∧ Step (lockS S T) ew (wipeE ρ1 vs) Fs1 H1 (wipeE ρ2 vs) Fs2 H2 ∧ H2 L = some (.lst acc) ∧ Reps S.c B.R H2 ys acc [] ∧ acc.length ≤ i ∧ (∀ j, Own (lockS S T) (wipeE ρ2 vs) j → L ∉ Fs2 j) ∧
      ∃ zs ρ3, lcLoop vs bd tt ee (ds.drop i) (wipeE ρ2 vs) = .ok zs ρ3 ∧ (∀ v H' Fs' F, Post S B .fr (e1 || (e2 || e3)) σ ρ Fs H (backE ρ1 ρ3 vs) (.lst (ys ++ zs)) v H' Fs' F → Q v H'), ⟨_, Nat.zero_le _, rfl, ρ1, Fs1, [], [], ?_⟩, fun i mm H2 ⟨hi, hm, ρ2, Fs2, acc, ys, J2, st2, hL2, ra, hac, hO2, zs, ρ3, hz, hq⟩ => ?_⟩
  · -- the start
    have J0 : EnvR (lockS S T) B' (wipeE ρ1 vs) (wipe σ vs) Fs1 (upd H1 L (.lst [])) := Il.wipe.same (same_upd hL)
    refine ⟨J0, Step.of_same (same_upd hL), upd_same, .nil, Nat.le_refl _, fun j oj z => ?_, ?_⟩
    · obtain ⟨u, hu, _⟩ := Il.wipe.mem oj z
      rw [hL] at hu; cases hu
    · cases q : lcLoop vs bd tt ee ds (wipeE ρ1 vs) with
      | ok zs ρ3 => rw [q] at h1; exact ⟨zs, ρ3, by simpa using q, h1⟩
      | er _ _ _ => rw [q] at h1; exact h1.elim
      | st => rw [q] at h1; exact h1.elim
  · by_cases hl : i < ds.length
    · -- a turn
      have hd : ds[i]? = some ds[i] := List.getElem?_eq_getElem hl
      obtain ⟨go, yld⟩ := okk.step H2 (ground J2) i _ hd
      refine .inr ⟨go, fun H5 => ∃ ρ2 Fs2 acc ys, EnvR (lockS S T) B' (wipeE ρ2 vs) (wipe σ vs) Fs2 H5 ∧ Step (lockS S T) ew (wipeE ρ1 vs) Fs1 H1 (wipeE ρ2 vs) Fs2 H5 ∧ H5 L = some (.lst acc) ∧ Reps S.c B.R H5 ys acc [] ∧ acc.length ≤ i + 1 ∧ (∀ j, Own (lockS S T) (wipeE ρ2 vs) j → L ∉ Fs2 j) ∧
        ∃ zs ρ3, lcLoop vs bd tt ee (ds.drop (i + 1)) (wipeE ρ2 vs) = .ok zs ρ3 ∧ (∀ v H' Fs' F, Post S B .fr (e1 || (e2 || e3)) σ ρ Fs H (backE ρ1 ρ3 vs) (.lst (ys ++ zs)) v H' Fs' F → Q v H'), fun H5 q => ⟨_, by omega, by omega, rfl, q⟩, fun x H3 hx => ?_⟩
      obtain ⟨sm, G, rx, g0, g1⟩ := yld x H3 hx
      rw [List.drop_eq_getElem_cons hl] at hz
      unfold lcLoop at hz
      cases qb : bd ds[i] (wipeE ρ2 vs) with
      | none => rw [qb] at hz; cases hz
      | some ρ4 =>
        rw [qb] at hz
        simp only at hz
        have J3 := J2.same sm
        refine ⟨B', wipeE ρ2 vs, ρ4, Fs2, ds[i], G, J3, by rw [lockS_c, lk.R]; exact rx, g0, (fun a ha => (lk.P0 a).mpr (.inr (.inl (g1 a ha)))), qb, fun σ4 Fs4 J4 b4 => ?_⟩
        have hw4 : wipe σ4 vs = wipe σ vs := by
          have := (wipe_eq (σ := wipe σ vs) (σ' := σ4) (vs := vs) b4.len (fun j hj => b4.sg j (tsv j hj))).2
          rw [this]
          exact (wipe_eq (σ := σ) (σ' := wipe σ vs) (vs := vs) (wipe_length σ vs) fun j hj => wipe_out' hj).2
        have hw2 : wipe (wipe σ vs) vs = wipe σ vs := (wipe_eq (σ := σ) (σ' := wipe σ vs) (vs := vs) (wipe_length σ vs) fun j hj => wipe_out' hj).2
        refine ⟨hw4, B', ρ4, Fs4, J4, ?_⟩
        have hL3 : H3 L = some (.lst acc) := sm _ _ hL2
        have nL4 : ∀ j, Own (lockS S T) ρ4 j → L ∉ Fs4 j := fun j oj z => by
          obtain ⟨o2, f2⟩ := b4.own j oj
          rw [f2] at z; exact hO2 j o2 z
        have ra3 := ra.same sm
        -- behind the tests
        have aft : ∀ {e5 : Bool} {ρ5 Fs5 H5}, EnvR (lockS S T) B' ρ5 σ4 Fs5 H5 → Step (lockS S T) e5 ρ4 Fs4 H3 ρ5 Fs5 H5 → (ew = false → e5 = false) →
            H5 L = some (.lst acc) ∧ (∀ j, Own (lockS S T) ρ5 j → L ∉ Fs5 j) ∧ EnvR (lockS S T) B' (wipeE ρ5 vs) (wipe σ vs) Fs5 H5 ∧ Step (lockS S T) ew (wipeE ρ1 vs) Fs1 H1 (wipeE ρ5 vs) Fs5 H5 ∧ Reps S.c B.R H5 ys acc [] := fun {e5 ρ5 Fs5 H5} J5 s5 h5 => by
          have hL5 : H5 L = some (.lst acc) := by
            rcases s5.chg L _ hL3 with z | ⟨j, oj, z⟩
            · exact z
            · exact absurd z (nL4 j oj)
          refine ⟨hL5, fun j oj z => ?_, J5.rewipe hw4, ?_, ?_⟩
          · rcases s5.grow j L oj z with n | ⟨k, ok, mk⟩
            · rw [hL3] at n; cases n
            · exact nL4 k ok mk
          · have sT : Step (lockS S T) ew (wipeE ρ2 vs) Fs2 H2 (wipeE ρ5 vs) Fs5 H5 := by
              refine ⟨fun a u q => ?_, fun i a oi m => ?_, fun a n => ?_, fun z => ?_⟩
              · rcases s5.chg a u (sm _ _ q) with z | ⟨j, oj, z⟩
                · exact .inl z
                · obtain ⟨o2, f2⟩ := b4.own j oj
                  rw [f2] at z; exact .inr ⟨j, o2, z⟩
              · rcases s5.grow i a (wo oi) m with n | ⟨j, oj, z⟩
                · exact .inl (sm.free n)
                · obtain ⟨o2, f2⟩ := b4.own j oj
                  rw [f2] at z; exact .inr ⟨j, o2, z⟩
              · exact sm.free (s5.dom a n)
              · obtain ⟨rfl, f5, k5⟩ := s5.noeff (h5 z)
                refine ⟨?_, fun i oi => ?_, sm.trans k5⟩
                · apply List.ext_getElem?
                  intro j
                  by_cases hj : j ∈ vs
                  · have e1 : ∀ r : Env, (wipeE r vs)[j]? = if j < r.length then some none else none := fun r => by
                      have : ∀ us : List Nat, j ∈ us → (wipeE r us)[j]? = if j < r.length then some none else none := by
                        intro us
                        induction us with
                        | nil => intro h; cases h
                        | cons u us ih =>
                          intro h
                          unfold wipeE
                          by_cases e : u = j
                          · subst e
                            by_cases hl' : u < r.length
                            · rw [List.getElem?_set_self (by rw [wipeE_length]; exact hl'), if_pos hl']
                            · rw [List.getElem?_eq_none (by simpa [wipeE_length] using hl'), if_neg hl']
                          · rw [List.getElem?_set_ne e]
                            exact ih ((List.mem_cons.mp h).resolve_left fun q => e q.symm)
                      exact this vs hj
                    rw [e1, e1, b4.le2, wipeE_length]
                  · rw [wipeE_out hj, b4.rh j (tsv j hj)]
                · have o4 := b4.back i oi
                  rw [f5 i o4, (b4.own i o4).2]
            have := st2.trans sT
            simpa using this
          · refine ra3.keep fun a u q z => ?_
            rcases s5.chg a u q with k | ⟨j, oj, k⟩
            · exact k
            · rcases z with z | z
              · obtain ⟨u', hu', mu⟩ := J4.mem oj k
                rw [q] at hu'; cases hu'
                rw [lockS_c, lk.R] at mu
                exact absurd mu z
              · cases z
        cases qt : tt ρ4 with
        | er _ _ _ => rw [qt] at hz; cases hz
        | st => rw [qt] at hz; cases hz
        | ok b ρ5 =>
          rw [qt] at hz
          intro H5 Fs5 J5 s5
          cases b with
          | false =>
            obtain ⟨q1, q2, q3, q4, q5⟩ := aft J5 s5 fun z => by simp only [ew, Bool.or_eq_false_iff] at z; exact z.1
            exact iteF ⟨ρ5, Fs5, acc, ys, q3, q4, q1, q5, by omega, fun j oj => q2 j (wo oj), zs, ρ3, hz, hq⟩
          | true =>
            refine iteT ⟨B', ρ5, Fs5, J5, ?_⟩
            simp only at hz
            cases qe : ee ρ5 with
            | er _ _ _ => rw [qe] at hz; cases hz
            | st => rw [qe] at hz; cases hz
            | ok y ρ6 =>
              rw [qe] at hz
              simp only at hz
              split at hz
              · rename_i hp
                intro v H6 Fs6 F6 p
                obtain ⟨q1, q2, q3, q4, q5⟩ := aft (e5 := e2 || e3) p.env (s5.trans p.step) fun z => z
                have F0 := p.rep.pure hp
                have rv := p.rep
                rw [F0, lockS_c, lk.R] at rv
                have hlen : acc.length < sizeLine := by have := okk.len; omega
                refine ⟨acc, q1, hlen, ?_⟩
                cases q6 : lcLoop vs bd tt ee (ds.drop (i + 1)) (wipeE ρ6 vs) with
                | er _ _ _ => rw [q6] at hz; cases hz
                | st => rw [q6] at hz; cases hz
                | ok zs' ρ7 =>
                  rw [q6] at hz
                  simp only at hz
                  cases hz
                  have kp : ∀ a u, H6 a = some u → (¬ Mu S.c B.R u a ∨ a ∈ []) → (upd H6 L (.lst (acc ++ [v]))) a = some u := fun a u q z => by
                    have ne : a ≠ L := fun z' => by
                      subst z'
                      rw [q1] at q; cases q
                      rcases z with z | z
                      · exact z trivial
                      · cases z
                    rw [upd_ne ne]; exact q
                  refine ⟨ρ6, Fs6, acc ++ [v], ys ++ [y], q3.upd q1 hB' (fun j oj => q2 j (wo oj)), q4.upd hL, upd_same, (q5.keep kp).snoc (rv.keep kp), by simp; omega, fun j oj => q2 j (wo oj), zs', ρ3, q6, ?_⟩
                  simpa using hq
              · cases hz
    · -- the end
      refine .inl ⟨okk.stop H2 (ground J2) i (by omega), ?_⟩
      rw [List.drop_eq_nil_of_le (by omega)] at hz
      cases hz
      have J3 := I1.unlock wk lk J2 fun i hl hk => (bwOk_of hbw hk).resolve_left fun z => by obtain ⟨d, e⟩ := hl; exact (wipeE_some e).2 z
      have vT : ∀ i ∈ vs, i ∉ T := fun i hi z => by rcases plv i hi with k | k <;> rw [lockS_in z] at k <;> cases k
      have plS' : ∀ i ∈ vs, S.kd i = .pl ∨ S.kd i = .bw := fun i hi => by rw [← lockS_out (vT i hi)]; exact plv i hi
      have noOwn : ∀ {ρ5 : Env} {i : Nat}, Own S ρ5 i → i ∉ vs := fun {ρ5 i} oi hi => by
        rcases plS' i hi with k | k <;> rcases oi.1 with z | z <;> rw [k] at z <;> cases z
      have ob : ∀ i, Own S (backE ρ1 (wipeE ρ2 vs) vs) i → Own S (wipeE ρ2 vs) i := fun i oi => by
        obtain ⟨d, e⟩ := oi.2
        rw [backE_out (noOwn oi)] at e
        exact ⟨oi.1, d, e⟩
      have lenE : (wipeE ρ2 vs).length = ρ1.length := by rw [J2.len, wipe_length, I1.len]
      have live : ∀ i d, (backE ρ1 (wipeE ρ2 vs) vs)[i]? = some (some d) → (i ∈ vs ∧ ρ1[i]? = some (some d)) ∨ (i ∉ vs ∧ (wipeE ρ2 vs)[i]? = some (some d)) := fun i d e => by
        by_cases hi : i ∈ vs
        · rw [backE_in hi] at e
          split at e
          · rename_i hl'
            refine .inl ⟨hi, ?_⟩
            rw [List.getD_eq_getElem?_getD] at e
            rw [lenE] at hl'
            rw [List.getElem?_eq_getElem hl'] at e ⊢
            exact e
          · cases e
        · rw [backE_out hi] at e; exact .inr ⟨hi, e⟩
      have hLo : ∀ j, Own S (wipeE ρ2 vs) j → L ∉ Fs2 j := fun j oj z => by
        by_cases hj : j ∈ T
        · obtain ⟨d, e⟩ := oj.2
          have f := (J2.par j d e (lockS_in hj)).1
          rw [f] at z
          by_cases o : Live ρ1 j
          · rw [(lk.FpT j hj).1 o] at z
            obtain ⟨d', e'⟩ := o
            obtain ⟨v', _, r'⟩ := I1.slot j d' e'
            obtain ⟨u, hu⟩ := r'.some L z
            rw [hL] at hu; cases hu
          · rw [(lk.FpT j hj).2 o] at z; cases z
        · exact hO2 j (own_unlock oj hj) z
      have st3 : Step S ew (wipeE ρ1 vs) Fs1 H1 (wipeE ρ2 vs) Fs2 H2 := Step.unlock I1 wk lk J2 st2 fun i hi => ⟨⟨fun o => by
        obtain ⟨d, e⟩ := o
        exact ⟨d, by rw [wipeE_out (fun z => vT i z hi)]; exact e⟩, fun o => by
        obtain ⟨d, e⟩ := o
        exact ⟨d, (wipeE_some e).1⟩⟩, rfl⟩
      have imm : ∀ a u, H1 a = some u → ¬ Mu S.c B.R u a → H2 a = some u := fun a u q z => ground J2 a u q (.inl z)
      refine hq (.ref L) H2 (fun i => if i ∈ vs then Fs1 i else Fs2 i) [L] ⟨⟨by rw [backE_length, lenE]; exact I1.len, fun i d e => ?_, fun i d e hk => ?_, fun i d e hk => ?_, fun i d e hk => ?_, fun i oi => ?_, fun i j oi oj hij => ?_, fun i oi hk => ?_, J3.prot, J3.pdom, J3.tr⟩, ?_, ?_, ?_⟩
      · rcases live i d e with ⟨hi, e⟩ | ⟨hi, e⟩
        · obtain ⟨v, hv, r⟩ := I1.slot i d e
          refine ⟨v, hv, ?_⟩
          simp only [if_pos hi]
          refine r.keep fun a u q z => z.elim (imm a u q) fun z => ?_
          rcases plS' i hi with k | k
          · rw [I1.pl i d e k] at z; cases z
          · have p := I1.bw i d e k a z
            obtain ⟨o, q0⟩ := I1.pdom a p
            have := I1.prot a o (.inl p) q0
            rw [q] at this; cases this
            exact J3.prot a u (.inl p) q0
        · obtain ⟨v, hv, r⟩ := J3.slot i d e
          refine ⟨v, ?_, ?_⟩
          · rw [wipe_out' hi] at hv; exact hv
          · simp only [if_neg hi]; exact r
      · rcases live i d e with ⟨hi, e⟩ | ⟨hi, e⟩
        · simp only [if_pos hi]; exact I1.pl i d e hk
        · simp only [if_neg hi]; exact J3.pl i d e hk
      · rcases live i d e with ⟨hi, e⟩ | ⟨hi, e⟩
        · rcases plS' i hi with k | k <;> rw [hk] at k <;> cases k
        · simp only [if_neg hi]
          have := J3.par i d e hk
          rw [wipe_out' hi] at this; exact this
      · rcases live i d e with ⟨hi, e⟩ | ⟨hi, e⟩
        · simp only [if_pos hi]; exact I1.bw i d e hk
        · simp only [if_neg hi]; exact J3.bw i d e hk
      · have hi := noOwn oi
        simp only [if_neg hi]; exact J3.own i (ob i oi)
      · simp only [if_neg (noOwn oi), if_neg (noOwn oj)]
        exact J3.dis i j (ob i oi) (ob j oj) hij
      · have := J3.iov i (ob i oi) hk
        rw [wipe_out' (noOwn oi)] at this; exact this
      · rw [List.append_nil]
        exact .lst hL2 (by have := okk.len; omega) ra
      · refine s1.trans ⟨fun a u q => (st3.chg a u q).imp id fun ⟨j, oj, m⟩ => ⟨j, let ⟨d, e⟩ := oj.2; ⟨oj.1, d, (wipeE_some e).1⟩, m⟩, fun j a oj m => ?_, st3.dom, fun z => ?_⟩
        · simp only [if_neg (noOwn oj)] at m
          refine (st3.grow j a (ob j oj) m).imp id fun ⟨k, ok, mk⟩ => ?_
          obtain ⟨d, e⟩ := ok.2
          exact ⟨k, ⟨ok.1, d, (wipeE_some e).1⟩, mk⟩
        · obtain ⟨q1, q2, q3⟩ := st3.noeff z
          refine ⟨by rw [q1, back_wipe], fun j oj => ?_, q3⟩
          simp only [if_neg (noOwn oj)]
          obtain ⟨d, e⟩ := oj.2
          exact q2 j ⟨oj.1, d, by rw [wipeE_out (noOwn oj)]; exact e⟩
      · refine ⟨by simp, fun a ha => ?_, fun j oj a ha z => ?_⟩
        · simp only [List.mem_singleton] at ha
          exact .inl (by rw [ha]; exact s1.dom L hL)
        · simp only [List.mem_singleton] at ha
          subst ha
          simp only [if_neg (noOwn oj)] at z
          exact hLo j (ob j oj) z
theorem xe_lc {own : List (Str × Nat)} {tg iter elt : Expr} {ifs : List Expr} {scope : Scope} {ev : M D} (hc : X.calm = true) (hN : X.N.Nodup) (h : XL X S W elt tg iter ifs scope own e1 ev) (hs : ∀ x, foldedSetIterable iter X.env x = Pure.pure x := by intro _; rfl) :
    XE X S W (.ListComp elt [⟨tg, iter, ifs, 0⟩] scope pos) .fr e1 ev := by
  obtain ⟨wi, g, tt, te, h1, h2, h3, h4, h5, h6⟩ := h.ex
  exact ⟨_, pe_lc hc hN h1 h2 h3 h4 h5 hs, h6⟩
/-- x = [..], x a local -/
theorem xs_lc (i : Nat) {y : Str} {py spos : Pos} {own : List (Str × Nat)} {tg iter elt : Expr} {ifs : List Expr} {scope : Scope} {ev : M D} (hc : X.calm = true) (hN : X.N.Nodup) (h : XL X S W elt tg iter ifs scope own e1 ev) (z : putMd S i .fr = true := by rfl) (hi : X.N[i]? = some y := by rfl) (hy : X.env.scope.names.lookup y = some .local := by rfl)
    (hk : X.env.scope.kind = .function := by rfl) (hl : (py.line == pos.line) = true := by rfl) (ha : (scope.names.any fun (n, k) => n == y && (k == .local || k == .cell)) = false := by rfl) (hs : ∀ x, foldedSetIterable iter X.env x = Pure.pure x := by intro _; rfl) :
    XS X S W rm (.Assign [.Name y py] (.ListComp elt [⟨tg, iter, ifs, 0⟩] scope pos) spos) (sSet i ev) := by
  obtain ⟨wi, g, tt, te, h1, h2, h3, h4, h5, h6⟩ := h.ex
  exact ⟨_, ps_setLc hc hN hi hy (sw_true hk hy hl ha) h1 h2 h3 h4 h5 hs, fun B ρ σ Fs H E I hq => h6 B ρ σ Fs H _ I (hq.bind.imp fun d ρ1 _ h1 v H1 Fs1 F q => h1 _ _ H1 (put_ok q I z))⟩
end
end EL

namespace EL
open PySem PySem.Spec PyProof.Rows
open L2 hiding XE
section
variable {X : Cx} {C : Core} {R : Addr → Prop} {H H' : Hp} {F : List Addr}
/-! ### values of operations -/
theorem VP.val {d : D} {v : V} (r : Rep C R H d v []) : VP C R .pu H d v H [] := ⟨Same.refl _, r, rfl⟩
theorem VP.new {d : D} {p : Addr} {o : HO} (hp : H p = none) (r : Rep C R (upd H p o) d (.ref p) []) : VP C R .pu H d (.ref p) (upd H p o) [] := ⟨same_upd hp, r, rfl⟩
theorem VP.newL {ds : List D} {p : Addr} {vs : List V} (hp : H p = none) (hl : vs.length ≤ sizeLine) (r : Reps C R H ds vs []) : VP C R .fr H (.lst ds) (.ref p) (upd H p (.lst vs)) [p] :=
  ⟨same_upd hp, .lst upd_same hl (r.same (same_upd hp)), by simp, by intro a ha; simp at ha; rw [ha]; exact hp⟩
theorem Rep.int_inv {i : Int} {x : V} (h : Rep C R H (.int i) x F) : x = .int i := by cases h; rfl
theorem Rep.str_inv {i : Str} {x : V} (h : Rep C R H (.str i) x F) : x = .str i := by cases h; rfl
theorem Rep.blI {b : Bool} {x : V} (h : Rep C R H (.bl b) x F) : x = .bl b := by cases h; rfl
theorem Rep.nonI {x : V} (h : Rep C R H .non x F) : x = .non := by cases h; rfl
theorem Rep.tup_inv {ds : List D} {x : V} (h : Rep C R H (.tup ds) x F) : ∃ a vs, x = .ref a ∧ SqT C.K H a vs ∧ vs.length ≤ sizeLine ∧ Reps C R H ds vs F := by cases h; exact ⟨_, _, rfl, ‹_›, ‹_›, ‹_›⟩
/-- a list that may be changed or is locked -/
theorem Rep.lst_inv {ds : List D} {x : V} (h : Rep C R H (.lst ds) x F) : ∃ a vs G, x = .ref a ∧ SqL C.K H a vs ∧ vs.length ≤ sizeLine ∧ Reps C R H ds vs G ∧ ∀ b ∈ G, b ∈ F := by
  cases h with
  | lst h l r => exact ⟨_, _, _, rfl, SqL.of h, l, r, fun b hb => List.mem_cons_of_mem _ hb⟩
def dAdd : D → D → Option D
  | .int i, .int j => some (.int (i + j))
  | .str x, .str y => if x.length + y.length ≤ sizeLine then some (.str (x ++ y)) else none
  | .tup xs, .tup ys => if pureDs xs && pureDs ys && decide (xs.length + ys.length ≤ sizeLine) then some (.tup (xs ++ ys)) else none
  | _, _ => none
theorem op2_add (hK : X.K = C.K) : Op2 C (fun x y H Q => (rI0 fun i j => .int (i + j)) x y H Q ∨ ((fun x y H Q => ∃ i j, x = .str i ∧ y = .str j ∧ i.length + j.length ≤ sizeLine ∧ Q (.str (i ++ j)) H) x y H Q ∨ rCatA X.K x y H Q)) dAdd .pu := by
  intro R H d1 d2 d x y F1 F2 Q r1 r2 hg k
  rw [hK]
  cases d1 <;> cases d2 <;> simp only [dAdd] at hg <;> try (cases hg; done)
  · cases hg
    exact .inl ⟨_, _, r1.int_inv, r2.int_inv, k _ _ [] (VP.val (.int _))⟩
  · split at hg <;> cases hg
    rename_i hl
    exact .inr (.inl ⟨_, _, r1.str_inv, r2.str_inv, hl, k _ _ [] (VP.val (.str _))⟩)
  · rename_i xs ys
    split at hg <;> cases hg
    rename_i hc
    simp only [Bool.and_eq_true, decide_eq_true_eq] at hc
    obtain ⟨a, vs, rfl, ha, la, ra⟩ := r1.tup_inv
    obtain ⟨b, ws, rfl, hb, lb, rb⟩ := r2.tup_inv
    have e1 := ra.pure hc.1.1
    have e2 := rb.pure hc.1.2
    subst e1 e2
    have rr : Reps C R H (xs ++ ys) (vs ++ ws) [] := by simpa using ra.app rb
    have hl : vs.length + ws.length ≤ sizeLine := by rw [← ra.length, ← rb.length]; exact hc.2
    refine .inr (.inr ⟨a, b, vs, ws, rfl, rfl, ha, hb, hl, fun e => ?_, fun _ e => ?_, fun _ _ p hp => ?_⟩)
    · subst e
      have ex : xs = [] := by have := ra.length; simpa using this
      subst ex
      exact k _ _ [] (VP.val (.tup hb lb rb))
    · subst e
      have ex : ys = [] := by have := rb.length; simpa using this
      subst ex
      have k' := k (.ref a) H []
      rw [List.append_nil] at k'
      exact k' (VP.val (.tup ha la ra))
    · exact k _ _ [] (VP.new hp (.tup (SqT.of upd_same) (by simpa using hl) (rr.same (same_upd hp))))
def dAddL : D → D → Option D
  | .lst xs, .lst ys => if pureDs xs && pureDs ys && decide (xs.length + ys.length ≤ sizeLine) then some (.lst (xs ++ ys)) else none
  | _, _ => none
def dSub : D → D → Option D
  | .int i, .int j => some (.int (i - j))
  | _, _ => none
theorem op2_sub : Op2 C (rI0 fun i j => .int (i - j)) dSub .pu := by
  intro R H d1 d2 d x y F1 F2 Q r1 r2 hg k
  cases d1 <;> cases d2 <;> simp only [dSub] at hg <;> try (cases hg; done)
  cases hg
  exact ⟨_, _, r1.int_inv, r2.int_inv, k _ _ [] (VP.val (.int _))⟩
def small64' (i : Int) : Bool := decide (-(2 ^ 64) < i) && decide (i < 2 ^ 64)
def dMul : D → D → Option D
  | .int i, .int j => if small64' i || small64' j then some (.int (i * j)) else none
  | _, _ => none
theorem op2_mul : Op2 C (rI CMul fun i j => .int (i * j)) dMul .pu := by
  intro R H d1 d2 d x y F1 F2 Q r1 r2 hg k
  cases d1 <;> cases d2 <;> simp only [dMul] at hg <;> try (cases hg; done)
  split at hg <;> cases hg
  rename_i hc
  simp only [small64', Bool.or_eq_true, Bool.and_eq_true, decide_eq_true_eq] at hc
  exact ⟨_, _, r1.int_inv, r2.int_inv, hc, k _ _ [] (VP.val (.int _))⟩
def dFdiv : D → D → Option D
  | .int i, .int j => if 0 < j && decide (j < 1073741824) then some (.int (i / j)) else none
  | _, _ => none
theorem op2_fdiv : Op2 C (rI CDiv fun i j => .int (i / j)) dFdiv .pu := by
  intro R H d1 d2 d x y F1 F2 Q r1 r2 hg k
  cases d1 <;> cases d2 <;> simp only [dFdiv] at hg <;> try (cases hg; done)
  split at hg <;> cases hg
  rename_i hc
  simp only [Bool.and_eq_true, decide_eq_true_eq] at hc
  exact ⟨_, _, r1.int_inv, r2.int_inv, hc, k _ _ [] (VP.val (.int _))⟩
def dMod : D → D → Option D
  | .int i, .int j => if 0 < j then some (.int (i % j)) else none
  | _, _ => none
theorem op2_mod : Op2 C (rI (fun _ j => 0 < j) fun i j => .int (i % j)) dMod .pu := by
  intro R H d1 d2 d x y F1 F2 Q r1 r2 hg k
  cases d1 <;> cases d2 <;> simp only [dMod] at hg <;> try (cases hg; done)
  split at hg <;> cases hg
  rename_i hc
  exact ⟨_, _, r1.int_inv, r2.int_inv, hc, k _ _ [] (VP.val (.int _))⟩
def dPow : D → D → Option D
  | .int i, .int j => if 0 ≤ j && decide (j ≤ 1000000) && decide (i.natAbs < 2 ^ 64) then some (.int (i ^ j.toNat)) else none
  | _, _ => none
theorem op2_pow : Op2 C (rI CPow fun i j => .int (i ^ j.toNat)) dPow .pu := by
  intro R H d1 d2 d x y F1 F2 Q r1 r2 hg k
  cases d1 <;> cases d2 <;> simp only [dPow] at hg <;> try (cases hg; done)
  split at hg <;> cases hg
  rename_i hc
  simp only [Bool.and_eq_true, decide_eq_true_eq] at hc
  exact ⟨_, _, r1.int_inv, r2.int_inv, ⟨hc.1.1, hc.1.2, hc.2⟩, k _ _ [] (VP.val (.int _))⟩
/-- [a, b] * n of what cannot change -/
def dRep : D → D → Option D
  | .lst xs, .int n => if pureDs xs && decide (-(2 ^ 63) ≤ n) && decide (n < 2 ^ 63) && decide (xs.length * n.toNat ≤ sizeLine) then some (.lst (List.replicate n.toNat xs).flatten) else none
  | _, _ => none
theorem Reps.rep {ds : List D} {vs : List V} (r : Reps C R H ds vs []) : ∀ n : Nat, Reps C R H (List.replicate n ds).flatten (List.replicate n vs).flatten []
  | 0 => .nil
  | n + 1 => by
    rw [List.replicate_succ, List.replicate_succ, List.flatten_cons, List.flatten_cons]
    simpa using r.app (Reps.rep r n)
theorem rep_lst {ds : List D} {x : V} (h : Rep C R H (.lst ds) x F) : ∃ a vs G, x = .ref a ∧ H a = some (.lst vs) ∧ vs.length ≤ sizeLine ∧ Reps C R H ds vs G ∧ F = a :: G := by
  cases h with
  | lst h l r => exact ⟨_, _, _, rfl, h, l, r, rfl⟩
theorem op2_addL : Op2 C rCat dAddL .fr := by
  intro R H d1 d2 d x y F1 F2 Q r1 r2 hg k
  cases d1 <;> cases d2 <;> simp only [dAddL] at hg <;> try (cases hg; done)
  split at hg <;> cases hg
  rename_i hc
  simp only [Bool.and_eq_true, decide_eq_true_eq] at hc
  obtain ⟨a, vs, G, rfl, ha, la, ra, _⟩ := rep_lst r1
  obtain ⟨b, ws, G', rfl, hb, lb, rb, _⟩ := rep_lst r2
  have e1 := ra.pure hc.1.1
  have e2 := rb.pure hc.1.2
  subst e1 e2
  have rr := ra.app rb
  have hl : vs.length + ws.length ≤ sizeLine := by rw [← ra.length, ← rb.length]; exact hc.2
  exact ⟨a, b, vs, ws, rfl, rfl, ha, hb, hl, fun p hp => k _ _ [p] (VP.newL hp (by simpa using hl) (by simpa using rr))⟩
theorem op2_rep : Op2 C rRep dRep .fr := by
  intro R H d1 d2 d x y F1 F2 Q r1 r2 hg k
  cases d1 <;> cases d2 <;> simp only [dRep] at hg <;> try (cases hg; done)
  split at hg <;> cases hg
  rename_i ds n hc
  simp only [Bool.and_eq_true, decide_eq_true_eq] at hc
  obtain ⟨a, vs, G, rfl, ha, la, ra, _⟩ := rep_lst r1
  have e1 := ra.pure hc.1.1.1
  subst e1
  have hl : vs.length * n.toNat ≤ sizeLine := by rw [← ra.length]; exact hc.2
  refine ⟨a, n, vs, rfl, r2.int_inv, ha, hc.1.1.2, hc.1.2, hl, fun p hp => k _ _ [p] (VP.newL hp ?_ (ra.rep _))⟩
  rw [List.length_flatten]
  simp only [List.map_replicate, List.sum_replicate_nat]
  rw [Nat.mul_comm]; exact hl
/-! ### is -/
def dIsN : D → D → Option D | d, .non => some (.bl (match d with | .non => true | _ => false)) | _, _ => none
def dNotN : D → D → Option D | d, .non => some (.bl (match d with | .non => false | _ => true)) | _, _ => none
theorem op2_isN : Op2 C (fun x y H Q => y = .non ∧ Q (.bl (decide (x = .non))) H) dIsN .pu := by
  intro R H d1 d2 d x y F1 F2 Q r1 r2 hg k
  cases d2 <;> simp only [dIsN] at hg <;> try (cases hg; done)
  cases hg
  refine ⟨r2.nonI, k _ _ [] ⟨Same.refl _, ?_, rfl⟩⟩
  cases r1 <;> exact .bl _
theorem op2_notN : Op2 C (fun x y H Q => y = .non ∧ Q (.bl (!decide (x = .non))) H) dNotN .pu := by
  intro R H d1 d2 d x y F1 F2 Q r1 r2 hg k
  cases d2 <;> simp only [dNotN] at hg <;> try (cases hg; done)
  cases hg
  refine ⟨r2.nonI, k _ _ [] ⟨Same.refl _, ?_, rfl⟩⟩
  cases r1 <;> exact .bl _
/-- x is True, x is False -/
theorem op_isB : OpR X (compareOp .Is) (fun x y H Q => ∃ b : Bool, y = .bl b ∧ Q (.bl (decide (x = .bl b))) H) := by
  intro pins s σ H x y v u Q I rx ry h
  obtain ⟨b, rfl, q⟩ := h
  cases ry
  cases x with
  | bl c =>
    cases rx
    refine wpAny_is_plain rfl (fin_bl I q ?_)
    cases b <;> cases c <;> rfl
  | non => cases rx; exact wpAny_is_plain rfl (fin_bl I q (by cases b <;> rfl))
  | int i => obtain ⟨t, rfl⟩ := rx; exact wpAny_is_plain rfl (fin_bl I q (by cases b <;> rfl))
  | str i => obtain ⟨t, rfl⟩ := rx; exact wpAny_is_plain rfl (fin_bl I q (by cases b <;> rfl))
  | byt i => obtain ⟨t, rfl⟩ := rx; exact wpAny_is_plain rfl (fin_bl I q (by cases b <;> rfl))
  | flt i => obtain ⟨t, rfl⟩ := rx; exact wpAny_is_plain rfl (fin_bl I q (by cases b <;> rfl))
  | ref a => cases rx; exact wpAny_is_plain rfl (fin_bl I q (by cases b <;> rfl))
  | ty n => cases rx; exact wpAny_is_plain rfl (fin_bl I q (by cases b <;> rfl))
theorem op_notB : OpR X (compareOp .IsNot) (fun x y H Q => ∃ b : Bool, y = .bl b ∧ Q (.bl (!decide (x = .bl b))) H) := by
  intro pins s σ H x y v u Q I rx ry h
  obtain ⟨b, rfl, q⟩ := h
  cases ry
  cases x with
  | bl c =>
    cases rx
    refine wpAny_isNot_plain rfl (fin_bl I q ?_)
    cases b <;> cases c <;> rfl
  | non => cases rx; exact wpAny_isNot_plain rfl (fin_bl I q (by cases b <;> rfl))
  | int i => obtain ⟨t, rfl⟩ := rx; exact wpAny_isNot_plain rfl (fin_bl I q (by cases b <;> rfl))
  | str i => obtain ⟨t, rfl⟩ := rx; exact wpAny_isNot_plain rfl (fin_bl I q (by cases b <;> rfl))
  | byt i => obtain ⟨t, rfl⟩ := rx; exact wpAny_isNot_plain rfl (fin_bl I q (by cases b <;> rfl))
  | flt i => obtain ⟨t, rfl⟩ := rx; exact wpAny_isNot_plain rfl (fin_bl I q (by cases b <;> rfl))
  | ref a => cases rx; exact wpAny_isNot_plain rfl (fin_bl I q (by cases b <;> rfl))
  | ty n => cases rx; exact wpAny_isNot_plain rfl (fin_bl I q (by cases b <;> rfl))
def dIsB : D → D → Option D | d, .bl b => some (.bl (match d with | .bl c => c == b | _ => false)) | _, _ => none
def dNotB : D → D → Option D | d, .bl b => some (.bl (match d with | .bl c => c != b | _ => true)) | _, _ => none
theorem op2_isB : Op2 C (fun x y H Q => ∃ b : Bool, y = .bl b ∧ Q (.bl (decide (x = .bl b))) H) dIsB .pu := by
  intro R H d1 d2 d x y F1 F2 Q r1 r2 hg k
  cases d2 <;> simp only [dIsB] at hg <;> try (cases hg; done)
  cases hg
  rename_i b
  refine ⟨b, r2.blI, k _ _ [] ⟨Same.refl _, ?_, rfl⟩⟩
  cases r1 with
  | bl c => cases b <;> cases c <;> exact .bl _
  | _ => cases b <;> exact .bl _
theorem op2_notB : Op2 C (fun x y H Q => ∃ b : Bool, y = .bl b ∧ Q (.bl (!decide (x = .bl b))) H) dNotB .pu := by
  intro R H d1 d2 d x y F1 F2 Q r1 r2 hg k
  cases d2 <;> simp only [dNotB] at hg <;> try (cases hg; done)
  cases hg
  rename_i b
  refine ⟨b, r2.blI, k _ _ [] ⟨Same.refl _, ?_, rfl⟩⟩
  cases r1 with
  | bl c => cases b <;> cases c <;> exact .bl _
  | _ => cases b <;> exact .bl _
end
end EL

namespace EL
open PySem PySem.Spec PyProof.Rows
open L2 hiding XE
/-! ### data: ==, in, < -/
mutual
/-- a value as plain data -/
def toPy : D → Option PyData
  | .non => some .none
  | .bl b => some (.bool b)
  | .int i => some (.int i)
  | .str x => some (.str x)
  | .tup ds => (toPys ds).map .tuple
  | .lst ds => (toPys ds).map .list
  | .ice ds => (toPys ds).map .list
  | _ => none
def toPys : List D → Option (List PyData)
  | [] => some []
  | d :: ds => (toPy d).bind fun p => (toPys ds).map fun ps => p :: ps
end
mutual
/-- plain data, texts of signs that there are -/
def datD : D → Bool
  | .non => true | .bl _ => true | .int _ => true
  | .str x => PyData.strOk x
  | .tup ds => datDs ds | .lst ds => datDs ds | .ice ds => datDs ds
  | _ => false
def datDs : List D → Bool
  | [] => true
  | d :: ds => datD d && datDs ds
end
mutual
def depD : D → Nat
  | .tup ds => depDs ds + 1 | .lst ds => depDs ds + 1 | .ice ds => depDs ds + 1
  | _ => 0
def depDs : List D → Nat
  | [] => 0
  | d :: ds => max (depD d) (depDs ds)
end
def okD (d : D) : Bool := datD d && decide (depD d ≤ 64)
mutual
theorem toPy_ok : ∀ {d : D}, datD d = true → ∃ p, toPy d = some p ∧ p.canLay0 = true ∧ p.depth = depD d
  | .non, _ => ⟨_, rfl, rfl, rfl⟩
  | .bl b, _ => ⟨_, rfl, rfl, rfl⟩
  | .int i, _ => ⟨_, rfl, rfl, rfl⟩
  | .str x, h => ⟨_, rfl, h, rfl⟩
  | .tup ds, h => by
    obtain ⟨ps, h1, h2, h3⟩ := toPys_ok (ds := ds) (by simpa [datD] using h)
    exact ⟨.tuple ps, by simp [toPy, h1], by simpa [PyData.canLay0] using h2, by simp [PyData.depth, depD, h3]⟩
  | .lst ds, h => by
    obtain ⟨ps, h1, h2, h3⟩ := toPys_ok (ds := ds) (by simpa [datD] using h)
    exact ⟨.list ps, by simp [toPy, h1], by simpa [PyData.canLay0] using h2, by simp [PyData.depth, depD, h3]⟩
  | .ice ds, h => by
    obtain ⟨ps, h1, h2, h3⟩ := toPys_ok (ds := ds) (by simpa [datD] using h)
    exact ⟨.list ps, by simp [toPy, h1], by simpa [PyData.canLay0] using h2, by simp [PyData.depth, depD, h3]⟩
  | .scr _, h => by simp [datD] at h
  | .dic _, h => by simp [datD] at h
  | .ins _ _, h => by simp [datD] at h
  | .obj _ _, h => by simp [datD] at h
theorem toPys_ok : ∀ {ds : List D}, datDs ds = true → ∃ ps, toPys ds = some ps ∧ PyData.canLayAll0 ps = true ∧ PyData.depthAll ps = depDs ds
  | [], _ => ⟨[], rfl, rfl, rfl⟩
  | d :: ds, h => by
    simp only [datDs, Bool.and_eq_true] at h
    obtain ⟨p, h1, h2, h3⟩ := toPy_ok (d := d) h.1
    obtain ⟨ps, q1, q2, q3⟩ := toPys_ok (ds := ds) h.2
    exact ⟨p :: ps, by simp [toPys, h1, q1], by simp [PyData.canLayAll0, h2, q2], by simp [PyData.depthAll, depDs, h3, q3]⟩
end
theorem okD_py {d : D} (h : okD d = true) : ∃ p, toPy d = some p ∧ SeqAt.shaped p = true := by
  simp only [okD, Bool.and_eq_true, decide_eq_true_eq] at h
  obtain ⟨p, h1, h2, h3⟩ := toPy_ok h.1
  exact ⟨p, h1, by simp [SeqAt.shaped, h2, h3, h.2]⟩
mutual
theorem Rep.dp {C : Core} {R : Addr → Prop} {H : Hp} {d : D} {v : V} {F : List Addr} {p : PyData} : Rep C R H d v F → toPy d = some p → Dp C.K H v p
  | .non, e => by simp only [toPy] at e; cases e; exact .non
  | .bl b, e => by simp only [toPy] at e; cases e; exact .bl b
  | .int i, e => by simp only [toPy] at e; cases e; exact .int i
  | .str x, e => by simp only [toPy] at e; cases e; exact .str x
  | .tup (ds := ds) h l r, e => by
    simp only [toPy] at e
    cases q : toPys ds with
    | none => rw [q] at e; cases e
    | some ps => rw [q] at e; cases e; exact .tup h (Reps.dp r q)
  | .lst (ds := ds) h l r, e => by
    simp only [toPy] at e
    cases q : toPys ds with
    | none => rw [q] at e; cases e
    | some ps => rw [q] at e; cases e; exact .lst (SqL.of h) (Reps.dp r q)
  | .ice (ds := ds) h l r, e => by
    simp only [toPy] at e
    cases q : toPys ds with
    | none => rw [q] at e; cases e
    | some ps => rw [q] at e; cases e; exact .lst (.inl (.inr ⟨_, h⟩)) (Reps.dp r q)
  | .scr h l r, e => by simp [toPy] at e
  | .dic h l e' r, e => by simp [toPy] at e
  | .ins h z n e' r, e => by simp [toPy] at e
  | .obj h n e' r, e => by simp [toPy] at e
theorem Reps.dp {C : Core} {R : Addr → Prop} {H : Hp} {ds : List D} {vs : List V} {F : List Addr} {ps : List PyData} : Reps C R H ds vs F → toPys ds = some ps → DpAll C.K H vs ps
  | .nil, e => by simp only [toPys] at e; cases e; exact .nil
  | .cons (d := d) (ds := ds) r t, e => by
    simp only [toPys] at e
    cases q : toPy d with
    | none => rw [q] at e; cases e
    | some p =>
      rw [q] at e
      cases q2 : toPys ds with
      | none => rw [q2] at e; cases e
      | some ps => rw [q2] at e; cases e; exact .cons (Rep.dp r q) (Reps.dp t q2)
end
mutual
/-- == of plain data -/
def eqvD : D → D → Bool
  | .non, .non => true
  | .bl a, .bl b => a == b
  | .bl a, .int j => (if a then 1 else 0) == j
  | .int i, .bl b => i == (if b then 1 else 0)
  | .int i, .int j => i == j
  | .str x, .str y => x == y
  | .lst xs, .lst ys => eqvDs xs ys
  | .lst xs, .ice ys => eqvDs xs ys
  | .ice xs, .lst ys => eqvDs xs ys
  | .ice xs, .ice ys => eqvDs xs ys
  | .tup xs, .tup ys => eqvDs xs ys
  | _, _ => false
def eqvDs : List D → List D → Bool
  | [], [] => true
  | x :: xs, y :: ys => eqvD x y && eqvDs xs ys
  | _, _ => false
end
mutual
theorem eqv_py : ∀ {a b : D} {p q : PyData}, toPy a = some p → toPy b = some q → PyData.eqv p q = eqvD a b
  | .tup xs, b, p, q, ha, hb => by
    simp only [toPy] at ha
    cases h1 : toPys xs with
    | none => rw [h1] at ha; cases ha
    | some ps =>
      rw [h1] at ha; cases ha
      cases b with
      | tup ys =>
        simp only [toPy] at hb
        cases h2 : toPys ys with
        | none => rw [h2] at hb; cases hb
        | some qs => rw [h2] at hb; cases hb; simp only [PyData.eqv, eqvD]; exact eqvs_py h1 h2
      | lst ys =>
        simp only [toPy] at hb
        cases h2 : toPys ys with
        | none => rw [h2] at hb; cases hb
        | some qs => rw [h2] at hb; cases hb; simp [PyData.eqv, eqvD]
      | ice ys =>
        simp only [toPy] at hb
        cases h2 : toPys ys with
        | none => rw [h2] at hb; cases hb
        | some qs => rw [h2] at hb; cases hb; simp [PyData.eqv, eqvD]
      | non => cases hb; simp [PyData.eqv, eqvD]
      | bl => cases hb; simp [PyData.eqv, eqvD]
      | int => cases hb; simp [PyData.eqv, eqvD]
      | str => cases hb; simp [PyData.eqv, eqvD]
      | scr => cases hb
      | dic => cases hb
      | ins => cases hb
      | obj => cases hb
  | .lst xs, b, p, q, ha, hb => by
    simp only [toPy] at ha
    cases h1 : toPys xs with
    | none => rw [h1] at ha; cases ha
    | some ps =>
      rw [h1] at ha; cases ha
      cases b with
      | lst ys =>
        simp only [toPy] at hb
        cases h2 : toPys ys with
        | none => rw [h2] at hb; cases hb
        | some qs => rw [h2] at hb; cases hb; simp only [PyData.eqv, eqvD]; exact eqvs_py h1 h2
      | ice ys =>
        simp only [toPy] at hb
        cases h2 : toPys ys with
        | none => rw [h2] at hb; cases hb
        | some qs => rw [h2] at hb; cases hb; simp only [PyData.eqv, eqvD]; exact eqvs_py h1 h2
      | tup ys =>
        simp only [toPy] at hb
        cases h2 : toPys ys with
        | none => rw [h2] at hb; cases hb
        | some qs => rw [h2] at hb; cases hb; simp [PyData.eqv, eqvD]
      | non => cases hb; simp [PyData.eqv, eqvD]
      | bl => cases hb; simp [PyData.eqv, eqvD]
      | int => cases hb; simp [PyData.eqv, eqvD]
      | str => cases hb; simp [PyData.eqv, eqvD]
      | scr => cases hb
      | dic => cases hb
      | ins => cases hb
      | obj => cases hb
  | .ice xs, b, p, q, ha, hb => by
    simp only [toPy] at ha
    cases h1 : toPys xs with
    | none => rw [h1] at ha; cases ha
    | some ps =>
      rw [h1] at ha; cases ha
      cases b with
      | lst ys =>
        simp only [toPy] at hb
        cases h2 : toPys ys with
        | none => rw [h2] at hb; cases hb
        | some qs => rw [h2] at hb; cases hb; simp only [PyData.eqv, eqvD]; exact eqvs_py h1 h2
      | ice ys =>
        simp only [toPy] at hb
        cases h2 : toPys ys with
        | none => rw [h2] at hb; cases hb
        | some qs => rw [h2] at hb; cases hb; simp only [PyData.eqv, eqvD]; exact eqvs_py h1 h2
      | tup ys =>
        simp only [toPy] at hb
        cases h2 : toPys ys with
        | none => rw [h2] at hb; cases hb
        | some qs => rw [h2] at hb; cases hb; simp [PyData.eqv, eqvD]
      | non => cases hb; simp [PyData.eqv, eqvD]
      | bl => cases hb; simp [PyData.eqv, eqvD]
      | int => cases hb; simp [PyData.eqv, eqvD]
      | str => cases hb; simp [PyData.eqv, eqvD]
      | scr => cases hb
      | dic => cases hb
      | ins => cases hb
      | obj => cases hb
  | .non, b, p, q, ha, hb => by
    cases ha
    cases b <;> first | (simp only [toPy] at hb; cases hb; simp [PyData.eqv, eqvD]; done) | (simp only [toPy, Option.map_eq_some_iff] at hb; obtain ⟨_, _, rfl⟩ := hb; (try simp [PyData.eqv, eqvD]))
  | .bl _, b, p, q, ha, hb => by
    cases ha
    cases b <;> first | (simp only [toPy] at hb; cases hb; simp [PyData.eqv, eqvD]; done) | (simp only [toPy, Option.map_eq_some_iff] at hb; obtain ⟨_, _, rfl⟩ := hb; (try simp [PyData.eqv, eqvD]))
  | .int _, b, p, q, ha, hb => by
    cases ha
    cases b <;> first | (simp only [toPy] at hb; cases hb; simp [PyData.eqv, eqvD]; done) | (simp only [toPy, Option.map_eq_some_iff] at hb; obtain ⟨_, _, rfl⟩ := hb; (try simp [PyData.eqv, eqvD]))
  | .str _, b, p, q, ha, hb => by
    cases ha
    cases b <;> first | (simp only [toPy] at hb; cases hb; simp [PyData.eqv, eqvD]; done) | (simp only [toPy, Option.map_eq_some_iff] at hb; obtain ⟨_, _, rfl⟩ := hb; (try simp [PyData.eqv, eqvD]))
  | .scr _, b, p, q, ha, hb => by cases ha
  | .dic _, b, p, q, ha, hb => by cases ha
  | .ins _ _, b, p, q, ha, hb => by cases ha
  | .obj _ _, b, p, q, ha, hb => by cases ha
theorem eqvs_py : ∀ {as bs : List D} {ps qs : List PyData}, toPys as = some ps → toPys bs = some qs → PyData.eqvAll ps qs = eqvDs as bs
  | [], [], ps, qs, ha, hb => by cases ha; cases hb; simp [PyData.eqvAll, eqvDs]
  | [], b :: bs, ps, qs, ha, hb => by
    cases ha
    simp only [toPys] at hb
    cases h1 : toPy b with
    | none => rw [h1] at hb; cases hb
    | some p =>
      rw [h1] at hb
      cases h2 : toPys bs with
      | none => rw [h2] at hb; cases hb
      | some qs => rw [h2] at hb; cases hb; simp [PyData.eqvAll, eqvDs]
  | a :: as, [], ps, qs, ha, hb => by
    cases hb
    simp only [toPys] at ha
    cases h1 : toPy a with
    | none => rw [h1] at ha; cases ha
    | some p =>
      rw [h1] at ha
      cases h2 : toPys as with
      | none => rw [h2] at ha; cases ha
      | some qs => rw [h2] at ha; cases ha; simp [PyData.eqvAll, eqvDs]
  | a :: as, b :: bs, ps, qs, ha, hb => by
    simp only [toPys] at ha hb
    cases h1 : toPy a with
    | none => rw [h1] at ha; cases ha
    | some p =>
      rw [h1] at ha
      cases h2 : toPys as with
      | none => rw [h2] at ha; cases ha
      | some ps' =>
        rw [h2] at ha; cases ha
        cases h3 : toPy b with
        | none => rw [h3] at hb; cases hb
        | some q =>
          rw [h3] at hb
          cases h4 : toPys bs with
          | none => rw [h4] at hb; cases hb
          | some qs' =>
            rw [h4] at hb; cases hb
            simp only [PyData.eqvAll, eqvDs]
            rw [eqv_py h1 h3, eqvs_py h2 h4]
end
section
variable {X : Cx} {C : Core} {R : Addr → Prop} {H H' : Hp} {F : List Addr}
def dEq (a b : D) : Option D := if okD a && okD b then some (.bl (eqvD a b)) else none
def dNe (a b : D) : Option D := if okD a && okD b then some (.bl (!eqvD a b)) else none
theorem op2_eq (hK : X.K = C.K) : Op2 C (rEqD X.K) dEq .pu := by
  intro R H d1 d2 d x y F1 F2 Q r1 r2 hg k
  unfold dEq at hg
  split at hg <;> cases hg
  rename_i hc
  simp only [Bool.and_eq_true] at hc
  obtain ⟨p, h1, h2⟩ := okD_py hc.1
  obtain ⟨q, h3, h4⟩ := okD_py hc.2
  refine ⟨p, q, by rw [hK]; exact r1.dp h1, by rw [hK]; exact r2.dp h3, h2, h4, ?_⟩
  rw [eqv_py h1 h3]
  exact k _ _ [] (VP.val (.bl _))
theorem op2_ne (hK : X.K = C.K) : Op2 C (rNeD X.K) dNe .pu := by
  intro R H d1 d2 d x y F1 F2 Q r1 r2 hg k
  unfold dNe at hg
  split at hg <;> cases hg
  rename_i hc
  simp only [Bool.and_eq_true] at hc
  obtain ⟨p, h1, h2⟩ := okD_py hc.1
  obtain ⟨q, h3, h4⟩ := okD_py hc.2
  refine ⟨p, q, by rw [hK]; exact r1.dp h1, by rw [hK]; exact r2.dp h3, h2, h4, ?_⟩
  rw [eqv_py h1 h3]
  exact k _ _ [] (VP.val (.bl _))
/-! ### < and its like -/
def dLtI (p : Int → Int → Bool) : D → D → Option D
  | .int i, .int j => some (.bl (p i j))
  | _, _ => none
theorem op2_cmpI {p : Int → Int → Bool} : Op2 C (rI0 fun i j => .bl (p i j)) (dLtI p) .pu := by
  intro R H d1 d2 d x y F1 F2 Q r1 r2 hg k
  cases d1 <;> cases d2 <;> simp only [dLtI] at hg <;> try (cases hg; done)
  cases hg
  exact ⟨_, _, r1.int_inv, r2.int_inv, k _ _ [] (VP.val (.bl _))⟩
def dLt : D → D → Option D := dLtI fun i j => decide (i < j)
def dLe : D → D → Option D := dLtI fun i j => decide (i ≤ j)
def dGt : D → D → Option D := dLtI fun i j => decide (j < i)
def dGe : D → D → Option D := dLtI fun i j => decide (j ≤ i)
/-! ### in -/
def inD (x : D) : D → Option Bool
  | .lst ds => if okD x && okD (.lst ds) then some (ds.any fun z => eqvD z x) else none
  | .ice ds => if okD x && okD (.ice ds) then some (ds.any fun z => eqvD z x) else none
  | .tup ds => if okD x && okD (.tup ds) then some (ds.any fun z => eqvD z x) else none
  | .str y => match x with | .str z => some (!(Builtin.Str.occurrences y z 0 y.length 1).isEmpty) | _ => none
  | _ => none
def dIn (x c : D) : Option D := (inD x c).map .bl
def dNotIn (x c : D) : Option D := (inD x c).map fun b => .bl (!b)
theorem any_py : ∀ {ds : List D} {ps : List PyData} {d : D} {p : PyData}, toPys ds = some ps → toPy d = some p → (ps.any fun z => PyData.eqv z p) = ds.any fun z => eqvD z d
  | [], ps, d, p, h, hd => by cases h; rfl
  | a :: as, ps, d, p, h, hd => by
    simp only [toPys] at h
    cases h1 : toPy a with
    | none => rw [h1] at h; cases h
    | some q =>
      rw [h1] at h
      cases h2 : toPys as with
      | none => rw [h2] at h; cases h
      | some qs =>
        rw [h2] at h; cases h
        simp only [List.any_cons]
        rw [eqv_py h1 hd, any_py h2 hd]
/-- in over a tuple of data -/
def rInT (K : PySem.W.Frag) (neg : Bool) : R2 := fun x y H Q => ∃ d ds, Dp K H x d ∧ Dp K H y (.tuple ds) ∧ SeqAt.shaped d = true ∧ SeqAt.shaped (.tuple ds) = true ∧ Q (.bl (if neg then !(ds.any fun z => PyData.eqv z d) else ds.any fun z => PyData.eqv z d)) H
theorem op_inT (hu : X.A.units + 65 < cLine) : OpR X (compareOp .In) (rInT X.K false) := by
  intro pins s σ H x y v u Q I rx ry h
  obtain ⟨d, ds, hd, he, sd, se, q⟩ := h
  obtain ⟨as, r1⟩ := Dp.reads I d x v hd rx
  obtain ⟨bs, r2⟩ := Dp.reads I (.tuple ds) y u he ry
  exact SeqAt.in_tuple_reads r2 r1 (SeqAt.canLay_of_shaped se) (SeqAt.canLay_of_shaped sd) (PyProof.Rows.room_in_shaped sd hu) (fin_bl I q rfl)
theorem op_notInT (hu : X.A.units + 65 < cLine) : OpR X (compareOp .NotIn) (rInT X.K true) := by
  intro pins s σ H x y v u Q I rx ry h
  obtain ⟨d, ds, hd, he, sd, se, q⟩ := h
  obtain ⟨as, r1⟩ := Dp.reads I d x v hd rx
  obtain ⟨bs, r2⟩ := Dp.reads I (.tuple ds) y u he ry
  exact SeqAt.notIn_tuple_reads r2 r1 (SeqAt.canLay_of_shaped se) (SeqAt.canLay_of_shaped sd) (PyProof.Rows.room_in_shaped sd hu) (fin_bl I q rfl)
theorem in_ways {R : Addr → Prop} {H : Hp} {d1 d2 : D} {b : Bool} {x y : V} {F1 F2 : List Addr} (r1 : Rep C R H d1 x F1) (r2 : Rep C R H d2 y F2) (h : inD d1 d2 = some b) :
    (∃ d ds, Dp C.K H x d ∧ Dp C.K H y (.list ds) ∧ SeqAt.shaped d = true ∧ SeqAt.shaped (.list ds) = true ∧ b = ds.any fun z => PyData.eqv z d) ∨ (∃ d ds, Dp C.K H x d ∧ Dp C.K H y (.tuple ds) ∧ SeqAt.shaped d = true ∧ SeqAt.shaped (.tuple ds) = true ∧ b = ds.any fun z => PyData.eqv z d) ∨
      ∃ i j, x = .str i ∧ y = .str j ∧ b = !(Builtin.Str.occurrences j i 0 j.length 1).isEmpty := by
  cases d2 with
  | lst ds =>
    simp only [inD] at h
    split at h <;> cases h
    rename_i hc
    simp only [Bool.and_eq_true] at hc
    obtain ⟨p, h1, h2⟩ := okD_py hc.1
    obtain ⟨q, h3, h4⟩ := okD_py hc.2
    have h5 := h3
    simp only [toPy] at h3
    cases h6 : toPys ds with
    | none => rw [h6] at h3; cases h3
    | some qs => rw [h6] at h3; cases h3; exact .inl ⟨p, qs, r1.dp h1, r2.dp h5, h2, h4, (any_py h6 h1).symm⟩
  | ice ds =>
    simp only [inD] at h
    split at h <;> cases h
    rename_i hc
    simp only [Bool.and_eq_true] at hc
    obtain ⟨p, h1, h2⟩ := okD_py hc.1
    obtain ⟨q, h3, h4⟩ := okD_py hc.2
    have h5 := h3
    simp only [toPy] at h3
    cases h6 : toPys ds with
    | none => rw [h6] at h3; cases h3
    | some qs => rw [h6] at h3; cases h3; exact .inl ⟨p, qs, r1.dp h1, r2.dp h5, h2, h4, (any_py h6 h1).symm⟩
  | tup ds =>
    simp only [inD] at h
    split at h <;> cases h
    rename_i hc
    simp only [Bool.and_eq_true] at hc
    obtain ⟨p, h1, h2⟩ := okD_py hc.1
    obtain ⟨q, h3, h4⟩ := okD_py hc.2
    have h5 := h3
    simp only [toPy] at h3
    cases h6 : toPys ds with
    | none => rw [h6] at h3; cases h3
    | some qs => rw [h6] at h3; cases h3; exact .inr (.inl ⟨p, qs, r1.dp h1, r2.dp h5, h2, h4, (any_py h6 h1).symm⟩)
  | str y =>
    cases d1 <;> simp only [inD] at h <;> cases h
    exact .inr (.inr ⟨_, _, r1.str_inv, r2.str_inv, rfl⟩)
  | non => cases h
  | bl => cases h
  | int => cases h
  | scr => cases h
  | dic => cases h
  | ins => cases h
  | obj => cases h
def rInA (K : PySem.W.Frag) : R2 := fun x y H Q => rInD K x y H Q ∨ (rInT K false x y H Q ∨ (fun x y H Q => ∃ i j, x = .str i ∧ y = .str j ∧ Q (.bl (!(Builtin.Str.occurrences j i 0 j.length 1).isEmpty)) H) x y H Q)
def rNotInA (K : PySem.W.Frag) : R2 := fun x y H Q => rNotInD K x y H Q ∨ (rInT K true x y H Q ∨ (fun x y H Q => ∃ i j, x = .str i ∧ y = .str j ∧ Q (.bl (!(!(Builtin.Str.occurrences j i 0 j.length 1).isEmpty))) H) x y H Q)
theorem op_inA (hu : X.A.units + 65 < cLine) : OpR X (compareOp .In) (rInA X.K) := (op_inD hu).or ((op_inT hu).or op_in_str)
theorem op_notInA (hu : X.A.units + 65 < cLine) : OpR X (compareOp .NotIn) (rNotInA X.K) := (op_notInD hu).or ((op_notInT hu).or op_notIn_str)
theorem op2_in (hK : X.K = C.K) : Op2 C (rInA X.K) dIn .pu := by
  intro R H d1 d2 d x y F1 F2 Q r1 r2 hg k
  unfold dIn at hg
  cases h : inD d1 d2 with
  | none => rw [h] at hg; cases hg
  | some b =>
    rw [h] at hg; cases hg
    rw [hK]
    have kk := k _ _ [] (VP.val (.bl b))
    rcases in_ways r1 r2 h with ⟨d, ds, a1, a2, a3, a4, e⟩ | ⟨d, ds, a1, a2, a3, a4, e⟩ | ⟨i, j, a1, a2, e⟩
    · exact .inl ⟨d, ds, a1, a2, a3, a4, by rw [← e]; exact kk⟩
    · exact .inr (.inl ⟨d, ds, a1, a2, a3, a4, by simpa [← e] using kk⟩)
    · exact .inr (.inr ⟨i, j, a1, a2, by rw [← e]; exact kk⟩)
theorem op2_notIn (hK : X.K = C.K) : Op2 C (rNotInA X.K) dNotIn .pu := by
  intro R H d1 d2 d x y F1 F2 Q r1 r2 hg k
  unfold dNotIn at hg
  cases h : inD d1 d2 with
  | none => rw [h] at hg; cases hg
  | some b =>
    rw [h] at hg; cases hg
    rw [hK]
    have kk := k _ _ [] (VP.val (.bl (!b)))
    rcases in_ways r1 r2 h with ⟨d, ds, a1, a2, a3, a4, e⟩ | ⟨d, ds, a1, a2, a3, a4, e⟩ | ⟨i, j, a1, a2, e⟩
    · exact .inl ⟨d, ds, a1, a2, a3, a4, by rw [← e]; exact kk⟩
    · exact .inr (.inl ⟨d, ds, a1, a2, a3, a4, by simpa [← e] using kk⟩)
    · exact .inr (.inr ⟨i, j, a1, a2, by rw [← e]; exact kk⟩)
end
end EL

namespace EL
open PySem PySem.Spec PyProof.Rows
open L2 hiding XE
section
variable {X : Cx} {S : Sig} {C : Core} {W : WX} {R : Addr → Prop} {H H' : Hp} {F : List Addr} {m m1 m2 : Md} {e1 e2 : Bool} {pos : Pos}
/-! ### isinstance -/
def tyD : D → Option String
  | .non => some "NoneType" | .bl _ => some "bool" | .int _ => some "int" | .str _ => some "str" | .tup _ => some "tuple" | .lst _ => some "list" | .ice _ => some "list" | .dic _ => some "dict"
  | _ => none
def isiB (a b : String) : Bool := a == b || (a == "bool" && b == "int")
def tyOkN (T : String) : Bool := ["int", "str", "tuple", "list", "dict", "bool"].contains T
def dIsi (T : String) (d : D) : Option D := (tyD d).map fun a => .bl (isiB a T)
def dIsi2 (Ts : List String) (d : D) : Option D := (tyD d).map fun a => .bl (Ts.any (isiB a))
theorem kitB_ok {a T : String} (ha : a = "NoneType" ∨ a = "bool" ∨ a = "int" ∨ a = "str" ∨ a = "tuple" ∨ a = "list" ∨ a = "dict") (h : tyOkN T = true) : kitB a T = some (isiB a T) := by
  have hT : T = "int" ∨ T = "str" ∨ T = "tuple" ∨ T = "list" ∨ T = "dict" ∨ T = "bool" := by simpa [tyOkN] using h
  rcases ha with rfl | rfl | rfl | rfl | rfl | rfl | rfl <;> rcases hT with rfl | rfl | rfl | rfl | rfl | rfl <;> decide +kernel
theorem ty_of {d : D} {v : V} {a : String} (r : Rep C R H d v F) (h : tyD d = some a) : TyX C.K H v (.type a) ∧ (a = "NoneType" ∨ a = "bool" ∨ a = "int" ∨ a = "str" ∨ a = "tuple" ∨ a = "list" ∨ a = "dict") := by
  cases r with
  | non => cases h; exact ⟨.base .non, by simp⟩
  | bl b => cases h; exact ⟨.base (.bl _), by simp⟩
  | int i => cases h; exact ⟨.base (.int _), by simp⟩
  | str x => cases h; exact ⟨.base (.str _), by simp⟩
  | tup hs l r =>
    cases h
    refine ⟨?_, by simp⟩
    rcases hs with (q | ⟨o, q⟩) | ⟨o, its, n, q, c, _⟩
    · exact .base (.tup q)
    · exact .fTuple q
    · exact .kTuple q c
  | lst hs l r => cases h; exact ⟨.base (.lst hs), by simp⟩
  | scr hs l r => cases h
  | ice hs l r => cases h; exact ⟨.base (.frz hs), by simp⟩
  | dic hs l e r => cases h; exact ⟨.base (.dK hs), by simp⟩
  | ins => cases h
  | obj => cases h
theorem xe_isi (hK : X.K = S.c.K) {T : String} {x tn : Str} {e : Expr} {ev : M D} {p p2 : Pos} (ha : XE X S W e m e1 ev) (hx : Gl X x) (hm : X.mg x = none) (hv : bootBuiltins x = some (.builtin "isinstance")) (ht : Gl X tn) (hmt : X.mg tn = none) (hvt : bootBuiltins tn = some (.type T)) (hT : tyOkN T = true := by decide)
    (hn : x ≠ "__name__" := by decide) (hdb : (x == ("__debug__" : Str)) = false := by decide) (hn2 : tn ≠ "__name__" := by decide) (hdb2 : (tn == ("__debug__" : Str)) = false := by decide)
    (he : starEach [e, .Name tn p2] X.env = (false, eval e X.env) :: starEach [.Name tn p2] X.env := by rfl) (he2 : starEach [.Name tn p2] X.env = (false, eval (.Name tn p2) X.env) :: starEach [] X.env := by rfl) (hpl : (backTo pos (starEach [.Name tn p2] X.env)).any (·.1) = false := by rfl) :
    XE X S W (.Call (.Name x p) [e, .Name tn p2] [] pos) .pu e1 (eUn (dIsi T) ev) := by
  obtain ⟨ta, pa, ra⟩ := ha.ex
  refine ⟨_, pe_callB call_isi hx hm hv (pa_cons pa (pa_cons (pe_bltn (v := .ty T) ht hmt hvt rfl hn2 hdb2) pa_nil he2) he) hn hdb he hpl, fun B ρ σ Fs H Q I h => ra B ρ σ Fs H _ I (h.bind.imp fun d ρ1 _ h1 v H1 Fs1 F q => ?_)⟩
  obtain ⟨d', hd, k⟩ := h1.lift
  unfold dIsi at hd
  cases ht' : tyD d with
  | none => rw [ht'] at hd; cases hd
  | some a =>
    rw [ht'] at hd; cases hd
    obtain ⟨t1, t2⟩ := ty_of q.rep ht'
    exact ⟨v, .ty T, .type a, .type T, _, rfl, .ty T, by rw [hK]; exact t1, kit_ty (kitB_ok t2 hT), k _ H1 Fs1 [] ⟨q.env, .bl _, q.step, rfl⟩⟩
theorem xe_isi2 (hK : X.K = S.c.K) {T U : String} {x tn un : Str} {e : Expr} {ev : M D} {p p2 p3 p4 : Pos} {kk : Nat} (ha : XE X S W e m e1 ev) (hx : Gl X x) (hm : X.mg x = none) (hv : bootBuiltins x = some (.builtin "isinstance")) (ht : Gl X tn) (hmt : X.mg tn = none) (hvt : bootBuiltins tn = some (.type T)) (hu : Gl X un) (hmu : X.mg un = none) (hvu : bootBuiltins un = some (.type U)) (hT : tyOkN T = true := by decide) (hU : tyOkN U = true := by decide)
    (hn : x ≠ "__name__" := by decide) (hdb : (x == ("__debug__" : Str)) = false := by decide) (hn2 : tn ≠ "__name__" := by decide) (hdb2 : (tn == ("__debug__" : Str)) = false := by decide) (hn3 : un ≠ "__name__" := by decide) (hdb3 : (un == ("__debug__" : Str)) = false := by decide)
    (he : starEach [e, .Tuple [.Name tn p2, .Name un p3] kk p4] X.env = (false, eval e X.env) :: starEach [.Tuple [.Name tn p2, .Name un p3] kk p4] X.env := by rfl) (he2 : starEach [.Tuple [.Name tn p2, .Name un p3] kk p4] X.env = (false, eval (.Tuple [.Name tn p2, .Name un p3] kk p4) X.env) :: starEach [] X.env := by rfl)
    (he3 : starEach [.Name tn p2, .Name un p3] X.env = (false, eval (.Name tn p2) X.env) :: starEach [.Name un p3] X.env := by rfl) (he4 : starEach [.Name un p3] X.env = (false, eval (.Name un p3) X.env) :: starEach [] X.env := by rfl) (hpl : (backTo pos (starEach [.Tuple [.Name tn p2, .Name un p3] kk p4] X.env)).any (·.1) = false := by rfl) :
    XE X S W (.Call (.Name x p) [e, .Tuple [.Name tn p2, .Name un p3] kk p4] [] pos) .pu e1 (eUn (dIsi2 [T, U]) ev) := by
  obtain ⟨ta, pa, ra⟩ := ha.ex
  refine ⟨_, pe_callB call_isiT hx hm hv (pa_cons pa (pa_cons (pe_tup (pa_cons (pe_bltn (v := .ty T) ht hmt hvt rfl hn2 hdb2) (pa_cons (pe_bltn (v := .ty U) hu hmu hvu rfl hn3 hdb3) pa_nil he4) he3)) pa_nil he2) he) hn hdb he hpl, fun B ρ σ Fs H Q I h => ra B ρ σ Fs H _ I (h.bind.imp fun d ρ1 _ h1 v H1 Fs1 F q => ?_)⟩
  obtain ⟨d', hd, k⟩ := h1.lift
  unfold dIsi2 at hd
  cases ht' : tyD d with
  | none => rw [ht'] at hd; cases hd
  | some a =>
    rw [ht'] at hd; cases hd
    refine ⟨by show 2 ≤ sizeLine; decide, fun tp hp => ?_⟩
    have r2 := q.rep.same (same_upd (o := .tup [.ty T, .ty U]) hp)
    obtain ⟨t1, t2⟩ := ty_of r2 ht'
    refine ⟨v, tp, [.ty T, .ty U], .type a, [.type T, .type U], _, rfl, upd_same, .cons (.ty T) (.cons (.ty U) .nil), by rw [hK]; exact t1, ?_, k _ _ Fs1 [] ⟨q.env.same (same_upd hp), .bl _, by simpa using q.step.trans (e2 := false) (Step.of_same (same_upd hp)), rfl⟩⟩
    have k1 := kit_ty (K := X.K) (kitB_ok t2 hT)
    have k2 := kit_ty (K := X.K) (kitB_ok t2 hU)
    refine kitAny_cons k1 (fun z => kitAny_cons k2 (fun z2 => ?_) fun z2 => ?_) fun z => ?_
    · rw [show [T, U].any (isiB a) = false by simp [z, z2]]; exact kitAny_nil
    · simp [z2]
    · simp [z]
/-! ### len, sum, all, any -/
def dLen : List D → Option D
  | [.str x] => if x.length ≤ sizeLine then some (.int x.length) else none
  | [.tup ds] => some (.int ds.length)
  | [.lst ds] => some (.int ds.length)
  | [.scr ds] => some (.int ds.length)
  | [.ice ds] => some (.int ds.length)
  | _ => none
theorem reps_one {d : D} {vs : List V} (r : Reps C R H [d] vs F) : ∃ v, vs = [v] ∧ Rep C R H d v F := by
  cases r with
  | cons r t => cases t; exact ⟨_, rfl, by simpa using r⟩
theorem opn_len (hK : X.K = C.K) : OpN C (fun xs H Q => ∃ x n, xs = [x] ∧ LenV X.K x H n ∧ Q (.int n) H) dLen .pu := by
  intro R H ds d xs F Q r hg k
  rw [hK]
  match ds, hg with
  | [.str x], hg =>
    simp only [dLen] at hg
    split at hg <;> cases hg
    rename_i hl
    replace r := reps_one r; obtain ⟨v, rfl, r⟩ := r
    rw [r.str_inv]
    exact ⟨_, _, rfl, ⟨hl, rfl⟩, k _ _ [] (VP.val (.int _))⟩
  | [.tup ds], hg =>
    cases hg
    replace r := reps_one r; obtain ⟨v, rfl, r⟩ := r
    obtain ⟨a, vs, rfl, hs, hl, rr⟩ := r.tup_inv
    exact ⟨_, _, rfl, .inr ⟨_, hs, rr.length⟩, k _ _ [] (VP.val (.int _))⟩
  | [.lst ds], hg =>
    cases hg
    replace r := reps_one r; obtain ⟨v, rfl, r⟩ := r
    obtain ⟨a, vs, G, rfl, hs, hl, rr, _⟩ := rep_lst r
    exact ⟨_, _, rfl, .inl ⟨_, SqL.of hs, rr.length⟩, k _ _ [] (VP.val (.int _))⟩
  | [.scr ds], hg =>
    cases hg
    replace r := reps_one r; obtain ⟨v, rfl, r⟩ := r
    cases r with
    | scr hs hl rr => exact ⟨_, _, rfl, .inl ⟨_, hs.toL, rr.length⟩, k _ _ [] (VP.val (.int _))⟩
  | [.ice ds], hg =>
    cases hg
    replace r := reps_one r; obtain ⟨v, rfl, r⟩ := r
    cases r with
    | ice hs hl rr => exact ⟨_, _, rfl, .inl ⟨_, .inl (.inr ⟨_, hs⟩), rr.length⟩, k _ _ [] (VP.val (.int _))⟩
def intsD : List D → Option (List Int)
  | [] => some []
  | .int i :: ds => (intsD ds).map (i :: ·)
  | _ :: _ => none
def blsD : List D → Option (List Bool)
  | [] => some []
  | .bl i :: ds => (blsD ds).map (i :: ·)
  | _ :: _ => none
theorem ints_of : ∀ {ds : List D} {ns : List Int} {vs : List V} {F : List Addr}, Reps C R H ds vs F → intsD ds = some ns → vs = ns.map V.int
  | [], ns, vs, F, r, h => by cases h; cases r; rfl
  | .int i :: ds, ns, vs, F, r, h => by
    simp only [intsD] at h
    cases q : intsD ds with
    | none => rw [q] at h; cases h
    | some ms =>
      rw [q] at h; cases h
      cases r with
      | cons r t => rw [r.int_inv, ints_of t q]; rfl
theorem bls_of : ∀ {ds : List D} {ns : List Bool} {vs : List V} {F : List Addr}, Reps C R H ds vs F → blsD ds = some ns → vs = ns.map V.bl
  | [], ns, vs, F, r, h => by cases h; cases r; rfl
  | .bl i :: ds, ns, vs, F, r, h => by
    simp only [blsD] at h
    cases q : blsD ds with
    | none => rw [q] at h; cases h
    | some ms =>
      rw [q] at h; cases h
      cases r with
      | cons r t => rw [r.blI, bls_of t q]; rfl
/-- sum of a list or a tuple of ints -/
def rSumA (K : PySem.W.Frag) : List V → Hp → VK → Prop := fun vs H Q => ∃ (a : Addr) (ns : List Int), vs = [V.ref a] ∧ (SqL K H a (ns.map V.int) ∨ SqT K H a (ns.map V.int)) ∧ Q (.int ns.sum) H
theorem cr_sumA (hc : X.calm = true) : CallR X (.builtin "sum") (rSumA X.K) := by
  intro pins s σ H vs us Q I r h
  obtain ⟨a, ns, rfl, hs | hs, q⟩ := h
  · exact cr_sum hc pins s σ H _ us Q I r ⟨a, ns, rfl, hs, q⟩
  · obtain ⟨its, rv, ht, _⟩ := I.tuple hs
    have hi : IntsAre its ns := rv.ints
    rw [Vals.ref1 r]
    obtain ⟨xs, e⟩ := hi.allInts.items
    have hn : numsOf (intItems xs).toList = ns := by rw [← e]; exact hi.numsOf
    rw [nums_intItems] at hn
    have ht2 : s.heap.IsTuple a (intItems xs) := by rw [← e]; exact ht
    refine PySem.W.ktm_sumG (I.ok.hd hc) ht2 fun h' tk t' hk => ⟨.int ns.sum, H, I.kept hk, ⟨t', ?_⟩, q⟩
    rw [preSum_eq, List.take_of_length_le (by simp), hn]
def dSum : List D → Option D
  | [.lst ds] => (intsD ds).map fun ns => .int ns.sum
  | [.tup ds] => (intsD ds).map fun ns => .int ns.sum
  | _ => none
theorem opn_sum (hK : X.K = C.K) : OpN C (rSumA X.K) dSum .pu := by
  intro R H ds d xs F Q r hg k
  rw [hK]
  match ds, hg with
  | [.lst ds], hg =>
    simp only [dSum] at hg
    cases q : intsD ds with
    | none => rw [q] at hg; cases hg
    | some ns =>
      rw [q] at hg; cases hg
      replace r := reps_one r; obtain ⟨v, rfl, r⟩ := r
      obtain ⟨a, vs, G, rfl, hs, hl, rr, _⟩ := rep_lst r
      rw [ints_of rr q] at hs
      exact ⟨a, ns, rfl, .inl (SqL.of hs), k _ _ [] (VP.val (.int _))⟩
  | [.tup ds], hg =>
    simp only [dSum] at hg
    cases q : intsD ds with
    | none => rw [q] at hg; cases hg
    | some ns =>
      rw [q] at hg; cases hg
      replace r := reps_one r; obtain ⟨v, rfl, r⟩ := r
      obtain ⟨a, vs, rfl, hs, hl, rr⟩ := r.tup_inv
      rw [ints_of rr q] at hs
      exact ⟨a, ns, rfl, .inr hs, k _ _ [] (VP.val (.int _))⟩
def dAll : List D → Option D
  | [.lst ds] => (blsD ds).map fun bs => .bl (bs.all id)
  | _ => none
def dAny : List D → Option D
  | [.lst ds] => (blsD ds).map fun bs => .bl (bs.any id)
  | _ => none
theorem opn_all (hK : X.K = C.K) : OpN C (rAll X.K) dAll .pu := by
  intro R H ds d xs F Q r hg k
  rw [hK]
  match ds, hg with
  | [.lst ds], hg =>
    simp only [dAll] at hg
    cases q : blsD ds with
    | none => rw [q] at hg; cases hg
    | some ns =>
      rw [q] at hg; cases hg
      replace r := reps_one r; obtain ⟨v, rfl, r⟩ := r
      obtain ⟨a, vs, G, rfl, hs, hl, rr, _⟩ := rep_lst r
      rw [bls_of rr q] at hs
      exact ⟨a, ns, rfl, SqL.of hs, k _ _ [] (VP.val (.bl _))⟩
theorem opn_any (hK : X.K = C.K) : OpN C (rAny X.K) dAny .pu := by
  intro R H ds d xs F Q r hg k
  rw [hK]
  match ds, hg with
  | [.lst ds], hg =>
    simp only [dAny] at hg
    cases q : blsD ds with
    | none => rw [q] at hg; cases hg
    | some ns =>
      rw [q] at hg; cases hg
      replace r := reps_one r; obtain ⟨v, rfl, r⟩ := r
      obtain ⟨a, vs, G, rfl, hs, hl, rr, _⟩ := rep_lst r
      rw [bls_of rr q] at hs
      exact ⟨a, ns, rfl, SqL.of hs, k _ _ [] (VP.val (.bl _))⟩
/-! ### int(x), list(x), tuple(x) -/
def dInt : List D → Option D
  | [.int i] => some (.int i)
  | [.bl b] => some (.int (if b then 1 else 0))
  | _ => none
theorem opn_int : OpN C (fun xs H Q => (∃ i, xs = [.int i] ∧ Q (.int i) H) ∨ ∃ k, xs = [.bl k] ∧ Q (.int (if k then 1 else 0)) H) dInt .pu := by
  intro R H ds d xs F Q r hg k
  match ds, hg with
  | [.int i], hg => cases hg; replace r := reps_one r; obtain ⟨v, rfl, r⟩ := r; rw [r.int_inv]; exact .inl ⟨_, rfl, k _ _ [] (VP.val (.int _))⟩
  | [.bl i], hg => cases hg; replace r := reps_one r; obtain ⟨v, rfl, r⟩ := r; rw [r.blI]; exact .inr ⟨_, rfl, k _ _ [] (VP.val (.int _))⟩
/-- list(x) of a list or a tuple whose items cannot change -/
def dList : List D → Option D
  | [.lst ds] => if pureDs ds then some (.lst ds) else none
  | [.scr ds] => if pureDs ds then some (.lst ds) else none
  | [.ice ds] => if pureDs ds then some (.lst ds) else none
  | [.tup ds] => if pureDs ds then some (.lst ds) else none
  | _ => none
theorem opn_list (hK : X.K = C.K) : OpN C (fun xs H Q => ∃ p ys, xs = [.ref p] ∧ (SqL X.K H p ys ∨ SqT X.K H p ys) ∧ ∀ l, H l = none → Q (.ref l) (upd H l (.lst ys))) dList .fr := by
  intro R H ds d xs F Q r hg k
  rw [hK]
  match ds, hg with
  | [.lst ds], hg =>
    simp only [dList] at hg
    split at hg <;> cases hg
    rename_i hp
    replace r := reps_one r; obtain ⟨v, rfl, r⟩ := r
    obtain ⟨a, vs, G, rfl, hs, hl, rr, _⟩ := rep_lst r
    have e := rr.pure hp
    subst e
    exact ⟨a, vs, rfl, .inl (SqL.of hs), fun l hn => k _ _ [l] (VP.newL hn hl rr)⟩
  | [.scr ds], hg =>
    simp only [dList] at hg
    split at hg <;> cases hg
    rename_i hp
    replace r := reps_one r; obtain ⟨v, rfl, r⟩ := r
    cases r with
    | scr hs hl rr =>
      have e := rr.pure hp
      subst e
      exact ⟨_, _, rfl, .inl hs.toL, fun l hn => k _ _ [l] (VP.newL hn hl rr)⟩
  | [.ice ds], hg =>
    simp only [dList] at hg
    split at hg <;> cases hg
    rename_i hp
    replace r := reps_one r; obtain ⟨v, rfl, r⟩ := r
    cases r with
    | ice hs hl rr =>
      have e := rr.pure hp
      subst e
      exact ⟨_, _, rfl, .inl (.inl (.inr ⟨_, hs⟩)), fun l hn => k _ _ [l] (VP.newL hn hl rr)⟩
  | [.tup ds], hg =>
    simp only [dList] at hg
    split at hg <;> cases hg
    rename_i hp
    replace r := reps_one r; obtain ⟨v, rfl, r⟩ := r
    obtain ⟨a, vs, rfl, hs, hl, rr⟩ := r.tup_inv
    have e := rr.pure hp
    subst e
    exact ⟨a, vs, rfl, .inr hs, fun l hn => k _ _ [l] (VP.newL hn hl rr)⟩
def dTuple : List D → Option D
  | [.lst ds] => if pureDs ds then some (.tup ds) else none
  | [.ice ds] => if pureDs ds then some (.tup ds) else none
  | [.tup ds] => if pureDs ds then some (.tup ds) else none
  | _ => none
theorem opn_tuple (hK : X.K = C.K) : OpN C (fun xs H Q => ∃ p ys, xs = [.ref p] ∧ ((SqL X.K H p ys ∧ ∀ l, H l = none → Q (.ref l) (upd H l (.tup ys))) ∨ (SqT X.K H p ys ∧ Q (.ref p) H))) dTuple .pu := by
  intro R H ds d xs F Q r hg k
  rw [hK]
  match ds, hg with
  | [.lst ds], hg =>
    simp only [dTuple] at hg
    split at hg <;> cases hg
    rename_i hp
    replace r := reps_one r; obtain ⟨v, rfl, r⟩ := r
    obtain ⟨a, vs, G, rfl, hs, hl, rr, _⟩ := rep_lst r
    have e := rr.pure hp
    subst e
    exact ⟨a, vs, rfl, .inl ⟨SqL.of hs, fun l hn => k _ _ [] (VP.new hn (.tup (SqT.of upd_same) hl (rr.same (same_upd hn))))⟩⟩
  | [.ice ds], hg =>
    simp only [dTuple] at hg
    split at hg <;> cases hg
    rename_i hp
    replace r := reps_one r; obtain ⟨v, rfl, r⟩ := r
    cases r with
    | ice hs hl rr =>
      have e := rr.pure hp
      subst e
      exact ⟨_, _, rfl, .inl ⟨.inl (.inr ⟨_, hs⟩), fun l hn => k _ _ [] (VP.new hn (.tup (SqT.of upd_same) hl (rr.same (same_upd hn))))⟩⟩
  | [.tup ds], hg =>
    simp only [dTuple] at hg
    split at hg <;> cases hg
    rename_i hp
    replace r := reps_one r; obtain ⟨v, rfl, r⟩ := r
    obtain ⟨a, vs, rfl, hs, hl, rr⟩ := r.tup_inv
    have e := rr.pure hp
    subst e
    exact ⟨a, vs, rfl, .inr ⟨hs, k _ _ [] (VP.val (.tup hs hl rr))⟩⟩
end
end EL

namespace EL
open PySem PySem.Spec PyProof.Rows
open L2 hiding XE
/-! ### keys -/
def keyD : D → Option Key
  | .int i => some (.inl i)
  | .str x => some (.inr x)
  | _ => none
def valD (kvs : List (Key × D)) (k : Key) : Option D := (kvs.find? fun kv => decide (kv.1 = k)).map (·.2)
def putD (kvs : List (Key × D)) (k : Key) (v : D) : List (Key × D) :=
  if (kvs.any fun kv => decide (kv.1 = k)) = true then kvs.map (fun kv => if kv.1 = k then (kv.1, v) else kv) else kvs ++ [(k, v)]
section
variable {X : Cx} {S : Sig} {C : Core} {B : Base} {W : WX} {R : Addr → Prop} {σ : L2.St} {ρ ρ1 ρ' : Env} {Fs Fs1 Fs' : Nat → List Addr} {H H1 H' : Hp} {F : List Addr} {m m1 m2 rm : Md} {e1 e2 : Bool} {pos : Pos} {d : D} {v : V}
theorem key_v {k : Key} {x : V} (r : Rep C R H d x F) (h : keyD d = some k) : x = kV k := by
  cases d <;> simp only [keyD] at h <;> cases h
  · exact r.int_inv
  · exact r.str_inv
theorem Reps.cons_nil {ds : List D} {xs : List V} (r : Reps C R H (d :: ds) xs []) : ∃ x ys, xs = x :: ys ∧ Rep C R H d x [] ∧ Reps C R H ds ys [] := by
  generalize hF : ([] : List Addr) = F at r
  generalize hD : d :: ds = ds' at r
  cases r with
  | nil => cases hD
  | cons r1 r2 =>
    cases hD
    obtain ⟨e1, e2⟩ := List.append_eq_nil_iff.mp hF.symm
    subst e1; subst e2
    exact ⟨_, _, rfl, r1, r2⟩
theorem Rep.dic_inv {kvs : List (Key × D)} {x : V} (h : Rep C R H (.dic kvs) x F) : ∃ a ws G, x = .ref a ∧ H a = Option.some (.dK ws) ∧ ws.length ≤ sizeLine ∧ ws.map (·.1) = kvs.map (·.1) ∧ Reps C R H (kvs.map (·.2)) (ws.map (·.2)) G ∧ F = a :: G := by
  cases h with
  | dic h l e r => exact ⟨_, _, _, rfl, h, l, e, r, rfl⟩
theorem val_of {k : Key} : ∀ {kvs : List (Key × D)} {ws : List (Key × V)} {F : List Addr}, ws.map (·.1) = kvs.map (·.1) → Reps C R H (kvs.map (·.2)) (ws.map (·.2)) F →
    (valD kvs k = none → valV ws k = none) ∧ ∀ d, valD kvs k = some d → ∃ v A G Bb, valV ws k = some v ∧ Rep C R H d v G ∧ F = A ++ G ++ Bb
  | [], [], F, e, r => ⟨fun _ => rfl, fun d h => by cases h⟩
  | [], _ :: _, F, e, r => by simp at e
  | _ :: _, [], F, e, r => by simp at e
  | (k1, d1) :: kvs, (k2, v2) :: ws, F, e, r => by
    simp only [List.map_cons, List.cons.injEq] at e r
    obtain ⟨rfl, e⟩ := e
    cases r with
    | cons r t =>
      rename_i F1 F2
      obtain ⟨ih1, ih2⟩ := val_of (k := k) e t
      by_cases hk : k2 = k
      · subst hk
        refine ⟨fun h => by simp [valD] at h, fun d h => ?_⟩
        simp [valD] at h
        subst h
        exact ⟨v2, [], F1, F2, by simp [valV], r, by simp⟩
      · have a1 : valD ((k2, d1) :: kvs) k = valD kvs k := by simp [valD, List.find?_cons, hk]
        have a2 : valV ((k2, v2) :: ws) k = valV ws k := by simp [valV, List.find?_cons, hk]
        rw [a1, a2]
        refine ⟨ih1, fun d h => ?_⟩
        obtain ⟨v, A, G, Bb, h1, h2, h3⟩ := ih2 d h
        exact ⟨v, F1 ++ A, G, Bb, h1, h2, by rw [h3]; simp⟩
theorem put_map {k : Key} {y : D} {x : V} (ry : Rep C R H y x []) : ∀ {kvs : List (Key × D)} {ws : List (Key × V)}, ws.map (·.1) = kvs.map (·.1) → Reps C R H (kvs.map (·.2)) (ws.map (·.2)) [] →
    (ws.map fun kv => if kv.1 = k then (kv.1, x) else kv).map (·.1) = (kvs.map fun kv => if kv.1 = k then (kv.1, y) else kv).map (·.1) ∧ Reps C R H ((kvs.map fun kv => if kv.1 = k then (kv.1, y) else kv).map (·.2)) ((ws.map fun kv => if kv.1 = k then (kv.1, x) else kv).map (·.2)) []
  | [], [], e, r => ⟨rfl, .nil⟩
  | [], _ :: _, e, r => by simp at e
  | _ :: _, [], e, r => by simp at e
  | (k1, d1) :: kvs, (k2, v2) :: ws, e, r => by
    simp only [List.map_cons, List.cons.injEq] at e r
    obtain ⟨rfl, e⟩ := e
    obtain ⟨v', ys, e3, r1, r2⟩ := r.cons_nil
    simp only [List.cons.injEq] at e3
    obtain ⟨rfl, rfl⟩ := e3
    obtain ⟨ih1, ih2⟩ := put_map (k := k) ry e r2
    simp only [List.map_cons]
    by_cases hk : k2 = k
    · simp only [if_pos hk, ih1]
      exact ⟨trivial, .cons (F := []) (G := []) ry ih2⟩
    · simp only [if_neg hk, ih1]
      exact ⟨trivial, .cons (F := []) (G := []) r1 ih2⟩
theorem put_of {k : Key} {y : D} {x : V} {kvs : List (Key × D)} {ws : List (Key × V)} (ry : Rep C R H y x []) (e : ws.map (·.1) = kvs.map (·.1)) (r : Reps C R H (kvs.map (·.2)) (ws.map (·.2)) []) :
    (putK ws k x).map (·.1) = (putD kvs k y).map (·.1) ∧ Reps C R H ((putD kvs k y).map (·.2)) ((putK ws k x).map (·.2)) [] ∧ (putK ws k x).length ≤ ws.length + 1 := by
  have ha : (ws.any fun kv => decide (kv.1 = k)) = kvs.any fun kv => decide (kv.1 = k) := by
    have h1 : ∀ {β : Type} (l : List (Key × β)), (l.any fun kv => decide (kv.1 = k)) = (l.map (·.1)).any fun z => decide (z = k) := fun l => by rw [List.any_map]; rfl
    rw [h1, h1, e]
  unfold putK putD
  rw [ha]
  split
  · obtain ⟨h1, h2⟩ := put_map (k := k) ry e r
    exact ⟨h1, h2, by simp⟩
  · refine ⟨by simp [e], ?_, by simp⟩
    simp only [List.map_append, List.map_cons, List.map_nil]
    have := r.app (.cons ry .nil)
    simpa using this
/-! ### an item -/
/-- an item of a list, a tuple, a text, by its place -/
def dIx : D → D → Option D
  | .tup ds, .int i => atI ds i
  | .lst ds, .int i => atI ds i
  | .scr ds, .int i => atI ds i
  | .ice ds, .int i => atI ds i
  | .str x, .int i => if x.length ≤ sizeLine then (atI x.cps.toList i).map fun c => .str ⟨#[c]⟩ else none
  | .dic kvs, k => (keyD k).bind (valD kvs)
  | _, _ => none
/-- an item of a dict -/
def rIxD : R2 := fun x y H Q => ∃ a v, x = .ref a ∧ DGet H a y (some v) ∧ Q v H
theorem ix_dict (hu : X.A.units + 1 < cLine) : IxR X rIxD := by
  intro value slice pins s σ H x y v u Q I rx ry h hs
  obtain ⟨a, w, rfl, g, q⟩ := h
  obtain rfl : v = Value.ref a := rx
  exact PyProof.Rows.tail_any (dict_typeIs I g) PySem.F.slot_dict_getitem.lookup (d_getItem hu I g ry fun w' s' I' r' => ⟨w, H, I', r', q⟩) hs
def rIxA (K : PySem.W.Frag) : R2 := fun x y H Q => rIx K x y H Q ∨ rIxD x y H Q
theorem ix_any (hu : X.A.units + 1 < cLine) : IxR X (rIxA X.K) := ix_seq.or (ix_dict hu)
theorem Reps.at_ {ds : List D} {vs : List V} {i : Int} (r : Reps C R H ds vs F) (e : atI ds i = Option.some d) : ∃ v A G Bb, atI vs i = Option.some v ∧ Rep C R H d v G ∧ F = A ++ G ++ Bb := by
  unfold atI at e ⊢
  rw [← r.length]
  cases q : ixN ds.length i with
  | none => rw [q] at e; cases e
  | some j =>
    rw [q] at e
    obtain ⟨v, G, A, Bb, h1, h2, h3⟩ := r.get (i := j) e
    exact ⟨v, A, G, Bb, h1, h2, h3⟩
theorem ix_ways {d1 d2 : D} {x y : V} {F1 F2 : List Addr} (r1 : Rep C R H d1 x F1) (r2 : Rep C R H d2 y F2) (h : dIx d1 d2 = some d) :
    ∃ v G, (∀ Q : VK, Q v H → rIxA C.K x y H Q) ∧ Rep C R H d v G ∧ (F1.Nodup → G.Nodup) ∧ ∀ a ∈ G, a ∈ F1 := by
  have sub : ∀ {A G Bb : List Addr}, ((A ++ G ++ Bb).Nodup → G.Nodup) ∧ ∀ a ∈ G, a ∈ A ++ G ++ Bb := fun {A G Bb} => ⟨fun n => (List.nodup_append.mp (List.nodup_append.mp n).1).2.1, fun a ha => by simp [ha]⟩
  cases r1 with
  | tup hs l r =>
    cases d2 <;> simp only [dIx] at h <;> try (cases h; done)
    obtain ⟨v, A, G, Bb, h1, h2, rfl⟩ := r.at_ h
    exact ⟨v, G, fun Q q => .inl (.inr (.inl ⟨_, _, _, v, rfl, r2.int_inv, hs, h1, q⟩)), h2, sub⟩
  | lst hs l r =>
    cases d2 <;> simp only [dIx] at h <;> try (cases h; done)
    obtain ⟨v, A, G, Bb, h1, h2, rfl⟩ := r.at_ h
    exact ⟨v, G, fun Q q => .inl (.inl ⟨_, _, _, v, rfl, r2.int_inv, SqL.of hs, h1, q⟩), h2, fun n => sub.1 (List.nodup_cons.mp n).2, fun a ha => List.mem_cons_of_mem _ (sub.2 a ha)⟩
  | scr hs l r =>
    cases d2 <;> simp only [dIx] at h <;> try (cases h; done)
    obtain ⟨v, A, G, Bb, h1, h2, rfl⟩ := r.at_ h
    exact ⟨v, G, fun Q q => .inl (.inl ⟨_, _, _, v, rfl, r2.int_inv, hs.toL, h1, q⟩), h2, sub⟩
  | ice hs l r =>
    cases d2 <;> simp only [dIx] at h <;> try (cases h; done)
    obtain ⟨v, A, G, Bb, h1, h2, rfl⟩ := r.at_ h
    exact ⟨v, G, fun Q q => .inl (.inl ⟨_, _, _, v, rfl, r2.int_inv, .inl (.inr ⟨_, hs⟩), h1, q⟩), h2, sub⟩
  | str z =>
    cases d2 <;> simp only [dIx] at h <;> try (cases h; done)
    split at h
    · rename_i hl
      simp only [Option.map_eq_some_iff] at h
      obtain ⟨c, hc, rfl⟩ := h
      exact ⟨_, [], fun Q q => .inl (.inr (.inr ⟨z, _, c, rfl, r2.int_inv, hl, hc, q⟩)), .str _, fun _ => List.nodup_nil, fun a ha => by cases ha⟩
    · cases h
  | dic hs l e r =>
    simp only [dIx] at h
    cases hk : keyD d2 with
    | none => rw [hk] at h; cases h
    | some k =>
      rw [hk] at h
      obtain ⟨v, A, G, Bb, h1, h2, rfl⟩ := (val_of (k := k) e r).2 d h
      refine ⟨v, G, fun Q q => .inr ⟨_, v, rfl, ?_, q⟩, h2, fun n => sub.1 (List.nodup_cons.mp n).2, fun a ha => List.mem_cons_of_mem _ (sub.2 a ha)⟩
      rw [key_v r2 hk, ← h1]
      exact DGet.k hs
  | non => cases h
  | bl => cases h
  | int => cases h
  | ins => cases h
  | obj => cases h
theorem MdOk.sub {G : List Addr} (h : MdOk S B m ρ Fs H ρ' Fs' F) (n : F.Nodup → G.Nodup) (s : ∀ a ∈ G, a ∈ F) : MdOk S B m ρ Fs H ρ' Fs' G := by
  cases m with
  | bo => trivial
  | al T => exact fun a ha => h a (s a ha)
  | fr => exact ⟨n h.1, fun a ha => h.2.1 a (s a ha), fun i oi a ha => h.2.2 i oi a (s a ha)⟩
  | pu =>
    have e : F = [] := h
    cases G with
    | nil => rfl
    | cons a G => have := s a (by simp); rw [e] at this; cases this
theorem Md.join_pu (m : Md) : m.join .pu = m := by cases m <;> rfl
theorem xe_ix (hK : X.K = S.c.K) (hu : X.A.units + 1 < cLine) {a b : Expr} {ea eb : M D} (ha : XE X S W a m1 e1 ea) (hb : XE X S W b .pu e2 eb) (z : (!e2 || m1.sep) = true := by rfl) (hs : PlainIx b := by exact fun _ _ => rfl) : XE X S W (.Subscript a b pos) m1 (e1 || e2) (eBin dIx ea eb) := by
  obtain ⟨ta, pa, ra⟩ := ha.ex
  obtain ⟨tb, pb, rb⟩ := hb.ex
  refine ⟨_, pe_ix (ix_any hu) pa pb hs, fun B ρ σ Fs H Q I h => ra B ρ σ Fs H _ I (h.bind.imp fun d1 ρ1 _ h1 x H1 Fs1 F p1 => rb B ρ1 σ Fs1 H1 _ p1.env (h1.bind.imp fun d2 ρ2 _ h2 y H2 Fs2 G p2 => ?_))⟩
  obtain ⟨d, hd, k⟩ := h2.lift
  obtain ⟨v, G', w, r, n, s⟩ := ix_ways (p1.over p2.step z) p2.rep hd
  rw [hK]
  refine w _ (k v H2 Fs2 G' ⟨p2.env, r, p1.step.trans p2.step, ?_⟩)
  have j := MdOk.join (m2 := .pu) p1.env p1.step p2.step p1.md p2.md p1.rep.some z
  rw [Md.join_pu] at j
  have e : G = [] := p2.md
  subst e
  rw [List.append_nil] at j
  exact j.sub n s
/-! ### slices -/
structure XO (X : Cx) (S : Sig) (W : WX) (e : Option Expr) (ev : M (Option Int)) : Prop where
  ex : ∃ t, PO X e t ∧ ∀ (B : Base) (ρ : Env) (σ : L2.St) (Fs : Nat → List Addr) (H : Hp) (Q : Option Int → Hp → Prop), EnvR S B ρ σ Fs H →
    Wn (ErW S B W) (fun o ρ' => ∀ H' Fs', EnvR S B ρ' σ Fs' H' → Step S false ρ Fs H ρ' Fs' H' → Q o H') (ev ρ) → t σ H Q
def eoNone : M (Option Int) := fun ρ => .ok none ρ
def eoSome (a : M D) : M (Option Int) := fun ρ => bindR (a ρ) fun d ρ => match d with | .int i => .ok (some i) ρ | _ => .st
theorem xo_none : XO X S W none eoNone := ⟨_, po_none, fun B ρ σ Fs H Q I h => h H Fs I Step.refl⟩
theorem xo_some {e : Expr} {ev : M D} (ha : XE X S W e m e1 ev) (h0 : e1 = false := by rfl) : XO X S W (some e) (eoSome ev) := by
  subst h0
  obtain ⟨ta, pa, ra⟩ := ha.ex
  refine ⟨_, po_some pa, fun B ρ σ Fs H Q I h => ra B ρ σ Fs H _ I (h.bind.imp fun d ρ1 _ h1 v H1 Fs1 F p => ?_)⟩
  split at h1
  · exact ⟨_, p.rep.int_inv, h1 H1 Fs1 p.env p.step⟩
  · exact h1.elim
def cutD {α : Type} (xs : List α) (lo hi : Option Int) : List α := (xs.drop (HT.sIx xs.length 0 lo)).take (HT.sIx xs.length xs.length hi - HT.sIx xs.length 0 lo)
def dSl (x : D) (lo hi : Option Int) : Option D := match x with
  | .tup ds => if pureDs ds then some (.tup (cutD ds lo hi)) else none
  | .lst ds => if pureDs ds then some (.lst (cutD ds lo hi)) else none
  | .str z => if z.length ≤ sizeLine then some (.str (cutS z lo hi)) else none
  | _ => none
def eSl (a : M D) (lo hi : M (Option Int)) : M D := fun ρ => bindR (a ρ) fun x ρ => bindR (lo ρ) fun l ρ => bindR (hi ρ) fun h ρ => lift (dSl x l h) ρ
theorem Reps.take {ds : List D} {vs : List V} (n : Nat) (r : Reps C R H ds vs []) : Reps C R H (ds.take n) (vs.take n) [] := by
  induction n generalizing ds vs with
  | zero => simpa using Reps.nil
  | succ n ih =>
    cases ds with
    | nil => cases r; simpa using Reps.nil
    | cons d ds =>
      obtain ⟨x, ys, rfl, r1, r2⟩ := r.cons_nil
      exact .cons (F := []) (G := []) r1 (ih r2)
theorem Reps.drop {ds : List D} {vs : List V} (n : Nat) (r : Reps C R H ds vs []) : Reps C R H (ds.drop n) (vs.drop n) [] := by
  induction n generalizing ds vs with
  | zero => simpa using r
  | succ n ih =>
    cases ds with
    | nil => cases r; simpa using Reps.nil
    | cons d ds =>
      obtain ⟨x, ys, rfl, r1, r2⟩ := r.cons_nil
      exact ih r2
theorem Reps.cut {ds : List D} {vs : List V} {lo hi : Option Int} (r : Reps C R H ds vs []) : Reps C R H (cutD ds lo hi) (cutV vs lo hi) [] := by
  unfold cutD cutV
  rw [← r.length]
  exact (r.drop _).take _
def rSlAny (K : PySem.W.Frag) : V → Option Int → Option Int → Hp → VK → Prop := fun x lo hi H Q => rSlL K x lo hi H Q ∨ (rSlA K x lo hi H Q ∨ rSlS x lo hi H Q)
theorem sl_any : SlR X (rSlAny X.K) := sl_list.or (sl_tupA.or sl_str)
theorem xe_sl (hK : X.K = S.c.K) {a : Expr} {lo hi : Option Expr} {p2 : Pos} {ea : M D} {el eh : M (Option Int)} (ha : XE X S W a m1 e1 ea) (hl : XO X S W lo el) (hh : XO X S W hi eh) : XE X S W (.Subscript a (.Slice lo hi none p2) pos) .fr e1 (eSl ea el eh) := by
  obtain ⟨ta, pa, ra⟩ := ha.ex
  obtain ⟨tl, pl, rl⟩ := hl.ex
  obtain ⟨th, ph, rh⟩ := hh.ex
  refine ⟨_, pe_slice sl_any pa pl ph, fun B ρ σ Fs H Q I h => ra B ρ σ Fs H _ I (h.bind.imp fun d1 ρ1 _ h1 x H1 Fs1 F p1 => rl B ρ1 σ Fs1 H1 _ p1.env (h1.bind.imp fun lo ρ2 _ h2 H2 Fs2 I2 s2 => rh B ρ2 σ Fs2 H2 _ I2 (h2.bind.imp fun hi ρ3 _ h3 H3 Fs3 I3 s3 => ?_)))⟩
  obtain ⟨d, hd, k⟩ := h3.lift
  have r0 := (p1.rep.same (s2.noeff rfl).2.2).same (s3.noeff rfl).2.2
  have st : Step S e1 ρ Fs H ρ3 Fs3 H3 := by have := (p1.step.trans s2).trans s3; simpa using this
  have fin : ∀ {v H4 F4}, VP S.c B.R .fr H3 d v H4 F4 → Q v H4 := fun {v H4 F4} q => k v H4 Fs3 F4 (VP.post (ds := []) (vs := []) (G := []) (m1 := .bo) ⟨I3, .nil, st, trivial⟩ q)
  rw [hK]
  cases d1 <;> simp only [dSl] at hd <;> try (cases hd; done)
  · split at hd <;> cases hd
    rename_i hc
    rw [r0.str_inv]
    exact .inr (.inr ⟨_, rfl, hc, fin ⟨Same.refl _, .str _, List.nodup_nil, fun a ha => by cases ha⟩⟩)
  · split at hd <;> cases hd
    rename_i hp
    obtain ⟨a, vs, rfl, hs, hl, rr⟩ := r0.tup_inv
    have e := rr.pure hp
    subst e
    refine .inr (.inl ⟨a, vs, rfl, hs, fun hw => ?_, fun _ p hp => fin (F4 := []) ⟨same_upd hp, .tup (SqT.of upd_same) (Nat.le_trans (cutV_length _ _ _) hl) (rr.cut.same (same_upd hp)), List.nodup_nil, fun a ha => by cases ha⟩⟩)
    refine fin (F4 := []) ⟨Same.refl _, ?_, List.nodup_nil, fun a ha => by cases ha⟩
    rw [cutD, rr.length, hw.1, hw.2, List.drop_zero, Nat.sub_zero, ← rr.length, List.take_length]
    exact .tup hs hl rr
  · split at hd <;> cases hd
    rename_i hp
    obtain ⟨a, vs, G, rfl, hs, hl, rr, _⟩ := rep_lst r0
    have e := rr.pure hp
    subst e
    exact .inl ⟨a, vs, rfl, SqL.of hs, fun p hp => fin (VP.newL hp (Nat.le_trans (cutV_length _ _ _) hl) rr.cut)⟩
end
end EL

namespace EL
open PySem PySem.Spec PyProof.Rows
open L2 hiding XE
section
variable {X : Cx} {S : Sig} {C : Core} {B : Base} {W : WX} {R : Addr → Prop} {σ : L2.St} {ρ ρ1 ρ' : Env} {Fs Fs1 Fs' : Nat → List Addr} {H H1 H' : Hp} {F G : List Addr} {m m1 m2 rm : Md} {e1 e2 : Bool} {pos : Pos} {d : D} {v : V}
/-! ### stores into what stands in a slot -/
theorem Reps.cons_inv {ds : List D} {xs : List V} (r : Reps C R H (d :: ds) xs F) : ∃ x ys F1 F2, xs = x :: ys ∧ Rep C R H d x F1 ∧ Reps C R H ds ys F2 ∧ F = F1 ++ F2 := by
  cases r with
  | cons r1 r2 => exact ⟨_, _, _, _, rfl, r1, r2, rfl⟩
theorem Reps.setAt (q : Rep C R H d v []) : ∀ {F : List Addr} {i : Nat} {ds : List D} {vs : List V}, Reps C R H ds vs F → ∃ G, Reps C R H (ds.set i d) (vs.set i v) G ∧ G.Sublist F
  | _, i, [], _, r => by cases r; exact ⟨[], .nil, .slnil⟩
  | _, i, d1 :: ds, _, r => by
    obtain ⟨x, ys, F1, F2, rfl, r1, r2, rfl⟩ := r.cons_inv
    cases i with
    | zero => exact ⟨[] ++ F2, .cons q r2, List.sublist_append_right _ _⟩
    | succ i =>
      obtain ⟨G, h1, h2⟩ := Reps.setAt (i := i) (ds := ds) (vs := ys) q r2
      exact ⟨F1 ++ G, .cons r1 h1, (List.Sublist.refl _).append h2⟩
theorem put_map' {k : Key} {y : D} {x : V} (ry : Rep C R H y x []) : ∀ {kvs : List (Key × D)} {ws : List (Key × V)} {F : List Addr}, ws.map (·.1) = kvs.map (·.1) → Reps C R H (kvs.map (·.2)) (ws.map (·.2)) F →
    (ws.map fun kv => if kv.1 = k then (kv.1, x) else kv).map (·.1) = (kvs.map fun kv => if kv.1 = k then (kv.1, y) else kv).map (·.1) ∧ ∃ G, Reps C R H ((kvs.map fun kv => if kv.1 = k then (kv.1, y) else kv).map (·.2)) ((ws.map fun kv => if kv.1 = k then (kv.1, x) else kv).map (·.2)) G ∧ G.Sublist F
  | [], [], F, e, r => ⟨rfl, by cases r; exact ⟨[], .nil, .slnil⟩⟩
  | [], _ :: _, F, e, r => by simp at e
  | _ :: _, [], F, e, r => by simp at e
  | (k1, d1) :: kvs, (k2, v2) :: ws, F, e, r => by
    simp only [List.map_cons, List.cons.injEq] at e r
    obtain ⟨rfl, e⟩ := e
    obtain ⟨v', ys, F1, F2, e3, r1, r2, rfl⟩ := r.cons_inv
    simp only [List.cons.injEq] at e3
    obtain ⟨rfl, rfl⟩ := e3
    obtain ⟨ih1, G, ih2, ih3⟩ := put_map' (k := k) ry e r2
    simp only [List.map_cons]
    by_cases hk : k2 = k
    · simp only [if_pos hk, ih1]
      exact ⟨trivial, [] ++ G, .cons ry ih2, ih3.trans (List.sublist_append_right _ _)⟩
    · simp only [if_neg hk, ih1]
      exact ⟨trivial, F1 ++ G, .cons r1 ih2, (List.Sublist.refl _).append ih3⟩
theorem put_of' {k : Key} {y : D} {x : V} {kvs : List (Key × D)} {ws : List (Key × V)} (ry : Rep C R H y x []) (e : ws.map (·.1) = kvs.map (·.1)) (r : Reps C R H (kvs.map (·.2)) (ws.map (·.2)) F) :
    (putK ws k x).map (·.1) = (putD kvs k y).map (·.1) ∧ ∃ G, Reps C R H ((putD kvs k y).map (·.2)) ((putK ws k x).map (·.2)) G ∧ G.Sublist F := by
  have ha : (ws.any fun kv => decide (kv.1 = k)) = kvs.any fun kv => decide (kv.1 = k) := by
    have h1 : ∀ {β : Type} (l : List (Key × β)), (l.any fun kv => decide (kv.1 = k)) = (l.map (·.1)).any fun z => decide (z = k) := fun l => by rw [List.any_map]; rfl
    rw [h1, h1, e]
  unfold putK putD
  rw [ha]
  split
  · exact put_map' ry e r
  · refine ⟨by simp [e], F, ?_, List.Sublist.refl _⟩
    have := r.app (.cons (F := []) ry .nil)
    simpa using this
theorem PSet.or {t1 t2 : TSet} (h1 : PSet X t1) (h2 : PSet X t2) : PSet X (fun o i v H Q => t1 o i v H Q ∨ t2 o i v H Q) := by
  intro pins s σ H o i v ov iv u Q I ro ri rv h
  rcases h with h | h
  · exact h1 pins s σ H o i v ov iv u Q I ro ri rv h
  · exact h2 pins s σ H o i v ov iv u Q I ro ri rv h
/-- x[k] = v, of a list or a dict -/
def dPut : D → D → D → Option D
  | .lst ds, .int i, y => (ixN ds.length i).map fun j => .lst (ds.set j y)
  | .dic kvs, k, y => (keyD k).bind fun q => if kvs.length < sizeLine then some (.dic (putD kvs q y)) else none
  | _, _, _ => none
def rPut : TSet := fun o i v H Q => rSetL o i v H Q ∨ rSetD o i v H Q
theorem put_any (hu : X.A.units + 1 < cLine) : PSet X rPut := PSet.or set_list (set_dict hu)
theorem dPut_ways {d0 dk dv o : D} {x k w : V} {F Fk : List Addr} {Q : Hp → Prop} (r0 : Rep C R H d0 x F) (rk : Rep C R H dk k Fk) (rv : Rep C R H dv w []) (nd : F.Nodup) (h : dPut d0 dk dv = some o)
    (q : ∀ H' G, Rep C R H' o x G → G.Sublist F → (∀ a u, H a = some u → H' a = some u ∨ a ∈ F) → (∀ a, H' a = none → H a = none) → Q H') : rPut x k w H Q := by
  have ch : ∀ {a : Addr} {o : HO} {F1 : List Addr}, (∀ b u, H b = some u → upd H a o b = some u ∨ b ∈ a :: F1) := fun {a o F1} b u hb => by
    by_cases e : b = a
    · exact .inr (by simp [e])
    · exact .inl (by rw [upd_ne e]; exact hb)
  have dm : ∀ {a : Addr} {o u : HO}, H a = some u → ∀ b, upd H a o b = none → H b = none := fun {a o u} hu b hb => by
    by_cases e : b = a
    · subst e; rw [upd_same] at hb; cases hb
    · rw [upd_ne e] at hb; exact hb
  have kp : ∀ {a : Addr} {u0 u1 : HO} {G : List Addr}, H a = some u0 → Mu C R u0 a → a ∉ G → ∀ b u, H b = some u → (¬ Mu C R u b ∨ b ∈ G) → upd H a u1 b = some u := fun {a u0 u1 G} h0 mu na b u hb z => by
    have e : b ≠ a := fun e => by
      subst e
      rw [h0] at hb; cases hb
      rcases z with z | z
      · exact z mu
      · exact na z
    rw [upd_ne e]; exact hb
  cases r0 with
  | lst hs hl r =>
    cases dk <;> simp only [dPut] at h <;> try (cases h; done)
    simp only [Option.map_eq_some_iff] at h
    obtain ⟨j, hj, rfl⟩ := h
    rename_i a vs F1 i
    obtain ⟨G, g1, g2⟩ := r.setAt (i := j) rv
    have na : a ∉ G := fun z => (List.nodup_cons.mp nd).1 (g2.subset z)
    exact .inl ⟨a, vs, i, j, rfl, rk.int_inv, hs, by rw [← r.length]; exact hj, q _ (a :: G) (.lst upd_same (by simpa using hl) (g1.keep (kp hs trivial na))) (g2.cons₂ a) ch (dm hs)⟩
  | dic hs hl e r =>
    simp only [dPut] at h
    cases hk : keyD dk with
    | none => rw [hk] at h; cases h
    | some kk =>
      rw [hk] at h
      simp only [Option.bind_some] at h
      split at h <;> cases h
      rename_i kvs a ws F1 hlt
      obtain ⟨g0, G, g1, g2⟩ := put_of' (k := kk) rv e r
      have na : a ∉ G := fun z => (List.nodup_cons.mp nd).1 (g2.subset z)
      have hw : ws.length = kvs.length := by simpa using congrArg List.length e
      have hlp := length_putK ws kk w
      refine .inr ⟨a, _, rfl, ?_, q _ (a :: G) (.dic upd_same (by omega) g0 (g1.keep (kp hs trivial na))) (g2.cons₂ a) ch (dm hs)⟩
      rw [key_v rk hk]
      exact DPut.k hs (by omega)
  | non => cases h
  | bl => cases h
  | int => cases h
  | str => cases h
  | tup => cases h
  | scr => cases h
  | ice => cases h
  | ins => cases h
  | obj => cases h
def liftS (o : Option D) (f : D → So) : So := match o with | some d => f d | none => .st
/-- v, then the slot, then the key -/
def sPut (s : Nat) (k a : M D) : Ms := fun ρ => bindS (a ρ) fun y ρ => match ρ[s]? with
  | some (some d0) => bindS (k ρ) fun k ρ => liftS (dPut d0 k y) fun o => .nx (ρ.set s (some o))
  | _ => .st
theorem xs_put (s : Nat) {x : Str} {p pos' : Pos} {i e : Expr} {ek ea : M D} (hu : X.A.units + 1 < cLine) (ha : XE X S W e .pu e1 ea) (hk : XE X S W i m2 e2 ek) (h0 : e2 = false := by rfl) (hs : hasS S s = true := by rfl) (hN : X.N[s]? = some x := by rfl) (hv : Vis X.env.scope x := by first | exact Or.inl rfl | exact Or.inr (Or.inl rfl) | exact Or.inr (Or.inr rfl))
    (hd : (x == ("__debug__" : Str)) = false := by decide) (hcd : (x == ("__classdict__" : Str)) = false := by decide) (h1 : swapsWithSole [.Subscript (.Name x p) i pos'] e pos.line X.env = Pure.pure false := by rfl) (h2 : swappedStores [.Subscript (.Name x p) i pos'] e X.env = Pure.pure none := by rfl)
    (h3 : (assignEach [.Subscript (.Name x p) i pos'] X.env).map (·.2) = [assign (.Subscript (.Name x p) i pos') X.env] := by rfl)
    (h4 : ∀ v, assign (.Subscript (.Name x p) i pos') X.env v = (do
      let a ← holding [v] (eval (.Name x p) X.env)
      let b ← holding [v, a] (eval i X.env)
      standAt pos'
      holding [v, a, b] (setItem a b v)
      release [v, a, b] []) := by intro _; rfl) : XS X S W rm (.Assign [.Subscript (.Name x p) i pos'] e pos) (sPut s ek ea) := by
  subst h0
  obtain ⟨ta, pa, ra⟩ := ha.ex
  obtain ⟨tk, pk, rk⟩ := hk.ex
  refine ⟨_, ps_asg pa (pg_sub (pe_var hN hv hd hcd) pk (put_any hu) h4) h1 h2 h3, fun B ρ σ Fs H E I h => ra B ρ σ Fs H _ I (h.bind.imp fun y ρ1 _ g1 v H1 Fs1 F q => ?_)⟩
  split at g1
  · rename_i d0 e0
    obtain ⟨w, hw, r0⟩ := q.env.slot s d0 e0
    refine ⟨w, hw, rk B ρ1 σ Fs1 H1 _ q.env (g1.bind.imp fun k ρ2 _ g2 u H2 Fs2 F2 q2 => ?_)⟩
    cases ho : dPut d0 k y with
    | none => rw [ho] at g2; exact g2.elim
    | some o =>
      rw [ho] at g2
      obtain ⟨rfl, fe, sm⟩ := q2.step.noeff rfl
      have ow : Own S ρ2 s := ⟨hasS_own hs, d0, e0⟩
      obtain ⟨w', hw', r2⟩ := q2.env.slot s d0 e0
      rw [hw] at hw'; cases hw'
      have f0 : F = [] := q.md
      subst f0
      have own := q2.env.own s ow
      exact dPut_ways r2 q2.rep (q.rep.same sm) own.1 ho fun H3 G r3 sb ch dm => g2 σ _ H3 (q2.env.mut ow hw ch dm r3 (sb.nodup own.1) (fun a ha => own.2 a (sb.subset ha)) fun a ha j oj hj z => q2.env.dis j s oj ow hj a z (sb.subset ha))
  · exact g1.elim
end
end EL

namespace EL
open PySem PySem.Spec PyProof.Rows
open L2 hiding XE
section
variable {X : Cx} {S : Sig} {C : Core} {B : Base} {W : WX} {R : Addr → Prop} {σ : L2.St} {ρ ρ1 ρ' : Env} {Fs Fs1 Fs' : Nat → List Addr} {H H1 H' : Hp} {F G : List Addr} {m m1 m2 rm : Md} {e1 e2 : Bool} {pos : Pos} {d : D} {v : V}
/-! ### methods that change what stands in a slot -/
/-- g: what the method gives and leaves; nd: its arguments may go in -/
def OpU (C : Core) (r : V → List V → Hp → VK → Prop) (nd : Bool) (g : D → List D → Option (D × D)) : Prop := ∀ (R : Addr → Prop) (H : Hp) (d0 res o : D) (x : V) (F0 : List Addr) (ds : List D) (xs : List V) (F1 : List Addr) (Q : VK),
  Rep C R H d0 x F0 → Reps C R H ds xs F1 → F0.Nodup → (nd = true → F1.Nodup ∧ ∀ a ∈ F1, a ∉ F0) → g d0 ds = some (res, o) →
    (∀ v H' G F', (∀ a u, H a = some u → H' a = some u ∨ a ∈ F0) → (∀ a, H' a = none → H a = none) → Rep C R H' o x F' → F'.Nodup → (∀ a ∈ F', a ∈ F0 ∨ (nd = true ∧ a ∈ F1) ∨ H a = none) → Rep C R H' res v G → G.Nodup → (∀ a ∈ G, (a ∈ F0 ∨ H a = none) ∧ a ∉ F') → Q v H') → r x xs H Q
def tyM : D → Option String
  | .lst _ => some "list"
  | .dic _ => some "dict"
  | _ => none
def eMt (T : String) (s : Nat) (g : D → List D → Option (D × D)) (a : M (List D)) : M D := fun ρ => match ρ[s]? with
  | some (some d0) => if tyM d0 = some T then bindR (a ρ) fun ds ρ => (match ρ[s]? with
    | some (some d0) => (match g d0 ds with | some (res, o) => .ok res (ρ.set s (some o)) | none => .st)
    | _ => .st) else .st
  | _ => .st
theorem ty_ok {T : String} {K : PySem.W.Frag} {x : V} (r : Rep C R H d x F) (h : tyM d = some T) : tyV K T x H := by
  cases r <;> simp only [tyM] at h <;> cases h
  · rename_i hs _ _; exact .inl ⟨rfl, _, SqL.of hs⟩
  · rename_i hs _ _ _; exact .inr (.inr (.inl ⟨rfl, .inl ⟨_, hs⟩⟩))
theorem xe_mt (s : Nat) {T id : String} {name x : Str} {p apos : Pos} {r : V → List V → Hp → VK → Prop} {nd : Bool} {g : D → List D → Option (D × D)} {e : Expr} {es : List Expr} {ea : M (List D)} (pa : PlainAttrs T) (slot : Slot T name id) (hty : typeOf (.builtin id) = Pure.pure (.type "method_descriptor")) (hm : MtR X id r) (hg : OpU S.c r nd g)
    (ha : XA X S W (e :: es) m1 e1 ea) (z : (!nd || m1.le .fr) = true := by rfl) (hk : hasS S s = true := by rfl) (hN : X.N[s]? = some x := by rfl) (hv : Vis X.env.scope x := by first | exact Or.inl rfl | exact Or.inr (Or.inl rfl) | exact Or.inr (Or.inr rfl)) (hd : (x == ("__debug__" : Str)) = false := by decide) (hcd : (x == ("__classdict__" : Str)) = false := by decide)
    (hbase : attributeBase (.Name x p) name X.env (eval (.Name x p) X.env) = eval (.Name x p) X.env := by rfl)
    (hfew : ((backTo pos (starEach (e :: es) X.env)).all (fun x => !x.1) && (backToKw pos (keywordEach [] X.env)).all (fun x => x.1.isSome) && decide ((e :: es).length + ([] : List Keyword).length + (if ([] : List Keyword).isEmpty then 0 else 1) < 30)) = true := by rfl)
    (hline : (apos.endLine == pos.line) = true := by rfl) (hs : starEach (e :: es) X.env = (false, eval e X.env) :: starEach es X.env := by rfl) (hplain : (backTo pos (starEach es X.env)).any (·.1) = false := by rfl) :
    XE X S W (.Call (.Attribute (.Name x p) name apos) (e :: es) [] pos) .fr true (eMt T s g ea) := by
  obtain ⟨ta, pa', ra⟩ := ha.ex
  refine ⟨_, pe_bm pa slot hty hm (pe_var hN hv hd hcd) pa' hbase hfew hline hs hplain, fun B ρ σ Fs H Q I h => ?_⟩
  unfold eMt at h
  split at h
  case h_2 => exact h.elim
  rename_i d0 e0
  split at h
  case isFalse => exact h.elim
  rename_i ht
  obtain ⟨w, hw, r0⟩ := I.slot s d0 e0
  refine ⟨w, hw, ty_ok r0 ht, ra B ρ σ Fs H _ I (h.bind.imp fun ds ρ1 _ h1 vs H1 Fs1 F q => ?_)⟩
  split at h1
  case h_2 => exact h1.elim
  rename_i d1 e1'
  split at h1
  case h_2 => exact h1.elim
  rename_i res o hgo
  obtain ⟨w', hw', r1⟩ := q.env.slot s d1 e1'
  rw [hw] at hw'; cases hw'
  have ow : Own S ρ1 s := ⟨hasS_own hk, d1, e1'⟩
  have own := q.env.own s ow
  have fr : nd = true → MdOk S B .fr ρ Fs H ρ1 Fs1 F := fun hn => q.md.le (by subst hn; simpa using z)
  refine hg B.R H1 d1 res o w (Fs1 s) ds vs F Q r1 q.rep own.1 (fun hn => ⟨(fr hn).1, fun a ha => (fr hn).2.2 s ow a ha⟩) hgo fun v H2 G F' ch dm r2 n2 f2 r3 n3 g3 => ?_
  have fresh : ∀ {a}, H1 a = none → ∀ i, Own S ρ1 i → a ∉ Fs1 i := fun {a} n i oi m => by
    obtain ⟨u, hu, _⟩ := q.env.mem oi m
    rw [n] at hu; cases hu
  have lt : s < ρ1.length := (List.getElem?_eq_some_iff.mp e1').1
  have ob : ∀ j, Own S (ρ1.set s (some o)) j → Own S ρ1 j := fun j oj => by
    by_cases hj : j = s
    · subst hj; exact ow
    · obtain ⟨d', q'⟩ := oj.2
      rw [List.getElem?_set_ne (Ne.symm hj)] at q'
      exact ⟨oj.1, d', q'⟩
  have np : ∀ a ∈ F', ¬ B.P0 a := fun a ha => by
    rcases f2 a ha with k | ⟨hn, k⟩ | k
    · exact own.2 a k
    · rcases (fr hn).2.1 a k with n | ⟨j, oj, mj⟩
      · exact I.fresh n
      · exact (I.own j oj).2 a mj
    · exact q.env.fresh k
  have dj : ∀ a ∈ F', ∀ j, Own S ρ1 j → j ≠ s → a ∉ Fs1 j := fun a ha j oj hj m => by
    rcases f2 a ha with k | ⟨hn, k⟩ | k
    · exact q.env.dis j s oj ow hj a m k
    · exact (fr hn).2.2 j oj a k m
    · exact fresh k j oj m
  have back : ∀ a, a ∈ Fs1 s ∨ H1 a = none → H a = none ∨ ∃ j, Own S ρ j ∧ a ∈ Fs j := fun a k => by
    rcases k with k | k
    · exact q.step.grow s a ow k
    · exact .inl (q.step.dom a k)
  refine h1 v H2 (fun j => if j = s then F' else Fs1 j) G ⟨q.env.mut ow hw ch dm r2 n2 np dj, r3, ⟨fun a u hu => ?_, fun i a oi ha => ?_, fun a ha => q.step.dom a (dm a ha), fun z' => by cases z'⟩, n3, fun a ha => back a (g3 a ha).1, fun i oi a ha => ?_⟩
  · rcases q.step.chg a u hu with k | k
    · rcases ch a u k with k | k
      · exact .inl k
      · rcases q.step.grow s a ow k with n | k
        · rw [hu] at n; cases n
        · exact .inr k
    · exact .inr k
  · by_cases hi : i = s
    · simp only [if_pos hi] at ha
      rcases f2 a ha with k | ⟨hn, k⟩ | k
      · exact back a (.inl k)
      · exact (fr hn).2.1 a k
      · exact back a (.inr k)
    · simp only [if_neg hi] at ha
      exact q.step.grow i a (ob i oi) ha
  · by_cases hi : i = s
    · simp only [if_pos hi]; exact (g3 a ha).2
    · simp only [if_neg hi]
      intro m
      rcases (g3 a ha).1 with k | k
      · exact q.env.dis i s (ob i oi) ow hi a m k
      · exact fresh k i (ob i oi) m
/-- the list at a written anew -/
theorem lst_write {a : Addr} {xs ys : List V} {F' : List Addr} {es : List D} (h0 : H a = some (.lst xs)) (na : a ∉ F') (r : Reps C R H es ys F') (hl : ys.length ≤ sizeLine) :
    Rep C R (upd H a (.lst ys)) (.lst es) (.ref a) (a :: F') ∧ (∀ b u, H b = some u → upd H a (.lst ys) b = some u ∨ b = a) ∧ ∀ b, upd H a (.lst ys) b = none → H b = none := by
  refine ⟨.lst upd_same hl (r.keep fun b u hb z => ?_), fun b u hb => ?_, fun b hb => ?_⟩
  · have e : b ≠ a := fun e => by
      subst e
      rw [h0] at hb; cases hb
      rcases z with z | z
      · exact z trivial
      · exact na z
    rw [upd_ne e]; exact hb
  · by_cases e : b = a
    · exact .inr e
    · exact .inl (by rw [upd_ne e]; exact hb)
  · by_cases e : b = a
    · subst e; rw [upd_same] at hb; cases hb
    · rw [upd_ne e] at hb; exact hb
def dApp : D → List D → Option (D × D)
  | .lst ds, [y] => if ds.length < sizeLine then some (.non, .lst (ds ++ [y])) else none
  | _, _ => none
def dExt : D → List D → Option (D × D)
  | .lst ds, [.lst es] => if pureDs es && decide (ds.length + es.length ≤ sizeLine) then some (.non, .lst (ds ++ es)) else none
  | _, _ => none
theorem opu_app : OpU C rAppend true dApp := by
  intro R H d0 res o x F0 ds xs F1 Q r0 r1 n0 n1 h q
  cases r0 <;> simp only [dApp] at h <;> try (cases h; done)
  rename_i ds0 a vs F2 hs hl r2
  cases r1 with
  | nil => cases h
  | cons r3 r4 =>
    cases r4 with
    | cons => cases h
    | nil =>
      rename_i y w F3
      simp only at h
      split at h <;> cases h
      rename_i hlt
      obtain ⟨m1, m2⟩ := n1 rfl
      rw [List.append_nil] at m1 m2 q
      obtain ⟨k1, k2⟩ := List.nodup_cons.mp n0
      have na : a ∉ F2 ++ F3 := fun z => by
        rcases List.mem_append.mp z with z | z
        · exact k1 z
        · exact m2 a z (by simp)
      have rr : Reps C R H (ds0 ++ [y]) (vs ++ [w]) (F2 ++ F3) := by
        have := r2.app (.cons r3 .nil)
        simpa using this
      obtain ⟨w1, w2, w3⟩ := lst_write hs na rr (by rw [List.length_append, List.length_singleton, ← r2.length]; omega)
      refine ⟨a, vs, w, rfl, rfl, hs, by rw [← r2.length]; exact hlt, q _ _ [] (a :: (F2 ++ F3)) (fun b u hb => (w2 b u hb).imp id fun e => by simp [e]) w3 w1 (List.nodup_cons.mpr ⟨na, List.nodup_append.mpr ⟨k2, m1, fun b hb c hc e => ?_⟩⟩) (fun b hb => ?_) .non List.nodup_nil (by intro _ z; cases z)⟩
      · subst e; exact m2 b hc (by simp [hb])
      · rcases List.mem_cons.mp hb with rfl | hb
        · exact .inl (by simp)
        · rcases List.mem_append.mp hb with z | z
          · exact .inl (by simp [z])
          · exact .inr (.inl ⟨rfl, z⟩)
theorem opu_ext : OpU C rExtend false dExt := by
  intro R H d0 res o x F0 ds xs F1 Q r0 r1 n0 n1 h q
  unfold dExt at h
  split at h
  case h_2 => cases h
  rename_i ds0 es
  split at h <;> cases h
  rename_i hc
  simp only [Bool.and_eq_true, decide_eq_true_eq] at hc
  obtain ⟨a, vs, F2, rfl, hs, hl, r2, rfl⟩ := rep_lst r0
  obtain ⟨y, ys, F3, F4, rfl, r3, r4, rfl⟩ := r1.cons_inv
  cases r4
  obtain ⟨b, zs, G, rfl, hb, hlb, rb, _⟩ := rep_lst r3
  have e := rb.pure hc.1
  subst e
  obtain ⟨k1, k2⟩ := List.nodup_cons.mp n0
  have rr : Reps C R H (ds0 ++ es) (vs ++ zs) F2 := by
    have := r2.app rb
    simpa using this
  have l1 := r2.length
  have l2 := rb.length
  obtain ⟨w1, w2, w3⟩ := lst_write hs k1 rr (by rw [List.length_append]; omega)
  exact ⟨a, b, vs, zs, rfl, rfl, hs, hb, by omega, q _ _ [] (a :: F2) (fun b u hb => (w2 b u hb).imp id fun e => by simp [e]) w3 w1 n0 (fun b hb => .inl hb) .non List.nodup_nil (by intro _ z; cases z)⟩
end
end EL

namespace EL
open PySem PySem.Spec PyProof.Rows
open L2 hiding XE
section
variable {X : Cx} {S : Sig} {C : Core} {B : Base} {W : WX} {R : Addr → Prop} {σ : L2.St} {ρ ρ1 ρ' : Env} {Fs Fs1 Fs' : Nat → List Addr} {H H1 H' : Hp} {F G : List Addr} {m m1 m2 m3 rm : Md} {e1 e2 e3 : Bool} {pos : Pos} {d : D} {v : V}
/-! ### dict displays -/
def flatV : List (V × V) → List V
  | [] => []
  | p :: r => p.1 :: p.2 :: flatV r
/-- keys and values by turns -/
def pairD : List D → Option (List (Key × D))
  | [] => some []
  | k :: y :: r => (keyD k).bind fun q => (pairD r).map fun kvs => (q, y) :: kvs
  | _ => none
theorem pair_of : ∀ {kvs : List (Key × D)} {ds : List D} {ps : List (V × V)} {F : List Addr}, pairD ds = some kvs → Reps C R H ds (flatV ps) F → ∃ ws : List (Key × V), ps = ws.map (fun kv => (kV kv.1, kv.2)) ∧ ws.map (·.1) = kvs.map (·.1) ∧ Reps C R H (kvs.map (·.2)) (ws.map (·.2)) F
  | kvs, [], ps, F, h, r => by
    cases h
    cases ps with
    | nil => cases r; exact ⟨[], rfl, rfl, .nil⟩
    | cons p ps => cases r
  | kvs, [_], ps, F, h, r => by cases h
  | kvs, k :: y :: ds, ps, F, h, r => by
    cases ps with
    | nil => cases r
    | cons p ps =>
      obtain ⟨x1, y1, F1, F2, e1, r1, r2, rfl⟩ := r.cons_inv
      obtain ⟨x2, y2, F3, F4, e2, r3, r4, rfl⟩ := r2.cons_inv
      simp only [flatV, List.cons.injEq] at e1
      obtain ⟨rfl, rfl⟩ := e1
      cases e2
      simp only [pairD] at h
      cases hk : keyD k with
      | none => rw [hk] at h; cases h
      | some q =>
        rw [hk] at h
        simp only [Option.bind_some, Option.map_eq_some_iff] at h
        obtain ⟨kvs', h', rfl⟩ := h
        obtain ⟨ws, rfl, w2, w3⟩ := pair_of h' r4
        have f1 : F1 = [] := r1.pure (by cases k <;> first | rfl | cases hk)
        have kv := key_v r1 hk
        refine ⟨(q, p.2) :: ws, by simp only [List.map_cons]; rw [← kv], by simp [w2], ?_⟩
        subst f1
        simpa using Reps.cons r3 w3
theorem merge_new : ∀ {ws acc : List (Key × V)}, ((acc ++ ws).map (·.1)).Nodup → mergeK acc ws = acc ++ ws
  | [], acc, _ => by simp [mergeK]
  | p :: ws, acc, h => by
    have h1 : putK acc p.1 p.2 = acc ++ [p] := by
      unfold putK
      rw [if_neg]
      intro z
      obtain ⟨q, hq, e⟩ := List.any_eq_true.mp z
      have e : q.1 = p.1 := by simpa using e
      rw [List.map_append, List.nodup_append] at h
      exact h.2.2 q.1 (List.mem_map_of_mem hq) p.1 (by simp) e
    show mergeK (putK acc p.1 p.2) ws = _
    rw [h1, merge_new (by simpa using h)]
    simp
def RPr (S : Sig) (W : WX) (m : Md) (eff : Bool) (ev : M (List D)) (trs : List (TE × TE)) : Prop :=
  ∀ (B : Base) (ρ : Env) (σ : L2.St) (Fs : Nat → List Addr) (H : Hp) (Q : List (V × V) → Hp → Prop), EnvR S B ρ σ Fs H →
    Wn (ErW S B W) (fun ds ρ' => ∀ ps H' Fs' F, PostA S B m eff σ ρ Fs H ρ' ds (flatV ps) H' Fs' F → Q ps H') (ev ρ) → tPairs trs σ H Q
structure XPr (X : Cx) (S : Sig) (W : WX) (pos : Pos) (ks : List (Option Expr)) (vs : List Expr) (m : Md) (eff : Bool) (ev : M (List D)) : Prop where
  ex : ∃ trs, PPs X pos ks vs trs ∧ RPr S W m eff ev trs
theorem xp_nil : XPr X S W pos [] [] .pu false eaNil := ⟨_, pps_nil, fun B ρ σ Fs H Q I h => h [] H Fs [] ⟨I, .nil, Step.refl, rfl⟩⟩
theorem Md.pu_join (m : Md) : Md.join .pu m = m := by cases m <;> rfl
theorem xp_cons {k y : Expr} {ks : List (Option Expr)} {ys : List Expr} {ek ey : M D} {eb : M (List D)} (hk : XE X S W k .pu false ek) (hy : XE X S W y m1 e1 ey) (hb : XPr X S W pos ks ys m2 e2 eb) (z : (!e2 || m1.sep) = true := by rfl) :
    XPr X S W pos (some k :: ks) (y :: ys) (m1.join m2) (e1 || e2) (eaCons ek (eaCons ey eb)) := by
  obtain ⟨tk, pk, rk⟩ := hk.ex
  obtain ⟨ty, py, ry⟩ := hy.ex
  obtain ⟨tb, pb, rb⟩ := hb.ex
  refine ⟨_, pps_cons pk py pb, fun B ρ σ Fs H Q I h => rk B ρ σ Fs H _ I (h.bind.imp fun dk ρ1 _ h1 v1 H1 Fs1 F1 p1 => ry B ρ1 σ Fs1 H1 _ p1.env (h1.bind.bind.imp fun dy ρ2 _ h2 v2 H2 Fs2 F2 p2 => rb B ρ2 σ Fs2 H2 _ p2.env (h2.bind.imp fun ds ρ3 _ h3 ps H3 Fs3 F3 p3 => ?_)))⟩
  have q12 : PostA S B (m1.join m2) (e1 || e2) σ ρ1 Fs1 H1 ρ3 (dy :: ds) (v2 :: flatV ps) H3 Fs3 (F2 ++ F3) := ⟨p3.env, .cons (p2.over p3.step z) p3.rep, p2.step.trans p3.step, MdOk.join p2.env p2.step p3.step p2.md p3.md p2.rep.some z⟩
  have zz : (!(e1 || e2) || Md.pu.sep) = true := by simp [Md.sep]
  have st := p1.step.trans q12.step
  have mj := MdOk.join p1.env p1.step q12.step p1.md q12.md p1.rep.some zz
  rw [Md.pu_join] at mj
  exact h3 ((v1, v2) :: ps) H3 Fs3 (F1 ++ (F2 ++ F3)) ⟨q12.env, .cons (p1.over q12.step zz) q12.rep, by simpa using st, mj⟩
def eDisp (a : M (List D)) : M D := fun ρ => bindR (a ρ) fun ds ρ => match pairD ds with | some kvs => if (kvs.map (·.1)).Nodup ∧ kvs.length ≤ 15 then .ok (.dic kvs) ρ else .st | none => .st
theorem xe_disp {ks : List (Option Expr)} {ys : List Expr} {ea : M (List D)} (h : XPr X S W pos ks ys m1 e1 ea) (h1 : ks.all (·.isSome) = true := by rfl) (h2 : ks.length = ys.length := by rfl) (h3 : ks ≠ [] := by intro z; cases z) (h4 : ks.length ≤ 15 := by decide) (z : m1.le .fr = true := by rfl) :
    XE X S W (.Dict ks ys pos) .fr e1 (eDisp ea) := by
  obtain ⟨trs, pp, rp⟩ := h.ex
  refine ⟨_, pe_disp pp h1 h2 h3 h4, fun B ρ σ Fs H Q I h p hp => ?_⟩
  have sm : Same H (upd H p (.dK [])) := same_upd hp
  refine rp B ρ σ Fs _ _ (I.same sm) (h.bind.imp fun ds ρ1 _ g1 ps H1 Fs1 F q => ?_)
  split at g1
  case h_2 => exact g1.elim
  rename_i kvs hkv
  split at g1
  case isFalse => exact g1.elim
  rename_i hc
  obtain ⟨ws, rfl, w2, w3⟩ := pair_of hkv q.rep
  have np : ∀ {i}, Own S ρ i → p ∉ Fs i := fun {i} oi z => by
    obtain ⟨u, hu, _⟩ := I.mem oi z
    rw [hp] at hu; cases hu
  have h0 : H1 p = some (.dK []) := by
    rcases q.step.chg p _ upd_same with z | ⟨i, oi, z⟩
    · exact z
    · exact absurd z (np oi)
  have wl : ws.length = kvs.length := by simpa using congrArg List.length w2
  have nd : ((([] : List (Key × V)) ++ ws).map (·.1)).Nodup := by rw [List.nil_append, w2]; exact hc.1
  have np1 : ∀ {i}, Own S ρ1 i → p ∉ Fs1 i := fun {i} oi z => by
    rcases q.step.grow i p oi z with n | ⟨j, oj, z⟩
    · rw [upd_same] at n; cases n
    · exact np oj z
  have fr : MdOk S B .fr ρ Fs (upd H p (.dK [])) ρ1 Fs1 F := q.md.le z
  have npF : p ∉ F := fun z => by
    rcases fr.2.1 p z with n | ⟨j, oj, z⟩
    · rw [upd_same] at n; cases n
    · exact np oj z
  have st : Step S e1 ρ Fs H ρ1 Fs1 H1 := by simpa using (Step.of_same (e := false) sm).trans q.step
  have hB : B.H0 p = none := by
    cases k : B.H0 p with
    | none => rfl
    | some o => obtain ⟨u, z⟩ := I.tr p o k; rw [hp] at z; cases z
  refine ⟨h0, ws, rfl, by rw [wl]; exact hc.2, ?_⟩
  rw [merge_new nd, List.nil_append]
  refine g1 _ _ Fs1 (p :: F) ⟨q.env.upd h0 hB (fun j oj => np1 oj), .dic upd_same (by have := hc.2; rw [wl, sizeLine_eq]; omega) w2 (w3.keep fun b u hb z => ?_), st.upd hp, List.nodup_cons.mpr ⟨npF, fr.1⟩, fun a ha => ?_, fun i oi a ha => ?_⟩
  · have e : b ≠ p := fun e => by
      subst e
      rw [h0] at hb; cases hb
      rcases z with z | z
      · exact z trivial
      · exact npF z
    rw [upd_ne e]; exact hb
  · rcases List.mem_cons.mp ha with rfl | ha
    · exact .inl hp
    · exact (fr.2.1 a ha).imp (fun n => sm.free n) id
  · rcases List.mem_cons.mp ha with rfl | ha
    · exact np1 oi
    · exact fr.2.2 i oi a ha
end
end EL

namespace EL
open PySem PySem.Spec PyProof.Rows
open L2 hiding XE
section
variable {X : Cx} {S : Sig} {C : Core} {B : Base} {W : WX} {R : Addr → Prop} {σ : L2.St} {ρ ρ1 ρ' : Env} {Fs Fs1 Fs' : Nat → List Addr} {H H1 H' : Hp} {F G : List Addr} {m m1 m2 m3 rm : Md} {e1 e2 e3 : Bool} {pos : Pos} {d : D} {v : V}
/-! ### d.get(k, x) -/
def eGet2 (a k y : M D) : M D := fun ρ => bindR (a ρ) fun d ρ => match d with
  | .dic kvs => bindR (k ρ) fun k ρ => bindR (y ρ) fun y ρ => (match keyD k with | some q => .ok ((valD kvs q).getD y) ρ | none => .st)
  | _ => .st
theorem xe_get2 {o i e : Expr} {apos : Pos} {ea ek ey : M D} (hu : X.A.units + 1 < cLine) (ha : XE X S W o m1 e1 ea) (hk : XE X S W i m2 e2 ek) (hy : XE X S W e m3 e3 ey) (h2 : e2 = false := by rfl) (h3 : e3 = false := by rfl) (mm : M2 X o "get" apos i e pos := by exact ⟨rfl, rfl, rfl, rfl⟩) :
    XE X S W (.Call (.Attribute o "get" apos) [i, e] [] pos) .bo e1 (eGet2 ea ek ey) := by
  subst h2; subst h3
  obtain ⟨ta, pa, ra⟩ := ha.ex
  obtain ⟨tk, pk, rk⟩ := hk.ex
  obtain ⟨ty, py, ry⟩ := hy.ex
  refine ⟨_, pe_dget2 hu pa pk py mm, fun B ρ σ Fs H Q I h => ra B ρ σ Fs H _ I (h.bind.imp fun d ρ1 _ h1 x H1 Fs1 F1 p1 => ?_)⟩
  split at h1
  case h_2 => exact h1.elim
  rename_i kvs _
  obtain ⟨a, ws, G, rfl, ha, hl, ee, rr, _⟩ := p1.rep.dic_inv
  refine ⟨a, rfl, .inl ⟨ws, .inl ha⟩, rk B ρ1 σ Fs1 H1 _ p1.env (h1.bind.imp fun k ρ2 _ h2 y H2 Fs2 F2 p2 => ry B ρ2 σ Fs2 H2 _ p2.env (h2.bind.imp fun z ρ3 _ h3 w H3 Fs3 F3 p3 => ?_))⟩
  split at h3
  case h_2 => exact h3.elim
  rename_i q hq
  have s2 := (p2.step.noeff rfl).2.2
  have s3 := (p3.step.noeff rfl).2.2
  have hd : H3 a = some (.dK ws) := s3 _ _ (s2 _ _ ha)
  have st : Step S e1 ρ Fs H ρ3 Fs3 H3 := by have := (p1.step.trans p2.step).trans p3.step; simpa using this
  have rk' := p2.rep.same s3
  have vo := val_of (k := q) ee ((rr.same s2).same s3)
  refine ⟨valV ws q, by rw [key_v rk' hq]; exact DGet.k hd, ?_⟩
  cases hv : valD kvs q with
  | none =>
    rw [hv] at h3
    rw [vo.1 hv]
    exact h3 w H3 Fs3 F3 ⟨p3.env, p3.rep, st, trivial⟩
  | some dv =>
    rw [hv] at h3
    obtain ⟨v, A, G, Bb, g1, g2, _⟩ := vo.2 dv hv
    rw [g1]
    exact h3 v H3 Fs3 G ⟨p3.env, g2, st, trivial⟩
/-! ### a, b = x, y -/
def sPar (i j : Nat) (a b : M D) : Ms := fun ρ => bindS (a ρ) fun x ρ => bindS (b ρ) fun y ρ => .nx ((ρ.set i (some x)).set j (some y))
theorem putMd_pu {i : Nat} (z : putMd S i m = true) : S.kd i = .pl ∨ S.kd i = .own := by
  unfold putMd at z
  cases hk : S.kd i <;> rw [hk] at z <;> first | exact .inl rfl | exact .inr rfl | cases z
/-- what put_ok asks of a value -/
def PutF (S : Sig) (B : Base) (i : Nat) (ρ : Env) (Fs : Nat → List Addr) (F : List Addr) : Prop := (S.kd i = .pl ∧ F = []) ∨ (S.kd i = .own ∧ F.Nodup ∧ (∀ a ∈ F, ¬ B.P0 a) ∧ ∀ j, Own S ρ j → ∀ a ∈ F, a ∉ Fs j)
theorem putF_of {i : Nat} (q : Post S B m e1 σ ρ Fs H ρ1 d v H1 Fs1 F) (I : EnvR S B ρ σ Fs H) (z : putMd S i m = true) : PutF S B i ρ1 Fs1 F := by
  unfold putMd at z
  cases hk : S.kd i with
  | pl => rw [hk] at z; cases m <;> first | exact .inl ⟨hk, q.md⟩ | cases z
  | par => rw [hk] at z; cases z
  | io => rw [hk] at z; cases z
  | bw => rw [hk] at z; cases z
  | own =>
    rw [hk] at z
    have h := RetOk.of (rm := .fr) q I z rfl
    exact .inr ⟨hk, h.1, h.2.1, h.2.2⟩
theorem PutF.put {i : Nat} (h : PutF S B i ρ Fs F) (I : EnvR S B ρ σ Fs H) (r : Rep S.c B.R H d v F) : EnvR S B (ρ.set i (some d)) (σ.set i (some v)) (fun j => if j = i then F else Fs j) H :=
  I.put r (h.elim .inl fun h => .inr (.inr ⟨h.1, h.2.1, h.2.2.1, fun j oj _ a ha => h.2.2.2 j oj a ha⟩))
theorem PutF.next {i j : Nat} (h : PutF S B i ρ Fs F) (g : PutF S B j ρ Fs G) (fg : ∀ a ∈ F, a ∉ G) (hij : i ≠ j) : PutF S B j (ρ.set i (some d)) (fun k => if k = i then F else Fs k) G := by
  rcases g with g | ⟨g1, g2, g3, g4⟩
  · exact .inl g
  · refine .inr ⟨g1, g2, g3, fun k ok a ha => ?_⟩
    by_cases hk : k = i
    · simp only [if_pos hk]
      exact fun z => fg a z ha
    · simp only [if_neg hk]
      obtain ⟨d', q⟩ := ok.2
      rw [List.getElem?_set_ne (Ne.symm hk)] at q
      exact g4 k ⟨ok.1, d', q⟩ a ha
theorem xs_par (i j : Nat) {x y : Str} {a b : Expr} {px py pt : Pos} {kt k2 : Nat} {pt2 : Pos} {ea eb : M D} (hc : X.calm = true) (hN : X.N.Nodup) (ha : XE X S W a m1 e1 ea) (hb : XE X S W b m2 e2 eb) (z : (!e2 || m1.sep) = true := by rfl) (z1 : putMd S i m1 = true := by rfl) (z2 : putMd S j m2 = true := by rfl) (hi : X.N[i]? = some x := by rfl) (hj : X.N[j]? = some y := by rfl) (hij : i ≠ j := by decide)
    (hx : X.env.scope.names.lookup x = some .local := by rfl) (hy : X.env.scope.names.lookup y = some .local := by rfl) (hs1 : starEach [a, b] X.env = (false, eval a X.env) :: starEach [b] X.env := by rfl) (hs2 : starEach [b] X.env = (false, eval b X.env) :: starEach [] X.env := by rfl)
    (hw : swappedStores [.Tuple [.Name x px, .Name y py] kt pt] (.Tuple [a, b] k2 pt2) X.env = Pure.pure (some [x, y]) := by rfl)
    (hs : swapsWithSole [.Tuple [.Name x px, .Name y py] kt pt] (.Tuple [a, b] k2 pt2) pos.line X.env = Pure.pure false := by rfl) : XS X S W rm (.Assign [.Tuple [.Name x px, .Name y py] kt pt] (.Tuple [a, b] k2 pt2) pos) (sPar i j ea eb) := by
  obtain ⟨ta, pa, ra⟩ := ha.ex
  obtain ⟨tb, pb, rb⟩ := hb.ex
  refine ⟨_, ps_par hc hN hi hj hij hx hy (pa_cons pa (pa_cons pb pa_nil hs2) hs1) hw hs, fun B ρ σ Fs H E I h => ra B ρ σ Fs H _ I (h.bind.imp fun d1 ρ1 _ h1 v1 H1 Fs1 F1 p1 => rb B ρ1 σ Fs1 H1 _ p1.env (h1.bind.imp fun d2 ρ2 _ h2 v2 H2 Fs2 F2 p2 => ?_))⟩
  have r1 := p1.over p2.step z
  have q1 : PutF S B i ρ2 Fs2 F1 := by
    rcases putMd_pu z1 with k | k
    · refine .inl ⟨k, ?_⟩
      have := putF_of p1 I z1
      rcases this with q | q
      · exact q.2
      · rw [k] at q; cases q.1
    · rcases putF_of p1 I z1 with q | ⟨_, n1, n2, n3⟩
      · rw [k] at q; cases q.1
      · refine .inr ⟨k, n1, n2, fun l ol a ha m => ?_⟩
        obtain ⟨u, hu⟩ := p1.rep.some a ha
        rcases p2.step.grow l a ol m with n | ⟨l', ol', m'⟩
        · rw [hu] at n; cases n
        · exact n3 l' ol' a ha m'
  have q2 := putF_of p2 p1.env z2
  have fg : ∀ a ∈ F1, a ∉ F2 := fun a h1' h2' => by
    rcases q2 with q | ⟨k, _⟩
    · rw [q.2] at h2'; cases h2'
    · unfold putMd at z2
      rw [k] at z2
      have f2 := (p2.md.le z2).2.1 a h2'
      rcases q1 with q | ⟨k1, _⟩
      · rw [q.2] at h1'; cases h1'
      · unfold putMd at z1
        rw [k1] at z1
        obtain ⟨u, hu⟩ := p1.rep.some a h1'
        rcases f2 with n | ⟨l, ol, ml⟩
        · rw [hu] at n; cases n
        · exact (p1.md.le z1).2.2 l ol a h1' ml
  exact ⟨v1, v2, rfl, h2 _ _ H2 ((q1.next q2 fg hij).put (q1.put p2.env r1) p2.rep)⟩
/-! ### a, b, .. = a tuple or a list of plain things -/
def sUnp (b : List D → Env → Option Env) (a : M D) : Ms := fun ρ => bindS (a ρ) fun d ρ => match (match d with | .tup ds => some ds | .lst ds => some ds | _ => none) with
  | some ds => if pureDs ds then (match b ds ρ with | some ρ' => .nx ρ' | none => .st) else .st
  | none => .st
theorem PG.or {tg : Expr} {g1 g2 : TG} (h1 : PG X tg g1) (h2 : PG X tg g2) : PG X tg (fun v σ H Q => g1 v σ H Q ∨ g2 v σ H Q) := ⟨fun pins s σ H v u Q I r h => h.elim (h1.run pins s σ H v u Q I r) (h2.run pins s σ H v u Q I r)⟩
theorem xs_unp {es : List Expr} {k n : Nat} {p : Pos} {ts : List Nat} {e : Expr} {ea : M D} {b : List D → Env → Option Env} (hk : X.K = S.c.K) (hc : X.calm = true) (ha : XE X S W e m e1 ea) (hb : XGs X S true es ts b) (hl : ∀ ds ρ ρ', b ds ρ = some ρ' → ds.length = n) (hn : (assignEach es X.env).length = n := by rfl) (hst : (assignEach es X.env).findIdx? (·.1) = none := by rfl)
    (h1 : swapsWithSole [.Tuple es k p] e pos.line X.env = Pure.pure false := by rfl) (h2 : swappedStores [.Tuple es k p] e X.env = Pure.pure none := by rfl)
    (h3 : (assignEach [.Tuple es k p] X.env).map (·.2) = [assign (.Tuple es k p) X.env] := by rfl) : XS X S W rm (.Assign [.Tuple es k p] e pos) (sUnp b ea) := by
  obtain ⟨ta, pa, ra⟩ := ha.ex
  obtain ⟨gs, pgs, rgs⟩ := hb.ex
  refine ⟨_, ps_asg pa (PG.or (pg_tup hc pgs hn hst) (pg_unl hc pgs hn hst)) h1 h2 h3, fun B ρ σ Fs H E I h => ra B ρ σ Fs H _ I (h.bind.imp fun d ρ1 _ g1 v H1 Fs1 F q => ?_)⟩
  split at g1
  case h_2 => exact g1.elim
  rename_i ds hds
  split at g1
  case isFalse => exact g1.elim
  rename_i hp
  split at g1
  case h_2 => exact g1.elim
  rename_i ρ2 hb'
  have len := hl _ _ _ hb'
  rw [hk]
  split at hds <;> cases hds
  · obtain ⟨a, vs, rfl, hs, hl', rr⟩ := q.rep.tup_inv
    have e := rr.pure hp
    subst e
    exact .inl ⟨a, vs, rfl, hs, by rw [← rr.length]; exact len, rgs B ρ1 ρ2 σ Fs1 H1 ds vs [] _ q.env rr (fun _ => rfl) (by intro a z; cases z) hb' fun σ' Fs' J _ => g1 σ' Fs' H1 J⟩
  · obtain ⟨a, vs, G, rfl, hs, hl', rr, _⟩ := rep_lst q.rep
    have e := rr.pure hp
    subst e
    exact .inr ⟨a, vs, rfl, SqL.of hs, by rw [← rr.length]; exact len, rgs B ρ1 ρ2 σ Fs1 H1 ds vs [] _ q.env rr (fun _ => rfl) (by intro a z; cases z) hb' fun σ' Fs' J _ => g1 σ' Fs' H1 J⟩
end
end EL

/-! enumerate of a tuple -/
namespace EL
open PySem PySem.Spec PyProof.Rows
open L2 hiding XE
section
set_option maxHeartbeats 1000000 in
theorem enumNew1 {v : Value} {o : Obj} {Hh : Heap → Prop} (B : Begins v o Hh) :
    Meets (Builtin.«enumerate.__new__» ⟨[.type "enumerate", v], []⟩) (fun _ Rr st => Hh st.heap ∧
      Rr (.ok (.ret (.ref (st.heap.push o).objs.size))) { st with heap := (st.heap.push o).push { cls := .type "enumerate", data := .fields #[.none, .bool false, .ref st.heap.objs.size, rawInt 0, .none, .none] } }) :=
  .of_wp fun pg wd Ar Rr st hh => by
    obtain ⟨hp, g, dd, tk, os⟩ := st
    obtain ⟨hb, hh⟩ := hh
    have hsub := sub_enumerate
    have it1 : ∀ {A2 : Around} {E2 : Value → Shared → Prop} {Q2 : Value → Shared → Prop}, Q2 (.ref hp.objs.size) ⟨hp.push o, g, dd, tk, os⟩ → wpAny (model pg wd) A2 (pyIter v) Q2 E2 ⟨hp, g, dd, tk, os⟩ :=
      fun k => B.iter pg wd _ _ ⟨hp, g, dd, tk, os⟩ _ hb k
    wp_walk using it1
    refine wpAny_stack_any fun sk => wpAny_pure ?_
    split
    · rename_i c _ _ _ _ _
      cases (c == Value.type "enumerate")
      · wp_walk using it1
        exact ⟨_, rfl, hh⟩
      · wp_walk using it1
        exact ⟨_, rfl, hh⟩
    · wp_walk using it1
      exact ⟨_, rfl, hh⟩
theorem enumCall1 {pg : Program} {wd : World} {Ar : Around} {E : Value → Shared → Prop} {st : Shared} {v : Value} {o : Obj} {Hh : Heap → Prop} {Q : Value → Shared → Prop} (B : Begins v o Hh) (hb : Hh st.heap)
    (k : ∀ h2, IsEnum h2 (st.heap.objs.size + 1) st.heap.objs.size 0 .none → h2.get? st.heap.objs.size = some o → (∀ b u, st.heap.get? b = some u → h2.get? b = some u) → Q (.ref (st.heap.objs.size + 1)) { st with heap := h2 }) :
    wpAny (model pg wd) Ar (call (.type "enumerate") [v]) Q E st := by
  refine callType_new F.called_enumerate (by decide) (F.typeCall_enumerate_1 _) (F.newCall_enumerate_1 _) (fun ob => F.args_object_init_2 ob _) F.entry_enumerate_new (enumNew1 B) ⟨hb, ?_⟩
  have z1 : (st.heap.push o).objs.size = st.heap.objs.size + 1 := Heap.size_push ..
  show _ ∧ _
  rw [z1]
  have e1 : IsEnum ((st.heap.push o).push { cls := .type "enumerate", data := .fields #[.none, .bool false, .ref st.heap.objs.size, rawInt 0, .none, .none] }) (st.heap.objs.size + 1) st.heap.objs.size 0 .none := by
    have q := Heap.get?_push_size (st.heap.push o) (o := { cls := .type "enumerate", data := .fields #[.none, .bool false, .ref st.heap.objs.size, rawInt 0, .none, .none] }) rfl
    rw [z1] at q; exact q
  exact ⟨⟨_, e1, rfl⟩, k _ e1 (Heap.get?_push_of_some _ (Heap.get?_push_size _ B.free)) fun b u q => Heap.get?_push_of_some _ (Heap.get?_push_of_some _ q)⟩
end
/-- the tuple at a, each item in a new pair -/
def IteT (K : PySem.W.Frag) (a : Addr) : It :=
  ⟨fun i H => ∃ (vs : List V) (y : V), SqT K H a vs ∧ vs[i]? = some y, fun i H v H' => ∃ T y, v = .ref T ∧ H T = none ∧ H' = upd H T (.tup [.int (i : Nat), y]) ∧ ∀ vs, SqT K H a vs → vs[i]? = some y, fun i H => ∃ vs : List V, SqT K H a vs ∧ vs.length ≤ i⟩
theorem turn_enumT {P : Program} {w : World} {K : PySem.W.Frag} {elts : List Expr} {kk : Nat} {tpos : Pos} (a e it : Addr) :
    Turn P w K (.Tuple elts kk tpos) (IteT K a) [e, it] e (fun i h => (∃ u, IsEnum h e it ((i : Nat) : Int) u) ∧ h.IsTupleIter it a i ∧ e ≠ it ∧ a ≠ it ∧ e ≠ a) where
  mem := by simp
  obj := fun i h st b hb => by
    obtain ⟨⟨u, he⟩, ⟨o, ho, hc, hd⟩, _⟩ := st
    have q : b = e ∨ b = it := by simpa using hb
    rcases q with q | q
    · subst q; exact ⟨_, he, fun v r => nomatch r⟩
    · subst q; exact ⟨o, ho, fun v r => by rw [hd] at r; cases r⟩
  keep := fun i h h' st k => ⟨let ⟨u, he⟩ := st.1; ⟨u, k e (by simp) _ he⟩, st.2.1.at fun o q => k it (by simp) o q, st.2.2⟩
  item := by
    intro X hP hw hK hc i pins s σ H E I hf st hg
    subst hP hw hK
    obtain ⟨⟨u0, he⟩, hit, ne1, ne2, ne3⟩ := st
    obtain ⟨vs, y, hq, hy⟩ := hg
    obtain ⟨its, rv, pt, _⟩ := I.tuple hq
    obtain ⟨u, hu, ru⟩ := rv.get hy
    have lt1 : e < s.heap.objs.size := Heap.lt_size he
    have lt2 : it < s.heap.objs.size := by obtain ⟨_, q, _⟩ := hit; exact Heap.lt_size q
    have hl : i < its.toArray.size := by simpa using (List.getElem?_eq_some_iff.mp hu).1
    refine wpAny_pyNext_enum_itemD (Draws.tuple (show X.A.in1.handled = none from I.ok.hd hc) it a ne2 its.toArray) he ⟨hit, show s.heap.IsTuple a its.toArray from pt⟩ hl ne1 (by simp [ne1, ne3]) fun x2 h2 tk hx2 ho hst hT hsz hk => ?_
    have ex : x2 = u := by
      have q1 : its[i]? = some x2 := by simpa using hx2
      rw [hu] at q1; cases q1; rfl
    subst ex
    refine ⟨_, rfl, wpAny_letOwnedTupleGo_enum (s := { s with heap := h2, toks := tk + 1 }) ho fun h3 he3 sb => ?_⟩
    have hT3 : h3.get? s.heap.objs.size = some { cls := .type "tuple", data := .seq #[.int i tk, x2] } := (sb.2 _ (Nat.ne_of_gt lt1)).trans hT
    have nw : ObjOk X.prog X.w (upd H s.heap.objs.size (.tup [.int (i : Nat), y])) h3 s.heap.objs.size (.tup [.int (i : Nat), y]) :=
      ⟨by show 2 ≤ sizeLine; decide, [.int i tk, x2], .cons ⟨_, rfl⟩ (.cons ru .nil), ⟨_, hT3, rfl, _, rfl⟩⟩
    have I2 : Inv X pins σ (upd H s.heap.objs.size (.tup [.int (i : Nat), y])) { s with heap := h3, toks := tk + 1 } :=
      I.turnedNew (ch := [e, it]) (fun b ob hb q => (sb.2 b (fun z => hb (by simp [z]))).trans (hk b ob (fun z => hb (by simp [z])) (fun z => hb (by simp [z])) q)) hf (Nat.le_refl _) nw
    refine ⟨.ref s.heap.objs.size, _, I2, rfl, ⟨_, y, rfl, I.hok.fresh (Nat.le_refl _), rfl, fun zs hz => by rw [I.tuple_inj hz hq]; exact hy⟩, ⟨⟨x2, ?_⟩, hst.1.at fun o q => (sb.2 it (Ne.symm ne1)).trans q, ne1, ne2, ne3⟩, fun b hb => ?_⟩
    · have q1 : ((i + 1 : Nat) : Int) = (i : Int) + 1 := by omega
      rw [q1]; exact he3
    · have lb : b < s.heap.objs.size := by
        have q : b = e ∨ b = it := by simpa using hb
        rcases q with q | q
        · rw [q]; exact lt1
        · rw [q]; exact lt2
      rw [upd_ne (Nat.ne_of_lt lb)]
      exact (hf b hb).1
  done := by
    intro X hP hw hK hc i pins s σ H E I hf st hg
    subst hP hw hK
    obtain ⟨⟨u0, he⟩, hit, ne1, ne2, ne3⟩ := st
    obtain ⟨vs, hq, hy⟩ := hg
    obtain ⟨its, rv, pt, _⟩ := I.tuple hq
    obtain ⟨f0, f1, f2, f3, f4, f5⟩ := hf it (by simp)
    have hl := rv.length
    have DD : Draws X.prog X.w X.A.in1 it [it, a] i (fun _ _ => True) (fun j h => j = i ∧ h.IsTupleIter it a i ∧ h.IsTuple a its.toArray) :=
      { live := fun _ _ q => let ⟨o, ho, _⟩ := q.2.1; ⟨o, ho⟩
        frame := fun _ _ _ q k => ⟨q.1, q.2.1.at fun o r => k it (by simp) o r, q.2.2.at fun o r => k a (by simp) o r⟩
        item := fun j s2 Q2 E2 lt q k => absurd q.1 (Nat.ne_of_lt lt)
        done := fun s2 Q2 E2 q k => wpAny_nextOf_tuple_end (show X.A.in1.handled = none from I.ok.hd hc) q.2.1 q.2.2 (by simp; omega) k }
    exact wpAny_pyNext_enum_endD DD he ⟨rfl, hit, show s.heap.IsTuple a its.toArray from pt⟩ fun h2 eb => ⟨rfl, I.turned (t' := s.toks) (fun b o hb q => eb b o hb q) f0 f1 f3 f4 f5⟩
  self := fun A i s Q E st h => let ⟨⟨_, he⟩, _⟩ := st; wpAny_pyIter_enum he h
section
variable {X : Cx} {S : Sig} {W : WX} {m m1 : Md} {e1 : Bool} {pos : Pos}
def iEnumA (K : PySem.W.Frag) (ta : TA) : TI := fun σ H R => ta σ H fun vs H1 => ∃ a, vs = [.ref a] ∧ ((∃ xs, SqL K H1 a xs ∧ R (Ite K a) H1) ∨ ∃ xs, SqT K H1 a xs ∧ R (IteT K a) H1)
theorem pi_enumA {e : Expr} {ta : TA} {p tpos : Pos} {elts : List Expr} {kk : Nat} (hg : Gl X "enumerate") (hm : X.mg "enumerate" = none) (ha : PA X [e] ta) (hs : starEach [e] X.env = [(false, eval e X.env)] := by rfl) :
    PI X (.Tuple elts kk tpos) (.Call (.Name "enumerate" p) [e] [] pos) (iEnumA X.K ta) := by
  refine ⟨fun pins s σ H R I h => ?_⟩
  refine Call_ (ld_blt I hg hm boot_enumerate (PyProof.Rows.callWith_type1 (thn (ha.run pos pins s σ H _ I h) fun us s1 ⟨vs, H1, I1, r1, a, ex, q⟩ => ?_) hs rfl))
  subst ex
  obtain rfl := Vals.ref1 r1
  have fp : ∀ b ∈ [s1.heap.objs.size + 1, s1.heap.objs.size], FpOk X pins H1 b := fun b hb => by
    have q2 : b = s1.heap.objs.size + 1 ∨ b = s1.heap.objs.size := by simpa using hb
    have le : s1.heap.objs.size ≤ b := by
      rcases q2 with z | z
      · rw [z]; exact Nat.le_succ _
      · rw [z]; exact Nat.le_refl _
    exact I1.fpOk le (I1.hok.fresh le)
  rcases q with ⟨xs, hq, q⟩ | ⟨xs, hq, q⟩
  · obtain ⟨its, rv, pt, _⟩ := I1.list hq
    refine call_enumerate_list pt.isList fun h2 he hi hz hk => wpAny_pyIter_enum he ?_
    exact ⟨s1.heap.objs.size + 1, [s1.heap.objs.size + 1, s1.heap.objs.size], _, _, H1, rfl, I1.kept (t' := s1.toks) hk, turn_enum a (s1.heap.objs.size + 1) s1.heap.objs.size, ⟨⟨.none, he⟩, hi, Nat.succ_ne_self _⟩, fp, q⟩
  · obtain ⟨its, rv, pt, _⟩ := I1.tuple hq
    have la : a < s1.heap.objs.size := let ⟨o, ho, _⟩ := id pt; Heap.lt_size ho
    refine enumCall1 (begins_tuple a its.toArray) (show s1.heap.IsTuple a its.toArray from pt) fun h2 he hi hk => wpAny_pyIter_enum he ?_
    exact ⟨s1.heap.objs.size + 1, [s1.heap.objs.size + 1, s1.heap.objs.size], _, _, H1, rfl, I1.kept (t' := s1.toks) hk, turn_enumT a (s1.heap.objs.size + 1) s1.heap.objs.size, ⟨⟨.none, he⟩, ⟨_, hi, rfl, rfl⟩, Nat.succ_ne_self _, Nat.ne_of_lt la, Nat.ne_of_gt (Nat.lt_succ_of_lt la)⟩, fp, q⟩
/-- the items with their places -/
def enumD (ds : List D) : List D := (List.range ds.length).map fun i => .tup [.int (i : Nat), ds.getD i .non]
def itEnum (a : M D) : M (List D) := fun ρ => bindR (a ρ) fun d ρ => match (match d with | .tup ds => some ds | .lst ds => some ds | .scr ds => some ds | .ice ds => some ds | _ => none) with
  | some ds => if pureDs ds then .ok (enumD ds) ρ else .st
  | none => .st
theorem enum_get {ds : List D} {i : Nat} {d : D} (h : (enumD ds)[i]? = some d) : ∃ y, ds[i]? = some y ∧ d = .tup [.int (i : Nat), y] := by
  have hl : i < ds.length := by simpa [enumD] using (List.getElem?_eq_some_iff.mp h).1
  refine ⟨ds[i], List.getElem?_eq_getElem hl, ?_⟩
  simp only [enumD, List.getElem?_map, List.getElem?_range hl, Option.map_some, Option.some.injEq] at h
  rw [← h, List.getD_eq_getElem?_getD, List.getElem?_eq_getElem hl]; rfl
theorem pair_rep {C : Core} {R : Addr → Prop} {H : Hp} {T : Addr} {i : Nat} {y : D} {x : V} (hT : H T = none) (r : Rep C R H y x []) : Rep C R (upd H T (.tup [.int (i : Nat), x])) (.tup [.int (i : Nat), y]) (.ref T) [] :=
  .tup (SqT.of upd_same) (by show 2 ≤ sizeLine; decide) (.cons (F := []) (G := []) (.int _) (.cons (F := []) (G := []) (r.same (same_upd hT)) .nil))
theorem xi_enum {e : Expr} {ea : M D} {p tpos : Pos} {elts : List Expr} {kk : Nat} (hK : X.K = S.c.K) (hg : Gl X "enumerate") (hmg : X.mg "enumerate" = none) (ha : XE X S W e m e1 ea) (hw : m.walk = true := by rfl) (hT : m.ts.all (hasT S) = true := by rfl) (hs : starEach [e] X.env = [(false, eval e X.env)] := by rfl) (hs' : starEach [e] X.env = (false, eval e X.env) :: starEach [] X.env := by rfl) :
    XIt X S W (.Tuple elts kk tpos) (.Call (.Name "enumerate" p) [e] [] pos) m.ts true e1 (itEnum ea) := by
  obtain ⟨t, pa, r⟩ := ha.ex
  refine ⟨_, pi_enumA hg hmg (pa_cons pa pa_nil hs') hs, fun B ρ σ Fs H Q I h => ?_⟩
  have go : t σ H fun v H1 => ∃ a, [v] = [.ref a] ∧ ((∃ xs, SqL X.K H1 a xs ∧ Q (Ite X.K a) H1) ∨ ∃ xs, SqT X.K H1 a xs ∧ Q (IteT X.K a) H1) := by
    refine r B ρ σ Fs H _ I (h.bind.imp fun d ρ1 _ h1 v H1 Fs1 F q => ?_)
    have wk := Wk.of q hw hT
    split at h1
    case h_2 => exact h1.elim
    rename_i ds hds
    split at h1
    case isFalse => exact h1.elim
    rename_i hp
    have len : ∀ {n}, ds.length = n → n ≤ sizeLine → (enumD ds).length ≤ sizeLine := fun e l => by simp [enumD, e, l]
    have stp : ∀ {i}, (enumD ds).length ≤ i → ds.length ≤ i := fun h => by simpa [enumD] using h
    have fin := fun J ok => h1 J H1 Fs1 F q.env q.step wk ok
    rw [hK]
    have rr := q.rep
    split at hds <;> cases hds
    · cases rr with
      | tup hs l r =>
        have e := r.pure hp
        subst e
        refine ⟨_, rfl, .inr ⟨_, hs, fin _ ⟨fun H2 g i d e => ?_, fun H2 g i hi => ?_, len r.length l⟩⟩⟩
        all_goals have hs2 := (Rep.keep g (.tup hs l r)); cases hs2 with | tup hs2 l2 r2 => ?_
        · obtain ⟨y, hy, rfl⟩ := enum_get e
          obtain ⟨x, hx, rx⟩ := r2.at' hy
          refine ⟨⟨_, x, hs2, hx⟩, fun z H' hz => ?_⟩
          obtain ⟨T, y', rfl, hT', rfl, hy'⟩ := hz
          have := hy' _ hs2
          rw [hx] at this; cases this
          exact ⟨same_upd hT', [], pair_rep hT' rx, fun _ => rfl, fun a h => by cases h⟩
        · exact ⟨_, hs2, by rw [← r2.length]; exact stp hi⟩
    · cases rr with
      | lst hs l r =>
        have e := r.pure hp
        subst e
        refine ⟨_, rfl, .inl ⟨_, SqL.of hs, fin _ ⟨fun H2 g i d e => ?_, fun H2 g i hi => ?_, len r.length l⟩⟩⟩
        · have h2 := g _ _ hs (.inr (by simp))
          obtain ⟨y, hy, rfl⟩ := enum_get e
          obtain ⟨x, hx, rx⟩ := r.at' hy
          refine ⟨⟨_, x, SqL.of h2, hx⟩, fun z H' hz => ?_⟩
          obtain ⟨T, y', rfl, hT', rfl, hy'⟩ := hz
          have := hy' _ (SqL.of h2)
          rw [hx] at this; cases this
          exact ⟨same_upd hT', [], pair_rep hT' (rx.keep fun a o q z => g a o q (z.imp id fun z => by cases z)), fun _ => rfl, fun a h => by cases h⟩
        · exact ⟨_, SqL.of (g _ _ hs (.inr (by simp))), by rw [← r.length]; exact stp hi⟩
    · cases rr with
      | scr hs l r =>
        have e := r.pure hp
        subst e
        have sq : ∀ {H2 : Hp}, (∀ a o, H1 a = some o → (¬ Mu S.c B.R o a ∨ a ∈ []) → H2 a = some o) → SqL S.c.K H2 _ _ := fun g => (hs.keep fun o u q => g _ _ q (.inl fun z => z)).toL
        refine ⟨_, rfl, .inl ⟨_, hs.toL, fin _ ⟨fun H2 g i d e => ?_, fun H2 g i hi => ?_, len r.length l⟩⟩⟩
        · obtain ⟨y, hy, rfl⟩ := enum_get e
          obtain ⟨x, hx, rx⟩ := r.at' hy
          refine ⟨⟨_, x, sq g, hx⟩, fun z H' hz => ?_⟩
          obtain ⟨T, y', rfl, hT', rfl, hy'⟩ := hz
          have := hy' _ (sq g)
          rw [hx] at this; cases this
          exact ⟨same_upd hT', [], pair_rep hT' (rx.keep g), fun _ => rfl, fun a h => by cases h⟩
        · exact ⟨_, sq g, by rw [← r.length]; exact stp hi⟩
    · cases rr with
      | ice hs l r =>
        have e := r.pure hp
        subst e
        have sq : ∀ {H2 : Hp}, (∀ a o, H1 a = some o → (¬ Mu S.c B.R o a ∨ a ∈ []) → H2 a = some o) → SqL S.c.K H2 _ _ := fun g => .inl (.inr ⟨_, g _ _ hs (.inl fun z => z)⟩)
        refine ⟨_, rfl, .inl ⟨_, .inl (.inr ⟨_, hs⟩), fin _ ⟨fun H2 g i d e => ?_, fun H2 g i hi => ?_, len r.length l⟩⟩⟩
        · obtain ⟨y, hy, rfl⟩ := enum_get e
          obtain ⟨x, hx, rx⟩ := r.at' hy
          refine ⟨⟨_, x, sq g, hx⟩, fun z H' hz => ?_⟩
          obtain ⟨T, y', rfl, hT', rfl, hy'⟩ := hz
          have := hy' _ (sq g)
          rw [hx] at this; cases this
          exact ⟨same_upd hT', [], pair_rep hT' (rx.keep g), fun _ => rfl, fun a h => by cases h⟩
        · exact ⟨_, sq g, by rw [← r.length]; exact stp hi⟩
  exact go
end
end EL

/-! list and tuple of a range -/
namespace EL
open PySem PySem.Spec PyProof.Rows
open L2 hiding XE
section
variable {X : Cx} {S : Sig} {C : Core} {W : WX} {m m1 m2 : Md} {e1 e2 : Bool} {pos : Pos} {R : Addr → Prop} {H : Hp}
/-- a range's two bounds -/
structure XRg (X : Cx) (S : Sig) (W : WX) (e : Expr) (eff : Bool) (ev : M (Int × Int)) : Prop where
  ex : ∃ t, PRg X e t ∧ ∀ (B : Base) (ρ : Env) (σ : L2.St) (Fs : Nat → List Addr) (H : Hp) (Q : Int → Int → Hp → Prop), EnvR S B ρ σ Fs H →
    Wn (ErW S B W) (fun p ρ' => ∀ H' Fs', EnvR S B ρ' σ Fs' H' → Step S eff ρ Fs H ρ' Fs' H' → Q p.1 p.2 H') (ev ρ) → t σ H Q
def eRg1 (a : M D) : M (Int × Int) := fun ρ => bindR (a ρ) fun d ρ => match d with | .int i => .ok (0, i) ρ | _ => .st
def eRg2 (a b : M D) : M (Int × Int) := fun ρ => bindR (a ρ) fun x ρ => bindR (b ρ) fun y ρ => match x, y with | .int i, .int j => .ok (i, j) ρ | _, _ => .st
theorem xrg_1 {a : Expr} {ea : M D} {p : Pos} (hg : Gl X "range") (hm : X.mg "range" = none) (ha : XE X S W a m1 e1 ea) (na : starEach [a] X.env = (false, eval a X.env) :: starEach [] X.env := by rfl) : XRg X S W (.Call (.Name "range" p) [a] [] pos) e1 (eRg1 ea) := by
  obtain ⟨ta, pa, ra⟩ := ha.ex
  refine ⟨_, prg_1 hg hm pa na, fun B ρ σ Fs H Q I h => ra B ρ σ Fs H _ I (h.bind.imp fun d ρ1 _ h1 v H1 Fs1 F q => ?_)⟩
  split at h1
  · exact ⟨_, q.rep.int_inv, h1 H1 Fs1 q.env q.step⟩
  · exact h1.elim
theorem xrg_2 {a b : Expr} {ea eb : M D} {p : Pos} (hg : Gl X "range") (hm : X.mg "range" = none) (ha : XE X S W a m1 e1 ea) (hb : XE X S W b m2 e2 eb) (na : starEach [a, b] X.env = (false, eval a X.env) :: starEach [b] X.env := by rfl) (nb : starEach [b] X.env = (false, eval b X.env) :: starEach [] X.env := by rfl) (hp : (backTo pos (starEach [b] X.env)).any (·.1) = false := by rfl) :
    XRg X S W (.Call (.Name "range" p) [a, b] [] pos) (e1 || e2) (eRg2 ea eb) := by
  obtain ⟨ta, pa, ra⟩ := ha.ex
  obtain ⟨tb, pb, rb⟩ := hb.ex
  refine ⟨_, prg_2 hg hm pa pb na nb hp, fun B ρ σ Fs H Q I h => ra B ρ σ Fs H _ I (h.bind.imp fun d1 ρ1 _ h1 v H1 Fs1 F q => rb B ρ1 σ Fs1 H1 _ q.env (h1.bind.imp fun d2 ρ2 _ h2 w H2 Fs2 G q2 => ?_))⟩
  split at h2
  · exact ⟨_, _, q.rep.int_inv, q2.rep.int_inv, h2 H2 Fs2 q2.env (q.step.trans q2.step)⟩
  · exact h2.elim
def okRg (i j : Int) : Bool := okR i && okR j && decide ((j - i).toNat ≤ sizeLine)
theorem okRg_of {i j : Int} (h : okRg i j = true) : RgOk i j := by
  simp only [okRg, Bool.and_eq_true, decide_eq_true_eq] at h
  obtain ⟨⟨h1, h2⟩, h3⟩ := h
  have a1 := okR_iff.mp h1
  have a2 := okR_iff.mp h2
  rw [sizeLine_eq] at h3
  exact ⟨a1.1, a1.2, a2.1, a2.2, by omega⟩
theorem reps_rg {i j : Int} : Reps C R H (rangeD i (j - i).toNat) (rgV i j) [] := by
  unfold rangeD rgV
  generalize List.range (j - i).toNat = l
  induction l with
  | nil => exact .nil
  | cons k l ih => exact .cons (F := []) (G := []) (.int _) ih
def eLstRg (a : M (Int × Int)) : M D := fun ρ => bindR (a ρ) fun p ρ => if okRg p.1 p.2 then .ok (.lst (rangeD p.1 (p.2 - p.1).toNat)) ρ else .st
def eTupRg (a : M (Int × Int)) : M D := fun ρ => bindR (a ρ) fun p ρ => if okRg p.1 p.2 then .ok (.tup (rangeD p.1 (p.2 - p.1).toNat)) ρ else .st
theorem rg_len {i j : Int} (h : okRg i j = true) : (rgV i j).length ≤ sizeLine := by
  rw [rgV_length]
  simp only [okRg, Bool.and_eq_true, decide_eq_true_eq] at h
  exact h.2
theorem xe_listRg {e : Expr} {ev : M (Int × Int)} {p : Pos} (hc : X.calm = true) (hg : Gl X "list") (hm : X.mg "list" = none) (ha : XRg X S W e e1 ev) (na : starEach [e] X.env = (false, eval e X.env) :: starEach [] X.env := by rfl) : XE X S W (.Call (.Name "list" p) [e] [] pos) .fr e1 (eLstRg ev) := by
  obtain ⟨ta, pa, ra⟩ := ha.ex
  refine ⟨_, pe_listRg hc hg hm pa na, fun B ρ σ Fs H Q I h => ra B ρ σ Fs H _ I (h.bind.imp fun q ρ1 _ h1 H1 Fs1 I1 s1 => ?_)⟩
  split at h1
  · rename_i ok
    refine ⟨okRg_of ok, fun a hp => h1 _ _ Fs1 [a] (VP.post (ds := []) (vs := []) (G := []) (m1 := .bo) ⟨I1, .nil, s1, trivial⟩ ⟨same_upd hp, .lst upd_same (rg_len ok) reps_rg, by simp, by intro b hb; simp at hb; rw [hb]; exact hp⟩)⟩
  · exact h1.elim
theorem xe_tupRg {e : Expr} {ev : M (Int × Int)} {p : Pos} (hc : X.calm = true) (hg : Gl X "tuple") (hm : X.mg "tuple" = none) (ha : XRg X S W e e1 ev) (na : starEach [e] X.env = (false, eval e X.env) :: starEach [] X.env := by rfl) : XE X S W (.Call (.Name "tuple" p) [e] [] pos) .pu e1 (eTupRg ev) := by
  obtain ⟨ta, pa, ra⟩ := ha.ex
  refine ⟨_, pe_tupRg hc hg hm pa na, fun B ρ σ Fs H Q I h => ra B ρ σ Fs H _ I (h.bind.imp fun q ρ1 _ h1 H1 Fs1 I1 s1 => ?_)⟩
  split at h1
  · rename_i ok
    refine ⟨okRg_of ok, fun a hp => h1 _ _ Fs1 [] (VP.post (ds := []) (vs := []) (G := []) (m1 := .bo) ⟨I1, .nil, s1, trivial⟩ ⟨same_upd hp, .tup (SqT.of upd_same) (rg_len ok) reps_rg, rfl⟩)⟩
  · exact h1.elim
end
end EL

/-! short rules for a printed derivation -/
namespace EL
open PySem PySem.Spec PyProof.Rows
open L2 hiding XE
def bltL : List Str := ["len", "sum", "all", "any", "int", "list", "tuple", "range", "enumerate", "isinstance", "str", "bool", "dict", "zip", "sorted", "max", "min", "repr", "reversed", "set", "abs"]
/-- what stands of a place in a def's body -/
structure Cq (X : Cx) (S : Sig) : Prop where
  K : X.K = S.c.K
  calm : X.calm = true
  un : X.A.units + 200 < cLine
  fb : ∀ x ∈ bltL, X.mg x = none
  nd : X.N.Nodup
section
variable {X : Cx} {S : Sig}
theorem Cq.lk (q : Cq X S) (T : List Nat) : Cq X (lockS S T) := ⟨by rw [lockS_c]; exact q.K, q.calm, q.un, q.fb, q.nd⟩
theorem Cq.bk (q : Cq X S) (T : List Nat) {s : Shared} {H : Hp} {sc : Scope} {ce : PySem.Env} {fp : List Addr} : Cq (X.blk s H sc ce fp) (lockS S T) := ⟨by rw [lockS_c]; exact q.K, q.calm, q.un, q.fb, q.nd⟩
theorem Cq.u1 (q : Cq X S) : X.A.units + 1 < cLine := by have := q.un; omega
theorem Cq.u64 (q : Cq X S) : X.A.units + 64 < cLine := by have := q.un; omega
theorem Cq.u65 (q : Cq X S) : X.A.units + 65 < cLine := by have := q.un; omega
variable {W : WX} {m m1 m2 : Md} {e1 e2 : Bool} {pos p : Pos} {a b e : Expr} {ea eb : M D} {es : List Expr} {eas : M (List D)}
theorem x_eq (q : Cq X S) (ha : XE X S W a m1 e1 ea) (hb : XE X S W b m2 e2 eb) (z : (!e2 || m1.sep) = true := by rfl) (hm : behindInMarks .Eq b = false := by rfl) : XE X S W (.Compare a [.Eq] [b] pos) .pu (e1 || e2) (eBin dEq ea eb) := xe_cmp (op_eqD q.u64) (op2_eq q.K) ha hb hm z
theorem x_ne (q : Cq X S) (ha : XE X S W a m1 e1 ea) (hb : XE X S W b m2 e2 eb) (z : (!e2 || m1.sep) = true := by rfl) (hm : behindInMarks .NotEq b = false := by rfl) : XE X S W (.Compare a [.NotEq] [b] pos) .pu (e1 || e2) (eBin dNe ea eb) := xe_cmp (op_neD q.u64) (op2_ne q.K) ha hb hm z
theorem t_eq (q : Cq X S) (ha : XE X S W a m1 e1 ea) (hb : XE X S W b m2 e2 eb) (z : (!e2 || m1.sep) = true := by rfl) (hm : behindInMarks .Eq b = false := by rfl) : XT X S W (.Compare a [.Eq] [b] pos) (e1 || e2) (ebV (eBin dEq ea eb)) := xt_cmp (op_eqD q.u64) (op2_eq q.K) ha hb hm z
theorem t_ne (q : Cq X S) (ha : XE X S W a m1 e1 ea) (hb : XE X S W b m2 e2 eb) (z : (!e2 || m1.sep) = true := by rfl) (hm : behindInMarks .NotEq b = false := by rfl) : XT X S W (.Compare a [.NotEq] [b] pos) (e1 || e2) (ebV (eBin dNe ea eb)) := xt_cmp (op_neD q.u64) (op2_ne q.K) ha hb hm z
theorem x_in (q : Cq X S) (ha : XE X S W a m1 e1 ea) (hb : XE X S W b m2 e2 eb) (z : (!e2 || m1.sep) = true := by rfl) (hm : behindInMarks .In b = false := by rfl) : XE X S W (.Compare a [.In] [b] pos) .pu (e1 || e2) (eBin dIn ea eb) := xe_cmp (op_inA q.u65) (op2_in q.K) ha hb hm z
theorem x_ni (q : Cq X S) (ha : XE X S W a m1 e1 ea) (hb : XE X S W b m2 e2 eb) (z : (!e2 || m1.sep) = true := by rfl) (hm : behindInMarks .NotIn b = false := by rfl) : XE X S W (.Compare a [.NotIn] [b] pos) .pu (e1 || e2) (eBin dNotIn ea eb) := xe_cmp (op_notInA q.u65) (op2_notIn q.K) ha hb hm z
theorem t_in (q : Cq X S) (ha : XE X S W a m1 e1 ea) (hb : XE X S W b m2 e2 eb) (z : (!e2 || m1.sep) = true := by rfl) (hm : behindInMarks .In b = false := by rfl) : XT X S W (.Compare a [.In] [b] pos) (e1 || e2) (ebV (eBin dIn ea eb)) := xt_cmp (op_inA q.u65) (op2_in q.K) ha hb hm z
theorem t_ni (q : Cq X S) (ha : XE X S W a m1 e1 ea) (hb : XE X S W b m2 e2 eb) (z : (!e2 || m1.sep) = true := by rfl) (hm : behindInMarks .NotIn b = false := by rfl) : XT X S W (.Compare a [.NotIn] [b] pos) (e1 || e2) (ebV (eBin dNotIn ea eb)) := xt_cmp (op_notInA q.u65) (op2_notIn q.K) ha hb hm z
def iLt : Int → Int → Bool := fun i j => decide (i < j)
def iLe : Int → Int → Bool := fun i j => decide (i ≤ j)
def iGt : Int → Int → Bool := fun i j => decide (j < i)
def iGe : Int → Int → Bool := fun i j => decide (j ≤ i)
theorem x_lt (q : Cq X S) (ha : XE X S W a m1 e1 ea) (hb : XE X S W b m2 e2 eb) (z : (!e2 || m1.sep) = true := by rfl) (hm : behindInMarks .Lt b = false := by rfl) : XE X S W (.Compare a [.Lt] [b] pos) .pu (e1 || e2) (eBin (dLtI iLt) ea eb) := xe_cmp op_lt op2_cmpI ha hb hm z
theorem x_le (q : Cq X S) (ha : XE X S W a m1 e1 ea) (hb : XE X S W b m2 e2 eb) (z : (!e2 || m1.sep) = true := by rfl) (hm : behindInMarks .LtE b = false := by rfl) : XE X S W (.Compare a [.LtE] [b] pos) .pu (e1 || e2) (eBin (dLtI iLe) ea eb) := xe_cmp op_le op2_cmpI ha hb hm z
theorem x_gt (q : Cq X S) (ha : XE X S W a m1 e1 ea) (hb : XE X S W b m2 e2 eb) (z : (!e2 || m1.sep) = true := by rfl) (hm : behindInMarks .Gt b = false := by rfl) : XE X S W (.Compare a [.Gt] [b] pos) .pu (e1 || e2) (eBin (dLtI iGt) ea eb) := xe_cmp op_gt op2_cmpI ha hb hm z
theorem x_ge (q : Cq X S) (ha : XE X S W a m1 e1 ea) (hb : XE X S W b m2 e2 eb) (z : (!e2 || m1.sep) = true := by rfl) (hm : behindInMarks .GtE b = false := by rfl) : XE X S W (.Compare a [.GtE] [b] pos) .pu (e1 || e2) (eBin (dLtI iGe) ea eb) := xe_cmp op_ge op2_cmpI ha hb hm z
theorem t_lt (q : Cq X S) (ha : XE X S W a m1 e1 ea) (hb : XE X S W b m2 e2 eb) (z : (!e2 || m1.sep) = true := by rfl) (hm : behindInMarks .Lt b = false := by rfl) : XT X S W (.Compare a [.Lt] [b] pos) (e1 || e2) (ebV (eBin (dLtI iLt) ea eb)) := xt_cmp op_lt op2_cmpI ha hb hm z
theorem t_le (q : Cq X S) (ha : XE X S W a m1 e1 ea) (hb : XE X S W b m2 e2 eb) (z : (!e2 || m1.sep) = true := by rfl) (hm : behindInMarks .LtE b = false := by rfl) : XT X S W (.Compare a [.LtE] [b] pos) (e1 || e2) (ebV (eBin (dLtI iLe) ea eb)) := xt_cmp op_le op2_cmpI ha hb hm z
theorem t_gt (q : Cq X S) (ha : XE X S W a m1 e1 ea) (hb : XE X S W b m2 e2 eb) (z : (!e2 || m1.sep) = true := by rfl) (hm : behindInMarks .Gt b = false := by rfl) : XT X S W (.Compare a [.Gt] [b] pos) (e1 || e2) (ebV (eBin (dLtI iGt) ea eb)) := xt_cmp op_gt op2_cmpI ha hb hm z
theorem t_ge (q : Cq X S) (ha : XE X S W a m1 e1 ea) (hb : XE X S W b m2 e2 eb) (z : (!e2 || m1.sep) = true := by rfl) (hm : behindInMarks .GtE b = false := by rfl) : XT X S W (.Compare a [.GtE] [b] pos) (e1 || e2) (ebV (eBin (dLtI iGe) ea eb)) := xt_cmp op_ge op2_cmpI ha hb hm z
/-- x is None, x is True, .. -/
def dIs (neg : Bool) : D → D → Option D := fun x y => match y with | .non => if neg then dNotN x y else dIsN x y | .bl _ => if neg then dNotB x y else dIsB x y | _ => none
theorem x_isN (q : Cq X S) (ha : XE X S W a m1 e1 ea) (hb : XE X S W b m2 false eb) (hm : behindInMarks .Is b = false := by rfl) : XE X S W (.Compare a [.Is] [b] pos) .pu (e1 || false) (eBin dIsN ea eb) := xe_cmp op_isN op2_isN ha hb hm rfl
theorem x_ntN (q : Cq X S) (ha : XE X S W a m1 e1 ea) (hb : XE X S W b m2 false eb) (hm : behindInMarks .IsNot b = false := by rfl) : XE X S W (.Compare a [.IsNot] [b] pos) .pu (e1 || false) (eBin dNotN ea eb) := xe_cmp op_notN op2_notN ha hb hm rfl
theorem x_isB (q : Cq X S) (ha : XE X S W a m1 e1 ea) (hb : XE X S W b m2 false eb) (hm : behindInMarks .Is b = false := by rfl) : XE X S W (.Compare a [.Is] [b] pos) .pu (e1 || false) (eBin dIsB ea eb) := xe_cmp op_isB op2_isB ha hb hm rfl
theorem x_ntB (q : Cq X S) (ha : XE X S W a m1 e1 ea) (hb : XE X S W b m2 false eb) (hm : behindInMarks .IsNot b = false := by rfl) : XE X S W (.Compare a [.IsNot] [b] pos) .pu (e1 || false) (eBin dNotB ea eb) := xe_cmp op_notB op2_notB ha hb hm rfl
theorem t_isN (q : Cq X S) (ha : XE X S W a m1 e1 ea) (hb : XE X S W b m2 false eb) (hm : behindInMarks .Is b = false := by rfl) : XT X S W (.Compare a [.Is] [b] pos) (e1 || false) (ebV (eBin dIsN ea eb)) := xt_cmp op_isN op2_isN ha hb hm rfl
theorem t_ntN (q : Cq X S) (ha : XE X S W a m1 e1 ea) (hb : XE X S W b m2 false eb) (hm : behindInMarks .IsNot b = false := by rfl) : XT X S W (.Compare a [.IsNot] [b] pos) (e1 || false) (ebV (eBin dNotN ea eb)) := xt_cmp op_notN op2_notN ha hb hm rfl
theorem t_isB (q : Cq X S) (ha : XE X S W a m1 e1 ea) (hb : XE X S W b m2 false eb) (hm : behindInMarks .Is b = false := by rfl) : XT X S W (.Compare a [.Is] [b] pos) (e1 || false) (ebV (eBin dIsB ea eb)) := xt_cmp op_isB op2_isB ha hb hm rfl
theorem t_ntB (q : Cq X S) (ha : XE X S W a m1 e1 ea) (hb : XE X S W b m2 false eb) (hm : behindInMarks .IsNot b = false := by rfl) : XT X S W (.Compare a [.IsNot] [b] pos) (e1 || false) (ebV (eBin dNotB ea eb)) := xt_cmp op_notB op2_notB ha hb hm rfl
theorem x_add (q : Cq X S) (ha : XE X S W a m1 e1 ea) (hb : XE X S W b m2 e2 eb) (z : (!e2 || m1.sep) = true := by rfl) : XE X S W (.BinOp a .Add b pos) .pu (e1 || e2) (eBin dAdd ea eb) := xe_bin (op_add.or (op_add_str.or op_catA)) (op2_add q.K) ha hb z
theorem x_addL (q : Cq X S) (ha : XE X S W a m1 e1 ea) (hb : XE X S W b m2 e2 eb) (z : (!e2 || m1.sep) = true := by rfl) : XE X S W (.BinOp a .Add b pos) .fr (e1 || e2) (eBin dAddL ea eb) := xe_bin op_cat op2_addL ha hb z
theorem x_sub (q : Cq X S) (ha : XE X S W a m1 e1 ea) (hb : XE X S W b m2 e2 eb) (z : (!e2 || m1.sep) = true := by rfl) : XE X S W (.BinOp a .Sub b pos) .pu (e1 || e2) (eBin dSub ea eb) := xe_bin op_sub op2_sub ha hb z
theorem x_mul (q : Cq X S) (ha : XE X S W a m1 e1 ea) (hb : XE X S W b m2 e2 eb) (z : (!e2 || m1.sep) = true := by rfl) : XE X S W (.BinOp a .Mult b pos) .pu (e1 || e2) (eBin dMul ea eb) := xe_bin op_mul op2_mul ha hb z
theorem x_rep (q : Cq X S) (ha : XE X S W a m1 e1 ea) (hb : XE X S W b m2 e2 eb) (z : (!e2 || m1.sep) = true := by rfl) : XE X S W (.BinOp a .Mult b pos) .fr (e1 || e2) (eBin dRep ea eb) := xe_bin op_rep op2_rep ha hb z
theorem x_fdiv (q : Cq X S) (ha : XE X S W a m1 e1 ea) (hb : XE X S W b m2 e2 eb) (z : (!e2 || m1.sep) = true := by rfl) : XE X S W (.BinOp a .FloorDiv b pos) .pu (e1 || e2) (eBin dFdiv ea eb) := xe_bin op_fdiv op2_fdiv ha hb z
theorem x_mod (q : Cq X S) (ha : XE X S W a m1 e1 ea) (hb : XE X S W b m2 e2 eb) (z : (!e2 || m1.sep) = true := by rfl) : XE X S W (.BinOp a .Mod b pos) .pu (e1 || e2) (eBin dMod ea eb) := xe_bin op_mod op2_mod ha hb z
theorem x_pow (q : Cq X S) (ha : XE X S W a m1 e1 ea) (hb : XE X S W b m2 e2 eb) (z : (!e2 || m1.sep) = true := by rfl) : XE X S W (.BinOp a .Pow b pos) .pu (e1 || e2) (eBin dPow ea eb) := xe_bin op_pow op2_pow ha hb z
theorem x_ix (q : Cq X S) (ha : XE X S W a m1 e1 ea) (hb : XE X S W b .pu e2 eb) (z : (!e2 || m1.sep) = true := by rfl) (hs : PlainIx b := by exact fun _ _ => rfl) : XE X S W (.Subscript a b pos) m1 (e1 || e2) (eBin dIx ea eb) := xe_ix q.K q.u1 ha hb z hs
def eA1 (g : List D → Option D) (a : M D) : M D := eN g (eaCons a eaNil)
theorem Md.join_pu' (m : Md) : m.join .pu = m := by cases m <;> rfl
theorem xa_one (ha : XE X S W e m1 e1 ea) (hs : starEach (e :: []) X.env = (false, eval e X.env) :: starEach [] X.env := by rfl) : XA X S W [e] m1 e1 (eaCons ea eaNil) := by
  have h := xa_cons ha (xa_nil (X := X) (S := S) (W := W)) rfl hs
  rw [Md.join_pu', Bool.or_false] at h
  exact h
theorem x_len (q : Cq X S) (ha : XE X S W e m1 e1 ea) (hx : Gl X "len" := by rfl) (hs : starEach (e :: []) X.env = (false, eval e X.env) :: starEach [] X.env := by rfl) (hpl : (backTo pos (starEach [] X.env)).any (·.1) = false := by rfl) : XE X S W (.Call (.Name "len" p) [e] [] pos) .pu e1 (eA1 dLen ea) :=
  xe_callB call_len (opn_len q.K) (xa_one ha hs) hx (q.fb _ (by decide)) boot_len (by decide) (by decide) hs hpl
theorem x_sum (q : Cq X S) (ha : XE X S W e m1 e1 ea) (hx : Gl X "sum" := by rfl) (hs : starEach (e :: []) X.env = (false, eval e X.env) :: starEach [] X.env := by rfl) (hpl : (backTo pos (starEach [] X.env)).any (·.1) = false := by rfl) : XE X S W (.Call (.Name "sum" p) [e] [] pos) .pu e1 (eA1 dSum ea) :=
  xe_callB (cr_sumA q.calm) (opn_sum q.K) (xa_one ha hs) hx (q.fb _ (by decide)) (by decide +kernel) (by decide) (by decide) hs hpl
theorem x_all (q : Cq X S) (ha : XE X S W e m1 e1 ea) (hx : Gl X "all" := by rfl) (hs : starEach (e :: []) X.env = (false, eval e X.env) :: starEach [] X.env := by rfl) (hpl : (backTo pos (starEach [] X.env)).any (·.1) = false := by rfl) : XE X S W (.Call (.Name "all" p) [e] [] pos) .pu e1 (eA1 dAll ea) :=
  xe_callB (cr_all q.calm) (opn_all q.K) (xa_one ha hs) hx (q.fb _ (by decide)) (by decide +kernel) (by decide) (by decide) hs hpl
theorem x_any (q : Cq X S) (ha : XE X S W e m1 e1 ea) (hx : Gl X "any" := by rfl) (hs : starEach (e :: []) X.env = (false, eval e X.env) :: starEach [] X.env := by rfl) (hpl : (backTo pos (starEach [] X.env)).any (·.1) = false := by rfl) : XE X S W (.Call (.Name "any" p) [e] [] pos) .pu e1 (eA1 dAny ea) :=
  xe_callB (cr_any q.calm) (opn_any q.K) (xa_one ha hs) hx (q.fb _ (by decide)) (by decide +kernel) (by decide) (by decide) hs hpl
theorem x_int (q : Cq X S) (ha : XE X S W e m1 e1 ea) (hx : Gl X "int" := by rfl) (hs : starEach (e :: []) X.env = (false, eval e X.env) :: starEach [] X.env := by rfl) (hpl : (backTo pos (starEach [] X.env)).any (·.1) = false := by rfl) : XE X S W (.Call (.Name "int" p) [e] [] pos) .pu e1 (eA1 dInt ea) :=
  xe_callTy call_int1 opn_int (xa_one ha hs) hx (q.fb _ (by decide)) boot_int (by decide) (by decide) hs hpl
theorem x_list (q : Cq X S) (ha : XE X S W e m1 e1 ea) (hx : Gl X "list" := by rfl) (hs : starEach (e :: []) X.env = (false, eval e X.env) :: starEach [] X.env := by rfl) (hpl : (backTo pos (starEach [] X.env)).any (·.1) = false := by rfl) : XE X S W (.Call (.Name "list" p) [e] [] pos) .fr e1 (eA1 dList ea) :=
  xe_callTy call_list_of (opn_list q.K) (xa_one ha hs) hx (q.fb _ (by decide)) boot_list (by decide) (by decide) hs hpl
theorem x_tuple (q : Cq X S) (ha : XE X S W e m1 e1 ea) (hx : Gl X "tuple" := by rfl) (hs : starEach (e :: []) X.env = (false, eval e X.env) :: starEach [] X.env := by rfl) (hpl : (backTo pos (starEach [] X.env)).any (·.1) = false := by rfl) : XE X S W (.Call (.Name "tuple" p) [e] [] pos) .pu e1 (eA1 dTuple ea) :=
  xe_callTy call_tuple_of (opn_tuple q.K) (xa_one ha hs) hx (q.fb _ (by decide)) boot_tuple (by decide) (by decide) hs hpl
theorem x_isi (q : Cq X S) (tn : Str) {p2 : Pos} (T : String) (ha : XE X S W e m1 e1 ea) (hb : tn ∈ bltL := by decide) (hvt : bootBuiltins tn = some (.type T) := by decide +kernel) (hT : tyOkN T = true := by decide) (hn2 : tn ≠ "__name__" := by decide) (hdb2 : (tn == ("__debug__" : Str)) = false := by decide) (hx : Gl X "isinstance" := by rfl) (ht : Gl X tn := by rfl)
    (he : starEach [e, .Name tn p2] X.env = (false, eval e X.env) :: starEach [.Name tn p2] X.env := by rfl) (he2 : starEach [.Name tn p2] X.env = (false, eval (.Name tn p2) X.env) :: starEach [] X.env := by rfl) (hpl : (backTo pos (starEach [.Name tn p2] X.env)).any (·.1) = false := by rfl) :
    XE X S W (.Call (.Name "isinstance" p) [e, .Name tn p2] [] pos) .pu e1 (eUn (dIsi T) ea) :=
  xe_isi q.K ha hx (q.fb _ (by decide)) boot_isinstance ht (q.fb _ hb) hvt hT (by decide) (by decide) hn2 hdb2 he he2 hpl
theorem x_sl (q : Cq X S) {lo hi : Option Expr} {p2 : Pos} {el eh : M (Option Int)} (ha : XE X S W a m1 e1 ea) (hl : XO X S W lo el) (hh : XO X S W hi eh) : XE X S W (.Subscript a (.Slice lo hi none p2) pos) .fr e1 (eSl ea el eh) := xe_sl q.K ha hl hh
theorem t_tru (q : Cq X S) (ha : XE X S W a m e1 ea) (he : ∀ whole, isTrue a X.env whole = (do let v ← whole; standAt a.pos; holding [v] (truthy v)) := by intro _; rfl) : XT X S W a e1 (ebT ea) := xt_truth q.K ha he
theorem x_app (q : Cq X S) (s : Nat) {x : Str} {p apos : Pos} (ha : XE X S W e m1 e1 ea) (z : m1.le .fr = true := by rfl) (hk : hasS S s = true := by rfl) (hN : X.N[s]? = some x := by rfl) (hv : Vis X.env.scope x := by first | exact Or.inl rfl | exact Or.inr (Or.inl rfl) | exact Or.inr (Or.inr rfl)) (hd : (x == ("__debug__" : Str)) = false := by decide) (hcd : (x == ("__classdict__" : Str)) = false := by decide)
    (hbase : attributeBase (.Name x p) "append" X.env (eval (.Name x p) X.env) = eval (.Name x p) X.env := by rfl)
    (hfew : ((backTo pos (starEach (e :: []) X.env)).all (fun x => !x.1) && (backToKw pos (keywordEach [] X.env)).all (fun x => x.1.isSome) && decide ((e :: []).length + ([] : List Keyword).length + (if ([] : List Keyword).isEmpty then 0 else 1) < 30)) = true := by rfl)
    (hline : (apos.endLine == pos.line) = true := by rfl) (hs : starEach (e :: []) X.env = (false, eval e X.env) :: starEach [] X.env := by rfl) (hplain : (backTo pos (starEach [] X.env)).any (·.1) = false := by rfl) :
    XE X S W (.Call (.Attribute (.Name x p) "append" apos) [e] [] pos) .fr true (eMt "list" s dApp (eaCons ea eaNil)) :=
  xe_mt s PySem.F.plainAttrs_list PySem.F.slot_list_append PySem.F.type_list_append mt_append opu_app (xa_one ha hs) z hk hN hv hd hcd hbase hfew hline hs hplain
theorem x_ext (q : Cq X S) (s : Nat) {x : Str} {p apos : Pos} (ha : XE X S W e m1 e1 ea) (hk : hasS S s = true := by rfl) (hN : X.N[s]? = some x := by rfl) (hv : Vis X.env.scope x := by first | exact Or.inl rfl | exact Or.inr (Or.inl rfl) | exact Or.inr (Or.inr rfl)) (hd : (x == ("__debug__" : Str)) = false := by decide) (hcd : (x == ("__classdict__" : Str)) = false := by decide)
    (hbase : attributeBase (.Name x p) "extend" X.env (eval (.Name x p) X.env) = eval (.Name x p) X.env := by rfl)
    (hfew : ((backTo pos (starEach (e :: []) X.env)).all (fun x => !x.1) && (backToKw pos (keywordEach [] X.env)).all (fun x => x.1.isSome) && decide ((e :: []).length + ([] : List Keyword).length + (if ([] : List Keyword).isEmpty then 0 else 1) < 30)) = true := by rfl)
    (hline : (apos.endLine == pos.line) = true := by rfl) (hs : starEach (e :: []) X.env = (false, eval e X.env) :: starEach [] X.env := by rfl) (hplain : (backTo pos (starEach [] X.env)).any (·.1) = false := by rfl) :
    XE X S W (.Call (.Attribute (.Name x p) "extend" apos) [e] [] pos) .fr true (eMt "list" s dExt (eaCons ea eaNil)) :=
  xe_mt s PySem.F.plainAttrs_list PySem.F.slot_list_extend PySem.F.type_list_extend mt_extend opu_ext (xa_one ha hs) rfl hk hN hv hd hcd hbase hfew hline hs hplain
theorem gl_nil : ∀ ds ρ ρ', gsNil ds ρ = some ρ' → ds.length = 0 := fun ds ρ ρ' h => by
  cases ds with
  | nil => rfl
  | cons => cases h
theorem gl_cons {g : D → Env → Option Env} {b : List D → Env → Option Env} {n : Nat} (hb : ∀ ds ρ ρ', b ds ρ = some ρ' → ds.length = n) : ∀ ds ρ ρ', gsCons g b ds ρ = some ρ' → ds.length = n + 1 := fun ds ρ ρ' h => by
  cases ds with
  | nil => cases h
  | cons d ds =>
    unfold gsCons at h
    simp only at h
    cases q : g d ρ with
    | none => rw [q] at h; cases h
    | some ρ1 => rw [q] at h; simp [hb ds ρ1 ρ' h]
/-- a if c else b, as a test -/
theorem pt_ifE {c : Expr} {tc ta tb : TT} (hc : PT X c tc) (ha : PT X a ta) (hb : PT X b tb) : PT X (.IfExp c a b pos) (fun σ H Q => tc σ H fun k H1 => if k = true then ta σ H1 Q else tb σ H1 Q) := by
  refine ⟨fun pins s σ H Q I h => isTrue_IfExp (thn (hc.run pins s σ H _ I h) fun k s1 ⟨H1, I1, q1⟩ => ?_)⟩
  cases k with
  | true => exact ha.run pins s1 σ H1 Q I1 q1
  | false => exact hb.run pins s1 σ H1 Q I1 q1
def ebIf (c a b : M Bool) : M Bool := fun ρ => bindR (c ρ) fun k ρ => if k then a ρ else b ρ
theorem xt_if {c : Expr} {ec ea eb : M Bool} {e3 : Bool} (hc : XT X S W c e3 ec) (ha : XT X S W a e1 ea) (hb : XT X S W b e2 eb) : XT X S W (.IfExp c a b pos) (e3 || (e1 || e2)) (ebIf ec ea eb) := by
  obtain ⟨tc, pc, rc⟩ := hc.ex
  obtain ⟨ta, pa, ra⟩ := ha.ex
  obtain ⟨tb, pb, rb⟩ := hb.ex
  refine ⟨_, pt_ifE pc pa pb, fun B ρ σ Fs H Q I h => rc B ρ σ Fs H _ I (h.bind.imp fun k ρ1 _ h1 H1 Fs1 I1 s1 => ?_)⟩
  cases k with
  | true => exact iteT (ra B ρ1 σ Fs1 H1 _ I1 (h1.imp fun b ρ2 _ h2 H2 Fs2 I2 s2 => h2 H2 Fs2 I2 ((s1.trans s2).weak fun z => by simp at z; simp [z])))
  | false => exact iteF (rb B ρ1 σ Fs1 H1 _ I1 (h1.imp fun b ρ2 _ h2 H2 Fs2 I2 s2 => h2 H2 Fs2 I2 ((s1.trans s2).weak fun z => by simp at z; simp [z])))
/-! ### a def of the text, its promise -/
/-- the global x is a def that keeps spD of F -/
structure FnG (P : Program) (w : World) (K : PySem.W.Frag) (mg : Str → Option Value) (base : Heap) (C : Core) (k : Nat) (x : Str) (n : Nat) (io : Option Nat) (rm : Md) (F : List D → Fr) : Prop where
  ex : ∃ f fd ps, FnOk P w K mg base (L2.CX P w) k f fd ps (spD C n io rm F) ∧ mg x = some (.ref f) ∧ PySem.W.keepIn K (.ref f) = true ∧ Binds K fd ps [] ∧ ps.length = n
section
variable {P : Program} {w : World} {K : PySem.W.Frag} {mg : Str → Option Value} {base : Heap} {C : Core} {k n : Nat} {x : Str} {io : Option Nat} {rm : Md} {F G : List D → Fr}
theorem FnG.imp (g : FnG P w K mg base C k x n io rm F) (h : ∀ ds, ds.length = n → G ds ≠ .st → F ds = G ds) : FnG P w K mg base C k x n io rm G := by
  obtain ⟨f, fd, ps, g1, g2⟩ := g.ex
  exact ⟨f, fd, ps, g1.imp fun vs H Q E q => q.imp h, g2⟩
theorem FnG.mono {j : Nat} (g : FnG P w K mg base C k x n io rm F) (h : k ≤ j) : FnG P w K mg base C j x n io rm F := by
  obtain ⟨f, fd, ps, g1, g2⟩ := g.ex
  exact ⟨f, fd, ps, g1.mono h, g2⟩
end
theorem x_call {x : Str} {n k : Nat} {rm : Md} {F : List D → Fr} (tk : Takes X W) (G : FnG X.prog X.w X.K X.mg X.base S.c k x n none rm F) (hr : Room k X.A) (ha : XA X S W (e :: es) m1 e1 eas) (hg : Gl X x := by rfl) (hrm : rm.fn = true := by rfl) (hne : (e :: es).length = n := by rfl) (hdb : (x == ("__debug__" : Str)) = false := by decide) (he : starEach (e :: es) X.env = (false, eval e X.env) :: starEach es X.env := by rfl)
    (hpl : (backTo pos (starEach es X.env)).any (·.1) = false := by rfl) : XE X S W (.Call (.Name x p) (e :: es) [] pos) rm e1 (eCall F eas) := by
  obtain ⟨f, fd, ps, g1, g2, g3, g4, g5⟩ := G.ex
  exact xe_call tk g1 hr hg g2 g3 g4 g5 ha hrm hne hdb he hpl
theorem x_callI {x : Str} {n k io s : Nat} {rm : Md} {F : List D → Fr} (tk : Takes X W) (G : FnG X.prog X.w X.K X.mg X.base S.c k x n (some io) rm F) (hr : Room k X.A) (ha : XI X S W (e :: es) e1 io s eas) (hg : Gl X x := by rfl) (hrm : rm.fn = true := by rfl) (hne : (e :: es).length = n := by rfl) (hdb : (x == ("__debug__" : Str)) = false := by decide) (he : starEach (e :: es) X.env = (false, eval e X.env) :: starEach es X.env := by rfl)
    (hpl : (backTo pos (starEach es X.env)).any (·.1) = false := by rfl) : XE X S W (.Call (.Name x p) (e :: es) [] pos) rm true (eCallI F s eas) := by
  obtain ⟨f, fd, ps, g1, g2, g3, g4, g5⟩ := G.ex
  exact xe_callI tk g1 hr hg g2 g3 g4 ha hrm hne hdb he hpl
end
section
variable {P : Program} {w : World} {K : PySem.W.Frag} {mg : Str → Option Value} {base : Heap} {C : Core}
/-- what stands of the module's names -/
structure Gz (mg : Str → Option Value) (C : Core) (K : PySem.W.Frag) : Prop where
  cK : C.K = K
  fb : ∀ x ∈ bltL, mg x = none
theorem cq_of {CX : CXT} {N : List Str} {qual : Str} {scope : Scope} {f : Addr} {cdv : Value} {A : Around} {outer : List PySem.Env} {s : Shared} {H : Hp} {E : XK} {k : Nat} {ks : List Kd} (Z : Gz mg C K) (nd : N.Nodup) (hr : Room k (A.deeper (envOfC qual scope s.heap.objs.size f cdv))) :
    Cq (cxOf CX P w K mg base N qual scope f cdv A outer s H E) (sg C ks) :=
  ⟨Z.cK.symm, rfl, (by have h := hr.un; show (A.deeper (envOfC qual scope s.heap.objs.size f cdv)).units + 200 < cLine; omega), Z.fb, nd⟩
end
end EL

/-! what a reading gives: single steps in plain Lean -/
namespace EL
open PySem PySem.Spec
open L2 hiding XE
theorem runF_ok {n N : Nat} {pls : List Nat} {io : Option Nat} {ev : Ms} {ds : List D} (h : plOk pls ds = true) : runF n N pls io ev ds = endOf io (ev (ds.map some ++ List.replicate (N - n) none)) := by unfold runF; rw [if_pos h]
section
variable {α β : Type} {a b : M D} {x y d d' : D} {ρ ρ1 ρ2 ρ3 : Env} {ds es : List D} {as bs : M (List D)} {g : D → D → Option D}
theorem p_bin (ha : a ρ = .ok x ρ1) (hb : b ρ1 = .ok y ρ2) (hg : g x y = some d) : eBin g a b ρ = .ok d ρ2 := by unfold eBin; rw [ha]; show bindR (b ρ1) _ = _; rw [hb]; show lift (g x y) ρ2 = _; rw [hg]; rfl
theorem p_un {g : D → Option D} (ha : a ρ = .ok x ρ1) (hg : g x = some d) : eUn g a ρ = .ok d ρ1 := by unfold eUn; rw [ha]; show lift (g x) ρ1 = _; rw [hg]; rfl
theorem p_a1 {g : List D → Option D} (ha : a ρ = .ok x ρ1) (hg : g [x] = some d) : eA1 g a ρ = .ok d ρ1 := by unfold eA1 eN eaCons; rw [ha]; show lift (g [x]) ρ1 = _; rw [hg]; rfl
theorem p_nil : eaNil ρ = .ok [] ρ := rfl
theorem p_cons (ha : a ρ = .ok x ρ1) (hb : bs ρ1 = .ok ds ρ2) : eaCons a bs ρ = .ok (x :: ds) ρ2 := by unfold eaCons; rw [ha]; show bindR (bs ρ1) _ = _; rw [hb]; rfl
theorem p_tup (ha : as ρ = .ok ds ρ1) (hp : pureDs ds = true) (hl : ds.length ≤ sizeLine) : eTup as ρ = .ok (.tup ds) ρ1 := by unfold eTup; rw [ha]; show (if _ then _ else _) = _; rw [if_pos (by simp [hp, hl])]
theorem p_lst (ha : as ρ = .ok ds ρ1) (hp : pureDs ds = true) (hl : ds.length ≤ sizeLine) : eLst as ρ = .ok (.lst ds) ρ1 := by unfold eLst; rw [ha]; show (if _ then _ else _) = _; rw [if_pos (by simp [hp, hl])]
theorem p_pure (ha : a ρ = .ok x ρ1) (hp : pureD x = true) : ePure a ρ = .ok x ρ1 := by unfold ePure; rw [ha]; show (if _ then _ else _) = _; rw [if_pos hp]
theorem p_call {F : List D → Fr} (ha : as ρ = .ok ds ρ1) (hf : F ds = .ok d d') : eCall F as ρ = .ok d ρ1 := by unfold eCall; rw [ha]; show (match F ds with | .ok d _ => _ | .er c fs _ => _ | .st => _) = _; rw [hf]
theorem p_callI {F : List D → Fr} {s : Nat} (ha : as ρ = .ok ds ρ1) (hf : F ds = .ok d d') (e : ρ1.set s (some d') = ρ2) : eCallI F s as ρ = .ok d ρ2 := by unfold eCallI; rw [ha]; show (match F ds with | .ok d o => _ | .er c fs o => _ | .st => _) = _; rw [hf, ← e]
theorem p_here {s : Nat} (e0 : ρ[s]? = some (some x)) (hb : bs ρ = .ok ds ρ1) (e1 : ρ1[s]? = some (some y)) : eiHere s bs ρ = .ok (y :: ds) ρ1 := by
  unfold eiHere
  rw [e0]
  show bindR (bs ρ) _ = _
  rw [hb]
  show (match ρ1[s]? with | some (some d) => _ | _ => _) = _
  rw [e1]
theorem p_next (ha : a ρ = .ok x ρ1) (hb : bs ρ1 = .ok ds ρ2) : eiNext a bs ρ = .ok (x :: ds) ρ2 := p_cons ha hb
theorem p_and {p q : Bool} (ha : a ρ = .ok (.bl p) ρ1) (hb : b ρ1 = .ok (.bl q) ρ1) : eAndV a b ρ = .ok (.bl (p && q)) ρ1 := by
  unfold eAndV
  rw [ha]
  cases p with
  | true => exact hb
  | false => rfl
theorem p_andT {p q : Bool} (ha : a ρ = .ok (.bl p) ρ1) (hb : p = true → b ρ1 = .ok (.bl q) ρ1) : eAndV a b ρ = .ok (.bl (p && q)) ρ1 := by
  unfold eAndV
  rw [ha]
  cases p with
  | true => exact hb rfl
  | false => rfl
theorem p_or {p q : Bool} (ha : a ρ = .ok (.bl p) ρ1) (hb : p = false → b ρ1 = .ok (.bl q) ρ1) : eOrV a b ρ = .ok (.bl (p || q)) ρ1 := by
  unfold eOrV
  rw [ha]
  cases p with
  | true => rfl
  | false => exact hb rfl
theorem p_not {p : Bool} (ha : a ρ = .ok (.bl p) ρ1) : eNotV a ρ = .ok (.bl (!p)) ρ1 := by unfold eNotV; rw [ha]; rfl
theorem p_if {c : M Bool} {k : Bool} (hc : c ρ = .ok k ρ1) (h : (if k then a ρ1 else b ρ1) = .ok d ρ2) : eIf c a b ρ = .ok d ρ2 := by unfold eIf; rw [hc]; exact h
theorem b_v {k : Bool} (ha : a ρ = .ok (.bl k) ρ1) : ebV a ρ = .ok k ρ1 := by unfold ebV; rw [ha]; rfl
theorem b_t {k : Bool} (ha : a ρ = .ok d ρ1) (h : truD d = some k) : ebT a ρ = .ok k ρ1 := by unfold ebT; rw [ha]; show (match truD d with | some b => _ | none => _) = _; rw [h]
theorem b_and {ca cb : M Bool} {p q : Bool} (ha : ca ρ = .ok p ρ1) (hb : p = true → cb ρ1 = .ok q ρ1) : ebAnd ca cb ρ = .ok (p && q) ρ1 := by
  unfold ebAnd
  rw [ha]
  cases p with
  | true => exact hb rfl
  | false => rfl
theorem b_or {ca cb : M Bool} {p q : Bool} (ha : ca ρ = .ok p ρ1) (hb : p = false → cb ρ1 = .ok q ρ1) : ebOr ca cb ρ = .ok (p || q) ρ1 := by
  unfold ebOr
  rw [ha]
  cases p with
  | true => rfl
  | false => exact hb rfl
theorem b_not {ca : M Bool} {p : Bool} (ha : ca ρ = .ok p ρ1) : ebNot ca ρ = .ok (!p) ρ1 := by unfold ebNot; rw [ha]; rfl
/-! statements -/
variable {s t : Ms} {r : So} {c : M Bool} {k : Bool}
theorem q_seq (h : s ρ = .nx ρ1) (h2 : t ρ1 = r) : sSeq s t ρ = r := by unfold sSeq; rw [h]; exact h2
theorem q_seqR (h : s ρ = .ret d ρ1) : sSeq s t ρ = .ret d ρ1 := by unfold sSeq; rw [h]
theorem q_if (h : c ρ = .ok k ρ1) (h2 : (if k then s ρ1 else t ρ1) = r) : sIf c s t ρ = r := by unfold sIf; rw [h]; exact h2
theorem q_ifF {u v : Ms} (h : c ρ = .ok false ρ1) (h2 : u ρ1 = r) : sSeq (sIf c s sNil) u ρ = r := q_seq (q_if h rfl) h2
theorem q_ifT {u v : Ms} (h : c ρ = .ok true ρ1) (h2 : s ρ1 = .ret d ρ2) : sSeq (sIf c s v) u ρ = .ret d ρ2 := q_seqR (q_if h h2)
theorem q_ret (h : a ρ = .ok d ρ1) : sRet a ρ = .ret d ρ1 := by unfold sRet; rw [h]; rfl
theorem q_set {i : Nat} (h : a ρ = .ok d ρ1) (e : ρ1.set i (some d) = ρ2) : sSet i a ρ = .nx ρ2 := by unfold sSet; rw [h, ← e]; rfl
theorem q_drop (h : a ρ = .ok d ρ1) : sDrop a ρ = .nx ρ1 := by unfold sDrop; rw [h]; rfl
theorem q_put {s : Nat} {ek : M D} {k o : D} (h : a ρ = .ok y ρ1) (e0 : ρ1[s]? = some (some x)) (hk : ek ρ1 = .ok k ρ2) (hp : dPut x k y = some o) (e : ρ2.set s (some o) = ρ3) : sPut s ek a ρ = .nx ρ3 := by
  unfold sPut
  rw [h]
  show (match ρ1[s]? with | some (some d0) => _ | _ => _) = _
  rw [e0]
  show bindS (ek ρ1) _ = _
  rw [hk]
  show liftS (dPut x k y) _ = _
  rw [hp, ← e]; rfl
theorem q_par {i j : Nat} (h : a ρ = .ok x ρ1) (h2 : b ρ1 = .ok y ρ2) (e : (ρ2.set i (some x)).set j (some y) = ρ3) : sPar i j a b ρ = .nx ρ3 := by
  unfold sPar; rw [h]; show bindS (b ρ1) _ = _; rw [h2, ← e]; rfl
theorem q_unpT {bd : List D → Env → Option Env} (h : a ρ = .ok (.tup ds) ρ1) (hp : pureDs ds = true) (hb : bd ds ρ1 = some ρ2) : sUnp bd a ρ = .nx ρ2 := by
  unfold sUnp; rw [h]; show (if _ then _ else _) = _; rw [if_pos hp, hb]
theorem q_unpL {bd : List D → Env → Option Env} (h : a ρ = .ok (.lst ds) ρ1) (hp : pureDs ds = true) (hb : bd ds ρ1 = some ρ2) : sUnp bd a ρ = .nx ρ2 := by
  unfold sUnp; rw [h]; show (if _ then _ else _) = _; rw [if_pos hp, hb]
/-! sources, loops -/
theorem i_tup (h : a ρ = .ok (.tup ds) ρ1) (hp : pureDs ds = true) : itSeq a ρ = .ok ds ρ1 := by unfold itSeq; rw [h]; show (match itemsD (.tup ds) with | some ds => _ | none => _) = _; rw [show itemsD (.tup ds) = some ds from if_pos hp]
theorem i_lst (h : a ρ = .ok (.lst ds) ρ1) (hp : pureDs ds = true) : itSeq a ρ = .ok ds ρ1 := by unfold itSeq; rw [h]; show (match itemsD (.lst ds) with | some ds => _ | none => _) = _; rw [show itemsD (.lst ds) = some ds from if_pos hp]
theorem i_scr (h : a ρ = .ok (.scr ds) ρ1) (hp : pureDs ds = true) : itSeq a ρ = .ok ds ρ1 := by unfold itSeq; rw [h]; show (match itemsD (.scr ds) with | some ds => _ | none => _) = _; rw [show itemsD (.scr ds) = some ds from if_pos hp]
theorem i_enumT (h : a ρ = .ok (.tup ds) ρ1) (hp : pureDs ds = true) : itEnum a ρ = .ok (enumD ds) ρ1 := by unfold itEnum; rw [h]; show (if _ then _ else _) = _; rw [if_pos hp]
theorem i_r1 {j : Int} (h : as ρ = .ok [.int j] ρ1) (h1 : -(2 ^ 62) ≤ j) (h2 : j.toNat ≤ sizeLine) : itR1 as ρ = .ok (rangeD 0 j.toNat) ρ1 := by
  unfold itR1; rw [h]; show (if _ then _ else _) = _; rw [if_pos]
  rw [sizeLine_eq] at h2 ⊢
  simp [okR]; omega
theorem l_comp {vs : List Nat} {it : M (List D)} {bd : D → Env → Option Env} {tt : M Bool} {ee : M D} (h : it ρ = .ok ds ρ1) (hl : lcLoop vs bd tt ee ds (wipeE ρ1 vs) = .ok es ρ2) (e : backE ρ1 ρ2 vs = ρ3) : eLc vs it bd tt ee ρ = .ok (.lst es) ρ3 := by
  unfold eLc; rw [h]; show (match lcLoop vs bd tt ee ds (wipeE ρ1 vs) with | .ok ys ρ2 => _ | _ => _) = _; rw [hl, ← e]
/-- a comprehension that changes nothing -/
theorem lc_pure {vs : List Nat} {bd : D → Env → Option Env} {tt : M Bool} {ee : M D} {p : D → Bool} {f : D → D} {ds : List D} : (∀ d ∈ ds, ∃ ρd, bd d ρ = some ρd ∧ tt ρd = .ok (p d) ρd ∧ (p d = true → ee ρd = .ok (f d) ρd ∧ pureD (f d) = true) ∧ wipeE ρd vs = ρ) → lcLoop vs bd tt ee ds ρ = .ok ((ds.filter p).map f) ρ := by
  induction ds with
  | nil => intro _; rfl
  | cons d ds ih =>
    intro h
    obtain ⟨ρd, h1, h2, h3, h4⟩ := h d (by simp)
    have ih := ih fun d' m => h d' (by simp [m])
    unfold lcLoop
    rw [h1]
    simp only
    rw [h2]
    cases hp : p d with
    | false =>
      simp only
      rw [h4, ih, List.filter_cons_of_neg (by simp [hp])]
    | true =>
      simp only
      obtain ⟨h5, h6⟩ := h3 hp
      rw [h5]
      simp only
      rw [if_pos h6, h4, ih, List.filter_cons_of_pos (by simp [hp])]
      rfl
/-- a comprehension that changes slots, I its invariant, T what holds of each value -/
theorem lc_inv {vs : List Nat} {bd : D → Env → Option Env} {tt : M Bool} {ee : M D} {I : Env → Prop} {T : D → Prop} {ds : List D} : (∀ d ∈ ds, ∀ ρ, I ρ → ∃ ρd k ρt, bd d ρ = some ρd ∧ tt ρd = .ok k ρt ∧ (k = false → I (wipeE ρt vs)) ∧ (k = true → ∃ y ρe, ee ρt = .ok y ρe ∧ pureD y = true ∧ T y ∧ I (wipeE ρe vs))) →
    ∀ {ρ : Env}, I ρ → ∃ ys ρ', lcLoop vs bd tt ee ds ρ = .ok ys ρ' ∧ ys.length ≤ ds.length ∧ (∀ y ∈ ys, T y) ∧ I ρ' := by
  induction ds with
  | nil => intro _ ρ hi; exact ⟨[], ρ, rfl, Nat.le_refl _, by simp, hi⟩
  | cons d ds ih =>
    intro h ρ hi
    obtain ⟨ρd, k, ρt, h1, h2, h3, h4⟩ := h d (by simp) ρ hi
    have ih := fun {ρ} (hi : I ρ) => ih (fun d' m => h d' (by simp [m])) (ρ := ρ) hi
    unfold lcLoop
    rw [h1]
    simp only
    rw [h2]
    cases k with
    | false =>
      obtain ⟨ys, ρ', g1, g2, g3, g4⟩ := ih (h3 rfl)
      exact ⟨ys, ρ', g1, by simp; omega, g3, g4⟩
    | true =>
      obtain ⟨y, ρe, g1, g2, g3, g4⟩ := h4 rfl
      obtain ⟨ys, ρ', k1, k2, k3, k4⟩ := ih g4
      simp only
      rw [g1]
      simp only
      rw [if_pos g2, k1]
      exact ⟨y :: ys, ρ', rfl, by simp; omega, by simpa using ⟨g3, k3⟩, k4⟩
/-- .. where every item gives a value -/
theorem lc_all {vs : List Nat} {bd : D → Env → Option Env} {ee : M D} {I : Env → Prop} {T : D → Prop} {ds : List D} : (∀ d ∈ ds, ∀ ρ, I ρ → ∃ ρd, bd d ρ = some ρd ∧ ∃ y ρe, ee ρd = .ok y ρe ∧ pureD y = true ∧ T y ∧ I (wipeE ρe vs)) →
    ∀ {ρ : Env}, I ρ → ∃ ys ρ', lcLoop vs bd ebYes ee ds ρ = .ok ys ρ' ∧ ys.length = ds.length ∧ (∀ y ∈ ys, T y) ∧ I ρ' := by
  induction ds with
  | nil => intro _ ρ hi; exact ⟨[], ρ, rfl, rfl, by simp, hi⟩
  | cons d ds ih =>
    intro h ρ hi
    obtain ⟨ρd, h1, y, ρe, g1, g2, g3, g4⟩ := h d (by simp) ρ hi
    obtain ⟨ys, ρ', k1, k2, k3, k4⟩ := ih (fun d' m => h d' (by simp [m])) g4
    unfold lcLoop
    rw [h1]
    simp only [ebYes]
    rw [g1]
    simp only
    rw [if_pos g2, k1]
    exact ⟨y :: ys, ρ', rfl, by simp [k2], by simpa using ⟨g3, k3⟩, k4⟩
/-- a loop whose body goes on, I its invariant by place -/
theorem l_for {it : M (List D)} {bd : D → Env → Option Env} {body : Ms} {I : Env → Prop} {ds : List D} (h : it ρ = .ok ds ρ1) (h0 : I ρ1) (hs : ∀ d ∈ ds, ∀ ρ, I ρ → ∃ ρd ρe, bd d ρ = some ρd ∧ (body ρd = .nx ρe ∨ body ρd = .ct ρe) ∧ I ρe) : ∃ ρ2, sFor [] it bd body ρ = .nx ρ2 ∧ I ρ2 := by
  unfold sFor
  rw [h]
  show ∃ ρ2, wipeSo [] (loopS bd body ds ρ1) = .nx ρ2 ∧ I ρ2
  rw [wipeSo_nil]
  clear h
  induction ds generalizing ρ1 with
  | nil => exact ⟨ρ1, rfl, h0⟩
  | cons d ds ih =>
    obtain ⟨ρd, ρe, g1, g2, g3⟩ := hs d (by simp) ρ1 h0
    obtain ⟨ρ2, k1, k2⟩ := ih g3 fun d' m => hs d' (by simp [m])
    refine ⟨ρ2, ?_, k2⟩
    unfold loopS
    rw [g1]
    simp only
    rcases g2 with g2 | g2 <;> rw [g2] <;> exact k1
end
theorem pureDs_mem : ∀ {ds : List D}, (∀ d ∈ ds, pureD d = true) → pureDs ds = true
  | [], _ => rfl
  | d :: ds, h => by
    have h1 := h d (by simp)
    have h2 : pureDs ds = true := pureDs_mem fun d' m => h d' (List.mem_cons_of_mem _ m)
    simp [pureDs, h1, h2]
theorem pureDs_map {α : Type} {f : α → D} {xs : List α} (h : ∀ x, pureD (f x) = true) : pureDs (xs.map f) = true := pureDs_mem fun d m => by
  obtain ⟨x, _, rfl⟩ := List.mem_map.mp m
  exact h x
theorem blsD_map : ∀ bs : List Bool, blsD (bs.map D.bl) = some bs
  | [] => rfl
  | b :: bs => by simp [blsD, blsD_map bs]
theorem intsD_map : ∀ ns : List Int, intsD (ns.map D.int) = some ns
  | [] => rfl
  | n :: ns => by simp [intsD, intsD_map ns]
theorem dEq_int (i j : Int) : dEq (.int i) (.int j) = some (.bl (decide (i = j))) := rfl
theorem dEq_str {x y : Str} (hx : PyData.strOk x = true) (hy : PyData.strOk y = true) : dEq (.str x) (.str y) = some (.bl (x == y)) := by
  unfold dEq okD datD depD; rw [hx, hy]; rfl
theorem dEq_si {x : Str} (hx : PyData.strOk x = true) (j : Int) : dEq (.str x) (.int j) = some (.bl false) := by
  unfold dEq okD datD depD; rw [hx]; rfl
theorem dEq_is {x : Str} (hx : PyData.strOk x = true) (j : Int) : dEq (.int j) (.str x) = some (.bl false) := by
  unfold dEq okD datD depD; rw [hx]; rfl
theorem eqv_nil (ds : List D) : eqvD (.lst ds) (.lst []) = ds.isEmpty := by cases ds <;> rfl
/-! the same where the slots stay -/
section
variable {a b : M D} {x y d d' : D} {ρ : Env} {ds es : List D} {as bs : M (List D)} {g : D → D → Option D} {s t : Ms} {r : So} {c : M Bool} {k : Bool}
theorem p_bin0 (ha : a ρ = .ok x ρ) (hb : b ρ = .ok y ρ) (hg : g x y = some d) : eBin g a b ρ = .ok d ρ := p_bin ha hb hg
theorem p_un0 {g : D → Option D} (ha : a ρ = .ok x ρ) (hg : g x = some d) : eUn g a ρ = .ok d ρ := p_un ha hg
theorem p_a10 {g : List D → Option D} (ha : a ρ = .ok x ρ) (hg : g [x] = some d) : eA1 g a ρ = .ok d ρ := p_a1 ha hg
theorem p_cons0 (ha : a ρ = .ok x ρ) (hb : bs ρ = .ok ds ρ) : eaCons a bs ρ = .ok (x :: ds) ρ := p_cons ha hb
theorem p_tup0 (ha : as ρ = .ok ds ρ) (hp : pureDs ds = true) (hl : ds.length ≤ sizeLine) : eTup as ρ = .ok (.tup ds) ρ := p_tup ha hp hl
theorem p_lst0 (ha : as ρ = .ok ds ρ) (hp : pureDs ds = true) (hl : ds.length ≤ sizeLine) : eLst as ρ = .ok (.lst ds) ρ := p_lst ha hp hl
theorem p_pure0 (ha : a ρ = .ok x ρ) (hp : pureD x = true) : ePure a ρ = .ok x ρ := p_pure ha hp
theorem p_call0 {F : List D → Fr} (ha : as ρ = .ok ds ρ) (hf : F ds = .ok d d') : eCall F as ρ = .ok d ρ := p_call ha hf
theorem p_and0 {p q : Bool} (ha : a ρ = .ok (.bl p) ρ) (hb : b ρ = .ok (.bl q) ρ) : eAndV a b ρ = .ok (.bl (p && q)) ρ := p_and ha hb
theorem p_andT0 {p q : Bool} (ha : a ρ = .ok (.bl p) ρ) (hb : p = true → b ρ = .ok (.bl q) ρ) : eAndV a b ρ = .ok (.bl (p && q)) ρ := p_andT ha hb
theorem p_or0 {p q : Bool} (ha : a ρ = .ok (.bl p) ρ) (hb : p = false → b ρ = .ok (.bl q) ρ) : eOrV a b ρ = .ok (.bl (p || q)) ρ := p_or ha hb
theorem p_not0 {p : Bool} (ha : a ρ = .ok (.bl p) ρ) : eNotV a ρ = .ok (.bl (!p)) ρ := p_not ha
theorem b_v0 (ha : a ρ = .ok (.bl k) ρ) : ebV a ρ = .ok k ρ := b_v ha
theorem b_and0 {ca cb : M Bool} {p q : Bool} (ha : ca ρ = .ok p ρ) (hb : p = true → cb ρ = .ok q ρ) : ebAnd ca cb ρ = .ok (p && q) ρ := b_and ha hb
theorem b_or0 {ca cb : M Bool} {p q : Bool} (ha : ca ρ = .ok p ρ) (hb : p = false → cb ρ = .ok q ρ) : ebOr ca cb ρ = .ok (p || q) ρ := b_or ha hb
theorem b_not0 {ca : M Bool} {p : Bool} (ha : ca ρ = .ok p ρ) : ebNot ca ρ = .ok (!p) ρ := b_not ha
theorem q_if0 (h : c ρ = .ok k ρ) (h2 : (if k then s ρ else t ρ) = r) : sIf c s t ρ = r := q_if h h2
theorem q_ifF0 {u : Ms} (h : c ρ = .ok false ρ) (h2 : u ρ = r) : sSeq (sIf c s sNil) u ρ = r := q_ifF (v := sNil) h h2
theorem q_ifT0 {u v : Ms} (h : c ρ = .ok true ρ) (h2 : s ρ = .ret d ρ) : sSeq (sIf c s v) u ρ = .ret d ρ := q_ifT h h2
/-- if c: return d, as the law has it -/
theorem q_ifR {u : Ms} (h : c ρ = .ok k ρ) (h1 : k = true → s ρ = r) (hr : ∀ ρ', r ≠ .nx ρ') (h2 : k = false → u ρ = r) : sSeq (sIf c s sNil) u ρ = r := by
  cases k with
  | false => exact q_ifF0 h (h2 rfl)
  | true =>
    unfold sSeq
    rw [q_if0 (t := sNil) h (if_pos rfl), h1 rfl]
    cases r with
    | nx ρ' => exact absurd rfl (hr ρ')
    | _ => rfl
theorem q_ret0 (h : a ρ = .ok d ρ) : sRet a ρ = .ret d ρ := q_ret h
theorem q_set0 {i : Nat} (h : a ρ = .ok d ρ) : sSet i a ρ = .nx (ρ.set i (some d)) := q_set h rfl
theorem i_tup0 (h : a ρ = .ok (.tup ds) ρ) (hp : pureDs ds = true) : itSeq a ρ = .ok ds ρ := i_tup h hp
theorem i_lst0 (h : a ρ = .ok (.lst ds) ρ) (hp : pureDs ds = true) : itSeq a ρ = .ok ds ρ := i_lst h hp
/-- a comprehension that changes nothing -/
theorem l_pure {vs : List Nat} {it : M (List D)} {bd : D → Env → Option Env} {tt : M Bool} {ee : M D} {p : D → Bool} {f : D → D} (h : it ρ = .ok ds ρ) (hb : backE ρ (wipeE ρ vs) vs = ρ)
    (hs : ∀ d ∈ ds, ∃ ρd, bd d (wipeE ρ vs) = some ρd ∧ tt ρd = .ok (p d) ρd ∧ (p d = true → ee ρd = .ok (f d) ρd ∧ pureD (f d) = true) ∧ wipeE ρd vs = wipeE ρ vs) : eLc vs it bd tt ee ρ = .ok (.lst ((ds.filter p).map f)) ρ := l_comp h (lc_pure hs) hb
/-- .. of every item -/
theorem l_map {vs : List Nat} {it : M (List D)} {bd : D → Env → Option Env} {ee : M D} {f : D → D} (h : it ρ = .ok ds ρ) (hb : backE ρ (wipeE ρ vs) vs = ρ)
    (hs : ∀ d ∈ ds, ∃ ρd, bd d (wipeE ρ vs) = some ρd ∧ ee ρd = .ok (f d) ρd ∧ pureD (f d) = true ∧ wipeE ρd vs = wipeE ρ vs) : eLc vs it bd ebYes ee ρ = .ok (.lst (ds.map f)) ρ := by
  have := l_pure (tt := ebYes) (p := fun _ => true) (f := f) h hb (fun d m => let ⟨ρd, h1, h2, h3, h4⟩ := hs d m; ⟨ρd, h1, rfl, fun _ => ⟨h2, h3⟩, h4⟩)
  rw [List.filter_eq_self.mpr (fun _ _ => rfl)] at this
  exact this
/-- a comprehension over told items that changes nothing -/
theorem l_pureA {α : Type} {vs : List Nat} {it : M (List D)} {bd : D → Env → Option Env} {tt : M Bool} {ee : M D} {xs : List α} {e : α → D} {p : α → Bool} {f : α → D} (h : it ρ = .ok (xs.map e) ρ) (hb : backE ρ (wipeE ρ vs) vs = ρ)
    (hs : ∀ x ∈ xs, ∃ ρd, bd (e x) (wipeE ρ vs) = some ρd ∧ tt ρd = .ok (p x) ρd ∧ (p x = true → ee ρd = .ok (f x) ρd ∧ pureD (f x) = true) ∧ wipeE ρd vs = wipeE ρ vs) : eLc vs it bd tt ee ρ = .ok (.lst ((xs.filter p).map f)) ρ := by
  refine l_comp h ?_ hb
  clear h hb
  induction xs with
  | nil => rfl
  | cons x xs ih =>
    obtain ⟨ρd, h1, h2, h3, h4⟩ := hs x (by simp)
    have ih := ih fun y m => hs y (by simp [m])
    rw [List.map_cons]
    unfold lcLoop
    rw [h1]
    simp only
    rw [h2]
    cases hp : p x with
    | false =>
      simp only
      rw [h4, ih, List.filter_cons_of_neg (by simp [hp])]
    | true =>
      simp only
      obtain ⟨h5, h6⟩ := h3 hp
      rw [h5]
      simp only
      rw [if_pos h6, h4, ih, List.filter_cons_of_pos (by simp [hp])]
      rfl
theorem l_mapA {α : Type} {vs : List Nat} {it : M (List D)} {bd : D → Env → Option Env} {ee : M D} {xs : List α} {e f : α → D} (h : it ρ = .ok (xs.map e) ρ) (hb : backE ρ (wipeE ρ vs) vs = ρ)
    (hs : ∀ x ∈ xs, ∃ ρd, bd (e x) (wipeE ρ vs) = some ρd ∧ ee ρd = .ok (f x) ρd ∧ pureD (f x) = true ∧ wipeE ρd vs = wipeE ρ vs) : eLc vs it bd ebYes ee ρ = .ok (.lst (xs.map f)) ρ := by
  have := l_pureA (tt := ebYes) (p := fun _ => true) (f := f) h hb (fun d m => let ⟨ρd, h1, h2, h3, h4⟩ := hs d m; ⟨ρd, h1, rfl, fun _ => ⟨h2, h3⟩, h4⟩)
  rw [List.filter_eq_self.mpr (fun _ _ => rfl)] at this
  exact this
end
theorem any_ok {α : Type} {xs : List α} {g : α → Bool} : dAny [.lst (xs.map fun x => .bl (g x))] = some (.bl (xs.any g)) := by
  have e : (xs.map fun x => D.bl (g x)) = (xs.map g).map D.bl := by rw [List.map_map]; rfl
  show (blsD _).map _ = _
  rw [e, blsD_map]
  simp [List.any_map]
theorem all_ok {α : Type} {xs : List α} {g : α → Bool} : dAll [.lst (xs.map fun x => .bl (g x))] = some (.bl (xs.all g)) := by
  have e : (xs.map fun x => D.bl (g x)) = (xs.map g).map D.bl := by rw [List.map_map]; rfl
  show (blsD _).map _ = _
  rw [e, blsD_map]
  simp [List.all_map]
theorem sum_ok (ns : List Int) : dSum [.tup (ns.map D.int)] = some (.int ns.sum) := by show (intsD _).map _ = _; rw [intsD_map]; rfl
section
variable {it : M (List D)} {bd : D → Env → Option Env} {body : Ms} {ρ ρ1 ρ2 : Env} {d y : D}
theorem for_nil (h : it ρ = .ok [] ρ) : sFor [] it bd body ρ = .nx ρ := by unfold sFor; rw [h]; rfl
theorem for_oneR (h : it ρ = .ok [d] ρ) (hb : bd d ρ = some ρ1) (hr : body ρ1 = .ret y ρ2) : sFor [] it bd body ρ = .ret y ρ2 := by
  unfold sFor
  rw [h]
  show wipeSo [] (loopS bd body [d] ρ) = _
  rw [wipeSo_nil]
  unfold loopS
  rw [hb]
  show (match body ρ1 with | .nx ρ2 => _ | .ct ρ2 => _ | .bk ρ2 => _ | .ret d ρ2 => _ | .er c fs ρ2 => _ | .st => _) = _
  rw [hr]
theorem for_oneN (h : it ρ = .ok [d] ρ) (hb : bd d ρ = some ρ1) (hr : body ρ1 = .nx ρ2) : sFor [] it bd body ρ = .nx ρ2 := by
  unfold sFor
  rw [h]
  show wipeSo [] (loopS bd body [d] ρ) = _
  rw [wipeSo_nil]
  unfold loopS
  rw [hb]
  show (match body ρ1 with | .nx ρ2 => _ | .ct ρ2 => _ | .bk ρ2 => _ | .ret d ρ2 => _ | .er c fs ρ2 => _ | .st => _) = _
  rw [hr]; rfl
end
theorem mul_r {i j : Int} (h : small64' j = true) : dMul (.int i) (.int j) = some (.int (i * j)) := if_pos (by simp [h])
theorem mul_l {i j : Int} (h : small64' i = true) : dMul (.int i) (.int j) = some (.int (i * j)) := if_pos (by simp [h])
theorem mod_p {i j : Int} (h : 0 < j) : dMod (.int i) (.int j) = some (.int (i % j)) := if_pos h
theorem fdiv_p {i j : Int} (h : 0 < j) (h2 : j < 1073741824) : dFdiv (.int i) (.int j) = some (.int (i / j)) := if_pos (by simp [h, h2])
theorem p_disp {as : M (List D)} {ρ ρ1 : Env} {ds : List D} {kvs : List (Key × D)} (ha : as ρ = .ok ds ρ1) (hp : EL.pairD ds = some kvs) (h1 : (kvs.map (·.1)).Nodup) (h2 : kvs.length ≤ 15) : eDisp as ρ = .ok (.dic kvs) ρ1 := by
  unfold eDisp
  rw [ha]
  show (match EL.pairD ds with | some kvs => _ | none => _) = _
  rw [hp]
  exact if_pos ⟨h1, h2⟩
end EL

/-! the end of a law whose promise hangs on the world -/
namespace EL
open PySem PySem.Spec PyProof.Rows
open L2 hiding XE
theorem walk_w {lw : PySem.W.OpenLaw} {top lev : Nat} {vw : Program} {lo : List Str} {Xp : (Str → Option Value) → Heap → Prop} {Yp : World → Heap → Prop} {dr : DefRec} {x : Str} (Cxx : World → CXT) (h1 : lw.most = some top) (h2 : top ≤ sizeLine) (h3 : dr.params.defaults = []) (h4 : Room lev callerA)
    (Fz : ∀ (wd : World) (ns : Str → Option Value) (at_ : Addr) (hp : Heap), Yp wd hp → hp.Ns mainGlobals ns → ns dr.name = some (.ref at_) →
      ∃ (Kf : PySem.W.Frag) (fd : FuncData) (sp : Sp), Kf.In hp ∧ (∀ (st : Shared) (v : Value), BindsTo st fd ⟨[v], []⟩ [(x, v)]) ∧
        (∀ (Ha : Hp) (a : Addr) (zs : List Int), zs.length ≤ top → Only Ha → SqL Kf Ha a (zs.map V.int) → sp [.ref a] Ha (fun v _ => v = .bl true) fun _ _ _ => False) ∧
        ∀ bs : Heap, Kf.In bs → bs.Ns mainGlobals ns → FnOk lw.prog wd Kf ns bs (Cxx wd) lev at_ fd [x] sp)
    (hno : ∀ (wd : World) (Ha : Hp) (st : Shared) (u : Value) (st' : Shared), Cxx wd [] Ha st (fun _ _ _ => False) u st' → False) :
    PySem.W.WalkO vw lo Xp Yp lw.row.toRowW dr [] (fun g us => PySem.call g us) := by
  refine Att.attach_call h1 h3 fun wd z0 z1 ns mb at_ ob pm cd doc a us zs G Y _ _ _ hmg hobj hints hlen hg => ?_
  obtain ⟨Kf, fd, sp, kx, hb, hs, hF⟩ := Fz wd ns at_ _ Y G.T.g hmg
  exact law_call kx G.T.g G.T.b G.T.builtins G.T.nolimit hg hobj hints (Nat.le_trans hlen h2) h4 hF hb (fun Ha hO hS => hs Ha a zs hlen hO hS) fun Ha u st' => hno wd Ha z1 u st'
theorem cx_no {P : Program} {wd : World} {Ha : Hp} {st st' : Shared} {u : Value} (h : L2.CX P wd [] Ha st (fun _ _ _ => False) u st') : False := by
  obtain ⟨_, _, _, _, _, _, _, _, _, _, _, _, z⟩ := h
  exact z
/-- the law's argument, a list of ints that is only read -/
theorem script_ok {C : Core} {F : List D → Fr} {H : Hp} {a : Addr} {ns : List Int} {o : D} (hl : ns.length ≤ 63) (hO : Only H) (hS : SqL C.K H a (ns.map V.int)) (hF : F [.scr (ns.map .int)] = .ok (.bl true) o) : spD C 1 none .pu F [.ref a] H (fun v _ => v = .bl true) fun _ _ _ => False := by
  have rr : ∀ ms : List Int, Reps C (fun _ => False) H (ms.map D.int) (ms.map V.int) [] := fun ms => by
    induction ms with
    | nil => exact .nil
    | cons m ms ih => exact .cons (F := []) (G := []) (.int m) ih
  have hR : SqR C.K H a (ns.map V.int) := by
    rcases hS with (h | h) | h
    · rcases hO a with n | ⟨u, xs, n⟩ <;> rw [n] at h <;> cases h
    · exact .inl h
    · exact .inr h
  refine ⟨fun _ => False, [.scr (ns.map .int)], fun _ => [], rfl, ⟨⟨rfl, fun i d e => ?_⟩, (fun i hi => by cases hi), fun a h => h.elim⟩, ?_⟩
  · cases i with
    | zero => cases e; exact ⟨_, rfl, .scr hR (by rw [List.length_map, sizeLine_eq]; omega) (rr ns)⟩
    | succ i => cases e
  · rw [hF]
    intro v H' Fo G _ r _
    cases r; rfl
end EL

/-! a op b op c -/
namespace EL
open PySem PySem.Spec PyProof.Rows
open L2 hiding XE
section
variable {X : Cx} {S : Sig} {W : WX} {m1 m2 m3 : Md} {e1 e2 e3 : Bool} {pos : Pos} {a b c : Expr} {ea eb ec : M D}
def eChain (g h : D → D → Option D) (a b c : M D) : M D := fun ρ => bindR (a ρ) fun x ρ => bindR (b ρ) fun y ρ => match g x y with
  | some (.bl true) => bindR (c ρ) fun z ρ => lift (h y z) ρ
  | some (.bl false) => .ok (.bl false) ρ
  | _ => .st
theorem re_chain {g h : D → D → Option D} {r r' : R2} {ta tb tc : TE} (hg : Op2 S.c r g .pu) (hh : Op2 S.c r' h .pu) (ra : RE S W m1 e1 ea ta) (rb : RE S W m2 e2 eb tb) (rc : RE S W m3 e3 ec tc) (z2 : e2 = false) (z3 : e3 = false) : RE S W .pu e1 (eChain g h ea eb ec) (tChain r r' ta tb tc) := fun B ρ σ Fs H Q I h0 => by
  subst z2; subst z3
  refine ra B ρ σ Fs H _ I (h0.bind.imp fun x ρ1 _ h1 vx H1 Fs1 F1 p1 => rb B ρ1 σ Fs1 H1 _ p1.env (h1.bind.imp fun y ρ2 _ h2 vy H2 Fs2 F2 p2 => ?_))
  have rx := p1.rep.same (p2.step.noeff rfl).2.2
  have st : Step S e1 ρ Fs H ρ2 Fs2 H2 := by simpa using p1.step.trans p2.step
  cases hx : g x y with
  | none => rw [hx] at h2; exact h2.elim
  | some d =>
    rw [hx] at h2
    cases d <;> try (exact h2.elim)
    rename_i k
    refine hg B.R H2 x y (.bl k) vx vy F1 F2 _ rx p2.rep hx fun v H3 F3 q => ?_
    have I3 := p2.env.same q.same
    have st3 : Step S e1 ρ Fs H ρ2 Fs2 H3 := by simpa using st.trans (e2 := false) (Step.of_same q.same)
    have ev : v = .bl k := by have := q.rep; cases this; rfl
    refine ⟨k, ev, ?_⟩
    cases k with
    | false => exact iteF (h2 _ H3 Fs2 [] ⟨I3, .bl false, st3, rfl⟩)
    | true =>
      refine iteT (rc B ρ2 σ Fs2 H3 _ I3 (h2.bind.imp fun z ρ3 _ h3 vz H4 Fs4 F4 p4 => ?_))
      obtain ⟨d', hd, k'⟩ := h3.lift
      have ry := (p2.rep.same q.same).same (p4.step.noeff rfl).2.2
      refine hh B.R H4 y z d' vy vz F2 F4 Q ry p4.rep hd fun w H5 F5 q5 => k' w H5 Fs4 F5 ⟨p4.env.same q5.same, q5.rep, ?_, q5.md⟩
      have s5 : Step S e1 ρ Fs H ρ3 Fs4 H4 := by simpa using st3.trans p4.step
      simpa using s5.trans (e2 := false) (Step.of_same q5.same)
theorem xe_chain {op op' : CmpOp} {g h : D → D → Option D} {r r' : R2} (ho : OpR X (compareOp op) r) (hg : Op2 S.c r g .pu) (ho' : OpR X (compareOp op') r') (hh : Op2 S.c r' h .pu) (ha : XE X S W a m1 e1 ea) (hb : XE X S W b m2 e2 eb) (hc : XE X S W c m3 e3 ec) (z2 : e2 = false := by rfl) (z3 : e3 = false := by rfl)
    (hm : lastMarks [op, op'] [b, c] = false := by with_unfolding_all rfl) : XE X S W (.Compare a [op, op'] [b, c] pos) .pu e1 (eChain g h ea eb ec) := by
  obtain ⟨ta, pa, ra⟩ := ha.ex
  obtain ⟨tb, pb, rb⟩ := hb.ex
  obtain ⟨tc, pc, rc⟩ := hc.ex
  exact ⟨_, pe_chain ho ho' pa pb pc hm, re_chain hg hh ra rb rc z2 z3⟩
theorem xt_chain {op op' : CmpOp} {g h : D → D → Option D} {r r' : R2} (ho : OpR X (compareOp op) r) (hg : Op2 S.c r g .pu) (ho' : OpR X (compareOp op') r') (hh : Op2 S.c r' h .pu) (ha : XE X S W a m1 e1 ea) (hb : XE X S W b m2 e2 eb) (hc : XE X S W c m3 e3 ec) (z2 : e2 = false := by rfl) (z3 : e3 = false := by rfl)
    (hm : lastMarks [op, op'] [b, c] = false := by with_unfolding_all rfl) : XT X S W (.Compare a [op, op'] [b, c] pos) e1 (ebV (eChain g h ea eb ec)) := by
  obtain ⟨ta, pa, ra⟩ := ha.ex
  obtain ⟨tb, pb, rb⟩ := hb.ex
  obtain ⟨tc, pc, rc⟩ := hc.ex
  exact ⟨_, pt_chain ho ho' pa pb pc hm, rt_of (re_chain hg hh ra rb rc z2 z3) fun σ H Q h => h⟩
theorem p_chain {g h : D → D → Option D} {x y z d : D} {ρ : Env} {k : Bool} (ha : ea ρ = .ok x ρ) (hb : eb ρ = .ok y ρ) (hg : g x y = some (.bl k)) (hc : k = true → ec ρ = .ok z ρ ∧ h y z = some d) (hf : k = false → d = .bl false) : eChain g h ea eb ec ρ = .ok d ρ := by
  unfold eChain
  rw [ha]
  show bindR (eb ρ) _ = _
  rw [hb]
  show (match g x y with | some (.bl true) => _ | some (.bl false) => _ | _ => _) = _
  rw [hg]
  cases k with
  | true =>
    obtain ⟨h1, h2⟩ := hc rfl
    show bindR (ec ρ) _ = _
    rw [h1]
    show lift (h y z) ρ = _
    rw [h2]; rfl
  | false => rw [hf rfl]
end
end EL

/-! zip of two plain tuples -/
namespace EL
open PySem PySem.Spec PyProof.Rows
open L2 hiding XE
section
variable {X : Cx} {S : Sig} {W : WX} {m m1 m2 : Md} {e1 e2 : Bool} {pos : Pos}
def zipD (ds es : List D) : List D := (List.range (min ds.length es.length)).map fun i => .tup [ds.getD i .non, es.getD i .non]
def itZip (a b : M D) : M (List D) := fun ρ => bindR (a ρ) fun x ρ => bindR (b ρ) fun y ρ => match x, y with
  | .tup ds, .tup es => if pureDs ds && pureDs es then .ok (zipD ds es) ρ else .st
  | _, _ => .st
theorem zip_get {ds es : List D} {i : Nat} {d : D} (h : (zipD ds es)[i]? = some d) : ∃ y z, ds[i]? = some y ∧ es[i]? = some z ∧ d = .tup [y, z] := by
  have hl : i < min ds.length es.length := by simpa [zipD] using (List.getElem?_eq_some_iff.mp h).1
  have l1 : i < ds.length := by omega
  have l2 : i < es.length := by omega
  refine ⟨ds[i], es[i], List.getElem?_eq_getElem l1, List.getElem?_eq_getElem l2, ?_⟩
  simp only [zipD, List.getElem?_map, List.getElem?_range hl, Option.map_some, Option.some.injEq] at h
  rw [← h, List.getD_eq_getElem?_getD, List.getElem?_eq_getElem l1, List.getD_eq_getElem?_getD, List.getElem?_eq_getElem l2]; rfl
theorem xi_zip {a b : Expr} {ea eb : M D} {p tpos : Pos} {elts : List Expr} {kk : Nat} (hK : X.K = S.c.K) (hg : Gl X "zip") (hmg : X.mg "zip" = none) (ha : XE X S W a m1 e1 ea) (hb : XE X S W b m2 e2 eb) (z : (!e2 || m1.sep) = true := by rfl) (hs : starEach [a, b] X.env = (false, eval a X.env) :: starEach [b] X.env := by rfl) (hs2 : starEach [b] X.env = (false, eval b X.env) :: starEach [] X.env := by rfl) (hpl : (backTo pos (starEach [b] X.env)).any (·.1) = false := by rfl) :
    XIt X S W (.Tuple elts kk tpos) (.Call (.Name "zip" p) [a, b] [] pos) [] true (e1 || e2) (itZip ea eb) := by
  obtain ⟨ta, pa, ra⟩ := ha.ex
  obtain ⟨tb, pb, rb⟩ := hb.ex
  refine ⟨_, RZ.pi_zipA hg hmg (pa_cons pa (pa_cons pb pa_nil hs2) hs) hs hpl, fun B ρ σ Fs H Q I h => ?_⟩
  have go : ta σ H fun v H1 => tb σ H1 fun w H2 => ∃ c d xs ys, [v, w] = [.ref c, .ref d] ∧ ((SqL X.K H2 c xs ∧ SqL X.K H2 d ys ∧ Q (Itz X.K c d) H2) ∨ (SqT X.K H2 c xs ∧ SqT X.K H2 d ys ∧ Q (RZ.ItzT X.K c d) H2)) := by
    refine ra B ρ σ Fs H _ I (h.bind.imp fun x ρ1 _ h1 v H1 Fs1 F1 p1 => rb B ρ1 σ Fs1 H1 _ p1.env (h1.bind.imp fun y ρ2 _ h2 w H2 Fs2 F2 p2 => ?_))
    split at h2
    case h_2 => exact h2.elim
    rename_i ds es _ _
    split at h2
    case isFalse => exact h2.elim
    rename_i hp
    simp only [Bool.and_eq_true] at hp
    obtain ⟨c, xs, rfl, hx, lx, rx⟩ := (p1.over p2.step z).tup_inv
    obtain ⟨d, ys, rfl, hy, ly, ry⟩ := p2.rep.tup_inv
    have f1 := rx.pure hp.1
    have f2 := ry.pure hp.2
    subst f1; subst f2
    rw [hK]
    have k1 := rx.length
    have k2 := ry.length
    refine ⟨c, d, xs, ys, rfl, .inr ⟨hx, hy, h2 _ H2 Fs2 [] p2.env (p1.step.trans p2.step) Wk.nil ⟨fun H3 g i e he => ?_, fun H3 g i hi => ?_, by simp [zipD]; omega⟩⟩⟩
    all_goals have tx := (Rep.keep g (.tup hx lx rx)); cases tx with | tup hx3 _ rx3 => ?_
    all_goals have ty := (Rep.keep g (.tup hy ly ry)); cases ty with | tup hy3 _ ry3 => ?_
    · obtain ⟨y1, z1, q1, q2, rfl⟩ := zip_get he
      obtain ⟨u, hu, ru⟩ := rx3.at' q1
      obtain ⟨w, hw, rw'⟩ := ry3.at' q2
      refine ⟨⟨_, _, u, w, hx3, hy3, hu, hw⟩, fun t H4 ht => ?_⟩
      obtain ⟨T, u', w', rfl, hT, rfl, k3, k4⟩ := ht
      have e3 := k3 _ hx3
      have e4 := k4 _ hy3
      rw [hu] at e3; rw [hw] at e4
      cases e3; cases e4
      exact ⟨same_upd hT, [], .tup (SqT.of upd_same) (by show 2 ≤ sizeLine; decide) (.cons (F := []) (G := []) (ru.same (same_upd hT)) (.cons (F := []) (G := []) (rw'.same (same_upd hT)) .nil)), fun _ => rfl, fun a h => by cases h⟩
    · refine ⟨_, _, hx3, hy3, ?_⟩
      rw [← rx3.length, ← ry3.length]
      simp only [zipD, List.length_map, List.length_range] at hi
      omega
  exact go
end
end EL

/-! a new list that nobody will change -/
namespace EL
open PySem PySem.Spec PyProof.Rows
open L2 hiding XE
section
variable {X : Cx} {S : Sig} {W : WX} {e1 : Bool}
/-- from here on it is frozen -/
def tIce (t : TE) : TE := fun σ H Q => t σ H fun v H1 => ∃ a xs, v = .ref a ∧ H1 a = some (.lst xs) ∧ ∀ o, Q v (upd H1 a (.frz o (.lst xs)))
theorem Inv.ice {pins : List (Addr × Obj)} {σ : L2.St} {H : Hp} {s : Shared} {a : Addr} {xs : List V} (I : Inv X pins σ H s) (h : H a = some (.lst xs)) : ∃ o, Inv X pins σ (upd H a (.frz o (.lst xs))) s := by
  obtain ⟨z, its, n, r, e⟩ := I.hok a _ h
  refine ⟨_, L2.Inv.write (x := a) (e := a) (t' := s.toks) (h' := s.heap) (o := .frz { cls := .type "list", data := .seq its.toArray n } (.lst xs)) I (by rw [h]; exact trivial) (.inl rfl) (fun b u _ hu => hu) ⟨_, e⟩ ⟨e, z, its, n, r, e⟩⟩
theorem pe_ice {e : Expr} {t : TE} (h : PE X e t) : PE X e (tIce t) := by
  refine ⟨fun pins s σ H Q I hq => thn (h.run pins s σ H _ I hq) fun u s1 ⟨v, H1, I1, r, a, xs, ev, ha, q⟩ => ?_⟩
  obtain ⟨o, I2⟩ := Inv.ice I1 ha
  exact ⟨v, _, I2, r, q o⟩
def eIce (a : M D) : M D := fun ρ => bindR (a ρ) fun d ρ => match d with | .lst ds => if pureDs ds then .ok (.ice ds) ρ else .st | _ => .st
theorem XE.ice {e : Expr} {ev : M D} (h : XE X S W e .fr e1 ev) : XE X S W e .pu e1 (eIce ev) := by
  obtain ⟨t, p, r⟩ := h.ex
  refine ⟨_, pe_ice p, fun B ρ σ Fs H Q I h0 => r B ρ σ Fs H _ I (h0.bind.imp fun d ρ1 _ h1 v H1 Fs1 F q => ?_)⟩
  split at h1
  case h_2 => exact h1.elim
  rename_i ds
  split at h1
  case isFalse => exact h1.elim
  rename_i hp
  obtain ⟨a, vs, G, rfl, ha, hl, rr, rfl⟩ := rep_lst q.rep
  have e0 := rr.pure hp
  subst e0
  have md : MdOk S B .fr ρ Fs H ρ1 Fs1 [a] := q.md
  have na : ∀ i, Own S ρ1 i → a ∉ Fs1 i := fun i oi => md.2.2 i oi a (by simp)
  have nP : ¬ B.P0 a := fun pa => by
    rcases md.2.1 a (by simp) with n | ⟨j, oj, mj⟩
    · exact I.fresh n pa
    · exact (I.own j oj).2 a mj pa
  have nH0 : ∀ o, B.H0 a = some o → Mu S.c B.R o a := fun o ho => Classical.byContradiction fun z => by
    have := q.env.prot a o (.inr z) ho
    rw [ha] at this; cases this
    exact z trivial
  refine ⟨a, vs, rfl, ha, fun o => h1 _ _ Fs1 [] ⟨?_, .ice upd_same hl (rr.keep fun b u hb z => ?_), ?_, rfl⟩⟩
  · have E := q.env
    have kp : ∀ {d' : D} {w : V} {F' : List Addr}, Rep S.c B.R H1 d' w F' → a ∉ F' → Rep S.c B.R (upd H1 a (.frz o (.lst vs))) d' w F' := fun rw' hn => rw'.keep fun b u hb z => by
      have ne : b ≠ a := fun e => by
        subst e
        rw [ha] at hb; cases hb
        rcases z with z | z
        · exact z trivial
        · exact hn z
      rw [upd_ne ne]; exact hb
    refine ⟨E.len, fun i d' e => ?_, E.pl, E.par, E.bw, E.own, E.dis, E.iov, fun b u p' k => ?_, E.pdom, fun b u k => ?_⟩
    · obtain ⟨w, hw, rw'⟩ := E.slot i d' e
      refine ⟨w, hw, kp rw' fun z => ?_⟩
      cases hk : S.kd i with
      | pl => rw [E.pl i d' e hk] at z; cases z
      | par => exact nP (E.parP e hk a z)
      | own => exact na i ⟨.inl hk, d', e⟩ z
      | io => exact na i ⟨.inr hk, d', e⟩ z
      | bw => exact nP (E.bw i d' e hk a z)
    · have ne : b ≠ a := fun e => by
        subst e
        rcases p' with p' | p'
        · exact nP p'
        · exact p' (nH0 u k)
      rw [upd_ne ne]; exact E.prot b u p' k
    · by_cases e : b = a
      · subst e; exact ⟨_, upd_same⟩
      · rw [upd_ne e]; exact E.tr b u k
  · have ne : b ≠ a := fun e => by
      subst e
      rw [ha] at hb; cases hb
      rcases z with z | z
      · exact z trivial
      · cases z
    rw [upd_ne ne]; exact hb
  · have st := q.step
    refine ⟨fun b u hu => ?_, st.grow, fun b hb => ?_, fun z => ?_⟩
    · rcases st.chg b u hu with k | k
      · by_cases e : b = a
        · subst e
          rcases md.2.1 b (by simp) with n | k2
          · rw [hu] at n; cases n
          · exact .inr k2
        · exact .inl (by rw [upd_ne e]; exact k)
      · exact .inr k
    · by_cases e : b = a
      · subst e; rw [upd_same] at hb; cases hb
      · rw [upd_ne e] at hb; exact st.dom b hb
    · obtain ⟨g1, g2, g3⟩ := st.noeff z
      refine ⟨g1, g2, fun b u hu => ?_⟩
      have ne : b ≠ a := fun e => by
        subst e
        rcases md.2.1 b (by simp) with n | ⟨j, oj, mj⟩
        · rw [hu] at n; cases n
        · have oj' : Own S ρ1 j := by rw [g1]; exact oj
          exact na j oj' (by rw [g2 j oj]; exact mj)
      rw [upd_ne ne]; exact g3 b u hu
end
end EL

/-! -x; methods that only read; list.index -/
namespace EL
open PySem PySem.Spec PyProof.Rows
open L2 hiding XE
section
variable {X : Cx} {S : Sig} {C : Core} {W : WX} {m m1 m2 : Md} {e1 e2 : Bool} {pos : Pos} {a : Expr} {ea : M D}
def dNeg : D → Option D | .int i => some (.int (-i)) | _ => none
theorem op1_neg : Op1 C (rU fun i => .int (-i)) dNeg .pu := by
  intro R H d1 d x F1 Q r hg k
  cases d1 <;> simp only [dNeg] at hg <;> cases hg
  exact ⟨_, r.int_inv, k _ _ [] (VP.val (.int _))⟩
theorem x_neg (q : Cq X S) (ha : XE X S W a m1 e1 ea) : XE X S W (.UnaryOp .USub a pos) .pu e1 (eUn dNeg ea) := xe_un un_neg op1_neg ha
/-- o.m(e, ..), the object and the values only read -/
def OpM (C : Core) (r : V → List V → Hp → VK → Prop) (g : List D → Option D) (m : Md) : Prop := OpN C (fun xs H Q => ∃ x ys, xs = x :: ys ∧ r x ys H Q) g m
def eBm (T : String) (g : List D → Option D) (a : M D) (b : M (List D)) : M D := fun ρ => bindR (a ρ) fun x ρ => if tyM x = some T then bindR (b ρ) fun ds ρ => lift (g (x :: ds)) ρ else .st
theorem xe_bm {T id : String} {name : Str} {apos : Pos} {r : V → List V → Hp → VK → Prop} {g : List D → Option D} {o e : Expr} {es : List Expr} {eb : M (List D)} (pa : PlainAttrs T) (slot : Slot T name id) (hty : typeOf (.builtin id) = Pure.pure (.type "method_descriptor")) (hm : MtR X id r) (hg : OpM S.c r g m) (ho : XE X S W o m1 e1 ea) (ha : XA X S W (e :: es) m2 e2 eb) (z : (!e2 || m1.sep) = true := by rfl)
    (hbase : attributeBase o name X.env (eval o X.env) = eval o X.env := by rfl)
    (hfew : ((backTo pos (starEach (e :: es) X.env)).all (fun x => !x.1) && (backToKw pos (keywordEach [] X.env)).all (fun x => x.1.isSome) && decide ((e :: es).length + ([] : List Keyword).length + (if ([] : List Keyword).isEmpty then 0 else 1) < 30)) = true := by rfl)
    (hline : (apos.endLine == pos.line) = true := by rfl) (hs : starEach (e :: es) X.env = (false, eval e X.env) :: starEach es X.env := by rfl) (hplain : (backTo pos (starEach es X.env)).any (·.1) = false := by rfl) :
    XE X S W (.Call (.Attribute o name apos) (e :: es) [] pos) m (e1 || e2) (eBm T g ea eb) := by
  obtain ⟨to, po, ro⟩ := ho.ex
  obtain ⟨tb, pb, rb⟩ := ha.ex
  refine ⟨_, pe_bm pa slot hty hm po pb hbase hfew hline hs hplain, fun B ρ σ Fs H Q I h => ro B ρ σ Fs H _ I (h.bind.imp fun d0 ρ1 _ h1 x H1 Fs1 F p1 => ?_)⟩
  split at h1
  case isFalse => exact h1.elim
  rename_i ht
  refine ⟨ty_ok p1.rep ht, rb B ρ1 σ Fs1 H1 _ p1.env (h1.bind.imp fun ds ρ2 _ h2 vs H2 Fs2 G p2 => ?_)⟩
  obtain ⟨d, hd, k⟩ := h2.lift
  have q : PostA S B (m1.join m2) (e1 || e2) σ ρ Fs H ρ2 (d0 :: ds) (x :: vs) H2 Fs2 (F ++ G) := ⟨p2.env, .cons (p1.over p2.step z) p2.rep, p1.step.trans p2.step, MdOk.join p1.env p1.step p2.step p1.md p2.md p1.rep.some z⟩
  obtain ⟨x', ys, e, hr⟩ := hg B.R H2 (d0 :: ds) d (x :: vs) (F ++ G) Q q.rep hd fun v H3 F3 w => k v H3 Fs2 F3 (VP.post q w)
  cases e
  exact hr
def dIndex : List D → Option D
  | [.lst ds, y] => if okD (.lst ds) && okD y then (ds.findIdx? fun z => eqvD z y).map fun j => .int (j : Nat) else none
  | _ => none
theorem toPys_get : ∀ {ds : List D} {ps : List PyData} {j : Nat} {d : D}, toPys ds = some ps → ds[j]? = some d → ∃ p, ps[j]? = some p ∧ toPy d = some p
  | [], ps, j, d, h, hj => by simp at hj
  | d0 :: ds, ps, j, d, h, hj => by
    simp only [toPys] at h
    cases h1 : toPy d0 with
    | none => rw [h1] at h; cases h
    | some p0 =>
      rw [h1] at h
      cases h2 : toPys ds with
      | none => rw [h2] at h; cases h
      | some qs =>
        rw [h2] at h; cases h
        cases j with
        | zero => simp at hj; subst hj; exact ⟨p0, rfl, h1⟩
        | succ j => obtain ⟨p, k1, k2⟩ := toPys_get h2 (j := j) (by simpa using hj); exact ⟨p, by simpa using k1, k2⟩
theorem toPys_len : ∀ {ds : List D} {ps : List PyData}, toPys ds = some ps → ds.length = ps.length
  | [], ps, h => by cases h; rfl
  | d0 :: ds, ps, h => by
    simp only [toPys] at h
    cases h1 : toPy d0 with
    | none => rw [h1] at h; cases h
    | some p0 =>
      rw [h1] at h
      cases h2 : toPys ds with
      | none => rw [h2] at h; cases h
      | some qs => rw [h2] at h; cases h; simp [toPys_len h2]
theorem opm_index (hK : X.K = C.K) : OpM C (rIndexD X.K) dIndex .pu := by
  intro R H ds d xs F Q r hg k
  rw [hK]
  match ds, hg with
  | [.lst ds, y], hg =>
    simp only [dIndex] at hg
    split at hg
    case isFalse => cases hg
    rename_i hc
    simp only [Bool.and_eq_true] at hc
    simp only [Option.map_eq_some_iff] at hg
    obtain ⟨j, hj, rfl⟩ := hg
    obtain ⟨v, ys, F1, F2, rfl, r1, r2, rfl⟩ := r.cons_inv
    obtain ⟨w, zs, F3, F4, rfl, r3, r4, rfl⟩ := r2.cons_inv
    cases r4
    obtain ⟨p, h1, h2⟩ := okD_py hc.1
    obtain ⟨q, h3, h4⟩ := okD_py hc.2
    have h5 := h1
    simp only [toPy, Option.map_eq_some_iff] at h1
    obtain ⟨ps, h6, rfl⟩ := h1
    obtain ⟨a, vs, G, rfl, _⟩ := rep_lst r1
    obtain ⟨hl, he, hn⟩ := List.findIdx?_eq_some_iff_getElem.mp hj
    obtain ⟨z, z1, z2⟩ := toPys_get h6 (List.getElem?_eq_getElem hl)
    refine ⟨_, _, rfl, a, w, q, ps, j, z, rfl, rfl, r1.dp h5, r3.dp h3, h2, h4, z1, by rw [eqv_py z2 h3]; exact he, fun m z' hm hz' => ?_, k _ _ [] (VP.val (.int _))⟩
    have hml : m < ds.length := by omega
    obtain ⟨z3, z4, z5⟩ := toPys_get h6 (List.getElem?_eq_getElem hml)
    rw [z4] at hz'; cases hz'
    rw [eqv_py z5 h3]
    have := hn m hm
    simpa using this
theorem x_index (q : Cq X S) {o e : Expr} {apos : Pos} {eb : M D} (ho : XE X S W o m1 e1 ea) (ha : XE X S W e m2 e2 eb) (z : (!e2 || m1.sep) = true := by rfl) (hbase : attributeBase o "index" X.env (eval o X.env) = eval o X.env := by rfl)
    (hfew : ((backTo pos (starEach (e :: []) X.env)).all (fun x => !x.1) && (backToKw pos (keywordEach [] X.env)).all (fun x => x.1.isSome) && decide ((e :: []).length + ([] : List Keyword).length + (if ([] : List Keyword).isEmpty then 0 else 1) < 30)) = true := by rfl)
    (hline : (apos.endLine == pos.line) = true := by rfl) (hs : starEach (e :: []) X.env = (false, eval e X.env) :: starEach [] X.env := by rfl) (hplain : (backTo pos (starEach [] X.env)).any (·.1) = false := by rfl) :
    XE X S W (.Call (.Attribute o "index" apos) [e] [] pos) .pu (e1 || e2) (eBm "list" dIndex ea (eaCons eb eaNil)) :=
  xe_bm PySem.F.plainAttrs_list PySem.F.slot_list_index PySem.F.type_list_index (mt_indexD q.u65) (opm_index q.K) ho (xa_one ha hs) z hbase hfew hline hs hplain
end
end EL

/-! a reading run by simp: each combinator at a written environment -/
namespace EL
open PySem PySem.Spec PyProof.Rows
open L2 hiding XE
section
def kCons2 (d : D) : List D → Env → Rs (List D) := fun ds ρ => .ok (d :: ds) ρ
@[simp] theorem z_kCons2 {d : D} {ρ : Env} {ds : List D} : kCons2 d ds ρ = .ok (d :: ds) ρ := (rfl)
def kCons (bs : M (List D)) : D → Env → Rs (List D) := fun d ρ => bindR (bs ρ) (kCons2 d)
@[simp] theorem z_kCons {bs : M (List D)} {ρ : Env} {d : D} : kCons bs d ρ = bindR (bs ρ) (kCons2 d) := (rfl)
def kBin2 (g : D → D → Option D) (x : D) : D → Env → Rs D := fun y ρ => lift (g x y) ρ
@[simp] theorem z_kBin2 {g : D → D → Option D} {x : D} {ρ : Env} {y : D} : kBin2 g x y ρ = lift (g x y) ρ := (rfl)
def kBin (g : D → D → Option D) (b : M D) : D → Env → Rs D := fun x ρ => bindR (b ρ) (kBin2 g x)
@[simp] theorem z_kBin {g : D → D → Option D} {b : M D} {ρ : Env} {x : D} : kBin g b x ρ = bindR (b ρ) (kBin2 g x) := (rfl)
def kUn (g : D → Option D) : D → Env → Rs D := fun x ρ => lift (g x) ρ
@[simp] theorem z_kUn {g : D → Option D} {ρ : Env} {x : D} : kUn g x ρ = lift (g x) ρ := (rfl)
def kN (g : List D → Option D) : List D → Env → Rs D := fun ds ρ => lift (g ds) ρ
@[simp] theorem z_kN {g : List D → Option D} {ρ : Env} {ds : List D} : kN g ds ρ = lift (g ds) ρ := (rfl)
def kA1 (g : List D → Option D) : D → Env → Rs D := fun x ρ => lift (g [x]) ρ
@[simp] theorem z_kA1 {g : List D → Option D} {ρ : Env} {x : D} : kA1 g x ρ = lift (g [x]) ρ := (rfl)
def kPure  : D → Env → Rs D := fun d ρ => if pureD d then .ok d ρ else .st
@[simp] theorem z_kPure  {ρ : Env} {d : D} : kPure  d ρ = if pureD d then .ok d ρ else .st := (rfl)
def kTup  : List D → Env → Rs D := fun ds ρ => if pureDs ds && decide (ds.length ≤ sizeLine) then .ok (.tup ds) ρ else .st
@[simp] theorem z_kTup  {ρ : Env} {ds : List D} : kTup  ds ρ = if pureDs ds && decide (ds.length ≤ sizeLine) then .ok (.tup ds) ρ else .st := (rfl)
def kTupX  : List D → Env → Rs D := fun ds ρ => if ds.length ≤ sizeLine then .ok (.tup ds) ρ else .st
@[simp] theorem z_kTupX  {ρ : Env} {ds : List D} : kTupX  ds ρ = if ds.length ≤ sizeLine then .ok (.tup ds) ρ else .st := (rfl)
def kLst  : List D → Env → Rs D := fun ds ρ => if pureDs ds && decide (ds.length ≤ sizeLine) then .ok (.lst ds) ρ else .st
@[simp] theorem z_kLst  {ρ : Env} {ds : List D} : kLst  ds ρ = if pureDs ds && decide (ds.length ≤ sizeLine) then .ok (.lst ds) ρ else .st := (rfl)
def kLstX  : List D → Env → Rs D := fun ds ρ => if ds.length ≤ sizeLine then .ok (.lst ds) ρ else .st
@[simp] theorem z_kLstX  {ρ : Env} {ds : List D} : kLstX  ds ρ = if ds.length ≤ sizeLine then .ok (.lst ds) ρ else .st := (rfl)
def kIf {α : Type} (a b : M α) : Bool → Env → Rs α := fun k ρ => if k then a ρ else b ρ
@[simp] theorem z_kIf {α : Type} {a b : M α} {ρ : Env} {k : Bool} : kIf a b k ρ = if k then a ρ else b ρ := (rfl)
def kBAnd (e : M Bool) : Bool → Env → Rs Bool := fun k ρ => if k then e ρ else .ok false ρ
@[simp] theorem z_kBAnd {e : M Bool} {ρ : Env} {k : Bool} : kBAnd e k ρ = if k then e ρ else .ok false ρ := (rfl)
def kBOr (e : M Bool) : Bool → Env → Rs Bool := fun k ρ => if k then .ok true ρ else e ρ
@[simp] theorem z_kBOr {e : M Bool} {ρ : Env} {k : Bool} : kBOr e k ρ = if k then .ok true ρ else e ρ := (rfl)
def kBNot  : Bool → Env → Rs Bool := fun k ρ => .ok (!k) ρ
@[simp] theorem z_kBNot  {ρ : Env} {k : Bool} : kBNot  k ρ = .ok (!k) ρ := (rfl)
def kSl3 (x : D) (l : Option Int) : Option Int → Env → Rs D := fun h ρ => lift (dSl x l h) ρ
@[simp] theorem z_kSl3 {x : D} {l : Option Int} {ρ : Env} {h : Option Int} : kSl3 x l h ρ = lift (dSl x l h) ρ := (rfl)
def kSl2 (h : M (Option Int)) (x : D) : Option Int → Env → Rs D := fun l ρ => bindR (h ρ) (kSl3 x l)
@[simp] theorem z_kSl2 {h : M (Option Int)} {x : D} {ρ : Env} {l : Option Int} : kSl2 h x l ρ = bindR (h ρ) (kSl3 x l) := (rfl)
def kSl1 (l h : M (Option Int)) : D → Env → Rs D := fun x ρ => bindR (l ρ) (kSl2 h x)
@[simp] theorem z_kSl1 {l h : M (Option Int)} {ρ : Env} {x : D} : kSl1 l h x ρ = bindR (l ρ) (kSl2 h x) := (rfl)
def kSIf (s t : Ms) : Bool → Env → So := fun k ρ => if k then s ρ else t ρ
@[simp] theorem z_kSIf {s t : Ms} {ρ : Env} {k : Bool} : kSIf s t k ρ = if k then s ρ else t ρ := (rfl)
def kRet  : D → Env → So := fun d ρ => .ret d ρ
@[simp] theorem z_kRet  {ρ : Env} {d : D} : kRet  d ρ = .ret d ρ := (rfl)
def kDrop : D → Env → So := fun _ ρ => .nx ρ
@[simp] theorem z_kDrop {ρ : Env} {d : D} : kDrop d ρ = .nx ρ := (rfl)
def kSet (i : Nat) : D → Env → So := fun d ρ => .nx (ρ.set i (some d))
@[simp] theorem z_kSet {i : Nat} {ρ : Env} {d : D} : kSet i d ρ = .nx (ρ.set i (some d)) := (rfl)
def kPar2 (i j : Nat) (x : D) : D → Env → So := fun y ρ => .nx ((ρ.set i (some x)).set j (some y))
@[simp] theorem z_kPar2 {i j : Nat} {x : D} {ρ : Env} {y : D} : kPar2 i j x y ρ = .nx ((ρ.set i (some x)).set j (some y)) := (rfl)
def kPar (i j : Nat) (b : M D) : D → Env → So := fun x ρ => bindS (b ρ) (kPar2 i j x)
@[simp] theorem z_kPar {i j : Nat} {b : M D} {ρ : Env} {x : D} : kPar i j b x ρ = bindS (b ρ) (kPar2 i j x) := (rfl)
end
section
variable {α β : Type} {a b : M D} {d x y : D} {ρ ρ1 : Env} {ds es : List D} {as bs : M (List D)}
@[simp] theorem z_bindR_ok {v : α} {f : α → Env → Rs β} : bindR (.ok v ρ) f = f v ρ := (rfl)
@[simp] theorem z_bindR_st {f : α → Env → Rs β} : bindR .st f = .st := (rfl)
@[simp] theorem z_bindR_er {c : String} {fs : List (Str × D)} {f : α → Env → Rs β} : bindR (.er c fs ρ) f = .er c fs ρ := (rfl)
@[simp] theorem z_bindR_ite {c : Prop} [Decidable c] {r s : Rs α} {f : α → Env → Rs β} : bindR (if c then r else s) f = if c then bindR r f else bindR s f := by split <;> rfl
@[simp] theorem z_bindS_ok {v : α} {f : α → Env → So} : bindS (.ok v ρ) f = f v ρ := (rfl)
@[simp] theorem z_bindS_st {f : α → Env → So} : bindS .st f = .st := (rfl)
@[simp] theorem z_bindS_er {c : String} {fs : List (Str × D)} {f : α → Env → So} : bindS (.er c fs ρ) f = .er c fs ρ := (rfl)
@[simp] theorem z_bindS_ite {c : Prop} [Decidable c] {r s : Rs α} {f : α → Env → So} : bindS (if c then r else s) f = if c then bindS r f else bindS s f := by split <;> rfl
@[simp] theorem z_lift_some : lift (some d) ρ = .ok d ρ := (rfl)
@[simp] theorem z_lift_none : lift none ρ = .st := (rfl)
@[simp] theorem z_lift_ite {c : Prop} [Decidable c] {r s : Option D} : lift (if c then r else s) ρ = if c then lift r ρ else lift s ρ := by split <;> rfl
/-! names, constants -/
def getV (o : Option (Option D)) (ρ : Env) : Rs D := match o with | some (some d) => .ok d ρ | _ => .st
@[simp] theorem z_getV_some : getV (some (some d)) ρ = .ok d ρ := (rfl)
@[simp] theorem z_getV_none : getV (some none) ρ = .st := (rfl)
@[simp] theorem z_eV {i : Nat} : eV i ρ = getV ρ[i]? ρ := by unfold eV getV; rfl
def getM (o : Option (Option D)) (i : Nat) (ρ : Env) : Rs D := match o with | some (some d) => .ok d (ρ.set i none) | _ => .st
@[simp] theorem z_getM_some {i : Nat} : getM (some (some d)) i ρ = .ok d (ρ.set i none) := (rfl)
@[simp] theorem z_eMv {i : Nat} : eMv i ρ = getM ρ[i]? i ρ := by unfold eMv getM; rfl
@[simp] theorem z_eC : eC d ρ = .ok d ρ := (rfl)
@[simp] theorem z_eaNil : eaNil ρ = .ok [] ρ := (rfl)
@[simp] theorem z_eaCons : eaCons a bs ρ = bindR (a ρ) (kCons bs) := (rfl)
@[simp] theorem z_eiNext : eiNext a bs ρ = bindR (a ρ) (kCons bs) := (rfl)
def hereK (o : Option (Option D)) (ds : List D) (ρ : Env) : Rs (List D) := match o with | some (some d) => .ok (d :: ds) ρ | _ => .st
@[simp] theorem z_hereK : hereK (some (some d)) ds ρ = .ok (d :: ds) ρ := (rfl)
def kHere (s : Nat) : List D → Env → Rs (List D) := fun ds ρ => hereK ρ[s]? ds ρ
@[simp] theorem z_kHere {s : Nat} : kHere s ds ρ = hereK ρ[s]? ds ρ := (rfl)
def here0 (o : Option (Option D)) (s : Nat) (bs : M (List D)) (ρ : Env) : Rs (List D) := match o with | some (some _) => bindR (bs ρ) fun ds ρ => hereK ρ[s]? ds ρ | _ => .st
@[simp] theorem z_here0 {s : Nat} : here0 (some (some d)) s bs ρ = bindR (bs ρ) (kHere s) := (rfl)
@[simp] theorem z_eiHere {s : Nat} : eiHere s bs ρ = here0 ρ[s]? s bs ρ := by
  unfold eiHere here0
  cases ρ[s]? with
  | none => rfl
  | some o => cases o <;> rfl
/-! operations -/
@[simp] theorem z_eBin {g : D → D → Option D} : eBin g a b ρ = bindR (a ρ) (kBin g b) := (rfl)
@[simp] theorem z_eUn {g : D → Option D} : eUn g a ρ = bindR (a ρ) (kUn g) := (rfl)
@[simp] theorem z_eN {g : List D → Option D} : eN g as ρ = bindR (as ρ) (kN g) := (rfl)
@[simp] theorem z_eA1 {g : List D → Option D} : eA1 g a ρ = bindR (a ρ) (kA1 g) := by unfold eA1 eN eaCons; cases a ρ <;> rfl
@[simp] theorem z_ePure : ePure a ρ = bindR (a ρ) kPure := (rfl)
@[simp] theorem z_eTup : eTup as ρ = bindR (as ρ) kTup := (rfl)
@[simp] theorem z_eTupX : eTupX as ρ = bindR (as ρ) kTupX := (rfl)
@[simp] theorem z_eLst : eLst as ρ = bindR (as ρ) kLst := (rfl)
@[simp] theorem z_eLstX : eLstX as ρ = bindR (as ρ) kLstX := (rfl)
def callK (r : Fr) (ρ : Env) : Rs D := match r with | .ok d _ => .ok d ρ | .er c fs _ => .er c fs ρ | .st => .st
@[simp] theorem z_callK_ok {o : D} : callK (.ok d o) ρ = .ok d ρ := (rfl)
@[simp] theorem z_callK_er {c : String} {fs : List (Str × D)} {o : D} : callK (.er c fs o) ρ = .er c fs ρ := (rfl)
@[simp] theorem z_callK_ite {c : Prop} [Decidable c] {r s : Fr} : callK (if c then r else s) ρ = if c then callK r ρ else callK s ρ := by split <;> rfl
def kCall (F : List D → Fr) : List D → Env → Rs D := fun ds ρ => callK (F ds) ρ
@[simp] theorem z_kCall {F : List D → Fr} : kCall F ds ρ = callK (F ds) ρ := (rfl)
@[simp] theorem z_eCall {F : List D → Fr} : eCall F as ρ = bindR (as ρ) (kCall F) := (rfl)
def callI (r : Fr) (s : Nat) (ρ : Env) : Rs D := match r with | .ok d o => .ok d (ρ.set s (some o)) | .er c fs o => .er c fs (ρ.set s (some o)) | .st => .st
@[simp] theorem z_callI_ok {o : D} {s : Nat} : callI (.ok d o) s ρ = .ok d (ρ.set s (some o)) := (rfl)
@[simp] theorem z_callI_er {c : String} {fs : List (Str × D)} {o : D} {s : Nat} : callI (.er c fs o) s ρ = .er c fs (ρ.set s (some o)) := (rfl)
@[simp] theorem z_callI_ite {c : Prop} [Decidable c] {r t : Fr} {s : Nat} : callI (if c then r else t) s ρ = if c then callI r s ρ else callI t s ρ := by split <;> rfl
def kCallI (F : List D → Fr) (s : Nat) : List D → Env → Rs D := fun ds ρ => callI (F ds) s ρ
@[simp] theorem z_kCallI {F : List D → Fr} {s : Nat} : kCallI F s ds ρ = callI (F ds) s ρ := (rfl)
@[simp] theorem z_eCallI {F : List D → Fr} {s : Nat} : eCallI F s as ρ = bindR (as ρ) (kCallI F s) := (rfl)
def toBK (d : D) (ρ : Env) : Rs Bool := match d with | .bl b => .ok b ρ | _ => .st
@[simp] theorem z_toBK {k : Bool} : toBK (.bl k) ρ = .ok k ρ := (rfl)
@[simp] theorem z_ebV : ebV a ρ = bindR (a ρ) toBK := (rfl)
def trK (o : Option Bool) (ρ : Env) : Rs Bool := match o with | some b => .ok b ρ | none => .st
@[simp] theorem z_trK {k : Bool} : trK (some k) ρ = .ok k ρ := (rfl)
def kTru  : D → Env → Rs Bool := fun d ρ => trK (truD d) ρ
@[simp] theorem z_kTru  : kTru  d ρ = trK (truD d) ρ := (rfl)
@[simp] theorem z_ebT : ebT a ρ = bindR (a ρ) kTru := (rfl)
def andK (d : D) (b : M D) (ρ : Env) : Rs D := match d with | .bl true => b ρ | .bl false => .ok (.bl false) ρ | _ => .st
@[simp] theorem z_andK {k : Bool} : andK (.bl k) b ρ = if k then b ρ else .ok (.bl false) ρ := by cases k <;> rfl
def kAnd (b : M D) : D → Env → Rs D := fun d ρ => andK d b ρ
@[simp] theorem z_kAnd {b : M D} : kAnd b d ρ = andK d b ρ := (rfl)
@[simp] theorem z_eAndV : eAndV a b ρ = bindR (a ρ) (kAnd b) := (rfl)
def orK (d : D) (b : M D) (ρ : Env) : Rs D := match d with | .bl true => .ok (.bl true) ρ | .bl false => b ρ | _ => .st
@[simp] theorem z_orK {k : Bool} : orK (.bl k) b ρ = if k then .ok (.bl true) ρ else b ρ := by cases k <;> rfl
def kOr (b : M D) : D → Env → Rs D := fun d ρ => orK d b ρ
@[simp] theorem z_kOr {b : M D} : kOr b d ρ = orK d b ρ := (rfl)
@[simp] theorem z_eOrV : eOrV a b ρ = bindR (a ρ) (kOr b) := (rfl)
def notK (d : D) (ρ : Env) : Rs D := match d with | .bl b => .ok (.bl (!b)) ρ | _ => .st
@[simp] theorem z_notK {k : Bool} : notK (.bl k) ρ = .ok (.bl (!k)) ρ := (rfl)
@[simp] theorem z_eNotV : eNotV a ρ = bindR (a ρ) notK := (rfl)
@[simp] theorem z_eIf {c : M Bool} : eIf c a b ρ = bindR (c ρ) (kIf a b) := (rfl)
@[simp] theorem z_ebAnd {c e : M Bool} : ebAnd c e ρ = bindR (c ρ) (kBAnd e) := (rfl)
@[simp] theorem z_ebOr {c e : M Bool} : ebOr c e ρ = bindR (c ρ) (kBOr e) := (rfl)
@[simp] theorem z_ebNot {c : M Bool} : ebNot c ρ = bindR (c ρ) kBNot := (rfl)
@[simp] theorem z_ebIf {c e f : M Bool} : ebIf c e f ρ = bindR (c ρ) (kIf e f) := (rfl)
@[simp] theorem z_ebYes : ebYes ρ = .ok true ρ := (rfl)
@[simp] theorem z_eoNone : eoNone ρ = .ok none ρ := (rfl)
def soK (d : D) (ρ : Env) : Rs (Option Int) := match d with | .int i => .ok (some i) ρ | _ => .st
@[simp] theorem z_soK {i : Int} : soK (.int i) ρ = .ok (some i) ρ := (rfl)
@[simp] theorem z_eoSome : eoSome a ρ = bindR (a ρ) soK := (rfl)
@[simp] theorem z_eSl {l h : M (Option Int)} : eSl a l h ρ = bindR (a ρ) (kSl1 l h) := (rfl)
def chK (o : Option D) (h : D → D → Option D) (y : D) (c : M D) (ρ : Env) : Rs D := match o with | some (.bl true) => bindR (c ρ) fun z ρ => lift (h y z) ρ | some (.bl false) => .ok (.bl false) ρ | _ => .st
@[simp] theorem z_chK {k : Bool} {h : D → D → Option D} {c : M D} : chK (some (.bl k)) h y c ρ = if k then bindR (c ρ) (kBin2 h y) else .ok (.bl false) ρ := by cases k <;> rfl
def kCh2 (g h : D → D → Option D) (c : M D) (x : D) : D → Env → Rs D := fun y ρ => chK (g x y) h y c ρ
@[simp] theorem z_kCh2 {g h : D → D → Option D} {c : M D} {x y : D} {ρ : Env} : kCh2 g h c x y ρ = chK (g x y) h y c ρ := (rfl)
def kCh (g h : D → D → Option D) (b c : M D) : D → Env → Rs D := fun x ρ => bindR (b ρ) (kCh2 g h c x)
@[simp] theorem z_kCh {g h : D → D → Option D} {b c : M D} : kCh g h b c x ρ = bindR (b ρ) (kCh2 g h c x) := (rfl)
@[simp] theorem z_eChain {g h : D → D → Option D} {c : M D} : eChain g h a b c ρ = bindR (a ρ) (kCh g h b c) := (rfl)
def get2K (d : D) (k y : M D) (ρ : Env) : Rs D := match d with
  | .dic kvs => bindR (k ρ) fun k ρ => bindR (y ρ) fun y ρ => (match keyD k with | some q => .ok ((valD kvs q).getD y) ρ | none => .st)
  | _ => .st
def kG2 (kvs : List (Key × D)) (k : D) : D → Env → Rs D := fun y ρ => lift ((keyD k).map fun q => (valD kvs q).getD y) ρ
@[simp] theorem z_kG2 {kvs : List (Key × D)} {k : D} : kG2 kvs k y ρ = lift ((keyD k).map fun q => (valD kvs q).getD y) ρ := (rfl)
def kG1 (kvs : List (Key × D)) (y : M D) : D → Env → Rs D := fun k ρ => bindR (y ρ) (kG2 kvs k)
@[simp] theorem z_kG1 {kvs : List (Key × D)} {y : M D} {k : D} : kG1 kvs y k ρ = bindR (y ρ) (kG2 kvs k) := (rfl)
@[simp] theorem z_get2K {kvs : List (Key × D)} {k y : M D} : get2K (.dic kvs) k y ρ = bindR (k ρ) (kG1 kvs y) := by
  show bindR (k ρ) _ = _
  cases k ρ <;> try rfl
  rename_i v ρ1
  show bindR (y ρ1) _ = bindR (y ρ1) _
  cases y ρ1 <;> try rfl
  simp only [z_bindR_ok, z_kG2]
  cases keyD v <;> rfl
def kG0 (k y : M D) : D → Env → Rs D := fun d ρ => get2K d k y ρ
@[simp] theorem z_kG0 {k y : M D} : kG0 k y d ρ = get2K d k y ρ := (rfl)
@[simp] theorem z_eGet2 {k y : M D} : eGet2 a k y ρ = bindR (a ρ) (kG0 k y) := (rfl)
/-! statements -/
def seqS (r : So) (t : Ms) : So := match r with | .nx ρ => t ρ | r => r
@[simp] theorem z_seqS_nx {t : Ms} : seqS (.nx ρ) t = t ρ := (rfl)
@[simp] theorem z_seqS_ret {t : Ms} : seqS (.ret d ρ) t = .ret d ρ := (rfl)
@[simp] theorem z_seqS_bk {t : Ms} : seqS (.bk ρ) t = .bk ρ := (rfl)
@[simp] theorem z_seqS_ct {t : Ms} : seqS (.ct ρ) t = .ct ρ := (rfl)
@[simp] theorem z_seqS_st {t : Ms} : seqS .st t = .st := (rfl)
@[simp] theorem z_seqS_er {t : Ms} {c : String} {fs : List (Str × D)} : seqS (.er c fs ρ) t = .er c fs ρ := (rfl)
@[simp] theorem z_seqS_ite {c : Prop} [Decidable c] {r s : So} {t : Ms} : seqS (if c then r else s) t = if c then seqS r t else seqS s t := by split <;> rfl
@[simp] theorem z_sSeq {s t : Ms} : sSeq s t ρ = seqS (s ρ) t := by unfold sSeq seqS; cases s ρ <;> rfl
@[simp] theorem z_sNil : sNil ρ = .nx ρ := (rfl)
@[simp] theorem z_sIf {c : M Bool} {s t : Ms} : sIf c s t ρ = bindS (c ρ) (kSIf s t) := (rfl)
@[simp] theorem z_sRet : sRet a ρ = bindS (a ρ) kRet := (rfl)
@[simp] theorem z_sRetN : sRetN ρ = .ret .non ρ := (rfl)
@[simp] theorem z_sDrop : sDrop a ρ = bindS (a ρ) kDrop := (rfl)
@[simp] theorem z_sSet {i : Nat} : sSet i a ρ = bindS (a ρ) (kSet i) := (rfl)
@[simp] theorem z_sPar {i j : Nat} : sPar i j a b ρ = bindS (a ρ) (kPar i j b) := (rfl)
def nxO (o : Option Env) : So := match o with | some ρ => .nx ρ | none => .st
@[simp] theorem z_nxO {ρ : Env} : nxO (some ρ) = .nx ρ := (rfl)
def unpK (d : D) (b : List D → Env → Option Env) (ρ : Env) : So := match (match d with | .tup ds => some ds | .lst ds => some ds | _ => none) with
  | some ds => if pureDs ds then (match b ds ρ with | some ρ' => .nx ρ' | none => .st) else .st
  | none => .st
@[simp] theorem z_unpK_t {bd : List D → Env → Option Env} : unpK (.tup ds) bd ρ = if pureDs ds then nxO (bd ds ρ) else .st := (rfl)
@[simp] theorem z_unpK_l {bd : List D → Env → Option Env} : unpK (.lst ds) bd ρ = if pureDs ds then nxO (bd ds ρ) else .st := (rfl)
def kUnp (bd : List D → Env → Option Env) : D → Env → So := fun d ρ => unpK d bd ρ
@[simp] theorem z_kUnp {bd : List D → Env → Option Env} : kUnp bd d ρ = unpK d bd ρ := (rfl)
@[simp] theorem z_sUnp {bd : List D → Env → Option Env} : sUnp bd a ρ = bindS (a ρ) (kUnp bd) := (rfl)
@[simp] theorem z_gSet {i : Nat} : gSet i d ρ = some (ρ.set i (some d)) := (rfl)
@[simp] theorem z_gsNil : gsNil [] ρ = some ρ := (rfl)
@[simp] theorem z_gsCons {g : D → Env → Option Env} {h : List D → Env → Option Env} : gsCons g h (d :: ds) ρ = (g d ρ).bind (h ds) := (rfl)
@[simp] theorem z_gTupD {h : List D → Env → Option Env} : gTupD h (.tup ds) ρ = h ds ρ := (rfl)
def putK (o : Option (Option D)) (s : Nat) (y : D) (k : M D) (ρ : Env) : So := match o with
  | some (some d0) => bindS (k ρ) fun k ρ => liftS (dPut d0 k y) fun o => .nx (ρ.set s (some o))
  | _ => .st
def kPut2 (s : Nat) (ρ : Env) : D → So := fun o => .nx (ρ.set s (some o))
@[simp] theorem z_kPut2 {s : Nat} {ρ : Env} {o : D} : kPut2 s ρ o = .nx (ρ.set s (some o)) := (rfl)
def kPut (s : Nat) (d y : D) : D → Env → So := fun k ρ => liftS (dPut d k y) (kPut2 s ρ)
@[simp] theorem z_kPut {s : Nat} {d y : D} {k : D} : kPut s d y k ρ = liftS (dPut d k y) (kPut2 s ρ) := (rfl)
@[simp] theorem z_putK {s : Nat} {k : M D} : putK (some (some d)) s y k ρ = bindS (k ρ) (kPut s d y) := (rfl)
@[simp] theorem z_liftS {f : D → So} : liftS (some d) f = f d := (rfl)
def kPut0 (s : Nat) (k : M D) : D → Env → So := fun y ρ => putK ρ[s]? s y k ρ
@[simp] theorem z_kPut0 {s : Nat} {k : M D} : kPut0 s k y ρ = putK ρ[s]? s y k ρ := (rfl)
@[simp] theorem z_sPut {s : Nat} {k : M D} : sPut s k a ρ = bindS (a ρ) (kPut0 s k) := (rfl)
def mtK (o : Option (Option D)) (s : Nat) (g : D → List D → Option (D × D)) (ds : List D) (ρ : Env) : Rs D := match o with
  | some (some d0) => (match g d0 ds with | some (res, o) => .ok res (ρ.set s (some o)) | none => .st)
  | _ => .st
def pairK (o : Option (D × D)) (s : Nat) (ρ : Env) : Rs D := match o with | some (res, o) => .ok res (ρ.set s (some o)) | none => .st
@[simp] theorem z_pairK {s : Nat} {o : D} : pairK (some (d, o)) s ρ = .ok d (ρ.set s (some o)) := (rfl)
@[simp] theorem z_mtK {s : Nat} {g : D → List D → Option (D × D)} : mtK (some (some d)) s g ds ρ = pairK (g d ds) s ρ := (rfl)
def kMt (s : Nat) (g : D → List D → Option (D × D)) : List D → Env → Rs D := fun ds ρ => mtK ρ[s]? s g ds ρ
@[simp] theorem z_kMt {s : Nat} {g : D → List D → Option (D × D)} : kMt s g ds ρ = mtK ρ[s]? s g ds ρ := (rfl)
def mt0 (o : Option (Option D)) (T : String) (s : Nat) (g : D → List D → Option (D × D)) (as : M (List D)) (ρ : Env) : Rs D := match o with
  | some (some d0) => if tyM d0 = some T then bindR (as ρ) fun ds ρ => mtK ρ[s]? s g ds ρ else .st
  | _ => .st
@[simp] theorem z_mt0_l {s : Nat} {g : D → List D → Option (D × D)} : mt0 (some (some (.lst ds))) "list" s g as ρ = bindR (as ρ) (kMt s g) := (rfl)
@[simp] theorem z_mt0_d {s : Nat} {g : D → List D → Option (D × D)} {kvs : List (Key × D)} : mt0 (some (some (.dic kvs))) "dict" s g as ρ = bindR (as ρ) (kMt s g) := (rfl)
@[simp] theorem z_eMt {T : String} {s : Nat} {g : D → List D → Option (D × D)} : eMt T s g as ρ = mt0 ρ[s]? T s g as ρ := by
  unfold eMt mt0
  cases ρ[s]? with
  | none => rfl
  | some o => cases o <;> rfl
/-! loops -/
def itK (o : Option (List D)) (ρ : Env) : Rs (List D) := match o with | some ds => .ok ds ρ | none => .st
@[simp] theorem z_itK : itK (some ds) ρ = .ok ds ρ := (rfl)
def kItS  : D → Env → Rs (List D) := fun d ρ => itK (itemsD d) ρ
@[simp] theorem z_kItS  : kItS  d ρ = itK (itemsD d) ρ := (rfl)
@[simp] theorem z_itSeq : itSeq a ρ = bindR (a ρ) kItS := (rfl)
def kFor (ws : List Nat) (bd : D → Env → Option Env) (body : Ms) : List D → Env → So := fun ds ρ => wipeSo ws (loopS bd body ds ρ)
@[simp] theorem z_kFor {ws : List Nat} {bd : D → Env → Option Env} {body : Ms} : kFor ws bd body ds ρ = wipeSo ws (loopS bd body ds ρ) := (rfl)
@[simp] theorem z_sFor {ws : List Nat} {it : M (List D)} {bd : D → Env → Option Env} {body : Ms} : sFor ws it bd body ρ = bindS (it ρ) (kFor ws bd body) := (rfl)
@[simp] theorem z_wipeSo_nx {ws : List Nat} : wipeSo ws (.nx ρ) = .nx (wipeE ρ ws) := (rfl)
@[simp] theorem z_wipeSo_ret {ws : List Nat} : wipeSo ws (.ret d ρ) = .ret d (wipeE ρ ws) := (rfl)
@[simp] theorem z_wipeSo_st {ws : List Nat} : wipeSo ws .st = .st := (rfl)
@[simp] theorem z_wipeSo_er {ws : List Nat} {c : String} {fs : List (Str × D)} : wipeSo ws (.er c fs ρ) = .er c fs (wipeE ρ ws) := (rfl)
@[simp] theorem z_wipeSo_ite {ws : List Nat} {c : Prop} [Decidable c] {r s : So} : wipeSo ws (if c then r else s) = if c then wipeSo ws r else wipeSo ws s := by split <;> rfl
@[simp] theorem z_wipeE_nil : wipeE ρ [] = ρ := (rfl)
@[simp] theorem z_wipeE_cons {v : Nat} {vs : List Nat} : wipeE ρ (v :: vs) = (wipeE ρ vs).set v none := (rfl)
/-! a def -/
def outK (o : Option D) (d : D) : Fr := match o with | some o => .ok d o | none => .st
@[simp] theorem z_outK {o : D} : outK (some o) d = .ok d o := (rfl)
@[simp] theorem z_endOf_ret {io : Option Nat} : endOf io (.ret d ρ) = outK (outOf io ρ) d := (rfl)
@[simp] theorem z_endOf_nx {io : Option Nat} : endOf io (.nx ρ) = outK (outOf io ρ) .non := (rfl)
@[simp] theorem z_endOf_ite {io : Option Nat} {c : Prop} [Decidable c] {r s : So} : endOf io (if c then r else s) = if c then endOf io r else endOf io s := by split <;> rfl
@[simp] theorem z_outOf_none : outOf none ρ = some .non := (rfl)
def out1 (o : Option (Option D)) : Option D := match o with | some (some d) => some d | _ => none
@[simp] theorem z_out1 : out1 (some (some d)) = some d := (rfl)
@[simp] theorem z_outOf_some {p : Nat} : outOf (some p) ρ = out1 ρ[p]? := (rfl)
@[simp] theorem z_plOk_nil {ds : List D} : plOk [] ds = true := (rfl)
def pl1 (o : Option D) : Bool := match o with | some d => pureD d | none => false
@[simp] theorem z_pl1 : pl1 (some d) = pureD d := (rfl)
@[simp] theorem z_plOk_cons {i : Nat} {is : List Nat} {ds : List D} : plOk (i :: is) ds = (pl1 ds[i]? && plOk is ds) := (rfl)
@[simp] theorem z_runF {n N : Nat} {pls : List Nat} {io : Option Nat} {ev : Ms} : runF n N pls io ev ds = if plOk pls ds then endOf io (ev (ds.map some ++ List.replicate (N - n) none)) else .st := (rfl)
end
/-! pure -/
section
variable {ds : List D} {d : D}
@[simp] theorem z_pu_non : pureD .non = true := (rfl)
@[simp] theorem z_pu_bl {b : Bool} : pureD (.bl b) = true := (rfl)
@[simp] theorem z_pu_int {i : Int} : pureD (.int i) = true := (rfl)
@[simp] theorem z_pu_str {x : Str} : pureD (.str x) = true := (rfl)
@[simp] theorem z_pu_tup : pureD (.tup ds) = pureDs ds := (rfl)
@[simp] theorem z_pu_ice : pureD (.ice ds) = pureDs ds := (rfl)
@[simp] theorem z_pu_nil : pureDs [] = true := (rfl)
@[simp] theorem z_pu_cons : pureDs (d :: ds) = (pureD d && pureDs ds) := (rfl)
@[simp] theorem z_pu_app {es : List D} : pureDs (ds ++ es) = (pureDs ds && pureDs es) := by
  induction ds with
  | nil => simp
  | cons d ds ih => simp [ih, Bool.and_assoc]
@[simp] theorem z_pu_ints {ns : List Int} : pureDs (ns.map D.int) = true := pureDs_map fun _ => rfl
@[simp] theorem z_pu_rep {n : Nat} (h : pureD d = true) : pureDs (List.replicate n d) = true := pureDs_mem fun e m => by rw [(List.mem_replicate.mp m).2]; exact h
/-! small data -/
@[simp] theorem z_dEq_int {i j : Int} : dEq (.int i) (.int j) = some (.bl (decide (i = j))) := (rfl)
@[simp] theorem z_dNe_int {i j : Int} : dNe (.int i) (.int j) = some (.bl (!decide (i = j))) := (rfl)
@[simp] theorem z_dLtI {p : Int → Int → Bool} {i j : Int} : dLtI p (.int i) (.int j) = some (.bl (p i j)) := (rfl)
@[simp] theorem z_iLt {i j : Int} : iLt i j = decide (i < j) := (rfl)
@[simp] theorem z_iLe {i j : Int} : iLe i j = decide (i ≤ j) := (rfl)
@[simp] theorem z_iGt {i j : Int} : iGt i j = decide (j < i) := (rfl)
@[simp] theorem z_iGe {i j : Int} : iGe i j = decide (j ≤ i) := (rfl)
@[simp] theorem z_dAdd {i j : Int} : dAdd (.int i) (.int j) = some (.int (i + j)) := (rfl)
@[simp] theorem z_dSub {i j : Int} : dSub (.int i) (.int j) = some (.int (i - j)) := (rfl)
@[simp] theorem z_dInt {i : Int} : dInt [.int i] = some (.int i) := (rfl)
@[simp] theorem z_dIntB {b : Bool} : dInt [.bl b] = some (.int (if b then 1 else 0)) := (rfl)
@[simp] theorem z_dLen_tup : dLen [.tup ds] = some (.int ds.length) := (rfl)
@[simp] theorem z_dLen_lst : dLen [.lst ds] = some (.int ds.length) := (rfl)
@[simp] theorem z_dLen_ice : dLen [.ice ds] = some (.int ds.length) := (rfl)
@[simp] theorem z_dLen_scr : dLen [.scr ds] = some (.int ds.length) := (rfl)
@[simp] theorem z_dIsN : dIsN d .non = some (.bl (match d with | .non => true | _ => false)) := by cases d <;> rfl
@[simp] theorem z_dNotN : dNotN d .non = some (.bl (match d with | .non => false | _ => true)) := by cases d <;> rfl
@[simp] theorem z_dIsB {b : Bool} : dIsB d (.bl b) = some (.bl (match d with | .bl c => c == b | _ => false)) := by cases d <;> rfl
@[simp] theorem z_dNotB {b : Bool} : dNotB d (.bl b) = some (.bl (match d with | .bl c => c != b | _ => true)) := by cases d <;> rfl
@[simp] theorem z_it_tup : itemsD (.tup ds) = if pureDs ds then some ds else none := (rfl)
@[simp] theorem z_it_lst : itemsD (.lst ds) = if pureDs ds then some ds else none := (rfl)
@[simp] theorem z_it_scr : itemsD (.scr ds) = if pureDs ds then some ds else none := (rfl)
@[simp] theorem z_it_ice : itemsD (.ice ds) = if pureDs ds then some ds else none := (rfl)
@[simp] theorem z_tru_bl {b : Bool} : truD (.bl b) = some b := (rfl)
@[simp] theorem z_tru_tup : truD (.tup ds) = some (!ds.isEmpty) := (rfl)
@[simp] theorem z_tru_lst : truD (.lst ds) = some (!ds.isEmpty) := (rfl)
@[simp] theorem z_tru_non : truD .non = some false := (rfl)
end
end EL

/-! x[::-1] of a list or a tuple; a < b of data that are alike -/
namespace EL
open PySem PySem.Spec PyProof.Rows
open L2 hiding XE
section
variable {prog : Program} {w : World} {A : Around} {E : Value → Shared → Prop} {s : Shared}
theorem adjust_rev (n : Nat) : Builtin.Slice.sliceAdjust none none (-1) (n : Int) = ((n : Int) - 1, -1) := by
  unfold Builtin.Slice.sliceAdjust
  rfl
theorem places_rev (n : Nat) : Builtin.Slice.slicePlaces ((n : Int) - 1) (-1) (-1) = n := by
  unfold Builtin.Slice.slicePlaces
  have h1 : ¬ ((-1 : Int) > 0) := by decide
  simp only [h1, if_false, Int.neg_neg, Int.ediv_one]
  split <;> omega
theorem fm_congr {α β : Type} {f g : α → Option β} : ∀ {l : List α}, (∀ x ∈ l, f x = g x) → l.filterMap f = l.filterMap g
  | [], _ => rfl
  | x :: l, h => by
    have ih := fm_congr (l := l) fun y hy => h y (by simp [hy])
    rw [List.filterMap_cons, List.filterMap_cons, h x (by simp), ih]
theorem sliceApplied_rev {sl : Addr} {vs : Value} {n : Nat} {Q : Int × Int × Nat → Shared → Prop} (hs : s.heap.IsSliceOf sl .none .none vs) (ps : IsPart vs (some (-1)))
    (h : Q ((n : Int) - 1, -1, n) s) : wpAny (model prog w) A (Builtin.Slice.sliceApplied (.ref sl) (pure (n : Int))) Q E s := by
  obtain ⟨os, hos, hcs, hds⟩ := id hs
  unfold Builtin.Slice.sliceApplied Builtin.Slice.sliceFields
  refine wpAny_bind (wpAny_bind (wpAny_field hos hds (x := .none) rfl (wpAny_bind (wpAny_field hos hds (x := .none) rfl (wpAny_bind (wpAny_field hos hds (x := vs) rfl (wpAny_pure ?_)))))))
  refine wpAny_bind (HT.slicePart_ ps ?_)
  show wpAny _ _ (if ((-1 : Int) == 0) = true then _ else _) _ _ s
  rw [if_neg (by decide)]
  refine wpAny_bind (HT.slicePart_ .none (wpAny_bind (HT.slicePart_ .none (wpAny_bind (wpAny_pure ?_)))))
  show wpAny _ _ (match Builtin.Slice.sliceAdjust none none (-1) (n : Int) with | (lo, hi) => pure (lo, (-1 : Int), Builtin.Slice.slicePlaces lo hi (-1))) _ _ s
  rw [adjust_rev]
  show wpAny _ _ (pure ((n : Int) - 1, (-1 : Int), Builtin.Slice.slicePlaces ((n : Int) - 1) (-1) (-1))) _ _ s
  rw [places_rev]
  exact wpAny_pure h
theorem pick_rev (xs : Array Value) : ((List.range xs.size).filterMap fun (m : Nat) => xs[(((xs.size : Nat) : Int) - 1 + (m : Int) * -1).toNat]?).toArray = xs.toList.reverse.toArray := by
  have e : ∀ m ∈ List.range xs.size, xs[(((xs.size : Nat) : Int) - 1 + (m : Int) * -1).toNat]? = xs[xs.size - 1 - m]? := by
    intro m hm
    have hl := List.mem_range.mp hm
    have : (((xs.size : Nat) : Int) - 1 + (m : Int) * -1).toNat = xs.size - 1 - m := by omega
    rw [this]
  have e2 : ((List.range xs.size).filterMap fun (m : Nat) => xs[(((xs.size : Nat) : Int) - 1 + (m : Int) * -1).toNat]?) = (List.range xs.size).filterMap fun m => xs[xs.size - 1 - m]? := fm_congr e
  rw [e2]
  have e3 : ((List.range xs.size).filterMap fun m => xs[xs.size - 1 - m]?) = ((List.range xs.size).map fun m => xs.size - 1 - m).filterMap (xs[·]?) := by rw [List.filterMap_map]; rfl
  rw [e3, PySem.W.krv_range, List.filterMap_reverse, PySem.W.krv_all]
theorem getItem_tuple_rev {t sl : Addr} {items : Array Value} {vs : Value} {Q : Value → Shared → Prop} (ht : IsTup s.heap t items) (hs : s.heap.IsSliceOf sl .none .none vs) (ps : IsPart vs (some (-1)))
    (h : Q (.ref s.heap.objs.size) { s with heap := s.heap.push { cls := .type "tuple", data := .seq items.toList.reverse.toArray } })
    (hsz : items.size ≤ sizeLine) : wpAny (model prog w) A (getItem (.ref t) (.ref sl)) Q E s := by
  have htake : sizeOk (.seq items.toList.reverse.toArray) := by
    show items.toList.reverse.toArray.size ≤ sizeLine
    rw [List.size_toArray, List.length_reverse, Array.length_toList]
    exact hsz
  obtain ⟨os, hos, hcs, hds⟩ := id hs
  have hTs : s.TypeIs (.ref sl) "slice" := ⟨os, hos, hcs⟩
  unfold getItem
  try with_reducible refine wpAny_holding ?_
  first | refine wpAny_bind (wpAny_pure ?_) | skip
  refine wpAny_bind (wpAny_sequenceKey ht.typeIs (by decide) ?_)
  refine wpAny_bind (wpAny_callSpecial?_slot (name := Str.ofString "__getitem__") ht.typeIs PyProof.Rows.slot_tuple_getitem
    (wpAny_call_entry PyProof.Rows.slot_tuple_getitem ht.typeIs entry_tuple_getitem ?_ (args_tuple_getitem _ _)))
  show wpAny _ _ (Builtin.Tuple.tupleItemsOf (.ref t) >>= _) _ _ s
  refine wpAny_bind (tupleItemsOf_ ht ?_)
  refine wpAny_bind (wpAny_typeOf hTs ?_)
  rw [if_pos (by decide)]
  refine wpAny_bind (sliceApplied_rev hs ps ?_)
  have hno : ¬ ((((items.size : Int) - 1) == 0 && (-1 : Int) == 1 && items.size == items.size) = true) := by simp
  show wpAny _ _ (if (((items.size : Int) - 1) == 0 && (-1 : Int) == 1 && items.size == items.size) = true then _ else _) _ _ s
  rw [if_neg hno, pick_rev]
  first
    | exact wpAny_bind (m := Builtin.Tuple.tupleExact _) (wpAny_newObj_type (wpAny_pure ⟨_, rfl, wpAny_pure h⟩) htake)
    | exact wpAny_bind (m := Builtin.Tuple.tupleExact _) (wpAny_newObj_type (wpAny_bind (wpAny_pure (wpAny_pure ⟨_, rfl, wpAny_pure h⟩))) htake)
    | exact wpAny_bind (wpAny_bind (m := Builtin.Tuple.tupleExact _) (wpAny_newObj_type (wpAny_pure (wpAny_pure ⟨_, rfl, wpAny_pure h⟩)) htake))
    | exact wpAny_bind (wpAny_bind (m := Builtin.Tuple.tupleExact _) (wpAny_newObj_type (wpAny_pure ⟨_, rfl, wpAny_pure h⟩) htake))
end
section
variable {X : Cx} {S : Sig} {W : WX} {m m1 m2 : Md} {e1 e2 : Bool} {pos : Pos} {a b : Expr} {ea eb : M D}
def tRevX (K : PySem.W.Frag) (te : TE) : TE := fun σ H Q => te σ H fun x H1 => ∃ a xs, x = .ref a ∧ ((SqL K H1 a xs ∧ ∀ p, H1 p = none → Q (.ref p) (upd H1 p (.lst xs.reverse))) ∨ (SqT K H1 a xs ∧ ∀ p, H1 p = none → Q (.ref p) (upd H1 p (.tup xs.reverse))))
theorem pe_revX {e : Expr} {te : TE} {k : Nat} {p1 p2 p3 pos : Pos} (he : PE X e te) : PE X (.Subscript e (.Slice none none (some (.UnaryOp .USub (.Constant (.int 1) k p1) p2)) p3) pos) (tRevX X.K te) := by
  refine ⟨fun pins s σ H Q I h => ?_⟩
  refine Subscript_ (thn (he.run pins s σ H _ I h) fun v s1 ⟨x, H1, I1, r1, q1⟩ => ?_)
  obtain ⟨a, xs, ex, hq⟩ := q1
  subst ex
  cases r1
  have hst : PO X (some (.UnaryOp .USub (.Constant (.int 1) k p1) p2)) (tPart (tUn (rU fun i => .int (-i)) (tC (.int 1)))) := po_some (pe_un un_neg pe_int)
  refine wpAny_Slice (thn (po_none.run pins s1 σ H1 (fun o H2 => o = none ∧ H2 = H1) I1 ⟨rfl, rfl⟩) fun vl s2 ⟨l, H2, I2, pl, el, e2⟩ => ?_)
  subst el e2
  refine thn (po_none.run pins s2 σ H2 (fun o H3 => o = none ∧ H3 = H2) I2 ⟨rfl, rfl⟩) fun vu s3 ⟨u, H3, I3, pu, eu, e3⟩ => ?_
  subst eu e3
  refine thn (hst.run pins s3 σ H3 (fun o H4 => o = some (-1) ∧ H4 = H3) I3 ⟨1, rfl, -1, rfl, rfl, rfl⟩) fun vs s4 ⟨o, H4, I4, ps, eo, e4⟩ => ?_
  subst eo e4
  have I5 : Inv X pins σ H4 { s4 with heap := s4.heap.push { cls := .type "slice", data := .fields #[vl, vu, vs] } } := I4.kept (t' := s4.toks) fun b ob q => Heap.get?_push_of_some _ q
  show wpAny (model X.prog X.w) X.A (subscriptTail e (.Slice none none (some (.UnaryOp .USub (.Constant (.int 1) k p1) p2)) p3) (.ref a) (.ref s4.heap.objs.size)) (EP X pins σ Q) X.xe { s4 with heap := s4.heap.push { cls := .type "slice", data := .fields #[vl, vu, vs] } }
  rcases hq with ⟨hx, q⟩ | ⟨hx, q⟩
  · obtain ⟨its, r, ht, hz⟩ := I5.list hx
    have hlen := r.length
    refine tail_any (ops := [.ref a, .ref s4.heap.objs.size]) ht.isList.typeIs (PySem.slot_list_getitem.lookup) ?_ (by with_unfolding_all rfl)
    refine wpAny_getItem_list_slice ht.isList (Heap.IsSliceOf.new _ vl vu vs) pl pu ps (by decide) ?_ (by rw [List.size_toArray]; omega)
    rw [PySem.W.krv_pick]
    refine ⟨.ref _, _, I5.laid (t' := s4.toks) (o := .lst xs.reverse) (fun b ob q => Heap.get?_push_of_some _ q) (Nat.le_refl _) ?_, rfl, q _ (I5.hok.fresh (Nat.le_refl _))⟩
    exact ⟨by rw [List.length_reverse]; exact hz, _, 0, r.reverse, Heap.get?_push_size _ rfl⟩
  · obtain ⟨its, r, ht, hz⟩ := I5.tuple hx
    have hlen := r.length
    cases pl; cases pu
    refine tail_any (ops := [.ref a, .ref s4.heap.objs.size]) ht.typeIs PyProof.Rows.slot_tuple_getitem.lookup ?_ (by with_unfolding_all rfl)
    refine getItem_tuple_rev ht (Heap.IsSliceOf.new _ .none .none vs) ps ?_ (by rw [List.size_toArray]; omega)
    refine ⟨.ref _, _, I5.laid (t' := s4.toks) (o := .tup xs.reverse) (fun b ob q => Heap.get?_push_of_some _ q) (Nat.le_refl _) ?_, rfl, q _ (I5.hok.fresh (Nat.le_refl _))⟩
    exact ⟨by rw [List.length_reverse]; exact hz, _, r.reverse, IsTup.new _ _⟩
def dRev : D → Option D
  | .tup ds => if pureDs ds then some (.tup ds.reverse) else none
  | .lst ds => if pureDs ds then some (.lst ds.reverse) else none
  | _ => none
theorem Reps.rev {C : Core} {R : Addr → Prop} {H : Hp} {ds : List D} {vs : List V} (r : Reps C R H ds vs []) : Reps C R H ds.reverse vs.reverse [] := by
  induction ds generalizing vs with
  | nil => cases r; exact .nil
  | cons d ds ih =>
    obtain ⟨x, ys, rfl, r1, r2⟩ := r.cons_nil
    rw [List.reverse_cons, List.reverse_cons]
    exact (ih r2).snoc r1
theorem x_rev (q : Cq X S) {k : Nat} {p1 p2 p3 : Pos} (ha : XE X S W a m1 e1 ea) : XE X S W (.Subscript a (.Slice none none (some (.UnaryOp .USub (.Constant (.int 1) k p1) p2)) p3) pos) .fr e1 (eUn dRev ea) := by
  obtain ⟨t, pa, r⟩ := ha.ex
  refine ⟨_, pe_revX pa, fun B ρ σ Fs H Q I h => r B ρ σ Fs H _ I (h.bind.imp fun d ρ1 _ h1 v H1 Fs1 F p1 => ?_)⟩
  obtain ⟨d', hd, k'⟩ := h1.lift
  rw [q.K]
  cases d <;> simp only [dRev] at hd <;> try (cases hd; done)
  · rename_i ds
    split at hd <;> cases hd
    rename_i hp
    obtain ⟨a, vs, rfl, hs, hl, rr⟩ := p1.rep.tup_inv
    have e := rr.pure hp
    subst e
    refine ⟨a, vs, rfl, .inr ⟨hs, fun p hn => k' _ _ Fs1 [] (VP.post (ds := []) (vs := []) (G := []) (m1 := .bo) ⟨p1.env, .nil, p1.step, trivial⟩ ⟨same_upd hn, .tup (SqT.of upd_same) (by rw [List.length_reverse]; exact hl) (rr.rev.same (same_upd hn)), List.nodup_nil, by intro a ha; cases ha⟩)⟩⟩
  · rename_i ds
    split at hd <;> cases hd
    rename_i hp
    obtain ⟨a, vs, G, rfl, hs, hl, rr, _⟩ := rep_lst p1.rep
    have e := rr.pure hp
    subst e
    refine ⟨a, vs, rfl, .inl ⟨.inl (.inl hs), fun p hn => k' _ _ Fs1 [p] (VP.post (ds := []) (vs := []) (G := []) (m1 := .bo) ⟨p1.env, .nil, p1.step, trivial⟩ (VP.newL hn (by rw [List.length_reverse]; exact hl) rr.rev))⟩⟩
/-! ### a < b -/
def rLtA (K : PySem.W.Frag) (f : Bool → Bool) : R2 := fun x y H Q => ∃ d e, Dp K H x d ∧ Dp K H y e ∧ PySem.W.alike d e = true ∧ d ≠ .none ∧ d.depth ≤ 64 ∧ Q (.bl (PySem.W.dataLt d e)) H
theorem op_ltA (hu : X.A.units + 64 < cLine) : OpR X (compareOp .Lt) (rLtA X.K id) := by
  intro pins s σ H x y v u Q I rx ry h
  obtain ⟨d, e, hd, he, hal, hn, hz, q⟩ := h
  obtain ⟨as, r1⟩ := Dp.reads I d x v hd rx
  obtain ⟨bs, r2⟩ := Dp.reads I e y u he ry
  have hl : X.A.units + min d.depth e.depth < cLine := by omega
  exact PySem.W.rcLt_alike d e X.A s v u as bs r1 r2 hal hn hl X.prog X.w X.xe _ ⟨.bl _, H, I, rfl, q⟩
def notNone : PyData → Bool | .none => false | _ => true
theorem notNone_ok {p : PyData} (h : notNone p = true) : p ≠ .none := fun e => by subst e; cases h
def dLtA (a b : D) : Option D := match toPy a, toPy b with
  | some p, some q => if PySem.W.alike p q && notNone p && decide (depD a ≤ 64) && datD a && datD b then some (.bl (PySem.W.dataLt p q)) else none
  | _, _ => none
theorem op2_ltA {C : Core} (hK : X.K = C.K) : Op2 C (rLtA X.K id) dLtA .pu := by
  intro R H d1 d2 d x y F1 F2 Q r1 r2 hg k
  unfold dLtA at hg
  split at hg
  case h_2 => cases hg
  rename_i p q h1 h2
  split at hg <;> cases hg
  rename_i hc
  simp only [Bool.and_eq_true, decide_eq_true_eq] at hc
  obtain ⟨⟨⟨⟨c1, c2⟩, c3⟩, c4⟩, c5⟩ := hc
  obtain ⟨p', e1, _, e3⟩ := toPy_ok c4
  rw [h1] at e1; cases e1
  refine ⟨p, q, by rw [hK]; exact r1.dp h1, by rw [hK]; exact r2.dp h2, c1, notNone_ok c2, by rw [e3]; exact c3, ?_⟩
  exact k _ _ [] (VP.val (.bl _))
theorem x_ltA (q : Cq X S) (ha : XE X S W a m1 e1 ea) (hb : XE X S W b m2 e2 eb) (z : (!e2 || m1.sep) = true := by rfl) (hm : behindInMarks .Lt b = false := by rfl) : XE X S W (.Compare a [.Lt] [b] pos) .pu (e1 || e2) (eBin dLtA ea eb) := xe_cmp (op_ltA q.u64) (op2_ltA q.K) ha hb hm z
theorem t_ltA (q : Cq X S) (ha : XE X S W a m1 e1 ea) (hb : XE X S W b m2 e2 eb) (z : (!e2 || m1.sep) = true := by rfl) (hm : behindInMarks .Lt b = false := by rfl) : XT X S W (.Compare a [.Lt] [b] pos) (e1 || e2) (ebV (eBin dLtA ea eb)) := xt_cmp (op_ltA q.u64) (op2_ltA q.K) ha hb hm z
end
end EL

/-! [e for a in xs for b in ys if t] whose inner parts change nothing -/
namespace EL
open PySem PySem.Spec PyProof.Rows
open L2 hiding XE
/-- a source that is plain itself -/
def RItP (S : Sig) (W : WX) (ev : M (List D)) (t : TI) : Prop :=
  ∀ (B : Base) (ρ : Env) (σ : L2.St) (Fs : Nat → List Addr) (H : Hp) (Q : It → Hp → Prop), EnvR S B ρ σ Fs H →
    Wn (ErW S B W) (fun ds ρ' => ∀ J H' Fs', EnvR S B ρ' σ Fs' H' → Step S false ρ Fs H ρ' Fs' H' → ItOk S.c B.R true H' [] J ds → Q J H') (ev ρ) → t σ H Q
structure XItP (X : Cx) (S : Sig) (W : WX) (tg iter : Expr) (ev : M (List D)) : Prop where
  ex : ∃ t, PI X tg iter t ∧ RItP S W ev t
def tipOf (S : Sig) (W : WX) (ev : M (List D)) : TI := fun σ H Q => ∃ (B : Base) (ρ : Env) (Fs : Nat → List Addr), EnvR S B ρ σ Fs H ∧
    Wn (ErW S B W) (fun ds ρ' => ∀ J H' Fs', EnvR S B ρ' σ Fs' H' → Step S false ρ Fs H ρ' Fs' H' → ItOk S.c B.R true H' [] J ds → Q J H') (ev ρ)
section
variable {X : Cx} {S : Sig} {B B' : Base} {W : WX} {m m1 m2 rm : Md} {e1 e2 e3 : Bool} {σ σ' : L2.St} {ρ ρ1 ρ' : Env} {Fs Fs1 Fs' : Nat → List Addr} {H H1 H' : Hp} {d : D} {v : V} {F Fp : List Addr} {pos : Pos} {T ts ts1 : List Nat}
theorem XItP.ti {tg e : Expr} {ev : M (List D)} (h : XItP X S W tg e ev) : PI X tg e (tipOf S W ev) := by
  obtain ⟨t, p, r⟩ := h.ex
  exact ⟨fun pins s σ H Q I ⟨B, ρ, Fs, J, w⟩ => p.run pins s σ H Q I (r B ρ σ Fs H Q J w)⟩
theorem ritp_seq {ea : M D} {ta : TE} (K : PySem.W.Frag) (hK : K = S.c.K) (ra : RE S W .pu false ea ta) : RItP S W (itSeq ea) (iSeq K ta) := fun B ρ σ Fs H Q I h => by
  subst hK
  refine ra B ρ σ Fs H _ I (h.bind.imp fun d ρ1 _ h1 v H1 Fs1 F q => ?_)
  have F0 : F = [] := q.md
  subst F0
  cases hd : itemsD d with
  | none => rw [hd] at h1; exact h1.elim
  | some ds =>
    rw [hd] at h1
    have rr := q.rep
    have fin := fun J ok => h1 J H1 Fs1 q.env q.step ok
    generalize hF : ([] : List Addr) = F0 at rr
    cases rr with
    | tup hs l r =>
      subst hF
      simp only [itemsD] at hd
      split at hd <;> cases hd
      refine .inr (.inl ⟨_, rfl, ⟨_, hs⟩, fin _ ⟨fun H2 g i d e => ?_, fun H2 g i hi => ?_, by rw [r.length]; exact l⟩⟩)
      all_goals have hs2 := (Rep.keep g (.tup hs l r)); cases hs2 with | tup hs2 l2 r2 => ?_
      · obtain ⟨x, hx, rx⟩ := r2.at' e
        refine ⟨⟨_, x, hs2, hx⟩, fun y H' hy => ?_⟩
        obtain ⟨rfl, hy⟩ := hy
        have := hy _ hs2
        rw [hx] at this; cases this
        exact ⟨Same.refl _, [], rx, fun _ => rfl, fun a h => by cases h⟩
      · exact ⟨_, hs2, by rw [← r2.length]; exact hi⟩
    | lst hs l r => cases hF
    | scr hs l r =>
      subst hF
      simp only [itemsD] at hd
      split at hd <;> cases hd
      have sq : ∀ {H2 : Hp}, (∀ a o, H1 a = some o → (¬ Mu S.c B.R o a ∨ a ∈ []) → H2 a = some o) → SqL S.c.K H2 _ _ := fun g => (hs.keep fun o u q => g _ _ q (.inl fun z => z)).toL
      refine .inl ⟨_, rfl, ⟨_, hs.toL⟩, fin _ ⟨fun H2 g i d e => ?_, fun H2 g i hi => ?_, by rw [r.length]; exact l⟩⟩
      · obtain ⟨x, hx, rx⟩ := r.at' e
        refine ⟨⟨_, x, sq g, hx⟩, fun y H' hy => ?_⟩
        obtain ⟨rfl, hy⟩ := hy
        have := hy _ (sq g)
        rw [hx] at this; cases this
        exact ⟨Same.refl _, [], rx.keep g, fun _ => rfl, fun a h => by cases h⟩
      · exact ⟨_, sq g, by rw [← r.length]; exact hi⟩
    | ice hs l r =>
      subst hF
      simp only [itemsD] at hd
      split at hd <;> cases hd
      have sq : ∀ {H2 : Hp}, (∀ a o, H1 a = some o → (¬ Mu S.c B.R o a ∨ a ∈ []) → H2 a = some o) → SqL S.c.K H2 _ _ := fun g => .inl (.inr ⟨_, g _ _ hs (.inl fun z => z)⟩)
      refine .inl ⟨_, rfl, ⟨_, .inl (.inr ⟨_, hs⟩)⟩, fin _ ⟨fun H2 g i d e => ?_, fun H2 g i hi => ?_, by rw [r.length]; exact l⟩⟩
      · obtain ⟨x, hx, rx⟩ := r.at' e
        refine ⟨⟨_, x, sq g, hx⟩, fun y H' hy => ?_⟩
        obtain ⟨rfl, hy⟩ := hy
        have := hy _ (sq g)
        rw [hx] at this; cases this
        exact ⟨Same.refl _, [], rx.keep g, fun _ => rfl, fun a h => by cases h⟩
      · exact ⟨_, sq g, by rw [← r.length]; exact hi⟩
    | str z =>
      simp only [itemsD] at hd
      split at hd <;> cases hd
      rename_i hp
      refine .inr (.inr ⟨z, rfl, fin _ ⟨fun H2 g i d e => ?_, fun H2 g i hi => ?_, by simp [signsD]; exact hp⟩⟩)
      · have e2 : z.cps.toList[i]?.map (fun c => D.str ⟨#[c]⟩) = some d := by rw [← List.getElem?_map]; exact e
        cases hc : z.cps.toList[i]? with
        | none => rw [hc] at e2; cases e2
        | some c =>
          rw [hc] at e2
          cases e2
          have hc' : z.cps[i]? = some c := by rw [← Array.getElem?_toList]; exact hc
          refine ⟨(Array.getElem?_eq_some_iff.mp hc').1, fun y H' hy => ?_⟩
          obtain ⟨rfl, c', h3, rfl⟩ := hy
          rw [hc'] at h3; cases h3
          exact ⟨Same.refl _, [], .str _, fun _ => rfl, fun a h => by cases h⟩
      · exact (show z.cps.size ≤ i by simpa [signsD] using hi)
    | non => cases hd
    | bl => cases hd
    | int => cases hd
    | dic => cases hd
    | ins => cases hd
    | obj => cases hd
theorem xip_seq {tg l : Expr} {ea : M D} (hK : X.K = S.c.K) (ha : XE X S W l .pu false ea) : XItP X S W tg l (itSeq ea) := by
  obtain ⟨t, p, r⟩ := ha.ex
  exact ⟨_, pi_seq p, ritp_seq X.K hK r⟩
theorem xip_range1 {tg a : Expr} {ea : M (List D)} {p : Pos} (hg : Gl X "range") (hm : X.mg "range" = none) (ha : XA X S W [a] m false ea) (hs : starEach [a] X.env = [(false, eval a X.env)] := by rfl) : XItP X S W tg (.Call (.Name "range" p) [a] [] pos) (itR1 ea) := by
  obtain ⟨t, pa, r⟩ := ha.ex
  refine ⟨_, pi_range1 hg hm pa hs, fun B ρ σ Fs H Q I h => r B ρ σ Fs H _ I (h.bind.imp fun ds ρ1 _ h1 vs H1 Fs1 F q => ?_)⟩
  split at h1
  · rename_i j
    split at h1
    · rename_i hc
      simp only [Bool.and_eq_true, decide_eq_true_eq] at hc
      have := okR_iff.mp hc.1
      exact ⟨_, q.rep.int1, this.1, this.2, h1 _ H1 Fs1 q.env q.step (range_ok hc.2)⟩
    · exact h1.elim
  · exact h1.elim
def lc2In (vs1 : List Nat) (it1 : M (List D)) (bd1 : D → Env → Option Env) (tt1 : M Bool) (ee : M D) : M (List D) := fun ρ => bindR (it1 ρ) fun es ρ => lcLoop vs1 bd1 tt1 ee es (wipeE ρ vs1)
def lc2Loop (bd : D → Env → Option Env) (inn : M (List D)) : List D → Env → Option (List D)
  | [], _ => some []
  | d :: ds, ρ => match bd d ρ with
    | none => none
    | some ρ1 => match inn ρ1 with
      | .ok ys _ => (lc2Loop bd inn ds ρ).map (ys ++ ·)
      | _ => none
def eLc2 (vs vs1 : List Nat) (it : M (List D)) (bd : D → Env → Option Env) (it1 : M (List D)) (bd1 : D → Env → Option Env) (tt1 : M Bool) (ee : M D) : M D := fun ρ => bindR (it ρ) fun ds ρ1 =>
  match lc2Loop bd (lc2In vs1 it1 bd1 tt1 ee) ds (wipeE ρ1 vs) with | some ys => if ys.length ≤ sizeLine then .ok (.lst ys) ρ1 else .st | _ => .st
theorem wipeE_in {r : Env} {j : Nat} : ∀ {us : List Nat}, j ∈ us → (wipeE r us)[j]? = if j < r.length then some none else none
  | u :: us, h => by
    unfold wipeE
    by_cases e : u = j
    · subst e
      by_cases hl' : u < r.length
      · rw [List.getElem?_set_self (by rw [wipeE_length]; exact hl'), if_pos hl']
      · rw [List.getElem?_eq_none (by simpa [wipeE_length] using hl'), if_neg hl']
    · rw [List.getElem?_set_ne e]
      exact wipeE_in ((List.mem_cons.mp h).resolve_left fun q => e q.symm)
theorem wipeE_same {r1 r2 : Env} {us : List Nat} (hl : r1.length = r2.length) (h : ∀ j, j ∉ us → r1[j]? = r2[j]?) : wipeE r1 us = wipeE r2 us := by
  apply List.ext_getElem?
  intro j
  by_cases hj : j ∈ us
  · rw [wipeE_in hj, wipeE_in hj, hl]
  · rw [wipeE_out hj, wipeE_out hj, h j hj]
theorem wipeE_twice {r : Env} {us : List Nat} : wipeE (wipeE r us) us = wipeE r us := wipeE_same (wipeE_length r us) fun j hj => wipeE_out hj
structure XL2 (X : Cx) (S : Sig) (W : WX) (elt tg iter tg1 iter1 : Expr) (ifs1 : List Expr) (scope : Scope) (own : List (Str × Nat)) (vs1 : List Nat) (eff : Bool) (ev : M D) : Prop where
  ex : ∃ wi g tt wi1 g1 tt1 te, PI X tg iter wi ∧ BlkOk X.N X.env.scope scope own ∧ (∀ i ∈ vs1, i ∈ own.map (·.2)) ∧
    (∀ (s : Shared) (H : Hp) (C : Addr) (cl : List (Str × Addr)) (fp : List Addr), PG (X.blk s H scope (compEnvC scope cl C X.env) fp) tg g) ∧
    (∀ (s : Shared) (H : Hp) (C : Addr) (cl : List (Str × Addr)) (fp : List Addr), PTs (X.blk s H scope (compEnvC scope cl C X.env) fp) [] tt) ∧
    (∀ (s : Shared) (H : Hp) (C : Addr) (cl : List (Str × Addr)) (fp : List Addr), PI (X.blk s H scope (compEnvC scope cl C X.env) fp) tg1 iter1 wi1) ∧
    (∀ (s : Shared) (H : Hp) (C : Addr) (cl : List (Str × Addr)) (fp : List Addr), PG (X.blk s H scope (compEnvC scope cl C X.env) fp) tg1 g1) ∧
    (∀ (s : Shared) (H : Hp) (C : Addr) (cl : List (Str × Addr)) (fp : List Addr), PTs (X.blk s H scope (compEnvC scope cl C X.env) fp) ifs1 tt1) ∧
    (∀ (s : Shared) (H : Hp) (C : Addr) (cl : List (Str × Addr)) (fp : List Addr), PE (X.blk s H scope (compEnvC scope cl C X.env) fp) elt te) ∧ RE S W .fr eff ev (tLc2 wi g tt wi1 g1 tt1 te (own.map (·.2)) vs1)
theorem xl_lc2 {pu : Bool} {own : List (Str × Nat)} (vs1 : List Nat) {tg iter tg1 iter1 elt : Expr} {ifs1 : List Expr} {scope : Scope} {it it1 : M (List D)} {bd bd1 : D → Env → Option Env} {tt1 : M Bool} {ee : M D} (hi : XIt X S W tg iter T pu e1 it) (ok : blkC X.N X.env.scope scope own = true)
    (hg : ∀ (s : Shared) (H : Hp) (C : Addr) (cl : List (Str × Addr)) (fp : List Addr), XG (X.blk s H scope (compEnvC scope cl C X.env) fp) (lockS S T) pu tg ts bd)
    (hi1 : ∀ (s : Shared) (H : Hp) (C : Addr) (cl : List (Str × Addr)) (fp : List Addr), XItP (X.blk s H scope (compEnvC scope cl C X.env) fp) (lockS S T) W0 tg1 iter1 it1)
    (hg1 : ∀ (s : Shared) (H : Hp) (C : Addr) (cl : List (Str × Addr)) (fp : List Addr), XG (X.blk s H scope (compEnvC scope cl C X.env) fp) (lockS S T) true tg1 ts1 bd1)
    (ht1 : ∀ (s : Shared) (H : Hp) (C : Addr) (cl : List (Str × Addr)) (fp : List Addr), XC (X.blk s H scope (compEnvC scope cl C X.env) fp) (lockS S T) W0 ifs1 false tt1)
    (he : ∀ (s : Shared) (H : Hp) (C : Addr) (cl : List (Str × Addr)) (fp : List Addr), XE (X.blk s H scope (compEnvC scope cl C X.env) fp) (lockS S T) W0 elt m false ee) (hts : ts.all (own.map (·.2)).contains = true := by rfl) (hts1 : ts1.all vs1.contains = true := by rfl) (hv1 : vs1.all (own.map (·.2)).contains = true := by rfl) (hbw : bwOk S [] [] = true := by rfl) :
    XL2 X S W elt tg iter tg1 iter1 ifs1 scope own vs1 e1 (eLc2 (own.map (·.2)) vs1 it bd it1 bd1 tt1 ee) := by
  obtain ⟨ti, pi, ri⟩ := hi.ex
  refine ⟨_, _, _, _, _, _, _, pi, blkOk_by ok, fun i hi => by simpa using List.all_eq_true.mp hv1 i hi, fun s H C cl fp => (hg s H C cl fp).tg, fun s H C cl fp => pts_nil, fun s H C cl fp => (hi1 s H C cl fp).ti, fun s H C cl fp => (hg1 s H C cl fp).tg, fun s H C cl fp => (ht1 s H C cl fp).tt, fun s H C cl fp => (he s H C cl fp).te, fun B ρ σ Fs H Q I h => ri B ρ σ Fs H _ I (h.bind.imp fun ds ρ1 _ h1 J H1 Fs1 Fp I1 s1 wk okk L hL => ?_)⟩
  generalize hvs : own.map (·.2) = vs at *
  have tsv : ∀ i, i ∉ vs → i ∉ ts := fun i hi z => hi (by simpa using List.all_eq_true.mp hts i z)
  have tsv1 : ∀ i, i ∉ vs1 → i ∉ ts1 := fun i hi z => hi (by simpa using List.all_eq_true.mp hts1 i z)
  obtain ⟨B', lk⟩ := Lk.mk' S B T ρ1 σ Fs1 H1 Fp fun a h => I1.rdH h
  have Il := I1.lock wk lk
  have hB' : B'.H0 L = none := by rw [lk.H0]; exact hL
  cases hz0 : lc2Loop bd (lc2In vs1 it1 bd1 tt1 ee) ds (wipeE ρ1 vs) with
  | none => rw [hz0] at h1; exact h1.elim
  | some all =>
  rw [hz0] at h1
  simp only at h1
  split at h1
  case isFalse => exact h1.elim
  rename_i hsz
  have nL : ∀ i, Own (lockS S T) (wipeE ρ1 vs) i → L ∉ Fs1 i := fun i oi z => by
    obtain ⟨u, hu, _⟩ := Il.wipe.mem oi z
    rw [hL] at hu; cases hu
  refine ⟨fun i mm H2 => i ≤ ds.length ∧ mm = ds.length - i ∧ Same H1 H2 ∧ ∃ acc ys zs, H2 L = some (.lst acc) ∧ Reps S.c B.R H2 ys acc [] ∧ lc2Loop bd (lc2In vs1 it1 bd1 tt1 ee) (ds.drop i) (wipeE ρ1 vs) = some zs ∧ ys ++ zs = all, ⟨_, Nat.zero_le _, rfl, same_upd hL, [], [], all, upd_same, .nil, by simpa using hz0, rfl⟩, fun i mm H2 ⟨hi, hm, sm2, acc, ys, zs, hL2, ra, hz, hall⟩ => ?_⟩
  by_cases hl : i < ds.length
  · have hd : ds[i]? = some ds[i] := List.getElem?_eq_getElem hl
    obtain ⟨go, yld⟩ := okk.step H2 (fun a o q _ => sm2 a o q) i _ hd
    refine .inr ⟨go, fun H5 => Same H1 H5 ∧ ∃ acc ys zs, H5 L = some (.lst acc) ∧ Reps S.c B.R H5 ys acc [] ∧ lc2Loop bd (lc2In vs1 it1 bd1 tt1 ee) (ds.drop (i + 1)) (wipeE ρ1 vs) = some zs ∧ ys ++ zs = all, fun H5 q => ⟨_, by omega, by omega, rfl, q⟩, fun x H3 hx => ?_⟩
    obtain ⟨sm, G, rx, g0, g1⟩ := yld x H3 hx
    rw [List.drop_eq_getElem_cons hl] at hz
    unfold lc2Loop at hz
    cases qb : bd ds[i] (wipeE ρ1 vs) with
    | none => rw [qb] at hz; cases hz
    | some ρ4 =>
    rw [qb] at hz
    simp only at hz
    have sm3 : Same H1 H3 := sm2.trans sm
    have J3 : EnvR (lockS S T) B' (wipeE ρ1 vs) (wipe σ vs) Fs1 H3 := Il.wipe.same sm3
    refine ⟨B', wipeE ρ1 vs, ρ4, Fs1, ds[i], G, J3, by rw [lockS_c, lk.R]; exact rx, g0, (fun a ha => (lk.P0 a).mpr (.inr (.inl (g1 a ha)))), qb, fun σ4 Fs4 J4 b4 => ?_⟩
    have hw4 : wipe σ4 vs = wipe σ vs := by
      have := (wipe_eq (σ := wipe σ vs) (σ' := σ4) (vs := vs) b4.len (fun j hj => b4.sg j (tsv j hj))).2
      rw [this]
      exact (wipe_eq (σ := σ) (σ' := wipe σ vs) (vs := vs) (wipe_length σ vs) fun j hj => wipe_out' hj).2
    refine ⟨hw4, ?_⟩
    unfold tYes
    refine (if_pos rfl).mpr ?_
    refine ⟨B', ρ4, Fs4, J4, ?_⟩
    unfold lc2In at hz
    cases qi : it1 ρ4 with
    | st => rw [qi] at hz; cases hz
    | er c fs r => rw [qi] at hz; cases hz
    | ok es ρ5 =>
    rw [qi] at hz
    simp only [bindR] at hz
    intro J1 H4 Fs5 J5 s5 okk1
    obtain ⟨rfl, f5, sm4⟩ := s5.noeff rfl
    have J4' : EnvR (lockS S T) B' (wipeE ρ5 vs1) (wipe σ4 vs1) Fs4 H4 := (J4.same sm4).wipe
    cases ql : lcLoop vs1 bd1 tt1 ee es (wipeE ρ5 vs1) with
    | st => rw [ql] at hz; cases hz
    | er c fs r => rw [ql] at hz; cases hz
    | ok ys1 ρ6 =>
    rw [ql] at hz
    simp only [Option.map_eq_some_iff] at hz
    obtain ⟨rest, hrest, rfl⟩ := hz
    have hL4 : H4 L = some (.lst acc) := sm4 _ _ (sm _ _ hL2)
    have nL4 : ∀ {ρ7 : Env} {j : Nat}, Own (lockS S T) ρ7 j → (∃ d, ρ5[j]? = some (some d)) → L ∉ Fs4 j := fun {ρ7 j} oj hj z => by
      have o5 : Own (lockS S T) ρ5 j := ⟨oj.1, hj⟩
      obtain ⟨o2, f2⟩ := b4.own j o5
      rw [f2] at z; exact nL j o2 z
    have nLw : ∀ j, Own (lockS S T) (wipeE ρ5 vs1) j → L ∉ Fs4 j := fun j oj => nL4 oj (let ⟨d, e⟩ := oj.2; ⟨d, (wipeE_some e).1⟩)
    have hww : wipe (wipe σ4 vs1) vs1 = wipe σ4 vs1 := (wipe_eq (σ := σ4) (σ' := wipe σ4 vs1) (vs := vs1) (wipe_length σ4 vs1) fun j hj => wipe_out' hj).2
    refine ⟨fun j k H5 => j ≤ es.length ∧ k = es.length - j ∧ Same H1 H5 ∧ (∀ a o, a ≠ L → H4 a = some o → H5 a = some o) ∧ EnvR (lockS S T) B' (wipeE ρ5 vs1) (wipe σ4 vs1) Fs4 H5 ∧ ∃ acc ys' zs' ρ', H5 L = some (.lst acc) ∧ Reps S.c B.R H5 ys' acc [] ∧ lcLoop vs1 bd1 tt1 ee (es.drop j) (wipeE ρ5 vs1) = .ok zs' ρ' ∧ ys' ++ (zs' ++ rest) = all,
      ⟨_, Nat.zero_le _, rfl, sm3.trans sm4, fun a o _ q => q, J4', acc, ys, ys1, ρ6, hL4, (ra.same sm).same sm4, by simpa using ql, hall⟩, fun j k H5 ⟨hj, hk, smx, sx, Jx, acc5, ys5, zs5, ρ9, hL5, ra5, hz5, hall5⟩ => ?_⟩
    by_cases hl1 : j < es.length
    · have hd1 : es[j]? = some es[j] := List.getElem?_eq_getElem hl1
      have gr : ∀ a o, H4 a = some o → (¬ Mu (lockS S T).c B'.R o a ∨ a ∈ []) → H5 a = some o := fun a o q z => by
        refine sx a o (fun e => ?_) q
        subst e
        rw [hL4] at q; cases q
        rcases z with z | z
        · exact z trivial
        · cases z
      obtain ⟨go1, yld1⟩ := okk1.step H5 gr j _ hd1
      refine .inr ⟨go1, fun H6 => Same H1 H6 ∧ (∀ a o, a ≠ L → H4 a = some o → H6 a = some o) ∧ EnvR (lockS S T) B' (wipeE ρ5 vs1) (wipe σ4 vs1) Fs4 H6 ∧ ∃ acc ys' zs' ρ', H6 L = some (.lst acc) ∧ Reps S.c B.R H6 ys' acc [] ∧ lcLoop vs1 bd1 tt1 ee (es.drop (j + 1)) (wipeE ρ5 vs1) = .ok zs' ρ' ∧ ys' ++ (zs' ++ rest) = all, fun H6 q => ⟨_, by omega, by omega, rfl, q⟩, fun x1 H6 hx1 => ?_⟩
      obtain ⟨sm6, G1, rx1, g01, g11⟩ := yld1 x1 H6 hx1
      rw [List.drop_eq_getElem_cons hl1] at hz5
      unfold lcLoop at hz5
      cases qb1 : bd1 es[j] (wipeE ρ5 vs1) with
      | none => rw [qb1] at hz5; cases hz5
      | some ρ7 =>
      rw [qb1] at hz5
      simp only at hz5
      refine ⟨B', wipeE ρ5 vs1, ρ7, Fs4, es[j], G1, Jx.same sm6, rx1, g01, (fun a ha => by rw [g01 rfl] at ha; cases ha), qb1, fun σ7 Fs7 J7 b7 => ?_⟩
      have hw7 : wipe σ7 vs1 = wipe σ4 vs1 := by
        have := (wipe_eq (σ := wipe σ4 vs1) (σ' := σ7) (vs := vs1) b7.len (fun j hj => b7.sg j (tsv1 j hj))).2
        rw [this]; exact hww
      have hr7 : wipeE ρ7 vs1 = wipeE ρ5 vs1 := by
        rw [← wipeE_twice (r := ρ5)]
        exact wipeE_same b7.le2 fun j hj => b7.rh j (tsv1 j hj)
      have base : ∀ {H8 : Hp}, Same H6 H8 → Same H1 H8 ∧ (∀ a o, a ≠ L → H4 a = some o → H8 a = some o) ∧ EnvR (lockS S T) B' (wipeE ρ5 vs1) (wipe σ4 vs1) Fs4 H8 ∧ H8 L = some (.lst acc5) ∧ Reps S.c B.R H8 ys5 acc5 [] := fun {H8} s8 =>
        ⟨(smx.trans sm6).trans s8, fun a o n q => s8 _ _ (sm6 _ _ (sx a o n q)), (Jx.same sm6).same s8, s8 _ _ (sm6 _ _ hL5), (ra5.same sm6).same s8⟩
      refine ⟨hw7, B', ρ7, Fs7, J7, ?_⟩
      cases qt : tt1 ρ7 with
      | er _ _ _ => rw [qt] at hz5; cases hz5
      | st => rw [qt] at hz5; cases hz5
      | ok b ρ8 =>
        rw [qt] at hz5
        intro H8 Fs8 J8 s8
        obtain ⟨rfl, f8, k8⟩ := s8.noeff rfl
        obtain ⟨q1, q2, q3, q4, q5⟩ := base k8
        cases b with
        | false =>
          simp only at hz5
          rw [hr7] at hz5
          exact iteF ⟨q1, q2, q3, acc5, ys5, zs5, ρ9, q4, q5, hz5, hall5⟩
        | true =>
          refine iteT ⟨B', ρ8, Fs8, J8, ?_⟩
          simp only at hz5
          cases qe : ee ρ8 with
          | er _ _ _ => rw [qe] at hz5; cases hz5
          | st => rw [qe] at hz5; cases hz5
          | ok y ρ6' =>
            rw [qe] at hz5
            simp only at hz5
            split at hz5
            case isFalse => cases hz5
            rename_i hp
            intro v H9 Fs9 F9 p
            obtain ⟨rfl, f9, k9⟩ := p.step.noeff rfl
            rw [hr7] at hz5
            cases q6 : lcLoop vs1 bd1 tt1 ee (es.drop (j + 1)) (wipeE ρ5 vs1) with
            | er _ _ _ => rw [q6] at hz5; cases hz5
            | st => rw [q6] at hz5; cases hz5
            | ok zs' ρ7' =>
              rw [q6] at hz5
              simp only at hz5
              cases hz5
              obtain ⟨q1, q2, q3, q4, q5⟩ := base (k8.trans k9)
              have F0 := p.rep.pure hp
              have rv := p.rep
              rw [F0, lockS_c, lk.R] at rv
              have hlen : acc5.length < sizeLine := by
                have e1 := congrArg List.length hall5
                have e2 := q5.length
                simp only [List.length_append, List.length_cons] at e1
                omega
              refine ⟨acc5, q4, hlen, ?_⟩
              have kp : ∀ a u, H9 a = some u → (¬ Mu S.c B.R u a ∨ a ∈ []) → (upd H9 L (.lst (acc5 ++ [v]))) a = some u := fun a u q z => by
                have ne : a ≠ L := fun z' => by
                  subst z'
                  rw [q4] at q; cases q
                  rcases z with z | z
                  · exact z trivial
                  · cases z
                rw [upd_ne ne]; exact q
              refine ⟨fun a o q => ?_, fun a o n q => ?_, q3.upd q4 hB' nLw, acc5 ++ [v], ys5 ++ [y], zs', ρ9, upd_same, (q5.keep kp).snoc (rv.keep kp), rfl, by simpa using hall5⟩
              · have ne : a ≠ L := fun z' => by subst z'; rw [hL] at q; cases q
                rw [upd_ne ne]; exact q1 a o q
              · rw [upd_ne n]; exact q2 a o n q
    · refine .inl ⟨okk1.stop H5 (fun a o q z => ?_) j (by omega), smx, acc5, ys5, rest, hL5, ra5, hrest, ?_⟩
      · refine sx a o (fun e => ?_) q
        subst e
        rw [hL4] at q; cases q
        rcases z with z | z
        · exact z trivial
        · cases z
      · rw [List.drop_eq_nil_of_le (by omega)] at hz5
        cases hz5
        simpa using hall5
  · refine .inl ⟨okk.stop H2 (fun a o q _ => sm2 a o q) i (by omega), ?_⟩
    rw [List.drop_eq_nil_of_le (by omega)] at hz
    cases hz
    rw [List.append_nil] at hall
    subst hall
    refine h1 (.ref L) H2 Fs1 [L] ⟨I1.same sm2, ?_, ?_, ?_⟩
    · exact .lst hL2 (by rw [← ra.length]; exact hsz) ra
    · simpa using s1.trans (e2 := false) (Step.of_same sm2)
    · refine ⟨by simp, fun a ha => ?_, fun j oj a ha z => ?_⟩
      · simp only [List.mem_singleton] at ha
        exact .inl (by rw [ha]; exact s1.dom L hL)
      · simp only [List.mem_singleton] at ha
        subst ha
        obtain ⟨u, hu, _⟩ := I1.mem oj z
        rw [hL] at hu; cases hu
theorem xe_lc2 {own : List (Str × Nat)} {vs1 : List Nat} {tg iter tg1 iter1 elt : Expr} {ifs1 : List Expr} {scope : Scope} {ev : M D} (hc : X.calm = true) (hN : X.N.Nodup) (h : XL2 X S W elt tg iter tg1 iter1 ifs1 scope own vs1 e1 ev) (hs : ∀ x, foldedSetIterable iter X.env x = Pure.pure x := by intro _; rfl) (hs1 : ∀ env x, foldedSetIterable iter1 env x = Pure.pure x := by intro _ _; rfl) :
    XE X S W (.ListComp elt [⟨tg, iter, [], 0⟩, ⟨tg1, iter1, ifs1, 0⟩] scope pos) .fr e1 ev := by
  obtain ⟨wi, g, tt, wi1, g1, tt1, te, h1, h2, h3, h4, h5, h6, h7, h8, h9, h10⟩ := h.ex
  exact ⟨_, pe_lc2 hc hN h1 h2 h3 h4 h5 h6 h7 h8 h9 hs hs1, h10⟩
theorem xs_lc2 (i : Nat) {y : Str} {py spos : Pos} {own : List (Str × Nat)} {vs1 : List Nat} {tg iter tg1 iter1 elt : Expr} {ifs1 : List Expr} {scope : Scope} {ev : M D} (hc : X.calm = true) (hN : X.N.Nodup) (h : XL2 X S W elt tg iter tg1 iter1 ifs1 scope own vs1 e1 ev) (z : putMd S i .fr = true := by rfl) (hi : X.N[i]? = some y := by rfl) (hy : X.env.scope.names.lookup y = some .local := by rfl)
    (hk : X.env.scope.kind = .function := by rfl) (hl : (py.line == pos.line) = true := by rfl) (ha : (scope.names.any fun (n, k) => n == y && (k == .local || k == .cell)) = false := by rfl) (hs : ∀ x, foldedSetIterable iter X.env x = Pure.pure x := by intro _; rfl) (hs1 : ∀ env x, foldedSetIterable iter1 env x = Pure.pure x := by intro _ _; rfl) :
    XS X S W rm (.Assign [.Name y py] (.ListComp elt [⟨tg, iter, [], 0⟩, ⟨tg1, iter1, ifs1, 0⟩] scope pos) spos) (sSet i ev) := by
  obtain ⟨wi, g, tt, wi1, g1, tt1, te, h1, h2, h3, h4, h5, h6, h7, h8, h9, h10⟩ := h.ex
  exact ⟨_, ps_setLc2 hc hN hi hy (sw_true hk hy hl ha) h1 h2 h3 h4 h5 h6 h7 h8 h9 hs hs1, fun B ρ σ Fs H E I hq => h10 B ρ σ Fs H _ I (hq.bind.imp fun d ρ1 _ h1 v H1 Fs1 F q => h1 _ _ H1 (put_ok q I z))⟩
end
end EL

/-! a module's constants; two tests in a clause -/
namespace EL
open PySem PySem.Spec PyProof.Rows
open L2 hiding XE
/-- the module's name x is worth d -/
def GlC (mg : Str → Option Value) (C : Core) (x : Str) (d : D) : Prop := ∃ v u, mg x = some u ∧ RelV v u ∧ ∀ (R : Addr → Prop) (H : Hp), Rep C R H d v []
section
variable {X : Cx} {S : Sig} {W : WX} {pos : Pos}
theorem x_gl {x : Str} {d : D} (h : GlC X.mg S.c x d) (hg : Gl X x := by rfl) (hd : (x == ("__debug__" : Str)) = false := by decide) : XE X S W (.Name x pos) .pu false (eC d) := by
  obtain ⟨v, u, h1, h2, h3⟩ := h
  exact xe_glob hg h1 h2 h3 hd
theorem GlC.lk {mg : Str → Option Value} {S : Sig} {x : Str} {d : D} (h : GlC mg S.c x d) (T : List Nat) : GlC mg (lockS S T).c x d := by rw [lockS_c]; exact h
theorem glc_strs {K : PySem.W.Frag} {mg : Str → Option Value} {C : Core} {a : Addr} {x : Str} {xs : List Str} (hm : mg x = some (.ref a)) (hl : xs.length ≤ 100) (h : ∀ H, SqT C.K H a (xs.map V.str)) : GlC mg C x (.tup (xs.map D.str)) := by
  refine ⟨.ref a, .ref a, hm, rfl, fun R H => .tup (h H) (by rw [List.length_map, sizeLine_eq]; omega) ?_⟩
  clear hl h
  induction xs with
  | nil => exact .nil
  | cons x xs ih => exact .cons (F := []) (G := []) (.str x) ih
end
end EL

/-! slots that are dead are emptied; loops by simp -/
namespace EL
open PySem PySem.Spec PyProof.Rows
open L2 hiding XE
/-- behind a, ahead of a: the slots ws are emptied -/
def sW (ws : List Nat) (a : Ms) : Ms := fun ρ => wipeSo ws (a ρ)
def sP (ws : List Nat) (a : Ms) : Ms := fun ρ => a (wipeE ρ ws)
section
variable {X : Cx} {S : Sig} {B : Base} {W : WX} {rm : Md} {ρ ρ' : Env} {F : List Addr} {Fs : Nat → List Addr}
theorem RetOk.wipe {ws : List Nat} (h : RetOk S B rm ρ Fs F) : RetOk S B rm (wipeE ρ ws) Fs F := by
  cases rm with
  | bo => trivial
  | pu => exact h
  | al _ => exact h
  | fr => exact ⟨h.1, h.2.1, fun i oi => h.2.2 i (own_drop oi)⟩
theorem SWn.wipe {ws : List Nat} {E : Ends} {o : So} (h : SWn S B W rm E (wipeSo ws o)) : SWn S B W rm E o := by
  cases o with
  | nx ρ' => exact fun σ' Fs' H' J => h σ' Fs' H' J.drop
  | ret d ρ' => exact fun v σ' Fs' H' F J r rr => h v σ' Fs' H' F J.drop r rr.wipe
  | bk ρ' => exact fun σ' Fs' H' J => h σ' Fs' H' J.drop
  | ct ρ' => exact fun σ' Fs' H' J => h σ' Fs' H' J.drop
  | er c fs ρ' => exact fun σ' Fs' H' dd J xd => h σ' Fs' H' dd J.drop xd
  | st => exact h
theorem xs_w (ws : List Nat) {s : Stmt} {a : Ms} (h : XS X S W rm s a) : XS X S W rm s (sW ws a) := by
  obtain ⟨t, p, r⟩ := h.ex
  exact ⟨t, p, fun B ρ σ Fs H E I q => r B ρ σ Fs H E I (SWn.wipe q)⟩
theorem xss_w (ws : List Nat) {ss : List Stmt} {a : Ms} (h : XSs X S W rm ss a) : XSs X S W rm ss (sW ws a) := by
  obtain ⟨t, p, r⟩ := h.ex
  exact ⟨t, p, fun B ρ σ Fs H E I q => r B ρ σ Fs H E I (SWn.wipe q)⟩
theorem xs_p (ws : List Nat) {s : Stmt} {a : Ms} (h : XS X S W rm s a) : XS X S W rm s (sP ws a) := by
  obtain ⟨t, p, r⟩ := h.ex
  exact ⟨t, p, fun B ρ σ Fs H E I q => r B (wipeE ρ ws) σ Fs H E I.drop q⟩
end
section
variable {a : Ms} {ρ ρ1 : Env} {d : D} {ds : List D} {ws : List Nat} {body : Ms} {bd : D → Env → Option Env} {as : M (List D)} {ea eb : M D}
@[simp] theorem z_sW : sW ws a ρ = wipeSo ws (a ρ) := (rfl)
@[simp] theorem z_sP : sP ws a ρ = a (wipeE ρ ws) := (rfl)
@[simp] theorem z_wipeSo_bk : wipeSo ws (.bk ρ) = .bk (wipeE ρ ws) := (rfl)
@[simp] theorem z_wipeSo_ct : wipeSo ws (.ct ρ) = .ct (wipeE ρ ws) := (rfl)
/-- one turn -/
def turnS (bd : D → Env → Option Env) (body : Ms) (d : D) (ρ : Env) : So := match bd d ρ with | none => .st | some ρ1 => body ρ1
def onO (o : Option Env) (body : Ms) : So := match o with | none => .st | some ρ1 => body ρ1
@[simp] theorem z_onO : onO (some ρ) body = body ρ := (rfl)
@[simp] theorem z_turnS : turnS bd body d ρ = onO (bd d ρ) body := by unfold turnS onO; cases bd d ρ <;> rfl
def nextS (r : So) (k : Env → So) : So := match r with | .nx ρ => k ρ | .ct ρ => k ρ | .bk ρ => .nx ρ | .ret d ρ => .ret d ρ | .er c fs ρ => .er c fs ρ | .st => .st
@[simp] theorem z_nextS_nx {k : Env → So} : nextS (.nx ρ) k = k ρ := (rfl)
@[simp] theorem z_nextS_ct {k : Env → So} : nextS (.ct ρ) k = k ρ := (rfl)
@[simp] theorem z_nextS_bk {k : Env → So} : nextS (.bk ρ) k = .nx ρ := (rfl)
@[simp] theorem z_nextS_ret {k : Env → So} : nextS (.ret d ρ) k = .ret d ρ := (rfl)
@[simp] theorem z_nextS_er {k : Env → So} {c : String} {fs : List (Str × D)} : nextS (.er c fs ρ) k = .er c fs ρ := (rfl)
@[simp] theorem z_nextS_ite {c : Prop} [Decidable c] {r s : So} {k : Env → So} : nextS (if c then r else s) k = if c then nextS r k else nextS s k := by split <;> rfl
theorem loopS_nil : loopS bd body [] ρ = .nx ρ := rfl
theorem loopS_cons : loopS bd body (d :: ds) ρ = nextS (turnS bd body d ρ) (loopS bd body ds) := by
  unfold turnS nextS
  rw [loopS]
  cases bd d ρ with
  | none => rfl
  | some ρ1 => cases h : body ρ1 <;> simp only [h]
/-- a loop whose turns go on: E the slots by a state -/
theorem loopS_fold {α σ : Type} (E : σ → Env) (step : σ → α → σ) (I : σ → Prop) {f : α → D} {xs : List α} (h : ∀ s, I s → ∀ x ∈ xs, (turnS bd body (f x) (E s) = .nx (E (step s x)) ∨ turnS bd body (f x) (E s) = .ct (E (step s x))) ∧ I (step s x)) {s0 : σ} (h0 : I s0) :
    loopS bd body (xs.map f) (E s0) = .nx (E (xs.foldl step s0)) ∧ I (xs.foldl step s0) := by
  induction xs generalizing s0 with
  | nil => exact ⟨rfl, h0⟩
  | cons x xs ih =>
    obtain ⟨h1, h2⟩ := h s0 h0 x (by simp)
    have ih := ih (fun s hs y hy => h s hs y (by simp [hy])) h2
    rw [List.map_cons, loopS_cons, List.foldl_cons]
    refine ⟨?_, ih.2⟩
    rcases h1 with h1 | h1 <;> rw [h1] <;> exact ih.1
theorem loop_fold {α σ : Type} (E : σ → Env) (step : σ → α → σ) (I : σ → Prop) (s0 : σ) {f : α → D} {xs : List α} (e : ρ = E s0) (h0 : I s0) (h : ∀ s, I s → ∀ x ∈ xs, (turnS bd body (f x) (E s) = .nx (E (step s x)) ∨ turnS bd body (f x) (E s) = .ct (E (step s x))) ∧ I (step s x)) :
    loopS bd body (xs.map f) ρ = .nx (E (xs.foldl step s0)) := by subst e; exact (loopS_fold E step I h h0).1
/-- .. with the number of the turn -/
theorem loop_foldN {α σ : Type} (E : σ → Env) (step : σ → α → σ) (I : Nat → σ → Prop) (s0 : σ) {f : α → D} {xs : List α} (e : ρ = E s0) (h0 : I 0 s0) (h : ∀ i s, I i s → ∀ x, xs[i]? = some x → (turnS bd body (f x) (E s) = .nx (E (step s x)) ∨ turnS bd body (f x) (E s) = .ct (E (step s x))) ∧ I (i + 1) (step s x)) :
    loopS bd body (xs.map f) ρ = .nx (E (xs.foldl step s0)) ∧ I xs.length (xs.foldl step s0) := by
  subst e
  suffices key : ∀ (ys : List α) (k : Nat) (s : σ), I k s → (∀ i x, ys[i]? = some x → xs[k + i]? = some x) → loopS bd body (ys.map f) (E s) = .nx (E (ys.foldl step s)) ∧ I (k + ys.length) (ys.foldl step s) by
    have := key xs 0 s0 h0 (fun i x hx => by simpa using hx)
    simpa using this
  intro ys
  induction ys with
  | nil => exact fun k s hs _ => ⟨rfl, hs⟩
  | cons y ys ih =>
    intro k s hs hx
    obtain ⟨h1, h2⟩ := h k s hs y (by simpa using hx 0 y rfl)
    have h3 := ih (k + 1) (step s y) h2 fun i x hi => by
      have := hx (i + 1) x (by simpa using hi)
      rw [← this]; congr 1; omega
    rw [List.map_cons, loopS_cons, List.foldl_cons]
    refine ⟨?_, by have := h3.2; rw [List.length_cons]; rw [show k + (ys.length + 1) = k + 1 + ys.length by omega]; exact this⟩
    rcases h1 with h1 | h1 <;> rw [h1] <;> exact h3.1
/-- .. which may tell early; the slots stay -/
theorem loopS_find {α : Type} {f : α → D} {xs : List α} (p : α → Bool) (r : α → D) (E' : α → Env) (h : ∀ x ∈ xs, (p x = true → turnS bd body (f x) ρ = .nx ρ ∨ turnS bd body (f x) ρ = .ct ρ) ∧ (p x = false → turnS bd body (f x) ρ = .ret (r x) (E' x))) :
    loopS bd body (xs.map f) ρ = match xs.find? (fun x => !p x) with | none => .nx ρ | some x => .ret (r x) (E' x) := by
  induction xs with
  | nil => rfl
  | cons x xs ih =>
    obtain ⟨h1, h2⟩ := h x (by simp)
    have ih := ih fun y hy => h y (by simp [hy])
    rw [List.map_cons, loopS_cons, List.find?_cons]
    cases hp : p x with
    | true =>
      simp only [Bool.not_true]
      rcases h1 hp with h1 | h1 <;> rw [h1] <;> exact ih
    | false =>
      simp only [Bool.not_false]
      rw [h2 hp]; rfl
/-- .. with an invariant that is a relation -/
theorem loopS_inv {I : List D → Env → Prop} (h : ∀ d ds ρ, I (d :: ds) ρ → ∃ ρ', (turnS bd body d ρ = .nx ρ' ∨ turnS bd body d ρ = .ct ρ') ∧ I ds ρ') : ∀ {ds : List D} {ρ : Env}, I ds ρ → ∃ ρ', loopS bd body ds ρ = .nx ρ' ∧ I [] ρ'
  | [], ρ, hi => ⟨ρ, rfl, hi⟩
  | d :: ds, ρ, hi => by
    obtain ⟨ρ1, h1, h2⟩ := h d ds ρ hi
    obtain ⟨ρ2, h3, h4⟩ := loopS_inv h h2
    refine ⟨ρ2, ?_, h4⟩
    rw [loopS_cons]
    rcases h1 with h1 | h1 <;> rw [h1] <;> exact h3
/-! sources -/
def r1K (ds : List D) (ρ : Env) : Rs (List D) := match ds with | [.int j] => if okR j && decide (j.toNat ≤ sizeLine) then .ok (rangeD 0 j.toNat) ρ else .st | _ => .st
@[simp] theorem z_r1K {j : Int} : r1K [.int j] ρ = if okR j && decide (j.toNat ≤ sizeLine) then .ok (rangeD 0 j.toNat) ρ else .st := (rfl)
@[simp] theorem z_itR1 : itR1 as ρ = bindR (as ρ) r1K := (rfl)
def r2K (ds : List D) (ρ : Env) : Rs (List D) := match ds with | [.int i, .int j] => if okR i && okR j && decide ((j - i).toNat ≤ sizeLine) then .ok (rangeD i (j - i).toNat) ρ else .st | _ => .st
@[simp] theorem z_r2K {i j : Int} : r2K [.int i, .int j] ρ = if okR i && okR j && decide ((j - i).toNat ≤ sizeLine) then .ok (rangeD i (j - i).toNat) ρ else .st := (rfl)
@[simp] theorem z_itR2 : itR2 as ρ = bindR (as ρ) r2K := (rfl)
def enK (d : D) (ρ : Env) : Rs (List D) := match (match d with | .tup ds => some ds | .lst ds => some ds | .scr ds => some ds | .ice ds => some ds | _ => none) with
  | some ds => if pureDs ds then .ok (enumD ds) ρ else .st
  | none => .st
@[simp] theorem z_enK_t : enK (.tup ds) ρ = if pureDs ds then .ok (enumD ds) ρ else .st := (rfl)
@[simp] theorem z_enK_l : enK (.lst ds) ρ = if pureDs ds then .ok (enumD ds) ρ else .st := (rfl)
@[simp] theorem z_itEnum : itEnum ea ρ = bindR (ea ρ) enK := (rfl)
def zpK (x y : D) (ρ : Env) : Rs (List D) := match x, y with
  | .tup ds, .tup es => if pureDs ds && pureDs es then .ok (zipD ds es) ρ else .st
  | _, _ => .st
@[simp] theorem z_zpK {es : List D} : zpK (.tup ds) (.tup es) ρ = if pureDs ds && pureDs es then .ok (zipD ds es) ρ else .st := (rfl)
def kZip (b : M D) : D → Env → Rs (List D) := fun d ρ => bindR (b ρ) (zpK d)
@[simp] theorem z_kZip {b : M D} : kZip b d ρ = bindR (b ρ) (zpK d) := (rfl)
@[simp] theorem z_itZip : itZip ea eb ρ = bindR (ea ρ) (kZip eb) := (rfl)
/-! comprehensions -/
def lcK (r : Rs (List D)) (ρ1 : Env) (vs : List Nat) : Rs D := match r with | .ok ys ρ2 => .ok (.lst ys) (backE ρ1 ρ2 vs) | _ => .st
@[simp] theorem z_lcK {ρ2 : Env} {vs : List Nat} : lcK (.ok ds ρ2) ρ1 vs = .ok (.lst ds) (backE ρ1 ρ2 vs) := (rfl)
@[simp] theorem z_backE_nil {ρ2 : Env} : backE ρ1 ρ2 [] = ρ2 := (rfl)
@[simp] theorem z_backE_cons {ρ2 : Env} {v : Nat} {vs : List Nat} : backE ρ1 ρ2 (v :: vs) = (backE ρ1 ρ2 vs).set v (ρ1.getD v none) := (rfl)
def kLcX (vs : List Nat) (bd : D → Env → Option Env) (tt : M Bool) (ea : M D) : List D → Env → Rs D := fun ds ρ1 => lcK (lcLoop vs bd tt ea ds (wipeE ρ1 vs)) ρ1 vs
@[simp] theorem z_kLcX {vs : List Nat} {bd : D → Env → Option Env} {tt : M Bool} {ea : M D} : kLcX vs bd tt ea ds ρ1 = lcK (lcLoop vs bd tt ea ds (wipeE ρ1 vs)) ρ1 vs := (rfl)
@[simp] theorem z_eLc {vs : List Nat} {it : M (List D)} {tt : M Bool} : eLc vs it bd tt ea ρ = bindR (it ρ) (kLcX vs bd tt ea) := by
  unfold eLc kLcX lcK
  congr 1
/-- what one item gives -/
def itemS (bd : D → Env → Option Env) (tt : M Bool) (ee : M D) (d : D) (ρ : Env) : Rs (Option D) := match bd d ρ with
  | none => .st
  | some ρ1 => bindR (tt ρ1) fun k ρ2 => if k then bindR (ee ρ2) fun y ρ3 => if pureD y then .ok (some y) ρ3 else .st else .ok none ρ2
def onR {α : Type} (o : Option Env) (k : Env → Rs α) : Rs α := match o with | none => .st | some ρ1 => k ρ1
@[simp] theorem z_onR {α : Type} {k : Env → Rs α} : onR (some ρ) k = k ρ := (rfl)
def kIt3  : D → Env → Rs (Option D) := fun y ρ => if pureD y then .ok (some y) ρ else .st
@[simp] theorem z_kIt3  {y : D} : kIt3  y ρ = if pureD y then .ok (some y) ρ else .st := (rfl)
def kIt2 (ee : M D) : Bool → Env → Rs (Option D) := fun k ρ => if k then bindR (ee ρ) kIt3 else .ok none ρ
@[simp] theorem z_kIt2 {ee : M D} {k : Bool} : kIt2 ee k ρ = if k then bindR (ee ρ) kIt3 else .ok none ρ := (rfl)
def kIt1 (tt : M Bool) (ee : M D) : Env → Rs (Option D) := fun ρ => bindR (tt ρ) (kIt2 ee)
@[simp] theorem z_kIt1 {tt : M Bool} {ee : M D} : kIt1 tt ee ρ = bindR (tt ρ) (kIt2 ee) := (rfl)
@[simp] theorem z_itemS {tt : M Bool} : itemS bd tt ea d ρ = onR (bd d ρ) (kIt1 tt ea) := by unfold itemS onR; cases bd d ρ <;> rfl
/-- a comprehension: E the slots by a state -/
theorem lc_fold {α σ : Type} (E : σ → Env) (step : σ → α → σ) (g : σ → α → Option D) (I : σ → Prop) {vs : List Nat} {tt : M Bool} {f : α → D} {xs : List α} (h : ∀ s, I s → ∀ x ∈ xs, (∃ ρ', itemS bd tt ea (f x) (E s) = .ok (g s x) ρ' ∧ wipeE ρ' vs = E (step s x)) ∧ I (step s x)) {s0 : σ} (h0 : I s0) :
    ∃ ys, lcLoop vs bd tt ea (xs.map f) (E s0) = .ok ys (E (xs.foldl step s0)) ∧ ys = (xs.foldl (fun (p : σ × List D) x => (step p.1 x, p.2 ++ (g p.1 x).toList)) (s0, [])).2 ∧ I (xs.foldl step s0) := by
  suffices key : ∀ (zs : List D) (s0 : σ), I s0 → ∃ ys, lcLoop vs bd tt ea (xs.map f) (E s0) = .ok ys (E (xs.foldl step s0)) ∧ zs ++ ys = (xs.foldl (fun (p : σ × List D) x => (step p.1 x, p.2 ++ (g p.1 x).toList)) (s0, zs)).2 ∧ I (xs.foldl step s0) by
    obtain ⟨ys, a, b, c⟩ := key [] s0 h0
    exact ⟨ys, a, by simpa using b, c⟩
  clear h0 s0
  induction xs with
  | nil => exact fun zs s0 h0 => ⟨[], rfl, by simp, h0⟩
  | cons x xs ih =>
    intro zs s0 h0
    obtain ⟨⟨ρ', h1, h3⟩, h2⟩ := h s0 h0 x (by simp)
    have ih := ih (fun s hs y hy => h s hs y (by simp [hy]))
    rw [List.map_cons]
    simp only [List.foldl_cons]
    unfold lcLoop
    unfold itemS at h1
    cases q : bd (f x) (E s0) with
    | none => rw [q] at h1; cases h1
    | some ρ1 =>
    rw [q] at h1
    simp only at h1 ⊢
    cases qt : tt ρ1 with
    | st => rw [qt] at h1; cases h1
    | er c fs r => rw [qt] at h1; cases h1
    | ok k ρ2 =>
    rw [qt] at h1
    simp only [z_bindR_ok] at h1
    cases k with
    | false =>
      simp only [Bool.false_eq_true, if_false] at h1
      injection h1 with hg hr
      subst hr
      obtain ⟨ys, a, b, c⟩ := ih zs (step s0 x) h2
      refine ⟨ys, ?_, ?_, c⟩
      · simp only
        rw [h3, a]
      · rw [b, ← hg]
        simp
    | true =>
      simp only [if_true] at h1
      cases qe : ea ρ2 with
      | st => rw [qe] at h1; cases h1
      | er c fs r => rw [qe] at h1; cases h1
      | ok y ρ3 =>
      rw [qe] at h1
      simp only [z_bindR_ok] at h1
      split at h1
      case isFalse => cases h1
      rename_i hp
      obtain ⟨ys, a, b, c⟩ := ih (zs ++ [y]) (step s0 x) h2
      injection h1 with hg hr
      subst hr
      refine ⟨y :: ys, ?_, ?_, c⟩
      · simp only [qe]
        rw [if_pos hp, h3, a]
      · rw [← hg]
        simpa using b
theorem fm_foldl {α σ : Type} {step : σ → α → σ} {g : α → Option D} {xs : List α} : ∀ {s0 : σ} {zs : List D}, (xs.foldl (fun (p : σ × List D) x => (step p.1 x, p.2 ++ (g x).toList)) (s0, zs)).2 = zs ++ xs.filterMap g := by
  induction xs with
  | nil => simp
  | cons x xs ih =>
    intro s0 zs
    rw [List.foldl_cons, ih, List.filterMap_cons]
    cases g x <;> simp
/-- .. that changes nothing -/
theorem lc_map {α : Type} {vs : List Nat} {tt : M Bool} {f : α → D} {xs : List α} (g : α → Option D) (h : ∀ x ∈ xs, ∃ ρ', itemS bd tt ea (f x) ρ = .ok (g x) ρ' ∧ wipeE ρ' vs = ρ) : lcLoop vs bd tt ea (xs.map f) ρ = .ok (xs.filterMap g) ρ := by
  obtain ⟨ys, h1, h2, _⟩ := lc_fold (E := fun (_ : Unit) => ρ) (step := fun _ _ => ()) (g := fun _ x => g x) (I := fun _ => True) (vs := vs) (tt := tt) (f := f) (xs := xs) (ea := ea) (bd := bd) (fun s _ x hx => ⟨h x hx, trivial⟩) (s0 := ()) trivial
  rw [h1, h2]
  show Rs.ok (xs.foldl (fun (p : Unit × List D) x => ((), p.2 ++ (g x).toList)) ((), [])).2 ρ = _
  rw [fm_foldl (step := fun _ _ => ())]
  simp
end
end EL

/-! texts, data, by simp -/
namespace EL
open PySem PySem.Spec PyProof.Rows
open L2 hiding XE
theorem ofStr_inj {a b : String} (h : Str.ofString a = Str.ofString b) : a = b := by
  rw [Str.ofString_eq_toList, Str.ofString_eq_toList] at h
  have h2 : (a.toList.map Char.toNat).toArray = (b.toList.map Char.toNat).toArray := congrArg Str.cps h
  have h3 : a.toList.map Char.toNat = b.toList.map Char.toNat := by simpa using h2
  have h4 : a.toList = b.toList := by
    have inj : ∀ xs ys : List Char, xs.map Char.toNat = ys.map Char.toNat → xs = ys := by
      intro xs
      induction xs with
      | nil => intro ys h; cases ys with | nil => rfl | cons y ys => cases h
      | cons x xs ih =>
        intro ys h
        cases ys with
        | nil => cases h
        | cons y ys =>
          simp only [List.map_cons, List.cons.injEq] at h
          rw [ih ys h.2, Char.toNat_inj.mp h.1]
    exact inj _ _ h3
  exact String.toList_inj.mp h4
@[simp] theorem z_str_eq {a b : String} : (Str.ofString a = Str.ofString b) = (a = b) := propext ⟨ofStr_inj, fun e => by rw [e]⟩
@[simp] theorem z_str_beq {a b : String} : (Str.ofString a == Str.ofString b) = (a == b) := by
  rw [Bool.eq_iff_iff, beq_iff_eq, beq_iff_eq, z_str_eq]
@[simp] theorem strOk_lit {a : String} : PyData.strOk (Str.ofString a) = true := by
  rw [Str.ofString_eq_toList]
  unfold PyData.strOk
  simp only [List.all_toArray, List.all_map, List.all_eq_true]
  intro c _
  have h := c.valid
  simp only [UInt32.isValidChar, Nat.isValidChar] at h
  show decide (c.val.toNat < 1114112) = true
  rw [decide_eq_true_eq]; omega
/-- data of so many layers -/
def okN (n : Nat) (d : D) : Bool := datD d && decide (depD d ≤ n)
def okNs (n : Nat) (ds : List D) : Bool := datDs ds && decide (depDs ds ≤ n)
section
variable {n : Nat} {d : D} {ds es : List D}
@[simp] theorem z_okD : okD d = okN 64 d := (rfl)
@[simp] theorem z_okN_non : okN n .non = true := by simp [okN, datD, depD]
@[simp] theorem z_okN_bl {b : Bool} : okN n (.bl b) = true := by simp [okN, datD, depD]
@[simp] theorem z_okN_int {i : Int} : okN n (.int i) = true := by simp [okN, datD, depD]
@[simp] theorem z_okN_str {x : Str} : okN n (.str x) = PyData.strOk x := by simp [okN, datD, depD]
@[simp] theorem z_okN_tup : okN (n + 1) (.tup ds) = okNs n ds := by simp [okN, okNs, datD, depD]
@[simp] theorem z_okN_lst : okN (n + 1) (.lst ds) = okNs n ds := by simp [okN, okNs, datD, depD]
@[simp] theorem z_okN_ice : okN (n + 1) (.ice ds) = okNs n ds := by simp [okN, okNs, datD, depD]
@[simp] theorem z_okNs_nil : okNs n [] = true := by simp [okNs, datDs, depDs]
@[simp] theorem z_okNs_cons : okNs n (d :: ds) = (okN n d && okNs n ds) := by
  simp only [okNs, okN, datDs, depDs]
  rw [Bool.eq_iff_iff]
  simp only [Bool.and_eq_true, decide_eq_true_eq, Nat.max_le]
  constructor
  · rintro ⟨⟨a, b⟩, c, d⟩; exact ⟨⟨a, c⟩, b, d⟩
  · rintro ⟨⟨a, c⟩, b, d⟩; exact ⟨⟨a, b⟩, c, d⟩
theorem okNs_all : okNs n ds = ds.all (okN n) := by
  induction ds with
  | nil => simp
  | cons d ds ih => simp [ih]
@[simp] theorem z_okNs_app : okNs n (ds ++ es) = (okNs n ds && okNs n es) := by simp [okNs_all]
@[simp] theorem z_okNs_ints {ns : List Int} : okNs n (ns.map D.int) = true := by simp [okNs_all]
theorem okNs_map {α : Type} {f : α → D} {xs : List α} (h : ∀ x ∈ xs, okN n (f x) = true) : okNs n (xs.map f) = true := by
  rw [okNs_all, List.all_eq_true]
  intro y hy
  obtain ⟨x, hx, rfl⟩ := List.mem_map.mp hy
  exact h x hx
theorem okN_mono {m : Nat} (h : okN n d = true) (l : n ≤ m) : okN m d = true := by
  simp only [okN, Bool.and_eq_true, decide_eq_true_eq] at h ⊢
  exact ⟨h.1, Nat.le_trans h.2 l⟩
theorem pureDs_all : pureDs ds = ds.all pureD := by
  induction ds with
  | nil => simp
  | cons d ds ih => simp [ih]
theorem sz_le {n : Nat} (h : n ≤ 65536) : n ≤ sizeLine := by rw [sizeLine_eq]; omega
theorem sz_lt {n : Nat} (h : n ≤ 65536) : n < sizeLine := by rw [sizeLine_eq]; omega
@[simp] theorem z_sz {n : Nat} (h : Nat.ble n 65536 = true) : (n ≤ sizeLine) = True := eq_true (sz_le (Nat.le_of_ble_eq_true h))
@[simp] theorem z_sz2 {n : Nat} (h : Nat.ble n 65536 = true) : (n < sizeLine) = True := eq_true (sz_lt (Nat.le_of_ble_eq_true h))
/-! comprehensions over written items -/
def consR (y : D) (r : Rs (List D)) : Rs (List D) := match r with | .ok ys ρ => .ok (y :: ys) ρ | _ => .st
@[simp] theorem z_consR {y : D} {ys : List D} {ρ : Env} : consR y (.ok ys ρ) = .ok (y :: ys) ρ := (rfl)
@[simp] theorem z_consR_ite {y : D} {c : Prop} [Decidable c] {r s : Rs (List D)} : consR y (if c then r else s) = if c then consR y r else consR y s := by split <;> rfl
def lcStep (r : Rs (Option D)) (k : Env → Rs (List D)) : Rs (List D) := match r with | .ok (some y) ρ => consR y (k ρ) | .ok none ρ => k ρ | _ => .st
@[simp] theorem z_lcStep_s {y : D} {ρ : Env} {k : Env → Rs (List D)} : lcStep (.ok (some y) ρ) k = consR y (k ρ) := (rfl)
@[simp] theorem z_lcStep_n {ρ : Env} {k : Env → Rs (List D)} : lcStep (.ok none ρ) k = k ρ := (rfl)
@[simp] theorem z_lcStep_ite {c : Prop} [Decidable c] {r s : Rs (Option D)} {k : Env → Rs (List D)} : lcStep (if c then r else s) k = if c then lcStep r k else lcStep s k := by split <;> rfl
@[simp] theorem z_lc_nil {vs : List Nat} {bd : D → Env → Option Env} {tt : M Bool} {ee : M D} {ρ : Env} : lcLoop vs bd tt ee [] ρ = .ok [] ρ := (rfl)
def kLcR (vs : List Nat) (bd : D → Env → Option Env) (tt : M Bool) (ee : M D) (ds : List D) : Env → Rs (List D) := fun ρ => lcLoop vs bd tt ee ds (wipeE ρ vs)
@[simp] theorem z_kLcR {vs : List Nat} {bd : D → Env → Option Env} {tt : M Bool} {ee : M D} {ds : List D} {ρ : Env} : kLcR vs bd tt ee ds ρ = lcLoop vs bd tt ee ds (wipeE ρ vs) := (rfl)
@[simp] theorem z_lc_cons {vs : List Nat} {bd : D → Env → Option Env} {tt : M Bool} {ee : M D} {ρ : Env} {d : D} {ds : List D} : lcLoop vs bd tt ee (d :: ds) ρ = lcStep (itemS bd tt ee d ρ) (kLcR vs bd tt ee ds) := by
  rw [lcLoop]
  unfold itemS
  cases bd d ρ with
  | none => rfl
  | some ρ1 =>
    simp only
    cases tt ρ1 with
    | st => rfl
    | er c fs r => rfl
    | ok k ρ2 =>
      cases k with
      | false => rfl
      | true =>
        simp only [z_bindR_ok, if_true]
        cases ee ρ2 with
        | st => rfl
        | er c fs r => rfl
        | ok y ρ3 =>
          simp only [z_bindR_ok]
          by_cases hp : pureD y = true
          · rw [if_pos hp, if_pos hp]
            simp only [z_lcStep_s, z_kLcR]
            cases lcLoop vs bd tt ee ds (wipeE ρ3 vs) <;> rfl
          · rw [if_neg hp, if_neg hp]; rfl
@[simp] theorem z_loopS_nil {bd : D → Env → Option Env} {body : Ms} {ρ : Env} : loopS bd body [] ρ = .nx ρ := (rfl)
@[simp] theorem z_loopS_cons {bd : D → Env → Option Env} {body : Ms} {ρ : Env} {d : D} {ds : List D} : loopS bd body (d :: ds) ρ = nextS (turnS bd body d ρ) (loopS bd body ds) := loopS_cons
@[simp] theorem z_lcK_ite {c : Prop} [Decidable c] {r s : Rs (List D)} {ρ1 : Env} {vs : List Nat} : lcK (if c then r else s) ρ1 vs = if c then lcK r ρ1 vs else lcK s ρ1 vs := by split <;> rfl
@[simp] theorem z_pairK_ite {c : Prop} [Decidable c] {r s : Option (D × D)} {i : Nat} {ρ : Env} : pairK (if c then r else s) i ρ = if c then pairK r i ρ else pairK s i ρ := by split <;> rfl
/-! in two -/
def lc2K (o : Option (List D)) (ρ : Env) : Rs D := match o with | some ys => if ys.length ≤ sizeLine then .ok (.lst ys) ρ else .st | _ => .st
@[simp] theorem z_lc2K {ys : List D} {ρ : Env} : lc2K (some ys) ρ = if ys.length ≤ sizeLine then .ok (.lst ys) ρ else .st := (rfl)
def kLc2 (vs vs1 : List Nat) (bd : D → Env → Option Env) (it1 : M (List D)) (bd1 : D → Env → Option Env) (tt1 : M Bool) (ee : M D) : List D → Env → Rs D := fun ds ρ => lc2K (lc2Loop bd (lc2In vs1 it1 bd1 tt1 ee) ds (wipeE ρ vs)) ρ
@[simp] theorem z_kLc2 {vs vs1 : List Nat} {bd : D → Env → Option Env} {it1 : M (List D)} {bd1 : D → Env → Option Env} {tt1 : M Bool} {ee : M D} {ρ : Env} {ds : List D} : kLc2 vs vs1 bd it1 bd1 tt1 ee ds ρ = lc2K (lc2Loop bd (lc2In vs1 it1 bd1 tt1 ee) ds (wipeE ρ vs)) ρ := (rfl)
@[simp] theorem z_eLc2 {vs vs1 : List Nat} {it : M (List D)} {bd : D → Env → Option Env} {it1 : M (List D)} {bd1 : D → Env → Option Env} {tt1 : M Bool} {ee : M D} {ρ : Env} : eLc2 vs vs1 it bd it1 bd1 tt1 ee ρ = bindR (it ρ) (kLc2 vs vs1 bd it1 bd1 tt1 ee) := by
  unfold eLc2 kLc2 lc2K
  congr 1
def kLc2I (vs1 : List Nat) (bd1 : D → Env → Option Env) (tt1 : M Bool) (ee : M D) : List D → Env → Rs (List D) := fun es ρ => lcLoop vs1 bd1 tt1 ee es (wipeE ρ vs1)
@[simp] theorem z_kLc2I {vs1 : List Nat} {bd1 : D → Env → Option Env} {tt1 : M Bool} {ee : M D} {ρ : Env} {es : List D} : kLc2I vs1 bd1 tt1 ee es ρ = lcLoop vs1 bd1 tt1 ee es (wipeE ρ vs1) := (rfl)
@[simp] theorem z_lc2In {vs1 : List Nat} {it1 : M (List D)} {bd1 : D → Env → Option Env} {tt1 : M Bool} {ee : M D} {ρ : Env} : lc2In vs1 it1 bd1 tt1 ee ρ = bindR (it1 ρ) (kLc2I vs1 bd1 tt1 ee) := (rfl)
def rsV {α : Type} (r : Rs α) : Option α := match r with | .ok a _ => some a | _ => none
@[simp] theorem z_rsV {α : Type} {a : α} {ρ : Env} : rsV (.ok a ρ) = some a := (rfl)
@[simp] theorem z_rsV_ite {α : Type} {c : Prop} [Decidable c] {r s : Rs α} : rsV (if c then r else s) = if c then rsV r else rsV s := by split <;> rfl
theorem lc2_map {α : Type} {f : α → D} {xs : List α} {bd : D → Env → Option Env} {inn : M (List D)} {ρ : Env} (g : α → List D) (h : ∀ x ∈ xs, rsV (onR (bd (f x) ρ) inn) = some (g x)) : lc2Loop bd inn (xs.map f) ρ = some (xs.flatMap g) := by
  induction xs with
  | nil => rfl
  | cons x xs ih =>
    have ih := ih fun y hy => h y (by simp [hy])
    have h1 := h x (by simp)
    rw [List.map_cons, lc2Loop]
    unfold onR at h1
    cases q : bd (f x) ρ with
    | none => rw [q] at h1; cases h1
    | some ρ1 =>
      rw [q] at h1
      simp only at h1 ⊢
      cases qi : inn ρ1 with
      | st => rw [qi] at h1; cases h1
      | er c fs r => rw [qi] at h1; cases h1
      | ok ys r =>
        rw [qi] at h1
        cases h1
        simp only
        rw [ih]; rfl
/-! items by their places -/
theorem atI_nat' {α : Type} {xs : List α} {i : Nat} : atI xs (i : Int) = xs[i]? := by
  unfold atI ixN
  have h0 : (0 : Int) ≤ (i : Int) := by omega
  rw [if_pos h0]
  by_cases h : i < xs.length
  · rw [if_pos (by omega)]; simp
  · rw [if_neg (by omega), List.getElem?_eq_none (by omega)]; rfl
section
variable {ds : List D} {i : Nat}
@[simp] theorem z_ix_tup : dIx (.tup ds) (.int (i : Int)) = ds[i]? := atI_nat'
@[simp] theorem z_ix_lst : dIx (.lst ds) (.int (i : Int)) = ds[i]? := atI_nat'
@[simp] theorem z_ix_ice : dIx (.ice ds) (.int (i : Int)) = ds[i]? := atI_nat'
@[simp] theorem z_ix_tup1 : dIx (.tup ds) (.int ((i : Int) + 1)) = ds[i + 1]? := atI_nat' (i := i + 1)
@[simp] theorem z_ix_lst1 : dIx (.lst ds) (.int ((i : Int) + 1)) = ds[i + 1]? := atI_nat' (i := i + 1)
@[simp] theorem z_ix_tup_0 : dIx (.tup ds) (.int 0) = ds[0]? := atI_nat' (i := 0)
@[simp] theorem z_ix_tup_1 : dIx (.tup ds) (.int 1) = ds[1]? := atI_nat' (i := 1)
@[simp] theorem z_ix_tup_2 : dIx (.tup ds) (.int 2) = ds[2]? := atI_nat' (i := 2)
@[simp] theorem z_ix_tup_3 : dIx (.tup ds) (.int 3) = ds[3]? := atI_nat' (i := 3)
@[simp] theorem z_ix_tup_4 : dIx (.tup ds) (.int 4) = ds[4]? := atI_nat' (i := 4)
@[simp] theorem z_ix_tup_5 : dIx (.tup ds) (.int 5) = ds[5]? := atI_nat' (i := 5)
@[simp] theorem z_ix_tup_6 : dIx (.tup ds) (.int 6) = ds[6]? := atI_nat' (i := 6)
@[simp] theorem z_ix_tup_7 : dIx (.tup ds) (.int 7) = ds[7]? := atI_nat' (i := 7)
@[simp] theorem z_ix_tup_8 : dIx (.tup ds) (.int 8) = ds[8]? := atI_nat' (i := 8)
@[simp] theorem z_ix_tup_9 : dIx (.tup ds) (.int 9) = ds[9]? := atI_nat' (i := 9)
@[simp] theorem z_ix_tup_10 : dIx (.tup ds) (.int 10) = ds[10]? := atI_nat' (i := 10)
@[simp] theorem z_ix_tup_11 : dIx (.tup ds) (.int 11) = ds[11]? := atI_nat' (i := 11)
@[simp] theorem z_ix_tup_12 : dIx (.tup ds) (.int 12) = ds[12]? := atI_nat' (i := 12)
@[simp] theorem z_ix_lst_0 : dIx (.lst ds) (.int 0) = ds[0]? := atI_nat' (i := 0)
@[simp] theorem z_ix_lst_1 : dIx (.lst ds) (.int 1) = ds[1]? := atI_nat' (i := 1)
@[simp] theorem z_ix_lst_2 : dIx (.lst ds) (.int 2) = ds[2]? := atI_nat' (i := 2)
@[simp] theorem z_ix_lst_3 : dIx (.lst ds) (.int 3) = ds[3]? := atI_nat' (i := 3)
@[simp] theorem z_ix_lst_4 : dIx (.lst ds) (.int 4) = ds[4]? := atI_nat' (i := 4)
end
/-! methods that only read -/
def bmK (x : D) (T : String) (g : List D → Option D) (b : M (List D)) (ρ : Env) : Rs D := if tyM x = some T then bindR (b ρ) fun ds ρ => lift (g (x :: ds)) ρ else .st
def kBm (g : List D → Option D) (x : D) : List D → Env → Rs D := fun es ρ => lift (g (x :: es)) ρ
@[simp] theorem z_kBm {g : List D → Option D} {x : D} {ρ : Env} {es : List D} : kBm g x es ρ = lift (g (x :: es)) ρ := (rfl)
@[simp] theorem z_bmK {g : List D → Option D} {b : M (List D)} {ρ : Env} {ds : List D} : bmK (.lst ds) "list" g b ρ = bindR (b ρ) (kBm g (.lst ds)) := (rfl)
def kBm0 (T : String) (g : List D → Option D) (b : M (List D)) : D → Env → Rs D := fun x ρ => bmK x T g b ρ
@[simp] theorem z_kBm0 {T : String} {g : List D → Option D} {b : M (List D)} {ρ : Env} {x : D} : kBm0 T g b x ρ = bmK x T g b ρ := (rfl)
@[simp] theorem z_eBm {T : String} {g : List D → Option D} {a : M D} {b : M (List D)} {ρ : Env} : eBm T g a b ρ = bindR (a ρ) (kBm0 T g b) := (rfl)
def lcW (vs : List Nat) (r : Rs (Option D)) : Option (Option D × Env) := match r with | .ok o ρ => some (o, wipeE ρ vs) | _ => none
@[simp] theorem z_lcW {vs : List Nat} {o : Option D} {ρ : Env} : lcW vs (.ok o ρ) = some (o, wipeE ρ vs) := (rfl)
@[simp] theorem z_lcW_ite {vs : List Nat} {c : Prop} [Decidable c] {r s : Rs (Option D)} : lcW vs (if c then r else s) = if c then lcW vs r else lcW vs s := by split <;> rfl
/-- a comprehension that changes nothing -/
theorem lc_w {α : Type} {vs : List Nat} {bd : D → Env → Option Env} {tt : M Bool} {ee : M D} {f : α → D} {xs : List α} {ρ : Env} (g : α → Option D) (h : ∀ x ∈ xs, lcW vs (itemS bd tt ee (f x) ρ) = some (g x, ρ)) : lcLoop vs bd tt ee (xs.map f) ρ = .ok (xs.filterMap g) ρ := by
  refine lc_map g fun x hx => ?_
  have := h x hx
  cases q : itemS bd tt ee (f x) ρ with
  | st => rw [q] at this; cases this
  | er c fs r => rw [q] at this; cases this
  | ok o ρ' =>
    rw [q] at this
    simp only [z_lcW, Option.some.injEq, Prod.mk.injEq] at this
    exact ⟨ρ', by rw [this.1], this.2⟩
theorem lc_wD {vs : List Nat} {bd : D → Env → Option Env} {tt : M Bool} {ee : M D} {ds : List D} {ρ : Env} (g : D → Option D) (h : ∀ x ∈ ds, lcW vs (itemS bd tt ee x ρ) = some (g x, ρ)) : lcLoop vs bd tt ee ds ρ = .ok (ds.filterMap g) ρ := by
  have := lc_w (f := id) (xs := ds) (vs := vs) (bd := bd) (tt := tt) (ee := ee) (ρ := ρ) g h
  rwa [List.map_id] at this
/-- all, not opened by simp -/
def vAll {α : Type} (p : α → Bool) (xs : List α) : Bool := xs.all p
theorem vAll_cons {α : Type} {p : α → Bool} {x : α} {xs : List α} : vAll p (x :: xs) = (p x && vAll p xs) := by simp only [vAll, List.all_cons]
theorem vAll_iff {α : Type} {p : α → Bool} {xs : List α} : vAll p xs = true ↔ ∀ x ∈ xs, p x = true := by unfold vAll; exact List.all_eq_true
/-- a loop that tells r at the first item that is not p; the slots stay -/
theorem loop_all {bd : D → Env → Option Env} {body : Ms} {ρ : Env} (p : D → Bool) (r : D) {ds : List D} (h : ∀ x ∈ ds, turnS bd body x ρ = if p x then .nx ρ else .ret r ρ) : loopS bd body ds ρ = if vAll p ds then .nx ρ else .ret r ρ := by
  induction ds with
  | nil => rfl
  | cons x xs ih =>
    have ih := ih fun y hy => h y (by simp [hy])
    rw [loopS_cons, h x (by simp), vAll_cons]
    cases hp : p x with
    | true => simpa using ih
    | false => simp
/-- .. by the number of the turn -/
theorem loop_allN {bd : D → Env → Option Env} {body : Ms} {ρ : Env} (p : Nat → Bool) (r : D) {f : Nat → D} {k : Nat} (h : ∀ i, i < k → turnS bd body (f i) ρ = if p i then .nx ρ else .ret r ρ) : loopS bd body ((List.range k).map f) ρ = if vAll p (List.range k) then .nx ρ else .ret r ρ := by
  have hh : ∀ i ∈ List.range k, turnS bd body (f i) ρ = if p i then .nx ρ else .ret r ρ := fun i hi => h i (List.mem_range.mp hi)
  generalize List.range k = xs at hh
  induction xs with
  | nil => rfl
  | cons x xs ih =>
    have ih := ih fun y hy => hh y (by simp [hy])
    rw [List.map_cons, loopS_cons, hh x (by simp), vAll_cons]
    cases hp : p x with
    | true => simpa using ih
    | false => simp
section
variable {a b x : D} {ds : List D}
@[simp] theorem z_eqv_int {i j : Int} : eqvD (.int i) (.int j) = decide (i = j) := by simp only [eqvD]; rfl
@[simp] theorem z_eqv_str {i j : Str} : eqvD (.str i) (.str j) = (i == j) := by simp only [eqvD]
@[simp] theorem z_eqv_bl {i j : Bool} : eqvD (.bl i) (.bl j) = (i == j) := by simp only [eqvD]
@[simp] theorem z_eqv_nn : eqvD .non .non = true := by simp only [eqvD]
@[simp] theorem z_eqv_tt {xs ys : List D} : eqvD (.tup xs) (.tup ys) = eqvDs xs ys := by simp only [eqvD]
@[simp] theorem z_eqv_ll {xs ys : List D} : eqvD (.lst xs) (.lst ys) = eqvDs xs ys := by simp only [eqvD]
@[simp] theorem z_eqvs_nn : eqvDs [] [] = true := by simp only [eqvDs]
@[simp] theorem z_eqvs_nc {y : D} {ys : List D} : eqvDs [] (y :: ys) = false := by simp only [eqvDs]
@[simp] theorem z_eqvs_cn {y : D} {ys : List D} : eqvDs (y :: ys) [] = false := by simp only [eqvDs]
@[simp] theorem z_eqvs_cc {x y : D} {xs ys : List D} : eqvDs (x :: xs) (y :: ys) = (eqvD x y && eqvDs xs ys) := by simp only [eqvDs]
theorem dEq_ok (h1 : okN 64 a = true) (h2 : okN 64 b = true) : dEq a b = some (.bl (eqvD a b)) := by unfold dEq; rw [z_okD, z_okD, h1, h2]; rfl
theorem dNe_ok (h1 : okN 64 a = true) (h2 : okN 64 b = true) : dNe a b = some (.bl (!eqvD a b)) := by unfold dNe; rw [z_okD, z_okD, h1, h2]; rfl
theorem dIn_tup (h1 : okN 64 x = true) (h2 : okNs 63 ds = true) : dIn x (.tup ds) = some (.bl (ds.any fun z => eqvD z x)) := by unfold dIn inD; simp [h1, h2]
theorem dNi_tup (h1 : okN 64 x = true) (h2 : okNs 63 ds = true) : dNotIn x (.tup ds) = some (.bl (!ds.any fun z => eqvD z x)) := by unfold dNotIn inD; simp [h1, h2]
theorem dIn_lst (h1 : okN 64 x = true) (h2 : okNs 63 ds = true) : dIn x (.lst ds) = some (.bl (ds.any fun z => eqvD z x)) := by unfold dIn inD; simp [h1, h2]
theorem dNi_lst (h1 : okN 64 x = true) (h2 : okNs 63 ds = true) : dNotIn x (.lst ds) = some (.bl (!ds.any fun z => eqvD z x)) := by unfold dNotIn inD; simp [h1, h2]
theorem eqvDs_nil : eqvDs ds [] = ds.isEmpty := by cases ds <;> simp
end
theorem okR_of {i : Int} (h0 : -1000000 ≤ i) (h1 : i ≤ 1000000) : okR i = true := by simp [okR]; omega
end
end EL

/-! loops and comprehensions that draw: a state that is not told -/
namespace EL
open PySem PySem.Spec PyProof.Rows
open L2 hiding XE
inductive All2 {α β : Type} (R : α → β → Prop) : List α → List β → Prop
  | nil : All2 R [] []
  | cons {a : α} {b : β} {as : List α} {bs : List β} (h : R a b) (t : All2 R as bs) : All2 R (a :: as) (b :: bs)
theorem All2.length {α β : Type} {R : α → β → Prop} {as : List α} {bs : List β} (h : All2 R as bs) : as.length = bs.length := by
  induction h with
  | nil => rfl
  | cons _ _ ih => simp [ih]
theorem All2.get {α β : Type} {R : α → β → Prop} {as : List α} {bs : List β} (h : All2 R as bs) : ∀ {i : Nat} {a : α} {b : β}, as[i]? = some a → bs[i]? = some b → R a b := by
  induction h with
  | nil => intro i a b h; simp at h
  | cons h _ ih =>
    intro i a b h1 h2
    cases i with
    | zero => simp at h1 h2; subst h1; subst h2; exact h
    | succ i => exact ih (by simpa using h1) (by simpa using h2)
theorem All2.right {α β : Type} {R : α → β → Prop} {P : β → Prop} {as : List α} {bs : List β} (h : All2 R as bs) (k : ∀ a b, a ∈ as → R a b → P b) : ∀ b ∈ bs, P b := by
  induction h with
  | nil => simp
  | cons h _ ih =>
    intro b hb
    rcases List.mem_cons.mp hb with rfl | hb
    · exact k _ _ (by simp) h
    · exact ih (fun a b ha => k a b (by simp [ha])) b hb
section
variable {α σ : Type} {bd : D → Env → Option Env} {body : Ms} {tt : M Bool} {ee : M D} {vs : List Nat} {ρ : Env}
theorem loop_ex (E : σ → Env) (I : Nat → σ → Prop) (s0 : σ) {f : α → D} {xs : List α} (e : ρ = E s0) (h0 : I 0 s0) (h : ∀ i s, I i s → ∀ x, xs[i]? = some x → ∃ s', (turnS bd body (f x) (E s) = .nx (E s') ∨ turnS bd body (f x) (E s) = .ct (E s')) ∧ I (i + 1) s') : ∃ s', loopS bd body (xs.map f) ρ = .nx (E s') ∧ I xs.length s' := by
  subst e
  suffices key : ∀ (ys : List α) (k : Nat) (s : σ), I k s → (∀ i x, ys[i]? = some x → xs[k + i]? = some x) → ∃ s', loopS bd body (ys.map f) (E s) = .nx (E s') ∧ I (k + ys.length) s' by
    have := key xs 0 s0 h0 (fun i x hx => by simpa using hx)
    simpa using this
  intro ys
  induction ys with
  | nil => exact fun k s hs _ => ⟨s, rfl, hs⟩
  | cons y ys ih =>
    intro k s hs hx
    obtain ⟨s1, h1, h2⟩ := h k s hs y (by simpa using hx 0 y rfl)
    obtain ⟨s2, h3, h4⟩ := ih (k + 1) s1 h2 fun i x hi => by
      have := hx (i + 1) x (by simpa using hi)
      rw [← this]; congr 1; omega
    refine ⟨s2, ?_, by rw [List.length_cons]; rw [show k + (ys.length + 1) = k + 1 + ys.length by omega]; exact h4⟩
    rw [List.map_cons, loopS_cons]
    rcases h1 with h1 | h1 <;> rw [h1] <;> exact h3
/-- .. of a loop that has a name: generalize hr : loopS _ _ _ _ = r -/
theorem loop_exR {r : So} {f : α → D} {xs : List α} (hr : loopS bd body (xs.map f) ρ = r) (E : σ → Env) (I : Nat → σ → Prop) (s0 : σ) (e : ρ = E s0) (h0 : I 0 s0) (h : ∀ i s, I i s → ∀ x, xs[i]? = some x → ∃ s', (turnS bd body (f x) (E s) = .nx (E s') ∨ turnS bd body (f x) (E s) = .ct (E s')) ∧ I (i + 1) s') : ∃ s', r = .nx (E s') ∧ I xs.length s' := by
  obtain ⟨s', h1, h2⟩ := loop_ex E I s0 e h0 h
  exact ⟨s', hr ▸ h1, h2⟩
theorem lcW_ok {r : Rs (Option D)} {o : Option D} {ρ' : Env} (h : lcW vs r = some (o, ρ')) : ∃ ρ1, r = .ok o ρ1 ∧ wipeE ρ1 vs = ρ' := by
  cases r with
  | st => cases h
  | er c fs r => cases h
  | ok o1 ρ1 =>
    simp only [z_lcW, Option.some.injEq, Prod.mk.injEq] at h
    exact ⟨ρ1, by rw [h.1], h.2⟩
theorem lc_ex (E : σ → Env) (I : σ → Prop) (R : α → Option D → Prop) (s0 : σ) {f : α → D} {xs : List α} (e : ρ = E s0) (h0 : I s0) (h : ∀ s, I s → ∀ x ∈ xs, ∃ s' o, lcW vs (itemS bd tt ee (f x) (E s)) = some (o, E s') ∧ R x o ∧ I s') : ∃ (os : List (Option D)) (s' : σ), lcLoop vs bd tt ee (xs.map f) ρ = .ok (os.filterMap id) (E s') ∧ All2 R xs os ∧ I s' := by
  subst e
  induction xs generalizing s0 with
  | nil => exact ⟨[], s0, rfl, .nil, h0⟩
  | cons x xs ih =>
    obtain ⟨s1, o, h1, h2, h3⟩ := h s0 h0 x (by simp)
    obtain ⟨os, s2, h4, h5, h6⟩ := ih s1 h3 fun s hs y hy => h s hs y (by simp [hy])
    obtain ⟨ρ1, h7, h8⟩ := lcW_ok h1
    refine ⟨o :: os, s2, ?_, .cons h2 h5, h6⟩
    rw [List.map_cons, z_lc_cons, h7]
    cases o with
    | none => simpa [h8] using h4
    | some y => simp [h8, h4]
/-- a choice of the items -/
theorem lc_sub (E : σ → Env) (I : σ → Prop) (s0 : σ) {f : α → D} {xs : List α} (e : ρ = E s0) (h0 : I s0) (h : ∀ s, I s → ∀ x ∈ xs, ∃ s' k, lcW vs (itemS bd tt ee (f x) (E s)) = some (if k = true then some (f x) else none, E s') ∧ I s') : ∃ (ys : List α) (s' : σ), lcLoop vs bd tt ee (xs.map f) ρ = .ok (ys.map f) (E s') ∧ ys.Sublist xs ∧ I s' := by
  subst e
  induction xs generalizing s0 with
  | nil => exact ⟨[], s0, rfl, .slnil, h0⟩
  | cons x xs ih =>
    obtain ⟨s1, k, h1, h3⟩ := h s0 h0 x (by simp)
    obtain ⟨ys, s2, h4, h5, h6⟩ := ih s1 h3 fun s hs y hy => h s hs y (by simp [hy])
    obtain ⟨ρ1, h7, h8⟩ := lcW_ok h1
    cases k with
    | false => exact ⟨ys, s2, by rw [List.map_cons, z_lc_cons, h7]; simpa [h8] using h4, .cons _ h5, h6⟩
    | true => exact ⟨x :: ys, s2, by rw [List.map_cons, z_lc_cons, h7]; simp [h8, h4], .cons_cons _ h5, h6⟩
/-- one value for each item -/
theorem lc_each (E : σ → Env) (I : σ → Prop) (R : α → D → Prop) (s0 : σ) {f : α → D} {xs : List α} (e : ρ = E s0) (h0 : I s0) (h : ∀ s, I s → ∀ x ∈ xs, ∃ s' y, lcW vs (itemS bd tt ee (f x) (E s)) = some (some y, E s') ∧ R x y ∧ I s') : ∃ (ys : List D) (s' : σ), lcLoop vs bd tt ee (xs.map f) ρ = .ok ys (E s') ∧ All2 R xs ys ∧ I s' := by
  subst e
  induction xs generalizing s0 with
  | nil => exact ⟨[], s0, rfl, .nil, h0⟩
  | cons x xs ih =>
    obtain ⟨s1, y, h1, h2, h3⟩ := h s0 h0 x (by simp)
    obtain ⟨ys, s2, h4, h5, h6⟩ := ih s1 h3 fun s hs y hy => h s hs y (by simp [hy])
    obtain ⟨ρ1, h7, h8⟩ := lcW_ok h1
    exact ⟨y :: ys, s2, by rw [List.map_cons, z_lc_cons, h7]; simp [h8, h4], .cons h2 h5, h6⟩
def iceK (d : D) (ρ : Env) : Rs D := match d with | .lst ds => if pureDs ds then .ok (.ice ds) ρ else .st | _ => .st
@[simp] theorem z_iceK {ds : List D} : iceK (.lst ds) ρ = if pureDs ds then .ok (.ice ds) ρ else .st := (rfl)
@[simp] theorem z_eIce {a : M D} : eIce a ρ = bindR (a ρ) iceK := (rfl)
end
end EL

/-! instances of own classes: a field read, a field stored in __init__, an instance made -/
namespace EL
open PySem PySem.Spec PyProof.Rows
open L2 hiding XE
/-- a class of the text: where it stands, which attributes no class of it has -/
structure ClG (mg : Str → Option Value) (C : Core) (c : String) (fs : List Str) : Prop where
  cls : Cls C.K (C.cm c)
  na : ∀ f ∈ fs, NoAttr C.K (C.cm c) f
  at_ : mg (Str.ofString c) = some (.ref (C.cm c))
theorem ClG.lk {mg : Str → Option Value} {S : Sig} {c : String} {fs : List Str} (h : ClG mg S.c c fs) (T : List Nat) : ClG mg (lockS S T).c c fs := by rw [lockS_c]; exact h
mutual
/-- no instance that may change -/
def nobD : D → Bool
  | .non => true | .bl _ => true | .int _ => true | .str _ => true
  | .tup ds => nobDs ds
  | .ice ds => nobDs ds
  | .lst ds => nobDs ds
  | .scr ds => nobDs ds
  | .dic kvs => nobKs kvs
  | .obj _ _ => false
  | .ins _ fs => nobFs fs
def nobDs : List D → Bool
  | [] => true
  | d :: ds => nobD d && nobDs ds
def nobFs : List (Str × D) → Bool
  | [] => true
  | (_, d) :: ds => nobD d && nobFs ds
def nobKs : List (Key × D) → Bool
  | [] => true
  | (_, d) :: ds => nobD d && nobKs ds
end
theorem nobFs_eq : ∀ fs : List (Str × D), nobFs fs = nobDs (fs.map (·.2))
  | [] => rfl
  | (_, d) :: fs => by simp [nobFs, nobDs, nobFs_eq fs]
theorem nobKs_eq : ∀ fs : List (Key × D), nobKs fs = nobDs (fs.map (·.2))
  | [] => rfl
  | (_, d) :: fs => by simp [nobKs, nobDs, nobKs_eq fs]
section
variable {S : Core} {R : Addr → Prop} {H : Hp} {x : Addr}
mutual
/-- one more instance may change: a new one -/
theorem Rep.up {d : D} {v : V} {F : List Addr} (hx : H x = none) : Rep S R H d v F → Rep S (fun a => R a ∨ a = x) H d v F
  | .non => .non
  | .bl b => .bl b
  | .int i => .int i
  | .str x => .str x
  | .tup h l r => .tup h l (Reps.up hx r)
  | .lst h l r => .lst h l (Reps.up hx r)
  | .scr h l r => .scr h l (Reps.up hx r)
  | .ice h l r => .ice h l (Reps.up hx r)
  | .dic h l e r => .dic h l e (Reps.up hx r)
  | .ins h z n e r => .ins h z (fun q => q.elim n fun q => by subst q; rw [hx] at h; cases h) e (Reps.up hx r)
  | .obj h n e r => .obj h (n.imp id .inl) e (Reps.up hx r)
theorem Reps.up {ds : List D} {vs : List V} {F : List Addr} (hx : H x = none) : Reps S R H ds vs F → Reps S (fun a => R a ∨ a = x) H ds vs F
  | .nil => .nil
  | .cons r t => .cons (Rep.up hx r) (Reps.up hx t)
end
mutual
theorem Rep.down {d : D} {v : V} {F : List Addr} : Rep S (fun a => R a ∨ a = x) H d v F → nobD d = true → Rep S R H d v F
  | .non, _ => .non
  | .bl b, _ => .bl b
  | .int i, _ => .int i
  | .str x, _ => .str x
  | .tup h l r, p => .tup h l (Reps.down r (by simpa [nobD] using p))
  | .lst h l r, p => .lst h l (Reps.down r (by simpa [nobD] using p))
  | .scr h l r, p => .scr h l (Reps.down r (by simpa [nobD] using p))
  | .ice h l r, p => .ice h l (Reps.down r (by simpa [nobD] using p))
  | .dic h l e r, p => .dic h l e (Reps.down r (by rw [← nobKs_eq]; simpa [nobD] using p))
  | .ins h z n e r, p => .ins h z (fun q => n (.inl q)) e (Reps.down r (by rw [← nobFs_eq]; simpa [nobD] using p))
  | .obj h n e r, p => by simp [nobD] at p
theorem Reps.down {ds : List D} {vs : List V} {F : List Addr} : Reps S (fun a => R a ∨ a = x) H ds vs F → nobDs ds = true → Reps S R H ds vs F
  | .nil, _ => .nil
  | .cons r t, p => by
    simp only [nobDs, Bool.and_eq_true] at p
    exact .cons (Rep.down r p.1) (Reps.down t p.2)
end
end
mutual
theorem nob_of_pure : ∀ d : D, pureD d = true → nobD d = true
  | .non, _ => rfl
  | .bl b, _ => rfl
  | .int i, _ => rfl
  | .str x, _ => rfl
  | .tup ds, p => by simp only [nobD]; exact nobs_of_pure ds (by simpa [pureD] using p)
  | .ice ds, p => by simp only [nobD]; exact nobs_of_pure ds (by simpa [pureD] using p)
  | .lst ds, p => by simp [pureD] at p
  | .scr ds, p => by simp [pureD] at p
  | .dic kvs, p => by simp [pureD] at p
  | .obj c fs, p => by simp [pureD] at p
  | .ins c fs, p => by simp only [nobD]; exact nobf_of_pure fs (by simpa [pureD] using p)
theorem nobs_of_pure : ∀ ds : List D, pureDs ds = true → nobDs ds = true
  | [], _ => rfl
  | d :: ds, p => by
    simp only [pureDs, Bool.and_eq_true] at p
    simp only [nobDs, Bool.and_eq_true]
    exact ⟨nob_of_pure d p.1, nobs_of_pure ds p.2⟩
theorem nobf_of_pure : ∀ fs : List (Str × D), pureFs fs = true → nobFs fs = true
  | [], _ => rfl
  | (_, d) :: ds, p => by
    simp only [pureFs, Bool.and_eq_true] at p
    simp only [nobFs, Bool.and_eq_true]
    exact ⟨nob_of_pure d p.1, nobf_of_pure ds p.2⟩
end
/-! ### a field read -/
def rFld (K : PySem.W.Frag) (f : Str) : V → Hp → VK → Prop := fun x H Q => ∃ a C dx fs v, x = .ref a ∧ H a = some (.ins C dx fs) ∧ Cls K C ∧ NoAttr K C f ∧ fs.lookup f = some v ∧ Q v H
def fldD (f : Str) (fs : List (Str × D)) : Option D := (fs.lookup f).bind fun d => if pureD d then some d else none
def dFld (c : String) (f : Str) : D → Option D
  | .ins c' fs => if c' = c then fldD f fs else none
  | .obj c' fs => if c' = c then fldD f fs else none
  | _ => none
section
variable {C : Core} {R : Addr → Prop} {H : Hp}
theorem look_rep {f : Str} {d : D} : ∀ {fs : List (Str × D)} {ws : List (Str × V)} {F : List Addr}, ws.map (·.1) = fs.map (·.1) → Reps C R H (fs.map (·.2)) (ws.map (·.2)) F → fs.lookup f = some d → ∃ v G, ws.lookup f = some v ∧ Rep C R H d v G ∧ G.Sublist F
  | [], _, F, _, _, h => by cases h
  | (k, d1) :: fs, [], F, e, _, _ => by simp at e
  | (k, d1) :: fs, (k2, v2) :: ws, F, e, r, h => by
    simp only [List.map_cons, List.cons.injEq] at e r
    obtain ⟨rfl, e⟩ := e
    obtain ⟨v', ys, F1, F2, e3, r1, r2, rfl⟩ := r.cons_inv
    simp only [List.cons.injEq] at e3
    obtain ⟨rfl, rfl⟩ := e3
    rw [List.lookup_cons] at h ⊢
    cases hk : f == k2 with
    | true => rw [hk] at h; simp only at h ⊢; cases h; exact ⟨_, F1, rfl, r1, List.sublist_append_left _ _⟩
    | false =>
      rw [hk] at h
      obtain ⟨v, G, h1, h2, h3⟩ := look_rep e r2 h
      exact ⟨v, G, h1, h2, h3.trans (List.sublist_append_right _ _)⟩
theorem op_fld {mg : Str → Option Value} {c : String} {f : Str} {fl : List Str} (g : ClG mg C c fl) (hf : f ∈ fl) : Op1 C (rFld C.K f) (dFld c f) .pu := by
  intro R H d1 d x F1 Q r h k
  have fin : ∀ {a : Addr} {dx : Addr} {fs : List (Str × D)} {ws : List (Str × V)} {F : List Addr}, H a = some (.ins (C.cm c) dx ws) → ws.map (·.1) = fs.map (·.1) → Reps C R H (fs.map (·.2)) (ws.map (·.2)) F → fldD f fs = some d → rFld C.K f (.ref a) H Q := fun {a dx fs ws F} hs e r h => by
    unfold fldD at h
    cases hl : fs.lookup f with
    | none => rw [hl] at h; cases h
    | some d2 =>
      rw [hl] at h
      simp only [Option.bind_some] at h
      split at h <;> cases h
      rename_i hp
      obtain ⟨v, G, h1, h2, h3⟩ := look_rep e r hl
      have := h2.pure hp
      subst this
      exact ⟨a, _, dx, ws, v, rfl, hs, g.cls, g.na f hf, h1, k v H [] ⟨Same.refl _, h2, rfl⟩⟩
  cases r <;> simp only [dFld] at h <;> try (cases h; done)
  · split at h
    case isFalse => cases h
    rename_i hs z n e r hc
    subst hc
    exact fin hs e r h
  · split at h
    case isFalse => cases h
    rename_i hs n e r hc
    subst hc
    exact fin hs e r h
end
section
variable {X : Cx} {S : Sig} {W : WX} {m m1 m2 : Md} {e1 e2 : Bool} {pos : Pos} {e : Expr} {ea : M D}
theorem x_fld (q : Cq X S) {c : String} {f : Str} {fl : List Str} (g : ClG X.mg S.c c fl) (ha : XE X S W e m1 e1 ea) (hf : f ∈ fl := by decide) (hb : attributeBase e f X.env (eval e X.env) = eval e X.env := by rfl) : XE X S W (.Attribute e f pos) .pu e1 (eUn (dFld c f) ea) := by
  obtain ⟨ta, pa, ra⟩ := ha.ex
  have h := re_un (op_fld g hf) ra
  rw [← q.K] at h
  exact ⟨_, pe_fld pa hb, h⟩
end
/-! ### a field stored -/
def putFD (f : Str) (v : D) : List (Str × D) → List (Str × D)
  | [] => [(f, v)]
  | (g, x) :: r => if g = f then (g, v) :: r else (g, x) :: putFD f v r
def dSto (c : String) (f : Str) : D → D → Option D
  | .obj c' fs, y => if c' = c ∧ fs.length < 1000 then some (.obj c (putFD f y fs)) else none
  | _, _ => none
section
variable {C : Core} {R : Addr → Prop} {H : Hp}
theorem putF_rep {f : Str} {y : D} {x : V} (ry : Rep C R H y x []) : ∀ {fs : List (Str × D)} {ws : List (Str × V)} {F : List Addr}, ws.map (·.1) = fs.map (·.1) → Reps C R H (fs.map (·.2)) (ws.map (·.2)) F →
    (putF f x ws).map (·.1) = (putFD f y fs).map (·.1) ∧ ∃ G, Reps C R H ((putFD f y fs).map (·.2)) ((putF f x ws).map (·.2)) G ∧ G.Sublist F
  | [], [], F, _, r => ⟨rfl, F, by cases r; exact .cons (F := []) (G := []) ry .nil, List.Sublist.refl _⟩
  | [], _ :: _, F, e, r => by simp at e
  | _ :: _, [], F, e, r => by simp at e
  | (k, d1) :: fs, (k2, v2) :: ws, F, e, r => by
    simp only [List.map_cons, List.cons.injEq] at e r
    obtain ⟨rfl, e⟩ := e
    obtain ⟨v', ys, F1, F2, e3, r1, r2, rfl⟩ := r.cons_inv
    simp only [List.cons.injEq] at e3
    obtain ⟨rfl, rfl⟩ := e3
    simp only [putF, putFD]
    by_cases hk : k2 = f
    · rw [if_pos hk, if_pos hk]
      simp only [List.map_cons, e]
      exact ⟨trivial, [] ++ F2, .cons ry r2, List.sublist_append_right _ _⟩
    · obtain ⟨ih1, G, ih2, ih3⟩ := putF_rep ry e r2
      rw [if_neg hk, if_neg hk]
      simp only [List.map_cons]
      exact ⟨congrArg _ ih1, F1 ++ G, .cons r1 ih2, (List.Sublist.refl _).append ih3⟩
end
section
variable {X : Cx} {S : Sig} {B : Base} {W : WX} {m m1 m2 rm : Md} {e1 e2 : Bool} {pos pos' p : Pos} {e : Expr} {ea : M D}
def sSto (s : Nat) (c : String) (f : Str) (a : M D) : Ms := fun ρ => bindS (a ρ) fun y ρ => match ρ[s]? with
  | some (some d0) => liftS (dSto c f d0 y) fun o => .nx (ρ.set s (some o))
  | _ => .st
theorem s_sto (q : Cq X S) (s : Nat) {c : String} {x f : Str} {fl : List Str} (g : ClG X.mg S.c c fl) (ha : XE X S W e .pu e1 ea) (hf : f ∈ fl := by decide) (hs : hasS S s = true := by rfl) (hN : X.N[s]? = some x := by rfl) (hv : Vis X.env.scope x := by first | exact Or.inl rfl | exact Or.inr (Or.inl rfl) | exact Or.inr (Or.inr rfl))
    (hd : (x == ("__debug__" : Str)) = false := by decide) (hcd : (x == ("__classdict__" : Str)) = false := by decide) (h1 : swapsWith e (some (.Attribute (.Name x p) f pos')) pos.line X.env = Pure.pure false := by rfl) :
    XS X S W rm (.Assign [.Attribute (.Name x p) f pos'] e pos) (sSto s c f ea) := by
  obtain ⟨ta, pa, ra⟩ := ha.ex
  refine ⟨_, ps_fld (pe_var hN hv hd hcd) pa h1, fun B ρ σ Fs H E I h => ra B ρ σ Fs H _ I (h.bind.imp fun y ρ1 _ g1 v H1 Fs1 F q1 => ?_)⟩
  split at g1
  · rename_i d0 e0
    obtain ⟨w, hw, r0⟩ := q1.env.slot s d0 e0
    have ow : Own S ρ1 s := ⟨hasS_own hs, d0, e0⟩
    have own := q1.env.own s ow
    have f0 : F = [] := q1.md
    subst f0
    cases ho : dSto c f d0 y with
    | none => rw [ho] at g1; exact g1.elim
    | some o =>
      rw [ho] at g1
      generalize hFs : Fs1 s = Fa at r0 own
      cases r0 <;> simp only [dSto] at ho <;> try (cases ho; done)
      rename_i c' fs a dx ws F1 hs' n er r
      split at ho <;> cases ho
      rename_i hc
      obtain ⟨rfl, hl⟩ := hc
      obtain ⟨k1, G, k2, k3⟩ := putF_rep (f := f) q1.rep er r
      have hlen : ws.length = fs.length := by simpa using congrArg List.length er
      have na : a ∉ G := fun z => (List.nodup_cons.mp own.1).1 (k3.subset z)
      have mu : Mu S.c B.R (.ins (S.c.cm c') dx ws) a := n
      have kp : ∀ b u, H1 b = some u → (¬ Mu S.c B.R u b ∨ b ∈ G) → upd H1 a (.ins (S.c.cm c') dx (putF f v ws)) b = some u := fun b u hb z => by
        have e : b ≠ a := fun e => by
          subst e
          rw [hs'] at hb; cases hb
          exact z.elim (fun z => z mu) na
        rw [upd_ne e]; exact hb
      refine ⟨.ref a, hw, a, _, dx, ws, rfl, hs', by rw [q.K]; exact g.cls, by rw [q.K]; exact g.na f hf, by omega, ?_⟩
      refine g1 σ (fun j => if j = s then a :: G else Fs1 j) _ (q1.env.mut ow hw (fun b u hb => ?_) (fun b hb => ?_) (.obj upd_same n k1 (k2.keep kp)) ((k3.cons₂ a).nodup own.1) (fun b hb => own.2 b ((k3.cons₂ a).subset hb)) fun b hb j oj hj z => q1.env.dis j s oj ow hj b z (by rw [hFs]; exact (k3.cons₂ a).subset hb))
      · by_cases e : b = a
        · exact .inr (by rw [hFs, e]; exact List.mem_cons_self)
        · exact .inl (by rw [upd_ne e]; exact hb)
      · by_cases e : b = a
        · subst e; rw [upd_same] at hb; cases hb
        · rw [upd_ne e] at hb; exact hb
  · exact g1.elim
end
/-! ### an instance made -/
section
variable {X : Cx} {CX : CXT} {k : Nat} {f C : Addr} {fd : FuncData} {ps : List Str} {sp : Sp} {E : L2.St → XK} {x : Str} {p pos : Pos} {e : Expr} {es : List Expr} {t : TA}
def tMakeS (C : Addr) (sp : Sp) (E : L2.St → XK) (t : TA) : TE := fun σ H Q => t σ H fun vs H1 => ∀ x dx, H1 x = none → H1 dx = none → dx ≠ x →
  sp (.ref x :: vs) (upd (upd H1 dx (.own x)) x (.ins C dx [])) (fun v H2 => v = .non ∧ Q (.ref x) H2) (E σ)
theorem run_makeS {pins : List (Addr × Obj)} {σ : L2.St} {H : Hp} {s : Shared} {Q : VK} {us : List Value} {vs : List V} (M : Mk X.K C f) (F : FnOk X.prog X.w X.K X.mg X.base CX k f fd ps sp) (hr : Room (k + 1) X.A) (hb : Binds X.K fd ps [])
    (hx : PassesAt CX X σ (E σ)) (I : Inv X pins σ H s) (r : Vals vs us)
    (h : ∀ x dx, H x = none → H dx = none → dx ≠ x → sp (.ref x :: vs) (upd (upd H dx (.own x)) x (.ins C dx [])) (fun v H2 => v = .non ∧ Q (.ref x) H2) (E σ)) :
    wpAny (model X.prog X.w) X.A (call (.ref C) us) (EP X pins σ Q) X.xe s := by
  have hq := h (s.heap.objs.size + 1) s.heap.objs.size (I.hok.fresh (Nat.le_succ _)) (I.hok.fresh (Nat.le_refl _)) (Nat.ne_of_lt (Nat.lt_succ_self _))
  have I2 := Inv.made (C := C) I
  have r2 : Vals (V.ref (s.heap.objs.size + 1) :: vs) (Value.ref (s.heap.objs.size + 1) :: us) := .cons rfl r
  have hl : (Value.ref (s.heap.objs.size + 1) :: us ++ []).length = ps.length := by
    have e := r2.length
    rw [F.len _ _ _ _ hq] at e
    rw [List.append_nil]
    exact e.symm
  have hbb := hb _ (Value.ref (s.heap.objs.size + 1) :: us) I2.kIn hl
  rw [List.append_nil] at hbb
  refine wpAny_call (make_map (f := f) I.kIn M.makes M.init (beq_iff_eq.mp M.fn) (codeAny_mono (F.run _ X.stack _ _ ⟨Value.ref (s.heap.objs.size + 1) :: us, []⟩ (Value.ref (s.heap.objs.size + 1) :: us) _ _ (E σ) (hr.make C us [])
    (I2.env0.make C us []) hbb r2 hq) fun r s' hq' => ?_))
  cases r with
  | error e => exact hx pins _ _ e s' I2 hq'
  | ok fl =>
    cases fl with
    | ret u =>
      obtain ⟨v, H', I3, rv, ev, q3⟩ := I2.after hq'
      subst ev
      exact ⟨rv, ⟨V.ref (s.heap.objs.size + 1), H', I3, rfl, q3⟩⟩
    | next => exact False.elim hq'
    | brk => exact False.elim hq'
    | cont => exact False.elim hq'
theorem pe_makeS (M : Mk X.K C f) (F : FnOk X.prog X.w X.K X.mg X.base CX k f fd ps sp) (hr : Room (k + 1) X.A) (hg : Gl X x) (hm : X.mg x = some (.ref C)) (hb : Binds X.K fd ps []) (hx : ∀ σ, PassesAt CX X σ (E σ))
    (ha : PA X (e :: es) t) (hdb : (x == ("__debug__" : Str)) = false := by decide) (he : starEach (e :: es) X.env = (false, eval e X.env) :: starEach es X.env := by rfl) (hpl : (backTo pos (starEach es X.env)).any (·.1) = false := by rfl) :
    PE X (.Call (.Name x p) (e :: es) [] pos) (tMakeS C sp E t) := by
  refine ⟨fun pins s σ H Q I h => ?_⟩
  refine wpAny_Call_Name_kw (ld_glob I hg hm ?_ hdb)
  refine PySem.W.callWith_K (h₀ := X.base) I.ok.mod.kin M.kp (thn (ha.run pos pins s σ H _ I h) fun us s1 ⟨vs, H1, I1, r, q⟩ => ⟨I1.kIn, ?_⟩) he hpl
  exact run_makeS M F hr hb (hx σ) I1 r q
end
/-- a class of the text that is made by an __init__ which keeps F (the instance ahead of the arguments) -/
structure MkG (P : Program) (w : World) (K : PySem.W.Frag) (mg : Str → Option Value) (base : Heap) (C : Core) (k : Nat) (c : String) (n : Nat) (F : List D → Fr) : Prop where
  ex : ∃ f fd ps, Mk K (C.cm c) f ∧ (∃ j, j + 1 ≤ k ∧ FnOk P w K mg base (L2.CX P w) j f fd ps (spD C (n + 1) (some 0) .pu F)) ∧ Binds K fd ps [] ∧ ps.length = n + 1
  at_ : mg (Str.ofString c) = some (.ref (C.cm c))
  fz : C.fz (C.cm c)
theorem MkG.mono {P : Program} {w : World} {K : PySem.W.Frag} {mg : Str → Option Value} {base : Heap} {C : Core} {k j n : Nat} {c : String} {F : List D → Fr} (g : MkG P w K mg base C k c n F) (h : k ≤ j) : MkG P w K mg base C j c n F := by
  obtain ⟨⟨f, fd, ps, m, ⟨i, hi, g1⟩, g2⟩, a, z⟩ := g
  exact ⟨⟨f, fd, ps, m, ⟨i, by omega, g1⟩, g2⟩, a, z⟩
def madeR (c : String) (r : Fr) (ρ : Env) : Rs D := match r with
  | .ok .non (.obj c' fs) => if c' = c ∧ pureFs fs = true then .ok (.ins c fs) ρ else .st
  | .er e fs _ => if nobFs fs = true then .er e fs ρ else .st
  | _ => .st
def eMake (c : String) (F : List D → Fr) (a : M (List D)) : M D := fun ρ => bindR (a ρ) fun ds ρ => madeR c (F (.obj c [] :: ds)) ρ
section
variable {X : Cx} {S : Sig} {B : Base} {W : WX} {m m1 m2 rm : Md} {e1 e2 : Bool} {pos pos' p : Pos} {e : Expr} {es : List Expr} {eas : M (List D)}
theorem x_make {c : String} {n k : Nat} {F : List D → Fr} (tk : Takes X W) (G : MkG X.prog X.w X.K X.mg X.base S.c k c n F) (hr : Room k X.A) (ha : XA X S W (e :: es) m1 e1 eas) (hg : Gl X (Str.ofString c) := by rfl) (hne : (e :: es).length = n := by rfl) (hdb : (Str.ofString c == ("__debug__" : Str)) = false := by decide) (he : starEach (e :: es) X.env = (false, eval e X.env) :: starEach es X.env := by rfl)
    (hpl : (backTo pos (starEach es X.env)).any (·.1) = false := by rfl) : XE X S W (.Call (.Name (Str.ofString c) p) (e :: es) [] pos) .pu e1 (eMake c F eas) := by
  obtain ⟨f, fd, ps, M, ⟨j, hj, g1⟩, g2, g3⟩ := G.ex
  obtain ⟨ta, pa, ra⟩ := ha.ex
  refine ⟨_, pe_makeS M g1 (hr.mono hj) hg G.at_ g2 (fun σ => passAt tk σ) pa hdb he hpl, fun B ρ σ Fs H Q I h => ra B ρ σ Fs H _ I (h.bind.imp fun ds ρ1 hds h1 vs H1 Fs1 F1 q => ?_)⟩
  intro x dx hx hdx ne
  obtain ⟨Gs, g4, g5⟩ := q.rep.split
  have sm1 : Same H1 (upd H1 dx (.own x)) := same_upd hdx
  have hx' : upd H1 dx (.own x) x = none := by rw [upd_ne (Ne.symm ne)]; exact hx
  have sm2 : Same (upd H1 dx (.own x)) (upd (upd H1 dx (.own x)) x (.ins (S.c.cm c) dx [])) := same_upd hx'
  have sm : Same H1 (upd (upd H1 dx (.own x)) x (.ins (S.c.cm c) dx [])) := sm1.trans sm2
  have nR : ¬ B.R x := fun z => by
    obtain ⟨o, ho⟩ := q.env.rdH z
    rw [hx] at ho; cases ho
  generalize hHm : upd (upd H1 dx (.own x)) x (.ins (S.c.cm c) dx []) = Hm at sm
  have hxm : Hm x = some (.ins (S.c.cm c) dx []) := by rw [← hHm]; exact upd_same
  have nx : ∀ i, i < ds.length → x ∉ Gs i := fun i hi z => by
    obtain ⟨v, _, r⟩ := g4.get i ds[i] (List.getElem?_eq_getElem hi)
    obtain ⟨o, ho, _⟩ := r.mem x z
    rw [hx] at ho; cases ho
  refine ⟨fun a => B.R a ∨ a = x, .obj c [] :: ds, fun i => match i with | 0 => [x] | i + 1 => Gs i, by simp [ha.len _ _ _ hds, hne], ⟨⟨by simp [g4.len], fun i d e => ?_⟩, fun i hi => ?_, fun a ha' => ?_⟩, ?_⟩
  · cases i with
    | zero =>
      simp only [List.getElem?_cons_zero, Option.some.injEq] at e
      subst e
      exact ⟨_, rfl, .obj (ws := []) hxm (.inr (.inr rfl)) rfl .nil⟩
    | succ i =>
      obtain ⟨v, h1, h2⟩ := g4.get i d (by simpa using e)
      exact ⟨v, by simpa using h1, (h2.up hx).same sm⟩
  · cases hi
    refine ⟨by simp, by simp, fun j hj hn a ha' => ?_⟩
    cases j with
    | zero => exact absurd rfl hn
    | succ j =>
      have : a = x := by simpa using ha'
      subst this
      exact nx j (by simpa using hj)
  · rcases ha' with z | z
    · obtain ⟨o, ho⟩ := q.env.rdH z
      exact ⟨o, sm _ _ ho⟩
    · subst z; exact ⟨_, hxm⟩
  · have sm3 : ∀ {o H2 Fo}, FEnd S.c (fun a => B.R a ∨ a = x) (some 0) Hm (.ref x :: vs) (fun i => match i with | 0 => [x] | i + 1 => Gs i) o H2 Fo → Same H1 H2 := fun {o H2 Fo} fe a u hu => by
      rcases fe.chg a u (sm _ _ hu) with z | ⟨i, hi, z⟩
      · exact z
      · cases hi
        have : a = x := by simpa using z
        subst this
        rw [hx] at hu; cases hu
    unfold madeR at h1
    cases hf : F (.obj c [] :: ds) with
    | st => rw [hf] at h1; exact h1.elim
    | er cc fs o =>
      rw [hf] at h1
      simp only at h1
      split at h1
      case isFalse => exact h1.elim
      rename_i hnb
      intro dd H2 Fo fe xd
      refine h1 σ Fs1 H2 dd (q.env.same (sm3 fe)) ?_
      rcases xd with z | ⟨a, ws, F2, h3, h4, h5, h6⟩
      · exact .inl z
      · exact .inr ⟨a, ws, F2, h3, h4, h5, h6.down (by rw [← nobFs_eq]; exact hnb)⟩
    | ok d o =>
      rw [hf] at h1
      split at h1
      case h_2 he => cases he
      case h_3 => exact h1.elim
      rename_i c' fs he
      cases he
      split at h1
      case isFalse => exact h1.elim
      rename_i hc
      obtain ⟨rfl, hp⟩ := hc
      intro v H2 Fo Gr fe rv md
      obtain ⟨w, hw, ro, nd, fo⟩ := fe.out 0 rfl
      simp only [List.getElem?_cons_zero, Option.some.injEq] at hw
      subst hw
      cases rv
      refine ⟨rfl, ?_⟩
      cases ro with
      | obj hs n er r =>
        have hd := r.pure (by rw [← pureFs_eq]; exact hp)
        subst hd
        refine h1 (.ref x) H2 Fs1 [] (VP.post q ⟨sm3 fe, .ins hs G.fz nR er (r.down (nobs_of_pure _ (by rw [← pureFs_eq]; exact hp))), rfl⟩)
end
end EL

/-! places within what stands in a slot: x[k].append(e), self.xs.append(e) -/
namespace EL
open PySem PySem.Spec PyProof.Rows
open L2 hiding XE
inductive PK where | key (k : D) | fld (c : String) (f : Str)
def repK (q : Key) (y : D) : List (Key × D) → List (Key × D)
  | [] => []
  | (k, d) :: r => if k = q then (k, y) :: r else (k, d) :: repK q y r
def repF (f : Str) (y : D) : List (Str × D) → List (Str × D)
  | [] => []
  | (k, d) :: r => if f == k then (k, y) :: r else (k, d) :: repF f y r
/-- one step into a place -/
def inP : PK → D → Option D
  | .key (.int i), .lst ds => atI ds i
  | .key k, .dic kvs => (keyD k).bind (valD kvs)
  | .fld c f, .obj c' fs => if c' = c then fs.lookup f else none
  | _, _ => none
/-- the same with another value there -/
def outP : PK → D → D → Option D
  | .key (.int i), .lst ds, y => (ixN ds.length i).map fun j => .lst (ds.set j y)
  | .key k, .dic kvs, y => (keyD k).map fun q => .dic (repK q y kvs)
  | .fld c f, .obj c' fs, y => some (.obj c' (repF f y fs))
  | _, _, _ => none
/-- an operation at a place -/
def upP (g : D → Option (D × D)) : List PK → D → Option (D × D)
  | [], d => g d
  | k :: p, d => (inP k d).bind fun d1 => (upP g p d1).bind fun r => (outP k d r.2).map fun o => (r.1, o)
section
variable {C : Core} {R : Addr → Prop} {H : Hp} {F : List Addr}
def KeepO (C : Core) (R : Addr → Prop) (H H' : Hp) (A : List Addr) : Prop := ∀ a o, H a = some o → (¬ Mu C R o a ∨ a ∈ A) → H' a = some o
theorem KeepO.sub {H' : Hp} {A A' : List Addr} (k : KeepO C R H H' A) (h : ∀ a ∈ A', a ∈ A) : KeepO C R H H' A' := fun a o e z => k a o e (z.imp id (h a))
theorem reps_foc : ∀ {ds : List D} {vs : List V} {F : List Addr} {j : Nat} {d : D}, Reps C R H ds vs F → ds[j]? = some d → ∃ v G A Bb, vs[j]? = some v ∧ Rep C R H d v G ∧ F = A ++ G ++ Bb ∧ ∀ H' d' G', KeepO C R H H' (A ++ Bb) → Rep C R H' d' v G' → Reps C R H' (ds.set j d') vs (A ++ G' ++ Bb)
  | [], _, _, _, _, _, e => by simp at e
  | d1 :: ds, _, _, j, d, r, e => by
    obtain ⟨x, ys, F1, F2, rfl, r1, r2, rfl⟩ := r.cons_inv
    cases j with
    | zero =>
      simp only [List.getElem?_cons_zero, Option.some.injEq] at e
      subst e
      exact ⟨x, F1, [], F2, rfl, r1, rfl, fun H' d' G' k r' => by
        simp only [List.set_cons_zero, List.nil_append]
        exact .cons r' (r2.keep (k.sub fun a h => by simpa using h))⟩
    | succ j =>
      obtain ⟨v, G, A, Bb, h1, h2, rfl, h4⟩ := reps_foc (j := j) r2 (by simpa using e)
      refine ⟨v, G, F1 ++ A, Bb, by simpa using h1, h2, by simp, fun H' d' G' k r' => ?_⟩
      have := Reps.cons (r1.keep (k.sub fun a h => by simp [h])) (h4 H' d' G' (k.sub fun a h => by rcases List.mem_append.mp h with z | z <;> simp [z]) r')
      simpa using this
theorem foc_val {q : Key} : ∀ {kvs : List (Key × D)} {ws : List (Key × V)} {F : List Addr} {d : D}, ws.map (·.1) = kvs.map (·.1) → Reps C R H (kvs.map (·.2)) (ws.map (·.2)) F → valD kvs q = some d →
    ∃ v G A Bb, valV ws q = some v ∧ Rep C R H d v G ∧ F = A ++ G ++ Bb ∧ ∀ H' d' G', KeepO C R H H' (A ++ Bb) → Rep C R H' d' v G' → ws.map (·.1) = (repK q d' kvs).map (·.1) ∧ Reps C R H' ((repK q d' kvs).map (·.2)) (ws.map (·.2)) (A ++ G' ++ Bb)
  | [], _, F, d, e, r, h => by cases h
  | _ :: _, [], F, d, e, r, h => by simp at e
  | (k1, d1) :: kvs, (k2, v2) :: ws, F, d, e, r, h => by
    simp only [List.map_cons, List.cons.injEq] at e r
    obtain ⟨rfl, e⟩ := e
    obtain ⟨v', ys, F1, F2, e3, r1, r2, rfl⟩ := r.cons_inv
    simp only [List.cons.injEq] at e3
    obtain ⟨rfl, rfl⟩ := e3
    by_cases hk : k2 = q
    · subst hk
      simp [valD] at h
      subst h
      refine ⟨v2, F1, [], F2, by simp [valV], r1, rfl, fun H' d' G' k r' => ?_⟩
      simp only [repK, if_pos, List.map_cons, e, List.nil_append]
      exact ⟨trivial, .cons r' (r2.keep (k.sub fun a h => by simpa using h))⟩
    · have a1 : valD ((k2, d1) :: kvs) q = valD kvs q := by simp [valD, List.find?_cons, hk]
      have a2 : valV ((k2, v2) :: ws) q = valV ws q := by simp [valV, List.find?_cons, hk]
      rw [a1] at h
      obtain ⟨v, G, A, Bb, h1, h2, rfl, h4⟩ := foc_val e r2 h
      refine ⟨v, G, F1 ++ A, Bb, by rw [a2]; exact h1, h2, by simp, fun H' d' G' k r' => ?_⟩
      obtain ⟨h5, h6⟩ := h4 H' d' G' (k.sub fun a h => by rcases List.mem_append.mp h with z | z <;> simp [z]) r'
      simp only [repK, if_neg hk, List.map_cons]
      have := Reps.cons (r1.keep (k.sub fun a h => by simp [h])) h6
      exact ⟨congrArg _ h5, by simpa using this⟩
theorem foc_fld {f : Str} : ∀ {fs : List (Str × D)} {ws : List (Str × V)} {F : List Addr} {d : D}, ws.map (·.1) = fs.map (·.1) → Reps C R H (fs.map (·.2)) (ws.map (·.2)) F → fs.lookup f = some d →
    ∃ v G A Bb, ws.lookup f = some v ∧ Rep C R H d v G ∧ F = A ++ G ++ Bb ∧ ∀ H' d' G', KeepO C R H H' (A ++ Bb) → Rep C R H' d' v G' → ws.map (·.1) = (repF f d' fs).map (·.1) ∧ Reps C R H' ((repF f d' fs).map (·.2)) (ws.map (·.2)) (A ++ G' ++ Bb)
  | [], _, F, d, e, r, h => by cases h
  | _ :: _, [], F, d, e, r, h => by simp at e
  | (k1, d1) :: kvs, (k2, v2) :: ws, F, d, e, r, h => by
    simp only [List.map_cons, List.cons.injEq] at e r
    obtain ⟨rfl, e⟩ := e
    obtain ⟨v', ys, F1, F2, e3, r1, r2, rfl⟩ := r.cons_inv
    simp only [List.cons.injEq] at e3
    obtain ⟨rfl, rfl⟩ := e3
    rw [List.lookup_cons] at h
    cases hk : f == k2 with
    | true =>
      rw [hk] at h
      simp only at h
      cases h
      refine ⟨v2, F1, [], F2, by rw [List.lookup_cons, hk], r1, rfl, fun H' d' G' k r' => ?_⟩
      simp only [repF, hk, if_pos, List.map_cons, e, List.nil_append]
      exact ⟨trivial, .cons r' (r2.keep (k.sub fun a h => by simpa using h))⟩
    | false =>
      rw [hk] at h
      obtain ⟨v, G, A, Bb, h1, h2, rfl, h4⟩ := foc_fld e r2 h
      refine ⟨v, G, F1 ++ A, Bb, by rw [List.lookup_cons, hk]; exact h1, h2, by simp, fun H' d' G' k r' => ?_⟩
      obtain ⟨h5, h6⟩ := h4 H' d' G' (k.sub fun a h => by rcases List.mem_append.mp h with z | z <;> simp [z]) r'
      simp only [repF, hk, List.map_cons]
      have := Reps.cons (r1.keep (k.sub fun a h => by simp [h])) h6
      exact ⟨congrArg _ h5, by simpa using this⟩
/-- how a step reads, from the value of the container -/
def AccV (C : Core) (H : Hp) : PK → V → V → Prop
  | .key k, w, v => ∀ (R : Addr → Prop) (Fk : List Addr) (x : V) (Q : VK), Rep C R H k x Fk → Q v H → rIxA C.K w x H Q
  | .fld c f, w, v => ∃ a dx ws, w = .ref a ∧ H a = some (.ins (C.cm c) dx ws) ∧ ws.lookup f = some v
theorem foc_one {k : PK} {d d1 : D} {w : V} (r : Rep C R H d w F) (h : inP k d = some d1) :
    ∃ v G A Bb, F = A ++ G ++ Bb ∧ Rep C R H d1 v G ∧ AccV C H k w v ∧ ∀ H' d' G', KeepO C R H H' (A ++ Bb) → Rep C R H' d' v G' → ∃ o, outP k d d' = some o ∧ Rep C R H' o w (A ++ G' ++ Bb) := by
  unfold inP at h
  split at h
  · rename_i i ds
    obtain ⟨a, vs, G0, rfl, hs, hl, r0, rfl⟩ := rep_lst r
    unfold atI at h
    cases q : ixN ds.length i with
    | none => rw [q] at h; cases h
    | some j =>
      rw [q] at h
      simp only [Option.bind_some] at h
      obtain ⟨v, G, A, Bb, h1, h2, rfl, h4⟩ := reps_foc r0 h
      refine ⟨v, G, a :: A, Bb, by simp, h2, fun R' Fk x Q rk qv => .inl (.inl ⟨a, vs, i, v, rfl, rk.int_inv, SqL.of hs, by unfold atI; rw [← r0.length, q]; exact h1, qv⟩), fun H' d' G' kp r' => ⟨.lst (ds.set j d'), by simp [outP, q], ?_⟩⟩
      exact .lst (kp _ _ hs (.inr (by simp))) hl (h4 H' d' G' (kp.sub fun b hb => by rcases List.mem_append.mp hb with z | z <;> simp [z]) r')
  · rename_i k1 k kvs
    obtain ⟨a, ws, G0, rfl, hs, hl, e, r0, rfl⟩ := r.dic_inv
    cases hk : keyD k with
    | none => rw [hk] at h; cases h
    | some q =>
      rw [hk] at h
      simp only [Option.bind_some] at h
      obtain ⟨v, G, A, Bb, h1, h2, rfl, h4⟩ := foc_val e r0 h
      refine ⟨v, G, a :: A, Bb, by simp, h2, fun R' Fk x Q rk qv => .inr ⟨a, v, rfl, ?_, qv⟩, fun H' d' G' kp r' => ⟨.dic (repK q d' kvs), ?_, ?_⟩⟩
      · rw [key_v rk hk, ← h1]
        exact DGet.k hs
      · cases k <;> simp only [outP, hk, Option.map_some]
      · obtain ⟨h5, h6⟩ := h4 H' d' G' (kp.sub fun b hb => by rcases List.mem_append.mp hb with z | z <;> simp [z]) r'
        exact .dic (kp _ _ hs (.inr (by simp))) hl h5 h6
  · rename_i c f c' fs
    split at h
    case isFalse => cases h
    rename_i hc
    subst hc
    cases r with
    | obj hs n e r0 =>
      rename_i a dx ws F0
      obtain ⟨v, G, A, Bb, h1, h2, rfl, h4⟩ := foc_fld e r0 h
      refine ⟨v, G, a :: A, Bb, by simp, h2, ⟨a, dx, ws, rfl, hs, h1⟩, fun H' d' G' kp r' => ⟨.obj c' (repF f d' fs), rfl, ?_⟩⟩
      obtain ⟨h5, h6⟩ := h4 H' d' G' (kp.sub fun b hb => by rcases List.mem_append.mp hb with z | z <;> simp [z]) r'
      exact .obj (kp _ _ hs (.inr (by simp))) n h5 h6
  · cases h
/-- the place, looked at -/
def lookP : List PK → D → Option D
  | [], d => some d
  | k :: p, d => (inP k d).bind (lookP p)
def setP : List PK → D → D → Option D
  | [], _, y => some y
  | k :: p, d, y => (inP k d).bind fun d1 => (setP p d1 y).bind fun z => outP k d z
theorem lookP_snoc {k : PK} : ∀ {p : List PK} {d : D}, lookP (p ++ [k]) d = (lookP p d).bind (inP k)
  | [], d => by show (inP k d).bind (lookP []) = inP k d; cases inP k d <;> rfl
  | k1 :: p, d => by
    show (inP k1 d).bind (lookP (p ++ [k])) = ((inP k1 d).bind (lookP p)).bind (inP k)
    cases inP k1 d with
    | none => rfl
    | some d1 => exact lookP_snoc (p := p)
theorem setP_snoc {k : PK} {y z o d d1 : D} (h1 : inP k d = some d1) (h2 : outP k d y = some z) : ∀ {p : List PK} {d0 : D}, lookP p d0 = some d → setP p d0 z = some o → setP (p ++ [k]) d0 y = some o
  | [], d0, h3, h4 => by
    cases h3; cases h4
    show (inP k d).bind (fun d1 => (some y).bind fun z => outP k d z) = some z
    rw [h1]; exact h2
  | k1 :: p, d0, h3, h4 => by
    have h3' : (inP k1 d0).bind (lookP p) = some d := h3
    have h4' : (inP k1 d0).bind (fun d1 => (setP p d1 z).bind fun z => outP k1 d0 z) = some o := h4
    show (inP k1 d0).bind (fun d1 => (setP (p ++ [k]) d1 y).bind fun z => outP k1 d0 z) = some o
    cases q : inP k1 d0 with
    | none => rw [q] at h3'; cases h3'
    | some d2 =>
      rw [q] at h3' h4'
      simp only [Option.bind_some] at h3' h4' ⊢
      cases q2 : setP p d2 z with
      | none => rw [q2] at h4'; cases h4'
      | some o2 =>
        rw [q2] at h4'
        rw [setP_snoc h1 h2 h3' q2]
        exact h4'
end
section
variable {X : Cx} {S : Sig} {B : Base} {W : WX} {m m1 m2 rm : Md} {e1 e2 : Bool} {σ : L2.St} {ρ ρ1 ρ' : Env} {Fs Fs1 Fs' : Nat → List Addr} {H H1 H2 H' : Hp} {d : D} {v : V} {F : List Addr} {pos : Pos}
/-- the value at the place p of the slot s: v, its parts G; what stands when it is changed -/
structure Foc (C : Core) (R : Addr → Prop) (Fs : List Addr) (d0 : D) (w : V) (p : List PK) (d : D) (v : V) (H' : Hp) (G A Bb : List Addr) : Prop where
  spl : Fs = A ++ G ++ Bb
  rep : Rep C R H' d v G
  back : ∀ H2 d' G', KeepO C R H' H2 (A ++ Bb) → Rep C R H2 d' v G' → ∃ o, setP p d0 d' = some o ∧ Rep C R H2 o w (A ++ G' ++ Bb)
structure XPl (X : Cx) (S : Sig) (W : WX) (e : Expr) (s : Nat) (pe : M (List PK)) : Prop where
  ex : ∃ t, PE X e t ∧ ∀ (B : Base) (ρ : Env) (σ : L2.St) (Fs : Nat → List Addr) (H : Hp) (Q : VK), EnvR S B ρ σ Fs H →
    Wn (ErW S B W) (fun p _ => ∃ d0 d, ρ[s]? = some (some d0) ∧ lookP p d0 = some d ∧ ∀ w v H' G A Bb, EnvR S B ρ σ Fs H' → Same H H' → σ[s]? = some (some w) → Foc S.c B.R (Fs s) d0 w p d v H' G A Bb → Q v H') (pe ρ) → t σ H Q
  same : ∀ ρ p ρ', pe ρ = .ok p ρ' → ρ' = ρ
def plV : M (List PK) := fun ρ => .ok [] ρ
theorem xpl_v (s : Nat) {x : Str} (hN : X.N[s]? = some x := by rfl) (hv : Vis X.env.scope x := by first | exact Or.inl rfl | exact Or.inr (Or.inl rfl) | exact Or.inr (Or.inr rfl)) (hd : (x == ("__debug__" : Str)) = false := by decide) (hcd : (x == ("__classdict__" : Str)) = false := by decide) : XPl X S W (.Name x pos) s plV := by
  refine ⟨⟨_, pe_var hN hv hd hcd, fun B ρ σ Fs H Q I h => ?_⟩, fun ρ p ρ' h => by cases h; rfl⟩
  obtain ⟨d0, d, e0, e1, k⟩ := h
  cases e1
  obtain ⟨w, hw, r⟩ := I.slot s d0 e0
  exact ⟨w, hw, k w w H (Fs s) [] [] I (Same.refl _) hw ⟨by simp, r, fun H2 d' G' _ r' => ⟨d', rfl, by simpa using r'⟩⟩⟩
/-- what stands at the place -/
def atP (s : Nat) (p : List PK) (ρ : Env) : Option D := match ρ[s]? with | some (some d0) => lookP p d0 | _ => none
theorem atP_some {s : Nat} {p : List PK} (h : atP s p ρ = some d) : ∃ d0, ρ[s]? = some (some d0) ∧ lookP p d0 = some d := by
  unfold atP at h
  split at h
  · rename_i d0 e; exact ⟨d0, e, h⟩
  · cases h
def plIx (s : Nat) (pe : M (List PK)) (ek : M D) : M (List PK) := fun ρ => bindR (pe ρ) fun p _ => match atP s p ρ with
  | some d => bindR (ek ρ) fun k _ => (match inP (.key k) d with | some _ => .ok (p ++ [.key k]) ρ | none => .st)
  | none => .st
def plFld (s : Nat) (c : String) (f : Str) (pe : M (List PK)) : M (List PK) := fun ρ => bindR (pe ρ) fun p _ => match atP s p ρ with
  | some d => (match inP (.fld c f) d with | some _ => .ok (p ++ [.fld c f]) ρ | none => .st)
  | none => .st
theorem KeepO.same {C : Core} {R : Addr → Prop} {A : List Addr} (k : Same H H1) (k2 : KeepO C R H1 H2 A) : KeepO C R H H2 A := fun a o e z => k2 a o (k _ _ e) z
theorem Foc.in_ {C : Core} {R : Addr → Prop} {Fa : List Addr} {d0 d d1 : D} {w v : V} {p : List PK} {k : PK} {G A Bb : List Addr} (f : Foc C R Fa d0 w p d v H1 G A Bb) (sm : Same H1 H2) (hp : lookP p d0 = some d) (hi : inP k d = some d1) :
    ∃ v1 G1 A1 B1, AccV C H2 k v v1 ∧ Foc C R Fa d0 w (p ++ [k]) d1 v1 H2 G1 (A ++ A1) (B1 ++ Bb) := by
  obtain ⟨v1, G1, A1, B1, e, r1, acc, back⟩ := foc_one (f.rep.same sm) hi
  refine ⟨v1, G1, A1, B1, acc, ⟨by rw [f.spl, e]; simp, r1, fun H3 d' G' kp r' => ?_⟩⟩
  obtain ⟨z, hz, rz⟩ := back H3 d' G' (kp.sub fun a h => by rcases List.mem_append.mp h with q | q <;> simp [q]) r'
  obtain ⟨o, ho, ro⟩ := f.back H3 z (A1 ++ G' ++ B1) ((kp.sub fun a h => by rcases List.mem_append.mp h with q | q <;> simp [q]).same sm) rz
  exact ⟨o, setP_snoc hi hz hp ho, by simpa using ro⟩
theorem xpl_ix (q : Cq X S) {a b : Expr} {s : Nat} {pe : M (List PK)} {ek : M D} (ha : XPl X S W a s pe) (hb : XE X S W b .pu e2 ek) (h0 : e2 = false := by rfl) (hs : PlainIx b := by exact fun _ _ => rfl) : XPl X S W (.Subscript a b pos) s (plIx s pe ek) := by
  subst h0
  obtain ⟨ta, pa, ra⟩ := ha.ex
  obtain ⟨tb, pb, rb⟩ := hb.ex
  refine ⟨⟨_, pe_ix (ix_any q.u1) pa pb hs, fun B ρ σ Fs H Q I h => ra B ρ σ Fs H _ I (h.bind.imp fun p ρ1 hp h1 => ?_)⟩, fun ρ p ρ' h => ?_⟩
  · cases hd : atP s p ρ with
    | none => rw [hd] at h1; exact h1.elim
    | some d =>
      rw [hd] at h1
      simp only at h1
      obtain ⟨d0, e0, hl⟩ := atP_some hd
      refine ⟨d0, d, e0, hl, fun w v H1 G A Bb I1 sm hw f => rb B ρ σ Fs H1 _ I1 (h1.bind.imp fun k ρ2 hk h2 x H2 Fs2 Fk q2 => ?_)⟩
      obtain ⟨rfl, fe, sm2⟩ := q2.step.noeff rfl
      cases hi : inP (.key k) d with
      | none => rw [hi] at h2; exact h2.elim
      | some d1 =>
        rw [hi] at h2
        obtain ⟨d0', d1', e0', hl', fin⟩ := h2
        rw [e0] at e0'
        cases e0'
        obtain ⟨v1, G1, A1, B1, acc, f1⟩ := f.in_ sm2 hl hi
        rw [lookP_snoc, hl] at hl'
        have hl2 : inP (.key k) d = some d1' := hl'
        rw [hi] at hl2
        cases hl2
        rw [q.K]
        exact acc B.R Fk x _ q2.rep (fin w v1 H2 G1 (A ++ A1) (B1 ++ Bb) (I1.same sm2) (sm.trans sm2) hw f1)
  · obtain ⟨p1, ρ1, h1, h2⟩ := bindR_ok h
    split at h2
    · obtain ⟨k, ρ2, h3, h4⟩ := bindR_ok h2
      split at h4 <;> cases h4
      rfl
    · cases h2
theorem xpl_fld (q : Cq X S) {a : Expr} {c : String} {f : Str} {fl : List Str} {s : Nat} {pe : M (List PK)} (g : ClG X.mg S.c c fl) (ha : XPl X S W a s pe) (hf : f ∈ fl := by decide) (hb : attributeBase a f X.env (eval a X.env) = eval a X.env := by rfl) : XPl X S W (.Attribute a f pos) s (plFld s c f pe) := by
  obtain ⟨ta, pa, ra⟩ := ha.ex
  refine ⟨⟨_, pe_fld pa hb, fun B ρ σ Fs H Q I h => ra B ρ σ Fs H _ I (h.bind.imp fun p ρ1 hp h1 => ?_)⟩, fun ρ p ρ' h => ?_⟩
  · cases hd : atP s p ρ with
    | none => rw [hd] at h1; exact h1.elim
    | some d =>
      rw [hd] at h1
      simp only at h1
      obtain ⟨d0, e0, hl⟩ := atP_some hd
      refine ⟨d0, d, e0, hl, fun w v H1 G A Bb I1 sm hw fo => ?_⟩
      cases hi : inP (.fld c f) d with
      | none => rw [hi] at h1; exact h1.elim
      | some d1 =>
        rw [hi] at h1
        obtain ⟨d0', d1', e0', hl', fin⟩ := h1
        rw [e0] at e0'
        cases e0'
        obtain ⟨v1, G1, A1, B1, acc, f1⟩ := fo.in_ (Same.refl _) hl hi
        rw [lookP_snoc, hl] at hl'
        have hl2 : inP (.fld c f) d = some d1' := hl'
        rw [hi] at hl2
        cases hl2
        obtain ⟨a, dx, ws, rfl, hs, hlk⟩ := acc
        exact ⟨a, _, dx, ws, v1, rfl, hs, by rw [q.K]; exact g.cls, by rw [q.K]; exact g.na _ hf, hlk, fin w v1 H1 G1 (A ++ A1) (B1 ++ Bb) I1 sm hw f1⟩
  · obtain ⟨p1, ρ1, h1, h2⟩ := bindR_ok h
    split at h2
    · split at h2 <;> cases h2
      rfl
    · cases h2
/-- behind an operation on what stands in a slot -/
theorem mut_post {nd : Bool} {o res : D} {w v : V} {ds : List D} {vs : List V} {s : Nat} {F' G : List Addr} (q : PostA S B m1 e1 σ ρ Fs H ρ1 ds vs H1 Fs1 F) (I : EnvR S B ρ σ Fs H) (fr : nd = true → MdOk S B .fr ρ Fs H ρ1 Fs1 F) (ow : Own S ρ1 s) (hw : σ[s]? = some (some w))
    (ch : ∀ a u, H1 a = some u → H2 a = some u ∨ a ∈ Fs1 s) (dm : ∀ a, H2 a = none → H1 a = none) (r2 : Rep S.c B.R H2 o w F') (n2 : F'.Nodup) (f2 : ∀ a ∈ F', a ∈ Fs1 s ∨ (nd = true ∧ a ∈ F) ∨ H1 a = none) (r3 : Rep S.c B.R H2 res v G) (n3 : G.Nodup) (g3 : ∀ a ∈ G, (a ∈ Fs1 s ∨ H1 a = none) ∧ a ∉ F') :
    Post S B .fr true σ ρ Fs H (ρ1.set s (some o)) res v H2 (fun j => if j = s then F' else Fs1 j) G := by
  obtain ⟨d1, e1'⟩ := ow.2
  have own := q.env.own s ow
  have fresh : ∀ {a}, H1 a = none → ∀ i, Own S ρ1 i → a ∉ Fs1 i := fun {a} n i oi m => by
    obtain ⟨u, hu, _⟩ := q.env.mem oi m
    rw [n] at hu; cases hu
  have lt : s < ρ1.length := (List.getElem?_eq_some_iff.mp e1').1
  have ob : ∀ j, Own S (ρ1.set s (some o)) j → Own S ρ1 j := fun j oj => by
    by_cases hj : j = s
    · subst hj; exact ow
    · obtain ⟨d', q'⟩ := oj.2
      rw [List.getElem?_set_ne (Ne.symm hj)] at q'
      exact ⟨oj.1, d', q'⟩
  have np : ∀ a ∈ F', ¬ B.P0 a := fun a ha => by
    rcases f2 a ha with k | ⟨hn, k⟩ | k
    · exact own.2 a k
    · rcases (fr hn).2.1 a k with n | ⟨j, oj, mj⟩
      · exact I.fresh n
      · exact (I.own j oj).2 a mj
    · exact q.env.fresh k
  have dj : ∀ a ∈ F', ∀ j, Own S ρ1 j → j ≠ s → a ∉ Fs1 j := fun a ha j oj hj m => by
    rcases f2 a ha with k | ⟨hn, k⟩ | k
    · exact q.env.dis j s oj ow hj a m k
    · exact (fr hn).2.2 j oj a k m
    · exact fresh k j oj m
  have back : ∀ a, a ∈ Fs1 s ∨ H1 a = none → H a = none ∨ ∃ j, Own S ρ j ∧ a ∈ Fs j := fun a k => by
    rcases k with k | k
    · exact q.step.grow s a ow k
    · exact .inl (q.step.dom a k)
  refine ⟨q.env.mut ow hw ch dm r2 n2 np dj, r3, ⟨fun a u hu => ?_, fun i a oi ha => ?_, fun a ha => q.step.dom a (dm a ha), fun z' => by cases z'⟩, n3, fun a ha => back a (g3 a ha).1, fun i oi a ha => ?_⟩
  · rcases q.step.chg a u hu with k | k
    · rcases ch a u k with k | k
      · exact .inl k
      · rcases q.step.grow s a ow k with n | k
        · rw [hu] at n; cases n
        · exact .inr k
    · exact .inr k
  · by_cases hi : i = s
    · simp only [if_pos hi] at ha
      rcases f2 a ha with k | ⟨hn, k⟩ | k
      · exact back a (.inl k)
      · exact (fr hn).2.1 a k
      · exact back a (.inr k)
    · simp only [if_neg hi] at ha
      exact q.step.grow i a (ob i oi) ha
  · by_cases hi : i = s
    · simp only [if_pos hi]; exact (g3 a ha).2
    · simp only [if_neg hi]
      intro m
      rcases (g3 a ha).1 with k | k
      · exact q.env.dis i s (ob i oi) ow hi a m k
      · exact fresh k i (ob i oi) m
/-- a method of a list or a dict that stands at a place -/
def ePMt (T : String) (s : Nat) (g : D → List D → Option (D × D)) (pe : M (List PK)) (a : M (List D)) : M D := fun ρ => bindR (pe ρ) fun p _ => match atP s p ρ with
  | some d => if tyM d = some T then bindR (a ρ) fun ds ρ => (match g d ds with
    | some (res, d') => (match (match ρ[s]? with | some (some d0) => setP p d0 d' | _ => none) with | some o => .ok res (ρ.set s (some o)) | none => .st)
    | none => .st) else .st
  | none => .st
theorem xe_pmt (s : Nat) {T id : String} {name : Str} {o : Expr} {apos : Pos} {r : V → List V → Hp → VK → Prop} {nd : Bool} {g : D → List D → Option (D × D)} {e : Expr} {es : List Expr} {pe : M (List PK)} {ea : M (List D)} (pa : PlainAttrs T) (slot : Slot T name id) (hty : typeOf (.builtin id) = Pure.pure (.type "method_descriptor")) (hm : MtR X id r) (hg : OpU S.c r nd g)
    (ho : XPl X S W o s pe) (ha : XA X S W (e :: es) m1 e1 ea) (h0 : e1 = false := by rfl) (z : (!nd || m1.le .fr) = true := by rfl) (hk : hasS S s = true := by rfl)
    (hbase : attributeBase o name X.env (eval o X.env) = eval o X.env := by rfl)
    (hfew : ((backTo pos (starEach (e :: es) X.env)).all (fun x => !x.1) && (backToKw pos (keywordEach [] X.env)).all (fun x => x.1.isSome) && decide ((e :: es).length + ([] : List Keyword).length + (if ([] : List Keyword).isEmpty then 0 else 1) < 30)) = true := by rfl)
    (hline : (apos.endLine == pos.line) = true := by rfl) (hs : starEach (e :: es) X.env = (false, eval e X.env) :: starEach es X.env := by rfl) (hplain : (backTo pos (starEach es X.env)).any (·.1) = false := by rfl) :
    XE X S W (.Call (.Attribute o name apos) (e :: es) [] pos) .fr true (ePMt T s g pe ea) := by
  subst h0
  obtain ⟨ta, pa', ra⟩ := ha.ex
  obtain ⟨to, po, ro⟩ := ho.ex
  refine ⟨_, pe_bm pa slot hty hm po pa' hbase hfew hline hs hplain, fun B ρ σ Fs H Q I h => ro B ρ σ Fs H _ I (h.bind.imp fun p ρ1 hp h1 => ?_)⟩
  cases hd : atP s p ρ with
  | none => rw [hd] at h1; exact h1.elim
  | some d =>
    rw [hd] at h1
    simp only at h1
    split at h1
    case isFalse => exact h1.elim
    rename_i ht
    obtain ⟨d0, e0, hl⟩ := atP_some hd
    refine ⟨d0, d, e0, hl, fun w v H1 G A Bb I1 sm hw f => ⟨ty_ok f.rep ht, ra B ρ σ Fs H1 _ I1 (h1.bind.imp fun ds ρ2 _ h2 vs H2 Fs2 F2 q2 => ?_)⟩⟩
    obtain ⟨rfl, fe, sm2⟩ := q2.step.noeff rfl
    split at h2
    case h_2 => exact h2.elim
    rename_i res d' hgo
    have ow : Own S ρ2 s := ⟨hasS_own hk, d0, e0⟩
    have own := I.own s ow
    rw [f.spl] at own
    have fs := fe s ow
    rw [f.spl] at fs
    have nd0 : (A ++ G ++ Bb).Nodup := own.1
    have fr : nd = true → MdOk S B .fr ρ2 Fs H1 ρ2 Fs2 F2 := fun hn => q2.md.le (by subst hn; simpa using z)
    have ndG : G.Nodup := (List.nodup_append.mp (List.nodup_append.mp nd0).1).2.1
    have gA : ∀ a ∈ G, a ∉ A ++ Bb := fun a ha z => by
      rcases List.mem_append.mp z with z | z
      · exact (List.nodup_append.mp (List.nodup_append.mp nd0).1).2.2 a z a ha rfl
      · exact (List.nodup_append.mp nd0).2.2 a (by simp [ha]) a z rfl
    have inG : ∀ a ∈ G, a ∈ Fs2 s := fun a ha => by rw [fs]; simp [ha]
    refine hg B.R H2 d res d' v G ds vs F2 Q (f.rep.same sm2) q2.rep ndG (fun hn => ⟨(fr hn).1, fun a ha m => (fr hn).2.2 s ow a ha (inG a m)⟩) hgo fun v' H3 G' F' ch dm r2 n2 f2 r3 n3 g3 => ?_
    have kp : KeepO S.c B.R H1 H3 (A ++ Bb) := fun a o ha z => by
      rcases ch a o (sm2 _ _ ha) with k | k
      · exact k
      · rcases z with z | z
        · obtain ⟨u, hu, mu⟩ := f.rep.mem a k
          rw [ha] at hu; cases hu
          exact absurd mu z
        · exact absurd z (gA a k)
    obtain ⟨o, ho', rr⟩ := f.back H3 d' F' kp r2
    rw [e0] at h2
    simp only [ho'] at h2
    have exA : ∀ a ∈ A ++ Bb, ∃ u, H2 a = some u := fun a ha => by
      obtain ⟨u, hu, _⟩ := q2.env.mem ow (a := a) (by rw [fs]; rcases List.mem_append.mp ha with z | z <;> simp [z])
      exact ⟨u, hu⟩
    have fA : ∀ a ∈ F', a ∉ A ++ Bb := fun a ha z => by
      rcases f2 a ha with k | ⟨hn, k⟩ | k
      · exact gA a k z
      · refine (fr hn).2.2 s ow a k ?_
        rw [fs]; rcases List.mem_append.mp z with z | z <;> simp [z]
      · obtain ⟨u, hu⟩ := exA a z
        rw [k] at hu; cases hu
    have nF : (A ++ F' ++ Bb).Nodup := by
      have a1 := List.nodup_append.mp nd0
      have a2 := List.nodup_append.mp a1.1
      refine List.nodup_append.mpr ⟨List.nodup_append.mpr ⟨a2.1, n2, fun x hx y hy e => fA y hy (by subst e; simp [hx])⟩, a1.2.1, fun x hx y hy e => ?_⟩
      subst e
      rcases List.mem_append.mp hx with hx | hx
      · exact a1.2.2 x (by simp [hx]) x hy rfl
      · exact fA x hx (by simp [hy])
    have pq := mut_post (nd := nd) (v := v') (res := res) (G := G') (F' := A ++ F' ++ Bb) q2 I1 fr ow hw (fun a u hu => (ch a u hu).imp (fun z => z) (inG a)) dm rr nF (fun a ha => ?_) r3 n3 fun a ha => ?_
    · exact h2 v' H3 _ G' ⟨pq.env, pq.rep, ⟨fun a u hu => (pq.step.chg a u (sm _ _ hu)).imp (fun z => z) fun z => z, fun i a oi ha => (pq.step.grow i a oi ha).imp (fun z => Same.dom sm z) fun z => z, fun a ha => Same.dom sm (pq.step.dom a ha), fun z' => by cases z'⟩, pq.md.1, fun a ha => (pq.md.2.1 a ha).imp (fun z => Same.dom sm z) fun z => z, pq.md.2.2⟩
    · rw [fs]
      rcases List.mem_append.mp ha with z | z
      · rcases List.mem_append.mp z with z | z
        · exact .inl (by simp [z])
        · rcases f2 a z with k | k | k
          · exact .inl (by simp [k])
          · exact .inr (.inl k)
          · exact .inr (.inr k)
      · exact .inl (by simp [z])
    · obtain ⟨k1, k2⟩ := g3 a ha
      refine ⟨k1.imp (inG a) fun z => z, fun z => ?_⟩
      rcases List.mem_append.mp z with z | z
      · rcases List.mem_append.mp z with z | z
        · rcases k1 with k | k
          · exact gA a k (by simp [z])
          · obtain ⟨u, hu⟩ := exA a (by simp [z])
            rw [k] at hu; cases hu
        · exact k2 z
      · rcases k1 with k | k
        · exact gA a k (by simp [z])
        · obtain ⟨u, hu⟩ := exA a (by simp [z])
          rw [k] at hu; cases hu
end
end EL

/-! dict comprehensions whose parts change nothing; new values may be new lists -/
namespace EL
open PySem PySem.Spec PyProof.Rows
open L2 hiding XE
section
variable {X : Cx} {S : Sig} {B B' : Base} {W : WX} {m m1 m2 rm : Md} {e1 e2 e3 : Bool} {σ σ' : L2.St} {ρ ρ1 ρ' : Env} {Fs Fs1 Fs' : Nat → List Addr} {H H1 H' : Hp} {d : D} {v : V} {F Fp : List Addr} {pos : Pos} {T ts ts1 : List Nat}
/-- one more entry: a new key, or a plain value -/
def dcPut (acc : List (Key × D)) (k y : D) : Option (List (Key × D)) := (keyD k).bind fun q => if acc.length < sizeLine ∧ ((acc.any fun kv => decide (kv.1 = q)) = false ∨ pureD y = true) then some (putD acc q y) else none
def dcLoop (bd : D → Env → Option Env) (tt : M Bool) (kk ee : M D) : List D → Env → List (Key × D) → Option (List (Key × D))
  | [], _, acc => some acc
  | d :: ds, ρ, acc => match bd d ρ with
    | none => none
    | some ρ1 => match tt ρ1 with
      | .ok false _ => dcLoop bd tt kk ee ds ρ acc
      | .ok true _ => (match kk ρ1 with
        | .ok k _ => (match ee ρ1 with
          | .ok y _ => (match dcPut acc k y with | some acc' => dcLoop bd tt kk ee ds ρ acc' | none => none)
          | _ => none)
        | _ => none)
      | _ => none
def eDc (vs : List Nat) (it : M (List D)) (bd : D → Env → Option Env) (tt : M Bool) (kk ee : M D) : M D := fun ρ => bindR (it ρ) fun ds ρ1 =>
  match dcLoop bd tt kk ee ds (wipeE ρ1 vs) [] with | some kvs => .ok (.dic kvs) ρ1 | none => .st
theorem putF_new {C : Core} {R : Addr → Prop} {k : Key} {y : D} {x : V} {kvs : List (Key × D)} {ws : List (Key × V)} {G : List Addr} (ry : Rep C R H y x G) (e : ws.map (·.1) = kvs.map (·.1)) (r : Reps C R H (kvs.map (·.2)) (ws.map (·.2)) F) (hn : (kvs.any fun kv => decide (kv.1 = k)) = false) :
    (L2.putK ws k x).map (·.1) = (putD kvs k y).map (·.1) ∧ Reps C R H ((putD kvs k y).map (·.2)) ((L2.putK ws k x).map (·.2)) (F ++ G) := by
  have ha : (ws.any fun kv => decide (kv.1 = k)) = kvs.any fun kv => decide (kv.1 = k) := by
    have h1 : ∀ {β : Type} (l : List (Key × β)), (l.any fun kv => decide (kv.1 = k)) = (l.map (·.1)).any fun z => decide (z = k) := fun l => by rw [List.any_map]; rfl
    rw [h1, h1, e]
  unfold L2.putK putD
  rw [ha, hn]
  refine ⟨by simp [e], ?_⟩
  have := r.app (.cons (F := G) ry .nil)
  simpa using this
structure XD (X : Cx) (S : Sig) (W : WX) (kx vx tg iter : Expr) (ifs : List Expr) (scope : Scope) (own : List (Str × Nat)) (eff : Bool) (ev : M D) : Prop where
  ex : ∃ wi g tt tk te, PI X tg iter wi ∧ BlkOk X.N X.env.scope scope own ∧ (∀ (s : Shared) (H : Hp) (C : Addr) (cl : List (Str × Addr)) (fp : List Addr), PG (X.blk s H scope (compEnvC scope cl C X.env) fp) tg g) ∧
    (∀ (s : Shared) (H : Hp) (C : Addr) (cl : List (Str × Addr)) (fp : List Addr), PTs (X.blk s H scope (compEnvC scope cl C X.env) fp) ifs tt) ∧
    (∀ (s : Shared) (H : Hp) (C : Addr) (cl : List (Str × Addr)) (fp : List Addr), PE (X.blk s H scope (compEnvC scope cl C X.env) fp) kx tk) ∧
    (∀ (s : Shared) (H : Hp) (C : Addr) (cl : List (Str × Addr)) (fp : List Addr), PE (X.blk s H scope (compEnvC scope cl C X.env) fp) vx te) ∧ RE S W .fr eff ev (tDc wi g tt tk te (own.map (·.2)))
theorem xd_dc {pu : Bool} {own : List (Str × Nat)} {tg iter kx vx : Expr} {ifs : List Expr} {scope : Scope} {it : M (List D)} {bd : D → Env → Option Env} {tt : M Bool} {kk ee : M D} (hi : XIt X S W tg iter T pu e1 it) (ok : blkC X.N X.env.scope scope own = true)
    (hg : ∀ (s : Shared) (H : Hp) (C : Addr) (cl : List (Str × Addr)) (fp : List Addr), XG (X.blk s H scope (compEnvC scope cl C X.env) fp) (lockS S T) pu tg ts bd) (ht : ∀ (s : Shared) (H : Hp) (C : Addr) (cl : List (Str × Addr)) (fp : List Addr), XC (X.blk s H scope (compEnvC scope cl C X.env) fp) (lockS S T) W0 ifs false tt)
    (hk : ∀ (s : Shared) (H : Hp) (C : Addr) (cl : List (Str × Addr)) (fp : List Addr), XE (X.blk s H scope (compEnvC scope cl C X.env) fp) (lockS S T) W0 kx m1 false kk)
    (he : ∀ (s : Shared) (H : Hp) (C : Addr) (cl : List (Str × Addr)) (fp : List Addr), XE (X.blk s H scope (compEnvC scope cl C X.env) fp) (lockS S T) W0 vx m false ee) (hm : m.le .fr = true := by rfl) (hts : ts.all (own.map (·.2)).contains = true := by rfl) :
    XD X S W kx vx tg iter ifs scope own e1 (eDc (own.map (·.2)) it bd tt kk ee) := by
  obtain ⟨ti, pi, ri⟩ := hi.ex
  refine ⟨_, _, _, _, _, pi, blkOk_by ok, fun s H C cl fp => (hg s H C cl fp).tg, fun s H C cl fp => (ht s H C cl fp).tt, fun s H C cl fp => (hk s H C cl fp).te, fun s H C cl fp => (he s H C cl fp).te, fun B ρ σ Fs H Q I h => ri B ρ σ Fs H _ I (h.bind.imp fun ds ρ1 _ h1 J H1 Fs1 Fp I1 s1 wk okk L hL => ?_)⟩
  generalize hvs : own.map (·.2) = vs at *
  have tsv : ∀ i, i ∉ vs → i ∉ ts := fun i hi z => hi (by simpa using List.all_eq_true.mp hts i z)
  obtain ⟨B', lk⟩ := Lk.mk' S B T ρ1 σ Fs1 H1 Fp fun a h => I1.rdH h
  have Il := I1.lock wk lk
  cases hz0 : dcLoop bd tt kk ee ds (wipeE ρ1 vs) [] with
  | none => rw [hz0] at h1; exact h1.elim
  | some all =>
  rw [hz0] at h1
  simp only at h1
  refine ⟨fun i mm H2 => i ≤ ds.length ∧ mm = ds.length - i ∧ Same H1 H2 ∧ ∃ acc ws F, H2 L = some (.dK ws) ∧ ws.length ≤ sizeLine ∧ ws.map (·.1) = acc.map (·.1) ∧ Reps S.c B.R H2 (acc.map (·.2)) (ws.map (·.2)) F ∧ F.Nodup ∧ L ∉ F ∧ (∀ a ∈ F, H1 a = none) ∧ dcLoop bd tt kk ee (ds.drop i) (wipeE ρ1 vs) acc = some all,
    ⟨_, Nat.zero_le _, rfl, same_upd hL, [], [], [], upd_same, Nat.zero_le _, rfl, .nil, List.nodup_nil, (by simp), (by simp), by simpa using hz0⟩, fun i mm H2 ⟨hi, hm', sm2, acc, ws, F, hL2, hwl, hek, ra, nd, nL, fr, hz⟩ => ?_⟩
  by_cases hl : i < ds.length
  · have hd : ds[i]? = some ds[i] := List.getElem?_eq_getElem hl
    obtain ⟨go, yld⟩ := okk.step H2 (fun a o q _ => sm2 a o q) i _ hd
    refine .inr ⟨go, fun H5 => Same H1 H5 ∧ ∃ acc ws F, H5 L = some (.dK ws) ∧ ws.length ≤ sizeLine ∧ ws.map (·.1) = acc.map (·.1) ∧ Reps S.c B.R H5 (acc.map (·.2)) (ws.map (·.2)) F ∧ F.Nodup ∧ L ∉ F ∧ (∀ a ∈ F, H1 a = none) ∧ dcLoop bd tt kk ee (ds.drop (i + 1)) (wipeE ρ1 vs) acc = some all, fun H5 q => ⟨_, by omega, by omega, rfl, q⟩, fun x H3 hx => ?_⟩
    obtain ⟨sm, G, rx, g0, g1⟩ := yld x H3 hx
    rw [List.drop_eq_getElem_cons hl] at hz
    unfold dcLoop at hz
    cases qb : bd ds[i] (wipeE ρ1 vs) with
    | none => rw [qb] at hz; cases hz
    | some ρ4 =>
    rw [qb] at hz
    simp only at hz
    have sm3 : Same H1 H3 := sm2.trans sm
    have J3 : EnvR (lockS S T) B' (wipeE ρ1 vs) (wipe σ vs) Fs1 H3 := Il.wipe.same sm3
    refine ⟨B', wipeE ρ1 vs, ρ4, Fs1, ds[i], G, J3, by rw [lockS_c, lk.R]; exact rx, g0, (fun a ha => (lk.P0 a).mpr (.inr (.inl (g1 a ha)))), qb, fun σ4 Fs4 J4 b4 => ?_⟩
    have hw4 : wipe σ4 vs = wipe σ vs := by
      have := (wipe_eq (σ := wipe σ vs) (σ' := σ4) (vs := vs) b4.len (fun j hj => b4.sg j (tsv j hj))).2
      rw [this]
      exact (wipe_eq (σ := σ) (σ' := wipe σ vs) (vs := vs) (wipe_length σ vs) fun j hj => wipe_out' hj).2
    refine ⟨hw4, B', ρ4, Fs4, J4, ?_⟩
    have base : ∀ {H8 : Hp}, Same H3 H8 → Same H1 H8 ∧ H8 L = some (.dK ws) ∧ Reps S.c B.R H8 (acc.map (·.2)) (ws.map (·.2)) F := fun {H8} s8 => ⟨sm3.trans s8, s8 _ _ (sm _ _ hL2), (ra.same sm).same s8⟩
    cases qt : tt ρ4 with
    | er _ _ _ => rw [qt] at hz; cases hz
    | st => rw [qt] at hz; cases hz
    | ok b ρ8 =>
      rw [qt] at hz
      intro H8 Fs8 J8 s8
      obtain ⟨rfl, f8, k8⟩ := s8.noeff rfl
      obtain ⟨q1, q4, q5⟩ := base k8
      cases b with
      | false => exact iteF ⟨q1, acc, ws, F, q4, hwl, hek, q5, nd, nL, fr, hz⟩
      | true =>
        refine iteT ⟨B', ρ8, Fs8, J8, ?_⟩
        simp only at hz
        cases qk : kk ρ8 with
        | er _ _ _ => rw [qk] at hz; cases hz
        | st => rw [qk] at hz; cases hz
        | ok k ρk =>
        rw [qk] at hz
        simp only at hz
        intro vk H9 Fs9 Fk pk
        obtain ⟨rfl, f9, k9⟩ := pk.step.noeff rfl
        refine ⟨B', ρk, Fs9, pk.env, ?_⟩
        cases qe : ee ρk with
        | er _ _ _ => rw [qe] at hz; cases hz
        | st => rw [qe] at hz; cases hz
        | ok y ρe =>
        rw [qe] at hz
        simp only at hz
        intro vy H10 Fs10 Fy py
        obtain ⟨rfl, f10, k10⟩ := py.step.noeff rfl
        cases qp : dcPut acc k y with
        | none => rw [qp] at hz; cases hz
        | some acc' =>
        rw [qp] at hz
        simp only at hz
        unfold dcPut at qp
        cases hkd : keyD k with
        | none => rw [hkd] at qp; cases qp
        | some q =>
        rw [hkd] at qp
        simp only [Option.bind_some] at qp
        split at qp
        case isFalse => cases qp
        rename_i hc
        cases qp
        obtain ⟨q1, q4, q5⟩ := base ((k8.trans k9).trans k10)
        have hwl2 : ws.length = acc.length := by simpa using congrArg List.length hek
        have hlen : ws.length < sizeLine := by rw [hwl2]; exact hc.1
        have hlp := length_putK ws q vy
        have frY : MdOk (lockS S T) B' .fr ρe Fs9 H9 ρe Fs10 Fy := py.md.le hm
        have h9 : ∀ a, H9 a = none → H1 a = none := fun a h => sm3.free (k8.free (k9.free h))
        have Hd : ∀ a u, H10 a = some u → a ≠ L → (upd H10 L (.dK (L2.putK ws q vy))) a = some u := fun a u q n => by rw [upd_ne n]; exact q
        have ry : Rep S.c B.R H10 y vy Fy := by have := py.rep; rw [lockS_c, lk.R] at this; exact this
        have freshY : ∀ a ∈ Fy, H9 a = none ∨ ∃ j, Own (lockS S T) ρe j ∧ a ∈ Fs9 j := frY.2.1
        have freshY' : ∀ a ∈ Fy, H9 a = none := fun a ha => by
          rcases freshY a ha with z | ⟨j, oj, z⟩
          · exact z
          · exact absurd (by rw [f10 j oj]; exact z) (frY.2.2 j oj a ha)
        have nLY : L ∉ Fy := fun z => by
          have := freshY' L z
          rw [k9 _ _ (k8 _ _ (sm _ _ hL2))] at this; cases this
        have ndFY : (F ++ Fy).Nodup := List.nodup_append.mpr ⟨nd, frY.1, fun a ha b hb e => by
          subst e
          obtain ⟨u, hu⟩ := ra.mem a ha
          have := freshY' a hb
          rw [k9 _ _ (k8 _ _ (sm _ _ hu.1))] at this; cases this⟩
        have kp : ∀ {A : List Addr}, L ∉ A → ∀ a u, H10 a = some u → (¬ Mu S.c B.R u a ∨ a ∈ A) → (upd H10 L (.dK (L2.putK ws q vy))) a = some u := fun {A} na a u q z => by
          refine Hd a u q fun z' => ?_
          subst z'
          rw [q4] at q; cases q
          exact z.elim (fun z => z trivial) na
        have smL : Same H1 (upd H10 L (.dK (L2.putK ws q vy))) := fun a o q => Hd a o (q1 a o q) fun z' => by subst z'; rw [hL] at q; cases q
        refine ⟨ws, q, key_v pk.rep hkd, q4, hlen, smL, putD acc q y, L2.putK ws q vy, ?_⟩
        rcases hc.2 with hn | hp
        · obtain ⟨e1', r1'⟩ := putF_new ry hek q5 hn
          have nLA : L ∉ F ++ Fy := fun z => (List.mem_append.mp z).elim nL nLY
          exact ⟨F ++ Fy, upd_same, by omega, e1', r1'.keep (kp nLA), ndFY, nLA, fun a ha => (List.mem_append.mp ha).elim (fr a) fun z => h9 a (freshY' a z), hz⟩
        · have F0 := ry.pure hp
          subst F0
          obtain ⟨e1', G', r1', sb⟩ := put_of' ry hek q5
          exact ⟨G', upd_same, by omega, e1', r1'.keep (kp fun z => nL (sb.subset z)), sb.nodup nd, (fun z => nL (sb.subset z)), fun a ha => fr a (sb.subset ha), hz⟩
  · refine .inl ⟨okk.stop H2 (fun a o q _ => sm2 a o q) i (by omega), ?_⟩
    rw [List.drop_eq_nil_of_le (by omega)] at hz
    cases hz
    refine h1 (.ref L) H2 Fs1 (L :: F) ⟨I1.same sm2, .dic hL2 hwl hek ra, by simpa using s1.trans (e2 := false) (Step.of_same sm2), List.nodup_cons.mpr ⟨nL, nd⟩, fun a ha => ?_, fun j oj a ha z => ?_⟩
    · rcases List.mem_cons.mp ha with rfl | ha
      · exact .inl (s1.dom _ hL)
      · exact .inl (s1.dom _ (fr a ha))
    · obtain ⟨u, hu, _⟩ := I1.mem oj z
      rcases List.mem_cons.mp ha with rfl | ha
      · rw [hL] at hu; cases hu
      · rw [fr a ha] at hu; cases hu
theorem xe_dc {kx vx tg iter : Expr} {ifs : List Expr} {own : List (Str × Nat)} {scope : Scope} {ev : M D} (hc : X.calm = true) (hN : X.N.Nodup) (h : XD X S W kx vx tg iter ifs scope own e1 ev) (hs : ∀ x, foldedSetIterable iter X.env x = Pure.pure x := by intro _; rfl) :
    XE X S W (.DictComp kx vx [⟨tg, iter, ifs, 0⟩] scope pos) .fr e1 ev := by
  obtain ⟨wi, g, tt, tk, te, h1, h2, h3, h4, h5, h6, h7⟩ := h.ex
  exact ⟨_, pe_dc hc hN h1 h2 h3 h4 h5 h6 hs, h7⟩
theorem ps_setDc {i : Nat} {y : Str} {py : Pos} {kx vx tg iter : Expr} {ifs : List Expr} {scope : Scope} {own : List (Str × Nat)} {pos spos : Pos} {wi : TI} {g : TG} {tt : TT} {tk tv : TE} (hc : X.calm = true) (hN : X.N.Nodup) (hy : X.N[i]? = some y) (hyl : X.env.scope.names.lookup y = some .local)
    (hsw : swapsWith (.DictComp kx vx [⟨tg, iter, ifs, 0⟩] scope pos) (some (.Name y py)) spos.line X.env = Pure.pure true) (hi : PI X tg iter wi) (ok : BlkOk X.N X.env.scope scope own)
    (hg : ∀ (s : Shared) (H : Hp) (C : Addr) (cl : List (Str × Addr)) (fp : List Addr), PG (X.blk s H scope (compEnvC scope cl C X.env) fp) tg g) (ht : ∀ (s : Shared) (H : Hp) (C : Addr) (cl : List (Str × Addr)) (fp : List Addr), PTs (X.blk s H scope (compEnvC scope cl C X.env) fp) ifs tt)
    (hk : ∀ (s : Shared) (H : Hp) (C : Addr) (cl : List (Str × Addr)) (fp : List Addr), PE (X.blk s H scope (compEnvC scope cl C X.env) fp) kx tk)
    (he : ∀ (s : Shared) (H : Hp) (C : Addr) (cl : List (Str × Addr)) (fp : List Addr), PE (X.blk s H scope (compEnvC scope cl C X.env) fp) vx tv) (hs : ∀ x, foldedSetIterable iter X.env x = Pure.pure x := by intro _; rfl) :
    PS X (.Assign [.Name y py] (.DictComp kx vx [⟨tg, iter, ifs, 0⟩] scope pos) spos) (tAsg (tDc wi g tt tk tv (own.map (·.2))) (gName i)) := by
  refine ⟨fun pins s σ H D I h => ?_⟩
  rw [exec_Assign_Name_used _ _ _ _ hsw]
  refine wpAny_bind (wpAny_standAt (wpAny_bind ?_))
  show wpAny _ X.A (do let _ ← comprehension (.DictComp kx vx [⟨tg, iter, ifs, 0⟩] scope pos) scope X.env (firstIterPos [⟨tg, iter, ifs, 0⟩] pos) newDict false (eval iter X.env) (some (assign (.Name y py) X.env))) _ _ s
  have h : tDc wi g tt tk tv (own.map (·.2)) σ H (fun x H1 => gName i x σ H1 D.nx) := h
  refine wpAny_bind (thn (dc_core (Qf := fun _ s' => SP X pins D .next s') hc hN I hi ok hg ht hk he hs h fun L C s' m H' I' q hn f => ?_) fun _ s' hq => wpAny_pure (wpAny_pure hq))
  show wpAny _ _ (assign (.Name y py) X.env (.ref L)) _ _ _
  refine wpAny_assign_Name (store_ok2 (v := V.ref L) I' hN hy (.inl hyl) rfl (fun s2 I2 ⟨a, sb, ha⟩ => ?_) (.inr hyl))
  obtain ⟨f0, f1, f2, f3, f4, f5⟩ := f
  have haC : C ≠ a := by
    rcases ha with z | z
    · rw [z]; exact f1
    · exact fun e => f4 y a z e.symm
  refine ⟨m, hn.sameBut sb haC, fun h3 sb3 => ?_⟩
  exact ⟨_, H', I2.turned (t' := s2.toks) (fun b o hb e => (sb3.2 b hb).trans e) f0 f1 f3 f4 f5, q⟩
theorem sw_trueD {kx vx : Expr} {gs : List Comprehension} {scope : Scope} {pos py : Pos} {y : Str} {l : Nat} {env : PySem.Env} (hk : env.scope.kind = .function) (hy : env.scope.names.lookup y = some .local) (hl : (py.line == pos.line) = true)
    (ha : (scope.names.any fun (n, k) => n == y && (k == .local || k == .cell)) = false) : swapsWith (.DictComp kx vx gs scope pos) (some (.Name y py)) l env = Pure.pure true := by
  have ky : env.kindOf y = some .local := hy
  have hb : env.blockKind = .function := by unfold Env.blockKind; rw [hk]; rfl
  unfold swapsWith
  simp only [hb, ky, ha, Expr.pos, hl]
  rfl
theorem xs_dc (i : Nat) {y : Str} {py spos : Pos} {own : List (Str × Nat)} {kx vx tg iter : Expr} {ifs : List Expr} {scope : Scope} {ev : M D} (hc : X.calm = true) (hN : X.N.Nodup) (h : XD X S W kx vx tg iter ifs scope own e1 ev) (z : putMd S i .fr = true := by rfl) (hi : X.N[i]? = some y := by rfl) (hy : X.env.scope.names.lookup y = some .local := by rfl)
    (hk : X.env.scope.kind = .function := by rfl) (hl : (py.line == pos.line) = true := by rfl) (ha : (scope.names.any fun (n, k) => n == y && (k == .local || k == .cell)) = false := by rfl) (hs : ∀ x, foldedSetIterable iter X.env x = Pure.pure x := by intro _; rfl) :
    XS X S W rm (.Assign [.Name y py] (.DictComp kx vx [⟨tg, iter, ifs, 0⟩] scope pos) spos) (sSet i ev) := by
  obtain ⟨wi, g, tt, tk, te, h1, h2, h3, h4, h5, h6, h7⟩ := h.ex
  exact ⟨_, ps_setDc hc hN hi hy (sw_trueD hk hy hl ha) h1 h2 h3 h4 h5 h6 hs, fun B ρ σ Fs H E I hq => h7 B ρ σ Fs H _ I (hq.bind.imp fun d ρ1 _ h1 v H1 Fs1 F q => h1 _ _ H1 (put_ok q I z))⟩
end
end EL

/-! k in d, list(d), {}, sorted, max, min, a, b = new things -/
namespace EL
open PySem PySem.Spec PyProof.Rows
open L2 hiding XE
section
variable {X : Cx} {S : Sig} {C : Core} {B : Base} {W : WX} {R : Addr → Prop} {σ : L2.St} {ρ ρ1 ρ' : Env} {Fs Fs1 Fs' : Nat → List Addr} {H H1 H' : Hp} {F G : List Addr} {m m1 m2 rm : Md} {e1 e2 : Bool} {pos p : Pos} {d : D} {v : V} {a b e : Expr} {ea eb : M D}
/-! ### k in d -/
def rInK : R2 := fun x y H Q => ∃ a o, y = .ref a ∧ DGet H a x o ∧ Q (.bl o.isSome) H
def rNiK : R2 := fun x y H Q => ∃ a o, y = .ref a ∧ DGet H a x o ∧ Q (.bl (!o.isSome)) H
theorem op_inK (hu : X.A.units + 1 < cLine) : OpR X (compareOp .In) rInK := by
  intro pins s σ H x y v u Q I rx ry h
  obtain ⟨a, o, rfl, g, q⟩ := h
  obtain rfl : u = Value.ref a := ry
  exact d_in hu I g rx fun s3 I3 => ⟨.bl o.isSome, H, I3, rfl, q⟩
theorem op_niK (hu : X.A.units + 1 < cLine) : OpR X (compareOp .NotIn) rNiK := by
  intro pins s σ H x y v u Q I rx ry h
  obtain ⟨a, o, rfl, g, q⟩ := h
  obtain rfl : u = Value.ref a := ry
  exact d_notIn hu I g rx fun s3 I3 => ⟨.bl (!o.isSome), H, I3, rfl, q⟩
def dInK : D → D → Option D
  | k, .dic kvs => (keyD k).map fun q => .bl (valD kvs q).isSome
  | _, _ => none
def dNiK : D → D → Option D
  | k, .dic kvs => (keyD k).map fun q => .bl (!(valD kvs q).isSome)
  | _, _ => none
theorem inK_ways {d1 : D} {kvs : List (Key × D)} {x y : V} {F1 F2 : List Addr} {k : Key} (r1 : Rep C R H d1 x F1) (r2 : Rep C R H (.dic kvs) y F2) (hk : keyD d1 = some k) : ∃ a o, y = .ref a ∧ DGet H a x o ∧ o.isSome = (valD kvs k).isSome := by
  obtain ⟨a, ws, G, rfl, hs, hl, e, r, rfl⟩ := r2.dic_inv
  refine ⟨a, valV ws k, rfl, by rw [key_v r1 hk]; exact DGet.k hs, ?_⟩
  obtain ⟨h1, h2⟩ := val_of (k := k) e r
  cases q : valD kvs k with
  | none => rw [h1 q]; rfl
  | some d => obtain ⟨v, _, _, _, h3, _⟩ := h2 d q; rw [h3]; rfl
theorem op2_inK : Op2 C rInK dInK .pu := by
  intro R H d1 d2 d x y F1 F2 Q r1 r2 hg k
  unfold dInK at hg
  split at hg
  case h_2 => cases hg
  cases hk : keyD d1 with
  | none => rw [hk] at hg; cases hg
  | some q =>
    rw [hk] at hg; cases hg
    obtain ⟨a, o, h1, h2, h3⟩ := inK_ways r1 r2 hk
    exact ⟨a, o, h1, h2, by rw [h3]; exact k _ _ [] (VP.val (.bl _))⟩
theorem op2_niK : Op2 C rNiK dNiK .pu := by
  intro R H d1 d2 d x y F1 F2 Q r1 r2 hg k
  unfold dNiK at hg
  split at hg
  case h_2 => cases hg
  cases hk : keyD d1 with
  | none => rw [hk] at hg; cases hg
  | some q =>
    rw [hk] at hg; cases hg
    obtain ⟨a, o, h1, h2, h3⟩ := inK_ways r1 r2 hk
    exact ⟨a, o, h1, h2, by rw [h3]; exact k _ _ [] (VP.val (.bl _))⟩
theorem x_inK (q : Cq X S) (ha : XE X S W a m1 e1 ea) (hb : XE X S W b m2 e2 eb) (z : (!e2 || m1.sep) = true := by rfl) (hm : behindInMarks .In b = false := by rfl) : XE X S W (.Compare a [.In] [b] pos) .pu (e1 || e2) (eBin dInK ea eb) := xe_cmp (op_inK q.u1) op2_inK ha hb hm z
theorem x_niK (q : Cq X S) (ha : XE X S W a m1 e1 ea) (hb : XE X S W b m2 e2 eb) (z : (!e2 || m1.sep) = true := by rfl) (hm : behindInMarks .NotIn b = false := by rfl) : XE X S W (.Compare a [.NotIn] [b] pos) .pu (e1 || e2) (eBin dNiK ea eb) := xe_cmp (op_niK q.u1) op2_niK ha hb hm z
theorem t_inK (q : Cq X S) (ha : XE X S W a m1 e1 ea) (hb : XE X S W b m2 e2 eb) (z : (!e2 || m1.sep) = true := by rfl) (hm : behindInMarks .In b = false := by rfl) : XT X S W (.Compare a [.In] [b] pos) (e1 || e2) (ebV (eBin dInK ea eb)) := xt_cmp (op_inK q.u1) op2_inK ha hb hm z
theorem t_niK (q : Cq X S) (ha : XE X S W a m1 e1 ea) (hb : XE X S W b m2 e2 eb) (z : (!e2 || m1.sep) = true := by rfl) (hm : behindInMarks .NotIn b = false := by rfl) : XT X S W (.Compare a [.NotIn] [b] pos) (e1 || e2) (ebV (eBin dNiK ea eb)) := xt_cmp (op_niK q.u1) op2_niK ha hb hm z
/-! ### list(d): its keys -/
def keyV : Key → D
  | .inl i => .int i
  | .inr x => .str x
def dKeys : List D → Option D
  | [.dic kvs] => some (.lst (kvs.map fun kv => keyV kv.1))
  | _ => none
theorem opn_keys : OpN C (fun xs H Q => ∃ (a : Addr) (kvs : List (Key × V)), xs = [.ref a] ∧ Rd H a (.dK kvs) ∧ ∀ p, H p = none → Q (.ref p) (upd H p (.lst (kvs.map fun kv => kV kv.1)))) dKeys .fr := by
  intro R H ds d xs F Q r hg k
  match ds, hg with
  | [.dic kvs], hg =>
    cases hg
    replace r := reps_one r
    obtain ⟨v, rfl, r⟩ := r
    obtain ⟨a, ws, G, rfl, hs, hl, e, r, rfl⟩ := r.dic_inv
    refine ⟨a, ws, rfl, .inl hs, fun p hp => k _ _ [p] (VP.newL hp (by simpa using hl) ?_)⟩
    have e2 : (ws.map fun kv => kV kv.1) = (kvs.map fun kv => kv.1).map kV := by rw [← e, List.map_map]; rfl
    have e3 : (kvs.map fun kv => keyV kv.1) = (kvs.map fun kv => kv.1).map keyV := by rw [List.map_map]; rfl
    rw [e2, e3]
    generalize (kvs.map fun kv => kv.1) = ks
    induction ks with
    | nil => exact .nil
    | cons q ks ih => exact .cons (F := []) (G := []) (by cases q <;> first | exact .int _ | exact .str _) ih
theorem x_keys (q : Cq X S) (ha : XE X S W e m1 e1 ea) (hx : Gl X "list" := by rfl) (hs : starEach (e :: []) X.env = (false, eval e X.env) :: starEach [] X.env := by rfl) (hpl : (backTo pos (starEach [] X.env)).any (·.1) = false := by rfl) : XE X S W (.Call (.Name "list" p) [e] [] pos) .fr e1 (eA1 dKeys ea) :=
  xe_callTy (call_listD q.calm) opn_keys (xa_one ha hs) hx (q.fb _ (by decide)) boot_list (by decide) (by decide) hs hpl
/-! ### {} -/
def eDic0 : M D := fun ρ => .ok (.dic []) ρ
theorem xe_dic0 : XE X S W (.Dict [] [] pos) .fr false eDic0 := ⟨_, pe_dnewK, fun B ρ σ Fs H Q I h p hp => h (.ref p) (upd H p (.dK [])) Fs [p] (VP.post (ds := []) (vs := []) (G := []) (m1 := .bo) ⟨I, .nil, Step.refl, trivial⟩ ⟨same_upd hp, .dic (kvs := []) (ws := []) upd_same (Nat.zero_le _) rfl .nil, by simp, by intro a ha; simp at ha; rw [ha]; exact hp⟩)⟩
/-! ### max, min -/
def dMax : List D → Option D
  | [.lst ds] => (intsD ds).bind fun ns => if ns = [] then none else some (.int (ns.foldl max (ns.headD 0)))
  | _ => none
def dMin : List D → Option D
  | [.lst ds] => (intsD ds).bind fun ns => if ns = [] then none else some (.int (ns.foldl min (ns.headD 0)))
  | _ => none
def dMax2 : List D → Option D
  | [.int i, .int j] => some (.int (if j > i then j else i))
  | _ => none
def dMin2 : List D → Option D
  | [.int i, .int j] => some (.int (if j < i then j else i))
  | _ => none
theorem foldl_max {n : Int} : ∀ {ns : List Int}, (ns.foldl max n = n ∨ ns.foldl max n ∈ ns) ∧ n ≤ ns.foldl max n ∧ ∀ y ∈ ns, y ≤ ns.foldl max n
  | [] => by simp
  | x :: ns => by
    obtain ⟨h1, h2, h3⟩ := foldl_max (n := max n x) (ns := ns)
    simp only [List.foldl_cons, List.mem_cons]
    refine ⟨?_, by omega, fun y hy => ?_⟩
    · rcases h1 with h1 | h1
      · rw [h1]; rcases Int.le_total n x with z | z
        · exact .inr (.inl (by omega))
        · exact .inl (by omega)
      · exact .inr (.inr h1)
    · rcases hy with rfl | hy
      · omega
      · exact h3 y hy
theorem foldl_min {n : Int} : ∀ {ns : List Int}, (ns.foldl min n = n ∨ ns.foldl min n ∈ ns) ∧ ns.foldl min n ≤ n ∧ ∀ y ∈ ns, ns.foldl min n ≤ y
  | [] => by simp
  | x :: ns => by
    obtain ⟨h1, h2, h3⟩ := foldl_min (n := min n x) (ns := ns)
    simp only [List.foldl_cons, List.mem_cons]
    refine ⟨?_, by omega, fun y hy => ?_⟩
    · rcases h1 with h1 | h1
      · rw [h1]; rcases Int.le_total n x with z | z
        · exact .inl (by omega)
        · exact .inr (.inl (by omega))
      · exact .inr (.inr h1)
    · rcases hy with rfl | hy
      · omega
      · exact h3 y hy
theorem opn_max (hK : X.K = C.K) : OpN C (rMax X.K) dMax .pu := by
  intro R H ds d xs F Q r hg k
  rw [hK]
  match ds, hg with
  | [.lst ds], hg =>
    simp only [dMax] at hg
    cases q : intsD ds with
    | none => rw [q] at hg; cases hg
    | some ns =>
      rw [q] at hg
      simp only [Option.bind_some] at hg
      split at hg <;> cases hg
      rename_i hne
      replace r := reps_one r
      obtain ⟨v, rfl, r⟩ := r
      obtain ⟨a, vs, G, rfl, hs, hl, rr, _⟩ := rep_lst r
      rw [ints_of rr q] at hs
      refine ⟨a, ns, rfl, SqL.of hs, List.length_pos_iff.mpr hne, fun m hm hall => ?_⟩
      obtain ⟨x, ns', rfl⟩ := List.exists_cons_of_ne_nil hne
      obtain ⟨h1, h2, h3⟩ := foldl_max (n := x) (ns := x :: ns')
      have e : m = (x :: ns').foldl max x := by
        have a1 := h3 m hm
        have a2 := hall ((x :: ns').foldl max x) (by rcases h1 with z | z <;> first | (rw [z]; exact List.mem_cons_self) | exact z)
        omega
      rw [e]
      exact k _ _ [] (VP.val (.int _))
theorem opn_min (hK : X.K = C.K) : OpN C (rMin X.K) dMin .pu := by
  intro R H ds d xs F Q r hg k
  rw [hK]
  match ds, hg with
  | [.lst ds], hg =>
    simp only [dMin] at hg
    cases q : intsD ds with
    | none => rw [q] at hg; cases hg
    | some ns =>
      rw [q] at hg
      simp only [Option.bind_some] at hg
      split at hg <;> cases hg
      rename_i hne
      replace r := reps_one r
      obtain ⟨v, rfl, r⟩ := r
      obtain ⟨a, vs, G, rfl, hs, hl, rr, _⟩ := rep_lst r
      rw [ints_of rr q] at hs
      refine ⟨a, ns, rfl, SqL.of hs, List.length_pos_iff.mpr hne, fun m hm hall => ?_⟩
      obtain ⟨x, ns', rfl⟩ := List.exists_cons_of_ne_nil hne
      obtain ⟨h1, h2, h3⟩ := foldl_min (n := x) (ns := x :: ns')
      have e : m = (x :: ns').foldl min x := by
        have a1 := h3 m hm
        have a2 := hall ((x :: ns').foldl min x) (by rcases h1 with z | z <;> first | (rw [z]; exact List.mem_cons_self) | exact z)
        omega
      rw [e]
      exact k _ _ [] (VP.val (.int _))
theorem x_max (q : Cq X S) (ha : XE X S W e m1 e1 ea) (hx : Gl X "max" := by rfl) (hs : starEach (e :: []) X.env = (false, eval e X.env) :: starEach [] X.env := by rfl) (hpl : (backTo pos (starEach [] X.env)).any (·.1) = false := by rfl) : XE X S W (.Call (.Name "max" p) [e] [] pos) .pu e1 (eA1 dMax ea) :=
  xe_callB (cr_max q.calm) (opn_max q.K) (xa_one ha hs) hx (q.fb _ (by decide)) (by decide +kernel) (by decide) (by decide) hs hpl
theorem x_min (q : Cq X S) (ha : XE X S W e m1 e1 ea) (hx : Gl X "min" := by rfl) (hs : starEach (e :: []) X.env = (false, eval e X.env) :: starEach [] X.env := by rfl) (hpl : (backTo pos (starEach [] X.env)).any (·.1) = false := by rfl) : XE X S W (.Call (.Name "min" p) [e] [] pos) .pu e1 (eA1 dMin ea) :=
  xe_callB (cr_min q.calm) (opn_min q.K) (xa_one ha hs) hx (q.fb _ (by decide)) (by decide +kernel) (by decide) (by decide) hs hpl
theorem reps_two {d1 d2 : D} {xs : List V} (r : Reps C R H [d1, d2] xs F) : ∃ x y F1 F2, xs = [x, y] ∧ Rep C R H d1 x F1 ∧ Rep C R H d2 y F2 := by
  obtain ⟨x, ys, F1, F2, rfl, r1, r2, _⟩ := r.cons_inv
  obtain ⟨y, zs, F3, F4, rfl, r3, r4, _⟩ := r2.cons_inv
  cases r4
  exact ⟨x, y, F1, F3, rfl, r1, r3⟩
theorem opn_max2 : OpN C (fun xs H Q => ∃ i j, xs = [.int i, .int j] ∧ Q (.int (if j > i then j else i)) H) dMax2 .pu := by
  intro R H ds d xs F Q r hg k
  match ds, hg with
  | [.int i, .int j], hg =>
    cases hg
    obtain ⟨x, y, F1, F2, rfl, r1, r2⟩ := reps_two r
    rw [r1.int_inv, r2.int_inv]
    exact ⟨i, j, rfl, k _ _ [] (VP.val (.int _))⟩
theorem opn_min2 : OpN C (fun xs H Q => ∃ i j, xs = [.int i, .int j] ∧ Q (.int (if j < i then j else i)) H) dMin2 .pu := by
  intro R H ds d xs F Q r hg k
  match ds, hg with
  | [.int i, .int j], hg =>
    cases hg
    obtain ⟨x, y, F1, F2, rfl, r1, r2⟩ := reps_two r
    rw [r1.int_inv, r2.int_inv]
    exact ⟨i, j, rfl, k _ _ [] (VP.val (.int _))⟩
theorem x_max2 {es : List Expr} {eas : M (List D)} (q : Cq X S) (ha : XA X S W (e :: es) m1 e1 eas) (hx : Gl X "max" := by rfl) (hs : starEach (e :: es) X.env = (false, eval e X.env) :: starEach es X.env := by rfl) (hpl : (backTo pos (starEach es X.env)).any (·.1) = false := by rfl) : XE X S W (.Call (.Name "max" p) (e :: es) [] pos) .pu e1 (eN dMax2 eas) :=
  xe_callB (call_max2 q.calm) opn_max2 ha hx (q.fb _ (by decide)) (by decide +kernel) (by decide) (by decide) hs hpl
theorem x_min2 {es : List Expr} {eas : M (List D)} (q : Cq X S) (ha : XA X S W (e :: es) m1 e1 eas) (hx : Gl X "min" := by rfl) (hs : starEach (e :: es) X.env = (false, eval e X.env) :: starEach es X.env := by rfl) (hpl : (backTo pos (starEach es X.env)).any (·.1) = false := by rfl) : XE X S W (.Call (.Name "min" p) (e :: es) [] pos) .pu e1 (eN dMin2 eas) :=
  xe_callB (call_min2 q.calm) opn_min2 ha hx (q.fb _ (by decide)) (by decide +kernel) (by decide) (by decide) hs hpl
/-! ### sorted(xs) of data that are alike -/
def rSortA (K : PySem.W.Frag) : List V → Hp → VK → Prop := fun vs H Q => ∃ (a : Addr) (bs : List (V × PyData)), vs = [V.ref a] ∧ SqL K H a (bs.map (·.1)) ∧ (∀ b ∈ bs, Dp K H b.1 b.2 ∧ b.2.depth ≤ 60) ∧ PySem.W.AllAlike (bs.map (·.2)) ∧ PySem.W.Sortable (bs.map (·.2)) ∧
  ∀ p, H p = none → Q (.ref p) (upd H p (.lst ((bs.mergeSort (PySem.W.dataLe false (·.2))).map (·.1))))
theorem vals_each : ∀ {bs : List (V × PyData)} {us : List Value}, Vals (bs.map (·.1)) us → PySem.W.EachIs (fun u b => RelV b.1 u) us bs
  | [], us, h => by cases h; exact .nil
  | b :: bs, us, h => by
    cases h with
    | cons r t => exact .cons r (vals_each t)
theorem each_vals : ∀ {bs : List (V × PyData)} {us : List Value}, PySem.W.EachIs (fun u b => RelV b.1 u) us bs → Vals (bs.map (·.1)) us
  | _, _, .nil => .nil
  | _, _, .cons r t => .cons r (each_vals t)
theorem cr_sortA (hu : X.A.units + 64 < cLine) : CallR X (.builtin "sorted") (rSortA X.K) := by
  intro pins s σ H vs us Q I r h
  obtain ⟨a, bs, rfl, hs, hd, hal, hk, q⟩ := h
  obtain ⟨its, rv, hl, hz⟩ := I.list hs
  obtain ⟨u, rfl, ru⟩ := vals1 r
  obtain rfl : u = Value.ref a := ru
  have e0 := vals_each rv
  have hlen : its.length = bs.length := by rw [← rv.length, List.length_map]
  have hbl : bs.length ≤ sizeLine := by rw [List.length_map] at hz; exact hz
  refine PySem.W.sorted_data (vs := its) (bs := bs) (enc := (·.2)) (R := fun u b => RelV b.1 u) hl.isList e0 ((PySem.W.each_mem e0).mono fun u b z => Dp.reads I b.2 b.1 u (hd b z.2).1 z.1) hal hk hbl (fun b hb => by have := (hd b hb).2; omega) fun out ho eo => ?_
  obtain ⟨c, hc⟩ := sortedAll_at s.heap its out.toArray
  refine ⟨.ref (s.heap.objs.size + 1), upd H (s.heap.objs.size + 1) (.lst ((bs.mergeSort (PySem.W.dataLe false (·.2))).map (·.1))), I.laid (t' := s.toks) (fun _ _ => sortedAll_old) (Nat.le_succ _) ⟨?_, out, c, each_vals eo, hc⟩, rfl, q _ (I.hok.fresh (Nat.le_succ _))⟩
  rw [List.length_map, List.length_mergeSort]
  exact hbl
def pyD (d : D) : PyData := (toPy d).getD .none
def tupNE : D → Bool | .tup (_ :: _) => true | _ => false
def noTN : D → Bool | .tup _ => false | .non => false | _ => true
/-- what can be sorted: alike, all tuples with an item or none of them a tuple -/
def srtOk (ds : List D) : Bool := ds.all (fun d => datD d && decide (depD d ≤ 60) && ds.all fun e => PySem.W.alike (pyD d) (pyD e)) && (ds.all tupNE || ds.all noTN)
def leD (a b : D) : Bool := !PySem.W.dataLt (pyD b) (pyD a)
def sortD (ds : List D) : List D := ds.mergeSort leD
def dSorted : List D → Option D
  | [.lst ds] => if pureDs ds && srtOk ds then some (.lst (sortD ds)) else none
  | _ => none
theorem reps_zip : ∀ {ds : List D} {vs : List V}, Reps C R H ds vs [] → ∃ ts : List (V × D), ts.map (·.1) = vs ∧ ts.map (·.2) = ds ∧ ∀ t ∈ ts, Rep C R H t.2 t.1 []
  | [], _, r => by cases r; exact ⟨[], rfl, rfl, by simp⟩
  | d :: ds, _, r => by
    obtain ⟨x, ys, rfl, r1, r2⟩ := r.cons_nil
    obtain ⟨ts, h1, h2, h3⟩ := reps_zip r2
    exact ⟨(x, d) :: ts, by simp [h1], by simp [h2], fun t ht => by rcases List.mem_cons.mp ht with rfl | ht <;> first | exact r1 | exact h3 t ht⟩
theorem zip_reps : ∀ {ts : List (V × D)}, (∀ t ∈ ts, Rep C R H t.2 t.1 []) → Reps C R H (ts.map (·.2)) (ts.map (·.1)) []
  | [], _ => .nil
  | t :: ts, h => .cons (F := []) (G := []) (h t (by simp)) (zip_reps fun u hu => h u (by simp [hu]))
theorem opn_sorted (hK : X.K = C.K) : OpN C (rSortA X.K) dSorted .fr := by
  intro R H ds d xs F Q r hg k
  rw [hK]
  match ds, hg with
  | [.lst ds], hg =>
    simp only [dSorted] at hg
    split at hg <;> cases hg
    rename_i hc
    simp only [Bool.and_eq_true] at hc
    obtain ⟨hp, ho⟩ := hc
    unfold srtOk at ho
    simp only [Bool.and_eq_true, List.all_eq_true, decide_eq_true_eq] at ho
    obtain ⟨ho, hs2⟩ := ho
    replace r := reps_one r
    obtain ⟨v, rfl, r⟩ := r
    obtain ⟨a, vs, G, rfl, hs, hl, rr, _⟩ := rep_lst r
    have e := rr.pure hp
    subst e
    obtain ⟨ts, rfl, rfl, h3⟩ := reps_zip rr
    have py : ∀ t ∈ ts, toPy t.2 = some (pyD t.2) ∧ (pyD t.2).depth = depD t.2 := fun t ht => by
      obtain ⟨p, e1, _, e3⟩ := toPy_ok (ho t.2 (List.mem_map_of_mem ht)).1.1
      unfold pyD
      rw [e1]
      exact ⟨rfl, e3⟩
    refine ⟨a, ts.map fun t => (t.1, pyD t.2), rfl, ?_, fun b hb => ?_, fun d hd d' hd' => ?_, ?_, fun p hp => ?_⟩
    · rw [List.map_map]; exact SqL.of hs
    · obtain ⟨t, ht, rfl⟩ := List.mem_map.mp hb
      refine ⟨(h3 t ht).dp (py t ht).1, ?_⟩
      rw [(py t ht).2]
      exact (ho t.2 (List.mem_map_of_mem ht)).1.2
    · rw [List.map_map] at hd hd'
      obtain ⟨t, ht, rfl⟩ := List.mem_map.mp hd
      obtain ⟨u, hu, rfl⟩ := List.mem_map.mp hd'
      exact (ho t.2 (List.mem_map_of_mem ht)).2 u.2 (List.mem_map_of_mem hu)
    · rw [List.map_map]
      rw [Bool.or_eq_true, List.all_eq_true, List.all_eq_true] at hs2
      rcases hs2 with hs2 | hs2
      · refine .inl fun d hd => ?_
        obtain ⟨t, ht, rfl⟩ := List.mem_map.mp hd
        have h4 := hs2 t.2 (List.mem_map_of_mem ht)
        have h5 := (py t ht).1
        show ∃ x r, pyD t.2 = .tuple (x :: r)
        generalize pyD t.2 = q at h5
        cases ht2 : t.2 with
        | tup l =>
          rw [ht2] at h4 h5
          cases l with
          | nil => cases h4
          | cons x l =>
            simp only [toPy, toPys] at h5
            cases q1 : toPy x with
            | none => rw [q1] at h5; cases h5
            | some px =>
              rw [q1] at h5
              cases q2 : toPys l with
              | none => rw [q2] at h5; cases h5
              | some pl =>
                rw [q2] at h5
                cases h5
                exact ⟨_, _, rfl⟩
        | _ => rw [ht2] at h4; cases h4
      · refine .inr fun d hd => ?_
        obtain ⟨t, ht, rfl⟩ := List.mem_map.mp hd
        have h4 := hs2 t.2 (List.mem_map_of_mem ht)
        have h5 := (py t ht).1
        show pyD t.2 ≠ .none ∧ ∀ xs, pyD t.2 ≠ .tuple xs
        generalize pyD t.2 = q at h5
        cases ht2 : t.2 with
        | tup l => rw [ht2] at h4; cases h4
        | non => rw [ht2] at h4; cases h4
        | bl b => rw [ht2] at h5; cases h5; exact ⟨by simp, by simp⟩
        | int b => rw [ht2] at h5; cases h5; exact ⟨by simp, by simp⟩
        | str b => rw [ht2] at h5; cases h5; exact ⟨by simp, by simp⟩
        | lst l => rw [ht2] at h5; simp only [toPy, Option.map_eq_some_iff] at h5; obtain ⟨ps, _, rfl⟩ := h5; exact ⟨by simp, by simp⟩
        | ice l => rw [ht2] at h5; simp only [toPy, Option.map_eq_some_iff] at h5; obtain ⟨ps, _, rfl⟩ := h5; exact ⟨by simp, by simp⟩
        | scr l => rw [ht2] at h5; simp [toPy] at h5
        | dic l => rw [ht2] at h5; simp [toPy] at h5
        | ins c l => rw [ht2] at h5; simp [toPy] at h5
        | obj c l => rw [ht2] at h5; simp [toPy] at h5
    · have hh : ∀ a ∈ ts, ∀ b ∈ ts, (!PySem.W.dataLt (pyD b.2) (pyD a.2)) = PySem.W.dataLe false (fun b : V × PyData => b.2) (a.1, pyD a.2) (b.1, pyD b.2) := fun a _ b _ => rfl
      have e1 := PySem.W.sort_maps (fun t : V × D => (t.1, pyD t.2)) hh
      have e2 := PySem.W.sort_maps (r := fun a b : V × D => !PySem.W.dataLt (pyD b.2) (pyD a.2)) (s := leD) (fun t : V × D => t.2) (l := ts) fun a _ b _ => rfl
      have e3 : ((ts.map fun t => (t.1, pyD t.2)).mergeSort (PySem.W.dataLe false fun b : V × PyData => b.2)).map (fun b => b.1) = (ts.mergeSort fun a b : V × D => !PySem.W.dataLt (pyD b.2) (pyD a.2)).map (fun t => t.1) := by
        rw [← e1, List.map_map]; rfl
      rw [e3]
      refine k _ _ [p] ?_
      unfold sortD
      rw [← e2]
      refine VP.newL hp (by rw [List.length_map, List.length_mergeSort]; simpa using hl) (zip_reps fun t ht => h3 t ?_)
      exact List.mem_mergeSort.mp ht
theorem x_sorted (q : Cq X S) (ha : XE X S W e m1 e1 ea) (hx : Gl X "sorted" := by rfl) (hs : starEach (e :: []) X.env = (false, eval e X.env) :: starEach [] X.env := by rfl) (hpl : (backTo pos (starEach [] X.env)).any (·.1) = false := by rfl) : XE X S W (.Call (.Name "sorted" p) [e] [] pos) .fr e1 (eA1 dSorted ea) :=
  xe_callB (cr_sortA q.u64) (opn_sorted q.K) (xa_one ha hs) hx (q.fb _ (by decide)) (by decide +kernel) (by decide) (by decide) hs hpl
end
end EL

/-! a, b = a new tuple of new things -/
namespace EL
open PySem PySem.Spec PyProof.Rows
open L2 hiding XE
section
variable {X : Cx} {S : Sig} {C : Core} {B : Base} {W : WX} {R : Addr → Prop} {σ : L2.St} {ρ ρ1 ρ' : Env} {Fs Fs1 Fs' : Nat → List Addr} {H H1 H' : Hp} {F G : List Addr} {m m1 m2 rm : Md} {e1 e2 : Bool} {pos p : Pos} {d : D} {v : V} {a b e : Expr} {ea eb : M D}
def gsN : List Nat → TGs
  | [] => gNil
  | i :: is => gCons (gName i) (gsN is)
structure XNs (X : Cx) (es : List Expr) (is : List Nat) : Prop where
  ex : PGs X es (gsN is)
theorem xns_nil : XNs X [] [] := ⟨pgs_nil⟩
theorem xns_cons (i : Nat) {x : Str} {es : List Expr} {is : List Nat} (hN : X.N.Nodup) (h : XNs X es is) (hi : X.N[i]? = some x := by rfl) (hx : Loc X.env.scope x := by first | exact Or.inl rfl | exact Or.inr rfl) (hf : X.fn x = true ∨ X.env.scope.names.lookup x = some .local := by first | exact .inl rfl | exact .inr rfl)
    (hs : (assignEach (.Name x p :: es) X.env).map (·.2) = assign (.Name x p) X.env :: (assignEach es X.env).map (·.2) := by rfl) : XNs X (.Name x p :: es) (i :: is) := ⟨pgs_cons (pg_name hN hi hx hf) h.ex hs⟩
/-- the slots is, one by one: own ones take new things, plain ones plain things -/
def unpN : List (Nat × Bool) → List D → Env → Option Env
  | [], [], ρ => some ρ
  | (i, o) :: is, d :: ds, ρ => if o || pureD d then unpN is ds (ρ.set i (some d)) else none
  | _, _, _ => none
def unpKd (S : Sig) : List (Nat × Bool) → Bool
  | [] => true
  | (i, o) :: is => (match S.kd i with | .own => o | .pl => !o | _ => false) && unpKd S is
theorem unpN_len : ∀ {is : List (Nat × Bool)} {ds : List D} {ρ ρ' : Env}, unpN is ds ρ = some ρ' → ds.length = is.length
  | [], [], _, _, _ => rfl
  | [], _ :: _, _, _, h => by cases h
  | _ :: _, [], _, _, h => by cases h
  | (i, o) :: is, d :: ds, ρ, ρ', h => by
    unfold unpN at h
    split at h
    · simp [unpN_len h]
    · cases h
theorem unp_run : ∀ {is : List (Nat × Bool)} {ds : List D} {vs : List V} {F : List Addr} {ρ ρ' : Env} {σ : L2.St} {Fs : Nat → List Addr} {Q : L2.St → Hp → Prop}, EnvR S B ρ σ Fs H → Reps S.c B.R H ds vs F → unpKd S is = true → unpN is ds ρ = some ρ' → F.Nodup → (∀ a ∈ F, ¬ B.P0 a) → (∀ j, Own S ρ j → ∀ a ∈ F, a ∉ Fs j) →
    (∀ σ' Fs', EnvR S B ρ' σ' Fs' H → Q σ' H) → gsN (is.map (·.1)) vs σ H Q
  | [], [], vs, F, ρ, ρ', σ, Fs, Q, I, r, hk, h, n1, n2, n3, q => by
    cases h; cases r
    exact ⟨rfl, q σ Fs I⟩
  | [], _ :: _, _, _, _, _, _, _, _, _, _, _, h, _, _, _, _ => by cases h
  | _ :: _, [], _, _, _, _, _, _, _, _, _, _, h, _, _, _, _ => by cases h
  | (i, o) :: is, d :: ds, vs, F, ρ, ρ', σ, Fs, Q, I, r, hk, h, n1, n2, n3, q => by
    obtain ⟨x, ys, F1, F2, rfl, r1, r2, rfl⟩ := r.cons_inv
    unfold unpN at h
    unfold unpKd at hk
    simp only [Bool.and_eq_true] at hk
    split at h
    case isFalse => cases h
    rename_i hc
    have nd := List.nodup_append.mp n1
    refine ⟨x, ys, rfl, ?_⟩
    have pf : PutF S B i ρ Fs F1 := by
      cases q2 : S.kd i with
      | pl =>
        rw [q2] at hk
        refine .inl ⟨q2, r1.pure ?_⟩
        have h3 : (!o) = true := hk.1
        simp only [Bool.not_eq_true'] at h3
        subst h3
        simpa using hc
      | own => exact .inr ⟨q2, nd.1, fun a ha => n2 a (by simp [ha]), fun j oj a ha => n3 j oj a (by simp [ha])⟩
      | par => rw [q2] at hk; cases hk.1
      | io => rw [q2] at hk; cases hk.1
      | bw => rw [q2] at hk; cases hk.1
    refine unp_run (pf.put I r1) r2 hk.2 h nd.2.1 (fun a ha => n2 a (by simp [ha])) (fun j oj a ha => ?_) q
    by_cases hj : j = i
    · subst hj
      simp only [if_pos]
      exact fun z => nd.2.2 a z a ha rfl
    · simp only [if_neg hj]
      obtain ⟨d', q'⟩ := oj.2
      rw [List.getElem?_set_ne (Ne.symm hj)] at q'
      exact n3 j ⟨oj.1, d', q'⟩ a (by simp [ha])
def sUnpF (is : List (Nat × Bool)) (a : M D) : Ms := fun ρ => bindS (a ρ) fun d ρ => match d with
  | .tup ds => (match unpN is ds ρ with | some ρ' => .nx ρ' | none => .st)
  | _ => .st
theorem xs_unpF (is : List (Nat × Bool)) {es : List Expr} {k : Nat} (q : Cq X S) (ha : XE X S W e m e1 ea) (hb : XNs X es (is.map (·.1))) (hm : m.le .fr = true := by rfl) (hk : unpKd S is = true := by rfl) (hn : (assignEach es X.env).length = is.length := by rfl) (hst : (assignEach es X.env).findIdx? (·.1) = none := by rfl)
    (h1 : swapsWithSole [.Tuple es k p] e pos.line X.env = Pure.pure false := by rfl) (h2 : swappedStores [.Tuple es k p] e X.env = Pure.pure none := by rfl)
    (h3 : (assignEach [.Tuple es k p] X.env).map (·.2) = [assign (.Tuple es k p) X.env] := by rfl) : XS X S W rm (.Assign [.Tuple es k p] e pos) (sUnpF is ea) := by
  obtain ⟨ta, pa, ra⟩ := ha.ex
  refine ⟨_, ps_asg pa (pg_tup q.calm hb.ex hn hst) h1 h2 h3, fun B ρ σ Fs H E I h => ra B ρ σ Fs H _ I (h.bind.imp fun d ρ1 _ g1 v H1 Fs1 F p1 => ?_)⟩
  split at g1
  case h_2 => exact g1.elim
  rename_i ds
  split at g1
  case h_2 => exact g1.elim
  rename_i ρ2 hb'
  have fr : MdOk S B .fr ρ Fs H ρ1 Fs1 F := p1.md.le hm
  obtain ⟨a, vs, rfl, hs, hl', rr⟩ := p1.rep.tup_inv
  refine ⟨a, vs, rfl, by rw [q.K]; exact hs, by rw [← rr.length]; exact unpN_len hb', unp_run p1.env rr hk hb' fr.1 (fun a ha => ?_) fr.2.2 fun σ' Fs' J => g1 σ' Fs' H1 J⟩
  rcases fr.2.1 a ha with n | ⟨j, oj, mj⟩
  · exact I.fresh n
  · exact (I.own j oj).2 a mj
end
end EL

/-! short rules: x[k].append(e), isinstance(x, (S, T)), a, b, c = x, y, z -/
namespace EL
open PySem PySem.Spec PyProof.Rows
open L2 hiding XE
section
variable {X : Cx} {S : Sig} {C : Core} {B : Base} {W : WX} {m m1 m2 rm : Md} {e1 e2 : Bool} {pos p : Pos} {a b c e : Expr} {ea eb : M D}
theorem x_papp (q : Cq X S) (s : Nat) {o : Expr} {apos : Pos} {pe : M (List PK)} (ho : XPl X S W o s pe) (ha : XE X S W e m1 false ea) (z : m1.le .fr = true := by rfl) (hk : hasS S s = true := by rfl)
    (hbase : attributeBase o "append" X.env (eval o X.env) = eval o X.env := by rfl)
    (hfew : ((backTo pos (starEach (e :: []) X.env)).all (fun x => !x.1) && (backToKw pos (keywordEach [] X.env)).all (fun x => x.1.isSome) && decide ((e :: []).length + ([] : List Keyword).length + (if ([] : List Keyword).isEmpty then 0 else 1) < 30)) = true := by rfl)
    (hline : (apos.endLine == pos.line) = true := by rfl) (hs : starEach (e :: []) X.env = (false, eval e X.env) :: starEach [] X.env := by rfl) (hplain : (backTo pos (starEach [] X.env)).any (·.1) = false := by rfl) :
    XE X S W (.Call (.Attribute o "append" apos) [e] [] pos) .fr true (ePMt "list" s dApp pe (eaCons ea eaNil)) :=
  xe_pmt s PySem.F.plainAttrs_list PySem.F.slot_list_append PySem.F.type_list_append mt_append opu_app ho (xa_one ha hs) rfl (by simpa using z) hk hbase hfew hline hs hplain
theorem x_pext (q : Cq X S) (s : Nat) {o : Expr} {apos : Pos} {pe : M (List PK)} (ho : XPl X S W o s pe) (ha : XE X S W e m1 false ea) (hk : hasS S s = true := by rfl)
    (hbase : attributeBase o "extend" X.env (eval o X.env) = eval o X.env := by rfl)
    (hfew : ((backTo pos (starEach (e :: []) X.env)).all (fun x => !x.1) && (backToKw pos (keywordEach [] X.env)).all (fun x => x.1.isSome) && decide ((e :: []).length + ([] : List Keyword).length + (if ([] : List Keyword).isEmpty then 0 else 1) < 30)) = true := by rfl)
    (hline : (apos.endLine == pos.line) = true := by rfl) (hs : starEach (e :: []) X.env = (false, eval e X.env) :: starEach [] X.env := by rfl) (hplain : (backTo pos (starEach [] X.env)).any (·.1) = false := by rfl) :
    XE X S W (.Call (.Attribute o "extend" apos) [e] [] pos) .fr true (ePMt "list" s dExt pe (eaCons ea eaNil)) :=
  xe_pmt s PySem.F.plainAttrs_list PySem.F.slot_list_extend PySem.F.type_list_extend mt_extend opu_ext ho (xa_one ha hs) rfl rfl hk hbase hfew hline hs hplain
theorem x_isi2 (q : Cq X S) (tn un : Str) {p2 p3 p4 : Pos} {kk : Nat} (T U : String) (ha : XE X S W e m1 e1 ea) (hb : tn ∈ bltL := by decide) (hc : un ∈ bltL := by decide) (hvt : bootBuiltins tn = some (.type T) := by decide +kernel) (hvu : bootBuiltins un = some (.type U) := by decide +kernel) (hT : tyOkN T = true := by decide) (hU : tyOkN U = true := by decide)
    (hn2 : tn ≠ "__name__" := by decide) (hdb2 : (tn == ("__debug__" : Str)) = false := by decide) (hn3 : un ≠ "__name__" := by decide) (hdb3 : (un == ("__debug__" : Str)) = false := by decide) (hx : Gl X "isinstance" := by rfl) (ht : Gl X tn := by rfl) (hu : Gl X un := by rfl)
    (he : starEach [e, .Tuple [.Name tn p2, .Name un p3] kk p4] X.env = (false, eval e X.env) :: starEach [.Tuple [.Name tn p2, .Name un p3] kk p4] X.env := by rfl) (he2 : starEach [.Tuple [.Name tn p2, .Name un p3] kk p4] X.env = (false, eval (.Tuple [.Name tn p2, .Name un p3] kk p4) X.env) :: starEach [] X.env := by rfl)
    (he3 : starEach [.Name tn p2, .Name un p3] X.env = (false, eval (.Name tn p2) X.env) :: starEach [.Name un p3] X.env := by rfl) (he4 : starEach [.Name un p3] X.env = (false, eval (.Name un p3) X.env) :: starEach [] X.env := by rfl) (hpl : (backTo pos (starEach [.Tuple [.Name tn p2, .Name un p3] kk p4] X.env)).any (·.1) = false := by rfl) :
    XE X S W (.Call (.Name "isinstance" p) [e, .Tuple [.Name tn p2, .Name un p3] kk p4] [] pos) .pu e1 (eUn (dIsi2 [T, U]) ea) :=
  xe_isi2 q.K ha hx (q.fb _ (by decide)) (by decide +kernel) ht (q.fb _ hb) hvt hu (q.fb _ hc) hvu hT hU (by decide) (by decide) hn2 hdb2 hn3 hdb3 he he2 he3 he4 hpl
def sParN (is : List (Nat × Bool)) (a : M (List D)) : Ms := fun ρ => bindS (a ρ) fun ds ρ => match unpN is ds ρ with | some ρ' => .nx ρ' | none => .st
theorem xs_par3 (i j l : Nat) (oi oj ol : Bool) {x y z : Str} {px py pz pt pt2 : Pos} {kt k2 : Nat} {eas : M (List D)} (q : Cq X S) (ha : XA X S W [a, b, c] m e1 eas) (hm : m.le .fr = true := by rfl) (hk : unpKd S [(i, oi), (j, oj), (l, ol)] = true := by rfl) (hi : X.N[i]? = some x := by rfl) (hj : X.N[j]? = some y := by rfl) (hl : X.N[l]? = some z := by rfl) (hij : i ≠ j := by decide) (hil : i ≠ l := by decide) (hjl : j ≠ l := by decide)
    (hx : X.env.scope.names.lookup x = some .local := by rfl) (hy : X.env.scope.names.lookup y = some .local := by rfl) (hz : X.env.scope.names.lookup z = some .local := by rfl)
    (hw : swappedStores [.Tuple [.Name x px, .Name y py, .Name z pz] kt pt] (.Tuple [a, b, c] k2 pt2) X.env = Pure.pure (some [x, y, z]) := by rfl)
    (hs : swapsWithSole [.Tuple [.Name x px, .Name y py, .Name z pz] kt pt] (.Tuple [a, b, c] k2 pt2) pos.line X.env = Pure.pure false := by rfl) : XS X S W rm (.Assign [.Tuple [.Name x px, .Name y py, .Name z pz] kt pt] (.Tuple [a, b, c] k2 pt2) pos) (sParN [(i, oi), (j, oj), (l, ol)] eas) := by
  obtain ⟨ta, pa, ra⟩ := ha.ex
  refine ⟨_, ps_par3 q.calm q.nd hi hj hl hij hil hjl hx hy hz pa hw hs, fun B ρ σ Fs H E I h => ra B ρ σ Fs H _ I (h.bind.imp fun ds ρ1 _ g1 vs H1 Fs1 F p1 => ?_)⟩
  split at g1
  case h_2 => exact g1.elim
  rename_i ρ2 hb'
  have fr : MdOk S B .fr ρ Fs H ρ1 Fs1 F := p1.md.le hm
  have h := unp_run (Q := E.nx) p1.env p1.rep hk hb' fr.1 (fun a ha => by
    rcases fr.2.1 a ha with n | ⟨j, oj, mj⟩
    · exact I.fresh n
    · exact (I.own j oj).2 a mj) fr.2.2 fun σ' Fs' J => g1 σ' Fs' H1 J
  obtain ⟨u, r1, rfl, v, r2, rfl, w, r3, rfl, rfl, hq⟩ := h
  exact ⟨u, v, w, rfl, hq⟩
end
end EL

/-! rules by simp for instances, dicts by whole numbers, while -/
namespace EL
open PySem PySem.Spec PyProof.Rows
open L2 hiding XE
section
variable {ρ : Env} {d y : D} {ds es : List D} {ea : M D} {eas : M (List D)} {c : String} {f g : Str} {fs : List (Str × D)} {kvs : List (Key × D)}
/-! ### fields -/
@[simp] theorem z_fld_ins : dFld c f (.ins c fs) = fldD f fs := if_pos rfl
@[simp] theorem z_fld_obj : dFld c f (.obj c fs) = fldD f fs := if_pos rfl
theorem fldD_cons : fldD f ((g, d) :: fs) = if f = g then (if pureD d then some d else none) else fldD f fs := by
  unfold fldD
  rw [List.lookup_cons]
  by_cases h : f = g
  · rw [if_pos h, beq_iff_eq.mpr h]; rfl
  · rw [if_neg h, beq_eq_false_iff_ne.mpr h]
@[simp] theorem z_fldD {a b : String} : fldD (Str.ofString a) ((Str.ofString b, d) :: fs) = if a = b then (if pureD d then some d else none) else fldD (Str.ofString a) fs := by
  rw [fldD_cons]
  by_cases h : a = b
  · rw [if_pos h, if_pos (by rw [h])]
  · rw [if_neg h, if_neg fun e => h (ofStr_inj e)]
@[simp] theorem z_sto {s : Nat} : sSto s c f ea ρ = bindS (ea ρ) fun y ρ => match ρ[s]? with
  | some (some d0) => liftS (dSto c f d0 y) fun o => .nx (ρ.set s (some o))
  | _ => .st := (rfl)
@[simp] theorem z_dSto : dSto c f (.obj c fs) y = if fs.length < 1000 then some (.obj c (putFD f y fs)) else none := by
  simp [dSto]
@[simp] theorem z_putFD_nil : putFD f y [] = [(f, y)] := (rfl)
@[simp] theorem z_putFD {a b : String} {v : D} : putFD (Str.ofString a) v ((Str.ofString b, d) :: fs) = if a = b then (Str.ofString b, v) :: fs else (Str.ofString b, d) :: putFD (Str.ofString a) v fs := by
  show (if Str.ofString b = Str.ofString a then _ else _) = _
  by_cases h : a = b
  · rw [if_pos h, if_pos (by rw [h])]
  · rw [if_neg h, if_neg fun e => h (ofStr_inj e).symm]
@[simp] theorem z_madeR : madeR c (.ok .non (.obj c fs)) ρ = if pureFs fs = true then .ok (.ins c fs) ρ else .st := by
  unfold madeR
  simp
@[simp] theorem z_eMake {F : List D → Fr} : eMake c F eas ρ = bindR (eas ρ) fun ds ρ => madeR c (F (.obj c [] :: ds)) ρ := (rfl)
@[simp] theorem z_pu_ins : pureD (.ins c fs) = pureFs fs := (rfl)
@[simp] theorem z_pf_nil : pureFs [] = true := (rfl)
@[simp] theorem z_pf_cons : pureFs ((f, d) :: fs) = (pureD d && pureFs fs) := (rfl)
/-! ### small ones -/
@[simp] theorem z_dic0 : eDic0 ρ = .ok (.dic []) ρ := (rfl)
def upK (r : Option Env) : So := match r with | some ρ' => .nx ρ' | none => .st
@[simp] theorem z_upK : upK (some ρ) = .nx ρ := (rfl)
def kUnF (is : List (Nat × Bool)) (d : D) (ρ : Env) : So := match d with | .tup ds => upK (unpN is ds ρ) | _ => .st
@[simp] theorem z_kUnF {is : List (Nat × Bool)} : kUnF is (.tup ds) ρ = upK (unpN is ds ρ) := (rfl)
@[simp] theorem z_unpF {is : List (Nat × Bool)} : sUnpF is ea ρ = bindS (ea ρ) (kUnF is) := by
  unfold sUnpF kUnF upK
  congr 1
@[simp] theorem z_parN {is : List (Nat × Bool)} : sParN is eas ρ = bindS (eas ρ) fun ds ρ => upK (unpN is ds ρ) := (rfl)
@[simp] theorem z_unpN_nil : unpN [] [] ρ = some ρ := (rfl)
@[simp] theorem z_unpN_t {i : Nat} {is : List (Nat × Bool)} : unpN ((i, true) :: is) (d :: ds) ρ = unpN is ds (ρ.set i (some d)) := (rfl)
@[simp] theorem z_unpN_f {i : Nat} {is : List (Nat × Bool)} : unpN ((i, false) :: is) (d :: ds) ρ = if pureD d then unpN is ds (ρ.set i (some d)) else none := (rfl)
@[simp] theorem z_max2 {i j : Int} : dMax2 [.int i, .int j] = some (.int (if j > i then j else i)) := (rfl)
@[simp] theorem z_min2 {i j : Int} : dMin2 [.int i, .int j] = some (.int (if j < i then j else i)) := (rfl)
/-! ### dicts whose keys are numbers -/
def natD (xs : List Nat) (F : Nat → D) : D := .dic (xs.map fun t : Nat => (Sum.inl (t : Int), F t))
def setN {α : Type} (F : Nat → α) (t : Nat) (v : α) : Nat → α := fun u => if u = t then v else F u
theorem natD_nil {F : Nat → D} : natD [] F = .dic [] := rfl
theorem natD_congr {xs : List Nat} {F G : Nat → D} (h : ∀ t ∈ xs, F t = G t) : natD xs F = natD xs G := by
  unfold natD
  congr 1
  exact List.map_congr_left fun t ht => by rw [h t ht]
theorem val_nat {t : Nat} {F : Nat → D} : ∀ {xs : List Nat}, valD (xs.map fun t : Nat => (Sum.inl (t : Int), F t)) (Sum.inl (t : Int)) = if t ∈ xs then some (F t) else none
  | [] => by simp [valD]
  | x :: xs => by
    have ih := val_nat (t := t) (F := F) (xs := xs)
    by_cases e : x = t
    · subst e; simp [valD]
    · have e' : ¬ ((x : Int) = (t : Int)) := by omega
      have h1 : valD ((x :: xs).map fun t : Nat => (Sum.inl (t : Int), F t)) (Sum.inl (t : Int)) = valD (xs.map fun t : Nat => (Sum.inl (t : Int), F t)) (Sum.inl (t : Int)) := by
        simp [valD, List.find?_cons, e']
      rw [h1, ih]
      simp [Ne.symm e]
theorem any_nat {t : Nat} {F : Nat → D} {xs : List Nat} : ((xs.map fun t : Nat => ((Sum.inl (t : Int) : Key), F t)).any fun kv => decide (kv.1 = Sum.inl (t : Int))) = decide (t ∈ xs) := by
  rw [Bool.eq_iff_iff]
  simp only [List.any_map, List.any_eq_true, Function.comp, decide_eq_true_eq, Sum.inl.injEq]
  constructor
  · rintro ⟨x, hx, e⟩
    have : x = t := by omega
    exact this ▸ hx
  · intro h
    exact ⟨t, h, rfl⟩
theorem ix_natD {xs : List Nat} {F : Nat → D} {t : Nat} (h : t ∈ xs) : dIx (natD xs F) (.int (t : Int)) = some (F t) := by
  show (keyD (.int (t : Int))).bind (valD _) = _
  show valD _ (Sum.inl (t : Int)) = _
  rw [val_nat, if_pos h]
theorem in_natD {xs : List Nat} {F : Nat → D} {t : Nat} : dInK (.int (t : Int)) (natD xs F) = some (.bl (decide (t ∈ xs))) := by
  show ((keyD (.int (t : Int))).map fun q => D.bl (valD _ q).isSome) = _
  show some (D.bl (valD _ (Sum.inl (t : Int))).isSome) = _
  rw [val_nat]
  by_cases h : t ∈ xs <;> simp [h]
theorem ni_natD {xs : List Nat} {F : Nat → D} {t : Nat} : dNiK (.int (t : Int)) (natD xs F) = some (.bl (!decide (t ∈ xs))) := by
  show ((keyD (.int (t : Int))).map fun q => D.bl (!(valD _ q).isSome)) = _
  show some (D.bl (!(valD _ (Sum.inl (t : Int))).isSome)) = _
  rw [val_nat]
  by_cases h : t ∈ xs <;> simp [h]
theorem get_natD {xs : List Nat} {F : Nat → D} {t : Nat} : valD (xs.map fun t : Nat => (Sum.inl (t : Int), F t)) (Sum.inl (t : Int)) = if t ∈ xs then some (F t) else none := val_nat
theorem keys_natD {xs : List Nat} {F : Nat → D} : dKeys [natD xs F] = some (.lst (xs.map fun t : Nat => .int (t : Int))) := by
  unfold dKeys natD
  simp only [List.map_map]
  rfl
theorem put_natD_in {xs : List Nat} {F : Nat → D} {t : Nat} {y : D} (hl : xs.length < sizeLine) (h : t ∈ xs) : dPut (natD xs F) (.int (t : Int)) y = some (natD xs (setN F t y)) := by
  show ((keyD (.int (t : Int))).bind fun q => if (xs.map fun t : Nat => ((Sum.inl (t : Int) : Key), F t)).length < sizeLine then some (D.dic (putD _ q y)) else none) = _
  show (if _ then some (D.dic (putD _ (Sum.inl (t : Int)) y)) else none) = _
  rw [if_pos (by simpa using hl)]
  unfold putD natD
  rw [any_nat, decide_eq_true h, if_pos rfl, List.map_map]
  congr 2
  refine List.map_congr_left fun u _ => ?_
  simp only [Function.comp, setN, Sum.inl.injEq]
  by_cases e : u = t
  · subst e; simp
  · have : ¬ ((u : Int) = (t : Int)) := by omega
    simp [e, this]
theorem put_natD_new {xs : List Nat} {F : Nat → D} {t : Nat} {y : D} (hl : xs.length < sizeLine) (h : t ∉ xs) : dPut (natD xs F) (.int (t : Int)) y = some (natD (xs ++ [t]) (setN F t y)) := by
  show ((keyD (.int (t : Int))).bind fun q => if (xs.map fun t : Nat => ((Sum.inl (t : Int) : Key), F t)).length < sizeLine then some (D.dic (putD _ q y)) else none) = _
  show (if _ then some (D.dic (putD _ (Sum.inl (t : Int)) y)) else none) = _
  rw [if_pos (by simpa using hl)]
  unfold putD natD
  rw [any_nat, decide_eq_false h]
  simp only [Bool.false_eq_true, if_false, List.map_append, List.map_cons, List.map_nil]
  congr 3
  · refine List.map_congr_left fun u hu => ?_
    have : u ≠ t := fun e => h (e ▸ hu)
    simp [setN, this]
  · simp [setN]
/-- {t: F t for t in xs if ..}: the tests, the keys, the values by t -/
theorem dc_nat {bd : D → Env → Option Env} {tt : M Bool} {kk ee : M D} {F : Nat → D} (p : Nat → Bool) : ∀ {xs ys : List Nat}, (∀ t ∈ xs, ∃ ρ1, bd (.int (t : Int)) ρ = some ρ1 ∧ (∃ ρ2, tt ρ1 = .ok (p t) ρ2) ∧ (p t = true → (∃ ρ3, kk ρ1 = .ok (.int (t : Int)) ρ3) ∧ ∃ ρ4, ee ρ1 = .ok (F t) ρ4)) →
    (ys ++ xs).Nodup → (ys ++ xs).length ≤ sizeLine → dcLoop bd tt kk ee (xs.map fun t : Nat => .int (t : Int)) ρ (ys.map fun t : Nat => (Sum.inl (t : Int), F t)) = some ((ys ++ xs.filter p).map fun t : Nat => (Sum.inl (t : Int), F t))
  | [], ys, _, _, _ => by simp [dcLoop]
  | x :: xs, ys, h, nd, hl => by
    obtain ⟨ρ1, h1, ⟨ρ2, h2⟩, h3⟩ := h x (by simp)
    have nx : x ∉ ys := fun z => (List.nodup_append.mp nd).2.2 x z x (by simp) rfl
    simp only [List.length_append, List.length_cons] at hl
    show (match bd (.int (x : Int)) ρ with | none => none | some ρ1 => _) = _
    rw [h1]
    simp only
    rw [h2]
    cases hp : p x with
    | false =>
      simp only
      rw [List.filter_cons_of_neg (by simp [hp])]
      refine dc_nat p (fun t ht => h t (by simp [ht])) ?_ (by simp; omega)
      have a := List.nodup_append.mp nd
      exact List.nodup_append.mpr ⟨a.1, (List.nodup_cons.mp a.2.1).2, fun u hu v hv => a.2.2 u hu v (by simp [hv])⟩
    | true =>
      obtain ⟨⟨ρ3, h4⟩, ρ4, h5⟩ := h3 hp
      simp only
      rw [h4]
      simp only
      rw [h5]
      simp only
      have e1 : dcPut (ys.map fun t : Nat => (Sum.inl (t : Int), F t)) (.int (x : Int)) (F x) = some ((ys ++ [x]).map fun t : Nat => (Sum.inl (t : Int), F t)) := by
        show ((keyD (.int (x : Int))).bind _) = _
        show (if _ then some (putD _ (Sum.inl (x : Int)) _) else none) = _
        rw [if_pos ⟨by simp; omega, .inl (by rw [any_nat]; simpa using nx)⟩]
        unfold putD
        rw [any_nat, decide_eq_false nx]
        simp
      rw [e1]
      simp only
      rw [List.filter_cons_of_pos hp]
      have := dc_nat p (F := F) (xs := xs) (ys := ys ++ [x]) (fun t ht => h t (by simp [ht])) (by simpa using nd) (by simp; omega)
      rw [this]
      simp
def kDc (vs : List Nat) (bd : D → Env → Option Env) (tt : M Bool) (kk ee : M D) : List D → Env → Rs D := fun ds ρ1 => match dcLoop bd tt kk ee ds (wipeE ρ1 vs) [] with | some kvs => .ok (.dic kvs) ρ1 | none => .st
@[simp] theorem z_eDc {vs : List Nat} {it : M (List D)} {bd : D → Env → Option Env} {tt : M Bool} {kk ee : M D} : eDc vs it bd tt kk ee ρ = bindR (it ρ) (kDc vs bd tt kk ee) := (rfl)
theorem kDc_nat {vs : List Nat} {bd : D → Env → Option Env} {tt : M Bool} {kk ee : M D} {F : Nat → D} {xs : List Nat} (nd : xs.Nodup) (hl : xs.length ≤ sizeLine) (h : ∀ t ∈ xs, ∃ ρ1, bd (.int (t : Int)) (wipeE ρ vs) = some ρ1 ∧ (∃ ρ2, tt ρ1 = .ok true ρ2) ∧ (∃ ρ3, kk ρ1 = .ok (.int (t : Int)) ρ3) ∧ ∃ ρ4, ee ρ1 = .ok (F t) ρ4) :
    kDc vs bd tt kk ee (xs.map fun t : Nat => .int (t : Int)) ρ = .ok (natD xs F) ρ := by
  have := dc_nat (bd := bd) (tt := tt) (kk := kk) (ee := ee) (F := F) (ρ := wipeE ρ vs) (fun _ => true) (xs := xs) (ys := []) (fun t ht => by
    obtain ⟨ρ1, a, b, c, d⟩ := h t ht
    exact ⟨ρ1, a, b, fun _ => ⟨c, d⟩⟩) (by simpa using nd) (by simpa using hl)
  unfold kDc
  rw [show (([] : List Nat).map fun t : Nat => ((Sum.inl (t : Int) : Key), F t)) = [] from rfl] at this
  rw [this]
  simp only [List.nil_append]
  rw [List.filter_eq_self.mpr fun _ _ => rfl]
  rfl
/-! ### x[t].append(e) -/
theorem pmt_nat {s : Nat} {ek : M D} {xs : List Nat} {F : Nat → D} {t : Nat} {g : D → List D → Option (D × D)} {ρ1 : Env} {es : List D} {res o : D} (h0 : ρ[s]? = some (some (natD xs F))) (hk : ek ρ = .ok (.int (t : Int)) ρ1) (ht : t ∈ xs) (hF : F t = .lst ds) (ha : eas ρ = .ok es ρ) (hg : g (.lst ds) es = some (res, o)) (nd : xs.Nodup) :
    ePMt "list" s g (plIx s plV ek) eas ρ = .ok res (ρ.set s (some (natD xs (setN F t o)))) := by
  have i1 : inP (.key (.int (t : Int))) (natD xs F) = some (.lst ds) := by
    show (keyD (.int (t : Int))).bind (valD _) = _
    show valD _ (Sum.inl (t : Int)) = _
    rw [val_nat, if_pos ht, hF]
  have a0 : atP s [] ρ = some (natD xs F) := by unfold atP; rw [h0]; rfl
  have a1 : atP s [.key (.int (t : Int))] ρ = some (.lst ds) := by
    unfold atP; rw [h0]
    show (inP _ _).bind _ = _
    rw [i1]; rfl
  have e1 : plIx s plV ek ρ = .ok [.key (.int (t : Int))] ρ := by
    unfold plIx plV
    show (match atP s [] ρ with | some d => _ | none => _) = _
    rw [a0]
    simp only
    rw [hk]
    show (match inP _ _ with | some _ => _ | none => _) = _
    rw [i1]; rfl
  have rep : ∀ (ys : List Nat), ys.Nodup → repK (Sum.inl (t : Int)) o (ys.map fun t : Nat => (Sum.inl (t : Int), F t)) = ys.map fun u : Nat => (Sum.inl (u : Int), setN F t o u) := fun ys => by
    induction ys with
    | nil => intro _; rfl
    | cons y ys ih =>
      intro nd
      obtain ⟨n1, n2⟩ := List.nodup_cons.mp nd
      show (if (Sum.inl (y : Int) : Key) = Sum.inl (t : Int) then _ else _) = _
      by_cases e : y = t
      · subst e
        rw [if_pos rfl]
        simp only [List.map_cons, setN, if_pos]
        congr 1
        refine List.map_congr_left fun u hu => ?_
        have : u ≠ y := fun e => n1 (e ▸ hu)
        simp [this]
      · rw [if_neg (by simp; omega), ih n2]
        simp [setN, e]
  unfold ePMt
  rw [e1]
  show (match atP s [.key (.int (t : Int))] ρ with | some d => _ | none => _) = _
  rw [a1]
  simp only [tyM, if_pos, ha, bindR, hg, h0]
  have s1 : setP [.key (.int (t : Int))] (natD xs F) o = some (natD xs (setN F t o)) := by
    show (inP _ _).bind (fun d1 => (some o).bind fun z => outP _ _ z) = _
    rw [i1]
    show ((keyD (.int (t : Int))).map fun q => D.dic (repK q o _)) = _
    show some (D.dic (repK (Sum.inl (t : Int)) o _)) = _
    rw [rep xs nd]
    rfl
  rw [s1]
/-! ### while -/
def goW {α : Type} (cond : α → Bool) (next : α → α) : Nat → α → α
  | 0, s => s
  | k + 1, s => if cond s = true then goW cond next k (next s) else s
theorem while_go {α : Type} {c : M Bool} {body : Ms} (E : α → Env) (cond : α → Bool) (next : α → α) (I : α → Prop) (mu : α → Nat) (hc : ∀ s, I s → c (E s) = .ok (cond s) (E s)) (hb : ∀ s, I s → cond s = true → (body (E s) = .nx (E (next s)) ∨ body (E s) = .ct (E (next s))) ∧ I (next s) ∧ mu (next s) < mu s) :
    ∀ {k : Nat} {s : α}, I s → mu s ≤ k → sWhile c body (E s) = .nx (E (goW cond next k s)) ∧ I (goW cond next k s) ∧ cond (goW cond next k s) = false := by
  have key : ∀ {k : Nat} {s : α}, I s → mu s ≤ k → loopW c body (k + 1) (E s) = .nx (E (goW cond next k s)) ∧ I (goW cond next k s) ∧ cond (goW cond next k s) = false := by
    intro k
    induction k with
    | zero =>
      intro s hs hm
      have hf : cond s = false := by
        cases q : cond s with
        | false => rfl
        | true => have := (hb s hs q).2.2; omega
      unfold loopW goW
      rw [hc s hs, hf]
      refine ⟨rfl, hs, ?_⟩
      first | rfl | exact hf
    | succ k ih =>
      intro s hs hm
      unfold loopW goW
      rw [hc s hs]
      cases q : cond s with
      | false =>
        simp only [Bool.false_eq_true, if_false]
        exact ⟨rfl, hs, q⟩
      | true =>
        obtain ⟨h1, h2, h3⟩ := hb s hs q
        obtain ⟨i1, i2, i3⟩ := ih h2 (by omega)
        simp only [if_true, bindS]
        refine ⟨?_, i2, i3⟩
        rcases h1 with h1 | h1 <;> rw [h1] <;> exact i1
  intro k s hs hm
  obtain ⟨h1, h2, h3⟩ := key hs hm
  exact ⟨by rw [sWhile_eq (n := k + 1) (by rw [h1]; intro z; cases z), h1], h2, h3⟩
end
end EL

namespace PV
open PySem PySem.Spec PyProof.Rows EL
open L2 hiding XE
/-! _law_pen -/
def ev__law_pen  : Ms :=
  (sSeq (sSet 1 (eC (.int 0)))
  (sSeq (sFor [] (itSeq (eV 0)) (gSet 2) (sW [2] (sSet 1 (eBin dMod (eA1 dInt (eBin dAdd (eBin dMul (eV 1) (eC (.int 47))) (eV 2))) (eC (.int 1000000007))))))
  (sRet (eDisp (eaCons (eC (.str "cells")) (eaCons (eA1 dList (eV 0)) (eaCons (eC (.str "at")) (eaCons (eC (.int 0)) (eaCons (eC (.str "digits")) (eaCons (eC (.int 0)) (eaCons (eC (.str "count")) (eaCons (eC (.int 0)) (eaCons (eC (.str "fold")) (eaCons (eV 1) eaNil))))))))))))))
def rf__law_pen  : List D → Fr := runF 1 3 [] none (ev__law_pen )
/-! _law_draw -/
def ev__law_draw  : Ms :=
  (sSeq (sPut 0 (eC (.str "count")) (eBin dAdd (eBin dIx (eV 0) (eC (.str "count"))) (eC (.int 1))))
  (sSeq (sIf (ebAnd (ebV (eBin dEq (eBin dIx (eV 0) (eC (.str "digits"))) (eC (.int 0)))) (ebV (eBin (dLtI iLt) (eBin dIx (eV 0) (eC (.str "at"))) (eA1 dLen (eBin dIx (eV 0) (eC (.str "cells"))))))) (sSeq (sSet 2 (ePure (eBin dIx (eBin dIx (eV 0) (eC (.str "cells"))) (ePure (eBin dIx (eV 0) (eC (.str "at")))))))
  (sSeq (sPut 0 (eC (.str "at")) (eBin dAdd (eBin dIx (eV 0) (eC (.str "at"))) (eC (.int 1))))
  (sIf (ebV (eBin (dLtI iGe) (eV 2) (eBin dPow (eC (.int 10)) (eC (.int 18))))) (sPut 0 (eC (.str "digits")) (eBin dSub (eV 2) (eBin dPow (eC (.int 10)) (eC (.int 18))))) (sPut 0 (eC (.str "fold")) (eBin dMod (eA1 dInt (eBin dAdd (eBin dMul (eBin dIx (eV 0) (eC (.str "fold"))) (eC (.int 69069))) (eV 2))) (eC (.int 2147483587))))))) sNil)
  (sSeq (sIf (ebV (eBin (dLtI iGt) (eBin dIx (eV 0) (eC (.str "digits"))) (eC (.int 0)))) (sSeq (sSet 3 (eBin dMod (eA1 dInt (eBin dIx (eV 0) (eC (.str "digits")))) (eV 1)))
  (sSeq (sPut 0 (eC (.str "digits")) (eBin dFdiv (eBin dIx (eV 0) (eC (.str "digits"))) (eV 1)))
  (sRet (eV 3)))) sNil)
  (sSeq (sSet 4 (eBin dMod (eA1 dInt (eBin dAdd (eBin dAdd (eBin dMul (eBin dIx (eV 0) (eC (.str "fold"))) (eC (.int 48271))) (eBin dMul (eBin dIx (eV 0) (eC (.str "count"))) (eC (.int 7919)))) (eC (.int 13)))) (eC (.int 2147483647))))
  (sSeq (sSet 4 (eBin dMod (eA1 dInt (eBin dAdd (eBin dAdd (eBin dMul (eV 4) (eV 4)) (eBin dMul (eC (.int 31)) (eV 4))) (eBin dIx (eV 0) (eC (.str "count"))))) (eC (.int 2147483629))))
  (sSeq (sPut 0 (eC (.str "fold")) (eBin dMod (eA1 dInt (eBin dAdd (eBin dMul (eV 4) (eC (.int 16807))) (eC (.int 7)))) (eC (.int 2147483647))))
  (sRet (eBin dMod (eA1 dInt (eBin dFdiv (eV 4) (eC (.int 64)))) (eV 1)))))))))
def rf__law_draw  : List D → Fr := runF 2 5 [1] (some 0) (ev__law_draw )
/-! _law_pick -/
def ev__law_pick (F__law_draw : List D → Fr) : Ms :=
  (sRet (ePure (eBin dIx (eV 1) (eCallI F__law_draw 0 (eiHere 0 (eaCons (eA1 dLen (eV 1)) eaNil))))))
def rf__law_pick (F__law_draw : List D → Fr) : List D → Fr := runF 2 2 [] (some 0) (ev__law_pick F__law_draw)
/-! _law_is -/
def ev__law_is (F__law_is : List D → Fr) : Ms :=
  (sSeq (sIf (ebT (eUn (dIsi "tuple") (eV 1))) (sSeq (sIf (ebOr (ebNot (ebT (eUn (dIsi "tuple") (eV 0)))) (ebV (eBin dNe (eA1 dLen (eV 0)) (eA1 dLen (eV 1))))) (sRet (eC (.bl false))) sNil)
  (sRet (eBin dEq (eLc [2] (itR1 (eaCons (eA1 dLen (eV 1)) eaNil)) (gSet 2) (ebNot (ebT (eCall F__law_is (eaCons (eBin dIx (eV 0) (eV 2)) (eaCons (eBin dIx (eV 1) (eV 2)) eaNil))))) (eV 2)) (eLst eaNil)))) sNil)
  (sSeq (sIf (ebV (eBin dIsN (eV 1) (eC .non))) (sRet (eBin dIsN (eV 0) (eC .non))) sNil)
  (sSeq (sIf (ebV (eBin dIsB (eV 1) (eC (.bl true)))) (sRet (eBin dIsB (eV 0) (eC (.bl true)))) sNil)
  (sSeq (sIf (ebV (eBin dIsB (eV 1) (eC (.bl false)))) (sRet (eBin dIsB (eV 0) (eC (.bl false)))) sNil)
  (sSeq (sIf (ebT (eUn (dIsi "str") (eV 1))) (sRet (eAndV (eUn (dIsi "str") (eV 0)) (eBin dEq (eV 0) (eV 1)))) sNil)
  (sRet (eAndV (eUn (dIsi "int") (eV 0)) (eAndV (eNotV (eUn (dIsi "bool") (eV 0))) (eBin dEq (eV 0) (eV 1))))))))))
def rf__law_is (F__law_is : List D → Fr) : List D → Fr := runF 2 3 [] none (ev__law_is F__law_is)
/-! _law_landings -/
def ev__law_landings  : Ms :=
  (sSeq (sSet 1 (eLst eaNil))
  (sSeq (sFor [] (itR1 (eaCons (eV 0) eaNil)) (gSet 2) (sW [2] (sDrop (eMt "list" 1 dExt (eaCons (eLc [3] (itSeq (eLst (eaCons (eC (.str "down")) (eaCons (eC (.str "up")) eaNil)))) (gSet 3) (ebIf (ebV (eBin dEq (eV 3) (eC (.str "down")))) (ebV (eBin (dLtI iGt) (eV 2) (eC (.int 0)))) (ebV (eBin (dLtI iLt) (eV 2) (eBin dSub (eV 0) (eC (.int 1)))))) (eTup (eaCons (eV 2) (eaCons (eV 3) eaNil)))) eaNil)))))
  (sRet (eMv 1))))
def rf__law_landings  : List D → Fr := runF 1 4 [0] none (ev__law_landings )
end PV

namespace PV
open PySem PySem.Spec PyProof.Rows EL
open L2 hiding XE
/-! ### the pen -/
theorem at_lst (l : List Int) (f : Int) (h0 : 0 ≤ f) (h1 : f < l.length) : dIx (.lst (l.map .int)) (.int f) = some (.int (l.getD f.toNat 0)) := by
  have hl : f.toNat < l.length := by omega
  show atI (l.map D.int) f = _
  unfold atI ixN
  rw [List.length_map, if_pos h0, if_pos h1]
  simp [hl]
def penD (cs : List Int) (at_ dg ct fo : Int) : D := .dic [(.inr "cells", .lst (cs.map .int)), (.inr "at", .int at_), (.inr "digits", .int dg), (.inr "count", .int ct), (.inr "fold", .int fo)]
def PenOk (d : D) : Prop := ∃ cs at_ dg ct fo, d = penD cs at_ dg ct fo ∧ 0 ≤ at_ ∧ 0 ≤ dg
def pe (cs : List Int) (at_ dg ct fo many : Int) (x2 x3 x4 : Option D) : EL.Env := [some (penD cs at_ dg ct fo), some (.int many), x2, x3, x4]
def drawTail : Ms :=
    (sSeq (sIf (ebV (eBin (dLtI iGt) (eBin dIx (eV 0) (eC (.str "digits"))) (eC (.int 0)))) (sSeq (sSet 3 (eBin dMod (eA1 dInt (eBin dIx (eV 0) (eC (.str "digits")))) (eV 1)))
  (sSeq (sPut 0 (eC (.str "digits")) (eBin dFdiv (eBin dIx (eV 0) (eC (.str "digits"))) (eV 1)))
  (sRet (eV 3)))) sNil)
  (sSeq (sSet 4 (eBin dMod (eA1 dInt (eBin dAdd (eBin dAdd (eBin dMul (eBin dIx (eV 0) (eC (.str "fold"))) (eC (.int 48271))) (eBin dMul (eBin dIx (eV 0) (eC (.str "count"))) (eC (.int 7919)))) (eC (.int 13)))) (eC (.int 2147483647))))
  (sSeq (sSet 4 (eBin dMod (eA1 dInt (eBin dAdd (eBin dAdd (eBin dMul (eV 4) (eV 4)) (eBin dMul (eC (.int 31)) (eV 4))) (eBin dIx (eV 0) (eC (.str "count"))))) (eC (.int 2147483629))))
  (sSeq (sPut 0 (eC (.str "fold")) (eBin dMod (eA1 dInt (eBin dAdd (eBin dMul (eV 4) (eC (.int 16807))) (eC (.int 7)))) (eC (.int 2147483647))))
  (sRet (eBin dMod (eA1 dInt (eBin dFdiv (eV 4) (eC (.int 64)))) (eV 1)))))))
theorem tail_ok (cs : List Int) {at_ dg : Int} (ct fo : Int) {many : Int} (x2 : Option D) (a0 : 0 ≤ at_) (d0 : 0 ≤ dg) (h1 : 1 ≤ many) (h2 : many < 1073741824) : ∃ r dg' fo' x3 x4, drawTail (pe cs at_ dg ct fo many x2 none none) = .ret (.int r) (pe cs at_ dg' ct fo' many x2 x3 x4) ∧ 0 ≤ r ∧ r < many ∧ 0 ≤ dg' := by
  have m0 : (0 : Int) < many := by omega
  by_cases hd : 0 < dg
  · refine ⟨dg % many, dg / many, fo, some (.int (dg % many)), none, q_ifT (v := sNil) (ρ1 := pe cs at_ dg ct fo many x2 none none) (b_v0 (p_bin0 (x := .int dg) (by kernel_rfl) rfl (by show some (D.bl (decide (0 < dg))) = _; rw [decide_eq_true hd]))) <|
      q_seq (ρ1 := pe cs at_ dg ct fo many x2 (some (.int (dg % many))) none) (q_set (p_bin0 (p_a10 (x := .int dg) (by kernel_rfl) rfl) rfl (mod_p m0)) rfl) <|
      q_seq (ρ1 := pe cs at_ (dg / many) ct fo many x2 (some (.int (dg % many))) none) (q_put (o := penD cs at_ (dg / many) ct fo) (p_bin0 (x := .int dg) (by kernel_rfl) rfl (fdiv_p m0 h2)) rfl rfl (by kernel_rfl) (by kernel_rfl)) <| q_ret rfl, Int.emod_nonneg _ (by omega), Int.emod_lt_of_pos _ m0, Int.ediv_nonneg d0 (by omega)⟩
  · let b1 : Int := (fo * 48271 + ct * 7919 + 13) % 2147483647
    let b2 : Int := (b1 * b1 + 31 * b1 + ct) % 2147483629
    have e1 : -(2 ^ 64) < b1 ∧ b1 < 2 ^ 64 := by
      have := Int.emod_nonneg (fo * 48271 + ct * 7919 + 13) (b := 2147483647) (by omega)
      have := Int.emod_lt_of_pos (fo * 48271 + ct * 7919 + 13) (b := 2147483647) (by omega)
      constructor <;> (show _ < _; omega)
    have e3 : small64' b1 = true := by simp only [small64', Bool.and_eq_true, decide_eq_true_eq]; exact e1
    refine ⟨(b2 / 64) % many, dg, (b2 * 16807 + 7) % 2147483647, none, some (.int b2), q_ifF0 (b_v0 (p_bin0 (x := .int dg) (by kernel_rfl) rfl (by show some (D.bl (decide (0 < dg))) = _; rw [decide_eq_false hd]))) <|
      q_seq (ρ1 := pe cs at_ dg ct fo many x2 none (some (.int b1))) (q_set (p_bin0 (p_a10 (p_bin0 (p_bin0 (p_bin0 (x := .int fo) (by kernel_rfl) rfl (mul_r rfl)) (p_bin0 (x := .int ct) (by kernel_rfl) rfl (mul_r rfl)) rfl) rfl rfl) rfl) rfl (mod_p (by decide))) rfl) <|
      q_seq (ρ1 := pe cs at_ dg ct fo many x2 none (some (.int b2))) (q_set (p_bin0 (p_a10 (p_bin0 (p_bin0 (p_bin0 (x := .int b1) (y := .int b1) rfl rfl (mul_r e3)) (p_bin0 (y := .int b1) rfl rfl (mul_r e3)) rfl) (y := .int ct) (by kernel_rfl) rfl) rfl) rfl (mod_p (by decide))) rfl) <|
      q_seq (ρ1 := pe cs at_ dg ct ((b2 * 16807 + 7) % 2147483647) many x2 none (some (.int b2))) (q_put (o := penD cs at_ dg ct ((b2 * 16807 + 7) % 2147483647)) (p_bin0 (p_a10 (p_bin0 (p_bin0 (x := .int b2) rfl rfl (mul_r rfl)) rfl rfl) rfl) rfl (mod_p (by decide))) rfl rfl (by kernel_rfl) (by kernel_rfl)) <|
      q_ret (p_bin0 (p_a10 (p_bin0 (x := .int b2) rfl rfl (fdiv_p (by decide) (by decide))) rfl) rfl (mod_p m0)), Int.emod_nonneg _ (by omega), Int.emod_lt_of_pos _ m0, d0⟩
theorem draw_ok {pen : D} (h : PenOk pen) {many : Int} (h1 : 1 ≤ many) (h2 : many < 1073741824) : ∃ r pen', rf__law_draw [pen, .int many] = .ok (.int r) pen' ∧ 0 ≤ r ∧ r < many ∧ PenOk pen' := by
  obtain ⟨cs, at_, dg, ct, fo, rfl, a0, d0⟩ := h
  suffices q : ∃ r at_' dg' fo' x2 x3 x4, ev__law_draw (pe cs at_ dg ct fo many none none none) = .ret (.int r) (pe cs at_' dg' (ct + 1) fo' many x2 x3 x4) ∧ 0 ≤ r ∧ r < many ∧ 0 ≤ at_' ∧ 0 ≤ dg' by
    obtain ⟨r, at_', dg', fo', x2, x3, x4, q1, q2, q3, q4, q5⟩ := q
    refine ⟨r, penD cs at_' dg' (ct + 1) fo', ?_, q2, q3, cs, at_', dg', ct + 1, fo', rfl, q4, q5⟩
    show endOf (some 0) (ev__law_draw (pe cs at_ dg ct fo many none none none)) = _
    rw [q1]; rfl
  have go : ∀ {at2 dg2 fo2 : Int} {x2 : Option D} {B : Ms}, 0 ≤ at2 → 0 ≤ dg2 → B (pe cs at_ dg (ct + 1) fo many none none none) = .nx (pe cs at2 dg2 (ct + 1) fo2 many x2 none none) →
      ∃ r at_' dg' fo' x2 x3 x4, sSeq (sPut 0 (eC (.str "count")) (eBin dAdd (eBin dIx (eV 0) (eC (.str "count"))) (eC (.int 1)))) (sSeq B drawTail) (pe cs at_ dg ct fo many none none none) = .ret (.int r) (pe cs at_' dg' (ct + 1) fo' many x2 x3 x4) ∧ 0 ≤ r ∧ r < many ∧ 0 ≤ at_' ∧ 0 ≤ dg' := fun {at2 dg2 fo2 x2 B} b0 b1 hB => by
    obtain ⟨r, dg', fo', x3, x4, t1, t2, t3, t4⟩ := tail_ok cs (ct + 1) fo2 x2 b0 b1 h1 h2
    exact ⟨r, at2, dg', fo', x2, x3, x4, q_seq (ρ1 := pe cs at_ dg (ct + 1) fo many none none none) (by kernel_rfl) (q_seq hB t1), t2, t3, b0, t4⟩
  have test : ebAnd (ebV (eBin dEq (eBin dIx (eV 0) (eC (.str "digits"))) (eC (.int 0)))) (ebV (eBin (dLtI iLt) (eBin dIx (eV 0) (eC (.str "at"))) (eA1 dLen (eBin dIx (eV 0) (eC (.str "cells")))))) (pe cs at_ dg (ct + 1) fo many none none none) = .ok (decide (dg = 0) && decide (at_ < ((cs.map D.int).length : Nat))) (pe cs at_ dg (ct + 1) fo many none none none) :=
    b_and0 (b_v0 (by kernel_rfl)) fun _ => b_v0 (by kernel_rfl)
  rw [List.length_map] at test
  by_cases hc : dg = 0 ∧ at_ < cs.length
  · have test := test.trans (congrArg (fun z => Rs.ok z (pe cs at_ dg (ct + 1) fo many none none none)) (show (decide (dg = 0) && decide (at_ < cs.length)) = true by rw [decide_eq_true hc.1, decide_eq_true hc.2]; rfl))
    have cell : ePure (eBin dIx (eBin dIx (eV 0) (eC (.str "cells"))) (ePure (eBin dIx (eV 0) (eC (.str "at"))))) (pe cs at_ dg (ct + 1) fo many none none none) = .ok (.int (cs.getD at_.toNat 0)) (pe cs at_ dg (ct + 1) fo many none none none) :=
      p_pure0 (p_bin0 (x := .lst (cs.map .int)) (y := .int at_) (by kernel_rfl) (p_pure0 (by kernel_rfl) rfl) (at_lst cs at_ a0 hc.2)) rfl
    generalize cs.getD at_.toNat 0 = c at cell
    by_cases hg : (1000000000000000000 : Int) ≤ c
    · exact go (at2 := at_ + 1) (dg2 := c - 1000000000000000000) (fo2 := fo) (x2 := some (.int c)) (by omega) (by omega) (q_if (k := true) test <| q_seq (ρ1 := pe cs at_ dg (ct + 1) fo many (some (.int c)) none none) (q_set cell rfl) <| q_seq (ρ1 := pe cs (at_ + 1) dg (ct + 1) fo many (some (.int c)) none none) (by kernel_rfl) <|
        q_if (k := true) (ρ1 := pe cs (at_ + 1) dg (ct + 1) fo many (some (.int c)) none none) (b_v0 (p_bin0 (x := .int c) (y := .int 1000000000000000000) rfl (by kernel_rfl) (by show some (D.bl (decide ((1000000000000000000 : Int) ≤ c))) = _; rw [decide_eq_true hg]))) (by kernel_rfl))
    · exact go (at2 := at_ + 1) (dg2 := dg) (fo2 := (fo * 69069 + c) % 2147483587) (x2 := some (.int c)) (by omega) d0 (q_if (k := true) test <| q_seq (ρ1 := pe cs at_ dg (ct + 1) fo many (some (.int c)) none none) (q_set cell rfl) <| q_seq (ρ1 := pe cs (at_ + 1) dg (ct + 1) fo many (some (.int c)) none none) (by kernel_rfl) <|
        q_if (k := false) (ρ1 := pe cs (at_ + 1) dg (ct + 1) fo many (some (.int c)) none none) (b_v0 (p_bin0 (x := .int c) (y := .int 1000000000000000000) rfl (by kernel_rfl) (by show some (D.bl (decide ((1000000000000000000 : Int) ≤ c))) = _; rw [decide_eq_false hg]))) <|
        q_put (o := penD cs (at_ + 1) dg (ct + 1) ((fo * 69069 + c) % 2147483587)) (p_bin0 (p_a10 (p_bin0 (p_bin0 (x := .int fo) (by kernel_rfl) rfl (mul_r rfl)) rfl rfl) rfl) rfl (mod_p (by decide))) rfl rfl (by kernel_rfl) (by kernel_rfl))
  · have test := test.trans (congrArg (fun z => Rs.ok z (pe cs at_ dg (ct + 1) fo many none none none)) (show (decide (dg = 0) && decide (at_ < cs.length)) = false by
      by_cases h : dg = 0
      · rw [decide_eq_false (fun z => hc ⟨h, z⟩), Bool.and_false]
      · rw [decide_eq_false h, Bool.false_and]))
    exact go (at2 := at_) (dg2 := dg) (fo2 := fo) (x2 := none) a0 d0 (q_if (k := false) test rfl)

abbrev fDraw := rf__law_draw
abbrev fPick := rf__law_pick fDraw
theorem at_mem {ds : List D} {r : Int} (h0 : 0 ≤ r) (h1 : r < ds.length) : atI ds r = some (ds.getD r.toNat .non) ∧ ds.getD r.toNat .non ∈ ds := by
  have hl : r.toNat < ds.length := by omega
  unfold atI ixN
  rw [if_pos h0, if_pos h1]
  simp [hl]
/-- a number drawn, and the pen behind it -/
@[irreducible] def drI (pen : D) (n : Int) : Int := match fDraw [pen, .int n] with | .ok (.int i) _ => i | _ => 0
@[irreducible] def drP (pen : D) (n : Int) : D := match fDraw [pen, .int n] with | .ok _ o => o | _ => .non
section
variable {pen : D} {n : Int}
theorem draw_all (h : PenOk pen) (h1 : 1 ≤ n) (h2 : n < 1073741824) : fDraw [pen, .int n] = .ok (.int (drI pen n)) (drP pen n) ∧ 0 ≤ drI pen n ∧ drI pen n < n ∧ PenOk (drP pen n) := by
  obtain ⟨r, p, a, b, c, d⟩ := draw_ok h h1 h2
  have e1 : drI pen n = r := by unfold drI; rw [show fDraw [pen, .int n] = _ from a]
  have e2 : drP pen n = p := by unfold drP; rw [show fDraw [pen, .int n] = _ from a]
  rw [e1, e2]; exact ⟨a, b, c, d⟩
theorem draw_eq (h : PenOk pen) (h1 : 1 ≤ n) (h2 : n < 1073741824) : rf__law_draw [pen, .int n] = .ok (.int (drI pen n)) (drP pen n) := (draw_all h h1 h2).1
theorem dr_lo (h : PenOk pen) (h1 : 1 ≤ n) (h2 : n < 1073741824) : 0 ≤ drI pen n := (draw_all h h1 h2).2.1
theorem dr_hi (h : PenOk pen) (h1 : 1 ≤ n) (h2 : n < 1073741824) : drI pen n < n := (draw_all h h1 h2).2.2.1
theorem dr_pen (h : PenOk pen) (h1 : 1 ≤ n) (h2 : n < 1073741824) : PenOk (drP pen n) := (draw_all h h1 h2).2.2.2
/-- an item drawn -/
@[irreducible] def pkD (pen : D) (ds : List D) : D := ds.getD (drI pen ds.length).toNat .non
variable {ds : List D}
theorem pk_mem (h : PenOk pen) (h1 : 1 ≤ ds.length) (h2 : ds.length < 1073741824) : pkD pen ds ∈ ds := by
  unfold pkD
  exact (at_mem (dr_lo h (by omega) (by omega)) (dr_hi h (by omega) (by omega))).2
theorem pick_all {L : D} (h : PenOk pen) (h1 : 1 ≤ ds.length) (h2 : ds.length < 1073741824) (hp : pureD (pkD pen ds) = true) (hl : dLen [L] = some (.int ds.length)) (hx : ∀ i, dIx L (.int i) = atI ds i) : fPick [pen, L] = .ok (pkD pen ds) (drP pen ds.length) := by
  have g1 := draw_eq h (n := ds.length) (by omega) (by omega)
  have a := at_mem (dr_lo h (n := ds.length) (by omega) (by omega)) (dr_hi h (n := ds.length) (by omega) (by omega))
  have q : ev__law_pick fDraw [some pen, some L] = .ret (pkD pen ds) [some (drP pen ds.length), some L] :=
    q_ret (p_pure (p_bin (x := L) rfl (p_callI (p_here (ρ1 := [some pen, some L]) rfl (p_cons0 (p_a10 rfl hl) p_nil) rfl) g1 rfl) (by rw [hx, a.1]; unfold pkD; rfl)) hp)
  show endOf (some 0) (ev__law_pick fDraw [some pen, some L]) = _
  rw [q]; rfl
theorem pureDs_of {d : D} (h : pureDs ds = true) (m : d ∈ ds) : pureD d = true := by
  induction ds with
  | nil => cases m
  | cons x xs ih =>
    simp only [z_pu_cons, Bool.and_eq_true] at h
    rcases List.mem_cons.mp m with rfl | m
    · exact h.1
    · exact ih h.2 m
theorem pick_l (h : PenOk pen) (h1 : 1 ≤ ds.length) (h2 : ds.length < 1073741824) (hp : pureDs ds = true) : rf__law_pick rf__law_draw [pen, .lst ds] = .ok (pkD pen ds) (drP pen ds.length) := pick_all h h1 h2 (pureDs_of hp (pk_mem h h1 h2)) rfl fun _ => rfl
theorem pick_t (h : PenOk pen) (h1 : 1 ≤ ds.length) (h2 : ds.length < 1073741824) (hp : pureDs ds = true) : rf__law_pick rf__law_draw [pen, .tup ds] = .ok (pkD pen ds) (drP pen ds.length) := pick_all h h1 h2 (pureDs_of hp (pk_mem h h1 h2)) rfl fun _ => rfl
theorem pk_pure (h : PenOk pen) (h1 : 1 ≤ ds.length) (h2 : ds.length < 1073741824) (hp : pureDs ds = true) : pureD (pkD pen ds) = true := pureDs_of hp (pk_mem h h1 h2)
end
theorem pen_ok (ns : List Int) : ∃ pen, rf__law_pen [.scr (ns.map .int)] = .ok pen .non ∧ PenOk pen := by
  have lp := fun s0 => (loopS_fold (bd := gSet 2) (body := (sW [2] (sSet 1 (eBin dMod (eA1 dInt (eBin dAdd (eBin dMul (eV 1) (eC (.int 47))) (eV 2))) (eC (.int 1000000007)))))) (fun fo : Int => [some (.scr (ns.map .int)), some (.int fo), none]) (fun fo c => (fo * 47 + c) % 1000000007) (fun _ => True) (f := D.int) (xs := ns) (fun s _ x _ => ⟨.inl (by simp [dMul, dMod, small64']), trivial⟩) (s0 := s0) trivial).1
  refine ⟨penD ns 0 0 0 (ns.foldl (fun fo c => (fo * 47 + c) % 1000000007) 0), ?_, ns, 0, 0, 0, _, rfl, by omega, by omega⟩
  simp [rf__law_pen, ev__law_pen, lp, dList, eDisp, EL.pairD, keyD, outOf, penD]
theorem any_congr' {α : Type} {p q : α → Bool} {xs : List α} (h : ∀ x ∈ xs, p x = q x) : xs.any p = xs.any q := by
  induction xs with
  | nil => rfl
  | cons x xs ih => rw [List.any_cons, List.any_cons, h x (by simp), ih fun y hy => h y (by simp [hy])]
theorem all_congr' {α : Type} {p q : α → Bool} {xs : List α} (h : ∀ x ∈ xs, p x = q x) : xs.all p = xs.all q := by
  induction xs with
  | nil => rfl
  | cons x xs ih => rw [List.all_cons, List.all_cons, h x (by simp), ih fun y hy => h y (by simp [hy])]
/-! ### landings -/
def upS (u : Bool) : Str := if u then "up" else "down"
def landD (x : Nat × Bool) : D := .tup [.int x.1, .str (upS x.2)]
def landL (n f : Nat) : List (Nat × Bool) := (if 0 < f then [(f, false)] else []) ++ (if f < n - 1 then [(f, true)] else [])
def lands (n : Nat) : List (Nat × Bool) := (List.range n).flatMap (landL n)
theorem pu_lands {xs : List (Nat × Bool)} : pureDs (xs.map landD) = true := pureDs_map fun _ => rfl
theorem flatMap_fold {α β : Type} {g : α → List β} : ∀ {xs : List α} {acc : List β}, xs.foldl (fun a x => a ++ g x) acc = acc ++ xs.flatMap g
  | [], acc => by simp
  | x :: xs, acc => by simp [flatMap_fold (xs := xs)]
theorem rangeD_map {n : Nat} : rangeD 0 n = (List.range n).map fun i => D.int (i : Nat) := by simp [rangeD]
theorem landL_len {n f : Nat} : (landL n f).length ≤ 2 := by
  unfold landL; split <;> split <;> simp
theorem lands_turn {n f : Nat} {acc : List (Nat × Bool)} (ha : acc.length ≤ 60000) : turnS (gSet 2) (sW [2] (sDrop (eMt "list" 1 dExt (eaCons (eLc [3] (itSeq (eLst (eaCons (eC (.str "down")) (eaCons (eC (.str "up")) eaNil)))) (gSet 3) (ebIf (ebV (eBin dEq (eV 3) (eC (.str "down")))) (ebV (eBin (dLtI iGt) (eV 2) (eC (.int 0)))) (ebV (eBin (dLtI iLt) (eV 2) (eBin dSub (eV 0) (eC (.int 1)))))) (eTup (eaCons (eV 2) (eaCons (eV 3) eaNil)))) eaNil)))) (.int f) [some (.int n), some (.lst (acc.map landD)), none, none] = .nx [some (.int n), some (.lst ((acc ++ landL n f).map landD)), none, none] := by
  have s0 : acc.length ≤ sizeLine := sz_le (by omega)
  have s1 : acc.length + 1 ≤ sizeLine := sz_le (by omega)
  have s2 : acc.length + 2 ≤ sizeLine := sz_le (by omega)
  have e : ((f : Int) < (n : Int) - 1) = (f < n - 1) := by rw [eq_iff_iff]; omega
  simp [dExt, dEq, eqvD, s0, s1, s2, e, landL]
  split <;> split <;> simp [landD, upS]
theorem landings_ok {n : Nat} (h : n ≤ 1000) : rf__law_landings [.int n] = .ok (.lst ((lands n).map landD)) .non := by
  have h1 : okR n = true := okR_of (by omega) (by omega)
  have h2 : n ≤ sizeLine := sz_le (by omega)
  simp [rf__law_landings, ev__law_landings, h1, h2, rangeD_map]
  rw [(loop_foldN (fun acc : List (Nat × Bool) => [some (.int n), some (.lst (acc.map landD)), none, none]) (fun acc f => acc ++ landL n f) (fun i acc => i ≤ n ∧ acc.length ≤ 2 * i) [] ?_ ?_ ?_).1]
  · simp [lands, flatMap_fold, List.map_flatMap, List.flatMap_def]
  · rfl
  · simp
  · intro i acc ha f hf
    have hi := (List.getElem?_eq_some_iff.mp hf).1
    rw [List.length_range] at hi
    have := landL_len (n := n) (f := f)
    exact ⟨.inl (lands_turn (by omega)), by omega, by rw [List.length_append]; omega⟩
end PV

/-! webs, no program in sight: what is met, idle order, rows of lengths -/
namespace WB
abbrev St := Nat → List (Nat × Nat)
/-! ### what is met -/
def okS (idle : Bool) (s : Nat × Nat) : Bool := s.1 == 0 || !idle
def push1 (idle : Bool) (f : List Nat) (s : Nat × Nat) : List Nat := if s.2 ∉ f ∧ okS idle s = true then f ++ [s.2] else f
def pushes (idle : Bool) (f : List Nat) (row : List (Nat × Nat)) : List Nat := row.foldl (push1 idle) f
def bfs (st : St) (idle : Bool) : Nat → Nat → List Nat → List Nat
  | 0, _, f => f
  | k + 1, i, f => match f[i]? with
    | none => f
    | some t => bfs st idle k (i + 1) (pushes idle f (st t))
structure Good (n : Nat) (f : List Nat) : Prop where
  nd : f.Nodup
  lt : ∀ t ∈ f, t < n
theorem nodup_le : ∀ {n : Nat} {f : List Nat}, f.Nodup → (∀ t ∈ f, t < n) → f.length ≤ n
  | 0, [], _, _ => Nat.le_refl _
  | 0, t :: f, _, h => absurd (h t (by simp)) (by omega)
  | n + 1, f, nd, h => by
    have h1 : (f.erase n).Nodup := nd.erase n
    have h2 : ∀ t ∈ f.erase n, t < n := fun t ht => by
      have := (nd.mem_erase_iff).mp ht
      have := h t this.2
      omega
    have h3 := nodup_le h1 h2
    have h4 := List.length_erase (a := n) (l := f)
    split at h4 <;> omega
theorem nodup_len {n : Nat} {f : List Nat} (g : Good n f) : f.length ≤ n := nodup_le g.nd g.lt
theorem push1_good {n : Nat} {idle : Bool} {f : List Nat} {s : Nat × Nat} (g : Good n f) (hs : s.2 < n) : Good n (push1 idle f s) := by
  unfold push1
  split
  · rename_i h
    refine ⟨List.nodup_append.mpr ⟨g.nd, by simp, fun a ha b hb e => ?_⟩, fun t ht => ?_⟩
    · simp only [List.mem_singleton] at hb
      subst hb; subst e
      exact h.1 ha
    · rcases List.mem_append.mp ht with h | h
      · exact g.lt t h
      · simp only [List.mem_singleton] at h; subst h; exact hs
  · exact g
theorem push1_pre {idle : Bool} {f : List Nat} {s : Nat × Nat} : f <+: push1 idle f s := by
  unfold push1
  split
  · exact List.prefix_append _ _
  · exact List.prefix_refl _
theorem push1_in {idle : Bool} {f : List Nat} {s : Nat × Nat} (h : okS idle s = true) : s.2 ∈ push1 idle f s := by
  unfold push1
  by_cases hm : s.2 ∈ f
  · split <;> simp [hm]
  · rw [if_pos ⟨hm, h⟩]; simp
theorem pushes_pre {idle : Bool} : ∀ {row : List (Nat × Nat)} {f : List Nat}, f <+: pushes idle f row
  | [], f => List.prefix_refl _
  | s :: row, f => push1_pre.trans (pushes_pre (row := row) (f := push1 idle f s))
theorem pushes_good {n : Nat} {idle : Bool} : ∀ {row : List (Nat × Nat)} {f : List Nat}, Good n f → (∀ s ∈ row, s.2 < n) → Good n (pushes idle f row)
  | [], f, g, _ => g
  | s :: row, f, g, h => pushes_good (row := row) (push1_good g (h s (by simp))) fun u hu => h u (by simp [hu])
theorem pushes_in {idle : Bool} : ∀ {row : List (Nat × Nat)} {f : List Nat} {s : Nat × Nat}, s ∈ row → okS idle s = true → s.2 ∈ pushes idle f row
  | u :: row, f, s, hs, h => by
    rcases List.mem_cons.mp hs with rfl | hs
    · exact (pushes_pre (row := row)).subset (push1_in h)
    · exact pushes_in (row := row) hs h
/-- all things of a web stand below n, as its steps lead -/
def Bd (st : St) (n : Nat) : Prop := ∀ t, t < n → ∀ s ∈ st t, s.2 < n
theorem bfs_spec {st : St} {n : Nat} {idle : Bool} (hb : Bd st n) : ∀ {k i : Nat} {f : List Nat}, Good n f → i ≤ f.length → n + 1 ≤ i + k → (∀ j, j < i → ∀ t, f[j]? = some t → ∀ s ∈ st t, okS idle s = true → s.2 ∈ f) →
    Good n (bfs st idle k i f) ∧ f <+: bfs st idle k i f ∧ ∀ t ∈ bfs st idle k i f, ∀ s ∈ st t, okS idle s = true → s.2 ∈ bfs st idle k i f
  | 0, i, f, g, hi, hk, hc => by
    have := nodup_len g
    omega
  | k + 1, i, f, g, hi, hk, hc => by
    unfold bfs
    cases q : f[i]? with
    | none =>
      simp only
      refine ⟨g, List.prefix_refl _, fun t ht s hs ho => ?_⟩
      obtain ⟨j, hj⟩ := List.getElem?_of_mem ht
      refine hc j ?_ t hj s hs ho
      have h1 := List.getElem?_eq_none_iff.mp q
      have h2 := (List.getElem?_eq_some_iff.mp hj).1
      omega
    | some t =>
      simp only
      obtain ⟨hl, ht⟩ := List.getElem?_eq_some_iff.mp q
      have tn : t < n := g.lt t (List.mem_of_getElem? q)
      have pre : f <+: pushes idle f (st t) := pushes_pre
      obtain ⟨r1, r2, r3⟩ := bfs_spec hb (k := k) (i := i + 1) (f := pushes idle f (st t)) (pushes_good g (hb t tn)) (by have := pre.length_le; omega) (by omega) fun j hj u hu s hs ho => by
        have hj' : j < f.length := by omega
        have e : (pushes idle f (st t))[j]? = f[j]? := by
          obtain ⟨z, hz⟩ := pre
          rw [← hz, List.getElem?_append_left hj']
        rw [e] at hu
        by_cases h : j = i
        · subst h
          rw [q] at hu; cases hu
          exact pushes_in hs ho
        · exact pre.subset (hc j (by omega) u hu s hs ho)
      exact ⟨r1, pre.trans r2, r3⟩
/-- what is met from the starts -/
def met (st : St) (n : Nat) (idle : Bool) (starts : List Nat) : List Nat := bfs st idle (n + 1) 0 starts
theorem met_spec {st : St} {n : Nat} {idle : Bool} {starts : List Nat} (hb : Bd st n) (g : Good n starts) : Good n (met st n idle starts) ∧ starts <+: met st n idle starts ∧ ∀ t ∈ met st n idle starts, ∀ s ∈ st t, okS idle s = true → s.2 ∈ met st n idle starts :=
  bfs_spec hb g (Nat.zero_le _) (by omega) fun j hj => by omega
/-- what is met hangs on the steps of what is met alone -/
theorem bfs_congr {st st' : St} {idle : Bool} : ∀ {k i : Nat} {f : List Nat}, (∀ t ∈ bfs st idle k i f, st t = st' t) → bfs st idle k i f = bfs st' idle k i f
  | 0, i, f, h => rfl
  | k + 1, i, f, h => by
    unfold bfs at h ⊢
    cases q : f[i]? with
    | none => rfl
    | some t =>
      rw [q] at h
      simp only at h ⊢
      have ht : t ∈ bfs st idle k (i + 1) (pushes idle f (st t)) := by
        have key : ∀ (k i : Nat) (f : List Nat), f <+: bfs st idle k i f := fun k => by
          induction k with
          | zero => intro i f; exact List.prefix_refl _
          | succ k ih =>
            intro i f
            unfold bfs
            cases f[i]? with
            | none => exact List.prefix_refl _
            | some u => exact pushes_pre.trans (ih (i + 1) _)
        exact (pushes_pre.trans (key k (i + 1) _)).subset (List.mem_of_getElem? q)
      rw [← h t ht]
      exact bfs_congr h
end WB

/-! the order of idle steps -/
namespace WB
def idle (st : St) (t : Nat) : List Nat := (st t).filterMap fun s => if s.1 = 0 then some s.2 else none
def setF {α : Type} (L : Nat → α) (t : Nat) (v : α) : Nat → α := fun u => if u = t then v else L u
def cnt (l D : List Nat) : Int := (l.countP fun x => decide (x ∉ D) : Nat)
theorem cnt_same {l D : List Nat} {b : Nat} (h : b ∉ l) : cnt l (D ++ [b]) = cnt l D := by
  unfold cnt
  congr 1
  apply List.countP_congr
  intro x hx
  have : x ≠ b := fun e => h (e ▸ hx)
  simp [this]
theorem cnt_less {D : List Nat} {b : Nat} (hD : b ∉ D) : ∀ {l : List Nat}, l.Nodup → b ∈ l → cnt l D = cnt l (D ++ [b]) + 1
  | x :: l, nd, h => by
    have nd' := List.nodup_cons.mp nd
    by_cases e : x = b
    · subst e
      have h1 := cnt_same (D := D) nd'.1
      unfold cnt at h1 ⊢
      rw [List.countP_cons_of_pos (by simpa using hD), List.countP_cons_of_neg (by simp)]
      omega
    · have hm : b ∈ l := (List.mem_cons.mp h).resolve_left fun z => e z.symm
      have ih := cnt_less hD nd'.2 hm
      unfold cnt at ih ⊢
      by_cases q : x ∈ D
      · rw [List.countP_cons_of_neg (by simp [q]), List.countP_cons_of_neg (by simp [q])]
        exact ih
      · rw [List.countP_cons_of_pos (by simp [q]), List.countP_cons_of_pos (by simp [q, e])]
        omega
theorem nd_inj {l : List Nat} (h : l.Nodup) {i j a : Nat} (hi : l[i]? = some a) (hj : l[j]? = some a) : i = j := by
  obtain ⟨hi1, hi2⟩ := List.getElem?_eq_some_iff.mp hi
  obtain ⟨hj1, hj2⟩ := List.getElem?_eq_some_iff.mp hj
  have p := List.pairwise_iff_getElem.mp h
  rcases Nat.lt_trichotomy i j with z | z | z
  · exact absurd (hi2.trans hj2.symm) (p i j hi1 hj1 z)
  · exact z
  · exact absurd (hj2.trans hi2.symm) (p j i hj1 hi1 z)
theorem cnt_nonneg (l D : List Nat) : 0 ≤ cnt l D := by unfold cnt; omega
theorem cnt_zero {l D : List Nat} : cnt l D = 0 ↔ ∀ b ∈ l, b ∈ D := by
  unfold cnt
  have : ((l.countP fun x => decide (x ∉ D) : Nat) : Int) = 0 ↔ (l.countP fun x => decide (x ∉ D)) = 0 := by omega
  rw [this, List.countP_eq_zero]
  constructor
  · intro h b hb
    have := h b hb
    simpa using this
  · intro h b hb
    simpa using h b hb
abbrev KS := (Nat → Int) × List Nat
def kU (S : KS) (u : Nat) : KS := (setF S.1 u (S.1 u - 1), if S.1 u - 1 = 0 then S.2 ++ [u] else S.2)
def kahn (U : Nat → List Nat) : Nat → KS → Nat → KS
  | 0, S, _ => S
  | k + 1, S, i => match S.2[i]? with
    | none => S
    | some b => kahn U k ((U b).foldl kU S) (i + 1)
/-- what holds between two turns: D the ones that are done -/
structure KI (st : St) (things : List Nat) (D : List Nat) (S : KS) : Prop where
  nd : S.2.Nodup
  sub : ∀ t ∈ S.2, t ∈ things
  cn : ∀ t ∈ things, S.1 t = cnt (idle st t) D
  mem : ∀ t ∈ things, t ∈ S.2 ↔ S.1 t = 0
  topo : ∀ j t, S.2[j]? = some t → ∀ b ∈ idle st t, b ∈ S.2.take j
structure KI' (st : St) (things : List Nat) (D : List Nat) (b : Nat) (p : List Nat) (S : KS) : Prop where
  nd : S.2.Nodup
  sub : ∀ t ∈ S.2, t ∈ things
  cn : ∀ t ∈ things, S.1 t = if t ∈ p then cnt (idle st t) (D ++ [b]) else cnt (idle st t) D
  mem : ∀ t ∈ things, t ∈ S.2 ↔ S.1 t = 0
  topo : ∀ j t, S.2[j]? = some t → ∀ b ∈ idle st t, b ∈ S.2.take j
theorem kU_ok {st : St} {things D p : List Nat} {b u : Nat} {S : KS} (h : KI' st things D b p S) (hu : u ∈ things) (hb : b ∈ idle st u) (hi : (idle st u).Nodup) (hp : u ∉ p) (hD : b ∉ D) (hpre : D ++ [b] <+: S.2) : KI' st things D b (p ++ [u]) (kU S u) ∧ D ++ [b] <+: (kU S u).2 := by
  have e1 : S.1 u = cnt (idle st u) D := by rw [h.cn u hu, if_neg hp]
  have e2 := cnt_less hD hi hb
  have e3 : S.1 u - 1 = cnt (idle st u) (D ++ [b]) := by omega
  have nz : S.1 u ≠ 0 := by have := cnt_nonneg (idle st u) (D ++ [b]); omega
  have nu : u ∉ S.2 := fun z => nz ((h.mem u hu).mp z)
  have pre2 : S.2 <+: (kU S u).2 := by
    unfold kU; split
    · exact List.prefix_append _ _
    · exact List.prefix_refl _
  have cn' : ∀ t ∈ things, (kU S u).1 t = if t ∈ p ++ [u] then cnt (idle st t) (D ++ [b]) else cnt (idle st t) D := fun t ht => by
    unfold kU setF
    by_cases e : t = u
    · subst e
      simp only [if_pos, List.mem_append, List.mem_singleton, or_true, e3]
    · simp only [if_neg e, List.mem_append, List.mem_singleton, e, or_false]
      exact h.cn t ht
  refine ⟨⟨?_, ?_, cn', ?_, ?_⟩, hpre.trans pre2⟩
  · unfold kU; split
    · refine List.nodup_append.mpr ⟨h.nd, by simp, fun a ha c hc e => ?_⟩
      simp only [List.mem_singleton] at hc
      subst hc; subst e
      exact nu ha
    · exact h.nd
  · unfold kU; split
    · intro t ht
      rcases List.mem_append.mp ht with z | z
      · exact h.sub t z
      · simp only [List.mem_singleton] at z; subst z; exact hu
    · exact h.sub
  · intro t ht
    unfold kU setF
    by_cases e : t = u
    · subst e
      simp only [if_pos]
      split
      · rename_i z; simp [z]
      · rename_i z; simp [nu, z]
    · simp only [if_neg e]
      rw [← h.mem t ht]
      split
      · simp [e]
      · rfl
  · intro j t hj c hc
    unfold kU at hj ⊢
    simp only at hj ⊢
    split at hj
    · rename_i z
      rw [if_pos z]
      by_cases hl : j < S.2.length
      · rw [List.getElem?_append_left hl] at hj
        have := h.topo j t hj c hc
        rw [List.take_append_of_le_length (by omega)]
        exact this
      · rw [List.getElem?_append_right (by omega)] at hj
        have hj0 : j - S.2.length = 0 := by
          cases q : j - S.2.length with
          | zero => rfl
          | succ m => rw [q] at hj; cases hj
        rw [hj0] at hj
        cases hj
        have ej : j = S.2.length := by omega
        subst ej
        rw [List.take_left]
        rw [e3] at z
        exact hpre.subset (cnt_zero.mp z c hc)
    · rename_i z
      rw [if_neg z]
      exact h.topo j t hj c hc
theorem kUs_ok {st : St} {things D : List Nat} {b : Nat} (hD : b ∉ D) : ∀ {us p : List Nat} {S : KS}, KI' st things D b p S → (p ++ us).Nodup → (∀ u ∈ us, u ∈ things ∧ b ∈ idle st u ∧ (idle st u).Nodup) → D ++ [b] <+: S.2 → KI' st things D b (p ++ us) (us.foldl kU S) ∧ D ++ [b] <+: (us.foldl kU S).2
  | [], p, S, h, _, _, hp => by simpa using ⟨h, hp⟩
  | u :: us, p, S, h, nd, hu, hp => by
    obtain ⟨u1, u2, u3⟩ := hu u (by simp)
    have np : u ∉ p := fun z => by
      have := (List.nodup_append.mp nd).2.2 u z u (by simp)
      exact this rfl
    obtain ⟨h1, h2⟩ := kU_ok h u1 u2 u3 np hD hp
    have := kUs_ok hD (us := us) (p := p ++ [u]) h1 (by simpa using nd) (fun v hv => hu v (by simp [hv])) h2
    simpa using this
/-- who waits for b -/
def Users (st : St) (things : List Nat) (b : Nat) : List Nat := things.filter fun t => decide (b ∈ idle st t)
theorem turn_ok {st : St} {things : List Nat} {S : KS} {i b : Nat} (hn : things.Nodup) (hi : ∀ t ∈ things, (idle st t).Nodup) (h : KI st things (S.2.take i) S) (hb : S.2[i]? = some b) : KI st things (((Users st things b).foldl kU S).2.take (i + 1)) ((Users st things b).foldl kU S) ∧ S.2 <+: ((Users st things b).foldl kU S).2 := by
  obtain ⟨hl, hb'⟩ := List.getElem?_eq_some_iff.mp hb
  have e1 : S.2.take i ++ [b] = S.2.take (i + 1) := by rw [List.take_succ, hb]; rfl
  have nD : b ∉ S.2.take i := fun z => by
    obtain ⟨j, hj⟩ := List.getElem?_of_mem z
    rw [List.getElem?_take] at hj
    split at hj
    · rename_i hji
      have := nd_inj h.nd hj hb
      omega
    · cases hj
  have h0 : KI' st things (S.2.take i) b [] S := ⟨h.nd, h.sub, fun t ht => by simpa using h.cn t ht, h.mem, h.topo⟩
  have nu : (Users st things b).Nodup := hn.filter _
  obtain ⟨h1, h2⟩ := kUs_ok nD (us := Users st things b) h0 (by simpa using nu) (fun u hu => by
    obtain ⟨u1, u2⟩ := List.mem_filter.mp hu
    exact ⟨u1, by simpa using u2, hi u u1⟩) (by rw [e1]; exact List.take_prefix _ _)
  have key : ∀ (us : List Nat) (S : KS), S.2 <+: (us.foldl kU S).2 := fun us => by
    induction us with
    | nil => intro S; exact List.prefix_refl _
    | cons u us ih =>
      intro S
      refine List.IsPrefix.trans ?_ (ih (kU S u))
      unfold kU; split
      · exact List.prefix_append _ _
      · exact List.prefix_refl _
  have pre := key (Users st things b) S
  generalize (Users st things b).foldl kU S = S' at h1 h2 pre
  have e2 : S'.2.take (i + 1) = S.2.take i ++ [b] := by
    rw [e1]
    obtain ⟨z, hz⟩ := pre
    rw [← hz, List.take_append_of_le_length (by omega)]
  refine ⟨⟨h1.nd, h1.sub, fun t ht => ?_, h1.mem, h1.topo⟩, pre⟩
  rw [e2, h1.cn t ht]
  split
  · rfl
  · rename_i z
    have : b ∉ idle st t := fun hb => z (by simpa [Users] using ⟨ht, hb⟩)
    exact (cnt_same this).symm
theorem kahn_ok {st : St} {things : List Nat} {n : Nat} (hg : Good n things) (hi : ∀ t ∈ things, (idle st t).Nodup) : ∀ {k i : Nat} {S : KS}, KI st things (S.2.take i) S → i ≤ S.2.length → n + 1 ≤ i + k → ∃ S', kahn (Users st things) k S i = S' ∧ KI st things S'.2 S'
  | 0, i, S, h, hl, hk => by
    have := nodup_le h.nd fun t ht => hg.lt t (h.sub t ht)
    omega
  | k + 1, i, S, h, hl, hk => by
    unfold kahn
    cases q : S.2[i]? with
    | none =>
      have e : S.2.take i = S.2 := List.take_of_length_le (List.getElem?_eq_none_iff.mp q)
      rw [e] at h
      exact ⟨S, rfl, h⟩
    | some b =>
      obtain ⟨h1, pre⟩ := turn_ok hg.nd hi h q
      have := (List.getElem?_eq_some_iff.mp q).1
      exact kahn_ok hg hi (k := k) (i := i + 1) h1 (by have := pre.length_le; omega) (by omega)
end WB

/-! rows of lengths -/
namespace WB
abbrev Rw := Nat → Option Nat
def comb (b f : Option Nat) : Option Nat := match b, f with
  | none, _ => none
  | some _, none => none
  | some b, some v => some (max b (v + 1))
def rowAt (rows : List Rw) (i : Nat) : Rw := rows.getD i fun _ => none
def look (rows : List Rw) (R : Rw) (p : Nat) (s : Nat × Nat) : Option Nat := if s.1 = 0 then R s.2 else rowAt rows (p - s.1) s.2
def bstep (rows : List Rw) (R : Rw) (p : Nat) (b : Option Nat) (s : Nat × Nat) : Option Nat := if s.1 > p then b else comb b (look rows R p s)
def bestOf (rows : List Rw) (R : Rw) (p : Nat) (row : List (Nat × Nat)) : Option Nat := row.foldl (bstep rows R p) (some 0)
def rset (st : St) (rows : List Rw) (p : Nat) (R : Rw) (t : Nat) : Rw := setF R t (bestOf rows R p (st t))
def layerRow (st : St) (order : List Nat) (rows : List Rw) (p : Nat) : Rw := order.foldl (rset st rows p) fun _ => none
def layersN (st : St) (order : List Nat) : Nat → List Rw
  | 0 => []
  | p + 1 => layersN st order p ++ [layerRow st order (layersN st order p) p]
/-- each one's idle steps lead to ones ahead of it -/
structure Topo (st : St) (order : List Nat) : Prop where
  nd : order.Nodup
  tp : ∀ j t, order[j]? = some t → ∀ b ∈ idle st t, b ∈ order.take j
theorem fold_congr {α β : Type} {f g : β → α → β} : ∀ {l : List α} {b : β}, (∀ a ∈ l, ∀ b, f b a = g b a) → l.foldl f b = l.foldl g b
  | [], _, _ => rfl
  | a :: l, b, h => by
    simp only [List.foldl_cons]
    rw [h a (by simp) b]
    exact fold_congr fun c hc => h c (by simp [hc])
theorem bestOf_congr {st : St} {rows : List Rw} {R R' : Rw} {p t : Nat} (h : ∀ b ∈ idle st t, R b = R' b) : bestOf rows R p (st t) = bestOf rows R' p (st t) := by
  refine fold_congr fun s hs b => ?_
  unfold bstep look
  by_cases hp : s.1 > p
  · rw [if_pos hp, if_pos hp]
  · rw [if_neg hp, if_neg hp]
    by_cases h0 : s.1 = 0
    · rw [if_pos h0, if_pos h0, h s.2 (List.mem_filterMap.mpr ⟨s, hs, by rw [if_pos h0]⟩)]
    · rw [if_neg h0, if_neg h0]
theorem fold_out {st : St} {rows : List Rw} {p u : Nat} : ∀ {l : List Nat} {R : Rw}, u ∉ l → l.foldl (rset st rows p) R u = R u
  | [], _, _ => rfl
  | t :: l, R, h => by
    simp only [List.mem_cons, not_or] at h
    simp only [List.foldl_cons]
    rw [fold_out h.2]
    unfold rset setF
    rw [if_neg h.1]
theorem rset_self {st : St} {rows : List Rw} {p t : Nat} {R : Rw} : rset st rows p R t t = bestOf rows R p (st t) := by unfold rset setF; rw [if_pos rfl]
theorem rset_ne {st : St} {rows : List Rw} {p t u : Nat} {R : Rw} (h : u ≠ t) : rset st rows p R t u = R u := by unfold rset setF; rw [if_neg h]
theorem take_snoc {l : List Nat} {j t : Nat} (h : l[j]? = some t) : l.take (j + 1) = l.take j ++ [t] := by rw [List.take_succ, h]; rfl
theorem layer_eq {st : St} {order : List Nat} {rows : List Rw} {p : Nat} (tp : Topo st order) : ∀ {j : Nat}, j ≤ order.length → ∀ i t, i < j → order[i]? = some t → (order.take j).foldl (rset st rows p) (fun _ => none) t = bestOf rows ((order.take j).foldl (rset st rows p) fun _ => none) p (st t)
  | 0, _, i, t, hi, _ => by omega
  | j + 1, hj, i, t, hi, ht => by
    have hu : order[j]? = some order[j] := List.getElem?_eq_getElem (by omega)
    generalize order[j] = u at hu
    rw [take_snoc hu, List.foldl_append, List.foldl_cons, List.foldl_nil]
    have nj : ∀ b, b ∈ order.take j → b ≠ u := fun b hb e => by
      subst e
      obtain ⟨k, hk⟩ := List.getElem?_of_mem hb
      rw [List.getElem?_take] at hk
      split at hk
      · have := nd_inj tp.nd hk hu; omega
      · cases hk
    by_cases e : i = j
    · subst e
      rw [hu] at ht; cases ht
      rw [rset_self]
      exact bestOf_congr fun b hb => (rset_ne (nj b (tp.tp i t hu b hb))).symm
    · have ih := layer_eq (rows := rows) (p := p) tp (j := j) (by omega) i t (by omega) ht
      have htj : t ∈ order.take j := List.mem_of_getElem? (i := i) (by rw [List.getElem?_take, if_pos (by omega), ht])
      have e1 : rset st rows p ((order.take j).foldl (rset st rows p) fun _ => none) u t = (order.take j).foldl (rset st rows p) (fun _ => none) t := by
        unfold rset setF; rw [if_neg (nj t htj)]
      rw [e1, ih]
      refine bestOf_congr fun b hb => ?_
      have hb' : b ∈ order.take j := by
        have := tp.tp i t ht b hb
        have e2 : order.take i = (order.take j).take i := by rw [List.take_take, Nat.min_eq_left (by omega)]
        rw [e2] at this
        exact List.mem_of_mem_take this
      unfold rset setF
      rw [if_neg (nj b hb')]
/-- a row that solves the equations -/
structure Sol (st : St) (order : List Nat) (rows : List Rw) (p : Nat) (V : Rw) : Prop where
  eq : ∀ t ∈ order, V t = bestOf rows V p (st t)
  out : ∀ t, t ∉ order → V t = none
theorem layer_sol {st : St} {order : List Nat} {rows : List Rw} {p : Nat} (tp : Topo st order) : Sol st order rows p (layerRow st order rows p) := by
  refine ⟨fun t ht => ?_, fun t ht => fold_out ht⟩
  obtain ⟨i, hi⟩ := List.getElem?_of_mem ht
  have := layer_eq (rows := rows) (p := p) tp (j := order.length) (Nat.le_refl _) i t (List.getElem?_eq_some_iff.mp hi).1 hi
  rw [List.take_length] at this
  exact this
/-! ### by laps -/
def Upto (order : List Nat) (V R : Rw) (l : Nat) : Prop := ∀ j t, j < l → order[j]? = some t → R t = V t
theorem lap_fold {st : St} {order : List Nat} {rows : List Rw} {p l : Nat} {V : Rw} (tp : Topo st order) (sol : Sol st order rows p V) : ∀ {us : List Nat} {R : Rw}, (∀ u ∈ us, u ∈ order) → Upto order V R l →
    Upto order V (us.foldl (rset st rows p) R) l ∧ (∀ t ∈ us, ∀ j, order[j]? = some t → j ≤ l → us.foldl (rset st rows p) R t = V t) ∧ ∀ t, (∀ j, order[j]? = some t → j ≤ l) → t ∈ order → R t = V t → us.foldl (rset st rows p) R t = V t
  | [], R, _, h => ⟨h, by simp, fun t _ _ e => e⟩
  | u :: us, R, hu, h => by
    have step : ∀ t j, order[j]? = some t → j ≤ l → (t = u ∨ R t = V t) → rset st rows p R u t = V t := fun t j hj hl ht => by
      unfold rset setF
      by_cases e : t = u
      · subst e
        rw [if_pos rfl, sol.eq t (List.mem_of_getElem? hj)]
        refine bestOf_congr fun b hb => ?_
        have := tp.tp j t hj b hb
        obtain ⟨k, hk⟩ := List.getElem?_of_mem this
        rw [List.getElem?_take] at hk
        split at hk
        · exact h k b (by omega) hk
        · cases hk
      · rw [if_neg e]
        exact ht.resolve_left e
    have h1 : Upto order V (rset st rows p R u) l := fun j t hj ht => step t j ht (by omega) (.inr (h j t hj ht))
    obtain ⟨a1, a2, a3⟩ := lap_fold tp sol (us := us) (fun v hv => hu v (by simp [hv])) h1
    refine ⟨a1, fun t ht j hj hl => ?_, fun t hj ht e => ?_⟩
    · by_cases hm : t ∈ us
      · exact a2 t hm j hj hl
      · have e : t = u := (List.mem_cons.mp ht).resolve_right hm
        exact a3 t (fun k hk => by have := nd_inj tp.nd hk hj; omega) (List.mem_of_getElem? hj) (step t j hj hl (.inl e))
    · obtain ⟨j, hj'⟩ := List.getElem?_of_mem ht
      exact a3 t hj ht (step t j hj' (hj j hj') (.inr e))
def lapsN (st : St) (us : List Nat) (rows : List Rw) (p : Nat) : Nat → Rw → Rw
  | 0, R => R
  | k + 1, R => lapsN st us rows p k (us.foldl (rset st rows p) R)
theorem laps_ok {st : St} {order us : List Nat} {rows : List Rw} {p : Nat} {V : Rw} (tp : Topo st order) (sol : Sol st order rows p V) (hus : ∀ u, u ∈ us ↔ u ∈ order) : ∀ {k l : Nat} {R : Rw}, Upto order V R l → Upto order V (lapsN st us rows p k R) (l + k)
  | 0, l, R, h => h
  | k + 1, l, R, h => by
    obtain ⟨a1, a2, _⟩ := lap_fold tp sol (us := us) (fun u hu => (hus u).mp hu) h
    have h1 : Upto order V (us.foldl (rset st rows p) R) (l + 1) := fun j t hj ht => a2 t ((hus t).mpr (List.mem_of_getElem? ht)) j ht (by omega)
    have := laps_ok tp sol hus (k := k) h1
    rw [show l + 1 + k = l + (k + 1) by omega] at this
    exact this
theorem laps_out {st : St} {us : List Nat} {rows : List Rw} {p u : Nat} (h : u ∉ us) : ∀ {k : Nat} {R : Rw}, lapsN st us rows p k R u = R u
  | 0, R => rfl
  | k + 1, R => by show lapsN st us rows p k _ u = R u; rw [laps_out h (k := k), fold_out h]
theorem laps_eq {st : St} {order us : List Nat} {rows : List Rw} {p k : Nat} {V R : Rw} (tp : Topo st order) (sol : Sol st order rows p V) (hus : ∀ u, u ∈ us ↔ u ∈ order) (hk : order.length ≤ k) (hR : ∀ t, t ∉ order → R t = none) : lapsN st us rows p k R = V := by
  funext t
  by_cases ht : t ∈ order
  · obtain ⟨j, hj⟩ := List.getElem?_of_mem ht
    have h0 : Upto order V R 0 := fun j t hj => by omega
    exact laps_ok tp sol hus (k := k) h0 j t (by have := (List.getElem?_eq_some_iff.mp hj).1; omega) hj
  · rw [laps_out (fun z => ht ((hus t).mp z)), hR t ht, sol.out t ht]
/-! ### what lasts -/
def lastF (st : St) (left : List Nat) : List Nat := left.filter fun t => (idle st t).any fun b => decide (b ∈ left)
def lastN (st : St) : Nat → List Nat → List Nat
  | 0, l => l
  | k + 1, l => lastN st k (lastF st l)
theorem lastN_filter {st : St} : ∀ {k : Nat} {l : List Nat}, ∃ q : Nat → Bool, lastN st k l = l.filter q
  | 0, l => ⟨fun _ => true, (List.filter_eq_self.mpr fun _ _ => rfl).symm⟩
  | k + 1, l => by
    obtain ⟨q, hq⟩ := lastN_filter (st := st) (k := k) (l := lastF st l)
    refine ⟨fun t => q t && (idle st t).any (fun b => decide (b ∈ l)), ?_⟩
    show lastN st k (lastF st l) = _
    rw [hq]
    unfold lastF
    rw [List.filter_filter]
theorem last_keep {st : St} {W : List Nat} (hW : ∀ t ∈ W, ∃ b ∈ idle st t, b ∈ W) : ∀ {k : Nat} {l : List Nat}, (∀ t ∈ W, t ∈ l) → ∀ t ∈ W, t ∈ lastN st k l
  | 0, l, h, t, ht => h t ht
  | k + 1, l, h, t, ht => last_keep hW (k := k) (l := lastF st l) (fun u hu => by
      obtain ⟨b, hb, hbW⟩ := hW u hu
      exact List.mem_filter.mpr ⟨h u hu, List.any_eq_true.mpr ⟨b, hb, by simpa using h b hbW⟩⟩) t ht
theorem last_drop {st : St} {order : List Nat} (tp : Topo st order) : ∀ {k m : Nat} {l : List Nat}, (∀ j t, j < m → order[j]? = some t → t ∉ l) → ∀ j t, j < m + k → order[j]? = some t → t ∉ lastN st k l
  | 0, m, l, h, j, t, hj, ht => h j t hj ht
  | k + 1, m, l, h, j, t, hj, ht => by
    refine last_drop tp (k := k) (m := m + 1) (l := lastF st l) (fun i u hi hu z => ?_) j t (by omega) ht
    obtain ⟨z1, z2⟩ := List.mem_filter.mp z
    obtain ⟨b, hb, hbl⟩ := List.any_eq_true.mp z2
    have := tp.tp i u hu b hb
    obtain ⟨x, hx⟩ := List.getElem?_of_mem this
    rw [List.getElem?_take] at hx
    split at hx
    · exact h x b (by omega) hx (by simpa using hbl)
    · cases hx
theorem last_eq {st : St} {order things : List Nat} {k : Nat} (tp : Topo st order) (hk : order.length ≤ k) (hc : ∀ t ∈ things, t ∉ order → ∃ b ∈ idle st t, b ∈ things ∧ b ∉ order) : lastN st k things = things.filter fun t => decide (t ∉ order) := by
  obtain ⟨q, hq⟩ := lastN_filter (st := st) (k := k) (l := things)
  rw [hq]
  apply List.filter_congr
  intro t ht
  have h1 : t ∈ lastN st k things ↔ q t = true := by rw [hq, List.mem_filter]; simp [ht]
  have h2 : t ∈ lastN st k things ↔ t ∉ order := by
    constructor
    · intro h z
      obtain ⟨j, hj⟩ := List.getElem?_of_mem z
      exact last_drop tp (k := k) (m := 0) (l := things) (fun i u hi => by omega) j t (by have := (List.getElem?_eq_some_iff.mp hj).1; omega) hj h
    · intro h
      refine last_keep (W := things.filter fun t => decide (t ∉ order)) (fun u hu => ?_) (fun u hu => (List.mem_filter.mp hu).1) t (List.mem_filter.mpr ⟨ht, by simpa using h⟩)
      obtain ⟨u1, u2⟩ := List.mem_filter.mp hu
      obtain ⟨b, b1, b2, b3⟩ := hc u u1 (by simpa using u2)
      exact ⟨b, b1, List.mem_filter.mpr ⟨b2, by simpa using b3⟩⟩
  have h3 := h1.symm.trans h2
  cases hqt : q t with
  | true => simpa [hqt] using h3
  | false => simpa [hqt] using h3
/-! ### the steps of a longest walk -/
theorem fold_none {rows : List Rw} {R : Rw} {p : Nat} : ∀ {row : List (Nat × Nat)}, row.foldl (bstep rows R p) none = none
  | [] => rfl
  | s :: row => by
    simp only [List.foldl_cons]
    have : bstep rows R p none s = none := by unfold bstep; split <;> rfl
    rw [this]
    exact fold_none
theorem fold_max {rows : List Rw} {R : Rw} {p : Nat} : ∀ {row : List (Nat × Nat)} {b m : Nat}, row.foldl (bstep rows R p) (some b) = some m → b ≤ m ∧ (m = b ∨ ∃ s ∈ row, s.1 ≤ p ∧ ∃ v, look rows R p s = some v ∧ m = v + 1) ∧ ∀ s ∈ row, s.1 ≤ p → ∃ v, look rows R p s = some v ∧ v + 1 ≤ m
  | [], b, m, h => by cases h; exact ⟨Nat.le_refl _, .inl rfl, by simp⟩
  | s :: row, b, m, h => by
    simp only [List.foldl_cons] at h
    by_cases hp : s.1 > p
    · have e : bstep rows R p (some b) s = some b := by unfold bstep; rw [if_pos hp]
      rw [e] at h
      obtain ⟨h1, h2, h3⟩ := fold_max h
      refine ⟨h1, h2.imp id fun ⟨u, hu, z⟩ => ⟨u, by simp [hu], z⟩, fun u hu hup => ?_⟩
      rcases List.mem_cons.mp hu with rfl | hu
      · omega
      · exact h3 u hu hup
    · cases hl : look rows R p s with
      | none =>
        have e : bstep rows R p (some b) s = none := by unfold bstep comb; rw [if_neg hp, hl]
        rw [e, fold_none] at h
        cases h
      | some v =>
        have e : bstep rows R p (some b) s = some (max b (v + 1)) := by unfold bstep comb; rw [if_neg hp, hl]
        rw [e] at h
        obtain ⟨h1, h2, h3⟩ := fold_max h
        refine ⟨by omega, ?_, fun u hu hup => ?_⟩
        · rcases h2 with h2 | ⟨u, hu, z⟩
          · by_cases hb : v + 1 ≤ b
            · exact .inl (by omega)
            · exact .inr ⟨s, by simp, by omega, v, hl, by omega⟩
          · exact .inr ⟨u, by simp [hu], z⟩
        · rcases List.mem_cons.mp hu with rfl | hu
          · exact ⟨v, hl, by omega⟩
          · exact h3 u hu hup
end WB

namespace WV
open PySem PySem.Spec PyProof.Rows EL PV
open L2 hiding XE
/-! is_whole -/
noncomputable def ev_is_whole  : Ms :=
  (sRet (eAndV (eUn (dIsi "int") (eV 0)) (eNotV (eUn (dIsi "bool") (eV 0)))))
noncomputable def rf_is_whole  : List D → Fr := runF 1 1 [] none (ev_is_whole )
/-! is_number -/
noncomputable def ev_is_number (F_is_whole : List D → Fr) : Ms :=
  (sRet (eAndV (eCall F_is_whole (eaCons (eV 0) eaNil)) (eBin (dLtI iGe) (eV 0) (eC (.int 0)))))
noncomputable def rf_is_number (F_is_whole : List D → Fr) : List D → Fr := runF 1 1 [] none (ev_is_number F_is_whole)
/-! as_tuples -/
noncomputable def ev_as_tuples (F_as_tuples : List D → Fr) : Ms :=
  (sSeq (sIf (ebT (eUn (dIsi2 ["list", "tuple"]) (eV 0))) (sRet (eA1 dTuple (eLc [1] (itSeq (eV 0)) (gSet 1) ebYes (eCall F_as_tuples (eaCons (eV 1) eaNil))))) sNil)
  (sRet (eV 0)))
noncomputable def rf_as_tuples (F_as_tuples : List D → Fr) : List D → Fr := runF 1 2 [0] none (ev_as_tuples F_as_tuples)
/-! is_index -/
noncomputable def ev_is_index (F_is_whole : List D → Fr) : Ms :=
  (sRet (eAndV (eCall F_is_whole (eaCons (eV 0) eaNil)) (eChain (dLtI iLe) (dLtI iLt) (eC (.int 0)) (eV 0) (eV 1))))
noncomputable def rf_is_index (F_is_whole : List D → Fr) : List D → Fr := runF 2 2 [1] none (ev_is_index F_is_whole)
/-! found_ways -/
noncomputable def ev_found_ways  : Ms :=
  (sSeq (sPar 2 3 (eDc [4] (itSeq (eUn (dFld "Web" "starts") (eV 0))) (gSet 4) ebYes (eV 4) (eC .non)) (eA1 dList (eUn (dFld "Web" "starts") (eV 0))))
  (sSeq (sSet 5 (eC (.int 0)))
  (sSeq (sWhile (ebV (eBin (dLtI iLt) (eV 5) (eA1 dLen (eV 3)))) (sW [6] (sSeq (sFor [] (itSeq (eBin dIx (eUn (dFld "Web" "steps") (eV 0)) (ePure (eBin dIx (eV 3) (eV 5))))) (gSet 6) (sW [6] (sIf (ebAnd (ebV (eBin dNiK (eBin dIx (eV 6) (eC (.int 1))) (eV 2))) (ebOr (ebV (eBin dEq (eBin dIx (eV 6) (eC (.int 0))) (eC (.int 0)))) (ebNot (ebT (eV 1))))) (sSeq (sPut 2 (eBin dIx (eV 6) (eC (.int 1))) (eTup (eaCons (eBin dIx (eV 3) (eV 5)) (eaCons (eV 6) eaNil))))
  (sDrop (eMt "list" 3 dApp (eaCons (eBin dIx (eV 6) (eC (.int 1))) eaNil)))) sNil)))
  (sSet 5 (eBin dAdd (eV 5) (eC (.int 1)))))))
  (sRet (eMv 2)))))
noncomputable def rf_found_ways  : List D → Fr := runF 2 7 [0, 1] none (ev_found_ways )
/-! idle_order -/
noncomputable def ev_idle_order  : Ms :=
  (sSeq (sUnpF [(2, true), (3, true)] (eTupX (eaCons eDic0 (eaCons (eDc [4] (itSeq (eV 1)) (gSet 4) ebYes (eV 4) (eLst eaNil)) eaNil))))
  (sSeq (sFor [] (itSeq (eV 1)) (gSet 4) (sW [4, 5, 7] (sSeq (sSet 5 (eLc [6] (itSeq (eBin dIx (eUn (dFld "Web" "steps") (eV 0)) (eV 4))) (gSet 6) (ebV (eBin dEq (eBin dIx (eV 6) (eC (.int 0))) (eC (.int 0)))) (eBin dIx (eV 6) (eC (.int 1)))))
  (sSeq (sPut 2 (eV 4) (eA1 dLen (eV 5)))
  (sFor [] (itSeq (eV 5)) (gSet 7) (sW [7] (sDrop (ePMt "list" 3 dApp (plIx 3 plV (eV 7)) (eaCons (eV 4) eaNil)))))))))
  (sSeq (sPar 8 9 (eLc [4] (itSeq (eV 1)) (gSet 4) (ebV (eBin dEq (eBin dIx (eV 2) (eV 4)) (eC (.int 0)))) (eV 4)) (eC (.int 0)))
  (sSeq (sWhile (ebV (eBin (dLtI iLt) (eV 9) (eA1 dLen (eV 8)))) (sW [10] (sSeq (sFor [] (itSeq (eBin dIx (eV 3) (ePure (eBin dIx (eV 8) (eV 9))))) (gSet 10) (sW [10] (sSeq (sPut 2 (eV 10) (eBin dSub (eBin dIx (eV 2) (eV 10)) (eC (.int 1))))
  (sIf (ebV (eBin dEq (eBin dIx (eV 2) (eV 10)) (eC (.int 0)))) (sDrop (eMt "list" 8 dApp (eaCons (eV 10) eaNil))) sNil))))
  (sSet 9 (eBin dAdd (eV 9) (eC (.int 1)))))))
  (sRet (eTupX (eaCons (eMv 8) (eaCons (eLc [4] (itSeq (eV 1)) (gSet 4) (ebV (eBin (dLtI iGt) (eBin dIx (eV 2) (eV 4)) (eC (.int 0)))) (eV 4)) eaNil))))))))
noncomputable def rf_idle_order  : List D → Fr := runF 2 11 [0] none (ev_idle_order )
/-! is_better -/
noncomputable def ev_is_better  : Ms :=
  (sSeq (sIf (ebV (eBin dIsN (eV 1) (eC .non))) (sRet (eC (.bl false))) sNil)
  (sRet (eOrV (eBin dIsN (eV 0) (eC .non)) (eBin (dLtI iGt) (eV 0) (eV 1)))))
noncomputable def rf_is_better  : List D → Fr := runF 2 2 [0, 1] none (ev_is_better )
/-! layers -/
noncomputable def ev_layers (F_found_ways : List D → Fr) (F_idle_order : List D → Fr) (F_is_better : List D → Fr) : Ms :=
  (sSeq (sSet 2 (eCall F_found_ways (eaCons (eV 0) (eaCons (eC (.bl false)) eaNil))))
  (sSeq (sUnpF [(3, true), (4, true)] (eCall F_idle_order (eaCons (eV 0) (eaCons (eA1 dKeys (eV 2)) eaNil))))
  (sSeq (sSet 5 (eLst eaNil))
  (sSeq (sFor [] (itR1 (eaCons (eBin dAdd (eV 1) (eC (.int 1))) eaNil)) (gSet 6) (sW [6, 7, 8, 9, 10, 11, 12, 13] (sSeq (sSet 7 (eDc [8] (itSeq (eV 4)) (gSet 8) ebYes (eV 8) (eC .non)))
  (sSeq (sFor [] (itSeq (eV 3)) (gSet 8) (sW [8, 9, 10, 11, 12, 13] (sSeq (sSet 9 (eC (.int 0)))
  (sSeq (sFor [] (itSeq (eBin dIx (eUn (dFld "Web" "steps") (eV 0)) (eV 8))) (gTupD (gsCons (gSet 10) (gsCons (gSet 11) gsNil))) (sW [10, 11, 12, 13] (sSeq (sIf (ebV (eBin (dLtI iGt) (eV 10) (eV 6))) (fun ρ => .ct ρ) sNil)
  (sSeq (sSet 12 (eIf (ebV (eBin dEq (eV 10) (eC (.int 0)))) (ePure (eBin dIx (eV 7) (eV 11))) (ePure (eBin dIx (eBin dIx (eV 5) (eBin dSub (eV 6) (eV 10))) (eV 11)))))
  (sSeq (sSet 13 (eIf (ebV (eBin dIsN (eV 12) (eC .non))) (eC .non) (eBin dAdd (eV 12) (eC (.int 1)))))
  (sSet 9 (eIf (ebT (eCall F_is_better (eaCons (eV 13) (eaCons (eV 9) eaNil)))) (eV 13) (eV 9))))))))
  (sPut 7 (eV 8) (eV 9))))))
  (sDrop (eMt "list" 5 dApp (eaCons (eMv 7) eaNil)))))))
  (sRet (eMv 5))))))
noncomputable def rf_layers (F_found_ways : List D → Fr) (F_idle_order : List D → Fr) (F_is_better : List D → Fr) : List D → Fr := runF 2 14 [0, 1] none (ev_layers F_found_ways F_idle_order F_is_better)
/-! best_of -/
noncomputable def ev_best_of (F_is_better : List D → Fr) : Ms :=
  (sSeq (sSet 2 (eC (.int 0)))
  (sSeq (sFor [] (itSeq (eUn (dFld "Web" "starts") (eV 1))) (gSet 3) (sW [3] (sSet 2 (eIf (ebT (eCall F_is_better (eaCons (eBin dIx (eV 0) (eV 3)) (eaCons (eV 2) eaNil)))) (ePure (eBin dIx (eV 0) (eV 3))) (eV 2)))))
  (sRet (eV 2))))
noncomputable def rf_best_of (F_is_better : List D → Fr) : List D → Fr := runF 2 4 [1] none (ev_best_of F_is_better)
/-! Web.__init__ -/
noncomputable def ev_Web__init__ (F_is_row : List D → Fr) (F_is_ascending : List D → Fr) (F_as_tuples : List D → Fr) : Ms :=
  (sSeq (sIf (ebNot (ebT (eUn (dIsi2 ["list", "tuple"]) (eV 2)))) (fun _ => .st) sNil)
  (sSeq (sFor [] (itSeq (eV 2)) (gSet 3) (sW [3] (sIf (ebNot (ebT (eCall F_is_row (eaCons (eV 3) (eaCons (eA1 dLen (eV 2)) eaNil))))) (fun _ => .st) sNil)))
  (sSeq (sIf (ebNot (ebT (eCall F_is_ascending (eaCons (eV 1) (eaCons (eA1 dLen (eV 2)) eaNil))))) (fun _ => .st) sNil)
  (sSeq (sSto 0 "Web" "starts" (eA1 dTuple (eV 1)))
  (sSto 0 "Web" "steps" (eCall F_as_tuples (eaCons (eV 2) eaNil)))))))
noncomputable def rf_Web__init__ (F_is_row : List D → Fr) (F_is_ascending : List D → Fr) (F_as_tuples : List D → Fr) : List D → Fr := runF 3 4 [1, 2] (some 0) (ev_Web__init__ F_is_row F_is_ascending F_as_tuples)
/-! is_step -/
noncomputable def ev_is_step (F_is_number : List D → Fr) (F_is_index : List D → Fr) : Ms :=
  (sSeq (sIf (ebOr (ebNot (ebT (eUn (dIsi "tuple") (eV 0)))) (ebV (eBin dNe (eA1 dLen (eV 0)) (eC (.int 2))))) (sRet (eC (.bl false))) sNil)
  (sRet (eAndV (eCall F_is_number (eaCons (eBin dIx (eV 0) (eC (.int 0))) eaNil)) (eCall F_is_index (eaCons (eBin dIx (eV 0) (eC (.int 1))) (eaCons (eV 1) eaNil))))))
noncomputable def rf_is_step (F_is_number : List D → Fr) (F_is_index : List D → Fr) : List D → Fr := runF 2 2 [0, 1] none (ev_is_step F_is_number F_is_index)
/-! is_row -/
noncomputable def ev_is_row (F_is_step : List D → Fr) : Ms :=
  (sSeq (sIf (ebOr (ebNot (ebT (eUn (dIsi2 ["list", "tuple"]) (eV 0)))) (ebNot (ebT (eA1 dAll (eLc [2] (itSeq (eV 0)) (gSet 2) ebYes (eCall F_is_step (eaCons (eV 2) (eaCons (eV 1) eaNil)))))))) (sRet (eC (.bl false))) sNil)
  (sRet (eA1 dAll (eLc [3] (itR1 (eaCons (eBin dSub (eA1 dLen (eV 0)) (eC (.int 1))) eaNil)) (gSet 3) ebYes (eBin dLtA (eBin dIx (eV 0) (eV 3)) (eBin dIx (eV 0) (eBin dAdd (eV 3) (eC (.int 1)))))))))
noncomputable def rf_is_row (F_is_step : List D → Fr) : List D → Fr := runF 2 4 [0, 1] none (ev_is_row F_is_step)
/-! is_ascending -/
noncomputable def ev_is_ascending (F_is_index : List D → Fr) : Ms :=
  (sSeq (sIf (ebOr (ebNot (ebT (eUn (dIsi2 ["list", "tuple"]) (eV 0)))) (ebNot (ebT (eA1 dAll (eLc [2] (itSeq (eV 0)) (gSet 2) ebYes (eCall F_is_index (eaCons (eV 2) (eaCons (eV 1) eaNil)))))))) (sRet (eC (.bl false))) sNil)
  (sRet (eA1 dAll (eLc [3] (itR1 (eaCons (eBin dSub (eA1 dLen (eV 0)) (eC (.int 1))) eaNil)) (gSet 3) ebYes (eBin (dLtI iLt) (eBin dIx (eV 0) (eV 3)) (eBin dIx (eV 0) (eBin dAdd (eV 3) (eC (.int 1)))))))))
noncomputable def rf_is_ascending (F_is_index : List D → Fr) : List D → Fr := runF 2 4 [0, 1] none (ev_is_ascending F_is_index)
/-! need_carried -/
noncomputable def ev_need_carried (F_is_number : List D → Fr) : Ms :=
  (sIf (ebOr (ebNot (ebT (eCall F_is_number (eaCons (eV 0) eaNil)))) (ebV (eBin (dLtI iGt) (eV 0) (eC (.int 200))))) (fun _ => .st) sNil)
noncomputable def rf_need_carried (F_is_number : List D → Fr) : List D → Fr := runF 1 1 [0] none (ev_need_carried F_is_number)
/-! length -/
noncomputable def ev_length (F_need_carried : List D → Fr) (F_best_of : List D → Fr) (F_layers : List D → Fr) : Ms :=
  (sSeq (sDrop (eCall F_need_carried (eaCons (eV 1) eaNil)))
  (sRet (eCall F_best_of (eaCons (eBin dIx (eCall F_layers (eaCons (eV 0) (eaCons (eV 1) eaNil))) (eV 1)) (eaCons (eV 0) eaNil)))))
noncomputable def rf_length (F_need_carried : List D → Fr) (F_best_of : List D → Fr) (F_layers : List D → Fr) : List D → Fr := runF 2 2 [0, 1] none (ev_length F_need_carried F_best_of F_layers)
/-! lengths -/
noncomputable def ev_lengths (F_need_carried : List D → Fr) (F_layers : List D → Fr) (F_best_of : List D → Fr) : Ms :=
  (sSeq (sDrop (eCall F_need_carried (eaCons (eV 1) eaNil)))
  (sRet (eA1 dTuple (eLc [2] (itSeqX (eCall F_layers (eaCons (eV 0) (eaCons (eV 1) eaNil)))) (gSet 2) ebYes (eCall F_best_of (eaCons (eV 2) (eaCons (eV 0) eaNil)))))))
noncomputable def rf_lengths (F_need_carried : List D → Fr) (F_layers : List D → Fr) (F_best_of : List D → Fr) : List D → Fr := runF 2 3 [0, 1] none (ev_lengths F_need_carried F_layers F_best_of)
/-! walk_of -/
noncomputable def ev_walk_of (F_need_carried : List D → Fr) (F_layers : List D → Fr) (F_best_of : List D → Fr) : Ms :=
  (sSeq (sDrop (eCall F_need_carried (eaCons (eV 1) eaNil)))
  (sSeq (sSet 2 (eCall F_layers (eaCons (eV 0) (eaCons (eV 1) eaNil))))
  (sSeq (sSet 3 (eCall F_best_of (eaCons (eBin dIx (eV 2) (eV 1)) (eaCons (eV 0) eaNil))))
  (sSeq (sIf (ebOr (ebV (eBin dIsN (eV 3) (eC .non))) (ebNot (ebT (eUn (dFld "Web" "starts") (eV 0))))) (sRet (eC .non)) sNil)
  (sSeq (sSet 4 (ePure (eBin dIx (eLc [5] (itSeq (eUn (dFld "Web" "starts") (eV 0))) (gSet 5) (ebV (eBin dEq (eBin dIx (eBin dIx (eV 2) (eV 1)) (eV 5)) (eV 3))) (eV 5)) (eC (.int 0)))))
  (sSeq (sParN [(5, false), (6, true), (7, false)] (eaCons (eV 4) (eaCons (eLst eaNil) (eaCons (eV 1) eaNil))))
  (sSeq (sWhile (ebV (eBin (dLtI iGt) (eBin dIx (eBin dIx (eV 2) (eV 7)) (eV 4)) (eC (.int 0)))) (sW [8] (sFor [] (itSeq (eBin dIx (eUn (dFld "Web" "steps") (eV 0)) (eV 4))) (gSet 8) (sW [8] (sIf (ebAnd (ebV (eBin (dLtI iLe) (eBin dIx (eV 8) (eC (.int 0))) (eV 7))) (ebV (eBin dEq (eBin dIx (eBin dIx (eV 2) (eBin dSub (eV 7) (eBin dIx (eV 8) (eC (.int 0))))) (eBin dIx (eV 8) (eC (.int 1)))) (eBin dSub (eBin dIx (eBin dIx (eV 2) (eV 7)) (eV 4)) (eC (.int 1)))))) (sSeq (sDrop (eMt "list" 6 dApp (eaCons (eV 8) eaNil)))
  (sSeq (sPar 7 4 (eBin dSub (eV 7) (eBin dIx (eV 8) (eC (.int 0)))) (eBin dIx (eV 8) (eC (.int 1))))
  (fun ρ => .bk ρ))) sNil)))))
  (sRet (eTup (eaCons (eV 5) (eaCons (eA1 dTuple (eV 6)) eaNil)))))))))))
noncomputable def rf_walk_of (F_need_carried : List D → Fr) (F_layers : List D → Fr) (F_best_of : List D → Fr) : List D → Fr := runF 2 9 [0, 1] none (ev_walk_of F_need_carried F_layers F_best_of)
/-! _law_web -/
noncomputable def ev__law_web (F__law_draw : List D → Fr) (F__law_pick : List D → Fr) : Ms :=
  (sSeq (sPar 3 4 (eLst eaNil) (eBin dEq (eCallI F__law_draw 0 (eiHere 0 (eaCons (eC (.int 3)) eaNil))) (eC (.int 0))))
  (sSeq (sFor [] (itR1 (eaCons (eV 1) eaNil)) (gSet 5) (sW [5, 6, 7, 8, 9] (sSeq (sSet 6 (eLst eaNil))
  (sSeq (sFor [] (itR1 (eaCons (eCallI F__law_pick 0 (eiHere 0 (eaCons (eLst (eaCons (eC (.int 0)) (eaCons (eC (.int 1)) (eaCons (eC (.int 1)) (eaCons (eC (.int 2)) (eaCons (eC (.int 3)) eaNil)))))) eaNil))) eaNil)) (gSet 7) (sW [7, 8, 9] (sSeq (sSet 8 (eCallI F__law_draw 0 (eiHere 0 (eaCons (eV 1) eaNil))))
  (sSeq (sSet 9 (eCallI F__law_draw 0 (eiHere 0 (eaCons (eBin dAdd (eV 2) (eC (.int 1))) eaNil))))
  (sSeq (sSet 9 (eIf (ebAnd (ebT (eV 4)) (ebV (eBin (dLtI iLe) (eV 8) (eV 5)))) (eBin dAdd (eC (.int 1)) (eCallI F__law_draw 0 (eiHere 0 (eaCons (eV 2) eaNil)))) (eV 9)))
  (sSet 6 (eIf (ebV (eBin dIn (eTup (eaCons (eV 9) (eaCons (eV 8) eaNil))) (eV 6))) (eMv 6) (eBin dAddL (eV 6) (eLst (eaCons (eTup (eaCons (eV 9) (eaCons (eV 8) eaNil))) eaNil))))))))))
  (sDrop (eMt "list" 3 dApp (eaCons (eA1 dTuple (eA1 dSorted (eV 6))) eaNil)))))))
  (sSeq (sSet 10 (eLc [5] (itR1 (eaCons (eV 1) eaNil)) (gSet 5) (ebV (eBin dEq (eCallI F__law_draw 0 (eiHere 0 (eaCons (eC (.int 3)) eaNil))) (eC (.int 0)))) (eV 5)))
  (sRet (eTup (eaCons (eA1 dTuple (eV 10)) (eaCons (eA1 dTuple (eV 3)) eaNil)))))))
noncomputable def rf__law_web (F__law_draw : List D → Fr) (F__law_pick : List D → Fr) : List D → Fr := runF 3 11 [1, 2] (some 0) (ev__law_web F__law_draw F__law_pick)
/-! _law_met -/
noncomputable def ev__law_met  : Ms :=
  (sSeq (sSet 2 (eA1 dList (eBin dIx (eV 0) (eC (.int 0)))))
  (sSeq (sSet 3 (eC (.int 0)))
  (sSeq (sWhile (ebV (eBin (dLtI iLt) (eV 3) (eA1 dLen (eV 2)))) (sW [4, 5] (sSeq (sFor [] (itSeq (eBin dIx (eBin dIx (eV 0) (eC (.int 1))) (ePure (eBin dIx (eV 2) (eV 3))))) (gTupD (gsCons (gSet 4) (gsCons (gSet 5) gsNil))) (sW [4, 5] (sIf (ebAnd (ebV (eBin dNotIn (eV 5) (eV 2))) (ebOr (ebV (eBin dEq (eV 4) (eC (.int 0)))) (ebNot (ebT (eV 1))))) (sDrop (eMt "list" 2 dApp (eaCons (eV 5) eaNil))) sNil)))
  (sSet 3 (eBin dAdd (eV 3) (eC (.int 1)))))))
  (sRet (eMv 2)))))
noncomputable def rf__law_met  : List D → Fr := runF 2 6 [0, 1] none (ev__law_met )
/-! _law_lasting -/
noncomputable def ev__law_lasting  : Ms :=
  (sSeq (sSet 2 (eA1 dList (eV 1)))
  (sSeq (sFor [] (itR1 (eaCons (eBin dAdd (eA1 dLen (eV 1)) (eC (.int 1))) eaNil)) (gSet 3) (sW [3] (sSet 2 (eLc [4] (itSeq (eV 2)) (gSet 4) (ebV (eBin dNe (eLc [5, 6] (itSeq (eBin dIx (eBin dIx (eV 0) (eC (.int 1))) (eV 4))) (gTupD (gsCons (gSet 5) (gsCons (gSet 6) gsNil))) (ebAnd (ebV (eBin dEq (eV 5) (eC (.int 0)))) (ebV (eBin dIn (eV 6) (eV 2)))) (eC (.int 1))) (eLst eaNil))) (eV 4)))))
  (sRet (eMv 2))))
noncomputable def rf__law_lasting  : List D → Fr := runF 2 7 [0] none (ev__law_lasting )
/-! _law_farthest -/
noncomputable def ev__law_farthest (F__law_met : List D → Fr) (F__law_lasting : List D → Fr) (F__law_best : List D → Fr) : Ms :=
  (sSeq (sSet 2 (eCall F__law_met (eaCons (eV 0) (eaCons (eC (.bl false)) eaNil))))
  (sSeq (sUnpF [(3, true), (4, true)] (eTupX (eaCons (eCall F__law_lasting (eaCons (eV 0) (eaCons (eV 2) eaNil))) (eaCons (eLst eaNil) eaNil))))
  (sSeq (sFor [] (itR1 (eaCons (eBin dAdd (eV 1) (eC (.int 1))) eaNil)) (gSet 5) (sW [5, 6, 7, 8] (sSeq (sSet 6 eDic0)
  (sSeq (sFor [] (itSeq (eV 3)) (gSet 7) (sW [7] (sPut 6 (eV 7) (eC .non))))
  (sSeq (sP [7] (sFor [] (itR1 (eaCons (eBin dAdd (eA1 dLen (eV 2)) (eC (.int 1))) eaNil)) (gSet 8) (sW [7, 8] (sP [7] (sFor [] (itSeq (eV 2)) (gSet 7) (sW [7] (sIf (ebV (eBin dNotIn (eV 7) (eV 3))) (sPut 6 (eV 7) (eCall F__law_best (eaCons (eV 0) (eaCons (eV 4) (eaCons (eV 6) (eaCons (eV 7) (eaCons (eV 5) eaNil))))))) sNil)))))))
  (sDrop (eMt "list" 4 dApp (eaCons (eMv 6) eaNil))))))))
  (sSeq (sSet 9 (eLc [10] (itSeq (eBin dIx (eV 0) (eC (.int 0)))) (gSet 10) ebYes (eBin dIx (eBin dIx (eV 4) (eV 1)) (eV 10))))
  (sRet (eIf (ebV (eBin dIn (eC .non) (eV 9))) (eC .non) (eA1 dMax (eBin dAddL (eLst (eaCons (eC (.int 0)) eaNil)) (eV 9)))))))))
noncomputable def rf__law_farthest (F__law_met : List D → Fr) (F__law_lasting : List D → Fr) (F__law_best : List D → Fr) : List D → Fr := runF 2 11 [0, 1] none (ev__law_farthest F__law_met F__law_lasting F__law_best)
/-! _law_best -/
noncomputable def ev__law_best  : Ms :=
  (sSeq (sSet 5 (eC (.int 0)))
  (sSeq (sFor [] (itSeq (eBin dIx (eBin dIx (eV 0) (eC (.int 1))) (eV 3))) (gTupD (gsCons (gSet 6) (gsCons (gSet 7) gsNil))) (sW [6, 7, 8] (sIf (ebAnd (ebV (eBin (dLtI iLe) (eV 6) (eV 4))) (ebV (eBin dNotN (eV 5) (eC .non)))) (sSeq (sSet 8 (eIf (ebV (eBin dEq (eV 6) (eC (.int 0)))) (ePure (eGet2 (eV 2) (eV 7) (eC (.int 0)))) (ePure (eBin dIx (eBin dIx (eV 1) (eBin dSub (eV 4) (eV 6))) (eV 7)))))
  (sSet 5 (eIf (ebV (eBin dIsN (eV 8) (eC .non))) (eC .non) (eN dMax2 (eaCons (eV 5) (eaCons (eBin dAdd (eV 8) (eC (.int 1))) eaNil)))))) sNil)))
  (sRet (eV 5))))
noncomputable def rf__law_best  : List D → Fr := runF 5 9 [0, 3, 4] none (ev__law_best )
/-! _law_walked -/
noncomputable def ev__law_walked  : Ms :=
  (sSeq (sIf (ebNot (ebT (eUn (dIsi "tuple") (eV 2)))) (sRet (eC .non)) sNil)
  (sSeq (sFor [] (itSeq (eV 2)) (gSet 3) (sW [3] (sSeq (sIf (ebOr (ebNot (ebT (eUn (dIsi "tuple") (eV 3)))) (ebV (eBin dNotIn (eV 3) (eBin dIx (eBin dIx (eV 0) (eC (.int 1))) (eV 1))))) (sRet (eC .non)) sNil)
  (sSet 1 (eBin dIx (eV 3) (eC (.int 1)))))))
  (sRet (eV 1))))
noncomputable def rf__law_walked  : List D → Fr := runF 3 4 [0, 1, 2] none (ev__law_walked )
/-! _law_heavy -/
noncomputable def ev__law_heavy  : Ms :=
  (sRet (eA1 dSum (eLc [1] (itSeq (eV 0)) (gSet 1) ebYes (eBin dIx (eV 1) (eC (.int 0))))))
noncomputable def rf__law_heavy  : List D → Fr := runF 1 2 [0] none (ev__law_heavy )
/-! _law_made_web -/
noncomputable def ev__law_made_web (F_Web : List D → Fr) : Ms :=
  (sRet (eMake "Web" F_Web (eaCons (eBin dIx (eV 0) (eC (.int 0))) (eaCons (eBin dIx (eV 0) (eC (.int 1))) eaNil))))
noncomputable def rf__law_made_web (F_Web : List D → Fr) : List D → Fr := runF 1 1 [0] none (ev__law_made_web F_Web)
end WV

/-! webs as values; what is met -/
namespace WV
open PySem PySem.Spec PyProof.Rows EL PV WB
open L2 hiding XE
def stepD (s : Nat × Nat) : D := .tup [.int (s.1 : Int), .int (s.2 : Int)]
def rowD (row : List (Nat × Nat)) : D := .tup (row.map stepD)
def intsT (xs : List Nat) : List D := xs.map fun t : Nat => .int (t : Int)
structure Wb where
  starts : List Nat
  steps : List (List (Nat × Nat))
def Wb.n (w : Wb) : Nat := w.steps.length
def Wb.st (w : Wb) : WB.St := fun t => w.steps.getD t []
def Wb.fs (w : Wb) : List (Str × D) := [("starts", .tup (intsT w.starts)), ("steps", .tup (w.steps.map rowD))]
def webD (w : Wb) : D := .ins "Web" w.fs
def ltS (a b : Nat × Nat) : Bool := decide (a.1 < b.1 ∨ (a.1 = b.1 ∧ a.2 < b.2))
structure Wb.Ok (w : Wb) : Prop where
  gs : Good w.n w.starts
  bd : ∀ row ∈ w.steps, ∀ s ∈ row, s.2 < w.n
  hv : ∀ row ∈ w.steps, ∀ s ∈ row, s.1 ≤ 1000
  nd : ∀ row ∈ w.steps, row.Nodup
  asc : ∀ row ∈ w.steps, row.Pairwise fun a b => ltS a b = true
  ass : w.starts.Pairwise fun a b => a < b
  nn : w.n ≤ 1000
  rl : ∀ row ∈ w.steps, row.length ≤ 1000
section
variable {w : Wb}
theorem Wb.Ok.Bd (h : w.Ok) : WB.Bd w.st w.n := fun t ht s hs => by
  have e : w.st t = w.steps[t] := by unfold Wb.st; rw [List.getD_eq_getElem?_getD, List.getElem?_eq_getElem ht]; rfl
  rw [e] at hs
  exact h.bd _ (List.getElem_mem ht) s hs
theorem st_at {t : Nat} (h : t < w.n) : (w.steps.map rowD)[t]? = some (rowD (w.st t)) := by
  unfold Wb.st
  rw [List.getElem?_map, List.getD_eq_getElem?_getD, List.getElem?_eq_getElem h]; rfl
theorem st_mem {t : Nat} (h : t < w.n) : w.st t ∈ w.steps := by
  unfold Wb.st
  rw [List.getD_eq_getElem?_getD, List.getElem?_eq_getElem h]
  exact List.getElem_mem h
theorem idle_nd {row : List (Nat × Nat)} (h : row.Nodup) : (row.filterMap fun s => if s.1 = 0 then some s.2 else none).Nodup := by
  induction row with
  | nil => exact List.nodup_nil
  | cons s row ih =>
    obtain ⟨h1, h2⟩ := List.nodup_cons.mp h
    rw [List.filterMap_cons]
    by_cases hs : s.1 = 0
    · rw [if_pos hs]
      refine List.nodup_cons.mpr ⟨fun z => h1 ?_, ih h2⟩
      obtain ⟨u, hu, e⟩ := List.mem_filterMap.mp z
      by_cases hu0 : u.1 = 0
      · rw [if_pos hu0] at e
        have : u = s := by
          obtain ⟨a, b⟩ := u
          obtain ⟨c, d⟩ := s
          simp only [Option.some.injEq] at e
          simp_all
        exact this ▸ hu
      · rw [if_neg hu0] at e; cases e
    · rw [if_neg hs]; exact ih h2
theorem Wb.Ok.idn (h : w.Ok) {t : Nat} (ht : t < w.n) : (idle w.st t).Nodup := idle_nd (h.nd _ (st_mem ht))
@[simp] theorem fld_starts : fldD "starts" w.fs = some (.tup (intsT w.starts)) := by
  have : pureDs (intsT w.starts) = true := pureDs_map fun _ => rfl
  simp [Wb.fs, this]
theorem pu_row {row : List (Nat × Nat)} : pureD (rowD row) = true := by
  simp only [rowD, z_pu_tup]
  exact pureDs_map fun _ => rfl
theorem pu_ints {xs : List Nat} : pureDs (intsT xs) = true := pureDs_map fun _ => rfl
theorem pu_steps {ss : List (List (Nat × Nat))} : pureDs (ss.map rowD) = true := pureDs_map fun _ => pu_row
@[simp] theorem fld_steps : fldD "steps" w.fs = some (.tup (w.steps.map rowD)) := by
  simp [Wb.fs, pu_ints, pu_steps]
@[simp] theorem pf_web : pureFs w.fs = true := by simp [Wb.fs, pu_ints, pu_steps]
@[simp] theorem pu_web : pureD (webD w) = true := by simp [webD]
theorem ix_web {t : Nat} (h : t < w.n) : dIx (.tup (w.steps.map rowD)) (.int (t : Int)) = some (rowD (w.st t)) := by
  rw [z_ix_tup, st_at h]
theorem ix_int {xs : List Nat} {i t : Nat} (h : xs[i]? = some t) : dIx (.lst (intsT xs)) (.int (i : Int)) = some (.int (t : Int)) := by
  rw [z_ix_lst, intsT, List.getElem?_map, h]; rfl
end
theorem items_row {row : List (Nat × Nat)} : itemsD (rowD row) = some (row.map stepD) := by
  have : pureDs (row.map stepD) = true := pureDs_map fun _ => rfl
  simp [rowD, itemsD, this]
theorem mem_row {w : Wb} {t : Nat} (ht : t < w.n) {s : Nat × Nat} (hs : s ∈ w.st t) (h : w.Ok) : s.2 < w.n ∧ s.1 ≤ 1000 := ⟨h.Bd t ht s hs, h.hv _ (st_mem ht) s hs⟩
/-! ### found_ways -/
section
variable {w : Wb}
abbrev FS := (Nat → D) × List Nat
def fwS (idle : Bool) (t : Nat) (S : FS) (s : Nat × Nat) : FS := if s.2 ∉ S.2 ∧ okS idle s = true then (setN S.1 s.2 (.tup [.int (t : Int), stepD s]), S.2 ++ [s.2]) else S
theorem fw_line {idle : Bool} {t : Nat} : ∀ {row : List (Nat × Nat)} {S : FS}, (row.foldl (fwS idle t) S).2 = pushes idle S.2 row
  | [], S => rfl
  | s :: row, S => by
    simp only [List.foldl_cons, pushes]
    rw [fw_line]
    unfold pushes fwS push1
    split <;> rfl
abbrev WS := FS × Nat
def fwE (w : Wb) (idle : Bool) (S : WS) : EL.Env := [some (.ins "Web" w.fs), some (.bl idle), some (natD S.1.2 S.1.1), some (.lst (intsT S.1.2)), none, some (.int (S.2 : Int)), none]
def fwC (S : WS) : Bool := decide (S.2 < S.1.2.length)
def fwN (w : Wb) (idle : Bool) (S : WS) : WS := ((w.st (S.1.2.getD S.2 0)).foldl (fwS idle (S.1.2.getD S.2 0)) S.1, S.2 + 1)
theorem fw_go {idle : Bool} : ∀ {k : Nat} {S : WS}, (goW fwC (fwN w idle) k S).1.2 = bfs w.st idle k S.2 S.1.2
  | 0, S => rfl
  | k + 1, S => by
    unfold goW bfs
    cases q : S.1.2[S.2]? with
    | none =>
      have : fwC S = false := by simpa [fwC] using List.getElem?_eq_none_iff.mp q
      simp [this]
    | some t =>
      obtain ⟨h1, h2⟩ := List.getElem?_eq_some_iff.mp q
      have : fwC S = true := by simpa [fwC] using h1
      rw [if_pos this, fw_go]
      have e : S.1.2.getD S.2 0 = t := by rw [List.getD_eq_getElem?_getD, q]; rfl
      simp only [fwN, e, fw_line]
theorem found_ways_ok (h : w.Ok) (idle : Bool) : ∃ F, rf_found_ways [webD w, .bl idle] = .ok (natD (met w.st w.n idle w.starts) F) .non := by
  have hn := h.nn
  have gl := nodup_len h.gs
  simp [rf_found_ways, ev_found_ways, webD, pu_ints]
  have dc := kDc_nat (vs := [4]) (bd := gSet 4) (tt := ebYes) (kk := eV 4) (ee := eC .non) (ρ := [some (.ins "Web" w.fs), some (.bl idle), none, none, none, none, none]) (F := fun _ => .non) h.gs.nd (sz_le (by omega)) fun t ht => ⟨_, rfl, ⟨_, rfl⟩, ⟨_, rfl⟩, _, rfl⟩
  have dc' : kDc [4] (gSet 4) ebYes (eV 4) (eC .non) (intsT w.starts) [some (.ins "Web" w.fs), some (.bl idle), none, none, none, none, none] = .ok (natD w.starts fun _ => .non) [some (.ins "Web" w.fs), some (.bl idle), none, none, none, none, none] := dc
  rw [dc']
  simp [pu_ints, dList]
  generalize hb : sW [6] _ = body
  obtain ⟨w1, w2, w3⟩ := while_go (c := ebV (eBin (dLtI iLt) (eV 5) (eA1 dLen (eV 3)))) (body := body) (fwE w idle) fwC (fwN w idle) (fun S => Good w.n S.1.2 ∧ S.2 ≤ S.1.2.length) (fun S => w.n + 1 - S.2) (fun S hS => by
    simp [fwE, fwC, intsT]) (fun S hS hc => by
    have hc' : S.2 < S.1.2.length := by simpa [fwC] using hc
    obtain ⟨t, ht⟩ : ∃ t, S.1.2[S.2]? = some t := ⟨_, List.getElem?_eq_getElem hc'⟩
    have tn := hS.1.lt t (List.mem_of_getElem? ht)
    have e : S.1.2.getD S.2 0 = t := by rw [List.getD_eq_getElem?_getD, ht]; rfl
    have l1 := nodup_len hS.1
    subst hb
    refine ⟨.inl ?_, ⟨?_, ?_⟩, ?_⟩
    · simp [fwE, ix_int ht, ix_web tn]
      rw [items_row]
      simp
      rw [loop_fold (fun S1 : FS => [some (.ins "Web" w.fs), some (.bl idle), some (natD S1.2 S1.1), some (.lst (intsT S1.2)), none, some (.int (S.2 : Int)), none]) (fwS idle t) (fun S1 => Good w.n S1.2 ∧ S1.2[S.2]? = some t) S.1 rfl ⟨hS.1, ht⟩ fun S1 hS1 s hs => ?_]
      · have e' : S.1.2[S.2]?.getD 0 = t := by rw [ht]; rfl
        simp [fwN, e']
      · obtain ⟨hs2, hs1⟩ := mem_row tn hs h
        have l2 := nodup_len hS1.1
        refine ⟨.inl ?_, ?_⟩
        · have a1 : (intsT S1.2)[S.2]? = some (.int (t : Int)) := by rw [intsT, List.getElem?_map, hS1.2]; rfl
          have a2 : (intsT S1.2).length < sizeLine := by rw [intsT, List.length_map]; exact sz_lt (by omega)
          by_cases hm : s.2 ∈ S1.2
          · simp [stepD, ni_natD, hm, fwS]
          · have a3 := put_natD_new (F := S1.1) (t := s.2) (y := .tup [.int (t : Int), stepD s]) (sz_lt (by omega)) hm
            have a4 : intsT (S1.2 ++ [s.2]) = intsT S1.2 ++ [.int (s.2 : Int)] := by simp [intsT]
            by_cases h0 : s.1 = 0
            · simp [stepD, ni_natD, hm, h0, fwS, okS, a1]
              simp [stepD, h0] at a3
              simp [a3, dApp, a2, a4]
            · cases idle <;> simp [stepD, ni_natD, hm, h0, fwS, okS, a1]
              simp [stepD] at a3
              simp [a3, dApp, a2, a4]
        · unfold fwS
          split
          · rename_i z
            have g := push1_good (idle := idle) (s := s) hS1.1 hs2
            unfold push1 at g
            rw [if_pos z] at g
            exact ⟨g, by rw [List.getElem?_append_left (List.getElem?_eq_some_iff.mp hS1.2).1]; exact hS1.2⟩
          · exact hS1
    · simp only [fwN, e, fw_line]
      exact pushes_good hS.1 (h.Bd t tn)
    · simp only [fwN, e, fw_line]
      have := (pushes_pre (idle := idle) (row := w.st t) (f := S.1.2)).length_le
      omega
    · simp only [fwN]; omega) (k := w.n + 1) (s := ((fun _ => .non, w.starts), 0)) ⟨h.gs, Nat.zero_le _⟩ (by simp)
  have e0 : fwE w idle ((fun _ => .non, w.starts), 0) = [some (.ins "Web" w.fs), some (.bl idle), some (natD w.starts fun _ => .non), some (.lst (intsT w.starts)), none, some (.int 0), none] := rfl
  rw [e0] at w1
  rw [w1]
  have e1 := fw_go (w := w) (idle := idle) (k := w.n + 1) (S := ((fun _ => .non, w.starts), 0))
  generalize goW fwC (fwN w idle) (w.n + 1) ((fun _ => .non, w.starts), 0) = S at e1
  simp [fwE]
  exact ⟨S.1.1, by rw [e1]; rfl⟩
end
end WV

/-! the law's own look at what is met; best_of, the law's best -/
namespace WV
open PySem PySem.Spec PyProof.Rows EL PV WB
open L2 hiding XE
def tupW (w : Wb) : D := .tup [.tup (intsT w.starts), .tup (w.steps.map rowD)]
section
variable {w : Wb}
@[simp] theorem pu_tupW : pureD (tupW w) = true := by simp [tupW, pu_ints, pu_steps]
theorem not_in_ints {xs : List Nat} {t : Nat} : dNotIn (.int (t : Int)) (.lst (intsT xs)) = some (.bl (!decide (t ∈ xs))) := by
  have h1 : okNs 63 (intsT xs) = true := okNs_map fun _ _ => by simp
  have h2 : ((intsT xs).any fun z => eqvD z (.int (t : Int))) = decide (t ∈ xs) := by
    rw [Bool.eq_iff_iff]
    simp only [intsT, List.any_map, List.any_eq_true, Function.comp, decide_eq_true_eq]
    constructor
    · rintro ⟨x, hx, e⟩
      simp [eqvD] at e
      have : x = t := by omega
      exact this ▸ hx
    · intro h
      exact ⟨t, h, by simp [eqvD]⟩
  simp [dNotIn, inD, h1, h2]
theorem in_ints {xs : List Nat} {t : Nat} : dIn (.int (t : Int)) (.lst (intsT xs)) = some (.bl (decide (t ∈ xs))) := by
  have := not_in_ints (xs := xs) (t := t)
  unfold dNotIn at this
  unfold dIn
  cases h : inD (.int (t : Int)) (.lst (intsT xs)) with
  | none => rw [h] at this; cases this
  | some b =>
    rw [h] at this
    simp only [Option.map_some, Option.some.injEq, D.bl.injEq] at this ⊢
    cases b <;> cases h2 : decide (t ∈ xs) <;> simp_all
abbrev MS := List Nat × Nat
def mtE (w : Wb) (idle : Bool) (S : MS) : EL.Env := [some (tupW w), some (.bl idle), some (.lst (intsT S.1)), some (.int (S.2 : Int)), none, none]
def mtC (S : MS) : Bool := decide (S.2 < S.1.length)
def mtN (w : Wb) (idle : Bool) (S : MS) : MS := (pushes idle S.1 (w.st (S.1.getD S.2 0)), S.2 + 1)
theorem mt_go {idle : Bool} : ∀ {k : Nat} {S : MS}, (goW mtC (mtN w idle) k S).1 = bfs w.st idle k S.2 S.1
  | 0, S => rfl
  | k + 1, S => by
    unfold goW bfs
    cases q : S.1[S.2]? with
    | none =>
      have : mtC S = false := by simpa [mtC] using List.getElem?_eq_none_iff.mp q
      simp [this]
    | some t =>
      obtain ⟨h1, h2⟩ := List.getElem?_eq_some_iff.mp q
      have : mtC S = true := by simpa [mtC] using h1
      rw [if_pos this, mt_go]
      have e : S.1.getD S.2 0 = t := by rw [List.getD_eq_getElem?_getD, q]; rfl
      simp only [mtN, e]
theorem law_met_ok (h : w.Ok) (idle : Bool) : rf__law_met [tupW w, .bl idle] = .ok (.lst (intsT (met w.st w.n idle w.starts))) .non := by
  have hn := h.nn
  have gl := nodup_len h.gs
  simp [rf__law_met, ev__law_met]
  simp [tupW, pu_ints, dList]
  generalize hb : sW [4, 5] _ = body
  obtain ⟨w1, w2, w3⟩ := while_go (c := ebV (eBin (dLtI iLt) (eV 3) (eA1 dLen (eV 2)))) (body := body) (mtE w idle) mtC (mtN w idle) (fun S => Good w.n S.1 ∧ S.2 ≤ S.1.length) (fun S => w.n + 1 - S.2) (fun S hS => by
    simp [mtE, mtC, intsT]) (fun S hS hc => by
    have hc' : S.2 < S.1.length := by simpa [mtC] using hc
    obtain ⟨t, ht⟩ : ∃ t, S.1[S.2]? = some t := ⟨_, List.getElem?_eq_getElem hc'⟩
    have tn := hS.1.lt t (List.mem_of_getElem? ht)
    have e : S.1.getD S.2 0 = t := by rw [List.getD_eq_getElem?_getD, ht]; rfl
    have e' : S.1[S.2]?.getD 0 = t := by rw [ht]; rfl
    have l1 := nodup_len hS.1
    subst hb
    refine ⟨.inl ?_, ⟨?_, ?_⟩, ?_⟩
    · simp [mtE, tupW, ix_int ht, st_at tn]
      rw [items_row]
      simp
      rw [loop_fold (fun f : List Nat => [some (.tup [.tup (intsT w.starts), .tup (w.steps.map rowD)]), some (.bl idle), some (.lst (intsT f)), some (.int (S.2 : Int)), none, none]) (push1 idle) (fun f => Good w.n f) S.1 rfl hS.1 fun f hf s hs => ?_]
      · simp [mtN, e', pushes]
      · obtain ⟨hs2, hs1⟩ := mem_row tn hs h
        have l2 := nodup_len hf
        refine ⟨.inl ?_, push1_good hf hs2⟩
        have a2 : (intsT f).length < sizeLine := by rw [intsT, List.length_map]; exact sz_lt (by omega)
        have a4 : intsT (f ++ [s.2]) = intsT f ++ [.int (s.2 : Int)] := by simp [intsT]
        by_cases hm : s.2 ∈ f
        · simp [stepD, not_in_ints, hm, push1]
        · by_cases h0 : s.1 = 0
          · simp [stepD, not_in_ints, hm, h0, push1, okS, dApp, a2, a4]
          · cases idle <;> simp [stepD, not_in_ints, hm, h0, push1, okS, dApp, a2, a4]
    · simp only [mtN, e]
      exact pushes_good hS.1 (h.Bd t tn)
    · simp only [mtN, e]
      have := (pushes_pre (idle := idle) (row := w.st t) (f := S.1)).length_le
      omega
    · simp only [mtN]; omega) (k := w.n + 1) (s := (w.starts, 0)) ⟨h.gs, Nat.zero_le _⟩ (by simp)
  have e0 : mtE w idle (w.starts, 0) = [some (.tup [.tup (intsT w.starts), .tup (w.steps.map rowD)]), some (.bl idle), some (.lst (intsT w.starts)), some (.int 0), none, none] := rfl
  rw [e0] at w1
  rw [w1]
  have e1 := mt_go (w := w) (idle := idle) (k := w.n + 1) (S := (w.starts, 0))
  generalize goW mtC (mtN w idle) (w.n + 1) (w.starts, 0) = S at e1
  simp [mtE]
  rw [e1]
  rfl
/-! ### is_better, best_of -/
def oD : Option Nat → D
  | none => .non
  | some v => .int (v : Int)
def better (a b : Option Nat) : Bool := match b, a with
  | none, _ => false
  | some _, none => true
  | some y, some x => decide (y < x)
theorem is_better_ok (a b : Option Nat) : rf_is_better [oD a, oD b] = .ok (.bl (better a b)) .non := by
  cases a <;> cases b <;> simp [rf_is_better, ev_is_better, oD, better]
def bst (b o : Option Nat) : Option Nat := match b, o with
  | none, _ => none
  | some _, none => none
  | some b, some v => some (max b v)
def bestS (R : Rw) (starts : List Nat) : Option Nat := starts.foldl (fun b t => bst b (R t)) (some 0)
theorem bst_eq (b o : Option Nat) : (if better o b = true then o else b) = bst b o := by
  cases b with
  | none => rfl
  | some y =>
    cases o with
    | none => rfl
    | some x =>
      simp only [better, bst, decide_eq_true_eq]
      by_cases h : y < x
      · rw [if_pos h, Nat.max_eq_right (by omega)]
      · rw [if_neg h, Nat.max_eq_left (by omega)]
theorem pu_oD (o : Option Nat) : pureD (oD o) = true := by cases o <;> rfl
abbrev rowN (xs : List Nat) (R : Rw) : D := natD xs fun t => oD (R t)
theorem best_of_ok {xs : List Nat} {R : Rw} (hs : ∀ t ∈ w.starts, t ∈ xs) : rf_best_of rf_is_better [rowN xs R, webD w] = .ok (oD (bestS R w.starts)) .non := by
  simp [rf_best_of, ev_best_of, webD, pu_ints]
  rw [show intsT w.starts = w.starts.map (fun t : Nat => .int (t : Int)) from rfl]
  rw [loop_fold (fun b : Option Nat => [some (rowN xs R), some (.ins "Web" w.fs), some (oD b), none]) (fun b t => bst b (R t)) (fun _ => True) (some 0) ?_ trivial fun b _ t ht => ⟨.inl ?_, trivial⟩]
  · simp [bestS]
  · rfl
  · have h1 := ix_natD (F := fun t => oD (R t)) (hs t ht)
    simp [h1, is_better_ok]
    cases hb : better (R t) b with
    | true => simp [h1, pu_oD, ← bst_eq, hb]
    | false => simp [← bst_eq, hb]
end
end WV

/-! idle_order -/
namespace WV
open PySem PySem.Spec PyProof.Rows EL PV WB
open L2 hiding XE
section
variable {w : Wb} {things : List Nat}
theorem ints_map {xs : List Nat} : intsT xs = xs.map (fun t : Nat => .int (t : Int)) := rfl
/-- a filter of numbers, as a comprehension's items -/
theorem fm_filter {p : Nat → Bool} {xs : List Nat} : (xs.filterMap fun t => if p t = true then some (D.int (t : Int)) else none) = intsT (xs.filter p) := by
  induction xs with
  | nil => rfl
  | cons x xs ih =>
    rw [List.filterMap_cons]
    by_cases h : p x = true
    · rw [if_pos h, List.filter_cons_of_pos h, ih]; rfl
    · rw [if_neg h, List.filter_cons_of_neg h, ih]
theorem idle_items {row : List (Nat × Nat)} : (row.filterMap fun s => if s.1 = 0 then some (D.int (s.2 : Int)) else none) = intsT (row.filterMap fun s => if s.1 = 0 then some s.2 else none) := by
  induction row with
  | nil => rfl
  | cons s row ih =>
    rw [List.filterMap_cons, List.filterMap_cons]
    by_cases h : s.1 = 0
    · rw [if_pos h, if_pos h, ih]; rfl
    · rw [if_neg h, if_neg h, ih]
theorem idle_len {row : List (Nat × Nat)} : (row.filterMap fun s => if s.1 = 0 then some s.2 else none).length ≤ row.length := List.length_filterMap_le _ _
def U0 (w : Wb) (p : List Nat) (b : Nat) : List Nat := p.filter fun t => decide (b ∈ idle w.st t)
/-- the first loop's slots -/
def ioE (w : Wb) (things p : List Nat) : EL.Env := [some (.ins "Web" w.fs), some (.lst (intsT things)), some (natD p fun t => .int ((idle w.st t).length : Int)), some (natD things fun b => .lst (intsT (U0 w p b))), none, none, none, none, none, none, none]
theorem items_ints {xs : List Nat} : itemsD (.lst (intsT xs)) = some (intsT xs) := by simp [itemsD, pu_ints]
theorem io_first (h : w.Ok) (g : Good w.n things) (hc : ∀ t ∈ things, ∀ b ∈ idle w.st t, b ∈ things) {body : Ms}
    (hb : body = sW [4, 5, 7] (sSeq (sSet 5 (eLc [6] (itSeq (eBin dIx (eUn (dFld "Web" "steps") (eV 0)) (eV 4))) (gSet 6) (ebV (eBin dEq (eBin dIx (eV 6) (eC (.int 0))) (eC (.int 0)))) (eBin dIx (eV 6) (eC (.int 1)))))
  (sSeq (sPut 2 (eV 4) (eA1 dLen (eV 5)))
  (sFor [] (itSeq (eV 5)) (gSet 7) (sW [7] (sDrop (ePMt "list" 3 dApp (plIx 3 plV (eV 7)) (eaCons (eV 4) eaNil)))))))) :
    loopS (gSet 4) body (intsT things) (ioE w things []) = .nx (ioE w things things) := by
  have hn := h.nn
  have gl := nodup_len g
  have := loop_foldN (bd := gSet 4) (body := body) (ioE w things) (fun p t => p ++ [t]) (fun i p => p = things.take i) [] (f := fun t : Nat => D.int (t : Int)) (xs := things) (ρ := ioE w things []) rfl (by simp) fun i p hp t ht => ?_
  · obtain ⟨h1, h2⟩ := this
    rw [ints_map, h1, h2, List.take_length]
  · obtain ⟨hi, _⟩ := List.getElem?_eq_some_iff.mp ht
    have tn : t < w.n := g.lt t (List.mem_of_getElem? ht)
    have tm : t ∈ things := List.mem_of_getElem? ht
    have np : t ∉ p := fun z => by
      rw [hp] at z
      obtain ⟨j, hj⟩ := List.getElem?_of_mem z
      rw [List.getElem?_take] at hj
      split at hj
      · have := nd_inj g.nd hj ht; omega
      · cases hj
    have lp : p.length ≤ w.n := by rw [hp, List.length_take]; omega
    have lr := h.rl _ (st_mem tn)
    refine ⟨.inl ?_, by rw [hp, take_snoc ht]⟩
    subst hb
    have pn := put_natD_new (F := fun t => .int ((idle w.st t).length : Int)) (t := t) (y := .int ((idle w.st t).length : Int)) (sz_lt (by omega)) np
    have e1 : setN (fun t => D.int ((idle w.st t).length : Int)) t (.int ((idle w.st t).length : Int)) = fun t => .int ((idle w.st t).length : Int) := by
      funext u; unfold setN; split
      · rename_i e; rw [e]
      · rfl
    rw [e1] at pn
    simp [ioE, ix_web tn]
    rw [items_row]
    simp
    rw [lc_w (fun s : Nat × Nat => if s.1 = 0 then some (D.int (s.2 : Int)) else none) fun s hs => ?_]
    · rw [idle_items]
      have e2 : (w.st t).filterMap (fun s => if s.1 = 0 then some s.2 else none) = idle w.st t := rfl
      rw [e2]
      have il : (idle w.st t).length ≤ 1000 := by have := idle_len (row := w.st t); rw [e2] at this; omega
      have dl : dLen [.lst (intsT (idle w.st t))] = some (.int ((idle w.st t).length : Int)) := by simp [intsT]
      simp [dl, pn, pu_ints]
      have inner := loop_foldN (bd := gSet 7) (body := sW [7] (sDrop (ePMt "list" 3 dApp (plIx 3 plV (eV 7)) (eaCons (eV 4) eaNil)))) (fun q : List Nat => [some (.ins "Web" w.fs), some (.lst (intsT things)), some (natD (p ++ [t]) fun t => .int ((idle w.st t).length : Int)), some (natD things fun b => .lst (intsT (U0 w p b ++ if b ∈ q then [t] else []))), some (.int (t : Int)), some (.lst (intsT (idle w.st t))), none, none, none, none, none])
        (fun q b => q ++ [b]) (fun i q => q = (idle w.st t).take i) [] (f := fun t : Nat => D.int (t : Int)) (xs := idle w.st t) (ρ := [some (.ins "Web" w.fs), some (.lst (intsT things)), some (natD (p ++ [t]) fun t => .int ((idle w.st t).length : Int)), some (natD things fun b => .lst (intsT (U0 w p b))), some (.int (t : Int)), some (.lst (intsT (idle w.st t))), none, none, none, none, none]) (by simp) (by simp) fun j q hq b hb => ?_
      · obtain ⟨i1, i2⟩ := inner
        rw [i2, List.take_length, ← ints_map] at i1
        rw [i1]
        have eU : (fun b => D.lst (intsT (U0 w p b ++ if b ∈ idle w.st t then [t] else []))) = fun b => D.lst (intsT (U0 w (p ++ [t]) b)) := by
          funext b
          unfold U0
          rw [List.filter_append]
          by_cases hb : b ∈ idle w.st t <;> simp [hb]
        simp [eU]
      · have bm : b ∈ things := hc t tm b (List.mem_of_getElem? hb)
        have nq : b ∉ q := fun z => by
          rw [hq] at z
          obtain ⟨k, hk⟩ := List.getElem?_of_mem z
          rw [List.getElem?_take] at hk
          split at hk
          · have := nd_inj (h.idn tn) hk hb; omega
          · cases hk
        refine ⟨.inl ?_, by rw [hq, take_snoc hb]⟩
        have lU : (intsT (U0 w p b)).length < sizeLine := by
          rw [intsT, List.length_map]
          have := List.length_filter_le (fun t => decide (b ∈ idle w.st t)) p
          unfold U0
          exact sz_lt (by omega)
        have pm := pmt_nat (s := 3) (ek := eV 7) (xs := things) (F := fun b => D.lst (intsT (U0 w p b ++ if b ∈ q then [t] else []))) (t := b) (g := dApp) (eas := eaCons (eV 4) eaNil) (ρ := [some (.ins "Web" w.fs), some (.lst (intsT things)), some (natD (p ++ [t]) fun t => .int ((idle w.st t).length : Int)), some (natD things fun b => .lst (intsT (U0 w p b ++ if b ∈ q then [t] else []))), some (.int (t : Int)), some (.lst (intsT (idle w.st t))), none, some (.int (b : Int)), none, none, none])
          (ds := intsT (U0 w p b)) (es := [.int (t : Int)]) (res := .non) (o := .lst (intsT (U0 w p b) ++ [.int (t : Int)])) rfl rfl bm (by simp [nq]) rfl (by simp [dApp, lU]) g.nd
        have eS : setN (fun b => D.lst (intsT (U0 w p b ++ if b ∈ q then [t] else []))) b (.lst (intsT (U0 w p b) ++ [.int (t : Int)])) = fun c => D.lst (intsT (U0 w p c ++ if c ∈ q ++ [b] then [t] else [])) := by
          funext c
          unfold setN
          by_cases e : c = b
          · subst e; simp [intsT]
          · simp [e]
        rw [eS] at pm
        simp
        rw [pm]
        simp
    · simp [stepD]
      split <;> rfl
abbrev KW := KS × Nat
def kwE (w : Wb) (things : List Nat) (T : KW) : EL.Env := [some (.ins "Web" w.fs), some (.lst (intsT things)), some (natD things fun t => .int (T.1.1 t)), some (natD things fun b => .lst (intsT (Users w.st things b))), none, none, none, none, some (.lst (intsT T.1.2)), some (.int (T.2 : Int)), none]
def kwC (T : KW) : Bool := decide (T.2 < T.1.2.length)
def kwN (w : Wb) (things : List Nat) (T : KW) : KW := ((Users w.st things (T.1.2.getD T.2 0)).foldl kU T.1, T.2 + 1)
theorem kw_go : ∀ {k : Nat} {T : KW}, (goW kwC (kwN w things) k T).1 = kahn (Users w.st things) k T.1 T.2
  | 0, T => rfl
  | k + 1, T => by
    unfold goW kahn
    cases q : T.1.2[T.2]? with
    | none =>
      have : kwC T = false := by simpa [kwC] using List.getElem?_eq_none_iff.mp q
      simp [this]
    | some b =>
      obtain ⟨h1, h2⟩ := List.getElem?_eq_some_iff.mp q
      have : kwC T = true := by simpa [kwC] using h1
      rw [if_pos this, kw_go]
      have e : T.1.2.getD T.2 0 = b := by rw [List.getD_eq_getElem?_getD, q]; rfl
      simp only [kwN, e]
def S0 (w : Wb) (things : List Nat) : KS := (fun t => ((idle w.st t).length : Int), things.filter fun t => decide (idle w.st t = []))
theorem S0_ok (g : Good w.n things) : KI w.st things [] (S0 w things) := by
  refine ⟨g.nd.filter _, fun t ht => (List.mem_filter.mp ht).1, fun t ht => ?_, fun t ht => ?_, fun j t hj b hb => ?_⟩
  · unfold S0 WB.cnt
    simp
  · simp [S0, ht]
  · have := (List.mem_filter.mp (List.mem_of_getElem? hj)).2
    have e : idle w.st t = [] := by simpa using this
    rw [e] at hb; cases hb
theorem kw_turn (h : w.Ok) (g : Good w.n things) {S : KS} {i b : Nat} (hb : S.2[i]? = some b) (bm : b ∈ things) (hl : S.2.length ≤ w.n) {body : Ms} (hbd : body = sW [10] (sSeq (sPut 2 (eV 10) (eBin dSub (eBin dIx (eV 2) (eV 10)) (eC (.int 1))))
  (sIf (ebV (eBin dEq (eBin dIx (eV 2) (eV 10)) (eC (.int 0)))) (sDrop (eMt "list" 8 dApp (eaCons (eV 10) eaNil))) sNil))) :
    loopS (gSet 10) body (intsT (Users w.st things b)) (kwE w things (S, i)) = .nx (kwE w things ((Users w.st things b).foldl kU S, i)) := by
  have hn := h.nn
  have gl := nodup_len g
  have ul : (Users w.st things b).length ≤ things.length := List.length_filter_le _ _
  have := loop_foldN (bd := gSet 10) (body := body) (fun S => kwE w things (S, i)) kU (fun j S' => S'.2.length ≤ S.2.length + j) S (f := fun t : Nat => D.int (t : Int)) (xs := Users w.st things b) (ρ := kwE w things (S, i)) rfl (by simp) fun j S' hS' u hu => ?_
  · exact this.1
  · have um : u ∈ things := (List.mem_filter.mp (List.mem_of_getElem? hu)).1
    have hj := (List.getElem?_eq_some_iff.mp hu).1
    have hlen : (intsT S'.2).length < sizeLine := by rw [intsT, List.length_map]; exact sz_lt (by omega)
    refine ⟨.inl ?_, ?_⟩
    · subst hbd
      have i1 := ix_natD (F := fun t => D.int (S'.1 t)) um
      have p1 := put_natD_in (F := fun t => D.int (S'.1 t)) (y := .int (S'.1 u - 1)) (sz_lt (by omega)) um
      have eS : setN (fun t => D.int (S'.1 t)) u (.int (S'.1 u - 1)) = fun t => D.int (setF S'.1 u (S'.1 u - 1) t) := by
        funext c
        unfold setN setF
        by_cases e : c = u <;> simp [e]
      rw [eS] at p1
      have i2 := ix_natD (F := fun t => D.int (setF S'.1 u (S'.1 u - 1) t)) um
      have e2 : setF S'.1 u (S'.1 u - 1) u = S'.1 u - 1 := by unfold setF; rw [if_pos rfl]
      rw [e2] at i2
      simp [kwE, i1, p1, i2]
      by_cases h0 : S'.1 u - 1 = 0
      · have a4 : intsT (S'.2 ++ [u]) = intsT S'.2 ++ [.int (u : Int)] := by simp [intsT]
        simp [h0, kU, dApp, hlen, a4]
      · simp [h0, kU]
    · unfold kU
      simp only
      split
      · simp; omega
      · omega
theorem lc_ints {vs : List Nat} {bd : D → EL.Env → Option EL.Env} {tt : M Bool} {ee : M D} {xs : List Nat} {ρ : EL.Env} (p : Nat → Bool) (h : ∀ t ∈ xs, lcW vs (itemS bd tt ee (.int (t : Int)) ρ) = some (if p t = true then some (.int (t : Int)) else none, ρ)) : lcLoop vs bd tt ee (intsT xs) ρ = .ok (intsT (xs.filter p)) ρ := by
  rw [ints_map, lc_w (fun t : Nat => if p t = true then some (D.int (t : Int)) else none) h, fm_filter]
theorem idle_order_ok (h : w.Ok) (g : Good w.n things) (hc : ∀ t ∈ things, ∀ b ∈ idle w.st t, b ∈ things) : ∃ S : KS, KI w.st things S.2 S ∧ rf_idle_order [webD w, .lst (intsT things)] = .ok (.tup [.lst (intsT S.2), .lst (intsT (things.filter fun t => decide (0 < S.1 t)))]) .non := by
  have hn := h.nn
  have gl := nodup_len g
  simp [rf_idle_order, ev_idle_order, webD, pu_ints]
  have dc := kDc_nat (vs := [4]) (bd := gSet 4) (tt := ebYes) (kk := eV 4) (ee := eLst eaNil) (ρ := [some (.ins "Web" w.fs), some (.lst (intsT things)), none, none, none, none, none, none, none, none, none]) (F := fun _ => .lst []) g.nd (sz_le (by omega)) fun t ht => ⟨_, rfl, ⟨_, rfl⟩, ⟨_, rfl⟩, _, rfl⟩
  rw [← ints_map] at dc
  rw [dc]
  simp [pu_ints]
  have f1 := io_first h g hc rfl
  rw [show ioE w things [] = [some (.ins "Web" w.fs), some (.lst (intsT things)), some (.dic []), some (natD things fun _ => .lst []), none, none, none, none, none, none, none] from rfl] at f1
  rw [f1]
  simp [ioE, pu_ints]
  rw [lc_ints (fun t => decide (idle w.st t = [])) fun t ht => ?_]
  · simp
    generalize hb : sW [10] _ = body
    obtain ⟨w1, w2, w3⟩ := while_go (c := ebV (eBin (dLtI iLt) (eV 9) (eA1 dLen (eV 8)))) (body := body) (kwE w things) kwC (kwN w things) (fun T => KI w.st things (T.1.2.take T.2) T.1 ∧ T.2 ≤ T.1.2.length) (fun T => w.n + 1 - T.2) (fun T hT => by
      simp [kwE, kwC, intsT]) (fun T hT hcd => by
      have hc' : T.2 < T.1.2.length := by simpa [kwC] using hcd
      obtain ⟨b, hb'⟩ : ∃ b, T.1.2[T.2]? = some b := ⟨_, List.getElem?_eq_getElem hc'⟩
      have bm : b ∈ things := hT.1.sub b (List.mem_of_getElem? hb')
      have e : T.1.2.getD T.2 0 = b := by rw [List.getD_eq_getElem?_getD, hb']; rfl
      have e' : T.1.2[T.2]?.getD 0 = b := by rw [hb']; rfl
      have ll : T.1.2.length ≤ w.n := nodup_le hT.1.nd fun t ht => g.lt t (hT.1.sub t ht)
      obtain ⟨k1, pre⟩ := turn_ok g.nd (fun t ht => h.idn (g.lt t ht)) hT.1 hb'
      subst hb
      refine ⟨.inl ?_, ⟨?_, ?_⟩, ?_⟩
      · have kt := kw_turn h g (S := T.1) (i := T.2) hb' bm ll rfl
        have i1 := ix_natD (F := fun b => D.lst (intsT (Users w.st things b))) bm
        have ek : kwE w things (T.1, T.2) = [some (.ins "Web" w.fs), some (.lst (intsT things)), some (natD things fun t => .int (T.1.1 t)), some (natD things fun b => .lst (intsT (Users w.st things b))), none, none, none, none, some (.lst (intsT T.1.2)), some (.int (T.2 : Int)), none] := rfl
        rw [ek] at kt
        simp only [kwE]
        simp [ix_int hb', i1, pu_ints]
        rw [kt]
        simp [kwE, kwN, e']
      · simp only [kwN, e]; exact k1
      · simp only [kwN, e]; have := pre.length_le; omega
      · simp only [kwN]; omega) (k := w.n + 1) (s := (S0 w things, 0)) ⟨S0_ok g, Nat.zero_le _⟩ (by simp)
    have e0 : kwE w things (S0 w things, 0) = [some (.ins "Web" w.fs), some (.lst (intsT things)), some (natD things fun t => .int ((idle w.st t).length : Int)), some (natD things fun b => .lst (intsT (U0 w things b))), none, none, none, none, some (.lst (intsT (things.filter fun t => decide (idle w.st t = [])))), some (.int 0), none] := rfl
    rw [e0] at w1
    rw [w1]
    have e1 := kw_go (w := w) (things := things) (k := w.n + 1) (T := (S0 w things, 0))
    obtain ⟨S', k1, k2⟩ := kahn_ok (k := w.n + 1) (i := 0) g (fun t ht => h.idn (g.lt t ht)) (S0_ok g) (Nat.zero_le _) (by omega)
    generalize goW kwC (kwN w things) (w.n + 1) (S0 w things, 0) = T at e1
    rw [k1] at e1
    subst e1
    refine ⟨T.1.1, T.1.2, k2, ?_⟩
    simp only [kwE]
    simp [pu_ints]
    rw [lc_ints (fun t => decide (0 < T.1.1 t)) fun t ht => ?_]
    · simp
    · have i1 := ix_natD (F := fun t => D.int (T.1.1 t)) ht
      simp [i1]
      split <;> rfl
  · have i1 := ix_natD (F := fun t => D.int ((idle w.st t).length : Int)) ht
    simp [i1]
    split <;> rfl
end
end WV

/-! layers -/
namespace WV
open PySem PySem.Spec PyProof.Rows EL PV WB
open L2 hiding XE
section
variable {w : Wb} {things : List Nat}
/-- what the looks find -/
structure Inf (w : Wb) (things order : List Nat) : Prop where
  g : Good w.n things
  cl : ∀ t ∈ things, ∀ s ∈ w.st t, s.2 ∈ things
  tp : Topo w.st order
  sub : ∀ t ∈ order, t ∈ things
  la : ∀ t ∈ things, t ∉ order → ∃ b ∈ idle w.st t, b ∈ things ∧ b ∉ order
def lastL (things order : List Nat) : List Nat := things.filter fun t => decide (t ∉ order)
theorem idle_mem {st : WB.St} {t b : Nat} : b ∈ idle st t ↔ ∃ s ∈ st t, s.1 = 0 ∧ s.2 = b := by
  unfold idle
  rw [List.mem_filterMap]
  constructor
  · rintro ⟨s, hs, e⟩
    by_cases h : s.1 = 0
    · rw [if_pos h] at e; exact ⟨s, hs, h, by simpa using e⟩
    · rw [if_neg h] at e; cases e
  · rintro ⟨s, hs, h, rfl⟩
    exact ⟨s, hs, by rw [if_pos h]⟩
theorem inf_ok (h : w.Ok) (g : Good w.n things) (cl : ∀ t ∈ things, ∀ s ∈ w.st t, s.2 ∈ things) : ∃ order, Inf w things order ∧ rf_idle_order [webD w, .lst (intsT things)] = .ok (.tup [.lst (intsT order), .lst (intsT (lastL things order))]) .non := by
  have hc : ∀ t ∈ things, ∀ b ∈ idle w.st t, b ∈ things := fun t ht b hb => by
    obtain ⟨s, hs, _, rfl⟩ := idle_mem.mp hb
    exact cl t ht s hs
  obtain ⟨S, k, e⟩ := idle_order_ok h g hc
  have key : ∀ t ∈ things, (0 < S.1 t ↔ t ∉ S.2) := fun t ht => by
    rw [k.mem t ht, k.cn t ht]
    have := cnt_nonneg (idle w.st t) S.2
    omega
  refine ⟨S.2, ⟨g, cl, ⟨k.nd, k.topo⟩, k.sub, fun t ht hn => ?_⟩, ?_⟩
  · have h0 : S.1 t ≠ 0 := fun z => hn ((k.mem t ht).mpr z)
    rw [k.cn t ht] at h0
    have : ¬ ∀ b ∈ idle w.st t, b ∈ S.2 := fun z => h0 (cnt_zero.mpr z)
    obtain ⟨b, hb⟩ := Classical.not_forall.mp this
    obtain ⟨b1, b2⟩ := Classical.not_imp.mp hb
    exact ⟨b, b1, hc t ht b b1, b2⟩
  · rw [e]
    have : things.filter (fun t => decide (0 < S.1 t)) = lastL things S.2 := List.filter_congr fun t ht => by
      rw [Bool.eq_iff_iff]; simpa using key t ht
    rw [this]
theorem inf_met (h : w.Ok) (idle : Bool) : Good w.n (met w.st w.n idle w.starts) ∧ (idle = false → ∀ t ∈ met w.st w.n idle w.starts, ∀ s ∈ w.st t, s.2 ∈ met w.st w.n idle w.starts) := by
  obtain ⟨g, _, c⟩ := met_spec (idle := idle) h.Bd h.gs
  exact ⟨g, fun e t ht s hs => c t ht s hs (by unfold okS; rw [e]; simp)⟩
theorem comb_eq (b o : Option Nat) : (if better (o.map (· + 1)) b = true then o.map (· + 1) else b) = comb b o := by
  cases b with
  | none => rfl
  | some y =>
    cases o with
    | none => rfl
    | some x =>
      simp only [better, comb, Option.map_some, decide_eq_true_eq]
      by_cases h : y < x + 1
      · rw [if_pos h, Nat.max_eq_right (by omega)]
      · rw [if_neg h, Nat.max_eq_left (by omega)]
/-- keys of a row -/
def keysR (things order : List Nat) : List Nat := lastL things order ++ order
theorem keys_mem {order : List Nat} (i : Inf w things order) {t : Nat} (ht : t ∈ things) : t ∈ keysR things order := by
  unfold keysR lastL
  by_cases h : t ∈ order
  · simp [h]
  · simp [h, ht]
def rowsD (things order : List Nat) (rs : List Rw) : List D := rs.map fun R => rowN (keysR things order) R
theorem rows_ix {order : List Nat} {rs : List Rw} {p a t : Nat} (i : Inf w things order) (hp : rs.length = p) (ha : 0 < a) (hap : a ≤ p) (ht : t ∈ things) :
    dIx (.lst (rowsD things order rs)) (.int ((p : Int) - (a : Int))) = some (rowN (keysR things order) (rowAt rs (p - a))) ∧ dIx (rowN (keysR things order) (rowAt rs (p - a))) (.int (t : Int)) = some (oD (rowAt rs (p - a) t)) := by
  have e : (p : Int) - (a : Int) = ((p - a : Nat) : Int) := by omega
  refine ⟨?_, ix_natD (keys_mem i ht)⟩
  rw [e, z_ix_lst, rowsD, List.getElem?_map]
  unfold rowAt
  rw [List.getD_eq_getElem?_getD, List.getElem?_eq_getElem (by omega)]
  rfl
theorem oD_n : oD none = .non := rfl
theorem oD_s {v : Nat} : oD (some v) = .int (v : Int) := rfl
theorem oD_s1 {v : Nat} : oD (some (v + 1)) = .int ((v : Int) + 1) := rfl
theorem ib0 (b : Option Nat) : rf_is_better [.non, oD b] = .ok (.bl (better none b)) .non := is_better_ok none b
theorem ib1 (v : Nat) (b : Option Nat) : rf_is_better [.int ((v : Int) + 1), oD b] = .ok (.bl (better (some (v + 1)) b)) .non := is_better_ok (some (v + 1)) b
/-- one thing's best, by its steps: env with 14 slots -/
theorem best_loop (h : w.Ok) {order ks : List Nat} {rs : List Rw} {R : Rw} {p t : Nat} {A : EL.Env} (i : Inf w things order) (tm : t ∈ things) (hp : rs.length = p) (hk : ∀ b ∈ idle w.st t, b ∈ ks) {body : Ms}
    (hb : body = sW [10, 11, 12, 13] (sSeq (sIf (ebV (eBin (dLtI iGt) (eV 10) (eV 6))) (fun ρ => .ct ρ) sNil)
  (sSeq (sSet 12 (eIf (ebV (eBin dEq (eV 10) (eC (.int 0)))) (ePure (eBin dIx (eV 7) (eV 11))) (ePure (eBin dIx (eBin dIx (eV 5) (eBin dSub (eV 6) (eV 10))) (eV 11)))))
  (sSeq (sSet 13 (eIf (ebV (eBin dIsN (eV 12) (eC .non))) (eC .non) (eBin dAdd (eV 12) (eC (.int 1)))))
  (sSet 9 (eIf (ebT (eCall rf_is_better (eaCons (eV 13) (eaCons (eV 9) eaNil)))) (eV 13) (eV 9))))))) (a1 a2 a3 a4 : Option D) :
    loopS (gTupD (gsCons (gSet 10) (gsCons (gSet 11) gsNil))) body ((w.st t).map stepD) [some (.ins "Web" w.fs), a1, a2, a3, a4, some (.lst (rowsD things order rs)), some (.int (p : Int)), some (rowN ks R), some (.int (t : Int)), some (.int 0), none, none, none, none] =
      .nx [some (.ins "Web" w.fs), a1, a2, a3, a4, some (.lst (rowsD things order rs)), some (.int (p : Int)), some (rowN ks R), some (.int (t : Int)), some (oD (bestOf rs R p (w.st t))), none, none, none, none] := by
  rw [loop_fold (fun b : Option Nat => [some (.ins "Web" w.fs), a1, a2, a3, a4, some (.lst (rowsD things order rs)), some (.int (p : Int)), some (rowN ks R), some (.int (t : Int)), some (oD b), none, none, none, none]) (bstep rs R p) (fun _ => True) (some 0) ?_ trivial fun b _ s hs => ⟨?_, trivial⟩]
  · rfl
  · rfl
  · have tn := i.g.lt t tm
    have sm : s.2 ∈ things := i.cl t tm s hs
    subst hb
    by_cases hgt : p < s.1
    · right
      have : (p : Int) < (s.1 : Int) := by omega
      simp [stepD, this, bstep, hgt]
    · left
      have hle : ¬ (p : Int) < (s.1 : Int) := by omega
      have fin : ∀ o : Option Nat, look rs R p s = o → bstep rs R p b s = comb b o := fun o ho => by unfold bstep; rw [if_neg hgt, ho]
      by_cases h0 : s.1 = 0
      · have sk : s.2 ∈ ks := hk s.2 (idle_mem.mpr ⟨s, hs, h0, rfl⟩)
        have i1 := ix_natD (F := fun t => oD (R t)) sk
        have lk : look rs R p s = R s.2 := by unfold look; rw [if_pos h0]
        have e := fin _ lk
        rw [← comb_eq] at e
        have hp0 : ¬ (p : Int) < 0 := by omega
        rw [e]
        generalize R s.2 = o at i1
        cases o with
        | none =>
          simp [stepD, hle, h0, i1, pu_oD, hp0, oD_n, ib0]
          cases better none b <;> simp [oD_n]
        | some v =>
          simp [stepD, hle, h0, i1, pu_oD, hp0, oD_s, ib1]
          cases better (some (v + 1)) b <;> simp [oD_s1]
      · obtain ⟨i1, i2⟩ := rows_ix (t := s.2) i hp (show 0 < s.1 by omega) (by omega) sm
        have lk : look rs R p s = rowAt rs (p - s.1) s.2 := by unfold look; rw [if_neg h0]
        have e := fin _ lk
        rw [← comb_eq] at e
        rw [e]
        generalize rowAt rs (p - s.1) s.2 = o at i2
        cases o with
        | none =>
          simp [stepD, hle, h0, i1, i2, pu_oD, oD_n, ib0]
          cases better none b <;> simp [oD_n]
        | some v =>
          simp [stepD, hle, h0, i1, i2, pu_oD, oD_s, ib1]
          cases better (some (v + 1)) b <;> simp [oD_s1]
theorem layers_len {st : WB.St} {order : List Nat} : ∀ {p : Nat}, (layersN st order p).length = p
  | 0 => rfl
  | p + 1 => by
    show (layersN st order p ++ [_]).length = p + 1
    rw [List.length_append, layers_len]; rfl
theorem order_loop (h : w.Ok) {order : List Nat} {rs : List Rw} {p : Nat} (i : Inf w things order) (hp : rs.length = p) {body : Ms} (a1 a2 : Option D)
    (hb : body = sW [8, 9, 10, 11, 12, 13] (sSeq (sSet 9 (eC (.int 0)))
  (sSeq (sFor [] (itSeq (eBin dIx (eUn (dFld "Web" "steps") (eV 0)) (eV 8))) (gTupD (gsCons (gSet 10) (gsCons (gSet 11) gsNil))) (sW [10, 11, 12, 13] (sSeq (sIf (ebV (eBin (dLtI iGt) (eV 10) (eV 6))) (fun ρ => .ct ρ) sNil)
  (sSeq (sSet 12 (eIf (ebV (eBin dEq (eV 10) (eC (.int 0)))) (ePure (eBin dIx (eV 7) (eV 11))) (ePure (eBin dIx (eBin dIx (eV 5) (eBin dSub (eV 6) (eV 10))) (eV 11)))))
  (sSeq (sSet 13 (eIf (ebV (eBin dIsN (eV 12) (eC .non))) (eC .non) (eBin dAdd (eV 12) (eC (.int 1)))))
  (sSet 9 (eIf (ebT (eCall rf_is_better (eaCons (eV 13) (eaCons (eV 9) eaNil)))) (eV 13) (eV 9))))))))
  (sPut 7 (eV 8) (eV 9))))) :
    loopS (gSet 8) body (intsT order) [some (.ins "Web" w.fs), a1, a2, some (.lst (intsT order)), some (.lst (intsT (lastL things order))), some (.lst (rowsD things order rs)), some (.int (p : Int)), some (natD (lastL things order) fun _ => .non), none, none, none, none, none, none] =
      .nx [some (.ins "Web" w.fs), a1, a2, some (.lst (intsT order)), some (.lst (intsT (lastL things order))), some (.lst (rowsD things order rs)), some (.int (p : Int)), some (rowN (keysR things order) (layerRow w.st order rs p)), none, none, none, none, none, none] := by
  have hn := h.nn
  have gl := nodup_len i.g
  have ol : order.length ≤ w.n := nodup_le i.tp.nd fun t ht => i.g.lt t (i.sub t ht)
  have ll : (lastL things order).length ≤ w.n := by
    have := List.length_filter_le (fun t => decide (t ∉ order)) things
    unfold lastL; omega
  have := loop_foldN (bd := gSet 8) (body := body) (fun q : List Nat => [some (.ins "Web" w.fs), a1, a2, some (.lst (intsT order)), some (.lst (intsT (lastL things order))), some (.lst (rowsD things order rs)), some (.int (p : Int)), some (rowN (lastL things order ++ q) (q.foldl (rset w.st rs p) fun _ => none)), none, none, none, none, none, none])
    (fun q t => q ++ [t]) (fun j q => q = order.take j) [] (f := fun t : Nat => D.int (t : Int)) (xs := order) (ρ := [some (.ins "Web" w.fs), a1, a2, some (.lst (intsT order)), some (.lst (intsT (lastL things order))), some (.lst (rowsD things order rs)), some (.int (p : Int)), some (natD (lastL things order) fun _ => .non), none, none, none, none, none, none]) (by rw [List.append_nil]; rfl) (by simp) fun j q hq t ht => ?_
  · obtain ⟨l1, l2⟩ := this
    rw [l2, List.take_length, ← ints_map] at l1
    exact l1
  · have tm : t ∈ things := i.sub t (List.mem_of_getElem? ht)
    have tn := i.g.lt t tm
    have nq : t ∉ q := fun z => by
      rw [hq] at z
      obtain ⟨k, hk⟩ := List.getElem?_of_mem z
      rw [List.getElem?_take] at hk
      split at hk
      · have := nd_inj i.tp.nd hk ht; omega
      · cases hk
    have nk : t ∉ lastL things order ++ q := fun z => by
      rcases List.mem_append.mp z with z | z
      · have := (List.mem_filter.mp z).2
        simp only [decide_eq_true_eq] at this
        exact this (List.mem_of_getElem? ht)
      · exact nq z
    refine ⟨.inl ?_, by rw [hq, take_snoc ht]⟩
    have bl := best_loop (A := []) h (ks := lastL things order ++ q) (R := q.foldl (rset w.st rs p) fun _ => none) i tm hp (fun b hb => List.mem_append_right _ (by rw [hq]; exact i.tp.tp j t ht b hb)) rfl a1 a2 (some (.lst (intsT order))) (some (.lst (intsT (lastL things order))))
    have ql : q.length ≤ w.n := by rw [hq, List.length_take]; omega
    have pn := put_natD_new (F := fun u => oD (q.foldl (rset w.st rs p) (fun _ => none) u)) (t := t) (y := oD (bestOf rs (q.foldl (rset w.st rs p) fun _ => none) p (w.st t))) (sz_lt (by rw [List.length_append]; omega)) nk
    have eS : setN (fun u => oD (q.foldl (rset w.st rs p) (fun _ => none) u)) t (oD (bestOf rs (q.foldl (rset w.st rs p) fun _ => none) p (w.st t))) = fun u => oD ((q ++ [t]).foldl (rset w.st rs p) (fun _ => none) u) := by
      funext u
      rw [List.foldl_append, List.foldl_cons, List.foldl_nil]
      unfold setN
      by_cases e : u = t
      · subst e; rw [if_pos rfl, rset_self]
      · rw [if_neg e, rset_ne e]
    rw [eS] at pn
    subst hb
    simp [ix_web tn]
    rw [items_row]
    simp
    rw [bl]
    simp [pn]
theorem layers_of (h : w.Ok) {order : List Nat} {F : Nat → D} {c : Nat} (hcb : c ≤ 200) (fw : rf_found_ways [webD w, .bl false] = .ok (natD things F) .non) (i : Inf w things order) (io : rf_idle_order [webD w, .lst (intsT things)] = .ok (.tup [.lst (intsT order), .lst (intsT (lastL things order))]) .non) :
    rf_layers rf_found_ways rf_idle_order rf_is_better [webD w, .int (c : Int)] = .ok (.lst (rowsD things order (layersN w.st order (c + 1)))) .non := by
  have kd : dKeys [natD things F] = some (.lst (intsT things)) := keys_natD
  have r1 : okR ((c : Int) + 1) = true := okR_of (by omega) (by omega)
  have r3 : ((c : Int) + 1).toNat = c + 1 := by omega
  have r2 : c + 1 ≤ sizeLine := sz_le (by omega)
  have gl := nodup_len i.g
  have hn := h.nn
  have ll : (lastL things order).length ≤ w.n := by
    have := List.length_filter_le (fun t => decide (t ∉ order)) things
    unfold lastL; omega
  have nl : (lastL things order).Nodup := i.g.nd.filter _
  simp [rf_layers, ev_layers, fw, kd, io, r1, r2, r3, rangeD_map]
  generalize hb : sW [6, 7, 8, 9, 10, 11, 12, 13] _ = body
  have lp := loop_foldN (bd := gSet 6) (body := body) (fun rs : List Rw => [some (webD w), some (.int (c : Int)), some (natD things F), some (.lst (intsT order)), some (.lst (intsT (lastL things order))), some (.lst (rowsD things order rs)), none, none, none, none, none, none, none, none])
    (fun rs p => rs ++ [layerRow w.st order rs p]) (fun k rs => rs = layersN w.st order k) [] (f := fun p : Nat => D.int (p : Int)) (xs := List.range (c + 1)) (ρ := [some (webD w), some (.int (c : Int)), some (natD things F), some (.lst (intsT order)), some (.lst (intsT (lastL things order))), some (.lst []), none, none, none, none, none, none, none, none]) rfl rfl fun k rs hrs p hp => ?_
  · obtain ⟨l1, l2⟩ := lp
    rw [List.length_range] at l2
    rw [l2] at l1
    rw [l1]
    simp
  · have hk := (List.getElem?_eq_some_iff.mp hp)
    have hpk : p = k := by
      obtain ⟨h1, h2⟩ := hk
      rw [List.getElem_range] at h2
      exact h2.symm
    subst hpk
    have hl : rs.length = p := by rw [hrs]; exact layers_len
    refine ⟨.inl ?_, by rw [hrs]; rfl⟩
    subst hb
    have ol := order_loop h i hl (some (.int (c : Int))) (some (natD things F)) rfl
    have dc := kDc_nat (vs := [8]) (bd := gSet 8) (tt := ebYes) (kk := eV 8) (ee := eC .non) (ρ := [some (webD w), some (.int (c : Int)), some (natD things F), some (.lst (intsT order)), some (.lst (intsT (lastL things order))), some (.lst (rowsD things order rs)), some (.int (p : Int)), none, none, none, none, none, none, none]) (F := fun _ => .non) nl (sz_le (by omega)) fun t ht => ⟨_, rfl, ⟨_, rfl⟩, ⟨_, rfl⟩, _, rfl⟩
    rw [← ints_map] at dc
    have pl : p ≤ c := by have := hk.1; rw [List.length_range] at this; omega
    have al : (rowsD things order rs).length < sizeLine := by rw [rowsD, List.length_map, hl]; exact sz_lt (by omega)
    have ra : rowsD things order (rs ++ [layerRow w.st order rs p]) = rowsD things order rs ++ [rowN (keysR things order) (layerRow w.st order rs p)] := by simp [rowsD]
    simp [pu_ints, dc]
    simp only [webD]
    rw [ol]
    simp [dApp, al, ra]
/-- what a web's looks find, by one order -/
theorem web_inf (h : w.Ok) : ∃ order, Inf w (met w.st w.n false w.starts) order ∧ (∃ F, rf_found_ways [webD w, .bl false] = .ok (natD (met w.st w.n false w.starts) F) .non) ∧ rf_idle_order [webD w, .lst (intsT (met w.st w.n false w.starts))] = .ok (.tup [.lst (intsT order), .lst (intsT (lastL (met w.st w.n false w.starts) order))]) .non ∧
    ∀ c : Nat, c ≤ 200 → rf_layers rf_found_ways rf_idle_order rf_is_better [webD w, .int (c : Int)] = .ok (.lst (rowsD (met w.st w.n false w.starts) order (layersN w.st order (c + 1)))) .non := by
  obtain ⟨F, fw⟩ := found_ways_ok h false
  obtain ⟨g, cl⟩ := inf_met h false
  obtain ⟨order, i, io⟩ := inf_ok h g (cl rfl)
  exact ⟨order, i, ⟨F, fw⟩, io, fun c hc => layers_of h hc fw i io⟩
end
end WV

/-! length, lengths; the law's rows -/
namespace WV
open PySem PySem.Spec PyProof.Rows EL PV WB
open L2 hiding XE
section
variable {w : Wb} {things : List Nat}
@[simp] theorem z_isi_int_int {i : Int} : dIsi "int" (.int i) = some (.bl true) := rfl
@[simp] theorem z_isi_int_bool {i : Int} : dIsi "bool" (.int i) = some (.bl false) := rfl
theorem whole_int (i : Int) : rf_is_whole [.int i] = .ok (.bl true) .non := by
  simp [rf_is_whole, ev_is_whole]
theorem number_int (i : Int) : rf_is_number rf_is_whole [.int i] = .ok (.bl (decide (0 ≤ i))) .non := by
  simp [rf_is_number, ev_is_number, whole_int]
theorem index_int (i : Int) (n : Nat) : rf_is_index rf_is_whole [.int i, .int (n : Int)] = .ok (.bl (decide (0 ≤ i) && decide (i < n))) .non := by
  simp [rf_is_index, ev_is_index, whole_int]
  by_cases h : 0 ≤ i <;> simp [h]
theorem need_ok {c : Nat} (h : c ≤ 200) : rf_need_carried (rf_is_number rf_is_whole) [.int (c : Int)] = .ok .non .non := by
  have h1 : ¬ (200 : Int) < c := by omega
  have h2 : (0 : Int) ≤ c := by omega
  simp [rf_need_carried, ev_need_carried, number_int, h1, h2]
theorem layers_at {st : WB.St} {order : List Nat} : ∀ {m k : Nat}, k < m → (layersN st order m)[k]? = some (layerRow st order (layersN st order k) k)
  | m + 1, k, h => by
    show (layersN st order m ++ [_])[k]? = _
    by_cases e : k = m
    · subst e
      rw [List.getElem?_append_right (by rw [layers_len]; exact Nat.le_refl _), layers_len, Nat.sub_self]; rfl
    · rw [List.getElem?_append_left (by rw [layers_len]; omega)]
      exact layers_at (by omega)
/-- the row for p -/
def rowP (w : Wb) (order : List Nat) (p : Nat) : Rw := layerRow w.st order (layersN w.st order p) p
theorem layers_map {order : List Nat} {m : Nat} : layersN w.st order m = (List.range m).map (rowP w order) := by
  apply List.ext_getElem?
  intro k
  by_cases h : k < m
  · rw [layers_at h, List.getElem?_map, List.getElem?_range h]; rfl
  · rw [List.getElem?_eq_none (by rw [layers_len]; omega), List.getElem?_eq_none (by simp; omega)]
noncomputable abbrev F_need := rf_need_carried (rf_is_number rf_is_whole)
noncomputable abbrev F_layers := rf_layers rf_found_ways rf_idle_order rf_is_better
noncomputable abbrev F_best := rf_best_of rf_is_better
theorem starts_in (h : w.Ok) {order : List Nat} (i : Inf w (met w.st w.n false w.starts) order) : ∀ t ∈ w.starts, t ∈ keysR (met w.st w.n false w.starts) order := fun t ht => by
  obtain ⟨_, pre, _⟩ := met_spec (idle := false) h.Bd h.gs
  exact keys_mem i (pre.subset ht)
def kItX (d : D) (ρ : EL.Env) : Rs (List D) := match itemsX d with | some ds => .ok ds ρ | none => .st
@[simp] theorem z_kItX {ds : List D} {ρ : EL.Env} : kItX (.lst ds) ρ = .ok ds ρ := rfl
@[simp] theorem z_itX {a : M D} {ρ : EL.Env} : itSeqX a ρ = bindR (a ρ) kItX := rfl
theorem length_ok (h : w.Ok) {order : List Nat} (i : Inf w (met w.st w.n false w.starts) order) {c : Nat} (hc : c ≤ 200) (hl : F_layers [webD w, .int (c : Int)] = .ok (.lst (rowsD (met w.st w.n false w.starts) order (layersN w.st order (c + 1)))) .non) :
    rf_length F_need F_best F_layers [webD w, .int (c : Int)] = .ok (oD (bestS (rowP w order c) w.starts)) .non := by
  have e1 : (rowsD (met w.st w.n false w.starts) order (layersN w.st order (c + 1)))[c]? = some (rowN (keysR (met w.st w.n false w.starts) order) (rowP w order c)) := by
    rw [rowsD, List.getElem?_map, layers_at (Nat.lt_succ_self c)]; rfl
  have e2 : F_best [_, _] = _ := best_of_ok (w := w) (xs := keysR (met w.st w.n false w.starts) order) (R := rowP w order c) (starts_in h i)
  have nk : F_need [.int (c : Int)] = _ := need_ok hc
  simp [rf_length, ev_length, nk, hl, e1, e2]
theorem lengths_ok (h : w.Ok) {order : List Nat} (i : Inf w (met w.st w.n false w.starts) order) {c : Nat} (hc : c ≤ 200) (hl : F_layers [webD w, .int (c : Int)] = .ok (.lst (rowsD (met w.st w.n false w.starts) order (layersN w.st order (c + 1)))) .non) :
    rf_lengths F_need F_layers F_best [webD w, .int (c : Int)] = .ok (.tup ((List.range (c + 1)).map fun p => oD (bestS (rowP w order p) w.starts))) .non := by
  have nk : F_need [.int (c : Int)] = _ := need_ok hc
  simp [rf_lengths, ev_lengths, nk, hl]
  rw [rowsD, layers_map, List.map_map, lc_w (fun p : Nat => some (oD (bestS (rowP w order p) w.starts))) fun p hp => ?_]
  · have e3 : ((List.range (c + 1)).filterMap fun p => some (oD (bestS (rowP w order p) w.starts))) = (List.range (c + 1)).map fun p => oD (bestS (rowP w order p) w.starts) := by
      generalize List.range (c + 1) = l
      induction l with
      | nil => rfl
      | cons x l ih => simp [ih]
    have e4 : pureDs ((List.range (c + 1)).map fun p => oD (bestS (rowP w order p) w.starts)) = true := pureDs_map fun _ => pu_oD _
    rw [e3]
    simp [dTuple, e4]
  · have e2 : F_best [_, _] = _ := best_of_ok (w := w) (xs := keysR (met w.st w.n false w.starts) order) (R := rowP w order p) (starts_in h i)
    simp [e2, pu_oD]
end
end WV

/-! the law's own rows -/
namespace WV
open PySem PySem.Spec PyProof.Rows EL PV WB
open L2 hiding XE
section
variable {w : Wb} {things : List Nat}
theorem fold_last {st : WB.St} : ∀ {xs : List Nat} {l : List Nat}, xs.foldl (fun l _ => lastF st l) l = lastN st xs.length l
  | [], l => rfl
  | x :: xs, l => fold_last (xs := xs) (l := lastF st l)
theorem ne_nil_l {ds : List D} (h : okNs 63 ds = true) : dNe (.lst ds) (.lst []) = some (.bl (!ds.isEmpty)) := by
  cases ds with
  | nil => rfl
  | cons d ds => simp [dNe, h]
theorem ok_same {d0 : D} (h0 : okN 63 d0 = true) : ∀ {ds : List D}, (∀ d ∈ ds, d = d0) → okNs 63 ds = true
  | [], _ => by simp
  | d :: ds, h => by
    rw [z_okNs_cons, h d (by simp), h0, ok_same h0 fun e he => h e (by simp [he])]
    rfl
theorem law_lasting_ok (h : w.Ok) (g : Good w.n things) : rf__law_lasting [tupW w, .lst (intsT things)] = .ok (.lst (intsT (lastN w.st (things.length + 1) things))) .non := by
  have hn := h.nn
  have gl := nodup_len g
  have r1 : okR ((things.length : Int) + 1) = true := okR_of (by omega) (by omega)
  have r3 : ((things.length : Int) + 1).toNat = things.length + 1 := by omega
  have r2 : things.length + 1 ≤ sizeLine := sz_le (by omega)
  have dl : dLen [.lst (intsT things)] = some (.int (things.length : Int)) := by simp [intsT]
  simp [rf__law_lasting, ev__law_lasting, dList, pu_ints, dl, r1, r2, r3, rangeD_map]
  generalize hb : sW [3] _ = body
  have lp := loop_fold (bd := gSet 3) (body := body) (fun l : List Nat => [some (tupW w), some (.lst (intsT things)), some (.lst (intsT l)), none, none, none, none]) (fun l _ => lastF w.st l) (fun l => Good w.n l) things (f := fun p : Nat => D.int (p : Int)) (xs := List.range (things.length + 1)) rfl g fun l hl p _ => ?_
  · rw [lp, fold_last, List.length_range]
    simp
  · subst hb
    refine ⟨.inl ?_, ⟨hl.nd.filter _, fun t ht => hl.lt t (List.mem_filter.mp ht).1⟩⟩
    simp [pu_ints]
    rw [lc_ints (fun t => (idle w.st t).any fun b => decide (b ∈ l)) fun t ht => ?_]
    · simp [lastF]
    · have tn := hl.lt t ht
      simp [tupW, st_at tn]
      rw [items_row]
      simp
      rw [lc_w (fun s : Nat × Nat => if s.1 = 0 ∧ s.2 ∈ l then some (D.int 1) else none) fun s hs => ?_]
      · generalize hds : (w.st t).filterMap (fun s => if s.1 = 0 ∧ s.2 ∈ l then some (D.int 1) else none) = ds
        have m1 : ∀ d ∈ ds, d = .int 1 := fun d hd => by
          rw [← hds] at hd
          obtain ⟨s, _, e⟩ := List.mem_filterMap.mp hd
          split at e
          · exact (Option.some.inj e).symm
          · cases e
        have m2 : (∃ x, x ∈ idle w.st t ∧ x ∈ l) ↔ ds ≠ [] := by
          constructor
          · rintro ⟨x, hx, hxl⟩ e
            obtain ⟨s, hs, h0, rfl⟩ := idle_mem.mp hx
            have : D.int 1 ∈ ds := by rw [← hds]; exact List.mem_filterMap.mpr ⟨s, hs, if_pos ⟨h0, hxl⟩⟩
            rw [e] at this; cases this
          · intro e
            obtain ⟨d, ds', rfl⟩ := List.exists_cons_of_ne_nil e
            have : d ∈ d :: ds' := by simp
            rw [← hds] at this
            obtain ⟨s, hs, e2⟩ := List.mem_filterMap.mp this
            split at e2
            · rename_i hc
              exact ⟨s.2, idle_mem.mpr ⟨s, hs, hc.1, rfl⟩, hc.2⟩
            · cases e2
        have e3 := ne_nil_l (ok_same (by simp) m1)
        have e4 : (List.isEmpty ds = false) ↔ ∃ x, x ∈ idle w.st t ∧ x ∈ l := by rw [m2]; cases ds <;> simp
        by_cases hx : ∃ x, x ∈ idle w.st t ∧ x ∈ l
        · simp [e3, e4.mpr hx, hx]
        · have : List.isEmpty ds = true := by
            cases q : List.isEmpty ds with
            | true => rfl
            | false => exact absurd (e4.mp q) hx
          simp [e3, this, hx]
      · by_cases h0 : s.1 = 0 <;> by_cases h1 : s.2 ∈ l <;> simp [stepD, in_ints, h0, h1]
end
end WV

/-! the law's own rows, on -/
namespace WV
open PySem PySem.Spec PyProof.Rows EL PV WB
open L2 hiding XE
section
variable {w : Wb} {things : List Nat}
theorem get2_nat {xs : List Nat} {F : Nat → D} {t : Nat} {k y : M D} {d0 : D} {ρ : EL.Env} (hk : k ρ = .ok (.int (t : Int)) ρ) (hy : y ρ = .ok d0 ρ) : get2K (natD xs F) k y ρ = .ok (if t ∈ xs then F t else d0) ρ := by
  unfold natD
  simp [hk, hy]
  show lift (some ((valD _ (Sum.inl (t : Int))).getD d0)) ρ = _
  rw [val_nat]
  split <;> rfl
def rowsX (ks : List Nat) (rs : List Rw) : List D := rs.map fun R => rowN ks R
theorem rowsX_ix {ks : List Nat} {rs : List Rw} {p a t : Nat} (hp : rs.length = p) (ha : 0 < a) (hap : a ≤ p) (ht : t ∈ ks) :
    dIx (.lst (rowsX ks rs)) (.int ((p : Int) - (a : Int))) = some (rowN ks (rowAt rs (p - a))) ∧ dIx (rowN ks (rowAt rs (p - a))) (.int (t : Int)) = some (oD (rowAt rs (p - a) t)) := by
  have e : (p : Int) - (a : Int) = ((p - a : Nat) : Int) := by omega
  refine ⟨?_, ix_natD ht⟩
  rw [e, z_ix_lst, rowsX, List.getElem?_map]
  unfold rowAt
  rw [List.getD_eq_getElem?_getD, List.getElem?_eq_getElem (by omega)]
  rfl
theorem max_int (b v : Nat) : (if ((v : Int) + 1) > (b : Int) then ((v : Int) + 1) else (b : Int)) = ((max b (v + 1) : Nat) : Int) := by
  by_cases h : b < v + 1
  · rw [if_pos (by omega), Nat.max_eq_right (by omega)]; rfl
  · rw [if_neg (by omega), Nat.max_eq_left (by omega)]
theorem law_best_ok (h : w.Ok) {ks ka : List Nat} {rs : List Rw} {R : Rw} {p t : Nat} (tn : t < w.n) (hp : rs.length = p) (hka : ∀ s ∈ w.st t, s.2 ∈ ka) (hR : ∀ b ∈ idle w.st t, b ∉ ks → R b = some 0) :
    rf__law_best [tupW w, .lst (rowsX ka rs), rowN ks R, .int (t : Int), .int (p : Int)] = .ok (oD (bestOf rs R p (w.st t))) .non := by
  simp [rf__law_best, ev__law_best]
  simp [tupW, st_at tn]
  rw [items_row]
  simp
  rw [loop_fold (fun b : Option Nat => [some (.tup [.tup (intsT w.starts), .tup (w.steps.map rowD)]), some (.lst (rowsX ka rs)), some (rowN ks R), some (.int (t : Int)), some (.int (p : Int)), some (oD b), none, none, none]) (bstep rs R p) (fun _ => True) (some 0) ?_ trivial fun b _ s hs => ⟨?_, trivial⟩]
  · simp [bestOf]
  · rfl
  · left
    by_cases hgt : p < s.1
    · have : ¬ (s.1 : Int) ≤ (p : Int) := by omega
      simp [stepD, this, bstep, hgt]
    · have hle : (s.1 : Int) ≤ (p : Int) := by omega
      have e : bstep rs R p b s = comb b (look rs R p s) := by unfold bstep; rw [if_neg hgt]
      rw [e]
      cases b with
      | none =>
        simp [stepD, hle, oD_n, comb]
      | some b =>
        by_cases h0 : s.1 = 0
        · have lk : look rs R p s = R s.2 := by unfold look; rw [if_pos h0]
          have hv : (if s.2 ∈ ks then oD (R s.2) else .int 0) = oD (R s.2) := by
            by_cases hm : s.2 ∈ ks
            · rw [if_pos hm]
            · rw [if_neg hm, hR s.2 (idle_mem.mpr ⟨s, hs, h0, rfl⟩) hm]; rfl
          have hp0 : (0 : Int) ≤ (p : Int) := by omega
          have g2 := fun ρ => get2_nat (xs := ks) (F := fun t => oD (R t)) (t := s.2) (k := eV 7) (y := eC (.int 0)) (d0 := .int 0) (ρ := [some (.tup [.tup (intsT w.starts), .tup (w.steps.map rowD)]), some (.lst (rowsX ka rs)), some (rowN ks R), some (.int (t : Int)), some (.int (p : Int)), some (.int (b : Int)), some (.int 0), some (.int (s.2 : Int)), ρ]) rfl rfl
          rw [hv] at g2
          rw [lk]
          generalize R s.2 = o at g2
          cases o with
          | none => simp [stepD, hle, h0, hp0, oD_s, g2, oD_n, comb]
          | some v => simp [stepD, hle, h0, hp0, oD_s, g2, comb, max_int]
        · have lk : look rs R p s = rowAt rs (p - s.1) s.2 := by unfold look; rw [if_neg h0]
          obtain ⟨i1, i2⟩ := rowsX_ix (ks := ka) (rs := rs) (t := s.2) hp (show 0 < s.1 by omega) (by omega) (hka s hs)
          rw [lk]
          generalize rowAt rs (p - s.1) s.2 = o at i2
          cases o with
          | none => simp [stepD, hle, h0, oD_s, i1, i2, oD_n, comb]
          | some v => simp [stepD, hle, h0, oD_s, i1, i2, comb, max_int]
end
end WV

/-! the law's farthest -/
namespace WV
open PySem PySem.Spec PyProof.Rows EL PV WB
open L2 hiding XE
section
variable {w : Wb} {things order : List Nat}
def ksStep (order ks : List Nat) (t : Nat) : List Nat := if t ∈ order then (if t ∈ ks then ks else ks ++ [t]) else ks
theorem ks_new : ∀ {us ks : List Nat}, (ks ++ us.filter fun t => decide (t ∈ order)).Nodup → us.foldl (ksStep order) ks = ks ++ us.filter fun t => decide (t ∈ order)
  | [], ks, _ => by simp
  | u :: us, ks, h => by
    simp only [List.foldl_cons]
    by_cases hu : u ∈ order
    · rw [List.filter_cons_of_pos (by simpa using hu)] at h ⊢
      have nu : u ∉ ks := fun z => (List.nodup_append.mp h).2.2 u z u (by simp) rfl
      have e : ksStep order ks u = ks ++ [u] := by unfold ksStep; rw [if_pos hu, if_neg nu]
      rw [e, ks_new (by simpa using h)]
      simp
    · rw [List.filter_cons_of_neg (by simpa using hu)] at h ⊢
      have e : ksStep order ks u = ks := by unfold ksStep; rw [if_neg hu]
      rw [e, ks_new h]
theorem ks_old : ∀ {us ks : List Nat}, (∀ u ∈ us, u ∈ order → u ∈ ks) → us.foldl (ksStep order) ks = ks
  | [], ks, _ => rfl
  | u :: us, ks, h => by
    simp only [List.foldl_cons]
    have e : ksStep order ks u = ks := by
      unfold ksStep
      by_cases hu : u ∈ order
      · rw [if_pos hu, if_pos (h u (by simp) hu)]
      · rw [if_neg hu]
    rw [e, ks_old fun v hv => h v (by simp [hv])]
def rStep (st : WB.St) (order : List Nat) (rs : List Rw) (p : Nat) (R : Rw) (t : Nat) : Rw := if t ∈ order then rset st rs p R t else R
theorem r_fold {st : WB.St} {rs : List Rw} {p : Nat} : ∀ {us : List Nat} {R : Rw}, us.foldl (rStep st order rs p) R = (us.filter fun t => decide (t ∈ order)).foldl (rset st rs p) R
  | [], R => rfl
  | u :: us, R => by
    simp only [List.foldl_cons]
    by_cases hu : u ∈ order
    · rw [List.filter_cons_of_pos (by simpa using hu), List.foldl_cons]
      have e : rStep st order rs p R u = rset st rs p R u := by unfold rStep; rw [if_pos hu]
      rw [e, r_fold]
    · rw [List.filter_cons_of_neg (by simpa using hu)]
      have e : rStep st order rs p R u = R := by unfold rStep; rw [if_neg hu]
      rw [e, r_fold]
abbrev KR := List Nat × Rw
def krStep (st : WB.St) (order : List Nat) (rs : List Rw) (p : Nat) (S : KR) (t : Nat) : KR := (ksStep order S.1 t, rStep st order rs p S.2 t)
theorem kr_fold {st : WB.St} {rs : List Rw} {p : Nat} : ∀ {us : List Nat} {S : KR}, us.foldl (krStep st order rs p) S = (us.foldl (ksStep order) S.1, us.foldl (rStep st order rs p) S.2)
  | [], S => rfl
  | u :: us, S => kr_fold (us := us)
/-- the law's keys of a row -/
def keysL (things order : List Nat) : List Nat := lastL things order ++ things.filter fun t => decide (t ∈ order)
theorem keysL_nd (g : Good w.n things) : (keysL things order).Nodup := by
  unfold keysL lastL
  refine List.nodup_append.mpr ⟨g.nd.filter _, g.nd.filter _, fun a ha b hb e => ?_⟩
  subst e
  have h1 := (List.mem_filter.mp ha).2
  have h2 := (List.mem_filter.mp hb).2
  simp only [decide_eq_true_eq] at h1 h2
  exact h1 h2
theorem keysL_mem {t : Nat} (ht : t ∈ things) : t ∈ keysL things order := by
  unfold keysL lastL
  by_cases h : t ∈ order <;> simp [h, ht]
/-- one lap of the law -/
def lapK (st : WB.St) (things order : List Nat) (rs : List Rw) (p : Nat) (S : KR) : KR := things.foldl (krStep st order rs p) S
theorem laps_k {st : WB.St} {rs : List Rw} {p : Nat} : ∀ {k : Nat} {R : Rw}, (List.range k).foldl (fun S _ => lapK st things order rs p S) (keysL things order, R) = (keysL things order, lapsN st (things.filter fun t => decide (t ∈ order)) rs p k R) := by
  have key : ∀ {xs : List Nat} {R : Rw}, xs.foldl (fun S _ => lapK st things order rs p S) (keysL things order, R) = (keysL things order, lapsN st (things.filter fun t => decide (t ∈ order)) rs p xs.length R) := by
    intro xs
    induction xs with
    | nil => intro R; rfl
    | cons x xs ih =>
      intro R
      simp only [List.foldl_cons]
      have e : lapK st things order rs p (keysL things order, R) = (keysL things order, (things.filter fun t => decide (t ∈ order)).foldl (rset st rs p) R) := by
        unfold lapK
        rw [kr_fold, ks_old fun u hu _ => keysL_mem hu, r_fold]
      rw [e, ih]
      rfl
  intro k R
  have := key (xs := List.range k) (R := R)
  rw [List.length_range] at this
  exact this
theorem laps_first {st : WB.St} {rs : List Rw} {p k : Nat} {R : Rw} (g : Good w.n things) : (List.range (k + 1)).foldl (fun S _ => lapK st things order rs p S) (lastL things order, R) = (keysL things order, lapsN st (things.filter fun t => decide (t ∈ order)) rs p (k + 1) R) := by
  rw [List.range_succ_eq_map, List.foldl_cons, List.foldl_map]
  have e : lapK st things order rs p (lastL things order, R) = (keysL things order, (things.filter fun t => decide (t ∈ order)).foldl (rset st rs p) R) := by
    unfold lapK
    rw [kr_fold, ks_new (by have := keysL_nd (order := order) g; exact this), r_fold]
    rfl
  rw [e]
  exact laps_k
end
end WV

/-! _law_farthest -/
namespace WV
open PySem PySem.Spec PyProof.Rows EL PV WB
open L2 hiding XE
section
variable {w : Wb} {things order : List Nat}
/-- what holds of a row under way -/
structure KInv (w : Wb) (things order : List Nat) (S : KR) : Prop where
  nd : S.1.Nodup
  sub : ∀ t ∈ S.1, t ∈ things
  dft : ∀ b ∈ things, b ∉ S.1 → S.2 b = some 0
theorem kr_inv {rs : List Rw} {p t : Nat} {S : KR} (h : KInv w things order S) (ht : t ∈ things) : KInv w things order (krStep w.st order rs p S t) := by
  unfold krStep
  refine ⟨?_, ?_, ?_⟩
  · show (ksStep order S.1 t).Nodup
    unfold ksStep
    split
    · split
      · exact h.nd
      · rename_i z
        exact List.nodup_append.mpr ⟨h.nd, by simp, fun a ha b hb e => by
          simp only [List.mem_singleton] at hb
          subst hb; subst e; exact z ha⟩
    · exact h.nd
  · show ∀ u ∈ ksStep order S.1 t, u ∈ things
    unfold ksStep
    split
    · split
      · exact h.sub
      · intro u hu
        rcases List.mem_append.mp hu with z | z
        · exact h.sub u z
        · simp only [List.mem_singleton] at z; subst z; exact ht
    · exact h.sub
  · show ∀ b ∈ things, b ∉ ksStep order S.1 t → rStep w.st order rs p S.2 t b = some 0
    intro b hb hn
    unfold ksStep at hn
    unfold rStep
    by_cases ho : t ∈ order
    · rw [if_pos ho] at hn ⊢
      by_cases hk : t ∈ S.1
      · rw [if_pos hk] at hn
        have ne : b ≠ t := fun e => hn (by rw [e]; exact hk)
        rw [rset_ne ne]
        exact h.dft b hb hn
      · rw [if_neg hk] at hn
        simp only [List.mem_append, List.mem_singleton, not_or] at hn
        rw [rset_ne hn.2]
        exact h.dft b hb hn.1
    · rw [if_neg ho] at hn ⊢
      exact h.dft b hb hn
noncomputable abbrev F_lbest := rf__law_best
def lapE (w : Wb) (things order : List Nat) (rs : List Rw) (p c : Nat) (a8 : Option D) (S : KR) : EL.Env := [some (tupW w), some (.int (c : Int)), some (.lst (intsT things)), some (.lst (intsT (lastL things order))), some (.lst (rowsX (keysL things order) rs)), some (.int (p : Int)), some (rowN S.1 S.2), none, a8, none, none]
theorem lap_loop (h : w.Ok) (i : Inf w things order) {rs : List Rw} {p c : Nat} {a8 : Option D} {S : KR} (hp : rs.length = p) (hS : KInv w things order S) {body : Ms}
    (hb : body = sW [7] (sIf (ebV (eBin dNotIn (eV 7) (eV 3))) (sPut 6 (eV 7) (eCall F_lbest (eaCons (eV 0) (eaCons (eV 4) (eaCons (eV 6) (eaCons (eV 7) (eaCons (eV 5) eaNil))))))) sNil)) :
    loopS (gSet 7) body (intsT things) (lapE w things order rs p c a8 S) = .nx (lapE w things order rs p c a8 (lapK w.st things order rs p S)) ∧ KInv w things order (lapK w.st things order rs p S) := by
  have hn := h.nn
  have gl := nodup_len i.g
  have := loopS_fold (bd := gSet 7) (body := body) (lapE w things order rs p c a8) (krStep w.st order rs p) (KInv w things order) (f := fun t : Nat => D.int (t : Int)) (xs := things) (fun S hS t ht => ?_) hS
  · exact this
  · refine ⟨.inl ?_, kr_inv hS ht⟩
    have tn := i.g.lt t ht
    have kl : S.1.length ≤ w.n := nodup_le hS.nd fun u hu => i.g.lt u (hS.sub u hu)
    subst hb
    have nl := not_in_ints (xs := lastL things order) (t := t)
    by_cases ho : t ∈ order
    · have hnl : t ∉ lastL things order := fun z => by
        have := (List.mem_filter.mp z).2
        simp only [decide_eq_true_eq] at this
        exact this ho
      have lb := law_best_ok h (ks := S.1) (ka := keysL things order) (rs := rs) (R := S.2) (p := p) (t := t) tn hp (fun s hs => keysL_mem (i.cl t ht s hs)) fun b hb hn => by
        obtain ⟨s, hs, _, rfl⟩ := idle_mem.mp hb
        exact hS.dft s.2 (i.cl t ht s hs) hn
      have eS : ∀ ks : List Nat, natD ks (setN (fun u => oD (S.2 u)) t (oD (bestOf rs S.2 p (w.st t)))) = rowN ks (rset w.st rs p S.2 t) := fun ks => natD_congr fun u _ => by
        unfold setN
        by_cases e : u = t
        · subst e; rw [if_pos rfl, rset_self]
        · rw [if_neg e, rset_ne e]
      by_cases hk : t ∈ S.1
      · have pn := put_natD_in (F := fun u => oD (S.2 u)) (t := t) (y := oD (bestOf rs S.2 p (w.st t))) (sz_lt (by omega)) hk
        rw [eS] at pn
        simp [lapE, nl, hnl, lb, pn, krStep, ksStep, rStep, ho, hk]
      · have pn := put_natD_new (F := fun u => oD (S.2 u)) (t := t) (y := oD (bestOf rs S.2 p (w.st t))) (sz_lt (by omega)) hk
        rw [eS] at pn
        simp [lapE, nl, hnl, lb, pn, krStep, ksStep, rStep, ho, hk]
    · have hnl : t ∈ lastL things order := List.mem_filter.mpr ⟨ht, by simpa using ho⟩
      simp [lapE, nl, hnl, krStep, ksStep, rStep, ho]
def R0 (order : List Nat) : Rw := fun t => if t ∈ order then some 0 else none
theorem kinv0 (g : Good w.n things) : KInv w things order (lastL things order, R0 order) := by
  refine ⟨g.nd.filter _, fun t ht => (List.mem_filter.mp ht).1, fun b hb hn => ?_⟩
  show (if b ∈ order then some 0 else none) = some 0
  by_cases h : b ∈ order
  · rw [if_pos h]
  · exact absurd (List.mem_filter.mpr ⟨hb, by simpa using h⟩) hn
theorem row0 : natD (lastL things order) (fun _ => .non) = rowN (lastL things order) (R0 order) := natD_congr fun t ht => by
  have := (List.mem_filter.mp ht).2
  simp only [decide_eq_true_eq] at this
  show D.non = oD (if t ∈ order then some 0 else none)
  rw [if_neg this]; rfl
/-- None for each that lasts -/
theorem none_loop (h : w.Ok) (g : Good w.n things) {a1 a2 a3 a4 a5 : Option D} {body : Ms} (hb : body = sW [7] (sPut 6 (eV 7) (eC .non))) :
    loopS (gSet 7) body (intsT (lastL things order)) [some (tupW w), a1, a2, a3, a4, a5, some (.dic []), none, none, none, none] = .nx [some (tupW w), a1, a2, a3, a4, a5, some (natD (lastL things order) fun _ => .non), none, none, none, none] := by
  have hn := h.nn
  have gl := nodup_len g
  have nd : (lastL things order).Nodup := g.nd.filter _
  have ll : (lastL things order).length ≤ w.n := by
    have := List.length_filter_le (fun t => decide (t ∉ order)) things
    unfold lastL; omega
  generalize lastL things order = ls at nd ll
  have := loop_foldN (bd := gSet 7) (body := body) (fun q : List Nat => [some (tupW w), a1, a2, a3, a4, a5, some (natD q fun _ => .non), none, none, none, none]) (fun q t => q ++ [t]) (fun j q => q = ls.take j) [] (f := fun t : Nat => D.int (t : Int)) (xs := ls) (ρ := [some (tupW w), a1, a2, a3, a4, a5, some (.dic []), none, none, none, none]) rfl (by simp) fun j q hq t ht => ?_
  · obtain ⟨l1, l2⟩ := this
    rw [l2, List.take_length, ← ints_map] at l1
    exact l1
  · have nq : t ∉ q := fun z => by
      rw [hq] at z
      obtain ⟨k, hk⟩ := List.getElem?_of_mem z
      rw [List.getElem?_take] at hk
      split at hk
      · have := nd_inj nd hk ht; omega
      · cases hk
    have ql : q.length ≤ w.n := by rw [hq, List.length_take]; omega
    refine ⟨.inl ?_, by rw [hq, take_snoc ht]⟩
    have pn := put_natD_new (F := fun _ => D.non) (t := t) (y := .non) (sz_lt (by omega)) nq
    have eS : setN (fun _ => D.non) t .non = fun _ => D.non := by funext u; unfold setN; split <;> rfl
    rw [eS] at pn
    subst hb
    simp [pn]
theorem bst_none {R : Rw} : ∀ {xs : List Nat}, xs.foldl (fun b t => bst b (R t)) none = none
  | [] => rfl
  | x :: xs => bst_none (xs := xs)
theorem best_any {R : Rw} : ∀ {xs : List Nat} {b : Option Nat}, (xs.any fun t => (R t).isNone) = true → xs.foldl (fun b t => bst b (R t)) b = none
  | x :: xs, b, h => by
    simp only [List.foldl_cons]
    rw [List.any_cons, Bool.or_eq_true] at h
    by_cases hx : (R x).isNone = true
    · have : R x = none := by cases q : R x with
        | none => rfl
        | some v => rw [q] at hx; cases hx
      have e : bst b (R x) = none := by rw [this]; cases b <;> rfl
      rw [e, bst_none]
    · exact best_any (h.resolve_left hx)
theorem best_all {R : Rw} : ∀ {xs : List Nat} {b : Nat}, (xs.any fun t => (R t).isNone) = false → ∃ ns : List Int, intsD (xs.map fun t => oD (R t)) = some ns ∧ xs.foldl (fun b t => bst b (R t)) (some b) = some (ns.foldl max (b : Int)).toNat ∧ 0 ≤ ns.foldl max (b : Int)
  | [], b, _ => ⟨[], rfl, by simp, by simp⟩
  | x :: xs, b, h => by
    rw [List.any_cons, Bool.or_eq_false_iff] at h
    cases q : R x with
    | none => rw [q] at h; cases h.1
    | some v =>
      obtain ⟨ns, h1, h2, h3⟩ := best_all (R := R) (b := max b v) h.2
      refine ⟨(v : Int) :: ns, ?_, ?_, ?_⟩
      · simp only [List.map_cons, q]
        show (intsD _).map _ = _
        rw [h1]; rfl
      · simp only [List.foldl_cons, q]
        show xs.foldl _ (some (max b v)) = _
        rw [h2]
        congr 2
        rw [show ((max b v : Nat) : Int) = max (b : Int) (v : Int) by omega]
      · simp only [List.foldl_cons]
        rw [show max (b : Int) (v : Int) = ((max b v : Nat) : Int) by omega]
        exact h3
theorem non_in {R : Rw} {xs : List Nat} : dIn .non (.lst (xs.map fun t => oD (R t))) = some (.bl (xs.any fun t => (R t).isNone)) := by
  have h1 : okNs 63 (xs.map fun t => oD (R t)) = true := okNs_map fun t _ => by cases R t <;> simp [oD]
  rw [dIn_lst (by simp) h1, List.any_map]
  congr 2
  apply PV.any_congr'
  intro t _
  show eqvD (oD (R t)) .non = _
  cases R t <;> simp [oD, eqvD]
theorem farthest_ok (h : w.Ok) {order : List Nat} (i : Inf w (met w.st w.n false w.starts) order) {c : Nat} (hc : c ≤ 200) :
    rf__law_farthest rf__law_met rf__law_lasting rf__law_best [tupW w, .int (c : Int)] = .ok (oD (bestS (rowP w order c) w.starts)) .non := by
  have lm := law_met_ok h false
  have st := starts_in h i
  obtain ⟨_, pre, _⟩ := met_spec (idle := false) h.Bd h.gs
  have ssub : ∀ t ∈ w.starts, t ∈ met w.st w.n false w.starts := fun t ht => pre.subset ht
  generalize met w.st w.n false w.starts = things at lm st i ssub
  have g := i.g
  have hn := h.nn
  have gl := nodup_len g
  have ol : order.length ≤ things.length := List.Nodup.length_le_of_subset i.tp.nd fun t ht => i.sub t ht
  have ll : rf__law_lasting [tupW w, .lst (intsT things)] = .ok (.lst (intsT (lastL things order))) .non := by
    have := law_lasting_ok h g
    rw [last_eq i.tp (by omega) i.la] at this
    exact this
  have r1 : okR ((c : Int) + 1) = true := okR_of (by omega) (by omega)
  have r3 : ((c : Int) + 1).toNat = c + 1 := by omega
  have r2 : c + 1 ≤ sizeLine := sz_le (by omega)
  have q1 : okR ((things.length : Int) + 1) = true := okR_of (by omega) (by omega)
  have q3 : ((things.length : Int) + 1).toNat = things.length + 1 := by omega
  have q2 : things.length + 1 ≤ sizeLine := sz_le (by omega)
  have dl : dLen [.lst (intsT things)] = some (.int (things.length : Int)) := by simp [intsT]
  simp [rf__law_farthest, ev__law_farthest, lm, ll, r1, r2, r3, rangeD_map]
  generalize hb : sW [5, 6, 7, 8] _ = body
  have lp := loop_foldN (bd := gSet 5) (body := body) (fun rs : List Rw => [some (tupW w), some (.int (c : Int)), some (.lst (intsT things)), some (.lst (intsT (lastL things order))), some (.lst (rowsX (keysL things order) rs)), none, none, none, none, none, none])
    (fun rs p => rs ++ [layerRow w.st order rs p]) (fun k rs => rs = layersN w.st order k) [] (f := fun p : Nat => D.int (p : Int)) (xs := List.range (c + 1)) (ρ := [some (tupW w), some (.int (c : Int)), some (.lst (intsT things)), some (.lst (intsT (lastL things order))), some (.lst []), none, none, none, none, none, none]) rfl rfl fun k rs hrs p hp => ?_
  · obtain ⟨l1, l2⟩ := lp
    rw [List.length_range] at l2
    rw [l2] at l1
    rw [l1]
    have t0 : dIx (tupW w) (.int 0) = some (.tup (intsT w.starts)) := by simp [tupW]
    have rx : (rowsX (keysL things order) (layersN w.st order (c + 1)))[c]? = some (rowN (keysL things order) (rowP w order c)) := by
      rw [rowsX, List.getElem?_map, layers_at (Nat.lt_succ_self c)]; rfl
    simp [t0, pu_ints]
    rw [ints_map (xs := w.starts), lc_w (fun t : Nat => some (oD (rowP w order c t))) fun t ht => ?_]
    · have e3 : (w.starts.filterMap fun t => some (oD (rowP w order c t))) = w.starts.map fun t => oD (rowP w order c t) := by
        generalize w.starts = l
        induction l with
        | nil => rfl
        | cons x l ih => simp [ih]
      have e4 : pureDs (w.starts.map fun t => oD (rowP w order c t)) = true := pureDs_map fun _ => pu_oD _
      rw [e3]
      cases hq : w.starts.any fun t => (rowP w order c t).isNone with
      | true =>
        have e5 := best_any (b := some 0) hq
        have e6 : bestS (rowP w order c) w.starts = none := e5
        simp [non_in, hq, e6, oD_n]
      | false =>
        obtain ⟨ns, b1, b2, b3⟩ := best_all (R := rowP w order c) (b := 0) hq
        have e6 : bestS (rowP w order c) w.starts = some (ns.foldl max 0).toNat := b2
        have sl : w.starts.length ≤ w.n := nodup_len h.gs
        have s1 : (1 : Nat) + w.starts.length ≤ sizeLine := sz_le (by omega)
        have m1 : dMax [.lst (.int 0 :: w.starts.map fun t => oD (rowP w order c t))] = some (.int (ns.foldl max 0)) := by
          have : intsD (.int 0 :: w.starts.map fun t => oD (rowP w order c t)) = some (0 :: ns) := by
            show (intsD _).map _ = _
            rw [b1]; rfl
          unfold dMax
          simp [this]
        have m2 : dAddL (.lst [.int 0]) (.lst (w.starts.map fun t => oD (rowP w order c t))) = some (.lst (.int 0 :: w.starts.map fun t => oD (rowP w order c t))) := by
          simp [dAddL, e4, s1]
        have m3 : (((ns.foldl max 0).toNat : Nat) : Int) = ns.foldl max 0 := by
          have : (0 : Int) ≤ ns.foldl max 0 := b3
          omega
        simp [non_in, hq, e6, oD_s, m1, m2, m3]
    · have i1 := ix_natD (F := fun t => oD (rowP w order c t)) (keysL_mem (order := order) (ssub t ht))
      simp [rx, i1, pu_oD]
  · have hk := (List.getElem?_eq_some_iff.mp hp)
    have hpk : p = k := by
      obtain ⟨h1, h2⟩ := hk
      rw [List.getElem_range] at h2
      exact h2.symm
    subst hpk
    have hl : rs.length = p := by rw [hrs]; exact layers_len
    refine ⟨.inl ?_, by rw [hrs]; rfl⟩
    have pl : p ≤ c := by have := hk.1; rw [List.length_range] at this; omega
    have al : (rowsX (keysL things order) rs).length < sizeLine := by rw [rowsX, List.length_map, hl]; exact sz_lt (by omega)
    have ra : rowsX (keysL things order) (rs ++ [layerRow w.st order rs p]) = rowsX (keysL things order) rs ++ [rowN (keysL things order) (layerRow w.st order rs p)] := by simp [rowsX]
    have nl := fun b hb' => none_loop (order := order) h g (a1 := some (.int (c : Int))) (a2 := some (.lst (intsT things))) (a3 := some (.lst (intsT (lastL things order)))) (a4 := some (.lst (rowsX (keysL things order) rs))) (a5 := some (.int (p : Int))) (body := b) hb'
    subst hb
    simp [pu_ints]
    rw [nl _ rfl]
    simp [dl, q1, q2, q3, rangeD_map]
    generalize hb2 : sW [7, 8] _ = body2
    have lq := loopS_fold (bd := gSet 8) (body := body2) (lapE w things order rs p c none) (fun S _ => lapK w.st things order rs p S) (KInv w things order) (f := fun p : Nat => D.int (p : Int)) (xs := List.range (things.length + 1)) (fun S hS x _ => ?_) (s0 := (lastL things order, R0 order)) (kinv0 g)
    · obtain ⟨l1, _⟩ := lq
      rw [laps_first g, laps_eq i.tp (layer_sol (rows := rs) (p := p) i.tp) (fun u => by
        rw [List.mem_filter]
        exact ⟨fun z => by simpa using z.2, fun z => ⟨i.sub u z, by simpa using z⟩⟩) (by omega) (fun t ht => by unfold R0; rw [if_neg ht])] at l1
      have e0 : lapE w things order rs p c none (lastL things order, R0 order) = [some (tupW w), some (.int (c : Int)), some (.lst (intsT things)), some (.lst (intsT (lastL things order))), some (.lst (rowsX (keysL things order) rs)), some (.int (p : Int)), some (natD (lastL things order) fun _ => .non), none, none, none, none] := by
        unfold lapE
        rw [row0]
      rw [e0] at l1
      rw [l1]
      simp [lapE, dApp, al, ra]
    · subst hb2
      obtain ⟨l1, l2⟩ := lap_loop h i (c := c) (a8 := some (.int (x : Int))) hl hS rfl
      refine ⟨.inl ?_, l2⟩
      have e0 : lapE w things order rs p c (some (.int (x : Int))) S = [some (tupW w), some (.int (c : Int)), some (.lst (intsT things)), some (.lst (intsT (lastL things order))), some (.lst (rowsX (keysL things order) rs)), some (.int (p : Int)), some (rowN S.1 S.2), none, some (.int (x : Int)), none, none] := rfl
      rw [e0] at l1
      simp only [lapE]
      simp [pu_ints]
      rw [l1]
      simp [lapE]
end
end WV

/-! a web is made -/
namespace WV
open PySem PySem.Spec PyProof.Rows EL PV WB
open L2 hiding XE
section
variable {w : Wb}
theorem step_lt (a b : Nat × Nat) : dLtA (stepD a) (stepD b) = some (.bl (ltS a b)) := by
  have e : dLtA (stepD a) (stepD b) = some (.bl (PySem.W.dataLt (.tuple [.int (a.1 : Int), .int (a.2 : Int)]) (.tuple [.int (b.1 : Int), .int (b.2 : Int)]))) := by
    unfold dLtA stepD
    simp [toPy, toPys, PySem.W.alike, PySem.W.alikeAll, notNone, depD, depDs, datD, datDs]
  rw [e, PySem.W.dataLt_ii]
  unfold ltS
  congr 2
  rw [Bool.eq_iff_iff]
  simp only [decide_eq_true_eq]
  omega
noncomputable abbrev F_number := rf_is_number rf_is_whole
noncomputable abbrev F_index := rf_is_index rf_is_whole
noncomputable abbrev F_step := rf_is_step F_number F_index
noncomputable abbrev F_row := rf_is_row F_step
noncomputable abbrev F_asc := rf_is_ascending F_index
@[simp] theorem z_isi_tup {ds : List D} : dIsi "tuple" (.tup ds) = some (.bl true) := rfl
@[simp] theorem z_isi2_tup {ds : List D} : dIsi2 ["list", "tuple"] (.tup ds) = some (.bl true) := rfl
@[simp] theorem z_isi2_int {i : Int} : dIsi2 ["list", "tuple"] (.int i) = some (.bl false) := rfl
theorem step_ok {s : Nat × Nat} {n : Nat} (hs : s.2 < n) : F_step [stepD s, .int (n : Int)] = .ok (.bl true) .non := by
  have h1 : F_number [.int (s.1 : Int)] = _ := number_int s.1
  have h2 : F_index [.int (s.2 : Int), .int (n : Int)] = _ := index_int s.2 n
  simp [F_step, rf_is_step, ev_is_step, stepD, h1, h2, hs]
theorem fm_some {α β : Type} {f : α → β} : ∀ {xs : List α}, (xs.filterMap fun x => some (f x)) = xs.map f
  | [] => rfl
  | x :: xs => by rw [List.filterMap_cons]; simp only [List.map_cons]; rw [fm_some]
theorem adj {α : Type} {R : α → α → Prop} {xs : List α} (h : xs.Pairwise R) {i : Nat} {a b : α} (ha : xs[i]? = some a) (hb : xs[i + 1]? = some b) : R a b := by
  obtain ⟨h1, e1⟩ := List.getElem?_eq_some_iff.mp ha
  obtain ⟨h2, e2⟩ := List.getElem?_eq_some_iff.mp hb
  have := List.pairwise_iff_getElem.mp h i (i + 1) h1 h2 (by omega)
  rw [e1, e2] at this
  exact this
theorem row_ok (h : w.Ok) {row : List (Nat × Nat)} (hr : row ∈ w.steps) : F_row [rowD row, .int (w.n : Int)] = .ok (.bl true) .non := by
  have hl := h.rl row hr
  have r1 : okR ((row.length : Int) - 1) = true := okR_of (by omega) (by omega)
  have r3 : ((row.length : Int) - 1).toNat = row.length - 1 := by omega
  have r2 : row.length - 1 ≤ sizeLine := sz_le (by omega)
  have dl : dLen [rowD row] = some (.int (row.length : Int)) := by simp [rowD]
  have i2 : dIsi2 ["list", "tuple"] (rowD row) = some (.bl true) := rfl
  simp [F_row, rf_is_row, ev_is_row, pu_row, i2]
  rw [items_row]
  simp
  rw [lc_w (fun _ : Nat × Nat => some (.bl true)) fun s hs => ?_]
  · have a1 := all_ok (xs := row) (g := fun _ => true)
    rw [fm_some]
    simp [a1, dl, r1, r2, r3, rangeD_map]
    rw [lc_w (fun _ : Nat => some (.bl true)) fun i hi => ?_]
    · have a2 := all_ok (xs := List.range (row.length - 1)) (g := fun _ => true)
      rw [fm_some]
      simp [a2]
    · have hi' := List.mem_range.mp hi
      obtain ⟨a, ha⟩ : ∃ a, row[i]? = some a := ⟨_, List.getElem?_eq_getElem (by omega)⟩
      obtain ⟨b, hb⟩ : ∃ b, row[i + 1]? = some b := ⟨_, List.getElem?_eq_getElem (by omega)⟩
      have lt := adj (h.asc row hr) ha hb
      have j1 : dIx (rowD row) (.int (i : Int)) = some (stepD a) := by rw [rowD, z_ix_tup, List.getElem?_map, ha]; rfl
      have j2 : dIx (rowD row) (.int ((i : Int) + 1)) = some (stepD b) := by rw [rowD, z_ix_tup1, List.getElem?_map, hb]; rfl
      simp [j1, j2, step_lt, lt]
  · have := step_ok (h.bd row hr s hs)
    simp [this]
theorem asc_ok (h : w.Ok) : F_asc [.tup (intsT w.starts), .int (w.n : Int)] = .ok (.bl true) .non := by
  have hl := nodup_len h.gs
  have hn := h.nn
  have r1 : okR ((w.starts.length : Int) - 1) = true := okR_of (by omega) (by omega)
  have r3 : ((w.starts.length : Int) - 1).toNat = w.starts.length - 1 := by omega
  have r2 : w.starts.length - 1 ≤ sizeLine := sz_le (by omega)
  have dl : dLen [.tup (intsT w.starts)] = some (.int (w.starts.length : Int)) := by simp [intsT]
  simp [F_asc, rf_is_ascending, ev_is_ascending, pu_ints]
  rw [ints_map (xs := w.starts), lc_w (fun _ : Nat => some (.bl true)) fun s hs => ?_]
  · have a1 := all_ok (xs := w.starts) (g := fun _ => true)
    rw [← ints_map, fm_some]
    simp [a1, dl, r1, r2, r3, rangeD_map]
    rw [lc_w (fun _ : Nat => some (.bl true)) fun i hi => ?_]
    · have a2 := all_ok (xs := List.range (w.starts.length - 1)) (g := fun _ => true)
      rw [fm_some]
      simp [a2]
    · have hi' := List.mem_range.mp hi
      obtain ⟨a, ha⟩ : ∃ a, w.starts[i]? = some a := ⟨_, List.getElem?_eq_getElem (by omega)⟩
      obtain ⟨b, hb⟩ : ∃ b, w.starts[i + 1]? = some b := ⟨_, List.getElem?_eq_getElem (by omega)⟩
      have lt := adj h.ass ha hb
      have j1 : dIx (.tup (intsT w.starts)) (.int (i : Int)) = some (.int (a : Int)) := by rw [intsT, z_ix_tup, List.getElem?_map, ha]; rfl
      have j2 : dIx (.tup (intsT w.starts)) (.int ((i : Int) + 1)) = some (.int (b : Int)) := by rw [intsT, z_ix_tup1, List.getElem?_map, hb]; rfl
      simp [j1, j2, lt]
  · have h2 : F_index [.int (s : Int), .int (w.n : Int)] = _ := index_int s w.n
    have := h.gs.lt s hs
    simp [h2, this]
end
end WV

/-! a web is made, on -/
namespace WV
open PySem PySem.Spec PyProof.Rows EL PV WB
open L2 hiding XE
section
variable {w : Wb}
noncomputable def asN : Nat → List D → Fr
  | 0 => fun _ => .st
  | k + 1 => rf_as_tuples (asN k)
theorem as_int {k : Nat} {i : Int} : asN (k + 1) [.int i] = .ok (.int i) .non := by
  show rf_as_tuples _ _ = _
  simp [rf_as_tuples, ev_as_tuples]
theorem as_tup {k : Nat} {ds : List D} (hp : pureDs ds = true) (h : ∀ d ∈ ds, asN k [d] = .ok d .non) : asN (k + 1) [.tup ds] = .ok (.tup ds) .non := by
  show rf_as_tuples _ _ = _
  simp [rf_as_tuples, ev_as_tuples, hp]
  rw [lc_wD (fun d => some d) fun d hd => ?_]
  · rw [show (ds.filterMap fun d => some d) = ds by rw [fm_some]; simp]
    simp [dTuple, hp]
  · have := h d hd
    have pd : pureD d = true := by rw [pureDs_all, List.all_eq_true] at hp; exact hp d hd
    simp [this, pd]
theorem as_step {s : Nat × Nat} : asN 2 [stepD s] = .ok (stepD s) .non := as_tup (by simp) fun d hd => by
  simp only [List.mem_cons, List.not_mem_nil, or_false] at hd
  rcases hd with rfl | rfl <;> exact as_int
theorem as_row {row : List (Nat × Nat)} : asN 3 [rowD row] = .ok (rowD row) .non := as_tup (by have := pu_row (row := row); simpa [rowD] using this) fun d hd => by
  obtain ⟨s, _, rfl⟩ := List.mem_map.mp hd
  exact as_step
theorem as_steps {ss : List (List (Nat × Nat))} : asN 4 [.tup (ss.map rowD)] = .ok (.tup (ss.map rowD)) .non := as_tup pu_steps fun d hd => by
  obtain ⟨s, _, rfl⟩ := List.mem_map.mp hd
  exact as_row
noncomputable abbrev F_Web := rf_Web__init__ F_row F_asc (asN 4)
theorem init_ok (h : w.Ok) : F_Web [.obj "Web" [], .tup (intsT w.starts), .tup (w.steps.map rowD)] = .ok .non (.obj "Web" w.fs) := by
  have dl : dLen [.tup (w.steps.map rowD)] = some (.int (w.n : Int)) := by simp [Wb.n]
  have ac := asc_ok h
  have at4 := as_steps (ss := w.steps)
  simp [F_Web, rf_Web__init__, ev_Web__init__, pu_ints, pu_steps]
  rw [loop_fold (fun _ : Unit => [some (.obj "Web" []), some (.tup (intsT w.starts)), some (.tup (w.steps.map rowD)), none]) (fun _ _ => ()) (fun _ => True) () ?_ trivial fun _ _ row hr => ⟨.inl ?_, trivial⟩]
  · simp [dl, ac, at4, dTuple, pu_ints, pu_steps]
    rfl
  · rfl
  · have := row_ok h hr
    simp [dl, this]
theorem made_ok (h : w.Ok) : rf__law_made_web F_Web [tupW w] = .ok (webD w) .non := by
  have := init_ok h
  simp [rf__law_made_web, ev__law_made_web]
  simp [tupW, this, webD]
end
end WV

/-! a longest walk -/
namespace WV
open PySem PySem.Spec PyProof.Rows EL PV WB
open L2 hiding XE
section
variable {w : Wb} {order : List Nat}
/-- a walk from a to b by these steps -/
def Walk (st : WB.St) : Nat → List (Nat × Nat) → Nat → Prop
  | a, [], b => a = b
  | a, s :: r, b => s ∈ st a ∧ Walk st s.2 r b
theorem Walk.snoc {st : WB.St} {s : Nat × Nat} : ∀ {r : List (Nat × Nat)} {a b : Nat}, Walk st a r b → s ∈ st b → Walk st a (r ++ [s]) s.2
  | [], a, b, h, hs => by cases h; exact ⟨hs, rfl⟩
  | u :: r, a, b, h, hs => ⟨h.1, Walk.snoc h.2 hs⟩
def heavyN (r : List (Nat × Nat)) : Nat := (r.map (·.1)).sum
theorem look_row {p : Nat} {s : Nat × Nat} (hs : s.1 ≤ p) : look (layersN w.st order p) (rowP w order p) p s = rowP w order (p - s.1) s.2 := by
  unfold look
  by_cases h : s.1 = 0
  · rw [if_pos h, h, Nat.sub_zero]
  · rw [if_neg h]
    unfold rowAt
    rw [List.getD_eq_getElem?_getD, layers_at (by omega)]
    rfl
/-- where the length is not 0, a step leads on -/
theorem step_on {things : List Nat} (i : Inf w things order) {p t v : Nat} (hv : rowP w order p t = some (v + 1)) : ∃ s ∈ w.st t, s.1 ≤ p ∧ rowP w order (p - s.1) s.2 = some v := by
  have sol : Sol w.st order (layersN w.st order p) p (rowP w order p) := layer_sol i.tp
  have ht : t ∈ order := by
    apply Classical.byContradiction
    intro z
    rw [sol.out t z] at hv; cases hv
  rw [sol.eq t ht] at hv
  obtain ⟨_, h2, _⟩ := fold_max hv
  rcases h2 with h2 | ⟨s, hs, hp, u, hu, e⟩
  · cases h2
  · rw [look_row hp] at hu
    have : u = v := by omega
    exact ⟨s, hs, hp, this ▸ hu⟩
theorem best_at {R : Rw} : ∀ {xs : List Nat} {b m : Nat}, xs.foldl (fun b t => bst b (R t)) (some b) = some m → b ≤ m ∧ (m = b ∨ ∃ t ∈ xs, R t = some m) ∧ ∀ t ∈ xs, ∃ v, R t = some v ∧ v ≤ m
  | [], b, m, h => by cases h; exact ⟨Nat.le_refl _, .inl rfl, by simp⟩
  | x :: xs, b, m, h => by
    simp only [List.foldl_cons] at h
    cases q : R x with
    | none =>
      rw [q] at h
      have : bst (some b) none = none := rfl
      rw [this, bst_none] at h; cases h
    | some v =>
      rw [q] at h
      have : bst (some b) (some v) = some (max b v) := rfl
      rw [this] at h
      obtain ⟨h1, h2, h3⟩ := best_at h
      refine ⟨by omega, ?_, fun t ht => ?_⟩
      · rcases h2 with h2 | ⟨t, ht, e⟩
        · by_cases hb : v ≤ b
          · exact .inl (by omega)
          · exact .inr ⟨x, by simp, by rw [q]; congr 1; omega⟩
        · exact .inr ⟨t, by simp [ht], e⟩
      · rcases List.mem_cons.mp ht with rfl | ht
        · exact ⟨v, q, by omega⟩
        · exact h3 t ht
theorem best_start {R : Rw} {xs : List Nat} {m : Nat} (h : bestS R xs = some m) (hne : xs ≠ []) : ∃ t ∈ xs, R t = some m := by
  obtain ⟨_, h2, h3⟩ := best_at h
  rcases h2 with rfl | h2
  · obtain ⟨x, ys, rfl⟩ := List.exists_cons_of_ne_nil hne
    obtain ⟨v, hv, hle⟩ := h3 x (by simp)
    exact ⟨x, by simp, by rw [hv]; congr 1; omega⟩
  · exact h2
theorem deq_oD (o : Option Nat) (v : Nat) : dEq (oD o) (.int (v : Int)) = some (.bl (decide (o = some v))) := by
  have h1 : okN 64 (oD o) = true := by cases o <;> simp [oD]
  rw [dEq_ok h1 (by simp)]
  cases o with
  | none => simp [oD, eqvD]
  | some u =>
    simp [oD, eqvD]
    omega
/-- a loop that breaks at the first one -/
theorem loop_findB {α : Type} {bd : D → EL.Env → Option EL.Env} {body : Ms} {ρ : EL.Env} {f : α → D} {xs : List α} (q : α → Bool) (E : α → EL.Env) (h : ∀ x ∈ xs, turnS bd body (f x) ρ = if q x = true then .bk (E x) else .nx ρ) :
    loopS bd body (xs.map f) ρ = match xs.find? q with | none => .nx ρ | some x => .nx (E x) := by
  induction xs with
  | nil => rfl
  | cons x xs ih =>
    have h1 := h x (by simp)
    rw [List.map_cons, loopS_cons, h1, List.find?_cons]
    cases q x with
    | true => rfl
    | false => exact ih fun y hy => h y (by simp [hy])
end
end WV

/-! walk_of -/
namespace WV
open PySem PySem.Spec PyProof.Rows EL PV WB
open L2 hiding XE
section
variable {w : Wb} {order things : List Nat}
theorem row_le (i : Inf w things order) : ∀ (p j t v : Nat), order[j]? = some t → rowP w order p t = some v → v ≤ p * order.length + j := by
  intro p
  induction p using Nat.strongRecOn with
  | ind p ihp =>
  intro j
  induction j using Nat.strongRecOn with
  | ind j ihj =>
  intro t v hj hv
  have sol : Sol w.st order (layersN w.st order p) p (rowP w order p) := layer_sol i.tp
  rw [sol.eq t (List.mem_of_getElem? hj)] at hv
  obtain ⟨_, h2, _⟩ := fold_max hv
  rcases h2 with rfl | ⟨s, hs, hp, u, hu, rfl⟩
  · exact Nat.zero_le _
  · rw [look_row hp] at hu
    by_cases h0 : s.1 = 0
    · rw [h0, Nat.sub_zero] at hu
      have hb := i.tp.tp j t hj s.2 (idle_mem.mpr ⟨s, hs, h0, rfl⟩)
      obtain ⟨k, hk⟩ := List.getElem?_of_mem hb
      rw [List.getElem?_take] at hk
      split at hk
      · rename_i hkj
        have := ihj k hkj s.2 u hk hu
        omega
      · cases hk
    · have hm : s.2 ∈ order := by
        apply Classical.byContradiction
        intro z
        have sol2 : Sol w.st order (layersN w.st order (p - s.1)) (p - s.1) (rowP w order (p - s.1)) := layer_sol i.tp
        rw [sol2.out _ z] at hu; cases hu
      obtain ⟨k, hk⟩ := List.getElem?_of_mem hm
      have hkl := (List.getElem?_eq_some_iff.mp hk).1
      have h3 := ihp (p - s.1) (by omega) k s.2 u hk hu
      have h4 : (p - s.1) * order.length ≤ (p - 1) * order.length := Nat.mul_le_mul_right _ (by omega)
      have h5 : (p - 1) * order.length + order.length = p * order.length := by
        have : p = (p - 1) + 1 := by omega
        rw [this, Nat.add_mul]; simp
      omega
theorem row_small (h : w.Ok) (i : Inf w things order) {p t v : Nat} (hp : p ≤ 200) (hv : rowP w order p t = some v) : v ≤ 201000 := by
  have sol : Sol w.st order (layersN w.st order p) p (rowP w order p) := layer_sol i.tp
  have ht : t ∈ order := by
    apply Classical.byContradiction
    intro z
    rw [sol.out t z] at hv; cases hv
  obtain ⟨j, hj⟩ := List.getElem?_of_mem ht
  have h1 := row_le i p j t v hj hv
  have h2 := (List.getElem?_eq_some_iff.mp hj).1
  have h3 : order.length ≤ w.n := nodup_le i.tp.nd fun t ht => i.g.lt t (i.sub t ht)
  have hn := h.nn
  have h4 : p * order.length ≤ 200 * 1000 := Nat.mul_le_mul hp (by omega)
  omega
structure WW where
  t : Nat
  steps : List (Nat × Nat)
  p : Nat
def WW.v (w : Wb) (order : List Nat) (S : WW) : Nat := (rowP w order S.p S.t).getD 0
def wq (w : Wb) (order : List Nat) (S : WW) (s : Nat × Nat) : Bool := decide (s.1 ≤ S.p) && decide (rowP w order (S.p - s.1) s.2 = some (S.v w order - 1))
def wwN (w : Wb) (order : List Nat) (S : WW) : WW := match (w.st S.t).find? (wq w order S) with
  | none => S
  | some s => ⟨s.2, S.steps ++ [s], S.p - s.1⟩
def wwC (w : Wb) (order : List Nat) (S : WW) : Bool := decide (0 < S.v w order)
structure WInv (w : Wb) (things order : List Nat) (c start m : Nat) (S : WW) : Prop where
  pc : S.p + heavyN S.steps = c
  tm : S.t ∈ things
  wk : Walk w.st start S.steps S.t
  rv : rowP w order S.p S.t = some (S.v w order)
  ln : S.steps.length + S.v w order = m
theorem ww_next (i : Inf w things order) {c start m : Nat} {S : WW} (h : WInv w things order c start m S) (hc : wwC w order S = true) : ∃ s ∈ w.st S.t, (w.st S.t).find? (wq w order S) = some s ∧ s.1 ≤ S.p ∧ WInv w things order c start m (wwN w order S) ∧ wwN w order S = ⟨s.2, S.steps ++ [s], S.p - s.1⟩ ∧ (wwN w order S).v w order < S.v w order := by
  have hv : 0 < S.v w order := by simpa [wwC] using hc
  have hv2 : rowP w order S.p S.t = some (S.v w order - 1 + 1) := by rw [h.rv]; congr 1; omega
  obtain ⟨s0, hs0, hp0, hr0⟩ := step_on i hv2
  cases q : (w.st S.t).find? (wq w order S) with
  | none =>
    have := List.find?_eq_none.mp q s0 hs0
    simp [wq, hp0, hr0] at this
  | some s =>
    have hs := List.mem_of_find?_eq_some q
    have hq := List.find?_some q
    simp only [wq, Bool.and_eq_true, decide_eq_true_eq] at hq
    have e : wwN w order S = ⟨s.2, S.steps ++ [s], S.p - s.1⟩ := by unfold wwN; rw [q]
    have ev : (wwN w order S).v w order = S.v w order - 1 := by rw [e]; unfold WW.v; rw [hq.2]; rfl
    refine ⟨s, hs, rfl, hq.1, ?_, e, by rw [ev]; omega⟩
    have hpc := h.pc
    have hln := h.ln
    rw [e] at ev ⊢
    refine ⟨?_, i.cl S.t h.tm s hs, h.wk.snoc hs, by rw [ev]; exact hq.2, ?_⟩
    · show S.p - s.1 + heavyN (S.steps ++ [s]) = c
      have : heavyN (S.steps ++ [s]) = heavyN S.steps + s.1 := by simp [heavyN]
      omega
    · show (S.steps ++ [s]).length + _ = m
      rw [ev, List.length_append]
      simp
      omega
end
end WV

/-! walk_of told -/
namespace WV
open PySem PySem.Spec PyProof.Rows EL PV WB
open L2 hiding XE
section
variable {w : Wb} {order things : List Nat}
def wwE (w : Wb) (things order : List Nat) (c start m : Nat) (S : WW) : EL.Env := [some (.ins "Web" w.fs), some (.int (c : Int)), some (.lst (rowsD things order (layersN w.st order (c + 1)))), some (.int (m : Int)), some (.int (S.t : Int)), some (.int (start : Int)), some (.lst (S.steps.map stepD)), some (.int (S.p : Int)), none]
theorem rows_at {c p : Nat} (h : p ≤ c) : dIx (.lst (rowsD things order (layersN w.st order (c + 1)))) (.int (p : Int)) = some (rowN (keysR things order) (rowP w order p)) := by
  rw [z_ix_lst, rowsD, List.getElem?_map, layers_at (by omega)]; rfl
theorem rows_at2 {c p a : Nat} (h : p ≤ c) (ha : a ≤ p) : dIx (.lst (rowsD things order (layersN w.st order (c + 1)))) (.int ((p : Int) - (a : Int))) = some (rowN (keysR things order) (rowP w order (p - a))) := by
  have e : (p : Int) - (a : Int) = ((p - a : Nat) : Int) := by omega
  rw [e, rows_at (by omega)]
theorem ww_turn (h : w.Ok) (i : Inf w things order) {c start m : Nat} {S : WW} (hc : c ≤ 200) (hm : m ≤ 201000) (hS : WInv w things order c start m S) (hcd : wwC w order S = true) {body : Ms}
    (hb : body = sW [8] (sFor [] (itSeq (eBin dIx (eUn (dFld "Web" "steps") (eV 0)) (eV 4))) (gSet 8) (sW [8] (sIf (ebAnd (ebV (eBin (dLtI iLe) (eBin dIx (eV 8) (eC (.int 0))) (eV 7))) (ebV (eBin dEq (eBin dIx (eBin dIx (eV 2) (eBin dSub (eV 7) (eBin dIx (eV 8) (eC (.int 0))))) (eBin dIx (eV 8) (eC (.int 1)))) (eBin dSub (eBin dIx (eBin dIx (eV 2) (eV 7)) (eV 4)) (eC (.int 1)))))) (sSeq (sDrop (eMt "list" 6 dApp (eaCons (eV 8) eaNil)))
  (sSeq (sPar 7 4 (eBin dSub (eV 7) (eBin dIx (eV 8) (eC (.int 0)))) (eBin dIx (eV 8) (eC (.int 1))))
  (fun ρ => .bk ρ))) sNil)))) :
    body (wwE w things order c start m S) = .nx (wwE w things order c start m (wwN w order S)) := by
  obtain ⟨s0, hs0, hf, hp0, _, e0, _⟩ := ww_next i hS hcd
  have hv : 0 < S.v w order := by simpa [wwC] using hcd
  have tn := i.g.lt S.t hS.tm
  have hpc := hS.pc
  have sm := row_small h i (show S.p ≤ 200 by omega) hS.rv
  have hln := hS.ln
  have r1 := rows_at (w := w) (things := things) (order := order) (show S.p ≤ c by omega)
  have r2 := ix_natD (F := fun t => oD (rowP w order S.p t)) (keys_mem i hS.tm)
  rw [hS.rv] at r2
  have sub1 : ((S.v w order : Nat) : Int) - 1 = ((S.v w order - 1 : Nat) : Int) := by omega
  -- the start's length bounds all
  have ml : S.steps.length < sizeLine := by rw [sizeLine_eq]; omega
  subst hb
  simp only [wwE]
  simp [ix_web tn]
  rw [items_row]
  simp
  rw [loop_findB (wq w order S) (fun s => [some (.ins "Web" w.fs), some (.int (c : Int)), some (.lst (rowsD things order (layersN w.st order (c + 1)))), some (.int (m : Int)), some (.int (s.2 : Int)), some (.int (start : Int)), some (.lst ((S.steps ++ [s]).map stepD)), some (.int ((S.p : Int) - (s.1 : Int))), none]) fun s hs => ?_]
  · rw [hf]
    rw [e0]
    simp
    omega
  · have sm2 := i.cl S.t hS.tm s hs
    by_cases hle : s.1 ≤ S.p
    · have hle' : (s.1 : Int) ≤ (S.p : Int) := by omega
      have r3 := rows_at2 (w := w) (things := things) (order := order) (show S.p ≤ c by omega) hle
      have r4 := ix_natD (F := fun t => oD (rowP w order (S.p - s.1) t)) (keys_mem i sm2)
      have dq := deq_oD (rowP w order (S.p - s.1) s.2) (S.v w order - 1)
      by_cases hq : rowP w order (S.p - s.1) s.2 = some (S.v w order - 1)
      · simp [stepD, hle', r1, r2, r3, r4, oD_s, sub1, dq, hq, wq, hle, dApp, ml]
      · simp [stepD, hle', r1, r2, r3, r4, oD_s, sub1, dq, hq, wq, hle]
    · have hle' : ¬ (s.1 : Int) ≤ (S.p : Int) := by omega
      simp [stepD, hle', wq, hle]
theorem find_start {R : Rw} {m : Nat} {xs : List Nat} (h : ∃ t ∈ xs, R t = some m) : ∃ t ys, xs.filter (fun t => decide (R t = some m)) = t :: ys ∧ t ∈ xs ∧ R t = some m := by
  obtain ⟨t, ht, hr⟩ := h
  cases q : xs.filter (fun t => decide (R t = some m)) with
  | nil =>
    have := List.filter_eq_nil_iff.mp q t ht
    simp [hr] at this
  | cons u ys =>
    have hu : u ∈ xs.filter (fun t => decide (R t = some m)) := by rw [q]; simp
    obtain ⟨h1, h2⟩ := List.mem_filter.mp hu
    exact ⟨u, ys, rfl, h1, by simpa using h2⟩
theorem walk_none (h : w.Ok) {order : List Nat} (i : Inf w (met w.st w.n false w.starts) order) {c : Nat} (hc : c ≤ 200) (hl : F_layers [webD w, .int (c : Int)] = .ok (.lst (rowsD (met w.st w.n false w.starts) order (layersN w.st order (c + 1)))) .non) (hb : bestS (rowP w order c) w.starts = none ∨ w.starts = []) :
    rf_walk_of F_need F_layers F_best [webD w, .int (c : Int)] = .ok .non .non := by
  have nk : F_need [.int (c : Int)] = _ := need_ok hc
  have e1 : (rowsD (met w.st w.n false w.starts) order (layersN w.st order (c + 1)))[c]? = some (rowN (keysR (met w.st w.n false w.starts) order) (rowP w order c)) := by
    rw [rowsD, List.getElem?_map, layers_at (Nat.lt_succ_self c)]; rfl
  have e2 : F_best [_, _] = _ := best_of_ok (w := w) (xs := keysR (met w.st w.n false w.starts) order) (R := rowP w order c) (starts_in h i)
  simp [rf_walk_of, ev_walk_of, nk, hl, e1, e2]
  rcases hb with hb | hb
  · simp [hb, oD_n]
  · cases q : bestS (rowP w order c) w.starts with
    | none => simp [oD_n]
    | some m => simp [oD_s, webD, hb, intsT]
theorem walk_some (h : w.Ok) {order : List Nat} (i : Inf w (met w.st w.n false w.starts) order) {c m : Nat} (hc : c ≤ 200) (hl : F_layers [webD w, .int (c : Int)] = .ok (.lst (rowsD (met w.st w.n false w.starts) order (layersN w.st order (c + 1)))) .non) (hb : bestS (rowP w order c) w.starts = some m) (hne : w.starts ≠ []) :
    ∃ (start : Nat) (steps : List (Nat × Nat)) (b : Nat), start ∈ w.starts ∧ Walk w.st start steps b ∧ steps.length = m ∧ heavyN steps ≤ c ∧ rf_walk_of F_need F_layers F_best [webD w, .int (c : Int)] = .ok (.tup [.int (start : Int), .tup (steps.map stepD)]) .non := by
  have nk : F_need [.int (c : Int)] = _ := need_ok hc
  have e1 : (rowsD (met w.st w.n false w.starts) order (layersN w.st order (c + 1)))[c]? = some (rowN (keysR (met w.st w.n false w.starts) order) (rowP w order c)) := by
    rw [rowsD, List.getElem?_map, layers_at (Nat.lt_succ_self c)]; rfl
  have e2 : F_best [_, _] = _ := best_of_ok (w := w) (xs := keysR (met w.st w.n false w.starts) order) (R := rowP w order c) (starts_in h i)
  obtain ⟨start, ys, f1, f2, f3⟩ := find_start (best_start hb hne)
  have hm := row_small h i hc f3
  obtain ⟨_, pre, _⟩ := met_spec (idle := false) h.Bd h.gs
  have sm := pre.subset f2
  have sne : (intsT w.starts).isEmpty = false := by cases q : w.starts with
    | nil => exact absurd q hne
    | cons x xs => rfl
  have st := starts_in h i
  generalize met w.st w.n false w.starts = things at *
  have v0 : (WW.mk start [] c).v w order = m := by unfold WW.v; rw [f3]; rfl
  have inv0 : WInv w things order c start m ⟨start, [], c⟩ := ⟨rfl, sm, rfl, by rw [v0]; exact f3, by rw [v0]; simp⟩
  have wg := fun body hbd => while_go (c := ebV (eBin (dLtI iGt) (eBin dIx (eBin dIx (eV 2) (eV 7)) (eV 4)) (eC (.int 0)))) (body := body) (wwE w things order c start m) (wwC w order) (wwN w order) (WInv w things order c start m) (WW.v w order) (fun S hS => by
    have hpc := hS.pc
    have r1 := rows_at (w := w) (things := things) (order := order) (show S.p ≤ c by omega)
    have r2 := ix_natD (F := fun t => oD (rowP w order S.p t)) (keys_mem i hS.tm)
    rw [hS.rv] at r2
    simp [wwE, r1, r2, oD_s, wwC]) (fun S hS hcd => by
    obtain ⟨_, _, _, _, n1, _, n2⟩ := ww_next i hS hcd
    exact ⟨.inl (ww_turn h i hc hm hS hcd hbd), n1, n2⟩) (k := m) inv0 (by rw [v0]; exact Nat.le_refl _)
  simp only [webD] at hl e2
  simp [rf_walk_of, ev_walk_of, nk, hl, e1, e2, hb, oD_s, webD, sne, pu_ints]
  rw [lc_ints (fun t => decide (rowP w order c t = some m)) fun t ht => ?_]
  · rw [f1]
    simp [intsT]
    obtain ⟨w1, w2, w3⟩ := wg _ rfl
    have e0 : wwE w things order c start m ⟨start, [], c⟩ = [some (.ins "Web" w.fs), some (.int (c : Int)), some (.lst (rowsD things order (layersN w.st order (c + 1)))), some (.int (m : Int)), some (.int (start : Int)), some (.int (start : Int)), some (.lst []), some (.int (c : Int)), none] := rfl
    rw [e0] at w1
    rw [w1]
    generalize goW (wwC w order) (wwN w order) m ⟨start, [], c⟩ = S at w2 w3
    have hv : S.v w order = 0 := by
      have : ¬ 0 < S.v w order := by simpa [wwC] using w3
      omega
    have hln := w2.ln
    have hpc := w2.pc
    have ps : pureDs (S.steps.map stepD) = true := pureDs_map fun _ => rfl
    refine ⟨start, f2, S.steps, ⟨S.t, w2.wk⟩, by omega, by omega, ?_⟩
    simp [wwE, dTuple, ps]
  · have i1 := ix_natD (F := fun t => oD (rowP w order c t)) (st t ht)
    have dq := deq_oD (rowP w order c t) m
    simp [e1, i1, dq]
    split <;> rfl
end
end WV

/-! things that are not met; the law's look at a walk -/
namespace WV
open PySem PySem.Spec PyProof.Rows EL PV WB
open L2 hiding XE
section
variable {w w' : Wb} {order order' things : List Nat}
theorem sol_one {st : WB.St} {rs : List Rw} {p : Nat} {V V' : Rw} (tp : Topo st order) (a : Sol st order rs p V) (b : Sol st order rs p V') : V = V' := by
  have h : ∀ {V : Rw}, Sol st order rs p V → lapsN st order rs p order.length (fun _ => none) = V := fun s => laps_eq tp s (fun u => Iff.rfl) (Nat.le_refl _) fun _ _ => rfl
  rw [← h a, h b]
theorem order_same (i : Inf w things order) (i' : Inf w' things order') (hs : ∀ t ∈ things, w.st t = w'.st t) : ∀ t, t ∈ order ↔ t ∈ order' := by
  have hid : ∀ t ∈ things, idle w.st t = idle w'.st t := fun t ht => by unfold idle; rw [hs t ht]
  have l1 : ∀ {l : List Nat}, (∀ t ∈ l, t ∈ things) → lastF w.st l = lastF w'.st l := fun {l} hl => List.filter_congr fun t ht => by rw [hid t (hl t ht)]
  have l2 : ∀ (k : Nat) (l : List Nat), (∀ t ∈ l, t ∈ things) → lastN w.st k l = lastN w'.st k l := fun k => by
    induction k with
    | zero => intro l _; rfl
    | succ k ih =>
      intro l hl
      show lastN w.st k (lastF w.st l) = lastN w'.st k (lastF w'.st l)
      rw [← l1 hl]
      exact ih _ fun t ht => hl t (List.mem_filter.mp ht).1
  have e1 := last_eq i.tp (k := order.length + order'.length) (by omega) i.la
  have e2 := last_eq i'.tp (k := order.length + order'.length) (by omega) i'.la
  rw [l2 _ _ fun t ht => ht, e2] at e1
  intro t
  by_cases ht : t ∈ things
  · have : t ∈ things.filter (fun t => decide (t ∉ order')) ↔ t ∈ things.filter fun t => decide (t ∉ order) := by rw [e1]
    simp only [List.mem_filter, ht, true_and, decide_eq_true_eq] at this
    exact ⟨fun z => Classical.byContradiction fun y => this.mp y z, fun z => Classical.byContradiction fun y => this.mpr y z⟩
  · exact ⟨fun z => absurd (i.sub t z) ht, fun z => absurd (i'.sub t z) ht⟩
theorem layers_same (i : Inf w things order) (i' : Inf w' things order') (hs : ∀ t ∈ things, w.st t = w'.st t) : ∀ p, layersN w.st order p = layersN w'.st order' p
  | 0 => rfl
  | p + 1 => by
    have ih := layers_same i i' hs p
    have ho := order_same i i' hs
    show layersN w.st order p ++ [layerRow w.st order (layersN w.st order p) p] = layersN w'.st order' p ++ [layerRow w'.st order' (layersN w'.st order' p) p]
    rw [← ih]
    congr 2
    have s' : Sol w'.st order' (layersN w.st order p) p (layerRow w'.st order' (layersN w.st order p) p) := layer_sol i'.tp
    refine sol_one i.tp (layer_sol i.tp) ⟨fun t ht => ?_, fun t ht => s'.out t fun z => ht ((ho t).mpr z)⟩
    rw [s'.eq t ((ho t).mp ht), hs t (i.sub t ht)]
theorem rowP_same (i : Inf w things order) (i' : Inf w' things order') (hs : ∀ t ∈ things, w.st t = w'.st t) (p : Nat) : rowP w order p = rowP w' order' p := by
  have h1 := layers_same i i' hs (p + 1)
  have a := layers_at (st := w.st) (order := order) (Nat.lt_succ_self p)
  have b := layers_at (st := w'.st) (order := order') (Nat.lt_succ_self p)
  rw [h1, b] at a
  exact (Option.some.inj a).symm
/-- the steps of what is met alone -/
def cutW (w : Wb) (m : List Nat) : Wb := ⟨w.starts, (List.range w.n).map fun t => if t ∈ m then w.st t else []⟩
theorem cut_n {m : List Nat} : (cutW w m).n = w.n := by simp [cutW, Wb.n]
theorem cut_st {m : List Nat} (hm : ∀ t ∈ m, t < w.n) {t : Nat} : (cutW w m).st t = if t ∈ m then w.st t else [] := by
  unfold Wb.st cutW
  rw [List.getD_eq_getElem?_getD, List.getElem?_map]
  by_cases h : t < w.n
  · rw [List.getElem?_range h]; rfl
  · rw [List.getElem?_eq_none (by simpa using h), if_neg fun z => h (hm t z)]; rfl
theorem cut_rows {m : List Nat} {P : List (Nat × Nat) → Prop} (h : ∀ row ∈ w.steps, P row) (h0 : P []) : ∀ row ∈ (cutW w m).steps, P row := by
  intro row hr
  obtain ⟨t, ht, rfl⟩ := List.mem_map.mp hr
  split
  · exact h _ (st_mem (List.mem_range.mp ht))
  · exact h0
theorem cut_ok (h : w.Ok) {m : List Nat} : (cutW w m).Ok where
  gs := by rw [cut_n]; exact h.gs
  bd := by rw [cut_n]; exact cut_rows h.bd (by simp)
  hv := cut_rows h.hv (by simp)
  nd := cut_rows h.nd (by simp)
  asc := cut_rows h.asc (by simp)
  ass := h.ass
  nn := by rw [cut_n]; exact h.nn
  rl := cut_rows h.rl (by simp)
theorem cut_met (h : w.Ok) : met (cutW w (met w.st w.n false w.starts)).st w.n false w.starts = met w.st w.n false w.starts := by
  obtain ⟨g, _, _⟩ := met_spec (idle := false) h.Bd h.gs
  have := bfs_congr (st := w.st) (st' := (cutW w (met w.st w.n false w.starts)).st) (idle := false) (k := w.n + 1) (i := 0) (f := w.starts) fun t ht => by
    rw [cut_st g.lt]
    exact (if_pos ht).symm
  exact this.symm
/-- the lengths of the cut web are the same -/
theorem cut_lengths (h : w.Ok) {order : List Nat} (i : Inf w (met w.st w.n false w.starts) order) {c : Nat} (hc : c ≤ 200) :
    rf_lengths F_need F_layers F_best [webD (cutW w (met w.st w.n false w.starts)), .int (c : Int)] = .ok (.tup ((List.range (c + 1)).map fun p => oD (bestS (rowP w order p) w.starts))) .non := by
  have h' := cut_ok h (m := met w.st w.n false w.starts)
  obtain ⟨order', i', _, _, hl⟩ := web_inf h'
  have hlc := hl c hc
  have lo := lengths_ok h' i' hc hlc
  rw [lo]
  have cm := cut_met h
  have e1 : met (cutW w (met w.st w.n false w.starts)).st (cutW w (met w.st w.n false w.starts)).n false (cutW w (met w.st w.n false w.starts)).starts = met w.st w.n false w.starts := by rw [cut_n]; exact cm
  rw [e1] at i'
  have rs := rowP_same i i' fun t ht => by
    rw [cut_st i.g.lt]
    exact (if_pos ht).symm
  congr 2
  refine List.map_congr_left fun p _ => ?_
  rw [← rs p]
  rfl
/-! ### a walk, looked at by the law -/
theorem step_in {row : List (Nat × Nat)} {s : Nat × Nat} : dNotIn (stepD s) (rowD row) = some (.bl (!decide (s ∈ row))) := by
  have h1 : okNs 63 (row.map stepD) = true := okNs_map fun s _ => by simp [stepD]
  have h2 : okN 64 (stepD s) = true := by simp [stepD]
  rw [rowD, dNi_tup h2 h1]
  congr 3
  rw [Bool.eq_iff_iff]
  simp only [List.any_map, List.any_eq_true, Function.comp, decide_eq_true_eq]
  constructor
  · rintro ⟨u, hu, e⟩
    simp [stepD, eqvD, eqvDs] at e
    have : u = s := by
      obtain ⟨a, b⟩ := u
      obtain ⟨x, y⟩ := s
      simp only [Prod.mk.injEq]
      simp at e
      omega
    exact this ▸ hu
  · intro h
    exact ⟨s, h, by simp [stepD, eqvD, eqvDs]⟩
theorem Walk.lt {st : WB.St} (n : Nat) (hb : Bd st n) : ∀ {r : List (Nat × Nat)} {a b : Nat}, Walk st a r b → a < n → b < n
  | [], a, b, h, ha => by cases h; exact ha
  | s :: r, a, b, h, ha => Walk.lt n hb h.2 (hb a ha s h.1)
theorem pu_steps1 {r : List (Nat × Nat)} : pureDs (r.map stepD) = true := pureDs_map fun _ => rfl
theorem walked_loop (h : w.Ok) {body : Ms} (hb : body = sW [3] (sSeq (sIf (ebOr (ebNot (ebT (eUn (dIsi "tuple") (eV 3)))) (ebV (eBin dNotIn (eV 3) (eBin dIx (eBin dIx (eV 0) (eC (.int 1))) (eV 1))))) (sRet (eC .non)) sNil)
  (sSet 1 (eBin dIx (eV 3) (eC (.int 1)))))) (a2 : Option D) : ∀ {r : List (Nat × Nat)} {a b : Nat}, Walk w.st a r b → a < w.n →
    loopS (gSet 3) body (r.map stepD) [some (tupW w), some (.int (a : Int)), a2, none] = .nx [some (tupW w), some (.int (b : Int)), a2, none]
  | [], a, b, hw, _ => by cases hw; rfl
  | s :: r, a, b, hw, ha => by
    have ih := walked_loop h hb a2 hw.2 (h.Bd a ha s hw.1)
    have hi : dIsi "tuple" (stepD s) = some (.bl true) := rfl
    have e1 : turnS (gSet 3) body (stepD s) [some (tupW w), some (.int (a : Int)), a2, none] = .nx [some (tupW w), some (.int (s.2 : Int)), a2, none] := by
      have si := step_in (row := w.st a) (s := s)
      have t1 : dIx (tupW w) (.int 1) = some (.tup (w.steps.map rowD)) := by simp [tupW]
      subst hb
      simp [hi, t1, ix_web ha, si, hw.1]
      simp [stepD]
    rw [List.map_cons, loopS_cons, e1]
    exact ih
theorem walked_ok (h : w.Ok) {r : List (Nat × Nat)} {a b : Nat} (hw : Walk w.st a r b) (ha : a < w.n) : rf__law_walked [tupW w, .int (a : Int), .tup (r.map stepD)] = .ok (.int (b : Int)) .non := by
  simp [rf__law_walked, ev__law_walked, pu_steps1]
  rw [walked_loop h rfl _ hw ha]
  simp
theorem heavy_ok {r : List (Nat × Nat)} : rf__law_heavy [.tup (r.map stepD)] = .ok (.int (heavyN r : Int)) .non := by
  simp [rf__law_heavy, ev__law_heavy, pu_steps1]
  rw [lc_w (fun s : Nat × Nat => some (.int (s.1 : Int))) fun s _ => ?_]
  · rw [fm_some]
    have : intsD (r.map fun s => D.int (s.1 : Int)) = some (r.map fun s => (s.1 : Int)) := by
      induction r with
      | nil => rfl
      | cons s r ih =>
        simp only [List.map_cons]
        show (intsD _).map _ = _
        rw [ih]; rfl
    have e2 : (r.map fun s => (s.1 : Int)).sum = (heavyN r : Int) := by
      unfold heavyN
      clear this
      induction r with
      | nil => rfl
      | cons s r ih => simp_all
    simp [dSum, this, e2]
  · simp [stepD]
end
end WV

/-! drawn webs: a row sorted -/
namespace WV
open PySem PySem.Spec PyProof.Rows EL PV WB
open L2 hiding XE
section
theorem py_step (s : Nat × Nat) : pyD (stepD s) = .tuple [.int (s.1 : Int), .int (s.2 : Int)] := by
  simp [pyD, stepD, toPy, toPys]
theorem le_step (a b : Nat × Nat) : leD (stepD a) (stepD b) = !ltS b a := by
  unfold leD
  rw [py_step, py_step, PySem.W.dataLt_ii]
  unfold ltS
  congr 1
  rw [Bool.eq_iff_iff]
  simp only [decide_eq_true_eq]
  omega
def sortS (rw_ : List (Nat × Nat)) : List (Nat × Nat) := rw_.mergeSort fun a b => !ltS b a
theorem sort_steps {r : List (Nat × Nat)} : sortD (r.map stepD) = (sortS r).map stepD := by
  unfold sortD sortS
  exact (PySem.W.sort_maps (r := fun a b => !ltS b a) (s := leD) stepD fun a _ b _ => (le_step a b).symm).symm
theorem srt_steps {r : List (Nat × Nat)} : srtOk (r.map stepD) = true := by
  unfold srtOk
  simp only [Bool.and_eq_true, List.all_eq_true, decide_eq_true_eq, Bool.or_eq_true]
  refine ⟨fun d hd => ⟨?_, fun e he => ?_⟩, .inl fun d hd => ?_⟩
  · obtain ⟨s, _, rfl⟩ := List.mem_map.mp hd
    exact ⟨by simp [stepD, datD, datDs], by simp [stepD, depD, depDs]⟩
  · obtain ⟨s, _, rfl⟩ := List.mem_map.mp hd
    obtain ⟨u, _, rfl⟩ := List.mem_map.mp he
    rw [py_step, py_step]
    simp [PySem.W.alike, PySem.W.alikeAll]
  · obtain ⟨s, _, rfl⟩ := List.mem_map.mp hd
    rfl
theorem sorted_steps {r : List (Nat × Nat)} : dSorted [.lst (r.map stepD)] = some (.lst ((sortS r).map stepD)) := by
  simp [dSorted, pu_steps1, srt_steps, sort_steps]
theorem sortS_perm {r : List (Nat × Nat)} : (sortS r).Perm r := List.mergeSort_perm _ _
theorem sortS_asc {r : List (Nat × Nat)} (nd : r.Nodup) : (sortS r).Pairwise fun a b => ltS a b = true := by
  have h1 : (sortS r).Pairwise fun a b => (!ltS b a) = true := List.pairwise_mergeSort (fun a b c h1 h2 => by
    simp only [ltS, Bool.not_eq_true', decide_eq_false_iff_not] at h1 h2 ⊢
    omega) (fun a b => by
    simp only [ltS, Bool.or_eq_true, Bool.not_eq_true', decide_eq_false_iff_not]
    omega) _
  have h2 : (sortS r).Nodup := sortS_perm.nodup_iff.mpr nd
  have h3 : (sortS r).Pairwise fun a b => a ≠ b := h2
  have h4 := h1.and h3
  refine h4.imp fun {a b} ⟨x, y⟩ => ?_
  simp only [ltS, Bool.not_eq_true', decide_eq_false_iff_not, decide_eq_true_eq] at x ⊢
  have : ¬ (a.1 = b.1 ∧ a.2 = b.2) := fun z => y (Prod.ext z.1 z.2)
  omega
end
end WV

/-! drawn webs: a row drawn -/
namespace WV
open PySem PySem.Spec PyProof.Rows EL PV WB
open L2 hiding XE
section
structure RowIn (many k : Nat) (r : List (Nat × Nat)) : Prop where
  nd : r.Nodup
  lt : ∀ s ∈ r, s.2 < many
  hv : ∀ s ∈ r, s.1 ≤ 1000
  ln : r.length ≤ k
theorem in_steps {r : List (Nat × Nat)} {s : Nat × Nat} : dIn (stepD s) (.lst (r.map stepD)) = some (.bl (decide (s ∈ r))) := by
  have h1 : okNs 63 (r.map stepD) = true := okNs_map fun s _ => by simp [stepD]
  have h2 : okN 64 (stepD s) = true := by simp [stepD]
  rw [dIn_lst h2 h1]
  congr 2
  rw [Bool.eq_iff_iff]
  simp only [List.any_map, List.any_eq_true, Function.comp, decide_eq_true_eq]
  constructor
  · rintro ⟨u, hu, e⟩
    simp [stepD, eqvD, eqvDs] at e
    have : u = s := by
      obtain ⟨a, b⟩ := u
      obtain ⟨x, y⟩ := s
      simp only [Prod.mk.injEq]
      simp at e
      omega
    exact this ▸ hu
  · intro h
    exact ⟨s, h, by simp [stepD, eqvD, eqvDs]⟩
def addS (r : List (Nat × Nat)) (s : Nat × Nat) : List (Nat × Nat) := if s ∈ r then r else r ++ [s]
theorem add_in {many k : Nat} {r : List (Nat × Nat)} {s : Nat × Nat} (h : RowIn many k r) (h1 : s.2 < many) (h2 : s.1 ≤ 1000) : RowIn many (k + 1) (addS r s) := by
  unfold addS
  split
  · exact ⟨h.nd, h.lt, h.hv, by have := h.ln; omega⟩
  · rename_i z
    refine ⟨List.nodup_append.mpr ⟨h.nd, by simp, fun a ha b hb e => ?_⟩, fun u hu => ?_, fun u hu => ?_, ?_⟩
    · simp only [List.mem_singleton] at hb
      subst hb; subst e; exact z ha
    · rcases List.mem_append.mp hu with q | q
      · exact h.lt u q
      · simp only [List.mem_singleton] at q; subst q; exact h1
    · rcases List.mem_append.mp hu with q | q
      · exact h.hv u q
      · simp only [List.mem_singleton] at q; subst q; exact h2
    · have := h.ln
      simp; omega
theorem row_turn {pen : D} {many most t : Nat} {calm : Bool} {r : List (Nat × Nat)} {k : Nat} {a3 a7 : Option D} (hp : PenOk pen) (m1 : 1 ≤ many) (m2 : many ≤ 900) (o1 : 1 ≤ most) (o2 : most ≤ 900) (hr : RowIn many k r) (hk : k ≤ 900) :
    ∃ pen' r', sW [7, 8, 9] (sSeq (sSet 8 (eCallI rf__law_draw 0 (eiHere 0 (eaCons (eV 1) eaNil))))
  (sSeq (sSet 9 (eCallI rf__law_draw 0 (eiHere 0 (eaCons (eBin dAdd (eV 2) (eC (.int 1))) eaNil))))
  (sSeq (sSet 9 (eIf (ebAnd (ebT (eV 4)) (ebV (eBin (dLtI iLe) (eV 8) (eV 5)))) (eBin dAdd (eC (.int 1)) (eCallI rf__law_draw 0 (eiHere 0 (eaCons (eV 2) eaNil)))) (eV 9)))
  (sSet 6 (eIf (ebV (eBin dIn (eTup (eaCons (eV 9) (eaCons (eV 8) eaNil))) (eV 6))) (eMv 6) (eBin dAddL (eV 6) (eLst (eaCons (eTup (eaCons (eV 9) (eaCons (eV 8) eaNil))) eaNil)))))))) [some pen, some (.int (many : Int)), some (.int (most : Int)), a3, some (.bl calm), some (.int (t : Int)), some (.lst (r.map stepD)), a7, none, none, none] =
      .nx [some pen', some (.int (many : Int)), some (.int (most : Int)), a3, some (.bl calm), some (.int (t : Int)), some (.lst (r'.map stepD)), none, none, none, none] ∧ PenOk pen' ∧ RowIn many (k + 1) r' := by
  have d1 := draw_eq hp (n := (many : Int)) (by omega) (by omega)
  have p1 := dr_pen hp (n := (many : Int)) (by omega) (by omega)
  have l1 := dr_lo hp (n := (many : Int)) (by omega) (by omega)
  have u1 := dr_hi hp (n := (many : Int)) (by omega) (by omega)
  generalize drI pen (many : Int) = b at d1 l1 u1
  generalize drP pen (many : Int) = pen1 at d1 p1
  have d2 := draw_eq p1 (n := (most : Int) + 1) (by omega) (by omega)
  have p2 := dr_pen p1 (n := (most : Int) + 1) (by omega) (by omega)
  have l2 := dr_lo p1 (n := (most : Int) + 1) (by omega) (by omega)
  have u2 := dr_hi p1 (n := (most : Int) + 1) (by omega) (by omega)
  generalize drI pen1 ((most : Int) + 1) = hv at d2 l2 u2
  generalize drP pen1 ((most : Int) + 1) = pen2 at d2 p2
  have d3 := draw_eq p2 (n := (most : Int)) (by omega) (by omega)
  have p3 := dr_pen p2 (n := (most : Int)) (by omega) (by omega)
  have l3 := dr_lo p2 (n := (most : Int)) (by omega) (by omega)
  have u3 := dr_hi p2 (n := (most : Int)) (by omega) (by omega)
  generalize drI pen2 (most : Int) = h3 at d3 l3 u3
  generalize drP pen2 (most : Int) = pen3 at d3 p3
  obtain ⟨nb, rfl⟩ : ∃ n : Nat, b = (n : Int) := ⟨b.toNat, by omega⟩
  obtain ⟨nh, rfl⟩ : ∃ n : Nat, hv = (n : Int) := ⟨hv.toNat, by omega⟩
  obtain ⟨n3, rfl⟩ : ∃ n : Nat, h3 = (n : Int) := ⟨h3.toNat, by omega⟩
  have ln := hr.ln
  have fin : ∀ (s : Nat × Nat), s.2 < many → s.1 ≤ 1000 → RowIn many (k + 1) (addS r s) := fun s a b => add_in hr a b
  have szl : r.length + 1 ≤ sizeLine := sz_le (by omega)
  by_cases hcalm : (calm && decide ((nb : Int) ≤ (t : Int))) = true
  · simp only [Bool.and_eq_true, decide_eq_true_eq] at hcalm
    refine ⟨pen3, addS r (1 + n3, nb), ?_, p3, fin _ (by show nb < many; omega) (by show 1 + n3 ≤ 1000; omega)⟩
    have is := in_steps (r := r) (s := (1 + n3, nb))
    have es : stepD (1 + n3, nb) = .tup [.int (1 + (n3 : Int)), .int (nb : Int)] := by simp [stepD]
    rw [es] at is
    have c1 := hcalm.1
    have c2 := hcalm.2
    by_cases hm : (1 + n3, nb) ∈ r
    · simp [d1, d2, d3, c1, c2, is, hm, addS]
    · simp [d1, d2, d3, c1, c2, is, hm, addS, dAddL, pu_steps1, szl, es]
  · have hc : (calm && decide ((nb : Int) ≤ (t : Int))) = false := by simpa using hcalm
    refine ⟨pen2, addS r (nh, nb), ?_, p2, fin _ (by show nb < many; omega) (by show nh ≤ 1000; omega)⟩
    have is := in_steps (r := r) (s := (nh, nb))
    have es : stepD (nh, nb) = .tup [.int (nh : Int), .int (nb : Int)] := rfl
    rw [es] at is
    cases calm with
    | false =>
      by_cases hm : (nh, nb) ∈ r
      · simp [d1, d2, is, hm, addS]
      · simp [d1, d2, is, hm, addS, dAddL, pu_steps1, szl, es]
    | true =>
      have c2 : ¬ (nb : Int) ≤ (t : Int) := by simpa using hc
      by_cases hm : (nh, nb) ∈ r
      · simp [d1, d2, c2, is, hm, addS]
      · simp [d1, d2, c2, is, hm, addS, dAddL, pu_steps1, szl, es]
end
end WV

/-! drawn webs -/
namespace WV
open PySem PySem.Spec PyProof.Rows EL PV WB
open L2 hiding XE
section
structure RowOk (many : Nat) (r : List (Nat × Nat)) : Prop where
  nd : r.Nodup
  lt : ∀ s ∈ r, s.2 < many
  hv : ∀ s ∈ r, s.1 ≤ 1000
  ln : r.length ≤ 1000
  asc : r.Pairwise fun a b => ltS a b = true
theorem sort_ok {many k : Nat} {r : List (Nat × Nat)} (h : RowIn many k r) (hk : k ≤ 1000) : RowOk many (sortS r) := by
  have p := sortS_perm (r := r)
  exact ⟨p.nodup_iff.mpr h.nd, fun s hs => h.lt s (p.mem_iff.mp hs), fun s hs => h.hv s (p.mem_iff.mp hs), by rw [p.length_eq]; have := h.ln; omega, sortS_asc h.nd⟩
theorem law_web_ok {pen : D} {many most : Nat} (hp : PenOk pen) (m1 : 1 ≤ many) (m2 : many ≤ 900) (o1 : 1 ≤ most) (o2 : most ≤ 900) :
    ∃ pen' w, rf__law_web rf__law_draw (rf__law_pick rf__law_draw) [pen, .int (many : Int), .int (most : Int)] = .ok (tupW w) pen' ∧ PenOk pen' ∧ w.Ok ∧ w.n = many := by
  have d0 := draw_eq hp (n := 3) (by omega) (by omega)
  have p0 := dr_pen hp (n := 3) (by omega) (by omega)
  generalize drI pen 3 = c0 at d0
  generalize drP pen 3 = pen0 at d0 p0
  have r1 : okR (many : Int) = true := okR_of (by omega) (by omega)
  have r2 : many ≤ sizeLine := sz_le (by omega)
  simp [rf__law_web, ev__law_web, d0, r1, r2, rangeD_map]
  generalize hcalm : decide (c0 = 0) = calm
  generalize hbd : sW [5, 6, 7, 8, 9] _ = body
  have key := loop_ex (bd := gSet 5) (body := body) (fun S : D × List (List (Nat × Nat)) => [some S.1, some (.int (many : Int)), some (.int (most : Int)), some (.lst (S.2.map rowD)), some (.bl calm), none, none, none, none, none, none]) (fun k S => PenOk S.1 ∧ S.2.length = k ∧ ∀ r ∈ S.2, RowOk many r) (pen0, []) (f := fun t : Nat => D.int (t : Int)) (xs := List.range many) (ρ := [some pen0, some (.int (many : Int)), some (.int (most : Int)), some (.lst []), some (.bl calm), none, none, none, none, none, none]) rfl ⟨p0, rfl, by simp⟩ fun k S hS t ht => ?_
  · obtain ⟨⟨S1, S2⟩, l1, l2, l3, l4⟩ := key
    rw [List.length_range] at l3
    simp only at l2 l3 l4
    rw [l1]
    simp [r1, r2, rangeD_map]
    obtain ⟨ys, S', c1, c2, c3⟩ := lc_sub (bd := gSet 5) (tt := ebV (eBin dEq (eCallI rf__law_draw 0 (eiHere 0 (eaCons (eC (.int 3)) eaNil))) (eC (.int 0)))) (ee := eV 5) (vs := [5]) (fun p : D => [some p, some (.int (many : Int)), some (.int (most : Int)), some (.lst (S2.map rowD)), some (.bl calm), none, none, none, none, none, none]) (fun p => PenOk p) S1 (f := fun t : Nat => D.int (t : Int)) (xs := List.range many) (ρ := [some S1, some (.int (many : Int)), some (.int (most : Int)), some (.lst (S2.map rowD)), some (.bl calm), none, none, none, none, none, none]) rfl l2 fun p hp t ht => by
      have d := draw_eq hp (n := 3) (by omega) (by omega)
      have q := dr_pen hp (n := 3) (by omega) (by omega)
      refine ⟨drP p 3, decide (drI p 3 = 0), ?_, q⟩
      generalize drI p 3 = x at d
      generalize drP p 3 = pp at d
      by_cases hx : x = 0 <;> simp [d, hx]
    rw [c1]
    have wn : Wb.n ⟨ys, S2⟩ = many := l3
    have pi : pureDs (ys.map fun t : Nat => D.int (t : Int)) = true := pureDs_map fun _ => rfl
    have ps : pureDs (S2.map rowD) = true := pu_steps
    refine ⟨S', ⟨ys, S2⟩, ?_, c3, ⟨?_, ?_, ?_, ?_, ?_, ?_, ?_, ?_⟩, wn⟩
    · simp [dTuple, pi, ps]
      rfl
    · rw [wn]; exact ⟨c2.nodup List.nodup_range, fun t ht => List.mem_range.mp (c2.subset ht)⟩
    · rw [wn]; exact fun r hr => (l4 r hr).lt
    · exact fun r hr => (l4 r hr).hv
    · exact fun r hr => (l4 r hr).nd
    · exact fun r hr => (l4 r hr).asc
    · exact List.pairwise_lt_range.sublist c2
    · rw [wn]; omega
    · exact fun r hr => (l4 r hr).ln
  · obtain ⟨S1, S2⟩ := S
    obtain ⟨q1, q2, q3⟩ := hS
    simp only at q1 q2 q3
    have hk := (List.getElem?_eq_some_iff.mp ht).1
    rw [List.length_range] at hk
    have pk := pick_l q1 (ds := [.int 0, .int 1, .int 1, .int 2, .int 3]) (by simp) (by simp) (by simp)
    have pm := pk_mem q1 (ds := [.int 0, .int 1, .int 1, .int 2, .int 3]) (by simp) (by simp)
    have pp := dr_pen q1 (n := 5) (by omega) (by omega)
    generalize pkD S1 [.int 0, .int 1, .int 1, .int 2, .int 3] = x at pk pm
    obtain ⟨nk, rfl, hnk⟩ : ∃ n : Nat, x = .int (n : Int) ∧ n ≤ 3 := by
      simp only [List.mem_cons, List.not_mem_nil, or_false] at pm
      rcases pm with rfl | rfl | rfl | rfl | rfl
      · exact ⟨0, rfl, by omega⟩
      · exact ⟨1, rfl, by omega⟩
      · exact ⟨1, rfl, by omega⟩
      · exact ⟨2, rfl, by omega⟩
      · exact ⟨3, rfl, by omega⟩
    have e5 : ((List.length [D.int 0, .int 1, .int 1, .int 2, .int 3] : Nat) : Int) = 5 := rfl
    rw [e5] at pk
    generalize drP S1 5 = pen1 at pk pp
    have s1 : okR (nk : Int) = true := okR_of (by omega) (by omega)
    have s2 : nk ≤ sizeLine := sz_le (by omega)
    have al : S2.length < sizeLine := sz_lt (by omega)
    subst hbd
    obtain ⟨T, t1, t2⟩ := loop_ex (bd := gSet 7) (body := sW [7, 8, 9] (sSeq (sSet 8 (eCallI rf__law_draw 0 (eiHere 0 (eaCons (eV 1) eaNil))))
  (sSeq (sSet 9 (eCallI rf__law_draw 0 (eiHere 0 (eaCons (eBin dAdd (eV 2) (eC (.int 1))) eaNil))))
  (sSeq (sSet 9 (eIf (ebAnd (ebT (eV 4)) (ebV (eBin (dLtI iLe) (eV 8) (eV 5)))) (eBin dAdd (eC (.int 1)) (eCallI rf__law_draw 0 (eiHere 0 (eaCons (eV 2) eaNil)))) (eV 9)))
  (sSet 6 (eIf (ebV (eBin dIn (eTup (eaCons (eV 9) (eaCons (eV 8) eaNil))) (eV 6))) (eMv 6) (eBin dAddL (eV 6) (eLst (eaCons (eTup (eaCons (eV 9) (eaCons (eV 8) eaNil))) eaNil))))))))) (fun T : D × List (Nat × Nat) => [some T.1, some (.int (many : Int)), some (.int (most : Int)), some (.lst (S2.map rowD)), some (.bl calm), some (.int (t : Int)), some (.lst (T.2.map stepD)), none, none, none, none]) (fun j T => PenOk T.1 ∧ j ≤ nk ∧ RowIn many j T.2) (pen1, []) (f := fun t : Nat => D.int (t : Int)) (xs := List.range nk) (ρ := [some pen1, some (.int (many : Int)), some (.int (most : Int)), some (.lst (S2.map rowD)), some (.bl calm), some (.int (t : Int)), some (.lst []), none, none, none, none]) rfl ⟨pp, Nat.zero_le _, ⟨List.nodup_nil, by simp, by simp, Nat.le_refl _⟩⟩ fun j T hT y hy => by
      obtain ⟨pen', r', w1, w2, w3⟩ := row_turn (calm := calm) (t := t) (a3 := some (.lst (S2.map rowD))) (a7 := some (.int (y : Int))) hT.1 m1 m2 o1 o2 hT.2.2 (show j ≤ 900 by have := hT.2.1; omega)
      have hj := (List.getElem?_eq_some_iff.mp hy).1
      rw [List.length_range] at hj
      refine ⟨(pen', r'), .inl ?_, w2, by omega, w3⟩
      exact w1
    rw [List.length_range] at t2
    refine ⟨(T.1, S2 ++ [sortS T.2]), .inl ?_, t2.1, by simp [q2], fun r hr => ?_⟩
    · simp [pk, s1, s2, rangeD_map]
      rw [t1]
      have ra : (S2 ++ [sortS T.2]).map rowD = S2.map rowD ++ [.tup ((sortS T.2).map stepD)] := by simp [rowD]
      simp [sorted_steps, dTuple, pu_steps1, dApp, al]
      rfl
    · rcases List.mem_append.mp hr with z | z
      · exact q3 r z
      · simp only [List.mem_singleton] at z
        subst z
        exact sort_ok t2.2.2 (by omega)
end
end WV

/-! _law_is of lengths -/
namespace WV
open PySem PySem.Spec PyProof.Rows EL PV WB
open L2 hiding XE
section
@[simp] theorem isi_t_non : dIsi "tuple" .non = some (.bl false) := rfl
@[simp] theorem isi_t_int {i : Int} : dIsi "tuple" (.int i) = some (.bl false) := rfl
@[simp] theorem isi_s_int {i : Int} : dIsi "str" (.int i) = some (.bl false) := rfl
theorem is_o (F : List D → Fr) (o : Option Nat) : rf__law_is F [oD o, oD o] = .ok (.bl true) .non := by
  cases o with
  | none => simp [rf__law_is, ev__law_is, oD_n]
  | some v => simp [rf__law_is, ev__law_is, oD_s]
theorem fm_none : ∀ l : List Nat, l.filterMap (fun _ => (none : Option D)) = [] := by intro l; induction l <;> simp_all
theorem is_t {F : List D → Fr} (hF : ∀ o, F [oD o, oD o] = .ok (.bl true) .non) {os : List (Option Nat)} (hl : os.length ≤ 1000) : rf__law_is F [.tup (os.map oD), .tup (os.map oD)] = .ok (.bl true) .non := by
  have r1 : okR (os.length : Int) = true := okR_of (by omega) (by omega)
  have r2 : os.length ≤ sizeLine := sz_le (by omega)
  simp [rf__law_is, ev__law_is, r1, r2, rangeD_map]
  rw [lc_w (fun _ : Nat => none) fun k hk => ?_]
  · have e : dEq (D.lst []) (D.lst []) = some (.bl true) := by simp [dEq, eqvD]
    simp [fm_none, e]
  · have hk' := List.mem_range.mp hk
    obtain ⟨o, ho⟩ : ∃ o, os[k]? = some o := ⟨_, List.getElem?_eq_getElem hk'⟩
    simp [ho, hF]
end
end WV

namespace K32
open PySem PySem.Spec PyProof.Rows EL PV WV
open L2 hiding XE
/-! law -/
noncomputable def ev_law (F__law_pen : List D → Fr) (F__law_web : List D → Fr) (F__law_draw : List D → Fr) (F__law_made_web : List D → Fr) (F__law_farthest : List D → Fr) (F__law_is : List D → Fr) (F_length : List D → Fr) (F_lengths : List D → Fr) (F_walk_of : List D → Fr) (F__law_walked : List D → Fr) (F__law_heavy : List D → Fr) (F__law_met : List D → Fr) (F_Web : List D → Fr) : Ms :=
  (sSeq (sSet 1 (eCall F__law_pen (eaCons (eV 0) eaNil)))
  (sSeq (sFor [] (itR1 (eaCons (eC (.int 2)) eaNil)) (gSet 2) (sW [2, 3, 4, 5, 6, 8, 9, 10] (sSeq (sUnp (gsCons (gSet 3) (gsCons (gSet 4) gsNil)) (eTup (eaCons (eCallI F__law_web 1 (eiHere 1 (eaCons (eBin dAdd (eC (.int 1)) (eCallI F__law_draw 1 (eiHere 1 (eaCons (eC (.int 8)) eaNil)))) (eaCons (eC (.int 3)) eaNil)))) (eaCons (eCallI F__law_draw 1 (eiHere 1 (eaCons (eC (.int 10)) eaNil))) eaNil))))
  (sSeq (sSet 5 (eCall F__law_made_web (eaCons (eV 3) eaNil)))
  (sSeq (sSet 6 (eLc [7] (itR1 (eaCons (eBin dAdd (eV 4) (eC (.int 1))) eaNil)) (gSet 7) ebYes (eCall F__law_farthest (eaCons (eV 3) (eaCons (eV 7) eaNil)))))
  (sSeq (sIf (ebOr (ebNot (ebT (eCall F__law_is (eaCons (eCall F_length (eaCons (eV 5) (eaCons (eV 4) eaNil))) (eaCons (eBin dIx (eV 6) (eUn dNeg (eC (.int 1)))) eaNil))))) (ebNot (ebT (eCall F__law_is (eaCons (eCall F_lengths (eaCons (eV 5) (eaCons (eV 4) eaNil))) (eaCons (eA1 dTuple (eV 6)) eaNil)))))) (sRet (eC (.bl false))) sNil)
  (sSeq (sSet 8 (eCall F_walk_of (eaCons (eV 5) (eaCons (eV 4) eaNil))))
  (sSeq (sIf (ebOr (ebV (eBin dIsN (eBin dIx (eV 6) (eUn dNeg (eC (.int 1)))) (eC .non))) (ebV (eBin dEq (eBin dIx (eV 3) (eC (.int 0))) (eTup eaNil)))) (sIf (ebV (eBin dNotN (eV 8) (eC .non))) (sRet (eC (.bl false))) sNil) (sIf (ebOr (ebNot (ebT (eUn (dIsi "tuple") (eV 8)))) (ebOr (ebV (eBin dNe (eA1 dLen (eV 8)) (eC (.int 2)))) (ebOr (ebV (eBin dNotIn (eBin dIx (eV 8) (eC (.int 0))) (eBin dIx (eV 3) (eC (.int 0))))) (ebV (eBin dNe (eA1 dLen (eBin dIx (eV 8) (eC (.int 1)))) (eBin dIx (eV 6) (eUn dNeg (eC (.int 1))))))))) (sRet (eC (.bl false))) (sIf (ebOr (ebV (eBin dIsN (eCall F__law_walked (eaCons (eV 3) (eaCons (eBin dIx (eV 8) (eC (.int 0))) (eaCons (eBin dIx (eV 8) (eC (.int 1))) eaNil)))) (eC .non))) (ebV (eBin (dLtI iGt) (eCall F__law_heavy (eaCons (eBin dIx (eV 8) (eC (.int 1))) eaNil)) (eV 4)))) (sRet (eC (.bl false))) sNil)))
  (sSeq (sSet 9 (eCall F__law_met (eaCons (eV 3) (eaCons (eC (.bl false)) eaNil))))
  (sSeq (sSet 10 (eA1 dTuple (eLc [11, 12] (itEnum (eBin dIx (eV 3) (eC (.int 1)))) (gTupD (gsCons (gSet 11) (gsCons (gSet 12) gsNil))) ebYes (eIf (ebV (eBin dIn (eV 11) (eV 9))) (eV 12) (eTup eaNil)))))
  (sIf (ebNot (ebT (eCall F__law_is (eaCons (eCall F_lengths (eaCons (eMake "Web" F_Web (eaCons (eBin dIx (eV 3) (eC (.int 0))) (eaCons (eV 10) eaNil))) (eaCons (eV 4) eaNil))) (eaCons (eA1 dTuple (eV 6)) eaNil))))) (sRet (eC (.bl false))) sNil)))))))))))
  (sRet (eC (.bl true)))))
noncomputable def rf_law (F__law_pen : List D → Fr) (F__law_web : List D → Fr) (F__law_draw : List D → Fr) (F__law_made_web : List D → Fr) (F__law_farthest : List D → Fr) (F__law_is : List D → Fr) (F_length : List D → Fr) (F_lengths : List D → Fr) (F_walk_of : List D → Fr) (F__law_walked : List D → Fr) (F__law_heavy : List D → Fr) (F__law_met : List D → Fr) (F_Web : List D → Fr) : List D → Fr := runF 1 13 [] none (ev_law F__law_pen F__law_web F__law_draw F__law_made_web F__law_farthest F__law_is F_length F_lengths F_walk_of F__law_walked F__law_heavy F__law_met F_Web)
end K32

/-! the law of the lengths of walks -/
namespace K32
open PySem PySem.Spec PyProof.Rows EL PV WB WV
open L2 hiding XE
noncomputable abbrev fFar := rf__law_farthest rf__law_met rf__law_lasting rf__law_best
noncomputable abbrev fIs := rf__law_is (rf__law_is (fun _ => .st))
noncomputable abbrev fLength := rf_length F_need F_best F_layers
noncomputable abbrev fLengths := rf_lengths F_need F_layers F_best
noncomputable abbrev fWalk := rf_walk_of F_need F_layers F_best
noncomputable abbrev fWebL := rf__law_web rf__law_draw (rf__law_pick rf__law_draw)
noncomputable abbrev fMade := rf__law_made_web F_Web
noncomputable abbrev fLaw := rf_law rf__law_pen fWebL rf__law_draw fMade fFar fIs fLength fLengths fWalk rf__law_walked rf__law_heavy rf__law_met F_Web
theorem last_lst {ds : List D} {d : D} : dIx (.lst (ds ++ [d])) (.int (-1)) = some d := by
  show atI _ _ = _
  unfold atI ixN
  have e : (-1 + ((ds.length : Int) + 1)).toNat = ds.length := by omega
  have h : (1 : Int) ≤ (ds.length : Int) + 1 := by omega
  simp [e, h]
theorem ne_tup {xs : List Nat} (h : xs ≠ []) : dEq (.tup (intsT xs)) (.tup []) = some (.bl false) := by
  cases xs with
  | nil => exact absurd rfl h
  | cons x xs =>
    have h1 : okNs 63 (intsT (x :: xs)) = true := okNs_map fun _ _ => by simp
    have h2 : eqvD (.tup (intsT (x :: xs))) (.tup []) = false := by simp [intsT, eqvD]
    simp only [dEq]
    simp [h1, h2]
theorem neg1 : dNeg (.int 1) = some (.int (-1)) := rfl
theorem notin_tup {xs : List Nat} {t : Nat} (h : t ∈ xs) : dNotIn (.int (t : Int)) (.tup (intsT xs)) = some (.bl false) := by
  have h1 : okNs 63 (intsT xs) = true := okNs_map fun _ _ => by simp
  have h2 : ((intsT xs).any fun z => eqvD z (.int (t : Int))) = true := by
    simp only [intsT, List.any_map, List.any_eq_true, Function.comp]
    exact ⟨t, h, by simp [eqvD]⟩
  simp [dNotIn, inD, h1, h2]
theorem tw0 {w : Wb} : dIx (tupW w) (.int 0) = some (.tup (intsT w.starts)) := rfl
theorem tw1 {w : Wb} : dIx (tupW w) (.int 1) = some (.tup (w.steps.map rowD)) := rfl
theorem enum_rows {w : Wb} : enumD (w.steps.map rowD) = (List.range w.n).map fun i => .tup [.int (i : Nat), rowD (w.st i)] := by
  unfold enumD
  rw [List.length_map]
  apply List.map_congr_left
  intro i hi
  have hi' : i < w.steps.length := List.mem_range.mp hi
  have e : (w.steps.map rowD).getD i .non = rowD (w.st i) := by
    unfold Wb.st
    rw [List.getD_eq_getElem?_getD, List.getD_eq_getElem?_getD, List.getElem?_map, List.getElem?_eq_getElem hi']; rfl
  rw [e]
theorem cut_rowsD {w : Wb} {m : List Nat} : (cutW w m).steps.map rowD = (List.range w.n).map fun i => rowD (if i ∈ m then w.st i else []) := by
  simp [cutW]
theorem pu_rowD (r : List (Nat × Nat)) : pureD (rowD r) = true := pu_row
theorem law_ok (ns : List Int) : fLaw [.scr (ns.map .int)] = .ok (.bl true) .non := by
  obtain ⟨pen, e0, p0⟩ := pen_ok ns
  have h1 : okR 2 = true := okR_of (by omega) (by omega)
  simp [fLaw, rf_law, ev_law, e0, h1, rangeD_map]
  generalize hr : loopS _ _ _ _ = r
  obtain ⟨q, rfl, hq⟩ := loop_exR hr (fun q : D => [some (.scr (ns.map .int)), some q, none, none, none, none, none, none, none, none, none, none, none]) (fun _ q => PenOk q) pen rfl p0 (by
    intro i q hq x _
    clear hr
    have a0 := dr_lo hq (n := 8) (by omega) (by omega)
    have a1 := dr_hi hq (n := 8) (by omega) (by omega)
    have ap := dr_pen hq (n := 8) (by omega) (by omega)
    have ae := draw_eq hq (n := 8) (by omega) (by omega)
    generalize drI q 8 = a at a0 a1 ae
    generalize drP q 8 = q1 at ap ae
    obtain ⟨n, hn, n1, n8⟩ : ∃ n : Nat, 1 + a = (n : Int) ∧ 1 ≤ n ∧ n ≤ 8 := ⟨(1 + a).toNat, by omega, by omega, by omega⟩
    obtain ⟨q2, w, we, wp, wo, wn⟩ := law_web_ok ap (many := n) (most := 3) n1 (by omega) (by omega) (by omega)
    have b0 := dr_lo wp (n := 10) (by omega) (by omega)
    have b1 := dr_hi wp (n := 10) (by omega) (by omega)
    have bp := dr_pen wp (n := 10) (by omega) (by omega)
    have be := draw_eq wp (n := 10) (by omega) (by omega)
    generalize drI q2 10 = b at b0 b1 be
    generalize drP q2 10 = q3 at bp be
    obtain ⟨c, rfl, c9⟩ : ∃ c : Nat, b = (c : Int) ∧ c ≤ 9 := ⟨b.toNat, by omega, by omega⟩
    have md := made_ok wo
    obtain ⟨order, inf, fw, io, lay⟩ := web_inf wo
    have hl := lay c (by omega)
    have le := length_ok wo inf (c := c) (by omega) hl
    have ls := lengths_ok wo inf (c := c) (by omega) hl
    have far : ∀ p : Nat, p ≤ c → fFar [tupW w, .int (p : Int)] = .ok (oD (bestS (rowP w order p) w.starts)) .non := fun p hp => farthest_ok wo inf (by omega)
    have rc : okR ((c : Int) + 1) = true := okR_of (by omega) (by omega)
    have rs : c + 1 ≤ sizeLine := sz_le (by omega)
    have we' : fWebL [q1, .int (n : Int), .int 3] = .ok (tupW w) q2 := we
    refine ⟨q3, .inl ?_, bp⟩
    simp [ae, hn, we', be, md, rc, rs, rangeD_map]
    obtain ⟨dl, hdl⟩ : ∃ dl, dl = (List.range (c + 1)).map fun p => oD (bestS (rowP w order p) w.starts) := ⟨_, rfl⟩
    have hm : dl = ((List.range (c + 1)).map fun p => bestS (rowP w order p) w.starts).map oD := by rw [hdl, List.map_map]; rfl
    have hlast : dIx (.lst dl) (.int (-1)) = some (oD (bestS (rowP w order c) w.starts)) := by
      rw [hdl, List.range_succ, List.map_append]
      exact last_lst
    have hpu : pureDs dl = true := by rw [hdl]; exact pureDs_map fun _ => pu_oD _
    have cl : fLengths [.ins "Web" (cutW w (met w.st w.n false w.starts)).fs, .int (c : Int)] = _ := cut_lengths wo inf (c := c) (by omega)
    have ci : F_Web [.obj "Web" [], .tup (intsT w.starts), .tup ((cutW w (met w.st w.n false w.starts)).steps.map rowD)] = .ok .non (.obj "Web" (cutW w (met w.st w.n false w.starts)).fs) := init_ok (cut_ok wo)
    rw [← hdl] at cl ls
    have it : fIs [.tup dl, .tup dl] = .ok (.bl true) .non := by
      rw [hm]
      exact is_t (fun o => is_o _ o) (by simp; omega)
    have io1 : fIs [oD (bestS (rowP w order c) w.starts), oD (bestS (rowP w order c) w.starts)] = .ok (.bl true) .non := is_o _ _
    have lm := law_met_ok wo false
    rw [lc_w (fun p : Nat => some (oD (bestS (rowP w order p) w.starts))) fun p hp => ?_]
    · rw [fm_some, ← hdl]
      have dt : dTuple [.lst dl] = some (.tup dl) := by simp [dTuple, hpu]
      generalize ht : sSeq (sSet 9 _) _ = tail
      have tl : ∀ v, tail [some (D.scr (List.map D.int ns)), some q3, some (D.int ↑x), some (tupW w), some (D.int ↑c), some (webD w), some (.lst dl), none, some v, none, none, none, none] = .nx [some (D.scr (List.map D.int ns)), some q3, some (D.int ↑x), some (tupW w), some (D.int ↑c), some (webD w), some (.lst dl), none, some v, some (.lst (intsT (met w.st w.n false w.starts))), some (.tup ((cutW w (met w.st w.n false w.starts)).steps.map rowD)), none, none] := by
        intro v
        rw [← ht]
        have ps := pu_steps (ss := w.steps)
        simp [lm, tw1, ps, enum_rows]
        rw [lc_w (fun i : Nat => some (rowD (if i ∈ met w.st w.n false w.starts then w.st i else []))) fun i hi => ?_]
        · rw [fm_some, ← cut_rowsD]
          have dt2 : dTuple [.lst ((cutW w (met w.st w.n false w.starts)).steps.map rowD)] = some (.tup ((cutW w (met w.st w.n false w.starts)).steps.map rowD)) := by simp [dTuple, pu_steps]
          simp [dt2, dt, tw0, ci, cl, it, pu_steps, pu_ints]
        · have := in_ints (xs := met w.st w.n false w.starts) (t := i)
          by_cases hm : i ∈ met w.st w.n false w.starts <;> simp [this, hm, pu_rowD]
          rfl
      clear ht
      cases hb : bestS (rowP w order c) w.starts with
      | none =>
        have wk := walk_none wo inf (c := c) (by omega) hl (.inl hb)
        rw [hb] at le hlast io1
        simp only [oD_n] at le hlast io1
        simp [neg1, le, ls, hlast, io1, dt, it, wk, oD_n, tl]
      | some m =>
        by_cases hs : w.starts = []
        · have wk := walk_none wo inf (c := c) (by omega) hl (.inr hs)
          have e : dEq (.tup (intsT w.starts)) (.tup []) = some (.bl true) := by rw [hs]; rfl
          rw [hb] at le hlast io1
          simp only [oD_s] at le hlast io1
          simp [neg1, le, ls, hlast, io1, dt, it, wk, oD_s, tl, tw0, e]
        · obtain ⟨start, steps, b, k1, k2, k3, k4, wk⟩ := walk_some wo inf (c := c) (by omega) hl hb hs
          have e := ne_tup hs
          have kw := walked_ok wo k2 (wo.gs.lt start k1)
          have kh := heavy_ok (r := steps)
          have kn := notin_tup k1
          have kp := pu_steps1 (r := steps)
          rw [hb] at le hlast io1
          simp only [oD_s] at le hlast io1
          simp [neg1, le, ls, hlast, io1, dt, it, wk, oD_s, tl, tw0, e, kw, kh, kn, kp, k3, k4, dNe, eqvD]
    · have := far p (by have := List.mem_range.mp hp; omega)
      simp [this, pu_oD])
  simp
end K32

namespace K32
open PySem PySem.Spec PyProof.Rows EL PV WV
open L2 hiding XE
def top (i : Nat) : Stmt := PySem.Challenge.pw_everylanding_k32_whole_lengths_of_walks.main.body.getD i (.Pass ⟨0, 0, 0, 0⟩)
abbrev FnP (K : PySem.W.Frag) (x : Str) (st : Stmt) (f : Addr) (fd : FuncData) : Prop := FunD K x x (defArgs st) (defBody st) (defScope st) [] [] f fd
def mem (i j : Nat) : Stmt := match top i with | .ClassDef _ _ _ b _ _ _ _ _ _ _ => b.getD j (.Pass ⟨0, 0, 0, 0⟩) | s => s
abbrev FnM (K : PySem.W.Frag) (x q : Str) (st : Stmt) (f : Addr) (fd : FuncData) : Prop := FunD K x q (defArgs st) (defBody st) (defScope st) [] [] f fd
section
variable {P : Program} {w : World} {K : PySem.W.Frag} {mg : Str → Option Value} {base : Heap} {C : Core} {f : Addr} {fd : FuncData}
/-! is_whole -/
abbrev st_is_whole : Stmt := top 5
theorem sc_is_whole : FnScope ["value"] ["value"] (defScope st_is_whole) := ⟨rfl, rfl, rfl, by decide +kernel, rfl, by decide +kernel, by decide +kernel⟩
theorem okf_is_whole {k : Nat} (Z : Gz mg C K) (F : FnP K "is_whole" st_is_whole f fd)  : FnOk P w K mg base (L2.CX P w) (k + 1) f fd ["value"] (spD C 1 none .pu (rf_is_whole )) := by
  refine fn_ok (ks := [.par]) F sc_is_whole rfl rfl rfl (by intro i hi; cases hi <;> exact ⟨by decide, rfl⟩) (fun cdv A outer s H E hr => ?_)
  have q := cq_of (ks := [.par]) (C := C) (CX := L2.CX P w) (P := P) (w := w) (base := base) (N := ["value"]) (f := f) (cdv := cdv) (A := A) (outer := outer) (s := s) (H := H) (E := E) (scope := defScope st_is_whole) (qual := "is_whole") Z sc_is_whole.nd hr
  have tk := takes_of (X := cxOf (L2.CX P w) P w K mg base ["value"] "is_whole" (defScope st_is_whole) f cdv A outer s H E) rfl rfl rfl rfl
  have hp := passes_of (X := cxOf (L2.CX P w) P w K mg base ["value"] "is_whole" (defScope st_is_whole) f cdv A outer s H E) rfl
  exact (xs_one (xs_ret (xe_and (x_isi q "int" "int" (xe_v 0)) (xe_one (xe_not (x_isi q "bool" "bool" (xe_v 0)))))))
theorem ok_is_whole {k : Nat} (Z : Gz mg C K) (F : FnP K "is_whole" st_is_whole f fd) (gm : mg "is_whole" = some (.ref f))  : FnG P w K mg base C (k + 1) "is_whole" 1 none .pu (rf_is_whole ) :=
  ⟨f, fd, ["value"], okf_is_whole Z F , gm, F.kp, F.bindsN (fun _ _ _ _ _ _ us hl => match us, hl with | [_], _ => rfl), rfl⟩
/-! is_number -/
abbrev st_is_number : Stmt := top 6
theorem sc_is_number : FnScope ["value"] ["value"] (defScope st_is_number) := ⟨rfl, rfl, rfl, by decide +kernel, rfl, by decide +kernel, by decide +kernel⟩
theorem okf_is_number {k : Nat} {F_is_whole : List D → Fr} (Z : Gz mg C K) (F : FnP K "is_number" st_is_number f fd) (G_is_whole : FnG P w K mg base C k "is_whole" 1 none .pu F_is_whole) : FnOk P w K mg base (L2.CX P w) (k + 1) f fd ["value"] (spD C 1 none .pu (rf_is_number F_is_whole)) := by
  refine fn_ok (ks := [.par]) F sc_is_number rfl rfl rfl (by intro i hi; cases hi <;> exact ⟨by decide, rfl⟩) (fun cdv A outer s H E hr => ?_)
  have q := cq_of (ks := [.par]) (C := C) (CX := L2.CX P w) (P := P) (w := w) (base := base) (N := ["value"]) (f := f) (cdv := cdv) (A := A) (outer := outer) (s := s) (H := H) (E := E) (scope := defScope st_is_number) (qual := "is_number") Z sc_is_number.nd hr
  have tk := takes_of (X := cxOf (L2.CX P w) P w K mg base ["value"] "is_number" (defScope st_is_number) f cdv A outer s H E) rfl rfl rfl rfl
  have hp := passes_of (X := cxOf (L2.CX P w) P w K mg base ["value"] "is_number" (defScope st_is_number) f cdv A outer s H E) rfl
  exact (xs_one (xs_ret (xe_and (x_call tk G_is_whole hr (xa_cons (xe_v 0) xa_nil)) (xe_one (x_ge q (xe_v 0) xe_int)))))
theorem ok_is_number {k : Nat} {F_is_whole : List D → Fr} (Z : Gz mg C K) (F : FnP K "is_number" st_is_number f fd) (gm : mg "is_number" = some (.ref f)) (G_is_whole : FnG P w K mg base C k "is_whole" 1 none .pu F_is_whole) : FnG P w K mg base C (k + 1) "is_number" 1 none .pu (rf_is_number F_is_whole) :=
  ⟨f, fd, ["value"], okf_is_number Z F G_is_whole, gm, F.kp, F.bindsN (fun _ _ _ _ _ _ us hl => match us, hl with | [_], _ => rfl), rfl⟩
/-! as_tuples -/
abbrev st_as_tuples : Stmt := top 7
theorem sc_as_tuples : FnScope ["value", "one"] ["value"] (defScope st_as_tuples) := ⟨rfl, rfl, rfl, by decide +kernel, rfl, by decide +kernel, by decide +kernel⟩
theorem okf_as_tuples {k : Nat} {F_as_tuples : List D → Fr} (Z : Gz mg C K) (F : FnP K "as_tuples" st_as_tuples f fd) (G_as_tuples : FnG P w K mg base C k "as_tuples" 1 none .pu F_as_tuples) : FnOk P w K mg base (L2.CX P w) (k + 1) f fd ["value"] (spD C 1 none .pu (rf_as_tuples F_as_tuples)) := by
  refine fn_ok (ks := [.pl, .pl]) F sc_as_tuples rfl rfl rfl (by intro i hi; cases hi <;> exact ⟨by decide, rfl⟩) (fun cdv A outer s H E hr => ?_)
  have q := cq_of (ks := [.pl, .pl]) (C := C) (CX := L2.CX P w) (P := P) (w := w) (base := base) (N := ["value", "one"]) (f := f) (cdv := cdv) (A := A) (outer := outer) (s := s) (H := H) (E := E) (scope := defScope st_as_tuples) (qual := "as_tuples") Z sc_as_tuples.nd hr
  have tk := takes_of (X := cxOf (L2.CX P w) P w K mg base ["value", "one"] "as_tuples" (defScope st_as_tuples) f cdv A outer s H E) rfl rfl rfl rfl
  have hp := passes_of (X := cxOf (L2.CX P w) P w K mg base ["value", "one"] "as_tuples" (defScope st_as_tuples) f cdv A outer s H E) rfl
  exact (xs_cons (xs_if (t_tru q (x_isi2 q "list" "tuple" "list" "tuple" (xe_v 0))) (xs_one (xs_ret (x_tuple q (xe_lc q.calm q.nd (xl_lc (own := [("one", 1)]) (xi_seq q.K (xe_v 0)) rfl (fun _ _ _ _ _ => (xg_name 1 (q.bk []).nd)) (fun _ _ _ _ _ => xc_nil) (fun _ _ _ _ _ => (x_call takes0 G_as_tuples hr (xa_cons (xe_v 1) xa_nil)))))))) xs_nil)
    (xs_one (xs_ret (xe_v 0))))
theorem ok_as_tuples {k : Nat} {F_as_tuples : List D → Fr} (Z : Gz mg C K) (F : FnP K "as_tuples" st_as_tuples f fd) (gm : mg "as_tuples" = some (.ref f)) (G_as_tuples : FnG P w K mg base C k "as_tuples" 1 none .pu F_as_tuples) : FnG P w K mg base C (k + 1) "as_tuples" 1 none .pu (rf_as_tuples F_as_tuples) :=
  ⟨f, fd, ["value"], okf_as_tuples Z F G_as_tuples, gm, F.kp, F.bindsN (fun _ _ _ _ _ _ us hl => match us, hl with | [_], _ => rfl), rfl⟩
theorem nv_as_tuples {k : Nat} (F : FnP K "as_tuples" st_as_tuples f fd) (gm : mg "as_tuples" = some (.ref f)) : FnG P w K mg base C (k + 1) "as_tuples" 1 none .pu (fun _ => .st) := by
  have h : FnG P w K mg base C (k + 1) "as_tuples" 1 none .pu (runF 1 2 [0] none fun _ => .st) := ⟨f, fd, ["value"], fn_ok (ks := [.pl, .pl]) F sc_as_tuples rfl rfl rfl (by intro i hi; cases hi <;> exact ⟨by decide, rfl⟩) (fun cdv A outer s H E hr => xss_never), gm, F.kp, F.bindsN (fun _ _ _ _ _ _ us hl => match us, hl with | [_], _ => rfl), rfl⟩
  exact h.imp fun ds _ h2 => absurd rfl h2
/-! is_index -/
abbrev st_is_index : Stmt := top 8
theorem sc_is_index : FnScope ["value", "many"] ["value", "many"] (defScope st_is_index) := ⟨rfl, rfl, rfl, by decide +kernel, rfl, by decide +kernel, by decide +kernel⟩
theorem okf_is_index {k : Nat} {F_is_whole : List D → Fr} (Z : Gz mg C K) (F : FnP K "is_index" st_is_index f fd) (G_is_whole : FnG P w K mg base C k "is_whole" 1 none .pu F_is_whole) : FnOk P w K mg base (L2.CX P w) (k + 1) f fd ["value", "many"] (spD C 2 none .pu (rf_is_index F_is_whole)) := by
  refine fn_ok (ks := [.par, .pl]) F sc_is_index rfl rfl rfl (by intro i hi; cases hi <;> exact ⟨by decide, rfl⟩) (fun cdv A outer s H E hr => ?_)
  have q := cq_of (ks := [.par, .pl]) (C := C) (CX := L2.CX P w) (P := P) (w := w) (base := base) (N := ["value", "many"]) (f := f) (cdv := cdv) (A := A) (outer := outer) (s := s) (H := H) (E := E) (scope := defScope st_is_index) (qual := "is_index") Z sc_is_index.nd hr
  have tk := takes_of (X := cxOf (L2.CX P w) P w K mg base ["value", "many"] "is_index" (defScope st_is_index) f cdv A outer s H E) rfl rfl rfl rfl
  have hp := passes_of (X := cxOf (L2.CX P w) P w K mg base ["value", "many"] "is_index" (defScope st_is_index) f cdv A outer s H E) rfl
  exact (xs_one (xs_ret (xe_and (x_call tk G_is_whole hr (xa_cons (xe_v 0) xa_nil)) (xe_one (xe_chain op_le op2_cmpI op_lt op2_cmpI xe_int (xe_v 0) (xe_v 1))))))
theorem ok_is_index {k : Nat} {F_is_whole : List D → Fr} (Z : Gz mg C K) (F : FnP K "is_index" st_is_index f fd) (gm : mg "is_index" = some (.ref f)) (G_is_whole : FnG P w K mg base C k "is_whole" 1 none .pu F_is_whole) : FnG P w K mg base C (k + 1) "is_index" 2 none .pu (rf_is_index F_is_whole) :=
  ⟨f, fd, ["value", "many"], okf_is_index Z F G_is_whole, gm, F.kp, F.bindsN (fun _ _ _ _ _ _ us hl => match us, hl with | [_, _], _ => rfl), rfl⟩
/-! found_ways -/
abbrev st_found_ways : Stmt := top 10
theorem sc_found_ways : FnScope ["web", "idle", "ways", "line", "start", "at", "step"] ["web", "idle"] (defScope st_found_ways) := ⟨rfl, rfl, rfl, by decide +kernel, rfl, by decide +kernel, by decide +kernel⟩
theorem okf_found_ways {k : Nat} (Z : Gz mg C K) (F : FnP K "found_ways" st_found_ways f fd) (C_Web : ClG mg C "Web" ["starts", "steps"]) : FnOk P w K mg base (L2.CX P w) (k + 1) f fd ["web", "idle"] (spD C 2 none .fr (rf_found_ways )) := by
  refine fn_ok (ks := [.pl, .pl, .own, .own, .pl, .pl, .pl]) F sc_found_ways rfl rfl rfl (by intro i hi; cases hi <;> exact ⟨by decide, rfl⟩) (fun cdv A outer s H E hr => ?_)
  have q := cq_of (ks := [.pl, .pl, .own, .own, .pl, .pl, .pl]) (C := C) (CX := L2.CX P w) (P := P) (w := w) (base := base) (N := ["web", "idle", "ways", "line", "start", "at", "step"]) (f := f) (cdv := cdv) (A := A) (outer := outer) (s := s) (H := H) (E := E) (scope := defScope st_found_ways) (qual := "found_ways") Z sc_found_ways.nd hr
  have tk := takes_of (X := cxOf (L2.CX P w) P w K mg base ["web", "idle", "ways", "line", "start", "at", "step"] "found_ways" (defScope st_found_ways) f cdv A outer s H E) rfl rfl rfl rfl
  have hp := passes_of (X := cxOf (L2.CX P w) P w K mg base ["web", "idle", "ways", "line", "start", "at", "step"] "found_ways" (defScope st_found_ways) f cdv A outer s H E) rfl
  exact (xs_cons (xs_par 2 3 q.calm q.nd (xe_dc q.calm q.nd (xd_dc (own := [("start", 4)]) (xi_seq q.K (x_fld q C_Web (xe_v 0))) rfl (fun _ _ _ _ _ => (xg_name 4 (q.bk []).nd)) (fun _ _ _ _ _ => xc_nil) (fun _ _ _ _ _ => (xe_v 4)) (fun _ _ _ _ _ => xe_non))) (x_list q (x_fld q C_Web (xe_v 0))))
    (xs_cons (xs_set 5 q.nd xe_int)
    (xs_cons (xs_while hp (t_lt q (xe_v 5) (x_len q (xe_v 3))) (xss_w [6] (xs_cons (xs_for [] hp q.calm (xi_seq q.K (x_ix q (x_fld q C_Web (xe_v 0)) (XE.pure (x_ix q (xe_v 3) (xe_v 5))))) (xg_name 6 (q.lk []).nd) (xss_w [6] (xs_one (xs_if (XW.pt (xw_and (t_niK (q.lk []) (x_ix (q.lk []) (xe_v 6) xe_int) (xe_v 2)) (xw_and1 (XW.pt (xw_or (t_eq (q.lk []) (x_ix (q.lk []) (xe_v 6) xe_int) xe_int) (xw_or1 (xt_not (t_tru (q.lk []) (xe_v 1))))))))) (xs_cons (xs_put 2 (q.lk []).u1 (xe_tup (xa_cons (x_ix (q.lk []) (xe_v 3) (xe_v 5)) (xa_cons (xe_v 6) xa_nil))) (x_ix (q.lk []) (xe_v 6) xe_int))
    (xs_one (xs_expr (x_app (q.lk []) 3 (x_ix (q.lk []) (xe_v 6) xe_int))))) xs_nil))))
    (xs_one (xs_set 5 q.nd (x_add q (xe_v 5) xe_int))))))
    (xs_one (xs_ret (xe_mv 2))))))
theorem ok_found_ways {k : Nat} (Z : Gz mg C K) (F : FnP K "found_ways" st_found_ways f fd) (gm : mg "found_ways" = some (.ref f)) (C_Web : ClG mg C "Web" ["starts", "steps"]) : FnG P w K mg base C (k + 1) "found_ways" 2 none .fr (rf_found_ways ) :=
  ⟨f, fd, ["web", "idle"], okf_found_ways Z F C_Web, gm, F.kp, F.bindsN (fun _ _ _ _ _ _ us hl => match us, hl with | [_, _], _ => rfl), rfl⟩
/-! idle_order -/
abbrev st_idle_order : Stmt := top 11
theorem sc_idle_order : FnScope ["web", "things", "left", "users", "thing", "idle", "step", "behind", "order", "at", "user"] ["web", "things"] (defScope st_idle_order) := ⟨rfl, rfl, rfl, by decide +kernel, rfl, by decide +kernel, by decide +kernel⟩
theorem okf_idle_order {k : Nat} (Z : Gz mg C K) (F : FnP K "idle_order" st_idle_order f fd) (C_Web : ClG mg C "Web" ["starts", "steps"]) : FnOk P w K mg base (L2.CX P w) (k + 1) f fd ["web", "things"] (spD C 2 none .fr (rf_idle_order )) := by
  refine fn_ok (ks := [.pl, .par, .own, .own, .pl, .own, .pl, .pl, .own, .pl, .pl]) F sc_idle_order rfl rfl rfl (by intro i hi; cases hi <;> exact ⟨by decide, rfl⟩) (fun cdv A outer s H E hr => ?_)
  have q := cq_of (ks := [.pl, .par, .own, .own, .pl, .own, .pl, .pl, .own, .pl, .pl]) (C := C) (CX := L2.CX P w) (P := P) (w := w) (base := base) (N := ["web", "things", "left", "users", "thing", "idle", "step", "behind", "order", "at", "user"]) (f := f) (cdv := cdv) (A := A) (outer := outer) (s := s) (H := H) (E := E) (scope := defScope st_idle_order) (qual := "idle_order") Z sc_idle_order.nd hr
  have tk := takes_of (X := cxOf (L2.CX P w) P w K mg base ["web", "things", "left", "users", "thing", "idle", "step", "behind", "order", "at", "user"] "idle_order" (defScope st_idle_order) f cdv A outer s H E) rfl rfl rfl rfl
  have hp := passes_of (X := cxOf (L2.CX P w) P w K mg base ["web", "things", "left", "users", "thing", "idle", "step", "behind", "order", "at", "user"] "idle_order" (defScope st_idle_order) f cdv A outer s H E) rfl
  exact (xs_cons (xs_unpF [(2, true), (3, true)] q (xe_tupX (xa_cons xe_dic0 (xa_cons (xe_dc q.calm q.nd (xd_dc (own := [("thing", 4)]) (xi_seq q.K (xe_v 1)) rfl (fun _ _ _ _ _ => (xg_name 4 (q.bk []).nd)) (fun _ _ _ _ _ => xc_nil) (fun _ _ _ _ _ => (xe_v 4)) (fun _ _ _ _ _ => (xe_lst xa_nil)))) xa_nil))) (xns_cons 2 q.nd (xns_cons 3 q.nd xns_nil)))
    (xs_cons (xs_for [] hp q.calm (xi_seq q.K (xe_v 1)) (xg_name 4 (q.lk []).nd) (xss_w [4, 5, 7] (xs_cons (xs_lc 5 (q.lk []).calm (q.lk []).nd (xl_lc (own := [("step", 6)]) (xi_seq (q.lk []).K (x_ix (q.lk []) (x_fld (q.lk []) C_Web (xe_v 0)) (xe_v 4))) rfl (fun _ _ _ _ _ => (xg_name 6 ((q.lk []).bk []).nd)) (fun _ _ _ _ _ => (xc_one (t_eq ((q.lk []).bk []) (x_ix ((q.lk []).bk []) (xe_v 6) xe_int) xe_int))) (fun _ _ _ _ _ => (x_ix ((q.lk []).bk []) (xe_v 6) xe_int))))
    (xs_cons (xs_put 2 (q.lk []).u1 (x_len (q.lk []) (xe_v 5)) (xe_v 4))
    (xs_one (xs_for [] hp (q.lk []).calm (xi_seq (q.lk []).K (xe_v 5)) (xg_name 7 ((q.lk []).lk [5]).nd) (xss_w [7] (xs_one (xs_expr (x_papp ((q.lk []).lk [5]) 3 (xpl_ix ((q.lk []).lk [5]) (xpl_v 3) (xe_v 7)) (xe_v 4)))))))))))
    (xs_cons (xs_par 8 9 q.calm q.nd (xe_lc q.calm q.nd (xl_lc (own := [("thing", 4)]) (xi_seq q.K (xe_v 1)) rfl (fun _ _ _ _ _ => (xg_name 4 (q.bk []).nd)) (fun _ _ _ _ _ => (xc_one (t_eq (q.bk []) (x_ix (q.bk []) (xe_v 2) (xe_v 4)) xe_int))) (fun _ _ _ _ _ => (xe_v 4)))) xe_int)
    (xs_cons (xs_while hp (t_lt q (xe_v 9) (x_len q (xe_v 8))) (xss_w [10] (xs_cons (xs_for [] hp q.calm (xi_seq q.K (x_ix q (xe_v 3) (XE.pure (x_ix q (xe_v 8) (xe_v 9))))) (xg_name 10 (q.lk [3]).nd) (xss_w [10] (xs_cons (xs_put 2 (q.lk [3]).u1 (x_sub (q.lk [3]) (x_ix (q.lk [3]) (xe_v 2) (xe_v 10)) xe_int) (xe_v 10))
    (xs_one (xs_if (t_eq (q.lk [3]) (x_ix (q.lk [3]) (xe_v 2) (xe_v 10)) xe_int) (xs_one (xs_expr (x_app (q.lk [3]) 8 (xe_v 10)))) xs_nil)))))
    (xs_one (xs_set 9 q.nd (x_add q (xe_v 9) xe_int))))))
    (xs_one (xs_ret (xe_tupX (xa_cons (xe_mv 8) (xa_cons (xe_lc q.calm q.nd (xl_lc (own := [("thing", 4)]) (xi_seq q.K (xe_v 1)) rfl (fun _ _ _ _ _ => (xg_name 4 (q.bk []).nd)) (fun _ _ _ _ _ => (xc_one (t_gt (q.bk []) (x_ix (q.bk []) (xe_v 2) (xe_v 4)) xe_int))) (fun _ _ _ _ _ => (xe_v 4)))) xa_nil)))))))))
theorem ok_idle_order {k : Nat} (Z : Gz mg C K) (F : FnP K "idle_order" st_idle_order f fd) (gm : mg "idle_order" = some (.ref f)) (C_Web : ClG mg C "Web" ["starts", "steps"]) : FnG P w K mg base C (k + 1) "idle_order" 2 none .fr (rf_idle_order ) :=
  ⟨f, fd, ["web", "things"], okf_idle_order Z F C_Web, gm, F.kp, F.bindsN (fun _ _ _ _ _ _ us hl => match us, hl with | [_, _], _ => rfl), rfl⟩
/-! is_better -/
abbrev st_is_better : Stmt := top 12
theorem sc_is_better : FnScope ["one", "other"] ["one", "other"] (defScope st_is_better) := ⟨rfl, rfl, rfl, by decide +kernel, rfl, by decide +kernel, by decide +kernel⟩
theorem okf_is_better {k : Nat} (Z : Gz mg C K) (F : FnP K "is_better" st_is_better f fd)  : FnOk P w K mg base (L2.CX P w) (k + 1) f fd ["one", "other"] (spD C 2 none .pu (rf_is_better )) := by
  refine fn_ok (ks := [.pl, .pl]) F sc_is_better rfl rfl rfl (by intro i hi; cases hi <;> exact ⟨by decide, rfl⟩) (fun cdv A outer s H E hr => ?_)
  have q := cq_of (ks := [.pl, .pl]) (C := C) (CX := L2.CX P w) (P := P) (w := w) (base := base) (N := ["one", "other"]) (f := f) (cdv := cdv) (A := A) (outer := outer) (s := s) (H := H) (E := E) (scope := defScope st_is_better) (qual := "is_better") Z sc_is_better.nd hr
  have tk := takes_of (X := cxOf (L2.CX P w) P w K mg base ["one", "other"] "is_better" (defScope st_is_better) f cdv A outer s H E) rfl rfl rfl rfl
  have hp := passes_of (X := cxOf (L2.CX P w) P w K mg base ["one", "other"] "is_better" (defScope st_is_better) f cdv A outer s H E) rfl
  exact (xs_cons (xs_if (t_isN q (xe_v 1) xe_non) (xs_one (xs_ret xe_bl)) xs_nil)
    (xs_one (xs_ret (xe_or (x_isN q (xe_v 0) xe_non) (xe_one (x_gt q (xe_v 0) (xe_v 1)))))))
theorem ok_is_better {k : Nat} (Z : Gz mg C K) (F : FnP K "is_better" st_is_better f fd) (gm : mg "is_better" = some (.ref f))  : FnG P w K mg base C (k + 1) "is_better" 2 none .pu (rf_is_better ) :=
  ⟨f, fd, ["one", "other"], okf_is_better Z F , gm, F.kp, F.bindsN (fun _ _ _ _ _ _ us hl => match us, hl with | [_, _], _ => rfl), rfl⟩
/-! layers -/
abbrev st_layers : Stmt := top 13
theorem sc_layers : FnScope ["web", "carried", "ways", "order", "lasting", "rows", "purse", "row", "thing", "best", "heavy", "behind", "further", "longer"] ["web", "carried"] (defScope st_layers) := ⟨rfl, rfl, rfl, by decide +kernel, rfl, by decide +kernel, by decide +kernel⟩
theorem okf_layers {k : Nat} {F_found_ways F_idle_order F_is_better : List D → Fr} (Z : Gz mg C K) (F : FnP K "layers" st_layers f fd) (G_found_ways : FnG P w K mg base C k "found_ways" 2 none .fr F_found_ways) (G_idle_order : FnG P w K mg base C k "idle_order" 2 none .fr F_idle_order) (G_is_better : FnG P w K mg base C k "is_better" 2 none .pu F_is_better) (C_Web : ClG mg C "Web" ["starts", "steps"]) : FnOk P w K mg base (L2.CX P w) (k + 1) f fd ["web", "carried"] (spD C 2 none .fr (rf_layers F_found_ways F_idle_order F_is_better)) := by
  refine fn_ok (ks := [.pl, .pl, .own, .own, .own, .own, .pl, .own, .pl, .pl, .pl, .pl, .pl, .pl]) F sc_layers rfl rfl rfl (by intro i hi; cases hi <;> exact ⟨by decide, rfl⟩) (fun cdv A outer s H E hr => ?_)
  have q := cq_of (ks := [.pl, .pl, .own, .own, .own, .own, .pl, .own, .pl, .pl, .pl, .pl, .pl, .pl]) (C := C) (CX := L2.CX P w) (P := P) (w := w) (base := base) (N := ["web", "carried", "ways", "order", "lasting", "rows", "purse", "row", "thing", "best", "heavy", "behind", "further", "longer"]) (f := f) (cdv := cdv) (A := A) (outer := outer) (s := s) (H := H) (E := E) (scope := defScope st_layers) (qual := "layers") Z sc_layers.nd hr
  have tk := takes_of (X := cxOf (L2.CX P w) P w K mg base ["web", "carried", "ways", "order", "lasting", "rows", "purse", "row", "thing", "best", "heavy", "behind", "further", "longer"] "layers" (defScope st_layers) f cdv A outer s H E) rfl rfl rfl rfl
  have hp := passes_of (X := cxOf (L2.CX P w) P w K mg base ["web", "carried", "ways", "order", "lasting", "rows", "purse", "row", "thing", "best", "heavy", "behind", "further", "longer"] "layers" (defScope st_layers) f cdv A outer s H E) rfl
  exact (xs_cons (xs_set 2 q.nd (x_call tk G_found_ways hr (xa_cons (xe_v 0) (xa_cons xe_bl xa_nil))))
    (xs_cons (xs_unpF [(3, true), (4, true)] q (x_call tk G_idle_order hr (xa_cons (xe_v 0) (xa_cons (x_keys q (xe_v 2)) xa_nil))) (xns_cons 3 q.nd (xns_cons 4 q.nd xns_nil)))
    (xs_cons (xs_set 5 q.nd (xe_lst xa_nil))
    (xs_cons (xs_for [] hp q.calm (xi_range1 rfl (q.fb _ (by decide)) (xa_cons (x_add q (xe_v 1) xe_int) xa_nil)) (xg_name 6 (q.lk []).nd) (xss_w [6, 7, 8, 9, 10, 11, 12, 13] (xs_cons (xs_dc 7 (q.lk []).calm (q.lk []).nd (xd_dc (own := [("thing", 8)]) (xi_seq (q.lk []).K (xe_v 4)) rfl (fun _ _ _ _ _ => (xg_name 8 ((q.lk []).bk [4]).nd)) (fun _ _ _ _ _ => xc_nil) (fun _ _ _ _ _ => (xe_v 8)) (fun _ _ _ _ _ => xe_non)))
    (xs_cons (xs_for [] hp (q.lk []).calm (xi_seq (q.lk []).K (xe_v 3)) (xg_name 8 ((q.lk []).lk [3]).nd) (xss_w [8, 9, 10, 11, 12, 13] (xs_cons (xs_set 9 ((q.lk []).lk [3]).nd xe_int)
    (xs_cons (xs_for [] hp ((q.lk []).lk [3]).calm (xi_seq ((q.lk []).lk [3]).K (x_ix ((q.lk []).lk [3]) (x_fld ((q.lk []).lk [3]) (ClG.lk C_Web [3]) (xe_v 0)) (xe_v 8))) (xg_tup (((q.lk []).lk [3]).lk []).K (((q.lk []).lk [3]).lk []).calm (xgs_cons (xg_name 10 (((q.lk []).lk [3]).lk []).nd) (xgs_cons (xg_name 11 (((q.lk []).lk [3]).lk []).nd) xgs_nil)) (gl_cons (gl_cons gl_nil))) (xss_w [10, 11, 12, 13] (xs_cons (xs_if (t_gt (((q.lk []).lk [3]).lk []) (xe_v 10) (xe_v 6)) (xs_one xs_continue) xs_nil)
    (xs_cons (xs_set 12 (((q.lk []).lk [3]).lk []).nd (xe_ifExp (t_eq (((q.lk []).lk [3]).lk []) (xe_v 10) xe_int) (XE.pure (x_ix (((q.lk []).lk [3]).lk []) (xe_v 7) (xe_v 11))) (XE.pure (x_ix (((q.lk []).lk [3]).lk []) (x_ix (((q.lk []).lk [3]).lk []) (xe_v 5) (x_sub (((q.lk []).lk [3]).lk []) (xe_v 6) (xe_v 10))) (xe_v 11)))))
    (xs_cons (xs_set 13 (((q.lk []).lk [3]).lk []).nd (xe_ifExp (t_isN (((q.lk []).lk [3]).lk []) (xe_v 12) xe_non) xe_non (x_add (((q.lk []).lk [3]).lk []) (xe_v 12) xe_int)))
    (xs_one (xs_set 9 (((q.lk []).lk [3]).lk []).nd (xe_ifExp (t_tru (((q.lk []).lk [3]).lk []) (x_call tk G_is_better hr (xa_cons (xe_v 13) (xa_cons (xe_v 9) xa_nil)))) (xe_v 13) (xe_v 9)))))))))
    (xs_one (xs_put 7 ((q.lk []).lk [3]).u1 (xe_v 9) (xe_v 8)))))))
    (xs_one (xs_expr (x_app (q.lk []) 5 (xe_mv 7))))))))
    (xs_one (xs_ret (xe_mv 5)))))))
theorem ok_layers {k : Nat} {F_found_ways F_idle_order F_is_better : List D → Fr} (Z : Gz mg C K) (F : FnP K "layers" st_layers f fd) (gm : mg "layers" = some (.ref f)) (G_found_ways : FnG P w K mg base C k "found_ways" 2 none .fr F_found_ways) (G_idle_order : FnG P w K mg base C k "idle_order" 2 none .fr F_idle_order) (G_is_better : FnG P w K mg base C k "is_better" 2 none .pu F_is_better) (C_Web : ClG mg C "Web" ["starts", "steps"]) : FnG P w K mg base C (k + 1) "layers" 2 none .fr (rf_layers F_found_ways F_idle_order F_is_better) :=
  ⟨f, fd, ["web", "carried"], okf_layers Z F G_found_ways G_idle_order G_is_better C_Web, gm, F.kp, F.bindsN (fun _ _ _ _ _ _ us hl => match us, hl with | [_, _], _ => rfl), rfl⟩
/-! best_of -/
abbrev st_best_of : Stmt := top 14
theorem sc_best_of : FnScope ["row", "web", "best", "start"] ["row", "web"] (defScope st_best_of) := ⟨rfl, rfl, rfl, by decide +kernel, rfl, by decide +kernel, by decide +kernel⟩
theorem okf_best_of {k : Nat} {F_is_better : List D → Fr} (Z : Gz mg C K) (F : FnP K "best_of" st_best_of f fd) (G_is_better : FnG P w K mg base C k "is_better" 2 none .pu F_is_better) (C_Web : ClG mg C "Web" ["starts", "steps"]) : FnOk P w K mg base (L2.CX P w) (k + 1) f fd ["row", "web"] (spD C 2 none .pu (rf_best_of F_is_better)) := by
  refine fn_ok (ks := [.par, .pl, .pl, .pl]) F sc_best_of rfl rfl rfl (by intro i hi; cases hi <;> exact ⟨by decide, rfl⟩) (fun cdv A outer s H E hr => ?_)
  have q := cq_of (ks := [.par, .pl, .pl, .pl]) (C := C) (CX := L2.CX P w) (P := P) (w := w) (base := base) (N := ["row", "web", "best", "start"]) (f := f) (cdv := cdv) (A := A) (outer := outer) (s := s) (H := H) (E := E) (scope := defScope st_best_of) (qual := "best_of") Z sc_best_of.nd hr
  have tk := takes_of (X := cxOf (L2.CX P w) P w K mg base ["row", "web", "best", "start"] "best_of" (defScope st_best_of) f cdv A outer s H E) rfl rfl rfl rfl
  have hp := passes_of (X := cxOf (L2.CX P w) P w K mg base ["row", "web", "best", "start"] "best_of" (defScope st_best_of) f cdv A outer s H E) rfl
  exact (xs_cons (xs_set 2 q.nd xe_int)
    (xs_cons (xs_for [] hp q.calm (xi_seq q.K (x_fld q C_Web (xe_v 1))) (xg_name 3 (q.lk []).nd) (xss_w [3] (xs_one (xs_set 2 (q.lk []).nd (xe_ifExp (t_tru (q.lk []) (x_call tk G_is_better hr (xa_cons (x_ix (q.lk []) (xe_v 0) (xe_v 3)) (xa_cons (xe_v 2) xa_nil)))) (XE.pure (x_ix (q.lk []) (xe_v 0) (xe_v 3))) (xe_v 2))))))
    (xs_one (xs_ret (xe_v 2)))))
theorem ok_best_of {k : Nat} {F_is_better : List D → Fr} (Z : Gz mg C K) (F : FnP K "best_of" st_best_of f fd) (gm : mg "best_of" = some (.ref f)) (G_is_better : FnG P w K mg base C k "is_better" 2 none .pu F_is_better) (C_Web : ClG mg C "Web" ["starts", "steps"]) : FnG P w K mg base C (k + 1) "best_of" 2 none .pu (rf_best_of F_is_better) :=
  ⟨f, fd, ["row", "web"], okf_best_of Z F G_is_better C_Web, gm, F.kp, F.bindsN (fun _ _ _ _ _ _ us hl => match us, hl with | [_, _], _ => rfl), rfl⟩
/-! Web.__init__ -/
abbrev st_Web__init__ : Stmt := mem 16 0
theorem sc_Web__init__ : FnScope ["self", "starts", "steps", "row"] ["self", "starts", "steps"] (defScope st_Web__init__) := ⟨rfl, rfl, rfl, by decide +kernel, rfl, by decide +kernel, by decide +kernel⟩
theorem okf_Web__init__ {k : Nat} {F_is_row F_is_ascending F_as_tuples : List D → Fr} (Z : Gz mg C K) (F : FnM K "__init__" "Web.__init__" st_Web__init__ f fd) (G_is_row : FnG P w K mg base C k "is_row" 2 none .pu F_is_row) (G_is_ascending : FnG P w K mg base C k "is_ascending" 2 none .pu F_is_ascending) (G_as_tuples : FnG P w K mg base C k "as_tuples" 1 none .pu F_as_tuples) (C_Web : ClG mg C "Web" ["starts", "steps"]) : FnOk P w K mg base (L2.CX P w) (k + 1) f fd ["self", "starts", "steps"] (spD C 3 (some 0) .pu (rf_Web__init__ F_is_row F_is_ascending F_as_tuples)) := by
  refine fn_ok (ks := [.io, .pl, .pl, .pl]) F sc_Web__init__ rfl rfl rfl (by intro i hi; cases hi <;> exact ⟨by decide, rfl⟩) (fun cdv A outer s H E hr => ?_)
  have q := cq_of (ks := [.io, .pl, .pl, .pl]) (C := C) (CX := L2.CX P w) (P := P) (w := w) (base := base) (N := ["self", "starts", "steps", "row"]) (f := f) (cdv := cdv) (A := A) (outer := outer) (s := s) (H := H) (E := E) (scope := defScope st_Web__init__) (qual := "Web.__init__") Z sc_Web__init__.nd hr
  have tk := takes_of (X := cxOf (L2.CX P w) P w K mg base ["self", "starts", "steps", "row"] "Web.__init__" (defScope st_Web__init__) f cdv A outer s H E) rfl rfl rfl rfl
  have hp := passes_of (X := cxOf (L2.CX P w) P w K mg base ["self", "starts", "steps", "row"] "Web.__init__" (defScope st_Web__init__) f cdv A outer s H E) rfl
  exact (xs_cons (xs_if (xt_not (t_tru q (x_isi2 q "list" "tuple" "list" "tuple" (xe_v 2)))) (xs_one xs_never) xs_nil)
    (xs_cons (xs_for [] hp q.calm (xi_seq q.K (xe_v 2)) (xg_name 3 (q.lk []).nd) (xss_w [3] (xs_one (xs_if (xt_not (t_tru (q.lk []) (x_call tk G_is_row hr (xa_cons (xe_v 3) (xa_cons (x_len (q.lk []) (xe_v 2)) xa_nil))))) (xs_one xs_never) xs_nil))))
    (xs_cons (xs_if (xt_not (t_tru q (x_call tk G_is_ascending hr (xa_cons (xe_v 1) (xa_cons (x_len q (xe_v 2)) xa_nil))))) (xs_one xs_never) xs_nil)
    (xs_cons (s_sto q 0 C_Web (x_tuple q (xe_v 1)))
    (xs_one (s_sto q 0 C_Web (x_call tk G_as_tuples hr (xa_cons (xe_v 2) xa_nil))))))))
theorem mk_Web {k : Nat} {F_is_row F_is_ascending F_as_tuples : List D → Fr} (Z : Gz mg C K) (F : FnM K "__init__" "Web.__init__" st_Web__init__ f fd) (mk : Mk K (C.cm "Web") f) (at_ : mg "Web" = some (.ref (C.cm "Web"))) (fz : C.fz (C.cm "Web")) (G_is_row : FnG P w K mg base C k "is_row" 2 none .pu F_is_row) (G_is_ascending : FnG P w K mg base C k "is_ascending" 2 none .pu F_is_ascending) (G_as_tuples : FnG P w K mg base C k "as_tuples" 1 none .pu F_as_tuples) (C_Web : ClG mg C "Web" ["starts", "steps"]) : MkG P w K mg base C (k + 2) "Web" 2 (rf_Web__init__ F_is_row F_is_ascending F_as_tuples) :=
  ⟨⟨f, fd, ["self", "starts", "steps"], mk, ⟨k + 1, Nat.le_refl _, okf_Web__init__ Z F G_is_row G_is_ascending G_as_tuples C_Web⟩, F.bindsN (fun _ _ _ _ _ _ us hl => match us, hl with | [_, _, _], _ => rfl), rfl⟩, at_, fz⟩
/-! is_step -/
abbrev st_is_step : Stmt := top 17
theorem sc_is_step : FnScope ["value", "many"] ["value", "many"] (defScope st_is_step) := ⟨rfl, rfl, rfl, by decide +kernel, rfl, by decide +kernel, by decide +kernel⟩
theorem okf_is_step {k : Nat} {F_is_number F_is_index : List D → Fr} (Z : Gz mg C K) (F : FnP K "is_step" st_is_step f fd) (G_is_number : FnG P w K mg base C k "is_number" 1 none .pu F_is_number) (G_is_index : FnG P w K mg base C k "is_index" 2 none .pu F_is_index) : FnOk P w K mg base (L2.CX P w) (k + 1) f fd ["value", "many"] (spD C 2 none .pu (rf_is_step F_is_number F_is_index)) := by
  refine fn_ok (ks := [.pl, .pl]) F sc_is_step rfl rfl rfl (by intro i hi; cases hi <;> exact ⟨by decide, rfl⟩) (fun cdv A outer s H E hr => ?_)
  have q := cq_of (ks := [.pl, .pl]) (C := C) (CX := L2.CX P w) (P := P) (w := w) (base := base) (N := ["value", "many"]) (f := f) (cdv := cdv) (A := A) (outer := outer) (s := s) (H := H) (E := E) (scope := defScope st_is_step) (qual := "is_step") Z sc_is_step.nd hr
  have tk := takes_of (X := cxOf (L2.CX P w) P w K mg base ["value", "many"] "is_step" (defScope st_is_step) f cdv A outer s H E) rfl rfl rfl rfl
  have hp := passes_of (X := cxOf (L2.CX P w) P w K mg base ["value", "many"] "is_step" (defScope st_is_step) f cdv A outer s H E) rfl
  exact (xs_cons (xs_if (XW.pt (xw_or (xt_not (t_tru q (x_isi q "tuple" "tuple" (xe_v 0)))) (xw_or1 (t_ne q (x_len q (xe_v 0)) xe_int)))) (xs_one (xs_ret xe_bl)) xs_nil)
    (xs_one (xs_ret (xe_and (x_call tk G_is_number hr (xa_cons (x_ix q (xe_v 0) xe_int) xa_nil)) (xe_one (x_call tk G_is_index hr (xa_cons (x_ix q (xe_v 0) xe_int) (xa_cons (xe_v 1) xa_nil))))))))
theorem ok_is_step {k : Nat} {F_is_number F_is_index : List D → Fr} (Z : Gz mg C K) (F : FnP K "is_step" st_is_step f fd) (gm : mg "is_step" = some (.ref f)) (G_is_number : FnG P w K mg base C k "is_number" 1 none .pu F_is_number) (G_is_index : FnG P w K mg base C k "is_index" 2 none .pu F_is_index) : FnG P w K mg base C (k + 1) "is_step" 2 none .pu (rf_is_step F_is_number F_is_index) :=
  ⟨f, fd, ["value", "many"], okf_is_step Z F G_is_number G_is_index, gm, F.kp, F.bindsN (fun _ _ _ _ _ _ us hl => match us, hl with | [_, _], _ => rfl), rfl⟩
/-! is_row -/
abbrev st_is_row : Stmt := top 18
theorem sc_is_row : FnScope ["row", "many", "one", "at"] ["row", "many"] (defScope st_is_row) := ⟨rfl, rfl, rfl, by decide +kernel, rfl, by decide +kernel, by decide +kernel⟩
theorem okf_is_row {k : Nat} {F_is_step : List D → Fr} (Z : Gz mg C K) (F : FnP K "is_row" st_is_row f fd) (G_is_step : FnG P w K mg base C k "is_step" 2 none .pu F_is_step) : FnOk P w K mg base (L2.CX P w) (k + 1) f fd ["row", "many"] (spD C 2 none .pu (rf_is_row F_is_step)) := by
  refine fn_ok (ks := [.pl, .pl, .pl, .pl]) F sc_is_row rfl rfl rfl (by intro i hi; cases hi <;> exact ⟨by decide, rfl⟩) (fun cdv A outer s H E hr => ?_)
  have q := cq_of (ks := [.pl, .pl, .pl, .pl]) (C := C) (CX := L2.CX P w) (P := P) (w := w) (base := base) (N := ["row", "many", "one", "at"]) (f := f) (cdv := cdv) (A := A) (outer := outer) (s := s) (H := H) (E := E) (scope := defScope st_is_row) (qual := "is_row") Z sc_is_row.nd hr
  have tk := takes_of (X := cxOf (L2.CX P w) P w K mg base ["row", "many", "one", "at"] "is_row" (defScope st_is_row) f cdv A outer s H E) rfl rfl rfl rfl
  have hp := passes_of (X := cxOf (L2.CX P w) P w K mg base ["row", "many", "one", "at"] "is_row" (defScope st_is_row) f cdv A outer s H E) rfl
  exact (xs_cons (xs_if (XW.pt (xw_or (xt_not (t_tru q (x_isi2 q "list" "tuple" "list" "tuple" (xe_v 0)))) (xw_or1 (xt_not (t_tru q (x_all q (xe_lc q.calm q.nd (xl_lc (own := [("one", 2)]) (xi_seq q.K (xe_v 0)) rfl (fun _ _ _ _ _ => (xg_name 2 (q.bk []).nd)) (fun _ _ _ _ _ => xc_nil) (fun _ _ _ _ _ => (x_call takes0 G_is_step hr (xa_cons (xe_v 2) (xa_cons (xe_v 1) xa_nil)))))))))))) (xs_one (xs_ret xe_bl)) xs_nil)
    (xs_one (xs_ret (x_all q (xe_lc q.calm q.nd (xl_lc (own := [("at", 3)]) (xi_range1 rfl (q.fb _ (by decide)) (xa_cons (x_sub q (x_len q (xe_v 0)) xe_int) xa_nil)) rfl (fun _ _ _ _ _ => (xg_name 3 (q.bk []).nd)) (fun _ _ _ _ _ => xc_nil) (fun _ _ _ _ _ => (x_ltA (q.bk []) (x_ix (q.bk []) (xe_v 0) (xe_v 3)) (x_ix (q.bk []) (xe_v 0) (x_add (q.bk []) (xe_v 3) xe_int))))))))))
theorem ok_is_row {k : Nat} {F_is_step : List D → Fr} (Z : Gz mg C K) (F : FnP K "is_row" st_is_row f fd) (gm : mg "is_row" = some (.ref f)) (G_is_step : FnG P w K mg base C k "is_step" 2 none .pu F_is_step) : FnG P w K mg base C (k + 1) "is_row" 2 none .pu (rf_is_row F_is_step) :=
  ⟨f, fd, ["row", "many"], okf_is_row Z F G_is_step, gm, F.kp, F.bindsN (fun _ _ _ _ _ _ us hl => match us, hl with | [_, _], _ => rfl), rfl⟩
/-! is_ascending -/
abbrev st_is_ascending : Stmt := top 19
theorem sc_is_ascending : FnScope ["value", "many", "one", "at"] ["value", "many"] (defScope st_is_ascending) := ⟨rfl, rfl, rfl, by decide +kernel, rfl, by decide +kernel, by decide +kernel⟩
theorem okf_is_ascending {k : Nat} {F_is_index : List D → Fr} (Z : Gz mg C K) (F : FnP K "is_ascending" st_is_ascending f fd) (G_is_index : FnG P w K mg base C k "is_index" 2 none .pu F_is_index) : FnOk P w K mg base (L2.CX P w) (k + 1) f fd ["value", "many"] (spD C 2 none .pu (rf_is_ascending F_is_index)) := by
  refine fn_ok (ks := [.pl, .pl, .pl, .pl]) F sc_is_ascending rfl rfl rfl (by intro i hi; cases hi <;> exact ⟨by decide, rfl⟩) (fun cdv A outer s H E hr => ?_)
  have q := cq_of (ks := [.pl, .pl, .pl, .pl]) (C := C) (CX := L2.CX P w) (P := P) (w := w) (base := base) (N := ["value", "many", "one", "at"]) (f := f) (cdv := cdv) (A := A) (outer := outer) (s := s) (H := H) (E := E) (scope := defScope st_is_ascending) (qual := "is_ascending") Z sc_is_ascending.nd hr
  have tk := takes_of (X := cxOf (L2.CX P w) P w K mg base ["value", "many", "one", "at"] "is_ascending" (defScope st_is_ascending) f cdv A outer s H E) rfl rfl rfl rfl
  have hp := passes_of (X := cxOf (L2.CX P w) P w K mg base ["value", "many", "one", "at"] "is_ascending" (defScope st_is_ascending) f cdv A outer s H E) rfl
  exact (xs_cons (xs_if (XW.pt (xw_or (xt_not (t_tru q (x_isi2 q "list" "tuple" "list" "tuple" (xe_v 0)))) (xw_or1 (xt_not (t_tru q (x_all q (xe_lc q.calm q.nd (xl_lc (own := [("one", 2)]) (xi_seq q.K (xe_v 0)) rfl (fun _ _ _ _ _ => (xg_name 2 (q.bk []).nd)) (fun _ _ _ _ _ => xc_nil) (fun _ _ _ _ _ => (x_call takes0 G_is_index hr (xa_cons (xe_v 2) (xa_cons (xe_v 1) xa_nil)))))))))))) (xs_one (xs_ret xe_bl)) xs_nil)
    (xs_one (xs_ret (x_all q (xe_lc q.calm q.nd (xl_lc (own := [("at", 3)]) (xi_range1 rfl (q.fb _ (by decide)) (xa_cons (x_sub q (x_len q (xe_v 0)) xe_int) xa_nil)) rfl (fun _ _ _ _ _ => (xg_name 3 (q.bk []).nd)) (fun _ _ _ _ _ => xc_nil) (fun _ _ _ _ _ => (x_lt (q.bk []) (x_ix (q.bk []) (xe_v 0) (xe_v 3)) (x_ix (q.bk []) (xe_v 0) (x_add (q.bk []) (xe_v 3) xe_int))))))))))
theorem ok_is_ascending {k : Nat} {F_is_index : List D → Fr} (Z : Gz mg C K) (F : FnP K "is_ascending" st_is_ascending f fd) (gm : mg "is_ascending" = some (.ref f)) (G_is_index : FnG P w K mg base C k "is_index" 2 none .pu F_is_index) : FnG P w K mg base C (k + 1) "is_ascending" 2 none .pu (rf_is_ascending F_is_index) :=
  ⟨f, fd, ["value", "many"], okf_is_ascending Z F G_is_index, gm, F.kp, F.bindsN (fun _ _ _ _ _ _ us hl => match us, hl with | [_, _], _ => rfl), rfl⟩
/-! need_carried -/
abbrev st_need_carried : Stmt := top 20
theorem sc_need_carried : FnScope ["carried"] ["carried"] (defScope st_need_carried) := ⟨rfl, rfl, rfl, by decide +kernel, rfl, by decide +kernel, by decide +kernel⟩
theorem okf_need_carried {k : Nat} {F_is_number : List D → Fr} (Z : Gz mg C K) (F : FnP K "need_carried" st_need_carried f fd) (G_is_number : FnG P w K mg base C k "is_number" 1 none .pu F_is_number) : FnOk P w K mg base (L2.CX P w) (k + 1) f fd ["carried"] (spD C 1 none .pu (rf_need_carried F_is_number)) := by
  refine fn_ok (ks := [.pl]) F sc_need_carried rfl rfl rfl (by intro i hi; cases hi <;> exact ⟨by decide, rfl⟩) (fun cdv A outer s H E hr => ?_)
  have q := cq_of (ks := [.pl]) (C := C) (CX := L2.CX P w) (P := P) (w := w) (base := base) (N := ["carried"]) (f := f) (cdv := cdv) (A := A) (outer := outer) (s := s) (H := H) (E := E) (scope := defScope st_need_carried) (qual := "need_carried") Z sc_need_carried.nd hr
  have tk := takes_of (X := cxOf (L2.CX P w) P w K mg base ["carried"] "need_carried" (defScope st_need_carried) f cdv A outer s H E) rfl rfl rfl rfl
  have hp := passes_of (X := cxOf (L2.CX P w) P w K mg base ["carried"] "need_carried" (defScope st_need_carried) f cdv A outer s H E) rfl
  exact (xs_one (xs_if (XW.pt (xw_or (xt_not (t_tru q (x_call tk G_is_number hr (xa_cons (xe_v 0) xa_nil)))) (xw_or1 (t_gt q (xe_v 0) xe_int)))) (xs_one xs_never) xs_nil))
theorem ok_need_carried {k : Nat} {F_is_number : List D → Fr} (Z : Gz mg C K) (F : FnP K "need_carried" st_need_carried f fd) (gm : mg "need_carried" = some (.ref f)) (G_is_number : FnG P w K mg base C k "is_number" 1 none .pu F_is_number) : FnG P w K mg base C (k + 1) "need_carried" 1 none .pu (rf_need_carried F_is_number) :=
  ⟨f, fd, ["carried"], okf_need_carried Z F G_is_number, gm, F.kp, F.bindsN (fun _ _ _ _ _ _ us hl => match us, hl with | [_], _ => rfl), rfl⟩
/-! length -/
abbrev st_length : Stmt := top 21
theorem sc_length : FnScope ["web", "carried"] ["web", "carried"] (defScope st_length) := ⟨rfl, rfl, rfl, by decide +kernel, rfl, by decide +kernel, by decide +kernel⟩
theorem okf_length {k : Nat} {F_need_carried F_best_of F_layers : List D → Fr} (Z : Gz mg C K) (F : FnP K "length" st_length f fd) (G_need_carried : FnG P w K mg base C k "need_carried" 1 none .pu F_need_carried) (G_best_of : FnG P w K mg base C k "best_of" 2 none .pu F_best_of) (G_layers : FnG P w K mg base C k "layers" 2 none .fr F_layers) : FnOk P w K mg base (L2.CX P w) (k + 1) f fd ["web", "carried"] (spD C 2 none .pu (rf_length F_need_carried F_best_of F_layers)) := by
  refine fn_ok (ks := [.pl, .pl]) F sc_length rfl rfl rfl (by intro i hi; cases hi <;> exact ⟨by decide, rfl⟩) (fun cdv A outer s H E hr => ?_)
  have q := cq_of (ks := [.pl, .pl]) (C := C) (CX := L2.CX P w) (P := P) (w := w) (base := base) (N := ["web", "carried"]) (f := f) (cdv := cdv) (A := A) (outer := outer) (s := s) (H := H) (E := E) (scope := defScope st_length) (qual := "length") Z sc_length.nd hr
  have tk := takes_of (X := cxOf (L2.CX P w) P w K mg base ["web", "carried"] "length" (defScope st_length) f cdv A outer s H E) rfl rfl rfl rfl
  have hp := passes_of (X := cxOf (L2.CX P w) P w K mg base ["web", "carried"] "length" (defScope st_length) f cdv A outer s H E) rfl
  exact (xs_cons (xs_expr (x_call tk G_need_carried hr (xa_cons (xe_v 1) xa_nil)))
    (xs_one (xs_ret (x_call tk G_best_of hr (xa_cons (x_ix q (x_call tk G_layers hr (xa_cons (xe_v 0) (xa_cons (xe_v 1) xa_nil))) (xe_v 1)) (xa_cons (xe_v 0) xa_nil))))))
theorem ok_length {k : Nat} {F_need_carried F_best_of F_layers : List D → Fr} (Z : Gz mg C K) (F : FnP K "length" st_length f fd) (gm : mg "length" = some (.ref f)) (G_need_carried : FnG P w K mg base C k "need_carried" 1 none .pu F_need_carried) (G_best_of : FnG P w K mg base C k "best_of" 2 none .pu F_best_of) (G_layers : FnG P w K mg base C k "layers" 2 none .fr F_layers) : FnG P w K mg base C (k + 1) "length" 2 none .pu (rf_length F_need_carried F_best_of F_layers) :=
  ⟨f, fd, ["web", "carried"], okf_length Z F G_need_carried G_best_of G_layers, gm, F.kp, F.bindsN (fun _ _ _ _ _ _ us hl => match us, hl with | [_, _], _ => rfl), rfl⟩
/-! lengths -/
abbrev st_lengths : Stmt := top 22
theorem sc_lengths : FnScope ["web", "carried", "row"] ["web", "carried"] (defScope st_lengths) := ⟨rfl, rfl, rfl, by decide +kernel, rfl, by decide +kernel, by decide +kernel⟩
theorem okf_lengths {k : Nat} {F_need_carried F_layers F_best_of : List D → Fr} (Z : Gz mg C K) (F : FnP K "lengths" st_lengths f fd) (G_need_carried : FnG P w K mg base C k "need_carried" 1 none .pu F_need_carried) (G_layers : FnG P w K mg base C k "layers" 2 none .fr F_layers) (G_best_of : FnG P w K mg base C k "best_of" 2 none .pu F_best_of) : FnOk P w K mg base (L2.CX P w) (k + 1) f fd ["web", "carried"] (spD C 2 none .pu (rf_lengths F_need_carried F_layers F_best_of)) := by
  refine fn_ok (ks := [.pl, .pl, .bw]) F sc_lengths rfl rfl rfl (by intro i hi; cases hi <;> exact ⟨by decide, rfl⟩) (fun cdv A outer s H E hr => ?_)
  have q := cq_of (ks := [.pl, .pl, .bw]) (C := C) (CX := L2.CX P w) (P := P) (w := w) (base := base) (N := ["web", "carried", "row"]) (f := f) (cdv := cdv) (A := A) (outer := outer) (s := s) (H := H) (E := E) (scope := defScope st_lengths) (qual := "lengths") Z sc_lengths.nd hr
  have tk := takes_of (X := cxOf (L2.CX P w) P w K mg base ["web", "carried", "row"] "lengths" (defScope st_lengths) f cdv A outer s H E) rfl rfl rfl rfl
  have hp := passes_of (X := cxOf (L2.CX P w) P w K mg base ["web", "carried", "row"] "lengths" (defScope st_lengths) f cdv A outer s H E) rfl
  exact (xs_cons (xs_expr (x_call tk G_need_carried hr (xa_cons (xe_v 1) xa_nil)))
    (xs_one (xs_ret (x_tuple q (xe_lc q.calm q.nd (xl_lc (own := [("row", 2)]) (xi_seqX q.K (x_call tk G_layers hr (xa_cons (xe_v 0) (xa_cons (xe_v 1) xa_nil)))) rfl (fun _ _ _ _ _ => (xg_name 2 (q.bk []).nd)) (fun _ _ _ _ _ => xc_nil) (fun _ _ _ _ _ => (x_call takes0 G_best_of hr (xa_cons (xe_v 2) (xa_cons (xe_v 0) xa_nil))))))))))
theorem ok_lengths {k : Nat} {F_need_carried F_layers F_best_of : List D → Fr} (Z : Gz mg C K) (F : FnP K "lengths" st_lengths f fd) (gm : mg "lengths" = some (.ref f)) (G_need_carried : FnG P w K mg base C k "need_carried" 1 none .pu F_need_carried) (G_layers : FnG P w K mg base C k "layers" 2 none .fr F_layers) (G_best_of : FnG P w K mg base C k "best_of" 2 none .pu F_best_of) : FnG P w K mg base C (k + 1) "lengths" 2 none .pu (rf_lengths F_need_carried F_layers F_best_of) :=
  ⟨f, fd, ["web", "carried"], okf_lengths Z F G_need_carried G_layers G_best_of, gm, F.kp, F.bindsN (fun _ _ _ _ _ _ us hl => match us, hl with | [_, _], _ => rfl), rfl⟩
/-! walk_of -/
abbrev st_walk_of : Stmt := top 23
theorem sc_walk_of : FnScope ["web", "carried", "rows", "best", "thing", "start", "steps", "purse", "step"] ["web", "carried"] (defScope st_walk_of) := ⟨rfl, rfl, rfl, by decide +kernel, rfl, by decide +kernel, by decide +kernel⟩
theorem okf_walk_of {k : Nat} {F_need_carried F_layers F_best_of : List D → Fr} (Z : Gz mg C K) (F : FnP K "walk_of" st_walk_of f fd) (G_need_carried : FnG P w K mg base C k "need_carried" 1 none .pu F_need_carried) (G_layers : FnG P w K mg base C k "layers" 2 none .fr F_layers) (G_best_of : FnG P w K mg base C k "best_of" 2 none .pu F_best_of) (C_Web : ClG mg C "Web" ["starts", "steps"]) : FnOk P w K mg base (L2.CX P w) (k + 1) f fd ["web", "carried"] (spD C 2 none .pu (rf_walk_of F_need_carried F_layers F_best_of)) := by
  refine fn_ok (ks := [.pl, .pl, .own, .pl, .pl, .pl, .own, .pl, .pl]) F sc_walk_of rfl rfl rfl (by intro i hi; cases hi <;> exact ⟨by decide, rfl⟩) (fun cdv A outer s H E hr => ?_)
  have q := cq_of (ks := [.pl, .pl, .own, .pl, .pl, .pl, .own, .pl, .pl]) (C := C) (CX := L2.CX P w) (P := P) (w := w) (base := base) (N := ["web", "carried", "rows", "best", "thing", "start", "steps", "purse", "step"]) (f := f) (cdv := cdv) (A := A) (outer := outer) (s := s) (H := H) (E := E) (scope := defScope st_walk_of) (qual := "walk_of") Z sc_walk_of.nd hr
  have tk := takes_of (X := cxOf (L2.CX P w) P w K mg base ["web", "carried", "rows", "best", "thing", "start", "steps", "purse", "step"] "walk_of" (defScope st_walk_of) f cdv A outer s H E) rfl rfl rfl rfl
  have hp := passes_of (X := cxOf (L2.CX P w) P w K mg base ["web", "carried", "rows", "best", "thing", "start", "steps", "purse", "step"] "walk_of" (defScope st_walk_of) f cdv A outer s H E) rfl
  exact (xs_cons (xs_expr (x_call tk G_need_carried hr (xa_cons (xe_v 1) xa_nil)))
    (xs_cons (xs_set 2 q.nd (x_call tk G_layers hr (xa_cons (xe_v 0) (xa_cons (xe_v 1) xa_nil))))
    (xs_cons (xs_set 3 q.nd (x_call tk G_best_of hr (xa_cons (x_ix q (xe_v 2) (xe_v 1)) (xa_cons (xe_v 0) xa_nil))))
    (xs_cons (xs_if (XW.pt (xw_or (t_isN q (xe_v 3) xe_non) (xw_or1 (xt_not (t_tru q (x_fld q C_Web (xe_v 0))))))) (xs_one (xs_ret xe_non)) xs_nil)
    (xs_cons (xs_set 4 q.nd (XE.pure (x_ix q (xe_lc q.calm q.nd (xl_lc (own := [("start", 5)]) (xi_seq q.K (x_fld q C_Web (xe_v 0))) rfl (fun _ _ _ _ _ => (xg_name 5 (q.bk []).nd)) (fun _ _ _ _ _ => (xc_one (t_eq (q.bk []) (x_ix (q.bk []) (x_ix (q.bk []) (xe_v 2) (xe_v 1)) (xe_v 5)) (xe_v 3)))) (fun _ _ _ _ _ => (xe_v 5)))) xe_int)))
    (xs_cons (xs_par3 5 6 7 false true false q (xa_cons (xe_v 4) (xa_cons (xe_lst xa_nil) (xa_cons (xe_v 1) xa_nil))))
    (xs_cons (xs_while hp (t_gt q (x_ix q (x_ix q (xe_v 2) (xe_v 7)) (xe_v 4)) xe_int) (xss_w [8] (xs_one (xs_for [] hp q.calm (xi_seq q.K (x_ix q (x_fld q C_Web (xe_v 0)) (xe_v 4))) (xg_name 8 (q.lk []).nd) (xss_w [8] (xs_one (xs_if (XW.pt (xw_and (t_le (q.lk []) (x_ix (q.lk []) (xe_v 8) xe_int) (xe_v 7)) (xw_and1 (t_eq (q.lk []) (x_ix (q.lk []) (x_ix (q.lk []) (xe_v 2) (x_sub (q.lk []) (xe_v 7) (x_ix (q.lk []) (xe_v 8) xe_int))) (x_ix (q.lk []) (xe_v 8) xe_int)) (x_sub (q.lk []) (x_ix (q.lk []) (x_ix (q.lk []) (xe_v 2) (xe_v 7)) (xe_v 4)) xe_int))))) (xs_cons (xs_expr (x_app (q.lk []) 6 (xe_v 8)))
    (xs_cons (xs_par 7 4 (q.lk []).calm (q.lk []).nd (x_sub (q.lk []) (xe_v 7) (x_ix (q.lk []) (xe_v 8) xe_int)) (x_ix (q.lk []) (xe_v 8) xe_int))
    (xs_one xs_break))) xs_nil)))))))
    (xs_one (xs_ret (xe_tup (xa_cons (xe_v 5) (xa_cons (x_tuple q (xe_v 6)) xa_nil))))))))))))
theorem ok_walk_of {k : Nat} {F_need_carried F_layers F_best_of : List D → Fr} (Z : Gz mg C K) (F : FnP K "walk_of" st_walk_of f fd) (gm : mg "walk_of" = some (.ref f)) (G_need_carried : FnG P w K mg base C k "need_carried" 1 none .pu F_need_carried) (G_layers : FnG P w K mg base C k "layers" 2 none .fr F_layers) (G_best_of : FnG P w K mg base C k "best_of" 2 none .pu F_best_of) (C_Web : ClG mg C "Web" ["starts", "steps"]) : FnG P w K mg base C (k + 1) "walk_of" 2 none .pu (rf_walk_of F_need_carried F_layers F_best_of) :=
  ⟨f, fd, ["web", "carried"], okf_walk_of Z F G_need_carried G_layers G_best_of C_Web, gm, F.kp, F.bindsN (fun _ _ _ _ _ _ us hl => match us, hl with | [_, _], _ => rfl), rfl⟩
/-! _law_pen -/
abbrev st__law_pen : Stmt := top 25
theorem sc__law_pen : FnScope ["script", "fold", "cell"] ["script"] (defScope st__law_pen) := ⟨rfl, rfl, rfl, by decide +kernel, rfl, by decide +kernel, by decide +kernel⟩
theorem okf__law_pen {k : Nat} (Z : Gz mg C K) (F : FnP K "_law_pen" st__law_pen f fd)  : FnOk P w K mg base (L2.CX P w) (k + 1) f fd ["script"] (spD C 1 none .fr (rf__law_pen )) := by
  refine fn_ok (ks := [.par, .pl, .pl]) F sc__law_pen rfl rfl rfl (by intro i hi; cases hi <;> exact ⟨by decide, rfl⟩) (fun cdv A outer s H E hr => ?_)
  have q := cq_of (ks := [.par, .pl, .pl]) (C := C) (CX := L2.CX P w) (P := P) (w := w) (base := base) (N := ["script", "fold", "cell"]) (f := f) (cdv := cdv) (A := A) (outer := outer) (s := s) (H := H) (E := E) (scope := defScope st__law_pen) (qual := "_law_pen") Z sc__law_pen.nd hr
  have tk := takes_of (X := cxOf (L2.CX P w) P w K mg base ["script", "fold", "cell"] "_law_pen" (defScope st__law_pen) f cdv A outer s H E) rfl rfl rfl rfl
  have hp := passes_of (X := cxOf (L2.CX P w) P w K mg base ["script", "fold", "cell"] "_law_pen" (defScope st__law_pen) f cdv A outer s H E) rfl
  exact (xs_cons (xs_set 1 q.nd xe_int)
    (xs_cons (xs_for [] hp q.calm (xi_seq q.K (xe_v 0)) (xg_name 2 (q.lk []).nd) (xss_w [2] (xs_one (xs_set 1 (q.lk []).nd (x_mod (q.lk []) (x_int (q.lk []) (x_add (q.lk []) (x_mul (q.lk []) (xe_v 1) xe_int) (xe_v 2))) xe_int)))))
    (xs_one (xs_ret (xe_disp (xp_cons xe_str (x_list q (xe_v 0)) (xp_cons xe_str xe_int (xp_cons xe_str xe_int (xp_cons xe_str xe_int (xp_cons xe_str (xe_v 1) xp_nil))))))))))
theorem ok__law_pen {k : Nat} (Z : Gz mg C K) (F : FnP K "_law_pen" st__law_pen f fd) (gm : mg "_law_pen" = some (.ref f))  : FnG P w K mg base C (k + 1) "_law_pen" 1 none .fr (rf__law_pen ) :=
  ⟨f, fd, ["script"], okf__law_pen Z F , gm, F.kp, F.bindsN (fun _ _ _ _ _ _ us hl => match us, hl with | [_], _ => rfl), rfl⟩
/-! _law_draw -/
abbrev st__law_draw : Stmt := top 26
theorem sc__law_draw : FnScope ["pen", "many", "cell", "digit", "blend"] ["pen", "many"] (defScope st__law_draw) := ⟨rfl, rfl, rfl, by decide +kernel, rfl, by decide +kernel, by decide +kernel⟩
theorem okf__law_draw {k : Nat} (Z : Gz mg C K) (F : FnP K "_law_draw" st__law_draw f fd)  : FnOk P w K mg base (L2.CX P w) (k + 1) f fd ["pen", "many"] (spD C 2 (some 0) .pu (rf__law_draw )) := by
  refine fn_ok (ks := [.io, .pl, .pl, .pl, .pl]) F sc__law_draw rfl rfl rfl (by intro i hi; cases hi <;> exact ⟨by decide, rfl⟩) (fun cdv A outer s H E hr => ?_)
  have q := cq_of (ks := [.io, .pl, .pl, .pl, .pl]) (C := C) (CX := L2.CX P w) (P := P) (w := w) (base := base) (N := ["pen", "many", "cell", "digit", "blend"]) (f := f) (cdv := cdv) (A := A) (outer := outer) (s := s) (H := H) (E := E) (scope := defScope st__law_draw) (qual := "_law_draw") Z sc__law_draw.nd hr
  have tk := takes_of (X := cxOf (L2.CX P w) P w K mg base ["pen", "many", "cell", "digit", "blend"] "_law_draw" (defScope st__law_draw) f cdv A outer s H E) rfl rfl rfl rfl
  have hp := passes_of (X := cxOf (L2.CX P w) P w K mg base ["pen", "many", "cell", "digit", "blend"] "_law_draw" (defScope st__law_draw) f cdv A outer s H E) rfl
  exact (xs_cons (xs_put 0 q.u1 (x_add q (x_ix q (xe_v 0) xe_str) xe_int) xe_str)
    (xs_cons (xs_if (XW.pt (xw_and (t_eq q (x_ix q (xe_v 0) xe_str) xe_int) (xw_and1 (t_lt q (x_ix q (xe_v 0) xe_str) (x_len q (x_ix q (xe_v 0) xe_str)))))) (xs_cons (xs_set 2 q.nd (XE.pure (x_ix q (x_ix q (xe_v 0) xe_str) (XE.pure (x_ix q (xe_v 0) xe_str)))))
    (xs_cons (xs_put 0 q.u1 (x_add q (x_ix q (xe_v 0) xe_str) xe_int) xe_str)
    (xs_one (xs_if (t_ge q (xe_v 2) (x_pow q xe_int xe_int)) (xs_one (xs_put 0 q.u1 (x_sub q (xe_v 2) (x_pow q xe_int xe_int)) xe_str)) (xs_one (xs_put 0 q.u1 (x_mod q (x_int q (x_add q (x_mul q (x_ix q (xe_v 0) xe_str) xe_int) (xe_v 2))) xe_int) xe_str)))))) xs_nil)
    (xs_cons (xs_if (t_gt q (x_ix q (xe_v 0) xe_str) xe_int) (xs_cons (xs_set 3 q.nd (x_mod q (x_int q (x_ix q (xe_v 0) xe_str)) (xe_v 1)))
    (xs_cons (xs_put 0 q.u1 (x_fdiv q (x_ix q (xe_v 0) xe_str) (xe_v 1)) xe_str)
    (xs_one (xs_ret (xe_v 3))))) xs_nil)
    (xs_cons (xs_set 4 q.nd (x_mod q (x_int q (x_add q (x_add q (x_mul q (x_ix q (xe_v 0) xe_str) xe_int) (x_mul q (x_ix q (xe_v 0) xe_str) xe_int)) xe_int)) xe_int))
    (xs_cons (xs_set 4 q.nd (x_mod q (x_int q (x_add q (x_add q (x_mul q (xe_v 4) (xe_v 4)) (x_mul q xe_int (xe_v 4))) (x_ix q (xe_v 0) xe_str))) xe_int))
    (xs_cons (xs_put 0 q.u1 (x_mod q (x_int q (x_add q (x_mul q (xe_v 4) xe_int) xe_int)) xe_int) xe_str)
    (xs_one (xs_ret (x_mod q (x_int q (x_fdiv q (xe_v 4) xe_int)) (xe_v 1))))))))))
theorem ok__law_draw {k : Nat} (Z : Gz mg C K) (F : FnP K "_law_draw" st__law_draw f fd) (gm : mg "_law_draw" = some (.ref f))  : FnG P w K mg base C (k + 1) "_law_draw" 2 (some 0) .pu (rf__law_draw ) :=
  ⟨f, fd, ["pen", "many"], okf__law_draw Z F , gm, F.kp, F.bindsN (fun _ _ _ _ _ _ us hl => match us, hl with | [_, _], _ => rfl), rfl⟩
/-! _law_pick -/
abbrev st__law_pick : Stmt := top 27
theorem sc__law_pick : FnScope ["pen", "some"] ["pen", "some"] (defScope st__law_pick) := ⟨rfl, rfl, rfl, by decide +kernel, rfl, by decide +kernel, by decide +kernel⟩
theorem okf__law_pick {k : Nat} {F__law_draw : List D → Fr} (Z : Gz mg C K) (F : FnP K "_law_pick" st__law_pick f fd) (G__law_draw : FnG P w K mg base C k "_law_draw" 2 (some 0) .pu F__law_draw) : FnOk P w K mg base (L2.CX P w) (k + 1) f fd ["pen", "some"] (spD C 2 (some 0) .pu (rf__law_pick F__law_draw)) := by
  refine fn_ok (ks := [.io, .par]) F sc__law_pick rfl rfl rfl (by intro i hi; cases hi <;> exact ⟨by decide, rfl⟩) (fun cdv A outer s H E hr => ?_)
  have q := cq_of (ks := [.io, .par]) (C := C) (CX := L2.CX P w) (P := P) (w := w) (base := base) (N := ["pen", "some"]) (f := f) (cdv := cdv) (A := A) (outer := outer) (s := s) (H := H) (E := E) (scope := defScope st__law_pick) (qual := "_law_pick") Z sc__law_pick.nd hr
  have tk := takes_of (X := cxOf (L2.CX P w) P w K mg base ["pen", "some"] "_law_pick" (defScope st__law_pick) f cdv A outer s H E) rfl rfl rfl rfl
  have hp := passes_of (X := cxOf (L2.CX P w) P w K mg base ["pen", "some"] "_law_pick" (defScope st__law_pick) f cdv A outer s H E) rfl
  exact (xs_one (xs_ret (XE.pure (x_ix q (xe_v 1) (x_callI tk G__law_draw hr (xi_here 0 (xa_cons (x_len q (xe_v 1)) xa_nil)))))))
theorem ok__law_pick {k : Nat} {F__law_draw : List D → Fr} (Z : Gz mg C K) (F : FnP K "_law_pick" st__law_pick f fd) (gm : mg "_law_pick" = some (.ref f)) (G__law_draw : FnG P w K mg base C k "_law_draw" 2 (some 0) .pu F__law_draw) : FnG P w K mg base C (k + 1) "_law_pick" 2 (some 0) .pu (rf__law_pick F__law_draw) :=
  ⟨f, fd, ["pen", "some"], okf__law_pick Z F G__law_draw, gm, F.kp, F.bindsN (fun _ _ _ _ _ _ us hl => match us, hl with | [_, _], _ => rfl), rfl⟩
/-! _law_is -/
abbrev st__law_is : Stmt := top 28
theorem sc__law_is : FnScope ["told", "due", "at"] ["told", "due"] (defScope st__law_is) := ⟨rfl, rfl, rfl, by decide +kernel, rfl, by decide +kernel, by decide +kernel⟩
theorem okf__law_is {k : Nat} {F__law_is : List D → Fr} (Z : Gz mg C K) (F : FnP K "_law_is" st__law_is f fd) (G__law_is : FnG P w K mg base C k "_law_is" 2 none .pu F__law_is) : FnOk P w K mg base (L2.CX P w) (k + 1) f fd ["told", "due"] (spD C 2 none .pu (rf__law_is F__law_is)) := by
  refine fn_ok (ks := [.par, .par, .pl]) F sc__law_is rfl rfl rfl (by intro i hi; cases hi <;> exact ⟨by decide, rfl⟩) (fun cdv A outer s H E hr => ?_)
  have q := cq_of (ks := [.par, .par, .pl]) (C := C) (CX := L2.CX P w) (P := P) (w := w) (base := base) (N := ["told", "due", "at"]) (f := f) (cdv := cdv) (A := A) (outer := outer) (s := s) (H := H) (E := E) (scope := defScope st__law_is) (qual := "_law_is") Z sc__law_is.nd hr
  have tk := takes_of (X := cxOf (L2.CX P w) P w K mg base ["told", "due", "at"] "_law_is" (defScope st__law_is) f cdv A outer s H E) rfl rfl rfl rfl
  have hp := passes_of (X := cxOf (L2.CX P w) P w K mg base ["told", "due", "at"] "_law_is" (defScope st__law_is) f cdv A outer s H E) rfl
  exact (xs_cons (xs_if (t_tru q (x_isi q "tuple" "tuple" (xe_v 1))) (xs_cons (xs_if (XW.pt (xw_or (xt_not (t_tru q (x_isi q "tuple" "tuple" (xe_v 0)))) (xw_or1 (t_ne q (x_len q (xe_v 0)) (x_len q (xe_v 1)))))) (xs_one (xs_ret xe_bl)) xs_nil)
    (xs_one (xs_ret (x_eq q (xe_lc q.calm q.nd (xl_lc (own := [("at", 2)]) (xi_range1 rfl (q.fb _ (by decide)) (xa_cons (x_len q (xe_v 1)) xa_nil)) rfl (fun _ _ _ _ _ => (xg_name 2 (q.bk []).nd)) (fun _ _ _ _ _ => (xc_one (xt_not (t_tru (q.bk []) (x_call takes0 G__law_is hr (xa_cons (x_ix (q.bk []) (xe_v 0) (xe_v 2)) (xa_cons (x_ix (q.bk []) (xe_v 1) (xe_v 2)) xa_nil))))))) (fun _ _ _ _ _ => (xe_v 2)))) (xe_lst xa_nil))))) xs_nil)
    (xs_cons (xs_if (t_isN q (xe_v 1) xe_non) (xs_one (xs_ret (x_isN q (xe_v 0) xe_non))) xs_nil)
    (xs_cons (xs_if (t_isB q (xe_v 1) xe_bl) (xs_one (xs_ret (x_isB q (xe_v 0) xe_bl))) xs_nil)
    (xs_cons (xs_if (t_isB q (xe_v 1) xe_bl) (xs_one (xs_ret (x_isB q (xe_v 0) xe_bl))) xs_nil)
    (xs_cons (xs_if (t_tru q (x_isi q "str" "str" (xe_v 1))) (xs_one (xs_ret (xe_and (x_isi q "str" "str" (xe_v 0)) (xe_one (x_eq q (xe_v 0) (xe_v 1)))))) xs_nil)
    (xs_one (xs_ret (xe_and (x_isi q "int" "int" (xe_v 0)) (xe_and (xe_not (x_isi q "bool" "bool" (xe_v 0))) (xe_one (x_eq q (xe_v 0) (xe_v 1))))))))))))
theorem ok__law_is {k : Nat} {F__law_is : List D → Fr} (Z : Gz mg C K) (F : FnP K "_law_is" st__law_is f fd) (gm : mg "_law_is" = some (.ref f)) (G__law_is : FnG P w K mg base C k "_law_is" 2 none .pu F__law_is) : FnG P w K mg base C (k + 1) "_law_is" 2 none .pu (rf__law_is F__law_is) :=
  ⟨f, fd, ["told", "due"], okf__law_is Z F G__law_is, gm, F.kp, F.bindsN (fun _ _ _ _ _ _ us hl => match us, hl with | [_, _], _ => rfl), rfl⟩
theorem nv__law_is {k : Nat} (F : FnP K "_law_is" st__law_is f fd) (gm : mg "_law_is" = some (.ref f)) : FnG P w K mg base C (k + 1) "_law_is" 2 none .pu (fun _ => .st) := by
  have h : FnG P w K mg base C (k + 1) "_law_is" 2 none .pu (runF 2 3 [] none fun _ => .st) := ⟨f, fd, ["told", "due"], fn_ok (ks := [.par, .par, .pl]) F sc__law_is rfl rfl rfl (by intro i hi; cases hi <;> exact ⟨by decide, rfl⟩) (fun cdv A outer s H E hr => xss_never), gm, F.kp, F.bindsN (fun _ _ _ _ _ _ us hl => match us, hl with | [_, _], _ => rfl), rfl⟩
  exact h.imp fun ds _ h2 => absurd rfl h2
/-! _law_web -/
abbrev st__law_web : Stmt := top 29
theorem sc__law_web : FnScope ["pen", "many", "most", "steps", "calm", "thing", "row", "k", "behind", "heavy", "starts"] ["pen", "many", "most"] (defScope st__law_web) := ⟨rfl, rfl, rfl, by decide +kernel, rfl, by decide +kernel, by decide +kernel⟩
theorem okf__law_web {k : Nat} {F__law_draw F__law_pick : List D → Fr} (Z : Gz mg C K) (F : FnP K "_law_web" st__law_web f fd) (G__law_draw : FnG P w K mg base C k "_law_draw" 2 (some 0) .pu F__law_draw) (G__law_pick : FnG P w K mg base C k "_law_pick" 2 (some 0) .pu F__law_pick) : FnOk P w K mg base (L2.CX P w) (k + 1) f fd ["pen", "many", "most"] (spD C 3 (some 0) .pu (rf__law_web F__law_draw F__law_pick)) := by
  refine fn_ok (ks := [.io, .pl, .pl, .own, .pl, .pl, .own, .pl, .pl, .pl, .own]) F sc__law_web rfl rfl rfl (by intro i hi; cases hi <;> exact ⟨by decide, rfl⟩) (fun cdv A outer s H E hr => ?_)
  have q := cq_of (ks := [.io, .pl, .pl, .own, .pl, .pl, .own, .pl, .pl, .pl, .own]) (C := C) (CX := L2.CX P w) (P := P) (w := w) (base := base) (N := ["pen", "many", "most", "steps", "calm", "thing", "row", "k", "behind", "heavy", "starts"]) (f := f) (cdv := cdv) (A := A) (outer := outer) (s := s) (H := H) (E := E) (scope := defScope st__law_web) (qual := "_law_web") Z sc__law_web.nd hr
  have tk := takes_of (X := cxOf (L2.CX P w) P w K mg base ["pen", "many", "most", "steps", "calm", "thing", "row", "k", "behind", "heavy", "starts"] "_law_web" (defScope st__law_web) f cdv A outer s H E) rfl rfl rfl rfl
  have hp := passes_of (X := cxOf (L2.CX P w) P w K mg base ["pen", "many", "most", "steps", "calm", "thing", "row", "k", "behind", "heavy", "starts"] "_law_web" (defScope st__law_web) f cdv A outer s H E) rfl
  exact (xs_cons (xs_par 3 4 q.calm q.nd (xe_lst xa_nil) (x_eq q (x_callI tk G__law_draw hr (xi_here 0 (xa_cons xe_int xa_nil))) xe_int))
    (xs_cons (xs_for [] hp q.calm (xi_range1 rfl (q.fb _ (by decide)) (xa_cons (xe_v 1) xa_nil)) (xg_name 5 (q.lk []).nd) (xss_w [5, 6, 7, 8, 9] (xs_cons (xs_set 6 (q.lk []).nd (xe_lst xa_nil))
    (xs_cons (xs_for [] hp (q.lk []).calm (xi_range1 rfl ((q.lk []).fb _ (by decide)) (xa_cons (x_callI tk G__law_pick hr (xi_here 0 (xa_cons (xe_lst (xa_cons xe_int (xa_cons xe_int (xa_cons xe_int (xa_cons xe_int (xa_cons xe_int xa_nil)))))) xa_nil))) xa_nil)) (xg_name 7 ((q.lk []).lk []).nd) (xss_w [7, 8, 9] (xs_cons (xs_set 8 ((q.lk []).lk []).nd (x_callI tk G__law_draw hr (xi_here 0 (xa_cons (xe_v 1) xa_nil))))
    (xs_cons (xs_set 9 ((q.lk []).lk []).nd (x_callI tk G__law_draw hr (xi_here 0 (xa_cons (x_add ((q.lk []).lk []) (xe_v 2) xe_int) xa_nil))))
    (xs_cons (xs_set 9 ((q.lk []).lk []).nd (xe_ifExp (XW.pt (xw_and (t_tru ((q.lk []).lk []) (xe_v 4)) (xw_and1 (t_le ((q.lk []).lk []) (xe_v 8) (xe_v 5))))) (x_add ((q.lk []).lk []) xe_int (x_callI tk G__law_draw hr (xi_here 0 (xa_cons (xe_v 2) xa_nil)))) (xe_v 9)))
    (xs_one (xs_set 6 ((q.lk []).lk []).nd (xe_ifExp (t_in ((q.lk []).lk []) (xe_tup (xa_cons (xe_v 9) (xa_cons (xe_v 8) xa_nil))) (xe_v 6)) (xe_mv 6) (x_addL ((q.lk []).lk []) (xe_v 6) (xe_lst (xa_cons (xe_tup (xa_cons (xe_v 9) (xa_cons (xe_v 8) xa_nil))) xa_nil)))))))))))
    (xs_one (xs_expr (x_app (q.lk []) 3 (x_tuple (q.lk []) (x_sorted (q.lk []) (xe_v 6))))))))))
    (xs_cons (xs_lc 10 q.calm q.nd (xl_lc (own := [("thing", 5)]) (xi_range1 rfl (q.fb _ (by decide)) (xa_cons (xe_v 1) xa_nil)) rfl (fun _ _ _ _ _ => (xg_name 5 (q.bk []).nd)) (fun _ _ _ _ _ => (xc_one (t_eq (q.bk []) (x_callI takes0 G__law_draw hr (xi_here 0 (xa_cons xe_int xa_nil))) xe_int))) (fun _ _ _ _ _ => (xe_v 5))))
    (xs_one (xs_ret (xe_tup (xa_cons (x_tuple q (xe_v 10)) (xa_cons (x_tuple q (xe_v 3)) xa_nil))))))))
theorem ok__law_web {k : Nat} {F__law_draw F__law_pick : List D → Fr} (Z : Gz mg C K) (F : FnP K "_law_web" st__law_web f fd) (gm : mg "_law_web" = some (.ref f)) (G__law_draw : FnG P w K mg base C k "_law_draw" 2 (some 0) .pu F__law_draw) (G__law_pick : FnG P w K mg base C k "_law_pick" 2 (some 0) .pu F__law_pick) : FnG P w K mg base C (k + 1) "_law_web" 3 (some 0) .pu (rf__law_web F__law_draw F__law_pick) :=
  ⟨f, fd, ["pen", "many", "most"], okf__law_web Z F G__law_draw G__law_pick, gm, F.kp, F.bindsN (fun _ _ _ _ _ _ us hl => match us, hl with | [_, _, _], _ => rfl), rfl⟩
/-! _law_met -/
abbrev st__law_met : Stmt := top 30
theorem sc__law_met : FnScope ["web", "idle", "found", "at", "heavy", "behind"] ["web", "idle"] (defScope st__law_met) := ⟨rfl, rfl, rfl, by decide +kernel, rfl, by decide +kernel, by decide +kernel⟩
theorem okf__law_met {k : Nat} (Z : Gz mg C K) (F : FnP K "_law_met" st__law_met f fd)  : FnOk P w K mg base (L2.CX P w) (k + 1) f fd ["web", "idle"] (spD C 2 none .fr (rf__law_met )) := by
  refine fn_ok (ks := [.pl, .pl, .own, .pl, .pl, .pl]) F sc__law_met rfl rfl rfl (by intro i hi; cases hi <;> exact ⟨by decide, rfl⟩) (fun cdv A outer s H E hr => ?_)
  have q := cq_of (ks := [.pl, .pl, .own, .pl, .pl, .pl]) (C := C) (CX := L2.CX P w) (P := P) (w := w) (base := base) (N := ["web", "idle", "found", "at", "heavy", "behind"]) (f := f) (cdv := cdv) (A := A) (outer := outer) (s := s) (H := H) (E := E) (scope := defScope st__law_met) (qual := "_law_met") Z sc__law_met.nd hr
  have tk := takes_of (X := cxOf (L2.CX P w) P w K mg base ["web", "idle", "found", "at", "heavy", "behind"] "_law_met" (defScope st__law_met) f cdv A outer s H E) rfl rfl rfl rfl
  have hp := passes_of (X := cxOf (L2.CX P w) P w K mg base ["web", "idle", "found", "at", "heavy", "behind"] "_law_met" (defScope st__law_met) f cdv A outer s H E) rfl
  exact (xs_cons (xs_set 2 q.nd (x_list q (x_ix q (xe_v 0) xe_int)))
    (xs_cons (xs_set 3 q.nd xe_int)
    (xs_cons (xs_while hp (t_lt q (xe_v 3) (x_len q (xe_v 2))) (xss_w [4, 5] (xs_cons (xs_for [] hp q.calm (xi_seq q.K (x_ix q (x_ix q (xe_v 0) xe_int) (XE.pure (x_ix q (xe_v 2) (xe_v 3))))) (xg_tup (q.lk []).K (q.lk []).calm (xgs_cons (xg_name 4 (q.lk []).nd) (xgs_cons (xg_name 5 (q.lk []).nd) xgs_nil)) (gl_cons (gl_cons gl_nil))) (xss_w [4, 5] (xs_one (xs_if (XW.pt (xw_and (t_ni (q.lk []) (xe_v 5) (xe_v 2)) (xw_and1 (XW.pt (xw_or (t_eq (q.lk []) (xe_v 4) xe_int) (xw_or1 (xt_not (t_tru (q.lk []) (xe_v 1))))))))) (xs_one (xs_expr (x_app (q.lk []) 2 (xe_v 5)))) xs_nil))))
    (xs_one (xs_set 3 q.nd (x_add q (xe_v 3) xe_int))))))
    (xs_one (xs_ret (xe_mv 2))))))
theorem ok__law_met {k : Nat} (Z : Gz mg C K) (F : FnP K "_law_met" st__law_met f fd) (gm : mg "_law_met" = some (.ref f))  : FnG P w K mg base C (k + 1) "_law_met" 2 none .fr (rf__law_met ) :=
  ⟨f, fd, ["web", "idle"], okf__law_met Z F , gm, F.kp, F.bindsN (fun _ _ _ _ _ _ us hl => match us, hl with | [_, _], _ => rfl), rfl⟩
/-! _law_lasting -/
abbrev st__law_lasting : Stmt := top 31
theorem sc__law_lasting : FnScope ["web", "things", "left", "lap", "one", "heavy", "behind"] ["web", "things"] (defScope st__law_lasting) := ⟨rfl, rfl, rfl, by decide +kernel, rfl, by decide +kernel, by decide +kernel⟩
theorem okf__law_lasting {k : Nat} (Z : Gz mg C K) (F : FnP K "_law_lasting" st__law_lasting f fd)  : FnOk P w K mg base (L2.CX P w) (k + 1) f fd ["web", "things"] (spD C 2 none .fr (rf__law_lasting )) := by
  refine fn_ok (ks := [.pl, .par, .own, .pl, .pl, .pl, .pl]) F sc__law_lasting rfl rfl rfl (by intro i hi; cases hi <;> exact ⟨by decide, rfl⟩) (fun cdv A outer s H E hr => ?_)
  have q := cq_of (ks := [.pl, .par, .own, .pl, .pl, .pl, .pl]) (C := C) (CX := L2.CX P w) (P := P) (w := w) (base := base) (N := ["web", "things", "left", "lap", "one", "heavy", "behind"]) (f := f) (cdv := cdv) (A := A) (outer := outer) (s := s) (H := H) (E := E) (scope := defScope st__law_lasting) (qual := "_law_lasting") Z sc__law_lasting.nd hr
  have tk := takes_of (X := cxOf (L2.CX P w) P w K mg base ["web", "things", "left", "lap", "one", "heavy", "behind"] "_law_lasting" (defScope st__law_lasting) f cdv A outer s H E) rfl rfl rfl rfl
  have hp := passes_of (X := cxOf (L2.CX P w) P w K mg base ["web", "things", "left", "lap", "one", "heavy", "behind"] "_law_lasting" (defScope st__law_lasting) f cdv A outer s H E) rfl
  exact (xs_cons (xs_set 2 q.nd (x_list q (xe_v 1)))
    (xs_cons (xs_for [] hp q.calm (xi_range1 rfl (q.fb _ (by decide)) (xa_cons (x_add q (x_len q (xe_v 1)) xe_int) xa_nil)) (xg_name 3 (q.lk []).nd) (xss_w [3] (xs_one (xs_set 2 (q.lk []).nd (xe_lc (q.lk []).calm (q.lk []).nd (xl_lc (own := [("one", 4)]) (xi_seq (q.lk []).K (xe_v 2)) rfl (fun _ _ _ _ _ => (xg_name 4 ((q.lk []).bk [2]).nd)) (fun _ _ _ _ _ => (xc_one (t_ne ((q.lk []).bk [2]) (xe_lc ((q.lk []).bk [2]).calm ((q.lk []).bk [2]).nd (xl_lc (own := [("heavy", 5), ("behind", 6)]) (xi_seq ((q.lk []).bk [2]).K (x_ix ((q.lk []).bk [2]) (x_ix ((q.lk []).bk [2]) (xe_v 0) xe_int) (xe_v 4))) rfl (fun _ _ _ _ _ => (xg_tup (((q.lk []).bk [2]).bk []).K (((q.lk []).bk [2]).bk []).calm (xgs_cons (xg_name 5 (((q.lk []).bk [2]).bk []).nd) (xgs_cons (xg_name 6 (((q.lk []).bk [2]).bk []).nd) xgs_nil)) (gl_cons (gl_cons gl_nil)))) (fun _ _ _ _ _ => (xc_one (XW.pt (xw_and (t_eq (((q.lk []).bk [2]).bk []) (xe_v 5) xe_int) (xw_and1 (t_in (((q.lk []).bk [2]).bk []) (xe_v 6) (xe_v 2))))))) (fun _ _ _ _ _ => xe_int))) (xe_lst xa_nil)))) (fun _ _ _ _ _ => (xe_v 4))))))))
    (xs_one (xs_ret (xe_mv 2)))))
theorem ok__law_lasting {k : Nat} (Z : Gz mg C K) (F : FnP K "_law_lasting" st__law_lasting f fd) (gm : mg "_law_lasting" = some (.ref f))  : FnG P w K mg base C (k + 1) "_law_lasting" 2 none .fr (rf__law_lasting ) :=
  ⟨f, fd, ["web", "things"], okf__law_lasting Z F , gm, F.kp, F.bindsN (fun _ _ _ _ _ _ us hl => match us, hl with | [_, _], _ => rfl), rfl⟩
/-! _law_farthest -/
abbrev st__law_farthest : Stmt := top 32
theorem sc__law_farthest : FnScope ["web", "carried", "things", "lasting", "rows", "purse", "row", "thing", "lap", "told", "start"] ["web", "carried"] (defScope st__law_farthest) := ⟨rfl, rfl, rfl, by decide +kernel, rfl, by decide +kernel, by decide +kernel⟩
theorem okf__law_farthest {k : Nat} {F__law_met F__law_lasting F__law_best : List D → Fr} (Z : Gz mg C K) (F : FnP K "_law_farthest" st__law_farthest f fd) (G__law_met : FnG P w K mg base C k "_law_met" 2 none .fr F__law_met) (G__law_lasting : FnG P w K mg base C k "_law_lasting" 2 none .fr F__law_lasting) (G__law_best : FnG P w K mg base C k "_law_best" 5 none .pu F__law_best) : FnOk P w K mg base (L2.CX P w) (k + 1) f fd ["web", "carried"] (spD C 2 none .pu (rf__law_farthest F__law_met F__law_lasting F__law_best)) := by
  refine fn_ok (ks := [.pl, .pl, .own, .own, .own, .pl, .own, .pl, .pl, .own, .pl]) F sc__law_farthest rfl rfl rfl (by intro i hi; cases hi <;> exact ⟨by decide, rfl⟩) (fun cdv A outer s H E hr => ?_)
  have q := cq_of (ks := [.pl, .pl, .own, .own, .own, .pl, .own, .pl, .pl, .own, .pl]) (C := C) (CX := L2.CX P w) (P := P) (w := w) (base := base) (N := ["web", "carried", "things", "lasting", "rows", "purse", "row", "thing", "lap", "told", "start"]) (f := f) (cdv := cdv) (A := A) (outer := outer) (s := s) (H := H) (E := E) (scope := defScope st__law_farthest) (qual := "_law_farthest") Z sc__law_farthest.nd hr
  have tk := takes_of (X := cxOf (L2.CX P w) P w K mg base ["web", "carried", "things", "lasting", "rows", "purse", "row", "thing", "lap", "told", "start"] "_law_farthest" (defScope st__law_farthest) f cdv A outer s H E) rfl rfl rfl rfl
  have hp := passes_of (X := cxOf (L2.CX P w) P w K mg base ["web", "carried", "things", "lasting", "rows", "purse", "row", "thing", "lap", "told", "start"] "_law_farthest" (defScope st__law_farthest) f cdv A outer s H E) rfl
  exact (xs_cons (xs_set 2 q.nd (x_call tk G__law_met hr (xa_cons (xe_v 0) (xa_cons xe_bl xa_nil))))
    (xs_cons (xs_unpF [(3, true), (4, true)] q (xe_tupX (xa_cons (x_call tk G__law_lasting hr (xa_cons (xe_v 0) (xa_cons (xe_v 2) xa_nil))) (xa_cons (xe_lst xa_nil) xa_nil))) (xns_cons 3 q.nd (xns_cons 4 q.nd xns_nil)))
    (xs_cons (xs_for [] hp q.calm (xi_range1 rfl (q.fb _ (by decide)) (xa_cons (x_add q (xe_v 1) xe_int) xa_nil)) (xg_name 5 (q.lk []).nd) (xss_w [5, 6, 7, 8] (xs_cons (xs_set 6 (q.lk []).nd xe_dic0)
    (xs_cons (xs_for [] hp (q.lk []).calm (xi_seq (q.lk []).K (xe_v 3)) (xg_name 7 ((q.lk []).lk [3]).nd) (xss_w [7] (xs_one (xs_put 6 ((q.lk []).lk [3]).u1 xe_non (xe_v 7)))))
    (xs_cons (xs_p [7] (xs_for [] hp (q.lk []).calm (xi_range1 rfl ((q.lk []).fb _ (by decide)) (xa_cons (x_add (q.lk []) (x_len (q.lk []) (xe_v 2)) xe_int) xa_nil)) (xg_name 8 ((q.lk []).lk []).nd) (xss_w [7, 8] (xs_one (xs_p [7] (xs_for [] hp ((q.lk []).lk []).calm (xi_seq ((q.lk []).lk []).K (xe_v 2)) (xg_name 7 (((q.lk []).lk []).lk [2]).nd) (xss_w [7] (xs_one (xs_if (t_ni (((q.lk []).lk []).lk [2]) (xe_v 7) (xe_v 3)) (xs_one (xs_put 6 (((q.lk []).lk []).lk [2]).u1 (x_call tk G__law_best hr (xa_cons (xe_v 0) (xa_cons (xe_v 4) (xa_cons (xe_v 6) (xa_cons (xe_v 7) (xa_cons (xe_v 5) xa_nil)))))) (xe_v 7))) xs_nil)))))))))
    (xs_one (xs_expr (x_app (q.lk []) 4 (xe_mv 6)))))))))
    (xs_cons (xs_lc 9 q.calm q.nd (xl_lc (own := [("start", 10)]) (xi_seq q.K (x_ix q (xe_v 0) xe_int)) rfl (fun _ _ _ _ _ => (xg_name 10 (q.bk []).nd)) (fun _ _ _ _ _ => xc_nil) (fun _ _ _ _ _ => (x_ix (q.bk []) (x_ix (q.bk []) (xe_v 4) (xe_v 1)) (xe_v 10)))))
    (xs_one (xs_ret (xe_ifExp (t_in q xe_non (xe_v 9)) xe_non (x_max q (x_addL q (xe_lst (xa_cons xe_int xa_nil)) (xe_v 9))))))))))
theorem ok__law_farthest {k : Nat} {F__law_met F__law_lasting F__law_best : List D → Fr} (Z : Gz mg C K) (F : FnP K "_law_farthest" st__law_farthest f fd) (gm : mg "_law_farthest" = some (.ref f)) (G__law_met : FnG P w K mg base C k "_law_met" 2 none .fr F__law_met) (G__law_lasting : FnG P w K mg base C k "_law_lasting" 2 none .fr F__law_lasting) (G__law_best : FnG P w K mg base C k "_law_best" 5 none .pu F__law_best) : FnG P w K mg base C (k + 1) "_law_farthest" 2 none .pu (rf__law_farthest F__law_met F__law_lasting F__law_best) :=
  ⟨f, fd, ["web", "carried"], okf__law_farthest Z F G__law_met G__law_lasting G__law_best, gm, F.kp, F.bindsN (fun _ _ _ _ _ _ us hl => match us, hl with | [_, _], _ => rfl), rfl⟩
/-! _law_best -/
abbrev st__law_best : Stmt := top 33
theorem sc__law_best : FnScope ["web", "rows", "row", "thing", "purse", "best", "heavy", "behind", "further"] ["web", "rows", "row", "thing", "purse"] (defScope st__law_best) := ⟨rfl, rfl, rfl, by decide +kernel, rfl, by decide +kernel, by decide +kernel⟩
theorem okf__law_best {k : Nat} (Z : Gz mg C K) (F : FnP K "_law_best" st__law_best f fd)  : FnOk P w K mg base (L2.CX P w) (k + 1) f fd ["web", "rows", "row", "thing", "purse"] (spD C 5 none .pu (rf__law_best )) := by
  refine fn_ok (ks := [.pl, .par, .par, .pl, .pl, .pl, .pl, .pl, .pl]) F sc__law_best rfl rfl rfl (by intro i hi; cases hi <;> exact ⟨by decide, rfl⟩) (fun cdv A outer s H E hr => ?_)
  have q := cq_of (ks := [.pl, .par, .par, .pl, .pl, .pl, .pl, .pl, .pl]) (C := C) (CX := L2.CX P w) (P := P) (w := w) (base := base) (N := ["web", "rows", "row", "thing", "purse", "best", "heavy", "behind", "further"]) (f := f) (cdv := cdv) (A := A) (outer := outer) (s := s) (H := H) (E := E) (scope := defScope st__law_best) (qual := "_law_best") Z sc__law_best.nd hr
  have tk := takes_of (X := cxOf (L2.CX P w) P w K mg base ["web", "rows", "row", "thing", "purse", "best", "heavy", "behind", "further"] "_law_best" (defScope st__law_best) f cdv A outer s H E) rfl rfl rfl rfl
  have hp := passes_of (X := cxOf (L2.CX P w) P w K mg base ["web", "rows", "row", "thing", "purse", "best", "heavy", "behind", "further"] "_law_best" (defScope st__law_best) f cdv A outer s H E) rfl
  exact (xs_cons (xs_set 5 q.nd xe_int)
    (xs_cons (xs_for [] hp q.calm (xi_seq q.K (x_ix q (x_ix q (xe_v 0) xe_int) (xe_v 3))) (xg_tup (q.lk []).K (q.lk []).calm (xgs_cons (xg_name 6 (q.lk []).nd) (xgs_cons (xg_name 7 (q.lk []).nd) xgs_nil)) (gl_cons (gl_cons gl_nil))) (xss_w [6, 7, 8] (xs_one (xs_if (XW.pt (xw_and (t_le (q.lk []) (xe_v 6) (xe_v 4)) (xw_and1 (t_ntN (q.lk []) (xe_v 5) xe_non)))) (xs_cons (xs_set 8 (q.lk []).nd (xe_ifExp (t_eq (q.lk []) (xe_v 6) xe_int) (XE.pure (xe_get2 (q.lk []).u1 (xe_v 2) (xe_v 7) xe_int)) (XE.pure (x_ix (q.lk []) (x_ix (q.lk []) (xe_v 1) (x_sub (q.lk []) (xe_v 4) (xe_v 6))) (xe_v 7)))))
    (xs_one (xs_set 5 (q.lk []).nd (xe_ifExp (t_isN (q.lk []) (xe_v 8) xe_non) xe_non (x_max2 (q.lk []) (xa_cons (xe_v 5) (xa_cons (x_add (q.lk []) (xe_v 8) xe_int) xa_nil))))))) xs_nil))))
    (xs_one (xs_ret (xe_v 5)))))
theorem ok__law_best {k : Nat} (Z : Gz mg C K) (F : FnP K "_law_best" st__law_best f fd) (gm : mg "_law_best" = some (.ref f))  : FnG P w K mg base C (k + 1) "_law_best" 5 none .pu (rf__law_best ) :=
  ⟨f, fd, ["web", "rows", "row", "thing", "purse"], okf__law_best Z F , gm, F.kp, F.bindsN (fun _ _ _ _ _ _ us hl => match us, hl with | [_, _, _, _, _], _ => rfl), rfl⟩
/-! _law_walked -/
abbrev st__law_walked : Stmt := top 34
theorem sc__law_walked : FnScope ["web", "thing", "steps", "step"] ["web", "thing", "steps"] (defScope st__law_walked) := ⟨rfl, rfl, rfl, by decide +kernel, rfl, by decide +kernel, by decide +kernel⟩
theorem okf__law_walked {k : Nat} (Z : Gz mg C K) (F : FnP K "_law_walked" st__law_walked f fd)  : FnOk P w K mg base (L2.CX P w) (k + 1) f fd ["web", "thing", "steps"] (spD C 3 none .pu (rf__law_walked )) := by
  refine fn_ok (ks := [.pl, .pl, .pl, .pl]) F sc__law_walked rfl rfl rfl (by intro i hi; cases hi <;> exact ⟨by decide, rfl⟩) (fun cdv A outer s H E hr => ?_)
  have q := cq_of (ks := [.pl, .pl, .pl, .pl]) (C := C) (CX := L2.CX P w) (P := P) (w := w) (base := base) (N := ["web", "thing", "steps", "step"]) (f := f) (cdv := cdv) (A := A) (outer := outer) (s := s) (H := H) (E := E) (scope := defScope st__law_walked) (qual := "_law_walked") Z sc__law_walked.nd hr
  have tk := takes_of (X := cxOf (L2.CX P w) P w K mg base ["web", "thing", "steps", "step"] "_law_walked" (defScope st__law_walked) f cdv A outer s H E) rfl rfl rfl rfl
  have hp := passes_of (X := cxOf (L2.CX P w) P w K mg base ["web", "thing", "steps", "step"] "_law_walked" (defScope st__law_walked) f cdv A outer s H E) rfl
  exact (xs_cons (xs_if (xt_not (t_tru q (x_isi q "tuple" "tuple" (xe_v 2)))) (xs_one (xs_ret xe_non)) xs_nil)
    (xs_cons (xs_for [] hp q.calm (xi_seq q.K (xe_v 2)) (xg_name 3 (q.lk []).nd) (xss_w [3] (xs_cons (xs_if (XW.pt (xw_or (xt_not (t_tru (q.lk []) (x_isi (q.lk []) "tuple" "tuple" (xe_v 3)))) (xw_or1 (t_ni (q.lk []) (xe_v 3) (x_ix (q.lk []) (x_ix (q.lk []) (xe_v 0) xe_int) (xe_v 1)))))) (xs_one (xs_ret xe_non)) xs_nil)
    (xs_one (xs_set 1 (q.lk []).nd (x_ix (q.lk []) (xe_v 3) xe_int))))))
    (xs_one (xs_ret (xe_v 1)))))
theorem ok__law_walked {k : Nat} (Z : Gz mg C K) (F : FnP K "_law_walked" st__law_walked f fd) (gm : mg "_law_walked" = some (.ref f))  : FnG P w K mg base C (k + 1) "_law_walked" 3 none .pu (rf__law_walked ) :=
  ⟨f, fd, ["web", "thing", "steps"], okf__law_walked Z F , gm, F.kp, F.bindsN (fun _ _ _ _ _ _ us hl => match us, hl with | [_, _, _], _ => rfl), rfl⟩
/-! _law_heavy -/
abbrev st__law_heavy : Stmt := top 35
theorem sc__law_heavy : FnScope ["steps", "step"] ["steps"] (defScope st__law_heavy) := ⟨rfl, rfl, rfl, by decide +kernel, rfl, by decide +kernel, by decide +kernel⟩
theorem okf__law_heavy {k : Nat} (Z : Gz mg C K) (F : FnP K "_law_heavy" st__law_heavy f fd)  : FnOk P w K mg base (L2.CX P w) (k + 1) f fd ["steps"] (spD C 1 none .pu (rf__law_heavy )) := by
  refine fn_ok (ks := [.pl, .pl]) F sc__law_heavy rfl rfl rfl (by intro i hi; cases hi <;> exact ⟨by decide, rfl⟩) (fun cdv A outer s H E hr => ?_)
  have q := cq_of (ks := [.pl, .pl]) (C := C) (CX := L2.CX P w) (P := P) (w := w) (base := base) (N := ["steps", "step"]) (f := f) (cdv := cdv) (A := A) (outer := outer) (s := s) (H := H) (E := E) (scope := defScope st__law_heavy) (qual := "_law_heavy") Z sc__law_heavy.nd hr
  have tk := takes_of (X := cxOf (L2.CX P w) P w K mg base ["steps", "step"] "_law_heavy" (defScope st__law_heavy) f cdv A outer s H E) rfl rfl rfl rfl
  have hp := passes_of (X := cxOf (L2.CX P w) P w K mg base ["steps", "step"] "_law_heavy" (defScope st__law_heavy) f cdv A outer s H E) rfl
  exact (xs_one (xs_ret (x_sum q (xe_lc q.calm q.nd (xl_lc (own := [("step", 1)]) (xi_seq q.K (xe_v 0)) rfl (fun _ _ _ _ _ => (xg_name 1 (q.bk []).nd)) (fun _ _ _ _ _ => xc_nil) (fun _ _ _ _ _ => (x_ix (q.bk []) (xe_v 1) xe_int)))))))
theorem ok__law_heavy {k : Nat} (Z : Gz mg C K) (F : FnP K "_law_heavy" st__law_heavy f fd) (gm : mg "_law_heavy" = some (.ref f))  : FnG P w K mg base C (k + 1) "_law_heavy" 1 none .pu (rf__law_heavy ) :=
  ⟨f, fd, ["steps"], okf__law_heavy Z F , gm, F.kp, F.bindsN (fun _ _ _ _ _ _ us hl => match us, hl with | [_], _ => rfl), rfl⟩
/-! _law_made_web -/
abbrev st__law_made_web : Stmt := top 36
theorem sc__law_made_web : FnScope ["web"] ["web"] (defScope st__law_made_web) := ⟨rfl, rfl, rfl, by decide +kernel, rfl, by decide +kernel, by decide +kernel⟩
theorem okf__law_made_web {k : Nat} {F_Web : List D → Fr} (Z : Gz mg C K) (F : FnP K "_law_made_web" st__law_made_web f fd) (M_Web : MkG P w K mg base C k "Web" 2 F_Web) : FnOk P w K mg base (L2.CX P w) (k + 1) f fd ["web"] (spD C 1 none .pu (rf__law_made_web F_Web)) := by
  refine fn_ok (ks := [.pl]) F sc__law_made_web rfl rfl rfl (by intro i hi; cases hi <;> exact ⟨by decide, rfl⟩) (fun cdv A outer s H E hr => ?_)
  have q := cq_of (ks := [.pl]) (C := C) (CX := L2.CX P w) (P := P) (w := w) (base := base) (N := ["web"]) (f := f) (cdv := cdv) (A := A) (outer := outer) (s := s) (H := H) (E := E) (scope := defScope st__law_made_web) (qual := "_law_made_web") Z sc__law_made_web.nd hr
  have tk := takes_of (X := cxOf (L2.CX P w) P w K mg base ["web"] "_law_made_web" (defScope st__law_made_web) f cdv A outer s H E) rfl rfl rfl rfl
  have hp := passes_of (X := cxOf (L2.CX P w) P w K mg base ["web"] "_law_made_web" (defScope st__law_made_web) f cdv A outer s H E) rfl
  exact (xs_one (xs_ret (x_make tk M_Web hr (xa_cons (x_ix q (xe_v 0) xe_int) (xa_cons (x_ix q (xe_v 0) xe_int) xa_nil)))))
theorem ok__law_made_web {k : Nat} {F_Web : List D → Fr} (Z : Gz mg C K) (F : FnP K "_law_made_web" st__law_made_web f fd) (gm : mg "_law_made_web" = some (.ref f)) (M_Web : MkG P w K mg base C k "Web" 2 F_Web) : FnG P w K mg base C (k + 1) "_law_made_web" 1 none .pu (rf__law_made_web F_Web) :=
  ⟨f, fd, ["web"], okf__law_made_web Z F M_Web, gm, F.kp, F.bindsN (fun _ _ _ _ _ _ us hl => match us, hl with | [_], _ => rfl), rfl⟩
/-! law -/
abbrev st_law : Stmt := top 37
theorem sc_law : FnScope ["script", "pen", "lap", "web", "carried", "made", "due", "number", "told", "met", "others", "thing", "row"] ["script"] (defScope st_law) := ⟨rfl, rfl, rfl, by decide +kernel, rfl, by decide +kernel, by decide +kernel⟩
theorem okf_law {k : Nat} {F__law_pen F__law_web F__law_draw F__law_made_web F__law_farthest F__law_is F_length F_lengths F_walk_of F__law_walked F__law_heavy F__law_met F_Web : List D → Fr} (Z : Gz mg C K) (F : FnP K "law" st_law f fd) (G__law_pen : FnG P w K mg base C k "_law_pen" 1 none .fr F__law_pen) (G__law_web : FnG P w K mg base C k "_law_web" 3 (some 0) .pu F__law_web) (G__law_draw : FnG P w K mg base C k "_law_draw" 2 (some 0) .pu F__law_draw) (G__law_made_web : FnG P w K mg base C k "_law_made_web" 1 none .pu F__law_made_web) (G__law_farthest : FnG P w K mg base C k "_law_farthest" 2 none .pu F__law_farthest) (G__law_is : FnG P w K mg base C k "_law_is" 2 none .pu F__law_is) (G_length : FnG P w K mg base C k "length" 2 none .pu F_length) (G_lengths : FnG P w K mg base C k "lengths" 2 none .pu F_lengths) (G_walk_of : FnG P w K mg base C k "walk_of" 2 none .pu F_walk_of) (G__law_walked : FnG P w K mg base C k "_law_walked" 3 none .pu F__law_walked) (G__law_heavy : FnG P w K mg base C k "_law_heavy" 1 none .pu F__law_heavy) (G__law_met : FnG P w K mg base C k "_law_met" 2 none .fr F__law_met) (M_Web : MkG P w K mg base C k "Web" 2 F_Web) : FnOk P w K mg base (L2.CX P w) (k + 1) f fd ["script"] (spD C 1 none .pu (rf_law F__law_pen F__law_web F__law_draw F__law_made_web F__law_farthest F__law_is F_length F_lengths F_walk_of F__law_walked F__law_heavy F__law_met F_Web)) := by
  refine fn_ok (ks := [.par, .own, .pl, .pl, .pl, .pl, .own, .pl, .pl, .own, .pl, .pl, .pl]) F sc_law rfl rfl rfl (by intro i hi; cases hi <;> exact ⟨by decide, rfl⟩) (fun cdv A outer s H E hr => ?_)
  have q := cq_of (ks := [.par, .own, .pl, .pl, .pl, .pl, .own, .pl, .pl, .own, .pl, .pl, .pl]) (C := C) (CX := L2.CX P w) (P := P) (w := w) (base := base) (N := ["script", "pen", "lap", "web", "carried", "made", "due", "number", "told", "met", "others", "thing", "row"]) (f := f) (cdv := cdv) (A := A) (outer := outer) (s := s) (H := H) (E := E) (scope := defScope st_law) (qual := "law") Z sc_law.nd hr
  have tk := takes_of (X := cxOf (L2.CX P w) P w K mg base ["script", "pen", "lap", "web", "carried", "made", "due", "number", "told", "met", "others", "thing", "row"] "law" (defScope st_law) f cdv A outer s H E) rfl rfl rfl rfl
  have hp := passes_of (X := cxOf (L2.CX P w) P w K mg base ["script", "pen", "lap", "web", "carried", "made", "due", "number", "told", "met", "others", "thing", "row"] "law" (defScope st_law) f cdv A outer s H E) rfl
  exact (xs_cons (xs_set 1 q.nd (x_call tk G__law_pen hr (xa_cons (xe_v 0) xa_nil)))
    (xs_cons (xs_for [] hp q.calm (xi_range1 rfl (q.fb _ (by decide)) (xa_cons xe_int xa_nil)) (xg_name 2 (q.lk []).nd) (xss_w [2, 3, 4, 5, 6, 8, 9, 10] (xs_cons (xs_unp (q.lk []).K (q.lk []).calm (xe_tup (xa_cons (x_callI tk G__law_web hr (xi_here 1 (xa_cons (x_add (q.lk []) xe_int (x_callI tk G__law_draw hr (xi_here 1 (xa_cons xe_int xa_nil)))) (xa_cons xe_int xa_nil)))) (xa_cons (x_callI tk G__law_draw hr (xi_here 1 (xa_cons xe_int xa_nil))) xa_nil))) (xgs_cons (xg_name 3 (q.lk []).nd) (xgs_cons (xg_name 4 (q.lk []).nd) xgs_nil)) (gl_cons (gl_cons gl_nil)))
    (xs_cons (xs_set 5 (q.lk []).nd (x_call tk G__law_made_web hr (xa_cons (xe_v 3) xa_nil)))
    (xs_cons (xs_lc 6 (q.lk []).calm (q.lk []).nd (xl_lc (own := [("number", 7)]) (xi_range1 rfl ((q.lk []).fb _ (by decide)) (xa_cons (x_add (q.lk []) (xe_v 4) xe_int) xa_nil)) rfl (fun _ _ _ _ _ => (xg_name 7 ((q.lk []).bk []).nd)) (fun _ _ _ _ _ => xc_nil) (fun _ _ _ _ _ => (x_call takes0 G__law_farthest hr (xa_cons (xe_v 3) (xa_cons (xe_v 7) xa_nil))))))
    (xs_cons (xs_if (XW.pt (xw_or (xt_not (t_tru (q.lk []) (x_call tk G__law_is hr (xa_cons (x_call tk G_length hr (xa_cons (xe_v 5) (xa_cons (xe_v 4) xa_nil))) (xa_cons (x_ix (q.lk []) (xe_v 6) (x_neg (q.lk []) xe_int)) xa_nil))))) (xw_or1 (xt_not (t_tru (q.lk []) (x_call tk G__law_is hr (xa_cons (x_call tk G_lengths hr (xa_cons (xe_v 5) (xa_cons (xe_v 4) xa_nil))) (xa_cons (x_tuple (q.lk []) (xe_v 6)) xa_nil)))))))) (xs_one (xs_ret xe_bl)) xs_nil)
    (xs_cons (xs_set 8 (q.lk []).nd (x_call tk G_walk_of hr (xa_cons (xe_v 5) (xa_cons (xe_v 4) xa_nil))))
    (xs_cons (xs_if (XW.pt (xw_or (t_isN (q.lk []) (x_ix (q.lk []) (xe_v 6) (x_neg (q.lk []) xe_int)) xe_non) (xw_or1 (t_eq (q.lk []) (x_ix (q.lk []) (xe_v 3) xe_int) (xe_tup xa_nil))))) (xs_one (xs_if (t_ntN (q.lk []) (xe_v 8) xe_non) (xs_one (xs_ret xe_bl)) xs_nil)) (xs_one (xs_if (XW.pt (xw_or (xt_not (t_tru (q.lk []) (x_isi (q.lk []) "tuple" "tuple" (xe_v 8)))) (xw_or (t_ne (q.lk []) (x_len (q.lk []) (xe_v 8)) xe_int) (xw_or (t_ni (q.lk []) (x_ix (q.lk []) (xe_v 8) xe_int) (x_ix (q.lk []) (xe_v 3) xe_int)) (xw_or1 (t_ne (q.lk []) (x_len (q.lk []) (x_ix (q.lk []) (xe_v 8) xe_int)) (x_ix (q.lk []) (xe_v 6) (x_neg (q.lk []) xe_int)))))))) (xs_one (xs_ret xe_bl)) (xs_one (xs_if (XW.pt (xw_or (t_isN (q.lk []) (x_call tk G__law_walked hr (xa_cons (xe_v 3) (xa_cons (x_ix (q.lk []) (xe_v 8) xe_int) (xa_cons (x_ix (q.lk []) (xe_v 8) xe_int) xa_nil)))) xe_non) (xw_or1 (t_gt (q.lk []) (x_call tk G__law_heavy hr (xa_cons (x_ix (q.lk []) (xe_v 8) xe_int) xa_nil)) (xe_v 4))))) (xs_one (xs_ret xe_bl)) xs_nil)))))
    (xs_cons (xs_set 9 (q.lk []).nd (x_call tk G__law_met hr (xa_cons (xe_v 3) (xa_cons xe_bl xa_nil))))
    (xs_cons (xs_set 10 (q.lk []).nd (x_tuple (q.lk []) (xe_lc (q.lk []).calm (q.lk []).nd (xl_lc (own := [("thing", 11), ("row", 12)]) (xi_enum (q.lk []).K rfl ((q.lk []).fb _ (by decide)) (x_ix (q.lk []) (xe_v 3) xe_int)) rfl (fun _ _ _ _ _ => (xg_tup ((q.lk []).bk []).K ((q.lk []).bk []).calm (xgs_cons (xg_name 11 ((q.lk []).bk []).nd) (xgs_cons (xg_name 12 ((q.lk []).bk []).nd) xgs_nil)) (gl_cons (gl_cons gl_nil)))) (fun _ _ _ _ _ => xc_nil) (fun _ _ _ _ _ => (xe_ifExp (t_in ((q.lk []).bk []) (xe_v 11) (xe_v 9)) (xe_v 12) (xe_tup xa_nil)))))))
    (xs_one (xs_if (xt_not (t_tru (q.lk []) (x_call tk G__law_is hr (xa_cons (x_call tk G_lengths hr (xa_cons (x_make tk M_Web hr (xa_cons (x_ix (q.lk []) (xe_v 3) xe_int) (xa_cons (xe_v 10) xa_nil))) (xa_cons (xe_v 4) xa_nil))) (xa_cons (x_tuple (q.lk []) (xe_v 6)) xa_nil))))) (xs_one (xs_ret xe_bl)) xs_nil))))))))))))
    (xs_one (xs_ret xe_bl))))
theorem ok_law {k : Nat} {F__law_pen F__law_web F__law_draw F__law_made_web F__law_farthest F__law_is F_length F_lengths F_walk_of F__law_walked F__law_heavy F__law_met F_Web : List D → Fr} (Z : Gz mg C K) (F : FnP K "law" st_law f fd) (gm : mg "law" = some (.ref f)) (G__law_pen : FnG P w K mg base C k "_law_pen" 1 none .fr F__law_pen) (G__law_web : FnG P w K mg base C k "_law_web" 3 (some 0) .pu F__law_web) (G__law_draw : FnG P w K mg base C k "_law_draw" 2 (some 0) .pu F__law_draw) (G__law_made_web : FnG P w K mg base C k "_law_made_web" 1 none .pu F__law_made_web) (G__law_farthest : FnG P w K mg base C k "_law_farthest" 2 none .pu F__law_farthest) (G__law_is : FnG P w K mg base C k "_law_is" 2 none .pu F__law_is) (G_length : FnG P w K mg base C k "length" 2 none .pu F_length) (G_lengths : FnG P w K mg base C k "lengths" 2 none .pu F_lengths) (G_walk_of : FnG P w K mg base C k "walk_of" 2 none .pu F_walk_of) (G__law_walked : FnG P w K mg base C k "_law_walked" 3 none .pu F__law_walked) (G__law_heavy : FnG P w K mg base C k "_law_heavy" 1 none .pu F__law_heavy) (G__law_met : FnG P w K mg base C k "_law_met" 2 none .fr F__law_met) (M_Web : MkG P w K mg base C k "Web" 2 F_Web) : FnG P w K mg base C (k + 1) "law" 1 none .pu (rf_law F__law_pen F__law_web F__law_draw F__law_made_web F__law_farthest F__law_is F_length F_lengths F_walk_of F__law_walked F__law_heavy F__law_met F_Web) :=
  ⟨f, fd, ["script"], okf_law Z F G__law_pen G__law_web G__law_draw G__law_made_web G__law_farthest G__law_is G_length G_lengths G_walk_of G__law_walked G__law_heavy G__law_met M_Web, gm, F.kp, F.bindsN (fun _ _ _ _ _ _ us hl => match us, hl with | [_], _ => rfl), rfl⟩
end
end K32

set_option maxHeartbeats 0
namespace K32
open PySem PySem.Spec PyProof.Rows EL PV WV
open L2 hiding XE
/-! ### the head -/
def dd (x : Str) (st : Stmt) : He.DefD := ⟨(x, none), x, x, defArgs st, defBody st, defScope st, [], []⟩
def dm (c x q : Str) (st : Stmt) : He.DefD := ⟨(c, some x), x, q, defArgs st, defBody st, defScope st, [], []⟩
def fn : List He.DefD := [dd "is_whole" st_is_whole, dd "is_number" st_is_number, dd "as_tuples" st_as_tuples, dd "is_index" st_is_index, dd "found_ways" st_found_ways, dd "idle_order" st_idle_order, dd "is_better" st_is_better, dd "layers" st_layers, dd "best_of" st_best_of, dm "Web" "__init__" "Web.__init__" st_Web__init__, dd "is_step" st_is_step, dd "is_row" st_is_row, dd "is_ascending" st_is_ascending, dd "need_carried" st_need_carried, dd "length" st_length, dd "lengths" st_lengths, dd "walk_of" st_walk_of, dd "_law_pen" st__law_pen, dd "_law_draw" st__law_draw, dd "_law_pick" st__law_pick, dd "_law_is" st__law_is, dd "_law_web" st__law_web, dd "_law_met" st__law_met, dd "_law_lasting" st__law_lasting, dd "_law_farthest" st__law_farthest, dd "_law_best" st__law_best, dd "_law_walked" st__law_walked, dd "_law_heavy" st__law_heavy, dd "_law_made_web" st__law_made_web, dd "law" st_law]
def faG : List He.Fa := [.glo "is_whole", .glo "is_number", .glo "as_tuples", .glo "is_index", .glo "found_ways", .glo "idle_order", .glo "is_better", .glo "layers", .glo "best_of", .glo "is_step", .glo "is_row", .glo "is_ascending", .glo "need_carried", .glo "length", .glo "lengths", .glo "walk_of", .glo "_law_pen", .glo "_law_draw", .glo "_law_pick", .glo "_law_is", .glo "_law_web", .glo "_law_met", .glo "_law_lasting", .glo "_law_farthest", .glo "_law_best", .glo "_law_walked", .glo "_law_heavy", .glo "_law_made_web", .glo "law", .glo "Web", .cls "Web", .noat "Web" "starts", .noat "Web" "steps", .mkr "Web"]
def fa : List He.Fa := faG ++ bltL.map He.Fa.free
abbrev Rw : PySem.W.OpenRow := PySem.W.OpenLaw.row PySem.Challenge.rw_everylanding_k32_whole_lengths_of_walks
def ex (K : PySem.W.Frag) : Bool := true
abbrev hk : PySem.W.Hook := He.hookX 6 fa fn [] [] ex
def ob (s : PySem.W.SharedT) : He.AlX := He.obsX 6 fa fn [] [] ex (HandSHeadRun.getT s)
theorem ob_eq (s : PySem.W.SharedT) : ob s = hk.obs s.abs := He.obsX_eq (HandSHeadRun.getT_eq s)
theorem run (w : World) : HandSHeadRun.RunEq Rw (PySem.W.view Rw.prog [37]) hk ob 3000 ["LiftsError", "BadNumber", "BadRow", "is_whole", "is_number", "as_tuples", "is_index", "found_ways", "idle_order", "is_better", "layers", "best_of", "Web", "is_step", "is_row", "is_ascending", "need_carried", "length", "lengths", "walk_of", "_law_pen", "_law_draw", "_law_pick", "_law_is", "_law_web", "_law_met", "_law_lasting", "_law_farthest", "_law_best", "_law_walked", "_law_heavy", "_law_made_web"] w := by
  intro os
  kernel_rfl
theorem facts {P : Program} {w : World} {K : PySem.W.Frag} {h : Heap} {mg : Str → Option Value} {f : Addr} (X : K.In h) (G : h.Ns mainGlobals mg) (hfa : mg ("law" : Str) = some (.ref f)) (cx : He.SaysX fa fn [] [] ex w h K) :
    ∃ (C : Core) (fd : FuncData), C.K = K ∧ (∀ (s : Shared) (v : Value), BindsTo s fd ⟨[v], []⟩ [("script", v)]) ∧ ∀ base : Heap, K.In base → base.Ns mainGlobals mg → FnOk P w K mg base (L2.CX P w) 9 f fd ["script"] (spD C 1 none .pu fLaw) := by
  have c := cx.t.d
  let C : Core := ⟨K, fun x => He.ga K (Str.ofString x), fun a => a = He.ga K "Web" ∨ False⟩
  have Z : Gz mg C K := ⟨rfl, fun x hx => by
    have m : He.Fa.free x ∈ fa := List.mem_append_right _ (List.mem_map_of_mem hx)
    obtain ⟨i, hi⟩ := List.getElem?_of_mem m
    exact He.free_ok X G (c.fact i hi)⟩
  obtain ⟨fd_is_whole, F_is_whole⟩ := c.def_ 0 (d := dd "is_whole" st_is_whole) rfl
  have m_is_whole := He.glo_ok X G (c.fact 0 (f := .glo "is_whole") rfl)
  obtain ⟨fd_is_number, F_is_number⟩ := c.def_ 1 (d := dd "is_number" st_is_number) rfl
  have m_is_number := He.glo_ok X G (c.fact 1 (f := .glo "is_number") rfl)
  obtain ⟨fd_as_tuples, F_as_tuples⟩ := c.def_ 2 (d := dd "as_tuples" st_as_tuples) rfl
  have m_as_tuples := He.glo_ok X G (c.fact 2 (f := .glo "as_tuples") rfl)
  obtain ⟨fd_is_index, F_is_index⟩ := c.def_ 3 (d := dd "is_index" st_is_index) rfl
  have m_is_index := He.glo_ok X G (c.fact 3 (f := .glo "is_index") rfl)
  obtain ⟨fd_found_ways, F_found_ways⟩ := c.def_ 4 (d := dd "found_ways" st_found_ways) rfl
  have m_found_ways := He.glo_ok X G (c.fact 4 (f := .glo "found_ways") rfl)
  obtain ⟨fd_idle_order, F_idle_order⟩ := c.def_ 5 (d := dd "idle_order" st_idle_order) rfl
  have m_idle_order := He.glo_ok X G (c.fact 5 (f := .glo "idle_order") rfl)
  obtain ⟨fd_is_better, F_is_better⟩ := c.def_ 6 (d := dd "is_better" st_is_better) rfl
  have m_is_better := He.glo_ok X G (c.fact 6 (f := .glo "is_better") rfl)
  obtain ⟨fd_layers, F_layers⟩ := c.def_ 7 (d := dd "layers" st_layers) rfl
  have m_layers := He.glo_ok X G (c.fact 7 (f := .glo "layers") rfl)
  obtain ⟨fd_best_of, F_best_of⟩ := c.def_ 8 (d := dd "best_of" st_best_of) rfl
  have m_best_of := He.glo_ok X G (c.fact 8 (f := .glo "best_of") rfl)
  obtain ⟨fd_Web__init__, F_Web__init__⟩ := c.def_ 9 (d := dm "Web" "__init__" "Web.__init__" st_Web__init__) rfl
  obtain ⟨fd_is_step, F_is_step⟩ := c.def_ 10 (d := dd "is_step" st_is_step) rfl
  have m_is_step := He.glo_ok X G (c.fact 9 (f := .glo "is_step") rfl)
  obtain ⟨fd_is_row, F_is_row⟩ := c.def_ 11 (d := dd "is_row" st_is_row) rfl
  have m_is_row := He.glo_ok X G (c.fact 10 (f := .glo "is_row") rfl)
  obtain ⟨fd_is_ascending, F_is_ascending⟩ := c.def_ 12 (d := dd "is_ascending" st_is_ascending) rfl
  have m_is_ascending := He.glo_ok X G (c.fact 11 (f := .glo "is_ascending") rfl)
  obtain ⟨fd_need_carried, F_need_carried⟩ := c.def_ 13 (d := dd "need_carried" st_need_carried) rfl
  have m_need_carried := He.glo_ok X G (c.fact 12 (f := .glo "need_carried") rfl)
  obtain ⟨fd_length, F_length⟩ := c.def_ 14 (d := dd "length" st_length) rfl
  have m_length := He.glo_ok X G (c.fact 13 (f := .glo "length") rfl)
  obtain ⟨fd_lengths, F_lengths⟩ := c.def_ 15 (d := dd "lengths" st_lengths) rfl
  have m_lengths := He.glo_ok X G (c.fact 14 (f := .glo "lengths") rfl)
  obtain ⟨fd_walk_of, F_walk_of⟩ := c.def_ 16 (d := dd "walk_of" st_walk_of) rfl
  have m_walk_of := He.glo_ok X G (c.fact 15 (f := .glo "walk_of") rfl)
  obtain ⟨fd__law_pen, F__law_pen⟩ := c.def_ 17 (d := dd "_law_pen" st__law_pen) rfl
  have m__law_pen := He.glo_ok X G (c.fact 16 (f := .glo "_law_pen") rfl)
  obtain ⟨fd__law_draw, F__law_draw⟩ := c.def_ 18 (d := dd "_law_draw" st__law_draw) rfl
  have m__law_draw := He.glo_ok X G (c.fact 17 (f := .glo "_law_draw") rfl)
  obtain ⟨fd__law_pick, F__law_pick⟩ := c.def_ 19 (d := dd "_law_pick" st__law_pick) rfl
  have m__law_pick := He.glo_ok X G (c.fact 18 (f := .glo "_law_pick") rfl)
  obtain ⟨fd__law_is, F__law_is⟩ := c.def_ 20 (d := dd "_law_is" st__law_is) rfl
  have m__law_is := He.glo_ok X G (c.fact 19 (f := .glo "_law_is") rfl)
  obtain ⟨fd__law_web, F__law_web⟩ := c.def_ 21 (d := dd "_law_web" st__law_web) rfl
  have m__law_web := He.glo_ok X G (c.fact 20 (f := .glo "_law_web") rfl)
  obtain ⟨fd__law_met, F__law_met⟩ := c.def_ 22 (d := dd "_law_met" st__law_met) rfl
  have m__law_met := He.glo_ok X G (c.fact 21 (f := .glo "_law_met") rfl)
  obtain ⟨fd__law_lasting, F__law_lasting⟩ := c.def_ 23 (d := dd "_law_lasting" st__law_lasting) rfl
  have m__law_lasting := He.glo_ok X G (c.fact 22 (f := .glo "_law_lasting") rfl)
  obtain ⟨fd__law_farthest, F__law_farthest⟩ := c.def_ 24 (d := dd "_law_farthest" st__law_farthest) rfl
  have m__law_farthest := He.glo_ok X G (c.fact 23 (f := .glo "_law_farthest") rfl)
  obtain ⟨fd__law_best, F__law_best⟩ := c.def_ 25 (d := dd "_law_best" st__law_best) rfl
  have m__law_best := He.glo_ok X G (c.fact 24 (f := .glo "_law_best") rfl)
  obtain ⟨fd__law_walked, F__law_walked⟩ := c.def_ 26 (d := dd "_law_walked" st__law_walked) rfl
  have m__law_walked := He.glo_ok X G (c.fact 25 (f := .glo "_law_walked") rfl)
  obtain ⟨fd__law_heavy, F__law_heavy⟩ := c.def_ 27 (d := dd "_law_heavy" st__law_heavy) rfl
  have m__law_heavy := He.glo_ok X G (c.fact 26 (f := .glo "_law_heavy") rfl)
  obtain ⟨fd__law_made_web, F__law_made_web⟩ := c.def_ 28 (d := dd "_law_made_web" st__law_made_web) rfl
  have m__law_made_web := He.glo_ok X G (c.fact 27 (f := .glo "_law_made_web") rfl)
  obtain ⟨fd_law, F_law⟩ := c.def_ 29 (d := dd "law" st_law) rfl
  have e := hfa.symm.trans (He.glo_ok X G (c.fact 28 (f := .glo "law") rfl))
  cases e
  have C_Web : ClG mg C "Web" ["starts", "steps"] := ⟨He.cls_ok (c.fact 30 (f := .cls "Web") rfl), List.forall_mem_cons.mpr ⟨He.noat_ok (c.fact 31 (f := .noat "Web" "starts") rfl), List.forall_mem_cons.mpr ⟨He.noat_ok (c.fact 32 (f := .noat "Web" "steps") rfl), fun _ h => nomatch h⟩⟩, He.glo_ok X G (c.fact 29 (f := .glo "Web") rfl)⟩
  have hex := cx.more
  have b := FunD.bindsA (ps := ["script"]) F_law fun _ _ _ _ _ _ us hl => match us, hl with | [_], _ => rfl
  refine ⟨C, fd_law, rfl, fun s v => b s [v] rfl, fun base _ _ => ?_⟩
  have G__law_pen := ok__law_pen (P := P) (w := w) (base := base) (k := 0) Z F__law_pen m__law_pen 
  have G__law_draw := ok__law_draw (P := P) (w := w) (base := base) (k := 0) Z F__law_draw m__law_draw 
  have G__law_pick := ok__law_pick (P := P) (w := w) (base := base) (k := 1) Z F__law_pick m__law_pick (G__law_draw.mono (by omega))
  have G__law_web := ok__law_web (P := P) (w := w) (base := base) (k := 2) Z F__law_web m__law_web (G__law_draw.mono (by omega)) (G__law_pick.mono (by omega))
  have G_is_whole := ok_is_whole (P := P) (w := w) (base := base) (k := 0) Z F_is_whole m_is_whole 
  have G_is_number := ok_is_number (P := P) (w := w) (base := base) (k := 1) Z F_is_number m_is_number (G_is_whole.mono (by omega))
  have G_is_index := ok_is_index (P := P) (w := w) (base := base) (k := 1) Z F_is_index m_is_index (G_is_whole.mono (by omega))
  have G_is_step := ok_is_step (P := P) (w := w) (base := base) (k := 2) Z F_is_step m_is_step (G_is_number.mono (by omega)) (G_is_index.mono (by omega))
  have G_is_row := ok_is_row (P := P) (w := w) (base := base) (k := 3) Z F_is_row m_is_row (G_is_step.mono (by omega))
  have G_is_ascending := ok_is_ascending (P := P) (w := w) (base := base) (k := 2) Z F_is_ascending m_is_ascending (G_is_index.mono (by omega))
  have R0_as_tuples := (nv_as_tuples (P := P) (w := w) (base := base) (C := C) (k := 0) F_as_tuples m_as_tuples).mono (j := 1) (by omega)
  have R1_as_tuples := ok_as_tuples (P := P) (w := w) (base := base) (k := 1) Z F_as_tuples m_as_tuples (R0_as_tuples.mono (by omega))
  have R2_as_tuples := ok_as_tuples (P := P) (w := w) (base := base) (k := 2) Z F_as_tuples m_as_tuples (R1_as_tuples.mono (by omega))
  have R3_as_tuples := ok_as_tuples (P := P) (w := w) (base := base) (k := 3) Z F_as_tuples m_as_tuples (R2_as_tuples.mono (by omega))
  have R4_as_tuples := ok_as_tuples (P := P) (w := w) (base := base) (k := 4) Z F_as_tuples m_as_tuples (R3_as_tuples.mono (by omega))
  have G_as_tuples := R4_as_tuples
  have M_Web := mk_Web (P := P) (w := w) (base := base) (C := C) (k := 5) Z F_Web__init__ (He.mkr_ok (c.fact 33 (f := .mkr "Web") rfl)) (He.glo_ok X G (c.fact 29 (f := .glo "Web") rfl)) (Or.inl rfl) (G_is_row.mono (by omega)) (G_is_ascending.mono (by omega)) (G_as_tuples.mono (by omega)) C_Web
  have G__law_made_web := ok__law_made_web (P := P) (w := w) (base := base) (k := 7) Z F__law_made_web m__law_made_web (M_Web.mono (by omega))
  have G__law_met := ok__law_met (P := P) (w := w) (base := base) (k := 0) Z F__law_met m__law_met 
  have G__law_lasting := ok__law_lasting (P := P) (w := w) (base := base) (k := 0) Z F__law_lasting m__law_lasting 
  have G__law_best := ok__law_best (P := P) (w := w) (base := base) (k := 0) Z F__law_best m__law_best 
  have G__law_farthest := ok__law_farthest (P := P) (w := w) (base := base) (k := 1) Z F__law_farthest m__law_farthest (G__law_met.mono (by omega)) (G__law_lasting.mono (by omega)) (G__law_best.mono (by omega))
  have R0__law_is := (nv__law_is (P := P) (w := w) (base := base) (C := C) (k := 0) F__law_is m__law_is).mono (j := 1) (by omega)
  have R1__law_is := ok__law_is (P := P) (w := w) (base := base) (k := 1) Z F__law_is m__law_is (R0__law_is.mono (by omega))
  have R2__law_is := ok__law_is (P := P) (w := w) (base := base) (k := 2) Z F__law_is m__law_is (R1__law_is.mono (by omega))
  have G__law_is := R2__law_is
  have G_need_carried := ok_need_carried (P := P) (w := w) (base := base) (k := 2) Z F_need_carried m_need_carried (G_is_number.mono (by omega))
  have G_is_better := ok_is_better (P := P) (w := w) (base := base) (k := 0) Z F_is_better m_is_better 
  have G_best_of := ok_best_of (P := P) (w := w) (base := base) (k := 1) Z F_best_of m_best_of (G_is_better.mono (by omega)) C_Web
  have G_found_ways := ok_found_ways (P := P) (w := w) (base := base) (k := 0) Z F_found_ways m_found_ways C_Web
  have G_idle_order := ok_idle_order (P := P) (w := w) (base := base) (k := 0) Z F_idle_order m_idle_order C_Web
  have G_layers := ok_layers (P := P) (w := w) (base := base) (k := 1) Z F_layers m_layers (G_found_ways.mono (by omega)) (G_idle_order.mono (by omega)) (G_is_better.mono (by omega)) C_Web
  have G_length := ok_length (P := P) (w := w) (base := base) (k := 3) Z F_length m_length (G_need_carried.mono (by omega)) (G_best_of.mono (by omega)) (G_layers.mono (by omega))
  have G_lengths := ok_lengths (P := P) (w := w) (base := base) (k := 3) Z F_lengths m_lengths (G_need_carried.mono (by omega)) (G_layers.mono (by omega)) (G_best_of.mono (by omega))
  have G_walk_of := ok_walk_of (P := P) (w := w) (base := base) (k := 3) Z F_walk_of m_walk_of (G_need_carried.mono (by omega)) (G_layers.mono (by omega)) (G_best_of.mono (by omega)) C_Web
  have G__law_walked := ok__law_walked (P := P) (w := w) (base := base) (k := 0) Z F__law_walked m__law_walked 
  have G__law_heavy := ok__law_heavy (P := P) (w := w) (base := base) (k := 0) Z F__law_heavy m__law_heavy 
  exact okf_law (k := 8) Z F_law (G__law_pen.mono (by omega)) (G__law_web.mono (by omega)) (G__law_draw.mono (by omega)) (G__law_made_web.mono (by omega)) (G__law_farthest.mono (by omega)) (G__law_is.mono (by omega)) (G_length.mono (by omega)) (G_lengths.mono (by omega)) (G_walk_of.mono (by omega)) (G__law_walked.mono (by omega)) (G__law_heavy.mono (by omega)) (G__law_met.mono (by omega)) (M_Web.mono (by omega))
end K32
open PySem PySem.W PySem.Calls PyProof.Rows
theorem PySem.Challenge.cw_everylanding_k32_whole_lengths_of_walks_holds : PySem.Challenge.rw_everylanding_k32_whole_lengths_of_walks.Holds := by
  w_on; o_law
  refine HandSHeadRun.head_any (r := OpenLaw.row PySem.Challenge.rw_everylanding_k32_whole_lengths_of_walks) (q := view (OpenLaw.row PySem.Challenge.rw_everylanding_k32_whole_lengths_of_walks).prog [37]) (H := K32.hk) (ob := K32.ob) (M := 3000) (loose := ["LiftsError", "BadNumber", "BadRow", "is_whole", "is_number", "as_tuples", "is_index", "found_ways", "idle_order", "is_better", "layers", "best_of", "Web", "is_step", "is_row", "is_ascending", "need_carried", "length", "lengths", "walk_of", "_law_pen", "_law_draw", "_law_pick", "_law_is", "_law_web", "_law_met", "_law_lasting", "_law_farthest", "_law_best", "_law_walked", "_law_heavy", "_law_made_web"]) (d := HandSHeadRun.topDef (OpenLaw.row PySem.Challenge.rw_everylanding_k32_whole_lengths_of_walks).prog 37) (kwd := []) K32.ob_eq
    (by kernel_rfl) (fun s => by kernel_rfl) K32.run (by kernel_rfl) (by kernel_rfl) (by kernel_rfl) (by rfl) (by first | assumption | decide +kernel) (by decide +kernel) ⟨rfl, rfl, rfl, rfl, rfl, by decide +kernel⟩ ?hw ?hc
  case hw => w_witness2
  case hc =>
    refine EL.walk_w (lw := PySem.Challenge.rw_everylanding_k32_whole_lengths_of_walks) (top := 63) (lev := 9) (x := "script") (fun wd => L2.CX (PySem.Challenge.rw_everylanding_k32_whole_lengths_of_walks).prog wd) rfl (by decide) (by kernel_rfl) ⟨rfl, by decide, by decide⟩ ?F (fun _ _ _ _ _ z => EL.cx_no z)
    intro wd mg at_ hp Y G hmg0
    obtain ⟨Kf, kx, c⟩ := Y
    have hmg : mg ("law" : PySem.Str) = some (.ref at_) := by
      have e : (HandSHeadRun.topDef (OpenLaw.row PySem.Challenge.rw_everylanding_k32_whole_lengths_of_walks).prog 37).name = ("law" : PySem.Str) := by kernel_rfl
      rw [← e]
      exact hmg0
    obtain ⟨C, fd, hK, hb, hF⟩ := K32.facts (P := (PySem.Challenge.rw_everylanding_k32_whole_lengths_of_walks).prog) (w := wd) kx G hmg c
    exact ⟨Kf, fd, EL.spD C 1 none .pu K32.fLaw, kx, hb, fun Ha a zs hl hO hS => EL.script_ok hl hO (by rw [hK]; exact hS) (K32.law_ok zs), hF⟩
