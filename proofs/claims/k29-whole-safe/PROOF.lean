import PyProof.Rows.All
import Wide.All
import OpenK.AllK
import Wide.FinOn
import HandS.ForMost
import HandS.ForExc
import KE.GoesMore
import KE.GoesZip
import KE.GoesEnum
import KE.KDictZip
import HandS.TupAny
import HandS.Deep
import HandS.IsInst
import HandS.Codes
import HandS.Conv
import HandS.Star
import PySem.Challenge.RW_keysbelow_k29_whole_safe_for_all_wear
section
set_option Elab.async false
set_option linter.all false
set_option maxRecDepth 100000
/-! Y1: data as trees, results, the relation between trees and the tracked heap. -/
namespace Y
open PySem L2

/-- Python data as trees; the Bool of a list tells whether it is owned (may still be changed) -/
inductive D where
  | non | bl (b : Bool) | int (i : Int) | str (s : Str)
  | tup (xs : List D)
  | lst (o : Bool) (xs : List D)
  | dct (o : Bool) (kvs : List (D × D))
  | set (o : Bool) (xs : List D)
  | exn (c : Nat) (xs : List D)
  deriving Inhabited

/-- no longer owned -/
def frz : D → D
  | .lst _ xs => .lst false (frzL xs)
  | .dct _ kvs => .dct false (frzP kvs)
  | .set _ xs => .set false xs
  | d => d
where
  frzL : List D → List D
    | [] => []
    | x :: xs => frz x :: frzL xs
  frzP : List (D × D) → List (D × D)
    | [] => []
    | (k, v) :: r => (k, frz v) :: frzP r
/-- its parts no longer owned -/
def chill : D → D
  | .lst o xs => .lst o (frz.frzL xs)
  | .dct o kvs => .dct o (frz.frzP kvs)
  | d => d

theorem frzL_map (xs : List D) : frz.frzL xs = xs.map frz := by
  induction xs with
  | nil => rfl
  | cons x xs ih => simp [frz.frzL, ih]
theorem frzP_map (xs : List (D × D)) : frz.frzP xs = xs.map fun p => (p.1, frz p.2) := by
  induction xs with
  | nil => rfl
  | cons x xs ih => simp [frz.frzP, ih]

/-- the slots of a frame -/
abbrev Env := List (Option D)
/-- what is fixed while a part runs: slots that may not be stored, slots that may not be changed -/
structure Ctx where
  prot : List Nat := []
  lock : List Nat := []
inductive Rs (α : Type) where
  | ok (a : α) (ρ : Env)
  | exc (e : D) (ρ : Env)
  | bad
abbrev M (α : Type) := Ctx → Env → Rs α

/-! ### the tracked heap and trees -/
mutual
/-- v stands for the tree d; F: the addresses of its owned parts; Av: all owned addresses -/
inductive Rep (K : PySem.W.Frag) (Av : Addr → Prop) (H : Hp) : List Addr → V → D → Prop
  | non : Rep K Av H [] .non .non
  | bl (b : Bool) : Rep K Av H [] (.bl b) (.bl b)
  | int (i : Int) : Rep K Av H [] (.int i) (.int i)
  | str (s : Str) : Rep K Av H [] (.str s) (.str s)
  | tup {a : Addr} {vs : List V} {ds : List D} : SqT K H a vs → RepL K Av H [] vs ds → Rep K Av H [] (.ref a) (.tup ds)
  | lstF {a : Addr} {vs : List V} {ds : List D} : Rd H a (.lst vs) → ¬ Av a → RepL K Av H [] vs ds → Rep K Av H [] (.ref a) (.lst false ds)
  | lstK {a : Addr} {vs : List V} {ds : List D} : SqL K (fun _ => none) a vs → RepL K Av H [] vs ds → Rep K Av H [] (.ref a) (.lst false ds)
  | lstO {a : Addr} {vs : List V} {ds : List D} {F : List Addr} : H a = some (.lst vs) → Av a → RepL K Av H F vs ds → a ∉ F → F.Nodup → Rep K Av H (a :: F) (.ref a) (.lst true ds)
inductive RepL (K : PySem.W.Frag) (Av : Addr → Prop) (H : Hp) : List Addr → List V → List D → Prop
  | nil : RepL K Av H [] [] []
  | cons {v : V} {d : D} {vs : List V} {ds : List D} {F G : List Addr} : Rep K Av H F v d → RepL K Av H G vs ds → RepL K Av H (F ++ G) (v :: vs) (d :: ds)
end

/-- what is owned is tracked and may be changed -/
def AvOk (Av : Addr → Prop) (H : Hp) : Prop := ∀ a, Av a → ∃ o, H a = some o ∧ Mut (some o)

section
variable {K : PySem.W.Frag} {Av Av' : Addr → Prop} {H H' : Hp} {F G : List Addr} {v : V} {d : D} {vs : List V} {ds : List D}
mutual
theorem Rep.av : ∀ {F : List Addr} {v : V} {d : D}, Rep K Av H F v d → ∀ a ∈ F, Av a
  | _, _, _, .non, _, h => by simp at h
  | _, _, _, .bl _, _, h => by simp at h
  | _, _, _, .int _, _, h => by simp at h
  | _, _, _, .str _, _, h => by simp at h
  | _, _, _, .tup _ _, _, h => by simp at h
  | _, _, _, .lstF _ _ _, _, h => by simp at h
  | _, _, _, .lstK _ _, _, h => by simp at h
  | _, _, _, .lstO h1 h2 h3 _ _, a, h => by
    rcases List.mem_cons.mp h with e | h
    · rw [e]; exact h2
    · exact RepL.av h3 a h
theorem RepL.av : ∀ {F : List Addr} {vs : List V} {ds : List D}, RepL K Av H F vs ds → ∀ a ∈ F, Av a
  | _, _, _, .nil, _, h => by simp at h
  | _, _, _, .cons h1 h2, a, h => by
    rcases List.mem_append.mp h with h | h
    · exact Rep.av h1 a h
    · exact RepL.av h2 a h
end

/-- a way from one state of the ghosts to another that keeps what is not told -/
structure Keep (Av Av' : Addr → Prop) (H H' : Hp) (T : Addr → Prop) : Prop where
  keep : ∀ a o, H a = some o → ¬ T a → H' a = some o
  av : ∀ a, Av' a → Av a ∨ H a = none
  own : ∀ a, Av a → ¬ T a → Av' a

theorem sql_any {a : Addr} (h : SqL K (fun _ => none) a vs) : SqL K H a vs := by
  rcases h with h | h
  · rcases h with h | ⟨o, h⟩ <;> cases h
  · exact .inr h
theorem rd_some {a : Addr} {u : HO} (h : Rd H a u) : ∃ o, H a = some o := by
  rcases h with h | ⟨o, h⟩ <;> exact ⟨_, h⟩
theorem Rd.keep {T : Addr → Prop} (k : Keep Av Av' H H' T) {a : Addr} {u : HO} (h : Rd H a u) (n : ¬ T a) : Rd H' a u := by
  rcases h with h | ⟨o, h⟩
  · exact .inl (k.keep a _ h n)
  · exact .inr ⟨o, k.keep a _ h n⟩
theorem SqT.keepT {T : Addr → Prop} (ok : AvOk Av H) (hT : ∀ a, T a → Av a) (k : Keep Av Av' H H' T) {a : Addr} (h : SqT K H a vs) : SqT K H' a vs := by
  rcases h with h | h
  · refine .inl (Rd.keep k h fun t => ?_)
    obtain ⟨o, e, m⟩ := ok a (hT a t)
    rcases h with h | ⟨o', h⟩
    · rw [h] at e; cases e; exact m
    · rw [h] at e; cases e; exact m
  · exact .inr h

mutual
theorem Rep.keep {T : Addr → Prop} (ok : AvOk Av H) (hT : ∀ a, T a → Av a) (k : Keep Av Av' H H' T) : ∀ {F : List Addr} {v : V} {d : D}, Rep K Av H F v d → (∀ a ∈ F, ¬ T a) → Rep K Av' H' F v d
  | _, _, _, .non, _ => .non
  | _, _, _, .bl b, _ => .bl b
  | _, _, _, .int i, _ => .int i
  | _, _, _, .str s, _ => .str s
  | _, _, _, .tup h1 h2, n => .tup (SqT.keepT ok hT k h1) (RepL.keep ok hT k h2 n)
  | _, _, _, .lstF h1 h2 h3, n => by
    refine .lstF (Rd.keep k h1 fun t => h2 (hT _ t)) (fun z => ?_) (RepL.keep ok hT k h3 n)
    rcases k.av _ z with z | z
    · exact h2 z
    · obtain ⟨o, e⟩ := rd_some h1
      rw [e] at z; cases z
  | _, _, _, .lstK h1 h3, n => .lstK h1 (RepL.keep ok hT k h3 n)
  | _, _, _, .lstO h1 h2 h3 h4 h5, n => .lstO (k.keep _ _ h1 (n _ List.mem_cons_self)) (k.own _ h2 (n _ List.mem_cons_self)) (RepL.keep ok hT k h3 fun a ha => n a (List.mem_cons_of_mem _ ha)) h4 h5
theorem RepL.keep {T : Addr → Prop} (ok : AvOk Av H) (hT : ∀ a, T a → Av a) (k : Keep Av Av' H H' T) : ∀ {F : List Addr} {vs : List V} {ds : List D}, RepL K Av H F vs ds → (∀ a ∈ F, ¬ T a) → RepL K Av' H' F vs ds
  | _, _, _, .nil, _ => .nil
  | _, _, _, .cons h1 h2, n => .cons (Rep.keep ok hT k h1 fun a ha => n a (List.mem_append_left _ ha)) (RepL.keep ok hT k h2 fun a ha => n a (List.mem_append_right _ ha))
end

theorem RepL.length : ∀ {F : List Addr} {vs : List V} {ds : List D}, RepL K Av H F vs ds → vs.length = ds.length
  | _, _, _, .nil => rfl
  | _, _, _, .cons _ h => by simp [RepL.length h]

/-! freezing: what is owned by the tree is owned no longer -/
mutual
theorem Rep.frz {F : List Addr} {v : V} {d : D} (h : Rep K Av H F v d) (hs : ∀ a, Av' a → Av a) (hn : ∀ a ∈ F, ¬ Av' a) : Rep K Av' H [] v (Y.frz d) := by
  cases h with
  | non => exact .non
  | bl b => exact .bl b
  | int i => exact .int i
  | str s => exact .str s
  | tup h1 h2 => exact .tup h1 (RepL.less h2 hs)
  | lstF h1 h2 h3 => exact .lstF h1 (fun z => h2 (hs _ z)) (RepL.frz h3 hs fun a ha => nomatch ha)
  | lstK h1 h3 => exact .lstK h1 (RepL.frz h3 hs fun a ha => nomatch ha)
  | lstO h1 h2 h3 h4 h5 => exact .lstF (.inl h1) (hn _ List.mem_cons_self) (RepL.frz h3 hs fun a ha => hn a (List.mem_cons_of_mem _ ha))
theorem RepL.frz {F : List Addr} {vs : List V} {ds : List D} (h : RepL K Av H F vs ds) (hs : ∀ a, Av' a → Av a) (hn : ∀ a ∈ F, ¬ Av' a) : RepL K Av' H [] vs (frz.frzL ds) := by
  cases h with
  | nil => exact .nil
  | cons h1 h2 => exact .cons (F := []) (G := []) (Rep.frz h1 hs fun a ha => hn a (List.mem_append_left _ ha)) (RepL.frz h2 hs fun a ha => hn a (List.mem_append_right _ ha))
theorem RepL.less {vs : List V} {ds : List D} (h : RepL K Av H [] vs ds) (hs : ∀ a, Av' a → Av a) : RepL K Av' H [] vs ds := by
  generalize e : ([] : List Addr) = F at h
  cases h with
  | nil => exact .nil
  | @cons _ _ _ _ F1 G1 h1 h2 =>
    obtain ⟨e1, e2⟩ := List.append_eq_nil_iff.mp e.symm
    subst e1; subst e2
    exact .cons (F := []) (G := []) (Rep.less h1 hs) (RepL.less h2 hs)
theorem Rep.less {v : V} {d : D} (h : Rep K Av H [] v d) (hs : ∀ a, Av' a → Av a) : Rep K Av' H [] v d := by
  cases h with
  | non => exact .non
  | bl b => exact .bl b
  | int i => exact .int i
  | str s => exact .str s
  | tup h1 h2 => exact .tup h1 (RepL.less h2 hs)
  | lstF h1 h2 h3 => exact .lstF h1 (fun z => h2 (hs _ z)) (RepL.less h3 hs)
  | lstK h1 h3 => exact .lstK h1 (RepL.less h3 hs)
end
end
end Y

end
section
set_option Elab.async false
set_option linter.all false
set_option maxRecDepth 100000
/-! Y2: environments, steps, readings. -/
namespace Y
open PySem L2

/-- the slots stand for the environment; φ: what each slot owns -/
structure EnvR (K : PySem.W.Frag) (Av : Addr → Prop) (H : Hp) (σ : St) (ρ : Env) (φ : Nat → List Addr) : Prop where
  len : σ.length = ρ.length
  rep : ∀ i d, ρ[i]? = some (some d) → ∃ v, σ[i]? = some (some v) ∧ Rep K Av H (φ i) v d
  emp : ∀ i, (∀ d, ρ[i]? ≠ some (some d)) → φ i = []
  dis : ∀ i j a, a ∈ φ i → a ∈ φ j → i = j
  ok : AvOk Av H

/-- from one state to a later one: lock tells the slots whose things stay as they are -/
structure Step (lock : List Nat) (Av Av' : Addr → Prop) (H H' : Hp) (φ φ' : Nat → List Addr) : Prop where
  keep : ∀ a o, H a = some o → (∀ i, i ∉ lock → a ∉ φ i) → H' a = some o
  there : ∀ a, H a ≠ none → H' a ≠ none
  av : ∀ a, Av' a → Av a ∨ H a = none
  own : ∀ a, Av a → (∀ i, a ∉ φ i) → Av' a
  org : ∀ i a, a ∈ φ' i → a ∈ φ i ∨ (i ∉ lock ∧ ((∃ j, j ∉ lock ∧ a ∈ φ j) ∨ H a = none))
/-- where what a result owns comes from -/
def OrgG (lock : List Nat) (H : Hp) (φ : Nat → List Addr) (G : List Addr) : Prop := ∀ a ∈ G, (∃ j, j ∉ lock ∧ a ∈ φ j) ∨ H a = none
/-- a result owns nothing that a slot owns -/
def Apart (G : List Addr) (φ : Nat → List Addr) : Prop := ∀ a ∈ G, ∀ i, a ∉ φ i

section
variable {K : PySem.W.Frag} {Av Av1 Av2 Av' : Addr → Prop} {H H1 H2 H' : Hp} {φ φ1 φ2 φ' : Nat → List Addr} {lock : List Nat} {σ : St} {ρ : Env} {G : List Addr} {v : V} {d : D}

theorem EnvR.own (e : EnvR K Av H σ ρ φ) {i : Nat} {a : Addr} (h : a ∈ φ i) : Av a := by
  by_cases q : ∃ d, ρ[i]? = some (some d)
  · obtain ⟨d, q⟩ := q
    obtain ⟨v, _, r⟩ := e.rep i d q
    exact r.av a h
  · have := e.emp i (fun d hd => q ⟨d, hd⟩)
    rw [this] at h; cases h
theorem EnvR.there (e : EnvR K Av H σ ρ φ) {i : Nat} {a : Addr} (h : a ∈ φ i) : H a ≠ none := by
  obtain ⟨o, q, _⟩ := e.ok a (e.own h)
  rw [q]; exact fun z => nomatch z
theorem Step.refl : Step lock Av Av H H φ φ := ⟨fun _ _ h _ => h, fun _ h => h, fun _ h => .inl h, fun _ h _ => h, fun _ _ h => .inl h⟩
theorem Step.trans (a : Step lock Av Av1 H H1 φ φ1) (b : Step lock Av1 Av2 H1 H2 φ1 φ2) (ok : AvOk Av H) : Step lock Av Av2 H H2 φ φ2 where
  keep := fun x o h n => b.keep x o (a.keep x o h n) fun i hi hx => by
    rcases a.org i x hx with q | ⟨_, ⟨j, hj, q⟩ | q⟩
    · exact n i hi q
    · exact n j hj q
    · rw [h] at q; cases q
  there := fun x h => b.there x (a.there x h)
  av := fun x h => by
    rcases b.av x h with q | q
    · exact a.av x q
    · by_cases z : H x = none
      · exact .inr z
      · exact absurd q (a.there x z)
  own := fun x h n => b.own x (a.own x h n) fun i hx => by
    rcases a.org i x hx with q | ⟨_, ⟨j, hj, q⟩ | q⟩
    · exact n i q
    · exact n j q
    · obtain ⟨o, e, _⟩ := ok x h
      rw [e] at q; cases q
  org := fun i x hx => by
    rcases b.org i x hx with q | ⟨hi, ⟨j, hj, q⟩ | q⟩
    · exact a.org i x q
    · rcases a.org j x q with q | ⟨_, ⟨k, hk, q⟩ | q⟩
      · exact .inr ⟨hi, .inl ⟨j, hj, q⟩⟩
      · exact .inr ⟨hi, .inl ⟨k, hk, q⟩⟩
      · exact .inr ⟨hi, .inr q⟩
    · by_cases z : H x = none
      · exact .inr ⟨hi, .inr z⟩
      · exact absurd q (a.there x z)
theorem OrgG.step (a : Step lock Av Av1 H H1 φ φ1) (h : OrgG lock H1 φ1 G) : OrgG lock H φ G := fun x hx => by
  rcases h x hx with ⟨j, hj, q⟩ | q
  · rcases a.org j x q with q | ⟨_, ⟨k, hk, q⟩ | q⟩
    · exact .inl ⟨j, hj, q⟩
    · exact .inl ⟨k, hk, q⟩
    · exact .inr q
  · by_cases z : H x = none
    · exact .inr z
    · exact absurd q (a.there x z)
theorem Step.keeps (a : Step lock Av Av1 H H1 φ φ1) : Keep Av Av1 H H1 fun x => ∃ i, x ∈ φ i :=
  ⟨fun x o h n => a.keep x o h fun i _ hx => n ⟨i, hx⟩, a.av, fun x h n => a.own x h fun i hx => n ⟨i, hx⟩⟩
/-- what is held beside the slots stays -/
theorem Rep.step (a : Step lock Av Av1 H H1 φ φ1) (e : EnvR K Av H σ ρ φ) (r : Rep K Av H G v d) (ap : Apart G φ) : Rep K Av1 H1 G v d :=
  r.keep e.ok (fun x ⟨i, h⟩ => e.own h) a.keeps fun x hx ⟨i, h⟩ => ap x hx i h
theorem RepL.step {vs : List V} {ds : List D} (a : Step lock Av Av1 H H1 φ φ1) (e : EnvR K Av H σ ρ φ) (r : RepL K Av H G vs ds) (ap : Apart G φ) : RepL K Av1 H1 G vs ds :=
  r.keep e.ok (fun x ⟨i, h⟩ => e.own h) a.keeps fun x hx ⟨i, h⟩ => ap x hx i h
/-- .. and stays apart -/
theorem Apart.step (a : Step lock Av Av1 H H1 φ φ1) (ap : Apart G φ) (ht : ∀ x ∈ G, H x ≠ none) : Apart G φ1 := fun x hx i h => by
  rcases a.org i x h with q | ⟨_, ⟨j, _, q⟩ | q⟩
  · exact ap x hx i q
  · exact ap x hx j q
  · exact ht x hx q
theorem Rep.there (ok : AvOk Av H) (r : Rep K Av H G v d) : ∀ x ∈ G, H x ≠ none := fun x hx => by
  obtain ⟨o, q, _⟩ := ok x (r.av x hx)
  rw [q]; exact fun z => nomatch z
theorem RepL.there {vs : List V} {ds : List D} (ok : AvOk Av H) (r : RepL K Av H G vs ds) : ∀ x ∈ G, H x ≠ none := fun x hx => by
  obtain ⟨o, q, _⟩ := ok x (r.av x hx)
  rw [q]; exact fun z => nomatch z
end

/-- what the readings hang on: the written part, what is wanted of an exception, how one stands for a tree -/
structure Gd where
  K : PySem.W.Frag
  W : WX
  xr : (Addr → Prop) → Hp → D → Value → Option Addr → Prop

/-- how a statement ends -/
inductive Fl where
  | nx | ret (d : D) | brk | cont

/-- the wish of an exception e -/
def RX (g : Gd) (c : Ctx) (Av : Addr → Prop) (H : Hp) (φ : Nat → List Addr) (σ : St) (e : D) (ρ' : Env) : Prop :=
  ∀ cls x σ' H' Av' φ', EnvR g.K Av' H' σ' ρ' φ' → g.xr Av' H' e cls x → Step c.lock Av Av' H H' φ φ' → (∀ i, i ∈ c.prot ∨ i ∈ c.lock → σ'[i]? = σ[i]?) → g.W cls x σ' H'
/-- an expression's reading by its meaning -/
def RE (g : Gd) (c : Ctx) (m : M D) : TE := fun σ H Q => ∃ Av ρ φ, EnvR g.K Av H σ ρ φ ∧
  match m c ρ with
  | .ok d ρ' => ∀ v H' Av' φ' G, EnvR g.K Av' H' σ ρ' φ' → Rep g.K Av' H' G v d → Apart G φ' → Step c.lock Av Av' H H' φ φ' → OrgG c.lock H φ G → Q v H'
  | .exc e ρ' => RX g c Av H φ σ e ρ'
  | .bad => False
/-- a test's -/
def RT (g : Gd) (c : Ctx) (m : M Bool) : TT := fun σ H Q => ∃ Av ρ φ, EnvR g.K Av H σ ρ φ ∧
  match m c ρ with
  | .ok b ρ' => ∀ H' Av' φ', EnvR g.K Av' H' σ ρ' φ' → Step c.lock Av Av' H H' φ φ' → Q b H'
  | .exc e ρ' => RX g c Av H φ σ e ρ'
  | .bad => False
/-- a statement's -/
def RS (g : Gd) (c : Ctx) (m : M Fl) : TS := fun Dn σ H => ∃ Av ρ φ, EnvR g.K Av H σ ρ φ ∧
  match m c ρ with
  | .ok .nx ρ' => ∀ σ' H' Av' φ', EnvR g.K Av' H' σ' ρ' φ' → Step c.lock Av Av' H H' φ φ' → (∀ i, i ∈ c.prot ∨ i ∈ c.lock → σ'[i]? = σ[i]?) → Dn.nx σ' H'
  | .ok .brk ρ' => ∀ σ' H' Av' φ', EnvR g.K Av' H' σ' ρ' φ' → Step c.lock Av Av' H H' φ φ' → (∀ i, i ∈ c.prot ∨ i ∈ c.lock → σ'[i]? = σ[i]?) → Dn.bk σ' H'
  | .ok .cont ρ' => ∀ σ' H' Av' φ', EnvR g.K Av' H' σ' ρ' φ' → Step c.lock Av Av' H H' φ φ' → (∀ i, i ∈ c.prot ∨ i ∈ c.lock → σ'[i]? = σ[i]?) → Dn.ct σ' H'
  | .ok (.ret d) ρ' => ∀ v σ' H' Av' φ' G, EnvR g.K Av' H' σ' ρ' φ' → Rep g.K Av' H' G v d → Apart G φ' → Step c.lock Av Av' H H' φ φ' → OrgG c.lock H φ G →
      (∀ i, i ∈ c.prot ∨ i ∈ c.lock → σ'[i]? = σ[i]?) → Dn.rt v H'
  | .exc e ρ' => RX g c Av H φ σ e ρ'
  | .bad => False

/-! ### meanings put together -/
def bnd {α β : Type} (m : M α) (f : α → M β) : M β := fun c ρ => match m c ρ with
  | .ok a ρ' => f a c ρ'
  | .exc e ρ' => .exc e ρ'
  | .bad => .bad
def pur {α : Type} (a : α) : M α := fun _ ρ => .ok a ρ
def bad {α : Type} : M α := fun _ _ => .bad
def ofO {α : Type} (o : Option α) : M α := fun _ ρ => match o with
  | some a => .ok a ρ
  | none => .bad

theorem PE.weak {X : Cx} {e : Expr} {t t' : TE} (h : PE X e t) (w : ∀ σ H Q, t' σ H Q → t σ H Q) : PE X e t' := ⟨fun pins s σ H Q I q => h.run pins s σ H Q I (w σ H Q q)⟩
theorem PT.weak {X : Cx} {e : Expr} {t t' : TT} (h : PT X e t) (w : ∀ σ H Q, t' σ H Q → t σ H Q) : PT X e t' := ⟨fun pins s σ H Q I q => h.run pins s σ H Q I (w σ H Q q)⟩
theorem PW.weak {X : Cx} {e : Expr} {t t' : TT} (h : PW X e t) (w : ∀ σ H Q, t' σ H Q → t σ H Q) : PW X e t' := ⟨fun wh pins s σ H Q I q => h.run wh pins s σ H Q I (w σ H Q q)⟩
theorem PS.weak {X : Cx} {e : Stmt} {t t' : TS} (h : PS X e t) (w : ∀ Dn σ H, t' Dn σ H → t Dn σ H) : PS X e t' := ⟨fun pins s σ H Q I q => h.run pins s σ H Q I (w Q σ H q)⟩
theorem PSs.weak {X : Cx} {e : List Stmt} {t t' : TS} (h : PSs X e t) (w : ∀ Dn σ H, t' Dn σ H → t Dn σ H) : PSs X e t' := ⟨fun pins s σ H Q I q => h.run pins s σ H Q I (w Q σ H q)⟩
theorem PA.weak {X : Cx} {e : List Expr} {t t' : TA} (h : PA X e t) (w : ∀ σ H Q, t' σ H Q → t σ H Q) : PA X e t' := ⟨fun pos pins s σ H Q I q => h.run pos pins s σ H Q I (w σ H Q q)⟩

/-! ### slots -/
/-- read a name as a value: what it holds is owned no longer -/
def eVar (i : Nat) : M D := fun _ ρ => match ρ[i]? with
  | some (some d) => .ok (frz d) (ρ.set i (some (frz d)))
  | _ => .bad
/-- look at a name for an operation: its parts are owned no longer -/
def oVar (i : Nat) : M D := fun _ ρ => match ρ[i]? with
  | some (some d) => .ok (chill d) (ρ.set i (some (chill d)))
  | _ => .bad
/-- look at a name, nothing changes -/
def rVar (i : Nat) : M D := fun _ ρ => match ρ[i]? with
  | some (some d) => .ok d ρ
  | _ => .bad

section
variable {K : PySem.W.Frag} {Av Av1 Av2 Av' : Addr → Prop} {H H1 H2 H' : Hp} {φ φ1 φ2 φ' : Nat → List Addr} {lock : List Nat} {σ : St} {ρ : Env} {G : List Addr} {v : V} {d : D}

theorem get_lt {α : Type} {l : List α} {i : Nat} {x : α} (h : l[i]? = some x) : i < l.length := (List.getElem?_eq_some_iff.mp h).1

/-- a slot's tree is told otherwise over the same heap, owning less -/
theorem EnvR.turn (e : EnvR K Av H σ ρ φ) {i : Nat} {d d' : D} {v : V} {F : List Addr} {Av' : Addr → Prop} (hi : ρ[i]? = some (some d)) (hv : σ[i]? = some (some v))
    (hF : ∀ a ∈ F, a ∈ φ i) (hA : ∀ a, Av' a ↔ Av a ∧ (a ∈ φ i → a ∈ F)) (r : Rep K Av' H F v d') :
    EnvR K Av' H σ (ρ.set i (some d')) (fun j => if j = i then F else φ j) ∧ Step lock Av Av' H H φ (fun j => if j = i then F else φ j) := by
  have keep : Keep Av Av' H H (fun a => a ∈ φ i) := ⟨fun _ _ h _ => h, fun a h => .inl ((hA a).mp h).1, fun a h n => (hA a).mpr ⟨h, fun z => absurd z n⟩⟩
  have hlt := get_lt hi
  refine ⟨⟨by rw [List.length_set]; exact e.len, fun j dj hj => ?_, fun j hj => ?_, fun j k a h1 h2 => ?_, fun a h => e.ok a ((hA a).mp h).1⟩, fun _ _ h _ => h, fun _ h => h, fun a h => .inl ((hA a).mp h).1, fun a h n => (hA a).mpr ⟨h, fun z => absurd z (n i)⟩, fun j a h => ?_⟩
  · by_cases hji : j = i
    · subst hji
      rw [List.getElem?_set_self hlt] at hj
      cases hj
      exact ⟨v, hv, by simpa using r⟩
    · rw [List.getElem?_set_ne (Ne.symm hji)] at hj
      obtain ⟨w, hw, rw'⟩ := e.rep j dj hj
      refine ⟨w, hw, ?_⟩
      rw [if_neg hji]
      exact rw'.keep e.ok (fun a h => e.own h) keep fun a ha h => hji (e.dis j i a ha h)
  · by_cases hji : j = i
    · subst hji
      exact absurd (List.getElem?_set_self hlt) (hj d')
    · rw [List.getElem?_set_ne (Ne.symm hji)] at hj
      show (if j = i then F else φ j) = []
      rw [if_neg hji]
      exact e.emp j hj
  · have m : ∀ j, a ∈ (if j = i then F else φ j) → a ∈ φ j := fun j h => by
      by_cases q : j = i
      · subst q; rw [if_pos rfl] at h; exact hF a h
      · rw [if_neg q] at h; exact h
    exact e.dis j k a (m j h1) (m k h2)
  · have h : a ∈ (if j = i then F else φ j) := h
    by_cases q : j = i
    · subst q; rw [if_pos rfl] at h; exact .inl (hF a h)
    · rw [if_neg q] at h; exact .inl h

theorem EnvR.freeze (e : EnvR K Av H σ ρ φ) {i : Nat} {d : D} (hi : ρ[i]? = some (some d)) :
    ∃ v Av' φ', σ[i]? = some (some v) ∧ EnvR K Av' H σ (ρ.set i (some (frz d))) φ' ∧ Step lock Av Av' H H φ φ' ∧ Rep K Av' H [] v (frz d) ∧ φ' i = [] := by
  obtain ⟨v, hv, r⟩ := e.rep i d hi
  have r' : Rep K (fun a => Av a ∧ a ∉ φ i) H [] v (frz d) := r.frz (fun a h => h.1) fun a ha h => h.2 ha
  obtain ⟨h1, h2⟩ := e.turn (lock := lock) (F := []) (Av' := fun a => Av a ∧ a ∉ φ i) hi hv (fun a h => nomatch h) (fun a => by simp) r'
  exact ⟨v, _, _, hv, h1, h2, r', by simp⟩
end
end Y

end
section
set_option Elab.async false
set_option linter.all false
set_option maxRecDepth 100000
set_option autoImplicit false
/-! Y3: what operations on values want; growing. -/
namespace Y
open PySem L2

/-- new objects alone: G is what the result owns -/
structure Grow (Av Av' : Addr → Prop) (H H' : Hp) (G : List Addr) : Prop where
  keep : ∀ a o, H a = some o → H' a = some o
  av : ∀ a, Av' a ↔ Av a ∨ a ∈ G
  fresh : ∀ a ∈ G, H a = none
  ok : AvOk Av' H'

/-- a list of trees, looked at -/
inductive RepC (K : PySem.W.Frag) (Av : Addr → Prop) (H : Hp) : V → D → Prop
  | non : RepC K Av H .non .non
  | bl (b : Bool) : RepC K Av H (.bl b) (.bl b)
  | int (i : Int) : RepC K Av H (.int i) (.int i)
  | str (s : Str) : RepC K Av H (.str s) (.str s)
  | tup {a : Addr} {vs : List V} {ds : List D} : SqT K H a vs → RepL K Av H [] vs ds → RepC K Av H (.ref a) (.tup ds)
  | lst {a : Addr} {vs : List V} {ds : List D} {o : Bool} : SqL K H a vs → (o = true → H a = some (.lst vs)) → RepL K Av H [] vs ds → RepC K Av H (.ref a) (.lst o ds)
/-- looked at, its parts whatever they own -/
abbrev RepR (K : PySem.W.Frag) (Av : Addr → Prop) (H : Hp) (v : V) (d : D) : Prop := ∃ F, Rep K Av H F v d
inductive All2 {α β : Type} (R : α → β → Prop) : List α → List β → Prop
  | nil : All2 R [] []
  | cons {a : α} {b : β} {as : List α} {bs : List β} : R a b → All2 R as bs → All2 R (a :: as) (b :: bs)

section
variable {K : PySem.W.Frag} {Av Av1 Av2 Av' : Addr → Prop} {H H1 H2 H' : Hp} {φ φ1 φ2 φ' : Nat → List Addr} {lock : List Nat} {σ : St} {ρ : Env} {F G : List Addr} {v : V} {d : D} {vs : List V} {ds : List D}

theorem All2.length {α β : Type} {R : α → β → Prop} : ∀ {as : List α} {bs : List β}, All2 R as bs → as.length = bs.length
  | _, _, .nil => rfl
  | _, _, .cons _ t => by simp [All2.length t]
theorem All2.get {α β : Type} {R : α → β → Prop} : ∀ {as : List α} {bs : List β} {i : Nat} {b : β}, All2 R as bs → bs[i]? = some b → ∃ a, as[i]? = some a ∧ R a b
  | _, _, _, _, .nil, e => by simp at e
  | _, _, 0, _, .cons r _, e => by simp at e; subst e; exact ⟨_, rfl, r⟩
  | _, _, i + 1, _, .cons _ t, e => by
    obtain ⟨a, h1, h2⟩ := All2.get (i := i) t (by simpa using e)
    exact ⟨a, by simpa using h1, h2⟩
theorem All2.getL {α β : Type} {R : α → β → Prop} : ∀ {as : List α} {bs : List β} {i : Nat} {a : α}, All2 R as bs → as[i]? = some a → ∃ b, bs[i]? = some b ∧ R a b
  | _, _, _, _, .nil, e => by simp at e
  | _, _, 0, _, .cons r _, e => by simp at e; subst e; exact ⟨_, rfl, r⟩
  | _, _, i + 1, _, .cons _ t, e => by
    obtain ⟨a, h1, h2⟩ := All2.getL (i := i) t (by simpa using e)
    exact ⟨a, by simpa using h1, h2⟩
theorem All2.imp {α β : Type} {R S : α → β → Prop} (f : ∀ a b, R a b → S a b) : ∀ {as : List α} {bs : List β}, All2 R as bs → All2 S as bs
  | _, _, .nil => .nil
  | _, _, .cons r t => .cons (f _ _ r) (All2.imp f t)
theorem All2.append {α β : Type} {R : α → β → Prop} : ∀ {as : List α} {bs : List β} {cs : List α} {es : List β}, All2 R as bs → All2 R cs es → All2 R (as ++ cs) (bs ++ es)
  | _, _, _, _, .nil, h => h
  | _, _, _, _, .cons r t, h => .cons r (All2.append t h)
theorem All2.take {α β : Type} {R : α → β → Prop} : ∀ {as : List α} {bs : List β} (n : Nat), All2 R as bs → All2 R (as.take n) (bs.take n)
  | _, _, 0, _ => .nil
  | _, _, _ + 1, .nil => .nil
  | _, _, n + 1, .cons r t => .cons r (All2.take n t)
theorem All2.drop {α β : Type} {R : α → β → Prop} : ∀ {as : List α} {bs : List β} (n : Nat), All2 R as bs → All2 R (as.drop n) (bs.drop n)
  | _, _, 0, h => h
  | _, _, _ + 1, .nil => .nil
  | _, _, n + 1, .cons _ t => All2.drop n t
/-- lists that own nothing, member by member -/
theorem RepL.all2 (h : RepL K Av H [] vs ds) : All2 (Rep K Av H []) vs ds := by
  induction ds generalizing vs with
  | nil => cases vs with
    | nil => exact .nil
    | cons _ _ => have := h.length; simp at this
  | cons d ds ih =>
    generalize e : ([] : List Addr) = F at h
    cases h with
    | cons h1 h2 =>
      obtain ⟨e1, e2⟩ := List.append_eq_nil_iff.mp e.symm
      subst e1; subst e2
      exact .cons h1 (ih h2)
theorem RepL.of_all2 : ∀ {vs : List V} {ds : List D}, All2 (Rep K Av H []) vs ds → RepL K Av H [] vs ds
  | _, _, .nil => .nil
  | _, _, .cons h t => .cons (F := []) (G := []) h (RepL.of_all2 t)
theorem repL_iff : RepL K Av H [] vs ds ↔ All2 (Rep K Av H []) vs ds := ⟨RepL.all2, RepL.of_all2⟩

theorem Rep.toC (h : Rep K Av H [] v d) : RepC K Av H v d := by
  generalize e : ([] : List Addr) = F at h
  cases h with
  | non => exact .non
  | bl b => exact .bl b
  | int i => exact .int i
  | str s => exact .str s
  | tup h1 h2 => exact .tup h1 h2
  | lstF h1 _ h3 => exact .lst (.inl h1) (fun z => nomatch z) h3
  | lstK h1 h3 => exact .lst (sql_any h1) (fun z => nomatch z) h3
  | lstO _ _ _ _ _ => cases e
/-- chilled -/
theorem Rep.chill (h : Rep K Av H F v d) : (∃ F', Rep K (fun a => Av a ∧ (a ∈ F → a ∈ F')) H F' v (Y.chill d) ∧ (∀ a ∈ F', a ∈ F)) ∧ True := by
  refine ⟨?_, trivial⟩
  cases h with
  | non => exact ⟨[], .non, fun a h => nomatch h⟩
  | bl b => exact ⟨[], .bl b, fun a h => nomatch h⟩
  | int i => exact ⟨[], .int i, fun a h => nomatch h⟩
  | str s => exact ⟨[], .str s, fun a h => nomatch h⟩
  | tup h1 h2 => exact ⟨[], .tup h1 (h2.less fun a h => h.1), fun a h => nomatch h⟩
  | lstK h1 h3 => exact ⟨[], .lstK h1 (h3.frz (fun a h => h.1) fun a h => nomatch h), fun a h => nomatch h⟩
  | lstF h1 h2 h3 => exact ⟨[], .lstF h1 (fun z => h2 z.1) (h3.frz (fun a h => h.1) fun a h => nomatch h), fun a h => nomatch h⟩
  | @lstO a vs ds F h1 h2 h3 h4 h5 =>
    refine ⟨[a], .lstO (F := []) h1 ⟨h2, fun _ => by simp⟩ (h3.frz (fun b h => h.1) fun b hb z => ?_) (by simp) (by simp), fun b h => ?_⟩
    · have := z.2 (List.mem_cons_of_mem _ hb)
      have e : b = a := by simpa using this
      subst e; exact h4 hb
    · have e : b = a := by simpa using h
      rw [e]; exact List.mem_cons_self
theorem frz_cold_aux : ∀ {F : List Addr} {v : V} {d : D}, Rep K Av H F v (frz d) → F = [] := fun {F v d} h => by
  cases d with
  | lst o xs => generalize e : Y.frz (.lst o xs) = d' at h; have e' : D.lst false (frz.frzL xs) = d' := e; subst e'; cases h with | lstF _ _ _ => rfl | lstK _ _ => rfl
  | non => cases h; rfl
  | bl b => cases h; rfl
  | int i => cases h; rfl
  | str s => cases h; rfl
  | tup xs => cases h; rfl
  | dct o x => generalize e : Y.frz (.dct o x) = d' at h; have e' : D.dct false (frz.frzP x) = d' := e; subst e'; cases h
  | set o x => generalize e : Y.frz (.set o x) = d' at h; have e' : D.set false x = d' := e; subst e'; cases h
  | exn c x => cases h
theorem frzL_cold : ∀ {ds : List D} {vs : List V} {F : List Addr}, RepL K Av H F vs (frz.frzL ds) → F = []
  | [], _, _, h => by cases h; rfl
  | d :: ds, _, _, h => by
    have h' : RepL K Av H _ _ (frz d :: frz.frzL ds) := h
    cases h' with
    | cons h1 h2 => rw [frz_cold_aux h1, frzL_cold h2]; rfl
theorem Rep.chillC (h : Rep K Av H F v (Y.chill d)) : RepC K Av H v (Y.chill d) := by
  cases d with
  | lst o xs =>
    have h' : Rep K Av H F v (.lst o (frz.frzL xs)) := h
    show RepC K Av H v (.lst o (frz.frzL xs))
    cases h' with
    | lstF h1 h2 h3 => exact .lst (.inl h1) (fun z => nomatch z) h3
    | lstK h1 h3 => exact .lst (sql_any h1) (fun z => nomatch z) h3
    | lstO h1 h2 h3 h4 h5 =>
      have e := frzL_cold h3
      subst e
      exact .lst (.inl (.inl h1)) (fun _ => h1) h3
  | non => cases h; exact .non
  | bl b => cases h; exact .bl b
  | int i => cases h; exact .int i
  | str s => cases h; exact .str s
  | tup xs => cases h with | tup h1 h2 => exact .tup h1 h2
  | dct o x => generalize e : Y.chill (.dct o x) = d' at h; have e' : D.dct o (frz.frzP x) = d' := e; subst e'; cases h
  | set o x => generalize e : Y.chill (.set o x) = d' at h; have e' : D.set o x = d' := e; subst e'; cases h
  | exn c x => cases h

/-- growing keeps everything -/
theorem Grow.keeps (g : Grow Av Av' H H' G) : Keep Av Av' H H' fun _ => False :=
  ⟨fun a o h _ => g.keep a o h, fun a h => ((g.av a).mp h).elim .inl fun z => .inr (g.fresh a z), fun a h _ => (g.av a).mpr (.inl h)⟩
theorem Rep.grow (g : Grow Av Av' H H' G) (ok : AvOk Av H) (r : Rep K Av H F v d) : Rep K Av' H' F v d := r.keep ok (fun _ h => h.elim) g.keeps fun _ _ h => h
theorem RepL.grow (g : Grow Av Av' H H' G) (ok : AvOk Av H) (r : RepL K Av H F vs ds) : RepL K Av' H' F vs ds := r.keep ok (fun _ h => h.elim) g.keeps fun _ _ h => h
theorem SqT.grow (g : Grow Av Av' H H' G) (ok : AvOk Av H) {a : Addr} (r : SqT K H a vs) : SqT K H' a vs := SqT.keepT ok (fun _ h => h.elim) g.keeps r
theorem EnvR.grow (e : EnvR K Av H σ ρ φ) (g : Grow Av Av' H H' G) : EnvR K Av' H' σ ρ φ :=
  ⟨e.len, fun i d h => let ⟨v, h1, h2⟩ := e.rep i d h; ⟨v, h1, h2.grow g e.ok⟩, e.emp, e.dis, g.ok⟩
theorem EnvR.apart (e : EnvR K Av H σ ρ φ) (g : Grow Av Av' H H' G) : Apart G φ := fun a ha i h => by
  obtain ⟨o, q, _⟩ := e.ok a (e.own h)
  rw [g.fresh a ha] at q; cases q
theorem Grow.step (g : Grow Av Av' H H' G) : Step lock Av Av' H H' φ φ :=
  ⟨fun a o h _ => g.keep a o h, fun a h => by
    cases q : H a with
    | none => exact absurd q h
    | some o => rw [g.keep a o q]; exact fun z => (nomatch z), fun a h => ((g.av a).mp h).elim .inl fun z => .inr (g.fresh a z), fun a h _ => (g.av a).mpr (.inl h), fun _ _ h => .inl h⟩
theorem Grow.org (g : Grow Av Av' H H' G) : OrgG lock H φ G := fun a h => .inr (g.fresh a h)
theorem Grow.refl (ok : AvOk Av H) : Grow Av Av H H [] := ⟨fun _ _ h => h, fun a => by simp, fun a h => (nomatch h), ok⟩
theorem upd_keep {p : Addr} {o : HO} (n : H p = none) : ∀ a u, H a = some u → upd H p o a = some u := fun a u h => by rw [upd_ne (ne_of_none h n)]; exact h
/-- a new tuple -/
theorem Grow.tup (ok : AvOk Av H) {p : Addr} {o : HO} (n : H p = none) : Grow Av Av H (upd H p o) [] :=
  ⟨upd_keep n, fun a => by simp, fun a h => (nomatch h), fun a h => by obtain ⟨u, e, m⟩ := ok a h; exact ⟨u, upd_keep n a u e, m⟩⟩
theorem Rep.newTup (ok : AvOk Av H) {p : Addr} (n : H p = none) (r : RepL K Av H [] vs ds) : Rep K Av (upd H p (.tup vs)) [] (.ref p) (.tup ds) :=
  .tup (SqT.of upd_same) (r.grow (Grow.tup ok n) ok)
/-- a new list, owned -/
theorem Grow.lst (ok : AvOk Av H) {p : Addr} (n : H p = none) (vs : List V) : Grow Av (fun a => Av a ∨ a = p) H (upd H p (.lst vs)) [p] :=
  ⟨upd_keep n, fun a => by simp, fun a h => by rw [show a = p by simpa using h]; exact n, fun a h => by
    rcases h with h | h
    · obtain ⟨u, e, m⟩ := ok a h; exact ⟨u, upd_keep n a u e, m⟩
    · subst h; exact ⟨_, upd_same, trivial⟩⟩
theorem Rep.newLst (ok : AvOk Av H) {p : Addr} (n : H p = none) (r : RepL K Av H [] vs ds) : Rep K (fun a => Av a ∨ a = p) (upd H p (.lst vs)) [p] (.ref p) (.lst true ds) :=
  .lstO upd_same (.inr rfl) (r.grow (Grow.lst ok n vs) ok) (by simp) (by simp)
end

/-- an operation of values by a function of trees: ds are looked at (chilled) -/
def rPrim (K : PySem.W.Frag) (p : List D → Option D) : List V → Hp → VK → Prop := fun vs H Q => ∃ Av ds d, AvOk Av H ∧ All2 (RepC K Av H) vs ds ∧ p ds = some d ∧
  ∀ v H' Av' G, Grow Av Av' H H' G → Rep K Av' H' G v d → Q v H'
/-- .. looked at as they are -/
def rPrimR (K : PySem.W.Frag) (p : List D → Option D) : List V → Hp → VK → Prop := fun vs H Q => ∃ Av ds d, AvOk Av H ∧ All2 (RepR K Av H) vs ds ∧ p ds = some d ∧
  ∀ v H' Av' G, Grow Av Av' H H' G → Rep K Av' H' G v d → Q v H'
def rPrim2 (K : PySem.W.Frag) (p : D → D → Option D) : R2 := fun x y H Q => ∃ Av a b d, AvOk Av H ∧ RepC K Av H x a ∧ RepC K Av H y b ∧ p a b = some d ∧
  ∀ v H' Av' G, Grow Av Av' H H' G → Rep K Av' H' G v d → Q v H'
def rPrimR2 (K : PySem.W.Frag) (p : D → D → Option D) : R2 := fun x y H Q => ∃ Av a b d, AvOk Av H ∧ RepR K Av H x a ∧ RepR K Av H y b ∧ p a b = some d ∧
  ∀ v H' Av' G, Grow Av Av' H H' G → Rep K Av' H' G v d → Q v H'
end Y

end
section
set_option Elab.async false
set_option linter.all false
set_option maxRecDepth 100000
set_option autoImplicit false
/-! Y4: names, constants, operands, displays, operations. -/
namespace Y
open PySem L2

section
variable {K : PySem.W.Frag} {Av Av0 Av1 Av2 Av' : Addr → Prop} {H H0 H1 H2 H' : Hp} {φ φ0 φ1 φ2 φ' : Nat → List Addr} {lock : List Nat} {σ : St} {ρ ρ' : Env} {F G : List Addr} {v : V} {d : D} {vs : List V} {ds : List D}

theorem RepC.less (h : RepC K Av H v d) (hs : ∀ a, Av' a → Av a) : RepC K Av' H v d := by
  cases h with
  | non => exact .non
  | bl b => exact .bl b
  | int i => exact .int i
  | str s => exact .str s
  | tup h1 h2 => exact .tup h1 (h2.less hs)
  | lst h1 h0 h2 => exact .lst h1 h0 (h2.less hs)
/-- fewer owned addresses -/
theorem EnvR.lessA (e : EnvR K Av H σ ρ φ) (hs : ∀ a, Av' a → Av a) (hk : ∀ i a, a ∈ φ i → Av' a) : EnvR K Av' H σ ρ φ :=
  ⟨e.len, fun i d h => let ⟨v, h1, h2⟩ := e.rep i d h; ⟨v, h1, h2.keep (T := fun a => Av a ∧ ¬ Av' a) e.ok (fun a h => h.1) ⟨fun _ _ h _ => h, fun a h => .inl (hs a h), fun a h n => Classical.byContradiction fun z => n ⟨h, z⟩⟩ fun a ha z => z.2 (hk i a ha)⟩,
    e.emp, e.dis, fun a h => e.ok a (hs a h)⟩
theorem Step.drop (S : Step lock Av Av1 H H1 φ φ1) (og : OrgG lock H φ G) (ok : AvOk Av H) (h1 : ∀ a, Av2 a → Av1 a) (h2 : ∀ a, Av1 a → a ∉ G → Av2 a) : Step lock Av Av2 H H1 φ φ1 :=
  ⟨S.keep, S.there, fun a h => S.av a (h1 a h), fun a h n => h2 a (S.own a h n) fun hG => by
    rcases og a hG with ⟨j, _, q⟩ | q
    · exact n j q
    · obtain ⟨o, e, _⟩ := ok a h
      rw [e] at q
      exact (nomatch q), S.org⟩
end

theorem bnd_ok {α β : Type} {m : M α} {f : α → M β} {c : Ctx} {ρ ρ2 : Env} {b : β} (h : bnd m f c ρ = .ok b ρ2) : ∃ a ρ1, m c ρ = .ok a ρ1 ∧ f a c ρ1 = .ok b ρ2 := by
  unfold bnd at h
  split at h
  · exact ⟨_, _, by assumption, h⟩
  · cases h
  · cases h
theorem bnd_exc {α β : Type} {m : M α} {f : α → M β} {c : Ctx} {ρ ρ2 : Env} {x : D} (h : bnd m f c ρ = .exc x ρ2) : m c ρ = .exc x ρ2 ∨ ∃ a ρ1, m c ρ = .ok a ρ1 ∧ f a c ρ1 = .exc x ρ2 := by
  unfold bnd at h
  split at h
  · exact .inr ⟨_, _, by assumption, h⟩
  · rename_i e; cases h; exact .inl e
  · cases h

/-! ### operands -/
inductive Opd where
  | val (d : D) | slot (i : Nat)
def oE (m : M D) : M Opd := bnd m fun d => pur (.val d)
def oN (i : Nat) : M Opd := fun _ ρ => match ρ[i]? with
  | some (some _) => .ok (.slot i) ρ
  | _ => .bad
def gC : Opd → M D
  | .val d => pur (chill d)
  | .slot i => oVar i
def gR : Opd → M D
  | .val d => pur d
  | .slot i => rVar i
def gets (get : Opd → M D) : List Opd → M (List D)
  | [] => pur []
  | o :: os => bnd (get o) fun d => bnd (gets get os) fun ds => pur (d :: ds)

def RepO (K : PySem.W.Frag) (Av : Addr → Prop) (H : Hp) (σ : St) (G : List Addr) (v : V) : Opd → Prop
  | .val d => Rep K Av H G v d
  | .slot i => σ[i]? = some (some v) ∧ G = []
inductive RepOL (K : PySem.W.Frag) (Av : Addr → Prop) (H : Hp) (σ : St) : List Addr → List V → List Opd → Prop
  | nil : RepOL K Av H σ [] [] []
  | cons {v : V} {o : Opd} {vs : List V} {os : List Opd} {F G : List Addr} : RepO K Av H σ F v o → RepOL K Av H σ G vs os → RepOL K Av H σ (F ++ G) (v :: vs) (o :: os)
def RO (g : Gd) (c : Ctx) (m : M Opd) : TE := fun σ H Q => ∃ Av ρ φ, EnvR g.K Av H σ ρ φ ∧
  match m c ρ with
  | .ok o ρ' => ∀ v H' Av' φ' G, EnvR g.K Av' H' σ ρ' φ' → RepO g.K Av' H' σ G v o → Apart G φ' → G.Nodup → Step c.lock Av Av' H H' φ φ' → OrgG c.lock H φ G → Q v H'
  | .exc e ρ' => RX g c Av H φ σ e ρ'
  | .bad => False
def ROL (g : Gd) (c : Ctx) (m : M (List Opd)) : TA := fun σ H Q => ∃ Av ρ φ, EnvR g.K Av H σ ρ φ ∧
  match m c ρ with
  | .ok os ρ' => ∀ vs H' Av' φ' G, EnvR g.K Av' H' σ ρ' φ' → RepOL g.K Av' H' σ G vs os → Apart G φ' → G.Nodup → Step c.lock Av Av' H H' φ φ' → OrgG c.lock H φ G → Q vs H'
  | .exc e ρ' => RX g c Av H φ σ e ρ'
  | .bad => False
def RVL (g : Gd) (c : Ctx) (m : M (List D)) : TA := fun σ H Q => ∃ Av ρ φ, EnvR g.K Av H σ ρ φ ∧
  match m c ρ with
  | .ok ds ρ' => ∀ vs H' Av' φ' G, EnvR g.K Av' H' σ ρ' φ' → RepL g.K Av' H' G vs ds → Apart G φ' → G.Nodup → Step c.lock Av Av' H H' φ φ' → OrgG c.lock H φ G → Q vs H'
  | .exc e ρ' => RX g c Av H φ σ e ρ'
  | .bad => False

section
variable {K : PySem.W.Frag} {Av Av0 Av1 Av2 Av' : Addr → Prop} {H H0 H1 H2 H' : Hp} {φ φ0 φ1 φ2 φ' : Nat → List Addr} {lock : List Nat} {σ σ' : St} {ρ ρ' : Env} {F G : List Addr} {v : V} {d : D} {vs : List V} {ds : List D}

theorem Rep.nodup (h : Rep K Av H F v d) : F.Nodup := by
  cases h with
  | lstO _ _ _ h4 h5 => exact List.nodup_cons.mpr ⟨h4, h5⟩
  | _ => exact .nil
theorem RepO.keep {T : Addr → Prop} {o : Opd} (ok : AvOk Av H) (hT : ∀ a, T a → Av a) (k : Keep Av Av' H H' T) (r : RepO K Av H σ F v o) (n : ∀ a ∈ F, ¬ T a) : RepO K Av' H' σ F v o := by
  cases o with
  | val d => exact Rep.keep ok hT k r n
  | slot i => exact r
theorem RepOL.keep {T : Addr → Prop} (ok : AvOk Av H) (hT : ∀ a, T a → Av a) (k : Keep Av Av' H H' T) : ∀ {os : List Opd} {vs : List V} {F : List Addr}, RepOL K Av H σ F vs os → (∀ a ∈ F, ¬ T a) → RepOL K Av' H' σ F vs os
  | _, _, _, .nil, _ => .nil
  | _, _, _, .cons h1 h2, n => .cons (RepO.keep ok hT k h1 fun a ha => n a (List.mem_append_left _ ha)) (RepOL.keep ok hT k h2 fun a ha => n a (List.mem_append_right _ ha))
theorem RepO.av {o : Opd} (r : RepO K Av H σ F v o) : ∀ a ∈ F, Av a := by
  cases o with
  | val d => exact Rep.av r
  | slot i => rw [r.2]; intro a h; cases h
theorem RepOL.av : ∀ {os : List Opd} {vs : List V} {F : List Addr}, RepOL K Av H σ F vs os → ∀ a ∈ F, Av a
  | _, _, _, .nil, _, h => nomatch h
  | _, _, _, .cons h1 h2, a, h => (List.mem_append.mp h).elim (h1.av a) (RepOL.av h2 a)

/-- one operand is got, chilled -/
theorem gC_ok {c : Ctx} {o : Opd} {d : D} (S : Step lock Av0 Av H0 H φ0 φ) (ok0 : AvOk Av0 H0) (og : OrgG lock H0 φ0 F) (e : EnvR K Av H σ ρ φ) (r : RepO K Av H σ F v o) (ap : Apart F φ) (h : gC o c ρ = .ok d ρ') :
    ∃ Av1 φ1, EnvR K Av1 H σ ρ' φ1 ∧ Step lock Av0 Av1 H0 H φ0 φ1 ∧ RepC K Av1 H v d ∧ (∀ a, Av1 a → Av a) ∧ (∀ a, Av a → a ∉ F → (∀ i, a ∉ φ i) → Av1 a) ∧ (∀ i a, a ∈ φ1 i → a ∈ φ i) := by
  cases o with
  | val d0 =>
    have h' : Rs.ok (chill d0) ρ = .ok d ρ' := h
    cases h'
    obtain ⟨⟨F', r', hF⟩, _⟩ := Rep.chill (show Rep K Av H F v d0 from r)
    refine ⟨fun a => Av a ∧ (a ∈ F → a ∈ F'), φ, e.lessA (fun a h => h.1) (fun i a h => ⟨e.own h, fun z => absurd h (ap a z i)⟩), S.drop og ok0 (fun a h => h.1) (fun a h n => ⟨h, fun z => absurd z n⟩), r'.chillC, fun a h => h.1, fun a h n _ => ⟨h, fun z => absurd z n⟩, fun i a h => h⟩
  | slot i =>
    obtain ⟨hs, rfl⟩ := (show σ[i]? = some (some v) ∧ F = [] from r)
    have h' : (match ρ[i]? with | some (some d) => Rs.ok (chill d) (ρ.set i (some (chill d))) | _ => .bad) = .ok d ρ' := h
    cases q : ρ[i]? with
    | none => rw [q] at h'; cases h'
    | some x =>
      cases x with
      | none => rw [q] at h'; cases h'
      | some d0 =>
        rw [q] at h'
        cases h'
        obtain ⟨w, hw, rw'⟩ := e.rep i d0 q
        rw [hs] at hw; cases hw
        obtain ⟨⟨F', r', hF⟩, _⟩ := rw'.chill
        obtain ⟨e1, s1⟩ := e.turn (lock := lock) (F := F') (Av' := fun a => Av a ∧ (a ∈ φ i → a ∈ F')) q hs hF (fun a => Iff.rfl) r'
        refine ⟨_, _, e1, S.trans s1 ok0, r'.chillC, fun a h => h.1, fun a h _ n => ⟨h, fun z => absurd z (n i)⟩, fun j a h => ?_⟩
        have h : a ∈ (if j = i then F' else φ j) := h
        by_cases z : j = i
        · subst z; rw [if_pos rfl] at h; exact hF a h
        · rw [if_neg z] at h; exact h
theorem gC_noexc {c : Ctx} {o : Opd} {x : D} : gC o c ρ ≠ .exc x ρ' := by
  cases o with
  | val d0 => intro h; cases h
  | slot i =>
    intro h
    have h' : (match ρ[i]? with | some (some d) => Rs.ok (chill d) (ρ.set i (some (chill d))) | _ => .bad) = .exc x ρ' := h
    split at h' <;> cases h'

theorem gets_noexc {c : Ctx} {x : D} : ∀ {os : List Opd} {ρ ρ' : Env}, gets gC os c ρ ≠ .exc x ρ'
  | [], _, _ => fun h => nomatch (show Rs.ok [] _ = Rs.exc x _ from h)
  | o :: os, _, _ => fun h => by
    rcases bnd_exc (m := gC o) h with h | ⟨a, ρ1, _, h⟩
    · exact gC_noexc h
    · rcases bnd_exc (m := gets gC os) h with h | ⟨a, ρ1, _, h⟩
      · exact gets_noexc h
      · cases h
/-- all operands are got -/
theorem gets_ok {c : Ctx} : ∀ {os : List Opd} {vs : List V} {F : List Addr} {Av : Addr → Prop} {ρ ρ' : Env} {φ : Nat → List Addr} {ds : List D}, Step lock Av0 Av H0 H φ0 φ → AvOk Av0 H0 → OrgG lock H0 φ0 F → EnvR K Av H σ ρ φ →
    RepOL K Av H σ F vs os → F.Nodup → Apart F φ → gets gC os c ρ = .ok ds ρ' →
    ∃ Av1 φ1, EnvR K Av1 H σ ρ' φ1 ∧ Step lock Av0 Av1 H0 H φ0 φ1 ∧ All2 (RepC K Av1 H) vs ds ∧ (∀ a, Av1 a → Av a) ∧ ∀ i a, a ∈ φ1 i → a ∈ φ i
  | [], _, _, _, _, _, _, _, S, ok0, og, e, r, nd, ap, h => by
    cases r
    have h' : Rs.ok [] _ = .ok _ _ := h
    cases h'
    exact ⟨_, _, e, S, .nil, fun _ h => h, fun _ _ h => h⟩
  | o :: os, _, _, Av, ρ, ρ', φ, ds, S, ok0, og, e, r, nd, ap, h => by
    cases r with
    | @cons v _ vs _ F1 F2 r1 r2 =>
      obtain ⟨d, ρ1, q, h⟩ := bnd_ok (m := gC o) h
      obtain ⟨ds2, ρ2, q2, h⟩ := bnd_ok (m := gets gC os) h
      cases h
      obtain ⟨hn1, hn2, hd⟩ := List.nodup_append.mp nd
      obtain ⟨Av1, φ1, e1, S1, c1, l1, k1, p1⟩ := gC_ok S ok0 (fun a ha => og a (List.mem_append_left _ ha)) e r1 (fun a ha => ap a (List.mem_append_left _ ha)) q
      have nF : ∀ a ∈ F2, ¬ (a ∈ F1 ∨ ∃ i, a ∈ φ i) := fun a ha z => by
        rcases z with z | ⟨i, z⟩
        · exact hd a z a ha rfl
        · exact ap a (List.mem_append_right _ ha) i z
      have r2' : RepOL K Av1 H σ F2 vs os := r2.keep (T := fun a => a ∈ F1 ∨ ∃ i, a ∈ φ i) e.ok (fun a h => h.elim (r1.av a) fun ⟨i, h⟩ => e.own h)
        ⟨fun _ _ h _ => h, fun a h => .inl (l1 a h), fun a h n => k1 a h (fun z => n (.inl z)) fun i z => n (.inr ⟨i, z⟩)⟩ nF
      obtain ⟨Av2, φ2, e2, S2, c2, l2, p2⟩ := gets_ok S1 ok0 (fun a ha => og a (List.mem_append_right _ ha)) e1 r2' hn2 (fun a ha i z => ap a (List.mem_append_right _ ha) i (p1 i a z)) q2
      exact ⟨Av2, φ2, e2, S2, .cons (c1.less l2) c2, fun a h => l1 a (l2 a h), fun i a h => p1 i a (p2 i a h)⟩
/-- .. as they are -/
theorem gR_ok {c : Ctx} {o : Opd} {d : D} (e : EnvR K Av H σ ρ φ) (r : RepO K Av H σ F v o) (h : gR o c ρ = .ok d ρ') : ρ' = ρ ∧ RepR K Av H v d := by
  cases o with
  | val d0 =>
    have h' : Rs.ok d0 ρ = .ok d ρ' := h
    cases h'
    exact ⟨rfl, _, r⟩
  | slot i =>
    obtain ⟨hs, rfl⟩ := (show σ[i]? = some (some v) ∧ F = [] from r)
    have h' : (match ρ[i]? with | some (some d) => Rs.ok d ρ | _ => .bad) = .ok d ρ' := h
    cases q : ρ[i]? with
    | none => rw [q] at h'; cases h'
    | some x =>
      cases x with
      | none => rw [q] at h'; cases h'
      | some d0 =>
        rw [q] at h'
        cases h'
        obtain ⟨w, hw, rw'⟩ := e.rep i _ q
        rw [hs] at hw; cases hw
        exact ⟨rfl, _, rw'⟩
theorem gR_noexc {c : Ctx} {o : Opd} {x : D} : gR o c ρ ≠ .exc x ρ' := by
  cases o with
  | val d0 => intro h; cases h
  | slot i =>
    intro h
    have h' : (match ρ[i]? with | some (some d) => Rs.ok d ρ | _ => .bad) = .exc x ρ' := h
    split at h' <;> cases h'
theorem getsR_ok {c : Ctx} (e : EnvR K Av H σ ρ φ) : ∀ {os : List Opd} {vs : List V} {F : List Addr} {ρ' : Env} {ds : List D}, RepOL K Av H σ F vs os → gets gR os c ρ = .ok ds ρ' → ρ' = ρ ∧ All2 (RepR K Av H) vs ds
  | [], _, _, _, _, r, h => by
    cases r
    have h' : Rs.ok [] _ = .ok _ _ := h
    cases h'
    exact ⟨rfl, .nil⟩
  | o :: os, _, _, _, ds, r, h => by
    cases r with
    | cons r1 r2 =>
      obtain ⟨d, ρ1, q, h⟩ := bnd_ok (m := gR o) h
      obtain ⟨ds2, ρ2, q2, h⟩ := bnd_ok (m := gets gR os) h
      cases h
      obtain ⟨e1, h1⟩ := gR_ok e r1 q
      rw [e1] at q2
      obtain ⟨e2, h2⟩ := getsR_ok e r2 q2
      exact ⟨e2, .cons h1 h2⟩
theorem getsR_noexc {c : Ctx} {x : D} : ∀ {os : List Opd} {ρ ρ' : Env}, gets gR os c ρ ≠ .exc x ρ'
  | [], _, _ => fun h => nomatch (show Rs.ok [] _ = Rs.exc x _ from h)
  | o :: os, _, _ => fun h => by
    rcases bnd_exc (m := gR o) h with h | ⟨a, ρ1, _, h⟩
    · exact gR_noexc h
    · rcases bnd_exc (m := gets gR os) h with h | ⟨a, ρ1, _, h⟩
      · exact getsR_noexc h
      · cases h
end

/-! ### the readings -/
section
variable {X : Cx} {W : WX} {xr : (Addr → Prop) → Hp → D → Value → Option Addr → Prop} {c : Ctx} {pos : Pos}
abbrev Cx.gd (X : Cx) (W : WX) (xr : (Addr → Prop) → Hp → D → Value → Option Addr → Prop) : Gd := ⟨X.K, W, xr⟩
abbrev Apart.nil {φ : Nat → List Addr} : Apart [] φ := fun _ h => nomatch h
abbrev OrgG.nil {lock : List Nat} {H : Hp} {φ : Nat → List Addr} : OrgG lock H φ [] := fun _ h => nomatch h

theorem s_var {i : Nat} {x : Str} (hN : X.N[i]? = some x) (hv : Vis X.env.scope x) (hd : (x == ("__debug__" : Str)) = false) (hcd : (x == ("__classdict__" : Str)) = false) : PE X (.Name x pos) (RE (Cx.gd X W xr) c (eVar i)) := by
  refine PE.weak (pe_var hN hv hd hcd) fun σ H Q ⟨Av, ρ, φ, e, h⟩ => ?_
  unfold eVar at h
  cases q : ρ[i]? with
  | none => rw [q] at h; exact h.elim
  | some x =>
    cases x with
    | none => rw [q] at h; exact h.elim
    | some d =>
      rw [q] at h
      obtain ⟨v, Av', φ', hv, e1, s1, r1, _⟩ := e.freeze (lock := c.lock) q
      exact ⟨v, hv, h v H Av' φ' [] e1 r1 Apart.nil s1 OrgG.nil⟩
/-- a constant -/
theorem s_con {ex : Expr} {v : V} {d : D} (hp : PE X ex (tC v)) (hr : ∀ Av H, Rep X.K Av H [] v d) : PE X ex (RE (Cx.gd X W xr) c (pur d)) :=
  PE.weak hp fun σ H Q ⟨Av, ρ, φ, e, h⟩ => h v H Av φ [] e (hr Av H) Apart.nil Step.refl OrgG.nil
theorem s_int {i : Int} {j : Nat} : PE X (.Constant (.int i) j pos) (RE (Cx.gd X W xr) c (pur (.int i))) := s_con pe_int fun _ _ => .int i
theorem s_bl {b : Bool} {j : Nat} : PE X (.Constant (.bool b) j pos) (RE (Cx.gd X W xr) c (pur (.bl b))) := s_con pe_bl fun _ _ => .bl b
theorem s_non {j : Nat} : PE X (.Constant .none j pos) (RE (Cx.gd X W xr) c (pur .non)) := s_con pe_non fun _ _ => .non
theorem s_str {x : Str} {j : Nat} : PE X (.Constant (.str x) j pos) (RE (Cx.gd X W xr) c (pur (.str x))) := s_con pe_str fun _ _ => .str x

/-- operands -/
theorem o_name {i : Nat} {x : Str} (hN : X.N[i]? = some x) (hv : Vis X.env.scope x) (hd : (x == ("__debug__" : Str)) = false) (hcd : (x == ("__classdict__" : Str)) = false) : PE X (.Name x pos) (RO (Cx.gd X W xr) c (oN i)) := by
  refine PE.weak (pe_var hN hv hd hcd) fun σ H Q ⟨Av, ρ, φ, e, h⟩ => ?_
  unfold oN at h
  cases q : ρ[i]? with
  | none => rw [q] at h; exact h.elim
  | some x =>
    cases x with
    | none => rw [q] at h; exact h.elim
    | some d =>
      rw [q] at h
      obtain ⟨v, hv, r⟩ := e.rep i d q
      exact ⟨v, hv, h v H Av φ [] e ⟨hv, rfl⟩ Apart.nil .nil Step.refl OrgG.nil⟩
theorem o_val {ex : Expr} {m : M D} (h : PE X ex (RE (Cx.gd X W xr) c m)) : PE X ex (RO (Cx.gd X W xr) c (oE m)) := by
  refine PE.weak h fun σ H Q ⟨Av, ρ, φ, e, h⟩ => ⟨Av, ρ, φ, e, ?_⟩
  unfold oE bnd at h
  cases q : m c ρ with
  | bad => rw [q] at h; exact h.elim
  | exc x ρ' => rw [q] at h; exact h
  | ok d ρ' =>
    rw [q] at h
    exact fun v H' Av' φ' G e' r ap st og => h v H' Av' φ' G e' r ap r.nodup st og
theorem ol_nil : PA X [] (ROL (Cx.gd X W xr) c (pur [])) :=
  PA.weak pa_nil fun σ H Q ⟨Av, ρ, φ, e, h⟩ => h [] H Av φ [] e .nil Apart.nil .nil Step.refl OrgG.nil
theorem ol_cons {ex : Expr} {es : List Expr} {m : M Opd} {ms : M (List Opd)} (h1 : PE X ex (RO (Cx.gd X W xr) c m)) (h2 : PA X es (ROL (Cx.gd X W xr) c ms)) (hs : starEach (ex :: es) X.env = (false, eval ex X.env) :: starEach es X.env) :
    PA X (ex :: es) (ROL (Cx.gd X W xr) c (bnd m fun o => bnd ms fun os => pur (o :: os))) := by
  refine PA.weak (pa_cons h1 h2 hs) fun σ H Q ⟨Av, ρ, φ, e, h⟩ => ⟨Av, ρ, φ, e, ?_⟩
  cases q : m c ρ with
  | bad => simp only [bnd, q] at h
  | exc x ρ' => simp only [bnd, q] at h; exact h
  | ok o ρ1 =>
    simp only [bnd, q] at h
    intro v H1 Av1 φ1 G1 e1 r1 ap1 nd1 st1 og1
    refine ⟨Av1, ρ1, φ1, e1, ?_⟩
    cases q2 : ms c ρ1 with
    | bad => simp only [q2] at h
    | exc x ρ' =>
      simp only [q2] at h
      exact fun cls y σ' H' Av' φ' e' xr' st hp => h cls y σ' H' Av' φ' e' xr' (st1.trans st e.ok) hp
    | ok os ρ2 =>
      simp only [q2, pur] at h
      intro vs H2 Av2 φ2 G2 e2 r2 ap2 nd2 st2 og2
      have r1' : RepO X.K Av2 H2 σ G1 v o := r1.keep e1.ok (fun a ⟨i, h⟩ => e1.own h) st2.keeps fun a ha ⟨i, h⟩ => ap1 a ha i h
      have th : ∀ a ∈ G1, H1 a ≠ none := fun a ha => by
        obtain ⟨o', q', _⟩ := e1.ok a (r1.av a ha)
        rw [q']; exact fun z => nomatch z
      refine h (v :: vs) H2 Av2 φ2 (G1 ++ G2) e2 (.cons r1' r2) (fun a ha i z => ?_) (List.nodup_append.mpr ⟨nd1, nd2, fun a ha b hb e => ?_⟩) (st1.trans st2 e.ok) (fun a ha => ?_)
      · rcases List.mem_append.mp ha with ha | ha
        · exact ap1.step st2 th a ha i z
        · exact ap2 a ha i z
      · subst e
        rcases og2 a hb with ⟨j, _, z⟩ | z
        · exact ap1 a ha j z
        · exact th a ha z
      · rcases List.mem_append.mp ha with ha | ha
        · exact og1 a ha
        · exact og2.step st1 a ha
/-- values -/
theorem vl_nil : PA X [] (RVL (Cx.gd X W xr) c (pur [])) :=
  PA.weak pa_nil fun σ H Q ⟨Av, ρ, φ, e, h⟩ => h [] H Av φ [] e .nil Apart.nil .nil Step.refl OrgG.nil
theorem vl_cons {ex : Expr} {es : List Expr} {m : M D} {ms : M (List D)} (h1 : PE X ex (RE (Cx.gd X W xr) c m)) (h2 : PA X es (RVL (Cx.gd X W xr) c ms)) (hs : starEach (ex :: es) X.env = (false, eval ex X.env) :: starEach es X.env) :
    PA X (ex :: es) (RVL (Cx.gd X W xr) c (bnd m fun o => bnd ms fun os => pur (o :: os))) := by
  refine PA.weak (pa_cons h1 h2 hs) fun σ H Q ⟨Av, ρ, φ, e, h⟩ => ⟨Av, ρ, φ, e, ?_⟩
  cases q : m c ρ with
  | bad => simp only [bnd, q] at h
  | exc x ρ' => simp only [bnd, q] at h; exact h
  | ok o ρ1 =>
    simp only [bnd, q] at h
    intro v H1 Av1 φ1 G1 e1 r1 ap1 st1 og1
    refine ⟨Av1, ρ1, φ1, e1, ?_⟩
    cases q2 : ms c ρ1 with
    | bad => simp only [q2] at h
    | exc x ρ' =>
      simp only [q2] at h
      exact fun cls y σ' H' Av' φ' e' xr' st hp => h cls y σ' H' Av' φ' e' xr' (st1.trans st e.ok) hp
    | ok os ρ2 =>
      simp only [q2, pur] at h
      intro vs H2 Av2 φ2 G2 e2 r2 ap2 nd2 st2 og2
      have r1' : Rep X.K Av2 H2 G1 v o := r1.step st2 e1 ap1
      have th := r1.there e1.ok
      refine h (v :: vs) H2 Av2 φ2 (G1 ++ G2) e2 (.cons r1' r2) (fun a ha i z => ?_) (List.nodup_append.mpr ⟨r1.nodup, nd2, fun a ha b hb e => ?_⟩) (st1.trans st2 e.ok) (fun a ha => ?_)
      · rcases List.mem_append.mp ha with ha | ha
        · exact ap1.step st2 th a ha i z
        · exact ap2 a ha i z
      · subst e
        rcases og2 a hb with ⟨j, _, z⟩ | z
        · exact ap1 a ha j z
        · exact th a ha z
      · rcases List.mem_append.mp ha with ha | ha
        · exact og1 a ha
        · exact og2.step st1 a ha
end
end Y

end
section
set_option Elab.async false
set_option linter.all false
set_option maxRecDepth 100000
set_option autoImplicit false
/-! Y5: displays, operations, calls of built-ins, subscripts, tests. -/
namespace Y
open PySem L2

/-- the greatest length that is served -/
abbrev LN : Nat := 16777216
theorem ln_line : LN = sizeLine := sizeLine_eq.symm

def tupD (ms : M (List D)) : M D := bnd ms fun ds => fun _ ρ => if ds.length ≤ LN then .ok (.tup (frz.frzL ds)) ρ else .bad
def lstD (ms : M (List D)) : M D := bnd ms fun ds => fun _ ρ => if ds.length ≤ LN then .ok (.lst true ds) ρ else .bad
/-- got, then a function of trees -/
def mGets (get : Opd → M D) (p : List D → Option D) (os : List Opd) : M D := bnd (gets get os) fun ds => ofO (p ds)
def mPrim (get : Opd → M D) (p : List D → Option D) (mos : M (List Opd)) : M D := bnd mos fun os => mGets get p os
def mBin (get : Opd → M D) (p : List D → Option D) (ma mb : M Opd) : M D := bnd ma fun a => bnd mb fun b => mGets get p [a, b]
def mUn (get : Opd → M D) (p : List D → Option D) (ma : M Opd) : M D := bnd ma fun a => mGets get p [a]

section
variable {X : Cx} {W : WX} {xr : (Addr → Prop) → Hp → D → Value → Option Addr → Prop} {c : Ctx} {pos : Pos}
variable {K : PySem.W.Frag} {Av Av0 Av1 Av2 Av' : Addr → Prop} {H H0 H1 H2 H' : Hp} {φ φ0 φ1 φ2 φ' : Nat → List Addr} {lock : List Nat} {σ σ' : St} {ρ ρ' : Env} {F G : List Addr} {v : V} {d : D} {vs : List V} {ds : List D}

theorem s_tup {es : List Expr} {n : Nat} {ms : M (List D)} (h : PA X es (RVL (Cx.gd X W xr) c ms)) : PE X (.Tuple es n pos) (RE (Cx.gd X W xr) c (tupD ms)) := by
  refine PE.weak (pe_tup h) fun σ H Q ⟨Av, ρ, φ, e, h⟩ => ⟨Av, ρ, φ, e, ?_⟩
  cases q : ms c ρ with
  | bad => simp only [tupD, bnd, q] at h
  | exc x ρ' => simp only [tupD, bnd, q] at h; exact h
  | ok ds ρ1 =>
    simp only [tupD, bnd, q] at h
    by_cases hl : ds.length ≤ LN
    · rw [if_pos hl] at h
      intro vs H1 Av1 φ1 G1 e1 r1 ap1 nd1 st1 og1
      refine ⟨by rw [r1.length, ← ln_line]; exact hl, fun p hp => ?_⟩
      have hs : ∀ a, (Av1 a ∧ a ∉ G1) → Av1 a := fun a h => h.1
      have r2 : RepL X.K (fun a => Av1 a ∧ a ∉ G1) H1 [] vs (frz.frzL ds) := r1.frz hs fun a ha z => z.2 ha
      have e2 : EnvR X.K (fun a => Av1 a ∧ a ∉ G1) H1 σ ρ1 φ1 := e1.lessA hs fun i a h => ⟨e1.own h, fun z => ap1 a z i h⟩
      have st2 := st1.drop (Av2 := fun a => Av1 a ∧ a ∉ G1) og1 e.ok hs fun a h n => ⟨h, n⟩
      have g := Grow.tup (o := .tup vs) e2.ok hp
      exact h (.ref p) _ _ φ1 [] (e2.grow g) (Rep.newTup e2.ok hp r2) Apart.nil (st2.trans g.step e.ok) OrgG.nil
    · rw [if_neg hl] at h; exact h.elim
theorem s_lst {es : List Expr} {ms : M (List D)} (h : PA X es (RVL (Cx.gd X W xr) c ms)) : PE X (.List es pos) (RE (Cx.gd X W xr) c (lstD ms)) := by
  refine PE.weak (pe_lst h) fun σ H Q ⟨Av, ρ, φ, e, h⟩ => ⟨Av, ρ, φ, e, ?_⟩
  cases q : ms c ρ with
  | bad => simp only [lstD, bnd, q] at h
  | exc x ρ' => simp only [lstD, bnd, q] at h; exact h
  | ok ds ρ1 =>
    simp only [lstD, bnd, q] at h
    by_cases hl : ds.length ≤ LN
    · rw [if_pos hl] at h
      intro vs H1 Av1 φ1 G1 e1 r1 ap1 nd1 st1 og1
      refine ⟨by rw [r1.length, ← ln_line]; exact hl, fun p hp => ?_⟩
      have g := Grow.lst e1.ok hp vs
      have pG : p ∉ G1 := fun z => r1.there e1.ok p z hp
      refine h (.ref p) _ _ φ1 (p :: G1) (e1.grow g) (.lstO upd_same (.inr rfl) (r1.grow g e1.ok) pG nd1) (fun a ha i z => ?_) (st1.trans g.step e.ok) fun a ha => ?_
      · rcases List.mem_cons.mp ha with q | ha
        · subst q; exact e1.there z hp
        · exact ap1 a ha i z
      · rcases List.mem_cons.mp ha with q | ha
        · subst q
          exact (Grow.org (φ := φ1) (lock := c.lock) g).step st1 a (List.mem_singleton.mpr rfl)
        · exact og1 a ha
    · rw [if_neg hl] at h; exact h.elim

/-- behind the operands: what an operation wants -/
theorem prim_fin {p : List D → Option D} {os : List Opd} {Q : VK} {pos : Pos} {g : Gd}
    (S : Step c.lock Av0 Av H0 H φ0 φ) (ok0 : AvOk Av0 H0) (og : OrgG c.lock H0 φ0 F) (e : EnvR g.K Av H σ ρ φ) (r : RepOL g.K Av H σ F vs os) (nd : F.Nodup) (ap : Apart F φ)
    (h : match mGets gC p os c ρ with
      | .ok d ρ' => ∀ v H' Av' φ' G, EnvR g.K Av' H' σ ρ' φ' → Rep g.K Av' H' G v d → Apart G φ' → Step c.lock Av0 Av' H0 H' φ0 φ' → OrgG c.lock H0 φ0 G → Q v H'
      | .exc e ρ' => RX g c Av0 H0 φ0 σ e ρ'
      | .bad => False) : rPrim g.K p vs H Q := by
  unfold mGets at h
  cases q : gets gC os c ρ with
  | bad => simp only [bnd, q] at h
  | exc x ρ' => exact absurd q gets_noexc
  | ok ds ρ1 =>
    simp only [bnd, q] at h
    obtain ⟨Av1, φ1, e1, S1, c1, _⟩ := gets_ok S ok0 og e r nd ap q
    cases q2 : p ds with
    | none => simp only [ofO, q2] at h
    | some d =>
      simp only [ofO, q2] at h
      refine ⟨Av1, ds, d, e1.ok, c1, q2, fun v H' Av' G gr rv => ?_⟩
      exact h v H' Av' φ1 G (e1.grow gr) rv (e1.apart gr) (S1.trans gr.step ok0) ((Grow.org (φ := φ1) gr).step S1)
theorem primR_fin {p : List D → Option D} {os : List Opd} {Q : VK} {pos : Pos} {g : Gd}
    (S : Step c.lock Av0 Av H0 H φ0 φ) (ok0 : AvOk Av0 H0) (og : OrgG c.lock H0 φ0 F) (e : EnvR g.K Av H σ ρ φ) (r : RepOL g.K Av H σ F vs os) (nd : F.Nodup) (ap : Apart F φ)
    (h : match mGets gR p os c ρ with
      | .ok d ρ' => ∀ v H' Av' φ' G, EnvR g.K Av' H' σ ρ' φ' → Rep g.K Av' H' G v d → Apart G φ' → Step c.lock Av0 Av' H0 H' φ0 φ' → OrgG c.lock H0 φ0 G → Q v H'
      | .exc e ρ' => RX g c Av0 H0 φ0 σ e ρ'
      | .bad => False) : rPrimR g.K p vs H Q := by
  unfold mGets at h
  cases q : gets gR os c ρ with
  | bad => simp only [bnd, q] at h
  | exc x ρ' => exact absurd q getsR_noexc
  | ok ds ρ1 =>
    simp only [bnd, q] at h
    obtain ⟨rfl, c1⟩ := getsR_ok e r q
    cases q2 : p ds with
    | none => simp only [ofO, q2] at h
    | some d =>
      simp only [ofO, q2] at h
      refine ⟨Av, ds, d, e.ok, c1, q2, fun v H' Av' G gr rv => ?_⟩
      exact h v H' Av' φ G (e.grow gr) rv (e.apart gr) (S.trans gr.step ok0) ((Grow.org (φ := φ) gr).step S)

/-- which way operands are got, and what the operation then wants -/
inductive Way (K : PySem.W.Frag) : (Opd → M D) → ((List D → Option D) → List V → Hp → VK → Prop) → Prop
  | c : Way K gC (rPrim K)
  | r : Way K gR (rPrimR K)
theorem way_fin {p : List D → Option D} {os : List Opd} {Q : VK} {get : Opd → M D} {rp : (List D → Option D) → List V → Hp → VK → Prop} {g : Gd} (w : Way g.K get rp)
    (S : Step c.lock Av0 Av H0 H φ0 φ) (ok0 : AvOk Av0 H0) (og : OrgG c.lock H0 φ0 F) (e : EnvR g.K Av H σ ρ φ) (r : RepOL g.K Av H σ F vs os) (nd : F.Nodup) (ap : Apart F φ)
    (h : match mGets get p os c ρ with
      | .ok d ρ' => ∀ v H' Av' φ' G, EnvR g.K Av' H' σ ρ' φ' → Rep g.K Av' H' G v d → Apart G φ' → Step c.lock Av0 Av' H0 H' φ0 φ' → OrgG c.lock H0 φ0 G → Q v H'
      | .exc e ρ' => RX g c Av0 H0 φ0 σ e ρ'
      | .bad => False) : rp p vs H Q := by
  cases w with
  | c => exact prim_fin (pos := ⟨0, 0, 0, 0⟩) S ok0 og e r nd ap h
  | r => exact primR_fin (pos := ⟨0, 0, 0, 0⟩) S ok0 og e r nd ap h

/-- from an operand list to the operation -/
theorem rol_fin {p : List D → Option D} {get : Opd → M D} {rp : (List D → Option D) → List V → Hp → VK → Prop} (w : Way X.K get rp) {mos : M (List Opd)} {σ : St} {H : Hp} {Q : VK} (h : RE (Cx.gd X W xr) c (mPrim get p mos) σ H Q) :
    ROL (Cx.gd X W xr) c mos σ H fun vs H1 => rp p vs H1 Q := by
  obtain ⟨Av, ρ, φ, e, h⟩ := h
  refine ⟨Av, ρ, φ, e, ?_⟩
  unfold mPrim at h
  cases q : mos c ρ with
  | bad => simp only [bnd, q] at h
  | exc x ρ' => simp only [bnd, q] at h; exact h
  | ok os ρ1 =>
    simp only [bnd, q] at h
    intro vs H1 Av1 φ1 G1 e1 r1 ap1 nd1 st1 og1
    exact way_fin (g := Cx.gd X W xr) w st1 e.ok og1 e1 r1 nd1 ap1 h
/-- .. from two operands -/
theorem ro2_fin {p : List D → Option D} {get : Opd → M D} {rp : (List D → Option D) → List V → Hp → VK → Prop} (w : Way X.K get rp) {ma mb : M Opd} {σ : St} {H : Hp} {Q : VK} (h : RE (Cx.gd X W xr) c (mBin get p ma mb) σ H Q) :
    RO (Cx.gd X W xr) c ma σ H fun x H1 => RO (Cx.gd X W xr) c mb σ H1 fun y H2 => rp p [x, y] H2 Q := by
  obtain ⟨Av, ρ, φ, e, h⟩ := h
  refine ⟨Av, ρ, φ, e, ?_⟩
  unfold mBin at h
  cases q : ma c ρ with
  | bad => simp only [bnd, q] at h
  | exc x ρ' => simp only [bnd, q] at h; exact h
  | ok o ρ1 =>
    simp only [bnd, q] at h
    intro v H1 Av1 φ1 G1 e1 r1 ap1 nd1 st1 og1
    refine ⟨Av1, ρ1, φ1, e1, ?_⟩
    cases q2 : mb c ρ1 with
    | bad => simp only [q2] at h
    | exc x ρ' =>
      simp only [q2] at h
      exact fun cls y σ' H' Av' φ' e' xr' st hp => h cls y σ' H' Av' φ' e' xr' (st1.trans st e.ok) hp
    | ok o2 ρ2 =>
      simp only [q2] at h
      intro v2 H2 Av2 φ2 G2 e2 r2 ap2 nd2 st2 og2
      have r1' : RepO X.K Av2 H2 σ G1 v o := r1.keep e1.ok (fun a ⟨i, h⟩ => e1.own h) st2.keeps fun a ha ⟨i, h⟩ => ap1 a ha i h
      have th : ∀ a ∈ G1, H1 a ≠ none := fun a ha => by
        obtain ⟨o', q', _⟩ := e1.ok a (r1.av a ha)
        rw [q']; exact fun z => nomatch z
      have rl : RepOL X.K Av2 H2 σ (G1 ++ (G2 ++ [])) [v, v2] [o, o2] := .cons r1' (.cons r2 .nil)
      rw [List.append_nil] at rl
      refine way_fin (g := Cx.gd X W xr) w (st1.trans st2 e.ok) e.ok (fun a ha => ?_) e2 rl (List.nodup_append.mpr ⟨nd1, nd2, fun a ha b hb e => ?_⟩) (fun a ha i z => ?_) h
      · rcases List.mem_append.mp ha with ha | ha
        · exact og1 a ha
        · exact og2.step st1 a ha
      · subst e
        rcases og2 a hb with ⟨j, _, z⟩ | z
        · exact ap1 a ha j z
        · exact th a ha z
      · rcases List.mem_append.mp ha with ha | ha
        · exact ap1.step st2 th a ha i z
        · exact ap2 a ha i z
theorem ro1_fin {p : List D → Option D} {get : Opd → M D} {rp : (List D → Option D) → List V → Hp → VK → Prop} (w : Way X.K get rp) {ma : M Opd} {σ : St} {H : Hp} {Q : VK} (h : RE (Cx.gd X W xr) c (mUn get p ma) σ H Q) :
    RO (Cx.gd X W xr) c ma σ H fun x H1 => rp p [x] H1 Q := by
  obtain ⟨Av, ρ, φ, e, h⟩ := h
  refine ⟨Av, ρ, φ, e, ?_⟩
  unfold mUn at h
  cases q : ma c ρ with
  | bad => simp only [bnd, q] at h
  | exc x ρ' => simp only [bnd, q] at h; exact h
  | ok o ρ1 =>
    simp only [bnd, q] at h
    intro v H1 Av1 φ1 G1 e1 r1 ap1 nd1 st1 og1
    have rl : RepOL X.K Av1 H1 σ (G1 ++ []) [v] [o] := .cons r1 .nil
    rw [List.append_nil] at rl
    exact way_fin (g := Cx.gd X W xr) w st1 e.ok og1 e1 rl nd1 ap1 h

/-! ### what the syntax asks -/
theorem s_callB {f : String} {x : Str} {px : Pos} {ex : Expr} {es : List Expr} {get : Opd → M D} {rp : (List D → Option D) → List V → Hp → VK → Prop} (w : Way X.K get rp) {p : List D → Option D} {mos : M (List Opd)}
    (hc : CallR X (.builtin f) (rp p)) (hg : Gl X x) (hm : X.mg x = none) (hv : bootBuiltins x = some (.builtin f)) (ha : PA X (ex :: es) (ROL (Cx.gd X W xr) c mos)) (hn : x ≠ "__name__") (hdb : (x == ("__debug__" : Str)) = false)
    (he : starEach (ex :: es) X.env = (false, eval ex X.env) :: starEach es X.env) (hpl : (backTo pos (starEach es X.env)).any (·.1) = false) : PE X (.Call (.Name x px) (ex :: es) [] pos) (RE (Cx.gd X W xr) c (mPrim get p mos)) :=
  PE.weak (pe_callB hc hg hm hv ha hn hdb he hpl) fun _ _ _ h => rol_fin w h
theorem s_callTy {f : String} {x : Str} {px : Pos} {ex : Expr} {es : List Expr} {get : Opd → M D} {rp : (List D → Option D) → List V → Hp → VK → Prop} (w : Way X.K get rp) {p : List D → Option D} {mos : M (List Opd)}
    (hc : CallR X (.type f) (rp p)) (hg : Gl X x) (hm : X.mg x = none) (hv : bootBuiltins x = some (.type f)) (ha : PA X (ex :: es) (ROL (Cx.gd X W xr) c mos)) (hn : x ≠ "__name__") (hdb : (x == ("__debug__" : Str)) = false)
    (he : starEach (ex :: es) X.env = (false, eval ex X.env) :: starEach es X.env) (hpl : (backTo pos (starEach es X.env)).any (·.1) = false) : PE X (.Call (.Name x px) (ex :: es) [] pos) (RE (Cx.gd X W xr) c (mPrim get p mos)) :=
  PE.weak (pe_callTy hc hg hm hv ha hn hdb he hpl) fun _ _ _ h => rol_fin w h
/-- an operation of two values by a function of a list of two trees -/
abbrev two (r : List V → Hp → VK → Prop) : R2 := fun x y H Q => r [x, y] H Q
theorem s_bin {op : Operator} {a b : Expr} {get : Opd → M D} {rp : (List D → Option D) → List V → Hp → VK → Prop} (w : Way X.K get rp) {p : List D → Option D} {ma mb : M Opd} (ho : OpR X (binaryOp op) (two (rp p)))
    (ha : PE X a (RO (Cx.gd X W xr) c ma)) (hb : PE X b (RO (Cx.gd X W xr) c mb)) : PE X (.BinOp a op b pos) (RE (Cx.gd X W xr) c (mBin get p ma mb)) :=
  PE.weak (pe_op ho ha hb) fun _ _ _ h => ro2_fin w h
theorem s_un {op : UnaryOp} {a : Expr} {get : Opd → M D} {rp : (List D → Option D) → List V → Hp → VK → Prop} (w : Way X.K get rp) {p : List D → Option D} {ma : M Opd} (ho : UnR X (unaryOp op) (fun x H Q => rp p [x] H Q))
    (ha : PE X a (RO (Cx.gd X W xr) c ma)) : PE X (.UnaryOp op a pos) (RE (Cx.gd X W xr) c (mUn get p ma)) :=
  PE.weak (pe_un ho ha) fun _ _ _ h => ro1_fin w h
theorem s_cmp {op : CmpOp} {a b : Expr} {get : Opd → M D} {rp : (List D → Option D) → List V → Hp → VK → Prop} (w : Way X.K get rp) {p : List D → Option D} {ma mb : M Opd} (ho : OpR X (compareOp op) (two (rp p)))
    (ha : PE X a (RO (Cx.gd X W xr) c ma)) (hb : PE X b (RO (Cx.gd X W xr) c mb)) (hm : behindInMarks op b = false) : PE X (.Compare a [op] [b] pos) (RE (Cx.gd X W xr) c (mBin get p ma mb)) :=
  PE.weak (pe_cmpR ho ha hb hm) fun _ _ _ h => ro2_fin w h
theorem s_ix {a b : Expr} {p : List D → Option D} {ma mb : M Opd} (ho : IxR X (two (rPrim X.K p)))
    (ha : PE X a (RO (Cx.gd X W xr) c ma)) (hb : PE X b (RO (Cx.gd X W xr) c mb)) (hs : PlainIx b) : PE X (.Subscript a b pos) (RE (Cx.gd X W xr) c (mBin gC p ma mb)) :=
  PE.weak (pe_ix ho ha hb hs) fun _ _ _ h => ro2_fin .c h

/-! ### tests -/
/-- a bool of a value -/
def asB : D → Option Bool
  | .bl b => some b
  | _ => none
def mB (m : M D) : M Bool := bnd m fun d => ofO (asB d)
theorem rep_asB {b : Bool} (r : Rep K Av H G v d) (h : asB d = some b) : v = .bl b := by
  cases r with
  | bl b' => cases h; rfl
  | _ => cases h
theorem re_mB {m : M D} {g : Gd} {σ : St} {H : Hp} {Q : Bool → Hp → Prop} (h : RT g c (mB m) σ H Q) : RE g c m σ H fun x H1 => ∃ k, x = .bl k ∧ Q k H1 := by
  obtain ⟨Av, ρ, φ, e, h⟩ := h
  refine ⟨Av, ρ, φ, e, ?_⟩
  unfold mB at h
  cases q : m c ρ with
  | bad => simp only [bnd, q] at h
  | exc x ρ' => simp only [bnd, q] at h; exact h
  | ok d ρ1 =>
    simp only [bnd, q] at h
    intro v H' Av' φ' G e' r ap st og
    cases q2 : asB d with
    | none => simp only [ofO, q2] at h
    | some b =>
      simp only [ofO, q2] at h
      refine ⟨b, rep_asB r q2, h H' (fun a => Av' a ∧ a ∉ G) φ' (e'.lessA (fun a h => h.1) fun i a h => ⟨e'.own h, fun z => ap a z i h⟩) (st.drop og e.ok (fun a h => h.1) fun a h n => ⟨h, n⟩)⟩
theorem t_cmp {op : CmpOp} {a b : Expr} {get : Opd → M D} {rp : (List D → Option D) → List V → Hp → VK → Prop} (w : Way X.K get rp) {p : List D → Option D} {ma mb : M Opd} (ho : OpR X (compareOp op) (two (rp p)))
    (ha : PE X a (RO (Cx.gd X W xr) c ma)) (hb : PE X b (RO (Cx.gd X W xr) c mb)) (hm : behindInMarks op b = false) : PT X (.Compare a [op] [b] pos) (RT (Cx.gd X W xr) c (mB (mBin get p ma mb))) :=
  PT.weak (pt_cmpR ho ha hb hm) fun _ _ _ h => ro2_fin w (re_mB h)
theorem t_val {a : Expr} {m : M D} (ha : PE X a (RE (Cx.gd X W xr) c m)) (he : ∀ whole, isTrue a X.env whole = (do let v ← whole; standAt a.pos; holding [v] (truthy v))) : PT X a (RT (Cx.gd X W xr) c (mB m)) :=
  PT.weak (pt_val ha he) fun _ _ _ h => re_mB h
def mNot (m : M Bool) : M Bool := bnd m fun b => pur (!b)
theorem t_not {a : Expr} {m : M Bool} (ha : PT X a (RT (Cx.gd X W xr) c m)) : PT X (.UnaryOp .Not a pos) (RT (Cx.gd X W xr) c (mNot m)) := by
  refine PT.weak (pt_not ha) fun σ H Q ⟨Av, ρ, φ, e, h⟩ => ⟨Av, ρ, φ, e, ?_⟩
  unfold mNot at h
  cases q : m c ρ with
  | bad => simp only [bnd, q] at h
  | exc x ρ' => simp only [bnd, q] at h; exact h
  | ok d ρ1 => simp only [bnd, q, pur] at h; exact h
def mAnd (m n : M Bool) : M Bool := bnd m fun b => match b with | true => n | false => pur false
def mOr (m n : M Bool) : M Bool := bnd m fun b => match b with | true => pur true | false => n
/-- a step, then a reading from there -/
theorem RX.from {g : Gd} {x : D} (st : Step c.lock Av Av1 H H1 φ φ1) (ok : AvOk Av H) (h : RX g c Av H φ σ x ρ') : RX g c Av1 H1 φ1 σ x ρ' :=
  fun cls y σ' H' Av' φ' e' xr' st' hp => h cls y σ' H' Av' φ' e' xr' (st.trans st' ok) hp
theorem rt_and {m n : M Bool} {g : Gd} {σ : St} {H : Hp} {Q : Bool → Hp → Prop} (h : RT g c (mAnd m n) σ H Q) : RT g c m σ H fun b H1 => if b = true then RT g c n σ H1 Q else Q false H1 := by
  obtain ⟨Av, ρ, φ, e, h⟩ := h
  refine ⟨Av, ρ, φ, e, ?_⟩
  unfold mAnd at h
  cases q : m c ρ with
  | bad => simp only [bnd, q] at h
  | exc x ρ' => simp only [bnd, q] at h; exact h
  | ok b ρ1 =>
    simp only [bnd, q] at h
    intro H1 Av1 φ1 e1 st1
    cases b with
    | false =>
      simp only [pur] at h
      rw [if_neg Bool.false_ne_true]
      exact h H1 Av1 φ1 e1 st1
    | true =>
      rw [if_pos rfl]
      refine ⟨Av1, ρ1, φ1, e1, ?_⟩
      dsimp only at h
      cases q2 : n c ρ1 with
      | bad => simp only [q2] at h
      | exc x ρ' => simp only [q2] at h; exact RX.from st1 e.ok h
      | ok b2 ρ2 => simp only [q2] at h; exact fun H2 Av2 φ2 e2 st2 => h H2 Av2 φ2 e2 (st1.trans st2 e.ok)
theorem rt_or {m n : M Bool} {g : Gd} {σ : St} {H : Hp} {Q : Bool → Hp → Prop} (h : RT g c (mOr m n) σ H Q) : RT g c m σ H fun b H1 => if b = true then Q true H1 else RT g c n σ H1 Q := by
  obtain ⟨Av, ρ, φ, e, h⟩ := h
  refine ⟨Av, ρ, φ, e, ?_⟩
  unfold mOr at h
  cases q : m c ρ with
  | bad => simp only [bnd, q] at h
  | exc x ρ' => simp only [bnd, q] at h; exact h
  | ok b ρ1 =>
    simp only [bnd, q] at h
    intro H1 Av1 φ1 e1 st1
    cases b with
    | true =>
      simp only [pur] at h
      rw [if_pos rfl]
      exact h H1 Av1 φ1 e1 st1
    | false =>
      rw [if_neg Bool.false_ne_true]
      refine ⟨Av1, ρ1, φ1, e1, ?_⟩
      dsimp only at h
      cases q2 : n c ρ1 with
      | bad => simp only [q2] at h
      | exc x ρ' => simp only [q2] at h; exact RX.from st1 e.ok h
      | ok b2 ρ2 => simp only [q2] at h; exact fun H2 Av2 φ2 e2 st2 => h H2 Av2 φ2 e2 (st1.trans st2 e.ok)
theorem w_and1 {a : Expr} {m : M Bool} (ha : PT X a (RT (Cx.gd X W xr) c m)) : PW X (.BoolOp .And [a] pos) (RT (Cx.gd X W xr) c m) := pw_and1 ha
theorem w_or1 {a : Expr} {m : M Bool} (ha : PT X a (RT (Cx.gd X W xr) c m)) : PW X (.BoolOp .Or [a] pos) (RT (Cx.gd X W xr) c m) := pw_or1 ha
theorem w_and {a b : Expr} {rest : List Expr} {m n : M Bool} (ha : PT X a (RT (Cx.gd X W xr) c m)) (hb : PW X (.BoolOp .And (b :: rest) pos) (RT (Cx.gd X W xr) c n)) : PW X (.BoolOp .And (a :: b :: rest) pos) (RT (Cx.gd X W xr) c (mAnd m n)) :=
  PW.weak (pw_and ha hb) fun _ _ _ h => rt_and h
theorem w_or {a b : Expr} {rest : List Expr} {m n : M Bool} (ha : PT X a (RT (Cx.gd X W xr) c m)) (hb : PW X (.BoolOp .Or (b :: rest) pos) (RT (Cx.gd X W xr) c n)) : PW X (.BoolOp .Or (a :: b :: rest) pos) (RT (Cx.gd X W xr) c (mOr m n)) :=
  PW.weak (pw_or ha hb) fun _ _ _ h => rt_or h
/-- a if t else b -/
def mIf (t : M Bool) (m n : M D) : M D := bnd t fun b => match b with | true => m | false => n
theorem s_if {t a b : Expr} {mt : M Bool} {m n : M D} (ht : PT X t (RT (Cx.gd X W xr) c mt)) (ha : PE X a (RE (Cx.gd X W xr) c m)) (hb : PE X b (RE (Cx.gd X W xr) c n)) : PE X (.IfExp t a b pos) (RE (Cx.gd X W xr) c (mIf mt m n)) := by
  refine PE.weak (pe_ifExp ht ha hb) fun σ H Q ⟨Av, ρ, φ, e, h⟩ => ⟨Av, ρ, φ, e, ?_⟩
  unfold mIf at h
  cases q : mt c ρ with
  | bad => simp only [bnd, q] at h
  | exc x ρ' => simp only [bnd, q] at h; exact h
  | ok b ρ1 =>
    simp only [bnd, q] at h
    intro H1 Av1 φ1 e1 st1
    have go : ∀ {k : M D}, (match k c ρ1 with
        | .ok d ρ' => ∀ v H' Av' φ' G, EnvR X.K Av' H' σ ρ' φ' → Rep X.K Av' H' G v d → Apart G φ' → Step c.lock Av Av' H H' φ φ' → OrgG c.lock H φ G → Q v H'
        | .exc e ρ' => RX (Cx.gd X W xr) c Av H φ σ e ρ'
        | .bad => False) → RE (Cx.gd X W xr) c k σ H1 Q := fun {k} h => by
      refine ⟨Av1, ρ1, φ1, e1, ?_⟩
      cases q2 : k c ρ1 with
      | bad => simp only [q2] at h
      | exc x ρ' => simp only [q2] at h; exact RX.from st1 e.ok h
      | ok d ρ2 => simp only [q2] at h; exact fun v H2 Av2 φ2 G e2 r ap st2 og => h v H2 Av2 φ2 G e2 r ap (st1.trans st2 e.ok) (og.step st1)
    cases b with
    | true => rw [if_pos rfl]; exact go h
    | false => rw [if_neg Bool.false_ne_true]; exact go h
/-- and, or as values (all but the last a bool) -/
def mAndV (m n : M D) : M D := bnd m fun d => match d with | .bl true => n | .bl false => pur (.bl false) | _ => bad
def mOrV (m n : M D) : M D := bnd m fun d => match d with | .bl true => pur (.bl true) | .bl false => n | _ => bad
end
end Y

end
section
set_option Elab.async false
set_option linter.all false
set_option maxRecDepth 100000
set_option autoImplicit false
/-! Y6: and, or as values; slices; the call of a def. -/
namespace Y
open PySem L2
section
variable {X : Cx} {W : WX} {xr : (Addr → Prop) → Hp → D → Value → Option Addr → Prop} {c : Ctx} {pos : Pos}
variable {K : PySem.W.Frag} {Av Av0 Av1 Av2 Av' : Addr → Prop} {H H0 H1 H2 H' : Hp} {φ φ0 φ1 φ2 φ' : Nat → List Addr} {lock : List Nat} {σ σ' : St} {ρ ρ' : Env} {F G : List Addr} {v : V} {d : D} {vs : List V} {ds : List D}

/-- from the start of a part, where its rest is a meaning k -/
theorem RE.from {g : Gd} {k : M D} {ρ1 : Env} {Q : VK} (e1 : EnvR g.K Av1 H1 σ ρ1 φ1) (st1 : Step c.lock Av Av1 H H1 φ φ1) (ok : AvOk Av H) (h : match k c ρ1 with
        | .ok d ρ' => ∀ v H' Av' φ' G, EnvR g.K Av' H' σ ρ' φ' → Rep g.K Av' H' G v d → Apart G φ' → Step c.lock Av Av' H H' φ φ' → OrgG c.lock H φ G → Q v H'
        | .exc e ρ' => RX g c Av H φ σ e ρ'
        | .bad => False) : RE g c k σ H1 Q := by
  refine ⟨Av1, ρ1, φ1, e1, ?_⟩
  cases q2 : k c ρ1 with
  | bad => simp only [q2] at h
  | exc x ρ' => simp only [q2] at h; exact RX.from st1 ok h
  | ok d ρ2 => simp only [q2] at h; exact fun v H2 Av2 φ2 G e2 r ap st2 og => h v H2 Av2 φ2 G e2 r ap (st1.trans st2 ok) (og.step st1)

theorem s_and1 {op : BoolOp} {a : Expr} {m : M D} (ha : PE X a (RE (Cx.gd X W xr) c m)) : PE X (.BoolOp op [a] pos) (RE (Cx.gd X W xr) c m) := pe_one ha
theorem s_and {a b : Expr} {rest : List Expr} {m n : M D} (ha : PE X a (RE (Cx.gd X W xr) c m)) (hb : PE X (.BoolOp .And (b :: rest) pos) (RE (Cx.gd X W xr) c n)) : PE X (.BoolOp .And (a :: b :: rest) pos) (RE (Cx.gd X W xr) c (mAndV m n)) := by
  refine PE.weak (pe_and ha hb) fun σ H Q ⟨Av, ρ, φ, e, h⟩ => ⟨Av, ρ, φ, e, ?_⟩
  unfold mAndV at h
  cases q : m c ρ with
  | bad => simp only [bnd, q] at h
  | exc x ρ' => simp only [bnd, q] at h; exact h
  | ok d ρ1 =>
    simp only [bnd, q] at h
    intro v H1 Av1 φ1 G1 e1 r1 ap1 st1 og1
    cases r1 with
    | bl b =>
      refine ⟨b, rfl, ?_⟩
      cases b with
      | true => rw [if_pos rfl]; exact RE.from e1 st1 e.ok h
      | false => rw [if_neg Bool.false_ne_true]; exact h _ _ _ _ _ e1 (.bl false) Apart.nil st1 OrgG.nil
    | _ => exact h.elim
theorem s_or {a b : Expr} {rest : List Expr} {m n : M D} (ha : PE X a (RE (Cx.gd X W xr) c m)) (hb : PE X (.BoolOp .Or (b :: rest) pos) (RE (Cx.gd X W xr) c n)) : PE X (.BoolOp .Or (a :: b :: rest) pos) (RE (Cx.gd X W xr) c (mOrV m n)) := by
  refine PE.weak (pe_or ha hb) fun σ H Q ⟨Av, ρ, φ, e, h⟩ => ⟨Av, ρ, φ, e, ?_⟩
  unfold mOrV at h
  cases q : m c ρ with
  | bad => simp only [bnd, q] at h
  | exc x ρ' => simp only [bnd, q] at h; exact h
  | ok d ρ1 =>
    simp only [bnd, q] at h
    intro v H1 Av1 φ1 G1 e1 r1 ap1 st1 og1
    cases r1 with
    | bl b =>
      refine ⟨b, rfl, ?_⟩
      cases b with
      | true => rw [if_pos rfl]; exact h _ _ _ _ _ e1 (.bl true) Apart.nil st1 OrgG.nil
      | false => rw [if_neg Bool.false_ne_true]; exact RE.from e1 st1 e.ok h
    | _ => exact h.elim

/-! ### slices -/
/-- an optional part: none, or an int -/
def RPO (g : Gd) (c : Ctx) (m : M (Option Int)) : TO := fun σ H Q => ∃ Av ρ φ, EnvR g.K Av H σ ρ φ ∧
  match m c ρ with
  | .ok o ρ' => ∀ H' Av' φ', EnvR g.K Av' H' σ ρ' φ' → Step c.lock Av Av' H H' φ φ' → Q o H'
  | .exc e ρ' => RX g c Av H φ σ e ρ'
  | .bad => False
def asI : D → Option Int
  | .int i => some i
  | _ => none
def mPart (m : M D) : M (Option Int) := bnd m fun d => match asI d with | some i => pur (some i) | none => bad
theorem rep_asI {i : Int} (r : Rep K Av H G v d) (h : asI d = some i) : v = .int i := by
  cases r with
  | int j => cases h; rfl
  | _ => cases h
theorem PO.weak {o : Option Expr} {t t' : TO} (h : PO X o t) (w : ∀ σ H Q, t' σ H Q → t σ H Q) : PO X o t' := ⟨fun pins s σ H Q I q => h.run pins s σ H Q I (w σ H Q q)⟩
theorem p_none : PO X none (RPO (Cx.gd X W xr) c (pur none)) := PO.weak po_none fun σ H Q ⟨Av, ρ, φ, e, h⟩ => h H Av φ e Step.refl
theorem p_some {a : Expr} {m : M D} (ha : PE X a (RE (Cx.gd X W xr) c m)) : PO X (some a) (RPO (Cx.gd X W xr) c (mPart m)) := by
  refine PO.weak (po_some ha) fun σ H Q ⟨Av, ρ, φ, e, h⟩ => ⟨Av, ρ, φ, e, ?_⟩
  unfold mPart at h
  cases q : m c ρ with
  | bad => simp only [bnd, q] at h
  | exc x ρ' => simp only [bnd, q] at h; exact h
  | ok d ρ1 =>
    simp only [bnd, q] at h
    intro v H' Av' φ' G e' r ap st og
    cases q2 : asI d with
    | none => simp only [q2, bad] at h
    | some i =>
      simp only [q2, pur] at h
      exact ⟨i, rep_asI r q2, h H' (fun a => Av' a ∧ a ∉ G) φ' (e'.lessA (fun a h => h.1) fun i a h => ⟨e'.own h, fun z => ap a z i h⟩) (st.drop og e.ok (fun a h => h.1) fun a h n => ⟨h, n⟩)⟩
def mSlice (p : Option Int → Option Int → List D → Option D) (ma : M Opd) (ml mh : M (Option Int)) : M D := bnd ma fun o => bnd ml fun lo => bnd mh fun hi => mGets gC (p lo hi) [o]
theorem s_slice {a : Expr} {lo hi : Option Expr} {p2 : Pos} {p : Option Int → Option Int → List D → Option D} {ma : M Opd} {ml mh : M (Option Int)} (hs : SlR X (fun x lo hi H Q => rPrim X.K (p lo hi) [x] H Q))
    (ha : PE X a (RO (Cx.gd X W xr) c ma)) (hl : PO X lo (RPO (Cx.gd X W xr) c ml)) (hh : PO X hi (RPO (Cx.gd X W xr) c mh)) : PE X (.Subscript a (.Slice lo hi none p2) pos) (RE (Cx.gd X W xr) c (mSlice p ma ml mh)) := by
  refine PE.weak (pe_slice hs ha hl hh) fun σ H Q ⟨Av, ρ, φ, e, h⟩ => ⟨Av, ρ, φ, e, ?_⟩
  unfold mSlice at h
  cases q : ma c ρ with
  | bad => simp only [bnd, q] at h
  | exc x ρ' => simp only [bnd, q] at h; exact h
  | ok o ρ1 =>
    simp only [bnd, q] at h
    intro v H1 Av1 φ1 G1 e1 r1 ap1 nd1 st1 og1
    refine ⟨Av1, ρ1, φ1, e1, ?_⟩
    cases q2 : ml c ρ1 with
    | bad => simp only [q2] at h
    | exc x ρ' => simp only [q2] at h; exact RX.from st1 e.ok h
    | ok lo ρ2 =>
      simp only [q2] at h
      intro H2 Av2 φ2 e2 st2
      refine ⟨Av2, ρ2, φ2, e2, ?_⟩
      have st12 := st1.trans st2 e.ok
      cases q3 : mh c ρ2 with
      | bad => simp only [q3] at h
      | exc x ρ' => simp only [q3] at h; exact RX.from st12 e.ok h
      | ok hi ρ3 =>
        simp only [q3] at h
        intro H3 Av3 φ3 e3 st3
        have st13 := st2.trans st3 e1.ok
        have r1' : RepO X.K Av3 H3 σ G1 v o := r1.keep e1.ok (fun a ⟨i, h⟩ => e1.own h) st13.keeps fun a ha ⟨i, h⟩ => ap1 a ha i h
        have th : ∀ a ∈ G1, H1 a ≠ none := fun a ha => by
          obtain ⟨o', q', _⟩ := e1.ok a (r1.av a ha)
          rw [q']; exact fun z => nomatch z
        have rl : RepOL X.K Av3 H3 σ (G1 ++ []) [v] [o] := .cons r1' .nil
        rw [List.append_nil] at rl
        exact prim_fin (pos := pos) (g := Cx.gd X W xr) (st12.trans st3 e.ok) e.ok og1 e3 rl nd1 (ap1.step st13 th) h

/-! ### calls -/
/-- what a call gives: the value, the arguments behind it -/
inductive Fo where
  | ok (d : D) (as : List (Option D)) | exc (e : D) (as : List (Option D)) | bad
abbrev Fns := Str → List D → Fo
def isOwn : D → Bool
  | .lst o _ => o
  | .dct o _ => o
  | .set o _ => o
  | _ => false
/-- an argument that is a name: what is owned is lent -/
def aVar (i : Nat) : M (D × Option Nat) := fun c ρ => match ρ[i]? with
  | some (some d) => if isOwn d = true ∧ i ∉ c.lock then .ok (d, some i) (ρ.set i none) else .ok (frz d, none) (ρ.set i (some (frz d)))
  | _ => .bad
def aE (m : M D) : M (D × Option Nat) := bnd m fun d => pur (d, none)
/-- what was lent comes back -/
def back : List (D × Option Nat) → List (Option D) → Env → Option Env
  | (_, some i) :: ps, a :: as, ρ => match ρ[i]? with
    | some none => back ps as (ρ.set i a)
    | _ => none
  | (_, none) :: ps, _ :: as, ρ => back ps as ρ
  | [], _, ρ => some ρ
  | _ :: _, [], _ => none
def mCall (n : Nat) (Φ : List D → Fo) (margs : M (List (D × Option Nat))) : M D := bnd margs fun ps => fun _ ρ => if ps.length = n then match Φ (ps.map (·.1)) with
    | .ok d as => match back ps as ρ with
      | some ρ' => .ok d ρ'
      | none => .bad
    | .exc e as => match back ps as ρ with
      | some ρ' => .exc e ρ'
      | none => .bad
    | .bad => .bad
  else .bad

/-- arguments: ψ what each owns -/
structure ArgR (K : PySem.W.Frag) (Av : Addr → Prop) (H : Hp) (σ : St) (lock : List Nat) (vs : List V) (ps : List (D × Option Nat)) (ψ : Nat → List Addr) : Prop where
  env : EnvR K Av H (vs.map some) (ps.map fun p => some p.1) ψ
  lent : ∀ (j : Nat) (d : D) (i : Nat), ps[j]? = some (d, some i) → i ∉ lock ∧ ∃ v, vs[j]? = some v ∧ σ[i]? = some (some v)
def RAL (g : Gd) (c : Ctx) (m : M (List (D × Option Nat))) : TA := fun σ H Q => ∃ Av ρ φ, EnvR g.K Av H σ ρ φ ∧
  match m c ρ with
  | .ok ps ρ' => ∀ vs H' Av' φ' ψ, EnvR g.K Av' H' σ ρ' φ' → ArgR g.K Av' H' σ c.lock vs ps ψ → (∀ j, Apart (ψ j) φ') → Step c.lock Av Av' H H' φ φ' → (∀ j, OrgG c.lock H φ (ψ j)) → Q vs H'
  | .exc e ρ' => RX g c Av H φ σ e ρ'
  | .bad => False
/-- one argument -/
def RA1 (g : Gd) (c : Ctx) (m : M (D × Option Nat)) : TE := fun σ H Q => ∃ Av ρ φ, EnvR g.K Av H σ ρ φ ∧
  match m c ρ with
  | .ok p ρ' => ∀ v H' Av' φ' G, EnvR g.K Av' H' σ ρ' φ' → Rep g.K Av' H' G v p.1 → Apart G φ' → Step c.lock Av Av' H H' φ φ' → OrgG c.lock H φ G → (∀ i, p.2 = some i → i ∉ c.lock ∧ σ[i]? = some (some v)) → Q v H'
  | .exc e ρ' => RX g c Av H φ σ e ρ'
  | .bad => False
theorem a_val {ex : Expr} {m : M D} (h : PE X ex (RE (Cx.gd X W xr) c m)) : PE X ex (RA1 (Cx.gd X W xr) c (aE m)) := by
  refine PE.weak h fun σ H Q ⟨Av, ρ, φ, e, h⟩ => ⟨Av, ρ, φ, e, ?_⟩
  unfold aE bnd at h
  cases q : m c ρ with
  | bad => rw [q] at h; exact h.elim
  | exc x ρ' => rw [q] at h; exact h
  | ok d ρ' =>
    rw [q] at h
    exact fun v H' Av' φ' G e' r ap st og => h v H' Av' φ' G e' r ap st og fun i z => nomatch z
theorem a_name {i : Nat} {x : Str} (hN : X.N[i]? = some x) (hv : Vis X.env.scope x) (hd : (x == ("__debug__" : Str)) = false) (hcd : (x == ("__classdict__" : Str)) = false) : PE X (.Name x pos) (RA1 (Cx.gd X W xr) c (aVar i)) := by
  refine PE.weak (pe_var hN hv hd hcd) fun σ H Q ⟨Av, ρ, φ, e, h⟩ => ?_
  unfold aVar at h
  cases q : ρ[i]? with
  | none => rw [q] at h; exact h.elim
  | some x =>
    cases x with
    | none => rw [q] at h; exact h.elim
    | some d =>
      rw [q] at h
      dsimp only at h
      by_cases hc : isOwn d = true ∧ i ∉ c.lock
      · rw [if_pos hc] at h
        obtain ⟨v, hv, r⟩ := e.rep i d q
        have hlt := get_lt q
        refine ⟨v, hv, h v H Av (fun j => if j = i then [] else φ j) (φ i) ⟨by rw [List.length_set]; exact e.len, fun j dj hj => ?_, fun j hj => ?_, fun j k a h1 h2 => ?_, e.ok⟩ r (fun a ha j z => ?_) ⟨fun _ _ h _ => h, fun _ h => h, fun _ h => .inl h, fun _ h _ => h, fun j a h => ?_⟩
          (fun a ha => .inl ⟨i, hc.2, ha⟩) fun k hk => ?_⟩
        · by_cases z : j = i
          · subst z; rw [List.getElem?_set_self hlt] at hj; cases hj
          · rw [List.getElem?_set_ne (Ne.symm z)] at hj
            rw [if_neg z]
            exact e.rep j dj hj
        · by_cases z : j = i
          · exact if_pos z
          · rw [List.getElem?_set_ne (Ne.symm z)] at hj
            exact (if_neg z).trans (e.emp j hj)
        · have m : ∀ j, a ∈ (if j = i then [] else φ j) → a ∈ φ j := fun j h => by
            by_cases q : j = i
            · subst q; rw [if_pos rfl] at h; cases h
            · rw [if_neg q] at h; exact h
          exact e.dis j k a (m j h1) (m k h2)
        · have z : a ∈ (if j = i then [] else φ j) := z
          by_cases q : j = i
          · rw [if_pos q] at z; cases z
          · rw [if_neg q] at z; exact q (e.dis j i a z ha)
        · have h : a ∈ (if j = i then [] else φ j) := h
          by_cases q : j = i
          · rw [if_pos q] at h; cases h
          · rw [if_neg q] at h; exact .inl h
        · have hk : some i = some k := hk
          cases hk
          exact ⟨hc.2, hv⟩
      · rw [if_neg hc] at h
        obtain ⟨v, Av', φ', hv, e1, s1, r1, _⟩ := e.freeze (lock := c.lock) q
        exact ⟨v, hv, h v H Av' φ' [] e1 r1 Apart.nil s1 OrgG.nil fun k z => nomatch z⟩
theorem al_nil : PA X [] (RAL (Cx.gd X W xr) c (pur [])) :=
  PA.weak pa_nil fun σ H Q ⟨Av, ρ, φ, e, h⟩ => h [] H Av φ (fun _ => []) e ⟨⟨rfl, fun i d h => (nomatch h), fun _ _ => rfl, fun _ _ _ h => (nomatch h), e.ok⟩, fun j d i h => (nomatch h)⟩ (fun _ => Apart.nil) Step.refl fun _ => OrgG.nil
theorem al_cons {ex : Expr} {es : List Expr} {m : M (D × Option Nat)} {ms : M (List (D × Option Nat))} (h1 : PE X ex (RA1 (Cx.gd X W xr) c m)) (h2 : PA X es (RAL (Cx.gd X W xr) c ms)) (hs : starEach (ex :: es) X.env = (false, eval ex X.env) :: starEach es X.env) :
    PA X (ex :: es) (RAL (Cx.gd X W xr) c (bnd m fun o => bnd ms fun os => pur (o :: os))) := by
  refine PA.weak (pa_cons h1 h2 hs) fun σ H Q ⟨Av, ρ, φ, e, h⟩ => ⟨Av, ρ, φ, e, ?_⟩
  cases q : m c ρ with
  | bad => simp only [bnd, q] at h
  | exc x ρ' => simp only [bnd, q] at h; exact h
  | ok o ρ1 =>
    simp only [bnd, q] at h
    intro v H1 Av1 φ1 G1 e1 r1 ap1 st1 og1 ln1
    refine ⟨Av1, ρ1, φ1, e1, ?_⟩
    cases q2 : ms c ρ1 with
    | bad => simp only [q2] at h
    | exc x ρ' => simp only [q2] at h; exact RX.from st1 e.ok h
    | ok os ρ2 =>
      simp only [q2, pur] at h
      intro vs H2 Av2 φ2 ψ e2 ar ap2 st2 og2
      have r1' := r1.step st2 e1 ap1
      have th := r1.there e1.ok
      have far : ∀ j a, a ∈ G1 → a ∉ ψ j := fun j a ha hb => by
        rcases og2 j a hb with ⟨k, _, z⟩ | z
        · exact ap1 a ha k z
        · exact th a ha z
      refine h (v :: vs) H2 Av2 φ2 (fun j => match j with | 0 => G1 | j + 1 => ψ j) e2 ⟨⟨?_, fun j d hj => ?_, fun j hj => ?_, fun j k a h1 h2 => ?_, e2.ok⟩, fun j d i hj => ?_⟩ (fun j => ?_) (st1.trans st2 e.ok) fun j => ?_
      · have := ar.env.len
        simpa using this
      · cases j with
        | zero =>
          have z : some o.1 = some d := by simpa using hj
          cases z
          exact ⟨v, rfl, r1'⟩
        | succ j => exact ar.env.rep j d (by simpa using hj)
      · cases j with
        | zero => exact absurd rfl (hj o.1)
        | succ j => exact ar.env.emp j fun d z => hj d (by simpa using z)
      · cases j with
        | zero =>
          cases k with
          | zero => rfl
          | succ k => exact absurd h2 (far k a h1)
        | succ j =>
          cases k with
          | zero => exact absurd h1 (far j a h2)
          | succ k => rw [ar.env.dis j k a h1 h2]
      · cases j with
        | zero =>
          have z : o = (d, some i) := by simpa using hj
          obtain ⟨n1, n2⟩ := ln1 i (by rw [z])
          exact ⟨n1, v, rfl, n2⟩
        | succ j => exact ar.lent j d i (by simpa using hj)
      · cases j with
        | zero => exact ap1.step st2 th
        | succ j => exact ap2 j
      · cases j with
        | zero => exact og1
        | succ j => exact (og2 j).step st1

/-- a def's promise by its meaning -/
def spF (K : PySem.W.Frag) (xr : (Addr → Prop) → Hp → D → Value → Option Addr → Prop) (n : Nat) (Φ : List D → Fo) : Sp := fun vs H Q E => vs.length = n ∧ ∃ Av ds ψ, EnvR K Av H (vs.map some) (ds.map some) ψ ∧
  match Φ ds with
  | .ok d as => ∀ v H' Av' ψ' G, EnvR K Av' H' (vs.map some) as ψ' → Rep K Av' H' G v d → Apart G ψ' → Step [] Av Av' H H' ψ ψ' → OrgG [] H ψ G → Q v H'
  | .exc e as => ∀ cls x H' Av' ψ', EnvR K Av' H' (vs.map some) as ψ' → xr Av' H' e cls x → Step [] Av Av' H H' ψ ψ' → E cls x H'
  | .bad => False

/-- what was lent is put back: by one place after another -/
theorem back_ok {lock : List Nat} {Av0 : Addr → Prop} {H0 : Hp} {φ0 : Nat → List Addr} (ok0 : AvOk Av0 H0) : ∀ (ps : List (D × Option Nat)) (as : List (Option D)) (vs : List V) {ρ ρ' : Env} {φ ψ : Nat → List Addr},
    Step lock Av0 Av H0 H φ0 φ → EnvR K Av H σ ρ φ → EnvR K Av H (vs.map some) as ψ → (∀ j, Apart (ψ j) φ) → (∀ j, OrgG lock H0 φ0 (ψ j)) →
    (∀ (j : Nat) (d : D) (i : Nat), ps[j]? = some (d, some i) → i ∉ lock ∧ ∃ v, vs[j]? = some v ∧ σ[i]? = some (some v)) → back ps as ρ = some ρ' →
    ∃ φ', EnvR K Av H σ ρ' φ' ∧ Step lock Av0 Av H0 H φ0 φ' ∧ ∀ i a, a ∈ φ' i → a ∈ φ i ∨ ∃ j, a ∈ ψ j
  | [], as, vs, ρ, ρ', φ, ψ, S, e, ea, ap, og, ln, h => by
    have h' : some ρ = some ρ' := h
    cases h'
    exact ⟨φ, e, S, fun i a h => .inl h⟩
  | (d, o) :: ps, [], vs, ρ, ρ', φ, ψ, S, e, ea, ap, og, ln, h => by
    cases o <;> cases h
  | (d, o) :: ps, a :: as, vs, ρ, ρ', φ, ψ, S, e, ea, ap, og, ln, h => by
    obtain ⟨v, vs', rfl⟩ : ∃ v vs', vs = v :: vs' := by
      cases vs with
      | nil => have := ea.len; simp at this
      | cons v vs => exact ⟨_, _, rfl⟩
    have ea' : EnvR K Av H (vs'.map some) as (fun j => ψ (j + 1)) :=
      ⟨by have := ea.len; simpa using this, fun i d hi => ea.rep (i + 1) d (by simpa using hi), fun i hi => ea.emp (i + 1) fun d z => hi d (by simpa using z), fun i j x h1 h2 => by have := ea.dis _ _ x h1 h2; omega, ea.ok⟩
    have ln' : ∀ (j : Nat) (d : D) (i : Nat), ps[j]? = some (d, some i) → i ∉ lock ∧ ∃ v, vs'[j]? = some v ∧ σ[i]? = some (some v) := fun j d i hj => by
      obtain ⟨n, w, h1, h2⟩ := ln (j + 1) d i (by simpa using hj)
      exact ⟨n, w, by simpa using h1, h2⟩
    cases o with
    | none =>
      have h' : back ps as ρ = some ρ' := h
      obtain ⟨φ', e', S', m'⟩ := back_ok ok0 ps as vs' S e ea' (fun j => ap (j + 1)) (fun j => og (j + 1)) ln' h'
      exact ⟨φ', e', S', fun i x hx => (m' i x hx).imp id fun ⟨j, hj⟩ => ⟨j + 1, hj⟩⟩
    | some i =>
      have h' : (match ρ[i]? with | some none => back ps as (ρ.set i a) | _ => none) = some ρ' := h
      cases q : ρ[i]? with
      | none => rw [q] at h'; cases h'
      | some x =>
        cases x with
        | some y => rw [q] at h'; cases h'
        | none =>
          rw [q] at h'
          dsimp only at h'
          obtain ⟨ni, w, hw, hs⟩ := ln 0 d i rfl
          have hw' : v = w := by simpa using hw
          subst hw'
          have hlt := get_lt q
          have fi : φ i = [] := e.emp i fun d z => by rw [q] at z; cases z
          have e1 : EnvR K Av H σ (ρ.set i a) (fun j => if j = i then ψ 0 else φ j) := by
            refine ⟨by rw [List.length_set]; exact e.len, fun j dj hj => ?_, fun j hj => ?_, fun j k x h1 h2 => ?_, e.ok⟩
            · by_cases z : j = i
              · subst z
                rw [List.getElem?_set_self hlt] at hj
                have hj : a = some dj := Option.some.inj hj
                subst hj
                obtain ⟨w2, hw2, ra⟩ := ea.rep 0 dj rfl
                have hw2' : v = w2 := by simpa using hw2
                subst hw2'
                exact ⟨v, hs, by rw [if_pos rfl]; exact ra⟩
              · rw [List.getElem?_set_ne (Ne.symm z)] at hj
                rw [if_neg z]
                exact e.rep j dj hj
            · by_cases z : j = i
              · subst z
                refine (if_pos rfl).trans (ea.emp 0 fun d z => hj d ?_)
                rw [List.getElem?_set_self hlt]
                exact z
              · rw [List.getElem?_set_ne (Ne.symm z)] at hj
                exact (if_neg z).trans (e.emp j hj)
            · have h1 : x ∈ (if j = i then ψ 0 else φ j) := h1
              have h2 : x ∈ (if k = i then ψ 0 else φ k) := h2
              by_cases z1 : j = i <;> by_cases z2 : k = i
              · rw [z1, z2]
              · rw [if_pos z1] at h1; rw [if_neg z2] at h2; exact absurd h2 (ap 0 x h1 k)
              · rw [if_neg z1] at h1; rw [if_pos z2] at h2; exact absurd h1 (ap 0 x h2 j)
              · rw [if_neg z1] at h1; rw [if_neg z2] at h2; exact e.dis j k x h1 h2
          have S1 : Step lock Av0 Av H0 H φ0 (fun j => if j = i then ψ 0 else φ j) := ⟨S.keep, S.there, S.av, S.own, fun j x hx => by
            have hx : x ∈ (if j = i then ψ 0 else φ j) := hx
            by_cases z : j = i
            · rw [if_pos z] at hx
              exact .inr ⟨by rw [z]; exact ni, og 0 x hx⟩
            · rw [if_neg z] at hx
              exact S.org j x hx⟩
          obtain ⟨φ', e', S', m'⟩ := back_ok ok0 ps as vs' S1 e1 ea' (fun j x hx k z => by
            have z : x ∈ (if k = i then ψ 0 else φ k) := z
            by_cases q : k = i
            · rw [if_pos q] at z
              have := ea.dis _ _ x z hx
              omega
            · rw [if_neg q] at z
              exact ap (j + 1) x hx k z) (fun j => og (j + 1)) ln' h'
          refine ⟨φ', e', S', fun k x hx => ?_⟩
          rcases m' k x hx with z | ⟨j, z⟩
          · have z : x ∈ (if k = i then ψ 0 else φ k) := z
            by_cases q : k = i
            · rw [if_pos q] at z; exact .inr ⟨0, z⟩
            · rw [if_neg q] at z; exact .inl z
          · exact .inr ⟨j + 1, z⟩

/-- the call -/
theorem ral_fin {Φ : List D → Fo} {n : Nat} {margs : M (List (D × Option Nat))} {g : Gd} {Q : VK} (h : RE g c (mCall n Φ margs) σ H Q) :
    RAL g c margs σ H fun vs H1 => spF g.K g.xr n Φ vs H1 Q (fun cls d H' => g.W cls d σ H') := by
  obtain ⟨Av, ρ, φ, e, h⟩ := h
  refine ⟨Av, ρ, φ, e, ?_⟩
  unfold mCall at h
  cases q : margs c ρ with
  | bad => simp only [bnd, q] at h
  | exc x ρ' => simp only [bnd, q] at h; exact h
  | ok ps ρ1 =>
    simp only [bnd, q] at h
    intro vs H1 Av1 φ1 ψ e1 ar ap1 st1 og1
    by_cases hn : ps.length = n
    case neg => rw [if_neg hn] at h; exact h.elim
    rw [if_pos hn] at h
    have hl : vs.length = n := by
      have := ar.env.len
      rw [List.length_map, List.length_map] at this
      rw [this]; exact hn
    have ar' : EnvR g.K Av1 H1 (vs.map some) ((ps.map (·.1)).map some) ψ := by
      rw [List.map_map]; exact ar.env
    refine ⟨hl, Av1, ps.map (·.1), ψ, ar', ?_⟩
    -- the slots behind the call
    have after : ∀ {as : List (Option D)} {H2 : Hp} {Av2 : Addr → Prop} {ψ' : Nat → List Addr}, EnvR g.K Av2 H2 (vs.map some) as ψ' → Step [] Av1 Av2 H1 H2 ψ ψ' →
        EnvR g.K Av2 H2 σ ρ1 φ1 ∧ Step c.lock Av Av2 H H2 φ φ1 ∧ (∀ j, Apart (ψ' j) φ1) ∧ ∀ j, OrgG c.lock H φ (ψ' j) := fun {as H2 Av2 ψ'} ea st => by
      have k := st.keeps
      have k' : Keep Av1 Av2 H1 H2 fun x => ∃ i, x ∈ ψ i := k
      refine ⟨⟨e1.len, fun i d hi => ?_, e1.emp, e1.dis, ea.ok⟩, ⟨fun a o ha n => ?_, fun a ha => st.there a (st1.there a ha), fun a ha => ?_, fun a ha n => ?_, fun i a ha => st1.org i a ha⟩, fun j a ha i z => ?_, fun j a ha => ?_⟩
      · obtain ⟨v, h1, r⟩ := e1.rep i d hi
        exact ⟨v, h1, r.keep e1.ok (fun a ⟨j, h⟩ => ar'.own h) k' fun a ha ⟨j, z⟩ => ap1 j a z i ha⟩
      · refine st.keep a o (st1.keep a o ha n) fun j _ z => ?_
        rcases og1 j a z with ⟨k, hk, q⟩ | q
        · exact n k hk q
        · rw [ha] at q; cases q
      · rcases st.av a ha with z | z
        · exact st1.av a z
        · by_cases y : H a = none
          · exact .inr y
          · exact absurd z (st1.there a y)
      · refine st.own a (st1.own a ha n) fun j z => ?_
        rcases og1 j a z with ⟨k, hk, q⟩ | q
        · exact n k q
        · obtain ⟨o, eo, _⟩ := e.ok a ha
          rw [eo] at q; cases q
      · rcases st.org j a ha with q | ⟨_, ⟨k, _, q⟩ | q⟩
        · exact ap1 j a q i z
        · exact ap1 k a q i z
        · exact e1.there z q
      · rcases st.org j a ha with q | ⟨_, ⟨k, _, q⟩ | q⟩
        · exact og1 j a q
        · exact og1 k a q
        · by_cases y : H a = none
          · exact .inr y
          · exact absurd q (st1.there a y)
    cases q2 : Φ (ps.map (·.1)) with
    | bad => simp only [q2] at h
    | exc x as =>
      simp only [q2] at h
      cases q3 : back ps as ρ1 with
      | none => simp only [q3] at h
      | some ρ2 =>
        simp only [q3] at h
        intro cls y H2 Av2 ψ' ea hx st
        obtain ⟨e2, S2, a2, o2⟩ := after ea st
        obtain ⟨φ', e3, S3, _⟩ := back_ok e.ok ps as vs S2 e2 ea a2 o2 ar.lent q3
        exact h cls y σ H2 Av2 φ' e3 hx S3 fun _ _ => rfl
    | ok d as =>
      simp only [q2] at h
      cases q3 : back ps as ρ1 with
      | none => simp only [q3] at h
      | some ρ2 =>
        simp only [q3] at h
        intro v H2 Av2 ψ' G ea r ap st og
        obtain ⟨e2, S2, a2, o2⟩ := after ea st
        obtain ⟨φ', e3, S3, m3⟩ := back_ok e.ok ps as vs S2 e2 ea a2 o2 ar.lent q3
        refine h v H2 Av2 φ' G e3 r (fun a ha i z => ?_) S3 fun a ha => ?_
        · rcases m3 i a z with z | ⟨j, z⟩
          · rcases og a ha with ⟨k, _, q⟩ | q
            · exact ap1 k a q i z
            · exact e1.there z q
          · exact ap a ha j z
        · rcases og a ha with ⟨k, _, q⟩ | q
          · exact og1 k a q
          · by_cases y : H a = none
            · exact .inr y
            · exact absurd q (st1.there a y)
end
end Y

end
section
set_option Elab.async false
set_option linter.all false
set_option maxRecDepth 100000
set_option autoImplicit false
/-! Y7: what is walked; targets; for; comprehensions; while. -/
namespace Y
open PySem L2
section
variable {K : PySem.W.Frag} {Av Av0 Av1 Av2 Av' : Addr → Prop} {H H0 H1 H2 H' : Hp} {φ φ0 φ1 φ2 φ' : Nat → List Addr} {lock lock' : List Nat} {σ σ' : St} {ρ ρ' : Env} {F G : List Addr} {v : V} {d : D} {vs : List V} {ds : List D}

theorem SqT.keep0 {T : Addr → Prop} {a : Addr} (ok : AvOk Av H) (hT : ∀ a, T a → Av a) (k : ∀ a o, H a = some o → ¬ T a → H' a = some o) (h : SqT K H a vs) : SqT K H' a vs := by
  have n : ∀ {o}, H a = some o → ¬ Mut (some o) → ¬ T a := fun {o} e m t => by
    obtain ⟨o', e', m'⟩ := ok a (hT a t)
    rw [e] at e'; cases e'; exact m m'
  rcases h with (h | ⟨o, h⟩) | h
  · exact .inl (.inl (k _ _ h (n h fun z => z)))
  · exact .inl (.inr ⟨o, k _ _ h (n h fun z => z)⟩)
  · exact .inr h
theorem rd_keep0 {T : Addr → Prop} {a : Addr} {u : HO} (k : ∀ a o, H a = some o → ¬ T a → H' a = some o) (h : Rd H a u) (n : ¬ T a) : Rd H' a u := by
  rcases h with h | ⟨o, h⟩
  · exact .inl (k _ _ h n)
  · exact .inr ⟨o, k _ _ h n⟩
/-! what owns nothing stays under less -/
mutual
theorem Rep.keep0 {T : Addr → Prop} (ok : AvOk Av H) (hT : ∀ a, T a → Av a) (k : ∀ a o, H a = some o → ¬ T a → H' a = some o) (av : ∀ a, Av' a → Av a ∨ H a = none) {F : List Addr} {v : V} {d : D} (h : Rep K Av H F v d) (hF : F = []) : Rep K Av' H' [] v d := by
  cases h with
  | non => exact .non
  | bl b => exact .bl b
  | int i => exact .int i
  | str s => exact .str s
  | tup h1 h2 => exact .tup (SqT.keep0 ok hT k h1) (RepL.keep0 ok hT k av h2 rfl)
  | lstK h1 h3 => exact .lstK h1 (RepL.keep0 ok hT k av h3 rfl)
  | lstF h1 h2 h3 =>
    refine .lstF (rd_keep0 k h1 fun t => h2 (hT _ t)) (fun z => ?_) (RepL.keep0 ok hT k av h3 rfl)
    rcases av _ z with z | z
    · exact h2 z
    · obtain ⟨o, e⟩ := rd_some h1
      rw [e] at z; cases z
  | lstO _ _ _ _ _ => cases hF
theorem RepL.keep0 {T : Addr → Prop} (ok : AvOk Av H) (hT : ∀ a, T a → Av a) (k : ∀ a o, H a = some o → ¬ T a → H' a = some o) (av : ∀ a, Av' a → Av a ∨ H a = none) {F : List Addr} {vs : List V} {ds : List D} (h : RepL K Av H F vs ds) (hF : F = []) : RepL K Av' H' [] vs ds := by
  cases h with
  | nil => exact .nil
  | cons h1 h2 =>
    obtain ⟨e1, e2⟩ := List.append_eq_nil_iff.mp hF
    exact .cons (F := []) (G := []) (Rep.keep0 ok hT k av h1 e1) (RepL.keep0 ok hT k av h2 e2)
end
theorem Step.mono (s : Step lock' Av Av' H H' φ φ') (h : ∀ i ∈ lock, i ∈ lock') : Step lock Av Av' H H' φ φ' :=
  ⟨fun a o e n => s.keep a o e fun i hi => n i fun z => hi (h i z), s.there, s.av, s.own, fun i a ha => (s.org i a ha).imp id fun ⟨h1, h2⟩ => ⟨fun z => h1 (h i z), h2.imp (fun ⟨j, hj, q⟩ => ⟨j, fun z => hj (h j z), q⟩) id⟩⟩

/-! ### what is walked -/
/-- J walks the trees ds while ok stands; own: the owned addresses that it hangs on -/
structure Src (K : PySem.W.Frag) (J : It) (ds : List D) (own : List Addr) (ok : (Addr → Prop) → Hp → Prop) : Prop where
  go : ∀ Av H i d, ok Av H → AvOk Av H → ds[i]? = some d → J.go i H ∧ ∀ x H', J.yld i H x H' → Grow Av Av H H' [] ∧ Rep K Av H' [] x d
  stop : ∀ Av H, ok Av H → J.stop ds.length H
  keep : ∀ (Av Av' : Addr → Prop) (H H' : Hp) (T : Addr → Prop), AvOk Av H → (∀ a, T a → Av a) → (∀ a o, H a = some o → ¬ T a → H' a = some o) → (∀ a, Av' a → Av a ∨ H a = none) → (∀ a ∈ own, ¬ T a) → ok Av H → ok Av' H'
/-- a source: its trees, the slots that may not change while it is walked -/
abbrev Sr := List D × List Nat
def RI (g : Gd) (c : Ctx) (m : M Sr) : TI := fun σ H R => ∃ Av ρ φ, EnvR g.K Av H σ ρ φ ∧
  match m c ρ with
  | .ok p ρ' => ∀ (J : It) (H' : Hp) (Av' : Addr → Prop) (φ' : Nat → List Addr) (G own : List Addr) (ok : (Addr → Prop) → Hp → Prop), EnvR g.K Av' H' σ ρ' φ' → Src g.K J p.1 own ok → ok Av' H' → (∀ a ∈ own, a ∈ G ∨ ∃ i ∈ p.2, a ∈ φ' i) → (∀ a ∈ G, Av' a) → Apart G φ' → Step c.lock Av Av' H H' φ φ' → OrgG c.lock H φ G → R J H'
  | .exc e ρ' => RX g c Av H φ σ e ρ'
  | .bad => False
theorem PI.weak {X : Cx} {tg e : Expr} {t t' : TI} (h : PI X tg e t) (w : ∀ σ H R, t' σ H R → t σ H R) : PI X tg e t' := ⟨fun pins s σ H R I q => h.run pins s σ H R I (w σ H R q)⟩

/-- a sequence at a, list or tuple -/
theorem src_list {a : Addr} {own : List Addr} {ds : List D} : Src K (Itl K a) ds own (fun Av H => ∃ vs, ((Rd H a (.lst vs) ∧ (Av a → a ∈ own)) ∨ SqL K (fun _ => none) a vs) ∧ RepL K Av H [] vs ds) where
  go := fun Av H i d ⟨vs, h1, h2⟩ ok e => by
    have hq : SqL K H a vs := h1.elim (fun z => .inl z.1) sql_any
    obtain ⟨x, hx, r⟩ := h2.all2.get e
    exact ⟨⟨vs, x, hq, hx⟩, fun y H' ⟨e1, e2⟩ => by
      subst e1
      have : y = x := Option.some.inj ((e2 vs hq).symm.trans hx)
      subst this
      exact ⟨Grow.refl ok, r⟩⟩
  stop := fun Av H ⟨vs, h1, h2⟩ => ⟨vs, h1.elim (fun z => .inl z.1) sql_any, by rw [h2.length]; exact Nat.le_refl _⟩
  keep := fun Av Av' H H' T ok hT k av n ⟨vs, h1, h2⟩ => ⟨vs, h1.imp (fun ⟨h1, h3⟩ => ⟨rd_keep0 k h1 fun t => n a (h3 (hT a t)) t, fun z => by
    rcases av a z with z | z
    · exact h3 z
    · obtain ⟨o, e⟩ := rd_some h1
      rw [e] at z; cases z⟩) id, h2.keep0 ok hT k av rfl⟩
theorem src_tup {a : Addr} {ds : List D} : Src K (Itt K a) ds [] (fun Av H => ∃ vs, SqT K H a vs ∧ RepL K Av H [] vs ds) where
  go := fun Av H i d ⟨vs, h1, h2⟩ ok e => by
    obtain ⟨x, hx, r⟩ := h2.all2.get e
    exact ⟨⟨vs, x, h1, hx⟩, fun y H' ⟨e1, e2⟩ => by
      subst e1
      have : y = x := Option.some.inj ((e2 vs h1).symm.trans hx)
      subst this
      exact ⟨Grow.refl ok, r⟩⟩
  stop := fun Av H ⟨vs, h1, h2⟩ => ⟨vs, h1, by rw [h2.length]; exact Nat.le_refl _⟩
  keep := fun Av Av' H H' T ok hT k av n ⟨vs, h1, h2⟩ => ⟨vs, SqT.keep0 ok hT k h1, h2.keep0 ok hT k av rfl⟩
theorem rng_get {lo : Int} {n i : Nat} {d : D} (h : ((List.range n).map fun (k : Nat) => D.int (lo + k))[i]? = some d) : i < n ∧ d = .int (lo + i) := by
  rw [List.getElem?_map] at h
  by_cases hi : i < n
  · rw [List.getElem?_range hi] at h
    exact ⟨hi, (Option.some.inj h).symm⟩
  · rw [List.getElem?_eq_none (by simpa using hi)] at h
    cases h
theorem src_rng {lo : Int} {n : Nat} : Src K (Itr lo n) ((List.range n).map fun (k : Nat) => D.int (lo + k)) [] (fun _ _ => True) where
  go := fun Av H i d _ ok e => by
    obtain ⟨hi, rfl⟩ := rng_get e
    exact ⟨hi, fun y H' ⟨e1, e2⟩ => by
      subst e1; subst e2
      exact ⟨Grow.refl ok, .int _⟩⟩
  stop := fun _ _ _ => by
    show n ≤ _
    simp
  keep := fun _ _ _ _ _ _ _ _ _ _ _ => trivial
theorem str_get {x : Str} {i : Nat} {d : D} (h : (x.cps.toList.map fun c => D.str ⟨#[c]⟩)[i]? = some d) : ∃ c, x.cps[i]? = some c ∧ d = .str ⟨#[c]⟩ := by
  rw [List.getElem?_map] at h
  cases q : x.cps.toList[i]? with
  | none => rw [q] at h; cases h
  | some c =>
    rw [q] at h
    exact ⟨c, by simpa using q, (Option.some.inj h).symm⟩
theorem src_str {x : Str} : Src K (Its x) (x.cps.toList.map fun c => D.str ⟨#[c]⟩) [] (fun _ _ => True) where
  go := fun Av H i d _ ok e => by
    obtain ⟨c, hc, rfl⟩ := str_get e
    exact ⟨(Array.getElem?_eq_some_iff.mp hc).1, fun y H' ⟨e1, c', h1, h2⟩ => by
      subst e1; subst h2
      rw [hc] at h1; cases h1
      exact ⟨Grow.refl ok, .str _⟩⟩
  stop := fun _ _ _ => by
    show x.cps.size ≤ _
    simp
  keep := fun _ _ _ _ _ _ _ _ _ _ _ => trivial
end

/-- how a value's walk begins -/
def IterV (X : Cx) (tg : Expr) (r : V → Hp → (It → Hp → Prop) → Prop) : Prop := ∀ (pins : List (Addr × Obj)) (s : Shared) (σ : St) (H : Hp) (x : V) (u : Value) (R : It → Hp → Prop), Inv X pins σ H s → RelV x u → r x H R →
  wpAny (model X.prog X.w) X.A (pyIter u) (PIE X pins σ tg R) X.xe s
section
variable {X : Cx} {tg : Expr}
theorem pi_of {r : V → Hp → (It → Hp → Prop) → Prop} (h : IterV X tg r) {l : Expr} {tl : TE} (hl : PE X l tl) : PI X tg l (fun σ H R => tl σ H fun x H1 => r x H1 R) :=
  ⟨fun pins s σ H R I h' => thn (hl.run pins s σ H _ I h') fun v s1 ⟨x, H1, I1, r1, q1⟩ => h pins s1 σ H1 x v R I1 r1 q1⟩
theorem iv_list : IterV X tg (fun x H R => ∃ a, x = .ref a ∧ (∃ xs, SqL X.K H a xs) ∧ R (Itl X.K a) H) := by
  intro pins s1 σ H1 x u R I1 r1 ⟨a, e, ⟨xs, hq⟩, q⟩
  subst e
  cases r1
  obtain ⟨its, rv, p, hz⟩ := I1.list hq
  refine wpAny_pyIter_list p.isList ?_
  refine ⟨s1.heap.objs.size, [s1.heap.objs.size], _, _, H1, rfl, I1.kept (t' := s1.toks) fun b o e => Heap.get?_push_of_some _ e, turn_list a _, ⟨_, Heap.get?_push_size _ rfl, rfl, rfl⟩, fun b hb => ?_, q⟩
  have e : b = s1.heap.objs.size := by simpa using hb
  subst e
  exact I1.fpOk (Nat.le_refl _) (I1.hok.fresh (Nat.le_refl _))
theorem iv_tup : IterV X tg (fun x H R => ∃ a, x = .ref a ∧ (∃ xs, SqT X.K H a xs) ∧ R (Itt X.K a) H) := by
  intro pins s1 σ H1 x u R I1 r1 ⟨a, e, ⟨xs, hq⟩, q⟩
  subst e
  cases r1
  obtain ⟨its, rv, p, hz⟩ := I1.tuple hq
  refine wpAny_pyIter_tuple (show s1.heap.IsTuple a its.toArray from p) ?_
  refine ⟨s1.heap.objs.size, [s1.heap.objs.size], _, _, H1, rfl, I1.kept (t' := s1.toks) fun b o e => Heap.get?_push_of_some _ e, turn_tuple a _, ⟨_, Heap.get?_push_size _ rfl, rfl, rfl⟩, fun b hb => ?_, q⟩
  have e : b = s1.heap.objs.size := by simpa using hb
  subst e
  exact I1.fpOk (Nat.le_refl _) (I1.hok.fresh (Nat.le_refl _))
theorem iv_str : IterV X tg (fun x H R => ∃ y, x = .str y ∧ R (Its y) H) := by
  intro pins s1 σ H1 x u R I1 r1 ⟨y, e, q⟩
  subst e
  obtain ⟨t, rfl⟩ := r1
  cases ha : y.cps.all (· < 128)
  · exact wpAny_pyIter_wide ha (pi_one (tk := s1.toks) I1 _ (turn_str _ y t "str_iterator" (.inr rfl)) ⟨_, Heap.get?_push_size _ rfl, rfl, rfl⟩ q)
  · exact wpAny_pyIter_ascii ha (pi_one (tk := s1.toks) I1 _ (turn_str _ y t "str_ascii_iterator" (.inl rfl)) ⟨_, Heap.get?_push_size _ rfl, rfl, rfl⟩ q)
theorem IterV.or {r r' : V → Hp → (It → Hp → Prop) → Prop} (h : IterV X tg r) (h' : IterV X tg r') : IterV X tg (fun x H R => r x H R ∨ r' x H R) := by
  intro pins s σ H x u R I rx q
  rcases q with q | q
  · exact h pins s σ H x u R I rx q
  · exact h' pins s σ H x u R I rx q
/-- a list, a tuple, a text -/
def rSeq (K : PySem.W.Frag) : V → Hp → (It → Hp → Prop) → Prop := fun x H R =>
  (∃ a, x = .ref a ∧ (∃ xs, SqL K H a xs) ∧ R (Itl K a) H) ∨ (∃ a, x = .ref a ∧ (∃ xs, SqT K H a xs) ∧ R (Itt K a) H) ∨ (∃ y, x = .str y ∧ R (Its y) H)
theorem iv_seq : IterV X tg (rSeq X.K) := iv_list.or (iv_tup.or iv_str)
end

/-! ### sources -/
/-- the trees that a value's walk gives -/
def items : D → Option (List D)
  | .lst _ xs => some (frz.frzL xs)
  | .tup xs => some (frz.frzL xs)
  | .str x => some (x.cps.toList.map fun c => D.str ⟨#[c]⟩)
  | _ => none
def lockOf : Opd → List Nat
  | .slot i => [i]
  | .val _ => []
/-- over a value -/
def mSrc (ma : M Opd) : M Sr := bnd ma fun o => bnd (gC o) fun d => ofO ((items d).map fun xs => (xs, lockOf o))
section
variable {X : Cx} {W : WX} {xr : (Addr → Prop) → Hp → D → Value → Option Addr → Prop} {c : Ctx} {pos : Pos} {tg : Expr}
variable {K : PySem.W.Frag} {Av Av0 Av1 Av2 Av' : Addr → Prop} {H H0 H1 H2 H' : Hp} {φ φ0 φ1 φ2 φ' : Nat → List Addr} {lock lock' : List Nat} {σ σ' : St} {ρ ρ' : Env} {F G : List Addr} {v : V} {d : D} {vs : List V} {ds : List D}

theorem frzL_idem : ∀ {ds : List D} {vs : List V}, RepL K Av H [] vs ds → frz.frzL ds = ds
  | [], _, _ => rfl
  | d :: ds, _, h => by
    generalize e : ([] : List Addr) = F at h
    cases h with
    | cons h1 h2 =>
      obtain ⟨e1, e2⟩ := List.append_eq_nil_iff.mp e.symm
      subst e1; subst e2
      show frz d :: frz.frzL ds = d :: ds
      rw [frzL_idem h2]
      congr 1
      generalize e3 : ([] : List Addr) = F at h1
      cases h1 with
      | lstF _ _ h3 => show D.lst false (frz.frzL _) = _; rw [frzL_idem h3]
      | lstK _ h3 => show D.lst false (frz.frzL _) = _; rw [frzL_idem h3]
      | lstO _ _ _ _ _ => cases e3
      | _ => rfl

/-- a got operand, walked: S the step from the start; own: the operand's own address where it is owned -/
theorem src_of {o : Opd} {c : Ctx} {xs : List D} (S : Step lock Av0 Av H0 H φ0 φ) (ok0 : AvOk Av0 H0) (og : OrgG lock H0 φ0 F) (e : EnvR K Av H σ ρ φ) (r : RepO K Av H σ F v o) (ap : Apart F φ) (h : gC o c ρ = .ok d ρ') (hi : items d = some xs) :
    ∃ Av1 φ1 own ok J G, EnvR K Av1 H σ ρ' φ1 ∧ Step lock Av0 Av1 H0 H φ0 φ1 ∧ Src K J xs own ok ∧ ok Av1 H ∧ (∀ a ∈ own, a ∈ G ∨ ∃ i ∈ lockOf o, a ∈ φ1 i) ∧ (∀ a ∈ G, Av1 a) ∧ Apart G φ1 ∧ (∀ a ∈ G, a ∈ F) ∧ ∀ R : It → Hp → Prop, R J H → rSeq K v H R := by
  obtain ⟨Av1, φ1, e1, S1, c1, l1, k1, p1⟩ := gC_ok S ok0 og e r ap h
  cases c1 with
  | non => cases hi
  | bl b => cases hi
  | int i => cases hi
  | str s =>
    cases hi
    exact ⟨Av1, φ1, [], _, _, [], e1, S1, src_str, trivial, fun a h => (nomatch h), fun a h => (nomatch h), Apart.nil, fun a h => (nomatch h), fun R q => .inr (.inr ⟨s, rfl, q⟩)⟩
  | @tup a vs ds h1 h2 =>
    cases hi
    rw [frzL_idem h2]
    exact ⟨Av1, φ1, [], _, _, [], e1, S1, src_tup, ⟨vs, h1, h2⟩, fun a h => (nomatch h), fun a h => (nomatch h), Apart.nil, fun a h => (nomatch h), fun R q => .inr (.inl ⟨a, rfl, ⟨vs, h1⟩, q⟩)⟩
  | @lst a vs ds ow h1 h0 h2 =>
    cases hi
    have ef := frzL_idem h2
    rw [ef]
    by_cases hk : ∃ vs, SqL K (fun _ => none) a vs ∧ RepL K Av1 H [] vs ds
    · obtain ⟨vk, k1, k2⟩ := hk
      exact ⟨Av1, φ1, [], _, _, [], e1, S1, src_list, ⟨vk, .inr k1, k2⟩, fun b hb => (nomatch hb), fun b h => (nomatch h), Apart.nil, fun b h => (nomatch h), fun R q => .inl ⟨a, rfl, ⟨vs, h1⟩, q⟩⟩
    have h1 : Rd H a (.lst vs) := h1.elim id fun z => absurd ⟨vs, .inr z, h2⟩ hk
    have fin : ∀ (G : List Addr), (Av1 a → a ∈ [a] ∧ (a ∈ G ∨ ∃ i ∈ lockOf o, a ∈ φ1 i)) → (∀ b ∈ G, Av1 b) → Apart G φ1 → (∀ b ∈ G, b ∈ F) →
        ∃ Av1 φ1 own ok J G, EnvR K Av1 H σ ρ' φ1 ∧ Step lock Av0 Av1 H0 H φ0 φ1 ∧ Src K J ds own ok ∧ ok Av1 H ∧ (∀ a ∈ own, a ∈ G ∨ ∃ i ∈ lockOf o, a ∈ φ1 i) ∧ (∀ a ∈ G, Av1 a) ∧ Apart G φ1 ∧ (∀ a ∈ G, a ∈ F) ∧ ∀ R : It → Hp → Prop, R J H → rSeq K (.ref a) H R := fun G hG h2' h3 h4 => by
      by_cases z : Av1 a
      · exact ⟨Av1, φ1, [a], _, _, G, e1, S1, src_list, ⟨vs, .inl ⟨h1, fun _ => (hG z).1⟩, h2⟩, fun b hb => by rw [show b = a by simpa using hb]; exact (hG z).2, h2', h3, h4, fun R q => .inl ⟨a, rfl, ⟨vs, .inl h1⟩, q⟩⟩
      · exact ⟨Av1, φ1, [], _, _, G, e1, S1, src_list, ⟨vs, .inl ⟨h1, fun y => absurd y z⟩, h2⟩, fun b hb => (nomatch hb), h2', h3, h4, fun R q => .inl ⟨a, rfl, ⟨vs, .inl h1⟩, q⟩⟩
    cases o with
    | slot i =>
      obtain ⟨hs, rfl⟩ := (show σ[i]? = some (some (V.ref a)) ∧ F = [] from r)
      refine fin [] (fun z => ⟨by simp, .inr ⟨i, by simp [lockOf], ?_⟩⟩) (fun b h => (nomatch h)) Apart.nil fun b h => (nomatch h)
      -- the slot's tree is this list: it owns a
      have h' : (match ρ[i]? with | some (some d) => Rs.ok (chill d) (ρ.set i (some (chill d))) | _ => .bad) = .ok (.lst ow ds) ρ' := h
      cases q : ρ[i]? with
      | none => rw [q] at h'; cases h'
      | some x =>
        cases x with
        | none => rw [q] at h'; cases h'
        | some d0 =>
          rw [q] at h'
          have e' : chill d0 = .lst ow ds := by injection h'
          have e2 : ρ.set i (some (chill d0)) = ρ' := by injection h'
          have hq : ρ'[i]? = some (some (.lst ow ds)) := by
            rw [← e2, List.getElem?_set_self (get_lt q), e']
          obtain ⟨w, hw, rw'⟩ := e1.rep i _ hq
          rw [hs] at hw; cases hw
          generalize φ1 i = Fi at rw' ⊢
          cases rw' with
          | lstF _ n _ => exact absurd z n
          | lstK k1 k3 => exact absurd ⟨_, k1, k3⟩ hk
          | lstO _ _ _ _ _ => simp
    | val d0 =>
      have r0 : Rep K Av H F (.ref a) d0 := r
      have h' : Rs.ok (chill d0) ρ = .ok (.lst ow ds) ρ' := h
      have e' : chill d0 = .lst ow ds := by injection h'
      cases d0 with
      | lst ow' ds' =>
        cases r0 with
        | lstK k1 k3 =>
          have e2 : frz.frzL ds' = ds := by
            have : D.lst false (frz.frzL ds') = D.lst ow ds := e'
            injection this
          exact absurd ⟨_, k1, e2 ▸ k3.frz l1 fun b h => nomatch h⟩ hk
        | lstF _ n _ => exact fin [] (fun z => absurd (l1 a z) n) (fun b h => (nomatch h)) Apart.nil fun b h => (nomatch h)
        | @lstO _ _ _ F' _ ha _ _ _ =>
          by_cases z : Av1 a
          · refine fin [a] (fun _ => ⟨by simp, .inl (by simp)⟩) (fun b h => by rw [show b = a by simpa using h]; exact z) (fun b h i y => ?_) fun b h => by rw [show b = a by simpa using h]; exact List.mem_cons_self
            rw [show b = a by simpa using h] at y
            exact ap a List.mem_cons_self i (p1 i a y)
          · exact fin [] (fun y => absurd y z) (fun b h => (nomatch h)) Apart.nil fun b h => (nomatch h)
      | dct _ _ => cases r0
      | _ => cases e'
theorem i_seq {ex : Expr} {m : M Opd} (h : PE X ex (RO (Cx.gd X W xr) c m)) : PI X tg ex (RI (Cx.gd X W xr) c (mSrc m)) := by
  refine PI.weak (pi_of iv_seq h) fun σ H R ⟨Av, ρ, φ, e, h⟩ => ⟨Av, ρ, φ, e, ?_⟩
  unfold mSrc at h
  cases q : m c ρ with
  | bad => simp only [bnd, q] at h
  | exc x ρ' => simp only [bnd, q] at h; exact h
  | ok o ρ1 =>
    simp only [bnd, q] at h
    intro v H1 Av1 φ1 G1 e1 r1 ap1 nd1 st1 og1
    cases q2 : gC o c ρ1 with
    | bad => simp only [q2] at h
    | exc x ρ' => exact absurd q2 gC_noexc
    | ok d ρ2 =>
      simp only [q2] at h
      cases q3 : items d with
      | none => simp only [q3, ofO, Option.map_none] at h
      | some xs =>
        simp only [q3, ofO, Option.map_some] at h
        obtain ⟨Av2, φ2, own, ok, J, G, e2, S2, src, hok, ho, hG, ap2, hF, fin⟩ := src_of st1 e.ok og1 e1 r1 ap1 q2 q3
        exact fin _ (h J H1 Av2 φ2 G own ok e2 src hok ho hG ap2 S2 fun a ha => og1 a (hF a ha))
end
end Y

end
section
set_option Elab.async false
set_option linter.all false
set_option maxRecDepth 100000
set_option autoImplicit false
/-! Y8: changes of what is owned; targets; statements. -/
namespace Y
open PySem L2
section
variable {K : PySem.W.Frag} {Av Av0 Av1 Av2 Av' : Addr → Prop} {H H0 H1 H2 H' : Hp} {φ φ0 φ1 φ2 φ' : Nat → List Addr} {lock lock' : List Nat} {σ σ' : St} {ρ ρ' : Env} {F F' G : List Addr} {v : V} {d : D} {vs vs' : List V} {ds ds' : List D}

/-- lists put together -/
theorem RepL.app : ∀ {F : List Addr} {vs : List V} {ds : List D} {F' : List Addr} {vs' : List V} {ds' : List D}, RepL K Av H F vs ds → RepL K Av H F' vs' ds' → RepL K Av H (F ++ F') (vs ++ vs') (ds ++ ds')
  | _, _, _, _, _, _, .nil, h => h
  | _, _, _, _, _, _, .cons h1 h2, h => by
    rw [List.append_assoc]
    exact .cons h1 (RepL.app h2 h)
theorem RepL.one (h : Rep K Av H F v d) : RepL K Av H F [v] [d] := by
  have := RepL.cons h (.nil (K := K) (Av := Av) (H := H))
  rwa [List.append_nil] at this
/-- a member put in the place of another -/
theorem RepL.put (r0 : Rep K Av H G v d) : ∀ {F : List Addr} {vs : List V} {ds : List D} (j : Nat), RepL K Av H F vs ds → F.Nodup → G.Nodup → (∀ a ∈ G, a ∉ F) →
    ∃ F', RepL K Av H F' (vs.set j v) (ds.set j d) ∧ F'.Nodup ∧ ∀ a ∈ F', a ∈ F ∨ a ∈ G
  | _, _, _, _, .nil, _, _, _ => ⟨[], .nil, .nil, fun a h => nomatch h⟩
  | _, _, _, 0, .cons (F := F1) (G := F2) h1 h2, n, n2, ap => by
    obtain ⟨m1, m2, m3⟩ := List.nodup_append.mp n
    exact ⟨G ++ F2, .cons r0 h2, List.nodup_append.mpr ⟨n2, m2, fun a ha b hb e => ap a ha (List.mem_append_right _ (e ▸ hb))⟩, fun a h => (List.mem_append.mp h).elim .inr fun z => .inl (List.mem_append_right _ z)⟩
  | _, _, _, j + 1, .cons (F := F1) (G := F2) h1 h2, n, n2, ap => by
    obtain ⟨m1, m2, m3⟩ := List.nodup_append.mp n
    obtain ⟨F', r, nd, hs⟩ := RepL.put r0 j h2 m2 n2 fun a ha z => ap a ha (List.mem_append_right _ z)
    refine ⟨F1 ++ F', .cons h1 r, List.nodup_append.mpr ⟨m1, nd, fun a ha b hb e => ?_⟩, fun a h => ?_⟩
    · subst e
      rcases hs a hb with z | z
      · exact m3 a ha a z rfl
      · exact ap a z (List.mem_append_left _ ha)
    · rcases List.mem_append.mp h with z | z
      · exact .inl (List.mem_append_left _ z)
      · exact (hs a z).imp (fun q => List.mem_append_right _ q) id
/-- a member left out, told apart -/
theorem RepL.out : ∀ {F : List Addr} {vs : List V} {ds : List D} (j : Nat) {x : D}, RepL K Av H F vs ds → F.Nodup → ds[j]? = some x →
    ∃ y F' G, vs[j]? = some y ∧ Rep K Av H G y x ∧ RepL K Av H F' (vs.eraseIdx j) (ds.eraseIdx j) ∧ F'.Nodup ∧ (∀ a ∈ G, a ∉ F') ∧ (∀ a ∈ F', a ∈ F) ∧ ∀ a ∈ G, a ∈ F
  | _, _, _, 0, x, .cons (F := F1) (G := F2) h1 h2, n, e => by
    obtain ⟨m1, m2, m3⟩ := List.nodup_append.mp n
    have e' := Option.some.inj (show some _ = some x from e)
    subst e'
    exact ⟨_, F2, F1, rfl, h1, h2, m2, fun a ha z => m3 a ha a z rfl, fun a h => List.mem_append_right _ h, fun a h => List.mem_append_left _ h⟩
  | _, _, _, j + 1, x, .cons (F := F1) (G := F2) h1 h2, n, e => by
    obtain ⟨m1, m2, m3⟩ := List.nodup_append.mp n
    obtain ⟨y, F', G, a1, a2, a3, a4, a5, a6, a7⟩ := RepL.out j h2 m2 (by simpa using e)
    refine ⟨y, F1 ++ F', G, by simpa using a1, a2, .cons h1 a3, List.nodup_append.mpr ⟨m1, a4, fun a ha b hb e => m3 a ha b (a6 b hb) e⟩, fun a ha z => ?_, fun a h => ?_, fun a h => List.mem_append_right _ (a7 a h)⟩
    · rcases List.mem_append.mp z with z | z
      · exact m3 a z a (a7 a ha) rfl
      · exact a5 a ha z
    · rcases List.mem_append.mp h with z | z
      · exact List.mem_append_left _ z
      · exact List.mem_append_right _ (a6 a z)

/-- an owned list of a slot is changed -/
theorem EnvR.change (e : EnvR K Av H σ ρ φ) {i : Nat} {p : Addr} (hi : ρ[i]? = some (some (.lst true ds))) (hs : σ[i]? = some (some (.ref p))) (hφ : p ∈ φ i) (ha : Av p)
    (r : RepL K Av H F' vs' ds') (np : p ∉ F') (nd : F'.Nodup) (hF : ∀ a ∈ F', a ∈ φ i ∨ a ∈ G) (ap : Apart G φ) :
    EnvR K Av (upd H p (.lst vs')) σ (ρ.set i (some (.lst true ds'))) (fun j => if j = i then p :: F' else φ j) := by
  have hlt := get_lt hi
  have kp : Keep Av Av H (upd H p (.lst vs')) (fun a => a = p) := ⟨fun a o h n => by rw [upd_ne n]; exact h, fun a h => .inl h, fun a h _ => h⟩
  have hT : ∀ a, a = p → Av a := fun a h => h ▸ ha
  refine ⟨by rw [List.length_set]; exact e.len, fun j dj hj => ?_, fun j hj => ?_, fun j k a h1 h2 => ?_, fun a h => ?_⟩
  · by_cases z : j = i
    · subst z
      rw [List.getElem?_set_self hlt] at hj
      cases hj
      refine ⟨.ref p, hs, ?_⟩
      rw [if_pos rfl]
      exact .lstO upd_same ha (r.keep e.ok hT kp fun a h q => np (q ▸ h)) np nd
    · rw [List.getElem?_set_ne (Ne.symm z)] at hj
      obtain ⟨w, hw, rw'⟩ := e.rep j dj hj
      rw [if_neg z]
      exact ⟨w, hw, rw'.keep e.ok hT kp fun a h q => z (e.dis j i a h (q ▸ hφ))⟩
  · by_cases z : j = i
    · subst z
      exact absurd (List.getElem?_set_self hlt) (hj _)
    · rw [List.getElem?_set_ne (Ne.symm z)] at hj
      exact (if_neg z).trans (e.emp j hj)
  · have cl : ∀ a, a ∈ p :: F' → a ∈ φ i ∨ a ∈ G := fun a h => (List.mem_cons.mp h).elim (fun q => .inl (q ▸ hφ)) (hF a)
    have h1 : a ∈ (if j = i then p :: F' else φ j) := h1
    have h2 : a ∈ (if k = i then p :: F' else φ k) := h2
    by_cases z1 : j = i <;> by_cases z2 : k = i
    · rw [z1, z2]
    · rw [if_pos z1] at h1; rw [if_neg z2] at h2
      rcases cl a h1 with q | q
      · exact absurd (e.dis k i a h2 q) z2
      · exact absurd h2 (ap a q k)
    · rw [if_neg z1] at h1; rw [if_pos z2] at h2
      rcases cl a h2 with q | q
      · exact absurd (e.dis j i a h1 q) z1
      · exact absurd h1 (ap a q j)
    · rw [if_neg z1] at h1; rw [if_neg z2] at h2; exact e.dis j k a h1 h2
  · obtain ⟨o, eo, m⟩ := e.ok a h
    by_cases z : a = p
    · subst z; exact ⟨_, upd_same, trivial⟩
    · exact ⟨o, by rw [upd_ne z]; exact eo, m⟩
theorem Step.change (S : Step lock Av0 Av H0 H φ0 φ) (ok0 : AvOk Av0 H0) {i : Nat} {p : Addr} (hl : i ∉ lock) (hφ : p ∈ φ i) (hF : ∀ a ∈ F', a ∈ φ i ∨ a ∈ G) (og : OrgG lock H0 φ0 G) :
    Step lock Av0 Av H0 (upd H p (.lst vs')) φ0 (fun j => if j = i then p :: F' else φ j) := by
  have src : ∀ a, a ∈ φ i → (∃ j, j ∉ lock ∧ a ∈ φ0 j) ∨ H0 a = none := fun a h => by
    rcases S.org i a h with q | ⟨_, q⟩
    · exact .inl ⟨i, hl, q⟩
    · exact q
  refine ⟨fun a o h n => ?_, fun a h => ?_, S.av, S.own, fun j a h => ?_⟩
  · rw [upd_ne fun q => ?_]
    · exact S.keep a o h n
    · subst q
      rcases src _ hφ with ⟨j, hj, q⟩ | q
      · exact n j hj q
      · rw [h] at q; cases q
  · by_cases z : a = p
    · subst z; rw [upd_same]; exact fun q => nomatch q
    · rw [upd_ne z]; exact S.there a h
  · have h : a ∈ (if j = i then p :: F' else φ j) := h
    by_cases z : j = i
    · rw [if_pos z] at h
      refine .inr ⟨z ▸ hl, ?_⟩
      rcases List.mem_cons.mp h with q | q
      · exact src a (q ▸ hφ)
      · rcases hF a q with y | y
        · exact src a y
        · exact og a y
    · rw [if_neg z] at h; exact S.org j a h
/-- a slot is stored -/
theorem EnvR.store (e : EnvR K Av H σ ρ φ) {i : Nat} (hi : i < ρ.length) (r : Rep K Av H G v d) (ap : Apart G φ) : EnvR K Av H (σ.set i (some v)) (ρ.set i (some d)) (fun j => if j = i then G else φ j) := by
  have hσ : i < σ.length := by rw [e.len]; exact hi
  refine ⟨by rw [List.length_set, List.length_set]; exact e.len, fun j dj hj => ?_, fun j hj => ?_, fun j k a h1 h2 => ?_, e.ok⟩
  · by_cases z : j = i
    · subst z
      rw [List.getElem?_set_self hi] at hj
      cases hj
      exact ⟨v, List.getElem?_set_self hσ, by rw [if_pos rfl]; exact r⟩
    · rw [List.getElem?_set_ne (Ne.symm z)] at hj
      rw [List.getElem?_set_ne (Ne.symm z), if_neg z]
      exact e.rep j dj hj
  · by_cases z : j = i
    · subst z
      exact absurd (List.getElem?_set_self hi) (hj d)
    · rw [List.getElem?_set_ne (Ne.symm z)] at hj
      exact (if_neg z).trans (e.emp j hj)
  · have h1 : a ∈ (if j = i then G else φ j) := h1
    have h2 : a ∈ (if k = i then G else φ k) := h2
    by_cases z1 : j = i <;> by_cases z2 : k = i
    · rw [z1, z2]
    · rw [if_pos z1] at h1; rw [if_neg z2] at h2; exact absurd h2 (ap a h1 k)
    · rw [if_neg z1] at h1; rw [if_pos z2] at h2; exact absurd h1 (ap a h2 j)
    · rw [if_neg z1] at h1; rw [if_neg z2] at h2; exact e.dis j k a h1 h2
theorem Step.store (S : Step lock Av0 Av H0 H φ0 φ) {i : Nat} (hl : i ∉ lock) (og : OrgG lock H0 φ0 G) : Step lock Av0 Av H0 H φ0 (fun j => if j = i then G else φ j) :=
  ⟨S.keep, S.there, S.av, S.own, fun j a h => by
    have h : a ∈ (if j = i then G else φ j) := h
    by_cases z : j = i
    · rw [if_pos z] at h; exact .inr ⟨z ▸ hl, og a h⟩
    · rw [if_neg z] at h; exact S.org j a h⟩
/-- a slot's thing is taken out -/
theorem EnvR.lend (e : EnvR K Av H σ ρ φ) {i : Nat} (q : ρ[i]? = some (some d)) :
    ∃ v, σ[i]? = some (some v) ∧ Rep K Av H (φ i) v d ∧ EnvR K Av H σ (ρ.set i none) (fun j => if j = i then [] else φ j) ∧ Apart (φ i) (fun j => if j = i then [] else φ j) ∧ Step lock Av Av H H φ (fun j => if j = i then [] else φ j) := by
  obtain ⟨v, hv, r⟩ := e.rep i d q
  have hlt := get_lt q
  refine ⟨v, hv, r, ⟨by rw [List.length_set]; exact e.len, fun j dj hj => ?_, fun j hj => ?_, fun j k a h1 h2 => ?_, e.ok⟩, fun a ha j z => ?_, ⟨fun _ _ h _ => h, fun _ h => h, fun _ h => .inl h, fun _ h _ => h, fun j a h => ?_⟩⟩
  · by_cases z : j = i
    · subst z; rw [List.getElem?_set_self hlt] at hj; cases hj
    · rw [List.getElem?_set_ne (Ne.symm z)] at hj
      rw [if_neg z]
      exact e.rep j dj hj
  · by_cases z : j = i
    · exact if_pos z
    · rw [List.getElem?_set_ne (Ne.symm z)] at hj
      exact (if_neg z).trans (e.emp j hj)
  · have m : ∀ j, a ∈ (if j = i then [] else φ j) → a ∈ φ j := fun j h => by
      by_cases q : j = i
      · subst q; rw [if_pos rfl] at h; cases h
      · rw [if_neg q] at h; exact h
    exact e.dis j k a (m j h1) (m k h2)
  · have z : a ∈ (if j = i then [] else φ j) := z
    by_cases q : j = i
    · rw [if_pos q] at z; cases z
    · rw [if_neg q] at z; exact q (e.dis j i a z ha)
  · have h : a ∈ (if j = i then [] else φ j) := h
    by_cases q : j = i
    · rw [if_pos q] at h; cases h
    · rw [if_neg q] at h; exact .inl h
end

/-! ### targets -/
/-- what a store keeps: T is what the slots and the stored thing own -/
structure Calm (Av Av' : Addr → Prop) (H H' : Hp) (φ φ' : Nat → List Addr) (G : List Addr) : Prop where
  keep : Keep Av Av' H H' (fun a => (∃ i, a ∈ φ i) ∨ a ∈ G)
  org : ∀ i a, a ∈ φ' i → ((∃ j, a ∈ φ j) ∨ a ∈ G) ∨ H a = none
  there : ∀ a, H a ≠ none → H' a ≠ none
def RG (g : Gd) (c : Ctx) (m : D → M Unit) : TG := fun v σ H Q => ∃ Av0 H0 φ0 Av ρ φ d G, AvOk Av0 H0 ∧ Step c.lock Av0 Av H0 H φ0 φ ∧ OrgG c.lock H0 φ0 G ∧ EnvR g.K Av H σ ρ φ ∧ Rep g.K Av H G v d ∧ Apart G φ ∧
  match m d c ρ with
  | .ok _ ρ' => ∀ σ' H' Av' φ', EnvR g.K Av' H' σ' ρ' φ' → Step c.lock Av0 Av' H0 H' φ0 φ' → Calm Av Av' H H' φ φ' G → (∀ i, i ∈ c.prot ∨ i ∈ c.lock → σ'[i]? = σ[i]?) → Q σ' H'
  | .exc _ _ => False
  | .bad => False
def RGs (g : Gd) (c : Ctx) (m : List D → M Unit) : TGs := fun vs σ H Q => ∃ Av0 H0 φ0 Av ρ φ ds F, AvOk Av0 H0 ∧ Step c.lock Av0 Av H0 H φ0 φ ∧ OrgG c.lock H0 φ0 F ∧ EnvR g.K Av H σ ρ φ ∧ RepL g.K Av H F vs ds ∧ F.Nodup ∧ Apart F φ ∧
  match m ds c ρ with
  | .ok _ ρ' => ∀ σ' H' Av' φ', EnvR g.K Av' H' σ' ρ' φ' → Step c.lock Av0 Av' H0 H' φ0 φ' → Calm Av Av' H H' φ φ' F → (∀ i, i ∈ c.prot ∨ i ∈ c.lock → σ'[i]? = σ[i]?) → Q σ' H'
  | .exc _ _ => False
  | .bad => False
/-- a slot that may be stored -/
def free (c : Ctx) (i : Nat) : Bool := !(c.prot.contains i) && !(c.lock.contains i)
theorem free_iff {c : Ctx} {i : Nat} (h : free c i = true) : i ∉ c.prot ∧ i ∉ c.lock := by
  unfold free at h
  simp only [Bool.and_eq_true, Bool.not_eq_true', List.contains_eq_mem, decide_eq_false_iff_not] at h
  exact h
theorem Calm.store {K : PySem.W.Frag} {Av : Addr → Prop} {H : Hp} {φ : Nat → List Addr} {G : List Addr} {i : Nat} : Calm Av Av H H φ (fun j => if j = i then G else φ j) G :=
  ⟨⟨fun _ _ h _ => h, fun _ h => .inl h, fun _ h _ => h⟩, fun j a h => by
    have h : a ∈ (if j = i then G else φ j) := h
    by_cases z : j = i
    · rw [if_pos z] at h; exact .inl (.inr h)
    · rw [if_neg z] at h; exact .inl (.inl ⟨j, h⟩), fun _ h => h⟩
theorem Calm.refl {Av : Addr → Prop} {H : Hp} {φ : Nat → List Addr} {G : List Addr} : Calm Av Av H H φ φ G :=
  ⟨⟨fun _ _ h _ => h, fun _ h => .inl h, fun _ h _ => h⟩, fun j a h => .inl (.inl ⟨j, h⟩), fun _ h => h⟩
def setS (i : Nat) (d : D) : M Unit := fun c ρ => if free c i = true ∧ i < ρ.length then .ok () (ρ.set i (some d)) else .bad
def tgTup (n : Nat) (m : List D → M Unit) (d : D) : M Unit := match d with
  | .tup ds => if ds.length = n then m (frz.frzL ds) else bad
  | _ => bad
def tgNil (ds : List D) : M Unit := match ds with
  | [] => pur ()
  | _ => bad
def tgCons (m : D → M Unit) (ms : List D → M Unit) (ds : List D) : M Unit := match ds with
  | d :: ds => bnd (m d) fun _ => ms ds
  | [] => bad
section
variable {X : Cx} {W : WX} {xr : (Addr → Prop) → Hp → D → Value → Option Addr → Prop} {c : Ctx} {pos : Pos}
theorem PG.weak {tg : Expr} {t t' : TG} (h : PG X tg t) (w : ∀ v σ H Q, t' v σ H Q → t v σ H Q) : PG X tg t' := ⟨fun pins s σ H v u Q I r q => h.run pins s σ H v u Q I r (w v σ H Q q)⟩
theorem PGs.weak {tg : List Expr} {t t' : TGs} (h : PGs X tg t) (w : ∀ v σ H Q, t' v σ H Q → t v σ H Q) : PGs X tg t' := ⟨fun pins s σ H v u Q I r q => h.run pins s σ H v u Q I r (w v σ H Q q)⟩
theorem g_name {i : Nat} {x : Str} (hN : X.N.Nodup) (hi : X.N[i]? = some x) (hx : Loc X.env.scope x) (hf : X.fn x = true ∨ X.env.scope.names.lookup x = some .local) : PG X (.Name x pos) (RG (Cx.gd X W xr) c (setS i)) := by
  refine PG.weak (pg_name hN hi hx hf) fun v σ H Q ⟨Av0, H0, φ0, Av, ρ, φ, d, G, ok0, S, og, e, r, ap, h⟩ => ?_
  unfold setS at h
  by_cases q : free c i = true ∧ i < ρ.length
  · rw [if_pos q] at h
    obtain ⟨f1, f2⟩ := free_iff q.1
    refine h _ H Av _ (e.store q.2 r ap) (S.store f2 og) (Calm.store (K := X.K)) fun j hj => ?_
    refine List.getElem?_set_ne fun z => ?_
    subst z
    exact hj.elim f1 f2
  · rw [if_neg q] at h; exact h.elim
theorem gs_nil : PGs X [] (RGs (Cx.gd X W xr) c tgNil) := by
  refine PGs.weak pgs_nil fun vs σ H Q ⟨Av0, H0, φ0, Av, ρ, φ, ds, F, ok0, S, og, e, r, nd, ap, h⟩ => ?_
  cases ds with
  | nil => cases vs with
    | nil => exact ⟨rfl, h σ H Av φ e S Calm.refl fun _ _ => rfl⟩
    | cons _ _ => have := r.length; simp at this
  | cons _ _ => exact h.elim
theorem gs_cons {ex : Expr} {es : List Expr} {m : D → M Unit} {ms : List D → M Unit} (h1 : PG X ex (RG (Cx.gd X W xr) c m)) (h2 : PGs X es (RGs (Cx.gd X W xr) c ms))
    (hs : (assignEach (ex :: es) X.env).map (·.2) = assign ex X.env :: (assignEach es X.env).map (·.2)) : PGs X (ex :: es) (RGs (Cx.gd X W xr) c (tgCons m ms)) := by
  refine PGs.weak (pgs_cons h1 h2 hs) fun vs σ H Q ⟨Av0, H0, φ0, Av, ρ, φ, ds, F, ok0, S, og, e, r, nd, ap, h⟩ => ?_
  cases ds with
  | nil => exact h.elim
  | cons d ds =>
    cases r with
    | @cons v _ vs _ F1 F2 r1 r2 =>
      obtain ⟨nd1, nd2, nd3⟩ := List.nodup_append.mp nd
      refine ⟨v, vs, rfl, Av0, H0, φ0, Av, ρ, φ, d, F1, ok0, S, fun a h => og a (List.mem_append_left _ h), e, r1, fun a h => ap a (List.mem_append_left _ h), ?_⟩
      cases q : m d c ρ with
      | bad => simp only [tgCons, bnd, q] at h
      | exc x ρ' => simp only [tgCons, bnd, q] at h
      | ok u ρ1 =>
        simp only [tgCons, bnd, q] at h
        intro σ1 H1 Av1 φ1 e1 S1 c1 p1
        have nT : ∀ a ∈ F2, ¬ ((∃ i, a ∈ φ i) ∨ a ∈ F1) := fun a ha z => by
          rcases z with ⟨i, z⟩ | z
          · exact ap a (List.mem_append_right _ ha) i z
          · exact nd3 a z a ha rfl
        have hT : ∀ a, ((∃ i, a ∈ φ i) ∨ a ∈ F1) → Av a := fun a z => z.elim (fun ⟨i, h⟩ => e.own h) (r1.av a)
        have rs1 : RepL X.K Av1 H1 F2 vs ds := r2.keep e.ok hT c1.keep nT
        have ap1 : Apart F2 φ1 := fun a ha i z => by
          rcases c1.org i a z with y | y
          · exact nT a ha y
          · exact r2.there e.ok a ha y
        refine ⟨Av0, H0, φ0, Av1, ρ1, φ1, ds, F2, ok0, S1, fun a h => og a (List.mem_append_right _ h), e1, rs1, nd2, ap1, ?_⟩
        cases q2 : ms ds c ρ1 with
        | bad => simp only [q2] at h
        | exc x ρ' => simp only [q2] at h
        | ok u ρ2 =>
          simp only [q2] at h
          intro σ2 H2 Av2 φ2 e2 S2 c2 p2
          have up : ∀ a, ((∃ i, a ∈ φ1 i) ∨ a ∈ F2) → ((∃ i, a ∈ φ i) ∨ a ∈ F1 ++ F2) ∨ H a = none := fun a z => by
            rcases z with ⟨i, z⟩ | z
            · rcases c1.org i a z with (y | y) | y
              · exact .inl (.inl y)
              · exact .inl (.inr (List.mem_append_left _ y))
              · exact .inr y
            · exact .inl (.inr (List.mem_append_right _ z))
          have dn : ∀ a, ¬ ((∃ i, a ∈ φ i) ∨ a ∈ F1 ++ F2) → ¬ ((∃ i, a ∈ φ i) ∨ a ∈ F1) := fun a n z => n (z.imp id fun y => List.mem_append_left _ y)
          have nn : ∀ a, H1 a = none → H a = none := fun a y => by
            by_cases z : H a = none
            · exact z
            · exact absurd y (c1.there a z)
          refine h σ2 H2 Av2 φ2 e2 S2 ⟨⟨fun a o ha n => c2.keep.keep a o (c1.keep.keep a o ha (dn a n)) fun z => ?_, fun a ha => ?_, fun a ha n => c2.keep.own a (c1.keep.own a ha (dn a n)) fun z => ?_⟩, fun i a ha => ?_, fun a ha => c2.there a (c1.there a ha)⟩ fun i hi => (p2 i hi).trans (p1 i hi)
          · rcases up a z with y | y
            · exact n y
            · rw [ha] at y; cases y
          · rcases c2.keep.av a ha with y | y
            · exact c1.keep.av a y
            · exact .inr (nn a y)
          · rcases up a z with y | y
            · exact n y
            · obtain ⟨o, eo, _⟩ := e.ok a ha
              rw [eo] at y; cases y
          · rcases c2.org i a ha with y | y
            · exact up a y
            · exact .inr (nn a y)
theorem g_tup {es : List Expr} {k n : Nat} {m : List D → M Unit} (hc : X.calm = true) (h : PGs X es (RGs (Cx.gd X W xr) c m)) (hn : (assignEach es X.env).length = n) (hst : (assignEach es X.env).findIdx? (·.1) = none) :
    PG X (.Tuple es k pos) (RG (Cx.gd X W xr) c (tgTup n m)) := by
  refine PG.weak (pg_tup hc h hn hst) fun v σ H Q ⟨Av0, H0, φ0, Av, ρ, φ, d, G, ok0, S, og, e, r, ap, h⟩ => ?_
  cases r with
  | @tup a vs ds h1 h2 =>
    by_cases q : ds.length = n
    · simp only [tgTup, if_pos q, frzL_idem h2] at h
      exact ⟨a, vs, rfl, h1, by rw [h2.length]; exact q, Av0, H0, φ0, Av, ρ, φ, ds, [], ok0, S, OrgG.nil, e, h2, .nil, Apart.nil, h⟩
    · simp only [tgTup, if_neg q, bad] at h
  | _ => exact h.elim

/-! ### statements -/
def sSkip : M Fl := pur .nx
def sSeq (m n : M Fl) : M Fl := bnd m fun f => match f with
  | .nx => n
  | f => pur f
/-- from the start of a part, where its rest is a meaning k -/
theorem RS.from {g : Gd} {k : M Fl} {ρ1 : Env} {Dn : Ends} {Av Av1 : Addr → Prop} {H H1 : Hp} {φ φ1 : Nat → List Addr} {σ σ1 : St} (e1 : EnvR g.K Av1 H1 σ1 ρ1 φ1) (st1 : Step c.lock Av Av1 H H1 φ φ1) (ok : AvOk Av H) (hp : ∀ i, i ∈ c.prot ∨ i ∈ c.lock → σ1[i]? = σ[i]?)
    (h : match k c ρ1 with
      | .ok .nx ρ' => ∀ σ' H' Av' φ', EnvR g.K Av' H' σ' ρ' φ' → Step c.lock Av Av' H H' φ φ' → (∀ i, i ∈ c.prot ∨ i ∈ c.lock → σ'[i]? = σ[i]?) → Dn.nx σ' H'
      | .ok .brk ρ' => ∀ σ' H' Av' φ', EnvR g.K Av' H' σ' ρ' φ' → Step c.lock Av Av' H H' φ φ' → (∀ i, i ∈ c.prot ∨ i ∈ c.lock → σ'[i]? = σ[i]?) → Dn.bk σ' H'
      | .ok .cont ρ' => ∀ σ' H' Av' φ', EnvR g.K Av' H' σ' ρ' φ' → Step c.lock Av Av' H H' φ φ' → (∀ i, i ∈ c.prot ∨ i ∈ c.lock → σ'[i]? = σ[i]?) → Dn.ct σ' H'
      | .ok (.ret d) ρ' => ∀ v σ' H' Av' φ' G, EnvR g.K Av' H' σ' ρ' φ' → Rep g.K Av' H' G v d → Apart G φ' → Step c.lock Av Av' H H' φ φ' → OrgG c.lock H φ G → (∀ i, i ∈ c.prot ∨ i ∈ c.lock → σ'[i]? = σ[i]?) → Dn.rt v H'
      | .exc e ρ' => RX g c Av H φ σ e ρ'
      | .bad => False) : RS g c k Dn σ1 H1 := by
  refine ⟨Av1, ρ1, φ1, e1, ?_⟩
  cases q : k c ρ1 with
  | bad => simp only [q] at h
  | exc x ρ' =>
    simp only [q] at h
    exact fun cls y σ' H' Av' φ' e' xr' st' hp' => h cls y σ' H' Av' φ' e' xr' (st1.trans st' ok) fun i hi => (hp' i hi).trans (hp i hi)
  | ok f ρ2 =>
    cases f with
    | nx => simp only [q] at h; exact fun σ' H' Av' φ' e' st' hp' => h σ' H' Av' φ' e' (st1.trans st' ok) fun i hi => (hp' i hi).trans (hp i hi)
    | brk => simp only [q] at h; exact fun σ' H' Av' φ' e' st' hp' => h σ' H' Av' φ' e' (st1.trans st' ok) fun i hi => (hp' i hi).trans (hp i hi)
    | cont => simp only [q] at h; exact fun σ' H' Av' φ' e' st' hp' => h σ' H' Av' φ' e' (st1.trans st' ok) fun i hi => (hp' i hi).trans (hp i hi)
    | ret d => simp only [q] at h; exact fun v σ' H' Av' φ' G e' r ap st' og hp' => h v σ' H' Av' φ' G e' r ap (st1.trans st' ok) (og.step st1) fun i hi => (hp' i hi).trans (hp i hi)
/-- what follows a statement -/
theorem rs_seq {g : Gd} {m n : M Fl} {Dn : Ends} {σ : St} {H : Hp} (h : RS g c (sSeq m n) Dn σ H) : RS g c m { Dn with nx := RS g c n Dn } σ H := by
  obtain ⟨Av, ρ, φ, e, h⟩ := h
  refine ⟨Av, ρ, φ, e, ?_⟩
  unfold sSeq at h
  cases q : m c ρ with
  | bad => simp only [bnd, q] at h
  | exc x ρ' => simp only [bnd, q] at h; exact h
  | ok f ρ1 =>
    cases f with
    | nx => simp only [bnd, q] at h; exact fun σ1 H1 Av1 φ1 e1 st1 hp1 => RS.from e1 st1 e.ok hp1 h
    | brk => simp only [bnd, q, pur] at h; exact h
    | cont => simp only [bnd, q, pur] at h; exact h
    | ret d => simp only [bnd, q, pur] at h; exact h
theorem ss_nil : PSs X [] (RS (Cx.gd X W xr) c sSkip) := PSs.weak pss_nil fun Dn σ H ⟨Av, ρ, φ, e, h⟩ => h σ H Av φ e Step.refl fun _ _ => rfl
theorem ss_cons {st : Stmt} {rest : List Stmt} {m n : M Fl} (h1 : PS X st (RS (Cx.gd X W xr) c m)) (h2 : PSs X rest (RS (Cx.gd X W xr) c n)) : PSs X (st :: rest) (RS (Cx.gd X W xr) c (sSeq m n)) :=
  PSs.weak (pss_cons h1 h2) fun _ _ _ h => rs_seq h
theorem ss_one {st : Stmt} {m : M Fl} (h1 : PS X st (RS (Cx.gd X W xr) c m)) : PSs X [st] (RS (Cx.gd X W xr) c m) := pss_one h1
theorem st_pass : PS X (.Pass pos) (RS (Cx.gd X W xr) c sSkip) := PS.weak ps_pass fun Dn σ H ⟨Av, ρ, φ, e, h⟩ => h σ H Av φ e Step.refl fun _ _ => rfl
theorem st_break : PS X (.Break pos) (RS (Cx.gd X W xr) c (pur .brk)) := PS.weak ps_break fun Dn σ H ⟨Av, ρ, φ, e, h⟩ => h σ H Av φ e Step.refl fun _ _ => rfl
theorem st_cont : PS X (.Continue pos) (RS (Cx.gd X W xr) c (pur .cont)) := PS.weak ps_continue fun Dn σ H ⟨Av, ρ, φ, e, h⟩ => h σ H Av φ e Step.refl fun _ _ => rfl
def sIf (t : M Bool) (m n : M Fl) : M Fl := bnd t fun b => match b with | true => m | false => n
theorem st_if {t : Expr} {a b : List Stmt} {mt : M Bool} {m n : M Fl} (ht : PT X t (RT (Cx.gd X W xr) c mt)) (ha : PSs X a (RS (Cx.gd X W xr) c m)) (hb : PSs X b (RS (Cx.gd X W xr) c n)) : PS X (.If t a b pos) (RS (Cx.gd X W xr) c (sIf mt m n)) := by
  refine PS.weak (ps_if ht ha hb) fun Dn σ H ⟨Av, ρ, φ, e, h⟩ => ⟨Av, ρ, φ, e, ?_⟩
  unfold sIf at h
  cases q : mt c ρ with
  | bad => simp only [bnd, q] at h
  | exc x ρ' => simp only [bnd, q] at h; exact h
  | ok b ρ1 =>
    simp only [bnd, q] at h
    intro H1 Av1 φ1 e1 st1
    cases b with
    | true => rw [if_pos rfl]; exact RS.from e1 st1 e.ok (fun _ _ => rfl) h
    | false => rw [if_neg Bool.false_ne_true]; exact RS.from e1 st1 e.ok (fun _ _ => rfl) h
def sRet (m : M D) : M Fl := bnd m fun d => pur (.ret d)
theorem st_ret {a : Expr} {m : M D} (ha : PE X a (RE (Cx.gd X W xr) c m)) : PS X (.Return (some a) pos) (RS (Cx.gd X W xr) c (sRet m)) := by
  refine PS.weak (ps_ret ha) fun Dn σ H ⟨Av, ρ, φ, e, h⟩ => ⟨Av, ρ, φ, e, ?_⟩
  unfold sRet at h
  cases q : m c ρ with
  | bad => simp only [bnd, q] at h
  | exc x ρ' => simp only [bnd, q] at h; exact h
  | ok d ρ1 => simp only [bnd, q, pur] at h; exact fun v H' Av' φ' G e' r ap st og => h v σ H' Av' φ' G e' r ap st og fun _ _ => rfl
theorem st_retN : PS X (.Return none pos) (RS (Cx.gd X W xr) c (pur (.ret .non))) := PS.weak ps_retN fun Dn σ H ⟨Av, ρ, φ, e, h⟩ => h .non σ H Av φ [] e .non Apart.nil Step.refl OrgG.nil fun _ _ => rfl
/-- a name handed back: what is owned goes along -/
def mvVar (i : Nat) : M D := fun c ρ => match ρ[i]? with
  | some (some d) => if isOwn d = true ∧ free c i = true then .ok d (ρ.set i none) else .ok (frz d) (ρ.set i (some (frz d)))
  | _ => .bad
theorem s_mv {i : Nat} {x : Str} (hN : X.N[i]? = some x) (hv : Vis X.env.scope x) (hd : (x == ("__debug__" : Str)) = false) (hcd : (x == ("__classdict__" : Str)) = false) : PE X (.Name x pos) (RE (Cx.gd X W xr) c (mvVar i)) := by
  refine PE.weak (pe_var hN hv hd hcd) fun σ H Q ⟨Av, ρ, φ, e, h⟩ => ?_
  unfold mvVar at h
  cases q : ρ[i]? with
  | none => rw [q] at h; exact h.elim
  | some x =>
    cases x with
    | none => rw [q] at h; exact h.elim
    | some d =>
      rw [q] at h
      dsimp only at h
      by_cases hc : isOwn d = true ∧ free c i = true
      · rw [if_pos hc] at h
        obtain ⟨v, hv, r, e1, ap, st⟩ := e.lend (lock := c.lock) q
        exact ⟨v, hv, h v H Av _ (φ i) e1 r ap st fun a ha => .inl ⟨i, (free_iff hc.2).2, ha⟩⟩
      · rw [if_neg hc] at h
        obtain ⟨v, Av', φ', hv, e1, s1, r1, _⟩ := e.freeze (lock := c.lock) q
        exact ⟨v, hv, h v H Av' φ' [] e1 r1 Apart.nil s1 OrgG.nil⟩
/-- a reading's wish may be weakened -/
theorem he_mono {g : Gd} {m : M D} {σ : St} {H : Hp} {Q Q' : VK} (h : RE g c m σ H Q) (w : ∀ v H', Q v H' → Q' v H') : RE g c m σ H Q' := by
  obtain ⟨Av, ρ, φ, e, h⟩ := h
  refine ⟨Av, ρ, φ, e, ?_⟩
  cases q : m c ρ with
  | bad => simp only [q] at h
  | exc x ρ' => simp only [q] at h; exact h
  | ok d ρ1 => simp only [q] at h; exact fun v H' Av' φ' G e' r ap st og => w _ _ (h v H' Av' φ' G e' r ap st og)
/-- x = e -/
def sSet (g : D → M Unit) (m : M D) : M Fl := bnd m fun d => fun c ρ => match g d c ρ with
  | .ok _ ρ' => .ok .nx ρ'
  | _ => .bad
theorem rs_asg {g : Gd} {m : M D} {t : D → M Unit} {Dn : Ends} {σ : St} {H : Hp} (h : RS g c (sSet t m) Dn σ H) : RE g c m σ H fun x H1 => RG g c t x σ H1 Dn.nx := by
  obtain ⟨Av, ρ, φ, e, h⟩ := h
  refine ⟨Av, ρ, φ, e, ?_⟩
  unfold sSet at h
  cases q : m c ρ with
  | bad => simp only [bnd, q] at h
  | exc x ρ' => simp only [bnd, q] at h; exact h
  | ok d ρ1 =>
    simp only [bnd, q] at h
    intro v H1 Av1 φ1 G1 e1 r1 ap1 st1 og1
    refine ⟨Av, H, φ, Av1, ρ1, φ1, d, G1, e.ok, st1, og1, e1, r1, ap1, ?_⟩
    cases q2 : t d c ρ1 with
    | bad => simp only [q2] at h
    | exc x ρ' => simp only [q2] at h
    | ok u ρ2 => simp only [q2] at h; exact fun σ' H' Av' φ' e' st _ hp => h σ' H' Av' φ' e' st hp
theorem st_asg {tg ex : Expr} {m : M D} {t : D → M Unit} (he : PE X ex (RE (Cx.gd X W xr) c m)) (hg : PG X tg (RG (Cx.gd X W xr) c t)) (hs : swapsWithSole [tg] ex pos.line X.env = pure false) (hw : swappedStores [tg] ex X.env = pure none)
    (h1 : (assignEach [tg] X.env).map (·.2) = [assign tg X.env]) : PS X (.Assign [tg] ex pos) (RS (Cx.gd X W xr) c (sSet t m)) :=
  PS.weak (ps_asg he hg hs hw h1) fun _ _ _ h => rs_asg h
/-- a name: how its place is stored -/
theorem gname_of {i : Nat} {v : V} {σ : St} {H : Hp} {Q : St → Hp → Prop} {g : Gd} (h : RG g c (setS i) v σ H Q) : gName i v σ H Q := by
  obtain ⟨Av0, H0, φ0, Av, ρ, φ, d, G, ok0, S, og, e, r, ap, h⟩ := h
  unfold setS at h
  by_cases q : free c i = true ∧ i < ρ.length
  · rw [if_pos q] at h
    obtain ⟨f1, f2⟩ := free_iff q.1
    refine h _ H Av _ (e.store q.2 r ap) (S.store f2 og) (Calm.store (K := g.K)) fun j hj => ?_
    refine List.getElem?_set_ne fun z => ?_
    subst z
    exact hj.elim f1 f2
  · rw [if_neg q] at h; exact h.elim
theorem st_set {i : Nat} {x : Str} {ex : Expr} {pos' : Pos} {m : M D} (hN : X.N.Nodup) (hi : X.N[i]? = some x) (hx : Loc X.env.scope x) (he : PE X ex (RE (Cx.gd X W xr) c m)) (hs : swapsWith ex (some (.Name x pos')) pos.line X.env = pure false)
    (hf : X.fn x = true ∨ X.env.scope.names.lookup x = some .local) : PS X (.Assign [.Name x pos'] ex pos) (RS (Cx.gd X W xr) c (sSet (setS i) m)) :=
  PS.weak (ps_set hN hi hx he hs hf) fun Dn σ H h => by
    have h' := rs_asg h
    obtain ⟨Av, ρ, φ, e, h'⟩ := h'
    refine he_mono ⟨Av, ρ, φ, e, h'⟩ fun _ _ q => gname_of q
end
end Y

end
section
set_option Elab.async false
set_option linter.all false
set_option maxRecDepth 100000
set_option autoImplicit false
/-! Y9: a, b = x, y; x op= e; xs[i] = e; methods that change; loops; comprehensions. -/
namespace Y
open PySem L2
section
variable {X : Cx} {W : WX} {xr : (Addr → Prop) → Hp → D → Value → Option Addr → Prop} {c : Ctx} {pos : Pos}
variable {K : PySem.W.Frag} {Av Av0 Av1 Av2 Av' : Addr → Prop} {H H0 H1 H2 H' : Hp} {φ φ0 φ1 φ2 φ' : Nat → List Addr} {lock lock' : List Nat} {σ σ' : St} {ρ ρ' : Env} {F F' G : List Addr} {v : V} {d : D} {vs vs' : List V} {ds ds' : List D}

/-! ### a, b = x, y -/
def sPar (i j : Nat) (ms : M (List D)) : M Fl := bnd ms fun ds => match ds with
  | [x, y] => fun c ρ => if free c i = true ∧ free c j = true ∧ i < ρ.length ∧ j < ρ.length then .ok .nx ((ρ.set i (some x)).set j (some y)) else .bad
  | _ => bad
theorem st_par {i j : Nat} {x y : Str} {a b : Expr} {ms : M (List D)} {px py pt : Pos} {kt k2 : Nat} {pt2 : Pos} (hc : X.calm = true) (hN : X.N.Nodup) (hi : X.N[i]? = some x) (hj : X.N[j]? = some y) (hij : i ≠ j)
    (hx : X.env.scope.names.lookup x = some .local) (hy : X.env.scope.names.lookup y = some .local) (ha : PA X [a, b] (RVL (Cx.gd X W xr) c ms))
    (hw : swappedStores [.Tuple [.Name x px, .Name y py] kt pt] (.Tuple [a, b] k2 pt2) X.env = pure (some [x, y])) (hs : swapsWithSole [.Tuple [.Name x px, .Name y py] kt pt] (.Tuple [a, b] k2 pt2) pos.line X.env = pure false) :
    PS X (.Assign [.Tuple [.Name x px, .Name y py] kt pt] (.Tuple [a, b] k2 pt2) pos) (RS (Cx.gd X W xr) c (sPar i j ms)) := by
  refine PS.weak (ps_par hc hN hi hj hij hx hy ha hw hs) fun Dn σ H ⟨Av, ρ, φ, e, h⟩ => ⟨Av, ρ, φ, e, ?_⟩
  unfold sPar at h
  cases q : ms c ρ with
  | bad => simp only [bnd, q] at h
  | exc x ρ' => simp only [bnd, q] at h; exact h
  | ok ds ρ1 =>
    simp only [bnd, q] at h
    intro vs H1 Av1 φ1 G1 e1 r1 ap1 nd1 st1 og1
    match ds, r1, h with
    | [d1, d2], r1, h =>
      cases r1 with
      | @cons v1 _ vs _ F1 F2 q1 q23 =>
        cases q23 with
        | @cons v2 _ vs _ F2 F3 q2 q3 =>
          cases q3
          dsimp only at h
          by_cases z : free c i = true ∧ free c j = true ∧ i < ρ1.length ∧ j < ρ1.length
          · rw [if_pos z] at h
            obtain ⟨z1, z2, z3, z4⟩ := z
            obtain ⟨f1, f2⟩ := free_iff z1
            obtain ⟨f3, f4⟩ := free_iff z2
            obtain ⟨n1, n2, n3⟩ := List.nodup_append.mp nd1
            have a1 : Apart F1 φ1 := fun a h => ap1 a (List.mem_append_left _ h)
            have a2 : Apart (F2 ++ []) φ1 := fun a h => ap1 a (List.mem_append_right _ h)
            rw [List.append_nil] at a2
            have e2 := e1.store z3 q1 a1
            have s2 := st1.store f2 (fun a h => og1 a (List.mem_append_left _ h))
            have a2' : Apart F2 (fun k => if k = i then F1 else φ1 k) := fun a ha k y => by
              have y : a ∈ (if k = i then F1 else φ1 k) := y
              by_cases w : k = i
              · rw [if_pos w] at y; exact n3 a y a (List.mem_append_left _ ha) rfl
              · rw [if_neg w] at y; exact a2 a ha k y
            have e3 := e2.store (i := j) (by rw [List.length_set]; exact z4) q2 a2'
            have s3 := s2.store (i := j) f4 (fun a h => og1 a (List.mem_append_right _ (List.mem_append_left _ h)))
            refine ⟨v1, v2, rfl, h _ H1 Av1 _ e3 s3 fun k hk => ?_⟩
            rw [List.getElem?_set_ne, List.getElem?_set_ne]
            · rintro rfl; exact hk.elim f1 f2
            · rintro rfl; exact hk.elim f3 f4
          · rw [if_neg z] at h; exact h.elim
    | [], _, h => exact h.elim
    | [_], _, h => exact h.elim
    | _ :: _ :: _ :: _, _, h => exact h.elim
/-- targets = values, the tuple made between them owning what it holds -/
def sParG (n : Nat) (t : List D → M Unit) (ms : M (List D)) : M Fl := bnd ms fun ds => fun c ρ => if ds.length = n ∧ n ≤ LN then match t ds c ρ with
  | .ok _ ρ' => .ok .nx ρ'
  | _ => .bad
  else .bad
theorem st_parG {es : List Expr} {k n : Nat} {tpos : Pos} {vals : List Expr} {k2 : Nat} {pt2 : Pos} {t : List D → M Unit} {ms : M (List D)} (hc : X.calm = true) (hg : PGs X es (RGs (Cx.gd X W xr) c t)) (hn : (assignEach es X.env).length = n)
    (hst : (assignEach es X.env).findIdx? (·.1) = none) (ha : PA X vals (RVL (Cx.gd X W xr) c ms))
    (hs : swapsWithSole [.Tuple es k tpos] (.Tuple vals k2 pt2) pos.line X.env = pure false) (hw : swappedStores [.Tuple es k tpos] (.Tuple vals k2 pt2) X.env = pure none)
    (h1 : (assignEach [.Tuple es k tpos] X.env).map (·.2) = [assign (.Tuple es k tpos) X.env]) : PS X (.Assign [.Tuple es k tpos] (.Tuple vals k2 pt2) pos) (RS (Cx.gd X W xr) c (sParG n t ms)) := by
  refine PS.weak (ps_asg (pe_tup ha) (pg_tup hc hg hn hst) hs hw h1) fun Dn σ H ⟨Av, ρ, φ, e, h⟩ => ⟨Av, ρ, φ, e, ?_⟩
  unfold sParG at h
  cases q : ms c ρ with
  | bad => simp only [bnd, q] at h
  | exc x ρ' => simp only [bnd, q] at h; exact h
  | ok ds ρ1 =>
    simp only [bnd, q] at h
    intro vs H1 Av1 φ1 G1 e1 r1 ap1 nd1 st1 og1
    by_cases z : ds.length = n ∧ n ≤ LN
    · rw [if_pos z] at h
      refine ⟨by rw [r1.length, z.1, ← ln_line]; exact z.2, fun p hp => ?_⟩
      have gr := Grow.tup (o := .tup vs) e1.ok hp
      refine ⟨p, vs, rfl, SqT.of upd_same, by rw [r1.length]; exact z.1, Av, H, φ, Av1, ρ1, φ1, ds, G1, e.ok, st1.trans gr.step e.ok, og1, e1.grow gr, r1.grow gr e1.ok, nd1, ap1, ?_⟩
      cases q2 : t ds c ρ1 with
      | bad => simp only [q2] at h
      | exc x ρ' => simp only [q2] at h
      | ok u ρ2 => simp only [q2] at h; exact fun σ' H' Av' φ' e' st _ hp => h σ' H' Av' φ' e' st hp
    · rw [if_neg z] at h; exact h.elim

/-! ### x op= e -/
def sAug (i : Nat) (p : List D → Option D) (ma : M Opd) : M Fl := fun c ρ => match ρ[i]? with
  | some (some d0) => if isOwn d0 = false then match ma c ρ with
      | .ok o ρ1 => match gR o c ρ1 with
        | .ok y ρ2 => match p [d0, y] with
          | some d => if free c i = true then .ok .nx (ρ2.set i (some d)) else .bad
          | none => .bad
        | _ => .bad
      | .exc e ρ1 => .exc e ρ1
      | .bad => .bad
    else .bad
  | _ => .bad
theorem own_nil (h : isOwn d = false) (r : Rep K Av H F v d) : F = [] := by
  cases r with
  | lstO _ _ _ _ _ => cases h
  | _ => rfl
theorem st_aug {i : Nat} {x : Str} {ex : Expr} {op : Operator} {pos' : Pos} {p : List D → Option D} {ma : M Opd} (hN : X.N.Nodup) (hi : X.N[i]? = some x) (hx : Loc X.env.scope x) (he : PE X ex (RO (Cx.gd X W xr) c ma)) (ho : PIp X op (two (rPrimR X.K p)))
    (hf : X.fn x = true ∨ X.env.scope.names.lookup x = some .local) : PS X (.AugAssign (.Name x pos') op ex pos) (RS (Cx.gd X W xr) c (sAug i p ma)) := by
  refine PS.weak (ps_aug hN hi hx he ho hf) fun Dn σ H ⟨Av, ρ, φ, e, h⟩ => ?_
  unfold sAug at h
  cases q : ρ[i]? with
  | none => simp only [q] at h
  | some x =>
    cases x with
    | none => simp only [q] at h
    | some d0 =>
      simp only [q] at h
      obtain ⟨v, hv, r⟩ := e.rep i d0 q
      by_cases w : isOwn d0 = false
      · rw [if_pos w] at h
        rw [own_nil w r] at r
        refine ⟨v, hv, Av, ρ, φ, e, ?_⟩
        cases q2 : ma c ρ with
        | bad => simp only [q2] at h
        | exc x ρ' => simp only [q2] at h; exact h
        | ok o ρ1 =>
          simp only [q2] at h
          intro u H1 Av1 φ1 G1 e1 r1 ap1 nd1 st1 og1
          cases q3 : gR o c ρ1 with
          | bad => simp only [q3] at h
          | exc x ρ' => simp only [q3] at h
          | ok y ρ2 =>
            simp only [q3] at h
            obtain ⟨er, ry⟩ := gR_ok e1 r1 q3
            subst er
            have rx : Rep X.K Av1 H1 [] v d0 := r.step st1 e Apart.nil
            cases q4 : p [d0, y] with
            | none => simp only [q4] at h
            | some d =>
              simp only [q4] at h
              by_cases fr : free c i = true
              · rw [if_pos fr] at h
                obtain ⟨f1, f2⟩ := free_iff fr
                refine ⟨Av1, [d0, y], d, e1.ok, .cons ⟨_, rx⟩ (.cons ry .nil), q4, fun z H2 Av2 G gr rz => ?_⟩
                have hl : i < ρ2.length := by rw [← e1.len, e.len]; exact get_lt q
                refine h _ H2 Av2 _ ((e1.grow gr).store hl rz (e1.apart gr)) ((st1.trans gr.step e.ok).store f2 ((Grow.org (φ := φ1) gr).step st1)) fun k hk => ?_
                refine List.getElem?_set_ne fun z => ?_
                subst z
                exact hk.elim f1 f2
              · rw [if_neg fr] at h; exact h.elim
      · rw [if_neg w] at h; exact h.elim

/-! ### an expression alone -/
def sExpr (m : M D) : M Fl := bnd m fun _ => pur .nx
theorem st_expr {ex : Expr} {m : M D} (he : PE X ex (RE (Cx.gd X W xr) c m)) (hs : swapsWith ex none pos.line X.env = pure false) : PS X (.Expr ex pos) (RS (Cx.gd X W xr) c (sExpr m)) := by
  refine PS.weak (ps_expr he hs) fun Dn σ H ⟨Av, ρ, φ, e, h⟩ => ⟨Av, ρ, φ, e, ?_⟩
  unfold sExpr at h
  cases q : m c ρ with
  | bad => simp only [bnd, q] at h
  | exc x ρ' => simp only [bnd, q] at h; exact h
  | ok d ρ1 => simp only [bnd, q, pur] at h; exact fun v H' Av' φ' G e' r ap st og => h σ H' Av' φ' e' st fun _ _ => rfl

/-! ### an owned list of a slot, changed by a method -/
/-- what a method makes of the items ds with the arguments as: the items behind it, the result -/
def mMut (i : Nat) (f : List D → List D → Option (List D × D)) (margs : M (List D)) : M D := fun c ρ => match ρ[i]? with
  | some (some (.lst _ _)) => match margs c ρ with
    | .ok as ρ1 => match ρ1[i]? with
      | some (some (.lst true ds)) => if i ∉ c.lock then match f ds as with
          | some (ds', d) => .ok d (ρ1.set i (some (.lst true ds')))
          | none => .bad
        else .bad
      | _ => .bad
    | .exc e ρ1 => .exc e ρ1
    | .bad => .bad
  | _ => .bad
/-- what the method's rule wants, by lists of values -/
def MutOk (K : PySem.W.Frag) (f : List D → List D → Option (List D × D)) (r : V → List V → Hp → VK → Prop) : Prop :=
  ∀ (Av : Addr → Prop) (H : Hp) (p : Addr) (F G : List Addr) (vs as : List V) (ds da ds' : List D) (d : D) (Q : VK), AvOk Av H → H p = some (.lst vs) → RepL K Av H F vs ds → RepL K Av H G as da → F.Nodup → G.Nodup → (∀ a ∈ G, a ∉ F) → p ∉ F → p ∉ G → f ds da = some (ds', d) →
    (∀ v vs' F' G', RepL K Av H F' vs' ds' → Rep K Av H G' v d → F'.Nodup → (∀ a ∈ F', a ∈ F ∨ a ∈ G) → (∀ a ∈ G', a ∈ F ∨ a ∈ G) → (∀ a ∈ G', a ∉ F') → Q v (upd H p (.lst vs'))) → r (.ref p) as H Q
theorem mut_fin {i : Nat} {f : List D → List D → Option (List D × D)} {r : V → List V → Hp → VK → Prop} {margs : M (List D)} {g : Gd} {Q : VK} (hm : MutOk g.K f r) (h : RE g c (mMut i f margs) σ H Q) :
    tVar i σ H fun x H1 => tyV g.K "list" x H1 ∧ RVL g c margs σ H1 fun vs H2 => r x vs H2 Q := by
  obtain ⟨Av, ρ, φ, e, h⟩ := h
  unfold mMut at h
  cases q : ρ[i]? with
  | none => simp only [q] at h
  | some x =>
    cases x with
    | none => simp only [q] at h
    | some d0 =>
      cases d0 with
      | lst ow ds0 =>
        simp only [q] at h
        obtain ⟨v, hv, rv⟩ := e.rep i _ q
        obtain ⟨p, rfl, hty⟩ : ∃ p, v = .ref p ∧ tyV g.K "list" (.ref p) H := by
          generalize φ i = Fi at rv
          cases rv with
          | lstF h1 _ _ => exact ⟨_, rfl, .inl ⟨rfl, _, .inl h1⟩⟩
          | lstK h1 _ => exact ⟨_, rfl, .inl ⟨rfl, _, sql_any h1⟩⟩
          | lstO h1 _ _ _ _ => exact ⟨_, rfl, .inl ⟨rfl, _, .inl (.inl h1)⟩⟩
        refine ⟨.ref p, hv, hty, Av, ρ, φ, e, ?_⟩
        cases q2 : margs c ρ with
        | bad => simp only [q2] at h
        | exc x ρ' => simp only [q2] at h; exact h
        | ok as ρ1 =>
          simp only [q2] at h
          intro vs H1 Av1 φ1 G1 e1 r1 ap1 nd1 st1 og1
          cases q3 : ρ1[i]? with
          | none => simp only [q3] at h
          | some x =>
            cases x with
            | none => simp only [q3] at h
            | some d1 =>
              cases d1 with
              | lst ow1 ds =>
                cases ow1 with
                | false => simp only [q3] at h
                | true =>
                  simp only [q3] at h
                  by_cases hl : i ∉ c.lock
                  · rw [if_pos hl] at h
                    cases q4 : f ds as with
                    | none => simp only [q4] at h
                    | some z =>
                      obtain ⟨ds', d⟩ := z
                      simp only [q4] at h
                      obtain ⟨w, hw, rw'⟩ := e1.rep i _ q3
                      rw [hv] at hw; cases hw
                      generalize hF : φ1 i = Fi at rw'
                      cases rw' with
                      | @lstO _ vs0 _ F b1 b2 b3 b4 b5 =>
                        have pi : p ∈ φ1 i := by rw [hF]; exact List.mem_cons_self
                        have Fi : ∀ a ∈ F, a ∈ φ1 i := fun a ha => by rw [hF]; exact List.mem_cons_of_mem _ ha
                        refine hm Av1 H1 p F G1 vs0 vs ds as ds' d Q e1.ok b1 b3 r1 b5 nd1 (fun a ha z => ap1 a ha i (Fi a z)) b4 (fun z => ap1 p z i pi) q4 fun v' vs' F' G' c1 c2 c3 c4 c5 c6 => ?_
                        have np : p ∉ F' := fun z => (c4 p z).elim b4 fun y => ap1 p y i pi
                        have npG : p ∉ G' := fun z => (c5 p z).elim b4 fun y => ap1 p y i pi
                        have hF' : ∀ a ∈ F', a ∈ φ1 i ∨ a ∈ G1 := fun a ha => (c4 a ha).imp (Fi a) id
                        have e2 := e1.change (vs' := vs') q3 hv pi b2 c1 np c3 hF' ap1
                        have s2 := st1.change (vs' := vs') e.ok hl pi hF' og1
                        have kp : Keep Av1 Av1 H1 (upd H1 p (.lst vs')) (fun a => a = p) := ⟨fun a o h n => by rw [upd_ne n]; exact h, fun a h => .inl h, fun a h _ => h⟩
                        refine h v' _ Av1 _ G' e2 (c2.keep e1.ok (fun a (h : a = p) => h ▸ b2) kp fun a ha z => npG (z ▸ ha)) (fun a ha j z => ?_) s2 fun a ha => ?_
                        · have z : a ∈ (if j = i then p :: F' else φ1 j) := z
                          by_cases y : j = i
                          · rw [if_pos y] at z
                            rcases List.mem_cons.mp z with z | z
                            · exact npG (z ▸ ha)
                            · exact c6 a ha z
                          · rw [if_neg y] at z
                            rcases c5 a ha with x | x
                            · exact y (e1.dis j i a z (Fi a x))
                            · exact ap1 a x j z
                        · rcases c5 a ha with x | x
                          · rcases st1.org i a (Fi a x) with y | ⟨_, y⟩
                            · exact .inl ⟨i, hl, y⟩
                            · exact y
                          · exact og1 a x
                  · rw [if_neg hl] at h; exact h.elim
              | _ => simp only [q3] at h
      | _ => simp only [q] at h
/-- append -/
def fAppend : List D → List D → Option (List D × D) := fun ds as => match as with
  | [d] => if ds.length < LN then some (ds ++ [d], .non) else none
  | _ => none
theorem mo_append : MutOk K fAppend rAppend := by
  intro Av H p F G vs as ds da ds' d Q ok hp r1 r2 n1 n2 ap pF pG hf hq
  match da, r2, hf with
  | [x], r2, hf =>
    by_cases hl : ds.length < LN
    · simp only [fAppend, if_pos hl] at hf
      cases hf
      cases r2 with
      | @cons v _ vs2 _ F1 F2 r3 r4 =>
        cases r4
        rw [List.append_nil] at *
        refine ⟨p, vs, v, rfl, rfl, hp, by rw [r1.length, ← ln_line]; exact hl, ?_⟩
        exact hq .non (vs ++ [v]) (F ++ F1) [] (r1.app (RepL.one r3)) .non (List.nodup_append.mpr ⟨n1, n2, fun a ha b hb e => ap b hb (e ▸ ha)⟩) (fun a ha => (List.mem_append.mp ha).imp id id) (fun a h => nomatch h) fun a h => nomatch h
    · simp only [fAppend, if_neg hl] at hf; cases hf
  | [], _, hf => cases hf
  | _ :: _ :: _, _, hf => cases hf
/-- pop of the last -/
def fPop : List D → List D → Option (List D × D) := fun ds as => match as with
  | [] => match ds[ds.length - 1]? with
    | some d => some (ds.eraseIdx (ds.length - 1), d)
    | none => none
  | [.int k] => if -(2 ^ 63) ≤ k ∧ k < 2 ^ 63 then match ixN ds.length k with
      | some j => match ds[j]? with
        | some d => some (ds.eraseIdx j, d)
        | none => none
      | none => none
    else none
  | _ => none
def rPopB : V → List V → Hp → VK → Prop := fun x vs H Q => rPop x vs H Q ∨ rPopAt x vs H Q
theorem mt_popB : MtR X "list.pop" rPopB := MtR.or mt_pop mt_popAt
theorem erase_last {α : Type} (l : List α) : l.eraseIdx (l.length - 1) = l.dropLast := by
  induction l with
  | nil => rfl
  | cons x xs ih =>
    cases xs with
    | nil => rfl
    | cons y ys =>
      show x :: (y :: ys).eraseIdx ((y :: ys).length - 1) = x :: (y :: ys).dropLast
      rw [ih]
theorem mo_pop : MutOk K fPop rPopB := by
  intro Av H p F G vs as ds da ds' d Q ok hp r1 r2 n1 n2 ap pF pG hf hq
  have hl := r1.length
  match da, r2, hf with
  | [], r2, hf =>
    cases r2
    simp only [fPop] at hf
    cases q : ds[ds.length - 1]? with
    | none => rw [q] at hf; cases hf
    | some x =>
      rw [q] at hf
      cases hf
      obtain ⟨y, F', G', a1, a2, a3, a4, a5, a6, a7⟩ := r1.out _ n1 q
      refine .inl ⟨p, vs, y, rfl, rfl, hp, by rw [hl]; exact a1, ?_⟩
      have := hq y _ F' G' a3 a2 a4 (fun a h => .inl (a6 a h)) (fun a h => .inl (a7 a h)) a5
      rwa [← hl, erase_last] at this
  | [.int k], r2, hf =>
    simp only [fPop] at hf
    by_cases hk : -(2 ^ 63) ≤ k ∧ k < 2 ^ 63
    · rw [if_pos hk] at hf
      cases q0 : ixN ds.length k with
      | none => rw [q0] at hf; cases hf
      | some j =>
        rw [q0] at hf
        dsimp only at hf
        cases q : ds[j]? with
        | none => rw [q] at hf; cases hf
        | some x =>
          rw [q] at hf
          cases hf
          obtain ⟨y, F', G', a1, a2, a3, a4, a5, a6, a7⟩ := r1.out _ n1 q
          cases r2 with
          | @cons v _ vs2 _ F1 F2 r3 r4 =>
            cases r4
            cases r3
            refine .inr ⟨p, vs, k, j, y, rfl, rfl, hp, hk.1, hk.2, by rw [hl]; exact (ixN_seq q0).1, a1, ?_⟩
            exact hq y _ F' G' a3 a2 a4 (fun a h => .inl (a6 a h)) (fun a h => .inl (a7 a h)) a5
    · rw [if_neg hk] at hf; cases hf
end
end Y

end
section
set_option Elab.async false
set_option linter.all false
set_option maxRecDepth 100000
set_option autoImplicit false
/-! Y10: names in short; methods; calls; xs[i] = e, xs[i] op= e. -/
namespace Y
open PySem L2
section
variable {X : Cx} {W : WX} {xr : (Addr → Prop) → Hp → D → Value → Option Addr → Prop} {c : Ctx} {pos : Pos}
variable {K : PySem.W.Frag} {Av Av0 Av1 Av2 Av' : Addr → Prop} {H H0 H1 H2 H' : Hp} {φ φ0 φ1 φ2 φ' : Nat → List Addr} {lock lock' : List Nat} {σ σ' : St} {ρ ρ' : Env} {F F' G : List Addr} {v : V} {d : D} {vs vs' : List V} {ds ds' : List D}

theorem vE (i : Nat) {x : Str} (hN : X.N[i]? = some x := by rfl) (hv : Vis X.env.scope x := by first | exact Or.inl rfl | exact Or.inr (Or.inl rfl) | exact Or.inr (Or.inr rfl)) (hd : (x == ("__debug__" : Str)) = false := by decide)
    (hcd : (x == ("__classdict__" : Str)) = false := by decide) : PE X (.Name x pos) (RE (Cx.gd X W xr) c (eVar i)) := s_var hN hv hd hcd
theorem vO (i : Nat) {x : Str} (hN : X.N[i]? = some x := by rfl) (hv : Vis X.env.scope x := by first | exact Or.inl rfl | exact Or.inr (Or.inl rfl) | exact Or.inr (Or.inr rfl)) (hd : (x == ("__debug__" : Str)) = false := by decide)
    (hcd : (x == ("__classdict__" : Str)) = false := by decide) : PE X (.Name x pos) (RO (Cx.gd X W xr) c (oN i)) := o_name hN hv hd hcd
theorem vA (i : Nat) {x : Str} (hN : X.N[i]? = some x := by rfl) (hv : Vis X.env.scope x := by first | exact Or.inl rfl | exact Or.inr (Or.inl rfl) | exact Or.inr (Or.inr rfl)) (hd : (x == ("__debug__" : Str)) = false := by decide)
    (hcd : (x == ("__classdict__" : Str)) = false := by decide) : PE X (.Name x pos) (RA1 (Cx.gd X W xr) c (aVar i)) := a_name hN hv hd hcd
theorem vM (i : Nat) {x : Str} (hN : X.N[i]? = some x := by rfl) (hv : Vis X.env.scope x := by first | exact Or.inl rfl | exact Or.inr (Or.inl rfl) | exact Or.inr (Or.inr rfl)) (hd : (x == ("__debug__" : Str)) = false := by decide)
    (hcd : (x == ("__classdict__" : Str)) = false := by decide) : PE X (.Name x pos) (RE (Cx.gd X W xr) c (mvVar i)) := s_mv hN hv hd hcd

/-! ### methods that change -/
theorem s_mut {e : Expr} {es : List Expr} {name x : Str} {apos px : Pos} {id : String} {r : V → List V → Hp → VK → Prop} {f : List D → List D → Option (List D × D)} {margs : M (List D)} (i : Nat) (slot : Slot "list" name id) (hty : typeOf (.builtin id) = pure (.type "method_descriptor")) (hm : MtR X id r) (mo : MutOk X.K f r)
    (ha : PA X (e :: es) (RVL (Cx.gd X W xr) c margs))
    (hN : X.N[i]? = some x := by rfl) (hv : Vis X.env.scope x := by first | exact Or.inl rfl | exact Or.inr (Or.inl rfl) | exact Or.inr (Or.inr rfl)) (hd : (x == ("__debug__" : Str)) = false := by decide) (hcd : (x == ("__classdict__" : Str)) = false := by decide)
    (hbase : attributeBase (.Name x px) name X.env (eval (.Name x px) X.env) = eval (.Name x px) X.env := by rfl)
    (hfew : ((backTo pos (starEach (e :: es) X.env)).all (fun x => !x.1) && (backToKw pos (keywordEach [] X.env)).all (fun x => x.1.isSome)
      && decide ((e :: es).length + ([] : List Keyword).length + (if ([] : List Keyword).isEmpty then 0 else 1) < 30)) = true := by rfl)
    (hline : (apos.endLine == pos.line) = true := by rfl) (hs : starEach (e :: es) X.env = (false, eval e X.env) :: starEach es X.env := by rfl) (hplain : (backTo pos (starEach es X.env)).any (·.1) = false := by rfl) :
    PE X (.Call (.Attribute (.Name x px) name apos) (e :: es) [] pos) (RE (Cx.gd X W xr) c (mMut i f margs)) :=
  PE.weak (pe_bm PySem.F.plainAttrs_list slot hty hm (pe_var hN hv hd hcd) ha hbase hfew hline hs hplain) fun _ _ _ h => mut_fin mo h
theorem s_mut0 {name x : Str} {apos px : Pos} {id : String} {r : V → List V → Hp → VK → Prop} {f : List D → List D → Option (List D × D)} (i : Nat) (slot : Slot "list" name id) (hty : typeOf (.builtin id) = pure (.type "method_descriptor")) (hm : MtR X id r) (mo : MutOk X.K f r)
    (hN : X.N[i]? = some x := by rfl) (hv : Vis X.env.scope x := by first | exact Or.inl rfl | exact Or.inr (Or.inl rfl) | exact Or.inr (Or.inr rfl)) (hd : (x == ("__debug__" : Str)) = false := by decide) (hcd : (x == ("__classdict__" : Str)) = false := by decide)
    (hbase : attributeBase (.Name x px) name X.env (eval (.Name x px) X.env) = eval (.Name x px) X.env := by rfl) (hline : (apos.endLine == pos.line) = true := by rfl) :
    PE X (.Call (.Attribute (.Name x px) name apos) [] [] pos) (RE (Cx.gd X W xr) c (mMut i f (pur []))) :=
  PE.weak (pe_bm0 PySem.F.plainAttrs_list slot hty hm (pe_var hN hv hd hcd) hbase hline) fun σ H Q h => by
    obtain ⟨v, hv, ht, Av, ρ, φ, e, h⟩ := mut_fin mo h
    exact ⟨v, hv, ht, h [] H Av φ [] e .nil Apart.nil .nil Step.refl OrgG.nil⟩

/-- extend by a list, whatever it is -/
def rExtendS (K : PySem.W.Frag) : V → List V → Hp → VK → Prop := fun x vs H Q => ∃ l b xs zs, x = .ref l ∧ vs = [.ref b] ∧ H l = some (.lst xs) ∧ H b = some (.lst zs) ∧ xs.length + zs.length ≤ sizeLine ∧ Q .non (upd H l (.lst (xs ++ zs)))
def fExtend : List D → List D → Option (List D × D) := fun ds as => match as with
  | [.lst true es] => if ds.length + es.length ≤ LN then some (ds ++ es, .non) else none
  | _ => none
theorem mo_extend : MutOk K fExtend rExtend := by
  intro Av H p F G vs as ds da ds' d Q ok hp r1 r2 n1 n2 ap pF pG hf hq
  match da, r2, hf with
  | [.lst true es], r2, hf =>
    by_cases hl : ds.length + es.length ≤ LN
    · simp only [fExtend, if_pos hl] at hf
      cases hf
      cases r2 with
      | cons r3 r4 =>
        cases r4
        rw [List.append_nil] at *
        cases r3 with
        | @lstO b zs _ F2 c1 c2 c3 c4 c5 =>
          refine ⟨p, b, vs, zs, rfl, rfl, hp, c1, by rw [r1.length, c3.length, ← ln_line]; exact hl, ?_⟩
          exact hq .non (vs ++ zs) (F ++ F2) [] (r1.app c3) .non (List.nodup_append.mpr ⟨n1, c5, fun a ha b hb e => ap b (List.mem_cons_of_mem _ hb) (e ▸ ha)⟩) (fun a ha => (List.mem_append.mp ha).imp id fun z => List.mem_cons_of_mem _ z) (fun a h => nomatch h) fun a h => nomatch h
    · simp only [fExtend, if_neg hl] at hf; cases hf

/-! ### calls of defs -/
/-- a def of the module by its meaning -/
structure FnY (P : Program) (w : World) (K : PySem.W.Frag) (mg : Str → Option Value) (base : Heap) (xr : (Addr → Prop) → Hp → D → Value → Option Addr → Prop) (k : Nat) (x : Str) (n : Nat) (Φ : List D → Fo) : Prop where
  ex : ∃ f fd ps, FnOk P w K mg base (L2.CX P w) k f fd ps (spF K xr n Φ) ∧ mg x = some (.ref f) ∧ PySem.W.keepIn K (.ref f) = true ∧ Binds K fd ps []
theorem FnY.mono {P : Program} {w : World} {mg : Str → Option Value} {base : Heap} {j k : Nat} {x : Str} {n : Nat} {Φ : List D → Fo} (F : FnY P w K mg base xr j x n Φ) (h : j ≤ k) : FnY P w K mg base xr k x n Φ := by
  obtain ⟨f, fd, ps, F, a, b, c⟩ := F.ex
  exact ⟨f, fd, ps, F.mono h, a, b, c⟩
theorem s_call {k n : Nat} {x : Str} {Φ : List D → Fo} {p : Pos} {e : Expr} {es : List Expr} {margs : M (List (D × Option Nat))} (F : FnY X.prog X.w X.K X.mg X.base xr k x n Φ) (hr : Room k X.A) (tk : Takes X W) (ha : PA X (e :: es) (RAL (Cx.gd X W xr) c margs))
    (hg : Gl X x := by rfl) (hdb : (x == ("__debug__" : Str)) = false := by decide) (he : starEach (e :: es) X.env = (false, eval e X.env) :: starEach es X.env := by rfl) (hpl : (backTo pos (starEach es X.env)).any (·.1) = false := by rfl) :
    PE X (.Call (.Name x p) (e :: es) [] pos) (RE (Cx.gd X W xr) c (mCall n Φ margs)) := by
  obtain ⟨f, fd, ps, F, a, b, c⟩ := F.ex
  exact PE.weak (pe_callS F hr hg a b c (fun σ => passAt tk σ) ha hdb he hpl) fun _ _ _ h => ral_fin h

/-! ### xs[i] = e -/
def setI (i : Nat) (mi : M D) (d : D) : M Unit := fun c ρ => match ρ[i]? with
  | some (some (.lst _ _)) => match mi c ρ with
    | .ok (.int k) ρ1 => match ρ1[i]? with
      | some (some (.lst true ds)) => if i ∉ c.lock then match ixN ds.length k with
          | some j => .ok () (ρ1.set i (some (.lst true (ds.set j d))))
          | none => .bad
        else .bad
      | _ => .bad
    | _ => .bad
  | _ => .bad
theorem setI_fin {i : Nat} {mi : M D} {g : Gd} {v : V} {Q : St → Hp → Prop} (h : RG g c (setI i mi) v σ H Q) : gSub (tVar i) (RE g c mi) rSetL v σ H Q := by
  obtain ⟨Av0, H0, φ0, Av, ρ, φ, d, G, ok0, S, og, e, r, ap, h⟩ := h
  unfold setI at h
  cases q : ρ[i]? with
  | none => simp only [q] at h
  | some x =>
    cases x with
    | none => simp only [q] at h
    | some d0 =>
      cases d0 with
      | lst ow ds0 =>
        simp only [q] at h
        obtain ⟨w, hw, rw0⟩ := e.rep i _ q
        refine ⟨w, hw, Av, ρ, φ, e, ?_⟩
        cases q2 : mi c ρ with
        | bad => simp only [q2] at h
        | exc x ρ' => simp only [q2] at h
        | ok dk ρ1 =>
          cases dk with
          | int k =>
            simp only [q2] at h
            intro kv H1 Av1 φ1 G1 e1 r1 ap1 st1 og1
            cases q3 : ρ1[i]? with
            | none => simp only [q3] at h
            | some x =>
              cases x with
              | none => simp only [q3] at h
              | some d1 =>
                cases d1 with
                | lst ow1 ds =>
                  cases ow1 with
                  | false => simp only [q3] at h
                  | true =>
                    simp only [q3] at h
                    by_cases hl : i ∉ c.lock
                    · rw [if_pos hl] at h
                      cases q4 : ixN ds.length k with
                      | none => simp only [q4] at h
                      | some j =>
                        simp only [q4] at h
                        cases r1
                        obtain ⟨w', hw', rw'⟩ := e1.rep i _ q3
                        rw [hw] at hw'; cases hw'
                        generalize hF : φ1 i = Fi at rw'
                        cases rw' with
                        | @lstO p vs0 _ F b1 b2 b3 b4 b5 =>
                          have pi : p ∈ φ1 i := by rw [hF]; exact List.mem_cons_self
                          have Fi : ∀ a ∈ F, a ∈ φ1 i := fun a ha => by rw [hF]; exact List.mem_cons_of_mem _ ha
                          have rd : Rep g.K Av1 H1 G v d := r.step st1 e ap
                          have apd : Apart G φ1 := ap.step st1 (r.there e.ok)
                          obtain ⟨F', c1, c3, c4⟩ := RepL.put rd j b3 b5 rd.nodup fun a ha z => apd a ha i (Fi a z)
                          have np : p ∉ F' := fun z => (c4 p z).elim b4 fun y => apd p y i pi
                          have hF' : ∀ a ∈ F', a ∈ φ1 i ∨ a ∈ G := fun a ha => (c4 a ha).imp (Fi a) id
                          have e2 := e1.change (vs' := vs0.set j v) q3 hw pi b2 c1 np c3 hF' apd
                          have s1 := S.trans st1 ok0
                          have s2 := s1.change (vs' := vs0.set j v) ok0 hl pi hF' og
                          refine ⟨p, vs0, k, j, rfl, rfl, b1, by rw [b3.length]; exact q4, ?_⟩
                          have src : ∀ a, a ∈ φ1 i → (∃ j, a ∈ φ j) ∨ H a = none := fun a ha => by
                            rcases st1.org i a ha with z | ⟨_, ⟨j, _, z⟩ | z⟩
                            · exact .inl ⟨i, z⟩
                            · exact .inl ⟨j, z⟩
                            · exact .inr z
                          refine h σ _ Av1 _ e2 s2 ⟨⟨fun a o ha n => ?_, st1.av, fun a ha n => st1.own a ha fun i z => n (.inl ⟨i, z⟩)⟩, fun i' a ha => ?_, fun a ha => ?_⟩ fun _ _ => rfl
                          · rw [upd_ne fun z => ?_]
                            · exact st1.keep a o ha fun i _ z => n (.inl ⟨i, z⟩)
                            · subst z
                              rcases src _ pi with y | y
                              · exact n (.inl y)
                              · rw [ha] at y; cases y
                          · have ha : a ∈ (if i' = i then p :: F' else φ1 i') := ha
                            by_cases z : i' = i
                            · rw [if_pos z] at ha
                              rcases List.mem_cons.mp ha with y | y
                              · subst y; exact (src _ pi).imp .inl id
                              · rcases c4 a y with y | y
                                · exact (src a (Fi a y)).imp .inl id
                                · exact .inl (.inr y)
                            · rw [if_neg z] at ha
                              rcases st1.org i' a ha with y | ⟨_, ⟨j, _, y⟩ | y⟩
                              · exact .inl (.inl ⟨i', y⟩)
                              · exact .inl (.inl ⟨j, y⟩)
                              · exact .inr y
                          · by_cases z : a = p
                            · subst z; rw [upd_same]; exact fun q => nomatch q
                            · rw [upd_ne z]; exact st1.there a ha
                    · rw [if_neg hl] at h; exact h.elim
                | _ => simp only [q3] at h
          | _ => simp only [q2] at h
      | _ => simp only [q] at h
theorem g_ix {x : Str} {px : Pos} {e : Expr} {mi : M D} (i : Nat) (hi : PE X e (RE (Cx.gd X W xr) c mi)) (hN : X.N[i]? = some x := by rfl) (hv : Vis X.env.scope x := by first | exact Or.inl rfl | exact Or.inr (Or.inl rfl) | exact Or.inr (Or.inr rfl)) (hd : (x == ("__debug__" : Str)) = false := by decide)
    (hcd : (x == ("__classdict__" : Str)) = false := by decide)
    (ha : ∀ v, assign (.Subscript (.Name x px) e pos) X.env v = (do
      let ov ← holding [v] (eval (.Name x px) X.env)
      let iv ← holding [v, ov] (eval e X.env)
      standAt pos
      holding [v, ov, iv] (setItem ov iv v)
      release [v, ov, iv] []) := by intro _; rfl) : PG X (.Subscript (.Name x px) e pos) (RG (Cx.gd X W xr) c (setI i mi)) :=
  PG.weak (pg_sub (pe_var hN hv hd hcd) hi set_list ha) fun _ _ _ _ h => setI_fin h

/-! ### xs[i] op= e -/
def rGetL (K : PySem.W.Frag) : V → V → Hp → VK → Prop := fun x y H Q => ∃ p xs i v, x = .ref p ∧ y = .int i ∧ SqL K H p xs ∧ atI xs i = some v ∧ Q v H
theorem get_listV : PGet X (rGetL X.K) := by
  intro pins s σ H o i ov iv Q I ro ri h
  obtain ⟨p, xs, i, z, rfl, rfl, hq, he, q⟩ := h
  cases ro
  obtain ⟨t, rfl⟩ := ri
  obtain ⟨its, r, pl, hz⟩ := I.list hq
  obtain ⟨j, h1, h2, h3, h4, h5⟩ := atI_get he
  obtain ⟨w, ew, rw'⟩ := r.get h2
  have hl := r.length
  have hn := line63
  have fin : EP X pins σ Q w s := ⟨z, H, I, rw', q⟩
  by_cases h0 : 0 ≤ i
  · have hj : i.toNat = j := by
      rw [seqIndex_of h0 h5] at h1
      exact Option.some.inj h1
    exact wpAny_getItem_list (Q := fun r s' => EP X pins σ Q r s') pl.isList h0 (by omega) (by rw [hj]; simpa using ew) fin
  · have hj : (i + (its.toArray.size : Int)).toNat = j := by
      rw [seqIndex_neg (by omega) h4] at h1
      rw [List.size_toArray, ← hl]
      exact Option.some.inj h1
    exact wpAny_getItem_list_neg (Q := fun r s' => EP X pins σ Q r s') pl.isList (by omega) (by rw [List.size_toArray] <;> omega) (by omega) (by rw [hj]; simpa using ew) fin
/-- a member of an owned list, by place -/
def ownIx (ρ : Env) (i : Nat) (k : Int) : Option (List D × Nat × D) := match ρ[i]? with
  | some (some (.lst true ds)) => match ixN ds.length k with
    | some j => match ds[j]? with
      | some d => if isOwn d = false then some (ds, j, d) else none
      | none => none
    | none => none
  | _ => none
def sAugI (i : Nat) (mi : M D) (p : List D → Option D) (ma : M Opd) : M Fl := fun c ρ => match ρ[i]? with
  | some (some (.lst _ _)) => match mi c ρ with
    | .ok (.int k) ρ1 => match ownIx ρ1 i k with
      | some (_, _, d0) => match ma c ρ1 with
        | .ok o ρ2 => match gR o c ρ2 with
          | .ok y ρ3 => match p [d0, y] with
            | some d => match ownIx ρ3 i k with
              | some (ds, j, _) => if i ∉ c.lock then .ok .nx (ρ3.set i (some (.lst true (ds.set j d)))) else .bad
              | none => .bad
            | none => .bad
          | _ => .bad
        | .exc e ρ2 => .exc e ρ2
        | .bad => .bad
      | none => .bad
    | .exc e ρ1 => .exc e ρ1
    | _ => .bad
  | _ => .bad
theorem ownIx_ok {i : Nat} {k : Int} {ds : List D} {j : Nat} (h : ownIx ρ i k = some (ds, j, d)) : ρ[i]? = some (some (.lst true ds)) ∧ ixN ds.length k = some j ∧ ds[j]? = some d ∧ isOwn d = false := by
  unfold ownIx at h
  split at h
  · rename_i ds1 q1
    split at h
    · rename_i j1 q2
      split at h
      · rename_i d1 q3
        split at h
        · rename_i q4
          cases h
          exact ⟨q1, q2, q3, q4⟩
        · cases h
      · cases h
    · cases h
  · cases h
theorem RepL.mem : ∀ {F : List Addr} {vs : List V} {ds : List D} {j : Nat}, RepL K Av H F vs ds → ds[j]? = some d → ∃ v G, vs[j]? = some v ∧ Rep K Av H G v d ∧ ∀ a ∈ G, a ∈ F
  | _, _, _, _, .nil, h => by simp at h
  | _, _, _, 0, .cons (F := F1) r _, h => by
    have h := Option.some.inj (show some _ = some d from h)
    subst h
    exact ⟨_, F1, rfl, r, fun a ha => List.mem_append_left _ ha⟩
  | _, _, _, j + 1, .cons _ t, h => by
    obtain ⟨v, G, h1, h2, h3⟩ := RepL.mem (j := j) t (by simpa using h)
    exact ⟨v, G, by simpa using h1, h2, fun a ha => List.mem_append_right _ (h3 a ha)⟩
theorem ixN_atI {α : Type} {xs : List α} {k : Int} {j : Nat} (h : ixN xs.length k = some j) : atI xs k = xs[j]? := by
  rw [show atI xs k = (ixN xs.length k).bind fun j => xs[j]? from rfl, h]; rfl
/-- an owned list of a slot and its member -/
theorem EnvR.own_ix (e : EnvR K Av H σ ρ φ) {i : Nat} {k : Int} {j : Nat} {v : V} (h : ownIx ρ i k = some (ds, j, d)) (hs : σ[i]? = some (some v)) :
    ∃ p xs F x, v = .ref p ∧ φ i = p :: F ∧ H p = some (.lst xs) ∧ Av p ∧ RepL K Av H F xs ds ∧ p ∉ F ∧ F.Nodup ∧ ixN xs.length k = some j ∧ xs[j]? = some x ∧ Rep K Av H [] x d := by
  obtain ⟨q1, q2, q3, q4⟩ := ownIx_ok h
  obtain ⟨w, hw, r⟩ := e.rep i _ q1
  rw [hs] at hw; cases hw
  generalize φ i = Fi at r
  cases r with
  | @lstO p xs _ F b1 b2 b3 b4 b5 =>
    obtain ⟨x, G, h1, h2, _⟩ := b3.mem q3
    rw [own_nil q4 h2] at h2
    exact ⟨p, xs, F, x, rfl, rfl, b1, b2, b3, b4, b5, by rw [b3.length]; exact q2, h1, h2⟩
theorem st_augI {x : Str} {px tpos : Pos} {e ex : Expr} {op : Operator} {mi : M D} {p : List D → Option D} {ma : M Opd} (i : Nat) (hi : PE X e (RE (Cx.gd X W xr) c mi)) (he : PE X ex (RO (Cx.gd X W xr) c ma)) (ho : PIp X op (two (rPrimR X.K p)))
    (hN : X.N[i]? = some x := by rfl) (hv : Vis X.env.scope x := by first | exact Or.inl rfl | exact Or.inr (Or.inl rfl) | exact Or.inr (Or.inr rfl)) (hd : (x == ("__debug__" : Str)) = false := by decide)
    (hcd : (x == ("__classdict__" : Str)) = false := by decide)
    (ha : ∀ ov iv new, augStore e ov iv new = (do holding [new, ov, iv] (setItem ov iv new); release [new, ov, iv] []; pure .next) := by intros; rfl) :
    PS X (.AugAssign (.Subscript (.Name x px) e tpos) op ex pos) (RS (Cx.gd X W xr) c (sAugI i mi p ma)) := by
  refine PS.weak (ps_augS (pe_var hN hv hd hcd) hi get_listV he ho set_list ha) fun Dn σ H ⟨Av, ρ, φ, e, h⟩ => ?_
  unfold sAugI at h
  cases q : ρ[i]? with
  | none => simp only [q] at h
  | some x =>
    cases x with
    | none => simp only [q] at h
    | some d0 =>
      cases d0 with
      | lst ow ds0 =>
        simp only [q] at h
        obtain ⟨w, hw, rw0⟩ := e.rep i _ q
        refine ⟨w, hw, Av, ρ, φ, e, ?_⟩
        cases q2 : mi c ρ with
        | bad => simp only [q2] at h
        | exc x ρ' => simp only [q2] at h; exact h
        | ok dk ρ1 =>
          cases dk with
          | int k =>
            simp only [q2] at h
            intro kv H1 Av1 φ1 G1 e1 r1 ap1 st1 og1
            cases q3 : ownIx ρ1 i k with
            | none => simp only [q3] at h
            | some z =>
              obtain ⟨ds1, j1, d1⟩ := z
              simp only [q3] at h
              cases r1
              obtain ⟨p1, xs1, F1, x1, rfl, f1, f2, f3, f4, f5, f6, f7, f8, f9⟩ := e1.own_ix q3 hw
              refine ⟨p1, xs1, k, x1, rfl, rfl, .inl (.inl f2), by rw [ixN_atI f7]; exact f8, Av1, ρ1, φ1, e1, ?_⟩
              cases q4 : ma c ρ1 with
              | bad => simp only [q4] at h
              | exc x ρ' =>
                simp only [q4] at h
                exact fun cls y σ' H' Av' φ' e' xr' st hp => h cls y σ' H' Av' φ' e' xr' (st1.trans st e.ok) hp
              | ok o ρ2 =>
                simp only [q4] at h
                intro u H2 Av2 φ2 G2 e2 r2 ap2 nd2 st2 og2
                cases q5 : gR o c ρ2 with
                | bad => simp only [q5] at h
                | exc x ρ' => simp only [q5] at h
                | ok y ρ3 =>
                  simp only [q5] at h
                  obtain ⟨er, ry⟩ := gR_ok e2 r2 q5
                  subst er
                  have rx : Rep X.K Av2 H2 [] x1 d1 := f9.step st2 e1 Apart.nil
                  cases q6 : p [d1, y] with
                  | none => simp only [q6] at h
                  | some d =>
                    simp only [q6] at h
                    cases q7 : ownIx ρ3 i k with
                    | none => simp only [q7] at h
                    | some z =>
                      obtain ⟨ds2, j2, d2⟩ := z
                      simp only [q7] at h
                      by_cases hl : i ∉ c.lock
                      · rw [if_pos hl] at h
                        refine ⟨Av2, [d1, y], d, e2.ok, .cons ⟨_, rx⟩ (.cons ry .nil), q6, fun z H3 Av3 G gr rz => ?_⟩
                        have e3 := e2.grow gr
                        have st3 := (st1.trans st2 e.ok).trans gr.step e.ok
                        obtain ⟨p2, xs2, F2, x2, hp, g1, g2, g3, g4, g5, g6, g7, g8, g9⟩ := e3.own_ix q7 hw
                        obtain rfl : p1 = p2 := by injection hp
                        obtain ⟨q31, q32, q33, q34⟩ := ownIx_ok q7
                        have apd : Apart G φ2 := e2.apart gr
                        have pi : p1 ∈ φ2 i := by rw [g1]; exact List.mem_cons_self
                        have Fi : ∀ a ∈ F2, a ∈ φ2 i := fun a ha => by rw [g1]; exact List.mem_cons_of_mem _ ha
                        obtain ⟨F', c1, c3, c4⟩ := RepL.put rz j2 g4 g6 rz.nodup fun a ha z => apd a ha i (Fi a z)
                        have np : p1 ∉ F' := fun z => (c4 p1 z).elim g5 fun y => apd p1 y i pi
                        have hF' : ∀ a ∈ F', a ∈ φ2 i ∨ a ∈ G := fun a ha => (c4 a ha).imp (Fi a) id
                        have e4 := e3.change (vs' := xs2.set j2 z) q31 hw pi g3 c1 np c3 hF' apd
                        have og : OrgG c.lock H φ G := fun a ha => by
                          rcases ((Grow.org (lock := c.lock) (φ := φ2) gr).step (st1.trans st2 e.ok)) a ha with y | y
                          · exact .inl y
                          · exact .inr y
                        have s4 := st3.change (vs' := xs2.set j2 z) e.ok hl pi hF' og
                        exact ⟨p1, xs2, k, j2, rfl, rfl, g2, g7, h σ _ Av3 _ e4 s4 fun _ _ => rfl⟩
                      · rw [if_neg hl] at h; exact h.elim
          | _ => simp only [q2] at h
      | _ => simp only [q] at h
end
end Y

end
section
set_option Elab.async false
set_option linter.all false
set_option maxRecDepth 100000
set_option autoImplicit false
/-! Y10b: arguments are lent when all of them are there. -/
namespace Y
open PySem L2
def lendL : List Opd → M (List (D × Option Nat))
  | [] => pur []
  | .val d :: os => bnd (lendL os) fun ps => pur ((d, none) :: ps)
  | .slot i :: os => bnd (aVar i) fun p => bnd (lendL os) fun ps => pur (p :: ps)
section
variable {X : Cx} {W : WX} {xr : (Addr → Prop) → Hp → D → Value → Option Addr → Prop} {c : Ctx} {pos : Pos}
variable {K : PySem.W.Frag} {Av Av0 Av1 Av2 Av' : Addr → Prop} {H H0 H1 H2 H' : Hp} {φ φ0 φ1 φ2 φ' : Nat → List Addr} {lock : List Nat} {σ σ' : St} {ρ ρ1 ρ' : Env} {F G : List Addr} {v : V} {d : D} {vs : List V} {ds : List D}
theorem aVar_noexc {i : Nat} {x : D} : aVar i c ρ ≠ .exc x ρ' := by
  intro h
  unfold aVar at h
  split at h
  · split at h <;> cases h
  · cases h
theorem lendL_noexc {x : D} : ∀ {os : List Opd} {ρ ρ' : Env}, lendL os c ρ ≠ .exc x ρ'
  | [], _, _ => fun h => nomatch (show Rs.ok [] _ = Rs.exc x _ from h)
  | .val d :: os, _, _ => fun h => by
    rcases bnd_exc (m := lendL os) h with h | ⟨a, ρ1, _, h⟩
    · exact lendL_noexc h
    · cases h
  | .slot i :: os, _, _ => fun h => by
    rcases bnd_exc (m := aVar i) h with h | ⟨a, ρ1, _, h⟩
    · exact aVar_noexc h
    · rcases bnd_exc (m := lendL os) h with h | ⟨a, ρ1, _, h⟩
      · exact lendL_noexc h
      · cases h
/-- one slot -/
theorem lend_one (e : EnvR K Av H σ ρ φ) {i : Nat} {p : D × Option Nat} (hs : σ[i]? = some (some v)) (h : aVar i c ρ = .ok p ρ1) :
    ∃ Av1 φ1 G, EnvR K Av1 H σ ρ1 φ1 ∧ Rep K Av1 H G v p.1 ∧ Apart G φ1 ∧ Step c.lock Av Av1 H H φ φ1 ∧ (∀ a ∈ G, i ∉ c.lock ∧ a ∈ φ i) ∧ (∀ k, p.2 = some k → k ∉ c.lock ∧ σ[k]? = some (some v)) ∧ ∀ j a, a ∈ φ1 j → a ∈ φ j := by
  unfold aVar at h
  cases q : ρ[i]? with
  | none => rw [q] at h; cases h
  | some x =>
    cases x with
    | none => rw [q] at h; cases h
    | some d =>
      rw [q] at h
      dsimp only at h
      by_cases hc : isOwn d = true ∧ i ∉ c.lock
      · rw [if_pos hc] at h
        cases h
        obtain ⟨w, hw, r, e1, ap, st⟩ := e.lend (lock := c.lock) q
        rw [hs] at hw; cases hw
        refine ⟨Av, _, φ i, e1, r, ap, st, fun a ha => ⟨hc.2, ha⟩, fun k hk => ?_, fun j a ha => ?_⟩
        · have hk : some i = some k := hk
          cases hk
          exact ⟨hc.2, hs⟩
        · have ha : a ∈ (if j = i then [] else φ j) := ha
          by_cases z : j = i
          · rw [if_pos z] at ha; cases ha
          · rw [if_neg z] at ha; exact ha
      · rw [if_neg hc] at h
        cases h
        obtain ⟨w, hw, r⟩ := e.rep i d q
        rw [hs] at hw; cases hw
        have r' : Rep K (fun a => Av a ∧ a ∉ φ i) H [] v (frz d) := r.frz (fun a h => h.1) fun a ha h => h.2 ha
        obtain ⟨e1, s1⟩ := e.turn (lock := c.lock) (F := []) (Av' := fun a => Av a ∧ a ∉ φ i) q hs (fun a h => nomatch h) (fun a => by simp) r'
        refine ⟨_, _, [], e1, r', Apart.nil, s1, fun a h => (nomatch h), fun k z => (nomatch z), fun j a ha => ?_⟩
        have ha : a ∈ (if j = i then [] else φ j) := ha
        by_cases z : j = i
        · rw [if_pos z] at ha; cases ha
        · rw [if_neg z] at ha; exact ha
/-- an argument ahead of others -/
theorem ArgR.cons {p : D × Option Nat} {ps : List (D × Option Nat)} {ψ : Nat → List Addr} (ar : ArgR K Av H σ lock vs ps ψ) (r : Rep K Av H G v p.1) (far : ∀ j a, a ∈ G → a ∉ ψ j) (ln : ∀ k, p.2 = some k → k ∉ lock ∧ σ[k]? = some (some v)) :
    ArgR K Av H σ lock (v :: vs) (p :: ps) (fun j => match j with | 0 => G | j + 1 => ψ j) := by
  refine ⟨⟨?_, fun j d hj => ?_, fun j hj => ?_, fun j k a h1 h2 => ?_, ar.env.ok⟩, fun j d i hj => ?_⟩
  · have := ar.env.len
    simpa using this
  · cases j with
    | zero =>
      have z : some p.1 = some d := by simpa using hj
      cases z
      exact ⟨v, rfl, r⟩
    | succ j => exact ar.env.rep j d (by simpa using hj)
  · cases j with
    | zero => exact absurd rfl (hj p.1)
    | succ j => exact ar.env.emp j fun d z => hj d (by simpa using z)
  · cases j with
    | zero =>
      cases k with
      | zero => rfl
      | succ k => exact absurd h2 (far k a h1)
    | succ j =>
      cases k with
      | zero => exact absurd h1 (far j a h2)
      | succ k => rw [ar.env.dis j k a h1 h2]
  · cases j with
    | zero =>
      have z : p = (d, some i) := by simpa using hj
      obtain ⟨n1, n2⟩ := ln i (by rw [z])
      exact ⟨n1, v, rfl, n2⟩
    | succ j => exact ar.lent j d i (by simpa using hj)
theorem lend_ok : ∀ {os : List Opd} {vs : List V} {F : List Addr} {Av : Addr → Prop} {ρ ρ' : Env} {φ : Nat → List Addr} {ps : List (D × Option Nat)}, EnvR K Av H σ ρ φ → RepOL K Av H σ F vs os → F.Nodup → Apart F φ → lendL os c ρ = .ok ps ρ' →
    ∃ Av' φ' ψ, EnvR K Av' H σ ρ' φ' ∧ ArgR K Av' H σ c.lock vs ps ψ ∧ (∀ j, Apart (ψ j) φ') ∧ Step c.lock Av Av' H H φ φ' ∧ ∀ j a, a ∈ ψ j → a ∈ F ∨ ∃ i, i ∉ c.lock ∧ a ∈ φ i
  | [], _, _, Av, ρ, _, φ, _, e, r, nd, ap, h => by
    cases r
    have h' : Rs.ok [] ρ = .ok _ _ := h
    cases h'
    exact ⟨Av, φ, fun _ => [], e, ⟨⟨rfl, fun i d h => (nomatch h), fun _ _ => rfl, fun _ _ _ h => (nomatch h), e.ok⟩, fun j d i h => (nomatch h)⟩, fun _ => Apart.nil, Step.refl, fun j a h => nomatch h⟩
  | .val d :: os, _, _, Av, ρ, _, φ, _, e, r, nd, ap, h => by
    cases r with
    | @cons v _ vs _ F1 F2 r1 r2 =>
      obtain ⟨ps, ρ1, q, h⟩ := bnd_ok (m := lendL os) h
      cases h
      obtain ⟨n1, n2, n3⟩ := List.nodup_append.mp nd
      have ap1 : Apart F1 φ := fun a ha => ap a (List.mem_append_left _ ha)
      obtain ⟨Av2, φ2, ψ, e2, ar, a2, st, og⟩ := lend_ok e r2 n2 (fun a ha => ap a (List.mem_append_right _ ha)) q
      have r1' : Rep K Av2 H F1 v d := Rep.step st e r1 ap1
      refine ⟨Av2, φ2, _, e2, ar.cons (p := (d, none)) r1' (fun j a ha hb => ?_) (fun k z => nomatch z), fun j => ?_, st, fun j a ha => ?_⟩
      · rcases og j a hb with z | ⟨i, _, z⟩
        · exact n3 a ha a z rfl
        · exact ap1 a ha i z
      · cases j with
        | zero => exact ap1.step st (r1.there e.ok)
        | succ j => exact a2 j
      · cases j with
        | zero => exact .inl (List.mem_append_left _ ha)
        | succ j => exact (og j a ha).imp (fun z => List.mem_append_right _ z) id
  | .slot i :: os, _, _, Av, ρ, _, φ, _, e, r, nd, ap, h => by
    cases r with
    | @cons v _ vs _ F1 F2 r1 r2 =>
      obtain ⟨p, ρ1, q1, h⟩ := bnd_ok (m := aVar i) h
      obtain ⟨ps, ρ2, q, h⟩ := bnd_ok (m := lendL os) h
      cases h
      obtain ⟨hs, rfl⟩ := (show σ[i]? = some (some v) ∧ F1 = [] from r1)
      obtain ⟨Av1, φ1, G, e1, rp, apG, st1, hG, ln, sub⟩ := lend_one e hs q1
      have n2 : F2.Nodup := nd
      have ap2 : Apart F2 φ := ap
      have r2' : RepOL K Av1 H σ F2 vs os := r2.keep e.ok (fun a ⟨i, h⟩ => e.own h) st1.keeps fun a ha ⟨i, h⟩ => ap2 a ha i h
      obtain ⟨Av2, φ2, ψ, e2, ar, a2, st, og⟩ := lend_ok e1 r2' n2 (fun a ha k z => ap2 a ha k (sub k a z)) q
      have r1' : Rep K Av2 H G v p.1 := Rep.step st e1 rp apG
      refine ⟨Av2, φ2, _, e2, ar.cons r1' (fun j a ha hb => ?_) ln, fun j => ?_, st1.trans st e.ok, fun j a ha => ?_⟩
      · rcases og j a hb with z | ⟨k, _, z⟩
        · exact ap2 a z i (hG a ha).2
        · exact apG a ha k z
      · cases j with
        | zero => exact apG.step st (rp.there e1.ok)
        | succ j => exact a2 j
      · cases j with
        | zero => exact .inr ⟨i, hG a ha⟩
        | succ j => exact (og j a ha).imp id fun ⟨k, hk, z⟩ => ⟨k, hk, sub k a z⟩
/-- arguments as operands, lent at the end -/
theorem aL {es : List Expr} {mos : M (List Opd)} (h : PA X es (ROL (Cx.gd X W xr) c mos)) : PA X es (RAL (Cx.gd X W xr) c (bnd mos lendL)) := by
  refine PA.weak h fun σ H Q ⟨Av, ρ, φ, e, h⟩ => ⟨Av, ρ, φ, e, ?_⟩
  cases q : mos c ρ with
  | bad => simp only [bnd, q] at h
  | exc x ρ' => simp only [bnd, q] at h; exact h
  | ok os ρ1 =>
    simp only [bnd, q] at h
    intro vs H1 Av1 φ1 F e1 r1 ap1 nd1 st1 og1
    cases q2 : lendL os c ρ1 with
    | bad => simp only [q2] at h
    | exc x ρ' => exact absurd q2 lendL_noexc
    | ok ps ρ2 =>
      simp only [q2] at h
      obtain ⟨Av2, φ2, ψ, e2, ar, a2, st, og⟩ := lend_ok e1 r1 nd1 ap1 q2
      refine h vs H1 Av2 φ2 ψ e2 ar a2 (st1.trans st e.ok) fun j a ha => ?_
      rcases og j a ha with z | ⟨i, hi, z⟩
      · exact og1 a z
      · have : OrgG c.lock H1 φ1 [a] := fun b hb => by rw [show b = a by simpa using hb]; exact .inl ⟨i, hi, z⟩
        exact this.step st1 a (by simp)
end
end Y

end
section
set_option Elab.async false
set_option linter.all false
set_option maxRecDepth 100000
set_option autoImplicit false
/-! Y11: for, while, list comprehensions. -/
namespace Y
open PySem L2

/-- what a statement's end wants, by its meaning -/
def Post (g : Gd) (c : Ctx) (Av : Addr → Prop) (H : Hp) (φ : Nat → List Addr) (σ : St) (Dn : Ends) : Rs Fl → Prop
  | .ok .nx ρ' => ∀ σ' H' Av' φ', EnvR g.K Av' H' σ' ρ' φ' → Step c.lock Av Av' H H' φ φ' → (∀ i, i ∈ c.prot ∨ i ∈ c.lock → σ'[i]? = σ[i]?) → Dn.nx σ' H'
  | .ok .brk ρ' => ∀ σ' H' Av' φ', EnvR g.K Av' H' σ' ρ' φ' → Step c.lock Av Av' H H' φ φ' → (∀ i, i ∈ c.prot ∨ i ∈ c.lock → σ'[i]? = σ[i]?) → Dn.bk σ' H'
  | .ok .cont ρ' => ∀ σ' H' Av' φ', EnvR g.K Av' H' σ' ρ' φ' → Step c.lock Av Av' H H' φ φ' → (∀ i, i ∈ c.prot ∨ i ∈ c.lock → σ'[i]? = σ[i]?) → Dn.ct σ' H'
  | .ok (.ret d) ρ' => ∀ v σ' H' Av' φ' G, EnvR g.K Av' H' σ' ρ' φ' → Rep g.K Av' H' G v d → Apart G φ' → Step c.lock Av Av' H H' φ φ' → OrgG c.lock H φ G →
      (∀ i, i ∈ c.prot ∨ i ∈ c.lock → σ'[i]? = σ[i]?) → Dn.rt v H'
  | .exc e ρ' => RX g c Av H φ σ e ρ'
  | .bad => False

section
variable {X : Cx} {W : WX} {xr : (Addr → Prop) → Hp → D → Value → Option Addr → Prop} {c : Ctx} {pos : Pos} {g : Gd}
variable {K : PySem.W.Frag} {Av Av0 Av1 Av2 Av' : Addr → Prop} {H H0 H1 H2 H' : Hp} {φ φ0 φ1 φ2 φ' : Nat → List Addr} {lock lock' : List Nat} {σ σ1 σ' : St} {ρ ρ' : Env} {F F' G : List Addr} {v : V} {d : D} {vs vs' : List V} {ds ds' : List D} {Dn : Ends}

theorem rs_post {m : M Fl} : RS g c m Dn σ H ↔ ∃ Av ρ φ, EnvR g.K Av H σ ρ φ ∧ Post g c Av H φ σ Dn (m c ρ) := by
  constructor
  · rintro ⟨Av, ρ, φ, e, h⟩
    refine ⟨Av, ρ, φ, e, ?_⟩
    cases q : m c ρ with
    | bad => rw [q] at h; exact h
    | exc x ρ' => rw [q] at h; exact h
    | ok f ρ' => rw [q] at h; cases f <;> exact h
  · rintro ⟨Av, ρ, φ, e, h⟩
    refine ⟨Av, ρ, φ, e, ?_⟩
    cases q : m c ρ with
    | bad => rw [q] at h; exact h
    | exc x ρ' => rw [q] at h; exact h
    | ok f ρ' => rw [q] at h; cases f <;> exact h
theorem OrgG.mono (h : OrgG lock' H φ G) (hs : ∀ i ∈ lock, i ∈ lock') : OrgG lock H φ G := fun a ha => (h a ha).imp (fun ⟨j, hj, z⟩ => ⟨j, fun y => hj (hs j y), z⟩) id
/-- from a later state, under more locks, to other ends that agree -/
theorem Post.to {c' : Ctx} {Dn' : Ends} {r : Rs Fl} (st : Step c.lock Av Av1 H H1 φ φ1) (ok : AvOk Av H) (hp : ∀ i, i ∈ c.prot ∨ i ∈ c.lock → σ1[i]? = σ[i]?) (hl : ∀ i ∈ c.lock, i ∈ c'.lock) (hpr : ∀ i ∈ c.prot, i ∈ c'.prot ∨ i ∈ c'.lock)
    (h1 : Dn'.nx = Dn.nx) (h2 : Dn'.bk = Dn.bk) (h3 : Dn'.ct = Dn.ct) (h4 : Dn'.rt = Dn.rt) (h : Post g c Av H φ σ Dn r) : Post g c' Av1 H1 φ1 σ1 Dn' r := by
  have hq : ∀ {σ' : St}, (∀ i, i ∈ c'.prot ∨ i ∈ c'.lock → σ'[i]? = σ1[i]?) → ∀ i, i ∈ c.prot ∨ i ∈ c.lock → σ'[i]? = σ[i]? := fun h i hi => (h i (hi.elim (hpr i) fun z => .inr (hl i z))).trans (hp i hi)
  cases r with
  | bad => exact h
  | exc x ρ' => exact fun cls y σ' H' Av' φ' e' xr' st' hp' => h cls y σ' H' Av' φ' e' xr' (st.trans (st'.mono hl) ok) (hq hp')
  | ok f ρ' =>
    cases f with
    | nx =>
      show ∀ σ' H' Av' φ', _ → _ → _ → Dn'.nx σ' H'
      rw [h1]
      exact fun σ' H' Av' φ' e' st' hp' => h σ' H' Av' φ' e' (st.trans (st'.mono hl) ok) (hq hp')
    | brk =>
      show ∀ σ' H' Av' φ', _ → _ → _ → Dn'.bk σ' H'
      rw [h2]
      exact fun σ' H' Av' φ' e' st' hp' => h σ' H' Av' φ' e' (st.trans (st'.mono hl) ok) (hq hp')
    | cont =>
      show ∀ σ' H' Av' φ', _ → _ → _ → Dn'.ct σ' H'
      rw [h3]
      exact fun σ' H' Av' φ' e' st' hp' => h σ' H' Av' φ' e' (st.trans (st'.mono hl) ok) (hq hp')
    | ret d =>
      show ∀ v σ' H' Av' φ' G, _ → _ → _ → _ → _ → _ → Dn'.rt v H'
      rw [h4]
      exact fun v σ' H' Av' φ' G e' r ap st' og hp' => h v σ' H' Av' φ' G e' r ap (st.trans (st'.mono hl) ok) ((og.mono hl).step st) (hq hp')

/-! ### for -/
def forL (t : D → M Unit) (b : M Fl) : List D → M Fl
  | [] => pur .nx
  | d :: ds => fun c ρ => match t d c ρ with
    | .ok _ ρ1 => match b c ρ1 with
      | .ok .nx ρ2 => forL t b ds c ρ2
      | .ok .cont ρ2 => forL t b ds c ρ2
      | .ok .brk ρ2 => .ok .nx ρ2
      | .ok (.ret d) ρ2 => .ok (.ret d) ρ2
      | .exc e ρ2 => .exc e ρ2
      | .bad => .bad
    | _ => .bad
def sFor (mi : M Sr) (t : D → M Unit) (b : M Fl) : M Fl := bnd mi fun p => fun c ρ => forL t b p.1 ⟨c.prot, p.2 ++ c.lock⟩ ρ
/-- the walked thing still stands -/
theorem Src.still {J : It} {own : List Addr} {ok : (Addr → Prop) → Hp → Prop} {ls : List Nat} (src : Src K J ds own ok) (hok : ok Av H) (e : EnvR K Av H σ ρ φ) (ho : ∀ a ∈ own, a ∈ G ∨ ∃ i ∈ ls, a ∈ φ i) (ap : Apart G φ) (st : Step lock Av Av' H H' φ φ') (hl : ∀ i ∈ ls, i ∈ lock) : ok Av' H' := by
  refine src.keep Av Av' H H' (fun a => ∃ i, i ∉ lock ∧ a ∈ φ i) e.ok (fun a ⟨i, _, z⟩ => e.own z) (fun a o h n => st.keep a o h fun i hi z => n ⟨i, hi, z⟩) st.av (fun a ha ⟨i, hi, z⟩ => ?_) hok
  rcases ho a ha with y | ⟨j, hj, y⟩
  · exact ap a y i z
  · exact hi (e.dis j i a y z ▸ hl j hj)
theorem for_fin {mi : M Sr} {t : D → M Unit} {b : M Fl} (h : RS g c (sFor mi t b) Dn σ H) :
    tFor (RI g c mi) (fun v σ H Q => ∃ c, RG g c t v σ H Q) (fun D σ H => ∃ c, RS g c b D σ H) Dn σ H := by
  obtain ⟨Av, ρ, φ, e, h⟩ := rs_post.mp h
  refine ⟨Av, ρ, φ, e, ?_⟩
  unfold sFor at h
  cases q : mi c ρ with
  | bad => simp only [bnd, q] at h; exact h
  | exc x ρ' => simp only [bnd, q] at h; exact h
  | ok p ρ1 =>
    simp only [bnd, q] at h
    intro J H1 Av1 φ1 G own ok e1 src hok ho hG ap1 st1 og1
    obtain ⟨c2, hc2⟩ : ∃ c2 : Ctx, c2 = ⟨c.prot, p.2 ++ c.lock⟩ := ⟨_, rfl⟩
    rw [← hc2] at h
    have hll : ∀ i ∈ c.lock, i ∈ c2.lock := fun i hi => by rw [hc2]; exact List.mem_append_right _ hi
    have hls : ∀ i ∈ p.2, i ∈ c2.lock := fun i hi => by rw [hc2]; exact List.mem_append_left _ hi
    have h := h.to (c' := c2) (Dn' := Dn) st1 e.ok (fun _ _ => rfl) hll (fun i hi => .inl (by rw [hc2]; exact hi)) rfl rfl rfl rfl
    let W' : Nat → St → Hp → Prop := fun i σ' H' => i ≤ p.1.length ∧ ∃ Av' ρ' φ', EnvR g.K Av' H' σ' ρ' φ' ∧ Step c2.lock Av1 Av' H1 H' φ1 φ' ∧ (∀ i, i ∈ c2.prot ∨ i ∈ c2.lock → σ'[i]? = σ[i]?) ∧ Post g c2 Av1 H1 φ1 σ Dn (forL t b (p.1.drop i) c2 ρ')
    refine ⟨fun i m σ' H' => m = p.1.length - i ∧ W' i σ' H', ⟨_, rfl, Nat.zero_le _, Av1, ρ1, φ1, e1, Step.refl, fun _ _ => rfl, h⟩, ?_⟩
    rintro i m σ2 H2 ⟨rfl, hi, Av2, ρ2, φ2, e2, st2, hp2, h2⟩
    have hok2 := src.still hok e1 ho ap1 st2 hls
    by_cases hlt : i < p.1.length
    · have hd := List.getElem?_eq_getElem hlt
      obtain ⟨d, hd'⟩ : ∃ d, p.1[i]? = some d := ⟨_, hd⟩
      have hdrop : p.1.drop i = d :: p.1.drop (i + 1) := by
        rw [hd] at hd'
        cases hd'
        exact List.drop_eq_getElem_cons hlt
      obtain ⟨go, yl⟩ := src.go Av2 H2 i d hok2 e2.ok hd'
      refine .inr ⟨go, W' (i + 1), fun σ' H' w => ⟨p.1.length - (i + 1), by omega, rfl, w⟩, fun x H3 hy => ?_⟩
      obtain ⟨gr, rx⟩ := yl x H3 hy
      rw [hdrop] at h2
      refine ⟨c2, Av1, H1, φ1, Av2, ρ2, φ2, d, [], e1.ok, st2.trans gr.step e1.ok, OrgG.nil, e2.grow gr, rx, Apart.nil, ?_⟩
      cases q2 : t d c2 ρ2 with
      | bad => simp only [forL, q2] at h2; exact h2
      | exc x ρ' => simp only [forL, q2] at h2; exact h2
      | ok u ρ3 =>
        intro σ4 H4 Av4 φ4 e4 st4 _ hp4
        refine ⟨c2, rs_post.mpr ⟨Av4, ρ3, φ4, e4, ?_⟩⟩
        have hp4' : ∀ i, i ∈ c2.prot ∨ i ∈ c2.lock → σ4[i]? = σ[i]? := fun i hi => (hp4 i hi).trans (hp2 i hi)
        cases q3 : b c2 ρ3 with
        | bad => simp only [forL, q2, q3] at h2; exact h2
        | exc x ρ' =>
          simp only [forL, q2, q3] at h2
          exact fun cls y σ' H' Av' φ' e' xr' st' hp' => h2 cls y σ' H' Av' φ' e' xr' (st4.trans st' e1.ok) fun i hi => (hp' i hi).trans (hp4' i hi)
        | ok f ρ5 =>
          cases f with
          | nx =>
            simp only [forL, q2, q3] at h2
            exact fun σ' H' Av' φ' e' st' hp' => ⟨hlt, Av', ρ5, φ', e', st4.trans st' e1.ok, fun i hi => (hp' i hi).trans (hp4' i hi), h2⟩
          | cont =>
            simp only [forL, q2, q3] at h2
            exact fun σ' H' Av' φ' e' st' hp' => ⟨hlt, Av', ρ5, φ', e', st4.trans st' e1.ok, fun i hi => (hp' i hi).trans (hp4' i hi), h2⟩
          | brk =>
            simp only [forL, q2, q3] at h2
            exact fun σ' H' Av' φ' e' st' hp' => h2 σ' H' Av' φ' e' (st4.trans st' e1.ok) fun i hi => (hp' i hi).trans (hp4' i hi)
          | ret d =>
            simp only [forL, q2, q3] at h2
            exact fun v σ' H' Av' φ' G e' r ap st' og hp' => h2 v σ' H' Av' φ' G e' r ap (st4.trans st' e1.ok) (og.step st4) fun i hi => (hp' i hi).trans (hp4' i hi)
    · have hi' : i = p.1.length := by omega
      subst hi'
      rw [List.drop_length] at h2
      exact .inl ⟨src.stop Av2 H2 hok2, h2 σ2 H2 Av2 φ2 e2 st2 hp2⟩
theorem PSs.exC {ι : Type} {ss : List Stmt} {t : ι → TS} (h : ∀ i, PSs X ss (t i)) : PSs X ss (fun D σ H => ∃ i, t i D σ H) := ⟨fun pins s σ H Q I ⟨i, q⟩ => (h i).run pins s σ H Q I q⟩
theorem PG.exC {ι : Type} {e : Expr} {t : ι → TG} (h : ∀ i, PG X e (t i)) : PG X e (fun v σ H Q => ∃ i, t i v σ H Q) := ⟨fun pins s σ H v u Q I r ⟨i, q⟩ => (h i).run pins s σ H v u Q I r q⟩
theorem PE.exC {ι : Type} {e : Expr} {t : ι → TE} (h : ∀ i, PE X e (t i)) : PE X e (fun σ H Q => ∃ i, t i σ H Q) := ⟨fun pins s σ H Q I ⟨i, q⟩ => (h i).run pins s σ H Q I q⟩
theorem PTs.exC {ι : Type} {e : List Expr} {t : ι → TT} (h : ∀ i, PTs X e (t i)) : PTs X e (fun σ H Q => ∃ i, t i σ H Q) := ⟨fun pins s σ H Q I ⟨i, q⟩ => (h i).run pins s σ H Q I q⟩
theorem st_for {tg iter : Expr} {body : List Stmt} {mi : M Sr} {t : D → M Unit} {b : M Fl} (hi : PI X tg iter (RI (Cx.gd X W xr) c mi)) (hg : ∀ c, PG X tg (RG (Cx.gd X W xr) c t)) (hb : ∀ c, PSs X body (RS (Cx.gd X W xr) c b))
    (hp : PassesOwn (model X.prog X.w) X.A X.env X.xe) (hc : X.calm = true) (hs : ∀ x, foldedSetIterable iter X.env x = pure x := by intro _; rfl) : PS X (.For tg iter body [] pos) (RS (Cx.gd X W xr) c (sFor mi t b)) :=
  PS.weak (ps_for hp hc hi (PG.exC hg) (PSs.exC hb) hs) fun _ _ _ h => for_fin h

/-! ### while -/
def whileL (t : M Bool) (b : M Fl) : Nat → M Fl
  | 0 => bad
  | n + 1 => fun c ρ => match t c ρ with
    | .ok true ρ1 => match b c ρ1 with
      | .ok .nx ρ2 => whileL t b n c ρ2
      | .ok .cont ρ2 => whileL t b n c ρ2
      | .ok .brk ρ2 => .ok .nx ρ2
      | .ok (.ret d) ρ2 => .ok (.ret d) ρ2
      | .exc e ρ2 => .exc e ρ2
      | .bad => .bad
    | .ok false ρ1 => .ok .nx ρ1
    | .exc e ρ1 => .exc e ρ1
    | .bad => .bad
open Classical in
noncomputable def sWhile (t : M Bool) (b : M Fl) : M Fl := fun c ρ => if h : ∃ n, whileL t b n c ρ ≠ .bad then whileL t b (choose h) c ρ else .bad
theorem whileL_up {t : M Bool} {b : M Fl} : ∀ {n : Nat} {ρ : Env} {r : Rs Fl}, whileL t b n c ρ = r → r ≠ .bad → whileL t b (n + 1) c ρ = r
  | 0, ρ, r, h, hr => absurd h.symm hr
  | n + 1, ρ, r, h, hr => by
    rw [whileL] at h ⊢
    dsimp only at h ⊢
    cases q : t c ρ with
    | bad => rw [q] at h; exact h
    | exc x ρ' => rw [q] at h; exact h
    | ok f ρ1 =>
      rw [q] at h
      cases f with
      | false => exact h
      | true =>
        dsimp only at h ⊢
        cases q2 : b c ρ1 with
        | bad => rw [q2] at h; exact h
        | exc x ρ' => rw [q2] at h; exact h
        | ok f ρ2 =>
          rw [q2] at h
          cases f with
          | nx => exact whileL_up h hr
          | cont => exact whileL_up h hr
          | brk => exact h
          | ret d => exact h
theorem whileL_le {t : M Bool} {b : M Fl} {n m : Nat} {r : Rs Fl} (h : whileL t b n c ρ = r) (hr : r ≠ .bad) (hm : n ≤ m) : whileL t b m c ρ = r := by
  induction hm with
  | refl => exact h
  | step _ ih => exact whileL_up ih hr
theorem sWhile_of {t : M Bool} {b : M Fl} {n : Nat} {r : Rs Fl} (h : whileL t b n c ρ = r) (hr : r ≠ .bad) : sWhile t b c ρ = r := by
  have hx : ∃ n, whileL t b n c ρ ≠ .bad := ⟨n, by rw [h]; exact hr⟩
  unfold sWhile
  rw [dif_pos hx]
  have h2 := Classical.choose_spec hx
  generalize Classical.choose hx = m at h2
  rcases Nat.le_total n m with z | z
  · exact whileL_le h hr z
  · rw [← h]; exact (whileL_le rfl h2 z).symm
theorem sWhile_ex {t : M Bool} {b : M Fl} (h : sWhile t b c ρ ≠ .bad) : ∃ n, whileL t b n c ρ = sWhile t b c ρ := by
  unfold sWhile at h ⊢
  by_cases hx : ∃ n, whileL t b n c ρ ≠ .bad
  · rw [dif_pos hx]; exact ⟨_, rfl⟩
  · rw [dif_neg hx] at h; exact absurd rfl h
/-- a while, told by one turn -/
theorem sWhile_eq {t : M Bool} {b : M Fl} : sWhile t b c ρ = match t c ρ with
    | .ok true ρ1 => match b c ρ1 with
      | .ok .nx ρ2 => sWhile t b c ρ2
      | .ok .cont ρ2 => sWhile t b c ρ2
      | .ok .brk ρ2 => .ok .nx ρ2
      | .ok (.ret d) ρ2 => .ok (.ret d) ρ2
      | .exc e ρ2 => .exc e ρ2
      | .bad => .bad
    | .ok false ρ1 => .ok .nx ρ1
    | .exc e ρ1 => .exc e ρ1
    | .bad => .bad := by
  have one : ∀ n, whileL t b (n + 1) c ρ = match t c ρ with
    | .ok true ρ1 => match b c ρ1 with
      | .ok .nx ρ2 => whileL t b n c ρ2
      | .ok .cont ρ2 => whileL t b n c ρ2
      | .ok .brk ρ2 => .ok .nx ρ2
      | .ok (.ret d) ρ2 => .ok (.ret d) ρ2
      | .exc e ρ2 => .exc e ρ2
      | .bad => .bad
    | .ok false ρ1 => .ok .nx ρ1
    | .exc e ρ1 => .exc e ρ1
    | .bad => .bad := fun n => rfl
  have nb : (∀ n, whileL t b (n + 1) c ρ = .bad) → sWhile t b c ρ = .bad := fun h => by
    by_cases z : sWhile t b c ρ = .bad
    · exact z
    · obtain ⟨n, hn⟩ := sWhile_ex z
      cases n with
      | zero => exact hn.symm
      | succ n => rw [← hn]; exact h n
  cases q : t c ρ with
  | bad => exact nb fun n => by rw [one, q]
  | exc x ρ' => exact sWhile_of (n := 1) (by rw [one, q]) (fun z => nomatch z)
  | ok f ρ1 =>
    cases f with
    | false => exact sWhile_of (n := 1) (by rw [one, q]) (fun z => nomatch z)
    | true =>
      dsimp only
      have rcs : ∀ ρ2, (∀ n, whileL t b (n + 1) c ρ = whileL t b n c ρ2) → sWhile t b c ρ = sWhile t b c ρ2 := fun ρ2 h => by
        by_cases z : sWhile t b c ρ2 = .bad
        · rw [z]
          refine nb fun n => ?_
          rw [h]
          by_cases y : whileL t b n c ρ2 = .bad
          · exact y
          · rw [sWhile_of rfl y] at z; exact z
        · obtain ⟨n, hn⟩ := sWhile_ex z
          exact sWhile_of (n := n + 1) (by rw [h, hn]) z
      cases q2 : b c ρ1 with
      | bad => exact nb fun n => by rw [one, q]; dsimp only; rw [q2]
      | exc x ρ' => exact sWhile_of (n := 1) (by rw [one, q]; dsimp only; rw [q2]) (fun z => nomatch z)
      | ok f ρ2 =>
        cases f with
        | nx => exact rcs ρ2 fun n => by rw [one, q]; dsimp only; rw [q2]
        | cont => exact rcs ρ2 fun n => by rw [one, q]; dsimp only; rw [q2]
        | brk => exact sWhile_of (n := 1) (by rw [one, q]; dsimp only; rw [q2]) (fun z => nomatch z)
        | ret d => exact sWhile_of (n := 1) (by rw [one, q]; dsimp only; rw [q2]) (fun z => nomatch z)
theorem while_fin {t : M Bool} {b : M Fl} (h : RS g c (sWhile t b) Dn σ H) : tWhile (RT g c t) (RS g c b) Dn σ H := by
  obtain ⟨Av, ρ, φ, e, h⟩ := rs_post.mp h
  have hb : sWhile t b c ρ ≠ .bad := fun z => by rw [z] at h; exact h
  obtain ⟨n, hn⟩ := sWhile_ex hb
  rw [← hn] at h
  let W' : Nat → St → Hp → Prop := fun m σ' H' => ∃ Av' ρ' φ', EnvR g.K Av' H' σ' ρ' φ' ∧ Step c.lock Av Av' H H' φ φ' ∧ (∀ i, i ∈ c.prot ∨ i ∈ c.lock → σ'[i]? = σ[i]?) ∧ Post g c Av H φ σ Dn (whileL t b m c ρ')
  refine ⟨W', ⟨n, Av, ρ, φ, e, Step.refl, fun _ _ => rfl, h⟩, ?_⟩
  rintro m σ1 H1 ⟨Av1, ρ1, φ1, e1, st1, hp1, h1⟩
  cases m with
  | zero => exact h1.elim
  | succ m =>
    rw [whileL] at h1
    dsimp only at h1
    refine ⟨Av1, ρ1, φ1, e1, ?_⟩
    cases q : t c ρ1 with
    | bad => rw [q] at h1; exact h1
    | exc x ρ' =>
      rw [q] at h1
      exact fun cls y σ' H' Av' φ' e' xr' st' hp' => h1 cls y σ' H' Av' φ' e' xr' (st1.trans st' e.ok) fun i hi => (hp' i hi).trans (hp1 i hi)
    | ok f ρ2 =>
      rw [q] at h1
      intro H2 Av2 φ2 e2 st2
      have st12 := st1.trans st2 e.ok
      cases f with
      | false =>
        rw [if_neg Bool.false_ne_true]
        exact h1 σ1 H2 Av2 φ2 e2 st12 hp1
      | true =>
        rw [if_pos rfl]
        dsimp only at h1
        refine ⟨W' m, fun σ' H' w => ⟨m, Nat.lt_succ_self m, w⟩, rs_post.mpr ⟨Av2, ρ2, φ2, e2, ?_⟩⟩
        cases q3 : b c ρ2 with
        | bad => rw [q3] at h1; exact h1
        | exc x ρ' =>
          rw [q3] at h1
          exact fun cls y σ' H' Av' φ' e' xr' st' hp' => h1 cls y σ' H' Av' φ' e' xr' (st12.trans st' e.ok) fun i hi => (hp' i hi).trans (hp1 i hi)
        | ok f ρ5 =>
          rw [q3] at h1
          cases f with
          | nx => exact fun σ' H' Av' φ' e' st' hp' => ⟨Av', ρ5, φ', e', st12.trans st' e.ok, fun i hi => (hp' i hi).trans (hp1 i hi), h1⟩
          | cont => exact fun σ' H' Av' φ' e' st' hp' => ⟨Av', ρ5, φ', e', st12.trans st' e.ok, fun i hi => (hp' i hi).trans (hp1 i hi), h1⟩
          | brk => exact fun σ' H' Av' φ' e' st' hp' => h1 σ' H' Av' φ' e' (st12.trans st' e.ok) fun i hi => (hp' i hi).trans (hp1 i hi)
          | ret d => exact fun v σ' H' Av' φ' G e' r ap st' og hp' => h1 v σ' H' Av' φ' G e' r ap (st12.trans st' e.ok) (og.step st12) fun i hi => (hp' i hi).trans (hp1 i hi)
theorem st_while {ex : Expr} {body : List Stmt} {t : M Bool} {b : M Fl} (ht : PT X ex (RT (Cx.gd X W xr) c t)) (hb : PSs X body (RS (Cx.gd X W xr) c b)) (hp : PassesOwn (model X.prog X.w) X.A X.env X.xe) :
    PS X (.While ex body [] pos) (RS (Cx.gd X W xr) c (sWhile t b)) := PS.weak (ps_while hp ht hb) fun _ _ _ h => while_fin h
end
end Y

end
section
set_option Elab.async false
set_option linter.all false
set_option maxRecDepth 100000
set_option autoImplicit false
/-! Y12: list comprehensions. -/
namespace Y
open PySem L2

/-- slots forgotten -/
def wipeA {α : Type} (l : List (Option α)) : List Nat → List (Option α)
  | [] => l
  | v :: vs => (wipeA l vs).set v none
theorem wipe_A (σ : St) : ∀ vs, wipe σ vs = wipeA σ vs
  | [] => rfl
  | v :: vs => by show (wipe σ vs).set v none = _; rw [wipe_A σ vs]; rfl
theorem wipeA_len {α : Type} (l : List (Option α)) : ∀ vs, (wipeA l vs).length = l.length
  | [] => rfl
  | v :: vs => by show ((wipeA l vs).set v none).length = _; rw [List.length_set, wipeA_len l vs]
theorem wipeA_ne {α : Type} {l : List (Option α)} {i : Nat} : ∀ {vs}, i ∉ vs → (wipeA l vs)[i]? = l[i]?
  | [], _ => rfl
  | v :: vs, h => by
    show ((wipeA l vs).set v none)[i]? = _
    rw [List.getElem?_set_ne (fun z => h (by rw [z]; exact List.mem_cons_self)), wipeA_ne fun z => h (List.mem_cons_of_mem _ z)]
theorem wipeA_in {α : Type} {l : List (Option α)} {i : Nat} : ∀ {vs}, i ∈ vs → (wipeA l vs)[i]? = if i < l.length then some none else none
  | v :: vs, h => by
    show ((wipeA l vs).set v none)[i]? = _
    by_cases z : v = i
    · subst z
      by_cases y : v < l.length
      · rw [List.getElem?_set_self (by rw [wipeA_len]; exact y), if_pos y]
      · rw [List.getElem?_eq_none (by rw [List.length_set, wipeA_len]; omega), if_neg y]
    · rw [List.getElem?_set_ne z]
      exact wipeA_in ((List.mem_cons.mp h).resolve_left fun y => z y.symm)
theorem wipeA_some {α : Type} {l : List (Option α)} {i : Nat} {vs : List Nat} {x : α} (h : (wipeA l vs)[i]? = some (some x)) : i ∉ vs ∧ l[i]? = some (some x) := by
  by_cases z : i ∈ vs
  · rw [wipeA_in z] at h
    split at h <;> cases h
  · rw [wipeA_ne z] at h; exact ⟨z, h⟩
theorem wipeA_eq {α : Type} {l l' : List (Option α)} {vs : List Nat} (hl : l.length = l'.length) (h : ∀ i, i ∉ vs → l[i]? = l'[i]?) : wipeA l vs = wipeA l' vs := by
  refine List.ext_getElem? fun i => ?_
  by_cases z : i ∈ vs
  · rw [wipeA_in z, wipeA_in z, hl]
  · rw [wipeA_ne z, wipeA_ne z]; exact h i z
/-- slots as they were -/
def rest (ρ ρ0 : Env) : List Nat → Env
  | [] => ρ
  | v :: vs => (rest ρ ρ0 vs).set v (match ρ0[v]? with | some o => o | none => none)
theorem rest_len (ρ ρ0 : Env) : ∀ vs, (rest ρ ρ0 vs).length = ρ.length
  | [] => rfl
  | v :: vs => by show ((rest ρ ρ0 vs).set v _).length = _; rw [List.length_set, rest_len ρ ρ0 vs]
theorem rest_ne {ρ ρ0 : Env} {i : Nat} : ∀ {vs}, i ∉ vs → (rest ρ ρ0 vs)[i]? = ρ[i]?
  | [], _ => rfl
  | v :: vs, h => by
    show ((rest ρ ρ0 vs).set v _)[i]? = _
    rw [List.getElem?_set_ne (fun z => h (by rw [z]; exact List.mem_cons_self)), rest_ne fun z => h (List.mem_cons_of_mem _ z)]
theorem rest_in {ρ ρ0 : Env} {i : Nat} {d : D} : ∀ {vs}, i ∈ vs → (rest ρ ρ0 vs)[i]? = some (some d) → ρ0[i]? = some (some d)
  | v :: vs, h, e => by
    have e : ((rest ρ ρ0 vs).set v (match ρ0[v]? with | some o => o | none => none))[i]? = some (some d) := e
    by_cases z : v = i
    · subst z
      by_cases y : v < (rest ρ ρ0 vs).length
      · rw [List.getElem?_set_self y] at e
        cases q : ρ0[v]? with
        | none => rw [q] at e; cases e
        | some o => rw [q] at e; exact e
      · rw [List.getElem?_eq_none (by rw [List.length_set]; omega)] at e; cases e
    · rw [List.getElem?_set_ne z] at e
      exact rest_in ((List.mem_cons.mp h).resolve_left fun y => z y.symm) e

/-- targets keep the number of slots -/
def LenT (t : D → M Unit) : Prop := ∀ d c ρ u ρ', t d c ρ = .ok u ρ' → ρ'.length = ρ.length
def LenTs (t : List D → M Unit) : Prop := ∀ d c ρ u ρ', t d c ρ = .ok u ρ' → ρ'.length = ρ.length
theorem len_set {i : Nat} : LenT (setS i) := fun d c ρ u ρ' h => by
  unfold setS at h
  split at h
  · cases h; rw [List.length_set]
  · cases h
theorem len_nil : LenTs tgNil := fun ds c ρ u ρ' h => by
  cases ds with
  | nil => cases h; rfl
  | cons _ _ => cases h
theorem len_cons {m : D → M Unit} {ms : List D → M Unit} (h1 : LenT m) (h2 : LenTs ms) : LenTs (tgCons m ms) := fun ds c ρ u ρ' h => by
  cases ds with
  | nil => cases h
  | cons d ds =>
    obtain ⟨_, ρ1, q, h⟩ := bnd_ok (m := m d) h
    rw [h2 _ _ _ _ _ h, h1 _ _ _ _ _ q]
theorem len_tup {n : Nat} {ms : List D → M Unit} (h : LenTs ms) : LenT (tgTup n ms) := fun d c ρ u ρ' e => by
  unfold tgTup at e
  split at e
  · split at e
    · exact h _ _ _ _ _ e
    · cases e
  · cases e

def compL (vs : List Nat) (t : D → M Unit) (tt : M Bool) (te : M D) : List D → M (List D)
  | [] => pur []
  | d :: ds => fun c ρ => match t d c (wipeA ρ vs) with
    | .ok _ ρ1 => match tt c ρ1 with
      | .ok true ρ2 => match te c ρ2 with
        | .ok y ρ3 => match compL vs t tt te ds c ρ3 with
          | .ok ys ρ4 => .ok (y :: ys) ρ4
          | _ => .bad
        | _ => .bad
      | .ok false ρ2 => compL vs t tt te ds c ρ2
      | _ => .bad
    | _ => .bad
def cold (vs : List Nat) (ρ : Env) : Bool := vs.all fun v => match ρ[v]? with | some (some d) => !isOwn d | _ => true
def protC (n : Nat) (vs : List Nat) : List Nat := (List.range n).filter fun i => !vs.contains i
def mComp (mi : M Sr) (vs : List Nat) (t : D → M Unit) (tt : M Bool) (te : M D) : M D := bnd mi fun p => fun c ρ =>
  if cold vs ρ = true then match compL vs t tt te p.1 ⟨protC ρ.length vs, p.2 ++ c.lock⟩ ρ with
    | .ok ys ρ' => if ys.length ≤ LN then .ok (.lst true ys) (rest ρ' ρ vs) else .bad
    | _ => .bad
  else .bad
/-- no test -/
def tAll : M Bool := pur true

abbrev W0 : WX := fun _ _ _ _ => False

section
variable {X : Cx} {W : WX} {xr : (Addr → Prop) → Hp → D → Value → Option Addr → Prop} {c : Ctx} {pos : Pos} {g : Gd}
variable {K : PySem.W.Frag} {Av Av0 Av1 Av2 Av' : Addr → Prop} {H H0 H1 H2 H' : Hp} {φ φ0 φ1 φ2 φ' : Nat → List Addr} {lock lock' : List Nat} {σ σ1 σ' : St} {ρ ρ' : Env} {F F' G : List Addr} {v : V} {d : D} {vs vs' : List V} {ds ds' : List D} {Dn : Ends} {L : Addr} {acc : List V}

/-- a list under way, beside the slots -/
structure Held (K : PySem.W.Frag) (Av : Addr → Prop) (H : Hp) (φ : Nat → List Addr) (L : Addr) (acc : List V) (F : List Addr) (ds : List D) : Prop where
  at_ : H L = some (.lst acc)
  av : Av L
  rep : RepL K Av H F acc ds
  out : L ∉ F
  nd : F.Nodup
  ap : Apart (L :: F) φ
theorem Held.there (h : Held K Av H φ L acc F ds) (ok : AvOk Av H) : ∀ x ∈ L :: F, H x ≠ none := fun x hx => by
  rcases List.mem_cons.mp hx with z | z
  · subst z; rw [h.at_]; exact fun y => nomatch y
  · exact h.rep.there ok x z
theorem Held.step (h : Held K Av H φ L acc F ds) (e : EnvR K Av H σ ρ φ) (st : Step lock Av Av' H H' φ φ') : Held K Av' H' φ' L acc F ds where
  at_ := st.keep _ _ h.at_ fun i _ z => h.ap L List.mem_cons_self i z
  av := st.own _ h.av fun i z => h.ap L List.mem_cons_self i z
  rep := h.rep.step st e fun a ha i z => h.ap a (List.mem_cons_of_mem _ ha) i z
  out := h.out
  nd := h.nd
  ap := h.ap.step st (h.there e.ok)
/-- a calm store of what owns nothing is a step -/
theorem Calm.step (h : Calm Av Av' H H' φ φ' []) : Step [] Av Av' H H' φ φ' where
  keep := fun a o ha n => h.keep.keep a o ha fun z => z.elim (fun ⟨i, y⟩ => n i (by simp) y) fun y => nomatch y
  there := h.there
  av := h.keep.av
  own := fun a ha n => h.keep.own a ha fun z => z.elim (fun ⟨i, y⟩ => n i y) fun y => nomatch y
  org := fun i a ha => .inr ⟨by simp, by
    rcases h.org i a ha with (⟨j, y⟩ | y) | y
    · exact .inl ⟨j, by simp, y⟩
    · cases y
    · exact .inr y⟩
theorem Step.sub (st : Step lock Av Av' H H' φ φ') (h : ∀ i a, a ∈ φ2 i → a ∈ φ' i) : Step lock Av Av' H H' φ φ2 := ⟨st.keep, st.there, st.av, st.own, fun i a ha => st.org i a (h i a ha)⟩
/-- slots forgotten -/
theorem EnvR.wipe {ws : List Nat} (e : EnvR K Av H σ1 ρ φ) (hl : σ.length = σ1.length) (h : ∀ i, i ∉ ws → σ1[i]? = (wipeA σ ws)[i]?) : EnvR K Av H (wipeA σ ws) (wipeA ρ ws) (fun j => if j ∈ ws then [] else φ j) where
  len := by rw [wipeA_len, wipeA_len, hl]; exact e.len
  rep := fun i d hi => by
    obtain ⟨n, hi⟩ := wipeA_some hi
    obtain ⟨v, h1, h2⟩ := e.rep i d hi
    rw [h i n] at h1
    exact ⟨v, h1, by rw [if_neg n]; exact h2⟩
  emp := fun i hi => by
    by_cases z : i ∈ ws
    · exact if_pos z
    · refine (if_neg z).trans (e.emp i fun d y => hi d ?_)
      rw [wipeA_ne z]; exact y
  dis := fun i j a h1 h2 => by
    have m : ∀ j, a ∈ (if j ∈ ws then [] else φ j) → a ∈ φ j := fun j h => by
      by_cases q : j ∈ ws
      · rw [if_pos q] at h; cases h
      · rw [if_neg q] at h; exact h
    exact e.dis i j a (m i h1) (m j h2)
  ok := e.ok
theorem wipe_sub {ws : List Nat} {i : Nat} {a : Addr} (h : a ∈ (fun j => if j ∈ ws then [] else φ j) i) : a ∈ φ i := by
  dsimp only at h
  split at h
  · cases h
  · exact h
theorem protC_mem {n i : Nat} {ws : List Nat} (h1 : i < n) (h2 : i ∉ ws) : i ∈ protC n ws := by
  unfold protC
  rw [List.mem_filter]
  exact ⟨List.mem_range.mpr h1, by simpa using h2⟩
theorem cold_at {ws : List Nat} (h : cold ws ρ = true) {i : Nat} (hi : i ∈ ws) (hd : ρ[i]? = some (some d)) : isOwn d = false := by
  have := List.all_eq_true.mp h i hi
  rw [hd] at this
  simpa using this
theorem lc_fin {mi : M Sr} {ws : List Nat} {t : D → M Unit} {tt : M Bool} {te : M D} {Q : VK} (hlt : LenT t) (h : RE g c (mComp mi ws t tt te) σ H Q) :
    tLc (RI g c mi) (fun v σ H Q => ∃ c, RG ⟨g.K, W0, g.xr⟩ c t v σ H Q) (fun σ H Q => ∃ c, RT ⟨g.K, W0, g.xr⟩ c tt σ H Q) (fun σ H Q => ∃ c, RE ⟨g.K, W0, g.xr⟩ c te σ H Q) ws σ H Q := by
  obtain ⟨Av, ρ, φ, e, h⟩ := h
  refine ⟨Av, ρ, φ, e, ?_⟩
  unfold mComp at h
  cases q : mi c ρ with
  | bad => simp only [bnd, q] at h
  | exc x ρ' => simp only [bnd, q] at h; exact h
  | ok p ρ1 =>
    simp only [bnd, q] at h
    intro J H1 Av1 φ1 G own ok e1 src hok ho hG ap1 st1 og1 L hL
    by_cases hc : cold ws ρ1 = true
    case neg => rw [if_neg hc] at h; exact h.elim
    rw [if_pos hc] at h
    obtain ⟨c2, hc2⟩ : ∃ c2 : Ctx, c2 = ⟨protC ρ1.length ws, p.2 ++ c.lock⟩ := ⟨_, rfl⟩
    rw [← hc2] at h
    have hll : ∀ i ∈ c.lock, i ∈ c2.lock := fun i hi => by rw [hc2]; exact List.mem_append_right _ hi
    have hls : ∀ i ∈ p.2, i ∈ c2.lock := fun i hi => by rw [hc2]; exact List.mem_append_left _ hi
    cases q1 : compL ws t tt te p.1 c2 ρ1 with
    | bad => simp only [q1] at h
    | exc x ρ' => simp only [q1] at h
    | ok ys ρ9 =>
      simp only [q1] at h
      by_cases hy : ys.length ≤ LN
      case neg => rw [if_neg hy] at h; exact h.elim
      rw [if_pos hy] at h
      rw [wipe_A]
      let W' : Nat → Hp → Prop := fun i H' => i ≤ p.1.length ∧ ∃ Av' ρ' φ' acc da F yr, EnvR g.K Av' H' (wipeA σ ws) (wipeA ρ' ws) φ' ∧ ρ'.length = ρ1.length ∧ Step c2.lock Av1 Av' H1 H' φ1 φ' ∧ Held g.K Av' H' φ' L acc F da ∧ OrgG c2.lock H1 φ1 F ∧
        compL ws t tt te (p.1.drop i) c2 ρ' = .ok yr ρ9 ∧ ys = da ++ yr
      have gr0 := Grow.lst e1.ok hL []
      have e1' := (e1.grow gr0).wipe (ws := ws) (σ := σ) rfl fun i hi => (wipeA_ne hi).symm
      have st0 : Step c2.lock Av1 _ H1 _ φ1 _ := (gr0.step (φ := φ1) (lock := c2.lock)).sub (φ2 := fun j => if j ∈ ws then [] else φ1 j) fun i a ha => wipe_sub ha
      have held0 : Held g.K (fun a => Av1 a ∨ a = L) (upd H1 L (.lst [])) (fun j => if j ∈ ws then [] else φ1 j) L [] [] [] := ⟨upd_same, .inr rfl, .nil, by simp, .nil, fun a ha i z => by
        have ea : a = L := by simpa using ha
        subst ea
        exact e1.there (wipe_sub z) hL⟩
      refine ⟨fun i m H' => m = p.1.length - i ∧ W' i H', ⟨_, rfl, Nat.zero_le _, _, ρ1, _, [], [], [], ys, e1', rfl, st0, held0, OrgG.nil, q1, rfl⟩, ?_⟩
      rintro i m H2 ⟨rfl, hi, Av2, ρ2, φ2, acc, da, F, yr, e2, len2, st2, held2, og2, comp2, hys⟩
      have hok2 := src.still hok e1 ho ap1 st2 hls
      by_cases hlt2 : i < p.1.length
      · obtain ⟨d, hd'⟩ : ∃ d, p.1[i]? = some d := ⟨_, List.getElem?_eq_getElem hlt2⟩
        have hdrop : p.1.drop i = d :: p.1.drop (i + 1) := by
          rw [List.getElem?_eq_getElem hlt2] at hd'
          cases hd'
          exact List.drop_eq_getElem_cons hlt2
        obtain ⟨go, yl⟩ := src.go Av2 H2 i d hok2 e2.ok hd'
        refine .inr ⟨go, W' (i + 1), fun H' w => ⟨p.1.length - (i + 1), by omega, rfl, w⟩, fun x H3 hyl => ?_⟩
        obtain ⟨gr, rx⟩ := yl x H3 hyl
        rw [hdrop] at comp2
        refine ⟨c2, Av1, H1, φ1, Av2, wipeA ρ2 ws, φ2, d, [], e1.ok, st2.trans gr.step e1.ok, OrgG.nil, e2.grow gr, rx, Apart.nil, ?_⟩
        have held3 := held2.step e2 (gr.step (lock := []) (φ := φ2))
        have e3 := e2.grow gr
        cases q3 : t d c2 (wipeA ρ2 ws) with
        | bad => simp only [compL, q3] at comp2; cases comp2
        | exc x ρ' => simp only [compL, q3] at comp2; cases comp2
        | ok u ρ3 =>
          simp only [compL, q3] at comp2
          intro σ4 H4 Av4 φ4 e4 st4 calm4 hp4
          have held4 := held3.step e3 calm4.step
          have len3 : ρ3.length = ρ1.length := by rw [hlt _ _ _ _ _ q3, wipeA_len, len2]
          have lenσ : σ4.length = σ.length := by rw [e4.len, len3, ← e1.len]
          have hpσ : ∀ i, i ∉ ws → σ4[i]? = (wipeA σ ws)[i]? := fun i hi => by
            by_cases z : i < ρ1.length
            · exact hp4 i (.inl (by rw [hc2]; exact protC_mem z hi))
            · rw [List.getElem?_eq_none (by rw [e4.len, len3]; omega), List.getElem?_eq_none (by rw [wipeA_len, e1.len]; omega)]
          refine ⟨?_, c2, Av4, ρ3, φ4, e4, ?_⟩
          · rw [wipe_A]
            exact wipeA_eq lenσ fun i hi => by rw [hpσ i hi, wipeA_ne hi]
          cases q4 : tt c2 ρ3 with
          | bad => simp only [q4] at comp2; cases comp2
          | exc x ρ' => simp only [q4] at comp2; cases comp2
          | ok b ρ4 =>
            intro H5 Av5 φ5 e5 st5
            have held5 := held4.step e4 st5
            have st15 := st4.trans st5 e1.ok
            have len4 : ρ4.length = ρ1.length := by rw [← e5.len, e4.len, len3]
            cases b with
            | false =>
              simp only [q4] at comp2
              rw [if_neg Bool.false_ne_true]
              have e6 := e5.wipe (ws := ws) (σ := σ) lenσ.symm hpσ
              have st6 := st15.sub (φ2 := fun j => if j ∈ ws then [] else φ5 j) fun i a ha => wipe_sub ha
              exact ⟨hlt2, Av5, ρ4, _, acc, da, F, yr, e6, len4, st6, ⟨held5.at_, held5.av, held5.rep, held5.out, held5.nd, fun a ha i z => held5.ap a ha i (wipe_sub z)⟩, og2, comp2, hys⟩
            | true =>
              simp only [q4] at comp2
              rw [if_pos rfl]
              refine ⟨c2, Av5, ρ4, φ5, e5, ?_⟩
              cases q5 : te c2 ρ4 with
              | bad => simp only [q5] at comp2; cases comp2
              | exc x ρ' => simp only [q5] at comp2; cases comp2
              | ok y ρ5 =>
                simp only [q5] at comp2
                cases q6 : compL ws t tt te (p.1.drop (i + 1)) c2 ρ5 with
                | bad => simp only [q6] at comp2; cases comp2
                | exc x ρ' => simp only [q6] at comp2; cases comp2
                | ok yr' ρ6 =>
                  simp only [q6] at comp2
                  cases comp2
                  intro w H6 Av6 φ6 G6 e6 r6 ap6 st6 og6
                  have held6 := held5.step e5 st6
                  have st16 := st15.trans st6 e1.ok
                  have len5 : ρ5.length = ρ1.length := by rw [← e6.len, e5.len, len4]
                  have hal : acc.length < sizeLine := by
                    rw [held6.rep.length, ← ln_line]
                    rw [hys, List.length_append, List.length_cons] at hy
                    omega
                  refine ⟨acc, held6.at_, hal, ?_⟩
                  have e7 := e6.wipe (ws := ws) (σ := σ) lenσ.symm hpσ
                  have kp : Keep Av6 Av6 H6 (upd H6 L (.lst (acc ++ [w]))) (fun a => a = L) := ⟨fun a o h n => by rw [upd_ne n]; exact h, fun a h => .inl h, fun a h _ => h⟩
                  have hT : ∀ a, a = L → Av6 a := fun a h => h ▸ held6.av
                  have nG : ∀ a ∈ G6, a ∉ L :: F := fun a ha z => by
                    rcases og6 a ha with ⟨j, _, y⟩ | y
                    · exact held5.ap a z j y
                    · exact held5.there e5.ok a z y
                  have nL1 : H1 L = none := hL
                  refine ⟨hlt2, Av6, ρ5, fun j => if j ∈ ws then [] else φ6 j, acc ++ [w], da ++ [y], F ++ G6, yr', ⟨e7.len, fun i d hi => ?_, e7.emp, e7.dis, fun a ha => ?_⟩, len5, ⟨fun a o ha n => ?_, fun a ha => ?_, st16.av, st16.own, fun i a ha => st16.org i a (wipe_sub ha)⟩, ⟨upd_same, held6.av, ?_, ?_, ?_, ?_⟩, ?_, q6, ?_⟩
                  · obtain ⟨v, h1, h2⟩ := e7.rep i d hi
                    exact ⟨v, h1, h2.keep e6.ok hT kp fun a ha z => held6.ap L List.mem_cons_self i (wipe_sub (z ▸ ha))⟩
                  · obtain ⟨o, eo, m⟩ := e6.ok a ha
                    by_cases z : a = L
                    · subst z; exact ⟨_, upd_same, trivial⟩
                    · exact ⟨o, by rw [upd_ne z]; exact eo, m⟩
                  · rw [upd_ne fun z => by rw [z, nL1] at ha; cases ha]
                    exact st16.keep a o ha n
                  · by_cases z : a = L
                    · subst z; rw [upd_same]; exact fun q => nomatch q
                    · rw [upd_ne z]; exact st16.there a ha
                  · exact ((held6.rep.keep e6.ok hT kp fun a ha z => held6.out (z ▸ ha)).app (RepL.one (r6.keep e6.ok hT kp fun a ha z => nG a ha (z ▸ List.mem_cons_self))))
                  · exact fun z => (List.mem_append.mp z).elim held6.out fun y => nG L y List.mem_cons_self
                  · exact List.nodup_append.mpr ⟨held6.nd, r6.nodup, fun a ha b hb z => nG b hb (z ▸ List.mem_cons_of_mem _ ha)⟩
                  · intro a ha i z
                    rcases List.mem_cons.mp ha with y | y
                    · exact held6.ap a (y ▸ List.mem_cons_self) i (wipe_sub z)
                    · rcases List.mem_append.mp y with y | y
                      · exact held6.ap a (List.mem_cons_of_mem _ y) i (wipe_sub z)
                      · exact ap6 a y i (wipe_sub z)
                  · intro a ha
                    rcases List.mem_append.mp ha with y | y
                    · exact og2 a y
                    · exact og6.step st15 a y
                  · rw [hys]; simp
      · have hi' : i = p.1.length := by omega
        subst hi'
        rw [List.drop_length] at comp2
        have comp2 : Rs.ok [] ρ2 = Rs.ok yr ρ9 := comp2
        cases comp2
        rw [List.append_nil] at hys
        subst hys
        refine .inl ⟨src.stop Av2 H2 hok2, h (.ref L) H2 Av2 φ2 (L :: F) ⟨?_, fun i d hi => ?_, fun i hi => ?_, e2.dis, e2.ok⟩ (.lstO held2.at_ held2.av held2.rep held2.out held2.nd) held2.ap (st1.trans (st2.mono hll) e.ok) fun a ha => ?_⟩
        · rw [rest_len, len2]; exact e1.len
        · by_cases z : i ∈ ws
          · have hi := rest_in z hi
            obtain ⟨v, h1, h2⟩ := e1.rep i d hi
            have ei : φ2 i = [] := e2.emp i fun d y => (wipeA_some y).1 z
            rw [own_nil (cold_at hc z hi) h2] at h2
            rw [ei]
            exact ⟨v, h1, h2.step st2 e1 Apart.nil⟩
          · rw [rest_ne z] at hi
            obtain ⟨v, h1, h2⟩ := e2.rep i d (by rw [wipeA_ne z]; exact hi)
            rw [wipeA_ne z] at h1
            exact ⟨v, h1, h2⟩
        · refine e2.emp i fun d y => ?_
          obtain ⟨z, y⟩ := wipeA_some y
          exact hi d (by rw [rest_ne z]; exact y)
        · rcases List.mem_cons.mp ha with y | y
          · subst y
            by_cases z : H a = none
            · exact .inr z
            · exact absurd hL (st1.there a z)
          · exact (og2.mono hll).step st1 a y

theorem ts_nil {X' : Cx} {W : WX} : PTs X' [] (RT (Cx.gd X' W xr) c tAll) := ⟨fun pins s σ H Q I ⟨Av, ρ, φ, e, h⟩ => pts_nil.run pins s σ H Q I (h H Av φ e Step.refl)⟩
theorem ts_one {X' : Cx} {W : WX} {a : Expr} {m : M Bool} (h : PT X' a (RT (Cx.gd X' W xr) c m)) : PTs X' [a] (RT (Cx.gd X' W xr) c m) := pts_one h
theorem s_lc {elt tg iter : Expr} {ifs : List Expr} {scope : Scope} {own : List (Str × Nat)} {mi : M Sr} {t : D → M Unit} {tt : M Bool} {te : M D} (hlt : LenT t) (hi : PI X tg iter (RI (Cx.gd X W xr) c mi)) (ok : BlkOk X.N X.env.scope scope own)
    (hg : ∀ (s : Shared) (H : Hp) (C : Addr) (cl : List (Str × Addr)) (fp : List Addr) c, PG (X.blk s H scope (compEnvC scope cl C X.env) fp) tg (RG (Cx.gd (X.blk s H scope (compEnvC scope cl C X.env) fp) W0 xr) c t))
    (ht : ∀ (s : Shared) (H : Hp) (C : Addr) (cl : List (Str × Addr)) (fp : List Addr) c, PTs (X.blk s H scope (compEnvC scope cl C X.env) fp) ifs (RT (Cx.gd (X.blk s H scope (compEnvC scope cl C X.env) fp) W0 xr) c tt))
    (he : ∀ (s : Shared) (H : Hp) (C : Addr) (cl : List (Str × Addr)) (fp : List Addr) c, PE (X.blk s H scope (compEnvC scope cl C X.env) fp) elt (RE (Cx.gd (X.blk s H scope (compEnvC scope cl C X.env) fp) W0 xr) c te))
    (hc : X.calm = true) (hN : X.N.Nodup) (hs : ∀ x, foldedSetIterable iter X.env x = pure x := by intro _; rfl) :
    PE X (.ListComp elt [⟨tg, iter, ifs, 0⟩] scope pos) (RE (Cx.gd X W xr) c (mComp mi (own.map (·.2)) t tt te)) :=
  PE.weak (pe_lc hc hN hi ok (fun s H C cl fp => PG.exC (hg s H C cl fp)) (fun s H C cl fp => PTs.exC (ht s H C cl fp)) (fun s H C cl fp => PE.exC (he s H C cl fp)) hs) fun _ _ _ h => lc_fin hlt h
theorem st_setLc {i : Nat} {y : Str} {py spos : Pos} {elt tg iter : Expr} {ifs : List Expr} {scope : Scope} {own : List (Str × Nat)} {mi : M Sr} {t : D → M Unit} {tt : M Bool} {te : M D} (hy : X.N[i]? = some y) (hyl : X.env.scope.names.lookup y = some .local)
    (hsw : swapsWith (.ListComp elt [⟨tg, iter, ifs, 0⟩] scope pos) (some (.Name y py)) spos.line X.env = pure true) (hlt : LenT t) (hi : PI X tg iter (RI (Cx.gd X W xr) c mi)) (ok : BlkOk X.N X.env.scope scope own)
    (hg : ∀ (s : Shared) (H : Hp) (C : Addr) (cl : List (Str × Addr)) (fp : List Addr) c, PG (X.blk s H scope (compEnvC scope cl C X.env) fp) tg (RG (Cx.gd (X.blk s H scope (compEnvC scope cl C X.env) fp) W0 xr) c t))
    (ht : ∀ (s : Shared) (H : Hp) (C : Addr) (cl : List (Str × Addr)) (fp : List Addr) c, PTs (X.blk s H scope (compEnvC scope cl C X.env) fp) ifs (RT (Cx.gd (X.blk s H scope (compEnvC scope cl C X.env) fp) W0 xr) c tt))
    (he : ∀ (s : Shared) (H : Hp) (C : Addr) (cl : List (Str × Addr)) (fp : List Addr) c, PE (X.blk s H scope (compEnvC scope cl C X.env) fp) elt (RE (Cx.gd (X.blk s H scope (compEnvC scope cl C X.env) fp) W0 xr) c te))
    (hc : X.calm = true) (hN : X.N.Nodup) (hs : ∀ x, foldedSetIterable iter X.env x = pure x := by intro _; rfl) :
    PS X (.Assign [.Name y py] (.ListComp elt [⟨tg, iter, ifs, 0⟩] scope pos) spos) (RS (Cx.gd X W xr) c (sSet (setS i) (mComp mi (own.map (·.2)) t tt te))) :=
  PS.weak (ps_setLc hc hN hy hyl hsw hi ok (fun s H C cl fp => PG.exC (hg s H C cl fp)) (fun s H C cl fp => PTs.exC (ht s H C cl fp)) (fun s H C cl fp => PE.exC (he s H C cl fp)) hs) fun Dn σ H h => by
    refine lc_fin (tt := tt) (te := te) hlt ?_
    exact he_mono (rs_asg h) fun _ _ q => gname_of q
end
end Y

end
section
set_option Elab.async false
set_option linter.all false
set_option maxRecDepth 100000
set_option autoImplicit false
/-! Y13: zip and enumerate over lists, tuples, texts; range. -/
namespace Y
open PySem L2

/-- what can be drawn from -/
inductive Cmp where
  | l (a : Addr) | t (a : Addr) | s (x : Str)
def Cmp.items (K : PySem.W.Frag) : Cmp → Hp → List V → Prop
  | .l a, H, xs => SqL K H a xs
  | .t a, H, xs => SqT K H a xs
  | .s x, _, xs => xs = x.cps.toList.map fun c => V.str ⟨#[c]⟩
def Cmp.st : Cmp → Addr → Nat → Heap → Prop
  | .l a, it, i, h => h.IsListIter it a i
  | .t a, it, i, h => h.IsTupleIter it a i
  | .s x, it, i, h => ∃ t, h.IsStrIter it (strIterType x) x t i
def Cmp.of : Cmp → V → Prop
  | .l a, v => v = .ref a
  | .t a, v => v = .ref a
  | .s x, v => v = .str x
theorem Cmp.st_at {C : Cmp} {it : Addr} {i : Nat} {h h' : Heap} (x : C.st it i h) (e : ∀ o, h.get? it = some o → h'.get? it = some o) : C.st it i h' := by
  cases C with
  | l a => obtain ⟨o, q, r⟩ := x; exact ⟨o, e o q, r⟩
  | t a => obtain ⟨o, q, r⟩ := x; exact ⟨o, e o q, r⟩
  | s y => obtain ⟨t, o, q, r⟩ := x; exact ⟨t, o, e o q, r⟩
theorem Cmp.st_obj {C : Cmp} {it : Addr} {i : Nat} {h : Heap} (x : C.st it i h) : ∃ o, h.get? it = some o ∧ ∀ v, o.data ≠ .cell v := by
  cases C with
  | l a => obtain ⟨o, q, _, d⟩ := x; exact ⟨o, q, fun v z => by rw [d] at z; cases z⟩
  | t a => obtain ⟨o, q, _, d⟩ := x; exact ⟨o, q, fun v z => by rw [d] at z; cases z⟩
  | s y => obtain ⟨t, o, q, _, d⟩ := x; exact ⟨o, q, fun v z => by rw [d] at z; cases z⟩
section
variable {X : Cx} {pins : List (Addr × Obj)} {σ : L2.St} {H : Hp} {s : Shared}
theorem fp_neK (I : Inv X pins σ H s) {c a : Addr} {o : Obj} (f : FpOk X pins H c) (h : X.K.lookup a = some o) : c ≠ a := by
  rintro rfl
  have hb := I.ok.mod.kin _ _ h
  rcases f.2.2.2.1 with z | z
  · exact I.ok.noex _ _ hb z
  · exact absurd (Nat.lt_of_lt_of_le (Heap.lt_size (I.ok.bs _ _ hb).1) z) (Nat.lt_irrefl _)
theorem fp_neL (I : Inv X pins σ H s) {c a : Addr} {xs : List V} (f : FpOk X pins H c) (h : SqL X.K H a xs) : c ≠ a := by
  rcases h with h | ⟨o, its, n, hk, _⟩
  · rintro rfl
    rcases h with h | ⟨o, h⟩ <;> (rw [f.1] at h; cases h)
  · exact fp_neK I f hk
theorem fp_neT (I : Inv X pins σ H s) {c a : Addr} {xs : List V} (f : FpOk X pins H c) (h : SqT X.K H a xs) : c ≠ a := by
  rcases h with h | ⟨o, its, n, hk, _⟩
  · rintro rfl
    rcases h with h | ⟨o, h⟩ <;> (rw [f.1] at h; cases h)
  · exact fp_neK I f hk
theorem Vals.getR : ∀ {xs : List V} {us : List Value} {i : Nat} {u : Value}, Vals xs us → us[i]? = some u → ∃ x, xs[i]? = some x ∧ RelV x u
  | _, _, _, _, .nil, e => by simp at e
  | _, _, 0, _, .cons r _, e => by simp at e; subst e; exact ⟨_, rfl, r⟩
  | _, _, i + 1, x, .cons _ t, e => by
    obtain ⟨u, h1, h2⟩ := Vals.getR (i := i) t (by simpa using e)
    exact ⟨u, by simpa using h1, h2⟩
theorem chars_get {x : Str} {j c : Nat} (h : x.cps[j]? = some c) : (x.cps.toList.map fun c => V.str ⟨#[c]⟩)[j]? = some (.str ⟨#[c]⟩) := by
  rw [List.getElem?_map]
  have : x.cps.toList[j]? = some c := by simpa using h
  rw [this]; rfl
theorem cmp_drawsA (I : Inv X pins σ H s) {A : Around} (hh : A.handled = none) (C : Cmp) {xs : List V} (hx : C.items X.K H xs) {it : Addr} {i : Nat} (st : C.st it i s.heap) (hn : FpOk X pins H it) :
    ∃ fp n P St, Draws X.prog X.w A it fp n P St ∧ it ∈ fp ∧ (∀ b ∈ fp, b = it ∨ ∀ c, FpOk X pins H c → c ≠ b) ∧ St i s.heap ∧ n = xs.length ∧ (∀ j v, P j v → ∃ x, xs[j]? = some x ∧ RelV x v) ∧ ∀ j h, St j h → C.st it j h := by
  cases C with
  | l a =>
    obtain ⟨its, rv, p, hz⟩ := I.list hx
    refine ⟨_, _, _, _, Draws.list hh it a (fp_neL I hn hx).symm its.toArray, by simp, fun b hb => ?_, ⟨st, p.isList⟩, by rw [rv.length]; simp, fun j v h => ?_, fun j h z => z.1⟩
    · have e' : b = it ∨ b = a := by simpa using hb
      exact e'.imp id fun z c f => by rw [z]; exact fp_neL I f hx
    · obtain ⟨x, h1, h2⟩ := Vals.getR rv (i := j) (u := v) (by simpa using h)
      exact ⟨x, h1, h2⟩
  | t a =>
    obtain ⟨its, rv, p, hz⟩ := I.tuple hx
    refine ⟨_, _, _, _, Draws.tuple hh it a (fp_neT I hn hx).symm its.toArray, by simp, fun b hb => ?_, ⟨st, p⟩, by rw [rv.length]; simp, fun j v h => ?_, fun j h z => z.1⟩
    · have e' : b = it ∨ b = a := by simpa using hb
      exact e'.imp id fun z c f => by rw [z]; exact fp_neT I f hx
    · obtain ⟨x, h1, h2⟩ := Vals.getR rv (i := j) (u := v) (by simpa using h)
      exact ⟨x, h1, h2⟩
  | s y =>
    obtain ⟨t, st⟩ := st
    have hx : xs = y.cps.toList.map fun c => V.str ⟨#[c]⟩ := hx
    subst hx
    refine ⟨_, _, _, _, Draws.text hh it y t, by simp, fun b hb => .inl (by simpa using hb), st, by simp, fun j v h => ?_, fun j h z => ⟨t, z⟩⟩
    obtain ⟨c, u, h1, rfl⟩ := h
    exact ⟨_, chars_get h1, ⟨u, rfl⟩⟩
theorem cmp_draws (I : Inv X pins σ H s) (hc : X.calm = true) (C : Cmp) {xs : List V} (hx : C.items X.K H xs) {it : Addr} {i : Nat} (st : C.st it i s.heap) (hn : FpOk X pins H it) :
    ∃ fp n P St, Draws X.prog X.w X.A.in1 it fp n P St ∧ it ∈ fp ∧ (∀ b ∈ fp, b = it ∨ ∀ c, FpOk X pins H c → c ≠ b) ∧ St i s.heap ∧ n = xs.length ∧ (∀ j v, P j v → ∃ x, xs[j]? = some x ∧ RelV x v) ∧ ∀ j h, St j h → C.st it j h :=
  cmp_drawsA I (A := X.A.in1) (I.ok.hd hc) C hx st hn
theorem Cmp.inj (I : Inv X pins σ H s) {C : Cmp} {xs ys : List V} (h : C.items X.K H xs) (h' : C.items X.K H ys) : xs = ys := by
  cases C with
  | l a => exact I.list_inj h h'
  | t a => exact I.tuple_inj h h'
  | s x => exact h.trans h'.symm
theorem st_lt {C : Cmp} {it : Addr} {i : Nat} (x : C.st it i s.heap) : it < s.heap.objs.size := by
  obtain ⟨o, q, _⟩ := Cmp.st_obj x
  exact Heap.lt_size q
/-- how its iterator begins -/
theorem cmp_begins (I : Inv X pins σ H s) (C : Cmp) {xs : List V} {x : V} {v : Value} (hx : C.items X.K H xs) (hv : C.of x) (r : RelV x v) :
    ∃ o Hh, Begins v o Hh ∧ Hh s.heap ∧ ∀ it h, h.get? it = some o → C.st it 0 h := by
  cases C with
  | l a =>
    obtain rfl : x = .ref a := hv
    cases r
    obtain ⟨its, rv, p, hz⟩ := I.list hx
    exact ⟨_, _, begins_list a its.toArray, p.isList, fun it h e => ⟨_, e, rfl, rfl⟩⟩
  | t a =>
    obtain rfl : x = .ref a := hv
    cases r
    obtain ⟨its, rv, p, hz⟩ := I.tuple hx
    exact ⟨_, _, begins_tuple a its.toArray, p, fun it h e => ⟨_, e, rfl, rfl⟩⟩
  | s y =>
    obtain rfl : x = .str y := hv
    obtain ⟨t, rfl⟩ := r
    exact ⟨_, _, begins_text y t, trivial, fun it h e => ⟨t, _, e, rfl, rfl⟩⟩
end

/-! ### zip of two -/
def ItZ (K : PySem.W.Frag) (c1 c2 : Cmp) : It :=
  ⟨fun i H => ∃ (xs ys : List V), c1.items K H xs ∧ c2.items K H ys ∧ i < xs.length ∧ i < ys.length,
    fun i H v H' => ∃ T x y, v = .ref T ∧ H T = none ∧ H' = upd H T (.tup [x, y]) ∧ (∀ xs, c1.items K H xs → xs[i]? = some x) ∧ ∀ ys, c2.items K H ys → ys[i]? = some y,
    fun i H => ∃ xs ys : List V, c1.items K H xs ∧ c2.items K H ys ∧ i ≤ xs.length ∧ i ≤ ys.length ∧ (i = xs.length ∨ i = ys.length)⟩
structure Far2 (z TI TO i1 i2 : Addr) : Prop where
  TIz : TI ≠ z
  TOz : TO ≠ z
  TITO : TI ≠ TO
  TI1 : TI ≠ i1
  TI2 : TI ≠ i2
  TO1 : TO ≠ i1
  TO2 : TO ≠ i2
  z1 : z ≠ i1
  z2 : z ≠ i2
  i12 : i1 ≠ i2
theorem Far2.sep {X : Cx} {pins : List (Addr × Obj)} {H : Hp} {z TI TO i1 i2 : Addr} {fp1 fp2 : List Addr} (D : Far2 z TI TO i1 i2) (hf : ∀ b ∈ [z, TI, TO, i1, i2], FpOk X pins H b) (m1 : i1 ∈ fp1) (m2 : i2 ∈ fp2)
    (h1 : ∀ b ∈ fp1, b = i1 ∨ ∀ c, FpOk X pins H c → c ≠ b) (h2 : ∀ b ∈ fp2, b = i2 ∨ ∀ c, FpOk X pins H c → c ≠ b) : ZipSep2 z TI TO i1 i2 fp1 fp2 where
  TIz := D.TIz
  TOz := D.TOz
  TITO := D.TITO
  TIi1 := D.TI1
  mem1 := m1
  zf1 := fun hm => (h1 z hm).elim D.z1 fun n => n z (hf z (by simp)) rfl
  Tf1 := fun hm => (h1 TO hm).elim D.TO1 fun n => n TO (hf TO (by simp)) rfl
  TIi2 := D.TI2
  mem2 := m2
  zf2 := fun hm => (h2 z hm).elim D.z2 fun n => n z (hf z (by simp)) rfl
  Tf2 := fun hm => (h2 TO hm).elim D.TO2 fun n => n TO (hf TO (by simp)) rfl
  sep1_2 := fun hm => (h2 i1 hm).elim D.i12 fun n => n i1 (hf i1 (by simp)) rfl
  sep2_1 := fun hm => (h1 i2 hm).elim D.i12.symm fun n => n i2 (hf i2 (by simp)) rfl
theorem turn_zip2 {P : Program} {w : World} {K : PySem.W.Frag} {elts : List Expr} {kk : Nat} {tpos : Pos} {c1 c2 : Cmp} {z TI TO i1 i2 : Addr} (D : Far2 z TI TO i1 i2) :
    Turn P w K (.Tuple elts kk tpos) (ItZ K c1 c2) [z, TI, TO, i1, i2] z (fun i h => IsZip h z TI TO .none ∧ IsTupOf2 h TI (.ref i1) (.ref i2) ∧ (∃ x y, IsTupOf2 h TO x y) ∧ c1.st i1 i h ∧ c2.st i2 i h) where
  mem := by simp
  obj := fun i h st c hc => by
    obtain ⟨hz, hTI, ⟨x, y, hTO⟩, h1, h2⟩ := st
    have e' : c = z ∨ c = TI ∨ c = TO ∨ c = i1 ∨ c = i2 := by simpa using hc
    rcases e' with q | q | q | q | q
    · rw [q]; exact ⟨_, hz, fun v q => nomatch q⟩
    · rw [q]; exact ⟨_, hTI, fun v q => nomatch q⟩
    · rw [q]; exact ⟨_, hTO, fun v q => nomatch q⟩
    · rw [q]; exact Cmp.st_obj h1
    · rw [q]; exact Cmp.st_obj h2
  keep := fun i h h' st k => by
    obtain ⟨hz, hTI, ⟨x, y, hTO⟩, h1, h2⟩ := st
    exact ⟨k z (by simp) _ hz, k TI (by simp) _ hTI, ⟨x, y, k TO (by simp) _ hTO⟩, Cmp.st_at h1 fun o q => k i1 (by simp) o q, Cmp.st_at h2 fun o q => k i2 (by simp) o q⟩
  item := by
    intro X hP hw hK hc i pins s σ H E I hf st hg
    subst hP hw hK
    obtain ⟨hz, hTI, ⟨x0, y0, hTO⟩, h1, h2⟩ := st
    obtain ⟨xs, ys, hqx, hqy, hx, hy⟩ := hg
    obtain ⟨fp1, n1, P1, St1, D1, m1, f1, s1, l1, p1, b1⟩ := cmp_draws I hc c1 hqx h1 (hf i1 (by simp))
    obtain ⟨fp2, n2, P2, St2, D2, m2, f2, s2, l2, p2, b2⟩ := cmp_draws I hc c2 hqy h2 (hf i2 (by simp))
    have S := D.sep hf m1 m2 f1 f2
    have hzl : z < s.heap.objs.size := Heap.lt_size hz
    refine wpAny_pyNext_zipD2_item S D1 D2 hz hTI hTO s1 s2 (by omega) (by omega) fun u1 u2 h' tk hP1 hP2 z' TO' h1' h2' hT hsz hk => ?_
    refine ⟨_, rfl, wpAny_letOwnedTupleGo_zip (s := { s with heap := h', toks := tk }) z' fun h'' z'' sb => ?_⟩
    obtain ⟨x, hx', rx⟩ := p1 _ _ hP1
    obtain ⟨y, hy', ry⟩ := p2 _ _ hP2
    have hT2 : h''.get? s.heap.objs.size = some { cls := .type "tuple", data := .seq #[u1, u2] } := (sb.2 _ (Nat.ne_of_gt hzl)).trans hT
    have new : ObjOk X.prog X.w (upd H s.heap.objs.size (.tup [x, y])) h'' s.heap.objs.size (.tup [x, y]) :=
      ⟨by show 2 ≤ sizeLine; decide, [u1, u2], .cons rx (.cons ry .nil), ⟨_, hT2, rfl, _, rfl⟩⟩
    have I1 : Inv X pins σ (upd H s.heap.objs.size (.tup [x, y])) { s with heap := h'', toks := tk } :=
      I.turnedNew (t' := tk) (ch := [z, TI, TO, i1, i2]) (fun c o hb q => (sb.2 c (fun q' => hb (by simp [q']))).trans (hk c o (fun q' => hb (by simp [q'])) (fun q' => hb (by simp [q'])) (fun q' => hb (by simp [q'])) (fun q' => hb (by simp [q'])) q)) hf (Nat.le_refl _) new
    refine ⟨.ref s.heap.objs.size, _, I1, rfl, ⟨_, x, y, rfl, I.hok.fresh (Nat.le_refl _), rfl, fun l hl => by rw [Cmp.inj I hl hqx]; exact hx', fun l hl => by rw [Cmp.inj I hl hqy]; exact hy'⟩, ⟨z'', ?_, ⟨u1, u2, ?_⟩, ?_, ?_⟩, fun c hcm => ?_⟩
    · exact (sb.2 _ D.TIz).trans (hk _ _ D.TIz D.TITO D.TI1 D.TI2 hTI)
    · exact (sb.2 _ D.TOz).trans TO'
    · exact Cmp.st_at (b1 _ _ h1') fun o q => (sb.2 _ D.z1.symm).trans q
    · exact Cmp.st_at (b2 _ _ h2') fun o q => (sb.2 _ D.z2.symm).trans q
    · have hlt : c < s.heap.objs.size := by
        have e' : c = z ∨ c = TI ∨ c = TO ∨ c = i1 ∨ c = i2 := by simpa using hcm
        rcases e' with q | q | q | q | q
        · rw [q]; exact hzl
        · rw [q]; exact Heap.lt_size hTI
        · rw [q]; exact Heap.lt_size hTO
        · rw [q]; exact st_lt h1
        · rw [q]; exact st_lt h2
      rw [upd_ne (Nat.ne_of_lt hlt)]
      exact (hf c hcm).1
  done := by
    intro X hP hw hK hc i pins s σ H E I hf st hg
    subst hP hw hK
    obtain ⟨hz, hTI, ⟨x0, y0, hTO⟩, h1, h2⟩ := st
    obtain ⟨xs, ys, hqx, hqy, hx, hy, hend⟩ := hg
    obtain ⟨fp1, n1, P1, St1, D1, m1, f1, s1, l1, p1, b1⟩ := cmp_draws I hc c1 hqx h1 (hf i1 (by simp))
    obtain ⟨fp2, n2, P2, St2, D2, m2, f2, s2, l2, p2, b2⟩ := cmp_draws I hc c2 hqy h2 (hf i2 (by simp))
    have S := D.sep hf m1 m2 f1 f2
    exact wpAny_pyNext_zipD2_end S D1 D2 hz hTI hTO s1 s2 (by omega) (by omega) (by omega) fun h' tk hk => ⟨rfl, I.turnedL (t' := tk) (ch := [z, TI, TO, i1, i2]) (fun c o hb q =>
      hk c o (fun q' => hb (by simp [q'])) (fun q' => hb (by simp [q'])) (fun q' => hb (by simp [q'])) (fun q' => hb (by simp [q'])) q) hf⟩
  self := fun A i s Q E st h => wpAny_pyIter_zip st.1 h
def iZ2 (K : PySem.W.Frag) (ta : TA) : TI := fun σ H R => ta σ H fun vs H1 => ∃ v1 v2 c1 c2 xs ys, vs = [v1, v2] ∧ Cmp.of c1 v1 ∧ Cmp.of c2 v2 ∧ Cmp.items K c1 H1 xs ∧ Cmp.items K c2 H1 ys ∧ R (ItZ K c1 c2) H1
theorem pi_z2 {X : Cx} {e e2 : Expr} {ta : TA} {p pos tpos : Pos} {elts : List Expr} {kk : Nat} (hg : Gl X "zip") (hm : X.mg "zip" = none) (ha : PA X [e, e2] ta)
    (hs : starEach [e, e2] X.env = (false, eval e X.env) :: starEach [e2] X.env := by rfl) (hpl : (backTo pos (starEach [e2] X.env)).any (·.1) = false := by rfl) :
    PI X (.Tuple elts kk tpos) (.Call (.Name "zip" p) [e, e2] [] pos) (iZ2 X.K ta) := by
  refine ⟨fun pins s σ H R I h => ?_⟩
  refine PyProof.Rows.Call_ (ld_blt I hg hm PyProof.Rows.boot_zip (PyProof.Rows.callWith_type1 (thn (ha.run pos pins s σ H _ I h) fun us s1 ⟨vs, H1, I1, r1, q1⟩ => ?_) hs hpl))
  obtain ⟨v1, v2, c1, c2, xs, ys, ex, o1, o2, hqx, hqy, q⟩ := q1
  subst ex
  cases r1 with
  | cons r rr =>
    cases rr with
    | cons r' rr =>
      cases rr
      obtain ⟨ob1, Hh1, B1, b1, k1⟩ := cmp_begins I1 c1 hqx o1 r
      obtain ⟨ob2, Hh2, B2, b2, k2⟩ := cmp_begins I1 c2 hqy o2 r'
      refine zip_begins2 B1 B2 b1 b2 fun h' hz hTI hTO g1 g2 hsz hk => wpAny_pyIter_zip hz ?_
      have I2 : Inv X pins σ H1 { s1 with heap := h' } := I1.kept (t' := s1.toks) hk
      generalize hN : s1.heap.objs.size = N at *
      refine ⟨N + 4, [N + 4, N + 2, N + 3, N, N + 1], _, ItZ X.K c1 c2, H1, rfl, I2, turn_zip2 ⟨?_, ?_, ?_, ?_, ?_, ?_, ?_, ?_, ?_, ?_⟩, ⟨hz, hTI, ⟨_, _, hTO⟩, k1 _ _ g1, k2 _ _ g2⟩, fun c hcm => ?_, q⟩
      all_goals first
        | (show (_ : Nat) ≠ _; omega)
        | skip
      have hle : s1.heap.objs.size ≤ c := by
        rw [hN]
        have e' : c = N + 4 ∨ c = N + 2 ∨ c = N + 3 ∨ c = N ∨ c = N + 1 := by simpa using hcm
        rcases e' with z | z | z | z | z <;> rw [z] <;> show N ≤ (_ : Nat) <;> omega
      exact I1.fpOk hle (I1.hok.fresh hle)
end Y

end
section
set_option Elab.async false
set_option linter.all false
set_option maxRecDepth 100000
set_option autoImplicit false
/-! Z1: list(zip(v1, v2)): zip's next while the tuple given out is held, over iterators of any kind; the list's loop. -/
namespace Y
open PySem L2
theorem zip_no_len : typeLookup (.type "zip") "__len__" = pure none := am_miss_of_fast (by decide +kernel)
theorem zip_no_hint : typeLookup (.type "zip") "__length_hint__" = pure none := am_miss_of_fast (by decide +kernel)
section
variable {prog : Program} {w : World} {A : Around} {E : Value → Shared → Prop} {s : Shared} {z TI TO T i1 i2 : Addr} {fp1 fp2 : List Addr} {n1 n2 i : Nat} {P1 P2 : Nat → Value → Prop} {St1 St2 : Nat → Heap → Prop} {f : Bool} {oT : Obj}
theorem zipD2_held_item {Q : Value → Shared → Prop} (S : ZipSep2 z TI TO i1 i2 fp1 fp2) (D1 : Draws prog w A i1 fp1 n1 P1 St1) (D2 : Draws prog w A i2 fp2 n2 P2 St2)
    (hz : IsZipHeld s.heap z TI TO T f) (hT : s.heap.get? T = some oT) (hTI : IsTupOf2 s.heap TI (.ref i1) (.ref i2)) (st1 : St1 i s.heap) (st2 : St2 i s.heap) (hlt1 : i < n1) (hlt2 : i < n2)
    (hQ : ∀ x1 x2 h' tk, P1 i x1 → P2 i x2 → IsZipHeld h' z TI TO T true → St1 (i + 1) h' → St2 (i + 1) h' → IsTupOf2 h' s.heap.objs.size x1 x2 → h'.objs.size = s.heap.objs.size + 1 →
      (∀ c o, c ≠ z → c ≠ i1 → c ≠ i2 → s.heap.get? c = some o → h'.get? c = some o) → Q (.ref s.heap.objs.size) { s with heap := h', toks := tk }) :
    wpAny (model prog w) A (Builtin.«zip.__next__» ⟨[.ref z], []⟩) (fun fin s' => ∃ v, fin = .done (.ret v) ∧ Q v s') E s := by
  obtain ⟨hp, g, d, tk0, os⟩ := s
  show wpAny _ _ (field (.ref z) 2 >>= _) _ _ _
  refine wpAny_bind (wpAny_field hz rfl (x := .bool false) rfl ?_)
  show wpAny _ _ (field (.ref z) 3 >>= _) _ _ _
  refine wpAny_bind (wpAny_field hz rfl (x := .ref TI) rfl ?_)
  refine wpAny_bind (wpAny_seqItems hTI rfl ?_)
  show wpAny _ _ (Builtin.SmallTypes.ownedTupleIsFree (.ref z) >>= _) _ _ _
  refine wpAny_bind (wpAny_tupleHeld_zip hz hT fun h₁ hz₁ hs₁ => ?_)
  replace hs₁ : Heap.SameBut z hp h₁ := hs₁
  simp only [Bool.false_eq_true, if_false]
  refine wpAny_bind ?_
  rw [← Array.forIn_toList]
  simp only [List.forIn_cons, List.forIn_nil]
  refine wpAny_bind (wpAny_bind (wpAny_holding ?_))
  show wpAny _ _ (Builtin.SmallTypes.nextOf (.ref i1) >>= _) _ _ ⟨h₁, g, d, tk0, os⟩
  refine wpAny_bind (D1.item i _ _ _ hlt1 (D1.over st1 hs₁ S.zf1) fun x1 p1 tk1 hx1 sn1 hp1 => wpAny_pure ?_)
  replace hp1 : Heap.SameBut i1 h₁ p1 := hp1
  refine wpAny_pure ?_
  refine wpAny_bind (wpAny_bind (wpAny_holding ?_))
  show wpAny _ _ (Builtin.SmallTypes.nextOf (.ref i2) >>= _) _ _ ⟨p1, g, d, tk1, os⟩
  refine wpAny_bind (D2.item i _ _ _ hlt2 (D2.over (D2.over st2 hs₁ S.zf2) hp1 S.sep1_2) fun x2 p2 tk2 hx2 sn2 hp2 => wpAny_pure ?_)
  replace hp2 : Heap.SameBut i2 p1 p2 := hp2
  refine wpAny_pure (wpAny_pure ?_)
  show wpAny _ _ (newTuple [x1, x2] >>= _) _ _ _
  refine wpAny_bind (wpAny_newTuple ?_)
  have hsz : p2.objs.size = hp.objs.size := by rw [hp2.1, hp1.1, hs₁.1]
  have hz₃ : IsZipHeld p2 z TI TO T true := hp2.extBut _ _ S.zi2 (hp1.extBut _ _ S.zi1 hz₁)
  have hk : ∀ c o, c ≠ z → c ≠ i1 → c ≠ i2 → hp.get? c = some o → p2.get? c = some o := fun c o c1 c2 c3 e => hp2.extBut _ _ c3 (hp1.extBut _ _ c2 (hs₁.extBut _ _ c1 e))
  have s1' : St1 (i + 1) p2 := D1.over sn1 hp2 S.sep2_1
  refine wpAny_pure ⟨_, rfl, ?_⟩
  show Q (.ref p2.objs.size) _
  have ht : IsTupOf2 (p2.push { cls := .type "tuple", data := .seq #[x1, x2] }) p2.objs.size x1 x2 := Heap.get?_push_size _ rfl
  have hz4 : (p2.push { cls := .type "tuple", data := .seq #[x1, x2] }).objs.size = p2.objs.size + 1 := Heap.size_push ..
  rw [hsz] at ht hz4 ⊢
  exact hQ x1 x2 _ _ hx1 hx2 (Heap.get?_push_of_some _ hz₃) (D1.frame _ _ _ s1' fun b _ o e => Heap.get?_push_of_some _ e) (D2.frame _ _ _ sn2 fun b _ o e => Heap.get?_push_of_some _ e) ht hz4 fun c o c1 c2 c3 e => Heap.get?_push_of_some _ (hk c o c1 c2 c3 e)
theorem zipD2_held_end {Q : Fin → Shared → Prop} (S : ZipSep2 z TI TO i1 i2 fp1 fp2) (D1 : Draws prog w A i1 fp1 n1 P1 St1) (D2 : Draws prog w A i2 fp2 n2 P2 St2)
    (hz : IsZipHeld s.heap z TI TO T f) (hT : s.heap.get? T = some oT) (hTI : IsTupOf2 s.heap TI (.ref i1) (.ref i2)) (st1 : St1 i s.heap) (st2 : St2 i s.heap) (hle1 : i ≤ n1) (hle2 : i ≤ n2) (hend : i = n1 ∨ i = n2)
    (hE : ∀ h' tk e, (∀ c o, c ≠ z → c ≠ i1 → c ≠ i2 → s.heap.get? c = some o → h'.get? c = some o) → (∃ o, h'.get? e = some o ∧ o.cls = .type "StopIteration") → E (.ref e) { s with heap := h', toks := tk }) :
    wpAny (model prog w) A (Builtin.«zip.__next__» ⟨[.ref z], []⟩) Q E s := by
  obtain ⟨hp, g, d, tk0, os⟩ := s
  show wpAny _ _ (field (.ref z) 2 >>= _) _ _ _
  refine wpAny_bind (wpAny_field hz rfl (x := .bool false) rfl ?_)
  show wpAny _ _ (field (.ref z) 3 >>= _) _ _ _
  refine wpAny_bind (wpAny_field hz rfl (x := .ref TI) rfl ?_)
  refine wpAny_bind (wpAny_seqItems hTI rfl ?_)
  show wpAny _ _ (Builtin.SmallTypes.ownedTupleIsFree (.ref z) >>= _) _ _ _
  refine wpAny_bind (wpAny_tupleHeld_zip hz hT fun h₁ hz₁ hs₁ => ?_)
  replace hs₁ : Heap.SameBut z hp h₁ := hs₁
  simp only [Bool.false_eq_true, if_false]
  refine wpAny_bind ?_
  rw [← Array.forIn_toList]
  simp only [List.forIn_cons, List.forIn_nil]
  refine wpAny_bind (wpAny_bind (wpAny_holding ?_))
  show wpAny _ _ (Builtin.SmallTypes.nextOf (.ref i1) >>= _) _ _ ⟨h₁, g, d, tk0, os⟩
  by_cases hlt1 : i < n1
  · have hi2 : i = n2 := by omega
    refine wpAny_bind (D1.item i _ _ _ hlt1 (D1.over st1 hs₁ S.zf1) fun x1 p1 tk1 hx1 sn1 hp1 => wpAny_pure ?_)
    replace hp1 : Heap.SameBut i1 h₁ p1 := hp1
    refine wpAny_pure ?_
    refine wpAny_bind (wpAny_bind (wpAny_holding ?_))
    show wpAny _ _ (Builtin.SmallTypes.nextOf (.ref i2) >>= _) _ _ ⟨p1, g, d, tk1, os⟩
    refine wpAny_bind (D2.done ⟨p1, g, d, tk1, os⟩ _ _ (by rw [← hi2]; exact D2.over (D2.over st2 hs₁ S.zf2) hp1 S.sep1_2) fun q e hq he => ?_)
    exact hE q tk1 e (fun c o c1 c2 c3 x => hq _ _ c3 (hp1.extBut _ _ c2 (hs₁.extBut _ _ c1 x))) he
  · have hi1 : i = n1 := by omega
    refine wpAny_bind (D1.done ⟨h₁, g, d, tk0, os⟩ _ _ (by rw [← hi1]; exact D1.over st1 hs₁ S.zf1) fun q e hq he => ?_)
    exact hE q tk0 e (fun c o c1 c2 _ x => hq _ _ c2 (hs₁.extBut _ _ c1 x)) he
theorem pyNext_zipD2_held_item {Q : Option Value → Shared → Prop} (S : ZipSep2 z TI TO i1 i2 fp1 fp2) (D1 : Draws prog w A.in1 i1 fp1 n1 P1 St1) (D2 : Draws prog w A.in1 i2 fp2 n2 P2 St2)
    (hz : IsZipHeld s.heap z TI TO T f) (hT : s.heap.get? T = some oT) (hTI : IsTupOf2 s.heap TI (.ref i1) (.ref i2)) (st1 : St1 i s.heap) (st2 : St2 i s.heap) (hlt1 : i < n1) (hlt2 : i < n2)
    (hQ : ∀ x1 x2 h' tk, P1 i x1 → P2 i x2 → IsZipHeld h' z TI TO T true → St1 (i + 1) h' → St2 (i + 1) h' → IsTupOf2 h' s.heap.objs.size x1 x2 → h'.objs.size = s.heap.objs.size + 1 →
      (∀ c o, c ≠ z → c ≠ i1 → c ≠ i2 → s.heap.get? c = some o → h'.get? c = some o) → Q (some (.ref s.heap.objs.size)) { s with heap := h', toks := tk }) :
    wpAny (model prog w) A (pyNext (.ref z)) Q E s := by
  have hTy : s.TypeIs (.ref z) "zip" := ⟨_, hz, rfl⟩
  unfold pyNext
  exact wpAny_bind (wpAny_attempt (wpAny_callSpecial?_slot (name := Str.ofString "__next__") hTy F.slot_zip_next
    (wpAny_call_entry F.slot_zip_next hTy F.entry_zip_next
      (zipD2_held_item S D1 D2 hz hT hTI st1 st2 hlt1 hlt2 fun x1 x2 h' tk a1 a2 a3 a4 a5 a6 a7 a8 => wpAny_pure (hQ x1 x2 h' tk a1 a2 a3 a4 a5 a6 a7 a8)) (F.args_zip_next_1 _))))
theorem pyNext_zipD2_held_end {Q : Option Value → Shared → Prop} (S : ZipSep2 z TI TO i1 i2 fp1 fp2) (D1 : Draws prog w A.in1 i1 fp1 n1 P1 St1) (D2 : Draws prog w A.in1 i2 fp2 n2 P2 St2)
    (hz : IsZipHeld s.heap z TI TO T f) (hT : s.heap.get? T = some oT) (hTI : IsTupOf2 s.heap TI (.ref i1) (.ref i2)) (st1 : St1 i s.heap) (st2 : St2 i s.heap) (hle1 : i ≤ n1) (hle2 : i ≤ n2) (hend : i = n1 ∨ i = n2)
    (hQ : ∀ h' tk, (∀ c o, c ≠ z → c ≠ i1 → c ≠ i2 → s.heap.get? c = some o → h'.get? c = some o) → Q none { s with heap := h', toks := tk }) : wpAny (model prog w) A (pyNext (.ref z)) Q E s := by
  have hTy : s.TypeIs (.ref z) "zip" := ⟨_, hz, rfl⟩
  unfold pyNext
  refine wpAny_bind (wpAny_attempt (wpAny_callSpecial?_slot (name := Str.ofString "__next__") hTy F.slot_zip_next
    (wpAny_call_entry F.slot_zip_next hTy F.entry_zip_next (zipD2_held_end S D1 D2 hz hT hTI st1 st2 hle1 hle2 hend fun h' tk e hk he => ?_) (F.args_zip_next_1 _))))
  obtain ⟨o, ho, hc⟩ := he
  refine wpAny_bind (wpAny_isInstance (T := "StopIteration") (b := true) ⟨o, ho, hc⟩ isSubtype_stop ?_)
  exact wpAny_pure (hQ _ _ hk)
end
end Y

end
section
set_option Elab.async false
set_option linter.all false
set_option maxRecDepth 100000
set_option autoImplicit false
/-! Y14: zip of three; enumerate. -/
namespace Y
open PySem L2

def ItZ3 (K : PySem.W.Frag) (c1 c2 c3 : Cmp) : It :=
  ⟨fun i H => ∃ (xs ys zs : List V), c1.items K H xs ∧ c2.items K H ys ∧ c3.items K H zs ∧ i < xs.length ∧ i < ys.length ∧ i < zs.length,
    fun i H v H' => ∃ T x y z, v = .ref T ∧ H T = none ∧ H' = upd H T (.tup [x, y, z]) ∧ (∀ xs, c1.items K H xs → xs[i]? = some x) ∧ (∀ ys, c2.items K H ys → ys[i]? = some y) ∧ ∀ zs, c3.items K H zs → zs[i]? = some z,
    fun i H => ∃ xs ys zs : List V, c1.items K H xs ∧ c2.items K H ys ∧ c3.items K H zs ∧ i ≤ xs.length ∧ i ≤ ys.length ∧ i ≤ zs.length ∧ (i = xs.length ∨ i = ys.length ∨ i = zs.length)⟩
structure Far3 (z TI TO i1 i2 i3 : Addr) : Prop where
  TIz : TI ≠ z
  TOz : TO ≠ z
  TITO : TI ≠ TO
  TI1 : TI ≠ i1
  TI2 : TI ≠ i2
  TI3 : TI ≠ i3
  TO1 : TO ≠ i1
  TO2 : TO ≠ i2
  TO3 : TO ≠ i3
  z1 : z ≠ i1
  z2 : z ≠ i2
  z3 : z ≠ i3
  i12 : i1 ≠ i2
  i13 : i1 ≠ i3
  i23 : i2 ≠ i3
theorem Far3.sep {X : Cx} {pins : List (Addr × Obj)} {H : Hp} {z TI TO i1 i2 i3 : Addr} {fp1 fp2 fp3 : List Addr} (D : Far3 z TI TO i1 i2 i3) (hf : ∀ b ∈ [z, TI, TO, i1, i2, i3], FpOk X pins H b) (m1 : i1 ∈ fp1) (m2 : i2 ∈ fp2) (m3 : i3 ∈ fp3)
    (h1 : ∀ b ∈ fp1, b = i1 ∨ ∀ c, FpOk X pins H c → c ≠ b) (h2 : ∀ b ∈ fp2, b = i2 ∨ ∀ c, FpOk X pins H c → c ≠ b) (h3 : ∀ b ∈ fp3, b = i3 ∨ ∀ c, FpOk X pins H c → c ≠ b) : ZipSep3 z TI TO i1 i2 i3 fp1 fp2 fp3 where
  TIz := D.TIz
  TOz := D.TOz
  TITO := D.TITO
  TIi1 := D.TI1
  mem1 := m1
  zf1 := fun hm => (h1 z hm).elim D.z1 fun n => n z (hf z (by simp)) rfl
  Tf1 := fun hm => (h1 TO hm).elim D.TO1 fun n => n TO (hf TO (by simp)) rfl
  TIi2 := D.TI2
  mem2 := m2
  zf2 := fun hm => (h2 z hm).elim D.z2 fun n => n z (hf z (by simp)) rfl
  Tf2 := fun hm => (h2 TO hm).elim D.TO2 fun n => n TO (hf TO (by simp)) rfl
  TIi3 := D.TI3
  mem3 := m3
  zf3 := fun hm => (h3 z hm).elim D.z3 fun n => n z (hf z (by simp)) rfl
  Tf3 := fun hm => (h3 TO hm).elim D.TO3 fun n => n TO (hf TO (by simp)) rfl
  sep1_2 := fun hm => (h2 i1 hm).elim D.i12 fun n => n i1 (hf i1 (by simp)) rfl
  sep1_3 := fun hm => (h3 i1 hm).elim D.i13 fun n => n i1 (hf i1 (by simp)) rfl
  sep2_1 := fun hm => (h1 i2 hm).elim D.i12.symm fun n => n i2 (hf i2 (by simp)) rfl
  sep2_3 := fun hm => (h3 i2 hm).elim D.i23 fun n => n i2 (hf i2 (by simp)) rfl
  sep3_1 := fun hm => (h1 i3 hm).elim D.i13.symm fun n => n i3 (hf i3 (by simp)) rfl
  sep3_2 := fun hm => (h2 i3 hm).elim D.i23.symm fun n => n i3 (hf i3 (by simp)) rfl
theorem turn_zip3 {P : Program} {w : World} {K : PySem.W.Frag} {elts : List Expr} {kk : Nat} {tpos : Pos} {c1 c2 c3 : Cmp} {z TI TO i1 i2 i3 : Addr} (D : Far3 z TI TO i1 i2 i3) :
    Turn P w K (.Tuple elts kk tpos) (ItZ3 K c1 c2 c3) [z, TI, TO, i1, i2, i3] z (fun i h => IsZip h z TI TO .none ∧ IsTupOf3 h TI (.ref i1) (.ref i2) (.ref i3) ∧ (∃ x y u, IsTupOf3 h TO x y u) ∧ c1.st i1 i h ∧ c2.st i2 i h ∧ c3.st i3 i h) where
  mem := by simp
  obj := fun i h st c hc => by
    obtain ⟨hz, hTI, ⟨x, y, u, hTO⟩, h1, h2, h3⟩ := st
    have e' : c = z ∨ c = TI ∨ c = TO ∨ c = i1 ∨ c = i2 ∨ c = i3 := by simpa using hc
    rcases e' with q | q | q | q | q | q
    · rw [q]; exact ⟨_, hz, fun v q => nomatch q⟩
    · rw [q]; exact ⟨_, hTI, fun v q => nomatch q⟩
    · rw [q]; exact ⟨_, hTO, fun v q => nomatch q⟩
    · rw [q]; exact Cmp.st_obj h1
    · rw [q]; exact Cmp.st_obj h2
    · rw [q]; exact Cmp.st_obj h3
  keep := fun i h h' st k => by
    obtain ⟨hz, hTI, ⟨x, y, u, hTO⟩, h1, h2, h3⟩ := st
    exact ⟨k z (by simp) _ hz, k TI (by simp) _ hTI, ⟨x, y, u, k TO (by simp) _ hTO⟩, Cmp.st_at h1 fun o q => k i1 (by simp) o q, Cmp.st_at h2 fun o q => k i2 (by simp) o q, Cmp.st_at h3 fun o q => k i3 (by simp) o q⟩
  item := by
    intro X hP hw hK hc i pins s σ H E I hf st hg
    subst hP hw hK
    obtain ⟨hz, hTI, ⟨x0, y0, u0, hTO⟩, h1, h2, h3⟩ := st
    obtain ⟨xs, ys, zs, hqx, hqy, hqz, hx, hy, hzz⟩ := hg
    obtain ⟨fp1, n1, P1, St1, D1, m1, f1, s1, l1, p1, b1⟩ := cmp_draws I hc c1 hqx h1 (hf i1 (by simp))
    obtain ⟨fp2, n2, P2, St2, D2, m2, f2, s2, l2, p2, b2⟩ := cmp_draws I hc c2 hqy h2 (hf i2 (by simp))
    obtain ⟨fp3, n3, P3, St3, D3, m3, f3, s3, l3, p3, b3⟩ := cmp_draws I hc c3 hqz h3 (hf i3 (by simp))
    have S := D.sep hf m1 m2 m3 f1 f2 f3
    have hzl : z < s.heap.objs.size := Heap.lt_size hz
    refine wpAny_pyNext_zipD3_item S D1 D2 D3 hz hTI hTO s1 s2 s3 (by omega) (by omega) (by omega) fun u1 u2 u3 h' tk hP1 hP2 hP3 z' TO' h1' h2' h3' hT hsz hk => ?_
    refine ⟨_, rfl, wpAny_letOwnedTupleGo_zip (s := { s with heap := h', toks := tk }) z' fun h'' z'' sb => ?_⟩
    obtain ⟨x, hx', rx⟩ := p1 _ _ hP1
    obtain ⟨y, hy', ry⟩ := p2 _ _ hP2
    obtain ⟨u, hu', ru⟩ := p3 _ _ hP3
    have hT2 : h''.get? s.heap.objs.size = some { cls := .type "tuple", data := .seq #[u1, u2, u3] } := (sb.2 _ (Nat.ne_of_gt hzl)).trans hT
    have new : ObjOk X.prog X.w (upd H s.heap.objs.size (.tup [x, y, u])) h'' s.heap.objs.size (.tup [x, y, u]) :=
      ⟨by show 3 ≤ sizeLine; decide, [u1, u2, u3], .cons rx (.cons ry (.cons ru .nil)), ⟨_, hT2, rfl, _, rfl⟩⟩
    have I1 : Inv X pins σ (upd H s.heap.objs.size (.tup [x, y, u])) { s with heap := h'', toks := tk } :=
      I.turnedNew (t' := tk) (ch := [z, TI, TO, i1, i2, i3]) (fun c o hb q => (sb.2 c (fun q' => hb (by simp [q']))).trans (hk c o (fun q' => hb (by simp [q'])) (fun q' => hb (by simp [q'])) (fun q' => hb (by simp [q'])) (fun q' => hb (by simp [q'])) (fun q' => hb (by simp [q'])) q)) hf (Nat.le_refl _) new
    refine ⟨.ref s.heap.objs.size, _, I1, rfl, ⟨_, x, y, u, rfl, I.hok.fresh (Nat.le_refl _), rfl, fun l hl => by rw [Cmp.inj I hl hqx]; exact hx', fun l hl => by rw [Cmp.inj I hl hqy]; exact hy', fun l hl => by rw [Cmp.inj I hl hqz]; exact hu'⟩, ⟨z'', ?_, ⟨u1, u2, u3, ?_⟩, ?_, ?_, ?_⟩, fun c hcm => ?_⟩
    · exact (sb.2 _ D.TIz).trans (hk _ _ D.TIz D.TITO D.TI1 D.TI2 D.TI3 hTI)
    · exact (sb.2 _ D.TOz).trans TO'
    · exact Cmp.st_at (b1 _ _ h1') fun o q => (sb.2 _ D.z1.symm).trans q
    · exact Cmp.st_at (b2 _ _ h2') fun o q => (sb.2 _ D.z2.symm).trans q
    · exact Cmp.st_at (b3 _ _ h3') fun o q => (sb.2 _ D.z3.symm).trans q
    · have hlt : c < s.heap.objs.size := by
        have e' : c = z ∨ c = TI ∨ c = TO ∨ c = i1 ∨ c = i2 ∨ c = i3 := by simpa using hcm
        rcases e' with q | q | q | q | q | q
        · rw [q]; exact hzl
        · rw [q]; exact Heap.lt_size hTI
        · rw [q]; exact Heap.lt_size hTO
        · rw [q]; exact st_lt h1
        · rw [q]; exact st_lt h2
        · rw [q]; exact st_lt h3
      rw [upd_ne (Nat.ne_of_lt hlt)]
      exact (hf c hcm).1
  done := by
    intro X hP hw hK hc i pins s σ H E I hf st hg
    subst hP hw hK
    obtain ⟨hz, hTI, ⟨x0, y0, u0, hTO⟩, h1, h2, h3⟩ := st
    obtain ⟨xs, ys, zs, hqx, hqy, hqz, hx, hy, hzz, hend⟩ := hg
    obtain ⟨fp1, n1, P1, St1, D1, m1, f1, s1, l1, p1, b1⟩ := cmp_draws I hc c1 hqx h1 (hf i1 (by simp))
    obtain ⟨fp2, n2, P2, St2, D2, m2, f2, s2, l2, p2, b2⟩ := cmp_draws I hc c2 hqy h2 (hf i2 (by simp))
    obtain ⟨fp3, n3, P3, St3, D3, m3, f3, s3, l3, p3, b3⟩ := cmp_draws I hc c3 hqz h3 (hf i3 (by simp))
    have S := D.sep hf m1 m2 m3 f1 f2 f3
    exact wpAny_pyNext_zipD3_end S D1 D2 D3 hz hTI hTO s1 s2 s3 (by omega) (by omega) (by omega) (by omega) fun h' tk hk => ⟨rfl, I.turnedL (t' := tk) (ch := [z, TI, TO, i1, i2, i3]) (fun c o hb q =>
      hk c o (fun q' => hb (by simp [q'])) (fun q' => hb (by simp [q'])) (fun q' => hb (by simp [q'])) (fun q' => hb (by simp [q'])) (fun q' => hb (by simp [q'])) q) hf⟩
  self := fun A i s Q E st h => wpAny_pyIter_zip st.1 h
def iZ3 (K : PySem.W.Frag) (ta : TA) : TI := fun σ H R => ta σ H fun vs H1 => ∃ v1 v2 v3 c1 c2 c3 xs ys zs, vs = [v1, v2, v3] ∧ Cmp.of c1 v1 ∧ Cmp.of c2 v2 ∧ Cmp.of c3 v3 ∧ Cmp.items K c1 H1 xs ∧ Cmp.items K c2 H1 ys ∧ Cmp.items K c3 H1 zs ∧ R (ItZ3 K c1 c2 c3) H1
theorem pi_z3 {X : Cx} {e e2 e3 : Expr} {ta : TA} {p pos tpos : Pos} {elts : List Expr} {kk : Nat} (hg : Gl X "zip") (hm : X.mg "zip" = none) (ha : PA X [e, e2, e3] ta)
    (hs : starEach [e, e2, e3] X.env = (false, eval e X.env) :: starEach [e2, e3] X.env := by rfl) (hpl : (backTo pos (starEach [e2, e3] X.env)).any (·.1) = false := by rfl) :
    PI X (.Tuple elts kk tpos) (.Call (.Name "zip" p) [e, e2, e3] [] pos) (iZ3 X.K ta) := by
  refine ⟨fun pins s σ H R I h => ?_⟩
  refine PyProof.Rows.Call_ (ld_blt I hg hm PyProof.Rows.boot_zip (PyProof.Rows.callWith_type1 (thn (ha.run pos pins s σ H _ I h) fun us s1 ⟨vs, H1, I1, r1, q1⟩ => ?_) hs hpl))
  obtain ⟨v1, v2, v3, c1, c2, c3, xs, ys, zs, ex, o1, o2, o3, hqx, hqy, hqz, q⟩ := q1
  subst ex
  cases r1 with
  | cons r rr =>
    cases rr with
    | cons r' rr =>
      cases rr with
      | cons r'' rr =>
        cases rr
        obtain ⟨ob1, Hh1, B1, b1, k1⟩ := cmp_begins I1 c1 hqx o1 r
        obtain ⟨ob2, Hh2, B2, b2, k2⟩ := cmp_begins I1 c2 hqy o2 r'
        obtain ⟨ob3, Hh3, B3, b3, k3⟩ := cmp_begins I1 c3 hqz o3 r''
        refine zip_begins3 B1 B2 B3 b1 b2 b3 fun h' hz hTI hTO g1 g2 g3 hsz hk => wpAny_pyIter_zip hz ?_
        have I2 : Inv X pins σ H1 { s1 with heap := h' } := I1.kept (t' := s1.toks) hk
        generalize hN : s1.heap.objs.size = N at *
        refine ⟨N + 5, [N + 5, N + 3, N + 4, N, N + 1, N + 2], _, ItZ3 X.K c1 c2 c3, H1, rfl, I2, turn_zip3 ⟨?_, ?_, ?_, ?_, ?_, ?_, ?_, ?_, ?_, ?_, ?_, ?_, ?_, ?_, ?_⟩, ⟨hz, hTI, ⟨_, _, _, hTO⟩, k1 _ _ g1, k2 _ _ g2, k3 _ _ g3⟩, fun c hcm => ?_, q⟩
        all_goals first
          | (show (_ : Nat) ≠ _; omega)
          | skip
        have hle : s1.heap.objs.size ≤ c := by
          rw [hN]
          have e' : c = N + 5 ∨ c = N + 3 ∨ c = N + 4 ∨ c = N ∨ c = N + 1 ∨ c = N + 2 := by simpa using hcm
          rcases e' with z | z | z | z | z | z <;> rw [z] <;> show N ≤ (_ : Nat) <;> omega
        exact I1.fpOk hle (I1.hok.fresh hle)

/-! ### enumerate -/
def ItE (K : PySem.W.Frag) (C : Cmp) : It :=
  ⟨fun i H => ∃ (xs : List V), C.items K H xs ∧ i < xs.length,
    fun i H v H' => ∃ T x, v = .ref T ∧ H T = none ∧ H' = upd H T (.tup [.int (i : Nat), x]) ∧ ∀ xs, C.items K H xs → xs[i]? = some x,
    fun i H => ∃ xs : List V, C.items K H xs ∧ i = xs.length⟩
theorem turn_en {P : Program} {w : World} {K : PySem.W.Frag} {elts : List Expr} {kk : Nat} {tpos : Pos} {C : Cmp} (e it : Addr) (hne : e ≠ it) :
    Turn P w K (.Tuple elts kk tpos) (ItE K C) [e, it] e (fun i h => (∃ old, IsEnum h e it ((i : Nat) : Int) old) ∧ C.st it i h) where
  mem := by simp
  obj := fun i h st b hb => by
    obtain ⟨⟨old, he⟩, hi⟩ := st
    have e' : b = e ∨ b = it := by simpa using hb
    rcases e' with z | z
    · rw [z]; exact ⟨_, he, fun v q => nomatch q⟩
    · rw [z]; exact Cmp.st_obj hi
  keep := fun i h h' st k => let ⟨⟨old, he⟩, hi⟩ := st; ⟨⟨old, k e (by simp) _ he⟩, Cmp.st_at hi fun o q => k it (by simp) o q⟩
  item := by
    intro X hP hw hK hc i pins s σ H E I hf st hg
    subst hP hw hK
    obtain ⟨⟨old, he⟩, hit⟩ := st
    obtain ⟨xs, hq, hx⟩ := hg
    obtain ⟨fp1, n1, P1, St1, D1, m1, f1, s1, l1, p1, b1⟩ := cmp_draws I hc C hq hit (hf it (by simp))
    have hel : e < s.heap.objs.size := Heap.lt_size he
    have hef : e ∉ fp1 := fun hm => (f1 e hm).elim hne fun n => n e (hf e (by simp)) rfl
    refine wpAny_pyNext_enum_itemD D1 he s1 (by omega) hne hef fun u h' tk hP1 ho hit' hT hsz hk => ?_
    obtain ⟨x, hx', ru⟩ := p1 _ _ hP1
    refine ⟨_, rfl, wpAny_letOwnedTupleGo_enum (s := { s with heap := h', toks := tk + 1 }) ho fun h'' he' sb => ?_⟩
    have hT2 : h''.get? s.heap.objs.size = some { cls := .type "tuple", data := .seq #[.int i tk, u] } := (sb.2 _ (Nat.ne_of_gt hel)).trans hT
    have new : ObjOk X.prog X.w (upd H s.heap.objs.size (.tup [.int (i : Nat), x])) h'' s.heap.objs.size (.tup [.int (i : Nat), x]) :=
      ⟨by show 2 ≤ sizeLine; decide, [.int i tk, u], .cons ⟨_, rfl⟩ (.cons ru .nil), ⟨_, hT2, rfl, _, rfl⟩⟩
    have I1 : Inv X pins σ (upd H s.heap.objs.size (.tup [.int (i : Nat), x])) { s with heap := h'', toks := tk + 1 } :=
      I.turnedNew (t' := tk + 1) (ch := [e, it]) (fun b ob hb q => (sb.2 b (fun z => hb (by simp [z]))).trans (hk b ob (fun z => hb (by simp [z])) (fun z => hb (by simp [z])) q)) hf (Nat.le_refl _) new
    refine ⟨.ref s.heap.objs.size, _, I1, rfl, ⟨_, x, rfl, I.hok.fresh (Nat.le_refl _), rfl, fun ys hy => by rw [Cmp.inj I hy hq]; exact hx'⟩, ⟨⟨u, ?_⟩, Cmp.st_at (b1 _ _ hit') fun o q => (sb.2 it (Ne.symm hne)).trans q⟩, fun b hb => ?_⟩
    · have e1 : ((i + 1 : Nat) : Int) = (i : Int) + 1 := by omega
      rw [e1]; exact he'
    · have hb' : b < s.heap.objs.size := by
        have e' : b = e ∨ b = it := by simpa using hb
        rcases e' with z | z
        · rw [z]; exact hel
        · rw [z]; exact st_lt hit
      rw [upd_ne (Nat.ne_of_lt hb')]
      exact (hf b hb).1
  done := by
    intro X hP hw hK hc i pins s σ H E I hf st hg
    subst hP hw hK
    obtain ⟨⟨old, he⟩, hit⟩ := st
    obtain ⟨xs, hq, hx⟩ := hg
    obtain ⟨fp1, n1, P1, St1, D1, m1, f1, s1, l1, p1, b1⟩ := cmp_draws I hc C hq hit (hf it (by simp))
    obtain ⟨f0, f1, f2, f3, f4, f5⟩ := hf it (by simp)
    have s1' : St1 n1 s.heap := by rw [l1, ← hx]; exact s1
    exact wpAny_pyNext_enum_endD D1 he s1' fun h' eb => ⟨rfl, I.turned (t' := s.toks) (fun b o hb q => eb b o hb q) f0 f1 f3 f4 f5⟩
  self := fun A i s Q E st h => let ⟨⟨_, he⟩, _⟩ := st; wpAny_pyIter_enum he h
set_option maxHeartbeats 1000000 in
theorem meets_enum1 {v : Value} {o : Obj} {H : Heap → Prop} (B : Begins v o H) :
    Meets (Builtin.«enumerate.__new__» ⟨[.type "enumerate", v], []⟩) (fun _ R s => H s.heap ∧
      R (.ok (.ret (.ref (s.heap.push o).objs.size))) { s with heap := (s.heap.push o).push { cls := .type "enumerate", data := .fields #[.none, .bool false, .ref s.heap.objs.size, rawInt 0, .none, .none] } }) :=
  .of_wp fun prog w A R s h => by
    obtain ⟨hp, g, d, tk, os⟩ := s; obtain ⟨h1, h⟩ := h
    have hsub := sub_enumerate
    have q1 : ∀ {A' : Around} {E : Value → Shared → Prop} {Q : Value → Shared → Prop}, Q (.ref hp.objs.size) ⟨hp.push o, g, d, tk, os⟩ → wpAny (model prog w) A' (pyIter v) Q E ⟨hp, g, d, tk, os⟩ :=
      fun q => B.iter prog w _ _ ⟨hp, g, d, tk, os⟩ _ h1 q
    wp_walk using q1
    refine wpAny_stack_any fun st => wpAny_pure ?_
    split
    · rename_i c _ _ _ _ _
      cases (c == Value.type "enumerate")
      · wp_walk using q1
        exact ⟨_, rfl, h⟩
      · wp_walk using q1
        exact ⟨_, rfl, h⟩
    · wp_walk using q1
      exact ⟨_, rfl, h⟩
section
variable {prog : Program} {w : World} {A : Around} {E : Value → Shared → Prop} {s : Shared}
theorem enum_begins1 {v : Value} {o : Obj} {H : Heap → Prop} {Q : Value → Shared → Prop} (B : Begins v o H) (h1 : H s.heap)
    (h : ∀ h', IsEnum h' (s.heap.objs.size + 1) s.heap.objs.size 0 .none → h'.get? s.heap.objs.size = some o → h'.objs.size = s.heap.objs.size + 2 →
      (∀ b o, s.heap.get? b = some o → h'.get? b = some o) → Q (.ref (s.heap.objs.size + 1)) { s with heap := h' }) :
    wpAny (model prog w) A (call (.type "enumerate") [v]) Q E s := by
  refine callType_new F.called_enumerate (by decide) (F.typeCall_enumerate_1 _) (F.newCall_enumerate_1 _) (fun obj => F.args_object_init_2 obj _) F.entry_enumerate_new
    (meets_enum1 B) ⟨h1, ?_⟩
  have hz : (s.heap.push o).objs.size = s.heap.objs.size + 1 := Heap.size_push ..
  show _ ∧ _
  rw [hz]
  have he : IsEnum ((s.heap.push o).push { cls := .type "enumerate", data := .fields #[.none, .bool false, .ref s.heap.objs.size, rawInt 0, .none, .none] }) (s.heap.objs.size + 1) s.heap.objs.size 0 .none := by
    have := Heap.get?_push_size (s.heap.push o) (o := { cls := .type "enumerate", data := .fields #[.none, .bool false, .ref s.heap.objs.size, rawInt 0, .none, .none] }) rfl
    rw [hz] at this; exact this
  refine ⟨⟨_, he, rfl⟩, h _ he (Heap.get?_push_of_some _ (Heap.get?_push_size _ B.free)) (by rw [Heap.size_push, hz]) fun b o x => Heap.get?_push_of_some _ (Heap.get?_push_of_some _ x)⟩
end
def iEn (K : PySem.W.Frag) (ta : TA) : TI := fun σ H R => ta σ H fun vs H1 => ∃ v C xs, vs = [v] ∧ Cmp.of C v ∧ Cmp.items K C H1 xs ∧ R (ItE K C) H1
theorem pi_en {X : Cx} {e : Expr} {ta : TA} {p pos tpos : Pos} {elts : List Expr} {kk : Nat} (hg : Gl X "enumerate") (hm : X.mg "enumerate" = none) (ha : PA X [e] ta) (hs : starEach [e] X.env = [(false, eval e X.env)] := by rfl) :
    PI X (.Tuple elts kk tpos) (.Call (.Name "enumerate" p) [e] [] pos) (iEn X.K ta) := by
  refine ⟨fun pins s σ H R I h => ?_⟩
  refine PyProof.Rows.Call_ (ld_blt I hg hm PyProof.Rows.boot_enumerate (PyProof.Rows.callWith_type1 (thn (ha.run pos pins s σ H _ I h) fun us s1 ⟨vs, H1, I1, r1, q1⟩ => ?_) hs rfl))
  obtain ⟨v, C, xs, ex, o1, hq, q⟩ := q1
  subst ex
  cases r1 with
  | cons r rr =>
    cases rr
    obtain ⟨ob1, Hh1, B1, b1, k1⟩ := cmp_begins I1 C hq o1 r
    refine enum_begins1 B1 b1 fun h' he hit hsz hk => wpAny_pyIter_enum he ?_
    have I2 : Inv X pins σ H1 { s1 with heap := h' } := I1.kept (t' := s1.toks) hk
    refine ⟨s1.heap.objs.size + 1, [s1.heap.objs.size + 1, s1.heap.objs.size], _, _, H1, rfl, I2, turn_en (s1.heap.objs.size + 1) s1.heap.objs.size (Nat.succ_ne_self _), ⟨⟨.none, he⟩, k1 _ _ hit⟩, fun b hb => ?_, q⟩
    have e' : b = s1.heap.objs.size + 1 ∨ b = s1.heap.objs.size := by simpa using hb
    have hle : s1.heap.objs.size ≤ b := by
      rcases e' with z | z
      · rw [z]; exact Nat.le_add_right _ _
      · rw [z]; exact Nat.le_refl _
    exact I1.fpOk hle (I1.hok.fresh hle)
end Y

end
section
set_option Elab.async false
set_option linter.all false
set_option maxRecDepth 100000
set_option autoImplicit false
/-! Y15: sources: zip, enumerate, range. -/
namespace Y
open PySem L2

mutual
theorem frz2 : ∀ d : D, frz (frz d) = frz d
  | .lst o xs => by show D.lst false (frz.frzL (frz.frzL xs)) = D.lst false (frz.frzL xs); rw [frzL2 xs]
  | .dct o kvs => by show D.dct false (frz.frzP (frz.frzP kvs)) = D.dct false (frz.frzP kvs); rw [frzP2 kvs]
  | .set _ _ => rfl
  | .non => rfl
  | .bl _ => rfl
  | .int _ => rfl
  | .str _ => rfl
  | .tup _ => rfl
  | .exn _ _ => rfl
theorem frzL2 : ∀ ds : List D, frz.frzL (frz.frzL ds) = frz.frzL ds
  | [] => rfl
  | d :: ds => by show frz (frz d) :: frz.frzL (frz.frzL ds) = frz d :: frz.frzL ds; rw [frz2 d, frzL2 ds]
theorem frzP2 : ∀ ds : List (D × D), frz.frzP (frz.frzP ds) = frz.frzP ds
  | [] => rfl
  | (k, d) :: ds => by show (k, frz (frz d)) :: frz.frzP (frz.frzP ds) = (k, frz d) :: frz.frzP ds; rw [frz2 d, frzP2 ds]
end
theorem chill2 (d : D) : chill (chill d) = chill d := by
  cases d with
  | lst o xs => show D.lst o (frz.frzL (frz.frzL xs)) = _; rw [frzL2]; rfl
  | dct o kvs => show D.dct o (frz.frzP (frz.frzP kvs)) = _; rw [frzP2]; rfl
  | _ => rfl

section
variable {X : Cx} {W : WX} {xr : (Addr → Prop) → Hp → D → Value → Option Addr → Prop} {c : Ctx} {pos : Pos} {tg : Expr}
variable {K : PySem.W.Frag} {Av Av0 Av1 Av2 Av' : Addr → Prop} {H H0 H1 H2 H' : Hp} {φ φ0 φ1 φ2 φ' : Nat → List Addr} {lock lock' : List Nat} {σ σ' : St} {ρ ρ' : Env} {F G own : List Addr} {v : V} {d : D} {vs : List V} {ds xs ys zs : List D} {C c1 c2 c3 : Cmp}

/-- got slots hold what was got -/
theorem gC_keep {o : Opd} {i : Nat} {d' : D} (h : gC o c ρ = .ok d ρ') (hi : ρ[i]? = some (some (chill d'))) : ρ'[i]? = some (some (chill d')) := by
  cases o with
  | val d0 =>
    have h' : Rs.ok (chill d0) ρ = .ok d ρ' := h
    cases h'
    exact hi
  | slot j =>
    have h' : (match ρ[j]? with | some (some d) => Rs.ok (chill d) (ρ.set j (some (chill d))) | _ => .bad) = .ok d ρ' := h
    cases q : ρ[j]? with
    | none => rw [q] at h'; cases h'
    | some x =>
      cases x with
      | none => rw [q] at h'; cases h'
      | some d0 =>
        rw [q] at h'
        cases h'
        by_cases z : j = i
        · subst z
          rw [q] at hi
          cases hi
          rw [List.getElem?_set_self (get_lt q), chill2]
        · rw [List.getElem?_set_ne z]; exact hi
theorem gC_slot {i : Nat} (h : gC (.slot i) c ρ = .ok d ρ') : ρ'[i]? = some (some d) ∧ chill d = d := by
  have h' : (match ρ[i]? with | some (some d) => Rs.ok (chill d) (ρ.set i (some (chill d))) | _ => .bad) = .ok d ρ' := h
  cases q : ρ[i]? with
  | none => rw [q] at h'; cases h'
  | some x =>
    cases x with
    | none => rw [q] at h'; cases h'
    | some d0 =>
      rw [q] at h'
      cases h'
      exact ⟨List.getElem?_set_self (get_lt q), chill2 _⟩
theorem gets_keep {i : Nat} {d' : D} : ∀ {os : List Opd} {ρ ρ' : Env} {ds : List D}, gets gC os c ρ = .ok ds ρ' → ρ[i]? = some (some (chill d')) → ρ'[i]? = some (some (chill d'))
  | [], _, _, _, h, hi => by
    have h' : Rs.ok [] _ = .ok _ _ := h
    cases h'
    exact hi
  | o :: os, _, _, _, h, hi => by
    obtain ⟨d, ρ1, q, h⟩ := bnd_ok (m := gC o) h
    obtain ⟨ds2, ρ2, q2, h⟩ := bnd_ok (m := gets gC os) h
    cases h
    exact gets_keep q2 (gC_keep q hi)
theorem gets_slot : ∀ {os : List Opd} {ρ ρ' : Env} {ds : List D} {j i : Nat}, gets gC os c ρ = .ok ds ρ' → os[j]? = some (.slot i) → ∃ d, ds[j]? = some d ∧ ρ'[i]? = some (some d)
  | [], _, _, _, _, _, _, h => by simp at h
  | o :: os, _, _, _, j, i, h, hi => by
    obtain ⟨d, ρ1, q, h⟩ := bnd_ok (m := gC o) h
    obtain ⟨ds2, ρ2, q2, h⟩ := bnd_ok (m := gets gC os) h
    cases h
    cases j with
    | zero =>
      have e : o = .slot i := by simpa using hi
      subst e
      obtain ⟨h1, h2⟩ := gC_slot q
      refine ⟨d, rfl, ?_⟩
      have := gets_keep (d' := d) q2 (by rw [h2]; exact h1)
      rwa [h2] at this
    | succ j =>
      obtain ⟨d', h1, h2⟩ := gets_slot (j := j) q2 (by simpa using hi)
      exact ⟨d', by simpa using h1, h2⟩
theorem gets_val : ∀ {os : List Opd} {ρ ρ' : Env} {ds : List D} {j : Nat} {d0 : D}, gets gC os c ρ = .ok ds ρ' → os[j]? = some (.val d0) → ds[j]? = some (chill d0)
  | [], _, _, _, _, _, _, h => by simp at h
  | o :: os, _, _, _, j, d0, h, hi => by
    obtain ⟨d, ρ1, q, h⟩ := bnd_ok (m := gC o) h
    obtain ⟨ds2, ρ2, q2, h⟩ := bnd_ok (m := gets gC os) h
    cases h
    cases j with
    | zero =>
      have e : o = .val d0 := by simpa using hi
      subst e
      have h' : Rs.ok (chill d0) _ = .ok d ρ1 := q
      cases h'
      rfl
    | succ j => simpa using gets_val (j := j) q2 (by simpa using hi)
theorem RepOL.at : ∀ {os : List Opd} {vs : List V} {F : List Addr} {j : Nat} {v : V}, RepOL K Av H σ F vs os → vs[j]? = some v → ∃ o G, os[j]? = some o ∧ RepO K Av H σ G v o ∧ ∀ a ∈ G, a ∈ F
  | _, _, _, _, _, .nil, h => by simp at h
  | _, _, _, 0, _, .cons (F := F1) r t, h => by
    simp at h
    subst h
    exact ⟨_, F1, rfl, r, fun a ha => List.mem_append_left _ ha⟩
  | _, _, _, j + 1, _, .cons r t, h => by
    obtain ⟨o, G, h1, h2, h3⟩ := RepOL.at (j := j) t (by simpa using h)
    exact ⟨o, G, by simpa using h1, h2, fun a ha => List.mem_append_right _ (h3 a ha)⟩
def locks (os : List Opd) : List Nat := os.flatMap lockOf
/-- where a got list that is owned is owned -/
theorem got_own {os : List Opd} {j : Nat} {a : Addr} {ow : Bool} (e : EnvR K Av H σ ρ φ) (e1 : EnvR K Av1 H σ ρ' φ1) (l1 : ∀ a, Av1 a → Av a) (r : RepOL K Av H σ F vs os) (q : gets gC os c ρ = .ok ds ρ') (hv : vs[j]? = some (.ref a)) (hd : ds[j]? = some (.lst ow xs)) (ha : Av1 a) :
    (a ∈ F ∨ ∃ i ∈ locks os, a ∈ φ1 i) ∨ ∃ vs', SqL K (fun _ => none) a vs' ∧ RepL K Av1 H [] vs' xs := by
  obtain ⟨o, G, ho, ro, hG⟩ := r.at hv
  cases o with
  | slot i =>
    obtain ⟨d, h1, h2⟩ := gets_slot q ho
    rw [hd] at h1; cases h1
    obtain ⟨w, hw, rw'⟩ := e1.rep i _ h2
    rw [ro.1] at hw; cases hw
    generalize hφ : φ1 i = Fi at rw'
    cases rw' with
    | lstF _ n _ => exact absurd ha n
    | lstK k1 k3 => exact .inr ⟨_, k1, k3⟩
    | lstO _ _ _ _ _ => exact .inl (.inr ⟨i, List.mem_flatMap.mpr ⟨_, List.mem_of_getElem? ho, by simp [lockOf]⟩, by rw [hφ]; exact List.mem_cons_self⟩)
  | val d0 =>
    have h1 := gets_val q ho
    rw [hd] at h1
    have h1 : D.lst ow xs = chill d0 := Option.some.inj h1
    have r0 : Rep K Av H G (.ref a) d0 := ro
    cases d0 with
    | lst ow' ds' =>
      have h2 : D.lst ow xs = D.lst ow' (frz.frzL ds') := h1
      cases h2
      cases r0 with
      | lstF _ n _ => exact absurd (l1 a ha) n
      | lstK k1 k3 => exact .inr ⟨_, k1, k3.frz l1 fun b h => nomatch h⟩
      | lstO _ _ _ _ _ => exact .inl (.inl (hG a List.mem_cons_self))
    | dct _ _ => cases r0
    | _ => cases h1

/-- a component stands for the trees -/
def Cmp.good (K : PySem.W.Frag) (own : List Addr) : Cmp → (Addr → Prop) → Hp → List D → Prop
  | .l a, Av, H, xs => ∃ vs, ((Rd H a (.lst vs) ∧ (Av a → a ∈ own)) ∨ SqL K (fun _ => none) a vs) ∧ RepL K Av H [] vs xs
  | .t a, Av, H, xs => ∃ vs, SqT K H a vs ∧ RepL K Av H [] vs xs
  | .s x, _, _, xs => xs = x.cps.toList.map fun c => D.str ⟨#[c]⟩
theorem rep_chars {cs : List Nat} : RepL K Av H [] (cs.map fun c => V.str ⟨#[c]⟩) (cs.map fun c => D.str ⟨#[c]⟩) := by
  induction cs with
  | nil => exact .nil
  | cons c cs ih => exact .cons (F := []) (G := []) (.str _) ih
theorem Cmp.good_items (h : C.good K own Av H xs) : ∃ vs, C.items K H vs ∧ RepL K Av H [] vs xs := by
  cases C with
  | l a => obtain ⟨vs, h1, h2⟩ := h; exact ⟨vs, h1.elim (fun z => .inl z.1) sql_any, h2⟩
  | t a => exact h
  | s x =>
    have h : xs = x.cps.toList.map fun c => D.str ⟨#[c]⟩ := h
    subst h
    exact ⟨_, rfl, rep_chars⟩
theorem Cmp.good_keep {T : Addr → Prop} (ok : AvOk Av H) (hT : ∀ a, T a → Av a) (k : ∀ a o, H a = some o → ¬ T a → H' a = some o) (av : ∀ a, Av' a → Av a ∨ H a = none) (n : ∀ a ∈ own, ¬ T a) (h : C.good K own Av H xs) : C.good K own Av' H' xs := by
  cases C with
  | l a =>
    obtain ⟨vs, h1, h2⟩ := h
    exact ⟨vs, h1.imp (fun ⟨h1, h3⟩ => ⟨rd_keep0 k h1 fun t => n a (h3 (hT a t)) t, fun z => by
      rcases av a z with z | z
      · exact h3 z
      · obtain ⟨o, e⟩ := rd_some h1
        rw [e] at z; cases z⟩) id, h2.keep0 ok hT k av rfl⟩
  | t a =>
    obtain ⟨vs, h1, h2⟩ := h
    exact ⟨vs, SqT.keep0 ok hT k h1, h2.keep0 ok hT k av rfl⟩
  | s x => exact h
theorem cmp_of_rep (r : RepC K Av H v d) (hi : items d = some xs) (ho : ∀ a ow zs, v = .ref a → d = .lst ow zs → Av a → a ∈ own ∨ ∃ vs', SqL K (fun _ => none) a vs' ∧ RepL K Av H [] vs' zs) : ∃ C : Cmp, C.of v ∧ C.good K own Av H xs := by
  cases r with
  | non => cases hi
  | bl b => cases hi
  | int i => cases hi
  | str s => cases hi; exact ⟨.s s, rfl, rfl⟩
  | @tup a vs ds h1 h2 => cases hi; rw [frzL_idem h2]; exact ⟨.t a, rfl, vs, h1, h2⟩
  | @lst a vs ds ow h1 h0 h2 =>
    cases hi
    rw [frzL_idem h2]
    refine ⟨.l a, rfl, ?_⟩
    by_cases hk : ∃ vs', SqL K (fun _ => none) a vs' ∧ RepL K Av H [] vs' ds
    · obtain ⟨vs', k1, k2⟩ := hk
      exact ⟨vs', .inr k1, k2⟩
    · refine ⟨vs, ?_, h2⟩
      rcases h1 with h1 | h1
      · exact .inl ⟨h1, fun z => (ho a ow ds rfl rfl z).resolve_right hk⟩
      · exact absurd ⟨vs, .inr h1, h2⟩ hk

/-! ### the walks -/
def zip2D (xs ys : List D) : List D := List.zipWith (fun x y => .tup [x, y]) xs ys
def zip3D : List D → List D → List D → List D
  | x :: xs, y :: ys, z :: zs => .tup [x, y, z] :: zip3D xs ys zs
  | _, _, _ => []
def enumD (xs : List D) : List D := xs.zipIdx.map fun p => .tup [.int (p.2 : Nat), p.1]
theorem zip3D_get : ∀ {xs ys zs : List D} {i : Nat}, (zip3D xs ys zs)[i]? = some d → ∃ x y z, xs[i]? = some x ∧ ys[i]? = some y ∧ zs[i]? = some z ∧ d = .tup [x, y, z]
  | [], _, _, _, h => by simp [zip3D] at h
  | _ :: _, [], _, _, h => by simp [zip3D] at h
  | _ :: _, _ :: _, [], _, h => by simp [zip3D] at h
  | x :: xs, y :: ys, z :: zs, 0, h => by
    simp [zip3D] at h
    exact ⟨x, y, z, rfl, rfl, rfl, h.symm⟩
  | x :: xs, y :: ys, z :: zs, i + 1, h => by
    simp only [zip3D, List.getElem?_cons_succ] at h
    simpa using zip3D_get h
theorem zip3D_len : ∀ {xs ys zs : List D}, (zip3D xs ys zs).length = min (min xs.length ys.length) zs.length
  | [], _, _ => by simp [zip3D]
  | _ :: _, [], _ => by simp [zip3D]
  | _ :: _, _ :: _, [] => by simp [zip3D]
  | x :: xs, y :: ys, z :: zs => by
    simp only [zip3D, List.length_cons]
    rw [zip3D_len]
    omega
theorem src_z2 : Src K (ItZ K c1 c2) (zip2D xs ys) own (fun Av H => c1.good K own Av H xs ∧ c2.good K own Av H ys) where
  go := fun Av H i d ⟨h1, h2⟩ ok e => by
    obtain ⟨x, y, ex, ey, rfl⟩ : ∃ x y, xs[i]? = some x ∧ ys[i]? = some y ∧ d = .tup [x, y] := by
      unfold zip2D at e
      rw [List.getElem?_zipWith] at e
      cases q1 : xs[i]? with
      | none => rw [q1] at e; cases e
      | some x =>
        cases q2 : ys[i]? with
        | none => rw [q1, q2] at e; cases e
        | some y => rw [q1, q2] at e; cases e; exact ⟨x, y, rfl, rfl, rfl⟩
    obtain ⟨v1, i1, r1⟩ := Cmp.good_items h1
    obtain ⟨v2, i2, r2⟩ := Cmp.good_items h2
    obtain ⟨a, ha, ra⟩ := r1.all2.get ex
    obtain ⟨b, hb, rb⟩ := r2.all2.get ey
    exact ⟨⟨v1, v2, i1, i2, get_lt ha, get_lt hb⟩, fun v H' ⟨T, x', y', e1, nT, e2, f1, f2⟩ => by
      subst e1; subst e2
      have q1 := Option.some.inj ((f1 _ i1).symm.trans ha)
      have q2 := Option.some.inj ((f2 _ i2).symm.trans hb)
      subst q1; subst q2
      exact ⟨Grow.tup ok nT, Rep.newTup ok nT (.cons (F := []) (G := []) ra (.cons (F := []) (G := []) rb .nil))⟩⟩
  stop := fun Av H ⟨h1, h2⟩ => by
    obtain ⟨v1, i1, r1⟩ := Cmp.good_items h1
    obtain ⟨v2, i2, r2⟩ := Cmp.good_items h2
    have l1 := r1.length
    have l2 := r2.length
    refine ⟨v1, v2, i1, i2, ?_⟩
    unfold zip2D
    rw [List.length_zipWith, l1, l2]
    omega
  keep := fun Av Av' H H' T ok hT k av n ⟨h1, h2⟩ => ⟨Cmp.good_keep ok hT k av n h1, Cmp.good_keep ok hT k av n h2⟩
theorem src_z3 : Src K (ItZ3 K c1 c2 c3) (zip3D xs ys zs) own (fun Av H => c1.good K own Av H xs ∧ c2.good K own Av H ys ∧ c3.good K own Av H zs) where
  go := fun Av H i d ⟨h1, h2, h3⟩ ok e => by
    obtain ⟨x, y, z, ex, ey, ez, rfl⟩ := zip3D_get e
    obtain ⟨v1, i1, r1⟩ := Cmp.good_items h1
    obtain ⟨v2, i2, r2⟩ := Cmp.good_items h2
    obtain ⟨v3, i3, r3⟩ := Cmp.good_items h3
    obtain ⟨a, ha, ra⟩ := r1.all2.get ex
    obtain ⟨b, hb, rb⟩ := r2.all2.get ey
    obtain ⟨u, hu, ru⟩ := r3.all2.get ez
    exact ⟨⟨v1, v2, v3, i1, i2, i3, get_lt ha, get_lt hb, get_lt hu⟩, fun v H' ⟨T, x', y', z', e1, nT, e2, f1, f2, f3⟩ => by
      subst e1; subst e2
      have q1 := Option.some.inj ((f1 _ i1).symm.trans ha)
      have q2 := Option.some.inj ((f2 _ i2).symm.trans hb)
      have q3 := Option.some.inj ((f3 _ i3).symm.trans hu)
      subst q1; subst q2; subst q3
      exact ⟨Grow.tup ok nT, Rep.newTup ok nT (.cons (F := []) (G := []) ra (.cons (F := []) (G := []) rb (.cons (F := []) (G := []) ru .nil)))⟩⟩
  stop := fun Av H ⟨h1, h2, h3⟩ => by
    obtain ⟨v1, i1, r1⟩ := Cmp.good_items h1
    obtain ⟨v2, i2, r2⟩ := Cmp.good_items h2
    obtain ⟨v3, i3, r3⟩ := Cmp.good_items h3
    have l1 := r1.length
    have l2 := r2.length
    have l3 := r3.length
    refine ⟨v1, v2, v3, i1, i2, i3, ?_⟩
    rw [zip3D_len, l1, l2, l3]
    omega
  keep := fun Av Av' H H' T ok hT k av n ⟨h1, h2, h3⟩ => ⟨Cmp.good_keep ok hT k av n h1, Cmp.good_keep ok hT k av n h2, Cmp.good_keep ok hT k av n h3⟩
theorem src_en : Src K (ItE K C) (enumD xs) own (fun Av H => C.good K own Av H xs) where
  go := fun Av H i d h1 ok e => by
    obtain ⟨x, ex, rfl⟩ : ∃ x, xs[i]? = some x ∧ d = .tup [.int (i : Nat), x] := by
      unfold enumD at e
      rw [List.getElem?_map, List.getElem?_zipIdx] at e
      cases q : xs[i]? with
      | none => rw [q] at e; cases e
      | some x =>
        rw [q] at e
        simp at e
        exact ⟨x, rfl, e.symm⟩
    obtain ⟨v1, i1, r1⟩ := Cmp.good_items h1
    obtain ⟨a, ha, ra⟩ := r1.all2.get ex
    exact ⟨⟨v1, i1, get_lt ha⟩, fun v H' ⟨T, x', e1, nT, e2, f1⟩ => by
      subst e1; subst e2
      have q1 := Option.some.inj ((f1 _ i1).symm.trans ha)
      subst q1
      exact ⟨Grow.tup ok nT, Rep.newTup ok nT (.cons (F := []) (G := []) (.int _) (.cons (F := []) (G := []) ra .nil))⟩⟩
  stop := fun Av H h1 => by
    obtain ⟨v1, i1, r1⟩ := Cmp.good_items h1
    refine ⟨v1, i1, ?_⟩
    unfold enumD
    rw [List.length_map, List.length_zipIdx, r1.length]
  keep := fun Av Av' H H' T ok hT k av n h1 => Cmp.good_keep ok hT k av n h1

/-- over what is put together of values -/
def mWalk (f : List D → Option (List D)) (mos : M (List Opd)) : M Sr := bnd mos fun os => bnd (gets gC os) fun ds => ofO ((f ds).map fun xs => (xs, locks os))
def zA2 : List D → Option (List D)
  | [a, b] => match items a, items b with
    | some xs, some ys => some (zip2D xs ys)
    | _, _ => none
  | _ => none
def zA3 : List D → Option (List D)
  | [a, b, c] => match items a, items b, items c with
    | some xs, some ys, some zs => some (zip3D xs ys zs)
    | _, _, _ => none
  | _ => none
def eA : List D → Option (List D)
  | [a] => (items a).map enumD
  | _ => none
/-- what a walk over values wants -/
def rWalk (K : PySem.W.Frag) (f : List D → Option (List D)) (rd : List V → Hp → (It → Hp → Prop) → Prop) : Prop :=
  ∀ (Av : Addr → Prop) (H : Hp) (own : List Addr) (vs : List V) (ds xs : List D) (R : It → Hp → Prop), All2 (RepC K Av H) vs ds → f ds = some xs →
    (∀ (j : Nat) a ow zs, vs[j]? = some (.ref a) → ds[j]? = some (.lst ow zs) → Av a → a ∈ own ∨ ∃ vs', SqL K (fun _ => none) a vs' ∧ RepL K Av H [] vs' zs) →
    (∀ (J : It) (ok : (Addr → Prop) → Hp → Prop), Src K J xs own ok → ok Av H → R J H) → rd vs H R
theorem walk_fin {f : List D → Option (List D)} {rd : List V → Hp → (It → Hp → Prop) → Prop} {mos : M (List Opd)} {R : It → Hp → Prop} {g : Gd} (hw : rWalk g.K f rd) (h : RI g c (mWalk f mos) σ H R) : ROL g c mos σ H fun vs H1 => rd vs H1 R := by
  obtain ⟨Av, ρ, φ, e, h⟩ := h
  refine ⟨Av, ρ, φ, e, ?_⟩
  unfold mWalk at h
  cases q : mos c ρ with
  | bad => simp only [bnd, q] at h
  | exc x ρ' => simp only [bnd, q] at h; exact h
  | ok os ρ1 =>
    simp only [bnd, q] at h
    intro vs H1 Av1 φ1 F e1 r1 ap1 nd1 st1 og1
    cases q2 : gets gC os c ρ1 with
    | bad => simp only [q2] at h
    | exc x ρ' => exact absurd q2 gets_noexc
    | ok ds ρ2 =>
      simp only [q2] at h
      obtain ⟨Av2, φ2, e2, S2, c2, l2, p2⟩ := gets_ok st1 e.ok og1 e1 r1 nd1 ap1 q2
      cases q3 : f ds with
      | none => simp only [q3, ofO, Option.map_none] at h
      | some xs =>
        simp only [q3, ofO, Option.map_some] at h
        classical
        let G := F.filter fun a => decide (Av2 a)
        have hGF : ∀ a ∈ G, a ∈ F ∧ Av2 a := fun a ha => by
          have := List.mem_filter.mp ha
          exact ⟨this.1, by simpa using this.2⟩
        let own := (vs.filterMap fun v => match v with | .ref a => some a | _ => none).filter fun a => decide (a ∈ G ∨ ∃ i ∈ locks os, a ∈ φ2 i)
        refine hw Av2 H1 own vs ds xs R c2 q3 (fun j a ow zs hv hd ha => ?_) fun J ok src hok => ?_
        · rcases got_own e1 e2 l2 r1 q2 hv hd ha with z | z
          · refine .inl (List.mem_filter.mpr ⟨List.mem_filterMap.mpr ⟨_, List.mem_of_getElem? hv, rfl⟩, ?_⟩)
            rw [decide_eq_true_eq]
            exact z.imp (fun y => List.mem_filter.mpr ⟨y, by simpa using ha⟩) id
          · exact .inr z
        · refine h J H1 Av2 φ2 G own ok e2 src hok (fun a ha => ?_) (fun a ha => (hGF a ha).2) (fun a ha i z => ap1 a (hGF a ha).1 i (p2 i a z)) S2 fun a ha => og1 a (hGF a ha).1
          have := (List.mem_filter.mp ha).2
          simpa using this
theorem zA2_inv (h : zA2 ds = some zs) : ∃ d1 d2 x1 x2, ds = [d1, d2] ∧ items d1 = some x1 ∧ items d2 = some x2 ∧ zs = zip2D x1 x2 := by
  unfold zA2 at h
  split at h
  · split at h
    · cases h; exact ⟨_, _, _, _, rfl, by assumption, by assumption, rfl⟩
    · cases h
  · cases h
theorem zA3_inv (h : zA3 ds = some zs) : ∃ d1 d2 d3 x1 x2 x3, ds = [d1, d2, d3] ∧ items d1 = some x1 ∧ items d2 = some x2 ∧ items d3 = some x3 ∧ zs = zip3D x1 x2 x3 := by
  unfold zA3 at h
  split at h
  · split at h
    · cases h; exact ⟨_, _, _, _, _, _, rfl, by assumption, by assumption, by assumption, rfl⟩
    · cases h
  · cases h
theorem eA_inv (h : eA ds = some zs) : ∃ d1 x1, ds = [d1] ∧ items d1 = some x1 ∧ zs = enumD x1 := by
  unfold eA at h
  split at h
  · rename_i a
    cases q : items a with
    | none => rw [q] at h; cases h
    | some x1 => rw [q] at h; cases h; exact ⟨_, _, rfl, q, rfl⟩
  · cases h
theorem all2_cons {α β : Type} {R : α → β → Prop} {as : List α} {b : β} {bs : List β} (h : All2 R as (b :: bs)) : ∃ a as', as = a :: as' ∧ R a b ∧ All2 R as' bs := by
  cases h with
  | cons r t => exact ⟨_, _, rfl, r, t⟩
theorem all2_nil {α β : Type} {R : α → β → Prop} {as : List α} (h : All2 R as []) : as = [] := by
  cases h; rfl
theorem rw_z2 : rWalk K zA2 (fun vs H R => ∃ v1 v2 c1 c2 xs ys, vs = [v1, v2] ∧ Cmp.of c1 v1 ∧ Cmp.of c2 v2 ∧ Cmp.items K c1 H xs ∧ Cmp.items K c2 H ys ∧ R (ItZ K c1 c2) H) := by
  intro Av H own vs ds xs R r hf ho h
  obtain ⟨d1, d2, x1, x2, rfl, q1, q2, rfl⟩ := zA2_inv hf
  obtain ⟨v1, vs, rfl, r1, r⟩ := all2_cons r
  obtain ⟨v2, vs, rfl, r2, r⟩ := all2_cons r
  obtain rfl := all2_nil r
  obtain ⟨c1, o1, g1⟩ := cmp_of_rep (own := own) r1 q1 fun a ow zs e1 e2 ha => ho 0 a ow zs (by rw [e1]; rfl) (by rw [e2]; rfl) ha
  obtain ⟨c2, o2, g2⟩ := cmp_of_rep (own := own) r2 q2 fun a ow zs e1 e2 ha => ho 1 a ow zs (by rw [e1]; rfl) (by rw [e2]; rfl) ha
  obtain ⟨ys1, i1, _⟩ := Cmp.good_items g1
  obtain ⟨ys2, i2, _⟩ := Cmp.good_items g2
  exact ⟨v1, v2, c1, c2, ys1, ys2, rfl, o1, o2, i1, i2, h _ _ src_z2 ⟨g1, g2⟩⟩
theorem rw_z3 : rWalk K zA3 (fun vs H R => ∃ v1 v2 v3 c1 c2 c3 xs ys zs, vs = [v1, v2, v3] ∧ Cmp.of c1 v1 ∧ Cmp.of c2 v2 ∧ Cmp.of c3 v3 ∧ Cmp.items K c1 H xs ∧ Cmp.items K c2 H ys ∧ Cmp.items K c3 H zs ∧ R (ItZ3 K c1 c2 c3) H) := by
  intro Av H own vs ds xs R r hf ho h
  obtain ⟨d1, d2, d3, x1, x2, x3, rfl, q1, q2, q3, rfl⟩ := zA3_inv hf
  obtain ⟨v1, vs, rfl, r1, r⟩ := all2_cons r
  obtain ⟨v2, vs, rfl, r2, r⟩ := all2_cons r
  obtain ⟨v3, vs, rfl, r3, r⟩ := all2_cons r
  obtain rfl := all2_nil r
  obtain ⟨c1, o1, g1⟩ := cmp_of_rep (own := own) r1 q1 fun a ow zs e1 e2 ha => ho 0 a ow zs (by rw [e1]; rfl) (by rw [e2]; rfl) ha
  obtain ⟨c2, o2, g2⟩ := cmp_of_rep (own := own) r2 q2 fun a ow zs e1 e2 ha => ho 1 a ow zs (by rw [e1]; rfl) (by rw [e2]; rfl) ha
  obtain ⟨c3, o3, g3⟩ := cmp_of_rep (own := own) r3 q3 fun a ow zs e1 e2 ha => ho 2 a ow zs (by rw [e1]; rfl) (by rw [e2]; rfl) ha
  obtain ⟨ys1, i1, _⟩ := Cmp.good_items g1
  obtain ⟨ys2, i2, _⟩ := Cmp.good_items g2
  obtain ⟨ys3, i3, _⟩ := Cmp.good_items g3
  exact ⟨v1, v2, v3, c1, c2, c3, ys1, ys2, ys3, rfl, o1, o2, o3, i1, i2, i3, h _ _ src_z3 ⟨g1, g2, g3⟩⟩
theorem rw_en : rWalk K eA (fun vs H R => ∃ v C xs, vs = [v] ∧ Cmp.of C v ∧ Cmp.items K C H xs ∧ R (ItE K C) H) := by
  intro Av H own vs ds xs R r hf ho h
  obtain ⟨d1, x1, rfl, q1, rfl⟩ := eA_inv hf
  obtain ⟨v1, vs, rfl, r1, r⟩ := all2_cons r
  obtain rfl := all2_nil r
  obtain ⟨c1, o1, g1⟩ := cmp_of_rep (own := own) r1 q1 fun a ow zs e1 e2 ha => ho 0 a ow zs (by rw [e1]; rfl) (by rw [e2]; rfl) ha
  obtain ⟨ys1, i1, _⟩ := Cmp.good_items g1
  exact ⟨v1, c1, ys1, rfl, o1, i1, h _ _ src_en g1⟩
theorem i_zip2 {e e2 : Expr} {mos : M (List Opd)} {p tpos : Pos} {elts : List Expr} {kk : Nat} (hm : X.mg "zip" = none) (ha : PA X [e, e2] (ROL (Cx.gd X W xr) c mos)) (hg : Gl X "zip" := by rfl)
    (hs : starEach [e, e2] X.env = (false, eval e X.env) :: starEach [e2] X.env := by rfl) (hpl : (backTo pos (starEach [e2] X.env)).any (·.1) = false := by rfl) :
    PI X (.Tuple elts kk tpos) (.Call (.Name "zip" p) [e, e2] [] pos) (RI (Cx.gd X W xr) c (mWalk zA2 mos)) := PI.weak (pi_z2 hg hm ha hs hpl) fun _ _ _ h => walk_fin rw_z2 h
theorem i_zip3 {e e2 e3 : Expr} {mos : M (List Opd)} {p tpos : Pos} {elts : List Expr} {kk : Nat} (hm : X.mg "zip" = none) (ha : PA X [e, e2, e3] (ROL (Cx.gd X W xr) c mos)) (hg : Gl X "zip" := by rfl)
    (hs : starEach [e, e2, e3] X.env = (false, eval e X.env) :: starEach [e2, e3] X.env := by rfl) (hpl : (backTo pos (starEach [e2, e3] X.env)).any (·.1) = false := by rfl) :
    PI X (.Tuple elts kk tpos) (.Call (.Name "zip" p) [e, e2, e3] [] pos) (RI (Cx.gd X W xr) c (mWalk zA3 mos)) := PI.weak (pi_z3 hg hm ha hs hpl) fun _ _ _ h => walk_fin rw_z3 h
theorem i_enum {e : Expr} {mos : M (List Opd)} {p tpos : Pos} {elts : List Expr} {kk : Nat} (hm : X.mg "enumerate" = none) (ha : PA X [e] (ROL (Cx.gd X W xr) c mos)) (hg : Gl X "enumerate" := by rfl)
    (hs : starEach [e] X.env = [(false, eval e X.env)] := by rfl) :
    PI X (.Tuple elts kk tpos) (.Call (.Name "enumerate" p) [e] [] pos) (RI (Cx.gd X W xr) c (mWalk eA mos)) := PI.weak (pi_en hg hm ha hs) fun _ _ _ h => walk_fin rw_en h

/-! ### range -/
def rngD (lo hi : Int) : List D := (List.range (hi - lo).toNat).map fun (k : Nat) => D.int (lo + k)
def fit62 (i : Int) : Bool := decide (-(2 ^ 62) ≤ i) && decide (i < 2 ^ 62)
def mRng1 (ms : M (List D)) : M Sr := bnd ms fun ds => match ds with
  | [.int j] => if fit62 j = true then pur (rngD 0 j, []) else bad
  | _ => bad
def mRng2 (ms : M (List D)) : M Sr := bnd ms fun ds => match ds with
  | [.int i, .int j] => if (fit62 i && fit62 j) = true then pur (rngD i j, []) else bad
  | _ => bad
theorem fit_iff {i : Int} (h : fit62 i = true) : -(2 ^ 62) ≤ i ∧ i < 2 ^ 62 := by
  unfold fit62 at h
  simpa using h
theorem rvl_int {i : Int} {F : List Addr} {vs : List V} {ds : List D} (h : RepL K Av H F vs (.int i :: ds)) : ∃ vs', vs = .int i :: vs' ∧ ∃ F', RepL K Av H F' vs' ds := by
  cases h with
  | cons h1 h2 => cases h1; exact ⟨_, rfl, _, h2⟩
theorem i_range1 {a : Expr} {p : Pos} {ms : M (List D)} (hm : X.mg "range" = none) (ha : PA X [a] (RVL (Cx.gd X W xr) c ms)) (hg : Gl X "range" := by rfl) (hs : starEach [a] X.env = [(false, eval a X.env)] := by rfl) :
    PI X tg (.Call (.Name "range" p) [a] [] pos) (RI (Cx.gd X W xr) c (mRng1 ms)) := by
  refine PI.weak (pi_range1 hg hm ha hs) fun σ H R ⟨Av, ρ, φ, e, h⟩ => ⟨Av, ρ, φ, e, ?_⟩
  unfold mRng1 at h
  cases q : ms c ρ with
  | bad => simp only [bnd, q] at h
  | exc x ρ' => simp only [bnd, q] at h; exact h
  | ok ds ρ1 =>
    simp only [bnd, q] at h
    intro vs H1 Av1 φ1 F e1 r1 ap1 nd1 st1 og1
    match ds, r1, h with
    | [.int j], r1, h =>
      dsimp only at h
      by_cases hf : fit62 j = true
      · rw [if_pos hf] at h
        obtain ⟨vs', rfl, F', r2⟩ := rvl_int r1
        cases r2
        obtain ⟨h1, h2⟩ := fit_iff hf
        refine ⟨j, rfl, h1, h2, ?_⟩
        have hs : Src X.K (Itr 0 j.toNat) (rngD 0 j) [] (fun _ _ => True) := by
          unfold rngD
          rw [Int.sub_zero]
          exact src_rng
        exact h _ H1 (fun a => Av1 a ∧ a ∉ F) φ1 [] [] _ (e1.lessA (fun a h => h.1) fun i a h => ⟨e1.own h, fun z => ap1 a z i h⟩) hs trivial (fun a h => nomatch h) (fun a h => nomatch h) Apart.nil (st1.drop og1 e.ok (fun a h => h.1) fun a h n => ⟨h, n⟩) OrgG.nil
      · rw [if_neg hf] at h; exact h.elim
theorem i_range2 {a b : Expr} {p : Pos} {ms : M (List D)} (hm : X.mg "range" = none) (ha : PA X [a, b] (RVL (Cx.gd X W xr) c ms)) (hg : Gl X "range" := by rfl) (hs : starEach [a, b] X.env = [(false, eval a X.env), (false, eval b X.env)] := by rfl) (hs2 : starEach [b] X.env = [(false, eval b X.env)] := by rfl) :
    PI X tg (.Call (.Name "range" p) [a, b] [] pos) (RI (Cx.gd X W xr) c (mRng2 ms)) := by
  refine PI.weak (pi_range2 hg hm ha hs hs2) fun σ H R ⟨Av, ρ, φ, e, h⟩ => ⟨Av, ρ, φ, e, ?_⟩
  unfold mRng2 at h
  cases q : ms c ρ with
  | bad => simp only [bnd, q] at h
  | exc x ρ' => simp only [bnd, q] at h; exact h
  | ok ds ρ1 =>
    simp only [bnd, q] at h
    intro vs H1 Av1 φ1 F e1 r1 ap1 nd1 st1 og1
    match ds, r1, h with
    | [.int i, .int j], r1, h =>
      dsimp only at h
      by_cases hf : (fit62 i && fit62 j) = true
      · rw [if_pos hf] at h
        obtain ⟨vs', rfl, F', r2⟩ := rvl_int r1
        obtain ⟨vs', rfl, F', r2⟩ := rvl_int r2
        cases r2
        rw [Bool.and_eq_true] at hf
        obtain ⟨h1, h2⟩ := fit_iff hf.1
        obtain ⟨h3, h4⟩ := fit_iff hf.2
        refine ⟨i, j, rfl, ⟨h1, h2, h3, h4⟩, ?_⟩
        exact h _ H1 (fun a => Av1 a ∧ a ∉ F) φ1 [] [] _ (e1.lessA (fun a h => h.1) fun i a h => ⟨e1.own h, fun z => ap1 a z i h⟩) src_rng trivial (fun a h => nomatch h) (fun a h => nomatch h) Apart.nil (st1.drop og1 e.ok (fun a h => h.1) fun a h n => ⟨h, n⟩) OrgG.nil
      · rw [if_neg hf] at h; exact h.elim
end
end Y

end
section
set_option Elab.async false
set_option linter.all false
set_option maxRecDepth 100000
set_option autoImplicit false
/-! Y16: defs by their meanings; the law. -/
namespace Y
open PySem L2

/-- what of the arguments goes back -/
def outs : List Bool → Env → List (Option D)
  | [], _ => []
  | b :: bs, o :: ρ => (match b with | true => o | false => none) :: outs bs ρ
  | _ :: bs, [] => none :: outs bs []
def protOf : List Bool → Nat → List Nat
  | [], _ => []
  | true :: bs, i => i :: protOf bs (i + 1)
  | false :: bs, i => protOf bs (i + 1)
theorem outs_len : ∀ (bs : List Bool) (ρ : Env), (outs bs ρ).length = bs.length
  | [], _ => rfl
  | b :: bs, o :: ρ => by simp [outs, outs_len bs ρ]
  | b :: bs, [] => by simp [outs, outs_len bs []]
theorem outs_get : ∀ (bs : List Bool) (ρ : Env) (i : Nat) (d : D) (k : Nat), (outs bs ρ)[i]? = some (some d) → ρ[i]? = some (some d) ∧ i + k ∈ protOf bs k
  | [], _, _, _, _, h => by simp [outs] at h
  | b :: bs, [], i, d, k, h => by
    cases i with
    | zero => simp [outs] at h
    | succ i => have := (outs_get bs [] i d (k + 1) (by simpa [outs] using h)).1; simp at this
  | b :: bs, o :: ρ, 0, d, k, h => by
    cases b with
    | true =>
      simp [outs] at h
      subst h
      exact ⟨rfl, by simp [protOf]⟩
    | false => simp [outs] at h
  | b :: bs, o :: ρ, i + 1, d, k, h => by
    obtain ⟨h1, h2⟩ := outs_get bs ρ i d (k + 1) (by simpa [outs] using h)
    refine ⟨by simpa using h1, ?_⟩
    have e : i + 1 + k = i + (k + 1) := by omega
    rw [e]
    cases b with
    | true => exact List.mem_cons_of_mem _ h2
    | false => exact h2
def L2St (n : Nat) (vs : List V) : St := vs.map some ++ List.replicate n none
/-- a def's meaning by its body's: N slots, prs which arguments go back -/
def runF (N : Nat) (prs : List Bool) (m : M Fl) (ds : List D) : Fo := match m ⟨protOf prs 0, []⟩ (ds.map some ++ List.replicate (N - ds.length) none) with
  | .ok .nx ρ => .ok .non (outs prs ρ)
  | .ok (.ret d) ρ => .ok d (outs prs ρ)
  | .exc e ρ => .exc e (outs prs ρ)
  | _ => .bad

section
variable {P : Program} {w : World} {K : PySem.W.Frag} {mg : Str → Option Value} {base : Heap} {xr : (Addr → Prop) → Hp → D → Value → Option Addr → Prop}
variable {Av Av' : Addr → Prop} {H H' : Hp} {φ φ' ψ : Nat → List Addr} {σ σ' : St} {ρ ρ' : Env} {vs : List V} {ds : List D}
theorem EnvR.outs {prs : List Bool} {n : Nat} (e : EnvR K Av' H' σ' ρ' φ') (hv : vs.length = prs.length) (hp : ∀ i, i ∈ protOf prs 0 ∨ i ∈ ([] : List Nat) → σ'[i]? = (L2St n vs)[i]?) :
    EnvR K Av' H' (vs.map some) (Y.outs prs ρ') (fun i => match (Y.outs prs ρ')[i]? with | some (some _) => φ' i | _ => []) where
  len := by rw [outs_len, List.length_map, hv]
  rep := fun i d hi => by
    obtain ⟨h1, h2⟩ := outs_get prs ρ' i d 0 hi
    obtain ⟨v, h3, h4⟩ := e.rep i d h1
    refine ⟨v, ?_, by simp only [hi]; exact h4⟩
    rw [hp i (.inl h2)] at h3
    unfold L2St at h3
    rw [List.getElem?_append] at h3
    split at h3
    · exact h3
    · rw [List.getElem?_replicate] at h3
      split at h3 <;> cases h3
  emp := fun i hi => by
    split
    · rename_i d q; exact absurd q (hi d)
    · rfl
  dis := fun i j a h1 h2 => by
    have m : ∀ i, a ∈ (match (Y.outs prs ρ')[i]? with | some (some _) => φ' i | _ => []) → a ∈ φ' i := fun i h => by
      split at h
      · exact h
      · cases h
    exact e.dis i j a (m i h1) (m j h2)
  ok := e.ok
theorem outs_sub {prs : List Bool} {i : Nat} {a : Addr} (h : a ∈ (fun i => match (Y.outs prs ρ')[i]? with | some (some _) => φ' i | _ => []) i) : a ∈ φ' i := by
  dsimp only at h
  split at h
  · exact h
  · cases h
/-- the arguments at a def's start -/
theorem EnvR.begin {n : Nat} (e : EnvR K Av H (vs.map some) (ds.map some) ψ) : EnvR K Av H (L2St n vs) (ds.map some ++ List.replicate n none) ψ where
  len := by
    have := e.len
    unfold L2St
    rw [List.length_append, List.length_append, this, List.length_replicate, List.length_replicate]
  rep := fun i d hi => by
    rw [List.getElem?_append] at hi
    split at hi
    · obtain ⟨v, h1, h2⟩ := e.rep i d hi
      refine ⟨v, ?_, h2⟩
      unfold L2St
      rw [List.getElem?_append, if_pos (get_lt h1)]
      exact h1
    · rw [List.getElem?_replicate] at hi
      split at hi <;> cases hi
  emp := fun i hi => e.emp i fun d hd => hi d (by rw [List.getElem?_append, if_pos (get_lt hd)]; exact hd)
  dis := e.dis
  ok := e.ok
theorem takes_cx {N : List Str} {qual : Str} {scope : Scope} {f : Addr} {cd : Value} {A : Around} {outer : List PySem.Env} {s : Shared} {E : XK} : Takes (cxOf (L2.CX P w) P w K mg base N qual scope f cd A outer s H E) (fun cls d _ H' => E cls d H') :=
  takes_of rfl rfl rfl rfl
theorem owns_cx {N : List Str} {qual : Str} {scope : Scope} {f : Addr} {cd : Value} {A : Around} {outer : List PySem.Env} {s : Shared} {E : XK} :
    PassesOwn (model (cxOf (L2.CX P w) P w K mg base N qual scope f cd A outer s H E).prog (cxOf (L2.CX P w) P w K mg base N qual scope f cd A outer s H E).w) (cxOf (L2.CX P w) P w K mg base N qual scope f cd A outer s H E).A (cxOf (L2.CX P w) P w K mg base N qual scope f cd A outer s H E).env (cxOf (L2.CX P w) P w K mg base N qual scope f cd A outer s H E).xe :=
  passes_of rfl
/-- THE RULE for a def: its body's meaning -/
theorem fn_ok {x qual : Str} {st : Stmt} {f : Addr} {fd : FuncData} {N ps : List Str} {k : Nat} {m : M Fl} (prs : List Bool) (F : Fun K x qual st f fd) (S : FnScope N ps (defScope st)) (hp : prs.length = ps.length)
    (hbody : ∀ (cdv : Value) (A : Around) (outer : List PySem.Env) (s : Shared) (H : Hp) (E : XK), Room k (A.deeper (PyProof.Rows.envOfC qual (defScope st) s.heap.objs.size f cdv)) → ∀ c : Ctx,
      PSs (cxOf (L2.CX P w) P w K mg base N qual (defScope st) f cdv A outer s H E) (defBody st) (RS ⟨K, fun cls d _ H' => E cls d H', xr⟩ c m)) :
    FnOk P w K mg base (L2.CX P w) (k + 1) f fd ps (spF K xr ps.length (runF N.length prs m)) := by
  refine F.okX S (fun vs H Q E h => h.1) fun cdv A outer s H vs Q E hr ⟨hv, Av, ds, ψ, e, h⟩ => ⟨_, hbody cdv A outer s H E hr ⟨protOf prs 0, []⟩, rs_post.mpr ?_⟩
  have hd : ds.length = vs.length := by
    have := e.len
    rw [List.length_map, List.length_map] at this
    exact this.symm
  have eb := e.begin (n := N.length - vs.length)
  refine ⟨Av, _, ψ, eb, ?_⟩
  unfold runF at h
  rw [hd] at h
  have hvp : vs.length = prs.length := by rw [hv, hp]
  have sub : ∀ {σ' : St} {H' : Hp} {Av' : Addr → Prop} {φ' : Nat → List Addr} {ρ' : Env}, Step [] Av Av' H H' ψ φ' → Step [] Av Av' H H' ψ (fun i => match (Y.outs prs ρ')[i]? with | some (some _) => φ' i | _ => []) := fun st => st.sub fun i a ha => outs_sub ha
  cases q : m ⟨protOf prs 0, []⟩ (ds.map some ++ List.replicate (N.length - vs.length) none) with
  | bad => rw [q] at h; exact h
  | exc x ρ' =>
    rw [q] at h
    exact fun cls y σ' H' Av' φ' e' xr' st' hp' => h cls y H' Av' _ (e'.outs (n := N.length - vs.length) hvp hp') xr' (sub (σ' := σ') st')
  | ok fl ρ' =>
    rw [q] at h
    cases fl with
    | nx => exact fun σ' H' Av' φ' e' st' hp' => h .non H' Av' _ [] (e'.outs (n := N.length - vs.length) hvp hp') .non Apart.nil (sub (σ' := σ') st') OrgG.nil
    | ret d => exact fun v σ' H' Av' φ' G e' r ap st' og hp' => h v H' Av' _ G (e'.outs (n := N.length - vs.length) hvp hp') r (fun a ha i z => ap a ha i (outs_sub z)) (sub (σ' := σ') st') og
    | brk => exact h.elim
    | cont => exact h.elim
/-- a def by its meaning, told otherwise -/
theorem spF_imp {n : Nat} {Φ Φ' : List D → Fo} (hq : ∀ ds, Φ' ds ≠ .bad → Φ ds = Φ' ds) {vs : List V} {H : Hp} {Q : VK} {E : XK} (h : spF K xr n Φ' vs H Q E) : spF K xr n Φ vs H Q E := by
  obtain ⟨hv, Av, ds, ψ, e, h⟩ := h
  refine ⟨hv, Av, ds, ψ, e, ?_⟩
  have : Φ ds = Φ' ds := hq ds fun z => by rw [z] at h; exact h
  rw [this]; exact h
theorem FnY.mk' {k n : Nat} {x qual : Str} {st : Stmt} {f : Addr} {fd : FuncData} {ps : List Str} {Φ Φ' : List D → Fo} (F : Fun K x qual st f fd) (hm : mg x = some (.ref f)) (hb : Binds K fd ps []) (G : FnOk P w K mg base (L2.CX P w) k f fd ps (spF K xr n Φ)) (hq : ∀ ds, Φ' ds ≠ .bad → Φ ds = Φ' ds) : FnY P w K mg base xr k x n Φ' :=
  ⟨f, fd, ps, G.imp fun vs H Q E h => spF_imp hq h, hm, F.kp, hb⟩
/-- the law: its script -/
theorem law_sp {Φ : List D → Fo} {a : Addr} {ns : List Int} (hO : Only H) (hS : SqL K H a (ns.map V.int)) (h : ∃ as, Φ [.lst false (ns.map D.int)] = .ok (.bl true) as) : spF K xr 1 Φ [.ref a] H (fun v _ => v = .bl true) fun _ _ _ => False := by
  obtain ⟨as, h⟩ := h
  have rl : RepL K (fun _ => False) H [] (ns.map V.int) (ns.map D.int) := by
    clear hS h
    induction ns with
    | nil => exact .nil
    | cons n ns ih => exact .cons (F := []) (G := []) (.int n) ih
  refine ⟨rfl, fun _ => False, [.lst false (ns.map D.int)], fun _ => [], ⟨rfl, fun i d hi => ?_, fun _ _ => rfl, fun _ _ _ h => (nomatch h), fun _ h => h.elim⟩, ?_⟩
  · cases i with
    | zero =>
      have hi : D.lst false (ns.map D.int) = d := by simpa using hi
      subst hi
      refine ⟨.ref a, rfl, ?_⟩
      rcases hS with hS | hS
      · exact .lstF hS id rl
      · exact .lstK (.inr hS) rl
    | succ i => simp at hi
  · rw [h]
    intro v H' Av' ψ' G _ r _ _ _
    cases r
    rfl
theorem cx_none {l : Program} {w : World} {H : Hp} {s : Shared} {e : Value} {s' : Shared} (h : L2.CX l w [] H s (fun _ _ _ => False) e s') : False := by
  obtain ⟨_, _, _, _, _, _, _, _, _, _, _, _, z⟩ := h
  exact z
end
end Y

end
section
set_option Elab.async false
set_option linter.all false
set_option maxRecDepth 100000
set_option autoImplicit false
/-! Z2: list(zip(v1, v2)) over what is tracked. -/
namespace Y
open PySem L2
section
variable {X : Cx} {pins : List (Addr × Obj)} {σ : L2.St} {H H0 : Hp} {s : Shared} {A : Around} {c1 c2 : Cmp} {z TI TO i1 i2 S : Addr} {xs ys : List V}
theorem Cmp.items_keep {K : PySem.W.Frag} {H H' : Hp} {C : Cmp} {xs : List V} (k : ∀ a o, H a = some o → H' a = some o) (h : C.items K H xs) : C.items K H' xs := by
  cases C with
  | l a =>
    rcases h with (h | ⟨o, h⟩) | h
    · exact .inl (.inl (k _ _ h))
    · exact .inl (.inr ⟨o, k _ _ h⟩)
    · exact .inr h
  | t a =>
    rcases h with (h | ⟨o, h⟩) | h
    · exact .inl (.inl (k _ _ h))
    · exact .inl (.inr ⟨o, k _ _ h⟩)
    · exact .inr h
  | s x => exact h
def Zst (c1 c2 : Cmp) (z TI TO i1 i2 : Addr) (H : Hp) (i : Nat) (h : Heap) : Prop :=
  IsTupOf2 h TI (.ref i1) (.ref i2) ∧ c1.st i1 i h ∧ c2.st i2 i h ∧ (∃ o, h.get? TO = some o) ∧ ((IsZip h z TI TO .none ∧ ∃ x y, IsTupOf2 h TO x y) ∨ ∃ T f ts, IsZipHeld h z TI TO T f ∧ H T = some (.tup ts))
theorem zl_item {Q : Option Value → Shared → Prop} {E : Value → Shared → Prop} {i : Nat} (I : Inv X pins σ H s) (hh : A.handled = none) (D : Far2 z TI TO i1 i2) (hf : ∀ b ∈ [z, TI, TO, i1, i2], FpOk X pins H b) (hqx : c1.items X.K H xs) (hqy : c2.items X.K H ys)
    (st : Zst c1 c2 z TI TO i1 i2 H i s.heap) (h1 : i < xs.length) (h2 : i < ys.length)
    (hQ : ∀ x y s', xs[i]? = some x → ys[i]? = some y → Inv X pins σ (upd H s.heap.objs.size (.tup [x, y])) s' → Zst c1 c2 z TI TO i1 i2 (upd H s.heap.objs.size (.tup [x, y])) (i + 1) s'.heap → (∀ b ∈ [z, TI, TO, i1, i2], b ≠ s.heap.objs.size) → Q (some (.ref s.heap.objs.size)) s') :
    wpAny (model X.prog X.w) A (pyNext (.ref z)) Q E s := by
  obtain ⟨hTI, hs1, hs2, ⟨oTO, hTO0⟩, hz⟩ := st
  obtain ⟨fp1, n1, P1, St1, D1, m1, f1, s1, l1, p1, b1⟩ := cmp_drawsA I (A := A.in1) hh c1 hqx hs1 (hf i1 (by simp))
  obtain ⟨fp2, n2, P2, St2, D2, m2, f2, s2, l2, p2, b2⟩ := cmp_drawsA I (A := A.in1) hh c2 hqy hs2 (hf i2 (by simp))
  have Sp := D.sep hf m1 m2 f1 f2
  have fr : H s.heap.objs.size = none := I.hok.fresh (Nat.le_refl _)
  have cells : ∀ b ∈ [z, TI, TO, i1, i2], b ≠ s.heap.objs.size := fun b hb q => by
    have ex : ∃ o, s.heap.get? b = some o := by
      have e' : b = z ∨ b = TI ∨ b = TO ∨ b = i1 ∨ b = i2 := by simpa using hb
      rcases e' with q | q | q | q | q
      · rw [q]
        rcases hz with ⟨hz, _⟩ | ⟨_, _, _, hz, _⟩ <;> exact ⟨_, hz⟩
      · rw [q]; exact ⟨_, hTI⟩
      · rw [q]; exact ⟨_, hTO0⟩
      · rw [q]; exact D1.live _ _ s1
      · rw [q]; exact D2.live _ _ s2
    obtain ⟨o, e⟩ := ex
    have := Heap.lt_size e
    rw [q] at this
    exact Nat.lt_irrefl _ this
  rcases hz with ⟨hz, x0, y0, hTO⟩ | ⟨T, f, ts, hz, hT⟩
  · refine wpAny_pyNext_zipD2_item Sp D1 D2 hz hTI hTO s1 s2 (by omega) (by omega) fun u1 u2 h' tk hP1 hP2 z' TO' h1' h2' hT hsz hk => ?_
    obtain ⟨x, hx', rx⟩ := p1 _ _ hP1
    obtain ⟨y, hy', ry⟩ := p2 _ _ hP2
    have new : ObjOk X.prog X.w (upd H s.heap.objs.size (.tup [x, y])) h' s.heap.objs.size (.tup [x, y]) :=
      ⟨by show 2 ≤ sizeLine; decide, [u1, u2], .cons rx (.cons ry .nil), ⟨_, hT, rfl, _, rfl⟩⟩
    refine hQ x y _ hx' hy' (I.turnedNew (t' := tk) (ch := [z, TI, TO, i1, i2]) (fun c o hb q => hk c o (fun q' => hb (by simp [q'])) (fun q' => hb (by simp [q'])) (fun q' => hb (by simp [q'])) (fun q' => hb (by simp [q'])) q) hf (Nat.le_refl _) new)
      ⟨hk _ _ D.TIz D.TITO D.TI1 D.TI2 hTI, b1 _ _ h1', b2 _ _ h2', ⟨_, TO'⟩, .inr ⟨_, false, _, z', upd_same⟩⟩ cells
  · obtain ⟨_, _, _, oT, hoT, _⟩ := (show ObjOk X.prog X.w H s.heap T (.tup ts) from I.hok T _ hT)
    have nT : T ≠ s.heap.objs.size := fun q => by rw [q, fr] at hT; cases hT
    refine pyNext_zipD2_held_item Sp D1 D2 hz hoT hTI s1 s2 (by omega) (by omega) fun u1 u2 h' tk hP1 hP2 z' h1' h2' hT' hsz hk => ?_
    obtain ⟨x, hx', rx⟩ := p1 _ _ hP1
    obtain ⟨y, hy', ry⟩ := p2 _ _ hP2
    have new : ObjOk X.prog X.w (upd H s.heap.objs.size (.tup [x, y])) h' s.heap.objs.size (.tup [x, y]) :=
      ⟨by show 2 ≤ sizeLine; decide, [u1, u2], .cons rx (.cons ry .nil), ⟨_, hT', rfl, _, rfl⟩⟩
    refine hQ x y _ hx' hy' (I.turnedNew (t' := tk) (ch := [z, TI, TO, i1, i2]) (fun c o hb q => hk c o (fun q' => hb (by simp [q'])) (fun q' => hb (by simp [q'])) (fun q' => hb (by simp [q'])) q) hf (Nat.le_refl _) new)
      ⟨hk _ _ D.TIz D.TI1 D.TI2 hTI, b1 _ _ h1', b2 _ _ h2', ⟨_, hk _ _ D.TOz D.TO1 D.TO2 hTO0⟩, .inr ⟨T, true, ts, z', by rw [upd_ne nT]; exact hT⟩⟩ cells
theorem zl_end {Q : Option Value → Shared → Prop} {E : Value → Shared → Prop} {i : Nat} (I : Inv X pins σ H s) (hh : A.handled = none) (D : Far2 z TI TO i1 i2) (hf : ∀ b ∈ [z, TI, TO, i1, i2], FpOk X pins H b) (hqx : c1.items X.K H xs) (hqy : c2.items X.K H ys)
    (st : Zst c1 c2 z TI TO i1 i2 H i s.heap) (h1 : i ≤ xs.length) (h2 : i ≤ ys.length) (h3 : i = xs.length ∨ i = ys.length)
    (hQ : ∀ s', Inv X pins σ H s' → (∀ c o, c ∉ [z, TI, TO, i1, i2] → s.heap.get? c = some o → s'.heap.get? c = some o) → Q none s') :
    wpAny (model X.prog X.w) A (pyNext (.ref z)) Q E s := by
  obtain ⟨hTI, hs1, hs2, ⟨oTO, hTO0⟩, hz⟩ := st
  obtain ⟨fp1, n1, P1, St1, D1, m1, f1, s1, l1, p1, b1⟩ := cmp_drawsA I (A := A.in1) hh c1 hqx hs1 (hf i1 (by simp))
  obtain ⟨fp2, n2, P2, St2, D2, m2, f2, s2, l2, p2, b2⟩ := cmp_drawsA I (A := A.in1) hh c2 hqy hs2 (hf i2 (by simp))
  have Sp := D.sep hf m1 m2 f1 f2
  rcases hz with ⟨hz, x0, y0, hTO⟩ | ⟨T, f, ts, hz, hT⟩
  · exact wpAny_pyNext_zipD2_end Sp D1 D2 hz hTI hTO s1 s2 (by omega) (by omega) (by omega) fun h' tk hk => by
      have k : ∀ c o, c ∉ [z, TI, TO, i1, i2] → s.heap.get? c = some o → h'.get? c = some o := fun c o hb q => hk c o (fun q' => hb (by simp [q'])) (fun q' => hb (by simp [q'])) (fun q' => hb (by simp [q'])) (fun q' => hb (by simp [q'])) q
      exact hQ _ (I.turnedL (t' := tk) (ch := [z, TI, TO, i1, i2]) k hf) k
  · obtain ⟨_, _, _, oT, hoT, _⟩ := (show ObjOk X.prog X.w H s.heap T (.tup ts) from I.hok T _ hT)
    exact pyNext_zipD2_held_end Sp D1 D2 hz hoT hTI s1 s2 (by omega) (by omega) (by omega) fun h' tk hk => by
      have k : ∀ c o, c ∉ [z, TI, TO, i1, i2] → s.heap.get? c = some o → h'.get? c = some o := fun c o hb q => hk c o (fun q' => hb (by simp [q'])) (fun q' => hb (by simp [q'])) (fun q' => hb (by simp [q'])) q
      exact hQ _ (I.turnedL (t' := tk) (ch := [z, TI, TO, i1, i2]) k hf) k
/-- the new list's items: new pairs -/
def Pairs (H0 H : Hp) (S : Addr) (zs : List V) (ps : List (V × V)) : Prop := All2 (fun v p => ∃ T, v = V.ref T ∧ H0 T = none ∧ T ≠ S ∧ H T = some (.tup [p.1, p.2])) zs ps
theorem zip_take {α β : Type} {xs : List α} {ys : List β} {i : Nat} {x : α} {y : β} (h1 : xs[i]? = some x) (h2 : ys[i]? = some y) : (xs.zip ys).take (i + 1) = (xs.zip ys).take i ++ [(x, y)] := by
  rw [List.take_add_one]
  have : (xs.zip ys)[i]? = some (x, y) := by
    rw [List.zip, List.getElem?_zipWith, h1, h2]
  rw [this]; rfl
theorem zl_loop {R : Result → Shared → Prop} {res : Value} (hh : A.handled = none) (D : Far2 z TI TO i1 i2) (h0S : H0 S = none) (hqx : c1.items X.K H0 xs) (hqy : c2.items X.K H0 ys) (hn : min xs.length ys.length ≤ sizeLine)
    (hR : ∀ s' H' zs, Inv X pins σ H' s' → (∀ a o, H0 a = some o → H' a = some o) → H' S = some (.lst zs) → Pairs H0 H' S zs (xs.zip ys) → R (.ok (.ret res)) s') :
    ∀ (k i : Nat) (s : Shared) (H : Hp) (zs : List V), min xs.length ys.length - i = k → i ≤ min xs.length ys.length → Inv X pins σ H s → H S = some (.lst zs) → (∀ a o, H0 a = some o → H a = some o) → (∀ b ∈ [z, TI, TO, i1, i2], FpOk X pins H b) →
      Zst c1 c2 z TI TO i1 i2 H i s.heap → Pairs H0 H S zs ((xs.zip ys).take i) → codeAny (model X.prog X.w) A (.builtin "list.extend.loop" ⟨[.ref S, .ref z, res], []⟩) R s := by
  intro k
  induction k with
  | zero =>
    intro i s H zs hk hi I hS keep hf st hp
    have ei : i = min xs.length ys.length := by omega
    refine codeAny_builtin F.entry_extend_loop ?_
    rw [Around.under_plainId F.plain_extend_loop _]
    show wpAny _ A.in1 (pyNext (.ref z) >>= _) _ _ s
    refine wpAny_bind (zl_end I hh D hf (Cmp.items_keep keep hqx) (Cmp.items_keep keep hqy) st (by omega) (by omega) (by omega) fun s' I' hk' => ?_)
    refine wpAny_pure (hR s' H zs I' keep hS ?_)
    rw [List.take_of_length_le (by rw [List.length_zip]; omega)] at hp
    exact hp
  | succ k ih =>
    intro i s H zs hk hi I hS keep hf st hp
    refine codeAny_builtin F.entry_extend_loop ?_
    rw [Around.under_plainId F.plain_extend_loop _]
    show wpAny _ A.in1 (pyNext (.ref z) >>= _) _ _ s
    refine wpAny_bind (zl_item I hh D hf (Cmp.items_keep keep hqx) (Cmp.items_keep keep hqy) st (by omega) (by omega) fun x y s' hx hy I' st' cells => ?_)
    have fr : H s.heap.objs.size = none := I.hok.fresh (Nat.le_refl _)
    have nS : S ≠ s.heap.objs.size := fun q => by rw [q, fr] at hS; cases hS
    have hS' : (upd H s.heap.objs.size (.tup [x, y])) S = some (.lst zs) := by rw [upd_ne nS]; exact hS
    obtain ⟨zl, its, n, rv, hl, e⟩ := I'.lstM hS'
    have hzs : zs.length = i := by
      have := All2.length hp
      rw [this, List.length_take, List.length_zip]
      omega
    show wpAny _ A.in1 (updateSeq S (·.push (.ref s.heap.objs.size)) >>= _) _ _ _
    refine wpAny_bind ?_
    have hits : its.length = i := by rw [← hl]; exact hzs
    refine wpAny_updateSeq e rfl (wpAny_pure ⟨plainId_quiet F.plain_extend_loop _, ?_⟩) (by rw [List.size_toArray]; omega) (by show (its.toArray.push (Value.ref s.heap.objs.size)).size ≤ sizeLine + 1; rw [Array.size_push, List.size_toArray]; omega)
    have ru : RelV (V.ref s.heap.objs.size) (Value.ref s.heap.objs.size) := rfl
    have I2 := I'.lset (ys := zs ++ [V.ref s.heap.objs.size]) (its' := its ++ [Value.ref s.heap.objs.size]) (t' := s'.toks) hS' e (f := fun a => a.push (Value.ref s.heap.objs.size)) (by simp) (rv.append (.cons ru .nil)) (by rw [List.length_append, List.length_singleton]; omega)
    have keep2 : ∀ a o, H0 a = some o → upd (upd H s.heap.objs.size (.tup [x, y])) S (.lst (zs ++ [V.ref s.heap.objs.size])) a = some o := fun a o h => by
      have n1 : a ≠ S := fun q => by rw [q, h0S] at h; cases h
      have hk := keep a o h
      have n2 : a ≠ s.heap.objs.size := fun q => by rw [q, fr] at hk; cases hk
      rw [upd_ne n1, upd_ne n2]
      exact hk
    have cS : ∀ b ∈ [z, TI, TO, i1, i2], b ≠ S := fun b hb q => by
      have := (hf b hb).1
      rw [q, hS] at this; cases this
    have hg : ∀ b o, b ≠ S → s'.heap.get? b = some o → (s'.heap.update S (Obj.mapSeq fun a => a.push (.ref s.heap.objs.size))).get? b = some o := fun b o hb h => (Heap.get?_update_other _ _ (Ne.symm hb)).trans h
    refine ih (i + 1) _ _ _ (by omega) (by omega) I2 upd_same keep2 (fun b hb => ?_) ?_ ?_
    · obtain ⟨f0, f1⟩ := hf b hb
      exact ⟨by rw [upd_ne (cS b hb), upd_ne (cells b hb)]; exact f0, f1⟩
    · obtain ⟨hTI, hs1, hs2, ⟨oTO, hTO0⟩, hz⟩ := st'
      refine ⟨hg _ _ (cS TI (by simp)) hTI, Cmp.st_at hs1 fun o => hg _ o (cS i1 (by simp)), Cmp.st_at hs2 fun o => hg _ o (cS i2 (by simp)), ⟨oTO, hg _ _ (cS TO (by simp)) hTO0⟩, ?_⟩
      rcases hz with ⟨hz, x0, y0, hTO⟩ | ⟨T, f, ts, hz, hT⟩
      · exact .inl ⟨hg _ _ (cS z (by simp)) hz, x0, y0, hg _ _ (cS TO (by simp)) hTO⟩
      · exact .inr ⟨T, f, ts, hg _ _ (cS z (by simp)) hz, by rw [upd_ne fun q => by rw [q, hS'] at hT; cases hT]; exact hT⟩
    · rw [zip_take hx hy]
      have hp' : All2 (fun v p => ∃ T, v = V.ref T ∧ H0 T = none ∧ T ≠ S ∧ upd (upd H s.heap.objs.size (.tup [x, y])) S (.lst (zs ++ [V.ref s.heap.objs.size])) T = some (.tup [p.1, p.2])) zs ((xs.zip ys).take i) := by
        refine All2.imp (fun v p ⟨T, h1, h2, h3, h4⟩ => ⟨T, h1, h2, h3, ?_⟩) hp
        have n2 : T ≠ s.heap.objs.size := fun q => by rw [q, fr] at h4; cases h4
        rw [upd_ne h3, upd_ne n2]
        exact h4
      have h0n : H0 s.heap.objs.size = none := by
        cases q : H0 s.heap.objs.size with
        | none => rfl
        | some o => have := keep _ _ q; rw [fr] at this; cases this
      have hlast : upd (upd H s.heap.objs.size (.tup [x, y])) S (.lst (zs ++ [V.ref s.heap.objs.size])) s.heap.objs.size = some (.tup [x, y]) := by
        rw [upd_ne nS.symm, upd_same]
      exact All2.append hp' (.cons ⟨s.heap.objs.size, rfl, h0n, nS.symm, hlast⟩ .nil)
/-- list(z), z the zip just made -/
theorem zl_call {Q : Value → Shared → Prop} {E : Value → Shared → Prop} (I : Inv X pins σ H s) (hh : A.handled = none) (D : Far2 z TI TO i1 i2) (hf : ∀ b ∈ [z, TI, TO, i1, i2], FpOk X pins H b) (hqx : c1.items X.K H xs) (hqy : c2.items X.K H ys)
    (st : Zst c1 c2 z TI TO i1 i2 H 0 s.heap) (hz0 : IsZip s.heap z TI TO .none) (hn : min xs.length ys.length ≤ sizeLine)
    (hQ : ∀ s' H' zs, Inv X pins σ H' s' → H s.heap.objs.size = none → (∀ a o, H a = some o → H' a = some o) → H' s.heap.objs.size = some (.lst zs) → Pairs H H' s.heap.objs.size zs (xs.zip ys) → Q (.ref s.heap.objs.size) s') :
    wpAny (model X.prog X.w) A (call (.type "list") [.ref z]) Q E s := by
  refine callType_codes (Q₁ := fun obj s₁ => obj = .ref s.heap.objs.size ∧ s₁ = { s with heap := s.heap.push { cls := .type "list", data := .seq #[] } }) F.called_list (F.typeCall_list_1 _) F.entry_list_init
    (code_list_new _ ⟨rfl, rfl⟩) fun obj s₁ h₁ => ?_
  obtain ⟨rfl, rfl⟩ := h₁
  have fr : H s.heap.objs.size = none := I.hok.fresh (Nat.le_refl _)
  have hS : (s.heap.push { cls := .type "list", data := .seq #[] }).get? s.heap.objs.size = some { cls := .type "list", data := .seq #[] } := Heap.get?_push_size _ rfl
  obtain ⟨hTI, hs1, hs2, ⟨oTO, hTO0⟩, hz⟩ := st
  have hzo : ∃ o, s.heap.get? z = some o ∧ o.cls = .type "zip" := by
    rcases hz with ⟨hz, _⟩ | ⟨_, _, _, hz, _⟩ <;> exact ⟨_, hz, rfl⟩
  have lt : ∀ {b : Addr}, (∃ o, s.heap.get? b = some o) → b ≠ s.heap.objs.size := fun ⟨o, e⟩ q => by
    have := Heap.lt_size e
    rw [q] at this
    exact Nat.lt_irrefl _ this
  have cells : ∀ b ∈ [z, TI, TO, i1, i2], b ≠ s.heap.objs.size := fun b hb => by
    have e' : b = z ∨ b = TI ∨ b = TO ∨ b = i1 ∨ b = i2 := by simpa using hb
    rcases e' with q | q | q | q | q
    · rw [q]; exact lt (hzo.imp fun _ h => h.1)
    · rw [q]; exact lt ⟨_, hTI⟩
    · rw [q]; exact lt ⟨_, hTO0⟩
    · rw [q]; exact lt ((Cmp.st_obj hs1).imp fun _ h => h.1)
    · rw [q]; exact lt ((Cmp.st_obj hs2).imp fun _ h => h.1)
  generalize hN : s.heap.objs.size = S at *
  refine ⟨⟨_, hS, rfl⟩, F.args_list_init_2 _ _, ?_⟩
  show wpAny _ A.in1.in1 (do let old ← Builtin.List.listItems (.ref S); Builtin.List.listUpdate (.ref S) (fun _ => #[]); letGo old.toList.reverse; Builtin.List.listExtendWith (.ref S) (.ref z) .none) _ _ _
  refine wpAny_bind ?_
  unfold Builtin.List.listItems
  refine wpAny_bind (wpAny_seqItems hS rfl (wpAny_pure ?_))
  show wpAny _ A.in1.in1 (updateSeq S (fun _ => #[]) >>= fun _ => letGo (#[] : Array Value).toList.reverse >>= fun _ => Builtin.List.listExtendWith (.ref S) (.ref z) .none) _ _ _
  refine wpAny_bind (wpAny_updateSeq hS rfl ?_)
  have hS₂ := Heap.get?_update_self (Obj.mapSeq (fun _ => (#[] : Array Value))) hS rfl
  have up2 : ∀ b o, b ≠ S → s.heap.get? b = some o → ((s.heap.push { cls := .type "list", data := .seq #[] }).update S (Obj.mapSeq (fun _ => (#[] : Array Value)))).get? b = some o :=
    fun b o hb e => (Heap.get?_update_other _ _ (Ne.symm hb)).trans (Heap.get?_push_of_some _ e)
  generalize hh2 : (s.heap.push { cls := .type "list", data := .seq #[] }).update S (Obj.mapSeq (fun _ => (#[] : Array Value))) = h2 at hS₂ up2
  refine wpAny_bind (wpAny_letGo ?_)
  unfold Builtin.List.listExtendWith
  obtain ⟨oz, hoz, hcz⟩ := hzo
  have hTy : ({ s with heap := h2 } : Shared).TypeIs (.ref z) "zip" := ⟨oz, up2 _ _ (cells z (by simp)) hoz, hcz⟩
  refine wpAny_bind (wpAny_typeOf hTy ?_)
  have h1 : Builtin.List.listSameRef (.ref S) (.ref z) = false := by simp [Builtin.List.listSameRef, (cells z (by simp)).symm]
  have h2' : (Value.type "zip" == Value.type "list") = false := by decide
  have h3 : (Value.type "zip" == Value.type "tuple") = false := by decide
  simp only [h1, h2', h3, Bool.or_false, Bool.false_eq_true, if_false]
  have hself : ∀ {Q' : Value → Shared → Prop} {E' : Value → Shared → Prop}, Q' (.ref z) { s with heap := h2 } → wpAny (model X.prog X.w) A.in1.in1 (pyIter (.ref z)) Q' E' { s with heap := h2 } := fun q => by
    exact wpAny_pyIter_zip (s := { s with heap := h2 }) (up2 _ _ (cells z (by simp)) hz0) q
  refine wpAny_bind (hself ?_)
  refine wpAny_bind (wpAny_holding ?_)
  unfold Builtin.List.listLengthHint
  refine wpAny_bind (wpAny_specialOf hTy zip_no_len ?_)
  show wpAny _ A.in1.in1 (specialOf (Value.ref z) (Str.ofString "__length_hint__") >>= _) _ _ _
  refine wpAny_bind (wpAny_specialOf hTy zip_no_hint ?_)
  refine wpAny_pure ?_
  show wpAny _ A.in1.in1 (rule "list.extend.makes-room" >>= fun _ => Builtin.List.listTouch (.ref S) >>= fun _ =>
    again (.builtin "list.extend.loop" ⟨[.ref S, .ref z, .none], []⟩)) _ _ _
  refine wpAny_bind (wpAny_rule ?_)
  refine wpAny_bind ?_
  show wpAny _ A.in1.in1 (updateSeq S (·.push .none) >>= fun _ => updateSeq S (·.pop)) _ _ _
  refine wpAny_bind (wpAny_updateSeq hS₂ rfl ?_)
  have hS₃ := Heap.get?_update_self (Obj.mapSeq (·.push Value.none)) hS₂ rfl
  refine wpAny_updateSeq (hz := by seq_fits) hS₃ rfl ?_
  have hS₄ := Heap.get?_update_self (Obj.mapSeq (·.pop)) hS₃ rfl
  have up4 : ∀ b o, b ≠ S → s.heap.get? b = some o → ((h2.update S (Obj.mapSeq (·.push Value.none))).update S (Obj.mapSeq (·.pop))).get? b = some o :=
    fun b o hb e => (Heap.get?_update_other _ _ (Ne.symm hb)).trans ((Heap.get?_update_other _ _ (Ne.symm hb)).trans (up2 b o hb e))
  generalize hh4 : (h2.update S (Obj.mapSeq (·.push Value.none))).update S (Obj.mapSeq (·.pop)) = h4 at hS₄ up4
  have I4 : Inv X pins σ (upd H S (.lst [])) { s with heap := h4 } := by
    refine I.laid (t' := s.toks) (fun b o e => up4 b o (lt ⟨o, e⟩) e) (Nat.le_of_eq hN) ⟨Nat.zero_le _, [], _, .nil, hS₄⟩
  have keep : ∀ a o, H a = some o → upd H S (.lst []) a = some o := fun a o h => by
    have n : a ≠ S := fun q => by rw [q, fr] at h; cases h
    rw [upd_ne n]; exact h
  refine wpAny_pure ⟨plainId_quiet F.plain_extend_loop _, zl_loop (H0 := H) (c1 := c1) (c2 := c2) (A := A.in1) hh D fr hqx hqy hn (fun s' H' zs I' k' hS' hp => ?_) _ 0 _ _ [] rfl (Nat.zero_le _) I4 upd_same keep (fun b hb => ?_) ?_ ?_⟩
  · exact ⟨rfl, hQ s' H' zs I' fr k' hS' hp⟩
  · obtain ⟨f0, f1⟩ := hf b hb
    exact ⟨by rw [upd_ne (cells b hb)]; exact f0, f1⟩
  · refine ⟨up4 _ _ (cells TI (by simp)) hTI, Cmp.st_at hs1 fun o => up4 _ o (cells i1 (by simp)), Cmp.st_at hs2 fun o => up4 _ o (cells i2 (by simp)), ⟨oTO, up4 _ _ (cells TO (by simp)) hTO0⟩, ?_⟩
    rcases hz with ⟨hz, x0, y0, hTO⟩ | ⟨T, f, ts, hz, hT⟩
    · exact .inl ⟨up4 _ _ (cells z (by simp)) hz, x0, y0, up4 _ _ (cells TO (by simp)) hTO⟩
    · exact .inr ⟨T, f, ts, up4 _ _ (cells z (by simp)) hz, keep _ _ hT⟩
  · exact .nil
/-- list(zip(e, e2)) -/
def tLZ (K : PySem.W.Frag) (ta : TA) : TE := fun σ H Q => ta σ H fun vs H1 => ∃ v1 v2 c1 c2 xs ys, vs = [v1, v2] ∧ Cmp.of c1 v1 ∧ Cmp.of c2 v2 ∧ Cmp.items K c1 H1 xs ∧ Cmp.items K c2 H1 ys ∧ min xs.length ys.length ≤ sizeLine ∧
  ∀ S H' zs, H1 S = none → (∀ a o, H1 a = some o → H' a = some o) → H' S = some (.lst zs) → Pairs H1 H' S zs (xs.zip ys) → Q (.ref S) H'
theorem pe_lz {e e2 : Expr} {ta : TA} {p p2 p3 pos : Pos} (hc : X.calm = true) (hl : Gl X "list") (hml : X.mg "list" = none) (hg : Gl X "zip") (hm : X.mg "zip" = none) (ha : PA X [e, e2] ta)
    (hs : starEach [e, e2] X.env = (false, eval e X.env) :: starEach [e2] X.env := by rfl) (hpl : (backTo p3 (starEach [e2] X.env)).any (·.1) = false := by rfl)
    (na : starEach [.Call (.Name "zip" p2) [e, e2] [] p3] X.env = (false, eval (.Call (.Name "zip" p2) [e, e2] [] p3) X.env) :: starEach [] X.env := by rfl) :
    PE X (.Call (.Name "list" p) [.Call (.Name "zip" p2) [e, e2] [] p3] [] pos) (tLZ X.K ta) := by
  refine ⟨fun pins s σ H Q I h => ?_⟩
  refine PyProof.Rows.Call_ (ld_blt I hl hml PyProof.Rows.boot_list (PyProof.Rows.callWith_type1 (PyProof.Rows.args_cons ?_ na) na))
  refine PyProof.Rows.Call_ (ld_blt I hg hm PyProof.Rows.boot_zip (PyProof.Rows.callWith_type1 (thn (ha.run p3 pins s σ H _ I h) fun us s1 ⟨vs, H1, I1, r1, q1⟩ => ?_) hs hpl))
  obtain ⟨v1, v2, c1, c2, xs, ys, ex, o1, o2, hqx, hqy, hn, q⟩ := q1
  subst ex
  cases r1 with
  | cons r rr =>
    cases rr with
    | cons r' rr =>
      cases rr
      obtain ⟨ob1, Hh1, B1, b1, k1⟩ := cmp_begins I1 c1 hqx o1 r
      obtain ⟨ob2, Hh2, B2, b2, k2⟩ := cmp_begins I1 c2 hqy o2 r'
      refine zip_begins2 B1 B2 b1 b2 fun h' hz hTI hTO g1 g2 hsz hk => PyProof.Rows.args_nil ?_
      have I2 : Inv X pins σ H1 { s1 with heap := h' } := I1.kept (t' := s1.toks) hk
      have st : Zst c1 c2 (s1.heap.objs.size + 4) (s1.heap.objs.size + 2) (s1.heap.objs.size + 3) s1.heap.objs.size (s1.heap.objs.size + 1) H1 0 h' := ⟨hTI, k1 _ _ g1, k2 _ _ g2, ⟨_, hTO⟩, .inl ⟨hz, _, _, hTO⟩⟩
      have hD : Far2 (s1.heap.objs.size + 4) (s1.heap.objs.size + 2) (s1.heap.objs.size + 3) s1.heap.objs.size (s1.heap.objs.size + 1) := by
        generalize s1.heap.objs.size = N
        constructor <;> show (_ : Nat) ≠ _ <;> omega
      refine zl_call I2 (I2.ok.hd hc) hD (fun c hcm => ?_) hqx hqy st hz hn fun s' H' zs I' n k hS hp => ⟨V.ref _, H', I', rfl, q _ H' zs n k hS hp⟩
      have hle : s1.heap.objs.size ≤ c := by
        generalize s1.heap.objs.size = N at hcm ⊢
        have e' : c = N + 4 ∨ c = N + 2 ∨ c = N + 3 ∨ c = N ∨ c = N + 1 := by simpa using hcm
        rcases e' with z | z | z | z | z <;> rw [z] <;> show N ≤ (_ : Nat) <;> omega
      exact I1.fpOk hle (I1.hok.fresh hle)
end
end Y

end
section
set_option Elab.async false
set_option linter.all false
set_option maxRecDepth 100000
set_option autoImplicit false
/-! Y17: operations on values. -/
namespace Y
open PySem L2
section
variable {X : Cx} {K : PySem.W.Frag} {Av Av' : Addr → Prop} {H H' : Hp} {v : V} {d : D} {vs : List V} {ds : List D}

theorem all2_one {α β : Type} {R : α → β → Prop} {a : α} {bs : List β} (h : All2 R [a] bs) : ∃ b, bs = [b] ∧ R a b := by
  cases h with
  | cons r t => cases t; exact ⟨_, rfl, r⟩
theorem all2_two {α β : Type} {R : α → β → Prop} {a b : α} {bs : List β} (h : All2 R [a, b] bs) : ∃ c d, bs = [c, d] ∧ R a c ∧ R b d := by
  cases h with
  | cons r t =>
    obtain ⟨_, rfl, r2⟩ := all2_one t
    exact ⟨_, _, rfl, r, r2⟩
/-- an answer that is no object, or one that stands -/
theorem ans {Q : VK} (ok : AvOk Av H) (r : Rep K Av H [] v d) (q : ∀ v H' Av' G, Grow Av Av' H H' G → Rep K Av' H' G v d → Q v H') : Q v H := q v H Av [] (Grow.refl ok) r
theorem ansT {Q : VK} (ok : AvOk Av H) (r : RepL K Av H [] vs ds) (q : ∀ v H' Av' G, Grow Av Av' H H' G → Rep K Av' H' G v (.tup ds) → Q v H') : ∀ p, H p = none → Q (.ref p) (upd H p (.tup vs)) :=
  fun p hp => q _ _ Av [] (Grow.tup ok hp) (Rep.newTup ok hp r)
theorem ansL {Q : VK} (ok : AvOk Av H) (r : RepL K Av H [] vs ds) (q : ∀ v H' Av' G, Grow Av Av' H H' G → Rep K Av' H' G v (.lst true ds) → Q v H') : ∀ p, H p = none → Q (.ref p) (upd H p (.lst vs)) :=
  fun p hp => q _ _ _ [p] (Grow.lst ok hp vs) (Rep.newLst ok hp r)
theorem RepL.app0 {vs' : List V} {ds' : List D} (h : RepL K Av H [] vs ds) (h' : RepL K Av H [] vs' ds') : RepL K Av H [] (vs ++ vs') (ds ++ ds') := h.app h'

theorem RepL.nil_iff (h : RepL K Av H [] vs ds) : vs = [] ↔ ds = [] := by
  have := h.length
  constructor
  · intro e; subst e; exact List.length_eq_zero_iff.mp this.symm
  · intro e; subst e; exact List.length_eq_zero_iff.mp this

/-! ### + -/
theorem list_add_any (l : Addr) (items : Array Value) (n : Nat) (sl : Array (Option Value)) (b : Addr) (items2 : Array Value) (n2 : Nat) (sl2 : Array (Option Value)) (hc0 : items.size + items2.size ≤ sizeLine) :
    Meets (Builtin.«list.__add__» ⟨[.ref l, .ref b], []⟩) (fun _ R s => s.heap.get? l = some { cls := .type "list", dict := none, data := .seq items n, slots := sl } ∧ s.heap.get? b = some { cls := .type "list", dict := none, data := .seq items2 n2, slots := sl2 } ∧ R (.ok (.ret (Value.ref s.heap.objs.size))) { s with heap := s.heap.push { cls := Value.type "list", data := Data.seq (items ++ items2) }, toks := s.toks }) :=
  .of_wp fun prog w A R s h => by obtain ⟨hp, g, d, tk, os⟩ := s; obtain ⟨hl, hb, h⟩ := h; have f1 := AutoSeq1.idx_int; have f2 := AutoSeq1.sub_tuple_tuple; have f3 := AutoSeq1.sub_list_list; have f4 := AutoSeq1.sub_tuple_list; have f5 := AutoSeq1.sub_list_tuple; wp_walk using AutoSeq1.wpAny_loadPart' hl, AutoSeq1.wpAny_loadPart' hb; exact ⟨_, rfl, h⟩
def rCatS (K : PySem.W.Frag) : R2 := fun x y H Q => ∃ l b xs zs, x = .ref l ∧ y = .ref b ∧ SqL K H l xs ∧ SqL K H b zs ∧ xs.length + zs.length ≤ sizeLine ∧ ∀ p, H p = none → Q (.ref p) (upd H p (.lst (xs ++ zs)))
theorem op_catS : OpR X (binaryOp .Add) (rCatS X.K) := by
  intro pins s σ H x y v u Q I rx ry h
  obtain ⟨l, b, xs, zs, rfl, rfl, hH, hB, hz, q⟩ := h
  cases rx
  cases ry
  obtain ⟨its, r, ⟨⟨c1, d1, dt1, sl1⟩, n, e, hc, hd, hdat⟩, z⟩ := I.list hH
  obtain ⟨its2, r2, ⟨⟨c2, d2, dt2, sl2⟩, n2, e2, hc2, hd2, hdat2⟩, z2⟩ := I.list hB
  simp only at hc hd hdat hc2 hd2 hdat2
  subst hc hd hdat hc2 hd2 hdat2
  have l1 := r.length
  have l2 := r2.length
  refine concat_meets ⟨_, e, rfl⟩ ⟨_, e2, rfl⟩ noFill_list_add seq_list_add F.slot_list_add F.entry_list_add (F.args_list_add_2 _ _) (list_add_any l its.toArray n sl1 b its2.toArray n2 sl2 (by rw [List.size_toArray, List.size_toArray]; omega)) ⟨e, e2, ?_⟩
  have ea : its.toArray ++ its2.toArray = (its ++ its2).toArray := by simp
  rw [ea]
  exact ⟨.ref _, _, I.lnew (t' := s.toks) (r.append r2) (by rw [List.length_append]; omega), rfl, q _ I.fresh⟩
def pAdd : List D → Option D
  | [.int a, .int b] => some (.int (a + b))
  | [.str a, .str b] => if a.length + b.length ≤ LN then some (.str (a ++ b)) else none
  | [.lst _ xs, .lst _ ys] => if xs.length + ys.length ≤ LN then some (.lst true (xs ++ ys)) else none
  | [.tup xs, .tup ys] => if xs.length + ys.length ≤ LN then some (.tup (xs ++ ys)) else none
  | _ => none
theorem o_add : OpR X (binaryOp .Add) (two (rPrim X.K pAdd)) := by
  intro pins s σ H x y v u Q I rx ry ⟨Av, ds, d, ok, r, hp, q⟩
  obtain ⟨a, b, rfl, ra, rb⟩ := all2_two r
  cases ra with
  | non => cases hp
  | bl _ => cases hp
  | int i =>
    cases rb with
    | int j =>
      have hp : some (D.int (i + j)) = some d := hp
      cases hp
      exact op_add pins s σ H _ _ v u Q I rx ry ⟨i, j, rfl, rfl, ans ok (.int _) q⟩
    | _ => cases hp
  | str i =>
    cases rb with
    | str j =>
      have hp : (if i.length + j.length ≤ LN then some (D.str (i ++ j)) else none) = some d := hp
      split at hp
      · rename_i hl
        cases hp
        exact op_add_str pins s σ H _ _ v u Q I rx ry ⟨i, j, rfl, rfl, by rw [← ln_line]; exact hl, ans ok (.str _) q⟩
      · cases hp
    | _ => cases hp
  | @tup a1 vs1 ds1 h1 h2 =>
    cases rb with
    | @tup a2 vs2 ds2 h3 h4 =>
      have hp : (if ds1.length + ds2.length ≤ LN then some (D.tup (ds1 ++ ds2)) else none) = some d := hp
      split at hp
      · rename_i hl
        cases hp
        refine op_catA pins s σ H _ _ v u Q I rx ry ⟨a1, a2, vs1, vs2, rfl, rfl, h1, h3, by rw [h2.length, h4.length, ← ln_line]; exact hl, fun e => ?_, fun _ e => ?_, fun _ _ => ansT ok (h2.app0 h4) q⟩
        · obtain rfl := h2.nil_iff.mp e
          exact ans ok (.tup h3 h4) q
        · obtain rfl := h4.nil_iff.mp e
          exact ans ok (.tup h1 (by rw [List.append_nil]; exact h2)) q
      · cases hp
    | _ => cases hp
  | @lst a1 vs1 ds1 o1 h1 h0 h2 =>
    cases rb with
    | @lst a2 vs2 ds2 o2 h3 h00 h4 =>
      have hp : (if ds1.length + ds2.length ≤ LN then some (D.lst true (ds1 ++ ds2)) else none) = some d := hp
      split at hp
      · rename_i hl
        cases hp
        exact op_catS pins s σ H _ _ v u Q I rx ry ⟨a1, a2, vs1, vs2, rfl, rfl, h1, h3, by rw [h2.length, h4.length, ← ln_line]; exact hl, ansL ok (h2.app0 h4) q⟩
      · cases hp
    | _ => cases hp

/-! ### ints -/
def pI2 (c : Int → Int → Bool) (g : Int → Int → D) : List D → Option D
  | [.int a, .int b] => if c a b = true then some (g a b) else none
  | _ => none
theorem o_ints {f : Value → Value → Sem Value} {C : Int → Int → Prop} {g : Int → Int → V} {c : Int → Int → Bool} {gd : Int → Int → D} (h : OpR X f (rI C g)) (hc : ∀ i j, c i j = true → C i j) (hg : ∀ (Av : Addr → Prop) H i j, Rep X.K Av H [] (g i j) (gd i j)) : OpR X f (two (rPrim X.K (pI2 c gd))) := by
  intro pins s σ H x y v u Q I rx ry ⟨Av, ds, d, ok, r, hp, q⟩
  obtain ⟨a, b, rfl, ra, rb⟩ := all2_two r
  cases ra with
  | int i =>
    cases rb with
    | int j =>
      have hp : (if c i j = true then some (gd i j) else none) = some d := hp
      split at hp
      · rename_i hh
        cases hp
        exact h pins s σ H _ _ v u Q I rx ry ⟨i, j, rfl, rfl, hc i j hh, ans ok (hg _ _ _ _) q⟩
      · cases hp
    | _ => cases hp
  | _ => cases hp
theorem rI_of {f : Value → Value → Sem Value} {g : Int → Int → V} (h : OpR X f (rI0 g)) : OpR X f (rI (fun _ _ => True) g) := by
  intro pins s σ H x y v u Q I rx ry ⟨i, j, e1, e2, _, q⟩
  exact h pins s σ H x y v u Q I rx ry ⟨i, j, e1, e2, q⟩
abbrev cT : Int → Int → Bool := fun _ _ => true
def pSub := pI2 cT fun i j => .int (i - j)
theorem o_sub : OpR X (binaryOp .Sub) (two (rPrim X.K pSub)) := o_ints (rI_of op_sub) (fun _ _ _ => trivial) fun _ _ _ _ => .int _
def cDiv (i j : Int) : Bool := decide (0 < j) && decide (j < 1073741824)
def pDiv := pI2 cDiv fun i j => .int (i / j)
theorem o_fdiv : OpR X (binaryOp .FloorDiv) (two (rPrim X.K pDiv)) := o_ints op_fdiv (fun i j h => by unfold cDiv at h; simpa [CDiv] using h) fun _ _ _ _ => .int _
def cMod (i j : Int) : Bool := decide (0 < j)
def pMod := pI2 cMod fun i j => .int (i % j)
theorem o_mod : OpR X (binaryOp .Mod) (two (rPrim X.K pMod)) := o_ints op_mod (fun i j h => by unfold cMod at h; simpa using h) fun _ _ _ _ => .int _
def cPow (i j : Int) : Bool := decide (0 ≤ j) && decide (j ≤ 1000000) && decide (i.natAbs < 2 ^ 64)
def pPow := pI2 cPow fun i j => .int (i ^ j.toNat)
theorem o_pow : OpR X (binaryOp .Pow) (two (rPrim X.K pPow)) := o_ints op_pow (fun i j h => by unfold cPow at h; simpa [CPow, and_assoc] using h) fun _ _ _ _ => .int _
def pLt := pI2 cT fun i j => .bl (decide (i < j))
def pLe := pI2 cT fun i j => .bl (decide (i ≤ j))
def pGt := pI2 cT fun i j => .bl (decide (j < i))
def pGe := pI2 cT fun i j => .bl (decide (j ≤ i))
theorem o_lt : OpR X (compareOp .Lt) (two (rPrim X.K pLt)) := o_ints (rI_of op_lt) (fun _ _ _ => trivial) fun _ _ _ _ => .bl _
theorem o_le : OpR X (compareOp .LtE) (two (rPrim X.K pLe)) := o_ints (rI_of op_le) (fun _ _ _ => trivial) fun _ _ _ _ => .bl _
theorem o_gt : OpR X (compareOp .Gt) (two (rPrim X.K pGt)) := o_ints (rI_of op_gt) (fun _ _ _ => trivial) fun _ _ _ _ => .bl _
theorem o_ge : OpR X (compareOp .GtE) (two (rPrim X.K pGe)) := o_ints (rI_of op_ge) (fun _ _ _ => trivial) fun _ _ _ _ => .bl _

/-! ### * -/
def cMul (i j : Int) : Bool := (decide (-(2 ^ 64) < i) && decide (i < 2 ^ 64)) || (decide (-(2 ^ 64) < j) && decide (j < 2 ^ 64))
def repD (k : Nat) (xs : List D) : List D := (List.replicate k xs).flatten
def pMul : List D → Option D
  | [.int a, .int b] => if cMul a b = true then some (.int (a * b)) else none
  | [.lst true xs, .int k] => if -(2 ^ 63) ≤ k ∧ k < 2 ^ 63 ∧ xs.length * k.toNat ≤ LN then some (.lst true (repD k.toNat xs)) else none
  | _ => none
theorem rep_rep (h : RepL K Av H [] vs ds) : ∀ k, RepL K Av H [] (List.replicate k vs).flatten (repD k ds)
  | 0 => .nil
  | k + 1 => by
    unfold repD
    rw [List.replicate_succ, List.replicate_succ, List.flatten_cons, List.flatten_cons]
    exact h.app0 (rep_rep h k)
theorem o_mul : OpR X (binaryOp .Mult) (two (rPrim X.K pMul)) := by
  intro pins s σ H x y v u Q I rx ry ⟨Av, ds, d, ok, r, hp, q⟩
  obtain ⟨a, b, rfl, ra, rb⟩ := all2_two r
  cases ra with
  | int i =>
    cases rb with
    | int j =>
      have hp : (if cMul i j = true then some (D.int (i * j)) else none) = some d := hp
      split at hp
      · rename_i hh
        cases hp
        exact op_mul pins s σ H _ _ v u Q I rx ry ⟨i, j, rfl, rfl, by unfold cMul at hh; simpa [CMul] using hh, ans ok (.int _) q⟩
      · cases hp
    | _ => cases hp
  | @lst a1 vs1 ds1 o1 h1 h0 h2 =>
    cases o1 with
    | false => cases rb <;> cases hp
    | true =>
      cases rb with
      | int k =>
        have hp : (if -(2 ^ 63) ≤ k ∧ k < 2 ^ 63 ∧ ds1.length * k.toNat ≤ LN then some (D.lst true (repD k.toNat ds1)) else none) = some d := hp
        split at hp
        · rename_i hh
          cases hp
          exact op_rep pins s σ H _ _ v u Q I rx ry ⟨a1, k, vs1, rfl, rfl, h0 rfl, hh.1, hh.2.1, by rw [h2.length, ← ln_line]; exact hh.2.2, ansL ok (rep_rep h2 _) q⟩
        · cases hp
      | _ => cases hp
  | _ => cases hp

/-! ### -x -/
def pNeg : List D → Option D
  | [.int a] => some (.int (-a))
  | _ => none
theorem u_neg : UnR X (unaryOp .USub) (fun x H Q => rPrim X.K pNeg [x] H Q) := by
  intro pins s σ H x v Q I rx ⟨Av, ds, d, ok, r, hp, q⟩
  obtain ⟨a, rfl, ra⟩ := all2_one r
  cases ra with
  | int i =>
    have hp : some (D.int (-i)) = some d := hp
    cases hp
    exact un_neg pins s σ H _ v Q I rx ⟨i, rfl, ans ok (.int _) q⟩
  | _ => cases hp

/-! ### == -/
def toP : D → PyData
  | .non => .none
  | .bl b => .bool b
  | .int i => .int i
  | .str x => .str x
  | .tup xs => .tuple (toPs xs)
  | .lst _ xs => .list (toPs xs)
  | _ => .dict []
where toPs : List D → List PyData
  | [] => []
  | x :: xs => toP x :: toPs xs
mutual
theorem Rep.dp : ∀ {d : D} {v : V}, Rep K Av H [] v d → SeqAt.shaped (toP d) = true ∨ True → Dp K H v (toP d)
  | .non, _, h, _ => by cases h; exact .non
  | .bl _, _, h, _ => by cases h; exact .bl _
  | .int _, _, h, _ => by cases h; exact .int _
  | .str _, _, h, _ => by cases h; exact .str _
  | .tup xs, _, h, _ => by
    cases h with
    | tup h1 h2 => exact .tup h1 (RepL.dp (ds := xs) h2)
  | .lst o xs, _, h, _ => by
    generalize e : ([] : List Addr) = F at h
    cases h with
    | lstF h1 _ h3 => exact .lst (.inl h1) (RepL.dp (ds := xs) h3)
    | lstK h1 h3 => exact .lst (sql_any h1) (RepL.dp (ds := xs) h3)
    | lstO _ _ _ _ _ => cases e
  | .dct _ _, _, h, _ => by cases h
  | .set _ _, _, h, _ => by cases h
  | .exn _ _, _, h, _ => by cases h
theorem RepL.dp : ∀ {ds : List D} {vs : List V}, RepL K Av H [] vs ds → DpAll K H vs (toP.toPs ds)
  | [], _, h => by
    obtain rfl := h.nil_iff.mpr rfl
    exact .nil
  | d :: ds, _, h => by
    generalize e : ([] : List Addr) = F at h
    cases h with
    | cons h1 h2 =>
      obtain ⟨e1, e2⟩ := List.append_eq_nil_iff.mp e.symm
      subst e1; subst e2
      exact .cons (Rep.dp h1 (.inr trivial)) (RepL.dp h2)
end
theorem RepC.dp (h : RepC K Av H v d) : Dp K H v (toP d) := by
  cases h with
  | non => exact .non
  | bl b => exact .bl b
  | int i => exact .int i
  | str s => exact .str s
  | tup h1 h2 => exact .tup h1 h2.dp
  | lst h1 h0 h2 => exact .lst h1 h2.dp
def okP (d : D) : Bool := SeqAt.shaped (toP d)
def pEq : List D → Option D
  | [x, y] => if (okP x && okP y) = true then some (.bl (PyData.eqv (toP x) (toP y))) else none
  | _ => none
def pNe : List D → Option D
  | [x, y] => if (okP x && okP y) = true then some (.bl (!PyData.eqv (toP x) (toP y))) else none
  | _ => none
theorem o_eq (hu : X.A.units + 64 < cLine) : OpR X (compareOp .Eq) (two (rPrim X.K pEq)) := by
  intro pins s σ H x y v u Q I rx ry ⟨Av, ds, d, ok, r, hp, q⟩
  obtain ⟨a, b, rfl, ra, rb⟩ := all2_two r
  have hp : (if (okP a && okP b) = true then some (D.bl (PyData.eqv (toP a) (toP b))) else none) = some d := hp
  split at hp
  · rename_i hh
    rw [Bool.and_eq_true] at hh
    cases hp
    exact op_eqD hu pins s σ H _ _ v u Q I rx ry ⟨_, _, ra.dp, rb.dp, hh.1, hh.2, ans ok (.bl _) q⟩
  · cases hp
theorem o_ne (hu : X.A.units + 64 < cLine) : OpR X (compareOp .NotEq) (two (rPrim X.K pNe)) := by
  intro pins s σ H x y v u Q I rx ry ⟨Av, ds, d, ok, r, hp, q⟩
  obtain ⟨a, b, rfl, ra, rb⟩ := all2_two r
  have hp : (if (okP a && okP b) = true then some (D.bl (!PyData.eqv (toP a) (toP b))) else none) = some d := hp
  split at hp
  · rename_i hh
    rw [Bool.and_eq_true] at hh
    cases hp
    exact op_neD hu pins s σ H _ _ v u Q I rx ry ⟨_, _, ra.dp, rb.dp, hh.1, hh.2, ans ok (.bl _) q⟩
  · cases hp
theorem hu_room {A : Around} {k : Nat} (hr : Room k A) : A.units + 64 < cLine := by have := hr.un; omega
theorem hu_room1 {A : Around} {k : Nat} (hr : Room k A) : A.units + 65 < cLine := by have := hr.un; omega
end
end Y

end
section
set_option Elab.async false
set_option linter.all false
set_option maxRecDepth 100000
set_option autoImplicit false
/-! Y18: in, is, subscripts, slices, built-ins. -/
namespace Y
open PySem L2
section
variable {X : Cx} {K : PySem.W.Frag} {Av Av' : Addr → Prop} {H H' : Hp} {v : V} {d : D} {vs : List V} {ds : List D}

/-! ### in -/
def hasP (ys : List D) (x : D) : Bool := (toP.toPs ys).any fun z => PyData.eqv z (toP x)
def pInG (neg : Bool) : List D → Option D
  | [x, .tup ys] => if (okP x && okP (.tup ys)) = true then some (.bl (if neg then !hasP ys x else hasP ys x)) else none
  | [x, .lst o ys] => if (okP x && okP (.lst o ys)) = true then some (.bl (if neg then !hasP ys x else hasP ys x)) else none
  | _ => none
abbrev pIn := pInG false
abbrev pNotIn := pInG true
theorem o_inG (neg : Bool) (hu : X.A.units + 65 < cLine) : OpR X (compareOp (if neg then .NotIn else .In)) (two (rPrim X.K (pInG neg))) := by
  intro pins s σ H x y v u Q I rx ry ⟨Av, ds, d, ok, r, hp, q⟩
  obtain ⟨a, b, rfl, ra, rb⟩ := all2_two r
  obtain ⟨as, r1⟩ := Dp.reads I (toP a) x v ra.dp rx
  obtain ⟨bs, r2⟩ := Dp.reads I (toP b) y u rb.dp ry
  cases rb with
  | @tup a2 vs2 ys h3 h4 =>
    have hp : (if (okP a && okP (.tup ys)) = true then some (D.bl (if neg then !hasP ys a else hasP ys a)) else none) = some d := hp
    split at hp
    · rename_i hh
      rw [Bool.and_eq_true] at hh
      cases hp
      have c1 : PyData.canLay0 (toP (.tup ys)) = true := SeqAt.canLay_of_shaped hh.2
      have c2 := SeqAt.canLay_of_shaped hh.1
      cases neg with
      | false => exact SeqAt.in_tuple_reads r2 r1 c1 c2 (PyProof.Rows.room_in_shaped hh.1 hu) ⟨.bl _, H, I, rfl, ans ok (.bl _) q⟩
      | true => exact SeqAt.notIn_tuple_reads r2 r1 c1 c2 (PyProof.Rows.room_in_shaped hh.1 hu) ⟨.bl _, H, I, rfl, ans ok (.bl _) q⟩
    · cases hp
  | @lst a2 vs2 ys o h3 h00 h4 =>
    have hp : (if (okP a && okP (.lst o ys)) = true then some (D.bl (if neg then !hasP ys a else hasP ys a)) else none) = some d := hp
    split at hp
    · rename_i hh
      rw [Bool.and_eq_true] at hh
      cases hp
      have c1 : PyData.canLay0 (toP (.lst o ys)) = true := SeqAt.canLay_of_shaped hh.2
      have c2 := SeqAt.canLay_of_shaped hh.1
      cases neg with
      | false => exact SeqAt.in_list_reads r2 r1 c1 c2 (PyProof.Rows.room_in_shaped hh.1 hu) ⟨.bl _, H, I, rfl, ans ok (.bl _) q⟩
      | true => exact SeqAt.notIn_list_reads r2 r1 c1 c2 (PyProof.Rows.room_in_shaped hh.1 hu) ⟨.bl _, H, I, rfl, ans ok (.bl _) q⟩
    · cases hp
  | _ => cases hp
theorem o_in (hu : X.A.units + 65 < cLine) : OpR X (compareOp .In) (two (rPrim X.K pIn)) := o_inG false hu
theorem o_notIn (hu : X.A.units + 65 < cLine) : OpR X (compareOp .NotIn) (two (rPrim X.K pNotIn)) := o_inG true hu
/-! ### is None -/
def isNon : D → Bool
  | .non => true
  | _ => false
def pIs : List D → Option D
  | [x, .non] => some (.bl (isNon x))
  | _ => none
def pIsNot : List D → Option D
  | [x, .non] => some (.bl (!isNon x))
  | _ => none
theorem isNon_rep {a : D} {x : V} (h : RepC K Av H x a) : decide (x = .non) = isNon a := by
  cases h <;> rfl
theorem o_is : OpR X (compareOp .Is) (two (rPrim X.K pIs)) := by
  intro pins s σ H x y v u Q I rx ry ⟨Av, ds, d, ok, r, hp, q⟩
  obtain ⟨a, b, rfl, ra, rb⟩ := all2_two r
  cases rb with
  | non =>
    have hp : some (D.bl (isNon a)) = some d := hp
    cases hp
    exact op_isN pins s σ H _ _ v u Q I rx ry ⟨rfl, by rw [isNon_rep ra]; exact ans ok (.bl _) q⟩
  | _ => cases hp
theorem o_isNot : OpR X (compareOp .IsNot) (two (rPrim X.K pIsNot)) := by
  intro pins s σ H x y v u Q I rx ry ⟨Av, ds, d, ok, r, hp, q⟩
  obtain ⟨a, b, rfl, ra, rb⟩ := all2_two r
  cases rb with
  | non =>
    have hp : some (D.bl (!isNon a)) = some d := hp
    cases hp
    exact op_notN pins s σ H _ _ v u Q I rx ry ⟨rfl, by rw [isNon_rep ra]; exact ans ok (.bl _) q⟩
  | _ => cases hp
/-! ### x[i] -/
def pIx : List D → Option D
  | [.lst _ xs, .int i] => atI (frz.frzL xs) i
  | [.tup xs, .int i] => atI (frz.frzL xs) i
  | [.str x, .int i] => if x.length ≤ LN then (atI x.cps.toList i).map fun c => .str ⟨#[c]⟩ else none
  | _ => none
theorem rep_at {i : Int} (h : RepL K Av H [] vs ds) (e : atI ds i = some d) : ∃ v, atI vs i = some v ∧ Rep K Av H [] v d := by
  unfold atI at e ⊢
  rw [h.length]
  cases q : ixN ds.length i with
  | none => rw [q] at e; cases e
  | some j =>
    rw [q] at e
    exact h.all2.get e
theorem x_ix : IxR X (two (rPrim X.K pIx)) := by
  intro value slice pins s σ H x y v u Q I rx ry ⟨Av, ds, d, ok, r, hp, q⟩ hs
  obtain ⟨a, b, rfl, ra, rb⟩ := all2_two r
  cases ra with
  | @lst a1 vs1 ds1 o1 h1 h0 h2 =>
    cases rb with
    | int i =>
      have hp : atI (frz.frzL ds1) i = some d := hp
      rw [frzL_idem h2] at hp
      obtain ⟨w, hw, rw'⟩ := rep_at h2 hp
      exact ix_seq value slice pins s σ H _ _ v u Q I rx ry (.inl ⟨a1, vs1, i, w, rfl, rfl, h1, hw, ans ok rw' q⟩) hs
    | _ => cases hp
  | @tup a1 vs1 ds1 h1 h2 =>
    cases rb with
    | int i =>
      have hp : atI (frz.frzL ds1) i = some d := hp
      rw [frzL_idem h2] at hp
      obtain ⟨w, hw, rw'⟩ := rep_at h2 hp
      exact ix_seq value slice pins s σ H _ _ v u Q I rx ry (.inr (.inl ⟨a1, vs1, i, w, rfl, rfl, h1, hw, ans ok rw' q⟩)) hs
    | _ => cases hp
  | str z =>
    cases rb with
    | int i =>
      have hp : (if z.length ≤ LN then (atI z.cps.toList i).map fun c => D.str ⟨#[c]⟩ else none) = some d := hp
      split at hp
      · rename_i hl
        cases q1 : atI z.cps.toList i with
        | none => rw [q1] at hp; cases hp
        | some c =>
          rw [q1] at hp
          cases hp
          exact ix_seq value slice pins s σ H _ _ v u Q I rx ry (.inr (.inr ⟨z, i, c, rfl, rfl, by rw [← ln_line]; exact hl, q1, ans ok (.str _) q⟩)) hs
      · cases hp
    | _ => cases hp
  | _ => cases rb <;> cases hp
/-! ### x[lo:hi] -/
def cutD (xs : List D) (lo hi : Option Int) : List D := (xs.drop (HT.sIx xs.length 0 lo)).take (HT.sIx xs.length xs.length hi - HT.sIx xs.length 0 lo)
def pSl (lo hi : Option Int) : List D → Option D
  | [.lst _ xs] => some (.lst true (cutD xs lo hi))
  | [.tup xs] => some (.tup (cutD xs lo hi))
  | [.str x] => if x.length ≤ LN then some (.str (Txt.slice x lo hi)) else none
  | _ => none
theorem rep_cut {lo hi : Option Int} (h : RepL K Av H [] vs ds) : RepL K Av H [] (cutV vs lo hi) (cutD ds lo hi) := by
  unfold cutV cutD
  rw [h.length]
  exact RepL.of_all2 ((h.all2.drop _).take _)
theorem l_sl : SlR X (fun x lo hi H Q => rPrim X.K (pSl lo hi) [x] H Q) := by
  intro pins s σ H x v vl vu lo hi sl Q I rx hs pl pu ⟨Av, ds, d, ok, r, hp, q⟩
  obtain ⟨a, rfl, ra⟩ := all2_one r
  cases ra with
  | @lst a1 vs1 ds1 o1 h1 h0 h2 =>
    have hp : some (D.lst true (cutD ds1 lo hi)) = some d := hp
    cases hp
    exact sl_list pins s σ H _ v vl vu lo hi sl Q I rx hs pl pu ⟨a1, vs1, rfl, h1, ansL ok (rep_cut h2) q⟩
  | @tup a1 vs1 ds1 h1 h2 =>
    have hp : some (D.tup (cutD ds1 lo hi)) = some d := hp
    cases hp
    refine sl_tupA pins s σ H _ v vl vu lo hi sl Q I rx hs pl pu ⟨a1, vs1, rfl, h1, fun hw => ?_, fun _ => ansT ok (rep_cut h2) q⟩
    refine ans ok (.tup h1 ?_) q
    have e : cutD ds1 lo hi = ds1 := by
      unfold cutD
      rw [← h2.length, hw.1, hw.2, h2.length]
      simp
    rw [e]; exact h2
  | str z =>
    have hp : (if z.length ≤ LN then some (D.str (Txt.slice z lo hi)) else none) = some d := hp
    split at hp
    · rename_i hl
      cases hp
      exact C8.sl_txt pins s σ H _ v vl vu lo hi sl Q I rx hs pl pu ⟨z, rfl, by rw [← ln_line]; exact hl, ans ok (.str _) q⟩
    · cases hp
  | _ => cases hp
/-! ### calls -/
def pAbs : List D → Option D
  | [.int i] => some (.int (if i < 0 then -i else i))
  | _ => none
theorem c_abs : CallR X (.builtin "abs") (rPrim X.K pAbs) := by
  intro pins s σ H xs us Q I rx ⟨Av, ds, d, ok, r, hp, q⟩
  match ds, r, hp with
  | [.int i], r, hp =>
    obtain ⟨x, xs', rfl, r1, r⟩ := all2_cons r
    obtain rfl := all2_nil r
    cases r1
    have hp : some (D.int (if i < 0 then -i else i)) = some d := hp
    cases hp
    exact call_abs pins s σ H _ us Q I rx ⟨i, rfl, ans ok (.int _) q⟩
def pLen : List D → Option D
  | [.lst _ xs] => some (.int xs.length)
  | [.tup xs] => some (.int xs.length)
  | [.str x] => if x.length ≤ LN then some (.int x.length) else none
  | _ => none
theorem c_len : CallR X (.builtin "len") (rPrim X.K pLen) := by
  intro pins s σ H xs us Q I rx ⟨Av, ds, d, ok, r, hp, q⟩
  match ds, r, hp with
  | [], r, hp => cases hp
  | a :: b :: _, r, hp => cases a <;> cases hp
  | [a], r, hp =>
    obtain ⟨x, xs', rfl, r1, r⟩ := all2_cons r
    obtain rfl := all2_nil r
    cases r1 with
    | @lst a1 vs1 ds1 o1 h1 h0 h2 =>
      have hp : some (D.int ds1.length) = some d := hp
      cases hp
      exact call_len_seq pins s σ H _ us Q I rx ⟨a1, vs1, rfl, .inl h1, by rw [h2.length]; exact ans ok (.int _) q⟩
    | @tup a1 vs1 ds1 h1 h2 =>
      have hp : some (D.int ds1.length) = some d := hp
      cases hp
      exact call_len_seq pins s σ H _ us Q I rx ⟨a1, vs1, rfl, .inr h1, by rw [h2.length]; exact ans ok (.int _) q⟩
    | str z =>
      have hp : (if z.length ≤ LN then some (D.int z.length) else none) = some d := hp
      split at hp
      · rename_i hl
        cases hp
        exact call_len_str pins s σ H _ us Q I rx ⟨z, rfl, by rw [← ln_line]; exact hl, ans ok (.int _) q⟩
      · cases hp
    | _ => cases hp
def pInt : List D → Option D
  | [.int i] => some (.int i)
  | [.bl b] => some (.int (if b then 1 else 0))
  | _ => none
theorem c_int : CallR X (.type "int") (rPrim X.K pInt) := by
  intro pins s σ H xs us Q I rx ⟨Av, ds, d, ok, r, hp, q⟩
  match ds, r, hp with
  | [.int i], r, hp =>
    obtain ⟨x, xs', rfl, r1, r⟩ := all2_cons r
    obtain rfl := all2_nil r
    cases r1
    have hp : some (D.int i) = some d := hp
    cases hp
    exact call_int1 pins s σ H _ us Q I rx (.inl ⟨i, rfl, ans ok (.int _) q⟩)
  | [.bl b], r, hp =>
    obtain ⟨x, xs', rfl, r1, r⟩ := all2_cons r
    obtain rfl := all2_nil r
    cases r1
    have hp : some (D.int (if b then 1 else 0)) = some d := hp
    cases hp
    exact call_int1 pins s σ H _ us Q I rx (.inr ⟨b, rfl, ans ok (.int _) q⟩)
def pList : List D → Option D
  | [.lst _ xs] => some (.lst true xs)
  | [.tup xs] => some (.lst true xs)
  | _ => none
theorem c_list : CallR X (.type "list") (rPrim X.K pList) := by
  intro pins s σ H xs us Q I rx ⟨Av, ds, d, ok, r, hp, q⟩
  match ds, r, hp with
  | [.lst o ds1], r, hp =>
    obtain ⟨x, xs', rfl, r1, r⟩ := all2_cons r
    obtain rfl := all2_nil r
    have hp : some (D.lst true ds1) = some d := hp
    cases hp
    cases r1 with
    | lst h1 h0 h2 => exact call_list_of pins s σ H _ us Q I rx ⟨_, _, rfl, .inl h1, ansL ok h2 q⟩
  | [.tup ds1], r, hp =>
    obtain ⟨x, xs', rfl, r1, r⟩ := all2_cons r
    obtain rfl := all2_nil r
    have hp : some (D.lst true ds1) = some d := hp
    cases hp
    cases r1 with
    | tup h1 h2 => exact call_list_of pins s σ H _ us Q I rx ⟨_, _, rfl, .inr h1, ansL ok h2 q⟩
def pTuple : List D → Option D
  | [.lst _ xs] => some (.tup xs)
  | [.tup xs] => some (.tup xs)
  | _ => none
theorem c_tuple : CallR X (.type "tuple") (rPrim X.K pTuple) := by
  intro pins s σ H xs us Q I rx ⟨Av, ds, d, ok, r, hp, q⟩
  match ds, r, hp with
  | [.lst o ds1], r, hp =>
    obtain ⟨x, xs', rfl, r1, r⟩ := all2_cons r
    obtain rfl := all2_nil r
    have hp : some (D.tup ds1) = some d := hp
    cases hp
    cases r1 with
    | lst h1 h0 h2 => exact call_tuple_of pins s σ H _ us Q I rx ⟨_, _, rfl, .inl ⟨h1, ansT ok h2 q⟩⟩
  | [.tup ds1], r, hp =>
    obtain ⟨x, xs', rfl, r1, r⟩ := all2_cons r
    obtain rfl := all2_nil r
    have hp : some (D.tup ds1) = some d := hp
    cases hp
    cases r1 with
    | tup h1 h2 => exact call_tuple_of pins s σ H _ us Q I rx ⟨_, _, rfl, .inr ⟨h1, ans ok (.tup h1 h2) q⟩⟩
/-- all bools, all ints -/
def blsOf : List D → Option (List Bool)
  | [] => some []
  | .bl b :: r => (blsOf r).map (b :: ·)
  | _ :: _ => none
def intsOf : List D → Option (List Int)
  | [] => some []
  | .int b :: r => (intsOf r).map (b :: ·)
  | _ :: _ => none
theorem blsOf_rep : ∀ {ds : List D} {vs : List V} {bs : List Bool}, All2 (Rep K Av H []) vs ds → blsOf ds = some bs → vs = bs.map V.bl
  | [], _, _, r, h => by cases h; exact all2_nil r
  | .bl b :: r, _, bs, rr, h => by
    obtain ⟨x, xs', rfl, r1, r⟩ := all2_cons rr
    have h : (blsOf _).map (b :: ·) = some bs := h
    obtain ⟨bs', h1, rfl⟩ := Option.map_eq_some_iff.mp h
    cases r1
    rw [blsOf_rep r h1]; rfl
theorem intsOf_rep : ∀ {ds : List D} {vs : List V} {bs : List Int}, All2 (Rep K Av H []) vs ds → intsOf ds = some bs → vs = bs.map V.int
  | [], _, _, r, h => by cases h; exact all2_nil r
  | .int b :: r, _, bs, rr, h => by
    obtain ⟨x, xs', rfl, r1, r⟩ := all2_cons rr
    have h : (intsOf _).map (b :: ·) = some bs := h
    obtain ⟨bs', h1, rfl⟩ := Option.map_eq_some_iff.mp h
    cases r1
    rw [intsOf_rep r h1]; rfl
def pAll : List D → Option D
  | [.lst _ xs] => (blsOf xs).map fun bs => .bl (bs.all id)
  | _ => none
def pAny : List D → Option D
  | [.lst _ xs] => (blsOf xs).map fun bs => .bl (bs.any id)
  | _ => none
theorem c_all (hc : X.calm = true) : CallR X (.builtin "all") (rPrim X.K pAll) := by
  intro pins s σ H xs us Q I rx ⟨Av, ds, d, ok, r, hp, q⟩
  match ds, r, hp with
  | [.lst o ds1], r, hp =>
    obtain ⟨x, xs', rfl, r1, r⟩ := all2_cons r
    obtain rfl := all2_nil r
    have hp : (blsOf ds1).map (fun bs => D.bl (bs.all id)) = some d := hp
    obtain ⟨bs, h1, rfl⟩ := Option.map_eq_some_iff.mp hp
    cases r1 with
    | lst h2 h0 h3 =>
      have e := blsOf_rep h3.all2 h1
      subst e
      exact cr_all hc pins s σ H _ us Q I rx ⟨_, bs, rfl, h2, ans ok (.bl _) q⟩
theorem c_any (hc : X.calm = true) : CallR X (.builtin "any") (rPrim X.K pAny) := by
  intro pins s σ H xs us Q I rx ⟨Av, ds, d, ok, r, hp, q⟩
  match ds, r, hp with
  | [.lst o ds1], r, hp =>
    obtain ⟨x, xs', rfl, r1, r⟩ := all2_cons r
    obtain rfl := all2_nil r
    have hp : (blsOf ds1).map (fun bs => D.bl (bs.any id)) = some d := hp
    obtain ⟨bs, h1, rfl⟩ := Option.map_eq_some_iff.mp hp
    cases r1 with
    | lst h2 h0 h3 =>
      have e := blsOf_rep h3.all2 h1
      subst e
      exact cr_any hc pins s σ H _ us Q I rx ⟨_, bs, rfl, h2, ans ok (.bl _) q⟩
def pSum : List D → Option D
  | [.lst _ xs] => (intsOf xs).map fun ns => .int ns.sum
  | _ => none
theorem c_sum (hc : X.calm = true) : CallR X (.builtin "sum") (rPrim X.K pSum) := by
  intro pins s σ H xs us Q I rx ⟨Av, ds, d, ok, r, hp, q⟩
  match ds, r, hp with
  | [.lst o ds1], r, hp =>
    obtain ⟨x, xs', rfl, r1, r⟩ := all2_cons r
    obtain rfl := all2_nil r
    have hp : (intsOf ds1).map (fun bs => D.int bs.sum) = some d := hp
    obtain ⟨bs, h1, rfl⟩ := Option.map_eq_some_iff.mp hp
    cases r1 with
    | lst h2 h0 h3 =>
      have e := intsOf_rep h3.all2 h1
      subst e
      exact cr_sum hc pins s σ H _ us Q I rx ⟨_, bs, rfl, h2, ans ok (.int _) q⟩
/-- ints in order -/
def insI (x : Int) : List Int → List Int
  | [] => [x]
  | y :: ys => if x ≤ y then x :: y :: ys else y :: insI x ys
def sortI : List Int → List Int
  | [] => []
  | x :: xs => insI x (sortI xs)
theorem insI_perm (x : Int) : ∀ ys, (insI x ys).Perm (x :: ys)
  | [] => List.Perm.refl _
  | y :: ys => by
    unfold insI
    split
    · exact List.Perm.refl _
    · exact ((insI_perm x ys).cons y).trans (List.Perm.swap x y ys)
theorem sortI_perm : ∀ xs, (sortI xs).Perm xs
  | [] => List.Perm.refl _
  | x :: xs => (insI_perm x _).trans ((sortI_perm xs).cons x)
theorem insI_sorted (x : Int) : ∀ {ys : List Int}, ys.Pairwise (· ≤ ·) → (insI x ys).Pairwise (· ≤ ·)
  | [], _ => by simp [insI]
  | y :: ys, h => by
    unfold insI
    split
    · rename_i hxy
      refine List.pairwise_cons.mpr ⟨fun z hz => ?_, h⟩
      rcases List.mem_cons.mp hz with e | e
      · rw [e]; exact hxy
      · exact Int.le_trans hxy ((List.pairwise_cons.mp h).1 z e)
    · rename_i hxy
      obtain ⟨h1, h2⟩ := List.pairwise_cons.mp h
      refine List.pairwise_cons.mpr ⟨fun z hz => ?_, insI_sorted x h2⟩
      rcases List.mem_cons.mp ((insI_perm x ys).mem_iff.mp hz) with e | e
      · rw [e]; omega
      · exact h1 z e
theorem sortI_sorted : ∀ xs : List Int, (sortI xs).Pairwise (· ≤ ·)
  | [] => .nil
  | x :: xs => insI_sorted x (sortI_sorted xs)
theorem sorted_uniq : ∀ {xs ys : List Int}, xs.Perm ys → xs.Pairwise (· ≤ ·) → ys.Pairwise (· ≤ ·) → xs = ys
  | [], ys, p, _, _ => (List.Perm.nil_eq p)
  | x :: xs, [], p, _, _ => absurd p.length_eq (by simp)
  | x :: xs, y :: ys, p, h1, h2 => by
    obtain ⟨a1, b1⟩ := List.pairwise_cons.mp h1
    obtain ⟨a2, b2⟩ := List.pairwise_cons.mp h2
    have e : x = y := by
      have m1 : x ∈ y :: ys := p.mem_iff.mp List.mem_cons_self
      have m2 : y ∈ x :: xs := p.mem_iff.mpr List.mem_cons_self
      have l1 : y ≤ x := (List.mem_cons.mp m1).elim (fun e => e ▸ Int.le_refl _) (a2 x)
      have l2 : x ≤ y := (List.mem_cons.mp m2).elim (fun e => e ▸ Int.le_refl _) (a1 y)
      omega
    subst e
    rw [sorted_uniq (List.Perm.cons_inv p) b1 b2]
def pSorted : List D → Option D
  | [.lst _ xs] => match intsOf xs with
    | some ns => if ns.length < 64 then some (.lst true ((sortI ns).map .int)) else none
    | none => none
  | _ => none
theorem rep_ints : ∀ {ns : List Int}, RepL K Av H [] (ns.map V.int) (ns.map D.int)
  | [] => .nil
  | n :: ns => .cons (F := []) (G := []) (.int n) rep_ints
theorem c_sorted : CallR X (.builtin "sorted") (rPrim X.K pSorted) := by
  intro pins s σ H xs us Q I rx ⟨Av, ds, d, ok, r, hp, q⟩
  match ds, r, hp with
  | [.lst o ds1], r, hp =>
    obtain ⟨x, xs', rfl, r1, r⟩ := all2_cons r
    obtain rfl := all2_nil r
    have hp : (match intsOf ds1 with
      | some ns => if ns.length < 64 then some (D.lst true ((sortI ns).map .int)) else none
      | none => none) = some d := hp
    cases q1 : intsOf ds1 with
    | none => rw [q1] at hp; cases hp
    | some ns =>
      rw [q1] at hp
      dsimp only at hp
      split at hp
      · rename_i hl
        cases hp
        cases r1 with
        | lst h2 h0 h3 =>
          have e := intsOf_rep h3.all2 q1
          subst e
          refine cr_sorted pins s σ H _ us Q I rx ⟨_, ns, rfl, h2, hl, fun ns' p h1 h4 hp => ?_⟩
          have e : ns' = sortI ns := sorted_uniq (h1.trans (sortI_perm ns).symm) h4 (sortI_sorted ns)
          subst e
          exact ansL ok rep_ints q p hp
      · cases hp
/-! ### isinstance -/
def tyD : D → Option String
  | .non => some "NoneType"
  | .bl _ => some "bool"
  | .int _ => some "int"
  | .str _ => some "str"
  | .tup _ => some "tuple"
  | .lst _ _ => some "list"
  | _ => none
/-- of the built-in types that are served -/
def subT (t T : String) : Bool := t == T || (t == "bool" && T == "int")
def tys : List String := ["bool", "int", "str", "tuple", "list"]
theorem kit_sub {a T : String} (ha : a = "NoneType" ∨ a ∈ tys) (hT : T ∈ tys) : kitB a T = some (subT a T) := by
  have h : ∀ a ∈ "NoneType" :: tys, ∀ T ∈ tys, kitB a T = some (subT a T) := by decide +kernel
  exact h a (List.mem_cons.mpr ha) T hT
theorem tyD_mem {t : String} (h : tyD d = some t) : t = "NoneType" ∨ t ∈ tys := by
  cases d <;> first | (cases h; done) | (cases h; simp [tys])
theorem rep_ty {F : List Addr} {t : String} (ok : AvOk Av H) (r : Rep K Av H F v d) (h : tyD d = some t) : TyX K H v (.type t) := by
  cases r with
  | non => cases h; exact .base .non
  | bl b => cases h; exact .base (.bl b)
  | int i => cases h; exact .base (.int i)
  | str s => cases h; exact .base (.str s)
  | tup h1 h2 =>
    cases h
    rcases h1 with (h1 | ⟨o, h1⟩) | ⟨o, its, n, hk, hc, _⟩
    · exact .base (.tup h1)
    · exact .fTuple h1
    · exact .kTuple hk hc
  | lstF h1 _ _ =>
    cases h
    rcases h1 with h1 | ⟨o, h1⟩
    · exact .base (.lst h1)
    · exact .base (.frz h1)
  | lstK h1 _ =>
    cases h
    rcases h1 with (h1 | ⟨o, h1⟩) | ⟨o, its, n, hk, hc, _⟩
    · cases h1
    · cases h1
    · exact .kList hk hc
  | lstO h1 _ _ _ _ => cases h; exact .base (.lst h1)
def isiP (Ts : List String) : List D → Option D
  | [d] => (tyD d).map fun t => .bl (Ts.any fun T => subT t T)
  | _ => none
theorem kit_any {t : String} (ht : t = "NoneType" ∨ t ∈ tys) : ∀ {Ts : List String}, (∀ T ∈ Ts, T ∈ tys) → PySem.W.kitAny K (.type t) (Ts.map Value.type) = some (Ts.any fun T => subT t T)
  | [], _ => kitAny_nil
  | T :: Ts, h => by
    have h1 := kit_ty (K := K) (kit_sub ht (h T List.mem_cons_self))
    have h2 := kit_any ht (Ts := Ts) fun T hT => h T (List.mem_cons_of_mem _ hT)
    refine kitAny_cons h1 (fun e => ?_) fun e => ?_
    · rw [h2, List.any_cons, e, Bool.false_or]
    · rw [List.any_cons, e, Bool.true_or]
end
section
variable {X : Cx} {W : WX} {xr : (Addr → Prop) → Hp → D → Value → Option Addr → Prop} {c : Ctx} {pos : Pos} {g : Gd}
theorem ro_mono {m : M Opd} {σ : L2.St} {H : Hp} {Q Q' : VK} (h : RO g c m σ H Q) (w : ∀ v H, Q v H → Q' v H) : RO g c m σ H Q' := by
  obtain ⟨Av, ρ, φ, e, h⟩ := h
  refine ⟨Av, ρ, φ, e, ?_⟩
  cases q : m c ρ with
  | bad => rw [q] at h; exact h
  | exc x ρ' => rw [q] at h; exact h
  | ok o ρ' => rw [q] at h; exact fun v H' Av' φ' G a b c d e f => w _ _ (h v H' Av' φ' G a b c d e f)
theorem rol_mono {m : M (List Opd)} {σ : L2.St} {H : Hp} {Q Q' : List V → Hp → Prop} (h : ROL g c m σ H Q) (w : ∀ v H, Q v H → Q' v H) : ROL g c m σ H Q' := by
  obtain ⟨Av, ρ, φ, e, h⟩ := h
  refine ⟨Av, ρ, φ, e, ?_⟩
  cases q : m c ρ with
  | bad => rw [q] at h; exact h
  | exc x ρ' => rw [q] at h; exact h
  | ok o ρ' => rw [q] at h; exact fun v H' Av' φ' G a b c d e f => w _ _ (h v H' Av' φ' G a b c d e f)
/-- isinstance(e, T) -/
theorem s_isi {e : Expr} {T x : String} {p p2 : Pos} {ma : M Opd} (hm : X.mg "isinstance" = none) (he : PE X e (RO (Cx.gd X W xr) c ma)) (hT : T ∈ tys) (ht : PE X (.Name x p2) (tC (.ty T))) (hg : Gl X "isinstance" := by rfl)
    (hs : starEach [e, .Name x p2] X.env = (false, eval e X.env) :: starEach [.Name x p2] X.env := by rfl) (hs2 : starEach [.Name x p2] X.env = (false, eval (.Name x p2) X.env) :: starEach [] X.env := by rfl)
    (hpl : (backTo pos (starEach [.Name x p2] X.env)).any (·.1) = false := by rfl) :
    PE X (.Call (.Name "isinstance" p) [e, .Name x p2] [] pos) (RE (Cx.gd X W xr) c (mUn gR (isiP [T]) ma)) := by
  refine PE.weak (pe_callB call_isi hg hm PyProof.Rows.boot_isinstance (pa_cons he (pa_cons ht pa_nil hs2) hs) (by decide) (by decide) hs hpl) fun σ H Q h => ?_
  refine ro_mono (ro1_fin .r h) fun v H' hv => ?_
  obtain ⟨Av, ds, d, ok, r, hp, q⟩ := hv
  obtain ⟨a, rfl, F, ra⟩ := all2_one r
  obtain ⟨t, h1, rfl⟩ := Option.map_eq_some_iff.mp (show (tyD a).map (fun t => D.bl ([T].any fun T => subT t T)) = some d from hp)
  have hk := kit_ty (K := X.K) (kit_sub (tyD_mem h1) hT)
  refine ⟨v, .ty T, _, _, subT t T, rfl, .ty T, rep_ty ok ra h1, hk, ?_⟩
  have : ([T].any fun T => subT t T) = subT t T := by simp
  rw [this] at q
  exact ans ok (.bl _) q
end
end Y

end
section
set_option Elab.async false
set_option linter.all false
set_option maxRecDepth 100000
set_option autoImplicit false
/-! Y19: isinstance of several types; list(range(..)), list(zip(..)). -/
namespace Y
open PySem L2
section
variable {X : Cx} {W : WX} {xr : (Addr → Prop) → Hp → D → Value → Option Addr → Prop} {c : Ctx} {pos : Pos} {g : Gd}
/-- names of types -/
inductive TyNs (X : Cx) : List Expr → List String → Prop
  | nil : TyNs X [] []
  | cons {e : Expr} {es : List Expr} {T : String} {Ts : List String} (h : PE X e (tC (.ty T))) (hT : T ∈ tys) (hs : starEach (e :: es) X.env = (false, eval e X.env) :: starEach es X.env) (t : TyNs X es Ts) : TyNs X (e :: es) (T :: Ts)
theorem pa_tys {es : List Expr} {Ts : List String} (h : TyNs X es Ts) : PA X es (fun _ H Q => Q (Ts.map V.ty) H) := by
  induction h with
  | nil => exact PA.weak pa_nil fun σ H Q h => h
  | cons h hT hs t ih => exact PA.weak (pa_cons h ih hs) fun σ H Q h => h
theorem tys_all {es : List Expr} {Ts : List String} (h : TyNs X es Ts) : ∀ T ∈ Ts, T ∈ tys := by
  induction h with
  | nil => exact fun T h => nomatch h
  | cons h hT hs t ih => exact fun T hm => (List.mem_cons.mp hm).elim (fun e => e ▸ hT) (ih T)
theorem tys_pair : ∀ Ts : List String, Paired ClsV (Ts.map V.ty) (Ts.map Value.type)
  | [] => .nil
  | T :: Ts => .cons (.ty T) (tys_pair Ts)
theorem s_isiT {e : Expr} {es : List Expr} {Ts : List String} {p p2 : Pos} {k : Nat} {ma : M Opd} (hm : X.mg "isinstance" = none) (he : PE X e (RO (Cx.gd X W xr) c ma)) (ht : TyNs X es Ts) (hl : Ts.length ≤ 16) (hg : Gl X "isinstance" := by rfl)
    (hs : starEach [e, .Tuple es k p2] X.env = (false, eval e X.env) :: starEach [.Tuple es k p2] X.env := by rfl) (hs2 : starEach [.Tuple es k p2] X.env = (false, eval (.Tuple es k p2) X.env) :: starEach [] X.env := by rfl)
    (hpl : (backTo pos (starEach [.Tuple es k p2] X.env)).any (·.1) = false := by rfl) :
    PE X (.Call (.Name "isinstance" p) [e, .Tuple es k p2] [] pos) (RE (Cx.gd X W xr) c (mUn gR (isiP Ts) ma)) := by
  refine PE.weak (pe_callB call_isiT hg hm PyProof.Rows.boot_isinstance (pa_cons he (pa_cons (pe_tup (pa_tys ht)) pa_nil hs2) hs) (by decide) (by decide) hs hpl) fun σ H Q h => ?_
  refine ro_mono (ro1_fin .r h) fun v H' hv => ?_
  obtain ⟨Av, ds, d, ok, r, hp, q⟩ := hv
  obtain ⟨a, rfl, F, ra⟩ := all2_one r
  obtain ⟨t, h1, rfl⟩ := Option.map_eq_some_iff.mp (show (tyD a).map (fun t => D.bl (Ts.any fun T => subT t T)) = some d from hp)
  refine ⟨by rw [List.length_map, sizeLine_eq]; omega, fun p hp => ?_⟩
  have gr := Grow.tup (o := .tup (Ts.map V.ty)) ok hp
  refine ⟨v, p, _, _, _, _, rfl, upd_same, tys_pair Ts, rep_ty gr.ok (ra.grow gr ok) h1, kit_any (tyD_mem h1) (tys_all ht), ?_⟩
  exact q _ _ Av [] gr (.bl _)

/-! ### list(range(..)) -/
def rgOk (a b : Int) : Bool := fit62 a && fit62 b && decide ((b - a).toNat ≤ 2 ^ 24)
theorem rgOk_iff {a b : Int} (h : rgOk a b = true) : RgOk a b := by
  unfold rgOk at h
  rw [Bool.and_eq_true, Bool.and_eq_true] at h
  obtain ⟨⟨h1, h2⟩, h3⟩ := h
  obtain ⟨a1, a2⟩ := fit_iff h1
  obtain ⟨a3, a4⟩ := fit_iff h2
  exact ⟨a1, a2, a3, a4, of_decide_eq_true h3⟩
theorem rep_rg {K : PySem.W.Frag} {Av : Addr → Prop} {H : Hp} (a b : Int) : RepL K Av H [] (rgV a b) (rngD a b) := by
  unfold rgV rngD
  generalize (b - a).toNat = n
  refine RepL.of_all2 ?_
  generalize List.range n = l
  induction l with
  | nil => exact .nil
  | cons k l ih => exact .cons (.int _) ih
/-- list or tuple of a range -/
def mRgD (mk : List D → D) (ms : M (List D)) : M D := bnd ms fun ds => match ds with
  | [.int j] => if rgOk 0 j = true then pur (mk (rngD 0 j)) else bad
  | [.int i, .int j] => if rgOk i j = true then pur (mk (rngD i j)) else bad
  | _ => bad
theorem asI_re {m : M D} {σ : L2.St} {H : Hp} {Q : VK} (h : RE g c m σ H Q) : RE g c m σ H Q := h
theorem s_listRg1 {a : Expr} {p p2 p3 : Pos} {m : M D} (hc : X.calm = true) (hml : X.mg "list" = none) (hmr : X.mg "range" = none) (ha : PE X a (RE (Cx.gd X W xr) c m)) (hl : Gl X "list" := by rfl) (hg : Gl X "range" := by rfl)
    (na : starEach [.Call (.Name "range" p2) [a] [] p3] X.env = (false, eval (.Call (.Name "range" p2) [a] [] p3) X.env) :: starEach [] X.env := by rfl) (n1 : starEach [a] X.env = (false, eval a X.env) :: starEach [] X.env := by rfl) :
    PE X (.Call (.Name "list" p) [.Call (.Name "range" p2) [a] [] p3] [] pos) (RE (Cx.gd X W xr) c (mRgD (.lst true) (bnd m fun x => pur [x]))) := by
  refine PE.weak (pe_listRg hc hl hml (prg_1 hg hmr ha n1) na) fun σ H Q ⟨Av, ρ, φ, e, h⟩ => ⟨Av, ρ, φ, e, ?_⟩
  unfold mRgD at h
  cases q : m c ρ with
  | bad => simp only [bnd, q] at h
  | exc x ρ' => simp only [bnd, q] at h; exact h
  | ok d ρ1 =>
    simp only [bnd, q, pur] at h
    intro v H1 Av1 φ1 G e1 r1 ap1 st1 og1
    cases d with
    | int j =>
      dsimp only at h
      by_cases hf : rgOk 0 j = true
      · rw [if_pos hf] at h
        cases r1
        refine ⟨j, rfl, rgOk_iff hf, fun q hq => ?_⟩
        have gr := Grow.lst e1.ok hq (rgV 0 j)
        exact h _ _ _ φ1 [q] (e1.grow gr) (Rep.newLst e1.ok hq (rep_rg 0 j)) (e1.apart gr) (st1.trans gr.step e.ok) ((Grow.org (φ := φ1) gr).step st1)
      · rw [if_neg hf] at h; exact h.elim
    | _ => exact h.elim
theorem s_listRg2 {a b : Expr} {p p2 p3 : Pos} {m n : M D} (hc : X.calm = true) (hml : X.mg "list" = none) (hmr : X.mg "range" = none) (ha : PE X a (RE (Cx.gd X W xr) c m)) (hb : PE X b (RE (Cx.gd X W xr) c n)) (hl : Gl X "list" := by rfl) (hg : Gl X "range" := by rfl)
    (na : starEach [.Call (.Name "range" p2) [a, b] [] p3] X.env = (false, eval (.Call (.Name "range" p2) [a, b] [] p3) X.env) :: starEach [] X.env := by rfl) (n1 : starEach [a, b] X.env = (false, eval a X.env) :: starEach [b] X.env := by rfl)
    (n2 : starEach [b] X.env = (false, eval b X.env) :: starEach [] X.env := by rfl) (n3 : (backTo p3 (starEach [b] X.env)).any (·.1) = false := by rfl) :
    PE X (.Call (.Name "list" p) [.Call (.Name "range" p2) [a, b] [] p3] [] pos) (RE (Cx.gd X W xr) c (mRgD (.lst true) (bnd m fun x => bnd n fun y => pur [x, y]))) := by
  refine PE.weak (pe_listRg hc hl hml (prg_2 hg hmr ha hb n1 n2 n3) na) fun σ H Q ⟨Av, ρ, φ, e, h⟩ => ⟨Av, ρ, φ, e, ?_⟩
  unfold mRgD at h
  cases q : m c ρ with
  | bad => simp only [bnd, q] at h
  | exc x ρ' => simp only [bnd, q] at h; exact h
  | ok d ρ1 =>
    simp only [bnd, q, pur] at h
    intro v H1 Av1 φ1 G e1 r1 ap1 st1 og1
    refine ⟨Av1, ρ1, φ1, e1, ?_⟩
    cases q2 : n c ρ1 with
    | bad => simp only [q2] at h
    | exc x ρ' => simp only [q2] at h; exact RX.from st1 e.ok h
    | ok d2 ρ2 =>
      simp only [q2] at h
      intro v2 H2 Av2 φ2 G2 e2 r2 ap2 st2 og2
      cases d with
      | int i =>
        cases d2 with
        | int j =>
          dsimp only at h
          by_cases hf : rgOk i j = true
          · rw [if_pos hf] at h
            cases r1
            cases r2
            refine ⟨i, j, rfl, rfl, rgOk_iff hf, fun q hq => ?_⟩
            have gr := Grow.lst e2.ok hq (rgV i j)
            have st := (st1.trans st2 e.ok)
            exact h _ _ _ φ2 [q] (e2.grow gr) (Rep.newLst e2.ok hq (rep_rg i j)) (e2.apart gr) (st.trans gr.step e.ok) ((Grow.org (φ := φ2) gr).step st)
          · rw [if_neg hf] at h; exact h.elim
        | _ => exact h.elim
      | _ => cases d2 <;> exact h.elim

/-! ### list(zip(..)) -/
def pLZ : List D → Option D
  | [a, b] => match items a, items b with
    | some xs, some ys => if min xs.length ys.length ≤ LN then some (.lst true (zip2D xs ys)) else none
    | _, _ => none
  | _ => none
theorem items_cmp {K : PySem.W.Frag} {Av : Addr → Prop} {H : Hp} {v : V} {d : D} {xs : List D} (r : RepC K Av H v d) (hi : items d = some xs) : ∃ (C : Cmp) (vs : List V), C.of v ∧ C.items K H vs ∧ RepL K Av H [] vs xs := by
  cases r with
  | non => cases hi
  | bl b => cases hi
  | int i => cases hi
  | str s => cases hi; exact ⟨.s s, _, rfl, rfl, rep_chars⟩
  | @tup a vs ds h1 h2 => cases hi; rw [frzL_idem h2]; exact ⟨.t a, vs, rfl, h1, h2⟩
  | @lst a vs ds ow h1 h0 h2 =>
    cases hi
    rw [frzL_idem h2]
    exact ⟨.l a, vs, rfl, h1, h2⟩
theorem pairs_rep {K : PySem.W.Frag} {Av Av' : Addr → Prop} {H H' : Hp} {S : Addr} (k : ∀ {v : V} {d : D}, Rep K Av H [] v d → Rep K Av' H' [] v d) : ∀ {zs us vs : List V} {xs ys : List D}, Pairs H H' S zs (us.zip vs) → RepL K Av H [] us xs → RepL K Av H [] vs ys → RepL K Av' H' [] zs (zip2D xs ys) := by
  intro zs us vs xs ys hp r1 r2
  have a1 := r1.all2
  have a2 := r2.all2
  clear r1 r2
  refine RepL.of_all2 ?_
  induction a1 generalizing zs vs ys with
  | nil =>
    cases hp
    exact .nil
  | cons h t ih =>
    cases a2 with
    | nil =>
      cases hp
      exact .nil
    | cons h2 t2 =>
      cases hp with
      | cons hh tt =>
        obtain ⟨T, rfl, _, _, hT⟩ := hh
        exact .cons (.tup (.inl (.inl hT)) (.cons (F := []) (G := []) (k h) (.cons (F := []) (G := []) (k h2) .nil))) (ih tt t2)
theorem s_listZip {e e2 : Expr} {mos : M (List Opd)} {p p2 p3 : Pos} (hc : X.calm = true) (hml : X.mg "list" = none) (hmz : X.mg "zip" = none) (ha : PA X [e, e2] (ROL (Cx.gd X W xr) c mos)) (hl : Gl X "list" := by rfl) (hg : Gl X "zip" := by rfl)
    (hs : starEach [e, e2] X.env = (false, eval e X.env) :: starEach [e2] X.env := by rfl) (hpl : (backTo p3 (starEach [e2] X.env)).any (·.1) = false := by rfl)
    (na : starEach [.Call (.Name "zip" p2) [e, e2] [] p3] X.env = (false, eval (.Call (.Name "zip" p2) [e, e2] [] p3) X.env) :: starEach [] X.env := by rfl) :
    PE X (.Call (.Name "list" p) [.Call (.Name "zip" p2) [e, e2] [] p3] [] pos) (RE (Cx.gd X W xr) c (mPrim gC pLZ mos)) := by
  refine PE.weak (pe_lz hc hl hml hg hmz ha hs hpl na) fun σ H Q h => ?_
  refine rol_mono (rol_fin .c h) fun vs H1 hv => ?_
  obtain ⟨Av, ds, d, ok, r, hp, q⟩ := hv
  obtain ⟨d1, d2, x1, x2, rfl, q1, q2, hlen, rfl⟩ : ∃ d1 d2 x1 x2, ds = [d1, d2] ∧ items d1 = some x1 ∧ items d2 = some x2 ∧ min x1.length x2.length ≤ LN ∧ d = .lst true (zip2D x1 x2) := by
    unfold pLZ at hp
    split at hp
    · split at hp
      · split at hp
        · cases hp; exact ⟨_, _, _, _, rfl, by assumption, by assumption, by assumption, rfl⟩
        · cases hp
      · cases hp
    · cases hp
  obtain ⟨v1, vs, rfl, r1, r⟩ := all2_cons r
  obtain ⟨v2, vs, rfl, r2, r⟩ := all2_cons r
  obtain rfl := all2_nil r
  obtain ⟨C1, us, o1, i1, l1⟩ := items_cmp r1 q1
  obtain ⟨C2, ws, o2, i2, l2⟩ := items_cmp r2 q2
  refine ⟨v1, v2, C1, C2, us, ws, rfl, o1, o2, i1, i2, by rw [l1.length, l2.length, ← ln_line]; exact hlen, fun S H' zs hn k hS hps => ?_⟩
  have gr : Grow Av (fun a => Av a ∨ a = S) H1 H' [S] := ⟨k, fun a => by simp, fun a h => by rw [show a = S by simpa using h]; exact hn, fun a h => by
    rcases h with h | h
    · obtain ⟨u, e, m⟩ := ok a h; exact ⟨u, k _ _ e, m⟩
    · subst h; exact ⟨_, hS, trivial⟩⟩
  refine q (.ref S) H' _ [S] gr (.lstO (F := []) hS (.inr rfl) (pairs_rep (fun r => r.grow gr ok) hps l1 l2) (by simp) (by simp))
end
end Y

end
section
set_option Elab.async false
set_option linter.all false
set_option maxRecDepth 100000
set_option autoImplicit false
/-! Y20: the rules in short. -/
namespace Y
open PySem L2
def kindB (a b : NameKind) : Bool := decide (a = b)
/-- a comprehension's names -/
def blkB (N : List Str) (sc scope : Scope) (own : List (Str × Nat)) : Bool :=
  decide (scope.kind = .function) && scope.names.all (fun y => decide (scope.names.lookup y.1 = some y.2)) && own.all (fun p => decide (N[p.2]? = some p.1)) &&
    scope.names.all (fun y => decide (y.2 ≠ .free) || decide (sc.names.lookup y.1 = some .cell) || decide (sc.names.lookup y.1 = some .free)) &&
    scope.names.all (fun y => !(decide (y.2 = .local) || decide (y.2 = .cell)) || decide (y.1 ∈ own.map (·.1)) || decide (y.1 ∉ N))
theorem blk_of {N : List Str} {sc scope : Scope} {own : List (Str × Nat)} (h : blkB N sc scope own = true) : BlkOk N sc scope own := by
  unfold blkB at h
  simp only [Bool.and_eq_true, decide_eq_true_eq, List.all_eq_true] at h
  obtain ⟨⟨⟨⟨h1, h2⟩, h3⟩, h4⟩, h5⟩ := h
  refine ⟨h1, h2, h3, fun y hy hf => ?_, fun y hy hk => ?_⟩
  · have := h4 y hy
    simp only [Bool.or_eq_true, decide_eq_true_eq] at this
    rcases this with (z | z) | z
    · exact absurd hf z
    · exact .inl z
    · exact .inr z
  · have := h5 y hy
    simp only [Bool.or_eq_true, decide_eq_true_eq, Bool.not_eq_true', Bool.or_eq_false_iff, decide_eq_false_iff_not] at this
    rcases this with (⟨z1, z2⟩ | z) | z
    · exact absurd hk (fun q => q.elim z1 z2)
    · exact .inl z
    · exact .inr z
section
variable {X : Cx} {W : WX} {xr : (Addr → Prop) → Hp → D → Value → Option Addr → Prop} {c : Ctx} {pos : Pos}
theorem gN (i : Nat) {x : Str} (hN : X.N.Nodup) (hi : X.N[i]? = some x := by rfl) (hx : Loc X.env.scope x := by first | exact Or.inl rfl | exact Or.inr rfl) (hf : X.fn x = true ∨ X.env.scope.names.lookup x = some .local := by first | exact Or.inl rfl | exact Or.inr rfl) :
    PG X (.Name x pos) (RG (Cx.gd X W xr) c (setS i)) := g_name hN hi hx hf
theorem gL0 : PGs X [] (RGs (Cx.gd X W xr) c tgNil) := gs_nil
theorem gL1 {ex : Expr} {es : List Expr} {m : D → M Unit} {ms : List D → M Unit} (h1 : PG X ex (RG (Cx.gd X W xr) c m)) (h2 : PGs X es (RGs (Cx.gd X W xr) c ms))
    (hs : (assignEach (ex :: es) X.env).map (·.2) = assign ex X.env :: (assignEach es X.env).map (·.2) := by rfl) : PGs X (ex :: es) (RGs (Cx.gd X W xr) c (tgCons m ms)) := gs_cons h1 h2 hs
theorem gT {es : List Expr} {k n : Nat} {m : List D → M Unit} (hc : X.calm = true) (h : PGs X es (RGs (Cx.gd X W xr) c m)) (hn : (assignEach es X.env).length = n := by rfl) (hst : (assignEach es X.env).findIdx? (·.1) = none := by rfl) :
    PG X (.Tuple es k pos) (RG (Cx.gd X W xr) c (tgTup n m)) := g_tup hc h hn hst
theorem oL0 : PA X [] (ROL (Cx.gd X W xr) c (pur [])) := ol_nil
theorem oL1 {ex : Expr} {es : List Expr} {m : M Opd} {ms : M (List Opd)} (h1 : PE X ex (RO (Cx.gd X W xr) c m)) (h2 : PA X es (ROL (Cx.gd X W xr) c ms)) (hs : starEach (ex :: es) X.env = (false, eval ex X.env) :: starEach es X.env := by rfl) :
    PA X (ex :: es) (ROL (Cx.gd X W xr) c (bnd m fun o => bnd ms fun os => pur (o :: os))) := ol_cons h1 h2 hs
theorem vL0 : PA X [] (RVL (Cx.gd X W xr) c (pur [])) := vl_nil
theorem vL1 {ex : Expr} {es : List Expr} {m : M D} {ms : M (List D)} (h1 : PE X ex (RE (Cx.gd X W xr) c m)) (h2 : PA X es (RVL (Cx.gd X W xr) c ms)) (hs : starEach (ex :: es) X.env = (false, eval ex X.env) :: starEach es X.env := by rfl) :
    PA X (ex :: es) (RVL (Cx.gd X W xr) c (bnd m fun o => bnd ms fun os => pur (o :: os))) := vl_cons h1 h2 hs
theorem aL0 : PA X [] (RAL (Cx.gd X W xr) c (pur [])) := al_nil
theorem aL1 {ex : Expr} {es : List Expr} {m : M (D × Option Nat)} {ms : M (List (D × Option Nat))} (h1 : PE X ex (RA1 (Cx.gd X W xr) c m)) (h2 : PA X es (RAL (Cx.gd X W xr) c ms)) (hs : starEach (ex :: es) X.env = (false, eval ex X.env) :: starEach es X.env := by rfl) :
    PA X (ex :: es) (RAL (Cx.gd X W xr) c (bnd m fun o => bnd ms fun os => pur (o :: os))) := al_cons h1 h2 hs
/-- a built-in's call -/
theorem eB {f : String} {x : Str} {px : Pos} {ex : Expr} {es : List Expr} {p : List D → Option D} {mos : M (List Opd)}
    (hc : CallR X (.builtin f) (rPrim X.K p)) (hm : X.mg x = none) (hv : bootBuiltins x = some (.builtin f)) (ha : PA X (ex :: es) (ROL (Cx.gd X W xr) c mos)) (hg : Gl X x := by rfl) (hn : x ≠ "__name__" := by decide) (hdb : (x == ("__debug__" : Str)) = false := by decide)
    (he : starEach (ex :: es) X.env = (false, eval ex X.env) :: starEach es X.env := by rfl) (hpl : (backTo pos (starEach es X.env)).any (·.1) = false := by rfl) : PE X (.Call (.Name x px) (ex :: es) [] pos) (RE (Cx.gd X W xr) c (mPrim gC p mos)) :=
  s_callB .c hc hg hm hv ha hn hdb he hpl
theorem eTy {f : String} {x : Str} {px : Pos} {ex : Expr} {es : List Expr} {p : List D → Option D} {mos : M (List Opd)}
    (hc : CallR X (.type f) (rPrim X.K p)) (hm : X.mg x = none) (hv : bootBuiltins x = some (.type f)) (ha : PA X (ex :: es) (ROL (Cx.gd X W xr) c mos)) (hg : Gl X x := by rfl) (hn : x ≠ "__name__" := by decide) (hdb : (x == ("__debug__" : Str)) = false := by decide)
    (he : starEach (ex :: es) X.env = (false, eval ex X.env) :: starEach es X.env := by rfl) (hpl : (backTo pos (starEach es X.env)).any (·.1) = false := by rfl) : PE X (.Call (.Name x px) (ex :: es) [] pos) (RE (Cx.gd X W xr) c (mPrim gC p mos)) :=
  s_callTy .c hc hg hm hv ha hn hdb he hpl
theorem eOp {op : Operator} {a b : Expr} {p : List D → Option D} {ma mb : M Opd} (ho : OpR X (binaryOp op) (two (rPrim X.K p))) (ha : PE X a (RO (Cx.gd X W xr) c ma)) (hb : PE X b (RO (Cx.gd X W xr) c mb)) : PE X (.BinOp a op b pos) (RE (Cx.gd X W xr) c (mBin gC p ma mb)) := s_bin .c ho ha hb
theorem eCmp {op : CmpOp} {a b : Expr} {p : List D → Option D} {ma mb : M Opd} (ho : OpR X (compareOp op) (two (rPrim X.K p))) (ha : PE X a (RO (Cx.gd X W xr) c ma)) (hb : PE X b (RO (Cx.gd X W xr) c mb)) (hm : behindInMarks op b = false := by first | exact nomark _ | rfl) :
    PE X (.Compare a [op] [b] pos) (RE (Cx.gd X W xr) c (mBin gC p ma mb)) := s_cmp .c ho ha hb hm
theorem tCmp {op : CmpOp} {a b : Expr} {p : List D → Option D} {ma mb : M Opd} (ho : OpR X (compareOp op) (two (rPrim X.K p))) (ha : PE X a (RO (Cx.gd X W xr) c ma)) (hb : PE X b (RO (Cx.gd X W xr) c mb)) (hm : behindInMarks op b = false := by first | exact nomark _ | rfl) :
    PT X (.Compare a [op] [b] pos) (RT (Cx.gd X W xr) c (mB (mBin gC p ma mb))) := t_cmp .c ho ha hb hm
theorem tVal {a : Expr} {m : M D} (ha : PE X a (RE (Cx.gd X W xr) c m)) (he : ∀ whole, isTrue a X.env whole = (do let v ← whole; standAt a.pos; holding [v] (truthy v)) := by intro _; rfl) : PT X a (RT (Cx.gd X W xr) c (mB m)) := t_val ha he
theorem eIx {a b : Expr} {ma mb : M Opd} (ha : PE X a (RO (Cx.gd X W xr) c ma)) (hb : PE X b (RO (Cx.gd X W xr) c mb)) (hs : PlainIx b := by exact fun _ _ => rfl) : PE X (.Subscript a b pos) (RE (Cx.gd X W xr) c (mBin gC pIx ma mb)) := s_ix x_ix ha hb hs
theorem eSl {a : Expr} {lo hi : Option Expr} {p2 : Pos} {ma : M Opd} {ml mh : M (Option Int)} (ha : PE X a (RO (Cx.gd X W xr) c ma)) (hl : PO X lo (RPO (Cx.gd X W xr) c ml)) (hh : PO X hi (RPO (Cx.gd X W xr) c mh)) :
    PE X (.Subscript a (.Slice lo hi none p2) pos) (RE (Cx.gd X W xr) c (mSlice pSl ma ml mh)) := s_slice l_sl ha hl hh
theorem eLc {elt tg iter : Expr} {ifs : List Expr} {scope : Scope} {mi : M Sr} {t : D → M Unit} {tt : M Bool} {te : M D} (own : List (Str × Nat)) (hc : X.calm = true) (hN : X.N.Nodup) (hlt : LenT t) (hi : PI X tg iter (RI (Cx.gd X W xr) c mi))
    (hg : ∀ (s : Shared) (H : Hp) (C : Addr) (cl : List (Str × Addr)) (fp : List Addr) c, PG (X.blk s H scope (compEnvC scope cl C X.env) fp) tg (RG (Cx.gd (X.blk s H scope (compEnvC scope cl C X.env) fp) W0 xr) c t))
    (ht : ∀ (s : Shared) (H : Hp) (C : Addr) (cl : List (Str × Addr)) (fp : List Addr) c, PTs (X.blk s H scope (compEnvC scope cl C X.env) fp) ifs (RT (Cx.gd (X.blk s H scope (compEnvC scope cl C X.env) fp) W0 xr) c tt))
    (he : ∀ (s : Shared) (H : Hp) (C : Addr) (cl : List (Str × Addr)) (fp : List Addr) c, PE (X.blk s H scope (compEnvC scope cl C X.env) fp) elt (RE (Cx.gd (X.blk s H scope (compEnvC scope cl C X.env) fp) W0 xr) c te))
    (ok : blkB X.N X.env.scope scope own = true := by kernel_rfl) (hs : ∀ x, foldedSetIterable iter X.env x = pure x := by intro _; rfl) :
    PE X (.ListComp elt [⟨tg, iter, ifs, 0⟩] scope pos) (RE (Cx.gd X W xr) c (mComp mi (own.map (·.2)) t tt te)) := s_lc hlt hi (blk_of ok) hg ht he hc hN hs
theorem stLc {y : Str} {py spos : Pos} {elt tg iter : Expr} {ifs : List Expr} {scope : Scope} {mi : M Sr} {t : D → M Unit} {tt : M Bool} {te : M D} (i : Nat) (own : List (Str × Nat)) (hc : X.calm = true) (hN : X.N.Nodup) (hlt : LenT t) (hi : PI X tg iter (RI (Cx.gd X W xr) c mi))
    (hg : ∀ (s : Shared) (H : Hp) (C : Addr) (cl : List (Str × Addr)) (fp : List Addr) c, PG (X.blk s H scope (compEnvC scope cl C X.env) fp) tg (RG (Cx.gd (X.blk s H scope (compEnvC scope cl C X.env) fp) W0 xr) c t))
    (ht : ∀ (s : Shared) (H : Hp) (C : Addr) (cl : List (Str × Addr)) (fp : List Addr) c, PTs (X.blk s H scope (compEnvC scope cl C X.env) fp) ifs (RT (Cx.gd (X.blk s H scope (compEnvC scope cl C X.env) fp) W0 xr) c tt))
    (he : ∀ (s : Shared) (H : Hp) (C : Addr) (cl : List (Str × Addr)) (fp : List Addr) c, PE (X.blk s H scope (compEnvC scope cl C X.env) fp) elt (RE (Cx.gd (X.blk s H scope (compEnvC scope cl C X.env) fp) W0 xr) c te))
    (hy : X.N[i]? = some y := by rfl) (hyl : X.env.scope.names.lookup y = some .local := by rfl)
    (hsw : swapsWith (.ListComp elt [⟨tg, iter, ifs, 0⟩] scope pos) (some (.Name y py)) spos.line X.env = pure true := by exact sw_true rfl rfl rfl rfl)
    (ok : blkB X.N X.env.scope scope own = true := by kernel_rfl) (hs : ∀ x, foldedSetIterable iter X.env x = pure x := by intro _; rfl) :
    PS X (.Assign [.Name y py] (.ListComp elt [⟨tg, iter, ifs, 0⟩] scope pos) spos) (RS (Cx.gd X W xr) c (sSet (setS i) (mComp mi (own.map (·.2)) t tt te))) := st_setLc hy hyl hsw hlt hi (blk_of ok) hg ht he hc hN hs
theorem stSet {x : Str} {ex : Expr} {pos' : Pos} {m : M D} (i : Nat) (hN : X.N.Nodup) (he : PE X ex (RE (Cx.gd X W xr) c m)) (hi : X.N[i]? = some x := by rfl) (hx : Loc X.env.scope x := by first | exact Or.inl rfl | exact Or.inr rfl) (hs : swapsWith ex (some (.Name x pos')) pos.line X.env = pure false := by rfl)
    (hf : X.fn x = true ∨ X.env.scope.names.lookup x = some .local := by first | exact Or.inl rfl | exact Or.inr rfl) : PS X (.Assign [.Name x pos'] ex pos) (RS (Cx.gd X W xr) c (sSet (setS i) m)) := st_set hN hi hx he hs hf
theorem stAsg {tg ex : Expr} {m : M D} {t : D → M Unit} (he : PE X ex (RE (Cx.gd X W xr) c m)) (hg : PG X tg (RG (Cx.gd X W xr) c t)) (hs : swapsWithSole [tg] ex pos.line X.env = pure false := by rfl) (hw : swappedStores [tg] ex X.env = pure none := by rfl)
    (h1 : (assignEach [tg] X.env).map (·.2) = [assign tg X.env] := by rfl) : PS X (.Assign [tg] ex pos) (RS (Cx.gd X W xr) c (sSet t m)) := st_asg he hg hs hw h1
theorem stPar {x y : Str} {a b : Expr} {ms : M (List D)} {px py pt : Pos} {kt k2 : Nat} {pt2 : Pos} (i j : Nat) (hc : X.calm = true) (hN : X.N.Nodup) (ha : PA X [a, b] (RVL (Cx.gd X W xr) c ms)) (hi : X.N[i]? = some x := by rfl) (hj : X.N[j]? = some y := by rfl) (hij : i ≠ j := by decide)
    (hx : X.env.scope.names.lookup x = some .local := by rfl) (hy : X.env.scope.names.lookup y = some .local := by rfl)
    (hw : swappedStores [.Tuple [.Name x px, .Name y py] kt pt] (.Tuple [a, b] k2 pt2) X.env = pure (some [x, y]) := by rfl) (hs : swapsWithSole [.Tuple [.Name x px, .Name y py] kt pt] (.Tuple [a, b] k2 pt2) pos.line X.env = pure false := by rfl) :
    PS X (.Assign [.Tuple [.Name x px, .Name y py] kt pt] (.Tuple [a, b] k2 pt2) pos) (RS (Cx.gd X W xr) c (sPar i j ms)) := st_par hc hN hi hj hij hx hy ha hw hs
theorem stParG {es : List Expr} {k n : Nat} {tpos : Pos} {vals : List Expr} {k2 : Nat} {pt2 : Pos} {t : List D → M Unit} {ms : M (List D)} (hc : X.calm = true) (hg : PGs X es (RGs (Cx.gd X W xr) c t)) (ha : PA X vals (RVL (Cx.gd X W xr) c ms)) (hn : (assignEach es X.env).length = n := by rfl)
    (hst : (assignEach es X.env).findIdx? (·.1) = none := by rfl)
    (hs : swapsWithSole [.Tuple es k tpos] (.Tuple vals k2 pt2) pos.line X.env = pure false := by rfl) (hw : swappedStores [.Tuple es k tpos] (.Tuple vals k2 pt2) X.env = pure none := by rfl)
    (h1 : (assignEach [.Tuple es k tpos] X.env).map (·.2) = [assign (.Tuple es k tpos) X.env] := by rfl) : PS X (.Assign [.Tuple es k tpos] (.Tuple vals k2 pt2) pos) (RS (Cx.gd X W xr) c (sParG n t ms)) := st_parG hc hg hn hst ha hs hw h1
theorem stExpr {ex : Expr} {m : M D} (he : PE X ex (RE (Cx.gd X W xr) c m)) (hs : swapsWith ex none pos.line X.env = pure false := by rfl) : PS X (.Expr ex pos) (RS (Cx.gd X W xr) c (sExpr m)) := st_expr he hs
/-- x += e with the raw value -/
def pAddI : List D → Option D
  | [.int a, .int b] => some (.int (a + b))
  | _ => none
def pSubI : List D → Option D
  | [.int a, .int b] => some (.int (a - b))
  | _ => none
theorem ip_addI : PIp X .Add (two (rPrimR X.K pAddI)) := by
  intro pins s σ H x y v u Q I rx ry ⟨Av, ds, d, ok, r, hp, q⟩
  obtain ⟨a, b, rfl, ⟨_, ra⟩, ⟨_, rb⟩⟩ := all2_two r
  cases ra with
  | int i =>
    cases rb with
    | int j =>
      have hp : some (D.int (i + j)) = some d := hp
      cases hp
      exact ip_add pins s σ H _ _ v u Q I rx ry ⟨i, j, rfl, rfl, ans ok (.int _) q⟩
    | _ => cases hp
  | _ => cases hp
theorem ip_subI : PIp X .Sub (two (rPrimR X.K pSubI)) := by
  intro pins s σ H x y v u Q I rx ry ⟨Av, ds, d, ok, r, hp, q⟩
  obtain ⟨a, b, rfl, ⟨_, ra⟩, ⟨_, rb⟩⟩ := all2_two r
  cases ra with
  | int i =>
    cases rb with
    | int j =>
      have hp : some (D.int (i - j)) = some d := hp
      cases hp
      exact ip_sub pins s σ H _ _ v u Q I rx ry ⟨i, j, rfl, rfl, ans ok (.int _) q⟩
    | _ => cases hp
  | _ => cases hp
theorem stAug {x : Str} {ex : Expr} {op : Operator} {pos' : Pos} {p : List D → Option D} {ma : M Opd} (i : Nat) (hN : X.N.Nodup) (ho : PIp X op (two (rPrimR X.K p))) (he : PE X ex (RO (Cx.gd X W xr) c ma)) (hi : X.N[i]? = some x := by rfl) (hx : Loc X.env.scope x := by first | exact Or.inl rfl | exact Or.inr rfl)
    (hf : X.fn x = true ∨ X.env.scope.names.lookup x = some .local := by first | exact Or.inl rfl | exact Or.inr rfl) : PS X (.AugAssign (.Name x pos') op ex pos) (RS (Cx.gd X W xr) c (sAug i p ma)) := st_aug hN hi hx he ho hf
theorem mAppend {e : Expr} {x : Str} {apos px : Pos} {margs : M (List D)} (i : Nat) (ha : PA X [e] (RVL (Cx.gd X W xr) c margs))
    (hN : X.N[i]? = some x := by rfl) (hv : Vis X.env.scope x := by first | exact Or.inl rfl | exact Or.inr (Or.inl rfl) | exact Or.inr (Or.inr rfl)) (hd : (x == ("__debug__" : Str)) = false := by decide) (hcd : (x == ("__classdict__" : Str)) = false := by decide)
    (hbase : attributeBase (.Name x px) "append" X.env (eval (.Name x px) X.env) = eval (.Name x px) X.env := by rfl)
    (hfew : ((backTo pos (starEach [e] X.env)).all (fun x => !x.1) && (backToKw pos (keywordEach [] X.env)).all (fun x => x.1.isSome)
      && decide ([e].length + ([] : List Keyword).length + (if ([] : List Keyword).isEmpty then 0 else 1) < 30)) = true := by rfl)
    (hline : (apos.endLine == pos.line) = true := by rfl) (hs : starEach [e] X.env = (false, eval e X.env) :: starEach [] X.env := by rfl) (hplain : (backTo pos (starEach [] X.env)).any (·.1) = false := by rfl) :
    PE X (.Call (.Attribute (.Name x px) "append" apos) [e] [] pos) (RE (Cx.gd X W xr) c (mMut i fAppend margs)) := s_mut i PySem.F.slot_list_append PySem.F.type_list_append mt_append mo_append ha hN hv hd hcd hbase hfew hline hs hplain
theorem mPop {e : Expr} {x : Str} {apos px : Pos} {margs : M (List D)} (i : Nat) (ha : PA X [e] (RVL (Cx.gd X W xr) c margs))
    (hN : X.N[i]? = some x := by rfl) (hv : Vis X.env.scope x := by first | exact Or.inl rfl | exact Or.inr (Or.inl rfl) | exact Or.inr (Or.inr rfl)) (hd : (x == ("__debug__" : Str)) = false := by decide) (hcd : (x == ("__classdict__" : Str)) = false := by decide)
    (hbase : attributeBase (.Name x px) "pop" X.env (eval (.Name x px) X.env) = eval (.Name x px) X.env := by rfl)
    (hfew : ((backTo pos (starEach [e] X.env)).all (fun x => !x.1) && (backToKw pos (keywordEach [] X.env)).all (fun x => x.1.isSome)
      && decide ([e].length + ([] : List Keyword).length + (if ([] : List Keyword).isEmpty then 0 else 1) < 30)) = true := by rfl)
    (hline : (apos.endLine == pos.line) = true := by rfl) (hs : starEach [e] X.env = (false, eval e X.env) :: starEach [] X.env := by rfl) (hplain : (backTo pos (starEach [] X.env)).any (·.1) = false := by rfl) :
    PE X (.Call (.Attribute (.Name x px) "pop" apos) [e] [] pos) (RE (Cx.gd X W xr) c (mMut i fPop margs)) := s_mut i PySem.F.slot_list_pop PySem.F.type_list_pop mt_popB mo_pop ha hN hv hd hcd hbase hfew hline hs hplain
theorem mPop0 {x : Str} {apos px : Pos} (i : Nat)
    (hN : X.N[i]? = some x := by rfl) (hv : Vis X.env.scope x := by first | exact Or.inl rfl | exact Or.inr (Or.inl rfl) | exact Or.inr (Or.inr rfl)) (hd : (x == ("__debug__" : Str)) = false := by decide) (hcd : (x == ("__classdict__" : Str)) = false := by decide)
    (hbase : attributeBase (.Name x px) "pop" X.env (eval (.Name x px) X.env) = eval (.Name x px) X.env := by rfl) (hline : (apos.endLine == pos.line) = true := by rfl) :
    PE X (.Call (.Attribute (.Name x px) "pop" apos) [] [] pos) (RE (Cx.gd X W xr) c (mMut i fPop (pur []))) := s_mut0 i PySem.F.slot_list_pop PySem.F.type_list_pop mt_popB mo_pop hN hv hd hcd hbase hline
theorem mExtend {e : Expr} {x : Str} {apos px : Pos} {margs : M (List D)} (i : Nat) (ha : PA X [e] (RVL (Cx.gd X W xr) c margs))
    (hN : X.N[i]? = some x := by rfl) (hv : Vis X.env.scope x := by first | exact Or.inl rfl | exact Or.inr (Or.inl rfl) | exact Or.inr (Or.inr rfl)) (hd : (x == ("__debug__" : Str)) = false := by decide) (hcd : (x == ("__classdict__" : Str)) = false := by decide)
    (hbase : attributeBase (.Name x px) "extend" X.env (eval (.Name x px) X.env) = eval (.Name x px) X.env := by rfl)
    (hfew : ((backTo pos (starEach [e] X.env)).all (fun x => !x.1) && (backToKw pos (keywordEach [] X.env)).all (fun x => x.1.isSome)
      && decide ([e].length + ([] : List Keyword).length + (if ([] : List Keyword).isEmpty then 0 else 1) < 30)) = true := by rfl)
    (hline : (apos.endLine == pos.line) = true := by rfl) (hs : starEach [e] X.env = (false, eval e X.env) :: starEach [] X.env := by rfl) (hplain : (backTo pos (starEach [] X.env)).any (·.1) = false := by rfl) :
    PE X (.Call (.Attribute (.Name x px) "extend" apos) [e] [] pos) (RE (Cx.gd X W xr) c (mMut i fExtend margs)) := s_mut i PySem.F.slot_list_extend PySem.F.type_list_extend mt_extend mo_extend ha hN hv hd hcd hbase hfew hline hs hplain
end
theorem bb_len : bootBuiltins "len" = some (.builtin "len") := by decide +kernel
theorem bb_abs : bootBuiltins "abs" = some (.builtin "abs") := by decide +kernel
theorem bb_all : bootBuiltins "all" = some (.builtin "all") := by decide +kernel
theorem bb_any : bootBuiltins "any" = some (.builtin "any") := by decide +kernel
theorem bb_sum : bootBuiltins "sum" = some (.builtin "sum") := by decide +kernel
theorem bb_sorted : bootBuiltins "sorted" = some (.builtin "sorted") := by decide +kernel
theorem bb_int : bootBuiltins "int" = some (.type "int") := by decide +kernel
theorem bb_bool : bootBuiltins "bool" = some (.type "bool") := by decide +kernel
theorem bb_str : bootBuiltins "str" = some (.type "str") := by decide +kernel
theorem bb_list : bootBuiltins "list" = some (.type "list") := by decide +kernel
theorem bb_tuple : bootBuiltins "tuple" = some (.type "tuple") := by decide +kernel
end Y

end
section
set_option Elab.async false
set_option linter.all false
set_option maxRecDepth 100000
set_option autoImplicit false
/-! Y21: not as a value. -/
namespace Y
open PySem L2
section
variable {X : Cx} {W : WX} {xr : (Addr → Prop) → Hp → D → Value → Option Addr → Prop} {c : Ctx} {pos : Pos}
/-- not, of a bool -/
def mNotV (m : M D) : M D := bnd m fun d => match d with
  | .bl b => pur (.bl (!b))
  | _ => bad
theorem s_notV {a : Expr} {m : M D} (ha : PE X a (RE (Cx.gd X W xr) c m)) : PE X (.UnaryOp .Not a pos) (RE (Cx.gd X W xr) c (mNotV m)) := by
  refine PE.weak (pe_not ha) fun σ H Q ⟨Av, ρ, φ, e, h⟩ => ⟨Av, ρ, φ, e, ?_⟩
  unfold mNotV at h
  cases q : m c ρ with
  | bad => simp only [bnd, q] at h
  | exc x ρ' => simp only [bnd, q] at h; exact h
  | ok d ρ1 =>
    simp only [bnd, q] at h
    intro v H1 Av1 φ1 G1 e1 r1 ap1 st1 og1
    cases r1 with
    | bl b => exact ⟨b, rfl, h _ _ _ _ _ e1 (.bl (!b)) Apart.nil st1 OrgG.nil⟩
    | _ => exact h.elim
end
end Y

end
section
set_option Elab.async false
set_option linter.all false
set_option maxRecDepth 100000
set_option autoImplicit false
/-! Y22: chained comparisons of ints. -/
namespace Y
open PySem L2
section
variable {X : Cx} {W : WX} {xr : (Addr → Prop) → Hp → D → Value → Option Addr → Prop} {c : Ctx} {pos : Pos}
def iLt (i j : Int) : Bool := decide (i < j)
def iLe (i j : Int) : Bool := decide (i ≤ j)
def iGt (i j : Int) : Bool := decide (j < i)
def iGe (i j : Int) : Bool := decide (j ≤ i)
theorem k_lt : OpR X (compareOp .Lt) (rI0 fun i j => .bl (iLt i j)) := op_lt
theorem k_le : OpR X (compareOp .LtE) (rI0 fun i j => .bl (iLe i j)) := op_le
theorem k_gt : OpR X (compareOp .Gt) (rI0 fun i j => .bl (iGt i j)) := op_gt
theorem k_ge : OpR X (compareOp .GtE) (rI0 fun i j => .bl (iGe i j)) := op_ge
/-- a f b f' c, of ints; c only where a f b -/
def mChain (f f' : Int → Int → Bool) (ma mb mc : M D) : M D := bnd ma fun a => bnd mb fun b => match a, b with
  | .int i, .int j => match f i j with
    | true => bnd mc fun z => match z with
      | .int k => pur (.bl (f' j k))
      | _ => bad
    | false => pur (.bl false)
  | _, _ => bad
theorem chain_fin {f f' : Int → Int → Bool} {ma mb mc : M D} {g : Gd} {σ : St} {H : Hp} {Q : VK} (h : RE g c (mChain f f' ma mb mc) σ H Q) :
    tChain (rI0 fun i j => .bl (f i j)) (rI0 fun i j => .bl (f' i j)) (RE g c ma) (RE g c mb) (RE g c mc) σ H Q := by
  obtain ⟨Av, ρ, φ, e, h⟩ := h
  refine ⟨Av, ρ, φ, e, ?_⟩
  unfold mChain at h
  cases q : ma c ρ with
  | bad => simp only [bnd, q] at h
  | exc x ρ' => simp only [bnd, q] at h; exact h
  | ok d ρ1 =>
    simp only [bnd, q] at h
    intro v H1 Av1 φ1 G1 e1 r1 ap1 st1 og1
    refine RE.from e1 st1 e.ok ?_
    cases q2 : mb c ρ1 with
    | bad => simp only [q2] at h
    | exc x ρ' => simp only [q2] at h; exact h
    | ok d2 ρ2 =>
      simp only [q2] at h
      intro v2 H2 Av2 φ2 G2 e2 r2 ap2 st2 og2
      cases r1 with
      | int i =>
        cases r2 with
        | int j =>
          refine ⟨i, j, rfl, rfl, f i j, rfl, ?_⟩
          simp only at h
          cases hf : f i j with
          | true =>
            rw [if_pos rfl]
            simp only [hf] at h
            refine RE.from e2 st2 e.ok ?_
            cases q3 : mc c ρ2 with
            | bad => simp only [bnd, q3] at h
            | exc x ρ' => simp only [bnd, q3] at h; exact h
            | ok d3 ρ3 =>
              simp only [bnd, q3] at h
              intro v3 H3 Av3 φ3 G3 e3 r3 ap3 st3 og3
              cases r3 with
              | int k => exact ⟨j, k, rfl, rfl, h _ _ _ _ _ e3 (.bl _) Apart.nil st3 OrgG.nil⟩
              | _ => exact h.elim
          | false =>
            rw [if_neg Bool.false_ne_true]
            simp only [hf] at h
            exact h _ _ _ _ _ e2 (.bl false) Apart.nil st2 OrgG.nil
        | _ => exact h.elim
      | _ => exact h.elim
theorem eChain {op op' : CmpOp} {f f' : Int → Int → Bool} {a b d : Expr} {ma mb md : M D} (ho : OpR X (compareOp op) (rI0 fun i j => .bl (f i j))) (ho' : OpR X (compareOp op') (rI0 fun i j => .bl (f' i j))) (ha : PE X a (RE (Cx.gd X W xr) c ma)) (hb : PE X b (RE (Cx.gd X W xr) c mb)) (hc : PE X d (RE (Cx.gd X W xr) c md))
    (hm : lastMarks [op, op'] [b, d] = false := by with_unfolding_all rfl) : PE X (.Compare a [op, op'] [b, d] pos) (RE (Cx.gd X W xr) c (mChain f f' ma mb md)) :=
  PE.weak (pe_chain ho ho' ha hb hc hm) fun _ _ _ h => chain_fin h
theorem tChn {op op' : CmpOp} {f f' : Int → Int → Bool} {a b d : Expr} {ma mb md : M D} (ho : OpR X (compareOp op) (rI0 fun i j => .bl (f i j))) (ho' : OpR X (compareOp op') (rI0 fun i j => .bl (f' i j))) (ha : PE X a (RE (Cx.gd X W xr) c ma)) (hb : PE X b (RE (Cx.gd X W xr) c mb)) (hc : PE X d (RE (Cx.gd X W xr) c md))
    (hm : lastMarks [op, op'] [b, d] = false := by with_unfolding_all rfl) : PT X (.Compare a [op, op'] [b, d] pos) (RT (Cx.gd X W xr) c (mB (mChain f f' ma mb md))) :=
  PT.weak (pt_chain ho ho' ha hb hc hm) fun _ _ _ h => chain_fin (re_mB h)
end
end Y

end
section
set_option Elab.async false
set_option linter.all false
set_option maxRecDepth 100000
set_option autoImplicit false
/-! Y23: starred parts of displays. -/
namespace Y
open PySem L2
section
variable {X : Cx} {W : WX} {xr : (Addr → Prop) → Hp → D → Value → Option Addr → Prop} {c : Ctx} {pos : Pos}
variable {K : PySem.W.Frag} {Av Av0 Av1 Av2 Av' : Addr → Prop} {H H0 H1 H2 H' : Hp} {φ φ0 φ1 φ2 φ' : Nat → List Addr} {lock : List Nat} {σ σ' : St} {ρ ρ' : Env} {F G : List Addr} {v : V} {d : D} {vs : List V} {ds : List D}
/-- a value's parts -/
def partsD : D → Option (List D)
  | .tup ds => some ds
  | .lst _ ds => some ds
  | _ => none
theorem rep_parts (r : Rep K Av H G v d) (h : partsD d = some ds) : ∃ a xs F, v = .ref a ∧ (SqT K H a xs ∨ SqL K H a xs) ∧ RepL K Av H F xs ds ∧ ∀ x ∈ F, x ∈ G := by
  cases r with
  | tup h1 h2 => cases h; exact ⟨_, _, _, rfl, .inl h1, h2, fun _ z => z⟩
  | lstF h1 h2 h3 => cases h; exact ⟨_, _, _, rfl, .inr (.inl h1), h3, fun _ z => z⟩
  | lstK h1 h2 => cases h; exact ⟨_, _, _, rfl, .inr (sql_any h1), h2, fun _ z => z⟩
  | lstO h1 h2 h3 h4 h5 => cases h; exact ⟨_, _, _, rfl, .inr (.inl (.inl h1)), h3, fun _ z => List.mem_cons_of_mem _ z⟩
  | _ => cases h
theorem RepL.nodupO (r : Rep K Av H G v d) (h : partsD d = some ds) : ∃ a xs F, v = .ref a ∧ (SqT K H a xs ∨ SqL K H a xs) ∧ RepL K Av H F xs ds ∧ (∀ x ∈ F, x ∈ G) ∧ F.Nodup := by
  cases r with
  | tup h1 h2 => cases h; exact ⟨_, _, _, rfl, .inl h1, h2, fun _ z => z, .nil⟩
  | lstF h1 h2 h3 => cases h; exact ⟨_, _, _, rfl, .inr (.inl h1), h3, fun _ z => z, .nil⟩
  | lstK h1 h2 => cases h; exact ⟨_, _, _, rfl, .inr (sql_any h1), h2, fun _ z => z, .nil⟩
  | lstO h1 h2 h3 h4 h5 => cases h; exact ⟨_, _, _, rfl, .inr (.inl (.inl h1)), h3, fun _ z => List.mem_cons_of_mem _ z, h5⟩
  | _ => cases h
/-- *e, .. -/
def mStar (m : M D) (ms : M (List D)) : M (List D) := bnd m fun d => match partsD d with
  | some ds => bnd ms fun os => pur (ds ++ os)
  | none => bad
theorem vl_star {ex : Expr} {es : List Expr} {sp : Pos} {m : M D} {ms : M (List D)} (h1 : PE X ex (RE (Cx.gd X W xr) c m)) (h2 : PA X es (RVL (Cx.gd X W xr) c ms)) (hs : starEach (.Starred ex sp :: es) X.env = (true, eval ex X.env) :: starEach es X.env := by rfl) :
    PA X (.Starred ex sp :: es) (RVL (Cx.gd X W xr) c (mStar m ms)) := by
  refine PA.weak (StX.pa_star h1 h2 hs) fun σ H Q ⟨Av, ρ, φ, e, h⟩ => ⟨Av, ρ, φ, e, ?_⟩
  unfold mStar at h
  cases q : m c ρ with
  | bad => simp only [bnd, q] at h
  | exc x ρ' => simp only [bnd, q] at h; exact h
  | ok o ρ1 =>
    simp only [bnd, q] at h
    intro v H1 Av1 φ1 G1 e1 r1 ap1 st1 og1
    cases qp : partsD o with
    | none => simp only [qp, bad] at h
    | some ds =>
      simp only [qp] at h
      obtain ⟨a, xs, F, rfl, hq, rl, hF, hnd⟩ := RepL.nodupO r1 qp
      refine ⟨a, xs, rfl, hq, Av1, ρ1, φ1, e1, ?_⟩
      cases q2 : ms c ρ1 with
      | bad => simp only [bnd, q2] at h
      | exc x ρ' =>
        simp only [bnd, q2] at h
        exact fun cls y σ' H' Av' φ' e' xr' st hp => h cls y σ' H' Av' φ' e' xr' (st1.trans st e.ok) hp
      | ok os ρ2 =>
        simp only [bnd, q2, pur] at h
        intro vs H2 Av2 φ2 G2 e2 r2 ap2 nd2 st2 og2
        have ap1' : Apart F φ1 := fun x hx i z => ap1 x (hF x hx) i z
        have r1' : RepL X.K Av2 H2 F xs ds := rl.step st2 e1 ap1'
        have th := rl.there e1.ok
        refine h (xs ++ vs) H2 Av2 φ2 (F ++ G2) e2 (r1'.app r2) (fun a ha i z => ?_) (List.nodup_append.mpr ⟨hnd, nd2, fun a ha b hb e => ?_⟩) (st1.trans st2 e.ok) (fun a ha => ?_)
        · rcases List.mem_append.mp ha with ha | ha
          · exact ap1'.step st2 th a ha i z
          · exact ap2 a ha i z
        · subst e
          rcases og2 a hb with ⟨j, _, z⟩ | z
          · exact ap1' a ha j z
          · exact th a ha z
        · rcases List.mem_append.mp ha with ha | ha
          · exact og1 a (hF a ha)
          · exact og2.step st1 a ha
end
end Y

end
section
set_option Elab.async false
set_option linter.all false
set_option maxRecDepth 100000
set_option autoImplicit false
/-! Y24: the module's own numbers and texts. -/
namespace Y
open PySem L2
section
variable {X : Cx} {W : WX} {xr : (Addr → Prop) → Hp → D → Value → Option Addr → Prop} {c : Ctx} {pos : Pos}
theorem s_globI {x : Str} {i : Int} {t : Tok} (hm : X.mg x = some (Value.int i t)) (hg : Gl X x := by rfl) (hd : (x == ("__debug__" : Str)) = false := by decide) : PE X (.Name x pos) (RE (Cx.gd X W xr) c (pur (.int i))) :=
  PE.weak (pe_glob (v := .int i) hg hm ⟨t, rfl⟩ hd) fun σ H Q ⟨Av, ρ, φ, e, h⟩ => h _ _ _ _ _ e (.int i) Apart.nil Step.refl OrgG.nil
theorem s_globS {x : Str} {i : Str} {t : Tok} (hm : X.mg x = some (Value.str i t)) (hg : Gl X x := by rfl) (hd : (x == ("__debug__" : Str)) = false := by decide) : PE X (.Name x pos) (RE (Cx.gd X W xr) c (pur (.str i))) :=
  PE.weak (pe_glob (v := .str i) hg hm ⟨t, rfl⟩ hd) fun σ H Q ⟨Av, ρ, φ, e, h⟩ => h _ _ _ _ _ e (.str i) Apart.nil Step.refl OrgG.nil
end
end Y

end
section
set_option Elab.async false
set_option linter.all false
set_option maxRecDepth 100000
set_option autoImplicit false
/-! Y25: methods of values that change nothing. -/
namespace Y
open PySem L2
section
variable {X : Cx} {W : WX} {xr : (Addr → Prop) → Hp → D → Value → Option Addr → Prop} {c : Ctx} {pos : Pos}
/-- a list only -/
def mLst (m : M D) : M D := bnd m fun d => match d with
  | .lst o xs => pur (.lst o xs)
  | _ => bad
theorem re_lst {g : Gd} {m : M D} {σ : St} {H : Hp} {Q : VK} (h : RE g c (mLst m) σ H Q) : RE g c m σ H fun x H1 => tyV g.K "list" x H1 ∧ Q x H1 := by
  obtain ⟨Av, ρ, φ, e, h⟩ := h
  refine ⟨Av, ρ, φ, e, ?_⟩
  unfold mLst at h
  cases q : m c ρ with
  | bad => simp only [bnd, q] at h
  | exc x ρ' => simp only [bnd, q] at h; exact h
  | ok d ρ1 =>
    simp only [bnd, q] at h
    intro v H1 Av1 φ1 G1 e1 r1 ap1 st1 og1
    cases d with
    | lst o xs =>
      refine ⟨?_, h v H1 Av1 φ1 G1 e1 r1 ap1 st1 og1⟩
      obtain ⟨a, ys, F, rfl, hq, _, _⟩ := rep_parts r1 rfl
      cases r1 with
      | lstF h1 h2 h3 => exact .inl ⟨rfl, _, .inl h1⟩
      | lstK h1 h2 => exact .inl ⟨rfl, _, sql_any h1⟩
      | lstO h1 h2 h3 h4 h5 => exact .inl ⟨rfl, _, .inl (.inl h1)⟩
    | _ => exact h.elim
theorem ro_re {g : Gd} {m : M D} {σ : St} {H : Hp} {Q : VK} (h : RO g c (oE m) σ H Q) : RE g c m σ H Q := by
  obtain ⟨Av, ρ, φ, e, h⟩ := h
  refine ⟨Av, ρ, φ, e, ?_⟩
  unfold oE bnd at h
  cases q : m c ρ with
  | bad => rw [q] at h; exact h.elim
  | exc x ρ' => rw [q] at h; exact h
  | ok d ρ' =>
    rw [q] at h
    exact fun v H' Av' φ' G e' r ap st og => h v H' Av' φ' G e' r ap r.nodup st og
theorem ol_fin {g : Gd} {m : M Opd} {ms : M (List Opd)} {σ : St} {H : Hp} {Q : List V → Hp → Prop} (h : ROL g c (bnd m fun o => bnd ms fun os => pur (o :: os)) σ H Q) :
    RO g c m σ H fun x H1 => ROL g c ms σ H1 fun xs H2 => Q (x :: xs) H2 := by
  obtain ⟨Av, ρ, φ, e, h⟩ := h
  refine ⟨Av, ρ, φ, e, ?_⟩
  cases q : m c ρ with
  | bad => simp only [bnd, q] at h
  | exc x ρ' => simp only [bnd, q] at h; exact h
  | ok o ρ1 =>
    simp only [bnd, q] at h
    intro v H1 Av1 φ1 G1 e1 r1 ap1 nd1 st1 og1
    refine ⟨Av1, ρ1, φ1, e1, ?_⟩
    cases q2 : ms c ρ1 with
    | bad => simp only [q2] at h
    | exc x ρ' =>
      simp only [q2] at h
      exact fun cls y σ' H' Av' φ' e' xr' st hp => h cls y σ' H' Av' φ' e' xr' (st1.trans st e.ok) hp
    | ok os ρ2 =>
      simp only [q2, pur] at h
      intro vs H2 Av2 φ2 G2 e2 r2 ap2 nd2 st2 og2
      have r1' : RepO g.K Av2 H2 σ G1 v o := r1.keep e1.ok (fun a ⟨i, h⟩ => e1.own h) st2.keeps fun a ha ⟨i, h⟩ => ap1 a ha i h
      have th : ∀ a ∈ G1, H1 a ≠ none := fun a ha => by
        obtain ⟨o', q', _⟩ := e1.ok a (r1.av a ha)
        rw [q']; exact fun z => nomatch z
      refine h (v :: vs) H2 Av2 φ2 (G1 ++ G2) e2 (.cons r1' r2) (fun a ha i z => ?_) (List.nodup_append.mpr ⟨nd1, nd2, fun a ha b hb e => ?_⟩) (st1.trans st2 e.ok) (fun a ha => ?_)
      · rcases List.mem_append.mp ha with ha | ha
        · exact ap1.step st2 th a ha i z
        · exact ap2 a ha i z
      · subst e
        rcases og2 a hb with ⟨j, _, z⟩ | z
        · exact ap1 a ha j z
        · exact th a ha z
      · rcases List.mem_append.mp ha with ha | ha
        · exact og1 a ha
        · exact og2.step st1 a ha
/-- a list's method, by a function of the list and the arguments -/
theorem s_methL {ob ex : Expr} {es : List Expr} {name : Str} {apos : Pos} {id : String} {p : List D → Option D} {m : M D} {mos : M (List Opd)} (slot : Slot "list" name id) (hty : typeOf (.builtin id) = pure (.type "method_descriptor"))
    (hm : MtR X id fun x xs H Q => rPrim X.K p (x :: xs) H Q) (ho : PE X ob (RE (Cx.gd X W xr) c m)) (ha : PA X (ex :: es) (ROL (Cx.gd X W xr) c mos))
    (hbase : attributeBase ob name X.env (eval ob X.env) = eval ob X.env := by rfl)
    (hfew : ((backTo pos (starEach (ex :: es) X.env)).all (fun x => !x.1) && (backToKw pos (keywordEach [] X.env)).all (fun x => x.1.isSome)
      && decide ((ex :: es).length + ([] : List Keyword).length + (if ([] : List Keyword).isEmpty then 0 else 1) < 30)) = true := by rfl)
    (hline : (apos.endLine == pos.line) = true := by rfl) (hs : starEach (ex :: es) X.env = (false, eval ex X.env) :: starEach es X.env := by rfl) (hplain : (backTo pos (starEach es X.env)).any (·.1) = false := by rfl) :
    PE X (.Call (.Attribute ob name apos) (ex :: es) [] pos) (RE (Cx.gd X W xr) c (mPrim gC p (bnd (oE (mLst m)) fun o => bnd mos fun os => pur (o :: os)))) :=
  PE.weak (pe_bm PySem.F.plainAttrs_list slot hty hm ho ha hbase hfew hline hs hplain) fun σ H Q h => re_lst (ro_re (ol_fin (rol_fin .c h)))
end
end Y

end
section
set_option Elab.async false
set_option linter.all false
set_option maxRecDepth 100000
set_option autoImplicit false
/-! Y26: list.index. -/
namespace Y
open PySem L2
section
variable {X : Cx} {W : WX} {xr : (Addr → Prop) → Hp → D → Value → Option Addr → Prop} {c : Ctx} {pos : Pos}
def pIndex : List D → Option D
  | [.lst o ys, x] => if (okP x && okP (.lst o ys)) = true then ((toP.toPs ys).findIdx? fun z => PyData.eqv z (toP x)).map fun (j : Nat) => .int j else none
  | _ => none
theorem m_index (hu : X.A.units + 65 < cLine) : MtR X "list.index" fun x xs H Q => rPrim X.K pIndex (x :: xs) H Q := by
  intro pins s σ H x xs v us Q I rx rs ⟨Av, ds, d, ok, r, hp, q⟩
  refine mt_indexD hu pins s σ H x xs v us Q I rx rs ?_
  match ds, xs, r, hp with
  | [.lst o ys, b], [y], .cons ra (.cons rb .nil), hp =>
    have hp : (if (okP b && okP (.lst o ys)) = true then ((toP.toPs ys).findIdx? fun z => PyData.eqv z (toP b)).map fun (j : Nat) => D.int j else none) = some d := hp
    split at hp
    · rename_i hh
      rw [Bool.and_eq_true] at hh
      obtain ⟨j, hj, rfl⟩ := Option.map_eq_some_iff.mp hp
      obtain ⟨hl, h1, h2⟩ := List.findIdx?_eq_some_iff_getElem.mp hj
      have hx : ∃ a, x = .ref a := by cases ra <;> exact ⟨_, rfl⟩
      obtain ⟨a, rfl⟩ := hx
      refine ⟨a, y, toP b, toP.toPs ys, j, (toP.toPs ys)[j], rfl, rfl, ra.dp, rb.dp, hh.2, hh.1, List.getElem?_eq_getElem hl, h1, fun m z' hm hz => ?_, ans ok (.int _) q⟩
      obtain ⟨hm', rfl⟩ := List.getElem?_eq_some_iff.mp hz
      simpa using h2 m hm
    · cases hp
end
end Y

end
section
set_option Elab.async false
set_option linter.all false
set_option maxRecDepth 100000
set_option autoImplicit false
/-! U1: direct meanings over cold trees; how a meaning with slots stands for one. -/
namespace Y
namespace U
open PySem
inductive R (α : Type) where
  | ok (a : α) | exc (e : D) | bad
def R.bind {α β : Type} (x : R α) (f : α → R β) : R β := match x with
  | .ok a => f a
  | .exc e => .exc e
  | .bad => .bad
@[simp] theorem R.bind_ok {α β : Type} (a : α) (f : α → R β) : (R.ok a).bind f = f a := rfl
@[simp] theorem R.bind_exc {α β : Type} (e : D) (f : α → R β) : (R.exc e : R α).bind f = .exc e := rfl
@[simp] theorem R.bind_bad {α β : Type} (f : α → R β) : (R.bad : R α).bind f = .bad := rfl
theorem R.bind_assoc {α β δ : Type} (x : R α) (f : α → R β) (g : β → R δ) : (x.bind f).bind g = x.bind fun a => (f a).bind g := by cases x <;> rfl
@[simp] theorem R.bind_self {α : Type} (x : R α) : x.bind R.ok = x := by cases x <;> rfl
theorem R.bind_ite {α β : Type} (p : Prop) [Decidable p] (x y : R α) (f : α → R β) : (if p then x else y).bind f = if p then x.bind f else y.bind f := by split <;> rfl

/-- what is known of whether a thing is owned -/
inductive Fg where
  | own | cold | any
/-- what is known of a slot -/
inductive Sl where
  | any | cold | val (x : D) (f : Fg)
abbrev Ga := List Sl
def FgOk : Fg → D → Prop
  | .own, d => isOwn d = true
  | .cold, d => isOwn d = false
  | .any, _ => True
def Fits : Sl → Option D → Prop
  | .any, _ => True
  | .cold, o => ∀ d, o = some d → isOwn d = false
  | .val x f, o => ∃ d, o = some d ∧ frz d = x ∧ FgOk f d
abbrev St (γ : Ga) (ρ : Env) : Prop := All2 Fits γ ρ
noncomputable def gat (γ : Ga) (n : Nat) : Sl := Nat.rec (motive := fun _ => Ga → Sl) (fun γ => List.rec (motive := fun _ => Sl) .any (fun s _ _ => s) γ) (fun _ ih γ => List.rec (motive := fun _ => Sl) .any (fun _ γ' _ => ih γ') γ) n γ
noncomputable def gset (γ : Ga) (n : Nat) (s : Sl) : Ga := Nat.rec (motive := fun _ => Ga → Ga) (fun γ => List.rec (motive := fun _ => Ga) [] (fun _ γ' _ => s :: γ') γ) (fun _ ih γ => List.rec (motive := fun _ => Ga) [] (fun t γ' _ => t :: ih γ') γ) n γ
theorem gat_nil {n : Nat} : gat [] n = .any := by cases n <;> rfl
theorem gset_nil {n : Nat} {s : Sl} : gset [] n s = [] := by cases n <;> rfl
theorem St.get {γ : Ga} {ρ : Env} {i : Nat} {x : D} {f : Fg} (h : St γ ρ) (e : gat γ i = .val x f) : ∃ d, ρ[i]? = some (some d) ∧ frz d = x ∧ FgOk f d := by
  induction h generalizing i with
  | nil => rw [gat_nil] at e; cases e
  | @cons s o γ ρ h1 h2 ih =>
    cases i with
    | zero =>
      have e : s = .val x f := e
      subst e
      obtain ⟨d, rfl, h3, h4⟩ := h1
      exact ⟨d, rfl, h3, h4⟩
    | succ i =>
      obtain ⟨d, h3, h4⟩ := ih (i := i) e
      exact ⟨d, by simpa using h3, h4⟩
theorem St.at {γ : Ga} {ρ : Env} {i : Nat} {o : Option D} (h : St γ ρ) (e : ρ[i]? = some o) : Fits (gat γ i) o := by
  induction h generalizing i with
  | nil => simp at e
  | @cons s o' γ ρ h1 h2 ih =>
    cases i with
    | zero => simp at e; subst e; exact h1
    | succ i => exact ih (by simpa using e)
theorem St.set {γ : Ga} {ρ : Env} {i : Nat} {s : Sl} {o : Option D} (h : St γ ρ) (e : Fits s o) : St (gset γ i s) (ρ.set i o) := by
  induction h generalizing i with
  | nil => rw [gset_nil]; exact .nil
  | @cons s' o' γ ρ h1 h2 ih =>
    cases i with
    | zero => exact .cons e h2
    | succ i => exact .cons h1 ih
theorem gset_at {γ : Ga} {i : Nat} : gset γ i (gat γ i) = γ := by
  induction γ generalizing i with
  | nil => exact gset_nil
  | cons s γ ih => cases i with
    | zero => rfl
    | succ i => show s :: gset γ i (gat γ i) = _; rw [ih]
/-- the slot's thing is told otherwise, and is the same -/
theorem St.same {γ : Ga} {ρ : Env} {i : Nat} {o : Option D} (h : St γ ρ) (e : Fits (gat γ i) o) : St γ (ρ.set i o) := by
  have := h.set (i := i) e
  rwa [gset_at] at this
theorem gset_len {γ : Ga} {i : Nat} {s : Sl} : (gset γ i s).length = γ.length := by
  induction γ generalizing i with
  | nil => rw [gset_nil]
  | cons t γ ih => cases i with
    | zero => rfl
    | succ i => show (gset γ i s).length + 1 = _; rw [ih]; rfl
theorem own_frz (d : D) : isOwn (frz d) = false := by cases d <;> rfl
theorem frz_chill (d : D) : frz (chill d) = frz d := by
  cases d with
  | lst o xs => show D.lst false (frz.frzL (frz.frzL xs)) = .lst false (frz.frzL xs); rw [frzL2]
  | dct o xs => show D.dct false (frz.frzP (frz.frzP xs)) = .dct false (frz.frzP xs); rw [frzP2]
  | _ => rfl
theorem own_chill (d : D) : isOwn (chill d) = isOwn d := by cases d <;> rfl
theorem FgOk.chill {f : Fg} {d : D} (h : FgOk f d) : FgOk f (chill d) := by
  cases f with
  | own => show isOwn (Y.chill d) = true; rw [own_chill]; exact h
  | cold => show isOwn (Y.chill d) = false; rw [own_chill]; exact h
  | any => trivial
/-- less is known -/
abbrev Le (γ γ' : Ga) : Prop := ∀ ρ, St γ ρ → St γ' ρ
abbrev LeS (s s' : Sl) : Prop := ∀ o, Fits s o → Fits s' o
theorem Le.rfl {γ : Ga} : Le γ γ := fun _ h => h
theorem le_nil : Le [] [] := fun _ h => h
theorem le_cons {s s' : Sl} {γ γ' : Ga} (h1 : LeS s s') (h2 : Le γ γ') : Le (s :: γ) (s' :: γ') := fun _ h => by
  cases h with
  | cons a b => exact .cons (h1 _ a) (h2 _ b)
theorem les_rfl {s : Sl} : LeS s s := fun _ h => h
theorem les_any {s : Sl} : LeS s .any := fun _ _ => trivial
theorem les_val {x : D} {f : Fg} : LeS (.val x f) (.val x .any) := fun _ ⟨d, h1, h2, _⟩ => ⟨d, h1, h2, trivial⟩
theorem les_cold {x : D} : LeS (.val x .cold) .cold := fun _ ⟨d, h1, _, h3⟩ e h => by rw [h1] at h; cases h; exact h3
abbrev FLe (f f' : Fg) : Prop := ∀ d, FgOk f d → FgOk f' d
theorem fle_rfl {f : Fg} : FLe f f := fun _ h => h
theorem fle_any {f : Fg} : FLe f .any := fun _ _ => trivial

/-- a run with slots and a direct one -/
def Sim {α β : Type} (X : Env → Prop) (P : α → Env → β → Prop) (x : Rs α) (u : R β) : Prop := match u with
  | .ok b => ∃ a ρ, x = .ok a ρ ∧ P a ρ b
  | .exc e => ∃ d ρ, x = .exc d ρ ∧ frz d = e ∧ X ρ
  | .bad => True
theorem Sim.mono {α β : Type} {X : Env → Prop} {P P' : α → Env → β → Prop} {x : Rs α} {u : R β} (h : Sim X P x u) (w : ∀ a ρ b, P a ρ b → P' a ρ b) : Sim X P' x u := by
  cases u with
  | ok b => obtain ⟨a, ρ, h1, h2⟩ := h; exact ⟨a, ρ, h1, w _ _ _ h2⟩
  | exc e => exact h
  | bad => trivial
theorem Sim.bnd {α α' β β' : Type} {X : Env → Prop} {P : α → Env → β → Prop} {P' : α' → Env → β' → Prop} {m : M α} {g : α → M α'} {c : Ctx} {ρ : Env} {u : R β} {k : β → R β'}
    (h : Sim X P (m c ρ) u) (w : ∀ a ρ' b, P a ρ' b → Sim X P' (g a c ρ') (k b)) : Sim X P' (Y.bnd m g c ρ) (u.bind k) := by
  cases u with
  | ok b =>
    obtain ⟨a, ρ', h1, h2⟩ := h
    rw [bnd_def, h1]
    exact w _ _ _ h2
  | exc e =>
    obtain ⟨d, ρ', h1, h2, h3⟩ := h
    rw [bnd_def, h1]
    exact ⟨d, ρ', rfl, h2, h3⟩
  | bad => trivial
where bnd_def {α β : Type} {m : M α} {f : α → M β} {c : Ctx} {ρ : Env} : Y.bnd m f c ρ = (match m c ρ with
  | .ok a ρ' => f a c ρ'
  | .exc e ρ' => .exc e ρ'
  | .bad => .bad) := rfl
theorem bnd_assoc {α β δ : Type} (m : M α) (f : α → M β) (g : β → M δ) : bnd (bnd m f) g = bnd m fun a => bnd (f a) g := by
  funext c ρ
  simp only [bnd]
  cases m c ρ <;> rfl
theorem bnd_pur {α : Type} (m : M α) : bnd m pur = m := by
  funext c ρ
  simp only [bnd]
  cases m c ρ <;> rfl

/-- a part m of a meaning and the direct part U (with what follows, k) -/
def CV {α' ξ σ : Type} (X : Env → Prop) (c : Ctx) (γ : Ga) (m : M α') (Rl : α' → ξ → Prop) (γ' : σ → Ga) (U : (β : Type) → (ξ → σ → R β) → R β) : Prop :=
  ∀ (α β : Type) (P : α → Env → β → Prop) (g : α' → M α) (k : ξ → σ → R β), (∀ a ρ x s, Rl a x → St (γ' s) ρ → Sim X P (g a c ρ) (k x s)) → ∀ ρ, St γ ρ → Sim X P (bnd m g c ρ) (U β k)
/-- values -/
def RD (f : Fg) (d x : D) : Prop := frz d = x ∧ FgOk f d
section
variable {α' α1 ξ ξ1 σ σ1 σ2 : Type} {X : Env → Prop} {c : Ctx} {γ : Ga}
theorem CV.sim {m : M α'} {Rl : α' → ξ → Prop} {γ' : σ → Ga} {U : (β : Type) → (ξ → σ → R β) → R β} (h : CV X c γ m Rl γ' U) {ρ : Env} (hs : St γ ρ) {β : Type} (P : α' → Env → β → Prop) (k : ξ → σ → R β)
    (w : ∀ a ρ x s, Rl a x → St (γ' s) ρ → Sim X P (.ok a ρ) (k x s)) : Sim X P (m c ρ) (U β k) := by
  have := h _ _ P pur k w ρ hs
  rwa [bnd_pur] at this
theorem cv_pur {a : α'} {x : ξ} {Rl : α' → ξ → Prop} (h : Rl a x) : CV X c γ (pur a) Rl (fun _ : Unit => γ) (fun _ k => k x ()) := fun _ _ P g k w ρ hs => w a ρ x () h hs
theorem cv_bnd {m : M α1} {f : α1 → M α'} {R1 : α1 → ξ1 → Prop} {R2 : α' → ξ → Prop} {γ1 : σ1 → Ga} {γ2 : σ1 → σ2 → Ga} {U1 : (β : Type) → (ξ1 → σ1 → R β) → R β} {U2 : ξ1 → σ1 → (β : Type) → (ξ → σ2 → R β) → R β}
    (h1 : CV X c γ m R1 γ1 U1) (h2 : ∀ a x s, R1 a x → CV X c (γ1 s) (f a) R2 (γ2 s) (U2 x s)) :
    CV X c γ (bnd m f) R2 (fun p : σ1 × σ2 => γ2 p.1 p.2) (fun β k => U1 β fun x s => U2 x s β fun y t => k y (s, t)) := fun _ _ P g k w ρ hs => by
  rw [bnd_assoc]
  exact h1 _ _ P _ _ (fun a ρ x s r hs => h2 a x s r _ _ P g _ (fun a ρ y t r hs => w a ρ y (s, t) r hs) ρ hs) ρ hs
theorem cv_rel {m : M α'} {R1 R2 : α' → ξ → Prop} {γ' : σ → Ga} {U : (β : Type) → (ξ → σ → R β) → R β} (h : CV X c γ m R1 γ' U) (w : ∀ a x, R1 a x → R2 a x) : CV X c γ m R2 γ' U :=
  fun _ _ P g k w' ρ hs => h _ _ P g k (fun a ρ x s r hs => w' a ρ x s (w a x r) hs) ρ hs
/-- the state told otherwise -/
theorem cv_st {τ : Type} {m : M α'} {Rl : α' → ξ → Prop} {γ' : σ → Ga} {U : (β : Type) → (ξ → σ → R β) → R β} (h : CV X c γ m Rl γ' U) (γ'' : τ → Ga) (f : σ → τ) (w : ∀ s, Le (γ' s) (γ'' (f s))) : CV X c γ m Rl γ'' (fun β k => U β fun x s => k x (f s)) :=
  fun _ _ P g k w' ρ hs => h _ _ P g _ (fun a ρ x s r hs => w' a ρ x (f s) r (w s ρ hs)) ρ hs
/-- a value that is got or not -/
theorem cv_opt {m : M α1} {f : α1 → M α'} {R1 : α1 → ξ1 → Prop} {R2 : α' → ξ → Prop} {γ1 : σ1 → Ga} {U1 : (β : Type) → (ξ1 → σ1 → R β) → R β} (h1 : CV X c γ m R1 γ1 U1) (v : ξ1 → σ1 → R ξ)
    (h2 : ∀ a x s ρ y, R1 a x → St (γ1 s) ρ → v x s = .ok y → ∃ b ρ', f a c ρ = .ok b ρ' ∧ R2 b y ∧ St (γ1 s) ρ') (h3 : ∀ x s e, v x s ≠ .exc e) :
    CV X c γ (bnd m f) R2 γ1 (fun β k => U1 β fun x s => (v x s).bind fun y => k y s) := fun _ _ P g k w ρ hs => by
  rw [bnd_assoc]
  refine h1 _ _ P _ _ (fun a ρ x s r hs => ?_) ρ hs
  cases e : v x s with
  | ok y =>
    obtain ⟨b, ρ', e1, r2, hs2⟩ := h2 a x s ρ y r hs e
    show Sim X P (bnd (f a) g c ρ) (k y s)
    have : bnd (f a) g c ρ = g b c ρ' := by unfold bnd; rw [e1]
    rw [this]
    exact w b ρ' y s r2 hs2
  | exc e' => exact absurd e (h3 _ _ _)
  | bad => trivial

/-! ### names, constants -/
theorem cv_var {i : Nat} {x : D} {f : Fg} (h : gat γ i = .val x f) : CV X c γ (eVar i) (RD .cold) (fun _ : Unit => gset γ i (.val x .cold)) (fun _ k => k x ()) := fun _ _ P g k w ρ hs => by
  obtain ⟨d, h1, h2, h3⟩ := hs.get h
  have : bnd (eVar i) g c ρ = g (frz d) c (ρ.set i (some (frz d))) := by simp only [bnd, eVar, h1]
  rw [this]
  exact w _ _ x () ⟨by rw [frz2, h2], own_frz d⟩ (hs.set ⟨frz d, rfl, by rw [frz2, h2], own_frz d⟩)
theorem cv_varC {i : Nat} {x : D} (h : gat γ i = .val x .cold) : CV X c γ (eVar i) (RD .cold) (fun _ : Unit => γ) (fun _ k => k x ()) := fun _ _ P g k w ρ hs => by
  have := cv_var (X := X) (c := c) h _ _ P g k (fun a ρ x s r hs => w a ρ x s r ?_) ρ hs
  · exact this
  · rwa [← h, gset_at] at hs
theorem cv_con {d : D} (h : frz d = d := by rfl) (h2 : isOwn d = false := by rfl) : CV X c γ (pur d) (RD .cold) (fun _ : Unit => γ) (fun _ k => k d ()) := cv_pur ⟨h, h2⟩

/-! ### operands -/
def OpL : List (Option Nat × Fg) → List Opd → List D → Prop
  | [], [], [] => True
  | (some i, _) :: is, .slot j :: os, xs => i = j ∧ OpL is os xs
  | (none, f) :: is, .val d :: os, x :: xs => frz d = x ∧ FgOk f d ∧ OpL is os xs
  | _, _, _ => False
def isVal : Sl → Bool
  | .val _ _ => true
  | _ => false
def Sl.v : Sl → D
  | .val x _ => x
  | _ => .non
def Sl.f : Sl → Fg
  | .val _ f => f
  | _ => .any
noncomputable def okV (γ : Ga) : List (Option Nat × Fg) → Bool
  | [] => true
  | (some i, _) :: is => isVal (gat γ i) && okV γ is
  | (none, _) :: is => okV γ is
def hd : List D → D
  | x :: _ => x
  | [] => .non
def tl : List D → List D
  | _ :: xs => xs
  | [] => []
noncomputable def mgV (γ : Ga) : List (Option Nat × Fg) → List D → List D
  | [], _ => []
  | (some i, _) :: is, vs => (gat γ i).v :: mgV γ is vs
  | (none, _) :: is, vs => hd vs :: mgV γ is (tl vs)
noncomputable def mgF (γ : Ga) : List (Option Nat × Fg) → List Fg
  | [] => []
  | (some i, _) :: is => (gat γ i).f :: mgF γ is
  | (none, f) :: is => f :: mgF γ is
/-- one operand -/
abbrev OP (i : Option Nat × Fg) (o : Opd) (xs : List D) : Prop := OpL [i] [o] xs
theorem cv_oN {i : Nat} {x : D} {f : Fg} (h : gat γ i = .val x f) : CV X c γ (oN i) (OP (some i, .any)) (fun _ : Unit => γ) (fun _ k => k [] ()) := fun _ _ P g k w ρ hs => by
  obtain ⟨d, h1, h2, h3⟩ := hs.get h
  have : bnd (oN i) g c ρ = g (.slot i) c ρ := by simp only [bnd, oN, h1]
  rw [this]
  exact w _ _ [] () ⟨rfl, trivial⟩ hs
theorem cv_oE {m : M D} {f : Fg} {γ' : σ → Ga} {U : (β : Type) → (D → σ → R β) → R β} (h : CV X c γ m (RD f) γ' U) : CV X c γ (oE m) (OP (none, f)) γ' (fun β k => U β fun x s => k [x] s) := fun _ _ P g k w ρ hs => by
  unfold oE
  rw [bnd_assoc]
  exact h _ _ P _ _ (fun a ρ x s r hs => w (.val a) ρ [x] s ⟨r.1, r.2, trivial⟩ hs) ρ hs
theorem ol_nil : CV X c γ (pur []) (OpL []) (fun _ : Unit => γ) (fun _ k => k [] ()) := cv_pur trivial
theorem opl_app {i : Option Nat × Fg} {is : List (Option Nat × Fg)} {o : Opd} {os : List Opd} {v vs : List D} (h1 : OP i o v) (h2 : OpL is os vs) : OpL (i :: is) (o :: os) (v ++ vs) := by
  obtain ⟨i, f⟩ := i
  cases i with
  | some i => cases o with
    | slot j =>
      obtain ⟨e, h1⟩ := h1
      cases v with
      | nil => exact ⟨e, h2⟩
      | cons _ _ => exact h1.elim
    | val d => exact h1.elim
  | none => cases o with
    | slot j => exact h1.elim
    | val d => cases v with
      | nil => exact h1.elim
      | cons x v => cases v with
        | nil => exact ⟨h1.1, h1.2.1, h2⟩
        | cons _ _ => exact h1.2.2.elim
theorem ol_cons {mo : M Opd} {mos : M (List Opd)} {i : Option Nat × Fg} {is : List (Option Nat × Fg)} {γ1 : σ1 → Ga} {γ2 : σ1 → σ2 → Ga} {U1 : (β : Type) → (List D → σ1 → R β) → R β} {U2 : σ1 → (β : Type) → (List D → σ2 → R β) → R β}
    (h1 : CV X c γ mo (OP i) γ1 U1) (h2 : ∀ s, CV X c (γ1 s) mos (OpL is) (γ2 s) (U2 s)) :
    CV X c γ (bnd mo fun o => bnd mos fun os => pur (o :: os)) (OpL (i :: is)) (fun p : σ1 × σ2 => γ2 p.1 p.2) (fun β k => U1 β fun v s => U2 s β fun vs t => k (v ++ vs) (s, t)) := fun _ _ P g k w ρ hs => by
  rw [bnd_assoc]
  refine h1 _ _ P _ _ (fun o ρ v s r hs => ?_) ρ hs
  rw [bnd_assoc]
  exact h2 s _ _ P _ _ (fun os ρ vs t r2 hs => w (o :: os) ρ (v ++ vs) (s, t) (opl_app r r2) hs) ρ hs
/-- which way operands are got -/
def GetOk (get : Opd → M D) : Prop := get = gC ∨ get = gR
theorem chill2 (d : D) : chill (chill d) = chill d := by
  cases d with
  | lst o xs => show D.lst o (frz.frzL (frz.frzL xs)) = .lst o (frz.frzL xs); rw [frzL2]
  | dct o xs => show D.dct o (frz.frzP (frz.frzP xs)) = .dct o (frz.frzP xs); rw [frzP2]
  | _ => rfl
theorem get_ok {get : Opd → M D} (hg : GetOk get) : ∀ {is : List (Option Nat × Fg)} {os : List Opd} {vs : List D} {ρ : Env}, St γ ρ → OpL is os vs → okV γ is = true →
    ∃ ds ρ', gets get os c ρ = .ok ds ρ' ∧ ds.map frz = mgV γ is vs ∧ All2 FgOk (mgF γ is) ds ∧ St γ ρ' ∧ (get = gC → ∀ d ∈ ds, chill d = d)
  | [], [], [], ρ, hs, _, _ => ⟨[], ρ, rfl, rfl, .nil, hs, fun _ _ h => nomatch h⟩
  | (some i, f0) :: is, .slot j :: os, vs, ρ, hs, h, hv => by
    obtain ⟨rfl, h⟩ := h
    have hv : (isVal (gat γ i) && okV γ is) = true := hv
    rw [Bool.and_eq_true] at hv
    cases e : gat γ i with
    | any => rw [e] at hv; exact nomatch hv.1
    | cold => rw [e] at hv; exact nomatch hv.1
    | val x f =>
      obtain ⟨d, h1, h2, h3⟩ := hs.get e
      have key : ∃ d' ρ', get (.slot i) c ρ = .ok d' ρ' ∧ frz d' = x ∧ FgOk f d' ∧ St γ ρ' ∧ (get = gC → chill d' = d') := by
        rcases hg with rfl | rfl
        · refine ⟨chill d, ρ.set i (some (chill d)), by show oVar i c ρ = _; simp only [oVar, h1], by rw [frz_chill, h2], h3.chill, ?_, fun _ => chill2 d⟩
          exact hs.same (by rw [e]; exact ⟨_, rfl, by rw [frz_chill, h2], h3.chill⟩)
        · refine ⟨d, ρ, by show rVar i c ρ = _; simp only [rVar, h1], h2, h3, hs, fun e => ?_⟩
          have := congrFun (congrFun (congrFun e (.val (.lst true [.lst true []]))) ⟨[], []⟩) []
          exact nomatch this
      obtain ⟨d', ρ', k1, k2, k3, k4, kc⟩ := key
      obtain ⟨ds, ρ2, k5, k6, k7, k8, k9⟩ := get_ok hg k4 h hv.2
      refine ⟨d' :: ds, ρ2, ?_, ?_, ?_, k8, fun e z hz => ?_⟩
      · simp only [gets, bnd, k1, k5, pur]
      · show frz d' :: ds.map frz = (gat γ i).v :: mgV γ is vs
        rw [k2, k6, e]; rfl
      · show All2 FgOk ((gat γ i).f :: mgF γ is) (d' :: ds)
        rw [e]; exact .cons k3 k7
      · rcases List.mem_cons.mp hz with rfl | hz
        · exact kc e
        · exact k9 e z hz
  | (none, f) :: is, .val d :: os, x :: vs, ρ, hs, h, hv => by
    obtain ⟨h1, h2, h⟩ := h
    have key : ∃ d', get (.val d) c ρ = .ok d' ρ ∧ frz d' = x ∧ FgOk f d' ∧ (get = gC → chill d' = d') := by
      rcases hg with rfl | rfl
      · exact ⟨chill d, rfl, by rw [frz_chill, h1], h2.chill, fun _ => chill2 d⟩
      · refine ⟨d, rfl, h1, h2, fun e => ?_⟩
        have := congrFun (congrFun (congrFun e (.val (.lst true [.lst true []]))) ⟨[], []⟩) []
        exact nomatch this
    obtain ⟨d', k1, k2, k3, kc⟩ := key
    obtain ⟨ds, ρ2, k5, k6, k7, k8, k9⟩ := get_ok hg hs h hv
    refine ⟨d' :: ds, ρ2, ?_, ?_, .cons k3 k7, k8, fun e z hz => ?_⟩
    · simp only [gets, bnd, k1, k5, pur]
    · show frz d' :: ds.map frz = x :: mgV γ is vs
      rw [k2, k6]
    · rcases List.mem_cons.mp hz with rfl | hz
      · exact kc e
      · exact k9 e z hz
  | [], [], _ :: _, _, _, h, _ => h.elim
  | [], _ :: _, _, _, _, h, _ => h.elim
  | (some _, _) :: _, [], _, _, _, h, _ => h.elim
  | (some _, _) :: _, .val _ :: _, _, _, _, h, _ => h.elim
  | (none, _) :: _, [], _, _, _, h, _ => h.elim
  | (none, _) :: _, .slot _ :: _, _, _, _, h, _ => h.elim
  | (none, _) :: _, .val _ :: _, [], _, _, h, _ => h.elim

/-! ### operations -/
/-- an operation of cold trees -/
def uP (p : List D → Option D) (xs : List D) : R D := match p xs with
  | some d => .ok (frz d)
  | none => .bad
/-- p stands for q; fs: what is known of its operands; f: what it gives -/
def Lk (get : Opd → M D) (p q : List D → Option D) (fs : List Fg) (f : Fg) : Prop := ∀ ds d', (get = gC → ∀ d ∈ ds, chill d = d) → All2 FgOk fs ds → q (ds.map frz) = some d' → ∃ d, p ds = some d ∧ frz d = frz d' ∧ FgOk f d
/-- it asks not what is owned -/
def Ins (p : List D → Option D) (f : Fg) : Prop := ∀ ds d', p (ds.map frz) = some d' → ∃ d, p ds = some d ∧ frz d = frz d' ∧ FgOk f d
theorem Ins.k {p : List D → Option D} {f : Fg} (h : Ins p f) {get : Opd → M D} {fs : List Fg} : Lk get p p fs f := fun ds d' _ _ e => h ds d' e
theorem uP_noexc {p : List D → Option D} {xs : List D} {e : D} : uP p xs ≠ .exc e := by unfold uP; split <;> exact fun h => nomatch h
theorem cv_gets {get : Opd → M D} (hg : GetOk get) {p q : List D → Option D} {f : Fg} {mos : M (List Opd)} {is : List (Option Nat × Fg)} {γ1 : σ1 → Ga} {U1 : (β : Type) → (List D → σ1 → R β) → R β}
    (hp : ∀ s, Lk get p q (mgF (γ1 s) is) f) (h : CV X c γ mos (OpL is) γ1 U1) (hv : ∀ s, okV (γ1 s) is = true) : CV X c γ (mPrim get p mos) (RD f) γ1 (fun β k => U1 β fun vs s => (uP q (mgV (γ1 s) is vs)).bind fun r => k r s) :=
  cv_opt (f := fun os => mGets get p os) h (fun vs s => uP q (mgV (γ1 s) is vs)) (fun os vs s ρ y r hs e => by
    obtain ⟨ds, ρ', h1, h2, h3, h4, h5⟩ := get_ok hg (c := c) hs r (hv s)
    unfold uP at e
    rw [← h2] at e
    cases q : q (ds.map frz) with
    | none => rw [q] at e; cases e
    | some d' =>
      rw [q] at e
      obtain ⟨d, k1, k2, k3⟩ := hp s ds d' h5 h3 q
      refine ⟨d, ρ', by simp only [mGets, bnd, h1, k1, ofO], ⟨?_, k3⟩, h4⟩
      rw [k2]; injection e) (fun _ _ _ => uP_noexc)
theorem mBin_eq (get : Opd → M D) (p : List D → Option D) (ma mb : M Opd) : mBin get p ma mb = mPrim get p (bnd ma fun a => bnd (bnd mb fun b => bnd (pur []) fun os => pur (b :: os)) fun os => pur (a :: os)) := by
  funext c ρ
  simp only [mBin, mPrim, bnd, pur]
  cases ma c ρ with
  | ok a ρ1 => cases h : mb c ρ1 <;> simp only [h]
  | _ => rfl
theorem mUn_eq (get : Opd → M D) (p : List D → Option D) (ma : M Opd) : mUn get p ma = mPrim get p (bnd ma fun a => bnd (pur []) fun os => pur (a :: os)) := by
  funext c ρ
  simp only [mUn, mPrim, bnd, pur]
  cases ma c ρ <;> rfl
theorem cv_prim {p q : List D → Option D} {f : Fg} {mos : M (List Opd)} {is : List (Option Nat × Fg)} {γ1 : σ1 → Ga} {U1 : (β : Type) → (List D → σ1 → R β) → R β}
    (hp : ∀ s, Lk gC p q (mgF (γ1 s) is) f) (h : CV X c γ mos (OpL is) γ1 U1) (hv : ∀ s, okV (γ1 s) is = true) : CV X c γ (mPrim gC p mos) (RD f) γ1 (fun β k => U1 β fun vs s => (uP q (mgV (γ1 s) is vs)).bind fun r => k r s) := cv_gets (.inl rfl) hp h hv
theorem cv_bin {p q : List D → Option D} {f : Fg} {ma mb : M Opd} {i j : Option Nat × Fg} {γ1 : σ1 → Ga} {γ2 : σ1 → σ2 → Ga} {U1 : (β : Type) → (List D → σ1 → R β) → R β} {U2 : σ1 → (β : Type) → (List D → σ2 → R β) → R β}
    (hp : ∀ s t, Lk gC p q (mgF (γ2 s t) [i, j]) f) (h1 : CV X c γ ma (OP i) γ1 U1) (h2 : ∀ s, CV X c (γ1 s) mb (OP j) (γ2 s) (U2 s)) (hv : ∀ s t, okV (γ2 s t) [i, j] = true) :
    CV X c γ (mBin gC p ma mb) (RD f) (fun p : σ1 × σ2 × Unit => γ2 p.1 p.2.1) (fun β k => U1 β fun v s => U2 s β fun w t => (uP q (mgV (γ2 s t) [i, j] (v ++ (w ++ [])))).bind fun r => k r (s, t, ())) := by
  rw [mBin_eq]
  exact cv_gets (γ1 := fun p : σ1 × σ2 × Unit => γ2 p.1 p.2.1) (.inl rfl) (fun s => hp s.1 s.2.1) (ol_cons h1 fun s => ol_cons (h2 s) fun t => ol_nil) fun s => hv s.1 s.2.1
theorem cv_unG {get : Opd → M D} (hg : GetOk get) {p q : List D → Option D} {f : Fg} {ma : M Opd} {i : Option Nat × Fg} {γ1 : σ1 → Ga} {U1 : (β : Type) → (List D → σ1 → R β) → R β}
    (hp : ∀ s, Lk get p q (mgF (γ1 s) [i]) f) (h1 : CV X c γ ma (OP i) γ1 U1) (hv : ∀ s, okV (γ1 s) [i] = true) :
    CV X c γ (mUn get p ma) (RD f) (fun p : σ1 × Unit => γ1 p.1) (fun β k => U1 β fun v s => (uP q (mgV (γ1 s) [i] (v ++ []))).bind fun r => k r (s, ())) := by
  rw [mUn_eq]
  exact cv_gets (γ1 := fun p : σ1 × Unit => γ1 p.1) hg (fun s => hp s.1) (ol_cons h1 fun s => ol_nil) fun s => hv s.1
theorem gC_get : GetOk gC := .inl rfl
theorem gR_get : GetOk gR := .inr rfl
end
end U
end Y

end
section
set_option Elab.async false
set_option linter.all false
set_option maxRecDepth 100000
set_option autoImplicit false
/-! U2: operations do not ask what is owned. -/
namespace Y
namespace U
open PySem L2
theorem frz_int {d : D} {i : Int} (h : frz d = .int i) : d = .int i := by cases d <;> first | exact h | exact nomatch h
theorem frz_bl {d : D} {i : Bool} (h : frz d = .bl i) : d = .bl i := by cases d <;> first | exact h | exact nomatch h
theorem frz_str {d : D} {i : Str} (h : frz d = .str i) : d = .str i := by cases d <;> first | exact h | exact nomatch h
theorem frz_non {d : D} (h : frz d = .non) : d = .non := by cases d <;> first | exact h | exact nomatch h
theorem frz_tup {d : D} {i : List D} (h : frz d = .tup i) : d = .tup i := by cases d <;> first | exact h | exact nomatch h
theorem frz_lst {d : D} {o : Bool} {i : List D} (h : frz d = .lst o i) : ∃ o' xs, d = .lst o' xs ∧ frz.frzL xs = i ∧ o = false := by
  cases d with
  | lst o' xs => injection h with h1 h2; exact ⟨o', xs, rfl, h2, h1.symm⟩
  | _ => exact nomatch h
theorem map1 {ds : List D} {x : D} (h : ds.map frz = [x]) : ∃ d, ds = [d] ∧ frz d = x := by
  cases ds with
  | nil => exact nomatch h
  | cons d ds => cases ds with
    | nil => injection h with h; exact ⟨d, rfl, h⟩
    | cons _ _ => injection h with _ h; exact nomatch h
theorem map2 {ds : List D} {x y : D} (h : ds.map frz = [x, y]) : ∃ d e, ds = [d, e] ∧ frz d = x ∧ frz e = y := by
  cases ds with
  | nil => exact nomatch h
  | cons d ds =>
    injection h with h1 h2
    obtain ⟨e, rfl, h3⟩ := map1 h2
    exact ⟨d, e, rfl, h1, h3⟩
theorem map3 {ds : List D} {x y z : D} (h : ds.map frz = [x, y, z]) : ∃ d e f, ds = [d, e, f] ∧ frz d = x ∧ frz e = y ∧ frz f = z := by
  cases ds with
  | nil => exact nomatch h
  | cons d ds =>
    injection h with h1 h2
    obtain ⟨e, f, rfl, h3, h4⟩ := map2 h2
    exact ⟨d, e, f, rfl, h1, h3, h4⟩
theorem frzL_len (xs : List D) : (frz.frzL xs).length = xs.length := by rw [frzL_map, List.length_map]
theorem frzL_app (xs ys : List D) : frz.frzL (xs ++ ys) = frz.frzL xs ++ frz.frzL ys := by rw [frzL_map, frzL_map, frzL_map, List.map_append]
section
variable {c : Int → Int → Bool}
theorem i2_inv {g : Int → Int → D} {ds : List D} {d' : D} (h : pI2 c g (ds.map frz) = some d') : ∃ a b, ds = [.int a, .int b] ∧ c a b = true ∧ d' = g a b := by
  generalize e : ds.map frz = es at h
  unfold pI2 at h
  split at h
  · obtain ⟨x, y, rfl, h1, h2⟩ := map2 e
    split at h
    · exact ⟨_, _, by rw [frz_int h1, frz_int h2], by assumption, (Option.some.inj h).symm⟩
    · cases h
  · cases h
theorem ins_i2 {g : Int → Int → D} (hg : ∀ i j, isOwn (g i j) = false) : Ins (pI2 c g) .cold := fun ds d' h => by
  obtain ⟨a, b, rfl, hc, rfl⟩ := i2_inv h
  exact ⟨g a b, by show (if c a b = true then _ else _) = _; rw [if_pos hc], rfl, hg a b⟩
theorem n_sub : Ins pSub .cold := ins_i2 fun _ _ => rfl
theorem n_div : Ins pDiv .cold := ins_i2 fun _ _ => rfl
theorem n_mod : Ins pMod .cold := ins_i2 fun _ _ => rfl
theorem n_pow : Ins pPow .cold := ins_i2 fun _ _ => rfl
theorem n_lt : Ins pLt .cold := ins_i2 fun _ _ => rfl
theorem n_le : Ins pLe .cold := ins_i2 fun _ _ => rfl
theorem n_gt : Ins pGt .cold := ins_i2 fun _ _ => rfl
theorem n_ge : Ins pGe .cold := ins_i2 fun _ _ => rfl
theorem n_add : Ins pAdd .any := fun ds d' h => by
  generalize e : ds.map frz = es at h
  unfold pAdd at h
  split at h
  · obtain ⟨x, y, rfl, h1, h2⟩ := map2 e
    cases frz_int h1; cases frz_int h2
    exact ⟨_, rfl, by rw [← Option.some.inj h], trivial⟩
  · obtain ⟨x, y, rfl, h1, h2⟩ := map2 e
    cases frz_str h1; cases frz_str h2
    split at h
    · exact ⟨_, by simp only [pAdd]; rw [if_pos (by assumption)], by rw [← Option.some.inj h], trivial⟩
    · cases h
  · obtain ⟨x, y, rfl, h1, h2⟩ := map2 e
    obtain ⟨o1, xs, rfl, rfl, rfl⟩ := frz_lst h1
    obtain ⟨o2, ys, rfl, rfl, rfl⟩ := frz_lst h2
    split at h
    · rename_i hl
      rw [frzL_len, frzL_len] at hl
      refine ⟨.lst true (xs ++ ys), by simp only [pAdd]; rw [if_pos hl], ?_, trivial⟩
      rw [← Option.some.inj h]
      show D.lst false (frz.frzL (xs ++ ys)) = .lst false (frz.frzL (frz.frzL xs ++ frz.frzL ys))
      rw [frzL_app, frzL_app, frzL2, frzL2]
    · cases h
  · obtain ⟨x, y, rfl, h1, h2⟩ := map2 e
    cases frz_tup h1; cases frz_tup h2
    split at h
    · exact ⟨_, by simp only [pAdd]; rw [if_pos (by assumption)], by rw [← Option.some.inj h], trivial⟩
    · cases h
  · cases h
theorem n_mul : Ins pMul .any := fun ds d' h => by
  generalize e : ds.map frz = es at h
  unfold pMul at h
  split at h
  · obtain ⟨x, y, rfl, h1, h2⟩ := map2 e
    cases frz_int h1; cases frz_int h2
    split at h
    · exact ⟨_, by simp only [pMul]; rw [if_pos (by assumption)], by rw [← Option.some.inj h], trivial⟩
    · cases h
  · obtain ⟨x, y, rfl, h1, h2⟩ := map2 e
    obtain ⟨o1, xs, rfl, rfl, h3⟩ := frz_lst h1
    exact nomatch h3
  · cases h
theorem n_neg : Ins pNeg .cold := fun ds d' h => by
  generalize e : ds.map frz = es at h
  unfold pNeg at h
  split at h
  · obtain ⟨x, rfl, h1⟩ := map1 e
    cases frz_int h1
    exact ⟨_, rfl, by rw [← Option.some.inj h], rfl⟩
  · cases h
theorem n_abs : Ins pAbs .cold := fun ds d' h => by
  generalize e : ds.map frz = es at h
  unfold pAbs at h
  split at h
  · obtain ⟨x, rfl, h1⟩ := map1 e
    cases frz_int h1
    exact ⟨_, rfl, by rw [← Option.some.inj h], rfl⟩
  · cases h
theorem n_addI : Ins pAddI .cold := fun ds d' h => by
  generalize e : ds.map frz = es at h
  unfold pAddI at h
  split at h
  · obtain ⟨x, y, rfl, h1, h2⟩ := map2 e
    cases frz_int h1; cases frz_int h2
    exact ⟨_, rfl, by rw [← Option.some.inj h], rfl⟩
  · cases h
theorem n_subI : Ins pSubI .cold := fun ds d' h => by
  generalize e : ds.map frz = es at h
  unfold pSubI at h
  split at h
  · obtain ⟨x, y, rfl, h1, h2⟩ := map2 e
    cases frz_int h1; cases frz_int h2
    exact ⟨_, rfl, by rw [← Option.some.inj h], rfl⟩
  · cases h
theorem n_int : Ins pInt .cold := fun ds d' h => by
  generalize e : ds.map frz = es at h
  unfold pInt at h
  split at h
  · obtain ⟨x, rfl, h1⟩ := map1 e
    cases frz_int h1
    exact ⟨_, rfl, by rw [← Option.some.inj h], rfl⟩
  · obtain ⟨x, rfl, h1⟩ := map1 e
    cases frz_bl h1
    exact ⟨_, rfl, by rw [← Option.some.inj h], rfl⟩
  · cases h
theorem n_len : Ins pLen .cold := fun ds d' h => by
  generalize e : ds.map frz = es at h
  unfold pLen at h
  split at h
  · obtain ⟨x, rfl, h1⟩ := map1 e
    obtain ⟨o, xs, rfl, rfl, _⟩ := frz_lst h1
    exact ⟨.int xs.length, rfl, by rw [← Option.some.inj h, frzL_len], rfl⟩
  · obtain ⟨x, rfl, h1⟩ := map1 e
    cases frz_tup h1
    exact ⟨_, rfl, by rw [← Option.some.inj h], rfl⟩
  · obtain ⟨x, rfl, h1⟩ := map1 e
    cases frz_str h1
    split at h
    · exact ⟨.int _, by simp only [pLen]; rw [if_pos (by assumption)], by rw [← Option.some.inj h], rfl⟩
    · cases h
  · cases h
theorem n_list : Ins pList .own := fun ds d' h => by
  generalize e : ds.map frz = es at h
  unfold pList at h
  split at h
  · obtain ⟨x, rfl, h1⟩ := map1 e
    obtain ⟨o, xs, rfl, rfl, _⟩ := frz_lst h1
    exact ⟨.lst true xs, rfl, by rw [← Option.some.inj h]; show D.lst false _ = .lst false _; rw [frzL2], rfl⟩
  · obtain ⟨x, rfl, h1⟩ := map1 e
    cases frz_tup h1
    exact ⟨.lst true _, rfl, by rw [← Option.some.inj h], rfl⟩
  · cases h
/-- a tuple of a list (chilled: its parts are cold) -/
theorem cold_tup : True := trivial
end
theorem toP_frz : ∀ d : D, toP (frz d) = toP d
  | .non => rfl
  | .bl _ => rfl
  | .int _ => rfl
  | .str _ => rfl
  | .tup _ => rfl
  | .lst o xs => by show PyData.list (toP.toPs (frz.frzL xs)) = .list (toP.toPs xs); rw [toPs_frz xs]
  | .dct _ _ => rfl
  | .set _ _ => rfl
  | .exn _ _ => rfl
where toPs_frz : ∀ ds : List D, toP.toPs (frz.frzL ds) = toP.toPs ds
  | [] => rfl
  | d :: ds => by show toP (frz d) :: toP.toPs (frz.frzL ds) = toP d :: toP.toPs ds; rw [toP_frz d, toPs_frz ds]
theorem okP_frz (d : D) : okP (frz d) = okP d := by unfold okP; rw [toP_frz]
theorem n_eq : Ins pEq .cold := fun ds d' h => by
  generalize e : ds.map frz = es at h
  unfold pEq at h
  split at h
  · obtain ⟨x, y, rfl, rfl, rfl⟩ := map2 e
    rw [okP_frz, okP_frz, toP_frz, toP_frz] at h
    split at h
    · exact ⟨.bl _, by simp only [pEq]; rw [if_pos (by assumption)], by rw [← Option.some.inj h], rfl⟩
    · cases h
  · cases h
theorem n_ne : Ins pNe .cold := fun ds d' h => by
  generalize e : ds.map frz = es at h
  unfold pNe at h
  split at h
  · obtain ⟨x, y, rfl, rfl, rfl⟩ := map2 e
    rw [okP_frz, okP_frz, toP_frz, toP_frz] at h
    split at h
    · exact ⟨.bl _, by simp only [pNe]; rw [if_pos (by assumption)], by rw [← Option.some.inj h], rfl⟩
    · cases h
  · cases h
theorem n_inG (neg : Bool) : Ins (pInG neg) .cold := fun ds d' h => by
  generalize e : ds.map frz = es at h
  unfold pInG at h
  split at h
  · obtain ⟨x, y, rfl, rfl, h2⟩ := map2 e
    cases frz_tup h2
    unfold hasP at h
    rw [okP_frz, toP_frz] at h
    split at h
    · exact ⟨.bl _, by simp only [pInG]; rw [if_pos (by assumption)], by rw [← Option.some.inj h]; rfl, rfl⟩
    · cases h
  · obtain ⟨x, y, rfl, rfl, h2⟩ := map2 e
    obtain ⟨o, xs, rfl, rfl, rfl⟩ := frz_lst h2
    have e2 : okP (.lst false (frz.frzL xs)) = okP (.lst o xs) := okP_frz (.lst o xs)
    unfold hasP at h
    rw [okP_frz, e2, toP_frz, toP_frz.toPs_frz] at h
    split at h
    · exact ⟨.bl _, by simp only [pInG]; rw [if_pos (by assumption)], by rw [← Option.some.inj h]; rfl, rfl⟩
    · cases h
  · cases h
theorem n_in : Ins pIn .cold := n_inG false
theorem n_notIn : Ins pNotIn .cold := n_inG true
theorem isNon_frz (d : D) : isNon (frz d) = isNon d := by cases d <;> rfl
theorem n_is : Ins pIs .cold := fun ds d' h => by
  generalize e : ds.map frz = es at h
  unfold pIs at h
  split at h
  · obtain ⟨x, y, rfl, rfl, h2⟩ := map2 e
    cases frz_non h2
    rw [isNon_frz] at h
    exact ⟨_, rfl, by rw [← Option.some.inj h], rfl⟩
  · cases h
theorem n_isNot : Ins pIsNot .cold := fun ds d' h => by
  generalize e : ds.map frz = es at h
  unfold pIsNot at h
  split at h
  · obtain ⟨x, y, rfl, rfl, h2⟩ := map2 e
    cases frz_non h2
    rw [isNon_frz] at h
    exact ⟨_, rfl, by rw [← Option.some.inj h], rfl⟩
  · cases h
theorem atI_frz {xs : List D} {i : Int} {d : D} (h : atI (frz.frzL xs) i = some d) : frz d = d := by
  unfold atI at h
  cases q : ixN (frz.frzL xs).length i with
  | none => rw [q] at h; cases h
  | some j =>
    rw [q] at h
    have h : (frz.frzL xs)[j]? = some d := h
    rw [frzL_map, List.getElem?_map] at h
    cases z : xs[j]? with
    | none => rw [z] at h; cases h
    | some d0 => rw [z] at h; cases h; exact frz2 d0
theorem cold_of {d : D} (h : frz d = d) : isOwn d = false := by rw [← h]; exact own_frz d
theorem n_ix : Ins pIx .cold := fun ds d' h => by
  generalize e : ds.map frz = es at h
  unfold pIx at h
  split at h
  · obtain ⟨x, y, rfl, h1, h2⟩ := map2 e
    obtain ⟨o, xs, rfl, rfl, rfl⟩ := frz_lst h1
    cases frz_int h2
    rw [frzL2] at h
    exact ⟨d', h, rfl, cold_of (atI_frz h)⟩
  · obtain ⟨x, y, rfl, h1, h2⟩ := map2 e
    cases frz_tup h1
    cases frz_int h2
    exact ⟨d', h, rfl, cold_of (atI_frz h)⟩
  · obtain ⟨x, y, rfl, h1, h2⟩ := map2 e
    cases frz_str h1
    cases frz_int h2
    split at h
    · rename_i hl
      refine ⟨d', by simp only [pIx]; rw [if_pos hl]; exact h, rfl, ?_⟩
      rw [Option.map_eq_some_iff] at h
      obtain ⟨a, _, rfl⟩ := h; rfl
    · cases h
  · cases h
theorem cutD_frz (xs : List D) (lo hi : Option Int) : cutD (frz.frzL xs) lo hi = frz.frzL (cutD xs lo hi) := by
  unfold cutD
  rw [frzL_len, frzL_map, frzL_map, List.map_take, List.map_drop]
theorem n_sl (lo hi : Option Int) : Ins (pSl lo hi) .any := fun ds d' h => by
  generalize e : ds.map frz = es at h
  unfold pSl at h
  split at h
  · obtain ⟨x, rfl, h1⟩ := map1 e
    obtain ⟨o, xs, rfl, rfl, rfl⟩ := frz_lst h1
    refine ⟨.lst true (cutD xs lo hi), rfl, ?_, trivial⟩
    rw [← Option.some.inj h, cutD_frz]
    show D.lst false _ = .lst false _
    rw [frzL2]
  · obtain ⟨x, rfl, h1⟩ := map1 e
    cases frz_tup h1
    exact ⟨_, rfl, by rw [← Option.some.inj h], trivial⟩
  · obtain ⟨x, rfl, h1⟩ := map1 e
    cases frz_str h1
    split at h
    · exact ⟨_, by simp only [pSl]; rw [if_pos (by assumption)], by rw [← Option.some.inj h], trivial⟩
    · cases h
  · cases h
theorem blsOf_frz : ∀ xs : List D, blsOf (frz.frzL xs) = blsOf xs
  | [] => rfl
  | .bl b :: xs => by show (blsOf (frz.frzL xs)).map _ = (blsOf xs).map _; rw [blsOf_frz xs]
  | .non :: xs => rfl
  | .int _ :: xs => rfl
  | .str _ :: xs => rfl
  | .tup _ :: xs => rfl
  | .lst _ _ :: xs => rfl
  | .dct _ _ :: xs => rfl
  | .set _ _ :: xs => rfl
  | .exn _ _ :: xs => rfl
theorem intsOf_frz : ∀ xs : List D, intsOf (frz.frzL xs) = intsOf xs
  | [] => rfl
  | .int b :: xs => by show (intsOf (frz.frzL xs)).map _ = (intsOf xs).map _; rw [intsOf_frz xs]
  | .non :: xs => rfl
  | .bl _ :: xs => rfl
  | .str _ :: xs => rfl
  | .tup _ :: xs => rfl
  | .lst _ _ :: xs => rfl
  | .dct _ _ :: xs => rfl
  | .set _ _ :: xs => rfl
  | .exn _ _ :: xs => rfl
theorem n_all : Ins pAll .cold := fun ds d' h => by
  generalize e : ds.map frz = es at h
  unfold pAll at h
  split at h
  · obtain ⟨x, rfl, h1⟩ := map1 e
    obtain ⟨o, xs, rfl, rfl, rfl⟩ := frz_lst h1
    rw [blsOf_frz] at h
    refine ⟨d', h, rfl, ?_⟩
    rw [Option.map_eq_some_iff] at h
    obtain ⟨a, _, rfl⟩ := h; rfl
  · cases h
theorem n_any : Ins pAny .cold := fun ds d' h => by
  generalize e : ds.map frz = es at h
  unfold pAny at h
  split at h
  · obtain ⟨x, rfl, h1⟩ := map1 e
    obtain ⟨o, xs, rfl, rfl, rfl⟩ := frz_lst h1
    rw [blsOf_frz] at h
    refine ⟨d', h, rfl, ?_⟩
    rw [Option.map_eq_some_iff] at h
    obtain ⟨a, _, rfl⟩ := h; rfl
  · cases h
theorem n_sum : Ins pSum .cold := fun ds d' h => by
  generalize e : ds.map frz = es at h
  unfold pSum at h
  split at h
  · obtain ⟨x, rfl, h1⟩ := map1 e
    obtain ⟨o, xs, rfl, rfl, rfl⟩ := frz_lst h1
    rw [intsOf_frz] at h
    refine ⟨d', h, rfl, ?_⟩
    rw [Option.map_eq_some_iff] at h
    obtain ⟨a, _, rfl⟩ := h; rfl
  · cases h
theorem n_sorted : Ins pSorted .own := fun ds d' h => by
  generalize e : ds.map frz = es at h
  unfold pSorted at h
  split at h
  · obtain ⟨x, rfl, h1⟩ := map1 e
    obtain ⟨o, xs, rfl, rfl, rfl⟩ := frz_lst h1
    rw [intsOf_frz] at h
    refine ⟨d', h, rfl, ?_⟩
    split at h
    · split at h
      · cases h; rfl
      · cases h
    · cases h
  · cases h
theorem tyD_frz (d : D) : tyD (frz d) = tyD d := by cases d <;> rfl
theorem n_isi (Ts : List String) : Ins (isiP Ts) .cold := fun ds d' h => by
  generalize e : ds.map frz = es at h
  unfold isiP at h
  split at h
  · obtain ⟨x, rfl, rfl⟩ := map1 e
    rw [tyD_frz] at h
    refine ⟨d', h, rfl, ?_⟩
    rw [Option.map_eq_some_iff] at h
    obtain ⟨a, _, rfl⟩ := h; rfl
  · cases h
theorem items_frz (d : D) : items (frz d) = items d := by
  cases d with
  | lst o xs => show some (frz.frzL (frz.frzL xs)) = some (frz.frzL xs); rw [frzL2]
  | _ => rfl
theorem items_cold {d : D} {xs : List D} (h : items d = some xs) : ∀ x ∈ xs, frz x = x := by
  cases d with
  | lst o ys => cases h; intro x hx; rw [frzL_map] at hx; obtain ⟨y, _, rfl⟩ := List.mem_map.mp hx; exact frz2 y
  | tup ys => cases h; intro x hx; rw [frzL_map] at hx; obtain ⟨y, _, rfl⟩ := List.mem_map.mp hx; exact frz2 y
  | str s => cases h; intro x hx; obtain ⟨y, _, rfl⟩ := List.mem_map.mp hx; rfl
  | _ => cases h
theorem n_lz : Ins pLZ .own := fun ds d' h => by
  generalize e : ds.map frz = es at h
  unfold pLZ at h
  split at h
  · obtain ⟨x, y, rfl, rfl, rfl⟩ := map2 e
    rw [items_frz, items_frz] at h
    refine ⟨d', h, rfl, ?_⟩
    split at h
    · split at h
      · cases h; rfl
      · cases h
    · cases h
  · cases h
theorem n_tuple {fs : List Fg} : Lk gC pTuple pTuple fs .cold := fun ds d' hc _ h => by
  generalize e : ds.map frz = es at h
  unfold pTuple at h
  split at h
  · obtain ⟨x, rfl, h1⟩ := map1 e
    obtain ⟨o, xs, rfl, rfl, rfl⟩ := frz_lst h1
    have hx := hc rfl _ List.mem_cons_self
    have hx : D.lst o (frz.frzL xs) = .lst o xs := hx
    injection hx with _ hx
    rw [hx] at h
    exact ⟨_, rfl, by rw [← Option.some.inj h], rfl⟩
  · obtain ⟨x, rfl, h1⟩ := map1 e
    cases frz_tup h1
    exact ⟨_, rfl, by rw [← Option.some.inj h], rfl⟩
  · cases h
/-- a fresh list, repeated -/
def pRep : List D → Option D
  | [.lst _ xs, .int k] => if -(2 ^ 63) ≤ k ∧ k < 2 ^ 63 ∧ xs.length * k.toNat ≤ LN then some (.lst false (repD k.toNat xs)) else none
  | _ => none
theorem repD_frz (k : Nat) (xs : List D) : frz.frzL (repD k xs) = repD k (frz.frzL xs) := by
  unfold repD
  induction k with
  | zero => rfl
  | succ k ih => simp only [List.replicate_succ, List.flatten_cons, frzL_app, ih]
theorem n_rep {f2 : Fg} {get : Opd → M D} : Lk get pMul pRep [.own, f2] .own := fun ds d' _ hf h => by
  generalize e : ds.map frz = es at h
  unfold pRep at h
  split at h
  · obtain ⟨x, y, rfl, h1, h2⟩ := map2 e
    obtain ⟨o, xs, rfl, rfl, _⟩ := frz_lst h1
    cases frz_int h2
    cases hf with
    | cons ho _ =>
      have ho : o = true := ho
      subst ho
      rw [frzL_len] at h
      split at h
      · rename_i hl
        refine ⟨.lst true (repD _ xs), by simp only [pMul]; rw [if_pos hl], ?_, rfl⟩
        rw [← Option.some.inj h]
        show D.lst false _ = .lst false _
        rw [repD_frz, repD_frz, frzL2]
      · cases h
  · cases h
theorem n_index : Ins pIndex .cold := fun ds d' h => by
  generalize e : ds.map frz = es at h
  unfold pIndex at h
  split at h
  · obtain ⟨x, y, rfl, h1, rfl⟩ := map2 e
    obtain ⟨o, xs, rfl, rfl, rfl⟩ := frz_lst h1
    have e2 : okP (.lst false (frz.frzL xs)) = okP (.lst o xs) := okP_frz (.lst o xs)
    rw [okP_frz, e2, toP_frz, toP_frz.toPs_frz] at h
    refine ⟨d', h, rfl, ?_⟩
    split at h
    · rw [Option.map_eq_some_iff] at h
      obtain ⟨a, _, rfl⟩ := h; rfl
    · cases h
  · cases h
end U
end Y

end
section
set_option Elab.async false
set_option linter.all false
set_option maxRecDepth 100000
set_option autoImplicit false
/-! U3: displays, tests, slices, what is walked, targets, comprehensions. -/
namespace Y
namespace U
open PySem L2
section
variable {α' α1 ξ ξ1 σ σ1 σ2 σ3 τ : Type} {X : Y.Env → Prop} {c : Ctx} {γ : Ga}
/-! ### displays -/
def RLf (fs : List Fg) (ds xs : List D) : Prop := frz.frzL ds = xs ∧ All2 FgOk fs ds
def RLa (ds xs : List D) : Prop := frz.frzL ds = xs
theorem vl_nil : CV X c γ (pur []) (RLf []) (fun _ : Unit => γ) (fun _ k => k [] ()) := cv_pur ⟨rfl, .nil⟩
theorem vl_cons {m : M D} {ms : M (List D)} {f : Fg} {fs : List Fg} {γ1 : σ1 → Ga} {γ2 : σ1 → σ2 → Ga} {U1 : (β : Type) → (D → σ1 → R β) → R β} {U2 : σ1 → (β : Type) → (List D → σ2 → R β) → R β}
    (h1 : CV X c γ m (RD f) γ1 U1) (h2 : ∀ s, CV X c (γ1 s) ms (RLf fs) (γ2 s) (U2 s)) :
    CV X c γ (bnd m fun o => bnd ms fun os => pur (o :: os)) (RLf (f :: fs)) (fun p : σ1 × σ2 => γ2 p.1 p.2) (fun β k => U1 β fun v s => U2 s β fun vs t => k (v :: vs) (s, t)) := fun _ _ P g k w ρ hs => by
  rw [bnd_assoc]
  refine h1 _ _ P _ _ (fun o ρ v s r hs => ?_) ρ hs
  rw [bnd_assoc]
  exact h2 s _ _ P _ _ (fun os ρ vs t r2 hs => w (o :: os) ρ (v :: vs) (s, t) ⟨by show frz o :: frz.frzL os = _; rw [r.1, r2.1], .cons r.2 r2.2⟩ hs) ρ hs
theorem vl_nilA : CV X c γ (pur []) RLa (fun _ : Unit => γ) (fun _ k => k [] ()) := cv_pur (Rl := RLa) rfl
theorem vl_consA {m : M D} {ms : M (List D)} {f : Fg} {γ1 : σ1 → Ga} {γ2 : σ1 → σ2 → Ga} {U1 : (β : Type) → (D → σ1 → R β) → R β} {U2 : σ1 → (β : Type) → (List D → σ2 → R β) → R β}
    (h1 : CV X c γ m (RD f) γ1 U1) (h2 : ∀ s, CV X c (γ1 s) ms RLa (γ2 s) (U2 s)) :
    CV X c γ (bnd m fun o => bnd ms fun os => pur (o :: os)) RLa (fun p : σ1 × σ2 => γ2 p.1 p.2) (fun β k => U1 β fun v s => U2 s β fun vs t => k (v :: vs) (s, t)) := fun _ _ P g k w ρ hs => by
  rw [bnd_assoc]
  refine h1 _ _ P _ _ (fun o ρ v s r hs => ?_) ρ hs
  rw [bnd_assoc]
  exact h2 s _ _ P _ _ (fun os ρ vs t r2 hs => w (o :: os) ρ (v :: vs) (s, t) (by show frz o :: frz.frzL os = _; rw [r.1, r2]) hs) ρ hs
def uParts : D → R (List D)
  | .tup ds => .ok (frz.frzL ds)
  | .lst _ ds => .ok (frz.frzL ds)
  | _ => .bad
theorem vl_star {m : M D} {ms : M (List D)} {f : Fg} {γ1 : σ1 → Ga} {γ2 : σ1 → σ2 → Ga} {U1 : (β : Type) → (D → σ1 → R β) → R β} {U2 : σ1 → (β : Type) → (List D → σ2 → R β) → R β}
    (h1 : CV X c γ m (RD f) γ1 U1) (h2 : ∀ s, CV X c (γ1 s) ms RLa (γ2 s) (U2 s)) :
    CV X c γ (mStar m ms) RLa (fun p : σ1 × σ2 => γ2 p.1 p.2) (fun β k => U1 β fun v s => (uParts v).bind fun ps => U2 s β fun vs t => k (ps ++ vs) (s, t)) := fun _ _ P g k w ρ hs => by
  unfold mStar
  rw [bnd_assoc]
  refine h1 _ _ P _ _ (fun o ρ v s r hs => ?_) ρ hs
  have key : ∀ ds, partsD o = some ds → uParts v = .ok (frz.frzL ds) → Sim X P (bnd (match partsD o with | some ds => bnd ms fun os => pur (ds ++ os) | none => bad) g c ρ) ((uParts v).bind fun ps => U2 s _ fun vs t => k (ps ++ vs) (s, t)) := fun ds e1 e2 => by
    rw [e1, e2]
    show Sim X P (bnd (bnd ms fun os => pur (ds ++ os)) g c ρ) (U2 s _ fun vs t => k (frz.frzL ds ++ vs) (s, t))
    rw [bnd_assoc]
    exact h2 s _ _ P _ _ (fun os ρ vs t r2 hs => w (ds ++ os) ρ _ (s, t) (by show frz.frzL (ds ++ os) = _; rw [frzL_app, r2]) hs) ρ hs
  have hv := r.1
  cases o with
  | tup ds => subst hv; exact key ds rfl rfl
  | lst ow ds => subst hv; exact key ds rfl (by show R.ok (frz.frzL (frz.frzL ds)) = _; rw [frzL2])
  | _ => subst hv; trivial
def uTup (xs : List D) : R D := if xs.length ≤ LN then .ok (.tup xs) else .bad
def uLst (xs : List D) : R D := if xs.length ≤ LN then .ok (.lst false xs) else .bad
theorem tup_n {ms : M (List D)} {fs : List Fg} {γ1 : σ1 → Ga} {U1 : (β : Type) → (List D → σ1 → R β) → R β} (h : CV X c γ ms (RLf fs) γ1 U1) (hn : Nat.ble fs.length LN = true := by rfl) : CV X c γ (tupD ms) (RD .cold) γ1 (fun β k => U1 β fun xs s => k (.tup xs) s) := fun _ _ P g k w ρ hs => by
  unfold tupD
  rw [bnd_assoc]
  refine h _ _ P _ _ (fun ds ρ xs s r hs => ?_) ρ hs
  have hl : ds.length ≤ LN := by rw [← r.2.length]; exact Nat.le_of_ble_eq_true hn
  simp only [bnd, if_pos hl]
  exact w _ ρ _ s ⟨by rw [r.1]; rfl, rfl⟩ hs
theorem lst_n {ms : M (List D)} {fs : List Fg} {γ1 : σ1 → Ga} {U1 : (β : Type) → (List D → σ1 → R β) → R β} (h : CV X c γ ms (RLf fs) γ1 U1) (hn : Nat.ble fs.length LN = true := by rfl) : CV X c γ (lstD ms) (RD .own) γ1 (fun β k => U1 β fun xs s => k (.lst false xs) s) := fun _ _ P g k w ρ hs => by
  unfold lstD
  rw [bnd_assoc]
  refine h _ _ P _ _ (fun ds ρ xs s r hs => ?_) ρ hs
  have hl : ds.length ≤ LN := by rw [← r.2.length]; exact Nat.le_of_ble_eq_true hn
  simp only [bnd, if_pos hl]
  exact w _ ρ _ s ⟨by show D.lst false (frz.frzL ds) = _; rw [r.1], rfl⟩ hs
theorem tup_a {ms : M (List D)} {γ1 : σ1 → Ga} {U1 : (β : Type) → (List D → σ1 → R β) → R β} (h : CV X c γ ms RLa γ1 U1) : CV X c γ (tupD ms) (RD .cold) γ1 (fun β k => U1 β fun xs s => (uTup xs).bind fun r => k r s) := fun _ _ P g k w ρ hs => by
  unfold tupD
  rw [bnd_assoc]
  refine h _ _ P _ _ (fun ds ρ xs s r hs => ?_) ρ hs
  unfold uTup
  have e : xs.length = ds.length := by rw [← r, frzL_len]
  by_cases hl : ds.length ≤ LN
  · rw [if_pos (by rw [e]; exact hl)]
    simp only [bnd, if_pos hl]
    exact w _ ρ _ s ⟨by rw [← r]; rfl, rfl⟩ hs
  · rw [if_neg (by rw [e]; exact hl)]; trivial
theorem lst_a {ms : M (List D)} {γ1 : σ1 → Ga} {U1 : (β : Type) → (List D → σ1 → R β) → R β} (h : CV X c γ ms RLa γ1 U1) : CV X c γ (lstD ms) (RD .own) γ1 (fun β k => U1 β fun xs s => (uLst xs).bind fun r => k r s) := fun _ _ P g k w ρ hs => by
  unfold lstD
  rw [bnd_assoc]
  refine h _ _ P _ _ (fun ds ρ xs s r hs => ?_) ρ hs
  unfold uLst
  have e : xs.length = ds.length := by rw [← r, frzL_len]
  by_cases hl : ds.length ≤ LN
  · rw [if_pos (by rw [e]; exact hl)]
    simp only [bnd, if_pos hl]
    exact w _ ρ _ s ⟨by show D.lst false (frz.frzL ds) = _; rw [r], rfl⟩ hs
  · rw [if_neg (by rw [e]; exact hl)]; trivial

/-! ### tests -/
def uB : D → R Bool
  | .bl b => .ok b
  | _ => .bad
@[simp] theorem uB_bl (b : Bool) : uB (.bl b) = .ok b := rfl
theorem cv_mB {m : M D} {f : Fg} {γ1 : σ1 → Ga} {U1 : (β : Type) → (D → σ1 → R β) → R β} (h : CV X c γ m (RD f) γ1 U1) : CV X c γ (mB m) Eq γ1 (fun β k => U1 β fun x s => (uB x).bind fun b => k b s) :=
  cv_opt (f := fun d => ofO (asB d)) h (fun x _ => uB x) (fun d x s ρ y r hs e => by
    cases x with
    | bl b =>
      cases e
      rw [frz_bl r.1]
      exact ⟨_, ρ, rfl, rfl, hs⟩
    | _ => cases e) (fun x _ e h => by cases x <;> cases h)
theorem cv_not {m : M Bool} {γ1 : σ1 → Ga} {U1 : (β : Type) → (Bool → σ1 → R β) → R β} (h : CV X c γ m Eq γ1 U1) : CV X c γ (mNot m) Eq γ1 (fun β k => U1 β fun b s => k (!b) s) := fun _ _ P g k w ρ hs => by
  unfold mNot
  rw [bnd_assoc]
  exact h _ _ P _ _ (fun b ρ x s r hs => by subst r; exact w _ ρ _ s rfl hs) ρ hs
/-- and; the second part changes nothing -/
theorem cv_and {m n : M Bool} {γ1 : σ1 → Ga} {γ2 : σ1 → σ2 → Ga} {U1 : (β : Type) → (Bool → σ1 → R β) → R β} {U2 : σ1 → (β : Type) → (Bool → σ2 → R β) → R β}
    (h1 : CV X c γ m Eq γ1 U1) (h2 : ∀ s, CV X c (γ1 s) n Eq (γ2 s) (U2 s)) (hl : ∀ s t, Le (γ2 s t) (γ1 s)) :
    CV X c γ (mAnd m n) Eq γ1 (fun β k => U1 β fun b s => (if b then U2 s Bool fun b' _ => .ok b' else .ok false).bind fun b => k b s) := fun _ _ P g k w ρ hs => by
  unfold mAnd
  rw [bnd_assoc]
  refine h1 _ _ P _ _ (fun b ρ x s r hs => ?_) ρ hs
  subst r
  cases b with
  | true =>
    refine Sim.bnd (P := fun a ρ b => a = b ∧ St (γ1 s) ρ) ?_ (fun a ρ b r => w a ρ b s r.1 r.2)
    exact (h2 s).sim hs _ _ fun a ρ x t r hs => ⟨a, ρ, rfl, r, hl s t ρ hs⟩
  | false => exact w _ ρ _ s rfl hs
theorem cv_or {m n : M Bool} {γ1 : σ1 → Ga} {γ2 : σ1 → σ2 → Ga} {U1 : (β : Type) → (Bool → σ1 → R β) → R β} {U2 : σ1 → (β : Type) → (Bool → σ2 → R β) → R β}
    (h1 : CV X c γ m Eq γ1 U1) (h2 : ∀ s, CV X c (γ1 s) n Eq (γ2 s) (U2 s)) (hl : ∀ s t, Le (γ2 s t) (γ1 s)) :
    CV X c γ (mOr m n) Eq γ1 (fun β k => U1 β fun b s => (if b then .ok true else U2 s Bool fun b' _ => .ok b').bind fun b => k b s) := fun _ _ P g k w ρ hs => by
  unfold mOr
  rw [bnd_assoc]
  refine h1 _ _ P _ _ (fun b ρ x s r hs => ?_) ρ hs
  subst r
  cases b with
  | false =>
    refine Sim.bnd (P := fun a ρ b => a = b ∧ St (γ1 s) ρ) ?_ (fun a ρ b r => w a ρ b s r.1 r.2)
    exact (h2 s).sim hs _ _ fun a ρ x t r hs => ⟨a, ρ, rfl, r, hl s t ρ hs⟩
  | true => exact w _ ρ _ s rfl hs
/-- and, or; with what the second part changes -/
theorem cv_andS {m n : M Bool} {γ1 : σ1 → Ga} {γ2 : σ1 → σ2 → Ga} {U1 : (β : Type) → (Bool → σ1 → R β) → R β} {U2 : σ1 → (β : Type) → (Bool → σ2 → R β) → R β} (γ' : σ1 → τ → Ga) (J0 : σ1 → τ) (J : σ1 → σ2 → τ)
    (h1 : CV X c γ m Eq γ1 U1) (h2 : ∀ s, CV X c (γ1 s) n Eq (γ2 s) (U2 s)) (hl0 : ∀ s, Le (γ1 s) (γ' s (J0 s))) (hl : ∀ s t, Le (γ2 s t) (γ' s (J s t))) :
    CV X c γ (mAnd m n) Eq (fun p : σ1 × τ => γ' p.1 p.2) (fun β k => U1 β fun b s => (if b then U2 s (Bool × τ) fun b' t => .ok (b', J s t) else .ok (false, J0 s)).bind fun p => k p.1 (s, p.2)) := fun _ _ P g k w ρ hs => by
  unfold mAnd
  rw [bnd_assoc]
  refine h1 _ _ P _ _ (fun b ρ x s r hs => ?_) ρ hs
  subst r
  cases b with
  | true =>
    refine Sim.bnd (P := fun a ρ (b : Bool × τ) => a = b.1 ∧ St (γ' s b.2) ρ) ?_ (fun a ρ b r => w a ρ b.1 (s, b.2) r.1 r.2)
    exact (h2 s).sim hs _ _ fun a ρ x t r hs => ⟨a, ρ, rfl, r, hl s t ρ hs⟩
  | false => exact w _ ρ _ (s, J0 s) rfl (hl0 s ρ hs)
theorem cv_orS {m n : M Bool} {γ1 : σ1 → Ga} {γ2 : σ1 → σ2 → Ga} {U1 : (β : Type) → (Bool → σ1 → R β) → R β} {U2 : σ1 → (β : Type) → (Bool → σ2 → R β) → R β} (γ' : σ1 → τ → Ga) (J0 : σ1 → τ) (J : σ1 → σ2 → τ)
    (h1 : CV X c γ m Eq γ1 U1) (h2 : ∀ s, CV X c (γ1 s) n Eq (γ2 s) (U2 s)) (hl0 : ∀ s, Le (γ1 s) (γ' s (J0 s))) (hl : ∀ s t, Le (γ2 s t) (γ' s (J s t))) :
    CV X c γ (mOr m n) Eq (fun p : σ1 × τ => γ' p.1 p.2) (fun β k => U1 β fun b s => (if b then .ok (true, J0 s) else U2 s (Bool × τ) fun b' t => .ok (b', J s t)).bind fun p => k p.1 (s, p.2)) := fun _ _ P g k w ρ hs => by
  unfold mOr
  rw [bnd_assoc]
  refine h1 _ _ P _ _ (fun b ρ x s r hs => ?_) ρ hs
  subst r
  cases b with
  | false =>
    refine Sim.bnd (P := fun a ρ (b : Bool × τ) => a = b.1 ∧ St (γ' s b.2) ρ) ?_ (fun a ρ b r => w a ρ b.1 (s, b.2) r.1 r.2)
    exact (h2 s).sim hs _ _ fun a ρ x t r hs => ⟨a, ρ, rfl, r, hl s t ρ hs⟩
  | true => exact w _ ρ _ (s, J0 s) rfl (hl0 s ρ hs)
/-- a if t else b -/
theorem cv_if {t : M Bool} {m n : M D} {f1 f2 f : Fg} {γ1 : σ1 → Ga} {γ2 : σ1 → σ2 → Ga} {γ3 : σ1 → σ3 → Ga} {U1 : (β : Type) → (Bool → σ1 → R β) → R β} {U2 : σ1 → (β : Type) → (D → σ2 → R β) → R β} {U3 : σ1 → (β : Type) → (D → σ3 → R β) → R β}
    (h1 : CV X c γ t Eq γ1 U1) (h2 : ∀ s, CV X c (γ1 s) m (RD f1) (γ2 s) (U2 s)) (h3 : ∀ s, CV X c (γ1 s) n (RD f2) (γ3 s) (U3 s)) (e1 : FLe f1 f) (e2 : FLe f2 f) (hl2 : ∀ s t, Le (γ2 s t) (γ1 s)) (hl3 : ∀ s t, Le (γ3 s t) (γ1 s)) :
    CV X c γ (mIf t m n) (RD f) γ1 (fun β k => U1 β fun b s => (if b then U2 s D fun x _ => .ok x else U3 s D fun x _ => .ok x).bind fun x => k x s) := fun _ _ P g k w ρ hs => by
  unfold mIf
  rw [bnd_assoc]
  refine h1 _ _ P _ _ (fun b ρ x s r hs => ?_) ρ hs
  subst r
  refine Sim.bnd (P := fun a ρ b => RD f a b ∧ St (γ1 s) ρ) ?_ (fun a ρ b r => w a ρ b s r.1 r.2)
  cases b with
  | true => exact (h2 s).sim hs _ _ fun a ρ x t r hs => ⟨a, ρ, rfl, ⟨r.1, e1 _ r.2⟩, hl2 s t ρ hs⟩
  | false => exact (h3 s).sim hs _ _ fun a ρ x t r hs => ⟨a, ρ, rfl, ⟨r.1, e2 _ r.2⟩, hl3 s t ρ hs⟩
theorem cv_ifS {t : M Bool} {m n : M D} {f1 f2 f : Fg} {γ1 : σ1 → Ga} {γ2 : σ1 → σ2 → Ga} {γ3 : σ1 → σ3 → Ga} {U1 : (β : Type) → (Bool → σ1 → R β) → R β} {U2 : σ1 → (β : Type) → (D → σ2 → R β) → R β} {U3 : σ1 → (β : Type) → (D → σ3 → R β) → R β} (γ' : σ1 → τ → Ga) (J2 : σ1 → σ2 → τ) (J3 : σ1 → σ3 → τ)
    (h1 : CV X c γ t Eq γ1 U1) (h2 : ∀ s, CV X c (γ1 s) m (RD f1) (γ2 s) (U2 s)) (h3 : ∀ s, CV X c (γ1 s) n (RD f2) (γ3 s) (U3 s)) (e1 : FLe f1 f) (e2 : FLe f2 f) (hl2 : ∀ s t, Le (γ2 s t) (γ' s (J2 s t))) (hl3 : ∀ s t, Le (γ3 s t) (γ' s (J3 s t))) :
    CV X c γ (mIf t m n) (RD f) (fun p : σ1 × τ => γ' p.1 p.2) (fun β k => U1 β fun b s => (if b then U2 s (D × τ) fun x t => .ok (x, J2 s t) else U3 s (D × τ) fun x t => .ok (x, J3 s t)).bind fun p => k p.1 (s, p.2)) := fun _ _ P g k w ρ hs => by
  unfold mIf
  rw [bnd_assoc]
  refine h1 _ _ P _ _ (fun b ρ x s r hs => ?_) ρ hs
  subst r
  refine Sim.bnd (P := fun a ρ (b : D × τ) => RD f a b.1 ∧ St (γ' s b.2) ρ) ?_ (fun a ρ b r => w a ρ b.1 (s, b.2) r.1 r.2)
  cases b with
  | true => exact (h2 s).sim hs _ _ fun a ρ x t r hs => ⟨a, ρ, rfl, ⟨r.1, e1 _ r.2⟩, hl2 s t ρ hs⟩
  | false => exact (h3 s).sim hs _ _ fun a ρ x t r hs => ⟨a, ρ, rfl, ⟨r.1, e2 _ r.2⟩, hl3 s t ρ hs⟩
/-- and, or, not as values -/
theorem cv_andV {m n : M D} {f1 f2 : Fg} {γ1 : σ1 → Ga} {γ2 : σ1 → σ2 → Ga} {U1 : (β : Type) → (D → σ1 → R β) → R β} {U2 : σ1 → (β : Type) → (D → σ2 → R β) → R β}
    (h1 : CV X c γ m (RD f1) γ1 U1) (h2 : ∀ s, CV X c (γ1 s) n (RD f2) (γ2 s) (U2 s)) (hl : ∀ s t, Le (γ2 s t) (γ1 s)) :
    CV X c γ (mAndV m n) (RD .any) γ1 (fun β k => U1 β fun x s => (uB x).bind fun b => (if b then U2 s D fun b' _ => .ok b' else .ok (.bl false)).bind fun b => k b s) := fun _ _ P g k w ρ hs => by
  unfold mAndV
  rw [bnd_assoc]
  refine h1 _ _ P _ _ (fun d ρ x s r hs => ?_) ρ hs
  cases x with
  | bl b =>
    rw [frz_bl r.1]
    cases b with
    | true =>
      refine Sim.bnd (P := fun a ρ b => RD .any a b ∧ St (γ1 s) ρ) ?_ (fun a ρ b r => w a ρ b s r.1 r.2)
      exact (h2 s).sim hs _ _ fun a ρ x t r hs => ⟨a, ρ, rfl, ⟨r.1, trivial⟩, hl s t ρ hs⟩
    | false => exact w _ ρ _ s ⟨rfl, trivial⟩ hs
  | _ => trivial
theorem cv_orV {m n : M D} {f1 f2 : Fg} {γ1 : σ1 → Ga} {γ2 : σ1 → σ2 → Ga} {U1 : (β : Type) → (D → σ1 → R β) → R β} {U2 : σ1 → (β : Type) → (D → σ2 → R β) → R β}
    (h1 : CV X c γ m (RD f1) γ1 U1) (h2 : ∀ s, CV X c (γ1 s) n (RD f2) (γ2 s) (U2 s)) (hl : ∀ s t, Le (γ2 s t) (γ1 s)) :
    CV X c γ (mOrV m n) (RD .any) γ1 (fun β k => U1 β fun x s => (uB x).bind fun b => (if b then .ok (.bl true) else U2 s D fun b' _ => .ok b').bind fun b => k b s) := fun _ _ P g k w ρ hs => by
  unfold mOrV
  rw [bnd_assoc]
  refine h1 _ _ P _ _ (fun d ρ x s r hs => ?_) ρ hs
  cases x with
  | bl b =>
    rw [frz_bl r.1]
    cases b with
    | false =>
      refine Sim.bnd (P := fun a ρ b => RD .any a b ∧ St (γ1 s) ρ) ?_ (fun a ρ b r => w a ρ b s r.1 r.2)
      exact (h2 s).sim hs _ _ fun a ρ x t r hs => ⟨a, ρ, rfl, ⟨r.1, trivial⟩, hl s t ρ hs⟩
    | true => exact w _ ρ _ s ⟨rfl, trivial⟩ hs
  | _ => trivial
theorem cv_notV {m : M D} {f : Fg} {γ1 : σ1 → Ga} {U1 : (β : Type) → (D → σ1 → R β) → R β} (h : CV X c γ m (RD f) γ1 U1) : CV X c γ (mNotV m) (RD .cold) γ1 (fun β k => U1 β fun x s => (uB x).bind fun b => k (.bl (!b)) s) := fun _ _ P g k w ρ hs => by
  unfold mNotV
  rw [bnd_assoc]
  refine h _ _ P _ _ (fun d ρ x s r hs => ?_) ρ hs
  cases x with
  | bl b => rw [frz_bl r.1]; exact w _ ρ _ s ⟨rfl, rfl⟩ hs
  | _ => trivial
def uI : D → R Int
  | .int b => .ok b
  | _ => .bad
@[simp] theorem uI_int (b : Int) : uI (.int b) = .ok b := rfl
/-- a < b < c; the last part changes nothing -/
theorem cv_chain {o o' : Int → Int → Bool} {ma mb mc : M D} {f1 f2 f3 : Fg} {γ1 : σ1 → Ga} {γ2 : σ1 → σ2 → Ga} {γ3 : σ1 → σ2 → σ3 → Ga} {U1 : (β : Type) → (D → σ1 → R β) → R β} {U2 : σ1 → (β : Type) → (D → σ2 → R β) → R β} {U3 : σ1 → σ2 → (β : Type) → (D → σ3 → R β) → R β}
    (h1 : CV X c γ ma (RD f1) γ1 U1) (h2 : ∀ s, CV X c (γ1 s) mb (RD f2) (γ2 s) (U2 s)) (h3 : ∀ s t, CV X c (γ2 s t) mc (RD f3) (γ3 s t) (U3 s t)) (hl : ∀ s t u, Le (γ3 s t u) (γ2 s t)) :
    CV X c γ (mChain o o' ma mb mc) (RD .cold) (fun p : σ1 × σ2 => γ2 p.1 p.2) (fun β k => U1 β fun x s => U2 s β fun y t => (uI x).bind fun i => (uI y).bind fun j => (if o i j then U3 s t D fun z _ => (uI z).bind fun l => .ok (.bl (o' j l)) else .ok (.bl false)).bind fun r => k r (s, t)) := fun _ _ P g k w ρ hs => by
  unfold mChain
  rw [bnd_assoc]
  refine h1 _ _ P _ _ (fun d ρ x s r hs => ?_) ρ hs
  rw [bnd_assoc]
  refine h2 s _ _ P _ _ (fun e ρ y t r2 hs => ?_) ρ hs
  cases x with
  | int i =>
    rw [frz_int r.1]
    cases y with
    | int j =>
      rw [frz_int r2.1]
      dsimp only [uI, R.bind_ok]
      cases q : o i j with
      | true =>
        dsimp only
        refine Sim.bnd (P := fun a ρ b => RD .cold a b ∧ St (γ2 s t) ρ) ?_ (fun a ρ b r => w a ρ b (s, t) r.1 r.2)
        refine h3 s t _ _ _ _ _ (fun e ρ z u r3 hs => ?_) ρ hs
        cases z with
        | int l => rw [frz_int r3.1]; exact ⟨_, ρ, rfl, ⟨rfl, rfl⟩, hl s t u ρ hs⟩
        | _ => trivial
      | false => exact w _ ρ _ (s, t) ⟨rfl, rfl⟩ hs
    | _ => trivial
  | _ => trivial
/-! ### slices -/
theorem p_none : CV X c γ (pur (none : Option Int)) Eq (fun _ : Unit => γ) (fun _ k => k none ()) := cv_pur rfl
theorem p_some {m : M D} {f : Fg} {γ1 : σ1 → Ga} {U1 : (β : Type) → (D → σ1 → R β) → R β} (h : CV X c γ m (RD f) γ1 U1) : CV X c γ (mPart m) Eq γ1 (fun β k => U1 β fun x s => (uI x).bind fun i => k (some i) s) := fun _ _ P g k w ρ hs => by
  unfold mPart
  rw [bnd_assoc]
  refine h _ _ P _ _ (fun d ρ x s r hs => ?_) ρ hs
  cases x with
  | int i => rw [frz_int r.1]; exact w _ ρ _ s rfl hs
  | _ => trivial
theorem cv_slice {p : Option Int → Option Int → List D → Option D} {f : Fg} (hp : ∀ lo hi, Ins (p lo hi) f) {ma : M Opd} {ml mh : M (Option Int)} {i : Option Nat × Fg} {γ1 : σ1 → Ga} {γ2 : σ1 → σ2 → Ga} {γ3 : σ1 → σ2 → σ3 → Ga} {U1 : (β : Type) → (List D → σ1 → R β) → R β} {U2 : σ1 → (β : Type) → (Option Int → σ2 → R β) → R β} {U3 : σ1 → σ2 → (β : Type) → (Option Int → σ3 → R β) → R β}
    (h1 : CV X c γ ma (OP i) γ1 U1) (h2 : ∀ s, CV X c (γ1 s) ml Eq (γ2 s) (U2 s)) (h3 : ∀ s t, CV X c (γ2 s t) mh Eq (γ3 s t) (U3 s t)) (hv : ∀ s t u, okV (γ3 s t u) [i] = true) :
    CV X c γ (mSlice p ma ml mh) (RD f) (fun p : σ1 × σ2 × σ3 => γ3 p.1 p.2.1 p.2.2) (fun β k => U1 β fun v s => U2 s β fun lo t => U3 s t β fun hi u => (uP (p lo hi) (mgV (γ3 s t u) [i] v)).bind fun r => k r (s, t, u)) := fun _ _ P g k w ρ hs => by
  unfold mSlice
  rw [bnd_assoc]
  refine h1 _ _ P _ _ (fun o ρ v s r hs => ?_) ρ hs
  rw [bnd_assoc]
  refine h2 s _ _ P _ _ (fun lo ρ lo' t r2 hs => ?_) ρ hs
  subst r2
  rw [bnd_assoc]
  refine h3 s t _ _ P _ _ (fun hi ρ hi' u r3 hs => ?_) ρ hs
  subst r3
  obtain ⟨ds, ρ', k1, k2, k3, k4, k5⟩ := get_ok gC_get (c := c) hs r (hv s t u)
  unfold uP
  rw [← k2]
  cases q : p lo hi (ds.map frz) with
  | none => trivial
  | some d' =>
    obtain ⟨d, j1, j2, j3⟩ := hp lo hi ds d' q
    have : bnd (mGets gC (p lo hi) [o]) g c ρ = g d c ρ' := by simp only [mGets, bnd, k1, j1, ofO]
    rw [this]
    exact w d ρ' _ (s, t, u) ⟨j2, j3⟩ k4
end
end U
end Y

end
section
set_option Elab.async false
set_option linter.all false
set_option maxRecDepth 100000
set_option autoImplicit false
/-! U4: what is walked, targets, comprehensions. -/
namespace Y
namespace U
open PySem L2
abbrev XT : Y.Env → Prop := fun _ => True
section
variable {α' α1 ξ ξ1 σ σ1 σ2 σ3 τ : Type} {X : Y.Env → Prop} {c : Ctx} {γ : Ga}
/-! ### what is walked -/
def RSr (lk : List Nat) (p : Sr) (xs : List D) : Prop := p.1 = xs ∧ p.2 = lk ∧ ∀ x ∈ xs, frz x = x
def lkOf : List (Option Nat × Fg) → List Nat
  | [] => []
  | (some i, _) :: is => i :: lkOf is
  | (none, _) :: is => lkOf is
def uIt (f : List D → Option (List D)) (xs : List D) : R (List D) := match f xs with
  | some ys => .ok ys
  | none => .bad
def it1 : List D → Option (List D)
  | [x] => items x
  | _ => none
/-- f asks not what is owned, and gives cold things -/
def InsW (f : List D → Option (List D)) : Prop := (∀ ds, f (ds.map frz) = f ds) ∧ ∀ ds xs, f ds = some xs → ∀ x ∈ xs, frz x = x
theorem locks_of : ∀ {is : List (Option Nat × Fg)} {os : List Opd} {vs : List D}, OpL is os vs → locks os = lkOf is
  | [], [], [], _ => rfl
  | (some i, f0) :: is, .slot j :: os, vs, h => by
    obtain ⟨rfl, h⟩ := h
    show [i] ++ locks os = i :: lkOf is
    rw [locks_of h]; rfl
  | (none, f) :: is, .val d :: os, x :: vs, h => by
    show [] ++ locks os = lkOf is
    rw [locks_of h.2.2]; rfl
  | [], [], _ :: _, h => h.elim
  | [], _ :: _, _, h => h.elim
  | (some _, _) :: _, [], _, h => h.elim
  | (some _, _) :: _, .val _ :: _, _, h => h.elim
  | (none, _) :: _, [], _, h => h.elim
  | (none, _) :: _, .slot _ :: _, _, h => h.elim
  | (none, _) :: _, .val _ :: _, [], h => h.elim
theorem cv_walk {f : List D → Option (List D)} (hf : InsW f) {mos : M (List Opd)} {is : List (Option Nat × Fg)} {γ1 : σ1 → Ga} {U1 : (β : Type) → (List D → σ1 → R β) → R β}
    (h : CV X c γ mos (OpL is) γ1 U1) (hv : ∀ s, okV (γ1 s) is = true) : CV X c γ (mWalk f mos) (RSr (lkOf is)) γ1 (fun β k => U1 β fun vs s => (uIt f (mgV (γ1 s) is vs)).bind fun r => k r s) :=
  cv_opt (f := fun os => bnd (gets gC os) fun ds => ofO ((f ds).map fun xs => (xs, locks os))) h (fun vs s => uIt f (mgV (γ1 s) is vs)) (fun os vs s ρ y r hs e => by
    obtain ⟨ds, ρ', h1, h2, h3, h4, h5⟩ := get_ok gC_get (c := c) hs r (hv s)
    unfold uIt at e
    rw [← h2, hf.1] at e
    cases q : f ds with
    | none => rw [q] at e; cases e
    | some xs =>
      rw [q] at e
      cases e
      exact ⟨(y, locks os), ρ', by simp only [bnd, h1, q, ofO, Option.map], ⟨rfl, locks_of r, hf.2 ds y q⟩, h4⟩) (fun _ _ _ h => by unfold uIt at h; split at h <;> cases h)
theorem mSrc_eq (ma : M Opd) : mSrc ma = mWalk it1 (bnd ma fun a => bnd (pur []) fun os => pur (a :: os)) := by
  funext c ρ
  simp only [mSrc, mWalk, bnd, pur, gets]
  cases ma c ρ with
  | ok o ρ1 =>
    dsimp only
    cases h : gC o c ρ1 with
    | ok d ρ2 =>
      simp only [gets, bnd, pur, h, it1, locks, List.flatMap_cons, List.flatMap_nil, List.append_nil]
    | _ => simp only [gets, bnd, pur, h]
  | _ => rfl
theorem w_it1 : InsW it1 := ⟨fun ds => by
  match ds with
  | [] => rfl
  | [x] => exact items_frz x
  | _ :: _ :: _ => rfl, fun ds xs h => by
  match ds, h with
  | [x], h => exact items_cold h⟩
theorem cv_src {ma : M Opd} {i : Option Nat × Fg} {γ1 : σ1 → Ga} {U1 : (β : Type) → (List D → σ1 → R β) → R β} (h1 : CV X c γ ma (OP i) γ1 U1) (hv : ∀ s, okV (γ1 s) [i] = true) :
    CV X c γ (mSrc ma) (RSr (lkOf [i])) (fun p : σ1 × Unit => γ1 p.1) (fun β k => U1 β fun v s => (uIt it1 (mgV (γ1 s) [i] (v ++ []))).bind fun r => k r (s, ())) := by
  rw [mSrc_eq]
  exact cv_walk (γ1 := fun p : σ1 × Unit => γ1 p.1) w_it1 (ol_cons h1 fun s => ol_nil) fun s => hv s.1
theorem frz_zip2 {xs ys : List D} (x : D) (h : x ∈ zip2D xs ys) : frz x = x := by
  unfold zip2D at h
  obtain ⟨i, hi, e⟩ := List.getElem_of_mem h
  rw [List.getElem_zipWith] at e
  rw [← e]; rfl
theorem frz_zip3 : ∀ {xs ys zs : List D} (x : D), x ∈ zip3D xs ys zs → frz x = x
  | x :: xs, y :: ys, z :: zs, w, h => by
    rcases List.mem_cons.mp h with rfl | h
    · rfl
    · exact frz_zip3 w h
  | [], _, _, _, h => nomatch h
  | _ :: _, [], _, _, h => nomatch h
  | _ :: _, _ :: _, [], _, h => nomatch h
theorem frz_enum {xs : List D} (x : D) (h : x ∈ enumD xs) : frz x = x := by
  unfold enumD at h
  obtain ⟨p, _, rfl⟩ := List.mem_map.mp h
  rfl
theorem w_zip2 : InsW zA2 := ⟨fun ds => by
  match ds with
  | [] => rfl
  | [_] => rfl
  | [x, y] => simp only [List.map, zA2, items_frz]
  | _ :: _ :: _ :: _ => rfl, fun ds xs h => by
  obtain ⟨_, _, _, _, _, _, _, rfl⟩ := zA2_inv h
  exact frz_zip2⟩
theorem w_zip3 : InsW zA3 := ⟨fun ds => by
  match ds with
  | [] => rfl
  | [_] => rfl
  | [_, _] => rfl
  | [x, y, z] => simp only [List.map, zA3, items_frz]
  | _ :: _ :: _ :: _ :: _ => rfl, fun ds xs h => by
  obtain ⟨_, _, _, _, _, _, _, _, _, _, rfl⟩ := zA3_inv h
  exact frz_zip3⟩
theorem w_enum : InsW eA := ⟨fun ds => by
  match ds with
  | [] => rfl
  | [x] => simp only [List.map, eA, items_frz]
  | _ :: _ :: _ => rfl, fun ds xs h => by
  obtain ⟨_, _, _, _, rfl⟩ := eA_inv h
  exact frz_enum⟩
def uRng1 : D → R (List D)
  | .int j => if fit62 j = true then .ok (rngD 0 j) else .bad
  | _ => .bad
def uRng2 : D → D → R (List D)
  | .int i, .int j => if (fit62 i && fit62 j) = true then .ok (rngD i j) else .bad
  | _, _ => .bad
theorem frz_rng {i j : Int} (x : D) (h : x ∈ rngD i j) : frz x = x := by
  unfold rngD at h
  obtain ⟨p, _, rfl⟩ := List.mem_map.mp h
  rfl
theorem cv_rng1 {m : M D} {f : Fg} {γ1 : σ1 → Ga} {U1 : (β : Type) → (D → σ1 → R β) → R β} (h : CV X c γ m (RD f) γ1 U1) :
    CV X c γ (mRng1 (bnd m fun o => bnd (pur []) fun os => pur (o :: os))) (RSr []) γ1 (fun β k => U1 β fun x s => (uRng1 x).bind fun r => k r s) := fun _ _ P g k w ρ hs => by
  unfold mRng1
  rw [bnd_assoc, bnd_assoc]
  refine h _ _ P _ _ (fun d ρ x s r hs => ?_) ρ hs
  cases x with
  | int j =>
    rw [frz_int r.1]
    show Sim X P (bnd (if fit62 j = true then pur (rngD 0 j, []) else bad) g c ρ) ((if fit62 j = true then R.ok (rngD 0 j) else .bad).bind fun r => k r s)
    by_cases q : fit62 j = true
    · rw [if_pos q, if_pos q]; exact w _ ρ _ s ⟨rfl, rfl, frz_rng⟩ hs
    · rw [if_neg q, if_neg q]; trivial
  | _ => trivial
theorem cv_rng2 {m n : M D} {f1 f2 : Fg} {γ1 : σ1 → Ga} {γ2 : σ1 → σ2 → Ga} {U1 : (β : Type) → (D → σ1 → R β) → R β} {U2 : σ1 → (β : Type) → (D → σ2 → R β) → R β} (h1 : CV X c γ m (RD f1) γ1 U1) (h2 : ∀ s, CV X c (γ1 s) n (RD f2) (γ2 s) (U2 s)) :
    CV X c γ (mRng2 (bnd m fun o => bnd (bnd n fun o => bnd (pur []) fun os => pur (o :: os)) fun os => pur (o :: os))) (RSr []) (fun p : σ1 × σ2 => γ2 p.1 p.2) (fun β k => U1 β fun x s => U2 s β fun y t => (uRng2 x y).bind fun r => k r (s, t)) := fun _ _ P g k w ρ hs => by
  unfold mRng2
  rw [bnd_assoc, bnd_assoc]
  refine h1 _ _ P _ _ (fun d ρ x s r hs => ?_) ρ hs
  rw [bnd_assoc, bnd_assoc]
  refine h2 s _ _ P _ _ (fun e ρ y t r2 hs => ?_) ρ hs
  cases x with
  | int i =>
    rw [frz_int r.1]
    cases y with
    | int j =>
      rw [frz_int r2.1]
      show Sim X P (bnd (if (fit62 i && fit62 j) = true then pur (rngD i j, []) else bad) g c ρ) ((if (fit62 i && fit62 j) = true then R.ok (rngD i j) else .bad).bind fun r => k r (s, t))
      by_cases q : (fit62 i && fit62 j) = true
      · rw [if_pos q, if_pos q]; exact w _ ρ _ (s, t) ⟨rfl, rfl, frz_rng⟩ hs
      · rw [if_neg q, if_neg q]; trivial
    | _ => trivial
  | _ => trivial
def uRgD1 : D → R D
  | .int j => if rgOk 0 j = true then .ok (.lst false (rngD 0 j)) else .bad
  | _ => .bad
def uRgD2 : D → D → R D
  | .int i, .int j => if rgOk i j = true then .ok (.lst false (rngD i j)) else .bad
  | _, _ => .bad
theorem frzL_cold' {xs : List D} (h : ∀ x ∈ xs, frz x = x) : frz.frzL xs = xs := by
  induction xs with
  | nil => rfl
  | cons x xs ih => show frz x :: frz.frzL xs = _; rw [h x List.mem_cons_self, ih fun y hy => h y (List.mem_cons_of_mem _ hy)]
theorem cv_rgd1 {m : M D} {f : Fg} {γ1 : σ1 → Ga} {U1 : (β : Type) → (D → σ1 → R β) → R β} (h : CV X c γ m (RD f) γ1 U1) :
    CV X c γ (mRgD (.lst true) (bnd m fun x => pur [x])) (RD .own) γ1 (fun β k => U1 β fun x s => (uRgD1 x).bind fun r => k r s) := fun _ _ P g k w ρ hs => by
  unfold mRgD
  rw [bnd_assoc, bnd_assoc]
  refine h _ _ P _ _ (fun d ρ x s r hs => ?_) ρ hs
  cases x with
  | int j =>
    rw [frz_int r.1]
    show Sim X P (bnd (if rgOk 0 j = true then pur (.lst true (rngD 0 j)) else bad) g c ρ) ((if rgOk 0 j = true then R.ok (.lst false (rngD 0 j)) else .bad).bind fun r => k r s)
    by_cases q : rgOk 0 j = true
    · rw [if_pos q, if_pos q]; exact w _ ρ _ s ⟨by show D.lst false (frz.frzL _) = _; rw [frzL_cold' frz_rng], rfl⟩ hs
    · rw [if_neg q, if_neg q]; trivial
  | _ => trivial
theorem cv_rgd2 {m n : M D} {f1 f2 : Fg} {γ1 : σ1 → Ga} {γ2 : σ1 → σ2 → Ga} {U1 : (β : Type) → (D → σ1 → R β) → R β} {U2 : σ1 → (β : Type) → (D → σ2 → R β) → R β} (h1 : CV X c γ m (RD f1) γ1 U1) (h2 : ∀ s, CV X c (γ1 s) n (RD f2) (γ2 s) (U2 s)) :
    CV X c γ (mRgD (.lst true) (bnd m fun x => bnd n fun y => pur [x, y])) (RD .own) (fun p : σ1 × σ2 => γ2 p.1 p.2) (fun β k => U1 β fun x s => U2 s β fun y t => (uRgD2 x y).bind fun r => k r (s, t)) := fun _ _ P g k w ρ hs => by
  unfold mRgD
  rw [bnd_assoc, bnd_assoc]
  refine h1 _ _ P _ _ (fun d ρ x s r hs => ?_) ρ hs
  rw [bnd_assoc]
  refine h2 s _ _ P _ _ (fun e ρ y t r2 hs => ?_) ρ hs
  cases x with
  | int i =>
    rw [frz_int r.1]
    cases y with
    | int j =>
      rw [frz_int r2.1]
      show Sim X P (bnd (if rgOk i j = true then pur (.lst true (rngD i j)) else bad) g c ρ) ((if rgOk i j = true then R.ok (.lst false (rngD i j)) else .bad).bind fun r => k r (s, t))
      by_cases q : rgOk i j = true
      · rw [if_pos q, if_pos q]; exact w _ ρ _ (s, t) ⟨by show D.lst false (frz.frzL _) = _; rw [frzL_cold' frz_rng], rfl⟩ hs
      · rw [if_neg q, if_neg q]; trivial
    | _ => trivial
  | _ => trivial

/-! ### targets -/
/-- what is raised in a target is not served -/
def nox {α : Type} (m : M α) : M α := fun c ρ => match m c ρ with
  | .ok a ρ' => .ok a ρ'
  | _ => .bad
abbrev RU : Unit → Unit → Prop := fun _ _ => True
theorem tg_name {i : Nat} {d x : D} {f : Fg} (r : RD f d x) (hf : free c i = true) (hl : Nat.ble (i + 1) γ.length = true) : CV X c γ (nox (setS i d)) RU (fun _ : Unit => gset γ i (.val x f)) (fun _ k => k () ()) := fun _ _ P g k w ρ hs => by
  have hl : i < ρ.length := by rw [← All2.length hs]; exact Nat.le_of_ble_eq_true hl
  have : bnd (nox (setS i d)) g c ρ = g () c (ρ.set i (some d)) := by simp only [bnd, nox, setS, if_pos (⟨hf, hl⟩ : free c i = true ∧ i < ρ.length)]
  rw [this]
  exact w _ _ () () trivial (hs.set ⟨d, rfl, r.1, r.2⟩)
theorem bnd_nox {α β : Type} {m : M α} {f : α → M β} : nox (bnd m f) = bnd (nox m) fun a => nox (f a) := by
  funext c ρ
  simp only [nox, bnd]
  cases m c ρ <;> rfl
theorem tgl_nil : CV X c γ (nox (tgNil [])) RU (fun _ : Unit => γ) (fun _ k => k () ()) := fun _ _ P g k w ρ hs => w () ρ () () trivial hs
theorem tgl_cons {m : D → M Unit} {ms : List D → M Unit} {d : D} {ds : List D} {γ1 : σ1 → Ga} {γ2 : σ1 → σ2 → Ga} {U1 : (β : Type) → (Unit → σ1 → R β) → R β} {U2 : σ1 → (β : Type) → (Unit → σ2 → R β) → R β}
    (h1 : CV X c γ (nox (m d)) RU γ1 U1) (h2 : ∀ s, CV X c (γ1 s) (nox (ms ds)) RU (γ2 s) (U2 s)) : CV X c γ (nox (tgCons m ms (d :: ds))) RU (fun p : σ1 × σ2 => γ2 p.1 p.2) (fun β k => U1 β fun _ s => U2 s β fun _ t => k () (s, t)) := fun _ _ P g k w ρ hs => by
  have e : tgCons m ms (d :: ds) = bnd (m d) fun _ => ms ds := rfl
  rw [e, bnd_nox, bnd_assoc]
  exact h1 _ _ P _ _ (fun _ ρ _ s _ hs => h2 s _ _ P _ _ (fun _ ρ _ t _ hs => w () ρ () (s, t) trivial hs) ρ hs) ρ hs
def uUnp2 {β : Type} (x : D) (k : D → D → R β) : R β := match x with
  | .tup [a, b] => k (frz a) (frz b)
  | _ => .bad
def uUnp3 {β : Type} (x : D) (k : D → D → D → R β) : R β := match x with
  | .tup [a, b, c] => k (frz a) (frz b) (frz c)
  | _ => .bad
def uUnp4 {β : Type} (x : D) (k : D → D → D → D → R β) : R β := match x with
  | .tup [a, b, c, d] => k (frz a) (frz b) (frz c) (frz d)
  | _ => .bad
def uUnp5 {β : Type} (x : D) (k : D → D → D → D → D → R β) : R β := match x with
  | .tup [a, b, c, d, e] => k (frz a) (frz b) (frz c) (frz d) (frz e)
  | _ => .bad
theorem rd_frz (a : D) : RD .cold (frz a) (frz a) := ⟨frz2 a, own_frz a⟩
theorem tg_tup2 {ms : List D → M Unit} {d x : D} {f : Fg} (r : RD f d x) {γ1 : D → D → σ1 → Ga} {U1 : D → D → (β : Type) → (Unit → σ1 → R β) → R β}
    (h : ∀ a b, RD .cold a a → RD .cold b b → CV X c γ (nox (ms [a, b])) RU (γ1 a b) (U1 a b)) :
    CV X c γ (nox (tgTup 2 ms d)) RU (fun p : D × D × σ1 => γ1 p.1 p.2.1 p.2.2) (fun β k => uUnp2 x fun a b => U1 a b β fun _ s => k () (a, b, s)) := fun _ _ P g k w ρ hs => by
  unfold uUnp2
  split
  · cases frz_tup r.1
    exact h _ _ (rd_frz _) (rd_frz _) _ _ P _ _ (fun _ ρ _ s _ hs => w () ρ () (_, _, s) trivial hs) ρ hs
  · trivial
theorem tg_tup3 {ms : List D → M Unit} {d x : D} {f : Fg} (r : RD f d x) {γ1 : D → D → D → σ1 → Ga} {U1 : D → D → D → (β : Type) → (Unit → σ1 → R β) → R β}
    (h : ∀ a b c', RD .cold a a → RD .cold b b → RD .cold c' c' → CV X c γ (nox (ms [a, b, c'])) RU (γ1 a b c') (U1 a b c')) :
    CV X c γ (nox (tgTup 3 ms d)) RU (fun p : D × D × D × σ1 => γ1 p.1 p.2.1 p.2.2.1 p.2.2.2) (fun β k => uUnp3 x fun a b c => U1 a b c β fun _ s => k () (a, b, c, s)) := fun _ _ P g k w ρ hs => by
  unfold uUnp3
  split
  · cases frz_tup r.1
    exact h _ _ _ (rd_frz _) (rd_frz _) (rd_frz _) _ _ P _ _ (fun _ ρ _ s _ hs => w () ρ () (_, _, _, s) trivial hs) ρ hs
  · trivial
theorem tg_tup4 {ms : List D → M Unit} {d x : D} {f : Fg} (r : RD f d x) {γ1 : D → D → D → D → σ1 → Ga} {U1 : D → D → D → D → (β : Type) → (Unit → σ1 → R β) → R β}
    (h : ∀ a b c' d', RD .cold a a → RD .cold b b → RD .cold c' c' → RD .cold d' d' → CV X c γ (nox (ms [a, b, c', d'])) RU (γ1 a b c' d') (U1 a b c' d')) :
    CV X c γ (nox (tgTup 4 ms d)) RU (fun p : D × D × D × D × σ1 => γ1 p.1 p.2.1 p.2.2.1 p.2.2.2.1 p.2.2.2.2) (fun β k => uUnp4 x fun a b c d => U1 a b c d β fun _ s => k () (a, b, c, d, s)) := fun _ _ P g k w ρ hs => by
  unfold uUnp4
  split
  · cases frz_tup r.1
    exact h _ _ _ _ (rd_frz _) (rd_frz _) (rd_frz _) (rd_frz _) _ _ P _ _ (fun _ ρ _ s _ hs => w () ρ () (_, _, _, _, s) trivial hs) ρ hs
  · trivial

/-! ### comprehensions -/
def compU (B : D → R (Option D)) : List D → R (List D)
  | [] => .ok []
  | x :: xs => match B x with
    | .ok (some y) => match compU B xs with
      | .ok ys => .ok (y :: ys)
      | _ => .bad
    | .ok none => compU B xs
    | _ => .bad
def compS {τ : Type} (B : D → τ → R (Option D × τ)) : List D → τ → R (List D × τ)
  | [], t => .ok ([], t)
  | x :: xs, t => match B x t with
    | .ok (some y, t') => match compS B xs t' with
      | .ok (ys, t2) => .ok (y :: ys, t2)
      | _ => .bad
    | .ok (none, t') => compS B xs t'
    | _ => .bad
def uComp (B : D → R (Option D)) (xs : List D) : R D := match compU B xs with
  | .ok ys => uLst ys
  | _ => .bad
def uCompS {τ : Type} (B : D → τ → R (Option D × τ)) (xs : List D) (t : τ) : R (D × τ) := match compS B xs t with
  | .ok (ys, t') => (uLst ys).bind fun r => .ok (r, t')
  | _ => .bad
/-- one item -/
def bodyM (t : D → M Unit) (tt : M Bool) (te : M D) (x : D) : M (Option D) := bnd (nox (t x)) fun _ => bnd tt fun b => match b with
  | true => bnd te fun d => pur (some d)
  | false => pur none
theorem compL_body {vs : List Nat} {t : D → M Unit} {tt : M Bool} {te : M D} {d : D} {ds : List D} {ρ : Y.Env} : compL vs t tt te (d :: ds) c ρ = match bodyM t tt te d c (wipeA ρ vs) with
    | .ok (some y) ρ3 => (match compL vs t tt te ds c ρ3 with
      | .ok ys ρ4 => .ok (y :: ys) ρ4
      | _ => .bad)
    | .ok none ρ2 => compL vs t tt te ds c ρ2
    | _ => .bad := by
  simp only [compL, bodyM, bnd, nox]
  cases h1 : t d c (wipeA ρ vs) with
  | ok u ρ1 =>
    dsimp only
    cases h2 : tt c ρ1 with
    | ok b ρ2 =>
      cases b with
      | true =>
        dsimp only
        cases h3 : te c ρ2 with
        | ok y ρ3 => simp only [bnd, pur, h3] <;> (cases compL vs t tt te ds c ρ3 <;> rfl)
        | _ => simp only [bnd, h3]
      | false => rfl
    | _ => rfl
  | _ => rfl
noncomputable def gwipe (γ : Ga) : List Nat → Ga
  | [] => γ
  | v :: vs => gset (gwipe γ vs) v .cold
noncomputable def gany (γ : Ga) : List Nat → Ga
  | [] => γ
  | v :: vs => gset (gany γ vs) v .any
noncomputable def gcold (γ : Ga) : List Nat → Bool
  | [] => true
  | v :: vs => (match gat γ v with | .cold => true | .val _ .cold => true | _ => false) && gcold γ vs
theorem gset_any {γ : Ga} {ρ : Y.Env} {v : Nat} (h : St γ ρ) : St (gset γ v .any) ρ := by
  induction h generalizing v with
  | nil => rw [gset_nil]; exact .nil
  | @cons s' o' γ ρ h1 h2 ih =>
    cases v with
    | zero => exact .cons trivial h2
    | succ i => exact .cons h1 ih
theorem gany_le {γ : Ga} {vs : List Nat} {ρ : Y.Env} (h : St γ ρ) : St (gany γ vs) ρ := by
  induction vs with
  | nil => exact h
  | cons v vs ih => exact gset_any ih
theorem gset_comm {γ : Ga} {i j : Nat} {s : Sl} : gset (gset γ i s) j s = gset (gset γ j s) i s := by
  induction γ generalizing i j with
  | nil => simp only [gset_nil]
  | cons t γ ih =>
    cases i with
    | zero => cases j <;> rfl
    | succ i => cases j with
      | zero => rfl
      | succ j => show t :: gset (gset γ i s) j s = t :: gset (gset γ j s) i s; rw [ih]
theorem St.set' {γ : Ga} {ρ : Y.Env} {v : Nat} {o : Option D} {s : Sl} (h : St (gset γ v .any) ρ) (e : Fits s o) : St (gset γ v s) (ρ.set v o) := by
  induction γ generalizing v ρ with
  | nil => rw [gset_nil] at h ⊢; cases h; exact .nil
  | cons t γ ih =>
    cases v with
    | zero => cases h with | cons h1 h2 => exact .cons e h2
    | succ i => cases h with | cons h1 h2 => exact .cons h1 (ih h2)
theorem gany_comm {γ : Ga} {vs : List Nat} {v : Nat} : gset (gany γ vs) v .any = gany (gset γ v .any) vs := by
  induction vs with
  | nil => rfl
  | cons u vs ih => show gset (gset (gany γ vs) u .any) v .any = gset (gany (gset γ v .any) vs) u .any; rw [gset_comm, ih]
theorem gset2 {γ : Ga} {v : Nat} {s s' : Sl} : gset (gset γ v s) v s' = gset γ v s' := by
  induction γ generalizing v with
  | nil => simp only [gset_nil]
  | cons t γ ih => cases v with
    | zero => rfl
    | succ v => show t :: gset (gset γ v s) v s' = t :: gset γ v s'; rw [ih]
theorem wipe_ok {vs : List Nat} : ∀ {γ : Ga} {ρ : Y.Env}, St (gany γ vs) ρ → St (gwipe γ vs) (wipeA ρ vs) := by
  induction vs with
  | nil => exact fun h => h
  | cons v vs ih =>
    intro γ ρ h
    have h : St (gset (gany γ vs) v .any) ρ := h
    rw [gany_comm] at h
    have h2 : St (gwipe (gset γ v .any) vs) (wipeA ρ vs) := ih h
    have h3 : ∀ us : List Nat, gset (gwipe (gset γ v .any) us) v .cold = gset (gwipe γ us) v .cold := fun us => by
      induction us with
      | nil => exact gset2
      | cons u us ih2 => show gset (gset (gwipe (gset γ v .any) us) u .cold) v .cold = gset (gset (gwipe γ us) u .cold) v .cold; rw [gset_comm, ih2, gset_comm]
    show St (gset (gwipe γ vs) v .cold) ((wipeA ρ vs).set v none)
    rw [← h3 vs]
    exact h2.set fun d e => nomatch e
theorem cold_ok {γ : Ga} {ρ : Y.Env} (h : St γ ρ) : ∀ {vs : List Nat}, gcold γ vs = true → Y.cold vs ρ = true
  | [], _ => rfl
  | v :: vs, hc => by
    have hc : ((match gat γ v with | .cold => true | .val _ .cold => true | _ => false) && gcold γ vs) = true := hc
    rw [Bool.and_eq_true] at hc
    show ((match ρ[v]? with | some (some d) => !isOwn d | _ => true) && Y.cold vs ρ) = true
    rw [cold_ok h hc.2, Bool.and_true]
    split
    · rename_i d e
      have := h.at e
      cases q : gat γ v with
      | any => rw [q] at hc; exact nomatch hc.1
      | cold => rw [q] at this; simp [this d rfl]
      | val x f => rw [q] at this hc; cases f with
        | cold => obtain ⟨d', e', _, h3⟩ := this; cases e'; have h3 : isOwn d = false := h3; simp [h3]
        | _ => exact nomatch hc.1
    · rfl
theorem gat_gset {γ : Ga} {v u : Nat} {s : Sl} (h : u ≠ v) : gat (gset γ v s) u = gat γ u := by
  induction γ generalizing u v with
  | nil => rw [gset_nil]
  | cons t γ ih => cases v with
    | zero => cases u with
      | zero => exact absurd rfl h
      | succ u => rfl
    | succ v => cases u with
      | zero => rfl
      | succ u => exact ih fun e => h (by rw [e])
theorem gat_any {γ : Ga} {v : Nat} : gat (gset γ v .any) v = .any := by
  induction γ generalizing v with
  | nil => rw [gset_nil, gat_nil]
  | cons t γ ih => cases v with
    | zero => rfl
    | succ v => exact ih
def orig (ρ0 : Y.Env) (v : Nat) : Option D := match ρ0[v]? with | some o => o | none => none
theorem fits_orig {γ0 : Ga} {ρ0 : Y.Env} (h : St γ0 ρ0) (v : Nat) : Fits (gat γ0 v) (orig ρ0 v) := by
  unfold orig
  induction h generalizing v with
  | nil => cases v <;> trivial
  | @cons s' o' γ ρ h1 h2 ih => cases v with
    | zero => exact h1
    | succ v => exact ih v
/-- behind a comprehension: its own slots as they were -/
theorem rest_ok {ρ ρ0 : Y.Env} : ∀ {vs : List Nat} {γ : Ga}, St (gany γ vs) ρ → (∀ v ∈ vs, Fits (gat γ v) (orig ρ0 v)) → St γ (rest ρ ρ0 vs)
  | [], γ, h, _ => h
  | v :: vs, γ, h, hf => by
    have h : St (gset (gany γ vs) v .any) ρ := h
    rw [gany_comm] at h
    have h2 := rest_ok h fun u hu => by
      by_cases e : u = v
      · subst e; rw [gat_any]; trivial
      · rw [gat_gset e]; exact hf u (List.mem_cons_of_mem _ hu)
    have h3 := h2.set' (hf v List.mem_cons_self)
    rw [gset_at] at h3
    exact h3
theorem compS_sim {vs : List Nat} {t : D → M Unit} {tt : M Bool} {te : M D} {γi : τ → Ga} {B : D → τ → R (Option D × τ)}
    (hb : ∀ x st, frz x = x → ∀ ρ, St (gwipe (γi st) vs) ρ → Sim XT (fun (a : Option D) ρ' (b : Option D × τ) => a.map frz = b.1 ∧ St (gany (γi b.2) vs) ρ') (bodyM t tt te x c ρ) (B x st)) :
    ∀ (xs : List D) (st : τ) (ρ : Y.Env) (ys : List D) (st' : τ), (∀ x ∈ xs, frz x = x) → St (gany (γi st) vs) ρ → compS B xs st = .ok (ys, st') → ∃ ds ρ', compL vs t tt te xs c ρ = .ok ds ρ' ∧ frz.frzL ds = ys ∧ St (gany (γi st') vs) ρ'
  | [], st, ρ, ys, st', _, hs, e => by cases e; exact ⟨[], ρ, rfl, rfl, hs⟩
  | x :: xs, st, ρ, ys, st', hx, hs, e => by
    have h1 := hb x st (hx x List.mem_cons_self) _ (wipe_ok hs)
    have hx' : ∀ x ∈ xs, frz x = x := fun y hy => hx y (List.mem_cons_of_mem _ hy)
    rw [compL_body]
    simp only [compS] at e
    cases q : B x st with
    | ok p =>
      obtain ⟨o, st1⟩ := p
      rw [q] at h1 e
      obtain ⟨a, ρ1, h2, h3, h4⟩ := h1
      rw [h2]
      cases o with
      | some y =>
        cases a with
        | none => exact nomatch h3
        | some d =>
          dsimp only at e ⊢
          cases q2 : compS B xs st1 with
          | ok p2 =>
            obtain ⟨ys2, st2⟩ := p2
            rw [q2] at e
            cases e
            obtain ⟨ds, ρ2, h5, h6, h7⟩ := compS_sim hb xs st1 ρ1 ys2 _ hx' h4 q2
            rw [h5]
            refine ⟨d :: ds, ρ2, rfl, ?_, h7⟩
            show frz d :: frz.frzL ds = _
            rw [h6]; injection h3 with h3; rw [h3]
          | _ => rw [q2] at e; cases e
      | none =>
        cases a with
        | some _ => exact nomatch h3
        | none => exact compS_sim hb xs st1 ρ1 ys _ hx' h4 e
    | _ => rw [q] at e; cases e
theorem compU_S {B : D → R (Option D)} : ∀ {xs ys : List D}, compU B xs = .ok ys → compS (fun x (_ : Unit) => (B x).bind fun o => .ok (o, ())) xs () = .ok (ys, ())
  | [], ys, e => by cases e; rfl
  | x :: xs, ys, e => by
    simp only [compU] at e
    simp only [compS]
    cases q : B x with
    | ok o =>
      rw [q] at e
      cases o with
      | some y =>
        dsimp only at e
        cases q2 : compU B xs with
        | ok zs => rw [q2] at e; cases e; simp only [R.bind_ok, compU_S q2]
        | _ => rw [q2] at e; cases e
      | none => exact compU_S e
    | _ => rw [q] at e; cases e
noncomputable def gsame (γ γ' : Ga) : List Nat → Prop
  | [] => True
  | v :: vs => gat γ v = gat γ' v ∧ gsame γ γ' vs
theorem gsame_mem {γ γ' : Ga} : ∀ {vs : List Nat}, gsame γ γ' vs → ∀ v ∈ vs, gat γ v = gat γ' v
  | _ :: _, h, v, hv => by
    rcases List.mem_cons.mp hv with rfl | hv
    · exact h.1
    · exact gsame_mem h.2 v hv
/-- what the body of a comprehension does: one item x -/
abbrev CB (c : Ctx) (γw : Ga) (t : D → M Unit) (tt : M Bool) (te : M D) (γe : τ → Ga) (x : D) (u : R (Option D × τ)) : Prop :=
  ∀ ρ, St γw ρ → Sim XT (fun (a : Option D) ρ' (b : Option D × τ) => a.map frz = b.1 ∧ St (γe b.2) ρ') (bodyM t tt te x c ρ) u
theorem cb_if {t : D → M Unit} {tt : M Bool} {te : M D} {x : D} {f : Fg} {γ1 : σ1 → Ga} {γ2 : σ1 → σ2 → Ga} {γ3 : σ1 → σ2 → σ3 → Ga} {γe : τ → Ga} {U1 : (β : Type) → (Unit → σ1 → R β) → R β} {U2 : σ1 → (β : Type) → (Bool → σ2 → R β) → R β} {U3 : σ1 → σ2 → (β : Type) → (D → σ3 → R β) → R β} (J2 : σ1 → σ2 → τ) (J3 : σ1 → σ2 → σ3 → τ)
    (h1 : CV XT c γ (nox (t x)) RU γ1 U1) (h2 : ∀ s, CV XT c (γ1 s) tt Eq (γ2 s) (U2 s)) (h3 : ∀ s s2, CV XT c (γ2 s s2) te (RD f) (γ3 s s2) (U3 s s2)) (l2 : ∀ s s2, Le (γ2 s s2) (γe (J2 s s2))) (l3 : ∀ s s2 s3, Le (γ3 s s2 s3) (γe (J3 s s2 s3))) :
    CB c γ t tt te γe x (U1 _ fun _ s => U2 s _ fun b s2 => if b then U3 s s2 _ fun y s3 => .ok (some y, J3 s s2 s3) else .ok (none, J2 s s2)) := fun ρ hs => by
  unfold bodyM
  refine h1 _ _ _ _ _ (fun _ ρ _ s _ hs => ?_) ρ hs
  refine h2 s _ _ _ _ _ (fun b ρ b' s2 e hs => ?_) ρ hs
  subst e
  cases b with
  | true => exact h3 s s2 _ _ (fun (a : Option D) ρ' (b : Option D × τ) => a.map frz = b.1 ∧ St (γe b.2) ρ') (fun d => pur (some d)) (fun y s3 => R.ok (some y, J3 s s2 s3)) (fun d ρ y s3 r hs => ⟨some d, ρ, rfl, by show some (frz d) = _; rw [r.1], l3 s s2 s3 ρ hs⟩) ρ hs
  | false => exact ⟨none, ρ, rfl, rfl, l2 s s2 ρ hs⟩
theorem cb_all {t : D → M Unit} {te : M D} {x : D} {f : Fg} {γ1 : σ1 → Ga} {γ3 : σ1 → σ3 → Ga} {γe : τ → Ga} {U1 : (β : Type) → (Unit → σ1 → R β) → R β} {U3 : σ1 → (β : Type) → (D → σ3 → R β) → R β} (J3 : σ1 → σ3 → τ)
    (h1 : CV XT c γ (nox (t x)) RU γ1 U1) (h3 : ∀ s, CV XT c (γ1 s) te (RD f) (γ3 s) (U3 s)) (l3 : ∀ s s3, Le (γ3 s s3) (γe (J3 s s3))) :
    CB c γ t tAll te γe x (U1 _ fun _ s => U3 s _ fun y s3 => .ok (some y, J3 s s3)) := fun ρ hs => by
  unfold bodyM
  refine h1 _ _ _ _ _ (fun _ ρ _ s _ hs => ?_) ρ hs
  exact h3 s _ _ (fun (a : Option D) ρ' (b : Option D × τ) => a.map frz = b.1 ∧ St (γe b.2) ρ') (fun d => pur (some d)) (fun y s3 => R.ok (some y, J3 s s3)) (fun d ρ y s3 r hs => ⟨some d, ρ, rfl, by show some (frz d) = _; rw [r.1], l3 s s3 ρ hs⟩) ρ hs
theorem cv_compS {mi : M Sr} {lk vs : List Nat} {n : Nat} {t : D → M Unit} {tt : M Bool} {te : M D} {γ1 : σ1 → Ga} {U1 : (β : Type) → (List D → σ1 → R β) → R β} {B : σ1 → D → τ → R (Option D × τ)} (γi : σ1 → τ → Ga) (t0 : σ1 → τ)
    (h1 : CV X c γ mi (RSr lk) γ1 U1) (hb : ∀ s x st, frz x = x → CB ⟨protC n vs, lk ++ c.lock⟩ (gwipe (γi s st) vs) t tt te (fun st => gany (γi s st) vs) x (B s x st))
    (hn : ∀ s, (γ1 s).length = n) (hc : ∀ s, gcold (γ1 s) vs = true) (h0 : ∀ s, Le (γ1 s) (γi s (t0 s))) (hv : ∀ s st, gsame (γi s st) (γ1 s) vs) :
    CV X c γ (mComp mi vs t tt te) (RD .own) (fun p : σ1 × τ => γi p.1 p.2) (fun β k => U1 β fun xs s => (uCompS (B s) xs (t0 s)).bind fun r => k r.1 (s, r.2)) := fun _ _ P g k w ρ hs => by
  unfold mComp
  rw [bnd_assoc]
  refine h1 _ _ P _ _ (fun p ρ xs s r hs => ?_) ρ hs
  obtain ⟨r1, r2, r3⟩ := r
  have hl : ρ.length = n := by rw [← All2.length hs]; exact hn s
  unfold uCompS
  cases q : compS (B s) xs (t0 s) with
  | ok q2 =>
    obtain ⟨ys, st⟩ := q2
    obtain ⟨ds, ρ', k1, k2, k3⟩ := compS_sim (c := ⟨protC n vs, lk ++ c.lock⟩) (hb s) xs (t0 s) ρ ys st r3 (gany_le (h0 s ρ hs)) q
    have hlen : ds.length = ys.length := by rw [← k2, frzL_len]
    show Sim X P (bnd _ g c ρ) (((uLst ys).bind fun r => R.ok (r, st)).bind _)
    unfold uLst
    by_cases hq : ys.length ≤ LN
    · rw [if_pos hq]
      simp only [bnd, if_pos (cold_ok hs (hc s)), hl, r1, r2, k1, hlen, if_pos hq]
      exact w _ _ _ (s, st) ⟨by show D.lst false (frz.frzL ds) = _; rw [k2], rfl⟩ (rest_ok k3 fun v hv' => by rw [gsame_mem (hv s st) v hv']; exact fits_orig hs v)
    · rw [if_neg hq]; trivial
  | _ => trivial
theorem gsame_rfl {γ : Ga} : ∀ {vs : List Nat}, gsame γ γ vs
  | [] => trivial
  | _ :: _ => ⟨rfl, gsame_rfl⟩
abbrev CBU (c : Ctx) (γw : Ga) (t : D → M Unit) (tt : M Bool) (te : M D) (γe : Ga) (x : D) (u : R (Option D)) : Prop :=
  ∀ ρ, St γw ρ → Sim XT (fun (a : Option D) ρ' (b : Option D) => a.map frz = b ∧ St γe ρ') (bodyM t tt te x c ρ) u
theorem cbu_if {t : D → M Unit} {tt : M Bool} {te : M D} {x : D} {f : Fg} {γ1 : σ1 → Ga} {γ2 : σ1 → σ2 → Ga} {γ3 : σ1 → σ2 → σ3 → Ga} {γe : Ga} {U1 : (β : Type) → (Unit → σ1 → R β) → R β} {U2 : σ1 → (β : Type) → (Bool → σ2 → R β) → R β} {U3 : σ1 → σ2 → (β : Type) → (D → σ3 → R β) → R β}
    (h1 : CV XT c γ (nox (t x)) RU γ1 U1) (h2 : ∀ s, CV XT c (γ1 s) tt Eq (γ2 s) (U2 s)) (h3 : ∀ s s2, CV XT c (γ2 s s2) te (RD f) (γ3 s s2) (U3 s s2)) (l2 : ∀ s s2, Le (γ2 s s2) γe) (l3 : ∀ s s2 s3, Le (γ3 s s2 s3) γe) :
    CBU c γ t tt te γe x (U1 _ fun _ s => U2 s _ fun b s2 => if b then U3 s s2 _ fun y s3 => .ok (some y) else .ok none) := fun ρ hs => by
  unfold bodyM
  refine h1 _ _ _ _ _ (fun _ ρ _ s _ hs => ?_) ρ hs
  refine h2 s _ _ _ _ _ (fun b ρ b' s2 e hs => ?_) ρ hs
  subst e
  cases b with
  | true => exact h3 s s2 _ _ (fun (a : Option D) ρ' (b : Option D) => a.map frz = b ∧ St γe ρ') (fun d => pur (some d)) (fun y s3 => R.ok (some y)) (fun d ρ y s3 r hs => ⟨some d, ρ, rfl, by show some (frz d) = _; rw [r.1], l3 s s2 s3 ρ hs⟩) ρ hs
  | false => exact ⟨none, ρ, rfl, rfl, l2 s s2 ρ hs⟩
theorem cbu_all {t : D → M Unit} {te : M D} {x : D} {f : Fg} {γ1 : σ1 → Ga} {γ3 : σ1 → σ3 → Ga} {γe : Ga} {U1 : (β : Type) → (Unit → σ1 → R β) → R β} {U3 : σ1 → (β : Type) → (D → σ3 → R β) → R β}
    (h1 : CV XT c γ (nox (t x)) RU γ1 U1) (h3 : ∀ s, CV XT c (γ1 s) te (RD f) (γ3 s) (U3 s)) (l3 : ∀ s s3, Le (γ3 s s3) γe) :
    CBU c γ t tAll te γe x (U1 _ fun _ s => U3 s _ fun y s3 => .ok (some y)) := fun ρ hs => by
  unfold bodyM
  refine h1 _ _ _ _ _ (fun _ ρ _ s _ hs => ?_) ρ hs
  exact h3 s _ _ (fun (a : Option D) ρ' (b : Option D) => a.map frz = b ∧ St γe ρ') (fun d => pur (some d)) (fun y s3 => R.ok (some y)) (fun d ρ y s3 r hs => ⟨some d, ρ, rfl, by show some (frz d) = _; rw [r.1], l3 s s3 ρ hs⟩) ρ hs
theorem cv_compU {mi : M Sr} {lk vs : List Nat} {n : Nat} {t : D → M Unit} {tt : M Bool} {te : M D} {γ1 : σ1 → Ga} {U1 : (β : Type) → (List D → σ1 → R β) → R β} {B : σ1 → D → R (Option D)}
    (h1 : CV X c γ mi (RSr lk) γ1 U1) (hb : ∀ s x, frz x = x → CBU ⟨protC n vs, lk ++ c.lock⟩ (gwipe (γ1 s) vs) t tt te (gany (γ1 s) vs) x (B s x))
    (hn : ∀ s, (γ1 s).length = n) (hc : ∀ s, gcold (γ1 s) vs = true) :
    CV X c γ (mComp mi vs t tt te) (RD .own) γ1 (fun β k => U1 β fun xs s => (uComp (B s) xs).bind fun r => k r s) := fun _ _ P g k w ρ hs => by
  unfold mComp
  rw [bnd_assoc]
  refine h1 _ _ P _ _ (fun p ρ xs s r hs => ?_) ρ hs
  obtain ⟨r1, r2, r3⟩ := r
  have hl : ρ.length = n := by rw [← All2.length hs]; exact hn s
  unfold uComp
  cases q : compU (B s) xs with
  | ok ys =>
    obtain ⟨ds, ρ', k1, k2, k3⟩ := compS_sim (τ := Unit) (γi := fun _ => γ1 s) (c := ⟨protC n vs, lk ++ c.lock⟩) (t := t) (tt := tt) (te := te) (fun x st hx ρ hs => by
      have := hb s x hx ρ hs
      cases q : B s x with
      | ok o => rw [q] at this; exact this
      | exc e => rw [q] at this; exact this
      | bad => trivial) xs () ρ ys () r3 (gany_le hs) (compU_S q)
    have hlen : ds.length = ys.length := by rw [← k2, frzL_len]
    show Sim X P (bnd _ g c ρ) ((uLst ys).bind _)
    unfold uLst
    by_cases hq : ys.length ≤ LN
    · rw [if_pos hq]
      simp only [bnd, if_pos (cold_ok hs (hc s)), hl, r1, r2, k1, hlen, if_pos hq]
      exact w _ _ _ s ⟨by show D.lst false (frz.frzL ds) = _; rw [k2], rfl⟩ (rest_ok k3 fun v hv' => fits_orig hs v)
    · rw [if_neg hq]; trivial
  | _ => trivial
end
end U
end Y

end
section
set_option Elab.async false
set_option linter.all false
set_option maxRecDepth 100000
set_option autoImplicit false
/-! U5: statements and loops. -/
namespace Y
namespace U
open PySem L2
inductive Step (β τ : Type) where
  | next (t : τ) | brk (t : τ) | done (b : β)
inductive Jn (β τ : Type) where
  | next (t : τ) | done (b : β)
def foldU {τ : Type} (B : D → τ → R τ) : List D → τ → R τ
  | [], t => .ok t
  | x :: xs, t => (B x t).bind fun t' => foldU B xs t'
def forU {β τ : Type} (B : D → τ → R (Step β τ)) : List D → τ → R (Jn β τ)
  | [], t => .ok (.next t)
  | x :: xs, t => (B x t).bind fun j => match j with
    | .next t' => forU B xs t'
    | .brk t' => .ok (.next t')
    | .done b => .ok (.done b)
/-- behind a loop -/
def jn {β τ : Type} (j : Jn β τ) (k : τ → R β) : R β := match j with
  | .next t => k t
  | .done b => .ok b
@[simp] theorem jn_next {β τ : Type} (t : τ) (k : τ → R β) : jn (.next t) k = k t := rfl
@[simp] theorem jn_done {β τ : Type} (b : β) (k : τ → R β) : jn (.done b) k = .ok b := rfl
def whileN {β τ : Type} (T : τ → R Bool) (B : τ → R (Step β τ)) : Nat → τ → R (Jn β τ)
  | 0, _ => .bad
  | n + 1, t => (T t).bind fun b => if b then (B t).bind fun j => match j with
      | .next t' => whileN T B n t'
      | .brk t' => .ok (.next t')
      | .done b => .ok (.done b)
    else .ok (.next t)
open Classical in
noncomputable def whileU {β τ : Type} (T : τ → R Bool) (B : τ → R (Step β τ)) (t : τ) : R (Jn β τ) := if h : ∃ n, whileN T B n t ≠ .bad then whileN T B (choose h) t else .bad
theorem whileN_up {β τ : Type} {T : τ → R Bool} {B : τ → R (Step β τ)} : ∀ {n : Nat} {t : τ}, whileN T B n t ≠ .bad → whileN T B (n + 1) t = whileN T B n t
  | 0, t, h => absurd rfl h
  | n + 1, t, h => by
    rw [whileN]
    conv => rhs; rw [whileN]
    have h' : ((T t).bind fun b => if b then (B t).bind fun j => match j with
      | .next t' => whileN T B n t'
      | .brk t' => R.ok (Jn.next t')
      | .done b => .ok (.done b)
    else .ok (.next t)) ≠ R.bad := h
    cases q : T t with
    | ok b =>
      rw [q] at h'
      simp only [R.bind_ok] at h' ⊢
      cases b with
      | true =>
        simp only [if_true] at h' ⊢
        cases q2 : B t with
        | ok j =>
          rw [q2] at h'
          simp only [R.bind_ok] at h' ⊢
          cases j with
          | next t' => exact whileN_up h'
          | _ => rfl
        | _ => rfl
      | false => rfl
    | _ => rfl
theorem whileN_le {β τ : Type} {T : τ → R Bool} {B : τ → R (Step β τ)} {n m : Nat} {t : τ} (h : whileN T B n t ≠ .bad) (hm : n ≤ m) : whileN T B m t = whileN T B n t := by
  induction hm with
  | refl => rfl
  | step _ ih => rw [whileN_up (by rw [ih]; exact h), ih]
theorem whileU_of {β τ : Type} {T : τ → R Bool} {B : τ → R (Step β τ)} {n : Nat} {t : τ} (h : whileN T B n t ≠ .bad) : whileU T B t = whileN T B n t := by
  have hx : ∃ n, whileN T B n t ≠ .bad := ⟨n, h⟩
  unfold whileU
  rw [dif_pos hx]
  have h2 := Classical.choose_spec hx
  rcases Nat.le_total (Classical.choose hx) n with q | q
  · exact (whileN_le h2 q).symm
  · exact whileN_le h q
theorem whileU_ex {β τ : Type} {T : τ → R Bool} {B : τ → R (Step β τ)} {t : τ} (h : whileU T B t ≠ .bad) : ∃ n, whileU T B t = whileN T B n t := by
  unfold whileU at h ⊢
  split at h
  · rename_i hx; exact ⟨_, by rw [dif_pos hx]⟩
  · exact absurd rfl h
/-- one turn -/
theorem whileU_eq {β τ : Type} (T : τ → R Bool) (B : τ → R (Step β τ)) (t : τ) : whileU T B t = (T t).bind fun b => if b then (B t).bind fun j => match j with
      | .next t' => whileU T B t'
      | .brk t' => .ok (.next t')
      | .done b => .ok (.done b)
    else .ok (.next t) := by
  have key : ∀ n r, whileN T B (n + 1) t = r → r ≠ .bad → ((T t).bind fun b => if b then (B t).bind fun j => match j with
      | .next t' => whileU T B t'
      | .brk t' => R.ok (Jn.next t')
      | .done b => .ok (.done b)
    else .ok (.next t)) = r := fun n r h hr => by
    rw [whileN] at h
    rw [← h]
    cases q : T t with
    | ok b =>
      rw [q] at h
      simp only [R.bind_ok] at h ⊢
      cases b with
      | true =>
        simp only [if_true] at h ⊢
        cases q2 : B t with
        | ok j =>
          rw [q2] at h
          simp only [R.bind_ok] at h ⊢
          cases j with
          | next t' => exact whileU_of (by rw [show whileN T B n t' = r from h]; exact hr)
          | _ => rfl
        | _ => rfl
      | false => rfl
    | _ => rfl
  by_cases h : whileU T B t = .bad
  · rw [h]
    symm
    cases q : T t with
    | ok b =>
      simp only [R.bind_ok]
      cases b with
      | true =>
        simp only [if_true]
        cases q2 : B t with
        | ok j =>
          simp only [R.bind_ok]
          cases j with
          | next t' =>
            apply Classical.byContradiction
            intro hn
            obtain ⟨n, e⟩ := whileU_ex hn
            have : whileN T B (n + 1) t = whileN T B n t' := by rw [whileN, q]; simp only [R.bind_ok, if_true]; rw [q2]; rfl
            have h2 : whileN T B (n + 1) t ≠ .bad := by rw [this, ← e]; exact hn
            rw [whileU_of h2] at h
            exact h2 h
          | brk t' =>
            have : whileN T B 1 t = .ok (.next t') := by rw [whileN, q]; simp only [R.bind_ok, if_true]; rw [q2]; rfl
            have h2 : whileN T B 1 t ≠ .bad := by rw [this]; exact fun h => nomatch h
            rw [whileU_of h2] at h
            exact absurd h h2
          | done b =>
            have : whileN T B 1 t = .ok (.done b) := by rw [whileN, q]; simp only [R.bind_ok, if_true]; rw [q2]; rfl
            have h2 : whileN T B 1 t ≠ .bad := by rw [this]; exact fun h => nomatch h
            rw [whileU_of h2] at h
            exact absurd h h2
        | exc e =>
          have : whileN T B 1 t = .exc e := by rw [whileN, q]; simp only [R.bind_ok, if_true]; rw [q2]; rfl
          have h2 : whileN T B 1 t ≠ .bad := by rw [this]; exact fun h => nomatch h
          rw [whileU_of h2] at h
          exact absurd h h2
        | bad => rfl
      | false =>
        have : whileN T B 1 t = .ok (.next t) := by rw [whileN, q]; rfl
        have h2 : whileN T B 1 t ≠ .bad := by rw [this]; exact fun h => nomatch h
        rw [whileU_of h2] at h
        exact absurd h h2
    | exc e =>
      have : whileN T B 1 t = .exc e := by rw [whileN, q]; rfl
      have h2 : whileN T B 1 t ≠ .bad := by rw [this]; exact fun h => nomatch h
      rw [whileU_of h2] at h
      exact absurd h h2
    | bad => rfl
  · obtain ⟨n, e⟩ := whileU_ex h
    cases n with
    | zero => exact absurd e h
    | succ n => rw [e]; exact (key n _ rfl (by rw [← e]; exact h)).symm

section
variable {α' α1 ξ ξ1 σ σ1 σ2 σ3 τ β β1 : Type} {X : Y.Env → Prop} {c : Ctx} {γ : Ga} {Q : Fl → Y.Env → β → Prop}
/-- a statement that goes on -/
def SK {σ : Type} (X : Y.Env → Prop) (c : Ctx) (γ : Ga) (m : M Fl) (γ' : σ → Ga) (U : (β : Type) → (σ → R β) → R β) : Prop :=
  ∀ (β : Type) (Q : Fl → Y.Env → β → Prop) (n : M Fl) (k : σ → R β), (∀ s ρ, St (γ' s) ρ → Sim X Q (n c ρ) (k s)) → ∀ ρ, St γ ρ → Sim X Q (sSeq m n c ρ) (U β k)
/-- statements, to their end -/
def SS (X : Y.Env → Prop) (c : Ctx) (γ : Ga) (Q : Fl → Y.Env → β → Prop) (m : M Fl) (u : R β) : Prop := ∀ ρ, St γ ρ → Sim X Q (m c ρ) u
theorem ss_seq {m n : M Fl} {γ' : σ → Ga} {U : (β : Type) → (σ → R β) → R β} {k : σ → R β} (h1 : SK X c γ m γ' U) (h2 : ∀ s, SS X c (γ' s) Q n (k s)) : SS X c γ Q (sSeq m n) (U β k) := fun ρ hs => h1 β Q n k (fun s ρ hs => h2 s ρ hs) ρ hs
theorem seq_skip {m : M Fl} : sSeq m sSkip = m := by
  funext c ρ
  simp only [sSeq, bnd, sSkip, pur]
  cases m c ρ with
  | ok f ρ' => cases f <;> rfl
  | _ => rfl
theorem ss_last {m : M Fl} {γ' : σ → Ga} {U : (β : Type) → (σ → R β) → R β} {k : σ → R β} (h1 : SK X c γ m γ' U) (h2 : ∀ s, SS X c (γ' s) Q sSkip (k s)) : SS X c γ Q m (U β k) := by
  have := ss_seq h1 h2
  rwa [seq_skip] at this
theorem seq_assoc (a b n : M Fl) : sSeq (sSeq a b) n = sSeq a (sSeq b n) := by
  funext c ρ
  simp only [sSeq, bnd]
  cases a c ρ with
  | ok f ρ' => cases f <;> rfl
  | _ => rfl
theorem ss_assoc {a b n : M Fl} {u : R β} (h : SS X c γ Q (sSeq a (sSeq b n)) u) : SS X c γ Q (sSeq (sSeq a b) n) u := by rw [seq_assoc]; exact h
theorem ss_skip {n : M Fl} {u : R β} (h : SS X c γ Q n u) : SS X c γ Q (sSeq sSkip n) u := h
theorem ss_retS {m : M D} {n : M Fl} {u : R β} (h : SS X c γ Q (sRet m) u) : SS X c γ Q (sSeq (sRet m) n) u := by
  have e : sSeq (sRet m) n = sRet m := by
    funext c ρ
    simp only [sSeq, sRet, bnd, pur]
    cases m c ρ <;> rfl
  rw [e]; exact h
theorem ss_brkS {n : M Fl} {u : R β} (h : SS X c γ Q (pur .brk) u) : SS X c γ Q (sSeq (pur .brk) n) u := h
theorem ss_contS {n : M Fl} {u : R β} (h : SS X c γ Q (pur .cont) u) : SS X c γ Q (sSeq (pur .cont) n) u := h
theorem ss_retNS {n : M Fl} {u : R β} (h : SS X c γ Q (pur (.ret .non)) u) : SS X c γ Q (sSeq (pur (.ret .non)) n) u := h

/-! ### plain statements -/
theorem sSet_eq (g : D → M Unit) (m : M D) (n : M Fl) : sSeq (sSet g m) n = bnd m fun d => bnd (nox (g d)) fun _ => n := by
  funext c ρ
  simp only [sSeq, sSet, bnd, nox]
  cases m c ρ with
  | ok d ρ1 =>
    dsimp only
    cases g d c ρ1 <;> rfl
  | _ => rfl
theorem sk_set {g : D → M Unit} {m : M D} {f : Fg} {γ1 : σ1 → Ga} {γ2 : D → σ1 → σ2 → Ga} {U1 : (β : Type) → (D → σ1 → R β) → R β} {U2 : D → σ1 → (β : Type) → (Unit → σ2 → R β) → R β}
    (h1 : CV X c γ m (RD f) γ1 U1) (h2 : ∀ d x s, RD f d x → CV X c (γ1 s) (nox (g d)) RU (γ2 x s) (U2 x s)) : SK X c γ (sSet g m) (fun p : D × σ1 × σ2 => γ2 p.1 p.2.1 p.2.2) (fun β k => U1 β fun x s => U2 x s β fun _ t => k (x, s, t)) := fun β Q n k w ρ hs => by
  rw [sSet_eq]
  exact h1 _ _ Q _ _ (fun d ρ x s r hs => h2 d x s r _ _ Q _ _ (fun _ ρ _ t _ hs => w (x, s, t) ρ hs) ρ hs) ρ hs
theorem sk_expr {m : M D} {f : Fg} {γ1 : σ1 → Ga} {U1 : (β : Type) → (D → σ1 → R β) → R β} (h1 : CV X c γ m (RD f) γ1 U1) : SK X c γ (sExpr m) γ1 (fun β k => U1 β fun x s => k s) := fun β Q n k w ρ hs => by
  have e : sSeq (sExpr m) n = bnd m fun _ => n := by
    funext c ρ
    simp only [sSeq, sExpr, bnd, pur]
    cases m c ρ <;> rfl
  rw [e]
  exact h1 _ _ Q _ _ (fun d ρ x s r hs => w s ρ hs) ρ hs
theorem sk_skip : SK X c γ sSkip (fun _ : Unit => γ) (fun β k => k ()) := fun β Q n k w ρ hs => w () ρ hs
/-- i, j = x, y -/
theorem sk_par {i j : Nat} {ms : M (List D)} {f1 f2 : Fg} {γ1 : σ1 → Ga} {U1 : (β : Type) → (List D → σ1 → R β) → R β} (h1 : CV X c γ ms (RLf [f1, f2]) γ1 U1) (hf : (free c i && free c j) = true) (hl : ∀ s, (Nat.ble (i + 1) (γ1 s).length && Nat.ble (j + 1) (γ1 s).length) = true) :
    SK X c γ (sPar i j ms) (fun p : List D × σ1 => gset (gset (γ1 p.2) i (.val (hd p.1) f1)) j (.val (hd (tl p.1)) f2)) (fun β k => U1 β fun xs s => k (xs, s)) := fun β Q n k w ρ hs => by
  unfold sSeq sPar
  rw [bnd_assoc]
  refine h1 _ _ Q _ _ (fun ds ρ xs s r hs => ?_) ρ hs
  obtain ⟨r1, r2⟩ := r
  cases r2 with
  | @cons _ d _ ds a r2 => cases r2 with
    | @cons _ d2 _ ds b r2 => cases r2 with
      | nil =>
        subst r1
        rw [Bool.and_eq_true] at hf
        have hl := hl s
        rw [Bool.and_eq_true, All2.length hs] at hl
        simp only [bnd]
        rw [if_pos ⟨hf.1, hf.2, Nat.le_of_ble_eq_true hl.1, Nat.le_of_ble_eq_true hl.2⟩]
        have a1 : Fits (.val (frz d) f1) (some d) := ⟨d, rfl, rfl, a⟩
        have a2 : Fits (.val (frz d2) f2) (some d2) := ⟨d2, rfl, rfl, b⟩
        exact w (_, s) _ ((hs.set a1).set a2)
theorem sParG_eq (k : Nat) (t : List D → M Unit) (ms : M (List D)) (n : M Fl) : sSeq (sParG k t ms) n = bnd ms fun ds => if ds.length = k ∧ k ≤ LN then bnd (nox (t ds)) fun _ => n else bad := by
  funext c ρ
  simp only [sSeq, sParG, bnd, nox]
  cases ms c ρ with
  | ok ds ρ1 =>
    dsimp only
    by_cases q : ds.length = k ∧ k ≤ LN
    · rw [if_pos q, if_pos q]
      simp only [bnd, nox]
      cases t ds c ρ1 <;> rfl
    · rw [if_neg q, if_neg q]; rfl
  | _ => rfl
theorem sk_parG {k : Nat} {t : List D → M Unit} {ms : M (List D)} {fs : List Fg} {γ1 : σ1 → Ga} {γ2 : List D → σ1 → σ2 → Ga} {U1 : (β : Type) → (List D → σ1 → R β) → R β} {U2 : List D → σ1 → (β : Type) → (Unit → σ2 → R β) → R β} (h1 : CV X c γ ms (RLf fs) γ1 U1)
    (h2 : ∀ ds xs s, RLf fs ds xs → CV X c (γ1 s) (nox (t ds)) RU (γ2 xs s) (U2 xs s)) (hk : (decide (fs.length = k) && Nat.ble k LN) = true) :
    SK X c γ (sParG k t ms) (fun p : List D × σ1 × σ2 => γ2 p.1 p.2.1 p.2.2) (fun β k => U1 β fun xs s => U2 xs s β fun _ t => k (xs, s, t)) := fun β Q n k' w ρ hs => by
  rw [sParG_eq]
  rw [Bool.and_eq_true] at hk
  refine h1 _ _ Q _ _ (fun ds ρ xs s r hs => ?_) ρ hs
  rw [if_pos ⟨by rw [← r.2.length]; exact of_decide_eq_true hk.1, Nat.le_of_ble_eq_true hk.2⟩]
  exact h2 ds xs s r _ _ Q _ _ (fun _ ρ _ t _ hs => w (xs, s, t) ρ hs) ρ hs
theorem tgp_nil {ds xs : List D} (r : RLf [] ds xs) : CV X c γ (nox (tgNil ds)) RU (fun _ : Unit => γ) (fun _ k => k () ()) := by
  obtain ⟨_, r⟩ := r
  cases r
  exact tgl_nil
theorem tgp_cons {f : Fg} {fs : List Fg} {ds xs : List D} (r : RLf (f :: fs) ds xs) {m : D → M Unit} {ms : List D → M Unit} {γ1 : σ1 → Ga} {γ2 : σ1 → σ2 → Ga} {U1 : (β : Type) → (Unit → σ1 → R β) → R β} {U2 : σ1 → (β : Type) → (Unit → σ2 → R β) → R β}
    (h1 : ∀ d, RD f d (hd xs) → CV X c γ (nox (m d)) RU γ1 U1) (h2 : ∀ ds', RLf fs ds' (tl xs) → ∀ s, CV X c (γ1 s) (nox (ms ds')) RU (γ2 s) (U2 s)) : CV X c γ (nox (tgCons m ms ds)) RU (fun p : σ1 × σ2 => γ2 p.1 p.2) (fun β k => U1 β fun _ s => U2 s β fun _ t => k () (s, t)) := by
  obtain ⟨r1, r2⟩ := r
  subst r1
  cases r2 with
  | cons a r2 => exact tgl_cons (h1 _ ⟨rfl, a⟩) (h2 _ ⟨rfl, r2⟩)
/-- an operation of ints alone -/
def IntP (p : List D → Option D) : Prop := ∀ x y d, p [x, y] = some d → ∃ i, x = .int i
theorem ip_add : IntP pAddI := fun x y d h => by
  unfold pAddI at h
  split at h
  · rename_i e; injection e with e1 e2; exact ⟨_, e1⟩
  · cases h
theorem ip_sub : IntP pSubI := fun x y d h => by
  unfold pSubI at h
  split at h
  · rename_i e; injection e with e1 e2; exact ⟨_, e1⟩
  · cases h
theorem gR_noexc' {o : Opd} {ρ ρ' : Y.Env} {e : D} : gR o c ρ ≠ .exc e ρ' := gR_noexc
theorem sk_aug {i : Nat} {p : List D → Option D} {ma : M Opd} {j : Option Nat × Fg} {x : D} {f0 : Fg} {γ1 : σ1 → Ga} {U1 : (β : Type) → (List D → σ1 → R β) → R β} (hp : Ins p .cold) (h0 : gat γ i = .val x f0) (h1 : CV X c γ ma (OP j) γ1 U1) (hf : free c i = true) (hv : ∀ s, okV (γ1 s) [j] = true) :
    SK X c γ (sAug i p ma) (fun p : D × σ1 => gset (γ1 p.2) i (.val p.1 .cold)) (fun β k => (uI x).bind fun _ => U1 β fun v s => (uP p (x :: mgV (γ1 s) [j] v)).bind fun r => k (r, s)) := fun β Q n k w ρ hs => by
  obtain ⟨d0, e1, e2, e3⟩ := hs.get h0
  cases x with
  | int z =>
    have e2 := frz_int e2
    subst e2
    have e : sSeq (sAug i p ma) n c ρ = bnd ma (fun o => bnd (gR o) fun y => fun c ρ => match p [.int z, y] with | some d => if free c i = true then n c (ρ.set i (some d)) else .bad | none => .bad) c ρ := by
      have e1 : (ρ[i]? : Option (Option D)) = some (some (.int z)) := e1
      simp only [sSeq, sAug, bnd, e1]
      simp only [show isOwn (D.int z) = false from rfl, if_true]
      cases ma c ρ with
      | ok o ρ1 =>
        dsimp only
        cases q : gR o c ρ1 with
        | ok y ρ2 => dsimp only; cases p [.int z, y] with
          | some d => dsimp only; rw [if_pos hf, if_pos hf]
          | none => rfl
        | exc e ρ2 => exact absurd q gR_noexc
        | bad => rfl
      | _ => rfl
    rw [e]
    show Sim X Q _ (U1 β _)
    refine h1 _ _ Q _ _ (fun o ρ v s r hs => ?_) ρ hs
    obtain ⟨ds, ρ', k1, k2, k3, k4, k5⟩ := get_ok gR_get (c := c) (os := [o]) hs r (hv s)
    cases q : gR o c ρ with
    | ok y ρ2 =>
      simp only [gets, bnd, q, pur] at k1
      injection k1 with k1 k1'
      subst k1; subst k1'
      have hx : [.int z, frz y] = [.int z, y].map frz := rfl
      have k2 : [frz y] = mgV (γ1 s) [j] v := k2
      rw [← k2, hx]
      unfold uP
      cases q2 : p ([.int z, y].map frz) with
      | none => trivial
      | some d' =>
        obtain ⟨d, j1, j2, j3⟩ := hp _ d' q2
        simp only [bnd, q, j1]
        rw [if_pos hf]
        exact w (_, s) _ (k4.set ⟨d, rfl, j2, j3⟩)
    | exc e ρ2 => simp only [gets, bnd, q] at k1; cases k1
    | bad => simp only [gets, bnd, q] at k1; cases k1
  | _ => trivial
/-! ### changes of owned lists -/
/-- f stands for f' over cold trees; fs: what is known of its arguments -/
def MLk (f f' : List D → List D → Option (List D × D)) (fs : List Fg) (fr : Fg) : Prop := ∀ ds as ys r, All2 FgOk fs as → f' (frz.frzL ds) (frz.frzL as) = some (ys, r) → ∃ ds2 r2, f ds as = some (ds2, r2) ∧ frz.frzL ds2 = ys ∧ frz r2 = r ∧ FgOk fr r2
def uL : D → R Unit
  | .lst _ _ => .ok ()
  | _ => .bad
@[simp] theorem uL_lst (o : Bool) (xs : List D) : uL (.lst o xs) = .ok () := rfl
def uMut (f' : List D → List D → Option (List D × D)) (x : D) (vs : List D) : R (D × D) := match x with
  | .lst _ xs => match f' xs vs with
    | some (ys, r) => .ok (.lst false ys, r)
    | none => .bad
  | _ => .bad
theorem cv_mut {i : Nat} {f f' : List D → List D → Option (List D × D)} {fs : List Fg} {fr f0 : Fg} {x : D} {ms : M (List D)} {γ1 : σ1 → Ga} {U1 : (β : Type) → (List D → σ1 → R β) → R β} (hm : MLk f f' fs fr) (h0 : gat γ i = .val x f0) (h1 : CV X c γ ms (RLf fs) γ1 U1)
    (h2 : ∀ s, gat (γ1 s) i = .val x .own) (hl : c.lock.contains i = false) :
    CV X c γ (mMut i f ms) (RD fr) (fun p : D × σ1 => gset (γ1 p.2) i (.val p.1 .own)) (fun β k => (uL x).bind fun _ => U1 β fun vs s => (uMut f' x vs).bind fun p => k p.2 (p.1, s)) := fun _ β P g k w ρ hs => by
  obtain ⟨d0, e1, e2, e3⟩ := hs.get h0
  have hlk : i ∉ c.lock := fun h => by rw [List.contains_iff_mem.mpr h] at hl; cases hl
  cases x with
  | lst o xs =>
    obtain ⟨o', xs', rfl, hx, rfl⟩ := frz_lst e2
    have e : bnd (mMut i f ms) g c ρ = bnd ms (fun as => fun c ρ1 => match ρ1[i]? with
      | some (some (.lst true ds)) => if i ∉ c.lock then match f ds as with
          | some (ds', d) => g d c (ρ1.set i (some (.lst true ds')))
          | none => .bad
        else .bad
      | _ => .bad) c ρ := by
      simp only [bnd, mMut, e1]
      cases ms c ρ with
      | ok as ρ1 =>
        dsimp only
        cases q : ρ1[i]? with
        | none => rfl
        | some o => cases o with
          | none => rfl
          | some d => cases d with
            | lst o ds => cases o with
              | true =>
                dsimp only
                rw [if_pos hlk, if_pos hlk]
                cases f ds as <;> rfl
              | false => rfl
            | _ => rfl
      | _ => rfl
    rw [e]
    show Sim X P _ (U1 β _)
    refine h1 _ _ P _ _ (fun as ρ vs s r hs => ?_) ρ hs
    obtain ⟨d1, k1, k2, k3⟩ := hs.get (h2 s)
    obtain ⟨o1, ys, rfl, hy, _⟩ := frz_lst k2
    have k3 : o1 = true := k3
    subst k3
    simp only [k1]
    rw [if_pos hlk]
    unfold uMut
    dsimp only
    cases q : f' xs vs with
    | none => trivial
    | some p =>
      obtain ⟨zs, r'⟩ := p
      rw [← hy, ← r.1] at q
      obtain ⟨ds2, r2, j1, j2, j3, j4⟩ := hm ys as zs r' r.2 q
      rw [j1]
      exact w _ _ _ (_, s) ⟨j3, j4⟩ (hs.set ⟨.lst true ds2, rfl, by show D.lst false (frz.frzL ds2) = _; rw [j2], rfl⟩)
  | _ => trivial
end
end U
end Y

end
section
set_option Elab.async false
set_option linter.all false
set_option maxRecDepth 100000
set_option autoImplicit false
/-! U6: ways, loops, frames. -/
namespace Y
namespace U
open PySem L2
section
variable {α' α1 ξ ξ1 σ σ1 σ2 σ3 τ β β1 : Type} {X : Y.Env → Prop} {c : Ctx} {γ : Ga} {Q : Fl → Y.Env → β → Prop}
/-! ### ways -/
theorem sIf_seq (t : M Bool) (a b n : M Fl) : sSeq (sIf t a b) n = bnd t fun v => match v with | true => sSeq a n | false => sSeq b n := by
  unfold sIf
  show bnd (bnd t _) _ = _
  rw [bnd_assoc]
  congr 1
  funext v
  cases v <;> rfl
theorem ss_ifX {t : M Bool} {a b n : M Fl} {γ1 : σ1 → Ga} {U1 : (β : Type) → (Bool → σ1 → R β) → R β} {ua ub : σ1 → R β} (h1 : CV X c γ t Eq γ1 U1) (ha : ∀ s, SS X c (γ1 s) Q (sSeq a n) (ua s)) (hb : ∀ s, SS X c (γ1 s) Q (sSeq b n) (ub s)) :
    SS X c γ Q (sSeq (sIf t a b) n) (U1 β fun v s => if v then ua s else ub s) := fun ρ hs => by
  rw [sIf_seq]
  refine h1 _ _ Q _ _ (fun v ρ v' s e hs => ?_) ρ hs
  subst e
  cases v with
  | true => exact ha s ρ hs
  | false => exact hb s ρ hs
theorem ss_if {t : M Bool} {a b : M Fl} {γ1 : σ1 → Ga} {U1 : (β : Type) → (Bool → σ1 → R β) → R β} {ua ub : σ1 → R β} (h1 : CV X c γ t Eq γ1 U1) (ha : ∀ s, SS X c (γ1 s) Q a (ua s)) (hb : ∀ s, SS X c (γ1 s) Q b (ub s)) :
    SS X c γ Q (sIf t a b) (U1 β fun v s => if v then ua s else ub s) := fun ρ hs => by
  unfold sIf
  refine h1 _ _ Q _ _ (fun v ρ v' s e hs => ?_) ρ hs
  subst e
  cases v with
  | true => exact ha s ρ hs
  | false => exact hb s ρ hs
/-- a part that goes on with t -/
def QJ {τ : Type} (γ' : τ → Ga) (fl : Fl) (ρ : Y.Env) (t : τ) : Prop := fl = .nx ∧ St (γ' t) ρ
theorem ss_endJ {γ' : τ → Ga} {t : τ} (h : Le γ (γ' t)) : SS X c γ (QJ γ') sSkip (.ok t) := fun ρ hs => ⟨.nx, ρ, rfl, rfl, h ρ hs⟩
theorem sk_if {t : M Bool} {a b : M Fl} {γ1 : σ1 → Ga} {U1 : (β : Type) → (Bool → σ1 → R β) → R β} (γ' : σ1 → τ → Ga) {ua ub : σ1 → R τ} (h1 : CV X c γ t Eq γ1 U1) (ha : ∀ s, SS X c (γ1 s) (QJ (γ' s)) a (ua s)) (hb : ∀ s, SS X c (γ1 s) (QJ (γ' s)) b (ub s)) :
    SK X c γ (sIf t a b) (fun p : σ1 × τ => γ' p.1 p.2) (fun β k => U1 β fun v s => (if v then ua s else ub s).bind fun t => k (s, t)) := fun β Q n k w ρ hs => by
  rw [sIf_seq]
  refine h1 _ _ Q _ _ (fun v ρ v' s e hs => ?_) ρ hs
  subst e
  cases v with
  | true =>
    show Sim X Q (bnd a _ c ρ) _
    refine Sim.bnd (ha s ρ hs) fun fl ρ t r => ?_
    obtain ⟨rfl, r⟩ := r
    exact w (s, t) ρ r
  | false =>
    show Sim X Q (bnd b _ c ρ) _
    refine Sim.bnd (hb s ρ hs) fun fl ρ t r => ?_
    obtain ⟨rfl, r⟩ := r
    exact w (s, t) ρ r

/-! ### loops -/
/-- a loop's turn without a way out -/
def QN {τ : Type} (γ' : τ → Ga) (fl : Fl) (ρ : Y.Env) (t : τ) : Prop := (fl = .nx ∨ fl = .cont) ∧ St (γ' t) ρ
theorem ss_endN {γ' : τ → Ga} {t : τ} (h : Le γ (γ' t)) : SS X c γ (QN γ') sSkip (.ok t) := fun ρ hs => ⟨.nx, ρ, rfl, .inl rfl, h ρ hs⟩
theorem ss_contN {γ' : τ → Ga} {t : τ} (h : Le γ (γ' t)) : SS X c γ (QN γ') (pur .cont) (.ok t) := fun ρ hs => ⟨.cont, ρ, rfl, .inr rfl, h ρ hs⟩
/-- a loop's turn -/
def QL {τ : Type} (γ' : τ → Ga) (Q : Fl → Y.Env → β → Prop) (fl : Fl) (ρ : Y.Env) : Step β τ → Prop
  | .next t => (fl = .nx ∨ fl = .cont) ∧ St (γ' t) ρ
  | .brk t => fl = .brk ∧ St (γ' t) ρ
  | .done b => (∃ d, fl = .ret d) ∧ Q fl ρ b
theorem ss_endL {γ' : τ → Ga} {t : τ} (h : Le γ (γ' t)) : SS X c γ (QL γ' Q) sSkip (.ok (.next t)) := fun ρ hs => ⟨.nx, ρ, rfl, .inl rfl, h ρ hs⟩
theorem ss_contL {γ' : τ → Ga} {t : τ} (h : Le γ (γ' t)) : SS X c γ (QL γ' Q) (pur .cont) (.ok (.next t)) := fun ρ hs => ⟨.cont, ρ, rfl, .inr rfl, h ρ hs⟩
theorem ss_brkL {γ' : τ → Ga} {t : τ} (h : Le γ (γ' t)) : SS X c γ (QL γ' Q) (pur .brk) (.ok (.brk t)) := fun ρ hs => ⟨.brk, ρ, rfl, rfl, h ρ hs⟩
/-- what is handed back -/
def RT (Q : Fl → Y.Env → β → Prop) (ρ : Y.Env) (d : D) (b : β) : Prop := Q (.ret d) ρ b
theorem ss_done {m : M D} {u : R β} {γ' : τ → Ga} (h : SS X c γ Q (sRet m) u) : SS X c γ (QL γ' Q) (sRet m) (u.bind fun b => .ok (.done b)) := fun ρ hs => by
  have := h ρ hs
  cases u with
  | ok b =>
    obtain ⟨fl, ρ', e, q⟩ := this
    refine ⟨fl, ρ', e, ?_, q⟩
    unfold sRet at e
    obtain ⟨d, ρ1, _, e2⟩ := bnd_ok e
    cases e2
    exact ⟨d, rfl⟩
  | exc e => exact this
  | bad => trivial
theorem forL_sim {t : D → M Unit} {b : M Fl} {γL : τ → Ga} {B : D → τ → R (Step β τ)} (hb : ∀ x st, frz x = x → ∀ ρ, St (γL st) ρ → Sim X (QL γL Q) (bnd (nox (t x)) (fun _ => b) c ρ) (B x st)) :
    ∀ (xs : List D) (st : τ) (ρ : Y.Env), (∀ x ∈ xs, frz x = x) → St (γL st) ρ → Sim X (fun fl ρ j => match j with | .next st => fl = .nx ∧ St (γL st) ρ | .done b => (∃ d, fl = .ret d) ∧ Q fl ρ b) (forL t b xs c ρ) (forU B xs st)
  | [], st, ρ, _, hs => ⟨.nx, ρ, rfl, rfl, hs⟩
  | x :: xs, st, ρ, hx, hs => by
    have h1 := hb x st (hx x List.mem_cons_self) ρ hs
    have hx' : ∀ x ∈ xs, frz x = x := fun y hy => hx y (List.mem_cons_of_mem _ hy)
    have e : forL t b (x :: xs) c ρ = match bnd (nox (t x)) (fun _ => b) c ρ with
      | .ok .nx ρ2 => forL t b xs c ρ2
      | .ok .cont ρ2 => forL t b xs c ρ2
      | .ok .brk ρ2 => .ok .nx ρ2
      | .ok (.ret d) ρ2 => .ok (.ret d) ρ2
      | .exc e ρ2 => .exc e ρ2
      | .bad => .bad := by
      simp only [forL, bnd, nox]
      cases t x c ρ <;> rfl
    rw [e]
    unfold forU
    cases q : B x st with
    | ok j =>
      rw [q] at h1
      obtain ⟨fl, ρ1, h2, h3⟩ := h1
      rw [h2]
      cases j with
      | next st1 =>
        obtain ⟨h3, h4⟩ := h3
        rcases h3 with rfl | rfl
        · exact forL_sim hb xs st1 ρ1 hx' h4
        · exact forL_sim hb xs st1 ρ1 hx' h4
      | brk st1 => obtain ⟨rfl, h4⟩ := h3; exact ⟨.nx, ρ1, rfl, rfl, h4⟩
      | done b => obtain ⟨⟨d, rfl⟩, h4⟩ := h3; exact ⟨_, ρ1, rfl, ⟨d, rfl⟩, h4⟩
    | exc e =>
      rw [q] at h1
      obtain ⟨d, ρ1, h2, h3⟩ := h1
      rw [h2]
      exact ⟨d, ρ1, rfl, h3⟩
    | bad => trivial
theorem sFor_seq (mi : M Sr) (t : D → M Unit) (b n : M Fl) : sSeq (sFor mi t b) n = bnd mi fun p => bnd (fun c ρ => forL t b p.1 ⟨c.prot, p.2 ++ c.lock⟩ ρ) fun f => match f with | .nx => n | f => pur f := by
  unfold sFor sSeq
  rw [bnd_assoc] <;> rfl
/-- for with ways out; what follows, k -/
theorem ss_for {mi : M Sr} {t : D → M Unit} {b n : M Fl} {lk : List Nat} {γ1 : σ1 → Ga} {U1 : (β : Type) → (List D → σ1 → R β) → R β} {B : σ1 → D → τ → R (Step β τ)} {k : σ1 → τ → R β} (γL : σ1 → τ → Ga) (t0 : σ1 → τ)
    (h1 : CV X c γ mi (RSr lk) γ1 U1) (h0 : ∀ s, Le (γ1 s) (γL s (t0 s))) (hb : ∀ s x st, frz x = x → ∀ ρ, St (γL s st) ρ → Sim X (QL (γL s) Q) (bnd (nox (t x)) (fun _ => b) ⟨c.prot, lk ++ c.lock⟩ ρ) (B s x st))
    (hk : ∀ s st, SS X c (γL s st) Q n (k s st)) :
    SS X c γ Q (sSeq (sFor mi t b) n) (U1 β fun xs s => (forU (B s) xs (t0 s)).bind fun j => jn j fun st => k s st) := fun ρ hs => by
  rw [sFor_seq]
  refine h1 _ _ Q _ _ (fun p ρ xs s r hs => ?_) ρ hs
  obtain ⟨r1, r2, r3⟩ := r
  have h2 := forL_sim (hb s) xs (t0 s) ρ r3 (h0 s ρ hs)
  rw [← r1, ← r2] at h2
  refine Sim.bnd (m := fun c ρ => forL t b p.1 ⟨c.prot, p.2 ++ c.lock⟩ ρ) (by rw [r1, r2]; rw [r1, r2] at h2; exact h2) fun fl ρ j r => ?_
  cases j with
  | next st => obtain ⟨rfl, r⟩ := r; exact hk s st ρ r
  | done b => obtain ⟨⟨d, rfl⟩, r⟩ := r; exact ⟨_, ρ, rfl, r⟩
theorem fold_for {B : D → τ → R τ} : ∀ {xs : List D} {st : τ}, forU (β := Empty) (fun x st => (B x st).bind fun t => .ok (.next t)) xs st = (foldU B xs st).bind fun t => .ok (.next t)
  | [], st => rfl
  | x :: xs, st => by
    unfold forU foldU
    cases B x st with
    | ok t => exact fold_for (xs := xs)
    | _ => rfl
/-- for without a way out -/
theorem sk_for {mi : M Sr} {t : D → M Unit} {b : M Fl} {lk : List Nat} {γ1 : σ1 → Ga} {U1 : (β : Type) → (List D → σ1 → R β) → R β} {B : σ1 → D → τ → R τ} (γL : σ1 → τ → Ga) (t0 : σ1 → τ)
    (h1 : CV X c γ mi (RSr lk) γ1 U1) (h0 : ∀ s, Le (γ1 s) (γL s (t0 s))) (hb : ∀ s x st, frz x = x → ∀ ρ, St (γL s st) ρ → Sim X (QN (γL s)) (bnd (nox (t x)) (fun _ => b) ⟨c.prot, lk ++ c.lock⟩ ρ) (B s x st)) :
    SK X c γ (sFor mi t b) (fun p : σ1 × τ => γL p.1 p.2) (fun β k => U1 β fun xs s => (foldU (B s) xs (t0 s)).bind fun st => k (s, st)) := fun β Q n k w ρ hs => by
  rw [sFor_seq]
  refine h1 _ _ Q _ _ (fun p ρ xs s r hs => ?_) ρ hs
  obtain ⟨r1, r2, r3⟩ := r
  have h2 := forL_sim (β := Empty) (Q := fun _ _ _ => False) (B := fun x st => (B s x st).bind fun t => .ok (.next t)) (γL := γL s) (c := ⟨c.prot, lk ++ c.lock⟩) (X := X) (t := t) (b := b) (fun x st hx ρ hs => by
    have := hb s x st hx ρ hs
    cases q : B s x st with
    | ok t => rw [q] at this; exact this
    | exc e => rw [q] at this; exact this
    | bad => trivial) xs (t0 s) ρ r3 (h0 s ρ hs)
  rw [fold_for] at h2
  cases q : foldU (B s) xs (t0 s) with
  | ok st =>
    rw [q] at h2
    obtain ⟨fl, ρ', h3, rfl, h5⟩ := h2
    refine Sim.bnd (m := fun c ρ => forL t b p.1 ⟨c.prot, p.2 ++ c.lock⟩ ρ) (u := .ok st) (P := fun fl ρ st => fl = .nx ∧ St (γL s st) ρ) ?_ fun fl ρ st r => ?_
    · rw [r1, r2]; exact ⟨.nx, ρ', h3, rfl, h5⟩
    · obtain ⟨rfl, r⟩ := r; exact w (s, st) ρ r
  | exc e =>
    rw [q] at h2
    obtain ⟨d, ρ', h3, h4⟩ := h2
    have : bnd (fun c ρ => forL t b p.1 ⟨c.prot, p.2 ++ c.lock⟩ ρ) (fun f => match f with | .nx => n | f => pur f) c ρ = .exc d ρ' := by
      unfold bnd
      rw [r1, r2]
      dsimp only
      rw [h3]
    rw [this]
    exact ⟨d, ρ', rfl, h4⟩
  | bad => trivial
theorem while_sim {t : M Bool} {b : M Fl} {γL : τ → Ga} {T : τ → R Bool} {B : τ → R (Step β τ)} (ht : ∀ st ρ, St (γL st) ρ → Sim X (fun a ρ' b => a = b ∧ St (γL st) ρ') (t c ρ) (T st)) (hb : ∀ st ρ, St (γL st) ρ → Sim X (QL γL Q) (b c ρ) (B st)) :
    ∀ (n : Nat) (st : τ) (ρ : Y.Env), St (γL st) ρ → Sim X (fun fl ρ j => match j with | .next st => fl = .nx ∧ St (γL st) ρ | .done b => (∃ d, fl = .ret d) ∧ Q fl ρ b) (sWhile t b c ρ) (whileN T B n st)
  | 0, st, ρ, _ => trivial
  | n + 1, st, ρ, hs => by
    have h1 := ht st ρ hs
    rw [sWhile_eq]
    unfold whileN
    cases q : T st with
    | ok v =>
      rw [q] at h1
      obtain ⟨a, ρ1, h2, rfl, h3⟩ := h1
      rw [h2]
      cases a with
      | true =>
        dsimp only [R.bind_ok, if_true]
        have h4 := hb st ρ1 h3
        cases q2 : B st with
        | ok j =>
          rw [q2] at h4
          obtain ⟨fl, ρ2, h5, h6⟩ := h4
          rw [h5]
          cases j with
          | next st1 =>
            obtain ⟨h6, h7⟩ := h6
            rcases h6 with rfl | rfl
            · exact while_sim ht hb n st1 ρ2 h7
            · exact while_sim ht hb n st1 ρ2 h7
          | brk st1 => obtain ⟨rfl, h4⟩ := h6; exact ⟨.nx, ρ2, rfl, rfl, h4⟩
          | done b => obtain ⟨⟨d, rfl⟩, h4⟩ := h6; exact ⟨_, ρ2, rfl, ⟨d, rfl⟩, h4⟩
        | exc e =>
          rw [q2] at h4
          obtain ⟨d, ρ2, h5, h6⟩ := h4
          rw [h5]
          exact ⟨d, ρ2, rfl, h6⟩
        | bad => trivial
      | false => exact ⟨.nx, ρ1, rfl, rfl, h3⟩
    | exc e =>
      rw [q] at h1
      obtain ⟨d, ρ1, h2, h3⟩ := h1
      rw [h2]
      exact ⟨d, ρ1, rfl, h3⟩
    | bad => trivial
theorem ss_while {t : M Bool} {b n : M Fl} {γt : τ → σ1 → Ga} {Ut : τ → (β : Type) → (Bool → σ1 → R β) → R β} {B : τ → R (Step β τ)} {k : τ → R β} (γL : τ → Ga) (t0 : τ)
    (h0 : Le γ (γL t0)) (ht : ∀ st, CV X c (γL st) t Eq (γt st) (Ut st)) (hl : ∀ st s, Le (γt st s) (γL st)) (hb : ∀ st, SS X c (γL st) (QL γL Q) b (B st)) (hk : ∀ st, SS X c (γL st) Q n (k st)) :
    SS X c γ Q (sSeq (sWhile t b) n) ((whileU (fun st => Ut st Bool fun b _ => .ok b) B t0).bind fun j => jn j fun st => k st) := fun ρ hs => by
  by_cases z : whileU (fun st => Ut st Bool fun b _ => .ok b) B t0 = .bad
  · rw [z]; trivial
  · obtain ⟨n', e⟩ := whileU_ex z
    rw [e]
    refine Sim.bnd (while_sim (T := fun st => Ut st Bool fun b _ => .ok b) (fun st ρ hs => (ht st).sim hs _ _ fun a ρ x s r hs => ⟨a, ρ, rfl, r, hl st s ρ hs⟩) hb n' t0 ρ (h0 ρ hs)) fun fl ρ j r => ?_
    cases j with
    | next st => obtain ⟨rfl, r⟩ := r; exact hk st ρ r
    | done b => obtain ⟨⟨d, rfl⟩, r⟩ := r; exact ⟨_, ρ, rfl, r⟩
/-- one turn of a for: target, then the body -/
theorem turn {t : D → M Unit} {b : M Fl} {x : D} {γ1 : σ1 → Ga} {U1 : (β : Type) → (Unit → σ1 → R β) → R β} {u : σ1 → R β} (h1 : CV X c γ (nox (t x)) RU γ1 U1) (h2 : ∀ s, SS X c (γ1 s) Q b (u s)) :
    ∀ ρ, St γ ρ → Sim X Q (bnd (nox (t x)) (fun _ => b) c ρ) (U1 β fun _ s => u s) := fun ρ hs => h1 _ _ Q _ _ (fun _ ρ _ s _ hs => h2 s ρ hs) ρ hs

/-! ### the frame of a def -/
def retv : Fl → Option D
  | .nx => some .non
  | .ret d => some d
  | _ => none
def QF (prs : List Bool) (v : β → D) (ro : Fg) (out : β → List Sl) (fl : Fl) (ρ : Y.Env) (b : β) : Prop := ∃ d, retv fl = some d ∧ frz d = v b ∧ FgOk ro d ∧ All2 Fits (out b) (outs prs ρ)
def OutL : List Bool → Ga → List Sl → Prop
  | [], _, [] => True
  | true :: bs, s :: γ, o :: os => LeS s o ∧ OutL bs γ os
  | false :: bs, _ :: γ, o :: os => Fits o none ∧ OutL bs γ os
  | _, _, _ => False
theorem outl_ok : ∀ {bs : List Bool} {γ : Ga} {os : List Sl} {ρ : Y.Env}, OutL bs γ os → St γ ρ → All2 Fits os (outs bs ρ)
  | [], _, [], _, _, _ => .nil
  | true :: bs, s :: γ, o :: os, _, h, .cons h1 h2 => .cons (h.1 _ h1) (outl_ok h.2 h2)
  | false :: bs, _ :: γ, o :: os, _, h, .cons h1 h2 => .cons h.1 (outl_ok h.2 h2)
theorem ss_ret {m : M D} {f ro : Fg} {prs : List Bool} {v : β → D} {out : β → List Sl} {γ1 : σ1 → Ga} {U1 : (β : Type) → (D → σ1 → R β) → R β} (mk : D → σ1 → β) (h1 : CV X c γ m (RD f) γ1 U1) (hv : ∀ x s, v (mk x s) = x) (hf : FLe f ro) (ho : ∀ x s, OutL prs (γ1 s) (out (mk x s))) :
    SS X c γ (QF prs v ro out) (sRet m) (U1 β fun x s => .ok (mk x s)) := fun ρ hs => by
  unfold sRet
  exact h1 _ _ (QF prs v ro out) (fun d => pur (.ret d)) (fun x s => .ok (mk x s)) (fun d ρ x s r hs => ⟨_, ρ, rfl, d, rfl, by rw [hv, r.1], hf d r.2, outl_ok (ho x s) hs⟩) ρ hs
theorem ss_end {ro : Fg} {prs : List Bool} {v : β → D} {out : β → List Sl} (b : β) (hv : v b = .non) (hf : FLe .cold ro) (ho : OutL prs γ (out b)) : SS X c γ (QF prs v ro out) sSkip (.ok b) := fun ρ hs => ⟨.nx, ρ, rfl, .non, rfl, hv.symm, hf _ rfl, outl_ok ho hs⟩
theorem ss_retN {ro : Fg} {prs : List Bool} {v : β → D} {out : β → List Sl} (b : β) (hv : v b = .non) (hf : FLe .cold ro) (ho : OutL prs γ (out b)) : SS X c γ (QF prs v ro out) (pur (.ret .non)) (.ok b) := fun ρ hs => ⟨_, ρ, rfl, .non, rfl, hv.symm, hf _ rfl, outl_ok ho hs⟩
/-- a local owned list is handed over -/
theorem cv_mv {i : Nat} {x : D} (h : gat γ i = .val x .own) (hf : free c i = true) : CV X c γ (mvVar i) (RD .own) (fun _ : Unit => gset γ i .cold) (fun _ k => k x ()) := fun _ _ P g k w ρ hs => by
  obtain ⟨d, h1, h2, h3⟩ := hs.get h
  have h3 : isOwn d = true := h3
  have : bnd (mvVar i) g c ρ = g d c (ρ.set i none) := by simp only [bnd, mvVar, h1, if_pos (⟨h3, hf⟩ : isOwn d = true ∧ free c i = true)]
  rw [this]
  exact w _ _ x () ⟨h2, h3⟩ (hs.set fun d e => nomatch e)
/-- another one -/
theorem cv_mvA {i : Nat} {x : D} {f : Fg} (h : gat γ i = .val x f) : CV X c γ (mvVar i) (RD .any) (fun _ : Unit => gset γ i .any) (fun _ k => k x ()) := fun _ _ P g k w ρ hs => by
  obtain ⟨d, h1, h2, h3⟩ := hs.get h
  by_cases q : isOwn d = true ∧ free c i = true
  · have : bnd (mvVar i) g c ρ = g d c (ρ.set i none) := by simp only [bnd, mvVar, h1, if_pos q]
    rw [this]
    exact w _ _ x () ⟨h2, trivial⟩ (hs.set trivial)
  · have : bnd (mvVar i) g c ρ = g (frz d) c (ρ.set i (some (frz d))) := by simp only [bnd, mvVar, h1, if_neg q]
    rw [this]
    exact w _ _ x () ⟨by rw [frz2, h2], trivial⟩ (hs.set trivial)
theorem cv_mvC {i : Nat} {x : D} (h : gat γ i = .val x .cold) : CV X c γ (mvVar i) (RD .cold) (fun _ : Unit => γ) (fun _ k => k x ()) := fun _ _ P g k w ρ hs => by
  obtain ⟨d, h1, h2, h3⟩ := hs.get h
  have h3 : isOwn d = false := h3
  have : bnd (mvVar i) g c ρ = g (frz d) c (ρ.set i (some (frz d))) := by simp only [bnd, mvVar, h1, h3]; rw [if_neg (fun z => nomatch z.1)]
  rw [this]
  exact w _ _ x () ⟨by rw [frz2, h2], own_frz d⟩ (hs.same (by rw [h]; exact ⟨_, rfl, by rw [frz2, h2], own_frz d⟩))
/-- .. of a parameter that comes back -/
theorem cv_mvP {i : Nat} {x : D} {f : Fg} (h : gat γ i = .val x f) (hf : free c i = false) : CV X c γ (mvVar i) (RD .cold) (fun _ : Unit => gset γ i (.val x .cold)) (fun _ k => k x ()) := fun _ _ P g k w ρ hs => by
  obtain ⟨d, h1, h2, h3⟩ := hs.get h
  have : bnd (mvVar i) g c ρ = g (frz d) c (ρ.set i (some (frz d))) := by simp only [bnd, mvVar, h1, hf]; rw [if_neg (fun z => nomatch z.2)]
  rw [this]
  exact w _ _ x () ⟨by rw [frz2, h2], own_frz d⟩ (hs.set ⟨_, rfl, by rw [frz2, h2], own_frz d⟩)
end
end U
end Y

end
section
set_option Elab.async false
set_option linter.all false
set_option maxRecDepth 100000
set_option autoImplicit false
/-! U7: calls, defs, lists changed by index. -/
namespace Y
namespace U
open PySem L2
/-- a def by its direct meaning W: fs what its arguments must be, v the value of what W gives, out the arguments behind it -/
def FU {β : Type} (Φ : List D → Fo) (fs : List Fg) (W : List D → R β) (v : β → D) (ro : Fg) (out : List D → β → List Sl) : Prop := ∀ ds, All2 FgOk fs ds → match W (ds.map frz) with
  | .ok b => ∃ d as, Φ ds = .ok d as ∧ frz d = v b ∧ FgOk ro d ∧ All2 Fits (out (ds.map frz) b) as
  | .exc e => ∃ d as, Φ ds = .exc d as ∧ frz d = e ∧ as.length = ds.length
  | .bad => True
section
variable {α' α1 ξ ξ1 σ σ1 σ2 σ3 τ β β1 : Type} {X : Y.Env → Prop} {c : Ctx} {γ : Ga} {Q : Fl → Y.Env → β → Prop}
/-! ### lending -/
def isCold : Sl → Bool
  | .val _ .cold => true
  | _ => false
noncomputable def okL (γ : Ga) : List (Option Nat × Fg) → Bool
  | [] => true
  | (some i, _) :: is => isVal (gat γ i) && ((!(lkOf is).contains i) || isCold (gat γ i)) && okL γ is
  | (none, _) :: is => okL γ is
noncomputable def agF (lock : List Nat) (γ : Ga) : List (Option Nat × Fg) → List Fg
  | [] => []
  | (some i, _) :: is => (if lock.contains i then .cold else (gat γ i).f) :: agF lock γ is
  | (none, f) :: is => f :: agF lock γ is
/-- a slot lent or not: s ahead, o what comes back, s' behind -/
structure Aft (lock : List Nat) (i : Nat) (s o s' : Sl) : Prop where
  lent : lock.contains i = false → LeS o s'
  kept : ∀ d, Fits s (some d) → isOwn d = false ∨ lock.contains i = true → Fits s' (some (frz d))
theorem aft_own {lock : List Nat} {i : Nat} {x : D} {o : Sl} (h : lock.contains i = false) : Aft lock i (.val x .own) o o := ⟨fun _ => les_rfl, fun d ⟨d', e, h1, h2⟩ q => by
  cases e
  have h2 : isOwn d = true := h2
  rcases q with q | q
  · rw [q] at h2; cases h2
  · rw [q] at h; cases h⟩
theorem aft_same {lock : List Nat} {i : Nat} {x : D} {f : Fg} (h : lock.contains i = false) : Aft lock i (.val x f) (.val x f) (.val x f) := ⟨fun _ => les_rfl, fun d ⟨d', e, h1, h2⟩ q => by
  cases e
  refine ⟨_, rfl, by rw [frz2, h1], ?_⟩
  rcases q with q | q
  · cases f with
    | own => have h2 : isOwn d = true := h2; rw [q] at h2; cases h2
    | cold => exact own_frz d
    | any => trivial
  · rw [q] at h; cases h⟩
theorem aft_any {lock : List Nat} {i : Nat} {s o : Sl} : Aft lock i s o .any := ⟨fun _ => les_any, fun _ _ _ => trivial⟩
theorem aft_weak {lock : List Nat} {i : Nat} {x : D} {f f' : Fg} : Aft lock i (.val x f) (.val x f') (.val x .any) := ⟨fun _ => les_val, fun d ⟨d', e, h1, h2⟩ q => by cases e; exact ⟨_, rfl, by rw [frz2, h1], trivial⟩⟩
theorem aft_lock {lock : List Nat} {i : Nat} {x : D} {f : Fg} {o : Sl} (h : lock.contains i = true) : Aft lock i (.val x f) o (.val x .cold) := ⟨fun q => (by rw [q] at h; cases h), fun d ⟨d', e, h1, h2⟩ q => (by cases e; exact ⟨_, rfl, by rw [frz2, h1], own_frz d⟩)⟩
theorem aft_cold {lock : List Nat} {i : Nat} {x : D} {f : Fg} : Aft lock i (.val x f) (.val x .cold) (.val x .cold) := ⟨fun _ => les_rfl, fun d ⟨d', e, h1, h2⟩ q => by cases e; exact ⟨_, rfl, by rw [frz2, h1], own_frz d⟩⟩
/-- the slots behind a call -/
inductive AftL (lock : List Nat) : Ga → List (Option Nat × Fg) → List Sl → Ga → Prop
  | nil {γ : Ga} : AftL lock γ [] [] γ
  | val {γ γ2 : Ga} {f : Fg} {is : List (Option Nat × Fg)} {o : Sl} {os : List Sl} (h : AftL lock γ is os γ2) : AftL lock γ ((none, f) :: is) (o :: os) γ2
  | cold {γ γ2 : Ga} {i : Nat} {f : Fg} {is : List (Option Nat × Fg)} {o : Sl} {os : List Sl} (e : isCold (gat γ i) = true) (h : AftL lock γ is os γ2) : AftL lock γ ((some i, f) :: is) (o :: os) γ2
  | slot {γ γ2 : Ga} {i : Nat} {f : Fg} {is : List (Option Nat × Fg)} {o s' : Sl} {os : List Sl} (a : Aft lock i (gat γ i) o s') (h : AftL lock γ is os γ2) (n : (lkOf is).contains i = false := by rfl) : AftL lock γ ((some i, f) :: is) (o :: os) (gset γ2 i s')
theorem lendL_frame {c : Ctx} : ∀ {is : List (Option Nat × Fg)} {os : List Opd} {vs : List D} {ρ ρ1 : Y.Env} {ps : List (D × Option Nat)} {k : Nat} {a : Option D}, OpL is os vs → k ∉ lkOf is → lendL os c ρ = .ok ps ρ1 → lendL os c (ρ.set k a) = .ok ps (ρ1.set k a)
  | [], [], [], ρ, ρ1, ps, k, a, _, _, e => by cases e; rfl
  | (some i, f0) :: is, .slot j :: os, vs, ρ, ρ1, ps, k, a, h, hk, e => by
    obtain ⟨rfl, h⟩ := h
    have hki : k ≠ i := fun z => hk (by rw [z]; exact List.mem_cons_self)
    have hk' : k ∉ lkOf is := fun z => hk (List.mem_cons_of_mem _ z)
    simp only [lendL] at e ⊢
    obtain ⟨p, ρa, e1, e2⟩ := bnd_ok e
    obtain ⟨ps', ρb, e3, e4⟩ := bnd_ok e2
    cases e4
    have e5 : aVar i c (ρ.set k a) = .ok p (ρa.set k a) := by
      unfold aVar at e1 ⊢
      rw [List.getElem?_set_ne hki]
      cases q : (ρ[i]? : Option (Option D)) with
      | none => rw [q] at e1; cases e1
      | some o => cases o with
        | none => rw [q] at e1; cases e1
        | some d =>
          rw [q] at e1
          dsimp only at e1 ⊢
          by_cases z : isOwn d = true ∧ i ∉ c.lock
          · rw [if_pos z] at e1 ⊢
            cases e1
            rw [List.set_comm _ _ hki]
          · rw [if_neg z] at e1 ⊢
            cases e1
            rw [List.set_comm _ _ hki]
    have e6 := lendL_frame (a := a) h hk' e3
    simp only [bnd, e5, e6, pur]
  | (none, f) :: is, .val d :: os, x :: vs, ρ, ρ1, ps, k, a, h, hk, e => by
    simp only [lendL] at e ⊢
    obtain ⟨ps', ρb, e3, e4⟩ := bnd_ok e
    cases e4
    have e6 := lendL_frame (a := a) h.2.2 (show k ∉ lkOf is from hk) e3
    simp only [bnd, e6, pur]
  | [], [], _ :: _, _, _, _, _, _, h, _, _ => h.elim
  | [], _ :: _, _, _, _, _, _, _, h, _, _ => h.elim
  | (some _, _) :: _, [], _, _, _, _, _, _, h, _, _ => h.elim
  | (some _, _) :: _, .val _ :: _, _, _, _, _, _, _, h, _, _ => h.elim
  | (none, _) :: _, [], _, _, _, _, _, _, h, _, _ => h.elim
  | (none, _) :: _, .slot _ :: _, _, _, _, _, _, _, h, _, _ => h.elim
  | (none, _) :: _, .val _ :: _, [], _, _, _, _, _, h, _, _ => h.elim
theorem back_frame : ∀ {ps : List (D × Option Nat)} {as : List (Option D)} {ρ ρ2 : Y.Env} {k : Nat} {a : Option D}, (∀ d, (d, some k) ∉ ps) → back ps as ρ = some ρ2 → back ps as (ρ.set k a) = some (ρ2.set k a)
  | [], as, ρ, ρ2, k, a, _, e => by simp only [back] at e ⊢; cases e; rfl
  | (d, some i) :: ps, b :: as, ρ, ρ2, k, a, hk, e => by
    have hki : k ≠ i := fun z => hk d (by rw [z]; exact List.mem_cons_self)
    simp only [back] at e ⊢
    rw [List.getElem?_set_ne hki]
    cases q : (ρ[i]? : Option (Option D)) with
    | none => rw [q] at e; cases e
    | some o => cases o with
      | some _ => rw [q] at e; cases e
      | none =>
        rw [q] at e
        dsimp only at e ⊢
        rw [List.set_comm _ _ hki]
        exact back_frame (fun d h => hk d (List.mem_cons_of_mem _ h)) e
  | (d, none) :: ps, b :: as, ρ, ρ2, k, a, hk, e => by
    simp only [back] at e ⊢
    exact back_frame (fun d h => hk d (List.mem_cons_of_mem _ h)) e
  | (_, some _) :: _, [], _, _, _, _, _, e => by simp only [back] at e; cases e
  | (_, none) :: _, [], _, _, _, _, _, e => by simp only [back] at e; cases e
theorem lendL_len {c : Ctx} : ∀ {os : List Opd} {ρ ρ1 : Y.Env} {ps : List (D × Option Nat)}, lendL os c ρ = .ok ps ρ1 → ρ1.length = ρ.length
  | [], ρ, ρ1, ps, e => by cases e; rfl
  | .slot i :: os, ρ, ρ1, ps, e => by
    simp only [lendL] at e
    obtain ⟨p, ρa, e1, e2⟩ := bnd_ok e
    obtain ⟨ps', ρb, e3, e4⟩ := bnd_ok e2
    cases e4
    rw [lendL_len e3]
    unfold aVar at e1
    split at e1
    · split at e1 <;> cases e1 <;> rw [List.length_set]
    · cases e1
  | .val d :: os, ρ, ρ1, ps, e => by
    simp only [lendL] at e
    obtain ⟨ps', ρb, e3, e4⟩ := bnd_ok e
    cases e4
    exact lendL_len e3
theorem aft_frame {lock : List Nat} {γ γ2 : Ga} {is : List (Option Nat × Fg)} {outs : List Sl} (h : AftL lock γ is outs γ2) : ∀ {i : Nat}, i ∉ lkOf is → gat γ2 i = gat γ i := by
  induction h with
  | nil => exact fun _ => rfl
  | val h ih => exact fun n => ih n
  | cold e h ih => exact fun n => ih fun z => n (List.mem_cons_of_mem _ z)
  | slot a h n' ih => exact fun n => by rw [gat_gset (fun z => n (by rw [z]; exact List.mem_cons_self)), ih fun z => n (List.mem_cons_of_mem _ z)]
theorem lend_ok {c : Ctx} : ∀ {is : List (Option Nat × Fg)} {os : List Opd} {vs : List D} {ρ : Y.Env} {γ : Ga}, St γ ρ → OpL is os vs → okL γ is = true →
    ∃ ps ρ1, lendL os c ρ = .ok ps ρ1 ∧ (ps.map (·.1)).map frz = mgV γ is vs ∧ All2 FgOk (agF c.lock γ is) (ps.map (·.1)) ∧ ps.length = is.length ∧ (∀ d k, (d, some k) ∈ ps → k ∈ lkOf is) ∧
      ∀ as outs γ2, All2 Fits outs as → AftL c.lock γ is outs γ2 → ∃ ρ2, back ps as ρ1 = some ρ2 ∧ St γ2 ρ2
  | [], [], [], ρ, γ, hs, _, _ => ⟨[], ρ, rfl, rfl, .nil, rfl, fun _ _ h => (nomatch h), fun as outs γ2 _ h => by cases h; exact ⟨ρ, rfl, hs⟩⟩
  | (some i, f0) :: is, .slot j :: os, vs, ρ, γ, hs, h, hv => by
    obtain ⟨rfl, h⟩ := h
    have hv : ((isVal (gat γ i) && ((!(lkOf is).contains i) || isCold (gat γ i))) && okL γ is) = true := hv
    rw [Bool.and_eq_true, Bool.and_eq_true] at hv
    obtain ⟨⟨hv1, hv2⟩, hv3⟩ := hv
    cases e : gat γ i with
    | any => rw [e] at hv1; exact nomatch hv1
    | cold => rw [e] at hv1; exact nomatch hv1
    | val x f =>
      obtain ⟨d, h1, h2, h3⟩ := hs.get e
      have hlt : i < ρ.length := get_lt h1
      by_cases z : isOwn d = true ∧ i ∉ c.lock
      · -- lent
        have hlk : c.lock.contains i = false := by
          cases q : c.lock.contains i with
          | false => rfl
          | true => exact absurd (List.contains_iff_mem.mp q) z.2
        have hni : i ∉ lkOf is := fun hm => by
          rw [List.contains_iff_mem.mpr hm, e] at hv2
          cases f with
          | cold => have h3 : isOwn d = false := h3; rw [h3] at z; exact nomatch z.1
          | _ => exact nomatch hv2
        obtain ⟨ps, ρ1, k1, k2, k3, k4, k5, k6⟩ := lend_ok (c := c) hs h hv3
        have k7 := lendL_frame (a := none) h hni k1
        have ea : aVar i c ρ = .ok (d, some i) (ρ.set i none) := by unfold aVar; rw [h1]; dsimp only; rw [if_pos z]
        have hl1 : i < ρ1.length := by rw [lendL_len k1]; exact hlt
        refine ⟨(d, some i) :: ps, ρ1.set i none, by simp only [lendL, bnd, ea, k7, pur], ?_, ?_, by simp [k4], ?_, ?_⟩
        · show frz d :: _ = (gat γ i).v :: mgV γ is vs
          rw [k2, h2, e]; rfl
        · show All2 FgOk ((if c.lock.contains i then .cold else (gat γ i).f) :: agF c.lock γ is) (d :: _)
          rw [hlk, e]; exact .cons h3 k3
        · intro d' k hk
          rcases List.mem_cons.mp hk with q | q
          · cases q; exact List.mem_cons_self
          · exact List.mem_cons_of_mem _ (k5 d' k q)
        · intro as outs γ2 hf ha
          cases ha with
          | cold ec ha =>
            rw [e] at ec
            cases f with
            | cold => have h3 : isOwn d = false := h3; rw [h3] at z; exact nomatch z.1
            | _ => exact nomatch ec
          | slot a ha nn =>
            cases hf with
            | cons hf1 hf2 =>
              obtain ⟨ρ2, j1, j2⟩ := k6 _ _ _ hf2 ha
              refine ⟨ρ2.set i _, ?_, j2.set (a.lent hlk _ hf1)⟩
              simp only [back]
              rw [List.getElem?_set_self hl1]
              dsimp only
              rw [List.set_set]
              exact back_frame (fun d' hm => hni (k5 d' i hm)) j1
      · -- kept
        have hz : isOwn d = false ∨ c.lock.contains i = true := by
          cases q : isOwn d with
          | false => exact .inl rfl
          | true => exact .inr (List.contains_iff_mem.mpr (Classical.byContradiction fun hn => z ⟨q, hn⟩))
        have ea : aVar i c ρ = .ok (frz d, none) (ρ.set i (some (frz d))) := by unfold aVar; rw [h1]; dsimp only; rw [if_neg z]
        have hfl : FgOk (if c.lock.contains i then .cold else f) (frz d) := by
          cases q : c.lock.contains i with
          | true => exact own_frz d
          | false =>
            have q2 : isOwn d = false := hz.resolve_right (by rw [q]; exact fun z => nomatch z)
            show FgOk f (frz d)
            cases f with
            | own => have h3 : isOwn d = true := h3; rw [q2] at h3; cases h3
            | cold => exact own_frz d
            | any => trivial
        have hAg : ∀ ps : List (D × Option Nat), All2 FgOk (agF c.lock γ is) (ps.map (·.1)) → All2 FgOk (agF c.lock γ ((some i, f0) :: is)) (((frz d, none) :: ps).map (·.1)) := fun ps h => by
          show All2 FgOk ((if c.lock.contains i then .cold else (gat γ i).f) :: agF c.lock γ is) (frz d :: _)
          rw [e]; exact .cons hfl h
        have hMv : ∀ ps : List (D × Option Nat), (ps.map (·.1)).map frz = mgV γ is vs → ((((frz d, none) :: ps).map (·.1)).map frz) = mgV γ ((some i, f0) :: is) vs := fun ps h => by
          show frz (frz d) :: _ = (gat γ i).v :: mgV γ is vs
          rw [h, frz2, h2, e]; rfl
        by_cases hni : i ∈ lkOf is
        · -- it is cold
          have hc : f = .cold := by
            rw [List.contains_iff_mem.mpr hni, e] at hv2
            cases f with
            | cold => rfl
            | _ => exact nomatch hv2
          subst hc
          have hs' : St γ (ρ.set i (some (frz d))) := hs.same (by rw [e]; exact ⟨_, rfl, by rw [frz2, h2], own_frz d⟩)
          obtain ⟨ps, ρ1, k1, k2, k3, k4, k5, k6⟩ := lend_ok (c := c) hs' h hv3
          refine ⟨(frz d, none) :: ps, ρ1, by simp only [lendL, bnd, ea, k1, pur], hMv ps k2, hAg ps k3, by simp [k4], ?_, ?_⟩
          · intro d' k hk
            rcases List.mem_cons.mp hk with q | q
            · cases q
            · exact List.mem_cons_of_mem _ (k5 d' k q)
          · intro as outs γ2 hf ha
            cases ha with
            | cold ec ha =>
              cases hf with
              | cons hf1 hf2 =>
                obtain ⟨ρ2, j1, j2⟩ := k6 _ _ _ hf2 ha
                exact ⟨ρ2, by simp only [back]; exact j1, j2⟩
            | slot a ha nn => rw [List.contains_iff_mem.mpr hni] at nn; cases nn
        · obtain ⟨ps, ρ1, k1, k2, k3, k4, k5, k6⟩ := lend_ok (c := c) hs h hv3
          have k7 := lendL_frame (a := some (frz d)) h hni k1
          refine ⟨(frz d, none) :: ps, ρ1.set i (some (frz d)), by simp only [lendL, bnd, ea, k7, pur], hMv ps k2, hAg ps k3, by simp [k4], ?_, ?_⟩
          · intro d' k hk
            rcases List.mem_cons.mp hk with q | q
            · cases q
            · exact List.mem_cons_of_mem _ (k5 d' k q)
          · intro as outs γ2 hf ha
            cases ha with
            | cold ec ha =>
              cases hf with
              | cons hf1 hf2 =>
                obtain ⟨ρ2, j1, j2⟩ := k6 _ _ _ hf2 ha
                refine ⟨ρ2.set i (some (frz d)), by simp only [back]; exact back_frame (fun d' hm => hni (k5 d' i hm)) j1, ?_⟩
                refine j2.same ?_
                rw [aft_frame ha hni, e]
                rw [e] at ec
                cases f with
                | cold => exact ⟨_, rfl, by rw [frz2, h2], own_frz d⟩
                | _ => exact nomatch ec
            | slot a ha nn =>
              cases hf with
              | cons hf1 hf2 =>
                obtain ⟨ρ2, j1, j2⟩ := k6 _ _ _ hf2 ha
                refine ⟨ρ2.set i (some (frz d)), by simp only [back]; exact back_frame (fun d' hm => hni (k5 d' i hm)) j1, j2.set (a.kept d (by rw [e]; exact ⟨d, rfl, h2, h3⟩) hz)⟩
  | (none, f) :: is, .val d :: os, x :: vs, ρ, γ, hs, h, hv => by
    obtain ⟨h1, h2, h⟩ := h
    obtain ⟨ps, ρ1, k1, k2, k3, k4, k5, k6⟩ := lend_ok (c := c) hs h hv
    refine ⟨(d, none) :: ps, ρ1, by simp only [lendL, bnd, k1, pur], ?_, .cons h2 k3, by simp [k4], ?_, ?_⟩
    · show frz d :: _ = x :: mgV γ is vs
      rw [k2, h1]
    · intro d' k hk
      rcases List.mem_cons.mp hk with q | q
      · cases q
      · exact k5 d' k q
    · intro as outs γ2 hf ha
      cases ha with
      | val ha =>
        cases hf with
        | cons hf1 hf2 =>
          obtain ⟨ρ2, j1, j2⟩ := k6 _ _ _ hf2 ha
          exact ⟨ρ2, by simp only [back]; exact j1, j2⟩
  | [], [], _ :: _, _, _, _, h, _ => h.elim
  | [], _ :: _, _, _, _, _, h, _ => h.elim
  | (some _, _) :: _, [], _, _, _, _, h, _ => h.elim
  | (some _, _) :: _, .val _ :: _, _, _, _, _, h, _ => h.elim
  | (none, _) :: _, [], _, _, _, _, h, _ => h.elim
  | (none, _) :: _, .slot _ :: _, _, _, _, _, h, _ => h.elim
  | (none, _) :: _, .val _ :: _, [], _, _, _, h, _ => h.elim
end
end U
end Y

end
section
set_option Elab.async false
set_option linter.all false
set_option maxRecDepth 100000
set_option autoImplicit false
/-! U8: calls, defs, lists changed by index. -/
namespace Y
namespace U
open PySem L2
section
variable {α' α1 ξ ξ1 σ σ1 σ2 σ3 τ β β1 : Type} {X : Y.Env → Prop} {c : Ctx} {γ : Ga} {Q : Fl → Y.Env → β → Prop}
/-- the slots behind a call that raised -/
noncomputable def gx (γ : Ga) : List (Option Nat × Fg) → Ga
  | [] => γ
  | (some i, _) :: is => if isCold (gat γ i) then gx γ is else gset (gx γ is) i .any
  | (none, _) :: is => gx γ is
theorem gx_aft {lock : List Nat} : ∀ {is : List (Option Nat × Fg)}, okL γ is = true → AftL lock γ is (List.replicate is.length .any) (gx γ is)
  | [], _ => .nil
  | (some i, f) :: is, h => by
    have h : ((isVal (gat γ i) && ((!(lkOf is).contains i) || isCold (gat γ i))) && okL γ is) = true := h
    rw [Bool.and_eq_true, Bool.and_eq_true] at h
    show AftL lock γ _ (.any :: List.replicate is.length .any) (if isCold (gat γ i) then gx γ is else gset (gx γ is) i .any)
    by_cases q : isCold (gat γ i) = true
    · rw [if_pos q]; exact .cold q (gx_aft h.2)
    · rw [if_neg q]
      have q2 : isCold (gat γ i) = false := by simpa using q
      refine .slot aft_any (gx_aft h.2) ?_
      have := h.1.2
      rw [q2, Bool.or_false] at this
      simpa using this
  | (none, f) :: is, h => .val (gx_aft h)
theorem cv_call {Φ : List D → Fo} {n : Nat} {fs : List Fg} {W : List D → R β1} {v : β1 → D} {ro : Fg} {out : List D → β1 → List Sl} {mos : M (List Opd)} {is : List (Option Nat × Fg)} {γ1 : σ1 → Ga} {γ2 : σ1 → List D → β1 → Ga} {U1 : (β : Type) → (List D → σ1 → R β) → R β}
    (F : FU Φ fs W v ro out) (h : CV X c γ mos (OpL is) γ1 U1) (hn : is.length = n) (hv : ∀ s, okL (γ1 s) is = true) (hf : ∀ s, agF c.lock (γ1 s) is = fs)
    (ha : ∀ s vs b, AftL c.lock (γ1 s) is (out (mgV (γ1 s) is vs) b) (γ2 s vs b)) (hX : ∀ s ρ, St (gx (γ1 s) is) ρ → X ρ) :
    CV X c γ (mCall n Φ (bnd mos lendL)) (RD ro) (fun p : σ1 × List D × β1 => γ2 p.1 p.2.1 p.2.2) (fun β k => U1 β fun vs s => (W (mgV (γ1 s) is vs)).bind fun b => k (v b) (s, vs, b)) := fun _ _ P g k w ρ hs => by
  unfold mCall
  rw [bnd_assoc, bnd_assoc]
  refine h _ _ P _ _ (fun os ρ vs s r hs => ?_) ρ hs
  obtain ⟨ps, ρ1, k1, k2, k3, k4, k5, k6⟩ := lend_ok (c := c) hs r (hv s)
  rw [hf s] at k3
  have hF := F _ k3
  rw [k2] at hF
  have hl : ps.length = n := by rw [k4, hn]
  cases q : W (mgV (γ1 s) is vs) with
  | ok b =>
    rw [q] at hF
    obtain ⟨d, as, e1, e2, e3, e4⟩ := hF
    obtain ⟨ρ2, j1, j2⟩ := k6 as _ _ e4 (ha s vs b)
    simp only [bnd, k1, hl, if_true, e1, j1]
    exact w d ρ2 _ (s, vs, b) ⟨e2, e3⟩ j2
  | exc e =>
    rw [q] at hF
    obtain ⟨d, as, e1, e2, e3⟩ := hF
    have hany : ∀ {m : Nat} {as : List (Option D)}, as.length = m → All2 Fits (List.replicate m .any) as := fun {m as} h => by
      induction as generalizing m with
      | nil => subst h; exact .nil
      | cons a as ih => subst h; exact .cons trivial (ih rfl)
    obtain ⟨ρ2, j1, j2⟩ := k6 as _ _ (hany (by rw [e3, List.length_map, k4])) (gx_aft (hv s))
    simp only [bnd, k1, hl, if_true, e1, j1]
    exact ⟨d, ρ2, rfl, e2, hX s ρ2 j2⟩
  | bad => trivial
theorem hx_t {γ1 : σ1 → Ga} {is : List (Option Nat × Fg)} : ∀ s ρ, St (gx (γ1 s) is) ρ → XT ρ := fun _ _ _ => trivial

/-! ### defs -/
def g0 : List Fg → List D → List Sl
  | f :: fs, x :: xs => .val x f :: g0 fs xs
  | _, _ => []
theorem fu_mk {N : Nat} {prs : List Bool} {m : M Fl} {fs : List Fg} {W : List D → R β} {v : β → D} {ro : Fg} {out : List D → β → List Sl} (hl : prs.length = fs.length)
    (h : ∀ xs, xs.length = fs.length → SS XT ⟨protOf prs 0, []⟩ (g0 fs xs ++ List.replicate (N - fs.length) .cold) (QF prs v ro (out xs)) m (W xs)) : FU (runF N prs m) fs W v ro out := fun ds hd => by
  have hlen : ds.length = fs.length := (All2.length hd).symm
  have h1 := h (ds.map frz) (by rw [List.length_map, hlen])
  have hrep : ∀ n, St (List.replicate n .cold) (List.replicate n none) := fun n => by
    induction n with
    | zero => exact .nil
    | succ n ih => exact .cons (fun d e => nomatch e) ih
  have hst : ∀ {fs : List Fg} {ds : List D}, All2 FgOk fs ds → St (g0 fs (ds.map frz)) (ds.map some) := fun {fs ds} h => by
    induction h with
    | nil => exact .nil
    | cons a _ ih => exact .cons ⟨_, rfl, rfl, a⟩ ih
  have h2 := h1 (ds.map some ++ List.replicate (N - ds.length) none) (by rw [hlen]; exact All2.append (hst hd) (hrep _))
  have hX : ∀ (bs : List Bool) (ρ : Y.Env), (outs bs ρ).length = bs.length := fun bs => by
    induction bs with
    | nil => exact fun _ => rfl
    | cons b bs ih => intro ρ; cases ρ with
      | nil => cases b <;> simp [outs, ih]
      | cons o ρ => simp [outs, ih]
  cases q : W (ds.map frz) with
  | ok b =>
    rw [q] at h2
    obtain ⟨fl, ρ, e1, d, e2, e3, e4, e5⟩ := h2
    dsimp only
    cases fl with
    | nx => cases e2; exact ⟨.non, outs prs ρ, by unfold runF; rw [e1], e3, e4, e5⟩
    | ret d' => cases e2; exact ⟨d, outs prs ρ, by unfold runF; rw [e1], e3, e4, e5⟩
    | _ => cases e2
  | exc e =>
    rw [q] at h2
    obtain ⟨d, ρ, e1, e2, _⟩ := h2
    exact ⟨d, outs prs ρ, by unfold runF; rw [e1], e2, by rw [hX, hl, hlen]⟩
  | bad => trivial

/-! ### owned lists -/
def fAppendU : List D → List D → Option (List D × D) := fun ds as => match as with
  | [d] => if ds.length < LN then some (ds ++ [d], .non) else none
  | _ => none
theorem m_append {f : Fg} : MLk fAppend fAppendU [f] .cold := fun ds as ys r hf h => by
  cases hf with
  | @cons _ d _ _ a b => cases b with
    | nil =>
      have h : (if (frz.frzL ds).length < LN then some (frz.frzL ds ++ [frz d], D.non) else none) = some (ys, r) := h
      rw [frzL_len] at h
      split at h
      · rename_i hl
        cases h
        exact ⟨ds ++ [d], .non, by simp only [fAppend]; rw [if_pos hl], by rw [frzL_app]; rfl, rfl, rfl⟩
      · cases h
def fExtendU : List D → List D → Option (List D × D) := fun ds as => match as with
  | [.lst _ es] => if ds.length + es.length ≤ LN then some (ds ++ es, .non) else none
  | _ => none
theorem m_extend : MLk fExtend fExtendU [.own] .cold := fun ds as ys r hf h => by
  cases hf with
  | @cons _ d _ _ a b => cases b with
    | nil =>
      have h : fExtendU (frz.frzL ds) [frz d] = some (ys, r) := h
      have a : isOwn d = true := a
      cases d with
      | lst o es =>
        have a : o = true := a
        subst a
        have h : (if (frz.frzL ds).length + (frz.frzL es).length ≤ LN then some (frz.frzL ds ++ frz.frzL es, D.non) else none) = some (ys, r) := h
        rw [frzL_len, frzL_len] at h
        split at h
        · rename_i hl
          cases h
          exact ⟨ds ++ es, .non, by simp only [fExtend]; rw [if_pos hl], by rw [frzL_app], rfl, rfl⟩
        · cases h
      | _ => cases h
def fPopU : List D → List D → Option (List D × D) := fPop
theorem eraseIdx_frz (ds : List D) (i : Nat) : frz.frzL (ds.eraseIdx i) = (frz.frzL ds).eraseIdx i := by
  rw [frzL_map, frzL_map]
  induction ds generalizing i with
  | nil => rfl
  | cons d ds ih => cases i with
    | zero => rfl
    | succ i => simp only [List.eraseIdx_cons_succ, List.map_cons, ih]
theorem frzL_get (ds : List D) (i : Nat) : (frz.frzL ds)[i]? = (ds[i]?).map frz := by rw [frzL_map, List.getElem?_map]
theorem m_pop0 : MLk fPop fPopU [] .any := fun ds as ys r hf h => by
  cases hf
  have h : fPop (frz.frzL ds) [] = some (ys, r) := h
  simp only [fPop, frzL_len, frzL_get] at h ⊢
  cases q : ds[ds.length - 1]? with
  | none => rw [q] at h; cases h
  | some d =>
    rw [q] at h
    cases h
    exact ⟨_, d, rfl, by rw [eraseIdx_frz], rfl, trivial⟩
theorem m_pop {f : Fg} : MLk fPop fPopU [f] .any := fun ds as ys r hf h => by
  cases hf with
  | @cons _ d _ _ a b => cases b with
    | nil =>
      have h : fPop (frz.frzL ds) [frz d] = some (ys, r) := h
      cases d with
      | int k =>
        have h : fPop (frz.frzL ds) [.int k] = some (ys, r) := h
        simp only [fPop, frzL_len, frzL_get] at h ⊢
        by_cases z : -(2 ^ 63) ≤ k ∧ k < 2 ^ 63
        · rw [if_pos z] at h ⊢
          cases q : ixN ds.length k with
          | none => rw [q] at h; cases h
          | some j =>
            rw [q] at h
            dsimp only at h ⊢
            cases q2 : ds[j]? with
            | none => rw [q2] at h; cases h
            | some d =>
              rw [q2] at h
              cases h
              exact ⟨_, d, rfl, by rw [eraseIdx_frz], rfl, trivial⟩
        · rw [if_neg z] at h; cases h
      | _ => cases h
/-- xs[k] = y -/
def uSetI (x k y : D) : R D := match x, k with
  | .lst _ xs, .int k => match ixN xs.length k with
    | some j => .ok (.lst false (xs.set j y))
    | none => .bad
  | _, _ => .bad
def R.nox {α : Type} : R α → R α
  | .ok a => .ok a
  | _ => .bad
@[simp] theorem R.nox_ok {α : Type} (a : α) : (R.ok a).nox = .ok a := rfl
theorem set_frz (ds : List D) (j : Nat) (d : D) : frz.frzL (ds.set j d) = (frz.frzL ds).set j (frz d) := by rw [frzL_map, frzL_map, List.map_set]
theorem tg_ix {i : Nat} {mi : M D} {f fi f0 : Fg} {x : D} {d y : D} (r : RD f d y) {γ1 : σ1 → Ga} {U1 : (β : Type) → (D → σ1 → R β) → R β} (h0 : gat γ i = .val x f0) (h1 : CV XT c γ mi (RD fi) γ1 U1) (h2 : ∀ s, gat (γ1 s) i = .val x .own) (h3 : ∀ s, Le (γ1 s) γ) (hl : c.lock.contains i = false) :
    CV X c γ (nox (setI i mi d)) RU (fun z : D => gset γ i (.val z .own)) (fun β k => (uL x).bind fun _ => (U1 D fun v _ => .ok v).nox.bind fun v => (uSetI x v y).bind fun z => k () z) := fun _ _ P g k w ρ hs => by
  obtain ⟨d0, e1, e2, e3⟩ := hs.get h0
  have hlk : i ∉ c.lock := fun h => by rw [List.contains_iff_mem.mpr h] at hl; cases hl
  cases x with
  | lst o xs =>
    obtain ⟨o', xs', rfl, hx, rfl⟩ := frz_lst e2
    show Sim X P _ ((U1 D fun v _ => .ok v).nox.bind _)
    have hi := h1.sim hs (β := D) (P := fun a ρ' b => frz a = b ∧ ∃ s, St (γ1 s) ρ') (k := fun v _ => .ok v) (fun a ρ v s r hs => ⟨a, ρ, rfl, r.1, s, hs⟩)
    cases q : U1 D fun v _ => .ok v with
    | ok v =>
      rw [q] at hi
      obtain ⟨a, ρ1, e4, e5, s, e6⟩ := hi
      show Sim X P _ ((uSetI (.lst false xs) v y).bind fun z => k () z)
      cases v with
      | int kk =>
        cases frz_int e5
        obtain ⟨d1, k1, k2, k3⟩ := e6.get (h2 s)
        obtain ⟨o1, ys, rfl, hy, _⟩ := frz_lst k2
        have k3 : o1 = true := k3
        subst k3
        have hlen : ys.length = xs.length := by rw [← hy, frzL_len]
        unfold uSetI
        dsimp only
        rw [← hlen]
        cases q2 : ixN ys.length kk with
        | none => trivial
        | some j =>
          simp only [bnd, nox, setI, e1, e4, k1, if_pos hlk, q2]
          refine w () _ () _ trivial ((h3 s _ e6).set ⟨.lst true (ys.set j d), rfl, ?_, rfl⟩)
          show D.lst false (frz.frzL (ys.set j d)) = _
          rw [set_frz, hy, r.1]
      | _ => trivial
    | _ => trivial
  | _ => trivial
def uGetI (x : D) (k : Int) : R D := match x with
  | .lst _ xs => match ixN xs.length k with
    | some j => match xs[j]? with
      | some d => .ok d
      | none => .bad
    | none => .bad
  | _ => .bad
/-- xs[k] op= e, of ints; e changes nothing -/
theorem sk_augI {i : Nat} {p : List D → Option D} {mi : M D} {ma : M Opd} {j : Option Nat × Fg} {x : D} {fi : Fg} {γ1 : σ1 → Ga} {γ2 : σ1 → σ2 → Ga} {U1 : (β : Type) → (D → σ1 → R β) → R β} {U2 : σ1 → (β : Type) → (List D → σ2 → R β) → R β} (hp : Ins p .cold) (h0 : gat γ i = .val x .own)
    (h1 : CV X c γ mi (RD fi) γ1 U1) (h1' : ∀ s, gat (γ1 s) i = .val x .own) (h2 : ∀ s, CV X c (γ1 s) ma (OP j) (γ2 s) (U2 s)) (h2' : ∀ s t, gat (γ2 s t) i = .val x .own) (hl : c.lock.contains i = false) (hv : ∀ s t, okV (γ2 s t) [j] = true) :
    SK X c γ (sAugI i mi p ma) (fun p : D × σ1 × σ2 => gset (γ2 p.2.1 p.2.2) i (.val p.1 .own)) (fun β k => (uL x).bind fun _ => U1 β fun v s => (uI v).bind fun kk => (uGetI x kk).bind fun d0 => (uI d0).bind fun _ => U2 s β fun w t => (uP p (d0 :: mgV (γ2 s t) [j] w)).bind fun r => (uSetI x (.int kk) r).bind fun z => k (z, s, t)) := fun β Q n k w ρ hs => by
  obtain ⟨d0, e1, e2, e3⟩ := hs.get h0
  have hlk : i ∉ c.lock := fun h => by rw [List.contains_iff_mem.mpr h] at hl; cases hl
  by_cases hx : ∃ o xs, x = .lst o xs
  · obtain ⟨o, xs, rfl⟩ := hx
    obtain ⟨o', xs', rfl, hx, rfl⟩ := frz_lst e2
    have e : sSeq (sAugI i mi p ma) n c ρ = bnd mi (fun a => fun c ρ1 => match a with
      | .int k => match ownIx ρ1 i k with
        | some (_, _, d0) => bnd ma (fun o => bnd (gR o) fun y => fun c ρ3 => match p [d0, y] with
            | some d => match ownIx ρ3 i k with
              | some (ds, j, _) => if i ∉ c.lock then n c (ρ3.set i (some (.lst true (ds.set j d)))) else .bad
              | none => .bad
            | none => .bad) c ρ1
        | none => .bad
      | _ => .bad) c ρ := by
      simp only [sSeq, sAugI, bnd, e1]
      cases mi c ρ with
      | ok a ρ1 =>
        cases a with
        | int k =>
          dsimp only
          cases ownIx ρ1 i k with
          | some z =>
            obtain ⟨_, _, d0⟩ := z
            dsimp only
            cases ma c ρ1 with
            | ok o ρ2 =>
              dsimp only
              cases q : gR o c ρ2 with
              | ok y ρ3 =>
                dsimp only
                cases p [d0, y] with
                | some d =>
                  dsimp only
                  cases ownIx ρ3 i k with
                  | some z => obtain ⟨ds, j, _⟩ := z; dsimp only; rw [if_pos hlk, if_pos hlk]
                  | none => rfl
                | none => rfl
              | exc e ρ3 => exact absurd q gR_noexc
              | bad => rfl
            | _ => rfl
          | none => rfl
        | _ => rfl
      | _ => rfl
    rw [e]
    show Sim X Q _ (U1 β _)
    refine h1 _ _ Q _ _ (fun a ρ v s r hs => ?_) ρ hs
    cases v with
    | int kk =>
      rw [frz_int r.1]
      show Sim X Q _ ((uGetI (.lst false xs) kk).bind _)
      obtain ⟨d1, k1, k2, k3⟩ := hs.get (h1' s)
      obtain ⟨o1, ys, rfl, hy, _⟩ := frz_lst k2
      have k3 : o1 = true := k3
      subst k3
      have hlen : ys.length = xs.length := by rw [← hy, frzL_len]
      unfold uGetI
      dsimp only
      rw [← hlen]
      cases q : ixN ys.length kk with
      | none => trivial
      | some jj =>
        dsimp only
        have hg : xs[jj]? = (ys[jj]?).map frz := by rw [← hy, frzL_get]
        rw [hg]
        cases q2 : ys[jj]? with
        | none => trivial
        | some z =>
          show Sim X Q _ ((uI (frz z)).bind _)
          cases hz : frz z with
          | int zi =>
            have hz' := frz_int hz
            subst hz'
            have ho : ownIx ρ i kk = some (ys, jj, .int zi) := by
              unfold ownIx
              simp only [k1, q, q2]
              rfl
            simp only [ho]
            show Sim X Q _ (U2 s β _)
            refine h2 s _ _ Q _ _ (fun o ρ w' t r2 hs => ?_) ρ hs
            obtain ⟨d2, l1, l2, l3⟩ := hs.get (h2' s t)
            obtain ⟨o2, ws, rfl, hw, _⟩ := frz_lst l2
            have l3 : o2 = true := l3
            subst l3
            obtain ⟨ds, ρ', m1, m2, m3, m4, m5⟩ := get_ok gR_get (c := c) (os := [o]) hs r2 (hv s t)
            cases q3 : gR o c ρ with
            | ok y ρ2 =>
              have : ρ2 = ρ := by
                cases o with
                | val d => simp only [gR, pur] at q3; cases q3; rfl
                | slot i => simp only [gR, rVar] at q3; split at q3 <;> cases q3; rfl
              subst this
              simp only [gets, bnd, q3, pur] at m1
              injection m1 with m1 m1'
              subst m1; subst m1'
              have m2 : [frz y] = mgV (γ2 s t) [j] w' := m2
              rw [← m2]
              have hx' : [.int zi, frz y] = [.int zi, y].map frz := rfl
              rw [hx']
              unfold uP
              cases q4 : p ([.int zi, y].map frz) with
              | none => trivial
              | some d' =>
                obtain ⟨d, n1, n2, n3⟩ := hp _ d' q4
                have hlen2 : ws.length = xs.length := by rw [← hw, frzL_len]
                have hq5 : ws[jj]? = some (.int zi) := by
                  have a1 : (ws[jj]?).map frz = (ys[jj]?).map frz := by rw [← frzL_get, ← frzL_get, hw, hy]
                  rw [q2] at a1
                  cases q5 : ws[jj]? with
                  | none => rw [q5] at a1; cases a1
                  | some z2 => rw [q5] at a1; injection a1 with a1; rw [frz_int a1]
                have ho2 : ownIx ρ2 i kk = some (ws, jj, .int zi) := by
                  unfold ownIx
                  simp only [l1, hlen2, ← hlen, q, hq5]
                  rfl
                show Sim X Q _ ((uSetI (.lst false xs) (.int kk) (frz d')).bind _)
                unfold uSetI
                dsimp only
                rw [← hlen, q]
                simp only [bnd, q3, n1, ho2, if_pos hlk]
                refine w (_, s, t) _ (m4.set ⟨.lst true (ws.set jj d), rfl, ?_, rfl⟩)
                show D.lst false (frz.frzL (ws.set jj d)) = _
                rw [set_frz, hw, n2]
            | exc e ρ2 => simp only [gets, bnd, q3] at m1; cases m1
            | bad => simp only [gets, bnd, q3] at m1; cases m1
          | _ => trivial
    | _ => trivial
  · cases x with
    | lst o xs => exact absurd ⟨o, xs, rfl⟩ hx
    | _ => trivial
end
end U
end Y

end
section
set_option Elab.async false
set_option linter.all false
set_option maxRecDepth 100000
set_option autoImplicit false
/-! U9: rules in the form that ugen.py prints: md tells the slots by the state, tf the state by the slots. -/
namespace Y
namespace U
open PySem L2
/-- of what is no list -/
def pAddN : List D → Option D
  | [.int a, .int b] => some (.int (a + b))
  | [.str a, .str b] => if a.length + b.length ≤ LN then some (.str (a ++ b)) else none
  | [.tup xs, .tup ys] => if xs.length + ys.length ≤ LN then some (.tup (xs ++ ys)) else none
  | _ => none
def pAddL : List D → Option D
  | [.lst _ xs, .lst _ ys] => if xs.length + ys.length ≤ LN then some (.lst false (xs ++ ys)) else none
  | _ => none
theorem n_addN {get : Opd → M D} {fs : List Fg} : Lk get pAdd pAddN fs .cold := fun ds d' _ _ h => by
  generalize e : ds.map frz = es at h
  unfold pAddN at h
  split at h
  · obtain ⟨x, y, rfl, h1, h2⟩ := map2 e
    cases frz_int h1; cases frz_int h2
    exact ⟨_, rfl, by rw [← Option.some.inj h], rfl⟩
  · obtain ⟨x, y, rfl, h1, h2⟩ := map2 e
    cases frz_str h1; cases frz_str h2
    split at h
    · exact ⟨.str _, by simp only [pAdd]; rw [if_pos (by assumption)], by rw [← Option.some.inj h], rfl⟩
    · cases h
  · obtain ⟨x, y, rfl, h1, h2⟩ := map2 e
    cases frz_tup h1; cases frz_tup h2
    split at h
    · exact ⟨.tup _, by simp only [pAdd]; rw [if_pos (by assumption)], by rw [← Option.some.inj h], rfl⟩
    · cases h
  · cases h
theorem n_addL {get : Opd → M D} {fs : List Fg} : Lk get pAdd pAddL fs .own := fun ds d' _ _ h => by
  generalize e : ds.map frz = es at h
  unfold pAddL at h
  split at h
  · obtain ⟨x, y, rfl, h1, h2⟩ := map2 e
    obtain ⟨o1, xs, rfl, rfl, _⟩ := frz_lst h1
    obtain ⟨o2, ys, rfl, rfl, _⟩ := frz_lst h2
    split at h
    · rename_i hl
      rw [frzL_len, frzL_len] at hl
      refine ⟨.lst true (xs ++ ys), by simp only [pAdd]; rw [if_pos hl], ?_, rfl⟩
      rw [← Option.some.inj h]
      show D.lst false (frz.frzL (xs ++ ys)) = .lst false (frz.frzL (frz.frzL xs ++ frz.frzL ys))
      rw [frzL_app, frzL_app, frzL2, frzL2]
    · cases h
  · cases h
def pMulN : List D → Option D
  | [.int a, .int b] => if cMul a b = true then some (.int (a * b)) else none
  | _ => none
theorem n_mulN {get : Opd → M D} {fs : List Fg} : Lk get pMul pMulN fs .cold := fun ds d' _ _ h => by
  generalize e : ds.map frz = es at h
  unfold pMulN at h
  split at h
  · obtain ⟨x, y, rfl, h1, h2⟩ := map2 e
    cases frz_int h1; cases frz_int h2
    split at h
    · exact ⟨.int _, by simp only [pMul]; rw [if_pos (by assumption)], by rw [← Option.some.inj h], rfl⟩
    · cases h
  · cases h
def pSlN (lo hi : Option Int) : List D → Option D
  | [.tup xs] => some (.tup (cutD xs lo hi))
  | [.str x] => if x.length ≤ LN then some (.str (Txt.slice x lo hi)) else none
  | _ => none
def pSlL (lo hi : Option Int) : List D → Option D
  | [.lst _ xs] => some (.lst false (cutD xs lo hi))
  | _ => none
theorem n_slN (lo hi : Option Int) {get : Opd → M D} {fs : List Fg} : Lk get (pSl lo hi) (pSlN lo hi) fs .cold := fun ds d' _ _ h => by
  generalize e : ds.map frz = es at h
  unfold pSlN at h
  split at h
  · obtain ⟨x, rfl, h1⟩ := map1 e
    cases frz_tup h1
    exact ⟨_, rfl, by rw [← Option.some.inj h], rfl⟩
  · obtain ⟨x, rfl, h1⟩ := map1 e
    cases frz_str h1
    split at h
    · exact ⟨.str _, by simp only [pSl]; rw [if_pos (by assumption)], by rw [← Option.some.inj h], rfl⟩
    · cases h
  · cases h
theorem n_slL (lo hi : Option Int) {get : Opd → M D} {fs : List Fg} : Lk get (pSl lo hi) (pSlL lo hi) fs .own := fun ds d' _ _ h => by
  generalize e : ds.map frz = es at h
  unfold pSlL at h
  split at h
  · obtain ⟨x, rfl, h1⟩ := map1 e
    obtain ⟨o, xs, rfl, rfl, rfl⟩ := frz_lst h1
    refine ⟨.lst true (cutD xs lo hi), rfl, ?_, rfl⟩
    rw [← Option.some.inj h, cutD_frz]
    show D.lst false _ = .lst false _
    rw [frzL2]
  · cases h
section
variable {α' α1 ξ ξ1 σ σ1 σ2 σ3 τ β β1 : Type} {X : Y.Env → Prop} {c : Ctx} {γ : Ga} {Q : Fl → Y.Env → β → Prop}
theorem cv_sl {p q : Option Int → Option Int → List D → Option D} {f : Fg} {ma : M Opd} {ml mh : M (Option Int)} {i : Option Nat × Fg} {γ1 : σ1 → Ga} {γ2 : σ1 → σ2 → Ga} {γ3 : σ1 → σ2 → σ3 → Ga} {U1 : (β : Type) → (List D → σ1 → R β) → R β} {U2 : σ1 → (β : Type) → (Option Int → σ2 → R β) → R β} {U3 : σ1 → σ2 → (β : Type) → (Option Int → σ3 → R β) → R β}
    (hp : ∀ lo hi s t u, Lk gC (p lo hi) (q lo hi) (mgF (γ3 s t u) [i]) f)
    (h1 : CV X c γ ma (OP i) γ1 U1) (h2 : ∀ s, CV X c (γ1 s) ml Eq (γ2 s) (U2 s)) (h3 : ∀ s t, CV X c (γ2 s t) mh Eq (γ3 s t) (U3 s t)) (hv : ∀ s t u, okV (γ3 s t u) [i] = true) :
    CV X c γ (mSlice p ma ml mh) (RD f) (fun p : σ1 × σ2 × σ3 => γ3 p.1 p.2.1 p.2.2) (fun β k => U1 β fun v s => U2 s β fun lo t => U3 s t β fun hi u => (uP (q lo hi) (mgV (γ3 s t u) [i] v)).bind fun r => k r (s, t, u)) := fun _ _ P g k w ρ hs => by
  unfold mSlice
  rw [bnd_assoc]
  refine h1 _ _ P _ _ (fun o ρ v s r hs => ?_) ρ hs
  rw [bnd_assoc]
  refine h2 s _ _ P _ _ (fun lo ρ lo' t r2 hs => ?_) ρ hs
  subst r2
  rw [bnd_assoc]
  refine h3 s t _ _ P _ _ (fun hi ρ hi' u r3 hs => ?_) ρ hs
  subst r3
  obtain ⟨ds, ρ', k1, k2, k3, k4, k5⟩ := get_ok gC_get (c := c) hs r (hv s t u)
  unfold uP
  rw [← k2]
  cases q : q lo hi (ds.map frz) with
  | none => trivial
  | some d' =>
    obtain ⟨d, j1, j2, j3⟩ := hp lo hi s t u ds d' k5 k3 q
    have : bnd (mGets gC (p lo hi) [o]) g c ρ = g d c ρ' := by simp only [mGets, bnd, k1, j1, ofO]
    rw [this]
    exact w d ρ' _ (s, t, u) ⟨j2, j3⟩ k4
theorem x_and (md : τ → Ga → Ga) (tf : Ga → τ) {m n : M Bool} {γ1 : σ1 → Ga} {γ2 : σ1 → σ2 → Ga} {U1 : (β : Type) → (Bool → σ1 → R β) → R β} {U2 : σ1 → (β : Type) → (Bool → σ2 → R β) → R β}
    (h1 : CV X c γ m Eq γ1 U1) (h2 : ∀ s, CV X c (γ1 s) n Eq (γ2 s) (U2 s)) (hl0 : ∀ s, Le (γ1 s) (md (tf (γ1 s)) (γ1 s))) (hl : ∀ s t, Le (γ2 s t) (md (tf (γ2 s t)) (γ1 s))) :
    CV X c γ (mAnd m n) Eq (fun p : σ1 × τ => md p.2 (γ1 p.1)) (fun β k => U1 β fun b s => (if b then U2 s (Bool × τ) fun b' t => .ok (b', tf (γ2 s t)) else .ok (false, tf (γ1 s))).bind fun p => k p.1 (s, p.2)) :=
  cv_andS (fun s t => md t (γ1 s)) (fun s => tf (γ1 s)) (fun s t => tf (γ2 s t)) h1 h2 hl0 hl
theorem x_or (md : τ → Ga → Ga) (tf : Ga → τ) {m n : M Bool} {γ1 : σ1 → Ga} {γ2 : σ1 → σ2 → Ga} {U1 : (β : Type) → (Bool → σ1 → R β) → R β} {U2 : σ1 → (β : Type) → (Bool → σ2 → R β) → R β}
    (h1 : CV X c γ m Eq γ1 U1) (h2 : ∀ s, CV X c (γ1 s) n Eq (γ2 s) (U2 s)) (hl0 : ∀ s, Le (γ1 s) (md (tf (γ1 s)) (γ1 s))) (hl : ∀ s t, Le (γ2 s t) (md (tf (γ2 s t)) (γ1 s))) :
    CV X c γ (mOr m n) Eq (fun p : σ1 × τ => md p.2 (γ1 p.1)) (fun β k => U1 β fun b s => (if b then .ok (true, tf (γ1 s)) else U2 s (Bool × τ) fun b' t => .ok (b', tf (γ2 s t))).bind fun p => k p.1 (s, p.2)) :=
  cv_orS (fun s t => md t (γ1 s)) (fun s => tf (γ1 s)) (fun s t => tf (γ2 s t)) h1 h2 hl0 hl
theorem x_if (md : τ → Ga → Ga) (tf : Ga → τ) {t : M Bool} {m n : M D} {f1 f2 f : Fg} {γ1 : σ1 → Ga} {γ2 : σ1 → σ2 → Ga} {γ3 : σ1 → σ3 → Ga} {U1 : (β : Type) → (Bool → σ1 → R β) → R β} {U2 : σ1 → (β : Type) → (D → σ2 → R β) → R β} {U3 : σ1 → (β : Type) → (D → σ3 → R β) → R β}
    (h1 : CV X c γ t Eq γ1 U1) (h2 : ∀ s, CV X c (γ1 s) m (RD f1) (γ2 s) (U2 s)) (h3 : ∀ s, CV X c (γ1 s) n (RD f2) (γ3 s) (U3 s)) (e1 : FLe f1 f) (e2 : FLe f2 f) (hl2 : ∀ s t, Le (γ2 s t) (md (tf (γ2 s t)) (γ1 s))) (hl3 : ∀ s t, Le (γ3 s t) (md (tf (γ3 s t)) (γ1 s))) :
    CV X c γ (mIf t m n) (RD f) (fun p : σ1 × τ => md p.2 (γ1 p.1)) (fun β k => U1 β fun b s => (if b then U2 s (D × τ) fun x t => .ok (x, tf (γ2 s t)) else U3 s (D × τ) fun x t => .ok (x, tf (γ3 s t))).bind fun p => k p.1 (s, p.2)) :=
  cv_ifS (fun s t => md t (γ1 s)) (fun s t => tf (γ2 s t)) (fun s t => tf (γ3 s t)) h1 h2 h3 e1 e2 hl2 hl3
theorem x_comp (md : τ → Ga → Ga) (tf : Ga → τ) {mi : M Sr} {lk vs : List Nat} {n : Nat} {t : D → M Unit} {tt : M Bool} {te : M D} {γ1 : σ1 → Ga} {U1 : (β : Type) → (List D → σ1 → R β) → R β} {B : σ1 → D → τ → R (Option D × τ)}
    (h1 : CV X c γ mi (RSr lk) γ1 U1) (hb : ∀ s x st, frz x = x → CB ⟨protC n vs, lk ++ c.lock⟩ (gwipe (md st (γ1 s)) vs) t tt te (fun st => gany (md st (γ1 s)) vs) x (B s x st))
    (hn : ∀ s, (γ1 s).length = n) (hc : ∀ s, gcold (γ1 s) vs = true) (h0 : ∀ s, Le (γ1 s) (md (tf (γ1 s)) (γ1 s))) (hv : ∀ s st, gsame (md st (γ1 s)) (γ1 s) vs) :
    CV X c γ (mComp mi vs t tt te) (RD .own) (fun p : σ1 × τ => md p.2 (γ1 p.1)) (fun β k => U1 β fun xs s => (uCompS (B s) xs (tf (γ1 s))).bind fun r => k r.1 (s, r.2)) :=
  cv_compS (fun s t => md t (γ1 s)) (fun s => tf (γ1 s)) h1 hb hn hc h0 hv
theorem x_cbif (tf : Ga → τ) {t : D → M Unit} {tt : M Bool} {te : M D} {x : D} {f : Fg} {γ1 : σ1 → Ga} {γ2 : σ1 → σ2 → Ga} {γ3 : σ1 → σ2 → σ3 → Ga} {γe : τ → Ga} {U1 : (β : Type) → (Unit → σ1 → R β) → R β} {U2 : σ1 → (β : Type) → (Bool → σ2 → R β) → R β} {U3 : σ1 → σ2 → (β : Type) → (D → σ3 → R β) → R β}
    (h1 : CV XT c γ (nox (t x)) RU γ1 U1) (h2 : ∀ s, CV XT c (γ1 s) tt Eq (γ2 s) (U2 s)) (h3 : ∀ s s2, CV XT c (γ2 s s2) te (RD f) (γ3 s s2) (U3 s s2)) (l2 : ∀ s s2, Le (γ2 s s2) (γe (tf (γ2 s s2)))) (l3 : ∀ s s2 s3, Le (γ3 s s2 s3) (γe (tf (γ3 s s2 s3)))) :
    CB c γ t tt te γe x (U1 _ fun _ s => U2 s _ fun b s2 => if b then U3 s s2 _ fun y s3 => .ok (some y, tf (γ3 s s2 s3)) else .ok (none, tf (γ2 s s2))) := cb_if (fun s s2 => tf (γ2 s s2)) (fun s s2 s3 => tf (γ3 s s2 s3)) h1 h2 h3 l2 l3
theorem x_cball (tf : Ga → τ) {t : D → M Unit} {te : M D} {x : D} {f : Fg} {γ1 : σ1 → Ga} {γ3 : σ1 → σ3 → Ga} {γe : τ → Ga} {U1 : (β : Type) → (Unit → σ1 → R β) → R β} {U3 : σ1 → (β : Type) → (D → σ3 → R β) → R β}
    (h1 : CV XT c γ (nox (t x)) RU γ1 U1) (h3 : ∀ s, CV XT c (γ1 s) te (RD f) (γ3 s) (U3 s)) (l3 : ∀ s s3, Le (γ3 s s3) (γe (tf (γ3 s s3)))) :
    CB c γ t tAll te γe x (U1 _ fun _ s => U3 s _ fun y s3 => .ok (some y, tf (γ3 s s3))) := cb_all (fun s s3 => tf (γ3 s s3)) h1 h3 l3
theorem x_skif (md : τ → Ga → Ga) {t : M Bool} {a b : M Fl} {γ1 : σ1 → Ga} {U1 : (β : Type) → (Bool → σ1 → R β) → R β} {ua ub : σ1 → R τ} (h1 : CV X c γ t Eq γ1 U1) (ha : ∀ s, SS X c (γ1 s) (QJ fun t => md t (γ1 s)) a (ua s)) (hb : ∀ s, SS X c (γ1 s) (QJ fun t => md t (γ1 s)) b (ub s)) :
    SK X c γ (sIf t a b) (fun p : σ1 × τ => md p.2 (γ1 p.1)) (fun β k => U1 β fun v s => (if v then ua s else ub s).bind fun t => k (s, t)) := sk_if (fun s t => md t (γ1 s)) h1 ha hb
theorem x_endJ (tf : Ga → τ) {γ' : τ → Ga} (h : Le γ (γ' (tf γ))) : SS X c γ (QJ γ') sSkip (.ok (tf γ)) := ss_endJ h
theorem x_endN (tf : Ga → τ) {γ' : τ → Ga} (h : Le γ (γ' (tf γ))) : SS X c γ (QN γ') sSkip (.ok (tf γ)) := ss_endN h
theorem x_contN (tf : Ga → τ) {γ' : τ → Ga} (h : Le γ (γ' (tf γ))) : SS X c γ (QN γ') (pur .cont) (.ok (tf γ)) := ss_contN h
theorem x_endL (tf : Ga → τ) {γ' : τ → Ga} (h : Le γ (γ' (tf γ))) : SS X c γ (QL γ' Q) sSkip (.ok (.next (tf γ))) := ss_endL h
theorem x_contL (tf : Ga → τ) {γ' : τ → Ga} (h : Le γ (γ' (tf γ))) : SS X c γ (QL γ' Q) (pur .cont) (.ok (.next (tf γ))) := ss_contL h
theorem x_brkL (tf : Ga → τ) {γ' : τ → Ga} (h : Le γ (γ' (tf γ))) : SS X c γ (QL γ' Q) (pur .brk) (.ok (.brk (tf γ))) := ss_brkL h
theorem x_for (md : τ → Ga → Ga) (tf : Ga → τ) {mi : M Sr} {t : D → M Unit} {b : M Fl} {lk : List Nat} {γ1 : σ1 → Ga} {U1 : (β : Type) → (List D → σ1 → R β) → R β} {B : σ1 → D → τ → R τ}
    (h1 : CV X c γ mi (RSr lk) γ1 U1) (h0 : ∀ s, Le (γ1 s) (md (tf (γ1 s)) (γ1 s))) (hb : ∀ s x st, frz x = x → ∀ ρ, All2 Fits (md st (γ1 s)) ρ → Sim X (QN fun t => md t (γ1 s)) (bnd (nox (t x)) (fun _ => b) ⟨c.prot, lk ++ c.lock⟩ ρ) (B s x st)) :
    SK X c γ (sFor mi t b) (fun p : σ1 × τ => md p.2 (γ1 p.1)) (fun β k => U1 β fun xs s => (foldU (B s) xs (tf (γ1 s))).bind fun st => k (s, st)) := sk_for (fun s t => md t (γ1 s)) (fun s => tf (γ1 s)) h1 h0 hb
theorem x_forX (md : τ → Ga → Ga) (tf : Ga → τ) {mi : M Sr} {t : D → M Unit} {b n : M Fl} {lk : List Nat} {γ1 : σ1 → Ga} {U1 : (β : Type) → (List D → σ1 → R β) → R β} {B : σ1 → D → τ → R (Step β τ)} {k : σ1 → τ → R β}
    (h1 : CV X c γ mi (RSr lk) γ1 U1) (h0 : ∀ s, Le (γ1 s) (md (tf (γ1 s)) (γ1 s))) (hb : ∀ s x st, frz x = x → ∀ ρ, All2 Fits (md st (γ1 s)) ρ → Sim X (QL (fun t => md t (γ1 s)) Q) (bnd (nox (t x)) (fun _ => b) ⟨c.prot, lk ++ c.lock⟩ ρ) (B s x st))
    (hk : ∀ s st, SS X c (md st (γ1 s)) Q n (k s st)) :
    SS X c γ Q (sSeq (sFor mi t b) n) (U1 β fun xs s => (forU (B s) xs (tf (γ1 s))).bind fun j => jn j fun st => k s st) := ss_for (fun s t => md t (γ1 s)) (fun s => tf (γ1 s)) h1 h0 hb hk
theorem x_while (md : τ → Ga → Ga) (tf : Ga → τ) {t : M Bool} {b n : M Fl} {γt : τ → σ1 → Ga} {Ut : τ → (β : Type) → (Bool → σ1 → R β) → R β} {B : τ → R (Step β τ)} {k : τ → R β}
    (h0 : Le γ (md (tf γ) γ)) (ht : ∀ st, CV X c (md st γ) t Eq (γt st) (Ut st)) (hl : ∀ st s, Le (γt st s) (md st γ)) (hb : ∀ st, SS X c (md st γ) (QL (fun t => md t γ) Q) b (B st)) (hk : ∀ st, SS X c (md st γ) Q n (k st)) :
    SS X c γ Q (sSeq (sWhile t b) n) ((whileU (fun st => Ut st Bool fun b _ => .ok b) B (tf γ)).bind fun j => jn j fun st => k st) := ss_while (fun t => md t γ) (tf γ) h0 ht hl hb hk
theorem x_andV {m n : M D} {f1 f2 f : Fg} {γ1 : σ1 → Ga} {γ2 : σ1 → σ2 → Ga} {U1 : (β : Type) → (D → σ1 → R β) → R β} {U2 : σ1 → (β : Type) → (D → σ2 → R β) → R β}
    (h1 : CV X c γ m (RD f1) γ1 U1) (h2 : ∀ s, CV X c (γ1 s) n (RD f2) (γ2 s) (U2 s)) (hl : ∀ s t, Le (γ2 s t) (γ1 s)) (hf : FLe f2 f) (h0 : ∀ b, FgOk f (.bl b)) :
    CV X c γ (mAndV m n) (RD f) γ1 (fun β k => U1 β fun x s => (uB x).bind fun b => (if b then U2 s D fun b' _ => .ok b' else .ok (.bl false)).bind fun b => k b s) := fun _ _ P g k w ρ hs => by
  unfold mAndV
  rw [bnd_assoc]
  refine h1 _ _ P _ _ (fun d ρ x s r hs => ?_) ρ hs
  cases x with
  | bl b =>
    rw [frz_bl r.1]
    cases b with
    | true =>
      refine Sim.bnd (P := fun a ρ b => RD f a b ∧ All2 Fits (γ1 s) ρ) ?_ (fun a ρ b r => w a ρ b s r.1 r.2)
      exact (h2 s).sim hs _ _ fun a ρ x t r hs => ⟨a, ρ, rfl, ⟨r.1, hf _ r.2⟩, hl s t ρ hs⟩
    | false => exact w _ ρ _ s ⟨rfl, h0 false⟩ hs
  | _ => trivial
theorem x_orV {m n : M D} {f1 f2 f : Fg} {γ1 : σ1 → Ga} {γ2 : σ1 → σ2 → Ga} {U1 : (β : Type) → (D → σ1 → R β) → R β} {U2 : σ1 → (β : Type) → (D → σ2 → R β) → R β}
    (h1 : CV X c γ m (RD f1) γ1 U1) (h2 : ∀ s, CV X c (γ1 s) n (RD f2) (γ2 s) (U2 s)) (hl : ∀ s t, Le (γ2 s t) (γ1 s)) (hf : FLe f2 f) (h0 : ∀ b, FgOk f (.bl b)) :
    CV X c γ (mOrV m n) (RD f) γ1 (fun β k => U1 β fun x s => (uB x).bind fun b => (if b then .ok (.bl true) else U2 s D fun b' _ => .ok b').bind fun b => k b s) := fun _ _ P g k w ρ hs => by
  unfold mOrV
  rw [bnd_assoc]
  refine h1 _ _ P _ _ (fun d ρ x s r hs => ?_) ρ hs
  cases x with
  | bl b =>
    rw [frz_bl r.1]
    cases b with
    | false =>
      refine Sim.bnd (P := fun a ρ b => RD f a b ∧ All2 Fits (γ1 s) ρ) ?_ (fun a ρ b r => w a ρ b s r.1 r.2)
      exact (h2 s).sim hs _ _ fun a ρ x t r hs => ⟨a, ρ, rfl, ⟨r.1, hf _ r.2⟩, hl s t ρ hs⟩
    | true => exact w _ ρ _ s ⟨rfl, h0 true⟩ hs
  | _ => trivial
theorem ok_c : ∀ b, FgOk .cold (.bl b) := fun _ => rfl
theorem ok_a : ∀ b, FgOk .any (.bl b) := fun _ => trivial
theorem cv_mLst {m : M D} {f : Fg} {γ1 : σ1 → Ga} {U1 : (β : Type) → (D → σ1 → R β) → R β} (h : CV X c γ m (RD f) γ1 U1) : CV X c γ (mLst m) (RD f) γ1 (fun β k => U1 β fun x s => (uL x).bind fun _ => k x s) := fun _ _ P g k w ρ hs => by
  unfold mLst
  rw [bnd_assoc]
  refine h _ _ P _ _ (fun d ρ x s r hs => ?_) ρ hs
  cases x with
  | lst o xs =>
    obtain ⟨o', xs', rfl, _, _⟩ := frz_lst r.1
    exact w _ ρ _ s r hs
  | _ => trivial
theorem x_ret0 {m : M D} {f ro : Fg} {prs : List Bool} {out : D → List Sl} {γ1 : σ1 → Ga} {U1 : (β : Type) → (D → σ1 → R β) → R β} (h1 : CV X c γ m (RD f) γ1 U1) (hf : FLe f ro) (ho : ∀ x s, OutL prs (γ1 s) (out x)) :
    SS X c γ (QF prs (fun b => b) ro out) (sRet m) (U1 D fun x s => .ok x) := ss_ret (v := fun b => b) (fun x s => x) h1 (fun _ _ => rfl) hf ho
theorem x_ret1 (tf : Ga → τ) {m : M D} {f ro : Fg} {prs : List Bool} {out : D × τ → List Sl} {γ1 : σ1 → Ga} {U1 : (β : Type) → (D → σ1 → R β) → R β} (h1 : CV X c γ m (RD f) γ1 U1) (hf : FLe f ro) (ho : ∀ x s, OutL prs (γ1 s) (out (x, tf (γ1 s)))) :
    SS X c γ (QF prs Prod.fst ro out) (sRet m) (U1 (D × τ) fun x s => .ok (x, tf (γ1 s))) := ss_ret (v := Prod.fst) (fun x s => (x, tf (γ1 s))) h1 (fun _ _ => rfl) hf ho
theorem x_end0 {ro : Fg} {prs : List Bool} {out : D → List Sl} (hf : FLe .cold ro) (ho : OutL prs γ (out .non)) : SS X c γ (QF prs (fun b => b) ro out) sSkip (.ok .non) := ss_end (v := fun b => b) .non rfl hf ho
theorem x_end1 (tf : Ga → τ) {ro : Fg} {prs : List Bool} {out : D × τ → List Sl} (hf : FLe .cold ro) (ho : OutL prs γ (out (.non, tf γ))) : SS X c γ (QF prs Prod.fst ro out) sSkip (.ok (.non, tf γ)) := ss_end (v := Prod.fst) (.non, tf γ) rfl hf ho
theorem x_retN0 {ro : Fg} {prs : List Bool} {out : D → List Sl} (hf : FLe .cold ro) (ho : OutL prs γ (out .non)) : SS X c γ (QF prs (fun b => b) ro out) (pur (.ret .non)) (.ok .non) := ss_retN (v := fun b => b) .non rfl hf ho
/-- a last statement -/
theorem x_last {m : M Fl} {u : R β} (h : SS X c γ Q (sSeq m sSkip) u) : SS X c γ Q m u := by rwa [seq_skip] at h
theorem rdc {x : D} (h : frz x = x) : RD .cold x x := ⟨h, cold_of h⟩
end
end U
end Y

end
section
set_option Elab.async false
set_option linter.all false
set_option maxRecDepth 100000
set_option autoImplicit false
/-! U10: the rules as ugen.py prints them: parts that change nothing (p_), statements with named values (q_). -/
namespace Y
namespace U
open PySem L2
section
variable {α α' α1 ξ ξ1 σ σ1 σ2 σ3 τ τ1 β β1 : Type} {X : Y.Env → Prop} {c : Ctx} {γ : Ga} {Q : Fl → Y.Env → β → Prop}
/-- a part that changes nothing -/
abbrev EP (X : Y.Env → Prop) (c : Ctx) (γ : Ga) (m : M α') (Rl : α' → ξ → Prop) (U : (β : Type) → (ξ → R β) → R β) : Prop := CV X c γ m Rl (fun _ : Unit => γ) (fun β k => U β fun x => k x ())
theorem ep {m : M α'} {Rl : α' → ξ → Prop} {γ' : σ → Ga} {U : (β : Type) → (ξ → σ → R β) → R β} (h : CV X c γ m Rl γ' U) (w : ∀ s, Le (γ' s) γ) : EP X c γ m Rl (fun β k => U β fun x _ => k x) := cv_st h (fun _ : Unit => γ) (fun _ => ()) w
abbrev UD := (β : Type) → (D → R β) → R β
abbrev UL := (β : Type) → (List D → R β) → R β
theorem p_var {i : Nat} {x : D} (h : gat γ i = .val x .cold) : EP X c γ (eVar i) (RD .cold) (fun _ k => k x) := cv_varC h
theorem p_con {d : D} (h : frz d = d := by rfl) (h2 : isOwn d = false := by rfl) : EP X c γ (pur d) (RD .cold) (fun _ k => k d) := cv_con h h2
theorem p_oN {i : Nat} {x : D} {f : Fg} (h : gat γ i = .val x f) : EP X c γ (oN i) (OP (some i, .any)) (fun _ k => k []) := cv_oN h
theorem p_oE {m : M D} {f : Fg} {U : UD} (h : EP X c γ m (RD f) U) : EP X c γ (oE m) (OP (none, f)) (fun β k => U β fun x => k [x]) := cv_oE h
theorem p_nil : EP X c γ (pur []) (OpL []) (fun _ k => k []) := ol_nil
theorem p_cons {mo : M Opd} {mos : M (List Opd)} {i : Option Nat × Fg} {is : List (Option Nat × Fg)} {U1 U2 : UL} (h1 : EP X c γ mo (OP i) U1) (h2 : EP X c γ mos (OpL is) U2) :
    EP X c γ (bnd mo fun o => bnd mos fun os => pur (o :: os)) (OpL (i :: is)) (fun β k => U1 β fun v => U2 β fun vs => k (v ++ vs)) := ep (ol_cons h1 fun _ => h2) fun _ => Le.rfl
theorem p_prim {p q : List D → Option D} {f : Fg} {mos : M (List Opd)} {is : List (Option Nat × Fg)} {U1 : UL} (hp : Lk gC p q (mgF γ is) f) (h : EP X c γ mos (OpL is) U1) (hv : okV γ is = true) :
    EP X c γ (mPrim gC p mos) (RD f) (fun β k => U1 β fun vs => (uP q (mgV γ is vs)).bind fun r => k r) := ep (cv_prim (fun _ => hp) h fun _ => hv) fun _ => Le.rfl
theorem p_bin {p q : List D → Option D} {f : Fg} {ma mb : M Opd} {i j : Option Nat × Fg} {U1 U2 : UL} (hp : Lk gC p q (mgF γ [i, j]) f) (h1 : EP X c γ ma (OP i) U1) (h2 : EP X c γ mb (OP j) U2) (hv : okV γ [i, j] = true) :
    EP X c γ (mBin gC p ma mb) (RD f) (fun β k => U1 β fun v => U2 β fun w => (uP q (mgV γ [i, j] (v ++ (w ++ [])))).bind fun r => k r) := ep (cv_bin (fun _ _ => hp) h1 (fun _ => h2) fun _ _ => hv) fun _ => Le.rfl
theorem p_unG {get : Opd → M D} (hg : GetOk get) {p q : List D → Option D} {f : Fg} {ma : M Opd} {i : Option Nat × Fg} {U1 : UL} (hp : Lk get p q (mgF γ [i]) f) (h1 : EP X c γ ma (OP i) U1) (hv : okV γ [i] = true) :
    EP X c γ (mUn get p ma) (RD f) (fun β k => U1 β fun v => (uP q (mgV γ [i] (v ++ []))).bind fun r => k r) := ep (cv_unG hg (fun _ => hp) h1 fun _ => hv) fun _ => Le.rfl
theorem p_vnil : EP X c γ (pur []) (RLf []) (fun _ k => k []) := vl_nil
theorem p_vcons {m : M D} {ms : M (List D)} {f : Fg} {fs : List Fg} {U1 : UD} {U2 : UL} (h1 : EP X c γ m (RD f) U1) (h2 : EP X c γ ms (RLf fs) U2) :
    EP X c γ (bnd m fun o => bnd ms fun os => pur (o :: os)) (RLf (f :: fs)) (fun β k => U1 β fun v => U2 β fun vs => k (v :: vs)) := ep (vl_cons h1 fun _ => h2) fun _ => Le.rfl
theorem p_vnilA : EP X c γ (pur []) RLa (fun _ k => k []) := vl_nilA
theorem p_vconsA {m : M D} {ms : M (List D)} {f : Fg} {U1 : UD} {U2 : UL} (h1 : EP X c γ m (RD f) U1) (h2 : EP X c γ ms RLa U2) :
    EP X c γ (bnd m fun o => bnd ms fun os => pur (o :: os)) RLa (fun β k => U1 β fun v => U2 β fun vs => k (v :: vs)) := ep (vl_consA h1 fun _ => h2) fun _ => Le.rfl
theorem p_vstar {m : M D} {ms : M (List D)} {f : Fg} {U1 : UD} {U2 : UL} (h1 : EP X c γ m (RD f) U1) (h2 : EP X c γ ms RLa U2) :
    EP X c γ (mStar m ms) RLa (fun β k => U1 β fun v => (uParts v).bind fun ps => U2 β fun vs => k (ps ++ vs)) := ep (vl_star h1 fun _ => h2) fun _ => Le.rfl
theorem p_tup {ms : M (List D)} {fs : List Fg} {U1 : UL} (h : EP X c γ ms (RLf fs) U1) (hn : Nat.ble fs.length LN = true := by rfl) : EP X c γ (tupD ms) (RD .cold) (fun β k => U1 β fun xs => k (.tup xs)) := tup_n h hn
theorem p_lst {ms : M (List D)} {fs : List Fg} {U1 : UL} (h : EP X c γ ms (RLf fs) U1) (hn : Nat.ble fs.length LN = true := by rfl) : EP X c γ (lstD ms) (RD .own) (fun β k => U1 β fun xs => k (.lst false xs)) := lst_n h hn
theorem p_tupA {ms : M (List D)} {U1 : UL} (h : EP X c γ ms RLa U1) : EP X c γ (tupD ms) (RD .cold) (fun β k => U1 β fun xs => (uTup xs).bind fun r => k r) := tup_a h
theorem p_lstA {ms : M (List D)} {U1 : UL} (h : EP X c γ ms RLa U1) : EP X c γ (lstD ms) (RD .own) (fun β k => U1 β fun xs => (uLst xs).bind fun r => k r) := lst_a h
theorem p_mB {m : M D} {f : Fg} {U1 : UD} (h : EP X c γ m (RD f) U1) : EP X c γ (mB m) Eq (fun β k => U1 β fun x => (uB x).bind fun b => k b) := cv_mB h
theorem p_not {m : M Bool} {U1 : (β : Type) → (Bool → R β) → R β} (h : EP X c γ m Eq U1) : EP X c γ (mNot m) Eq (fun β k => U1 β fun b => k (!b)) := cv_not h
theorem p_and {m n : M Bool} {U1 U2 : (β : Type) → (Bool → R β) → R β} (h1 : EP X c γ m Eq U1) (h2 : EP X c γ n Eq U2) :
    EP X c γ (mAnd m n) Eq (fun β k => U1 β fun b => (if b then U2 Bool fun b' => .ok b' else .ok false).bind fun b => k b) := cv_and h1 (fun _ => h2) fun _ _ => Le.rfl
theorem p_or {m n : M Bool} {U1 U2 : (β : Type) → (Bool → R β) → R β} (h1 : EP X c γ m Eq U1) (h2 : EP X c γ n Eq U2) :
    EP X c γ (mOr m n) Eq (fun β k => U1 β fun b => (if b then .ok true else U2 Bool fun b' => .ok b').bind fun b => k b) := cv_or h1 (fun _ => h2) fun _ _ => Le.rfl
theorem p_if {t : M Bool} {m n : M D} {f1 f2 f : Fg} {U1 : (β : Type) → (Bool → R β) → R β} {U2 U3 : UD} (h1 : EP X c γ t Eq U1) (h2 : EP X c γ m (RD f1) U2) (h3 : EP X c γ n (RD f2) U3) (e1 : FLe f1 f) (e2 : FLe f2 f) :
    EP X c γ (mIf t m n) (RD f) (fun β k => U1 β fun b => (if b then U2 D fun x => .ok x else U3 D fun x => .ok x).bind fun x => k x) := cv_if h1 (fun _ => h2) (fun _ => h3) e1 e2 (fun _ _ => Le.rfl) fun _ _ => Le.rfl
theorem p_andV {m n : M D} {f1 f2 f : Fg} {U1 U2 : UD} (h1 : EP X c γ m (RD f1) U1) (h2 : EP X c γ n (RD f2) U2) (hf : FLe f2 f) (h0 : ∀ b, FgOk f (.bl b)) :
    EP X c γ (mAndV m n) (RD f) (fun β k => U1 β fun x => (uB x).bind fun b => (if b then U2 D fun b' => .ok b' else .ok (.bl false)).bind fun b => k b) := x_andV h1 (fun _ => h2) (fun _ _ => Le.rfl) hf h0
theorem p_orV {m n : M D} {f1 f2 f : Fg} {U1 U2 : UD} (h1 : EP X c γ m (RD f1) U1) (h2 : EP X c γ n (RD f2) U2) (hf : FLe f2 f) (h0 : ∀ b, FgOk f (.bl b)) :
    EP X c γ (mOrV m n) (RD f) (fun β k => U1 β fun x => (uB x).bind fun b => (if b then .ok (.bl true) else U2 D fun b' => .ok b').bind fun b => k b) := x_orV h1 (fun _ => h2) (fun _ _ => Le.rfl) hf h0
theorem p_notV {m : M D} {f : Fg} {U1 : UD} (h : EP X c γ m (RD f) U1) : EP X c γ (mNotV m) (RD .cold) (fun β k => U1 β fun x => (uB x).bind fun b => k (.bl (!b))) := cv_notV h
theorem p_chain {o o' : Int → Int → Bool} {ma mb mc : M D} {f1 f2 f3 : Fg} {U1 U2 U3 : UD} (h1 : EP X c γ ma (RD f1) U1) (h2 : EP X c γ mb (RD f2) U2) (h3 : EP X c γ mc (RD f3) U3) :
    EP X c γ (mChain o o' ma mb mc) (RD .cold) (fun β k => U1 β fun x => U2 β fun y => (uI x).bind fun i => (uI y).bind fun j => (if o i j then U3 D fun z => (uI z).bind fun l => .ok (.bl (o' j l)) else .ok (.bl false)).bind fun r => k r) :=
  ep (cv_chain h1 (fun _ => h2) (fun _ _ => h3) fun _ _ _ => Le.rfl) fun _ => Le.rfl
theorem p_pN : EP X c γ (pur (none : Option Int)) Eq (fun _ k => k none) := p_none
theorem p_pS {m : M D} {f : Fg} {U1 : UD} (h : EP X c γ m (RD f) U1) : EP X c γ (mPart m) Eq (fun β k => U1 β fun x => (uI x).bind fun i => k (some i)) := p_some h
theorem p_sl {p q : Option Int → Option Int → List D → Option D} {f : Fg} {ma : M Opd} {ml mh : M (Option Int)} {i : Option Nat × Fg} {U1 : UL} {U2 U3 : (β : Type) → (Option Int → R β) → R β} (hp : ∀ lo hi, Lk gC (p lo hi) (q lo hi) (mgF γ [i]) f)
    (h1 : EP X c γ ma (OP i) U1) (h2 : EP X c γ ml Eq U2) (h3 : EP X c γ mh Eq U3) (hv : okV γ [i] = true) :
    EP X c γ (mSlice p ma ml mh) (RD f) (fun β k => U1 β fun v => U2 β fun lo => U3 β fun hi => (uP (q lo hi) (mgV γ [i] v)).bind fun r => k r) := ep (cv_sl (fun lo hi _ _ _ => hp lo hi) h1 (fun _ => h2) (fun _ _ => h3) fun _ _ _ => hv) fun _ => Le.rfl
theorem p_walk {f : List D → Option (List D)} (hf : InsW f) {mos : M (List Opd)} {is : List (Option Nat × Fg)} {U1 : UL} (h : EP X c γ mos (OpL is) U1) (hv : okV γ is = true) : EP X c γ (mWalk f mos) (RSr (lkOf is)) (fun β k => U1 β fun vs => (uIt f (mgV γ is vs)).bind fun r => k r) := cv_walk hf h fun _ => hv
theorem p_src {ma : M Opd} {i : Option Nat × Fg} {U1 : UL} (h1 : EP X c γ ma (OP i) U1) (hv : okV γ [i] = true) : EP X c γ (mSrc ma) (RSr (lkOf [i])) (fun β k => U1 β fun v => (uIt it1 (mgV γ [i] (v ++ []))).bind fun r => k r) := ep (cv_src h1 fun _ => hv) fun _ => Le.rfl
theorem p_rng1 {m : M D} {f : Fg} {U1 : UD} (h : EP X c γ m (RD f) U1) : EP X c γ (mRng1 (bnd m fun o => bnd (pur []) fun os => pur (o :: os))) (RSr []) (fun β k => U1 β fun x => (uRng1 x).bind fun r => k r) := cv_rng1 h
theorem p_rng2 {m n : M D} {f1 f2 : Fg} {U1 U2 : UD} (h1 : EP X c γ m (RD f1) U1) (h2 : EP X c γ n (RD f2) U2) :
    EP X c γ (mRng2 (bnd m fun o => bnd (bnd n fun o => bnd (pur []) fun os => pur (o :: os)) fun os => pur (o :: os))) (RSr []) (fun β k => U1 β fun x => U2 β fun y => (uRng2 x y).bind fun r => k r) := ep (cv_rng2 h1 fun _ => h2) fun _ => Le.rfl
theorem p_rgd1 {m : M D} {f : Fg} {U1 : UD} (h : EP X c γ m (RD f) U1) : EP X c γ (mRgD (.lst true) (bnd m fun x => pur [x])) (RD .own) (fun β k => U1 β fun x => (uRgD1 x).bind fun r => k r) := cv_rgd1 h
theorem p_rgd2 {m n : M D} {f1 f2 : Fg} {U1 U2 : UD} (h1 : EP X c γ m (RD f1) U1) (h2 : EP X c γ n (RD f2) U2) : EP X c γ (mRgD (.lst true) (bnd m fun x => bnd n fun y => pur [x, y])) (RD .own) (fun β k => U1 β fun x => U2 β fun y => (uRgD2 x y).bind fun r => k r) := ep (cv_rgd2 h1 fun _ => h2) fun _ => Le.rfl
theorem p_mLst {m : M D} {f : Fg} {U1 : UD} (h : EP X c γ m (RD f) U1) : EP X c γ (mLst m) (RD f) (fun β k => U1 β fun x => (uL x).bind fun _ => k x) := cv_mLst h
theorem p_call {Φ : List D → Fo} {n : Nat} {fs : List Fg} {W : List D → R β1} {v : β1 → D} {ro : Fg} {out : List D → β1 → List Sl} {mos : M (List Opd)} {is : List (Option Nat × Fg)} {U1 : UL}
    (F : FU Φ fs W v ro out) (h : EP X c γ mos (OpL is) U1) (hn : is.length = n) (hv : okL γ is = true) (hf : agF c.lock γ is = fs) (ha : ∀ vs b, AftL c.lock γ is (out (mgV γ is vs) b) γ) (hX : ∀ ρ, St (gx γ is) ρ → X ρ) :
    EP X c γ (mCall n Φ (bnd mos lendL)) (RD ro) (fun β k => U1 β fun vs => (W (mgV γ is vs)).bind fun b => k (v b)) := ep (cv_call F h hn (fun _ => hv) (fun _ => hf) (γ2 := fun _ _ _ => γ) (fun _ vs b => ha vs b) fun _ => hX) fun _ => Le.rfl
theorem hx_p {is : List (Option Nat × Fg)} : ∀ ρ, St (gx γ is) ρ → XT ρ := fun _ _ => trivial
/-- slots that come back as they were need not be told -/
theorem aft_keep {lock : List Nat} {γ γ2 : Ga} {i : Nat} {f : Fg} {is : List (Option Nat × Fg)} {o : Sl} {os : List Sl} (a : Aft lock i (gat γ i) o (gat γ2 i)) (h : AftL lock γ is os γ2) (n : (lkOf is).contains i = false := by rfl) : AftL lock γ ((some i, f) :: is) (o :: os) γ2 := by
  have := AftL.slot (f := f) a h n
  rwa [gset_at] at this
/-- the state told anew -/
theorem nm (md : τ → Ga → Ga) (tf : Ga → τ) {m : M α'} {Rl : α' → ξ → Prop} {γ' : σ → Ga} {U : (β : Type) → (ξ → σ → R β) → R β} (h : CV X c γ m Rl γ' U) (w : ∀ s, Le (γ' s) (md (tf (γ' s)) γ)) : CV X c γ m Rl (fun t => md t γ) (fun β k => U β fun x s => k x (tf (γ' s))) := cv_st h (fun t => md t γ) (fun s => tf (γ' s)) w

/-! ### statements -/
/-- of any kind -/
def SG (X : Y.Env → Prop) (c : Ctx) (γ : Ga) (P : α → Y.Env → β → Prop) (m : M α) (u : R β) : Prop := ∀ ρ, St γ ρ → Sim X P (m c ρ) u
variable {P : α → Y.Env → β → Prop}
theorem q_bnd {m : M α'} {g : α' → M α} {Rl : α' → ξ → Prop} {γ1 : σ → Ga} {U : (β : Type) → (ξ → σ → R β) → R β} {k : ξ → σ → R β} (h1 : CV X c γ m Rl γ1 U) (h2 : ∀ a x s, Rl a x → SG X c (γ1 s) P (g a) (k x s)) : SG X c γ P (bnd m g) (U β k) := fun ρ hs => h1 _ _ P g k (fun a ρ x s r hs => h2 a x s r ρ hs) ρ hs
theorem q_set {g : D → M Unit} {m : M D} {n : M Fl} {f : Fg} {γ1 : σ → Ga} {U : (β : Type) → (D → σ → R β) → R β} {k : D → σ → R β} (h1 : CV X c γ m (RD f) γ1 U) (h2 : ∀ d x s, RD f d x → SG X c (γ1 s) Q (bnd (nox (g d)) fun _ => n) (k x s)) : SG X c γ Q (sSeq (sSet g m) n) (U β k) := by
  rw [sSet_eq]
  exact q_bnd h1 h2
theorem t_name {i : Nat} {d x : D} {f : Fg} {b : M α} {u : R β} (r : RD f d x) (hf : free c i = true) (hl : Nat.ble (i + 1) γ.length = true) (h : SG X c (gset γ i (.val x f)) P b u) : SG X c γ P (bnd (nox (setS i d)) fun _ => b) u := fun ρ hs => tg_name r hf hl _ _ P _ _ (fun _ ρ _ _ _ hs => h ρ hs) ρ hs
theorem t_nil {b : M α} {u : R β} (h : SG X c γ P b u) : SG X c γ P (bnd (nox (tgNil [])) fun _ => b) u := h
theorem t_cons {m : D → M Unit} {ms : List D → M Unit} {d : D} {ds : List D} {b : M α} {u : R β} (h : SG X c γ P (bnd (nox (m d)) fun _ => bnd (nox (ms ds)) fun _ => b) u) : SG X c γ P (bnd (nox (tgCons m ms (d :: ds))) fun _ => b) u := by
  have e : tgCons m ms (d :: ds) = bnd (m d) fun _ => ms ds := rfl
  rw [e, bnd_nox, bnd_assoc]
  exact h
theorem t_tup2 {ms : List D → M Unit} {d x : D} {f : Fg} {b : M α} {u : D → D → R β} (r : RD f d x) (h : ∀ a a', RD .cold a a → RD .cold a' a' → SG X c γ P (bnd (nox (ms [a, a'])) fun _ => b) (u a a')) : SG X c γ P (bnd (nox (tgTup 2 ms d)) fun _ => b) (uUnp2 x u) := fun ρ hs => by
  unfold uUnp2
  split
  · cases frz_tup r.1
    exact h _ _ (rd_frz _) (rd_frz _) ρ hs
  · trivial
theorem t_tup3 {ms : List D → M Unit} {d x : D} {f : Fg} {b : M α} {u : D → D → D → R β} (r : RD f d x) (h : ∀ a a' a'', RD .cold a a → RD .cold a' a' → RD .cold a'' a'' → SG X c γ P (bnd (nox (ms [a, a', a''])) fun _ => b) (u a a' a'')) : SG X c γ P (bnd (nox (tgTup 3 ms d)) fun _ => b) (uUnp3 x u) := fun ρ hs => by
  unfold uUnp3
  split
  · cases frz_tup r.1
    exact h _ _ _ (rd_frz _) (rd_frz _) (rd_frz _) ρ hs
  · trivial
theorem t_tup4 {ms : List D → M Unit} {d x : D} {f : Fg} {b : M α} {u : D → D → D → D → R β} (r : RD f d x) (h : ∀ a a' a'' a3, RD .cold a a → RD .cold a' a' → RD .cold a'' a'' → RD .cold a3 a3 → SG X c γ P (bnd (nox (ms [a, a', a'', a3])) fun _ => b) (u a a' a'' a3)) : SG X c γ P (bnd (nox (tgTup 4 ms d)) fun _ => b) (uUnp4 x u) := fun ρ hs => by
  unfold uUnp4
  split
  · cases frz_tup r.1
    exact h _ _ _ _ (rd_frz _) (rd_frz _) (rd_frz _) (rd_frz _) ρ hs
  · trivial
theorem t_ix {i : Nat} {mi : M D} {f fi : Fg} {x : D} {d y : D} {b : M α} {U1 : UD} {u : D → R β} (r : RD f d y) (h0 : gat γ i = .val x .own) (h1 : EP XT c γ mi (RD fi) U1) (hl : c.lock.contains i = false) (h : ∀ z, SG X c (gset γ i (.val z .own)) P b (u z)) :
    SG X c γ P (bnd (nox (setI i mi d)) fun _ => b) ((uL x).bind fun _ => (U1 D fun v => .ok v).nox.bind fun v => (uSetI x v y).bind fun z => u z) := fun ρ hs => tg_ix r h0 h1 (fun _ => h0) (fun _ => Le.rfl) hl _ _ P (fun _ => b) (fun _ z => u z) (fun _ ρ _ z _ hs => h z ρ hs) ρ hs
theorem q_expr {m : M D} {n : M Fl} {f : Fg} {γ1 : σ → Ga} {U : (β : Type) → (D → σ → R β) → R β} {k : σ → R β} (h1 : CV X c γ m (RD f) γ1 U) (h2 : ∀ s, SG X c (γ1 s) Q n (k s)) : SG X c γ Q (sSeq (sExpr m) n) (U β fun _ s => k s) := fun ρ hs => sk_expr h1 β Q n k (fun s ρ hs => h2 s ρ hs) ρ hs
theorem q_skip {n : M Fl} {u : R β} (h : SG X c γ Q n u) : SG X c γ Q (sSeq sSkip n) u := h
theorem q_last {m : M Fl} {u : R β} (h : SG X c γ Q (sSeq m sSkip) u) : SG X c γ Q m u := by rwa [seq_skip] at h
theorem q_assoc {a b n : M Fl} {u : R β} (h : SG X c γ Q (sSeq a (sSeq b n)) u) : SG X c γ Q (sSeq (sSeq a b) n) u := by rw [seq_assoc]; exact h
theorem q_retS {m : M D} {n : M Fl} {u : R β} (h : SG X c γ Q (sRet m) u) : SG X c γ Q (sSeq (sRet m) n) u := ss_retS h
theorem q_brkS {n : M Fl} {u : R β} (h : SG X c γ Q (pur .brk) u) : SG X c γ Q (sSeq (pur .brk) n) u := h
theorem q_contS {n : M Fl} {u : R β} (h : SG X c γ Q (pur .cont) u) : SG X c γ Q (sSeq (pur .cont) n) u := h
theorem q_retNS {n : M Fl} {u : R β} (h : SG X c γ Q (pur (.ret .non)) u) : SG X c γ Q (sSeq (pur (.ret .non)) n) u := h
theorem q_par {i j : Nat} {ms : M (List D)} {n : M Fl} {f1 f2 : Fg} {γ1 : σ → Ga} {U : (β : Type) → (List D → σ → R β) → R β} {k : D → D → σ → R β} (h1 : CV X c γ ms (RLf [f1, f2]) γ1 U) (hf : (free c i && free c j) = true) (hl : ∀ s, (Nat.ble (i + 1) (γ1 s).length && Nat.ble (j + 1) (γ1 s).length) = true)
    (h2 : ∀ x y s, SG X c (gset (gset (γ1 s) i (.val x f1)) j (.val y f2)) Q n (k x y s)) : SG X c γ Q (sSeq (sPar i j ms) n) (U β fun xs s => k (hd xs) (hd (tl xs)) s) := fun ρ hs => sk_par h1 hf hl β Q n (fun p => k (hd p.1) (hd (tl p.1)) p.2) (fun p ρ hs => h2 _ _ _ ρ hs) ρ hs
theorem q_parG2 {t : List D → M Unit} {ms : M (List D)} {n : M Fl} {f1 f2 : Fg} {γ1 : σ → Ga} {U : (β : Type) → (List D → σ → R β) → R β} {k : D → D → σ → R β} (h1 : CV X c γ ms (RLf [f1, f2]) γ1 U)
    (h2 : ∀ d e x y s, RD f1 d x → RD f2 e y → SG X c (γ1 s) Q (bnd (nox (t [d, e])) fun _ => n) (k x y s)) : SG X c γ Q (sSeq (sParG 2 t ms) n) (U β fun xs s => k (hd xs) (hd (tl xs)) s) := by
  rw [sParG_eq]
  refine q_bnd h1 fun ds xs s r => ?_
  obtain ⟨r1, r2⟩ := r
  cases r2 with
  | @cons _ d _ ds a r2 => cases r2 with
    | @cons _ e _ ds b r2 => cases r2 with
      | nil =>
        subst r1
        rw [if_pos ⟨rfl, by decide⟩]
        exact h2 d e _ _ s ⟨rfl, a⟩ ⟨rfl, b⟩
theorem q_parG3 {t : List D → M Unit} {ms : M (List D)} {n : M Fl} {f1 f2 f3 : Fg} {γ1 : σ → Ga} {U : (β : Type) → (List D → σ → R β) → R β} {k : D → D → D → σ → R β} (h1 : CV X c γ ms (RLf [f1, f2, f3]) γ1 U)
    (h2 : ∀ d e g x y z s, RD f1 d x → RD f2 e y → RD f3 g z → SG X c (γ1 s) Q (bnd (nox (t [d, e, g])) fun _ => n) (k x y z s)) : SG X c γ Q (sSeq (sParG 3 t ms) n) (U β fun xs s => k (hd xs) (hd (tl xs)) (hd (tl (tl xs))) s) := by
  rw [sParG_eq]
  refine q_bnd h1 fun ds xs s r => ?_
  obtain ⟨r1, r2⟩ := r
  cases r2 with
  | @cons _ d _ ds a r2 => cases r2 with
    | @cons _ e _ ds b r2 => cases r2 with
      | @cons _ g _ ds c r2 => cases r2 with
        | nil =>
          subst r1
          rw [if_pos ⟨rfl, by decide⟩]
          exact h2 d e g _ _ _ s ⟨rfl, a⟩ ⟨rfl, b⟩ ⟨rfl, c⟩
theorem q_aug {i : Nat} {p : List D → Option D} {ma : M Opd} {n : M Fl} {j : Option Nat × Fg} {x : D} {f0 : Fg} {γ1 : σ1 → Ga} {U1 : (β : Type) → (List D → σ1 → R β) → R β} {k : D → σ1 → R β} (hp : Ins p .cold) (h0 : gat γ i = .val x f0) (h1 : CV X c γ ma (OP j) γ1 U1) (hf : free c i = true) (hv : ∀ s, okV (γ1 s) [j] = true)
    (h2 : ∀ r s, SG X c (gset (γ1 s) i (.val r .cold)) Q n (k r s)) : SG X c γ Q (sSeq (sAug i p ma) n) ((uI x).bind fun _ => U1 β fun v s => (uP p (x :: mgV (γ1 s) [j] v)).bind fun r => k r s) := fun ρ hs => sk_aug hp h0 h1 hf hv β Q n (fun p => k p.1 p.2) (fun p ρ hs => h2 _ _ ρ hs) ρ hs
theorem q_augI {i : Nat} {p : List D → Option D} {mi : M D} {ma : M Opd} {n : M Fl} {j : Option Nat × Fg} {x : D} {fi : Fg} {U1 : UD} {U2 : UL} {k : D → R β} (hp : Ins p .cold) (h0 : gat γ i = .val x .own) (h1 : EP X c γ mi (RD fi) U1) (h2 : EP X c γ ma (OP j) U2) (hl : c.lock.contains i = false) (hv : okV γ [j] = true)
    (h3 : ∀ z, SG X c (gset γ i (.val z .own)) Q n (k z)) : SG X c γ Q (sSeq (sAugI i mi p ma) n) ((uL x).bind fun _ => U1 β fun v => (uI v).bind fun kk => (uGetI x kk).bind fun d0 => (uI d0).bind fun _ => U2 β fun w => (uP p (d0 :: mgV γ [j] w)).bind fun r => (uSetI x (.int kk) r).bind fun z => k z) :=
  fun ρ hs => sk_augI hp h0 h1 (fun _ => h0) (fun _ => h2) (fun _ _ => h0) hl (fun _ _ => hv) β Q n (fun p => k p.1) (fun p ρ hs => h3 _ ρ hs) ρ hs
theorem q_ifX {t : M Bool} {a b n : M Fl} {γ1 : σ1 → Ga} {U1 : (β : Type) → (Bool → σ1 → R β) → R β} {ua ub : σ1 → R β} (h1 : CV X c γ t Eq γ1 U1) (ha : ∀ s, SG X c (γ1 s) Q (sSeq a n) (ua s)) (hb : ∀ s, SG X c (γ1 s) Q (sSeq b n) (ub s)) : SG X c γ Q (sSeq (sIf t a b) n) (U1 β fun v s => if v then ua s else ub s) := ss_ifX h1 ha hb
theorem q_if {t : M Bool} {a b : M Fl} {γ1 : σ1 → Ga} {U1 : (β : Type) → (Bool → σ1 → R β) → R β} {ua ub : σ1 → R β} (h1 : CV X c γ t Eq γ1 U1) (ha : ∀ s, SG X c (γ1 s) Q a (ua s)) (hb : ∀ s, SG X c (γ1 s) Q b (ub s)) : SG X c γ Q (sIf t a b) (U1 β fun v s => if v then ua s else ub s) := ss_if h1 ha hb
theorem q_join (md : τ → Ga → Ga) {t : M Bool} {a b n : M Fl} {γ1 : σ1 → Ga} {U1 : (β : Type) → (Bool → σ1 → R β) → R β} {ua ub : σ1 → R τ} {k : σ1 → τ → R β} (h1 : CV X c γ t Eq γ1 U1) (ha : ∀ s, SG X c (γ1 s) (QJ fun t => md t (γ1 s)) a (ua s)) (hb : ∀ s, SG X c (γ1 s) (QJ fun t => md t (γ1 s)) b (ub s)) (hk : ∀ s t, SG X c (md t (γ1 s)) Q n (k s t)) :
    SG X c γ Q (sSeq (sIf t a b) n) (U1 β fun v s => (if v then ua s else ub s).bind fun t => k s t) := fun ρ hs => x_skif md h1 ha hb β Q n (fun p => k p.1 p.2) (fun p ρ hs => hk _ _ ρ hs) ρ hs
theorem q_endJ (tf : Ga → τ) {γ' : τ → Ga} (h : Le γ (γ' (tf γ))) : SG X c γ (QJ γ') sSkip (.ok (tf γ)) := ss_endJ h
theorem q_endN (tf : Ga → τ) {γ' : τ → Ga} (h : Le γ (γ' (tf γ))) : SG X c γ (QN γ') sSkip (.ok (tf γ)) := ss_endN h
theorem q_contN (tf : Ga → τ) {γ' : τ → Ga} (h : Le γ (γ' (tf γ))) : SG X c γ (QN γ') (pur .cont) (.ok (tf γ)) := ss_contN h
theorem q_endL (tf : Ga → τ) {γ' : τ → Ga} (h : Le γ (γ' (tf γ))) : SG X c γ (QL γ' Q) sSkip (.ok (.next (tf γ))) := ss_endL h
theorem q_contL (tf : Ga → τ) {γ' : τ → Ga} (h : Le γ (γ' (tf γ))) : SG X c γ (QL γ' Q) (pur .cont) (.ok (.next (tf γ))) := ss_contL h
theorem q_brkL (tf : Ga → τ) {γ' : τ → Ga} (h : Le γ (γ' (tf γ))) : SG X c γ (QL γ' Q) (pur .brk) (.ok (.brk (tf γ))) := ss_brkL h
theorem q_done {m : M D} {u : R β} {γ' : τ → Ga} (h : SG X c γ Q (sRet m) u) : SG X c γ (QL γ' Q) (sRet m) (u.bind fun b => .ok (.done b)) := ss_done h
theorem q_for (md : τ → Ga → Ga) (tf : Ga → τ) {mi : M Sr} {t : D → M Unit} {b n : M Fl} {lk : List Nat} {U1 : UL} {B : D → τ → R τ} {k : τ → R β}
    (h1 : EP X c γ mi (RSr lk) U1) (h0 : Le γ (md (tf γ) γ)) (hb : ∀ x st, frz x = x → SG X ⟨c.prot, lk ++ c.lock⟩ (md st γ) (QN fun t => md t γ) (bnd (nox (t x)) fun _ => b) (B x st)) (hk : ∀ st, SG X c (md st γ) Q n (k st)) :
    SG X c γ Q (sSeq (sFor mi t b) n) (U1 β fun xs => (foldU B xs (tf γ)).bind fun st => k st) := fun ρ hs => x_for md tf h1 (fun _ => h0) (fun _ x st hx => hb x st hx) β Q n (fun p => k p.2) (fun p ρ hs => hk _ ρ hs) ρ hs
theorem q_forX (md : τ → Ga → Ga) (tf : Ga → τ) {mi : M Sr} {t : D → M Unit} {b n : M Fl} {lk : List Nat} {U1 : UL} {B : D → τ → R (Step β τ)} {k : τ → R β}
    (h1 : EP X c γ mi (RSr lk) U1) (h0 : Le γ (md (tf γ) γ)) (hb : ∀ x st, frz x = x → SG X ⟨c.prot, lk ++ c.lock⟩ (md st γ) (QL (fun t => md t γ) Q) (bnd (nox (t x)) fun _ => b) (B x st)) (hk : ∀ st, SG X c (md st γ) Q n (k st)) :
    SG X c γ Q (sSeq (sFor mi t b) n) (U1 β fun xs => (forU B xs (tf γ)).bind fun j => jn j fun st => k st) := x_forX md tf h1 (fun _ => h0) (fun _ x st hx => hb x st hx) fun _ st => hk st
theorem q_while (md : τ → Ga → Ga) (tf : Ga → τ) {t : M Bool} {b n : M Fl} {Ut : τ → (β : Type) → (Bool → R β) → R β} {B : τ → R (Step β τ)} {k : τ → R β}
    (h0 : Le γ (md (tf γ) γ)) (ht : ∀ st, EP X c (md st γ) t Eq (Ut st)) (hb : ∀ st, SG X c (md st γ) (QL (fun t => md t γ) Q) b (B st)) (hk : ∀ st, SG X c (md st γ) Q n (k st)) :
    SG X c γ Q (sSeq (sWhile t b) n) ((whileU (fun st => Ut st Bool fun b => .ok b) B (tf γ)).bind fun j => jn j fun st => k st) := x_while md tf h0 ht (fun _ _ => Le.rfl) hb hk
theorem q_ret0 {m : M D} {f ro : Fg} {prs : List Bool} {out : D → List Sl} {γ1 : σ1 → Ga} {U1 : (β : Type) → (D → σ1 → R β) → R β} (h1 : CV X c γ m (RD f) γ1 U1) (hf : FLe f ro) (ho : ∀ x s, OutL prs (γ1 s) (out x)) : SG X c γ (QF prs (fun b => b) ro out) (sRet m) (U1 D fun x s => .ok x) := x_ret0 h1 hf ho
theorem q_ret1 (tf : Ga → τ) {m : M D} {f ro : Fg} {prs : List Bool} {out : D × τ → List Sl} {γ1 : σ1 → Ga} {U1 : (β : Type) → (D → σ1 → R β) → R β} (h1 : CV X c γ m (RD f) γ1 U1) (hf : FLe f ro) (ho : ∀ x s, OutL prs (γ1 s) (out (x, tf (γ1 s)))) : SG X c γ (QF prs Prod.fst ro out) (sRet m) (U1 (D × τ) fun x s => .ok (x, tf (γ1 s))) := x_ret1 tf h1 hf ho
theorem q_end0 {ro : Fg} {prs : List Bool} {out : D → List Sl} (hf : FLe .cold ro) (ho : OutL prs γ (out .non)) : SG X c γ (QF prs (fun b => b) ro out) sSkip (.ok .non) := x_end0 hf ho
theorem q_end1 (tf : Ga → τ) {ro : Fg} {prs : List Bool} {out : D × τ → List Sl} (hf : FLe .cold ro) (ho : OutL prs γ (out (.non, tf γ))) : SG X c γ (QF prs Prod.fst ro out) sSkip (.ok (.non, tf γ)) := x_end1 tf hf ho
theorem q_retN0 {ro : Fg} {prs : List Bool} {out : D → List Sl} (hf : FLe .cold ro) (ho : OutL prs γ (out .non)) : SG X c γ (QF prs (fun b => b) ro out) (pur (.ret .non)) (.ok .non) := x_retN0 hf ho
/-- a list changed by a method, its result not looked at -/
theorem q_mut {i : Nat} {f f' : List D → List D → Option (List D × D)} {fs : List Fg} {fr : Fg} {x : D} {ms : M (List D)} {n : M Fl} {U1 : UL} {k : D → R β} (hm : MLk f f' fs fr) (h0 : gat γ i = .val x .own) (h1 : EP X c γ ms (RLf fs) U1) (hl : c.lock.contains i = false) (h2 : ∀ z, SG X c (gset γ i (.val z .own)) Q n (k z)) :
    SG X c γ Q (sSeq (sExpr (mMut i f ms)) n) ((uL x).bind fun _ => U1 β fun vs => (uMut f' x vs).bind fun p => k p.1) := q_expr (cv_mut hm h0 h1 (fun _ => h0) hl) fun s => h2 s.1

/-! ### comprehensions -/
abbrev PU (γe : Ga) (a : Option D) (ρ' : Y.Env) (b : Option D) : Prop := a.map frz = b ∧ St γe ρ'
abbrev PS (γe : τ → Ga) (a : Option D) (ρ' : Y.Env) (b : Option D × τ) : Prop := a.map frz = b.1 ∧ St (γe b.2) ρ'
abbrev itG (te : M D) (b : Bool) : M (Option D) := match b with
  | true => bnd te fun d => pur (some d)
  | false => pur none
abbrev itM (tt : M Bool) (te : M D) : M (Option D) := bnd tt (itG te)
theorem u_if {tt : M Bool} {te : M D} {f : Fg} {γe : Ga} {U2 : (β : Type) → (Bool → R β) → R β} {U3 : UD} (h2 : EP XT c γ tt Eq U2) (h3 : EP XT c γ te (RD f) U3) (l : Le γ γe) : SG XT c γ (PU γe) (itM tt te) (U2 _ fun b => if b then U3 _ fun y => .ok (some y) else .ok none) :=
  q_bnd (P := PU γe) (g := itG te) (k := fun b _ => if b then U3 _ fun y => .ok (some y) else .ok none) h2 fun b b' s e => by
    subst e
    cases b with
    | true => exact q_bnd (P := PU γe) (g := fun d => pur (some d)) (k := fun y _ => .ok (some y)) h3 fun d y s r ρ hs => ⟨some d, ρ, rfl, by show some (frz d) = _; rw [r.1], l ρ hs⟩
    | false => exact fun ρ hs => ⟨none, ρ, rfl, rfl, l ρ hs⟩
theorem u_all {te : M D} {f : Fg} {γe : Ga} {U3 : UD} (h3 : EP XT c γ te (RD f) U3) (l : Le γ γe) : SG XT c γ (PU γe) (itM tAll te) (U3 _ fun y => .ok (some y)) := fun ρ hs =>
  q_bnd (P := PU γe) (g := fun d => pur (some d)) (k := fun y _ => .ok (some y)) h3 (fun d y s r ρ hs => ⟨some d, ρ, rfl, by show some (frz d) = _; rw [r.1], l ρ hs⟩) ρ hs
theorem s_if (tf : Ga → τ) {tt : M Bool} {te : M D} {f : Fg} {γe : τ → Ga} {γ2 : σ2 → Ga} {γ3 : σ2 → σ3 → Ga} {U2 : (β : Type) → (Bool → σ2 → R β) → R β} {U3 : σ2 → (β : Type) → (D → σ3 → R β) → R β} (h2 : CV XT c γ tt Eq γ2 U2) (h3 : ∀ s, CV XT c (γ2 s) te (RD f) (γ3 s) (U3 s)) (l2 : ∀ s, Le (γ2 s) (γe (tf (γ2 s)))) (l3 : ∀ s t, Le (γ3 s t) (γe (tf (γ3 s t)))) :
    SG XT c γ (PS γe) (itM tt te) (U2 _ fun b s => if b then U3 s _ fun y t => .ok (some y, tf (γ3 s t)) else .ok (none, tf (γ2 s))) :=
  q_bnd (P := PS γe) (g := itG te) (k := fun b s => if b then U3 s _ fun y t => .ok (some y, tf (γ3 s t)) else .ok (none, tf (γ2 s))) h2 fun b b' s e => by
    subst e
    cases b with
    | true => exact q_bnd (P := PS γe) (g := fun d => pur (some d)) (k := fun y t => .ok (some y, tf (γ3 s t))) (h3 s) fun d y t r ρ hs => ⟨some d, ρ, rfl, by show some (frz d) = _; rw [r.1], l3 s t ρ hs⟩
    | false => exact fun ρ hs => ⟨none, ρ, rfl, rfl, l2 s ρ hs⟩
theorem s_all (tf : Ga → τ) {te : M D} {f : Fg} {γe : τ → Ga} {γ3 : σ3 → Ga} {U3 : (β : Type) → (D → σ3 → R β) → R β} (h3 : CV XT c γ te (RD f) γ3 U3) (l3 : ∀ t, Le (γ3 t) (γe (tf (γ3 t)))) : SG XT c γ (PS γe) (itM tAll te) (U3 _ fun y t => .ok (some y, tf (γ3 t))) := fun ρ hs =>
  q_bnd (P := PS γe) (g := fun d => pur (some d)) (k := fun y t => .ok (some y, tf (γ3 t))) h3 (fun d y t r ρ hs => ⟨some d, ρ, rfl, by show some (frz d) = _; rw [r.1], l3 t ρ hs⟩) ρ hs
theorem p_comp {mi : M Sr} {lk vs : List Nat} {n : Nat} {t : D → M Unit} {tt : M Bool} {te : M D} {U1 : UL} {B : D → R (Option D)}
    (h1 : EP X c γ mi (RSr lk) U1) (hb : ∀ x, frz x = x → SG XT ⟨protC n vs, lk ++ c.lock⟩ (gwipe γ vs) (PU (gany γ vs)) (bnd (nox (t x)) fun _ => itM tt te) (B x)) (hn : γ.length = n) (hc : gcold γ vs = true) :
    EP X c γ (mComp mi vs t tt te) (RD .own) (fun β k => U1 β fun xs => (uComp B xs).bind fun r => k r) := cv_compU h1 (fun _ x hx => hb x hx) (fun _ => hn) fun _ => hc
theorem y_comp (md : τ → Ga → Ga) (tf : Ga → τ) {mi : M Sr} {lk vs : List Nat} {n : Nat} {t : D → M Unit} {tt : M Bool} {te : M D} {U1 : UL} {B : D → τ → R (Option D × τ)}
    (h1 : EP X c γ mi (RSr lk) U1) (hb : ∀ x st, frz x = x → SG XT ⟨protC n vs, lk ++ c.lock⟩ (gwipe (md st γ) vs) (PS fun st => gany (md st γ) vs) (bnd (nox (t x)) fun _ => itM tt te) (B x st))
    (hn : γ.length = n) (hc : gcold γ vs = true) (h0 : Le γ (md (tf γ) γ)) (hv : ∀ st, gsame (md st γ) γ vs) :
    CV X c γ (mComp mi vs t tt te) (RD .own) (fun t => md t γ) (fun β k => U1 β fun xs => (uCompS B xs (tf γ)).bind fun r => k r.1 r.2) := cv_st (x_comp md tf h1 (fun _ x st hx => hb x st hx) (fun _ => hn) (fun _ => hc) (fun _ => h0) fun _ st => hv st) (fun t => md t γ) (fun p => p.2) fun _ => Le.rfl
/-- what is walked changes slots itself -/
theorem zu_comp {mi : M Sr} {lk vs : List Nat} {n : Nat} {t : D → M Unit} {tt : M Bool} {te : M D} {γ1 : σ1 → Ga} {U1 : (β : Type) → (List D → σ1 → R β) → R β} {B : σ1 → D → R (Option D)}
    (h1 : CV X c γ mi (RSr lk) γ1 U1) (hb : ∀ s x, frz x = x → SG XT ⟨protC n vs, lk ++ c.lock⟩ (gwipe (γ1 s) vs) (PU (gany (γ1 s) vs)) (bnd (nox (t x)) fun _ => itM tt te) (B s x)) (hn : ∀ s, (γ1 s).length = n) (hc : ∀ s, gcold (γ1 s) vs = true) :
    CV X c γ (mComp mi vs t tt te) (RD .own) γ1 (fun β k => U1 β fun xs s => (uComp (B s) xs).bind fun r => k r s) := cv_compU h1 (fun s x hx => hb s x hx) hn hc
theorem z_comp (md : τ → Ga → Ga) (tf : Ga → τ) {mi : M Sr} {lk vs : List Nat} {n : Nat} {t : D → M Unit} {tt : M Bool} {te : M D} {γ1 : σ1 → Ga} {U1 : (β : Type) → (List D → σ1 → R β) → R β} {B : σ1 → D → τ → R (Option D × τ)}
    (h1 : CV X c γ mi (RSr lk) γ1 U1) (hb : ∀ s x st, frz x = x → SG XT ⟨protC n vs, lk ++ c.lock⟩ (gwipe (md st (γ1 s)) vs) (PS fun st => gany (md st (γ1 s)) vs) (bnd (nox (t x)) fun _ => itM tt te) (B s x st))
    (hn : ∀ s, (γ1 s).length = n) (hc : ∀ s, gcold (γ1 s) vs = true) (h0 : ∀ s, Le (γ1 s) (md (tf (γ1 s)) (γ1 s))) (hv : ∀ s st, gsame (md st (γ1 s)) (γ1 s) vs) :
    CV X c γ (mComp mi vs t tt te) (RD .own) (fun p : σ1 × τ => md p.2 (γ1 p.1)) (fun β k => U1 β fun xs s => (uCompS (B s) xs (tf (γ1 s))).bind fun r => k r.1 (s, r.2)) := x_comp md tf h1 (fun s x st hx => hb s x st hx) hn hc h0 hv
theorem q_forS (md : τ → Ga → Ga) (tf : Ga → τ) {mi : M Sr} {t : D → M Unit} {b n : M Fl} {lk : List Nat} {γ1 : σ1 → Ga} {U1 : (β : Type) → (List D → σ1 → R β) → R β} {B : σ1 → D → τ → R τ} {k : σ1 → τ → R β}
    (h1 : CV X c γ mi (RSr lk) γ1 U1) (h0 : ∀ s, Le (γ1 s) (md (tf (γ1 s)) (γ1 s))) (hb : ∀ s x st, frz x = x → SG X ⟨c.prot, lk ++ c.lock⟩ (md st (γ1 s)) (QN fun t => md t (γ1 s)) (bnd (nox (t x)) fun _ => b) (B s x st)) (hk : ∀ s st, SG X c (md st (γ1 s)) Q n (k s st)) :
    SG X c γ Q (sSeq (sFor mi t b) n) (U1 β fun xs s => (foldU (B s) xs (tf (γ1 s))).bind fun st => k s st) := fun ρ hs => x_for md tf h1 h0 (fun s x st hx => hb s x st hx) β Q n (fun p => k p.1 p.2) (fun p ρ hs => hk _ _ ρ hs) ρ hs
theorem q_forXS (md : τ → Ga → Ga) (tf : Ga → τ) {mi : M Sr} {t : D → M Unit} {b n : M Fl} {lk : List Nat} {γ1 : σ1 → Ga} {U1 : (β : Type) → (List D → σ1 → R β) → R β} {B : σ1 → D → τ → R (Step β τ)} {k : σ1 → τ → R β}
    (h1 : CV X c γ mi (RSr lk) γ1 U1) (h0 : ∀ s, Le (γ1 s) (md (tf (γ1 s)) (γ1 s))) (hb : ∀ s x st, frz x = x → SG X ⟨c.prot, lk ++ c.lock⟩ (md st (γ1 s)) (QL (fun t => md t (γ1 s)) Q) (bnd (nox (t x)) fun _ => b) (B s x st)) (hk : ∀ s st, SG X c (md st (γ1 s)) Q n (k s st)) :
    SG X c γ Q (sSeq (sFor mi t b) n) (U1 β fun xs s => (forU (B s) xs (tf (γ1 s))).bind fun j => jn j fun st => k s st) := x_forX md tf h1 h0 (fun s x st hx => hb s x st hx) hk
end
end U
end Y

end
section
set_option Elab.async false
set_option linter.all false
set_option maxRecDepth 100000
set_option maxHeartbeats 4000000
namespace Y
open PySem L2
abbrev topS (i : Nat) : Stmt := PySem.Challenge.pw_keysbelow_k29_whole_safe_for_all_wear.main.body.getD i (.Pass ⟨0, 0, 0, 0⟩)
abbrev st__law_bag_ : Stmt := topS 14
theorem sc__law_bag : FnScope ["script", "cell"] ["script"] (defScope st__law_bag_) := ⟨rfl, rfl, rfl, by decide +kernel, rfl, by decide +kernel, by decide +kernel⟩
noncomputable def B1__law_bag : M D := (mPrim gC pAbs (bnd (oN 1) fun o => bnd (pur []) fun os => pur (o :: os)))
noncomputable def M__law_bag : M Fl := (sRet (lstD (bnd (pur (.int 0)) fun o => bnd (bnd (pur (.int 1234567891)) fun o => bnd (bnd (pur (.int 0)) fun o => bnd (bnd (mComp (mSrc (oE (mSlice pSl (oN 0) (pur none) (mPart (pur (.int 63)))))) [1] (setS 1) tAll B1__law_bag) fun o => bnd (pur []) fun os => pur (o :: os)) fun os => pur (o :: os)) fun os => pur (o :: os)) fun os => pur (o :: os))))
noncomputable def Φ__law_bag : List D → Fo := runF 2 [true] M__law_bag
theorem ok__law_bag {P : Program} {w : World} {K : PySem.W.Frag} {mg : Str → Option Value} {base : Heap} {xr : (Addr → Prop) → Hp → D → Value → Option Addr → Prop} {f : Addr} {fd : FuncData} (F : Fun K "_law_bag" "_law_bag" st__law_bag_ f fd) (z_abs : mg "abs" = none) :
    FnOk P w K mg base (L2.CX P w) 1 f fd ["script"] (spF K xr 1 Φ__law_bag) :=
  have sc := sc__law_bag
  fn_ok (N := ["script", "cell"]) (m := M__law_bag) [true] F sc rfl fun cdv A outer s H E hr c =>
  (ss_one (st_ret (s_lst (vL1 s_int (vL1 s_int (vL1 s_int (vL1 (eLc [("cell", 1)] rfl sc.nd len_set (i_seq (o_val (eSl (vO 0) p_none (p_some s_int)))) (fun s H C cl fp c => (gN 1 sc.nd)) (fun s H C cl fp c => ts_nil) (fun s H C cl fp c => (eB c_abs z_abs bb_abs (oL1 (vO 1) oL0)))) vL0)))))))
abbrev st__law_take_ : Stmt := topS 15
theorem sc__law_take : FnScope ["bag", "many", "cell", "stirred", "value", "begin", "second"] ["bag", "many"] (defScope st__law_take_) := ⟨rfl, rfl, rfl, by decide +kernel, rfl, by decide +kernel, by decide +kernel⟩
noncomputable def M__law_take : M Fl := (sSeq (sIf (mB (mBin gC pEq (oE (mBin gC pIx (oN 0) (oE (pur (.int 0))))) (oE (pur (.int 0))))) (sSeq (sSet (setS 2) (mBin gC pIx (oE (mBin gC pAdd (oE (mSlice pSl (oE (mBin gC pIx (oN 0) (oE (pur (.int 3))))) (mPart (mBin gC pIx (oN 0) (oE (pur (.int 2))))) (pur none))) (oE (lstD (bnd (pur (.int 0)) fun o => bnd (pur []) fun os => pur (o :: os)))))) (oE (pur (.int 0)))))
  (sSeq (sAugI 0 (pur (.int 2)) pAddI (oE (pur (.int 1))))
  (sSeq (sIf (mB (mBin gC pGe (oN 2) (oE (mBin gC pPow (oE (pur (.int 10))) (oE (pur (.int 18))))))) (sSet (setI 0 (pur (.int 0))) (eVar 2)) sSkip)
  (sSeq (sSet (setS 3) (mBin gC pAdd (oE (mBin gC pAdd (oE (mBin gC pMul (oE (mBin gC pIx (oN 0) (oE (pur (.int 1))))) (oE (pur (.int 48271))))) (oE (mBin gC pMod (oE (mPrim gC pInt (bnd (oN 2) fun o => bnd (pur []) fun os => pur (o :: os)))) (oE (pur (.int 2147483647))))))) (oE (mBin gC pMul (oE (pur (.int 7919))) (oE (mBin gC pIx (oN 0) (oE (pur (.int 2)))))))))
  (sSet (setI 0 (pur (.int 1))) (mBin gC pMod (oE (mPrim gC pInt (bnd (oN 3) fun o => bnd (pur []) fun os => pur (o :: os)))) (oE (pur (.int 2147483647))))))))) sSkip)
  (sSeq (sIf (mB (mBin gC pGt (oE (mBin gC pIx (oN 0) (oE (pur (.int 0))))) (oE (pur (.int 0))))) (sSeq (sSet (setS 4) (mBin gC pMod (oE (mPrim gC pInt (bnd (oE (mBin gC pIx (oN 0) (oE (pur (.int 0))))) fun o => bnd (pur []) fun os => pur (o :: os)))) (oN 1)))
  (sSeq (sSet (setI 0 (pur (.int 0))) (mBin gC pDiv (oE (mPrim gC pInt (bnd (oE (mBin gC pIx (oN 0) (oE (pur (.int 0))))) fun o => bnd (pur []) fun os => pur (o :: os)))) (oN 1)))
  (sRet (mvVar 4)))) sSkip)
  (sSeq (sSet (setS 5) (mBin gC pMod (oE (mPrim gC pInt (bnd (oE (mBin gC pMul (oE (mBin gC pAdd (oE (mBin gC pIx (oN 0) (oE (pur (.int 1))))) (oE (pur (.int 1))))) (oE (pur (.int 39373))))) fun o => bnd (pur []) fun os => pur (o :: os)))) (oE (pur (.int 1000000007)))))
  (sSeq (sSet (setS 6) (mBin gC pMod (oE (mPrim gC pInt (bnd (oE (mBin gC pMul (oE (mBin gC pMod (oE (mPrim gC pInt (bnd (oE (mBin gC pMul (oN 5) (oN 5))) fun o => bnd (pur []) fun os => pur (o :: os)))) (oE (pur (.int 998244353))))) (oE (pur (.int 30011))))) fun o => bnd (pur []) fun os => pur (o :: os)))) (oE (pur (.int 998244353)))))
  (sRet (mBin gC pMod (oE (mPrim gC pInt (bnd (oE (mBin gC pDiv (oN 6) (oE (pur (.int 7))))) fun o => bnd (pur []) fun os => pur (o :: os)))) (oN 1)))))))
noncomputable def Φ__law_take : List D → Fo := runF 7 [true, true] M__law_take
theorem ok__law_take {P : Program} {w : World} {K : PySem.W.Frag} {mg : Str → Option Value} {base : Heap} {xr : (Addr → Prop) → Hp → D → Value → Option Addr → Prop} {f : Addr} {fd : FuncData} (F : Fun K "_law_take" "_law_take" st__law_take_ f fd) (z_int : mg "int" = none) :
    FnOk P w K mg base (L2.CX P w) 1 f fd ["bag", "many"] (spF K xr 2 Φ__law_take) :=
  have sc := sc__law_take
  fn_ok (N := ["bag", "many", "cell", "stirred", "value", "begin", "second"]) (m := M__law_take) [true, true] F sc rfl fun cdv A outer s H E hr c =>
  (ss_cons (st_if (tCmp (o_eq (hu_room hr)) (o_val (eIx (vO 0) (o_val s_int))) (o_val s_int)) (ss_cons (stSet 2 sc.nd (eIx (o_val (eOp o_add (o_val (eSl (o_val (eIx (vO 0) (o_val s_int))) (p_some (eIx (vO 0) (o_val s_int))) p_none)) (o_val (s_lst (vL1 s_int vL0))))) (o_val s_int)))
  (ss_cons (st_augI 0 s_int (o_val s_int) ip_addI)
  (ss_cons (st_if (tCmp o_ge (vO 2) (o_val (eOp o_pow (o_val s_int) (o_val s_int)))) (ss_one (stAsg (vE 2) (g_ix 0 s_int))) ss_nil)
  (ss_cons (stSet 3 sc.nd (eOp o_add (o_val (eOp o_add (o_val (eOp o_mul (o_val (eIx (vO 0) (o_val s_int))) (o_val s_int))) (o_val (eOp o_mod (o_val (eTy c_int z_int bb_int (oL1 (vO 2) oL0))) (o_val s_int))))) (o_val (eOp o_mul (o_val s_int) (o_val (eIx (vO 0) (o_val s_int)))))))
  (ss_one (stAsg (eOp o_mod (o_val (eTy c_int z_int bb_int (oL1 (vO 3) oL0))) (o_val s_int)) (g_ix 0 s_int))))))) ss_nil)
  (ss_cons (st_if (tCmp o_gt (o_val (eIx (vO 0) (o_val s_int))) (o_val s_int)) (ss_cons (stSet 4 sc.nd (eOp o_mod (o_val (eTy c_int z_int bb_int (oL1 (o_val (eIx (vO 0) (o_val s_int))) oL0))) (vO 1)))
  (ss_cons (stAsg (eOp o_fdiv (o_val (eTy c_int z_int bb_int (oL1 (o_val (eIx (vO 0) (o_val s_int))) oL0))) (vO 1)) (g_ix 0 s_int))
  (ss_one (st_ret (vM 4))))) ss_nil)
  (ss_cons (stSet 5 sc.nd (eOp o_mod (o_val (eTy c_int z_int bb_int (oL1 (o_val (eOp o_mul (o_val (eOp o_add (o_val (eIx (vO 0) (o_val s_int))) (o_val s_int))) (o_val s_int))) oL0))) (o_val s_int)))
  (ss_cons (stSet 6 sc.nd (eOp o_mod (o_val (eTy c_int z_int bb_int (oL1 (o_val (eOp o_mul (o_val (eOp o_mod (o_val (eTy c_int z_int bb_int (oL1 (o_val (eOp o_mul (vO 5) (vO 5))) oL0))) (o_val s_int))) (o_val s_int))) oL0))) (o_val s_int)))
  (ss_one (st_ret (eOp o_mod (o_val (eTy c_int z_int bb_int (oL1 (o_val (eOp o_fdiv (vO 6) (o_val s_int))) oL0))) (vO 1))))))))
abbrev st__law_some_ : Stmt := topS 16
theorem sc__law_some : FnScope ["bag", "things"] ["bag", "things"] (defScope st__law_some_) := ⟨rfl, rfl, rfl, by decide +kernel, rfl, by decide +kernel, by decide +kernel⟩
noncomputable def M__law_some : M Fl := (sRet (mBin gC pIx (oN 1) (oE (mCall 2 Φ__law_take (bnd (bnd (oN 0) fun o => bnd (bnd (oE (mPrim gC pLen (bnd (oN 1) fun o => bnd (pur []) fun os => pur (o :: os)))) fun o => bnd (pur []) fun os => pur (o :: os)) fun os => pur (o :: os)) lendL)))))
noncomputable def Φ__law_some : List D → Fo := runF 2 [true, true] M__law_some
theorem ok__law_some {P : Program} {w : World} {K : PySem.W.Frag} {mg : Str → Option Value} {base : Heap} {xr : (Addr → Prop) → Hp → D → Value → Option Addr → Prop} {f : Addr} {fd : FuncData} (F : Fun K "_law_some" "_law_some" st__law_some_ f fd) (z_len : mg "len" = none) (F__law_take : FnY P w K mg base xr 1 "_law_take" 2 Φ__law_take) :
    FnOk P w K mg base (L2.CX P w) 2 f fd ["bag", "things"] (spF K xr 2 Φ__law_some) :=
  have sc := sc__law_some
  fn_ok (N := ["bag", "things"]) (m := M__law_some) [true, true] F sc rfl fun cdv A outer s H E hr c =>
  (ss_one (st_ret (eIx (vO 1) (o_val (s_call F__law_take (hr.mono (by decide)) takes_cx (aL (oL1 (vO 0) (oL1 (o_val (eB c_len z_len bb_len (oL1 (vO 1) oL0))) oL0))))))))
abbrev st__law_mixed_ : Stmt := topS 17
theorem sc__law_mixed : FnScope ["bag", "things", "left", "found"] ["bag", "things"] (defScope st__law_mixed_) := ⟨rfl, rfl, rfl, by decide +kernel, rfl, by decide +kernel, by decide +kernel⟩
noncomputable def B1__law_mixed : M Bool := (mB (mBin gC pNe (oN 2) (oE (lstD (pur [])))))
noncomputable def B2__law_mixed : M Fl := (sExpr (mMut 3 fAppend (bnd (mMut 2 fPop (bnd (mCall 2 Φ__law_take (bnd (bnd (oN 0) fun o => bnd (bnd (oE (mPrim gC pLen (bnd (oN 2) fun o => bnd (pur []) fun os => pur (o :: os)))) fun o => bnd (pur []) fun os => pur (o :: os)) fun os => pur (o :: os)) lendL)) fun o => bnd (pur []) fun os => pur (o :: os))) fun o => bnd (pur []) fun os => pur (o :: os))))
noncomputable def M__law_mixed : M Fl := (sSeq (sPar 2 3 (bnd (mPrim gC pList (bnd (oN 1) fun o => bnd (pur []) fun os => pur (o :: os))) fun o => bnd (bnd (lstD (pur [])) fun o => bnd (pur []) fun os => pur (o :: os)) fun os => pur (o :: os)))
  (sSeq (sWhile B1__law_mixed B2__law_mixed)
  (sRet (mvVar 3))))
noncomputable def Φ__law_mixed : List D → Fo := runF 4 [true, true] M__law_mixed
theorem ok__law_mixed {P : Program} {w : World} {K : PySem.W.Frag} {mg : Str → Option Value} {base : Heap} {xr : (Addr → Prop) → Hp → D → Value → Option Addr → Prop} {f : Addr} {fd : FuncData} (F : Fun K "_law_mixed" "_law_mixed" st__law_mixed_ f fd) (z_list : mg "list" = none) (z_len : mg "len" = none) (F__law_take : FnY P w K mg base xr 1 "_law_take" 2 Φ__law_take) :
    FnOk P w K mg base (L2.CX P w) 2 f fd ["bag", "things"] (spF K xr 2 Φ__law_mixed) :=
  have sc := sc__law_mixed
  fn_ok (N := ["bag", "things", "left", "found"]) (m := M__law_mixed) [true, true] F sc rfl fun cdv A outer s H E hr c =>
  (ss_cons (stPar 2 3 rfl sc.nd (vL1 (eTy c_list z_list bb_list (oL1 (vO 1) oL0)) (vL1 (s_lst vL0) vL0)))
  (ss_cons (st_while (tCmp (o_ne (hu_room hr)) (vO 2) (o_val (s_lst vL0))) (ss_one (stExpr (mAppend 3 (vL1 (mPop 2 (vL1 (s_call F__law_take (hr.mono (by decide)) takes_cx (aL (oL1 (vO 0) (oL1 (o_val (eB c_len z_len bb_len (oL1 (vO 2) oL0))) oL0)))) vL0)) vL0)))) owns_cx)
  (ss_one (st_ret (vM 3)))))
abbrev st__law_lots_drawn_ : Stmt := topS 22
theorem sc__law_lots_drawn : FnScope ["bag", "chambers", "rows", "some", "cut", "chamber", "lot"] ["bag", "chambers", "rows"] (defScope st__law_lots_drawn_) := ⟨rfl, rfl, rfl, by decide +kernel, rfl, by decide +kernel, by decide +kernel⟩
noncomputable def B1__law_lots_drawn : M D := (tupD (bnd (eVar 4) fun o => bnd (pur []) fun os => pur (o :: os)))
noncomputable def B2__law_lots_drawn : M D := (mPrim gC pTuple (bnd (oE (mPrim gC pSorted (bnd (oE (mSlice pSl (oE (mCall 2 Φ__law_mixed (bnd (bnd (oN 0) fun o => bnd (bnd (oE (lstD (bnd (pur (.int 1)) fun o => bnd (bnd (pur (.int 2)) fun o => bnd (bnd (pur (.int 3)) fun o => bnd (bnd (pur (.int 4)) fun o => bnd (bnd (pur (.int 5)) fun o => bnd (bnd (pur (.int 6)) fun o => bnd (bnd (pur (.int 8)) fun o => bnd (pur []) fun os => pur (o :: os)) fun os => pur (o :: os)) fun os => pur (o :: os)) fun os => pur (o :: os)) fun os => pur (o :: os)) fun os => pur (o :: os)) fun os => pur (o :: os)))) fun o => bnd (pur []) fun os => pur (o :: os)) fun os => pur (o :: os)) lendL))) (pur none) (mPart (mBin gC pAdd (oE (pur (.int 1))) (oE (mCall 2 Φ__law_take (bnd (bnd (oN 0) fun o => bnd (bnd (oE (pur (.int 3))) fun o => bnd (pur []) fun os => pur (o :: os)) fun os => pur (o :: os)) lendL))))))) fun o => bnd (pur []) fun os => pur (o :: os)))) fun o => bnd (pur []) fun os => pur (o :: os)))
noncomputable def B3__law_lots_drawn : M D := (mIf (mB (mBin gC pGt (oE (mCall 2 Φ__law_take (bnd (bnd (oN 0) fun o => bnd (bnd (oE (pur (.int 12))) fun o => bnd (pur []) fun os => pur (o :: os)) fun os => pur (o :: os)) lendL))) (oE (pur (.int 0))))) (eVar 6) (tupD (pur [])))
noncomputable def M__law_lots_drawn : M Fl := (sSeq (sIf (mB (mBin gC pEq (oE (mCall 2 Φ__law_take (bnd (bnd (oN 0) fun o => bnd (bnd (oE (pur (.int 2))) fun o => bnd (pur []) fun os => pur (o :: os)) fun os => pur (o :: os)) lendL))) (oE (pur (.int 0))))) (sRet (mPrim gC pTuple (bnd (oE (mComp (mSrc (oE (mCall 2 Φ__law_some (bnd (bnd (oN 0) fun o => bnd (bnd (oN 2) fun o => bnd (pur []) fun os => pur (o :: os)) fun os => pur (o :: os)) lendL)))) [4] (setS 4) tAll B1__law_lots_drawn)) fun o => bnd (pur []) fun os => pur (o :: os)))) sSkip)
  (sSeq (sSet (setS 3) (mComp (mRng1 (bnd (eVar 1) fun o => bnd (pur []) fun os => pur (o :: os))) [5] (setS 5) tAll B2__law_lots_drawn))
  (sRet (mPrim gC pTuple (bnd (oE (mComp (mSrc (oN 3)) [6] (setS 6) tAll B3__law_lots_drawn)) fun o => bnd (pur []) fun os => pur (o :: os))))))
noncomputable def Φ__law_lots_drawn : List D → Fo := runF 7 [true, true, true] M__law_lots_drawn
theorem ok__law_lots_drawn {P : Program} {w : World} {K : PySem.W.Frag} {mg : Str → Option Value} {base : Heap} {xr : (Addr → Prop) → Hp → D → Value → Option Addr → Prop} {f : Addr} {fd : FuncData} (F : Fun K "_law_lots_drawn" "_law_lots_drawn" st__law_lots_drawn_ f fd) (z_tuple : mg "tuple" = none) (z_range : mg "range" = none) (z_sorted : mg "sorted" = none) (F__law_take : FnY P w K mg base xr 1 "_law_take" 2 Φ__law_take) (F__law_some : FnY P w K mg base xr 2 "_law_some" 2 Φ__law_some) (F__law_mixed : FnY P w K mg base xr 2 "_law_mixed" 2 Φ__law_mixed) :
    FnOk P w K mg base (L2.CX P w) 3 f fd ["bag", "chambers", "rows"] (spF K xr 3 Φ__law_lots_drawn) :=
  have sc := sc__law_lots_drawn
  fn_ok (N := ["bag", "chambers", "rows", "some", "cut", "chamber", "lot"]) (m := M__law_lots_drawn) [true, true, true] F sc rfl fun cdv A outer s H E hr c =>
  (ss_cons (st_if (tCmp (o_eq (hu_room hr)) (o_val (s_call F__law_take (hr.mono (by decide)) takes_cx (aL (oL1 (vO 0) (oL1 (o_val s_int) oL0))))) (o_val s_int)) (ss_one (st_ret (eTy c_tuple z_tuple bb_tuple (oL1 (o_val (eLc [("cut", 4)] rfl sc.nd len_set (i_seq (o_val (s_call F__law_some (hr.mono (by decide)) takes_cx (aL (oL1 (vO 0) (oL1 (vO 2) oL0)))))) (fun s H C cl fp c => (gN 4 sc.nd)) (fun s H C cl fp c => ts_nil) (fun s H C cl fp c => (s_tup (vL1 (vE 4) vL0))))) oL0)))) ss_nil)
  (ss_cons (stLc 3 [("chamber", 5)] rfl sc.nd len_set (i_range1 z_range (vL1 (vE 1) vL0)) (fun s H C cl fp c => (gN 5 sc.nd)) (fun s H C cl fp c => ts_nil) (fun s H C cl fp c => (eTy c_tuple z_tuple bb_tuple (oL1 (o_val (eB c_sorted z_sorted bb_sorted (oL1 (o_val (eSl (o_val (s_call F__law_mixed (hr.mono (by decide)) takes0 (aL (oL1 (vO 0) (oL1 (o_val (s_lst (vL1 s_int (vL1 s_int (vL1 s_int (vL1 s_int (vL1 s_int (vL1 s_int (vL1 s_int vL0))))))))) oL0))))) p_none (p_some (eOp o_add (o_val s_int) (o_val (s_call F__law_take (hr.mono (by decide)) takes0 (aL (oL1 (vO 0) (oL1 (o_val s_int) oL0))))))))) oL0))) oL0))))
  (ss_one (st_ret (eTy c_tuple z_tuple bb_tuple (oL1 (o_val (eLc [("lot", 6)] rfl sc.nd len_set (i_seq (vO 3)) (fun s H C cl fp c => (gN 6 sc.nd)) (fun s H C cl fp c => ts_nil) (fun s H C cl fp c => (s_if (tCmp o_gt (o_val (s_call F__law_take (hr.mono (by decide)) takes0 (aL (oL1 (vO 0) (oL1 (o_val s_int) oL0))))) (o_val s_int)) (vE 6) (s_tup vL0))))) oL0))))))
abbrev st__law_worn_ : Stmt := topS 19
theorem sc__law_worn : FnScope ["row", "w", "found", "cut", "longer", "one", "more"] ["row", "w"] (defScope st__law_worn_) := ⟨rfl, rfl, rfl, by decide +kernel, rfl, by decide +kernel, by decide +kernel⟩
noncomputable def B1__law_worn : M D := (mBin gC pAdd (oN 5) (oE (tupD (bnd (mBin gC pAdd (oN 3) (oN 6)) fun o => bnd (pur []) fun os => pur (o :: os)))))
noncomputable def B2__law_worn : M Fl := (sExpr (mMut 4 fExtend (bnd (mComp (mRng1 (bnd (mBin gC pAdd (oN 1) (oE (pur (.int 1)))) fun o => bnd (pur []) fun os => pur (o :: os))) [6] (setS 6) tAll B1__law_worn) fun o => bnd (pur []) fun os => pur (o :: os))))
noncomputable def B3__law_worn : M Fl := (sSeq (sSet (setS 4) (lstD (pur [])))
  (sSeq (sFor (mSrc (oN 2)) (setS 5) B2__law_worn)
  (sSet (setS 2) (eVar 4))))
noncomputable def M__law_worn : M Fl := (sSeq (sSet (setS 2) (lstD (bnd (tupD (pur [])) fun o => bnd (pur []) fun os => pur (o :: os))))
  (sSeq (sFor (mSrc (oN 0)) (setS 3) B3__law_worn)
  (sRet (mvVar 2))))
noncomputable def Φ__law_worn : List D → Fo := runF 7 [true, true] M__law_worn
theorem ok__law_worn {P : Program} {w : World} {K : PySem.W.Frag} {mg : Str → Option Value} {base : Heap} {xr : (Addr → Prop) → Hp → D → Value → Option Addr → Prop} {f : Addr} {fd : FuncData} (F : Fun K "_law_worn" "_law_worn" st__law_worn_ f fd) (z_range : mg "range" = none) :
    FnOk P w K mg base (L2.CX P w) 1 f fd ["row", "w"] (spF K xr 2 Φ__law_worn) :=
  have sc := sc__law_worn
  fn_ok (N := ["row", "w", "found", "cut", "longer", "one", "more"]) (m := M__law_worn) [true, true] F sc rfl fun cdv A outer s H E hr c =>
  (ss_cons (stSet 2 sc.nd (s_lst (vL1 (s_tup vL0) vL0)))
  (ss_cons (st_for (i_seq (vO 0)) (fun c => (gN 3 sc.nd)) (fun c => (ss_cons (stSet 4 sc.nd (s_lst vL0))
  (ss_cons (st_for (i_seq (vO 2)) (fun c => (gN 5 sc.nd)) (fun c => (ss_one (stExpr (mExtend 4 (vL1 (eLc [("more", 6)] rfl sc.nd len_set (i_range1 z_range (vL1 (eOp o_add (vO 1) (o_val s_int)) vL0)) (fun s H C cl fp c => (gN 6 sc.nd)) (fun s H C cl fp c => ts_nil) (fun s H C cl fp c => (eOp o_add (vO 5) (o_val (s_tup (vL1 (eOp o_add (vO 3) (vO 6)) vL0)))))) vL0))))) owns_cx rfl)
  (ss_one (stSet 2 sc.nd (vE 4)))))) owns_cx rfl)
  (ss_one (st_ret (vM 2)))))
abbrev st__law_passes_ : Stmt := topS 20
theorem sc__law_passes : FnScope ["lots", "row", "s", "cut", "lot", "its"] ["lots", "row", "s"] (defScope st__law_passes_) := ⟨rfl, rfl, rfl, by decide +kernel, rfl, by decide +kernel, by decide +kernel⟩
noncomputable def B1__law_passes : M D := (eVar 5)
noncomputable def B2__law_passes : M Bool := (mB (mBin gC pLe (oE (mPrim gC pAbs (bnd (oE (mBin gC pSub (oN 3) (oN 5))) fun o => bnd (pur []) fun os => pur (o :: os)))) (oN 2)))
noncomputable def B3__law_passes : M D := (pur (.int 1))
noncomputable def B4__law_passes : M Bool := (mB (mBin gC pEq (oE (mComp (mSrc (oN 4)) [5] (setS 5) B2__law_passes B1__law_passes)) (oE (lstD (pur [])))))
noncomputable def M__law_passes : M Fl := (sRet (mBin gC pEq (oE (mComp (mWalk zA2 (bnd (oN 1) fun o => bnd (bnd (oN 0) fun o => bnd (pur []) fun os => pur (o :: os)) fun os => pur (o :: os))) [3, 4] (tgTup 2 (tgCons (setS 3) (tgCons (setS 4) tgNil))) B4__law_passes B3__law_passes)) (oE (lstD (pur [])))))
noncomputable def Φ__law_passes : List D → Fo := runF 6 [true, true, true] M__law_passes
theorem ok__law_passes {P : Program} {w : World} {K : PySem.W.Frag} {mg : Str → Option Value} {base : Heap} {xr : (Addr → Prop) → Hp → D → Value → Option Addr → Prop} {f : Addr} {fd : FuncData} (F : Fun K "_law_passes" "_law_passes" st__law_passes_ f fd) (z_zip : mg "zip" = none) (z_abs : mg "abs" = none) :
    FnOk P w K mg base (L2.CX P w) 1 f fd ["lots", "row", "s"] (spF K xr 3 Φ__law_passes) :=
  have sc := sc__law_passes
  fn_ok (N := ["lots", "row", "s", "cut", "lot", "its"]) (m := M__law_passes) [true, true, true] F sc rfl fun cdv A outer s H E hr c =>
  (ss_one (st_ret (eCmp (o_eq (hu_room hr)) (o_val (eLc [("cut", 3), ("lot", 4)] rfl sc.nd (len_tup (len_cons len_set (len_cons len_set len_nil))) (i_zip2 z_zip (oL1 (vO 1) (oL1 (vO 0) oL0))) (fun s H C cl fp c => (gT rfl (gL1 (gN 3 sc.nd) (gL1 (gN 4 sc.nd) gL0)))) (fun s H C cl fp c => (ts_one (tCmp (o_eq (hu_room hr)) (o_val (eLc [("its", 5)] rfl sc.nd len_set (i_seq (vO 4)) (fun s H C cl fp c => (gN 5 sc.nd)) (fun s H C cl fp c => (ts_one (tCmp o_le (o_val (eB c_abs z_abs bb_abs (oL1 (o_val (eOp o_sub (vO 3) (vO 5))) oL0))) (vO 2)))) (fun s H C cl fp c => (vE 5)))) (o_val (s_lst vL0))))) (fun s H C cl fp c => s_int))) (o_val (s_lst vL0)))))
abbrev st__law_alike_ : Stmt := topS 18
theorem sc__law_alike : FnScope ["found", "due", "pairs", "at", "one", "other"] ["found", "due"] (defScope st__law_alike_) := ⟨rfl, rfl, rfl, by decide +kernel, rfl, by decide +kernel, by decide +kernel⟩
noncomputable def B1__law_alike : M Bool := (mB (mBin gC pLt (oN 3) (oE (mPrim gC pLen (bnd (oN 2) fun o => bnd (pur []) fun os => pur (o :: os))))))
noncomputable def B2__law_alike : M Fl := (sSeq (sSet (tgTup 2 (tgCons (setS 4) (tgCons (setS 5) tgNil))) (mBin gC pIx (oN 2) (oN 3)))
  (sSeq (sAug 3 pAddI (oE (pur (.int 1))))
  (sSeq (sIf (mOr (mB (mBin gC pNe (oE (mUn gR (isiP ["bool"]) (oN 4))) (oE (mUn gR (isiP ["bool"]) (oN 5))))) (mB (mBin gC pNe (oE (mUn gR (isiP ["str"]) (oN 4))) (oE (mUn gR (isiP ["str"]) (oN 5)))))) (sRet (pur (.bl false))) sSkip)
  (sSeq (sIf (mB (mBin gC pNe (oE (mUn gR (isiP ["tuple", "list"]) (oN 4))) (oE (mUn gR (isiP ["tuple", "list"]) (oN 5))))) (sRet (pur (.bl false))) sSkip)
  (sIf (mB (mUn gR (isiP ["tuple", "list"]) (oN 4))) (sSeq (sIf (mOr (mB (mBin gC pNe (oE (mUn gR (isiP ["tuple"]) (oN 4))) (oE (mUn gR (isiP ["tuple"]) (oN 5))))) (mB (mBin gC pNe (oE (mPrim gC pLen (bnd (oN 4) fun o => bnd (pur []) fun os => pur (o :: os)))) (oE (mPrim gC pLen (bnd (oN 5) fun o => bnd (pur []) fun os => pur (o :: os))))))) (sRet (pur (.bl false))) sSkip)
  (sExpr (mMut 2 fExtend (bnd (mPrim gC pLZ (bnd (oN 4) fun o => bnd (bnd (oN 5) fun o => bnd (pur []) fun os => pur (o :: os)) fun os => pur (o :: os))) fun o => bnd (pur []) fun os => pur (o :: os))))) (sIf (mB (mBin gC pNe (oN 4) (oN 5))) (sRet (pur (.bl false))) sSkip))))))
noncomputable def M__law_alike : M Fl := (sSeq (sPar 2 3 (bnd (lstD (bnd (tupD (bnd (eVar 0) fun o => bnd (bnd (eVar 1) fun o => bnd (pur []) fun os => pur (o :: os)) fun os => pur (o :: os))) fun o => bnd (pur []) fun os => pur (o :: os))) fun o => bnd (bnd (pur (.int 0)) fun o => bnd (pur []) fun os => pur (o :: os)) fun os => pur (o :: os)))
  (sSeq (sWhile B1__law_alike B2__law_alike)
  (sRet (pur (.bl true)))))
noncomputable def Φ__law_alike : List D → Fo := runF 6 [true, true] M__law_alike
theorem ok__law_alike {P : Program} {w : World} {K : PySem.W.Frag} {mg : Str → Option Value} {base : Heap} {xr : (Addr → Prop) → Hp → D → Value → Option Addr → Prop} {f : Addr} {fd : FuncData} (F : Fun K "_law_alike" "_law_alike" st__law_alike_ f fd) (z_len : mg "len" = none) (z_isinstance : mg "isinstance" = none) (z_bool : mg "bool" = none) (z_str : mg "str" = none) (z_list : mg "list" = none) (z_tuple : mg "tuple" = none) (z_zip : mg "zip" = none) :
    FnOk P w K mg base (L2.CX P w) 1 f fd ["found", "due"] (spF K xr 2 Φ__law_alike) :=
  have sc := sc__law_alike
  fn_ok (N := ["found", "due", "pairs", "at", "one", "other"]) (m := M__law_alike) [true, true] F sc rfl fun cdv A outer s H E hr c =>
  (ss_cons (stPar 2 3 rfl sc.nd (vL1 (s_lst (vL1 (s_tup (vL1 (vE 0) (vL1 (vE 1) vL0))) vL0)) (vL1 s_int vL0)))
  (ss_cons (st_while (tCmp o_lt (vO 3) (o_val (eB c_len z_len bb_len (oL1 (vO 2) oL0)))) (ss_cons (stAsg (eIx (vO 2) (vO 3)) (gT rfl (gL1 (gN 4 sc.nd) (gL1 (gN 5 sc.nd) gL0))))
  (ss_cons (stAug 3 sc.nd ip_addI (o_val s_int))
  (ss_cons (st_if (PW.pt (w_or (tCmp (o_ne (hu_room hr)) (o_val (s_isi z_isinstance (vO 4) (by decide) (pe_bltn rfl z_bool bb_bool rfl))) (o_val (s_isi z_isinstance (vO 5) (by decide) (pe_bltn rfl z_bool bb_bool rfl)))) (w_or1 (tCmp (o_ne (hu_room hr)) (o_val (s_isi z_isinstance (vO 4) (by decide) (pe_bltn rfl z_str bb_str rfl))) (o_val (s_isi z_isinstance (vO 5) (by decide) (pe_bltn rfl z_str bb_str rfl))))))) (ss_one (st_ret s_bl)) ss_nil)
  (ss_cons (st_if (tCmp (o_ne (hu_room hr)) (o_val (s_isiT z_isinstance (vO 4) (TyNs.cons (pe_bltn rfl z_tuple bb_tuple rfl) (by decide) rfl (TyNs.cons (pe_bltn rfl z_list bb_list rfl) (by decide) rfl TyNs.nil)) (by decide))) (o_val (s_isiT z_isinstance (vO 5) (TyNs.cons (pe_bltn rfl z_tuple bb_tuple rfl) (by decide) rfl (TyNs.cons (pe_bltn rfl z_list bb_list rfl) (by decide) rfl TyNs.nil)) (by decide)))) (ss_one (st_ret s_bl)) ss_nil)
  (ss_one (st_if (tVal (s_isiT z_isinstance (vO 4) (TyNs.cons (pe_bltn rfl z_tuple bb_tuple rfl) (by decide) rfl (TyNs.cons (pe_bltn rfl z_list bb_list rfl) (by decide) rfl TyNs.nil)) (by decide))) (ss_cons (st_if (PW.pt (w_or (tCmp (o_ne (hu_room hr)) (o_val (s_isi z_isinstance (vO 4) (by decide) (pe_bltn rfl z_tuple bb_tuple rfl))) (o_val (s_isi z_isinstance (vO 5) (by decide) (pe_bltn rfl z_tuple bb_tuple rfl)))) (w_or1 (tCmp (o_ne (hu_room hr)) (o_val (eB c_len z_len bb_len (oL1 (vO 4) oL0))) (o_val (eB c_len z_len bb_len (oL1 (vO 5) oL0))))))) (ss_one (st_ret s_bl)) ss_nil)
  (ss_one (stExpr (mExtend 2 (vL1 (s_listZip rfl z_list z_zip (oL1 (vO 4) (oL1 (vO 5) oL0))) vL0))))) (ss_one (st_if (tCmp (o_ne (hu_room hr)) (vO 4) (vO 5)) (ss_one (st_ret s_bl)) ss_nil)))))))) owns_cx)
  (ss_one (st_ret s_bl))))
abbrev st_is_near_lot_ : Stmt := topS 1
theorem sc_is_near_lot : FnScope ["lot", "cut", "s", "one"] ["lot", "cut", "s"] (defScope st_is_near_lot_) := ⟨rfl, rfl, rfl, by decide +kernel, rfl, by decide +kernel, by decide +kernel⟩
noncomputable def B1_is_near_lot : M D := (mBin gC pLe (oE (mPrim gC pAbs (bnd (oE (mBin gC pSub (oN 1) (oN 3))) fun o => bnd (pur []) fun os => pur (o :: os)))) (oN 2))
noncomputable def M_is_near_lot : M Fl := (sRet (mPrim gC pAny (bnd (oE (mComp (mSrc (oN 0)) [3] (setS 3) tAll B1_is_near_lot)) fun o => bnd (pur []) fun os => pur (o :: os))))
noncomputable def Φ_is_near_lot : List D → Fo := runF 4 [true, true, true] M_is_near_lot
theorem ok_is_near_lot {P : Program} {w : World} {K : PySem.W.Frag} {mg : Str → Option Value} {base : Heap} {xr : (Addr → Prop) → Hp → D → Value → Option Addr → Prop} {f : Addr} {fd : FuncData} (F : Fun K "is_near_lot" "is_near_lot" st_is_near_lot_ f fd) (z_abs : mg "abs" = none) (z_any : mg "any" = none) :
    FnOk P w K mg base (L2.CX P w) 1 f fd ["lot", "cut", "s"] (spF K xr 3 Φ_is_near_lot) :=
  have sc := sc_is_near_lot
  fn_ok (N := ["lot", "cut", "s", "one"]) (m := M_is_near_lot) [true, true, true] F sc rfl fun cdv A outer s H E hr c =>
  (ss_one (st_ret (eB (c_any rfl) z_any bb_any (oL1 (o_val (eLc [("one", 3)] rfl sc.nd len_set (i_seq (vO 0)) (fun s H C cl fp c => (gN 3 sc.nd)) (fun s H C cl fp c => ts_nil) (fun s H C cl fp c => (eCmp o_le (o_val (eB c_abs z_abs bb_abs (oL1 (o_val (eOp o_sub (vO 1) (vO 3))) oL0))) (vO 2))))) oL0))))
abbrev st_passing_ : Stmt := topS 4
theorem sc_passing : FnScope ["lot", "cut", "s", "w", "sunk"] ["lot", "cut", "s", "w"] (defScope st_passing_) := ⟨rfl, rfl, rfl, by decide +kernel, rfl, by decide +kernel, by decide +kernel⟩
noncomputable def B1_passing : M D := (mCall 3 Φ_is_near_lot (bnd (bnd (oN 0) fun o => bnd (bnd (oE (mBin gC pAdd (oN 1) (oN 4))) fun o => bnd (bnd (oN 2) fun o => bnd (pur []) fun os => pur (o :: os)) fun os => pur (o :: os)) fun os => pur (o :: os)) lendL))
noncomputable def M_passing : M Fl := (sRet (mComp (mRng1 (bnd (mBin gC pAdd (oN 3) (oE (pur (.int 1)))) fun o => bnd (pur []) fun os => pur (o :: os))) [4] (setS 4) tAll B1_passing))
noncomputable def Φ_passing : List D → Fo := runF 5 [true, true, true, true] M_passing
theorem ok_passing {P : Program} {w : World} {K : PySem.W.Frag} {mg : Str → Option Value} {base : Heap} {xr : (Addr → Prop) → Hp → D → Value → Option Addr → Prop} {f : Addr} {fd : FuncData} (F : Fun K "passing" "passing" st_passing_ f fd) (z_range : mg "range" = none) (F_is_near_lot : FnY P w K mg base xr 1 "is_near_lot" 3 Φ_is_near_lot) :
    FnOk P w K mg base (L2.CX P w) 2 f fd ["lot", "cut", "s", "w"] (spF K xr 4 Φ_passing) :=
  have sc := sc_passing
  fn_ok (N := ["lot", "cut", "s", "w", "sunk"]) (m := M_passing) [true, true, true, true] F sc rfl fun cdv A outer s H E hr c =>
  (ss_one (st_ret (eLc [("sunk", 4)] rfl sc.nd len_set (i_range1 z_range (vL1 (eOp o_add (vO 3) (o_val s_int)) vL0)) (fun s H C cl fp c => (gN 4 sc.nd)) (fun s H C cl fp c => ts_nil) (fun s H C cl fp c => (s_call F_is_near_lot (hr.mono (by decide)) takes0 (aL (oL1 (vO 0) (oL1 (o_val (eOp o_add (vO 1) (vO 4))) (oL1 (vO 2) oL0)))))))))
abbrev st_perhaps_opens_ : Stmt := topS 6
theorem sc_perhaps_opens : FnScope ["lots", "row", "s", "w", "lot", "cut"] ["lots", "row", "s", "w"] (defScope st_perhaps_opens_) := ⟨rfl, rfl, rfl, by decide +kernel, rfl, by decide +kernel, by decide +kernel⟩
noncomputable def B1_perhaps_opens : M D := (mPrim gC pAny (bnd (oE (mCall 4 Φ_passing (bnd (bnd (oN 4) fun o => bnd (bnd (oN 5) fun o => bnd (bnd (oN 2) fun o => bnd (bnd (oN 3) fun o => bnd (pur []) fun os => pur (o :: os)) fun os => pur (o :: os)) fun os => pur (o :: os)) fun os => pur (o :: os)) lendL))) fun o => bnd (pur []) fun os => pur (o :: os)))
noncomputable def M_perhaps_opens : M Fl := (sRet (mPrim gC pAll (bnd (oE (mComp (mWalk zA2 (bnd (oN 0) fun o => bnd (bnd (oN 1) fun o => bnd (pur []) fun os => pur (o :: os)) fun os => pur (o :: os))) [4, 5] (tgTup 2 (tgCons (setS 4) (tgCons (setS 5) tgNil))) tAll B1_perhaps_opens)) fun o => bnd (pur []) fun os => pur (o :: os))))
noncomputable def Φ_perhaps_opens : List D → Fo := runF 6 [true, true, true, true] M_perhaps_opens
theorem ok_perhaps_opens {P : Program} {w : World} {K : PySem.W.Frag} {mg : Str → Option Value} {base : Heap} {xr : (Addr → Prop) → Hp → D → Value → Option Addr → Prop} {f : Addr} {fd : FuncData} (F : Fun K "perhaps_opens" "perhaps_opens" st_perhaps_opens_ f fd) (z_zip : mg "zip" = none) (z_any : mg "any" = none) (z_all : mg "all" = none) (F_passing : FnY P w K mg base xr 2 "passing" 4 Φ_passing) :
    FnOk P w K mg base (L2.CX P w) 3 f fd ["lots", "row", "s", "w"] (spF K xr 4 Φ_perhaps_opens) :=
  have sc := sc_perhaps_opens
  fn_ok (N := ["lots", "row", "s", "w", "lot", "cut"]) (m := M_perhaps_opens) [true, true, true, true] F sc rfl fun cdv A outer s H E hr c =>
  (ss_one (st_ret (eB (c_all rfl) z_all bb_all (oL1 (o_val (eLc [("lot", 4), ("cut", 5)] rfl sc.nd (len_tup (len_cons len_set (len_cons len_set len_nil))) (i_zip2 z_zip (oL1 (vO 0) (oL1 (vO 1) oL0))) (fun s H C cl fp c => (gT rfl (gL1 (gN 4 sc.nd) (gL1 (gN 5 sc.nd) gL0)))) (fun s H C cl fp c => ts_nil) (fun s H C cl fp c => (eB (c_any rfl) z_any bb_any (oL1 (o_val (s_call F_passing (hr.mono (by decide)) takes0 (aL (oL1 (vO 4) (oL1 (vO 5) (oL1 (vO 2) (oL1 (vO 3) oL0))))))) oL0))))) oL0))))
abbrev st_surely_opens_ : Stmt := topS 5
theorem sc_surely_opens : FnScope ["lots", "row", "s", "w", "lot", "cut"] ["lots", "row", "s", "w"] (defScope st_surely_opens_) := ⟨rfl, rfl, rfl, by decide +kernel, rfl, by decide +kernel, by decide +kernel⟩
noncomputable def B1_surely_opens : M D := (mPrim gC pAll (bnd (oE (mCall 4 Φ_passing (bnd (bnd (oN 4) fun o => bnd (bnd (oN 5) fun o => bnd (bnd (oN 2) fun o => bnd (bnd (oN 3) fun o => bnd (pur []) fun os => pur (o :: os)) fun os => pur (o :: os)) fun os => pur (o :: os)) fun os => pur (o :: os)) lendL))) fun o => bnd (pur []) fun os => pur (o :: os)))
noncomputable def M_surely_opens : M Fl := (sRet (mPrim gC pAll (bnd (oE (mComp (mWalk zA2 (bnd (oN 0) fun o => bnd (bnd (oN 1) fun o => bnd (pur []) fun os => pur (o :: os)) fun os => pur (o :: os))) [4, 5] (tgTup 2 (tgCons (setS 4) (tgCons (setS 5) tgNil))) tAll B1_surely_opens)) fun o => bnd (pur []) fun os => pur (o :: os))))
noncomputable def Φ_surely_opens : List D → Fo := runF 6 [true, true, true, true] M_surely_opens
theorem ok_surely_opens {P : Program} {w : World} {K : PySem.W.Frag} {mg : Str → Option Value} {base : Heap} {xr : (Addr → Prop) → Hp → D → Value → Option Addr → Prop} {f : Addr} {fd : FuncData} (F : Fun K "surely_opens" "surely_opens" st_surely_opens_ f fd) (z_zip : mg "zip" = none) (z_all : mg "all" = none) (F_passing : FnY P w K mg base xr 2 "passing" 4 Φ_passing) :
    FnOk P w K mg base (L2.CX P w) 3 f fd ["lots", "row", "s", "w"] (spF K xr 4 Φ_surely_opens) :=
  have sc := sc_surely_opens
  fn_ok (N := ["lots", "row", "s", "w", "lot", "cut"]) (m := M_surely_opens) [true, true, true, true] F sc rfl fun cdv A outer s H E hr c =>
  (ss_one (st_ret (eB (c_all rfl) z_all bb_all (oL1 (o_val (eLc [("lot", 4), ("cut", 5)] rfl sc.nd (len_tup (len_cons len_set (len_cons len_set len_nil))) (i_zip2 z_zip (oL1 (vO 0) (oL1 (vO 1) oL0))) (fun s H C cl fp c => (gT rfl (gL1 (gN 4 sc.nd) (gL1 (gN 5 sc.nd) gL0)))) (fun s H C cl fp c => ts_nil) (fun s H C cl fp c => (eB (c_all rfl) z_all bb_all (oL1 (o_val (s_call F_passing (hr.mono (by decide)) takes0 (aL (oL1 (vO 4) (oL1 (vO 5) (oL1 (vO 2) (oL1 (vO 3) oL0))))))) oL0))))) oL0))))
abbrev st_worn_row_ : Stmt := topS 7
theorem sc_worn_row : FnScope ["lots", "row", "s", "w", "told", "last", "lot", "cut", "one", "at"] ["lots", "row", "s", "w"] (defScope st_worn_row_) := ⟨rfl, rfl, rfl, by decide +kernel, rfl, by decide +kernel, by decide +kernel⟩
noncomputable def B1_worn_row : M D := (mCall 4 Φ_passing (bnd (bnd (oN 6) fun o => bnd (bnd (oN 7) fun o => bnd (bnd (oN 2) fun o => bnd (bnd (oN 3) fun o => bnd (pur []) fun os => pur (o :: os)) fun os => pur (o :: os)) fun os => pur (o :: os)) fun os => pur (o :: os)) lendL))
noncomputable def B2_worn_row : M D := (mBin gC pIx (oN 8) (oE (pur (.int 0))))
noncomputable def B3_worn_row : M D := (eVar 9)
noncomputable def B4_worn_row : M Bool := (mNot (mB (mPrim gC pAll (bnd (oN 8) fun o => bnd (pur []) fun os => pur (o :: os)))))
noncomputable def M_worn_row : M Fl := (sSeq (sIf (mB (mCall 4 Φ_surely_opens (bnd (bnd (oN 0) fun o => bnd (bnd (oN 1) fun o => bnd (bnd (oN 2) fun o => bnd (bnd (oN 3) fun o => bnd (pur []) fun os => pur (o :: os)) fun os => pur (o :: os)) fun os => pur (o :: os)) fun os => pur (o :: os)) lendL))) (sRet (pur .non)) sSkip)
  (sSeq (sSet (setS 4) (mComp (mWalk zA2 (bnd (oN 0) fun o => bnd (bnd (oN 1) fun o => bnd (pur []) fun os => pur (o :: os)) fun os => pur (o :: os))) [6, 7] (tgTup 2 (tgCons (setS 6) (tgCons (setS 7) tgNil))) tAll B1_worn_row))
  (sSeq (sIf (mNot (mB (mPrim gC pAll (bnd (oE (mComp (mSrc (oN 4)) [8] (setS 8) tAll B2_worn_row)) fun o => bnd (pur []) fun os => pur (o :: os))))) (sRet (mvVar 1)) sSkip)
  (sSeq (sSet (setS 5) (mBin gC pIx (oE (mComp (mWalk eA (bnd (oN 4) fun o => bnd (pur []) fun os => pur (o :: os))) [9, 8] (tgTup 2 (tgCons (setS 9) (tgCons (setS 8) tgNil))) B4_worn_row B3_worn_row)) (oE (mUn gC pNeg (oE (pur (.int 1)))))))
  (sRet (tupD (mStar (mSlice pSl (oN 1) (pur none) (mPart (eVar 5))) (bnd (mBin gC pAdd (oE (mBin gC pIx (oN 1) (oN 5))) (oE (mPrim gC pIndex (bnd (oE (mLst (mBin gC pIx (oN 4) (oN 5)))) fun o => bnd (bnd (oE (pur (.bl false))) fun o => bnd (pur []) fun os => pur (o :: os)) fun os => pur (o :: os))))) fun o => bnd (mStar (mSlice pSl (oN 1) (mPart (mBin gC pAdd (oN 5) (oE (pur (.int 1))))) (pur none)) (pur [])) fun os => pur (o :: os)))))))))
noncomputable def Φ_worn_row : List D → Fo := runF 10 [true, true, true, true] M_worn_row
theorem ok_worn_row {P : Program} {w : World} {K : PySem.W.Frag} {mg : Str → Option Value} {base : Heap} {xr : (Addr → Prop) → Hp → D → Value → Option Addr → Prop} {f : Addr} {fd : FuncData} (F : Fun K "worn_row" "worn_row" st_worn_row_ f fd) (z_zip : mg "zip" = none) (z_all : mg "all" = none) (z_enumerate : mg "enumerate" = none) (F_surely_opens : FnY P w K mg base xr 3 "surely_opens" 4 Φ_surely_opens) (F_passing : FnY P w K mg base xr 2 "passing" 4 Φ_passing) :
    FnOk P w K mg base (L2.CX P w) 4 f fd ["lots", "row", "s", "w"] (spF K xr 4 Φ_worn_row) :=
  have sc := sc_worn_row
  fn_ok (N := ["lots", "row", "s", "w", "told", "last", "lot", "cut", "one", "at"]) (m := M_worn_row) [true, true, true, true] F sc rfl fun cdv A outer s H E hr c =>
  (ss_cons (st_if (tVal (s_call F_surely_opens (hr.mono (by decide)) takes_cx (aL (oL1 (vO 0) (oL1 (vO 1) (oL1 (vO 2) (oL1 (vO 3) oL0))))))) (ss_one (st_ret s_non)) ss_nil)
  (ss_cons (stLc 4 [("lot", 6), ("cut", 7)] rfl sc.nd (len_tup (len_cons len_set (len_cons len_set len_nil))) (i_zip2 z_zip (oL1 (vO 0) (oL1 (vO 1) oL0))) (fun s H C cl fp c => (gT rfl (gL1 (gN 6 sc.nd) (gL1 (gN 7 sc.nd) gL0)))) (fun s H C cl fp c => ts_nil) (fun s H C cl fp c => (s_call F_passing (hr.mono (by decide)) takes0 (aL (oL1 (vO 6) (oL1 (vO 7) (oL1 (vO 2) (oL1 (vO 3) oL0))))))))
  (ss_cons (st_if (t_not (tVal (eB (c_all rfl) z_all bb_all (oL1 (o_val (eLc [("one", 8)] rfl sc.nd len_set (i_seq (vO 4)) (fun s H C cl fp c => (gN 8 sc.nd)) (fun s H C cl fp c => ts_nil) (fun s H C cl fp c => (eIx (vO 8) (o_val s_int))))) oL0)))) (ss_one (st_ret (vM 1))) ss_nil)
  (ss_cons (stSet 5 sc.nd (eIx (o_val (eLc [("at", 9), ("one", 8)] rfl sc.nd (len_tup (len_cons len_set (len_cons len_set len_nil))) (i_enum z_enumerate (oL1 (vO 4) oL0)) (fun s H C cl fp c => (gT rfl (gL1 (gN 9 sc.nd) (gL1 (gN 8 sc.nd) gL0)))) (fun s H C cl fp c => (ts_one (t_not (tVal (eB (c_all rfl) z_all bb_all (oL1 (vO 8) oL0)))))) (fun s H C cl fp c => (vE 9)))) (o_val (s_un .c u_neg (o_val s_int)))))
  (ss_one (st_ret (s_tup (vl_star (eSl (vO 1) p_none (p_some (vE 5))) (vL1 (eOp o_add (o_val (eIx (vO 1) (vO 5))) (o_val (s_methL PySem.F.slot_list_index PySem.F.type_list_index (m_index (hu_room1 hr)) (eIx (vO 4) (vO 5)) (oL1 (o_val s_bl) oL0)))) (vl_star (eSl (vO 1) (p_some (eOp o_add (vO 5) (o_val s_int))) p_none) vL0))))))))))
abbrev st__law_fault_ : Stmt := topS 21
theorem sc__law_fault : FnScope ["rows", "locks", "wanted", "s", "w", "i", "row", "j", "lots", "bad", "one"] ["rows", "locks", "wanted", "s", "w"] (defScope st__law_fault_) := ⟨rfl, rfl, rfl, by decide +kernel, rfl, by decide +kernel, by decide +kernel⟩
noncomputable def B1__law_fault : M D := (eVar 10)
noncomputable def B2__law_fault : M Bool := (mB (mBin gC pNe (oE (mCall 3 Φ__law_passes (bnd (bnd (oN 8) fun o => bnd (bnd (oN 10) fun o => bnd (bnd (oN 3) fun o => bnd (pur []) fun os => pur (o :: os)) fun os => pur (o :: os)) fun os => pur (o :: os)) lendL))) (oE (mBin gC pIn (oE (tupD (bnd (eVar 5) fun o => bnd (bnd (eVar 7) fun o => bnd (pur []) fun os => pur (o :: os)) fun os => pur (o :: os)))) (oN 2)))))
noncomputable def B3__law_fault : M Fl := (sSeq (sSet (setS 9) (mComp (mSrc (oE (mCall 2 Φ__law_worn (bnd (bnd (oN 6) fun o => bnd (bnd (oN 4) fun o => bnd (pur []) fun os => pur (o :: os)) fun os => pur (o :: os)) lendL)))) [10] (setS 10) B2__law_fault B1__law_fault))
  (sIf (mB (mBin gC pNe (oN 9) (oE (lstD (pur []))))) (sRet (tupD (bnd (eVar 5) fun o => bnd (bnd (eVar 7) fun o => bnd (bnd (mBin gC pIx (oN 9) (oE (pur (.int 0)))) fun o => bnd (pur []) fun os => pur (o :: os)) fun os => pur (o :: os)) fun os => pur (o :: os)))) sSkip))
noncomputable def B4__law_fault : M Fl := (sFor (mWalk eA (bnd (oN 1) fun o => bnd (pur []) fun os => pur (o :: os))) (tgTup 2 (tgCons (setS 7) (tgCons (setS 8) tgNil))) B3__law_fault)
noncomputable def M__law_fault : M Fl := (sSeq (sFor (mWalk eA (bnd (oN 0) fun o => bnd (pur []) fun os => pur (o :: os))) (tgTup 2 (tgCons (setS 5) (tgCons (setS 6) tgNil))) B4__law_fault)
  (sRet (pur .non)))
noncomputable def Φ__law_fault : List D → Fo := runF 11 [true, true, true, true, true] M__law_fault
theorem ok__law_fault {P : Program} {w : World} {K : PySem.W.Frag} {mg : Str → Option Value} {base : Heap} {xr : (Addr → Prop) → Hp → D → Value → Option Addr → Prop} {f : Addr} {fd : FuncData} (F : Fun K "_law_fault" "_law_fault" st__law_fault_ f fd) (z_enumerate : mg "enumerate" = none) (F__law_worn : FnY P w K mg base xr 1 "_law_worn" 2 Φ__law_worn) (F__law_passes : FnY P w K mg base xr 1 "_law_passes" 3 Φ__law_passes) :
    FnOk P w K mg base (L2.CX P w) 2 f fd ["rows", "locks", "wanted", "s", "w"] (spF K xr 5 Φ__law_fault) :=
  have sc := sc__law_fault
  fn_ok (N := ["rows", "locks", "wanted", "s", "w", "i", "row", "j", "lots", "bad", "one"]) (m := M__law_fault) [true, true, true, true, true] F sc rfl fun cdv A outer s H E hr c =>
  (ss_cons (st_for (i_enum z_enumerate (oL1 (vO 0) oL0)) (fun c => (gT rfl (gL1 (gN 5 sc.nd) (gL1 (gN 6 sc.nd) gL0)))) (fun c => (ss_one (st_for (i_enum z_enumerate (oL1 (vO 1) oL0)) (fun c => (gT rfl (gL1 (gN 7 sc.nd) (gL1 (gN 8 sc.nd) gL0)))) (fun c => (ss_cons (stLc 9 [("one", 10)] rfl sc.nd len_set (i_seq (o_val (s_call F__law_worn (hr.mono (by decide)) takes_cx (aL (oL1 (vO 6) (oL1 (vO 4) oL0)))))) (fun s H C cl fp c => (gN 10 sc.nd)) (fun s H C cl fp c => (ts_one (tCmp (o_ne (hu_room hr)) (o_val (s_call F__law_passes (hr.mono (by decide)) takes0 (aL (oL1 (vO 8) (oL1 (vO 10) (oL1 (vO 3) oL0)))))) (o_val (eCmp (o_in (hu_room1 hr)) (o_val (s_tup (vL1 (vE 5) (vL1 (vE 7) vL0)))) (vO 2)))))) (fun s H C cl fp c => (vE 10)))
  (ss_one (st_if (tCmp (o_ne (hu_room hr)) (vO 9) (o_val (s_lst vL0))) (ss_one (st_ret (s_tup (vL1 (vE 5) (vL1 (vE 7) (vL1 (eIx (vO 9) (o_val s_int)) vL0)))))) ss_nil)))) owns_cx rfl))) owns_cx rfl)
  (ss_one (st_ret s_non)))
abbrev st_opened_row_ : Stmt := topS 8
theorem sc_opened_row : FnScope ["lots", "row", "s", "w", "lot", "cut"] ["lots", "row", "s", "w"] (defScope st_opened_row_) := ⟨rfl, rfl, rfl, by decide +kernel, rfl, by decide +kernel, by decide +kernel⟩
noncomputable def B1_opened_row : M D := (mBin gC pAdd (oN 5) (oE (mPrim gC pIndex (bnd (oE (mLst (mCall 4 Φ_passing (bnd (bnd (oN 4) fun o => bnd (bnd (oN 5) fun o => bnd (bnd (oN 2) fun o => bnd (bnd (oN 3) fun o => bnd (pur []) fun os => pur (o :: os)) fun os => pur (o :: os)) fun os => pur (o :: os)) fun os => pur (o :: os)) lendL)))) fun o => bnd (bnd (oE (pur (.bl true))) fun o => bnd (pur []) fun os => pur (o :: os)) fun os => pur (o :: os)))))
noncomputable def M_opened_row : M Fl := (sRet (mPrim gC pTuple (bnd (oE (mComp (mWalk zA2 (bnd (oN 0) fun o => bnd (bnd (oN 1) fun o => bnd (pur []) fun os => pur (o :: os)) fun os => pur (o :: os))) [4, 5] (tgTup 2 (tgCons (setS 4) (tgCons (setS 5) tgNil))) tAll B1_opened_row)) fun o => bnd (pur []) fun os => pur (o :: os))))
noncomputable def Φ_opened_row : List D → Fo := runF 6 [true, true, true, true] M_opened_row
theorem ok_opened_row {P : Program} {w : World} {K : PySem.W.Frag} {mg : Str → Option Value} {base : Heap} {xr : (Addr → Prop) → Hp → D → Value → Option Addr → Prop} {f : Addr} {fd : FuncData} (F : Fun K "opened_row" "opened_row" st_opened_row_ f fd) (z_zip : mg "zip" = none) (z_tuple : mg "tuple" = none) (F_passing : FnY P w K mg base xr 2 "passing" 4 Φ_passing) :
    FnOk P w K mg base (L2.CX P w) 3 f fd ["lots", "row", "s", "w"] (spF K xr 4 Φ_opened_row) :=
  have sc := sc_opened_row
  fn_ok (N := ["lots", "row", "s", "w", "lot", "cut"]) (m := M_opened_row) [true, true, true, true] F sc rfl fun cdv A outer s H E hr c =>
  (ss_one (st_ret (eTy c_tuple z_tuple bb_tuple (oL1 (o_val (eLc [("lot", 4), ("cut", 5)] rfl sc.nd (len_tup (len_cons len_set (len_cons len_set len_nil))) (i_zip2 z_zip (oL1 (vO 0) (oL1 (vO 1) oL0))) (fun s H C cl fp c => (gT rfl (gL1 (gN 4 sc.nd) (gL1 (gN 5 sc.nd) gL0)))) (fun s H C cl fp c => ts_nil) (fun s H C cl fp c => (eOp o_add (vO 5) (o_val (s_methL PySem.F.slot_list_index PySem.F.type_list_index (m_index (hu_room1 hr)) (s_call F_passing (hr.mono (by decide)) takes0 (aL (oL1 (vO 4) (oL1 (vO 5) (oL1 (vO 2) (oL1 (vO 3) oL0)))))) (oL1 (o_val s_bl) oL0))))))) oL0))))
abbrev st_couple_fault_ : Stmt := topS 9
theorem sc_couple_fault : FnScope ["lots", "row", "is_wanted", "s", "w"] ["lots", "row", "is_wanted", "s", "w"] (defScope st_couple_fault_) := ⟨rfl, rfl, rfl, by decide +kernel, rfl, by decide +kernel, by decide +kernel⟩
noncomputable def M_couple_fault : M Fl := (sSeq (sIf (mB (eVar 2)) (sRet (mCall 4 Φ_worn_row (bnd (bnd (oN 0) fun o => bnd (bnd (oN 1) fun o => bnd (bnd (oN 3) fun o => bnd (bnd (oN 4) fun o => bnd (pur []) fun os => pur (o :: os)) fun os => pur (o :: os)) fun os => pur (o :: os)) fun os => pur (o :: os)) lendL))) sSkip)
  (sRet (mIf (mB (mCall 4 Φ_perhaps_opens (bnd (bnd (oN 0) fun o => bnd (bnd (oN 1) fun o => bnd (bnd (oN 3) fun o => bnd (bnd (oN 4) fun o => bnd (pur []) fun os => pur (o :: os)) fun os => pur (o :: os)) fun os => pur (o :: os)) fun os => pur (o :: os)) lendL))) (mCall 4 Φ_opened_row (bnd (bnd (oN 0) fun o => bnd (bnd (oN 1) fun o => bnd (bnd (oN 3) fun o => bnd (bnd (oN 4) fun o => bnd (pur []) fun os => pur (o :: os)) fun os => pur (o :: os)) fun os => pur (o :: os)) fun os => pur (o :: os)) lendL)) (pur .non))))
noncomputable def Φ_couple_fault : List D → Fo := runF 5 [true, true, true, true, true] M_couple_fault
theorem ok_couple_fault {P : Program} {w : World} {K : PySem.W.Frag} {mg : Str → Option Value} {base : Heap} {xr : (Addr → Prop) → Hp → D → Value → Option Addr → Prop} {f : Addr} {fd : FuncData} (F : Fun K "couple_fault" "couple_fault" st_couple_fault_ f fd) (F_worn_row : FnY P w K mg base xr 4 "worn_row" 4 Φ_worn_row) (F_perhaps_opens : FnY P w K mg base xr 3 "perhaps_opens" 4 Φ_perhaps_opens) (F_opened_row : FnY P w K mg base xr 3 "opened_row" 4 Φ_opened_row) :
    FnOk P w K mg base (L2.CX P w) 5 f fd ["lots", "row", "is_wanted", "s", "w"] (spF K xr 5 Φ_couple_fault) :=
  have sc := sc_couple_fault
  fn_ok (N := ["lots", "row", "is_wanted", "s", "w"]) (m := M_couple_fault) [true, true, true, true, true] F sc rfl fun cdv A outer s H E hr c =>
  (ss_cons (st_if (tVal (vE 2)) (ss_one (st_ret (s_call F_worn_row (hr.mono (by decide)) takes_cx (aL (oL1 (vO 0) (oL1 (vO 1) (oL1 (vO 3) (oL1 (vO 4) oL0)))))))) ss_nil)
  (ss_one (st_ret (s_if (tVal (s_call F_perhaps_opens (hr.mono (by decide)) takes_cx (aL (oL1 (vO 0) (oL1 (vO 1) (oL1 (vO 3) (oL1 (vO 4) oL0))))))) (s_call F_opened_row (hr.mono (by decide)) takes_cx (aL (oL1 (vO 0) (oL1 (vO 1) (oL1 (vO 3) (oL1 (vO 4) oL0)))))) s_non))))
abbrev st_first_unsafe_ : Stmt := topS 10
theorem sc_first_unsafe : FnScope ["rows", "locks", "wanted", "s", "w", "at", "row", "its", "lots", "found"] ["rows", "locks", "wanted", "s", "w"] (defScope st_first_unsafe_) := ⟨rfl, rfl, rfl, by decide +kernel, rfl, by decide +kernel, by decide +kernel⟩
noncomputable def B1_first_unsafe : M Fl := (sSeq (sSet (setS 9) (mCall 5 Φ_couple_fault (bnd (bnd (oN 8) fun o => bnd (bnd (oN 6) fun o => bnd (bnd (oE (mBin gC pIn (oE (tupD (bnd (eVar 5) fun o => bnd (bnd (eVar 7) fun o => bnd (pur []) fun os => pur (o :: os)) fun os => pur (o :: os)))) (oN 2))) fun o => bnd (bnd (oN 3) fun o => bnd (bnd (oN 4) fun o => bnd (pur []) fun os => pur (o :: os)) fun os => pur (o :: os)) fun os => pur (o :: os)) fun os => pur (o :: os)) fun os => pur (o :: os)) lendL)))
  (sIf (mB (mBin gC pIsNot (oN 9) (oE (pur .non)))) (sRet (tupD (bnd (eVar 5) fun o => bnd (bnd (eVar 7) fun o => bnd (bnd (eVar 9) fun o => bnd (pur []) fun os => pur (o :: os)) fun os => pur (o :: os)) fun os => pur (o :: os)))) sSkip))
noncomputable def B2_first_unsafe : M Fl := (sFor (mWalk eA (bnd (oN 1) fun o => bnd (pur []) fun os => pur (o :: os))) (tgTup 2 (tgCons (setS 7) (tgCons (setS 8) tgNil))) B1_first_unsafe)
noncomputable def M_first_unsafe : M Fl := (sSeq (sFor (mWalk eA (bnd (oN 0) fun o => bnd (pur []) fun os => pur (o :: os))) (tgTup 2 (tgCons (setS 5) (tgCons (setS 6) tgNil))) B2_first_unsafe)
  (sRet (pur .non)))
noncomputable def Φ_first_unsafe : List D → Fo := runF 10 [true, true, true, true, true] M_first_unsafe
theorem ok_first_unsafe {P : Program} {w : World} {K : PySem.W.Frag} {mg : Str → Option Value} {base : Heap} {xr : (Addr → Prop) → Hp → D → Value → Option Addr → Prop} {f : Addr} {fd : FuncData} (F : Fun K "first_unsafe" "first_unsafe" st_first_unsafe_ f fd) (z_enumerate : mg "enumerate" = none) (F_couple_fault : FnY P w K mg base xr 5 "couple_fault" 5 Φ_couple_fault) :
    FnOk P w K mg base (L2.CX P w) 6 f fd ["rows", "locks", "wanted", "s", "w"] (spF K xr 5 Φ_first_unsafe) :=
  have sc := sc_first_unsafe
  fn_ok (N := ["rows", "locks", "wanted", "s", "w", "at", "row", "its", "lots", "found"]) (m := M_first_unsafe) [true, true, true, true, true] F sc rfl fun cdv A outer s H E hr c =>
  (ss_cons (st_for (i_enum z_enumerate (oL1 (vO 0) oL0)) (fun c => (gT rfl (gL1 (gN 5 sc.nd) (gL1 (gN 6 sc.nd) gL0)))) (fun c => (ss_one (st_for (i_enum z_enumerate (oL1 (vO 1) oL0)) (fun c => (gT rfl (gL1 (gN 7 sc.nd) (gL1 (gN 8 sc.nd) gL0)))) (fun c => (ss_cons (stSet 9 sc.nd (s_call F_couple_fault (hr.mono (by decide)) takes_cx (aL (oL1 (vO 8) (oL1 (vO 6) (oL1 (o_val (eCmp (o_in (hu_room1 hr)) (o_val (s_tup (vL1 (vE 5) (vL1 (vE 7) vL0)))) (vO 2))) (oL1 (vO 3) (oL1 (vO 4) oL0))))))))
  (ss_one (st_if (tCmp o_isNot (vO 9) (o_val s_non)) (ss_one (st_ret (s_tup (vL1 (vE 5) (vL1 (vE 7) (vL1 (vE 9) vL0)))))) ss_nil)))) owns_cx rfl))) owns_cx rfl)
  (ss_one (st_ret s_non)))
abbrev st_is_safe_ : Stmt := topS 11
theorem sc_is_safe : FnScope ["rows", "locks", "wanted", "s", "w"] ["rows", "locks", "wanted", "s", "w"] (defScope st_is_safe_) := ⟨rfl, rfl, rfl, by decide +kernel, rfl, by decide +kernel, by decide +kernel⟩
noncomputable def M_is_safe : M Fl := (sRet (mBin gC pIs (oE (mCall 5 Φ_first_unsafe (bnd (bnd (oN 0) fun o => bnd (bnd (oN 1) fun o => bnd (bnd (oN 2) fun o => bnd (bnd (oN 3) fun o => bnd (bnd (oN 4) fun o => bnd (pur []) fun os => pur (o :: os)) fun os => pur (o :: os)) fun os => pur (o :: os)) fun os => pur (o :: os)) fun os => pur (o :: os)) lendL))) (oE (pur .non))))
noncomputable def Φ_is_safe : List D → Fo := runF 5 [true, true, true, true, true] M_is_safe
theorem ok_is_safe {P : Program} {w : World} {K : PySem.W.Frag} {mg : Str → Option Value} {base : Heap} {xr : (Addr → Prop) → Hp → D → Value → Option Addr → Prop} {f : Addr} {fd : FuncData} (F : Fun K "is_safe" "is_safe" st_is_safe_ f fd) (F_first_unsafe : FnY P w K mg base xr 6 "first_unsafe" 5 Φ_first_unsafe) :
    FnOk P w K mg base (L2.CX P w) 7 f fd ["rows", "locks", "wanted", "s", "w"] (spF K xr 5 Φ_is_safe) :=
  have sc := sc_is_safe
  fn_ok (N := ["rows", "locks", "wanted", "s", "w"]) (m := M_is_safe) [true, true, true, true, true] F sc rfl fun cdv A outer s H E hr c =>
  (ss_one (st_ret (eCmp o_is (o_val (s_call F_first_unsafe (hr.mono (by decide)) takes_cx (aL (oL1 (vO 0) (oL1 (vO 1) (oL1 (vO 2) (oL1 (vO 3) (oL1 (vO 4) oL0)))))))) (o_val s_non))))
abbrev st_most_wear_ : Stmt := topS 12
theorem sc_most_wear : FnScope ["rows", "locks", "wanted", "s", "found", "w"] ["rows", "locks", "wanted", "s"] (defScope st_most_wear_) := ⟨rfl, rfl, rfl, by decide +kernel, rfl, by decide +kernel, by decide +kernel⟩
noncomputable def B1_most_wear : M D := (eVar 5)
noncomputable def B2_most_wear : M Bool := (mB (mCall 5 Φ_is_safe (bnd (bnd (oN 0) fun o => bnd (bnd (oN 1) fun o => bnd (bnd (oN 2) fun o => bnd (bnd (oN 3) fun o => bnd (bnd (oN 5) fun o => bnd (pur []) fun os => pur (o :: os)) fun os => pur (o :: os)) fun os => pur (o :: os)) fun os => pur (o :: os)) fun os => pur (o :: os)) lendL)))
noncomputable def M_most_wear : M Fl := (sSeq (sSet (setS 4) (mComp (mRng1 (bnd (mBin gC pAdd (oE (pur (.int 9))) (oE (pur (.int 1)))) fun o => bnd (pur []) fun os => pur (o :: os))) [5] (setS 5) B2_most_wear B1_most_wear))
  (sRet (mIf (mB (mBin gC pNe (oN 4) (oE (lstD (pur []))))) (mBin gC pIx (oN 4) (oE (mUn gC pNeg (oE (pur (.int 1)))))) (pur .non))))
noncomputable def Φ_most_wear : List D → Fo := runF 6 [true, true, true, true] M_most_wear
theorem ok_most_wear {P : Program} {w : World} {K : PySem.W.Frag} {mg : Str → Option Value} {base : Heap} {xr : (Addr → Prop) → Hp → D → Value → Option Addr → Prop} {f : Addr} {fd : FuncData} (F : Fun K "most_wear" "most_wear" st_most_wear_ f fd) {t_MOST_WEAR : Tok} (g_MOST_WEAR : mg "MOST_WEAR" = some (Value.int (9) t_MOST_WEAR)) (z_range : mg "range" = none) (F_is_safe : FnY P w K mg base xr 7 "is_safe" 5 Φ_is_safe) :
    FnOk P w K mg base (L2.CX P w) 8 f fd ["rows", "locks", "wanted", "s"] (spF K xr 4 Φ_most_wear) :=
  have sc := sc_most_wear
  fn_ok (N := ["rows", "locks", "wanted", "s", "found", "w"]) (m := M_most_wear) [true, true, true, true] F sc rfl fun cdv A outer s H E hr c =>
  (ss_cons (stLc 4 [("w", 5)] rfl sc.nd len_set (i_range1 z_range (vL1 (eOp o_add (o_val (s_globI g_MOST_WEAR)) (o_val s_int)) vL0)) (fun s H C cl fp c => (gN 5 sc.nd)) (fun s H C cl fp c => (ts_one (tVal (s_call F_is_safe (hr.mono (by decide)) takes0 (aL (oL1 (vO 0) (oL1 (vO 1) (oL1 (vO 2) (oL1 (vO 3) (oL1 (vO 5) oL0)))))))))) (fun s H C cl fp c => (vE 5)))
  (ss_one (st_ret (s_if (tCmp (o_ne (hu_room hr)) (vO 4) (o_val (s_lst vL0))) (eIx (vO 4) (o_val (s_un .c u_neg (o_val s_int)))) s_non))))
abbrev st_law_ : Stmt := topS 23
theorem sc_law : FnScope ["script", "bag", "turn", "chambers", "s", "w", "rows", "locks", "right", "wanted", "i", "row", "j", "lots", "told", "bad", "out", "wish", "fault", "most", "k", "chamber", "one", "cut", "lot", "its", "more"] ["script"] (defScope st_law_) := ⟨rfl, rfl, rfl, by decide +kernel, rfl, by decide +kernel, by decide +kernel⟩
noncomputable def B1_law : M D := (mBin gC pAdd (oE (pur (.int 1))) (oE (mCall 2 Φ__law_take (bnd (bnd (oN 1) fun o => bnd (bnd (oE (pur (.int 10))) fun o => bnd (pur []) fun os => pur (o :: os)) fun os => pur (o :: os)) lendL))))
noncomputable def B2_law : M D := (mPrim gC pTuple (bnd (oE (mComp (mRng1 (bnd (eVar 3) fun o => bnd (pur []) fun os => pur (o :: os))) [21] (setS 21) tAll B1_law)) fun o => bnd (pur []) fun os => pur (o :: os)))
noncomputable def B3_law : M D := (mCall 3 Φ__law_lots_drawn (bnd (bnd (oN 1) fun o => bnd (bnd (oN 3) fun o => bnd (bnd (oN 6) fun o => bnd (pur []) fun os => pur (o :: os)) fun os => pur (o :: os)) fun os => pur (o :: os)) lendL))
noncomputable def B4_law : M D := (mCall 3 Φ__law_passes (bnd (bnd (oN 13) fun o => bnd (bnd (oN 22) fun o => bnd (bnd (oN 4) fun o => bnd (pur []) fun os => pur (o :: os)) fun os => pur (o :: os)) fun os => pur (o :: os)) lendL))
noncomputable def B5_law : M D := (eVar 22)
noncomputable def B6_law : M Bool := (mNot (mB (mCall 3 Φ__law_passes (bnd (bnd (oN 13) fun o => bnd (bnd (oN 22) fun o => bnd (bnd (oN 4) fun o => bnd (pur []) fun os => pur (o :: os)) fun os => pur (o :: os)) fun os => pur (o :: os)) lendL))))
noncomputable def B7_law : M D := (eVar 25)
noncomputable def B8_law : M Bool := (mB (mChain iLe iLe (mBin gC pSub (oN 23) (oN 4)) (eVar 25) (mBin gC pAdd (oE (mBin gC pAdd (oN 23) (oN 5))) (oN 4))))
noncomputable def B9_law : M D := (pur (.int 1))
noncomputable def B10_law : M Bool := (mB (mBin gC pEq (oE (mComp (mSrc (oN 24)) [25] (setS 25) B8_law B7_law)) (oE (lstD (pur [])))))
noncomputable def B11_law : M Fl := (sSeq (sSet (setS 14) (mComp (mSrc (oE (mCall 2 Φ__law_worn (bnd (bnd (oN 11) fun o => bnd (bnd (oN 5) fun o => bnd (pur []) fun os => pur (o :: os)) fun os => pur (o :: os)) lendL)))) [22] (setS 22) tAll B4_law))
  (sSeq (sIf (mNot (mB (mCall 2 Φ__law_alike (bnd (bnd (oE (lstD (bnd (mCall 4 Φ_surely_opens (bnd (bnd (oN 13) fun o => bnd (bnd (oN 11) fun o => bnd (bnd (oN 4) fun o => bnd (bnd (oN 5) fun o => bnd (pur []) fun os => pur (o :: os)) fun os => pur (o :: os)) fun os => pur (o :: os)) fun os => pur (o :: os)) lendL)) fun o => bnd (bnd (mCall 4 Φ_perhaps_opens (bnd (bnd (oN 13) fun o => bnd (bnd (oN 11) fun o => bnd (bnd (oN 4) fun o => bnd (bnd (oN 5) fun o => bnd (pur []) fun os => pur (o :: os)) fun os => pur (o :: os)) fun os => pur (o :: os)) fun os => pur (o :: os)) lendL)) fun o => bnd (pur []) fun os => pur (o :: os)) fun os => pur (o :: os)))) fun o => bnd (bnd (oE (lstD (bnd (mBin gC pNotIn (oE (pur (.bl false))) (oN 14)) fun o => bnd (bnd (mBin gC pIn (oE (pur (.bl true))) (oN 14)) fun o => bnd (pur []) fun os => pur (o :: os)) fun os => pur (o :: os)))) fun o => bnd (pur []) fun os => pur (o :: os)) fun os => pur (o :: os)) lendL)))) (sRet (pur (.bl false))) sSkip)
  (sSeq (sSet (setS 15) (mComp (mSrc (oE (mCall 2 Φ__law_worn (bnd (bnd (oN 11) fun o => bnd (bnd (oN 5) fun o => bnd (pur []) fun os => pur (o :: os)) fun os => pur (o :: os)) lendL)))) [22] (setS 22) B6_law B5_law))
  (sSeq (sIf (mNot (mB (mCall 2 Φ__law_alike (bnd (bnd (oE (mCall 4 Φ_worn_row (bnd (bnd (oN 13) fun o => bnd (bnd (oN 11) fun o => bnd (bnd (oN 4) fun o => bnd (bnd (oN 5) fun o => bnd (pur []) fun os => pur (o :: os)) fun os => pur (o :: os)) fun os => pur (o :: os)) fun os => pur (o :: os)) lendL))) fun o => bnd (bnd (oE (mIf (mB (mBin gC pNe (oN 15) (oE (lstD (pur []))))) (mBin gC pIx (oN 15) (oE (pur (.int 0)))) (pur .non))) fun o => bnd (pur []) fun os => pur (o :: os)) fun os => pur (o :: os)) lendL)))) (sRet (pur (.bl false))) sSkip)
  (sSeq (sSet (setS 16) (mComp (mWalk zA2 (bnd (oN 11) fun o => bnd (bnd (oN 13) fun o => bnd (pur []) fun os => pur (o :: os)) fun os => pur (o :: os))) [23, 24] (tgTup 2 (tgCons (setS 23) (tgCons (setS 24) tgNil))) B10_law B9_law))
  (sSeq (sIf (mB (mBin gC pEq (oE (mBin gC pNe (oN 16) (oE (lstD (pur []))))) (oE (mBin gC pIn (oE (pur (.bl true))) (oN 14))))) (sRet (pur (.bl false))) sSkip)
  (sSeq (sSet (setS 8) (mBin gC pAdd (oN 8) (oE (mBin gC pMul (oE (lstD (bnd (tupD (bnd (eVar 10) fun o => bnd (bnd (eVar 12) fun o => bnd (pur []) fun os => pur (o :: os)) fun os => pur (o :: os))) fun o => bnd (pur []) fun os => pur (o :: os)))) (oE (mPrim gC pInt (bnd (oE (mBin gC pNotIn (oE (pur (.bl false))) (oN 14))) fun o => bnd (pur []) fun os => pur (o :: os))))))))
  (sSet (setS 9) (mBin gC pAdd (oN 9) (oE (mBin gC pMul (oE (lstD (bnd (tupD (bnd (eVar 10) fun o => bnd (bnd (eVar 12) fun o => bnd (pur []) fun os => pur (o :: os)) fun os => pur (o :: os))) fun o => bnd (pur []) fun os => pur (o :: os)))) (oE (mCall 2 Φ__law_take (bnd (bnd (oN 1) fun o => bnd (bnd (oE (pur (.int 2))) fun o => bnd (pur []) fun os => pur (o :: os)) fun os => pur (o :: os)) lendL))))))))))))))
noncomputable def B12_law : M Fl := (sFor (mWalk eA (bnd (oN 7) fun o => bnd (pur []) fun os => pur (o :: os))) (tgTup 2 (tgCons (setS 12) (tgCons (setS 13) tgNil))) B11_law)
noncomputable def B13_law : M D := (eVar 26)
noncomputable def B14_law : M Bool := (mAnd (mB (mBin gC pLt (oN 26) (oE (pur (.int 4))))) (mB (mBin gC pIs (oE (mCall 5 Φ__law_fault (bnd (bnd (oN 6) fun o => bnd (bnd (oN 7) fun o => bnd (bnd (oN 17) fun o => bnd (bnd (oN 4) fun o => bnd (bnd (oN 26) fun o => bnd (pur []) fun os => pur (o :: os)) fun os => pur (o :: os)) fun os => pur (o :: os)) fun os => pur (o :: os)) fun os => pur (o :: os)) lendL))) (oE (pur .non)))))
noncomputable def B15_law : M Fl := (sSeq (sSet (setS 18) (mCall 5 Φ__law_fault (bnd (bnd (oN 6) fun o => bnd (bnd (oN 7) fun o => bnd (bnd (oN 17) fun o => bnd (bnd (oN 4) fun o => bnd (bnd (oN 5) fun o => bnd (pur []) fun os => pur (o :: os)) fun os => pur (o :: os)) fun os => pur (o :: os)) fun os => pur (o :: os)) fun os => pur (o :: os)) lendL)))
  (sSeq (sIf (mNot (mB (mCall 2 Φ__law_alike (bnd (bnd (oE (lstD (bnd (mCall 5 Φ_first_unsafe (bnd (bnd (oN 6) fun o => bnd (bnd (oN 7) fun o => bnd (bnd (oN 17) fun o => bnd (bnd (oN 4) fun o => bnd (bnd (oN 5) fun o => bnd (pur []) fun os => pur (o :: os)) fun os => pur (o :: os)) fun os => pur (o :: os)) fun os => pur (o :: os)) fun os => pur (o :: os)) lendL)) fun o => bnd (bnd (mCall 5 Φ_is_safe (bnd (bnd (oN 6) fun o => bnd (bnd (oN 7) fun o => bnd (bnd (oN 17) fun o => bnd (bnd (oN 4) fun o => bnd (bnd (oN 5) fun o => bnd (pur []) fun os => pur (o :: os)) fun os => pur (o :: os)) fun os => pur (o :: os)) fun os => pur (o :: os)) fun os => pur (o :: os)) lendL)) fun o => bnd (pur []) fun os => pur (o :: os)) fun os => pur (o :: os)))) fun o => bnd (bnd (oE (lstD (bnd (eVar 18) fun o => bnd (bnd (mBin gC pIs (oN 18) (oE (pur .non))) fun o => bnd (pur []) fun os => pur (o :: os)) fun os => pur (o :: os)))) fun o => bnd (pur []) fun os => pur (o :: os)) fun os => pur (o :: os)) lendL)))) (sRet (pur (.bl false))) sSkip)
  (sSeq (sSet (setS 19) (mComp (mRng1 (bnd (pur (.int 10)) fun o => bnd (pur []) fun os => pur (o :: os))) [26] (setS 26) B14_law B13_law))
  (sSeq (sSet (setS 14) (mCall 4 Φ_most_wear (bnd (bnd (oN 6) fun o => bnd (bnd (oN 7) fun o => bnd (bnd (oN 17) fun o => bnd (bnd (oN 4) fun o => bnd (pur []) fun os => pur (o :: os)) fun os => pur (o :: os)) fun os => pur (o :: os)) fun os => pur (o :: os)) lendL)))
  (sIf (mOr (mAnd (mB (mBin gC pEq (oN 19) (oE (lstD (pur []))))) (mB (mBin gC pIsNot (oN 14) (oE (pur .non))))) (mAnd (mB (mBin gC pNe (oN 19) (oE (lstD (pur []))))) (mOr (mB (mBin gC pIs (oN 14) (oE (pur .non)))) (mOr (mB (mBin gC pLt (oN 14) (oE (mBin gC pIx (oN 19) (oE (mUn gC pNeg (oE (pur (.int 1))))))))) (mAnd (mB (mBin gC pLt (oE (mBin gC pIx (oN 19) (oE (mUn gC pNeg (oE (pur (.int 1))))))) (oE (pur (.int 3))))) (mB (mBin gC pNe (oN 14) (oE (mBin gC pIx (oN 19) (oE (mUn gC pNeg (oE (pur (.int 1)))))))))))))) (sRet (pur (.bl false))) sSkip)))))
noncomputable def B16_law : M Fl := (sSeq (sParG 3 (tgCons (setS 3) (tgCons (setS 4) (tgCons (setS 5) tgNil))) (bnd (mBin gC pAdd (oE (pur (.int 1))) (oE (mCall 2 Φ__law_take (bnd (bnd (oN 1) fun o => bnd (bnd (oE (pur (.int 2))) fun o => bnd (pur []) fun os => pur (o :: os)) fun os => pur (o :: os)) lendL)))) fun o => bnd (bnd (mCall 2 Φ__law_take (bnd (bnd (oN 1) fun o => bnd (bnd (oE (pur (.int 4))) fun o => bnd (pur []) fun os => pur (o :: os)) fun os => pur (o :: os)) lendL)) fun o => bnd (bnd (mCall 2 Φ__law_take (bnd (bnd (oN 1) fun o => bnd (bnd (oE (pur (.int 4))) fun o => bnd (pur []) fun os => pur (o :: os)) fun os => pur (o :: os)) lendL)) fun o => bnd (pur []) fun os => pur (o :: os)) fun os => pur (o :: os)) fun os => pur (o :: os)))
  (sSeq (sSet (setS 6) (mPrim gC pTuple (bnd (oE (mComp (mRng1 (bnd (mBin gC pAdd (oE (pur (.int 1))) (oE (mCall 2 Φ__law_take (bnd (bnd (oN 1) fun o => bnd (bnd (oE (pur (.int 4))) fun o => bnd (pur []) fun os => pur (o :: os)) fun os => pur (o :: os)) lendL)))) fun o => bnd (pur []) fun os => pur (o :: os))) [20] (setS 20) tAll B2_law)) fun o => bnd (pur []) fun os => pur (o :: os))))
  (sSeq (sSet (setS 7) (mPrim gC pTuple (bnd (oE (mComp (mRng1 (bnd (mBin gC pAdd (oE (pur (.int 1))) (oE (mCall 2 Φ__law_take (bnd (bnd (oN 1) fun o => bnd (bnd (oE (pur (.int 4))) fun o => bnd (pur []) fun os => pur (o :: os)) fun os => pur (o :: os)) lendL)))) fun o => bnd (pur []) fun os => pur (o :: os))) [20] (setS 20) tAll B3_law)) fun o => bnd (pur []) fun os => pur (o :: os))))
  (sSeq (sPar 8 9 (bnd (lstD (pur [])) fun o => bnd (bnd (lstD (pur [])) fun o => bnd (pur []) fun os => pur (o :: os)) fun os => pur (o :: os)))
  (sSeq (sFor (mWalk eA (bnd (oN 6) fun o => bnd (pur []) fun os => pur (o :: os))) (tgTup 2 (tgCons (setS 10) (tgCons (setS 11) tgNil))) B12_law)
  (sFor (mSrc (oE (tupD (bnd (mPrim gC pTuple (bnd (oN 8) fun o => bnd (pur []) fun os => pur (o :: os))) fun o => bnd (bnd (mPrim gC pTuple (bnd (oN 9) fun o => bnd (pur []) fun os => pur (o :: os))) fun o => bnd (pur []) fun os => pur (o :: os)) fun os => pur (o :: os))))) (setS 17) B15_law))))))
noncomputable def M_law : M Fl := (sSeq (sSet (setS 1) (mCall 1 Φ__law_bag (bnd (bnd (oN 0) fun o => bnd (pur []) fun os => pur (o :: os)) lendL)))
  (sSeq (sFor (mRng1 (bnd (pur (.int 4)) fun o => bnd (pur []) fun os => pur (o :: os))) (setS 2) B16_law)
  (sRet (pur (.bl true)))))
noncomputable def Φ_law : List D → Fo := runF 27 [true] M_law
theorem ok_law {P : Program} {w : World} {K : PySem.W.Frag} {mg : Str → Option Value} {base : Heap} {xr : (Addr → Prop) → Hp → D → Value → Option Addr → Prop} {f : Addr} {fd : FuncData} (F : Fun K "law" "law" st_law_ f fd) (z_range : mg "range" = none) (z_tuple : mg "tuple" = none) (z_enumerate : mg "enumerate" = none) (z_zip : mg "zip" = none) (z_int : mg "int" = none) (F__law_bag : FnY P w K mg base xr 1 "_law_bag" 1 Φ__law_bag) (F__law_take : FnY P w K mg base xr 1 "_law_take" 2 Φ__law_take) (F__law_lots_drawn : FnY P w K mg base xr 3 "_law_lots_drawn" 3 Φ__law_lots_drawn) (F__law_worn : FnY P w K mg base xr 1 "_law_worn" 2 Φ__law_worn) (F__law_passes : FnY P w K mg base xr 1 "_law_passes" 3 Φ__law_passes) (F__law_alike : FnY P w K mg base xr 1 "_law_alike" 2 Φ__law_alike) (F_perhaps_opens : FnY P w K mg base xr 3 "perhaps_opens" 4 Φ_perhaps_opens) (F_surely_opens : FnY P w K mg base xr 3 "surely_opens" 4 Φ_surely_opens) (F_worn_row : FnY P w K mg base xr 4 "worn_row" 4 Φ_worn_row) (F__law_fault : FnY P w K mg base xr 2 "_law_fault" 5 Φ__law_fault) (F_is_safe : FnY P w K mg base xr 7 "is_safe" 5 Φ_is_safe) (F_first_unsafe : FnY P w K mg base xr 6 "first_unsafe" 5 Φ_first_unsafe) (F_most_wear : FnY P w K mg base xr 8 "most_wear" 4 Φ_most_wear) :
    FnOk P w K mg base (L2.CX P w) 9 f fd ["script"] (spF K xr 1 Φ_law) :=
  have sc := sc_law
  fn_ok (N := ["script", "bag", "turn", "chambers", "s", "w", "rows", "locks", "right", "wanted", "i", "row", "j", "lots", "told", "bad", "out", "wish", "fault", "most", "k", "chamber", "one", "cut", "lot", "its", "more"]) (m := M_law) [true] F sc rfl fun cdv A outer s H E hr c =>
  (ss_cons (stSet 1 sc.nd (s_call F__law_bag (hr.mono (by decide)) takes_cx (aL (oL1 (vO 0) oL0))))
  (ss_cons (st_for (i_range1 z_range (vL1 s_int vL0)) (fun c => (gN 2 sc.nd)) (fun c => (ss_cons (stParG rfl (gL1 (gN 3 sc.nd) (gL1 (gN 4 sc.nd) (gL1 (gN 5 sc.nd) gL0))) (vL1 (eOp o_add (o_val s_int) (o_val (s_call F__law_take (hr.mono (by decide)) takes_cx (aL (oL1 (vO 1) (oL1 (o_val s_int) oL0)))))) (vL1 (s_call F__law_take (hr.mono (by decide)) takes_cx (aL (oL1 (vO 1) (oL1 (o_val s_int) oL0)))) (vL1 (s_call F__law_take (hr.mono (by decide)) takes_cx (aL (oL1 (vO 1) (oL1 (o_val s_int) oL0)))) vL0))))
  (ss_cons (stSet 6 sc.nd (eTy c_tuple z_tuple bb_tuple (oL1 (o_val (eLc [("k", 20)] rfl sc.nd len_set (i_range1 z_range (vL1 (eOp o_add (o_val s_int) (o_val (s_call F__law_take (hr.mono (by decide)) takes_cx (aL (oL1 (vO 1) (oL1 (o_val s_int) oL0)))))) vL0)) (fun s H C cl fp c => (gN 20 sc.nd)) (fun s H C cl fp c => ts_nil) (fun s H C cl fp c => (eTy c_tuple z_tuple bb_tuple (oL1 (o_val (eLc [("chamber", 21)] rfl sc.nd len_set (i_range1 z_range (vL1 (vE 3) vL0)) (fun s H C cl fp c => (gN 21 sc.nd)) (fun s H C cl fp c => ts_nil) (fun s H C cl fp c => (eOp o_add (o_val s_int) (o_val (s_call F__law_take (hr.mono (by decide)) takes0 (aL (oL1 (vO 1) (oL1 (o_val s_int) oL0))))))))) oL0))))) oL0)))
  (ss_cons (stSet 7 sc.nd (eTy c_tuple z_tuple bb_tuple (oL1 (o_val (eLc [("k", 20)] rfl sc.nd len_set (i_range1 z_range (vL1 (eOp o_add (o_val s_int) (o_val (s_call F__law_take (hr.mono (by decide)) takes_cx (aL (oL1 (vO 1) (oL1 (o_val s_int) oL0)))))) vL0)) (fun s H C cl fp c => (gN 20 sc.nd)) (fun s H C cl fp c => ts_nil) (fun s H C cl fp c => (s_call F__law_lots_drawn (hr.mono (by decide)) takes0 (aL (oL1 (vO 1) (oL1 (vO 3) (oL1 (vO 6) oL0)))))))) oL0)))
  (ss_cons (stPar 8 9 rfl sc.nd (vL1 (s_lst vL0) (vL1 (s_lst vL0) vL0)))
  (ss_cons (st_for (i_enum z_enumerate (oL1 (vO 6) oL0)) (fun c => (gT rfl (gL1 (gN 10 sc.nd) (gL1 (gN 11 sc.nd) gL0)))) (fun c => (ss_one (st_for (i_enum z_enumerate (oL1 (vO 7) oL0)) (fun c => (gT rfl (gL1 (gN 12 sc.nd) (gL1 (gN 13 sc.nd) gL0)))) (fun c => (ss_cons (stLc 14 [("one", 22)] rfl sc.nd len_set (i_seq (o_val (s_call F__law_worn (hr.mono (by decide)) takes_cx (aL (oL1 (vO 11) (oL1 (vO 5) oL0)))))) (fun s H C cl fp c => (gN 22 sc.nd)) (fun s H C cl fp c => ts_nil) (fun s H C cl fp c => (s_call F__law_passes (hr.mono (by decide)) takes0 (aL (oL1 (vO 13) (oL1 (vO 22) (oL1 (vO 4) oL0)))))))
  (ss_cons (st_if (t_not (tVal (s_call F__law_alike (hr.mono (by decide)) takes_cx (aL (oL1 (o_val (s_lst (vL1 (s_call F_surely_opens (hr.mono (by decide)) takes_cx (aL (oL1 (vO 13) (oL1 (vO 11) (oL1 (vO 4) (oL1 (vO 5) oL0)))))) (vL1 (s_call F_perhaps_opens (hr.mono (by decide)) takes_cx (aL (oL1 (vO 13) (oL1 (vO 11) (oL1 (vO 4) (oL1 (vO 5) oL0)))))) vL0)))) (oL1 (o_val (s_lst (vL1 (eCmp (o_notIn (hu_room1 hr)) (o_val s_bl) (vO 14)) (vL1 (eCmp (o_in (hu_room1 hr)) (o_val s_bl) (vO 14)) vL0)))) oL0)))))) (ss_one (st_ret s_bl)) ss_nil)
  (ss_cons (stLc 15 [("one", 22)] rfl sc.nd len_set (i_seq (o_val (s_call F__law_worn (hr.mono (by decide)) takes_cx (aL (oL1 (vO 11) (oL1 (vO 5) oL0)))))) (fun s H C cl fp c => (gN 22 sc.nd)) (fun s H C cl fp c => (ts_one (t_not (tVal (s_call F__law_passes (hr.mono (by decide)) takes0 (aL (oL1 (vO 13) (oL1 (vO 22) (oL1 (vO 4) oL0))))))))) (fun s H C cl fp c => (vE 22)))
  (ss_cons (st_if (t_not (tVal (s_call F__law_alike (hr.mono (by decide)) takes_cx (aL (oL1 (o_val (s_call F_worn_row (hr.mono (by decide)) takes_cx (aL (oL1 (vO 13) (oL1 (vO 11) (oL1 (vO 4) (oL1 (vO 5) oL0))))))) (oL1 (o_val (s_if (tCmp (o_ne (hu_room hr)) (vO 15) (o_val (s_lst vL0))) (eIx (vO 15) (o_val s_int)) s_non)) oL0)))))) (ss_one (st_ret s_bl)) ss_nil)
  (ss_cons (stLc 16 [("cut", 23), ("lot", 24)] rfl sc.nd (len_tup (len_cons len_set (len_cons len_set len_nil))) (i_zip2 z_zip (oL1 (vO 11) (oL1 (vO 13) oL0))) (fun s H C cl fp c => (gT rfl (gL1 (gN 23 sc.nd) (gL1 (gN 24 sc.nd) gL0)))) (fun s H C cl fp c => (ts_one (tCmp (o_eq (hu_room hr)) (o_val (eLc [("its", 25)] rfl sc.nd len_set (i_seq (vO 24)) (fun s H C cl fp c => (gN 25 sc.nd)) (fun s H C cl fp c => (ts_one (tChn k_le k_le (eOp o_sub (vO 23) (vO 4)) (vE 25) (eOp o_add (o_val (eOp o_add (vO 23) (vO 5))) (vO 4))))) (fun s H C cl fp c => (vE 25)))) (o_val (s_lst vL0))))) (fun s H C cl fp c => s_int))
  (ss_cons (st_if (tCmp (o_eq (hu_room hr)) (o_val (eCmp (o_ne (hu_room hr)) (vO 16) (o_val (s_lst vL0)))) (o_val (eCmp (o_in (hu_room1 hr)) (o_val s_bl) (vO 14)))) (ss_one (st_ret s_bl)) ss_nil)
  (ss_cons (stSet 8 sc.nd (eOp o_add (vO 8) (o_val (eOp o_mul (o_val (s_lst (vL1 (s_tup (vL1 (vE 10) (vL1 (vE 12) vL0))) vL0))) (o_val (eTy c_int z_int bb_int (oL1 (o_val (eCmp (o_notIn (hu_room1 hr)) (o_val s_bl) (vO 14))) oL0)))))))
  (ss_one (stSet 9 sc.nd (eOp o_add (vO 9) (o_val (eOp o_mul (o_val (s_lst (vL1 (s_tup (vL1 (vE 10) (vL1 (vE 12) vL0))) vL0))) (o_val (s_call F__law_take (hr.mono (by decide)) takes_cx (aL (oL1 (vO 1) (oL1 (o_val s_int) oL0)))))))))))))))))) owns_cx rfl))) owns_cx rfl)
  (ss_one (st_for (i_seq (o_val (s_tup (vL1 (eTy c_tuple z_tuple bb_tuple (oL1 (vO 8) oL0)) (vL1 (eTy c_tuple z_tuple bb_tuple (oL1 (vO 9) oL0)) vL0))))) (fun c => (gN 17 sc.nd)) (fun c => (ss_cons (stSet 18 sc.nd (s_call F__law_fault (hr.mono (by decide)) takes_cx (aL (oL1 (vO 6) (oL1 (vO 7) (oL1 (vO 17) (oL1 (vO 4) (oL1 (vO 5) oL0))))))))
  (ss_cons (st_if (t_not (tVal (s_call F__law_alike (hr.mono (by decide)) takes_cx (aL (oL1 (o_val (s_lst (vL1 (s_call F_first_unsafe (hr.mono (by decide)) takes_cx (aL (oL1 (vO 6) (oL1 (vO 7) (oL1 (vO 17) (oL1 (vO 4) (oL1 (vO 5) oL0))))))) (vL1 (s_call F_is_safe (hr.mono (by decide)) takes_cx (aL (oL1 (vO 6) (oL1 (vO 7) (oL1 (vO 17) (oL1 (vO 4) (oL1 (vO 5) oL0))))))) vL0)))) (oL1 (o_val (s_lst (vL1 (vE 18) (vL1 (eCmp o_is (vO 18) (o_val s_non)) vL0)))) oL0)))))) (ss_one (st_ret s_bl)) ss_nil)
  (ss_cons (stLc 19 [("more", 26)] rfl sc.nd len_set (i_range1 z_range (vL1 s_int vL0)) (fun s H C cl fp c => (gN 26 sc.nd)) (fun s H C cl fp c => (ts_one (PW.pt (w_and (tCmp o_lt (vO 26) (o_val s_int)) (w_and1 (tCmp o_is (o_val (s_call F__law_fault (hr.mono (by decide)) takes0 (aL (oL1 (vO 6) (oL1 (vO 7) (oL1 (vO 17) (oL1 (vO 4) (oL1 (vO 26) oL0)))))))) (o_val s_non))))))) (fun s H C cl fp c => (vE 26)))
  (ss_cons (stSet 14 sc.nd (s_call F_most_wear (hr.mono (by decide)) takes_cx (aL (oL1 (vO 6) (oL1 (vO 7) (oL1 (vO 17) (oL1 (vO 4) oL0)))))))
  (ss_one (st_if (PW.pt (w_or (PW.pt (w_and (tCmp (o_eq (hu_room hr)) (vO 19) (o_val (s_lst vL0))) (w_and1 (tCmp o_isNot (vO 14) (o_val s_non))))) (w_or1 (PW.pt (w_and (tCmp (o_ne (hu_room hr)) (vO 19) (o_val (s_lst vL0))) (w_and1 (PW.pt (w_or (tCmp o_is (vO 14) (o_val s_non)) (w_or (tCmp o_lt (vO 14) (o_val (eIx (vO 19) (o_val (s_un .c u_neg (o_val s_int)))))) (w_or1 (PW.pt (w_and (tCmp o_lt (o_val (eIx (vO 19) (o_val (s_un .c u_neg (o_val s_int))))) (o_val s_int)) (w_and1 (tCmp (o_ne (hu_room hr)) (vO 14) (o_val (eIx (vO 19) (o_val (s_un .c u_neg (o_val s_int))))))))))))))))))) (ss_one (st_ret s_bl)) ss_nil))))))) owns_cx rfl)))))))) owns_cx rfl)
  (ss_one (st_ret s_bl))))
/-! what the top has written -/
theorem all_mk {l : PySem.W.OpenLaw} {w : World} {K : PySem.W.Frag} {h : Heap} {mg : Str → Option Value} {fa : Addr} {xr : (Addr → Prop) → Hp → D → Value → Option Addr → Prop} (X : K.In h) (G : h.Ns mainGlobals mg) (hfa : mg "law" = some (.ref fa))
    {f0 : Addr} {od0 an0 : Option Addr} {sl0 : Array (Option Value)} {oc0 kV0 dc0 pm0 cd0 ct0 : Value}
    (a0 : PySem.W.nsIn K mainGlobals "_law_bag" = some (some (.ref f0)))
    (l0 : K.lookup f0 = some ⟨oc0, od0, .func (PySem.W.fnOf "_law_bag" "_law_bag" (defArgs st__law_bag_) (defBody st__law_bag_) (defScope st__law_bag_) .none kV0 dc0 pm0 an0 cd0 ct0), sl0⟩)
    (c0 : PySem.W.codeIn K cd0 "_law_bag" = true) (k0 : PySem.W.keepIn K (.ref f0) = true)
    {f1 : Addr} {od1 an1 : Option Addr} {sl1 : Array (Option Value)} {oc1 kV1 dc1 pm1 cd1 ct1 : Value}
    (a1 : PySem.W.nsIn K mainGlobals "_law_take" = some (some (.ref f1)))
    (l1 : K.lookup f1 = some ⟨oc1, od1, .func (PySem.W.fnOf "_law_take" "_law_take" (defArgs st__law_take_) (defBody st__law_take_) (defScope st__law_take_) .none kV1 dc1 pm1 an1 cd1 ct1), sl1⟩)
    (c1 : PySem.W.codeIn K cd1 "_law_take" = true) (k1 : PySem.W.keepIn K (.ref f1) = true)
    {f2 : Addr} {od2 an2 : Option Addr} {sl2 : Array (Option Value)} {oc2 kV2 dc2 pm2 cd2 ct2 : Value}
    (a2 : PySem.W.nsIn K mainGlobals "_law_some" = some (some (.ref f2)))
    (l2 : K.lookup f2 = some ⟨oc2, od2, .func (PySem.W.fnOf "_law_some" "_law_some" (defArgs st__law_some_) (defBody st__law_some_) (defScope st__law_some_) .none kV2 dc2 pm2 an2 cd2 ct2), sl2⟩)
    (c2 : PySem.W.codeIn K cd2 "_law_some" = true) (k2 : PySem.W.keepIn K (.ref f2) = true)
    {f3 : Addr} {od3 an3 : Option Addr} {sl3 : Array (Option Value)} {oc3 kV3 dc3 pm3 cd3 ct3 : Value}
    (a3 : PySem.W.nsIn K mainGlobals "_law_mixed" = some (some (.ref f3)))
    (l3 : K.lookup f3 = some ⟨oc3, od3, .func (PySem.W.fnOf "_law_mixed" "_law_mixed" (defArgs st__law_mixed_) (defBody st__law_mixed_) (defScope st__law_mixed_) .none kV3 dc3 pm3 an3 cd3 ct3), sl3⟩)
    (c3 : PySem.W.codeIn K cd3 "_law_mixed" = true) (k3 : PySem.W.keepIn K (.ref f3) = true)
    {f4 : Addr} {od4 an4 : Option Addr} {sl4 : Array (Option Value)} {oc4 kV4 dc4 pm4 cd4 ct4 : Value}
    (a4 : PySem.W.nsIn K mainGlobals "_law_lots_drawn" = some (some (.ref f4)))
    (l4 : K.lookup f4 = some ⟨oc4, od4, .func (PySem.W.fnOf "_law_lots_drawn" "_law_lots_drawn" (defArgs st__law_lots_drawn_) (defBody st__law_lots_drawn_) (defScope st__law_lots_drawn_) .none kV4 dc4 pm4 an4 cd4 ct4), sl4⟩)
    (c4 : PySem.W.codeIn K cd4 "_law_lots_drawn" = true) (k4 : PySem.W.keepIn K (.ref f4) = true)
    {f5 : Addr} {od5 an5 : Option Addr} {sl5 : Array (Option Value)} {oc5 kV5 dc5 pm5 cd5 ct5 : Value}
    (a5 : PySem.W.nsIn K mainGlobals "_law_worn" = some (some (.ref f5)))
    (l5 : K.lookup f5 = some ⟨oc5, od5, .func (PySem.W.fnOf "_law_worn" "_law_worn" (defArgs st__law_worn_) (defBody st__law_worn_) (defScope st__law_worn_) .none kV5 dc5 pm5 an5 cd5 ct5), sl5⟩)
    (c5 : PySem.W.codeIn K cd5 "_law_worn" = true) (k5 : PySem.W.keepIn K (.ref f5) = true)
    {f6 : Addr} {od6 an6 : Option Addr} {sl6 : Array (Option Value)} {oc6 kV6 dc6 pm6 cd6 ct6 : Value}
    (a6 : PySem.W.nsIn K mainGlobals "_law_passes" = some (some (.ref f6)))
    (l6 : K.lookup f6 = some ⟨oc6, od6, .func (PySem.W.fnOf "_law_passes" "_law_passes" (defArgs st__law_passes_) (defBody st__law_passes_) (defScope st__law_passes_) .none kV6 dc6 pm6 an6 cd6 ct6), sl6⟩)
    (c6 : PySem.W.codeIn K cd6 "_law_passes" = true) (k6 : PySem.W.keepIn K (.ref f6) = true)
    {f7 : Addr} {od7 an7 : Option Addr} {sl7 : Array (Option Value)} {oc7 kV7 dc7 pm7 cd7 ct7 : Value}
    (a7 : PySem.W.nsIn K mainGlobals "_law_alike" = some (some (.ref f7)))
    (l7 : K.lookup f7 = some ⟨oc7, od7, .func (PySem.W.fnOf "_law_alike" "_law_alike" (defArgs st__law_alike_) (defBody st__law_alike_) (defScope st__law_alike_) .none kV7 dc7 pm7 an7 cd7 ct7), sl7⟩)
    (c7 : PySem.W.codeIn K cd7 "_law_alike" = true) (k7 : PySem.W.keepIn K (.ref f7) = true)
    {f8 : Addr} {od8 an8 : Option Addr} {sl8 : Array (Option Value)} {oc8 kV8 dc8 pm8 cd8 ct8 : Value}
    (a8 : PySem.W.nsIn K mainGlobals "is_near_lot" = some (some (.ref f8)))
    (l8 : K.lookup f8 = some ⟨oc8, od8, .func (PySem.W.fnOf "is_near_lot" "is_near_lot" (defArgs st_is_near_lot_) (defBody st_is_near_lot_) (defScope st_is_near_lot_) .none kV8 dc8 pm8 an8 cd8 ct8), sl8⟩)
    (c8 : PySem.W.codeIn K cd8 "is_near_lot" = true) (k8 : PySem.W.keepIn K (.ref f8) = true)
    {f9 : Addr} {od9 an9 : Option Addr} {sl9 : Array (Option Value)} {oc9 kV9 dc9 pm9 cd9 ct9 : Value}
    (a9 : PySem.W.nsIn K mainGlobals "passing" = some (some (.ref f9)))
    (l9 : K.lookup f9 = some ⟨oc9, od9, .func (PySem.W.fnOf "passing" "passing" (defArgs st_passing_) (defBody st_passing_) (defScope st_passing_) .none kV9 dc9 pm9 an9 cd9 ct9), sl9⟩)
    (c9 : PySem.W.codeIn K cd9 "passing" = true) (k9 : PySem.W.keepIn K (.ref f9) = true)
    {f10 : Addr} {od10 an10 : Option Addr} {sl10 : Array (Option Value)} {oc10 kV10 dc10 pm10 cd10 ct10 : Value}
    (a10 : PySem.W.nsIn K mainGlobals "perhaps_opens" = some (some (.ref f10)))
    (l10 : K.lookup f10 = some ⟨oc10, od10, .func (PySem.W.fnOf "perhaps_opens" "perhaps_opens" (defArgs st_perhaps_opens_) (defBody st_perhaps_opens_) (defScope st_perhaps_opens_) .none kV10 dc10 pm10 an10 cd10 ct10), sl10⟩)
    (c10 : PySem.W.codeIn K cd10 "perhaps_opens" = true) (k10 : PySem.W.keepIn K (.ref f10) = true)
    {f11 : Addr} {od11 an11 : Option Addr} {sl11 : Array (Option Value)} {oc11 kV11 dc11 pm11 cd11 ct11 : Value}
    (a11 : PySem.W.nsIn K mainGlobals "surely_opens" = some (some (.ref f11)))
    (l11 : K.lookup f11 = some ⟨oc11, od11, .func (PySem.W.fnOf "surely_opens" "surely_opens" (defArgs st_surely_opens_) (defBody st_surely_opens_) (defScope st_surely_opens_) .none kV11 dc11 pm11 an11 cd11 ct11), sl11⟩)
    (c11 : PySem.W.codeIn K cd11 "surely_opens" = true) (k11 : PySem.W.keepIn K (.ref f11) = true)
    {f12 : Addr} {od12 an12 : Option Addr} {sl12 : Array (Option Value)} {oc12 kV12 dc12 pm12 cd12 ct12 : Value}
    (a12 : PySem.W.nsIn K mainGlobals "worn_row" = some (some (.ref f12)))
    (l12 : K.lookup f12 = some ⟨oc12, od12, .func (PySem.W.fnOf "worn_row" "worn_row" (defArgs st_worn_row_) (defBody st_worn_row_) (defScope st_worn_row_) .none kV12 dc12 pm12 an12 cd12 ct12), sl12⟩)
    (c12 : PySem.W.codeIn K cd12 "worn_row" = true) (k12 : PySem.W.keepIn K (.ref f12) = true)
    {f13 : Addr} {od13 an13 : Option Addr} {sl13 : Array (Option Value)} {oc13 kV13 dc13 pm13 cd13 ct13 : Value}
    (a13 : PySem.W.nsIn K mainGlobals "_law_fault" = some (some (.ref f13)))
    (l13 : K.lookup f13 = some ⟨oc13, od13, .func (PySem.W.fnOf "_law_fault" "_law_fault" (defArgs st__law_fault_) (defBody st__law_fault_) (defScope st__law_fault_) .none kV13 dc13 pm13 an13 cd13 ct13), sl13⟩)
    (c13 : PySem.W.codeIn K cd13 "_law_fault" = true) (k13 : PySem.W.keepIn K (.ref f13) = true)
    {f14 : Addr} {od14 an14 : Option Addr} {sl14 : Array (Option Value)} {oc14 kV14 dc14 pm14 cd14 ct14 : Value}
    (a14 : PySem.W.nsIn K mainGlobals "opened_row" = some (some (.ref f14)))
    (l14 : K.lookup f14 = some ⟨oc14, od14, .func (PySem.W.fnOf "opened_row" "opened_row" (defArgs st_opened_row_) (defBody st_opened_row_) (defScope st_opened_row_) .none kV14 dc14 pm14 an14 cd14 ct14), sl14⟩)
    (c14 : PySem.W.codeIn K cd14 "opened_row" = true) (k14 : PySem.W.keepIn K (.ref f14) = true)
    {f15 : Addr} {od15 an15 : Option Addr} {sl15 : Array (Option Value)} {oc15 kV15 dc15 pm15 cd15 ct15 : Value}
    (a15 : PySem.W.nsIn K mainGlobals "couple_fault" = some (some (.ref f15)))
    (l15 : K.lookup f15 = some ⟨oc15, od15, .func (PySem.W.fnOf "couple_fault" "couple_fault" (defArgs st_couple_fault_) (defBody st_couple_fault_) (defScope st_couple_fault_) .none kV15 dc15 pm15 an15 cd15 ct15), sl15⟩)
    (c15 : PySem.W.codeIn K cd15 "couple_fault" = true) (k15 : PySem.W.keepIn K (.ref f15) = true)
    {f16 : Addr} {od16 an16 : Option Addr} {sl16 : Array (Option Value)} {oc16 kV16 dc16 pm16 cd16 ct16 : Value}
    (a16 : PySem.W.nsIn K mainGlobals "first_unsafe" = some (some (.ref f16)))
    (l16 : K.lookup f16 = some ⟨oc16, od16, .func (PySem.W.fnOf "first_unsafe" "first_unsafe" (defArgs st_first_unsafe_) (defBody st_first_unsafe_) (defScope st_first_unsafe_) .none kV16 dc16 pm16 an16 cd16 ct16), sl16⟩)
    (c16 : PySem.W.codeIn K cd16 "first_unsafe" = true) (k16 : PySem.W.keepIn K (.ref f16) = true)
    {f17 : Addr} {od17 an17 : Option Addr} {sl17 : Array (Option Value)} {oc17 kV17 dc17 pm17 cd17 ct17 : Value}
    (a17 : PySem.W.nsIn K mainGlobals "is_safe" = some (some (.ref f17)))
    (l17 : K.lookup f17 = some ⟨oc17, od17, .func (PySem.W.fnOf "is_safe" "is_safe" (defArgs st_is_safe_) (defBody st_is_safe_) (defScope st_is_safe_) .none kV17 dc17 pm17 an17 cd17 ct17), sl17⟩)
    (c17 : PySem.W.codeIn K cd17 "is_safe" = true) (k17 : PySem.W.keepIn K (.ref f17) = true)
    {f18 : Addr} {od18 an18 : Option Addr} {sl18 : Array (Option Value)} {oc18 kV18 dc18 pm18 cd18 ct18 : Value}
    (a18 : PySem.W.nsIn K mainGlobals "most_wear" = some (some (.ref f18)))
    (l18 : K.lookup f18 = some ⟨oc18, od18, .func (PySem.W.fnOf "most_wear" "most_wear" (defArgs st_most_wear_) (defBody st_most_wear_) (defScope st_most_wear_) .none kV18 dc18 pm18 an18 cd18 ct18), sl18⟩)
    (c18 : PySem.W.codeIn K cd18 "most_wear" = true) (k18 : PySem.W.keepIn K (.ref f18) = true)
    {f19 : Addr} {od19 an19 : Option Addr} {sl19 : Array (Option Value)} {oc19 kV19 dc19 pm19 cd19 ct19 : Value}
    (a19 : PySem.W.nsIn K mainGlobals "law" = some (some (.ref f19)))
    (l19 : K.lookup f19 = some ⟨oc19, od19, .func (PySem.W.fnOf "law" "law" (defArgs st_law_) (defBody st_law_) (defScope st_law_) .none kV19 dc19 pm19 an19 cd19 ct19), sl19⟩)
    (c19 : PySem.W.codeIn K cd19 "law" = true) (k19 : PySem.W.keepIn K (.ref f19) = true)
    {t_MOST_WEAR : Tok} (g_MOST_WEAR : PySem.W.nsIn K mainGlobals "MOST_WEAR" = some (some (Value.int (9) t_MOST_WEAR)))
    (z_abs : PySem.W.nsIn K mainGlobals "abs" = some none)
    (z_int : PySem.W.nsIn K mainGlobals "int" = some none)
    (z_len : PySem.W.nsIn K mainGlobals "len" = some none)
    (z_list : PySem.W.nsIn K mainGlobals "list" = some none)
    (z_tuple : PySem.W.nsIn K mainGlobals "tuple" = some none)
    (z_range : PySem.W.nsIn K mainGlobals "range" = some none)
    (z_sorted : PySem.W.nsIn K mainGlobals "sorted" = some none)
    (z_zip : PySem.W.nsIn K mainGlobals "zip" = some none)
    (z_isinstance : PySem.W.nsIn K mainGlobals "isinstance" = some none)
    (z_bool : PySem.W.nsIn K mainGlobals "bool" = some none)
    (z_str : PySem.W.nsIn K mainGlobals "str" = some none)
    (z_any : PySem.W.nsIn K mainGlobals "any" = some none)
    (z_all : PySem.W.nsIn K mainGlobals "all" = some none)
    (z_enumerate : PySem.W.nsIn K mainGlobals "enumerate" = some none)
    : ∃ fd : FuncData, (∀ (s : Shared) (v : Value), BindsTo s fd ⟨[v], []⟩ [("script", v)]) ∧ ∀ base : Heap, K.In base → base.Ns mainGlobals mg → FnOk l.prog w K mg base (L2.CX l.prog w) 9 fa fd ["script"] (spF K xr 1 Φ_law) := by
  have e := hfa.symm.trans (PySem.W.mg_of X G a19)
  cases e
  have g_MOST_WEAR := PySem.W.mg_of X G g_MOST_WEAR
  have z_abs := PySem.W.mg_none_of X G z_abs
  have z_int := PySem.W.mg_none_of X G z_int
  have z_len := PySem.W.mg_none_of X G z_len
  have z_list := PySem.W.mg_none_of X G z_list
  have z_tuple := PySem.W.mg_none_of X G z_tuple
  have z_range := PySem.W.mg_none_of X G z_range
  have z_sorted := PySem.W.mg_none_of X G z_sorted
  have z_zip := PySem.W.mg_none_of X G z_zip
  have z_isinstance := PySem.W.mg_none_of X G z_isinstance
  have z_bool := PySem.W.mg_none_of X G z_bool
  have z_str := PySem.W.mg_none_of X G z_str
  have z_any := PySem.W.mg_none_of X G z_any
  have z_all := PySem.W.mg_none_of X G z_all
  have z_enumerate := PySem.W.mg_none_of X G z_enumerate
  have U0 := fun_mk (st := st__law_bag_) l0 c0 k0
  have B0 := U0.binds (ps := ["script"]) fun _ _ _ _ _ _ us hl => match us, hl with | [_], _ => rfl
  have F__law_bag : ∀ base, FnY l.prog w K mg base xr 1 "_law_bag" 1 Φ__law_bag := fun base => ⟨_, _, _, ok__law_bag U0 z_abs, PySem.W.mg_of X G a0, U0.kp, B0⟩
  have U1 := fun_mk (st := st__law_take_) l1 c1 k1
  have B1 := U1.binds (ps := ["bag", "many"]) fun _ _ _ _ _ _ us hl => match us, hl with | [_, _], _ => rfl
  have F__law_take : ∀ base, FnY l.prog w K mg base xr 1 "_law_take" 2 Φ__law_take := fun base => ⟨_, _, _, ok__law_take U1 z_int, PySem.W.mg_of X G a1, U1.kp, B1⟩
  have U2 := fun_mk (st := st__law_some_) l2 c2 k2
  have B2 := U2.binds (ps := ["bag", "things"]) fun _ _ _ _ _ _ us hl => match us, hl with | [_, _], _ => rfl
  have F__law_some : ∀ base, FnY l.prog w K mg base xr 2 "_law_some" 2 Φ__law_some := fun base => ⟨_, _, _, ok__law_some U2 z_len (F__law_take base), PySem.W.mg_of X G a2, U2.kp, B2⟩
  have U3 := fun_mk (st := st__law_mixed_) l3 c3 k3
  have B3 := U3.binds (ps := ["bag", "things"]) fun _ _ _ _ _ _ us hl => match us, hl with | [_, _], _ => rfl
  have F__law_mixed : ∀ base, FnY l.prog w K mg base xr 2 "_law_mixed" 2 Φ__law_mixed := fun base => ⟨_, _, _, ok__law_mixed U3 z_list z_len (F__law_take base), PySem.W.mg_of X G a3, U3.kp, B3⟩
  have U4 := fun_mk (st := st__law_lots_drawn_) l4 c4 k4
  have B4 := U4.binds (ps := ["bag", "chambers", "rows"]) fun _ _ _ _ _ _ us hl => match us, hl with | [_, _, _], _ => rfl
  have F__law_lots_drawn : ∀ base, FnY l.prog w K mg base xr 3 "_law_lots_drawn" 3 Φ__law_lots_drawn := fun base => ⟨_, _, _, ok__law_lots_drawn U4 z_tuple z_range z_sorted (F__law_take base) (F__law_some base) (F__law_mixed base), PySem.W.mg_of X G a4, U4.kp, B4⟩
  have U5 := fun_mk (st := st__law_worn_) l5 c5 k5
  have B5 := U5.binds (ps := ["row", "w"]) fun _ _ _ _ _ _ us hl => match us, hl with | [_, _], _ => rfl
  have F__law_worn : ∀ base, FnY l.prog w K mg base xr 1 "_law_worn" 2 Φ__law_worn := fun base => ⟨_, _, _, ok__law_worn U5 z_range, PySem.W.mg_of X G a5, U5.kp, B5⟩
  have U6 := fun_mk (st := st__law_passes_) l6 c6 k6
  have B6 := U6.binds (ps := ["lots", "row", "s"]) fun _ _ _ _ _ _ us hl => match us, hl with | [_, _, _], _ => rfl
  have F__law_passes : ∀ base, FnY l.prog w K mg base xr 1 "_law_passes" 3 Φ__law_passes := fun base => ⟨_, _, _, ok__law_passes U6 z_zip z_abs, PySem.W.mg_of X G a6, U6.kp, B6⟩
  have U7 := fun_mk (st := st__law_alike_) l7 c7 k7
  have B7 := U7.binds (ps := ["found", "due"]) fun _ _ _ _ _ _ us hl => match us, hl with | [_, _], _ => rfl
  have F__law_alike : ∀ base, FnY l.prog w K mg base xr 1 "_law_alike" 2 Φ__law_alike := fun base => ⟨_, _, _, ok__law_alike U7 z_len z_isinstance z_bool z_str z_list z_tuple z_zip, PySem.W.mg_of X G a7, U7.kp, B7⟩
  have U8 := fun_mk (st := st_is_near_lot_) l8 c8 k8
  have B8 := U8.binds (ps := ["lot", "cut", "s"]) fun _ _ _ _ _ _ us hl => match us, hl with | [_, _, _], _ => rfl
  have F_is_near_lot : ∀ base, FnY l.prog w K mg base xr 1 "is_near_lot" 3 Φ_is_near_lot := fun base => ⟨_, _, _, ok_is_near_lot U8 z_abs z_any, PySem.W.mg_of X G a8, U8.kp, B8⟩
  have U9 := fun_mk (st := st_passing_) l9 c9 k9
  have B9 := U9.binds (ps := ["lot", "cut", "s", "w"]) fun _ _ _ _ _ _ us hl => match us, hl with | [_, _, _, _], _ => rfl
  have F_passing : ∀ base, FnY l.prog w K mg base xr 2 "passing" 4 Φ_passing := fun base => ⟨_, _, _, ok_passing U9 z_range (F_is_near_lot base), PySem.W.mg_of X G a9, U9.kp, B9⟩
  have U10 := fun_mk (st := st_perhaps_opens_) l10 c10 k10
  have B10 := U10.binds (ps := ["lots", "row", "s", "w"]) fun _ _ _ _ _ _ us hl => match us, hl with | [_, _, _, _], _ => rfl
  have F_perhaps_opens : ∀ base, FnY l.prog w K mg base xr 3 "perhaps_opens" 4 Φ_perhaps_opens := fun base => ⟨_, _, _, ok_perhaps_opens U10 z_zip z_any z_all (F_passing base), PySem.W.mg_of X G a10, U10.kp, B10⟩
  have U11 := fun_mk (st := st_surely_opens_) l11 c11 k11
  have B11 := U11.binds (ps := ["lots", "row", "s", "w"]) fun _ _ _ _ _ _ us hl => match us, hl with | [_, _, _, _], _ => rfl
  have F_surely_opens : ∀ base, FnY l.prog w K mg base xr 3 "surely_opens" 4 Φ_surely_opens := fun base => ⟨_, _, _, ok_surely_opens U11 z_zip z_all (F_passing base), PySem.W.mg_of X G a11, U11.kp, B11⟩
  have U12 := fun_mk (st := st_worn_row_) l12 c12 k12
  have B12 := U12.binds (ps := ["lots", "row", "s", "w"]) fun _ _ _ _ _ _ us hl => match us, hl with | [_, _, _, _], _ => rfl
  have F_worn_row : ∀ base, FnY l.prog w K mg base xr 4 "worn_row" 4 Φ_worn_row := fun base => ⟨_, _, _, ok_worn_row U12 z_zip z_all z_enumerate (F_surely_opens base) (F_passing base), PySem.W.mg_of X G a12, U12.kp, B12⟩
  have U13 := fun_mk (st := st__law_fault_) l13 c13 k13
  have B13 := U13.binds (ps := ["rows", "locks", "wanted", "s", "w"]) fun _ _ _ _ _ _ us hl => match us, hl with | [_, _, _, _, _], _ => rfl
  have F__law_fault : ∀ base, FnY l.prog w K mg base xr 2 "_law_fault" 5 Φ__law_fault := fun base => ⟨_, _, _, ok__law_fault U13 z_enumerate (F__law_worn base) (F__law_passes base), PySem.W.mg_of X G a13, U13.kp, B13⟩
  have U14 := fun_mk (st := st_opened_row_) l14 c14 k14
  have B14 := U14.binds (ps := ["lots", "row", "s", "w"]) fun _ _ _ _ _ _ us hl => match us, hl with | [_, _, _, _], _ => rfl
  have F_opened_row : ∀ base, FnY l.prog w K mg base xr 3 "opened_row" 4 Φ_opened_row := fun base => ⟨_, _, _, ok_opened_row U14 z_zip z_tuple (F_passing base), PySem.W.mg_of X G a14, U14.kp, B14⟩
  have U15 := fun_mk (st := st_couple_fault_) l15 c15 k15
  have B15 := U15.binds (ps := ["lots", "row", "is_wanted", "s", "w"]) fun _ _ _ _ _ _ us hl => match us, hl with | [_, _, _, _, _], _ => rfl
  have F_couple_fault : ∀ base, FnY l.prog w K mg base xr 5 "couple_fault" 5 Φ_couple_fault := fun base => ⟨_, _, _, ok_couple_fault U15 (F_worn_row base) (F_perhaps_opens base) (F_opened_row base), PySem.W.mg_of X G a15, U15.kp, B15⟩
  have U16 := fun_mk (st := st_first_unsafe_) l16 c16 k16
  have B16 := U16.binds (ps := ["rows", "locks", "wanted", "s", "w"]) fun _ _ _ _ _ _ us hl => match us, hl with | [_, _, _, _, _], _ => rfl
  have F_first_unsafe : ∀ base, FnY l.prog w K mg base xr 6 "first_unsafe" 5 Φ_first_unsafe := fun base => ⟨_, _, _, ok_first_unsafe U16 z_enumerate (F_couple_fault base), PySem.W.mg_of X G a16, U16.kp, B16⟩
  have U17 := fun_mk (st := st_is_safe_) l17 c17 k17
  have B17 := U17.binds (ps := ["rows", "locks", "wanted", "s", "w"]) fun _ _ _ _ _ _ us hl => match us, hl with | [_, _, _, _, _], _ => rfl
  have F_is_safe : ∀ base, FnY l.prog w K mg base xr 7 "is_safe" 5 Φ_is_safe := fun base => ⟨_, _, _, ok_is_safe U17 (F_first_unsafe base), PySem.W.mg_of X G a17, U17.kp, B17⟩
  have U18 := fun_mk (st := st_most_wear_) l18 c18 k18
  have B18 := U18.binds (ps := ["rows", "locks", "wanted", "s"]) fun _ _ _ _ _ _ us hl => match us, hl with | [_, _, _, _], _ => rfl
  have F_most_wear : ∀ base, FnY l.prog w K mg base xr 8 "most_wear" 4 Φ_most_wear := fun base => ⟨_, _, _, ok_most_wear U18 g_MOST_WEAR z_range (F_is_safe base), PySem.W.mg_of X G a18, U18.kp, B18⟩
  have U19 := fun_mk (st := st_law_) l19 c19 k19
  exact ⟨PySem.W.fnOf "law" "law" (defArgs st_law_) (defBody st_law_) (defScope st_law_) .none kV19 dc19 pm19 an19 cd19 ct19, fun s v => .of_eq rfl, fun base _ _ => ok_law U19 z_range z_tuple z_enumerate z_zip z_int (F__law_bag base) (F__law_take base) (F__law_lots_drawn base) (F__law_worn base) (F__law_passes base) (F__law_alike base) (F_perhaps_opens base) (F_surely_opens base) (F_worn_row base) (F__law_fault base) (F_is_safe base) (F_first_unsafe base) (F_most_wear base)⟩
end Y

end
section
set_option Elab.async false
set_option linter.all false
set_option maxRecDepth 100000
set_option autoImplicit false
/-! V1: direct meanings over encodings, by simp. -/
namespace Y
namespace U
open PySem L2
/-- encodings are cold -/
class Cd {α : Type} (e : α → D) : Prop where
  h : ∀ a, frz (e a) = e a
abbrev tT {α : Type} (e : α → D) (xs : List α) : D := .tup (xs.map e)
abbrev lT {α : Type} (e : α → D) (xs : List α) : D := .lst false (xs.map e)
instance : Cd D.int := ⟨fun _ => rfl⟩
instance : Cd D.bl := ⟨fun _ => rfl⟩
instance : Cd D.str := ⟨fun _ => rfl⟩
instance {α : Type} (f : α → List D) : Cd (fun a => D.tup (f a)) := ⟨fun _ => rfl⟩
instance {α : Type} (f : α → Int) : Cd (fun a => D.int (f a)) := ⟨fun _ => rfl⟩
instance {α : Type} (f : α → Bool) : Cd (fun a => D.bl (f a)) := ⟨fun _ => rfl⟩
instance {α : Type} (f : α → Str) : Cd (fun a => D.str (f a)) := ⟨fun _ => rfl⟩
instance {α : Type} : Cd (fun _ : α => D.non) := ⟨fun _ => rfl⟩
@[simp] theorem frzL_cd {α : Type} (e : α → D) [c : Cd e] (xs : List α) : frz.frzL (xs.map e) = xs.map e := frzL_cold' fun x hx => by
  obtain ⟨a, _, rfl⟩ := List.mem_map.mp hx
  exact c.h a
instance {α : Type} (e : α → D) [Cd e] : Cd (lT e) := ⟨fun a => by show D.lst false (frz.frzL (a.map e)) = _; rw [frzL_cd]⟩
instance {α β : Type} (e : β → D) [Cd e] (f : α → List β) : Cd (fun a => D.lst false ((f a).map e)) := ⟨fun a => by show D.lst false (frz.frzL ((f a).map e)) = _; rw [frzL_cd]⟩
/-- a D as it is -/
def oD {α : Type} (e : α → D) : Option α → D
  | some a => e a
  | none => .non
instance {α : Type} (e : α → D) [c : Cd e] : Cd (oD e) := ⟨fun a => by cases a with | none => rfl | some a => exact c.h a⟩
@[simp] theorem frz_i (i : Int) : frz (.int i) = .int i := rfl
@[simp] theorem frz_b (i : Bool) : frz (.bl i) = .bl i := rfl
@[simp] theorem frz_s (i : Str) : frz (.str i) = .str i := rfl
@[simp] theorem frz_n : frz .non = .non := rfl
@[simp] theorem frz_t (xs : List D) : frz (.tup xs) = .tup xs := rfl
@[simp] theorem frz_l (o : Bool) (xs : List D) : frz (.lst o xs) = .lst false (frz.frzL xs) := rfl
@[simp] theorem frzL_n : frz.frzL [] = [] := rfl
@[simp] theorem frzL_c (x : D) (xs : List D) : frz.frzL (x :: xs) = frz x :: frz.frzL xs := rfl
theorem uP_some {p : List D → Option D} {xs : List D} {d : D} (h : p xs = some d) : uP p xs = .ok (frz d) := by unfold uP; rw [h]
/-! ints -/
@[simp] theorem e_addN (a b : Int) : uP pAddN [.int a, .int b] = .ok (.int (a + b)) := rfl
@[simp] theorem e_add (a b : Int) : uP pAdd [.int a, .int b] = .ok (.int (a + b)) := rfl
@[simp] theorem e_sub (a b : Int) : uP pSub [.int a, .int b] = .ok (.int (a - b)) := rfl
@[simp] theorem e_addI (a b : Int) : uP pAddI [.int a, .int b] = .ok (.int (a + b)) := rfl
@[simp] theorem e_subI (a b : Int) : uP pSubI [.int a, .int b] = .ok (.int (a - b)) := rfl
@[simp] theorem e_neg (a : Int) : uP pNeg [.int a] = .ok (.int (-a)) := rfl
def absI (i : Int) : Int := if i < 0 then -i else i
@[simp] theorem e_abs (a : Int) : uP pAbs [.int a] = .ok (.int (absI a)) := rfl
@[simp] theorem e_lt (a b : Int) : uP pLt [.int a, .int b] = .ok (.bl (decide (a < b))) := rfl
@[simp] theorem e_le (a b : Int) : uP pLe [.int a, .int b] = .ok (.bl (decide (a ≤ b))) := rfl
@[simp] theorem e_gt (a b : Int) : uP pGt [.int a, .int b] = .ok (.bl (decide (b < a))) := rfl
@[simp] theorem e_ge (a b : Int) : uP pGe [.int a, .int b] = .ok (.bl (decide (b ≤ a))) := rfl
@[simp] theorem e_int (a : Int) : uP pInt [.int a] = .ok (.int a) := rfl
@[simp] theorem e_intb (b : Bool) : uP pInt [.bl b] = .ok (.int (if b then 1 else 0)) := rfl
theorem e_mod {a b : Int} (h : 0 < b) : uP pMod [.int a, .int b] = .ok (.int (a % b)) := by
  have e : pMod [.int a, .int b] = some (.int (a % b)) := by
    show (if cMod a b = true then some (D.int (a % b)) else none) = _
    rw [if_pos (by unfold cMod; simpa using h)]
  unfold uP; rw [e]; rfl
theorem e_div {a b : Int} (h : 0 < b) (h2 : b < 1073741824) : uP pDiv [.int a, .int b] = .ok (.int (a / b)) := by
  have e : pDiv [.int a, .int b] = some (.int (a / b)) := by
    show (if cDiv a b = true then some (D.int (a / b)) else none) = _
    rw [if_pos (by unfold cDiv; simp [h, h2])]
  unfold uP; rw [e]; rfl
theorem e_mul {a b : Int} (h : (-(2 ^ 64) < a ∧ a < 2 ^ 64) ∨ (-(2 ^ 64) < b ∧ b < 2 ^ 64)) : uP pMulN [.int a, .int b] = .ok (.int (a * b)) := by
  have e : pMulN [.int a, .int b] = some (.int (a * b)) := by
    show (if cMul a b = true then some (D.int (a * b)) else none) = _
    rw [if_pos (by unfold cMul; simpa using h)]
  unfold uP; rw [e]; rfl
/-! equality -/
theorem okP_i (i : Int) : okP (.int i) = true := rfl
@[simp] theorem e_eqi (a b : Int) : uP pEq [.int a, .int b] = .ok (.bl (decide (a = b))) := by
  have e : pEq [.int a, .int b] = some (.bl (decide (a = b))) := by
    show (if (okP (.int a) && okP (.int b)) = true then some (D.bl (a == b)) else none) = _
    rw [okP_i, okP_i]; simp [BEq.beq]
  unfold uP; rw [e]; rfl
@[simp] theorem e_nei (a b : Int) : uP pNe [.int a, .int b] = .ok (.bl (!decide (a = b))) := by
  have e : pNe [.int a, .int b] = some (.bl (!decide (a = b))) := by
    show (if (okP (.int a) && okP (.int b)) = true then some (D.bl (!(a == b))) else none) = _
    rw [okP_i, okP_i]; simp [BEq.beq]
  unfold uP; rw [e]; rfl
@[simp] theorem e_eqb (a b : Bool) : uP pEq [.bl a, .bl b] = .ok (.bl (a == b)) := by cases a <;> cases b <;> rfl
@[simp] theorem e_neb (a b : Bool) : uP pNe [.bl a, .bl b] = .ok (.bl (a != b)) := by cases a <;> cases b <;> rfl
@[simp] theorem e_isN (x : D) : uP pIs [x, .non] = .ok (.bl (isNon x)) := rfl
@[simp] theorem e_isNotN (x : D) : uP pIsNot [x, .non] = .ok (.bl (!isNon x)) := rfl
theorem isNon_o {α : Type} (e : α → D) (h : ∀ a, isNon (e a) = false) (o : Option α) : isNon (oD e o) = o.isNone := by cases o with | none => rfl | some a => exact h a
/-! lists -/
@[simp] theorem e_lent {xs : List D} : uP pLen [.tup xs] = .ok (.int xs.length) := rfl
@[simp] theorem e_lenl {o : Bool} {xs : List D} : uP pLen [.lst o xs] = .ok (.int xs.length) := rfl
theorem e_tup {α : Type} {e : α → D} [Cd e] {o : Bool} {xs : List α} : uP pTuple [.lst o (xs.map e)] = .ok (.tup (xs.map e)) := rfl
@[simp] theorem e_tuple {o : Bool} {xs : List D} : uP pTuple [.lst o xs] = .ok (.tup xs) := rfl
@[simp] theorem e_tuplet {xs : List D} : uP pTuple [.tup xs] = .ok (.tup xs) := rfl
@[simp] theorem e_list {o : Bool} {xs : List D} : uP pList [.lst o xs] = .ok (.lst false (frz.frzL xs)) := rfl
@[simp] theorem e_listt {xs : List D} : uP pList [.tup xs] = .ok (.lst false (frz.frzL xs)) := rfl
@[simp] theorem e_it1l {o : Bool} {xs : List D} : uIt it1 [.lst o xs] = .ok (frz.frzL xs) := rfl
@[simp] theorem e_it1t {xs : List D} : uIt it1 [.tup xs] = .ok (frz.frzL xs) := rfl
@[simp] theorem e_ent {xs : List D} : uIt eA [.tup xs] = .ok (enumD (frz.frzL xs)) := rfl
@[simp] theorem e_enl {o : Bool} {xs : List D} : uIt eA [.lst o xs] = .ok (enumD (frz.frzL xs)) := rfl
theorem e_z2 {x y : D} {xs ys : List D} (h1 : items x = some xs) (h2 : items y = some ys) : uIt zA2 [x, y] = .ok (zip2D xs ys) := by
  unfold uIt zA2; simp only [h1, h2]
@[simp] theorem e_z2tt {xs ys : List D} : uIt zA2 [.tup xs, .tup ys] = .ok (zip2D (frz.frzL xs) (frz.frzL ys)) := rfl
@[simp] theorem e_z2tl {o : Bool} {xs ys : List D} : uIt zA2 [.tup xs, .lst o ys] = .ok (zip2D (frz.frzL xs) (frz.frzL ys)) := rfl
@[simp] theorem e_z2lt {o : Bool} {xs ys : List D} : uIt zA2 [.lst o xs, .tup ys] = .ok (zip2D (frz.frzL xs) (frz.frzL ys)) := rfl
@[simp] theorem e_z2ll {o o' : Bool} {xs ys : List D} : uIt zA2 [.lst o xs, .lst o' ys] = .ok (zip2D (frz.frzL xs) (frz.frzL ys)) := rfl
@[simp] theorem e_z3 {xs ys zs : List D} : uIt zA3 [.tup xs, .tup ys, .tup zs] = .ok (zip3D (frz.frzL xs) (frz.frzL ys) (frz.frzL zs)) := rfl
@[simp] theorem zip2_map {α β : Type} (f : α → D) (g : β → D) : ∀ (xs : List α) (ys : List β), zip2D (xs.map f) (ys.map g) = (xs.zip ys).map fun p => .tup [f p.1, g p.2]
  | [], _ => rfl
  | _ :: _, [] => rfl
  | x :: xs, y :: ys => by
    show D.tup [f x, g y] :: zip2D (xs.map f) (ys.map g) = _
    rw [zip2_map f g xs ys]; rfl
@[simp] theorem zip3_map {α β γ : Type} (f : α → D) (g : β → D) (h : γ → D) : ∀ (xs : List α) (ys : List β) (zs : List γ), zip3D (xs.map f) (ys.map g) (zs.map h) = (xs.zip (ys.zip zs)).map fun p => .tup [f p.1, g p.2.1, h p.2.2]
  | [], _, _ => rfl
  | _ :: _, [], _ => rfl
  | _ :: _, _ :: _, [] => rfl
  | x :: xs, y :: ys, z :: zs => by
    show D.tup [f x, g y, h z] :: zip3D (xs.map f) (ys.map g) (zs.map h) = _
    rw [zip3_map f g h xs ys zs]; rfl
@[simp] theorem enum_map {α : Type} (f : α → D) (xs : List α) : enumD (xs.map f) = xs.zipIdx.map fun p => .tup [.int (p.2 : Nat), f p.1] := by
  unfold enumD
  rw [List.zipIdx_map, List.map_map]; rfl
/-- a range as naturals -/
def rg (lo hi : Int) : List Int := (List.range (hi - lo).toNat).map fun k => lo + (k : Nat)
theorem rng_map (lo hi : Int) : rngD lo hi = (rg lo hi).map D.int := by unfold rngD rg; rw [List.map_map]; rfl
theorem e_rng1 {j : Int} (h1 : -(2 ^ 62) ≤ j) (h2 : j < 2 ^ 62) : uRng1 (.int j) = .ok ((rg 0 j).map D.int) := by
  show (if fit62 j = true then R.ok (rngD 0 j) else .bad) = _
  rw [if_pos (by unfold fit62; simp only [Bool.and_eq_true, decide_eq_true_eq]; exact ⟨h1, h2⟩), rng_map]
theorem e_rng2 {i j : Int} (h1 : -(2 ^ 62) ≤ j) (h2 : j < 2 ^ 62) (h3 : -(2 ^ 62) ≤ i) (h4 : i < 2 ^ 62) : uRng2 (.int i) (.int j) = .ok ((rg i j).map D.int) := by
  show (if (fit62 i && fit62 j) = true then R.ok (rngD i j) else .bad) = _
  rw [if_pos (by unfold fit62; simp only [Bool.and_eq_true, decide_eq_true_eq]; exact ⟨⟨h3, h4⟩, h1, h2⟩), rng_map]
theorem mem_rg {lo hi x : Int} : x ∈ rg lo hi ↔ lo ≤ x ∧ x < hi := by
  unfold rg
  simp only [List.mem_map, List.mem_range]
  constructor
  · rintro ⟨k, h, rfl⟩; omega
  · intro ⟨h1, h2⟩; exact ⟨(x - lo).toNat, by omega, by omega⟩
theorem rg_len (lo hi : Int) : (rg lo hi).length = (hi - lo).toNat := by unfold rg; simp
/-! tests of all, any, sums -/
theorem blsOf_map {α : Type} (f : α → Bool) (xs : List α) : blsOf (xs.map fun a => D.bl (f a)) = some (xs.map f) := by
  induction xs with
  | nil => rfl
  | cons x xs ih => show (blsOf (xs.map fun a => D.bl (f a))).map (f x :: ·) = _; rw [ih]; rfl
theorem intsOf_map {α : Type} (f : α → Int) (xs : List α) : intsOf (xs.map fun a => D.int (f a)) = some (xs.map f) := by
  induction xs with
  | nil => rfl
  | cons x xs ih => show (intsOf (xs.map fun a => D.int (f a))).map (f x :: ·) = _; rw [ih]; rfl
@[simp] theorem e_all {α : Type} (f : α → Bool) {o : Bool} (xs : List α) : uP pAll [.lst o (xs.map fun a => D.bl (f a))] = .ok (.bl (xs.all f)) := by
  have e : pAll [.lst o (xs.map fun a => D.bl (f a))] = some (.bl (xs.all f)) := by
    show (blsOf (xs.map fun a => D.bl (f a))).map _ = _
    rw [blsOf_map]
    simp only [Option.map_some, List.all_map]; rfl
  unfold uP; rw [e]; rfl
@[simp] theorem e_any {α : Type} (f : α → Bool) {o : Bool} (xs : List α) : uP pAny [.lst o (xs.map fun a => D.bl (f a))] = .ok (.bl (xs.any f)) := by
  have e : pAny [.lst o (xs.map fun a => D.bl (f a))] = some (.bl (xs.any f)) := by
    show (blsOf (xs.map fun a => D.bl (f a))).map _ = _
    rw [blsOf_map]
    simp only [Option.map_some, List.any_map]; rfl
  unfold uP; rw [e]; rfl
@[simp] theorem e_sum {α : Type} (f : α → Int) {o : Bool} (xs : List α) : uP pSum [.lst o (xs.map fun a => D.int (f a))] = .ok (.int (xs.map f).sum) := by
  have e : pSum [.lst o (xs.map fun a => D.int (f a))] = some (.int (xs.map f).sum) := by
    show (intsOf (xs.map fun a => D.int (f a))).map _ = _
    rw [intsOf_map]; rfl
  unfold uP; rw [e]; rfl
theorem unp2 {β : Type} {a b : D} {k : D → D → R β} : uUnp2 (.tup [a, b]) k = k (frz a) (frz b) := rfl
theorem unp3 {β : Type} {a b c : D} {k : D → D → D → R β} : uUnp3 (.tup [a, b, c]) k = k (frz a) (frz b) (frz c) := rfl
/-! ### comprehensions -/
def compT {π : Type} (B : π → R (Option D)) : List π → R (List D)
  | [] => .ok []
  | x :: xs => match B x with
    | .ok (some y) => match compT B xs with
      | .ok ys => .ok (y :: ys)
      | _ => .bad
    | .ok none => compT B xs
    | _ => .bad
def uCompT {π : Type} (B : π → R (Option D)) (xs : List π) : R D := match compT B xs with
  | .ok ys => uLst ys
  | _ => .bad
theorem compU_map {π : Type} (B : D → R (Option D)) (h : π → D) (ps : List π) : compU B (ps.map h) = compT (fun p => B (h p)) ps := by
  induction ps with
  | nil => rfl
  | cons p ps ih => simp only [List.map_cons, compU, compT, ih] <;> rfl
@[simp] theorem uComp_map {π : Type} (B : D → R (Option D)) (h : π → D) (ps : List π) : uComp B (ps.map h) = uCompT (fun p => B (h p)) ps := by unfold uComp uCompT; rw [compU_map] <;> rfl
theorem compT_congr {π : Type} {B B' : π → R (Option D)} {ps : List π} (h : ∀ p ∈ ps, B p = B' p) : compT B ps = compT B' ps := by
  induction ps with
  | nil => rfl
  | cons p ps ih => simp only [compT, h p List.mem_cons_self, ih fun q hq => h q (List.mem_cons_of_mem _ hq)]
@[simp] theorem compT_ite {π : Type} (q : π → Prop) [DecidablePred q] (g : π → D) (ps : List π) : compT (fun p => if q p then .ok (some (g p)) else .ok none) ps = .ok ((ps.filter fun p => decide (q p)).map g) := by
  induction ps with
  | nil => rfl
  | cons p ps ih =>
    by_cases h : q p
    · simp only [compT, if_pos h, ih, List.filter_cons, decide_eq_true h, if_true, List.map_cons]
    · simp only [compT, if_neg h, ih, List.filter_cons, decide_eq_false h]; rfl
@[simp] theorem compT_some {π : Type} (g : π → D) (ps : List π) : compT (fun p => .ok (some (g p))) ps = .ok (ps.map g) := by
  induction ps with
  | nil => rfl
  | cons p ps ih => simp only [compT, ih, List.map_cons]
theorem compT_iteB {π : Type} (q : π → Bool) (g : π → D) (ps : List π) : compT (fun p => if q p = true then .ok (some (g p)) else .ok none) ps = .ok ((ps.filter q).map g) := by
  have := compT_ite (fun p => q p = true) g ps
  simp only [Bool.decide_eq_true] at this
  exact this
theorem uLst_ok {xs : List D} (h : xs.length ≤ 16777216) : uLst xs = .ok (.lst false xs) := if_pos h
theorem uTup_ok {xs : List D} (h : xs.length ≤ 16777216) : uTup xs = .ok (.tup xs) := if_pos h
theorem uCompT_some {π : Type} (g : π → D) (ps : List π) (h : ps.length ≤ 16777216) : uCompT (fun p => .ok (some (g p))) ps = .ok (.lst false (ps.map g)) := by
  unfold uCompT; rw [compT_some]; exact uLst_ok (by rw [List.length_map]; exact h)
theorem uCompT_ite {π : Type} (q : π → Prop) [DecidablePred q] (g : π → D) (ps : List π) (h : ps.length ≤ 16777216) : uCompT (fun p => if q p then .ok (some (g p)) else .ok none) ps = .ok (.lst false ((ps.filter fun p => decide (q p)).map g)) := by
  unfold uCompT; rw [compT_ite]; exact uLst_ok (by rw [List.length_map]; exact Nat.le_trans (List.length_filter_le _ _) h)
theorem uCompT_iteB {π : Type} (q : π → Bool) (g : π → D) (ps : List π) (h : ps.length ≤ 16777216) : uCompT (fun p => if q p = true then .ok (some (g p)) else .ok none) ps = .ok (.lst false ((ps.filter q).map g)) := by
  unfold uCompT; rw [compT_iteB]; exact uLst_ok (by rw [List.length_map]; exact Nat.le_trans (List.length_filter_le _ _) h)
/-- .. where each item gives what it should -/
theorem uCompT_of {π : Type} {B : π → R (Option D)} {ps : List π} (g : π → D) (h : ∀ p ∈ ps, B p = .ok (some (g p))) (hl : ps.length ≤ 16777216) : uCompT B ps = .ok (.lst false (ps.map g)) := by
  rw [← uCompT_some g ps hl]; unfold uCompT; rw [compT_congr h]
theorem uCompT_ofIf {π : Type} {B : π → R (Option D)} {ps : List π} (q : π → Bool) (g : π → D) (h : ∀ p ∈ ps, B p = if q p then .ok (some (g p)) else .ok none) (hl : ps.length ≤ 16777216) : uCompT B ps = .ok (.lst false ((ps.filter q).map g)) := by
  have := uCompT_ite (fun p => q p = true) g ps hl
  simp only [Bool.decide_eq_true] at this
  rw [← this]; unfold uCompT; rw [compT_congr h]
/-- with a state -/
theorem compS_ex {π τ ξ : Type} {B : D → τ → R (Option D × τ)} {h : π → D} {J : τ → Prop} {e : ξ → D} {P : π → ξ → Prop} : ∀ {ps : List π} {t : τ}, J t → (∀ p ∈ ps, ∀ t, J t → ∃ y t', B (h p) t = .ok (some (e y), t') ∧ J t' ∧ P p y) →
    ∃ ys t', compS B (ps.map h) t = .ok (ys.map e, t') ∧ J t' ∧ All2 P ps ys
  | [], t, hj, _ => ⟨[], t, rfl, hj, .nil⟩
  | p :: ps, t, hj, st => by
    obtain ⟨y, t1, e1, j1, p1⟩ := st p List.mem_cons_self t hj
    obtain ⟨ys, t2, e2, j2, p2⟩ := compS_ex (ps := ps) j1 fun q hq => st q (List.mem_cons_of_mem _ hq)
    refine ⟨y :: ys, t2, ?_, j2, .cons p1 p2⟩
    simp only [List.map_cons, compS, e1, e2]
theorem uCompS_ex {π τ ξ : Type} {B : D → τ → R (Option D × τ)} {h : π → D} {J : τ → Prop} {e : ξ → D} {P : π → ξ → Prop} {ps : List π} {t : τ} (hj : J t) (hl : ps.length ≤ 16777216) (st : ∀ p ∈ ps, ∀ t, J t → ∃ y t', B (h p) t = .ok (some (e y), t') ∧ J t' ∧ P p y) :
    ∃ ys t', uCompS B (ps.map h) t = .ok (lT e ys, t') ∧ J t' ∧ All2 P ps ys := by
  obtain ⟨ys, t', h1, h2, h3⟩ := compS_ex hj st
  refine ⟨ys, t', ?_, h2, h3⟩
  unfold uCompS
  rw [h1]
  dsimp only
  rw [uLst_ok (by rw [List.length_map, ← h3.length]; exact hl)]
  rfl
theorem all2_mem {α β : Type} {P : α → β → Prop} : ∀ {as : List α} {bs : List β}, All2 P as bs → ∀ b ∈ bs, ∃ a ∈ as, P a b
  | _, _, .nil, b, h => nomatch h
  | _, _, .cons (a := a) (b := b') r t, b, h => by
    rcases List.mem_cons.mp h with rfl | h
    · exact ⟨a, List.mem_cons_self, r⟩
    · obtain ⟨a', h1, h2⟩ := all2_mem t b h
      exact ⟨a', List.mem_cons_of_mem _ h1, h2⟩
/-! ### loops -/
theorem foldU_ok {π τ τ' : Type} {B : D → τ → R τ} {h : π → D} {E : τ' → τ} {f : τ' → π → τ'} {J : τ' → Prop} : ∀ {ps : List π} {s : τ'}, J s → (∀ p ∈ ps, ∀ s, J s → B (h p) (E s) = .ok (E (f s p)) ∧ J (f s p)) → foldU B (ps.map h) (E s) = .ok (E (ps.foldl f s)) ∧ J (ps.foldl f s)
  | [], s, hj, _ => ⟨rfl, hj⟩
  | p :: ps, s, hj, st => by
    obtain ⟨h1, h2⟩ := st p List.mem_cons_self s hj
    obtain ⟨h3, h4⟩ := foldU_ok (ps := ps) (h := h) (E := E) h2 fun q hq => st q (List.mem_cons_of_mem _ hq)
    refine ⟨?_, h4⟩
    simp only [List.map_cons, foldU, h1, R.bind_ok, List.foldl_cons]
    exact h3
/-- .. with what is left -/
theorem foldU_inv {π τ τ' : Type} {B : D → τ → R τ} {h : π → D} {E : τ' → τ} {f : τ' → π → τ'} {J : List π → τ' → Prop} : ∀ {ps : List π} {s : τ'}, J ps s → (∀ p ps s, J (p :: ps) s → B (h p) (E s) = .ok (E (f s p)) ∧ J ps (f s p)) → foldU B (ps.map h) (E s) = .ok (E (ps.foldl f s)) ∧ J [] (ps.foldl f s)
  | [], s, hj, _ => ⟨rfl, hj⟩
  | p :: ps, s, hj, st => by
    obtain ⟨h1, h2⟩ := st p ps s hj
    obtain ⟨h3, h4⟩ := foldU_inv (ps := ps) (h := h) (E := E) h2 st
    refine ⟨?_, h4⟩
    simp only [List.map_cons, foldU, h1, R.bind_ok, List.foldl_cons]
    exact h3
/-- a loop whose turns all go on, by an invariant -/
theorem forU_inv {β π τ : Type} {B : D → τ → R (Step β τ)} {h : π → D} {J : List π → τ → Prop} : ∀ {ps : List π} {t : τ}, J ps t → (∀ p ps t, J (p :: ps) t → ∃ t', B (h p) t = .ok (.next t') ∧ J ps t') → ∃ t', forU B (ps.map h) t = .ok (.next t') ∧ J [] t'
  | [], t, hj, _ => ⟨t, rfl, hj⟩
  | p :: ps, t, hj, st => by
    obtain ⟨t1, h1, h2⟩ := st p ps t hj
    obtain ⟨t', h3, h4⟩ := forU_inv (ps := ps) h2 st
    refine ⟨t', ?_, h4⟩
    simp only [List.map_cons, forU, h1, R.bind_ok]
    exact h3
/-- .. simpler -/
theorem forU_all {β π τ : Type} {B : D → τ → R (Step β τ)} {h : π → D} {J : τ → Prop} {ps : List π} {t : τ} (hj : J t) (st : ∀ p ∈ ps, ∀ t, J t → ∃ t', B (h p) t = .ok (.next t') ∧ J t') : ∃ t', forU B (ps.map h) t = .ok (.next t') ∧ J t' := by
  obtain ⟨t', h1, _, h2⟩ := forU_inv (J := fun qs t => (∀ q ∈ qs, q ∈ ps) ∧ J t) (ps := ps) ⟨fun _ h => h, hj⟩ fun p qs t ⟨hm, hj⟩ => by
    obtain ⟨t', e, hj'⟩ := st p (hm p List.mem_cons_self) t hj
    exact ⟨t', e, fun q hq => hm q (List.mem_cons_of_mem _ hq), hj'⟩
  exact ⟨t', h1, h2⟩
/-- a search: the first item at which a turn ends -/
theorem forU_find {β π : Type} {B : D → Unit → R (Step β Unit)} {h : π → D} (q : π → Option β) : ∀ {ps : List π}, (∀ p ∈ ps, B (h p) () = match q p with | some b => .ok (.done b) | none => .ok (.next ())) → forU B (ps.map h) () = match ps.findSome? q with | some b => .ok (.done b) | none => .ok (.next ())
  | [], _ => rfl
  | p :: ps, st => by
    simp only [List.map_cons, forU, st p List.mem_cons_self, List.findSome?_cons]
    cases q p with
    | some b => rfl
    | none => exact forU_find q fun q' hq => st q' (List.mem_cons_of_mem _ hq)
end U
end Y

end
section
set_option Elab.async false
set_option linter.all false
set_option maxRecDepth 100000
set_option maxHeartbeats 4000000
namespace Y
namespace U
open PySem L2
noncomputable def U__law_bag (x0 : D) : R (D) :=
  (uI (.int 63)).bind fun v1 => (uP (pSl none (some v1)) [x0]).bind fun v2 => (uIt it1 [v2]).bind fun v3 => (uComp (fun v4 => (uP pAbs [v4]).bind fun v6 => R.ok (some v6)) v3).bind fun v5 => R.ok (.lst false [(.int 0), (.int 1234567891), (.int 0), v5])
noncomputable def W__law_bag : List D → R (D) := fun xs => match xs with
  | [x0] => U__law_bag x0
  | _ => .bad
theorem T__law_bag (f0 : Fg) : FU Φ__law_bag [f0] W__law_bag (fun b => b) .own (fun (xs : List D) (b : D) => [.val (hd xs) f0]) :=
  fu_mk (N := 2) (prs := [true]) (m := M__law_bag) rfl fun xs hl => match xs, hl with
    | [x0], _ =>
      have h : SG XT ⟨protOf [true] 0, []⟩ [.val x0 f0, .cold] (QF [true] (fun b => b) .own ((fun (xs : List D) (b : D) => [.val (hd xs) f0]) [x0])) M__law_bag _ :=
      (q_ret0 (p_lst (p_vcons p_con (p_vcons p_con (p_vcons p_con (p_vcons (p_comp (n := 2) (p_src (p_oE (p_sl (fun lo hi => (n_sl lo hi).k) (p_oN rfl) p_pN (p_pS p_con) rfl)) rfl) (fun _ hx => (t_name (rdc hx) rfl rfl (u_all (p_prim n_abs.k (p_cons (p_oN rfl) p_nil) rfl) (le_cons les_rfl (le_cons les_any le_nil))))) rfl rfl) p_vnil))))) fle_rfl (fun _ _ => ⟨les_rfl, trivial⟩));
      h
noncomputable def U__law_take (x0 x1 : D) : R (D × D) :=
  (uP pIx [x0, (.int 0)]).bind fun v1 => (uP pEq [v1, (.int 0)]).bind fun v2 => (uB v2).bind fun v3 => (if v3 then (uP pIx [x0, (.int 3)]).bind fun v4 => (uP pIx [x0, (.int 2)]).bind fun v5 => (uI v5).bind fun v6 => (uP (pSl (some v6) none) [v4]).bind fun v7 => (uP pAddL [v7, (.lst false [(.int 0)])]).bind fun v8 => (uP pIx [v8, (.int 0)]).bind fun v9 => (uL x0).bind fun _ => (uI (.int 2)).bind fun v10 => (uGetI x0 v10).bind fun v11 => (uI v11).bind fun _ => (uP pAddI [v11, (.int 1)]).bind fun v12 => (uSetI x0 (.int v10) v12).bind fun v13 =>
  (uP pPow [(.int 10), (.int 18)]).bind fun v14 => (uP pGe [v9, v14]).bind fun v15 => (uB v15).bind fun v16 => (if v16 then (uL v13).bind fun _ => (R.ok (.int 0)).nox.bind fun v17 => (uSetI v13 v17 v9).bind fun v18 => R.ok v18 else R.ok v13).bind fun v19 =>
  (uP pIx [v19, (.int 1)]).bind fun v20 => (uP pMulN [v20, (.int 48271)]).bind fun v21 => (uP pInt [v9]).bind fun v22 => (uP pMod [v22, (.int 2147483647)]).bind fun v23 => (uP pAddN [v21, v23]).bind fun v24 => (uP pIx [v19, (.int 2)]).bind fun v25 => (uP pMulN [(.int 7919), v25]).bind fun v26 => (uP pAddN [v24, v26]).bind fun v27 => (uP pInt [v27]).bind fun v28 => (uP pMod [v28, (.int 2147483647)]).bind fun v29 => (uL v19).bind fun _ => (R.ok (.int 1)).nox.bind fun v30 => (uSetI v19 v30 v29).bind fun v31 => R.ok v31 else R.ok x0).bind fun v32 =>
  (uP pIx [v32, (.int 0)]).bind fun v33 => (uP pGt [v33, (.int 0)]).bind fun v34 => (uB v34).bind fun v35 => if v35 then (uP pIx [v32, (.int 0)]).bind fun v36 => (uP pInt [v36]).bind fun v37 => (uP pMod [v37, x1]).bind fun v38 => (uP pIx [v32, (.int 0)]).bind fun v39 => (uP pInt [v39]).bind fun v40 => (uP pDiv [v40, x1]).bind fun v41 => (uL v32).bind fun _ => (R.ok (.int 0)).nox.bind fun v42 => (uSetI v32 v42 v41).bind fun v43 => R.ok (v38, v43) else
  (uP pIx [v32, (.int 1)]).bind fun v44 => (uP pAddN [v44, (.int 1)]).bind fun v45 => (uP pMulN [v45, (.int 39373)]).bind fun v46 => (uP pInt [v46]).bind fun v47 => (uP pMod [v47, (.int 1000000007)]).bind fun v48 => (uP pMulN [v48, v48]).bind fun v49 => (uP pInt [v49]).bind fun v50 => (uP pMod [v50, (.int 998244353)]).bind fun v51 => (uP pMulN [v51, (.int 30011)]).bind fun v52 => (uP pInt [v52]).bind fun v53 => (uP pMod [v53, (.int 998244353)]).bind fun v54 => (uP pDiv [v54, (.int 7)]).bind fun v55 => (uP pInt [v55]).bind fun v56 => (uP pMod [v56, x1]).bind fun v57 => R.ok (v57, v32)
noncomputable def W__law_take : List D → R (D × D) := fun xs => match xs with
  | [x0, x1] => U__law_take x0 x1
  | _ => .bad
theorem T__law_take (f1 : Fg) : FU Φ__law_take [.own, f1] W__law_take Prod.fst .cold (fun (xs : List D) (b : D × D) => [.val b.2 .own, .val (hd (tl xs)) f1]) :=
  fu_mk (N := 7) (prs := [true, true]) (m := M__law_take) rfl fun xs hl => match xs, hl with
    | [x0, x1], _ =>
      have h : SG XT ⟨protOf [true, true] 0, []⟩ [.val x0 .own, .val x1 f1, .cold, .cold, .cold, .cold, .cold] (QF [true, true] Prod.fst .cold ((fun (xs : List D) (b : D × D) => [.val b.2 .own, .val (hd (tl xs)) f1]) [x0, x1])) M__law_take _ :=
      (q_join (fun (t : (D)) γ => (gset (gset (gset γ 0 (.val t .own)) 2 (.cold)) 3 (.cold))) (p_mB (p_bin n_eq.k (p_oE (p_bin n_ix.k (p_oN rfl) (p_oE p_con) rfl)) (p_oE p_con) rfl)) (fun _ => (q_set (p_bin n_ix.k (p_oE (p_bin n_addL (p_oE (p_sl (fun lo hi => (n_sl lo hi).k) (p_oE (p_bin n_ix.k (p_oN rfl) (p_oE p_con) rfl)) (p_pS (p_bin n_ix.k (p_oN rfl) (p_oE p_con) rfl)) p_pN rfl)) (p_oE (p_lst (p_vcons p_con p_vnil))) rfl)) (p_oE p_con) rfl) (fun _ _ _ r => (t_name r rfl rfl 
  (q_augI n_addI rfl p_con (p_oE p_con) rfl rfl (fun _ =>
  (q_join (fun (t : (D)) γ => (gset γ 0 (.val t .own))) (p_mB (p_bin n_ge.k (p_oN rfl) (p_oE (p_bin n_pow.k (p_oE p_con) (p_oE p_con) rfl)) rfl)) (fun _ => (q_last (q_set (p_var rfl) (fun _ _ _ r => (t_ix r rfl p_con rfl (fun _ => 
  (q_endJ (fun γ => ((gat γ 0).v : (D))) (le_cons les_rfl (le_cons les_rfl (le_cons les_rfl (le_cons les_rfl (le_cons les_rfl (le_cons les_rfl (le_cons les_rfl le_nil)))))))))))))) (fun _ => (q_endJ (fun γ => ((gat γ 0).v : (D))) (le_cons les_rfl (le_cons les_rfl (le_cons les_rfl (le_cons les_rfl (le_cons les_rfl (le_cons les_rfl (le_cons les_rfl le_nil))))))))) (fun _ _ =>
  (q_set (p_bin n_addN (p_oE (p_bin n_addN (p_oE (p_bin n_mulN (p_oE (p_bin n_ix.k (p_oN rfl) (p_oE p_con) rfl)) (p_oE p_con) rfl)) (p_oE (p_bin n_mod.k (p_oE (p_prim n_int.k (p_cons (p_oN rfl) p_nil) rfl)) (p_oE p_con) rfl)) rfl)) (p_oE (p_bin n_mulN (p_oE p_con) (p_oE (p_bin n_ix.k (p_oN rfl) (p_oE p_con) rfl)) rfl)) rfl) (fun _ _ _ r => (t_name r rfl rfl 
  (q_last (q_set (p_bin n_mod.k (p_oE (p_prim n_int.k (p_cons (p_oN rfl) p_nil) rfl)) (p_oE p_con) rfl) (fun _ _ _ r => (t_ix r rfl p_con rfl (fun _ => 
  (q_endJ (fun γ => ((gat γ 0).v : (D))) (le_cons les_rfl (le_cons les_rfl (le_cons les_cold (le_cons les_cold (le_cons les_rfl (le_cons les_rfl (le_cons les_rfl le_nil)))))))))))))))))))))))) (fun _ => (q_endJ (fun γ => ((gat γ 0).v : (D))) (le_cons les_rfl (le_cons les_rfl (le_cons les_rfl (le_cons les_rfl (le_cons les_rfl (le_cons les_rfl (le_cons les_rfl le_nil))))))))) (fun _ _ =>
  (q_ifX (p_mB (p_bin n_gt.k (p_oE (p_bin n_ix.k (p_oN rfl) (p_oE p_con) rfl)) (p_oE p_con) rfl)) (fun _ => (q_assoc (q_set (p_bin n_mod.k (p_oE (p_prim n_int.k (p_cons (p_oE (p_bin n_ix.k (p_oN rfl) (p_oE p_con) rfl)) p_nil) rfl)) (p_oN rfl) rfl) (fun _ _ _ r => (t_name r rfl rfl 
  (q_assoc (q_set (p_bin n_div.k (p_oE (p_prim n_int.k (p_cons (p_oE (p_bin n_ix.k (p_oN rfl) (p_oE p_con) rfl)) p_nil) rfl)) (p_oN rfl) rfl) (fun _ _ _ r => (t_ix r rfl p_con rfl (fun _ => 
  (q_retS (q_ret1 (fun γ => (gat γ 0).v) (cv_mvC rfl) fle_rfl (fun _ _ => ⟨les_rfl, ⟨les_rfl, trivial⟩⟩))))))))))))) (fun _ =>
  (q_skip (q_set (p_bin n_mod.k (p_oE (p_prim n_int.k (p_cons (p_oE (p_bin n_mulN (p_oE (p_bin n_addN (p_oE (p_bin n_ix.k (p_oN rfl) (p_oE p_con) rfl)) (p_oE p_con) rfl)) (p_oE p_con) rfl)) p_nil) rfl)) (p_oE p_con) rfl) (fun _ _ _ r => (t_name r rfl rfl 
  (q_set (p_bin n_mod.k (p_oE (p_prim n_int.k (p_cons (p_oE (p_bin n_mulN (p_oE (p_bin n_mod.k (p_oE (p_prim n_int.k (p_cons (p_oE (p_bin n_mulN (p_oN rfl) (p_oN rfl) rfl)) p_nil) rfl)) (p_oE p_con) rfl)) (p_oE p_con) rfl)) p_nil) rfl)) (p_oE p_con) rfl) (fun _ _ _ r => (t_name r rfl rfl 
  (q_ret1 (fun γ => (gat γ 0).v) (p_bin n_mod.k (p_oE (p_prim n_int.k (p_cons (p_oE (p_bin n_div.k (p_oN rfl) (p_oE p_con) rfl)) p_nil) rfl)) (p_oN rfl) rfl) fle_rfl (fun _ _ => ⟨les_rfl, ⟨les_rfl, trivial⟩⟩)))))))))))));
      h
noncomputable def U__law_some (x0 x1 : D) : R (D × D) :=
  (uP pLen [x1]).bind fun v1 => (U__law_take x0 v1).bind fun v2 => (uP pIx [x1, v2.1]).bind fun v3 => R.ok (v3, v2.2)
noncomputable def W__law_some : List D → R (D × D) := fun xs => match xs with
  | [x0, x1] => U__law_some x0 x1
  | _ => .bad
theorem T__law_some (f1 : Fg) : FU Φ__law_some [.own, f1] W__law_some Prod.fst .cold (fun (xs : List D) (b : D × D) => [.val b.2 .own, .val (hd (tl xs)) f1]) :=
  fu_mk (N := 2) (prs := [true, true]) (m := M__law_some) rfl fun xs hl => match xs, hl with
    | [x0, x1], _ =>
      have h : SG XT ⟨protOf [true, true] 0, []⟩ [.val x0 .own, .val x1 f1] (QF [true, true] Prod.fst .cold ((fun (xs : List D) (b : D × D) => [.val b.2 .own, .val (hd (tl xs)) f1]) [x0, x1])) M__law_some _ :=
      (q_ret1 (fun γ => (gat γ 0).v) (cv_bin (fun _ _ => n_ix.k) (p_oN rfl) (fun _ => (cv_oE (cv_call (T__law_take .cold) (p_cons (p_oN rfl) (p_cons (p_oE (p_prim n_len.k (p_cons (p_oN rfl) p_nil) rfl)) p_nil)) rfl (fun _ => rfl) (fun _ => rfl) (fun _ _ _ => (.slot (aft_own rfl) (.val .nil))) hx_t))) (fun _ _ => rfl)) fle_rfl (fun _ _ => ⟨les_rfl, ⟨les_rfl, trivial⟩⟩));
      h
noncomputable def U__law_mixed (x0 x1 : D) : R (D × D) :=
  (uP pList [x1]).bind fun v1 => (whileU (fun (v2 : D × D × D) => (uP pNe [v2.2.1, (.lst false [])]).bind fun v5 => (uB v5).bind fun v6 => R.ok v6) (fun v2 => (uL v2.2.2).bind fun _ => (uL v2.2.1).bind fun _ => (uP pLen [v2.2.1]).bind fun v7 => (U__law_take v2.1 v7).bind fun v8 => (uMut fPopU v2.2.1 [v8.1]).bind fun v9 => (uMut fAppendU v2.2.2 [v9.2]).bind fun v10 => R.ok (.next (v8.2, v9.1, v10.1))) (x0, v1, (.lst false []))).bind fun v4 => jn v4 fun v3 =>
  R.ok (v3.2.2, v3.1)
noncomputable def W__law_mixed : List D → R (D × D) := fun xs => match xs with
  | [x0, x1] => U__law_mixed x0 x1
  | _ => .bad
theorem T__law_mixed (f1 : Fg) : FU Φ__law_mixed [.own, f1] W__law_mixed Prod.fst .own (fun (xs : List D) (b : D × D) => [.val b.2 .own, .val (hd (tl xs)) f1]) :=
  fu_mk (N := 4) (prs := [true, true]) (m := M__law_mixed) rfl fun xs hl => match xs, hl with
    | [x0, x1], _ =>
      have h : SG XT ⟨protOf [true, true] 0, []⟩ [.val x0 .own, .val x1 f1, .cold, .cold] (QF [true, true] Prod.fst .own ((fun (xs : List D) (b : D × D) => [.val b.2 .own, .val (hd (tl xs)) f1]) [x0, x1])) M__law_mixed _ :=
      (q_par (p_vcons (p_prim n_list.k (p_cons (p_oN rfl) p_nil) rfl) (p_vcons (p_lst p_vnil) p_vnil)) rfl (fun _ => rfl) (fun _ _ _ =>
  (q_while (fun (t : (D × D × D)) γ => (gset (gset (gset γ 0 (.val t.1 .own)) 2 (.val t.2.1 .own)) 3 (.val t.2.2 .own))) (fun γ => (((gat γ 0).v, (gat γ 2).v, (gat γ 3).v) : (D × D × D))) (le_cons les_rfl (le_cons les_rfl (le_cons les_rfl (le_cons les_rfl le_nil)))) (fun _ => (p_mB (p_bin n_ne.k (p_oN rfl) (p_oE (p_lst p_vnil)) rfl))) (fun _ => (q_last (q_expr (nm (fun (t : (D × D × D)) γ => (gset (gset (gset γ 0 (.val t.1 .own)) 2 (.val t.2.1 .own)) 3 (.val t.2.2 .own))) (fun γ => (((gat γ 0).v, (gat γ 2).v, (gat γ 3).v) : (D × D × D))) (cv_mut m_append rfl (vl_cons (cv_mut m_pop rfl (vl_cons (cv_call (T__law_take .cold) (p_cons (p_oN rfl) (p_cons (p_oE (p_prim n_len.k (p_cons (p_oN rfl) p_nil) rfl)) p_nil)) rfl (fun _ => rfl) (fun _ => rfl) (fun _ _ _ => (.slot (aft_own rfl) (.val .nil))) hx_t) (fun _ => vl_nil)) (fun _ => rfl) rfl) (fun _ => vl_nil)) (fun _ => rfl) rfl) (fun _ => (le_cons les_rfl (le_cons les_rfl (le_cons les_rfl (le_cons les_rfl le_nil)))))) (fun _ =>
  (q_endL (fun γ => (((gat γ 0).v, (gat γ 2).v, (gat γ 3).v) : (D × D × D))) (le_cons les_rfl (le_cons les_rfl (le_cons les_rfl (le_cons les_rfl le_nil))))))))) (fun _ =>
  (q_ret1 (fun γ => (gat γ 0).v) (cv_mv rfl rfl) fle_rfl (fun _ _ => ⟨les_rfl, ⟨les_rfl, trivial⟩⟩))))));
      h
noncomputable def U__law_lots_drawn (x0 x1 x2 : D) : R (D × D) :=
  (U__law_take x0 (.int 2)).bind fun v1 => (uP pEq [v1.1, (.int 0)]).bind fun v2 => (uB v2).bind fun v3 => if v3 then (U__law_some v1.2 x2).bind fun v4 => (uIt it1 [v4.1]).bind fun v5 => (uComp (fun v6 => R.ok (some (.tup [v6]))) v5).bind fun v7 => (uP pTuple [v7]).bind fun v8 => R.ok (v8, v4.2) else
  (uRng1 x1).bind fun v9 => (uCompS (fun v10 v12 => (U__law_mixed v12 (.lst false [(.int 1), (.int 2), (.int 3), (.int 4), (.int 5), (.int 6), (.int 8)])).bind fun v13 => (U__law_take v13.2 (.int 3)).bind fun v14 => (uP pAddN [(.int 1), v14.1]).bind fun v15 => (uI v15).bind fun v16 => (uP (pSlL none (some v16)) [v13.1]).bind fun v17 => (uP pSorted [v17]).bind fun v18 => (uP pTuple [v18]).bind fun v19 => R.ok (some v19, v14.2)) v9 v1.2).bind fun v11 => (uIt it1 [v11.1]).bind fun v20 => (uCompS (fun v21 v23 => (U__law_take v23 (.int 12)).bind fun v24 => (uP pGt [v24.1, (.int 0)]).bind fun v25 => (uB v25).bind fun v26 => (if v26 then R.ok v21 else R.ok (.tup [])).bind fun v27 => R.ok (some v27, v24.2)) v20 v11.2).bind fun v22 => (uP pTuple [v22.1]).bind fun v28 => R.ok (v28, v22.2)
noncomputable def W__law_lots_drawn : List D → R (D × D) := fun xs => match xs with
  | [x0, x1, x2] => U__law_lots_drawn x0 x1 x2
  | _ => .bad
theorem T__law_lots_drawn (f1 f2 : Fg) : FU Φ__law_lots_drawn [.own, f1, f2] W__law_lots_drawn Prod.fst .cold (fun (xs : List D) (b : D × D) => [.val b.2 .own, .val (hd (tl xs)) .any, .val (hd (tl (tl xs))) f2]) :=
  fu_mk (N := 7) (prs := [true, true, true]) (m := M__law_lots_drawn) rfl fun xs hl => match xs, hl with
    | [x0, x1, x2], _ =>
      have h : SG XT ⟨protOf [true, true, true] 0, []⟩ [.val x0 .own, .val x1 f1, .val x2 f2, .cold, .cold, .cold, .cold] (QF [true, true, true] Prod.fst .cold ((fun (xs : List D) (b : D × D) => [.val b.2 .own, .val (hd (tl xs)) .any, .val (hd (tl (tl xs))) f2]) [x0, x1, x2])) M__law_lots_drawn _ :=
      (q_ifX (nm (fun (t : (D)) γ => (gset γ 0 (.val t .own))) (fun γ => ((gat γ 0).v : (D))) (cv_mB (cv_bin (fun _ _ => n_eq.k) (cv_oE (cv_call (T__law_take .cold) (p_cons (p_oN rfl) (p_cons (p_oE p_con) p_nil)) rfl (fun _ => rfl) (fun _ => rfl) (fun _ _ _ => (.slot (aft_own rfl) (.val .nil))) hx_t)) (fun _ => (p_oE p_con)) (fun _ _ => rfl))) (fun _ => (le_cons les_rfl (le_cons les_rfl (le_cons les_rfl (le_cons les_rfl (le_cons les_rfl (le_cons les_rfl (le_cons les_rfl le_nil))))))))) (fun _ => (q_retS (q_ret1 (fun γ => (gat γ 0).v) (cv_prim (fun _ => n_tuple) (ol_cons (cv_oE (zu_comp (n := 7) (nm (fun (t : (D)) γ => (gset γ 0 (.val t .own))) (fun γ => ((gat γ 0).v : (D))) (cv_src (cv_oE (cv_call (T__law_some f2) (p_cons (p_oN rfl) (p_cons (p_oN rfl) p_nil)) rfl (fun _ => rfl) (fun _ => rfl) (fun _ _ _ => (.slot (aft_own rfl) (.slot (aft_same rfl) .nil))) hx_t)) (fun _ => rfl)) (fun _ => (le_cons les_rfl (le_cons les_rfl (le_cons les_rfl (le_cons les_rfl (le_cons les_rfl (le_cons les_rfl (le_cons les_rfl le_nil))))))))) (fun _ _ hx => (t_name (rdc hx) rfl rfl (u_all (p_tup (p_vcons (p_var rfl) p_vnil)) (le_cons les_rfl (le_cons les_rfl (le_cons les_rfl (le_cons les_rfl (le_cons les_any (le_cons les_rfl (le_cons les_rfl le_nil)))))))))) (fun _ => rfl) (fun _ => rfl))) (fun _ => ol_nil)) (fun _ => rfl)) fle_rfl (fun _ _ => ⟨les_rfl, ⟨les_val, ⟨les_rfl, trivial⟩⟩⟩)))) (fun _ =>
  (q_skip (q_set (nm (fun (t : (D)) γ => (gset (gset γ 0 (.val t .own)) 1 (.val (gat γ 1).v .cold))) (fun γ => ((gat γ 0).v : (D))) (z_comp (n := 7) (fun (t : (D)) γ => (gset γ 0 (.val t .own))) (fun γ => ((gat γ 0).v : (D))) (nm (fun (t : (Unit)) γ => (gset γ 1 (.val (gat γ 1).v .cold))) (fun γ => (() : (Unit))) (cv_rng1 (cv_var rfl)) (fun _ => (le_cons les_rfl (le_cons les_rfl (le_cons les_rfl (le_cons les_rfl (le_cons les_rfl (le_cons les_rfl (le_cons les_rfl le_nil))))))))) (fun _ _ _ hx => (t_name (rdc hx) rfl rfl (s_all (fun γ => ((gat γ 0).v : (D))) (cv_prim (fun _ => n_tuple) (ol_cons (cv_oE (cv_prim (fun _ => n_sorted.k) (ol_cons (cv_oE (cv_sl (fun lo hi _ _ _ => n_slL lo hi) (cv_oE (cv_call (T__law_mixed .own) (p_cons (p_oN rfl) (p_cons (p_oE (p_lst (p_vcons p_con (p_vcons p_con (p_vcons p_con (p_vcons p_con (p_vcons p_con (p_vcons p_con (p_vcons p_con p_vnil))))))))) p_nil)) rfl (fun _ => rfl) (fun _ => rfl) (fun _ _ _ => (.slot (aft_own rfl) (.val .nil))) hx_t)) (fun _ => p_pN) (fun _ _ => (p_some (cv_bin (fun _ _ => n_addN) (p_oE p_con) (fun _ => (cv_oE (cv_call (T__law_take .cold) (p_cons (p_oN rfl) (p_cons (p_oE p_con) p_nil)) rfl (fun _ => rfl) (fun _ => rfl) (fun _ _ _ => (.slot (aft_own rfl) (.val .nil))) hx_t))) (fun _ _ => rfl)))) (fun _ _ _ => rfl))) (fun _ => ol_nil)) (fun _ => rfl))) (fun _ => ol_nil)) (fun _ => rfl)) (fun _ => (le_cons les_rfl (le_cons les_rfl (le_cons les_rfl (le_cons les_rfl (le_cons les_rfl (le_cons les_any (le_cons les_rfl le_nil))))))))))) (fun _ => rfl) (fun _ => rfl) (fun _ => (le_cons les_rfl (le_cons les_rfl (le_cons les_rfl (le_cons les_rfl (le_cons les_rfl (le_cons les_rfl (le_cons les_rfl le_nil)))))))) (fun _ _ => ⟨rfl, trivial⟩)) (fun _ => (le_cons les_rfl (le_cons les_rfl (le_cons les_rfl (le_cons les_rfl (le_cons les_rfl (le_cons les_rfl (le_cons les_rfl le_nil))))))))) (fun _ _ _ r => (t_name r rfl rfl 
  (q_ret1 (fun γ => (gat γ 0).v) (cv_prim (fun _ => n_tuple) (ol_cons (cv_oE (y_comp (n := 7) (fun (t : (D)) γ => (gset γ 0 (.val t .own))) (fun γ => ((gat γ 0).v : (D))) (p_src (p_oN rfl) rfl) (fun _ _ hx => (t_name (rdc hx) rfl rfl (s_all (fun γ => ((gat γ 0).v : (D))) (cv_if (cv_mB (cv_bin (fun _ _ => n_gt.k) (cv_oE (cv_call (T__law_take .cold) (p_cons (p_oN rfl) (p_cons (p_oE p_con) p_nil)) rfl (fun _ => rfl) (fun _ => rfl) (fun _ _ _ => (.slot (aft_own rfl) (.val .nil))) hx_t)) (fun _ => (p_oE p_con)) (fun _ _ => rfl))) (fun _ => (p_var rfl)) (fun _ => (p_tup p_vnil)) fle_rfl fle_rfl (fun _ _ => Le.rfl) (fun _ _ => Le.rfl)) (fun _ => (le_cons les_rfl (le_cons les_rfl (le_cons les_rfl (le_cons les_rfl (le_cons les_rfl (le_cons les_rfl (le_cons les_any le_nil))))))))))) rfl rfl (le_cons les_rfl (le_cons les_rfl (le_cons les_rfl (le_cons les_rfl (le_cons les_rfl (le_cons les_rfl (le_cons les_rfl le_nil))))))) (fun _ => ⟨rfl, trivial⟩))) (fun _ => ol_nil)) (fun _ => rfl)) fle_rfl (fun _ _ => ⟨les_rfl, ⟨les_val, ⟨les_rfl, trivial⟩⟩⟩))))))));
      h
noncomputable def U__law_worn (x0 x1 : D) : R (D) :=
  (uIt it1 [x0]).bind fun v1 => (foldU (fun v2 (v3 : D) => (uIt it1 [v3]).bind fun v5 => (foldU (fun v6 (v7 : D) => (uL v7).bind fun _ => (uP pAddN [x1, (.int 1)]).bind fun v9 => (uRng1 v9).bind fun v10 => (uComp (fun v11 => (uP pAdd [v2, v11]).bind fun v13 => (uP pAddN [v6, (.tup [v13])]).bind fun v14 => R.ok (some v14)) v10).bind fun v12 => (uMut fExtendU v7 [v12]).bind fun v15 => R.ok v15.1) v5 (.lst false [])).bind fun v8 =>
  R.ok v8) v1 (.lst false [(.tup [])])).bind fun v4 =>
  R.ok v4
noncomputable def W__law_worn : List D → R (D) := fun xs => match xs with
  | [x0, x1] => U__law_worn x0 x1
  | _ => .bad
theorem T__law_worn (f0 f1 : Fg) : FU Φ__law_worn [f0, f1] W__law_worn (fun b => b) .any (fun (xs : List D) (b : D) => [.val (hd xs) f0, .val (hd (tl xs)) f1]) :=
  fu_mk (N := 7) (prs := [true, true]) (m := M__law_worn) rfl fun xs hl => match xs, hl with
    | [x0, x1], _ =>
      have h : SG XT ⟨protOf [true, true] 0, []⟩ [.val x0 f0, .val x1 f1, .cold, .cold, .cold, .cold, .cold] (QF [true, true] (fun b => b) .any ((fun (xs : List D) (b : D) => [.val (hd xs) f0, .val (hd (tl xs)) f1]) [x0, x1])) M__law_worn _ :=
      (q_set (p_lst (p_vcons (p_tup p_vnil) p_vnil)) (fun _ _ _ r => (t_name r rfl rfl 
  (q_for (fun (t : (D)) γ => (gset (gset (gset (gset γ 2 (.val t .any)) 3 (.cold)) 4 (.cold)) 5 (.cold))) (fun γ => ((gat γ 2).v : (D))) (p_src (p_oN rfl) rfl) (le_cons les_rfl (le_cons les_rfl (le_cons les_val (le_cons les_rfl (le_cons les_rfl (le_cons les_rfl (le_cons les_rfl le_nil))))))) (fun _ _ hx => (t_name (rdc hx) rfl rfl 
  (q_set (p_lst p_vnil) (fun _ _ _ r => (t_name r rfl rfl 
  (q_for (fun (t : (D)) γ => (gset (gset γ 4 (.val t .own)) 5 (.cold))) (fun γ => ((gat γ 4).v : (D))) (p_src (p_oN rfl) rfl) (le_cons les_rfl (le_cons les_rfl (le_cons les_rfl (le_cons les_rfl (le_cons les_rfl (le_cons les_rfl (le_cons les_rfl le_nil))))))) (fun _ _ hx => (t_name (rdc hx) rfl rfl 
  (q_last (q_mut m_extend rfl (p_vcons (p_comp (n := 7) (p_rng1 (p_bin n_addN (p_oN rfl) (p_oE p_con) rfl)) (fun _ hx => (t_name (rdc hx) rfl rfl (u_all (p_bin n_addN (p_oN rfl) (p_oE (p_tup (p_vcons (p_bin n_add.k (p_oN rfl) (p_oN rfl) rfl) p_vnil))) rfl) (le_cons les_rfl (le_cons les_rfl (le_cons les_rfl (le_cons les_rfl (le_cons les_rfl (le_cons les_rfl (le_cons les_any le_nil)))))))))) rfl rfl) p_vnil) rfl (fun _ =>
  (q_endN (fun γ => ((gat γ 4).v : (D))) (le_cons les_rfl (le_cons les_rfl (le_cons les_rfl (le_cons les_rfl (le_cons les_rfl (le_cons les_cold (le_cons les_rfl le_nil))))))))))))) (fun _ =>
  (q_last (q_set (nm (fun (t : (Unit)) γ => (gset γ 4 (.val (gat γ 4).v .cold))) (fun γ => (() : (Unit))) (cv_var rfl) (fun _ => (le_cons les_rfl (le_cons les_rfl (le_cons les_rfl (le_cons les_rfl (le_cons les_rfl (le_cons les_rfl (le_cons les_rfl le_nil))))))))) (fun _ _ _ r => (t_name r rfl rfl 
  (q_endN (fun γ => ((gat γ 2).v : (D))) (le_cons les_rfl (le_cons les_rfl (le_cons les_val (le_cons les_cold (le_cons les_cold (le_cons les_rfl (le_cons les_rfl le_nil))))))))))))))))))) (fun _ =>
  (q_ret0 (cv_mvA rfl) fle_rfl (fun _ _ => ⟨les_rfl, ⟨les_rfl, trivial⟩⟩)))))));
      h
noncomputable def U__law_passes (x0 x1 x2 : D) : R (D) :=
  (uIt zA2 [x1, x0]).bind fun v1 => (uComp (fun v2 => uUnp2 v2 fun v4 v5 => (uIt it1 [v5]).bind fun v6 => (uComp (fun v7 => (uP pSub [v4, v7]).bind fun v9 => (uP pAbs [v9]).bind fun v10 => (uP pLe [v10, x2]).bind fun v11 => (uB v11).bind fun v12 => if v12 then R.ok (some v7) else R.ok none) v6).bind fun v8 => (uP pEq [v8, (.lst false [])]).bind fun v13 => (uB v13).bind fun v14 => if v14 then R.ok (some (.int 1)) else R.ok none) v1).bind fun v3 => (uP pEq [v3, (.lst false [])]).bind fun v15 => R.ok v15
noncomputable def W__law_passes : List D → R (D) := fun xs => match xs with
  | [x0, x1, x2] => U__law_passes x0 x1 x2
  | _ => .bad
theorem T__law_passes (f0 f1 f2 : Fg) : FU Φ__law_passes [f0, f1, f2] W__law_passes (fun b => b) .cold (fun (xs : List D) (b : D) => [.val (hd xs) f0, .val (hd (tl xs)) f1, .val (hd (tl (tl xs))) f2]) :=
  fu_mk (N := 6) (prs := [true, true, true]) (m := M__law_passes) rfl fun xs hl => match xs, hl with
    | [x0, x1, x2], _ =>
      have h : SG XT ⟨protOf [true, true, true] 0, []⟩ [.val x0 f0, .val x1 f1, .val x2 f2, .cold, .cold, .cold] (QF [true, true, true] (fun b => b) .cold ((fun (xs : List D) (b : D) => [.val (hd xs) f0, .val (hd (tl xs)) f1, .val (hd (tl (tl xs))) f2]) [x0, x1, x2])) M__law_passes _ :=
      (q_ret0 (p_bin n_eq.k (p_oE (p_comp (n := 6) (p_walk w_zip2 (p_cons (p_oN rfl) (p_cons (p_oN rfl) p_nil)) rfl) (fun _ hx => (t_tup2 (rdc hx) (fun _ _ h2_0 h2_1 => (t_cons (t_name h2_0 rfl rfl (t_cons (t_name h2_1 rfl rfl (t_nil (u_if (p_mB (p_bin n_eq.k (p_oE (p_comp (n := 6) (p_src (p_oN rfl) rfl) (fun _ hx => (t_name (rdc hx) rfl rfl (u_if (p_mB (p_bin n_le.k (p_oE (p_prim n_abs.k (p_cons (p_oE (p_bin n_sub.k (p_oN rfl) (p_oN rfl) rfl)) p_nil) rfl)) (p_oN rfl) rfl)) (p_var rfl) (le_cons les_rfl (le_cons les_rfl (le_cons les_rfl (le_cons les_rfl (le_cons les_rfl (le_cons les_any le_nil))))))))) rfl rfl)) (p_oE (p_lst p_vnil)) rfl)) p_con (le_cons les_rfl (le_cons les_rfl (le_cons les_rfl (le_cons les_any (le_cons les_any (le_cons les_rfl le_nil))))))))))))))) rfl rfl)) (p_oE (p_lst p_vnil)) rfl) fle_rfl (fun _ _ => ⟨les_rfl, ⟨les_rfl, ⟨les_rfl, trivial⟩⟩⟩));
      h
noncomputable def U__law_alike (x0 x1 : D) : R (D) :=
  (whileU (fun (v1 : D × D) => (uP pLen [v1.1]).bind fun v4 => (uP pLt [v1.2, v4]).bind fun v5 => (uB v5).bind fun v6 => R.ok v6) (fun v1 => (uP pIx [v1.1, v1.2]).bind fun v7 => uUnp2 v7 fun v8 v9 => (uI v1.2).bind fun _ => (uP pAddI [v1.2, (.int 1)]).bind fun v10 =>
  (uP (isiP ["bool"]) [v8]).bind fun v11 => (uP (isiP ["bool"]) [v9]).bind fun v12 => (uP pNe [v11, v12]).bind fun v13 => (uB v13).bind fun v14 => (if v14 then R.ok true else (uP (isiP ["str"]) [v8]).bind fun v16 => (uP (isiP ["str"]) [v9]).bind fun v17 => (uP pNe [v16, v17]).bind fun v18 => (uB v18).bind fun v19 => R.ok v19).bind fun v15 => if v15 then R.ok (.done (.bl false)) else
  (uP (isiP ["tuple", "list"]) [v8]).bind fun v20 => (uP (isiP ["tuple", "list"]) [v9]).bind fun v21 => (uP pNe [v20, v21]).bind fun v22 => (uB v22).bind fun v23 => if v23 then R.ok (.done (.bl false)) else
  (uP (isiP ["tuple", "list"]) [v8]).bind fun v24 => (uB v24).bind fun v25 => if v25 then (uP (isiP ["tuple"]) [v8]).bind fun v26 => (uP (isiP ["tuple"]) [v9]).bind fun v27 => (uP pNe [v26, v27]).bind fun v28 => (uB v28).bind fun v29 => (if v29 then R.ok true else (uP pLen [v8]).bind fun v31 => (uP pLen [v9]).bind fun v32 => (uP pNe [v31, v32]).bind fun v33 => (uB v33).bind fun v34 => R.ok v34).bind fun v30 => if v30 then R.ok (.done (.bl false)) else
  (uL v1.1).bind fun _ => (uP pLZ [v8, v9]).bind fun v35 => (uMut fExtendU v1.1 [v35]).bind fun v36 => R.ok (.next (v36.1, v10)) else (uP pNe [v8, v9]).bind fun v37 => (uB v37).bind fun v38 => if v38 then R.ok (.done (.bl false)) else R.ok (.next (v1.1, v10))) ((.lst false [(.tup [x0, x1])]), (.int 0))).bind fun v3 => jn v3 fun v2 =>
  R.ok (.bl true)
noncomputable def W__law_alike : List D → R (D) := fun xs => match xs with
  | [x0, x1] => U__law_alike x0 x1
  | _ => .bad
theorem T__law_alike (f0 f1 : Fg) : FU Φ__law_alike [f0, f1] W__law_alike (fun b => b) .cold (fun (xs : List D) (b : D) => [.val (hd xs) .cold, .val (hd (tl xs)) .cold]) :=
  fu_mk (N := 6) (prs := [true, true]) (m := M__law_alike) rfl fun xs hl => match xs, hl with
    | [x0, x1], _ =>
      have h : SG XT ⟨protOf [true, true] 0, []⟩ [.val x0 f0, .val x1 f1, .cold, .cold, .cold, .cold] (QF [true, true] (fun b => b) .cold ((fun (xs : List D) (b : D) => [.val (hd xs) .cold, .val (hd (tl xs)) .cold]) [x0, x1])) M__law_alike _ :=
      (q_par (nm (fun (t : (Unit)) γ => (gset (gset γ 0 (.val (gat γ 0).v .cold)) 1 (.val (gat γ 1).v .cold))) (fun γ => (() : (Unit))) (vl_cons (lst_n (vl_cons (tup_n (vl_cons (cv_var rfl) (fun _ => (vl_cons (cv_var rfl) (fun _ => vl_nil))))) (fun _ => vl_nil))) (fun _ => (vl_cons p_con (fun _ => vl_nil)))) (fun _ => (le_cons les_rfl (le_cons les_rfl (le_cons les_rfl (le_cons les_rfl (le_cons les_rfl (le_cons les_rfl le_nil)))))))) rfl (fun _ => rfl) (fun _ _ _ =>
  (q_while (fun (t : (D × D)) γ => (gset (gset (gset (gset γ 2 (.val t.1 .own)) 3 (.val t.2 .cold)) 4 (.cold)) 5 (.cold))) (fun γ => (((gat γ 2).v, (gat γ 3).v) : (D × D))) (le_cons les_rfl (le_cons les_rfl (le_cons les_rfl (le_cons les_rfl (le_cons les_rfl (le_cons les_rfl le_nil)))))) (fun _ => (p_mB (p_bin n_lt.k (p_oN rfl) (p_oE (p_prim n_len.k (p_cons (p_oN rfl) p_nil) rfl)) rfl))) (fun _ => (q_set (p_bin n_ix.k (p_oN rfl) (p_oN rfl) rfl) (fun _ _ _ r => (t_tup2 r (fun _ _ h4_0 h4_1 => (t_cons (t_name h4_0 rfl rfl (t_cons (t_name h4_1 rfl rfl (t_nil 
  (q_aug n_addI rfl (p_oE p_con) rfl (fun _ => rfl) (fun _ _ =>
  (q_ifX (p_or (p_mB (p_bin n_ne.k (p_oE (p_unG gR_get (n_isi _).k (p_oN rfl) rfl)) (p_oE (p_unG gR_get (n_isi _).k (p_oN rfl) rfl)) rfl)) (p_mB (p_bin n_ne.k (p_oE (p_unG gR_get (n_isi _).k (p_oN rfl) rfl)) (p_oE (p_unG gR_get (n_isi _).k (p_oN rfl) rfl)) rfl))) (fun _ => (q_retS (q_done (q_ret0 p_con fle_rfl (fun _ _ => ⟨les_rfl, ⟨les_rfl, trivial⟩⟩))))) (fun _ =>
  (q_skip (q_ifX (p_mB (p_bin n_ne.k (p_oE (p_unG gR_get (n_isi _).k (p_oN rfl) rfl)) (p_oE (p_unG gR_get (n_isi _).k (p_oN rfl) rfl)) rfl)) (fun _ => (q_retS (q_done (q_ret0 p_con fle_rfl (fun _ _ => ⟨les_rfl, ⟨les_rfl, trivial⟩⟩))))) (fun _ =>
  (q_skip (q_if (p_mB (p_unG gR_get (n_isi _).k (p_oN rfl) rfl)) (fun _ => (q_ifX (p_or (p_mB (p_bin n_ne.k (p_oE (p_unG gR_get (n_isi _).k (p_oN rfl) rfl)) (p_oE (p_unG gR_get (n_isi _).k (p_oN rfl) rfl)) rfl)) (p_mB (p_bin n_ne.k (p_oE (p_prim n_len.k (p_cons (p_oN rfl) p_nil) rfl)) (p_oE (p_prim n_len.k (p_cons (p_oN rfl) p_nil) rfl)) rfl))) (fun _ => (q_retS (q_done (q_ret0 p_con fle_rfl (fun _ _ => ⟨les_rfl, ⟨les_rfl, trivial⟩⟩))))) (fun _ =>
  (q_skip (q_last (q_mut m_extend rfl (p_vcons (p_prim n_lz.k (p_cons (p_oN rfl) (p_cons (p_oN rfl) p_nil)) rfl) p_vnil) rfl (fun _ =>
  (q_endL (fun γ => (((gat γ 2).v, (gat γ 3).v) : (D × D))) (le_cons les_rfl (le_cons les_rfl (le_cons les_rfl (le_cons les_rfl (le_cons les_cold (le_cons les_cold le_nil)))))))))))))) (fun _ => (q_if (p_mB (p_bin n_ne.k (p_oN rfl) (p_oN rfl) rfl)) (fun _ => (q_done (q_ret0 p_con fle_rfl (fun _ _ => ⟨les_rfl, ⟨les_rfl, trivial⟩⟩)))) (fun _ => (q_endL (fun γ => (((gat γ 2).v, (gat γ 3).v) : (D × D))) (le_cons les_rfl (le_cons les_rfl (le_cons les_rfl (le_cons les_rfl (le_cons les_cold (le_cons les_cold le_nil))))))))))))))))))))))))))))) (fun _ =>
  (q_ret0 p_con fle_rfl (fun _ _ => ⟨les_rfl, ⟨les_rfl, trivial⟩⟩))))));
      h
noncomputable def U_is_near_lot (x0 x1 x2 : D) : R (D) :=
  (uIt it1 [x0]).bind fun v1 => (uComp (fun v2 => (uP pSub [x1, v2]).bind fun v4 => (uP pAbs [v4]).bind fun v5 => (uP pLe [v5, x2]).bind fun v6 => R.ok (some v6)) v1).bind fun v3 => (uP pAny [v3]).bind fun v7 => R.ok v7
noncomputable def W_is_near_lot : List D → R (D) := fun xs => match xs with
  | [x0, x1, x2] => U_is_near_lot x0 x1 x2
  | _ => .bad
theorem T_is_near_lot (f0 f1 f2 : Fg) : FU Φ_is_near_lot [f0, f1, f2] W_is_near_lot (fun b => b) .cold (fun (xs : List D) (b : D) => [.val (hd xs) f0, .val (hd (tl xs)) f1, .val (hd (tl (tl xs))) f2]) :=
  fu_mk (N := 4) (prs := [true, true, true]) (m := M_is_near_lot) rfl fun xs hl => match xs, hl with
    | [x0, x1, x2], _ =>
      have h : SG XT ⟨protOf [true, true, true] 0, []⟩ [.val x0 f0, .val x1 f1, .val x2 f2, .cold] (QF [true, true, true] (fun b => b) .cold ((fun (xs : List D) (b : D) => [.val (hd xs) f0, .val (hd (tl xs)) f1, .val (hd (tl (tl xs))) f2]) [x0, x1, x2])) M_is_near_lot _ :=
      (q_ret0 (p_prim n_any.k (p_cons (p_oE (p_comp (n := 4) (p_src (p_oN rfl) rfl) (fun _ hx => (t_name (rdc hx) rfl rfl (u_all (p_bin n_le.k (p_oE (p_prim n_abs.k (p_cons (p_oE (p_bin n_sub.k (p_oN rfl) (p_oN rfl) rfl)) p_nil) rfl)) (p_oN rfl) rfl) (le_cons les_rfl (le_cons les_rfl (le_cons les_rfl (le_cons les_any le_nil))))))) rfl rfl)) p_nil) rfl) fle_rfl (fun _ _ => ⟨les_rfl, ⟨les_rfl, ⟨les_rfl, trivial⟩⟩⟩));
      h
noncomputable def U_passing (x0 x1 x2 x3 : D) : R (D) :=
  (uP pAddN [x3, (.int 1)]).bind fun v1 => (uRng1 v1).bind fun v2 => (uComp (fun v3 => (uP pAdd [x1, v3]).bind fun v5 => (U_is_near_lot x0 v5 x2).bind fun v6 => R.ok (some v6)) v2).bind fun v4 => R.ok v4
noncomputable def W_passing : List D → R (D) := fun xs => match xs with
  | [x0, x1, x2, x3] => U_passing x0 x1 x2 x3
  | _ => .bad
theorem T_passing (f0 f1 f2 f3 : Fg) : FU Φ_passing [f0, f1, f2, f3] W_passing (fun b => b) .own (fun (xs : List D) (b : D) => [.val (hd xs) f0, .val (hd (tl xs)) f1, .val (hd (tl (tl xs))) f2, .val (hd (tl (tl (tl xs)))) f3]) :=
  fu_mk (N := 5) (prs := [true, true, true, true]) (m := M_passing) rfl fun xs hl => match xs, hl with
    | [x0, x1, x2, x3], _ =>
      have h : SG XT ⟨protOf [true, true, true, true] 0, []⟩ [.val x0 f0, .val x1 f1, .val x2 f2, .val x3 f3, .cold] (QF [true, true, true, true] (fun b => b) .own ((fun (xs : List D) (b : D) => [.val (hd xs) f0, .val (hd (tl xs)) f1, .val (hd (tl (tl xs))) f2, .val (hd (tl (tl (tl xs)))) f3]) [x0, x1, x2, x3])) M_passing _ :=
      (q_ret0 (p_comp (n := 5) (p_rng1 (p_bin n_addN (p_oN rfl) (p_oE p_con) rfl)) (fun _ hx => (t_name (rdc hx) rfl rfl (u_all (p_call (T_is_near_lot f0 .any f2) (p_cons (p_oN rfl) (p_cons (p_oE (p_bin n_add.k (p_oN rfl) (p_oN rfl) rfl)) (p_cons (p_oN rfl) p_nil))) rfl rfl rfl (fun _ _ => (aft_keep (aft_same rfl) (.val (aft_keep (aft_same rfl) .nil)))) hx_p) (le_cons les_rfl (le_cons les_rfl (le_cons les_rfl (le_cons les_rfl (le_cons les_any le_nil)))))))) rfl rfl) fle_rfl (fun _ _ => ⟨les_rfl, ⟨les_rfl, ⟨les_rfl, ⟨les_rfl, trivial⟩⟩⟩⟩));
      h
noncomputable def U_perhaps_opens (x0 x1 x2 x3 : D) : R (D) :=
  (uIt zA2 [x0, x1]).bind fun v1 => (uComp (fun v2 => uUnp2 v2 fun v4 v5 => (U_passing v4 v5 x2 x3).bind fun v6 => (uP pAny [v6]).bind fun v7 => R.ok (some v7)) v1).bind fun v3 => (uP pAll [v3]).bind fun v8 => R.ok v8
noncomputable def W_perhaps_opens : List D → R (D) := fun xs => match xs with
  | [x0, x1, x2, x3] => U_perhaps_opens x0 x1 x2 x3
  | _ => .bad
theorem T_perhaps_opens (f0 f1 f2 f3 : Fg) : FU Φ_perhaps_opens [f0, f1, f2, f3] W_perhaps_opens (fun b => b) .cold (fun (xs : List D) (b : D) => [.val (hd xs) f0, .val (hd (tl xs)) f1, .val (hd (tl (tl xs))) f2, .val (hd (tl (tl (tl xs)))) f3]) :=
  fu_mk (N := 6) (prs := [true, true, true, true]) (m := M_perhaps_opens) rfl fun xs hl => match xs, hl with
    | [x0, x1, x2, x3], _ =>
      have h : SG XT ⟨protOf [true, true, true, true] 0, []⟩ [.val x0 f0, .val x1 f1, .val x2 f2, .val x3 f3, .cold, .cold] (QF [true, true, true, true] (fun b => b) .cold ((fun (xs : List D) (b : D) => [.val (hd xs) f0, .val (hd (tl xs)) f1, .val (hd (tl (tl xs))) f2, .val (hd (tl (tl (tl xs)))) f3]) [x0, x1, x2, x3])) M_perhaps_opens _ :=
      (q_ret0 (p_prim n_all.k (p_cons (p_oE (p_comp (n := 6) (p_walk w_zip2 (p_cons (p_oN rfl) (p_cons (p_oN rfl) p_nil)) rfl) (fun _ hx => (t_tup2 (rdc hx) (fun _ _ h2_0 h2_1 => (t_cons (t_name h2_0 rfl rfl (t_cons (t_name h2_1 rfl rfl (t_nil (u_all (p_prim n_any.k (p_cons (p_oE (p_call (T_passing .cold .cold f2 f3) (p_cons (p_oN rfl) (p_cons (p_oN rfl) (p_cons (p_oN rfl) (p_cons (p_oN rfl) p_nil)))) rfl rfl rfl (fun _ _ => (.cold rfl (.cold rfl (aft_keep (aft_same rfl) (aft_keep (aft_same rfl) .nil))))) hx_p)) p_nil) rfl) (le_cons les_rfl (le_cons les_rfl (le_cons les_rfl (le_cons les_rfl (le_cons les_any (le_cons les_any le_nil))))))))))))))) rfl rfl)) p_nil) rfl) fle_rfl (fun _ _ => ⟨les_rfl, ⟨les_rfl, ⟨les_rfl, ⟨les_rfl, trivial⟩⟩⟩⟩));
      h
noncomputable def U_surely_opens (x0 x1 x2 x3 : D) : R (D) :=
  (uIt zA2 [x0, x1]).bind fun v1 => (uComp (fun v2 => uUnp2 v2 fun v4 v5 => (U_passing v4 v5 x2 x3).bind fun v6 => (uP pAll [v6]).bind fun v7 => R.ok (some v7)) v1).bind fun v3 => (uP pAll [v3]).bind fun v8 => R.ok v8
noncomputable def W_surely_opens : List D → R (D) := fun xs => match xs with
  | [x0, x1, x2, x3] => U_surely_opens x0 x1 x2 x3
  | _ => .bad
theorem T_surely_opens (f0 f1 f2 f3 : Fg) : FU Φ_surely_opens [f0, f1, f2, f3] W_surely_opens (fun b => b) .cold (fun (xs : List D) (b : D) => [.val (hd xs) f0, .val (hd (tl xs)) f1, .val (hd (tl (tl xs))) f2, .val (hd (tl (tl (tl xs)))) f3]) :=
  fu_mk (N := 6) (prs := [true, true, true, true]) (m := M_surely_opens) rfl fun xs hl => match xs, hl with
    | [x0, x1, x2, x3], _ =>
      have h : SG XT ⟨protOf [true, true, true, true] 0, []⟩ [.val x0 f0, .val x1 f1, .val x2 f2, .val x3 f3, .cold, .cold] (QF [true, true, true, true] (fun b => b) .cold ((fun (xs : List D) (b : D) => [.val (hd xs) f0, .val (hd (tl xs)) f1, .val (hd (tl (tl xs))) f2, .val (hd (tl (tl (tl xs)))) f3]) [x0, x1, x2, x3])) M_surely_opens _ :=
      (q_ret0 (p_prim n_all.k (p_cons (p_oE (p_comp (n := 6) (p_walk w_zip2 (p_cons (p_oN rfl) (p_cons (p_oN rfl) p_nil)) rfl) (fun _ hx => (t_tup2 (rdc hx) (fun _ _ h2_0 h2_1 => (t_cons (t_name h2_0 rfl rfl (t_cons (t_name h2_1 rfl rfl (t_nil (u_all (p_prim n_all.k (p_cons (p_oE (p_call (T_passing .cold .cold f2 f3) (p_cons (p_oN rfl) (p_cons (p_oN rfl) (p_cons (p_oN rfl) (p_cons (p_oN rfl) p_nil)))) rfl rfl rfl (fun _ _ => (.cold rfl (.cold rfl (aft_keep (aft_same rfl) (aft_keep (aft_same rfl) .nil))))) hx_p)) p_nil) rfl) (le_cons les_rfl (le_cons les_rfl (le_cons les_rfl (le_cons les_rfl (le_cons les_any (le_cons les_any le_nil))))))))))))))) rfl rfl)) p_nil) rfl) fle_rfl (fun _ _ => ⟨les_rfl, ⟨les_rfl, ⟨les_rfl, ⟨les_rfl, trivial⟩⟩⟩⟩));
      h
noncomputable def U_worn_row (x0 x1 x2 x3 : D) : R (D) :=
  (U_surely_opens x0 x1 x2 x3).bind fun v1 => (uB v1).bind fun v2 => if v2 then R.ok .non else
  (uIt zA2 [x0, x1]).bind fun v3 => (uComp (fun v4 => uUnp2 v4 fun v6 v7 => (U_passing v6 v7 x2 x3).bind fun v8 => R.ok (some v8)) v3).bind fun v5 => (uIt it1 [v5]).bind fun v9 => (uComp (fun v10 => (uP pIx [v10, (.int 0)]).bind fun v12 => R.ok (some v12)) v9).bind fun v11 => (uP pAll [v11]).bind fun v13 => (uB v13).bind fun v14 => if (!v14) then R.ok x1 else
  (uIt eA [v5]).bind fun v15 => (uComp (fun v16 => uUnp2 v16 fun v18 v19 => (uP pAll [v19]).bind fun v20 => (uB v20).bind fun v21 => if (!v21) then R.ok (some v18) else R.ok none) v15).bind fun v17 => (uP pNeg [(.int 1)]).bind fun v22 => (uP pIx [v17, v22]).bind fun v23 => (uI v23).bind fun v24 => (uP (pSl none (some v24)) [x1]).bind fun v25 => (uParts v25).bind fun v26 => (uP pIx [x1, v23]).bind fun v27 => (uP pIx [v5, v23]).bind fun v28 => (uL v28).bind fun _ => (uP pIndex [v28, (.bl false)]).bind fun v29 => (uP pAddN [v27, v29]).bind fun v30 => (uP pAddN [v23, (.int 1)]).bind fun v31 => (uI v31).bind fun v32 => (uP (pSl (some v32) none) [x1]).bind fun v33 => (uParts v33).bind fun v34 => (uTup (v26 ++ (v30 :: (v34 ++ [])))).bind fun v35 => R.ok v35
noncomputable def W_worn_row : List D → R (D) := fun xs => match xs with
  | [x0, x1, x2, x3] => U_worn_row x0 x1 x2 x3
  | _ => .bad
theorem T_worn_row (f0 f1 f2 f3 : Fg) : FU Φ_worn_row [f0, f1, f2, f3] W_worn_row (fun b => b) .cold (fun (xs : List D) (b : D) => [.val (hd xs) f0, .val (hd (tl xs)) .any, .val (hd (tl (tl xs))) f2, .val (hd (tl (tl (tl xs)))) f3]) :=
  fu_mk (N := 10) (prs := [true, true, true, true]) (m := M_worn_row) rfl fun xs hl => match xs, hl with
    | [x0, x1, x2, x3], _ =>
      have h : SG XT ⟨protOf [true, true, true, true] 0, []⟩ [.val x0 f0, .val x1 f1, .val x2 f2, .val x3 f3, .cold, .cold, .cold, .cold, .cold, .cold] (QF [true, true, true, true] (fun b => b) .cold ((fun (xs : List D) (b : D) => [.val (hd xs) f0, .val (hd (tl xs)) .any, .val (hd (tl (tl xs))) f2, .val (hd (tl (tl (tl xs)))) f3]) [x0, x1, x2, x3])) M_worn_row _ :=
      (q_ifX (p_mB (p_call (T_surely_opens f0 f1 f2 f3) (p_cons (p_oN rfl) (p_cons (p_oN rfl) (p_cons (p_oN rfl) (p_cons (p_oN rfl) p_nil)))) rfl rfl rfl (fun _ _ => (aft_keep (aft_same rfl) (aft_keep (aft_same rfl) (aft_keep (aft_same rfl) (aft_keep (aft_same rfl) .nil))))) hx_p)) (fun _ => (q_retS (q_ret0 p_con fle_rfl (fun _ _ => ⟨les_rfl, ⟨les_val, ⟨les_rfl, ⟨les_rfl, trivial⟩⟩⟩⟩)))) (fun _ =>
  (q_skip (q_set (p_comp (n := 10) (p_walk w_zip2 (p_cons (p_oN rfl) (p_cons (p_oN rfl) p_nil)) rfl) (fun _ hx => (t_tup2 (rdc hx) (fun _ _ h3_0 h3_1 => (t_cons (t_name h3_0 rfl rfl (t_cons (t_name h3_1 rfl rfl (t_nil (u_all (p_call (T_passing .cold .cold f2 f3) (p_cons (p_oN rfl) (p_cons (p_oN rfl) (p_cons (p_oN rfl) (p_cons (p_oN rfl) p_nil)))) rfl rfl rfl (fun _ _ => (.cold rfl (.cold rfl (aft_keep (aft_same rfl) (aft_keep (aft_same rfl) .nil))))) hx_p) (le_cons les_rfl (le_cons les_rfl (le_cons les_rfl (le_cons les_rfl (le_cons les_rfl (le_cons les_rfl (le_cons les_any (le_cons les_any (le_cons les_rfl (le_cons les_rfl le_nil))))))))))))))))))) rfl rfl) (fun _ _ _ r => (t_name r rfl rfl 
  (q_ifX (p_not (p_mB (p_prim n_all.k (p_cons (p_oE (p_comp (n := 10) (p_src (p_oN rfl) rfl) (fun _ hx => (t_name (rdc hx) rfl rfl (u_all (p_bin n_ix.k (p_oN rfl) (p_oE p_con) rfl) (le_cons les_rfl (le_cons les_rfl (le_cons les_rfl (le_cons les_rfl (le_cons les_rfl (le_cons les_rfl (le_cons les_rfl (le_cons les_rfl (le_cons les_any (le_cons les_rfl le_nil))))))))))))) rfl rfl)) p_nil) rfl))) (fun _ => (q_retS (q_ret0 (cv_mvP rfl rfl) fle_rfl (fun _ _ => ⟨les_rfl, ⟨les_val, ⟨les_rfl, ⟨les_rfl, trivial⟩⟩⟩⟩)))) (fun _ =>
  (q_skip (q_set (p_bin n_ix.k (p_oE (p_comp (n := 10) (p_walk w_enum (p_cons (p_oN rfl) p_nil) rfl) (fun _ hx => (t_tup2 (rdc hx) (fun _ _ h4_0 h4_1 => (t_cons (t_name h4_0 rfl rfl (t_cons (t_name h4_1 rfl rfl (t_nil (u_if (p_not (p_mB (p_prim n_all.k (p_cons (p_oN rfl) p_nil) rfl))) (p_var rfl) (le_cons les_rfl (le_cons les_rfl (le_cons les_rfl (le_cons les_rfl (le_cons les_rfl (le_cons les_rfl (le_cons les_rfl (le_cons les_rfl (le_cons les_any (le_cons les_any le_nil))))))))))))))))))) rfl rfl)) (p_oE (p_unG gC_get n_neg.k (p_oE p_con) rfl)) rfl) (fun _ _ _ r => (t_name r rfl rfl 
  (q_ret0 (p_tupA (p_vstar (p_sl (fun lo hi => (n_sl lo hi).k) (p_oN rfl) p_pN (p_pS (p_var rfl)) rfl) (p_vconsA (p_bin n_addN (p_oE (p_bin n_ix.k (p_oN rfl) (p_oN rfl) rfl)) (p_oE (p_prim n_index.k (p_cons (p_oE (p_mLst (p_bin n_ix.k (p_oN rfl) (p_oN rfl) rfl))) (p_cons (p_oE p_con) p_nil)) rfl)) rfl) (p_vstar (p_sl (fun lo hi => (n_sl lo hi).k) (p_oN rfl) (p_pS (p_bin n_addN (p_oN rfl) (p_oE p_con) rfl)) p_pN rfl) p_vnilA)))) fle_rfl (fun _ _ => ⟨les_rfl, ⟨les_val, ⟨les_rfl, ⟨les_rfl, trivial⟩⟩⟩⟩))))))))))))));
      h
noncomputable def U__law_fault (x0 x1 x2 x3 x4 : D) : R (D) :=
  (uIt eA [x0]).bind fun v1 => (forU (fun v2 (v3 : Unit) => uUnp2 v2 fun v5 v6 => (uIt eA [x1]).bind fun v7 => (forU (fun v8 (v9 : Unit) => uUnp2 v8 fun v11 v12 => (U__law_worn v6 x4).bind fun v13 => (uIt it1 [v13]).bind fun v14 => (uComp (fun v15 => (U__law_passes v12 v15 x3).bind fun v17 => (uP pIn [(.tup [v5, v11]), x2]).bind fun v18 => (uP pNe [v17, v18]).bind fun v19 => (uB v19).bind fun v20 => if v20 then R.ok (some v15) else R.ok none) v14).bind fun v16 => (uP pNe [v16, (.lst false [])]).bind fun v21 => (uB v21).bind fun v22 => if v22 then (((uP pIx [v16, (.int 0)]).bind fun v23 => R.ok (.tup [v5, v11, v23])).bind fun v24 => R.ok (.done v24)).bind fun v25 => R.ok (.done v25) else R.ok (.next ())) v7 ()).bind fun v26 => jn v26 fun v10 =>
  R.ok (.next ())) v1 ()).bind fun v27 => jn v27 fun v4 =>
  R.ok .non
noncomputable def W__law_fault : List D → R (D) := fun xs => match xs with
  | [x0, x1, x2, x3, x4] => U__law_fault x0 x1 x2 x3 x4
  | _ => .bad
theorem T__law_fault (f0 f1 f2 f3 f4 : Fg) : FU Φ__law_fault [f0, f1, f2, f3, f4] W__law_fault (fun b => b) .cold (fun (xs : List D) (b : D) => [.val (hd xs) f0, .val (hd (tl xs)) f1, .val (hd (tl (tl xs))) f2, .val (hd (tl (tl (tl xs)))) f3, .val (hd (tl (tl (tl (tl xs))))) f4]) :=
  fu_mk (N := 11) (prs := [true, true, true, true, true]) (m := M__law_fault) rfl fun xs hl => match xs, hl with
    | [x0, x1, x2, x3, x4], _ =>
      have h : SG XT ⟨protOf [true, true, true, true, true] 0, []⟩ [.val x0 f0, .val x1 f1, .val x2 f2, .val x3 f3, .val x4 f4, .cold, .cold, .cold, .cold, .cold, .cold] (QF [true, true, true, true, true] (fun b => b) .cold ((fun (xs : List D) (b : D) => [.val (hd xs) f0, .val (hd (tl xs)) f1, .val (hd (tl (tl xs))) f2, .val (hd (tl (tl (tl xs)))) f3, .val (hd (tl (tl (tl (tl xs))))) f4]) [x0, x1, x2, x3, x4])) M__law_fault _ :=
      (q_forX (fun (t : (Unit)) γ => (gset (gset (gset (gset (gset γ 5 (.cold)) 6 (.cold)) 7 (.cold)) 8 (.cold)) 9 (.any))) (fun γ => (() : (Unit))) (p_walk w_enum (p_cons (p_oN rfl) p_nil) rfl) (le_cons les_rfl (le_cons les_rfl (le_cons les_rfl (le_cons les_rfl (le_cons les_rfl (le_cons les_rfl (le_cons les_rfl (le_cons les_rfl (le_cons les_rfl (le_cons les_any (le_cons les_rfl le_nil))))))))))) (fun _ _ hx => (t_tup2 (rdc hx) (fun _ _ h18_0 h18_1 => (t_cons (t_name h18_0 rfl rfl (t_cons (t_name h18_1 rfl rfl (t_nil 
  (q_last (q_forX (fun (t : (Unit)) γ => (gset (gset (gset γ 7 (.cold)) 8 (.cold)) 9 (.any))) (fun γ => (() : (Unit))) (p_walk w_enum (p_cons (p_oN rfl) p_nil) rfl) (le_cons les_rfl (le_cons les_rfl (le_cons les_rfl (le_cons les_rfl (le_cons les_rfl (le_cons les_rfl (le_cons les_rfl (le_cons les_rfl (le_cons les_rfl (le_cons les_any (le_cons les_rfl le_nil))))))))))) (fun _ _ hx => (t_tup2 (rdc hx) (fun _ _ h20_0 h20_1 => (t_cons (t_name h20_0 rfl rfl (t_cons (t_name h20_1 rfl rfl (t_nil 
  (q_set (p_comp (n := 11) (p_src (p_oE (p_call (T__law_worn .cold f4) (p_cons (p_oN rfl) (p_cons (p_oN rfl) p_nil)) rfl rfl rfl (fun _ _ => (.cold rfl (aft_keep (aft_same rfl) .nil))) hx_p)) rfl) (fun _ hx => (t_name (rdc hx) rfl rfl (u_if (p_mB (p_bin n_ne.k (p_oE (p_call (T__law_passes .cold .cold f3) (p_cons (p_oN rfl) (p_cons (p_oN rfl) (p_cons (p_oN rfl) p_nil))) rfl rfl rfl (fun _ _ => (.cold rfl (.cold rfl (aft_keep (aft_same rfl) .nil)))) hx_p)) (p_oE (p_bin n_in.k (p_oE (p_tup (p_vcons (p_var rfl) (p_vcons (p_var rfl) p_vnil)))) (p_oN rfl) rfl)) rfl)) (p_var rfl) (le_cons les_rfl (le_cons les_rfl (le_cons les_rfl (le_cons les_rfl (le_cons les_rfl (le_cons les_rfl (le_cons les_rfl (le_cons les_rfl (le_cons les_rfl (le_cons les_any (le_cons les_any le_nil)))))))))))))) rfl rfl) (fun _ _ _ r => (t_name r rfl rfl 
  (q_if (p_mB (p_bin n_ne.k (p_oN rfl) (p_oE (p_lst p_vnil)) rfl)) (fun _ => (q_done (q_done (q_ret0 (p_tup (p_vcons (p_var rfl) (p_vcons (p_var rfl) (p_vcons (p_bin n_ix.k (p_oN rfl) (p_oE p_con) rfl) p_vnil)))) fle_rfl (fun _ _ => ⟨les_rfl, ⟨les_rfl, ⟨les_rfl, ⟨les_rfl, ⟨les_rfl, trivial⟩⟩⟩⟩⟩))))) (fun _ => (q_endL (fun γ => (() : (Unit))) (le_cons les_rfl (le_cons les_rfl (le_cons les_rfl (le_cons les_rfl (le_cons les_rfl (le_cons les_rfl (le_cons les_rfl (le_cons les_cold (le_cons les_cold (le_cons les_any (le_cons les_rfl le_nil))))))))))))))))))))))))) (fun _ =>
  (q_endL (fun γ => (() : (Unit))) (le_cons les_rfl (le_cons les_rfl (le_cons les_rfl (le_cons les_rfl (le_cons les_rfl (le_cons les_cold (le_cons les_cold (le_cons les_rfl (le_cons les_rfl (le_cons les_any (le_cons les_rfl le_nil))))))))))))))))))))))) (fun _ =>
  (q_ret0 p_con fle_rfl (fun _ _ => ⟨les_rfl, ⟨les_rfl, ⟨les_rfl, ⟨les_rfl, ⟨les_rfl, trivial⟩⟩⟩⟩⟩))));
      h
noncomputable def U_opened_row (x0 x1 x2 x3 : D) : R (D) :=
  (uIt zA2 [x0, x1]).bind fun v1 => (uComp (fun v2 => uUnp2 v2 fun v4 v5 => (U_passing v4 v5 x2 x3).bind fun v6 => (uL v6).bind fun _ => (uP pIndex [v6, (.bl true)]).bind fun v7 => (uP pAddN [v5, v7]).bind fun v8 => R.ok (some v8)) v1).bind fun v3 => (uP pTuple [v3]).bind fun v9 => R.ok v9
noncomputable def W_opened_row : List D → R (D) := fun xs => match xs with
  | [x0, x1, x2, x3] => U_opened_row x0 x1 x2 x3
  | _ => .bad
theorem T_opened_row (f0 f1 f2 f3 : Fg) : FU Φ_opened_row [f0, f1, f2, f3] W_opened_row (fun b => b) .cold (fun (xs : List D) (b : D) => [.val (hd xs) f0, .val (hd (tl xs)) f1, .val (hd (tl (tl xs))) f2, .val (hd (tl (tl (tl xs)))) f3]) :=
  fu_mk (N := 6) (prs := [true, true, true, true]) (m := M_opened_row) rfl fun xs hl => match xs, hl with
    | [x0, x1, x2, x3], _ =>
      have h : SG XT ⟨protOf [true, true, true, true] 0, []⟩ [.val x0 f0, .val x1 f1, .val x2 f2, .val x3 f3, .cold, .cold] (QF [true, true, true, true] (fun b => b) .cold ((fun (xs : List D) (b : D) => [.val (hd xs) f0, .val (hd (tl xs)) f1, .val (hd (tl (tl xs))) f2, .val (hd (tl (tl (tl xs)))) f3]) [x0, x1, x2, x3])) M_opened_row _ :=
      (q_ret0 (p_prim n_tuple (p_cons (p_oE (p_comp (n := 6) (p_walk w_zip2 (p_cons (p_oN rfl) (p_cons (p_oN rfl) p_nil)) rfl) (fun _ hx => (t_tup2 (rdc hx) (fun _ _ h2_0 h2_1 => (t_cons (t_name h2_0 rfl rfl (t_cons (t_name h2_1 rfl rfl (t_nil (u_all (p_bin n_addN (p_oN rfl) (p_oE (p_prim n_index.k (p_cons (p_oE (p_mLst (p_call (T_passing .cold .cold f2 f3) (p_cons (p_oN rfl) (p_cons (p_oN rfl) (p_cons (p_oN rfl) (p_cons (p_oN rfl) p_nil)))) rfl rfl rfl (fun _ _ => (.cold rfl (.cold rfl (aft_keep (aft_same rfl) (aft_keep (aft_same rfl) .nil))))) hx_p))) (p_cons (p_oE p_con) p_nil)) rfl)) rfl) (le_cons les_rfl (le_cons les_rfl (le_cons les_rfl (le_cons les_rfl (le_cons les_any (le_cons les_any le_nil))))))))))))))) rfl rfl)) p_nil) rfl) fle_rfl (fun _ _ => ⟨les_rfl, ⟨les_rfl, ⟨les_rfl, ⟨les_rfl, trivial⟩⟩⟩⟩));
      h
noncomputable def U_couple_fault (x0 x1 x2 x3 x4 : D) : R (D) :=
  (uB x2).bind fun v1 => if v1 then (U_worn_row x0 x1 x3 x4).bind fun v2 => R.ok v2 else
  (U_perhaps_opens x0 x1 x3 x4).bind fun v3 => (uB v3).bind fun v4 => (if v4 then (U_opened_row x0 x1 x3 x4).bind fun v6 => R.ok v6 else R.ok .non).bind fun v5 => R.ok v5
noncomputable def W_couple_fault : List D → R (D) := fun xs => match xs with
  | [x0, x1, x2, x3, x4] => U_couple_fault x0 x1 x2 x3 x4
  | _ => .bad
theorem T_couple_fault (f0 f1 f2 f3 f4 : Fg) : FU Φ_couple_fault [f0, f1, f2, f3, f4] W_couple_fault (fun b => b) .cold (fun (xs : List D) (b : D) => [.val (hd xs) f0, .val (hd (tl xs)) .any, .val (hd (tl (tl xs))) .cold, .val (hd (tl (tl (tl xs)))) f3, .val (hd (tl (tl (tl (tl xs))))) f4]) :=
  fu_mk (N := 5) (prs := [true, true, true, true, true]) (m := M_couple_fault) rfl fun xs hl => match xs, hl with
    | [x0, x1, x2, x3, x4], _ =>
      have h : SG XT ⟨protOf [true, true, true, true, true] 0, []⟩ [.val x0 f0, .val x1 f1, .val x2 f2, .val x3 f3, .val x4 f4] (QF [true, true, true, true, true] (fun b => b) .cold ((fun (xs : List D) (b : D) => [.val (hd xs) f0, .val (hd (tl xs)) .any, .val (hd (tl (tl xs))) .cold, .val (hd (tl (tl (tl xs)))) f3, .val (hd (tl (tl (tl (tl xs))))) f4]) [x0, x1, x2, x3, x4])) M_couple_fault _ :=
      (q_ifX (nm (fun (t : (Unit)) γ => (gset γ 2 (.val (gat γ 2).v .cold))) (fun γ => (() : (Unit))) (cv_mB (cv_var rfl)) (fun _ => (le_cons les_rfl (le_cons les_rfl (le_cons les_rfl (le_cons les_rfl (le_cons les_rfl le_nil))))))) (fun _ => (q_retS (q_ret0 (cv_call (T_worn_row f0 f1 f3 f4) (p_cons (p_oN rfl) (p_cons (p_oN rfl) (p_cons (p_oN rfl) (p_cons (p_oN rfl) p_nil)))) rfl (fun _ => rfl) (fun _ => rfl) (fun _ _ _ => (.slot (aft_same rfl) (.slot aft_weak (.slot (aft_same rfl) (.slot (aft_same rfl) .nil))))) hx_t) fle_rfl (fun _ _ => ⟨les_rfl, ⟨les_rfl, ⟨les_rfl, ⟨les_rfl, ⟨les_rfl, trivial⟩⟩⟩⟩⟩)))) (fun _ =>
  (q_skip (q_ret0 (p_if (p_mB (p_call (T_perhaps_opens f0 f1 f3 f4) (p_cons (p_oN rfl) (p_cons (p_oN rfl) (p_cons (p_oN rfl) (p_cons (p_oN rfl) p_nil)))) rfl rfl rfl (fun _ _ => (aft_keep (aft_same rfl) (aft_keep (aft_same rfl) (aft_keep (aft_same rfl) (aft_keep (aft_same rfl) .nil))))) hx_p)) (p_call (T_opened_row f0 f1 f3 f4) (p_cons (p_oN rfl) (p_cons (p_oN rfl) (p_cons (p_oN rfl) (p_cons (p_oN rfl) p_nil)))) rfl rfl rfl (fun _ _ => (aft_keep (aft_same rfl) (aft_keep (aft_same rfl) (aft_keep (aft_same rfl) (aft_keep (aft_same rfl) .nil))))) hx_p) p_con fle_rfl fle_rfl) fle_rfl (fun _ _ => ⟨les_rfl, ⟨les_val, ⟨les_rfl, ⟨les_rfl, ⟨les_rfl, trivial⟩⟩⟩⟩⟩)))));
      h
noncomputable def U_first_unsafe (x0 x1 x2 x3 x4 : D) : R (D) :=
  (uIt eA [x0]).bind fun v1 => (forU (fun v2 (v3 : Unit) => uUnp2 v2 fun v5 v6 => (uIt eA [x1]).bind fun v7 => (forU (fun v8 (v9 : Unit) => uUnp2 v8 fun v11 v12 => (uP pIn [(.tup [v5, v11]), x2]).bind fun v13 => (U_couple_fault v12 v6 v13 x3 x4).bind fun v14 => (uP pIsNot [v14, .non]).bind fun v15 => (uB v15).bind fun v16 => if v16 then R.ok (.done (.done (.tup [v5, v11, v14]))) else R.ok (.next ())) v7 ()).bind fun v17 => jn v17 fun v10 =>
  R.ok (.next ())) v1 ()).bind fun v18 => jn v18 fun v4 =>
  R.ok .non
noncomputable def W_first_unsafe : List D → R (D) := fun xs => match xs with
  | [x0, x1, x2, x3, x4] => U_first_unsafe x0 x1 x2 x3 x4
  | _ => .bad
theorem T_first_unsafe (f0 f1 f2 f3 f4 : Fg) : FU Φ_first_unsafe [f0, f1, f2, f3, f4] W_first_unsafe (fun b => b) .cold (fun (xs : List D) (b : D) => [.val (hd xs) f0, .val (hd (tl xs)) f1, .val (hd (tl (tl xs))) f2, .val (hd (tl (tl (tl xs)))) f3, .val (hd (tl (tl (tl (tl xs))))) f4]) :=
  fu_mk (N := 10) (prs := [true, true, true, true, true]) (m := M_first_unsafe) rfl fun xs hl => match xs, hl with
    | [x0, x1, x2, x3, x4], _ =>
      have h : SG XT ⟨protOf [true, true, true, true, true] 0, []⟩ [.val x0 f0, .val x1 f1, .val x2 f2, .val x3 f3, .val x4 f4, .cold, .cold, .cold, .cold, .cold] (QF [true, true, true, true, true] (fun b => b) .cold ((fun (xs : List D) (b : D) => [.val (hd xs) f0, .val (hd (tl xs)) f1, .val (hd (tl (tl xs))) f2, .val (hd (tl (tl (tl xs)))) f3, .val (hd (tl (tl (tl (tl xs))))) f4]) [x0, x1, x2, x3, x4])) M_first_unsafe _ :=
      (q_forX (fun (t : (Unit)) γ => (gset (gset (gset (gset (gset γ 5 (.cold)) 6 (.cold)) 7 (.cold)) 8 (.cold)) 9 (.cold))) (fun γ => (() : (Unit))) (p_walk w_enum (p_cons (p_oN rfl) p_nil) rfl) (le_cons les_rfl (le_cons les_rfl (le_cons les_rfl (le_cons les_rfl (le_cons les_rfl (le_cons les_rfl (le_cons les_rfl (le_cons les_rfl (le_cons les_rfl (le_cons les_rfl le_nil)))))))))) (fun _ _ hx => (t_tup2 (rdc hx) (fun _ _ h10_0 h10_1 => (t_cons (t_name h10_0 rfl rfl (t_cons (t_name h10_1 rfl rfl (t_nil 
  (q_last (q_forX (fun (t : (Unit)) γ => (gset (gset (gset γ 7 (.cold)) 8 (.cold)) 9 (.cold))) (fun γ => (() : (Unit))) (p_walk w_enum (p_cons (p_oN rfl) p_nil) rfl) (le_cons les_rfl (le_cons les_rfl (le_cons les_rfl (le_cons les_rfl (le_cons les_rfl (le_cons les_rfl (le_cons les_rfl (le_cons les_rfl (le_cons les_rfl (le_cons les_rfl le_nil)))))))))) (fun _ _ hx => (t_tup2 (rdc hx) (fun _ _ h12_0 h12_1 => (t_cons (t_name h12_0 rfl rfl (t_cons (t_name h12_1 rfl rfl (t_nil 
  (q_set (p_call (T_couple_fault .cold .cold .cold f3 f4) (p_cons (p_oN rfl) (p_cons (p_oN rfl) (p_cons (p_oE (p_bin n_in.k (p_oE (p_tup (p_vcons (p_var rfl) (p_vcons (p_var rfl) p_vnil)))) (p_oN rfl) rfl)) (p_cons (p_oN rfl) (p_cons (p_oN rfl) p_nil))))) rfl rfl rfl (fun _ _ => (.cold rfl (.cold rfl (.val (aft_keep (aft_same rfl) (aft_keep (aft_same rfl) .nil)))))) hx_p) (fun _ _ _ r => (t_name r rfl rfl 
  (q_if (p_mB (p_bin n_isNot.k (p_oN rfl) (p_oE p_con) rfl)) (fun _ => (q_done (q_done (q_ret0 (p_tup (p_vcons (p_var rfl) (p_vcons (p_var rfl) (p_vcons (p_var rfl) p_vnil)))) fle_rfl (fun _ _ => ⟨les_rfl, ⟨les_rfl, ⟨les_rfl, ⟨les_rfl, ⟨les_rfl, trivial⟩⟩⟩⟩⟩))))) (fun _ => (q_endL (fun γ => (() : (Unit))) (le_cons les_rfl (le_cons les_rfl (le_cons les_rfl (le_cons les_rfl (le_cons les_rfl (le_cons les_rfl (le_cons les_rfl (le_cons les_cold (le_cons les_cold (le_cons les_cold le_nil)))))))))))))))))))))))) (fun _ =>
  (q_endL (fun γ => (() : (Unit))) (le_cons les_rfl (le_cons les_rfl (le_cons les_rfl (le_cons les_rfl (le_cons les_rfl (le_cons les_cold (le_cons les_cold (le_cons les_rfl (le_cons les_rfl (le_cons les_rfl le_nil)))))))))))))))))))))) (fun _ =>
  (q_ret0 p_con fle_rfl (fun _ _ => ⟨les_rfl, ⟨les_rfl, ⟨les_rfl, ⟨les_rfl, ⟨les_rfl, trivial⟩⟩⟩⟩⟩))));
      h
noncomputable def U_is_safe (x0 x1 x2 x3 x4 : D) : R (D) :=
  (U_first_unsafe x0 x1 x2 x3 x4).bind fun v1 => (uP pIs [v1, .non]).bind fun v2 => R.ok v2
noncomputable def W_is_safe : List D → R (D) := fun xs => match xs with
  | [x0, x1, x2, x3, x4] => U_is_safe x0 x1 x2 x3 x4
  | _ => .bad
theorem T_is_safe (f0 f1 f2 f3 f4 : Fg) : FU Φ_is_safe [f0, f1, f2, f3, f4] W_is_safe (fun b => b) .cold (fun (xs : List D) (b : D) => [.val (hd xs) f0, .val (hd (tl xs)) f1, .val (hd (tl (tl xs))) f2, .val (hd (tl (tl (tl xs)))) f3, .val (hd (tl (tl (tl (tl xs))))) f4]) :=
  fu_mk (N := 5) (prs := [true, true, true, true, true]) (m := M_is_safe) rfl fun xs hl => match xs, hl with
    | [x0, x1, x2, x3, x4], _ =>
      have h : SG XT ⟨protOf [true, true, true, true, true] 0, []⟩ [.val x0 f0, .val x1 f1, .val x2 f2, .val x3 f3, .val x4 f4] (QF [true, true, true, true, true] (fun b => b) .cold ((fun (xs : List D) (b : D) => [.val (hd xs) f0, .val (hd (tl xs)) f1, .val (hd (tl (tl xs))) f2, .val (hd (tl (tl (tl xs)))) f3, .val (hd (tl (tl (tl (tl xs))))) f4]) [x0, x1, x2, x3, x4])) M_is_safe _ :=
      (q_ret0 (p_bin n_is.k (p_oE (p_call (T_first_unsafe f0 f1 f2 f3 f4) (p_cons (p_oN rfl) (p_cons (p_oN rfl) (p_cons (p_oN rfl) (p_cons (p_oN rfl) (p_cons (p_oN rfl) p_nil))))) rfl rfl rfl (fun _ _ => (aft_keep (aft_same rfl) (aft_keep (aft_same rfl) (aft_keep (aft_same rfl) (aft_keep (aft_same rfl) (aft_keep (aft_same rfl) .nil)))))) hx_p)) (p_oE p_con) rfl) fle_rfl (fun _ _ => ⟨les_rfl, ⟨les_rfl, ⟨les_rfl, ⟨les_rfl, ⟨les_rfl, trivial⟩⟩⟩⟩⟩));
      h
noncomputable def U_most_wear (x0 x1 x2 x3 : D) : R (D) :=
  (uP pAddN [(.int 9), (.int 1)]).bind fun v1 => (uRng1 v1).bind fun v2 => (uComp (fun v3 => (U_is_safe x0 x1 x2 x3 v3).bind fun v5 => (uB v5).bind fun v6 => if v6 then R.ok (some v3) else R.ok none) v2).bind fun v4 => (uP pNe [v4, (.lst false [])]).bind fun v7 => (uB v7).bind fun v8 => (if v8 then (uP pNeg [(.int 1)]).bind fun v10 => (uP pIx [v4, v10]).bind fun v11 => R.ok v11 else R.ok .non).bind fun v9 => R.ok v9
noncomputable def W_most_wear : List D → R (D) := fun xs => match xs with
  | [x0, x1, x2, x3] => U_most_wear x0 x1 x2 x3
  | _ => .bad
theorem T_most_wear (f0 f1 f2 f3 : Fg) : FU Φ_most_wear [f0, f1, f2, f3] W_most_wear (fun b => b) .cold (fun (xs : List D) (b : D) => [.val (hd xs) f0, .val (hd (tl xs)) f1, .val (hd (tl (tl xs))) f2, .val (hd (tl (tl (tl xs)))) f3]) :=
  fu_mk (N := 6) (prs := [true, true, true, true]) (m := M_most_wear) rfl fun xs hl => match xs, hl with
    | [x0, x1, x2, x3], _ =>
      have h : SG XT ⟨protOf [true, true, true, true] 0, []⟩ [.val x0 f0, .val x1 f1, .val x2 f2, .val x3 f3, .cold, .cold] (QF [true, true, true, true] (fun b => b) .cold ((fun (xs : List D) (b : D) => [.val (hd xs) f0, .val (hd (tl xs)) f1, .val (hd (tl (tl xs))) f2, .val (hd (tl (tl (tl xs)))) f3]) [x0, x1, x2, x3])) M_most_wear _ :=
      (q_set (p_comp (n := 6) (p_rng1 (p_bin n_addN (p_oE p_con) (p_oE p_con) rfl)) (fun _ hx => (t_name (rdc hx) rfl rfl (u_if (p_mB (p_call (T_is_safe f0 f1 f2 f3 .cold) (p_cons (p_oN rfl) (p_cons (p_oN rfl) (p_cons (p_oN rfl) (p_cons (p_oN rfl) (p_cons (p_oN rfl) p_nil))))) rfl rfl rfl (fun _ _ => (aft_keep (aft_same rfl) (aft_keep (aft_same rfl) (aft_keep (aft_same rfl) (aft_keep (aft_same rfl) (.cold rfl .nil)))))) hx_p)) (p_var rfl) (le_cons les_rfl (le_cons les_rfl (le_cons les_rfl (le_cons les_rfl (le_cons les_rfl (le_cons les_any le_nil))))))))) rfl rfl) (fun _ _ _ r => (t_name r rfl rfl 
  (q_ret0 (p_if (p_mB (p_bin n_ne.k (p_oN rfl) (p_oE (p_lst p_vnil)) rfl)) (p_bin n_ix.k (p_oN rfl) (p_oE (p_unG gC_get n_neg.k (p_oE p_con) rfl)) rfl) p_con fle_rfl fle_rfl) fle_rfl (fun _ _ => ⟨les_rfl, ⟨les_rfl, ⟨les_rfl, ⟨les_rfl, trivial⟩⟩⟩⟩)))));
      h
noncomputable def U_law (x0 : D) : R (D) :=
  (U__law_bag x0).bind fun v1 => (uRng1 (.int 4)).bind fun v2 => (forU (fun v3 (v4 : D) => (U__law_take v4 (.int 2)).bind fun v6 => (uP pAddN [(.int 1), v6.1]).bind fun v7 => (U__law_take v6.2 (.int 4)).bind fun v8 => (U__law_take v8.2 (.int 4)).bind fun v9 => (U__law_take v9.2 (.int 4)).bind fun v10 => (uP pAddN [(.int 1), v10.1]).bind fun v11 => (uRng1 v11).bind fun v12 => (uCompS (fun v13 v15 => (uRng1 v7).bind fun v16 => (uCompS (fun v17 v19 => (U__law_take v19 (.int 10)).bind fun v20 => (uP pAddN [(.int 1), v20.1]).bind fun v21 => R.ok (some v21, v20.2)) v16 v15).bind fun v18 => (uP pTuple [v18.1]).bind fun v22 => R.ok (some v22, v18.2)) v12 v10.2).bind fun v14 => (uP pTuple [v14.1]).bind fun v23 => (U__law_take v14.2 (.int 4)).bind fun v24 => (uP pAddN [(.int 1), v24.1]).bind fun v25 => (uRng1 v25).bind fun v26 => (uCompS (fun v27 v29 => (U__law_lots_drawn v29 v7 v23).bind fun v30 => R.ok (some v30.1, v30.2)) v26 v24.2).bind fun v28 => (uP pTuple [v28.1]).bind fun v31 => (uIt eA [v23]).bind fun v32 => (forU (fun v33 (v34 : D × D × D) => uUnp2 v33 fun v36 v37 => (uIt eA [v31]).bind fun v38 => (forU (fun v39 (v40 : D × D × D) => uUnp2 v39 fun v42 v43 => (U__law_worn v37 v9.1).bind fun v44 => (uIt it1 [v44]).bind fun v45 => (uComp (fun v46 => (U__law_passes v43 v46 v8.1).bind fun v48 => R.ok (some v48)) v45).bind fun v47 => (U_surely_opens v43 v37 v8.1 v9.1).bind fun v49 => (U_perhaps_opens v43 v37 v8.1 v9.1).bind fun v50 => (uP pNotIn [(.bl false), v47]).bind fun v51 => (uP pIn [(.bl true), v47]).bind fun v52 => (U__law_alike (.lst false [v49, v50]) (.lst false [v51, v52])).bind fun v53 => (uB v53).bind fun v54 => if (!v54) then R.ok (.done (.done (.done (.bl false)))) else
  (U__law_worn v37 v9.1).bind fun v55 => (uIt it1 [v55]).bind fun v56 => (uComp (fun v57 => (U__law_passes v43 v57 v8.1).bind fun v59 => (uB v59).bind fun v60 => if (!v60) then R.ok (some v57) else R.ok none) v56).bind fun v58 => (U_worn_row v43 v37 v8.1 v9.1).bind fun v61 => (uP pNe [v58, (.lst false [])]).bind fun v62 => (uB v62).bind fun v63 => (if v63 then (uP pIx [v58, (.int 0)]).bind fun v65 => R.ok v65 else R.ok .non).bind fun v64 => (U__law_alike v61 v64).bind fun v66 => (uB v66).bind fun v67 => if (!v67) then R.ok (.done (.done (.done (.bl false)))) else
  (uIt zA2 [v37, v43]).bind fun v68 => (uComp (fun v69 => uUnp2 v69 fun v71 v72 => (uIt it1 [v72]).bind fun v73 => (uComp (fun v74 => (uP pSub [v71, v8.1]).bind fun v76 => (uI v76).bind fun v77 => (uI v74).bind fun v78 => (if iLe v77 v78 then (uP pAddN [v71, v9.1]).bind fun v80 => (uP pAddN [v80, v8.1]).bind fun v81 => (uI v81).bind fun v82 => R.ok (.bl (iLe v78 v82)) else R.ok (.bl false)).bind fun v79 => (uB v79).bind fun v83 => if v83 then R.ok (some v74) else R.ok none) v73).bind fun v75 => (uP pEq [v75, (.lst false [])]).bind fun v84 => (uB v84).bind fun v85 => if v85 then R.ok (some (.int 1)) else R.ok none) v68).bind fun v70 => (uP pNe [v70, (.lst false [])]).bind fun v86 => (uP pIn [(.bl true), v47]).bind fun v87 => (uP pEq [v86, v87]).bind fun v88 => (uB v88).bind fun v89 => if v89 then R.ok (.done (.done (.done (.bl false)))) else
  (uP pNotIn [(.bl false), v47]).bind fun v90 => (uP pInt [v90]).bind fun v91 => (uP pRep [(.lst false [(.tup [v36, v42])]), v91]).bind fun v92 => (uP pAddL [v40.2.1, v92]).bind fun v93 => (U__law_take v40.1 (.int 2)).bind fun v94 => (uP pRep [(.lst false [(.tup [v36, v42])]), v94.1]).bind fun v95 => (uP pAddL [v40.2.2, v95]).bind fun v96 => R.ok (.next (v94.2, v93, v96))) v38 (v34.1, v34.2.1, v34.2.2)).bind fun v97 => jn v97 fun v41 =>
  R.ok (.next (v41.1, v41.2.1, v41.2.2))) v32 (v28.2, (.lst false []), (.lst false []))).bind fun v98 => jn v98 fun v35 =>
  (uP pTuple [v35.2.1]).bind fun v99 => (uP pTuple [v35.2.2]).bind fun v100 => (uIt it1 [(.tup [v99, v100])]).bind fun v101 => (forU (fun v102 (v103 : Unit) => (U__law_fault v23 v31 v102 v8.1 v9.1).bind fun v105 => (U_first_unsafe v23 v31 v102 v8.1 v9.1).bind fun v106 => (U_is_safe v23 v31 v102 v8.1 v9.1).bind fun v107 => (uP pIs [v105, .non]).bind fun v108 => (U__law_alike (.lst false [v106, v107]) (.lst false [v105, v108])).bind fun v109 => (uB v109).bind fun v110 => if (!v110) then R.ok (.done (.done (.bl false))) else
  (uRng1 (.int 10)).bind fun v111 => (uComp (fun v112 => (uP pLt [v112, (.int 4)]).bind fun v114 => (uB v114).bind fun v115 => (if v115 then (U__law_fault v23 v31 v102 v8.1 v112).bind fun v117 => (uP pIs [v117, .non]).bind fun v118 => (uB v118).bind fun v119 => R.ok v119 else R.ok false).bind fun v116 => if v116 then R.ok (some v112) else R.ok none) v111).bind fun v113 => (U_most_wear v23 v31 v102 v8.1).bind fun v120 => (uP pEq [v113, (.lst false [])]).bind fun v121 => (uB v121).bind fun v122 => (if v122 then (uP pIsNot [v120, .non]).bind fun v124 => (uB v124).bind fun v125 => R.ok v125 else R.ok false).bind fun v123 => (if v123 then R.ok true else (uP pNe [v113, (.lst false [])]).bind fun v127 => (uB v127).bind fun v128 => (if v128 then (uP pIs [v120, .non]).bind fun v130 => (uB v130).bind fun v131 => (if v131 then R.ok true else (uP pNeg [(.int 1)]).bind fun v133 => (uP pIx [v113, v133]).bind fun v134 => (uP pLt [v120, v134]).bind fun v135 => (uB v135).bind fun v136 => (if v136 then R.ok true else (uP pNeg [(.int 1)]).bind fun v138 => (uP pIx [v113, v138]).bind fun v139 => (uP pLt [v139, (.int 3)]).bind fun v140 => (uB v140).bind fun v141 => (if v141 then (uP pNeg [(.int 1)]).bind fun v143 => (uP pIx [v113, v143]).bind fun v144 => (uP pNe [v120, v144]).bind fun v145 => (uB v145).bind fun v146 => R.ok v146 else R.ok false).bind fun v142 => R.ok v142).bind fun v137 => R.ok v137).bind fun v132 => R.ok v132 else R.ok false).bind fun v129 => R.ok v129).bind fun v126 => if v126 then R.ok (.done (.done (.bl false))) else R.ok (.next ())) v101 ()).bind fun v147 => jn v147 fun v104 =>
  R.ok (.next v35.1)) v2 v1).bind fun v148 => jn v148 fun v5 =>
  R.ok (.bl true)
noncomputable def W_law : List D → R (D) := fun xs => match xs with
  | [x0] => U_law x0
  | _ => .bad
end U
end Y

end
section
set_option Elab.async false
set_option linter.all false
set_option maxRecDepth 100000
set_option maxHeartbeats 4000000
namespace Y
namespace U
open PySem L2
theorem T_law (f0 : Fg) : FU Φ_law [f0] W_law (fun b => b) .cold (fun (xs : List D) (b : D) => [.val (hd xs) f0]) :=
  fu_mk (N := 27) (prs := [true]) (m := M_law) rfl fun xs hl => match xs, hl with
    | [x0], _ =>
      have h : SG XT ⟨protOf [true] 0, []⟩ [.val x0 f0, .cold, .cold, .cold, .cold, .cold, .cold, .cold, .cold, .cold, .cold, .cold, .cold, .cold, .cold, .cold, .cold, .cold, .cold, .cold, .cold, .cold, .cold, .cold, .cold, .cold, .cold] (QF [true] (fun b => b) .cold ((fun (xs : List D) (b : D) => [.val (hd xs) f0]) [x0])) M_law _ :=
      (q_set (p_call (T__law_bag f0) (p_cons (p_oN rfl) p_nil) rfl rfl rfl (fun _ _ => (aft_keep (aft_same rfl) .nil)) hx_p) (fun _ _ _ r => (t_name r rfl rfl 
  (q_forX (fun (t : (D)) γ => (gset (gset (gset (gset (gset (gset (gset (gset (gset (gset (gset (gset (gset (gset (gset (gset (gset (gset (gset γ 1 (.val t .own)) 2 (.cold)) 3 (.cold)) 4 (.cold)) 5 (.cold)) 6 (.cold)) 7 (.cold)) 8 (.any)) 9 (.any)) 10 (.cold)) 11 (.cold)) 12 (.cold)) 13 (.cold)) 14 (.any)) 15 (.any)) 16 (.any)) 17 (.cold)) 18 (.cold)) 19 (.any))) (fun γ => ((gat γ 1).v : (D))) (p_rng1 p_con) (le_cons les_rfl (le_cons les_rfl (le_cons les_rfl (le_cons les_rfl (le_cons les_rfl (le_cons les_rfl (le_cons les_rfl (le_cons les_rfl (le_cons les_any (le_cons les_any (le_cons les_rfl (le_cons les_rfl (le_cons les_rfl (le_cons les_rfl (le_cons les_any (le_cons les_any (le_cons les_any (le_cons les_rfl (le_cons les_rfl (le_cons les_any (le_cons les_rfl (le_cons les_rfl (le_cons les_rfl (le_cons les_rfl (le_cons les_rfl (le_cons les_rfl (le_cons les_rfl le_nil))))))))))))))))))))))))))) (fun _ _ hx => (t_name (rdc hx) rfl rfl 
  (q_parG3 (nm (fun (t : (D)) γ => (gset γ 1 (.val t .own))) (fun γ => ((gat γ 1).v : (D))) (vl_cons (cv_bin (fun _ _ => n_addN) (p_oE p_con) (fun _ => (cv_oE (cv_call (T__law_take .cold) (p_cons (p_oN rfl) (p_cons (p_oE p_con) p_nil)) rfl (fun _ => rfl) (fun _ => rfl) (fun _ _ _ => (.slot (aft_own rfl) (.val .nil))) hx_t))) (fun _ _ => rfl)) (fun _ => (vl_cons (cv_call (T__law_take .cold) (p_cons (p_oN rfl) (p_cons (p_oE p_con) p_nil)) rfl (fun _ => rfl) (fun _ => rfl) (fun _ _ _ => (.slot (aft_own rfl) (.val .nil))) hx_t) (fun _ => (vl_cons (cv_call (T__law_take .cold) (p_cons (p_oN rfl) (p_cons (p_oE p_con) p_nil)) rfl (fun _ => rfl) (fun _ => rfl) (fun _ _ _ => (.slot (aft_own rfl) (.val .nil))) hx_t) (fun _ => vl_nil)))))) (fun _ => (le_cons les_rfl (le_cons les_rfl (le_cons les_rfl (le_cons les_rfl (le_cons les_rfl (le_cons les_rfl (le_cons les_rfl (le_cons les_rfl (le_cons les_any (le_cons les_any (le_cons les_rfl (le_cons les_rfl (le_cons les_rfl (le_cons les_rfl (le_cons les_any (le_cons les_any (le_cons les_any (le_cons les_rfl (le_cons les_rfl (le_cons les_any (le_cons les_rfl (le_cons les_rfl (le_cons les_rfl (le_cons les_rfl (le_cons les_rfl (le_cons les_rfl (le_cons les_rfl le_nil))))))))))))))))))))))))))))) (fun _ _ _ _ _ _ _ r70_0 r70_1 r70_2 => (t_cons (t_name r70_0 rfl rfl (t_cons (t_name r70_1 rfl rfl (t_cons (t_name r70_2 rfl rfl (t_nil (q_set (nm (fun (t : (D)) γ => (gset γ 1 (.val t .own))) (fun γ => ((gat γ 1).v : (D))) (cv_prim (fun _ => n_tuple) (ol_cons (cv_oE (z_comp (n := 27) (fun (t : (D)) γ => (gset γ 1 (.val t .own))) (fun γ => ((gat γ 1).v : (D))) (nm (fun (t : (D)) γ => (gset γ 1 (.val t .own))) (fun γ => ((gat γ 1).v : (D))) (cv_rng1 (cv_bin (fun _ _ => n_addN) (p_oE p_con) (fun _ => (cv_oE (cv_call (T__law_take .cold) (p_cons (p_oN rfl) (p_cons (p_oE p_con) p_nil)) rfl (fun _ => rfl) (fun _ => rfl) (fun _ _ _ => (.slot (aft_own rfl) (.val .nil))) hx_t))) (fun _ _ => rfl))) (fun _ => (le_cons les_rfl (le_cons les_rfl (le_cons les_rfl (le_cons les_rfl (le_cons les_rfl (le_cons les_rfl (le_cons les_rfl (le_cons les_rfl (le_cons les_any (le_cons les_any (le_cons les_rfl (le_cons les_rfl (le_cons les_rfl (le_cons les_rfl (le_cons les_any (le_cons les_any (le_cons les_any (le_cons les_rfl (le_cons les_rfl (le_cons les_any (le_cons les_rfl (le_cons les_rfl (le_cons les_rfl (le_cons les_rfl (le_cons les_rfl (le_cons les_rfl (le_cons les_rfl le_nil))))))))))))))))))))))))))))) (fun _ _ _ hx => (t_name (rdc hx) rfl rfl (s_all (fun γ => ((gat γ 1).v : (D))) (cv_prim (fun _ => n_tuple) (ol_cons (cv_oE (y_comp (n := 27) (fun (t : (D)) γ => (gset γ 1 (.val t .own))) (fun γ => ((gat γ 1).v : (D))) (p_rng1 (p_var rfl)) (fun _ _ hx => (t_name (rdc hx) rfl rfl (s_all (fun γ => ((gat γ 1).v : (D))) (cv_bin (fun _ _ => n_addN) (p_oE p_con) (fun _ => (cv_oE (cv_call (T__law_take .cold) (p_cons (p_oN rfl) (p_cons (p_oE p_con) p_nil)) rfl (fun _ => rfl) (fun _ => rfl) (fun _ _ _ => (.slot (aft_own rfl) (.val .nil))) hx_t))) (fun _ _ => rfl)) (fun _ => (le_cons les_rfl (le_cons les_rfl (le_cons les_rfl (le_cons les_rfl (le_cons les_rfl (le_cons les_rfl (le_cons les_rfl (le_cons les_rfl (le_cons les_any (le_cons les_any (le_cons les_rfl (le_cons les_rfl (le_cons les_rfl (le_cons les_rfl (le_cons les_any (le_cons les_any (le_cons les_any (le_cons les_rfl (le_cons les_rfl (le_cons les_any (le_cons les_rfl (le_cons les_any (le_cons les_rfl (le_cons les_rfl (le_cons les_rfl (le_cons les_rfl (le_cons les_rfl le_nil))))))))))))))))))))))))))))))) rfl rfl (le_cons les_rfl (le_cons les_rfl (le_cons les_rfl (le_cons les_rfl (le_cons les_rfl (le_cons les_rfl (le_cons les_rfl (le_cons les_rfl (le_cons les_any (le_cons les_any (le_cons les_rfl (le_cons les_rfl (le_cons les_rfl (le_cons les_rfl (le_cons les_any (le_cons les_any (le_cons les_any (le_cons les_rfl (le_cons les_rfl (le_cons les_any (le_cons les_rfl (le_cons les_rfl (le_cons les_rfl (le_cons les_rfl (le_cons les_rfl (le_cons les_rfl (le_cons les_rfl le_nil))))))))))))))))))))))))))) (fun _ => ⟨rfl, trivial⟩))) (fun _ => ol_nil)) (fun _ => rfl)) (fun _ => (le_cons les_rfl (le_cons les_rfl (le_cons les_rfl (le_cons les_rfl (le_cons les_rfl (le_cons les_rfl (le_cons les_rfl (le_cons les_rfl (le_cons les_any (le_cons les_any (le_cons les_rfl (le_cons les_rfl (le_cons les_rfl (le_cons les_rfl (le_cons les_any (le_cons les_any (le_cons les_any (le_cons les_rfl (le_cons les_rfl (le_cons les_any (le_cons les_any (le_cons les_rfl (le_cons les_rfl (le_cons les_rfl (le_cons les_rfl (le_cons les_rfl (le_cons les_rfl le_nil))))))))))))))))))))))))))))))) (fun _ => rfl) (fun _ => rfl) (fun _ => (le_cons les_rfl (le_cons les_rfl (le_cons les_rfl (le_cons les_rfl (le_cons les_rfl (le_cons les_rfl (le_cons les_rfl (le_cons les_rfl (le_cons les_any (le_cons les_any (le_cons les_rfl (le_cons les_rfl (le_cons les_rfl (le_cons les_rfl (le_cons les_any (le_cons les_any (le_cons les_any (le_cons les_rfl (le_cons les_rfl (le_cons les_any (le_cons les_rfl (le_cons les_rfl (le_cons les_rfl (le_cons les_rfl (le_cons les_rfl (le_cons les_rfl (le_cons les_rfl le_nil)))))))))))))))))))))))))))) (fun _ _ => ⟨rfl, trivial⟩))) (fun _ => ol_nil)) (fun _ => rfl)) (fun _ => (le_cons les_rfl (le_cons les_rfl (le_cons les_rfl (le_cons les_rfl (le_cons les_rfl (le_cons les_rfl (le_cons les_rfl (le_cons les_rfl (le_cons les_any (le_cons les_any (le_cons les_rfl (le_cons les_rfl (le_cons les_rfl (le_cons les_rfl (le_cons les_any (le_cons les_any (le_cons les_any (le_cons les_rfl (le_cons les_rfl (le_cons les_any (le_cons les_rfl (le_cons les_rfl (le_cons les_rfl (le_cons les_rfl (le_cons les_rfl (le_cons les_rfl (le_cons les_rfl le_nil))))))))))))))))))))))))))))) (fun _ _ _ r => (t_name r rfl rfl 
  (q_set (nm (fun (t : (D)) γ => (gset γ 1 (.val t .own))) (fun γ => ((gat γ 1).v : (D))) (cv_prim (fun _ => n_tuple) (ol_cons (cv_oE (z_comp (n := 27) (fun (t : (D)) γ => (gset γ 1 (.val t .own))) (fun γ => ((gat γ 1).v : (D))) (nm (fun (t : (D)) γ => (gset γ 1 (.val t .own))) (fun γ => ((gat γ 1).v : (D))) (cv_rng1 (cv_bin (fun _ _ => n_addN) (p_oE p_con) (fun _ => (cv_oE (cv_call (T__law_take .cold) (p_cons (p_oN rfl) (p_cons (p_oE p_con) p_nil)) rfl (fun _ => rfl) (fun _ => rfl) (fun _ _ _ => (.slot (aft_own rfl) (.val .nil))) hx_t))) (fun _ _ => rfl))) (fun _ => (le_cons les_rfl (le_cons les_rfl (le_cons les_rfl (le_cons les_rfl (le_cons les_rfl (le_cons les_rfl (le_cons les_rfl (le_cons les_rfl (le_cons les_any (le_cons les_any (le_cons les_rfl (le_cons les_rfl (le_cons les_rfl (le_cons les_rfl (le_cons les_any (le_cons les_any (le_cons les_any (le_cons les_rfl (le_cons les_rfl (le_cons les_any (le_cons les_rfl (le_cons les_rfl (le_cons les_rfl (le_cons les_rfl (le_cons les_rfl (le_cons les_rfl (le_cons les_rfl le_nil))))))))))))))))))))))))))))) (fun _ _ _ hx => (t_name (rdc hx) rfl rfl (s_all (fun γ => ((gat γ 1).v : (D))) (cv_call (T__law_lots_drawn .cold .cold) (p_cons (p_oN rfl) (p_cons (p_oN rfl) (p_cons (p_oN rfl) p_nil))) rfl (fun _ => rfl) (fun _ => rfl) (fun _ _ _ => (.slot (aft_own rfl) (.cold rfl (.cold rfl .nil)))) hx_t) (fun _ => (le_cons les_rfl (le_cons les_rfl (le_cons les_rfl (le_cons les_rfl (le_cons les_rfl (le_cons les_rfl (le_cons les_rfl (le_cons les_rfl (le_cons les_any (le_cons les_any (le_cons les_rfl (le_cons les_rfl (le_cons les_rfl (le_cons les_rfl (le_cons les_any (le_cons les_any (le_cons les_any (le_cons les_rfl (le_cons les_rfl (le_cons les_any (le_cons les_any (le_cons les_rfl (le_cons les_rfl (le_cons les_rfl (le_cons les_rfl (le_cons les_rfl (le_cons les_rfl le_nil))))))))))))))))))))))))))))))) (fun _ => rfl) (fun _ => rfl) (fun _ => (le_cons les_rfl (le_cons les_rfl (le_cons les_rfl (le_cons les_rfl (le_cons les_rfl (le_cons les_rfl (le_cons les_rfl (le_cons les_rfl (le_cons les_any (le_cons les_any (le_cons les_rfl (le_cons les_rfl (le_cons les_rfl (le_cons les_rfl (le_cons les_any (le_cons les_any (le_cons les_any (le_cons les_rfl (le_cons les_rfl (le_cons les_any (le_cons les_rfl (le_cons les_rfl (le_cons les_rfl (le_cons les_rfl (le_cons les_rfl (le_cons les_rfl (le_cons les_rfl le_nil)))))))))))))))))))))))))))) (fun _ _ => ⟨rfl, trivial⟩))) (fun _ => ol_nil)) (fun _ => rfl)) (fun _ => (le_cons les_rfl (le_cons les_rfl (le_cons les_rfl (le_cons les_rfl (le_cons les_rfl (le_cons les_rfl (le_cons les_rfl (le_cons les_rfl (le_cons les_any (le_cons les_any (le_cons les_rfl (le_cons les_rfl (le_cons les_rfl (le_cons les_rfl (le_cons les_any (le_cons les_any (le_cons les_any (le_cons les_rfl (le_cons les_rfl (le_cons les_any (le_cons les_rfl (le_cons les_rfl (le_cons les_rfl (le_cons les_rfl (le_cons les_rfl (le_cons les_rfl (le_cons les_rfl le_nil))))))))))))))))))))))))))))) (fun _ _ _ r => (t_name r rfl rfl 
  (q_par (p_vcons (p_lst p_vnil) (p_vcons (p_lst p_vnil) p_vnil)) rfl (fun _ => rfl) (fun _ _ _ =>
  (q_forX (fun (t : (D × D × D)) γ => (gset (gset (gset (gset (gset (gset (gset (gset (gset (gset γ 1 (.val t.1 .own)) 8 (.val t.2.1 .own)) 9 (.val t.2.2 .own)) 10 (.cold)) 11 (.cold)) 12 (.cold)) 13 (.cold)) 14 (.any)) 15 (.any)) 16 (.any))) (fun γ => (((gat γ 1).v, (gat γ 8).v, (gat γ 9).v) : (D × D × D))) (p_walk w_enum (p_cons (p_oN rfl) p_nil) rfl) (le_cons les_rfl (le_cons les_rfl (le_cons les_rfl (le_cons les_rfl (le_cons les_rfl (le_cons les_rfl (le_cons les_rfl (le_cons les_rfl (le_cons les_rfl (le_cons les_rfl (le_cons les_rfl (le_cons les_rfl (le_cons les_rfl (le_cons les_rfl (le_cons les_any (le_cons les_any (le_cons les_any (le_cons les_rfl (le_cons les_rfl (le_cons les_any (le_cons les_rfl (le_cons les_rfl (le_cons les_rfl (le_cons les_rfl (le_cons les_rfl (le_cons les_rfl (le_cons les_rfl le_nil))))))))))))))))))))))))))) (fun _ _ hx => (t_tup2 (rdc hx) (fun _ _ h76_0 h76_1 => (t_cons (t_name h76_0 rfl rfl (t_cons (t_name h76_1 rfl rfl (t_nil 
  (q_last (q_forX (fun (t : (D × D × D)) γ => (gset (gset (gset (gset (gset (gset (gset (gset γ 1 (.val t.1 .own)) 8 (.val t.2.1 .own)) 9 (.val t.2.2 .own)) 12 (.cold)) 13 (.cold)) 14 (.any)) 15 (.any)) 16 (.any))) (fun γ => (((gat γ 1).v, (gat γ 8).v, (gat γ 9).v) : (D × D × D))) (p_walk w_enum (p_cons (p_oN rfl) p_nil) rfl) (le_cons les_rfl (le_cons les_rfl (le_cons les_rfl (le_cons les_rfl (le_cons les_rfl (le_cons les_rfl (le_cons les_rfl (le_cons les_rfl (le_cons les_rfl (le_cons les_rfl (le_cons les_rfl (le_cons les_rfl (le_cons les_rfl (le_cons les_rfl (le_cons les_any (le_cons les_any (le_cons les_any (le_cons les_rfl (le_cons les_rfl (le_cons les_any (le_cons les_rfl (le_cons les_rfl (le_cons les_rfl (le_cons les_rfl (le_cons les_rfl (le_cons les_rfl (le_cons les_rfl le_nil))))))))))))))))))))))))))) (fun _ _ hx => (t_tup2 (rdc hx) (fun _ _ h79_0 h79_1 => (t_cons (t_name h79_0 rfl rfl (t_cons (t_name h79_1 rfl rfl (t_nil 
  (q_set (p_comp (n := 27) (p_src (p_oE (p_call (T__law_worn .cold .cold) (p_cons (p_oN rfl) (p_cons (p_oN rfl) p_nil)) rfl rfl rfl (fun _ _ => (.cold rfl (.cold rfl .nil))) hx_p)) rfl) (fun _ hx => (t_name (rdc hx) rfl rfl (u_all (p_call (T__law_passes .cold .cold .cold) (p_cons (p_oN rfl) (p_cons (p_oN rfl) (p_cons (p_oN rfl) p_nil))) rfl rfl rfl (fun _ _ => (.cold rfl (.cold rfl (.cold rfl .nil)))) hx_p) (le_cons les_rfl (le_cons les_rfl (le_cons les_rfl (le_cons les_rfl (le_cons les_rfl (le_cons les_rfl (le_cons les_rfl (le_cons les_rfl (le_cons les_rfl (le_cons les_rfl (le_cons les_rfl (le_cons les_rfl (le_cons les_rfl (le_cons les_rfl (le_cons les_any (le_cons les_any (le_cons les_any (le_cons les_rfl (le_cons les_rfl (le_cons les_any (le_cons les_rfl (le_cons les_rfl (le_cons les_any (le_cons les_rfl (le_cons les_rfl (le_cons les_rfl (le_cons les_rfl le_nil)))))))))))))))))))))))))))))) rfl rfl) (fun _ _ _ r => (t_name r rfl rfl 
  (q_ifX (p_not (p_mB (p_call (T__law_alike .own .own) (p_cons (p_oE (p_lst (p_vcons (p_call (T_surely_opens .cold .cold .cold .cold) (p_cons (p_oN rfl) (p_cons (p_oN rfl) (p_cons (p_oN rfl) (p_cons (p_oN rfl) p_nil)))) rfl rfl rfl (fun _ _ => (.cold rfl (.cold rfl (.cold rfl (.cold rfl .nil))))) hx_p) (p_vcons (p_call (T_perhaps_opens .cold .cold .cold .cold) (p_cons (p_oN rfl) (p_cons (p_oN rfl) (p_cons (p_oN rfl) (p_cons (p_oN rfl) p_nil)))) rfl rfl rfl (fun _ _ => (.cold rfl (.cold rfl (.cold rfl (.cold rfl .nil))))) hx_p) p_vnil)))) (p_cons (p_oE (p_lst (p_vcons (p_bin n_notIn.k (p_oE p_con) (p_oN rfl) rfl) (p_vcons (p_bin n_in.k (p_oE p_con) (p_oN rfl) rfl) p_vnil)))) p_nil)) rfl rfl rfl (fun _ _ => (.val (.val .nil))) hx_p))) (fun _ => (q_retS (q_done (q_done (q_done (q_ret0 p_con fle_rfl (fun _ _ => ⟨les_rfl, trivial⟩))))))) (fun _ =>
  (q_skip (q_set (p_comp (n := 27) (p_src (p_oE (p_call (T__law_worn .cold .cold) (p_cons (p_oN rfl) (p_cons (p_oN rfl) p_nil)) rfl rfl rfl (fun _ _ => (.cold rfl (.cold rfl .nil))) hx_p)) rfl) (fun _ hx => (t_name (rdc hx) rfl rfl (u_if (p_not (p_mB (p_call (T__law_passes .cold .cold .cold) (p_cons (p_oN rfl) (p_cons (p_oN rfl) (p_cons (p_oN rfl) p_nil))) rfl rfl rfl (fun _ _ => (.cold rfl (.cold rfl (.cold rfl .nil)))) hx_p))) (p_var rfl) (le_cons les_rfl (le_cons les_rfl (le_cons les_rfl (le_cons les_rfl (le_cons les_rfl (le_cons les_rfl (le_cons les_rfl (le_cons les_rfl (le_cons les_rfl (le_cons les_rfl (le_cons les_rfl (le_cons les_rfl (le_cons les_rfl (le_cons les_rfl (le_cons les_rfl (le_cons les_any (le_cons les_any (le_cons les_rfl (le_cons les_rfl (le_cons les_any (le_cons les_rfl (le_cons les_rfl (le_cons les_any (le_cons les_rfl (le_cons les_rfl (le_cons les_rfl (le_cons les_rfl le_nil)))))))))))))))))))))))))))))) rfl rfl) (fun _ _ _ r => (t_name r rfl rfl 
  (q_ifX (p_not (p_mB (p_call (T__law_alike .cold .cold) (p_cons (p_oE (p_call (T_worn_row .cold .cold .cold .cold) (p_cons (p_oN rfl) (p_cons (p_oN rfl) (p_cons (p_oN rfl) (p_cons (p_oN rfl) p_nil)))) rfl rfl rfl (fun _ _ => (.cold rfl (.cold rfl (.cold rfl (.cold rfl .nil))))) hx_p)) (p_cons (p_oE (p_if (p_mB (p_bin n_ne.k (p_oN rfl) (p_oE (p_lst p_vnil)) rfl)) (p_bin n_ix.k (p_oN rfl) (p_oE p_con) rfl) p_con fle_rfl fle_rfl)) p_nil)) rfl rfl rfl (fun _ _ => (.val (.val .nil))) hx_p))) (fun _ => (q_retS (q_done (q_done (q_done (q_ret0 p_con fle_rfl (fun _ _ => ⟨les_rfl, trivial⟩))))))) (fun _ =>
  (q_skip (q_set (p_comp (n := 27) (p_walk w_zip2 (p_cons (p_oN rfl) (p_cons (p_oN rfl) p_nil)) rfl) (fun _ hx => (t_tup2 (rdc hx) (fun _ _ h80_0 h80_1 => (t_cons (t_name h80_0 rfl rfl (t_cons (t_name h80_1 rfl rfl (t_nil (u_if (p_mB (p_bin n_eq.k (p_oE (p_comp (n := 27) (p_src (p_oN rfl) rfl) (fun _ hx => (t_name (rdc hx) rfl rfl (u_if (p_mB (p_chain (p_bin n_sub.k (p_oN rfl) (p_oN rfl) rfl) (p_var rfl) (p_bin n_addN (p_oE (p_bin n_addN (p_oN rfl) (p_oN rfl) rfl)) (p_oN rfl) rfl))) (p_var rfl) (le_cons les_rfl (le_cons les_rfl (le_cons les_rfl (le_cons les_rfl (le_cons les_rfl (le_cons les_rfl (le_cons les_rfl (le_cons les_rfl (le_cons les_rfl (le_cons les_rfl (le_cons les_rfl (le_cons les_rfl (le_cons les_rfl (le_cons les_rfl (le_cons les_rfl (le_cons les_rfl (le_cons les_any (le_cons les_rfl (le_cons les_rfl (le_cons les_any (le_cons les_rfl (le_cons les_rfl (le_cons les_rfl (le_cons les_rfl (le_cons les_rfl (le_cons les_any (le_cons les_rfl le_nil)))))))))))))))))))))))))))))) rfl rfl)) (p_oE (p_lst p_vnil)) rfl)) p_con (le_cons les_rfl (le_cons les_rfl (le_cons les_rfl (le_cons les_rfl (le_cons les_rfl (le_cons les_rfl (le_cons les_rfl (le_cons les_rfl (le_cons les_rfl (le_cons les_rfl (le_cons les_rfl (le_cons les_rfl (le_cons les_rfl (le_cons les_rfl (le_cons les_rfl (le_cons les_rfl (le_cons les_any (le_cons les_rfl (le_cons les_rfl (le_cons les_any (le_cons les_rfl (le_cons les_rfl (le_cons les_rfl (le_cons les_any (le_cons les_any (le_cons les_rfl (le_cons les_rfl le_nil)))))))))))))))))))))))))))))))))))) rfl rfl) (fun _ _ _ r => (t_name r rfl rfl 
  (q_ifX (p_mB (p_bin n_eq.k (p_oE (p_bin n_ne.k (p_oN rfl) (p_oE (p_lst p_vnil)) rfl)) (p_oE (p_bin n_in.k (p_oE p_con) (p_oN rfl) rfl)) rfl)) (fun _ => (q_retS (q_done (q_done (q_done (q_ret0 p_con fle_rfl (fun _ _ => ⟨les_rfl, trivial⟩))))))) (fun _ =>
  (q_skip (q_set (p_bin n_addL (p_oN rfl) (p_oE (p_bin n_rep (p_oE (p_lst (p_vcons (p_tup (p_vcons (p_var rfl) (p_vcons (p_var rfl) p_vnil))) p_vnil))) (p_oE (p_prim n_int.k (p_cons (p_oE (p_bin n_notIn.k (p_oE p_con) (p_oN rfl) rfl)) p_nil) rfl)) rfl)) rfl) (fun _ _ _ r => (t_name r rfl rfl 
  (q_last (q_set (nm (fun (t : (D)) γ => (gset γ 1 (.val t .own))) (fun γ => ((gat γ 1).v : (D))) (cv_bin (fun _ _ => n_addL) (p_oN rfl) (fun _ => (cv_oE (cv_bin (fun _ _ => n_rep) (p_oE (p_lst (p_vcons (p_tup (p_vcons (p_var rfl) (p_vcons (p_var rfl) p_vnil))) p_vnil))) (fun _ => (cv_oE (cv_call (T__law_take .cold) (p_cons (p_oN rfl) (p_cons (p_oE p_con) p_nil)) rfl (fun _ => rfl) (fun _ => rfl) (fun _ _ _ => (.slot (aft_own rfl) (.val .nil))) hx_t))) (fun _ _ => rfl)))) (fun _ _ => rfl)) (fun _ => (le_cons les_rfl (le_cons les_rfl (le_cons les_rfl (le_cons les_rfl (le_cons les_rfl (le_cons les_rfl (le_cons les_rfl (le_cons les_rfl (le_cons les_rfl (le_cons les_rfl (le_cons les_rfl (le_cons les_rfl (le_cons les_rfl (le_cons les_rfl (le_cons les_rfl (le_cons les_rfl (le_cons les_rfl (le_cons les_rfl (le_cons les_rfl (le_cons les_any (le_cons les_rfl (le_cons les_rfl (le_cons les_rfl (le_cons les_rfl (le_cons les_rfl (le_cons les_rfl (le_cons les_rfl le_nil))))))))))))))))))))))))))))) (fun _ _ _ r => (t_name r rfl rfl 
  (q_endL (fun γ => (((gat γ 1).v, (gat γ 8).v, (gat γ 9).v) : (D × D × D))) (le_cons les_rfl (le_cons les_rfl (le_cons les_rfl (le_cons les_rfl (le_cons les_rfl (le_cons les_rfl (le_cons les_rfl (le_cons les_rfl (le_cons les_rfl (le_cons les_rfl (le_cons les_rfl (le_cons les_rfl (le_cons les_cold (le_cons les_cold (le_cons les_any (le_cons les_any (le_cons les_any (le_cons les_rfl (le_cons les_rfl (le_cons les_any (le_cons les_rfl (le_cons les_rfl (le_cons les_rfl (le_cons les_rfl (le_cons les_rfl (le_cons les_rfl (le_cons les_rfl le_nil))))))))))))))))))))))))))))))))))))))))))))))))))))))))))))) (fun _ =>
  (q_endL (fun γ => (((gat γ 1).v, (gat γ 8).v, (gat γ 9).v) : (D × D × D))) (le_cons les_rfl (le_cons les_rfl (le_cons les_rfl (le_cons les_rfl (le_cons les_rfl (le_cons les_rfl (le_cons les_rfl (le_cons les_rfl (le_cons les_rfl (le_cons les_rfl (le_cons les_cold (le_cons les_cold (le_cons les_rfl (le_cons les_rfl (le_cons les_any (le_cons les_any (le_cons les_any (le_cons les_rfl (le_cons les_rfl (le_cons les_any (le_cons les_rfl (le_cons les_rfl (le_cons les_rfl (le_cons les_rfl (le_cons les_rfl (le_cons les_rfl (le_cons les_rfl le_nil))))))))))))))))))))))))))))))))))))))) (fun _ =>
  (q_last (q_forX (fun (t : (Unit)) γ => (gset (gset (gset (gset γ 14 (.any)) 17 (.cold)) 18 (.cold)) 19 (.any))) (fun γ => (() : (Unit))) (p_src (p_oE (p_tup (p_vcons (p_prim n_tuple (p_cons (p_oN rfl) p_nil) rfl) (p_vcons (p_prim n_tuple (p_cons (p_oN rfl) p_nil) rfl) p_vnil)))) rfl) (le_cons les_rfl (le_cons les_rfl (le_cons les_rfl (le_cons les_rfl (le_cons les_rfl (le_cons les_rfl (le_cons les_rfl (le_cons les_rfl (le_cons les_rfl (le_cons les_rfl (le_cons les_rfl (le_cons les_rfl (le_cons les_rfl (le_cons les_rfl (le_cons les_any (le_cons les_any (le_cons les_any (le_cons les_rfl (le_cons les_rfl (le_cons les_any (le_cons les_rfl (le_cons les_rfl (le_cons les_rfl (le_cons les_rfl (le_cons les_rfl (le_cons les_rfl (le_cons les_rfl le_nil))))))))))))))))))))))))))) (fun _ _ hx => (t_name (rdc hx) rfl rfl 
  (q_set (p_call (T__law_fault .cold .cold .cold .cold .cold) (p_cons (p_oN rfl) (p_cons (p_oN rfl) (p_cons (p_oN rfl) (p_cons (p_oN rfl) (p_cons (p_oN rfl) p_nil))))) rfl rfl rfl (fun _ _ => (.cold rfl (.cold rfl (.cold rfl (.cold rfl (.cold rfl .nil)))))) hx_p) (fun _ _ _ r => (t_name r rfl rfl 
  (q_ifX (p_not (p_mB (p_call (T__law_alike .own .own) (p_cons (p_oE (p_lst (p_vcons (p_call (T_first_unsafe .cold .cold .cold .cold .cold) (p_cons (p_oN rfl) (p_cons (p_oN rfl) (p_cons (p_oN rfl) (p_cons (p_oN rfl) (p_cons (p_oN rfl) p_nil))))) rfl rfl rfl (fun _ _ => (.cold rfl (.cold rfl (.cold rfl (.cold rfl (.cold rfl .nil)))))) hx_p) (p_vcons (p_call (T_is_safe .cold .cold .cold .cold .cold) (p_cons (p_oN rfl) (p_cons (p_oN rfl) (p_cons (p_oN rfl) (p_cons (p_oN rfl) (p_cons (p_oN rfl) p_nil))))) rfl rfl rfl (fun _ _ => (.cold rfl (.cold rfl (.cold rfl (.cold rfl (.cold rfl .nil)))))) hx_p) p_vnil)))) (p_cons (p_oE (p_lst (p_vcons (p_var rfl) (p_vcons (p_bin n_is.k (p_oN rfl) (p_oE p_con) rfl) p_vnil)))) p_nil)) rfl rfl rfl (fun _ _ => (.val (.val .nil))) hx_p))) (fun _ => (q_retS (q_done (q_done (q_ret0 p_con fle_rfl (fun _ _ => ⟨les_rfl, trivial⟩)))))) (fun _ =>
  (q_skip (q_set (p_comp (n := 27) (p_rng1 p_con) (fun _ hx => (t_name (rdc hx) rfl rfl (u_if (p_and (p_mB (p_bin n_lt.k (p_oN rfl) (p_oE p_con) rfl)) (p_mB (p_bin n_is.k (p_oE (p_call (T__law_fault .cold .cold .cold .cold .cold) (p_cons (p_oN rfl) (p_cons (p_oN rfl) (p_cons (p_oN rfl) (p_cons (p_oN rfl) (p_cons (p_oN rfl) p_nil))))) rfl rfl rfl (fun _ _ => (.cold rfl (.cold rfl (.cold rfl (.cold rfl (.cold rfl .nil)))))) hx_p)) (p_oE p_con) rfl))) (p_var rfl) (le_cons les_rfl (le_cons les_rfl (le_cons les_rfl (le_cons les_rfl (le_cons les_rfl (le_cons les_rfl (le_cons les_rfl (le_cons les_rfl (le_cons les_rfl (le_cons les_rfl (le_cons les_rfl (le_cons les_rfl (le_cons les_rfl (le_cons les_rfl (le_cons les_any (le_cons les_any (le_cons les_any (le_cons les_rfl (le_cons les_rfl (le_cons les_any (le_cons les_rfl (le_cons les_rfl (le_cons les_rfl (le_cons les_rfl (le_cons les_rfl (le_cons les_rfl (le_cons les_any le_nil)))))))))))))))))))))))))))))) rfl rfl) (fun _ _ _ r => (t_name r rfl rfl 
  (q_set (p_call (T_most_wear .cold .cold .cold .cold) (p_cons (p_oN rfl) (p_cons (p_oN rfl) (p_cons (p_oN rfl) (p_cons (p_oN rfl) p_nil)))) rfl rfl rfl (fun _ _ => (.cold rfl (.cold rfl (.cold rfl (.cold rfl .nil))))) hx_p) (fun _ _ _ r => (t_name r rfl rfl 
  (q_if (p_or (p_and (p_mB (p_bin n_eq.k (p_oN rfl) (p_oE (p_lst p_vnil)) rfl)) (p_mB (p_bin n_isNot.k (p_oN rfl) (p_oE p_con) rfl))) (p_and (p_mB (p_bin n_ne.k (p_oN rfl) (p_oE (p_lst p_vnil)) rfl)) (p_or (p_mB (p_bin n_is.k (p_oN rfl) (p_oE p_con) rfl)) (p_or (p_mB (p_bin n_lt.k (p_oN rfl) (p_oE (p_bin n_ix.k (p_oN rfl) (p_oE (p_unG gC_get n_neg.k (p_oE p_con) rfl)) rfl)) rfl)) (p_and (p_mB (p_bin n_lt.k (p_oE (p_bin n_ix.k (p_oN rfl) (p_oE (p_unG gC_get n_neg.k (p_oE p_con) rfl)) rfl)) (p_oE p_con) rfl)) (p_mB (p_bin n_ne.k (p_oN rfl) (p_oE (p_bin n_ix.k (p_oN rfl) (p_oE (p_unG gC_get n_neg.k (p_oE p_con) rfl)) rfl)) rfl))))))) (fun _ => (q_done (q_done (q_ret0 p_con fle_rfl (fun _ _ => ⟨les_rfl, trivial⟩))))) (fun _ => (q_endL (fun γ => (() : (Unit))) (le_cons les_rfl (le_cons les_rfl (le_cons les_rfl (le_cons les_rfl (le_cons les_rfl (le_cons les_rfl (le_cons les_rfl (le_cons les_rfl (le_cons les_rfl (le_cons les_rfl (le_cons les_rfl (le_cons les_rfl (le_cons les_rfl (le_cons les_rfl (le_cons les_any (le_cons les_any (le_cons les_any (le_cons les_cold (le_cons les_cold (le_cons les_any (le_cons les_rfl (le_cons les_rfl (le_cons les_rfl (le_cons les_rfl (le_cons les_rfl (le_cons les_rfl (le_cons les_rfl le_nil)))))))))))))))))))))))))))))))))))))))))))) (fun _ =>
  (q_endL (fun γ => ((gat γ 1).v : (D))) (le_cons les_rfl (le_cons les_rfl (le_cons les_cold (le_cons les_cold (le_cons les_cold (le_cons les_cold (le_cons les_cold (le_cons les_cold (le_cons les_any (le_cons les_any (le_cons les_rfl (le_cons les_rfl (le_cons les_rfl (le_cons les_rfl (le_cons les_any (le_cons les_any (le_cons les_any (le_cons les_rfl (le_cons les_rfl (le_cons les_any (le_cons les_rfl (le_cons les_rfl (le_cons les_rfl (le_cons les_rfl (le_cons les_rfl (le_cons les_rfl (le_cons les_rfl le_nil)))))))))))))))))))))))))))))))))))))))))))))))))))) (fun _ =>
  (q_ret0 p_con fle_rfl (fun _ _ => ⟨les_rfl, trivial⟩)))))));
      h
end U
end Y

end
section
set_option Elab.async false
set_option linter.all false
set_option maxRecDepth 100000
set_option maxHeartbeats 4000000
set_option autoImplicit false
/-! V2: the laws' own draws. -/
namespace Y
namespace U
open PySem L2
def bagU (h s k : Int) (ns : List Int) : D := .lst false [.int h, .int s, .int k, .lst false (ns.map .int)]
def Bag (b : D) : Prop := ∃ h s k ns, ns.length ≤ 64 ∧ b = bagU h s k ns
theorem x0 {a b c d : D} : uP pIx [.lst false [a, b, c, d], .int 0] = .ok (frz a) := by
  show R.ok (frz (frz a)) = _; rw [frz2]
theorem x1 {a b c d : D} : uP pIx [.lst false [a, b, c, d], .int 1] = .ok (frz b) := by
  show R.ok (frz (frz b)) = _; rw [frz2]
theorem x2 {a b c d : D} : uP pIx [.lst false [a, b, c, d], .int 2] = .ok (frz c) := by
  show R.ok (frz (frz c)) = _; rw [frz2]
theorem x3 {a b c d : D} : uP pIx [.lst false [a, b, c, d], .int 3] = .ok (frz d) := by
  show R.ok (frz (frz d)) = _; rw [frz2]
theorem first_of (k : Int) (ns : List Int) : ∃ (x : Int) (xs : List Int), cutD (ns.map D.int) (some k) none ++ [.int 0] = D.int x :: xs.map D.int := by
  have : ∀ m : List Int, ∃ (x : Int) (xs : List Int), m.map D.int ++ [.int 0] = D.int x :: xs.map D.int := fun m => by
    cases m with
    | nil => exact ⟨0, [], rfl⟩
    | cons a m => exact ⟨a, m ++ [0], by simp⟩
  unfold cutD
  rw [← List.map_drop, ← List.map_take]
  exact this _
theorem cut_len (ns : List D) (lo hi : Option Int) : (cutD ns lo hi).length ≤ ns.length := by
  unfold cutD
  rw [List.length_take, List.length_drop]
  omega
theorem cut_ints (ns : List Int) (lo hi : Option Int) : ∃ ms : List Int, cutD (ns.map D.int) lo hi = ms.map D.int ∧ ms.length ≤ ns.length ∧ ∀ x ∈ ms, x ∈ ns := by
  refine ⟨(ns.drop (HT.sIx ns.length 0 lo)).take (HT.sIx ns.length ns.length hi - HT.sIx ns.length 0 lo), ?_, ?_, fun x hx => List.mem_of_mem_drop (List.mem_of_mem_take hx)⟩
  · unfold cutD
    rw [List.length_map, ← List.map_drop, ← List.map_take]
  · rw [List.length_take, List.length_drop]; omega
theorem bag_ok (ns : List Int) (hl : ns.length ≤ 63) : ∃ b, Bag b ∧ U__law_bag (.lst false (ns.map D.int)) = .ok b := by
  obtain ⟨ms, hm, hml, _⟩ := cut_ints ns none (some 63)
  refine ⟨bagU 0 1234567891 0 (ms.map absI), ⟨0, 1234567891, 0, _, by rw [List.length_map]; omega, rfl⟩, ?_⟩
  have e : uP (pSl none (some 63)) [.lst false (ns.map D.int)] = .ok (.lst false (ms.map D.int)) := by
    show R.ok (D.lst false (frz.frzL (cutD (ns.map D.int) none (some 63)))) = _
    rw [hm, frzL_cd]
  have hl' : ms.length ≤ 16777216 := by omega
  unfold U__law_bag
  simp [e, uCompT_some, hl', bagU, Function.comp_def]
theorem take_ok {b : D} {many : Int} (hb : Bag b) (hm : 0 < many) (hm2 : many < 1073741824) : ∃ v b', 0 ≤ v ∧ v < many ∧ Bag b' ∧ U__law_take b (.int many) = .ok (.int v, b') := by
  obtain ⟨h, s, k, ns, hl, rfl⟩ := hb
  obtain ⟨x, xs, hx⟩ := first_of k ns
  have sl : uP (pSl (some k) none) [.lst false (ns.map D.int)] = .ok (.lst false (cutD (ns.map D.int) (some k) none)) := by
    show R.ok (D.lst false (frz.frzL _)) = _
    obtain ⟨ms, e, _⟩ := cut_ints ns (some k) none
    rw [e, frzL_cd]
  have ad : uP pAddL [.lst false (cutD (ns.map D.int) (some k) none), .lst false [.int 0]] = .ok (.lst false (.int x :: xs.map D.int)) := by
    have h1 : (cutD (ns.map D.int) (some k) none).length + 1 ≤ 16777216 := by
      have := cut_len (ns.map D.int) (some k) none
      rw [List.length_map] at this
      omega
    have e : pAddL [.lst false (cutD (ns.map D.int) (some k) none), .lst false [.int 0]] = some (.lst false (.int x :: xs.map D.int)) := by
      show (if (cutD (ns.map D.int) (some k) none).length + [D.int 0].length ≤ LN then some (D.lst false (cutD (ns.map D.int) (some k) none ++ [.int 0])) else none) = _
      rw [if_pos (show (cutD (ns.map D.int) (some k) none).length + [D.int 0].length ≤ LN from h1), hx]
    unfold uP; rw [e]
    show R.ok (D.lst false (frz (.int x) :: frz.frzL (xs.map D.int))) = _
    rw [frzL_cd]; rfl
  have ix : uP pIx [.lst false (D.int x :: xs.map D.int), .int 0] = .ok (.int x) := by
    have e : pIx [.lst false (D.int x :: xs.map D.int), .int 0] = some (.int x) := by
      show atI (frz (.int x) :: frz.frzL (xs.map D.int)) 0 = _
      unfold atI ixN
      rw [if_pos (by decide), if_pos (by rw [List.length_cons]; omega)]; rfl
    unfold uP; rw [e]; rfl
  have pw : uP pPow [.int 10, .int 18] = .ok (.int 1000000000000000000) := by
    have e : pPow [.int 10, .int 18] = some (.int 1000000000000000000) := by
      show (if cPow 10 18 = true then some (D.int (10 ^ (18:Int).toNat)) else none) = _
      rw [if_pos (by decide)]; rfl
    unfold uP; rw [e]; rfl
  have m1 : ∀ a : Int, uP pMulN [.int a, .int 48271] = .ok (.int (a * 48271)) := fun a => e_mul (.inr (by decide))
  have m2 : ∀ a : Int, uP pMulN [.int 7919, .int a] = .ok (.int (7919 * a)) := fun a => e_mul (.inl (by decide))
  have m3 : ∀ a : Int, uP pMulN [.int a, .int 39373] = .ok (.int (a * 39373)) := fun a => e_mul (.inr (by decide))
  have m4 : ∀ a : Int, uP pMulN [.int a, .int 30011] = .ok (.int (a * 30011)) := fun a => e_mul (.inr (by decide))
  have m5 : ∀ a : Int, uP pMulN [.int (a % 1000000007), .int (a % 1000000007)] = .ok (.int ((a % 1000000007) * (a % 1000000007))) := fun a => e_mul (.inl (by omega))
  have d1 : ∀ a : Int, uP pDiv [.int a, .int 7] = .ok (.int (a / 7)) := fun a => e_div (by decide) (by decide)
  have md : ∀ a : Int, uP pMod [.int a, .int many] = .ok (.int (a % many)) := fun a => e_mod hm
  have dv : ∀ a : Int, uP pDiv [.int a, .int many] = .ok (.int (a / many)) := fun a => e_div hm hm2
  have n1 : ∀ a : Int, uP pMod [.int a, .int 2147483647] = .ok (.int (a % 2147483647)) := fun a => e_mod (by decide)
  have n2 : ∀ a : Int, uP pMod [.int a, .int 1000000007] = .ok (.int (a % 1000000007)) := fun a => e_mod (by decide)
  have n3 : ∀ a : Int, uP pMod [.int a, .int 998244353] = .ok (.int (a % 998244353)) := fun a => e_mod (by decide)
  have b0 : ∀ a : Int, 0 ≤ a % many := fun a => Int.emod_nonneg _ (by omega)
  have b1 : ∀ a : Int, a % many < many := fun a => Int.emod_lt_of_pos _ hm
  have g2 : ∀ a b c d : D, uGetI (.lst false [a, b, c, d]) 2 = .ok c := fun _ _ _ _ => rfl
  have s0 : ∀ a b c d z : D, uSetI (.lst false [a, b, c, d]) (.int 0) z = .ok (.lst false [z, b, c, d]) := fun _ _ _ _ _ => rfl
  have s1 : ∀ a b c d z : D, uSetI (.lst false [a, b, c, d]) (.int 1) z = .ok (.lst false [a, z, c, d]) := fun _ _ _ _ _ => rfl
  have s2 : ∀ a b c d z : D, uSetI (.lst false [a, b, c, d]) (.int 2) z = .ok (.lst false [a, b, z, d]) := fun _ _ _ _ _ => rfl
  unfold U__law_take bagU
  by_cases h0 : h = 0
  · subst h0
    by_cases hc : 1000000000000000000 ≤ x
    · have hp : 0 < x := by omega
      refine ⟨x % many, bagU (x / many) ((s * 48271 + x % 2147483647 + 7919 * (k + 1)) % 2147483647) (k + 1) ns, b0 _, b1 _, ⟨_, _, _, _, hl, rfl⟩, ?_⟩
      simp [U.x0, U.x1, U.x2, U.x3, sl, ad, ix, pw, m1, m2, m3, m4, m5, d1, md, dv, n1, n2, n3, g2, s0, s1, s2, hc, hp, bagU]
    · refine ⟨?_, bagU 0 ((s * 48271 + x % 2147483647 + 7919 * (k + 1)) % 2147483647) (k + 1) ns, ?_, ?_, ⟨_, _, _, _, hl, rfl⟩, ?_⟩
      case refine_4 => simp [U.x0, U.x1, U.x2, U.x3, sl, ad, ix, pw, m1, m2, m3, m4, m5, d1, md, dv, n1, n2, n3, g2, s0, s1, s2, hc, bagU]; rfl
      · exact b0 _
      · exact b1 _
  · by_cases hp : 0 < h
    · refine ⟨h % many, bagU (h / many) s k ns, b0 _, b1 _, ⟨_, _, _, _, hl, rfl⟩, ?_⟩
      simp [U.x0, U.x1, U.x2, U.x3, md, dv, s0, h0, hp, bagU]
    · refine ⟨?_, bagU h s k ns, ?_, ?_, ⟨_, _, _, _, hl, rfl⟩, ?_⟩
      case refine_4 => simp [U.x0, U.x1, U.x2, U.x3, m1, m2, m3, m4, m5, d1, md, dv, n1, n2, n3, h0, hp, bagU]; rfl
      · exact b0 _
      · exact b1 _
/-- x[i] -/
theorem ix_l {o : Bool} {xs : List D} {i : Int} {x : D} (h0 : 0 ≤ i) (h : xs[i.toNat]? = some x) : uP pIx [.lst o xs, .int i] = .ok (frz x) := by
  have hl := (List.getElem?_eq_some_iff.mp h).1
  have e : pIx [.lst o xs, .int i] = some (frz x) := by
    show atI (frz.frzL xs) i = _
    unfold atI ixN
    rw [if_pos h0, if_pos (by rw [frzL_len]; omega)]
    show (frz.frzL xs)[i.toNat]? = _
    rw [frzL_get, h]; rfl
  unfold uP; rw [e]; show R.ok (frz (frz x)) = _; rw [frz2]
theorem ix_t {xs : List D} {i : Int} {x : D} (h0 : 0 ≤ i) (h : xs[i.toNat]? = some x) : uP pIx [.tup xs, .int i] = .ok (frz x) := ix_l (o := false) h0 h
theorem some_okL {b : D} {xs : List D} (hb : Bag b) (h0 : xs ≠ []) (hl : xs.length ≤ 1000) : ∃ x ∈ xs, ∃ b', Bag b' ∧ U__law_some b (.lst false xs) = .ok (frz x, b') := by
  have hp : 0 < xs.length := List.length_pos_iff.mpr h0
  obtain ⟨v, b', v0, v1, hb', e⟩ := take_ok hb (many := xs.length) (by omega) (by omega)
  have hv : v.toNat < xs.length := by omega
  refine ⟨xs[v.toNat], List.getElem_mem hv, b', hb', ?_⟩
  unfold U__law_some
  simp [e, ix_l v0 (List.getElem?_eq_getElem hv)]
theorem some_okT {b : D} {xs : List D} (hb : Bag b) (h0 : xs ≠ []) (hl : xs.length ≤ 1000) : ∃ x ∈ xs, ∃ b', Bag b' ∧ U__law_some b (.tup xs) = .ok (frz x, b') := by
  have hp : 0 < xs.length := List.length_pos_iff.mpr h0
  obtain ⟨v, b', v0, v1, hb', e⟩ := take_ok hb (many := xs.length) (by omega) (by omega)
  have hv : v.toNat < xs.length := by omega
  refine ⟨xs[v.toNat], List.getElem_mem hv, b', hb', ?_⟩
  unfold U__law_some
  simp [e, ix_t v0 (List.getElem?_eq_getElem hv)]
end U
end Y

end
section
set_option Elab.async false
set_option linter.all false
set_option maxRecDepth 100000
set_option maxHeartbeats 4000000
set_option autoImplicit false
/-! V3: alike, mixed. -/
namespace Y
namespace U
open PySem L2
/-- trees that alike looks at -/
def okA : D → Bool
  | .non => true
  | .bl _ => true
  | .int _ => true
  | .str x => okP (.str x)
  | .tup xs => okAs xs
  | .lst o xs => !o && okAs xs
  | _ => false
where okAs : List D → Bool
  | [] => true
  | x :: xs => okA x && okAs xs
def sz : D → Nat
  | .tup xs => 1 + szs xs
  | .lst _ xs => 1 + szs xs
  | _ => 1
where szs : List D → Nat
  | [] => 0
  | x :: xs => sz x + szs xs
theorem sz_pos (d : D) : 0 < sz d := by cases d <;> simp [sz] <;> omega
theorem szs_app (l l' : List D) : sz.szs (l ++ l') = sz.szs l + sz.szs l' := by
  induction l with
  | nil => simp [sz.szs]
  | cons x l ih => simp only [List.cons_append, sz.szs, ih]; omega
theorem szs_len (l : List D) : l.length ≤ sz.szs l := by
  induction l with
  | nil => exact Nat.le_refl _
  | cons x l ih => have := sz_pos x; simp only [sz.szs, List.length_cons]; omega
theorem okAs_all {l : List D} : okA.okAs l = true ↔ ∀ x ∈ l, okA x = true := by
  induction l with
  | nil => simp [okA.okAs]
  | cons x l ih => simp [okA.okAs, ih]
mutual
theorem okA_frz : ∀ d : D, okA d = true → frz d = d
  | .non, _ => rfl
  | .bl _, _ => rfl
  | .int _, _ => rfl
  | .str _, _ => rfl
  | .tup _, _ => rfl
  | .lst o xs, h => by
    have h : (!o && okA.okAs xs) = true := h
    rw [Bool.and_eq_true] at h
    have e : o = false := by simpa using h.1
    subst e
    show D.lst false (frz.frzL xs) = _
    rw [okAs_frz xs h.2]
  | .dct _ _, h => nomatch h
  | .set _ _, h => nomatch h
  | .exn _ _, h => nomatch h
theorem okAs_frz : ∀ ds : List D, okA.okAs ds = true → frz.frzL ds = ds
  | [], _ => rfl
  | d :: ds, h => by
    have h : (okA d && okA.okAs ds) = true := h
    rw [Bool.and_eq_true] at h
    show frz d :: frz.frzL ds = _
    rw [okA_frz d h.1, okAs_frz ds h.2]
end
abbrev prD (p : D × D) : D := .tup [p.1, p.2]
theorem zip2_prs (l l' : List D) : zip2D l l' = (l.zip l').map prD := by
  unfold zip2D
  induction l generalizing l' with
  | nil => rfl
  | cons x l ih => cases l' with
    | nil => rfl
    | cons y l' => simp [ih]
/-- what a turn of alike makes of a couple: more couples, or no -/
def stepA : D × D → Option (List (D × D))
  | (.tup xs, .tup ys) => if xs.length = ys.length then some (xs.zip ys) else none
  | (.lst _ xs, .lst _ ys) => if xs.length = ys.length then some (xs.zip ys) else none
  | (.non, .non) => some []
  | (.bl a, .bl b) => if a = b then some [] else none
  | (.int a, .int b) => if a = b then some [] else none
  | (.str a, .str b) => if a = b then some [] else none
  | _ => none
theorem isi_v (Ts : List String) {d : D} {t : String} (h : tyD d = some t) : uP (isiP Ts) [d] = .ok (.bl (Ts.any fun T => subT t T)) := by
  have e : isiP Ts [d] = some (.bl (Ts.any fun T => subT t T)) := by show (tyD d).map _ = _; rw [h]; rfl
  unfold uP; rw [e]; rfl
theorem ne_v {x y : D} (h1 : okP x = true) (h2 : okP y = true) : uP pNe [x, y] = .ok (.bl (!PyData.eqv (toP x) (toP y))) := by
  have e : pNe [x, y] = some (.bl (!PyData.eqv (toP x) (toP y))) := by
    show (if (okP x && okP y) = true then some (D.bl (!PyData.eqv (toP x) (toP y))) else none) = _
    rw [h1, h2]; rfl
  unfold uP; rw [e]; rfl
theorem lz_v {x y : D} {xs ys : List D} (h1 : items x = some xs) (h2 : items y = some ys) (hl : min xs.length ys.length ≤ 16777216) : uP pLZ [x, y] = .ok (.lst false ((xs.zip ys).map prD)) := by
  have e : pLZ [x, y] = some (.lst true ((xs.zip ys).map prD)) := by
    have e2 : pLZ [x, y] = if min xs.length ys.length ≤ LN then some (D.lst true (zip2D xs ys)) else none := by simp only [pLZ, h1, h2]
    rw [e2, if_pos hl, zip2_prs]
  unfold uP; rw [e]
  show R.ok (D.lst false (frz.frzL _)) = _
  rw [frzL_cd]
theorem at_mid (ps qs : List (D × D)) (p : D × D) : uP pIx [.lst false ((ps ++ p :: qs).map prD), .int ps.length] = .ok (prD p) := by
  have : (((ps ++ p :: qs).map prD)[((ps.length : Int)).toNat]?) = some (prD p) := by
    rw [Int.toNat_natCast]
    simp
  exact ix_l (by omega) this
def TA : D × D → R Bool := fun v1 => (uP pLen [v1.1]).bind fun v4 => (uP pLt [v1.2, v4]).bind fun v5 => (uB v5).bind fun v6 => R.ok v6
def BA : D × D → R (Step D (D × D)) := fun v1 => (uP pIx [v1.1, v1.2]).bind fun v7 => uUnp2 v7 fun v8 v9 => (uI v1.2).bind fun _ => (uP pAddI [v1.2, (.int 1)]).bind fun v10 =>
  (uP (isiP ["bool"]) [v8]).bind fun v11 => (uP (isiP ["bool"]) [v9]).bind fun v12 => (uP pNe [v11, v12]).bind fun v13 => (uB v13).bind fun v14 => (if v14 then R.ok true else (uP (isiP ["str"]) [v8]).bind fun v16 => (uP (isiP ["str"]) [v9]).bind fun v17 => (uP pNe [v16, v17]).bind fun v18 => (uB v18).bind fun v19 => R.ok v19).bind fun v15 => if v15 then (R.ok (.bl false)).bind fun v20 => R.ok (.done v20) else
  (uP (isiP ["tuple", "list"]) [v8]).bind fun v21 => (uP (isiP ["tuple", "list"]) [v9]).bind fun v22 => (uP pNe [v21, v22]).bind fun v23 => (uB v23).bind fun v24 => if v24 then (R.ok (.bl false)).bind fun v25 => R.ok (.done v25) else
  (uP (isiP ["tuple", "list"]) [v8]).bind fun v26 => (uB v26).bind fun v27 => if v27 then (uP (isiP ["tuple"]) [v8]).bind fun v28 => (uP (isiP ["tuple"]) [v9]).bind fun v29 => (uP pNe [v28, v29]).bind fun v30 => (uB v30).bind fun v31 => (if v31 then R.ok true else (uP pLen [v8]).bind fun v33 => (uP pLen [v9]).bind fun v34 => (uP pNe [v33, v34]).bind fun v35 => (uB v35).bind fun v36 => R.ok v36).bind fun v32 => if v32 then (R.ok (.bl false)).bind fun v37 => R.ok (.done v37) else
  (uL v1.1).bind fun _ => (uP pLZ [v8, v9]).bind fun v38 => (uMut fExtendU v1.1 [v38]).bind fun v39 => R.ok (.next (v39.1, v10)) else (uP pNe [v8, v9]).bind fun v40 => (uB v40).bind fun v41 => if v41 then (R.ok (.bl false)).bind fun v42 => R.ok (.done v42) else R.ok (.next (v1.1, v10))
theorem alike_def (a b : D) : U__law_alike a b = (whileU TA BA (.lst false [.tup [a, b]], .int 0)).bind fun v3 => jn v3 fun _ => R.ok (.bl true) := rfl
theorem TA_ok (ps qs : List (D × D)) : TA (.lst false ((ps ++ qs).map prD), .int ps.length) = .ok (decide (qs ≠ [])) := by
  unfold TA
  simp
  cases qs with
  | nil => simp
  | cons q qs => simp; omega
theorem ext_v {xs es : List D} (h : xs.length + es.length ≤ 16777216) : uMut fExtendU (.lst false xs) [.lst false es] = .ok (.lst false (xs ++ es), .non) := by
  have e : fExtendU xs [.lst false es] = some (xs ++ es, .non) := by
    show (if xs.length + es.length ≤ LN then some (xs ++ es, D.non) else none) = _
    rw [if_pos h]
  unfold uMut
  dsimp only
  rw [e]
def isB (x : Bool) : D → Bool
  | .bl y => x == y
  | _ => false
def isI (x : Int) : D → Bool
  | .int y => decide (x = y)
  | _ => false
def isS (x : Str) : D → Bool
  | .str y => decide (x = y)
  | _ => false
theorem eqvN {a b : D} (hx : ∀ i j, a = .int i → b ≠ .int j) : True := trivial
theorem BA_ok (ps qs : List (D × D)) (p : D × D) (h1 : okA p.1 = true) (h2 : okA p.2 = true) (hl : ps.length + qs.length + 1 + sz p.1 ≤ 16777216) :
    BA (.lst false ((ps ++ p :: qs).map prD), .int ps.length) = match stepA p with
      | some rs => .ok (.next (.lst false ((ps ++ p :: qs ++ rs).map prD), .int ((ps ++ [p]).length : Nat)))
      | none => .ok (.done (.bl false)) := by
  obtain ⟨a, b⟩ := p
  have hl : ps.length + qs.length + 1 + sz a ≤ 16777216 := hl
  have hm := at_mid ps qs (a, b)
  have ha := okA_frz a h1
  have hb := okA_frz b h2
  have hlen : ((ps.length : Int) + 1) = ((ps ++ [(a, b)]).length : Nat) := by simp
  have seq : ∀ (xs ys : List D) (t : String), items a = some xs → items b = some ys → tyD a = some t → tyD b = some t → (t = "tuple" ∨ t = "list") → uP pLen [a] = .ok (.int xs.length) → uP pLen [b] = .ok (.int ys.length) → xs.length ≤ sz a →
      BA (.lst false ((ps ++ (a, b) :: qs).map prD), .int ps.length) = if xs.length = ys.length then .ok (.next (.lst false ((ps ++ (a, b) :: qs ++ xs.zip ys).map prD), .int ((ps ++ [(a, b)]).length : Nat))) else .ok (.done (.bl false)) := by
    intro xs ys t i1 i2 t1 t2 ht l1 l2 hz
    have s1 : (["tuple", "list"].any fun T => subT t T) = true := by rcases ht with rfl | rfl <;> decide
    have ext := ext_v (xs := (ps ++ (a, b) :: qs).map prD) (es := (xs.zip ys).map prD) (by simp only [List.length_map, List.length_append, List.length_cons, List.length_zip]; omega)
    have lz := lz_v i1 i2 (by omega)
    unfold BA
    by_cases hq : xs.length = ys.length
    · have hq' : (xs.length : Int) = ys.length := by omega
      simp only [hm, R.bind_ok, uUnp2, prD, ha, hb, uI_int, e_addI, isi_v _ t1, isi_v _ t2, e_neb, bne_self_eq_false, uB_bl, if_false, Bool.false_eq_true, s1, if_true, l1, l2, e_nei, hq', decide_true, Bool.not_true, uL_lst, lz, hlen, if_pos hq]
      rw [show uMut fExtendU (D.lst false (List.map (fun p => D.tup [p.1, p.2]) (ps ++ (a, b) :: qs))) [D.lst false (List.map prD (xs.zip ys))] = _ from ext]
      simp only [R.bind_ok, List.map_append]
    · have hq' : ¬ (xs.length : Int) = ys.length := by omega
      simp only [hm, R.bind_ok, uUnp2, prD, ha, hb, uI_int, e_addI, isi_v _ t1, isi_v _ t2, e_neb, bne_self_eq_false, uB_bl, if_false, Bool.false_eq_true, s1, if_true, l1, l2, e_nei, hq', decide_false, Bool.not_false, if_neg hq]
  have leaf : ∀ (t t' : String) (q : Bool), tyD a = some t → tyD b = some t' → t ≠ "tuple" → t ≠ "list" → okP a = true → ((t' == "tuple" || t' == "list") = false → okP b = true) →
      (((t == "bool") == (t' == "bool")) && ((t == "str") == (t' == "str")) && !(t' == "tuple" || t' == "list") && PyData.eqv (toP a) (toP b)) = q →
      BA (.lst false ((ps ++ (a, b) :: qs).map prD), .int ps.length) = if q = true then .ok (.next (.lst false ((ps ++ (a, b) :: qs).map prD), .int ((ps ++ [(a, b)]).length : Nat))) else .ok (.done (.bl false)) := by
    intro t t' q t1 t2 n1 n2 p1 p2 hq
    subst hq
    have e1 : ∀ t : String, (["bool"].any fun T => subT t T) = (t == "bool") := fun t => by simp [subT]
    have e2 : ∀ t : String, (["str"].any fun T => subT t T) = (t == "str") := fun t => by simp [subT]
    have e3 : ∀ t : String, (["tuple", "list"].any fun T => subT t T) = (t == "tuple" || t == "list") := fun t => by simp [subT]
    have e4 : (t == "tuple" || t == "list") = false := by simp [n1, n2]
    unfold BA
    cases hs : (t' == "tuple" || t' == "list") with
    | true =>
      simp only [hm, R.bind_ok, uUnp2, prD, ha, hb, uI_int, e_addI, isi_v _ t1, isi_v _ t2, e_neb, uB_bl, e1, e2, e3, e4, hlen, hs]
      cases (t == "bool") <;> cases (t' == "bool") <;> cases (t == "str") <;> cases (t' == "str") <;> rfl
    | false =>
    simp only [hm, R.bind_ok, uUnp2, prD, ha, hb, uI_int, e_addI, isi_v _ t1, isi_v _ t2, e_neb, uB_bl, e1, e2, e3, e4, hlen, ne_v p1 (p2 hs), hs]
    cases (t == "bool") <;> cases (t' == "bool") <;> cases (t == "str") <;> cases (t' == "str") <;> cases PyData.eqv (toP a) (toP b) <;> rfl
  have seqN : ∀ (t t' : String), tyD a = some t → tyD b = some t' → (t = "tuple" ∨ t = "list") → t ≠ t' → BA (.lst false ((ps ++ (a, b) :: qs).map prD), .int ps.length) = .ok (.done (.bl false)) := by
    intro t t' t1 t2 ht hne
    have e1 : ∀ t : String, (["bool"].any fun T => subT t T) = (t == "bool") := fun t => by simp [subT]
    have e2 : ∀ t : String, (["str"].any fun T => subT t T) = (t == "str") := fun t => by simp [subT]
    have e3 : ∀ t : String, (["tuple", "list"].any fun T => subT t T) = (t == "tuple" || t == "list") := fun t => by simp [subT]
    have e5 : ∀ t : String, (["tuple"].any fun T => subT t T) = (t == "tuple") := fun t => by simp [subT]
    unfold BA
    simp only [hm, R.bind_ok, uUnp2, prD, ha, hb, uI_int, e_addI, isi_v _ t1, isi_v _ t2, e_neb, uB_bl, e1, e2, e3, e5, hlen]
    have hd : (t' == "bool") = true ∨ (t' == "str") = true ∨ (t' == "tuple" || t' == "list") = false ∨ (t == "tuple") ≠ (t' == "tuple") := by
      by_cases q1 : t' = "tuple"
      · subst q1; refine .inr (.inr (.inr ?_)); rcases ht with rfl | rfl
        · exact absurd rfl hne
        · decide
      · by_cases q2 : t' = "list"
        · subst q2; refine .inr (.inr (.inr ?_)); rcases ht with rfl | rfl
          · decide
          · exact absurd rfl hne
        · refine .inr (.inr (.inl ?_)); simp [q1, q2]
    have c1 : (t == "bool") = false := by rcases ht with rfl | rfl <;> decide
    have c2 : (t == "str") = false := by rcases ht with rfl | rfl <;> decide
    have c3 : (t == "tuple" || t == "list") = true := by rcases ht with rfl | rfl <;> decide
    rw [c1, c2, c3]
    rcases hd with h | h | h | h
    · rw [h]; rfl
    · rw [h]; cases (t' == "bool") <;> rfl
    · rw [h]; cases (t' == "bool") <;> cases (t' == "str") <;> rfl
    · have h : ((t == "tuple") != (t' == "tuple")) = true := by simpa using h
      rw [h]; cases (t' == "bool") <;> cases (t' == "str") <;> cases (t' == "tuple" || t' == "list") <;> rfl
  have h1 : okA a = true := h1
  have h2 : okA b = true := h2
  have okl : ∀ d : D, okA d = true → ∀ t, tyD d = some t → (t == "tuple" || t == "list") = false → okP d = true := fun d h t ht hn => by
    cases d with
    | non => rfl
    | bl _ => rfl
    | int _ => rfl
    | str _ => exact h
    | tup _ => cases ht; exact nomatch hn
    | lst _ _ => cases ht; exact nomatch hn
    | dct _ _ => cases h
    | set _ _ => cases h
    | exn _ _ => cases h
  have tyb : ∃ t', tyD b = some t' := by cases b <;> first | exact ⟨_, rfl⟩ | cases h2
  obtain ⟨t', tb⟩ := tyb
  have fin : ∀ (q : Bool), stepA (a, b) = (if q = true then some [] else none) → BA (.lst false ((ps ++ (a, b) :: qs).map prD), .int ps.length) = (if q = true then .ok (.next (.lst false ((ps ++ (a, b) :: qs).map prD), .int ((ps ++ [(a, b)]).length : Nat))) else .ok (.done (.bl false))) →
      BA (.lst false ((ps ++ (a, b) :: qs).map prD), .int ps.length) = match stepA (a, b) with
      | some rs => .ok (.next (.lst false ((ps ++ (a, b) :: qs ++ rs).map prD), .int ((ps ++ [(a, b)]).length : Nat)))
      | none => .ok (.done (.bl false)) := fun q e1 e2 => by
    rw [e1, e2]
    cases q with
    | true => simp only [if_true, List.append_nil]
    | false => rfl
  cases a with
  | tup xs =>
    cases b with
    | tup ys =>
      rw [seq (frz.frzL xs) (frz.frzL ys) "tuple" rfl rfl rfl rfl (.inl rfl) (by rw [frzL_len]; rfl) (by rw [frzL_len]; rfl) (by have := szs_len xs; rw [frzL_len]; show _ ≤ 1 + sz.szs xs; omega)]
      have hx := okAs_frz xs h1
      have hy := okAs_frz ys h2
      rw [hx, hy]
      simp only [stepA]
      split <;> rename_i q <;> simp only [q, if_true, if_false]
    | _ => exact seqN "tuple" _ rfl tb (.inl rfl) (by cases tb <;> decide)
  | lst o xs =>
    cases b with
    | lst o' ys =>
      have h1' : (!o && okA.okAs xs) = true := h1
      have h2' : (!o' && okA.okAs ys) = true := h2
      rw [Bool.and_eq_true] at h1' h2'
      rw [seq (frz.frzL xs) (frz.frzL ys) "list" rfl rfl rfl rfl (.inr rfl) (by rw [frzL_len]; rfl) (by rw [frzL_len]; rfl) (by have := szs_len xs; rw [frzL_len]; show _ ≤ 1 + sz.szs xs; omega)]
      rw [okAs_frz xs h1'.2, okAs_frz ys h2'.2]
      simp only [stepA]
      split <;> rename_i q <;> simp only [q, if_true, if_false]
    | _ => exact seqN "list" _ rfl tb (.inr rfl) (by cases tb <;> decide)
  | non =>
    refine fin (isNon b) (by cases b <;> rfl) (leaf "NoneType" t' _ rfl tb (by decide) (by decide) rfl (okl b h2 t' tb) ?_)
    cases b <;> cases tb <;> first | rfl | (simp [toP, PyData.eqv, isNon])
  | bl x =>
    refine fin (isB x b) (by cases b with | bl y => (cases x <;> cases y <;> rfl) | _ => rfl) (leaf "bool" t' _ rfl tb (by decide) (by decide) rfl (okl b h2 t' tb) ?_)
    cases b with
    | bl y => cases tb; cases x <;> cases y <;> rfl
    | _ => cases tb <;> rfl
  | int x =>
    refine fin (isI x b) (by cases b with | int y => (simp only [stepA, isI]; by_cases q : x = y <;> simp [q]) | _ => rfl) (leaf "int" t' _ rfl tb (by decide) (by decide) rfl (okl b h2 t' tb) ?_)
    cases b with
    | int y => cases tb; by_cases q : x = y <;> simp [toP, PyData.eqv, isI, q]
    | _ => cases tb <;> rfl
  | str x =>
    refine fin (isS x b) (by cases b with | str y => (simp only [stepA, isS]; by_cases q : x = y <;> simp [q]) | _ => rfl) (leaf "str" t' _ rfl tb (by decide) (by decide) h1 (okl b h2 t' tb) ?_)
    cases b with
    | str y => cases tb; by_cases q : x = y <;> simp [toP, PyData.eqv, isS, q]
    | _ => cases tb <;> rfl
  | dct _ _ => cases h1
  | set _ _ => cases h1
  | exn _ _ => cases h1
def szf : List (D × D) → Nat
  | [] => 0
  | p :: ps => sz p.1 + szf ps
theorem szf_app (l l' : List (D × D)) : szf (l ++ l') = szf l + szf l' := by
  induction l with
  | nil => simp [szf]
  | cons x l ih => simp only [List.cons_append, szf, ih]; omega
theorem szf_zip : ∀ (xs ys : List D), szf (xs.zip ys) ≤ sz.szs xs
  | [], _ => Nat.zero_le _
  | x :: xs, [] => Nat.zero_le _
  | x :: xs, y :: ys => by
    have := szf_zip xs ys
    show sz x + szf (xs.zip ys) ≤ sz x + sz.szs xs
    omega
theorem szf_len (l : List (D × D)) : l.length ≤ szf l := by
  induction l with
  | nil => exact Nat.le_refl _
  | cons x l ih => have := sz_pos x.1; simp only [szf, List.length_cons]; omega
theorem zip_eq : ∀ {xs ys : List D}, xs.length = ys.length → ((∀ r ∈ xs.zip ys, r.1 = r.2) ↔ xs = ys)
  | [], [], _ => by simp
  | x :: xs, y :: ys, h => by
    have ih := zip_eq (xs := xs) (ys := ys) (by simpa using h)
    simp only [List.zip_cons_cons, List.mem_cons, forall_eq_or_imp, List.cons.injEq, ih]
  | [], _ :: _, h => nomatch h
  | _ :: _, [], h => nomatch h
theorem step_some {p : D × D} {rs : List (D × D)} (h1 : okA p.1 = true) (h2 : okA p.2 = true) (h : stepA p = some rs) : (p.1 = p.2 ↔ ∀ r ∈ rs, r.1 = r.2) ∧ (∀ r ∈ rs, okA r.1 = true ∧ okA r.2 = true) ∧ szf rs + 1 ≤ sz p.1 := by
  obtain ⟨a, b⟩ := p
  have hz : ∀ (xs ys : List D), okA.okAs xs = true → okA.okAs ys = true → ∀ r ∈ xs.zip ys, okA r.1 = true ∧ okA r.2 = true := fun xs ys hx hy r hr => ⟨okAs_all.mp hx _ (List.of_mem_zip hr).1, okAs_all.mp hy _ (List.of_mem_zip hr).2⟩
  cases a with
  | tup xs => cases b with
    | tup ys =>
      simp only [stepA] at h
      split at h
      · rename_i q
        cases h
        refine ⟨?_, hz xs ys h1 h2, by have := szf_zip xs ys; show szf (xs.zip ys) + 1 ≤ 1 + sz.szs xs; omega⟩
        rw [zip_eq q]
        exact ⟨fun e => by injection e, fun e => by rw [e]⟩
      · cases h
    | _ => cases h
  | lst o xs => cases b with
    | lst o' ys =>
      have h1' : (!o && okA.okAs xs) = true := h1
      have h2' : (!o' && okA.okAs ys) = true := h2
      rw [Bool.and_eq_true] at h1' h2'
      have e1 : o = false := by simpa using h1'.1
      have e2 : o' = false := by simpa using h2'.1
      subst e1; subst e2
      simp only [stepA] at h
      split at h
      · rename_i q
        cases h
        refine ⟨?_, hz xs ys h1'.2 h2'.2, by have := szf_zip xs ys; show szf (xs.zip ys) + 1 ≤ 1 + sz.szs xs; omega⟩
        rw [zip_eq q]
        exact ⟨fun e => by injection e, fun e => by rw [e]⟩
      · cases h
    | _ => cases h
  | non => cases b with
    | non => cases h; exact ⟨by simp, fun r hr => (nomatch hr), Nat.le_refl _⟩
    | _ => cases h
  | bl x => cases b with
    | bl y =>
      simp only [stepA] at h
      split at h
      · rename_i q; subst q; cases h; exact ⟨by simp, fun r hr => (nomatch hr), Nat.le_refl _⟩
      · cases h
    | _ => cases h
  | int x => cases b with
    | int y =>
      simp only [stepA] at h
      split at h
      · rename_i q; subst q; cases h; exact ⟨by simp, fun r hr => (nomatch hr), Nat.le_refl _⟩
      · cases h
    | _ => cases h
  | str x => cases b with
    | str y =>
      simp only [stepA] at h
      split at h
      · rename_i q; subst q; cases h; exact ⟨by simp, fun r hr => (nomatch hr), Nat.le_refl _⟩
      · cases h
    | _ => cases h
  | dct _ _ => cases h1
  | set _ _ => cases h1
  | exn _ _ => cases h1
theorem step_none {p : D × D} (h1 : okA p.1 = true) (h : stepA p = none) : p.1 ≠ p.2 := by
  obtain ⟨a, b⟩ := p
  intro e
  have e : a = b := e
  subst e
  cases a with
  | tup xs => simp [stepA] at h
  | lst o xs => simp [stepA] at h
  | non => simp [stepA] at h
  | bl x => simp [stepA] at h
  | int x => simp [stepA] at h
  | str x => simp [stepA] at h
  | dct _ _ => cases h1
  | set _ _ => cases h1
  | exn _ _ => cases h1
theorem alike_loop : ∀ (m : Nat) (ps qs : List (D × D)), szf qs ≤ m → (∀ q ∈ qs, okA q.1 = true ∧ okA q.2 = true) → ps.length + szf qs + 1 ≤ 16777216 →
    ((∀ q ∈ qs, q.1 = q.2) → ∃ z, whileU TA BA (.lst false ((ps ++ qs).map prD), .int ps.length) = .ok (.next z)) ∧
    ((∃ q ∈ qs, q.1 ≠ q.2) → whileU TA BA (.lst false ((ps ++ qs).map prD), .int ps.length) = .ok (.done (.bl false)))
  | m, ps, [], hm, ho, hl => by
    rw [whileU_eq, TA_ok]
    exact ⟨fun _ => ⟨_, rfl⟩, fun ⟨q, h, _⟩ => nomatch h⟩
  | 0, ps, q :: qs, hm, ho, hl => by
    have := sz_pos q.1
    simp only [szf] at hm
    omega
  | m + 1, ps, q :: qs, hm, ho, hl => by
    simp only [szf] at hm hl
    obtain ⟨h1, h2⟩ := ho q List.mem_cons_self
    have hq := szf_len qs
    have e := BA_ok ps qs q h1 h2 (by omega)
    rw [whileU_eq, TA_ok]
    simp only [ne_eq, reduceCtorEq, not_false_eq_true, decide_true, R.bind_ok, if_true, e]
    cases hs : stepA q with
    | none =>
      have hn := step_none h1 hs
      exact ⟨fun h => absurd (h q List.mem_cons_self) hn, fun _ => rfl⟩
    | some rs =>
      obtain ⟨k1, k2, k3⟩ := step_some h1 h2 hs
      have e1 : ps ++ q :: qs ++ rs = (ps ++ [q]) ++ (qs ++ rs) := by simp
      simp only [R.bind_ok]
      rw [e1]
      have ih := alike_loop m (ps ++ [q]) (qs ++ rs) (by rw [szf_app]; omega) (fun r hr => (List.mem_append.mp hr).elim (fun h => ho r (List.mem_cons_of_mem _ h)) (k2 r)) (by rw [szf_app, List.length_append, List.length_singleton]; omega)
      refine ⟨fun h => ih.1 fun r hr => (List.mem_append.mp hr).elim (fun hh => h r (List.mem_cons_of_mem _ hh)) (k1.mp (h q List.mem_cons_self) r), fun ⟨r, hr, hne⟩ => ih.2 ?_⟩
      rcases List.mem_cons.mp hr with rfl | hr
      · apply Classical.byContradiction
        intro hc
        exact hne (k1.mpr fun r' hr' => Classical.byContradiction fun hh => hc ⟨r', List.mem_append_right _ hr', hh⟩)
      · exact ⟨r, List.mem_append_left _ hr, hne⟩
theorem alike_true {a : D} (h : okA a = true) (hs : sz a ≤ 16000000) : U__law_alike a a = .ok (.bl true) := by
  obtain ⟨z, e⟩ := (alike_loop _ [] [(a, a)] (Nat.le_refl _) (fun q hq => by rw [List.mem_singleton.mp hq]; exact ⟨h, h⟩) (by simp only [szf, List.length_nil]; omega)).1 fun q hq => by rw [List.mem_singleton.mp hq]
  have e : whileU TA BA (.lst false [.tup [a, a]], .int 0) = .ok (.next z) := e
  rw [alike_def, e]; rfl
theorem alike_eq {a b : D} (e : a = b) (h : okA a = true) (hs : sz a ≤ 16000000) : U__law_alike a b = .ok (.bl true) := by subst e; exact alike_true h hs
theorem alike_false {a b : D} (h : okA a = true) (h2 : okA b = true) (hs : sz a ≤ 16000000) (hne : a ≠ b) : U__law_alike a b = .ok (.bl false) := by
  have e := (alike_loop _ [] [(a, b)] (Nat.le_refl _) (fun q hq => by rw [List.mem_singleton.mp hq]; exact ⟨h, h2⟩) (by simp only [szf, List.length_nil]; omega)).2 ⟨(a, b), List.mem_singleton.mpr rfl, hne⟩
  have e : whileU TA BA (.lst false [.tup [a, b]], .int 0) = .ok (.done (.bl false)) := e
  rw [alike_def, e]; rfl
end U
end Y

end
section
set_option Elab.async false
set_option linter.all false
set_option maxRecDepth 100000
set_option maxHeartbeats 4000000
set_option autoImplicit false
/-! V4: equality of values, mixed, sorted. -/
namespace Y
namespace U
open PySem L2
/-- what may be compared -/
def okE (d : D) : Prop := PyData.canLay0 (toP d) = true ∧ PyData.depth (toP d) ≤ 60
theorem okE_i (i : Int) : okE (.int i) := ⟨rfl, by show PyData.depth (.int i) ≤ 60; simp [PyData.depth]⟩
theorem okE_b (i : Bool) : okE (.bl i) := ⟨rfl, by show PyData.depth (.bool i) ≤ 60; simp [PyData.depth]⟩
theorem okE_n : okE .non := ⟨rfl, by show PyData.depth .none ≤ 60; simp [PyData.depth]⟩
theorem okP_E {d : D} (h : okE d) : okP d = true := by
  unfold okP SeqAt.shaped
  rw [h.1]
  simp
  have := h.2
  omega
theorem lay_all {xs : List D} (h : ∀ x ∈ xs, PyData.canLay0 (toP x) = true) : PyData.canLayAll0 (toP.toPs xs) = true := by
  induction xs with
  | nil => rfl
  | cons x xs ih =>
    show (PyData.canLay0 (toP x) && PyData.canLayAll0 (toP.toPs xs)) = true
    rw [h x List.mem_cons_self, ih fun y hy => h y (List.mem_cons_of_mem _ hy)]; rfl
theorem dep_all {xs : List D} {n : Nat} (h : ∀ x ∈ xs, PyData.depth (toP x) ≤ n) : PyData.depthAll (toP.toPs xs) ≤ n := by
  induction xs with
  | nil => simp [toP.toPs, PyData.depthAll]
  | cons x xs ih =>
    have h1 := h x List.mem_cons_self
    have h2 := ih fun y hy => h y (List.mem_cons_of_mem _ hy)
    show max (PyData.depth (toP x)) (PyData.depthAll (toP.toPs xs)) ≤ n
    omega
theorem okE_t {xs : List D} {n : Nat} (h : ∀ x ∈ xs, PyData.canLay0 (toP x) = true ∧ PyData.depth (toP x) ≤ n) (hn : n ≤ 59) : PyData.canLay0 (toP (.tup xs)) = true ∧ PyData.depth (toP (.tup xs)) ≤ n + 1 := by
  refine ⟨?_, ?_⟩
  · show PyData.canLayAll0 (toP.toPs xs) = true
    exact lay_all fun x hx => (h x hx).1
  · show PyData.depth (.tuple (toP.toPs xs)) ≤ n + 1
    have := dep_all fun x hx => (h x hx).2
    simp [PyData.depth]; omega
theorem okE_l {o : Bool} {xs : List D} {n : Nat} (h : ∀ x ∈ xs, PyData.canLay0 (toP x) = true ∧ PyData.depth (toP x) ≤ n) (hn : n ≤ 59) : PyData.canLay0 (toP (.lst o xs)) = true ∧ PyData.depth (toP (.lst o xs)) ≤ n + 1 := by
  refine ⟨?_, ?_⟩
  · show PyData.canLayAll0 (toP.toPs xs) = true
    exact lay_all fun x hx => (h x hx).1
  · show PyData.depth (.list (toP.toPs xs)) ≤ n + 1
    have := dep_all fun x hx => (h x hx).2
    simp [PyData.depth]; omega
/-- of depth at most n -/
def okN (n : Nat) (d : D) : Prop := PyData.canLay0 (toP d) = true ∧ PyData.depth (toP d) ≤ n
theorem okN_i (i : Int) : okN 0 (.int i) := ⟨rfl, by show PyData.depth (.int i) ≤ 0; simp [PyData.depth]⟩
theorem okN_b (i : Bool) : okN 0 (.bl i) := ⟨rfl, by show PyData.depth (.bool i) ≤ 0; simp [PyData.depth]⟩
theorem okN_n : okN 0 .non := ⟨rfl, by show PyData.depth .none ≤ 0; simp [PyData.depth]⟩
theorem okN.up {n m : Nat} {d : D} (h : okN n d) (hm : n ≤ m) : okN m d := ⟨h.1, Nat.le_trans h.2 hm⟩
theorem okN_t {xs : List D} {n : Nat} (h : ∀ x ∈ xs, okN n x) (hn : n ≤ 59) : okN (n + 1) (.tup xs) := okE_t h hn
theorem okN_l {o : Bool} {xs : List D} {n : Nat} (h : ∀ x ∈ xs, okN n x) (hn : n ≤ 59) : okN (n + 1) (.lst o xs) := okE_l h hn
theorem okN_tI (xs : List Int) : okN 1 (tT D.int xs) := okN_t (fun x hx => by obtain ⟨i, _, rfl⟩ := List.mem_map.mp hx; exact okN_i i) (by decide)
theorem okN_tm {α : Type} {e : α → D} {n : Nat} {xs : List α} (h : ∀ a, okN n (e a)) (hn : n ≤ 59) : okN (n + 1) (tT e xs) := okN_t (fun x hx => by obtain ⟨i, _, rfl⟩ := List.mem_map.mp hx; exact h i) hn
theorem okN_lm {α : Type} {e : α → D} {n : Nat} {xs : List α} {o : Bool} (h : ∀ a, okN n (e a)) (hn : n ≤ 59) : okN (n + 1) (.lst o (xs.map e)) := okN_l (fun x hx => by obtain ⟨i, _, rfl⟩ := List.mem_map.mp hx; exact h i) hn
theorem okP_N {d : D} {n : Nat} (h : okN n d) (hn : n ≤ 60) : okP d = true := okP_E ⟨h.1, Nat.le_trans h.2 hn⟩
theorem eq_v {x y : D} (h1 : okP x = true) (h2 : okP y = true) : uP pEq [x, y] = .ok (.bl (PyData.eqv (toP x) (toP y))) := by
  have e : pEq [x, y] = some (.bl (PyData.eqv (toP x) (toP y))) := by
    show (if (okP x && okP y) = true then some (D.bl (PyData.eqv (toP x) (toP y))) else none) = _
    rw [h1, h2]; rfl
  unfold uP; rw [e]; rfl
/-- encodings that tell values apart -/
def Tells {α : Type} [DecidableEq α] (e : α → D) : Prop := ∀ a b, PyData.eqv (toP (e a)) (toP (e b)) = decide (a = b)
theorem tells_i : Tells D.int := fun a b => by
  show PyData.eqv (.int a) (.int b) = _
  simp [PyData.eqv]
  by_cases h : a = b <;> simp [h]
theorem eqvs_map {α : Type} [DecidableEq α] {e : α → D} (h : Tells e) : ∀ xs ys : List α, PyData.eqvAll (toP.toPs (xs.map e)) (toP.toPs (ys.map e)) = decide (xs = ys)
  | [], [] => by simp [toP.toPs, PyData.eqvAll]
  | [], _ :: _ => by simp [toP.toPs, PyData.eqvAll]
  | _ :: _, [] => by simp [toP.toPs, PyData.eqvAll]
  | a :: as, b :: bs => by
    show PyData.eqvAll (toP (e a) :: toP.toPs (as.map e)) (toP (e b) :: toP.toPs (bs.map e)) = _
    simp only [PyData.eqvAll, h a b, eqvs_map h as bs]
    by_cases h1 : a = b <;> by_cases h2 : as = bs <;> simp [h1, h2]
theorem tells_t {α : Type} [DecidableEq α] {e : α → D} (h : Tells e) : Tells (tT e) := fun a b => eqvs_map h a b
theorem tells_l {α : Type} [DecidableEq α] {e : α → D} (h : Tells e) : Tells (lT e) := fun a b => eqvs_map h a b
theorem eq_e {α : Type} [DecidableEq α] {e : α → D} (h : Tells e) {n : Nat} (hk : ∀ a, okN n (e a)) (hn : n ≤ 60) (a b : α) : uP pEq [e a, e b] = .ok (.bl (decide (a = b))) := by
  rw [eq_v (okP_N (hk a) hn) (okP_N (hk b) hn), h]
theorem ne_e {α : Type} [DecidableEq α] {e : α → D} (h : Tells e) {n : Nat} (hk : ∀ a, okN n (e a)) (hn : n ≤ 60) (a b : α) : uP pNe [e a, e b] = .ok (.bl (!decide (a = b))) := by
  rw [ne_v (okP_N (hk a) hn) (okP_N (hk b) hn), h]
/-- a list or tuple and the empty one -/
theorem eqv_nil (xs : List D) : PyData.eqvAll (toP.toPs xs) [] = decide (xs = []) := by cases xs <;> simp [toP.toPs, PyData.eqvAll]
theorem ne_nilL {o : Bool} {xs : List D} (h : okP (.lst o xs) = true) : uP pNe [.lst o xs, .lst false []] = .ok (.bl (!decide (xs = []))) := by
  rw [ne_v h rfl]
  show R.ok (D.bl (!PyData.eqvAll (toP.toPs xs) [])) = _
  rw [eqv_nil]
theorem eq_nilL {o : Bool} {xs : List D} (h : okP (.lst o xs) = true) : uP pEq [.lst o xs, .lst false []] = .ok (.bl (decide (xs = []))) := by
  rw [eq_v h rfl]
  show R.ok (D.bl (PyData.eqvAll (toP.toPs xs) [])) = _
  rw [eqv_nil]
/-- membership -/
theorem in_e {α : Type} [DecidableEq α] {e : α → D} (h : Tells e) {n : Nat} (hk : ∀ a, okN n (e a)) (hn : n ≤ 59) (neg : Bool) (x : α) (xs : List α) : uP (pInG neg) [e x, tT e xs] = .ok (.bl (if neg then !decide (x ∈ xs) else decide (x ∈ xs))) := by
  have hh : hasP (xs.map e) (e x) = decide (x ∈ xs) := by
    unfold hasP
    have hp : toP.toPs (xs.map e) = xs.map fun a => toP (e a) := by
      induction xs with
      | nil => rfl
      | cons y ys ih => show toP (e y) :: toP.toPs (ys.map e) = _; rw [ih]; rfl
    rw [hp, List.any_map]
    induction xs with
    | nil => rfl
    | cons y ys ih =>
      have hp2 : toP.toPs (ys.map e) = ys.map fun a => toP (e a) := by
        clear ih hp
        induction ys with
        | nil => rfl
        | cons y ys ih => show toP (e y) :: toP.toPs (ys.map e) = _; rw [ih]; rfl
      rw [List.any_cons, ih hp2]
      have hyx : PyData.eqv (toP (e y)) (toP (e x)) = decide (y = x) := h y x
      simp only [Function.comp, hyx, List.mem_cons]
      by_cases q : y = x
      · subst q; simp
      · have q' : ¬ x = y := fun z => q z.symm
        simp [q, q']
  have e1 : pInG neg [e x, tT e xs] = some (.bl (if neg then !decide (x ∈ xs) else decide (x ∈ xs))) := by
    show (if (okP (e x) && okP (.tup (xs.map e))) = true then some (D.bl (if neg then !hasP (xs.map e) (e x) else hasP (xs.map e) (e x))) else none) = _
    rw [okP_N (hk x) (by omega), okP_N (okN_tm hk hn) (by omega), hh]; rfl
  unfold uP; rw [e1]; rfl
theorem in_l {α : Type} [DecidableEq α] {e : α → D} (h : Tells e) {n : Nat} (hk : ∀ a, okN n (e a)) (hn : n ≤ 59) (neg : Bool) (x : α) (xs : List α) : uP (pInG neg) [e x, lT e xs] = .ok (.bl (if neg then !decide (x ∈ xs) else decide (x ∈ xs))) := by
  have h1 := in_e h hk hn neg x xs
  have e1 : pInG neg [e x, lT e xs] = pInG neg [e x, tT e xs] := by
    show (if (okP (e x) && okP (.lst false (xs.map e))) = true then some (D.bl (if neg then !hasP (xs.map e) (e x) else hasP (xs.map e) (e x))) else none) = (if (okP (e x) && okP (.tup (xs.map e))) = true then some (D.bl (if neg then !hasP (xs.map e) (e x) else hasP (xs.map e) (e x))) else none)
    rw [okP_N (okN_tm hk hn) (by omega), okP_N (okN_lm hk hn) (by omega)]
  unfold uP at h1 ⊢
  rw [e1]; exact h1
theorem ins_i (x : Int) : ∀ xs, insI x xs = insI x xs := fun _ => rfl
theorem sorted_i {o : Bool} {xs : List Int} (hl : xs.length < 64) : uP pSorted [.lst o (xs.map D.int)] = .ok (.lst false ((sortI xs).map D.int)) := by
  have e : pSorted [.lst o (xs.map D.int)] = some (.lst true ((sortI xs).map D.int)) := by
    show (match intsOf (xs.map D.int) with
      | some ns => if ns.length < 64 then some (D.lst true ((sortI ns).map .int)) else none
      | none => none) = _
    rw [show intsOf (xs.map D.int) = some xs from by have := intsOf_map (fun i => i) xs; simpa using this]
    dsimp only
    rw [if_pos hl]
  unfold uP; rw [e]
  show R.ok (D.lst false (frz.frzL _)) = _
  rw [frzL_cd]
/-! ### mixed -/
theorem erase_perm {α : Type} : ∀ {xs : List α} {i : Nat} (h : i < xs.length), (xs[i] :: xs.eraseIdx i).Perm xs
  | x :: xs, 0, _ => List.Perm.refl _
  | x :: xs, i + 1, h => by
    have hi : i < xs.length := by simpa using h
    have ih := erase_perm hi
    show (xs[i] :: x :: xs.eraseIdx i).Perm (x :: xs)
    exact (List.Perm.swap x xs[i] _).trans (List.Perm.cons x ih)
theorem perm_map {α β : Type} {e : α → β} {l l' : List β} (h : l.Perm l') : ∀ {xs : List α}, l' = xs.map e → ∃ ys : List α, l = ys.map e ∧ ys.Perm xs := by
  induction h with
  | nil => intro xs hx; exact ⟨[], rfl, by cases xs with | nil => exact .nil | cons _ _ => cases hx⟩
  | cons x h ih =>
    intro xs hx
    cases xs with
    | nil => cases hx
    | cons a as =>
      injection hx with h1 h2
      obtain ⟨ys, e1, e2⟩ := ih h2
      exact ⟨a :: ys, by rw [e1, h1]; rfl, .cons a e2⟩
  | swap x y l =>
    intro xs hx
    cases xs with
    | nil => cases hx
    | cons a as =>
      injection hx with h1 h2
      cases as with
      | nil => cases h2
      | cons b bs =>
        injection h2 with h2 h3
        exact ⟨b :: a :: bs, by rw [h1, h2, h3]; rfl, .swap a b bs⟩
  | trans h1 h2 ih1 ih2 =>
    intro xs hx
    obtain ⟨ys, e1, e2⟩ := ih2 hx
    obtain ⟨zs, e3, e4⟩ := ih1 e1
    exact ⟨zs, e3, e4.trans e2⟩
theorem pop_v {xs : List D} {v : Int} (h0 : 0 ≤ v) (h1 : v.toNat < xs.length) (hl : xs.length ≤ 1000) : uMut fPopU (.lst false xs) [.int v] = .ok (.lst false (xs.eraseIdx v.toNat), xs[v.toNat]) := by
  have e : fPopU xs [.int v] = some (xs.eraseIdx v.toNat, xs[v.toNat]) := by
    show (if -(2 ^ 63) ≤ v ∧ v < 2 ^ 63 then match ixN xs.length v with
      | some j => match xs[j]? with
        | some d => some (xs.eraseIdx j, d)
        | none => none
      | none => none
    else none) = _
    rw [if_pos (by omega)]
    have : ixN xs.length v = some v.toNat := by unfold ixN; rw [if_pos h0, if_pos (by omega)]
    rw [this]
    dsimp only
    rw [List.getElem?_eq_getElem h1]
  unfold uMut
  dsimp only
  rw [e]
theorem app_v {xs : List D} {x : D} (hl : xs.length ≤ 1000000) : uMut fAppendU (.lst false xs) [x] = .ok (.lst false (xs ++ [x]), .non) := by
  have e : fAppendU xs [x] = some (xs ++ [x], .non) := by
    show (if xs.length < LN then some (xs ++ [x], D.non) else none) = _
    rw [if_pos (by have : LN = 16777216 := rfl; omega)]
  unfold uMut
  dsimp only
  rw [e]
theorem mixed_loop {T : D × D × D → R Bool} {B : D × D × D → R (Step (D × D) (D × D × D))}
    (hT : T = fun v2 => (uP pNe [v2.2.1, (.lst false [])]).bind fun v5 => (uB v5).bind fun v6 => R.ok v6)
    (hB : B = fun v2 => (uL v2.2.2).bind fun _ => (uL v2.2.1).bind fun _ => (uP pLen [v2.2.1]).bind fun v7 => (U__law_take v2.1 v7).bind fun v8 => (uMut fPopU v2.2.1 [v8.1]).bind fun v9 => (uMut fAppendU v2.2.2 [v9.2]).bind fun v10 => R.ok (.next (v8.2, v9.1, v10.1))) :
    ∀ (n : Nat) (b : D) (left found : List D), left.length = n → Bag b → (∀ x ∈ left, okN 50 x) → left.length + found.length ≤ 1000 → ∃ b' fs, whileU T B (b, .lst false left, .lst false found) = .ok (.next (b', .lst false [], .lst false fs)) ∧ Bag b' ∧ fs.Perm (found ++ left)
  | 0, b, left, found, hn, hb, ho, hl => by
    have : left = [] := List.length_eq_zero_iff.mp hn
    subst this
    rw [whileU_eq, hT]
    refine ⟨b, found, ?_, hb, by simp⟩
    dsimp only
    rw [ne_nilL rfl]; rfl
  | n + 1, b, left, found, hn, hb, ho, hl => by
    have hne : left ≠ [] := fun h => by rw [h] at hn; cases hn
    obtain ⟨v, b1, v0, v1, hb1, ht⟩ := take_ok hb (many := left.length) (by omega) (by omega)
    have hv : v.toNat < left.length := by omega
    have step : T (b, .lst false left, .lst false found) = .ok true := by
      rw [hT]; dsimp only
      rw [ne_nilL (okP_N (okN_l ho (by decide)) (by decide))]
      simp [hne]
    have stepB : B (b, .lst false left, .lst false found) = .ok (.next (b1, .lst false (left.eraseIdx v.toNat), .lst false (found ++ [left[v.toNat]]))) := by
      rw [hB]; dsimp only
      simp only [uL_lst, R.bind_ok, e_lenl, ht, pop_v v0 hv (by omega), app_v (show found.length ≤ 1000000 by omega)]
    obtain ⟨b', fs, h1, h2, h3⟩ := mixed_loop hT hB n b1 (left.eraseIdx v.toNat) (found ++ [left[v.toNat]]) (by rw [List.length_eraseIdx, if_pos hv]; omega) hb1 (fun x hx => ho x (List.mem_of_mem_eraseIdx hx)) (by rw [List.length_eraseIdx, if_pos hv, List.length_append, List.length_singleton]; omega)
    rw [whileU_eq, step]
    simp only [R.bind_ok, if_true, stepB]
    refine ⟨b', fs, h1, h2, h3.trans ?_⟩
    rw [List.append_assoc]
    refine List.Perm.append_left found ?_
    exact erase_perm hv
theorem mixed_ok {b : D} {xs : List D} (hb : Bag b) (hc : frz.frzL xs = xs) (ho : ∀ x ∈ xs, okN 50 x) (hl : xs.length ≤ 1000) : ∃ b' fs, U__law_mixed b (.lst false xs) = .ok (.lst false fs, b') ∧ Bag b' ∧ fs.Perm xs := by
  obtain ⟨b', fs, h1, h2, h3⟩ := mixed_loop rfl rfl xs.length b xs [] rfl hb ho (by simpa using hl)
  refine ⟨b', fs, ?_, h2, by simpa using h3⟩
  unfold U__law_mixed
  simp only [e_list, hc, R.bind_ok, h1, jn_next]
theorem mixed_i {b : D} {xs : List Int} (hb : Bag b) (hl : xs.length ≤ 1000) : ∃ (b' : D) (fs : List Int), U__law_mixed b (.lst false (xs.map D.int)) = .ok (.lst false (fs.map D.int), b') ∧ Bag b' ∧ fs.Perm xs := by
  obtain ⟨b', fs, h1, h2, h3⟩ := mixed_ok hb (frzL_cd D.int xs) (fun x hx => by obtain ⟨i, _, rfl⟩ := List.mem_map.mp hx; exact (okN_i i).up (by decide)) (by rw [List.length_map]; exact hl)
  obtain ⟨ys, rfl, e2⟩ := perm_map h3 rfl
  exact ⟨b', ys, h1, h2, e2⟩
end U
end Y

end
section
set_option Elab.async false
set_option linter.all false
set_option maxRecDepth 100000
set_option maxHeartbeats 4000000
set_option autoImplicit false
/-! K29a: wears: the single defs. -/
namespace Y
namespace U
open PySem L2
abbrev tI (xs : List Int) : D := tT D.int xs
abbrev tL (xs : List (List Int)) : D := tT tI xs
def near (l : List Int) (c s : Int) : Bool := l.any fun o => decide (absI (c - o) ≤ s)
def passB (l : List Int) (c s w : Int) : List Bool := (rg 0 (w + 1)).map fun k => near l (c + k) s
def surely (L : List (List Int)) (r : List Int) (s w : Int) : Bool := (L.zip r).all fun p => (passB p.1 p.2 s w).all id
def perhaps (L : List (List Int)) (r : List Int) (s w : Int) : Bool := (L.zip r).all fun p => (passB p.1 p.2 s w).any id
def passes (L : List (List Int)) (r : List Int) (s : Int) : Bool := (r.zip L).all fun p => near p.2 p.1 s
theorem near_ok (l : List Int) (c s : Int) (hl : l.length ≤ 1000) : U_is_near_lot (tI l) (.int c) (.int s) = .ok (.bl (near l c s)) := by
  unfold U_is_near_lot
  simp [uCompT_some, show l.length ≤ 16777216 by omega, near]
theorem pass_ok (l : List Int) (c s w : Int) (hl : l.length ≤ 1000) (hw : 0 ≤ w) (hw2 : w ≤ 1000) : U_passing (tI l) (.int c) (.int s) (.int w) = .ok (lT D.bl (passB l c s w)) := by
  unfold U_passing
  have h1 := e_rng1 (j := w + 1) (by omega) (by omega)
  have h2 : (rg 0 (w + 1)).length ≤ 16777216 := by rw [rg_len]; omega
  simp [h1, near_ok _ _ _ hl, uCompT_some, h2, passB, Function.comp_def]
theorem passB_len (l : List Int) (c s w : Int) : (passB l c s w).length = (w + 1).toNat := by unfold passB; rw [List.length_map, rg_len]; simp
/-- lots and rows that are served -/
structure LR (L : List (List Int)) (r : List Int) : Prop where
  len : L.length = r.length
  few : r.length ≤ 1000
  lot : ∀ l ∈ L, l.length ≤ 1000
theorem LR.zip {L : List (List Int)} {r : List Int} (h : LR L r) : (L.zip r).length ≤ 16777216 := by rw [List.length_zip]; have := h.few; omega
theorem all_id {α : Type} (f : α → Bool) (xs : List α) : (xs.map f).all id = xs.all f := by rw [List.all_map]; rfl
theorem e_allB {o : Bool} (bs : List Bool) : uP pAll [.lst o (bs.map D.bl)] = .ok (.bl (bs.all id)) := e_all id bs
theorem e_anyB {o : Bool} (bs : List Bool) : uP pAny [.lst o (bs.map D.bl)] = .ok (.bl (bs.any id)) := e_any id bs
theorem surely_ok {L : List (List Int)} {r : List Int} {s w : Int} (h : LR L r) (hw : 0 ≤ w) (hw2 : w ≤ 1000) : U_surely_opens (tL L) (tI r) (.int s) (.int w) = .ok (.bl (surely L r s w)) := by
  unfold U_surely_opens
  have h1 : uCompT (fun p : List Int × Int => uUnp2 (.tup [tI p.1, .int p.2]) fun v4 v5 => (U_passing v4 v5 (.int s) (.int w)).bind fun v6 => (uP pAll [v6]).bind fun v7 => R.ok (some v7)) (L.zip r) = .ok (.lst false ((L.zip r).map fun p => D.bl ((passB p.1 p.2 s w).all id))) :=
    uCompT_of _ (fun p hp => by
      have := h.lot _ (List.of_mem_zip hp).1
      simp only [uUnp2, frz_t, frz_i, pass_ok _ _ _ _ this hw hw2, R.bind_ok, e_allB]) h.zip
  simp [h1, surely]
theorem perhaps_ok {L : List (List Int)} {r : List Int} {s w : Int} (h : LR L r) (hw : 0 ≤ w) (hw2 : w ≤ 1000) : U_perhaps_opens (tL L) (tI r) (.int s) (.int w) = .ok (.bl (perhaps L r s w)) := by
  unfold U_perhaps_opens
  have h1 : uCompT (fun p : List Int × Int => uUnp2 (.tup [tI p.1, .int p.2]) fun v4 v5 => (U_passing v4 v5 (.int s) (.int w)).bind fun v6 => (uP pAny [v6]).bind fun v7 => R.ok (some v7)) (L.zip r) = .ok (.lst false ((L.zip r).map fun p => D.bl ((passB p.1 p.2 s w).any id))) :=
    uCompT_of _ (fun p hp => by
      have := h.lot _ (List.of_mem_zip hp).1
      simp only [uUnp2, frz_t, frz_i, pass_ok _ _ _ _ this hw hw2, R.bind_ok, e_anyB]) h.zip
  simp [h1, perhaps]
theorem passes_ok {L : List (List Int)} {r : List Int} {s : Int} (h : LR L r) : U__law_passes (tL L) (tI r) (.int s) = .ok (.bl (passes L r s)) := by
  have inner : ∀ p ∈ r.zip L, (uUnp2 (.tup [.int p.1, tI p.2]) fun v4 v5 => (uIt it1 [v5]).bind fun v6 => (uComp (fun v7 => (uP pSub [v4, v7]).bind fun v9 => (uP pAbs [v9]).bind fun v10 => (uP pLe [v10, .int s]).bind fun v11 => (uB v11).bind fun v12 => if v12 then R.ok (some v7) else R.ok none) v6).bind fun v8 => (uP pEq [v8, (.lst false [])]).bind fun v13 => (uB v13).bind fun v14 => if v14 then R.ok (some (.int 1)) else R.ok none) = if (!near p.2 p.1 s) = true then R.ok (some (D.int 1)) else R.ok none := fun p hp => by
    have hl := h.lot _ (List.of_mem_zip hp).2
    have hk : okP (.lst false ((p.2.filter fun o => decide (absI (p.1 - o) ≤ s)).map D.int)) = true := okP_N (okN_lm okN_i (by decide)) (by decide)
    have h2 := eq_nilL hk
    have h3 := uCompT_iteB (fun o : Int => decide (absI (p.1 - o) ≤ s)) D.int p.2 (by omega)
    have h4 : ((p.2.filter fun o => decide (absI (p.1 - o) ≤ s)).map D.int = []) ↔ near p.2 p.1 s = false := by
      unfold near
      rw [List.map_eq_nil_iff, List.filter_eq_nil_iff, List.any_eq_false]
    simp only [uUnp2, frz_t, frz_i, e_it1t, R.bind_ok, frzL_cd, uComp_map, e_sub, e_abs, e_le, uB_bl, h3, h2, h4]
    cases near p.2 p.1 s <;> rfl
  have hz : (r.zip L).length ≤ 16777216 := by rw [List.length_zip]; have := h.few; omega
  have h2 := uCompT_ofIf (fun p : Int × List Int => !near p.2 p.1 s) (fun _ => D.int 1) inner hz
  have hk : okP (.lst false (((r.zip L).filter fun p => !near p.2 p.1 s).map fun _ => D.int 1)) = true := okP_N (okN_lm (fun _ => okN_i 1) (by decide)) (by decide)
  have h3 := eq_nilL hk
  have h4 : (((r.zip L).filter fun p => !near p.2 p.1 s).map (fun _ => D.int 1) = []) ↔ passes L r s = true := by
    unfold passes
    rw [List.map_eq_nil_iff, List.filter_eq_nil_iff, List.all_eq_true]
    simp
  unfold U__law_passes
  simp only [e_z2tt, frzL_cd, zip2_map, R.bind_ok, uComp_map, h2, h3, h4]
  cases passes L r s <;> rfl
end U
end Y

end
section
set_option Elab.async false
set_option linter.all false
set_option maxRecDepth 100000
set_option maxHeartbeats 4000000
set_option autoImplicit false
/-! K29b: worn rows, in order. -/
namespace Y
namespace U
open PySem L2
def W (w : Int) : List Int := rg 0 (w + 1)
def step1 (w c : Int) (one : List Int) : List (List Int) := (W w).map fun k => one ++ [c + k]
def worn : List Int → Int → List (List Int)
  | [], _ => [[]]
  | c :: cs, w => (W w).flatMap fun k => (worn cs w).map ((c + k) :: ·)
theorem W_len {w : Int} (h : 0 ≤ w) (h2 : w ≤ 9) : (W w).length ≤ 10 := by unfold W; rw [rg_len]; omega
theorem add_t (xs : List D) (x : D) (h : xs.length ≤ 1000000) : uP pAddN [.tup xs, .tup [x]] = .ok (.tup (xs ++ [x])) := by
  have e : pAddN [.tup xs, .tup [x]] = some (.tup (xs ++ [x])) := by
    show (if xs.length + 1 ≤ LN then some (D.tup (xs ++ [x])) else none) = _
    rw [if_pos (by have : LN = 16777216 := rfl; omega)]
  unfold uP; rw [e]; rfl
theorem foldl_app {α β : Type} (f : α → List β) : ∀ (xs : List α) (acc : List β), xs.foldl (fun a x => a ++ f x) acc = acc ++ xs.flatMap f
  | [], acc => by simp
  | x :: xs, acc => by rw [List.foldl_cons, foldl_app f xs]; simp [List.flatMap_cons]
theorem step_len {w : Int} (c : Int) (o : List Int) (h : 0 ≤ w) (h2 : w ≤ 9) : (step1 w c o).length ≤ 10 := by have := W_len h h2; simp only [step1, List.length_map]; exact this
theorem inner_ok (w c : Int) (hw : 0 ≤ w) (hw2 : w ≤ 9) (found : List (List Int)) (ho : ∀ o ∈ found, o.length ≤ 1000) (hl : found.length ≤ 1000) :
    foldU (fun v6 (v7 : D) => (uL v7).bind fun _ => (uP pAddN [.int w, (.int 1)]).bind fun v9 => (uRng1 v9).bind fun v10 => (uComp (fun v11 => (uP pAdd [.int c, v11]).bind fun v13 => (uP pAddN [v6, (.tup [v13])]).bind fun v14 => R.ok (some v14)) v10).bind fun v12 => (uMut fExtendU v7 [v12]).bind fun v15 => R.ok v15.1) (found.map tI) (.lst false []) =
      .ok (lT tI (found.flatMap (step1 w c))) := by
  have key := foldU_inv (B := fun v6 (v7 : D) => (uL v7).bind fun _ => (uP pAddN [.int w, (.int 1)]).bind fun v9 => (uRng1 v9).bind fun v10 => (uComp (fun v11 => (uP pAdd [.int c, v11]).bind fun v13 => (uP pAddN [v6, (.tup [v13])]).bind fun v14 => R.ok (some v14)) v10).bind fun v12 => (uMut fExtendU v7 [v12]).bind fun v15 => R.ok v15.1)
    (h := tI) (E := lT tI) (f := fun a o => a ++ step1 w c o) (J := fun ps acc => acc.length + ps.length * 10 ≤ 10000 ∧ ∀ o ∈ ps, o.length ≤ 1000) (ps := found) (s := []) ⟨by simp; omega, ho⟩ fun one ps acc ⟨hj1, hj2⟩ => by
      have h1 := e_rng1 (j := w + 1) (by omega) (by omega)
      have hlen := W_len hw hw2
      have ho1 := hj2 one List.mem_cons_self
      have hs := step_len c one hw hw2
      have h2 : uCompT (fun k : Int => (uP pAdd [.int c, .int k]).bind fun v13 => (uP pAddN [tI one, (.tup [v13])]).bind fun v14 => R.ok (some v14)) (rg 0 (w + 1)) = .ok (.lst false ((step1 w c one).map tI)) := by
        have := uCompT_of (ps := rg 0 (w + 1)) (B := fun k : Int => (uP pAdd [.int c, .int k]).bind fun v13 => (uP pAddN [tI one, (.tup [v13])]).bind fun v14 => R.ok (some v14)) (fun k => tI (one ++ [c + k])) (fun k _ => by
          simp only [e_add, R.bind_ok]
          rw [add_t _ _ (by rw [List.length_map]; omega)]
          simp [tI, tT, List.map_append]) (by unfold W at hlen; omega)
        rw [this]
        simp [step1, W, Function.comp_def]
      have h3 := ext_v (xs := acc.map tI) (es := (step1 w c one).map tI) (by simp only [List.length_map, List.length_cons] at *; omega)
      refine ⟨?_, by simp only [List.length_append, List.length_cons] at *; omega, fun o h => hj2 o (List.mem_cons_of_mem _ h)⟩
      simp only [lT, uL_lst, R.bind_ok, e_addN, h1, uComp_map, h2, h3]
      rw [← List.map_append]
  have e := key.1
  rw [foldl_app, List.nil_append] at e
  exact e
theorem fold_flat (w : Int) : ∀ (row : List Int) (found : List (List Int)), row.foldl (fun f c => f.flatMap (step1 w c)) found = found.flatMap fun one => (worn row w).map (one ++ ·)
  | [], found => by simp [worn]
  | c :: cs, found => by
    rw [List.foldl_cons, fold_flat w cs]
    rw [List.flatMap_assoc]
    congr 1
    funext one
    simp only [step1, worn, List.flatMap_map, List.map_flatMap, List.map_map]
    congr 1
    funext k
    apply List.map_congr_left
    intro r _
    simp
theorem flat_len {α β : Type} (f : α → List β) (h : ∀ x, (f x).length ≤ 10) : ∀ xs : List α, (xs.flatMap f).length ≤ xs.length * 10
  | [] => by simp
  | x :: xs => by have h1 := h x; have h2 := flat_len f h xs; rw [List.flatMap_cons, List.length_append, List.length_cons]; omega
theorem worn_ok {row : List Int} {w : Int} (hl : row.length ≤ 2) (hw : 0 ≤ w) (hw2 : w ≤ 9) : U__law_worn (tI row) (.int w) = .ok (lT tI (worn row w)) := by
  have e0 := fold_flat w row [[]]
  simp only [List.flatMap_cons, List.flatMap_nil, List.append_nil, List.nil_append, List.map_id'] at e0
  have key := foldU_inv (B := fun v2 (v3 : D) => (uIt it1 [v3]).bind fun v5 => (foldU (fun v6 (v7 : D) => (uL v7).bind fun _ => (uP pAddN [.int w, (.int 1)]).bind fun v9 => (uRng1 v9).bind fun v10 => (uComp (fun v11 => (uP pAdd [v2, v11]).bind fun v13 => (uP pAddN [v6, (.tup [v13])]).bind fun v14 => R.ok (some v14)) v10).bind fun v12 => (uMut fExtendU v7 [v12]).bind fun v15 => R.ok v15.1) v5 (.lst false [])).bind fun v8 => R.ok v8)
    (h := D.int) (E := lT tI) (f := fun f c => f.flatMap (step1 w c)) (J := fun ps found => found.length * 10 ^ ps.length ≤ 1000 ∧ ∀ o ∈ found, o.length + ps.length ≤ 10) (ps := row) (s := [[]]) ⟨by
      have : 10 ^ row.length ≤ 10 ^ 2 := Nat.pow_le_pow_right (by decide) hl
      simp; omega, fun o ho => by simp at ho; subst ho; simp; omega⟩ fun c ps found ⟨hj1, hj2⟩ => by
    have hfl : found.length ≤ 1000 := by
      have : 1 ≤ 10 ^ (c :: ps).length := Nat.one_le_pow _ _ (by decide)
      exact Nat.le_trans (Nat.le_mul_of_pos_right _ this) hj1
    have h1 := inner_ok w c hw hw2 found (fun o ho => by have := hj2 o ho; omega) hfl
    refine ⟨?_, ?_, fun o ho => ?_⟩
    · simp only [lT, e_it1l, R.bind_ok, frzL_cd, h1]
    · have : (found.flatMap (step1 w c)).length ≤ found.length * 10 := flat_len _ (fun x => step_len c x hw hw2) found
      rw [List.length_cons, Nat.pow_succ] at hj1
      calc (found.flatMap (step1 w c)).length * 10 ^ ps.length ≤ (found.length * 10) * 10 ^ ps.length := Nat.mul_le_mul_right _ this
        _ = found.length * (10 ^ ps.length * 10) := by rw [Nat.mul_assoc, Nat.mul_comm 10]
        _ ≤ 1000 := hj1
    · obtain ⟨o', ho', hm⟩ := List.mem_flatMap.mp ho
      simp only [step1, List.mem_map] at hm
      obtain ⟨k, _, rfl⟩ := hm
      have := hj2 o' ho'
      rw [List.length_append, List.length_singleton]
      rw [List.length_cons] at this
      omega
  have e := key.1
  rw [e0] at e
  have e1 : uIt it1 [tI row] = .ok (row.map D.int) := by rw [tI, tT, e_it1t, frzL_cd]
  unfold U__law_worn
  rw [e1]
  show (foldU _ (row.map D.int) (lT tI [[]])).bind _ = _
  rw [e]; rfl
end U
end Y

end
section
set_option Elab.async false
set_option linter.all false
set_option maxRecDepth 100000
set_option maxHeartbeats 4000000
set_option autoImplicit false
/-! K29c: the first worn row that does not open, that opens. -/
namespace Y
namespace U
open PySem L2
theorem W_cons {w : Int} (h : 0 ≤ w) : ∃ t, W w = 0 :: t := by
  unfold W rg
  have : (w + 1 - 0).toNat = ((w + 1 - 0).toNat - 1) + 1 := by omega
  rw [this, List.range_succ_eq_map]
  exact ⟨_, rfl⟩
theorem mem_W {w k : Int} : k ∈ W w ↔ 0 ≤ k ∧ k ≤ w := by unfold W; rw [mem_rg]; omega
theorem worn_head {w : Int} (h : 0 ≤ w) : ∀ r : List Int, ∃ t, worn r w = r :: t
  | [] => ⟨[], rfl⟩
  | c :: cs => by
    obtain ⟨t, ht⟩ := worn_head h cs
    obtain ⟨u, hu⟩ := W_cons h
    refine ⟨t.map ((c + 0) :: ·) ++ u.flatMap fun k => (worn cs w).map ((c + k) :: ·), ?_⟩
    show (W w).flatMap _ = _
    rw [hu, List.flatMap_cons, ht]
    simp
theorem passes_c (l : List Int) (L : List (List Int)) (c : Int) (r : List Int) (s : Int) : passes (l :: L) (c :: r) s = (near l c s && passes L r s) := rfl
theorem surely_c (l : List Int) (L : List (List Int)) (c : Int) (r : List Int) (s w : Int) : surely (l :: L) (c :: r) s w = ((W w).all (fun k => near l (c + k) s) && surely L r s w) := by
  show ((passB l c s w).all id && _) = _
  unfold passB
  rw [List.all_map]; rfl
theorem perhaps_c (l : List Int) (L : List (List Int)) (c : Int) (r : List Int) (s w : Int) : perhaps (l :: L) (c :: r) s w = ((W w).any (fun k => near l (c + k) s) && perhaps L r s w) := by
  show ((passB l c s w).any id && _) = _
  unfold passB
  rw [List.any_map]; rfl
theorem all_and {α : Type} (a : Bool) (p : α → Bool) {xs : List α} (h : xs ≠ []) : xs.all (fun x => a && p x) = (a && xs.all p) := by
  cases a with
  | true => simp
  | false => cases xs with
    | nil => exact absurd rfl h
    | cons x xs => simp
theorem any_and {α : Type} (a : Bool) (p : α → Bool) (xs : List α) : xs.any (fun x => a && p x) = (a && xs.any p) := by
  cases a <;> simp
theorem worn_ne {w : Int} (h : 0 ≤ w) (r : List Int) : worn r w ≠ [] := by obtain ⟨t, e⟩ := worn_head h r; rw [e]; simp
theorem all_worn {s w : Int} (h : 0 ≤ w) : ∀ {L : List (List Int)} {r : List Int}, L.length = r.length → (worn r w).all (fun x => passes L x s) = surely L r s w
  | [], [], _ => rfl
  | l :: L, c :: r, hl => by
    have ih := all_worn h (L := L) (r := r) (s := s) (by simpa using hl)
    rw [surely_c, ← ih]
    show ((W w).flatMap fun k => (worn r w).map ((c + k) :: ·)).all _ = _
    rw [List.all_flatMap]
    have : ((W w).all fun k => ((worn r w).map ((c + k) :: ·)).all fun x => passes (l :: L) x s) = (W w).all fun k => (near l (c + k) s && (worn r w).all fun x => passes L x s) := by
      congr 1
      funext k
      rw [List.all_map]
      simp only [Function.comp_def, passes_c]
      exact all_and _ _ (worn_ne h r)
    rw [this]
    obtain ⟨u, hu⟩ := W_cons h
    generalize ((worn r w).all fun x => passes L x s) = b
    cases b <;> simp [hu]
  | [], _ :: _, hl => nomatch hl
  | _ :: _, [], hl => nomatch hl
theorem any_worn {s w : Int} (h : 0 ≤ w) : ∀ {L : List (List Int)} {r : List Int}, L.length = r.length → (worn r w).any (fun x => passes L x s) = perhaps L r s w
  | [], [], _ => rfl
  | l :: L, c :: r, hl => by
    have ih := any_worn h (L := L) (r := r) (s := s) (by simpa using hl)
    rw [perhaps_c, ← ih]
    show ((W w).flatMap fun k => (worn r w).map ((c + k) :: ·)).any _ = _
    rw [List.any_flatMap]
    have : ((W w).any fun k => ((worn r w).map ((c + k) :: ·)).any fun x => passes (l :: L) x s) = (W w).any fun k => (near l (c + k) s && (worn r w).any fun x => passes L x s) := by
      congr 1
      funext k
      rw [List.any_map]
      simp only [Function.comp_def, passes_c]
      exact any_and _ _ _
    rw [this]
    generalize ((worn r w).any fun x => passes L x s) = b
    cases b <;> simp
  | [], _ :: _, hl => nomatch hl
  | _ :: _, [], hl => nomatch hl
/-- the first worn row that does not open -/
def FF (L : List (List Int)) (r : List Int) (s w : Int) : Option (List Int) := (worn r w).find? fun x => !passes L x s
def PP (L : List (List Int)) (r : List Int) (s w : Int) : Option (List Int) := (worn r w).find? fun x => passes L x s
theorem FF_c {l : List Int} {L : List (List Int)} {c : Int} {r : List Int} {s w : Int} (h : 0 ≤ w) : FF (l :: L) (c :: r) s w = (W w).findSome? fun k => (if near l (c + k) s then FF L r s w else some r).map ((c + k) :: ·) := by
  unfold FF
  show ((W w).flatMap fun k => (worn r w).map ((c + k) :: ·)).find? _ = _
  rw [List.find?_flatMap]
  congr 1
  funext k
  rw [List.find?_map]
  congr 1
  obtain ⟨t, ht⟩ := worn_head h r
  cases q : near l (c + k) s with
  | true => simp [Function.comp_def, passes_c, q]
  | false => simp [Function.comp_def, passes_c, q, ht]
theorem PP_c {l : List Int} {L : List (List Int)} {c : Int} {r : List Int} {s w : Int} : PP (l :: L) (c :: r) s w = (W w).findSome? fun k => (if near l (c + k) s then PP L r s w else none).map ((c + k) :: ·) := by
  unfold PP
  show ((W w).flatMap fun k => (worn r w).map ((c + k) :: ·)).find? _ = _
  rw [List.find?_flatMap]
  congr 1
  funext k
  rw [List.find?_map]
  congr 1
  cases q : near l (c + k) s with
  | true => simp [Function.comp_def, passes_c, q]
  | false => simp [Function.comp_def, passes_c, q]
theorem FF_none {s w : Int} (h : 0 ≤ w) {L : List (List Int)} {r : List Int} (hl : L.length = r.length) : FF L r s w = none ↔ surely L r s w = true := by
  unfold FF
  rw [List.find?_eq_none, ← all_worn h hl, List.all_eq_true]
  simp
theorem PP_none {s w : Int} (h : 0 ≤ w) {L : List (List Int)} {r : List Int} (hl : L.length = r.length) : PP L r s w = none ↔ perhaps L r s w = false := by
  unfold PP
  rw [List.find?_eq_none, ← any_worn h hl, List.any_eq_false]
/-- some first depth does not pass: the row itself -/
theorem FF_head {s w : Int} (h : 0 ≤ w) : ∀ {L : List (List Int)} {r : List Int}, L.length = r.length → passes L r s = false → FF L r s w = some r := fun {L r} hl hp => by
  obtain ⟨t, ht⟩ := worn_head h r
  unfold FF
  rw [ht, List.find?_cons, hp]; rfl
/-- otherwise: at the last chamber that may fail, its first depth that does -/
theorem FF_last {s w : Int} (h : 0 ≤ w) : ∀ {L : List (List Int)} {r : List Int} {j : Nat} {l : List Int} {c m : Int}, L.length = r.length → passes L r s = true → L[j]? = some l → r[j]? = some c → (W w).find? (fun k => !near l (c + k) s) = some m → surely (L.drop (j + 1)) (r.drop (j + 1)) s w = true →
    FF L r s w = some (r.take j ++ (c + m) :: r.drop (j + 1))
  | l' :: L, c' :: r, 0, l, c, m, hl, hp, e1, e2, e3, e4 => by
    cases e1; cases e2
    rw [FF_c h]
    have : FF L r s w = none := (FF_none h (by simpa using hl)).mpr e4
    rw [this]
    have e5 : (fun k => (if near l' (c' + k) s = true then (none : Option (List Int)) else some r).map ((c' + k) :: ·)) = fun k => if (!near l' (c' + k) s) = true then some ((c' + k) :: r) else none := by
      funext k
      cases near l' (c' + k) s <;> rfl
    rw [e5]
    have e6 : ∀ ks : List Int, (ks.findSome? fun k => if (!near l' (c' + k) s) = true then some ((c' + k) :: r) else none) = (ks.find? fun k => !near l' (c' + k) s).map fun k => (c' + k) :: r := fun ks => by
      induction ks with
      | nil => rfl
      | cons k ks ih =>
        rw [List.findSome?_cons, List.find?_cons]
        cases near l' (c' + k) s with
        | true => simpa using ih
        | false => rfl
    rw [e6, e3]; rfl
  | l' :: L, c' :: r, j + 1, l, c, m, hl, hp, e1, e2, e3, e4 => by
    rw [passes_c, Bool.and_eq_true] at hp
    have ih := FF_last h (L := L) (r := r) (j := j) (by simpa using hl) hp.2 (by simpa using e1) (by simpa using e2) e3 e4
    rw [FF_c h, ih]
    obtain ⟨t, ht⟩ := W_cons h
    rw [ht, List.findSome?_cons]
    have : near l' (c' + 0) s = true := by rw [Int.add_zero]; exact hp.1
    rw [this]
    simp
  | [], [], j, _, _, _, _, _, e1, _, _, _ => by simp at e1
  | [], _ :: _, _, _, _, _, hl, _, _, _, _, _ => nomatch hl
  | _ :: _, [], _, _, _, _, hl, _, _, _, _, _ => nomatch hl
/-- the first row that opens: each cut the first that does -/
theorem PP_some {s w : Int} : ∀ {L : List (List Int)} {r ms : List Int}, All2 (fun p m => (W w).find? (fun k => near p.1 (p.2 + k) s) = some m) (L.zip r) ms → L.length = r.length → PP L r s w = some ((r.zip ms).map fun p => p.1 + p.2)
  | [], [], _, .nil, _ => rfl
  | l :: L, c :: r, m :: ms, .cons e1 e2, hl => by
    have ih := PP_some e2 (by simpa using hl)
    rw [PP_c, ih]
    have e6 : ∀ (z : List Int) (ks : List Int), (ks.findSome? fun k => (if near l (c + k) s = true then some z else none).map ((c + k) :: ·)) = (ks.find? fun k => near l (c + k) s).map fun k => (c + k) :: z := fun z ks => by
      induction ks with
      | nil => rfl
      | cons k ks ih =>
        rw [List.findSome?_cons, List.find?_cons]
        cases near l (c + k) s with
        | false => simpa using ih
        | true => rfl
    rw [e6]
    have e1 : (W w).find? (fun k => near l (c + k) s) = some m := e1
    rw [e1]; rfl
  | [], _ :: _, _, _, hl => nomatch hl
  | _ :: _, [], _, _, hl => nomatch hl
/-- more wear: less surely, more perhaps -/
theorem surely_mono {s w w' : Int} (h : w ≤ w') : ∀ {L : List (List Int)} {r : List Int}, surely L r s w' = true → surely L r s w = true
  | [], _, _ => rfl
  | _ :: _, [], _ => rfl
  | l :: L, c :: r, e => by
    rw [surely_c, Bool.and_eq_true, List.all_eq_true] at e ⊢
    exact ⟨fun k hk => e.1 k (by rw [mem_W] at hk ⊢; omega), surely_mono h e.2⟩
theorem perhaps_mono {s w w' : Int} (h : w ≤ w') : ∀ {L : List (List Int)} {r : List Int}, perhaps L r s w = true → perhaps L r s w' = true
  | [], _, _ => rfl
  | _ :: _, [], _ => rfl
  | l :: L, c :: r, e => by
    rw [perhaps_c, Bool.and_eq_true, List.any_eq_true] at e ⊢
    obtain ⟨⟨k, hk, e1⟩, e2⟩ := e
    exact ⟨⟨k, by rw [mem_W] at hk ⊢; omega, e1⟩, perhaps_mono h e2⟩
end U
end Y

end
section
set_option Elab.async false
set_option linter.all false
set_option maxRecDepth 100000
set_option maxHeartbeats 4000000
set_option autoImplicit false
/-! K29d: the worn row, the opened row, couples. -/
namespace Y
namespace U
open PySem L2
theorem cut_take (xs : List D) (j : Nat) : cutD xs none (some (j : Int)) = xs.take j := by
  unfold cutD
  rw [HT.sIx_none, HT.sIx_nat, List.drop_zero, Nat.sub_zero]
  rcases Nat.le_total j xs.length with h | h
  · rw [Nat.min_eq_left h]
  · rw [Nat.min_eq_right h, List.take_length, List.take_of_length_le h]
theorem cut_drop (xs : List D) (j : Nat) : cutD xs (some (j : Int)) none = xs.drop j := by
  unfold cutD
  rw [HT.sIx_none, HT.sIx_nat]
  rcases Nat.le_total j xs.length with h | h
  · rw [Nat.min_eq_left h, List.take_of_length_le (by rw [List.length_drop]; omega)]
  · rw [Nat.min_eq_right h, Nat.sub_self, List.take_zero, List.drop_of_length_le h]
theorem sl_take {α : Type} (e : α → D) [Cd e] (xs : List α) (j : Nat) : uP (pSl none (some (j : Int))) [tT e xs] = .ok (tT e (xs.take j)) := by
  show R.ok (D.tup (cutD (xs.map e) none (some (j : Int)))) = _
  rw [cut_take, ← List.map_take]
theorem sl_drop {α : Type} (e : α → D) [Cd e] (xs : List α) (j : Nat) : uP (pSl (some (j : Int)) none) [tT e xs] = .ok (tT e (xs.drop j)) := by
  show R.ok (D.tup (cutD (xs.map e) (some (j : Int)) none)) = _
  rw [cut_drop, ← List.map_drop]
theorem last_split {α : Type} (p : α → Bool) : ∀ {xs : List α}, (∃ x ∈ xs, p x = true) → ∃ a x b, xs = a ++ x :: b ∧ p x = true ∧ ∀ y ∈ b, p y = false
  | [], h => by obtain ⟨x, h, _⟩ := h; cases h
  | x :: xs, h => by
    by_cases q : ∃ y ∈ xs, p y = true
    · obtain ⟨a, y, b, e, h1, h2⟩ := last_split p q
      exact ⟨x :: a, y, b, by rw [e]; rfl, h1, h2⟩
    · obtain ⟨y, hy, h1⟩ := h
      rcases List.mem_cons.mp hy with rfl | hy
      · exact ⟨[], y, xs, rfl, h1, fun z hz => by
          cases h3 : p z with
          | false => rfl
          | true => exact absurd ⟨z, hz, h3⟩ q⟩
      · exact absurd ⟨y, hy, h1⟩ q
theorem ix_last (xs : List D) (z : D) : uP pIx [.lst false (xs ++ [z]), .int (-1)] = .ok (frz z) := by
  have e : pIx [.lst false (xs ++ [z]), .int (-1)] = some (frz z) := by
    show atI (frz.frzL (xs ++ [z])) (-1) = _
    unfold atI ixN
    rw [if_neg (by decide), frzL_len, if_pos (by rw [List.length_append, List.length_singleton]; omega), frzL_app]
    show (frz.frzL xs ++ [frz z])[((-1 : Int) + ((xs ++ [z]).length : Nat)).toNat]? = _
    have : ((-1 : Int) + ((xs ++ [z]).length : Nat)).toNat = (frz.frzL xs).length := by rw [frzL_len, List.length_append, List.length_singleton]; omega
    rw [this]; simp
  unfold uP; rw [e]; show R.ok (frz (frz z)) = _; rw [frz2]
theorem zip_swap (L : List (List Int)) (r : List Int) (s : Int) : passes L r s = (L.zip r).all fun p => near p.1 p.2 s := by
  unfold passes
  induction r generalizing L with
  | nil => cases L <;> rfl
  | cons c r ih => cases L with
    | nil => rfl
    | cons l L => simp only [List.zip_cons_cons, List.all_cons, ih]
theorem index_b (bs : List Bool) (b : Bool) (i : Nat) (h : bs.findIdx? (fun x => x == b) = some i) : uP pIndex [lT D.bl bs, .bl b] = .ok (.int i) := by
  have e : pIndex [lT D.bl bs, .bl b] = some (.int i) := by
    show (if (okP (.bl b) && okP (.lst false (bs.map D.bl))) = true then ((toP.toPs (bs.map D.bl)).findIdx? fun z => PyData.eqv z (toP (.bl b))).map fun (j : Nat) => D.int j else none) = _
    rw [okP_N (okN_lm okN_b (by decide)) (by decide), okP_N (okN_b b) (by decide)]
    have hp : toP.toPs (bs.map D.bl) = bs.map fun a => PyData.bool a := by
      clear h
      induction bs with
      | nil => rfl
      | cons y ys ih => show PyData.bool y :: toP.toPs (ys.map D.bl) = _; rw [ih]; rfl
    rw [hp, List.findIdx?_map]
    have hf : ((fun z => PyData.eqv z (toP (.bl b))) ∘ fun a => PyData.bool a) = fun x => x == b := by
      funext x
      cases x <;> cases b <;> rfl
    rw [hf, h]; rfl
  unfold uP; rw [e]; rfl
theorem rg_get {lo hi x : Int} {i : Nat} (h : (rg lo hi)[i]? = some x) : x = lo + (i : Nat) := by
  unfold rg at h
  rw [List.getElem?_map] at h
  cases q : (List.range (hi - lo).toNat)[i]? with
  | none => rw [q] at h; cases h
  | some k =>
    rw [q] at h
    have := (List.getElem?_eq_some_iff.mp q)
    obtain ⟨h1, h2⟩ := this
    rw [List.getElem_range] at h2
    subst h2
    cases h; rfl
theorem drop_zip' {α β : Type} : ∀ (n : Nat) (xs : List α) (ys : List β), (xs.zip ys).drop n = (xs.drop n).zip (ys.drop n)
  | 0, _, _ => rfl
  | n + 1, [], ys => by simp
  | n + 1, _ :: _, [] => by simp
  | n + 1, x :: xs, y :: ys => by simp only [List.zip_cons_cons, List.drop_succ_cons]; exact drop_zip' n xs ys
/-- the first depth with a property is its own index -/
theorem find_W (q : Int → Bool) {w : Int} {i : Nat} (h : ((W w).map q).findIdx? (fun x => x == true) = some i) : (W w).find? q = some (i : Int) := by
  rw [List.findIdx?_map] at h
  obtain ⟨hl, h1, h2⟩ := List.findIdx?_eq_some_iff_getElem.mp h
  have e : (W w)[i] = (i : Int) := by
    have := rg_get (lo := 0) (hi := w + 1) (i := i) (x := (W w)[i]) (List.getElem?_eq_getElem hl)
    omega
  rw [List.find?_eq_some_iff_getElem]
  simp only [Function.comp, e] at h1
  refine ⟨by simpa using h1, i, hl, e, fun j hj => ?_⟩
  have := h2 j hj
  simpa [Function.comp] using this
theorem uParts_t {α : Type} (e : α → D) [Cd e] (xs : List α) : uParts (tT e xs) = .ok (xs.map e) := by show R.ok (frz.frzL (xs.map e)) = _; rw [frzL_cd]
theorem worn_row_ok {L : List (List Int)} {r : List Int} {s w : Int} (h : LR L r) (hw : 0 ≤ w) (hw2 : w ≤ 1000) : U_worn_row (tL L) (tI r) (.int s) (.int w) = .ok (oD tI (FF L r s w)) := by
  have hs := surely_ok (s := s) h hw hw2
  cases q : surely L r s w with
  | true =>
    have hn : FF L r s w = none := (FF_none hw h.len).mpr q
    unfold U_worn_row
    rw [hs, q, hn]; rfl
  | false =>
    have t1 : uCompT (fun p : List Int × Int => uUnp2 (.tup [tI p.1, .int p.2]) fun v6 v7 => (U_passing v6 v7 (.int s) (.int w)).bind fun v8 => R.ok (some v8)) (L.zip r) = .ok (.lst false ((L.zip r).map fun p => lT D.bl (passB p.1 p.2 s w))) :=
      uCompT_of _ (fun p hp => by
        have := h.lot _ (List.of_mem_zip hp).1
        simp only [uUnp2, frz_t, frz_i, pass_ok _ _ _ _ this hw hw2, R.bind_ok]) h.zip
    have t2 : uCompT (fun p : List Int × Int => (uP pIx [lT D.bl (passB p.1 p.2 s w), .int 0]).bind fun v12 => R.ok (some v12)) (L.zip r) = .ok (.lst false ((L.zip r).map fun p => D.bl (near p.1 p.2 s))) :=
      uCompT_of _ (fun p hp => by
        obtain ⟨t, ht⟩ := W_cons hw
        have e1 : passB p.1 p.2 s w = near p.1 p.2 s :: t.map fun k => near p.1 (p.2 + k) s := by
          show (W w).map _ = _
          rw [ht, List.map_cons, Int.add_zero]
        rw [e1]
        rw [ix_l (x := .bl (near p.1 p.2 s)) (by decide) rfl]; rfl) h.zip
    have hall : (L.zip r).all (fun p => near p.1 p.2 s) = passes L r s := (zip_swap L r s).symm
    cases q2 : passes L r s with
    | false =>
      rw [FF_head hw h.len q2]
      unfold U_worn_row
      simp [hs, q, t1, t2, hall, q2, oD]
    | true =>
      have hex : ∃ p ∈ L.zip r, (!(passB p.1 p.2 s w).all id) = true := by
        unfold surely at q
        rw [List.all_eq_false] at q
        obtain ⟨p, hp, h1⟩ := q
        exact ⟨p, hp, by simpa using h1⟩
      obtain ⟨a, x, b, e1, e2, e3⟩ := last_split _ hex
      have hlen : (L.zip r).length = r.length := by rw [List.length_zip, h.len]; omega
      have hj : a.length < r.length := by rw [← hlen, e1]; simp
      have hx : (L.zip r)[a.length]? = some x := by rw [e1]; simp
      have hL : L[a.length]? = some x.1 ∧ r[a.length]? = some x.2 := by
        rw [List.getElem?_zip_eq_some] at hx; exact hx
      have hsur : surely (L.drop (a.length + 1)) (r.drop (a.length + 1)) s w = true := by
        unfold surely
        rw [← drop_zip', e1]
        rw [List.all_eq_true]
        intro y hy
        have hy : y ∈ b := by
          have : (a ++ x :: b).drop (a.length + 1) = b := by rw [List.drop_append]; simp
          rwa [this] at hy
        have := e3 y hy
        simpa using this
      -- its first depth that does not pass
      have hne : ∃ i, (passB x.1 x.2 s w).findIdx? (fun z => z == false) = some i := by
        have : ((passB x.1 x.2 s w).findIdx? (fun z => z == false)).isSome = true := by
          rw [List.findIdx?_isSome]
          rw [List.any_eq_true]
          have e2 : (passB x.1 x.2 s w).all id = false := by simpa using e2
          rw [List.all_eq_false] at e2
          obtain ⟨z, hz, h1⟩ := e2
          exact ⟨z, hz, by cases z with | true => exact absurd rfl h1 | false => rfl⟩
        exact Option.isSome_iff_exists.mp this
      obtain ⟨i, hi⟩ := hne
      have hfw : (W w).find? (fun k => !near x.1 (x.2 + k) s) = some (i : Int) := by
        refine find_W _ ?_
        have : ((W w).map fun k => !near x.1 (x.2 + k) s) = (passB x.1 x.2 s w).map (!·) := by unfold passB; rw [List.map_map]; rfl
        rw [this, List.findIdx?_map]
        rw [← hi]
        congr 1
        funext z; cases z <;> rfl
      rw [FF_last hw h.len q2 hL.1 hL.2 hfw hsur]
      have t3 : uCompT (fun p : (List Int × Int) × Nat => uUnp2 (.tup [.int (p.2 : Nat), lT D.bl (passB p.1.1 p.1.2 s w)]) fun v18 v19 => (uP pAll [v19]).bind fun v20 => (uB v20).bind fun v21 => if (!v21) then R.ok (some v18) else R.ok none) (L.zip r).zipIdx =
          .ok (.lst false ((a.zipIdx.filter fun p => !(passB p.1.1 p.1.2 s w).all id).map (fun p => D.int (p.2 : Nat)) ++ [.int (a.length : Nat)])) := by
        have := uCompT_ofIf (B := fun p : (List Int × Int) × Nat => uUnp2 (.tup [.int (p.2 : Nat), lT D.bl (passB p.1.1 p.1.2 s w)]) fun v18 v19 => (uP pAll [v19]).bind fun v20 => (uB v20).bind fun v21 => if (!v21) then R.ok (some v18) else R.ok none) (ps := (L.zip r).zipIdx) (fun p => !(passB p.1.1 p.1.2 s w).all id) (fun p => D.int (p.2 : Nat)) (fun p _ => by
          simp only [uUnp2, frz_i, frz_l, frzL_cd, e_allB, R.bind_ok, uB_bl]) (by rw [List.length_zipIdx]; exact h.zip)
        rw [this, e1, List.zipIdx_append, List.filter_append, List.zipIdx_cons, List.filter_cons]
        have hb : (b.zipIdx (0 + a.length + 1)).filter (fun p => !(passB p.1.1 p.1.2 s w).all id) = [] := by
          rw [List.filter_eq_nil_iff]
          intro p hp
          have := e3 p.1 (List.fst_mem_of_mem_zipIdx hp)
          simpa using this
        rw [hb]
        simp only [e2, if_true, List.map_append, List.map_cons, List.map_nil, Nat.zero_add]
      have hr : ((r.map D.int)[((a.length : Nat) : Int).toNat]?) = some (.int x.2) := by rw [Int.toNat_natCast, List.getElem?_map, hL.2]; rfl
      have ht : (((L.zip r).map fun p => lT D.bl (passB p.1 p.2 s w))[((a.length : Nat) : Int).toNat]?) = some (lT D.bl (passB x.1 x.2 s w)) := by rw [Int.toNat_natCast, List.getElem?_map, hx]; rfl
      have k1 := ix_t (xs := r.map D.int) (by omega) hr
      have k2 := ix_l (o := false) (by omega) ht
      have k3 := index_b _ _ _ hi
      have k4 := sl_take D.int r a.length
      have k5 : uP (pSl (some ((a.length : Int) + 1)) none) [tI r] = .ok (tI (r.drop (a.length + 1))) := by
        have := sl_drop D.int r (a.length + 1)
        rw [show ((a.length + 1 : Nat) : Int) = (a.length : Int) + 1 by omega] at this
        exact this
      have k6 : ((r.take a.length).map D.int ++ (D.int (x.2 + i) :: ((r.drop (a.length + 1)).map D.int ++ []))).length ≤ 16777216 := by
        simp only [List.length_append, List.length_map, List.length_cons, List.length_nil, List.length_take, List.length_drop]
        have := h.few; omega
      have k7 := uTup_ok k6
      unfold U_worn_row
      simp only [hs, q, R.bind_ok, uB_bl, Bool.false_eq_true, if_false, e_z2tt, frzL_cd, zip2_map, uComp_map, t1, e_it1l, t2, e_all, hall, q2, Bool.not_true, e_enl, enum_map, t3, e_neg, ix_last, frz_i, uI_int, k1, k2, uL_lst, k4, uParts_t, frz_l, k3, e_addN, k5, k7]
      simp only [oD, tI, tT, List.append_nil, List.map_append, List.map_cons]
end U
end Y

end
section
set_option Elab.async false
set_option linter.all false
set_option maxRecDepth 100000
set_option maxHeartbeats 4000000
set_option autoImplicit false
/-! K29e: couples, the first at fault, the greatest wear. -/
namespace Y
namespace U
open PySem L2
def fi (s w : Int) (p : List Int × Int) : Int := (((passB p.1 p.2 s w).findIdx? fun z => z == true).getD 0 : Nat)
theorem opened_ok {L : List (List Int)} {r : List Int} {s w : Int} (h : LR L r) (hw : 0 ≤ w) (hw2 : w ≤ 1000) (hp : perhaps L r s w = true) : ∃ z, PP L r s w = some z ∧ U_opened_row (tL L) (tI r) (.int s) (.int w) = .ok (tI z) := by
  have hi : ∀ p ∈ L.zip r, ∃ i, (passB p.1 p.2 s w).findIdx? (fun z => z == true) = some i := fun p hpm => by
    unfold perhaps at hp
    rw [List.all_eq_true] at hp
    have h1 := hp p hpm
    have : ((passB p.1 p.2 s w).findIdx? (fun z => z == true)).isSome = true := by
      rw [List.findIdx?_isSome, List.any_eq_true]
      rw [List.any_eq_true] at h1
      obtain ⟨z, hz, h2⟩ := h1
      exact ⟨z, hz, by simpa using h2⟩
    exact Option.isSome_iff_exists.mp this
  have t1 : uCompT (fun p : List Int × Int => uUnp2 (.tup [tI p.1, .int p.2]) fun v4 v5 => (U_passing v4 v5 (.int s) (.int w)).bind fun v6 => (uL v6).bind fun _ => (uP pIndex [v6, (.bl true)]).bind fun v7 => (uP pAddN [v5, v7]).bind fun v8 => R.ok (some v8)) (L.zip r) = .ok (.lst false ((L.zip r).map fun p => D.int (p.2 + fi s w p))) :=
    uCompT_of _ (fun p hpm => by
      have := h.lot _ (List.of_mem_zip hpm).1
      obtain ⟨i, hi⟩ := hi p hpm
      have hfi : fi s w p = (i : Int) := by unfold fi; rw [hi]; rfl
      simp only [uUnp2, frz_t, frz_i, pass_ok _ _ _ _ this hw hw2, R.bind_ok, uL_lst, index_b _ _ _ hi, e_addN, hfi]) h.zip
  have ha : All2 (fun p m => (W w).find? (fun k => near p.1 (p.2 + k) s) = some m) (L.zip r) ((L.zip r).map (fi s w)) := by
    have : ∀ ps : List (List Int × Int), (∀ p ∈ ps, ∃ i, (passB p.1 p.2 s w).findIdx? (fun z => z == true) = some i) → All2 (fun p m => (W w).find? (fun k => near p.1 (p.2 + k) s) = some m) ps (ps.map (fi s w)) := fun ps => by
      induction ps with
      | nil => exact fun _ => .nil
      | cons p ps ih =>
        intro hps
        obtain ⟨i, hi⟩ := hps p List.mem_cons_self
        refine .cons ?_ (ih fun q hq => hps q (List.mem_cons_of_mem _ hq))
        have hfi : fi s w p = (i : Int) := by unfold fi; rw [hi]; rfl
        rw [hfi]
        exact find_W _ hi
    exact this _ hi
  refine ⟨_, PP_some ha h.len, ?_⟩
  have e : (r.zip ((L.zip r).map (fi s w))).map (fun p => p.1 + p.2) = (L.zip r).map fun p => p.2 + fi s w p := by
    have : ∀ (L : List (List Int)) (r : List Int), (r.zip ((L.zip r).map (fi s w))).map (fun p => p.1 + p.2) = (L.zip r).map fun p => p.2 + fi s w p := fun L => by
      induction L with
      | nil => intro r; cases r <;> rfl
      | cons l L ih => intro r; cases r with
        | nil => rfl
        | cons c r => simp only [List.zip_cons_cons, List.map_cons, ih]
    exact this L r
  rw [e]
  unfold U_opened_row
  simp only [e_z2tt, frzL_cd, zip2_map, R.bind_ok, uComp_map, t1, e_tuple]
  rw [tI, tT, List.map_map]; rfl
def CF (L : List (List Int)) (r : List Int) (b : Bool) (s w : Int) : Option (List Int) := if b then FF L r s w else PP L r s w
theorem couple_ok {L : List (List Int)} {r : List Int} {s w : Int} (b : Bool) (h : LR L r) (hw : 0 ≤ w) (hw2 : w ≤ 1000) : U_couple_fault (tL L) (tI r) (.bl b) (.int s) (.int w) = .ok (oD tI (CF L r b s w)) := by
  unfold U_couple_fault
  cases b with
  | true => simp only [uB_bl, R.bind_ok, if_true, worn_row_ok h hw hw2, CF]
  | false =>
    have hp := perhaps_ok (s := s) h hw hw2
    cases q : perhaps L r s w with
    | true =>
      obtain ⟨z, h1, h2⟩ := opened_ok h hw hw2 q
      rw [q] at hp
      simp only [uB_bl, R.bind_ok, Bool.false_eq_true, if_false, hp, if_true, h2, CF, h1, oD]
    | false =>
      have h1 := (PP_none hw h.len).mpr q
      rw [q] at hp
      simp only [uB_bl, R.bind_ok, Bool.false_eq_true, if_false, hp, CF, h1, oD]
abbrev pe (p : Int × Int) : D := .tup [.int p.1, .int p.2]
theorem tells_pe : Tells pe := fun a b => by
  obtain ⟨a1, a2⟩ := a
  obtain ⟨b1, b2⟩ := b
  show PyData.eqvAll [.int a1, .int a2] [.int b1, .int b2] = _
  simp only [PyData.eqvAll, PyData.eqv]
  by_cases h1 : a1 = b1 <;> by_cases h2 : a2 = b2 <;> simp [h1, h2]
theorem okN_pe (p : Int × Int) : okN 1 (pe p) := okN_t (n := 0) (fun x hx => by simp at hx; rcases hx with rfl | rfl <;> exact okN_i _) (by decide)
theorem in_pe (neg : Bool) (i j : Int) (ws : List (Int × Int)) : uP (pInG neg) [.tup [.int i, .int j], tT pe ws] = .ok (.bl (if neg then !decide ((i, j) ∈ ws) else decide ((i, j) ∈ ws))) := by
  have h := in_e tells_pe okN_pe (by decide) neg (i, j) ws
  refine h.trans ?_
  by_cases q : (i, j) ∈ ws <;> simp [q]
/-- the first couple at fault -/
def F1 (rows : List (List Int)) (locks : List (List (List Int))) (ws : List (Int × Int)) (s w : Int) : Option (Nat × Nat × List Int) :=
  rows.zipIdx.findSome? fun p => locks.zipIdx.findSome? fun q => (CF q.1 p.1 (decide (((p.2 : Int), (q.2 : Int)) ∈ ws)) s w).map fun z => (p.2, q.2, z)
abbrev ft (t : Nat × Nat × List Int) : D := .tup [.int t.1, .int t.2.1, tI t.2.2]
/-- rows and locks that are served -/
def RLs (rows : List (List Int)) (locks : List (List (List Int))) : Prop := ∀ r ∈ rows, ∀ L ∈ locks, LR L r
theorem find_map {α β γ : Type} (f : α → Option β) (g : β → γ) (xs : List α) : (xs.findSome? fun x => (f x).map g) = (xs.findSome? f).map g := by
  induction xs with
  | nil => rfl
  | cons x xs ih =>
    rw [List.findSome?_cons, List.findSome?_cons]
    cases f x <;> simp [ih]
theorem first_ok {rows : List (List Int)} {locks : List (List (List Int))} {ws : List (Int × Int)} {s w : Int} (h : RLs rows locks) (hw : 0 ≤ w) (hw2 : w ≤ 1000) : U_first_unsafe (tT tI rows) (tT tL locks) (tT pe ws) (.int s) (.int w) = .ok (oD ft (F1 rows locks ws s w)) := by
  have inner : ∀ p ∈ rows.zipIdx, forU (β := Step D Unit) (fun v8 (v9 : Unit) => uUnp2 v8 fun v11 v12 => (uP pIn [(.tup [.int (p.2 : Nat), v11]), tT pe ws]).bind fun v13 => (U_couple_fault v12 (tI p.1) v13 (.int s) (.int w)).bind fun v14 => (uP pIsNot [v14, .non]).bind fun v15 => (uB v15).bind fun v16 => if v16 then R.ok (.done (.done (.tup [.int (p.2 : Nat), v11, v14]))) else R.ok (.next ())) (locks.zipIdx.map fun q => .tup [.int (q.2 : Nat), tL q.1]) () =
      match (locks.zipIdx.findSome? fun q => (CF q.1 p.1 (decide (((p.2 : Int), (q.2 : Int)) ∈ ws)) s w).map fun z => (p.2, q.2, z)) with
      | some t => .ok (.done (.done (ft t)))
      | none => .ok (.next ()) := fun p hp => by
    have hpr : p.1 ∈ rows := List.fst_mem_of_mem_zipIdx hp
    have e := forU_find (β := Step D Unit) (B := fun v8 (v9 : Unit) => uUnp2 v8 fun v11 v12 => (uP pIn [(.tup [.int (p.2 : Nat), v11]), tT pe ws]).bind fun v13 => (U_couple_fault v12 (tI p.1) v13 (.int s) (.int w)).bind fun v14 => (uP pIsNot [v14, .non]).bind fun v15 => (uB v15).bind fun v16 => if v16 then R.ok (.done (.done (.tup [.int (p.2 : Nat), v11, v14]))) else R.ok (.next ())) (h := fun q : List (List Int) × Nat => .tup [.int (q.2 : Nat), tL q.1])
      (fun q => (CF q.1 p.1 (decide (((p.2 : Int), (q.2 : Int)) ∈ ws)) s w).map fun z => Step.done (ft (p.2, q.2, z))) (ps := locks.zipIdx) (fun q hq => by
        have hl := h p.1 hpr q.1 (List.fst_mem_of_mem_zipIdx hq)
        have hin := in_pe false (p.2 : Nat) (q.2 : Nat) ws
        simp only [Bool.false_eq_true, if_false] at hin
        simp only [uUnp2, frz_i, frz_t, hin, R.bind_ok, couple_ok _ hl hw hw2, e_isNotN]
        cases CF q.1 p.1 (decide (((p.2 : Int), (q.2 : Int)) ∈ ws)) s w with
        | none => rfl
        | some z => rfl)
    rw [e]
    have e2 : (locks.zipIdx.findSome? fun q => (CF q.1 p.1 (decide (((p.2 : Int), (q.2 : Int)) ∈ ws)) s w).map fun z => (Step.done (ft (p.2, q.2, z)) : Step D Unit)) = (locks.zipIdx.findSome? fun q => (CF q.1 p.1 (decide (((p.2 : Int), (q.2 : Int)) ∈ ws)) s w).map fun z => (p.2, q.2, z)).map fun t => Step.done (ft t) := by
      rw [← find_map]
      congr 1
      funext q
      rw [Option.map_map]; rfl
    rw [e2]
    cases (locks.zipIdx.findSome? fun q => (CF q.1 p.1 (decide (((p.2 : Int), (q.2 : Int)) ∈ ws)) s w).map fun z => (p.2, q.2, z)) <;> rfl
  have outer := forU_find (β := D) (B := fun v2 (v3 : Unit) => uUnp2 v2 fun v5 v6 => (uIt eA [tT tL locks]).bind fun v7 => (forU (fun v8 (v9 : Unit) => uUnp2 v8 fun v11 v12 => (uP pIn [(.tup [v5, v11]), tT pe ws]).bind fun v13 => (U_couple_fault v12 v6 v13 (.int s) (.int w)).bind fun v14 => (uP pIsNot [v14, .non]).bind fun v15 => (uB v15).bind fun v16 => if v16 then R.ok (.done (.done (.tup [v5, v11, v14]))) else R.ok (.next ())) v7 ()).bind fun v19 => jn v19 fun v10 => R.ok (.next ()))
    (h := fun p : List Int × Nat => .tup [.int (p.2 : Nat), tI p.1]) (fun p => (locks.zipIdx.findSome? fun q => (CF q.1 p.1 (decide (((p.2 : Int), (q.2 : Int)) ∈ ws)) s w).map fun z => (p.2, q.2, z)).map ft) (ps := rows.zipIdx) (fun p hp => by
      have hi := inner p hp
      have he : uIt eA [tT tL locks] = .ok (locks.zipIdx.map fun q => .tup [.int (q.2 : Nat), tL q.1]) := by rw [tT, e_ent, frzL_cd, enum_map]
      simp only [unp2, frz_i, frz_t, he, R.bind_ok]
      rw [hi]
      cases (locks.zipIdx.findSome? fun q => (CF q.1 p.1 (decide (((p.2 : Int), (q.2 : Int)) ∈ ws)) s w).map fun z => (p.2, q.2, z)) <;> rfl)
  have e1 : uIt eA [tT tI rows] = .ok (rows.zipIdx.map fun q => .tup [.int (q.2 : Nat), tI q.1]) := by rw [tT, e_ent, frzL_cd, enum_map]
  unfold U_first_unsafe
  rw [e1]
  show (forU _ _ ()).bind _ = _
  rw [outer, find_map]
  show _ = R.ok (oD ft (F1 rows locks ws s w))
  unfold F1
  cases (rows.zipIdx.findSome? fun p => locks.zipIdx.findSome? fun q => (CF q.1 p.1 (decide (((p.2 : Int), (q.2 : Int)) ∈ ws)) s w).map fun z => (p.2, q.2, z)) <;> rfl
theorem isNon_ft (t : Nat × Nat × List Int) : isNon (ft t) = false := rfl
theorem safe_ok {rows : List (List Int)} {locks : List (List (List Int))} {ws : List (Int × Int)} {s w : Int} (h : RLs rows locks) (hw : 0 ≤ w) (hw2 : w ≤ 1000) : U_is_safe (tT tI rows) (tT tL locks) (tT pe ws) (.int s) (.int w) = .ok (.bl (F1 rows locks ws s w).isNone) := by
  unfold U_is_safe
  rw [first_ok h hw hw2]
  simp only [R.bind_ok, e_isN, isNon_o ft isNon_ft]
def SW (rows : List (List Int)) (locks : List (List (List Int))) (ws : List (Int × Int)) (s : Int) : List Int := (rg 0 10).filter fun w => (F1 rows locks ws s w).isNone
theorem most_ok {rows : List (List Int)} {locks : List (List (List Int))} {ws : List (Int × Int)} {s : Int} (h : RLs rows locks) : U_most_wear (tT tI rows) (tT tL locks) (tT pe ws) (.int s) = .ok (oD D.int (SW rows locks ws s).getLast?) := by
  have h1 := e_rng1 (j := 10) (by decide) (by decide)
  have h2 := uCompT_ofIf (B := fun w : Int => (U_is_safe (tT tI rows) (tT tL locks) (tT pe ws) (.int s) (.int w)).bind fun v5 => (uB v5).bind fun v6 => if v6 then R.ok (some (.int w)) else R.ok none) (ps := rg 0 10) (fun w => (F1 rows locks ws s w).isNone) D.int (fun w hw => by
    rw [mem_rg] at hw
    rw [safe_ok h (by omega) (by omega)]
    simp only [R.bind_ok, uB_bl]) (by rw [rg_len]; decide)
  have hk : okP (.lst false ((SW rows locks ws s).map D.int)) = true := okP_N (okN_lm okN_i (by decide)) (by decide)
  have h3 := ne_nilL hk
  unfold U_most_wear
  have e9 : (9 : Int) + 1 = 10 := rfl
  simp only [e_addN, e9, R.bind_ok, h1, uComp_map, h2]
  rw [show (rg 0 10).filter (fun w => (F1 rows locks ws s w).isNone) = SW rows locks ws s from rfl, h3]
  simp only [R.bind_ok, uB_bl, e_neg]
  rcases List.eq_nil_or_concat (SW rows locks ws s) with e | ⟨init, z, e⟩
  · rw [e]; rfl
  · rw [e]
    have : ((init ++ [z]).map D.int) = init.map D.int ++ [D.int z] := by simp
    rw [List.concat_eq_append, this]
    simp [ix_last, oD]
/-- more wear is less safe -/
theorem CF_mono {L : List (List Int)} {r : List Int} {b : Bool} {s w w' : Int} (hl : L.length = r.length) (hw : 0 ≤ w) (h : w ≤ w') (e : CF L r b s w' = none) : CF L r b s w = none := by
  cases b with
  | true => exact (FF_none hw hl).mpr (surely_mono h ((FF_none (by omega) hl).mp e))
  | false =>
    refine (PP_none hw hl).mpr ?_
    have := (PP_none (by omega) hl).mp e
    cases q : perhaps L r s w with
    | false => rfl
    | true => rw [perhaps_mono h q] at this; exact this
theorem F1_none {rows : List (List Int)} {locks : List (List (List Int))} {ws : List (Int × Int)} {s w : Int} : F1 rows locks ws s w = none ↔ ∀ p ∈ rows.zipIdx, ∀ q ∈ locks.zipIdx, CF q.1 p.1 (decide (((p.2 : Int), (q.2 : Int)) ∈ ws)) s w = none := by
  unfold F1
  simp only [List.findSome?_eq_none_iff, Option.map_eq_none_iff]
theorem F1_mono {rows : List (List Int)} {locks : List (List (List Int))} {ws : List (Int × Int)} {s w w' : Int} (h : RLs rows locks) (hw : 0 ≤ w) (hww : w ≤ w') (e : F1 rows locks ws s w' = none) : F1 rows locks ws s w = none := by
  rw [F1_none] at e ⊢
  exact fun p hp q hq => CF_mono (h p.1 (List.fst_mem_of_mem_zipIdx hp) q.1 (List.fst_mem_of_mem_zipIdx hq)).len hw hww (e p hp q hq)
end U
end Y

end
section
set_option Elab.async false
set_option linter.all false
set_option maxRecDepth 100000
set_option maxHeartbeats 4000000
set_option autoImplicit false
/-! K29f: the law's own fault; its draws. -/
namespace Y
namespace U
open PySem L2
theorem worn_length {w : Int} : ∀ {r x : List Int}, x ∈ worn r w → x.length = r.length
  | [], x, h => by simp [worn] at h; rw [h]
  | c :: cs, x, h => by
    obtain ⟨k, _, hm⟩ := List.mem_flatMap.mp h
    obtain ⟨y, hy, rfl⟩ := List.mem_map.mp hm
    rw [List.length_cons, List.length_cons, worn_length hy]
theorem LR.worn {L : List (List Int)} {r x : List Int} {w : Int} (h : LR L r) (hx : x ∈ worn r w) : LR L x := ⟨by rw [h.len, worn_length hx], by rw [worn_length hx]; exact h.few, h.lot⟩
theorem CF_find (L : List (List Int)) (r : List Int) (b : Bool) (s w : Int) : CF L r b s w = (worn r w).find? fun x => passes L x s != b := by
  cases b with
  | true => simp only [CF, if_true, FF, Bool.bne_true]
  | false => simp only [CF, Bool.false_eq_true, if_false, PP, Bool.bne_false]
theorem find_head {α : Type} (p : α → Bool) (xs : List α) : xs.find? p = (xs.filter p).head? := by simp
theorem worn_len9 {w : Int} (h : 0 ≤ w) (h2 : w ≤ 9) {r : List Int} (hr : r.length ≤ 2) : (worn r w).length ≤ 100 := by
  have hW := W_len h h2
  match r, hr with
  | [], _ => simp [worn]
  | [a], _ =>
    show ((W w).flatMap _).length ≤ 100
    have := flat_len (fun k : Int => (worn [] w).map ((a + k) :: ·)) (fun x => by simp [worn]) (W w)
    omega
  | [a, b], _ =>
    show ((W w).flatMap _).length ≤ 100
    have := flat_len (fun k : Int => (worn [b] w).map ((a + k) :: ·)) (fun x => by
      rw [List.length_map]
      have : (worn [b] w).length = (W w).length := by
        show ((W w).flatMap fun k => (worn [] w).map ((b + k) :: ·)).length = _
        simp [worn, List.length_flatMap]
        induction W w with
        | nil => rfl
        | cons _ _ ih => simp [ih]; omega
      omega) (W w)
    omega
  | _ :: _ :: _ :: _, h => exact absurd h (by simp)
/-- the list of the worn rows that tell a fault -/
theorem bad_ok {L : List (List Int)} {r : List Int} {s w : Int} (b : R Bool) (bb : Bool) (hb : b = .ok bb) (h : LR L r) (hr : r.length ≤ 2) (hw : 0 ≤ w) (hw2 : w ≤ 9) (B : D → R (Option D)) (hB : ∀ x : List Int, LR L x → B (tI x) = if (passes L x s != bb) = true then R.ok (some (tI x)) else R.ok none) :
    ((U__law_worn (tI r) (.int w)).bind fun v13 => (uIt it1 [v13]).bind fun v14 => (uComp B v14).bind fun v => R.ok v) = .ok (lT tI ((worn r w).filter fun x => passes L x s != bb)) := by
  have h1 := uCompT_ofIf (B := fun x : List Int => B (tI x)) (ps := worn r w) (fun x => passes L x s != bb) tI (fun x hx => hB x (h.worn hx)) (by have := worn_len9 hw hw2 hr; omega)
  simp only [worn_ok hr hw hw2, R.bind_ok, lT, e_it1l, frzL_cd, uComp_map, h1]
theorem tup2_i (i j : Nat) (ws : List (Int × Int)) : uP pIn [(.tup [.int i, .int j]), tT pe ws] = .ok (.bl (decide (((i : Int), (j : Int)) ∈ ws))) := by
  have := in_pe false i j ws
  simpa only [Bool.false_eq_true, if_false] using this
theorem okP_rows (xs : List (List Int)) : okP (.lst false (xs.map tI)) = true := okP_N (okN_lm okN_tI (by decide)) (by decide)
theorem fault_ok {rows : List (List Int)} {locks : List (List (List Int))} {ws : List (Int × Int)} {s w : Int} (h : RLs rows locks) (hr : ∀ r ∈ rows, r.length ≤ 2) (hw : 0 ≤ w) (hw2 : w ≤ 9) : U__law_fault (tT tI rows) (tT tL locks) (tT pe ws) (.int s) (.int w) = .ok (oD ft (F1 rows locks ws s w)) := by
  have inner : ∀ p ∈ rows.zipIdx, forU (β := Step D Unit) (fun v8 (v9 : Unit) => uUnp2 v8 fun v11 v12 => (U__law_worn (tI p.1) (.int w)).bind fun v13 => (uIt it1 [v13]).bind fun v14 => (uComp (fun v15 => (U__law_passes v12 v15 (.int s)).bind fun v17 => (uP pIn [(.tup [.int (p.2 : Nat), v11]), tT pe ws]).bind fun v18 => (uP pNe [v17, v18]).bind fun v19 => (uB v19).bind fun v20 => if v20 then R.ok (some v15) else R.ok none) v14).bind fun v16 => (uP pNe [v16, (.lst false [])]).bind fun v21 => (uB v21).bind fun v22 => if v22 then (((uP pIx [v16, (.int 0)]).bind fun v23 => R.ok (.tup [.int (p.2 : Nat), v11, v23])).bind fun v24 => R.ok (.done v24)).bind fun v25 => R.ok (.done v25) else R.ok (.next ())) (locks.zipIdx.map fun q => .tup [.int (q.2 : Nat), tL q.1]) () =
      match (locks.zipIdx.findSome? fun q => (CF q.1 p.1 (decide (((p.2 : Int), (q.2 : Int)) ∈ ws)) s w).map fun z => (p.2, q.2, z)) with
      | some t => .ok (.done (.done (ft t)))
      | none => .ok (.next ()) := fun p hp => by
    have hpr : p.1 ∈ rows := List.fst_mem_of_mem_zipIdx hp
    have e := forU_find (β := Step D Unit) (B := fun v8 (v9 : Unit) => uUnp2 v8 fun v11 v12 => (U__law_worn (tI p.1) (.int w)).bind fun v13 => (uIt it1 [v13]).bind fun v14 => (uComp (fun v15 => (U__law_passes v12 v15 (.int s)).bind fun v17 => (uP pIn [(.tup [.int (p.2 : Nat), v11]), tT pe ws]).bind fun v18 => (uP pNe [v17, v18]).bind fun v19 => (uB v19).bind fun v20 => if v20 then R.ok (some v15) else R.ok none) v14).bind fun v16 => (uP pNe [v16, (.lst false [])]).bind fun v21 => (uB v21).bind fun v22 => if v22 then (((uP pIx [v16, (.int 0)]).bind fun v23 => R.ok (.tup [.int (p.2 : Nat), v11, v23])).bind fun v24 => R.ok (.done v24)).bind fun v25 => R.ok (.done v25) else R.ok (.next ())) (h := fun q : List (List Int) × Nat => .tup [.int (q.2 : Nat), tL q.1])
      (fun q => (CF q.1 p.1 (decide (((p.2 : Int), (q.2 : Int)) ∈ ws)) s w).map fun z => Step.done (ft (p.2, q.2, z))) (ps := locks.zipIdx) (fun q hq => by
        have hl := h p.1 hpr q.1 (List.fst_mem_of_mem_zipIdx hq)
        have hb := uCompT_ofIf (B := fun x : List Int => (U__law_passes (tL q.1) (tI x) (.int s)).bind fun v17 => (uP pIn [(.tup [.int (p.2 : Nat), .int (q.2 : Nat)]), tT pe ws]).bind fun v18 => (uP pNe [v17, v18]).bind fun v19 => (uB v19).bind fun v20 => if v20 then R.ok (some (tI x)) else R.ok none) (ps := worn p.1 w) (fun x => passes q.1 x s != decide (((p.2 : Int), (q.2 : Int)) ∈ ws)) tI (fun x hx => by
          simp only [passes_ok (hl.worn hx), tup2_i, R.bind_ok, e_neb, uB_bl]) (by have := worn_len9 hw hw2 (hr _ hpr); omega)
        simp only [unp2, frz_i, frz_t, worn_ok (hr _ hpr) hw hw2, R.bind_ok, lT, e_it1l, frzL_cd, uComp_map]
        rw [hb]
        simp only [R.bind_ok]
        rw [ne_nilL (okP_rows _)]
        simp only [R.bind_ok, uB_bl]
        rw [CF_find, find_head]
        cases (worn p.1 w).filter (fun x => passes q.1 x s != decide (((p.2 : Int), (q.2 : Int)) ∈ ws)) with
        | nil => rfl
        | cons z zs =>
          have : uP pIx [.lst false ((z :: zs).map tI), .int 0] = .ok (tI z) := ix_l (x := tI z) (by decide) rfl
          simp only [this]; rfl)
    rw [e]
    have e2 : (locks.zipIdx.findSome? fun q => (CF q.1 p.1 (decide (((p.2 : Int), (q.2 : Int)) ∈ ws)) s w).map fun z => (Step.done (ft (p.2, q.2, z)) : Step D Unit)) = (locks.zipIdx.findSome? fun q => (CF q.1 p.1 (decide (((p.2 : Int), (q.2 : Int)) ∈ ws)) s w).map fun z => (p.2, q.2, z)).map fun t => Step.done (ft t) := by
      rw [← find_map]
      congr 1
      funext q
      rw [Option.map_map]; rfl
    rw [e2]
    cases (locks.zipIdx.findSome? fun q => (CF q.1 p.1 (decide (((p.2 : Int), (q.2 : Int)) ∈ ws)) s w).map fun z => (p.2, q.2, z)) <;> rfl
  have outer := forU_find (β := D) (B := fun v2 (v3 : Unit) => uUnp2 v2 fun v5 v6 => (uIt eA [tT tL locks]).bind fun v7 => (forU (fun v8 (v9 : Unit) => uUnp2 v8 fun v11 v12 => (U__law_worn v6 (.int w)).bind fun v13 => (uIt it1 [v13]).bind fun v14 => (uComp (fun v15 => (U__law_passes v12 v15 (.int s)).bind fun v17 => (uP pIn [(.tup [v5, v11]), tT pe ws]).bind fun v18 => (uP pNe [v17, v18]).bind fun v19 => (uB v19).bind fun v20 => if v20 then R.ok (some v15) else R.ok none) v14).bind fun v16 => (uP pNe [v16, (.lst false [])]).bind fun v21 => (uB v21).bind fun v22 => if v22 then (((uP pIx [v16, (.int 0)]).bind fun v23 => R.ok (.tup [v5, v11, v23])).bind fun v24 => R.ok (.done v24)).bind fun v25 => R.ok (.done v25) else R.ok (.next ())) v7 ()).bind fun v26 => jn v26 fun v10 => R.ok (.next ()))
    (h := fun p : List Int × Nat => .tup [.int (p.2 : Nat), tI p.1]) (fun p => (locks.zipIdx.findSome? fun q => (CF q.1 p.1 (decide (((p.2 : Int), (q.2 : Int)) ∈ ws)) s w).map fun z => (p.2, q.2, z)).map ft) (ps := rows.zipIdx) (fun p hp => by
      have hi := inner p hp
      have he : uIt eA [tT tL locks] = .ok (locks.zipIdx.map fun q => .tup [.int (q.2 : Nat), tL q.1]) := by rw [tT, e_ent, frzL_cd, enum_map]
      rw [unp2, frz_i, frz_t, he]
      show (forU _ _ ()).bind _ = _
      rw [hi]
      cases (locks.zipIdx.findSome? fun q => (CF q.1 p.1 (decide (((p.2 : Int), (q.2 : Int)) ∈ ws)) s w).map fun z => (p.2, q.2, z)) <;> rfl)
  have e1 : uIt eA [tT tI rows] = .ok (rows.zipIdx.map fun q => .tup [.int (q.2 : Nat), tI q.1]) := by rw [tT, e_ent, frzL_cd, enum_map]
  unfold U__law_fault
  rw [e1]
  show (forU _ _ ()).bind _ = _
  rw [outer, find_map]
  show _ = R.ok (oD ft (F1 rows locks ws s w))
  unfold F1
  cases (rows.zipIdx.findSome? fun p => locks.zipIdx.findSome? fun q => (CF q.1 p.1 (decide (((p.2 : Int), (q.2 : Int)) ∈ ws)) s w).map fun z => (p.2, q.2, z)) <;> rfl
end U
end Y

end
section
set_option Elab.async false
set_option linter.all false
set_option maxRecDepth 100000
set_option maxHeartbeats 4000000
set_option autoImplicit false
/-! K29g: drawn lots; what holds of safe wears; the window. -/
namespace Y
namespace U
open PySem L2
theorem slL_i (xs : List Int) (lo hi : Option Int) : ∃ ms : List Int, uP (pSlL lo hi) [.lst false (xs.map D.int)] = .ok (.lst false (ms.map D.int)) ∧ ms.length ≤ xs.length ∧ ∀ x ∈ ms, x ∈ xs := by
  obtain ⟨ms, h1, h2, h3⟩ := cut_ints xs lo hi
  refine ⟨ms, ?_, h2, h3⟩
  show R.ok (D.lst false (frz.frzL (cutD (xs.map D.int) lo hi))) = _
  rw [h1, frzL_cd]
theorem sortI_len (xs : List Int) : (sortI xs).length = xs.length := (sortI_perm xs).length_eq
theorem lots_ok {b : D} {n : Int} {rows : List (List Int)} (hb : Bag b) (h0 : 0 ≤ n) (hn : n ≤ 10) (hr : rows ≠ []) (hl : rows.length ≤ 100) (hc : ∀ r ∈ rows, r.length = n.toNat) :
    ∃ (L : List (List Int)) (b' : D), U__law_lots_drawn b (.int n) (tT tI rows) = .ok (tL L, b') ∧ Bag b' ∧ L.length = n.toNat ∧ ∀ l ∈ L, l.length ≤ 1000 := by
  obtain ⟨v, b1, v0, v1, hb1, e1⟩ := take_ok hb (many := 2) (by decide) (by decide)
  by_cases q : v = 0
  · subst q
    obtain ⟨x, hx, b2, hb2, e2⟩ := some_okT hb1 (xs := rows.map tI) (by simpa using hr) (by rw [List.length_map]; omega)
    obtain ⟨r, hrm, rfl⟩ := List.mem_map.mp hx
    have hrl := hc r hrm
    have t1 := uCompT_some (fun c : Int => D.tup [.int c]) r (by omega)
    refine ⟨r.map fun c => [c], b2, ?_, hb2, by rw [List.length_map, hrl], fun l hl => by obtain ⟨c, _, rfl⟩ := List.mem_map.mp hl; simp⟩
    unfold U__law_lots_drawn
    simp only [e1, R.bind_ok, e_eqi, decide_true, uB_bl, if_true, e2, frz_t, e_it1t, frzL_cd, uComp_map, t1, e_tuple]
    simp [tL, tT, Function.comp_def]
  · have hne : ¬ v = 0 := q
    have hrng := e_rng1 (j := n) (by omega) (by omega)
    have hrl : (rg 0 n).length ≤ 16777216 := by rw [rg_len]; omega
    obtain ⟨ys, b2, e2, hb2, a2⟩ := uCompS_ex (ξ := List Int) (B := fun v10 (v12 : D) => (U__law_mixed v12 (.lst false [(.int 1), (.int 2), (.int 3), (.int 4), (.int 5), (.int 6), (.int 8)])).bind fun v13 => (U__law_take v13.2 (.int 3)).bind fun v14 => (uP pAddN [(.int 1), v14.1]).bind fun v15 => (uI v15).bind fun v16 => (uP (pSlL none (some v16)) [v13.1]).bind fun v17 => (uP pSorted [v17]).bind fun v18 => (uP pTuple [v18]).bind fun v19 => R.ok (some v19, v14.2))
      (h := D.int) (J := Bag) (e := tI) (P := fun _ y => y.length ≤ 1000) (ps := rg 0 n) (t := b1) hb1 hrl fun p _ t ht => by
        obtain ⟨b3, fs, f1, f2, f3⟩ := mixed_i (xs := [1, 2, 3, 4, 5, 6, 8]) ht (by decide)
        have hfl := f3.length_eq
        obtain ⟨u, b4, u0, u1, hb4, g1⟩ := take_ok f2 (many := 3) (by decide) (by decide)
        obtain ⟨ms, g2, g3, _⟩ := slL_i fs none (some (1 + u))
        have g4 := sorted_i (o := false) (xs := ms) (by simp at hfl; omega)
        refine ⟨sortI ms, b4, ?_, hb4, by rw [sortI_len]; simp at hfl; omega⟩
        simp only [List.map_cons, List.map_nil] at f1
        simp only [f1, R.bind_ok, g1, e_addN, uI_int, g2, g4, e_tuple]
    obtain ⟨zs, b5, e5, hb5, a5⟩ := uCompS_ex (ξ := List Int) (B := fun v21 (v23 : D) => (U__law_take v23 (.int 12)).bind fun v24 => (uP pGt [v24.1, (.int 0)]).bind fun v25 => (uB v25).bind fun v26 => (if v26 then R.ok v21 else R.ok (.tup [])).bind fun v27 => R.ok (some v27, v24.2))
      (h := tI) (J := Bag) (e := tI) (P := fun x y => x.length ≤ 1000 → y.length ≤ 1000) (ps := ys) (t := b2) hb2 (by rw [← a2.length]; exact hrl) fun p _ t ht => by
        obtain ⟨u, b4, u0, u1, hb4, g1⟩ := take_ok ht (many := 12) (by decide) (by decide)
        by_cases z : 0 < u
        · exact ⟨p, b4, by simp only [g1, R.bind_ok, e_gt, uB_bl, z, decide_true, if_true], hb4, fun h => h⟩
        · exact ⟨[], b4, by simp only [g1, R.bind_ok, e_gt, uB_bl, z, decide_false, Bool.false_eq_true, if_false]; rfl, hb4, fun _ => by simp⟩
    refine ⟨zs, b5, ?_, hb5, by rw [← a5.length, ← a2.length, rg_len]; omega, fun l hl => ?_⟩
    · unfold U__law_lots_drawn
      simp only [e1, R.bind_ok, e_eqi, hne, decide_false, uB_bl, Bool.false_eq_true, if_false, hrng]
      rw [e2]
      simp only [R.bind_ok, lT, e_it1l, frzL_cd]
      rw [e5]
      simp only [R.bind_ok, lT, e_tuple]
    · obtain ⟨y, hy, h1⟩ := all2_mem a5 l hl
      obtain ⟨_, _, h2⟩ := all2_mem a2 y hy
      exact h1 h2
/-- safe wears are the first ones -/
theorem filter_first (q : Int → Bool) : ∀ (N : Nat), (∀ a b : Int, 0 ≤ a → a ≤ b → b < N → q b = true → q a = true) → ∃ n : Nat, n ≤ N ∧ (rg 0 N).filter q = rg 0 n ∧ ∀ w : Int, 0 ≤ w → w < N → (q w = true ↔ w < n)
  | 0, _ => ⟨0, Nat.le_refl _, rfl, fun w h1 h2 => by omega⟩
  | N + 1, h => by
    obtain ⟨n, h1, h2, h3⟩ := filter_first q N fun a b h0 hab hb => h a b h0 hab (by omega)
    have hs : rg 0 ((N + 1 : Nat) : Int) = rg 0 N ++ [(N : Int)] := by
      unfold rg
      have e1 : (((N + 1 : Nat) : Int) - 0).toNat = N + 1 := by omega
      have e2 : ((N : Int) - 0).toNat = N := by omega
      rw [e1, e2, List.range_succ, List.map_append]
      simp
    rw [hs, List.filter_append]
    cases qN : q (N : Int) with
    | true =>
      have hn : n = N := by
        rcases Nat.lt_or_ge n N with hh | hh
        · exfalso
          have := (h3 n (by omega) (by omega)).mp (h n N (by omega) (by omega) (by omega) qN)
          omega
        · omega
      subst hn
      refine ⟨n + 1, Nat.le_refl _, ?_, fun w w0 w1 => ⟨fun _ => w1, fun _ => h w n w0 (by omega) (by omega) qN⟩⟩
      rw [h2, hs]
      simp [qN]
    | false =>
      refine ⟨n, by omega, ?_, fun w w0 w1 => ?_⟩
      · rw [h2]; simp [qN]
      · by_cases z : w = N
        · subst z
          constructor
          · intro hh; rw [qN] at hh; cases hh
          · intro hh; omega
        · exact h3 w w0 (by omega)
theorem rg_last (n : Nat) : (rg 0 (n : Int)).getLast? = if n = 0 then none else some ((n : Int) - 1) := by
  cases n with
  | zero => rfl
  | succ n =>
    have hs : rg 0 ((n + 1 : Nat) : Int) = rg 0 n ++ [(n : Int)] := by
      unfold rg
      have e1 : (((n + 1 : Nat) : Int) - 0).toNat = n + 1 := by omega
      have e2 : ((n : Int) - 0).toNat = n := by omega
      rw [e1, e2, List.range_succ, List.map_append]
      simp
    rw [hs, List.getLast?_concat, if_neg (by omega)]
    congr 1; omega
/-- the window of a cut that wears -/
theorem window (l : List Int) (c s w : Int) (hs : 0 ≤ s) (hw : 0 ≤ w) : (l.any fun o => decide (c - s ≤ o) && decide (o ≤ c + w + s)) = (W w).any fun k => near l (c + k) s := by
  rw [Bool.eq_iff_iff, List.any_eq_true, List.any_eq_true]
  constructor
  · rintro ⟨o, ho, h⟩
    rw [Bool.and_eq_true, decide_eq_true_eq, decide_eq_true_eq] at h
    have : ∃ k, 0 ≤ k ∧ k ≤ w ∧ absI (c + k - o) ≤ s := by
      unfold absI
      by_cases h1 : o ≤ c
      · exact ⟨0, by omega, hw, by split <;> omega⟩
      · by_cases h2 : c + w ≤ o
        · exact ⟨w, hw, by omega, by split <;> omega⟩
        · exact ⟨o - c, by omega, by omega, by split <;> omega⟩
    obtain ⟨k, k0, k1, k2⟩ := this
    exact ⟨k, mem_W.mpr ⟨k0, k1⟩, by unfold near; rw [List.any_eq_true]; exact ⟨o, ho, by simpa using k2⟩⟩
  · rintro ⟨k, hk, h⟩
    rw [mem_W] at hk
    unfold near at h
    rw [List.any_eq_true] at h
    obtain ⟨o, ho, h⟩ := h
    rw [decide_eq_true_eq] at h
    refine ⟨o, ho, ?_⟩
    rw [Bool.and_eq_true, decide_eq_true_eq, decide_eq_true_eq]
    unfold absI at h
    split at h <;> omega
theorem perhaps_zip (L : List (List Int)) (r : List Int) (s w : Int) (hs : 0 ≤ s) (hw : 0 ≤ w) : perhaps L r s w = (r.zip L).all fun p => p.2.any fun o => decide (p.1 - s ≤ o) && decide (o ≤ p.1 + w + s) := by
  induction r generalizing L with
  | nil => cases L <;> rfl
  | cons c r ih => cases L with
    | nil => rfl
    | cons l L => rw [perhaps_c, ih, List.zip_cons_cons, List.all_cons, window _ _ _ _ hs hw]
end U
end Y

end
section
set_option Elab.async false
set_option linter.all false
set_option maxRecDepth 100000
set_option maxHeartbeats 4000000
set_option autoImplicit false
/-! K29h: one couple of the law. -/
namespace Y
namespace U
open PySem L2
noncomputable def cellB (s w i r : D) : D → D × D × D → R (Step (Step (Step D D) (D × D × D)) (D × D × D)) := fun v39 (v40 : D × D × D) => uUnp2 v39 fun v42 v43 => (U__law_worn r w).bind fun v44 => (uIt it1 [v44]).bind fun v45 => (uComp (fun v46 => (U__law_passes v43 v46 s).bind fun v48 => R.ok (some v48)) v45).bind fun v47 => (U_surely_opens v43 r s w).bind fun v49 => (U_perhaps_opens v43 r s w).bind fun v50 => (uP pNotIn [(.bl false), v47]).bind fun v51 => (uP pIn [(.bl true), v47]).bind fun v52 => (U__law_alike (.lst false [v49, v50]) (.lst false [v51, v52])).bind fun v53 => (uB v53).bind fun v54 => if (!v54) then R.ok (.done (.done (.done (.bl false)))) else
  (U__law_worn r w).bind fun v55 => (uIt it1 [v55]).bind fun v56 => (uComp (fun v57 => (U__law_passes v43 v57 s).bind fun v59 => (uB v59).bind fun v60 => if (!v60) then R.ok (some v57) else R.ok none) v56).bind fun v58 => (U_worn_row v43 r s w).bind fun v61 => (uP pNe [v58, (.lst false [])]).bind fun v62 => (uB v62).bind fun v63 => (if v63 then (uP pIx [v58, (.int 0)]).bind fun v65 => R.ok v65 else R.ok .non).bind fun v64 => (U__law_alike v61 v64).bind fun v66 => (uB v66).bind fun v67 => if (!v67) then R.ok (.done (.done (.done (.bl false)))) else
  (uIt zA2 [r, v43]).bind fun v68 => (uComp (fun v69 => uUnp2 v69 fun v71 v72 => (uIt it1 [v72]).bind fun v73 => (uComp (fun v74 => (uP pSub [v71, s]).bind fun v76 => (uI v76).bind fun v77 => (uI v74).bind fun v78 => (if iLe v77 v78 then (uP pAddN [v71, w]).bind fun v80 => (uP pAddN [v80, s]).bind fun v81 => (uI v81).bind fun v82 => R.ok (.bl (iLe v78 v82)) else R.ok (.bl false)).bind fun v79 => (uB v79).bind fun v83 => if v83 then R.ok (some v74) else R.ok none) v73).bind fun v75 => (uP pEq [v75, (.lst false [])]).bind fun v84 => (uB v84).bind fun v85 => if v85 then R.ok (some (.int 1)) else R.ok none) v68).bind fun v70 => (uP pNe [v70, (.lst false [])]).bind fun v86 => (uP pIn [(.bl true), v47]).bind fun v87 => (uP pEq [v86, v87]).bind fun v88 => (uB v88).bind fun v89 => if v89 then R.ok (.done (.done (.done (.bl false)))) else
  (uP pNotIn [(.bl false), v47]).bind fun v90 => (uP pInt [v90]).bind fun v91 => (uP pRep [(.lst false [(.tup [i, v42])]), v91]).bind fun v92 => (uP pAddL [v40.2.1, v92]).bind fun v93 => (U__law_take v40.1 (.int 2)).bind fun v94 => (uP pRep [(.lst false [(.tup [i, v42])]), v94.1]).bind fun v95 => (uP pAddL [v40.2.2, v95]).bind fun v96 => R.ok (.next (v94.2, v93, v96))
noncomputable def rowB (s w locks : D) : D → D × D × D → R (Step (Step D D) (D × D × D)) := fun v33 (v34 : D × D × D) => uUnp2 v33 fun v36 v37 => (uIt eA [locks]).bind fun v38 => (forU (cellB s w v36 v37) v38 (v34.1, v34.2.1, v34.2.2)).bind fun v97 => jn v97 fun v41 =>
  R.ok (.next (v41.1, v41.2.1, v41.2.2))
noncomputable def wishB (s w rows locks : D) : D → Unit → R (Step (Step D D) Unit) := fun v102 (v103 : Unit) => (U__law_fault rows locks v102 s w).bind fun v105 => (U_first_unsafe rows locks v102 s w).bind fun v106 => (U_is_safe rows locks v102 s w).bind fun v107 => (uP pIs [v105, .non]).bind fun v108 => (U__law_alike (.lst false [v106, v107]) (.lst false [v105, v108])).bind fun v109 => (uB v109).bind fun v110 => if (!v110) then R.ok (.done (.done (.bl false))) else
  (uRng1 (.int 10)).bind fun v111 => (uComp (fun v112 => (uP pLt [v112, (.int 4)]).bind fun v114 => (uB v114).bind fun v115 => (if v115 then (U__law_fault rows locks v102 s v112).bind fun v117 => (uP pIs [v117, .non]).bind fun v118 => (uB v118).bind fun v119 => R.ok v119 else R.ok false).bind fun v116 => if v116 then R.ok (some v112) else R.ok none) v111).bind fun v113 => (U_most_wear rows locks v102 s).bind fun v120 => (uP pEq [v113, (.lst false [])]).bind fun v121 => (uB v121).bind fun v122 => (if v122 then (uP pIsNot [v120, .non]).bind fun v124 => (uB v124).bind fun v125 => R.ok v125 else R.ok false).bind fun v123 => (if v123 then R.ok true else (uP pNe [v113, (.lst false [])]).bind fun v127 => (uB v127).bind fun v128 => (if v128 then (uP pIs [v120, .non]).bind fun v130 => (uB v130).bind fun v131 => (if v131 then R.ok true else (uP pNeg [(.int 1)]).bind fun v133 => (uP pIx [v113, v133]).bind fun v134 => (uP pLt [v120, v134]).bind fun v135 => (uB v135).bind fun v136 => (if v136 then R.ok true else (uP pNeg [(.int 1)]).bind fun v138 => (uP pIx [v113, v138]).bind fun v139 => (uP pLt [v139, (.int 3)]).bind fun v140 => (uB v140).bind fun v141 => (if v141 then (uP pNeg [(.int 1)]).bind fun v143 => (uP pIx [v113, v143]).bind fun v144 => (uP pNe [v120, v144]).bind fun v145 => (uB v145).bind fun v146 => R.ok v146 else R.ok false).bind fun v142 => R.ok v142).bind fun v137 => R.ok v137).bind fun v132 => R.ok v132 else R.ok false).bind fun v129 => R.ok v129).bind fun v126 => if v126 then R.ok (.done (.done (.bl false))) else R.ok (.next ())
theorem rep_v {xs : List D} {k : Int} (h0 : 0 ≤ k) (h1 : k ≤ 1000) (hl : xs.length ≤ 1000) : uP pRep [.lst false xs, .int k] = .ok (.lst false (frz.frzL (repD k.toNat xs))) := by
  have e : pRep [.lst false xs, .int k] = some (.lst false (repD k.toNat xs)) := by
    show (if -(2 ^ 63) ≤ k ∧ k < 2 ^ 63 ∧ xs.length * k.toNat ≤ LN then some (D.lst false (repD k.toNat xs)) else none) = _
    rw [if_pos]
    refine ⟨by omega, by omega, ?_⟩
    have : xs.length * k.toNat ≤ 1000 * 1000 := Nat.mul_le_mul hl (by omega)
    have : LN = 16777216 := rfl
    omega
  unfold uP; rw [e]; rfl
theorem rep_pe (i j : Int) {k : Int} (h0 : 0 ≤ k) (h1 : k ≤ 1000) : uP pRep [.lst false [.tup [.int i, .int j]], .int k] = .ok (lT pe (List.replicate k.toNat (i, j))) := by
  rw [rep_v h0 h1 (by simp)]
  have : repD k.toNat [.tup [.int i, .int j]] = (List.replicate k.toNat (i, j)).map pe := by
    unfold repD
    rw [List.map_replicate]
    induction k.toNat with
    | zero => rfl
    | succ n ih => rw [List.replicate_succ, List.flatten_cons, ih]; rfl
  rw [this, frzL_cd]
theorem addL_v {α : Type} (e : α → D) [Cd e] {xs ys : List α} (h : xs.length + ys.length ≤ 1000000) : uP pAddL [lT e xs, lT e ys] = .ok (lT e (xs ++ ys)) := by
  have e1 : pAddL [lT e xs, lT e ys] = some (.lst false ((xs ++ ys).map e)) := by
    show (if (xs.map e).length + (ys.map e).length ≤ LN then some (D.lst false (xs.map e ++ ys.map e)) else none) = _
    rw [if_pos (by simp only [List.length_map]; have : LN = 16777216 := rfl; omega), List.map_append]
  unfold uP; rw [e1]
  show R.ok (D.lst false (frz.frzL ((xs ++ ys).map e))) = _
  rw [frzL_cd]
theorem tells_b : Tells D.bl := fun a b => by cases a <;> cases b <;> rfl
theorem okA_ints (xs : List Int) : okA (tI xs) = true := by
  show okA.okAs (xs.map D.int) = true
  rw [okAs_all]; intro x hx; obtain ⟨i, _, rfl⟩ := List.mem_map.mp hx; rfl
theorem sz_ints (xs : List Int) : sz (tI xs) = 1 + xs.length := by
  show 1 + sz.szs (xs.map D.int) = _
  congr 1
  induction xs with
  | nil => rfl
  | cons x xs ih => show sz (.int x) + sz.szs (xs.map D.int) = _; rw [ih, List.length_cons]; show 1 + _ = _; omega
theorem head_ix (xs : List (List Int)) : (if (!decide (xs.map tI = [])) = true then (uP pIx [.lst false (xs.map tI), .int 0]).bind fun v65 => R.ok v65 else R.ok .non) = R.ok (oD tI xs.head?) := by
  cases xs with
  | nil => rfl
  | cons x xs =>
    rw [if_pos (by simp), ix_l (x := tI x) (by decide) rfl, Cd.h (e := tI) x]
    rfl
theorem cell_ok {L : List (List Int)} {r : List Int} {s w i j : Int} {b : D} {rt wt : List (Int × Int)} (h : LR L r) (hr : r.length ≤ 2) (hs : 0 ≤ s) (hw : 0 ≤ w) (hw2 : w ≤ 9) (hb : Bag b) (hrt : rt.length ≤ 1000) (hwt : wt.length ≤ 1000) :
    ∃ (b' : D) (rt' wt' : List (Int × Int)), cellB (.int s) (.int w) (.int i) (tI r) (.tup [.int j, tL L]) (b, lT pe rt, lT pe wt) = .ok (.next (b', lT pe rt', lT pe wt')) ∧ Bag b' ∧ rt'.length ≤ rt.length + 1 ∧ wt'.length ≤ wt.length + 1 := by
  have hwl := worn_len9 hw hw2 hr
  have t1 := uCompT_of (B := fun x : List Int => (U__law_passes (tL L) (tI x) (.int s)).bind fun v48 => R.ok (some v48)) (ps := worn r w) (fun x => D.bl (passes L x s)) (fun x hx => by simp only [passes_ok (h.worn hx), R.bind_ok]) (by omega)
  have t1' : ((worn r w).map fun x => D.bl (passes L x s)) = ((worn r w).map fun x => passes L x s).map D.bl := by rw [List.map_map]; rfl
  have hin := in_l tells_b okN_b (by decide) false true ((worn r w).map fun x => passes L x s)
  have hnin := in_l tells_b okN_b (by decide) true false ((worn r w).map fun x => passes L x s)
  have e1 : decide (true ∈ (worn r w).map fun x => passes L x s) = perhaps L r s w := by
    rw [← any_worn hw h.len, Bool.eq_iff_iff, decide_eq_true_eq, List.any_eq_true]
    simp [List.mem_map]
  have e2 : (!decide (false ∈ (worn r w).map fun x => passes L x s)) = surely L r s w := by
    rw [← all_worn hw h.len, Bool.eq_iff_iff, Bool.not_eq_true', decide_eq_false_iff_not, List.all_eq_true]
    simp [List.mem_map]
  simp only [Bool.false_eq_true, if_false, if_true, e1, e2] at hin hnin
  have a1 : U__law_alike (.lst false [.bl (surely L r s w), .bl (perhaps L r s w)]) (.lst false [.bl (surely L r s w), .bl (perhaps L r s w)]) = .ok (.bl true) := alike_true rfl (by show 3 ≤ 16000000; decide)
  have t2 := uCompT_ofIf (B := fun x : List Int => (U__law_passes (tL L) (tI x) (.int s)).bind fun v59 => (uB v59).bind fun v60 => if (!v60) then R.ok (some (tI x)) else R.ok none) (ps := worn r w) (fun x => !passes L x s) tI (fun x hx => by simp only [passes_ok (h.worn hx), R.bind_ok, uB_bl]) (by omega)
  have f1 : FF L r s w = ((worn r w).filter fun x => !passes L x s).head? := by unfold FF; rw [find_head]
  have a2 : U__law_alike (oD tI (FF L r s w)) (oD tI (FF L r s w)) = .ok (.bl true) := by
    cases q : FF L r s w with
    | none => exact alike_true rfl (by decide)
    | some z =>
      refine alike_true (okA_ints z) ?_
      rw [show sz (oD tI (some z)) = sz (tI z) from rfl, sz_ints]
      have hz : z ∈ worn r w := by unfold FF at q; exact List.mem_of_find?_eq_some q
      rw [worn_length hz]; omega
  -- the window
  have win : ∀ p ∈ r.zip L, (uUnp2 (.tup [.int p.1, tI p.2]) fun v71 v72 => (uIt it1 [v72]).bind fun v73 => (uComp (fun v74 => (uP pSub [v71, .int s]).bind fun v76 => (uI v76).bind fun v77 => (uI v74).bind fun v78 => (if iLe v77 v78 then (uP pAddN [v71, .int w]).bind fun v80 => (uP pAddN [v80, .int s]).bind fun v81 => (uI v81).bind fun v82 => R.ok (.bl (iLe v78 v82)) else R.ok (.bl false)).bind fun v79 => (uB v79).bind fun v83 => if v83 then R.ok (some v74) else R.ok none) v73).bind fun v75 => (uP pEq [v75, (.lst false [])]).bind fun v84 => (uB v84).bind fun v85 => if v85 then R.ok (some (.int 1)) else R.ok none) =
      if (!(p.2.any fun o => decide (p.1 - s ≤ o) && decide (o ≤ p.1 + w + s))) = true then R.ok (some (D.int 1)) else R.ok none := fun p hp => by
    have hl := h.lot _ (List.of_mem_zip hp).2
    have h3 := uCompT_ofIf (B := fun o : Int => (uP pSub [.int p.1, .int s]).bind fun v76 => (uI v76).bind fun v77 => (uI (.int o)).bind fun v78 => (if iLe v77 v78 then (uP pAddN [.int p.1, .int w]).bind fun v80 => (uP pAddN [v80, .int s]).bind fun v81 => (uI v81).bind fun v82 => R.ok (.bl (iLe v78 v82)) else R.ok (.bl false)).bind fun v79 => (uB v79).bind fun v83 => if v83 then R.ok (some (.int o)) else R.ok none) (ps := p.2) (fun o => decide (p.1 - s ≤ o) && decide (o ≤ p.1 + w + s)) D.int (fun o _ => by
      simp only [e_sub, R.bind_ok, uI_int, e_addN, iLe]
      by_cases c1 : p.1 - s ≤ o <;> by_cases c2 : o ≤ p.1 + w + s <;> simp [c1, c2]) (by omega)
    have hk : okP (.lst false ((p.2.filter fun o => decide (p.1 - s ≤ o) && decide (o ≤ p.1 + w + s)).map D.int)) = true := okP_N (okN_lm okN_i (by decide)) (by decide)
    have h2 := eq_nilL hk
    rw [unp2, frz_i, frz_t, e_it1t]
    simp only [R.bind_ok, frzL_cd, uComp_map]
    simp only [uI_int, R.bind_ok] at h3 ⊢
    rw [h3]
    simp only [R.bind_ok, h2, uB_bl]
    have h4 : ((p.2.filter fun o => decide (p.1 - s ≤ o) && decide (o ≤ p.1 + w + s)).map D.int = []) ↔ (p.2.any fun o => decide (p.1 - s ≤ o) && decide (o ≤ p.1 + w + s)) = false := by
      rw [List.map_eq_nil_iff, List.filter_eq_nil_iff, List.any_eq_false]
    simp only [h4]
    cases (p.2.any fun o => decide (p.1 - s ≤ o) && decide (o ≤ p.1 + w + s)) <;> rfl
  have hz : (r.zip L).length ≤ 16777216 := by rw [List.length_zip]; omega
  have t3 := uCompT_ofIf (fun p : Int × List Int => !(p.2.any fun o => decide (p.1 - s ≤ o) && decide (o ≤ p.1 + w + s))) (fun _ => D.int 1) win hz
  have hk3 : okP (.lst false (((r.zip L).filter fun p : Int × List Int => !(p.2.any fun o => decide (p.1 - s ≤ o) && decide (o ≤ p.1 + w + s))).map fun _ => D.int 1)) = true := okP_N (okN_lm (fun _ => okN_i 1) (by decide)) (by decide)
  have n3 := ne_nilL hk3
  have e3 : (!decide (((r.zip L).filter fun p : Int × List Int => !(p.2.any fun o => decide (p.1 - s ≤ o) && decide (o ≤ p.1 + w + s))).map (fun _ => D.int 1) = [])) = !perhaps L r s w := by
    rw [perhaps_zip _ _ _ _ hs hw]
    congr 1
    rw [Bool.eq_iff_iff, decide_eq_true_eq, List.map_eq_nil_iff, List.filter_eq_nil_iff, List.all_eq_true]
    simp
  rw [e3] at n3
  obtain ⟨v, b1, v0, v1, hb1, ht⟩ := take_ok hb (many := 2) (by decide) (by decide)
  have k1 := rep_pe i j (k := if surely L r s w then 1 else 0) (by split <;> decide) (by split <;> decide)
  have k2 := rep_pe i j (k := v) v0 (by omega)
  have l1 := addL_v pe (xs := rt) (ys := List.replicate (if surely L r s w then (1 : Int) else 0).toNat (i, j)) (by rw [List.length_replicate]; split <;> simp <;> omega)
  have l2 := addL_v pe (xs := wt) (ys := List.replicate v.toNat (i, j)) (by rw [List.length_replicate]; omega)
  refine ⟨b1, rt ++ List.replicate (if surely L r s w then (1 : Int) else 0).toNat (i, j), wt ++ List.replicate v.toNat (i, j), ?_, hb1, ?_, ?_⟩
  · unfold cellB
    rw [unp2, frz_i, frz_t, worn_ok hr hw hw2]
    simp only [R.bind_ok]
    rw [lT, e_it1l, frzL_cd]
    simp only [R.bind_ok, uComp_map]
    rw [t1, surely_ok h hw (by omega), perhaps_ok h hw (by omega)]
    simp only [R.bind_ok]
    rw [t1', show pNotIn = pInG true from rfl, show pIn = pInG false from rfl, hnin, hin]
    simp only [R.bind_ok]
    rw [a1]
    simp only [R.bind_ok, uB_bl, Bool.not_true, Bool.false_eq_true, if_false]
    rw [t2, worn_row_ok h hw (by omega)]
    simp only [R.bind_ok]
    rw [ne_nilL (okP_rows _)]
    simp only [R.bind_ok, uB_bl]
    rw [head_ix, ← f1]
    simp only [R.bind_ok]
    rw [a2]
    simp only [R.bind_ok, uB_bl, Bool.not_true, Bool.false_eq_true, if_false]
    rw [show uIt zA2 [tI r, tL L] = .ok ((r.zip L).map fun p => .tup [.int p.1, tI p.2]) from by
      show uIt zA2 [.tup (r.map D.int), .tup (L.map tI)] = _
      rw [e_z2tt, frzL_cd, frzL_cd, zip2_map]]
    simp only [R.bind_ok]
    rw [uComp_map, t3]
    simp only [R.bind_ok]
    rw [n3]
    simp only [R.bind_ok]
    have hne : ((!perhaps L r s w) == perhaps L r s w) = false := by cases perhaps L r s w <;> rfl
    simp only [e_eqb, R.bind_ok, uB_bl, hne, Bool.false_eq_true, if_false, e_intb]
    rw [k1]
    simp only [R.bind_ok]
    rw [l1]
    simp only [R.bind_ok]
    rw [ht]
    simp only [R.bind_ok]
    rw [k2]
    simp only [R.bind_ok]
    rw [l2]
    rfl
  · rw [List.length_append, List.length_replicate]
    have : (if surely L r s w then (1 : Int) else 0).toNat ≤ 1 := by split <;> decide
    omega
  · rw [List.length_append, List.length_replicate]; omega
end U
end Y

end
section
set_option Elab.async false
set_option linter.all false
set_option maxRecDepth 100000
set_option maxHeartbeats 4000000
set_option autoImplicit false
/-! K29i: the rows of couples, and one wish. -/
namespace Y
namespace U
open PySem L2
def Wst (K : Nat) (t : D × D × D) : Prop := ∃ (b : D) (rt wt : List (Int × Int)), t = (b, lT pe rt, lT pe wt) ∧ Bag b ∧ rt.length ≤ K ∧ wt.length ≤ K
theorem ent_it {α : Type} (e : α → D) [Cd e] (xs : List α) : uIt eA [tT e xs] = .ok (xs.zipIdx.map fun p => .tup [.int (p.2 : Nat), e p.1]) := by
  show uIt eA [.tup (xs.map e)] = _
  rw [e_ent, frzL_cd, enum_map]
theorem row_ok {locks : List (List (List Int))} {r : List Int} {s w i : Int} {K : Nat} {t : D × D × D} (h : ∀ L ∈ locks, LR L r) (hr : r.length ≤ 2) (hs : 0 ≤ s) (hw : 0 ≤ w) (hw2 : w ≤ 9) (ht : Wst K t) (hK : K + locks.length ≤ 1000) :
    ∃ t', rowB (.int s) (.int w) (tT tL locks) (.tup [.int i, tI r]) t = .ok (.next t') ∧ Wst (K + locks.length) t' := by
  obtain ⟨t', e, _, K', hK', hs'⟩ := forU_inv (B := cellB (.int s) (.int w) (.int i) (tI r)) (h := fun p : List (List Int) × Nat => .tup [.int (p.2 : Nat), tL p.1]) (J := fun ps t => (∀ q ∈ ps, q ∈ locks.zipIdx) ∧ ∃ K', K' + ps.length = K + locks.length ∧ Wst K' t) (ps := locks.zipIdx) (t := t) ⟨fun _ h => h, K, by rw [List.length_zipIdx], ht⟩ fun p qs t ⟨hm, K', hK', hst⟩ => by
    obtain ⟨b, rt, wt, rfl, hb, h1, h2⟩ := hst
    have hp := hm p List.mem_cons_self
    rw [List.length_cons] at hK'
    obtain ⟨b', rt', wt', e, hb', h1', h2'⟩ := cell_ok (i := i) (j := (p.2 : Nat)) (h p.1 (List.fst_mem_of_mem_zipIdx hp)) hr hs hw hw2 hb (by omega : rt.length ≤ 1000) (by omega : wt.length ≤ 1000)
    exact ⟨_, e, fun q hq => hm q (List.mem_cons_of_mem _ hq), K' + 1, by omega, b', rt', wt', rfl, hb', by omega, by omega⟩
  refine ⟨t', ?_, ?_⟩
  · unfold rowB
    rw [unp2, frz_i, frz_t, ent_it]
    simp only [R.bind_ok]
    rw [show (t.1, t.2.1, t.2.2) = t from rfl, e]
    rfl
  · rw [List.length_nil, Nat.add_zero] at hK'; rw [← hK']; exact hs'
theorem rows_ok {rows : List (List Int)} {locks : List (List (List Int))} {s w : Int} {b : D} (h : RLs rows locks) (hr : ∀ r ∈ rows, r.length ≤ 2) (hl : rows.length ≤ 10) (hl2 : locks.length ≤ 10) (hs : 0 ≤ s) (hw : 0 ≤ w) (hw2 : w ≤ 9) (hb : Bag b) :
    ∃ t', forU (rowB (.int s) (.int w) (tT tL locks)) (rows.zipIdx.map fun p => .tup [.int (p.2 : Nat), tI p.1]) (b, .lst false [], .lst false []) = .ok (.next t') ∧ Wst 1000 t' := by
  obtain ⟨t', e, _, K', hK', hs'⟩ := forU_inv (B := rowB (.int s) (.int w) (tT tL locks)) (h := fun p : List Int × Nat => .tup [.int (p.2 : Nat), tI p.1]) (J := fun ps t => (∀ q ∈ ps, q ∈ rows.zipIdx) ∧ ∃ K', K' + 10 * ps.length ≤ 100 ∧ Wst K' t) (ps := rows.zipIdx) (t := (b, .lst false [], .lst false [])) ⟨fun _ h => h, 0, by rw [List.length_zipIdx]; omega, b, [], [], rfl, hb, Nat.le_refl _, Nat.le_refl _⟩ fun p qs t ⟨hm, K', hK', hst⟩ => by
    have hp := List.fst_mem_of_mem_zipIdx (hm p List.mem_cons_self)
    rw [List.length_cons] at hK'
    obtain ⟨t', e, hs'⟩ := row_ok (i := (p.2 : Nat)) (h p.1 hp) (hr _ hp) hs hw hw2 hst (by omega)
    exact ⟨t', e, fun q hq => hm q (List.mem_cons_of_mem _ hq), K' + locks.length, by omega, hs'⟩
  refine ⟨t', e, ?_⟩
  obtain ⟨b, rt, wt, e, hb, h1, h2⟩ := hs'
  exact ⟨b, rt, wt, e, hb, by omega, by omega⟩
theorem F1_len {rows : List (List Int)} {locks : List (List (List Int))} {ws : List (Int × Int)} {s w : Int} {t : Nat × Nat × List Int} (hr : ∀ r ∈ rows, r.length ≤ 2) (e : F1 rows locks ws s w = some t) : t.2.2.length ≤ 2 := by
  unfold F1 at e
  obtain ⟨p, hp, e1⟩ := List.exists_of_findSome?_eq_some e
  obtain ⟨q, hq, e2⟩ := List.exists_of_findSome?_eq_some e1
  rw [Option.map_eq_some_iff] at e2
  obtain ⟨z, e3, rfl⟩ := e2
  rw [CF_find] at e3
  show z.length ≤ 2
  rw [worn_length (List.mem_of_find?_eq_some e3)]
  exact hr _ (List.fst_mem_of_mem_zipIdx hp)
theorem rg_snoc (n : Nat) : rg 0 ((n + 1 : Nat) : Int) = rg 0 n ++ [(n : Int)] := by
  unfold rg
  rw [show (((n + 1 : Nat) : Int) - 0).toNat = n + 1 by omega, show ((n : Int) - 0).toNat = n by omega, List.range_succ, List.map_append]
  simp
theorem okA_F (t : Option (Nat × Nat × List Int)) (c : Bool) : okA (.lst false [oD ft t, .bl c]) = true := by
  cases t with
  | none => rfl
  | some t =>
    show (okA (ft t) && _) = true
    have : okA (ft t) = okA (tI t.2.2) := by
      show (true && (true && (okA (tI t.2.2) && true))) = _
      simp
    rw [this, okA_ints]; rfl
theorem wishB_ok {rows : List (List Int)} {locks : List (List (List Int))} {ws : List (Int × Int)} {s w : Int} (h : RLs rows locks) (hr : ∀ r ∈ rows, r.length ≤ 2) (hw : 0 ≤ w) (hw2 : w ≤ 9) : wishB (.int s) (.int w) (tT tI rows) (tT tL locks) (tT pe ws) () = .ok (.next ()) := by
  have a1 : U__law_alike (.lst false [oD ft (F1 rows locks ws s w), .bl (F1 rows locks ws s w).isNone]) (.lst false [oD ft (F1 rows locks ws s w), .bl (F1 rows locks ws s w).isNone]) = .ok (.bl true) := by
    refine alike_true (okA_F _ _) ?_
    cases q : F1 rows locks ws s w with
    | none => show 3 ≤ 16000000; decide
    | some t =>
      have := F1_len hr q
      show 1 + ((1 + (1 + (1 + (sz (tI t.2.2) + 0)))) + (1 + 0)) ≤ 16000000
      rw [sz_ints]; omega
  have h1 := e_rng1 (j := 10) (by decide) (by decide)
  have h2 := uCompT_ofIf (B := fun w : Int => (uP pLt [.int w, (.int 4)]).bind fun v114 => (uB v114).bind fun v115 => (if v115 then (U__law_fault (tT tI rows) (tT tL locks) (tT pe ws) (.int s) (.int w)).bind fun v117 => R.ok (isNon v117) else R.ok false).bind fun v116 => if v116 then R.ok (some (.int w)) else R.ok none) (ps := rg 0 10) (fun w => decide (w < 4) && (F1 rows locks ws s w).isNone) D.int (fun w hw => by
    rw [mem_rg] at hw
    simp only [e_lt, R.bind_ok, uB_bl]
    by_cases c : w < 4
    · simp only [c, decide_true, if_true, Bool.true_and]
      rw [fault_ok h hr (by omega) (by omega)]
      simp only [R.bind_ok, e_isN, isNon_o ft isNon_ft, uB_bl]
    · simp [c]) (by decide)
  obtain ⟨n, n1, n2, n3⟩ := filter_first (fun w => (F1 rows locks ws s w).isNone) 10 fun a b h0 hab hb hq => by
    rw [Option.isNone_iff_eq_none] at hq ⊢; exact F1_mono h h0 hab hq
  obtain ⟨m, m1, m2, m3⟩ := filter_first (fun w => decide (w < 4) && (F1 rows locks ws s w).isNone) 10 fun a b h0 hab hb hq => by
    rw [Bool.and_eq_true, decide_eq_true_eq, Option.isNone_iff_eq_none] at hq ⊢
    exact ⟨by omega, F1_mono h h0 hab hq.2⟩
  have hm : m = min n 4 := by
    have k1 := m3 (m : Int)
    have k2 := m3 (min n 4 : Nat)
    have k3 := n3 (m : Int)
    have k4 := n3 (min n 4 : Nat)
    simp only [Bool.and_eq_true, decide_eq_true_eq] at k1 k2
    rcases Nat.lt_trichotomy m (min n 4) with c | c | c
    · have := (k1 (by omega) (by omega)).mp ⟨by omega, (k3 (by omega) (by omega)).mpr (by omega)⟩; omega
    · exact c
    · have := (k2 (by omega) (by omega)).mpr (by omega)
      have := (k4 (by omega) (by omega)).mp this.2
      omega
  have m2' : (rg 0 10).filter (fun w => decide (w < 4) && (F1 rows locks ws s w).isNone) = rg 0 m := m2
  have n2' : SW rows locks ws s = rg 0 n := n2
  unfold wishB
  rw [fault_ok h hr hw hw2, first_ok h hw (by omega), safe_ok h hw (by omega)]
  simp only [R.bind_ok, e_isN, isNon_o ft isNon_ft]
  rw [a1]
  simp only [R.bind_ok, uB_bl, Bool.not_true, Bool.false_eq_true, if_false]
  rw [h1]
  simp only [R.bind_ok]
  rw [uComp_map, h2, m2']
  simp only [R.bind_ok]
  rw [most_ok h, n2', rg_last]
  simp only [R.bind_ok]
  have hk : okP (.lst false ((rg 0 m).map D.int)) = true := okP_N (okN_lm okN_i (by decide)) (by decide)
  rw [eq_nilL hk, ne_nilL hk]
  cases m with
  | zero =>
    have : n = 0 := by omega
    subst this
    rfl
  | succ m =>
    have hn : n ≠ 0 := by omega
    rw [if_neg hn]
    have hix : uP pIx [.lst false ((rg 0 ((m + 1 : Nat) : Int)).map D.int), .int (-1)] = .ok (.int m) := by
      rw [rg_snoc, List.map_append]; exact ix_last _ _
    have hne : decide ((rg 0 ((m + 1 : Nat) : Int)).map D.int = []) = false := by
      rw [rg_snoc]; simp
    simp only [hne, R.bind_ok, uB_bl, Bool.false_eq_true, if_false, Bool.not_false, if_true, oD, e_isN, isNon, e_neg, hix, e_lt, e_nei]
    have c1 : decide (((n : Nat) : Int) - 1 < (m : Int)) = false := by rw [decide_eq_false_iff_not]; omega
    simp only [c1, Bool.false_eq_true, if_false, R.bind_ok]
    by_cases c2 : (m : Int) < 3
    · have c3 : ((n : Nat) : Int) - 1 = (m : Int) := by omega
      simp [c2, c3]
    · simp [c2]
end U
end Y

end
section
set_option Elab.async false
set_option linter.all false
set_option maxRecDepth 100000
set_option maxHeartbeats 4000000
set_option autoImplicit false
/-! K29j: one turn of the law, and the law. -/
namespace Y
namespace U
open PySem L2
noncomputable def turnB : D → D → R (Step D D) :=
fun v3 (v4 : D) => (U__law_take v4 (.int 2)).bind fun v6 => (uP pAddN [(.int 1), v6.1]).bind fun v7 => (U__law_take v6.2 (.int 4)).bind fun v8 => (U__law_take v8.2 (.int 4)).bind fun v9 => (U__law_take v9.2 (.int 4)).bind fun v10 => (uP pAddN [(.int 1), v10.1]).bind fun v11 => (uRng1 v11).bind fun v12 => (uCompS (fun v13 v15 => (uRng1 v7).bind fun v16 => (uCompS (fun v17 v19 => (U__law_take v19 (.int 10)).bind fun v20 => (uP pAddN [(.int 1), v20.1]).bind fun v21 => R.ok (some v21, v20.2)) v16 v15).bind fun v18 => (uP pTuple [v18.1]).bind fun v22 => R.ok (some v22, v18.2)) v12 v10.2).bind fun v14 => (uP pTuple [v14.1]).bind fun v23 => (U__law_take v14.2 (.int 4)).bind fun v24 => (uP pAddN [(.int 1), v24.1]).bind fun v25 => (uRng1 v25).bind fun v26 => (uCompS (fun v27 v29 => (U__law_lots_drawn v29 v7 v23).bind fun v30 => R.ok (some v30.1, v30.2)) v26 v24.2).bind fun v28 => (uP pTuple [v28.1]).bind fun v31 => (uIt eA [v23]).bind fun v32 => (forU (rowB v8.1 v9.1 v31) v32 (v28.2, (.lst false []), (.lst false []))).bind fun v98 => jn v98 fun v35 =>
  (uP pTuple [v35.2.1]).bind fun v99 => (uP pTuple [v35.2.2]).bind fun v100 => (uIt it1 [(.tup [v99, v100])]).bind fun v101 => (forU (wishB v8.1 v9.1 v23 v31) v101 ()).bind fun v147 => jn v147 fun v104 =>
  R.ok (.next v35.1)
theorem law_def (x0 : D) : U_law x0 = (U__law_bag x0).bind fun v1 => (uRng1 (.int 4)).bind fun v2 => (forU turnB v2 v1).bind fun v148 => jn v148 fun _ => R.ok (.bl true) := rfl
theorem a2len {α β : Type} {P : α → β → Prop} : ∀ {as : List α} {bs : List β}, All2 P as bs → as.length = bs.length
  | _, _, .nil => rfl
  | _, _, .cons _ t => by rw [List.length_cons, List.length_cons, a2len t]
theorem row_drawn {c : Int} (h0 : 0 ≤ c) (h1 : c ≤ 2) {b : D} (hb : Bag b) : ∃ (r : List Int) (b' : D), ((uRng1 (.int c)).bind fun v16 => (uCompS (fun v17 v19 => (U__law_take v19 (.int 10)).bind fun v20 => (uP pAddN [(.int 1), v20.1]).bind fun v21 => R.ok (some v21, v20.2)) v16 b).bind fun v18 => (uP pTuple [v18.1]).bind fun v22 => R.ok (some v22, v18.2)) = .ok (some (tI r), b') ∧ Bag b' ∧ r.length = c.toNat := by
  obtain ⟨ys, b', e, hb', a⟩ := uCompS_ex (B := fun v17 (v19 : D) => (U__law_take v19 (.int 10)).bind fun v20 => (uP pAddN [(.int 1), v20.1]).bind fun v21 => R.ok (some v21, v20.2)) (h := D.int) (J := Bag) (e := D.int) (P := fun _ _ => True) (ps := rg 0 c) hb (by rw [rg_len]; omega) fun p _ t ht => by
    obtain ⟨v, b1, v0, v1, hb1, e1⟩ := take_ok ht (many := 10) (by decide) (by decide)
    refine ⟨1 + v, b1, ?_, hb1, trivial⟩
    show (U__law_take t (.int 10)).bind _ = _
    rw [e1]
    simp only [R.bind_ok, e_addN]
  refine ⟨ys, b', ?_, hb', ?_⟩
  · rw [e_rng1 (by omega) (by omega)]
    simp only [R.bind_ok]
    rw [e]
    rfl
  · rw [← a2len a, rg_len]; congr 1; omega
theorem turn_ok (x : D) {b : D} (hb : Bag b) : ∃ b', turnB x b = .ok (.next b') ∧ Bag b' := by
  obtain ⟨c, b1, c0, c1, hb1, e1⟩ := take_ok hb (many := 2) (by decide) (by decide)
  obtain ⟨s, b2, s0, s1, hb2, e2⟩ := take_ok hb1 (many := 4) (by decide) (by decide)
  obtain ⟨w, b3, w0, w1, hb3, e3⟩ := take_ok hb2 (many := 4) (by decide) (by decide)
  obtain ⟨n, b4, n0, n1, hb4, e4⟩ := take_ok hb3 (many := 4) (by decide) (by decide)
  obtain ⟨rows, b5, e5, hb5, a5⟩ := uCompS_ex (B := fun v13 (v15 : D) => (uRng1 (.int (1 + c))).bind fun v16 => (uCompS (fun v17 v19 => (U__law_take v19 (.int 10)).bind fun v20 => (uP pAddN [(.int 1), v20.1]).bind fun v21 => R.ok (some v21, v20.2)) v16 v15).bind fun v18 => (uP pTuple [v18.1]).bind fun v22 => R.ok (some v22, v18.2)) (h := D.int) (J := Bag) (e := tI) (P := fun _ r => r.length = (1 + c).toNat) (ps := rg 0 (1 + n)) hb4 (by rw [rg_len]; omega) fun p _ t ht => row_drawn (by omega) (by omega) ht
  have hlen := a2len a5
  rw [rg_len] at hlen
  have hr : ∀ r ∈ rows, r.length = (1 + c).toNat := fun r hr => by obtain ⟨_, _, h⟩ := all2_mem a5 r hr; exact h
  have hne : rows ≠ [] := by intro h; rw [h] at hlen; simp at hlen; omega
  obtain ⟨m, b6, m0, m1, hb6, e6⟩ := take_ok hb5 (many := 4) (by decide) (by decide)
  obtain ⟨locks, b7, e7, hb7, a7⟩ := uCompS_ex (B := fun v27 (v29 : D) => (U__law_lots_drawn v29 (.int (1 + c)) (tT tI rows)).bind fun v30 => R.ok (some v30.1, v30.2)) (h := D.int) (J := Bag) (e := tL) (P := fun _ L => L.length = (1 + c).toNat ∧ ∀ l ∈ L, l.length ≤ 1000) (ps := rg 0 (1 + m)) hb6 (by rw [rg_len]; omega) fun p _ t ht => by
    obtain ⟨L, b', e, hb', h1, h2⟩ := lots_ok ht (n := 1 + c) (by omega) (by omega) hne (by omega) hr
    refine ⟨L, b', ?_, hb', h1, h2⟩
    show (U__law_lots_drawn t _ _).bind _ = _
    rw [e]; rfl
  have hlen2 := a2len a7
  rw [rg_len] at hlen2
  have hR : RLs rows locks := fun r h1 L h2 => by
    obtain ⟨_, _, h3, h4⟩ := all2_mem a7 L h2
    exact ⟨by rw [h3, hr r h1], by rw [hr r h1]; omega, h4⟩
  have hr2 : ∀ r ∈ rows, r.length ≤ 2 := fun r h1 => by rw [hr r h1]; omega
  obtain ⟨t, e8, b8, rt, wt, rfl, hb8, l1, l2⟩ := rows_ok hR hr2 (by omega) (by omega) s0 w0 (by omega : w ≤ 9) hb7
  refine ⟨b8, ?_, hb8⟩
  unfold turnB
  rw [e1]
  simp only [R.bind_ok, e_addN]
  rw [e2]
  simp only [R.bind_ok]
  rw [e3]
  simp only [R.bind_ok]
  rw [e4]
  simp only [R.bind_ok, e_addN]
  rw [e_rng1 (by omega) (by omega)]
  simp only [R.bind_ok]
  rw [e5]
  simp only [R.bind_ok]
  rw [lT, e_tup]
  simp only [R.bind_ok]
  rw [e6]
  simp only [R.bind_ok, e_addN]
  rw [e_rng1 (by omega) (by omega)]
  simp only [R.bind_ok]
  rw [e7]
  simp only [R.bind_ok]
  rw [lT, e_tup]
  simp only [R.bind_ok]
  rw [ent_it]
  simp only [R.bind_ok]
  rw [e8]
  simp only [R.bind_ok, jn_next]
  rw [show uP pTuple [lT pe rt] = .ok (tT pe rt) from rfl, show uP pTuple [lT pe wt] = .ok (tT pe wt) from rfl]
  simp only [R.bind_ok]
  rw [show uIt it1 [.tup [tT pe rt, tT pe wt]] = .ok [tT pe rt, tT pe wt] from by
    show R.ok (frz.frzL [tT pe rt, tT pe wt]) = _
    show R.ok [frz (tT pe rt), frz (tT pe wt)] = _
    rw [Cd.h (e := tT pe) rt, Cd.h (e := tT pe) wt]]
  simp only [R.bind_ok]
  rw [show forU (wishB (.int s) (.int w) (tT tI rows) (tT tL locks)) [tT pe rt, tT pe wt] () = .ok (.next ()) from by
    show (wishB (.int s) (.int w) (tT tI rows) (tT tL locks) (tT pe rt) ()).bind _ = _
    rw [wishB_ok hR hr2 w0 (by omega)]
    show (wishB (.int s) (.int w) (tT tI rows) (tT tL locks) (tT pe wt) ()).bind _ = _
    rw [wishB_ok hR hr2 w0 (by omega)]
    rfl]
  rfl
theorem law_ok (ns : List Int) (hl : ns.length ≤ 63) : U_law (.lst false (ns.map D.int)) = .ok (.bl true) := by
  obtain ⟨b, hb, e⟩ := bag_ok ns hl
  obtain ⟨b', e2, _⟩ := forU_all (B := turnB) (h := D.int) (J := Bag) (ps := rg 0 4) hb fun p _ t ht => turn_ok _ ht
  rw [law_def, e]
  simp only [R.bind_ok]
  rw [e_rng1 (by decide) (by decide)]
  simp only [R.bind_ok]
  rw [e2]
  rfl
end U
end Y

end
section
set_option Elab.async false
set_option linter.all false
set_option maxRecDepth 100000
set_option maxHeartbeats 4000000
set_option autoImplicit false
/-! K29k: the law holds. -/
namespace Y
namespace U
open PySem L2
theorem law_true (ns : List Int) (hl : ns.length ≤ 63) : ∃ as, Φ_law [.lst false (ns.map D.int)] = .ok (.bl true) as := by
  have h := T_law .any [.lst false (ns.map D.int)] (.cons trivial .nil)
  have e : W_law ([.lst false (ns.map D.int)].map frz) = .ok (.bl true) := by
    show U_law (.lst false (frz.frzL (ns.map D.int))) = _
    rw [frzL_cd]
    exact law_ok ns hl
  rw [e] at h
  obtain ⟨d, as, h1, h2, _⟩ := h
  have h2 : frz d = .bl true := h2
  rw [frz_bl h2] at h1
  exact ⟨as, h1⟩
end U
end Y

end
section
open PySem PySem.W PyProof.Rows
set_option maxHeartbeats 0 in
theorem PySem.Challenge.cw_keysbelow_k29_whole_safe_for_all_wear_holds : PySem.Challenge.rw_keysbelow_k29_whole_safe_for_all_wear.Holds := by
  w_on; o_law; k_head; (case hw => w_witness2)
  k_fill
  refine L2.walk_of (l := PySem.Challenge.rw_keysbelow_k29_whole_safe_for_all_wear) (n := 63) (k := 9) (x := "script") (CX := fun w => L2.CX PySem.Challenge.rw_keysbelow_k29_whole_safe_for_all_wear.prog w) (sp := fun w => Y.spF _ (fun _ _ _ _ _ => False) 1 Y.Φ_law) rfl (by decide) rfl ⟨rfl, by decide, by decide⟩ (fun w h Y => PySem.W.kIn_of Y) ?F (fun w H a ns hl hO hS => Y.law_sp hO hS (Y.U.law_true ns hl)) (fun w H s e s' h => Y.cx_none h)
  case F =>
    intro w mg fa h KX G hmg
    refine' Y.all_mk KX G hmg ?a0 ?l0 ?c0 ?k0 ?a1 ?l1 ?c1 ?k1 ?a2 ?l2 ?c2 ?k2 ?a3 ?l3 ?c3 ?k3 ?a4 ?l4 ?c4 ?k4 ?a5 ?l5 ?c5 ?k5 ?a6 ?l6 ?c6 ?k6 ?a7 ?l7 ?c7 ?k7 ?a8 ?l8 ?c8 ?k8 ?a9 ?l9 ?c9 ?k9 ?a10 ?l10 ?c10 ?k10 ?a11 ?l11 ?c11 ?k11 ?a12 ?l12 ?c12 ?k12 ?a13 ?l13 ?c13 ?k13 ?a14 ?l14 ?c14 ?k14 ?a15 ?l15 ?c15 ?k15 ?a16 ?l16 ?c16 ?k16 ?a17 ?l17 ?c17 ?k17 ?a18 ?l18 ?c18 ?k18 ?a19 ?l19 ?c19 ?k19 ?g_MOST_WEAR ?z_abs ?z_int ?z_len ?z_list ?z_tuple ?z_range ?z_sorted ?z_zip ?z_isinstance ?z_bool ?z_str ?z_any ?z_all ?z_enumerate
    (case a0 => k_is); (case l0 => k_is); (case c0 => k_is); (case k0 => k_is); (case a1 => k_is); (case l1 => k_is); (case c1 => k_is); (case k1 => k_is); (case a2 => k_is); (case l2 => k_is); (case c2 => k_is); (case k2 => k_is); (case a3 => k_is); (case l3 => k_is); (case c3 => k_is); (case k3 => k_is); (case a4 => k_is); (case l4 => k_is); (case c4 => k_is); (case k4 => k_is); (case a5 => k_is); (case l5 => k_is); (case c5 => k_is); (case k5 => k_is); (case a6 => k_is); (case l6 => k_is); (case c6 => k_is); (case k6 => k_is); (case a7 => k_is); (case l7 => k_is); (case c7 => k_is); (case k7 => k_is); (case a8 => k_is); (case l8 => k_is); (case c8 => k_is); (case k8 => k_is); (case a9 => k_is); (case l9 => k_is); (case c9 => k_is); (case k9 => k_is); (case a10 => k_is); (case l10 => k_is); (case c10 => k_is); (case k10 => k_is); (case a11 => k_is); (case l11 => k_is); (case c11 => k_is); (case k11 => k_is); (case a12 => k_is); (case l12 => k_is); (case c12 => k_is); (case k12 => k_is); (case a13 => k_is); (case l13 => k_is); (case c13 => k_is); (case k13 => k_is); (case a14 => k_is); (case l14 => k_is); (case c14 => k_is); (case k14 => k_is); (case a15 => k_is); (case l15 => k_is); (case c15 => k_is); (case k15 => k_is); (case a16 => k_is); (case l16 => k_is); (case c16 => k_is); (case k16 => k_is); (case a17 => k_is); (case l17 => k_is); (case c17 => k_is); (case k17 => k_is); (case a18 => k_is); (case l18 => k_is); (case c18 => k_is); (case k18 => k_is); (case a19 => k_is); (case l19 => k_is); (case c19 => k_is); (case k19 => k_is); (case g_MOST_WEAR => k_is); (case z_abs => k_is); (case z_int => k_is); (case z_len => k_is); (case z_list => k_is); (case z_tuple => k_is); (case z_range => k_is); (case z_sorted => k_is); (case z_zip => k_is); (case z_isinstance => k_is); (case z_bool => k_is); (case z_str => k_is); (case z_any => k_is); (case z_all => k_is); (case z_enumerate => k_is)

end
