import PyProof.Rows.All
import Wide.All
import OpenK.AllK
import Wide.FinOn
import HandS.ForMost
import HandS.ForExc
import KE.GoesMore
import KE.GoesZip
import KE.GoesEnum
import KE.KDictZip
import HandS.TupAny
import HandS.Deep
import HandS.IsInst
import HandS.Codes
import HandS.Conv
import PySem.Challenge.RW_keysbelow_k18_rows_below_one_another
section
set_option Elab.async false
set_option linter.all false
set_option maxRecDepth 100000
/-! Y1: data as trees, results, the relation between trees and the tracked heap. -/
namespace Y
open PySem L2

/-- Python data as trees; the Bool of a list tells whether it is owned (may still be changed) -/
inductive D where
  | non | bl (b : Bool) | int (i : Int) | str (s : Str)
  | tup (xs : List D)
  | lst (o : Bool) (xs : List D)
  | dct (o : Bool) (kvs : List (D × D))
  | set (o : Bool) (xs : List D)
  | exn (c : Nat) (xs : List D)
  deriving Inhabited

/-- no longer owned -/
def frz : D → D
  | .lst _ xs => .lst false (frzL xs)
  | .dct _ kvs => .dct false (frzP kvs)
  | .set _ xs => .set false xs
  | d => d
where
  frzL : List D → List D
    | [] => []
    | x :: xs => frz x :: frzL xs
  frzP : List (D × D) → List (D × D)
    | [] => []
    | (k, v) :: r => (k, frz v) :: frzP r
/-- its parts no longer owned -/
def chill : D → D
  | .lst o xs => .lst o (frz.frzL xs)
  | .dct o kvs => .dct o (frz.frzP kvs)
  | d => d

theorem frzL_map (xs : List D) : frz.frzL xs = xs.map frz := by
  induction xs with
  | nil => rfl
  | cons x xs ih => simp [frz.frzL, ih]
theorem frzP_map (xs : List (D × D)) : frz.frzP xs = xs.map fun p => (p.1, frz p.2) := by
  induction xs with
  | nil => rfl
  | cons x xs ih => simp [frz.frzP, ih]

/-- the slots of a frame -/
abbrev Env := List (Option D)
/-- what is fixed while a part runs: slots that may not be stored, slots that may not be changed -/
structure Ctx where
  prot : List Nat := []
  lock : List Nat := []
inductive Rs (α : Type) where
  | ok (a : α) (ρ : Env)
  | exc (e : D) (ρ : Env)
  | bad
abbrev M (α : Type) := Ctx → Env → Rs α

/-! ### the tracked heap and trees -/
mutual
/-- v stands for the tree d; F: the addresses of its owned parts; Av: all owned addresses -/
inductive Rep (K : PySem.W.Frag) (Av : Addr → Prop) (H : Hp) : List Addr → V → D → Prop
  | non : Rep K Av H [] .non .non
  | bl (b : Bool) : Rep K Av H [] (.bl b) (.bl b)
  | int (i : Int) : Rep K Av H [] (.int i) (.int i)
  | str (s : Str) : Rep K Av H [] (.str s) (.str s)
  | tup {a : Addr} {vs : List V} {ds : List D} : SqT K H a vs → RepL K Av H [] vs ds → Rep K Av H [] (.ref a) (.tup ds)
  | lstF {a : Addr} {vs : List V} {ds : List D} : Rd H a (.lst vs) → ¬ Av a → RepL K Av H [] vs ds → Rep K Av H [] (.ref a) (.lst false ds)
  | lstK {a : Addr} {vs : List V} {ds : List D} : SqL K (fun _ => none) a vs → RepL K Av H [] vs ds → Rep K Av H [] (.ref a) (.lst false ds)
  | lstO {a : Addr} {vs : List V} {ds : List D} {F : List Addr} : H a = some (.lst vs) → Av a → RepL K Av H F vs ds → a ∉ F → F.Nodup → Rep K Av H (a :: F) (.ref a) (.lst true ds)
inductive RepL (K : PySem.W.Frag) (Av : Addr → Prop) (H : Hp) : List Addr → List V → List D → Prop
  | nil : RepL K Av H [] [] []
  | cons {v : V} {d : D} {vs : List V} {ds : List D} {F G : List Addr} : Rep K Av H F v d → RepL K Av H G vs ds → RepL K Av H (F ++ G) (v :: vs) (d :: ds)
end

/-- what is owned is tracked and may be changed -/
def AvOk (Av : Addr → Prop) (H : Hp) : Prop := ∀ a, Av a → ∃ o, H a = some o ∧ Mut (some o)

section
variable {K : PySem.W.Frag} {Av Av' : Addr → Prop} {H H' : Hp} {F G : List Addr} {v : V} {d : D} {vs : List V} {ds : List D}
mutual
theorem Rep.av : ∀ {F : List Addr} {v : V} {d : D}, Rep K Av H F v d → ∀ a ∈ F, Av a
  | _, _, _, .non, _, h => by simp at h
  | _, _, _, .bl _, _, h => by simp at h
  | _, _, _, .int _, _, h => by simp at h
  | _, _, _, .str _, _, h => by simp at h
  | _, _, _, .tup _ _, _, h => by simp at h
  | _, _, _, .lstF _ _ _, _, h => by simp at h
  | _, _, _, .lstK _ _, _, h => by simp at h
  | _, _, _, .lstO h1 h2 h3 _ _, a, h => by
    rcases List.mem_cons.mp h with e | h
    · rw [e]; exact h2
    · exact RepL.av h3 a h
theorem RepL.av : ∀ {F : List Addr} {vs : List V} {ds : List D}, RepL K Av H F vs ds → ∀ a ∈ F, Av a
  | _, _, _, .nil, _, h => by simp at h
  | _, _, _, .cons h1 h2, a, h => by
    rcases List.mem_append.mp h with h | h
    · exact Rep.av h1 a h
    · exact RepL.av h2 a h
end

/-- a way from one state of the ghosts to another that keeps what is not told -/
structure Keep (Av Av' : Addr → Prop) (H H' : Hp) (T : Addr → Prop) : Prop where
  keep : ∀ a o, H a = some o → ¬ T a → H' a = some o
  av : ∀ a, Av' a → Av a ∨ H a = none
  own : ∀ a, Av a → ¬ T a → Av' a

theorem sql_any {a : Addr} (h : SqL K (fun _ => none) a vs) : SqL K H a vs := by
  rcases h with h | h
  · rcases h with h | ⟨o, h⟩ <;> cases h
  · exact .inr h
theorem rd_some {a : Addr} {u : HO} (h : Rd H a u) : ∃ o, H a = some o := by
  rcases h with h | ⟨o, h⟩ <;> exact ⟨_, h⟩
theorem Rd.keep {T : Addr → Prop} (k : Keep Av Av' H H' T) {a : Addr} {u : HO} (h : Rd H a u) (n : ¬ T a) : Rd H' a u := by
  rcases h with h | ⟨o, h⟩
  · exact .inl (k.keep a _ h n)
  · exact .inr ⟨o, k.keep a _ h n⟩
theorem SqT.keepT {T : Addr → Prop} (ok : AvOk Av H) (hT : ∀ a, T a → Av a) (k : Keep Av Av' H H' T) {a : Addr} (h : SqT K H a vs) : SqT K H' a vs := by
  rcases h with h | h
  · refine .inl (Rd.keep k h fun t => ?_)
    obtain ⟨o, e, m⟩ := ok a (hT a t)
    rcases h with h | ⟨o', h⟩
    · rw [h] at e; cases e; exact m
    · rw [h] at e; cases e; exact m
  · exact .inr h

mutual
theorem Rep.keep {T : Addr → Prop} (ok : AvOk Av H) (hT : ∀ a, T a → Av a) (k : Keep Av Av' H H' T) : ∀ {F : List Addr} {v : V} {d : D}, Rep K Av H F v d → (∀ a ∈ F, ¬ T a) → Rep K Av' H' F v d
  | _, _, _, .non, _ => .non
  | _, _, _, .bl b, _ => .bl b
  | _, _, _, .int i, _ => .int i
  | _, _, _, .str s, _ => .str s
  | _, _, _, .tup h1 h2, n => .tup (SqT.keepT ok hT k h1) (RepL.keep ok hT k h2 n)
  | _, _, _, .lstF h1 h2 h3, n => by
    refine .lstF (Rd.keep k h1 fun t => h2 (hT _ t)) (fun z => ?_) (RepL.keep ok hT k h3 n)
    rcases k.av _ z with z | z
    · exact h2 z
    · obtain ⟨o, e⟩ := rd_some h1
      rw [e] at z; cases z
  | _, _, _, .lstK h1 h3, n => .lstK h1 (RepL.keep ok hT k h3 n)
  | _, _, _, .lstO h1 h2 h3 h4 h5, n => .lstO (k.keep _ _ h1 (n _ List.mem_cons_self)) (k.own _ h2 (n _ List.mem_cons_self)) (RepL.keep ok hT k h3 fun a ha => n a (List.mem_cons_of_mem _ ha)) h4 h5
theorem RepL.keep {T : Addr → Prop} (ok : AvOk Av H) (hT : ∀ a, T a → Av a) (k : Keep Av Av' H H' T) : ∀ {F : List Addr} {vs : List V} {ds : List D}, RepL K Av H F vs ds → (∀ a ∈ F, ¬ T a) → RepL K Av' H' F vs ds
  | _, _, _, .nil, _ => .nil
  | _, _, _, .cons h1 h2, n => .cons (Rep.keep ok hT k h1 fun a ha => n a (List.mem_append_left _ ha)) (RepL.keep ok hT k h2 fun a ha => n a (List.mem_append_right _ ha))
end

theorem RepL.length : ∀ {F : List Addr} {vs : List V} {ds : List D}, RepL K Av H F vs ds → vs.length = ds.length
  | _, _, _, .nil => rfl
  | _, _, _, .cons _ h => by simp [RepL.length h]

/-! freezing: what is owned by the tree is owned no longer -/
mutual
theorem Rep.frz {F : List Addr} {v : V} {d : D} (h : Rep K Av H F v d) (hs : ∀ a, Av' a → Av a) (hn : ∀ a ∈ F, ¬ Av' a) : Rep K Av' H [] v (Y.frz d) := by
  cases h with
  | non => exact .non
  | bl b => exact .bl b
  | int i => exact .int i
  | str s => exact .str s
  | tup h1 h2 => exact .tup h1 (RepL.less h2 hs)
  | lstF h1 h2 h3 => exact .lstF h1 (fun z => h2 (hs _ z)) (RepL.frz h3 hs fun a ha => nomatch ha)
  | lstK h1 h3 => exact .lstK h1 (RepL.frz h3 hs fun a ha => nomatch ha)
  | lstO h1 h2 h3 h4 h5 => exact .lstF (.inl h1) (hn _ List.mem_cons_self) (RepL.frz h3 hs fun a ha => hn a (List.mem_cons_of_mem _ ha))
theorem RepL.frz {F : List Addr} {vs : List V} {ds : List D} (h : RepL K Av H F vs ds) (hs : ∀ a, Av' a → Av a) (hn : ∀ a ∈ F, ¬ Av' a) : RepL K Av' H [] vs (frz.frzL ds) := by
  cases h with
  | nil => exact .nil
  | cons h1 h2 => exact .cons (F := []) (G := []) (Rep.frz h1 hs fun a ha => hn a (List.mem_append_left _ ha)) (RepL.frz h2 hs fun a ha => hn a (List.mem_append_right _ ha))
theorem RepL.less {vs : List V} {ds : List D} (h : RepL K Av H [] vs ds) (hs : ∀ a, Av' a → Av a) : RepL K Av' H [] vs ds := by
  generalize e : ([] : List Addr) = F at h
  cases h with
  | nil => exact .nil
  | @cons _ _ _ _ F1 G1 h1 h2 =>
    obtain ⟨e1, e2⟩ := List.append_eq_nil_iff.mp e.symm
    subst e1; subst e2
    exact .cons (F := []) (G := []) (Rep.less h1 hs) (RepL.less h2 hs)
theorem Rep.less {v : V} {d : D} (h : Rep K Av H [] v d) (hs : ∀ a, Av' a → Av a) : Rep K Av' H [] v d := by
  cases h with
  | non => exact .non
  | bl b => exact .bl b
  | int i => exact .int i
  | str s => exact .str s
  | tup h1 h2 => exact .tup h1 (RepL.less h2 hs)
  | lstF h1 h2 h3 => exact .lstF h1 (fun z => h2 (hs _ z)) (RepL.less h3 hs)
  | lstK h1 h3 => exact .lstK h1 (RepL.less h3 hs)
end
end
end Y

end
section
set_option Elab.async false
set_option linter.all false
set_option maxRecDepth 100000
/-! Y2: environments, steps, readings. -/
namespace Y
open PySem L2

/-- the slots stand for the environment; φ: what each slot owns -/
structure EnvR (K : PySem.W.Frag) (Av : Addr → Prop) (H : Hp) (σ : St) (ρ : Env) (φ : Nat → List Addr) : Prop where
  len : σ.length = ρ.length
  rep : ∀ i d, ρ[i]? = some (some d) → ∃ v, σ[i]? = some (some v) ∧ Rep K Av H (φ i) v d
  emp : ∀ i, (∀ d, ρ[i]? ≠ some (some d)) → φ i = []
  dis : ∀ i j a, a ∈ φ i → a ∈ φ j → i = j
  ok : AvOk Av H

/-- from one state to a later one: lock tells the slots whose things stay as they are -/
structure Step (lock : List Nat) (Av Av' : Addr → Prop) (H H' : Hp) (φ φ' : Nat → List Addr) : Prop where
  keep : ∀ a o, H a = some o → (∀ i, i ∉ lock → a ∉ φ i) → H' a = some o
  there : ∀ a, H a ≠ none → H' a ≠ none
  av : ∀ a, Av' a → Av a ∨ H a = none
  own : ∀ a, Av a → (∀ i, a ∉ φ i) → Av' a
  org : ∀ i a, a ∈ φ' i → a ∈ φ i ∨ (i ∉ lock ∧ ((∃ j, j ∉ lock ∧ a ∈ φ j) ∨ H a = none))
/-- where what a result owns comes from -/
def OrgG (lock : List Nat) (H : Hp) (φ : Nat → List Addr) (G : List Addr) : Prop := ∀ a ∈ G, (∃ j, j ∉ lock ∧ a ∈ φ j) ∨ H a = none
/-- a result owns nothing that a slot owns -/
def Apart (G : List Addr) (φ : Nat → List Addr) : Prop := ∀ a ∈ G, ∀ i, a ∉ φ i

section
variable {K : PySem.W.Frag} {Av Av1 Av2 Av' : Addr → Prop} {H H1 H2 H' : Hp} {φ φ1 φ2 φ' : Nat → List Addr} {lock : List Nat} {σ : St} {ρ : Env} {G : List Addr} {v : V} {d : D}

theorem EnvR.own (e : EnvR K Av H σ ρ φ) {i : Nat} {a : Addr} (h : a ∈ φ i) : Av a := by
  by_cases q : ∃ d, ρ[i]? = some (some d)
  · obtain ⟨d, q⟩ := q
    obtain ⟨v, _, r⟩ := e.rep i d q
    exact r.av a h
  · have := e.emp i (fun d hd => q ⟨d, hd⟩)
    rw [this] at h; cases h
theorem EnvR.there (e : EnvR K Av H σ ρ φ) {i : Nat} {a : Addr} (h : a ∈ φ i) : H a ≠ none := by
  obtain ⟨o, q, _⟩ := e.ok a (e.own h)
  rw [q]; exact fun z => nomatch z
theorem Step.refl : Step lock Av Av H H φ φ := ⟨fun _ _ h _ => h, fun _ h => h, fun _ h => .inl h, fun _ h _ => h, fun _ _ h => .inl h⟩
theorem Step.trans (a : Step lock Av Av1 H H1 φ φ1) (b : Step lock Av1 Av2 H1 H2 φ1 φ2) (ok : AvOk Av H) : Step lock Av Av2 H H2 φ φ2 where
  keep := fun x o h n => b.keep x o (a.keep x o h n) fun i hi hx => by
    rcases a.org i x hx with q | ⟨_, ⟨j, hj, q⟩ | q⟩
    · exact n i hi q
    · exact n j hj q
    · rw [h] at q; cases q
  there := fun x h => b.there x (a.there x h)
  av := fun x h => by
    rcases b.av x h with q | q
    · exact a.av x q
    · by_cases z : H x = none
      · exact .inr z
      · exact absurd q (a.there x z)
  own := fun x h n => b.own x (a.own x h n) fun i hx => by
    rcases a.org i x hx with q | ⟨_, ⟨j, hj, q⟩ | q⟩
    · exact n i q
    · exact n j q
    · obtain ⟨o, e, _⟩ := ok x h
      rw [e] at q; cases q
  org := fun i x hx => by
    rcases b.org i x hx with q | ⟨hi, ⟨j, hj, q⟩ | q⟩
    · exact a.org i x q
    · rcases a.org j x q with q | ⟨_, ⟨k, hk, q⟩ | q⟩
      · exact .inr ⟨hi, .inl ⟨j, hj, q⟩⟩
      · exact .inr ⟨hi, .inl ⟨k, hk, q⟩⟩
      · exact .inr ⟨hi, .inr q⟩
    · by_cases z : H x = none
      · exact .inr ⟨hi, .inr z⟩
      · exact absurd q (a.there x z)
theorem OrgG.step (a : Step lock Av Av1 H H1 φ φ1) (h : OrgG lock H1 φ1 G) : OrgG lock H φ G := fun x hx => by
  rcases h x hx with ⟨j, hj, q⟩ | q
  · rcases a.org j x q with q | ⟨_, ⟨k, hk, q⟩ | q⟩
    · exact .inl ⟨j, hj, q⟩
    · exact .inl ⟨k, hk, q⟩
    · exact .inr q
  · by_cases z : H x = none
    · exact .inr z
    · exact absurd q (a.there x z)
theorem Step.keeps (a : Step lock Av Av1 H H1 φ φ1) : Keep Av Av1 H H1 fun x => ∃ i, x ∈ φ i :=
  ⟨fun x o h n => a.keep x o h fun i _ hx => n ⟨i, hx⟩, a.av, fun x h n => a.own x h fun i hx => n ⟨i, hx⟩⟩
/-- what is held beside the slots stays -/
theorem Rep.step (a : Step lock Av Av1 H H1 φ φ1) (e : EnvR K Av H σ ρ φ) (r : Rep K Av H G v d) (ap : Apart G φ) : Rep K Av1 H1 G v d :=
  r.keep e.ok (fun x ⟨i, h⟩ => e.own h) a.keeps fun x hx ⟨i, h⟩ => ap x hx i h
theorem RepL.step {vs : List V} {ds : List D} (a : Step lock Av Av1 H H1 φ φ1) (e : EnvR K Av H σ ρ φ) (r : RepL K Av H G vs ds) (ap : Apart G φ) : RepL K Av1 H1 G vs ds :=
  r.keep e.ok (fun x ⟨i, h⟩ => e.own h) a.keeps fun x hx ⟨i, h⟩ => ap x hx i h
/-- .. and stays apart -/
theorem Apart.step (a : Step lock Av Av1 H H1 φ φ1) (ap : Apart G φ) (ht : ∀ x ∈ G, H x ≠ none) : Apart G φ1 := fun x hx i h => by
  rcases a.org i x h with q | ⟨_, ⟨j, _, q⟩ | q⟩
  · exact ap x hx i q
  · exact ap x hx j q
  · exact ht x hx q
theorem Rep.there (ok : AvOk Av H) (r : Rep K Av H G v d) : ∀ x ∈ G, H x ≠ none := fun x hx => by
  obtain ⟨o, q, _⟩ := ok x (r.av x hx)
  rw [q]; exact fun z => nomatch z
theorem RepL.there {vs : List V} {ds : List D} (ok : AvOk Av H) (r : RepL K Av H G vs ds) : ∀ x ∈ G, H x ≠ none := fun x hx => by
  obtain ⟨o, q, _⟩ := ok x (r.av x hx)
  rw [q]; exact fun z => nomatch z
end

/-- what the readings hang on: the written part, what is wanted of an exception, how one stands for a tree -/
structure Gd where
  K : PySem.W.Frag
  W : WX
  xr : (Addr → Prop) → Hp → D → Value → Option Addr → Prop

/-- how a statement ends -/
inductive Fl where
  | nx | ret (d : D) | brk | cont

/-- the wish of an exception e -/
def RX (g : Gd) (c : Ctx) (Av : Addr → Prop) (H : Hp) (φ : Nat → List Addr) (σ : St) (e : D) (ρ' : Env) : Prop :=
  ∀ cls x σ' H' Av' φ', EnvR g.K Av' H' σ' ρ' φ' → g.xr Av' H' e cls x → Step c.lock Av Av' H H' φ φ' → (∀ i, i ∈ c.prot ∨ i ∈ c.lock → σ'[i]? = σ[i]?) → g.W cls x σ' H'
/-- an expression's reading by its meaning -/
def RE (g : Gd) (c : Ctx) (m : M D) : TE := fun σ H Q => ∃ Av ρ φ, EnvR g.K Av H σ ρ φ ∧
  match m c ρ with
  | .ok d ρ' => ∀ v H' Av' φ' G, EnvR g.K Av' H' σ ρ' φ' → Rep g.K Av' H' G v d → Apart G φ' → Step c.lock Av Av' H H' φ φ' → OrgG c.lock H φ G → Q v H'
  | .exc e ρ' => RX g c Av H φ σ e ρ'
  | .bad => False
/-- a test's -/
def RT (g : Gd) (c : Ctx) (m : M Bool) : TT := fun σ H Q => ∃ Av ρ φ, EnvR g.K Av H σ ρ φ ∧
  match m c ρ with
  | .ok b ρ' => ∀ H' Av' φ', EnvR g.K Av' H' σ ρ' φ' → Step c.lock Av Av' H H' φ φ' → Q b H'
  | .exc e ρ' => RX g c Av H φ σ e ρ'
  | .bad => False
/-- a statement's -/
def RS (g : Gd) (c : Ctx) (m : M Fl) : TS := fun Dn σ H => ∃ Av ρ φ, EnvR g.K Av H σ ρ φ ∧
  match m c ρ with
  | .ok .nx ρ' => ∀ σ' H' Av' φ', EnvR g.K Av' H' σ' ρ' φ' → Step c.lock Av Av' H H' φ φ' → (∀ i, i ∈ c.prot ∨ i ∈ c.lock → σ'[i]? = σ[i]?) → Dn.nx σ' H'
  | .ok .brk ρ' => ∀ σ' H' Av' φ', EnvR g.K Av' H' σ' ρ' φ' → Step c.lock Av Av' H H' φ φ' → (∀ i, i ∈ c.prot ∨ i ∈ c.lock → σ'[i]? = σ[i]?) → Dn.bk σ' H'
  | .ok .cont ρ' => ∀ σ' H' Av' φ', EnvR g.K Av' H' σ' ρ' φ' → Step c.lock Av Av' H H' φ φ' → (∀ i, i ∈ c.prot ∨ i ∈ c.lock → σ'[i]? = σ[i]?) → Dn.ct σ' H'
  | .ok (.ret d) ρ' => ∀ v σ' H' Av' φ' G, EnvR g.K Av' H' σ' ρ' φ' → Rep g.K Av' H' G v d → Apart G φ' → Step c.lock Av Av' H H' φ φ' → OrgG c.lock H φ G →
      (∀ i, i ∈ c.prot ∨ i ∈ c.lock → σ'[i]? = σ[i]?) → Dn.rt v H'
  | .exc e ρ' => RX g c Av H φ σ e ρ'
  | .bad => False

/-! ### meanings put together -/
def bnd {α β : Type} (m : M α) (f : α → M β) : M β := fun c ρ => match m c ρ with
  | .ok a ρ' => f a c ρ'
  | .exc e ρ' => .exc e ρ'
  | .bad => .bad
def pur {α : Type} (a : α) : M α := fun _ ρ => .ok a ρ
def bad {α : Type} : M α := fun _ _ => .bad
def ofO {α : Type} (o : Option α) : M α := fun _ ρ => match o with
  | some a => .ok a ρ
  | none => .bad

theorem PE.weak {X : Cx} {e : Expr} {t t' : TE} (h : PE X e t) (w : ∀ σ H Q, t' σ H Q → t σ H Q) : PE X e t' := ⟨fun pins s σ H Q I q => h.run pins s σ H Q I (w σ H Q q)⟩
theorem PT.weak {X : Cx} {e : Expr} {t t' : TT} (h : PT X e t) (w : ∀ σ H Q, t' σ H Q → t σ H Q) : PT X e t' := ⟨fun pins s σ H Q I q => h.run pins s σ H Q I (w σ H Q q)⟩
theorem PW.weak {X : Cx} {e : Expr} {t t' : TT} (h : PW X e t) (w : ∀ σ H Q, t' σ H Q → t σ H Q) : PW X e t' := ⟨fun wh pins s σ H Q I q => h.run wh pins s σ H Q I (w σ H Q q)⟩
theorem PS.weak {X : Cx} {e : Stmt} {t t' : TS} (h : PS X e t) (w : ∀ Dn σ H, t' Dn σ H → t Dn σ H) : PS X e t' := ⟨fun pins s σ H Q I q => h.run pins s σ H Q I (w Q σ H q)⟩
theorem PSs.weak {X : Cx} {e : List Stmt} {t t' : TS} (h : PSs X e t) (w : ∀ Dn σ H, t' Dn σ H → t Dn σ H) : PSs X e t' := ⟨fun pins s σ H Q I q => h.run pins s σ H Q I (w Q σ H q)⟩
theorem PA.weak {X : Cx} {e : List Expr} {t t' : TA} (h : PA X e t) (w : ∀ σ H Q, t' σ H Q → t σ H Q) : PA X e t' := ⟨fun pos pins s σ H Q I q => h.run pos pins s σ H Q I (w σ H Q q)⟩

/-! ### slots -/
/-- read a name as a value: what it holds is owned no longer -/
def eVar (i : Nat) : M D := fun _ ρ => match ρ[i]? with
  | some (some d) => .ok (frz d) (ρ.set i (some (frz d)))
  | _ => .bad
/-- look at a name for an operation: its parts are owned no longer -/
def oVar (i : Nat) : M D := fun _ ρ => match ρ[i]? with
  | some (some d) => .ok (chill d) (ρ.set i (some (chill d)))
  | _ => .bad
/-- look at a name, nothing changes -/
def rVar (i : Nat) : M D := fun _ ρ => match ρ[i]? with
  | some (some d) => .ok d ρ
  | _ => .bad

section
variable {K : PySem.W.Frag} {Av Av1 Av2 Av' : Addr → Prop} {H H1 H2 H' : Hp} {φ φ1 φ2 φ' : Nat → List Addr} {lock : List Nat} {σ : St} {ρ : Env} {G : List Addr} {v : V} {d : D}

theorem get_lt {α : Type} {l : List α} {i : Nat} {x : α} (h : l[i]? = some x) : i < l.length := (List.getElem?_eq_some_iff.mp h).1

/-- a slot's tree is told otherwise over the same heap, owning less -/
theorem EnvR.turn (e : EnvR K Av H σ ρ φ) {i : Nat} {d d' : D} {v : V} {F : List Addr} {Av' : Addr → Prop} (hi : ρ[i]? = some (some d)) (hv : σ[i]? = some (some v))
    (hF : ∀ a ∈ F, a ∈ φ i) (hA : ∀ a, Av' a ↔ Av a ∧ (a ∈ φ i → a ∈ F)) (r : Rep K Av' H F v d') :
    EnvR K Av' H σ (ρ.set i (some d')) (fun j => if j = i then F else φ j) ∧ Step lock Av Av' H H φ (fun j => if j = i then F else φ j) := by
  have keep : Keep Av Av' H H (fun a => a ∈ φ i) := ⟨fun _ _ h _ => h, fun a h => .inl ((hA a).mp h).1, fun a h n => (hA a).mpr ⟨h, fun z => absurd z n⟩⟩
  have hlt := get_lt hi
  refine ⟨⟨by rw [List.length_set]; exact e.len, fun j dj hj => ?_, fun j hj => ?_, fun j k a h1 h2 => ?_, fun a h => e.ok a ((hA a).mp h).1⟩, fun _ _ h _ => h, fun _ h => h, fun a h => .inl ((hA a).mp h).1, fun a h n => (hA a).mpr ⟨h, fun z => absurd z (n i)⟩, fun j a h => ?_⟩
  · by_cases hji : j = i
    · subst hji
      rw [List.getElem?_set_self hlt] at hj
      cases hj
      exact ⟨v, hv, by simpa using r⟩
    · rw [List.getElem?_set_ne (Ne.symm hji)] at hj
      obtain ⟨w, hw, rw'⟩ := e.rep j dj hj
      refine ⟨w, hw, ?_⟩
      rw [if_neg hji]
      exact rw'.keep e.ok (fun a h => e.own h) keep fun a ha h => hji (e.dis j i a ha h)
  · by_cases hji : j = i
    · subst hji
      exact absurd (List.getElem?_set_self hlt) (hj d')
    · rw [List.getElem?_set_ne (Ne.symm hji)] at hj
      show (if j = i then F else φ j) = []
      rw [if_neg hji]
      exact e.emp j hj
  · have m : ∀ j, a ∈ (if j = i then F else φ j) → a ∈ φ j := fun j h => by
      by_cases q : j = i
      · subst q; rw [if_pos rfl] at h; exact hF a h
      · rw [if_neg q] at h; exact h
    exact e.dis j k a (m j h1) (m k h2)
  · have h : a ∈ (if j = i then F else φ j) := h
    by_cases q : j = i
    · subst q; rw [if_pos rfl] at h; exact .inl (hF a h)
    · rw [if_neg q] at h; exact .inl h

theorem EnvR.freeze (e : EnvR K Av H σ ρ φ) {i : Nat} {d : D} (hi : ρ[i]? = some (some d)) :
    ∃ v Av' φ', σ[i]? = some (some v) ∧ EnvR K Av' H σ (ρ.set i (some (frz d))) φ' ∧ Step lock Av Av' H H φ φ' ∧ Rep K Av' H [] v (frz d) ∧ φ' i = [] := by
  obtain ⟨v, hv, r⟩ := e.rep i d hi
  have r' : Rep K (fun a => Av a ∧ a ∉ φ i) H [] v (frz d) := r.frz (fun a h => h.1) fun a ha h => h.2 ha
  obtain ⟨h1, h2⟩ := e.turn (lock := lock) (F := []) (Av' := fun a => Av a ∧ a ∉ φ i) hi hv (fun a h => nomatch h) (fun a => by simp) r'
  exact ⟨v, _, _, hv, h1, h2, r', by simp⟩
end
end Y

end
section
set_option Elab.async false
set_option linter.all false
set_option maxRecDepth 100000
set_option autoImplicit false
/-! Y3: what operations on values want; growing. -/
namespace Y
open PySem L2

/-- new objects alone: G is what the result owns -/
structure Grow (Av Av' : Addr → Prop) (H H' : Hp) (G : List Addr) : Prop where
  keep : ∀ a o, H a = some o → H' a = some o
  av : ∀ a, Av' a ↔ Av a ∨ a ∈ G
  fresh : ∀ a ∈ G, H a = none
  ok : AvOk Av' H'

/-- a list of trees, looked at -/
inductive RepC (K : PySem.W.Frag) (Av : Addr → Prop) (H : Hp) : V → D → Prop
  | non : RepC K Av H .non .non
  | bl (b : Bool) : RepC K Av H (.bl b) (.bl b)
  | int (i : Int) : RepC K Av H (.int i) (.int i)
  | str (s : Str) : RepC K Av H (.str s) (.str s)
  | tup {a : Addr} {vs : List V} {ds : List D} : SqT K H a vs → RepL K Av H [] vs ds → RepC K Av H (.ref a) (.tup ds)
  | lst {a : Addr} {vs : List V} {ds : List D} {o : Bool} : SqL K H a vs → (o = true → H a = some (.lst vs)) → RepL K Av H [] vs ds → RepC K Av H (.ref a) (.lst o ds)
/-- looked at, its parts whatever they own -/
abbrev RepR (K : PySem.W.Frag) (Av : Addr → Prop) (H : Hp) (v : V) (d : D) : Prop := ∃ F, Rep K Av H F v d
inductive All2 {α β : Type} (R : α → β → Prop) : List α → List β → Prop
  | nil : All2 R [] []
  | cons {a : α} {b : β} {as : List α} {bs : List β} : R a b → All2 R as bs → All2 R (a :: as) (b :: bs)

section
variable {K : PySem.W.Frag} {Av Av1 Av2 Av' : Addr → Prop} {H H1 H2 H' : Hp} {φ φ1 φ2 φ' : Nat → List Addr} {lock : List Nat} {σ : St} {ρ : Env} {F G : List Addr} {v : V} {d : D} {vs : List V} {ds : List D}

theorem All2.length {α β : Type} {R : α → β → Prop} : ∀ {as : List α} {bs : List β}, All2 R as bs → as.length = bs.length
  | _, _, .nil => rfl
  | _, _, .cons _ t => by simp [All2.length t]
theorem All2.get {α β : Type} {R : α → β → Prop} : ∀ {as : List α} {bs : List β} {i : Nat} {b : β}, All2 R as bs → bs[i]? = some b → ∃ a, as[i]? = some a ∧ R a b
  | _, _, _, _, .nil, e => by simp at e
  | _, _, 0, _, .cons r _, e => by simp at e; subst e; exact ⟨_, rfl, r⟩
  | _, _, i + 1, _, .cons _ t, e => by
    obtain ⟨a, h1, h2⟩ := All2.get (i := i) t (by simpa using e)
    exact ⟨a, by simpa using h1, h2⟩
theorem All2.getL {α β : Type} {R : α → β → Prop} : ∀ {as : List α} {bs : List β} {i : Nat} {a : α}, All2 R as bs → as[i]? = some a → ∃ b, bs[i]? = some b ∧ R a b
  | _, _, _, _, .nil, e => by simp at e
  | _, _, 0, _, .cons r _, e => by simp at e; subst e; exact ⟨_, rfl, r⟩
  | _, _, i + 1, _, .cons _ t, e => by
    obtain ⟨a, h1, h2⟩ := All2.getL (i := i) t (by simpa using e)
    exact ⟨a, by simpa using h1, h2⟩
theorem All2.imp {α β : Type} {R S : α → β → Prop} (f : ∀ a b, R a b → S a b) : ∀ {as : List α} {bs : List β}, All2 R as bs → All2 S as bs
  | _, _, .nil => .nil
  | _, _, .cons r t => .cons (f _ _ r) (All2.imp f t)
theorem All2.append {α β : Type} {R : α → β → Prop} : ∀ {as : List α} {bs : List β} {cs : List α} {es : List β}, All2 R as bs → All2 R cs es → All2 R (as ++ cs) (bs ++ es)
  | _, _, _, _, .nil, h => h
  | _, _, _, _, .cons r t, h => .cons r (All2.append t h)
theorem All2.take {α β : Type} {R : α → β → Prop} : ∀ {as : List α} {bs : List β} (n : Nat), All2 R as bs → All2 R (as.take n) (bs.take n)
  | _, _, 0, _ => .nil
  | _, _, _ + 1, .nil => .nil
  | _, _, n + 1, .cons r t => .cons r (All2.take n t)
theorem All2.drop {α β : Type} {R : α → β → Prop} : ∀ {as : List α} {bs : List β} (n : Nat), All2 R as bs → All2 R (as.drop n) (bs.drop n)
  | _, _, 0, h => h
  | _, _, _ + 1, .nil => .nil
  | _, _, n + 1, .cons _ t => All2.drop n t
/-- lists that own nothing, member by member -/
theorem RepL.all2 (h : RepL K Av H [] vs ds) : All2 (Rep K Av H []) vs ds := by
  induction ds generalizing vs with
  | nil => cases vs with
    | nil => exact .nil
    | cons _ _ => have := h.length; simp at this
  | cons d ds ih =>
    generalize e : ([] : List Addr) = F at h
    cases h with
    | cons h1 h2 =>
      obtain ⟨e1, e2⟩ := List.append_eq_nil_iff.mp e.symm
      subst e1; subst e2
      exact .cons h1 (ih h2)
theorem RepL.of_all2 : ∀ {vs : List V} {ds : List D}, All2 (Rep K Av H []) vs ds → RepL K Av H [] vs ds
  | _, _, .nil => .nil
  | _, _, .cons h t => .cons (F := []) (G := []) h (RepL.of_all2 t)
theorem repL_iff : RepL K Av H [] vs ds ↔ All2 (Rep K Av H []) vs ds := ⟨RepL.all2, RepL.of_all2⟩

theorem Rep.toC (h : Rep K Av H [] v d) : RepC K Av H v d := by
  generalize e : ([] : List Addr) = F at h
  cases h with
  | non => exact .non
  | bl b => exact .bl b
  | int i => exact .int i
  | str s => exact .str s
  | tup h1 h2 => exact .tup h1 h2
  | lstF h1 _ h3 => exact .lst (.inl h1) (fun z => nomatch z) h3
  | lstK h1 h3 => exact .lst (sql_any h1) (fun z => nomatch z) h3
  | lstO _ _ _ _ _ => cases e
/-- chilled -/
theorem Rep.chill (h : Rep K Av H F v d) : (∃ F', Rep K (fun a => Av a ∧ (a ∈ F → a ∈ F')) H F' v (Y.chill d) ∧ (∀ a ∈ F', a ∈ F)) ∧ True := by
  refine ⟨?_, trivial⟩
  cases h with
  | non => exact ⟨[], .non, fun a h => nomatch h⟩
  | bl b => exact ⟨[], .bl b, fun a h => nomatch h⟩
  | int i => exact ⟨[], .int i, fun a h => nomatch h⟩
  | str s => exact ⟨[], .str s, fun a h => nomatch h⟩
  | tup h1 h2 => exact ⟨[], .tup h1 (h2.less fun a h => h.1), fun a h => nomatch h⟩
  | lstK h1 h3 => exact ⟨[], .lstK h1 (h3.frz (fun a h => h.1) fun a h => nomatch h), fun a h => nomatch h⟩
  | lstF h1 h2 h3 => exact ⟨[], .lstF h1 (fun z => h2 z.1) (h3.frz (fun a h => h.1) fun a h => nomatch h), fun a h => nomatch h⟩
  | @lstO a vs ds F h1 h2 h3 h4 h5 =>
    refine ⟨[a], .lstO (F := []) h1 ⟨h2, fun _ => by simp⟩ (h3.frz (fun b h => h.1) fun b hb z => ?_) (by simp) (by simp), fun b h => ?_⟩
    · have := z.2 (List.mem_cons_of_mem _ hb)
      have e : b = a := by simpa using this
      subst e; exact h4 hb
    · have e : b = a := by simpa using h
      rw [e]; exact List.mem_cons_self
theorem frz_cold_aux : ∀ {F : List Addr} {v : V} {d : D}, Rep K Av H F v (frz d) → F = [] := fun {F v d} h => by
  cases d with
  | lst o xs => generalize e : Y.frz (.lst o xs) = d' at h; have e' : D.lst false (frz.frzL xs) = d' := e; subst e'; cases h with | lstF _ _ _ => rfl | lstK _ _ => rfl
  | non => cases h; rfl
  | bl b => cases h; rfl
  | int i => cases h; rfl
  | str s => cases h; rfl
  | tup xs => cases h; rfl
  | dct o x => generalize e : Y.frz (.dct o x) = d' at h; have e' : D.dct false (frz.frzP x) = d' := e; subst e'; cases h
  | set o x => generalize e : Y.frz (.set o x) = d' at h; have e' : D.set false x = d' := e; subst e'; cases h
  | exn c x => cases h
theorem frzL_cold : ∀ {ds : List D} {vs : List V} {F : List Addr}, RepL K Av H F vs (frz.frzL ds) → F = []
  | [], _, _, h => by cases h; rfl
  | d :: ds, _, _, h => by
    have h' : RepL K Av H _ _ (frz d :: frz.frzL ds) := h
    cases h' with
    | cons h1 h2 => rw [frz_cold_aux h1, frzL_cold h2]; rfl
theorem Rep.chillC (h : Rep K Av H F v (Y.chill d)) : RepC K Av H v (Y.chill d) := by
  cases d with
  | lst o xs =>
    have h' : Rep K Av H F v (.lst o (frz.frzL xs)) := h
    show RepC K Av H v (.lst o (frz.frzL xs))
    cases h' with
    | lstF h1 h2 h3 => exact .lst (.inl h1) (fun z => nomatch z) h3
    | lstK h1 h3 => exact .lst (sql_any h1) (fun z => nomatch z) h3
    | lstO h1 h2 h3 h4 h5 =>
      have e := frzL_cold h3
      subst e
      exact .lst (.inl (.inl h1)) (fun _ => h1) h3
  | non => cases h; exact .non
  | bl b => cases h; exact .bl b
  | int i => cases h; exact .int i
  | str s => cases h; exact .str s
  | tup xs => cases h with | tup h1 h2 => exact .tup h1 h2
  | dct o x => generalize e : Y.chill (.dct o x) = d' at h; have e' : D.dct o (frz.frzP x) = d' := e; subst e'; cases h
  | set o x => generalize e : Y.chill (.set o x) = d' at h; have e' : D.set o x = d' := e; subst e'; cases h
  | exn c x => cases h

/-- growing keeps everything -/
theorem Grow.keeps (g : Grow Av Av' H H' G) : Keep Av Av' H H' fun _ => False :=
  ⟨fun a o h _ => g.keep a o h, fun a h => ((g.av a).mp h).elim .inl fun z => .inr (g.fresh a z), fun a h _ => (g.av a).mpr (.inl h)⟩
theorem Rep.grow (g : Grow Av Av' H H' G) (ok : AvOk Av H) (r : Rep K Av H F v d) : Rep K Av' H' F v d := r.keep ok (fun _ h => h.elim) g.keeps fun _ _ h => h
theorem RepL.grow (g : Grow Av Av' H H' G) (ok : AvOk Av H) (r : RepL K Av H F vs ds) : RepL K Av' H' F vs ds := r.keep ok (fun _ h => h.elim) g.keeps fun _ _ h => h
theorem SqT.grow (g : Grow Av Av' H H' G) (ok : AvOk Av H) {a : Addr} (r : SqT K H a vs) : SqT K H' a vs := SqT.keepT ok (fun _ h => h.elim) g.keeps r
theorem EnvR.grow (e : EnvR K Av H σ ρ φ) (g : Grow Av Av' H H' G) : EnvR K Av' H' σ ρ φ :=
  ⟨e.len, fun i d h => let ⟨v, h1, h2⟩ := e.rep i d h; ⟨v, h1, h2.grow g e.ok⟩, e.emp, e.dis, g.ok⟩
theorem EnvR.apart (e : EnvR K Av H σ ρ φ) (g : Grow Av Av' H H' G) : Apart G φ := fun a ha i h => by
  obtain ⟨o, q, _⟩ := e.ok a (e.own h)
  rw [g.fresh a ha] at q; cases q
theorem Grow.step (g : Grow Av Av' H H' G) : Step lock Av Av' H H' φ φ :=
  ⟨fun a o h _ => g.keep a o h, fun a h => by
    cases q : H a with
    | none => exact absurd q h
    | some o => rw [g.keep a o q]; exact fun z => (nomatch z), fun a h => ((g.av a).mp h).elim .inl fun z => .inr (g.fresh a z), fun a h _ => (g.av a).mpr (.inl h), fun _ _ h => .inl h⟩
theorem Grow.org (g : Grow Av Av' H H' G) : OrgG lock H φ G := fun a h => .inr (g.fresh a h)
theorem Grow.refl (ok : AvOk Av H) : Grow Av Av H H [] := ⟨fun _ _ h => h, fun a => by simp, fun a h => (nomatch h), ok⟩
theorem upd_keep {p : Addr} {o : HO} (n : H p = none) : ∀ a u, H a = some u → upd H p o a = some u := fun a u h => by rw [upd_ne (ne_of_none h n)]; exact h
/-- a new tuple -/
theorem Grow.tup (ok : AvOk Av H) {p : Addr} {o : HO} (n : H p = none) : Grow Av Av H (upd H p o) [] :=
  ⟨upd_keep n, fun a => by simp, fun a h => (nomatch h), fun a h => by obtain ⟨u, e, m⟩ := ok a h; exact ⟨u, upd_keep n a u e, m⟩⟩
theorem Rep.newTup (ok : AvOk Av H) {p : Addr} (n : H p = none) (r : RepL K Av H [] vs ds) : Rep K Av (upd H p (.tup vs)) [] (.ref p) (.tup ds) :=
  .tup (SqT.of upd_same) (r.grow (Grow.tup ok n) ok)
/-- a new list, owned -/
theorem Grow.lst (ok : AvOk Av H) {p : Addr} (n : H p = none) (vs : List V) : Grow Av (fun a => Av a ∨ a = p) H (upd H p (.lst vs)) [p] :=
  ⟨upd_keep n, fun a => by simp, fun a h => by rw [show a = p by simpa using h]; exact n, fun a h => by
    rcases h with h | h
    · obtain ⟨u, e, m⟩ := ok a h; exact ⟨u, upd_keep n a u e, m⟩
    · subst h; exact ⟨_, upd_same, trivial⟩⟩
theorem Rep.newLst (ok : AvOk Av H) {p : Addr} (n : H p = none) (r : RepL K Av H [] vs ds) : Rep K (fun a => Av a ∨ a = p) (upd H p (.lst vs)) [p] (.ref p) (.lst true ds) :=
  .lstO upd_same (.inr rfl) (r.grow (Grow.lst ok n vs) ok) (by simp) (by simp)
end

/-- an operation of values by a function of trees: ds are looked at (chilled) -/
def rPrim (K : PySem.W.Frag) (p : List D → Option D) : List V → Hp → VK → Prop := fun vs H Q => ∃ Av ds d, AvOk Av H ∧ All2 (RepC K Av H) vs ds ∧ p ds = some d ∧
  ∀ v H' Av' G, Grow Av Av' H H' G → Rep K Av' H' G v d → Q v H'
/-- .. looked at as they are -/
def rPrimR (K : PySem.W.Frag) (p : List D → Option D) : List V → Hp → VK → Prop := fun vs H Q => ∃ Av ds d, AvOk Av H ∧ All2 (RepR K Av H) vs ds ∧ p ds = some d ∧
  ∀ v H' Av' G, Grow Av Av' H H' G → Rep K Av' H' G v d → Q v H'
def rPrim2 (K : PySem.W.Frag) (p : D → D → Option D) : R2 := fun x y H Q => ∃ Av a b d, AvOk Av H ∧ RepC K Av H x a ∧ RepC K Av H y b ∧ p a b = some d ∧
  ∀ v H' Av' G, Grow Av Av' H H' G → Rep K Av' H' G v d → Q v H'
def rPrimR2 (K : PySem.W.Frag) (p : D → D → Option D) : R2 := fun x y H Q => ∃ Av a b d, AvOk Av H ∧ RepR K Av H x a ∧ RepR K Av H y b ∧ p a b = some d ∧
  ∀ v H' Av' G, Grow Av Av' H H' G → Rep K Av' H' G v d → Q v H'
end Y

end
section
set_option Elab.async false
set_option linter.all false
set_option maxRecDepth 100000
set_option autoImplicit false
/-! Y4: names, constants, operands, displays, operations. -/
namespace Y
open PySem L2

section
variable {K : PySem.W.Frag} {Av Av0 Av1 Av2 Av' : Addr → Prop} {H H0 H1 H2 H' : Hp} {φ φ0 φ1 φ2 φ' : Nat → List Addr} {lock : List Nat} {σ : St} {ρ ρ' : Env} {F G : List Addr} {v : V} {d : D} {vs : List V} {ds : List D}

theorem RepC.less (h : RepC K Av H v d) (hs : ∀ a, Av' a → Av a) : RepC K Av' H v d := by
  cases h with
  | non => exact .non
  | bl b => exact .bl b
  | int i => exact .int i
  | str s => exact .str s
  | tup h1 h2 => exact .tup h1 (h2.less hs)
  | lst h1 h0 h2 => exact .lst h1 h0 (h2.less hs)
/-- fewer owned addresses -/
theorem EnvR.lessA (e : EnvR K Av H σ ρ φ) (hs : ∀ a, Av' a → Av a) (hk : ∀ i a, a ∈ φ i → Av' a) : EnvR K Av' H σ ρ φ :=
  ⟨e.len, fun i d h => let ⟨v, h1, h2⟩ := e.rep i d h; ⟨v, h1, h2.keep (T := fun a => Av a ∧ ¬ Av' a) e.ok (fun a h => h.1) ⟨fun _ _ h _ => h, fun a h => .inl (hs a h), fun a h n => Classical.byContradiction fun z => n ⟨h, z⟩⟩ fun a ha z => z.2 (hk i a ha)⟩,
    e.emp, e.dis, fun a h => e.ok a (hs a h)⟩
theorem Step.drop (S : Step lock Av Av1 H H1 φ φ1) (og : OrgG lock H φ G) (ok : AvOk Av H) (h1 : ∀ a, Av2 a → Av1 a) (h2 : ∀ a, Av1 a → a ∉ G → Av2 a) : Step lock Av Av2 H H1 φ φ1 :=
  ⟨S.keep, S.there, fun a h => S.av a (h1 a h), fun a h n => h2 a (S.own a h n) fun hG => by
    rcases og a hG with ⟨j, _, q⟩ | q
    · exact n j q
    · obtain ⟨o, e, _⟩ := ok a h
      rw [e] at q
      exact (nomatch q), S.org⟩
end

theorem bnd_ok {α β : Type} {m : M α} {f : α → M β} {c : Ctx} {ρ ρ2 : Env} {b : β} (h : bnd m f c ρ = .ok b ρ2) : ∃ a ρ1, m c ρ = .ok a ρ1 ∧ f a c ρ1 = .ok b ρ2 := by
  unfold bnd at h
  split at h
  · exact ⟨_, _, by assumption, h⟩
  · cases h
  · cases h
theorem bnd_exc {α β : Type} {m : M α} {f : α → M β} {c : Ctx} {ρ ρ2 : Env} {x : D} (h : bnd m f c ρ = .exc x ρ2) : m c ρ = .exc x ρ2 ∨ ∃ a ρ1, m c ρ = .ok a ρ1 ∧ f a c ρ1 = .exc x ρ2 := by
  unfold bnd at h
  split at h
  · exact .inr ⟨_, _, by assumption, h⟩
  · rename_i e; cases h; exact .inl e
  · cases h

/-! ### operands -/
inductive Opd where
  | val (d : D) | slot (i : Nat)
def oE (m : M D) : M Opd := bnd m fun d => pur (.val d)
def oN (i : Nat) : M Opd := fun _ ρ => match ρ[i]? with
  | some (some _) => .ok (.slot i) ρ
  | _ => .bad
def gC : Opd → M D
  | .val d => pur (chill d)
  | .slot i => oVar i
def gR : Opd → M D
  | .val d => pur d
  | .slot i => rVar i
def gets (get : Opd → M D) : List Opd → M (List D)
  | [] => pur []
  | o :: os => bnd (get o) fun d => bnd (gets get os) fun ds => pur (d :: ds)

def RepO (K : PySem.W.Frag) (Av : Addr → Prop) (H : Hp) (σ : St) (G : List Addr) (v : V) : Opd → Prop
  | .val d => Rep K Av H G v d
  | .slot i => σ[i]? = some (some v) ∧ G = []
inductive RepOL (K : PySem.W.Frag) (Av : Addr → Prop) (H : Hp) (σ : St) : List Addr → List V → List Opd → Prop
  | nil : RepOL K Av H σ [] [] []
  | cons {v : V} {o : Opd} {vs : List V} {os : List Opd} {F G : List Addr} : RepO K Av H σ F v o → RepOL K Av H σ G vs os → RepOL K Av H σ (F ++ G) (v :: vs) (o :: os)
def RO (g : Gd) (c : Ctx) (m : M Opd) : TE := fun σ H Q => ∃ Av ρ φ, EnvR g.K Av H σ ρ φ ∧
  match m c ρ with
  | .ok o ρ' => ∀ v H' Av' φ' G, EnvR g.K Av' H' σ ρ' φ' → RepO g.K Av' H' σ G v o → Apart G φ' → G.Nodup → Step c.lock Av Av' H H' φ φ' → OrgG c.lock H φ G → Q v H'
  | .exc e ρ' => RX g c Av H φ σ e ρ'
  | .bad => False
def ROL (g : Gd) (c : Ctx) (m : M (List Opd)) : TA := fun σ H Q => ∃ Av ρ φ, EnvR g.K Av H σ ρ φ ∧
  match m c ρ with
  | .ok os ρ' => ∀ vs H' Av' φ' G, EnvR g.K Av' H' σ ρ' φ' → RepOL g.K Av' H' σ G vs os → Apart G φ' → G.Nodup → Step c.lock Av Av' H H' φ φ' → OrgG c.lock H φ G → Q vs H'
  | .exc e ρ' => RX g c Av H φ σ e ρ'
  | .bad => False
def RVL (g : Gd) (c : Ctx) (m : M (List D)) : TA := fun σ H Q => ∃ Av ρ φ, EnvR g.K Av H σ ρ φ ∧
  match m c ρ with
  | .ok ds ρ' => ∀ vs H' Av' φ' G, EnvR g.K Av' H' σ ρ' φ' → RepL g.K Av' H' G vs ds → Apart G φ' → G.Nodup → Step c.lock Av Av' H H' φ φ' → OrgG c.lock H φ G → Q vs H'
  | .exc e ρ' => RX g c Av H φ σ e ρ'
  | .bad => False

section
variable {K : PySem.W.Frag} {Av Av0 Av1 Av2 Av' : Addr → Prop} {H H0 H1 H2 H' : Hp} {φ φ0 φ1 φ2 φ' : Nat → List Addr} {lock : List Nat} {σ σ' : St} {ρ ρ' : Env} {F G : List Addr} {v : V} {d : D} {vs : List V} {ds : List D}

theorem Rep.nodup (h : Rep K Av H F v d) : F.Nodup := by
  cases h with
  | lstO _ _ _ h4 h5 => exact List.nodup_cons.mpr ⟨h4, h5⟩
  | _ => exact .nil
theorem RepO.keep {T : Addr → Prop} {o : Opd} (ok : AvOk Av H) (hT : ∀ a, T a → Av a) (k : Keep Av Av' H H' T) (r : RepO K Av H σ F v o) (n : ∀ a ∈ F, ¬ T a) : RepO K Av' H' σ F v o := by
  cases o with
  | val d => exact Rep.keep ok hT k r n
  | slot i => exact r
theorem RepOL.keep {T : Addr → Prop} (ok : AvOk Av H) (hT : ∀ a, T a → Av a) (k : Keep Av Av' H H' T) : ∀ {os : List Opd} {vs : List V} {F : List Addr}, RepOL K Av H σ F vs os → (∀ a ∈ F, ¬ T a) → RepOL K Av' H' σ F vs os
  | _, _, _, .nil, _ => .nil
  | _, _, _, .cons h1 h2, n => .cons (RepO.keep ok hT k h1 fun a ha => n a (List.mem_append_left _ ha)) (RepOL.keep ok hT k h2 fun a ha => n a (List.mem_append_right _ ha))
theorem RepO.av {o : Opd} (r : RepO K Av H σ F v o) : ∀ a ∈ F, Av a := by
  cases o with
  | val d => exact Rep.av r
  | slot i => rw [r.2]; intro a h; cases h
theorem RepOL.av : ∀ {os : List Opd} {vs : List V} {F : List Addr}, RepOL K Av H σ F vs os → ∀ a ∈ F, Av a
  | _, _, _, .nil, _, h => nomatch h
  | _, _, _, .cons h1 h2, a, h => (List.mem_append.mp h).elim (h1.av a) (RepOL.av h2 a)

/-- one operand is got, chilled -/
theorem gC_ok {c : Ctx} {o : Opd} {d : D} (S : Step lock Av0 Av H0 H φ0 φ) (ok0 : AvOk Av0 H0) (og : OrgG lock H0 φ0 F) (e : EnvR K Av H σ ρ φ) (r : RepO K Av H σ F v o) (ap : Apart F φ) (h : gC o c ρ = .ok d ρ') :
    ∃ Av1 φ1, EnvR K Av1 H σ ρ' φ1 ∧ Step lock Av0 Av1 H0 H φ0 φ1 ∧ RepC K Av1 H v d ∧ (∀ a, Av1 a → Av a) ∧ (∀ a, Av a → a ∉ F → (∀ i, a ∉ φ i) → Av1 a) ∧ (∀ i a, a ∈ φ1 i → a ∈ φ i) := by
  cases o with
  | val d0 =>
    have h' : Rs.ok (chill d0) ρ = .ok d ρ' := h
    cases h'
    obtain ⟨⟨F', r', hF⟩, _⟩ := Rep.chill (show Rep K Av H F v d0 from r)
    refine ⟨fun a => Av a ∧ (a ∈ F → a ∈ F'), φ, e.lessA (fun a h => h.1) (fun i a h => ⟨e.own h, fun z => absurd h (ap a z i)⟩), S.drop og ok0 (fun a h => h.1) (fun a h n => ⟨h, fun z => absurd z n⟩), r'.chillC, fun a h => h.1, fun a h n _ => ⟨h, fun z => absurd z n⟩, fun i a h => h⟩
  | slot i =>
    obtain ⟨hs, rfl⟩ := (show σ[i]? = some (some v) ∧ F = [] from r)
    have h' : (match ρ[i]? with | some (some d) => Rs.ok (chill d) (ρ.set i (some (chill d))) | _ => .bad) = .ok d ρ' := h
    cases q : ρ[i]? with
    | none => rw [q] at h'; cases h'
    | some x =>
      cases x with
      | none => rw [q] at h'; cases h'
      | some d0 =>
        rw [q] at h'
        cases h'
        obtain ⟨w, hw, rw'⟩ := e.rep i d0 q
        rw [hs] at hw; cases hw
        obtain ⟨⟨F', r', hF⟩, _⟩ := rw'.chill
        obtain ⟨e1, s1⟩ := e.turn (lock := lock) (F := F') (Av' := fun a => Av a ∧ (a ∈ φ i → a ∈ F')) q hs hF (fun a => Iff.rfl) r'
        refine ⟨_, _, e1, S.trans s1 ok0, r'.chillC, fun a h => h.1, fun a h _ n => ⟨h, fun z => absurd z (n i)⟩, fun j a h => ?_⟩
        have h : a ∈ (if j = i then F' else φ j) := h
        by_cases z : j = i
        · subst z; rw [if_pos rfl] at h; exact hF a h
        · rw [if_neg z] at h; exact h
theorem gC_noexc {c : Ctx} {o : Opd} {x : D} : gC o c ρ ≠ .exc x ρ' := by
  cases o with
  | val d0 => intro h; cases h
  | slot i =>
    intro h
    have h' : (match ρ[i]? with | some (some d) => Rs.ok (chill d) (ρ.set i (some (chill d))) | _ => .bad) = .exc x ρ' := h
    split at h' <;> cases h'

theorem gets_noexc {c : Ctx} {x : D} : ∀ {os : List Opd} {ρ ρ' : Env}, gets gC os c ρ ≠ .exc x ρ'
  | [], _, _ => fun h => nomatch (show Rs.ok [] _ = Rs.exc x _ from h)
  | o :: os, _, _ => fun h => by
    rcases bnd_exc (m := gC o) h with h | ⟨a, ρ1, _, h⟩
    · exact gC_noexc h
    · rcases bnd_exc (m := gets gC os) h with h | ⟨a, ρ1, _, h⟩
      · exact gets_noexc h
      · cases h
/-- all operands are got -/
theorem gets_ok {c : Ctx} : ∀ {os : List Opd} {vs : List V} {F : List Addr} {Av : Addr → Prop} {ρ ρ' : Env} {φ : Nat → List Addr} {ds : List D}, Step lock Av0 Av H0 H φ0 φ → AvOk Av0 H0 → OrgG lock H0 φ0 F → EnvR K Av H σ ρ φ →
    RepOL K Av H σ F vs os → F.Nodup → Apart F φ → gets gC os c ρ = .ok ds ρ' →
    ∃ Av1 φ1, EnvR K Av1 H σ ρ' φ1 ∧ Step lock Av0 Av1 H0 H φ0 φ1 ∧ All2 (RepC K Av1 H) vs ds ∧ (∀ a, Av1 a → Av a) ∧ ∀ i a, a ∈ φ1 i → a ∈ φ i
  | [], _, _, _, _, _, _, _, S, ok0, og, e, r, nd, ap, h => by
    cases r
    have h' : Rs.ok [] _ = .ok _ _ := h
    cases h'
    exact ⟨_, _, e, S, .nil, fun _ h => h, fun _ _ h => h⟩
  | o :: os, _, _, Av, ρ, ρ', φ, ds, S, ok0, og, e, r, nd, ap, h => by
    cases r with
    | @cons v _ vs _ F1 F2 r1 r2 =>
      obtain ⟨d, ρ1, q, h⟩ := bnd_ok (m := gC o) h
      obtain ⟨ds2, ρ2, q2, h⟩ := bnd_ok (m := gets gC os) h
      cases h
      obtain ⟨hn1, hn2, hd⟩ := List.nodup_append.mp nd
      obtain ⟨Av1, φ1, e1, S1, c1, l1, k1, p1⟩ := gC_ok S ok0 (fun a ha => og a (List.mem_append_left _ ha)) e r1 (fun a ha => ap a (List.mem_append_left _ ha)) q
      have nF : ∀ a ∈ F2, ¬ (a ∈ F1 ∨ ∃ i, a ∈ φ i) := fun a ha z => by
        rcases z with z | ⟨i, z⟩
        · exact hd a z a ha rfl
        · exact ap a (List.mem_append_right _ ha) i z
      have r2' : RepOL K Av1 H σ F2 vs os := r2.keep (T := fun a => a ∈ F1 ∨ ∃ i, a ∈ φ i) e.ok (fun a h => h.elim (r1.av a) fun ⟨i, h⟩ => e.own h)
        ⟨fun _ _ h _ => h, fun a h => .inl (l1 a h), fun a h n => k1 a h (fun z => n (.inl z)) fun i z => n (.inr ⟨i, z⟩)⟩ nF
      obtain ⟨Av2, φ2, e2, S2, c2, l2, p2⟩ := gets_ok S1 ok0 (fun a ha => og a (List.mem_append_right _ ha)) e1 r2' hn2 (fun a ha i z => ap a (List.mem_append_right _ ha) i (p1 i a z)) q2
      exact ⟨Av2, φ2, e2, S2, .cons (c1.less l2) c2, fun a h => l1 a (l2 a h), fun i a h => p1 i a (p2 i a h)⟩
/-- .. as they are -/
theorem gR_ok {c : Ctx} {o : Opd} {d : D} (e : EnvR K Av H σ ρ φ) (r : RepO K Av H σ F v o) (h : gR o c ρ = .ok d ρ') : ρ' = ρ ∧ RepR K Av H v d := by
  cases o with
  | val d0 =>
    have h' : Rs.ok d0 ρ = .ok d ρ' := h
    cases h'
    exact ⟨rfl, _, r⟩
  | slot i =>
    obtain ⟨hs, rfl⟩ := (show σ[i]? = some (some v) ∧ F = [] from r)
    have h' : (match ρ[i]? with | some (some d) => Rs.ok d ρ | _ => .bad) = .ok d ρ' := h
    cases q : ρ[i]? with
    | none => rw [q] at h'; cases h'
    | some x =>
      cases x with
      | none => rw [q] at h'; cases h'
      | some d0 =>
        rw [q] at h'
        cases h'
        obtain ⟨w, hw, rw'⟩ := e.rep i _ q
        rw [hs] at hw; cases hw
        exact ⟨rfl, _, rw'⟩
theorem gR_noexc {c : Ctx} {o : Opd} {x : D} : gR o c ρ ≠ .exc x ρ' := by
  cases o with
  | val d0 => intro h; cases h
  | slot i =>
    intro h
    have h' : (match ρ[i]? with | some (some d) => Rs.ok d ρ | _ => .bad) = .exc x ρ' := h
    split at h' <;> cases h'
theorem getsR_ok {c : Ctx} (e : EnvR K Av H σ ρ φ) : ∀ {os : List Opd} {vs : List V} {F : List Addr} {ρ' : Env} {ds : List D}, RepOL K Av H σ F vs os → gets gR os c ρ = .ok ds ρ' → ρ' = ρ ∧ All2 (RepR K Av H) vs ds
  | [], _, _, _, _, r, h => by
    cases r
    have h' : Rs.ok [] _ = .ok _ _ := h
    cases h'
    exact ⟨rfl, .nil⟩
  | o :: os, _, _, _, ds, r, h => by
    cases r with
    | cons r1 r2 =>
      obtain ⟨d, ρ1, q, h⟩ := bnd_ok (m := gR o) h
      obtain ⟨ds2, ρ2, q2, h⟩ := bnd_ok (m := gets gR os) h
      cases h
      obtain ⟨e1, h1⟩ := gR_ok e r1 q
      rw [e1] at q2
      obtain ⟨e2, h2⟩ := getsR_ok e r2 q2
      exact ⟨e2, .cons h1 h2⟩
theorem getsR_noexc {c : Ctx} {x : D} : ∀ {os : List Opd} {ρ ρ' : Env}, gets gR os c ρ ≠ .exc x ρ'
  | [], _, _ => fun h => nomatch (show Rs.ok [] _ = Rs.exc x _ from h)
  | o :: os, _, _ => fun h => by
    rcases bnd_exc (m := gR o) h with h | ⟨a, ρ1, _, h⟩
    · exact gR_noexc h
    · rcases bnd_exc (m := gets gR os) h with h | ⟨a, ρ1, _, h⟩
      · exact getsR_noexc h
      · cases h
end

/-! ### the readings -/
section
variable {X : Cx} {W : WX} {xr : (Addr → Prop) → Hp → D → Value → Option Addr → Prop} {c : Ctx} {pos : Pos}
abbrev Cx.gd (X : Cx) (W : WX) (xr : (Addr → Prop) → Hp → D → Value → Option Addr → Prop) : Gd := ⟨X.K, W, xr⟩
abbrev Apart.nil {φ : Nat → List Addr} : Apart [] φ := fun _ h => nomatch h
abbrev OrgG.nil {lock : List Nat} {H : Hp} {φ : Nat → List Addr} : OrgG lock H φ [] := fun _ h => nomatch h

theorem s_var {i : Nat} {x : Str} (hN : X.N[i]? = some x) (hv : Vis X.env.scope x) (hd : (x == ("__debug__" : Str)) = false) (hcd : (x == ("__classdict__" : Str)) = false) : PE X (.Name x pos) (RE (Cx.gd X W xr) c (eVar i)) := by
  refine PE.weak (pe_var hN hv hd hcd) fun σ H Q ⟨Av, ρ, φ, e, h⟩ => ?_
  unfold eVar at h
  cases q : ρ[i]? with
  | none => rw [q] at h; exact h.elim
  | some x =>
    cases x with
    | none => rw [q] at h; exact h.elim
    | some d =>
      rw [q] at h
      obtain ⟨v, Av', φ', hv, e1, s1, r1, _⟩ := e.freeze (lock := c.lock) q
      exact ⟨v, hv, h v H Av' φ' [] e1 r1 Apart.nil s1 OrgG.nil⟩
/-- a constant -/
theorem s_con {ex : Expr} {v : V} {d : D} (hp : PE X ex (tC v)) (hr : ∀ Av H, Rep X.K Av H [] v d) : PE X ex (RE (Cx.gd X W xr) c (pur d)) :=
  PE.weak hp fun σ H Q ⟨Av, ρ, φ, e, h⟩ => h v H Av φ [] e (hr Av H) Apart.nil Step.refl OrgG.nil
theorem s_int {i : Int} {j : Nat} : PE X (.Constant (.int i) j pos) (RE (Cx.gd X W xr) c (pur (.int i))) := s_con pe_int fun _ _ => .int i
theorem s_bl {b : Bool} {j : Nat} : PE X (.Constant (.bool b) j pos) (RE (Cx.gd X W xr) c (pur (.bl b))) := s_con pe_bl fun _ _ => .bl b
theorem s_non {j : Nat} : PE X (.Constant .none j pos) (RE (Cx.gd X W xr) c (pur .non)) := s_con pe_non fun _ _ => .non
theorem s_str {x : Str} {j : Nat} : PE X (.Constant (.str x) j pos) (RE (Cx.gd X W xr) c (pur (.str x))) := s_con pe_str fun _ _ => .str x

/-- operands -/
theorem o_name {i : Nat} {x : Str} (hN : X.N[i]? = some x) (hv : Vis X.env.scope x) (hd : (x == ("__debug__" : Str)) = false) (hcd : (x == ("__classdict__" : Str)) = false) : PE X (.Name x pos) (RO (Cx.gd X W xr) c (oN i)) := by
  refine PE.weak (pe_var hN hv hd hcd) fun σ H Q ⟨Av, ρ, φ, e, h⟩ => ?_
  unfold oN at h
  cases q : ρ[i]? with
  | none => rw [q] at h; exact h.elim
  | some x =>
    cases x with
    | none => rw [q] at h; exact h.elim
    | some d =>
      rw [q] at h
      obtain ⟨v, hv, r⟩ := e.rep i d q
      exact ⟨v, hv, h v H Av φ [] e ⟨hv, rfl⟩ Apart.nil .nil Step.refl OrgG.nil⟩
theorem o_val {ex : Expr} {m : M D} (h : PE X ex (RE (Cx.gd X W xr) c m)) : PE X ex (RO (Cx.gd X W xr) c (oE m)) := by
  refine PE.weak h fun σ H Q ⟨Av, ρ, φ, e, h⟩ => ⟨Av, ρ, φ, e, ?_⟩
  unfold oE bnd at h
  cases q : m c ρ with
  | bad => rw [q] at h; exact h.elim
  | exc x ρ' => rw [q] at h; exact h
  | ok d ρ' =>
    rw [q] at h
    exact fun v H' Av' φ' G e' r ap st og => h v H' Av' φ' G e' r ap r.nodup st og
theorem ol_nil : PA X [] (ROL (Cx.gd X W xr) c (pur [])) :=
  PA.weak pa_nil fun σ H Q ⟨Av, ρ, φ, e, h⟩ => h [] H Av φ [] e .nil Apart.nil .nil Step.refl OrgG.nil
theorem ol_cons {ex : Expr} {es : List Expr} {m : M Opd} {ms : M (List Opd)} (h1 : PE X ex (RO (Cx.gd X W xr) c m)) (h2 : PA X es (ROL (Cx.gd X W xr) c ms)) (hs : starEach (ex :: es) X.env = (false, eval ex X.env) :: starEach es X.env) :
    PA X (ex :: es) (ROL (Cx.gd X W xr) c (bnd m fun o => bnd ms fun os => pur (o :: os))) := by
  refine PA.weak (pa_cons h1 h2 hs) fun σ H Q ⟨Av, ρ, φ, e, h⟩ => ⟨Av, ρ, φ, e, ?_⟩
  cases q : m c ρ with
  | bad => simp only [bnd, q] at h
  | exc x ρ' => simp only [bnd, q] at h; exact h
  | ok o ρ1 =>
    simp only [bnd, q] at h
    intro v H1 Av1 φ1 G1 e1 r1 ap1 nd1 st1 og1
    refine ⟨Av1, ρ1, φ1, e1, ?_⟩
    cases q2 : ms c ρ1 with
    | bad => simp only [q2] at h
    | exc x ρ' =>
      simp only [q2] at h
      exact fun cls y σ' H' Av' φ' e' xr' st hp => h cls y σ' H' Av' φ' e' xr' (st1.trans st e.ok) hp
    | ok os ρ2 =>
      simp only [q2, pur] at h
      intro vs H2 Av2 φ2 G2 e2 r2 ap2 nd2 st2 og2
      have r1' : RepO X.K Av2 H2 σ G1 v o := r1.keep e1.ok (fun a ⟨i, h⟩ => e1.own h) st2.keeps fun a ha ⟨i, h⟩ => ap1 a ha i h
      have th : ∀ a ∈ G1, H1 a ≠ none := fun a ha => by
        obtain ⟨o', q', _⟩ := e1.ok a (r1.av a ha)
        rw [q']; exact fun z => nomatch z
      refine h (v :: vs) H2 Av2 φ2 (G1 ++ G2) e2 (.cons r1' r2) (fun a ha i z => ?_) (List.nodup_append.mpr ⟨nd1, nd2, fun a ha b hb e => ?_⟩) (st1.trans st2 e.ok) (fun a ha => ?_)
      · rcases List.mem_append.mp ha with ha | ha
        · exact ap1.step st2 th a ha i z
        · exact ap2 a ha i z
      · subst e
        rcases og2 a hb with ⟨j, _, z⟩ | z
        · exact ap1 a ha j z
        · exact th a ha z
      · rcases List.mem_append.mp ha with ha | ha
        · exact og1 a ha
        · exact og2.step st1 a ha
/-- values -/
theorem vl_nil : PA X [] (RVL (Cx.gd X W xr) c (pur [])) :=
  PA.weak pa_nil fun σ H Q ⟨Av, ρ, φ, e, h⟩ => h [] H Av φ [] e .nil Apart.nil .nil Step.refl OrgG.nil
theorem vl_cons {ex : Expr} {es : List Expr} {m : M D} {ms : M (List D)} (h1 : PE X ex (RE (Cx.gd X W xr) c m)) (h2 : PA X es (RVL (Cx.gd X W xr) c ms)) (hs : starEach (ex :: es) X.env = (false, eval ex X.env) :: starEach es X.env) :
    PA X (ex :: es) (RVL (Cx.gd X W xr) c (bnd m fun o => bnd ms fun os => pur (o :: os))) := by
  refine PA.weak (pa_cons h1 h2 hs) fun σ H Q ⟨Av, ρ, φ, e, h⟩ => ⟨Av, ρ, φ, e, ?_⟩
  cases q : m c ρ with
  | bad => simp only [bnd, q] at h
  | exc x ρ' => simp only [bnd, q] at h; exact h
  | ok o ρ1 =>
    simp only [bnd, q] at h
    intro v H1 Av1 φ1 G1 e1 r1 ap1 st1 og1
    refine ⟨Av1, ρ1, φ1, e1, ?_⟩
    cases q2 : ms c ρ1 with
    | bad => simp only [q2] at h
    | exc x ρ' =>
      simp only [q2] at h
      exact fun cls y σ' H' Av' φ' e' xr' st hp => h cls y σ' H' Av' φ' e' xr' (st1.trans st e.ok) hp
    | ok os ρ2 =>
      simp only [q2, pur] at h
      intro vs H2 Av2 φ2 G2 e2 r2 ap2 nd2 st2 og2
      have r1' : Rep X.K Av2 H2 G1 v o := r1.step st2 e1 ap1
      have th := r1.there e1.ok
      refine h (v :: vs) H2 Av2 φ2 (G1 ++ G2) e2 (.cons r1' r2) (fun a ha i z => ?_) (List.nodup_append.mpr ⟨r1.nodup, nd2, fun a ha b hb e => ?_⟩) (st1.trans st2 e.ok) (fun a ha => ?_)
      · rcases List.mem_append.mp ha with ha | ha
        · exact ap1.step st2 th a ha i z
        · exact ap2 a ha i z
      · subst e
        rcases og2 a hb with ⟨j, _, z⟩ | z
        · exact ap1 a ha j z
        · exact th a ha z
      · rcases List.mem_append.mp ha with ha | ha
        · exact og1 a ha
        · exact og2.step st1 a ha
end
end Y

end
section
set_option Elab.async false
set_option linter.all false
set_option maxRecDepth 100000
set_option autoImplicit false
/-! Y5: displays, operations, calls of built-ins, subscripts, tests. -/
namespace Y
open PySem L2

/-- the greatest length that is served -/
abbrev LN : Nat := 16777216
theorem ln_line : LN = sizeLine := sizeLine_eq.symm

def tupD (ms : M (List D)) : M D := bnd ms fun ds => fun _ ρ => if ds.length ≤ LN then .ok (.tup (frz.frzL ds)) ρ else .bad
def lstD (ms : M (List D)) : M D := bnd ms fun ds => fun _ ρ => if ds.length ≤ LN then .ok (.lst true ds) ρ else .bad
/-- got, then a function of trees -/
def mGets (get : Opd → M D) (p : List D → Option D) (os : List Opd) : M D := bnd (gets get os) fun ds => ofO (p ds)
def mPrim (get : Opd → M D) (p : List D → Option D) (mos : M (List Opd)) : M D := bnd mos fun os => mGets get p os
def mBin (get : Opd → M D) (p : List D → Option D) (ma mb : M Opd) : M D := bnd ma fun a => bnd mb fun b => mGets get p [a, b]
def mUn (get : Opd → M D) (p : List D → Option D) (ma : M Opd) : M D := bnd ma fun a => mGets get p [a]

section
variable {X : Cx} {W : WX} {xr : (Addr → Prop) → Hp → D → Value → Option Addr → Prop} {c : Ctx} {pos : Pos}
variable {K : PySem.W.Frag} {Av Av0 Av1 Av2 Av' : Addr → Prop} {H H0 H1 H2 H' : Hp} {φ φ0 φ1 φ2 φ' : Nat → List Addr} {lock : List Nat} {σ σ' : St} {ρ ρ' : Env} {F G : List Addr} {v : V} {d : D} {vs : List V} {ds : List D}

theorem s_tup {es : List Expr} {n : Nat} {ms : M (List D)} (h : PA X es (RVL (Cx.gd X W xr) c ms)) : PE X (.Tuple es n pos) (RE (Cx.gd X W xr) c (tupD ms)) := by
  refine PE.weak (pe_tup h) fun σ H Q ⟨Av, ρ, φ, e, h⟩ => ⟨Av, ρ, φ, e, ?_⟩
  cases q : ms c ρ with
  | bad => simp only [tupD, bnd, q] at h
  | exc x ρ' => simp only [tupD, bnd, q] at h; exact h
  | ok ds ρ1 =>
    simp only [tupD, bnd, q] at h
    by_cases hl : ds.length ≤ LN
    · rw [if_pos hl] at h
      intro vs H1 Av1 φ1 G1 e1 r1 ap1 nd1 st1 og1
      refine ⟨by rw [r1.length, ← ln_line]; exact hl, fun p hp => ?_⟩
      have hs : ∀ a, (Av1 a ∧ a ∉ G1) → Av1 a := fun a h => h.1
      have r2 : RepL X.K (fun a => Av1 a ∧ a ∉ G1) H1 [] vs (frz.frzL ds) := r1.frz hs fun a ha z => z.2 ha
      have e2 : EnvR X.K (fun a => Av1 a ∧ a ∉ G1) H1 σ ρ1 φ1 := e1.lessA hs fun i a h => ⟨e1.own h, fun z => ap1 a z i h⟩
      have st2 := st1.drop (Av2 := fun a => Av1 a ∧ a ∉ G1) og1 e.ok hs fun a h n => ⟨h, n⟩
      have g := Grow.tup (o := .tup vs) e2.ok hp
      exact h (.ref p) _ _ φ1 [] (e2.grow g) (Rep.newTup e2.ok hp r2) Apart.nil (st2.trans g.step e.ok) OrgG.nil
    · rw [if_neg hl] at h; exact h.elim
theorem s_lst {es : List Expr} {ms : M (List D)} (h : PA X es (RVL (Cx.gd X W xr) c ms)) : PE X (.List es pos) (RE (Cx.gd X W xr) c (lstD ms)) := by
  refine PE.weak (pe_lst h) fun σ H Q ⟨Av, ρ, φ, e, h⟩ => ⟨Av, ρ, φ, e, ?_⟩
  cases q : ms c ρ with
  | bad => simp only [lstD, bnd, q] at h
  | exc x ρ' => simp only [lstD, bnd, q] at h; exact h
  | ok ds ρ1 =>
    simp only [lstD, bnd, q] at h
    by_cases hl : ds.length ≤ LN
    · rw [if_pos hl] at h
      intro vs H1 Av1 φ1 G1 e1 r1 ap1 nd1 st1 og1
      refine ⟨by rw [r1.length, ← ln_line]; exact hl, fun p hp => ?_⟩
      have g := Grow.lst e1.ok hp vs
      have pG : p ∉ G1 := fun z => r1.there e1.ok p z hp
      refine h (.ref p) _ _ φ1 (p :: G1) (e1.grow g) (.lstO upd_same (.inr rfl) (r1.grow g e1.ok) pG nd1) (fun a ha i z => ?_) (st1.trans g.step e.ok) fun a ha => ?_
      · rcases List.mem_cons.mp ha with q | ha
        · subst q; exact e1.there z hp
        · exact ap1 a ha i z
      · rcases List.mem_cons.mp ha with q | ha
        · subst q
          exact (Grow.org (φ := φ1) (lock := c.lock) g).step st1 a (List.mem_singleton.mpr rfl)
        · exact og1 a ha
    · rw [if_neg hl] at h; exact h.elim

/-- behind the operands: what an operation wants -/
theorem prim_fin {p : List D → Option D} {os : List Opd} {Q : VK} {pos : Pos} {g : Gd}
    (S : Step c.lock Av0 Av H0 H φ0 φ) (ok0 : AvOk Av0 H0) (og : OrgG c.lock H0 φ0 F) (e : EnvR g.K Av H σ ρ φ) (r : RepOL g.K Av H σ F vs os) (nd : F.Nodup) (ap : Apart F φ)
    (h : match mGets gC p os c ρ with
      | .ok d ρ' => ∀ v H' Av' φ' G, EnvR g.K Av' H' σ ρ' φ' → Rep g.K Av' H' G v d → Apart G φ' → Step c.lock Av0 Av' H0 H' φ0 φ' → OrgG c.lock H0 φ0 G → Q v H'
      | .exc e ρ' => RX g c Av0 H0 φ0 σ e ρ'
      | .bad => False) : rPrim g.K p vs H Q := by
  unfold mGets at h
  cases q : gets gC os c ρ with
  | bad => simp only [bnd, q] at h
  | exc x ρ' => exact absurd q gets_noexc
  | ok ds ρ1 =>
    simp only [bnd, q] at h
    obtain ⟨Av1, φ1, e1, S1, c1, _⟩ := gets_ok S ok0 og e r nd ap q
    cases q2 : p ds with
    | none => simp only [ofO, q2] at h
    | some d =>
      simp only [ofO, q2] at h
      refine ⟨Av1, ds, d, e1.ok, c1, q2, fun v H' Av' G gr rv => ?_⟩
      exact h v H' Av' φ1 G (e1.grow gr) rv (e1.apart gr) (S1.trans gr.step ok0) ((Grow.org (φ := φ1) gr).step S1)
theorem primR_fin {p : List D → Option D} {os : List Opd} {Q : VK} {pos : Pos} {g : Gd}
    (S : Step c.lock Av0 Av H0 H φ0 φ) (ok0 : AvOk Av0 H0) (og : OrgG c.lock H0 φ0 F) (e : EnvR g.K Av H σ ρ φ) (r : RepOL g.K Av H σ F vs os) (nd : F.Nodup) (ap : Apart F φ)
    (h : match mGets gR p os c ρ with
      | .ok d ρ' => ∀ v H' Av' φ' G, EnvR g.K Av' H' σ ρ' φ' → Rep g.K Av' H' G v d → Apart G φ' → Step c.lock Av0 Av' H0 H' φ0 φ' → OrgG c.lock H0 φ0 G → Q v H'
      | .exc e ρ' => RX g c Av0 H0 φ0 σ e ρ'
      | .bad => False) : rPrimR g.K p vs H Q := by
  unfold mGets at h
  cases q : gets gR os c ρ with
  | bad => simp only [bnd, q] at h
  | exc x ρ' => exact absurd q getsR_noexc
  | ok ds ρ1 =>
    simp only [bnd, q] at h
    obtain ⟨rfl, c1⟩ := getsR_ok e r q
    cases q2 : p ds with
    | none => simp only [ofO, q2] at h
    | some d =>
      simp only [ofO, q2] at h
      refine ⟨Av, ds, d, e.ok, c1, q2, fun v H' Av' G gr rv => ?_⟩
      exact h v H' Av' φ G (e.grow gr) rv (e.apart gr) (S.trans gr.step ok0) ((Grow.org (φ := φ) gr).step S)

/-- which way operands are got, and what the operation then wants -/
inductive Way (K : PySem.W.Frag) : (Opd → M D) → ((List D → Option D) → List V → Hp → VK → Prop) → Prop
  | c : Way K gC (rPrim K)
  | r : Way K gR (rPrimR K)
theorem way_fin {p : List D → Option D} {os : List Opd} {Q : VK} {get : Opd → M D} {rp : (List D → Option D) → List V → Hp → VK → Prop} {g : Gd} (w : Way g.K get rp)
    (S : Step c.lock Av0 Av H0 H φ0 φ) (ok0 : AvOk Av0 H0) (og : OrgG c.lock H0 φ0 F) (e : EnvR g.K Av H σ ρ φ) (r : RepOL g.K Av H σ F vs os) (nd : F.Nodup) (ap : Apart F φ)
    (h : match mGets get p os c ρ with
      | .ok d ρ' => ∀ v H' Av' φ' G, EnvR g.K Av' H' σ ρ' φ' → Rep g.K Av' H' G v d → Apart G φ' → Step c.lock Av0 Av' H0 H' φ0 φ' → OrgG c.lock H0 φ0 G → Q v H'
      | .exc e ρ' => RX g c Av0 H0 φ0 σ e ρ'
      | .bad => False) : rp p vs H Q := by
  cases w with
  | c => exact prim_fin (pos := ⟨0, 0, 0, 0⟩) S ok0 og e r nd ap h
  | r => exact primR_fin (pos := ⟨0, 0, 0, 0⟩) S ok0 og e r nd ap h

/-- from an operand list to the operation -/
theorem rol_fin {p : List D → Option D} {get : Opd → M D} {rp : (List D → Option D) → List V → Hp → VK → Prop} (w : Way X.K get rp) {mos : M (List Opd)} {σ : St} {H : Hp} {Q : VK} (h : RE (Cx.gd X W xr) c (mPrim get p mos) σ H Q) :
    ROL (Cx.gd X W xr) c mos σ H fun vs H1 => rp p vs H1 Q := by
  obtain ⟨Av, ρ, φ, e, h⟩ := h
  refine ⟨Av, ρ, φ, e, ?_⟩
  unfold mPrim at h
  cases q : mos c ρ with
  | bad => simp only [bnd, q] at h
  | exc x ρ' => simp only [bnd, q] at h; exact h
  | ok os ρ1 =>
    simp only [bnd, q] at h
    intro vs H1 Av1 φ1 G1 e1 r1 ap1 nd1 st1 og1
    exact way_fin (g := Cx.gd X W xr) w st1 e.ok og1 e1 r1 nd1 ap1 h
/-- .. from two operands -/
theorem ro2_fin {p : List D → Option D} {get : Opd → M D} {rp : (List D → Option D) → List V → Hp → VK → Prop} (w : Way X.K get rp) {ma mb : M Opd} {σ : St} {H : Hp} {Q : VK} (h : RE (Cx.gd X W xr) c (mBin get p ma mb) σ H Q) :
    RO (Cx.gd X W xr) c ma σ H fun x H1 => RO (Cx.gd X W xr) c mb σ H1 fun y H2 => rp p [x, y] H2 Q := by
  obtain ⟨Av, ρ, φ, e, h⟩ := h
  refine ⟨Av, ρ, φ, e, ?_⟩
  unfold mBin at h
  cases q : ma c ρ with
  | bad => simp only [bnd, q] at h
  | exc x ρ' => simp only [bnd, q] at h; exact h
  | ok o ρ1 =>
    simp only [bnd, q] at h
    intro v H1 Av1 φ1 G1 e1 r1 ap1 nd1 st1 og1
    refine ⟨Av1, ρ1, φ1, e1, ?_⟩
    cases q2 : mb c ρ1 with
    | bad => simp only [q2] at h
    | exc x ρ' =>
      simp only [q2] at h
      exact fun cls y σ' H' Av' φ' e' xr' st hp => h cls y σ' H' Av' φ' e' xr' (st1.trans st e.ok) hp
    | ok o2 ρ2 =>
      simp only [q2] at h
      intro v2 H2 Av2 φ2 G2 e2 r2 ap2 nd2 st2 og2
      have r1' : RepO X.K Av2 H2 σ G1 v o := r1.keep e1.ok (fun a ⟨i, h⟩ => e1.own h) st2.keeps fun a ha ⟨i, h⟩ => ap1 a ha i h
      have th : ∀ a ∈ G1, H1 a ≠ none := fun a ha => by
        obtain ⟨o', q', _⟩ := e1.ok a (r1.av a ha)
        rw [q']; exact fun z => nomatch z
      have rl : RepOL X.K Av2 H2 σ (G1 ++ (G2 ++ [])) [v, v2] [o, o2] := .cons r1' (.cons r2 .nil)
      rw [List.append_nil] at rl
      refine way_fin (g := Cx.gd X W xr) w (st1.trans st2 e.ok) e.ok (fun a ha => ?_) e2 rl (List.nodup_append.mpr ⟨nd1, nd2, fun a ha b hb e => ?_⟩) (fun a ha i z => ?_) h
      · rcases List.mem_append.mp ha with ha | ha
        · exact og1 a ha
        · exact og2.step st1 a ha
      · subst e
        rcases og2 a hb with ⟨j, _, z⟩ | z
        · exact ap1 a ha j z
        · exact th a ha z
      · rcases List.mem_append.mp ha with ha | ha
        · exact ap1.step st2 th a ha i z
        · exact ap2 a ha i z
theorem ro1_fin {p : List D → Option D} {get : Opd → M D} {rp : (List D → Option D) → List V → Hp → VK → Prop} (w : Way X.K get rp) {ma : M Opd} {σ : St} {H : Hp} {Q : VK} (h : RE (Cx.gd X W xr) c (mUn get p ma) σ H Q) :
    RO (Cx.gd X W xr) c ma σ H fun x H1 => rp p [x] H1 Q := by
  obtain ⟨Av, ρ, φ, e, h⟩ := h
  refine ⟨Av, ρ, φ, e, ?_⟩
  unfold mUn at h
  cases q : ma c ρ with
  | bad => simp only [bnd, q] at h
  | exc x ρ' => simp only [bnd, q] at h; exact h
  | ok o ρ1 =>
    simp only [bnd, q] at h
    intro v H1 Av1 φ1 G1 e1 r1 ap1 nd1 st1 og1
    have rl : RepOL X.K Av1 H1 σ (G1 ++ []) [v] [o] := .cons r1 .nil
    rw [List.append_nil] at rl
    exact way_fin (g := Cx.gd X W xr) w st1 e.ok og1 e1 rl nd1 ap1 h

/-! ### what the syntax asks -/
theorem s_callB {f : String} {x : Str} {px : Pos} {ex : Expr} {es : List Expr} {get : Opd → M D} {rp : (List D → Option D) → List V → Hp → VK → Prop} (w : Way X.K get rp) {p : List D → Option D} {mos : M (List Opd)}
    (hc : CallR X (.builtin f) (rp p)) (hg : Gl X x) (hm : X.mg x = none) (hv : bootBuiltins x = some (.builtin f)) (ha : PA X (ex :: es) (ROL (Cx.gd X W xr) c mos)) (hn : x ≠ "__name__") (hdb : (x == ("__debug__" : Str)) = false)
    (he : starEach (ex :: es) X.env = (false, eval ex X.env) :: starEach es X.env) (hpl : (backTo pos (starEach es X.env)).any (·.1) = false) : PE X (.Call (.Name x px) (ex :: es) [] pos) (RE (Cx.gd X W xr) c (mPrim get p mos)) :=
  PE.weak (pe_callB hc hg hm hv ha hn hdb he hpl) fun _ _ _ h => rol_fin w h
theorem s_callTy {f : String} {x : Str} {px : Pos} {ex : Expr} {es : List Expr} {get : Opd → M D} {rp : (List D → Option D) → List V → Hp → VK → Prop} (w : Way X.K get rp) {p : List D → Option D} {mos : M (List Opd)}
    (hc : CallR X (.type f) (rp p)) (hg : Gl X x) (hm : X.mg x = none) (hv : bootBuiltins x = some (.type f)) (ha : PA X (ex :: es) (ROL (Cx.gd X W xr) c mos)) (hn : x ≠ "__name__") (hdb : (x == ("__debug__" : Str)) = false)
    (he : starEach (ex :: es) X.env = (false, eval ex X.env) :: starEach es X.env) (hpl : (backTo pos (starEach es X.env)).any (·.1) = false) : PE X (.Call (.Name x px) (ex :: es) [] pos) (RE (Cx.gd X W xr) c (mPrim get p mos)) :=
  PE.weak (pe_callTy hc hg hm hv ha hn hdb he hpl) fun _ _ _ h => rol_fin w h
/-- an operation of two values by a function of a list of two trees -/
abbrev two (r : List V → Hp → VK → Prop) : R2 := fun x y H Q => r [x, y] H Q
theorem s_bin {op : Operator} {a b : Expr} {get : Opd → M D} {rp : (List D → Option D) → List V → Hp → VK → Prop} (w : Way X.K get rp) {p : List D → Option D} {ma mb : M Opd} (ho : OpR X (binaryOp op) (two (rp p)))
    (ha : PE X a (RO (Cx.gd X W xr) c ma)) (hb : PE X b (RO (Cx.gd X W xr) c mb)) : PE X (.BinOp a op b pos) (RE (Cx.gd X W xr) c (mBin get p ma mb)) :=
  PE.weak (pe_op ho ha hb) fun _ _ _ h => ro2_fin w h
theorem s_un {op : UnaryOp} {a : Expr} {get : Opd → M D} {rp : (List D → Option D) → List V → Hp → VK → Prop} (w : Way X.K get rp) {p : List D → Option D} {ma : M Opd} (ho : UnR X (unaryOp op) (fun x H Q => rp p [x] H Q))
    (ha : PE X a (RO (Cx.gd X W xr) c ma)) : PE X (.UnaryOp op a pos) (RE (Cx.gd X W xr) c (mUn get p ma)) :=
  PE.weak (pe_un ho ha) fun _ _ _ h => ro1_fin w h
theorem s_cmp {op : CmpOp} {a b : Expr} {get : Opd → M D} {rp : (List D → Option D) → List V → Hp → VK → Prop} (w : Way X.K get rp) {p : List D → Option D} {ma mb : M Opd} (ho : OpR X (compareOp op) (two (rp p)))
    (ha : PE X a (RO (Cx.gd X W xr) c ma)) (hb : PE X b (RO (Cx.gd X W xr) c mb)) (hm : behindInMarks op b = false) : PE X (.Compare a [op] [b] pos) (RE (Cx.gd X W xr) c (mBin get p ma mb)) :=
  PE.weak (pe_cmpR ho ha hb hm) fun _ _ _ h => ro2_fin w h
theorem s_ix {a b : Expr} {p : List D → Option D} {ma mb : M Opd} (ho : IxR X (two (rPrim X.K p)))
    (ha : PE X a (RO (Cx.gd X W xr) c ma)) (hb : PE X b (RO (Cx.gd X W xr) c mb)) (hs : PlainIx b) : PE X (.Subscript a b pos) (RE (Cx.gd X W xr) c (mBin gC p ma mb)) :=
  PE.weak (pe_ix ho ha hb hs) fun _ _ _ h => ro2_fin .c h

/-! ### tests -/
/-- a bool of a value -/
def asB : D → Option Bool
  | .bl b => some b
  | _ => none
def mB (m : M D) : M Bool := bnd m fun d => ofO (asB d)
theorem rep_asB {b : Bool} (r : Rep K Av H G v d) (h : asB d = some b) : v = .bl b := by
  cases r with
  | bl b' => cases h; rfl
  | _ => cases h
theorem re_mB {m : M D} {g : Gd} {σ : St} {H : Hp} {Q : Bool → Hp → Prop} (h : RT g c (mB m) σ H Q) : RE g c m σ H fun x H1 => ∃ k, x = .bl k ∧ Q k H1 := by
  obtain ⟨Av, ρ, φ, e, h⟩ := h
  refine ⟨Av, ρ, φ, e, ?_⟩
  unfold mB at h
  cases q : m c ρ with
  | bad => simp only [bnd, q] at h
  | exc x ρ' => simp only [bnd, q] at h; exact h
  | ok d ρ1 =>
    simp only [bnd, q] at h
    intro v H' Av' φ' G e' r ap st og
    cases q2 : asB d with
    | none => simp only [ofO, q2] at h
    | some b =>
      simp only [ofO, q2] at h
      refine ⟨b, rep_asB r q2, h H' (fun a => Av' a ∧ a ∉ G) φ' (e'.lessA (fun a h => h.1) fun i a h => ⟨e'.own h, fun z => ap a z i h⟩) (st.drop og e.ok (fun a h => h.1) fun a h n => ⟨h, n⟩)⟩
theorem t_cmp {op : CmpOp} {a b : Expr} {get : Opd → M D} {rp : (List D → Option D) → List V → Hp → VK → Prop} (w : Way X.K get rp) {p : List D → Option D} {ma mb : M Opd} (ho : OpR X (compareOp op) (two (rp p)))
    (ha : PE X a (RO (Cx.gd X W xr) c ma)) (hb : PE X b (RO (Cx.gd X W xr) c mb)) (hm : behindInMarks op b = false) : PT X (.Compare a [op] [b] pos) (RT (Cx.gd X W xr) c (mB (mBin get p ma mb))) :=
  PT.weak (pt_cmpR ho ha hb hm) fun _ _ _ h => ro2_fin w (re_mB h)
theorem t_val {a : Expr} {m : M D} (ha : PE X a (RE (Cx.gd X W xr) c m)) (he : ∀ whole, isTrue a X.env whole = (do let v ← whole; standAt a.pos; holding [v] (truthy v))) : PT X a (RT (Cx.gd X W xr) c (mB m)) :=
  PT.weak (pt_val ha he) fun _ _ _ h => re_mB h
def mNot (m : M Bool) : M Bool := bnd m fun b => pur (!b)
theorem t_not {a : Expr} {m : M Bool} (ha : PT X a (RT (Cx.gd X W xr) c m)) : PT X (.UnaryOp .Not a pos) (RT (Cx.gd X W xr) c (mNot m)) := by
  refine PT.weak (pt_not ha) fun σ H Q ⟨Av, ρ, φ, e, h⟩ => ⟨Av, ρ, φ, e, ?_⟩
  unfold mNot at h
  cases q : m c ρ with
  | bad => simp only [bnd, q] at h
  | exc x ρ' => simp only [bnd, q] at h; exact h
  | ok d ρ1 => simp only [bnd, q, pur] at h; exact h
def mAnd (m n : M Bool) : M Bool := bnd m fun b => match b with | true => n | false => pur false
def mOr (m n : M Bool) : M Bool := bnd m fun b => match b with | true => pur true | false => n
/-- a step, then a reading from there -/
theorem RX.from {g : Gd} {x : D} (st : Step c.lock Av Av1 H H1 φ φ1) (ok : AvOk Av H) (h : RX g c Av H φ σ x ρ') : RX g c Av1 H1 φ1 σ x ρ' :=
  fun cls y σ' H' Av' φ' e' xr' st' hp => h cls y σ' H' Av' φ' e' xr' (st.trans st' ok) hp
theorem rt_and {m n : M Bool} {g : Gd} {σ : St} {H : Hp} {Q : Bool → Hp → Prop} (h : RT g c (mAnd m n) σ H Q) : RT g c m σ H fun b H1 => if b = true then RT g c n σ H1 Q else Q false H1 := by
  obtain ⟨Av, ρ, φ, e, h⟩ := h
  refine ⟨Av, ρ, φ, e, ?_⟩
  unfold mAnd at h
  cases q : m c ρ with
  | bad => simp only [bnd, q] at h
  | exc x ρ' => simp only [bnd, q] at h; exact h
  | ok b ρ1 =>
    simp only [bnd, q] at h
    intro H1 Av1 φ1 e1 st1
    cases b with
    | false =>
      simp only [pur] at h
      rw [if_neg Bool.false_ne_true]
      exact h H1 Av1 φ1 e1 st1
    | true =>
      rw [if_pos rfl]
      refine ⟨Av1, ρ1, φ1, e1, ?_⟩
      dsimp only at h
      cases q2 : n c ρ1 with
      | bad => simp only [q2] at h
      | exc x ρ' => simp only [q2] at h; exact RX.from st1 e.ok h
      | ok b2 ρ2 => simp only [q2] at h; exact fun H2 Av2 φ2 e2 st2 => h H2 Av2 φ2 e2 (st1.trans st2 e.ok)
theorem rt_or {m n : M Bool} {g : Gd} {σ : St} {H : Hp} {Q : Bool → Hp → Prop} (h : RT g c (mOr m n) σ H Q) : RT g c m σ H fun b H1 => if b = true then Q true H1 else RT g c n σ H1 Q := by
  obtain ⟨Av, ρ, φ, e, h⟩ := h
  refine ⟨Av, ρ, φ, e, ?_⟩
  unfold mOr at h
  cases q : m c ρ with
  | bad => simp only [bnd, q] at h
  | exc x ρ' => simp only [bnd, q] at h; exact h
  | ok b ρ1 =>
    simp only [bnd, q] at h
    intro H1 Av1 φ1 e1 st1
    cases b with
    | true =>
      simp only [pur] at h
      rw [if_pos rfl]
      exact h H1 Av1 φ1 e1 st1
    | false =>
      rw [if_neg Bool.false_ne_true]
      refine ⟨Av1, ρ1, φ1, e1, ?_⟩
      dsimp only at h
      cases q2 : n c ρ1 with
      | bad => simp only [q2] at h
      | exc x ρ' => simp only [q2] at h; exact RX.from st1 e.ok h
      | ok b2 ρ2 => simp only [q2] at h; exact fun H2 Av2 φ2 e2 st2 => h H2 Av2 φ2 e2 (st1.trans st2 e.ok)
theorem w_and1 {a : Expr} {m : M Bool} (ha : PT X a (RT (Cx.gd X W xr) c m)) : PW X (.BoolOp .And [a] pos) (RT (Cx.gd X W xr) c m) := pw_and1 ha
theorem w_or1 {a : Expr} {m : M Bool} (ha : PT X a (RT (Cx.gd X W xr) c m)) : PW X (.BoolOp .Or [a] pos) (RT (Cx.gd X W xr) c m) := pw_or1 ha
theorem w_and {a b : Expr} {rest : List Expr} {m n : M Bool} (ha : PT X a (RT (Cx.gd X W xr) c m)) (hb : PW X (.BoolOp .And (b :: rest) pos) (RT (Cx.gd X W xr) c n)) : PW X (.BoolOp .And (a :: b :: rest) pos) (RT (Cx.gd X W xr) c (mAnd m n)) :=
  PW.weak (pw_and ha hb) fun _ _ _ h => rt_and h
theorem w_or {a b : Expr} {rest : List Expr} {m n : M Bool} (ha : PT X a (RT (Cx.gd X W xr) c m)) (hb : PW X (.BoolOp .Or (b :: rest) pos) (RT (Cx.gd X W xr) c n)) : PW X (.BoolOp .Or (a :: b :: rest) pos) (RT (Cx.gd X W xr) c (mOr m n)) :=
  PW.weak (pw_or ha hb) fun _ _ _ h => rt_or h
/-- a if t else b -/
def mIf (t : M Bool) (m n : M D) : M D := bnd t fun b => match b with | true => m | false => n
theorem s_if {t a b : Expr} {mt : M Bool} {m n : M D} (ht : PT X t (RT (Cx.gd X W xr) c mt)) (ha : PE X a (RE (Cx.gd X W xr) c m)) (hb : PE X b (RE (Cx.gd X W xr) c n)) : PE X (.IfExp t a b pos) (RE (Cx.gd X W xr) c (mIf mt m n)) := by
  refine PE.weak (pe_ifExp ht ha hb) fun σ H Q ⟨Av, ρ, φ, e, h⟩ => ⟨Av, ρ, φ, e, ?_⟩
  unfold mIf at h
  cases q : mt c ρ with
  | bad => simp only [bnd, q] at h
  | exc x ρ' => simp only [bnd, q] at h; exact h
  | ok b ρ1 =>
    simp only [bnd, q] at h
    intro H1 Av1 φ1 e1 st1
    have go : ∀ {k : M D}, (match k c ρ1 with
        | .ok d ρ' => ∀ v H' Av' φ' G, EnvR X.K Av' H' σ ρ' φ' → Rep X.K Av' H' G v d → Apart G φ' → Step c.lock Av Av' H H' φ φ' → OrgG c.lock H φ G → Q v H'
        | .exc e ρ' => RX (Cx.gd X W xr) c Av H φ σ e ρ'
        | .bad => False) → RE (Cx.gd X W xr) c k σ H1 Q := fun {k} h => by
      refine ⟨Av1, ρ1, φ1, e1, ?_⟩
      cases q2 : k c ρ1 with
      | bad => simp only [q2] at h
      | exc x ρ' => simp only [q2] at h; exact RX.from st1 e.ok h
      | ok d ρ2 => simp only [q2] at h; exact fun v H2 Av2 φ2 G e2 r ap st2 og => h v H2 Av2 φ2 G e2 r ap (st1.trans st2 e.ok) (og.step st1)
    cases b with
    | true => rw [if_pos rfl]; exact go h
    | false => rw [if_neg Bool.false_ne_true]; exact go h
/-- and, or as values (all but the last a bool) -/
def mAndV (m n : M D) : M D := bnd m fun d => match d with | .bl true => n | .bl false => pur (.bl false) | _ => bad
def mOrV (m n : M D) : M D := bnd m fun d => match d with | .bl true => pur (.bl true) | .bl false => n | _ => bad
end
end Y

end
section
set_option Elab.async false
set_option linter.all false
set_option maxRecDepth 100000
set_option autoImplicit false
/-! Y6: and, or as values; slices; the call of a def. -/
namespace Y
open PySem L2
section
variable {X : Cx} {W : WX} {xr : (Addr → Prop) → Hp → D → Value → Option Addr → Prop} {c : Ctx} {pos : Pos}
variable {K : PySem.W.Frag} {Av Av0 Av1 Av2 Av' : Addr → Prop} {H H0 H1 H2 H' : Hp} {φ φ0 φ1 φ2 φ' : Nat → List Addr} {lock : List Nat} {σ σ' : St} {ρ ρ' : Env} {F G : List Addr} {v : V} {d : D} {vs : List V} {ds : List D}

/-- from the start of a part, where its rest is a meaning k -/
theorem RE.from {g : Gd} {k : M D} {ρ1 : Env} {Q : VK} (e1 : EnvR g.K Av1 H1 σ ρ1 φ1) (st1 : Step c.lock Av Av1 H H1 φ φ1) (ok : AvOk Av H) (h : match k c ρ1 with
        | .ok d ρ' => ∀ v H' Av' φ' G, EnvR g.K Av' H' σ ρ' φ' → Rep g.K Av' H' G v d → Apart G φ' → Step c.lock Av Av' H H' φ φ' → OrgG c.lock H φ G → Q v H'
        | .exc e ρ' => RX g c Av H φ σ e ρ'
        | .bad => False) : RE g c k σ H1 Q := by
  refine ⟨Av1, ρ1, φ1, e1, ?_⟩
  cases q2 : k c ρ1 with
  | bad => simp only [q2] at h
  | exc x ρ' => simp only [q2] at h; exact RX.from st1 ok h
  | ok d ρ2 => simp only [q2] at h; exact fun v H2 Av2 φ2 G e2 r ap st2 og => h v H2 Av2 φ2 G e2 r ap (st1.trans st2 ok) (og.step st1)

theorem s_and1 {op : BoolOp} {a : Expr} {m : M D} (ha : PE X a (RE (Cx.gd X W xr) c m)) : PE X (.BoolOp op [a] pos) (RE (Cx.gd X W xr) c m) := pe_one ha
theorem s_and {a b : Expr} {rest : List Expr} {m n : M D} (ha : PE X a (RE (Cx.gd X W xr) c m)) (hb : PE X (.BoolOp .And (b :: rest) pos) (RE (Cx.gd X W xr) c n)) : PE X (.BoolOp .And (a :: b :: rest) pos) (RE (Cx.gd X W xr) c (mAndV m n)) := by
  refine PE.weak (pe_and ha hb) fun σ H Q ⟨Av, ρ, φ, e, h⟩ => ⟨Av, ρ, φ, e, ?_⟩
  unfold mAndV at h
  cases q : m c ρ with
  | bad => simp only [bnd, q] at h
  | exc x ρ' => simp only [bnd, q] at h; exact h
  | ok d ρ1 =>
    simp only [bnd, q] at h
    intro v H1 Av1 φ1 G1 e1 r1 ap1 st1 og1
    cases r1 with
    | bl b =>
      refine ⟨b, rfl, ?_⟩
      cases b with
      | true => rw [if_pos rfl]; exact RE.from e1 st1 e.ok h
      | false => rw [if_neg Bool.false_ne_true]; exact h _ _ _ _ _ e1 (.bl false) Apart.nil st1 OrgG.nil
    | _ => exact h.elim
theorem s_or {a b : Expr} {rest : List Expr} {m n : M D} (ha : PE X a (RE (Cx.gd X W xr) c m)) (hb : PE X (.BoolOp .Or (b :: rest) pos) (RE (Cx.gd X W xr) c n)) : PE X (.BoolOp .Or (a :: b :: rest) pos) (RE (Cx.gd X W xr) c (mOrV m n)) := by
  refine PE.weak (pe_or ha hb) fun σ H Q ⟨Av, ρ, φ, e, h⟩ => ⟨Av, ρ, φ, e, ?_⟩
  unfold mOrV at h
  cases q : m c ρ with
  | bad => simp only [bnd, q] at h
  | exc x ρ' => simp only [bnd, q] at h; exact h
  | ok d ρ1 =>
    simp only [bnd, q] at h
    intro v H1 Av1 φ1 G1 e1 r1 ap1 st1 og1
    cases r1 with
    | bl b =>
      refine ⟨b, rfl, ?_⟩
      cases b with
      | true => rw [if_pos rfl]; exact h _ _ _ _ _ e1 (.bl true) Apart.nil st1 OrgG.nil
      | false => rw [if_neg Bool.false_ne_true]; exact RE.from e1 st1 e.ok h
    | _ => exact h.elim

/-! ### slices -/
/-- an optional part: none, or an int -/
def RPO (g : Gd) (c : Ctx) (m : M (Option Int)) : TO := fun σ H Q => ∃ Av ρ φ, EnvR g.K Av H σ ρ φ ∧
  match m c ρ with
  | .ok o ρ' => ∀ H' Av' φ', EnvR g.K Av' H' σ ρ' φ' → Step c.lock Av Av' H H' φ φ' → Q o H'
  | .exc e ρ' => RX g c Av H φ σ e ρ'
  | .bad => False
def asI : D → Option Int
  | .int i => some i
  | _ => none
def mPart (m : M D) : M (Option Int) := bnd m fun d => match asI d with | some i => pur (some i) | none => bad
theorem rep_asI {i : Int} (r : Rep K Av H G v d) (h : asI d = some i) : v = .int i := by
  cases r with
  | int j => cases h; rfl
  | _ => cases h
theorem PO.weak {o : Option Expr} {t t' : TO} (h : PO X o t) (w : ∀ σ H Q, t' σ H Q → t σ H Q) : PO X o t' := ⟨fun pins s σ H Q I q => h.run pins s σ H Q I (w σ H Q q)⟩
theorem p_none : PO X none (RPO (Cx.gd X W xr) c (pur none)) := PO.weak po_none fun σ H Q ⟨Av, ρ, φ, e, h⟩ => h H Av φ e Step.refl
theorem p_some {a : Expr} {m : M D} (ha : PE X a (RE (Cx.gd X W xr) c m)) : PO X (some a) (RPO (Cx.gd X W xr) c (mPart m)) := by
  refine PO.weak (po_some ha) fun σ H Q ⟨Av, ρ, φ, e, h⟩ => ⟨Av, ρ, φ, e, ?_⟩
  unfold mPart at h
  cases q : m c ρ with
  | bad => simp only [bnd, q] at h
  | exc x ρ' => simp only [bnd, q] at h; exact h
  | ok d ρ1 =>
    simp only [bnd, q] at h
    intro v H' Av' φ' G e' r ap st og
    cases q2 : asI d with
    | none => simp only [q2, bad] at h
    | some i =>
      simp only [q2, pur] at h
      exact ⟨i, rep_asI r q2, h H' (fun a => Av' a ∧ a ∉ G) φ' (e'.lessA (fun a h => h.1) fun i a h => ⟨e'.own h, fun z => ap a z i h⟩) (st.drop og e.ok (fun a h => h.1) fun a h n => ⟨h, n⟩)⟩
def mSlice (p : Option Int → Option Int → List D → Option D) (ma : M Opd) (ml mh : M (Option Int)) : M D := bnd ma fun o => bnd ml fun lo => bnd mh fun hi => mGets gC (p lo hi) [o]
theorem s_slice {a : Expr} {lo hi : Option Expr} {p2 : Pos} {p : Option Int → Option Int → List D → Option D} {ma : M Opd} {ml mh : M (Option Int)} (hs : SlR X (fun x lo hi H Q => rPrim X.K (p lo hi) [x] H Q))
    (ha : PE X a (RO (Cx.gd X W xr) c ma)) (hl : PO X lo (RPO (Cx.gd X W xr) c ml)) (hh : PO X hi (RPO (Cx.gd X W xr) c mh)) : PE X (.Subscript a (.Slice lo hi none p2) pos) (RE (Cx.gd X W xr) c (mSlice p ma ml mh)) := by
  refine PE.weak (pe_slice hs ha hl hh) fun σ H Q ⟨Av, ρ, φ, e, h⟩ => ⟨Av, ρ, φ, e, ?_⟩
  unfold mSlice at h
  cases q : ma c ρ with
  | bad => simp only [bnd, q] at h
  | exc x ρ' => simp only [bnd, q] at h; exact h
  | ok o ρ1 =>
    simp only [bnd, q] at h
    intro v H1 Av1 φ1 G1 e1 r1 ap1 nd1 st1 og1
    refine ⟨Av1, ρ1, φ1, e1, ?_⟩
    cases q2 : ml c ρ1 with
    | bad => simp only [q2] at h
    | exc x ρ' => simp only [q2] at h; exact RX.from st1 e.ok h
    | ok lo ρ2 =>
      simp only [q2] at h
      intro H2 Av2 φ2 e2 st2
      refine ⟨Av2, ρ2, φ2, e2, ?_⟩
      have st12 := st1.trans st2 e.ok
      cases q3 : mh c ρ2 with
      | bad => simp only [q3] at h
      | exc x ρ' => simp only [q3] at h; exact RX.from st12 e.ok h
      | ok hi ρ3 =>
        simp only [q3] at h
        intro H3 Av3 φ3 e3 st3
        have st13 := st2.trans st3 e1.ok
        have r1' : RepO X.K Av3 H3 σ G1 v o := r1.keep e1.ok (fun a ⟨i, h⟩ => e1.own h) st13.keeps fun a ha ⟨i, h⟩ => ap1 a ha i h
        have th : ∀ a ∈ G1, H1 a ≠ none := fun a ha => by
          obtain ⟨o', q', _⟩ := e1.ok a (r1.av a ha)
          rw [q']; exact fun z => nomatch z
        have rl : RepOL X.K Av3 H3 σ (G1 ++ []) [v] [o] := .cons r1' .nil
        rw [List.append_nil] at rl
        exact prim_fin (pos := pos) (g := Cx.gd X W xr) (st12.trans st3 e.ok) e.ok og1 e3 rl nd1 (ap1.step st13 th) h

/-! ### calls -/
/-- what a call gives: the value, the arguments behind it -/
inductive Fo where
  | ok (d : D) (as : List (Option D)) | exc (e : D) (as : List (Option D)) | bad
abbrev Fns := Str → List D → Fo
def isOwn : D → Bool
  | .lst o _ => o
  | .dct o _ => o
  | .set o _ => o
  | _ => false
/-- an argument that is a name: what is owned is lent -/
def aVar (i : Nat) : M (D × Option Nat) := fun c ρ => match ρ[i]? with
  | some (some d) => if isOwn d = true ∧ i ∉ c.lock then .ok (d, some i) (ρ.set i none) else .ok (frz d, none) (ρ.set i (some (frz d)))
  | _ => .bad
def aE (m : M D) : M (D × Option Nat) := bnd m fun d => pur (d, none)
/-- what was lent comes back -/
def back : List (D × Option Nat) → List (Option D) → Env → Option Env
  | (_, some i) :: ps, a :: as, ρ => match ρ[i]? with
    | some none => back ps as (ρ.set i a)
    | _ => none
  | (_, none) :: ps, _ :: as, ρ => back ps as ρ
  | [], _, ρ => some ρ
  | _ :: _, [], _ => none
def mCall (n : Nat) (Φ : List D → Fo) (margs : M (List (D × Option Nat))) : M D := bnd margs fun ps => fun _ ρ => if ps.length = n then match Φ (ps.map (·.1)) with
    | .ok d as => match back ps as ρ with
      | some ρ' => .ok d ρ'
      | none => .bad
    | .exc e as => match back ps as ρ with
      | some ρ' => .exc e ρ'
      | none => .bad
    | .bad => .bad
  else .bad

/-- arguments: ψ what each owns -/
structure ArgR (K : PySem.W.Frag) (Av : Addr → Prop) (H : Hp) (σ : St) (lock : List Nat) (vs : List V) (ps : List (D × Option Nat)) (ψ : Nat → List Addr) : Prop where
  env : EnvR K Av H (vs.map some) (ps.map fun p => some p.1) ψ
  lent : ∀ (j : Nat) (d : D) (i : Nat), ps[j]? = some (d, some i) → i ∉ lock ∧ ∃ v, vs[j]? = some v ∧ σ[i]? = some (some v)
def RAL (g : Gd) (c : Ctx) (m : M (List (D × Option Nat))) : TA := fun σ H Q => ∃ Av ρ φ, EnvR g.K Av H σ ρ φ ∧
  match m c ρ with
  | .ok ps ρ' => ∀ vs H' Av' φ' ψ, EnvR g.K Av' H' σ ρ' φ' → ArgR g.K Av' H' σ c.lock vs ps ψ → (∀ j, Apart (ψ j) φ') → Step c.lock Av Av' H H' φ φ' → (∀ j, OrgG c.lock H φ (ψ j)) → Q vs H'
  | .exc e ρ' => RX g c Av H φ σ e ρ'
  | .bad => False
/-- one argument -/
def RA1 (g : Gd) (c : Ctx) (m : M (D × Option Nat)) : TE := fun σ H Q => ∃ Av ρ φ, EnvR g.K Av H σ ρ φ ∧
  match m c ρ with
  | .ok p ρ' => ∀ v H' Av' φ' G, EnvR g.K Av' H' σ ρ' φ' → Rep g.K Av' H' G v p.1 → Apart G φ' → Step c.lock Av Av' H H' φ φ' → OrgG c.lock H φ G → (∀ i, p.2 = some i → i ∉ c.lock ∧ σ[i]? = some (some v)) → Q v H'
  | .exc e ρ' => RX g c Av H φ σ e ρ'
  | .bad => False
theorem a_val {ex : Expr} {m : M D} (h : PE X ex (RE (Cx.gd X W xr) c m)) : PE X ex (RA1 (Cx.gd X W xr) c (aE m)) := by
  refine PE.weak h fun σ H Q ⟨Av, ρ, φ, e, h⟩ => ⟨Av, ρ, φ, e, ?_⟩
  unfold aE bnd at h
  cases q : m c ρ with
  | bad => rw [q] at h; exact h.elim
  | exc x ρ' => rw [q] at h; exact h
  | ok d ρ' =>
    rw [q] at h
    exact fun v H' Av' φ' G e' r ap st og => h v H' Av' φ' G e' r ap st og fun i z => nomatch z
theorem a_name {i : Nat} {x : Str} (hN : X.N[i]? = some x) (hv : Vis X.env.scope x) (hd : (x == ("__debug__" : Str)) = false) (hcd : (x == ("__classdict__" : Str)) = false) : PE X (.Name x pos) (RA1 (Cx.gd X W xr) c (aVar i)) := by
  refine PE.weak (pe_var hN hv hd hcd) fun σ H Q ⟨Av, ρ, φ, e, h⟩ => ?_
  unfold aVar at h
  cases q : ρ[i]? with
  | none => rw [q] at h; exact h.elim
  | some x =>
    cases x with
    | none => rw [q] at h; exact h.elim
    | some d =>
      rw [q] at h
      dsimp only at h
      by_cases hc : isOwn d = true ∧ i ∉ c.lock
      · rw [if_pos hc] at h
        obtain ⟨v, hv, r⟩ := e.rep i d q
        have hlt := get_lt q
        refine ⟨v, hv, h v H Av (fun j => if j = i then [] else φ j) (φ i) ⟨by rw [List.length_set]; exact e.len, fun j dj hj => ?_, fun j hj => ?_, fun j k a h1 h2 => ?_, e.ok⟩ r (fun a ha j z => ?_) ⟨fun _ _ h _ => h, fun _ h => h, fun _ h => .inl h, fun _ h _ => h, fun j a h => ?_⟩
          (fun a ha => .inl ⟨i, hc.2, ha⟩) fun k hk => ?_⟩
        · by_cases z : j = i
          · subst z; rw [List.getElem?_set_self hlt] at hj; cases hj
          · rw [List.getElem?_set_ne (Ne.symm z)] at hj
            rw [if_neg z]
            exact e.rep j dj hj
        · by_cases z : j = i
          · exact if_pos z
          · rw [List.getElem?_set_ne (Ne.symm z)] at hj
            exact (if_neg z).trans (e.emp j hj)
        · have m : ∀ j, a ∈ (if j = i then [] else φ j) → a ∈ φ j := fun j h => by
            by_cases q : j = i
            · subst q; rw [if_pos rfl] at h; cases h
            · rw [if_neg q] at h; exact h
          exact e.dis j k a (m j h1) (m k h2)
        · have z : a ∈ (if j = i then [] else φ j) := z
          by_cases q : j = i
          · rw [if_pos q] at z; cases z
          · rw [if_neg q] at z; exact q (e.dis j i a z ha)
        · have h : a ∈ (if j = i then [] else φ j) := h
          by_cases q : j = i
          · rw [if_pos q] at h; cases h
          · rw [if_neg q] at h; exact .inl h
        · have hk : some i = some k := hk
          cases hk
          exact ⟨hc.2, hv⟩
      · rw [if_neg hc] at h
        obtain ⟨v, Av', φ', hv, e1, s1, r1, _⟩ := e.freeze (lock := c.lock) q
        exact ⟨v, hv, h v H Av' φ' [] e1 r1 Apart.nil s1 OrgG.nil fun k z => nomatch z⟩
theorem al_nil : PA X [] (RAL (Cx.gd X W xr) c (pur [])) :=
  PA.weak pa_nil fun σ H Q ⟨Av, ρ, φ, e, h⟩ => h [] H Av φ (fun _ => []) e ⟨⟨rfl, fun i d h => (nomatch h), fun _ _ => rfl, fun _ _ _ h => (nomatch h), e.ok⟩, fun j d i h => (nomatch h)⟩ (fun _ => Apart.nil) Step.refl fun _ => OrgG.nil
theorem al_cons {ex : Expr} {es : List Expr} {m : M (D × Option Nat)} {ms : M (List (D × Option Nat))} (h1 : PE X ex (RA1 (Cx.gd X W xr) c m)) (h2 : PA X es (RAL (Cx.gd X W xr) c ms)) (hs : starEach (ex :: es) X.env = (false, eval ex X.env) :: starEach es X.env) :
    PA X (ex :: es) (RAL (Cx.gd X W xr) c (bnd m fun o => bnd ms fun os => pur (o :: os))) := by
  refine PA.weak (pa_cons h1 h2 hs) fun σ H Q ⟨Av, ρ, φ, e, h⟩ => ⟨Av, ρ, φ, e, ?_⟩
  cases q : m c ρ with
  | bad => simp only [bnd, q] at h
  | exc x ρ' => simp only [bnd, q] at h; exact h
  | ok o ρ1 =>
    simp only [bnd, q] at h
    intro v H1 Av1 φ1 G1 e1 r1 ap1 st1 og1 ln1
    refine ⟨Av1, ρ1, φ1, e1, ?_⟩
    cases q2 : ms c ρ1 with
    | bad => simp only [q2] at h
    | exc x ρ' => simp only [q2] at h; exact RX.from st1 e.ok h
    | ok os ρ2 =>
      simp only [q2, pur] at h
      intro vs H2 Av2 φ2 ψ e2 ar ap2 st2 og2
      have r1' := r1.step st2 e1 ap1
      have th := r1.there e1.ok
      have far : ∀ j a, a ∈ G1 → a ∉ ψ j := fun j a ha hb => by
        rcases og2 j a hb with ⟨k, _, z⟩ | z
        · exact ap1 a ha k z
        · exact th a ha z
      refine h (v :: vs) H2 Av2 φ2 (fun j => match j with | 0 => G1 | j + 1 => ψ j) e2 ⟨⟨?_, fun j d hj => ?_, fun j hj => ?_, fun j k a h1 h2 => ?_, e2.ok⟩, fun j d i hj => ?_⟩ (fun j => ?_) (st1.trans st2 e.ok) fun j => ?_
      · have := ar.env.len
        simpa using this
      · cases j with
        | zero =>
          have z : some o.1 = some d := by simpa using hj
          cases z
          exact ⟨v, rfl, r1'⟩
        | succ j => exact ar.env.rep j d (by simpa using hj)
      · cases j with
        | zero => exact absurd rfl (hj o.1)
        | succ j => exact ar.env.emp j fun d z => hj d (by simpa using z)
      · cases j with
        | zero =>
          cases k with
          | zero => rfl
          | succ k => exact absurd h2 (far k a h1)
        | succ j =>
          cases k with
          | zero => exact absurd h1 (far j a h2)
          | succ k => rw [ar.env.dis j k a h1 h2]
      · cases j with
        | zero =>
          have z : o = (d, some i) := by simpa using hj
          obtain ⟨n1, n2⟩ := ln1 i (by rw [z])
          exact ⟨n1, v, rfl, n2⟩
        | succ j => exact ar.lent j d i (by simpa using hj)
      · cases j with
        | zero => exact ap1.step st2 th
        | succ j => exact ap2 j
      · cases j with
        | zero => exact og1
        | succ j => exact (og2 j).step st1

/-- a def's promise by its meaning -/
def spF (K : PySem.W.Frag) (xr : (Addr → Prop) → Hp → D → Value → Option Addr → Prop) (n : Nat) (Φ : List D → Fo) : Sp := fun vs H Q E => vs.length = n ∧ ∃ Av ds ψ, EnvR K Av H (vs.map some) (ds.map some) ψ ∧
  match Φ ds with
  | .ok d as => ∀ v H' Av' ψ' G, EnvR K Av' H' (vs.map some) as ψ' → Rep K Av' H' G v d → Apart G ψ' → Step [] Av Av' H H' ψ ψ' → OrgG [] H ψ G → Q v H'
  | .exc e as => ∀ cls x H' Av' ψ', EnvR K Av' H' (vs.map some) as ψ' → xr Av' H' e cls x → Step [] Av Av' H H' ψ ψ' → E cls x H'
  | .bad => False

/-- what was lent is put back: by one place after another -/
theorem back_ok {lock : List Nat} {Av0 : Addr → Prop} {H0 : Hp} {φ0 : Nat → List Addr} (ok0 : AvOk Av0 H0) : ∀ (ps : List (D × Option Nat)) (as : List (Option D)) (vs : List V) {ρ ρ' : Env} {φ ψ : Nat → List Addr},
    Step lock Av0 Av H0 H φ0 φ → EnvR K Av H σ ρ φ → EnvR K Av H (vs.map some) as ψ → (∀ j, Apart (ψ j) φ) → (∀ j, OrgG lock H0 φ0 (ψ j)) →
    (∀ (j : Nat) (d : D) (i : Nat), ps[j]? = some (d, some i) → i ∉ lock ∧ ∃ v, vs[j]? = some v ∧ σ[i]? = some (some v)) → back ps as ρ = some ρ' →
    ∃ φ', EnvR K Av H σ ρ' φ' ∧ Step lock Av0 Av H0 H φ0 φ' ∧ ∀ i a, a ∈ φ' i → a ∈ φ i ∨ ∃ j, a ∈ ψ j
  | [], as, vs, ρ, ρ', φ, ψ, S, e, ea, ap, og, ln, h => by
    have h' : some ρ = some ρ' := h
    cases h'
    exact ⟨φ, e, S, fun i a h => .inl h⟩
  | (d, o) :: ps, [], vs, ρ, ρ', φ, ψ, S, e, ea, ap, og, ln, h => by
    cases o <;> cases h
  | (d, o) :: ps, a :: as, vs, ρ, ρ', φ, ψ, S, e, ea, ap, og, ln, h => by
    obtain ⟨v, vs', rfl⟩ : ∃ v vs', vs = v :: vs' := by
      cases vs with
      | nil => have := ea.len; simp at this
      | cons v vs => exact ⟨_, _, rfl⟩
    have ea' : EnvR K Av H (vs'.map some) as (fun j => ψ (j + 1)) :=
      ⟨by have := ea.len; simpa using this, fun i d hi => ea.rep (i + 1) d (by simpa using hi), fun i hi => ea.emp (i + 1) fun d z => hi d (by simpa using z), fun i j x h1 h2 => by have := ea.dis _ _ x h1 h2; omega, ea.ok⟩
    have ln' : ∀ (j : Nat) (d : D) (i : Nat), ps[j]? = some (d, some i) → i ∉ lock ∧ ∃ v, vs'[j]? = some v ∧ σ[i]? = some (some v) := fun j d i hj => by
      obtain ⟨n, w, h1, h2⟩ := ln (j + 1) d i (by simpa using hj)
      exact ⟨n, w, by simpa using h1, h2⟩
    cases o with
    | none =>
      have h' : back ps as ρ = some ρ' := h
      obtain ⟨φ', e', S', m'⟩ := back_ok ok0 ps as vs' S e ea' (fun j => ap (j + 1)) (fun j => og (j + 1)) ln' h'
      exact ⟨φ', e', S', fun i x hx => (m' i x hx).imp id fun ⟨j, hj⟩ => ⟨j + 1, hj⟩⟩
    | some i =>
      have h' : (match ρ[i]? with | some none => back ps as (ρ.set i a) | _ => none) = some ρ' := h
      cases q : ρ[i]? with
      | none => rw [q] at h'; cases h'
      | some x =>
        cases x with
        | some y => rw [q] at h'; cases h'
        | none =>
          rw [q] at h'
          dsimp only at h'
          obtain ⟨ni, w, hw, hs⟩ := ln 0 d i rfl
          have hw' : v = w := by simpa using hw
          subst hw'
          have hlt := get_lt q
          have fi : φ i = [] := e.emp i fun d z => by rw [q] at z; cases z
          have e1 : EnvR K Av H σ (ρ.set i a) (fun j => if j = i then ψ 0 else φ j) := by
            refine ⟨by rw [List.length_set]; exact e.len, fun j dj hj => ?_, fun j hj => ?_, fun j k x h1 h2 => ?_, e.ok⟩
            · by_cases z : j = i
              · subst z
                rw [List.getElem?_set_self hlt] at hj
                have hj : a = some dj := Option.some.inj hj
                subst hj
                obtain ⟨w2, hw2, ra⟩ := ea.rep 0 dj rfl
                have hw2' : v = w2 := by simpa using hw2
                subst hw2'
                exact ⟨v, hs, by rw [if_pos rfl]; exact ra⟩
              · rw [List.getElem?_set_ne (Ne.symm z)] at hj
                rw [if_neg z]
                exact e.rep j dj hj
            · by_cases z : j = i
              · subst z
                refine (if_pos rfl).trans (ea.emp 0 fun d z => hj d ?_)
                rw [List.getElem?_set_self hlt]
                exact z
              · rw [List.getElem?_set_ne (Ne.symm z)] at hj
                exact (if_neg z).trans (e.emp j hj)
            · have h1 : x ∈ (if j = i then ψ 0 else φ j) := h1
              have h2 : x ∈ (if k = i then ψ 0 else φ k) := h2
              by_cases z1 : j = i <;> by_cases z2 : k = i
              · rw [z1, z2]
              · rw [if_pos z1] at h1; rw [if_neg z2] at h2; exact absurd h2 (ap 0 x h1 k)
              · rw [if_neg z1] at h1; rw [if_pos z2] at h2; exact absurd h1 (ap 0 x h2 j)
              · rw [if_neg z1] at h1; rw [if_neg z2] at h2; exact e.dis j k x h1 h2
          have S1 : Step lock Av0 Av H0 H φ0 (fun j => if j = i then ψ 0 else φ j) := ⟨S.keep, S.there, S.av, S.own, fun j x hx => by
            have hx : x ∈ (if j = i then ψ 0 else φ j) := hx
            by_cases z : j = i
            · rw [if_pos z] at hx
              exact .inr ⟨by rw [z]; exact ni, og 0 x hx⟩
            · rw [if_neg z] at hx
              exact S.org j x hx⟩
          obtain ⟨φ', e', S', m'⟩ := back_ok ok0 ps as vs' S1 e1 ea' (fun j x hx k z => by
            have z : x ∈ (if k = i then ψ 0 else φ k) := z
            by_cases q : k = i
            · rw [if_pos q] at z
              have := ea.dis _ _ x z hx
              omega
            · rw [if_neg q] at z
              exact ap (j + 1) x hx k z) (fun j => og (j + 1)) ln' h'
          refine ⟨φ', e', S', fun k x hx => ?_⟩
          rcases m' k x hx with z | ⟨j, z⟩
          · have z : x ∈ (if k = i then ψ 0 else φ k) := z
            by_cases q : k = i
            · rw [if_pos q] at z; exact .inr ⟨0, z⟩
            · rw [if_neg q] at z; exact .inl z
          · exact .inr ⟨j + 1, z⟩

/-- the call -/
theorem ral_fin {Φ : List D → Fo} {n : Nat} {margs : M (List (D × Option Nat))} {g : Gd} {Q : VK} (h : RE g c (mCall n Φ margs) σ H Q) :
    RAL g c margs σ H fun vs H1 => spF g.K g.xr n Φ vs H1 Q (fun cls d H' => g.W cls d σ H') := by
  obtain ⟨Av, ρ, φ, e, h⟩ := h
  refine ⟨Av, ρ, φ, e, ?_⟩
  unfold mCall at h
  cases q : margs c ρ with
  | bad => simp only [bnd, q] at h
  | exc x ρ' => simp only [bnd, q] at h; exact h
  | ok ps ρ1 =>
    simp only [bnd, q] at h
    intro vs H1 Av1 φ1 ψ e1 ar ap1 st1 og1
    by_cases hn : ps.length = n
    case neg => rw [if_neg hn] at h; exact h.elim
    rw [if_pos hn] at h
    have hl : vs.length = n := by
      have := ar.env.len
      rw [List.length_map, List.length_map] at this
      rw [this]; exact hn
    have ar' : EnvR g.K Av1 H1 (vs.map some) ((ps.map (·.1)).map some) ψ := by
      rw [List.map_map]; exact ar.env
    refine ⟨hl, Av1, ps.map (·.1), ψ, ar', ?_⟩
    -- the slots behind the call
    have after : ∀ {as : List (Option D)} {H2 : Hp} {Av2 : Addr → Prop} {ψ' : Nat → List Addr}, EnvR g.K Av2 H2 (vs.map some) as ψ' → Step [] Av1 Av2 H1 H2 ψ ψ' →
        EnvR g.K Av2 H2 σ ρ1 φ1 ∧ Step c.lock Av Av2 H H2 φ φ1 ∧ (∀ j, Apart (ψ' j) φ1) ∧ ∀ j, OrgG c.lock H φ (ψ' j) := fun {as H2 Av2 ψ'} ea st => by
      have k := st.keeps
      have k' : Keep Av1 Av2 H1 H2 fun x => ∃ i, x ∈ ψ i := k
      refine ⟨⟨e1.len, fun i d hi => ?_, e1.emp, e1.dis, ea.ok⟩, ⟨fun a o ha n => ?_, fun a ha => st.there a (st1.there a ha), fun a ha => ?_, fun a ha n => ?_, fun i a ha => st1.org i a ha⟩, fun j a ha i z => ?_, fun j a ha => ?_⟩
      · obtain ⟨v, h1, r⟩ := e1.rep i d hi
        exact ⟨v, h1, r.keep e1.ok (fun a ⟨j, h⟩ => ar'.own h) k' fun a ha ⟨j, z⟩ => ap1 j a z i ha⟩
      · refine st.keep a o (st1.keep a o ha n) fun j _ z => ?_
        rcases og1 j a z with ⟨k, hk, q⟩ | q
        · exact n k hk q
        · rw [ha] at q; cases q
      · rcases st.av a ha with z | z
        · exact st1.av a z
        · by_cases y : H a = none
          · exact .inr y
          · exact absurd z (st1.there a y)
      · refine st.own a (st1.own a ha n) fun j z => ?_
        rcases og1 j a z with ⟨k, hk, q⟩ | q
        · exact n k q
        · obtain ⟨o, eo, _⟩ := e.ok a ha
          rw [eo] at q; cases q
      · rcases st.org j a ha with q | ⟨_, ⟨k, _, q⟩ | q⟩
        · exact ap1 j a q i z
        · exact ap1 k a q i z
        · exact e1.there z q
      · rcases st.org j a ha with q | ⟨_, ⟨k, _, q⟩ | q⟩
        · exact og1 j a q
        · exact og1 k a q
        · by_cases y : H a = none
          · exact .inr y
          · exact absurd q (st1.there a y)
    cases q2 : Φ (ps.map (·.1)) with
    | bad => simp only [q2] at h
    | exc x as =>
      simp only [q2] at h
      cases q3 : back ps as ρ1 with
      | none => simp only [q3] at h
      | some ρ2 =>
        simp only [q3] at h
        intro cls y H2 Av2 ψ' ea hx st
        obtain ⟨e2, S2, a2, o2⟩ := after ea st
        obtain ⟨φ', e3, S3, _⟩ := back_ok e.ok ps as vs S2 e2 ea a2 o2 ar.lent q3
        exact h cls y σ H2 Av2 φ' e3 hx S3 fun _ _ => rfl
    | ok d as =>
      simp only [q2] at h
      cases q3 : back ps as ρ1 with
      | none => simp only [q3] at h
      | some ρ2 =>
        simp only [q3] at h
        intro v H2 Av2 ψ' G ea r ap st og
        obtain ⟨e2, S2, a2, o2⟩ := after ea st
        obtain ⟨φ', e3, S3, m3⟩ := back_ok e.ok ps as vs S2 e2 ea a2 o2 ar.lent q3
        refine h v H2 Av2 φ' G e3 r (fun a ha i z => ?_) S3 fun a ha => ?_
        · rcases m3 i a z with z | ⟨j, z⟩
          · rcases og a ha with ⟨k, _, q⟩ | q
            · exact ap1 k a q i z
            · exact e1.there z q
          · exact ap a ha j z
        · rcases og a ha with ⟨k, _, q⟩ | q
          · exact og1 k a q
          · by_cases y : H a = none
            · exact .inr y
            · exact absurd q (st1.there a y)
end
end Y

end
section
set_option Elab.async false
set_option linter.all false
set_option maxRecDepth 100000
set_option autoImplicit false
/-! Y7: what is walked; targets; for; comprehensions; while. -/
namespace Y
open PySem L2
section
variable {K : PySem.W.Frag} {Av Av0 Av1 Av2 Av' : Addr → Prop} {H H0 H1 H2 H' : Hp} {φ φ0 φ1 φ2 φ' : Nat → List Addr} {lock lock' : List Nat} {σ σ' : St} {ρ ρ' : Env} {F G : List Addr} {v : V} {d : D} {vs : List V} {ds : List D}

theorem SqT.keep0 {T : Addr → Prop} {a : Addr} (ok : AvOk Av H) (hT : ∀ a, T a → Av a) (k : ∀ a o, H a = some o → ¬ T a → H' a = some o) (h : SqT K H a vs) : SqT K H' a vs := by
  have n : ∀ {o}, H a = some o → ¬ Mut (some o) → ¬ T a := fun {o} e m t => by
    obtain ⟨o', e', m'⟩ := ok a (hT a t)
    rw [e] at e'; cases e'; exact m m'
  rcases h with (h | ⟨o, h⟩) | h
  · exact .inl (.inl (k _ _ h (n h fun z => z)))
  · exact .inl (.inr ⟨o, k _ _ h (n h fun z => z)⟩)
  · exact .inr h
theorem rd_keep0 {T : Addr → Prop} {a : Addr} {u : HO} (k : ∀ a o, H a = some o → ¬ T a → H' a = some o) (h : Rd H a u) (n : ¬ T a) : Rd H' a u := by
  rcases h with h | ⟨o, h⟩
  · exact .inl (k _ _ h n)
  · exact .inr ⟨o, k _ _ h n⟩
/-! what owns nothing stays under less -/
mutual
theorem Rep.keep0 {T : Addr → Prop} (ok : AvOk Av H) (hT : ∀ a, T a → Av a) (k : ∀ a o, H a = some o → ¬ T a → H' a = some o) (av : ∀ a, Av' a → Av a ∨ H a = none) {F : List Addr} {v : V} {d : D} (h : Rep K Av H F v d) (hF : F = []) : Rep K Av' H' [] v d := by
  cases h with
  | non => exact .non
  | bl b => exact .bl b
  | int i => exact .int i
  | str s => exact .str s
  | tup h1 h2 => exact .tup (SqT.keep0 ok hT k h1) (RepL.keep0 ok hT k av h2 rfl)
  | lstK h1 h3 => exact .lstK h1 (RepL.keep0 ok hT k av h3 rfl)
  | lstF h1 h2 h3 =>
    refine .lstF (rd_keep0 k h1 fun t => h2 (hT _ t)) (fun z => ?_) (RepL.keep0 ok hT k av h3 rfl)
    rcases av _ z with z | z
    · exact h2 z
    · obtain ⟨o, e⟩ := rd_some h1
      rw [e] at z; cases z
  | lstO _ _ _ _ _ => cases hF
theorem RepL.keep0 {T : Addr → Prop} (ok : AvOk Av H) (hT : ∀ a, T a → Av a) (k : ∀ a o, H a = some o → ¬ T a → H' a = some o) (av : ∀ a, Av' a → Av a ∨ H a = none) {F : List Addr} {vs : List V} {ds : List D} (h : RepL K Av H F vs ds) (hF : F = []) : RepL K Av' H' [] vs ds := by
  cases h with
  | nil => exact .nil
  | cons h1 h2 =>
    obtain ⟨e1, e2⟩ := List.append_eq_nil_iff.mp hF
    exact .cons (F := []) (G := []) (Rep.keep0 ok hT k av h1 e1) (RepL.keep0 ok hT k av h2 e2)
end
theorem Step.mono (s : Step lock' Av Av' H H' φ φ') (h : ∀ i ∈ lock, i ∈ lock') : Step lock Av Av' H H' φ φ' :=
  ⟨fun a o e n => s.keep a o e fun i hi => n i fun z => hi (h i z), s.there, s.av, s.own, fun i a ha => (s.org i a ha).imp id fun ⟨h1, h2⟩ => ⟨fun z => h1 (h i z), h2.imp (fun ⟨j, hj, q⟩ => ⟨j, fun z => hj (h j z), q⟩) id⟩⟩

/-! ### what is walked -/
/-- J walks the trees ds while ok stands; own: the owned addresses that it hangs on -/
structure Src (K : PySem.W.Frag) (J : It) (ds : List D) (own : List Addr) (ok : (Addr → Prop) → Hp → Prop) : Prop where
  go : ∀ Av H i d, ok Av H → AvOk Av H → ds[i]? = some d → J.go i H ∧ ∀ x H', J.yld i H x H' → Grow Av Av H H' [] ∧ Rep K Av H' [] x d
  stop : ∀ Av H, ok Av H → J.stop ds.length H
  keep : ∀ (Av Av' : Addr → Prop) (H H' : Hp) (T : Addr → Prop), AvOk Av H → (∀ a, T a → Av a) → (∀ a o, H a = some o → ¬ T a → H' a = some o) → (∀ a, Av' a → Av a ∨ H a = none) → (∀ a ∈ own, ¬ T a) → ok Av H → ok Av' H'
/-- a source: its trees, the slots that may not change while it is walked -/
abbrev Sr := List D × List Nat
def RI (g : Gd) (c : Ctx) (m : M Sr) : TI := fun σ H R => ∃ Av ρ φ, EnvR g.K Av H σ ρ φ ∧
  match m c ρ with
  | .ok p ρ' => ∀ (J : It) (H' : Hp) (Av' : Addr → Prop) (φ' : Nat → List Addr) (G own : List Addr) (ok : (Addr → Prop) → Hp → Prop), EnvR g.K Av' H' σ ρ' φ' → Src g.K J p.1 own ok → ok Av' H' → (∀ a ∈ own, a ∈ G ∨ ∃ i ∈ p.2, a ∈ φ' i) → (∀ a ∈ G, Av' a) → Apart G φ' → Step c.lock Av Av' H H' φ φ' → OrgG c.lock H φ G → R J H'
  | .exc e ρ' => RX g c Av H φ σ e ρ'
  | .bad => False
theorem PI.weak {X : Cx} {tg e : Expr} {t t' : TI} (h : PI X tg e t) (w : ∀ σ H R, t' σ H R → t σ H R) : PI X tg e t' := ⟨fun pins s σ H R I q => h.run pins s σ H R I (w σ H R q)⟩

/-- a sequence at a, list or tuple -/
theorem src_list {a : Addr} {own : List Addr} {ds : List D} : Src K (Itl K a) ds own (fun Av H => ∃ vs, ((Rd H a (.lst vs) ∧ (Av a → a ∈ own)) ∨ SqL K (fun _ => none) a vs) ∧ RepL K Av H [] vs ds) where
  go := fun Av H i d ⟨vs, h1, h2⟩ ok e => by
    have hq : SqL K H a vs := h1.elim (fun z => .inl z.1) sql_any
    obtain ⟨x, hx, r⟩ := h2.all2.get e
    exact ⟨⟨vs, x, hq, hx⟩, fun y H' ⟨e1, e2⟩ => by
      subst e1
      have : y = x := Option.some.inj ((e2 vs hq).symm.trans hx)
      subst this
      exact ⟨Grow.refl ok, r⟩⟩
  stop := fun Av H ⟨vs, h1, h2⟩ => ⟨vs, h1.elim (fun z => .inl z.1) sql_any, by rw [h2.length]; exact Nat.le_refl _⟩
  keep := fun Av Av' H H' T ok hT k av n ⟨vs, h1, h2⟩ => ⟨vs, h1.imp (fun ⟨h1, h3⟩ => ⟨rd_keep0 k h1 fun t => n a (h3 (hT a t)) t, fun z => by
    rcases av a z with z | z
    · exact h3 z
    · obtain ⟨o, e⟩ := rd_some h1
      rw [e] at z; cases z⟩) id, h2.keep0 ok hT k av rfl⟩
theorem src_tup {a : Addr} {ds : List D} : Src K (Itt K a) ds [] (fun Av H => ∃ vs, SqT K H a vs ∧ RepL K Av H [] vs ds) where
  go := fun Av H i d ⟨vs, h1, h2⟩ ok e => by
    obtain ⟨x, hx, r⟩ := h2.all2.get e
    exact ⟨⟨vs, x, h1, hx⟩, fun y H' ⟨e1, e2⟩ => by
      subst e1
      have : y = x := Option.some.inj ((e2 vs h1).symm.trans hx)
      subst this
      exact ⟨Grow.refl ok, r⟩⟩
  stop := fun Av H ⟨vs, h1, h2⟩ => ⟨vs, h1, by rw [h2.length]; exact Nat.le_refl _⟩
  keep := fun Av Av' H H' T ok hT k av n ⟨vs, h1, h2⟩ => ⟨vs, SqT.keep0 ok hT k h1, h2.keep0 ok hT k av rfl⟩
theorem rng_get {lo : Int} {n i : Nat} {d : D} (h : ((List.range n).map fun (k : Nat) => D.int (lo + k))[i]? = some d) : i < n ∧ d = .int (lo + i) := by
  rw [List.getElem?_map] at h
  by_cases hi : i < n
  · rw [List.getElem?_range hi] at h
    exact ⟨hi, (Option.some.inj h).symm⟩
  · rw [List.getElem?_eq_none (by simpa using hi)] at h
    cases h
theorem src_rng {lo : Int} {n : Nat} : Src K (Itr lo n) ((List.range n).map fun (k : Nat) => D.int (lo + k)) [] (fun _ _ => True) where
  go := fun Av H i d _ ok e => by
    obtain ⟨hi, rfl⟩ := rng_get e
    exact ⟨hi, fun y H' ⟨e1, e2⟩ => by
      subst e1; subst e2
      exact ⟨Grow.refl ok, .int _⟩⟩
  stop := fun _ _ _ => by
    show n ≤ _
    simp
  keep := fun _ _ _ _ _ _ _ _ _ _ _ => trivial
theorem str_get {x : Str} {i : Nat} {d : D} (h : (x.cps.toList.map fun c => D.str ⟨#[c]⟩)[i]? = some d) : ∃ c, x.cps[i]? = some c ∧ d = .str ⟨#[c]⟩ := by
  rw [List.getElem?_map] at h
  cases q : x.cps.toList[i]? with
  | none => rw [q] at h; cases h
  | some c =>
    rw [q] at h
    exact ⟨c, by simpa using q, (Option.some.inj h).symm⟩
theorem src_str {x : Str} : Src K (Its x) (x.cps.toList.map fun c => D.str ⟨#[c]⟩) [] (fun _ _ => True) where
  go := fun Av H i d _ ok e => by
    obtain ⟨c, hc, rfl⟩ := str_get e
    exact ⟨(Array.getElem?_eq_some_iff.mp hc).1, fun y H' ⟨e1, c', h1, h2⟩ => by
      subst e1; subst h2
      rw [hc] at h1; cases h1
      exact ⟨Grow.refl ok, .str _⟩⟩
  stop := fun _ _ _ => by
    show x.cps.size ≤ _
    simp
  keep := fun _ _ _ _ _ _ _ _ _ _ _ => trivial
end

/-- how a value's walk begins -/
def IterV (X : Cx) (tg : Expr) (r : V → Hp → (It → Hp → Prop) → Prop) : Prop := ∀ (pins : List (Addr × Obj)) (s : Shared) (σ : St) (H : Hp) (x : V) (u : Value) (R : It → Hp → Prop), Inv X pins σ H s → RelV x u → r x H R →
  wpAny (model X.prog X.w) X.A (pyIter u) (PIE X pins σ tg R) X.xe s
section
variable {X : Cx} {tg : Expr}
theorem pi_of {r : V → Hp → (It → Hp → Prop) → Prop} (h : IterV X tg r) {l : Expr} {tl : TE} (hl : PE X l tl) : PI X tg l (fun σ H R => tl σ H fun x H1 => r x H1 R) :=
  ⟨fun pins s σ H R I h' => thn (hl.run pins s σ H _ I h') fun v s1 ⟨x, H1, I1, r1, q1⟩ => h pins s1 σ H1 x v R I1 r1 q1⟩
theorem iv_list : IterV X tg (fun x H R => ∃ a, x = .ref a ∧ (∃ xs, SqL X.K H a xs) ∧ R (Itl X.K a) H) := by
  intro pins s1 σ H1 x u R I1 r1 ⟨a, e, ⟨xs, hq⟩, q⟩
  subst e
  cases r1
  obtain ⟨its, rv, p, hz⟩ := I1.list hq
  refine wpAny_pyIter_list p.isList ?_
  refine ⟨s1.heap.objs.size, [s1.heap.objs.size], _, _, H1, rfl, I1.kept (t' := s1.toks) fun b o e => Heap.get?_push_of_some _ e, turn_list a _, ⟨_, Heap.get?_push_size _ rfl, rfl, rfl⟩, fun b hb => ?_, q⟩
  have e : b = s1.heap.objs.size := by simpa using hb
  subst e
  exact I1.fpOk (Nat.le_refl _) (I1.hok.fresh (Nat.le_refl _))
theorem iv_tup : IterV X tg (fun x H R => ∃ a, x = .ref a ∧ (∃ xs, SqT X.K H a xs) ∧ R (Itt X.K a) H) := by
  intro pins s1 σ H1 x u R I1 r1 ⟨a, e, ⟨xs, hq⟩, q⟩
  subst e
  cases r1
  obtain ⟨its, rv, p, hz⟩ := I1.tuple hq
  refine wpAny_pyIter_tuple (show s1.heap.IsTuple a its.toArray from p) ?_
  refine ⟨s1.heap.objs.size, [s1.heap.objs.size], _, _, H1, rfl, I1.kept (t' := s1.toks) fun b o e => Heap.get?_push_of_some _ e, turn_tuple a _, ⟨_, Heap.get?_push_size _ rfl, rfl, rfl⟩, fun b hb => ?_, q⟩
  have e : b = s1.heap.objs.size := by simpa using hb
  subst e
  exact I1.fpOk (Nat.le_refl _) (I1.hok.fresh (Nat.le_refl _))
theorem iv_str : IterV X tg (fun x H R => ∃ y, x = .str y ∧ R (Its y) H) := by
  intro pins s1 σ H1 x u R I1 r1 ⟨y, e, q⟩
  subst e
  obtain ⟨t, rfl⟩ := r1
  cases ha : y.cps.all (· < 128)
  · exact wpAny_pyIter_wide ha (pi_one (tk := s1.toks) I1 _ (turn_str _ y t "str_iterator" (.inr rfl)) ⟨_, Heap.get?_push_size _ rfl, rfl, rfl⟩ q)
  · exact wpAny_pyIter_ascii ha (pi_one (tk := s1.toks) I1 _ (turn_str _ y t "str_ascii_iterator" (.inl rfl)) ⟨_, Heap.get?_push_size _ rfl, rfl, rfl⟩ q)
theorem IterV.or {r r' : V → Hp → (It → Hp → Prop) → Prop} (h : IterV X tg r) (h' : IterV X tg r') : IterV X tg (fun x H R => r x H R ∨ r' x H R) := by
  intro pins s σ H x u R I rx q
  rcases q with q | q
  · exact h pins s σ H x u R I rx q
  · exact h' pins s σ H x u R I rx q
/-- a list, a tuple, a text -/
def rSeq (K : PySem.W.Frag) : V → Hp → (It → Hp → Prop) → Prop := fun x H R =>
  (∃ a, x = .ref a ∧ (∃ xs, SqL K H a xs) ∧ R (Itl K a) H) ∨ (∃ a, x = .ref a ∧ (∃ xs, SqT K H a xs) ∧ R (Itt K a) H) ∨ (∃ y, x = .str y ∧ R (Its y) H)
theorem iv_seq : IterV X tg (rSeq X.K) := iv_list.or (iv_tup.or iv_str)
end

/-! ### sources -/
/-- the trees that a value's walk gives -/
def items : D → Option (List D)
  | .lst _ xs => some (frz.frzL xs)
  | .tup xs => some xs
  | .str x => some (x.cps.toList.map fun c => D.str ⟨#[c]⟩)
  | _ => none
def lockOf : Opd → List Nat
  | .slot i => [i]
  | .val _ => []
/-- over a value -/
def mSrc (ma : M Opd) : M Sr := bnd ma fun o => bnd (gC o) fun d => ofO ((items d).map fun xs => (xs, lockOf o))
section
variable {X : Cx} {W : WX} {xr : (Addr → Prop) → Hp → D → Value → Option Addr → Prop} {c : Ctx} {pos : Pos} {tg : Expr}
variable {K : PySem.W.Frag} {Av Av0 Av1 Av2 Av' : Addr → Prop} {H H0 H1 H2 H' : Hp} {φ φ0 φ1 φ2 φ' : Nat → List Addr} {lock lock' : List Nat} {σ σ' : St} {ρ ρ' : Env} {F G : List Addr} {v : V} {d : D} {vs : List V} {ds : List D}

theorem frzL_idem : ∀ {ds : List D} {vs : List V}, RepL K Av H [] vs ds → frz.frzL ds = ds
  | [], _, _ => rfl
  | d :: ds, _, h => by
    generalize e : ([] : List Addr) = F at h
    cases h with
    | cons h1 h2 =>
      obtain ⟨e1, e2⟩ := List.append_eq_nil_iff.mp e.symm
      subst e1; subst e2
      show frz d :: frz.frzL ds = d :: ds
      rw [frzL_idem h2]
      congr 1
      generalize e3 : ([] : List Addr) = F at h1
      cases h1 with
      | lstF _ _ h3 => show D.lst false (frz.frzL _) = _; rw [frzL_idem h3]
      | lstK _ h3 => show D.lst false (frz.frzL _) = _; rw [frzL_idem h3]
      | lstO _ _ _ _ _ => cases e3
      | _ => rfl

/-- a got operand, walked: S the step from the start; own: the operand's own address where it is owned -/
theorem src_of {o : Opd} {c : Ctx} {xs : List D} (S : Step lock Av0 Av H0 H φ0 φ) (ok0 : AvOk Av0 H0) (og : OrgG lock H0 φ0 F) (e : EnvR K Av H σ ρ φ) (r : RepO K Av H σ F v o) (ap : Apart F φ) (h : gC o c ρ = .ok d ρ') (hi : items d = some xs) :
    ∃ Av1 φ1 own ok J G, EnvR K Av1 H σ ρ' φ1 ∧ Step lock Av0 Av1 H0 H φ0 φ1 ∧ Src K J xs own ok ∧ ok Av1 H ∧ (∀ a ∈ own, a ∈ G ∨ ∃ i ∈ lockOf o, a ∈ φ1 i) ∧ (∀ a ∈ G, Av1 a) ∧ Apart G φ1 ∧ (∀ a ∈ G, a ∈ F) ∧ ∀ R : It → Hp → Prop, R J H → rSeq K v H R := by
  obtain ⟨Av1, φ1, e1, S1, c1, l1, k1, p1⟩ := gC_ok S ok0 og e r ap h
  cases c1 with
  | non => cases hi
  | bl b => cases hi
  | int i => cases hi
  | str s =>
    cases hi
    exact ⟨Av1, φ1, [], _, _, [], e1, S1, src_str, trivial, fun a h => (nomatch h), fun a h => (nomatch h), Apart.nil, fun a h => (nomatch h), fun R q => .inr (.inr ⟨s, rfl, q⟩)⟩
  | @tup a vs ds h1 h2 =>
    cases hi
    exact ⟨Av1, φ1, [], _, _, [], e1, S1, src_tup, ⟨vs, h1, h2⟩, fun a h => (nomatch h), fun a h => (nomatch h), Apart.nil, fun a h => (nomatch h), fun R q => .inr (.inl ⟨a, rfl, ⟨vs, h1⟩, q⟩)⟩
  | @lst a vs ds ow h1 h0 h2 =>
    cases hi
    have ef := frzL_idem h2
    rw [ef]
    by_cases hk : ∃ vs, SqL K (fun _ => none) a vs ∧ RepL K Av1 H [] vs ds
    · obtain ⟨vk, k1, k2⟩ := hk
      exact ⟨Av1, φ1, [], _, _, [], e1, S1, src_list, ⟨vk, .inr k1, k2⟩, fun b hb => (nomatch hb), fun b h => (nomatch h), Apart.nil, fun b h => (nomatch h), fun R q => .inl ⟨a, rfl, ⟨vs, h1⟩, q⟩⟩
    have h1 : Rd H a (.lst vs) := h1.elim id fun z => absurd ⟨vs, .inr z, h2⟩ hk
    have fin : ∀ (G : List Addr), (Av1 a → a ∈ [a] ∧ (a ∈ G ∨ ∃ i ∈ lockOf o, a ∈ φ1 i)) → (∀ b ∈ G, Av1 b) → Apart G φ1 → (∀ b ∈ G, b ∈ F) →
        ∃ Av1 φ1 own ok J G, EnvR K Av1 H σ ρ' φ1 ∧ Step lock Av0 Av1 H0 H φ0 φ1 ∧ Src K J ds own ok ∧ ok Av1 H ∧ (∀ a ∈ own, a ∈ G ∨ ∃ i ∈ lockOf o, a ∈ φ1 i) ∧ (∀ a ∈ G, Av1 a) ∧ Apart G φ1 ∧ (∀ a ∈ G, a ∈ F) ∧ ∀ R : It → Hp → Prop, R J H → rSeq K (.ref a) H R := fun G hG h2' h3 h4 => by
      by_cases z : Av1 a
      · exact ⟨Av1, φ1, [a], _, _, G, e1, S1, src_list, ⟨vs, .inl ⟨h1, fun _ => (hG z).1⟩, h2⟩, fun b hb => by rw [show b = a by simpa using hb]; exact (hG z).2, h2', h3, h4, fun R q => .inl ⟨a, rfl, ⟨vs, .inl h1⟩, q⟩⟩
      · exact ⟨Av1, φ1, [], _, _, G, e1, S1, src_list, ⟨vs, .inl ⟨h1, fun y => absurd y z⟩, h2⟩, fun b hb => (nomatch hb), h2', h3, h4, fun R q => .inl ⟨a, rfl, ⟨vs, .inl h1⟩, q⟩⟩
    cases o with
    | slot i =>
      obtain ⟨hs, rfl⟩ := (show σ[i]? = some (some (V.ref a)) ∧ F = [] from r)
      refine fin [] (fun z => ⟨by simp, .inr ⟨i, by simp [lockOf], ?_⟩⟩) (fun b h => (nomatch h)) Apart.nil fun b h => (nomatch h)
      -- the slot's tree is this list: it owns a
      have h' : (match ρ[i]? with | some (some d) => Rs.ok (chill d) (ρ.set i (some (chill d))) | _ => .bad) = .ok (.lst ow ds) ρ' := h
      cases q : ρ[i]? with
      | none => rw [q] at h'; cases h'
      | some x =>
        cases x with
        | none => rw [q] at h'; cases h'
        | some d0 =>
          rw [q] at h'
          have e' : chill d0 = .lst ow ds := by injection h'
          have e2 : ρ.set i (some (chill d0)) = ρ' := by injection h'
          have hq : ρ'[i]? = some (some (.lst ow ds)) := by
            rw [← e2, List.getElem?_set_self (get_lt q), e']
          obtain ⟨w, hw, rw'⟩ := e1.rep i _ hq
          rw [hs] at hw; cases hw
          generalize φ1 i = Fi at rw' ⊢
          cases rw' with
          | lstF _ n _ => exact absurd z n
          | lstK k1 k3 => exact absurd ⟨_, k1, k3⟩ hk
          | lstO _ _ _ _ _ => simp
    | val d0 =>
      have r0 : Rep K Av H F (.ref a) d0 := r
      have h' : Rs.ok (chill d0) ρ = .ok (.lst ow ds) ρ' := h
      have e' : chill d0 = .lst ow ds := by injection h'
      cases d0 with
      | lst ow' ds' =>
        cases r0 with
        | lstK k1 k3 =>
          have e2 : frz.frzL ds' = ds := by
            have : D.lst false (frz.frzL ds') = D.lst ow ds := e'
            injection this
          exact absurd ⟨_, k1, e2 ▸ k3.frz l1 fun b h => nomatch h⟩ hk
        | lstF _ n _ => exact fin [] (fun z => absurd (l1 a z) n) (fun b h => (nomatch h)) Apart.nil fun b h => (nomatch h)
        | @lstO _ _ _ F' _ ha _ _ _ =>
          by_cases z : Av1 a
          · refine fin [a] (fun _ => ⟨by simp, .inl (by simp)⟩) (fun b h => by rw [show b = a by simpa using h]; exact z) (fun b h i y => ?_) fun b h => by rw [show b = a by simpa using h]; exact List.mem_cons_self
            rw [show b = a by simpa using h] at y
            exact ap a List.mem_cons_self i (p1 i a y)
          · exact fin [] (fun y => absurd y z) (fun b h => (nomatch h)) Apart.nil fun b h => (nomatch h)
      | dct _ _ => cases r0
      | _ => cases e'
theorem i_seq {ex : Expr} {m : M Opd} (h : PE X ex (RO (Cx.gd X W xr) c m)) : PI X tg ex (RI (Cx.gd X W xr) c (mSrc m)) := by
  refine PI.weak (pi_of iv_seq h) fun σ H R ⟨Av, ρ, φ, e, h⟩ => ⟨Av, ρ, φ, e, ?_⟩
  unfold mSrc at h
  cases q : m c ρ with
  | bad => simp only [bnd, q] at h
  | exc x ρ' => simp only [bnd, q] at h; exact h
  | ok o ρ1 =>
    simp only [bnd, q] at h
    intro v H1 Av1 φ1 G1 e1 r1 ap1 nd1 st1 og1
    cases q2 : gC o c ρ1 with
    | bad => simp only [q2] at h
    | exc x ρ' => exact absurd q2 gC_noexc
    | ok d ρ2 =>
      simp only [q2] at h
      cases q3 : items d with
      | none => simp only [q3, ofO, Option.map_none] at h
      | some xs =>
        simp only [q3, ofO, Option.map_some] at h
        obtain ⟨Av2, φ2, own, ok, J, G, e2, S2, src, hok, ho, hG, ap2, hF, fin⟩ := src_of st1 e.ok og1 e1 r1 ap1 q2 q3
        exact fin _ (h J H1 Av2 φ2 G own ok e2 src hok ho hG ap2 S2 fun a ha => og1 a (hF a ha))
end
end Y

end
section
set_option Elab.async false
set_option linter.all false
set_option maxRecDepth 100000
set_option autoImplicit false
/-! Y8: changes of what is owned; targets; statements. -/
namespace Y
open PySem L2
section
variable {K : PySem.W.Frag} {Av Av0 Av1 Av2 Av' : Addr → Prop} {H H0 H1 H2 H' : Hp} {φ φ0 φ1 φ2 φ' : Nat → List Addr} {lock lock' : List Nat} {σ σ' : St} {ρ ρ' : Env} {F F' G : List Addr} {v : V} {d : D} {vs vs' : List V} {ds ds' : List D}

/-- lists put together -/
theorem RepL.app : ∀ {F : List Addr} {vs : List V} {ds : List D} {F' : List Addr} {vs' : List V} {ds' : List D}, RepL K Av H F vs ds → RepL K Av H F' vs' ds' → RepL K Av H (F ++ F') (vs ++ vs') (ds ++ ds')
  | _, _, _, _, _, _, .nil, h => h
  | _, _, _, _, _, _, .cons h1 h2, h => by
    rw [List.append_assoc]
    exact .cons h1 (RepL.app h2 h)
theorem RepL.one (h : Rep K Av H F v d) : RepL K Av H F [v] [d] := by
  have := RepL.cons h (.nil (K := K) (Av := Av) (H := H))
  rwa [List.append_nil] at this
/-- a member put in the place of another -/
theorem RepL.put (r0 : Rep K Av H G v d) : ∀ {F : List Addr} {vs : List V} {ds : List D} (j : Nat), RepL K Av H F vs ds → F.Nodup → G.Nodup → (∀ a ∈ G, a ∉ F) →
    ∃ F', RepL K Av H F' (vs.set j v) (ds.set j d) ∧ F'.Nodup ∧ ∀ a ∈ F', a ∈ F ∨ a ∈ G
  | _, _, _, _, .nil, _, _, _ => ⟨[], .nil, .nil, fun a h => nomatch h⟩
  | _, _, _, 0, .cons (F := F1) (G := F2) h1 h2, n, n2, ap => by
    obtain ⟨m1, m2, m3⟩ := List.nodup_append.mp n
    exact ⟨G ++ F2, .cons r0 h2, List.nodup_append.mpr ⟨n2, m2, fun a ha b hb e => ap a ha (List.mem_append_right _ (e ▸ hb))⟩, fun a h => (List.mem_append.mp h).elim .inr fun z => .inl (List.mem_append_right _ z)⟩
  | _, _, _, j + 1, .cons (F := F1) (G := F2) h1 h2, n, n2, ap => by
    obtain ⟨m1, m2, m3⟩ := List.nodup_append.mp n
    obtain ⟨F', r, nd, hs⟩ := RepL.put r0 j h2 m2 n2 fun a ha z => ap a ha (List.mem_append_right _ z)
    refine ⟨F1 ++ F', .cons h1 r, List.nodup_append.mpr ⟨m1, nd, fun a ha b hb e => ?_⟩, fun a h => ?_⟩
    · subst e
      rcases hs a hb with z | z
      · exact m3 a ha a z rfl
      · exact ap a z (List.mem_append_left _ ha)
    · rcases List.mem_append.mp h with z | z
      · exact .inl (List.mem_append_left _ z)
      · exact (hs a z).imp (fun q => List.mem_append_right _ q) id
/-- a member left out, told apart -/
theorem RepL.out : ∀ {F : List Addr} {vs : List V} {ds : List D} (j : Nat) {x : D}, RepL K Av H F vs ds → F.Nodup → ds[j]? = some x →
    ∃ y F' G, vs[j]? = some y ∧ Rep K Av H G y x ∧ RepL K Av H F' (vs.eraseIdx j) (ds.eraseIdx j) ∧ F'.Nodup ∧ (∀ a ∈ G, a ∉ F') ∧ (∀ a ∈ F', a ∈ F) ∧ ∀ a ∈ G, a ∈ F
  | _, _, _, 0, x, .cons (F := F1) (G := F2) h1 h2, n, e => by
    obtain ⟨m1, m2, m3⟩ := List.nodup_append.mp n
    have e' := Option.some.inj (show some _ = some x from e)
    subst e'
    exact ⟨_, F2, F1, rfl, h1, h2, m2, fun a ha z => m3 a ha a z rfl, fun a h => List.mem_append_right _ h, fun a h => List.mem_append_left _ h⟩
  | _, _, _, j + 1, x, .cons (F := F1) (G := F2) h1 h2, n, e => by
    obtain ⟨m1, m2, m3⟩ := List.nodup_append.mp n
    obtain ⟨y, F', G, a1, a2, a3, a4, a5, a6, a7⟩ := RepL.out j h2 m2 (by simpa using e)
    refine ⟨y, F1 ++ F', G, by simpa using a1, a2, .cons h1 a3, List.nodup_append.mpr ⟨m1, a4, fun a ha b hb e => m3 a ha b (a6 b hb) e⟩, fun a ha z => ?_, fun a h => ?_, fun a h => List.mem_append_right _ (a7 a h)⟩
    · rcases List.mem_append.mp z with z | z
      · exact m3 a z a (a7 a ha) rfl
      · exact a5 a ha z
    · rcases List.mem_append.mp h with z | z
      · exact List.mem_append_left _ z
      · exact List.mem_append_right _ (a6 a z)

/-- an owned list of a slot is changed -/
theorem EnvR.change (e : EnvR K Av H σ ρ φ) {i : Nat} {p : Addr} (hi : ρ[i]? = some (some (.lst true ds))) (hs : σ[i]? = some (some (.ref p))) (hφ : p ∈ φ i) (ha : Av p)
    (r : RepL K Av H F' vs' ds') (np : p ∉ F') (nd : F'.Nodup) (hF : ∀ a ∈ F', a ∈ φ i ∨ a ∈ G) (ap : Apart G φ) :
    EnvR K Av (upd H p (.lst vs')) σ (ρ.set i (some (.lst true ds'))) (fun j => if j = i then p :: F' else φ j) := by
  have hlt := get_lt hi
  have kp : Keep Av Av H (upd H p (.lst vs')) (fun a => a = p) := ⟨fun a o h n => by rw [upd_ne n]; exact h, fun a h => .inl h, fun a h _ => h⟩
  have hT : ∀ a, a = p → Av a := fun a h => h ▸ ha
  refine ⟨by rw [List.length_set]; exact e.len, fun j dj hj => ?_, fun j hj => ?_, fun j k a h1 h2 => ?_, fun a h => ?_⟩
  · by_cases z : j = i
    · subst z
      rw [List.getElem?_set_self hlt] at hj
      cases hj
      refine ⟨.ref p, hs, ?_⟩
      rw [if_pos rfl]
      exact .lstO upd_same ha (r.keep e.ok hT kp fun a h q => np (q ▸ h)) np nd
    · rw [List.getElem?_set_ne (Ne.symm z)] at hj
      obtain ⟨w, hw, rw'⟩ := e.rep j dj hj
      rw [if_neg z]
      exact ⟨w, hw, rw'.keep e.ok hT kp fun a h q => z (e.dis j i a h (q ▸ hφ))⟩
  · by_cases z : j = i
    · subst z
      exact absurd (List.getElem?_set_self hlt) (hj _)
    · rw [List.getElem?_set_ne (Ne.symm z)] at hj
      exact (if_neg z).trans (e.emp j hj)
  · have cl : ∀ a, a ∈ p :: F' → a ∈ φ i ∨ a ∈ G := fun a h => (List.mem_cons.mp h).elim (fun q => .inl (q ▸ hφ)) (hF a)
    have h1 : a ∈ (if j = i then p :: F' else φ j) := h1
    have h2 : a ∈ (if k = i then p :: F' else φ k) := h2
    by_cases z1 : j = i <;> by_cases z2 : k = i
    · rw [z1, z2]
    · rw [if_pos z1] at h1; rw [if_neg z2] at h2
      rcases cl a h1 with q | q
      · exact absurd (e.dis k i a h2 q) z2
      · exact absurd h2 (ap a q k)
    · rw [if_neg z1] at h1; rw [if_pos z2] at h2
      rcases cl a h2 with q | q
      · exact absurd (e.dis j i a h1 q) z1
      · exact absurd h1 (ap a q j)
    · rw [if_neg z1] at h1; rw [if_neg z2] at h2; exact e.dis j k a h1 h2
  · obtain ⟨o, eo, m⟩ := e.ok a h
    by_cases z : a = p
    · subst z; exact ⟨_, upd_same, trivial⟩
    · exact ⟨o, by rw [upd_ne z]; exact eo, m⟩
theorem Step.change (S : Step lock Av0 Av H0 H φ0 φ) (ok0 : AvOk Av0 H0) {i : Nat} {p : Addr} (hl : i ∉ lock) (hφ : p ∈ φ i) (hF : ∀ a ∈ F', a ∈ φ i ∨ a ∈ G) (og : OrgG lock H0 φ0 G) :
    Step lock Av0 Av H0 (upd H p (.lst vs')) φ0 (fun j => if j = i then p :: F' else φ j) := by
  have src : ∀ a, a ∈ φ i → (∃ j, j ∉ lock ∧ a ∈ φ0 j) ∨ H0 a = none := fun a h => by
    rcases S.org i a h with q | ⟨_, q⟩
    · exact .inl ⟨i, hl, q⟩
    · exact q
  refine ⟨fun a o h n => ?_, fun a h => ?_, S.av, S.own, fun j a h => ?_⟩
  · rw [upd_ne fun q => ?_]
    · exact S.keep a o h n
    · subst q
      rcases src _ hφ with ⟨j, hj, q⟩ | q
      · exact n j hj q
      · rw [h] at q; cases q
  · by_cases z : a = p
    · subst z; rw [upd_same]; exact fun q => nomatch q
    · rw [upd_ne z]; exact S.there a h
  · have h : a ∈ (if j = i then p :: F' else φ j) := h
    by_cases z : j = i
    · rw [if_pos z] at h
      refine .inr ⟨z ▸ hl, ?_⟩
      rcases List.mem_cons.mp h with q | q
      · exact src a (q ▸ hφ)
      · rcases hF a q with y | y
        · exact src a y
        · exact og a y
    · rw [if_neg z] at h; exact S.org j a h
/-- a slot is stored -/
theorem EnvR.store (e : EnvR K Av H σ ρ φ) {i : Nat} (hi : i < ρ.length) (r : Rep K Av H G v d) (ap : Apart G φ) : EnvR K Av H (σ.set i (some v)) (ρ.set i (some d)) (fun j => if j = i then G else φ j) := by
  have hσ : i < σ.length := by rw [e.len]; exact hi
  refine ⟨by rw [List.length_set, List.length_set]; exact e.len, fun j dj hj => ?_, fun j hj => ?_, fun j k a h1 h2 => ?_, e.ok⟩
  · by_cases z : j = i
    · subst z
      rw [List.getElem?_set_self hi] at hj
      cases hj
      exact ⟨v, List.getElem?_set_self hσ, by rw [if_pos rfl]; exact r⟩
    · rw [List.getElem?_set_ne (Ne.symm z)] at hj
      rw [List.getElem?_set_ne (Ne.symm z), if_neg z]
      exact e.rep j dj hj
  · by_cases z : j = i
    · subst z
      exact absurd (List.getElem?_set_self hi) (hj d)
    · rw [List.getElem?_set_ne (Ne.symm z)] at hj
      exact (if_neg z).trans (e.emp j hj)
  · have h1 : a ∈ (if j = i then G else φ j) := h1
    have h2 : a ∈ (if k = i then G else φ k) := h2
    by_cases z1 : j = i <;> by_cases z2 : k = i
    · rw [z1, z2]
    · rw [if_pos z1] at h1; rw [if_neg z2] at h2; exact absurd h2 (ap a h1 k)
    · rw [if_neg z1] at h1; rw [if_pos z2] at h2; exact absurd h1 (ap a h2 j)
    · rw [if_neg z1] at h1; rw [if_neg z2] at h2; exact e.dis j k a h1 h2
theorem Step.store (S : Step lock Av0 Av H0 H φ0 φ) {i : Nat} (hl : i ∉ lock) (og : OrgG lock H0 φ0 G) : Step lock Av0 Av H0 H φ0 (fun j => if j = i then G else φ j) :=
  ⟨S.keep, S.there, S.av, S.own, fun j a h => by
    have h : a ∈ (if j = i then G else φ j) := h
    by_cases z : j = i
    · rw [if_pos z] at h; exact .inr ⟨z ▸ hl, og a h⟩
    · rw [if_neg z] at h; exact S.org j a h⟩
/-- a slot's thing is taken out -/
theorem EnvR.lend (e : EnvR K Av H σ ρ φ) {i : Nat} (q : ρ[i]? = some (some d)) :
    ∃ v, σ[i]? = some (some v) ∧ Rep K Av H (φ i) v d ∧ EnvR K Av H σ (ρ.set i none) (fun j => if j = i then [] else φ j) ∧ Apart (φ i) (fun j => if j = i then [] else φ j) ∧ Step lock Av Av H H φ (fun j => if j = i then [] else φ j) := by
  obtain ⟨v, hv, r⟩ := e.rep i d q
  have hlt := get_lt q
  refine ⟨v, hv, r, ⟨by rw [List.length_set]; exact e.len, fun j dj hj => ?_, fun j hj => ?_, fun j k a h1 h2 => ?_, e.ok⟩, fun a ha j z => ?_, ⟨fun _ _ h _ => h, fun _ h => h, fun _ h => .inl h, fun _ h _ => h, fun j a h => ?_⟩⟩
  · by_cases z : j = i
    · subst z; rw [List.getElem?_set_self hlt] at hj; cases hj
    · rw [List.getElem?_set_ne (Ne.symm z)] at hj
      rw [if_neg z]
      exact e.rep j dj hj
  · by_cases z : j = i
    · exact if_pos z
    · rw [List.getElem?_set_ne (Ne.symm z)] at hj
      exact (if_neg z).trans (e.emp j hj)
  · have m : ∀ j, a ∈ (if j = i then [] else φ j) → a ∈ φ j := fun j h => by
      by_cases q : j = i
      · subst q; rw [if_pos rfl] at h; cases h
      · rw [if_neg q] at h; exact h
    exact e.dis j k a (m j h1) (m k h2)
  · have z : a ∈ (if j = i then [] else φ j) := z
    by_cases q : j = i
    · rw [if_pos q] at z; cases z
    · rw [if_neg q] at z; exact q (e.dis j i a z ha)
  · have h : a ∈ (if j = i then [] else φ j) := h
    by_cases q : j = i
    · rw [if_pos q] at h; cases h
    · rw [if_neg q] at h; exact .inl h
end

/-! ### targets -/
/-- what a store keeps: T is what the slots and the stored thing own -/
structure Calm (Av Av' : Addr → Prop) (H H' : Hp) (φ φ' : Nat → List Addr) (G : List Addr) : Prop where
  keep : Keep Av Av' H H' (fun a => (∃ i, a ∈ φ i) ∨ a ∈ G)
  org : ∀ i a, a ∈ φ' i → ((∃ j, a ∈ φ j) ∨ a ∈ G) ∨ H a = none
  there : ∀ a, H a ≠ none → H' a ≠ none
def RG (g : Gd) (c : Ctx) (m : D → M Unit) : TG := fun v σ H Q => ∃ Av0 H0 φ0 Av ρ φ d G, AvOk Av0 H0 ∧ Step c.lock Av0 Av H0 H φ0 φ ∧ OrgG c.lock H0 φ0 G ∧ EnvR g.K Av H σ ρ φ ∧ Rep g.K Av H G v d ∧ Apart G φ ∧
  match m d c ρ with
  | .ok _ ρ' => ∀ σ' H' Av' φ', EnvR g.K Av' H' σ' ρ' φ' → Step c.lock Av0 Av' H0 H' φ0 φ' → Calm Av Av' H H' φ φ' G → (∀ i, i ∈ c.prot ∨ i ∈ c.lock → σ'[i]? = σ[i]?) → Q σ' H'
  | .exc _ _ => False
  | .bad => False
def RGs (g : Gd) (c : Ctx) (m : List D → M Unit) : TGs := fun vs σ H Q => ∃ Av0 H0 φ0 Av ρ φ ds F, AvOk Av0 H0 ∧ Step c.lock Av0 Av H0 H φ0 φ ∧ OrgG c.lock H0 φ0 F ∧ EnvR g.K Av H σ ρ φ ∧ RepL g.K Av H F vs ds ∧ F.Nodup ∧ Apart F φ ∧
  match m ds c ρ with
  | .ok _ ρ' => ∀ σ' H' Av' φ', EnvR g.K Av' H' σ' ρ' φ' → Step c.lock Av0 Av' H0 H' φ0 φ' → Calm Av Av' H H' φ φ' F → (∀ i, i ∈ c.prot ∨ i ∈ c.lock → σ'[i]? = σ[i]?) → Q σ' H'
  | .exc _ _ => False
  | .bad => False
/-- a slot that may be stored -/
def free (c : Ctx) (i : Nat) : Bool := !(c.prot.contains i) && !(c.lock.contains i)
theorem free_iff {c : Ctx} {i : Nat} (h : free c i = true) : i ∉ c.prot ∧ i ∉ c.lock := by
  unfold free at h
  simp only [Bool.and_eq_true, Bool.not_eq_true', List.contains_eq_mem, decide_eq_false_iff_not] at h
  exact h
theorem Calm.store {K : PySem.W.Frag} {Av : Addr → Prop} {H : Hp} {φ : Nat → List Addr} {G : List Addr} {i : Nat} : Calm Av Av H H φ (fun j => if j = i then G else φ j) G :=
  ⟨⟨fun _ _ h _ => h, fun _ h => .inl h, fun _ h _ => h⟩, fun j a h => by
    have h : a ∈ (if j = i then G else φ j) := h
    by_cases z : j = i
    · rw [if_pos z] at h; exact .inl (.inr h)
    · rw [if_neg z] at h; exact .inl (.inl ⟨j, h⟩), fun _ h => h⟩
theorem Calm.refl {Av : Addr → Prop} {H : Hp} {φ : Nat → List Addr} {G : List Addr} : Calm Av Av H H φ φ G :=
  ⟨⟨fun _ _ h _ => h, fun _ h => .inl h, fun _ h _ => h⟩, fun j a h => .inl (.inl ⟨j, h⟩), fun _ h => h⟩
def setS (i : Nat) (d : D) : M Unit := fun c ρ => if free c i = true ∧ i < ρ.length then .ok () (ρ.set i (some d)) else .bad
def tgTup (n : Nat) (m : List D → M Unit) (d : D) : M Unit := match d with
  | .tup ds => if ds.length = n then m ds else bad
  | _ => bad
def tgNil (ds : List D) : M Unit := match ds with
  | [] => pur ()
  | _ => bad
def tgCons (m : D → M Unit) (ms : List D → M Unit) (ds : List D) : M Unit := match ds with
  | d :: ds => bnd (m d) fun _ => ms ds
  | [] => bad
section
variable {X : Cx} {W : WX} {xr : (Addr → Prop) → Hp → D → Value → Option Addr → Prop} {c : Ctx} {pos : Pos}
theorem PG.weak {tg : Expr} {t t' : TG} (h : PG X tg t) (w : ∀ v σ H Q, t' v σ H Q → t v σ H Q) : PG X tg t' := ⟨fun pins s σ H v u Q I r q => h.run pins s σ H v u Q I r (w v σ H Q q)⟩
theorem PGs.weak {tg : List Expr} {t t' : TGs} (h : PGs X tg t) (w : ∀ v σ H Q, t' v σ H Q → t v σ H Q) : PGs X tg t' := ⟨fun pins s σ H v u Q I r q => h.run pins s σ H v u Q I r (w v σ H Q q)⟩
theorem g_name {i : Nat} {x : Str} (hN : X.N.Nodup) (hi : X.N[i]? = some x) (hx : Loc X.env.scope x) (hf : X.fn x = true ∨ X.env.scope.names.lookup x = some .local) : PG X (.Name x pos) (RG (Cx.gd X W xr) c (setS i)) := by
  refine PG.weak (pg_name hN hi hx hf) fun v σ H Q ⟨Av0, H0, φ0, Av, ρ, φ, d, G, ok0, S, og, e, r, ap, h⟩ => ?_
  unfold setS at h
  by_cases q : free c i = true ∧ i < ρ.length
  · rw [if_pos q] at h
    obtain ⟨f1, f2⟩ := free_iff q.1
    refine h _ H Av _ (e.store q.2 r ap) (S.store f2 og) (Calm.store (K := X.K)) fun j hj => ?_
    refine List.getElem?_set_ne fun z => ?_
    subst z
    exact hj.elim f1 f2
  · rw [if_neg q] at h; exact h.elim
theorem gs_nil : PGs X [] (RGs (Cx.gd X W xr) c tgNil) := by
  refine PGs.weak pgs_nil fun vs σ H Q ⟨Av0, H0, φ0, Av, ρ, φ, ds, F, ok0, S, og, e, r, nd, ap, h⟩ => ?_
  cases ds with
  | nil => cases vs with
    | nil => exact ⟨rfl, h σ H Av φ e S Calm.refl fun _ _ => rfl⟩
    | cons _ _ => have := r.length; simp at this
  | cons _ _ => exact h.elim
theorem gs_cons {ex : Expr} {es : List Expr} {m : D → M Unit} {ms : List D → M Unit} (h1 : PG X ex (RG (Cx.gd X W xr) c m)) (h2 : PGs X es (RGs (Cx.gd X W xr) c ms))
    (hs : (assignEach (ex :: es) X.env).map (·.2) = assign ex X.env :: (assignEach es X.env).map (·.2)) : PGs X (ex :: es) (RGs (Cx.gd X W xr) c (tgCons m ms)) := by
  refine PGs.weak (pgs_cons h1 h2 hs) fun vs σ H Q ⟨Av0, H0, φ0, Av, ρ, φ, ds, F, ok0, S, og, e, r, nd, ap, h⟩ => ?_
  cases ds with
  | nil => exact h.elim
  | cons d ds =>
    cases r with
    | @cons v _ vs _ F1 F2 r1 r2 =>
      obtain ⟨nd1, nd2, nd3⟩ := List.nodup_append.mp nd
      refine ⟨v, vs, rfl, Av0, H0, φ0, Av, ρ, φ, d, F1, ok0, S, fun a h => og a (List.mem_append_left _ h), e, r1, fun a h => ap a (List.mem_append_left _ h), ?_⟩
      cases q : m d c ρ with
      | bad => simp only [tgCons, bnd, q] at h
      | exc x ρ' => simp only [tgCons, bnd, q] at h
      | ok u ρ1 =>
        simp only [tgCons, bnd, q] at h
        intro σ1 H1 Av1 φ1 e1 S1 c1 p1
        have nT : ∀ a ∈ F2, ¬ ((∃ i, a ∈ φ i) ∨ a ∈ F1) := fun a ha z => by
          rcases z with ⟨i, z⟩ | z
          · exact ap a (List.mem_append_right _ ha) i z
          · exact nd3 a z a ha rfl
        have hT : ∀ a, ((∃ i, a ∈ φ i) ∨ a ∈ F1) → Av a := fun a z => z.elim (fun ⟨i, h⟩ => e.own h) (r1.av a)
        have rs1 : RepL X.K Av1 H1 F2 vs ds := r2.keep e.ok hT c1.keep nT
        have ap1 : Apart F2 φ1 := fun a ha i z => by
          rcases c1.org i a z with y | y
          · exact nT a ha y
          · exact r2.there e.ok a ha y
        refine ⟨Av0, H0, φ0, Av1, ρ1, φ1, ds, F2, ok0, S1, fun a h => og a (List.mem_append_right _ h), e1, rs1, nd2, ap1, ?_⟩
        cases q2 : ms ds c ρ1 with
        | bad => simp only [q2] at h
        | exc x ρ' => simp only [q2] at h
        | ok u ρ2 =>
          simp only [q2] at h
          intro σ2 H2 Av2 φ2 e2 S2 c2 p2
          have up : ∀ a, ((∃ i, a ∈ φ1 i) ∨ a ∈ F2) → ((∃ i, a ∈ φ i) ∨ a ∈ F1 ++ F2) ∨ H a = none := fun a z => by
            rcases z with ⟨i, z⟩ | z
            · rcases c1.org i a z with (y | y) | y
              · exact .inl (.inl y)
              · exact .inl (.inr (List.mem_append_left _ y))
              · exact .inr y
            · exact .inl (.inr (List.mem_append_right _ z))
          have dn : ∀ a, ¬ ((∃ i, a ∈ φ i) ∨ a ∈ F1 ++ F2) → ¬ ((∃ i, a ∈ φ i) ∨ a ∈ F1) := fun a n z => n (z.imp id fun y => List.mem_append_left _ y)
          have nn : ∀ a, H1 a = none → H a = none := fun a y => by
            by_cases z : H a = none
            · exact z
            · exact absurd y (c1.there a z)
          refine h σ2 H2 Av2 φ2 e2 S2 ⟨⟨fun a o ha n => c2.keep.keep a o (c1.keep.keep a o ha (dn a n)) fun z => ?_, fun a ha => ?_, fun a ha n => c2.keep.own a (c1.keep.own a ha (dn a n)) fun z => ?_⟩, fun i a ha => ?_, fun a ha => c2.there a (c1.there a ha)⟩ fun i hi => (p2 i hi).trans (p1 i hi)
          · rcases up a z with y | y
            · exact n y
            · rw [ha] at y; cases y
          · rcases c2.keep.av a ha with y | y
            · exact c1.keep.av a y
            · exact .inr (nn a y)
          · rcases up a z with y | y
            · exact n y
            · obtain ⟨o, eo, _⟩ := e.ok a ha
              rw [eo] at y; cases y
          · rcases c2.org i a ha with y | y
            · exact up a y
            · exact .inr (nn a y)
theorem g_tup {es : List Expr} {k n : Nat} {m : List D → M Unit} (hc : X.calm = true) (h : PGs X es (RGs (Cx.gd X W xr) c m)) (hn : (assignEach es X.env).length = n) (hst : (assignEach es X.env).findIdx? (·.1) = none) :
    PG X (.Tuple es k pos) (RG (Cx.gd X W xr) c (tgTup n m)) := by
  refine PG.weak (pg_tup hc h hn hst) fun v σ H Q ⟨Av0, H0, φ0, Av, ρ, φ, d, G, ok0, S, og, e, r, ap, h⟩ => ?_
  cases r with
  | @tup a vs ds h1 h2 =>
    by_cases q : ds.length = n
    · simp only [tgTup, if_pos q] at h
      exact ⟨a, vs, rfl, h1, by rw [h2.length]; exact q, Av0, H0, φ0, Av, ρ, φ, ds, [], ok0, S, OrgG.nil, e, h2, .nil, Apart.nil, h⟩
    · simp only [tgTup, if_neg q, bad] at h
  | _ => exact h.elim

/-! ### statements -/
def sSkip : M Fl := pur .nx
def sSeq (m n : M Fl) : M Fl := bnd m fun f => match f with
  | .nx => n
  | f => pur f
/-- from the start of a part, where its rest is a meaning k -/
theorem RS.from {g : Gd} {k : M Fl} {ρ1 : Env} {Dn : Ends} {Av Av1 : Addr → Prop} {H H1 : Hp} {φ φ1 : Nat → List Addr} {σ σ1 : St} (e1 : EnvR g.K Av1 H1 σ1 ρ1 φ1) (st1 : Step c.lock Av Av1 H H1 φ φ1) (ok : AvOk Av H) (hp : ∀ i, i ∈ c.prot ∨ i ∈ c.lock → σ1[i]? = σ[i]?)
    (h : match k c ρ1 with
      | .ok .nx ρ' => ∀ σ' H' Av' φ', EnvR g.K Av' H' σ' ρ' φ' → Step c.lock Av Av' H H' φ φ' → (∀ i, i ∈ c.prot ∨ i ∈ c.lock → σ'[i]? = σ[i]?) → Dn.nx σ' H'
      | .ok .brk ρ' => ∀ σ' H' Av' φ', EnvR g.K Av' H' σ' ρ' φ' → Step c.lock Av Av' H H' φ φ' → (∀ i, i ∈ c.prot ∨ i ∈ c.lock → σ'[i]? = σ[i]?) → Dn.bk σ' H'
      | .ok .cont ρ' => ∀ σ' H' Av' φ', EnvR g.K Av' H' σ' ρ' φ' → Step c.lock Av Av' H H' φ φ' → (∀ i, i ∈ c.prot ∨ i ∈ c.lock → σ'[i]? = σ[i]?) → Dn.ct σ' H'
      | .ok (.ret d) ρ' => ∀ v σ' H' Av' φ' G, EnvR g.K Av' H' σ' ρ' φ' → Rep g.K Av' H' G v d → Apart G φ' → Step c.lock Av Av' H H' φ φ' → OrgG c.lock H φ G → (∀ i, i ∈ c.prot ∨ i ∈ c.lock → σ'[i]? = σ[i]?) → Dn.rt v H'
      | .exc e ρ' => RX g c Av H φ σ e ρ'
      | .bad => False) : RS g c k Dn σ1 H1 := by
  refine ⟨Av1, ρ1, φ1, e1, ?_⟩
  cases q : k c ρ1 with
  | bad => simp only [q] at h
  | exc x ρ' =>
    simp only [q] at h
    exact fun cls y σ' H' Av' φ' e' xr' st' hp' => h cls y σ' H' Av' φ' e' xr' (st1.trans st' ok) fun i hi => (hp' i hi).trans (hp i hi)
  | ok f ρ2 =>
    cases f with
    | nx => simp only [q] at h; exact fun σ' H' Av' φ' e' st' hp' => h σ' H' Av' φ' e' (st1.trans st' ok) fun i hi => (hp' i hi).trans (hp i hi)
    | brk => simp only [q] at h; exact fun σ' H' Av' φ' e' st' hp' => h σ' H' Av' φ' e' (st1.trans st' ok) fun i hi => (hp' i hi).trans (hp i hi)
    | cont => simp only [q] at h; exact fun σ' H' Av' φ' e' st' hp' => h σ' H' Av' φ' e' (st1.trans st' ok) fun i hi => (hp' i hi).trans (hp i hi)
    | ret d => simp only [q] at h; exact fun v σ' H' Av' φ' G e' r ap st' og hp' => h v σ' H' Av' φ' G e' r ap (st1.trans st' ok) (og.step st1) fun i hi => (hp' i hi).trans (hp i hi)
/-- what follows a statement -/
theorem rs_seq {g : Gd} {m n : M Fl} {Dn : Ends} {σ : St} {H : Hp} (h : RS g c (sSeq m n) Dn σ H) : RS g c m { Dn with nx := RS g c n Dn } σ H := by
  obtain ⟨Av, ρ, φ, e, h⟩ := h
  refine ⟨Av, ρ, φ, e, ?_⟩
  unfold sSeq at h
  cases q : m c ρ with
  | bad => simp only [bnd, q] at h
  | exc x ρ' => simp only [bnd, q] at h; exact h
  | ok f ρ1 =>
    cases f with
    | nx => simp only [bnd, q] at h; exact fun σ1 H1 Av1 φ1 e1 st1 hp1 => RS.from e1 st1 e.ok hp1 h
    | brk => simp only [bnd, q, pur] at h; exact h
    | cont => simp only [bnd, q, pur] at h; exact h
    | ret d => simp only [bnd, q, pur] at h; exact h
theorem ss_nil : PSs X [] (RS (Cx.gd X W xr) c sSkip) := PSs.weak pss_nil fun Dn σ H ⟨Av, ρ, φ, e, h⟩ => h σ H Av φ e Step.refl fun _ _ => rfl
theorem ss_cons {st : Stmt} {rest : List Stmt} {m n : M Fl} (h1 : PS X st (RS (Cx.gd X W xr) c m)) (h2 : PSs X rest (RS (Cx.gd X W xr) c n)) : PSs X (st :: rest) (RS (Cx.gd X W xr) c (sSeq m n)) :=
  PSs.weak (pss_cons h1 h2) fun _ _ _ h => rs_seq h
theorem ss_one {st : Stmt} {m : M Fl} (h1 : PS X st (RS (Cx.gd X W xr) c m)) : PSs X [st] (RS (Cx.gd X W xr) c m) := pss_one h1
theorem st_pass : PS X (.Pass pos) (RS (Cx.gd X W xr) c sSkip) := PS.weak ps_pass fun Dn σ H ⟨Av, ρ, φ, e, h⟩ => h σ H Av φ e Step.refl fun _ _ => rfl
theorem st_break : PS X (.Break pos) (RS (Cx.gd X W xr) c (pur .brk)) := PS.weak ps_break fun Dn σ H ⟨Av, ρ, φ, e, h⟩ => h σ H Av φ e Step.refl fun _ _ => rfl
theorem st_cont : PS X (.Continue pos) (RS (Cx.gd X W xr) c (pur .cont)) := PS.weak ps_continue fun Dn σ H ⟨Av, ρ, φ, e, h⟩ => h σ H Av φ e Step.refl fun _ _ => rfl
def sIf (t : M Bool) (m n : M Fl) : M Fl := bnd t fun b => match b with | true => m | false => n
theorem st_if {t : Expr} {a b : List Stmt} {mt : M Bool} {m n : M Fl} (ht : PT X t (RT (Cx.gd X W xr) c mt)) (ha : PSs X a (RS (Cx.gd X W xr) c m)) (hb : PSs X b (RS (Cx.gd X W xr) c n)) : PS X (.If t a b pos) (RS (Cx.gd X W xr) c (sIf mt m n)) := by
  refine PS.weak (ps_if ht ha hb) fun Dn σ H ⟨Av, ρ, φ, e, h⟩ => ⟨Av, ρ, φ, e, ?_⟩
  unfold sIf at h
  cases q : mt c ρ with
  | bad => simp only [bnd, q] at h
  | exc x ρ' => simp only [bnd, q] at h; exact h
  | ok b ρ1 =>
    simp only [bnd, q] at h
    intro H1 Av1 φ1 e1 st1
    cases b with
    | true => rw [if_pos rfl]; exact RS.from e1 st1 e.ok (fun _ _ => rfl) h
    | false => rw [if_neg Bool.false_ne_true]; exact RS.from e1 st1 e.ok (fun _ _ => rfl) h
def sRet (m : M D) : M Fl := bnd m fun d => pur (.ret d)
theorem st_ret {a : Expr} {m : M D} (ha : PE X a (RE (Cx.gd X W xr) c m)) : PS X (.Return (some a) pos) (RS (Cx.gd X W xr) c (sRet m)) := by
  refine PS.weak (ps_ret ha) fun Dn σ H ⟨Av, ρ, φ, e, h⟩ => ⟨Av, ρ, φ, e, ?_⟩
  unfold sRet at h
  cases q : m c ρ with
  | bad => simp only [bnd, q] at h
  | exc x ρ' => simp only [bnd, q] at h; exact h
  | ok d ρ1 => simp only [bnd, q, pur] at h; exact fun v H' Av' φ' G e' r ap st og => h v σ H' Av' φ' G e' r ap st og fun _ _ => rfl
theorem st_retN : PS X (.Return none pos) (RS (Cx.gd X W xr) c (pur (.ret .non))) := PS.weak ps_retN fun Dn σ H ⟨Av, ρ, φ, e, h⟩ => h .non σ H Av φ [] e .non Apart.nil Step.refl OrgG.nil fun _ _ => rfl
/-- a name handed back: what is owned goes along -/
def mvVar (i : Nat) : M D := fun c ρ => match ρ[i]? with
  | some (some d) => if isOwn d = true ∧ free c i = true then .ok d (ρ.set i none) else .ok (frz d) (ρ.set i (some (frz d)))
  | _ => .bad
theorem s_mv {i : Nat} {x : Str} (hN : X.N[i]? = some x) (hv : Vis X.env.scope x) (hd : (x == ("__debug__" : Str)) = false) (hcd : (x == ("__classdict__" : Str)) = false) : PE X (.Name x pos) (RE (Cx.gd X W xr) c (mvVar i)) := by
  refine PE.weak (pe_var hN hv hd hcd) fun σ H Q ⟨Av, ρ, φ, e, h⟩ => ?_
  unfold mvVar at h
  cases q : ρ[i]? with
  | none => rw [q] at h; exact h.elim
  | some x =>
    cases x with
    | none => rw [q] at h; exact h.elim
    | some d =>
      rw [q] at h
      dsimp only at h
      by_cases hc : isOwn d = true ∧ free c i = true
      · rw [if_pos hc] at h
        obtain ⟨v, hv, r, e1, ap, st⟩ := e.lend (lock := c.lock) q
        exact ⟨v, hv, h v H Av _ (φ i) e1 r ap st fun a ha => .inl ⟨i, (free_iff hc.2).2, ha⟩⟩
      · rw [if_neg hc] at h
        obtain ⟨v, Av', φ', hv, e1, s1, r1, _⟩ := e.freeze (lock := c.lock) q
        exact ⟨v, hv, h v H Av' φ' [] e1 r1 Apart.nil s1 OrgG.nil⟩
/-- a reading's wish may be weakened -/
theorem he_mono {g : Gd} {m : M D} {σ : St} {H : Hp} {Q Q' : VK} (h : RE g c m σ H Q) (w : ∀ v H', Q v H' → Q' v H') : RE g c m σ H Q' := by
  obtain ⟨Av, ρ, φ, e, h⟩ := h
  refine ⟨Av, ρ, φ, e, ?_⟩
  cases q : m c ρ with
  | bad => simp only [q] at h
  | exc x ρ' => simp only [q] at h; exact h
  | ok d ρ1 => simp only [q] at h; exact fun v H' Av' φ' G e' r ap st og => w _ _ (h v H' Av' φ' G e' r ap st og)
/-- x = e -/
def sSet (g : D → M Unit) (m : M D) : M Fl := bnd m fun d => fun c ρ => match g d c ρ with
  | .ok _ ρ' => .ok .nx ρ'
  | _ => .bad
theorem rs_asg {g : Gd} {m : M D} {t : D → M Unit} {Dn : Ends} {σ : St} {H : Hp} (h : RS g c (sSet t m) Dn σ H) : RE g c m σ H fun x H1 => RG g c t x σ H1 Dn.nx := by
  obtain ⟨Av, ρ, φ, e, h⟩ := h
  refine ⟨Av, ρ, φ, e, ?_⟩
  unfold sSet at h
  cases q : m c ρ with
  | bad => simp only [bnd, q] at h
  | exc x ρ' => simp only [bnd, q] at h; exact h
  | ok d ρ1 =>
    simp only [bnd, q] at h
    intro v H1 Av1 φ1 G1 e1 r1 ap1 st1 og1
    refine ⟨Av, H, φ, Av1, ρ1, φ1, d, G1, e.ok, st1, og1, e1, r1, ap1, ?_⟩
    cases q2 : t d c ρ1 with
    | bad => simp only [q2] at h
    | exc x ρ' => simp only [q2] at h
    | ok u ρ2 => simp only [q2] at h; exact fun σ' H' Av' φ' e' st _ hp => h σ' H' Av' φ' e' st hp
theorem st_asg {tg ex : Expr} {m : M D} {t : D → M Unit} (he : PE X ex (RE (Cx.gd X W xr) c m)) (hg : PG X tg (RG (Cx.gd X W xr) c t)) (hs : swapsWithSole [tg] ex pos.line X.env = pure false) (hw : swappedStores [tg] ex X.env = pure none)
    (h1 : (assignEach [tg] X.env).map (·.2) = [assign tg X.env]) : PS X (.Assign [tg] ex pos) (RS (Cx.gd X W xr) c (sSet t m)) :=
  PS.weak (ps_asg he hg hs hw h1) fun _ _ _ h => rs_asg h
/-- a name: how its place is stored -/
theorem gname_of {i : Nat} {v : V} {σ : St} {H : Hp} {Q : St → Hp → Prop} {g : Gd} (h : RG g c (setS i) v σ H Q) : gName i v σ H Q := by
  obtain ⟨Av0, H0, φ0, Av, ρ, φ, d, G, ok0, S, og, e, r, ap, h⟩ := h
  unfold setS at h
  by_cases q : free c i = true ∧ i < ρ.length
  · rw [if_pos q] at h
    obtain ⟨f1, f2⟩ := free_iff q.1
    refine h _ H Av _ (e.store q.2 r ap) (S.store f2 og) (Calm.store (K := g.K)) fun j hj => ?_
    refine List.getElem?_set_ne fun z => ?_
    subst z
    exact hj.elim f1 f2
  · rw [if_neg q] at h; exact h.elim
theorem st_set {i : Nat} {x : Str} {ex : Expr} {pos' : Pos} {m : M D} (hN : X.N.Nodup) (hi : X.N[i]? = some x) (hx : Loc X.env.scope x) (he : PE X ex (RE (Cx.gd X W xr) c m)) (hs : swapsWith ex (some (.Name x pos')) pos.line X.env = pure false)
    (hf : X.fn x = true ∨ X.env.scope.names.lookup x = some .local) : PS X (.Assign [.Name x pos'] ex pos) (RS (Cx.gd X W xr) c (sSet (setS i) m)) :=
  PS.weak (ps_set hN hi hx he hs hf) fun Dn σ H h => by
    have h' := rs_asg h
    obtain ⟨Av, ρ, φ, e, h'⟩ := h'
    refine he_mono ⟨Av, ρ, φ, e, h'⟩ fun _ _ q => gname_of q
end
end Y

end
section
set_option Elab.async false
set_option linter.all false
set_option maxRecDepth 100000
set_option autoImplicit false
/-! Y9: a, b = x, y; x op= e; xs[i] = e; methods that change; loops; comprehensions. -/
namespace Y
open PySem L2
section
variable {X : Cx} {W : WX} {xr : (Addr → Prop) → Hp → D → Value → Option Addr → Prop} {c : Ctx} {pos : Pos}
variable {K : PySem.W.Frag} {Av Av0 Av1 Av2 Av' : Addr → Prop} {H H0 H1 H2 H' : Hp} {φ φ0 φ1 φ2 φ' : Nat → List Addr} {lock lock' : List Nat} {σ σ' : St} {ρ ρ' : Env} {F F' G : List Addr} {v : V} {d : D} {vs vs' : List V} {ds ds' : List D}

/-! ### a, b = x, y -/
def sPar (i j : Nat) (ms : M (List D)) : M Fl := bnd ms fun ds => match ds with
  | [x, y] => fun c ρ => if free c i = true ∧ free c j = true ∧ i < ρ.length ∧ j < ρ.length then .ok .nx ((ρ.set i (some x)).set j (some y)) else .bad
  | _ => bad
theorem st_par {i j : Nat} {x y : Str} {a b : Expr} {ms : M (List D)} {px py pt : Pos} {kt k2 : Nat} {pt2 : Pos} (hc : X.calm = true) (hN : X.N.Nodup) (hi : X.N[i]? = some x) (hj : X.N[j]? = some y) (hij : i ≠ j)
    (hx : X.env.scope.names.lookup x = some .local) (hy : X.env.scope.names.lookup y = some .local) (ha : PA X [a, b] (RVL (Cx.gd X W xr) c ms))
    (hw : swappedStores [.Tuple [.Name x px, .Name y py] kt pt] (.Tuple [a, b] k2 pt2) X.env = pure (some [x, y])) (hs : swapsWithSole [.Tuple [.Name x px, .Name y py] kt pt] (.Tuple [a, b] k2 pt2) pos.line X.env = pure false) :
    PS X (.Assign [.Tuple [.Name x px, .Name y py] kt pt] (.Tuple [a, b] k2 pt2) pos) (RS (Cx.gd X W xr) c (sPar i j ms)) := by
  refine PS.weak (ps_par hc hN hi hj hij hx hy ha hw hs) fun Dn σ H ⟨Av, ρ, φ, e, h⟩ => ⟨Av, ρ, φ, e, ?_⟩
  unfold sPar at h
  cases q : ms c ρ with
  | bad => simp only [bnd, q] at h
  | exc x ρ' => simp only [bnd, q] at h; exact h
  | ok ds ρ1 =>
    simp only [bnd, q] at h
    intro vs H1 Av1 φ1 G1 e1 r1 ap1 nd1 st1 og1
    match ds, r1, h with
    | [d1, d2], r1, h =>
      cases r1 with
      | @cons v1 _ vs _ F1 F2 q1 q23 =>
        cases q23 with
        | @cons v2 _ vs _ F2 F3 q2 q3 =>
          cases q3
          dsimp only at h
          by_cases z : free c i = true ∧ free c j = true ∧ i < ρ1.length ∧ j < ρ1.length
          · rw [if_pos z] at h
            obtain ⟨z1, z2, z3, z4⟩ := z
            obtain ⟨f1, f2⟩ := free_iff z1
            obtain ⟨f3, f4⟩ := free_iff z2
            obtain ⟨n1, n2, n3⟩ := List.nodup_append.mp nd1
            have a1 : Apart F1 φ1 := fun a h => ap1 a (List.mem_append_left _ h)
            have a2 : Apart (F2 ++ []) φ1 := fun a h => ap1 a (List.mem_append_right _ h)
            rw [List.append_nil] at a2
            have e2 := e1.store z3 q1 a1
            have s2 := st1.store f2 (fun a h => og1 a (List.mem_append_left _ h))
            have a2' : Apart F2 (fun k => if k = i then F1 else φ1 k) := fun a ha k y => by
              have y : a ∈ (if k = i then F1 else φ1 k) := y
              by_cases w : k = i
              · rw [if_pos w] at y; exact n3 a y a (List.mem_append_left _ ha) rfl
              · rw [if_neg w] at y; exact a2 a ha k y
            have e3 := e2.store (i := j) (by rw [List.length_set]; exact z4) q2 a2'
            have s3 := s2.store (i := j) f4 (fun a h => og1 a (List.mem_append_right _ (List.mem_append_left _ h)))
            refine ⟨v1, v2, rfl, h _ H1 Av1 _ e3 s3 fun k hk => ?_⟩
            rw [List.getElem?_set_ne, List.getElem?_set_ne]
            · rintro rfl; exact hk.elim f1 f2
            · rintro rfl; exact hk.elim f3 f4
          · rw [if_neg z] at h; exact h.elim
    | [], _, h => exact h.elim
    | [_], _, h => exact h.elim
    | _ :: _ :: _ :: _, _, h => exact h.elim
/-- targets = values, the tuple made between them owning what it holds -/
def sParG (n : Nat) (t : List D → M Unit) (ms : M (List D)) : M Fl := bnd ms fun ds => fun c ρ => if ds.length = n ∧ n ≤ LN then match t ds c ρ with
  | .ok _ ρ' => .ok .nx ρ'
  | _ => .bad
  else .bad
theorem st_parG {es : List Expr} {k n : Nat} {tpos : Pos} {vals : List Expr} {k2 : Nat} {pt2 : Pos} {t : List D → M Unit} {ms : M (List D)} (hc : X.calm = true) (hg : PGs X es (RGs (Cx.gd X W xr) c t)) (hn : (assignEach es X.env).length = n)
    (hst : (assignEach es X.env).findIdx? (·.1) = none) (ha : PA X vals (RVL (Cx.gd X W xr) c ms))
    (hs : swapsWithSole [.Tuple es k tpos] (.Tuple vals k2 pt2) pos.line X.env = pure false) (hw : swappedStores [.Tuple es k tpos] (.Tuple vals k2 pt2) X.env = pure none)
    (h1 : (assignEach [.Tuple es k tpos] X.env).map (·.2) = [assign (.Tuple es k tpos) X.env]) : PS X (.Assign [.Tuple es k tpos] (.Tuple vals k2 pt2) pos) (RS (Cx.gd X W xr) c (sParG n t ms)) := by
  refine PS.weak (ps_asg (pe_tup ha) (pg_tup hc hg hn hst) hs hw h1) fun Dn σ H ⟨Av, ρ, φ, e, h⟩ => ⟨Av, ρ, φ, e, ?_⟩
  unfold sParG at h
  cases q : ms c ρ with
  | bad => simp only [bnd, q] at h
  | exc x ρ' => simp only [bnd, q] at h; exact h
  | ok ds ρ1 =>
    simp only [bnd, q] at h
    intro vs H1 Av1 φ1 G1 e1 r1 ap1 nd1 st1 og1
    by_cases z : ds.length = n ∧ n ≤ LN
    · rw [if_pos z] at h
      refine ⟨by rw [r1.length, z.1, ← ln_line]; exact z.2, fun p hp => ?_⟩
      have gr := Grow.tup (o := .tup vs) e1.ok hp
      refine ⟨p, vs, rfl, SqT.of upd_same, by rw [r1.length]; exact z.1, Av, H, φ, Av1, ρ1, φ1, ds, G1, e.ok, st1.trans gr.step e.ok, og1, e1.grow gr, r1.grow gr e1.ok, nd1, ap1, ?_⟩
      cases q2 : t ds c ρ1 with
      | bad => simp only [q2] at h
      | exc x ρ' => simp only [q2] at h
      | ok u ρ2 => simp only [q2] at h; exact fun σ' H' Av' φ' e' st _ hp => h σ' H' Av' φ' e' st hp
    · rw [if_neg z] at h; exact h.elim

/-! ### x op= e -/
def sAug (i : Nat) (p : List D → Option D) (ma : M Opd) : M Fl := fun c ρ => match ρ[i]? with
  | some (some d0) => if isOwn d0 = false then match ma c ρ with
      | .ok o ρ1 => match gR o c ρ1 with
        | .ok y ρ2 => match p [d0, y] with
          | some d => if free c i = true then .ok .nx (ρ2.set i (some d)) else .bad
          | none => .bad
        | _ => .bad
      | .exc e ρ1 => .exc e ρ1
      | .bad => .bad
    else .bad
  | _ => .bad
theorem own_nil (h : isOwn d = false) (r : Rep K Av H F v d) : F = [] := by
  cases r with
  | lstO _ _ _ _ _ => cases h
  | _ => rfl
theorem st_aug {i : Nat} {x : Str} {ex : Expr} {op : Operator} {pos' : Pos} {p : List D → Option D} {ma : M Opd} (hN : X.N.Nodup) (hi : X.N[i]? = some x) (hx : Loc X.env.scope x) (he : PE X ex (RO (Cx.gd X W xr) c ma)) (ho : PIp X op (two (rPrimR X.K p)))
    (hf : X.fn x = true ∨ X.env.scope.names.lookup x = some .local) : PS X (.AugAssign (.Name x pos') op ex pos) (RS (Cx.gd X W xr) c (sAug i p ma)) := by
  refine PS.weak (ps_aug hN hi hx he ho hf) fun Dn σ H ⟨Av, ρ, φ, e, h⟩ => ?_
  unfold sAug at h
  cases q : ρ[i]? with
  | none => simp only [q] at h
  | some x =>
    cases x with
    | none => simp only [q] at h
    | some d0 =>
      simp only [q] at h
      obtain ⟨v, hv, r⟩ := e.rep i d0 q
      by_cases w : isOwn d0 = false
      · rw [if_pos w] at h
        rw [own_nil w r] at r
        refine ⟨v, hv, Av, ρ, φ, e, ?_⟩
        cases q2 : ma c ρ with
        | bad => simp only [q2] at h
        | exc x ρ' => simp only [q2] at h; exact h
        | ok o ρ1 =>
          simp only [q2] at h
          intro u H1 Av1 φ1 G1 e1 r1 ap1 nd1 st1 og1
          cases q3 : gR o c ρ1 with
          | bad => simp only [q3] at h
          | exc x ρ' => simp only [q3] at h
          | ok y ρ2 =>
            simp only [q3] at h
            obtain ⟨er, ry⟩ := gR_ok e1 r1 q3
            subst er
            have rx : Rep X.K Av1 H1 [] v d0 := r.step st1 e Apart.nil
            cases q4 : p [d0, y] with
            | none => simp only [q4] at h
            | some d =>
              simp only [q4] at h
              by_cases fr : free c i = true
              · rw [if_pos fr] at h
                obtain ⟨f1, f2⟩ := free_iff fr
                refine ⟨Av1, [d0, y], d, e1.ok, .cons ⟨_, rx⟩ (.cons ry .nil), q4, fun z H2 Av2 G gr rz => ?_⟩
                have hl : i < ρ2.length := by rw [← e1.len, e.len]; exact get_lt q
                refine h _ H2 Av2 _ ((e1.grow gr).store hl rz (e1.apart gr)) ((st1.trans gr.step e.ok).store f2 ((Grow.org (φ := φ1) gr).step st1)) fun k hk => ?_
                refine List.getElem?_set_ne fun z => ?_
                subst z
                exact hk.elim f1 f2
              · rw [if_neg fr] at h; exact h.elim
      · rw [if_neg w] at h; exact h.elim

/-! ### an expression alone -/
def sExpr (m : M D) : M Fl := bnd m fun _ => pur .nx
theorem st_expr {ex : Expr} {m : M D} (he : PE X ex (RE (Cx.gd X W xr) c m)) (hs : swapsWith ex none pos.line X.env = pure false) : PS X (.Expr ex pos) (RS (Cx.gd X W xr) c (sExpr m)) := by
  refine PS.weak (ps_expr he hs) fun Dn σ H ⟨Av, ρ, φ, e, h⟩ => ⟨Av, ρ, φ, e, ?_⟩
  unfold sExpr at h
  cases q : m c ρ with
  | bad => simp only [bnd, q] at h
  | exc x ρ' => simp only [bnd, q] at h; exact h
  | ok d ρ1 => simp only [bnd, q, pur] at h; exact fun v H' Av' φ' G e' r ap st og => h σ H' Av' φ' e' st fun _ _ => rfl

/-! ### an owned list of a slot, changed by a method -/
/-- what a method makes of the items ds with the arguments as: the items behind it, the result -/
def mMut (i : Nat) (f : List D → List D → Option (List D × D)) (margs : M (List D)) : M D := fun c ρ => match ρ[i]? with
  | some (some (.lst _ _)) => match margs c ρ with
    | .ok as ρ1 => match ρ1[i]? with
      | some (some (.lst true ds)) => if i ∉ c.lock then match f ds as with
          | some (ds', d) => .ok d (ρ1.set i (some (.lst true ds')))
          | none => .bad
        else .bad
      | _ => .bad
    | .exc e ρ1 => .exc e ρ1
    | .bad => .bad
  | _ => .bad
/-- what the method's rule wants, by lists of values -/
def MutOk (K : PySem.W.Frag) (f : List D → List D → Option (List D × D)) (r : V → List V → Hp → VK → Prop) : Prop :=
  ∀ (Av : Addr → Prop) (H : Hp) (p : Addr) (F G : List Addr) (vs as : List V) (ds da ds' : List D) (d : D) (Q : VK), AvOk Av H → H p = some (.lst vs) → RepL K Av H F vs ds → RepL K Av H G as da → F.Nodup → G.Nodup → (∀ a ∈ G, a ∉ F) → p ∉ F → p ∉ G → f ds da = some (ds', d) →
    (∀ v vs' F' G', RepL K Av H F' vs' ds' → Rep K Av H G' v d → F'.Nodup → (∀ a ∈ F', a ∈ F ∨ a ∈ G) → (∀ a ∈ G', a ∈ F ∨ a ∈ G) → (∀ a ∈ G', a ∉ F') → Q v (upd H p (.lst vs'))) → r (.ref p) as H Q
theorem mut_fin {i : Nat} {f : List D → List D → Option (List D × D)} {r : V → List V → Hp → VK → Prop} {margs : M (List D)} {g : Gd} {Q : VK} (hm : MutOk g.K f r) (h : RE g c (mMut i f margs) σ H Q) :
    tVar i σ H fun x H1 => tyV g.K "list" x H1 ∧ RVL g c margs σ H1 fun vs H2 => r x vs H2 Q := by
  obtain ⟨Av, ρ, φ, e, h⟩ := h
  unfold mMut at h
  cases q : ρ[i]? with
  | none => simp only [q] at h
  | some x =>
    cases x with
    | none => simp only [q] at h
    | some d0 =>
      cases d0 with
      | lst ow ds0 =>
        simp only [q] at h
        obtain ⟨v, hv, rv⟩ := e.rep i _ q
        obtain ⟨p, rfl, hty⟩ : ∃ p, v = .ref p ∧ tyV g.K "list" (.ref p) H := by
          generalize φ i = Fi at rv
          cases rv with
          | lstF h1 _ _ => exact ⟨_, rfl, .inl ⟨rfl, _, .inl h1⟩⟩
          | lstK h1 _ => exact ⟨_, rfl, .inl ⟨rfl, _, sql_any h1⟩⟩
          | lstO h1 _ _ _ _ => exact ⟨_, rfl, .inl ⟨rfl, _, .inl (.inl h1)⟩⟩
        refine ⟨.ref p, hv, hty, Av, ρ, φ, e, ?_⟩
        cases q2 : margs c ρ with
        | bad => simp only [q2] at h
        | exc x ρ' => simp only [q2] at h; exact h
        | ok as ρ1 =>
          simp only [q2] at h
          intro vs H1 Av1 φ1 G1 e1 r1 ap1 nd1 st1 og1
          cases q3 : ρ1[i]? with
          | none => simp only [q3] at h
          | some x =>
            cases x with
            | none => simp only [q3] at h
            | some d1 =>
              cases d1 with
              | lst ow1 ds =>
                cases ow1 with
                | false => simp only [q3] at h
                | true =>
                  simp only [q3] at h
                  by_cases hl : i ∉ c.lock
                  · rw [if_pos hl] at h
                    cases q4 : f ds as with
                    | none => simp only [q4] at h
                    | some z =>
                      obtain ⟨ds', d⟩ := z
                      simp only [q4] at h
                      obtain ⟨w, hw, rw'⟩ := e1.rep i _ q3
                      rw [hv] at hw; cases hw
                      generalize hF : φ1 i = Fi at rw'
                      cases rw' with
                      | @lstO _ vs0 _ F b1 b2 b3 b4 b5 =>
                        have pi : p ∈ φ1 i := by rw [hF]; exact List.mem_cons_self
                        have Fi : ∀ a ∈ F, a ∈ φ1 i := fun a ha => by rw [hF]; exact List.mem_cons_of_mem _ ha
                        refine hm Av1 H1 p F G1 vs0 vs ds as ds' d Q e1.ok b1 b3 r1 b5 nd1 (fun a ha z => ap1 a ha i (Fi a z)) b4 (fun z => ap1 p z i pi) q4 fun v' vs' F' G' c1 c2 c3 c4 c5 c6 => ?_
                        have np : p ∉ F' := fun z => (c4 p z).elim b4 fun y => ap1 p y i pi
                        have npG : p ∉ G' := fun z => (c5 p z).elim b4 fun y => ap1 p y i pi
                        have hF' : ∀ a ∈ F', a ∈ φ1 i ∨ a ∈ G1 := fun a ha => (c4 a ha).imp (Fi a) id
                        have e2 := e1.change (vs' := vs') q3 hv pi b2 c1 np c3 hF' ap1
                        have s2 := st1.change (vs' := vs') e.ok hl pi hF' og1
                        have kp : Keep Av1 Av1 H1 (upd H1 p (.lst vs')) (fun a => a = p) := ⟨fun a o h n => by rw [upd_ne n]; exact h, fun a h => .inl h, fun a h _ => h⟩
                        refine h v' _ Av1 _ G' e2 (c2.keep e1.ok (fun a (h : a = p) => h ▸ b2) kp fun a ha z => npG (z ▸ ha)) (fun a ha j z => ?_) s2 fun a ha => ?_
                        · have z : a ∈ (if j = i then p :: F' else φ1 j) := z
                          by_cases y : j = i
                          · rw [if_pos y] at z
                            rcases List.mem_cons.mp z with z | z
                            · exact npG (z ▸ ha)
                            · exact c6 a ha z
                          · rw [if_neg y] at z
                            rcases c5 a ha with x | x
                            · exact y (e1.dis j i a z (Fi a x))
                            · exact ap1 a x j z
                        · rcases c5 a ha with x | x
                          · rcases st1.org i a (Fi a x) with y | ⟨_, y⟩
                            · exact .inl ⟨i, hl, y⟩
                            · exact y
                          · exact og1 a x
                  · rw [if_neg hl] at h; exact h.elim
              | _ => simp only [q3] at h
      | _ => simp only [q] at h
/-- append -/
def fAppend : List D → List D → Option (List D × D) := fun ds as => match as with
  | [d] => if ds.length < LN then some (ds ++ [d], .non) else none
  | _ => none
theorem mo_append : MutOk K fAppend rAppend := by
  intro Av H p F G vs as ds da ds' d Q ok hp r1 r2 n1 n2 ap pF pG hf hq
  match da, r2, hf with
  | [x], r2, hf =>
    by_cases hl : ds.length < LN
    · simp only [fAppend, if_pos hl] at hf
      cases hf
      cases r2 with
      | @cons v _ vs2 _ F1 F2 r3 r4 =>
        cases r4
        rw [List.append_nil] at *
        refine ⟨p, vs, v, rfl, rfl, hp, by rw [r1.length, ← ln_line]; exact hl, ?_⟩
        exact hq .non (vs ++ [v]) (F ++ F1) [] (r1.app (RepL.one r3)) .non (List.nodup_append.mpr ⟨n1, n2, fun a ha b hb e => ap b hb (e ▸ ha)⟩) (fun a ha => (List.mem_append.mp ha).imp id id) (fun a h => nomatch h) fun a h => nomatch h
    · simp only [fAppend, if_neg hl] at hf; cases hf
  | [], _, hf => cases hf
  | _ :: _ :: _, _, hf => cases hf
/-- pop of the last -/
def fPop : List D → List D → Option (List D × D) := fun ds as => match as with
  | [] => match ds[ds.length - 1]? with
    | some d => some (ds.eraseIdx (ds.length - 1), d)
    | none => none
  | [.int k] => if -(2 ^ 63) ≤ k ∧ k < 2 ^ 63 then match ixN ds.length k with
      | some j => match ds[j]? with
        | some d => some (ds.eraseIdx j, d)
        | none => none
      | none => none
    else none
  | _ => none
def rPopB : V → List V → Hp → VK → Prop := fun x vs H Q => rPop x vs H Q ∨ rPopAt x vs H Q
theorem mt_popB : MtR X "list.pop" rPopB := MtR.or mt_pop mt_popAt
theorem erase_last {α : Type} (l : List α) : l.eraseIdx (l.length - 1) = l.dropLast := by
  induction l with
  | nil => rfl
  | cons x xs ih =>
    cases xs with
    | nil => rfl
    | cons y ys =>
      show x :: (y :: ys).eraseIdx ((y :: ys).length - 1) = x :: (y :: ys).dropLast
      rw [ih]
theorem mo_pop : MutOk K fPop rPopB := by
  intro Av H p F G vs as ds da ds' d Q ok hp r1 r2 n1 n2 ap pF pG hf hq
  have hl := r1.length
  match da, r2, hf with
  | [], r2, hf =>
    cases r2
    simp only [fPop] at hf
    cases q : ds[ds.length - 1]? with
    | none => rw [q] at hf; cases hf
    | some x =>
      rw [q] at hf
      cases hf
      obtain ⟨y, F', G', a1, a2, a3, a4, a5, a6, a7⟩ := r1.out _ n1 q
      refine .inl ⟨p, vs, y, rfl, rfl, hp, by rw [hl]; exact a1, ?_⟩
      have := hq y _ F' G' a3 a2 a4 (fun a h => .inl (a6 a h)) (fun a h => .inl (a7 a h)) a5
      rwa [← hl, erase_last] at this
  | [.int k], r2, hf =>
    simp only [fPop] at hf
    by_cases hk : -(2 ^ 63) ≤ k ∧ k < 2 ^ 63
    · rw [if_pos hk] at hf
      cases q0 : ixN ds.length k with
      | none => rw [q0] at hf; cases hf
      | some j =>
        rw [q0] at hf
        dsimp only at hf
        cases q : ds[j]? with
        | none => rw [q] at hf; cases hf
        | some x =>
          rw [q] at hf
          cases hf
          obtain ⟨y, F', G', a1, a2, a3, a4, a5, a6, a7⟩ := r1.out _ n1 q
          cases r2 with
          | @cons v _ vs2 _ F1 F2 r3 r4 =>
            cases r4
            cases r3
            refine .inr ⟨p, vs, k, j, y, rfl, rfl, hp, hk.1, hk.2, by rw [hl]; exact (ixN_seq q0).1, a1, ?_⟩
            exact hq y _ F' G' a3 a2 a4 (fun a h => .inl (a6 a h)) (fun a h => .inl (a7 a h)) a5
    · rw [if_neg hk] at hf; cases hf
end
end Y

end
section
set_option Elab.async false
set_option linter.all false
set_option maxRecDepth 100000
set_option autoImplicit false
/-! Y10: names in short; methods; calls; xs[i] = e, xs[i] op= e. -/
namespace Y
open PySem L2
section
variable {X : Cx} {W : WX} {xr : (Addr → Prop) → Hp → D → Value → Option Addr → Prop} {c : Ctx} {pos : Pos}
variable {K : PySem.W.Frag} {Av Av0 Av1 Av2 Av' : Addr → Prop} {H H0 H1 H2 H' : Hp} {φ φ0 φ1 φ2 φ' : Nat → List Addr} {lock lock' : List Nat} {σ σ' : St} {ρ ρ' : Env} {F F' G : List Addr} {v : V} {d : D} {vs vs' : List V} {ds ds' : List D}

theorem vE (i : Nat) {x : Str} (hN : X.N[i]? = some x := by rfl) (hv : Vis X.env.scope x := by first | exact Or.inl rfl | exact Or.inr (Or.inl rfl) | exact Or.inr (Or.inr rfl)) (hd : (x == ("__debug__" : Str)) = false := by decide)
    (hcd : (x == ("__classdict__" : Str)) = false := by decide) : PE X (.Name x pos) (RE (Cx.gd X W xr) c (eVar i)) := s_var hN hv hd hcd
theorem vO (i : Nat) {x : Str} (hN : X.N[i]? = some x := by rfl) (hv : Vis X.env.scope x := by first | exact Or.inl rfl | exact Or.inr (Or.inl rfl) | exact Or.inr (Or.inr rfl)) (hd : (x == ("__debug__" : Str)) = false := by decide)
    (hcd : (x == ("__classdict__" : Str)) = false := by decide) : PE X (.Name x pos) (RO (Cx.gd X W xr) c (oN i)) := o_name hN hv hd hcd
theorem vA (i : Nat) {x : Str} (hN : X.N[i]? = some x := by rfl) (hv : Vis X.env.scope x := by first | exact Or.inl rfl | exact Or.inr (Or.inl rfl) | exact Or.inr (Or.inr rfl)) (hd : (x == ("__debug__" : Str)) = false := by decide)
    (hcd : (x == ("__classdict__" : Str)) = false := by decide) : PE X (.Name x pos) (RA1 (Cx.gd X W xr) c (aVar i)) := a_name hN hv hd hcd
theorem vM (i : Nat) {x : Str} (hN : X.N[i]? = some x := by rfl) (hv : Vis X.env.scope x := by first | exact Or.inl rfl | exact Or.inr (Or.inl rfl) | exact Or.inr (Or.inr rfl)) (hd : (x == ("__debug__" : Str)) = false := by decide)
    (hcd : (x == ("__classdict__" : Str)) = false := by decide) : PE X (.Name x pos) (RE (Cx.gd X W xr) c (mvVar i)) := s_mv hN hv hd hcd

/-! ### methods that change -/
theorem s_mut {e : Expr} {es : List Expr} {name x : Str} {apos px : Pos} {id : String} {r : V → List V → Hp → VK → Prop} {f : List D → List D → Option (List D × D)} {margs : M (List D)} (i : Nat) (slot : Slot "list" name id) (hty : typeOf (.builtin id) = pure (.type "method_descriptor")) (hm : MtR X id r) (mo : MutOk X.K f r)
    (ha : PA X (e :: es) (RVL (Cx.gd X W xr) c margs))
    (hN : X.N[i]? = some x := by rfl) (hv : Vis X.env.scope x := by first | exact Or.inl rfl | exact Or.inr (Or.inl rfl) | exact Or.inr (Or.inr rfl)) (hd : (x == ("__debug__" : Str)) = false := by decide) (hcd : (x == ("__classdict__" : Str)) = false := by decide)
    (hbase : attributeBase (.Name x px) name X.env (eval (.Name x px) X.env) = eval (.Name x px) X.env := by rfl)
    (hfew : ((backTo pos (starEach (e :: es) X.env)).all (fun x => !x.1) && (backToKw pos (keywordEach [] X.env)).all (fun x => x.1.isSome)
      && decide ((e :: es).length + ([] : List Keyword).length + (if ([] : List Keyword).isEmpty then 0 else 1) < 30)) = true := by rfl)
    (hline : (apos.endLine == pos.line) = true := by rfl) (hs : starEach (e :: es) X.env = (false, eval e X.env) :: starEach es X.env := by rfl) (hplain : (backTo pos (starEach es X.env)).any (·.1) = false := by rfl) :
    PE X (.Call (.Attribute (.Name x px) name apos) (e :: es) [] pos) (RE (Cx.gd X W xr) c (mMut i f margs)) :=
  PE.weak (pe_bm PySem.F.plainAttrs_list slot hty hm (pe_var hN hv hd hcd) ha hbase hfew hline hs hplain) fun _ _ _ h => mut_fin mo h
theorem s_mut0 {name x : Str} {apos px : Pos} {id : String} {r : V → List V → Hp → VK → Prop} {f : List D → List D → Option (List D × D)} (i : Nat) (slot : Slot "list" name id) (hty : typeOf (.builtin id) = pure (.type "method_descriptor")) (hm : MtR X id r) (mo : MutOk X.K f r)
    (hN : X.N[i]? = some x := by rfl) (hv : Vis X.env.scope x := by first | exact Or.inl rfl | exact Or.inr (Or.inl rfl) | exact Or.inr (Or.inr rfl)) (hd : (x == ("__debug__" : Str)) = false := by decide) (hcd : (x == ("__classdict__" : Str)) = false := by decide)
    (hbase : attributeBase (.Name x px) name X.env (eval (.Name x px) X.env) = eval (.Name x px) X.env := by rfl) (hline : (apos.endLine == pos.line) = true := by rfl) :
    PE X (.Call (.Attribute (.Name x px) name apos) [] [] pos) (RE (Cx.gd X W xr) c (mMut i f (pur []))) :=
  PE.weak (pe_bm0 PySem.F.plainAttrs_list slot hty hm (pe_var hN hv hd hcd) hbase hline) fun σ H Q h => by
    obtain ⟨v, hv, ht, Av, ρ, φ, e, h⟩ := mut_fin mo h
    exact ⟨v, hv, ht, h [] H Av φ [] e .nil Apart.nil .nil Step.refl OrgG.nil⟩

/-- extend by a list, whatever it is -/
def rExtendS (K : PySem.W.Frag) : V → List V → Hp → VK → Prop := fun x vs H Q => ∃ l b xs zs, x = .ref l ∧ vs = [.ref b] ∧ H l = some (.lst xs) ∧ H b = some (.lst zs) ∧ xs.length + zs.length ≤ sizeLine ∧ Q .non (upd H l (.lst (xs ++ zs)))
def fExtend : List D → List D → Option (List D × D) := fun ds as => match as with
  | [.lst true es] => if ds.length + es.length ≤ LN then some (ds ++ es, .non) else none
  | _ => none
theorem mo_extend : MutOk K fExtend rExtend := by
  intro Av H p F G vs as ds da ds' d Q ok hp r1 r2 n1 n2 ap pF pG hf hq
  match da, r2, hf with
  | [.lst true es], r2, hf =>
    by_cases hl : ds.length + es.length ≤ LN
    · simp only [fExtend, if_pos hl] at hf
      cases hf
      cases r2 with
      | cons r3 r4 =>
        cases r4
        rw [List.append_nil] at *
        cases r3 with
        | @lstO b zs _ F2 c1 c2 c3 c4 c5 =>
          refine ⟨p, b, vs, zs, rfl, rfl, hp, c1, by rw [r1.length, c3.length, ← ln_line]; exact hl, ?_⟩
          exact hq .non (vs ++ zs) (F ++ F2) [] (r1.app c3) .non (List.nodup_append.mpr ⟨n1, c5, fun a ha b hb e => ap b (List.mem_cons_of_mem _ hb) (e ▸ ha)⟩) (fun a ha => (List.mem_append.mp ha).imp id fun z => List.mem_cons_of_mem _ z) (fun a h => nomatch h) fun a h => nomatch h
    · simp only [fExtend, if_neg hl] at hf; cases hf

/-! ### calls of defs -/
/-- a def of the module by its meaning -/
structure FnY (P : Program) (w : World) (K : PySem.W.Frag) (mg : Str → Option Value) (base : Heap) (xr : (Addr → Prop) → Hp → D → Value → Option Addr → Prop) (k : Nat) (x : Str) (n : Nat) (Φ : List D → Fo) : Prop where
  ex : ∃ f fd ps, FnOk P w K mg base (L2.CX P w) k f fd ps (spF K xr n Φ) ∧ mg x = some (.ref f) ∧ PySem.W.keepIn K (.ref f) = true ∧ Binds K fd ps []
theorem FnY.mono {P : Program} {w : World} {mg : Str → Option Value} {base : Heap} {j k : Nat} {x : Str} {n : Nat} {Φ : List D → Fo} (F : FnY P w K mg base xr j x n Φ) (h : j ≤ k) : FnY P w K mg base xr k x n Φ := by
  obtain ⟨f, fd, ps, F, a, b, c⟩ := F.ex
  exact ⟨f, fd, ps, F.mono h, a, b, c⟩
theorem s_call {k n : Nat} {x : Str} {Φ : List D → Fo} {p : Pos} {e : Expr} {es : List Expr} {margs : M (List (D × Option Nat))} (F : FnY X.prog X.w X.K X.mg X.base xr k x n Φ) (hr : Room k X.A) (tk : Takes X W) (ha : PA X (e :: es) (RAL (Cx.gd X W xr) c margs))
    (hg : Gl X x := by rfl) (hdb : (x == ("__debug__" : Str)) = false := by decide) (he : starEach (e :: es) X.env = (false, eval e X.env) :: starEach es X.env := by rfl) (hpl : (backTo pos (starEach es X.env)).any (·.1) = false := by rfl) :
    PE X (.Call (.Name x p) (e :: es) [] pos) (RE (Cx.gd X W xr) c (mCall n Φ margs)) := by
  obtain ⟨f, fd, ps, F, a, b, c⟩ := F.ex
  exact PE.weak (pe_callS F hr hg a b c (fun σ => passAt tk σ) ha hdb he hpl) fun _ _ _ h => ral_fin h

/-! ### xs[i] = e -/
def setI (i : Nat) (mi : M D) (d : D) : M Unit := fun c ρ => match ρ[i]? with
  | some (some (.lst _ _)) => match mi c ρ with
    | .ok (.int k) ρ1 => match ρ1[i]? with
      | some (some (.lst true ds)) => if i ∉ c.lock then match ixN ds.length k with
          | some j => .ok () (ρ1.set i (some (.lst true (ds.set j d))))
          | none => .bad
        else .bad
      | _ => .bad
    | _ => .bad
  | _ => .bad
theorem setI_fin {i : Nat} {mi : M D} {g : Gd} {v : V} {Q : St → Hp → Prop} (h : RG g c (setI i mi) v σ H Q) : gSub (tVar i) (RE g c mi) rSetL v σ H Q := by
  obtain ⟨Av0, H0, φ0, Av, ρ, φ, d, G, ok0, S, og, e, r, ap, h⟩ := h
  unfold setI at h
  cases q : ρ[i]? with
  | none => simp only [q] at h
  | some x =>
    cases x with
    | none => simp only [q] at h
    | some d0 =>
      cases d0 with
      | lst ow ds0 =>
        simp only [q] at h
        obtain ⟨w, hw, rw0⟩ := e.rep i _ q
        refine ⟨w, hw, Av, ρ, φ, e, ?_⟩
        cases q2 : mi c ρ with
        | bad => simp only [q2] at h
        | exc x ρ' => simp only [q2] at h
        | ok dk ρ1 =>
          cases dk with
          | int k =>
            simp only [q2] at h
            intro kv H1 Av1 φ1 G1 e1 r1 ap1 st1 og1
            cases q3 : ρ1[i]? with
            | none => simp only [q3] at h
            | some x =>
              cases x with
              | none => simp only [q3] at h
              | some d1 =>
                cases d1 with
                | lst ow1 ds =>
                  cases ow1 with
                  | false => simp only [q3] at h
                  | true =>
                    simp only [q3] at h
                    by_cases hl : i ∉ c.lock
                    · rw [if_pos hl] at h
                      cases q4 : ixN ds.length k with
                      | none => simp only [q4] at h
                      | some j =>
                        simp only [q4] at h
                        cases r1
                        obtain ⟨w', hw', rw'⟩ := e1.rep i _ q3
                        rw [hw] at hw'; cases hw'
                        generalize hF : φ1 i = Fi at rw'
                        cases rw' with
                        | @lstO p vs0 _ F b1 b2 b3 b4 b5 =>
                          have pi : p ∈ φ1 i := by rw [hF]; exact List.mem_cons_self
                          have Fi : ∀ a ∈ F, a ∈ φ1 i := fun a ha => by rw [hF]; exact List.mem_cons_of_mem _ ha
                          have rd : Rep g.K Av1 H1 G v d := r.step st1 e ap
                          have apd : Apart G φ1 := ap.step st1 (r.there e.ok)
                          obtain ⟨F', c1, c3, c4⟩ := RepL.put rd j b3 b5 rd.nodup fun a ha z => apd a ha i (Fi a z)
                          have np : p ∉ F' := fun z => (c4 p z).elim b4 fun y => apd p y i pi
                          have hF' : ∀ a ∈ F', a ∈ φ1 i ∨ a ∈ G := fun a ha => (c4 a ha).imp (Fi a) id
                          have e2 := e1.change (vs' := vs0.set j v) q3 hw pi b2 c1 np c3 hF' apd
                          have s1 := S.trans st1 ok0
                          have s2 := s1.change (vs' := vs0.set j v) ok0 hl pi hF' og
                          refine ⟨p, vs0, k, j, rfl, rfl, b1, by rw [b3.length]; exact q4, ?_⟩
                          have src : ∀ a, a ∈ φ1 i → (∃ j, a ∈ φ j) ∨ H a = none := fun a ha => by
                            rcases st1.org i a ha with z | ⟨_, ⟨j, _, z⟩ | z⟩
                            · exact .inl ⟨i, z⟩
                            · exact .inl ⟨j, z⟩
                            · exact .inr z
                          refine h σ _ Av1 _ e2 s2 ⟨⟨fun a o ha n => ?_, st1.av, fun a ha n => st1.own a ha fun i z => n (.inl ⟨i, z⟩)⟩, fun i' a ha => ?_, fun a ha => ?_⟩ fun _ _ => rfl
                          · rw [upd_ne fun z => ?_]
                            · exact st1.keep a o ha fun i _ z => n (.inl ⟨i, z⟩)
                            · subst z
                              rcases src _ pi with y | y
                              · exact n (.inl y)
                              · rw [ha] at y; cases y
                          · have ha : a ∈ (if i' = i then p :: F' else φ1 i') := ha
                            by_cases z : i' = i
                            · rw [if_pos z] at ha
                              rcases List.mem_cons.mp ha with y | y
                              · subst y; exact (src _ pi).imp .inl id
                              · rcases c4 a y with y | y
                                · exact (src a (Fi a y)).imp .inl id
                                · exact .inl (.inr y)
                            · rw [if_neg z] at ha
                              rcases st1.org i' a ha with y | ⟨_, ⟨j, _, y⟩ | y⟩
                              · exact .inl (.inl ⟨i', y⟩)
                              · exact .inl (.inl ⟨j, y⟩)
                              · exact .inr y
                          · by_cases z : a = p
                            · subst z; rw [upd_same]; exact fun q => nomatch q
                            · rw [upd_ne z]; exact st1.there a ha
                    · rw [if_neg hl] at h; exact h.elim
                | _ => simp only [q3] at h
          | _ => simp only [q2] at h
      | _ => simp only [q] at h
theorem g_ix {x : Str} {px : Pos} {e : Expr} {mi : M D} (i : Nat) (hi : PE X e (RE (Cx.gd X W xr) c mi)) (hN : X.N[i]? = some x := by rfl) (hv : Vis X.env.scope x := by first | exact Or.inl rfl | exact Or.inr (Or.inl rfl) | exact Or.inr (Or.inr rfl)) (hd : (x == ("__debug__" : Str)) = false := by decide)
    (hcd : (x == ("__classdict__" : Str)) = false := by decide)
    (ha : ∀ v, assign (.Subscript (.Name x px) e pos) X.env v = (do
      let ov ← holding [v] (eval (.Name x px) X.env)
      let iv ← holding [v, ov] (eval e X.env)
      standAt pos
      holding [v, ov, iv] (setItem ov iv v)
      release [v, ov, iv] []) := by intro _; rfl) : PG X (.Subscript (.Name x px) e pos) (RG (Cx.gd X W xr) c (setI i mi)) :=
  PG.weak (pg_sub (pe_var hN hv hd hcd) hi set_list ha) fun _ _ _ _ h => setI_fin h

/-! ### xs[i] op= e -/
def rGetL (K : PySem.W.Frag) : V → V → Hp → VK → Prop := fun x y H Q => ∃ p xs i v, x = .ref p ∧ y = .int i ∧ SqL K H p xs ∧ atI xs i = some v ∧ Q v H
theorem get_listV : PGet X (rGetL X.K) := by
  intro pins s σ H o i ov iv Q I ro ri h
  obtain ⟨p, xs, i, z, rfl, rfl, hq, he, q⟩ := h
  cases ro
  obtain ⟨t, rfl⟩ := ri
  obtain ⟨its, r, pl, hz⟩ := I.list hq
  obtain ⟨j, h1, h2, h3, h4, h5⟩ := atI_get he
  obtain ⟨w, ew, rw'⟩ := r.get h2
  have hl := r.length
  have hn := line63
  have fin : EP X pins σ Q w s := ⟨z, H, I, rw', q⟩
  by_cases h0 : 0 ≤ i
  · have hj : i.toNat = j := by
      rw [seqIndex_of h0 h5] at h1
      exact Option.some.inj h1
    exact wpAny_getItem_list (Q := fun r s' => EP X pins σ Q r s') pl.isList h0 (by omega) (by rw [hj]; simpa using ew) fin
  · have hj : (i + (its.toArray.size : Int)).toNat = j := by
      rw [seqIndex_neg (by omega) h4] at h1
      rw [List.size_toArray, ← hl]
      exact Option.some.inj h1
    exact wpAny_getItem_list_neg (Q := fun r s' => EP X pins σ Q r s') pl.isList (by omega) (by rw [List.size_toArray] <;> omega) (by omega) (by rw [hj]; simpa using ew) fin
/-- a member of an owned list, by place -/
def ownIx (ρ : Env) (i : Nat) (k : Int) : Option (List D × Nat × D) := match ρ[i]? with
  | some (some (.lst true ds)) => match ixN ds.length k with
    | some j => match ds[j]? with
      | some d => if isOwn d = false then some (ds, j, d) else none
      | none => none
    | none => none
  | _ => none
def sAugI (i : Nat) (mi : M D) (p : List D → Option D) (ma : M Opd) : M Fl := fun c ρ => match ρ[i]? with
  | some (some (.lst _ _)) => match mi c ρ with
    | .ok (.int k) ρ1 => match ownIx ρ1 i k with
      | some (_, _, d0) => match ma c ρ1 with
        | .ok o ρ2 => match gR o c ρ2 with
          | .ok y ρ3 => match p [d0, y] with
            | some d => match ownIx ρ3 i k with
              | some (ds, j, _) => if i ∉ c.lock then .ok .nx (ρ3.set i (some (.lst true (ds.set j d)))) else .bad
              | none => .bad
            | none => .bad
          | _ => .bad
        | .exc e ρ2 => .exc e ρ2
        | .bad => .bad
      | none => .bad
    | .exc e ρ1 => .exc e ρ1
    | _ => .bad
  | _ => .bad
theorem ownIx_ok {i : Nat} {k : Int} {ds : List D} {j : Nat} (h : ownIx ρ i k = some (ds, j, d)) : ρ[i]? = some (some (.lst true ds)) ∧ ixN ds.length k = some j ∧ ds[j]? = some d ∧ isOwn d = false := by
  unfold ownIx at h
  split at h
  · rename_i ds1 q1
    split at h
    · rename_i j1 q2
      split at h
      · rename_i d1 q3
        split at h
        · rename_i q4
          cases h
          exact ⟨q1, q2, q3, q4⟩
        · cases h
      · cases h
    · cases h
  · cases h
theorem RepL.mem : ∀ {F : List Addr} {vs : List V} {ds : List D} {j : Nat}, RepL K Av H F vs ds → ds[j]? = some d → ∃ v G, vs[j]? = some v ∧ Rep K Av H G v d ∧ ∀ a ∈ G, a ∈ F
  | _, _, _, _, .nil, h => by simp at h
  | _, _, _, 0, .cons (F := F1) r _, h => by
    have h := Option.some.inj (show some _ = some d from h)
    subst h
    exact ⟨_, F1, rfl, r, fun a ha => List.mem_append_left _ ha⟩
  | _, _, _, j + 1, .cons _ t, h => by
    obtain ⟨v, G, h1, h2, h3⟩ := RepL.mem (j := j) t (by simpa using h)
    exact ⟨v, G, by simpa using h1, h2, fun a ha => List.mem_append_right _ (h3 a ha)⟩
theorem ixN_atI {α : Type} {xs : List α} {k : Int} {j : Nat} (h : ixN xs.length k = some j) : atI xs k = xs[j]? := by
  rw [show atI xs k = (ixN xs.length k).bind fun j => xs[j]? from rfl, h]; rfl
/-- an owned list of a slot and its member -/
theorem EnvR.own_ix (e : EnvR K Av H σ ρ φ) {i : Nat} {k : Int} {j : Nat} {v : V} (h : ownIx ρ i k = some (ds, j, d)) (hs : σ[i]? = some (some v)) :
    ∃ p xs F x, v = .ref p ∧ φ i = p :: F ∧ H p = some (.lst xs) ∧ Av p ∧ RepL K Av H F xs ds ∧ p ∉ F ∧ F.Nodup ∧ ixN xs.length k = some j ∧ xs[j]? = some x ∧ Rep K Av H [] x d := by
  obtain ⟨q1, q2, q3, q4⟩ := ownIx_ok h
  obtain ⟨w, hw, r⟩ := e.rep i _ q1
  rw [hs] at hw; cases hw
  generalize φ i = Fi at r
  cases r with
  | @lstO p xs _ F b1 b2 b3 b4 b5 =>
    obtain ⟨x, G, h1, h2, _⟩ := b3.mem q3
    rw [own_nil q4 h2] at h2
    exact ⟨p, xs, F, x, rfl, rfl, b1, b2, b3, b4, b5, by rw [b3.length]; exact q2, h1, h2⟩
theorem st_augI {x : Str} {px tpos : Pos} {e ex : Expr} {op : Operator} {mi : M D} {p : List D → Option D} {ma : M Opd} (i : Nat) (hi : PE X e (RE (Cx.gd X W xr) c mi)) (he : PE X ex (RO (Cx.gd X W xr) c ma)) (ho : PIp X op (two (rPrimR X.K p)))
    (hN : X.N[i]? = some x := by rfl) (hv : Vis X.env.scope x := by first | exact Or.inl rfl | exact Or.inr (Or.inl rfl) | exact Or.inr (Or.inr rfl)) (hd : (x == ("__debug__" : Str)) = false := by decide)
    (hcd : (x == ("__classdict__" : Str)) = false := by decide)
    (ha : ∀ ov iv new, augStore e ov iv new = (do holding [new, ov, iv] (setItem ov iv new); release [new, ov, iv] []; pure .next) := by intros; rfl) :
    PS X (.AugAssign (.Subscript (.Name x px) e tpos) op ex pos) (RS (Cx.gd X W xr) c (sAugI i mi p ma)) := by
  refine PS.weak (ps_augS (pe_var hN hv hd hcd) hi get_listV he ho set_list ha) fun Dn σ H ⟨Av, ρ, φ, e, h⟩ => ?_
  unfold sAugI at h
  cases q : ρ[i]? with
  | none => simp only [q] at h
  | some x =>
    cases x with
    | none => simp only [q] at h
    | some d0 =>
      cases d0 with
      | lst ow ds0 =>
        simp only [q] at h
        obtain ⟨w, hw, rw0⟩ := e.rep i _ q
        refine ⟨w, hw, Av, ρ, φ, e, ?_⟩
        cases q2 : mi c ρ with
        | bad => simp only [q2] at h
        | exc x ρ' => simp only [q2] at h; exact h
        | ok dk ρ1 =>
          cases dk with
          | int k =>
            simp only [q2] at h
            intro kv H1 Av1 φ1 G1 e1 r1 ap1 st1 og1
            cases q3 : ownIx ρ1 i k with
            | none => simp only [q3] at h
            | some z =>
              obtain ⟨ds1, j1, d1⟩ := z
              simp only [q3] at h
              cases r1
              obtain ⟨p1, xs1, F1, x1, rfl, f1, f2, f3, f4, f5, f6, f7, f8, f9⟩ := e1.own_ix q3 hw
              refine ⟨p1, xs1, k, x1, rfl, rfl, .inl (.inl f2), by rw [ixN_atI f7]; exact f8, Av1, ρ1, φ1, e1, ?_⟩
              cases q4 : ma c ρ1 with
              | bad => simp only [q4] at h
              | exc x ρ' =>
                simp only [q4] at h
                exact fun cls y σ' H' Av' φ' e' xr' st hp => h cls y σ' H' Av' φ' e' xr' (st1.trans st e.ok) hp
              | ok o ρ2 =>
                simp only [q4] at h
                intro u H2 Av2 φ2 G2 e2 r2 ap2 nd2 st2 og2
                cases q5 : gR o c ρ2 with
                | bad => simp only [q5] at h
                | exc x ρ' => simp only [q5] at h
                | ok y ρ3 =>
                  simp only [q5] at h
                  obtain ⟨er, ry⟩ := gR_ok e2 r2 q5
                  subst er
                  have rx : Rep X.K Av2 H2 [] x1 d1 := f9.step st2 e1 Apart.nil
                  cases q6 : p [d1, y] with
                  | none => simp only [q6] at h
                  | some d =>
                    simp only [q6] at h
                    cases q7 : ownIx ρ3 i k with
                    | none => simp only [q7] at h
                    | some z =>
                      obtain ⟨ds2, j2, d2⟩ := z
                      simp only [q7] at h
                      by_cases hl : i ∉ c.lock
                      · rw [if_pos hl] at h
                        refine ⟨Av2, [d1, y], d, e2.ok, .cons ⟨_, rx⟩ (.cons ry .nil), q6, fun z H3 Av3 G gr rz => ?_⟩
                        have e3 := e2.grow gr
                        have st3 := (st1.trans st2 e.ok).trans gr.step e.ok
                        obtain ⟨p2, xs2, F2, x2, hp, g1, g2, g3, g4, g5, g6, g7, g8, g9⟩ := e3.own_ix q7 hw
                        obtain rfl : p1 = p2 := by injection hp
                        obtain ⟨q31, q32, q33, q34⟩ := ownIx_ok q7
                        have apd : Apart G φ2 := e2.apart gr
                        have pi : p1 ∈ φ2 i := by rw [g1]; exact List.mem_cons_self
                        have Fi : ∀ a ∈ F2, a ∈ φ2 i := fun a ha => by rw [g1]; exact List.mem_cons_of_mem _ ha
                        obtain ⟨F', c1, c3, c4⟩ := RepL.put rz j2 g4 g6 rz.nodup fun a ha z => apd a ha i (Fi a z)
                        have np : p1 ∉ F' := fun z => (c4 p1 z).elim g5 fun y => apd p1 y i pi
                        have hF' : ∀ a ∈ F', a ∈ φ2 i ∨ a ∈ G := fun a ha => (c4 a ha).imp (Fi a) id
                        have e4 := e3.change (vs' := xs2.set j2 z) q31 hw pi g3 c1 np c3 hF' apd
                        have og : OrgG c.lock H φ G := fun a ha => by
                          rcases ((Grow.org (lock := c.lock) (φ := φ2) gr).step (st1.trans st2 e.ok)) a ha with y | y
                          · exact .inl y
                          · exact .inr y
                        have s4 := st3.change (vs' := xs2.set j2 z) e.ok hl pi hF' og
                        exact ⟨p1, xs2, k, j2, rfl, rfl, g2, g7, h σ _ Av3 _ e4 s4 fun _ _ => rfl⟩
                      · rw [if_neg hl] at h; exact h.elim
          | _ => simp only [q2] at h
      | _ => simp only [q] at h
end
end Y

end
section
set_option Elab.async false
set_option linter.all false
set_option maxRecDepth 100000
set_option autoImplicit false
/-! Y10b: arguments are lent when all of them are there. -/
namespace Y
open PySem L2
def lendL : List Opd → M (List (D × Option Nat))
  | [] => pur []
  | .val d :: os => bnd (lendL os) fun ps => pur ((d, none) :: ps)
  | .slot i :: os => bnd (aVar i) fun p => bnd (lendL os) fun ps => pur (p :: ps)
section
variable {X : Cx} {W : WX} {xr : (Addr → Prop) → Hp → D → Value → Option Addr → Prop} {c : Ctx} {pos : Pos}
variable {K : PySem.W.Frag} {Av Av0 Av1 Av2 Av' : Addr → Prop} {H H0 H1 H2 H' : Hp} {φ φ0 φ1 φ2 φ' : Nat → List Addr} {lock : List Nat} {σ σ' : St} {ρ ρ1 ρ' : Env} {F G : List Addr} {v : V} {d : D} {vs : List V} {ds : List D}
theorem aVar_noexc {i : Nat} {x : D} : aVar i c ρ ≠ .exc x ρ' := by
  intro h
  unfold aVar at h
  split at h
  · split at h <;> cases h
  · cases h
theorem lendL_noexc {x : D} : ∀ {os : List Opd} {ρ ρ' : Env}, lendL os c ρ ≠ .exc x ρ'
  | [], _, _ => fun h => nomatch (show Rs.ok [] _ = Rs.exc x _ from h)
  | .val d :: os, _, _ => fun h => by
    rcases bnd_exc (m := lendL os) h with h | ⟨a, ρ1, _, h⟩
    · exact lendL_noexc h
    · cases h
  | .slot i :: os, _, _ => fun h => by
    rcases bnd_exc (m := aVar i) h with h | ⟨a, ρ1, _, h⟩
    · exact aVar_noexc h
    · rcases bnd_exc (m := lendL os) h with h | ⟨a, ρ1, _, h⟩
      · exact lendL_noexc h
      · cases h
/-- one slot -/
theorem lend_one (e : EnvR K Av H σ ρ φ) {i : Nat} {p : D × Option Nat} (hs : σ[i]? = some (some v)) (h : aVar i c ρ = .ok p ρ1) :
    ∃ Av1 φ1 G, EnvR K Av1 H σ ρ1 φ1 ∧ Rep K Av1 H G v p.1 ∧ Apart G φ1 ∧ Step c.lock Av Av1 H H φ φ1 ∧ (∀ a ∈ G, i ∉ c.lock ∧ a ∈ φ i) ∧ (∀ k, p.2 = some k → k ∉ c.lock ∧ σ[k]? = some (some v)) ∧ ∀ j a, a ∈ φ1 j → a ∈ φ j := by
  unfold aVar at h
  cases q : ρ[i]? with
  | none => rw [q] at h; cases h
  | some x =>
    cases x with
    | none => rw [q] at h; cases h
    | some d =>
      rw [q] at h
      dsimp only at h
      by_cases hc : isOwn d = true ∧ i ∉ c.lock
      · rw [if_pos hc] at h
        cases h
        obtain ⟨w, hw, r, e1, ap, st⟩ := e.lend (lock := c.lock) q
        rw [hs] at hw; cases hw
        refine ⟨Av, _, φ i, e1, r, ap, st, fun a ha => ⟨hc.2, ha⟩, fun k hk => ?_, fun j a ha => ?_⟩
        · have hk : some i = some k := hk
          cases hk
          exact ⟨hc.2, hs⟩
        · have ha : a ∈ (if j = i then [] else φ j) := ha
          by_cases z : j = i
          · rw [if_pos z] at ha; cases ha
          · rw [if_neg z] at ha; exact ha
      · rw [if_neg hc] at h
        cases h
        obtain ⟨w, hw, r⟩ := e.rep i d q
        rw [hs] at hw; cases hw
        have r' : Rep K (fun a => Av a ∧ a ∉ φ i) H [] v (frz d) := r.frz (fun a h => h.1) fun a ha h => h.2 ha
        obtain ⟨e1, s1⟩ := e.turn (lock := c.lock) (F := []) (Av' := fun a => Av a ∧ a ∉ φ i) q hs (fun a h => nomatch h) (fun a => by simp) r'
        refine ⟨_, _, [], e1, r', Apart.nil, s1, fun a h => (nomatch h), fun k z => (nomatch z), fun j a ha => ?_⟩
        have ha : a ∈ (if j = i then [] else φ j) := ha
        by_cases z : j = i
        · rw [if_pos z] at ha; cases ha
        · rw [if_neg z] at ha; exact ha
/-- an argument ahead of others -/
theorem ArgR.cons {p : D × Option Nat} {ps : List (D × Option Nat)} {ψ : Nat → List Addr} (ar : ArgR K Av H σ lock vs ps ψ) (r : Rep K Av H G v p.1) (far : ∀ j a, a ∈ G → a ∉ ψ j) (ln : ∀ k, p.2 = some k → k ∉ lock ∧ σ[k]? = some (some v)) :
    ArgR K Av H σ lock (v :: vs) (p :: ps) (fun j => match j with | 0 => G | j + 1 => ψ j) := by
  refine ⟨⟨?_, fun j d hj => ?_, fun j hj => ?_, fun j k a h1 h2 => ?_, ar.env.ok⟩, fun j d i hj => ?_⟩
  · have := ar.env.len
    simpa using this
  · cases j with
    | zero =>
      have z : some p.1 = some d := by simpa using hj
      cases z
      exact ⟨v, rfl, r⟩
    | succ j => exact ar.env.rep j d (by simpa using hj)
  · cases j with
    | zero => exact absurd rfl (hj p.1)
    | succ j => exact ar.env.emp j fun d z => hj d (by simpa using z)
  · cases j with
    | zero =>
      cases k with
      | zero => rfl
      | succ k => exact absurd h2 (far k a h1)
    | succ j =>
      cases k with
      | zero => exact absurd h1 (far j a h2)
      | succ k => rw [ar.env.dis j k a h1 h2]
  · cases j with
    | zero =>
      have z : p = (d, some i) := by simpa using hj
      obtain ⟨n1, n2⟩ := ln i (by rw [z])
      exact ⟨n1, v, rfl, n2⟩
    | succ j => exact ar.lent j d i (by simpa using hj)
theorem lend_ok : ∀ {os : List Opd} {vs : List V} {F : List Addr} {Av : Addr → Prop} {ρ ρ' : Env} {φ : Nat → List Addr} {ps : List (D × Option Nat)}, EnvR K Av H σ ρ φ → RepOL K Av H σ F vs os → F.Nodup → Apart F φ → lendL os c ρ = .ok ps ρ' →
    ∃ Av' φ' ψ, EnvR K Av' H σ ρ' φ' ∧ ArgR K Av' H σ c.lock vs ps ψ ∧ (∀ j, Apart (ψ j) φ') ∧ Step c.lock Av Av' H H φ φ' ∧ ∀ j a, a ∈ ψ j → a ∈ F ∨ ∃ i, i ∉ c.lock ∧ a ∈ φ i
  | [], _, _, Av, ρ, _, φ, _, e, r, nd, ap, h => by
    cases r
    have h' : Rs.ok [] ρ = .ok _ _ := h
    cases h'
    exact ⟨Av, φ, fun _ => [], e, ⟨⟨rfl, fun i d h => (nomatch h), fun _ _ => rfl, fun _ _ _ h => (nomatch h), e.ok⟩, fun j d i h => (nomatch h)⟩, fun _ => Apart.nil, Step.refl, fun j a h => nomatch h⟩
  | .val d :: os, _, _, Av, ρ, _, φ, _, e, r, nd, ap, h => by
    cases r with
    | @cons v _ vs _ F1 F2 r1 r2 =>
      obtain ⟨ps, ρ1, q, h⟩ := bnd_ok (m := lendL os) h
      cases h
      obtain ⟨n1, n2, n3⟩ := List.nodup_append.mp nd
      have ap1 : Apart F1 φ := fun a ha => ap a (List.mem_append_left _ ha)
      obtain ⟨Av2, φ2, ψ, e2, ar, a2, st, og⟩ := lend_ok e r2 n2 (fun a ha => ap a (List.mem_append_right _ ha)) q
      have r1' : Rep K Av2 H F1 v d := Rep.step st e r1 ap1
      refine ⟨Av2, φ2, _, e2, ar.cons (p := (d, none)) r1' (fun j a ha hb => ?_) (fun k z => nomatch z), fun j => ?_, st, fun j a ha => ?_⟩
      · rcases og j a hb with z | ⟨i, _, z⟩
        · exact n3 a ha a z rfl
        · exact ap1 a ha i z
      · cases j with
        | zero => exact ap1.step st (r1.there e.ok)
        | succ j => exact a2 j
      · cases j with
        | zero => exact .inl (List.mem_append_left _ ha)
        | succ j => exact (og j a ha).imp (fun z => List.mem_append_right _ z) id
  | .slot i :: os, _, _, Av, ρ, _, φ, _, e, r, nd, ap, h => by
    cases r with
    | @cons v _ vs _ F1 F2 r1 r2 =>
      obtain ⟨p, ρ1, q1, h⟩ := bnd_ok (m := aVar i) h
      obtain ⟨ps, ρ2, q, h⟩ := bnd_ok (m := lendL os) h
      cases h
      obtain ⟨hs, rfl⟩ := (show σ[i]? = some (some v) ∧ F1 = [] from r1)
      obtain ⟨Av1, φ1, G, e1, rp, apG, st1, hG, ln, sub⟩ := lend_one e hs q1
      have n2 : F2.Nodup := nd
      have ap2 : Apart F2 φ := ap
      have r2' : RepOL K Av1 H σ F2 vs os := r2.keep e.ok (fun a ⟨i, h⟩ => e.own h) st1.keeps fun a ha ⟨i, h⟩ => ap2 a ha i h
      obtain ⟨Av2, φ2, ψ, e2, ar, a2, st, og⟩ := lend_ok e1 r2' n2 (fun a ha k z => ap2 a ha k (sub k a z)) q
      have r1' : Rep K Av2 H G v p.1 := Rep.step st e1 rp apG
      refine ⟨Av2, φ2, _, e2, ar.cons r1' (fun j a ha hb => ?_) ln, fun j => ?_, st1.trans st e.ok, fun j a ha => ?_⟩
      · rcases og j a hb with z | ⟨k, _, z⟩
        · exact ap2 a z i (hG a ha).2
        · exact apG a ha k z
      · cases j with
        | zero => exact apG.step st (rp.there e1.ok)
        | succ j => exact a2 j
      · cases j with
        | zero => exact .inr ⟨i, hG a ha⟩
        | succ j => exact (og j a ha).imp id fun ⟨k, hk, z⟩ => ⟨k, hk, sub k a z⟩
/-- arguments as operands, lent at the end -/
theorem aL {es : List Expr} {mos : M (List Opd)} (h : PA X es (ROL (Cx.gd X W xr) c mos)) : PA X es (RAL (Cx.gd X W xr) c (bnd mos lendL)) := by
  refine PA.weak h fun σ H Q ⟨Av, ρ, φ, e, h⟩ => ⟨Av, ρ, φ, e, ?_⟩
  cases q : mos c ρ with
  | bad => simp only [bnd, q] at h
  | exc x ρ' => simp only [bnd, q] at h; exact h
  | ok os ρ1 =>
    simp only [bnd, q] at h
    intro vs H1 Av1 φ1 F e1 r1 ap1 nd1 st1 og1
    cases q2 : lendL os c ρ1 with
    | bad => simp only [q2] at h
    | exc x ρ' => exact absurd q2 lendL_noexc
    | ok ps ρ2 =>
      simp only [q2] at h
      obtain ⟨Av2, φ2, ψ, e2, ar, a2, st, og⟩ := lend_ok e1 r1 nd1 ap1 q2
      refine h vs H1 Av2 φ2 ψ e2 ar a2 (st1.trans st e.ok) fun j a ha => ?_
      rcases og j a ha with z | ⟨i, hi, z⟩
      · exact og1 a z
      · have : OrgG c.lock H1 φ1 [a] := fun b hb => by rw [show b = a by simpa using hb]; exact .inl ⟨i, hi, z⟩
        exact this.step st1 a (by simp)
end
end Y

end
section
set_option Elab.async false
set_option linter.all false
set_option maxRecDepth 100000
set_option autoImplicit false
/-! Y11: for, while, list comprehensions. -/
namespace Y
open PySem L2

/-- what a statement's end wants, by its meaning -/
def Post (g : Gd) (c : Ctx) (Av : Addr → Prop) (H : Hp) (φ : Nat → List Addr) (σ : St) (Dn : Ends) : Rs Fl → Prop
  | .ok .nx ρ' => ∀ σ' H' Av' φ', EnvR g.K Av' H' σ' ρ' φ' → Step c.lock Av Av' H H' φ φ' → (∀ i, i ∈ c.prot ∨ i ∈ c.lock → σ'[i]? = σ[i]?) → Dn.nx σ' H'
  | .ok .brk ρ' => ∀ σ' H' Av' φ', EnvR g.K Av' H' σ' ρ' φ' → Step c.lock Av Av' H H' φ φ' → (∀ i, i ∈ c.prot ∨ i ∈ c.lock → σ'[i]? = σ[i]?) → Dn.bk σ' H'
  | .ok .cont ρ' => ∀ σ' H' Av' φ', EnvR g.K Av' H' σ' ρ' φ' → Step c.lock Av Av' H H' φ φ' → (∀ i, i ∈ c.prot ∨ i ∈ c.lock → σ'[i]? = σ[i]?) → Dn.ct σ' H'
  | .ok (.ret d) ρ' => ∀ v σ' H' Av' φ' G, EnvR g.K Av' H' σ' ρ' φ' → Rep g.K Av' H' G v d → Apart G φ' → Step c.lock Av Av' H H' φ φ' → OrgG c.lock H φ G →
      (∀ i, i ∈ c.prot ∨ i ∈ c.lock → σ'[i]? = σ[i]?) → Dn.rt v H'
  | .exc e ρ' => RX g c Av H φ σ e ρ'
  | .bad => False

section
variable {X : Cx} {W : WX} {xr : (Addr → Prop) → Hp → D → Value → Option Addr → Prop} {c : Ctx} {pos : Pos} {g : Gd}
variable {K : PySem.W.Frag} {Av Av0 Av1 Av2 Av' : Addr → Prop} {H H0 H1 H2 H' : Hp} {φ φ0 φ1 φ2 φ' : Nat → List Addr} {lock lock' : List Nat} {σ σ1 σ' : St} {ρ ρ' : Env} {F F' G : List Addr} {v : V} {d : D} {vs vs' : List V} {ds ds' : List D} {Dn : Ends}

theorem rs_post {m : M Fl} : RS g c m Dn σ H ↔ ∃ Av ρ φ, EnvR g.K Av H σ ρ φ ∧ Post g c Av H φ σ Dn (m c ρ) := by
  constructor
  · rintro ⟨Av, ρ, φ, e, h⟩
    refine ⟨Av, ρ, φ, e, ?_⟩
    cases q : m c ρ with
    | bad => rw [q] at h; exact h
    | exc x ρ' => rw [q] at h; exact h
    | ok f ρ' => rw [q] at h; cases f <;> exact h
  · rintro ⟨Av, ρ, φ, e, h⟩
    refine ⟨Av, ρ, φ, e, ?_⟩
    cases q : m c ρ with
    | bad => rw [q] at h; exact h
    | exc x ρ' => rw [q] at h; exact h
    | ok f ρ' => rw [q] at h; cases f <;> exact h
theorem OrgG.mono (h : OrgG lock' H φ G) (hs : ∀ i ∈ lock, i ∈ lock') : OrgG lock H φ G := fun a ha => (h a ha).imp (fun ⟨j, hj, z⟩ => ⟨j, fun y => hj (hs j y), z⟩) id
/-- from a later state, under more locks, to other ends that agree -/
theorem Post.to {c' : Ctx} {Dn' : Ends} {r : Rs Fl} (st : Step c.lock Av Av1 H H1 φ φ1) (ok : AvOk Av H) (hp : ∀ i, i ∈ c.prot ∨ i ∈ c.lock → σ1[i]? = σ[i]?) (hl : ∀ i ∈ c.lock, i ∈ c'.lock) (hpr : ∀ i ∈ c.prot, i ∈ c'.prot ∨ i ∈ c'.lock)
    (h1 : Dn'.nx = Dn.nx) (h2 : Dn'.bk = Dn.bk) (h3 : Dn'.ct = Dn.ct) (h4 : Dn'.rt = Dn.rt) (h : Post g c Av H φ σ Dn r) : Post g c' Av1 H1 φ1 σ1 Dn' r := by
  have hq : ∀ {σ' : St}, (∀ i, i ∈ c'.prot ∨ i ∈ c'.lock → σ'[i]? = σ1[i]?) → ∀ i, i ∈ c.prot ∨ i ∈ c.lock → σ'[i]? = σ[i]? := fun h i hi => (h i (hi.elim (hpr i) fun z => .inr (hl i z))).trans (hp i hi)
  cases r with
  | bad => exact h
  | exc x ρ' => exact fun cls y σ' H' Av' φ' e' xr' st' hp' => h cls y σ' H' Av' φ' e' xr' (st.trans (st'.mono hl) ok) (hq hp')
  | ok f ρ' =>
    cases f with
    | nx =>
      show ∀ σ' H' Av' φ', _ → _ → _ → Dn'.nx σ' H'
      rw [h1]
      exact fun σ' H' Av' φ' e' st' hp' => h σ' H' Av' φ' e' (st.trans (st'.mono hl) ok) (hq hp')
    | brk =>
      show ∀ σ' H' Av' φ', _ → _ → _ → Dn'.bk σ' H'
      rw [h2]
      exact fun σ' H' Av' φ' e' st' hp' => h σ' H' Av' φ' e' (st.trans (st'.mono hl) ok) (hq hp')
    | cont =>
      show ∀ σ' H' Av' φ', _ → _ → _ → Dn'.ct σ' H'
      rw [h3]
      exact fun σ' H' Av' φ' e' st' hp' => h σ' H' Av' φ' e' (st.trans (st'.mono hl) ok) (hq hp')
    | ret d =>
      show ∀ v σ' H' Av' φ' G, _ → _ → _ → _ → _ → _ → Dn'.rt v H'
      rw [h4]
      exact fun v σ' H' Av' φ' G e' r ap st' og hp' => h v σ' H' Av' φ' G e' r ap (st.trans (st'.mono hl) ok) ((og.mono hl).step st) (hq hp')

/-! ### for -/
def forL (t : D → M Unit) (b : M Fl) : List D → M Fl
  | [] => pur .nx
  | d :: ds => fun c ρ => match t d c ρ with
    | .ok _ ρ1 => match b c ρ1 with
      | .ok .nx ρ2 => forL t b ds c ρ2
      | .ok .cont ρ2 => forL t b ds c ρ2
      | .ok .brk ρ2 => .ok .nx ρ2
      | .ok (.ret d) ρ2 => .ok (.ret d) ρ2
      | .exc e ρ2 => .exc e ρ2
      | .bad => .bad
    | _ => .bad
def sFor (mi : M Sr) (t : D → M Unit) (b : M Fl) : M Fl := bnd mi fun p => fun c ρ => forL t b p.1 ⟨c.prot, p.2 ++ c.lock⟩ ρ
/-- the walked thing still stands -/
theorem Src.still {J : It} {own : List Addr} {ok : (Addr → Prop) → Hp → Prop} {ls : List Nat} (src : Src K J ds own ok) (hok : ok Av H) (e : EnvR K Av H σ ρ φ) (ho : ∀ a ∈ own, a ∈ G ∨ ∃ i ∈ ls, a ∈ φ i) (ap : Apart G φ) (st : Step lock Av Av' H H' φ φ') (hl : ∀ i ∈ ls, i ∈ lock) : ok Av' H' := by
  refine src.keep Av Av' H H' (fun a => ∃ i, i ∉ lock ∧ a ∈ φ i) e.ok (fun a ⟨i, _, z⟩ => e.own z) (fun a o h n => st.keep a o h fun i hi z => n ⟨i, hi, z⟩) st.av (fun a ha ⟨i, hi, z⟩ => ?_) hok
  rcases ho a ha with y | ⟨j, hj, y⟩
  · exact ap a y i z
  · exact hi (e.dis j i a y z ▸ hl j hj)
theorem for_fin {mi : M Sr} {t : D → M Unit} {b : M Fl} (h : RS g c (sFor mi t b) Dn σ H) :
    tFor (RI g c mi) (fun v σ H Q => ∃ c, RG g c t v σ H Q) (fun D σ H => ∃ c, RS g c b D σ H) Dn σ H := by
  obtain ⟨Av, ρ, φ, e, h⟩ := rs_post.mp h
  refine ⟨Av, ρ, φ, e, ?_⟩
  unfold sFor at h
  cases q : mi c ρ with
  | bad => simp only [bnd, q] at h; exact h
  | exc x ρ' => simp only [bnd, q] at h; exact h
  | ok p ρ1 =>
    simp only [bnd, q] at h
    intro J H1 Av1 φ1 G own ok e1 src hok ho hG ap1 st1 og1
    obtain ⟨c2, hc2⟩ : ∃ c2 : Ctx, c2 = ⟨c.prot, p.2 ++ c.lock⟩ := ⟨_, rfl⟩
    rw [← hc2] at h
    have hll : ∀ i ∈ c.lock, i ∈ c2.lock := fun i hi => by rw [hc2]; exact List.mem_append_right _ hi
    have hls : ∀ i ∈ p.2, i ∈ c2.lock := fun i hi => by rw [hc2]; exact List.mem_append_left _ hi
    have h := h.to (c' := c2) (Dn' := Dn) st1 e.ok (fun _ _ => rfl) hll (fun i hi => .inl (by rw [hc2]; exact hi)) rfl rfl rfl rfl
    let W' : Nat → St → Hp → Prop := fun i σ' H' => i ≤ p.1.length ∧ ∃ Av' ρ' φ', EnvR g.K Av' H' σ' ρ' φ' ∧ Step c2.lock Av1 Av' H1 H' φ1 φ' ∧ (∀ i, i ∈ c2.prot ∨ i ∈ c2.lock → σ'[i]? = σ[i]?) ∧ Post g c2 Av1 H1 φ1 σ Dn (forL t b (p.1.drop i) c2 ρ')
    refine ⟨fun i m σ' H' => m = p.1.length - i ∧ W' i σ' H', ⟨_, rfl, Nat.zero_le _, Av1, ρ1, φ1, e1, Step.refl, fun _ _ => rfl, h⟩, ?_⟩
    rintro i m σ2 H2 ⟨rfl, hi, Av2, ρ2, φ2, e2, st2, hp2, h2⟩
    have hok2 := src.still hok e1 ho ap1 st2 hls
    by_cases hlt : i < p.1.length
    · have hd := List.getElem?_eq_getElem hlt
      obtain ⟨d, hd'⟩ : ∃ d, p.1[i]? = some d := ⟨_, hd⟩
      have hdrop : p.1.drop i = d :: p.1.drop (i + 1) := by
        rw [hd] at hd'
        cases hd'
        exact List.drop_eq_getElem_cons hlt
      obtain ⟨go, yl⟩ := src.go Av2 H2 i d hok2 e2.ok hd'
      refine .inr ⟨go, W' (i + 1), fun σ' H' w => ⟨p.1.length - (i + 1), by omega, rfl, w⟩, fun x H3 hy => ?_⟩
      obtain ⟨gr, rx⟩ := yl x H3 hy
      rw [hdrop] at h2
      refine ⟨c2, Av1, H1, φ1, Av2, ρ2, φ2, d, [], e1.ok, st2.trans gr.step e1.ok, OrgG.nil, e2.grow gr, rx, Apart.nil, ?_⟩
      cases q2 : t d c2 ρ2 with
      | bad => simp only [forL, q2] at h2; exact h2
      | exc x ρ' => simp only [forL, q2] at h2; exact h2
      | ok u ρ3 =>
        intro σ4 H4 Av4 φ4 e4 st4 _ hp4
        refine ⟨c2, rs_post.mpr ⟨Av4, ρ3, φ4, e4, ?_⟩⟩
        have hp4' : ∀ i, i ∈ c2.prot ∨ i ∈ c2.lock → σ4[i]? = σ[i]? := fun i hi => (hp4 i hi).trans (hp2 i hi)
        cases q3 : b c2 ρ3 with
        | bad => simp only [forL, q2, q3] at h2; exact h2
        | exc x ρ' =>
          simp only [forL, q2, q3] at h2
          exact fun cls y σ' H' Av' φ' e' xr' st' hp' => h2 cls y σ' H' Av' φ' e' xr' (st4.trans st' e1.ok) fun i hi => (hp' i hi).trans (hp4' i hi)
        | ok f ρ5 =>
          cases f with
          | nx =>
            simp only [forL, q2, q3] at h2
            exact fun σ' H' Av' φ' e' st' hp' => ⟨hlt, Av', ρ5, φ', e', st4.trans st' e1.ok, fun i hi => (hp' i hi).trans (hp4' i hi), h2⟩
          | cont =>
            simp only [forL, q2, q3] at h2
            exact fun σ' H' Av' φ' e' st' hp' => ⟨hlt, Av', ρ5, φ', e', st4.trans st' e1.ok, fun i hi => (hp' i hi).trans (hp4' i hi), h2⟩
          | brk =>
            simp only [forL, q2, q3] at h2
            exact fun σ' H' Av' φ' e' st' hp' => h2 σ' H' Av' φ' e' (st4.trans st' e1.ok) fun i hi => (hp' i hi).trans (hp4' i hi)
          | ret d =>
            simp only [forL, q2, q3] at h2
            exact fun v σ' H' Av' φ' G e' r ap st' og hp' => h2 v σ' H' Av' φ' G e' r ap (st4.trans st' e1.ok) (og.step st4) fun i hi => (hp' i hi).trans (hp4' i hi)
    · have hi' : i = p.1.length := by omega
      subst hi'
      rw [List.drop_length] at h2
      exact .inl ⟨src.stop Av2 H2 hok2, h2 σ2 H2 Av2 φ2 e2 st2 hp2⟩
theorem PSs.exC {ι : Type} {ss : List Stmt} {t : ι → TS} (h : ∀ i, PSs X ss (t i)) : PSs X ss (fun D σ H => ∃ i, t i D σ H) := ⟨fun pins s σ H Q I ⟨i, q⟩ => (h i).run pins s σ H Q I q⟩
theorem PG.exC {ι : Type} {e : Expr} {t : ι → TG} (h : ∀ i, PG X e (t i)) : PG X e (fun v σ H Q => ∃ i, t i v σ H Q) := ⟨fun pins s σ H v u Q I r ⟨i, q⟩ => (h i).run pins s σ H v u Q I r q⟩
theorem PE.exC {ι : Type} {e : Expr} {t : ι → TE} (h : ∀ i, PE X e (t i)) : PE X e (fun σ H Q => ∃ i, t i σ H Q) := ⟨fun pins s σ H Q I ⟨i, q⟩ => (h i).run pins s σ H Q I q⟩
theorem PTs.exC {ι : Type} {e : List Expr} {t : ι → TT} (h : ∀ i, PTs X e (t i)) : PTs X e (fun σ H Q => ∃ i, t i σ H Q) := ⟨fun pins s σ H Q I ⟨i, q⟩ => (h i).run pins s σ H Q I q⟩
theorem st_for {tg iter : Expr} {body : List Stmt} {mi : M Sr} {t : D → M Unit} {b : M Fl} (hi : PI X tg iter (RI (Cx.gd X W xr) c mi)) (hg : ∀ c, PG X tg (RG (Cx.gd X W xr) c t)) (hb : ∀ c, PSs X body (RS (Cx.gd X W xr) c b))
    (hp : PassesOwn (model X.prog X.w) X.A X.env X.xe) (hc : X.calm = true) (hs : ∀ x, foldedSetIterable iter X.env x = pure x := by intro _; rfl) : PS X (.For tg iter body [] pos) (RS (Cx.gd X W xr) c (sFor mi t b)) :=
  PS.weak (ps_for hp hc hi (PG.exC hg) (PSs.exC hb) hs) fun _ _ _ h => for_fin h

/-! ### while -/
def whileL (t : M Bool) (b : M Fl) : Nat → M Fl
  | 0 => bad
  | n + 1 => fun c ρ => match t c ρ with
    | .ok true ρ1 => match b c ρ1 with
      | .ok .nx ρ2 => whileL t b n c ρ2
      | .ok .cont ρ2 => whileL t b n c ρ2
      | .ok .brk ρ2 => .ok .nx ρ2
      | .ok (.ret d) ρ2 => .ok (.ret d) ρ2
      | .exc e ρ2 => .exc e ρ2
      | .bad => .bad
    | .ok false ρ1 => .ok .nx ρ1
    | .exc e ρ1 => .exc e ρ1
    | .bad => .bad
open Classical in
noncomputable def sWhile (t : M Bool) (b : M Fl) : M Fl := fun c ρ => if h : ∃ n, whileL t b n c ρ ≠ .bad then whileL t b (choose h) c ρ else .bad
theorem whileL_up {t : M Bool} {b : M Fl} : ∀ {n : Nat} {ρ : Env} {r : Rs Fl}, whileL t b n c ρ = r → r ≠ .bad → whileL t b (n + 1) c ρ = r
  | 0, ρ, r, h, hr => absurd h.symm hr
  | n + 1, ρ, r, h, hr => by
    rw [whileL] at h ⊢
    dsimp only at h ⊢
    cases q : t c ρ with
    | bad => rw [q] at h; exact h
    | exc x ρ' => rw [q] at h; exact h
    | ok f ρ1 =>
      rw [q] at h
      cases f with
      | false => exact h
      | true =>
        dsimp only at h ⊢
        cases q2 : b c ρ1 with
        | bad => rw [q2] at h; exact h
        | exc x ρ' => rw [q2] at h; exact h
        | ok f ρ2 =>
          rw [q2] at h
          cases f with
          | nx => exact whileL_up h hr
          | cont => exact whileL_up h hr
          | brk => exact h
          | ret d => exact h
theorem whileL_le {t : M Bool} {b : M Fl} {n m : Nat} {r : Rs Fl} (h : whileL t b n c ρ = r) (hr : r ≠ .bad) (hm : n ≤ m) : whileL t b m c ρ = r := by
  induction hm with
  | refl => exact h
  | step _ ih => exact whileL_up ih hr
theorem sWhile_of {t : M Bool} {b : M Fl} {n : Nat} {r : Rs Fl} (h : whileL t b n c ρ = r) (hr : r ≠ .bad) : sWhile t b c ρ = r := by
  have hx : ∃ n, whileL t b n c ρ ≠ .bad := ⟨n, by rw [h]; exact hr⟩
  unfold sWhile
  rw [dif_pos hx]
  have h2 := Classical.choose_spec hx
  generalize Classical.choose hx = m at h2
  rcases Nat.le_total n m with z | z
  · exact whileL_le h hr z
  · rw [← h]; exact (whileL_le rfl h2 z).symm
theorem sWhile_ex {t : M Bool} {b : M Fl} (h : sWhile t b c ρ ≠ .bad) : ∃ n, whileL t b n c ρ = sWhile t b c ρ := by
  unfold sWhile at h ⊢
  by_cases hx : ∃ n, whileL t b n c ρ ≠ .bad
  · rw [dif_pos hx]; exact ⟨_, rfl⟩
  · rw [dif_neg hx] at h; exact absurd rfl h
/-- a while, told by one turn -/
theorem sWhile_eq {t : M Bool} {b : M Fl} : sWhile t b c ρ = match t c ρ with
    | .ok true ρ1 => match b c ρ1 with
      | .ok .nx ρ2 => sWhile t b c ρ2
      | .ok .cont ρ2 => sWhile t b c ρ2
      | .ok .brk ρ2 => .ok .nx ρ2
      | .ok (.ret d) ρ2 => .ok (.ret d) ρ2
      | .exc e ρ2 => .exc e ρ2
      | .bad => .bad
    | .ok false ρ1 => .ok .nx ρ1
    | .exc e ρ1 => .exc e ρ1
    | .bad => .bad := by
  have one : ∀ n, whileL t b (n + 1) c ρ = match t c ρ with
    | .ok true ρ1 => match b c ρ1 with
      | .ok .nx ρ2 => whileL t b n c ρ2
      | .ok .cont ρ2 => whileL t b n c ρ2
      | .ok .brk ρ2 => .ok .nx ρ2
      | .ok (.ret d) ρ2 => .ok (.ret d) ρ2
      | .exc e ρ2 => .exc e ρ2
      | .bad => .bad
    | .ok false ρ1 => .ok .nx ρ1
    | .exc e ρ1 => .exc e ρ1
    | .bad => .bad := fun n => rfl
  have nb : (∀ n, whileL t b (n + 1) c ρ = .bad) → sWhile t b c ρ = .bad := fun h => by
    by_cases z : sWhile t b c ρ = .bad
    · exact z
    · obtain ⟨n, hn⟩ := sWhile_ex z
      cases n with
      | zero => exact hn.symm
      | succ n => rw [← hn]; exact h n
  cases q : t c ρ with
  | bad => exact nb fun n => by rw [one, q]
  | exc x ρ' => exact sWhile_of (n := 1) (by rw [one, q]) (fun z => nomatch z)
  | ok f ρ1 =>
    cases f with
    | false => exact sWhile_of (n := 1) (by rw [one, q]) (fun z => nomatch z)
    | true =>
      dsimp only
      have rcs : ∀ ρ2, (∀ n, whileL t b (n + 1) c ρ = whileL t b n c ρ2) → sWhile t b c ρ = sWhile t b c ρ2 := fun ρ2 h => by
        by_cases z : sWhile t b c ρ2 = .bad
        · rw [z]
          refine nb fun n => ?_
          rw [h]
          by_cases y : whileL t b n c ρ2 = .bad
          · exact y
          · rw [sWhile_of rfl y] at z; exact z
        · obtain ⟨n, hn⟩ := sWhile_ex z
          exact sWhile_of (n := n + 1) (by rw [h, hn]) z
      cases q2 : b c ρ1 with
      | bad => exact nb fun n => by rw [one, q]; dsimp only; rw [q2]
      | exc x ρ' => exact sWhile_of (n := 1) (by rw [one, q]; dsimp only; rw [q2]) (fun z => nomatch z)
      | ok f ρ2 =>
        cases f with
        | nx => exact rcs ρ2 fun n => by rw [one, q]; dsimp only; rw [q2]
        | cont => exact rcs ρ2 fun n => by rw [one, q]; dsimp only; rw [q2]
        | brk => exact sWhile_of (n := 1) (by rw [one, q]; dsimp only; rw [q2]) (fun z => nomatch z)
        | ret d => exact sWhile_of (n := 1) (by rw [one, q]; dsimp only; rw [q2]) (fun z => nomatch z)
theorem while_fin {t : M Bool} {b : M Fl} (h : RS g c (sWhile t b) Dn σ H) : tWhile (RT g c t) (RS g c b) Dn σ H := by
  obtain ⟨Av, ρ, φ, e, h⟩ := rs_post.mp h
  have hb : sWhile t b c ρ ≠ .bad := fun z => by rw [z] at h; exact h
  obtain ⟨n, hn⟩ := sWhile_ex hb
  rw [← hn] at h
  let W' : Nat → St → Hp → Prop := fun m σ' H' => ∃ Av' ρ' φ', EnvR g.K Av' H' σ' ρ' φ' ∧ Step c.lock Av Av' H H' φ φ' ∧ (∀ i, i ∈ c.prot ∨ i ∈ c.lock → σ'[i]? = σ[i]?) ∧ Post g c Av H φ σ Dn (whileL t b m c ρ')
  refine ⟨W', ⟨n, Av, ρ, φ, e, Step.refl, fun _ _ => rfl, h⟩, ?_⟩
  rintro m σ1 H1 ⟨Av1, ρ1, φ1, e1, st1, hp1, h1⟩
  cases m with
  | zero => exact h1.elim
  | succ m =>
    rw [whileL] at h1
    dsimp only at h1
    refine ⟨Av1, ρ1, φ1, e1, ?_⟩
    cases q : t c ρ1 with
    | bad => rw [q] at h1; exact h1
    | exc x ρ' =>
      rw [q] at h1
      exact fun cls y σ' H' Av' φ' e' xr' st' hp' => h1 cls y σ' H' Av' φ' e' xr' (st1.trans st' e.ok) fun i hi => (hp' i hi).trans (hp1 i hi)
    | ok f ρ2 =>
      rw [q] at h1
      intro H2 Av2 φ2 e2 st2
      have st12 := st1.trans st2 e.ok
      cases f with
      | false =>
        rw [if_neg Bool.false_ne_true]
        exact h1 σ1 H2 Av2 φ2 e2 st12 hp1
      | true =>
        rw [if_pos rfl]
        dsimp only at h1
        refine ⟨W' m, fun σ' H' w => ⟨m, Nat.lt_succ_self m, w⟩, rs_post.mpr ⟨Av2, ρ2, φ2, e2, ?_⟩⟩
        cases q3 : b c ρ2 with
        | bad => rw [q3] at h1; exact h1
        | exc x ρ' =>
          rw [q3] at h1
          exact fun cls y σ' H' Av' φ' e' xr' st' hp' => h1 cls y σ' H' Av' φ' e' xr' (st12.trans st' e.ok) fun i hi => (hp' i hi).trans (hp1 i hi)
        | ok f ρ5 =>
          rw [q3] at h1
          cases f with
          | nx => exact fun σ' H' Av' φ' e' st' hp' => ⟨Av', ρ5, φ', e', st12.trans st' e.ok, fun i hi => (hp' i hi).trans (hp1 i hi), h1⟩
          | cont => exact fun σ' H' Av' φ' e' st' hp' => ⟨Av', ρ5, φ', e', st12.trans st' e.ok, fun i hi => (hp' i hi).trans (hp1 i hi), h1⟩
          | brk => exact fun σ' H' Av' φ' e' st' hp' => h1 σ' H' Av' φ' e' (st12.trans st' e.ok) fun i hi => (hp' i hi).trans (hp1 i hi)
          | ret d => exact fun v σ' H' Av' φ' G e' r ap st' og hp' => h1 v σ' H' Av' φ' G e' r ap (st12.trans st' e.ok) (og.step st12) fun i hi => (hp' i hi).trans (hp1 i hi)
theorem st_while {ex : Expr} {body : List Stmt} {t : M Bool} {b : M Fl} (ht : PT X ex (RT (Cx.gd X W xr) c t)) (hb : PSs X body (RS (Cx.gd X W xr) c b)) (hp : PassesOwn (model X.prog X.w) X.A X.env X.xe) :
    PS X (.While ex body [] pos) (RS (Cx.gd X W xr) c (sWhile t b)) := PS.weak (ps_while hp ht hb) fun _ _ _ h => while_fin h
end
end Y

end
section
set_option Elab.async false
set_option linter.all false
set_option maxRecDepth 100000
set_option autoImplicit false
/-! Y12: list comprehensions. -/
namespace Y
open PySem L2

/-- slots forgotten -/
def wipeA {α : Type} (l : List (Option α)) : List Nat → List (Option α)
  | [] => l
  | v :: vs => (wipeA l vs).set v none
theorem wipe_A (σ : St) : ∀ vs, wipe σ vs = wipeA σ vs
  | [] => rfl
  | v :: vs => by show (wipe σ vs).set v none = _; rw [wipe_A σ vs]; rfl
theorem wipeA_len {α : Type} (l : List (Option α)) : ∀ vs, (wipeA l vs).length = l.length
  | [] => rfl
  | v :: vs => by show ((wipeA l vs).set v none).length = _; rw [List.length_set, wipeA_len l vs]
theorem wipeA_ne {α : Type} {l : List (Option α)} {i : Nat} : ∀ {vs}, i ∉ vs → (wipeA l vs)[i]? = l[i]?
  | [], _ => rfl
  | v :: vs, h => by
    show ((wipeA l vs).set v none)[i]? = _
    rw [List.getElem?_set_ne (fun z => h (by rw [z]; exact List.mem_cons_self)), wipeA_ne fun z => h (List.mem_cons_of_mem _ z)]
theorem wipeA_in {α : Type} {l : List (Option α)} {i : Nat} : ∀ {vs}, i ∈ vs → (wipeA l vs)[i]? = if i < l.length then some none else none
  | v :: vs, h => by
    show ((wipeA l vs).set v none)[i]? = _
    by_cases z : v = i
    · subst z
      by_cases y : v < l.length
      · rw [List.getElem?_set_self (by rw [wipeA_len]; exact y), if_pos y]
      · rw [List.getElem?_eq_none (by rw [List.length_set, wipeA_len]; omega), if_neg y]
    · rw [List.getElem?_set_ne z]
      exact wipeA_in ((List.mem_cons.mp h).resolve_left fun y => z y.symm)
theorem wipeA_some {α : Type} {l : List (Option α)} {i : Nat} {vs : List Nat} {x : α} (h : (wipeA l vs)[i]? = some (some x)) : i ∉ vs ∧ l[i]? = some (some x) := by
  by_cases z : i ∈ vs
  · rw [wipeA_in z] at h
    split at h <;> cases h
  · rw [wipeA_ne z] at h; exact ⟨z, h⟩
theorem wipeA_eq {α : Type} {l l' : List (Option α)} {vs : List Nat} (hl : l.length = l'.length) (h : ∀ i, i ∉ vs → l[i]? = l'[i]?) : wipeA l vs = wipeA l' vs := by
  refine List.ext_getElem? fun i => ?_
  by_cases z : i ∈ vs
  · rw [wipeA_in z, wipeA_in z, hl]
  · rw [wipeA_ne z, wipeA_ne z]; exact h i z
/-- slots as they were -/
def rest (ρ ρ0 : Env) : List Nat → Env
  | [] => ρ
  | v :: vs => (rest ρ ρ0 vs).set v (match ρ0[v]? with | some o => o | none => none)
theorem rest_len (ρ ρ0 : Env) : ∀ vs, (rest ρ ρ0 vs).length = ρ.length
  | [] => rfl
  | v :: vs => by show ((rest ρ ρ0 vs).set v _).length = _; rw [List.length_set, rest_len ρ ρ0 vs]
theorem rest_ne {ρ ρ0 : Env} {i : Nat} : ∀ {vs}, i ∉ vs → (rest ρ ρ0 vs)[i]? = ρ[i]?
  | [], _ => rfl
  | v :: vs, h => by
    show ((rest ρ ρ0 vs).set v _)[i]? = _
    rw [List.getElem?_set_ne (fun z => h (by rw [z]; exact List.mem_cons_self)), rest_ne fun z => h (List.mem_cons_of_mem _ z)]
theorem rest_in {ρ ρ0 : Env} {i : Nat} {d : D} : ∀ {vs}, i ∈ vs → (rest ρ ρ0 vs)[i]? = some (some d) → ρ0[i]? = some (some d)
  | v :: vs, h, e => by
    have e : ((rest ρ ρ0 vs).set v (match ρ0[v]? with | some o => o | none => none))[i]? = some (some d) := e
    by_cases z : v = i
    · subst z
      by_cases y : v < (rest ρ ρ0 vs).length
      · rw [List.getElem?_set_self y] at e
        cases q : ρ0[v]? with
        | none => rw [q] at e; cases e
        | some o => rw [q] at e; exact e
      · rw [List.getElem?_eq_none (by rw [List.length_set]; omega)] at e; cases e
    · rw [List.getElem?_set_ne z] at e
      exact rest_in ((List.mem_cons.mp h).resolve_left fun y => z y.symm) e

/-- targets keep the number of slots -/
def LenT (t : D → M Unit) : Prop := ∀ d c ρ u ρ', t d c ρ = .ok u ρ' → ρ'.length = ρ.length
def LenTs (t : List D → M Unit) : Prop := ∀ d c ρ u ρ', t d c ρ = .ok u ρ' → ρ'.length = ρ.length
theorem len_set {i : Nat} : LenT (setS i) := fun d c ρ u ρ' h => by
  unfold setS at h
  split at h
  · cases h; rw [List.length_set]
  · cases h
theorem len_nil : LenTs tgNil := fun ds c ρ u ρ' h => by
  cases ds with
  | nil => cases h; rfl
  | cons _ _ => cases h
theorem len_cons {m : D → M Unit} {ms : List D → M Unit} (h1 : LenT m) (h2 : LenTs ms) : LenTs (tgCons m ms) := fun ds c ρ u ρ' h => by
  cases ds with
  | nil => cases h
  | cons d ds =>
    obtain ⟨_, ρ1, q, h⟩ := bnd_ok (m := m d) h
    rw [h2 _ _ _ _ _ h, h1 _ _ _ _ _ q]
theorem len_tup {n : Nat} {ms : List D → M Unit} (h : LenTs ms) : LenT (tgTup n ms) := fun d c ρ u ρ' e => by
  unfold tgTup at e
  split at e
  · split at e
    · exact h _ _ _ _ _ e
    · cases e
  · cases e

def compL (vs : List Nat) (t : D → M Unit) (tt : M Bool) (te : M D) : List D → M (List D)
  | [] => pur []
  | d :: ds => fun c ρ => match t d c (wipeA ρ vs) with
    | .ok _ ρ1 => match tt c ρ1 with
      | .ok true ρ2 => match te c ρ2 with
        | .ok y ρ3 => match compL vs t tt te ds c ρ3 with
          | .ok ys ρ4 => .ok (y :: ys) ρ4
          | _ => .bad
        | _ => .bad
      | .ok false ρ2 => compL vs t tt te ds c ρ2
      | _ => .bad
    | _ => .bad
def cold (vs : List Nat) (ρ : Env) : Bool := vs.all fun v => match ρ[v]? with | some (some d) => !isOwn d | _ => true
def protC (n : Nat) (vs : List Nat) : List Nat := (List.range n).filter fun i => !vs.contains i
def mComp (mi : M Sr) (vs : List Nat) (t : D → M Unit) (tt : M Bool) (te : M D) : M D := bnd mi fun p => fun c ρ =>
  if cold vs ρ = true then match compL vs t tt te p.1 ⟨protC ρ.length vs, p.2 ++ c.lock⟩ ρ with
    | .ok ys ρ' => if ys.length ≤ LN then .ok (.lst true ys) (rest ρ' ρ vs) else .bad
    | _ => .bad
  else .bad
/-- no test -/
def tAll : M Bool := pur true

abbrev W0 : WX := fun _ _ _ _ => False

section
variable {X : Cx} {W : WX} {xr : (Addr → Prop) → Hp → D → Value → Option Addr → Prop} {c : Ctx} {pos : Pos} {g : Gd}
variable {K : PySem.W.Frag} {Av Av0 Av1 Av2 Av' : Addr → Prop} {H H0 H1 H2 H' : Hp} {φ φ0 φ1 φ2 φ' : Nat → List Addr} {lock lock' : List Nat} {σ σ1 σ' : St} {ρ ρ' : Env} {F F' G : List Addr} {v : V} {d : D} {vs vs' : List V} {ds ds' : List D} {Dn : Ends} {L : Addr} {acc : List V}

/-- a list under way, beside the slots -/
structure Held (K : PySem.W.Frag) (Av : Addr → Prop) (H : Hp) (φ : Nat → List Addr) (L : Addr) (acc : List V) (F : List Addr) (ds : List D) : Prop where
  at_ : H L = some (.lst acc)
  av : Av L
  rep : RepL K Av H F acc ds
  out : L ∉ F
  nd : F.Nodup
  ap : Apart (L :: F) φ
theorem Held.there (h : Held K Av H φ L acc F ds) (ok : AvOk Av H) : ∀ x ∈ L :: F, H x ≠ none := fun x hx => by
  rcases List.mem_cons.mp hx with z | z
  · subst z; rw [h.at_]; exact fun y => nomatch y
  · exact h.rep.there ok x z
theorem Held.step (h : Held K Av H φ L acc F ds) (e : EnvR K Av H σ ρ φ) (st : Step lock Av Av' H H' φ φ') : Held K Av' H' φ' L acc F ds where
  at_ := st.keep _ _ h.at_ fun i _ z => h.ap L List.mem_cons_self i z
  av := st.own _ h.av fun i z => h.ap L List.mem_cons_self i z
  rep := h.rep.step st e fun a ha i z => h.ap a (List.mem_cons_of_mem _ ha) i z
  out := h.out
  nd := h.nd
  ap := h.ap.step st (h.there e.ok)
/-- a calm store of what owns nothing is a step -/
theorem Calm.step (h : Calm Av Av' H H' φ φ' []) : Step [] Av Av' H H' φ φ' where
  keep := fun a o ha n => h.keep.keep a o ha fun z => z.elim (fun ⟨i, y⟩ => n i (by simp) y) fun y => nomatch y
  there := h.there
  av := h.keep.av
  own := fun a ha n => h.keep.own a ha fun z => z.elim (fun ⟨i, y⟩ => n i y) fun y => nomatch y
  org := fun i a ha => .inr ⟨by simp, by
    rcases h.org i a ha with (⟨j, y⟩ | y) | y
    · exact .inl ⟨j, by simp, y⟩
    · cases y
    · exact .inr y⟩
theorem Step.sub (st : Step lock Av Av' H H' φ φ') (h : ∀ i a, a ∈ φ2 i → a ∈ φ' i) : Step lock Av Av' H H' φ φ2 := ⟨st.keep, st.there, st.av, st.own, fun i a ha => st.org i a (h i a ha)⟩
/-- slots forgotten -/
theorem EnvR.wipe {ws : List Nat} (e : EnvR K Av H σ1 ρ φ) (hl : σ.length = σ1.length) (h : ∀ i, i ∉ ws → σ1[i]? = (wipeA σ ws)[i]?) : EnvR K Av H (wipeA σ ws) (wipeA ρ ws) (fun j => if j ∈ ws then [] else φ j) where
  len := by rw [wipeA_len, wipeA_len, hl]; exact e.len
  rep := fun i d hi => by
    obtain ⟨n, hi⟩ := wipeA_some hi
    obtain ⟨v, h1, h2⟩ := e.rep i d hi
    rw [h i n] at h1
    exact ⟨v, h1, by rw [if_neg n]; exact h2⟩
  emp := fun i hi => by
    by_cases z : i ∈ ws
    · exact if_pos z
    · refine (if_neg z).trans (e.emp i fun d y => hi d ?_)
      rw [wipeA_ne z]; exact y
  dis := fun i j a h1 h2 => by
    have m : ∀ j, a ∈ (if j ∈ ws then [] else φ j) → a ∈ φ j := fun j h => by
      by_cases q : j ∈ ws
      · rw [if_pos q] at h; cases h
      · rw [if_neg q] at h; exact h
    exact e.dis i j a (m i h1) (m j h2)
  ok := e.ok
theorem wipe_sub {ws : List Nat} {i : Nat} {a : Addr} (h : a ∈ (fun j => if j ∈ ws then [] else φ j) i) : a ∈ φ i := by
  dsimp only at h
  split at h
  · cases h
  · exact h
theorem protC_mem {n i : Nat} {ws : List Nat} (h1 : i < n) (h2 : i ∉ ws) : i ∈ protC n ws := by
  unfold protC
  rw [List.mem_filter]
  exact ⟨List.mem_range.mpr h1, by simpa using h2⟩
theorem cold_at {ws : List Nat} (h : cold ws ρ = true) {i : Nat} (hi : i ∈ ws) (hd : ρ[i]? = some (some d)) : isOwn d = false := by
  have := List.all_eq_true.mp h i hi
  rw [hd] at this
  simpa using this
theorem lc_fin {mi : M Sr} {ws : List Nat} {t : D → M Unit} {tt : M Bool} {te : M D} {Q : VK} (hlt : LenT t) (h : RE g c (mComp mi ws t tt te) σ H Q) :
    tLc (RI g c mi) (fun v σ H Q => ∃ c, RG ⟨g.K, W0, g.xr⟩ c t v σ H Q) (fun σ H Q => ∃ c, RT ⟨g.K, W0, g.xr⟩ c tt σ H Q) (fun σ H Q => ∃ c, RE ⟨g.K, W0, g.xr⟩ c te σ H Q) ws σ H Q := by
  obtain ⟨Av, ρ, φ, e, h⟩ := h
  refine ⟨Av, ρ, φ, e, ?_⟩
  unfold mComp at h
  cases q : mi c ρ with
  | bad => simp only [bnd, q] at h
  | exc x ρ' => simp only [bnd, q] at h; exact h
  | ok p ρ1 =>
    simp only [bnd, q] at h
    intro J H1 Av1 φ1 G own ok e1 src hok ho hG ap1 st1 og1 L hL
    by_cases hc : cold ws ρ1 = true
    case neg => rw [if_neg hc] at h; exact h.elim
    rw [if_pos hc] at h
    obtain ⟨c2, hc2⟩ : ∃ c2 : Ctx, c2 = ⟨protC ρ1.length ws, p.2 ++ c.lock⟩ := ⟨_, rfl⟩
    rw [← hc2] at h
    have hll : ∀ i ∈ c.lock, i ∈ c2.lock := fun i hi => by rw [hc2]; exact List.mem_append_right _ hi
    have hls : ∀ i ∈ p.2, i ∈ c2.lock := fun i hi => by rw [hc2]; exact List.mem_append_left _ hi
    cases q1 : compL ws t tt te p.1 c2 ρ1 with
    | bad => simp only [q1] at h
    | exc x ρ' => simp only [q1] at h
    | ok ys ρ9 =>
      simp only [q1] at h
      by_cases hy : ys.length ≤ LN
      case neg => rw [if_neg hy] at h; exact h.elim
      rw [if_pos hy] at h
      rw [wipe_A]
      let W' : Nat → Hp → Prop := fun i H' => i ≤ p.1.length ∧ ∃ Av' ρ' φ' acc da F yr, EnvR g.K Av' H' (wipeA σ ws) (wipeA ρ' ws) φ' ∧ ρ'.length = ρ1.length ∧ Step c2.lock Av1 Av' H1 H' φ1 φ' ∧ Held g.K Av' H' φ' L acc F da ∧ OrgG c2.lock H1 φ1 F ∧
        compL ws t tt te (p.1.drop i) c2 ρ' = .ok yr ρ9 ∧ ys = da ++ yr
      have gr0 := Grow.lst e1.ok hL []
      have e1' := (e1.grow gr0).wipe (ws := ws) (σ := σ) rfl fun i hi => (wipeA_ne hi).symm
      have st0 : Step c2.lock Av1 _ H1 _ φ1 _ := (gr0.step (φ := φ1) (lock := c2.lock)).sub (φ2 := fun j => if j ∈ ws then [] else φ1 j) fun i a ha => wipe_sub ha
      have held0 : Held g.K (fun a => Av1 a ∨ a = L) (upd H1 L (.lst [])) (fun j => if j ∈ ws then [] else φ1 j) L [] [] [] := ⟨upd_same, .inr rfl, .nil, by simp, .nil, fun a ha i z => by
        have ea : a = L := by simpa using ha
        subst ea
        exact e1.there (wipe_sub z) hL⟩
      refine ⟨fun i m H' => m = p.1.length - i ∧ W' i H', ⟨_, rfl, Nat.zero_le _, _, ρ1, _, [], [], [], ys, e1', rfl, st0, held0, OrgG.nil, q1, rfl⟩, ?_⟩
      rintro i m H2 ⟨rfl, hi, Av2, ρ2, φ2, acc, da, F, yr, e2, len2, st2, held2, og2, comp2, hys⟩
      have hok2 := src.still hok e1 ho ap1 st2 hls
      by_cases hlt2 : i < p.1.length
      · obtain ⟨d, hd'⟩ : ∃ d, p.1[i]? = some d := ⟨_, List.getElem?_eq_getElem hlt2⟩
        have hdrop : p.1.drop i = d :: p.1.drop (i + 1) := by
          rw [List.getElem?_eq_getElem hlt2] at hd'
          cases hd'
          exact List.drop_eq_getElem_cons hlt2
        obtain ⟨go, yl⟩ := src.go Av2 H2 i d hok2 e2.ok hd'
        refine .inr ⟨go, W' (i + 1), fun H' w => ⟨p.1.length - (i + 1), by omega, rfl, w⟩, fun x H3 hyl => ?_⟩
        obtain ⟨gr, rx⟩ := yl x H3 hyl
        rw [hdrop] at comp2
        refine ⟨c2, Av1, H1, φ1, Av2, wipeA ρ2 ws, φ2, d, [], e1.ok, st2.trans gr.step e1.ok, OrgG.nil, e2.grow gr, rx, Apart.nil, ?_⟩
        have held3 := held2.step e2 (gr.step (lock := []) (φ := φ2))
        have e3 := e2.grow gr
        cases q3 : t d c2 (wipeA ρ2 ws) with
        | bad => simp only [compL, q3] at comp2; cases comp2
        | exc x ρ' => simp only [compL, q3] at comp2; cases comp2
        | ok u ρ3 =>
          simp only [compL, q3] at comp2
          intro σ4 H4 Av4 φ4 e4 st4 calm4 hp4
          have held4 := held3.step e3 calm4.step
          have len3 : ρ3.length = ρ1.length := by rw [hlt _ _ _ _ _ q3, wipeA_len, len2]
          have lenσ : σ4.length = σ.length := by rw [e4.len, len3, ← e1.len]
          have hpσ : ∀ i, i ∉ ws → σ4[i]? = (wipeA σ ws)[i]? := fun i hi => by
            by_cases z : i < ρ1.length
            · exact hp4 i (.inl (by rw [hc2]; exact protC_mem z hi))
            · rw [List.getElem?_eq_none (by rw [e4.len, len3]; omega), List.getElem?_eq_none (by rw [wipeA_len, e1.len]; omega)]
          refine ⟨?_, c2, Av4, ρ3, φ4, e4, ?_⟩
          · rw [wipe_A]
            exact wipeA_eq lenσ fun i hi => by rw [hpσ i hi, wipeA_ne hi]
          cases q4 : tt c2 ρ3 with
          | bad => simp only [q4] at comp2; cases comp2
          | exc x ρ' => simp only [q4] at comp2; cases comp2
          | ok b ρ4 =>
            intro H5 Av5 φ5 e5 st5
            have held5 := held4.step e4 st5
            have st15 := st4.trans st5 e1.ok
            have len4 : ρ4.length = ρ1.length := by rw [← e5.len, e4.len, len3]
            cases b with
            | false =>
              simp only [q4] at comp2
              rw [if_neg Bool.false_ne_true]
              have e6 := e5.wipe (ws := ws) (σ := σ) lenσ.symm hpσ
              have st6 := st15.sub (φ2 := fun j => if j ∈ ws then [] else φ5 j) fun i a ha => wipe_sub ha
              exact ⟨hlt2, Av5, ρ4, _, acc, da, F, yr, e6, len4, st6, ⟨held5.at_, held5.av, held5.rep, held5.out, held5.nd, fun a ha i z => held5.ap a ha i (wipe_sub z)⟩, og2, comp2, hys⟩
            | true =>
              simp only [q4] at comp2
              rw [if_pos rfl]
              refine ⟨c2, Av5, ρ4, φ5, e5, ?_⟩
              cases q5 : te c2 ρ4 with
              | bad => simp only [q5] at comp2; cases comp2
              | exc x ρ' => simp only [q5] at comp2; cases comp2
              | ok y ρ5 =>
                simp only [q5] at comp2
                cases q6 : compL ws t tt te (p.1.drop (i + 1)) c2 ρ5 with
                | bad => simp only [q6] at comp2; cases comp2
                | exc x ρ' => simp only [q6] at comp2; cases comp2
                | ok yr' ρ6 =>
                  simp only [q6] at comp2
                  cases comp2
                  intro w H6 Av6 φ6 G6 e6 r6 ap6 st6 og6
                  have held6 := held5.step e5 st6
                  have st16 := st15.trans st6 e1.ok
                  have len5 : ρ5.length = ρ1.length := by rw [← e6.len, e5.len, len4]
                  have hal : acc.length < sizeLine := by
                    rw [held6.rep.length, ← ln_line]
                    rw [hys, List.length_append, List.length_cons] at hy
                    omega
                  refine ⟨acc, held6.at_, hal, ?_⟩
                  have e7 := e6.wipe (ws := ws) (σ := σ) lenσ.symm hpσ
                  have kp : Keep Av6 Av6 H6 (upd H6 L (.lst (acc ++ [w]))) (fun a => a = L) := ⟨fun a o h n => by rw [upd_ne n]; exact h, fun a h => .inl h, fun a h _ => h⟩
                  have hT : ∀ a, a = L → Av6 a := fun a h => h ▸ held6.av
                  have nG : ∀ a ∈ G6, a ∉ L :: F := fun a ha z => by
                    rcases og6 a ha with ⟨j, _, y⟩ | y
                    · exact held5.ap a z j y
                    · exact held5.there e5.ok a z y
                  have nL1 : H1 L = none := hL
                  refine ⟨hlt2, Av6, ρ5, fun j => if j ∈ ws then [] else φ6 j, acc ++ [w], da ++ [y], F ++ G6, yr', ⟨e7.len, fun i d hi => ?_, e7.emp, e7.dis, fun a ha => ?_⟩, len5, ⟨fun a o ha n => ?_, fun a ha => ?_, st16.av, st16.own, fun i a ha => st16.org i a (wipe_sub ha)⟩, ⟨upd_same, held6.av, ?_, ?_, ?_, ?_⟩, ?_, q6, ?_⟩
                  · obtain ⟨v, h1, h2⟩ := e7.rep i d hi
                    exact ⟨v, h1, h2.keep e6.ok hT kp fun a ha z => held6.ap L List.mem_cons_self i (wipe_sub (z ▸ ha))⟩
                  · obtain ⟨o, eo, m⟩ := e6.ok a ha
                    by_cases z : a = L
                    · subst z; exact ⟨_, upd_same, trivial⟩
                    · exact ⟨o, by rw [upd_ne z]; exact eo, m⟩
                  · rw [upd_ne fun z => by rw [z, nL1] at ha; cases ha]
                    exact st16.keep a o ha n
                  · by_cases z : a = L
                    · subst z; rw [upd_same]; exact fun q => nomatch q
                    · rw [upd_ne z]; exact st16.there a ha
                  · exact ((held6.rep.keep e6.ok hT kp fun a ha z => held6.out (z ▸ ha)).app (RepL.one (r6.keep e6.ok hT kp fun a ha z => nG a ha (z ▸ List.mem_cons_self))))
                  · exact fun z => (List.mem_append.mp z).elim held6.out fun y => nG L y List.mem_cons_self
                  · exact List.nodup_append.mpr ⟨held6.nd, r6.nodup, fun a ha b hb z => nG b hb (z ▸ List.mem_cons_of_mem _ ha)⟩
                  · intro a ha i z
                    rcases List.mem_cons.mp ha with y | y
                    · exact held6.ap a (y ▸ List.mem_cons_self) i (wipe_sub z)
                    · rcases List.mem_append.mp y with y | y
                      · exact held6.ap a (List.mem_cons_of_mem _ y) i (wipe_sub z)
                      · exact ap6 a y i (wipe_sub z)
                  · intro a ha
                    rcases List.mem_append.mp ha with y | y
                    · exact og2 a y
                    · exact og6.step st15 a y
                  · rw [hys]; simp
      · have hi' : i = p.1.length := by omega
        subst hi'
        rw [List.drop_length] at comp2
        have comp2 : Rs.ok [] ρ2 = Rs.ok yr ρ9 := comp2
        cases comp2
        rw [List.append_nil] at hys
        subst hys
        refine .inl ⟨src.stop Av2 H2 hok2, h (.ref L) H2 Av2 φ2 (L :: F) ⟨?_, fun i d hi => ?_, fun i hi => ?_, e2.dis, e2.ok⟩ (.lstO held2.at_ held2.av held2.rep held2.out held2.nd) held2.ap (st1.trans (st2.mono hll) e.ok) fun a ha => ?_⟩
        · rw [rest_len, len2]; exact e1.len
        · by_cases z : i ∈ ws
          · have hi := rest_in z hi
            obtain ⟨v, h1, h2⟩ := e1.rep i d hi
            have ei : φ2 i = [] := e2.emp i fun d y => (wipeA_some y).1 z
            rw [own_nil (cold_at hc z hi) h2] at h2
            rw [ei]
            exact ⟨v, h1, h2.step st2 e1 Apart.nil⟩
          · rw [rest_ne z] at hi
            obtain ⟨v, h1, h2⟩ := e2.rep i d (by rw [wipeA_ne z]; exact hi)
            rw [wipeA_ne z] at h1
            exact ⟨v, h1, h2⟩
        · refine e2.emp i fun d y => ?_
          obtain ⟨z, y⟩ := wipeA_some y
          exact hi d (by rw [rest_ne z]; exact y)
        · rcases List.mem_cons.mp ha with y | y
          · subst y
            by_cases z : H a = none
            · exact .inr z
            · exact absurd hL (st1.there a z)
          · exact (og2.mono hll).step st1 a y

theorem ts_nil {X' : Cx} {W : WX} : PTs X' [] (RT (Cx.gd X' W xr) c tAll) := ⟨fun pins s σ H Q I ⟨Av, ρ, φ, e, h⟩ => pts_nil.run pins s σ H Q I (h H Av φ e Step.refl)⟩
theorem ts_one {X' : Cx} {W : WX} {a : Expr} {m : M Bool} (h : PT X' a (RT (Cx.gd X' W xr) c m)) : PTs X' [a] (RT (Cx.gd X' W xr) c m) := pts_one h
theorem s_lc {elt tg iter : Expr} {ifs : List Expr} {scope : Scope} {own : List (Str × Nat)} {mi : M Sr} {t : D → M Unit} {tt : M Bool} {te : M D} (hlt : LenT t) (hi : PI X tg iter (RI (Cx.gd X W xr) c mi)) (ok : BlkOk X.N X.env.scope scope own)
    (hg : ∀ (s : Shared) (H : Hp) (C : Addr) (cl : List (Str × Addr)) (fp : List Addr) c, PG (X.blk s H scope (compEnvC scope cl C X.env) fp) tg (RG (Cx.gd (X.blk s H scope (compEnvC scope cl C X.env) fp) W0 xr) c t))
    (ht : ∀ (s : Shared) (H : Hp) (C : Addr) (cl : List (Str × Addr)) (fp : List Addr) c, PTs (X.blk s H scope (compEnvC scope cl C X.env) fp) ifs (RT (Cx.gd (X.blk s H scope (compEnvC scope cl C X.env) fp) W0 xr) c tt))
    (he : ∀ (s : Shared) (H : Hp) (C : Addr) (cl : List (Str × Addr)) (fp : List Addr) c, PE (X.blk s H scope (compEnvC scope cl C X.env) fp) elt (RE (Cx.gd (X.blk s H scope (compEnvC scope cl C X.env) fp) W0 xr) c te))
    (hc : X.calm = true) (hN : X.N.Nodup) (hs : ∀ x, foldedSetIterable iter X.env x = pure x := by intro _; rfl) :
    PE X (.ListComp elt [⟨tg, iter, ifs, 0⟩] scope pos) (RE (Cx.gd X W xr) c (mComp mi (own.map (·.2)) t tt te)) :=
  PE.weak (pe_lc hc hN hi ok (fun s H C cl fp => PG.exC (hg s H C cl fp)) (fun s H C cl fp => PTs.exC (ht s H C cl fp)) (fun s H C cl fp => PE.exC (he s H C cl fp)) hs) fun _ _ _ h => lc_fin hlt h
theorem st_setLc {i : Nat} {y : Str} {py spos : Pos} {elt tg iter : Expr} {ifs : List Expr} {scope : Scope} {own : List (Str × Nat)} {mi : M Sr} {t : D → M Unit} {tt : M Bool} {te : M D} (hy : X.N[i]? = some y) (hyl : X.env.scope.names.lookup y = some .local)
    (hsw : swapsWith (.ListComp elt [⟨tg, iter, ifs, 0⟩] scope pos) (some (.Name y py)) spos.line X.env = pure true) (hlt : LenT t) (hi : PI X tg iter (RI (Cx.gd X W xr) c mi)) (ok : BlkOk X.N X.env.scope scope own)
    (hg : ∀ (s : Shared) (H : Hp) (C : Addr) (cl : List (Str × Addr)) (fp : List Addr) c, PG (X.blk s H scope (compEnvC scope cl C X.env) fp) tg (RG (Cx.gd (X.blk s H scope (compEnvC scope cl C X.env) fp) W0 xr) c t))
    (ht : ∀ (s : Shared) (H : Hp) (C : Addr) (cl : List (Str × Addr)) (fp : List Addr) c, PTs (X.blk s H scope (compEnvC scope cl C X.env) fp) ifs (RT (Cx.gd (X.blk s H scope (compEnvC scope cl C X.env) fp) W0 xr) c tt))
    (he : ∀ (s : Shared) (H : Hp) (C : Addr) (cl : List (Str × Addr)) (fp : List Addr) c, PE (X.blk s H scope (compEnvC scope cl C X.env) fp) elt (RE (Cx.gd (X.blk s H scope (compEnvC scope cl C X.env) fp) W0 xr) c te))
    (hc : X.calm = true) (hN : X.N.Nodup) (hs : ∀ x, foldedSetIterable iter X.env x = pure x := by intro _; rfl) :
    PS X (.Assign [.Name y py] (.ListComp elt [⟨tg, iter, ifs, 0⟩] scope pos) spos) (RS (Cx.gd X W xr) c (sSet (setS i) (mComp mi (own.map (·.2)) t tt te))) :=
  PS.weak (ps_setLc hc hN hy hyl hsw hi ok (fun s H C cl fp => PG.exC (hg s H C cl fp)) (fun s H C cl fp => PTs.exC (ht s H C cl fp)) (fun s H C cl fp => PE.exC (he s H C cl fp)) hs) fun Dn σ H h => by
    refine lc_fin (tt := tt) (te := te) hlt ?_
    exact he_mono (rs_asg h) fun _ _ q => gname_of q
end
end Y

end
section
set_option Elab.async false
set_option linter.all false
set_option maxRecDepth 100000
set_option autoImplicit false
/-! Y13: zip and enumerate over lists, tuples, texts; range. -/
namespace Y
open PySem L2

/-- what can be drawn from -/
inductive Cmp where
  | l (a : Addr) | t (a : Addr) | s (x : Str)
def Cmp.items (K : PySem.W.Frag) : Cmp → Hp → List V → Prop
  | .l a, H, xs => SqL K H a xs
  | .t a, H, xs => SqT K H a xs
  | .s x, _, xs => xs = x.cps.toList.map fun c => V.str ⟨#[c]⟩
def Cmp.st : Cmp → Addr → Nat → Heap → Prop
  | .l a, it, i, h => h.IsListIter it a i
  | .t a, it, i, h => h.IsTupleIter it a i
  | .s x, it, i, h => ∃ t, h.IsStrIter it (strIterType x) x t i
def Cmp.of : Cmp → V → Prop
  | .l a, v => v = .ref a
  | .t a, v => v = .ref a
  | .s x, v => v = .str x
theorem Cmp.st_at {C : Cmp} {it : Addr} {i : Nat} {h h' : Heap} (x : C.st it i h) (e : ∀ o, h.get? it = some o → h'.get? it = some o) : C.st it i h' := by
  cases C with
  | l a => obtain ⟨o, q, r⟩ := x; exact ⟨o, e o q, r⟩
  | t a => obtain ⟨o, q, r⟩ := x; exact ⟨o, e o q, r⟩
  | s y => obtain ⟨t, o, q, r⟩ := x; exact ⟨t, o, e o q, r⟩
theorem Cmp.st_obj {C : Cmp} {it : Addr} {i : Nat} {h : Heap} (x : C.st it i h) : ∃ o, h.get? it = some o ∧ ∀ v, o.data ≠ .cell v := by
  cases C with
  | l a => obtain ⟨o, q, _, d⟩ := x; exact ⟨o, q, fun v z => by rw [d] at z; cases z⟩
  | t a => obtain ⟨o, q, _, d⟩ := x; exact ⟨o, q, fun v z => by rw [d] at z; cases z⟩
  | s y => obtain ⟨t, o, q, _, d⟩ := x; exact ⟨o, q, fun v z => by rw [d] at z; cases z⟩
section
variable {X : Cx} {pins : List (Addr × Obj)} {σ : L2.St} {H : Hp} {s : Shared}
theorem fp_neK (I : Inv X pins σ H s) {c a : Addr} {o : Obj} (f : FpOk X pins H c) (h : X.K.lookup a = some o) : c ≠ a := by
  rintro rfl
  have hb := I.ok.mod.kin _ _ h
  rcases f.2.2.2.1 with z | z
  · exact I.ok.noex _ _ hb z
  · exact absurd (Nat.lt_of_lt_of_le (Heap.lt_size (I.ok.bs _ _ hb).1) z) (Nat.lt_irrefl _)
theorem fp_neL (I : Inv X pins σ H s) {c a : Addr} {xs : List V} (f : FpOk X pins H c) (h : SqL X.K H a xs) : c ≠ a := by
  rcases h with h | ⟨o, its, n, hk, _⟩
  · rintro rfl
    rcases h with h | ⟨o, h⟩ <;> (rw [f.1] at h; cases h)
  · exact fp_neK I f hk
theorem fp_neT (I : Inv X pins σ H s) {c a : Addr} {xs : List V} (f : FpOk X pins H c) (h : SqT X.K H a xs) : c ≠ a := by
  rcases h with h | ⟨o, its, n, hk, _⟩
  · rintro rfl
    rcases h with h | ⟨o, h⟩ <;> (rw [f.1] at h; cases h)
  · exact fp_neK I f hk
theorem Vals.getR : ∀ {xs : List V} {us : List Value} {i : Nat} {u : Value}, Vals xs us → us[i]? = some u → ∃ x, xs[i]? = some x ∧ RelV x u
  | _, _, _, _, .nil, e => by simp at e
  | _, _, 0, _, .cons r _, e => by simp at e; subst e; exact ⟨_, rfl, r⟩
  | _, _, i + 1, x, .cons _ t, e => by
    obtain ⟨u, h1, h2⟩ := Vals.getR (i := i) t (by simpa using e)
    exact ⟨u, by simpa using h1, h2⟩
theorem chars_get {x : Str} {j c : Nat} (h : x.cps[j]? = some c) : (x.cps.toList.map fun c => V.str ⟨#[c]⟩)[j]? = some (.str ⟨#[c]⟩) := by
  rw [List.getElem?_map]
  have : x.cps.toList[j]? = some c := by simpa using h
  rw [this]; rfl
theorem cmp_drawsA (I : Inv X pins σ H s) {A : Around} (hh : A.handled = none) (C : Cmp) {xs : List V} (hx : C.items X.K H xs) {it : Addr} {i : Nat} (st : C.st it i s.heap) (hn : FpOk X pins H it) :
    ∃ fp n P St, Draws X.prog X.w A it fp n P St ∧ it ∈ fp ∧ (∀ b ∈ fp, b = it ∨ ∀ c, FpOk X pins H c → c ≠ b) ∧ St i s.heap ∧ n = xs.length ∧ (∀ j v, P j v → ∃ x, xs[j]? = some x ∧ RelV x v) ∧ ∀ j h, St j h → C.st it j h := by
  cases C with
  | l a =>
    obtain ⟨its, rv, p, hz⟩ := I.list hx
    refine ⟨_, _, _, _, Draws.list hh it a (fp_neL I hn hx).symm its.toArray, by simp, fun b hb => ?_, ⟨st, p.isList⟩, by rw [rv.length]; simp, fun j v h => ?_, fun j h z => z.1⟩
    · have e' : b = it ∨ b = a := by simpa using hb
      exact e'.imp id fun z c f => by rw [z]; exact fp_neL I f hx
    · obtain ⟨x, h1, h2⟩ := Vals.getR rv (i := j) (u := v) (by simpa using h)
      exact ⟨x, h1, h2⟩
  | t a =>
    obtain ⟨its, rv, p, hz⟩ := I.tuple hx
    refine ⟨_, _, _, _, Draws.tuple hh it a (fp_neT I hn hx).symm its.toArray, by simp, fun b hb => ?_, ⟨st, p⟩, by rw [rv.length]; simp, fun j v h => ?_, fun j h z => z.1⟩
    · have e' : b = it ∨ b = a := by simpa using hb
      exact e'.imp id fun z c f => by rw [z]; exact fp_neT I f hx
    · obtain ⟨x, h1, h2⟩ := Vals.getR rv (i := j) (u := v) (by simpa using h)
      exact ⟨x, h1, h2⟩
  | s y =>
    obtain ⟨t, st⟩ := st
    have hx : xs = y.cps.toList.map fun c => V.str ⟨#[c]⟩ := hx
    subst hx
    refine ⟨_, _, _, _, Draws.text hh it y t, by simp, fun b hb => .inl (by simpa using hb), st, by simp, fun j v h => ?_, fun j h z => ⟨t, z⟩⟩
    obtain ⟨c, u, h1, rfl⟩ := h
    exact ⟨_, chars_get h1, ⟨u, rfl⟩⟩
theorem cmp_draws (I : Inv X pins σ H s) (hc : X.calm = true) (C : Cmp) {xs : List V} (hx : C.items X.K H xs) {it : Addr} {i : Nat} (st : C.st it i s.heap) (hn : FpOk X pins H it) :
    ∃ fp n P St, Draws X.prog X.w X.A.in1 it fp n P St ∧ it ∈ fp ∧ (∀ b ∈ fp, b = it ∨ ∀ c, FpOk X pins H c → c ≠ b) ∧ St i s.heap ∧ n = xs.length ∧ (∀ j v, P j v → ∃ x, xs[j]? = some x ∧ RelV x v) ∧ ∀ j h, St j h → C.st it j h :=
  cmp_drawsA I (A := X.A.in1) (I.ok.hd hc) C hx st hn
theorem Cmp.inj (I : Inv X pins σ H s) {C : Cmp} {xs ys : List V} (h : C.items X.K H xs) (h' : C.items X.K H ys) : xs = ys := by
  cases C with
  | l a => exact I.list_inj h h'
  | t a => exact I.tuple_inj h h'
  | s x => exact h.trans h'.symm
theorem st_lt {C : Cmp} {it : Addr} {i : Nat} (x : C.st it i s.heap) : it < s.heap.objs.size := by
  obtain ⟨o, q, _⟩ := Cmp.st_obj x
  exact Heap.lt_size q
/-- how its iterator begins -/
theorem cmp_begins (I : Inv X pins σ H s) (C : Cmp) {xs : List V} {x : V} {v : Value} (hx : C.items X.K H xs) (hv : C.of x) (r : RelV x v) :
    ∃ o Hh, Begins v o Hh ∧ Hh s.heap ∧ ∀ it h, h.get? it = some o → C.st it 0 h := by
  cases C with
  | l a =>
    obtain rfl : x = .ref a := hv
    cases r
    obtain ⟨its, rv, p, hz⟩ := I.list hx
    exact ⟨_, _, begins_list a its.toArray, p.isList, fun it h e => ⟨_, e, rfl, rfl⟩⟩
  | t a =>
    obtain rfl : x = .ref a := hv
    cases r
    obtain ⟨its, rv, p, hz⟩ := I.tuple hx
    exact ⟨_, _, begins_tuple a its.toArray, p, fun it h e => ⟨_, e, rfl, rfl⟩⟩
  | s y =>
    obtain rfl : x = .str y := hv
    obtain ⟨t, rfl⟩ := r
    exact ⟨_, _, begins_text y t, trivial, fun it h e => ⟨t, _, e, rfl, rfl⟩⟩
end

/-! ### zip of two -/
def ItZ (K : PySem.W.Frag) (c1 c2 : Cmp) : It :=
  ⟨fun i H => ∃ (xs ys : List V), c1.items K H xs ∧ c2.items K H ys ∧ i < xs.length ∧ i < ys.length,
    fun i H v H' => ∃ T x y, v = .ref T ∧ H T = none ∧ H' = upd H T (.tup [x, y]) ∧ (∀ xs, c1.items K H xs → xs[i]? = some x) ∧ ∀ ys, c2.items K H ys → ys[i]? = some y,
    fun i H => ∃ xs ys : List V, c1.items K H xs ∧ c2.items K H ys ∧ i ≤ xs.length ∧ i ≤ ys.length ∧ (i = xs.length ∨ i = ys.length)⟩
structure Far2 (z TI TO i1 i2 : Addr) : Prop where
  TIz : TI ≠ z
  TOz : TO ≠ z
  TITO : TI ≠ TO
  TI1 : TI ≠ i1
  TI2 : TI ≠ i2
  TO1 : TO ≠ i1
  TO2 : TO ≠ i2
  z1 : z ≠ i1
  z2 : z ≠ i2
  i12 : i1 ≠ i2
theorem Far2.sep {X : Cx} {pins : List (Addr × Obj)} {H : Hp} {z TI TO i1 i2 : Addr} {fp1 fp2 : List Addr} (D : Far2 z TI TO i1 i2) (hf : ∀ b ∈ [z, TI, TO, i1, i2], FpOk X pins H b) (m1 : i1 ∈ fp1) (m2 : i2 ∈ fp2)
    (h1 : ∀ b ∈ fp1, b = i1 ∨ ∀ c, FpOk X pins H c → c ≠ b) (h2 : ∀ b ∈ fp2, b = i2 ∨ ∀ c, FpOk X pins H c → c ≠ b) : ZipSep2 z TI TO i1 i2 fp1 fp2 where
  TIz := D.TIz
  TOz := D.TOz
  TITO := D.TITO
  TIi1 := D.TI1
  mem1 := m1
  zf1 := fun hm => (h1 z hm).elim D.z1 fun n => n z (hf z (by simp)) rfl
  Tf1 := fun hm => (h1 TO hm).elim D.TO1 fun n => n TO (hf TO (by simp)) rfl
  TIi2 := D.TI2
  mem2 := m2
  zf2 := fun hm => (h2 z hm).elim D.z2 fun n => n z (hf z (by simp)) rfl
  Tf2 := fun hm => (h2 TO hm).elim D.TO2 fun n => n TO (hf TO (by simp)) rfl
  sep1_2 := fun hm => (h2 i1 hm).elim D.i12 fun n => n i1 (hf i1 (by simp)) rfl
  sep2_1 := fun hm => (h1 i2 hm).elim D.i12.symm fun n => n i2 (hf i2 (by simp)) rfl
theorem turn_zip2 {P : Program} {w : World} {K : PySem.W.Frag} {elts : List Expr} {kk : Nat} {tpos : Pos} {c1 c2 : Cmp} {z TI TO i1 i2 : Addr} (D : Far2 z TI TO i1 i2) :
    Turn P w K (.Tuple elts kk tpos) (ItZ K c1 c2) [z, TI, TO, i1, i2] z (fun i h => IsZip h z TI TO .none ∧ IsTupOf2 h TI (.ref i1) (.ref i2) ∧ (∃ x y, IsTupOf2 h TO x y) ∧ c1.st i1 i h ∧ c2.st i2 i h) where
  mem := by simp
  obj := fun i h st c hc => by
    obtain ⟨hz, hTI, ⟨x, y, hTO⟩, h1, h2⟩ := st
    have e' : c = z ∨ c = TI ∨ c = TO ∨ c = i1 ∨ c = i2 := by simpa using hc
    rcases e' with q | q | q | q | q
    · rw [q]; exact ⟨_, hz, fun v q => nomatch q⟩
    · rw [q]; exact ⟨_, hTI, fun v q => nomatch q⟩
    · rw [q]; exact ⟨_, hTO, fun v q => nomatch q⟩
    · rw [q]; exact Cmp.st_obj h1
    · rw [q]; exact Cmp.st_obj h2
  keep := fun i h h' st k => by
    obtain ⟨hz, hTI, ⟨x, y, hTO⟩, h1, h2⟩ := st
    exact ⟨k z (by simp) _ hz, k TI (by simp) _ hTI, ⟨x, y, k TO (by simp) _ hTO⟩, Cmp.st_at h1 fun o q => k i1 (by simp) o q, Cmp.st_at h2 fun o q => k i2 (by simp) o q⟩
  item := by
    intro X hP hw hK hc i pins s σ H E I hf st hg
    subst hP hw hK
    obtain ⟨hz, hTI, ⟨x0, y0, hTO⟩, h1, h2⟩ := st
    obtain ⟨xs, ys, hqx, hqy, hx, hy⟩ := hg
    obtain ⟨fp1, n1, P1, St1, D1, m1, f1, s1, l1, p1, b1⟩ := cmp_draws I hc c1 hqx h1 (hf i1 (by simp))
    obtain ⟨fp2, n2, P2, St2, D2, m2, f2, s2, l2, p2, b2⟩ := cmp_draws I hc c2 hqy h2 (hf i2 (by simp))
    have S := D.sep hf m1 m2 f1 f2
    have hzl : z < s.heap.objs.size := Heap.lt_size hz
    refine wpAny_pyNext_zipD2_item S D1 D2 hz hTI hTO s1 s2 (by omega) (by omega) fun u1 u2 h' tk hP1 hP2 z' TO' h1' h2' hT hsz hk => ?_
    refine ⟨_, rfl, wpAny_letOwnedTupleGo_zip (s := { s with heap := h', toks := tk }) z' fun h'' z'' sb => ?_⟩
    obtain ⟨x, hx', rx⟩ := p1 _ _ hP1
    obtain ⟨y, hy', ry⟩ := p2 _ _ hP2
    have hT2 : h''.get? s.heap.objs.size = some { cls := .type "tuple", data := .seq #[u1, u2] } := (sb.2 _ (Nat.ne_of_gt hzl)).trans hT
    have new : ObjOk X.prog X.w (upd H s.heap.objs.size (.tup [x, y])) h'' s.heap.objs.size (.tup [x, y]) :=
      ⟨by show 2 ≤ sizeLine; decide, [u1, u2], .cons rx (.cons ry .nil), ⟨_, hT2, rfl, _, rfl⟩⟩
    have I1 : Inv X pins σ (upd H s.heap.objs.size (.tup [x, y])) { s with heap := h'', toks := tk } :=
      I.turnedNew (t' := tk) (ch := [z, TI, TO, i1, i2]) (fun c o hb q => (sb.2 c (fun q' => hb (by simp [q']))).trans (hk c o (fun q' => hb (by simp [q'])) (fun q' => hb (by simp [q'])) (fun q' => hb (by simp [q'])) (fun q' => hb (by simp [q'])) q)) hf (Nat.le_refl _) new
    refine ⟨.ref s.heap.objs.size, _, I1, rfl, ⟨_, x, y, rfl, I.hok.fresh (Nat.le_refl _), rfl, fun l hl => by rw [Cmp.inj I hl hqx]; exact hx', fun l hl => by rw [Cmp.inj I hl hqy]; exact hy'⟩, ⟨z'', ?_, ⟨u1, u2, ?_⟩, ?_, ?_⟩, fun c hcm => ?_⟩
    · exact (sb.2 _ D.TIz).trans (hk _ _ D.TIz D.TITO D.TI1 D.TI2 hTI)
    · exact (sb.2 _ D.TOz).trans TO'
    · exact Cmp.st_at (b1 _ _ h1') fun o q => (sb.2 _ D.z1.symm).trans q
    · exact Cmp.st_at (b2 _ _ h2') fun o q => (sb.2 _ D.z2.symm).trans q
    · have hlt : c < s.heap.objs.size := by
        have e' : c = z ∨ c = TI ∨ c = TO ∨ c = i1 ∨ c = i2 := by simpa using hcm
        rcases e' with q | q | q | q | q
        · rw [q]; exact hzl
        · rw [q]; exact Heap.lt_size hTI
        · rw [q]; exact Heap.lt_size hTO
        · rw [q]; exact st_lt h1
        · rw [q]; exact st_lt h2
      rw [upd_ne (Nat.ne_of_lt hlt)]
      exact (hf c hcm).1
  done := by
    intro X hP hw hK hc i pins s σ H E I hf st hg
    subst hP hw hK
    obtain ⟨hz, hTI, ⟨x0, y0, hTO⟩, h1, h2⟩ := st
    obtain ⟨xs, ys, hqx, hqy, hx, hy, hend⟩ := hg
    obtain ⟨fp1, n1, P1, St1, D1, m1, f1, s1, l1, p1, b1⟩ := cmp_draws I hc c1 hqx h1 (hf i1 (by simp))
    obtain ⟨fp2, n2, P2, St2, D2, m2, f2, s2, l2, p2, b2⟩ := cmp_draws I hc c2 hqy h2 (hf i2 (by simp))
    have S := D.sep hf m1 m2 f1 f2
    exact wpAny_pyNext_zipD2_end S D1 D2 hz hTI hTO s1 s2 (by omega) (by omega) (by omega) fun h' tk hk => ⟨rfl, I.turnedL (t' := tk) (ch := [z, TI, TO, i1, i2]) (fun c o hb q =>
      hk c o (fun q' => hb (by simp [q'])) (fun q' => hb (by simp [q'])) (fun q' => hb (by simp [q'])) (fun q' => hb (by simp [q'])) q) hf⟩
  self := fun A i s Q E st h => wpAny_pyIter_zip st.1 h
def iZ2 (K : PySem.W.Frag) (ta : TA) : TI := fun σ H R => ta σ H fun vs H1 => ∃ v1 v2 c1 c2 xs ys, vs = [v1, v2] ∧ Cmp.of c1 v1 ∧ Cmp.of c2 v2 ∧ Cmp.items K c1 H1 xs ∧ Cmp.items K c2 H1 ys ∧ R (ItZ K c1 c2) H1
theorem pi_z2 {X : Cx} {e e2 : Expr} {ta : TA} {p pos tpos : Pos} {elts : List Expr} {kk : Nat} (hg : Gl X "zip") (hm : X.mg "zip" = none) (ha : PA X [e, e2] ta)
    (hs : starEach [e, e2] X.env = (false, eval e X.env) :: starEach [e2] X.env := by rfl) (hpl : (backTo pos (starEach [e2] X.env)).any (·.1) = false := by rfl) :
    PI X (.Tuple elts kk tpos) (.Call (.Name "zip" p) [e, e2] [] pos) (iZ2 X.K ta) := by
  refine ⟨fun pins s σ H R I h => ?_⟩
  refine PyProof.Rows.Call_ (ld_blt I hg hm PyProof.Rows.boot_zip (PyProof.Rows.callWith_type1 (thn (ha.run pos pins s σ H _ I h) fun us s1 ⟨vs, H1, I1, r1, q1⟩ => ?_) hs hpl))
  obtain ⟨v1, v2, c1, c2, xs, ys, ex, o1, o2, hqx, hqy, q⟩ := q1
  subst ex
  cases r1 with
  | cons r rr =>
    cases rr with
    | cons r' rr =>
      cases rr
      obtain ⟨ob1, Hh1, B1, b1, k1⟩ := cmp_begins I1 c1 hqx o1 r
      obtain ⟨ob2, Hh2, B2, b2, k2⟩ := cmp_begins I1 c2 hqy o2 r'
      refine zip_begins2 B1 B2 b1 b2 fun h' hz hTI hTO g1 g2 hsz hk => wpAny_pyIter_zip hz ?_
      have I2 : Inv X pins σ H1 { s1 with heap := h' } := I1.kept (t' := s1.toks) hk
      generalize hN : s1.heap.objs.size = N at *
      refine ⟨N + 4, [N + 4, N + 2, N + 3, N, N + 1], _, ItZ X.K c1 c2, H1, rfl, I2, turn_zip2 ⟨?_, ?_, ?_, ?_, ?_, ?_, ?_, ?_, ?_, ?_⟩, ⟨hz, hTI, ⟨_, _, hTO⟩, k1 _ _ g1, k2 _ _ g2⟩, fun c hcm => ?_, q⟩
      all_goals first
        | (show (_ : Nat) ≠ _; omega)
        | skip
      have hle : s1.heap.objs.size ≤ c := by
        rw [hN]
        have e' : c = N + 4 ∨ c = N + 2 ∨ c = N + 3 ∨ c = N ∨ c = N + 1 := by simpa using hcm
        rcases e' with z | z | z | z | z <;> rw [z] <;> show N ≤ (_ : Nat) <;> omega
      exact I1.fpOk hle (I1.hok.fresh hle)
end Y

end
section
set_option Elab.async false
set_option linter.all false
set_option maxRecDepth 100000
set_option autoImplicit false
/-! Z1: list(zip(v1, v2)): zip's next while the tuple given out is held, over iterators of any kind; the list's loop. -/
namespace Y
open PySem L2
theorem zip_no_len : typeLookup (.type "zip") "__len__" = pure none := am_miss_of_fast (by decide +kernel)
theorem zip_no_hint : typeLookup (.type "zip") "__length_hint__" = pure none := am_miss_of_fast (by decide +kernel)
section
variable {prog : Program} {w : World} {A : Around} {E : Value → Shared → Prop} {s : Shared} {z TI TO T i1 i2 : Addr} {fp1 fp2 : List Addr} {n1 n2 i : Nat} {P1 P2 : Nat → Value → Prop} {St1 St2 : Nat → Heap → Prop} {f : Bool} {oT : Obj}
theorem zipD2_held_item {Q : Value → Shared → Prop} (S : ZipSep2 z TI TO i1 i2 fp1 fp2) (D1 : Draws prog w A i1 fp1 n1 P1 St1) (D2 : Draws prog w A i2 fp2 n2 P2 St2)
    (hz : IsZipHeld s.heap z TI TO T f) (hT : s.heap.get? T = some oT) (hTI : IsTupOf2 s.heap TI (.ref i1) (.ref i2)) (st1 : St1 i s.heap) (st2 : St2 i s.heap) (hlt1 : i < n1) (hlt2 : i < n2)
    (hQ : ∀ x1 x2 h' tk, P1 i x1 → P2 i x2 → IsZipHeld h' z TI TO T true → St1 (i + 1) h' → St2 (i + 1) h' → IsTupOf2 h' s.heap.objs.size x1 x2 → h'.objs.size = s.heap.objs.size + 1 →
      (∀ c o, c ≠ z → c ≠ i1 → c ≠ i2 → s.heap.get? c = some o → h'.get? c = some o) → Q (.ref s.heap.objs.size) { s with heap := h', toks := tk }) :
    wpAny (model prog w) A (Builtin.«zip.__next__» ⟨[.ref z], []⟩) (fun fin s' => ∃ v, fin = .done (.ret v) ∧ Q v s') E s := by
  obtain ⟨hp, g, d, tk0, os⟩ := s
  show wpAny _ _ (field (.ref z) 2 >>= _) _ _ _
  refine wpAny_bind (wpAny_field hz rfl (x := .bool false) rfl ?_)
  show wpAny _ _ (field (.ref z) 3 >>= _) _ _ _
  refine wpAny_bind (wpAny_field hz rfl (x := .ref TI) rfl ?_)
  refine wpAny_bind (wpAny_seqItems hTI rfl ?_)
  show wpAny _ _ (Builtin.SmallTypes.ownedTupleIsFree (.ref z) >>= _) _ _ _
  refine wpAny_bind (wpAny_tupleHeld_zip hz hT fun h₁ hz₁ hs₁ => ?_)
  replace hs₁ : Heap.SameBut z hp h₁ := hs₁
  simp only [Bool.false_eq_true, if_false]
  refine wpAny_bind ?_
  rw [← Array.forIn_toList]
  simp only [List.forIn_cons, List.forIn_nil]
  refine wpAny_bind (wpAny_bind (wpAny_holding ?_))
  show wpAny _ _ (Builtin.SmallTypes.nextOf (.ref i1) >>= _) _ _ ⟨h₁, g, d, tk0, os⟩
  refine wpAny_bind (D1.item i _ _ _ hlt1 (D1.over st1 hs₁ S.zf1) fun x1 p1 tk1 hx1 sn1 hp1 => wpAny_pure ?_)
  replace hp1 : Heap.SameBut i1 h₁ p1 := hp1
  refine wpAny_pure ?_
  refine wpAny_bind (wpAny_bind (wpAny_holding ?_))
  show wpAny _ _ (Builtin.SmallTypes.nextOf (.ref i2) >>= _) _ _ ⟨p1, g, d, tk1, os⟩
  refine wpAny_bind (D2.item i _ _ _ hlt2 (D2.over (D2.over st2 hs₁ S.zf2) hp1 S.sep1_2) fun x2 p2 tk2 hx2 sn2 hp2 => wpAny_pure ?_)
  replace hp2 : Heap.SameBut i2 p1 p2 := hp2
  refine wpAny_pure (wpAny_pure ?_)
  show wpAny _ _ (newTuple [x1, x2] >>= _) _ _ _
  refine wpAny_bind (wpAny_newTuple ?_)
  have hsz : p2.objs.size = hp.objs.size := by rw [hp2.1, hp1.1, hs₁.1]
  have hz₃ : IsZipHeld p2 z TI TO T true := hp2.extBut _ _ S.zi2 (hp1.extBut _ _ S.zi1 hz₁)
  have hk : ∀ c o, c ≠ z → c ≠ i1 → c ≠ i2 → hp.get? c = some o → p2.get? c = some o := fun c o c1 c2 c3 e => hp2.extBut _ _ c3 (hp1.extBut _ _ c2 (hs₁.extBut _ _ c1 e))
  have s1' : St1 (i + 1) p2 := D1.over sn1 hp2 S.sep2_1
  refine wpAny_pure ⟨_, rfl, ?_⟩
  show Q (.ref p2.objs.size) _
  have ht : IsTupOf2 (p2.push { cls := .type "tuple", data := .seq #[x1, x2] }) p2.objs.size x1 x2 := Heap.get?_push_size _ rfl
  have hz4 : (p2.push { cls := .type "tuple", data := .seq #[x1, x2] }).objs.size = p2.objs.size + 1 := Heap.size_push ..
  rw [hsz] at ht hz4 ⊢
  exact hQ x1 x2 _ _ hx1 hx2 (Heap.get?_push_of_some _ hz₃) (D1.frame _ _ _ s1' fun b _ o e => Heap.get?_push_of_some _ e) (D2.frame _ _ _ sn2 fun b _ o e => Heap.get?_push_of_some _ e) ht hz4 fun c o c1 c2 c3 e => Heap.get?_push_of_some _ (hk c o c1 c2 c3 e)
theorem zipD2_held_end {Q : Fin → Shared → Prop} (S : ZipSep2 z TI TO i1 i2 fp1 fp2) (D1 : Draws prog w A i1 fp1 n1 P1 St1) (D2 : Draws prog w A i2 fp2 n2 P2 St2)
    (hz : IsZipHeld s.heap z TI TO T f) (hT : s.heap.get? T = some oT) (hTI : IsTupOf2 s.heap TI (.ref i1) (.ref i2)) (st1 : St1 i s.heap) (st2 : St2 i s.heap) (hle1 : i ≤ n1) (hle2 : i ≤ n2) (hend : i = n1 ∨ i = n2)
    (hE : ∀ h' tk e, (∀ c o, c ≠ z → c ≠ i1 → c ≠ i2 → s.heap.get? c = some o → h'.get? c = some o) → (∃ o, h'.get? e = some o ∧ o.cls = .type "StopIteration") → E (.ref e) { s with heap := h', toks := tk }) :
    wpAny (model prog w) A (Builtin.«zip.__next__» ⟨[.ref z], []⟩) Q E s := by
  obtain ⟨hp, g, d, tk0, os⟩ := s
  show wpAny _ _ (field (.ref z) 2 >>= _) _ _ _
  refine wpAny_bind (wpAny_field hz rfl (x := .bool false) rfl ?_)
  show wpAny _ _ (field (.ref z) 3 >>= _) _ _ _
  refine wpAny_bind (wpAny_field hz rfl (x := .ref TI) rfl ?_)
  refine wpAny_bind (wpAny_seqItems hTI rfl ?_)
  show wpAny _ _ (Builtin.SmallTypes.ownedTupleIsFree (.ref z) >>= _) _ _ _
  refine wpAny_bind (wpAny_tupleHeld_zip hz hT fun h₁ hz₁ hs₁ => ?_)
  replace hs₁ : Heap.SameBut z hp h₁ := hs₁
  simp only [Bool.false_eq_true, if_false]
  refine wpAny_bind ?_
  rw [← Array.forIn_toList]
  simp only [List.forIn_cons, List.forIn_nil]
  refine wpAny_bind (wpAny_bind (wpAny_holding ?_))
  show wpAny _ _ (Builtin.SmallTypes.nextOf (.ref i1) >>= _) _ _ ⟨h₁, g, d, tk0, os⟩
  by_cases hlt1 : i < n1
  · have hi2 : i = n2 := by omega
    refine wpAny_bind (D1.item i _ _ _ hlt1 (D1.over st1 hs₁ S.zf1) fun x1 p1 tk1 hx1 sn1 hp1 => wpAny_pure ?_)
    replace hp1 : Heap.SameBut i1 h₁ p1 := hp1
    refine wpAny_pure ?_
    refine wpAny_bind (wpAny_bind (wpAny_holding ?_))
    show wpAny _ _ (Builtin.SmallTypes.nextOf (.ref i2) >>= _) _ _ ⟨p1, g, d, tk1, os⟩
    refine wpAny_bind (D2.done ⟨p1, g, d, tk1, os⟩ _ _ (by rw [← hi2]; exact D2.over (D2.over st2 hs₁ S.zf2) hp1 S.sep1_2) fun q e hq he => ?_)
    exact hE q tk1 e (fun c o c1 c2 c3 x => hq _ _ c3 (hp1.extBut _ _ c2 (hs₁.extBut _ _ c1 x))) he
  · have hi1 : i = n1 := by omega
    refine wpAny_bind (D1.done ⟨h₁, g, d, tk0, os⟩ _ _ (by rw [← hi1]; exact D1.over st1 hs₁ S.zf1) fun q e hq he => ?_)
    exact hE q tk0 e (fun c o c1 c2 _ x => hq _ _ c2 (hs₁.extBut _ _ c1 x)) he
theorem pyNext_zipD2_held_item {Q : Option Value → Shared → Prop} (S : ZipSep2 z TI TO i1 i2 fp1 fp2) (D1 : Draws prog w A.in1 i1 fp1 n1 P1 St1) (D2 : Draws prog w A.in1 i2 fp2 n2 P2 St2)
    (hz : IsZipHeld s.heap z TI TO T f) (hT : s.heap.get? T = some oT) (hTI : IsTupOf2 s.heap TI (.ref i1) (.ref i2)) (st1 : St1 i s.heap) (st2 : St2 i s.heap) (hlt1 : i < n1) (hlt2 : i < n2)
    (hQ : ∀ x1 x2 h' tk, P1 i x1 → P2 i x2 → IsZipHeld h' z TI TO T true → St1 (i + 1) h' → St2 (i + 1) h' → IsTupOf2 h' s.heap.objs.size x1 x2 → h'.objs.size = s.heap.objs.size + 1 →
      (∀ c o, c ≠ z → c ≠ i1 → c ≠ i2 → s.heap.get? c = some o → h'.get? c = some o) → Q (some (.ref s.heap.objs.size)) { s with heap := h', toks := tk }) :
    wpAny (model prog w) A (pyNext (.ref z)) Q E s := by
  have hTy : s.TypeIs (.ref z) "zip" := ⟨_, hz, rfl⟩
  unfold pyNext
  exact wpAny_bind (wpAny_attempt (wpAny_callSpecial?_slot (name := Str.ofString "__next__") hTy F.slot_zip_next
    (wpAny_call_entry F.slot_zip_next hTy F.entry_zip_next
      (zipD2_held_item S D1 D2 hz hT hTI st1 st2 hlt1 hlt2 fun x1 x2 h' tk a1 a2 a3 a4 a5 a6 a7 a8 => wpAny_pure (hQ x1 x2 h' tk a1 a2 a3 a4 a5 a6 a7 a8)) (F.args_zip_next_1 _))))
theorem pyNext_zipD2_held_end {Q : Option Value → Shared → Prop} (S : ZipSep2 z TI TO i1 i2 fp1 fp2) (D1 : Draws prog w A.in1 i1 fp1 n1 P1 St1) (D2 : Draws prog w A.in1 i2 fp2 n2 P2 St2)
    (hz : IsZipHeld s.heap z TI TO T f) (hT : s.heap.get? T = some oT) (hTI : IsTupOf2 s.heap TI (.ref i1) (.ref i2)) (st1 : St1 i s.heap) (st2 : St2 i s.heap) (hle1 : i ≤ n1) (hle2 : i ≤ n2) (hend : i = n1 ∨ i = n2)
    (hQ : ∀ h' tk, (∀ c o, c ≠ z → c ≠ i1 → c ≠ i2 → s.heap.get? c = some o → h'.get? c = some o) → Q none { s with heap := h', toks := tk }) : wpAny (model prog w) A (pyNext (.ref z)) Q E s := by
  have hTy : s.TypeIs (.ref z) "zip" := ⟨_, hz, rfl⟩
  unfold pyNext
  refine wpAny_bind (wpAny_attempt (wpAny_callSpecial?_slot (name := Str.ofString "__next__") hTy F.slot_zip_next
    (wpAny_call_entry F.slot_zip_next hTy F.entry_zip_next (zipD2_held_end S D1 D2 hz hT hTI st1 st2 hle1 hle2 hend fun h' tk e hk he => ?_) (F.args_zip_next_1 _))))
  obtain ⟨o, ho, hc⟩ := he
  refine wpAny_bind (wpAny_isInstance (T := "StopIteration") (b := true) ⟨o, ho, hc⟩ isSubtype_stop ?_)
  exact wpAny_pure (hQ _ _ hk)
end
end Y

end
section
set_option Elab.async false
set_option linter.all false
set_option maxRecDepth 100000
set_option autoImplicit false
/-! Y14: zip of three; enumerate. -/
namespace Y
open PySem L2

def ItZ3 (K : PySem.W.Frag) (c1 c2 c3 : Cmp) : It :=
  ⟨fun i H => ∃ (xs ys zs : List V), c1.items K H xs ∧ c2.items K H ys ∧ c3.items K H zs ∧ i < xs.length ∧ i < ys.length ∧ i < zs.length,
    fun i H v H' => ∃ T x y z, v = .ref T ∧ H T = none ∧ H' = upd H T (.tup [x, y, z]) ∧ (∀ xs, c1.items K H xs → xs[i]? = some x) ∧ (∀ ys, c2.items K H ys → ys[i]? = some y) ∧ ∀ zs, c3.items K H zs → zs[i]? = some z,
    fun i H => ∃ xs ys zs : List V, c1.items K H xs ∧ c2.items K H ys ∧ c3.items K H zs ∧ i ≤ xs.length ∧ i ≤ ys.length ∧ i ≤ zs.length ∧ (i = xs.length ∨ i = ys.length ∨ i = zs.length)⟩
structure Far3 (z TI TO i1 i2 i3 : Addr) : Prop where
  TIz : TI ≠ z
  TOz : TO ≠ z
  TITO : TI ≠ TO
  TI1 : TI ≠ i1
  TI2 : TI ≠ i2
  TI3 : TI ≠ i3
  TO1 : TO ≠ i1
  TO2 : TO ≠ i2
  TO3 : TO ≠ i3
  z1 : z ≠ i1
  z2 : z ≠ i2
  z3 : z ≠ i3
  i12 : i1 ≠ i2
  i13 : i1 ≠ i3
  i23 : i2 ≠ i3
theorem Far3.sep {X : Cx} {pins : List (Addr × Obj)} {H : Hp} {z TI TO i1 i2 i3 : Addr} {fp1 fp2 fp3 : List Addr} (D : Far3 z TI TO i1 i2 i3) (hf : ∀ b ∈ [z, TI, TO, i1, i2, i3], FpOk X pins H b) (m1 : i1 ∈ fp1) (m2 : i2 ∈ fp2) (m3 : i3 ∈ fp3)
    (h1 : ∀ b ∈ fp1, b = i1 ∨ ∀ c, FpOk X pins H c → c ≠ b) (h2 : ∀ b ∈ fp2, b = i2 ∨ ∀ c, FpOk X pins H c → c ≠ b) (h3 : ∀ b ∈ fp3, b = i3 ∨ ∀ c, FpOk X pins H c → c ≠ b) : ZipSep3 z TI TO i1 i2 i3 fp1 fp2 fp3 where
  TIz := D.TIz
  TOz := D.TOz
  TITO := D.TITO
  TIi1 := D.TI1
  mem1 := m1
  zf1 := fun hm => (h1 z hm).elim D.z1 fun n => n z (hf z (by simp)) rfl
  Tf1 := fun hm => (h1 TO hm).elim D.TO1 fun n => n TO (hf TO (by simp)) rfl
  TIi2 := D.TI2
  mem2 := m2
  zf2 := fun hm => (h2 z hm).elim D.z2 fun n => n z (hf z (by simp)) rfl
  Tf2 := fun hm => (h2 TO hm).elim D.TO2 fun n => n TO (hf TO (by simp)) rfl
  TIi3 := D.TI3
  mem3 := m3
  zf3 := fun hm => (h3 z hm).elim D.z3 fun n => n z (hf z (by simp)) rfl
  Tf3 := fun hm => (h3 TO hm).elim D.TO3 fun n => n TO (hf TO (by simp)) rfl
  sep1_2 := fun hm => (h2 i1 hm).elim D.i12 fun n => n i1 (hf i1 (by simp)) rfl
  sep1_3 := fun hm => (h3 i1 hm).elim D.i13 fun n => n i1 (hf i1 (by simp)) rfl
  sep2_1 := fun hm => (h1 i2 hm).elim D.i12.symm fun n => n i2 (hf i2 (by simp)) rfl
  sep2_3 := fun hm => (h3 i2 hm).elim D.i23 fun n => n i2 (hf i2 (by simp)) rfl
  sep3_1 := fun hm => (h1 i3 hm).elim D.i13.symm fun n => n i3 (hf i3 (by simp)) rfl
  sep3_2 := fun hm => (h2 i3 hm).elim D.i23.symm fun n => n i3 (hf i3 (by simp)) rfl
theorem turn_zip3 {P : Program} {w : World} {K : PySem.W.Frag} {elts : List Expr} {kk : Nat} {tpos : Pos} {c1 c2 c3 : Cmp} {z TI TO i1 i2 i3 : Addr} (D : Far3 z TI TO i1 i2 i3) :
    Turn P w K (.Tuple elts kk tpos) (ItZ3 K c1 c2 c3) [z, TI, TO, i1, i2, i3] z (fun i h => IsZip h z TI TO .none ∧ IsTupOf3 h TI (.ref i1) (.ref i2) (.ref i3) ∧ (∃ x y u, IsTupOf3 h TO x y u) ∧ c1.st i1 i h ∧ c2.st i2 i h ∧ c3.st i3 i h) where
  mem := by simp
  obj := fun i h st c hc => by
    obtain ⟨hz, hTI, ⟨x, y, u, hTO⟩, h1, h2, h3⟩ := st
    have e' : c = z ∨ c = TI ∨ c = TO ∨ c = i1 ∨ c = i2 ∨ c = i3 := by simpa using hc
    rcases e' with q | q | q | q | q | q
    · rw [q]; exact ⟨_, hz, fun v q => nomatch q⟩
    · rw [q]; exact ⟨_, hTI, fun v q => nomatch q⟩
    · rw [q]; exact ⟨_, hTO, fun v q => nomatch q⟩
    · rw [q]; exact Cmp.st_obj h1
    · rw [q]; exact Cmp.st_obj h2
    · rw [q]; exact Cmp.st_obj h3
  keep := fun i h h' st k => by
    obtain ⟨hz, hTI, ⟨x, y, u, hTO⟩, h1, h2, h3⟩ := st
    exact ⟨k z (by simp) _ hz, k TI (by simp) _ hTI, ⟨x, y, u, k TO (by simp) _ hTO⟩, Cmp.st_at h1 fun o q => k i1 (by simp) o q, Cmp.st_at h2 fun o q => k i2 (by simp) o q, Cmp.st_at h3 fun o q => k i3 (by simp) o q⟩
  item := by
    intro X hP hw hK hc i pins s σ H E I hf st hg
    subst hP hw hK
    obtain ⟨hz, hTI, ⟨x0, y0, u0, hTO⟩, h1, h2, h3⟩ := st
    obtain ⟨xs, ys, zs, hqx, hqy, hqz, hx, hy, hzz⟩ := hg
    obtain ⟨fp1, n1, P1, St1, D1, m1, f1, s1, l1, p1, b1⟩ := cmp_draws I hc c1 hqx h1 (hf i1 (by simp))
    obtain ⟨fp2, n2, P2, St2, D2, m2, f2, s2, l2, p2, b2⟩ := cmp_draws I hc c2 hqy h2 (hf i2 (by simp))
    obtain ⟨fp3, n3, P3, St3, D3, m3, f3, s3, l3, p3, b3⟩ := cmp_draws I hc c3 hqz h3 (hf i3 (by simp))
    have S := D.sep hf m1 m2 m3 f1 f2 f3
    have hzl : z < s.heap.objs.size := Heap.lt_size hz
    refine wpAny_pyNext_zipD3_item S D1 D2 D3 hz hTI hTO s1 s2 s3 (by omega) (by omega) (by omega) fun u1 u2 u3 h' tk hP1 hP2 hP3 z' TO' h1' h2' h3' hT hsz hk => ?_
    refine ⟨_, rfl, wpAny_letOwnedTupleGo_zip (s := { s with heap := h', toks := tk }) z' fun h'' z'' sb => ?_⟩
    obtain ⟨x, hx', rx⟩ := p1 _ _ hP1
    obtain ⟨y, hy', ry⟩ := p2 _ _ hP2
    obtain ⟨u, hu', ru⟩ := p3 _ _ hP3
    have hT2 : h''.get? s.heap.objs.size = some { cls := .type "tuple", data := .seq #[u1, u2, u3] } := (sb.2 _ (Nat.ne_of_gt hzl)).trans hT
    have new : ObjOk X.prog X.w (upd H s.heap.objs.size (.tup [x, y, u])) h'' s.heap.objs.size (.tup [x, y, u]) :=
      ⟨by show 3 ≤ sizeLine; decide, [u1, u2, u3], .cons rx (.cons ry (.cons ru .nil)), ⟨_, hT2, rfl, _, rfl⟩⟩
    have I1 : Inv X pins σ (upd H s.heap.objs.size (.tup [x, y, u])) { s with heap := h'', toks := tk } :=
      I.turnedNew (t' := tk) (ch := [z, TI, TO, i1, i2, i3]) (fun c o hb q => (sb.2 c (fun q' => hb (by simp [q']))).trans (hk c o (fun q' => hb (by simp [q'])) (fun q' => hb (by simp [q'])) (fun q' => hb (by simp [q'])) (fun q' => hb (by simp [q'])) (fun q' => hb (by simp [q'])) q)) hf (Nat.le_refl _) new
    refine ⟨.ref s.heap.objs.size, _, I1, rfl, ⟨_, x, y, u, rfl, I.hok.fresh (Nat.le_refl _), rfl, fun l hl => by rw [Cmp.inj I hl hqx]; exact hx', fun l hl => by rw [Cmp.inj I hl hqy]; exact hy', fun l hl => by rw [Cmp.inj I hl hqz]; exact hu'⟩, ⟨z'', ?_, ⟨u1, u2, u3, ?_⟩, ?_, ?_, ?_⟩, fun c hcm => ?_⟩
    · exact (sb.2 _ D.TIz).trans (hk _ _ D.TIz D.TITO D.TI1 D.TI2 D.TI3 hTI)
    · exact (sb.2 _ D.TOz).trans TO'
    · exact Cmp.st_at (b1 _ _ h1') fun o q => (sb.2 _ D.z1.symm).trans q
    · exact Cmp.st_at (b2 _ _ h2') fun o q => (sb.2 _ D.z2.symm).trans q
    · exact Cmp.st_at (b3 _ _ h3') fun o q => (sb.2 _ D.z3.symm).trans q
    · have hlt : c < s.heap.objs.size := by
        have e' : c = z ∨ c = TI ∨ c = TO ∨ c = i1 ∨ c = i2 ∨ c = i3 := by simpa using hcm
        rcases e' with q | q | q | q | q | q
        · rw [q]; exact hzl
        · rw [q]; exact Heap.lt_size hTI
        · rw [q]; exact Heap.lt_size hTO
        · rw [q]; exact st_lt h1
        · rw [q]; exact st_lt h2
        · rw [q]; exact st_lt h3
      rw [upd_ne (Nat.ne_of_lt hlt)]
      exact (hf c hcm).1
  done := by
    intro X hP hw hK hc i pins s σ H E I hf st hg
    subst hP hw hK
    obtain ⟨hz, hTI, ⟨x0, y0, u0, hTO⟩, h1, h2, h3⟩ := st
    obtain ⟨xs, ys, zs, hqx, hqy, hqz, hx, hy, hzz, hend⟩ := hg
    obtain ⟨fp1, n1, P1, St1, D1, m1, f1, s1, l1, p1, b1⟩ := cmp_draws I hc c1 hqx h1 (hf i1 (by simp))
    obtain ⟨fp2, n2, P2, St2, D2, m2, f2, s2, l2, p2, b2⟩ := cmp_draws I hc c2 hqy h2 (hf i2 (by simp))
    obtain ⟨fp3, n3, P3, St3, D3, m3, f3, s3, l3, p3, b3⟩ := cmp_draws I hc c3 hqz h3 (hf i3 (by simp))
    have S := D.sep hf m1 m2 m3 f1 f2 f3
    exact wpAny_pyNext_zipD3_end S D1 D2 D3 hz hTI hTO s1 s2 s3 (by omega) (by omega) (by omega) (by omega) fun h' tk hk => ⟨rfl, I.turnedL (t' := tk) (ch := [z, TI, TO, i1, i2, i3]) (fun c o hb q =>
      hk c o (fun q' => hb (by simp [q'])) (fun q' => hb (by simp [q'])) (fun q' => hb (by simp [q'])) (fun q' => hb (by simp [q'])) (fun q' => hb (by simp [q'])) q) hf⟩
  self := fun A i s Q E st h => wpAny_pyIter_zip st.1 h
def iZ3 (K : PySem.W.Frag) (ta : TA) : TI := fun σ H R => ta σ H fun vs H1 => ∃ v1 v2 v3 c1 c2 c3 xs ys zs, vs = [v1, v2, v3] ∧ Cmp.of c1 v1 ∧ Cmp.of c2 v2 ∧ Cmp.of c3 v3 ∧ Cmp.items K c1 H1 xs ∧ Cmp.items K c2 H1 ys ∧ Cmp.items K c3 H1 zs ∧ R (ItZ3 K c1 c2 c3) H1
theorem pi_z3 {X : Cx} {e e2 e3 : Expr} {ta : TA} {p pos tpos : Pos} {elts : List Expr} {kk : Nat} (hg : Gl X "zip") (hm : X.mg "zip" = none) (ha : PA X [e, e2, e3] ta)
    (hs : starEach [e, e2, e3] X.env = (false, eval e X.env) :: starEach [e2, e3] X.env := by rfl) (hpl : (backTo pos (starEach [e2, e3] X.env)).any (·.1) = false := by rfl) :
    PI X (.Tuple elts kk tpos) (.Call (.Name "zip" p) [e, e2, e3] [] pos) (iZ3 X.K ta) := by
  refine ⟨fun pins s σ H R I h => ?_⟩
  refine PyProof.Rows.Call_ (ld_blt I hg hm PyProof.Rows.boot_zip (PyProof.Rows.callWith_type1 (thn (ha.run pos pins s σ H _ I h) fun us s1 ⟨vs, H1, I1, r1, q1⟩ => ?_) hs hpl))
  obtain ⟨v1, v2, v3, c1, c2, c3, xs, ys, zs, ex, o1, o2, o3, hqx, hqy, hqz, q⟩ := q1
  subst ex
  cases r1 with
  | cons r rr =>
    cases rr with
    | cons r' rr =>
      cases rr with
      | cons r'' rr =>
        cases rr
        obtain ⟨ob1, Hh1, B1, b1, k1⟩ := cmp_begins I1 c1 hqx o1 r
        obtain ⟨ob2, Hh2, B2, b2, k2⟩ := cmp_begins I1 c2 hqy o2 r'
        obtain ⟨ob3, Hh3, B3, b3, k3⟩ := cmp_begins I1 c3 hqz o3 r''
        refine zip_begins3 B1 B2 B3 b1 b2 b3 fun h' hz hTI hTO g1 g2 g3 hsz hk => wpAny_pyIter_zip hz ?_
        have I2 : Inv X pins σ H1 { s1 with heap := h' } := I1.kept (t' := s1.toks) hk
        generalize hN : s1.heap.objs.size = N at *
        refine ⟨N + 5, [N + 5, N + 3, N + 4, N, N + 1, N + 2], _, ItZ3 X.K c1 c2 c3, H1, rfl, I2, turn_zip3 ⟨?_, ?_, ?_, ?_, ?_, ?_, ?_, ?_, ?_, ?_, ?_, ?_, ?_, ?_, ?_⟩, ⟨hz, hTI, ⟨_, _, _, hTO⟩, k1 _ _ g1, k2 _ _ g2, k3 _ _ g3⟩, fun c hcm => ?_, q⟩
        all_goals first
          | (show (_ : Nat) ≠ _; omega)
          | skip
        have hle : s1.heap.objs.size ≤ c := by
          rw [hN]
          have e' : c = N + 5 ∨ c = N + 3 ∨ c = N + 4 ∨ c = N ∨ c = N + 1 ∨ c = N + 2 := by simpa using hcm
          rcases e' with z | z | z | z | z | z <;> rw [z] <;> show N ≤ (_ : Nat) <;> omega
        exact I1.fpOk hle (I1.hok.fresh hle)

/-! ### enumerate -/
def ItE (K : PySem.W.Frag) (C : Cmp) : It :=
  ⟨fun i H => ∃ (xs : List V), C.items K H xs ∧ i < xs.length,
    fun i H v H' => ∃ T x, v = .ref T ∧ H T = none ∧ H' = upd H T (.tup [.int (i : Nat), x]) ∧ ∀ xs, C.items K H xs → xs[i]? = some x,
    fun i H => ∃ xs : List V, C.items K H xs ∧ i = xs.length⟩
theorem turn_en {P : Program} {w : World} {K : PySem.W.Frag} {elts : List Expr} {kk : Nat} {tpos : Pos} {C : Cmp} (e it : Addr) (hne : e ≠ it) :
    Turn P w K (.Tuple elts kk tpos) (ItE K C) [e, it] e (fun i h => (∃ old, IsEnum h e it ((i : Nat) : Int) old) ∧ C.st it i h) where
  mem := by simp
  obj := fun i h st b hb => by
    obtain ⟨⟨old, he⟩, hi⟩ := st
    have e' : b = e ∨ b = it := by simpa using hb
    rcases e' with z | z
    · rw [z]; exact ⟨_, he, fun v q => nomatch q⟩
    · rw [z]; exact Cmp.st_obj hi
  keep := fun i h h' st k => let ⟨⟨old, he⟩, hi⟩ := st; ⟨⟨old, k e (by simp) _ he⟩, Cmp.st_at hi fun o q => k it (by simp) o q⟩
  item := by
    intro X hP hw hK hc i pins s σ H E I hf st hg
    subst hP hw hK
    obtain ⟨⟨old, he⟩, hit⟩ := st
    obtain ⟨xs, hq, hx⟩ := hg
    obtain ⟨fp1, n1, P1, St1, D1, m1, f1, s1, l1, p1, b1⟩ := cmp_draws I hc C hq hit (hf it (by simp))
    have hel : e < s.heap.objs.size := Heap.lt_size he
    have hef : e ∉ fp1 := fun hm => (f1 e hm).elim hne fun n => n e (hf e (by simp)) rfl
    refine wpAny_pyNext_enum_itemD D1 he s1 (by omega) hne hef fun u h' tk hP1 ho hit' hT hsz hk => ?_
    obtain ⟨x, hx', ru⟩ := p1 _ _ hP1
    refine ⟨_, rfl, wpAny_letOwnedTupleGo_enum (s := { s with heap := h', toks := tk + 1 }) ho fun h'' he' sb => ?_⟩
    have hT2 : h''.get? s.heap.objs.size = some { cls := .type "tuple", data := .seq #[.int i tk, u] } := (sb.2 _ (Nat.ne_of_gt hel)).trans hT
    have new : ObjOk X.prog X.w (upd H s.heap.objs.size (.tup [.int (i : Nat), x])) h'' s.heap.objs.size (.tup [.int (i : Nat), x]) :=
      ⟨by show 2 ≤ sizeLine; decide, [.int i tk, u], .cons ⟨_, rfl⟩ (.cons ru .nil), ⟨_, hT2, rfl, _, rfl⟩⟩
    have I1 : Inv X pins σ (upd H s.heap.objs.size (.tup [.int (i : Nat), x])) { s with heap := h'', toks := tk + 1 } :=
      I.turnedNew (t' := tk + 1) (ch := [e, it]) (fun b ob hb q => (sb.2 b (fun z => hb (by simp [z]))).trans (hk b ob (fun z => hb (by simp [z])) (fun z => hb (by simp [z])) q)) hf (Nat.le_refl _) new
    refine ⟨.ref s.heap.objs.size, _, I1, rfl, ⟨_, x, rfl, I.hok.fresh (Nat.le_refl _), rfl, fun ys hy => by rw [Cmp.inj I hy hq]; exact hx'⟩, ⟨⟨u, ?_⟩, Cmp.st_at (b1 _ _ hit') fun o q => (sb.2 it (Ne.symm hne)).trans q⟩, fun b hb => ?_⟩
    · have e1 : ((i + 1 : Nat) : Int) = (i : Int) + 1 := by omega
      rw [e1]; exact he'
    · have hb' : b < s.heap.objs.size := by
        have e' : b = e ∨ b = it := by simpa using hb
        rcases e' with z | z
        · rw [z]; exact hel
        · rw [z]; exact st_lt hit
      rw [upd_ne (Nat.ne_of_lt hb')]
      exact (hf b hb).1
  done := by
    intro X hP hw hK hc i pins s σ H E I hf st hg
    subst hP hw hK
    obtain ⟨⟨old, he⟩, hit⟩ := st
    obtain ⟨xs, hq, hx⟩ := hg
    obtain ⟨fp1, n1, P1, St1, D1, m1, f1, s1, l1, p1, b1⟩ := cmp_draws I hc C hq hit (hf it (by simp))
    obtain ⟨f0, f1, f2, f3, f4, f5⟩ := hf it (by simp)
    have s1' : St1 n1 s.heap := by rw [l1, ← hx]; exact s1
    exact wpAny_pyNext_enum_endD D1 he s1' fun h' eb => ⟨rfl, I.turned (t' := s.toks) (fun b o hb q => eb b o hb q) f0 f1 f3 f4 f5⟩
  self := fun A i s Q E st h => let ⟨⟨_, he⟩, _⟩ := st; wpAny_pyIter_enum he h
set_option maxHeartbeats 1000000 in
theorem meets_enum1 {v : Value} {o : Obj} {H : Heap → Prop} (B : Begins v o H) :
    Meets (Builtin.«enumerate.__new__» ⟨[.type "enumerate", v], []⟩) (fun _ R s => H s.heap ∧
      R (.ok (.ret (.ref (s.heap.push o).objs.size))) { s with heap := (s.heap.push o).push { cls := .type "enumerate", data := .fields #[.none, .bool false, .ref s.heap.objs.size, rawInt 0, .none, .none] } }) :=
  .of_wp fun prog w A R s h => by
    obtain ⟨hp, g, d, tk, os⟩ := s; obtain ⟨h1, h⟩ := h
    have hsub := sub_enumerate
    have q1 : ∀ {A' : Around} {E : Value → Shared → Prop} {Q : Value → Shared → Prop}, Q (.ref hp.objs.size) ⟨hp.push o, g, d, tk, os⟩ → wpAny (model prog w) A' (pyIter v) Q E ⟨hp, g, d, tk, os⟩ :=
      fun q => B.iter prog w _ _ ⟨hp, g, d, tk, os⟩ _ h1 q
    wp_walk using q1
    refine wpAny_stack_any fun st => wpAny_pure ?_
    split
    · rename_i c _ _ _ _ _
      cases (c == Value.type "enumerate")
      · wp_walk using q1
        exact ⟨_, rfl, h⟩
      · wp_walk using q1
        exact ⟨_, rfl, h⟩
    · wp_walk using q1
      exact ⟨_, rfl, h⟩
section
variable {prog : Program} {w : World} {A : Around} {E : Value → Shared → Prop} {s : Shared}
theorem enum_begins1 {v : Value} {o : Obj} {H : Heap → Prop} {Q : Value → Shared → Prop} (B : Begins v o H) (h1 : H s.heap)
    (h : ∀ h', IsEnum h' (s.heap.objs.size + 1) s.heap.objs.size 0 .none → h'.get? s.heap.objs.size = some o → h'.objs.size = s.heap.objs.size + 2 →
      (∀ b o, s.heap.get? b = some o → h'.get? b = some o) → Q (.ref (s.heap.objs.size + 1)) { s with heap := h' }) :
    wpAny (model prog w) A (call (.type "enumerate") [v]) Q E s := by
  refine callType_new F.called_enumerate (by decide) (F.typeCall_enumerate_1 _) (F.newCall_enumerate_1 _) (fun obj => F.args_object_init_2 obj _) F.entry_enumerate_new
    (meets_enum1 B) ⟨h1, ?_⟩
  have hz : (s.heap.push o).objs.size = s.heap.objs.size + 1 := Heap.size_push ..
  show _ ∧ _
  rw [hz]
  have he : IsEnum ((s.heap.push o).push { cls := .type "enumerate", data := .fields #[.none, .bool false, .ref s.heap.objs.size, rawInt 0, .none, .none] }) (s.heap.objs.size + 1) s.heap.objs.size 0 .none := by
    have := Heap.get?_push_size (s.heap.push o) (o := { cls := .type "enumerate", data := .fields #[.none, .bool false, .ref s.heap.objs.size, rawInt 0, .none, .none] }) rfl
    rw [hz] at this; exact this
  refine ⟨⟨_, he, rfl⟩, h _ he (Heap.get?_push_of_some _ (Heap.get?_push_size _ B.free)) (by rw [Heap.size_push, hz]) fun b o x => Heap.get?_push_of_some _ (Heap.get?_push_of_some _ x)⟩
end
def iEn (K : PySem.W.Frag) (ta : TA) : TI := fun σ H R => ta σ H fun vs H1 => ∃ v C xs, vs = [v] ∧ Cmp.of C v ∧ Cmp.items K C H1 xs ∧ R (ItE K C) H1
theorem pi_en {X : Cx} {e : Expr} {ta : TA} {p pos tpos : Pos} {elts : List Expr} {kk : Nat} (hg : Gl X "enumerate") (hm : X.mg "enumerate" = none) (ha : PA X [e] ta) (hs : starEach [e] X.env = [(false, eval e X.env)] := by rfl) :
    PI X (.Tuple elts kk tpos) (.Call (.Name "enumerate" p) [e] [] pos) (iEn X.K ta) := by
  refine ⟨fun pins s σ H R I h => ?_⟩
  refine PyProof.Rows.Call_ (ld_blt I hg hm PyProof.Rows.boot_enumerate (PyProof.Rows.callWith_type1 (thn (ha.run pos pins s σ H _ I h) fun us s1 ⟨vs, H1, I1, r1, q1⟩ => ?_) hs rfl))
  obtain ⟨v, C, xs, ex, o1, hq, q⟩ := q1
  subst ex
  cases r1 with
  | cons r rr =>
    cases rr
    obtain ⟨ob1, Hh1, B1, b1, k1⟩ := cmp_begins I1 C hq o1 r
    refine enum_begins1 B1 b1 fun h' he hit hsz hk => wpAny_pyIter_enum he ?_
    have I2 : Inv X pins σ H1 { s1 with heap := h' } := I1.kept (t' := s1.toks) hk
    refine ⟨s1.heap.objs.size + 1, [s1.heap.objs.size + 1, s1.heap.objs.size], _, _, H1, rfl, I2, turn_en (s1.heap.objs.size + 1) s1.heap.objs.size (Nat.succ_ne_self _), ⟨⟨.none, he⟩, k1 _ _ hit⟩, fun b hb => ?_, q⟩
    have e' : b = s1.heap.objs.size + 1 ∨ b = s1.heap.objs.size := by simpa using hb
    have hle : s1.heap.objs.size ≤ b := by
      rcases e' with z | z
      · rw [z]; exact Nat.le_add_right _ _
      · rw [z]; exact Nat.le_refl _
    exact I1.fpOk hle (I1.hok.fresh hle)
end Y

end
section
set_option Elab.async false
set_option linter.all false
set_option maxRecDepth 100000
set_option autoImplicit false
/-! Y15: sources: zip, enumerate, range. -/
namespace Y
open PySem L2

mutual
theorem frz2 : ∀ d : D, frz (frz d) = frz d
  | .lst o xs => by show D.lst false (frz.frzL (frz.frzL xs)) = D.lst false (frz.frzL xs); rw [frzL2 xs]
  | .dct o kvs => by show D.dct false (frz.frzP (frz.frzP kvs)) = D.dct false (frz.frzP kvs); rw [frzP2 kvs]
  | .set _ _ => rfl
  | .non => rfl
  | .bl _ => rfl
  | .int _ => rfl
  | .str _ => rfl
  | .tup _ => rfl
  | .exn _ _ => rfl
theorem frzL2 : ∀ ds : List D, frz.frzL (frz.frzL ds) = frz.frzL ds
  | [] => rfl
  | d :: ds => by show frz (frz d) :: frz.frzL (frz.frzL ds) = frz d :: frz.frzL ds; rw [frz2 d, frzL2 ds]
theorem frzP2 : ∀ ds : List (D × D), frz.frzP (frz.frzP ds) = frz.frzP ds
  | [] => rfl
  | (k, d) :: ds => by show (k, frz (frz d)) :: frz.frzP (frz.frzP ds) = (k, frz d) :: frz.frzP ds; rw [frz2 d, frzP2 ds]
end
theorem chill2 (d : D) : chill (chill d) = chill d := by
  cases d with
  | lst o xs => show D.lst o (frz.frzL (frz.frzL xs)) = _; rw [frzL2]; rfl
  | dct o kvs => show D.dct o (frz.frzP (frz.frzP kvs)) = _; rw [frzP2]; rfl
  | _ => rfl

section
variable {X : Cx} {W : WX} {xr : (Addr → Prop) → Hp → D → Value → Option Addr → Prop} {c : Ctx} {pos : Pos} {tg : Expr}
variable {K : PySem.W.Frag} {Av Av0 Av1 Av2 Av' : Addr → Prop} {H H0 H1 H2 H' : Hp} {φ φ0 φ1 φ2 φ' : Nat → List Addr} {lock lock' : List Nat} {σ σ' : St} {ρ ρ' : Env} {F G own : List Addr} {v : V} {d : D} {vs : List V} {ds xs ys zs : List D} {C c1 c2 c3 : Cmp}

/-- got slots hold what was got -/
theorem gC_keep {o : Opd} {i : Nat} {d' : D} (h : gC o c ρ = .ok d ρ') (hi : ρ[i]? = some (some (chill d'))) : ρ'[i]? = some (some (chill d')) := by
  cases o with
  | val d0 =>
    have h' : Rs.ok (chill d0) ρ = .ok d ρ' := h
    cases h'
    exact hi
  | slot j =>
    have h' : (match ρ[j]? with | some (some d) => Rs.ok (chill d) (ρ.set j (some (chill d))) | _ => .bad) = .ok d ρ' := h
    cases q : ρ[j]? with
    | none => rw [q] at h'; cases h'
    | some x =>
      cases x with
      | none => rw [q] at h'; cases h'
      | some d0 =>
        rw [q] at h'
        cases h'
        by_cases z : j = i
        · subst z
          rw [q] at hi
          cases hi
          rw [List.getElem?_set_self (get_lt q), chill2]
        · rw [List.getElem?_set_ne z]; exact hi
theorem gC_slot {i : Nat} (h : gC (.slot i) c ρ = .ok d ρ') : ρ'[i]? = some (some d) ∧ chill d = d := by
  have h' : (match ρ[i]? with | some (some d) => Rs.ok (chill d) (ρ.set i (some (chill d))) | _ => .bad) = .ok d ρ' := h
  cases q : ρ[i]? with
  | none => rw [q] at h'; cases h'
  | some x =>
    cases x with
    | none => rw [q] at h'; cases h'
    | some d0 =>
      rw [q] at h'
      cases h'
      exact ⟨List.getElem?_set_self (get_lt q), chill2 _⟩
theorem gets_keep {i : Nat} {d' : D} : ∀ {os : List Opd} {ρ ρ' : Env} {ds : List D}, gets gC os c ρ = .ok ds ρ' → ρ[i]? = some (some (chill d')) → ρ'[i]? = some (some (chill d'))
  | [], _, _, _, h, hi => by
    have h' : Rs.ok [] _ = .ok _ _ := h
    cases h'
    exact hi
  | o :: os, _, _, _, h, hi => by
    obtain ⟨d, ρ1, q, h⟩ := bnd_ok (m := gC o) h
    obtain ⟨ds2, ρ2, q2, h⟩ := bnd_ok (m := gets gC os) h
    cases h
    exact gets_keep q2 (gC_keep q hi)
theorem gets_slot : ∀ {os : List Opd} {ρ ρ' : Env} {ds : List D} {j i : Nat}, gets gC os c ρ = .ok ds ρ' → os[j]? = some (.slot i) → ∃ d, ds[j]? = some d ∧ ρ'[i]? = some (some d)
  | [], _, _, _, _, _, _, h => by simp at h
  | o :: os, _, _, _, j, i, h, hi => by
    obtain ⟨d, ρ1, q, h⟩ := bnd_ok (m := gC o) h
    obtain ⟨ds2, ρ2, q2, h⟩ := bnd_ok (m := gets gC os) h
    cases h
    cases j with
    | zero =>
      have e : o = .slot i := by simpa using hi
      subst e
      obtain ⟨h1, h2⟩ := gC_slot q
      refine ⟨d, rfl, ?_⟩
      have := gets_keep (d' := d) q2 (by rw [h2]; exact h1)
      rwa [h2] at this
    | succ j =>
      obtain ⟨d', h1, h2⟩ := gets_slot (j := j) q2 (by simpa using hi)
      exact ⟨d', by simpa using h1, h2⟩
theorem gets_val : ∀ {os : List Opd} {ρ ρ' : Env} {ds : List D} {j : Nat} {d0 : D}, gets gC os c ρ = .ok ds ρ' → os[j]? = some (.val d0) → ds[j]? = some (chill d0)
  | [], _, _, _, _, _, _, h => by simp at h
  | o :: os, _, _, _, j, d0, h, hi => by
    obtain ⟨d, ρ1, q, h⟩ := bnd_ok (m := gC o) h
    obtain ⟨ds2, ρ2, q2, h⟩ := bnd_ok (m := gets gC os) h
    cases h
    cases j with
    | zero =>
      have e : o = .val d0 := by simpa using hi
      subst e
      have h' : Rs.ok (chill d0) _ = .ok d ρ1 := q
      cases h'
      rfl
    | succ j => simpa using gets_val (j := j) q2 (by simpa using hi)
theorem RepOL.at : ∀ {os : List Opd} {vs : List V} {F : List Addr} {j : Nat} {v : V}, RepOL K Av H σ F vs os → vs[j]? = some v → ∃ o G, os[j]? = some o ∧ RepO K Av H σ G v o ∧ ∀ a ∈ G, a ∈ F
  | _, _, _, _, _, .nil, h => by simp at h
  | _, _, _, 0, _, .cons (F := F1) r t, h => by
    simp at h
    subst h
    exact ⟨_, F1, rfl, r, fun a ha => List.mem_append_left _ ha⟩
  | _, _, _, j + 1, _, .cons r t, h => by
    obtain ⟨o, G, h1, h2, h3⟩ := RepOL.at (j := j) t (by simpa using h)
    exact ⟨o, G, by simpa using h1, h2, fun a ha => List.mem_append_right _ (h3 a ha)⟩
def locks (os : List Opd) : List Nat := os.flatMap lockOf
/-- where a got list that is owned is owned -/
theorem got_own {os : List Opd} {j : Nat} {a : Addr} {ow : Bool} (e : EnvR K Av H σ ρ φ) (e1 : EnvR K Av1 H σ ρ' φ1) (l1 : ∀ a, Av1 a → Av a) (r : RepOL K Av H σ F vs os) (q : gets gC os c ρ = .ok ds ρ') (hv : vs[j]? = some (.ref a)) (hd : ds[j]? = some (.lst ow xs)) (ha : Av1 a) :
    (a ∈ F ∨ ∃ i ∈ locks os, a ∈ φ1 i) ∨ ∃ vs', SqL K (fun _ => none) a vs' ∧ RepL K Av1 H [] vs' xs := by
  obtain ⟨o, G, ho, ro, hG⟩ := r.at hv
  cases o with
  | slot i =>
    obtain ⟨d, h1, h2⟩ := gets_slot q ho
    rw [hd] at h1; cases h1
    obtain ⟨w, hw, rw'⟩ := e1.rep i _ h2
    rw [ro.1] at hw; cases hw
    generalize hφ : φ1 i = Fi at rw'
    cases rw' with
    | lstF _ n _ => exact absurd ha n
    | lstK k1 k3 => exact .inr ⟨_, k1, k3⟩
    | lstO _ _ _ _ _ => exact .inl (.inr ⟨i, List.mem_flatMap.mpr ⟨_, List.mem_of_getElem? ho, by simp [lockOf]⟩, by rw [hφ]; exact List.mem_cons_self⟩)
  | val d0 =>
    have h1 := gets_val q ho
    rw [hd] at h1
    have h1 : D.lst ow xs = chill d0 := Option.some.inj h1
    have r0 : Rep K Av H G (.ref a) d0 := ro
    cases d0 with
    | lst ow' ds' =>
      have h2 : D.lst ow xs = D.lst ow' (frz.frzL ds') := h1
      cases h2
      cases r0 with
      | lstF _ n _ => exact absurd (l1 a ha) n
      | lstK k1 k3 => exact .inr ⟨_, k1, k3.frz l1 fun b h => nomatch h⟩
      | lstO _ _ _ _ _ => exact .inl (.inl (hG a List.mem_cons_self))
    | dct _ _ => cases r0
    | _ => cases h1

/-- a component stands for the trees -/
def Cmp.good (K : PySem.W.Frag) (own : List Addr) : Cmp → (Addr → Prop) → Hp → List D → Prop
  | .l a, Av, H, xs => ∃ vs, ((Rd H a (.lst vs) ∧ (Av a → a ∈ own)) ∨ SqL K (fun _ => none) a vs) ∧ RepL K Av H [] vs xs
  | .t a, Av, H, xs => ∃ vs, SqT K H a vs ∧ RepL K Av H [] vs xs
  | .s x, _, _, xs => xs = x.cps.toList.map fun c => D.str ⟨#[c]⟩
theorem rep_chars {cs : List Nat} : RepL K Av H [] (cs.map fun c => V.str ⟨#[c]⟩) (cs.map fun c => D.str ⟨#[c]⟩) := by
  induction cs with
  | nil => exact .nil
  | cons c cs ih => exact .cons (F := []) (G := []) (.str _) ih
theorem Cmp.good_items (h : C.good K own Av H xs) : ∃ vs, C.items K H vs ∧ RepL K Av H [] vs xs := by
  cases C with
  | l a => obtain ⟨vs, h1, h2⟩ := h; exact ⟨vs, h1.elim (fun z => .inl z.1) sql_any, h2⟩
  | t a => exact h
  | s x =>
    have h : xs = x.cps.toList.map fun c => D.str ⟨#[c]⟩ := h
    subst h
    exact ⟨_, rfl, rep_chars⟩
theorem Cmp.good_keep {T : Addr → Prop} (ok : AvOk Av H) (hT : ∀ a, T a → Av a) (k : ∀ a o, H a = some o → ¬ T a → H' a = some o) (av : ∀ a, Av' a → Av a ∨ H a = none) (n : ∀ a ∈ own, ¬ T a) (h : C.good K own Av H xs) : C.good K own Av' H' xs := by
  cases C with
  | l a =>
    obtain ⟨vs, h1, h2⟩ := h
    exact ⟨vs, h1.imp (fun ⟨h1, h3⟩ => ⟨rd_keep0 k h1 fun t => n a (h3 (hT a t)) t, fun z => by
      rcases av a z with z | z
      · exact h3 z
      · obtain ⟨o, e⟩ := rd_some h1
        rw [e] at z; cases z⟩) id, h2.keep0 ok hT k av rfl⟩
  | t a =>
    obtain ⟨vs, h1, h2⟩ := h
    exact ⟨vs, SqT.keep0 ok hT k h1, h2.keep0 ok hT k av rfl⟩
  | s x => exact h
theorem cmp_of_rep (r : RepC K Av H v d) (hi : items d = some xs) (ho : ∀ a ow zs, v = .ref a → d = .lst ow zs → Av a → a ∈ own ∨ ∃ vs', SqL K (fun _ => none) a vs' ∧ RepL K Av H [] vs' zs) : ∃ C : Cmp, C.of v ∧ C.good K own Av H xs := by
  cases r with
  | non => cases hi
  | bl b => cases hi
  | int i => cases hi
  | str s => cases hi; exact ⟨.s s, rfl, rfl⟩
  | @tup a vs ds h1 h2 => cases hi; exact ⟨.t a, rfl, vs, h1, h2⟩
  | @lst a vs ds ow h1 h0 h2 =>
    cases hi
    rw [frzL_idem h2]
    refine ⟨.l a, rfl, ?_⟩
    by_cases hk : ∃ vs', SqL K (fun _ => none) a vs' ∧ RepL K Av H [] vs' ds
    · obtain ⟨vs', k1, k2⟩ := hk
      exact ⟨vs', .inr k1, k2⟩
    · refine ⟨vs, ?_, h2⟩
      rcases h1 with h1 | h1
      · exact .inl ⟨h1, fun z => (ho a ow ds rfl rfl z).resolve_right hk⟩
      · exact absurd ⟨vs, .inr h1, h2⟩ hk

/-! ### the walks -/
def zip2D (xs ys : List D) : List D := List.zipWith (fun x y => .tup [x, y]) xs ys
def zip3D : List D → List D → List D → List D
  | x :: xs, y :: ys, z :: zs => .tup [x, y, z] :: zip3D xs ys zs
  | _, _, _ => []
def enumD (xs : List D) : List D := xs.zipIdx.map fun p => .tup [.int (p.2 : Nat), p.1]
theorem zip3D_get : ∀ {xs ys zs : List D} {i : Nat}, (zip3D xs ys zs)[i]? = some d → ∃ x y z, xs[i]? = some x ∧ ys[i]? = some y ∧ zs[i]? = some z ∧ d = .tup [x, y, z]
  | [], _, _, _, h => by simp [zip3D] at h
  | _ :: _, [], _, _, h => by simp [zip3D] at h
  | _ :: _, _ :: _, [], _, h => by simp [zip3D] at h
  | x :: xs, y :: ys, z :: zs, 0, h => by
    simp [zip3D] at h
    exact ⟨x, y, z, rfl, rfl, rfl, h.symm⟩
  | x :: xs, y :: ys, z :: zs, i + 1, h => by
    simp only [zip3D, List.getElem?_cons_succ] at h
    simpa using zip3D_get h
theorem zip3D_len : ∀ {xs ys zs : List D}, (zip3D xs ys zs).length = min (min xs.length ys.length) zs.length
  | [], _, _ => by simp [zip3D]
  | _ :: _, [], _ => by simp [zip3D]
  | _ :: _, _ :: _, [] => by simp [zip3D]
  | x :: xs, y :: ys, z :: zs => by
    simp only [zip3D, List.length_cons]
    rw [zip3D_len]
    omega
theorem src_z2 : Src K (ItZ K c1 c2) (zip2D xs ys) own (fun Av H => c1.good K own Av H xs ∧ c2.good K own Av H ys) where
  go := fun Av H i d ⟨h1, h2⟩ ok e => by
    obtain ⟨x, y, ex, ey, rfl⟩ : ∃ x y, xs[i]? = some x ∧ ys[i]? = some y ∧ d = .tup [x, y] := by
      unfold zip2D at e
      rw [List.getElem?_zipWith] at e
      cases q1 : xs[i]? with
      | none => rw [q1] at e; cases e
      | some x =>
        cases q2 : ys[i]? with
        | none => rw [q1, q2] at e; cases e
        | some y => rw [q1, q2] at e; cases e; exact ⟨x, y, rfl, rfl, rfl⟩
    obtain ⟨v1, i1, r1⟩ := Cmp.good_items h1
    obtain ⟨v2, i2, r2⟩ := Cmp.good_items h2
    obtain ⟨a, ha, ra⟩ := r1.all2.get ex
    obtain ⟨b, hb, rb⟩ := r2.all2.get ey
    exact ⟨⟨v1, v2, i1, i2, get_lt ha, get_lt hb⟩, fun v H' ⟨T, x', y', e1, nT, e2, f1, f2⟩ => by
      subst e1; subst e2
      have q1 := Option.some.inj ((f1 _ i1).symm.trans ha)
      have q2 := Option.some.inj ((f2 _ i2).symm.trans hb)
      subst q1; subst q2
      exact ⟨Grow.tup ok nT, Rep.newTup ok nT (.cons (F := []) (G := []) ra (.cons (F := []) (G := []) rb .nil))⟩⟩
  stop := fun Av H ⟨h1, h2⟩ => by
    obtain ⟨v1, i1, r1⟩ := Cmp.good_items h1
    obtain ⟨v2, i2, r2⟩ := Cmp.good_items h2
    have l1 := r1.length
    have l2 := r2.length
    refine ⟨v1, v2, i1, i2, ?_⟩
    unfold zip2D
    rw [List.length_zipWith, l1, l2]
    omega
  keep := fun Av Av' H H' T ok hT k av n ⟨h1, h2⟩ => ⟨Cmp.good_keep ok hT k av n h1, Cmp.good_keep ok hT k av n h2⟩
theorem src_z3 : Src K (ItZ3 K c1 c2 c3) (zip3D xs ys zs) own (fun Av H => c1.good K own Av H xs ∧ c2.good K own Av H ys ∧ c3.good K own Av H zs) where
  go := fun Av H i d ⟨h1, h2, h3⟩ ok e => by
    obtain ⟨x, y, z, ex, ey, ez, rfl⟩ := zip3D_get e
    obtain ⟨v1, i1, r1⟩ := Cmp.good_items h1
    obtain ⟨v2, i2, r2⟩ := Cmp.good_items h2
    obtain ⟨v3, i3, r3⟩ := Cmp.good_items h3
    obtain ⟨a, ha, ra⟩ := r1.all2.get ex
    obtain ⟨b, hb, rb⟩ := r2.all2.get ey
    obtain ⟨u, hu, ru⟩ := r3.all2.get ez
    exact ⟨⟨v1, v2, v3, i1, i2, i3, get_lt ha, get_lt hb, get_lt hu⟩, fun v H' ⟨T, x', y', z', e1, nT, e2, f1, f2, f3⟩ => by
      subst e1; subst e2
      have q1 := Option.some.inj ((f1 _ i1).symm.trans ha)
      have q2 := Option.some.inj ((f2 _ i2).symm.trans hb)
      have q3 := Option.some.inj ((f3 _ i3).symm.trans hu)
      subst q1; subst q2; subst q3
      exact ⟨Grow.tup ok nT, Rep.newTup ok nT (.cons (F := []) (G := []) ra (.cons (F := []) (G := []) rb (.cons (F := []) (G := []) ru .nil)))⟩⟩
  stop := fun Av H ⟨h1, h2, h3⟩ => by
    obtain ⟨v1, i1, r1⟩ := Cmp.good_items h1
    obtain ⟨v2, i2, r2⟩ := Cmp.good_items h2
    obtain ⟨v3, i3, r3⟩ := Cmp.good_items h3
    have l1 := r1.length
    have l2 := r2.length
    have l3 := r3.length
    refine ⟨v1, v2, v3, i1, i2, i3, ?_⟩
    rw [zip3D_len, l1, l2, l3]
    omega
  keep := fun Av Av' H H' T ok hT k av n ⟨h1, h2, h3⟩ => ⟨Cmp.good_keep ok hT k av n h1, Cmp.good_keep ok hT k av n h2, Cmp.good_keep ok hT k av n h3⟩
theorem src_en : Src K (ItE K C) (enumD xs) own (fun Av H => C.good K own Av H xs) where
  go := fun Av H i d h1 ok e => by
    obtain ⟨x, ex, rfl⟩ : ∃ x, xs[i]? = some x ∧ d = .tup [.int (i : Nat), x] := by
      unfold enumD at e
      rw [List.getElem?_map, List.getElem?_zipIdx] at e
      cases q : xs[i]? with
      | none => rw [q] at e; cases e
      | some x =>
        rw [q] at e
        simp at e
        exact ⟨x, rfl, e.symm⟩
    obtain ⟨v1, i1, r1⟩ := Cmp.good_items h1
    obtain ⟨a, ha, ra⟩ := r1.all2.get ex
    exact ⟨⟨v1, i1, get_lt ha⟩, fun v H' ⟨T, x', e1, nT, e2, f1⟩ => by
      subst e1; subst e2
      have q1 := Option.some.inj ((f1 _ i1).symm.trans ha)
      subst q1
      exact ⟨Grow.tup ok nT, Rep.newTup ok nT (.cons (F := []) (G := []) (.int _) (.cons (F := []) (G := []) ra .nil))⟩⟩
  stop := fun Av H h1 => by
    obtain ⟨v1, i1, r1⟩ := Cmp.good_items h1
    refine ⟨v1, i1, ?_⟩
    unfold enumD
    rw [List.length_map, List.length_zipIdx, r1.length]
  keep := fun Av Av' H H' T ok hT k av n h1 => Cmp.good_keep ok hT k av n h1

/-- over what is put together of values -/
def mWalk (f : List D → Option (List D)) (mos : M (List Opd)) : M Sr := bnd mos fun os => bnd (gets gC os) fun ds => ofO ((f ds).map fun xs => (xs, locks os))
def zA2 : List D → Option (List D)
  | [a, b] => match items a, items b with
    | some xs, some ys => some (zip2D xs ys)
    | _, _ => none
  | _ => none
def zA3 : List D → Option (List D)
  | [a, b, c] => match items a, items b, items c with
    | some xs, some ys, some zs => some (zip3D xs ys zs)
    | _, _, _ => none
  | _ => none
def eA : List D → Option (List D)
  | [a] => (items a).map enumD
  | _ => none
/-- what a walk over values wants -/
def rWalk (K : PySem.W.Frag) (f : List D → Option (List D)) (rd : List V → Hp → (It → Hp → Prop) → Prop) : Prop :=
  ∀ (Av : Addr → Prop) (H : Hp) (own : List Addr) (vs : List V) (ds xs : List D) (R : It → Hp → Prop), All2 (RepC K Av H) vs ds → f ds = some xs →
    (∀ (j : Nat) a ow zs, vs[j]? = some (.ref a) → ds[j]? = some (.lst ow zs) → Av a → a ∈ own ∨ ∃ vs', SqL K (fun _ => none) a vs' ∧ RepL K Av H [] vs' zs) →
    (∀ (J : It) (ok : (Addr → Prop) → Hp → Prop), Src K J xs own ok → ok Av H → R J H) → rd vs H R
theorem walk_fin {f : List D → Option (List D)} {rd : List V → Hp → (It → Hp → Prop) → Prop} {mos : M (List Opd)} {R : It → Hp → Prop} {g : Gd} (hw : rWalk g.K f rd) (h : RI g c (mWalk f mos) σ H R) : ROL g c mos σ H fun vs H1 => rd vs H1 R := by
  obtain ⟨Av, ρ, φ, e, h⟩ := h
  refine ⟨Av, ρ, φ, e, ?_⟩
  unfold mWalk at h
  cases q : mos c ρ with
  | bad => simp only [bnd, q] at h
  | exc x ρ' => simp only [bnd, q] at h; exact h
  | ok os ρ1 =>
    simp only [bnd, q] at h
    intro vs H1 Av1 φ1 F e1 r1 ap1 nd1 st1 og1
    cases q2 : gets gC os c ρ1 with
    | bad => simp only [q2] at h
    | exc x ρ' => exact absurd q2 gets_noexc
    | ok ds ρ2 =>
      simp only [q2] at h
      obtain ⟨Av2, φ2, e2, S2, c2, l2, p2⟩ := gets_ok st1 e.ok og1 e1 r1 nd1 ap1 q2
      cases q3 : f ds with
      | none => simp only [q3, ofO, Option.map_none] at h
      | some xs =>
        simp only [q3, ofO, Option.map_some] at h
        classical
        let G := F.filter fun a => decide (Av2 a)
        have hGF : ∀ a ∈ G, a ∈ F ∧ Av2 a := fun a ha => by
          have := List.mem_filter.mp ha
          exact ⟨this.1, by simpa using this.2⟩
        let own := (vs.filterMap fun v => match v with | .ref a => some a | _ => none).filter fun a => decide (a ∈ G ∨ ∃ i ∈ locks os, a ∈ φ2 i)
        refine hw Av2 H1 own vs ds xs R c2 q3 (fun j a ow zs hv hd ha => ?_) fun J ok src hok => ?_
        · rcases got_own e1 e2 l2 r1 q2 hv hd ha with z | z
          · refine .inl (List.mem_filter.mpr ⟨List.mem_filterMap.mpr ⟨_, List.mem_of_getElem? hv, rfl⟩, ?_⟩)
            rw [decide_eq_true_eq]
            exact z.imp (fun y => List.mem_filter.mpr ⟨y, by simpa using ha⟩) id
          · exact .inr z
        · refine h J H1 Av2 φ2 G own ok e2 src hok (fun a ha => ?_) (fun a ha => (hGF a ha).2) (fun a ha i z => ap1 a (hGF a ha).1 i (p2 i a z)) S2 fun a ha => og1 a (hGF a ha).1
          have := (List.mem_filter.mp ha).2
          simpa using this
theorem zA2_inv (h : zA2 ds = some zs) : ∃ d1 d2 x1 x2, ds = [d1, d2] ∧ items d1 = some x1 ∧ items d2 = some x2 ∧ zs = zip2D x1 x2 := by
  unfold zA2 at h
  split at h
  · split at h
    · cases h; exact ⟨_, _, _, _, rfl, by assumption, by assumption, rfl⟩
    · cases h
  · cases h
theorem zA3_inv (h : zA3 ds = some zs) : ∃ d1 d2 d3 x1 x2 x3, ds = [d1, d2, d3] ∧ items d1 = some x1 ∧ items d2 = some x2 ∧ items d3 = some x3 ∧ zs = zip3D x1 x2 x3 := by
  unfold zA3 at h
  split at h
  · split at h
    · cases h; exact ⟨_, _, _, _, _, _, rfl, by assumption, by assumption, by assumption, rfl⟩
    · cases h
  · cases h
theorem eA_inv (h : eA ds = some zs) : ∃ d1 x1, ds = [d1] ∧ items d1 = some x1 ∧ zs = enumD x1 := by
  unfold eA at h
  split at h
  · rename_i a
    cases q : items a with
    | none => rw [q] at h; cases h
    | some x1 => rw [q] at h; cases h; exact ⟨_, _, rfl, q, rfl⟩
  · cases h
theorem all2_cons {α β : Type} {R : α → β → Prop} {as : List α} {b : β} {bs : List β} (h : All2 R as (b :: bs)) : ∃ a as', as = a :: as' ∧ R a b ∧ All2 R as' bs := by
  cases h with
  | cons r t => exact ⟨_, _, rfl, r, t⟩
theorem all2_nil {α β : Type} {R : α → β → Prop} {as : List α} (h : All2 R as []) : as = [] := by
  cases h; rfl
theorem rw_z2 : rWalk K zA2 (fun vs H R => ∃ v1 v2 c1 c2 xs ys, vs = [v1, v2] ∧ Cmp.of c1 v1 ∧ Cmp.of c2 v2 ∧ Cmp.items K c1 H xs ∧ Cmp.items K c2 H ys ∧ R (ItZ K c1 c2) H) := by
  intro Av H own vs ds xs R r hf ho h
  obtain ⟨d1, d2, x1, x2, rfl, q1, q2, rfl⟩ := zA2_inv hf
  obtain ⟨v1, vs, rfl, r1, r⟩ := all2_cons r
  obtain ⟨v2, vs, rfl, r2, r⟩ := all2_cons r
  obtain rfl := all2_nil r
  obtain ⟨c1, o1, g1⟩ := cmp_of_rep (own := own) r1 q1 fun a ow zs e1 e2 ha => ho 0 a ow zs (by rw [e1]; rfl) (by rw [e2]; rfl) ha
  obtain ⟨c2, o2, g2⟩ := cmp_of_rep (own := own) r2 q2 fun a ow zs e1 e2 ha => ho 1 a ow zs (by rw [e1]; rfl) (by rw [e2]; rfl) ha
  obtain ⟨ys1, i1, _⟩ := Cmp.good_items g1
  obtain ⟨ys2, i2, _⟩ := Cmp.good_items g2
  exact ⟨v1, v2, c1, c2, ys1, ys2, rfl, o1, o2, i1, i2, h _ _ src_z2 ⟨g1, g2⟩⟩
theorem rw_z3 : rWalk K zA3 (fun vs H R => ∃ v1 v2 v3 c1 c2 c3 xs ys zs, vs = [v1, v2, v3] ∧ Cmp.of c1 v1 ∧ Cmp.of c2 v2 ∧ Cmp.of c3 v3 ∧ Cmp.items K c1 H xs ∧ Cmp.items K c2 H ys ∧ Cmp.items K c3 H zs ∧ R (ItZ3 K c1 c2 c3) H) := by
  intro Av H own vs ds xs R r hf ho h
  obtain ⟨d1, d2, d3, x1, x2, x3, rfl, q1, q2, q3, rfl⟩ := zA3_inv hf
  obtain ⟨v1, vs, rfl, r1, r⟩ := all2_cons r
  obtain ⟨v2, vs, rfl, r2, r⟩ := all2_cons r
  obtain ⟨v3, vs, rfl, r3, r⟩ := all2_cons r
  obtain rfl := all2_nil r
  obtain ⟨c1, o1, g1⟩ := cmp_of_rep (own := own) r1 q1 fun a ow zs e1 e2 ha => ho 0 a ow zs (by rw [e1]; rfl) (by rw [e2]; rfl) ha
  obtain ⟨c2, o2, g2⟩ := cmp_of_rep (own := own) r2 q2 fun a ow zs e1 e2 ha => ho 1 a ow zs (by rw [e1]; rfl) (by rw [e2]; rfl) ha
  obtain ⟨c3, o3, g3⟩ := cmp_of_rep (own := own) r3 q3 fun a ow zs e1 e2 ha => ho 2 a ow zs (by rw [e1]; rfl) (by rw [e2]; rfl) ha
  obtain ⟨ys1, i1, _⟩ := Cmp.good_items g1
  obtain ⟨ys2, i2, _⟩ := Cmp.good_items g2
  obtain ⟨ys3, i3, _⟩ := Cmp.good_items g3
  exact ⟨v1, v2, v3, c1, c2, c3, ys1, ys2, ys3, rfl, o1, o2, o3, i1, i2, i3, h _ _ src_z3 ⟨g1, g2, g3⟩⟩
theorem rw_en : rWalk K eA (fun vs H R => ∃ v C xs, vs = [v] ∧ Cmp.of C v ∧ Cmp.items K C H xs ∧ R (ItE K C) H) := by
  intro Av H own vs ds xs R r hf ho h
  obtain ⟨d1, x1, rfl, q1, rfl⟩ := eA_inv hf
  obtain ⟨v1, vs, rfl, r1, r⟩ := all2_cons r
  obtain rfl := all2_nil r
  obtain ⟨c1, o1, g1⟩ := cmp_of_rep (own := own) r1 q1 fun a ow zs e1 e2 ha => ho 0 a ow zs (by rw [e1]; rfl) (by rw [e2]; rfl) ha
  obtain ⟨ys1, i1, _⟩ := Cmp.good_items g1
  exact ⟨v1, c1, ys1, rfl, o1, i1, h _ _ src_en g1⟩
theorem i_zip2 {e e2 : Expr} {mos : M (List Opd)} {p tpos : Pos} {elts : List Expr} {kk : Nat} (hm : X.mg "zip" = none) (ha : PA X [e, e2] (ROL (Cx.gd X W xr) c mos)) (hg : Gl X "zip" := by rfl)
    (hs : starEach [e, e2] X.env = (false, eval e X.env) :: starEach [e2] X.env := by rfl) (hpl : (backTo pos (starEach [e2] X.env)).any (·.1) = false := by rfl) :
    PI X (.Tuple elts kk tpos) (.Call (.Name "zip" p) [e, e2] [] pos) (RI (Cx.gd X W xr) c (mWalk zA2 mos)) := PI.weak (pi_z2 hg hm ha hs hpl) fun _ _ _ h => walk_fin rw_z2 h
theorem i_zip3 {e e2 e3 : Expr} {mos : M (List Opd)} {p tpos : Pos} {elts : List Expr} {kk : Nat} (hm : X.mg "zip" = none) (ha : PA X [e, e2, e3] (ROL (Cx.gd X W xr) c mos)) (hg : Gl X "zip" := by rfl)
    (hs : starEach [e, e2, e3] X.env = (false, eval e X.env) :: starEach [e2, e3] X.env := by rfl) (hpl : (backTo pos (starEach [e2, e3] X.env)).any (·.1) = false := by rfl) :
    PI X (.Tuple elts kk tpos) (.Call (.Name "zip" p) [e, e2, e3] [] pos) (RI (Cx.gd X W xr) c (mWalk zA3 mos)) := PI.weak (pi_z3 hg hm ha hs hpl) fun _ _ _ h => walk_fin rw_z3 h
theorem i_enum {e : Expr} {mos : M (List Opd)} {p tpos : Pos} {elts : List Expr} {kk : Nat} (hm : X.mg "enumerate" = none) (ha : PA X [e] (ROL (Cx.gd X W xr) c mos)) (hg : Gl X "enumerate" := by rfl)
    (hs : starEach [e] X.env = [(false, eval e X.env)] := by rfl) :
    PI X (.Tuple elts kk tpos) (.Call (.Name "enumerate" p) [e] [] pos) (RI (Cx.gd X W xr) c (mWalk eA mos)) := PI.weak (pi_en hg hm ha hs) fun _ _ _ h => walk_fin rw_en h

/-! ### range -/
def rngD (lo hi : Int) : List D := (List.range (hi - lo).toNat).map fun (k : Nat) => D.int (lo + k)
def fit62 (i : Int) : Bool := decide (-(2 ^ 62) ≤ i) && decide (i < 2 ^ 62)
def mRng1 (ms : M (List D)) : M Sr := bnd ms fun ds => match ds with
  | [.int j] => if fit62 j = true then pur (rngD 0 j, []) else bad
  | _ => bad
def mRng2 (ms : M (List D)) : M Sr := bnd ms fun ds => match ds with
  | [.int i, .int j] => if (fit62 i && fit62 j) = true then pur (rngD i j, []) else bad
  | _ => bad
theorem fit_iff {i : Int} (h : fit62 i = true) : -(2 ^ 62) ≤ i ∧ i < 2 ^ 62 := by
  unfold fit62 at h
  simpa using h
theorem rvl_int {i : Int} {F : List Addr} {vs : List V} {ds : List D} (h : RepL K Av H F vs (.int i :: ds)) : ∃ vs', vs = .int i :: vs' ∧ ∃ F', RepL K Av H F' vs' ds := by
  cases h with
  | cons h1 h2 => cases h1; exact ⟨_, rfl, _, h2⟩
theorem i_range1 {a : Expr} {p : Pos} {ms : M (List D)} (hm : X.mg "range" = none) (ha : PA X [a] (RVL (Cx.gd X W xr) c ms)) (hg : Gl X "range" := by rfl) (hs : starEach [a] X.env = [(false, eval a X.env)] := by rfl) :
    PI X tg (.Call (.Name "range" p) [a] [] pos) (RI (Cx.gd X W xr) c (mRng1 ms)) := by
  refine PI.weak (pi_range1 hg hm ha hs) fun σ H R ⟨Av, ρ, φ, e, h⟩ => ⟨Av, ρ, φ, e, ?_⟩
  unfold mRng1 at h
  cases q : ms c ρ with
  | bad => simp only [bnd, q] at h
  | exc x ρ' => simp only [bnd, q] at h; exact h
  | ok ds ρ1 =>
    simp only [bnd, q] at h
    intro vs H1 Av1 φ1 F e1 r1 ap1 nd1 st1 og1
    match ds, r1, h with
    | [.int j], r1, h =>
      dsimp only at h
      by_cases hf : fit62 j = true
      · rw [if_pos hf] at h
        obtain ⟨vs', rfl, F', r2⟩ := rvl_int r1
        cases r2
        obtain ⟨h1, h2⟩ := fit_iff hf
        refine ⟨j, rfl, h1, h2, ?_⟩
        have hs : Src X.K (Itr 0 j.toNat) (rngD 0 j) [] (fun _ _ => True) := by
          unfold rngD
          rw [Int.sub_zero]
          exact src_rng
        exact h _ H1 (fun a => Av1 a ∧ a ∉ F) φ1 [] [] _ (e1.lessA (fun a h => h.1) fun i a h => ⟨e1.own h, fun z => ap1 a z i h⟩) hs trivial (fun a h => nomatch h) (fun a h => nomatch h) Apart.nil (st1.drop og1 e.ok (fun a h => h.1) fun a h n => ⟨h, n⟩) OrgG.nil
      · rw [if_neg hf] at h; exact h.elim
theorem i_range2 {a b : Expr} {p : Pos} {ms : M (List D)} (hm : X.mg "range" = none) (ha : PA X [a, b] (RVL (Cx.gd X W xr) c ms)) (hg : Gl X "range" := by rfl) (hs : starEach [a, b] X.env = [(false, eval a X.env), (false, eval b X.env)] := by rfl) (hs2 : starEach [b] X.env = [(false, eval b X.env)] := by rfl) :
    PI X tg (.Call (.Name "range" p) [a, b] [] pos) (RI (Cx.gd X W xr) c (mRng2 ms)) := by
  refine PI.weak (pi_range2 hg hm ha hs hs2) fun σ H R ⟨Av, ρ, φ, e, h⟩ => ⟨Av, ρ, φ, e, ?_⟩
  unfold mRng2 at h
  cases q : ms c ρ with
  | bad => simp only [bnd, q] at h
  | exc x ρ' => simp only [bnd, q] at h; exact h
  | ok ds ρ1 =>
    simp only [bnd, q] at h
    intro vs H1 Av1 φ1 F e1 r1 ap1 nd1 st1 og1
    match ds, r1, h with
    | [.int i, .int j], r1, h =>
      dsimp only at h
      by_cases hf : (fit62 i && fit62 j) = true
      · rw [if_pos hf] at h
        obtain ⟨vs', rfl, F', r2⟩ := rvl_int r1
        obtain ⟨vs', rfl, F', r2⟩ := rvl_int r2
        cases r2
        rw [Bool.and_eq_true] at hf
        obtain ⟨h1, h2⟩ := fit_iff hf.1
        obtain ⟨h3, h4⟩ := fit_iff hf.2
        refine ⟨i, j, rfl, ⟨h1, h2, h3, h4⟩, ?_⟩
        exact h _ H1 (fun a => Av1 a ∧ a ∉ F) φ1 [] [] _ (e1.lessA (fun a h => h.1) fun i a h => ⟨e1.own h, fun z => ap1 a z i h⟩) src_rng trivial (fun a h => nomatch h) (fun a h => nomatch h) Apart.nil (st1.drop og1 e.ok (fun a h => h.1) fun a h n => ⟨h, n⟩) OrgG.nil
      · rw [if_neg hf] at h; exact h.elim
end
end Y

end
section
set_option Elab.async false
set_option linter.all false
set_option maxRecDepth 100000
set_option autoImplicit false
/-! Y16: defs by their meanings; the law. -/
namespace Y
open PySem L2

/-- what of the arguments goes back -/
def outs : List Bool → Env → List (Option D)
  | [], _ => []
  | b :: bs, o :: ρ => (match b with | true => o | false => none) :: outs bs ρ
  | _ :: bs, [] => none :: outs bs []
def protOf : List Bool → Nat → List Nat
  | [], _ => []
  | true :: bs, i => i :: protOf bs (i + 1)
  | false :: bs, i => protOf bs (i + 1)
theorem outs_len : ∀ (bs : List Bool) (ρ : Env), (outs bs ρ).length = bs.length
  | [], _ => rfl
  | b :: bs, o :: ρ => by simp [outs, outs_len bs ρ]
  | b :: bs, [] => by simp [outs, outs_len bs []]
theorem outs_get : ∀ (bs : List Bool) (ρ : Env) (i : Nat) (d : D) (k : Nat), (outs bs ρ)[i]? = some (some d) → ρ[i]? = some (some d) ∧ i + k ∈ protOf bs k
  | [], _, _, _, _, h => by simp [outs] at h
  | b :: bs, [], i, d, k, h => by
    cases i with
    | zero => simp [outs] at h
    | succ i => have := (outs_get bs [] i d (k + 1) (by simpa [outs] using h)).1; simp at this
  | b :: bs, o :: ρ, 0, d, k, h => by
    cases b with
    | true =>
      simp [outs] at h
      subst h
      exact ⟨rfl, by simp [protOf]⟩
    | false => simp [outs] at h
  | b :: bs, o :: ρ, i + 1, d, k, h => by
    obtain ⟨h1, h2⟩ := outs_get bs ρ i d (k + 1) (by simpa [outs] using h)
    refine ⟨by simpa using h1, ?_⟩
    have e : i + 1 + k = i + (k + 1) := by omega
    rw [e]
    cases b with
    | true => exact List.mem_cons_of_mem _ h2
    | false => exact h2
def L2St (n : Nat) (vs : List V) : St := vs.map some ++ List.replicate n none
/-- a def's meaning by its body's: N slots, prs which arguments go back -/
def runF (N : Nat) (prs : List Bool) (m : M Fl) (ds : List D) : Fo := match m ⟨protOf prs 0, []⟩ (ds.map some ++ List.replicate (N - ds.length) none) with
  | .ok .nx ρ => .ok .non (outs prs ρ)
  | .ok (.ret d) ρ => .ok d (outs prs ρ)
  | .exc e ρ => .exc e (outs prs ρ)
  | _ => .bad

section
variable {P : Program} {w : World} {K : PySem.W.Frag} {mg : Str → Option Value} {base : Heap} {xr : (Addr → Prop) → Hp → D → Value → Option Addr → Prop}
variable {Av Av' : Addr → Prop} {H H' : Hp} {φ φ' ψ : Nat → List Addr} {σ σ' : St} {ρ ρ' : Env} {vs : List V} {ds : List D}
theorem EnvR.outs {prs : List Bool} {n : Nat} (e : EnvR K Av' H' σ' ρ' φ') (hv : vs.length = prs.length) (hp : ∀ i, i ∈ protOf prs 0 ∨ i ∈ ([] : List Nat) → σ'[i]? = (L2St n vs)[i]?) :
    EnvR K Av' H' (vs.map some) (Y.outs prs ρ') (fun i => match (Y.outs prs ρ')[i]? with | some (some _) => φ' i | _ => []) where
  len := by rw [outs_len, List.length_map, hv]
  rep := fun i d hi => by
    obtain ⟨h1, h2⟩ := outs_get prs ρ' i d 0 hi
    obtain ⟨v, h3, h4⟩ := e.rep i d h1
    refine ⟨v, ?_, by simp only [hi]; exact h4⟩
    rw [hp i (.inl h2)] at h3
    unfold L2St at h3
    rw [List.getElem?_append] at h3
    split at h3
    · exact h3
    · rw [List.getElem?_replicate] at h3
      split at h3 <;> cases h3
  emp := fun i hi => by
    split
    · rename_i d q; exact absurd q (hi d)
    · rfl
  dis := fun i j a h1 h2 => by
    have m : ∀ i, a ∈ (match (Y.outs prs ρ')[i]? with | some (some _) => φ' i | _ => []) → a ∈ φ' i := fun i h => by
      split at h
      · exact h
      · cases h
    exact e.dis i j a (m i h1) (m j h2)
  ok := e.ok
theorem outs_sub {prs : List Bool} {i : Nat} {a : Addr} (h : a ∈ (fun i => match (Y.outs prs ρ')[i]? with | some (some _) => φ' i | _ => []) i) : a ∈ φ' i := by
  dsimp only at h
  split at h
  · exact h
  · cases h
/-- the arguments at a def's start -/
theorem EnvR.begin {n : Nat} (e : EnvR K Av H (vs.map some) (ds.map some) ψ) : EnvR K Av H (L2St n vs) (ds.map some ++ List.replicate n none) ψ where
  len := by
    have := e.len
    unfold L2St
    rw [List.length_append, List.length_append, this, List.length_replicate, List.length_replicate]
  rep := fun i d hi => by
    rw [List.getElem?_append] at hi
    split at hi
    · obtain ⟨v, h1, h2⟩ := e.rep i d hi
      refine ⟨v, ?_, h2⟩
      unfold L2St
      rw [List.getElem?_append, if_pos (get_lt h1)]
      exact h1
    · rw [List.getElem?_replicate] at hi
      split at hi <;> cases hi
  emp := fun i hi => e.emp i fun d hd => hi d (by rw [List.getElem?_append, if_pos (get_lt hd)]; exact hd)
  dis := e.dis
  ok := e.ok
theorem takes_cx {N : List Str} {qual : Str} {scope : Scope} {f : Addr} {cd : Value} {A : Around} {outer : List PySem.Env} {s : Shared} {E : XK} : Takes (cxOf (L2.CX P w) P w K mg base N qual scope f cd A outer s H E) (fun cls d _ H' => E cls d H') :=
  takes_of rfl rfl rfl rfl
theorem owns_cx {N : List Str} {qual : Str} {scope : Scope} {f : Addr} {cd : Value} {A : Around} {outer : List PySem.Env} {s : Shared} {E : XK} :
    PassesOwn (model (cxOf (L2.CX P w) P w K mg base N qual scope f cd A outer s H E).prog (cxOf (L2.CX P w) P w K mg base N qual scope f cd A outer s H E).w) (cxOf (L2.CX P w) P w K mg base N qual scope f cd A outer s H E).A (cxOf (L2.CX P w) P w K mg base N qual scope f cd A outer s H E).env (cxOf (L2.CX P w) P w K mg base N qual scope f cd A outer s H E).xe :=
  passes_of rfl
/-- THE RULE for a def: its body's meaning -/
theorem fn_ok {x qual : Str} {st : Stmt} {f : Addr} {fd : FuncData} {N ps : List Str} {k : Nat} {m : M Fl} (prs : List Bool) (F : Fun K x qual st f fd) (S : FnScope N ps (defScope st)) (hp : prs.length = ps.length)
    (hbody : ∀ (cdv : Value) (A : Around) (outer : List PySem.Env) (s : Shared) (H : Hp) (E : XK), Room k (A.deeper (PyProof.Rows.envOfC qual (defScope st) s.heap.objs.size f cdv)) → ∀ c : Ctx,
      PSs (cxOf (L2.CX P w) P w K mg base N qual (defScope st) f cdv A outer s H E) (defBody st) (RS ⟨K, fun cls d _ H' => E cls d H', xr⟩ c m)) :
    FnOk P w K mg base (L2.CX P w) (k + 1) f fd ps (spF K xr ps.length (runF N.length prs m)) := by
  refine F.okX S (fun vs H Q E h => h.1) fun cdv A outer s H vs Q E hr ⟨hv, Av, ds, ψ, e, h⟩ => ⟨_, hbody cdv A outer s H E hr ⟨protOf prs 0, []⟩, rs_post.mpr ?_⟩
  have hd : ds.length = vs.length := by
    have := e.len
    rw [List.length_map, List.length_map] at this
    exact this.symm
  have eb := e.begin (n := N.length - vs.length)
  refine ⟨Av, _, ψ, eb, ?_⟩
  unfold runF at h
  rw [hd] at h
  have hvp : vs.length = prs.length := by rw [hv, hp]
  have sub : ∀ {σ' : St} {H' : Hp} {Av' : Addr → Prop} {φ' : Nat → List Addr} {ρ' : Env}, Step [] Av Av' H H' ψ φ' → Step [] Av Av' H H' ψ (fun i => match (Y.outs prs ρ')[i]? with | some (some _) => φ' i | _ => []) := fun st => st.sub fun i a ha => outs_sub ha
  cases q : m ⟨protOf prs 0, []⟩ (ds.map some ++ List.replicate (N.length - vs.length) none) with
  | bad => rw [q] at h; exact h
  | exc x ρ' =>
    rw [q] at h
    exact fun cls y σ' H' Av' φ' e' xr' st' hp' => h cls y H' Av' _ (e'.outs (n := N.length - vs.length) hvp hp') xr' (sub (σ' := σ') st')
  | ok fl ρ' =>
    rw [q] at h
    cases fl with
    | nx => exact fun σ' H' Av' φ' e' st' hp' => h .non H' Av' _ [] (e'.outs (n := N.length - vs.length) hvp hp') .non Apart.nil (sub (σ' := σ') st') OrgG.nil
    | ret d => exact fun v σ' H' Av' φ' G e' r ap st' og hp' => h v H' Av' _ G (e'.outs (n := N.length - vs.length) hvp hp') r (fun a ha i z => ap a ha i (outs_sub z)) (sub (σ' := σ') st') og
    | brk => exact h.elim
    | cont => exact h.elim
/-- a def by its meaning, told otherwise -/
theorem spF_imp {n : Nat} {Φ Φ' : List D → Fo} (hq : ∀ ds, Φ' ds ≠ .bad → Φ ds = Φ' ds) {vs : List V} {H : Hp} {Q : VK} {E : XK} (h : spF K xr n Φ' vs H Q E) : spF K xr n Φ vs H Q E := by
  obtain ⟨hv, Av, ds, ψ, e, h⟩ := h
  refine ⟨hv, Av, ds, ψ, e, ?_⟩
  have : Φ ds = Φ' ds := hq ds fun z => by rw [z] at h; exact h
  rw [this]; exact h
theorem FnY.mk' {k n : Nat} {x qual : Str} {st : Stmt} {f : Addr} {fd : FuncData} {ps : List Str} {Φ Φ' : List D → Fo} (F : Fun K x qual st f fd) (hm : mg x = some (.ref f)) (hb : Binds K fd ps []) (G : FnOk P w K mg base (L2.CX P w) k f fd ps (spF K xr n Φ)) (hq : ∀ ds, Φ' ds ≠ .bad → Φ ds = Φ' ds) : FnY P w K mg base xr k x n Φ' :=
  ⟨f, fd, ps, G.imp fun vs H Q E h => spF_imp hq h, hm, F.kp, hb⟩
/-- the law: its script -/
theorem law_sp {Φ : List D → Fo} {a : Addr} {ns : List Int} (hO : Only H) (hS : SqL K H a (ns.map V.int)) (h : ∃ as, Φ [.lst false (ns.map D.int)] = .ok (.bl true) as) : spF K xr 1 Φ [.ref a] H (fun v _ => v = .bl true) fun _ _ _ => False := by
  obtain ⟨as, h⟩ := h
  have rl : RepL K (fun _ => False) H [] (ns.map V.int) (ns.map D.int) := by
    clear hS h
    induction ns with
    | nil => exact .nil
    | cons n ns ih => exact .cons (F := []) (G := []) (.int n) ih
  refine ⟨rfl, fun _ => False, [.lst false (ns.map D.int)], fun _ => [], ⟨rfl, fun i d hi => ?_, fun _ _ => rfl, fun _ _ _ h => (nomatch h), fun _ h => h.elim⟩, ?_⟩
  · cases i with
    | zero =>
      have hi : D.lst false (ns.map D.int) = d := by simpa using hi
      subst hi
      refine ⟨.ref a, rfl, ?_⟩
      rcases hS with hS | hS
      · exact .lstF hS id rl
      · exact .lstK (.inr hS) rl
    | succ i => simp at hi
  · rw [h]
    intro v H' Av' ψ' G _ r _ _ _
    cases r
    rfl
theorem cx_none {l : Program} {w : World} {H : Hp} {s : Shared} {e : Value} {s' : Shared} (h : L2.CX l w [] H s (fun _ _ _ => False) e s') : False := by
  obtain ⟨_, _, _, _, _, _, _, _, _, _, _, _, z⟩ := h
  exact z
end
end Y

end
section
set_option Elab.async false
set_option linter.all false
set_option maxRecDepth 100000
set_option autoImplicit false
/-! Z2: list(zip(v1, v2)) over what is tracked. -/
namespace Y
open PySem L2
section
variable {X : Cx} {pins : List (Addr × Obj)} {σ : L2.St} {H H0 : Hp} {s : Shared} {A : Around} {c1 c2 : Cmp} {z TI TO i1 i2 S : Addr} {xs ys : List V}
theorem Cmp.items_keep {K : PySem.W.Frag} {H H' : Hp} {C : Cmp} {xs : List V} (k : ∀ a o, H a = some o → H' a = some o) (h : C.items K H xs) : C.items K H' xs := by
  cases C with
  | l a =>
    rcases h with (h | ⟨o, h⟩) | h
    · exact .inl (.inl (k _ _ h))
    · exact .inl (.inr ⟨o, k _ _ h⟩)
    · exact .inr h
  | t a =>
    rcases h with (h | ⟨o, h⟩) | h
    · exact .inl (.inl (k _ _ h))
    · exact .inl (.inr ⟨o, k _ _ h⟩)
    · exact .inr h
  | s x => exact h
def Zst (c1 c2 : Cmp) (z TI TO i1 i2 : Addr) (H : Hp) (i : Nat) (h : Heap) : Prop :=
  IsTupOf2 h TI (.ref i1) (.ref i2) ∧ c1.st i1 i h ∧ c2.st i2 i h ∧ (∃ o, h.get? TO = some o) ∧ ((IsZip h z TI TO .none ∧ ∃ x y, IsTupOf2 h TO x y) ∨ ∃ T f ts, IsZipHeld h z TI TO T f ∧ H T = some (.tup ts))
theorem zl_item {Q : Option Value → Shared → Prop} {E : Value → Shared → Prop} {i : Nat} (I : Inv X pins σ H s) (hh : A.handled = none) (D : Far2 z TI TO i1 i2) (hf : ∀ b ∈ [z, TI, TO, i1, i2], FpOk X pins H b) (hqx : c1.items X.K H xs) (hqy : c2.items X.K H ys)
    (st : Zst c1 c2 z TI TO i1 i2 H i s.heap) (h1 : i < xs.length) (h2 : i < ys.length)
    (hQ : ∀ x y s', xs[i]? = some x → ys[i]? = some y → Inv X pins σ (upd H s.heap.objs.size (.tup [x, y])) s' → Zst c1 c2 z TI TO i1 i2 (upd H s.heap.objs.size (.tup [x, y])) (i + 1) s'.heap → (∀ b ∈ [z, TI, TO, i1, i2], b ≠ s.heap.objs.size) → Q (some (.ref s.heap.objs.size)) s') :
    wpAny (model X.prog X.w) A (pyNext (.ref z)) Q E s := by
  obtain ⟨hTI, hs1, hs2, ⟨oTO, hTO0⟩, hz⟩ := st
  obtain ⟨fp1, n1, P1, St1, D1, m1, f1, s1, l1, p1, b1⟩ := cmp_drawsA I (A := A.in1) hh c1 hqx hs1 (hf i1 (by simp))
  obtain ⟨fp2, n2, P2, St2, D2, m2, f2, s2, l2, p2, b2⟩ := cmp_drawsA I (A := A.in1) hh c2 hqy hs2 (hf i2 (by simp))
  have Sp := D.sep hf m1 m2 f1 f2
  have fr : H s.heap.objs.size = none := I.hok.fresh (Nat.le_refl _)
  have cells : ∀ b ∈ [z, TI, TO, i1, i2], b ≠ s.heap.objs.size := fun b hb q => by
    have ex : ∃ o, s.heap.get? b = some o := by
      have e' : b = z ∨ b = TI ∨ b = TO ∨ b = i1 ∨ b = i2 := by simpa using hb
      rcases e' with q | q | q | q | q
      · rw [q]
        rcases hz with ⟨hz, _⟩ | ⟨_, _, _, hz, _⟩ <;> exact ⟨_, hz⟩
      · rw [q]; exact ⟨_, hTI⟩
      · rw [q]; exact ⟨_, hTO0⟩
      · rw [q]; exact D1.live _ _ s1
      · rw [q]; exact D2.live _ _ s2
    obtain ⟨o, e⟩ := ex
    have := Heap.lt_size e
    rw [q] at this
    exact Nat.lt_irrefl _ this
  rcases hz with ⟨hz, x0, y0, hTO⟩ | ⟨T, f, ts, hz, hT⟩
  · refine wpAny_pyNext_zipD2_item Sp D1 D2 hz hTI hTO s1 s2 (by omega) (by omega) fun u1 u2 h' tk hP1 hP2 z' TO' h1' h2' hT hsz hk => ?_
    obtain ⟨x, hx', rx⟩ := p1 _ _ hP1
    obtain ⟨y, hy', ry⟩ := p2 _ _ hP2
    have new : ObjOk X.prog X.w (upd H s.heap.objs.size (.tup [x, y])) h' s.heap.objs.size (.tup [x, y]) :=
      ⟨by show 2 ≤ sizeLine; decide, [u1, u2], .cons rx (.cons ry .nil), ⟨_, hT, rfl, _, rfl⟩⟩
    refine hQ x y _ hx' hy' (I.turnedNew (t' := tk) (ch := [z, TI, TO, i1, i2]) (fun c o hb q => hk c o (fun q' => hb (by simp [q'])) (fun q' => hb (by simp [q'])) (fun q' => hb (by simp [q'])) (fun q' => hb (by simp [q'])) q) hf (Nat.le_refl _) new)
      ⟨hk _ _ D.TIz D.TITO D.TI1 D.TI2 hTI, b1 _ _ h1', b2 _ _ h2', ⟨_, TO'⟩, .inr ⟨_, false, _, z', upd_same⟩⟩ cells
  · obtain ⟨_, _, _, oT, hoT, _⟩ := (show ObjOk X.prog X.w H s.heap T (.tup ts) from I.hok T _ hT)
    have nT : T ≠ s.heap.objs.size := fun q => by rw [q, fr] at hT; cases hT
    refine pyNext_zipD2_held_item Sp D1 D2 hz hoT hTI s1 s2 (by omega) (by omega) fun u1 u2 h' tk hP1 hP2 z' h1' h2' hT' hsz hk => ?_
    obtain ⟨x, hx', rx⟩ := p1 _ _ hP1
    obtain ⟨y, hy', ry⟩ := p2 _ _ hP2
    have new : ObjOk X.prog X.w (upd H s.heap.objs.size (.tup [x, y])) h' s.heap.objs.size (.tup [x, y]) :=
      ⟨by show 2 ≤ sizeLine; decide, [u1, u2], .cons rx (.cons ry .nil), ⟨_, hT', rfl, _, rfl⟩⟩
    refine hQ x y _ hx' hy' (I.turnedNew (t' := tk) (ch := [z, TI, TO, i1, i2]) (fun c o hb q => hk c o (fun q' => hb (by simp [q'])) (fun q' => hb (by simp [q'])) (fun q' => hb (by simp [q'])) q) hf (Nat.le_refl _) new)
      ⟨hk _ _ D.TIz D.TI1 D.TI2 hTI, b1 _ _ h1', b2 _ _ h2', ⟨_, hk _ _ D.TOz D.TO1 D.TO2 hTO0⟩, .inr ⟨T, true, ts, z', by rw [upd_ne nT]; exact hT⟩⟩ cells
theorem zl_end {Q : Option Value → Shared → Prop} {E : Value → Shared → Prop} {i : Nat} (I : Inv X pins σ H s) (hh : A.handled = none) (D : Far2 z TI TO i1 i2) (hf : ∀ b ∈ [z, TI, TO, i1, i2], FpOk X pins H b) (hqx : c1.items X.K H xs) (hqy : c2.items X.K H ys)
    (st : Zst c1 c2 z TI TO i1 i2 H i s.heap) (h1 : i ≤ xs.length) (h2 : i ≤ ys.length) (h3 : i = xs.length ∨ i = ys.length)
    (hQ : ∀ s', Inv X pins σ H s' → (∀ c o, c ∉ [z, TI, TO, i1, i2] → s.heap.get? c = some o → s'.heap.get? c = some o) → Q none s') :
    wpAny (model X.prog X.w) A (pyNext (.ref z)) Q E s := by
  obtain ⟨hTI, hs1, hs2, ⟨oTO, hTO0⟩, hz⟩ := st
  obtain ⟨fp1, n1, P1, St1, D1, m1, f1, s1, l1, p1, b1⟩ := cmp_drawsA I (A := A.in1) hh c1 hqx hs1 (hf i1 (by simp))
  obtain ⟨fp2, n2, P2, St2, D2, m2, f2, s2, l2, p2, b2⟩ := cmp_drawsA I (A := A.in1) hh c2 hqy hs2 (hf i2 (by simp))
  have Sp := D.sep hf m1 m2 f1 f2
  rcases hz with ⟨hz, x0, y0, hTO⟩ | ⟨T, f, ts, hz, hT⟩
  · exact wpAny_pyNext_zipD2_end Sp D1 D2 hz hTI hTO s1 s2 (by omega) (by omega) (by omega) fun h' tk hk => by
      have k : ∀ c o, c ∉ [z, TI, TO, i1, i2] → s.heap.get? c = some o → h'.get? c = some o := fun c o hb q => hk c o (fun q' => hb (by simp [q'])) (fun q' => hb (by simp [q'])) (fun q' => hb (by simp [q'])) (fun q' => hb (by simp [q'])) q
      exact hQ _ (I.turnedL (t' := tk) (ch := [z, TI, TO, i1, i2]) k hf) k
  · obtain ⟨_, _, _, oT, hoT, _⟩ := (show ObjOk X.prog X.w H s.heap T (.tup ts) from I.hok T _ hT)
    exact pyNext_zipD2_held_end Sp D1 D2 hz hoT hTI s1 s2 (by omega) (by omega) (by omega) fun h' tk hk => by
      have k : ∀ c o, c ∉ [z, TI, TO, i1, i2] → s.heap.get? c = some o → h'.get? c = some o := fun c o hb q => hk c o (fun q' => hb (by simp [q'])) (fun q' => hb (by simp [q'])) (fun q' => hb (by simp [q'])) q
      exact hQ _ (I.turnedL (t' := tk) (ch := [z, TI, TO, i1, i2]) k hf) k
/-- the new list's items: new pairs -/
def Pairs (H0 H : Hp) (S : Addr) (zs : List V) (ps : List (V × V)) : Prop := All2 (fun v p => ∃ T, v = V.ref T ∧ H0 T = none ∧ T ≠ S ∧ H T = some (.tup [p.1, p.2])) zs ps
theorem zip_take {α β : Type} {xs : List α} {ys : List β} {i : Nat} {x : α} {y : β} (h1 : xs[i]? = some x) (h2 : ys[i]? = some y) : (xs.zip ys).take (i + 1) = (xs.zip ys).take i ++ [(x, y)] := by
  rw [List.take_add_one]
  have : (xs.zip ys)[i]? = some (x, y) := by
    rw [List.zip, List.getElem?_zipWith, h1, h2]
  rw [this]; rfl
theorem zl_loop {R : Result → Shared → Prop} {res : Value} (hh : A.handled = none) (D : Far2 z TI TO i1 i2) (h0S : H0 S = none) (hqx : c1.items X.K H0 xs) (hqy : c2.items X.K H0 ys) (hn : min xs.length ys.length ≤ sizeLine)
    (hR : ∀ s' H' zs, Inv X pins σ H' s' → (∀ a o, H0 a = some o → H' a = some o) → H' S = some (.lst zs) → Pairs H0 H' S zs (xs.zip ys) → R (.ok (.ret res)) s') :
    ∀ (k i : Nat) (s : Shared) (H : Hp) (zs : List V), min xs.length ys.length - i = k → i ≤ min xs.length ys.length → Inv X pins σ H s → H S = some (.lst zs) → (∀ a o, H0 a = some o → H a = some o) → (∀ b ∈ [z, TI, TO, i1, i2], FpOk X pins H b) →
      Zst c1 c2 z TI TO i1 i2 H i s.heap → Pairs H0 H S zs ((xs.zip ys).take i) → codeAny (model X.prog X.w) A (.builtin "list.extend.loop" ⟨[.ref S, .ref z, res], []⟩) R s := by
  intro k
  induction k with
  | zero =>
    intro i s H zs hk hi I hS keep hf st hp
    have ei : i = min xs.length ys.length := by omega
    refine codeAny_builtin F.entry_extend_loop ?_
    rw [Around.under_plainId F.plain_extend_loop _]
    show wpAny _ A.in1 (pyNext (.ref z) >>= _) _ _ s
    refine wpAny_bind (zl_end I hh D hf (Cmp.items_keep keep hqx) (Cmp.items_keep keep hqy) st (by omega) (by omega) (by omega) fun s' I' hk' => ?_)
    refine wpAny_pure (hR s' H zs I' keep hS ?_)
    rw [List.take_of_length_le (by rw [List.length_zip]; omega)] at hp
    exact hp
  | succ k ih =>
    intro i s H zs hk hi I hS keep hf st hp
    refine codeAny_builtin F.entry_extend_loop ?_
    rw [Around.under_plainId F.plain_extend_loop _]
    show wpAny _ A.in1 (pyNext (.ref z) >>= _) _ _ s
    refine wpAny_bind (zl_item I hh D hf (Cmp.items_keep keep hqx) (Cmp.items_keep keep hqy) st (by omega) (by omega) fun x y s' hx hy I' st' cells => ?_)
    have fr : H s.heap.objs.size = none := I.hok.fresh (Nat.le_refl _)
    have nS : S ≠ s.heap.objs.size := fun q => by rw [q, fr] at hS; cases hS
    have hS' : (upd H s.heap.objs.size (.tup [x, y])) S = some (.lst zs) := by rw [upd_ne nS]; exact hS
    obtain ⟨zl, its, n, rv, hl, e⟩ := I'.lstM hS'
    have hzs : zs.length = i := by
      have := All2.length hp
      rw [this, List.length_take, List.length_zip]
      omega
    show wpAny _ A.in1 (updateSeq S (·.push (.ref s.heap.objs.size)) >>= _) _ _ _
    refine wpAny_bind ?_
    have hits : its.length = i := by rw [← hl]; exact hzs
    refine wpAny_updateSeq e rfl (wpAny_pure ⟨plainId_quiet F.plain_extend_loop _, ?_⟩) (by rw [List.size_toArray]; omega) (by show (its.toArray.push (Value.ref s.heap.objs.size)).size ≤ sizeLine + 1; rw [Array.size_push, List.size_toArray]; omega)
    have ru : RelV (V.ref s.heap.objs.size) (Value.ref s.heap.objs.size) := rfl
    have I2 := I'.lset (ys := zs ++ [V.ref s.heap.objs.size]) (its' := its ++ [Value.ref s.heap.objs.size]) (t' := s'.toks) hS' e (f := fun a => a.push (Value.ref s.heap.objs.size)) (by simp) (rv.append (.cons ru .nil)) (by rw [List.length_append, List.length_singleton]; omega)
    have keep2 : ∀ a o, H0 a = some o → upd (upd H s.heap.objs.size (.tup [x, y])) S (.lst (zs ++ [V.ref s.heap.objs.size])) a = some o := fun a o h => by
      have n1 : a ≠ S := fun q => by rw [q, h0S] at h; cases h
      have hk := keep a o h
      have n2 : a ≠ s.heap.objs.size := fun q => by rw [q, fr] at hk; cases hk
      rw [upd_ne n1, upd_ne n2]
      exact hk
    have cS : ∀ b ∈ [z, TI, TO, i1, i2], b ≠ S := fun b hb q => by
      have := (hf b hb).1
      rw [q, hS] at this; cases this
    have hg : ∀ b o, b ≠ S → s'.heap.get? b = some o → (s'.heap.update S (Obj.mapSeq fun a => a.push (.ref s.heap.objs.size))).get? b = some o := fun b o hb h => (Heap.get?_update_other _ _ (Ne.symm hb)).trans h
    refine ih (i + 1) _ _ _ (by omega) (by omega) I2 upd_same keep2 (fun b hb => ?_) ?_ ?_
    · obtain ⟨f0, f1⟩ := hf b hb
      exact ⟨by rw [upd_ne (cS b hb), upd_ne (cells b hb)]; exact f0, f1⟩
    · obtain ⟨hTI, hs1, hs2, ⟨oTO, hTO0⟩, hz⟩ := st'
      refine ⟨hg _ _ (cS TI (by simp)) hTI, Cmp.st_at hs1 fun o => hg _ o (cS i1 (by simp)), Cmp.st_at hs2 fun o => hg _ o (cS i2 (by simp)), ⟨oTO, hg _ _ (cS TO (by simp)) hTO0⟩, ?_⟩
      rcases hz with ⟨hz, x0, y0, hTO⟩ | ⟨T, f, ts, hz, hT⟩
      · exact .inl ⟨hg _ _ (cS z (by simp)) hz, x0, y0, hg _ _ (cS TO (by simp)) hTO⟩
      · exact .inr ⟨T, f, ts, hg _ _ (cS z (by simp)) hz, by rw [upd_ne fun q => by rw [q, hS'] at hT; cases hT]; exact hT⟩
    · rw [zip_take hx hy]
      have hp' : All2 (fun v p => ∃ T, v = V.ref T ∧ H0 T = none ∧ T ≠ S ∧ upd (upd H s.heap.objs.size (.tup [x, y])) S (.lst (zs ++ [V.ref s.heap.objs.size])) T = some (.tup [p.1, p.2])) zs ((xs.zip ys).take i) := by
        refine All2.imp (fun v p ⟨T, h1, h2, h3, h4⟩ => ⟨T, h1, h2, h3, ?_⟩) hp
        have n2 : T ≠ s.heap.objs.size := fun q => by rw [q, fr] at h4; cases h4
        rw [upd_ne h3, upd_ne n2]
        exact h4
      have h0n : H0 s.heap.objs.size = none := by
        cases q : H0 s.heap.objs.size with
        | none => rfl
        | some o => have := keep _ _ q; rw [fr] at this; cases this
      have hlast : upd (upd H s.heap.objs.size (.tup [x, y])) S (.lst (zs ++ [V.ref s.heap.objs.size])) s.heap.objs.size = some (.tup [x, y]) := by
        rw [upd_ne nS.symm, upd_same]
      exact All2.append hp' (.cons ⟨s.heap.objs.size, rfl, h0n, nS.symm, hlast⟩ .nil)
/-- list(z), z the zip just made -/
theorem zl_call {Q : Value → Shared → Prop} {E : Value → Shared → Prop} (I : Inv X pins σ H s) (hh : A.handled = none) (D : Far2 z TI TO i1 i2) (hf : ∀ b ∈ [z, TI, TO, i1, i2], FpOk X pins H b) (hqx : c1.items X.K H xs) (hqy : c2.items X.K H ys)
    (st : Zst c1 c2 z TI TO i1 i2 H 0 s.heap) (hz0 : IsZip s.heap z TI TO .none) (hn : min xs.length ys.length ≤ sizeLine)
    (hQ : ∀ s' H' zs, Inv X pins σ H' s' → H s.heap.objs.size = none → (∀ a o, H a = some o → H' a = some o) → H' s.heap.objs.size = some (.lst zs) → Pairs H H' s.heap.objs.size zs (xs.zip ys) → Q (.ref s.heap.objs.size) s') :
    wpAny (model X.prog X.w) A (call (.type "list") [.ref z]) Q E s := by
  refine callType_codes (Q₁ := fun obj s₁ => obj = .ref s.heap.objs.size ∧ s₁ = { s with heap := s.heap.push { cls := .type "list", data := .seq #[] } }) F.called_list (F.typeCall_list_1 _) F.entry_list_init
    (code_list_new _ ⟨rfl, rfl⟩) fun obj s₁ h₁ => ?_
  obtain ⟨rfl, rfl⟩ := h₁
  have fr : H s.heap.objs.size = none := I.hok.fresh (Nat.le_refl _)
  have hS : (s.heap.push { cls := .type "list", data := .seq #[] }).get? s.heap.objs.size = some { cls := .type "list", data := .seq #[] } := Heap.get?_push_size _ rfl
  obtain ⟨hTI, hs1, hs2, ⟨oTO, hTO0⟩, hz⟩ := st
  have hzo : ∃ o, s.heap.get? z = some o ∧ o.cls = .type "zip" := by
    rcases hz with ⟨hz, _⟩ | ⟨_, _, _, hz, _⟩ <;> exact ⟨_, hz, rfl⟩
  have lt : ∀ {b : Addr}, (∃ o, s.heap.get? b = some o) → b ≠ s.heap.objs.size := fun ⟨o, e⟩ q => by
    have := Heap.lt_size e
    rw [q] at this
    exact Nat.lt_irrefl _ this
  have cells : ∀ b ∈ [z, TI, TO, i1, i2], b ≠ s.heap.objs.size := fun b hb => by
    have e' : b = z ∨ b = TI ∨ b = TO ∨ b = i1 ∨ b = i2 := by simpa using hb
    rcases e' with q | q | q | q | q
    · rw [q]; exact lt (hzo.imp fun _ h => h.1)
    · rw [q]; exact lt ⟨_, hTI⟩
    · rw [q]; exact lt ⟨_, hTO0⟩
    · rw [q]; exact lt ((Cmp.st_obj hs1).imp fun _ h => h.1)
    · rw [q]; exact lt ((Cmp.st_obj hs2).imp fun _ h => h.1)
  generalize hN : s.heap.objs.size = S at *
  refine ⟨⟨_, hS, rfl⟩, F.args_list_init_2 _ _, ?_⟩
  show wpAny _ A.in1.in1 (do let old ← Builtin.List.listItems (.ref S); Builtin.List.listUpdate (.ref S) (fun _ => #[]); letGo old.toList.reverse; Builtin.List.listExtendWith (.ref S) (.ref z) .none) _ _ _
  refine wpAny_bind ?_
  unfold Builtin.List.listItems
  refine wpAny_bind (wpAny_seqItems hS rfl (wpAny_pure ?_))
  show wpAny _ A.in1.in1 (updateSeq S (fun _ => #[]) >>= fun _ => letGo (#[] : Array Value).toList.reverse >>= fun _ => Builtin.List.listExtendWith (.ref S) (.ref z) .none) _ _ _
  refine wpAny_bind (wpAny_updateSeq hS rfl ?_)
  have hS₂ := Heap.get?_update_self (Obj.mapSeq (fun _ => (#[] : Array Value))) hS rfl
  have up2 : ∀ b o, b ≠ S → s.heap.get? b = some o → ((s.heap.push { cls := .type "list", data := .seq #[] }).update S (Obj.mapSeq (fun _ => (#[] : Array Value)))).get? b = some o :=
    fun b o hb e => (Heap.get?_update_other _ _ (Ne.symm hb)).trans (Heap.get?_push_of_some _ e)
  generalize hh2 : (s.heap.push { cls := .type "list", data := .seq #[] }).update S (Obj.mapSeq (fun _ => (#[] : Array Value))) = h2 at hS₂ up2
  refine wpAny_bind (wpAny_letGo ?_)
  unfold Builtin.List.listExtendWith
  obtain ⟨oz, hoz, hcz⟩ := hzo
  have hTy : ({ s with heap := h2 } : Shared).TypeIs (.ref z) "zip" := ⟨oz, up2 _ _ (cells z (by simp)) hoz, hcz⟩
  refine wpAny_bind (wpAny_typeOf hTy ?_)
  have h1 : Builtin.List.listSameRef (.ref S) (.ref z) = false := by simp [Builtin.List.listSameRef, (cells z (by simp)).symm]
  have h2' : (Value.type "zip" == Value.type "list") = false := by decide
  have h3 : (Value.type "zip" == Value.type "tuple") = false := by decide
  simp only [h1, h2', h3, Bool.or_false, Bool.false_eq_true, if_false]
  have hself : ∀ {Q' : Value → Shared → Prop} {E' : Value → Shared → Prop}, Q' (.ref z) { s with heap := h2 } → wpAny (model X.prog X.w) A.in1.in1 (pyIter (.ref z)) Q' E' { s with heap := h2 } := fun q => by
    exact wpAny_pyIter_zip (s := { s with heap := h2 }) (up2 _ _ (cells z (by simp)) hz0) q
  refine wpAny_bind (hself ?_)
  refine wpAny_bind (wpAny_holding ?_)
  unfold Builtin.List.listLengthHint
  refine wpAny_bind (wpAny_specialOf hTy zip_no_len ?_)
  show wpAny _ A.in1.in1 (specialOf (Value.ref z) (Str.ofString "__length_hint__") >>= _) _ _ _
  refine wpAny_bind (wpAny_specialOf hTy zip_no_hint ?_)
  refine wpAny_pure ?_
  show wpAny _ A.in1.in1 (rule "list.extend.makes-room" >>= fun _ => Builtin.List.listTouch (.ref S) >>= fun _ =>
    again (.builtin "list.extend.loop" ⟨[.ref S, .ref z, .none], []⟩)) _ _ _
  refine wpAny_bind (wpAny_rule ?_)
  refine wpAny_bind ?_
  show wpAny _ A.in1.in1 (updateSeq S (·.push .none) >>= fun _ => updateSeq S (·.pop)) _ _ _
  refine wpAny_bind (wpAny_updateSeq hS₂ rfl ?_)
  have hS₃ := Heap.get?_update_self (Obj.mapSeq (·.push Value.none)) hS₂ rfl
  refine wpAny_updateSeq (hz := by seq_fits) hS₃ rfl ?_
  have hS₄ := Heap.get?_update_self (Obj.mapSeq (·.pop)) hS₃ rfl
  have up4 : ∀ b o, b ≠ S → s.heap.get? b = some o → ((h2.update S (Obj.mapSeq (·.push Value.none))).update S (Obj.mapSeq (·.pop))).get? b = some o :=
    fun b o hb e => (Heap.get?_update_other _ _ (Ne.symm hb)).trans ((Heap.get?_update_other _ _ (Ne.symm hb)).trans (up2 b o hb e))
  generalize hh4 : (h2.update S (Obj.mapSeq (·.push Value.none))).update S (Obj.mapSeq (·.pop)) = h4 at hS₄ up4
  have I4 : Inv X pins σ (upd H S (.lst [])) { s with heap := h4 } := by
    refine I.laid (t' := s.toks) (fun b o e => up4 b o (lt ⟨o, e⟩) e) (Nat.le_of_eq hN) ⟨Nat.zero_le _, [], _, .nil, hS₄⟩
  have keep : ∀ a o, H a = some o → upd H S (.lst []) a = some o := fun a o h => by
    have n : a ≠ S := fun q => by rw [q, fr] at h; cases h
    rw [upd_ne n]; exact h
  refine wpAny_pure ⟨plainId_quiet F.plain_extend_loop _, zl_loop (H0 := H) (c1 := c1) (c2 := c2) (A := A.in1) hh D fr hqx hqy hn (fun s' H' zs I' k' hS' hp => ?_) _ 0 _ _ [] rfl (Nat.zero_le _) I4 upd_same keep (fun b hb => ?_) ?_ ?_⟩
  · exact ⟨rfl, hQ s' H' zs I' fr k' hS' hp⟩
  · obtain ⟨f0, f1⟩ := hf b hb
    exact ⟨by rw [upd_ne (cells b hb)]; exact f0, f1⟩
  · refine ⟨up4 _ _ (cells TI (by simp)) hTI, Cmp.st_at hs1 fun o => up4 _ o (cells i1 (by simp)), Cmp.st_at hs2 fun o => up4 _ o (cells i2 (by simp)), ⟨oTO, up4 _ _ (cells TO (by simp)) hTO0⟩, ?_⟩
    rcases hz with ⟨hz, x0, y0, hTO⟩ | ⟨T, f, ts, hz, hT⟩
    · exact .inl ⟨up4 _ _ (cells z (by simp)) hz, x0, y0, up4 _ _ (cells TO (by simp)) hTO⟩
    · exact .inr ⟨T, f, ts, up4 _ _ (cells z (by simp)) hz, keep _ _ hT⟩
  · exact .nil
/-- list(zip(e, e2)) -/
def tLZ (K : PySem.W.Frag) (ta : TA) : TE := fun σ H Q => ta σ H fun vs H1 => ∃ v1 v2 c1 c2 xs ys, vs = [v1, v2] ∧ Cmp.of c1 v1 ∧ Cmp.of c2 v2 ∧ Cmp.items K c1 H1 xs ∧ Cmp.items K c2 H1 ys ∧ min xs.length ys.length ≤ sizeLine ∧
  ∀ S H' zs, H1 S = none → (∀ a o, H1 a = some o → H' a = some o) → H' S = some (.lst zs) → Pairs H1 H' S zs (xs.zip ys) → Q (.ref S) H'
theorem pe_lz {e e2 : Expr} {ta : TA} {p p2 p3 pos : Pos} (hc : X.calm = true) (hl : Gl X "list") (hml : X.mg "list" = none) (hg : Gl X "zip") (hm : X.mg "zip" = none) (ha : PA X [e, e2] ta)
    (hs : starEach [e, e2] X.env = (false, eval e X.env) :: starEach [e2] X.env := by rfl) (hpl : (backTo p3 (starEach [e2] X.env)).any (·.1) = false := by rfl)
    (na : starEach [.Call (.Name "zip" p2) [e, e2] [] p3] X.env = (false, eval (.Call (.Name "zip" p2) [e, e2] [] p3) X.env) :: starEach [] X.env := by rfl) :
    PE X (.Call (.Name "list" p) [.Call (.Name "zip" p2) [e, e2] [] p3] [] pos) (tLZ X.K ta) := by
  refine ⟨fun pins s σ H Q I h => ?_⟩
  refine PyProof.Rows.Call_ (ld_blt I hl hml PyProof.Rows.boot_list (PyProof.Rows.callWith_type1 (PyProof.Rows.args_cons ?_ na) na))
  refine PyProof.Rows.Call_ (ld_blt I hg hm PyProof.Rows.boot_zip (PyProof.Rows.callWith_type1 (thn (ha.run p3 pins s σ H _ I h) fun us s1 ⟨vs, H1, I1, r1, q1⟩ => ?_) hs hpl))
  obtain ⟨v1, v2, c1, c2, xs, ys, ex, o1, o2, hqx, hqy, hn, q⟩ := q1
  subst ex
  cases r1 with
  | cons r rr =>
    cases rr with
    | cons r' rr =>
      cases rr
      obtain ⟨ob1, Hh1, B1, b1, k1⟩ := cmp_begins I1 c1 hqx o1 r
      obtain ⟨ob2, Hh2, B2, b2, k2⟩ := cmp_begins I1 c2 hqy o2 r'
      refine zip_begins2 B1 B2 b1 b2 fun h' hz hTI hTO g1 g2 hsz hk => PyProof.Rows.args_nil ?_
      have I2 : Inv X pins σ H1 { s1 with heap := h' } := I1.kept (t' := s1.toks) hk
      have st : Zst c1 c2 (s1.heap.objs.size + 4) (s1.heap.objs.size + 2) (s1.heap.objs.size + 3) s1.heap.objs.size (s1.heap.objs.size + 1) H1 0 h' := ⟨hTI, k1 _ _ g1, k2 _ _ g2, ⟨_, hTO⟩, .inl ⟨hz, _, _, hTO⟩⟩
      have hD : Far2 (s1.heap.objs.size + 4) (s1.heap.objs.size + 2) (s1.heap.objs.size + 3) s1.heap.objs.size (s1.heap.objs.size + 1) := by
        generalize s1.heap.objs.size = N
        constructor <;> show (_ : Nat) ≠ _ <;> omega
      refine zl_call I2 (I2.ok.hd hc) hD (fun c hcm => ?_) hqx hqy st hz hn fun s' H' zs I' n k hS hp => ⟨V.ref _, H', I', rfl, q _ H' zs n k hS hp⟩
      have hle : s1.heap.objs.size ≤ c := by
        generalize s1.heap.objs.size = N at hcm ⊢
        have e' : c = N + 4 ∨ c = N + 2 ∨ c = N + 3 ∨ c = N ∨ c = N + 1 := by simpa using hcm
        rcases e' with z | z | z | z | z <;> rw [z] <;> show N ≤ (_ : Nat) <;> omega
      exact I1.fpOk hle (I1.hok.fresh hle)
end
end Y

end
section
set_option Elab.async false
set_option linter.all false
set_option maxRecDepth 100000
set_option autoImplicit false
/-! Y17: operations on values. -/
namespace Y
open PySem L2
section
variable {X : Cx} {K : PySem.W.Frag} {Av Av' : Addr → Prop} {H H' : Hp} {v : V} {d : D} {vs : List V} {ds : List D}

theorem all2_one {α β : Type} {R : α → β → Prop} {a : α} {bs : List β} (h : All2 R [a] bs) : ∃ b, bs = [b] ∧ R a b := by
  cases h with
  | cons r t => cases t; exact ⟨_, rfl, r⟩
theorem all2_two {α β : Type} {R : α → β → Prop} {a b : α} {bs : List β} (h : All2 R [a, b] bs) : ∃ c d, bs = [c, d] ∧ R a c ∧ R b d := by
  cases h with
  | cons r t =>
    obtain ⟨_, rfl, r2⟩ := all2_one t
    exact ⟨_, _, rfl, r, r2⟩
/-- an answer that is no object, or one that stands -/
theorem ans {Q : VK} (ok : AvOk Av H) (r : Rep K Av H [] v d) (q : ∀ v H' Av' G, Grow Av Av' H H' G → Rep K Av' H' G v d → Q v H') : Q v H := q v H Av [] (Grow.refl ok) r
theorem ansT {Q : VK} (ok : AvOk Av H) (r : RepL K Av H [] vs ds) (q : ∀ v H' Av' G, Grow Av Av' H H' G → Rep K Av' H' G v (.tup ds) → Q v H') : ∀ p, H p = none → Q (.ref p) (upd H p (.tup vs)) :=
  fun p hp => q _ _ Av [] (Grow.tup ok hp) (Rep.newTup ok hp r)
theorem ansL {Q : VK} (ok : AvOk Av H) (r : RepL K Av H [] vs ds) (q : ∀ v H' Av' G, Grow Av Av' H H' G → Rep K Av' H' G v (.lst true ds) → Q v H') : ∀ p, H p = none → Q (.ref p) (upd H p (.lst vs)) :=
  fun p hp => q _ _ _ [p] (Grow.lst ok hp vs) (Rep.newLst ok hp r)
theorem RepL.app0 {vs' : List V} {ds' : List D} (h : RepL K Av H [] vs ds) (h' : RepL K Av H [] vs' ds') : RepL K Av H [] (vs ++ vs') (ds ++ ds') := h.app h'

theorem RepL.nil_iff (h : RepL K Av H [] vs ds) : vs = [] ↔ ds = [] := by
  have := h.length
  constructor
  · intro e; subst e; exact List.length_eq_zero_iff.mp this.symm
  · intro e; subst e; exact List.length_eq_zero_iff.mp this

/-! ### + -/
theorem list_add_any (l : Addr) (items : Array Value) (n : Nat) (sl : Array (Option Value)) (b : Addr) (items2 : Array Value) (n2 : Nat) (sl2 : Array (Option Value)) (hc0 : items.size + items2.size ≤ sizeLine) :
    Meets (Builtin.«list.__add__» ⟨[.ref l, .ref b], []⟩) (fun _ R s => s.heap.get? l = some { cls := .type "list", dict := none, data := .seq items n, slots := sl } ∧ s.heap.get? b = some { cls := .type "list", dict := none, data := .seq items2 n2, slots := sl2 } ∧ R (.ok (.ret (Value.ref s.heap.objs.size))) { s with heap := s.heap.push { cls := Value.type "list", data := Data.seq (items ++ items2) }, toks := s.toks }) :=
  .of_wp fun prog w A R s h => by obtain ⟨hp, g, d, tk, os⟩ := s; obtain ⟨hl, hb, h⟩ := h; have f1 := AutoSeq1.idx_int; have f2 := AutoSeq1.sub_tuple_tuple; have f3 := AutoSeq1.sub_list_list; have f4 := AutoSeq1.sub_tuple_list; have f5 := AutoSeq1.sub_list_tuple; wp_walk using AutoSeq1.wpAny_loadPart' hl, AutoSeq1.wpAny_loadPart' hb; exact ⟨_, rfl, h⟩
def rCatS (K : PySem.W.Frag) : R2 := fun x y H Q => ∃ l b xs zs, x = .ref l ∧ y = .ref b ∧ SqL K H l xs ∧ SqL K H b zs ∧ xs.length + zs.length ≤ sizeLine ∧ ∀ p, H p = none → Q (.ref p) (upd H p (.lst (xs ++ zs)))
theorem op_catS : OpR X (binaryOp .Add) (rCatS X.K) := by
  intro pins s σ H x y v u Q I rx ry h
  obtain ⟨l, b, xs, zs, rfl, rfl, hH, hB, hz, q⟩ := h
  cases rx
  cases ry
  obtain ⟨its, r, ⟨⟨c1, d1, dt1, sl1⟩, n, e, hc, hd, hdat⟩, z⟩ := I.list hH
  obtain ⟨its2, r2, ⟨⟨c2, d2, dt2, sl2⟩, n2, e2, hc2, hd2, hdat2⟩, z2⟩ := I.list hB
  simp only at hc hd hdat hc2 hd2 hdat2
  subst hc hd hdat hc2 hd2 hdat2
  have l1 := r.length
  have l2 := r2.length
  refine concat_meets ⟨_, e, rfl⟩ ⟨_, e2, rfl⟩ noFill_list_add seq_list_add F.slot_list_add F.entry_list_add (F.args_list_add_2 _ _) (list_add_any l its.toArray n sl1 b its2.toArray n2 sl2 (by rw [List.size_toArray, List.size_toArray]; omega)) ⟨e, e2, ?_⟩
  have ea : its.toArray ++ its2.toArray = (its ++ its2).toArray := by simp
  rw [ea]
  exact ⟨.ref _, _, I.lnew (t' := s.toks) (r.append r2) (by rw [List.length_append]; omega), rfl, q _ I.fresh⟩
def pAdd : List D → Option D
  | [.int a, .int b] => some (.int (a + b))
  | [.str a, .str b] => if a.length + b.length ≤ LN then some (.str (a ++ b)) else none
  | [.lst _ xs, .lst _ ys] => if xs.length + ys.length ≤ LN then some (.lst true (xs ++ ys)) else none
  | [.tup xs, .tup ys] => if xs.length + ys.length ≤ LN then some (.tup (xs ++ ys)) else none
  | _ => none
theorem o_add : OpR X (binaryOp .Add) (two (rPrim X.K pAdd)) := by
  intro pins s σ H x y v u Q I rx ry ⟨Av, ds, d, ok, r, hp, q⟩
  obtain ⟨a, b, rfl, ra, rb⟩ := all2_two r
  cases ra with
  | non => cases hp
  | bl _ => cases hp
  | int i =>
    cases rb with
    | int j =>
      have hp : some (D.int (i + j)) = some d := hp
      cases hp
      exact op_add pins s σ H _ _ v u Q I rx ry ⟨i, j, rfl, rfl, ans ok (.int _) q⟩
    | _ => cases hp
  | str i =>
    cases rb with
    | str j =>
      have hp : (if i.length + j.length ≤ LN then some (D.str (i ++ j)) else none) = some d := hp
      split at hp
      · rename_i hl
        cases hp
        exact op_add_str pins s σ H _ _ v u Q I rx ry ⟨i, j, rfl, rfl, by rw [← ln_line]; exact hl, ans ok (.str _) q⟩
      · cases hp
    | _ => cases hp
  | @tup a1 vs1 ds1 h1 h2 =>
    cases rb with
    | @tup a2 vs2 ds2 h3 h4 =>
      have hp : (if ds1.length + ds2.length ≤ LN then some (D.tup (ds1 ++ ds2)) else none) = some d := hp
      split at hp
      · rename_i hl
        cases hp
        refine op_catA pins s σ H _ _ v u Q I rx ry ⟨a1, a2, vs1, vs2, rfl, rfl, h1, h3, by rw [h2.length, h4.length, ← ln_line]; exact hl, fun e => ?_, fun _ e => ?_, fun _ _ => ansT ok (h2.app0 h4) q⟩
        · obtain rfl := h2.nil_iff.mp e
          exact ans ok (.tup h3 h4) q
        · obtain rfl := h4.nil_iff.mp e
          exact ans ok (.tup h1 (by rw [List.append_nil]; exact h2)) q
      · cases hp
    | _ => cases hp
  | @lst a1 vs1 ds1 o1 h1 h0 h2 =>
    cases rb with
    | @lst a2 vs2 ds2 o2 h3 h00 h4 =>
      have hp : (if ds1.length + ds2.length ≤ LN then some (D.lst true (ds1 ++ ds2)) else none) = some d := hp
      split at hp
      · rename_i hl
        cases hp
        exact op_catS pins s σ H _ _ v u Q I rx ry ⟨a1, a2, vs1, vs2, rfl, rfl, h1, h3, by rw [h2.length, h4.length, ← ln_line]; exact hl, ansL ok (h2.app0 h4) q⟩
      · cases hp
    | _ => cases hp

/-! ### ints -/
def pI2 (c : Int → Int → Bool) (g : Int → Int → D) : List D → Option D
  | [.int a, .int b] => if c a b = true then some (g a b) else none
  | _ => none
theorem o_ints {f : Value → Value → Sem Value} {C : Int → Int → Prop} {g : Int → Int → V} {c : Int → Int → Bool} {gd : Int → Int → D} (h : OpR X f (rI C g)) (hc : ∀ i j, c i j = true → C i j) (hg : ∀ (Av : Addr → Prop) H i j, Rep X.K Av H [] (g i j) (gd i j)) : OpR X f (two (rPrim X.K (pI2 c gd))) := by
  intro pins s σ H x y v u Q I rx ry ⟨Av, ds, d, ok, r, hp, q⟩
  obtain ⟨a, b, rfl, ra, rb⟩ := all2_two r
  cases ra with
  | int i =>
    cases rb with
    | int j =>
      have hp : (if c i j = true then some (gd i j) else none) = some d := hp
      split at hp
      · rename_i hh
        cases hp
        exact h pins s σ H _ _ v u Q I rx ry ⟨i, j, rfl, rfl, hc i j hh, ans ok (hg _ _ _ _) q⟩
      · cases hp
    | _ => cases hp
  | _ => cases hp
theorem rI_of {f : Value → Value → Sem Value} {g : Int → Int → V} (h : OpR X f (rI0 g)) : OpR X f (rI (fun _ _ => True) g) := by
  intro pins s σ H x y v u Q I rx ry ⟨i, j, e1, e2, _, q⟩
  exact h pins s σ H x y v u Q I rx ry ⟨i, j, e1, e2, q⟩
abbrev cT : Int → Int → Bool := fun _ _ => true
def pSub := pI2 cT fun i j => .int (i - j)
theorem o_sub : OpR X (binaryOp .Sub) (two (rPrim X.K pSub)) := o_ints (rI_of op_sub) (fun _ _ _ => trivial) fun _ _ _ _ => .int _
def cDiv (i j : Int) : Bool := decide (0 < j) && decide (j < 1073741824)
def pDiv := pI2 cDiv fun i j => .int (i / j)
theorem o_fdiv : OpR X (binaryOp .FloorDiv) (two (rPrim X.K pDiv)) := o_ints op_fdiv (fun i j h => by unfold cDiv at h; simpa [CDiv] using h) fun _ _ _ _ => .int _
def cMod (i j : Int) : Bool := decide (0 < j)
def pMod := pI2 cMod fun i j => .int (i % j)
theorem o_mod : OpR X (binaryOp .Mod) (two (rPrim X.K pMod)) := o_ints op_mod (fun i j h => by unfold cMod at h; simpa using h) fun _ _ _ _ => .int _
def cPow (i j : Int) : Bool := decide (0 ≤ j) && decide (j ≤ 1000000) && decide (i.natAbs < 2 ^ 64)
def pPow := pI2 cPow fun i j => .int (i ^ j.toNat)
theorem o_pow : OpR X (binaryOp .Pow) (two (rPrim X.K pPow)) := o_ints op_pow (fun i j h => by unfold cPow at h; simpa [CPow, and_assoc] using h) fun _ _ _ _ => .int _
def pLt := pI2 cT fun i j => .bl (decide (i < j))
def pLe := pI2 cT fun i j => .bl (decide (i ≤ j))
def pGt := pI2 cT fun i j => .bl (decide (j < i))
def pGe := pI2 cT fun i j => .bl (decide (j ≤ i))
theorem o_lt : OpR X (compareOp .Lt) (two (rPrim X.K pLt)) := o_ints (rI_of op_lt) (fun _ _ _ => trivial) fun _ _ _ _ => .bl _
theorem o_le : OpR X (compareOp .LtE) (two (rPrim X.K pLe)) := o_ints (rI_of op_le) (fun _ _ _ => trivial) fun _ _ _ _ => .bl _
theorem o_gt : OpR X (compareOp .Gt) (two (rPrim X.K pGt)) := o_ints (rI_of op_gt) (fun _ _ _ => trivial) fun _ _ _ _ => .bl _
theorem o_ge : OpR X (compareOp .GtE) (two (rPrim X.K pGe)) := o_ints (rI_of op_ge) (fun _ _ _ => trivial) fun _ _ _ _ => .bl _

/-! ### * -/
def cMul (i j : Int) : Bool := (decide (-(2 ^ 64) < i) && decide (i < 2 ^ 64)) || (decide (-(2 ^ 64) < j) && decide (j < 2 ^ 64))
def repD (k : Nat) (xs : List D) : List D := (List.replicate k xs).flatten
def pMul : List D → Option D
  | [.int a, .int b] => if cMul a b = true then some (.int (a * b)) else none
  | [.lst true xs, .int k] => if -(2 ^ 63) ≤ k ∧ k < 2 ^ 63 ∧ xs.length * k.toNat ≤ LN then some (.lst true (repD k.toNat xs)) else none
  | _ => none
theorem rep_rep (h : RepL K Av H [] vs ds) : ∀ k, RepL K Av H [] (List.replicate k vs).flatten (repD k ds)
  | 0 => .nil
  | k + 1 => by
    unfold repD
    rw [List.replicate_succ, List.replicate_succ, List.flatten_cons, List.flatten_cons]
    exact h.app0 (rep_rep h k)
theorem o_mul : OpR X (binaryOp .Mult) (two (rPrim X.K pMul)) := by
  intro pins s σ H x y v u Q I rx ry ⟨Av, ds, d, ok, r, hp, q⟩
  obtain ⟨a, b, rfl, ra, rb⟩ := all2_two r
  cases ra with
  | int i =>
    cases rb with
    | int j =>
      have hp : (if cMul i j = true then some (D.int (i * j)) else none) = some d := hp
      split at hp
      · rename_i hh
        cases hp
        exact op_mul pins s σ H _ _ v u Q I rx ry ⟨i, j, rfl, rfl, by unfold cMul at hh; simpa [CMul] using hh, ans ok (.int _) q⟩
      · cases hp
    | _ => cases hp
  | @lst a1 vs1 ds1 o1 h1 h0 h2 =>
    cases o1 with
    | false => cases rb <;> cases hp
    | true =>
      cases rb with
      | int k =>
        have hp : (if -(2 ^ 63) ≤ k ∧ k < 2 ^ 63 ∧ ds1.length * k.toNat ≤ LN then some (D.lst true (repD k.toNat ds1)) else none) = some d := hp
        split at hp
        · rename_i hh
          cases hp
          exact op_rep pins s σ H _ _ v u Q I rx ry ⟨a1, k, vs1, rfl, rfl, h0 rfl, hh.1, hh.2.1, by rw [h2.length, ← ln_line]; exact hh.2.2, ansL ok (rep_rep h2 _) q⟩
        · cases hp
      | _ => cases hp
  | _ => cases hp

/-! ### -x -/
def pNeg : List D → Option D
  | [.int a] => some (.int (-a))
  | _ => none
theorem u_neg : UnR X (unaryOp .USub) (fun x H Q => rPrim X.K pNeg [x] H Q) := by
  intro pins s σ H x v Q I rx ⟨Av, ds, d, ok, r, hp, q⟩
  obtain ⟨a, rfl, ra⟩ := all2_one r
  cases ra with
  | int i =>
    have hp : some (D.int (-i)) = some d := hp
    cases hp
    exact un_neg pins s σ H _ v Q I rx ⟨i, rfl, ans ok (.int _) q⟩
  | _ => cases hp

/-! ### == -/
def toP : D → PyData
  | .non => .none
  | .bl b => .bool b
  | .int i => .int i
  | .str x => .str x
  | .tup xs => .tuple (toPs xs)
  | .lst _ xs => .list (toPs xs)
  | _ => .dict []
where toPs : List D → List PyData
  | [] => []
  | x :: xs => toP x :: toPs xs
mutual
theorem Rep.dp : ∀ {d : D} {v : V}, Rep K Av H [] v d → SeqAt.shaped (toP d) = true ∨ True → Dp K H v (toP d)
  | .non, _, h, _ => by cases h; exact .non
  | .bl _, _, h, _ => by cases h; exact .bl _
  | .int _, _, h, _ => by cases h; exact .int _
  | .str _, _, h, _ => by cases h; exact .str _
  | .tup xs, _, h, _ => by
    cases h with
    | tup h1 h2 => exact .tup h1 (RepL.dp (ds := xs) h2)
  | .lst o xs, _, h, _ => by
    generalize e : ([] : List Addr) = F at h
    cases h with
    | lstF h1 _ h3 => exact .lst (.inl h1) (RepL.dp (ds := xs) h3)
    | lstK h1 h3 => exact .lst (sql_any h1) (RepL.dp (ds := xs) h3)
    | lstO _ _ _ _ _ => cases e
  | .dct _ _, _, h, _ => by cases h
  | .set _ _, _, h, _ => by cases h
  | .exn _ _, _, h, _ => by cases h
theorem RepL.dp : ∀ {ds : List D} {vs : List V}, RepL K Av H [] vs ds → DpAll K H vs (toP.toPs ds)
  | [], _, h => by
    obtain rfl := h.nil_iff.mpr rfl
    exact .nil
  | d :: ds, _, h => by
    generalize e : ([] : List Addr) = F at h
    cases h with
    | cons h1 h2 =>
      obtain ⟨e1, e2⟩ := List.append_eq_nil_iff.mp e.symm
      subst e1; subst e2
      exact .cons (Rep.dp h1 (.inr trivial)) (RepL.dp h2)
end
theorem RepC.dp (h : RepC K Av H v d) : Dp K H v (toP d) := by
  cases h with
  | non => exact .non
  | bl b => exact .bl b
  | int i => exact .int i
  | str s => exact .str s
  | tup h1 h2 => exact .tup h1 h2.dp
  | lst h1 h0 h2 => exact .lst h1 h2.dp
def okP (d : D) : Bool := SeqAt.shaped (toP d)
def pEq : List D → Option D
  | [x, y] => if (okP x && okP y) = true then some (.bl (PyData.eqv (toP x) (toP y))) else none
  | _ => none
def pNe : List D → Option D
  | [x, y] => if (okP x && okP y) = true then some (.bl (!PyData.eqv (toP x) (toP y))) else none
  | _ => none
theorem o_eq (hu : X.A.units + 64 < cLine) : OpR X (compareOp .Eq) (two (rPrim X.K pEq)) := by
  intro pins s σ H x y v u Q I rx ry ⟨Av, ds, d, ok, r, hp, q⟩
  obtain ⟨a, b, rfl, ra, rb⟩ := all2_two r
  have hp : (if (okP a && okP b) = true then some (D.bl (PyData.eqv (toP a) (toP b))) else none) = some d := hp
  split at hp
  · rename_i hh
    rw [Bool.and_eq_true] at hh
    cases hp
    exact op_eqD hu pins s σ H _ _ v u Q I rx ry ⟨_, _, ra.dp, rb.dp, hh.1, hh.2, ans ok (.bl _) q⟩
  · cases hp
theorem o_ne (hu : X.A.units + 64 < cLine) : OpR X (compareOp .NotEq) (two (rPrim X.K pNe)) := by
  intro pins s σ H x y v u Q I rx ry ⟨Av, ds, d, ok, r, hp, q⟩
  obtain ⟨a, b, rfl, ra, rb⟩ := all2_two r
  have hp : (if (okP a && okP b) = true then some (D.bl (!PyData.eqv (toP a) (toP b))) else none) = some d := hp
  split at hp
  · rename_i hh
    rw [Bool.and_eq_true] at hh
    cases hp
    exact op_neD hu pins s σ H _ _ v u Q I rx ry ⟨_, _, ra.dp, rb.dp, hh.1, hh.2, ans ok (.bl _) q⟩
  · cases hp
theorem hu_room {A : Around} {k : Nat} (hr : Room k A) : A.units + 64 < cLine := by have := hr.un; omega
theorem hu_room1 {A : Around} {k : Nat} (hr : Room k A) : A.units + 65 < cLine := by have := hr.un; omega
end
end Y

end
section
set_option Elab.async false
set_option linter.all false
set_option maxRecDepth 100000
set_option autoImplicit false
/-! Y18: in, is, subscripts, slices, built-ins. -/
namespace Y
open PySem L2
section
variable {X : Cx} {K : PySem.W.Frag} {Av Av' : Addr → Prop} {H H' : Hp} {v : V} {d : D} {vs : List V} {ds : List D}

/-! ### in -/
def hasP (ys : List D) (x : D) : Bool := (toP.toPs ys).any fun z => PyData.eqv z (toP x)
def pInG (neg : Bool) : List D → Option D
  | [x, .tup ys] => if (okP x && okP (.tup ys)) = true then some (.bl (if neg then !hasP ys x else hasP ys x)) else none
  | [x, .lst o ys] => if (okP x && okP (.lst o ys)) = true then some (.bl (if neg then !hasP ys x else hasP ys x)) else none
  | _ => none
abbrev pIn := pInG false
abbrev pNotIn := pInG true
theorem o_inG (neg : Bool) (hu : X.A.units + 65 < cLine) : OpR X (compareOp (if neg then .NotIn else .In)) (two (rPrim X.K (pInG neg))) := by
  intro pins s σ H x y v u Q I rx ry ⟨Av, ds, d, ok, r, hp, q⟩
  obtain ⟨a, b, rfl, ra, rb⟩ := all2_two r
  obtain ⟨as, r1⟩ := Dp.reads I (toP a) x v ra.dp rx
  obtain ⟨bs, r2⟩ := Dp.reads I (toP b) y u rb.dp ry
  cases rb with
  | @tup a2 vs2 ys h3 h4 =>
    have hp : (if (okP a && okP (.tup ys)) = true then some (D.bl (if neg then !hasP ys a else hasP ys a)) else none) = some d := hp
    split at hp
    · rename_i hh
      rw [Bool.and_eq_true] at hh
      cases hp
      have c1 : PyData.canLay0 (toP (.tup ys)) = true := SeqAt.canLay_of_shaped hh.2
      have c2 := SeqAt.canLay_of_shaped hh.1
      cases neg with
      | false => exact SeqAt.in_tuple_reads r2 r1 c1 c2 (PyProof.Rows.room_in_shaped hh.1 hu) ⟨.bl _, H, I, rfl, ans ok (.bl _) q⟩
      | true => exact SeqAt.notIn_tuple_reads r2 r1 c1 c2 (PyProof.Rows.room_in_shaped hh.1 hu) ⟨.bl _, H, I, rfl, ans ok (.bl _) q⟩
    · cases hp
  | @lst a2 vs2 ys o h3 h00 h4 =>
    have hp : (if (okP a && okP (.lst o ys)) = true then some (D.bl (if neg then !hasP ys a else hasP ys a)) else none) = some d := hp
    split at hp
    · rename_i hh
      rw [Bool.and_eq_true] at hh
      cases hp
      have c1 : PyData.canLay0 (toP (.lst o ys)) = true := SeqAt.canLay_of_shaped hh.2
      have c2 := SeqAt.canLay_of_shaped hh.1
      cases neg with
      | false => exact SeqAt.in_list_reads r2 r1 c1 c2 (PyProof.Rows.room_in_shaped hh.1 hu) ⟨.bl _, H, I, rfl, ans ok (.bl _) q⟩
      | true => exact SeqAt.notIn_list_reads r2 r1 c1 c2 (PyProof.Rows.room_in_shaped hh.1 hu) ⟨.bl _, H, I, rfl, ans ok (.bl _) q⟩
    · cases hp
  | _ => cases hp
theorem o_in (hu : X.A.units + 65 < cLine) : OpR X (compareOp .In) (two (rPrim X.K pIn)) := o_inG false hu
theorem o_notIn (hu : X.A.units + 65 < cLine) : OpR X (compareOp .NotIn) (two (rPrim X.K pNotIn)) := o_inG true hu
/-! ### is None -/
def isNon : D → Bool
  | .non => true
  | _ => false
def pIs : List D → Option D
  | [x, .non] => some (.bl (isNon x))
  | _ => none
def pIsNot : List D → Option D
  | [x, .non] => some (.bl (!isNon x))
  | _ => none
theorem isNon_rep {a : D} {x : V} (h : RepC K Av H x a) : decide (x = .non) = isNon a := by
  cases h <;> rfl
theorem o_is : OpR X (compareOp .Is) (two (rPrim X.K pIs)) := by
  intro pins s σ H x y v u Q I rx ry ⟨Av, ds, d, ok, r, hp, q⟩
  obtain ⟨a, b, rfl, ra, rb⟩ := all2_two r
  cases rb with
  | non =>
    have hp : some (D.bl (isNon a)) = some d := hp
    cases hp
    exact op_isN pins s σ H _ _ v u Q I rx ry ⟨rfl, by rw [isNon_rep ra]; exact ans ok (.bl _) q⟩
  | _ => cases hp
theorem o_isNot : OpR X (compareOp .IsNot) (two (rPrim X.K pIsNot)) := by
  intro pins s σ H x y v u Q I rx ry ⟨Av, ds, d, ok, r, hp, q⟩
  obtain ⟨a, b, rfl, ra, rb⟩ := all2_two r
  cases rb with
  | non =>
    have hp : some (D.bl (!isNon a)) = some d := hp
    cases hp
    exact op_notN pins s σ H _ _ v u Q I rx ry ⟨rfl, by rw [isNon_rep ra]; exact ans ok (.bl _) q⟩
  | _ => cases hp
/-! ### x[i] -/
def pIx : List D → Option D
  | [.lst _ xs, .int i] => atI xs i
  | [.tup xs, .int i] => atI xs i
  | [.str x, .int i] => if x.length ≤ LN then (atI x.cps.toList i).map fun c => .str ⟨#[c]⟩ else none
  | _ => none
theorem rep_at {i : Int} (h : RepL K Av H [] vs ds) (e : atI ds i = some d) : ∃ v, atI vs i = some v ∧ Rep K Av H [] v d := by
  unfold atI at e ⊢
  rw [h.length]
  cases q : ixN ds.length i with
  | none => rw [q] at e; cases e
  | some j =>
    rw [q] at e
    exact h.all2.get e
theorem x_ix : IxR X (two (rPrim X.K pIx)) := by
  intro value slice pins s σ H x y v u Q I rx ry ⟨Av, ds, d, ok, r, hp, q⟩ hs
  obtain ⟨a, b, rfl, ra, rb⟩ := all2_two r
  cases ra with
  | @lst a1 vs1 ds1 o1 h1 h0 h2 =>
    cases rb with
    | int i =>
      have hp : atI ds1 i = some d := hp
      obtain ⟨w, hw, rw'⟩ := rep_at h2 hp
      exact ix_seq value slice pins s σ H _ _ v u Q I rx ry (.inl ⟨a1, vs1, i, w, rfl, rfl, h1, hw, ans ok rw' q⟩) hs
    | _ => cases hp
  | @tup a1 vs1 ds1 h1 h2 =>
    cases rb with
    | int i =>
      have hp : atI ds1 i = some d := hp
      obtain ⟨w, hw, rw'⟩ := rep_at h2 hp
      exact ix_seq value slice pins s σ H _ _ v u Q I rx ry (.inr (.inl ⟨a1, vs1, i, w, rfl, rfl, h1, hw, ans ok rw' q⟩)) hs
    | _ => cases hp
  | str z =>
    cases rb with
    | int i =>
      have hp : (if z.length ≤ LN then (atI z.cps.toList i).map fun c => D.str ⟨#[c]⟩ else none) = some d := hp
      split at hp
      · rename_i hl
        cases q1 : atI z.cps.toList i with
        | none => rw [q1] at hp; cases hp
        | some c =>
          rw [q1] at hp
          cases hp
          exact ix_seq value slice pins s σ H _ _ v u Q I rx ry (.inr (.inr ⟨z, i, c, rfl, rfl, by rw [← ln_line]; exact hl, q1, ans ok (.str _) q⟩)) hs
      · cases hp
    | _ => cases hp
  | _ => cases rb <;> cases hp
/-! ### x[lo:hi] -/
def cutD (xs : List D) (lo hi : Option Int) : List D := (xs.drop (HT.sIx xs.length 0 lo)).take (HT.sIx xs.length xs.length hi - HT.sIx xs.length 0 lo)
def pSl (lo hi : Option Int) : List D → Option D
  | [.lst _ xs] => some (.lst true (cutD xs lo hi))
  | [.tup xs] => some (.tup (cutD xs lo hi))
  | [.str x] => if x.length ≤ LN then some (.str (Txt.slice x lo hi)) else none
  | _ => none
theorem rep_cut {lo hi : Option Int} (h : RepL K Av H [] vs ds) : RepL K Av H [] (cutV vs lo hi) (cutD ds lo hi) := by
  unfold cutV cutD
  rw [h.length]
  exact RepL.of_all2 ((h.all2.drop _).take _)
theorem l_sl : SlR X (fun x lo hi H Q => rPrim X.K (pSl lo hi) [x] H Q) := by
  intro pins s σ H x v vl vu lo hi sl Q I rx hs pl pu ⟨Av, ds, d, ok, r, hp, q⟩
  obtain ⟨a, rfl, ra⟩ := all2_one r
  cases ra with
  | @lst a1 vs1 ds1 o1 h1 h0 h2 =>
    have hp : some (D.lst true (cutD ds1 lo hi)) = some d := hp
    cases hp
    exact sl_list pins s σ H _ v vl vu lo hi sl Q I rx hs pl pu ⟨a1, vs1, rfl, h1, ansL ok (rep_cut h2) q⟩
  | @tup a1 vs1 ds1 h1 h2 =>
    have hp : some (D.tup (cutD ds1 lo hi)) = some d := hp
    cases hp
    refine sl_tupA pins s σ H _ v vl vu lo hi sl Q I rx hs pl pu ⟨a1, vs1, rfl, h1, fun hw => ?_, fun _ => ansT ok (rep_cut h2) q⟩
    refine ans ok (.tup h1 ?_) q
    have e : cutD ds1 lo hi = ds1 := by
      unfold cutD
      rw [← h2.length, hw.1, hw.2, h2.length]
      simp
    rw [e]; exact h2
  | str z =>
    have hp : (if z.length ≤ LN then some (D.str (Txt.slice z lo hi)) else none) = some d := hp
    split at hp
    · rename_i hl
      cases hp
      exact C8.sl_txt pins s σ H _ v vl vu lo hi sl Q I rx hs pl pu ⟨z, rfl, by rw [← ln_line]; exact hl, ans ok (.str _) q⟩
    · cases hp
  | _ => cases hp
/-! ### calls -/
def pAbs : List D → Option D
  | [.int i] => some (.int (if i < 0 then -i else i))
  | _ => none
theorem c_abs : CallR X (.builtin "abs") (rPrim X.K pAbs) := by
  intro pins s σ H xs us Q I rx ⟨Av, ds, d, ok, r, hp, q⟩
  match ds, r, hp with
  | [.int i], r, hp =>
    obtain ⟨x, xs', rfl, r1, r⟩ := all2_cons r
    obtain rfl := all2_nil r
    cases r1
    have hp : some (D.int (if i < 0 then -i else i)) = some d := hp
    cases hp
    exact call_abs pins s σ H _ us Q I rx ⟨i, rfl, ans ok (.int _) q⟩
def pLen : List D → Option D
  | [.lst _ xs] => some (.int xs.length)
  | [.tup xs] => some (.int xs.length)
  | [.str x] => if x.length ≤ LN then some (.int x.length) else none
  | _ => none
theorem c_len : CallR X (.builtin "len") (rPrim X.K pLen) := by
  intro pins s σ H xs us Q I rx ⟨Av, ds, d, ok, r, hp, q⟩
  match ds, r, hp with
  | [], r, hp => cases hp
  | a :: b :: _, r, hp => cases a <;> cases hp
  | [a], r, hp =>
    obtain ⟨x, xs', rfl, r1, r⟩ := all2_cons r
    obtain rfl := all2_nil r
    cases r1 with
    | @lst a1 vs1 ds1 o1 h1 h0 h2 =>
      have hp : some (D.int ds1.length) = some d := hp
      cases hp
      exact call_len_seq pins s σ H _ us Q I rx ⟨a1, vs1, rfl, .inl h1, by rw [h2.length]; exact ans ok (.int _) q⟩
    | @tup a1 vs1 ds1 h1 h2 =>
      have hp : some (D.int ds1.length) = some d := hp
      cases hp
      exact call_len_seq pins s σ H _ us Q I rx ⟨a1, vs1, rfl, .inr h1, by rw [h2.length]; exact ans ok (.int _) q⟩
    | str z =>
      have hp : (if z.length ≤ LN then some (D.int z.length) else none) = some d := hp
      split at hp
      · rename_i hl
        cases hp
        exact call_len_str pins s σ H _ us Q I rx ⟨z, rfl, by rw [← ln_line]; exact hl, ans ok (.int _) q⟩
      · cases hp
    | _ => cases hp
def pInt : List D → Option D
  | [.int i] => some (.int i)
  | [.bl b] => some (.int (if b then 1 else 0))
  | _ => none
theorem c_int : CallR X (.type "int") (rPrim X.K pInt) := by
  intro pins s σ H xs us Q I rx ⟨Av, ds, d, ok, r, hp, q⟩
  match ds, r, hp with
  | [.int i], r, hp =>
    obtain ⟨x, xs', rfl, r1, r⟩ := all2_cons r
    obtain rfl := all2_nil r
    cases r1
    have hp : some (D.int i) = some d := hp
    cases hp
    exact call_int1 pins s σ H _ us Q I rx (.inl ⟨i, rfl, ans ok (.int _) q⟩)
  | [.bl b], r, hp =>
    obtain ⟨x, xs', rfl, r1, r⟩ := all2_cons r
    obtain rfl := all2_nil r
    cases r1
    have hp : some (D.int (if b then 1 else 0)) = some d := hp
    cases hp
    exact call_int1 pins s σ H _ us Q I rx (.inr ⟨b, rfl, ans ok (.int _) q⟩)
def pList : List D → Option D
  | [.lst _ xs] => some (.lst true xs)
  | [.tup xs] => some (.lst true xs)
  | _ => none
theorem c_list : CallR X (.type "list") (rPrim X.K pList) := by
  intro pins s σ H xs us Q I rx ⟨Av, ds, d, ok, r, hp, q⟩
  match ds, r, hp with
  | [.lst o ds1], r, hp =>
    obtain ⟨x, xs', rfl, r1, r⟩ := all2_cons r
    obtain rfl := all2_nil r
    have hp : some (D.lst true ds1) = some d := hp
    cases hp
    cases r1 with
    | lst h1 h0 h2 => exact call_list_of pins s σ H _ us Q I rx ⟨_, _, rfl, .inl h1, ansL ok h2 q⟩
  | [.tup ds1], r, hp =>
    obtain ⟨x, xs', rfl, r1, r⟩ := all2_cons r
    obtain rfl := all2_nil r
    have hp : some (D.lst true ds1) = some d := hp
    cases hp
    cases r1 with
    | tup h1 h2 => exact call_list_of pins s σ H _ us Q I rx ⟨_, _, rfl, .inr h1, ansL ok h2 q⟩
def pTuple : List D → Option D
  | [.lst _ xs] => some (.tup xs)
  | [.tup xs] => some (.tup xs)
  | _ => none
theorem c_tuple : CallR X (.type "tuple") (rPrim X.K pTuple) := by
  intro pins s σ H xs us Q I rx ⟨Av, ds, d, ok, r, hp, q⟩
  match ds, r, hp with
  | [.lst o ds1], r, hp =>
    obtain ⟨x, xs', rfl, r1, r⟩ := all2_cons r
    obtain rfl := all2_nil r
    have hp : some (D.tup ds1) = some d := hp
    cases hp
    cases r1 with
    | lst h1 h0 h2 => exact call_tuple_of pins s σ H _ us Q I rx ⟨_, _, rfl, .inl ⟨h1, ansT ok h2 q⟩⟩
  | [.tup ds1], r, hp =>
    obtain ⟨x, xs', rfl, r1, r⟩ := all2_cons r
    obtain rfl := all2_nil r
    have hp : some (D.tup ds1) = some d := hp
    cases hp
    cases r1 with
    | tup h1 h2 => exact call_tuple_of pins s σ H _ us Q I rx ⟨_, _, rfl, .inr ⟨h1, ans ok (.tup h1 h2) q⟩⟩
/-- all bools, all ints -/
def blsOf : List D → Option (List Bool)
  | [] => some []
  | .bl b :: r => (blsOf r).map (b :: ·)
  | _ :: _ => none
def intsOf : List D → Option (List Int)
  | [] => some []
  | .int b :: r => (intsOf r).map (b :: ·)
  | _ :: _ => none
theorem blsOf_rep : ∀ {ds : List D} {vs : List V} {bs : List Bool}, All2 (Rep K Av H []) vs ds → blsOf ds = some bs → vs = bs.map V.bl
  | [], _, _, r, h => by cases h; exact all2_nil r
  | .bl b :: r, _, bs, rr, h => by
    obtain ⟨x, xs', rfl, r1, r⟩ := all2_cons rr
    have h : (blsOf _).map (b :: ·) = some bs := h
    obtain ⟨bs', h1, rfl⟩ := Option.map_eq_some_iff.mp h
    cases r1
    rw [blsOf_rep r h1]; rfl
theorem intsOf_rep : ∀ {ds : List D} {vs : List V} {bs : List Int}, All2 (Rep K Av H []) vs ds → intsOf ds = some bs → vs = bs.map V.int
  | [], _, _, r, h => by cases h; exact all2_nil r
  | .int b :: r, _, bs, rr, h => by
    obtain ⟨x, xs', rfl, r1, r⟩ := all2_cons rr
    have h : (intsOf _).map (b :: ·) = some bs := h
    obtain ⟨bs', h1, rfl⟩ := Option.map_eq_some_iff.mp h
    cases r1
    rw [intsOf_rep r h1]; rfl
def pAll : List D → Option D
  | [.lst _ xs] => (blsOf xs).map fun bs => .bl (bs.all id)
  | _ => none
def pAny : List D → Option D
  | [.lst _ xs] => (blsOf xs).map fun bs => .bl (bs.any id)
  | _ => none
theorem c_all (hc : X.calm = true) : CallR X (.builtin "all") (rPrim X.K pAll) := by
  intro pins s σ H xs us Q I rx ⟨Av, ds, d, ok, r, hp, q⟩
  match ds, r, hp with
  | [.lst o ds1], r, hp =>
    obtain ⟨x, xs', rfl, r1, r⟩ := all2_cons r
    obtain rfl := all2_nil r
    have hp : (blsOf ds1).map (fun bs => D.bl (bs.all id)) = some d := hp
    obtain ⟨bs, h1, rfl⟩ := Option.map_eq_some_iff.mp hp
    cases r1 with
    | lst h2 h0 h3 =>
      have e := blsOf_rep h3.all2 h1
      subst e
      exact cr_all hc pins s σ H _ us Q I rx ⟨_, bs, rfl, h2, ans ok (.bl _) q⟩
theorem c_any (hc : X.calm = true) : CallR X (.builtin "any") (rPrim X.K pAny) := by
  intro pins s σ H xs us Q I rx ⟨Av, ds, d, ok, r, hp, q⟩
  match ds, r, hp with
  | [.lst o ds1], r, hp =>
    obtain ⟨x, xs', rfl, r1, r⟩ := all2_cons r
    obtain rfl := all2_nil r
    have hp : (blsOf ds1).map (fun bs => D.bl (bs.any id)) = some d := hp
    obtain ⟨bs, h1, rfl⟩ := Option.map_eq_some_iff.mp hp
    cases r1 with
    | lst h2 h0 h3 =>
      have e := blsOf_rep h3.all2 h1
      subst e
      exact cr_any hc pins s σ H _ us Q I rx ⟨_, bs, rfl, h2, ans ok (.bl _) q⟩
def pSum : List D → Option D
  | [.lst _ xs] => (intsOf xs).map fun ns => .int ns.sum
  | _ => none
theorem c_sum (hc : X.calm = true) : CallR X (.builtin "sum") (rPrim X.K pSum) := by
  intro pins s σ H xs us Q I rx ⟨Av, ds, d, ok, r, hp, q⟩
  match ds, r, hp with
  | [.lst o ds1], r, hp =>
    obtain ⟨x, xs', rfl, r1, r⟩ := all2_cons r
    obtain rfl := all2_nil r
    have hp : (intsOf ds1).map (fun bs => D.int bs.sum) = some d := hp
    obtain ⟨bs, h1, rfl⟩ := Option.map_eq_some_iff.mp hp
    cases r1 with
    | lst h2 h0 h3 =>
      have e := intsOf_rep h3.all2 h1
      subst e
      exact cr_sum hc pins s σ H _ us Q I rx ⟨_, bs, rfl, h2, ans ok (.int _) q⟩
/-- ints in order -/
def insI (x : Int) : List Int → List Int
  | [] => [x]
  | y :: ys => if x ≤ y then x :: y :: ys else y :: insI x ys
def sortI : List Int → List Int
  | [] => []
  | x :: xs => insI x (sortI xs)
theorem insI_perm (x : Int) : ∀ ys, (insI x ys).Perm (x :: ys)
  | [] => List.Perm.refl _
  | y :: ys => by
    unfold insI
    split
    · exact List.Perm.refl _
    · exact ((insI_perm x ys).cons y).trans (List.Perm.swap x y ys)
theorem sortI_perm : ∀ xs, (sortI xs).Perm xs
  | [] => List.Perm.refl _
  | x :: xs => (insI_perm x _).trans ((sortI_perm xs).cons x)
theorem insI_sorted (x : Int) : ∀ {ys : List Int}, ys.Pairwise (· ≤ ·) → (insI x ys).Pairwise (· ≤ ·)
  | [], _ => by simp [insI]
  | y :: ys, h => by
    unfold insI
    split
    · rename_i hxy
      refine List.pairwise_cons.mpr ⟨fun z hz => ?_, h⟩
      rcases List.mem_cons.mp hz with e | e
      · rw [e]; exact hxy
      · exact Int.le_trans hxy ((List.pairwise_cons.mp h).1 z e)
    · rename_i hxy
      obtain ⟨h1, h2⟩ := List.pairwise_cons.mp h
      refine List.pairwise_cons.mpr ⟨fun z hz => ?_, insI_sorted x h2⟩
      rcases List.mem_cons.mp ((insI_perm x ys).mem_iff.mp hz) with e | e
      · rw [e]; omega
      · exact h1 z e
theorem sortI_sorted : ∀ xs : List Int, (sortI xs).Pairwise (· ≤ ·)
  | [] => .nil
  | x :: xs => insI_sorted x (sortI_sorted xs)
theorem sorted_uniq : ∀ {xs ys : List Int}, xs.Perm ys → xs.Pairwise (· ≤ ·) → ys.Pairwise (· ≤ ·) → xs = ys
  | [], ys, p, _, _ => (List.Perm.nil_eq p)
  | x :: xs, [], p, _, _ => absurd p.length_eq (by simp)
  | x :: xs, y :: ys, p, h1, h2 => by
    obtain ⟨a1, b1⟩ := List.pairwise_cons.mp h1
    obtain ⟨a2, b2⟩ := List.pairwise_cons.mp h2
    have e : x = y := by
      have m1 : x ∈ y :: ys := p.mem_iff.mp List.mem_cons_self
      have m2 : y ∈ x :: xs := p.mem_iff.mpr List.mem_cons_self
      have l1 : y ≤ x := (List.mem_cons.mp m1).elim (fun e => e ▸ Int.le_refl _) (a2 x)
      have l2 : x ≤ y := (List.mem_cons.mp m2).elim (fun e => e ▸ Int.le_refl _) (a1 y)
      omega
    subst e
    rw [sorted_uniq (List.Perm.cons_inv p) b1 b2]
def pSorted : List D → Option D
  | [.lst _ xs] => match intsOf xs with
    | some ns => if ns.length < 64 then some (.lst true ((sortI ns).map .int)) else none
    | none => none
  | _ => none
theorem rep_ints : ∀ {ns : List Int}, RepL K Av H [] (ns.map V.int) (ns.map D.int)
  | [] => .nil
  | n :: ns => .cons (F := []) (G := []) (.int n) rep_ints
theorem c_sorted : CallR X (.builtin "sorted") (rPrim X.K pSorted) := by
  intro pins s σ H xs us Q I rx ⟨Av, ds, d, ok, r, hp, q⟩
  match ds, r, hp with
  | [.lst o ds1], r, hp =>
    obtain ⟨x, xs', rfl, r1, r⟩ := all2_cons r
    obtain rfl := all2_nil r
    have hp : (match intsOf ds1 with
      | some ns => if ns.length < 64 then some (D.lst true ((sortI ns).map .int)) else none
      | none => none) = some d := hp
    cases q1 : intsOf ds1 with
    | none => rw [q1] at hp; cases hp
    | some ns =>
      rw [q1] at hp
      dsimp only at hp
      split at hp
      · rename_i hl
        cases hp
        cases r1 with
        | lst h2 h0 h3 =>
          have e := intsOf_rep h3.all2 q1
          subst e
          refine cr_sorted pins s σ H _ us Q I rx ⟨_, ns, rfl, h2, hl, fun ns' p h1 h4 hp => ?_⟩
          have e : ns' = sortI ns := sorted_uniq (h1.trans (sortI_perm ns).symm) h4 (sortI_sorted ns)
          subst e
          exact ansL ok rep_ints q p hp
      · cases hp
/-! ### isinstance -/
def tyD : D → Option String
  | .non => some "NoneType"
  | .bl _ => some "bool"
  | .int _ => some "int"
  | .str _ => some "str"
  | .tup _ => some "tuple"
  | .lst _ _ => some "list"
  | _ => none
/-- of the built-in types that are served -/
def subT (t T : String) : Bool := t == T || (t == "bool" && T == "int")
def tys : List String := ["bool", "int", "str", "tuple", "list"]
theorem kit_sub {a T : String} (ha : a = "NoneType" ∨ a ∈ tys) (hT : T ∈ tys) : kitB a T = some (subT a T) := by
  have h : ∀ a ∈ "NoneType" :: tys, ∀ T ∈ tys, kitB a T = some (subT a T) := by decide +kernel
  exact h a (List.mem_cons.mpr ha) T hT
theorem tyD_mem {t : String} (h : tyD d = some t) : t = "NoneType" ∨ t ∈ tys := by
  cases d <;> first | (cases h; done) | (cases h; simp [tys])
theorem rep_ty {F : List Addr} {t : String} (ok : AvOk Av H) (r : Rep K Av H F v d) (h : tyD d = some t) : TyX K H v (.type t) := by
  cases r with
  | non => cases h; exact .base .non
  | bl b => cases h; exact .base (.bl b)
  | int i => cases h; exact .base (.int i)
  | str s => cases h; exact .base (.str s)
  | tup h1 h2 =>
    cases h
    rcases h1 with (h1 | ⟨o, h1⟩) | ⟨o, its, n, hk, hc, _⟩
    · exact .base (.tup h1)
    · exact .fTuple h1
    · exact .kTuple hk hc
  | lstF h1 _ _ =>
    cases h
    rcases h1 with h1 | ⟨o, h1⟩
    · exact .base (.lst h1)
    · exact .base (.frz h1)
  | lstK h1 _ =>
    cases h
    rcases h1 with (h1 | ⟨o, h1⟩) | ⟨o, its, n, hk, hc, _⟩
    · cases h1
    · cases h1
    · exact .kList hk hc
  | lstO h1 _ _ _ _ => cases h; exact .base (.lst h1)
def isiP (Ts : List String) : List D → Option D
  | [d] => (tyD d).map fun t => .bl (Ts.any fun T => subT t T)
  | _ => none
theorem kit_any {t : String} (ht : t = "NoneType" ∨ t ∈ tys) : ∀ {Ts : List String}, (∀ T ∈ Ts, T ∈ tys) → PySem.W.kitAny K (.type t) (Ts.map Value.type) = some (Ts.any fun T => subT t T)
  | [], _ => kitAny_nil
  | T :: Ts, h => by
    have h1 := kit_ty (K := K) (kit_sub ht (h T List.mem_cons_self))
    have h2 := kit_any ht (Ts := Ts) fun T hT => h T (List.mem_cons_of_mem _ hT)
    refine kitAny_cons h1 (fun e => ?_) fun e => ?_
    · rw [h2, List.any_cons, e, Bool.false_or]
    · rw [List.any_cons, e, Bool.true_or]
end
section
variable {X : Cx} {W : WX} {xr : (Addr → Prop) → Hp → D → Value → Option Addr → Prop} {c : Ctx} {pos : Pos} {g : Gd}
theorem ro_mono {m : M Opd} {σ : L2.St} {H : Hp} {Q Q' : VK} (h : RO g c m σ H Q) (w : ∀ v H, Q v H → Q' v H) : RO g c m σ H Q' := by
  obtain ⟨Av, ρ, φ, e, h⟩ := h
  refine ⟨Av, ρ, φ, e, ?_⟩
  cases q : m c ρ with
  | bad => rw [q] at h; exact h
  | exc x ρ' => rw [q] at h; exact h
  | ok o ρ' => rw [q] at h; exact fun v H' Av' φ' G a b c d e f => w _ _ (h v H' Av' φ' G a b c d e f)
theorem rol_mono {m : M (List Opd)} {σ : L2.St} {H : Hp} {Q Q' : List V → Hp → Prop} (h : ROL g c m σ H Q) (w : ∀ v H, Q v H → Q' v H) : ROL g c m σ H Q' := by
  obtain ⟨Av, ρ, φ, e, h⟩ := h
  refine ⟨Av, ρ, φ, e, ?_⟩
  cases q : m c ρ with
  | bad => rw [q] at h; exact h
  | exc x ρ' => rw [q] at h; exact h
  | ok o ρ' => rw [q] at h; exact fun v H' Av' φ' G a b c d e f => w _ _ (h v H' Av' φ' G a b c d e f)
/-- isinstance(e, T) -/
theorem s_isi {e : Expr} {T x : String} {p p2 : Pos} {ma : M Opd} (hm : X.mg "isinstance" = none) (he : PE X e (RO (Cx.gd X W xr) c ma)) (hT : T ∈ tys) (ht : PE X (.Name x p2) (tC (.ty T))) (hg : Gl X "isinstance" := by rfl)
    (hs : starEach [e, .Name x p2] X.env = (false, eval e X.env) :: starEach [.Name x p2] X.env := by rfl) (hs2 : starEach [.Name x p2] X.env = (false, eval (.Name x p2) X.env) :: starEach [] X.env := by rfl)
    (hpl : (backTo pos (starEach [.Name x p2] X.env)).any (·.1) = false := by rfl) :
    PE X (.Call (.Name "isinstance" p) [e, .Name x p2] [] pos) (RE (Cx.gd X W xr) c (mUn gR (isiP [T]) ma)) := by
  refine PE.weak (pe_callB call_isi hg hm PyProof.Rows.boot_isinstance (pa_cons he (pa_cons ht pa_nil hs2) hs) (by decide) (by decide) hs hpl) fun σ H Q h => ?_
  refine ro_mono (ro1_fin .r h) fun v H' hv => ?_
  obtain ⟨Av, ds, d, ok, r, hp, q⟩ := hv
  obtain ⟨a, rfl, F, ra⟩ := all2_one r
  obtain ⟨t, h1, rfl⟩ := Option.map_eq_some_iff.mp (show (tyD a).map (fun t => D.bl ([T].any fun T => subT t T)) = some d from hp)
  have hk := kit_ty (K := X.K) (kit_sub (tyD_mem h1) hT)
  refine ⟨v, .ty T, _, _, subT t T, rfl, .ty T, rep_ty ok ra h1, hk, ?_⟩
  have : ([T].any fun T => subT t T) = subT t T := by simp
  rw [this] at q
  exact ans ok (.bl _) q
end
end Y

end
section
set_option Elab.async false
set_option linter.all false
set_option maxRecDepth 100000
set_option autoImplicit false
/-! Y19: isinstance of several types; list(range(..)), list(zip(..)). -/
namespace Y
open PySem L2
section
variable {X : Cx} {W : WX} {xr : (Addr → Prop) → Hp → D → Value → Option Addr → Prop} {c : Ctx} {pos : Pos} {g : Gd}
/-- names of types -/
inductive TyNs (X : Cx) : List Expr → List String → Prop
  | nil : TyNs X [] []
  | cons {e : Expr} {es : List Expr} {T : String} {Ts : List String} (h : PE X e (tC (.ty T))) (hT : T ∈ tys) (hs : starEach (e :: es) X.env = (false, eval e X.env) :: starEach es X.env) (t : TyNs X es Ts) : TyNs X (e :: es) (T :: Ts)
theorem pa_tys {es : List Expr} {Ts : List String} (h : TyNs X es Ts) : PA X es (fun _ H Q => Q (Ts.map V.ty) H) := by
  induction h with
  | nil => exact PA.weak pa_nil fun σ H Q h => h
  | cons h hT hs t ih => exact PA.weak (pa_cons h ih hs) fun σ H Q h => h
theorem tys_all {es : List Expr} {Ts : List String} (h : TyNs X es Ts) : ∀ T ∈ Ts, T ∈ tys := by
  induction h with
  | nil => exact fun T h => nomatch h
  | cons h hT hs t ih => exact fun T hm => (List.mem_cons.mp hm).elim (fun e => e ▸ hT) (ih T)
theorem tys_pair : ∀ Ts : List String, Paired ClsV (Ts.map V.ty) (Ts.map Value.type)
  | [] => .nil
  | T :: Ts => .cons (.ty T) (tys_pair Ts)
theorem s_isiT {e : Expr} {es : List Expr} {Ts : List String} {p p2 : Pos} {k : Nat} {ma : M Opd} (hm : X.mg "isinstance" = none) (he : PE X e (RO (Cx.gd X W xr) c ma)) (ht : TyNs X es Ts) (hl : Ts.length ≤ 16) (hg : Gl X "isinstance" := by rfl)
    (hs : starEach [e, .Tuple es k p2] X.env = (false, eval e X.env) :: starEach [.Tuple es k p2] X.env := by rfl) (hs2 : starEach [.Tuple es k p2] X.env = (false, eval (.Tuple es k p2) X.env) :: starEach [] X.env := by rfl)
    (hpl : (backTo pos (starEach [.Tuple es k p2] X.env)).any (·.1) = false := by rfl) :
    PE X (.Call (.Name "isinstance" p) [e, .Tuple es k p2] [] pos) (RE (Cx.gd X W xr) c (mUn gR (isiP Ts) ma)) := by
  refine PE.weak (pe_callB call_isiT hg hm PyProof.Rows.boot_isinstance (pa_cons he (pa_cons (pe_tup (pa_tys ht)) pa_nil hs2) hs) (by decide) (by decide) hs hpl) fun σ H Q h => ?_
  refine ro_mono (ro1_fin .r h) fun v H' hv => ?_
  obtain ⟨Av, ds, d, ok, r, hp, q⟩ := hv
  obtain ⟨a, rfl, F, ra⟩ := all2_one r
  obtain ⟨t, h1, rfl⟩ := Option.map_eq_some_iff.mp (show (tyD a).map (fun t => D.bl (Ts.any fun T => subT t T)) = some d from hp)
  refine ⟨by rw [List.length_map, sizeLine_eq]; omega, fun p hp => ?_⟩
  have gr := Grow.tup (o := .tup (Ts.map V.ty)) ok hp
  refine ⟨v, p, _, _, _, _, rfl, upd_same, tys_pair Ts, rep_ty gr.ok (ra.grow gr ok) h1, kit_any (tyD_mem h1) (tys_all ht), ?_⟩
  exact q _ _ Av [] gr (.bl _)

/-! ### list(range(..)) -/
def rgOk (a b : Int) : Bool := fit62 a && fit62 b && decide ((b - a).toNat ≤ 2 ^ 24)
theorem rgOk_iff {a b : Int} (h : rgOk a b = true) : RgOk a b := by
  unfold rgOk at h
  rw [Bool.and_eq_true, Bool.and_eq_true] at h
  obtain ⟨⟨h1, h2⟩, h3⟩ := h
  obtain ⟨a1, a2⟩ := fit_iff h1
  obtain ⟨a3, a4⟩ := fit_iff h2
  exact ⟨a1, a2, a3, a4, of_decide_eq_true h3⟩
theorem rep_rg {K : PySem.W.Frag} {Av : Addr → Prop} {H : Hp} (a b : Int) : RepL K Av H [] (rgV a b) (rngD a b) := by
  unfold rgV rngD
  generalize (b - a).toNat = n
  refine RepL.of_all2 ?_
  generalize List.range n = l
  induction l with
  | nil => exact .nil
  | cons k l ih => exact .cons (.int _) ih
/-- list or tuple of a range -/
def mRgD (mk : List D → D) (ms : M (List D)) : M D := bnd ms fun ds => match ds with
  | [.int j] => if rgOk 0 j = true then pur (mk (rngD 0 j)) else bad
  | [.int i, .int j] => if rgOk i j = true then pur (mk (rngD i j)) else bad
  | _ => bad
theorem asI_re {m : M D} {σ : L2.St} {H : Hp} {Q : VK} (h : RE g c m σ H Q) : RE g c m σ H Q := h
theorem s_listRg1 {a : Expr} {p p2 p3 : Pos} {m : M D} (hc : X.calm = true) (hml : X.mg "list" = none) (hmr : X.mg "range" = none) (ha : PE X a (RE (Cx.gd X W xr) c m)) (hl : Gl X "list" := by rfl) (hg : Gl X "range" := by rfl)
    (na : starEach [.Call (.Name "range" p2) [a] [] p3] X.env = (false, eval (.Call (.Name "range" p2) [a] [] p3) X.env) :: starEach [] X.env := by rfl) (n1 : starEach [a] X.env = (false, eval a X.env) :: starEach [] X.env := by rfl) :
    PE X (.Call (.Name "list" p) [.Call (.Name "range" p2) [a] [] p3] [] pos) (RE (Cx.gd X W xr) c (mRgD (.lst true) (bnd m fun x => pur [x]))) := by
  refine PE.weak (pe_listRg hc hl hml (prg_1 hg hmr ha n1) na) fun σ H Q ⟨Av, ρ, φ, e, h⟩ => ⟨Av, ρ, φ, e, ?_⟩
  unfold mRgD at h
  cases q : m c ρ with
  | bad => simp only [bnd, q] at h
  | exc x ρ' => simp only [bnd, q] at h; exact h
  | ok d ρ1 =>
    simp only [bnd, q, pur] at h
    intro v H1 Av1 φ1 G e1 r1 ap1 st1 og1
    cases d with
    | int j =>
      dsimp only at h
      by_cases hf : rgOk 0 j = true
      · rw [if_pos hf] at h
        cases r1
        refine ⟨j, rfl, rgOk_iff hf, fun q hq => ?_⟩
        have gr := Grow.lst e1.ok hq (rgV 0 j)
        exact h _ _ _ φ1 [q] (e1.grow gr) (Rep.newLst e1.ok hq (rep_rg 0 j)) (e1.apart gr) (st1.trans gr.step e.ok) ((Grow.org (φ := φ1) gr).step st1)
      · rw [if_neg hf] at h; exact h.elim
    | _ => exact h.elim
theorem s_listRg2 {a b : Expr} {p p2 p3 : Pos} {m n : M D} (hc : X.calm = true) (hml : X.mg "list" = none) (hmr : X.mg "range" = none) (ha : PE X a (RE (Cx.gd X W xr) c m)) (hb : PE X b (RE (Cx.gd X W xr) c n)) (hl : Gl X "list" := by rfl) (hg : Gl X "range" := by rfl)
    (na : starEach [.Call (.Name "range" p2) [a, b] [] p3] X.env = (false, eval (.Call (.Name "range" p2) [a, b] [] p3) X.env) :: starEach [] X.env := by rfl) (n1 : starEach [a, b] X.env = (false, eval a X.env) :: starEach [b] X.env := by rfl)
    (n2 : starEach [b] X.env = (false, eval b X.env) :: starEach [] X.env := by rfl) (n3 : (backTo p3 (starEach [b] X.env)).any (·.1) = false := by rfl) :
    PE X (.Call (.Name "list" p) [.Call (.Name "range" p2) [a, b] [] p3] [] pos) (RE (Cx.gd X W xr) c (mRgD (.lst true) (bnd m fun x => bnd n fun y => pur [x, y]))) := by
  refine PE.weak (pe_listRg hc hl hml (prg_2 hg hmr ha hb n1 n2 n3) na) fun σ H Q ⟨Av, ρ, φ, e, h⟩ => ⟨Av, ρ, φ, e, ?_⟩
  unfold mRgD at h
  cases q : m c ρ with
  | bad => simp only [bnd, q] at h
  | exc x ρ' => simp only [bnd, q] at h; exact h
  | ok d ρ1 =>
    simp only [bnd, q, pur] at h
    intro v H1 Av1 φ1 G e1 r1 ap1 st1 og1
    refine ⟨Av1, ρ1, φ1, e1, ?_⟩
    cases q2 : n c ρ1 with
    | bad => simp only [q2] at h
    | exc x ρ' => simp only [q2] at h; exact RX.from st1 e.ok h
    | ok d2 ρ2 =>
      simp only [q2] at h
      intro v2 H2 Av2 φ2 G2 e2 r2 ap2 st2 og2
      cases d with
      | int i =>
        cases d2 with
        | int j =>
          dsimp only at h
          by_cases hf : rgOk i j = true
          · rw [if_pos hf] at h
            cases r1
            cases r2
            refine ⟨i, j, rfl, rfl, rgOk_iff hf, fun q hq => ?_⟩
            have gr := Grow.lst e2.ok hq (rgV i j)
            have st := (st1.trans st2 e.ok)
            exact h _ _ _ φ2 [q] (e2.grow gr) (Rep.newLst e2.ok hq (rep_rg i j)) (e2.apart gr) (st.trans gr.step e.ok) ((Grow.org (φ := φ2) gr).step st)
          · rw [if_neg hf] at h; exact h.elim
        | _ => exact h.elim
      | _ => cases d2 <;> exact h.elim

/-! ### list(zip(..)) -/
def pLZ : List D → Option D
  | [a, b] => match items a, items b with
    | some xs, some ys => if min xs.length ys.length ≤ LN then some (.lst true (zip2D xs ys)) else none
    | _, _ => none
  | _ => none
theorem items_cmp {K : PySem.W.Frag} {Av : Addr → Prop} {H : Hp} {v : V} {d : D} {xs : List D} (r : RepC K Av H v d) (hi : items d = some xs) : ∃ (C : Cmp) (vs : List V), C.of v ∧ C.items K H vs ∧ RepL K Av H [] vs xs := by
  cases r with
  | non => cases hi
  | bl b => cases hi
  | int i => cases hi
  | str s => cases hi; exact ⟨.s s, _, rfl, rfl, rep_chars⟩
  | @tup a vs ds h1 h2 => cases hi; exact ⟨.t a, vs, rfl, h1, h2⟩
  | @lst a vs ds ow h1 h0 h2 =>
    cases hi
    rw [frzL_idem h2]
    exact ⟨.l a, vs, rfl, h1, h2⟩
theorem pairs_rep {K : PySem.W.Frag} {Av Av' : Addr → Prop} {H H' : Hp} {S : Addr} (k : ∀ {v : V} {d : D}, Rep K Av H [] v d → Rep K Av' H' [] v d) : ∀ {zs us vs : List V} {xs ys : List D}, Pairs H H' S zs (us.zip vs) → RepL K Av H [] us xs → RepL K Av H [] vs ys → RepL K Av' H' [] zs (zip2D xs ys) := by
  intro zs us vs xs ys hp r1 r2
  have a1 := r1.all2
  have a2 := r2.all2
  clear r1 r2
  refine RepL.of_all2 ?_
  induction a1 generalizing zs vs ys with
  | nil =>
    cases hp
    exact .nil
  | cons h t ih =>
    cases a2 with
    | nil =>
      cases hp
      exact .nil
    | cons h2 t2 =>
      cases hp with
      | cons hh tt =>
        obtain ⟨T, rfl, _, _, hT⟩ := hh
        exact .cons (.tup (.inl (.inl hT)) (.cons (F := []) (G := []) (k h) (.cons (F := []) (G := []) (k h2) .nil))) (ih tt t2)
theorem s_listZip {e e2 : Expr} {mos : M (List Opd)} {p p2 p3 : Pos} (hc : X.calm = true) (hml : X.mg "list" = none) (hmz : X.mg "zip" = none) (ha : PA X [e, e2] (ROL (Cx.gd X W xr) c mos)) (hl : Gl X "list" := by rfl) (hg : Gl X "zip" := by rfl)
    (hs : starEach [e, e2] X.env = (false, eval e X.env) :: starEach [e2] X.env := by rfl) (hpl : (backTo p3 (starEach [e2] X.env)).any (·.1) = false := by rfl)
    (na : starEach [.Call (.Name "zip" p2) [e, e2] [] p3] X.env = (false, eval (.Call (.Name "zip" p2) [e, e2] [] p3) X.env) :: starEach [] X.env := by rfl) :
    PE X (.Call (.Name "list" p) [.Call (.Name "zip" p2) [e, e2] [] p3] [] pos) (RE (Cx.gd X W xr) c (mPrim gC pLZ mos)) := by
  refine PE.weak (pe_lz hc hl hml hg hmz ha hs hpl na) fun σ H Q h => ?_
  refine rol_mono (rol_fin .c h) fun vs H1 hv => ?_
  obtain ⟨Av, ds, d, ok, r, hp, q⟩ := hv
  obtain ⟨d1, d2, x1, x2, rfl, q1, q2, hlen, rfl⟩ : ∃ d1 d2 x1 x2, ds = [d1, d2] ∧ items d1 = some x1 ∧ items d2 = some x2 ∧ min x1.length x2.length ≤ LN ∧ d = .lst true (zip2D x1 x2) := by
    unfold pLZ at hp
    split at hp
    · split at hp
      · split at hp
        · cases hp; exact ⟨_, _, _, _, rfl, by assumption, by assumption, by assumption, rfl⟩
        · cases hp
      · cases hp
    · cases hp
  obtain ⟨v1, vs, rfl, r1, r⟩ := all2_cons r
  obtain ⟨v2, vs, rfl, r2, r⟩ := all2_cons r
  obtain rfl := all2_nil r
  obtain ⟨C1, us, o1, i1, l1⟩ := items_cmp r1 q1
  obtain ⟨C2, ws, o2, i2, l2⟩ := items_cmp r2 q2
  refine ⟨v1, v2, C1, C2, us, ws, rfl, o1, o2, i1, i2, by rw [l1.length, l2.length, ← ln_line]; exact hlen, fun S H' zs hn k hS hps => ?_⟩
  have gr : Grow Av (fun a => Av a ∨ a = S) H1 H' [S] := ⟨k, fun a => by simp, fun a h => by rw [show a = S by simpa using h]; exact hn, fun a h => by
    rcases h with h | h
    · obtain ⟨u, e, m⟩ := ok a h; exact ⟨u, k _ _ e, m⟩
    · subst h; exact ⟨_, hS, trivial⟩⟩
  refine q (.ref S) H' _ [S] gr (.lstO (F := []) hS (.inr rfl) (pairs_rep (fun r => r.grow gr ok) hps l1 l2) (by simp) (by simp))
end
end Y

end
section
set_option Elab.async false
set_option linter.all false
set_option maxRecDepth 100000
set_option autoImplicit false
/-! Y20: the rules in short. -/
namespace Y
open PySem L2
def kindB (a b : NameKind) : Bool := decide (a = b)
/-- a comprehension's names -/
def blkB (N : List Str) (sc scope : Scope) (own : List (Str × Nat)) : Bool :=
  decide (scope.kind = .function) && scope.names.all (fun y => decide (scope.names.lookup y.1 = some y.2)) && own.all (fun p => decide (N[p.2]? = some p.1)) &&
    scope.names.all (fun y => decide (y.2 ≠ .free) || decide (sc.names.lookup y.1 = some .cell) || decide (sc.names.lookup y.1 = some .free)) &&
    scope.names.all (fun y => !(decide (y.2 = .local) || decide (y.2 = .cell)) || decide (y.1 ∈ own.map (·.1)) || decide (y.1 ∉ N))
theorem blk_of {N : List Str} {sc scope : Scope} {own : List (Str × Nat)} (h : blkB N sc scope own = true) : BlkOk N sc scope own := by
  unfold blkB at h
  simp only [Bool.and_eq_true, decide_eq_true_eq, List.all_eq_true] at h
  obtain ⟨⟨⟨⟨h1, h2⟩, h3⟩, h4⟩, h5⟩ := h
  refine ⟨h1, h2, h3, fun y hy hf => ?_, fun y hy hk => ?_⟩
  · have := h4 y hy
    simp only [Bool.or_eq_true, decide_eq_true_eq] at this
    rcases this with (z | z) | z
    · exact absurd hf z
    · exact .inl z
    · exact .inr z
  · have := h5 y hy
    simp only [Bool.or_eq_true, decide_eq_true_eq, Bool.not_eq_true', Bool.or_eq_false_iff, decide_eq_false_iff_not] at this
    rcases this with (⟨z1, z2⟩ | z) | z
    · exact absurd hk (fun q => q.elim z1 z2)
    · exact .inl z
    · exact .inr z
section
variable {X : Cx} {W : WX} {xr : (Addr → Prop) → Hp → D → Value → Option Addr → Prop} {c : Ctx} {pos : Pos}
theorem gN (i : Nat) {x : Str} (hN : X.N.Nodup) (hi : X.N[i]? = some x := by rfl) (hx : Loc X.env.scope x := by first | exact Or.inl rfl | exact Or.inr rfl) (hf : X.fn x = true ∨ X.env.scope.names.lookup x = some .local := by first | exact Or.inl rfl | exact Or.inr rfl) :
    PG X (.Name x pos) (RG (Cx.gd X W xr) c (setS i)) := g_name hN hi hx hf
theorem gL0 : PGs X [] (RGs (Cx.gd X W xr) c tgNil) := gs_nil
theorem gL1 {ex : Expr} {es : List Expr} {m : D → M Unit} {ms : List D → M Unit} (h1 : PG X ex (RG (Cx.gd X W xr) c m)) (h2 : PGs X es (RGs (Cx.gd X W xr) c ms))
    (hs : (assignEach (ex :: es) X.env).map (·.2) = assign ex X.env :: (assignEach es X.env).map (·.2) := by rfl) : PGs X (ex :: es) (RGs (Cx.gd X W xr) c (tgCons m ms)) := gs_cons h1 h2 hs
theorem gT {es : List Expr} {k n : Nat} {m : List D → M Unit} (hc : X.calm = true) (h : PGs X es (RGs (Cx.gd X W xr) c m)) (hn : (assignEach es X.env).length = n := by rfl) (hst : (assignEach es X.env).findIdx? (·.1) = none := by rfl) :
    PG X (.Tuple es k pos) (RG (Cx.gd X W xr) c (tgTup n m)) := g_tup hc h hn hst
theorem oL0 : PA X [] (ROL (Cx.gd X W xr) c (pur [])) := ol_nil
theorem oL1 {ex : Expr} {es : List Expr} {m : M Opd} {ms : M (List Opd)} (h1 : PE X ex (RO (Cx.gd X W xr) c m)) (h2 : PA X es (ROL (Cx.gd X W xr) c ms)) (hs : starEach (ex :: es) X.env = (false, eval ex X.env) :: starEach es X.env := by rfl) :
    PA X (ex :: es) (ROL (Cx.gd X W xr) c (bnd m fun o => bnd ms fun os => pur (o :: os))) := ol_cons h1 h2 hs
theorem vL0 : PA X [] (RVL (Cx.gd X W xr) c (pur [])) := vl_nil
theorem vL1 {ex : Expr} {es : List Expr} {m : M D} {ms : M (List D)} (h1 : PE X ex (RE (Cx.gd X W xr) c m)) (h2 : PA X es (RVL (Cx.gd X W xr) c ms)) (hs : starEach (ex :: es) X.env = (false, eval ex X.env) :: starEach es X.env := by rfl) :
    PA X (ex :: es) (RVL (Cx.gd X W xr) c (bnd m fun o => bnd ms fun os => pur (o :: os))) := vl_cons h1 h2 hs
theorem aL0 : PA X [] (RAL (Cx.gd X W xr) c (pur [])) := al_nil
theorem aL1 {ex : Expr} {es : List Expr} {m : M (D × Option Nat)} {ms : M (List (D × Option Nat))} (h1 : PE X ex (RA1 (Cx.gd X W xr) c m)) (h2 : PA X es (RAL (Cx.gd X W xr) c ms)) (hs : starEach (ex :: es) X.env = (false, eval ex X.env) :: starEach es X.env := by rfl) :
    PA X (ex :: es) (RAL (Cx.gd X W xr) c (bnd m fun o => bnd ms fun os => pur (o :: os))) := al_cons h1 h2 hs
/-- a built-in's call -/
theorem eB {f : String} {x : Str} {px : Pos} {ex : Expr} {es : List Expr} {p : List D → Option D} {mos : M (List Opd)}
    (hc : CallR X (.builtin f) (rPrim X.K p)) (hm : X.mg x = none) (hv : bootBuiltins x = some (.builtin f)) (ha : PA X (ex :: es) (ROL (Cx.gd X W xr) c mos)) (hg : Gl X x := by rfl) (hn : x ≠ "__name__" := by decide) (hdb : (x == ("__debug__" : Str)) = false := by decide)
    (he : starEach (ex :: es) X.env = (false, eval ex X.env) :: starEach es X.env := by rfl) (hpl : (backTo pos (starEach es X.env)).any (·.1) = false := by rfl) : PE X (.Call (.Name x px) (ex :: es) [] pos) (RE (Cx.gd X W xr) c (mPrim gC p mos)) :=
  s_callB .c hc hg hm hv ha hn hdb he hpl
theorem eTy {f : String} {x : Str} {px : Pos} {ex : Expr} {es : List Expr} {p : List D → Option D} {mos : M (List Opd)}
    (hc : CallR X (.type f) (rPrim X.K p)) (hm : X.mg x = none) (hv : bootBuiltins x = some (.type f)) (ha : PA X (ex :: es) (ROL (Cx.gd X W xr) c mos)) (hg : Gl X x := by rfl) (hn : x ≠ "__name__" := by decide) (hdb : (x == ("__debug__" : Str)) = false := by decide)
    (he : starEach (ex :: es) X.env = (false, eval ex X.env) :: starEach es X.env := by rfl) (hpl : (backTo pos (starEach es X.env)).any (·.1) = false := by rfl) : PE X (.Call (.Name x px) (ex :: es) [] pos) (RE (Cx.gd X W xr) c (mPrim gC p mos)) :=
  s_callTy .c hc hg hm hv ha hn hdb he hpl
theorem eOp {op : Operator} {a b : Expr} {p : List D → Option D} {ma mb : M Opd} (ho : OpR X (binaryOp op) (two (rPrim X.K p))) (ha : PE X a (RO (Cx.gd X W xr) c ma)) (hb : PE X b (RO (Cx.gd X W xr) c mb)) : PE X (.BinOp a op b pos) (RE (Cx.gd X W xr) c (mBin gC p ma mb)) := s_bin .c ho ha hb
theorem eCmp {op : CmpOp} {a b : Expr} {p : List D → Option D} {ma mb : M Opd} (ho : OpR X (compareOp op) (two (rPrim X.K p))) (ha : PE X a (RO (Cx.gd X W xr) c ma)) (hb : PE X b (RO (Cx.gd X W xr) c mb)) (hm : behindInMarks op b = false := by first | exact nomark _ | rfl) :
    PE X (.Compare a [op] [b] pos) (RE (Cx.gd X W xr) c (mBin gC p ma mb)) := s_cmp .c ho ha hb hm
theorem tCmp {op : CmpOp} {a b : Expr} {p : List D → Option D} {ma mb : M Opd} (ho : OpR X (compareOp op) (two (rPrim X.K p))) (ha : PE X a (RO (Cx.gd X W xr) c ma)) (hb : PE X b (RO (Cx.gd X W xr) c mb)) (hm : behindInMarks op b = false := by first | exact nomark _ | rfl) :
    PT X (.Compare a [op] [b] pos) (RT (Cx.gd X W xr) c (mB (mBin gC p ma mb))) := t_cmp .c ho ha hb hm
theorem tVal {a : Expr} {m : M D} (ha : PE X a (RE (Cx.gd X W xr) c m)) (he : ∀ whole, isTrue a X.env whole = (do let v ← whole; standAt a.pos; holding [v] (truthy v)) := by intro _; rfl) : PT X a (RT (Cx.gd X W xr) c (mB m)) := t_val ha he
theorem eIx {a b : Expr} {ma mb : M Opd} (ha : PE X a (RO (Cx.gd X W xr) c ma)) (hb : PE X b (RO (Cx.gd X W xr) c mb)) (hs : PlainIx b := by exact fun _ _ => rfl) : PE X (.Subscript a b pos) (RE (Cx.gd X W xr) c (mBin gC pIx ma mb)) := s_ix x_ix ha hb hs
theorem eSl {a : Expr} {lo hi : Option Expr} {p2 : Pos} {ma : M Opd} {ml mh : M (Option Int)} (ha : PE X a (RO (Cx.gd X W xr) c ma)) (hl : PO X lo (RPO (Cx.gd X W xr) c ml)) (hh : PO X hi (RPO (Cx.gd X W xr) c mh)) :
    PE X (.Subscript a (.Slice lo hi none p2) pos) (RE (Cx.gd X W xr) c (mSlice pSl ma ml mh)) := s_slice l_sl ha hl hh
theorem eLc {elt tg iter : Expr} {ifs : List Expr} {scope : Scope} {mi : M Sr} {t : D → M Unit} {tt : M Bool} {te : M D} (own : List (Str × Nat)) (hc : X.calm = true) (hN : X.N.Nodup) (hlt : LenT t) (hi : PI X tg iter (RI (Cx.gd X W xr) c mi))
    (hg : ∀ (s : Shared) (H : Hp) (C : Addr) (cl : List (Str × Addr)) (fp : List Addr) c, PG (X.blk s H scope (compEnvC scope cl C X.env) fp) tg (RG (Cx.gd (X.blk s H scope (compEnvC scope cl C X.env) fp) W0 xr) c t))
    (ht : ∀ (s : Shared) (H : Hp) (C : Addr) (cl : List (Str × Addr)) (fp : List Addr) c, PTs (X.blk s H scope (compEnvC scope cl C X.env) fp) ifs (RT (Cx.gd (X.blk s H scope (compEnvC scope cl C X.env) fp) W0 xr) c tt))
    (he : ∀ (s : Shared) (H : Hp) (C : Addr) (cl : List (Str × Addr)) (fp : List Addr) c, PE (X.blk s H scope (compEnvC scope cl C X.env) fp) elt (RE (Cx.gd (X.blk s H scope (compEnvC scope cl C X.env) fp) W0 xr) c te))
    (ok : blkB X.N X.env.scope scope own = true := by kernel_rfl) (hs : ∀ x, foldedSetIterable iter X.env x = pure x := by intro _; rfl) :
    PE X (.ListComp elt [⟨tg, iter, ifs, 0⟩] scope pos) (RE (Cx.gd X W xr) c (mComp mi (own.map (·.2)) t tt te)) := s_lc hlt hi (blk_of ok) hg ht he hc hN hs
theorem stLc {y : Str} {py spos : Pos} {elt tg iter : Expr} {ifs : List Expr} {scope : Scope} {mi : M Sr} {t : D → M Unit} {tt : M Bool} {te : M D} (i : Nat) (own : List (Str × Nat)) (hc : X.calm = true) (hN : X.N.Nodup) (hlt : LenT t) (hi : PI X tg iter (RI (Cx.gd X W xr) c mi))
    (hg : ∀ (s : Shared) (H : Hp) (C : Addr) (cl : List (Str × Addr)) (fp : List Addr) c, PG (X.blk s H scope (compEnvC scope cl C X.env) fp) tg (RG (Cx.gd (X.blk s H scope (compEnvC scope cl C X.env) fp) W0 xr) c t))
    (ht : ∀ (s : Shared) (H : Hp) (C : Addr) (cl : List (Str × Addr)) (fp : List Addr) c, PTs (X.blk s H scope (compEnvC scope cl C X.env) fp) ifs (RT (Cx.gd (X.blk s H scope (compEnvC scope cl C X.env) fp) W0 xr) c tt))
    (he : ∀ (s : Shared) (H : Hp) (C : Addr) (cl : List (Str × Addr)) (fp : List Addr) c, PE (X.blk s H scope (compEnvC scope cl C X.env) fp) elt (RE (Cx.gd (X.blk s H scope (compEnvC scope cl C X.env) fp) W0 xr) c te))
    (hy : X.N[i]? = some y := by rfl) (hyl : X.env.scope.names.lookup y = some .local := by rfl)
    (hsw : swapsWith (.ListComp elt [⟨tg, iter, ifs, 0⟩] scope pos) (some (.Name y py)) spos.line X.env = pure true := by exact sw_true rfl rfl rfl rfl)
    (ok : blkB X.N X.env.scope scope own = true := by kernel_rfl) (hs : ∀ x, foldedSetIterable iter X.env x = pure x := by intro _; rfl) :
    PS X (.Assign [.Name y py] (.ListComp elt [⟨tg, iter, ifs, 0⟩] scope pos) spos) (RS (Cx.gd X W xr) c (sSet (setS i) (mComp mi (own.map (·.2)) t tt te))) := st_setLc hy hyl hsw hlt hi (blk_of ok) hg ht he hc hN hs
theorem stSet {x : Str} {ex : Expr} {pos' : Pos} {m : M D} (i : Nat) (hN : X.N.Nodup) (he : PE X ex (RE (Cx.gd X W xr) c m)) (hi : X.N[i]? = some x := by rfl) (hx : Loc X.env.scope x := by first | exact Or.inl rfl | exact Or.inr rfl) (hs : swapsWith ex (some (.Name x pos')) pos.line X.env = pure false := by rfl)
    (hf : X.fn x = true ∨ X.env.scope.names.lookup x = some .local := by first | exact Or.inl rfl | exact Or.inr rfl) : PS X (.Assign [.Name x pos'] ex pos) (RS (Cx.gd X W xr) c (sSet (setS i) m)) := st_set hN hi hx he hs hf
theorem stAsg {tg ex : Expr} {m : M D} {t : D → M Unit} (he : PE X ex (RE (Cx.gd X W xr) c m)) (hg : PG X tg (RG (Cx.gd X W xr) c t)) (hs : swapsWithSole [tg] ex pos.line X.env = pure false := by rfl) (hw : swappedStores [tg] ex X.env = pure none := by rfl)
    (h1 : (assignEach [tg] X.env).map (·.2) = [assign tg X.env] := by rfl) : PS X (.Assign [tg] ex pos) (RS (Cx.gd X W xr) c (sSet t m)) := st_asg he hg hs hw h1
theorem stPar {x y : Str} {a b : Expr} {ms : M (List D)} {px py pt : Pos} {kt k2 : Nat} {pt2 : Pos} (i j : Nat) (hc : X.calm = true) (hN : X.N.Nodup) (ha : PA X [a, b] (RVL (Cx.gd X W xr) c ms)) (hi : X.N[i]? = some x := by rfl) (hj : X.N[j]? = some y := by rfl) (hij : i ≠ j := by decide)
    (hx : X.env.scope.names.lookup x = some .local := by rfl) (hy : X.env.scope.names.lookup y = some .local := by rfl)
    (hw : swappedStores [.Tuple [.Name x px, .Name y py] kt pt] (.Tuple [a, b] k2 pt2) X.env = pure (some [x, y]) := by rfl) (hs : swapsWithSole [.Tuple [.Name x px, .Name y py] kt pt] (.Tuple [a, b] k2 pt2) pos.line X.env = pure false := by rfl) :
    PS X (.Assign [.Tuple [.Name x px, .Name y py] kt pt] (.Tuple [a, b] k2 pt2) pos) (RS (Cx.gd X W xr) c (sPar i j ms)) := st_par hc hN hi hj hij hx hy ha hw hs
theorem stParG {es : List Expr} {k n : Nat} {tpos : Pos} {vals : List Expr} {k2 : Nat} {pt2 : Pos} {t : List D → M Unit} {ms : M (List D)} (hc : X.calm = true) (hg : PGs X es (RGs (Cx.gd X W xr) c t)) (ha : PA X vals (RVL (Cx.gd X W xr) c ms)) (hn : (assignEach es X.env).length = n := by rfl)
    (hst : (assignEach es X.env).findIdx? (·.1) = none := by rfl)
    (hs : swapsWithSole [.Tuple es k tpos] (.Tuple vals k2 pt2) pos.line X.env = pure false := by rfl) (hw : swappedStores [.Tuple es k tpos] (.Tuple vals k2 pt2) X.env = pure none := by rfl)
    (h1 : (assignEach [.Tuple es k tpos] X.env).map (·.2) = [assign (.Tuple es k tpos) X.env] := by rfl) : PS X (.Assign [.Tuple es k tpos] (.Tuple vals k2 pt2) pos) (RS (Cx.gd X W xr) c (sParG n t ms)) := st_parG hc hg hn hst ha hs hw h1
theorem stExpr {ex : Expr} {m : M D} (he : PE X ex (RE (Cx.gd X W xr) c m)) (hs : swapsWith ex none pos.line X.env = pure false := by rfl) : PS X (.Expr ex pos) (RS (Cx.gd X W xr) c (sExpr m)) := st_expr he hs
/-- x += e with the raw value -/
def pAddI : List D → Option D
  | [.int a, .int b] => some (.int (a + b))
  | _ => none
def pSubI : List D → Option D
  | [.int a, .int b] => some (.int (a - b))
  | _ => none
theorem ip_addI : PIp X .Add (two (rPrimR X.K pAddI)) := by
  intro pins s σ H x y v u Q I rx ry ⟨Av, ds, d, ok, r, hp, q⟩
  obtain ⟨a, b, rfl, ⟨_, ra⟩, ⟨_, rb⟩⟩ := all2_two r
  cases ra with
  | int i =>
    cases rb with
    | int j =>
      have hp : some (D.int (i + j)) = some d := hp
      cases hp
      exact ip_add pins s σ H _ _ v u Q I rx ry ⟨i, j, rfl, rfl, ans ok (.int _) q⟩
    | _ => cases hp
  | _ => cases hp
theorem ip_subI : PIp X .Sub (two (rPrimR X.K pSubI)) := by
  intro pins s σ H x y v u Q I rx ry ⟨Av, ds, d, ok, r, hp, q⟩
  obtain ⟨a, b, rfl, ⟨_, ra⟩, ⟨_, rb⟩⟩ := all2_two r
  cases ra with
  | int i =>
    cases rb with
    | int j =>
      have hp : some (D.int (i - j)) = some d := hp
      cases hp
      exact ip_sub pins s σ H _ _ v u Q I rx ry ⟨i, j, rfl, rfl, ans ok (.int _) q⟩
    | _ => cases hp
  | _ => cases hp
theorem stAug {x : Str} {ex : Expr} {op : Operator} {pos' : Pos} {p : List D → Option D} {ma : M Opd} (i : Nat) (hN : X.N.Nodup) (ho : PIp X op (two (rPrimR X.K p))) (he : PE X ex (RO (Cx.gd X W xr) c ma)) (hi : X.N[i]? = some x := by rfl) (hx : Loc X.env.scope x := by first | exact Or.inl rfl | exact Or.inr rfl)
    (hf : X.fn x = true ∨ X.env.scope.names.lookup x = some .local := by first | exact Or.inl rfl | exact Or.inr rfl) : PS X (.AugAssign (.Name x pos') op ex pos) (RS (Cx.gd X W xr) c (sAug i p ma)) := st_aug hN hi hx he ho hf
theorem mAppend {e : Expr} {x : Str} {apos px : Pos} {margs : M (List D)} (i : Nat) (ha : PA X [e] (RVL (Cx.gd X W xr) c margs))
    (hN : X.N[i]? = some x := by rfl) (hv : Vis X.env.scope x := by first | exact Or.inl rfl | exact Or.inr (Or.inl rfl) | exact Or.inr (Or.inr rfl)) (hd : (x == ("__debug__" : Str)) = false := by decide) (hcd : (x == ("__classdict__" : Str)) = false := by decide)
    (hbase : attributeBase (.Name x px) "append" X.env (eval (.Name x px) X.env) = eval (.Name x px) X.env := by rfl)
    (hfew : ((backTo pos (starEach [e] X.env)).all (fun x => !x.1) && (backToKw pos (keywordEach [] X.env)).all (fun x => x.1.isSome)
      && decide ([e].length + ([] : List Keyword).length + (if ([] : List Keyword).isEmpty then 0 else 1) < 30)) = true := by rfl)
    (hline : (apos.endLine == pos.line) = true := by rfl) (hs : starEach [e] X.env = (false, eval e X.env) :: starEach [] X.env := by rfl) (hplain : (backTo pos (starEach [] X.env)).any (·.1) = false := by rfl) :
    PE X (.Call (.Attribute (.Name x px) "append" apos) [e] [] pos) (RE (Cx.gd X W xr) c (mMut i fAppend margs)) := s_mut i PySem.F.slot_list_append PySem.F.type_list_append mt_append mo_append ha hN hv hd hcd hbase hfew hline hs hplain
theorem mPop {e : Expr} {x : Str} {apos px : Pos} {margs : M (List D)} (i : Nat) (ha : PA X [e] (RVL (Cx.gd X W xr) c margs))
    (hN : X.N[i]? = some x := by rfl) (hv : Vis X.env.scope x := by first | exact Or.inl rfl | exact Or.inr (Or.inl rfl) | exact Or.inr (Or.inr rfl)) (hd : (x == ("__debug__" : Str)) = false := by decide) (hcd : (x == ("__classdict__" : Str)) = false := by decide)
    (hbase : attributeBase (.Name x px) "pop" X.env (eval (.Name x px) X.env) = eval (.Name x px) X.env := by rfl)
    (hfew : ((backTo pos (starEach [e] X.env)).all (fun x => !x.1) && (backToKw pos (keywordEach [] X.env)).all (fun x => x.1.isSome)
      && decide ([e].length + ([] : List Keyword).length + (if ([] : List Keyword).isEmpty then 0 else 1) < 30)) = true := by rfl)
    (hline : (apos.endLine == pos.line) = true := by rfl) (hs : starEach [e] X.env = (false, eval e X.env) :: starEach [] X.env := by rfl) (hplain : (backTo pos (starEach [] X.env)).any (·.1) = false := by rfl) :
    PE X (.Call (.Attribute (.Name x px) "pop" apos) [e] [] pos) (RE (Cx.gd X W xr) c (mMut i fPop margs)) := s_mut i PySem.F.slot_list_pop PySem.F.type_list_pop mt_popB mo_pop ha hN hv hd hcd hbase hfew hline hs hplain
theorem mPop0 {x : Str} {apos px : Pos} (i : Nat)
    (hN : X.N[i]? = some x := by rfl) (hv : Vis X.env.scope x := by first | exact Or.inl rfl | exact Or.inr (Or.inl rfl) | exact Or.inr (Or.inr rfl)) (hd : (x == ("__debug__" : Str)) = false := by decide) (hcd : (x == ("__classdict__" : Str)) = false := by decide)
    (hbase : attributeBase (.Name x px) "pop" X.env (eval (.Name x px) X.env) = eval (.Name x px) X.env := by rfl) (hline : (apos.endLine == pos.line) = true := by rfl) :
    PE X (.Call (.Attribute (.Name x px) "pop" apos) [] [] pos) (RE (Cx.gd X W xr) c (mMut i fPop (pur []))) := s_mut0 i PySem.F.slot_list_pop PySem.F.type_list_pop mt_popB mo_pop hN hv hd hcd hbase hline
theorem mExtend {e : Expr} {x : Str} {apos px : Pos} {margs : M (List D)} (i : Nat) (ha : PA X [e] (RVL (Cx.gd X W xr) c margs))
    (hN : X.N[i]? = some x := by rfl) (hv : Vis X.env.scope x := by first | exact Or.inl rfl | exact Or.inr (Or.inl rfl) | exact Or.inr (Or.inr rfl)) (hd : (x == ("__debug__" : Str)) = false := by decide) (hcd : (x == ("__classdict__" : Str)) = false := by decide)
    (hbase : attributeBase (.Name x px) "extend" X.env (eval (.Name x px) X.env) = eval (.Name x px) X.env := by rfl)
    (hfew : ((backTo pos (starEach [e] X.env)).all (fun x => !x.1) && (backToKw pos (keywordEach [] X.env)).all (fun x => x.1.isSome)
      && decide ([e].length + ([] : List Keyword).length + (if ([] : List Keyword).isEmpty then 0 else 1) < 30)) = true := by rfl)
    (hline : (apos.endLine == pos.line) = true := by rfl) (hs : starEach [e] X.env = (false, eval e X.env) :: starEach [] X.env := by rfl) (hplain : (backTo pos (starEach [] X.env)).any (·.1) = false := by rfl) :
    PE X (.Call (.Attribute (.Name x px) "extend" apos) [e] [] pos) (RE (Cx.gd X W xr) c (mMut i fExtend margs)) := s_mut i PySem.F.slot_list_extend PySem.F.type_list_extend mt_extend mo_extend ha hN hv hd hcd hbase hfew hline hs hplain
end
theorem bb_len : bootBuiltins "len" = some (.builtin "len") := by decide +kernel
theorem bb_abs : bootBuiltins "abs" = some (.builtin "abs") := by decide +kernel
theorem bb_all : bootBuiltins "all" = some (.builtin "all") := by decide +kernel
theorem bb_any : bootBuiltins "any" = some (.builtin "any") := by decide +kernel
theorem bb_sum : bootBuiltins "sum" = some (.builtin "sum") := by decide +kernel
theorem bb_sorted : bootBuiltins "sorted" = some (.builtin "sorted") := by decide +kernel
theorem bb_int : bootBuiltins "int" = some (.type "int") := by decide +kernel
theorem bb_bool : bootBuiltins "bool" = some (.type "bool") := by decide +kernel
theorem bb_str : bootBuiltins "str" = some (.type "str") := by decide +kernel
theorem bb_list : bootBuiltins "list" = some (.type "list") := by decide +kernel
theorem bb_tuple : bootBuiltins "tuple" = some (.type "tuple") := by decide +kernel
end Y

end
section
set_option Elab.async false
set_option linter.all false
set_option maxRecDepth 100000
set_option maxHeartbeats 4000000
namespace Y
open PySem L2
abbrev topS (i : Nat) : Stmt := PySem.Challenge.pw_keysbelow_k18_rows_below_one_another.main.body.getD i (.Pass ⟨0, 0, 0, 0⟩)
abbrev st__law_bag_ : Stmt := topS 11
theorem sc__law_bag : FnScope ["script", "cell"] ["script"] (defScope st__law_bag_) := ⟨rfl, rfl, rfl, by decide +kernel, rfl, by decide +kernel, by decide +kernel⟩
noncomputable def B1__law_bag : M D := (mPrim gC pAbs (bnd (oN 1) fun o => bnd (pur []) fun os => pur (o :: os)))
noncomputable def M__law_bag : M Fl := (sRet (lstD (bnd (pur (.int 0)) fun o => bnd (bnd (pur (.int 1234567891)) fun o => bnd (bnd (pur (.int 0)) fun o => bnd (bnd (mComp (mSrc (oE (mSlice pSl (oN 0) (pur none) (mPart (pur (.int 63)))))) [1] (setS 1) tAll B1__law_bag) fun o => bnd (pur []) fun os => pur (o :: os)) fun os => pur (o :: os)) fun os => pur (o :: os)) fun os => pur (o :: os))))
noncomputable def Φ__law_bag : List D → Fo := runF 2 [true] M__law_bag
theorem ok__law_bag {P : Program} {w : World} {K : PySem.W.Frag} {mg : Str → Option Value} {base : Heap} {xr : (Addr → Prop) → Hp → D → Value → Option Addr → Prop} {f : Addr} {fd : FuncData} (F : Fun K "_law_bag" "_law_bag" st__law_bag_ f fd) (z_abs : mg "abs" = none) :
    FnOk P w K mg base (L2.CX P w) 1 f fd ["script"] (spF K xr 1 Φ__law_bag) :=
  have sc := sc__law_bag
  fn_ok (N := ["script", "cell"]) (m := M__law_bag) [true] F sc rfl fun cdv A outer s H E hr c =>
  (ss_one (st_ret (s_lst (vL1 s_int (vL1 s_int (vL1 s_int (vL1 (eLc [("cell", 1)] rfl sc.nd len_set (i_seq (o_val (eSl (vO 0) p_none (p_some s_int)))) (fun s H C cl fp c => (gN 1 sc.nd)) (fun s H C cl fp c => ts_nil) (fun s H C cl fp c => (eB c_abs z_abs bb_abs (oL1 (vO 1) oL0)))) vL0)))))))
abbrev st__law_take_ : Stmt := topS 12
theorem sc__law_take : FnScope ["bag", "many", "cell", "stirred", "value", "begin", "second"] ["bag", "many"] (defScope st__law_take_) := ⟨rfl, rfl, rfl, by decide +kernel, rfl, by decide +kernel, by decide +kernel⟩
noncomputable def M__law_take : M Fl := (sSeq (sIf (mB (mBin gC pEq (oE (mBin gC pIx (oN 0) (oE (pur (.int 0))))) (oE (pur (.int 0))))) (sSeq (sSet (setS 2) (mBin gC pIx (oE (mBin gC pAdd (oE (mSlice pSl (oE (mBin gC pIx (oN 0) (oE (pur (.int 3))))) (mPart (mBin gC pIx (oN 0) (oE (pur (.int 2))))) (pur none))) (oE (lstD (bnd (pur (.int 0)) fun o => bnd (pur []) fun os => pur (o :: os)))))) (oE (pur (.int 0)))))
  (sSeq (sAugI 0 (pur (.int 2)) pAddI (oE (pur (.int 1))))
  (sSeq (sIf (mB (mBin gC pGe (oN 2) (oE (mBin gC pPow (oE (pur (.int 10))) (oE (pur (.int 18))))))) (sSet (setI 0 (pur (.int 0))) (eVar 2)) sSkip)
  (sSeq (sSet (setS 3) (mBin gC pAdd (oE (mBin gC pAdd (oE (mBin gC pMul (oE (mBin gC pIx (oN 0) (oE (pur (.int 1))))) (oE (pur (.int 48271))))) (oE (mBin gC pMod (oE (mPrim gC pInt (bnd (oN 2) fun o => bnd (pur []) fun os => pur (o :: os)))) (oE (pur (.int 2147483647))))))) (oE (mBin gC pMul (oE (pur (.int 7919))) (oE (mBin gC pIx (oN 0) (oE (pur (.int 2)))))))))
  (sSet (setI 0 (pur (.int 1))) (mBin gC pMod (oE (mPrim gC pInt (bnd (oN 3) fun o => bnd (pur []) fun os => pur (o :: os)))) (oE (pur (.int 2147483647))))))))) sSkip)
  (sSeq (sIf (mB (mBin gC pGt (oE (mBin gC pIx (oN 0) (oE (pur (.int 0))))) (oE (pur (.int 0))))) (sSeq (sSet (setS 4) (mBin gC pMod (oE (mPrim gC pInt (bnd (oE (mBin gC pIx (oN 0) (oE (pur (.int 0))))) fun o => bnd (pur []) fun os => pur (o :: os)))) (oN 1)))
  (sSeq (sSet (setI 0 (pur (.int 0))) (mBin gC pDiv (oE (mPrim gC pInt (bnd (oE (mBin gC pIx (oN 0) (oE (pur (.int 0))))) fun o => bnd (pur []) fun os => pur (o :: os)))) (oN 1)))
  (sRet (mvVar 4)))) sSkip)
  (sSeq (sSet (setS 5) (mBin gC pMod (oE (mPrim gC pInt (bnd (oE (mBin gC pMul (oE (mBin gC pAdd (oE (mBin gC pIx (oN 0) (oE (pur (.int 1))))) (oE (pur (.int 1))))) (oE (pur (.int 39373))))) fun o => bnd (pur []) fun os => pur (o :: os)))) (oE (pur (.int 1000000007)))))
  (sSeq (sSet (setS 6) (mBin gC pMod (oE (mPrim gC pInt (bnd (oE (mBin gC pMul (oE (mBin gC pMod (oE (mPrim gC pInt (bnd (oE (mBin gC pMul (oN 5) (oN 5))) fun o => bnd (pur []) fun os => pur (o :: os)))) (oE (pur (.int 998244353))))) (oE (pur (.int 30011))))) fun o => bnd (pur []) fun os => pur (o :: os)))) (oE (pur (.int 998244353)))))
  (sRet (mBin gC pMod (oE (mPrim gC pInt (bnd (oE (mBin gC pDiv (oN 6) (oE (pur (.int 7))))) fun o => bnd (pur []) fun os => pur (o :: os)))) (oN 1)))))))
noncomputable def Φ__law_take : List D → Fo := runF 7 [true, true] M__law_take
theorem ok__law_take {P : Program} {w : World} {K : PySem.W.Frag} {mg : Str → Option Value} {base : Heap} {xr : (Addr → Prop) → Hp → D → Value → Option Addr → Prop} {f : Addr} {fd : FuncData} (F : Fun K "_law_take" "_law_take" st__law_take_ f fd) (z_int : mg "int" = none) :
    FnOk P w K mg base (L2.CX P w) 1 f fd ["bag", "many"] (spF K xr 2 Φ__law_take) :=
  have sc := sc__law_take
  fn_ok (N := ["bag", "many", "cell", "stirred", "value", "begin", "second"]) (m := M__law_take) [true, true] F sc rfl fun cdv A outer s H E hr c =>
  (ss_cons (st_if (tCmp (o_eq (hu_room hr)) (o_val (eIx (vO 0) (o_val s_int))) (o_val s_int)) (ss_cons (stSet 2 sc.nd (eIx (o_val (eOp o_add (o_val (eSl (o_val (eIx (vO 0) (o_val s_int))) (p_some (eIx (vO 0) (o_val s_int))) p_none)) (o_val (s_lst (vL1 s_int vL0))))) (o_val s_int)))
  (ss_cons (st_augI 0 s_int (o_val s_int) ip_addI)
  (ss_cons (st_if (tCmp o_ge (vO 2) (o_val (eOp o_pow (o_val s_int) (o_val s_int)))) (ss_one (stAsg (vE 2) (g_ix 0 s_int))) ss_nil)
  (ss_cons (stSet 3 sc.nd (eOp o_add (o_val (eOp o_add (o_val (eOp o_mul (o_val (eIx (vO 0) (o_val s_int))) (o_val s_int))) (o_val (eOp o_mod (o_val (eTy c_int z_int bb_int (oL1 (vO 2) oL0))) (o_val s_int))))) (o_val (eOp o_mul (o_val s_int) (o_val (eIx (vO 0) (o_val s_int)))))))
  (ss_one (stAsg (eOp o_mod (o_val (eTy c_int z_int bb_int (oL1 (vO 3) oL0))) (o_val s_int)) (g_ix 0 s_int))))))) ss_nil)
  (ss_cons (st_if (tCmp o_gt (o_val (eIx (vO 0) (o_val s_int))) (o_val s_int)) (ss_cons (stSet 4 sc.nd (eOp o_mod (o_val (eTy c_int z_int bb_int (oL1 (o_val (eIx (vO 0) (o_val s_int))) oL0))) (vO 1)))
  (ss_cons (stAsg (eOp o_fdiv (o_val (eTy c_int z_int bb_int (oL1 (o_val (eIx (vO 0) (o_val s_int))) oL0))) (vO 1)) (g_ix 0 s_int))
  (ss_one (st_ret (vM 4))))) ss_nil)
  (ss_cons (stSet 5 sc.nd (eOp o_mod (o_val (eTy c_int z_int bb_int (oL1 (o_val (eOp o_mul (o_val (eOp o_add (o_val (eIx (vO 0) (o_val s_int))) (o_val s_int))) (o_val s_int))) oL0))) (o_val s_int)))
  (ss_cons (stSet 6 sc.nd (eOp o_mod (o_val (eTy c_int z_int bb_int (oL1 (o_val (eOp o_mul (o_val (eOp o_mod (o_val (eTy c_int z_int bb_int (oL1 (o_val (eOp o_mul (vO 5) (vO 5))) oL0))) (o_val s_int))) (o_val s_int))) oL0))) (o_val s_int)))
  (ss_one (st_ret (eOp o_mod (o_val (eTy c_int z_int bb_int (oL1 (o_val (eOp o_fdiv (vO 6) (o_val s_int))) oL0))) (vO 1))))))))
abbrev st__law_some_ : Stmt := topS 13
theorem sc__law_some : FnScope ["bag", "things"] ["bag", "things"] (defScope st__law_some_) := ⟨rfl, rfl, rfl, by decide +kernel, rfl, by decide +kernel, by decide +kernel⟩
noncomputable def M__law_some : M Fl := (sRet (mBin gC pIx (oN 1) (oE (mCall 2 Φ__law_take (bnd (bnd (oN 0) fun o => bnd (bnd (oE (mPrim gC pLen (bnd (oN 1) fun o => bnd (pur []) fun os => pur (o :: os)))) fun o => bnd (pur []) fun os => pur (o :: os)) fun os => pur (o :: os)) lendL)))))
noncomputable def Φ__law_some : List D → Fo := runF 2 [true, true] M__law_some
theorem ok__law_some {P : Program} {w : World} {K : PySem.W.Frag} {mg : Str → Option Value} {base : Heap} {xr : (Addr → Prop) → Hp → D → Value → Option Addr → Prop} {f : Addr} {fd : FuncData} (F : Fun K "_law_some" "_law_some" st__law_some_ f fd) (z_len : mg "len" = none) (F__law_take : FnY P w K mg base xr 1 "_law_take" 2 Φ__law_take) :
    FnOk P w K mg base (L2.CX P w) 2 f fd ["bag", "things"] (spF K xr 2 Φ__law_some) :=
  have sc := sc__law_some
  fn_ok (N := ["bag", "things"]) (m := M__law_some) [true, true] F sc rfl fun cdv A outer s H E hr c =>
  (ss_one (st_ret (eIx (vO 1) (o_val (s_call F__law_take (hr.mono (by decide)) takes_cx (aL (oL1 (vO 0) (oL1 (o_val (eB c_len z_len bb_len (oL1 (vO 1) oL0))) oL0))))))))
abbrev st__law_make_ : Stmt := topS 19
theorem sc__law_make : FnScope ["bag", "chambers", "depth", "depths", "bars", "chamber", "cut", "turn"] ["bag", "chambers", "depth"] (defScope st__law_make_) := ⟨rfl, rfl, rfl, by decide +kernel, rfl, by decide +kernel, by decide +kernel⟩
noncomputable def B1__law_make : M D := (mBin gC pAdd (oE (pur (.int 2))) (oE (mCall 2 Φ__law_take (bnd (bnd (oN 0) fun o => bnd (bnd (oE (mBin gC pSub (oN 2) (oE (pur (.int 1))))) fun o => bnd (pur []) fun os => pur (o :: os)) fun os => pur (o :: os)) lendL))))
noncomputable def B2__law_make : M Fl := (sSet (setS 4) (mBin gC pAdd (oN 4) (oE (mBin gC pMul (oE (lstD (bnd (tupD (bnd (eVar 5) fun o => bnd (bnd (eVar 6) fun o => bnd (pur []) fun os => pur (o :: os)) fun os => pur (o :: os))) fun o => bnd (pur []) fun os => pur (o :: os)))) (oE (mPrim gC pInt (bnd (oE (mBin gC pEq (oE (mCall 2 Φ__law_take (bnd (bnd (oN 0) fun o => bnd (bnd (oE (pur (.int 8))) fun o => bnd (pur []) fun os => pur (o :: os)) fun os => pur (o :: os)) lendL))) (oE (pur (.int 0))))) fun o => bnd (pur []) fun os => pur (o :: os))))))))
noncomputable def B3__law_make : M Fl := (sFor (mRng2 (bnd (pur (.int 1)) fun o => bnd (bnd (mBin gC pAdd (oE (mBin gC pIx (oN 3) (oN 5))) (oE (pur (.int 1)))) fun o => bnd (pur []) fun os => pur (o :: os)) fun os => pur (o :: os))) (setS 6) B2__law_make)
noncomputable def M__law_make : M Fl := (sSeq (sSet (setS 3) (mPrim gC pTuple (bnd (oE (mComp (mRng1 (bnd (eVar 1) fun o => bnd (pur []) fun os => pur (o :: os))) [7] (setS 7) tAll B1__law_make)) fun o => bnd (pur []) fun os => pur (o :: os))))
  (sSeq (sSet (setS 4) (lstD (pur [])))
  (sSeq (sFor (mRng1 (bnd (eVar 1) fun o => bnd (pur []) fun os => pur (o :: os))) (setS 5) B3__law_make)
  (sRet (tupD (bnd (eVar 3) fun o => bnd (bnd (mCall 2 Φ__law_some (bnd (bnd (oN 0) fun o => bnd (bnd (oE (lstD (bnd (pur (.int 9)) fun o => bnd (bnd (pur (.int 9)) fun o => bnd (bnd (eVar 2) fun o => bnd (bnd (pur (.int 1)) fun o => bnd (bnd (pur (.int 2)) fun o => bnd (bnd (pur (.int 0)) fun o => bnd (pur []) fun os => pur (o :: os)) fun os => pur (o :: os)) fun os => pur (o :: os)) fun os => pur (o :: os)) fun os => pur (o :: os)) fun os => pur (o :: os)))) fun o => bnd (pur []) fun os => pur (o :: os)) fun os => pur (o :: os)) lendL)) fun o => bnd (bnd (mPrim gC pTuple (bnd (oN 4) fun o => bnd (pur []) fun os => pur (o :: os))) fun o => bnd (pur []) fun os => pur (o :: os)) fun os => pur (o :: os)) fun os => pur (o :: os)))))))
noncomputable def Φ__law_make : List D → Fo := runF 8 [true, true, true] M__law_make
theorem ok__law_make {P : Program} {w : World} {K : PySem.W.Frag} {mg : Str → Option Value} {base : Heap} {xr : (Addr → Prop) → Hp → D → Value → Option Addr → Prop} {f : Addr} {fd : FuncData} (F : Fun K "_law_make" "_law_make" st__law_make_ f fd) (z_range : mg "range" = none) (z_tuple : mg "tuple" = none) (z_int : mg "int" = none) (F__law_take : FnY P w K mg base xr 1 "_law_take" 2 Φ__law_take) (F__law_some : FnY P w K mg base xr 2 "_law_some" 2 Φ__law_some) :
    FnOk P w K mg base (L2.CX P w) 3 f fd ["bag", "chambers", "depth"] (spF K xr 3 Φ__law_make) :=
  have sc := sc__law_make
  fn_ok (N := ["bag", "chambers", "depth", "depths", "bars", "chamber", "cut", "turn"]) (m := M__law_make) [true, true, true] F sc rfl fun cdv A outer s H E hr c =>
  (ss_cons (stSet 3 sc.nd (eTy c_tuple z_tuple bb_tuple (oL1 (o_val (eLc [("turn", 7)] rfl sc.nd len_set (i_range1 z_range (vL1 (vE 1) vL0)) (fun s H C cl fp c => (gN 7 sc.nd)) (fun s H C cl fp c => ts_nil) (fun s H C cl fp c => (eOp o_add (o_val s_int) (o_val (s_call F__law_take (hr.mono (by decide)) takes0 (aL (oL1 (vO 0) (oL1 (o_val (eOp o_sub (vO 2) (o_val s_int))) oL0))))))))) oL0)))
  (ss_cons (stSet 4 sc.nd (s_lst vL0))
  (ss_cons (st_for (i_range1 z_range (vL1 (vE 1) vL0)) (fun c => (gN 5 sc.nd)) (fun c => (ss_one (st_for (i_range2 z_range (vL1 s_int (vL1 (eOp o_add (o_val (eIx (vO 3) (vO 5))) (o_val s_int)) vL0))) (fun c => (gN 6 sc.nd)) (fun c => (ss_one (stSet 4 sc.nd (eOp o_add (vO 4) (o_val (eOp o_mul (o_val (s_lst (vL1 (s_tup (vL1 (vE 5) (vL1 (vE 6) vL0))) vL0))) (o_val (eTy c_int z_int bb_int (oL1 (o_val (eCmp (o_eq (hu_room hr)) (o_val (s_call F__law_take (hr.mono (by decide)) takes_cx (aL (oL1 (vO 0) (oL1 (o_val s_int) oL0))))) (o_val s_int))) oL0))))))))) owns_cx rfl))) owns_cx rfl)
  (ss_one (st_ret (s_tup (vL1 (vE 3) (vL1 (s_call F__law_some (hr.mono (by decide)) takes_cx (aL (oL1 (vO 0) (oL1 (o_val (s_lst (vL1 s_int (vL1 s_int (vL1 (vE 2) (vL1 s_int (vL1 s_int (vL1 s_int vL0)))))))) oL0)))) (vL1 (eTy c_tuple z_tuple bb_tuple (oL1 (vO 4) oL0)) vL0)))))))))
abbrev st__law_mixed_ : Stmt := topS 14
theorem sc__law_mixed : FnScope ["bag", "things", "left", "found"] ["bag", "things"] (defScope st__law_mixed_) := ⟨rfl, rfl, rfl, by decide +kernel, rfl, by decide +kernel, by decide +kernel⟩
noncomputable def B1__law_mixed : M Bool := (mB (mBin gC pNe (oN 2) (oE (lstD (pur [])))))
noncomputable def B2__law_mixed : M Fl := (sExpr (mMut 3 fAppend (bnd (mMut 2 fPop (bnd (mCall 2 Φ__law_take (bnd (bnd (oN 0) fun o => bnd (bnd (oE (mPrim gC pLen (bnd (oN 2) fun o => bnd (pur []) fun os => pur (o :: os)))) fun o => bnd (pur []) fun os => pur (o :: os)) fun os => pur (o :: os)) lendL)) fun o => bnd (pur []) fun os => pur (o :: os))) fun o => bnd (pur []) fun os => pur (o :: os))))
noncomputable def M__law_mixed : M Fl := (sSeq (sPar 2 3 (bnd (mPrim gC pList (bnd (oN 1) fun o => bnd (pur []) fun os => pur (o :: os))) fun o => bnd (bnd (lstD (pur [])) fun o => bnd (pur []) fun os => pur (o :: os)) fun os => pur (o :: os)))
  (sSeq (sWhile B1__law_mixed B2__law_mixed)
  (sRet (mvVar 3))))
noncomputable def Φ__law_mixed : List D → Fo := runF 4 [true, true] M__law_mixed
theorem ok__law_mixed {P : Program} {w : World} {K : PySem.W.Frag} {mg : Str → Option Value} {base : Heap} {xr : (Addr → Prop) → Hp → D → Value → Option Addr → Prop} {f : Addr} {fd : FuncData} (F : Fun K "_law_mixed" "_law_mixed" st__law_mixed_ f fd) (z_list : mg "list" = none) (z_len : mg "len" = none) (F__law_take : FnY P w K mg base xr 1 "_law_take" 2 Φ__law_take) :
    FnOk P w K mg base (L2.CX P w) 2 f fd ["bag", "things"] (spF K xr 2 Φ__law_mixed) :=
  have sc := sc__law_mixed
  fn_ok (N := ["bag", "things", "left", "found"]) (m := M__law_mixed) [true, true] F sc rfl fun cdv A outer s H E hr c =>
  (ss_cons (stPar 2 3 rfl sc.nd (vL1 (eTy c_list z_list bb_list (oL1 (vO 1) oL0)) (vL1 (s_lst vL0) vL0)))
  (ss_cons (st_while (tCmp (o_ne (hu_room hr)) (vO 2) (o_val (s_lst vL0))) (ss_one (stExpr (mAppend 3 (vL1 (mPop 2 (vL1 (s_call F__law_take (hr.mono (by decide)) takes_cx (aL (oL1 (vO 0) (oL1 (o_val (eB c_len z_len bb_len (oL1 (vO 2) oL0))) oL0)))) vL0)) vL0)))) owns_cx)
  (ss_one (st_ret (vM 3)))))
abbrev st__law_base_ : Stmt := topS 20
theorem sc__law_base : FnScope ["bag", "make", "found", "depth", "many"] ["bag", "make"] (defScope st__law_base_) := ⟨rfl, rfl, rfl, by decide +kernel, rfl, by decide +kernel, by decide +kernel⟩
noncomputable def B1__law_base : M Fl := (sSeq (sSet (setS 4) (mCall 2 Φ__law_some (bnd (bnd (oN 0) fun o => bnd (bnd (oE (lstD (bnd (pur (.int 1)) fun o => bnd (bnd (pur (.int 1)) fun o => bnd (bnd (pur (.int 1)) fun o => bnd (bnd (pur (.int 0)) fun o => bnd (bnd (pur (.int 2)) fun o => bnd (pur []) fun os => pur (o :: os)) fun os => pur (o :: os)) fun os => pur (o :: os)) fun os => pur (o :: os)) fun os => pur (o :: os)))) fun o => bnd (pur []) fun os => pur (o :: os)) fun os => pur (o :: os)) lendL)))
  (sExpr (mMut 2 fAppend (bnd (mPrim gC pTuple (bnd (oE (mPrim gC pSorted (bnd (oE (mSlice pSl (oE (mCall 2 Φ__law_mixed (bnd (bnd (oN 0) fun o => bnd (bnd (oE (mRgD (.lst true) (bnd (pur (.int 1)) fun x => bnd (mBin gC pAdd (oN 3) (oE (pur (.int 1)))) fun y => pur [x, y]))) fun o => bnd (pur []) fun os => pur (o :: os)) fun os => pur (o :: os)) lendL))) (pur none) (mPart (eVar 4)))) fun o => bnd (pur []) fun os => pur (o :: os)))) fun o => bnd (pur []) fun os => pur (o :: os))) fun o => bnd (pur []) fun os => pur (o :: os)))))
noncomputable def M__law_base : M Fl := (sSeq (sSet (setS 2) (lstD (pur [])))
  (sSeq (sFor (mSrc (oE (mBin gC pIx (oN 1) (oE (pur (.int 0)))))) (setS 3) B1__law_base)
  (sRet (mPrim gC pTuple (bnd (oN 2) fun o => bnd (pur []) fun os => pur (o :: os))))))
noncomputable def Φ__law_base : List D → Fo := runF 5 [true, true] M__law_base
theorem ok__law_base {P : Program} {w : World} {K : PySem.W.Frag} {mg : Str → Option Value} {base : Heap} {xr : (Addr → Prop) → Hp → D → Value → Option Addr → Prop} {f : Addr} {fd : FuncData} (F : Fun K "_law_base" "_law_base" st__law_base_ f fd) (z_list : mg "list" = none) (z_range : mg "range" = none) (z_sorted : mg "sorted" = none) (z_tuple : mg "tuple" = none) (F__law_some : FnY P w K mg base xr 2 "_law_some" 2 Φ__law_some) (F__law_mixed : FnY P w K mg base xr 2 "_law_mixed" 2 Φ__law_mixed) :
    FnOk P w K mg base (L2.CX P w) 3 f fd ["bag", "make"] (spF K xr 2 Φ__law_base) :=
  have sc := sc__law_base
  fn_ok (N := ["bag", "make", "found", "depth", "many"]) (m := M__law_base) [true, true] F sc rfl fun cdv A outer s H E hr c =>
  (ss_cons (stSet 2 sc.nd (s_lst vL0))
  (ss_cons (st_for (i_seq (o_val (eIx (vO 1) (o_val s_int)))) (fun c => (gN 3 sc.nd)) (fun c => (ss_cons (stSet 4 sc.nd (s_call F__law_some (hr.mono (by decide)) takes_cx (aL (oL1 (vO 0) (oL1 (o_val (s_lst (vL1 s_int (vL1 s_int (vL1 s_int (vL1 s_int (vL1 s_int vL0))))))) oL0)))))
  (ss_one (stExpr (mAppend 2 (vL1 (eTy c_tuple z_tuple bb_tuple (oL1 (o_val (eB c_sorted z_sorted bb_sorted (oL1 (o_val (eSl (o_val (s_call F__law_mixed (hr.mono (by decide)) takes_cx (aL (oL1 (vO 0) (oL1 (o_val (s_listRg2 rfl z_list z_range s_int (eOp o_add (vO 3) (o_val s_int)))) oL0))))) p_none (p_some (vE 4)))) oL0))) oL0)) vL0)))))) owns_cx rfl)
  (ss_one (st_ret (eTy c_tuple z_tuple bb_tuple (oL1 (vO 2) oL0))))))
abbrev st__law_cuts_ : Stmt := topS 21
theorem sc__law_cuts : FnScope ["bag", "make", "depth"] ["bag", "make"] (defScope st__law_cuts_) := ⟨rfl, rfl, rfl, by decide +kernel, rfl, by decide +kernel, by decide +kernel⟩
noncomputable def B1__law_cuts : M D := (mBin gC pAdd (oE (pur (.int 1))) (oE (mCall 2 Φ__law_take (bnd (bnd (oN 0) fun o => bnd (bnd (oN 2) fun o => bnd (pur []) fun os => pur (o :: os)) fun os => pur (o :: os)) lendL))))
noncomputable def M__law_cuts : M Fl := (sRet (mPrim gC pTuple (bnd (oE (mComp (mSrc (oE (mBin gC pIx (oN 1) (oE (pur (.int 0)))))) [2] (setS 2) tAll B1__law_cuts)) fun o => bnd (pur []) fun os => pur (o :: os))))
noncomputable def Φ__law_cuts : List D → Fo := runF 3 [true, true] M__law_cuts
theorem ok__law_cuts {P : Program} {w : World} {K : PySem.W.Frag} {mg : Str → Option Value} {base : Heap} {xr : (Addr → Prop) → Hp → D → Value → Option Addr → Prop} {f : Addr} {fd : FuncData} (F : Fun K "_law_cuts" "_law_cuts" st__law_cuts_ f fd) (z_tuple : mg "tuple" = none) (F__law_take : FnY P w K mg base xr 1 "_law_take" 2 Φ__law_take) :
    FnOk P w K mg base (L2.CX P w) 2 f fd ["bag", "make"] (spF K xr 2 Φ__law_cuts) :=
  have sc := sc__law_cuts
  fn_ok (N := ["bag", "make", "depth"]) (m := M__law_cuts) [true, true] F sc rfl fun cdv A outer s H E hr c =>
  (ss_one (st_ret (eTy c_tuple z_tuple bb_tuple (oL1 (o_val (eLc [("depth", 2)] rfl sc.nd len_set (i_seq (o_val (eIx (vO 1) (o_val s_int)))) (fun s H C cl fp c => (gN 2 sc.nd)) (fun s H C cl fp c => ts_nil) (fun s H C cl fp c => (eOp o_add (o_val s_int) (o_val (s_call F__law_take (hr.mono (by decide)) takes0 (aL (oL1 (vO 0) (oL1 (vO 2) oL0))))))))) oL0))))
abbrev st__law_kind_of_ : Stmt := topS 18
theorem sc__law_kind_of : FnScope ["base", "row", "lot", "cut"] ["base", "row"] (defScope st__law_kind_of_) := ⟨rfl, rfl, rfl, by decide +kernel, rfl, by decide +kernel, by decide +kernel⟩
noncomputable def B1__law_kind_of : M D := (mIf (mB (mBin gC pIn (oN 3) (oN 2))) (pur (.int 0)) (eVar 3))
noncomputable def M__law_kind_of : M Fl := (sRet (mPrim gC pTuple (bnd (oE (mComp (mWalk zA2 (bnd (oN 0) fun o => bnd (bnd (oN 1) fun o => bnd (pur []) fun os => pur (o :: os)) fun os => pur (o :: os))) [2, 3] (tgTup 2 (tgCons (setS 2) (tgCons (setS 3) tgNil))) tAll B1__law_kind_of)) fun o => bnd (pur []) fun os => pur (o :: os))))
noncomputable def Φ__law_kind_of : List D → Fo := runF 4 [true, true] M__law_kind_of
theorem ok__law_kind_of {P : Program} {w : World} {K : PySem.W.Frag} {mg : Str → Option Value} {base : Heap} {xr : (Addr → Prop) → Hp → D → Value → Option Addr → Prop} {f : Addr} {fd : FuncData} (F : Fun K "_law_kind_of" "_law_kind_of" st__law_kind_of_ f fd) (z_zip : mg "zip" = none) (z_tuple : mg "tuple" = none) :
    FnOk P w K mg base (L2.CX P w) 1 f fd ["base", "row"] (spF K xr 2 Φ__law_kind_of) :=
  have sc := sc__law_kind_of
  fn_ok (N := ["base", "row", "lot", "cut"]) (m := M__law_kind_of) [true, true] F sc rfl fun cdv A outer s H E hr c =>
  (ss_one (st_ret (eTy c_tuple z_tuple bb_tuple (oL1 (o_val (eLc [("lot", 2), ("cut", 3)] rfl sc.nd (len_tup (len_cons len_set (len_cons len_set len_nil))) (i_zip2 z_zip (oL1 (vO 0) (oL1 (vO 1) oL0))) (fun s H C cl fp c => (gT rfl (gL1 (gN 2 sc.nd) (gL1 (gN 3 sc.nd) gL0)))) (fun s H C cl fp c => ts_nil) (fun s H C cl fp c => (s_if (tCmp (o_in (hu_room1 hr)) (vO 3) (vO 2)) s_int (vE 3))))) oL0))))
abbrev st__law_alike_ : Stmt := topS 15
theorem sc__law_alike : FnScope ["found", "due", "pairs", "at", "one", "other"] ["found", "due"] (defScope st__law_alike_) := ⟨rfl, rfl, rfl, by decide +kernel, rfl, by decide +kernel, by decide +kernel⟩
noncomputable def B1__law_alike : M Bool := (mB (mBin gC pLt (oN 3) (oE (mPrim gC pLen (bnd (oN 2) fun o => bnd (pur []) fun os => pur (o :: os))))))
noncomputable def B2__law_alike : M Fl := (sSeq (sSet (tgTup 2 (tgCons (setS 4) (tgCons (setS 5) tgNil))) (mBin gC pIx (oN 2) (oN 3)))
  (sSeq (sAug 3 pAddI (oE (pur (.int 1))))
  (sSeq (sIf (mOr (mB (mBin gC pNe (oE (mUn gR (isiP ["bool"]) (oN 4))) (oE (mUn gR (isiP ["bool"]) (oN 5))))) (mB (mBin gC pNe (oE (mUn gR (isiP ["str"]) (oN 4))) (oE (mUn gR (isiP ["str"]) (oN 5)))))) (sRet (pur (.bl false))) sSkip)
  (sSeq (sIf (mB (mBin gC pNe (oE (mUn gR (isiP ["tuple", "list"]) (oN 4))) (oE (mUn gR (isiP ["tuple", "list"]) (oN 5))))) (sRet (pur (.bl false))) sSkip)
  (sIf (mB (mUn gR (isiP ["tuple", "list"]) (oN 4))) (sSeq (sIf (mOr (mB (mBin gC pNe (oE (mUn gR (isiP ["tuple"]) (oN 4))) (oE (mUn gR (isiP ["tuple"]) (oN 5))))) (mB (mBin gC pNe (oE (mPrim gC pLen (bnd (oN 4) fun o => bnd (pur []) fun os => pur (o :: os)))) (oE (mPrim gC pLen (bnd (oN 5) fun o => bnd (pur []) fun os => pur (o :: os))))))) (sRet (pur (.bl false))) sSkip)
  (sExpr (mMut 2 fExtend (bnd (mPrim gC pLZ (bnd (oN 4) fun o => bnd (bnd (oN 5) fun o => bnd (pur []) fun os => pur (o :: os)) fun os => pur (o :: os))) fun o => bnd (pur []) fun os => pur (o :: os))))) (sIf (mB (mBin gC pNe (oN 4) (oN 5))) (sRet (pur (.bl false))) sSkip))))))
noncomputable def M__law_alike : M Fl := (sSeq (sPar 2 3 (bnd (lstD (bnd (tupD (bnd (eVar 0) fun o => bnd (bnd (eVar 1) fun o => bnd (pur []) fun os => pur (o :: os)) fun os => pur (o :: os))) fun o => bnd (pur []) fun os => pur (o :: os))) fun o => bnd (bnd (pur (.int 0)) fun o => bnd (pur []) fun os => pur (o :: os)) fun os => pur (o :: os)))
  (sSeq (sWhile B1__law_alike B2__law_alike)
  (sRet (pur (.bl true)))))
noncomputable def Φ__law_alike : List D → Fo := runF 6 [true, true] M__law_alike
theorem ok__law_alike {P : Program} {w : World} {K : PySem.W.Frag} {mg : Str → Option Value} {base : Heap} {xr : (Addr → Prop) → Hp → D → Value → Option Addr → Prop} {f : Addr} {fd : FuncData} (F : Fun K "_law_alike" "_law_alike" st__law_alike_ f fd) (z_len : mg "len" = none) (z_isinstance : mg "isinstance" = none) (z_bool : mg "bool" = none) (z_str : mg "str" = none) (z_list : mg "list" = none) (z_tuple : mg "tuple" = none) (z_zip : mg "zip" = none) :
    FnOk P w K mg base (L2.CX P w) 1 f fd ["found", "due"] (spF K xr 2 Φ__law_alike) :=
  have sc := sc__law_alike
  fn_ok (N := ["found", "due", "pairs", "at", "one", "other"]) (m := M__law_alike) [true, true] F sc rfl fun cdv A outer s H E hr c =>
  (ss_cons (stPar 2 3 rfl sc.nd (vL1 (s_lst (vL1 (s_tup (vL1 (vE 0) (vL1 (vE 1) vL0))) vL0)) (vL1 s_int vL0)))
  (ss_cons (st_while (tCmp o_lt (vO 3) (o_val (eB c_len z_len bb_len (oL1 (vO 2) oL0)))) (ss_cons (stAsg (eIx (vO 2) (vO 3)) (gT rfl (gL1 (gN 4 sc.nd) (gL1 (gN 5 sc.nd) gL0))))
  (ss_cons (stAug 3 sc.nd ip_addI (o_val s_int))
  (ss_cons (st_if (PW.pt (w_or (tCmp (o_ne (hu_room hr)) (o_val (s_isi z_isinstance (vO 4) (by decide) (pe_bltn rfl z_bool bb_bool rfl))) (o_val (s_isi z_isinstance (vO 5) (by decide) (pe_bltn rfl z_bool bb_bool rfl)))) (w_or1 (tCmp (o_ne (hu_room hr)) (o_val (s_isi z_isinstance (vO 4) (by decide) (pe_bltn rfl z_str bb_str rfl))) (o_val (s_isi z_isinstance (vO 5) (by decide) (pe_bltn rfl z_str bb_str rfl))))))) (ss_one (st_ret s_bl)) ss_nil)
  (ss_cons (st_if (tCmp (o_ne (hu_room hr)) (o_val (s_isiT z_isinstance (vO 4) (TyNs.cons (pe_bltn rfl z_tuple bb_tuple rfl) (by decide) rfl (TyNs.cons (pe_bltn rfl z_list bb_list rfl) (by decide) rfl TyNs.nil)) (by decide))) (o_val (s_isiT z_isinstance (vO 5) (TyNs.cons (pe_bltn rfl z_tuple bb_tuple rfl) (by decide) rfl (TyNs.cons (pe_bltn rfl z_list bb_list rfl) (by decide) rfl TyNs.nil)) (by decide)))) (ss_one (st_ret s_bl)) ss_nil)
  (ss_one (st_if (tVal (s_isiT z_isinstance (vO 4) (TyNs.cons (pe_bltn rfl z_tuple bb_tuple rfl) (by decide) rfl (TyNs.cons (pe_bltn rfl z_list bb_list rfl) (by decide) rfl TyNs.nil)) (by decide))) (ss_cons (st_if (PW.pt (w_or (tCmp (o_ne (hu_room hr)) (o_val (s_isi z_isinstance (vO 4) (by decide) (pe_bltn rfl z_tuple bb_tuple rfl))) (o_val (s_isi z_isinstance (vO 5) (by decide) (pe_bltn rfl z_tuple bb_tuple rfl)))) (w_or1 (tCmp (o_ne (hu_room hr)) (o_val (eB c_len z_len bb_len (oL1 (vO 4) oL0))) (o_val (eB c_len z_len bb_len (oL1 (vO 5) oL0))))))) (ss_one (st_ret s_bl)) ss_nil)
  (ss_one (stExpr (mExtend 2 (vL1 (s_listZip rfl z_list z_zip (oL1 (vO 4) (oL1 (vO 5) oL0))) vL0))))) (ss_one (st_if (tCmp (o_ne (hu_room hr)) (vO 4) (vO 5)) (ss_one (st_ret s_bl)) ss_nil)))))))) owns_cx)
  (ss_one (st_ret s_bl))))
abbrev st_mark_rank_ : Stmt := topS 3
theorem sc_mark_rank : FnScope ["mark", "part"] ["mark"] (defScope st_mark_rank_) := ⟨rfl, rfl, rfl, by decide +kernel, rfl, by decide +kernel, by decide +kernel⟩
noncomputable def B1_mark_rank : M D := (eVar 1)
noncomputable def B2_mark_rank : M Bool := (mB (mBin gC pNe (oN 1) (oE (pur (.int 0)))))
noncomputable def M_mark_rank : M Fl := (sRet (mPrim gC pLen (bnd (oE (mComp (mSrc (oN 0)) [1] (setS 1) B2_mark_rank B1_mark_rank)) fun o => bnd (pur []) fun os => pur (o :: os))))
noncomputable def Φ_mark_rank : List D → Fo := runF 2 [true] M_mark_rank
theorem ok_mark_rank {P : Program} {w : World} {K : PySem.W.Frag} {mg : Str → Option Value} {base : Heap} {xr : (Addr → Prop) → Hp → D → Value → Option Addr → Prop} {f : Addr} {fd : FuncData} (F : Fun K "mark_rank" "mark_rank" st_mark_rank_ f fd) (z_len : mg "len" = none) :
    FnOk P w K mg base (L2.CX P w) 1 f fd ["mark"] (spF K xr 1 Φ_mark_rank) :=
  have sc := sc_mark_rank
  fn_ok (N := ["mark", "part"]) (m := M_mark_rank) [true] F sc rfl fun cdv A outer s H E hr c =>
  (ss_one (st_ret (eB c_len z_len bb_len (oL1 (o_val (eLc [("part", 1)] rfl sc.nd len_set (i_seq (vO 0)) (fun s H C cl fp c => (gN 1 sc.nd)) (fun s H C cl fp c => (ts_one (tCmp (o_ne (hu_room hr)) (vO 1) (o_val s_int)))) (fun s H C cl fp c => (vE 1)))) oL0))))
abbrev st_mark_of_ : Stmt := topS 1
theorem sc_mark_of : FnScope ["base", "row", "lot", "cut"] ["base", "row"] (defScope st_mark_of_) := ⟨rfl, rfl, rfl, by decide +kernel, rfl, by decide +kernel, by decide +kernel⟩
noncomputable def B1_mark_of : M D := (mIf (mB (mBin gC pIn (oN 3) (oN 2))) (pur (.int 0)) (eVar 3))
noncomputable def M_mark_of : M Fl := (sRet (mPrim gC pTuple (bnd (oE (mComp (mWalk zA2 (bnd (oN 0) fun o => bnd (bnd (oN 1) fun o => bnd (pur []) fun os => pur (o :: os)) fun os => pur (o :: os))) [2, 3] (tgTup 2 (tgCons (setS 2) (tgCons (setS 3) tgNil))) tAll B1_mark_of)) fun o => bnd (pur []) fun os => pur (o :: os))))
noncomputable def Φ_mark_of : List D → Fo := runF 4 [true, true] M_mark_of
theorem ok_mark_of {P : Program} {w : World} {K : PySem.W.Frag} {mg : Str → Option Value} {base : Heap} {xr : (Addr → Prop) → Hp → D → Value → Option Addr → Prop} {f : Addr} {fd : FuncData} (F : Fun K "mark_of" "mark_of" st_mark_of_ f fd) (z_zip : mg "zip" = none) (z_tuple : mg "tuple" = none) :
    FnOk P w K mg base (L2.CX P w) 1 f fd ["base", "row"] (spF K xr 2 Φ_mark_of) :=
  have sc := sc_mark_of
  fn_ok (N := ["base", "row", "lot", "cut"]) (m := M_mark_of) [true, true] F sc rfl fun cdv A outer s H E hr c =>
  (ss_one (st_ret (eTy c_tuple z_tuple bb_tuple (oL1 (o_val (eLc [("lot", 2), ("cut", 3)] rfl sc.nd (len_tup (len_cons len_set (len_cons len_set len_nil))) (i_zip2 z_zip (oL1 (vO 0) (oL1 (vO 1) oL0))) (fun s H C cl fp c => (gT rfl (gL1 (gN 2 sc.nd) (gL1 (gN 3 sc.nd) gL0)))) (fun s H C cl fp c => ts_nil) (fun s H C cl fp c => (s_if (tCmp (o_in (hu_room1 hr)) (vO 3) (vO 2)) s_int (vE 3))))) oL0))))
abbrev st_rank_of_ : Stmt := topS 2
theorem sc_rank_of : FnScope ["base", "row"] ["base", "row"] (defScope st_rank_of_) := ⟨rfl, rfl, rfl, by decide +kernel, rfl, by decide +kernel, by decide +kernel⟩
noncomputable def M_rank_of : M Fl := (sRet (mCall 1 Φ_mark_rank (bnd (bnd (oE (mCall 2 Φ_mark_of (bnd (bnd (oN 0) fun o => bnd (bnd (oN 1) fun o => bnd (pur []) fun os => pur (o :: os)) fun os => pur (o :: os)) lendL))) fun o => bnd (pur []) fun os => pur (o :: os)) lendL)))
noncomputable def Φ_rank_of : List D → Fo := runF 2 [true, true] M_rank_of
theorem ok_rank_of {P : Program} {w : World} {K : PySem.W.Frag} {mg : Str → Option Value} {base : Heap} {xr : (Addr → Prop) → Hp → D → Value → Option Addr → Prop} {f : Addr} {fd : FuncData} (F : Fun K "rank_of" "rank_of" st_rank_of_ f fd) (F_mark_rank : FnY P w K mg base xr 1 "mark_rank" 1 Φ_mark_rank) (F_mark_of : FnY P w K mg base xr 1 "mark_of" 2 Φ_mark_of) :
    FnOk P w K mg base (L2.CX P w) 2 f fd ["base", "row"] (spF K xr 2 Φ_rank_of) :=
  have sc := sc_rank_of
  fn_ok (N := ["base", "row"]) (m := M_rank_of) [true, true] F sc rfl fun cdv A outer s H E hr c =>
  (ss_one (st_ret (s_call F_mark_rank (hr.mono (by decide)) takes_cx (aL (oL1 (o_val (s_call F_mark_of (hr.mono (by decide)) takes_cx (aL (oL1 (vO 0) (oL1 (vO 1) oL0))))) oL0)))))
abbrev st_meets_base_ : Stmt := topS 8
theorem sc_meets_base : FnScope ["base", "row", "chamber", "part"] ["base", "row"] (defScope st_meets_base_) := ⟨rfl, rfl, rfl, by decide +kernel, rfl, by decide +kernel, by decide +kernel⟩
noncomputable def B1_meets_base : M D := (eVar 2)
noncomputable def B2_meets_base : M Bool := (mB (mBin gC pEq (oN 3) (oE (pur (.int 0)))))
noncomputable def M_meets_base : M Fl := (sRet (mPrim gC pTuple (bnd (oE (mComp (mWalk eA (bnd (oE (mCall 2 Φ_mark_of (bnd (bnd (oN 0) fun o => bnd (bnd (oN 1) fun o => bnd (pur []) fun os => pur (o :: os)) fun os => pur (o :: os)) lendL))) fun o => bnd (pur []) fun os => pur (o :: os))) [2, 3] (tgTup 2 (tgCons (setS 2) (tgCons (setS 3) tgNil))) B2_meets_base B1_meets_base)) fun o => bnd (pur []) fun os => pur (o :: os))))
noncomputable def Φ_meets_base : List D → Fo := runF 4 [true, true] M_meets_base
theorem ok_meets_base {P : Program} {w : World} {K : PySem.W.Frag} {mg : Str → Option Value} {base : Heap} {xr : (Addr → Prop) → Hp → D → Value → Option Addr → Prop} {f : Addr} {fd : FuncData} (F : Fun K "meets_base" "meets_base" st_meets_base_ f fd) (z_enumerate : mg "enumerate" = none) (z_tuple : mg "tuple" = none) (F_mark_of : FnY P w K mg base xr 1 "mark_of" 2 Φ_mark_of) :
    FnOk P w K mg base (L2.CX P w) 2 f fd ["base", "row"] (spF K xr 2 Φ_meets_base) :=
  have sc := sc_meets_base
  fn_ok (N := ["base", "row", "chamber", "part"]) (m := M_meets_base) [true, true] F sc rfl fun cdv A outer s H E hr c =>
  (ss_one (st_ret (eTy c_tuple z_tuple bb_tuple (oL1 (o_val (eLc [("chamber", 2), ("part", 3)] rfl sc.nd (len_tup (len_cons len_set (len_cons len_set len_nil))) (i_enum z_enumerate (oL1 (o_val (s_call F_mark_of (hr.mono (by decide)) takes_cx (aL (oL1 (vO 0) (oL1 (vO 1) oL0))))) oL0)) (fun s H C cl fp c => (gT rfl (gL1 (gN 2 sc.nd) (gL1 (gN 3 sc.nd) gL0)))) (fun s H C cl fp c => (ts_one (tCmp (o_eq (hu_room hr)) (vO 3) (o_val s_int)))) (fun s H C cl fp c => (vE 2)))) oL0))))
abbrev st__law_below_ : Stmt := topS 16
theorem sc__law_below : FnScope ["base", "one", "other", "lot", "cut", "its"] ["base", "one", "other"] (defScope st__law_below_) := ⟨rfl, rfl, rfl, by decide +kernel, rfl, by decide +kernel, by decide +kernel⟩
noncomputable def B1__law_below : M D := (pur (.int 1))
noncomputable def B2__law_below : M Bool := (mAnd (mB (mBin gC pNe (oN 4) (oN 5))) (mB (mBin gC pNotIn (oN 4) (oN 3))))
noncomputable def M__law_below : M Fl := (sRet (mBin gC pEq (oE (mComp (mWalk zA3 (bnd (oN 0) fun o => bnd (bnd (oN 1) fun o => bnd (bnd (oN 2) fun o => bnd (pur []) fun os => pur (o :: os)) fun os => pur (o :: os)) fun os => pur (o :: os))) [3, 4, 5] (tgTup 3 (tgCons (setS 3) (tgCons (setS 4) (tgCons (setS 5) tgNil)))) B2__law_below B1__law_below)) (oE (lstD (pur [])))))
noncomputable def Φ__law_below : List D → Fo := runF 6 [true, true, true] M__law_below
theorem ok__law_below {P : Program} {w : World} {K : PySem.W.Frag} {mg : Str → Option Value} {base : Heap} {xr : (Addr → Prop) → Hp → D → Value → Option Addr → Prop} {f : Addr} {fd : FuncData} (F : Fun K "_law_below" "_law_below" st__law_below_ f fd) (z_zip : mg "zip" = none) :
    FnOk P w K mg base (L2.CX P w) 1 f fd ["base", "one", "other"] (spF K xr 3 Φ__law_below) :=
  have sc := sc__law_below
  fn_ok (N := ["base", "one", "other", "lot", "cut", "its"]) (m := M__law_below) [true, true, true] F sc rfl fun cdv A outer s H E hr c =>
  (ss_one (st_ret (eCmp (o_eq (hu_room hr)) (o_val (eLc [("lot", 3), ("cut", 4), ("its", 5)] rfl sc.nd (len_tup (len_cons len_set (len_cons len_set (len_cons len_set len_nil)))) (i_zip3 z_zip (oL1 (vO 0) (oL1 (vO 1) (oL1 (vO 2) oL0)))) (fun s H C cl fp c => (gT rfl (gL1 (gN 3 sc.nd) (gL1 (gN 4 sc.nd) (gL1 (gN 5 sc.nd) gL0))))) (fun s H C cl fp c => (ts_one (PW.pt (w_and (tCmp (o_ne (hu_room hr)) (vO 4) (vO 5)) (w_and1 (tCmp (o_notIn (hu_room1 hr)) (vO 4) (vO 3))))))) (fun s H C cl fp c => s_int))) (o_val (s_lst vL0)))))
abbrev st__law_comparable_ : Stmt := topS 17
theorem sc__law_comparable : FnScope ["base", "one", "other"] ["base", "one", "other"] (defScope st__law_comparable_) := ⟨rfl, rfl, rfl, by decide +kernel, rfl, by decide +kernel, by decide +kernel⟩
noncomputable def M__law_comparable : M Fl := (sRet (mOrV (mCall 3 Φ__law_below (bnd (bnd (oN 0) fun o => bnd (bnd (oN 1) fun o => bnd (bnd (oN 2) fun o => bnd (pur []) fun os => pur (o :: os)) fun os => pur (o :: os)) fun os => pur (o :: os)) lendL)) (mCall 3 Φ__law_below (bnd (bnd (oN 0) fun o => bnd (bnd (oN 2) fun o => bnd (bnd (oN 1) fun o => bnd (pur []) fun os => pur (o :: os)) fun os => pur (o :: os)) fun os => pur (o :: os)) lendL))))
noncomputable def Φ__law_comparable : List D → Fo := runF 3 [true, true, true] M__law_comparable
theorem ok__law_comparable {P : Program} {w : World} {K : PySem.W.Frag} {mg : Str → Option Value} {base : Heap} {xr : (Addr → Prop) → Hp → D → Value → Option Addr → Prop} {f : Addr} {fd : FuncData} (F : Fun K "_law_comparable" "_law_comparable" st__law_comparable_ f fd) (F__law_below : FnY P w K mg base xr 1 "_law_below" 3 Φ__law_below) :
    FnOk P w K mg base (L2.CX P w) 2 f fd ["base", "one", "other"] (spF K xr 3 Φ__law_comparable) :=
  have sc := sc__law_comparable
  fn_ok (N := ["base", "one", "other"]) (m := M__law_comparable) [true, true, true] F sc rfl fun cdv A outer s H E hr c =>
  (ss_one (st_ret (s_or (s_call F__law_below (hr.mono (by decide)) takes_cx (aL (oL1 (vO 0) (oL1 (vO 1) (oL1 (vO 2) oL0))))) (s_and1 (s_call F__law_below (hr.mono (by decide)) takes_cx (aL (oL1 (vO 0) (oL1 (vO 2) (oL1 (vO 1) oL0)))))))))
abbrev st_is_under_ : Stmt := topS 4
theorem sc_is_under : FnScope ["one", "other", "mine", "its"] ["one", "other"] (defScope st_is_under_) := ⟨rfl, rfl, rfl, by decide +kernel, rfl, by decide +kernel, by decide +kernel⟩
noncomputable def B1_is_under : M D := (mBin gC pIn (oN 2) (oE (tupD (bnd (pur (.int 0)) fun o => bnd (bnd (eVar 3) fun o => bnd (pur []) fun os => pur (o :: os)) fun os => pur (o :: os)))))
noncomputable def M_is_under : M Fl := (sRet (mPrim gC pAll (bnd (oE (mComp (mWalk zA2 (bnd (oN 0) fun o => bnd (bnd (oN 1) fun o => bnd (pur []) fun os => pur (o :: os)) fun os => pur (o :: os))) [2, 3] (tgTup 2 (tgCons (setS 2) (tgCons (setS 3) tgNil))) tAll B1_is_under)) fun o => bnd (pur []) fun os => pur (o :: os))))
noncomputable def Φ_is_under : List D → Fo := runF 4 [true, true] M_is_under
theorem ok_is_under {P : Program} {w : World} {K : PySem.W.Frag} {mg : Str → Option Value} {base : Heap} {xr : (Addr → Prop) → Hp → D → Value → Option Addr → Prop} {f : Addr} {fd : FuncData} (F : Fun K "is_under" "is_under" st_is_under_ f fd) (z_zip : mg "zip" = none) (z_all : mg "all" = none) :
    FnOk P w K mg base (L2.CX P w) 1 f fd ["one", "other"] (spF K xr 2 Φ_is_under) :=
  have sc := sc_is_under
  fn_ok (N := ["one", "other", "mine", "its"]) (m := M_is_under) [true, true] F sc rfl fun cdv A outer s H E hr c =>
  (ss_one (st_ret (eB (c_all rfl) z_all bb_all (oL1 (o_val (eLc [("mine", 2), ("its", 3)] rfl sc.nd (len_tup (len_cons len_set (len_cons len_set len_nil))) (i_zip2 z_zip (oL1 (vO 0) (oL1 (vO 1) oL0))) (fun s H C cl fp c => (gT rfl (gL1 (gN 2 sc.nd) (gL1 (gN 3 sc.nd) gL0)))) (fun s H C cl fp c => ts_nil) (fun s H C cl fp c => (eCmp (o_in (hu_room1 hr)) (vO 2) (o_val (s_tup (vL1 s_int (vL1 (vE 3) vL0)))))))) oL0))))
abbrev st_is_below_ : Stmt := topS 5
theorem sc_is_below : FnScope ["base", "one", "other"] ["base", "one", "other"] (defScope st_is_below_) := ⟨rfl, rfl, rfl, by decide +kernel, rfl, by decide +kernel, by decide +kernel⟩
noncomputable def M_is_below : M Fl := (sRet (mCall 2 Φ_is_under (bnd (bnd (oE (mCall 2 Φ_mark_of (bnd (bnd (oN 0) fun o => bnd (bnd (oN 1) fun o => bnd (pur []) fun os => pur (o :: os)) fun os => pur (o :: os)) lendL))) fun o => bnd (bnd (oE (mCall 2 Φ_mark_of (bnd (bnd (oN 0) fun o => bnd (bnd (oN 2) fun o => bnd (pur []) fun os => pur (o :: os)) fun os => pur (o :: os)) lendL))) fun o => bnd (pur []) fun os => pur (o :: os)) fun os => pur (o :: os)) lendL)))
noncomputable def Φ_is_below : List D → Fo := runF 3 [true, true, true] M_is_below
theorem ok_is_below {P : Program} {w : World} {K : PySem.W.Frag} {mg : Str → Option Value} {base : Heap} {xr : (Addr → Prop) → Hp → D → Value → Option Addr → Prop} {f : Addr} {fd : FuncData} (F : Fun K "is_below" "is_below" st_is_below_ f fd) (F_is_under : FnY P w K mg base xr 1 "is_under" 2 Φ_is_under) (F_mark_of : FnY P w K mg base xr 1 "mark_of" 2 Φ_mark_of) :
    FnOk P w K mg base (L2.CX P w) 2 f fd ["base", "one", "other"] (spF K xr 3 Φ_is_below) :=
  have sc := sc_is_below
  fn_ok (N := ["base", "one", "other"]) (m := M_is_below) [true, true, true] F sc rfl fun cdv A outer s H E hr c =>
  (ss_one (st_ret (s_call F_is_under (hr.mono (by decide)) takes_cx (aL (oL1 (o_val (s_call F_mark_of (hr.mono (by decide)) takes_cx (aL (oL1 (vO 0) (oL1 (vO 1) oL0))))) (oL1 (o_val (s_call F_mark_of (hr.mono (by decide)) takes_cx (aL (oL1 (vO 0) (oL1 (vO 2) oL0))))) oL0))))))
abbrev st_are_comparable_ : Stmt := topS 7
theorem sc_are_comparable : FnScope ["base", "one", "other"] ["base", "one", "other"] (defScope st_are_comparable_) := ⟨rfl, rfl, rfl, by decide +kernel, rfl, by decide +kernel, by decide +kernel⟩
noncomputable def M_are_comparable : M Fl := (sRet (mOrV (mCall 3 Φ_is_below (bnd (bnd (oN 0) fun o => bnd (bnd (oN 1) fun o => bnd (bnd (oN 2) fun o => bnd (pur []) fun os => pur (o :: os)) fun os => pur (o :: os)) fun os => pur (o :: os)) lendL)) (mCall 3 Φ_is_below (bnd (bnd (oN 0) fun o => bnd (bnd (oN 2) fun o => bnd (bnd (oN 1) fun o => bnd (pur []) fun os => pur (o :: os)) fun os => pur (o :: os)) fun os => pur (o :: os)) lendL))))
noncomputable def Φ_are_comparable : List D → Fo := runF 3 [true, true, true] M_are_comparable
theorem ok_are_comparable {P : Program} {w : World} {K : PySem.W.Frag} {mg : Str → Option Value} {base : Heap} {xr : (Addr → Prop) → Hp → D → Value → Option Addr → Prop} {f : Addr} {fd : FuncData} (F : Fun K "are_comparable" "are_comparable" st_are_comparable_ f fd) (F_is_below : FnY P w K mg base xr 2 "is_below" 3 Φ_is_below) :
    FnOk P w K mg base (L2.CX P w) 3 f fd ["base", "one", "other"] (spF K xr 3 Φ_are_comparable) :=
  have sc := sc_are_comparable
  fn_ok (N := ["base", "one", "other"]) (m := M_are_comparable) [true, true, true] F sc rfl fun cdv A outer s H E hr c =>
  (ss_one (st_ret (s_or (s_call F_is_below (hr.mono (by decide)) takes_cx (aL (oL1 (vO 0) (oL1 (vO 1) (oL1 (vO 2) oL0))))) (s_and1 (s_call F_is_below (hr.mono (by decide)) takes_cx (aL (oL1 (vO 0) (oL1 (vO 2) (oL1 (vO 1) oL0)))))))))
abbrev st_are_alike_ : Stmt := topS 6
theorem sc_are_alike : FnScope ["base", "one", "other"] ["base", "one", "other"] (defScope st_are_alike_) := ⟨rfl, rfl, rfl, by decide +kernel, rfl, by decide +kernel, by decide +kernel⟩
noncomputable def M_are_alike : M Fl := (sRet (mBin gC pEq (oE (mCall 2 Φ_mark_of (bnd (bnd (oN 0) fun o => bnd (bnd (oN 1) fun o => bnd (pur []) fun os => pur (o :: os)) fun os => pur (o :: os)) lendL))) (oE (mCall 2 Φ_mark_of (bnd (bnd (oN 0) fun o => bnd (bnd (oN 2) fun o => bnd (pur []) fun os => pur (o :: os)) fun os => pur (o :: os)) lendL)))))
noncomputable def Φ_are_alike : List D → Fo := runF 3 [true, true, true] M_are_alike
theorem ok_are_alike {P : Program} {w : World} {K : PySem.W.Frag} {mg : Str → Option Value} {base : Heap} {xr : (Addr → Prop) → Hp → D → Value → Option Addr → Prop} {f : Addr} {fd : FuncData} (F : Fun K "are_alike" "are_alike" st_are_alike_ f fd) (F_mark_of : FnY P w K mg base xr 1 "mark_of" 2 Φ_mark_of) :
    FnOk P w K mg base (L2.CX P w) 2 f fd ["base", "one", "other"] (spF K xr 3 Φ_are_alike) :=
  have sc := sc_are_alike
  fn_ok (N := ["base", "one", "other"]) (m := M_are_alike) [true, true, true] F sc rfl fun cdv A outer s H E hr c =>
  (ss_one (st_ret (eCmp (o_eq (hu_room hr)) (o_val (s_call F_mark_of (hr.mono (by decide)) takes_cx (aL (oL1 (vO 0) (oL1 (vO 1) oL0))))) (o_val (s_call F_mark_of (hr.mono (by decide)) takes_cx (aL (oL1 (vO 0) (oL1 (vO 2) oL0))))))))
abbrev st__law_under_ : Stmt := topS 22
theorem sc__law_under : FnScope ["one", "other", "cut", "its"] ["one", "other"] (defScope st__law_under_) := ⟨rfl, rfl, rfl, by decide +kernel, rfl, by decide +kernel, by decide +kernel⟩
noncomputable def B1__law_under : M D := (pur (.int 1))
noncomputable def B2__law_under : M Bool := (mB (mBin gC pNotIn (oN 2) (oE (tupD (bnd (pur (.int 0)) fun o => bnd (bnd (eVar 3) fun o => bnd (pur []) fun os => pur (o :: os)) fun os => pur (o :: os))))))
noncomputable def M__law_under : M Fl := (sRet (mBin gC pEq (oE (mComp (mWalk zA2 (bnd (oN 0) fun o => bnd (bnd (oN 1) fun o => bnd (pur []) fun os => pur (o :: os)) fun os => pur (o :: os))) [2, 3] (tgTup 2 (tgCons (setS 2) (tgCons (setS 3) tgNil))) B2__law_under B1__law_under)) (oE (lstD (pur [])))))
noncomputable def Φ__law_under : List D → Fo := runF 4 [true, true] M__law_under
theorem ok__law_under {P : Program} {w : World} {K : PySem.W.Frag} {mg : Str → Option Value} {base : Heap} {xr : (Addr → Prop) → Hp → D → Value → Option Addr → Prop} {f : Addr} {fd : FuncData} (F : Fun K "_law_under" "_law_under" st__law_under_ f fd) (z_zip : mg "zip" = none) :
    FnOk P w K mg base (L2.CX P w) 1 f fd ["one", "other"] (spF K xr 2 Φ__law_under) :=
  have sc := sc__law_under
  fn_ok (N := ["one", "other", "cut", "its"]) (m := M__law_under) [true, true] F sc rfl fun cdv A outer s H E hr c =>
  (ss_one (st_ret (eCmp (o_eq (hu_room hr)) (o_val (eLc [("cut", 2), ("its", 3)] rfl sc.nd (len_tup (len_cons len_set (len_cons len_set len_nil))) (i_zip2 z_zip (oL1 (vO 0) (oL1 (vO 1) oL0))) (fun s H C cl fp c => (gT rfl (gL1 (gN 2 sc.nd) (gL1 (gN 3 sc.nd) gL0)))) (fun s H C cl fp c => (ts_one (tCmp (o_notIn (hu_room1 hr)) (vO 2) (o_val (s_tup (vL1 s_int (vL1 (vE 3) vL0))))))) (fun s H C cl fp c => s_int))) (o_val (s_lst vL0)))))
abbrev st_common_below_ : Stmt := topS 9
theorem sc_common_below : FnScope ["base", "one", "other", "mine", "its"] ["base", "one", "other"] (defScope st_common_below_) := ⟨rfl, rfl, rfl, by decide +kernel, rfl, by decide +kernel, by decide +kernel⟩
noncomputable def B1_common_below : M D := (mIf (mB (mBin gC pEq (oN 3) (oN 4))) (eVar 3) (pur (.int 0)))
noncomputable def M_common_below : M Fl := (sRet (mPrim gC pTuple (bnd (oE (mComp (mWalk zA2 (bnd (oE (mCall 2 Φ_mark_of (bnd (bnd (oN 0) fun o => bnd (bnd (oN 1) fun o => bnd (pur []) fun os => pur (o :: os)) fun os => pur (o :: os)) lendL))) fun o => bnd (bnd (oE (mCall 2 Φ_mark_of (bnd (bnd (oN 0) fun o => bnd (bnd (oN 2) fun o => bnd (pur []) fun os => pur (o :: os)) fun os => pur (o :: os)) lendL))) fun o => bnd (pur []) fun os => pur (o :: os)) fun os => pur (o :: os))) [3, 4] (tgTup 2 (tgCons (setS 3) (tgCons (setS 4) tgNil))) tAll B1_common_below)) fun o => bnd (pur []) fun os => pur (o :: os))))
noncomputable def Φ_common_below : List D → Fo := runF 5 [true, true, true] M_common_below
theorem ok_common_below {P : Program} {w : World} {K : PySem.W.Frag} {mg : Str → Option Value} {base : Heap} {xr : (Addr → Prop) → Hp → D → Value → Option Addr → Prop} {f : Addr} {fd : FuncData} (F : Fun K "common_below" "common_below" st_common_below_ f fd) (z_zip : mg "zip" = none) (z_tuple : mg "tuple" = none) (F_mark_of : FnY P w K mg base xr 1 "mark_of" 2 Φ_mark_of) :
    FnOk P w K mg base (L2.CX P w) 2 f fd ["base", "one", "other"] (spF K xr 3 Φ_common_below) :=
  have sc := sc_common_below
  fn_ok (N := ["base", "one", "other", "mine", "its"]) (m := M_common_below) [true, true, true] F sc rfl fun cdv A outer s H E hr c =>
  (ss_one (st_ret (eTy c_tuple z_tuple bb_tuple (oL1 (o_val (eLc [("mine", 3), ("its", 4)] rfl sc.nd (len_tup (len_cons len_set (len_cons len_set len_nil))) (i_zip2 z_zip (oL1 (o_val (s_call F_mark_of (hr.mono (by decide)) takes_cx (aL (oL1 (vO 0) (oL1 (vO 1) oL0))))) (oL1 (o_val (s_call F_mark_of (hr.mono (by decide)) takes_cx (aL (oL1 (vO 0) (oL1 (vO 2) oL0))))) oL0))) (fun s H C cl fp c => (gT rfl (gL1 (gN 3 sc.nd) (gL1 (gN 4 sc.nd) gL0)))) (fun s H C cl fp c => ts_nil) (fun s H C cl fp c => (s_if (tCmp (o_eq (hu_room hr)) (vO 3) (vO 4)) (vE 3) s_int)))) oL0))))
abbrev st_law_ : Stmt := topS 23
theorem sc_law : FnScope ["script", "bag", "turn", "make", "base", "some", "at", "marks", "one", "mark", "other", "its", "due", "common", "third", "last", "k", "row", "cut", "j", "two"] ["script"] (defScope st_law_) := ⟨rfl, rfl, rfl, by decide +kernel, rfl, by decide +kernel, by decide +kernel⟩
noncomputable def B1_law : M D := (mCall 2 Φ__law_cuts (bnd (bnd (oN 1) fun o => bnd (bnd (oN 3) fun o => bnd (pur []) fun os => pur (o :: os)) fun os => pur (o :: os)) lendL))
noncomputable def B2_law : M D := (mCall 2 Φ__law_kind_of (bnd (bnd (oN 4) fun o => bnd (bnd (oN 17) fun o => bnd (pur []) fun os => pur (o :: os)) fun os => pur (o :: os)) lendL))
noncomputable def B3_law : M D := (pur (.int 1))
noncomputable def B4_law : M Bool := (mB (mBin gC pGt (oN 18) (oE (pur (.int 0)))))
noncomputable def B5_law : M D := (eVar 19)
noncomputable def B6_law : M Bool := (mB (mBin gC pEq (oN 18) (oE (pur (.int 0)))))
noncomputable def B7_law : M D := (mIf (mB (mBin gC pEq (oN 18) (oN 20))) (eVar 18) (pur (.int 0)))
noncomputable def B8_law : M Fl := (sSeq (sIf (mAnd (mB (mBin gC pIx (oN 12) (oE (pur (.int 0))))) (mAnd (mB (mCall 3 Φ_is_below (bnd (bnd (oN 4) fun o => bnd (bnd (oN 10) fun o => bnd (bnd (oN 14) fun o => bnd (pur []) fun os => pur (o :: os)) fun os => pur (o :: os)) fun os => pur (o :: os)) lendL))) (mNot (mB (mCall 3 Φ_is_below (bnd (bnd (oN 4) fun o => bnd (bnd (oN 8) fun o => bnd (bnd (oN 14) fun o => bnd (pur []) fun os => pur (o :: os)) fun os => pur (o :: os)) fun os => pur (o :: os)) lendL)))))) (sRet (pur (.bl false))) sSkip)
  (sIf (mB (mBin gC pNe (oE (mAndV (mCall 2 Φ__law_under (bnd (bnd (oN 15) fun o => bnd (bnd (oN 9) fun o => bnd (pur []) fun os => pur (o :: os)) fun os => pur (o :: os)) lendL)) (mCall 2 Φ__law_under (bnd (bnd (oN 15) fun o => bnd (bnd (oN 11) fun o => bnd (pur []) fun os => pur (o :: os)) fun os => pur (o :: os)) lendL)))) (oE (mCall 2 Φ__law_under (bnd (bnd (oN 15) fun o => bnd (bnd (oN 13) fun o => bnd (pur []) fun os => pur (o :: os)) fun os => pur (o :: os)) lendL))))) (sRet (pur (.bl false))) sSkip))
noncomputable def B9_law : M Fl := (sSeq (sSet (setS 12) (lstD (bnd (mCall 3 Φ__law_below (bnd (bnd (oN 4) fun o => bnd (bnd (oN 8) fun o => bnd (bnd (oN 10) fun o => bnd (pur []) fun os => pur (o :: os)) fun os => pur (o :: os)) fun os => pur (o :: os)) lendL)) fun o => bnd (bnd (mBin gC pEq (oN 9) (oN 11)) fun o => bnd (bnd (mCall 3 Φ__law_comparable (bnd (bnd (oN 4) fun o => bnd (bnd (oN 8) fun o => bnd (bnd (oN 10) fun o => bnd (pur []) fun os => pur (o :: os)) fun os => pur (o :: os)) fun os => pur (o :: os)) lendL)) fun o => bnd (pur []) fun os => pur (o :: os)) fun os => pur (o :: os)) fun os => pur (o :: os))))
  (sSeq (sIf (mNot (mB (mCall 2 Φ__law_alike (bnd (bnd (oE (lstD (bnd (mCall 3 Φ_is_below (bnd (bnd (oN 4) fun o => bnd (bnd (oN 8) fun o => bnd (bnd (oN 10) fun o => bnd (pur []) fun os => pur (o :: os)) fun os => pur (o :: os)) fun os => pur (o :: os)) lendL)) fun o => bnd (bnd (mCall 3 Φ_are_alike (bnd (bnd (oN 4) fun o => bnd (bnd (oN 8) fun o => bnd (bnd (oN 10) fun o => bnd (pur []) fun os => pur (o :: os)) fun os => pur (o :: os)) fun os => pur (o :: os)) lendL)) fun o => bnd (bnd (mCall 3 Φ_are_comparable (bnd (bnd (oN 4) fun o => bnd (bnd (oN 8) fun o => bnd (bnd (oN 10) fun o => bnd (pur []) fun os => pur (o :: os)) fun os => pur (o :: os)) fun os => pur (o :: os)) lendL)) fun o => bnd (pur []) fun os => pur (o :: os)) fun os => pur (o :: os)) fun os => pur (o :: os)))) fun o => bnd (bnd (oN 12) fun o => bnd (pur []) fun os => pur (o :: os)) fun os => pur (o :: os)) lendL)))) (sRet (pur (.bl false))) sSkip)
  (sSeq (sSet (setS 13) (mPrim gC pTuple (bnd (oE (mComp (mWalk zA2 (bnd (oN 9) fun o => bnd (bnd (oN 11) fun o => bnd (pur []) fun os => pur (o :: os)) fun os => pur (o :: os))) [18, 20] (tgTup 2 (tgCons (setS 18) (tgCons (setS 20) tgNil))) tAll B7_law)) fun o => bnd (pur []) fun os => pur (o :: os))))
  (sSeq (sIf (mOr (mB (mBin gC pNe (oE (mBin gC pIx (oN 12) (oE (pur (.int 0))))) (oE (mCall 2 Φ__law_under (bnd (bnd (oN 9) fun o => bnd (bnd (oN 11) fun o => bnd (pur []) fun os => pur (o :: os)) fun os => pur (o :: os)) lendL))))) (mNot (mB (mCall 2 Φ__law_alike (bnd (bnd (oE (mCall 3 Φ_common_below (bnd (bnd (oN 4) fun o => bnd (bnd (oN 8) fun o => bnd (bnd (oN 10) fun o => bnd (pur []) fun os => pur (o :: os)) fun os => pur (o :: os)) fun os => pur (o :: os)) lendL))) fun o => bnd (bnd (oN 13) fun o => bnd (pur []) fun os => pur (o :: os)) fun os => pur (o :: os)) lendL))))) (sRet (pur (.bl false))) sSkip)
  (sFor (mWalk zA2 (bnd (oN 5) fun o => bnd (bnd (oN 7) fun o => bnd (pur []) fun os => pur (o :: os)) fun os => pur (o :: os))) (tgTup 2 (tgCons (setS 14) (tgCons (setS 15) tgNil))) B8_law)))))
noncomputable def B10_law : M Fl := (sSeq (sIf (mNot (mB (mCall 2 Φ__law_alike (bnd (bnd (oE (lstD (bnd (mCall 2 Φ_mark_of (bnd (bnd (oN 4) fun o => bnd (bnd (oN 8) fun o => bnd (pur []) fun os => pur (o :: os)) fun os => pur (o :: os)) lendL)) fun o => bnd (bnd (mCall 2 Φ_rank_of (bnd (bnd (oN 4) fun o => bnd (bnd (oN 8) fun o => bnd (pur []) fun os => pur (o :: os)) fun os => pur (o :: os)) lendL)) fun o => bnd (pur []) fun os => pur (o :: os)) fun os => pur (o :: os)))) fun o => bnd (bnd (oE (lstD (bnd (eVar 9) fun o => bnd (bnd (mPrim gC pLen (bnd (oE (mComp (mSrc (oN 9)) [18] (setS 18) B4_law B3_law)) fun o => bnd (pur []) fun os => pur (o :: os))) fun o => bnd (pur []) fun os => pur (o :: os)) fun os => pur (o :: os)))) fun o => bnd (pur []) fun os => pur (o :: os)) fun os => pur (o :: os)) lendL)))) (sRet (pur (.bl false))) sSkip)
  (sSeq (sIf (mNot (mB (mCall 2 Φ__law_alike (bnd (bnd (oE (mCall 2 Φ_meets_base (bnd (bnd (oN 4) fun o => bnd (bnd (oN 8) fun o => bnd (pur []) fun os => pur (o :: os)) fun os => pur (o :: os)) lendL))) fun o => bnd (bnd (oE (mPrim gC pTuple (bnd (oE (mComp (mWalk eA (bnd (oN 9) fun o => bnd (pur []) fun os => pur (o :: os))) [19, 18] (tgTup 2 (tgCons (setS 19) (tgCons (setS 18) tgNil))) B6_law B5_law)) fun o => bnd (pur []) fun os => pur (o :: os)))) fun o => bnd (pur []) fun os => pur (o :: os)) fun os => pur (o :: os)) lendL)))) (sRet (pur (.bl false))) sSkip)
  (sFor (mWalk zA2 (bnd (oN 5) fun o => bnd (bnd (oN 7) fun o => bnd (pur []) fun os => pur (o :: os)) fun os => pur (o :: os))) (tgTup 2 (tgCons (setS 10) (tgCons (setS 11) tgNil))) B9_law)))
noncomputable def B11_law : M Fl := (sSeq (sSet (setS 3) (mCall 3 Φ__law_make (bnd (bnd (oN 1) fun o => bnd (bnd (oE (mBin gC pAdd (oE (pur (.int 1))) (oE (mCall 2 Φ__law_take (bnd (bnd (oN 1) fun o => bnd (bnd (oE (pur (.int 4))) fun o => bnd (pur []) fun os => pur (o :: os)) fun os => pur (o :: os)) lendL))))) fun o => bnd (bnd (oE (pur (.int 5))) fun o => bnd (pur []) fun os => pur (o :: os)) fun os => pur (o :: os)) fun os => pur (o :: os)) lendL)))
  (sSeq (sSet (setS 4) (mCall 2 Φ__law_base (bnd (bnd (oN 1) fun o => bnd (bnd (oN 3) fun o => bnd (pur []) fun os => pur (o :: os)) fun os => pur (o :: os)) lendL)))
  (sSeq (sSet (setS 5) (mComp (mRng1 (bnd (pur (.int 3)) fun o => bnd (pur []) fun os => pur (o :: os))) [16] (setS 16) tAll B1_law))
  (sSeq (sSet (setS 6) (mCall 2 Φ__law_take (bnd (bnd (oN 1) fun o => bnd (bnd (oE (mPrim gC pLen (bnd (oE (mBin gC pIx (oN 3) (oE (pur (.int 0))))) fun o => bnd (pur []) fun os => pur (o :: os)))) fun o => bnd (pur []) fun os => pur (o :: os)) fun os => pur (o :: os)) lendL)))
  (sSeq (sExpr (mMut 5 fAppend (bnd (mBin gC pAdd (oE (mBin gC pAdd (oE (mSlice pSl (oE (mBin gC pIx (oN 5) (oE (pur (.int 0))))) (pur none) (mPart (eVar 6)))) (oE (tupD (bnd (mCall 2 Φ__law_some (bnd (bnd (oN 1) fun o => bnd (bnd (oE (mBin gC pAdd (oE (mPrim gC pList (bnd (oE (mBin gC pIx (oN 4) (oN 6))) fun o => bnd (pur []) fun os => pur (o :: os)))) (oE (lstD (bnd (pur (.int 1)) fun o => bnd (pur []) fun os => pur (o :: os)))))) fun o => bnd (pur []) fun os => pur (o :: os)) fun os => pur (o :: os)) lendL)) fun o => bnd (pur []) fun os => pur (o :: os)))))) (oE (mSlice pSl (oE (mBin gC pIx (oN 5) (oE (pur (.int 0))))) (mPart (mBin gC pAdd (oN 6) (oE (pur (.int 1))))) (pur none)))) fun o => bnd (pur []) fun os => pur (o :: os))))
  (sSeq (sExpr (mMut 5 fAppend (bnd (mBin gC pAdd (oE (mSlice pSl (oE (mBin gC pIx (oN 5) (oE (pur (.int 1))))) (pur none) (mPart (eVar 6)))) (oE (mSlice pSl (oE (mBin gC pIx (oN 5) (oE (pur (.int 0))))) (mPart (eVar 6)) (pur none)))) fun o => bnd (pur []) fun os => pur (o :: os))))
  (sSeq (sSet (setS 7) (mComp (mSrc (oN 5)) [17] (setS 17) tAll B2_law))
  (sFor (mWalk zA2 (bnd (oN 5) fun o => bnd (bnd (oN 7) fun o => bnd (pur []) fun os => pur (o :: os)) fun os => pur (o :: os))) (tgTup 2 (tgCons (setS 8) (tgCons (setS 9) tgNil))) B10_law))))))))
noncomputable def M_law : M Fl := (sSeq (sSet (setS 1) (mCall 1 Φ__law_bag (bnd (bnd (oN 0) fun o => bnd (pur []) fun os => pur (o :: os)) lendL)))
  (sSeq (sFor (mRng1 (bnd (pur (.int 8)) fun o => bnd (pur []) fun os => pur (o :: os))) (setS 2) B11_law)
  (sRet (pur (.bl true)))))
noncomputable def Φ_law : List D → Fo := runF 21 [true] M_law
theorem ok_law {P : Program} {w : World} {K : PySem.W.Frag} {mg : Str → Option Value} {base : Heap} {xr : (Addr → Prop) → Hp → D → Value → Option Addr → Prop} {f : Addr} {fd : FuncData} (F : Fun K "law" "law" st_law_ f fd) (z_range : mg "range" = none) (z_len : mg "len" = none) (z_list : mg "list" = none) (z_zip : mg "zip" = none) (z_enumerate : mg "enumerate" = none) (z_tuple : mg "tuple" = none) (F__law_bag : FnY P w K mg base xr 1 "_law_bag" 1 Φ__law_bag) (F__law_make : FnY P w K mg base xr 3 "_law_make" 3 Φ__law_make) (F__law_take : FnY P w K mg base xr 1 "_law_take" 2 Φ__law_take) (F__law_base : FnY P w K mg base xr 3 "_law_base" 2 Φ__law_base) (F__law_cuts : FnY P w K mg base xr 2 "_law_cuts" 2 Φ__law_cuts) (F__law_some : FnY P w K mg base xr 2 "_law_some" 2 Φ__law_some) (F__law_kind_of : FnY P w K mg base xr 1 "_law_kind_of" 2 Φ__law_kind_of) (F__law_alike : FnY P w K mg base xr 1 "_law_alike" 2 Φ__law_alike) (F_rank_of : FnY P w K mg base xr 2 "rank_of" 2 Φ_rank_of) (F_mark_of : FnY P w K mg base xr 1 "mark_of" 2 Φ_mark_of) (F_meets_base : FnY P w K mg base xr 2 "meets_base" 2 Φ_meets_base) (F__law_comparable : FnY P w K mg base xr 2 "_law_comparable" 3 Φ__law_comparable) (F__law_below : FnY P w K mg base xr 1 "_law_below" 3 Φ__law_below) (F_are_comparable : FnY P w K mg base xr 3 "are_comparable" 3 Φ_are_comparable) (F_are_alike : FnY P w K mg base xr 2 "are_alike" 3 Φ_are_alike) (F_is_below : FnY P w K mg base xr 2 "is_below" 3 Φ_is_below) (F__law_under : FnY P w K mg base xr 1 "_law_under" 2 Φ__law_under) (F_common_below : FnY P w K mg base xr 2 "common_below" 3 Φ_common_below) :
    FnOk P w K mg base (L2.CX P w) 4 f fd ["script"] (spF K xr 1 Φ_law) :=
  have sc := sc_law
  fn_ok (N := ["script", "bag", "turn", "make", "base", "some", "at", "marks", "one", "mark", "other", "its", "due", "common", "third", "last", "k", "row", "cut", "j", "two"]) (m := M_law) [true] F sc rfl fun cdv A outer s H E hr c =>
  (ss_cons (stSet 1 sc.nd (s_call F__law_bag (hr.mono (by decide)) takes_cx (aL (oL1 (vO 0) oL0))))
  (ss_cons (st_for (i_range1 z_range (vL1 s_int vL0)) (fun c => (gN 2 sc.nd)) (fun c => (ss_cons (stSet 3 sc.nd (s_call F__law_make (hr.mono (by decide)) takes_cx (aL (oL1 (vO 1) (oL1 (o_val (eOp o_add (o_val s_int) (o_val (s_call F__law_take (hr.mono (by decide)) takes_cx (aL (oL1 (vO 1) (oL1 (o_val s_int) oL0))))))) (oL1 (o_val s_int) oL0))))))
  (ss_cons (stSet 4 sc.nd (s_call F__law_base (hr.mono (by decide)) takes_cx (aL (oL1 (vO 1) (oL1 (vO 3) oL0)))))
  (ss_cons (stLc 5 [("k", 16)] rfl sc.nd len_set (i_range1 z_range (vL1 s_int vL0)) (fun s H C cl fp c => (gN 16 sc.nd)) (fun s H C cl fp c => ts_nil) (fun s H C cl fp c => (s_call F__law_cuts (hr.mono (by decide)) takes0 (aL (oL1 (vO 1) (oL1 (vO 3) oL0))))))
  (ss_cons (stSet 6 sc.nd (s_call F__law_take (hr.mono (by decide)) takes_cx (aL (oL1 (vO 1) (oL1 (o_val (eB c_len z_len bb_len (oL1 (o_val (eIx (vO 3) (o_val s_int))) oL0))) oL0)))))
  (ss_cons (stExpr (mAppend 5 (vL1 (eOp o_add (o_val (eOp o_add (o_val (eSl (o_val (eIx (vO 5) (o_val s_int))) p_none (p_some (vE 6)))) (o_val (s_tup (vL1 (s_call F__law_some (hr.mono (by decide)) takes_cx (aL (oL1 (vO 1) (oL1 (o_val (eOp o_add (o_val (eTy c_list z_list bb_list (oL1 (o_val (eIx (vO 4) (vO 6))) oL0))) (o_val (s_lst (vL1 s_int vL0))))) oL0)))) vL0))))) (o_val (eSl (o_val (eIx (vO 5) (o_val s_int))) (p_some (eOp o_add (vO 6) (o_val s_int))) p_none))) vL0)))
  (ss_cons (stExpr (mAppend 5 (vL1 (eOp o_add (o_val (eSl (o_val (eIx (vO 5) (o_val s_int))) p_none (p_some (vE 6)))) (o_val (eSl (o_val (eIx (vO 5) (o_val s_int))) (p_some (vE 6)) p_none))) vL0)))
  (ss_cons (stLc 7 [("row", 17)] rfl sc.nd len_set (i_seq (vO 5)) (fun s H C cl fp c => (gN 17 sc.nd)) (fun s H C cl fp c => ts_nil) (fun s H C cl fp c => (s_call F__law_kind_of (hr.mono (by decide)) takes0 (aL (oL1 (vO 4) (oL1 (vO 17) oL0))))))
  (ss_one (st_for (i_zip2 z_zip (oL1 (vO 5) (oL1 (vO 7) oL0))) (fun c => (gT rfl (gL1 (gN 8 sc.nd) (gL1 (gN 9 sc.nd) gL0)))) (fun c => (ss_cons (st_if (t_not (tVal (s_call F__law_alike (hr.mono (by decide)) takes_cx (aL (oL1 (o_val (s_lst (vL1 (s_call F_mark_of (hr.mono (by decide)) takes_cx (aL (oL1 (vO 4) (oL1 (vO 8) oL0)))) (vL1 (s_call F_rank_of (hr.mono (by decide)) takes_cx (aL (oL1 (vO 4) (oL1 (vO 8) oL0)))) vL0)))) (oL1 (o_val (s_lst (vL1 (vE 9) (vL1 (eB c_len z_len bb_len (oL1 (o_val (eLc [("cut", 18)] rfl sc.nd len_set (i_seq (vO 9)) (fun s H C cl fp c => (gN 18 sc.nd)) (fun s H C cl fp c => (ts_one (tCmp o_gt (vO 18) (o_val s_int)))) (fun s H C cl fp c => s_int))) oL0)) vL0)))) oL0)))))) (ss_one (st_ret s_bl)) ss_nil)
  (ss_cons (st_if (t_not (tVal (s_call F__law_alike (hr.mono (by decide)) takes_cx (aL (oL1 (o_val (s_call F_meets_base (hr.mono (by decide)) takes_cx (aL (oL1 (vO 4) (oL1 (vO 8) oL0))))) (oL1 (o_val (eTy c_tuple z_tuple bb_tuple (oL1 (o_val (eLc [("j", 19), ("cut", 18)] rfl sc.nd (len_tup (len_cons len_set (len_cons len_set len_nil))) (i_enum z_enumerate (oL1 (vO 9) oL0)) (fun s H C cl fp c => (gT rfl (gL1 (gN 19 sc.nd) (gL1 (gN 18 sc.nd) gL0)))) (fun s H C cl fp c => (ts_one (tCmp (o_eq (hu_room hr)) (vO 18) (o_val s_int)))) (fun s H C cl fp c => (vE 19)))) oL0))) oL0)))))) (ss_one (st_ret s_bl)) ss_nil)
  (ss_one (st_for (i_zip2 z_zip (oL1 (vO 5) (oL1 (vO 7) oL0))) (fun c => (gT rfl (gL1 (gN 10 sc.nd) (gL1 (gN 11 sc.nd) gL0)))) (fun c => (ss_cons (stSet 12 sc.nd (s_lst (vL1 (s_call F__law_below (hr.mono (by decide)) takes_cx (aL (oL1 (vO 4) (oL1 (vO 8) (oL1 (vO 10) oL0))))) (vL1 (eCmp (o_eq (hu_room hr)) (vO 9) (vO 11)) (vL1 (s_call F__law_comparable (hr.mono (by decide)) takes_cx (aL (oL1 (vO 4) (oL1 (vO 8) (oL1 (vO 10) oL0))))) vL0)))))
  (ss_cons (st_if (t_not (tVal (s_call F__law_alike (hr.mono (by decide)) takes_cx (aL (oL1 (o_val (s_lst (vL1 (s_call F_is_below (hr.mono (by decide)) takes_cx (aL (oL1 (vO 4) (oL1 (vO 8) (oL1 (vO 10) oL0))))) (vL1 (s_call F_are_alike (hr.mono (by decide)) takes_cx (aL (oL1 (vO 4) (oL1 (vO 8) (oL1 (vO 10) oL0))))) (vL1 (s_call F_are_comparable (hr.mono (by decide)) takes_cx (aL (oL1 (vO 4) (oL1 (vO 8) (oL1 (vO 10) oL0))))) vL0))))) (oL1 (vO 12) oL0)))))) (ss_one (st_ret s_bl)) ss_nil)
  (ss_cons (stSet 13 sc.nd (eTy c_tuple z_tuple bb_tuple (oL1 (o_val (eLc [("cut", 18), ("two", 20)] rfl sc.nd (len_tup (len_cons len_set (len_cons len_set len_nil))) (i_zip2 z_zip (oL1 (vO 9) (oL1 (vO 11) oL0))) (fun s H C cl fp c => (gT rfl (gL1 (gN 18 sc.nd) (gL1 (gN 20 sc.nd) gL0)))) (fun s H C cl fp c => ts_nil) (fun s H C cl fp c => (s_if (tCmp (o_eq (hu_room hr)) (vO 18) (vO 20)) (vE 18) s_int)))) oL0)))
  (ss_cons (st_if (PW.pt (w_or (tCmp (o_ne (hu_room hr)) (o_val (eIx (vO 12) (o_val s_int))) (o_val (s_call F__law_under (hr.mono (by decide)) takes_cx (aL (oL1 (vO 9) (oL1 (vO 11) oL0)))))) (w_or1 (t_not (tVal (s_call F__law_alike (hr.mono (by decide)) takes_cx (aL (oL1 (o_val (s_call F_common_below (hr.mono (by decide)) takes_cx (aL (oL1 (vO 4) (oL1 (vO 8) (oL1 (vO 10) oL0)))))) (oL1 (vO 13) oL0))))))))) (ss_one (st_ret s_bl)) ss_nil)
  (ss_one (st_for (i_zip2 z_zip (oL1 (vO 5) (oL1 (vO 7) oL0))) (fun c => (gT rfl (gL1 (gN 14 sc.nd) (gL1 (gN 15 sc.nd) gL0)))) (fun c => (ss_cons (st_if (PW.pt (w_and (tVal (eIx (vO 12) (o_val s_int))) (w_and (tVal (s_call F_is_below (hr.mono (by decide)) takes_cx (aL (oL1 (vO 4) (oL1 (vO 10) (oL1 (vO 14) oL0)))))) (w_and1 (t_not (tVal (s_call F_is_below (hr.mono (by decide)) takes_cx (aL (oL1 (vO 4) (oL1 (vO 8) (oL1 (vO 14) oL0))))))))))) (ss_one (st_ret s_bl)) ss_nil)
  (ss_one (st_if (tCmp (o_ne (hu_room hr)) (o_val (s_and (s_call F__law_under (hr.mono (by decide)) takes_cx (aL (oL1 (vO 15) (oL1 (vO 9) oL0)))) (s_and1 (s_call F__law_under (hr.mono (by decide)) takes_cx (aL (oL1 (vO 15) (oL1 (vO 11) oL0))))))) (o_val (s_call F__law_under (hr.mono (by decide)) takes_cx (aL (oL1 (vO 15) (oL1 (vO 13) oL0)))))) (ss_one (st_ret s_bl)) ss_nil)))) owns_cx rfl))))))) owns_cx rfl))))) owns_cx rfl)))))))))) owns_cx rfl)
  (ss_one (st_ret s_bl))))
/-! what the top has written -/
theorem all_mk {l : PySem.W.OpenLaw} {w : World} {K : PySem.W.Frag} {h : Heap} {mg : Str → Option Value} {fa : Addr} {xr : (Addr → Prop) → Hp → D → Value → Option Addr → Prop} (X : K.In h) (G : h.Ns mainGlobals mg) (hfa : mg "law" = some (.ref fa))
    {f0 : Addr} {od0 an0 : Option Addr} {sl0 : Array (Option Value)} {oc0 kV0 dc0 pm0 cd0 ct0 : Value}
    (a0 : PySem.W.nsIn K mainGlobals "_law_bag" = some (some (.ref f0)))
    (l0 : K.lookup f0 = some ⟨oc0, od0, .func (PySem.W.fnOf "_law_bag" "_law_bag" (defArgs st__law_bag_) (defBody st__law_bag_) (defScope st__law_bag_) .none kV0 dc0 pm0 an0 cd0 ct0), sl0⟩)
    (c0 : PySem.W.codeIn K cd0 "_law_bag" = true) (k0 : PySem.W.keepIn K (.ref f0) = true)
    {f1 : Addr} {od1 an1 : Option Addr} {sl1 : Array (Option Value)} {oc1 kV1 dc1 pm1 cd1 ct1 : Value}
    (a1 : PySem.W.nsIn K mainGlobals "_law_take" = some (some (.ref f1)))
    (l1 : K.lookup f1 = some ⟨oc1, od1, .func (PySem.W.fnOf "_law_take" "_law_take" (defArgs st__law_take_) (defBody st__law_take_) (defScope st__law_take_) .none kV1 dc1 pm1 an1 cd1 ct1), sl1⟩)
    (c1 : PySem.W.codeIn K cd1 "_law_take" = true) (k1 : PySem.W.keepIn K (.ref f1) = true)
    {f2 : Addr} {od2 an2 : Option Addr} {sl2 : Array (Option Value)} {oc2 kV2 dc2 pm2 cd2 ct2 : Value}
    (a2 : PySem.W.nsIn K mainGlobals "_law_some" = some (some (.ref f2)))
    (l2 : K.lookup f2 = some ⟨oc2, od2, .func (PySem.W.fnOf "_law_some" "_law_some" (defArgs st__law_some_) (defBody st__law_some_) (defScope st__law_some_) .none kV2 dc2 pm2 an2 cd2 ct2), sl2⟩)
    (c2 : PySem.W.codeIn K cd2 "_law_some" = true) (k2 : PySem.W.keepIn K (.ref f2) = true)
    {f3 : Addr} {od3 an3 : Option Addr} {sl3 : Array (Option Value)} {oc3 kV3 dc3 pm3 cd3 ct3 : Value}
    (a3 : PySem.W.nsIn K mainGlobals "_law_make" = some (some (.ref f3)))
    (l3 : K.lookup f3 = some ⟨oc3, od3, .func (PySem.W.fnOf "_law_make" "_law_make" (defArgs st__law_make_) (defBody st__law_make_) (defScope st__law_make_) .none kV3 dc3 pm3 an3 cd3 ct3), sl3⟩)
    (c3 : PySem.W.codeIn K cd3 "_law_make" = true) (k3 : PySem.W.keepIn K (.ref f3) = true)
    {f4 : Addr} {od4 an4 : Option Addr} {sl4 : Array (Option Value)} {oc4 kV4 dc4 pm4 cd4 ct4 : Value}
    (a4 : PySem.W.nsIn K mainGlobals "_law_mixed" = some (some (.ref f4)))
    (l4 : K.lookup f4 = some ⟨oc4, od4, .func (PySem.W.fnOf "_law_mixed" "_law_mixed" (defArgs st__law_mixed_) (defBody st__law_mixed_) (defScope st__law_mixed_) .none kV4 dc4 pm4 an4 cd4 ct4), sl4⟩)
    (c4 : PySem.W.codeIn K cd4 "_law_mixed" = true) (k4 : PySem.W.keepIn K (.ref f4) = true)
    {f5 : Addr} {od5 an5 : Option Addr} {sl5 : Array (Option Value)} {oc5 kV5 dc5 pm5 cd5 ct5 : Value}
    (a5 : PySem.W.nsIn K mainGlobals "_law_base" = some (some (.ref f5)))
    (l5 : K.lookup f5 = some ⟨oc5, od5, .func (PySem.W.fnOf "_law_base" "_law_base" (defArgs st__law_base_) (defBody st__law_base_) (defScope st__law_base_) .none kV5 dc5 pm5 an5 cd5 ct5), sl5⟩)
    (c5 : PySem.W.codeIn K cd5 "_law_base" = true) (k5 : PySem.W.keepIn K (.ref f5) = true)
    {f6 : Addr} {od6 an6 : Option Addr} {sl6 : Array (Option Value)} {oc6 kV6 dc6 pm6 cd6 ct6 : Value}
    (a6 : PySem.W.nsIn K mainGlobals "_law_cuts" = some (some (.ref f6)))
    (l6 : K.lookup f6 = some ⟨oc6, od6, .func (PySem.W.fnOf "_law_cuts" "_law_cuts" (defArgs st__law_cuts_) (defBody st__law_cuts_) (defScope st__law_cuts_) .none kV6 dc6 pm6 an6 cd6 ct6), sl6⟩)
    (c6 : PySem.W.codeIn K cd6 "_law_cuts" = true) (k6 : PySem.W.keepIn K (.ref f6) = true)
    {f7 : Addr} {od7 an7 : Option Addr} {sl7 : Array (Option Value)} {oc7 kV7 dc7 pm7 cd7 ct7 : Value}
    (a7 : PySem.W.nsIn K mainGlobals "_law_kind_of" = some (some (.ref f7)))
    (l7 : K.lookup f7 = some ⟨oc7, od7, .func (PySem.W.fnOf "_law_kind_of" "_law_kind_of" (defArgs st__law_kind_of_) (defBody st__law_kind_of_) (defScope st__law_kind_of_) .none kV7 dc7 pm7 an7 cd7 ct7), sl7⟩)
    (c7 : PySem.W.codeIn K cd7 "_law_kind_of" = true) (k7 : PySem.W.keepIn K (.ref f7) = true)
    {f8 : Addr} {od8 an8 : Option Addr} {sl8 : Array (Option Value)} {oc8 kV8 dc8 pm8 cd8 ct8 : Value}
    (a8 : PySem.W.nsIn K mainGlobals "_law_alike" = some (some (.ref f8)))
    (l8 : K.lookup f8 = some ⟨oc8, od8, .func (PySem.W.fnOf "_law_alike" "_law_alike" (defArgs st__law_alike_) (defBody st__law_alike_) (defScope st__law_alike_) .none kV8 dc8 pm8 an8 cd8 ct8), sl8⟩)
    (c8 : PySem.W.codeIn K cd8 "_law_alike" = true) (k8 : PySem.W.keepIn K (.ref f8) = true)
    {f9 : Addr} {od9 an9 : Option Addr} {sl9 : Array (Option Value)} {oc9 kV9 dc9 pm9 cd9 ct9 : Value}
    (a9 : PySem.W.nsIn K mainGlobals "mark_rank" = some (some (.ref f9)))
    (l9 : K.lookup f9 = some ⟨oc9, od9, .func (PySem.W.fnOf "mark_rank" "mark_rank" (defArgs st_mark_rank_) (defBody st_mark_rank_) (defScope st_mark_rank_) .none kV9 dc9 pm9 an9 cd9 ct9), sl9⟩)
    (c9 : PySem.W.codeIn K cd9 "mark_rank" = true) (k9 : PySem.W.keepIn K (.ref f9) = true)
    {f10 : Addr} {od10 an10 : Option Addr} {sl10 : Array (Option Value)} {oc10 kV10 dc10 pm10 cd10 ct10 : Value}
    (a10 : PySem.W.nsIn K mainGlobals "mark_of" = some (some (.ref f10)))
    (l10 : K.lookup f10 = some ⟨oc10, od10, .func (PySem.W.fnOf "mark_of" "mark_of" (defArgs st_mark_of_) (defBody st_mark_of_) (defScope st_mark_of_) .none kV10 dc10 pm10 an10 cd10 ct10), sl10⟩)
    (c10 : PySem.W.codeIn K cd10 "mark_of" = true) (k10 : PySem.W.keepIn K (.ref f10) = true)
    {f11 : Addr} {od11 an11 : Option Addr} {sl11 : Array (Option Value)} {oc11 kV11 dc11 pm11 cd11 ct11 : Value}
    (a11 : PySem.W.nsIn K mainGlobals "rank_of" = some (some (.ref f11)))
    (l11 : K.lookup f11 = some ⟨oc11, od11, .func (PySem.W.fnOf "rank_of" "rank_of" (defArgs st_rank_of_) (defBody st_rank_of_) (defScope st_rank_of_) .none kV11 dc11 pm11 an11 cd11 ct11), sl11⟩)
    (c11 : PySem.W.codeIn K cd11 "rank_of" = true) (k11 : PySem.W.keepIn K (.ref f11) = true)
    {f12 : Addr} {od12 an12 : Option Addr} {sl12 : Array (Option Value)} {oc12 kV12 dc12 pm12 cd12 ct12 : Value}
    (a12 : PySem.W.nsIn K mainGlobals "meets_base" = some (some (.ref f12)))
    (l12 : K.lookup f12 = some ⟨oc12, od12, .func (PySem.W.fnOf "meets_base" "meets_base" (defArgs st_meets_base_) (defBody st_meets_base_) (defScope st_meets_base_) .none kV12 dc12 pm12 an12 cd12 ct12), sl12⟩)
    (c12 : PySem.W.codeIn K cd12 "meets_base" = true) (k12 : PySem.W.keepIn K (.ref f12) = true)
    {f13 : Addr} {od13 an13 : Option Addr} {sl13 : Array (Option Value)} {oc13 kV13 dc13 pm13 cd13 ct13 : Value}
    (a13 : PySem.W.nsIn K mainGlobals "_law_below" = some (some (.ref f13)))
    (l13 : K.lookup f13 = some ⟨oc13, od13, .func (PySem.W.fnOf "_law_below" "_law_below" (defArgs st__law_below_) (defBody st__law_below_) (defScope st__law_below_) .none kV13 dc13 pm13 an13 cd13 ct13), sl13⟩)
    (c13 : PySem.W.codeIn K cd13 "_law_below" = true) (k13 : PySem.W.keepIn K (.ref f13) = true)
    {f14 : Addr} {od14 an14 : Option Addr} {sl14 : Array (Option Value)} {oc14 kV14 dc14 pm14 cd14 ct14 : Value}
    (a14 : PySem.W.nsIn K mainGlobals "_law_comparable" = some (some (.ref f14)))
    (l14 : K.lookup f14 = some ⟨oc14, od14, .func (PySem.W.fnOf "_law_comparable" "_law_comparable" (defArgs st__law_comparable_) (defBody st__law_comparable_) (defScope st__law_comparable_) .none kV14 dc14 pm14 an14 cd14 ct14), sl14⟩)
    (c14 : PySem.W.codeIn K cd14 "_law_comparable" = true) (k14 : PySem.W.keepIn K (.ref f14) = true)
    {f15 : Addr} {od15 an15 : Option Addr} {sl15 : Array (Option Value)} {oc15 kV15 dc15 pm15 cd15 ct15 : Value}
    (a15 : PySem.W.nsIn K mainGlobals "is_under" = some (some (.ref f15)))
    (l15 : K.lookup f15 = some ⟨oc15, od15, .func (PySem.W.fnOf "is_under" "is_under" (defArgs st_is_under_) (defBody st_is_under_) (defScope st_is_under_) .none kV15 dc15 pm15 an15 cd15 ct15), sl15⟩)
    (c15 : PySem.W.codeIn K cd15 "is_under" = true) (k15 : PySem.W.keepIn K (.ref f15) = true)
    {f16 : Addr} {od16 an16 : Option Addr} {sl16 : Array (Option Value)} {oc16 kV16 dc16 pm16 cd16 ct16 : Value}
    (a16 : PySem.W.nsIn K mainGlobals "is_below" = some (some (.ref f16)))
    (l16 : K.lookup f16 = some ⟨oc16, od16, .func (PySem.W.fnOf "is_below" "is_below" (defArgs st_is_below_) (defBody st_is_below_) (defScope st_is_below_) .none kV16 dc16 pm16 an16 cd16 ct16), sl16⟩)
    (c16 : PySem.W.codeIn K cd16 "is_below" = true) (k16 : PySem.W.keepIn K (.ref f16) = true)
    {f17 : Addr} {od17 an17 : Option Addr} {sl17 : Array (Option Value)} {oc17 kV17 dc17 pm17 cd17 ct17 : Value}
    (a17 : PySem.W.nsIn K mainGlobals "are_comparable" = some (some (.ref f17)))
    (l17 : K.lookup f17 = some ⟨oc17, od17, .func (PySem.W.fnOf "are_comparable" "are_comparable" (defArgs st_are_comparable_) (defBody st_are_comparable_) (defScope st_are_comparable_) .none kV17 dc17 pm17 an17 cd17 ct17), sl17⟩)
    (c17 : PySem.W.codeIn K cd17 "are_comparable" = true) (k17 : PySem.W.keepIn K (.ref f17) = true)
    {f18 : Addr} {od18 an18 : Option Addr} {sl18 : Array (Option Value)} {oc18 kV18 dc18 pm18 cd18 ct18 : Value}
    (a18 : PySem.W.nsIn K mainGlobals "are_alike" = some (some (.ref f18)))
    (l18 : K.lookup f18 = some ⟨oc18, od18, .func (PySem.W.fnOf "are_alike" "are_alike" (defArgs st_are_alike_) (defBody st_are_alike_) (defScope st_are_alike_) .none kV18 dc18 pm18 an18 cd18 ct18), sl18⟩)
    (c18 : PySem.W.codeIn K cd18 "are_alike" = true) (k18 : PySem.W.keepIn K (.ref f18) = true)
    {f19 : Addr} {od19 an19 : Option Addr} {sl19 : Array (Option Value)} {oc19 kV19 dc19 pm19 cd19 ct19 : Value}
    (a19 : PySem.W.nsIn K mainGlobals "_law_under" = some (some (.ref f19)))
    (l19 : K.lookup f19 = some ⟨oc19, od19, .func (PySem.W.fnOf "_law_under" "_law_under" (defArgs st__law_under_) (defBody st__law_under_) (defScope st__law_under_) .none kV19 dc19 pm19 an19 cd19 ct19), sl19⟩)
    (c19 : PySem.W.codeIn K cd19 "_law_under" = true) (k19 : PySem.W.keepIn K (.ref f19) = true)
    {f20 : Addr} {od20 an20 : Option Addr} {sl20 : Array (Option Value)} {oc20 kV20 dc20 pm20 cd20 ct20 : Value}
    (a20 : PySem.W.nsIn K mainGlobals "common_below" = some (some (.ref f20)))
    (l20 : K.lookup f20 = some ⟨oc20, od20, .func (PySem.W.fnOf "common_below" "common_below" (defArgs st_common_below_) (defBody st_common_below_) (defScope st_common_below_) .none kV20 dc20 pm20 an20 cd20 ct20), sl20⟩)
    (c20 : PySem.W.codeIn K cd20 "common_below" = true) (k20 : PySem.W.keepIn K (.ref f20) = true)
    {f21 : Addr} {od21 an21 : Option Addr} {sl21 : Array (Option Value)} {oc21 kV21 dc21 pm21 cd21 ct21 : Value}
    (a21 : PySem.W.nsIn K mainGlobals "law" = some (some (.ref f21)))
    (l21 : K.lookup f21 = some ⟨oc21, od21, .func (PySem.W.fnOf "law" "law" (defArgs st_law_) (defBody st_law_) (defScope st_law_) .none kV21 dc21 pm21 an21 cd21 ct21), sl21⟩)
    (c21 : PySem.W.codeIn K cd21 "law" = true) (k21 : PySem.W.keepIn K (.ref f21) = true)
    (z_abs : PySem.W.nsIn K mainGlobals "abs" = some none)
    (z_int : PySem.W.nsIn K mainGlobals "int" = some none)
    (z_len : PySem.W.nsIn K mainGlobals "len" = some none)
    (z_range : PySem.W.nsIn K mainGlobals "range" = some none)
    (z_tuple : PySem.W.nsIn K mainGlobals "tuple" = some none)
    (z_list : PySem.W.nsIn K mainGlobals "list" = some none)
    (z_sorted : PySem.W.nsIn K mainGlobals "sorted" = some none)
    (z_zip : PySem.W.nsIn K mainGlobals "zip" = some none)
    (z_isinstance : PySem.W.nsIn K mainGlobals "isinstance" = some none)
    (z_bool : PySem.W.nsIn K mainGlobals "bool" = some none)
    (z_str : PySem.W.nsIn K mainGlobals "str" = some none)
    (z_enumerate : PySem.W.nsIn K mainGlobals "enumerate" = some none)
    (z_all : PySem.W.nsIn K mainGlobals "all" = some none)
    : ∃ fd : FuncData, (∀ (s : Shared) (v : Value), BindsTo s fd ⟨[v], []⟩ [("script", v)]) ∧ ∀ base : Heap, K.In base → base.Ns mainGlobals mg → FnOk l.prog w K mg base (L2.CX l.prog w) 4 fa fd ["script"] (spF K xr 1 Φ_law) := by
  have e := hfa.symm.trans (PySem.W.mg_of X G a21)
  cases e
  have z_abs := PySem.W.mg_none_of X G z_abs
  have z_int := PySem.W.mg_none_of X G z_int
  have z_len := PySem.W.mg_none_of X G z_len
  have z_range := PySem.W.mg_none_of X G z_range
  have z_tuple := PySem.W.mg_none_of X G z_tuple
  have z_list := PySem.W.mg_none_of X G z_list
  have z_sorted := PySem.W.mg_none_of X G z_sorted
  have z_zip := PySem.W.mg_none_of X G z_zip
  have z_isinstance := PySem.W.mg_none_of X G z_isinstance
  have z_bool := PySem.W.mg_none_of X G z_bool
  have z_str := PySem.W.mg_none_of X G z_str
  have z_enumerate := PySem.W.mg_none_of X G z_enumerate
  have z_all := PySem.W.mg_none_of X G z_all
  have U0 := fun_mk (st := st__law_bag_) l0 c0 k0
  have B0 := U0.binds (ps := ["script"]) fun _ _ _ _ _ _ us hl => match us, hl with | [_], _ => rfl
  have F__law_bag : ∀ base, FnY l.prog w K mg base xr 1 "_law_bag" 1 Φ__law_bag := fun base => ⟨_, _, _, ok__law_bag U0 z_abs, PySem.W.mg_of X G a0, U0.kp, B0⟩
  have U1 := fun_mk (st := st__law_take_) l1 c1 k1
  have B1 := U1.binds (ps := ["bag", "many"]) fun _ _ _ _ _ _ us hl => match us, hl with | [_, _], _ => rfl
  have F__law_take : ∀ base, FnY l.prog w K mg base xr 1 "_law_take" 2 Φ__law_take := fun base => ⟨_, _, _, ok__law_take U1 z_int, PySem.W.mg_of X G a1, U1.kp, B1⟩
  have U2 := fun_mk (st := st__law_some_) l2 c2 k2
  have B2 := U2.binds (ps := ["bag", "things"]) fun _ _ _ _ _ _ us hl => match us, hl with | [_, _], _ => rfl
  have F__law_some : ∀ base, FnY l.prog w K mg base xr 2 "_law_some" 2 Φ__law_some := fun base => ⟨_, _, _, ok__law_some U2 z_len (F__law_take base), PySem.W.mg_of X G a2, U2.kp, B2⟩
  have U3 := fun_mk (st := st__law_make_) l3 c3 k3
  have B3 := U3.binds (ps := ["bag", "chambers", "depth"]) fun _ _ _ _ _ _ us hl => match us, hl with | [_, _, _], _ => rfl
  have F__law_make : ∀ base, FnY l.prog w K mg base xr 3 "_law_make" 3 Φ__law_make := fun base => ⟨_, _, _, ok__law_make U3 z_range z_tuple z_int (F__law_take base) (F__law_some base), PySem.W.mg_of X G a3, U3.kp, B3⟩
  have U4 := fun_mk (st := st__law_mixed_) l4 c4 k4
  have B4 := U4.binds (ps := ["bag", "things"]) fun _ _ _ _ _ _ us hl => match us, hl with | [_, _], _ => rfl
  have F__law_mixed : ∀ base, FnY l.prog w K mg base xr 2 "_law_mixed" 2 Φ__law_mixed := fun base => ⟨_, _, _, ok__law_mixed U4 z_list z_len (F__law_take base), PySem.W.mg_of X G a4, U4.kp, B4⟩
  have U5 := fun_mk (st := st__law_base_) l5 c5 k5
  have B5 := U5.binds (ps := ["bag", "make"]) fun _ _ _ _ _ _ us hl => match us, hl with | [_, _], _ => rfl
  have F__law_base : ∀ base, FnY l.prog w K mg base xr 3 "_law_base" 2 Φ__law_base := fun base => ⟨_, _, _, ok__law_base U5 z_list z_range z_sorted z_tuple (F__law_some base) (F__law_mixed base), PySem.W.mg_of X G a5, U5.kp, B5⟩
  have U6 := fun_mk (st := st__law_cuts_) l6 c6 k6
  have B6 := U6.binds (ps := ["bag", "make"]) fun _ _ _ _ _ _ us hl => match us, hl with | [_, _], _ => rfl
  have F__law_cuts : ∀ base, FnY l.prog w K mg base xr 2 "_law_cuts" 2 Φ__law_cuts := fun base => ⟨_, _, _, ok__law_cuts U6 z_tuple (F__law_take base), PySem.W.mg_of X G a6, U6.kp, B6⟩
  have U7 := fun_mk (st := st__law_kind_of_) l7 c7 k7
  have B7 := U7.binds (ps := ["base", "row"]) fun _ _ _ _ _ _ us hl => match us, hl with | [_, _], _ => rfl
  have F__law_kind_of : ∀ base, FnY l.prog w K mg base xr 1 "_law_kind_of" 2 Φ__law_kind_of := fun base => ⟨_, _, _, ok__law_kind_of U7 z_zip z_tuple, PySem.W.mg_of X G a7, U7.kp, B7⟩
  have U8 := fun_mk (st := st__law_alike_) l8 c8 k8
  have B8 := U8.binds (ps := ["found", "due"]) fun _ _ _ _ _ _ us hl => match us, hl with | [_, _], _ => rfl
  have F__law_alike : ∀ base, FnY l.prog w K mg base xr 1 "_law_alike" 2 Φ__law_alike := fun base => ⟨_, _, _, ok__law_alike U8 z_len z_isinstance z_bool z_str z_list z_tuple z_zip, PySem.W.mg_of X G a8, U8.kp, B8⟩
  have U9 := fun_mk (st := st_mark_rank_) l9 c9 k9
  have B9 := U9.binds (ps := ["mark"]) fun _ _ _ _ _ _ us hl => match us, hl with | [_], _ => rfl
  have F_mark_rank : ∀ base, FnY l.prog w K mg base xr 1 "mark_rank" 1 Φ_mark_rank := fun base => ⟨_, _, _, ok_mark_rank U9 z_len, PySem.W.mg_of X G a9, U9.kp, B9⟩
  have U10 := fun_mk (st := st_mark_of_) l10 c10 k10
  have B10 := U10.binds (ps := ["base", "row"]) fun _ _ _ _ _ _ us hl => match us, hl with | [_, _], _ => rfl
  have F_mark_of : ∀ base, FnY l.prog w K mg base xr 1 "mark_of" 2 Φ_mark_of := fun base => ⟨_, _, _, ok_mark_of U10 z_zip z_tuple, PySem.W.mg_of X G a10, U10.kp, B10⟩
  have U11 := fun_mk (st := st_rank_of_) l11 c11 k11
  have B11 := U11.binds (ps := ["base", "row"]) fun _ _ _ _ _ _ us hl => match us, hl with | [_, _], _ => rfl
  have F_rank_of : ∀ base, FnY l.prog w K mg base xr 2 "rank_of" 2 Φ_rank_of := fun base => ⟨_, _, _, ok_rank_of U11 (F_mark_rank base) (F_mark_of base), PySem.W.mg_of X G a11, U11.kp, B11⟩
  have U12 := fun_mk (st := st_meets_base_) l12 c12 k12
  have B12 := U12.binds (ps := ["base", "row"]) fun _ _ _ _ _ _ us hl => match us, hl with | [_, _], _ => rfl
  have F_meets_base : ∀ base, FnY l.prog w K mg base xr 2 "meets_base" 2 Φ_meets_base := fun base => ⟨_, _, _, ok_meets_base U12 z_enumerate z_tuple (F_mark_of base), PySem.W.mg_of X G a12, U12.kp, B12⟩
  have U13 := fun_mk (st := st__law_below_) l13 c13 k13
  have B13 := U13.binds (ps := ["base", "one", "other"]) fun _ _ _ _ _ _ us hl => match us, hl with | [_, _, _], _ => rfl
  have F__law_below : ∀ base, FnY l.prog w K mg base xr 1 "_law_below" 3 Φ__law_below := fun base => ⟨_, _, _, ok__law_below U13 z_zip, PySem.W.mg_of X G a13, U13.kp, B13⟩
  have U14 := fun_mk (st := st__law_comparable_) l14 c14 k14
  have B14 := U14.binds (ps := ["base", "one", "other"]) fun _ _ _ _ _ _ us hl => match us, hl with | [_, _, _], _ => rfl
  have F__law_comparable : ∀ base, FnY l.prog w K mg base xr 2 "_law_comparable" 3 Φ__law_comparable := fun base => ⟨_, _, _, ok__law_comparable U14 (F__law_below base), PySem.W.mg_of X G a14, U14.kp, B14⟩
  have U15 := fun_mk (st := st_is_under_) l15 c15 k15
  have B15 := U15.binds (ps := ["one", "other"]) fun _ _ _ _ _ _ us hl => match us, hl with | [_, _], _ => rfl
  have F_is_under : ∀ base, FnY l.prog w K mg base xr 1 "is_under" 2 Φ_is_under := fun base => ⟨_, _, _, ok_is_under U15 z_zip z_all, PySem.W.mg_of X G a15, U15.kp, B15⟩
  have U16 := fun_mk (st := st_is_below_) l16 c16 k16
  have B16 := U16.binds (ps := ["base", "one", "other"]) fun _ _ _ _ _ _ us hl => match us, hl with | [_, _, _], _ => rfl
  have F_is_below : ∀ base, FnY l.prog w K mg base xr 2 "is_below" 3 Φ_is_below := fun base => ⟨_, _, _, ok_is_below U16 (F_is_under base) (F_mark_of base), PySem.W.mg_of X G a16, U16.kp, B16⟩
  have U17 := fun_mk (st := st_are_comparable_) l17 c17 k17
  have B17 := U17.binds (ps := ["base", "one", "other"]) fun _ _ _ _ _ _ us hl => match us, hl with | [_, _, _], _ => rfl
  have F_are_comparable : ∀ base, FnY l.prog w K mg base xr 3 "are_comparable" 3 Φ_are_comparable := fun base => ⟨_, _, _, ok_are_comparable U17 (F_is_below base), PySem.W.mg_of X G a17, U17.kp, B17⟩
  have U18 := fun_mk (st := st_are_alike_) l18 c18 k18
  have B18 := U18.binds (ps := ["base", "one", "other"]) fun _ _ _ _ _ _ us hl => match us, hl with | [_, _, _], _ => rfl
  have F_are_alike : ∀ base, FnY l.prog w K mg base xr 2 "are_alike" 3 Φ_are_alike := fun base => ⟨_, _, _, ok_are_alike U18 (F_mark_of base), PySem.W.mg_of X G a18, U18.kp, B18⟩
  have U19 := fun_mk (st := st__law_under_) l19 c19 k19
  have B19 := U19.binds (ps := ["one", "other"]) fun _ _ _ _ _ _ us hl => match us, hl with | [_, _], _ => rfl
  have F__law_under : ∀ base, FnY l.prog w K mg base xr 1 "_law_under" 2 Φ__law_under := fun base => ⟨_, _, _, ok__law_under U19 z_zip, PySem.W.mg_of X G a19, U19.kp, B19⟩
  have U20 := fun_mk (st := st_common_below_) l20 c20 k20
  have B20 := U20.binds (ps := ["base", "one", "other"]) fun _ _ _ _ _ _ us hl => match us, hl with | [_, _, _], _ => rfl
  have F_common_below : ∀ base, FnY l.prog w K mg base xr 2 "common_below" 3 Φ_common_below := fun base => ⟨_, _, _, ok_common_below U20 z_zip z_tuple (F_mark_of base), PySem.W.mg_of X G a20, U20.kp, B20⟩
  have U21 := fun_mk (st := st_law_) l21 c21 k21
  exact ⟨PySem.W.fnOf "law" "law" (defArgs st_law_) (defBody st_law_) (defScope st_law_) .none kV21 dc21 pm21 an21 cd21 ct21, fun s v => .of_eq rfl, fun base _ _ => ok_law U21 z_range z_len z_list z_zip z_enumerate z_tuple (F__law_bag base) (F__law_make base) (F__law_take base) (F__law_base base) (F__law_cuts base) (F__law_some base) (F__law_kind_of base) (F__law_alike base) (F_rank_of base) (F_mark_of base) (F_meets_base base) (F__law_comparable base) (F__law_below base) (F_are_comparable base) (F_are_alike base) (F_is_below base) (F__law_under base) (F_common_below base)⟩
end Y

end
section
set_option Elab.async false
set_option linter.all false
set_option maxRecDepth 100000
set_option maxHeartbeats 4000000
set_option autoImplicit false
/-! P1: evaluation of meanings; the laws' own draws. -/
namespace Y
open PySem L2
@[simp] theorem frzL_ints (ns : List Int) : frz.frzL (ns.map D.int) = ns.map D.int := by
  induction ns with
  | nil => rfl
  | cons n ns ih => show D.int n :: frz.frzL (ns.map D.int) = _; rw [ih]; rfl
@[simp] theorem frz_int (i : Int) : frz (.int i) = .int i := rfl
@[simp] theorem frz_bl (i : Bool) : frz (.bl i) = .bl i := rfl
@[simp] theorem frz_str (i : Str) : frz (.str i) = .str i := rfl
@[simp] theorem frz_non : frz .non = .non := rfl
@[simp] theorem frz_tup (xs : List D) : frz (.tup xs) = .tup xs := rfl
@[simp] theorem frz_lst (o : Bool) (xs : List D) : frz (.lst o xs) = .lst false (frz.frzL xs) := rfl
@[simp] theorem chill_int (i : Int) : chill (.int i) = .int i := rfl
@[simp] theorem chill_bl (i : Bool) : chill (.bl i) = .bl i := rfl
@[simp] theorem chill_str (i : Str) : chill (.str i) = .str i := rfl
@[simp] theorem chill_non : chill .non = .non := rfl
@[simp] theorem chill_tup (xs : List D) : chill (.tup xs) = .tup xs := rfl
@[simp] theorem chill_lst (o : Bool) (xs : List D) : chill (.lst o xs) = .lst o (frz.frzL xs) := rfl
@[simp] theorem frzL_nil : frz.frzL [] = [] := rfl
@[simp] theorem frzL_cons (x : D) (xs : List D) : frz.frzL (x :: xs) = frz x :: frz.frzL xs := rfl
theorem okP_int (i : Int) : okP (.int i) = true := rfl
@[simp] theorem pEq_int (a b : Int) : pEq [.int a, .int b] = some (.bl (decide (a = b))) := by
  show (if (okP (.int a) && okP (.int b)) = true then some (D.bl (a == b)) else none) = _
  rw [okP_int, okP_int]
  simp [BEq.beq]
@[simp] theorem pNe_int (a b : Int) : pNe [.int a, .int b] = some (.bl (!decide (a = b))) := by
  show (if (okP (.int a) && okP (.int b)) = true then some (D.bl (!(a == b))) else none) = _
  rw [okP_int, okP_int]
  simp [BEq.beq]
@[simp] theorem pNe_bl (a b : Bool) : pNe [.bl a, .bl b] = some (.bl (a != b)) := by
  cases a <;> cases b <;> rfl
@[simp] theorem pEq_bl (a b : Bool) : pEq [.bl a, .bl b] = some (.bl (a == b)) := by
  cases a <;> cases b <;> rfl
@[simp] theorem pGe_int (a b : Int) : pGe [.int a, .int b] = some (.bl (decide (b ≤ a))) := rfl
@[simp] theorem pGt_int (a b : Int) : pGt [.int a, .int b] = some (.bl (decide (b < a))) := rfl
@[simp] theorem pLt_int (a b : Int) : pLt [.int a, .int b] = some (.bl (decide (a < b))) := rfl
@[simp] theorem pLe_int (a b : Int) : pLe [.int a, .int b] = some (.bl (decide (a ≤ b))) := rfl
@[simp] theorem pAdd_int (a b : Int) : pAdd [.int a, .int b] = some (.int (a + b)) := rfl
@[simp] theorem pSub_int (a b : Int) : pSub [.int a, .int b] = some (.int (a - b)) := rfl
@[simp] theorem pAddI_int (a b : Int) : pAddI [.int a, .int b] = some (.int (a + b)) := rfl
@[simp] theorem pInt_int (a : Int) : pInt [.int a] = some (.int a) := rfl
@[simp] theorem pInt_bl (b : Bool) : pInt [.bl b] = some (.int (if b then 1 else 0)) := rfl
@[simp] theorem pIx_l4_0 (o : Bool) (a b c d : D) : pIx [.lst o [a, b, c, d], .int 0] = some a := rfl
@[simp] theorem pIx_l4_1 (o : Bool) (a b c d : D) : pIx [.lst o [a, b, c, d], .int 1] = some b := rfl
@[simp] theorem pIx_l4_2 (o : Bool) (a b c d : D) : pIx [.lst o [a, b, c, d], .int 2] = some c := rfl
@[simp] theorem pIx_l4_3 (o : Bool) (a b c d : D) : pIx [.lst o [a, b, c, d], .int 3] = some d := rfl
theorem pMod_int (a b : Int) (h : 0 < b) : pMod [.int a, .int b] = some (.int (a % b)) := by
  show (if cMod a b = true then some (D.int (a % b)) else none) = _
  rw [if_pos (by unfold cMod; simpa using h)]
theorem pDiv_int (a b : Int) (h : 0 < b) (h2 : b < 1073741824) : pDiv [.int a, .int b] = some (.int (a / b)) := by
  show (if cDiv a b = true then some (D.int (a / b)) else none) = _
  rw [if_pos (by unfold cDiv; simp [h, h2])]
theorem pMul_int (a b : Int) (h : (-(2 ^ 64) < a ∧ a < 2 ^ 64) ∨ (-(2 ^ 64) < b ∧ b < 2 ^ 64)) : pMul [.int a, .int b] = some (.int (a * b)) := by
  show (if cMul a b = true then some (D.int (a * b)) else none) = _
  rw [if_pos (by unfold cMul; simpa using h)]
theorem pPow_10_18 : pPow [.int 10, .int 18] = some (.int 1000000000000000000) := by
  show (if cPow 10 18 = true then some (D.int (10 ^ (18:Int).toNat)) else none) = _
  rw [if_pos (by decide)]; rfl
/-! one step at a time: ok-equations -/
variable {c : Ctx} {ρ ρ1 ρ2 : Env}
theorem bnd_eq {α β : Type} {m : M α} {f : α → M β} {a : α} (h : m c ρ = .ok a ρ1) : bnd m f c ρ = f a c ρ1 := by unfold bnd; rw [h]
theorem sSeq_nx {m n : M Fl} (h : m c ρ = .ok .nx ρ1) : sSeq m n c ρ = n c ρ1 := by unfold sSeq; rw [bnd_eq h]
theorem sSeq_ret {m n : M Fl} {d : D} (h : m c ρ = .ok (.ret d) ρ1) : sSeq m n c ρ = .ok (.ret d) ρ1 := by unfold sSeq; rw [bnd_eq h]; rfl
/-- a bag -/
def bagD (o : Bool) (h s k : Int) (ns : List Int) : D := .lst true [.int h, .int s, .int k, .lst o (ns.map .int)]
theorem first_of (k : Int) (ns : List Int) : ∃ x xs, cutD (ns.map D.int) (some k) none ++ [.int 0] = D.int x :: xs := by
  have : ∀ m : List Int, ∃ x xs, m.map D.int ++ [.int 0] = D.int x :: xs := fun m => by
    cases m with
    | nil => exact ⟨0, [], rfl⟩
    | cons a m => exact ⟨a, _, rfl⟩
  unfold cutD
  rw [← List.map_drop, ← List.map_take]
  exact this _
def ev (ρ : Env) := ρ
theorem cut_len (ns : List D) (lo hi : Option Int) : (cutD ns lo hi).length ≤ ns.length := by
  unfold cutD
  rw [List.length_take, List.length_drop]
  omega
theorem take_run (o : Bool) (h s k many : Int) (ns : List Int) (hm : 0 < many) (hm2 : many < 1073741824) (hl : ns.length ≤ 64) :
    ∃ v h' s' k', 0 ≤ v ∧ v < many ∧ Φ__law_take [bagD o h s k ns, .int many] = .ok (.int v) [some (bagD false h' s' k' ns), some (.int many)] := by
  obtain ⟨x, xs, hx⟩ := first_of k ns
  have hlen : (cutD (ns.map D.int) (some k) none).length + 1 ≤ LN := by
    have := cut_len (ns.map D.int) (some k) none
    rw [List.length_map] at this
    have e : LN = 16777216 := rfl
    omega
  have n1 : (0:Int) < 2147483647 := by decide
  have n2 : (0:Int) < 1000000007 := by decide
  have n3 : (0:Int) < 998244353 := by decide
  have m1 : ∀ a : Int, pMul [.int a, .int 48271] = some (.int (a * 48271)) := fun a => pMul_int _ _ (.inr (by decide))
  have m2 : ∀ a : Int, pMul [.int 7919, .int a] = some (.int (7919 * a)) := fun a => pMul_int _ _ (.inl (by decide))
  have m3 : ∀ a : Int, pMul [.int a, .int 39373] = some (.int (a * 39373)) := fun a => pMul_int _ _ (.inr (by decide))
  have m4 : ∀ a : Int, pMul [.int a, .int 30011] = some (.int (a * 30011)) := fun a => pMul_int _ _ (.inr (by decide))
  have m5 : ∀ a : Int, pMul [.int (a % 1000000007), .int (a % 1000000007)] = some (.int ((a % 1000000007) * (a % 1000000007))) := fun a => pMul_int _ _ (.inl (by omega))
  have d1 : ∀ a : Int, pDiv [.int a, .int 7] = some (.int (a / 7)) := fun a => pDiv_int _ _ (by decide) (by decide)
  have sl : pSl (some k) none [.lst false (ns.map D.int)] = some (.lst true (cutD (ns.map D.int) (some k) none)) := rfl
  have ad : pAdd [.lst true (cutD (ns.map D.int) (some k) none), .lst true [.int 0]] = some (.lst true (.int x :: xs)) := by
    show (if (cutD (ns.map D.int) (some k) none).length + [D.int 0].length ≤ LN then some (D.lst true (cutD (ns.map D.int) (some k) none ++ [.int 0])) else none) = _
    rw [if_pos (show (cutD (ns.map D.int) (some k) none).length + [D.int 0].length ≤ LN from hlen), hx]
  have fr : frz.frzL (cutD (ns.map D.int) (some k) none) = cutD (ns.map D.int) (some k) none := by
    unfold cutD
    rw [← List.map_drop, ← List.map_take, frzL_ints]
  have fr2 : frz.frzL (D.int x :: xs) = D.int x :: xs := by
    rw [← hx, frzL_map, List.map_append, ← frzL_map, fr]; rfl
  have ix0 : pIx [.lst true (D.int x :: xs), .int 0] = some (.int x) := by
    show (ixN (xs.length + 1) 0).bind (fun j => (D.int x :: xs)[j]?) = _
    unfold ixN
    rw [if_pos (by decide), if_pos (by omega)]; rfl
  have md : ∀ a : Int, pMod [.int a, .int many] = some (.int (a % many)) := fun a => pMod_int _ _ hm
  have dv : ∀ a : Int, pDiv [.int a, .int many] = some (.int (a / many)) := fun a => pDiv_int _ _ hm hm2
  have md1 : ∀ a : Int, pMod [.int a, .int 2147483647] = some (.int (a % 2147483647)) := fun a => pMod_int _ _ n1
  have md2 : ∀ a : Int, pMod [.int a, .int 1000000007] = some (.int (a % 1000000007)) := fun a => pMod_int _ _ n2
  have md3 : ∀ a : Int, pMod [.int a, .int 998244353] = some (.int (a % 998244353)) := fun a => pMod_int _ _ n3
  have b0 : ∀ a : Int, 0 ≤ a % many := fun a => Int.emod_nonneg _ (by omega)
  have b1 : ∀ a : Int, a % many < many := fun a => Int.emod_lt_of_pos _ hm
  have fr2' : frz.frzL xs = xs := by injection fr2
  by_cases h0 : h = 0
  · subst h0
    by_cases hc : 1000000000000000000 ≤ x
    · by_cases hp : 0 < x
      · refine ⟨x % many, x / many, (s * 48271 + x % 2147483647 + 7919 * (k + 1)) % 2147483647, k + 1, b0 _, b1 _, ?_⟩
        unfold Φ__law_take runF M__law_take bagD
        simp [protOf, outs, sSeq, sIf, sSet, setS, setI, free, bnd, pur, oE, oN, mB, asB, mBin, mGets, gets, gC, gR, oVar, ofO, mPrim, sSkip, sRet, mvVar, eVar, isOwn, LN, lstD, mSlice, mPart, asI, sl, ad, fr, fr2', ix0, pPow_10_18, hc, hp, md, dv, md1, md2, md3, m1, m2, m3, m4, m5, d1, ixN, sAugI, ownIx]
      · exfalso; omega
    · refine ⟨?_, 0, (s * 48271 + x % 2147483647 + 7919 * (k + 1)) % 2147483647, k + 1, ?_, ?_, ?_⟩
      case refine_4 =>
        unfold Φ__law_take runF M__law_take bagD
        simp [protOf, outs, sSeq, sIf, sSet, setS, setI, free, bnd, pur, oE, oN, mB, asB, mBin, mGets, gets, gC, gR, oVar, ofO, mPrim, sSkip, sRet, mvVar, eVar, isOwn, LN, lstD, mSlice, mPart, asI, sl, ad, fr, fr2', ix0, pPow_10_18, hc, md, dv, md1, md2, md3, m1, m2, m3, m4, m5, d1, ixN, sAugI, ownIx]
        rfl
      · exact b0 _
      · exact b1 _
  · by_cases hp : 0 < h
    · refine ⟨h % many, h / many, s, k, b0 _, b1 _, ?_⟩
      unfold Φ__law_take runF M__law_take bagD
      simp [protOf, outs, sSeq, sIf, sSet, setS, setI, free, bnd, pur, oE, oN, mB, asB, mBin, mGets, gets, gC, gR, oVar, ofO, mPrim, sSkip, sRet, mvVar, eVar, isOwn, h0, hp, md, dv, ixN, sAugI, ownIx]
    · refine ⟨?_, h, s, k, ?_, ?_, ?_⟩
      case refine_4 =>
        unfold Φ__law_take runF M__law_take bagD
        simp [protOf, outs, sSeq, sIf, sSet, setS, setI, free, bnd, pur, oE, oN, mB, asB, mBin, mGets, gets, gC, gR, oVar, ofO, mPrim, sSkip, sRet, mvVar, eVar, isOwn, h0, hp, md, dv, md1, md2, md3, m1, m2, m3, m4, m5, d1, ixN, sAugI, ownIx]
        rfl
      · exact b0 _
      · exact b1 _
/-- a bag -/
def Bag (d : D) : Prop := ∃ o h s k ns, ns.length ≤ 64 ∧ d = bagD o h s k ns
theorem Bag.own {d : D} (h : Bag d) : isOwn d = true := by
  obtain ⟨o, a, b, k, ns, _, rfl⟩ := h; rfl
theorem take_ok {b : D} {many : Int} (hb : Bag b) (hm : 0 < many) (hm2 : many < 1073741824) : ∃ v b', 0 ≤ v ∧ v < many ∧ Bag b' ∧ isOwn b' = true ∧ Φ__law_take [b, .int many] = .ok (.int v) [some b', some (.int many)] := by
  obtain ⟨o, h, s, k, ns, hl, rfl⟩ := hb
  obtain ⟨v, h', s', k', h0, h1, e⟩ := take_run o h s k many ns hm hm2 hl
  exact ⟨v, _, h0, h1, ⟨false, h', s', k', ns, hl, rfl⟩, rfl, e⟩
end Y

end
section
set_option Elab.async false
set_option linter.all false
set_option maxRecDepth 100000
set_option maxHeartbeats 4000000
set_option autoImplicit false
/-! P2: loops over values; alike. -/
namespace Y
open PySem L2
variable {c : Ctx} {ρ ρ1 ρ2 : Env}
theorem forL_inv {t : D → M Unit} {b : M Fl} {J : Nat → Env → Prop} : ∀ {ds : List D} {i : Nat} {ρ : Env}, J i ρ → (∀ j d ρ, ds[j]? = some d → J (i + j) ρ → ∃ ρ1 ρ2, t d c ρ = .ok () ρ1 ∧ b c ρ1 = .ok .nx ρ2 ∧ J (i + j + 1) ρ2) →
    ∃ ρ', forL t b ds c ρ = .ok .nx ρ' ∧ J (i + ds.length) ρ'
  | [], i, ρ, h, _ => ⟨ρ, rfl, h⟩
  | d :: ds, i, ρ, h, st => by
    obtain ⟨ρ1, ρ2, h1, h2, h3⟩ := st 0 d ρ rfl h
    obtain ⟨ρ', h4, h5⟩ := forL_inv (i := i + 1) (ds := ds) (ρ := ρ2) h3 fun j d ρ hd hj => by
      have e : i + 1 + j = i + (j + 1) := by omega
      rw [e] at hj ⊢
      exact st (j + 1) d ρ (by simpa using hd) hj
    refine ⟨ρ', ?_, by rw [List.length_cons]; have e : i + (ds.length + 1) = i + 1 + ds.length := by omega
                       rw [e]; exact h5⟩
    simp only [forL, h1, h2]
    exact h4
theorem compL_fm {vs : List Nat} {t : D → M Unit} {tt : M Bool} {te : M D} {J : Env → Prop} {f : D → Option D} : ∀ {ds : List D} {ρ : Env}, J ρ →
    (∀ d ρ, d ∈ ds → J ρ → ∃ ρ1 ρ2, t d c (wipeA ρ vs) = .ok () ρ1 ∧ ((f d = none ∧ tt c ρ1 = .ok false ρ2 ∧ J ρ2) ∨ ∃ y ρ3, f d = some y ∧ tt c ρ1 = .ok true ρ2 ∧ te c ρ2 = .ok y ρ3 ∧ J ρ3)) →
    ∃ ρ', compL vs t tt te ds c ρ = .ok (ds.filterMap f) ρ' ∧ J ρ'
  | [], ρ, h, _ => ⟨ρ, rfl, h⟩
  | d :: ds, ρ, h, st => by
    obtain ⟨ρ1, ρ2, h1, h2⟩ := st d ρ List.mem_cons_self h
    rcases h2 with ⟨f0, h2, h3⟩ | ⟨y, ρ3, f1, h2, h3, h4⟩
    · obtain ⟨ρ', h5, h6⟩ := compL_fm (ds := ds) h3 fun d ρ hd => st d ρ (List.mem_cons_of_mem _ hd)
      refine ⟨ρ', ?_, h6⟩
      simp only [compL, h1, h2, List.filterMap_cons, f0]
      exact h5
    · obtain ⟨ρ', h5, h6⟩ := compL_fm (ds := ds) h4 fun d ρ hd => st d ρ (List.mem_cons_of_mem _ hd)
      refine ⟨ρ', ?_, h6⟩
      simp only [compL, h1, h2, h3, h5, List.filterMap_cons, f1]
theorem compL_map {vs : List Nat} {t : D → M Unit} {te : M D} {J : Env → Prop} {f : D → D} {ds : List D} {ρ : Env} (h : J ρ)
    (st : ∀ d ρ, d ∈ ds → J ρ → ∃ ρ1 ρ3, t d c (wipeA ρ vs) = .ok () ρ1 ∧ te c ρ1 = .ok (f d) ρ3 ∧ J ρ3) :
    ∃ ρ', compL vs t tAll te ds c ρ = .ok (ds.map f) ρ' ∧ J ρ' := by
  have := compL_fm (c := c) (vs := vs) (t := t) (tt := tAll) (te := te) (f := fun d => some (f d)) h fun d ρ hd hj => by
    obtain ⟨ρ1, ρ3, h1, h2, h3⟩ := st d ρ hd hj
    exact ⟨ρ1, ρ1, h1, .inr ⟨_, ρ3, rfl, rfl, h2, h3⟩⟩
  simpa using this

/-! ### alike -/
def okA : D → Bool
  | .non => true
  | .bl _ => true
  | .int _ => true
  | .str x => okP (.str x)
  | .tup xs => okAs xs
  | .lst o xs => !o && okAs xs
  | _ => false
where okAs : List D → Bool
  | [] => true
  | x :: xs => okA x && okAs xs
def sz : D → Nat
  | .tup xs => 1 + szs xs
  | .lst _ xs => 1 + szs xs
  | _ => 1
where szs : List D → Nat
  | [] => 0
  | x :: xs => sz x + szs xs
mutual
theorem okA_frz : ∀ d : D, okA d = true → frz d = d
  | .non, _ => rfl
  | .bl _, _ => rfl
  | .int _, _ => rfl
  | .str _, _ => rfl
  | .tup _, _ => rfl
  | .lst o xs, h => by
    have h : (!o && okA.okAs xs) = true := h
    rw [Bool.and_eq_true] at h
    have e : o = false := by simpa using h.1
    subst e
    show D.lst false (frz.frzL xs) = _
    rw [okAs_frz xs h.2]
  | .dct _ _, h => nomatch h
  | .set _ _, h => nomatch h
  | .exn _ _, h => nomatch h
theorem okAs_frz : ∀ ds : List D, okA.okAs ds = true → frz.frzL ds = ds
  | [], _ => rfl
  | d :: ds, h => by
    have h : (okA d && okA.okAs ds) = true := h
    rw [Bool.and_eq_true] at h
    show frz d :: frz.frzL ds = _
    rw [okA_frz d h.1, okAs_frz ds h.2]
end
theorem sz_pos (d : D) : 0 < sz d := by cases d <;> simp [sz] <;> omega
abbrev pr (y : D) : D := .tup [y, y]
theorem frzL_pr (l : List D) : frz.frzL (l.map pr) = l.map pr := by
  induction l with
  | nil => rfl
  | cons x l ih => show frz (pr x) :: frz.frzL (l.map pr) = _; rw [ih]; rfl
theorem zip2_self (l : List D) : zip2D l l = l.map pr := by
  unfold zip2D
  induction l with
  | nil => rfl
  | cons x l ih => simp [List.zipWith, ih]
theorem szs_len (l : List D) : l.length ≤ sz.szs l := by
  induction l with
  | nil => exact Nat.le_refl _
  | cons x l ih => have := sz_pos x; simp only [sz.szs, List.length_cons]; omega
theorem szs_app (l l' : List D) : sz.szs (l ++ l') = sz.szs l + sz.szs l' := by
  induction l with
  | nil => simp [sz.szs]
  | cons x l ih => simp only [List.cons_append, sz.szs, ih]; omega
theorem okAs_all {l : List D} : okA.okAs l = true ↔ ∀ x ∈ l, okA x = true := by
  induction l with
  | nil => simp [okA.okAs]
  | cons x l ih => simp [okA.okAs, ih]
theorem at_mid (ps qs : List D) (y : D) : pIx [.lst true ((ps ++ y :: qs).map pr), .int ps.length] = some (pr y) := by
  show (ixN ((ps ++ y :: qs).map pr).length (ps.length : Int)).bind (fun j => ((ps ++ y :: qs).map pr)[j]?) = _
  unfold ixN
  rw [if_pos (by omega), if_pos (by simp; omega)]
  simp
@[simp] theorem isiP_app (Ts : List String) (d : D) : isiP Ts [d] = (tyD d).map fun t => .bl (Ts.any fun T => subT t T) := rfl
theorem pNe_self {y : D} (h : okP y = true) (h2 : PyData.eqv (toP y) (toP y) = true) : pNe [y, y] = some (.bl false) := by
  show (if (okP y && okP y) = true then some (D.bl (!PyData.eqv (toP y) (toP y))) else none) = _
  rw [h, h2]; rfl
noncomputable def alikeT : M Bool := (mB (mBin gC pLt (oN 3) (oE (mPrim gC pLen (bnd (oN 2) fun o => bnd (pur []) fun os => pur (o :: os))))))
end Y

end
section
set_option Elab.async false
set_option linter.all false
set_option maxRecDepth 100000
set_option maxHeartbeats 4000000
set_option autoImplicit false
/-! P3: alike of equal things. -/
namespace Y
open PySem L2
variable {c : Ctx} {ρ ρ1 ρ2 : Env}
theorem eqv_leaf_bl (b : Bool) : PyData.eqv (.bool b) (.bool b) = true := by cases b <;> rfl
theorem pLt_nat (a b : Nat) : pLt [.int a, .int b] = some (.bl (decide (a < b))) := by
  show some (D.bl (decide ((a : Int) < b))) = _
  congr 2
  simp
theorem alike_loop (x0 x1 : D) : ∀ (m : Nat) (ps qs : List D) (o4 o5 : Option D), sz.szs qs ≤ m → okA.okAs qs = true → ps.length + sz.szs qs ≤ LN → c.lock = [] → c.prot = [0, 1] →
    ∃ ρ', sWhile B1__law_alike B2__law_alike c [some x0, some x1, some (.lst true ((ps ++ qs).map pr)), some (.int ps.length), o4, o5] = .ok .nx ρ' ∧ ∃ p a q r, ρ' = [some x0, some x1, p, a, q, r]
  | m, ps, [], o4, o5, hm, hq, hl, h1, h2 => by
    rw [sWhile_eq]
    have e : B1__law_alike c [some x0, some x1, some (.lst true ((ps ++ []).map pr)), some (.int ps.length), o4, o5] = .ok false [some x0, some x1, some (.lst true ((ps ++ []).map pr)), some (.int ps.length), o4, o5] := by
      unfold B1__law_alike
      simp [bnd, pur, oE, oN, mB, asB, mBin, mGets, gets, gC, oVar, ofO, mPrim, pLen, frzL_pr, pLt_int, List.map_append]
    rw [e]
    exact ⟨_, rfl, _, _, _, _, rfl⟩
  | 0, ps, y :: qs, o4, o5, hm, hq, hl, h1, h2 => by
    have := sz_pos y
    simp only [sz.szs] at hm
    omega
  | m + 1, ps, y :: qs, o4, o5, hm, hq, hl, h1, h2 => by
    have hy : okA y = true := okAs_all.mp hq y List.mem_cons_self
    have hqs : okA.okAs qs = true := okAs_all.mpr fun z hz => okAs_all.mp hq z (List.mem_cons_of_mem _ hz)
    have hp := sz_pos y
    simp only [sz.szs] at hm hl
    have at_ := at_mid ps qs y
    obtain ⟨pr0, hprot⟩ : ∃ pr0, pr0 = c.prot := ⟨_, rfl⟩
    have fr2 : free c 2 = true := by unfold free; rw [h1, h2]; rfl
    have fr3 : free c 3 = true := by unfold free; rw [h1, h2]; rfl
    have fr4 : free c 4 = true := by unfold free; rw [h1, h2]; rfl
    have fr5 : free c 5 = true := by unfold free; rw [h1, h2]; rfl
    have hlk : (2 ∉ c.lock) = True := by rw [h1]; simp
    rw [sWhile_eq]
    have e : B1__law_alike c [some x0, some x1, some (.lst true ((ps ++ y :: qs).map pr)), some (.int ps.length), o4, o5] = .ok true [some x0, some x1, some (.lst true ((ps ++ y :: qs).map pr)), some (.int ps.length), o4, o5] := by
      unfold B1__law_alike
      simp [bnd, pur, oE, oN, mB, asB, mBin, mGets, gets, gC, oVar, ofO, mPrim, pLen, frzL_pr, pLt_int, -List.map_append, -List.map_cons]
      omega
    rw [e]
    dsimp only
    have leaf : tyD y ≠ some "tuple" → tyD y ≠ some "list" → (∃ t, tyD y = some t ∧ t ∈ "NoneType" :: tys) → okP y = true → PyData.eqv (toP y) (toP y) = true → chill y = y → sz y = 1 →
        B2__law_alike c [some x0, some x1, some (.lst true ((ps ++ y :: qs).map pr)), some (.int ps.length), o4, o5] = .ok .nx [some x0, some x1, some (.lst true ((ps ++ y :: qs).map pr)), some (.int ((ps.length : Int) + 1)), some y, some y] := by
      intro t1 t2 ⟨t, ht, htm⟩ k1 k2 k3 k4
      unfold B2__law_alike
      have s1 : ∀ Ts, isiP Ts [y] = some (.bl (Ts.any fun T => subT t T)) := fun Ts => by show (tyD y).map _ = _; rw [ht]; rfl
      have s2 : (["tuple", "list"].any fun T => subT t T) = false := by
        have q1 : t ≠ "tuple" := fun z => t1 (z ▸ ht)
        have q2 : t ≠ "list" := fun z => t2 (z ▸ ht)
        simp [subT, q1, q2]
      have ne := pNe_self k1 k2
      simp [-List.map_append, -List.map_cons, bnd, pur, oE, oN, mB, asB, mBin, mGets, gets, gC, gR, oVar, rVar, ofO, mPrim, mUn, frzL_pr, sSeq, sSet, sAug, tgTup, tgCons, tgNil, setS, fr3, fr4, fr5, at_, sIf, mOr, s1, s2, sSkip, isOwn, k3, ne]
    have seqc : ∀ xs, (y = .tup xs ∨ y = .lst false xs) → okA.okAs xs = true → sz y = 1 + sz.szs xs →
        B2__law_alike c [some x0, some x1, some (.lst true ((ps ++ y :: qs).map pr)), some (.int ps.length), o4, o5] = .ok .nx [some x0, some x1, some (.lst true ((ps ++ y :: qs).map pr ++ xs.map pr)), some (.int ((ps.length : Int) + 1)), some y, some y] := by
      intro xs hxs hok hsz
      have hxl : xs.length ≤ LN := by have := szs_len xs; omega
      have hql := szs_len qs
      have hzl := szs_len xs
      have hel : ((ps ++ y :: qs).map pr).length + (xs.map pr).length ≤ LN := by
        simp only [List.length_map, List.length_append, List.length_cons]
        omega
      obtain ⟨t, ht, htt⟩ : ∃ t, tyD y = some t ∧ (t = "tuple" ∨ t = "list") := by
        rcases hxs with rfl | rfl
        · exact ⟨_, rfl, .inl rfl⟩
        · exact ⟨_, rfl, .inr rfl⟩
      have s1 : ∀ Ts, isiP Ts [y] = some (.bl (Ts.any fun T => subT t T)) := fun Ts => by show (tyD y).map _ = _; rw [ht]; rfl
      have s2 : (["tuple", "list"].any fun T => subT t T) = true := by rcases htt with rfl | rfl <;> decide
      have k3 : chill y = y := by
        rcases hxs with rfl | rfl
        · rfl
        · show D.lst false (frz.frzL xs) = _; rw [okAs_frz xs hok]
      have k4 : pLen [y] = some (.int xs.length) := by rcases hxs with rfl | rfl <;> rfl
      have k5 : pLZ [y, y] = some (.lst true (xs.map pr)) := by
        have hi : items y = some xs := by
          rcases hxs with rfl | rfl
          · rfl
          · show some (frz.frzL xs) = _; rw [okAs_frz xs hok]
        have hz : min xs.length xs.length ≤ LN := by omega
        simp only [pLZ, hi, hz, if_true, zip2_self]
      have k6 : fExtend ((ps ++ y :: qs).map pr) [.lst true (xs.map pr)] = some ((ps ++ y :: qs).map pr ++ xs.map pr, .non) := by
        unfold fExtend
        dsimp only
        rw [if_pos hel]
      unfold B2__law_alike
      simp [-List.map_append, -List.map_cons, bnd, pur, oE, oN, mB, asB, mBin, mGets, gets, gC, gR, oVar, rVar, ofO, mPrim, mUn, frzL_pr, sSeq, sSet, sAug, tgTup, tgCons, tgNil, setS, fr3, fr4, fr5, at_, sIf, mOr, s1, s2, sSkip, isOwn, k3, k4, k5, k6, sExpr, mMut, h1]
    have go : ∀ xs, okA.okAs xs = true → sz y = 1 + sz.szs xs → B2__law_alike c [some x0, some x1, some (.lst true ((ps ++ y :: qs).map pr)), some (.int ps.length), o4, o5] = .ok .nx [some x0, some x1, some (.lst true ((ps ++ y :: qs).map pr ++ xs.map pr)), some (.int ((ps.length : Int) + 1)), some y, some y] →
        ∃ ρ', (match B2__law_alike c [some x0, some x1, some (.lst true ((ps ++ y :: qs).map pr)), some (.int ps.length), o4, o5] with
          | .ok .nx ρ2 => sWhile B1__law_alike B2__law_alike c ρ2
          | .ok .cont ρ2 => sWhile B1__law_alike B2__law_alike c ρ2
          | .ok .brk ρ2 => .ok .nx ρ2
          | .ok (.ret d) ρ2 => .ok (.ret d) ρ2
          | .exc e ρ2 => .exc e ρ2
          | .bad => .bad) = .ok .nx ρ' ∧ ∃ p a q r, ρ' = [some x0, some x1, p, a, q, r] := by
      intro xs hok hsz hb
      rw [hb]
      have e1 : (ps ++ y :: qs).map pr ++ xs.map pr = ((ps ++ [y]) ++ (qs ++ xs)).map pr := by simp
      have e2 : (ps.length : Int) + 1 = ((ps ++ [y]).length : Nat) := by simp
      rw [e1, e2]
      refine alike_loop x0 x1 m (ps ++ [y]) (qs ++ xs) _ _ ?_ ?_ ?_ h1 h2
      · rw [szs_app]; omega
      · exact okAs_all.mpr fun z hz => (List.mem_append.mp hz).elim (okAs_all.mp hqs z) (okAs_all.mp hok z)
      · rw [szs_app, List.length_append, List.length_singleton]; omega
    cases y with
    | non => exact go [] rfl rfl (by simpa using leaf (by decide) (by decide) ⟨_, rfl, by decide⟩ rfl rfl rfl rfl)
    | bl b => exact go [] rfl rfl (by simpa using leaf (by simp [tyD]) (by simp [tyD]) ⟨_, rfl, by decide⟩ rfl (eqv_leaf_bl b) rfl rfl)
    | int i => exact go [] rfl rfl (by simpa using leaf (by simp [tyD]) (by simp [tyD]) ⟨_, rfl, by decide⟩ rfl (by simp [toP, PyData.eqv]) rfl rfl)
    | str s => exact go [] rfl rfl (by simpa using leaf (by simp [tyD]) (by simp [tyD]) ⟨_, rfl, by decide⟩ hy (by simp [toP, PyData.eqv]) rfl rfl)
    | tup xs => exact go xs hy rfl (seqc xs (.inl rfl) hy rfl)
    | lst o xs =>
      have hy' : (!o && okA.okAs xs) = true := hy
      rw [Bool.and_eq_true] at hy'
      have e : o = false := by simpa using hy'.1
      subst e
      exact go xs hy'.2 rfl (seqc xs (.inr rfl) hy'.2 rfl)
    | dct _ _ => cases hy
    | set _ _ => cases hy
    | exn _ _ => cases hy
theorem alike_same {a b : D} (h : frz a = frz b) (hk : okA (frz a) = true) (hs : sz (frz a) ≤ 1000000) : Φ__law_alike [a, b] = .ok (.bl true) [some (frz a), some (frz b)] := by
  obtain ⟨ρ', h1, p, q, r, u, rfl⟩ := alike_loop (c := ⟨[0, 1], []⟩) (frz a) (frz b) (sz.szs [frz a]) [] [frz a] none none (Nat.le_refl _) (by simp [okA.okAs, hk]) (by simp only [sz.szs, List.length_nil]; have e : LN = 16777216 := rfl; omega) rfl rfl
  unfold Φ__law_alike runF M__law_alike
  have e0 : ∀ d : D, frz (frz d) = frz d := frz2
  simp [protOf, bnd, pur, sSeq, sPar, lstD, tupD, eVar, free, LN, frz2, sRet] at h1 ⊢
  rw [← h] at h1 ⊢
  simp [h1, outs, bnd, pur]
end Y

end
section
set_option Elab.async false
set_option linter.all false
set_option maxRecDepth 100000
set_option maxHeartbeats 4000000
set_option autoImplicit false
/-! P4: meanings by simp; bag, some, mixed. -/
namespace Y
open PySem L2
@[simp] theorem own_l (o : Bool) (xs : List D) : isOwn (.lst o xs) = o := rfl
@[simp] theorem own_i (i : Int) : isOwn (.int i) = false := rfl
@[simp] theorem own_b (i : Bool) : isOwn (.bl i) = false := rfl
@[simp] theorem own_t (xs : List D) : isOwn (.tup xs) = false := rfl
theorem cut_ints (ns : List Int) (lo hi : Option Int) : ∃ ms : List Int, cutD (ns.map D.int) lo hi = ms.map D.int ∧ ms.length ≤ ns.length ∧ ∀ x ∈ ms, x ∈ ns := by
  refine ⟨(ns.drop (HT.sIx ns.length 0 lo)).take (HT.sIx ns.length ns.length hi - HT.sIx ns.length 0 lo), ?_, ?_, fun x hx => List.mem_of_mem_drop (List.mem_of_mem_take hx)⟩
  · unfold cutD
    rw [List.length_map, ← List.map_drop, ← List.map_take]
  · rw [List.length_take, List.length_drop]; omega
theorem cstep_ok {vs : List Nat} {c : Ctx} {i : Nat} (h : free c i = true) : free c i = true := h
@[simp] theorem pc21 : protC 2 [1] = [0] := rfl
@[simp] theorem pc32 : protC 3 [2] = [0, 1] := rfl
@[simp] theorem pc87 : protC 8 [7] = [0, 1, 2, 3, 4, 5, 6] := rfl
@[simp] theorem pc423 : protC 4 [2, 3] = [0, 1] := rfl
theorem bag_ok (ns : List Int) (hl : ns.length ≤ 63) : ∃ b, Bag b ∧ isOwn b = true ∧ Φ__law_bag [.lst false (ns.map D.int)] = .ok b [some (.lst false (ns.map D.int))] := by
  obtain ⟨ms, hm, hml, _⟩ := cut_ints ns none (some 63)
  obtain ⟨ρ', h1, o, h2⟩ := compL_map (c := ⟨[0], []⟩) (vs := [1]) (t := setS 1) (te := B1__law_bag)
    (J := fun ρ => ∃ o, ρ = [some (.lst false (ns.map D.int)), o]) (f := fun d => match d with | .int i => .int (if i < 0 then -i else i) | d => d) (ds := ms.map D.int) (ρ := [some (.lst false (ns.map D.int)), none]) ⟨none, rfl⟩
    fun d ρ hd ⟨o, hρ⟩ => by
      obtain ⟨i, _, rfl⟩ := List.mem_map.mp hd
      subst hρ
      exact ⟨[some (.lst false (ns.map D.int)), some (.int i)], [some (.lst false (ns.map D.int)), some (.int i)], by simp [bnd, pur, bad, ofO, eVar, oVar, rVar, oN, oE, gC, gR, gets, mGets, mPrim, mBin, mUn, mB, asB, asI, mNot, mAnd, mOr, mIf, sIf, mOrV, mAndV, sSkip, sSeq, sRet, sSet, setS, tgTup, tgNil, tgCons, sExpr, mvVar, aVar, aE, lendL, mCall, back, tupD, lstD, mPart, mSlice, mMut, sPar, tAll, mRng1, mRng2, mRgD, mSrc, items, lockOf, locks, mWalk, sFor, mComp, cold, wipeA, rest, outs, protOf, free, pLen, pList, pTuple, pSl, pAbs, LN], by unfold B1__law_bag; simp [bnd, pur, bad, ofO, eVar, oVar, rVar, oN, oE, gC, gR, gets, mGets, mPrim, mBin, mUn, mB, asB, asI, mNot, mAnd, mOr, mIf, sIf, mOrV, mAndV, sSkip, sSeq, sRet, sSet, setS, tgTup, tgNil, tgCons, sExpr, mvVar, aVar, aE, lendL, mCall, back, tupD, lstD, mPart, mSlice, mMut, sPar, tAll, mRng1, mRng2, mRgD, mSrc, items, lockOf, locks, mWalk, sFor, mComp, cold, wipeA, rest, outs, protOf, free, pLen, pList, pTuple, pSl, pAbs, LN], some (.int i), rfl⟩
  subst h2
  refine ⟨bagD true 0 1234567891 0 (ms.map fun i => if i < 0 then -i else i), ⟨true, 0, 1234567891, 0, _, by rw [List.length_map]; omega, rfl⟩, rfl, ?_⟩
  unfold Φ__law_bag runF M__law_bag
  have hml' : ms.length ≤ 16777216 := by omega
  simp only [tAll] at h1
  simp [bnd, pur, bad, ofO, eVar, oVar, rVar, oN, oE, gC, gR, gets, mGets, mPrim, mBin, mUn, mB, asB, asI, mNot, mAnd, mOr, mIf, sIf, mOrV, mAndV, sSkip, sSeq, sRet, sSet, setS, tgTup, tgNil, tgCons, sExpr, mvVar, aVar, aE, lendL, mCall, back, tupD, lstD, mPart, mSlice, mMut, sPar, tAll, mRng1, mRng2, mRgD, mSrc, items, lockOf, locks, mWalk, sFor, mComp, cold, wipeA, rest, outs, protOf, free, pLen, pList, pTuple, pSl, pAbs, LN, hm, h1, hml', bagD, List.map_map, Function.comp_def]
/-- a thing of a list -/
theorem some_ok {b : D} {o : Bool} {xs : List D} (hb : Bag b) (hx : frz.frzL xs = xs) (h0 : xs ≠ []) (hl : xs.length ≤ 1000) : ∃ x b', x ∈ xs ∧ Bag b' ∧ isOwn b' = true ∧ Φ__law_some [b, .lst o xs] = .ok x [some b', some (.lst o xs)] := by
  have hp : 0 < xs.length := List.length_pos_iff.mpr h0
  obtain ⟨v, b', v0, v1, hb', ho', e⟩ := take_ok hb (many := xs.length) (by omega) (by omega)
  have hv : v.toNat < xs.length := by omega
  have hix : pIx [.lst o xs, .int v] = some xs[v.toNat] := by
    show (ixN xs.length v).bind (fun j => xs[j]?) = _
    unfold ixN
    rw [if_pos v0, if_pos v1]
    show xs[v.toNat]? = _
    exact List.getElem?_eq_getElem hv
  refine ⟨xs[v.toNat], b', List.getElem_mem hv, hb', ho', ?_⟩
  unfold Φ__law_some runF M__law_some
  simp [bnd, pur, bad, ofO, eVar, oVar, rVar, oN, oE, gC, gR, gets, mGets, mPrim, mBin, mUn, mB, asB, asI, mNot, mAnd, mOr, mIf, sIf, mOrV, mAndV, sSkip, sSeq, sRet, sSet, setS, tgTup, tgNil, tgCons, sExpr, mvVar, aVar, aE, lendL, mCall, back, tupD, lstD, mPart, mSlice, mMut, sPar, tAll, mRng1, mRng2, mRgD, mSrc, items, lockOf, locks, mWalk, sFor, mComp, cold, wipeA, rest, outs, protOf, free, pLen, pList, pTuple, pSl, pAbs, LN, hb.own, hx, e, hix]
end Y

end
section
set_option Elab.async false
set_option linter.all false
set_option maxRecDepth 100000
set_option maxHeartbeats 4000000
set_option autoImplicit false
/-! P5: mixed, cuts, base, make. -/
namespace Y
open PySem L2
theorem toPs_ints (ns : List Int) : toP.toPs (ns.map D.int) = ns.map PyData.int := by
  induction ns with
  | nil => rfl
  | cons n ns ih => show toP (.int n) :: toP.toPs (ns.map D.int) = _; rw [ih]; rfl
theorem lay_ints (ns : List Int) : PyData.canLayAll0 (ns.map PyData.int) = true := by
  induction ns with
  | nil => rfl
  | cons n ns ih => show (PyData.canLay0 (.int n) && PyData.canLayAll0 (ns.map PyData.int)) = true; rw [ih]; rfl
theorem dep_ints (ns : List Int) : PyData.depthAll (ns.map PyData.int) ≤ 1 := by
  induction ns with
  | nil => simp [PyData.depthAll]
  | cons n ns ih => simp only [List.map_cons, PyData.depthAll, PyData.depth]; omega
theorem okP_lints (o : Bool) (ns : List Int) : okP (.lst o (ns.map D.int)) = true := by
  unfold okP SeqAt.shaped
  show (PyData.canLayAll0 (toP.toPs (ns.map D.int)) && decide (PyData.depth (.list (toP.toPs (ns.map D.int))) ≤ 64)) = true
  rw [toPs_ints, lay_ints]
  have := dep_ints ns
  simp [PyData.depth]
  omega
theorem okP_tints (ns : List Int) : okP (.tup (ns.map D.int)) = true := by
  unfold okP SeqAt.shaped
  show (PyData.canLayAll0 (toP.toPs (ns.map D.int)) && decide (PyData.depth (.tuple (toP.toPs (ns.map D.int))) ≤ 64)) = true
  rw [toPs_ints, lay_ints]
  have := dep_ints ns
  simp [PyData.depth]
  omega
theorem eqvAll_ints : ∀ ns ms : List Int, PyData.eqvAll (ns.map PyData.int) (ms.map PyData.int) = decide (ns = ms)
  | [], [] => by simp [PyData.eqvAll]
  | [], _ :: _ => by simp [PyData.eqvAll]
  | _ :: _, [] => by simp [PyData.eqvAll]
  | a :: as, b :: bs => by
    simp only [List.map_cons, PyData.eqvAll, PyData.eqv, eqvAll_ints as bs]
    by_cases h1 : a = b <;> by_cases h2 : as = bs <;> simp [h1, h2]
theorem pNe_of {x y : D} (h1 : okP x = true) (h2 : okP y = true) : pNe [x, y] = some (.bl (!PyData.eqv (toP x) (toP y))) := by
  show (if (okP x && okP y) = true then some (D.bl (!PyData.eqv (toP x) (toP y))) else none) = _
  rw [h1, h2]; rfl
theorem pEq_of {x y : D} (h1 : okP x = true) (h2 : okP y = true) : pEq [x, y] = some (.bl (PyData.eqv (toP x) (toP y))) := by
  show (if (okP x && okP y) = true then some (D.bl (PyData.eqv (toP x) (toP y))) else none) = _
  rw [h1, h2]; rfl
theorem pNe_lints (o o' : Bool) (ns ms : List Int) : pNe [.lst o (ns.map D.int), .lst o' (ms.map D.int)] = some (.bl (!decide (ns = ms))) := by
  rw [pNe_of (okP_lints _ _) (okP_lints _ _)]
  show some (D.bl (!PyData.eqvAll (toP.toPs (ns.map D.int)) (toP.toPs (ms.map D.int)))) = _
  rw [toPs_ints, toPs_ints, eqvAll_ints]
theorem pEq_lints (o o' : Bool) (ns ms : List Int) : pEq [.lst o (ns.map D.int), .lst o' (ms.map D.int)] = some (.bl (decide (ns = ms))) := by
  rw [pEq_of (okP_lints _ _) (okP_lints _ _)]
  show some (D.bl (PyData.eqvAll (toP.toPs (ns.map D.int)) (toP.toPs (ms.map D.int)))) = _
  rw [toPs_ints, toPs_ints, eqvAll_ints]
theorem pEq_tints (ns ms : List Int) : pEq [.tup (ns.map D.int), .tup (ms.map D.int)] = some (.bl (decide (ns = ms))) := by
  rw [pEq_of (okP_tints _) (okP_tints _)]
  show some (D.bl (PyData.eqvAll (toP.toPs (ns.map D.int)) (toP.toPs (ms.map D.int)))) = _
  rw [toPs_ints, toPs_ints, eqvAll_ints]
theorem pNe_lnil (o o' : Bool) (ns : List Int) : pNe [.lst o (ns.map D.int), .lst o' []] = some (.bl (!decide (ns = []))) := pNe_lints o o' ns []
theorem map_erase {α β : Type} (f : α → β) : ∀ (l : List α) (i : Nat), (l.map f).eraseIdx i = (l.eraseIdx i).map f
  | [], _ => by simp
  | x :: l, 0 => rfl
  | x :: l, i + 1 => by simp [map_erase f l i]
theorem mixed_loop (t1 : Option D) : ∀ (n : Nat) (b : D) (left found : List Int), left.length = n → Bag b → found.length + n ≤ 1000 →
    ∃ (b' : D) (fs : List Int), sWhile B1__law_mixed B2__law_mixed ⟨[0, 1], []⟩ [some b, t1, some (.lst true (left.map D.int)), some (.lst true (found.map D.int))] = .ok .nx [some b', t1, some (.lst true []), some (.lst true (fs.map D.int))] ∧ Bag b' ∧ isOwn b' = true ∧ fs.length = found.length + n ∧ ∀ x ∈ fs, x ∈ found ∨ x ∈ left
  | 0, b, left, found, hn, hb, hf => by
    have e : left = [] := List.length_eq_zero_iff.mp hn
    subst e
    rw [sWhile_eq]
    have e1 := pNe_lnil true true []
    refine ⟨b, found, ?_, hb, hb.own, rfl, fun x hx => .inl hx⟩
    unfold B1__law_mixed
    simp [bnd, pur, bad, ofO, eVar, oVar, rVar, oN, oE, gC, gR, gets, mGets, mPrim, mBin, mUn, mB, asB, asI, mNot, mAnd, mOr, mIf, sIf, mOrV, mAndV, sSkip, sSeq, sRet, sSet, setS, tgTup, tgNil, tgCons, sExpr, mvVar, aVar, aE, lendL, mCall, back, tupD, lstD, mPart, mSlice, mMut, sPar, tAll, mRng1, mRng2, mRgD, mSrc, items, lockOf, locks, mWalk, sFor, mComp, cold, wipeA, rest, outs, protOf, free, pLen, pList, pTuple, pSl, pAbs, LN] at e1 ⊢
    simp [e1]
  | n + 1, b, left, found, hn, hb, hf => by
    rw [sWhile_eq]
    have hne : left ≠ [] := fun e => by rw [e] at hn; cases hn
    have e1 := pNe_lnil true true left
    have t : B1__law_mixed ⟨[0, 1], []⟩ [some b, t1, some (.lst true (left.map D.int)), some (.lst true (found.map D.int))] = .ok true [some b, t1, some (.lst true (left.map D.int)), some (.lst true (found.map D.int))] := by
      unfold B1__law_mixed
      simp [bnd, pur, bad, ofO, eVar, oVar, rVar, oN, oE, gC, gR, gets, mGets, mPrim, mBin, mUn, mB, asB, asI, mNot, mAnd, mOr, mIf, sIf, mOrV, mAndV, sSkip, sSeq, sRet, sSet, setS, tgTup, tgNil, tgCons, sExpr, mvVar, aVar, aE, lendL, mCall, back, tupD, lstD, mPart, mSlice, mMut, sPar, tAll, mRng1, mRng2, mRgD, mSrc, items, lockOf, locks, mWalk, sFor, mComp, cold, wipeA, rest, outs, protOf, free, pLen, pList, pTuple, pSl, pAbs, LN, e1, hne]
    rw [t]
    dsimp only
    obtain ⟨v, b1, v0, v1, hb1, ho1, ht⟩ := take_ok hb (many := (left.length : Int)) (by omega) (by omega)
    have hv : v.toNat < left.length := by omega
    have hp : fPop (left.map D.int) [.int v] = some ((left.eraseIdx v.toNat).map D.int, .int left[v.toNat]) := by
      have hix : ixN (left.map D.int).length v = some v.toNat := by
        unfold ixN
        rw [List.length_map, if_pos v0, if_pos v1]
      simp only [fPop]
      rw [if_pos (by omega), hix]
      have : (left.map D.int)[v.toNat]? = some (.int left[v.toNat]) := by
        rw [List.getElem?_map, List.getElem?_eq_getElem hv]; rfl
      simp only [this]
      rw [map_erase]
    have ha : fAppend (found.map D.int) [.int left[v.toNat]] = some ((found ++ [left[v.toNat]]).map D.int, .non) := by
      simp only [fAppend]
      rw [if_pos (by rw [List.length_map]; have e : LN = 16777216 := rfl; omega)]
      simp
    have step : B2__law_mixed ⟨[0, 1], []⟩ [some b, t1, some (.lst true (left.map D.int)), some (.lst true (found.map D.int))] = .ok .nx [some b1, t1, some (.lst true ((left.eraseIdx v.toNat).map D.int)), some (.lst true ((found ++ [left[v.toNat]]).map D.int))] := by
      unfold B2__law_mixed
      simp [bnd, pur, bad, ofO, eVar, oVar, rVar, oN, oE, gC, gR, gets, mGets, mPrim, mBin, mUn, mB, asB, asI, mNot, mAnd, mOr, mIf, sIf, mOrV, mAndV, sSkip, sSeq, sRet, sSet, setS, tgTup, tgNil, tgCons, sExpr, mvVar, aVar, aE, lendL, mCall, back, tupD, lstD, mPart, mSlice, mMut, sPar, tAll, mRng1, mRng2, mRgD, mSrc, items, lockOf, locks, mWalk, sFor, mComp, cold, wipeA, rest, outs, protOf, free, pLen, pList, pTuple, pSl, pAbs, LN, hb.own, ht, hp, ha, -List.map_append]
    rw [step]
    dsimp only
    obtain ⟨b', fs, h1, h2, h3, h4, h5⟩ := mixed_loop t1 n b1 (left.eraseIdx v.toNat) (found ++ [left[v.toNat]]) (by rw [List.length_eraseIdx, if_pos hv]; omega) hb1 (by rw [List.length_append, List.length_singleton]; omega)
    refine ⟨b', fs, h1, h2, h3, by rw [h4, List.length_append, List.length_singleton]; omega, fun x hx => ?_⟩
    rcases h5 x hx with h | h
    · rcases List.mem_append.mp h with h | h
      · exact .inl h
      · rw [List.mem_singleton.mp h]; exact .inr (List.getElem_mem hv)
    · exact .inr (List.mem_of_mem_eraseIdx h)
theorem mixed_ok {b : D} {o : Bool} {xs : List Int} (hb : Bag b) (hl : xs.length ≤ 1000) : ∃ (b' : D) (fs : List Int), Φ__law_mixed [b, .lst o (xs.map D.int)] = .ok (.lst true (fs.map D.int)) [some b', some (.lst o (xs.map D.int))] ∧ Bag b' ∧ isOwn b' = true ∧ fs.length = xs.length ∧ ∀ x ∈ fs, x ∈ xs := by
  obtain ⟨b', fs, h1, h2, h3, h4, h5⟩ := mixed_loop (some (.lst o (xs.map D.int))) xs.length b xs [] rfl hb (by simpa using hl)
  refine ⟨b', fs, ?_, h2, h3, by simpa using h4, fun x hx => by simpa using h5 x hx⟩
  unfold Φ__law_mixed runF M__law_mixed
  simp at h1
  simp [bnd, pur, bad, ofO, eVar, oVar, rVar, oN, oE, gC, gR, gets, mGets, mPrim, mBin, mUn, mB, asB, asI, mNot, mAnd, mOr, mIf, sIf, mOrV, mAndV, sSkip, sSeq, sRet, sSet, setS, tgTup, tgNil, tgCons, sExpr, mvVar, aVar, aE, lendL, mCall, back, tupD, lstD, mPart, mSlice, mMut, sPar, tAll, mRng1, mRng2, mRgD, mSrc, items, lockOf, locks, mWalk, sFor, mComp, cold, wipeA, rest, outs, protOf, free, pLen, pList, pTuple, pSl, pAbs, LN, h1]
end Y

end
section
set_option Elab.async false
set_option linter.all false
set_option maxRecDepth 100000
set_option maxHeartbeats 4000000
set_option autoImplicit false
/-! P6: cuts, make, base. -/
namespace Y
open PySem L2
variable {c : Ctx} {ρ ρ1 ρ2 : Env}
theorem compL_ex {vs : List Nat} {t : D → M Unit} {te : M D} {J : Env → Prop} {P : D → Prop} : ∀ {ds : List D} {ρ : Env}, J ρ →
    (∀ d ρ, d ∈ ds → J ρ → ∃ ρ1 y ρ3, t d c (wipeA ρ vs) = .ok () ρ1 ∧ te c ρ1 = .ok y ρ3 ∧ P y ∧ J ρ3) →
    ∃ ys ρ', compL vs t (pur true) te ds c ρ = .ok ys ρ' ∧ ys.length = ds.length ∧ (∀ y ∈ ys, P y) ∧ J ρ'
  | [], ρ, h, _ => ⟨[], ρ, rfl, rfl, fun y h => (nomatch h), h⟩
  | d :: ds, ρ, h, st => by
    obtain ⟨ρ1, y, ρ3, h1, h2, h3, h4⟩ := st d ρ List.mem_cons_self h
    obtain ⟨ys, ρ', h5, h6, h7, h8⟩ := compL_ex (ds := ds) h4 fun d ρ hd => st d ρ (List.mem_cons_of_mem _ hd)
    refine ⟨y :: ys, ρ', ?_, by simp [h6], fun z hz => (List.mem_cons.mp hz).elim (fun e => e ▸ h3) (h7 z), h8⟩
    simp only [compL, h1, pur, h2, h5]
theorem ints_of {Q : Int → Prop} : ∀ {ys : List D}, (∀ y ∈ ys, ∃ v, y = .int v ∧ Q v) → ∃ ns : List Int, ys = ns.map .int ∧ ∀ n ∈ ns, Q n
  | [], _ => ⟨[], rfl, fun n h => nomatch h⟩
  | y :: ys, h => by
    obtain ⟨v, rfl, hv⟩ := h y List.mem_cons_self
    obtain ⟨ns, rfl, hn⟩ := ints_of (ys := ys) fun z hz => h z (List.mem_cons_of_mem _ hz)
    exact ⟨v :: ns, rfl, fun n hn' => (List.mem_cons.mp hn').elim (fun e => e ▸ hv) (hn n)⟩
@[simp] theorem pIx_t3_0 (a b c : D) : pIx [.tup [a, b, c], .int 0] = some a := rfl
theorem cuts_ok {b x y : D} {ds : List Int} (hb : Bag b) (hl : ds.length ≤ 1000) (hd : ∀ d ∈ ds, 0 < d ∧ d ≤ 1000) :
    ∃ (b' : D) (rs : List Int), Φ__law_cuts [b, .tup [.tup (ds.map D.int), x, y]] = .ok (.tup (rs.map D.int)) [some b', some (.tup [.tup (ds.map D.int), x, y])] ∧ Bag b' ∧ isOwn b' = true ∧ rs.length = ds.length ∧ ∀ r ∈ rs, 1 ≤ r := by
  obtain ⟨ys, ρ', h1, h2, h3, b', o, hb', rfl⟩ := compL_ex (c := ⟨[0, 1], []⟩) (vs := [2]) (t := setS 2) (te := B1__law_cuts) (ds := ds.map D.int) (P := fun y => ∃ v, y = .int v ∧ 1 ≤ v)
    (J := fun ρ => ∃ b o, Bag b ∧ ρ = [some b, some (.tup [.tup (ds.map D.int), x, y]), o]) (ρ := [some b, some (.tup [.tup (ds.map D.int), x, y]), none]) ⟨b, none, hb, rfl⟩ fun d ρ hd' ⟨b, o, hb, hρ⟩ => by
      obtain ⟨i, hi, rfl⟩ := List.mem_map.mp hd'
      obtain ⟨q1, q2⟩ := hd i hi
      obtain ⟨v, b1, v0, v1, hb1, ho1, ht⟩ := take_ok hb (many := i) q1 (by omega)
      subst hρ
      exact ⟨[some b, some (.tup [.tup (ds.map D.int), x, y]), some (.int i)], .int (1 + v), [some b1, some (.tup [.tup (ds.map D.int), x, y]), some (.int i)], by simp [bnd, pur, bad, ofO, eVar, oVar, rVar, oN, oE, gC, gR, gets, mGets, mPrim, mBin, mUn, mB, asB, asI, mNot, mAnd, mOr, mIf, sIf, mOrV, mAndV, sSkip, sSeq, sRet, sSet, setS, tgTup, tgNil, tgCons, sExpr, mvVar, aVar, aE, lendL, mCall, back, tupD, lstD, mPart, mSlice, mMut, sPar, tAll, mRng1, mRng2, mRgD, mSrc, items, lockOf, locks, mWalk, sFor, mComp, cold, wipeA, rest, outs, protOf, free, pLen, pList, pTuple, pSl, pAbs, LN],
        by unfold B1__law_cuts; simp [bnd, pur, bad, ofO, eVar, oVar, rVar, oN, oE, gC, gR, gets, mGets, mPrim, mBin, mUn, mB, asB, asI, mNot, mAnd, mOr, mIf, sIf, mOrV, mAndV, sSkip, sSeq, sRet, sSet, setS, tgTup, tgNil, tgCons, sExpr, mvVar, aVar, aE, lendL, mCall, back, tupD, lstD, mPart, mSlice, mMut, sPar, tAll, mRng1, mRng2, mRgD, mSrc, items, lockOf, locks, mWalk, sFor, mComp, cold, wipeA, rest, outs, protOf, free, pLen, pList, pTuple, pSl, pAbs, LN, hb.own, ht], ⟨_, rfl, by omega⟩, b1, _, hb1, rfl⟩
  obtain ⟨rs, rfl, hr⟩ := ints_of h3
  rw [List.length_map] at h2
  refine ⟨b', rs, ?_, hb', hb'.own, by simpa using h2, hr⟩
  have hl' : rs.length ≤ 16777216 := by
    rw [List.length_map] at h2
    omega
  unfold Φ__law_cuts runF M__law_cuts
  simp [bnd, pur, bad, ofO, eVar, oVar, rVar, oN, oE, gC, gR, gets, mGets, mPrim, mBin, mUn, mB, asB, asI, mNot, mAnd, mOr, mIf, sIf, mOrV, mAndV, sSkip, sSeq, sRet, sSet, setS, tgTup, tgNil, tgCons, sExpr, mvVar, aVar, aE, lendL, mCall, back, tupD, lstD, mPart, mSlice, mMut, sPar, tAll, mRng1, mRng2, mRgD, mSrc, items, lockOf, locks, mWalk, sFor, mComp, cold, wipeA, rest, outs, protOf, free, pLen, pList, pTuple, pSl, pAbs, LN, h1, hl']
theorem fit_small {i : Int} (h1 : 0 ≤ i) (h2 : i ≤ 1000) : fit62 i = true := by unfold fit62; simp; omega
theorem rng_mem {lo n : Int} {d : D} (h : d ∈ rngD lo n) : ∃ i, d = .int i ∧ lo ≤ i ∧ i < n := by
  unfold rngD at h
  obtain ⟨k, hk, rfl⟩ := List.mem_map.mp h
  have := List.mem_range.mp hk
  exact ⟨lo + k, rfl, by omega, by omega⟩
theorem rng_len (lo n : Int) : (rngD lo n).length = (n - lo).toNat := by
  unfold rngD; rw [List.length_map, List.length_range]
theorem rng_at {lo n : Int} {k : Nat} {d : D} (h : (rngD lo n)[k]? = some d) : d = .int (lo + k) ∧ k < (n - lo).toNat := by
  obtain ⟨h1, h2⟩ := rng_get h
  exact ⟨h2, h1⟩
theorem bars_step (n : Int) (dd : List Int) (b : D) (xs : List D) (k j : Int) (o7 : Option D) (hb : Bag b) (hx : frz.frzL xs = xs) (hl : xs.length ≤ 1000) :
    ∃ b' xs', B2__law_make ⟨[0, 1, 2], []⟩ [some b, some (.int n), some (.int 5), some (.tup (dd.map D.int)), some (.lst true xs), some (.int k), some (.int j), o7] = .ok .nx [some b', some (.int n), some (.int 5), some (.tup (dd.map D.int)), some (.lst true xs'), some (.int k), some (.int j), o7] ∧ Bag b' ∧ frz.frzL xs' = xs' ∧ xs'.length ≤ xs.length + 1 := by
  obtain ⟨v, b1, v0, v1, hb1, ho1, ht⟩ := take_ok hb (many := 8) (by decide) (by decide)
  by_cases hv : v = 0
  · subst hv
    have hm : pMul [.lst true [.tup [.int k, .int j]], .int 1] = some (.lst true [.tup [.int k, .int j]]) := by rfl
    have ha : pAdd [.lst true xs, .lst true [.tup [.int k, .int j]]] = some (.lst true (xs ++ [.tup [.int k, .int j]])) := by
      show (if xs.length + [D.tup [.int k, .int j]].length ≤ LN then some (D.lst true (xs ++ [.tup [.int k, .int j]])) else none) = _
      rw [if_pos (by have e : LN = 16777216 := rfl; simp; omega)]
    refine ⟨b1, xs ++ [.tup [.int k, .int j]], ?_, hb1, by rw [frzL_map, List.map_append, ← frzL_map, hx]; rfl, by simp⟩
    unfold B2__law_make
    simp [bnd, pur, bad, ofO, eVar, oVar, rVar, oN, oE, gC, gR, gets, mGets, mPrim, mBin, mUn, mB, asB, asI, mNot, mAnd, mOr, mIf, sIf, mOrV, mAndV, sSkip, sSeq, sRet, sSet, setS, tgTup, tgNil, tgCons, sExpr, mvVar, aVar, aE, lendL, mCall, back, tupD, lstD, mPart, mSlice, mMut, sPar, tAll, mRng1, mRng2, mRgD, mSrc, items, lockOf, locks, mWalk, sFor, mComp, cold, wipeA, rest, outs, protOf, free, pLen, pList, pTuple, pSl, pAbs, LN, hb.own, ht, hx, hm, ha]
  · have hm : pMul [.lst true [.tup [.int k, .int j]], .int 0] = some (.lst true []) := by rfl
    have ha : pAdd [.lst true xs, .lst true []] = some (.lst true xs) := by
      show (if xs.length + ([] : List D).length ≤ LN then some (D.lst true (xs ++ [])) else none) = _
      rw [if_pos (by have e : LN = 16777216 := rfl; simp; omega), List.append_nil]
    refine ⟨b1, xs, ?_, hb1, hx, by omega⟩
    unfold B2__law_make
    simp [bnd, pur, bad, ofO, eVar, oVar, rVar, oN, oE, gC, gR, gets, mGets, mPrim, mBin, mUn, mB, asB, asI, mNot, mAnd, mOr, mIf, sIf, mOrV, mAndV, sSkip, sSeq, sRet, sSet, setS, tgTup, tgNil, tgCons, sExpr, mvVar, aVar, aE, lendL, mCall, back, tupD, lstD, mPart, mSlice, mMut, sPar, tAll, mRng1, mRng2, mRgD, mSrc, items, lockOf, locks, mWalk, sFor, mComp, cold, wipeA, rest, outs, protOf, free, pLen, pList, pTuple, pSl, pAbs, LN, hb.own, ht, hx, hm, ha, hv]
theorem tup_at (ns : List Int) (k : Nat) (h : k < ns.length) : pIx [.tup (ns.map D.int), .int k] = some (.int ns[k]) := by
  show (ixN (ns.map D.int).length (k : Int)).bind (fun j => (ns.map D.int)[j]?) = _
  unfold ixN
  rw [List.length_map, if_pos (by omega), if_pos (by omega)]
  show (ns.map D.int)[k]? = _
  rw [List.getElem?_map, List.getElem?_eq_getElem h]; rfl

theorem make_ok {b : D} {n : Int} (hb : Bag b) (h1 : 1 ≤ n) (h2 : n ≤ 4) :
    ∃ (b' x y : D) (ds : List Int), Φ__law_make [b, .int n, .int 5] = .ok (.tup [.tup (ds.map D.int), x, y]) [some b', some (.int n), some (.int 5)] ∧ Bag b' ∧ isOwn b' = true ∧ ds.length = n.toNat ∧ (∀ d ∈ ds, 2 ≤ d ∧ d ≤ 5) ∧ frz x = x ∧ frz y = y := by
  obtain ⟨ys, ρ', e1, e2, e3, b1, o, hb1, rfl⟩ := compL_ex (c := ⟨[0, 1, 2, 3, 4, 5, 6], []⟩) (vs := [7]) (t := setS 7) (te := B1__law_make) (ds := rngD 0 n) (P := fun y => ∃ v, y = .int v ∧ (2 ≤ v ∧ v ≤ 5))
    (J := fun ρ => ∃ b o, Bag b ∧ ρ = [some b, some (.int n), some (.int 5), none, none, none, none, o]) (ρ := [some b, some (.int n), some (.int 5), none, none, none, none, none]) ⟨b, none, hb, rfl⟩ fun d ρ hd' ⟨b, o, hb, hρ⟩ => by
      obtain ⟨i, rfl, hi1, hi2⟩ := rng_mem hd'
      obtain ⟨v, b1, v0, v1, hb1, ho1, ht⟩ := take_ok hb (many := 4) (by decide) (by decide)
      subst hρ
      refine ⟨[some b, some (.int n), some (.int 5), none, none, none, none, some (.int i)], .int (2 + v), [some b1, some (.int n), some (.int 5), none, none, none, none, some (.int i)], by simp [bnd, pur, bad, ofO, eVar, oVar, rVar, oN, oE, gC, gR, gets, mGets, mPrim, mBin, mUn, mB, asB, asI, mNot, mAnd, mOr, mIf, sIf, mOrV, mAndV, sSkip, sSeq, sRet, sSet, setS, tgTup, tgNil, tgCons, sExpr, mvVar, aVar, aE, lendL, mCall, back, tupD, lstD, mPart, mSlice, mMut, sPar, tAll, mRng1, mRng2, mRgD, mSrc, items, lockOf, locks, mWalk, sFor, mComp, cold, wipeA, rest, outs, protOf, free, pLen, pList, pTuple, pSl, pAbs, LN], ?_, ⟨_, rfl, by omega, by omega⟩, b1, _, hb1, rfl⟩
      unfold B1__law_make
      simp [bnd, pur, bad, ofO, eVar, oVar, rVar, oN, oE, gC, gR, gets, mGets, mPrim, mBin, mUn, mB, asB, asI, mNot, mAnd, mOr, mIf, sIf, mOrV, mAndV, sSkip, sSeq, sRet, sSet, setS, tgTup, tgNil, tgCons, sExpr, mvVar, aVar, aE, lendL, mCall, back, tupD, lstD, mPart, mSlice, mMut, sPar, tAll, mRng1, mRng2, mRgD, mSrc, items, lockOf, locks, mWalk, sFor, mComp, cold, wipeA, rest, outs, protOf, free, pLen, pList, pTuple, pSl, pAbs, LN, hb.own, ht]
  obtain ⟨dd, rfl, hr⟩ := ints_of e3
  have hdl : dd.length = n.toNat := by rw [List.length_map, rng_len] at e2; omega
  have hdl' : dd.length ≤ 16777216 := by omega
  -- the bars
  have outer := forL_inv (c := ⟨[0, 1, 2], []⟩) (t := setS 5) (b := B3__law_make) (ds := rngD 0 n) (i := 0) (J := fun i ρ => ∃ b xs o5 o6, Bag b ∧ frz.frzL xs = xs ∧ xs.length ≤ 10 * i ∧ ρ = [some b, some (.int n), some (.int 5), some (.tup (dd.map D.int)), some (.lst true xs), o5, o6, none])
    (ρ := [some b1, some (.int n), some (.int 5), some (.tup (dd.map D.int)), some (.lst true []), none, none, none]) ⟨b1, [], none, none, hb1, rfl, by simp, rfl⟩ fun j d ρ hj ⟨b, xs, o5, o6, hb, hx, hxl, hρ⟩ => by
      obtain ⟨rfl, hjl⟩ := rng_at hj
      rw [Int.sub_zero] at hjl
      subst hρ
      have hjd : j < dd.length := by omega
      have hda := tup_at dd j hjd
      have hdr := hr dd[j] (List.getElem_mem hjd)
      obtain ⟨ρ', f1, f2⟩ := forL_inv (c := ⟨[0, 1, 2], []⟩) (t := setS 6) (b := B2__law_make) (ds := rngD 1 (dd[j] + 1)) (i := 0) (J := fun i ρ => ∃ b xs' o6, Bag b ∧ frz.frzL xs' = xs' ∧ xs'.length ≤ xs.length + i ∧ ρ = [some b, some (.int n), some (.int 5), some (.tup (dd.map D.int)), some (.lst true xs'), some (.int (0 + (j : Nat))), o6, none])
        (ρ := [some b, some (.int n), some (.int 5), some (.tup (dd.map D.int)), some (.lst true xs), some (.int (0 + (j : Nat))), o6, none]) ⟨b, xs, o6, hb, hx, by omega, rfl⟩ fun k d ρ hk ⟨b, xs', o6, hb, hx', hxl', hρ⟩ => by
          obtain ⟨rfl, hkl⟩ := rng_at hk
          subst hρ
          obtain ⟨b2, xs2, g1, g2, g3, g4⟩ := bars_step n dd b xs' (0 + (j : Nat)) (1 + (k : Nat)) none hb hx' (by omega)
          exact ⟨_, _, by simp [bnd, pur, bad, ofO, eVar, oVar, rVar, oN, oE, gC, gR, gets, mGets, mPrim, mBin, mUn, mB, asB, asI, mNot, mAnd, mOr, mIf, sIf, mOrV, mAndV, sSkip, sSeq, sRet, sSet, setS, tgTup, tgNil, tgCons, sExpr, mvVar, aVar, aE, lendL, mCall, back, tupD, lstD, mPart, mSlice, mMut, sPar, tAll, mRng1, mRng2, mRgD, mSrc, items, lockOf, locks, mWalk, sFor, mComp, cold, wipeA, rest, outs, protOf, free, pLen, pList, pTuple, pSl, pAbs, LN], g1, b2, xs2, _, g2, g3, by omega, rfl⟩
      obtain ⟨b2, xs2, o6', g2, g3, g4, rfl⟩ := f2
      rw [rng_len] at g4
      refine ⟨[some b, some (.int n), some (.int 5), some (.tup (dd.map D.int)), some (.lst true xs), some (.int (0 + (j : Nat))), o6, none], [some b2, some (.int n), some (.int 5), some (.tup (dd.map D.int)), some (.lst true xs2), some (.int (0 + (j : Nat))), o6', none], by simp [bnd, pur, bad, ofO, eVar, oVar, rVar, oN, oE, gC, gR, gets, mGets, mPrim, mBin, mUn, mB, asB, asI, mNot, mAnd, mOr, mIf, sIf, mOrV, mAndV, sSkip, sSeq, sRet, sSet, setS, tgTup, tgNil, tgCons, sExpr, mvVar, aVar, aE, lendL, mCall, back, tupD, lstD, mPart, mSlice, mMut, sPar, tAll, mRng1, mRng2, mRgD, mSrc, items, lockOf, locks, mWalk, sFor, mComp, cold, wipeA, rest, outs, protOf, free, pLen, pList, pTuple, pSl, pAbs, LN], ?_, b2, xs2, _, o6', g2, g3, by omega, rfl⟩
      have hf1 : fit62 (dd[j] + 1) = true := fit_small (by omega) (by omega)
      have hf2 : fit62 1 = true := by decide
      unfold B3__law_make
      simp [bnd, pur, bad, ofO, eVar, oVar, rVar, oN, oE, gC, gR, gets, mGets, mPrim, mBin, mUn, mB, asB, asI, mNot, mAnd, mOr, mIf, sIf, mOrV, mAndV, sSkip, sSeq, sRet, sSet, setS, tgTup, tgNil, tgCons, sExpr, mvVar, aVar, aE, lendL, mCall, back, tupD, lstD, mPart, mSlice, mMut, sPar, tAll, mRng1, mRng2, mRgD, mSrc, items, lockOf, locks, mWalk, sFor, mComp, cold, wipeA, rest, outs, protOf, free, pLen, pList, pTuple, pSl, pAbs, LN, hda, hf1, hf2] at f1 ⊢
      exact f1
  obtain ⟨ρ', f1, b2, xs, o5, o6, hb2, hx, hxl, rfl⟩ := outer
  rw [rng_len] at hxl
  obtain ⟨x, b3, hxm, hb3, ho3, hs⟩ := some_ok (o := true) (xs := [.int 9, .int 9, .int 5, .int 1, .int 2, .int 0]) hb2 rfl (by simp) (by simp)
  have hxf : frz x = x := by
    simp at hxm
    rcases hxm with rfl | rfl | rfl | rfl | rfl <;> rfl
  refine ⟨b3, x, .tup xs, dd, ?_, hb3, ho3, hdl, hr, hxf, rfl⟩
  have hf : fit62 n = true := fit_small (by omega) (by omega)
  unfold Φ__law_make runF M__law_make
  simp [bnd, pur, bad, ofO, eVar, oVar, rVar, oN, oE, gC, gR, gets, mGets, mPrim, mBin, mUn, mB, asB, asI, mNot, mAnd, mOr, mIf, sIf, mOrV, mAndV, sSkip, sSeq, sRet, sSet, setS, tgTup, tgNil, tgCons, sExpr, mvVar, aVar, aE, lendL, mCall, back, tupD, lstD, mPart, mSlice, mMut, sPar, tAll, mRng1, mRng2, mRgD, mSrc, items, lockOf, locks, mWalk, sFor, mComp, cold, wipeA, rest, outs, protOf, free, pLen, pList, pTuple, pSl, pAbs, LN, hf, e1, hdl', f1, hb2.own, hs, hx, hxf]
end Y

end
section
set_option Elab.async false
set_option linter.all false
set_option maxRecDepth 100000
set_option maxHeartbeats 4000000
set_option autoImplicit false
/-! P7: base. -/
namespace Y
open PySem L2
variable {c : Ctx} {ρ ρ1 ρ2 : Env}
abbrev tI (ns : List Int) : D := .tup (ns.map D.int)
theorem rng_ints (lo hi : Int) : ∃ ms : List Int, rngD lo hi = ms.map D.int ∧ ms.length = (hi - lo).toNat ∧ ∀ m ∈ ms, lo ≤ m ∧ m < hi := by
  refine ⟨(List.range (hi - lo).toNat).map fun (k : Nat) => lo + (k : Int), ?_, by simp, fun m hm => ?_⟩
  · unfold rngD
    rw [List.map_map]; rfl
  · obtain ⟨k, hk, rfl⟩ := List.mem_map.mp hm
    have := List.mem_range.mp hk
    omega
theorem intsOf_ints (ns : List Int) : intsOf (ns.map D.int) = some ns := by
  induction ns with
  | nil => rfl
  | cons n ns ih => show (intsOf (ns.map D.int)).map (n :: ·) = _; rw [ih]; rfl
theorem pSorted_ints (ns : List Int) (h : ns.length < 64) : pSorted [.lst true (ns.map D.int)] = some (.lst true ((sortI ns).map D.int)) := by
  show (match intsOf (ns.map D.int) with
    | some ns => if ns.length < 64 then some (D.lst true ((sortI ns).map .int)) else none
    | none => none) = _
  rw [intsOf_ints]
  exact if_pos h
theorem frzL_tups (B : List (List Int)) : frz.frzL (B.map tI) = B.map tI := by
  induction B with
  | nil => rfl
  | cons x l ih => show frz (tI x) :: frz.frzL (l.map tI) = _; rw [ih]; rfl
theorem rgOk_small {a b : Int} (h1 : 0 ≤ a) (h2 : a ≤ 1000) (h3 : 0 ≤ b) (h4 : b ≤ 1000) : rgOk a b = true := by
  unfold rgOk
  rw [fit_small h1 h2, fit_small h3 h4]
  simp; omega
theorem base_step (mk : D) (b : D) (B : List (List Int)) (d : Int) (o4 : Option D) (hb : Bag b) (h1 : 2 ≤ d) (h2 : d ≤ 5) (hl : B.length ≤ 1000) :
    ∃ b' l o4', B1__law_base ⟨[0, 1], []⟩ [some b, some mk, some (.lst true (B.map tI)), some (.int d), o4] = .ok .nx [some b', some mk, some (.lst true ((B ++ [l]).map tI)), some (.int d), o4'] ∧ Bag b' ∧ l.length ≤ 10 ∧ ∀ x ∈ l, 1 ≤ x := by
  obtain ⟨x, b1, hxm, hb1, ho1, hs⟩ := some_ok (o := true) (xs := [.int 1, .int 1, .int 1, .int 0, .int 2]) hb rfl (by simp) (by simp)
  obtain ⟨m, rfl⟩ : ∃ m, x = .int m := by
    simp at hxm
    rcases hxm with rfl | rfl | rfl <;> exact ⟨_, rfl⟩
  obtain ⟨ms, hms, hml, hmb⟩ := rng_ints 1 (d + 1)
  obtain ⟨b2, fs, hf, hb2, ho2, hfl, hfm⟩ := mixed_ok (o := true) (xs := ms) hb1 (by omega)
  obtain ⟨gs, hg, hgl, hgm⟩ := cut_ints fs none (some m)
  have hso := pSorted_ints gs (by omega)
  have hr : rgOk 1 (d + 1) = true := rgOk_small (by omega) (by omega) (by omega) (by omega)
  have ha : fAppend (B.map tI) [tI (sortI gs)] = some ((B ++ [sortI gs]).map tI, .non) := by
    simp only [fAppend]
    rw [if_pos (by rw [List.length_map]; have e : LN = 16777216 := rfl; omega)]
    simp
  refine ⟨b2, sortI gs, some (.int m), ?_, hb2, by rw [(sortI_perm gs).length_eq]; omega, fun x hx => ?_⟩
  · unfold B1__law_base
    simp [bnd, pur, bad, ofO, eVar, oVar, rVar, oN, oE, gC, gR, gets, mGets, mPrim, mBin, mUn, mB, asB, asI, mNot, mAnd, mOr, mIf, sIf, mOrV, mAndV, sSkip, sSeq, sRet, sSet, setS, tgTup, tgNil, tgCons, sExpr, mvVar, aVar, aE, lendL, mCall, back, tupD, lstD, mPart, mSlice, mMut, sPar, tAll, mRng1, mRng2, mRgD, mSrc, items, lockOf, locks, mWalk, sFor, mComp, cold, wipeA, rest, outs, protOf, free, pLen, pList, pTuple, pSl, pAbs, LN, hb.own, hb1.own, hs, hr, hms, hf, hg, hso, ha, -List.map_append]
  · have := hmb x (hfm x (hgm x ((sortI_perm gs).mem_iff.mp hx)))
    omega
theorem base_ok {b x y : D} {ds : List Int} (hb : Bag b) (hl : ds.length ≤ 100) (hd : ∀ d ∈ ds, 2 ≤ d ∧ d ≤ 5) :
    ∃ (b' : D) (B : List (List Int)), Φ__law_base [b, .tup [tI ds, x, y]] = .ok (.tup (B.map tI)) [some b', some (.tup [tI ds, x, y])] ∧ Bag b' ∧ isOwn b' = true ∧ B.length = ds.length ∧ ∀ l ∈ B, l.length ≤ 10 ∧ ∀ x ∈ l, 1 ≤ x := by
  obtain ⟨ρ', f1, b2, B, o3, o4, hb2, hBl, hB, rfl⟩ := forL_inv (c := ⟨[0, 1], []⟩) (t := setS 3) (b := B1__law_base) (ds := ds.map D.int) (i := 0) (J := fun i ρ => ∃ (b : D) (B : List (List Int)) (o3 o4 : Option D), Bag b ∧ B.length = i ∧ (∀ l ∈ B, l.length ≤ 10 ∧ ∀ x ∈ l, 1 ≤ x) ∧ ρ = [some b, some (.tup [tI ds, x, y]), some (.lst true (B.map tI)), o3, o4])
    (ρ := [some b, some (.tup [tI ds, x, y]), some (.lst true []), none, none]) ⟨b, [], none, none, hb, rfl, fun l h => (nomatch h), rfl⟩ fun j d ρ hj ⟨b, B, o3, o4, hb, hBl, hB, hρ⟩ => by
      rw [List.getElem?_map] at hj
      obtain ⟨i, hi, rfl⟩ := Option.map_eq_some_iff.mp hj
      have hmem := List.mem_of_getElem? hi
      have hjl := (List.getElem?_eq_some_iff.mp hi).1
      subst hρ
      obtain ⟨b', l, o4', g1, g2, g3⟩ := base_step (.tup [tI ds, x, y]) b B i o4 hb (hd i hmem).1 (hd i hmem).2 (by omega)
      refine ⟨[some b, some (.tup [tI ds, x, y]), some (.lst true (B.map tI)), some (.int i), o4], _, by simp [bnd, pur, bad, ofO, eVar, oVar, rVar, oN, oE, gC, gR, gets, mGets, mPrim, mBin, mUn, mB, asB, asI, mNot, mAnd, mOr, mIf, sIf, mOrV, mAndV, sSkip, sSeq, sRet, sSet, setS, tgTup, tgNil, tgCons, sExpr, mvVar, aVar, aE, lendL, mCall, back, tupD, lstD, mPart, mSlice, mMut, sPar, tAll, mRng1, mRng2, mRgD, mSrc, items, lockOf, locks, mWalk, sFor, mComp, cold, wipeA, rest, outs, protOf, free, pLen, pList, pTuple, pSl, pAbs, LN], g1, b', B ++ [l], _, o4', g2, by rw [List.length_append, List.length_singleton]; omega, fun l' hl' => ?_, rfl⟩
      rcases List.mem_append.mp hl' with h | h
      · exact hB l' h
      · rw [List.mem_singleton.mp h]; exact g3
  refine ⟨b2, B, ?_, hb2, hb2.own, by rw [hBl, List.length_map]; omega, hB⟩
  unfold Φ__law_base runF M__law_base
  simp [bnd, pur, bad, ofO, eVar, oVar, rVar, oN, oE, gC, gR, gets, mGets, mPrim, mBin, mUn, mB, asB, asI, mNot, mAnd, mOr, mIf, sIf, mOrV, mAndV, sSkip, sSeq, sRet, sSet, setS, tgTup, tgNil, tgCons, sExpr, mvVar, aVar, aE, lendL, mCall, back, tupD, lstD, mPart, mSlice, mMut, sPar, tAll, mRng1, mRng2, mRgD, mSrc, items, lockOf, locks, mWalk, sFor, mComp, cold, wipeA, rest, outs, protOf, free, pLen, pList, pTuple, pSl, pAbs, LN, frzL_tups] at f1 ⊢
  simp [bnd, pur, bad, ofO, eVar, oVar, rVar, oN, oE, gC, gR, gets, mGets, mPrim, mBin, mUn, mB, asB, asI, mNot, mAnd, mOr, mIf, sIf, mOrV, mAndV, sSkip, sSeq, sRet, sSet, setS, tgTup, tgNil, tgCons, sExpr, mvVar, aVar, aE, lendL, mCall, back, tupD, lstD, mPart, mSlice, mMut, sPar, tAll, mRng1, mRng2, mRgD, mSrc, items, lockOf, locks, mWalk, sFor, mComp, cold, wipeA, rest, outs, protOf, free, pLen, pList, pTuple, pSl, pAbs, LN, f1, frzL_tups]
end Y

end
section
set_option Elab.async false
set_option linter.all false
set_option maxRecDepth 100000
set_option maxHeartbeats 4000000
set_option autoImplicit false
/-! P8: the program's own defs, and the law's twins. -/
namespace Y
open PySem L2
variable {c : Ctx} {ρ ρ1 ρ2 : Env}
theorem compL_P {π : Type} {vs : List Nat} {t : D → M Unit} {tt : M Bool} {te : M D} {J : Env → Prop} {h g : π → D} {q : π → Bool} : ∀ {ps : List π} {ρ : Env}, J ρ →
    (∀ p ρ, p ∈ ps → J ρ → ∃ ρ1 ρ2, t (h p) c (wipeA ρ vs) = .ok () ρ1 ∧ tt c ρ1 = .ok (q p) ρ2 ∧ (q p = false → J ρ2) ∧ (q p = true → ∃ ρ3, te c ρ2 = .ok (g p) ρ3 ∧ J ρ3)) →
    ∃ ρ', compL vs t tt te (ps.map h) c ρ = .ok ((ps.filter q).map g) ρ' ∧ J ρ'
  | [], ρ, hj, _ => ⟨ρ, rfl, hj⟩
  | p :: ps, ρ, hj, st => by
    obtain ⟨ρ1, ρ2, h1, h2, h3, h4⟩ := st p ρ List.mem_cons_self hj
    cases hq : q p with
    | false =>
      obtain ⟨ρ', h5, h6⟩ := compL_P (ps := ps) (h3 hq) fun p ρ hp => st p ρ (List.mem_cons_of_mem _ hp)
      refine ⟨ρ', ?_, h6⟩
      rw [hq] at h2
      simp only [List.map_cons, compL, h1, h2, List.filter_cons, hq]
      exact h5
    | true =>
      obtain ⟨ρ3, h4, h4'⟩ := h4 hq
      obtain ⟨ρ', h5, h6⟩ := compL_P (ps := ps) h4' fun p ρ hp => st p ρ (List.mem_cons_of_mem _ hp)
      refine ⟨ρ', ?_, h6⟩
      rw [hq] at h2
      simp only [List.map_cons, compL, h1, h2, h4, h5, List.filter_cons, hq]
      rfl
theorem compL_A {π : Type} {vs : List Nat} {t : D → M Unit} {te : M D} {J : Env → Prop} {h g : π → D} {ps : List π} {ρ : Env} (hj : J ρ)
    (st : ∀ p ρ, p ∈ ps → J ρ → ∃ ρ1 ρ3, t (h p) c (wipeA ρ vs) = .ok () ρ1 ∧ te c ρ1 = .ok (g p) ρ3 ∧ J ρ3) :
    ∃ ρ', compL vs t (pur true) te (ps.map h) c ρ = .ok (ps.map g) ρ' ∧ J ρ' := by
  obtain ⟨ρ', h1, h2⟩ := compL_P (c := c) (vs := vs) (t := t) (tt := pur true) (te := te) (J := J) (h := h) (g := g) (q := fun _ => true) (ps := ps) hj fun p ρ hp hj => by
    obtain ⟨ρ1, ρ3, h1, h2, h3⟩ := st p ρ hp hj
    exact ⟨ρ1, ρ1, h1, rfl, (fun e => nomatch e), fun _ => ⟨ρ3, h2, h3⟩⟩
  rw [List.filter_eq_self.mpr (fun _ _ => rfl)] at h1
  exact ⟨ρ', h1, h2⟩
theorem hasP_ints (l : List Int) (x : Int) : hasP (l.map D.int) (.int x) = decide (x ∈ l) := by
  unfold hasP
  rw [toPs_ints, List.any_map]
  induction l with
  | nil => rfl
  | cons a l ih =>
    rw [List.any_cons, ih]
    simp only [Function.comp, toP, PyData.eqv, List.mem_cons]
    by_cases h : a = x
    · subst h; simp
    · have : ¬ x = a := fun e => h e.symm
      simp [h, this]
theorem pInG_t (neg : Bool) (l : List Int) (x : Int) : pInG neg [.int x, .tup (l.map D.int)] = some (.bl (if neg then !decide (x ∈ l) else decide (x ∈ l))) := by
  show (if (okP (.int x) && okP (.tup (l.map D.int))) = true then some (D.bl (if neg then !hasP (l.map D.int) (.int x) else hasP (l.map D.int) (.int x))) else none) = _
  rw [okP_int, okP_tints, hasP_ints]
  rfl
theorem pInG_2 (neg : Bool) (a b x : Int) : pInG neg [.int x, .tup [.int a, .int b]] = some (.bl (if neg then !decide (x ∈ [a, b]) else decide (x ∈ [a, b]))) := pInG_t neg [a, b] x
theorem zip2_map {α β : Type} (f : α → D) (g : β → D) : ∀ (xs : List α) (ys : List β), zip2D (xs.map f) (ys.map g) = (xs.zip ys).map fun p => .tup [f p.1, g p.2]
  | [], _ => rfl
  | _ :: _, [] => rfl
  | x :: xs, y :: ys => by
    show D.tup [f x, g y] :: zip2D (xs.map f) (ys.map g) = _
    rw [zip2_map f g xs ys]; rfl
theorem zip3_map {α β γ : Type} (f : α → D) (g : β → D) (h : γ → D) : ∀ (xs : List α) (ys : List β) (zs : List γ), zip3D (xs.map f) (ys.map g) (zs.map h) = (xs.zip (ys.zip zs)).map fun p => .tup [f p.1, g p.2.1, h p.2.2]
  | [], _, _ => rfl
  | _ :: _, [], _ => rfl
  | _ :: _, _ :: _, [] => rfl
  | x :: xs, y :: ys, z :: zs => by
    show D.tup [f x, g y, h z] :: zip3D (xs.map f) (ys.map g) (zs.map h) = _
    rw [zip3_map f g h xs ys zs]; rfl
theorem enum_map (xs : List Int) : enumD (xs.map D.int) = xs.zipIdx.map fun p => .tup [.int (p.2 : Nat), .int p.1] := by
  unfold enumD
  rw [List.zipIdx_map, List.map_map]; rfl
@[simp] theorem frzL_gi {π : Type} (f : π → Int) (ps : List π) : frz.frzL (ps.map fun p => D.int (f p)) = ps.map fun p => D.int (f p) := by
  induction ps with
  | nil => rfl
  | cons x l ih => show frz (D.int (f x)) :: frz.frzL (l.map fun p => D.int (f p)) = _; rw [ih]; rfl
theorem blsOf_bls : ∀ bs : List Bool, blsOf (bs.map D.bl) = some bs
  | [] => rfl
  | b :: bs => by show (blsOf (bs.map D.bl)).map (b :: ·) = _; rw [blsOf_bls bs]; rfl
theorem pAll_bls (bs : List Bool) : pAll [.lst true (bs.map D.bl)] = some (.bl (bs.all id)) := by
  show (blsOf (bs.map D.bl)).map _ = _
  rw [blsOf_bls]; rfl
theorem frzL_bls (bs : List Bool) : frz.frzL (bs.map D.bl) = bs.map D.bl := by
  induction bs with
  | nil => rfl
  | cons b bs ih => show D.bl b :: frz.frzL (bs.map D.bl) = _; rw [ih]; rfl
@[simp] theorem pc43 : protC 4 [3] = [0, 1, 2] := rfl
@[simp] theorem pc534 : protC 5 [3, 4] = [0, 1, 2] := rfl
@[simp] theorem pc6345 : protC 6 [3, 4, 5] = [0, 1, 2] := rfl
theorem zA2_t (xs ys : List D) : zA2 [.tup xs, .tup ys] = some (zip2D xs ys) := rfl
theorem zA3_t (xs ys zs : List D) : zA3 [.tup xs, .tup ys, .tup zs] = some (zip3D xs ys zs) := rfl
theorem eA_t (xs : List D) : eA [.tup xs] = some (enumD xs) := rfl
abbrev tB (B : List (List Int)) : D := .tup (B.map tI)

/-! ### the mathematics -/
def kindI (B : List (List Int)) (r : List Int) : List Int := (B.zip r).map fun p => if p.2 ∈ p.1 then 0 else p.2
def belowI (B : List (List Int)) (a b : List Int) : Bool := decide (((B.zip (a.zip b)).filter fun p => (!decide (p.2.1 = p.2.2)) && !decide (p.2.1 ∈ p.1)) = [])
def underI (m n : List Int) : Bool := (m.zip n).all fun p => decide (p.1 ∈ [0, p.2])
def commonI (m n : List Int) : List Int := (m.zip n).map fun p => if p.1 = p.2 then p.1 else 0
def meetI (m : List Int) : List Int := (m.zipIdx.filter fun p => decide (p.1 = 0)).map fun p => (p.2 : Int)
theorem kindI_len (B : List (List Int)) (r : List Int) : (kindI B r).length ≤ r.length := by
  unfold kindI; rw [List.length_map, List.length_zip]; omega

theorem kind_ok (B : List (List Int)) (r : List Int) (hl : r.length ≤ 1000) : Φ__law_kind_of [tB B, tI r] = .ok (tI (kindI B r)) [some (tB B), some (tI r)] := by
  obtain ⟨ρ', h1, x, y, rfl⟩ := compL_A (c := ⟨[0, 1], [0, 1]⟩) (vs := [2, 3]) (t := tgTup 2 (tgCons (setS 2) (tgCons (setS 3) tgNil))) (te := B1__law_kind_of) (ps := B.zip r) (h := fun (p : List Int × Int) => .tup [tI p.1, .int p.2]) (g := fun (p : List Int × Int) => .int (if p.2 ∈ p.1 then 0 else p.2))
    (J := fun ρ => ∃ x y, ρ = [some (tB B), some (tI r), x, y]) (ρ := [some (tB B), some (tI r), none, none]) ⟨none, none, rfl⟩ fun p ρ hp ⟨x, y, hρ⟩ => by
      subst hρ
      refine ⟨[some (tB B), some (tI r), some (tI p.1), some (.int p.2)], [some (tB B), some (tI r), some (tI p.1), some (.int p.2)], by simp [bnd, pur, bad, ofO, eVar, oVar, rVar, oN, oE, gC, gR, gets, mGets, mPrim, mBin, mUn, mB, asB, asI, mNot, mAnd, mOr, mIf, sIf, mOrV, mAndV, sSkip, sSeq, sRet, sSet, setS, tgTup, tgNil, tgCons, sExpr, mvVar, aVar, aE, lendL, mCall, back, tupD, lstD, mPart, mSlice, mMut, sPar, tAll, mRng1, mRng2, mRgD, mSrc, items, lockOf, locks, mWalk, sFor, mComp, cold, wipeA, rest, outs, protOf, free, pLen, pList, pTuple, pSl, pAbs, LN], ?_, _, _, rfl⟩
      unfold B1__law_kind_of
      have hi := pInG_t false p.1 p.2
      by_cases hh : p.2 ∈ p.1
      · simp [bnd, pur, bad, ofO, eVar, oVar, rVar, oN, oE, gC, gR, gets, mGets, mPrim, mBin, mUn, mB, asB, asI, mNot, mAnd, mOr, mIf, sIf, mOrV, mAndV, sSkip, sSeq, sRet, sSet, setS, tgTup, tgNil, tgCons, sExpr, mvVar, aVar, aE, lendL, mCall, back, tupD, lstD, mPart, mSlice, mMut, sPar, tAll, mRng1, mRng2, mRgD, mSrc, items, lockOf, locks, mWalk, sFor, mComp, cold, wipeA, rest, outs, protOf, free, pLen, pList, pTuple, pSl, pAbs, LN, hi, hh]
      · simp [bnd, pur, bad, ofO, eVar, oVar, rVar, oN, oE, gC, gR, gets, mGets, mPrim, mBin, mUn, mB, asB, asI, mNot, mAnd, mOr, mIf, sIf, mOrV, mAndV, sSkip, sSeq, sRet, sSet, setS, tgTup, tgNil, tgCons, sExpr, mvVar, aVar, aE, lendL, mCall, back, tupD, lstD, mPart, mSlice, mMut, sPar, tAll, mRng1, mRng2, mRgD, mSrc, items, lockOf, locks, mWalk, sFor, mComp, cold, wipeA, rest, outs, protOf, free, pLen, pList, pTuple, pSl, pAbs, LN, hi, hh]
  have hz : min B.length r.length ≤ 16777216 := by omega
  unfold Φ__law_kind_of runF M__law_kind_of
  simp [bnd, pur, bad, ofO, eVar, oVar, rVar, oN, oE, gC, gR, gets, mGets, mPrim, mBin, mUn, mB, asB, asI, mNot, mAnd, mOr, mIf, sIf, mOrV, mAndV, sSkip, sSeq, sRet, sSet, setS, tgTup, tgNil, tgCons, sExpr, mvVar, aVar, aE, lendL, mCall, back, tupD, lstD, mPart, mSlice, mMut, sPar, tAll, mRng1, mRng2, mRgD, mSrc, items, lockOf, locks, mWalk, sFor, mComp, cold, wipeA, rest, outs, protOf, free, pLen, pList, pTuple, pSl, pAbs, LN, zA2_t, zip2_map, h1, hz, kindI]
theorem mark_ok (B : List (List Int)) (r : List Int) (hl : r.length ≤ 1000) : Φ_mark_of [tB B, tI r] = .ok (tI (kindI B r)) [some (tB B), some (tI r)] := by
  obtain ⟨ρ', h1, x, y, rfl⟩ := compL_A (c := ⟨[0, 1], [0, 1]⟩) (vs := [2, 3]) (t := tgTup 2 (tgCons (setS 2) (tgCons (setS 3) tgNil))) (te := B1_mark_of) (ps := B.zip r) (h := fun (p : List Int × Int) => .tup [tI p.1, .int p.2]) (g := fun (p : List Int × Int) => .int (if p.2 ∈ p.1 then 0 else p.2))
    (J := fun ρ => ∃ x y, ρ = [some (tB B), some (tI r), x, y]) (ρ := [some (tB B), some (tI r), none, none]) ⟨none, none, rfl⟩ fun p ρ hp ⟨x, y, hρ⟩ => by
      subst hρ
      refine ⟨[some (tB B), some (tI r), some (tI p.1), some (.int p.2)], [some (tB B), some (tI r), some (tI p.1), some (.int p.2)], by simp [bnd, pur, bad, ofO, eVar, oVar, rVar, oN, oE, gC, gR, gets, mGets, mPrim, mBin, mUn, mB, asB, asI, mNot, mAnd, mOr, mIf, sIf, mOrV, mAndV, sSkip, sSeq, sRet, sSet, setS, tgTup, tgNil, tgCons, sExpr, mvVar, aVar, aE, lendL, mCall, back, tupD, lstD, mPart, mSlice, mMut, sPar, tAll, mRng1, mRng2, mRgD, mSrc, items, lockOf, locks, mWalk, sFor, mComp, cold, wipeA, rest, outs, protOf, free, pLen, pList, pTuple, pSl, pAbs, LN], ?_, _, _, rfl⟩
      unfold B1_mark_of
      have hi := pInG_t false p.1 p.2
      by_cases hh : p.2 ∈ p.1
      · simp [bnd, pur, bad, ofO, eVar, oVar, rVar, oN, oE, gC, gR, gets, mGets, mPrim, mBin, mUn, mB, asB, asI, mNot, mAnd, mOr, mIf, sIf, mOrV, mAndV, sSkip, sSeq, sRet, sSet, setS, tgTup, tgNil, tgCons, sExpr, mvVar, aVar, aE, lendL, mCall, back, tupD, lstD, mPart, mSlice, mMut, sPar, tAll, mRng1, mRng2, mRgD, mSrc, items, lockOf, locks, mWalk, sFor, mComp, cold, wipeA, rest, outs, protOf, free, pLen, pList, pTuple, pSl, pAbs, LN, hi, hh]
      · simp [bnd, pur, bad, ofO, eVar, oVar, rVar, oN, oE, gC, gR, gets, mGets, mPrim, mBin, mUn, mB, asB, asI, mNot, mAnd, mOr, mIf, sIf, mOrV, mAndV, sSkip, sSeq, sRet, sSet, setS, tgTup, tgNil, tgCons, sExpr, mvVar, aVar, aE, lendL, mCall, back, tupD, lstD, mPart, mSlice, mMut, sPar, tAll, mRng1, mRng2, mRgD, mSrc, items, lockOf, locks, mWalk, sFor, mComp, cold, wipeA, rest, outs, protOf, free, pLen, pList, pTuple, pSl, pAbs, LN, hi, hh]
  have hz : min B.length r.length ≤ 16777216 := by omega
  unfold Φ_mark_of runF M_mark_of
  simp [bnd, pur, bad, ofO, eVar, oVar, rVar, oN, oE, gC, gR, gets, mGets, mPrim, mBin, mUn, mB, asB, asI, mNot, mAnd, mOr, mIf, sIf, mOrV, mAndV, sSkip, sSeq, sRet, sSet, setS, tgTup, tgNil, tgCons, sExpr, mvVar, aVar, aE, lendL, mCall, back, tupD, lstD, mPart, mSlice, mMut, sPar, tAll, mRng1, mRng2, mRgD, mSrc, items, lockOf, locks, mWalk, sFor, mComp, cold, wipeA, rest, outs, protOf, free, pLen, pList, pTuple, pSl, pAbs, LN, zA2_t, zip2_map, h1, hz, kindI]
theorem rank_ok (m : List Int) (hl : m.length ≤ 1000) : Φ_mark_rank [tI m] = .ok (.int (m.filter fun x => !decide (x = 0)).length) [some (tI m)] := by
  obtain ⟨ρ', h1, x, rfl⟩ := compL_P (c := ⟨[0], [0]⟩) (vs := [1]) (t := setS 1) (tt := B2_mark_rank) (te := B1_mark_rank) (ps := m) (h := D.int) (g := D.int) (q := fun x => !decide (x = 0))
    (J := fun ρ => ∃ x, ρ = [some (tI m), x]) (ρ := [some (tI m), none]) ⟨none, rfl⟩ fun p ρ hp ⟨x, hρ⟩ => by
      subst hρ
      refine ⟨[some (tI m), some (.int p)], [some (tI m), some (.int p)], by simp [bnd, pur, bad, ofO, eVar, oVar, rVar, oN, oE, gC, gR, gets, mGets, mPrim, mBin, mUn, mB, asB, asI, mNot, mAnd, mOr, mIf, sIf, mOrV, mAndV, sSkip, sSeq, sRet, sSet, setS, tgTup, tgNil, tgCons, sExpr, mvVar, aVar, aE, lendL, mCall, back, tupD, lstD, mPart, mSlice, mMut, sPar, tAll, mRng1, mRng2, mRgD, mSrc, items, lockOf, locks, mWalk, sFor, mComp, cold, wipeA, rest, outs, protOf, free, pLen, pList, pTuple, pSl, pAbs, LN], by unfold B2_mark_rank; simp [bnd, pur, bad, ofO, eVar, oVar, rVar, oN, oE, gC, gR, gets, mGets, mPrim, mBin, mUn, mB, asB, asI, mNot, mAnd, mOr, mIf, sIf, mOrV, mAndV, sSkip, sSeq, sRet, sSet, setS, tgTup, tgNil, tgCons, sExpr, mvVar, aVar, aE, lendL, mCall, back, tupD, lstD, mPart, mSlice, mMut, sPar, tAll, mRng1, mRng2, mRgD, mSrc, items, lockOf, locks, mWalk, sFor, mComp, cold, wipeA, rest, outs, protOf, free, pLen, pList, pTuple, pSl, pAbs, LN], fun _ => ⟨_, rfl⟩, fun _ => ⟨[some (tI m), some (.int p)], by unfold B1_mark_rank; simp [bnd, pur, bad, ofO, eVar, oVar, rVar, oN, oE, gC, gR, gets, mGets, mPrim, mBin, mUn, mB, asB, asI, mNot, mAnd, mOr, mIf, sIf, mOrV, mAndV, sSkip, sSeq, sRet, sSet, setS, tgTup, tgNil, tgCons, sExpr, mvVar, aVar, aE, lendL, mCall, back, tupD, lstD, mPart, mSlice, mMut, sPar, tAll, mRng1, mRng2, mRgD, mSrc, items, lockOf, locks, mWalk, sFor, mComp, cold, wipeA, rest, outs, protOf, free, pLen, pList, pTuple, pSl, pAbs, LN], _, rfl⟩⟩
  have hz : (m.filter fun x => !decide (x = 0)).length ≤ 16777216 := by have := List.length_filter_le (fun x => !decide (x = 0)) m; omega
  unfold Φ_mark_rank runF M_mark_rank
  simp [bnd, pur, bad, ofO, eVar, oVar, rVar, oN, oE, gC, gR, gets, mGets, mPrim, mBin, mUn, mB, asB, asI, mNot, mAnd, mOr, mIf, sIf, mOrV, mAndV, sSkip, sSeq, sRet, sSet, setS, tgTup, tgNil, tgCons, sExpr, mvVar, aVar, aE, lendL, mCall, back, tupD, lstD, mPart, mSlice, mMut, sPar, tAll, mRng1, mRng2, mRgD, mSrc, items, lockOf, locks, mWalk, sFor, mComp, cold, wipeA, rest, outs, protOf, free, pLen, pList, pTuple, pSl, pAbs, LN, h1, hz]
theorem rankof_ok (B : List (List Int)) (r : List Int) (hl : r.length ≤ 1000) : Φ_rank_of [tB B, tI r] = .ok (.int ((kindI B r).filter fun x => !decide (x = 0)).length) [some (tB B), some (tI r)] := by
  have h1 := mark_ok B r hl
  have h2 := rank_ok (kindI B r) (by have := kindI_len B r; omega)
  unfold Φ_rank_of runF M_rank_of
  simp [bnd, pur, bad, ofO, eVar, oVar, rVar, oN, oE, gC, gR, gets, mGets, mPrim, mBin, mUn, mB, asB, asI, mNot, mAnd, mOr, mIf, sIf, mOrV, mAndV, sSkip, sSeq, sRet, sSet, setS, tgTup, tgNil, tgCons, sExpr, mvVar, aVar, aE, lendL, mCall, back, tupD, lstD, mPart, mSlice, mMut, sPar, tAll, mRng1, mRng2, mRgD, mSrc, items, lockOf, locks, mWalk, sFor, mComp, cold, wipeA, rest, outs, protOf, free, pLen, pList, pTuple, pSl, pAbs, LN, h1, h2]
theorem meets_ok (B : List (List Int)) (r : List Int) (hl : r.length ≤ 1000) : Φ_meets_base [tB B, tI r] = .ok (tI (meetI (kindI B r))) [some (tB B), some (tI r)] := by
  have h0 := mark_ok B r hl
  obtain ⟨ρ', h1, x, y, rfl⟩ := compL_P (c := ⟨[0, 1], []⟩) (vs := [2, 3]) (t := tgTup 2 (tgCons (setS 2) (tgCons (setS 3) tgNil))) (tt := B2_meets_base) (te := B1_meets_base) (ps := (kindI B r).zipIdx) (h := fun (p : Int × Nat) => .tup [.int (p.2 : Nat), .int p.1]) (g := fun (p : Int × Nat) => .int (p.2 : Nat)) (q := fun (p : Int × Nat) => decide (p.1 = 0))
    (J := fun ρ => ∃ x y, ρ = [some (tB B), some (tI r), x, y]) (ρ := [some (tB B), some (tI r), none, none]) ⟨none, none, rfl⟩ fun p ρ hp ⟨x, y, hρ⟩ => by
      subst hρ
      refine ⟨[some (tB B), some (tI r), some (.int (p.2 : Nat)), some (.int p.1)], [some (tB B), some (tI r), some (.int (p.2 : Nat)), some (.int p.1)], by simp [bnd, pur, bad, ofO, eVar, oVar, rVar, oN, oE, gC, gR, gets, mGets, mPrim, mBin, mUn, mB, asB, asI, mNot, mAnd, mOr, mIf, sIf, mOrV, mAndV, sSkip, sSeq, sRet, sSet, setS, tgTup, tgNil, tgCons, sExpr, mvVar, aVar, aE, lendL, mCall, back, tupD, lstD, mPart, mSlice, mMut, sPar, tAll, mRng1, mRng2, mRgD, mSrc, items, lockOf, locks, mWalk, sFor, mComp, cold, wipeA, rest, outs, protOf, free, pLen, pList, pTuple, pSl, pAbs, LN], by unfold B2_meets_base; simp [bnd, pur, bad, ofO, eVar, oVar, rVar, oN, oE, gC, gR, gets, mGets, mPrim, mBin, mUn, mB, asB, asI, mNot, mAnd, mOr, mIf, sIf, mOrV, mAndV, sSkip, sSeq, sRet, sSet, setS, tgTup, tgNil, tgCons, sExpr, mvVar, aVar, aE, lendL, mCall, back, tupD, lstD, mPart, mSlice, mMut, sPar, tAll, mRng1, mRng2, mRgD, mSrc, items, lockOf, locks, mWalk, sFor, mComp, cold, wipeA, rest, outs, protOf, free, pLen, pList, pTuple, pSl, pAbs, LN], fun _ => ⟨_, _, rfl⟩, fun _ => ⟨[some (tB B), some (tI r), some (.int (p.2 : Nat)), some (.int p.1)], by unfold B1_meets_base; simp [bnd, pur, bad, ofO, eVar, oVar, rVar, oN, oE, gC, gR, gets, mGets, mPrim, mBin, mUn, mB, asB, asI, mNot, mAnd, mOr, mIf, sIf, mOrV, mAndV, sSkip, sSeq, sRet, sSet, setS, tgTup, tgNil, tgCons, sExpr, mvVar, aVar, aE, lendL, mCall, back, tupD, lstD, mPart, mSlice, mMut, sPar, tAll, mRng1, mRng2, mRgD, mSrc, items, lockOf, locks, mWalk, sFor, mComp, cold, wipeA, rest, outs, protOf, free, pLen, pList, pTuple, pSl, pAbs, LN], _, _, rfl⟩⟩
  have hz : ((kindI B r).zipIdx.filter fun (p : Int × Nat) => decide (p.1 = 0)).length ≤ 16777216 := by
    have := List.length_filter_le (fun (p : Int × Nat) => decide (p.1 = 0)) (kindI B r).zipIdx
    have := kindI_len B r
    rw [List.length_zipIdx] at *
    omega
  unfold Φ_meets_base runF M_meets_base
  simp [bnd, pur, bad, ofO, eVar, oVar, rVar, oN, oE, gC, gR, gets, mGets, mPrim, mBin, mUn, mB, asB, asI, mNot, mAnd, mOr, mIf, sIf, mOrV, mAndV, sSkip, sSeq, sRet, sSet, setS, tgTup, tgNil, tgCons, sExpr, mvVar, aVar, aE, lendL, mCall, back, tupD, lstD, mPart, mSlice, mMut, sPar, tAll, mRng1, mRng2, mRgD, mSrc, items, lockOf, locks, mWalk, sFor, mComp, cold, wipeA, rest, outs, protOf, free, pLen, pList, pTuple, pSl, pAbs, LN, h0, eA_t, enum_map, h1, hz, meetI]
theorem below_ok (B : List (List Int)) (a b : List Int) (hl : a.length ≤ 1000) : Φ__law_below [tB B, tI a, tI b] = .ok (.bl (belowI B a b)) [some (tB B), some (tI a), some (tI b)] := by
  obtain ⟨ρ', h1, x, y, z, rfl⟩ := compL_P (c := ⟨[0, 1, 2], [0, 1, 2]⟩) (vs := [3, 4, 5]) (t := tgTup 3 (tgCons (setS 3) (tgCons (setS 4) (tgCons (setS 5) tgNil)))) (tt := B2__law_below) (te := B1__law_below) (ps := B.zip (a.zip b)) (h := fun (p : List Int × Int × Int) => .tup [tI p.1, .int p.2.1, .int p.2.2]) (g := fun (p : List Int × Int × Int) => .int 1) (q := fun (p : List Int × Int × Int) => (!decide (p.2.1 = p.2.2)) && !decide (p.2.1 ∈ p.1))
    (J := fun ρ => ∃ x y z, ρ = [some (tB B), some (tI a), some (tI b), x, y, z]) (ρ := [some (tB B), some (tI a), some (tI b), none, none, none]) ⟨none, none, none, rfl⟩ fun p ρ hp ⟨x, y, z, hρ⟩ => by
      subst hρ
      have hi := pInG_t true p.1 p.2.1
      refine ⟨[some (tB B), some (tI a), some (tI b), some (tI p.1), some (.int p.2.1), some (.int p.2.2)], [some (tB B), some (tI a), some (tI b), some (tI p.1), some (.int p.2.1), some (.int p.2.2)], by simp [bnd, pur, bad, ofO, eVar, oVar, rVar, oN, oE, gC, gR, gets, mGets, mPrim, mBin, mUn, mB, asB, asI, mNot, mAnd, mOr, mIf, sIf, mOrV, mAndV, sSkip, sSeq, sRet, sSet, setS, tgTup, tgNil, tgCons, sExpr, mvVar, aVar, aE, lendL, mCall, back, tupD, lstD, mPart, mSlice, mMut, sPar, tAll, mRng1, mRng2, mRgD, mSrc, items, lockOf, locks, mWalk, sFor, mComp, cold, wipeA, rest, outs, protOf, free, pLen, pList, pTuple, pSl, pAbs, LN], ?_, fun _ => ⟨_, _, _, rfl⟩, fun _ => ⟨[some (tB B), some (tI a), some (tI b), some (tI p.1), some (.int p.2.1), some (.int p.2.2)], by unfold B1__law_below; simp [bnd, pur, bad, ofO, eVar, oVar, rVar, oN, oE, gC, gR, gets, mGets, mPrim, mBin, mUn, mB, asB, asI, mNot, mAnd, mOr, mIf, sIf, mOrV, mAndV, sSkip, sSeq, sRet, sSet, setS, tgTup, tgNil, tgCons, sExpr, mvVar, aVar, aE, lendL, mCall, back, tupD, lstD, mPart, mSlice, mMut, sPar, tAll, mRng1, mRng2, mRgD, mSrc, items, lockOf, locks, mWalk, sFor, mComp, cold, wipeA, rest, outs, protOf, free, pLen, pList, pTuple, pSl, pAbs, LN], _, _, _, rfl⟩⟩
      unfold B2__law_below
      by_cases hh : p.2.1 = p.2.2
      · simp [bnd, pur, bad, ofO, eVar, oVar, rVar, oN, oE, gC, gR, gets, mGets, mPrim, mBin, mUn, mB, asB, asI, mNot, mAnd, mOr, mIf, sIf, mOrV, mAndV, sSkip, sSeq, sRet, sSet, setS, tgTup, tgNil, tgCons, sExpr, mvVar, aVar, aE, lendL, mCall, back, tupD, lstD, mPart, mSlice, mMut, sPar, tAll, mRng1, mRng2, mRgD, mSrc, items, lockOf, locks, mWalk, sFor, mComp, cold, wipeA, rest, outs, protOf, free, pLen, pList, pTuple, pSl, pAbs, LN, hh]
      · simp [bnd, pur, bad, ofO, eVar, oVar, rVar, oN, oE, gC, gR, gets, mGets, mPrim, mBin, mUn, mB, asB, asI, mNot, mAnd, mOr, mIf, sIf, mOrV, mAndV, sSkip, sSeq, sRet, sSet, setS, tgTup, tgNil, tgCons, sExpr, mvVar, aVar, aE, lendL, mCall, back, tupD, lstD, mPart, mSlice, mMut, sPar, tAll, mRng1, mRng2, mRgD, mSrc, items, lockOf, locks, mWalk, sFor, mComp, cold, wipeA, rest, outs, protOf, free, pLen, pList, pTuple, pSl, pAbs, LN, hi, hh]
  generalize hF : (B.zip (a.zip b)).filter (fun (p : List Int × Int × Int) => (!decide (p.2.1 = p.2.2)) && !decide (p.2.1 ∈ p.1)) = Fl at h1
  have hz : Fl.length ≤ 16777216 := by
    have := List.length_filter_le (fun (p : List Int × Int × Int) => (!decide (p.2.1 = p.2.2)) && !decide (p.2.1 ∈ p.1)) (B.zip (a.zip b))
    rw [hF, List.length_zip, List.length_zip] at this
    omega
  have e1 := pEq_lints true true (Fl.map fun _ => 1) []
  rw [List.map_map] at e1
  have e2 : belowI B a b = decide (Fl.map (fun _ => (1 : Int)) = []) := by
    unfold belowI
    rw [hF]
    simp
  rw [e2]
  have e3 : (D.int ∘ fun (_ : List Int × Int × Int) => (1 : Int)) = fun _ => D.int 1 := rfl
  rw [e3] at e1
  unfold Φ__law_below runF M__law_below
  simp only [List.map_nil] at e1
  simp [bnd, pur, bad, ofO, eVar, oVar, rVar, oN, oE, gC, gR, gets, mGets, mPrim, mBin, mUn, mB, asB, asI, mNot, mAnd, mOr, mIf, sIf, mOrV, mAndV, sSkip, sSeq, sRet, sSet, setS, tgTup, tgNil, tgCons, sExpr, mvVar, aVar, aE, lendL, mCall, back, tupD, lstD, mPart, mSlice, mMut, sPar, tAll, mRng1, mRng2, mRgD, mSrc, items, lockOf, locks, mWalk, sFor, mComp, cold, wipeA, rest, outs, protOf, free, pLen, pList, pTuple, pSl, pAbs, LN, zA3_t, zip3_map, h1, hz, e1]
end Y

end
section
set_option Elab.async false
set_option linter.all false
set_option maxRecDepth 100000
set_option maxHeartbeats 4000000
set_option autoImplicit false
/-! P9: the other defs. -/
namespace Y
open PySem L2
variable {c : Ctx} {ρ ρ1 ρ2 : Env}
theorem under_ok (m n : List Int) (hl : m.length ≤ 1000) : Φ_is_under [tI m, tI n] = .ok (.bl (underI m n)) [some (tI m), some (tI n)] := by
  obtain ⟨ρ', h1, x, y, rfl⟩ := compL_A (c := ⟨[0, 1], [0, 1]⟩) (vs := [2, 3]) (t := tgTup 2 (tgCons (setS 2) (tgCons (setS 3) tgNil))) (te := B1_is_under) (ps := m.zip n) (h := fun (p : Int × Int) => .tup [.int p.1, .int p.2]) (g := fun (p : Int × Int) => .bl (decide (p.1 ∈ [0, p.2])))
    (J := fun ρ => ∃ x y, ρ = [some (tI m), some (tI n), x, y]) (ρ := [some (tI m), some (tI n), none, none]) ⟨none, none, rfl⟩ fun p ρ hp ⟨x, y, hρ⟩ => by
      subst hρ
      have hi := pInG_2 false 0 p.2 p.1
      refine ⟨[some (tI m), some (tI n), some (.int p.1), some (.int p.2)], [some (tI m), some (tI n), some (.int p.1), some (.int p.2)], by simp [bnd, pur, bad, ofO, eVar, oVar, rVar, oN, oE, gC, gR, gets, mGets, mPrim, mBin, mUn, mB, asB, asI, mNot, mAnd, mOr, mIf, sIf, mOrV, mAndV, sSkip, sSeq, sRet, sSet, setS, tgTup, tgNil, tgCons, sExpr, mvVar, aVar, aE, lendL, mCall, back, tupD, lstD, mPart, mSlice, mMut, sPar, tAll, mRng1, mRng2, mRgD, mSrc, items, lockOf, locks, mWalk, sFor, mComp, cold, wipeA, rest, outs, protOf, free, pLen, pList, pTuple, pSl, pAbs, LN], ?_, _, _, rfl⟩
      unfold B1_is_under
      simp only [Bool.false_eq_true, if_false] at hi
      simp [bnd, pur, bad, ofO, eVar, oVar, rVar, oN, oE, gC, gR, gets, mGets, mPrim, mBin, mUn, mB, asB, asI, mNot, mAnd, mOr, mIf, sIf, mOrV, mAndV, sSkip, sSeq, sRet, sSet, setS, tgTup, tgNil, tgCons, sExpr, mvVar, aVar, aE, lendL, mCall, back, tupD, lstD, mPart, mSlice, mMut, sPar, tAll, mRng1, mRng2, mRgD, mSrc, items, lockOf, locks, mWalk, sFor, mComp, cold, wipeA, rest, outs, protOf, free, pLen, pList, pTuple, pSl, pAbs, LN, hi]
  have hz : min m.length n.length ≤ 16777216 := by omega
  have hb := pAll_bls ((m.zip n).map fun p => decide (p.1 ∈ [0, p.2]))
  have hfr := frzL_bls ((m.zip n).map fun p => decide (p.1 ∈ [0, p.2]))
  rw [List.map_map] at hb hfr
  have e3 : (D.bl ∘ fun (p : Int × Int) => decide (p.1 ∈ [0, p.2])) = fun (p : Int × Int) => D.bl (decide (p.1 ∈ [0, p.2])) := rfl
  rw [e3] at hb hfr
  have e4 : underI m n = (((m.zip n).map fun p => decide (p.1 ∈ [0, p.2])).all id) := by
    unfold underI
    rw [List.all_map]; rfl
  rw [e4]
  generalize (((m.zip n).map fun p => decide (p.1 ∈ [0, p.2])).all id) = R at hb ⊢
  generalize hG : (fun (p : Int × Int) => D.bl (decide (p.1 ∈ [0, p.2]))) = g at h1 hb hfr
  unfold Φ_is_under runF M_is_under
  simp [bnd, pur, bad, ofO, eVar, oVar, rVar, oN, oE, gC, gR, gets, mGets, mPrim, mBin, mUn, mB, asB, asI, mNot, mAnd, mOr, mIf, sIf, mOrV, mAndV, sSkip, sSeq, sRet, sSet, setS, tgTup, tgNil, tgCons, sExpr, mvVar, aVar, aE, lendL, mCall, back, tupD, lstD, mPart, mSlice, mMut, sPar, tAll, mRng1, mRng2, mRgD, mSrc, items, lockOf, locks, mWalk, sFor, mComp, cold, wipeA, rest, outs, protOf, free, pLen, pList, pTuple, pSl, pAbs, LN, zA2_t, zip2_map, h1, hz, hb, hfr]
theorem lunder_ok (m n : List Int) (hl : m.length ≤ 1000) : Φ__law_under [tI m, tI n] = .ok (.bl (underI m n)) [some (tI m), some (tI n)] := by
  obtain ⟨ρ', h1, x, y, rfl⟩ := compL_P (c := ⟨[0, 1], [0, 1]⟩) (vs := [2, 3]) (t := tgTup 2 (tgCons (setS 2) (tgCons (setS 3) tgNil))) (tt := B2__law_under) (te := B1__law_under) (ps := m.zip n) (h := fun (p : Int × Int) => .tup [.int p.1, .int p.2]) (g := fun (p : Int × Int) => .int 1) (q := fun (p : Int × Int) => !decide (p.1 ∈ [0, p.2]))
    (J := fun ρ => ∃ x y, ρ = [some (tI m), some (tI n), x, y]) (ρ := [some (tI m), some (tI n), none, none]) ⟨none, none, rfl⟩ fun p ρ hp ⟨x, y, hρ⟩ => by
      subst hρ
      have hi := pInG_2 true 0 p.2 p.1
      simp only [if_true] at hi
      refine ⟨[some (tI m), some (tI n), some (.int p.1), some (.int p.2)], [some (tI m), some (tI n), some (.int p.1), some (.int p.2)], by simp [bnd, pur, bad, ofO, eVar, oVar, rVar, oN, oE, gC, gR, gets, mGets, mPrim, mBin, mUn, mB, asB, asI, mNot, mAnd, mOr, mIf, sIf, mOrV, mAndV, sSkip, sSeq, sRet, sSet, setS, tgTup, tgNil, tgCons, sExpr, mvVar, aVar, aE, lendL, mCall, back, tupD, lstD, mPart, mSlice, mMut, sPar, tAll, mRng1, mRng2, mRgD, mSrc, items, lockOf, locks, mWalk, sFor, mComp, cold, wipeA, rest, outs, protOf, free, pLen, pList, pTuple, pSl, pAbs, LN], ?_, fun _ => ⟨_, _, rfl⟩, fun _ => ⟨[some (tI m), some (tI n), some (.int p.1), some (.int p.2)], by unfold B1__law_under; simp [bnd, pur, bad, ofO, eVar, oVar, rVar, oN, oE, gC, gR, gets, mGets, mPrim, mBin, mUn, mB, asB, asI, mNot, mAnd, mOr, mIf, sIf, mOrV, mAndV, sSkip, sSeq, sRet, sSet, setS, tgTup, tgNil, tgCons, sExpr, mvVar, aVar, aE, lendL, mCall, back, tupD, lstD, mPart, mSlice, mMut, sPar, tAll, mRng1, mRng2, mRgD, mSrc, items, lockOf, locks, mWalk, sFor, mComp, cold, wipeA, rest, outs, protOf, free, pLen, pList, pTuple, pSl, pAbs, LN], _, _, rfl⟩⟩
      unfold B2__law_under
      simp [bnd, pur, bad, ofO, eVar, oVar, rVar, oN, oE, gC, gR, gets, mGets, mPrim, mBin, mUn, mB, asB, asI, mNot, mAnd, mOr, mIf, sIf, mOrV, mAndV, sSkip, sSeq, sRet, sSet, setS, tgTup, tgNil, tgCons, sExpr, mvVar, aVar, aE, lendL, mCall, back, tupD, lstD, mPart, mSlice, mMut, sPar, tAll, mRng1, mRng2, mRgD, mSrc, items, lockOf, locks, mWalk, sFor, mComp, cold, wipeA, rest, outs, protOf, free, pLen, pList, pTuple, pSl, pAbs, LN, hi]
  have e2 : underI m n = decide (((m.zip n).filter fun (p : Int × Int) => !decide (p.1 ∈ [0, p.2])).map (fun _ => (1 : Int)) = []) := by
    unfold underI
    rw [Bool.eq_iff_iff]
    simp only [List.all_eq_true, decide_eq_true_eq, List.map_eq_nil_iff, List.filter_eq_nil_iff, Bool.not_eq_true', decide_eq_false_iff_not, Classical.not_not]
  rw [e2]
  have hz : ((m.zip n).filter fun (p : Int × Int) => !decide (p.1 ∈ [0, p.2])).length ≤ 16777216 := by
    have := List.length_filter_le (fun (p : Int × Int) => !decide (p.1 ∈ [0, p.2])) (m.zip n)
    rw [List.length_zip] at this
    omega
  generalize ((m.zip n).filter fun (p : Int × Int) => !decide (p.1 ∈ [0, p.2])) = Fl at h1 hz ⊢
  have e1 := pEq_lints true true (Fl.map fun _ => 1) []
  rw [List.map_map] at e1
  have e3 : (D.int ∘ fun (_ : Int × Int) => (1 : Int)) = fun _ => D.int 1 := rfl
  rw [e3] at e1
  simp only [List.map_nil] at e1
  unfold Φ__law_under runF M__law_under
  simp [bnd, pur, bad, ofO, eVar, oVar, rVar, oN, oE, gC, gR, gets, mGets, mPrim, mBin, mUn, mB, asB, asI, mNot, mAnd, mOr, mIf, sIf, mOrV, mAndV, sSkip, sSeq, sRet, sSet, setS, tgTup, tgNil, tgCons, sExpr, mvVar, aVar, aE, lendL, mCall, back, tupD, lstD, mPart, mSlice, mMut, sPar, tAll, mRng1, mRng2, mRgD, mSrc, items, lockOf, locks, mWalk, sFor, mComp, cold, wipeA, rest, outs, protOf, free, pLen, pList, pTuple, pSl, pAbs, LN, zA2_t, zip2_map, h1, hz, e1]
theorem lcomp_ok (B : List (List Int)) (a b : List Int) (hl : a.length ≤ 1000) (hl2 : b.length ≤ 1000) : Φ__law_comparable [tB B, tI a, tI b] = .ok (.bl (belowI B a b || belowI B b a)) [some (tB B), some (tI a), some (tI b)] := by
  have h1 := below_ok B a b hl
  have h2 := below_ok B b a hl2
  unfold Φ__law_comparable runF M__law_comparable
  cases hb : belowI B a b with
  | true => rw [hb] at h1; simp [bnd, pur, bad, ofO, eVar, oVar, rVar, oN, oE, gC, gR, gets, mGets, mPrim, mBin, mUn, mB, asB, asI, mNot, mAnd, mOr, mIf, sIf, mOrV, mAndV, sSkip, sSeq, sRet, sSet, setS, tgTup, tgNil, tgCons, sExpr, mvVar, aVar, aE, lendL, mCall, back, tupD, lstD, mPart, mSlice, mMut, sPar, tAll, mRng1, mRng2, mRgD, mSrc, items, lockOf, locks, mWalk, sFor, mComp, cold, wipeA, rest, outs, protOf, free, pLen, pList, pTuple, pSl, pAbs, LN, h1]
  | false => rw [hb] at h1; simp [bnd, pur, bad, ofO, eVar, oVar, rVar, oN, oE, gC, gR, gets, mGets, mPrim, mBin, mUn, mB, asB, asI, mNot, mAnd, mOr, mIf, sIf, mOrV, mAndV, sSkip, sSeq, sRet, sSet, setS, tgTup, tgNil, tgCons, sExpr, mvVar, aVar, aE, lendL, mCall, back, tupD, lstD, mPart, mSlice, mMut, sPar, tAll, mRng1, mRng2, mRgD, mSrc, items, lockOf, locks, mWalk, sFor, mComp, cold, wipeA, rest, outs, protOf, free, pLen, pList, pTuple, pSl, pAbs, LN, h1, h2]
def isB (B : List (List Int)) (a b : List Int) : Bool := underI (kindI B a) (kindI B b)
theorem isbelow_ok (B : List (List Int)) (a b : List Int) (hl : a.length ≤ 1000) (hl2 : b.length ≤ 1000) : Φ_is_below [tB B, tI a, tI b] = .ok (.bl (isB B a b)) [some (tB B), some (tI a), some (tI b)] := by
  have h1 := mark_ok B a hl
  have h2 := mark_ok B b hl2
  have h3 := under_ok (kindI B a) (kindI B b) (by have := kindI_len B a; omega)
  unfold Φ_is_below runF M_is_below
  simp [bnd, pur, bad, ofO, eVar, oVar, rVar, oN, oE, gC, gR, gets, mGets, mPrim, mBin, mUn, mB, asB, asI, mNot, mAnd, mOr, mIf, sIf, mOrV, mAndV, sSkip, sSeq, sRet, sSet, setS, tgTup, tgNil, tgCons, sExpr, mvVar, aVar, aE, lendL, mCall, back, tupD, lstD, mPart, mSlice, mMut, sPar, tAll, mRng1, mRng2, mRgD, mSrc, items, lockOf, locks, mWalk, sFor, mComp, cold, wipeA, rest, outs, protOf, free, pLen, pList, pTuple, pSl, pAbs, LN, h1, h2, h3, isB]
theorem arecomp_ok (B : List (List Int)) (a b : List Int) (hl : a.length ≤ 1000) (hl2 : b.length ≤ 1000) : Φ_are_comparable [tB B, tI a, tI b] = .ok (.bl (isB B a b || isB B b a)) [some (tB B), some (tI a), some (tI b)] := by
  have h1 := isbelow_ok B a b hl hl2
  have h2 := isbelow_ok B b a hl2 hl
  unfold Φ_are_comparable runF M_are_comparable
  cases hb : isB B a b with
  | true => rw [hb] at h1; simp [bnd, pur, bad, ofO, eVar, oVar, rVar, oN, oE, gC, gR, gets, mGets, mPrim, mBin, mUn, mB, asB, asI, mNot, mAnd, mOr, mIf, sIf, mOrV, mAndV, sSkip, sSeq, sRet, sSet, setS, tgTup, tgNil, tgCons, sExpr, mvVar, aVar, aE, lendL, mCall, back, tupD, lstD, mPart, mSlice, mMut, sPar, tAll, mRng1, mRng2, mRgD, mSrc, items, lockOf, locks, mWalk, sFor, mComp, cold, wipeA, rest, outs, protOf, free, pLen, pList, pTuple, pSl, pAbs, LN, h1]
  | false => rw [hb] at h1; simp [bnd, pur, bad, ofO, eVar, oVar, rVar, oN, oE, gC, gR, gets, mGets, mPrim, mBin, mUn, mB, asB, asI, mNot, mAnd, mOr, mIf, sIf, mOrV, mAndV, sSkip, sSeq, sRet, sSet, setS, tgTup, tgNil, tgCons, sExpr, mvVar, aVar, aE, lendL, mCall, back, tupD, lstD, mPart, mSlice, mMut, sPar, tAll, mRng1, mRng2, mRgD, mSrc, items, lockOf, locks, mWalk, sFor, mComp, cold, wipeA, rest, outs, protOf, free, pLen, pList, pTuple, pSl, pAbs, LN, h1, h2]
theorem arealike_ok (B : List (List Int)) (a b : List Int) (hl : a.length ≤ 1000) (hl2 : b.length ≤ 1000) : Φ_are_alike [tB B, tI a, tI b] = .ok (.bl (decide (kindI B a = kindI B b))) [some (tB B), some (tI a), some (tI b)] := by
  have h1 := mark_ok B a hl
  have h2 := mark_ok B b hl2
  have h3 := pEq_tints (kindI B a) (kindI B b)
  unfold Φ_are_alike runF M_are_alike
  simp [bnd, pur, bad, ofO, eVar, oVar, rVar, oN, oE, gC, gR, gets, mGets, mPrim, mBin, mUn, mB, asB, asI, mNot, mAnd, mOr, mIf, sIf, mOrV, mAndV, sSkip, sSeq, sRet, sSet, setS, tgTup, tgNil, tgCons, sExpr, mvVar, aVar, aE, lendL, mCall, back, tupD, lstD, mPart, mSlice, mMut, sPar, tAll, mRng1, mRng2, mRgD, mSrc, items, lockOf, locks, mWalk, sFor, mComp, cold, wipeA, rest, outs, protOf, free, pLen, pList, pTuple, pSl, pAbs, LN, h1, h2, h3]
theorem common_ok (B : List (List Int)) (a b : List Int) (hl : a.length ≤ 1000) (hl2 : b.length ≤ 1000) : Φ_common_below [tB B, tI a, tI b] = .ok (tI (commonI (kindI B a) (kindI B b))) [some (tB B), some (tI a), some (tI b)] := by
  have k1 := mark_ok B a hl
  have k2 := mark_ok B b hl2
  obtain ⟨ρ', h1, x, y, rfl⟩ := compL_A (c := ⟨[0, 1, 2], []⟩) (vs := [3, 4]) (t := tgTup 2 (tgCons (setS 3) (tgCons (setS 4) tgNil))) (te := B1_common_below) (ps := (kindI B a).zip (kindI B b)) (h := fun (p : Int × Int) => .tup [.int p.1, .int p.2]) (g := fun (p : Int × Int) => .int (if p.1 = p.2 then p.1 else 0))
    (J := fun ρ => ∃ x y, ρ = [some (tB B), some (tI a), some (tI b), x, y]) (ρ := [some (tB B), some (tI a), some (tI b), none, none]) ⟨none, none, rfl⟩ fun p ρ hp ⟨x, y, hρ⟩ => by
      subst hρ
      refine ⟨[some (tB B), some (tI a), some (tI b), some (.int p.1), some (.int p.2)], [some (tB B), some (tI a), some (tI b), some (.int p.1), some (.int p.2)], by simp [bnd, pur, bad, ofO, eVar, oVar, rVar, oN, oE, gC, gR, gets, mGets, mPrim, mBin, mUn, mB, asB, asI, mNot, mAnd, mOr, mIf, sIf, mOrV, mAndV, sSkip, sSeq, sRet, sSet, setS, tgTup, tgNil, tgCons, sExpr, mvVar, aVar, aE, lendL, mCall, back, tupD, lstD, mPart, mSlice, mMut, sPar, tAll, mRng1, mRng2, mRgD, mSrc, items, lockOf, locks, mWalk, sFor, mComp, cold, wipeA, rest, outs, protOf, free, pLen, pList, pTuple, pSl, pAbs, LN], ?_, _, _, rfl⟩
      unfold B1_common_below
      by_cases hh : p.1 = p.2
      · simp [bnd, pur, bad, ofO, eVar, oVar, rVar, oN, oE, gC, gR, gets, mGets, mPrim, mBin, mUn, mB, asB, asI, mNot, mAnd, mOr, mIf, sIf, mOrV, mAndV, sSkip, sSeq, sRet, sSet, setS, tgTup, tgNil, tgCons, sExpr, mvVar, aVar, aE, lendL, mCall, back, tupD, lstD, mPart, mSlice, mMut, sPar, tAll, mRng1, mRng2, mRgD, mSrc, items, lockOf, locks, mWalk, sFor, mComp, cold, wipeA, rest, outs, protOf, free, pLen, pList, pTuple, pSl, pAbs, LN, hh]
      · simp [bnd, pur, bad, ofO, eVar, oVar, rVar, oN, oE, gC, gR, gets, mGets, mPrim, mBin, mUn, mB, asB, asI, mNot, mAnd, mOr, mIf, sIf, mOrV, mAndV, sSkip, sSeq, sRet, sSet, setS, tgTup, tgNil, tgCons, sExpr, mvVar, aVar, aE, lendL, mCall, back, tupD, lstD, mPart, mSlice, mMut, sPar, tAll, mRng1, mRng2, mRgD, mSrc, items, lockOf, locks, mWalk, sFor, mComp, cold, wipeA, rest, outs, protOf, free, pLen, pList, pTuple, pSl, pAbs, LN, hh]
  have hz : min (kindI B a).length (kindI B b).length ≤ 16777216 := by have := kindI_len B a; omega
  unfold Φ_common_below runF M_common_below
  simp [bnd, pur, bad, ofO, eVar, oVar, rVar, oN, oE, gC, gR, gets, mGets, mPrim, mBin, mUn, mB, asB, asI, mNot, mAnd, mOr, mIf, sIf, mOrV, mAndV, sSkip, sSeq, sRet, sSet, setS, tgTup, tgNil, tgCons, sExpr, mvVar, aVar, aE, lendL, mCall, back, tupD, lstD, mPart, mSlice, mMut, sPar, tAll, mRng1, mRng2, mRgD, mSrc, items, lockOf, locks, mWalk, sFor, mComp, cold, wipeA, rest, outs, protOf, free, pLen, pList, pTuple, pSl, pAbs, LN, k1, k2, zA2_t, zip2_map, h1, hz, commonI]
end Y

end
section
set_option Elab.async false
set_option linter.all false
set_option maxRecDepth 100000
set_option maxHeartbeats 4000000
set_option autoImplicit false
/-! P10: the mathematics of k18. -/
namespace Y
open PySem L2
abbrev Pos1 (l : List Int) : Prop := ∀ x ∈ l, 1 ≤ x
theorem kindI_cons (l : List Int) (B : List (List Int)) (x : Int) (a : List Int) : kindI (l :: B) (x :: a) = (if x ∈ l then 0 else x) :: kindI B a := rfl
theorem kindI_nn {B : List (List Int)} {a : List Int} (h : Pos1 a) : ∀ x ∈ kindI B a, 0 ≤ x := by
  intro x hx
  unfold kindI at hx
  obtain ⟨p, hp, rfl⟩ := List.mem_map.mp hx
  have := h p.2 (List.of_mem_zip hp).2
  split <;> omega
theorem kindI_len2 {B : List (List Int)} {a : List Int} (h : B.length = a.length) : (kindI B a).length = a.length := by
  unfold kindI; rw [List.length_map, List.length_zip]; omega
theorem rank_same {m : List Int} (h : ∀ x ∈ m, 0 ≤ x) : (m.filter fun x => !decide (x = 0)) = m.filter fun x => decide (0 < x) := by
  refine List.filter_congr fun x hx => ?_
  have := h x hx
  by_cases z : x = 0
  · subst z; rfl
  · have : 0 < x := by omega
    simp [z, this]
theorem under_cons (x y : Int) (m n : List Int) : underI (x :: m) (y :: n) = (decide (x ∈ [0, y]) && underI m n) := rfl
theorem below_cons (l : List Int) (B : List (List Int)) (x y : Int) (a b : List Int) : belowI (l :: B) (x :: a) (y :: b) = ((decide (x = y) || decide (x ∈ l)) && belowI B a b) := by
  unfold belowI
  simp only [List.zip_cons_cons, List.filter_cons]
  by_cases h1 : x = y <;> by_cases h2 : x ∈ l <;> simp [h1, h2]
theorem below_same : ∀ (B : List (List Int)) (a b : List Int), B.length = a.length → a.length = b.length → Pos1 a → Pos1 b → isB B a b = belowI B a b
  | [], [], [], _, _, _, _ => rfl
  | l :: B, x :: a, y :: b, h1, h2, ha, hb => by
    have ih := below_same B a b (by simpa using h1) (by simpa using h2) (fun z hz => ha z (List.mem_cons_of_mem _ hz)) (fun z hz => hb z (List.mem_cons_of_mem _ hz))
    have hx := ha x List.mem_cons_self
    have hy := hb y List.mem_cons_self
    unfold isB at ih ⊢
    rw [kindI_cons, kindI_cons, under_cons, below_cons, ih]
    congr 1
    by_cases h1 : x ∈ l
    · simp [h1]
    · by_cases h3 : x = y
      · subst h3; simp [h1]
      · by_cases h4 : y ∈ l
        · have : ¬ x = 0 := by omega
          simp [h1, h3, h4, this]
        · have : ¬ x = 0 := by omega
          simp [h1, h3, h4, this]
  | [], [], _ :: _, _, h, _, _ => by simp at h
  | [], _ :: _, _, h, _, _, _ => by simp at h
  | _ :: _, [], _, h, _, _, _ => by simp at h
  | _ :: _, _ :: _, [], _, h, _, _ => by simp at h
theorem under_trans : ∀ (m n p : List Int), m.length = n.length → n.length = p.length → underI m n = true → underI n p = true → underI m p = true
  | [], _, _, _, _, _, _ => rfl
  | x :: m, y :: n, z :: p, h1, h2, h3, h4 => by
    rw [under_cons, Bool.and_eq_true, decide_eq_true_eq] at h3 h4
    rw [under_cons, Bool.and_eq_true, decide_eq_true_eq]
    refine ⟨?_, under_trans m n p (by simpa using h1) (by simpa using h2) h3.2 h4.2⟩
    have a := h3.1
    have b := h4.1
    simp only [List.mem_cons, List.not_mem_nil, or_false] at a b ⊢
    omega
  | _ :: _, [], _, h, _, _, _ => by simp at h
  | _ :: _, _ :: _, [], _, h, _, _ => by simp at h
theorem under_common : ∀ (l m n : List Int), l.length = m.length → m.length = n.length → (underI l m && underI l n) = underI l (commonI m n)
  | [], _, _, _, _ => by simp [underI]
  | x :: l, y :: m, z :: n, h1, h2 => by
    have ih := under_common l m n (by simpa using h1) (by simpa using h2)
    have e : commonI (y :: m) (z :: n) = (if y = z then y else 0) :: commonI m n := rfl
    rw [e, under_cons, under_cons, under_cons, ← ih]
    by_cases h : y = z
    · subst h
      rw [if_pos rfl]
      cases decide (x ∈ [0, y]) <;> cases underI l m <;> cases underI l n <;> rfl
    · rw [if_neg h]
      have : (decide (x ∈ [0, y]) && decide (x ∈ [0, z])) = decide (x ∈ [0, 0]) := by
        rw [Bool.eq_iff_iff]
        simp only [Bool.and_eq_true, decide_eq_true_eq, List.mem_cons, List.not_mem_nil, or_false]
        omega
      rw [← this]
      cases decide (x ∈ [0, y]) <;> cases decide (x ∈ [0, z]) <;> cases underI l m <;> cases underI l n <;> rfl
  | _ :: _, [], _, h, _ => by simp at h
  | _ :: _, _ :: _, [], _, h => by simp at h
theorem isB_trans {B : List (List Int)} {a b d : List Int} (h1 : B.length = a.length) (h2 : B.length = b.length) (h3 : B.length = d.length) (h4 : isB B a b = true) (h5 : isB B b d = true) : isB B a d = true :=
  under_trans _ _ _ (by rw [kindI_len2 h1, kindI_len2 h2]; omega) (by rw [kindI_len2 h2, kindI_len2 h3]; omega) h4 h5
theorem okAs_ints (ns : List Int) : okA.okAs (ns.map D.int) = true := by
  induction ns with
  | nil => rfl
  | cons n ns ih => show (okA (.int n) && okA.okAs (ns.map D.int)) = true; rw [ih]; rfl
theorem szs_ints (ns : List Int) : sz.szs (ns.map D.int) = ns.length := by
  induction ns with
  | nil => rfl
  | cons n ns ih => simp only [List.map_cons, sz.szs, ih, List.length_cons, sz]; omega
theorem alike_tI (m : List Int) (hl : m.length ≤ 1000) : Φ__law_alike [tI m, tI m] = .ok (.bl true) [some (tI m), some (tI m)] :=
  alike_same (a := tI m) (b := tI m) rfl (okAs_ints m) (by show 1 + sz.szs (m.map D.int) ≤ _; rw [szs_ints]; omega)
theorem alike_mr (m : List Int) (r : Int) (hl : m.length ≤ 1000) : Φ__law_alike [.lst true [tI m, .int r], .lst true [tI m, .int r]] = .ok (.bl true) [some (.lst false [tI m, .int r]), some (.lst false [tI m, .int r])] :=
  alike_same (a := .lst true [tI m, .int r]) (b := .lst true [tI m, .int r]) rfl (by show (okA.okAs (m.map D.int) && true) = true; rw [okAs_ints]; rfl) (by show 1 + (1 + sz.szs (m.map D.int) + (1 + 0)) ≤ _; rw [szs_ints]; omega)
theorem alike_bb (x y z : Bool) : Φ__law_alike [.lst true [.bl x, .bl y, .bl z], .lst true [.bl x, .bl y, .bl z]] = .ok (.bl true) [some (.lst false [.bl x, .bl y, .bl z]), some (.lst false [.bl x, .bl y, .bl z])] :=
  alike_same (a := .lst true [.bl x, .bl y, .bl z]) (b := .lst true [.bl x, .bl y, .bl z]) rfl rfl (by simp [sz, sz.szs])
end Y

end
section
set_option Elab.async false
set_option linter.all false
set_option maxRecDepth 100000
set_option maxHeartbeats 8000000
set_option autoImplicit false
/-! P11: the law k18, inner loops. -/
namespace Y
open PySem L2
variable {c : Ctx}
@[simp] theorem pIx_l3_0 (o : Bool) (a b c : D) : pIx [.lst o [a, b, c], .int 0] = some a := rfl
theorem zip_self (R : List (List Int)) (f g : List Int → D) : zip2D (R.map f) (R.map g) = R.map fun r => .tup [f r, g r] := by
  rw [zip2_map]
  induction R with
  | nil => rfl
  | cons x R ih => simp only [List.zip_cons_cons, List.map_cons]; rw [ih]
theorem forL_R {t : D → M Unit} {b : M Fl} {J : Env → Prop} {R : List (List Int)} {h : List Int → D} {ρ : Env} (hj : J ρ) (st : ∀ r ρ, r ∈ R → J ρ → ∃ ρ1 ρ2, t (h r) c ρ = .ok () ρ1 ∧ b c ρ1 = .ok .nx ρ2 ∧ J ρ2) :
    ∃ ρ', forL t b (R.map h) c ρ = .ok .nx ρ' ∧ J ρ' := by
  obtain ⟨ρ', h1, h2⟩ := forL_inv (c := c) (t := t) (b := b) (J := fun _ ρ => J ρ) (ds := R.map h) (i := 0) hj fun j d ρ hd hj => by
    rw [List.getElem?_map] at hd
    obtain ⟨r, hr, rfl⟩ := Option.map_eq_some_iff.mp hd
    exact st r ρ (List.mem_of_getElem? hr) hj
  exact ⟨ρ', h1, h2⟩
/-- a row of the base -/
structure Row (B : List (List Int)) (r : List Int) : Prop where
  len : B.length = r.length
  pos : Pos1 r
  few : r.length ≤ 100
theorem turn8 {B : List (List Int)} {one other third : List Int} (h1 : Row B one) (h2 : Row B other) (h3 : Row B third) (s0 b t mk S a M k r cu j tw : Option D) (o e1 e2 : Bool) :
    B8_law c [s0, b, t, mk, some (tB B), S, a, M, some (tI one), some (tI (kindI B one)), some (tI other), some (tI (kindI B other)), some (.lst o [.bl (belowI B one other), .bl e1, .bl e2]), some (tI (commonI (kindI B one) (kindI B other))), some (tI third), some (tI (kindI B third)), k, r, cu, j, tw] =
      .ok .nx [s0, b, t, mk, some (tB B), S, a, M, some (tI one), some (tI (kindI B one)), some (tI other), some (tI (kindI B other)), some (.lst o [.bl (belowI B one other), .bl e1, .bl e2]), some (tI (commonI (kindI B one) (kindI B other))), some (tI third), some (tI (kindI B third)), k, r, cu, j, tw] := by
  have l1 := h1.few
  have l2 := h2.few
  have l3 := h3.few
  have q1 := kindI_len2 h1.len
  have q2 := kindI_len2 h2.len
  have q3 := kindI_len2 h3.len
  have n1 := h1.len
  have n2 := h2.len
  have n3 := h3.len
  have b1 := isbelow_ok B other third (by omega) (by omega)
  have b2 := isbelow_ok B one third (by omega) (by omega)
  have u1 := lunder_ok (kindI B third) (kindI B one) (by omega)
  have u2 := lunder_ok (kindI B third) (kindI B other) (by omega)
  have u3 := lunder_ok (kindI B third) (commonI (kindI B one) (kindI B other)) (by omega)
  have uc := under_common (kindI B third) (kindI B one) (kindI B other) (by omega) (by omega)
  rw [← uc] at u3
  have same := below_same B one other n1 (by omega) h1.pos h2.pos
  have tr : belowI B one other = true → isB B other third = true → isB B one third = true := fun x y => isB_trans n1 n2 n3 (by rw [same]; exact x) y
  unfold B8_law
  generalize underI (kindI B third) (kindI B one) = U1 at u1 u3
  generalize underI (kindI B third) (kindI B other) = U2 at u2 u3
  generalize belowI B one other = X1 at tr
  generalize isB B other third = X2 at b1 tr
  generalize isB B one third = X3 at b2 tr
  cases X1 <;> cases X2 <;> cases X3 <;> cases U1 <;> cases U2 <;> first
    | (exact absurd (tr rfl rfl) (by decide))
    | (simp at u3; simp [bnd, pur, bad, ofO, eVar, oVar, rVar, oN, oE, gC, gR, gets, mGets, mPrim, mBin, mUn, mB, asB, asI, mNot, mAnd, mOr, mIf, sIf, mOrV, mAndV, sSkip, sSeq, sRet, sSet, setS, tgTup, tgNil, tgCons, sExpr, mvVar, aVar, aE, lendL, mCall, back, tupD, lstD, mPart, mSlice, mMut, sPar, tAll, mRng1, mRng2, mRgD, mSrc, items, lockOf, locks, mWalk, sFor, mComp, cold, wipeA, rest, outs, protOf, free, pLen, pList, pTuple, pSl, pAbs, LN, b1, b2, u1, u2, u3])
end Y

end
section
set_option Elab.async false
set_option linter.all false
set_option maxRecDepth 100000
set_option maxHeartbeats 8000000
set_option autoImplicit false
/-! P12: the law k18, the loop over others. -/
namespace Y
open PySem L2
@[simp] theorem frzL_gt {π : Type} (f : π → List D) (ps : List π) : frz.frzL (ps.map fun p => D.tup (f p)) = ps.map fun p => D.tup (f p) := by
  induction ps with
  | nil => rfl
  | cons x l ih => show frz (D.tup (f x)) :: frz.frzL (l.map fun p => D.tup (f p)) = _; rw [ih]; rfl
@[simp] theorem pc21a : protC 21 [18, 20] = [0, 1, 2, 3, 4, 5, 6, 7, 8, 9, 10, 11, 12, 13, 14, 15, 16, 17, 19] := rfl
@[simp] theorem pc21b : protC 21 [18] = [0, 1, 2, 3, 4, 5, 6, 7, 8, 9, 10, 11, 12, 13, 14, 15, 16, 17, 19, 20] := rfl
@[simp] theorem pc21c : protC 21 [19, 18] = [0, 1, 2, 3, 4, 5, 6, 7, 8, 9, 10, 11, 12, 13, 14, 15, 16, 17, 20] := rfl
@[simp] theorem pc21d : protC 21 [16] = [0, 1, 2, 3, 4, 5, 6, 7, 8, 9, 10, 11, 12, 13, 14, 15, 17, 18, 19, 20] := rfl
@[simp] theorem pc21e : protC 21 [17] = [0, 1, 2, 3, 4, 5, 6, 7, 8, 9, 10, 11, 12, 13, 14, 15, 16, 18, 19, 20] := rfl
abbrev Sd (R : List (List Int)) : Option D := some (.lst true (R.map tI))
abbrev Md (B R : List (List Int)) : Option D := some (.lst true (R.map fun r => tI (kindI B r)))
theorem zA2_l (o o' : Bool) (xs ys : List D) : zA2 [.lst o xs, .lst o' ys] = some (zip2D (frz.frzL xs) (frz.frzL ys)) := rfl
theorem frzL_kI (B R : List (List Int)) : frz.frzL (R.map fun r => tI (kindI B r)) = R.map fun r => tI (kindI B r) := frzL_gt (fun r => (kindI B r).map D.int) R
theorem loop8 {B R : List (List Int)} {one other : List Int} (hR : ∀ r ∈ R, Row B r) (h1 : Row B one) (h2 : Row B other) (s0 b t mk a x14 x15 : Option D) (o e1 e2 : Bool) :
    ∃ y14 y15, forL (tgTup 2 (tgCons (setS 14) (tgCons (setS 15) tgNil))) B8_law (R.map fun r => .tup [tI r, tI (kindI B r)]) ⟨[0], [5, 7, 5, 7, 5, 7]⟩
      [s0, b, t, mk, some (tB B), Sd R, a, Md B R, some (tI one), some (tI (kindI B one)), some (tI other), some (tI (kindI B other)), some (.lst o [.bl (belowI B one other), .bl e1, .bl e2]), some (tI (commonI (kindI B one) (kindI B other))), x14, x15, none, none, none, none, none] =
      .ok .nx [s0, b, t, mk, some (tB B), Sd R, a, Md B R, some (tI one), some (tI (kindI B one)), some (tI other), some (tI (kindI B other)), some (.lst o [.bl (belowI B one other), .bl e1, .bl e2]), some (tI (commonI (kindI B one) (kindI B other))), y14, y15, none, none, none, none, none] := by
  obtain ⟨ρ', e, y14, y15, rfl⟩ := forL_R (c := ⟨[0], [5, 7, 5, 7, 5, 7]⟩) (t := tgTup 2 (tgCons (setS 14) (tgCons (setS 15) tgNil))) (b := B8_law) (R := R) (h := fun r => .tup [tI r, tI (kindI B r)])
    (J := fun ρ => ∃ y14 y15, ρ = [s0, b, t, mk, some (tB B), Sd R, a, Md B R, some (tI one), some (tI (kindI B one)), some (tI other), some (tI (kindI B other)), some (.lst o [.bl (belowI B one other), .bl e1, .bl e2]), some (tI (commonI (kindI B one) (kindI B other))), y14, y15, none, none, none, none, none])
    (ρ := [s0, b, t, mk, some (tB B), Sd R, a, Md B R, some (tI one), some (tI (kindI B one)), some (tI other), some (tI (kindI B other)), some (.lst o [.bl (belowI B one other), .bl e1, .bl e2]), some (tI (commonI (kindI B one) (kindI B other))), x14, x15, none, none, none, none, none]) ⟨x14, x15, rfl⟩ fun r ρ hr ⟨y14, y15, hρ⟩ => by
      subst hρ
      exact ⟨_, _, by simp [bnd, pur, bad, ofO, eVar, oVar, rVar, oN, oE, gC, gR, gets, mGets, mPrim, mBin, mUn, mB, asB, asI, mNot, mAnd, mOr, mIf, sIf, mOrV, mAndV, sSkip, sSeq, sRet, sSet, setS, tgTup, tgNil, tgCons, sExpr, mvVar, aVar, aE, lendL, mCall, back, tupD, lstD, mPart, mSlice, mMut, sPar, tAll, mRng1, mRng2, mRgD, mSrc, items, lockOf, locks, mWalk, sFor, mComp, cold, wipeA, rest, outs, protOf, free, pLen, pList, pTuple, pSl, pAbs, LN], turn8 h1 h2 (hR r hr) s0 b t mk (Sd R) a (Md B R) none none none none none o e1 e2, _, _, rfl⟩
  exact ⟨y14, y15, e⟩
theorem comp7 {B : List (List Int)} (m n : List Int) (s0 b t mk S a M one other d12 d13 d14 d15 : Option D) (L : List Nat) (hL : 18 ∉ L ∧ 20 ∉ L) :
    ∃ x y, compL [18, 20] (tgTup 2 (tgCons (setS 18) (tgCons (setS 20) tgNil))) (pur true) B7_law ((m.zip n).map fun (p : Int × Int) => .tup [.int p.1, .int p.2]) ⟨[0, 1, 2, 3, 4, 5, 6, 7, 8, 9, 10, 11, 12, 13, 14, 15, 16, 17, 19], L⟩
      [s0, b, t, mk, some (tB B), S, a, M, one, some (tI m), other, some (tI n), d12, d13, d14, d15, none, none, none, none, none] = .ok ((commonI m n).map D.int) [s0, b, t, mk, some (tB B), S, a, M, one, some (tI m), other, some (tI n), d12, d13, d14, d15, none, none, x, none, y] := by
  obtain ⟨ρ', h1, x, y, rfl⟩ := compL_A (c := ⟨[0, 1, 2, 3, 4, 5, 6, 7, 8, 9, 10, 11, 12, 13, 14, 15, 16, 17, 19], L⟩) (vs := [18, 20]) (t := tgTup 2 (tgCons (setS 18) (tgCons (setS 20) tgNil))) (te := B7_law) (ps := m.zip n) (h := fun (p : Int × Int) => .tup [.int p.1, .int p.2]) (g := fun (p : Int × Int) => .int (if p.1 = p.2 then p.1 else 0))
    (J := fun ρ => ∃ x y, ρ = [s0, b, t, mk, some (tB B), S, a, M, one, some (tI m), other, some (tI n), d12, d13, d14, d15, none, none, x, none, y]) (ρ := [s0, b, t, mk, some (tB B), S, a, M, one, some (tI m), other, some (tI n), d12, d13, d14, d15, none, none, none, none, none]) ⟨none, none, rfl⟩ fun p ρ hp ⟨x, y, hρ⟩ => by
      subst hρ
      refine ⟨[s0, b, t, mk, some (tB B), S, a, M, one, some (tI m), other, some (tI n), d12, d13, d14, d15, none, none, some (.int p.1), none, some (.int p.2)], [s0, b, t, mk, some (tB B), S, a, M, one, some (tI m), other, some (tI n), d12, d13, d14, d15, none, none, some (.int p.1), none, some (.int p.2)], by simp [bnd, pur, bad, ofO, eVar, oVar, rVar, oN, oE, gC, gR, gets, mGets, mPrim, mBin, mUn, mB, asB, asI, mNot, mAnd, mOr, mIf, sIf, mOrV, mAndV, sSkip, sSeq, sRet, sSet, setS, tgTup, tgNil, tgCons, sExpr, mvVar, aVar, aE, lendL, mCall, back, tupD, lstD, mPart, mSlice, mMut, sPar, tAll, mRng1, mRng2, mRgD, mSrc, items, lockOf, locks, mWalk, sFor, mComp, cold, wipeA, rest, outs, protOf, free, pLen, pList, pTuple, pSl, pAbs, LN, hL], ?_, _, _, rfl⟩
      unfold B7_law
      by_cases hh : p.1 = p.2
      · simp [bnd, pur, bad, ofO, eVar, oVar, rVar, oN, oE, gC, gR, gets, mGets, mPrim, mBin, mUn, mB, asB, asI, mNot, mAnd, mOr, mIf, sIf, mOrV, mAndV, sSkip, sSeq, sRet, sSet, setS, tgTup, tgNil, tgCons, sExpr, mvVar, aVar, aE, lendL, mCall, back, tupD, lstD, mPart, mSlice, mMut, sPar, tAll, mRng1, mRng2, mRgD, mSrc, items, lockOf, locks, mWalk, sFor, mComp, cold, wipeA, rest, outs, protOf, free, pLen, pList, pTuple, pSl, pAbs, LN, hh]
      · simp [bnd, pur, bad, ofO, eVar, oVar, rVar, oN, oE, gC, gR, gets, mGets, mPrim, mBin, mUn, mB, asB, asI, mNot, mAnd, mOr, mIf, sIf, mOrV, mAndV, sSkip, sSeq, sRet, sSet, setS, tgTup, tgNil, tgCons, sExpr, mvVar, aVar, aE, lendL, mCall, back, tupD, lstD, mPart, mSlice, mMut, sPar, tAll, mRng1, mRng2, mRgD, mSrc, items, lockOf, locks, mWalk, sFor, mComp, cold, wipeA, rest, outs, protOf, free, pLen, pList, pTuple, pSl, pAbs, LN, hh]
  refine ⟨x, y, ?_⟩
  have e : (commonI m n).map D.int = (m.zip n).map fun (p : Int × Int) => .int (if p.1 = p.2 then p.1 else 0) := by unfold commonI; rw [List.map_map]; rfl
  rw [e]; exact h1
theorem zzR (B : List (List Int)) (R : List (List Int)) : List.map (fun (p : List Int × List Int) => D.tup [D.tup (List.map D.int p.fst), D.tup (List.map D.int (kindI B p.snd))]) (R.zip R) = R.map fun r => .tup [tI r, tI (kindI B r)] := by
  induction R with
  | nil => rfl
  | cons x l ih => rw [List.zip_cons_cons, List.map_cons, ih]; rfl
theorem turn9 {B R : List (List Int)} {one other : List Int} (hR : ∀ r ∈ R, Row B r) (h1 : Row B one) (h2 : Row B other) (s0 b t mk a x12 x13 x14 x15 : Option D) :
    ∃ y12 y13 y14 y15, B9_law ⟨[0], [5, 7, 5, 7]⟩ [s0, b, t, mk, some (tB B), Sd R, a, Md B R, some (tI one), some (tI (kindI B one)), some (tI other), some (tI (kindI B other)), x12, x13, x14, x15, none, none, none, none, none] =
      .ok .nx [s0, b, t, mk, some (tB B), Sd R, a, Md B R, some (tI one), some (tI (kindI B one)), some (tI other), some (tI (kindI B other)), y12, y13, y14, y15, none, none, none, none, none] := by
  have l1 := h1.few
  have l2 := h2.few
  have q1 := kindI_len2 h1.len
  have q2 := kindI_len2 h2.len
  have n1 := h1.len
  have n2 := h2.len
  have c1 := below_ok B one other (by omega)
  have c2 := pEq_tints (kindI B one) (kindI B other)
  have c3 := lcomp_ok B one other (by omega) (by omega)
  have c4 := isbelow_ok B one other (by omega) (by omega)
  have c5 := arealike_ok B one other (by omega) (by omega)
  have c6 := arecomp_ok B one other (by omega) (by omega)
  have same := below_same B one other n1 (by omega) h1.pos h2.pos
  have same2 := below_same B other one n2 (by omega) h2.pos h1.pos
  rw [same] at c4
  rw [same, same2] at c6
  have c7 := alike_bb (belowI B one other) (decide (kindI B one = kindI B other)) (belowI B one other || belowI B other one)
  have c8 := lunder_ok (kindI B one) (kindI B other) (by omega)
  have c8' : underI (kindI B one) (kindI B other) = belowI B one other := same
  rw [c8'] at c8
  have c9 := common_ok B one other (by omega) (by omega)
  have hcl : (commonI (kindI B one) (kindI B other)).length ≤ 100 := by unfold commonI; rw [List.length_map, List.length_zip]; omega
  have c10 := alike_tI (commonI (kindI B one) (kindI B other)) (by omega)
  obtain ⟨y14, y15, c12⟩ := loop8 hR h1 h2 s0 b t mk a x14 x15 false (decide (kindI B one = kindI B other)) (belowI B one other || belowI B other one)
  obtain ⟨cx, cy, c11⟩ := comp7 (B := B) (kindI B one) (kindI B other) s0 b t mk (Sd R) a (Md B R) (some (tI one)) (some (tI other)) (some (.lst false [.bl (belowI B one other), .bl (decide (kindI B one = kindI B other)), .bl (belowI B one other || belowI B other one)])) x13 x14 x15 [9, 11, 5, 7, 5, 7] (by decide)
  have hz : (commonI (kindI B one) (kindI B other)).length ≤ 16777216 := by omega
  refine ⟨some (.lst false [.bl (belowI B one other), .bl (decide (kindI B one = kindI B other)), .bl (belowI B one other || belowI B other one)]), some (tI (commonI (kindI B one) (kindI B other))), y14, y15, ?_⟩
  have zs := zip_self R tI (fun r => tI (kindI B r))
  unfold B9_law
  generalize decide (kindI B one = kindI B other) = E at *
  generalize (belowI B one other || belowI B other one) = C at *
  simp [bnd, pur, bad, ofO, eVar, oVar, rVar, oN, oE, gC, gR, gets, mGets, mPrim, mBin, mUn, mB, asB, asI, mNot, mAnd, mOr, mIf, sIf, mOrV, mAndV, sSkip, sSeq, sRet, sSet, setS, tgTup, tgNil, tgCons, sExpr, mvVar, aVar, aE, lendL, mCall, back, tupD, lstD, mPart, mSlice, mMut, sPar, tAll, mRng1, mRng2, mRgD, mSrc, items, lockOf, locks, mWalk, sFor, mComp, cold, wipeA, rest, outs, protOf, free, pLen, pList, pTuple, pSl, pAbs, LN, c1, c2, c3, c4, c5, c6, c7, c8, c9, c10, zA2_t, zA2_l, zip2_map, c11, hz, frzL_tups, frzL_kI] at c12 ⊢
  rw [zzR]
  first | exact c12 | trace_state
end Y

end
section
set_option Elab.async false
set_option linter.all false
set_option maxRecDepth 100000
set_option maxHeartbeats 8000000
set_option autoImplicit false
/-! P13: the law k18, the outer loop over rows. -/
namespace Y
open PySem L2
theorem loop9 {B R : List (List Int)} {one : List Int} (hR : ∀ r ∈ R, Row B r) (h1 : Row B one) (s0 b t mk a x10 x11 x12 x13 x14 x15 : Option D) :
    ∃ y10 y11 y12 y13 y14 y15, forL (tgTup 2 (tgCons (setS 10) (tgCons (setS 11) tgNil))) B9_law (R.map fun r => .tup [tI r, tI (kindI B r)]) ⟨[0], [5, 7, 5, 7]⟩
      [s0, b, t, mk, some (tB B), Sd R, a, Md B R, some (tI one), some (tI (kindI B one)), x10, x11, x12, x13, x14, x15, none, none, none, none, none] =
      .ok .nx [s0, b, t, mk, some (tB B), Sd R, a, Md B R, some (tI one), some (tI (kindI B one)), y10, y11, y12, y13, y14, y15, none, none, none, none, none] := by
  obtain ⟨ρ', e, y10, y11, y12, y13, y14, y15, rfl⟩ := forL_R (c := ⟨[0], [5, 7, 5, 7]⟩) (t := tgTup 2 (tgCons (setS 10) (tgCons (setS 11) tgNil))) (b := B9_law) (R := R) (h := fun r => .tup [tI r, tI (kindI B r)])
    (J := fun ρ => ∃ y10 y11 y12 y13 y14 y15, ρ = [s0, b, t, mk, some (tB B), Sd R, a, Md B R, some (tI one), some (tI (kindI B one)), y10, y11, y12, y13, y14, y15, none, none, none, none, none])
    (ρ := [s0, b, t, mk, some (tB B), Sd R, a, Md B R, some (tI one), some (tI (kindI B one)), x10, x11, x12, x13, x14, x15, none, none, none, none, none]) ⟨x10, x11, x12, x13, x14, x15, rfl⟩ fun r ρ hr ⟨y10, y11, y12, y13, y14, y15, hρ⟩ => by
      subst hρ
      obtain ⟨z12, z13, z14, z15, e⟩ := turn9 hR h1 (hR r hr) s0 b t mk a y12 y13 y14 y15
      exact ⟨_, _, by simp [bnd, pur, bad, ofO, eVar, oVar, rVar, oN, oE, gC, gR, gets, mGets, mPrim, mBin, mUn, mB, asB, asI, mNot, mAnd, mOr, mIf, sIf, mOrV, mAndV, sSkip, sSeq, sRet, sSet, setS, tgTup, tgNil, tgCons, sExpr, mvVar, aVar, aE, lendL, mCall, back, tupD, lstD, mPart, mSlice, mMut, sPar, tAll, mRng1, mRng2, mRgD, mSrc, items, lockOf, locks, mWalk, sFor, mComp, cold, wipeA, rest, outs, protOf, free, pLen, pList, pTuple, pSl, pAbs, LN], e, _, _, z12, z13, z14, z15, rfl⟩
  exact ⟨y10, y11, y12, y13, y14, y15, e⟩
theorem comp3 {B : List (List Int)} (m : List Int) (s0 b t mk S a M one d10 d11 d12 d13 d14 d15 : Option D) (L : List Nat) (hL : 18 ∉ L) :
    ∃ x, compL [18] (setS 18) B4_law B3_law (m.map D.int) ⟨[0, 1, 2, 3, 4, 5, 6, 7, 8, 9, 10, 11, 12, 13, 14, 15, 16, 17, 19, 20], L⟩
      [s0, b, t, mk, some (tB B), S, a, M, one, some (tI m), d10, d11, d12, d13, d14, d15, none, none, none, none, none] = .ok ((m.filter fun x => decide (0 < x)).map fun _ => D.int 1) [s0, b, t, mk, some (tB B), S, a, M, one, some (tI m), d10, d11, d12, d13, d14, d15, none, none, x, none, none] := by
  obtain ⟨ρ', h1, x, rfl⟩ := compL_P (c := ⟨[0, 1, 2, 3, 4, 5, 6, 7, 8, 9, 10, 11, 12, 13, 14, 15, 16, 17, 19, 20], L⟩) (vs := [18]) (t := setS 18) (tt := B4_law) (te := B3_law) (ps := m) (h := D.int) (g := fun _ => D.int 1) (q := fun x => decide (0 < x))
    (J := fun ρ => ∃ x, ρ = [s0, b, t, mk, some (tB B), S, a, M, one, some (tI m), d10, d11, d12, d13, d14, d15, none, none, x, none, none]) (ρ := [s0, b, t, mk, some (tB B), S, a, M, one, some (tI m), d10, d11, d12, d13, d14, d15, none, none, none, none, none]) ⟨none, rfl⟩ fun p ρ hp ⟨x, hρ⟩ => by
      subst hρ
      refine ⟨[s0, b, t, mk, some (tB B), S, a, M, one, some (tI m), d10, d11, d12, d13, d14, d15, none, none, some (.int p), none, none], [s0, b, t, mk, some (tB B), S, a, M, one, some (tI m), d10, d11, d12, d13, d14, d15, none, none, some (.int p), none, none], by simp [bnd, pur, bad, ofO, eVar, oVar, rVar, oN, oE, gC, gR, gets, mGets, mPrim, mBin, mUn, mB, asB, asI, mNot, mAnd, mOr, mIf, sIf, mOrV, mAndV, sSkip, sSeq, sRet, sSet, setS, tgTup, tgNil, tgCons, sExpr, mvVar, aVar, aE, lendL, mCall, back, tupD, lstD, mPart, mSlice, mMut, sPar, tAll, mRng1, mRng2, mRgD, mSrc, items, lockOf, locks, mWalk, sFor, mComp, cold, wipeA, rest, outs, protOf, free, pLen, pList, pTuple, pSl, pAbs, LN, hL], by unfold B4_law; simp [bnd, pur, bad, ofO, eVar, oVar, rVar, oN, oE, gC, gR, gets, mGets, mPrim, mBin, mUn, mB, asB, asI, mNot, mAnd, mOr, mIf, sIf, mOrV, mAndV, sSkip, sSeq, sRet, sSet, setS, tgTup, tgNil, tgCons, sExpr, mvVar, aVar, aE, lendL, mCall, back, tupD, lstD, mPart, mSlice, mMut, sPar, tAll, mRng1, mRng2, mRgD, mSrc, items, lockOf, locks, mWalk, sFor, mComp, cold, wipeA, rest, outs, protOf, free, pLen, pList, pTuple, pSl, pAbs, LN], fun _ => ⟨_, rfl⟩, fun _ => ⟨_, by unfold B3_law; rfl, _, rfl⟩⟩
  exact ⟨x, h1⟩
theorem comp5 {B : List (List Int)} (m : List Int) (s0 b t mk S a M one d10 d11 d12 d13 d14 d15 x18 : Option D) (L : List Nat) (hL : 18 ∉ L ∧ 19 ∉ L) :
    ∃ x y, compL [19, 18] (tgTup 2 (tgCons (setS 19) (tgCons (setS 18) tgNil))) B6_law B5_law (m.zipIdx.map fun (p : Int × Nat) => .tup [.int (p.2 : Nat), .int p.1]) ⟨[0, 1, 2, 3, 4, 5, 6, 7, 8, 9, 10, 11, 12, 13, 14, 15, 16, 17, 20], L⟩
      [s0, b, t, mk, some (tB B), S, a, M, one, some (tI m), d10, d11, d12, d13, d14, d15, none, none, none, none, none] = .ok ((meetI m).map D.int) [s0, b, t, mk, some (tB B), S, a, M, one, some (tI m), d10, d11, d12, d13, d14, d15, none, none, x, y, none] := by
  obtain ⟨ρ', h1, x, y, rfl⟩ := compL_P (c := ⟨[0, 1, 2, 3, 4, 5, 6, 7, 8, 9, 10, 11, 12, 13, 14, 15, 16, 17, 20], L⟩) (vs := [19, 18]) (t := tgTup 2 (tgCons (setS 19) (tgCons (setS 18) tgNil))) (tt := B6_law) (te := B5_law) (ps := m.zipIdx) (h := fun (p : Int × Nat) => .tup [.int (p.2 : Nat), .int p.1]) (g := fun (p : Int × Nat) => .int (p.2 : Nat)) (q := fun (p : Int × Nat) => decide (p.1 = 0))
    (J := fun ρ => ∃ x y, ρ = [s0, b, t, mk, some (tB B), S, a, M, one, some (tI m), d10, d11, d12, d13, d14, d15, none, none, x, y, none]) (ρ := [s0, b, t, mk, some (tB B), S, a, M, one, some (tI m), d10, d11, d12, d13, d14, d15, none, none, none, none, none]) ⟨none, none, rfl⟩ fun p ρ hp ⟨x, y, hρ⟩ => by
      subst hρ
      refine ⟨[s0, b, t, mk, some (tB B), S, a, M, one, some (tI m), d10, d11, d12, d13, d14, d15, none, none, some (.int p.1), some (.int (p.2 : Nat)), none], [s0, b, t, mk, some (tB B), S, a, M, one, some (tI m), d10, d11, d12, d13, d14, d15, none, none, some (.int p.1), some (.int (p.2 : Nat)), none], by simp [bnd, pur, bad, ofO, eVar, oVar, rVar, oN, oE, gC, gR, gets, mGets, mPrim, mBin, mUn, mB, asB, asI, mNot, mAnd, mOr, mIf, sIf, mOrV, mAndV, sSkip, sSeq, sRet, sSet, setS, tgTup, tgNil, tgCons, sExpr, mvVar, aVar, aE, lendL, mCall, back, tupD, lstD, mPart, mSlice, mMut, sPar, tAll, mRng1, mRng2, mRgD, mSrc, items, lockOf, locks, mWalk, sFor, mComp, cold, wipeA, rest, outs, protOf, free, pLen, pList, pTuple, pSl, pAbs, LN, hL], by unfold B6_law; simp [bnd, pur, bad, ofO, eVar, oVar, rVar, oN, oE, gC, gR, gets, mGets, mPrim, mBin, mUn, mB, asB, asI, mNot, mAnd, mOr, mIf, sIf, mOrV, mAndV, sSkip, sSeq, sRet, sSet, setS, tgTup, tgNil, tgCons, sExpr, mvVar, aVar, aE, lendL, mCall, back, tupD, lstD, mPart, mSlice, mMut, sPar, tAll, mRng1, mRng2, mRgD, mSrc, items, lockOf, locks, mWalk, sFor, mComp, cold, wipeA, rest, outs, protOf, free, pLen, pList, pTuple, pSl, pAbs, LN], fun _ => ⟨_, _, rfl⟩, fun _ => ⟨[s0, b, t, mk, some (tB B), S, a, M, one, some (tI m), d10, d11, d12, d13, d14, d15, none, none, some (.int p.1), some (.int (p.2 : Nat)), none], by unfold B5_law; simp [bnd, pur, bad, ofO, eVar, oVar, rVar, oN, oE, gC, gR, gets, mGets, mPrim, mBin, mUn, mB, asB, asI, mNot, mAnd, mOr, mIf, sIf, mOrV, mAndV, sSkip, sSeq, sRet, sSet, setS, tgTup, tgNil, tgCons, sExpr, mvVar, aVar, aE, lendL, mCall, back, tupD, lstD, mPart, mSlice, mMut, sPar, tAll, mRng1, mRng2, mRgD, mSrc, items, lockOf, locks, mWalk, sFor, mComp, cold, wipeA, rest, outs, protOf, free, pLen, pList, pTuple, pSl, pAbs, LN], _, _, rfl⟩⟩
  have e : (meetI m).map D.int = (m.zipIdx.filter fun (p : Int × Nat) => decide (p.1 = 0)).map fun (p : Int × Nat) => D.int (p.2 : Nat) := by unfold meetI; rw [List.map_map]; rfl
  rw [e]; exact ⟨x, y, h1⟩
theorem turn10 {B R : List (List Int)} {one : List Int} (hR : ∀ r ∈ R, Row B r) (h1 : Row B one) (s0 b t mk a x10 x11 x12 x13 x14 x15 : Option D) :
    ∃ y10 y11 y12 y13 y14 y15, B10_law ⟨[0], [5, 7]⟩ [s0, b, t, mk, some (tB B), Sd R, a, Md B R, some (tI one), some (tI (kindI B one)), x10, x11, x12, x13, x14, x15, none, none, none, none, none] =
      .ok .nx [s0, b, t, mk, some (tB B), Sd R, a, Md B R, some (tI one), some (tI (kindI B one)), y10, y11, y12, y13, y14, y15, none, none, none, none, none] := by
  have l1 := h1.few
  have q1 := kindI_len2 h1.len
  have c1 := mark_ok B one (by omega)
  have c2 := rankof_ok B one (by omega)
  rw [rank_same (kindI_nn h1.pos)] at c2
  have c3 := alike_mr (kindI B one) ((kindI B one).filter fun x => decide (0 < x)).length (by omega)
  have c4 := meets_ok B one (by omega)
  have hml : (meetI (kindI B one)).length ≤ 100 := by
    unfold meetI; rw [List.length_map]
    have := List.length_filter_le (fun (p : Int × Nat) => decide (p.1 = 0)) (kindI B one).zipIdx
    rw [List.length_zipIdx] at this; omega
  have c5 := alike_tI (meetI (kindI B one)) (by omega)
  obtain ⟨cx, c6⟩ := comp3 (B := B) (kindI B one) s0 b t mk (Sd R) a (Md B R) (some (tI one)) x10 x11 x12 x13 x14 x15 [9, 5, 7] (by decide)
  obtain ⟨dx, dy, c7⟩ := comp5 (B := B) (kindI B one) s0 b t mk (Sd R) a (Md B R) (some (tI one)) x10 x11 x12 x13 x14 x15 none [9, 5, 7] (by decide)
  obtain ⟨y10, y11, y12, y13, y14, y15, c8⟩ := loop9 hR h1 s0 b t mk a x10 x11 x12 x13 x14 x15
  have hz1 : ((kindI B one).filter fun x => decide (0 < x)).length ≤ 16777216 := by have := List.length_filter_le (fun x => decide (0 < x)) (kindI B one); omega
  have hz2 : (meetI (kindI B one)).length ≤ 16777216 := by omega
  refine ⟨y10, y11, y12, y13, y14, y15, ?_⟩
  unfold B10_law
  simp [bnd, pur, bad, ofO, eVar, oVar, rVar, oN, oE, gC, gR, gets, mGets, mPrim, mBin, mUn, mB, asB, asI, mNot, mAnd, mOr, mIf, sIf, mOrV, mAndV, sSkip, sSeq, sRet, sSet, setS, tgTup, tgNil, tgCons, sExpr, mvVar, aVar, aE, lendL, mCall, back, tupD, lstD, mPart, mSlice, mMut, sPar, tAll, mRng1, mRng2, mRgD, mSrc, items, lockOf, locks, mWalk, sFor, mComp, cold, wipeA, rest, outs, protOf, free, pLen, pList, pTuple, pSl, pAbs, LN, eA_t, enum_map, c1, c2, c3, c4, c5, c6, c7, hz1, hz2, zA2_l, zip2_map, frzL_tups, frzL_kI] at c8 ⊢
  rw [zzR]
  exact c8
theorem loop10 {B R : List (List Int)} (hR : ∀ r ∈ R, Row B r) (s0 b t mk a x8 x9 x10 x11 x12 x13 x14 x15 : Option D) :
    ∃ y8 y9 y10 y11 y12 y13 y14 y15, forL (tgTup 2 (tgCons (setS 8) (tgCons (setS 9) tgNil))) B10_law (R.map fun r => .tup [tI r, tI (kindI B r)]) ⟨[0], [5, 7]⟩
      [s0, b, t, mk, some (tB B), Sd R, a, Md B R, x8, x9, x10, x11, x12, x13, x14, x15, none, none, none, none, none] =
      .ok .nx [s0, b, t, mk, some (tB B), Sd R, a, Md B R, y8, y9, y10, y11, y12, y13, y14, y15, none, none, none, none, none] := by
  obtain ⟨ρ', e, y8, y9, y10, y11, y12, y13, y14, y15, rfl⟩ := forL_R (c := ⟨[0], [5, 7]⟩) (t := tgTup 2 (tgCons (setS 8) (tgCons (setS 9) tgNil))) (b := B10_law) (R := R) (h := fun r => .tup [tI r, tI (kindI B r)])
    (J := fun ρ => ∃ y8 y9 y10 y11 y12 y13 y14 y15, ρ = [s0, b, t, mk, some (tB B), Sd R, a, Md B R, y8, y9, y10, y11, y12, y13, y14, y15, none, none, none, none, none])
    (ρ := [s0, b, t, mk, some (tB B), Sd R, a, Md B R, x8, x9, x10, x11, x12, x13, x14, x15, none, none, none, none, none]) ⟨x8, x9, x10, x11, x12, x13, x14, x15, rfl⟩ fun r ρ hr ⟨y8, y9, y10, y11, y12, y13, y14, y15, hρ⟩ => by
      subst hρ
      obtain ⟨z10, z11, z12, z13, z14, z15, e⟩ := turn10 hR (hR r hr) s0 b t mk a y10 y11 y12 y13 y14 y15
      exact ⟨_, _, by simp [bnd, pur, bad, ofO, eVar, oVar, rVar, oN, oE, gC, gR, gets, mGets, mPrim, mBin, mUn, mB, asB, asI, mNot, mAnd, mOr, mIf, sIf, mOrV, mAndV, sSkip, sSeq, sRet, sSet, setS, tgTup, tgNil, tgCons, sExpr, mvVar, aVar, aE, lendL, mCall, back, tupD, lstD, mPart, mSlice, mMut, sPar, tAll, mRng1, mRng2, mRgD, mSrc, items, lockOf, locks, mWalk, sFor, mComp, cold, wipeA, rest, outs, protOf, free, pLen, pList, pTuple, pSl, pAbs, LN], e, _, _, z10, z11, z12, z13, z14, z15, rfl⟩
  exact ⟨y8, y9, y10, y11, y12, y13, y14, y15, e⟩
end Y

end
section
set_option Elab.async false
set_option linter.all false
set_option maxRecDepth 100000
set_option maxHeartbeats 8000000
set_option autoImplicit false
/-! P14: the law k18, one turn; the law. -/
namespace Y
open PySem L2
theorem cut_to (ns : List Int) (k : Nat) (h : k ≤ ns.length) : cutD (ns.map D.int) none (some (k : Int)) = (ns.take k).map D.int := by
  unfold cutD
  rw [HT.sIx_none, HT.sIx_nat, List.length_map, List.drop_zero, Nat.sub_zero, Nat.min_eq_left h, List.map_take]
theorem cut_from (ns : List Int) (k : Nat) (h : k ≤ ns.length) : cutD (ns.map D.int) (some (k : Int)) none = (ns.drop k).map D.int := by
  unfold cutD
  rw [HT.sIx_none, HT.sIx_nat, List.length_map, Nat.min_eq_left h, ← List.map_drop]
  exact List.take_of_length_le (by rw [List.length_map, List.length_drop]; omega)
theorem pAdd_tt (a b : List Int) (h : a.length + b.length ≤ 1000) : pAdd [.tup (a.map D.int), .tup (b.map D.int)] = some (.tup ((a ++ b).map D.int)) := by
  show (if (a.map D.int).length + (b.map D.int).length ≤ LN then some (D.tup (a.map D.int ++ b.map D.int)) else none) = _
  rw [List.length_map, List.length_map, if_pos (by show _ ≤ 16777216; omega), List.map_append]
theorem base_at (B : List (List Int)) (k : Nat) (h : k < B.length) : pIx [.tup (B.map tI), .int k] = some (tI B[k]) := by
  show (ixN (B.map tI).length (k : Int)).bind (fun j => (B.map tI)[j]?) = _
  unfold ixN
  rw [List.length_map, if_pos (by omega), if_pos (by omega)]
  show (B.map tI)[k]? = _
  rw [List.getElem?_map, List.getElem?_eq_getElem h]; rfl
theorem pAdd_l1 (a : List Int) (h : a.length ≤ 10) : pAdd [.lst true (a.map D.int), .lst true [.int 1]] = some (.lst true (a.map D.int ++ [.int 1])) := by
  show (if (a.map D.int).length + [D.int 1].length ≤ LN then some (D.lst true (a.map D.int ++ [D.int 1])) else none) = _
  rw [List.length_map, if_pos (by show _ + 1 ≤ 16777216; omega)]
theorem frzL_app1 (l : List Int) : frz.frzL (l.map D.int ++ [.int 1]) = l.map D.int ++ [.int 1] := by
  have := frzL_ints (l ++ [1])
  rwa [List.map_append] at this
theorem rows_of {Q : List Int → Prop} : ∀ {ys : List D}, (∀ y ∈ ys, ∃ v, y = tI v ∧ Q v) → ∃ R : List (List Int), ys = R.map tI ∧ ∀ r ∈ R, Q r
  | [], _ => ⟨[], rfl, fun n h => nomatch h⟩
  | y :: ys, h => by
    obtain ⟨v, rfl, hv⟩ := h y List.mem_cons_self
    obtain ⟨ns, rfl, hn⟩ := rows_of (ys := ys) fun z hz => h z (List.mem_cons_of_mem _ hz)
    exact ⟨v :: ns, rfl, fun n hn' => (List.mem_cons.mp hn').elim (fun e => e ▸ hv) (hn n)⟩
theorem comp1 {b x y : D} {ds : List Int} (hb : Bag b) (hl : ds.length ≤ 1000) (hd : ∀ d ∈ ds, 0 < d ∧ d ≤ 1000) (s0 t d4 d5 d6 d7 d8 d9 d10 d11 d12 d13 d14 d15 : Option D) :
    ∃ b' r0 r1 r2 o, compL [16] (setS 16) (pur true) B1_law (rngD 0 3) ⟨[0, 1, 2, 3, 4, 5, 6, 7, 8, 9, 10, 11, 12, 13, 14, 15, 17, 18, 19, 20], []⟩
      [s0, some b, t, some (.tup [tI ds, x, y]), d4, d5, d6, d7, d8, d9, d10, d11, d12, d13, d14, d15, none, none, none, none, none] = .ok [tI r0, tI r1, tI r2]
      [s0, some b', t, some (.tup [tI ds, x, y]), d4, d5, d6, d7, d8, d9, d10, d11, d12, d13, d14, d15, o, none, none, none, none] ∧ Bag b' ∧ ∀ r ∈ [r0, r1, r2], r.length = ds.length ∧ Pos1 r := by
  obtain ⟨ys, ρ', h1, h2, h3, b', o, hb', rfl⟩ := compL_ex (c := ⟨[0, 1, 2, 3, 4, 5, 6, 7, 8, 9, 10, 11, 12, 13, 14, 15, 17, 18, 19, 20], []⟩) (vs := [16]) (t := setS 16) (te := B1_law) (ds := rngD 0 3) (P := fun y => ∃ r, y = tI r ∧ (r.length = ds.length ∧ Pos1 r))
    (J := fun ρ => ∃ b o, Bag b ∧ ρ = [s0, some b, t, some (.tup [tI ds, x, y]), d4, d5, d6, d7, d8, d9, d10, d11, d12, d13, d14, d15, o, none, none, none, none]) (ρ := [s0, some b, t, some (.tup [tI ds, x, y]), d4, d5, d6, d7, d8, d9, d10, d11, d12, d13, d14, d15, none, none, none, none, none]) ⟨b, none, hb, rfl⟩ fun d ρ hd' ⟨b, o, hb, hρ⟩ => by
      obtain ⟨i, rfl, hi1, hi2⟩ := rng_mem hd'
      obtain ⟨b1, rs, e, hb1, ho1, hr, hp⟩ := cuts_ok (x := x) (y := y) hb hl hd
      subst hρ
      refine ⟨[s0, some b, t, some (.tup [tI ds, x, y]), d4, d5, d6, d7, d8, d9, d10, d11, d12, d13, d14, d15, some (.int i), none, none, none, none], tI rs, [s0, some b1, t, some (.tup [tI ds, x, y]), d4, d5, d6, d7, d8, d9, d10, d11, d12, d13, d14, d15, some (.int i), none, none, none, none], by simp [bnd, pur, bad, ofO, eVar, oVar, rVar, oN, oE, gC, gR, gets, mGets, mPrim, mBin, mUn, mB, asB, asI, mNot, mAnd, mOr, mIf, sIf, mOrV, mAndV, sSkip, sSeq, sRet, sSet, setS, tgTup, tgNil, tgCons, sExpr, mvVar, aVar, aE, lendL, mCall, back, tupD, lstD, mPart, mSlice, mMut, sPar, tAll, mRng1, mRng2, mRgD, mSrc, items, lockOf, locks, mWalk, sFor, mComp, cold, wipeA, rest, outs, protOf, free, pLen, pList, pTuple, pSl, pAbs, LN], ?_, ⟨rs, rfl, hr, hp⟩, b1, _, hb1, rfl⟩
      unfold B1_law
      simp [bnd, pur, bad, ofO, eVar, oVar, rVar, oN, oE, gC, gR, gets, mGets, mPrim, mBin, mUn, mB, asB, asI, mNot, mAnd, mOr, mIf, sIf, mOrV, mAndV, sSkip, sSeq, sRet, sSet, setS, tgTup, tgNil, tgCons, sExpr, mvVar, aVar, aE, lendL, mCall, back, tupD, lstD, mPart, mSlice, mMut, sPar, tAll, mRng1, mRng2, mRgD, mSrc, items, lockOf, locks, mWalk, sFor, mComp, cold, wipeA, rest, outs, protOf, free, pLen, pList, pTuple, pSl, pAbs, LN, hb.own, e]
  obtain ⟨R, rfl, hR⟩ := rows_of h3
  rw [List.length_map, rng_len] at h2
  match R, h2, hR, h1 with
  | [r0, r1, r2], h2, hR, h1 => exact ⟨b', r0, r1, r2, o, h1, hb', hR⟩
theorem comp2 {B : List (List Int)} {R : List (List Int)} (hR : ∀ r ∈ R, Row B r) (s0 b t mk S d6 d7 d8 d9 d10 d11 d12 d13 d14 d15 : Option D) :
    ∃ o, compL [17] (setS 17) (pur true) B2_law (R.map tI) ⟨[0, 1, 2, 3, 4, 5, 6, 7, 8, 9, 10, 11, 12, 13, 14, 15, 16, 18, 19, 20], [5]⟩
      [s0, b, t, mk, some (tB B), S, d6, d7, d8, d9, d10, d11, d12, d13, d14, d15, none, none, none, none, none] = .ok (R.map fun r => tI (kindI B r))
      [s0, b, t, mk, some (tB B), S, d6, d7, d8, d9, d10, d11, d12, d13, d14, d15, none, o, none, none, none] := by
  obtain ⟨ρ', h1, x, rfl⟩ := compL_A (c := ⟨[0, 1, 2, 3, 4, 5, 6, 7, 8, 9, 10, 11, 12, 13, 14, 15, 16, 18, 19, 20], [5]⟩) (vs := [17]) (t := setS 17) (te := B2_law) (ps := R) (h := tI) (g := fun r => tI (kindI B r))
    (J := fun ρ => ∃ x, ρ = [s0, b, t, mk, some (tB B), S, d6, d7, d8, d9, d10, d11, d12, d13, d14, d15, none, x, none, none, none]) (ρ := [s0, b, t, mk, some (tB B), S, d6, d7, d8, d9, d10, d11, d12, d13, d14, d15, none, none, none, none, none]) ⟨none, rfl⟩ fun p ρ hp ⟨x, hρ⟩ => by
      subst hρ
      have hk := kind_ok B p (by have := (hR p hp).few; omega)
      refine ⟨[s0, b, t, mk, some (tB B), S, d6, d7, d8, d9, d10, d11, d12, d13, d14, d15, none, some (tI p), none, none, none], [s0, b, t, mk, some (tB B), S, d6, d7, d8, d9, d10, d11, d12, d13, d14, d15, none, some (tI p), none, none, none], by simp [bnd, pur, bad, ofO, eVar, oVar, rVar, oN, oE, gC, gR, gets, mGets, mPrim, mBin, mUn, mB, asB, asI, mNot, mAnd, mOr, mIf, sIf, mOrV, mAndV, sSkip, sSeq, sRet, sSet, setS, tgTup, tgNil, tgCons, sExpr, mvVar, aVar, aE, lendL, mCall, back, tupD, lstD, mPart, mSlice, mMut, sPar, tAll, mRng1, mRng2, mRgD, mSrc, items, lockOf, locks, mWalk, sFor, mComp, cold, wipeA, rest, outs, protOf, free, pLen, pList, pTuple, pSl, pAbs, LN], ?_, _, rfl⟩
      unfold B2_law
      simp [bnd, pur, bad, ofO, eVar, oVar, rVar, oN, oE, gC, gR, gets, mGets, mPrim, mBin, mUn, mB, asB, asI, mNot, mAnd, mOr, mIf, sIf, mOrV, mAndV, sSkip, sSeq, sRet, sSet, setS, tgTup, tgNil, tgCons, sExpr, mvVar, aVar, aE, lendL, mCall, back, tupD, lstD, mPart, mSlice, mMut, sPar, tAll, mRng1, mRng2, mRgD, mSrc, items, lockOf, locks, mWalk, sFor, mComp, cold, wipeA, rest, outs, protOf, free, pLen, pList, pTuple, pSl, pAbs, LN, hk]
  exact ⟨x, h1⟩
theorem turn11 {b : D} (hb : Bag b) (s0 t x3 x4 x5 x6 x7 x8 x9 x10 x11 x12 x13 x14 x15 : Option D) :
    ∃ b' y3 y4 y5 y6 y7 y8 y9 y10 y11 y12 y13 y14 y15, B11_law ⟨[0], []⟩ [s0, some b, t, x3, x4, x5, x6, x7, x8, x9, x10, x11, x12, x13, x14, x15, none, none, none, none, none] =
      .ok .nx [s0, some b', t, y3, y4, y5, y6, y7, y8, y9, y10, y11, y12, y13, y14, y15, none, none, none, none, none] ∧ Bag b' := by
  obtain ⟨v, b1, v0, v1, hb1, ho1, e1⟩ := take_ok hb (many := 4) (by decide) (by decide)
  obtain ⟨b2, mx, my, ds, e2, hb2, ho2, hdl, hdr, hfx, hfy⟩ := make_ok hb1 (n := 1 + v) (by omega) (by omega)
  obtain ⟨b3, B, e3, hb3, ho3, hBl, hB⟩ := base_ok (x := mx) (y := my) hb2 (ds := ds) (by omega) hdr
  obtain ⟨b4, r0, r1, r2, o, e4, hb4, hR⟩ := comp1 (x := mx) (y := my) (ds := ds) hb3 (by omega) (fun d hd => by have := hdr d hd; omega) s0 t (some (tB B)) x5 x6 x7 x8 x9 x10 x11 x12 x13 x14 x15
  obtain ⟨w, b5, w0, w1, hb5, ho5, e5⟩ := take_ok hb4 (many := ds.length) (by omega) (by omega)
  obtain ⟨k, rfl⟩ : ∃ k : Nat, w = k := ⟨w.toNat, by omega⟩
  have hkB : k < B.length := by omega
  have hBk := hB B[k] (List.getElem_mem hkB)
  have a1 := base_at B k hkB
  generalize B[k] = l at hBk a1
  obtain ⟨z, b6, hz, hb6, ho6, e6⟩ := some_ok (o := true) (xs := l.map D.int ++ [.int 1]) hb5 (frzL_app1 l) (by simp) (by rw [List.length_append, List.length_map, List.length_singleton]; omega)
  obtain ⟨i, rfl, hi⟩ : ∃ i, z = .int i ∧ 1 ≤ i := by
    rcases List.mem_append.mp hz with h | h
    · obtain ⟨i, hi, rfl⟩ := List.mem_map.mp h
      exact ⟨i, rfl, hBk.2 i hi⟩
    · exact ⟨1, List.mem_singleton.mp h, by decide⟩
  have q0 := hR r0 (by simp)
  have q1 := hR r1 (by simp)
  have q2 := hR r2 (by simp)
  have c1 := cut_to r0 k (by omega)
  have c2 := cut_from r0 (k + 1) (by omega)
  have c3 := cut_to r1 k (by omega)
  have c4 := cut_from r0 k (by omega)
  have p1 := pAdd_tt (r0.take k) [i] (by rw [List.length_take, List.length_singleton]; omega)
  have p2 := pAdd_tt (r0.take k ++ [i]) (r0.drop (k + 1)) (by rw [List.length_append, List.length_take, List.length_singleton, List.length_drop]; omega)
  have p3 := pAdd_tt (r1.take k) (r0.drop k) (by rw [List.length_take, List.length_drop]; omega)
  have n3 : (r0.take k ++ [i] ++ r0.drop (k + 1)).length = ds.length := by rw [List.length_append, List.length_append, List.length_take, List.length_singleton, List.length_drop]; omega
  have n4 : (r1.take k ++ r0.drop k).length = ds.length := by rw [List.length_append, List.length_take, List.length_drop]; omega
  have m3 : Pos1 (r0.take k ++ [i] ++ r0.drop (k + 1)) := fun x hx => by
    rcases List.mem_append.mp hx with h | h
    · rcases List.mem_append.mp h with h | h
      · exact q0.2 x (List.mem_of_mem_take h)
      · rw [List.mem_singleton.mp h]; exact hi
    · exact q0.2 x (List.mem_of_mem_drop h)
  have m4 : Pos1 (r1.take k ++ r0.drop k) := fun x hx => by
    rcases List.mem_append.mp hx with h | h
    · exact q1.2 x (List.mem_of_mem_take h)
    · exact q0.2 x (List.mem_of_mem_drop h)
  generalize r0.take k ++ [i] ++ r0.drop (k + 1) = r3 at p2 n3 m3
  generalize r1.take k ++ r0.drop k = r4 at p3 n4 m4
  generalize r0.take k ++ [i] = u3 at p1 p2
  generalize r0.take k = u0 at c1 p1
  generalize r0.drop (k + 1) = u2 at c2 p2
  generalize r1.take k = u4 at c3 p3
  generalize r0.drop k = u5 at c4 p3
  have rows : ∀ r ∈ [r0, r1, r2, r3, r4], Row B r := fun r hr => by
    have h : r.length = ds.length ∧ Pos1 r := by
      simp only [List.mem_cons, List.not_mem_nil, or_false] at hr
      rcases hr with rfl | rfl | rfl | rfl | rfl
      · exact q0
      · exact q1
      · exact q2
      · exact ⟨n3, m3⟩
      · exact ⟨n4, m4⟩
    exact ⟨by omega, h.2, by omega⟩
  obtain ⟨o2, e7⟩ := comp2 rows s0 (some b6) t (some (.tup [tI ds, mx, my])) (Sd [r0, r1, r2, r3, r4]) (some (.int k)) x7 x8 x9 x10 x11 x12 x13 x14 x15
  obtain ⟨y8, y9, y10, y11, y12, y13, y14, y15, e8⟩ := loop10 rows s0 (some b6) t (some (.tup [tI ds, mx, my])) (some (.int k)) x8 x9 x10 x11 x12 x13 x14 x15
  refine ⟨b6, some (.tup [tI ds, mx, my]), some (tB B), some (.lst true [tI r0, tI r1, tI r2, tI r3, tI r4]), some (.int k), some (.lst true [tI (kindI B r0), tI (kindI B r1), tI (kindI B r2), tI (kindI B r3), tI (kindI B r4)]), y8, y9, y10, y11, y12, y13, y14, y15, ?_, hb6⟩
  have hf3 : fit62 3 = true := by decide
  have p0 := pAdd_l1 l hBk.1
  have fl := frzL_app1 l
  unfold B11_law
  simp [bnd, pur, bad, ofO, eVar, oVar, rVar, oN, oE, gC, gR, gets, mGets, mPrim, mBin, mUn, mB, asB, asI, mNot, mAnd, mOr, mIf, sIf, mOrV, mAndV, sSkip, sSeq, sRet, sSet, setS, tgTup, tgNil, tgCons, sExpr, mvVar, aVar, aE, lendL, mCall, back, tupD, lstD, mPart, mSlice, mMut, sPar, tAll, mRng1, mRng2, mRgD, mSrc, items, lockOf, locks, mWalk, sFor, mComp, cold, wipeA, rest, outs, protOf, free, pLen, pList, pTuple, pSl, pAbs, LN, Sd, Md, List.map_cons, List.map_nil] at e4 e6 e7 e8 a1 c1 c2 c3 c4 p1 p2 p3
  simp [bnd, pur, bad, ofO, eVar, oVar, rVar, oN, oE, gC, gR, gets, mGets, mPrim, mBin, mUn, mB, asB, asI, mNot, mAnd, mOr, mIf, sIf, mOrV, mAndV, sSkip, sSeq, sRet, sSet, setS, tgTup, tgNil, tgCons, sExpr, mvVar, aVar, aE, lendL, mCall, back, tupD, lstD, mPart, mSlice, mMut, sPar, tAll, mRng1, mRng2, mRgD, mSrc, items, lockOf, locks, mWalk, sFor, mComp, cold, wipeA, rest, outs, protOf, free, pLen, pList, pTuple, pSl, pAbs, LN, hb.own, hb1.own, hb2.own, hb3.own, hb4.own, hb5.own, hf3, fAppend, zA2_l, zip2D, e1, e2, e3, e4, e5, e6, e7, e8, fl, p0, a1, c1, c2, c3, c4, p1, p2, p3, hfx, hfy]
theorem law_true (ns : List Int) (h : ns.length ≤ 63) : ∃ as, Φ_law [.lst false (ns.map D.int)] = .ok (.bl true) as := by
  obtain ⟨b, hb, ho, e1⟩ := bag_ok ns h
  obtain ⟨ρ', e2, b', x2, x3, x4, x5, x6, x7, x8, x9, x10, x11, x12, x13, x14, x15, hb', rfl⟩ := forL_inv (c := ⟨[0], []⟩) (t := setS 2) (b := B11_law) (ds := rngD 0 8) (i := 0) (J := fun _ ρ => ∃ b x2 x3 x4 x5 x6 x7 x8 x9 x10 x11 x12 x13 x14 x15, Bag b ∧ ρ = [some (.lst false (ns.map D.int)), some b, x2, x3, x4, x5, x6, x7, x8, x9, x10, x11, x12, x13, x14, x15, none, none, none, none, none])
    (ρ := [some (.lst false (ns.map D.int)), some b, none, none, none, none, none, none, none, none, none, none, none, none, none, none, none, none, none, none, none]) ⟨b, none, none, none, none, none, none, none, none, none, none, none, none, none, none, hb, rfl⟩ fun j d ρ hj ⟨b, x2, x3, x4, x5, x6, x7, x8, x9, x10, x11, x12, x13, x14, x15, hb, hρ⟩ => by
      obtain ⟨rfl, hjl⟩ := rng_at hj
      subst hρ
      obtain ⟨b', y3, y4, y5, y6, y7, y8, y9, y10, y11, y12, y13, y14, y15, e, hb'⟩ := turn11 hb (some (.lst false (ns.map D.int))) (some (.int (0 + (j : Nat)))) x3 x4 x5 x6 x7 x8 x9 x10 x11 x12 x13 x14 x15
      exact ⟨_, _, by simp [bnd, pur, bad, ofO, eVar, oVar, rVar, oN, oE, gC, gR, gets, mGets, mPrim, mBin, mUn, mB, asB, asI, mNot, mAnd, mOr, mIf, sIf, mOrV, mAndV, sSkip, sSeq, sRet, sSet, setS, tgTup, tgNil, tgCons, sExpr, mvVar, aVar, aE, lendL, mCall, back, tupD, lstD, mPart, mSlice, mMut, sPar, tAll, mRng1, mRng2, mRgD, mSrc, items, lockOf, locks, mWalk, sFor, mComp, cold, wipeA, rest, outs, protOf, free, pLen, pList, pTuple, pSl, pAbs, LN], e, b', _, y3, y4, y5, y6, y7, y8, y9, y10, y11, y12, y13, y14, y15, hb', rfl⟩
  have hf : fit62 8 = true := by decide
  refine ⟨[some (.lst false (ns.map D.int))], ?_⟩
  unfold Φ_law runF M_law
  simp [bnd, pur, bad, ofO, eVar, oVar, rVar, oN, oE, gC, gR, gets, mGets, mPrim, mBin, mUn, mB, asB, asI, mNot, mAnd, mOr, mIf, sIf, mOrV, mAndV, sSkip, sSeq, sRet, sSet, setS, tgTup, tgNil, tgCons, sExpr, mvVar, aVar, aE, lendL, mCall, back, tupD, lstD, mPart, mSlice, mMut, sPar, tAll, mRng1, mRng2, mRgD, mSrc, items, lockOf, locks, mWalk, sFor, mComp, cold, wipeA, rest, outs, protOf, free, pLen, pList, pTuple, pSl, pAbs, LN, e1, hf, e2]
end Y

end
section
set_option Elab.async false
set_option linter.all false
set_option maxRecDepth 100000
namespace Y

end Y
open PySem PySem.W PyProof.Rows
set_option maxHeartbeats 0 in
theorem PySem.Challenge.cw_keysbelow_k18_rows_below_one_another_holds : PySem.Challenge.rw_keysbelow_k18_rows_below_one_another.Holds := by
  w_on; o_law; k_head; (case hw => w_witness2)
  k_fill
  refine L2.walk_of (l := PySem.Challenge.rw_keysbelow_k18_rows_below_one_another) (n := 63) (k := 4) (x := "script") (CX := fun w => L2.CX PySem.Challenge.rw_keysbelow_k18_rows_below_one_another.prog w) (sp := fun w => Y.spF _ (fun _ _ _ _ _ => False) 1 Y.Φ_law) rfl (by decide) rfl ⟨rfl, by decide, by decide⟩ (fun w h Y => PySem.W.kIn_of Y) ?F (fun w H a ns hl hO hS => Y.law_sp hO hS (Y.law_true ns hl)) (fun w H s e s' h => Y.cx_none h)
  case F =>
    intro w mg fa h KX G hmg
    refine' Y.all_mk KX G hmg ?a0 ?l0 ?c0 ?k0 ?a1 ?l1 ?c1 ?k1 ?a2 ?l2 ?c2 ?k2 ?a3 ?l3 ?c3 ?k3 ?a4 ?l4 ?c4 ?k4 ?a5 ?l5 ?c5 ?k5 ?a6 ?l6 ?c6 ?k6 ?a7 ?l7 ?c7 ?k7 ?a8 ?l8 ?c8 ?k8 ?a9 ?l9 ?c9 ?k9 ?a10 ?l10 ?c10 ?k10 ?a11 ?l11 ?c11 ?k11 ?a12 ?l12 ?c12 ?k12 ?a13 ?l13 ?c13 ?k13 ?a14 ?l14 ?c14 ?k14 ?a15 ?l15 ?c15 ?k15 ?a16 ?l16 ?c16 ?k16 ?a17 ?l17 ?c17 ?k17 ?a18 ?l18 ?c18 ?k18 ?a19 ?l19 ?c19 ?k19 ?a20 ?l20 ?c20 ?k20 ?a21 ?l21 ?c21 ?k21 ?z_abs ?z_int ?z_len ?z_range ?z_tuple ?z_list ?z_sorted ?z_zip ?z_isinstance ?z_bool ?z_str ?z_enumerate ?z_all
    (case a0 => k_is); (case l0 => k_is); (case c0 => k_is); (case k0 => k_is); (case a1 => k_is); (case l1 => k_is); (case c1 => k_is); (case k1 => k_is); (case a2 => k_is); (case l2 => k_is); (case c2 => k_is); (case k2 => k_is); (case a3 => k_is); (case l3 => k_is); (case c3 => k_is); (case k3 => k_is); (case a4 => k_is); (case l4 => k_is); (case c4 => k_is); (case k4 => k_is); (case a5 => k_is); (case l5 => k_is); (case c5 => k_is); (case k5 => k_is); (case a6 => k_is); (case l6 => k_is); (case c6 => k_is); (case k6 => k_is); (case a7 => k_is); (case l7 => k_is); (case c7 => k_is); (case k7 => k_is); (case a8 => k_is); (case l8 => k_is); (case c8 => k_is); (case k8 => k_is); (case a9 => k_is); (case l9 => k_is); (case c9 => k_is); (case k9 => k_is); (case a10 => k_is); (case l10 => k_is); (case c10 => k_is); (case k10 => k_is); (case a11 => k_is); (case l11 => k_is); (case c11 => k_is); (case k11 => k_is); (case a12 => k_is); (case l12 => k_is); (case c12 => k_is); (case k12 => k_is); (case a13 => k_is); (case l13 => k_is); (case c13 => k_is); (case k13 => k_is); (case a14 => k_is); (case l14 => k_is); (case c14 => k_is); (case k14 => k_is); (case a15 => k_is); (case l15 => k_is); (case c15 => k_is); (case k15 => k_is); (case a16 => k_is); (case l16 => k_is); (case c16 => k_is); (case k16 => k_is); (case a17 => k_is); (case l17 => k_is); (case c17 => k_is); (case k17 => k_is); (case a18 => k_is); (case l18 => k_is); (case c18 => k_is); (case k18 => k_is); (case a19 => k_is); (case l19 => k_is); (case c19 => k_is); (case k19 => k_is); (case a20 => k_is); (case l20 => k_is); (case c20 => k_is); (case k20 => k_is); (case a21 => k_is); (case l21 => k_is); (case c21 => k_is); (case k21 => k_is); (case z_abs => k_is); (case z_int => k_is); (case z_len => k_is); (case z_range => k_is); (case z_tuple => k_is); (case z_list => k_is); (case z_sorted => k_is); (case z_zip => k_is); (case z_isinstance => k_is); (case z_bool => k_is); (case z_str => k_is); (case z_enumerate => k_is); (case z_all => k_is)

end
