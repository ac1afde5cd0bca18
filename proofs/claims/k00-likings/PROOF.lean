import PyProof.Rows.All
import HandS.ForSpec
import HandS.ForMost
import HandS.Sort
import HandS.SortInts
import HandS.Strs
import HandS.SetFor
import HandS.IsInst
import HandS.Conv
import HandS.Wide
import HandS.Deep
import HandS.TupAny
import HandS.TupLe
import HandS.Flow
import HandS.Style
import HandS.Defaults
import HandS.Head0
import HandS.Head1
import HandS.Head2
import HandS.HeadEnd
import HandS.HeadHook1
import HandS.HeadHook2
import Wide.All
import OpenK.AllK
import Wide.FinOn
import KE.KStateDown
import HandS.Base
import HandS.Call
import HandS.Ends
import HandS.More
import HandS.Words
import HandS.WordsExc
import PySem.Challenge.RW_endswithpapers_k00_likings
set_option Elab.async false
set_option linter.all false
set_option maxRecDepth 100000
set_option maxHeartbeats 2000000
namespace PyD
open PySem PySem.Spec PyProof.Rows L2

/-! ### data as plain values -/
inductive D where
  | non | bl (b : Bool) | int (i : Int) | str (s : Str) | tup (xs : List D) | lst (xs : List D) | iset (xs : List Int)
  | ins (c : Str) (fs : List (Str × D))

/-- what belongs to the holder alone: nothing (sh); the list itself and, of each item, o; of a tuple's places -/
inductive Ow where
  | sh | lst (o : Ow) | tup (os : List Ow)
abbrev Sl := Ow × D
abbrev DEnv := List (Option Sl)
structure Exn where
  cls : Str
  fs : List (Str × D)

/-! ### how the abstract heap bears a datum -/
structure Ki where
  K : PySem.W.Frag
  w : World
  cl : Str → Option Addr

mutual
inductive Rep (k : Ki) (F : Hp) : D → V → Prop where
  | non : Rep k F .non .non
  | bl (b : Bool) : Rep k F (.bl b) (.bl b)
  | int (i : Int) : Rep k F (.int i) (.int i)
  | str (s : Str) : Rep k F (.str s) (.str s)
  | tup {a : Addr} {vs : List V} {ds : List D} (h : SqT k.K F a vs) (r : Reps k F ds vs) : Rep k F (.tup ds) (.ref a)
  | lst {a : Addr} {vs : List V} {ds : List D} (h : SqL k.K F a vs) (r : Reps k F ds vs) : Rep k F (.lst ds) (.ref a)
  | iset {a : Addr} {ns : List Int} {S : Int → Bool} (h : F a = some (SetO k.w a S ns.length)) (hS : ∀ j, S j = true ↔ j ∈ ns) (hn : ns.Pairwise (· < ·)) : Rep k F (.iset ns) (.ref a)
  | ins {a C dx : Addr} {vfs : List (Str × V)} {c : Str} {fs : List (Str × D)} (hc : k.cl c = some C) (h : F a = some (.ins C dx vfs)) (r : RepF k F fs vfs) : Rep k F (.ins c fs) (.ref a)
inductive Reps (k : Ki) (F : Hp) : List D → List V → Prop where
  | nil : Reps k F [] []
  | cons {d : D} {v : V} {ds : List D} {vs : List V} (h : Rep k F d v) (t : Reps k F ds vs) : Reps k F (d :: ds) (v :: vs)
inductive RepF (k : Ki) (F : Hp) : List (Str × D) → List (Str × V) → Prop where
  | nil : RepF k F [] []
  | cons {x : Str} {d : D} {v : V} {ds : List (Str × D)} {vs : List (Str × V)} (h : Rep k F d v) (t : RepF k F ds vs) : RepF k F ((x, d) :: ds) ((x, v) :: vs)
end
theorem seqT {K : PySem.W.Frag} {H H' : Hp} {a : Addr} {xs : List V} (e : Same H H') (h : SqT K H a xs) : SqT K H' a xs := by
  rcases h with (h | ⟨o, h⟩) | h
  · exact .inl (.inl (e _ _ h))
  · exact .inl (.inr ⟨o, e _ _ h⟩)
  · exact .inr h
theorem rdS {H H' : Hp} {a : Addr} {o : HO} (e : Same H H') (h : Rd H a o) : Rd H' a o := by
  rcases h with h | ⟨u, h⟩
  · exact .inl (e _ _ h)
  · exact .inr ⟨u, e _ _ h⟩
mutual
theorem Rep.mono {k : Ki} {F F' : Hp} (e : Same F F') : ∀ {d : D} {v : V}, Rep k F d v → Rep k F' d v
  | _, _, .non => .non
  | _, _, .bl b => .bl b
  | _, _, .int i => .int i
  | _, _, .str s => .str s
  | _, _, .tup h r => .tup (seqT e h) (Reps.mono e r)
  | _, _, .lst h r => .lst (e.seq h) (Reps.mono e r)
  | _, _, .iset h a b => .iset (e _ _ h) a b
  | _, _, .ins hc h r => .ins hc (e _ _ h) (RepF.mono e r)
theorem Reps.mono {k : Ki} {F F' : Hp} (e : Same F F') : ∀ {d : List D} {v : List V}, Reps k F d v → Reps k F' d v
  | _, _, .nil => .nil
  | _, _, .cons h t => .cons (Rep.mono e h) (Reps.mono e t)
theorem RepF.mono {k : Ki} {F F' : Hp} (e : Same F F') : ∀ {d : List (Str × D)} {v : List (Str × V)}, RepF k F d v → RepF k F' d v
  | _, _, .nil => .nil
  | _, _, .cons h t => .cons (Rep.mono e h) (RepF.mono e t)
end
abbrev OL := List (Addr × HO)
mutual
inductive RepO (k : Ki) (F : Hp) : Ow → OL → D → V → Prop where
  | sh {d : D} {v : V} (h : Rep k F d v) : RepO k F .sh [] d v
  | lst {o : Ow} {O : OL} {a : Addr} {vs : List V} {ds : List D} (r : RepOl k F o O ds vs) : RepO k F (.lst o) ((a, .lst vs) :: O) (.lst ds) (.ref a)
  | tup {os : List Ow} {O : OL} {a : Addr} {vs : List V} {ds : List D} (h : SqT k.K F a vs) (r : RepOt k F os O ds vs) : RepO k F (.tup os) O (.tup ds) (.ref a)
inductive RepOl (k : Ki) (F : Hp) : Ow → OL → List D → List V → Prop where
  | nil {o : Ow} : RepOl k F o [] [] []
  | cons {o : Ow} {O O' : OL} {d : D} {v : V} {ds : List D} {vs : List V} (h : RepO k F o O d v) (t : RepOl k F o O' ds vs) : RepOl k F o (O ++ O') (d :: ds) (v :: vs)
inductive RepOt (k : Ki) (F : Hp) : List Ow → OL → List D → List V → Prop where
  | nil : RepOt k F [] [] [] []
  | cons {o : Ow} {os : List Ow} {O O' : OL} {d : D} {v : V} {ds : List D} {vs : List V} (h : RepO k F o O d v) (t : RepOt k F os O' ds vs) : RepOt k F (o :: os) (O ++ O') (d :: ds) (v :: vs)
end
mutual
theorem RepO.mono {k : Ki} {F F' : Hp} (e : Same F F') : ∀ {o : Ow} {O : OL} {d : D} {v : V}, RepO k F o O d v → RepO k F' o O d v
  | _, _, _, _, .sh h => .sh (h.mono e)
  | _, _, _, _, .lst r => .lst (RepOl.mono e r)
  | _, _, _, _, .tup h r => .tup (seqT e h) (RepOt.mono e r)
theorem RepOl.mono {k : Ki} {F F' : Hp} (e : Same F F') : ∀ {o : Ow} {O : OL} {d : List D} {v : List V}, RepOl k F o O d v → RepOl k F' o O d v
  | _, _, _, _, .nil => .nil
  | _, _, _, _, .cons h t => .cons (RepO.mono e h) (RepOl.mono e t)
theorem RepOt.mono {k : Ki} {F F' : Hp} (e : Same F F') : ∀ {o : List Ow} {O : OL} {d : List D} {v : List V}, RepOt k F o O d v → RepOt k F' o O d v
  | _, _, _, _, .nil => .nil
  | _, _, _, _, .cons h t => .cons (RepO.mono e h) (RepOt.mono e t)
end
/-! a frozen part grows, the rest stands -/
structure Ext (F H F' H' : Hp) (O : OL) : Prop where
  sF : Same F F'
  sH : Same H H'
  ag : ∀ a, H a ≠ none → F' a = F a
  fh : Same F' H'
  own : ∀ p ∈ O, H p.1 = none ∧ H' p.1 = some p.2 ∧ F' p.1 = none
  nd : (O.map (·.1)).Nodup
theorem Ext.refl {F H : Hp} (s : Same F H) : Ext F H F H [] := ⟨Same.refl _, Same.refl _, fun _ _ => rfl, s, (fun _ h => nomatch h), List.nodup_nil⟩
theorem some_of_ne {α : Type} {x : Option α} (h : x ≠ none) : ∃ y, x = some y := by
  cases x with
  | none => exact absurd rfl h
  | some y => exact ⟨y, rfl⟩
theorem Ext.trans {F H F1 H1 F2 H2 : Hp} {O O' : OL} (a : Ext F H F1 H1 O) (b : Ext F1 H1 F2 H2 O') : Ext F H F2 H2 (O' ++ O) := by
  have up : ∀ x, H x ≠ none → H1 x ≠ none := fun x h => by
    obtain ⟨y, e⟩ := some_of_ne h
    rw [a.sH _ _ e]; exact fun z => nomatch z
  refine ⟨a.sF.trans b.sF, a.sH.trans b.sH, fun x h => (b.ag x (up x h)).trans (a.ag x h), b.fh, fun p hp => ?_, ?_⟩
  · rcases List.mem_append.mp hp with h | h
    · obtain ⟨h1, h2, h3⟩ := b.own p h
      exact ⟨a.sH.free h1, h2, h3⟩
    · obtain ⟨h1, h2, h3⟩ := a.own p h
      exact ⟨h1, b.sH _ _ h2, by rw [b.ag _ (by rw [h2]; exact fun z => nomatch z)]; exact h3⟩
  · rw [List.map_append, List.nodup_append]
    refine ⟨b.nd, a.nd, fun x hx y hy e => ?_⟩
    obtain ⟨p, hp, rfl⟩ := List.mem_map.mp hx
    obtain ⟨q, hq, rfl⟩ := List.mem_map.mp hy
    have h1 := (b.own p hp).1
    rw [e, (a.own q hq).2.1] at h1
    cases h1
theorem Ext.sub {F H F' H' : Hp} {O O' : OL} (a : Ext F H F' H' O) (h : ∀ p ∈ O', p ∈ O) (n : (O'.map (·.1)).Nodup) : Ext F H F' H' O' :=
  ⟨a.sF, a.sH, a.ag, a.fh, fun p hp => a.own p (h p hp), n⟩
/-- some of what is owned is frozen -/
def frz (F : Hp) (O : OL) : Hp := fun a => match O.lookup a with | some o => some o | none => F a
theorem lookup_mem {α : Type} : ∀ {O : List (Addr × α)} {a : Addr} {o : α}, O.lookup a = some o → (a, o) ∈ O
  | [], _, _, h => by cases h
  | (b, u) :: O, a, o, h => by
    rw [List.lookup_cons] at h
    by_cases e : a = b
    · subst e
      simp at h
      subst h
      exact List.mem_cons_self
    · have : (a == b) = false := by simp [e]
      rw [this] at h
      exact List.mem_cons_of_mem _ (lookup_mem h)
theorem mem_lookup' {α : Type} : ∀ {O : List (Addr × α)} {p : Addr × α}, (O.map (·.1)).Nodup → p ∈ O → O.lookup p.1 = some p.2
  | (b, u) :: O, p, n, h => by
    rw [List.map_cons, List.nodup_cons] at n
    rw [List.lookup_cons]
    rcases List.mem_cons.mp h with e | h
    · subst e; simp
    · have : (p.1 == b) = false := by
        simp only [beq_eq_false_iff_ne, ne_eq]
        intro e
        exact n.1 (e ▸ List.mem_map.mpr ⟨p, h, rfl⟩)
      rw [this]
      exact mem_lookup' n.2 h
theorem frz_same {F : Hp} {O : OL} (h : ∀ p ∈ O, F p.1 = none) : Same F (frz F O) := fun a o e => by
  unfold frz
  cases q : O.lookup a with
  | none => exact e
  | some u =>
    have := h _ (lookup_mem q)
    rw [e] at this; cases this
theorem frz_at {F : Hp} {O : OL} (n : (O.map (·.1)).Nodup) {p : Addr × HO} (h : p ∈ O) : frz F O p.1 = some p.2 := by
  unfold frz
  rw [mem_lookup' n h]
theorem frz_ne {F : Hp} {O : OL} {a : Addr} (h : a ∉ O.map (·.1)) : frz F O a = F a := by
  unfold frz
  cases q : O.lookup a with
  | none => rfl
  | some u => exact absurd (List.mem_map.mpr ⟨_, lookup_mem q, rfl⟩) h
theorem Ext.freeze {F H F' H' : Hp} {A B : OL} (e : Ext F H F' H' (A ++ B)) : Ext F H (frz F' A) H' B := by
  have n := e.nd
  rw [List.map_append, List.nodup_append] at n
  have hA : ∀ p ∈ A, F' p.1 = none := fun p hp => (e.own p (List.mem_append_left _ hp)).2.2
  refine ⟨e.sF.trans (frz_same hA), e.sH, fun a h => ?_, fun a o h => ?_, fun p hp => ?_, n.2.1⟩
  · rw [frz_ne]
    · exact e.ag a h
    · intro m
      obtain ⟨p, hp, rfl⟩ := List.mem_map.mp m
      exact h (e.own p (List.mem_append_left _ hp)).1
  · unfold frz at h
    cases q : A.lookup a with
    | none => rw [q] at h; exact e.fh a o h
    | some u =>
      rw [q] at h; cases h
      exact (e.own _ (List.mem_append_left _ (lookup_mem q))).2.1
  · obtain ⟨h1, h2, h3⟩ := e.own p (List.mem_append_right _ hp)
    refine ⟨h1, h2, ?_⟩
    rw [frz_ne]
    · exact h3
    · intro m
      exact n.2.2 _ m _ (List.mem_map.mpr ⟨p, hp, rfl⟩) rfl
mutual
theorem RepO.frz {k : Ki} {F F' : Hp} (e : Same F F') : ∀ {o : Ow} {O : OL} {d : D} {v : V}, RepO k F o O d v → (∀ p ∈ O, F' p.1 = some p.2) → Rep k F' d v
  | _, _, _, _, .sh h, _ => h.mono e
  | _, _, _, _, .lst r, q => .lst (.inl (.inl (q _ List.mem_cons_self))) (RepOl.frz e r fun p hp => q p (List.mem_cons_of_mem _ hp))
  | _, _, _, _, .tup h r, q => .tup (seqT e h) (RepOt.frz e r q)
theorem RepOl.frz {k : Ki} {F F' : Hp} (e : Same F F') : ∀ {o : Ow} {O : OL} {d : List D} {v : List V}, RepOl k F o O d v → (∀ p ∈ O, F' p.1 = some p.2) → Reps k F' d v
  | _, _, _, _, .nil, _ => .nil
  | _, _, _, _, .cons h t, q => .cons (RepO.frz e h fun p hp => q p (List.mem_append_left _ hp)) (RepOl.frz e t fun p hp => q p (List.mem_append_right _ hp))
theorem RepOt.frz {k : Ki} {F F' : Hp} (e : Same F F') : ∀ {o : List Ow} {O : OL} {d : List D} {v : List V}, RepOt k F o O d v → (∀ p ∈ O, F' p.1 = some p.2) → Reps k F' d v
  | _, _, _, _, .nil, _ => .nil
  | _, _, _, _, .cons h t, q => .cons (RepO.frz e h fun p hp => q p (List.mem_append_left _ hp)) (RepOt.frz e t fun p hp => q p (List.mem_append_right _ hp))
end
/-! slots -/
inductive EnvRep (k : Ki) (F : Hp) : OL → DEnv → L2.St → Prop where
  | nil : EnvRep k F [] [] []
  | un {O : OL} {env : DEnv} {x : Option V} {σ : L2.St} (t : EnvRep k F O env σ) : EnvRep k F O (none :: env) (x :: σ)
  | val {O O' : OL} {env : DEnv} {o : Ow} {d : D} {v : V} {σ : L2.St} (h : RepO k F o O d v) (t : EnvRep k F O' env σ) : EnvRep k F (O ++ O') (some (o, d) :: env) (some v :: σ)
theorem EnvRep.mono {k : Ki} {F F' : Hp} (e : Same F F') : ∀ {O : OL} {env : DEnv} {σ : L2.St}, EnvRep k F O env σ → EnvRep k F' O env σ
  | _, _, _, .nil => .nil
  | _, _, _, .un t => .un (EnvRep.mono e t)
  | _, _, _, .val h t => .val (h.mono e) (EnvRep.mono e t)
theorem EnvRep.length {k : Ki} {F : Hp} : ∀ {O : OL} {env : DEnv} {σ : L2.St}, EnvRep k F O env σ → env.length = σ.length
  | _, _, _, .nil => rfl
  | _, _, _, .un t => by rw [List.length_cons, List.length_cons, t.length]
  | _, _, _, .val _ t => by rw [List.length_cons, List.length_cons, t.length]
/-- one slot, and the others -/
theorem EnvRep.slot {k : Ki} {F : Hp} : ∀ {O : OL} {env : DEnv} {σ : L2.St} {i : Nat} {o : Ow} {d : D}, EnvRep k F O env σ → env[i]? = some (some (o, d)) →
    ∃ A B C v, O = A ++ (B ++ C) ∧ σ[i]? = some (some v) ∧ RepO k F o B d v ∧
      (∀ F' o' d' B' v', Same F F' → RepO k F' o' B' d' v' → EnvRep k F' (A ++ (B' ++ C)) (env.set i (some (o', d'))) (σ.set i (some v'))) ∧ (∀ x, EnvRep k F (A ++ C) (env.set i none) (σ.set i x))
  | _, _, _, 0, _, _, .un _, h => by simp at h
  | _, _, _, 0, o, d, .val (O := O) (O' := O') h t, e => by
    simp at e
    obtain ⟨rfl, rfl⟩ := e
    exact ⟨[], O, O', _, rfl, rfl, h, fun F' o' d' B' v' s r => (show EnvRep k F' (B' ++ O') _ _ from .val r (t.mono s)), fun x => .un t⟩
  | _, _, _, i + 1, _, _, .un t, e => by
    obtain ⟨A, B, C, v, e1, e2, r, f, g⟩ := t.slot (i := i) (by simpa using e)
    exact ⟨A, B, C, v, e1, by simpa using e2, r, fun F' o' d' B' v' s r' => .un (f F' o' d' B' v' s r'), fun x => .un (g x)⟩
  | _, _, _, i + 1, _, _, .val (O := O) h t, e => by
    obtain ⟨A, B, C, v, e1, e2, r, f, g⟩ := t.slot (i := i) (by simpa using e)
    refine ⟨O ++ A, B, C, v, by rw [e1, List.append_assoc], by simpa using e2, r, fun F' o' d' B' v' s r' => ?_, fun x => ?_⟩
    · rw [List.append_assoc]; exact .val (h.mono s) (f F' o' d' B' v' s r')
    · rw [List.append_assoc]; exact .val h (g x)
/-- any slot is stored anew -/
theorem EnvRep.put {k : Ki} {F F' : Hp} {O : OL} {env : DEnv} {σ : L2.St} {i : Nat} {o : Ow} {d : D} {B : OL} {v : V} (r : EnvRep k F O env σ) (hi : i < env.length) (s : Same F F') (h : RepO k F' o B d v) :
    ∃ A C, (∀ p ∈ A ++ C, p ∈ O) ∧ ((A ++ C).Sublist O) ∧ EnvRep k F' (A ++ (B ++ C)) (env.set i (some (o, d))) (σ.set i (some v)) := by
  induction r generalizing i with
  | nil => simp at hi
  | un t ih =>
    cases i with
    | zero => exact ⟨[], _, (fun p hp => hp), List.Sublist.refl _, (show EnvRep k F' (B ++ _) _ _ from .val h (t.mono s))⟩
    | succ i =>
      obtain ⟨A, C, h1, h2, h3⟩ := ih (i := i) (by simpa using hi)
      exact ⟨A, C, h1, h2, .un h3⟩
  | @val O1 O2 env1 o1 d1 v1 σ1 h' t ih =>
    cases i with
    | zero => exact ⟨[], _, (fun p hp => List.mem_append_right _ hp), List.sublist_append_right _ _, (show EnvRep k F' (B ++ _) _ _ from .val h (t.mono s))⟩
    | succ i =>
      obtain ⟨A, C, h1, h2, h3⟩ := ih (i := i) (by simpa using hi)
      refine ⟨O1 ++ A, C, fun p hp => ?_, ?_, ?_⟩
      · rw [List.append_assoc] at hp
        rcases List.mem_append.mp hp with z | z
        · exact List.mem_append_left _ z
        · exact List.mem_append_right _ (h1 p z)
      · rw [List.append_assoc]; exact (List.Sublist.refl _).append h2
      · rw [List.append_assoc]; exact .val (h'.mono s) h3
end PyD

set_option Elab.async false
set_option linter.all false
set_option maxRecDepth 100000
set_option maxHeartbeats 2000000
namespace PyD
open PySem PySem.Spec PyProof.Rows L2

/-! ### what a piece of text gives: a datum, an exception, or no answer is known -/
inductive R (α : Type) where
  | ok (a : α) | exc (e : Exn) | bad
def R.bind {α β : Type} (x : R α) (f : α → R β) : R β := match x with
  | .ok a => f a
  | .exc e => .exc e
  | .bad => .bad
@[simp] theorem R.bind_ok {α β : Type} (a : α) (f : α → R β) : (R.ok a).bind f = f a := rfl
@[simp] theorem R.bind_exc {α β : Type} (e : Exn) (f : α → R β) : (R.exc e).bind f = .exc e := rfl
@[simp] theorem R.bind_bad {α β : Type} (f : α → R β) : (R.bad).bind f = .bad := rfl
def R.need {α : Type} (o : Option α) : R α := match o with
  | some a => .ok a
  | none => .bad
@[simp] theorem R.need_some {α : Type} (a : α) : R.need (some a) = .ok a := rfl
@[simp] theorem R.need_none {α : Type} : R.need (none : Option α) = .bad := rfl
theorem R.bind_eq_ok {α β : Type} {x : R α} {f : α → R β} {b : β} (h : x.bind f = .ok b) : ∃ a, x = .ok a ∧ f a = .ok b := by
  cases x with
  | ok a => exact ⟨a, rfl, h⟩
  | exc e => cases h
  | bad => cases h

structure Sg where
  n : Nat
  ret : Ow
  al : Bool := false
/-- what stands around an expression -/
structure Tb where
  N : List Str
  sc : Scope
  sg : Str → Option Sg
  call : Str → List D → R D
  gl : Str → Option D

def ixOf (x : Str) : List Str → Option Nat
  | [] => none
  | y :: r => if x = y then some 0 else (ixOf x r).map (· + 1)
def visB (sc : Scope) (x : Str) : Bool := match sc.names.lookup x with
  | some .local => true
  | some .cell => true
  | some .free => true
  | _ => false
def locB (sc : Scope) (x : Str) : Bool := match sc.names.lookup x with
  | some .local => true
  | some .cell => true
  | _ => false
def glB (sc : Scope) (x : Str) : Bool := match sc.names.lookup x with
  | some .globalImplicit => true
  | _ => false
def okName (x : Str) : Bool := !(x == ("__debug__" : Str)) && !(x == ("__classdict__" : Str)) && !(x == ("__name__" : Str))
def slotOf (T : Tb) (x : Str) : Option Nat := if visB T.sc x && okName x then ixOf x T.N else none
def varB (i : Nat) (env : DEnv) : R Sl := match env[i]? with
  | some (some s) => .ok s
  | _ => .bad
def Sl.asSh (s : Sl) : R Sl := match s.1 with
  | .sh => .ok s
  | _ => .bad
def varE (i : Nat) (env : DEnv) : R Sl := (varB i env).bind Sl.asSh

def Ow.isSh : Ow → Bool
  | .sh => true
  | _ => false
/-- the items are shared -/
def Ow.flat : Ow → Bool
  | .sh => true
  | .lst o => o.isSh
  | .tup os => os.all Ow.isSh

/-! ### operations -/
def intsOf : List D → Option (List Int)
  | [] => some []
  | .int i :: r => (intsOf r).map (i :: ·)
  | _ :: _ => none
def insD (i : Int) : List Int → List Int
  | [] => [i]
  | j :: r => if i < j then i :: j :: r else if i = j then j :: r else j :: insD i r
def sdI (ns : List Int) : List Int := ns.foldr insD []
def mulOk (i j : Int) : Bool := (decide (-(2 ^ 64) < i) && decide (i < 2 ^ 64)) || (decide (-(2 ^ 64) < j) && decide (j < 2 ^ 64))

def binD (op : Operator) (x y : Sl) : R Sl := match op, x.2, y.2 with
  | .Add, .int i, .int j => .ok (.sh, .int (i + j))
  | .Sub, .int i, .int j => .ok (.sh, .int (i - j))
  | .Mult, .int i, .int j => if mulOk i j then .ok (.sh, .int (i * j)) else .bad
  | .FloorDiv, .int i, .int j => if decide (j ≠ 0) && decide (j.natAbs < 1073741824) then .ok (.sh, .int (i.fdiv j)) else .bad
  | .Mod, .int i, .int j => if decide (j ≠ 0) then .ok (.sh, .int (i.fmod j)) else .bad
  | .Pow, .int i, .int j => if decide (0 ≤ j) && decide (j ≤ 1000000) && decide (i.natAbs < 2 ^ 64) then .ok (.sh, .int (i ^ j.toNat)) else .bad
  | .Add, .lst xs, .lst ys => if x.1.flat && y.1.flat && decide (xs.length + ys.length ≤ sizeLine) then .ok (.lst .sh, .lst (xs ++ ys)) else .bad
  | _, _, _ => .bad

mutual
def D.py : D → Option PyData
  | .non => some .none
  | .bl b => some (.bool b)
  | .int i => some (.int i)
  | .str s => some (.str s)
  | .tup xs => (D.pys xs).map .tuple
  | .lst xs => (D.pys xs).map .list
  | .iset _ => none
  | .ins _ _ => none
def D.pys : List D → Option (List PyData)
  | [] => some []
  | x :: r => (D.py x).bind fun a => (D.pys r).map (a :: ·)
end
/-- ==, of data that == tells apart as data -/
def eqD (x y : D) : R Bool := match x, y with
  | .int i, .int j => .ok (decide (i = j))
  | .bl i, .bl j => .ok (decide (i = j))
  | .str i, .str j => .ok (decide (i = j))
  | .non, .non => .ok true
  | _, _ => match x.py, y.py with
    | some p, some q => if SeqAt.shaped p && SeqAt.shaped q then .ok (p.eqv q) else .bad
    | _, _ => .bad
def D.vf : D → Option V
  | .non => some .non
  | .bl b => some (.bl b)
  | .int i => some (.int i)
  | .str s => some (.str s)
  | _ => none
def D.vfs : List D → Option (List V)
  | [] => some []
  | x :: r => (D.vf x).bind fun a => (D.vfs r).map (a :: ·)
def items : D → Option (List D)
  | .lst xs => some xs
  | .tup xs => some xs
  | _ => none
def inD (x y : D) : R Bool := match x.vf, (items y).bind D.vfs with
  | some a, some bs => .ok (inV a bs)
  | _, _ => .bad
def isD (x y : D) : R Bool := match x, y with
  | x, .non => .ok (match x with | .non => true | _ => false)
  | .bl a, .bl b => .ok (decide (a = b))
  | _, _ => .bad
def cmpD (op : CmpOp) (x y : D) : R Bool := match op with
  | .Eq => eqD x y
  | .NotEq => (eqD x y).bind fun b => .ok (!b)
  | .In => inD x y
  | .NotIn => (inD x y).bind fun b => .ok (!b)
  | .Is => isD x y
  | .IsNot => (isD x y).bind fun b => .ok (!b)
  | .Lt => match x, y with
    | .int i, .int j => .ok (decide (i < j))
    | _, _ => .bad
  | .LtE => match x, y with
    | .int i, .int j => .ok (decide (i ≤ j))
    | _, _ => .bad
  | .Gt => match x, y with
    | .int i, .int j => .ok (decide (j < i))
    | _, _ => .bad
  | .GtE => match x, y with
    | .int i, .int j => .ok (decide (j ≤ i))
    | _, _ => .bad
def truD : D → R Bool
  | .non => .ok false
  | .bl b => .ok b
  | .int i => .ok (i != 0)
  | .lst xs => .ok (!xs.isEmpty)
  | .tup xs => .ok (!xs.isEmpty)
  | _ => .bad
/-- a place of a list or tuple: the item and what of it is the holder's -/
def subD (s : Sl) (i : D) : R Sl := match i, s.2 with
  | .int i, .lst xs => (R.need (atI xs i)).bind fun d => .ok (match s.1 with | .lst o => o | _ => .sh, d)
  | .int i, .tup xs => (R.need (atI xs i)).bind fun d => match s.1 with | .sh => .ok (.sh, d) | _ => .bad
  | _, _ => .bad

/-! ### builtins of one argument -/
inductive Bl where
  | len | abs | int | tuple | list | set | sorted | max | min | sum
def blOf (x : Str) : Option Bl :=
  if x = "len" then some .len else if x = "abs" then some .abs else if x = "int" then some .int else if x = "tuple" then some .tuple else if x = "list" then some .list
  else if x = "set" then some .set else if x = "sorted" then some .sorted else if x = "max" then some .max else if x = "min" then some .min else if x = "sum" then some .sum else none
def maxI : Int → List Int → Int
  | m, [] => m
  | m, x :: r => maxI (if m < x then x else m) r
def minI : Int → List Int → Int
  | m, [] => m
  | m, x :: r => minI (if x < m then x else m) r
def blD (b : Bl) (s : Sl) : R Sl := match b with
  | .len => match s.2 with
    | .lst xs => .ok (.sh, .int xs.length)
    | .tup xs => .ok (.sh, .int xs.length)
    | _ => .bad
  | .abs => match s.2 with
    | .int i => .ok (.sh, .int (if i < 0 then -i else i))
    | _ => .bad
  | .int => match s.2 with
    | .int i => .ok (.sh, .int i)
    | .bl k => .ok (.sh, .int (if k then 1 else 0))
    | _ => .bad
  | .tuple => match s.2 with
    | .lst xs => if s.1.flat then .ok (.sh, .tup xs) else .bad
    | .tup xs => if s.1.isSh then .ok (.sh, .tup xs) else .bad
    | _ => .bad
  | .list => match s.2 with
    | .lst xs => if s.1.flat then .ok (.lst .sh, .lst xs) else .bad
    | .tup xs => if s.1.isSh then .ok (.lst .sh, .lst xs) else .bad
    | _ => .bad
  | .set => match (items s.2).bind intsOf with
    | some ns => if decide (ns.length + 1 < scanBound) then .ok (.sh, .iset (sdI ns)) else .bad
    | none => .bad
  | .sorted => match s.2 with
    | .iset ns => if decide (ns.length < 64) then .ok (.lst .sh, .lst (ns.map D.int)) else .bad
    | .lst xs => match intsOf xs with
      | some ns => .ok (.lst .sh, .lst ((ns.mergeSort fun a b => decide (a ≤ b)).map D.int))
      | none => .bad
    | _ => .bad
  | .max => match s.2 with
    | .lst xs => match intsOf xs with
      | some (n :: ns) => .ok (.sh, .int (maxI n ns))
      | _ => .bad
    | _ => .bad
  | .min => match s.2 with
    | .lst xs => match intsOf xs with
      | some (n :: ns) => .ok (.sh, .int (minI n ns))
      | _ => .bad
    | _ => .bad
  | .sum => match s.2 with
    | .lst xs => match intsOf xs with
      | some ns => .ok (.sh, .int ns.sum)
      | _ => .bad
    | _ => .bad
/-- the type's name -/
def tyD : D → Option String
  | .non => some "NoneType"
  | .bl _ => some "bool"
  | .int _ => some "int"
  | .str _ => some "str"
  | .tup _ => some "tuple"
  | .lst _ => some "list"
  | _ => none
def tyOf (x : Str) : Option String :=
  if x = "int" then some "int" else if x = "bool" then some "bool" else if x = "str" then some "str" else if x = "tuple" then some "tuple" else if x = "list" then some "list" else none
def isiD (d : D) (t : Str) : R Sl := match tyD d, tyOf t with
  | some a, some b => (R.need (kitB a b)).bind fun r => .ok (.sh, .bl r)
  | _, _ => .bad
def indexD : List V → V → Nat → R Nat
  | [], _, _ => .bad
  | z :: r, y, n => if eqV z y then .ok n else indexD r y (n + 1)
/-! ### expressions -/
structure Sm where
  B : Tb → Expr → DEnv → R Sl
  E : Tb → Expr → DEnv → R Sl
  T : Tb → Expr → DEnv → R Bool
abbrev Ev := DEnv → R Sl
/-- what is new is shared -/
def frzE (e : Ev) : Ev := fun env => (e env).bind fun s => .ok (.sh, s.2)
def listE (f : Expr → Ev) : List Expr → DEnv → R (List Sl)
  | [], _ => .ok []
  | e :: es, env => (f e env).bind fun x => (listE f es env).bind fun xs => .ok (x :: xs)
def binE (op : Operator) (a b : Ev) : Ev := fun env => (a env).bind fun x => (b env).bind fun y => binD op x y
def cmpE (op : CmpOp) (a b : Ev) : Ev := fun env => (a env).bind fun x => (b env).bind fun y => (cmpD op x.2 y.2).bind fun k => .ok (.sh, .bl k)
def blE (b : Bl) (a : Ev) : Ev := fun env => (a env).bind (blD b)
def isiE (a : Ev) (t : Str) : Ev := fun env => (a env).bind fun x => isiD x.2 t
def subE (a b : Ev) : Ev := fun env => (a env).bind fun x => (b env).bind fun y => subD x y.2
def idxE (a b : Ev) : Ev := fun env => (a env).bind fun x => match x.2 with
  | .lst xs => (b env).bind fun y => match y.2.vf with
    | some v => (R.need (D.vfs xs)).bind fun vs => (indexD vs v 0).bind fun j => .ok (.sh, .int j)
    | none => .bad
  | _ => .bad
def notE (a : Ev) : Ev := fun env => (a env).bind fun x => match x.2 with | .bl b => .ok (.sh, .bl (!b)) | _ => .bad
def negE (a : Ev) : Ev := fun env => (a env).bind fun x => match x.2 with | .int i => .ok (.sh, .int (-i)) | _ => .bad
def ifE (c : DEnv → R Bool) (a b : Ev) : Ev := fun env => (c env).bind fun k => if k then a env else b env
def andE (a b : Ev) : Ev := fun env => (a env).bind fun x => match x.2 with | .bl true => b env | .bl false => .ok (.sh, .bl false) | _ => .bad
def orE (a b : Ev) : Ev := fun env => (a env).bind fun x => match x.2 with | .bl false => b env | .bl true => .ok (.sh, .bl true) | _ => .bad
def boolE (f : Expr → Ev) (op : BoolOp) : List Expr → Ev
  | [] => fun _ => .bad
  | [a] => f a
  | a :: b :: r => match op with
    | .And => andE (f a) (boolE f op (b :: r))
    | .Or => orE (f a) (boolE f op (b :: r))
def chainE (op op' : CmpOp) (a b c : Ev) : Ev := fun env => (a env).bind fun x => (b env).bind fun y => (cmpD op x.2 y.2).bind fun k =>
  if k then (c env).bind fun z => (cmpD op' y.2 z.2).bind fun k' => .ok (.sh, .bl k') else .ok (.sh, .bl false)
def star : Expr → Bool
  | .Starred .. => true
  | _ => false
def call0 : Expr → Bool
  | .Call (.Name _ _) [] [] _ => true
  | _ => false
def lstE (f : Expr → Ev) (es : List Expr) : Ev := fun env => (listE f es env).bind fun xs => if xs.all (·.1.isSh) && decide (xs.length ≤ sizeLine) then .ok (.lst .sh, .lst (xs.map (·.2))) else .bad
def tupE (f : Expr → Ev) (es : List Expr) : Ev := fun env => (listE f es env).bind fun xs => if xs.all (·.1.isSh) && decide (xs.length ≤ sizeLine) then .ok (.sh, .tup (xs.map (·.2))) else .bad
def callE (T : Tb) (f : Str) (g : Sg) (h : Expr → Ev) (es : List Expr) : Ev := fun env => (listE h es env).bind fun xs => if decide (xs.length = g.n) && (!g.al || xs.all (·.1.isSh)) then (T.call f (xs.map (·.2))).bind fun d => .ok (g.ret, d) else .bad

/-- what a comprehension walks: the items -/
inductive Src where
  | seq (f : Ev) | range (f : Ev)
def iterD (s : Sl) : R (List D) := if s.1.isSh then R.need (items s.2) else .bad
def rangeD : Sl → R (List D)
  | (_, .int j) => if decide (-(2 ^ 62) ≤ j) && decide (j < 2 ^ 62) then .ok ((List.range j.toNat).map fun i : Nat => D.int i) else .bad
  | _ => .bad
def Src.run : Src → DEnv → R (List D)
  | .seq f, env => (f env).bind iterD
  | .range f, env => (f env).bind rangeD
def isRange : Expr → Option Expr
  | .Call (.Name f _) [a] [] _ => if f = "range" then some a else none
  | _ => none
def srcOf (T : Tb) (s : Sm) (e : Expr) : Src := match isRange e with
  | some a => if glB T.sc "range" && !star a then .range (s.B T a) else .seq fun _ => .bad
  | none => .seq (frzE (s.E T e))
/-- a target that is a name -/
def setSlot (i : Nat) (d : Sl) (env : DEnv) : DEnv := env.set i (some d)
def wipeD (env : DEnv) : List Nat → DEnv
  | [] => env
  | i :: r => (wipeD env r).set i none
def compR (i : Nat) (t : DEnv → R Bool) (e : Ev) (env : DEnv) : List D → R (List D)
  | [] => .ok []
  | x :: xs => (t (setSlot i (.sh, x) env)).bind fun k => if k then (e (setSlot i (.sh, x) env)).bind fun y => (compR i t e env xs).bind fun ys => if y.1.isSh then .ok (y.2 :: ys) else .bad else compR i t e env xs
def noExc {α : Type} : R α → R α
  | .exc _ => .bad
  | x => x
def compE (src : Src) (i : Nat) (t : DEnv → R Bool) (e : Ev) (own : List Nat) : Ev := fun env => (src.run env).bind fun xs => if decide (xs.length ≤ sizeLine) && decide (i < env.length) then (noExc (compR i t e (wipeD env own) xs)).bind fun ys => .ok (.lst .sh, .lst ys) else .bad
def ownOf (N : List Str) (sc : Scope) : List (Str × Nat) := sc.names.filterMap fun y => match y.2 with
  | .local => (ixOf y.1 N).map fun i => (y.1, i)
  | .cell => (ixOf y.1 N).map fun i => (y.1, i)
  | _ => none
def testsE (f : Expr → DEnv → R Bool) : List Expr → Option (DEnv → R Bool)
  | [] => some fun _ => .ok true
  | [c] => some (f c)
  | _ => none

def plainIx : Expr → Bool
  | .Slice .. => false
  | _ => true
def badE : Ev := fun _ => .bad
def constD : Const → Option D
  | .none => some .non
  | .bool b => some (.bl b)
  | .int i => some (.int i)
  | .str x => some (.str x)
  | _ => none
def nameE (T : Tb) (x : Str) : Ev := match slotOf T x with
  | some i => varE i
  | none => if glB T.sc x && okName x then match T.gl x with
    | some d => fun _ => .ok (.sh, d)
    | none => badE
    else badE
def isiArgs : List Expr → Option (Expr × Str)
  | [e, .Name t _] => some (e, t)
  | _ => none
def callsE (T : Tb) (s : Sm) (f : Str) (es : List Expr) : Ev :=
  if !(glB T.sc f && okName f) then badE else
  match T.sg f with
  | some g => if es.isEmpty || es.any star then badE else callE T f g (if g.al then (fun e => frzE (s.E T e)) else s.B T) es
  | none => if f = "isinstance" then match isiArgs es with
      | some (e, t) => if glB T.sc t && okName t && !star e && (tyOf t).isSome then isiE (s.B T e) t else badE
      | none => badE
    else match blOf f, es with
      | some b, [a] => if star a then badE else blE b (s.B T a)
      | _, _ => badE
def isSet : Expr → Bool
  | .Set .. => true
  | _ => false
def stepB (s : Sm) (T : Tb) (e : Expr) : Ev := match e with
  | .Name x _ => match slotOf T x with
    | some i => varB i
    | none => s.E T e
  | .Subscript a b _ => if plainIx b then subE (s.B T a) (s.E T b) else s.E T e
  | e => s.E T e
def stepE (s : Sm) (T : Tb) (e : Expr) : Ev := match e with
  | .Constant c _ _ => match constD c with
    | some d => fun _ => .ok (.sh, d)
    | none => badE
  | .Name x _ => nameE T x
  | .BinOp a op b _ => binE op (s.B T a) (s.B T b)
  | .UnaryOp .Not a _ => notE (s.B T a)
  | .UnaryOp .USub a _ => negE (s.B T a)
  | .BoolOp op es _ => boolE (s.E T) op es
  | .IfExp c a b _ => ifE (s.T T c) (s.E T a) (s.E T b)
  | .Compare a [op] [b] _ => if behindInMarks op b then badE else cmpE op (s.B T a) (s.B T b)
  | .Compare a [op, op'] [b, c] _ => if behindInMarks op' c then badE else chainE op op' (s.B T a) (s.B T b) (s.B T c)
  | .Subscript a b _ => if plainIx b then fun env => (subE (s.B T a) (s.E T b) env).bind Sl.asSh else badE
  | .List es _ => if es.any star then badE else lstE (fun e => frzE (s.E T e)) es
  | .Tuple es _ _ => if es.any star then badE else tupE (fun e => frzE (s.E T e)) es
  | .Call (.Name f _) es [] _ => callsE T s f es
  | .Call (.Attribute o m ap) [a] [] p => if m = "index" then if ap.endLine == p.line && !star a && !call0 o then idxE (s.B T o) (s.B T a) else badE else badE
  | .ListComp elt [⟨.Name x _, iter, ifs, 0⟩] scope _ =>
    match ixOf x T.N, testsE (s.T { T with sc := scope }) ifs with
    | some i, some t => if blkC T.N T.sc scope (ownOf T.N scope) && locB scope x && decide (i ∈ (ownOf T.N scope).map (·.2)) && !isSet iter then compE (srcOf T s iter) i t (frzE (s.E { T with sc := scope } elt)) ((ownOf T.N scope).map (·.2)) else badE
    | _, _ => badE
  | _ => badE
def plainTest : Expr → Bool
  | .UnaryOp .Not _ _ => false
  | .BoolOp .. => false
  | .IfExp .. => false
  | .Compare .. => false
  | _ => true
def andT (a b : DEnv → R Bool) : DEnv → R Bool := fun env => (a env).bind fun k => if k then b env else .ok false
def orT (a b : DEnv → R Bool) : DEnv → R Bool := fun env => (a env).bind fun k => if k then .ok true else b env
def boolT (f : Expr → DEnv → R Bool) (op : BoolOp) : List Expr → DEnv → R Bool
  | [] => fun _ => .bad
  | [a] => f a
  | a :: b :: r => match op with
    | .And => andT (f a) (boolT f op (b :: r))
    | .Or => orT (f a) (boolT f op (b :: r))
def notT (a : DEnv → R Bool) : DEnv → R Bool := fun env => (a env).bind fun k => .ok (!k)
def truE (a : Ev) : DEnv → R Bool := fun env => (a env).bind fun x => truD x.2
def blT (a : Ev) : DEnv → R Bool := fun env => (a env).bind fun x => match x.2 with | .bl b => .ok b | _ => .bad
def stepT (s : Sm) (T : Tb) (e : Expr) : DEnv → R Bool := match e with
  | .UnaryOp .Not a _ => notT (s.T T a)
  | .BoolOp op es _ => boolT (s.T T) op es
  | .Compare a [op] [b] _ => if behindInMarks op b then fun _ => .bad else blT (cmpE op (s.B T a) (s.B T b))
  | .Compare a [op, op'] [b, c] _ => if behindInMarks op' c then fun _ => .bad else blT (chainE op op' (s.B T a) (s.B T b) (s.B T c))
  | e => if plainTest e then truE (s.B T e) else fun _ => .bad
def step (s : Sm) : Sm := ⟨stepB s, stepE s, stepT s⟩
def sm : Nat → Sm
  | 0 => ⟨fun _ _ => badE, fun _ _ => badE, fun _ _ _ => .bad⟩
  | n + 1 => step (sm n)

/-! ### which slots' values may be handed on: they become shared -/
def parts : List (Option Expr) → List Expr := List.filterMap id
def al : Nat → Tb → Bool → Expr → List Nat
  | 0, _, _, _ => []
  | n + 1, T, m, e => match e with
    | .Name x _ => if m then (match slotOf T x with | some i => [i] | none => []) else []
    | .BinOp a _ b _ => al n T false a ++ al n T false b
    | .UnaryOp _ a _ => al n T false a
    | .BoolOp _ es _ => es.flatMap (al n T true)
    | .IfExp c a b _ => al n T false c ++ (al n T true a ++ al n T true b)
    | .Compare a _ bs _ => al n T false a ++ bs.flatMap (al n T false)
    | .Subscript a (.Slice lo hi st _) _ => al n T false a ++ (parts [lo, hi, st]).flatMap (al n T true)
    | .Subscript a b _ => al n T false a ++ al n T true b
    | .List es _ => es.flatMap (al n T true)
    | .Tuple es _ _ => es.flatMap (al n T true)
    | .Call (.Name f _) es _ _ => match T.sg f with
      | some g => es.flatMap (al n T g.al)
      | none => es.flatMap (al n T false)
    | .Call (.Attribute o _ _) es _ _ => al n T false o ++ es.flatMap (al n T false)
    | .ListComp elt gs _ _ => (gs.flatMap fun g => al n T true g.iter ++ g.ifs.flatMap (al n T false)) ++ al n T true elt
    | _ => []
def dem1 (i : Nat) (env : DEnv) : DEnv := match env[i]? with
  | some (some (_, d)) => env.set i (some (.sh, d))
  | _ => env
def dem : List Nat → DEnv → DEnv
  | [], env => env
  | i :: r, env => dem r (dem1 i env)

/-! ### statements -/
inductive Fl where
  | nx (env : DEnv) | rt (s : Sl) | bk (env : DEnv) | ct (env : DEnv)
abbrev Ex := DEnv → R Fl
def seqS (f : Stmt → Ex) : List Stmt → Ex
  | [], env => .ok (.nx env)
  | s :: r, env => (f s env).bind fun fl => match fl with
    | .nx env' => seqS f r env'
    | fl => .ok fl
def demS (l : List Nat) (x : Ex) : Ex := fun env => x (dem l env)
def setS (i : Nat) (e : Ev) : Ex := fun env => if decide (i < env.length) then (e env).bind fun s => .ok (.nx (setSlot i s env)) else .bad
def appS (i : Nat) (e : Ev) : Ex := fun env => match env[i]? with
  | some (some (.lst .sh, .lst xs)) => (e env).bind fun y => (Sl.asSh y).bind fun y => if decide (xs.length < sizeLine) then .ok (.nx (setSlot i (.lst .sh, .lst (xs ++ [y.2])) env)) else .bad
  | _ => .bad
def retS (e : Ev) : Ex := fun env => (e env).bind fun s => .ok (.rt s)
def ifS (c : DEnv → R Bool) (a b : Ex) : Ex := fun env => (c env).bind fun k => if k then a env else b env
def forD (i : Nat) (body : Ex) : List D → Ex
  | [], env => .ok (.nx env)
  | x :: xs, env => if decide (i < env.length) then (body (setSlot i (.sh, x) env)).bind fun fl => match fl with
    | .nx env' => forD i body xs env'
    | .ct env' => forD i body xs env'
    | .bk env' => .ok (.nx env')
    | .rt s => .ok (.rt s)
    else .bad
def forS (i : Nat) (src : Src) (body : Ex) : Ex := fun env => (src.run env).bind fun xs => forD i body xs env
def whileD (l : List Nat) (c : DEnv → R Bool) (body : Ex) : Nat → Ex
  | 0, _ => .bad
  | n + 1, env => (c (dem l env)).bind fun k => if k then (body (dem l env)).bind fun fl => match fl with
      | .nx env' => whileD l c body n env'
      | .ct env' => whileD l c body n env'
      | .bk env' => .ok (.nx env')
      | .rt s => .ok (.rt s)
    else .ok (.nx (dem l env))
@[irreducible] def whileFuel : Nat := 1099511627776
def badS : Ex := fun _ => .bad
def isComp : Expr → Bool
  | .ListComp .. => true
  | .SetComp .. => true
  | .DictComp .. => true
  | _ => false
def compScope : Expr → Option Scope
  | .ListComp _ _ s _ => some s
  | _ => none
/-- the store of a comprehension's list is the block's own -/
def swapB (sc : Scope) (x : Str) (px : Pos) (e : Expr) : Bool := match compScope e with
  | some s => (match sc.names.lookup x with | some .local => true | _ => false) && px.line == e.pos.line && !(s.names.any fun y => y.1 == x && (y.2 == .local || y.2 == .cell))
  | none => false
def stepX (s : Sm) (n : Nat) (x : Tb → Stmt → Ex) (T : Tb) (st : Stmt) : Ex := match st with
  | .Pass _ => fun env => .ok (.nx env)
  | .Break _ => fun env => .ok (.bk env)
  | .Continue _ => fun env => .ok (.ct env)
  | .Expr (.Constant (.str _) _ _) _ => fun env => .ok (.nx env)
  | .Expr (.Call (.Attribute (.Name y _) m ap) [a] [] p) _ =>
    if m = "append" then match slotOf T y with
      | some i => if ap.endLine == p.line && !star a then demS (al n T true a) (appS i (frzE (s.E T a))) else badS
      | none => badS
    else badS
  | .Assign [.Name y py] e _ => match ixOf y T.N with
    | some i => if locB T.sc y && okName y && (!isComp e || (compScope e).isSome) then demS (al n T true e) (setS i (stepE s T e)) else badS
    | none => badS
  | .While c body [] _ => whileD (al n T false c) (s.T T c) (seqS (x T) body) whileFuel
  | .If c a b _ => demS (al n T false c) (ifS (s.T T c) (seqS (x T) a) (seqS (x T) b))
  | .For (.Name y _) iter body [] _ => match ixOf y T.N with
    | some i => if locB T.sc y && okName y && !isSet iter then demS (al n T true iter) (forS i (srcOf T s iter) (seqS (x T) body)) else badS
    | none => badS
  | .Return (some (.Name y p)) _ => match slotOf T y with
    | some i => retS (varB i)
    | none => retS (s.E T (.Name y p))
  | .Return (some e) _ => demS (al n T true e) (retS (s.E T e))
  | .Return none _ => retS fun _ => .ok (.sh, .non)
  | _ => badS
def sx (s : Sm) : Nat → Tb → Stmt → Ex
  | 0 => fun _ _ => badS
  | n + 1 => stepX s n (sx s n)

/-! ### defs -/
mutual
def imm : D → Bool
  | .non => true
  | .bl _ => true
  | .int _ => true
  | .str _ => true
  | .tup xs => imms xs
  | .lst _ => false
  | .iset _ => false
  | .ins _ _ => false
def imms : List D → Bool
  | [] => true
  | x :: r => imm x && imms r
end
mutual
def immO : Ow → D → Bool
  | .sh, d => imm d
  | .lst o, .lst xs => immOl o xs
  | .tup os, .tup xs => immOt os xs
  | _, _ => false
def immOl : Ow → List D → Bool
  | _, [] => true
  | o, x :: r => immO o x && immOl o r
def immOt : List Ow → List D → Bool
  | [], [] => true
  | o :: os, x :: r => immO o x && immOt os r
  | _, _ => false
end
mutual
def owEq : Ow → Ow → Bool
  | .sh, .sh => true
  | .lst a, .lst b => owEq a b
  | .tup a, .tup b => owEqs a b
  | _, _ => false
def owEqs : List Ow → List Ow → Bool
  | [], [] => true
  | a :: r, b :: q => owEq a b && owEqs r q
  | _, _ => false
end
def finD (g : Sg) (s : Sl) : R D := if (g.ret.isSh || owEq s.1 g.ret) && (g.al || immO g.ret s.2) then .ok s.2 else .bad
def env0 (N : List Str) (ds : List D) : DEnv := ds.map (fun d => some (.sh, d)) ++ List.replicate (N.length - ds.length) none
def okExn {α : Type} : R α → R α
  | .exc x => if x.fs.all fun p => imm p.2 then .exc x else .bad
  | x => x
def finF (g : Sg) : Fl → R D
  | .nx _ => finD g (.sh, .non)
  | .rt s => finD g s
  | _ => .bad
def runD (g : Sg) (N : List Str) (body : Ex) (ds : List D) : R D := if ds.length = g.n then (okExn (body (env0 N ds))).bind (finF g) else .bad

/-! ### a text's defs -/
structure Df where
  name : Str
  st : Stmt
  N : List Str
  ps : List Str
  g : Sg
def fnd (tab : List Df) (f : Str) : Option Df := tab.find? fun d => d.name = f
def fuel : Nat := 40
def tbOf (tab : List Df) (gl : Str → Option D) (call : Str → List D → R D) (d : Df) : Tb := ⟨d.N, L2.defScope d.st, fun f => (fnd tab f).map (·.g), call, gl⟩
def bodyOf (T : Tb) (st : Stmt) : Ex := seqS (sx (sm fuel) fuel T) (L2.defBody st)
def semAt (tab : List Df) (gl : Str → Option D) : Nat → Str → List D → R D
  | 0 => fun _ _ => .bad
  | n + 1 => fun f ds => match fnd tab f with
    | some d => runD d.g d.N (bodyOf (tbOf tab gl (semAt tab gl n) d) d.st) ds
    | none => .bad
end PyD

set_option Elab.async false
set_option linter.all false
set_option maxRecDepth 100000
set_option maxHeartbeats 2000000
namespace PyD
open PySem PySem.Spec PyProof.Rows L2

def RepX (k : Ki) (F : Hp) (x : Exn) (cls : Value) (dd : Option Addr) : Prop :=
  ∃ C, k.cl x.cls = some C ∧ cls = .ref C ∧ ((x.fs = [] ∧ dd = none) ∨ ∃ d vfs, dd = some d ∧ F d = some (.xd vfs) ∧ RepF k F x.fs vfs)
/-- a def's promise: what its reading by data says -/
def spOf (k : Ki) (sem : List D → R D) (g : Sg) : Sp := fun vs H Q E => vs.length = g.n ∧ ∃ F ds, Same F H ∧ Reps k F ds vs ∧ match sem ds with
  | .ok d => ∀ v F' H' O, Ext F H F' H' O → RepO k F' g.ret O d v → Q v H'
  | .exc x => ∀ F' H' cls dd, Ext F H F' H' [] → RepX k F' x cls dd → E cls dd H'
  | .bad => False
structure Cal (X : Cx) (k : Ki) (T : Tb) (f : Str) (g : Sg) : Prop where
  ex : ∃ fa fd ps lev, FnOk X.prog X.w X.K X.mg X.base (L2.CX X.prog X.w) lev fa fd ps (spOf k (T.call f) g) ∧ Room lev X.A ∧ X.mg f = some (.ref fa) ∧ PySem.W.keepIn X.K (.ref fa) = true ∧ L2.Binds X.K fd ps []
def bname (x : Str) : Bool := (blOf x).isSome || decide (x = "isinstance") || decide (x = "range") || (tyOf x).isSome
structure XOk (k : Ki) (T : Tb) (E : XK) (X : Cx) : Prop where
  hN : X.N = T.N
  nd : T.N.Nodup
  calm : X.calm = true
  hK : X.K = k.K
  hw : X.w = k.w
  un : X.A.units + 65 < cLine
  vis : ∀ x, visB T.sc x = true → Vis X.env.scope x
  loc : ∀ x, locB T.sc x = true → Loc X.env.scope x
  gl : ∀ x, glB T.sc x = true → X.env.scope.names.lookup x = some .globalImplicit
  fr : ∀ x, (T.sc.names.lookup x = some .cell ∨ T.sc.names.lookup x = some .free) → (X.env.scope.names.lookup x = some .cell ∨ X.env.scope.names.lookup x = some .free)
  blt : ∀ x, bname x = true → X.mg x = none
  cal : ∀ f g, T.sg f = some g → Cal X k T f g
  con : ∀ x d, T.gl x = some d → ∃ u v, X.mg x = some u ∧ L2.RelV v u ∧ ∀ F, Rep k F d v
  ps : Passes (L2.CX X.prog X.w) X E
  im : ∀ f g ds d, T.sg f = some g → g.al = false → T.call f ds = .ok d → immO g.ret d = true
  imx : ∀ f g ds x, T.sg f = some g → T.call f ds = .exc x → (x.fs.all fun p => imm p.2) = true

structure Bs (k : Ki) (F : Hp) (O : OL) (env : DEnv) (σ : L2.St) (H : Hp) : Prop where
  er : EnvRep k F O env σ
  sf : Same F H
  ow : ∀ p ∈ O, H p.1 = some p.2 ∧ F p.1 = none
theorem Bs.ext {k : Ki} {F F' H H' : Hp} {O Of : OL} {env : DEnv} {σ : L2.St} (b : Bs k F O env σ H) (e : Ext F H F' H' Of) : Bs k F' O env σ H' :=
  ⟨b.er.mono e.sF, e.fh, fun p hp => ⟨e.sH _ _ (b.ow p hp).1, (e.ag _ (by rw [(b.ow p hp).1]; exact fun z => nomatch z)).trans (b.ow p hp).2⟩⟩
/-- what is wanted behind an expression; own: what it gives is new or shared -/
def Out (k : Ki) (F H : Hp) (O : OL) (Q : VK) (own : Bool) (E : XK) : R Sl → Prop
  | .ok s => ∀ v F' H' Of Ob, Ext F H F' H' Of → RepO k F' s.1 Ob s.2 v → (if own = true then Ob = Of else ∀ p ∈ Ob, p ∈ Of ∨ p ∈ O) → Q v H'
  | .exc x => ∀ F' H' cls dd, Ext F H F' H' [] → RepX k F' x cls dd → E cls dd H'
  | .bad => False
def tD (k : Ki) (E : XK) (own : Bool) (sem : Ev) : TE := fun σ H Q => ∃ F O env, Bs k F O env σ H ∧ Out k F H O Q own E (sem env)
def OutT (k : Ki) (F H : Hp) (Q : Bool → Hp → Prop) (E : XK) : R Bool → Prop
  | .ok b => ∀ F' H', Ext F H F' H' [] → Q b H'
  | .exc x => ∀ F' H' cls dd, Ext F H F' H' [] → RepX k F' x cls dd → E cls dd H'
  | .bad => False
def tDT (k : Ki) (E : XK) (sem : DEnv → R Bool) : TT := fun σ H Q => ∃ F O env, Bs k F O env σ H ∧ OutT k F H Q E (sem env)

theorem peI {X : Cx} {e : Expr} {t t' : TE} (h : PE X e t) (i : ∀ σ H Q, t' σ H Q → t σ H Q) : PE X e t' := ⟨fun pins s σ H Q I hw => h.run pins s σ H Q I (i σ H Q hw)⟩
theorem ptI {X : Cx} {e : Expr} {t t' : TT} (h : PT X e t) (i : ∀ σ H Q, t' σ H Q → t σ H Q) : PT X e t' := ⟨fun pins s σ H Q I hw => h.run pins s σ H Q I (i σ H Q hw)⟩
theorem pwI {X : Cx} {e : Expr} {t t' : TT} (h : PW X e t) (i : ∀ σ H Q, t' σ H Q → t σ H Q) : PW X e t' := ⟨fun wh pins s σ H Q I hw => h.run wh pins s σ H Q I (i σ H Q hw)⟩
theorem paI {X : Cx} {e : List Expr} {t t' : TA} (h : PA X e t) (i : ∀ σ H Q, t' σ H Q → t σ H Q) : PA X e t' := ⟨fun pos pins s σ H Q I hw => h.run pos pins s σ H Q I (i σ H Q hw)⟩
theorem psI {X : Cx} {e : Stmt} {t t' : TS} (h : PS X e t) (i : ∀ D σ H, t' D σ H → t D σ H) : PS X e t' := ⟨fun pins s σ H D I hw => h.run pins s σ H D I (i D σ H hw)⟩
theorem pssI {X : Cx} {e : List Stmt} {t t' : TS} (h : PSs X e t) (i : ∀ D σ H, t' D σ H → t D σ H) : PSs X e t' := ⟨fun pins s σ H D I hw => h.run pins s σ H D I (i D σ H hw)⟩
theorem peBad {X : Cx} {e : Expr} {k : Ki} {E : XK} {own : Bool} : PE X e (tD k E own badE) := ⟨fun _ _ _ _ _ _ ⟨_, _, _, _, h⟩ => h.elim⟩

section
variable {k : Ki} {F F1 H H1 : Hp} {O O1 : OL} {Q : VK} {own : Bool} {E : XK}
theorem Ext.drop {F H F1 H1 F2 H2 : Hp} {A B : OL} (a : Ext F H F1 H1 A) (b : Ext F1 H1 F2 H2 B) : Ext F H F2 H2 B :=
  (a.trans b).sub (fun p hp => List.mem_append_left _ hp) b.nd
theorem Out.shift {x : R Sl} (h : Out k F H O Q own E x) (e : Ext F H F1 H1 O1) : Out k F1 H1 O Q own E x := by
  cases x with
  | ok s => exact fun v F' H' Of Ob e' r c => h v F' H' Of Ob (e.drop e') r c
  | exc x => exact fun F' H' cls dd e' r => h F' H' cls dd (e.drop e') r
  | bad => exact h
theorem OutT.shift {x : R Bool} {Q : Bool → Hp → Prop} (h : OutT k F H Q E x) (e : Ext F H F1 H1 O1) : OutT k F1 H1 Q E x := by
  cases x with
  | ok s => exact fun F' H' e' => h F' H' (e.drop e')
  | exc x => exact fun F' H' cls dd e' r => h F' H' cls dd (e.drop e') r
  | bad => exact h
/-- the first part of a bind -/
theorem Out.fst {x : R Sl} {f : Sl → R Sl} {Q' : VK} {b : Bool} (h : Out k F H O Q own E (x.bind f))
    (g : ∀ s v F' H' Of Ob, x = .ok s → Ext F H F' H' Of → RepO k F' s.1 Ob s.2 v → (if b = true then Ob = Of else ∀ p ∈ Ob, p ∈ Of ∨ p ∈ O) → Out k F' H' O Q own E (f s) → Q' v H') : Out k F H O Q' b E x := by
  cases x with
  | ok s => exact fun v F' H' Of Ob e r c => g s v F' H' Of Ob rfl e r c (Out.shift h e)
  | exc x => exact h
  | bad => exact h
theorem OutT.fst {x : R Sl} {f : Sl → R Bool} {Q : Bool → Hp → Prop} {Q' : VK} {b : Bool} (h : OutT k F H Q E (x.bind f))
    (g : ∀ s v F' H' Of Ob, x = .ok s → Ext F H F' H' Of → RepO k F' s.1 Ob s.2 v → (if b = true then Ob = Of else ∀ p ∈ Ob, p ∈ Of ∨ p ∈ O) → OutT k F' H' Q E (f s) → Q' v H') : Out k F H O Q' b E x := by
  cases x with
  | ok s => exact fun v F' H' Of Ob e r c => g s v F' H' Of Ob rfl e r c (OutT.shift h e)
  | exc x => exact h
  | bad => exact h
theorem Out.fstT {x : R Bool} {f : Bool → R Sl} {Q' : Bool → Hp → Prop} (h : Out k F H O Q own E (x.bind f)) (g : ∀ s F' H', x = .ok s → Ext F H F' H' [] → Out k F' H' O Q own E (f s) → Q' s H') : OutT k F H Q' E x := by
  cases x with
  | ok s => exact fun F' H' e => g s F' H' rfl e (Out.shift h e)
  | exc x => exact h
  | bad => exact h
theorem OutT.fstT {x : R Bool} {f : Bool → R Bool} {Q Q' : Bool → Hp → Prop} (h : OutT k F H Q E (x.bind f)) (g : ∀ s F' H', x = .ok s → Ext F H F' H' [] → OutT k F' H' Q E (f s) → Q' s H') : OutT k F H Q' E x := by
  cases x with
  | ok s => exact fun F' H' e => g s F' H' rfl e (OutT.shift h e)
  | exc x => exact h
  | bad => exact h
/-- a datum without anything of its own, the heap as it is -/
theorem Out.val {d : D} {v : V} (h : Out k F H O Q own E (.ok (.sh, d))) (s : Same F H) (r : Rep k F d v) : Q v H := by
  refine h v F H [] [] (Ext.refl s) (.sh r) ?_
  cases own with
  | true => exact rfl
  | false => exact fun _ z => nomatch z
theorem Out.new {s : Sl} {v : V} {F' H' : Hp} {Of : OL} (h : Out k F H O Q own E (.ok s)) (e : Ext F H F' H' Of) (r : RepO k F' s.1 Of s.2 v) : Q v H' := by
  refine h v F' H' Of Of e r ?_
  cases own with
  | true => exact rfl
  | false => exact fun p z => .inl z
end
/-! a new object -/
theorem Ext.newF {F H : Hp} {p : Addr} {o : HO} (s : Same F H) (n : H p = none) : Ext F H (upd F p o) (upd H p o) [] := by
  have nF : F p = none := s.free n
  refine ⟨fun b u e => ?_, fun b u e => ?_, fun b h => ?_, fun b u e => ?_, (fun _ z => nomatch z), List.nodup_nil⟩
  · rw [upd_ne (ne_of_none e nF)]; exact e
  · rw [upd_ne (ne_of_none e n)]; exact e
  · rw [upd_ne]; intro z; rw [z] at h; exact h n
  · by_cases z : b = p
    · rw [z, upd_same] at e ⊢; exact e
    · rw [upd_ne z] at e ⊢; exact s _ _ e
theorem Ext.newO {F H : Hp} {p : Addr} {o : HO} (s : Same F H) (n : H p = none) : Ext F H F (upd H p o) [(p, o)] := by
  refine ⟨Same.refl _, fun b u e => ?_, fun b h => rfl, fun b u e => ?_, fun q hq => ?_, by simp⟩
  · rw [upd_ne (ne_of_none e n)]; exact e
  · rw [upd_ne (ne_of_none (s _ _ e) n)]; exact s _ _ e
  · rw [List.mem_singleton.mp hq]
    exact ⟨n, upd_same, s.free n⟩

/-! ### operations by values -/
/-- what is known of an operand -/
structure Arg (k : Ki) (F H : Hp) (s : Sl) (v : V) : Prop where
  ex : ∃ O, RepO k F s.1 O s.2 v ∧ ∀ p ∈ O, H p.1 = some p.2
theorem Arg.mono {k : Ki} {F H F' H' : Hp} {s : Sl} {v : V} {Of : OL} (a : Arg k F H s v) (e : Ext F H F' H' Of) : Arg k F' H' s v := by
  obtain ⟨O, r, h⟩ := a.ex
  exact ⟨O, r.mono e.sF, fun p hp => e.sH _ _ (h p hp)⟩
theorem Arg.of {k : Ki} {F H F' H' : Hp} {s : Sl} {v : V} {O Of Ob : OL} {env : DEnv} {σ : L2.St} {b : Bool} (B : Bs k F O env σ H) (e : Ext F H F' H' Of) (r : RepO k F' s.1 Ob s.2 v) (c : if b = true then Ob = Of else ∀ p ∈ Ob, p ∈ Of ∨ p ∈ O) : Arg k F' H' s v := by
  refine ⟨Ob, r, fun p hp => ?_⟩
  cases b with
  | true => rw [show Ob = Of from c] at hp; exact (e.own p hp).2.1
  | false =>
    rcases (show ∀ p ∈ Ob, p ∈ Of ∨ p ∈ O from c) p hp with h | h
    · exact (e.own p h).2.1
    · exact e.sH _ _ (B.ow p h).1
theorem arg_int {k : Ki} {F H : Hp} {o : Ow} {i : Int} {v : V} (a : Arg k F H (o, .int i) v) : v = .int i := by
  obtain ⟨O, r, h⟩ := a.ex
  cases r with
  | sh r => cases r; rfl
theorem arg_bl {k : Ki} {F H : Hp} {o : Ow} {i : Bool} {v : V} (a : Arg k F H (o, .bl i) v) : v = .bl i := by
  obtain ⟨O, r, h⟩ := a.ex
  cases r with
  | sh r => cases r; rfl
theorem arg_str {k : Ki} {F H : Hp} {o : Ow} {i : Str} {v : V} (a : Arg k F H (o, .str i) v) : v = .str i := by
  obtain ⟨O, r, h⟩ := a.ex
  cases r with
  | sh r => cases r; rfl
theorem arg_non {k : Ki} {F H : Hp} {o : Ow} {v : V} (a : Arg k F H (o, .non) v) : v = .non := by
  obtain ⟨O, r, h⟩ := a.ex
  cases r with
  | sh r => cases r; rfl
theorem arg_vf {k : Ki} {F H : Hp} {s : Sl} {v x : V} (a : Arg k F H s v) (e : s.2.vf = some x) : v = x := by
  obtain ⟨o, d⟩ := s
  cases d with
  | non => cases e; exact arg_non a
  | bl b => cases e; exact arg_bl a
  | int b => cases e; exact arg_int a
  | str b => cases e; exact arg_str a
  | _ => cases e
/-- the items, by themselves or shared -/
theorem RepOl.shs {k : Ki} {F : Hp} : ∀ {O : OL} {ds : List D} {vs : List V}, RepOl k F .sh O ds vs → O = [] ∧ Reps k F ds vs
  | _, _, _, .nil => ⟨rfl, .nil⟩
  | _, _, _, .cons h t => by
    cases h with
    | sh h =>
      obtain ⟨e, r⟩ := t.shs
      subst e
      exact ⟨rfl, .cons h r⟩
theorem arg_lst {k : Ki} {F H : Hp} {o : Ow} {ds : List D} {v : V} (a : Arg k F H (o, .lst ds) v) (s : Same F H) : ∃ a vs, v = .ref a ∧ SqL k.K H a vs ∧ vs.length = ds.length ∧ (o.flat = true → Reps k F ds vs) ∧ ∃ O, (∀ p ∈ O, H p.1 = some p.2) ∧ ((o = .sh ∧ Reps k F ds vs) ∨ ∃ o', o = .lst o' ∧ RepOl k F o' O ds vs) := by
  have len : ∀ {ds : List D} {vs : List V}, Reps k F ds vs → vs.length = ds.length := fun {ds} => by
    induction ds with
    | nil => intro vs r; cases r; rfl
    | cons d r ih => intro vs h; cases h with | cons h t => rw [List.length_cons, List.length_cons, ih t]
  have lenO : ∀ {o : Ow} {ds : List D} {O : OL} {vs : List V}, RepOl k F o O ds vs → vs.length = ds.length := fun {o ds} => by
    induction ds with
    | nil => intro O vs r; cases r; rfl
    | cons d r ih => intro O vs h; cases h with | cons h t => rw [List.length_cons, List.length_cons, ih t]
  obtain ⟨O, r, h⟩ := a.ex
  cases r with
  | sh r => cases r with | lst hr r => exact ⟨_, _, rfl, s.seq hr, len r, fun _ => r, [], (fun _ z => nomatch z), .inl ⟨rfl, r⟩⟩
  | lst r =>
    refine ⟨_, _, rfl, .inl (.inl (h _ List.mem_cons_self)), lenO r, fun f => ?_, _, (fun p hp => h p (List.mem_cons_of_mem _ hp)), .inr ⟨_, rfl, r⟩⟩
    rename_i o' _ _ _
    cases o' with
    | sh => exact r.shs.2
    | _ => cases f
theorem Reps.length {k : Ki} {F : Hp} : ∀ {ds : List D} {vs : List V}, Reps k F ds vs → vs.length = ds.length
  | _, _, .nil => rfl
  | _, _, .cons _ t => by rw [List.length_cons, List.length_cons, t.length]
theorem RepOt.length {k : Ki} {F : Hp} : ∀ {os : List Ow} {O : OL} {ds : List D} {vs : List V}, RepOt k F os O ds vs → vs.length = ds.length
  | _, _, _, _, .nil => rfl
  | _, _, _, _, .cons _ t => by rw [List.length_cons, List.length_cons, t.length]
theorem arg_tup {k : Ki} {F H : Hp} {o : Ow} {ds : List D} {v : V} (a : Arg k F H (o, .tup ds) v) : ∃ a vs, v = .ref a ∧ SqT k.K F a vs ∧ vs.length = ds.length ∧ (o.isSh = true → Reps k F ds vs) := by
  obtain ⟨O, r, h⟩ := a.ex
  cases r with
  | sh r => cases r with | tup hr r => exact ⟨_, _, rfl, hr, r.length, fun _ => r⟩
  | tup hr r => exact ⟨_, _, rfl, hr, r.length, fun f => nomatch f⟩
/-- a two-place operation keeps what g says -/
def rOp (k : Ki) (g : Sl → Sl → R Sl) : R2 := fun x y H Q => ∃ F s1 s2 s3, Same F H ∧ Arg k F H s1 x ∧ Arg k F H s2 y ∧ g s1 s2 = .ok s3 ∧ ∀ v F' H' Of, Ext F H F' H' Of → RepO k F' s3.1 Of s3.2 v → Q v H'
def rUn (k : Ki) (g : Sl → R Sl) : V → Hp → VK → Prop := fun x H Q => ∃ F s1 s3, Same F H ∧ Arg k F H s1 x ∧ g s1 = .ok s3 ∧ ∀ v F' H' Of, Ext F H F' H' Of → RepO k F' s3.1 Of s3.2 v → Q v H'
def rCl (k : Ki) (g : Sl → R Sl) : List V → Hp → VK → Prop := fun xs H Q => ∃ x, xs = [x] ∧ rUn k g x H Q
section
variable {X : Cx} {k : Ki} {E : XK} {a b c : Expr} {sa sb sc : Ev} {own : Bool} {pos : Pos}
theorem tD_bin {g : Sl → Sl → R Sl} (hg : ∀ s1 s2 e, g s1 s2 ≠ .exc e) {σ : L2.St} {H : Hp} {Q : VK} (h : tD k E own (fun env => (sa env).bind fun x => (sb env).bind fun y => g x y) σ H Q) : tOp (rOp k g) (tD k E false sa) (tD k E false sb) σ H Q := by
  obtain ⟨F, O, env, B, h⟩ := h
  refine ⟨F, O, env, B, h.fst fun s1 v1 F1 H1 Of1 Ob1 e1 x1 r1 c1 h1 => ⟨F1, O, env, B.ext x1, h1.fst fun s2 v2 F2 H2 Of2 Ob2 e2 x2 r2 c2 h2 => ?_⟩⟩
  have A1 : Arg k F1 H1 s1 v1 := Arg.of B x1 r1 c1
  have A2 : Arg k F2 H2 s2 v2 := Arg.of (B.ext x1) x2 r2 c2
  cases q : g s1 s2 with
  | ok s3 =>
    rw [q] at h2
    exact ⟨F2, s1, s2, s3, x2.fh, A1.mono x2, A2, q, fun v F' H' Of e r => h2.new e r⟩
  | exc e => exact absurd q (hg _ _ _)
  | bad => rw [q] at h2; exact h2.elim
theorem tD_un {g : Sl → R Sl} (hg : ∀ s1 e, g s1 ≠ .exc e) {σ : L2.St} {H : Hp} {Q : VK} (h : tD k E own (fun env => (sa env).bind g) σ H Q) : tD k E false sa σ H fun x H1 => rUn k g x H1 Q := by
  obtain ⟨F, O, env, B, h⟩ := h
  refine ⟨F, O, env, B, h.fst fun s1 v1 F1 H1 Of1 Ob1 e1 x1 r1 c1 h1 => ?_⟩
  have A1 : Arg k F1 H1 s1 v1 := Arg.of B x1 r1 c1
  cases q : g s1 with
  | ok s3 =>
    rw [q] at h1
    exact ⟨F1, s1, s3, x1.fh, A1, q, fun v F' H' Of e r => h1.new e r⟩
  | exc e => exact absurd q (hg _ _)
  | bad => rw [q] at h1; exact h1.elim
end
end PyD

set_option Elab.async false
set_option linter.all false
set_option maxRecDepth 100000
set_option maxHeartbeats 4000000
namespace PyD
open PySem PySem.Spec PyProof.Rows L2
section
variable {X : Cx} {k : Ki}
theorem catR : OpR X (binaryOp .Add) (fun x y H Q => ∃ l b xs zs, x = .ref l ∧ y = .ref b ∧ SqL X.K H l xs ∧ SqL X.K H b zs ∧ xs.length + zs.length ≤ sizeLine ∧ ∀ p, H p = none → Q (.ref p) (upd H p (.lst (xs ++ zs)))) := by
  intro pins s σ H x y v u Q I rx ry ⟨l, b, xs, zs, e1, e2, hl, hb, hz, q⟩
  subst e1 e2
  cases rx; cases ry
  obtain ⟨i1, r1, p1, _⟩ := I.list hl
  obtain ⟨i2, r2, p2, _⟩ := I.list hb
  have z1 := r1.length
  have z2 := r2.length
  obtain ⟨⟨cls, dd, data, sl⟩, n, ho, hc, _, hd⟩ := p1
  obtain ⟨⟨cls2, dd2, data2, sl2⟩, n2, ho2, hc2, _, hd2⟩ := p2
  simp only at hc hd hc2 hd2
  subst hc hd hc2 hd2
  refine concat_meets ⟨_, ho, rfl⟩ ⟨_, ho2, rfl⟩ noFill_list_add seq_list_add PySem.F.slot_list_add PySem.F.entry_list_add (PySem.F.args_list_add_2 _ _) (PyProof.Rows.list_addW l b i1.toArray i2.toArray n n2 dd dd2 sl sl2 (by simp only [List.size_toArray]; omega)) ⟨ho, ho2, ?_⟩
  rw [show i1.toArray ++ i2.toArray = (i1 ++ i2).toArray by simp]
  exact ⟨.ref _, _, I.lnew (t' := s.toks) (r1.append r2) (by rw [List.length_append]; exact hz), rfl, q _ I.fresh⟩
theorem repOl_sh {F : Hp} : ∀ {ds : List D} {vs : List V}, Reps k F ds vs → RepOl k F .sh [] ds vs
  | _, _, .nil => .nil
  | _, _, .cons h t => .cons (.sh h) (repOl_sh t)
theorem reps_app {F : Hp} : ∀ {ds es : List D} {vs us : List V}, Reps k F ds vs → Reps k F es us → Reps k F (ds ++ es) (vs ++ us)
  | _, _, _, _, .nil, h => h
  | _, _, _, _, .cons h t, h' => .cons h (reps_app t h')
theorem mulOk_c {i j : Int} (h : mulOk i j = true) : CMul i j := by
  unfold mulOk at h
  simp only [Bool.or_eq_true, Bool.and_eq_true, decide_eq_true_eq] at h
  exact h
/-- a new list of items that are shared -/
theorem newL {F H : Hp} {Q : VK} {ds : List D} {vs : List V} (sf : Same F H) (r : Reps k F ds vs) (q : ∀ v F' H' Of, Ext F H F' H' Of → RepO k F' (.lst .sh) Of (.lst ds) v → Q v H') : ∀ p, H p = none → Q (.ref p) (upd H p (.lst vs)) := fun p np =>
  q _ F _ [(p, .lst vs)] (Ext.newO sf np) (.lst (repOl_sh r))
theorem newT {F H : Hp} {Q : VK} {ds : List D} {vs : List V} (sf : Same F H) (r : Reps k F ds vs) (q : ∀ v F' H' Of, Ext F H F' H' Of → RepO k F' .sh Of (.tup ds) v → Q v H') : ∀ p, H p = none → Q (.ref p) (upd H p (.tup vs)) := fun p np =>
  q _ _ _ [] (Ext.newF sf np) (.sh (.tup (.inl (.inl upd_same)) (r.mono (Ext.newF sf np).sF)))
theorem bin_exc (op : Operator) : ∀ s1 s2 e, binD op s1 s2 ≠ .exc e := by
  intro s1 s2 e h
  unfold binD at h
  split at h <;> first | cases h | (split at h <;> cases h)
theorem bin_ok {op : Operator} (hK : X.K = k.K) : OpR X (binaryOp op) (rOp k (binD op)) := by
  intro pins s σ H x y v u Q I rx ry ⟨F, s1, s2, s3, sf, a1, a2, hg, q⟩
  obtain ⟨o1, d1⟩ := s1
  obtain ⟨o2, d2⟩ := s2
  unfold binD at hg
  simp only at hg
  split at hg
  · cases hg; rw [arg_int a1] at rx; rw [arg_int a2] at ry
    exact op_add pins s σ H _ _ v u Q I rx ry ⟨_, _, rfl, rfl, q _ F H [] (Ext.refl sf) (.sh (.int _))⟩
  · cases hg; rw [arg_int a1] at rx; rw [arg_int a2] at ry
    exact op_sub pins s σ H _ _ v u Q I rx ry ⟨_, _, rfl, rfl, q _ F H [] (Ext.refl sf) (.sh (.int _))⟩
  · split at hg
    · rename_i hm
      cases hg; rw [arg_int a1] at rx; rw [arg_int a2] at ry
      exact op_mul pins s σ H _ _ v u Q I rx ry ⟨_, _, rfl, rfl, mulOk_c hm, q _ F H [] (Ext.refl sf) (.sh (.int _))⟩
    · cases hg
  · split at hg
    · rename_i hm
      simp only [Bool.and_eq_true, decide_eq_true_eq] at hm
      cases hg; rw [arg_int a1] at rx; rw [arg_int a2] at ry
      exact op_fdivN pins s σ H _ _ v u Q I rx ry ⟨_, _, rfl, rfl, hm, q _ F H [] (Ext.refl sf) (.sh (.int _))⟩
    · cases hg
  · split at hg
    · rename_i hm
      simp only [decide_eq_true_eq] at hm
      cases hg; rw [arg_int a1] at rx; rw [arg_int a2] at ry
      exact op_modN pins s σ H _ _ v u Q I rx ry ⟨_, _, rfl, rfl, hm, q _ F H [] (Ext.refl sf) (.sh (.int _))⟩
    · cases hg
  · split at hg
    · rename_i hm
      simp only [Bool.and_eq_true, decide_eq_true_eq] at hm
      cases hg; rw [arg_int a1] at rx; rw [arg_int a2] at ry
      exact op_pow pins s σ H _ _ v u Q I rx ry ⟨_, _, rfl, rfl, ⟨hm.1.1, hm.1.2, hm.2⟩, q _ F H [] (Ext.refl sf) (.sh (.int _))⟩
    · cases hg
  · split at hg
    · rename_i hm
      simp only [Bool.and_eq_true, decide_eq_true_eq] at hm
      cases hg
      obtain ⟨p1, v1, rfl, h1, l1, r1, _⟩ := arg_lst a1 sf
      obtain ⟨p2, v2, rfl, h2, l2, r2, _⟩ := arg_lst a2 sf
      rw [← hK] at h1 h2
      exact catR pins s σ H _ _ v u Q I rx ry ⟨_, _, _, _, rfl, rfl, h1, h2, by rw [l1, l2]; exact hm.2, newL sf (reps_app (r1 hm.1.1) (r2 hm.1.2)) q⟩
    · cases hg
  · cases hg

/-! ### comparisons -/
mutual
theorem dp_of {F H : Hp} (sf : Same F H) : ∀ {d : D} {v : V} {p : PyData}, Rep k F d v → d.py = some p → Dp k.K H v p
  | _, _, _, .non, e => by cases e; exact .non
  | _, _, _, .bl b, e => by cases e; exact .bl b
  | _, _, _, .int b, e => by cases e; exact .int b
  | _, _, _, .str b, e => by cases e; exact .str b
  | _, _, _, .tup (ds := ds) h r, e => by
    unfold D.py at e
    cases q : D.pys ds with
    | none => rw [q] at e; cases e
    | some ps => rw [q] at e; cases e; exact .tup (seqT sf h) (dps_of sf r q)
  | _, _, _, .lst (ds := ds) h r, e => by
    unfold D.py at e
    cases q : D.pys ds with
    | none => rw [q] at e; cases e
    | some ps => rw [q] at e; cases e; exact .lst (sf.seq h) (dps_of sf r q)
  | _, _, _, .iset .., e => by cases e
  | _, _, _, .ins .., e => by cases e
theorem dps_of {F H : Hp} (sf : Same F H) : ∀ {d : List D} {v : List V} {p : List PyData}, Reps k F d v → D.pys d = some p → DpAll k.K H v p
  | _, _, _, .nil, e => by cases e; exact .nil
  | _, _, _, .cons (d := d) (ds := ds) h r, e => by
    unfold D.pys at e
    cases q : D.py d with
    | none => rw [q] at e; cases e
    | some p =>
      cases q2 : D.pys ds with
      | none => rw [q, q2] at e; cases e
      | some ps => rw [q, q2] at e; cases e; exact .cons (dp_of sf h q) (dps_of sf r q2)
end
mutual
theorem dpO_of {F H : Hp} (sf : Same F H) : ∀ {o : Ow} {O : OL} {d : D} {v : V} {p : PyData}, RepO k F o O d v → (∀ p ∈ O, H p.1 = some p.2) → d.py = some p → Dp k.K H v p
  | _, _, _, _, _, .sh r, _, e => dp_of sf r e
  | _, _, _, _, _, .lst (ds := ds) r, hO, e => by
    unfold D.py at e
    cases q : D.pys ds with
    | none => rw [q] at e; cases e
    | some ps => rw [q] at e; cases e; exact .lst (.inl (.inl (hO _ List.mem_cons_self))) (dpOl_of sf r (fun p hp => hO p (List.mem_cons_of_mem _ hp)) q)
  | _, _, _, _, _, .tup (ds := ds) h r, hO, e => by
    unfold D.py at e
    cases q : D.pys ds with
    | none => rw [q] at e; cases e
    | some ps => rw [q] at e; cases e; exact .tup (seqT sf h) (dpOt_of sf r hO q)
theorem dpOl_of {F H : Hp} (sf : Same F H) : ∀ {o : Ow} {O : OL} {d : List D} {v : List V} {p : List PyData}, RepOl k F o O d v → (∀ p ∈ O, H p.1 = some p.2) → D.pys d = some p → DpAll k.K H v p
  | _, _, _, _, _, .nil, _, e => by cases e; exact .nil
  | _, _, _, _, _, .cons (d := d) (ds := ds) h r, hO, e => by
    unfold D.pys at e
    cases q : D.py d with
    | none => rw [q] at e; cases e
    | some p =>
      cases q2 : D.pys ds with
      | none => rw [q, q2] at e; cases e
      | some ps => rw [q, q2] at e; cases e; exact .cons (dpO_of sf h (fun p hp => hO p (List.mem_append_left _ hp)) q) (dpOl_of sf r (fun p hp => hO p (List.mem_append_right _ hp)) q2)
theorem dpOt_of {F H : Hp} (sf : Same F H) : ∀ {o : List Ow} {O : OL} {d : List D} {v : List V} {p : List PyData}, RepOt k F o O d v → (∀ p ∈ O, H p.1 = some p.2) → D.pys d = some p → DpAll k.K H v p
  | _, _, _, _, _, .nil, _, e => by cases e; exact .nil
  | _, _, _, _, _, .cons (d := d) (ds := ds) h r, hO, e => by
    unfold D.pys at e
    cases q : D.py d with
    | none => rw [q] at e; cases e
    | some p =>
      cases q2 : D.pys ds with
      | none => rw [q, q2] at e; cases e
      | some ps => rw [q, q2] at e; cases e; exact .cons (dpO_of sf h (fun p hp => hO p (List.mem_append_left _ hp)) q) (dpOt_of sf r (fun p hp => hO p (List.mem_append_right _ hp)) q2)
end
theorem Arg.dp {F H : Hp} {s : Sl} {v : V} {p : PyData} (a : Arg k F H s v) (sf : Same F H) (e : s.2.py = some p) : Dp k.K H v p := by
  obtain ⟨O, r, h⟩ := a.ex
  exact dpO_of sf r h e
/-- a comparison's answer, as a value -/
def cmpV (op : CmpOp) (x y : Sl) : R Sl := (cmpD op x.2 y.2).bind fun b => .ok (.sh, .bl b)
theorem eqD_exc : ∀ x y e, eqD x y ≠ .exc e := by
  intro x y e h
  unfold eqD at h
  repeat' split at h
  all_goals cases h
theorem inD_exc : ∀ x y e, inD x y ≠ .exc e := by
  intro x y e h
  unfold inD at h
  repeat' split at h
  all_goals cases h
theorem isD_exc : ∀ x y e, isD x y ≠ .exc e := by
  intro x y e h
  unfold isD at h
  repeat' split at h
  all_goals cases h
theorem bind_exc {α β : Type} {x : R α} {f : α → R β} {e : Exn} (h1 : ∀ e, x ≠ .exc e) (h2 : ∀ a e, f a ≠ .exc e) : x.bind f ≠ .exc e := by
  cases x with
  | ok a => exact h2 a e
  | exc e' => exact absurd rfl (h1 e')
  | bad => intro z; cases z
theorem cmpD_exc (op : CmpOp) : ∀ x y e, cmpD op x y ≠ .exc e := by
  intro x y e
  cases op <;> simp only [cmpD]
  · exact eqD_exc x y e
  · exact bind_exc (eqD_exc x y) fun _ _ z => nomatch z
  · split <;> exact fun z => nomatch z
  · split <;> exact fun z => nomatch z
  · split <;> exact fun z => nomatch z
  · split <;> exact fun z => nomatch z
  · exact isD_exc x y e
  · exact bind_exc (isD_exc x y) fun _ _ z => nomatch z
  · exact inD_exc x y e
  · exact bind_exc (inD_exc x y) fun _ _ z => nomatch z
theorem cmp_exc (op : CmpOp) : ∀ s1 s2 e, cmpV op s1 s2 ≠ .exc e := fun s1 s2 e => bind_exc (cmpD_exc op s1.2 s2.2) fun _ _ z => nomatch z
theorem eq_ok {s1 s2 : Sl} {b : Bool} {F H : Hp} {x y : V} {Q : VK} {pins : List (Addr × Obj)} {σ : L2.St} {s : Shared} {v u : Value} (hK : X.K = k.K) (hu : X.A.units + 65 < cLine) (I : Inv X pins σ H s) (rx : L2.RelV x v) (ry : L2.RelV y u) (sf : Same F H)
    (a1 : Arg k F H s1 x) (a2 : Arg k F H s2 y) (e : eqD s1.2 s2.2 = .ok b) :
    (Q (.bl b) H → wpAny (model X.prog X.w) X.A (compareOp .Eq v u) (EP X pins σ Q) X.xe s) ∧ (Q (.bl (!b)) H → wpAny (model X.prog X.w) X.A (compareOp .NotEq v u) (EP X pins σ Q) X.xe s) := by
  obtain ⟨o1, d1⟩ := s1
  obtain ⟨o2, d2⟩ := s2
  simp only at e
  unfold eqD at e
  split at e
  · cases e; rw [arg_int a1] at rx; rw [arg_int a2] at ry
    exact ⟨fun q => op_eq pins s σ H _ _ v u Q I rx ry ⟨rfl, by simpa using q⟩, fun q => op_ne pins s σ H _ _ v u Q I rx ry ⟨rfl, by simpa using q⟩⟩
  · cases e; rw [arg_bl a1] at rx; rw [arg_bl a2] at ry
    exact ⟨fun q => op_eq pins s σ H _ _ v u Q I rx ry ⟨rfl, by simpa using q⟩, fun q => op_ne pins s σ H _ _ v u Q I rx ry ⟨rfl, by simpa using q⟩⟩
  · cases e; rw [arg_str a1] at rx; rw [arg_str a2] at ry
    exact ⟨fun q => op_eq pins s σ H _ _ v u Q I rx ry ⟨rfl, by simpa using q⟩, fun q => op_ne pins s σ H _ _ v u Q I rx ry ⟨rfl, by simpa using q⟩⟩
  · cases e; rw [arg_non a1] at rx; rw [arg_non a2] at ry
    exact ⟨fun q => op_eq pins s σ H _ _ v u Q I rx ry ⟨rfl, by simpa using q⟩, fun q => op_ne pins s σ H _ _ v u Q I rx ry ⟨rfl, by simpa using q⟩⟩
  · split at e
    · rename_i p q hp hq
      split at e
      · rename_i hs
        cases e
        simp only [Bool.and_eq_true] at hs
        have D1 := a1.dp sf hp
        have D2 := a2.dp sf hq
        rw [← hK] at D1 D2
        exact ⟨fun z => op_eqD (by omega) pins s σ H _ _ v u Q I rx ry ⟨_, _, D1, D2, hs.1, hs.2, z⟩, fun z => op_neD (by omega) pins s σ H _ _ v u Q I rx ry ⟨_, _, D1, D2, hs.1, hs.2, z⟩⟩
      · cases e
    · cases e
theorem vfs_of {F : Hp} : ∀ {ds : List D} {vs ws : List V}, Reps k F ds vs → D.vfs ds = some ws → vs = ws ∧ ws.all flatV = true
  | _, _, _, .nil, e => by cases e; exact ⟨rfl, rfl⟩
  | _, _, _, .cons (d := d) (ds := ds) h t, e => by
    unfold D.vfs at e
    cases q : D.vf d with
    | none => rw [q] at e; cases e
    | some a =>
      cases q2 : D.vfs ds with
      | none => rw [q, q2] at e; cases e
      | some as =>
        rw [q, q2] at e; cases e
        obtain ⟨e1, e2⟩ := vfs_of t q2
        subst e1
        cases h with
        | non => cases q; exact ⟨rfl, e2⟩
        | bl => cases q; exact ⟨rfl, e2⟩
        | int => cases q; exact ⟨rfl, e2⟩
        | str => cases q; exact ⟨rfl, e2⟩
        | _ => cases q
theorem vfs_ol {F : Hp} : ∀ {o : Ow} {O : OL} {ds : List D} {vs ws : List V}, RepOl k F o O ds vs → D.vfs ds = some ws → vs = ws ∧ ws.all flatV = true
  | _, _, _, _, _, .nil, e => by cases e; exact ⟨rfl, rfl⟩
  | _, _, _, _, _, .cons (d := d) (ds := ds) h t, e => by
    unfold D.vfs at e
    cases q : D.vf d with
    | none => rw [q] at e; cases e
    | some a =>
      cases q2 : D.vfs ds with
      | none => rw [q, q2] at e; cases e
      | some as =>
        rw [q, q2] at e; cases e
        obtain ⟨e1, e2⟩ := vfs_ol t q2
        subst e1
        cases h with
        | sh h =>
          cases h with
          | non => cases q; exact ⟨rfl, e2⟩
          | bl => cases q; exact ⟨rfl, e2⟩
          | int => cases q; exact ⟨rfl, e2⟩
          | str => cases q; exact ⟨rfl, e2⟩
          | _ => cases q
        | _ => cases q
theorem vfs_ot {F : Hp} : ∀ {o : List Ow} {O : OL} {ds : List D} {vs ws : List V}, RepOt k F o O ds vs → D.vfs ds = some ws → vs = ws ∧ ws.all flatV = true
  | _, _, _, _, _, .nil, e => by cases e; exact ⟨rfl, rfl⟩
  | _, _, _, _, _, .cons (d := d) (ds := ds) h t, e => by
    unfold D.vfs at e
    cases q : D.vf d with
    | none => rw [q] at e; cases e
    | some a =>
      cases q2 : D.vfs ds with
      | none => rw [q, q2] at e; cases e
      | some as =>
        rw [q, q2] at e; cases e
        obtain ⟨e1, e2⟩ := vfs_ot t q2
        subst e1
        cases h with
        | sh h =>
          cases h with
          | non => cases q; exact ⟨rfl, e2⟩
          | bl => cases q; exact ⟨rfl, e2⟩
          | int => cases q; exact ⟨rfl, e2⟩
          | str => cases q; exact ⟨rfl, e2⟩
          | _ => cases q
        | _ => cases q
theorem Arg.items {F H : Hp} {s : Sl} {v : V} {ds : List D} {ws : List V} (a : Arg k F H s v) (sf : Same F H) (e : items s.2 = some ds) (e2 : D.vfs ds = some ws) : ∃ p, v = .ref p ∧ (SqL k.K H p ws ∨ SqT k.K H p ws) ∧ ws.all flatV = true := by
  obtain ⟨O, r, h⟩ := a.ex
  obtain ⟨o, d⟩ := s
  cases r with
  | sh r =>
    cases r with
    | lst hr r => cases e; obtain ⟨rfl, f⟩ := vfs_of r e2; exact ⟨_, rfl, .inl (sf.seq hr), f⟩
    | tup hr r => cases e; obtain ⟨rfl, f⟩ := vfs_of r e2; exact ⟨_, rfl, .inr (seqT sf hr), f⟩
    | _ => cases e
  | lst r => cases e; obtain ⟨rfl, f⟩ := vfs_ol r e2; exact ⟨_, rfl, .inl (.inl (.inl (h _ List.mem_cons_self))), f⟩
  | tup hr r => cases e; obtain ⟨rfl, f⟩ := vfs_ot r e2; exact ⟨_, rfl, .inr (seqT sf hr), f⟩
theorem vf_flat {d : D} {x : V} (e : d.vf = some x) : flatV x = true := by
  cases d <;> cases e <;> rfl
theorem in_ok {s1 s2 : Sl} {b : Bool} {F H : Hp} {x y : V} {Q : VK} {pins : List (Addr × Obj)} {σ : L2.St} {s : Shared} {v u : Value} (hK : X.K = k.K) (I : Inv X pins σ H s) (rx : L2.RelV x v) (ry : L2.RelV y u) (sf : Same F H)
    (a1 : Arg k F H s1 x) (a2 : Arg k F H s2 y) (e : inD s1.2 s2.2 = .ok b) :
    (Q (.bl b) H → wpAny (model X.prog X.w) X.A (compareOp .In v u) (EP X pins σ Q) X.xe s) ∧ (Q (.bl (!b)) H → wpAny (model X.prog X.w) X.A (compareOp .NotIn v u) (EP X pins σ Q) X.xe s) := by
  unfold inD at e
  split at e
  · rename_i p ws h1 h2
    cases e
    cases q : PyD.items s2.2 with
    | none => rw [q] at h2; cases h2
    | some ds =>
      rw [q] at h2
      obtain ⟨a, rfl, hs, hf⟩ := a2.items sf q h2
      have e1 := arg_vf a1 h1
      subst e1
      rw [← hK] at hs
      exact ⟨fun z => op_in_seq pins s σ H _ _ v u Q I rx ry ⟨_, _, rfl, hs, vf_flat h1, hf, by simpa using z⟩, fun z => op_notIn_seq pins s σ H _ _ v u Q I rx ry ⟨_, _, rfl, hs, vf_flat h1, hf, by simpa using z⟩⟩
  · cases e
theorem is_ok {s1 s2 : Sl} {b : Bool} {F H : Hp} {x y : V} {Q : VK} {pins : List (Addr × Obj)} {σ : L2.St} {s : Shared} {v u : Value} (I : Inv X pins σ H s) (rx : L2.RelV x v) (ry : L2.RelV y u) (sf : Same F H)
    (a1 : Arg k F H s1 x) (a2 : Arg k F H s2 y) (e : isD s1.2 s2.2 = .ok b) :
    (Q (.bl b) H → wpAny (model X.prog X.w) X.A (compareOp .Is v u) (EP X pins σ Q) X.xe s) ∧ (Q (.bl (!b)) H → wpAny (model X.prog X.w) X.A (compareOp .IsNot v u) (EP X pins σ Q) X.xe s) := by
  obtain ⟨o1, d1⟩ := s1
  obtain ⟨o2, d2⟩ := s2
  simp only at e
  unfold isD at e
  split at e
  · have hy := arg_non a2
    have hb : decide (x = .non) = b := by
      obtain ⟨O, r, h⟩ := a1.ex
      cases r with
      | sh r => cases r <;> cases e <;> simp
      | lst r => cases e; simp
      | tup _ r => cases e; simp
    exact ⟨fun z => op_isN pins s σ H _ _ v u Q I rx ry ⟨hy, by rw [hb]; exact z⟩, fun z => op_notN pins s σ H _ _ v u Q I rx ry ⟨hy, by rw [hb]; exact z⟩⟩
  · cases e; rw [arg_bl a1] at rx; rw [arg_bl a2] at ry
    exact ⟨fun z => op_isBl pins s σ H _ _ v u Q I rx ry ⟨_, _, rfl, rfl, z⟩, fun z => op_notBl pins s σ H _ _ v u Q I rx ry ⟨_, _, rfl, rfl, z⟩⟩
  · cases e
theorem neg_of {x : R Bool} {b : Bool} (e : (x.bind fun b => R.ok (!b)) = .ok b) : x = .ok (!b) := by
  cases x with
  | ok a => cases e; simp
  | exc _ => cases e
  | bad => cases e
theorem cmp_ok {op : CmpOp} (hK : X.K = k.K) (hu : X.A.units + 65 < cLine) : OpR X (compareOp op) (rOp k (cmpV op)) := by
  intro pins s σ H x y v u Q I rx ry ⟨F, s1, s2, s3, sf, a1, a2, hg, q⟩
  unfold cmpV at hg
  cases hc : cmpD op s1.2 s2.2 with
  | exc e => rw [hc] at hg; cases hg
  | bad => rw [hc] at hg; cases hg
  | ok b =>
    rw [hc] at hg
    cases hg
    have q' : Q (.bl b) H := q _ F H [] (Ext.refl sf) (.sh (.bl _))
    cases op <;> simp only [cmpD] at hc
    · exact (eq_ok hK hu I rx ry sf a1 a2 hc).1 q'
    · exact (eq_ok hK hu I rx ry sf a1 a2 (neg_of hc)).2 (by simpa using q')
    all_goals try (split at hc)
    · rename_i h1 h2; obtain ⟨o1, d1⟩ := s1; obtain ⟨o2, d2⟩ := s2; simp only at h1 h2; subst h1 h2
      cases hc; rw [arg_int a1] at rx; rw [arg_int a2] at ry
      exact op_lt pins s σ H _ _ v u Q I rx ry ⟨_, _, rfl, rfl, q'⟩
    · cases hc
    · rename_i h1 h2; obtain ⟨o1, d1⟩ := s1; obtain ⟨o2, d2⟩ := s2; simp only at h1 h2; subst h1 h2
      cases hc; rw [arg_int a1] at rx; rw [arg_int a2] at ry
      exact op_le pins s σ H _ _ v u Q I rx ry ⟨_, _, rfl, rfl, q'⟩
    · cases hc
    · rename_i h1 h2; obtain ⟨o1, d1⟩ := s1; obtain ⟨o2, d2⟩ := s2; simp only at h1 h2; subst h1 h2
      cases hc; rw [arg_int a1] at rx; rw [arg_int a2] at ry
      exact op_gt pins s σ H _ _ v u Q I rx ry ⟨_, _, rfl, rfl, q'⟩
    · cases hc
    · rename_i h1 h2; obtain ⟨o1, d1⟩ := s1; obtain ⟨o2, d2⟩ := s2; simp only at h1 h2; subst h1 h2
      cases hc; rw [arg_int a1] at rx; rw [arg_int a2] at ry
      exact op_ge pins s σ H _ _ v u Q I rx ry ⟨_, _, rfl, rfl, q'⟩
    · cases hc
    · exact (is_ok I rx ry sf a1 a2 hc).1 q'
    · exact (is_ok I rx ry sf a1 a2 (neg_of hc)).2 (by simpa using q')
    · exact (in_ok hK I rx ry sf a1 a2 hc).1 q'
    · exact (in_ok hK I rx ry sf a1 a2 (neg_of hc)).2 (by simpa using q')
end
end PyD

set_option Elab.async false
set_option linter.all false
set_option maxRecDepth 100000
set_option maxHeartbeats 4000000
namespace PyD
open PySem PySem.Spec PyProof.Rows L2
/-! ### set(xs) of a list of whole numbers -/
section
variable {P : Program} {w : World} {A : Around} {E : Value → Shared → Prop} {s : Shared}
theorem setOfList {l : Addr} {vs : Array Value} (zs : List Int) {Q : Value → Shared → Prop} (nh : A.handled = none) (isl : s.heap.IsList l vs) (are : IntsAre vs.toList zs) (room : zs.length + 1 < scanBound)
    (fin : ∀ (g : Heap) (t n : Nat), SetR w g s.heap.objs.size (fun j => decide (j ∈ zs)) n → (∀ b o, s.heap.get? b = some o → g.get? b = some o) → Q (.ref s.heap.objs.size) { s with heap := g, toks := t }) :
    wpAny (model P w) A (call (.type "set") [.ref l]) Q E s := by
  have len : vs.size = zs.length := by
    have e := IntsAre.length are
    rwa [Array.length_toList] at e
  obtain ⟨c, tl, hmro⟩ := F.called_set.mro
  have m1 := F.called_set.made
  have m2 := F.called_set.sub
  have m3 := F.called_set.notType
  have m4 := F.called_set.canCreate
  have m5 := F.typeCall_set_1 (.ref l)
  refine wpAny_call (codeAny_of_tree ?_)
  show wpAny _ _ (callAny (.type "set") _) _ _ _
  refine wpAny_pure ⟨Code.quiet_builtin _ (by decide +kernel), codeAny_builtin F.entry_type_call ?_⟩
  rw [Around.under_plain (weight_type_call_type "set" [.ref l] []) rfl]
  repeat (any_goals (first | assumption | wp_step))
  refine codeAny_mono (code_set_led1 (.ref l) (E := E) (Q₁ := fun ob t => ob = .ref s.heap.objs.size ∧ t = { s with heap := s.heap.push { cls := .type "set", dict := none, data := .set #[] 0 (.fresh 0 0 (!w.params.followText "set-order")) } }) ⟨rfl, rfl⟩) fun r t hr => ?_
  match r, hr with
  | .error e, hr => exact hr
  | .ok (.ret ob), hr =>
    obtain ⟨rfl, rfl⟩ := hr
    have at0 : (s.heap.push { cls := .type "set", dict := none, data := .set #[] 0 (.fresh 0 0 (!w.params.followText "set-order")) }).get? s.heap.objs.size = some { cls := .type "set", dict := none, data := .set #[] 0 (.fresh 0 0 (!w.params.followText "set-order")) } := Heap.get?_push_size _ rfl
    have ty0 : Shared.TypeIs { s with heap := s.heap.push { cls := .type "set", dict := none, data := .set #[] 0 (.fresh 0 0 (!w.params.followText "set-order")) } } (.ref s.heap.objs.size) "set" := ⟨_, at0, rfl⟩
    have k1 := F.called_set.init.lookup
    have k2 := F.called_set.init.bind (.ref s.heap.objs.size)
    repeat (any_goals (first | assumption | wp_step))
    refine codeAny_mono (codeAny_call_builtin (R := wants (fun r t2 => r = .none ∧ ∃ g tk n, t2 = { s with heap := g, toks := tk } ∧ SetR w g s.heap.objs.size (fun j => decide (j ∈ zs)) n ∧ (∀ b o, s.heap.get? b = some o → g.get? b = some o)) E) F.called_set.init.plain F.entry_set_init (check_set_init_1 ty0 ?_)) fun r2 t2 hr2 => ?_
    · obtain ⟨ol, hol, hcl, nl, hdl⟩ := isl
      obtain ⟨ocls, odict, odata, oslots⟩ := ol
      simp only at hcl hdl
      subst hcl; subst hdl
      have g0 : (s.heap.push { cls := .type "set", dict := none, data := .set #[] 0 (.fresh 0 0 (!w.params.followText "set-order")) }).get? l = some { cls := .type "list", dict := odict, data := .seq vs nl, slots := oslots } := Heap.get?_push_of_some _ hol
      have u1 := F.sub_list_set
      have u2 := F.sub_list_frozenset
      have u3 : (Value.type "list" == Value.type "dict") = false := by decide
      have isl1 : (s.heap.push { cls := .type "set", dict := none, data := .set #[] 0 (.fresh 0 0 (!w.params.followText "set-order")) }).IsList l vs := ⟨_, g0, rfl, nl, rfl⟩
      unfold Builtin.«set.__init__» noKeywords Builtin.Frozenset.updateFrom
      generalize hPI : pyIter = PI
      wp_walk
      subst hPI
      refine wpAny_pyIter_list isl1 ?_
      refine wpAny_bind (wpAny_runValue ?_)
      have ltl : l < s.heap.objs.size := Heap.lt_size hol
      have sz : (s.heap.push { cls := .type "set", dict := none, data := .set #[] 0 (.fresh 0 0 (!w.params.followText "set-order")) }).objs.size = s.heap.objs.size + 1 := Heap.size_push ..
      have nl1 : l ≠ (s.heap.push { cls := .type "set", dict := none, data := .set #[] 0 (.fresh 0 0 (!w.params.followText "set-order")) }).objs.size := fun e => by
        rw [sz] at e; rw [e] at ltl; exact absurd ltl (Nat.not_lt.mpr (Nat.le_succ _))
      have nS : s.heap.objs.size ∉ [(s.heap.push { cls := .type "set", dict := none, data := .set #[] 0 (.fresh 0 0 (!w.params.followText "set-order")) }).objs.size, l] := by
        rw [sz]
        intro m
        rcases List.mem_cons.mp m with e | e
        · exact absurd e (Nat.ne_of_lt (Nat.lt_succ_self _))
        · exact absurd (List.mem_singleton.mp e) (Nat.ne_of_gt ltl)
      have val : ∀ (i : Nat) (v : Value), vs[i]? = some v → ∃ k t, zs[i]? = some k ∧ v = .int k t := fun i v hv => by
        have hi : i < zs.length := by rw [← len]; exact (Array.getElem?_eq_some_iff.mp hv).1
        obtain ⟨t, e⟩ := PyProof.Rows.IntsAre.int_at are i v (by rw [Array.getElem?_toList]; exact hv)
        exact ⟨zs[i], t, List.getElem?_eq_getElem hi, by rw [e, List.getD_eq_getElem?_getD, List.getElem?_eq_getElem hi]; rfl⟩
      refine set_update_ints ((Walks.list (by simp [nh]) _ l nl1 vs).toS) s.heap.objs.size nS zs len room val (vs.size - 0) 0 _ (by omega) (Nat.zero_le _) ⟨⟨_, Heap.get?_push_size _ rfl, rfl, rfl⟩, (isl1.push _)⟩ ?hS0 ?hR
      case hS0 =>
        refine ⟨0, Nat.le_refl 0, setR_new_at ?_⟩
        exact Heap.get?_push_of_some _ at0
      case hR =>
        intro t' n' hm _ hS'
        obtain ⟨g', g2, d', tk', os'⟩ := t'
        have z1 : g2 = s.gens := hm.gens
        have z2 : d' = s.drawn := hm.drawn
        have z3 : os' = s.os := hm.os
        subst z1 z2 z3
        show wpAny _ _ _ _ _ _
        refine wpAny_pure ?_
        show wpAny _ _ (ret Value.none) _ _ _
        refine wpAny_pure ⟨rfl, g', tk', n', rfl, hS', fun b o e => ?_⟩
        have lt0 : b < s.heap.objs.size := Heap.lt_size e
        refine hm.heap b o (fun m => ?_) (Heap.get?_push_of_some _ (Heap.get?_push_of_some _ e))
        rcases List.mem_cons.mp m with e' | e'
        · exact absurd e' (Nat.ne_of_lt lt0)
        · exact absurd (List.mem_singleton.mp e') (by rw [sz]; exact Nat.ne_of_lt (Nat.lt_succ_of_lt lt0))
    · match r2, hr2 with
      | .error e, hr2 => exact hr2
      | .ok (.ret r), hr2 =>
        obtain ⟨rfl, g', tk, n', rfl, hS', hk'⟩ := hr2
        repeat (any_goals (first | assumption | wp_step))
        exact fin _ _ _ hS' hk'
      | .ok .next, hr2 => exact hr2.elim
      | .ok .brk, hr2 => exact hr2.elim
      | .ok .cont, hr2 => exact hr2.elim
  | .ok .next, hr => exact hr.elim
  | .ok .brk, hr => exact hr.elim
  | .ok .cont, hr => exact hr.elim
end
end PyD

set_option Elab.async false
set_option linter.all false
set_option maxRecDepth 100000
set_option maxHeartbeats 4000000
namespace PyD
open PySem PySem.Spec PyProof.Rows L2
/-! ### whole numbers in rows -/
theorem intsOf_eq : ∀ {xs : List D} {ns : List Int}, intsOf xs = some ns → xs = ns.map D.int
  | [], _, h => by cases h; rfl
  | x :: r, ns, h => by
    cases x with
    | int i =>
      unfold intsOf at h
      cases q : intsOf r with
      | none => rw [q] at h; cases h
      | some ms => rw [q] at h; cases h; rw [intsOf_eq q]; rfl
    | _ => cases h
@[simp] theorem intsOf_map (ns : List Int) : intsOf (ns.map D.int) = some ns := by
  induction ns with
  | nil => rfl
  | cons n r ih => show (intsOf (r.map D.int)).map (n :: ·) = _; rw [ih]; rfl
theorem reps_ints {k : Ki} {F : Hp} : ∀ {ns : List Int} {vs : List V}, Reps k F (ns.map D.int) vs → vs = ns.map V.int
  | [], _, .nil => rfl
  | _ :: _, _, .cons h t => by cases h; rw [reps_ints t]; rfl
theorem reps_of_ints {k : Ki} {F : Hp} : ∀ (ns : List Int), Reps k F (ns.map D.int) (ns.map V.int)
  | [] => .nil
  | n :: r => .cons (.int n) (reps_of_ints r)
theorem repOl_ints {k : Ki} {F : Hp} {o : Ow} : ∀ {ns : List Int} {O : OL} {vs : List V}, RepOl k F o O (ns.map D.int) vs → vs = ns.map V.int
  | [], _, _, .nil => rfl
  | _ :: _, _, _, .cons h t => by
    cases h with
    | sh h => cases h; rw [repOl_ints t]; rfl
theorem mem_insD {i j : Int} : ∀ {l : List Int}, j ∈ insD i l ↔ j = i ∨ j ∈ l
  | [] => by simp [insD]
  | x :: r => by
    unfold insD
    split
    · simp
    · split
      · rename_i h; subst h; simp
      · have ih := @mem_insD i j r
        simp only [List.mem_cons, ih]
        constructor
        · rintro (h | h | h) <;> simp [h]
        · rintro (h | h | h) <;> simp [h]
theorem pw_insD {i : Int} : ∀ {l : List Int}, l.Pairwise (· < ·) → (insD i l).Pairwise (· < ·)
  | [], _ => by simp [insD]
  | x :: r, h => by
    unfold insD
    have h' := List.pairwise_cons.mp h
    split
    · rename_i lt
      refine List.pairwise_cons.mpr ⟨fun y hy => ?_, h⟩
      rcases List.mem_cons.mp hy with e | e
      · subst e; exact lt
      · exact Int.lt_trans lt (h'.1 y e)
    · split
      · exact h
      · refine List.pairwise_cons.mpr ⟨fun y hy => ?_, pw_insD h'.2⟩
        rcases mem_insD.mp hy with e | e
        · subst e; omega
        · exact h'.1 y e
theorem mem_sdI {j : Int} : ∀ {l : List Int}, j ∈ sdI l ↔ j ∈ l
  | [] => by simp [sdI]
  | x :: r => by
    show j ∈ insD x (sdI r) ↔ _
    rw [mem_insD, mem_sdI, List.mem_cons]
theorem pw_sdI : ∀ (l : List Int), (sdI l).Pairwise (· < ·)
  | [] => List.Pairwise.nil
  | x :: r => pw_insD (pw_sdI r)
theorem nodup_lt {l : List Int} (h : l.Pairwise (· < ·)) : l.Nodup := h.imp fun a b => by omega
theorem lt_unique {l m : List Int} (h : l.Pairwise (· < ·)) (h' : m.Pairwise (· < ·)) (e : ∀ j, j ∈ l ↔ j ∈ m) : l = m :=
  List.Perm.eq_of_pairwise (le := (· < ·)) (fun a b _ _ h1 h2 => absurd h1 (by omega)) h h' ((List.perm_ext_iff_of_nodup (nodup_lt h) (nodup_lt h')).mpr e)
theorem setR_count {w : World} {h : Heap} {a : Addr} {S : Int → Bool} {n : Nat} {l : List Int} (R : SetR w h a S n) (pw : l.Pairwise (· < ·)) (e : ∀ j, S j = true ↔ j ∈ l) : n = l.length := by
  obtain ⟨o, es, ep, t, ho, hex, hd, g, nd, hm, hb, hf, hn, _⟩ := R
  have p : (es.toList.map keyOf).Perm l := (List.perm_ext_iff_of_nodup nd (nodup_lt pw)).mpr fun j => by rw [← hm, e]
  have z := p.length_eq
  rw [List.length_map, Array.length_toList] at z
  omega
theorem maxI_spec : ∀ (l : List Int) (m : Int), (maxI m l = m ∨ maxI m l ∈ l) ∧ m ≤ maxI m l ∧ ∀ y ∈ l, y ≤ maxI m l
  | [], m => ⟨.inl rfl, Int.le_refl _, fun _ h => nomatch h⟩
  | x :: r, m => by
    have ih := maxI_spec r (if m < x then x else m)
    unfold maxI
    refine ⟨?_, ?_, fun y hy => ?_⟩
    · rcases ih.1 with h | h
      · rw [h]; split
        · exact .inr List.mem_cons_self
        · exact .inl rfl
      · exact .inr (List.mem_cons_of_mem _ h)
    · have := ih.2.1; split at this <;> omega
    · rcases List.mem_cons.mp hy with e | e
      · subst e; have := ih.2.1; split at this <;> omega
      · exact ih.2.2 y e
theorem minI_spec : ∀ (l : List Int) (m : Int), (minI m l = m ∨ minI m l ∈ l) ∧ minI m l ≤ m ∧ ∀ y ∈ l, minI m l ≤ y
  | [], m => ⟨.inl rfl, Int.le_refl _, fun _ h => nomatch h⟩
  | x :: r, m => by
    have ih := minI_spec r (if x < m then x else m)
    unfold minI
    refine ⟨?_, ?_, fun y hy => ?_⟩
    · rcases ih.1 with h | h
      · rw [h]; split
        · exact .inr List.mem_cons_self
        · exact .inl rfl
      · exact .inr (List.mem_cons_of_mem _ h)
    · have := ih.2.1; split at this <;> omega
    · rcases List.mem_cons.mp hy with e | e
      · subst e; have := ih.2.1; split at this <;> omega
      · exact ih.2.2 y e

section
variable {X : Cx} {k : Ki}
theorem Arg.ints {F H : Hp} {s : Sl} {v : V} {ds : List D} {ns : List Int} (a : Arg k F H s v) (sf : Same F H) (e : s.2 = .lst ds) (e2 : intsOf ds = some ns) : ∃ p, v = .ref p ∧ SqL k.K H p (ns.map V.int) := by
  have z := intsOf_eq e2
  subst z
  obtain ⟨o, d⟩ := s
  subst e
  obtain ⟨p, vs, rfl, hr, _, _, O, _, h⟩ := arg_lst a sf
  refine ⟨p, rfl, ?_⟩
  rcases h with ⟨_, r⟩ | ⟨_, _, r⟩
  · rw [reps_ints r] at hr; exact hr
  · rw [repOl_ints r] at hr; exact hr
theorem Arg.seq {F H : Hp} {s : Sl} {v : V} {ds : List D} (a : Arg k F H s v) (sf : Same F H) (e : PyD.items s.2 = some ds) : ∃ p vs, v = .ref p ∧ (SqL k.K H p vs ∨ SqT k.K H p vs) ∧ vs.length = ds.length := by
  obtain ⟨o, d⟩ := s
  cases d with
  | lst xs => cases e; obtain ⟨p, vs, rfl, hr, hl, _⟩ := arg_lst a sf; exact ⟨p, vs, rfl, .inl hr, hl⟩
  | tup xs => cases e; obtain ⟨p, vs, rfl, hr, hl, _⟩ := arg_tup a; exact ⟨p, vs, rfl, .inr (seqT sf hr), hl⟩
  | _ => cases e
def blV : Bl → Value
  | .len => .builtin "len" | .abs => .builtin "abs" | .int => .type "int" | .tuple => .type "tuple" | .list => .type "list" | .set => .type "set"
  | .sorted => .builtin "sorted" | .max => .builtin "max" | .min => .builtin "min" | .sum => .builtin "sum"
theorem bl_exc (b : Bl) : ∀ s e, blD b s ≠ .exc e := by
  intro s e h
  cases b <;> simp only [blD] at h <;> (repeat' split at h) <;> cases h
theorem len_bl (hK : X.K = k.K) : CallR X (.builtin "len") (rCl k (blD .len)) := by
  intro pins s σ H xs us Q I r hh
  obtain ⟨x, rfl, F, s1, s3, sf, a, hg, q⟩ := hh
  have go : ∀ ds, PyD.items s1.2 = some ds → blD .len s1 = .ok (.sh, .int ds.length) → wpAny (model X.prog X.w) X.A (call (.builtin "len") us) (EP X pins σ Q) X.xe s := fun ds e eg => by
    obtain ⟨p, vs, rfl, hs, hl⟩ := a.seq sf e
    rw [eg] at hg; cases hg
    rw [← hK] at hs
    exact call_len_seq pins s σ H _ us Q I r ⟨p, vs, rfl, hs, by rw [hl]; exact q _ F H [] (Ext.refl sf) (.sh (.int _))⟩
  obtain ⟨o, d⟩ := s1
  cases d with
  | lst xs => exact go xs rfl rfl
  | tup xs => exact go xs rfl rfl
  | _ => cases hg
theorem abs_bl : CallR X (.builtin "abs") (rCl k (blD .abs)) := by
  intro pins s σ H xs us Q I r hh
  obtain ⟨x, rfl, F, s1, s3, sf, a, hg, q⟩ := hh
  obtain ⟨o, d⟩ := s1
  cases d with
  | int i => cases hg; cases arg_int a; exact call_abs pins s σ H _ us Q I r ⟨_, rfl, q _ F H [] (Ext.refl sf) (.sh (.int _))⟩
  | _ => cases hg
theorem int_bl : CallR X (.type "int") (rCl k (blD .int)) := by
  intro pins s σ H xs us Q I r hh
  obtain ⟨x, rfl, F, s1, s3, sf, a, hg, q⟩ := hh
  obtain ⟨o, d⟩ := s1
  cases d with
  | int i => cases hg; cases arg_int a; exact call_int1 pins s σ H _ us Q I r (.inl ⟨_, rfl, q _ F H [] (Ext.refl sf) (.sh (.int _))⟩)
  | bl i => cases hg; cases arg_bl a; exact call_int1 pins s σ H _ us Q I r (.inr ⟨_, rfl, q _ F H [] (Ext.refl sf) (.sh (.int _))⟩)
  | _ => cases hg
theorem tuple_bl (hK : X.K = k.K) : CallR X (.type "tuple") (rCl k (blD .tuple)) := by
  intro pins s σ H xs us Q I r hh
  obtain ⟨x, rfl, F, s1, s3, sf, a, hg, q⟩ := hh
  obtain ⟨o, d⟩ := s1
  cases d with
  | lst ds =>
    simp only [blD] at hg
    split at hg
    · rename_i hf
      cases hg
      obtain ⟨p, vs, rfl, hr, hl, rr, _⟩ := arg_lst a sf
      rw [← hK] at hr
      exact call_tuple_of pins s σ H _ us Q I r ⟨p, vs, rfl, .inl ⟨hr, newT sf (rr hf) q⟩⟩
    · cases hg
  | tup ds =>
    simp only [blD] at hg
    split at hg
    · rename_i hf
      cases hg
      obtain ⟨p, vs, rfl, hr, hl, rr⟩ := arg_tup a
      have hr' := seqT sf hr
      rw [← hK] at hr'
      exact call_tuple_of pins s σ H _ us Q I r ⟨p, vs, rfl, .inr ⟨hr', q _ F H [] (Ext.refl sf) (.sh (.tup hr (rr hf)))⟩⟩
    · cases hg
  | _ => cases hg
theorem list_bl (hK : X.K = k.K) : CallR X (.type "list") (rCl k (blD .list)) := by
  intro pins s σ H xs us Q I r hh
  obtain ⟨x, rfl, F, s1, s3, sf, a, hg, q⟩ := hh
  obtain ⟨o, d⟩ := s1
  cases d with
  | lst ds =>
    simp only [blD] at hg
    split at hg
    · rename_i hf
      cases hg
      obtain ⟨p, vs, rfl, hr, hl, rr, _⟩ := arg_lst a sf
      rw [← hK] at hr
      exact call_list_of pins s σ H _ us Q I r ⟨p, vs, rfl, .inl hr, newL sf (rr hf) q⟩
    · cases hg
  | tup ds =>
    simp only [blD] at hg
    split at hg
    · rename_i hf
      cases hg
      obtain ⟨p, vs, rfl, hr, hl, rr⟩ := arg_tup a
      have hr' := seqT sf hr
      rw [← hK] at hr'
      exact call_list_of pins s σ H _ us Q I r ⟨p, vs, rfl, .inr hr', newL sf (rr hf) q⟩
    · cases hg
  | _ => cases hg
theorem set_bl (hc : X.calm = true) (hK : X.K = k.K) (hw : X.w = k.w) : CallR X (.type "set") (rCl k (blD .set)) := by
  intro pins s σ H xs us Q I r hh
  obtain ⟨x, rfl, F, s1, s3, sf, a, hg, q⟩ := hh
  obtain ⟨u, rfl, ru⟩ := vals1 r
  simp only [blD] at hg
  split at hg
  · rename_i ns hi
    split at hg
    · rename_i hb
      cases hg
      simp only [decide_eq_true_eq] at hb
      have fin : ∀ (g : Heap) (t n : Nat), SetR X.w g s.heap.objs.size (fun j => decide (j ∈ ns)) n → (∀ b o, s.heap.get? b = some o → g.get? b = some o) → EP X pins σ Q (.ref s.heap.objs.size) { s with heap := g, toks := t } := fun g t n R kk => by
        have hn : n = (sdI ns).length := setR_count R (pw_sdI ns) fun j => by rw [decide_eq_true_eq]; exact mem_sdI.symm
        subst hn
        refine ⟨.ref s.heap.objs.size, _, I.laid (t' := t) (o := SetO X.w s.heap.objs.size (fun j => decide (j ∈ ns)) (sdI ns).length) kk (Nat.le_refl _) (setO_new R), rfl, ?_⟩
        refine q _ _ _ [] (Ext.newF sf I.fresh) (.sh ?_)
        rw [hw]
        exact .iset upd_same (fun j => by rw [decide_eq_true_eq]; exact mem_sdI.symm) (pw_sdI ns)
      obtain ⟨o, d⟩ := s1
      cases d with
      | lst ds =>
        obtain ⟨p, rfl, hs⟩ := a.ints sf rfl hi
        cases ru
        rw [← hK] at hs
        obtain ⟨its, rv, pl, hz⟩ := I.list hs
        exact setOfList ns (I.ok.hd hc) pl.isList (by simpa using rv.ints) hb fin
      | tup ds =>
        have z := intsOf_eq hi
        obtain ⟨O, rr, hO⟩ := a.ex
        have : ∃ p, x = .ref p ∧ SqT k.K H p (ns.map V.int) := by
          subst z
          cases rr with
          | sh rr => cases rr with | tup hr rr => rw [reps_ints rr] at hr; exact ⟨_, rfl, seqT sf hr⟩
          | tup hr rr =>
            have e : ∀ {os : List Ow} {ms : List Int} {O : OL} {vs : List V}, RepOt k F os O (ms.map D.int) vs → vs = ms.map V.int := fun {os ms} => by
              induction ms generalizing os with
              | nil => intro O vs h; cases h; rfl
              | cons m r ih => intro O vs h; cases h with | cons h t => cases h with | sh h => cases h; rw [ih t]; rfl
            rw [e rr] at hr; exact ⟨_, rfl, seqT sf hr⟩
        obtain ⟨p, rfl, hs⟩ := this
        cases ru
        rw [← hK] at hs
        obtain ⟨its, rv, pl, hz⟩ := I.tuple hs
        exact call_set_tupI ns (I.ok.hd hc) (show s.heap.IsTuple p its.toArray from pl) (by simpa using rv.ints) hb fun g t n R _ kk => fin g t n R kk
      | _ => cases hi
    · cases hg
  · cases hg
theorem sort_unique' {l m : List Int} (p : l.Perm m) (h : l.Pairwise (· ≤ ·)) : l = m.mergeSort fun a b => decide (a ≤ b) := by
  refine List.Perm.eq_of_pairwise (le := (· ≤ ·)) (fun a b _ _ h1 h2 => Int.le_antisymm h1 h2) h ?_ (p.trans (List.mergeSort_perm m _).symm)
  have z := List.pairwise_mergeSort (le := fun (a b : Int) => decide (a ≤ b)) (fun a b c h1 h2 => by simp only [decide_eq_true_eq] at *; omega) (fun a b => by simp only [Bool.or_eq_true, decide_eq_true_eq]; omega) m
  exact z.imp fun h => of_decide_eq_true h
theorem sorted_bl (hc : X.calm = true) (hK : X.K = k.K) (hw : X.w = k.w) : CallR X (.builtin "sorted") (rCl k (blD .sorted)) := by
  intro pins s σ H xs us Q I r hh
  obtain ⟨x, rfl, F, s1, s3, sf, a, hg, q⟩ := hh
  obtain ⟨o, d⟩ := s1
  cases d with
  | iset ns =>
    simp only [blD] at hg
    split at hg
    · rename_i hb
      simp only [decide_eq_true_eq] at hb
      cases hg
      obtain ⟨O, rr, _⟩ := a.ex
      cases rr with
      | sh rr =>
        cases rr with
        | iset hr hS hp =>
          have h2 := sf _ _ hr
          rw [← hw] at h2
          exact cr_sortedSet hc pins s σ H _ us Q I r ⟨_, _, _, rfl, h2, hb, fun ms p pm mm lm np => by
            have e : ms = ns := lt_unique pm hp fun j => (mm j).trans (hS j)
            subst e
            exact newL sf (reps_of_ints ms) q p np⟩
    · cases hg
  | lst ds =>
    simp only [blD] at hg
    split at hg
    · rename_i ns hi
      cases hg
      obtain ⟨p, rfl, hs⟩ := a.ints sf rfl hi
      rw [← hK] at hs
      exact cr_sortedI pins s σ H _ us Q I r ⟨p, ns, rfl, hs, fun ms p pm mm np => by
        rw [sort_unique' pm mm]
        exact newL sf (reps_of_ints _) q p np⟩
    · cases hg
  | _ => cases hg
theorem max_bl (hc : X.calm = true) (hK : X.K = k.K) : CallR X (.builtin "max") (rCl k (blD .max)) := by
  intro pins s σ H xs us Q I r hh
  obtain ⟨x, rfl, F, s1, s3, sf, a, hg, q⟩ := hh
  obtain ⟨o, d⟩ := s1
  cases d with
  | lst ds =>
    simp only [blD] at hg
    split at hg
    · rename_i n ns hi
      cases hg
      obtain ⟨p, rfl, hs⟩ := a.ints sf rfl hi
      rw [← hK] at hs
      exact cr_max hc pins s σ H _ us Q I r ⟨p, n :: ns, rfl, hs, Nat.succ_pos _, fun m hm hle => by
        obtain ⟨h1, h2, h3⟩ := maxI_spec ns n
        have e : m = maxI n ns := by
          apply Int.le_antisymm
          · rcases List.mem_cons.mp hm with e | e
            · subst e; exact h2
            · exact h3 m e
          · rcases h1 with h | h
            · rw [h]; exact hle n List.mem_cons_self
            · exact hle _ (List.mem_cons_of_mem _ h)
        rw [e]
        exact q _ F H [] (Ext.refl sf) (.sh (.int _))⟩
    · cases hg
  | _ => cases hg
theorem min_bl (hc : X.calm = true) (hK : X.K = k.K) : CallR X (.builtin "min") (rCl k (blD .min)) := by
  intro pins s σ H xs us Q I r hh
  obtain ⟨x, rfl, F, s1, s3, sf, a, hg, q⟩ := hh
  obtain ⟨o, d⟩ := s1
  cases d with
  | lst ds =>
    simp only [blD] at hg
    split at hg
    · rename_i n ns hi
      cases hg
      obtain ⟨p, rfl, hs⟩ := a.ints sf rfl hi
      rw [← hK] at hs
      exact cr_min hc pins s σ H _ us Q I r ⟨p, n :: ns, rfl, hs, Nat.succ_pos _, fun m hm hle => by
        obtain ⟨h1, h2, h3⟩ := minI_spec ns n
        have e : m = minI n ns := by
          apply Int.le_antisymm
          · rcases h1 with h | h
            · rw [h]; exact hle n List.mem_cons_self
            · exact hle _ (List.mem_cons_of_mem _ h)
          · rcases List.mem_cons.mp hm with e | e
            · subst e; exact h2
            · exact h3 m e
        rw [e]
        exact q _ F H [] (Ext.refl sf) (.sh (.int _))⟩
    · cases hg
  | _ => cases hg
theorem sum_bl (hc : X.calm = true) (hK : X.K = k.K) : CallR X (.builtin "sum") (rCl k (blD .sum)) := by
  intro pins s σ H xs us Q I r hh
  obtain ⟨x, rfl, F, s1, s3, sf, a, hg, q⟩ := hh
  obtain ⟨o, d⟩ := s1
  cases d with
  | lst ds =>
    simp only [blD] at hg
    split at hg
    · rename_i ns hi
      cases hg
      obtain ⟨p, rfl, hs⟩ := a.ints sf rfl hi
      rw [← hK] at hs
      exact cr_sum hc pins s σ H _ us Q I r ⟨p, ns, rfl, hs, q _ F H [] (Ext.refl sf) (.sh (.int _))⟩
    · cases hg
  | _ => cases hg
/-! ### isinstance, index, truth -/
theorem Arg.ty {F H : Hp} {s : Sl} {v : V} {t : String} (a : Arg k F H s v) (sf : Same F H) (e : tyD s.2 = some t) : TyX k.K H v (.type t) := by
  obtain ⟨o, d⟩ := s
  cases d with
  | non => cases e; cases arg_non a; exact .base .non
  | bl b => cases e; cases arg_bl a; exact .base (.bl b)
  | int b => cases e; cases arg_int a; exact .base (.int b)
  | str b => cases e; cases arg_str a; exact .base (.str b)
  | lst xs =>
    cases e
    obtain ⟨p, vs, rfl, hr, _⟩ := arg_lst a sf
    rcases hr with (h | ⟨u, h⟩) | ⟨o, its, n, h1, h2, _⟩
    · exact .base (.lst h)
    · exact .base (.frz h)
    · exact .kList h1 h2
  | tup xs =>
    cases e
    obtain ⟨p, vs, rfl, hr, _⟩ := arg_tup a
    rcases seqT sf hr with (h | ⟨u, h⟩) | ⟨o, its, n, h1, h2, _⟩
    · exact .base (.tup h)
    · exact .fTuple h
    · exact .kTuple h1 h2
  | _ => cases e
theorem atI_len {α β : Type} {xs : List α} {ys : List β} {i : Int} {x : α} (h : atI xs i = some x) (e : ys.length = xs.length) : ∃ (j : Nat) (y : β), xs[j]? = some x ∧ ys[j]? = some y ∧ atI ys i = some y := by
  unfold atI at h
  cases q : ixN xs.length i with
  | none => rw [q] at h; cases h
  | some j =>
    rw [q] at h
    have hj : j < xs.length := (List.getElem?_eq_some_iff.mp h).1
    refine ⟨j, ys[j]'(by omega), h, List.getElem?_eq_getElem (by omega), ?_⟩
    have q2 : ixN ys.length i = some j := by rw [e]; exact q
    unfold atI
    simp only [q2]
    exact List.getElem?_eq_getElem (by omega)
theorem Reps.at {F : Hp} : ∀ {ds : List D} {vs : List V} {j : Nat} {d : D} {v : V}, Reps k F ds vs → ds[j]? = some d → vs[j]? = some v → Rep k F d v
  | _, _, 0, _, _, .cons h _, e, e' => by cases e; cases e'; exact h
  | _, _, j + 1, _, _, .cons _ t, e, e' => t.at (j := j) e e'
theorem RepOl.at {F : Hp} : ∀ {o : Ow} {O : OL} {ds : List D} {vs : List V} {j : Nat} {d : D} {v : V}, RepOl k F o O ds vs → ds[j]? = some d → vs[j]? = some v → ∃ O', RepO k F o O' d v ∧ ∀ p ∈ O', p ∈ O
  | _, _, _, _, 0, _, _, .cons h _, e, e' => by cases e; cases e'; exact ⟨_, h, fun p hp => List.mem_append_left _ hp⟩
  | _, _, _, _, j + 1, _, _, .cons _ t, e, e' => by
    obtain ⟨O', r, h⟩ := t.at (j := j) e e'
    exact ⟨O', r, fun p hp => List.mem_append_right _ (h p hp)⟩
/-- the item at a place of what is known -/
theorem sub_of {F H : Hp} {s1 s3 : Sl} {i : D} {x : V} {Ob : OL} (sf : Same F H) (r : RepO k F s1.1 Ob s1.2 x) (hO : ∀ p ∈ Ob, H p.1 = some p.2) (e : subD s1 i = .ok s3) : ∃ (j : Int) (v : V) (O' : OL), i = .int j ∧ (∃ p vs, x = .ref p ∧ (SqL k.K H p vs ∨ SqT k.K H p vs) ∧ atI vs j = some v) ∧ RepO k F s3.1 O' s3.2 v ∧ ∀ p ∈ O', p ∈ Ob := by
  obtain ⟨o, d⟩ := s1
  unfold subD at e
  split at e
  · rename_i j xs h
    simp only at h
    subst h
    cases q : atI xs j with
    | none => rw [q] at e; cases e
    | some d =>
      rw [q] at e
      cases e
      cases r with
      | sh r =>
        cases r with
        | lst hr r =>
          obtain ⟨n, v, h1, h2, h3⟩ := atI_len q r.length
          exact ⟨j, v, [], rfl, ⟨_, _, rfl, .inl (sf.seq hr), h3⟩, .sh (r.at h1 h2), fun _ z => nomatch z⟩
      | lst r =>
        have hl : ∀ {o : Ow} {ds : List D} {O : OL} {vs : List V}, RepOl k F o O ds vs → vs.length = ds.length := fun {o ds} => by
          induction ds with
          | nil => intro O vs r; cases r; rfl
          | cons d r ih => intro O vs h; cases h with | cons h t => rw [List.length_cons, List.length_cons, ih t]
        obtain ⟨n, v, h1, h2, h3⟩ := atI_len q (hl r)
        obtain ⟨O', r', h⟩ := r.at h1 h2
        exact ⟨j, v, O', rfl, ⟨_, _, rfl, .inl (.inl (.inl (hO _ List.mem_cons_self))), h3⟩, r', fun p hp => List.mem_cons_of_mem _ (h p hp)⟩
  · rename_i j xs h
    simp only at h
    subst h
    cases q : atI xs j with
    | none => rw [q] at e; cases e
    | some d =>
      rw [q] at e
      cases r with
      | sh r =>
        cases e
        cases r with
        | tup hr r =>
          obtain ⟨n, v, h1, h2, h3⟩ := atI_len q r.length
          exact ⟨j, v, [], rfl, ⟨_, _, rfl, .inr (seqT sf hr), h3⟩, .sh (r.at h1 h2), fun _ z => nomatch z⟩
      | tup hr r => cases e
  · cases e
theorem indexD_spec : ∀ {vs : List V} {y : V} {n m : Nat}, indexD vs y n = .ok m → ∃ j z, m = n + j ∧ vs[j]? = some z ∧ eqV z y = true ∧ ∀ i z', i < j → vs[i]? = some z' → eqV z' y = false
  | [], _, _, _, h => by cases h
  | z :: r, y, n, m, h => by
    unfold indexD at h
    split at h
    · rename_i hz; cases h; exact ⟨0, z, rfl, rfl, hz, fun i _ hi => absurd hi (Nat.not_lt_zero _)⟩
    · rename_i hz
      obtain ⟨j, z', e, h1, h2, h3⟩ := indexD_spec h
      refine ⟨j + 1, z', by omega, h1, h2, fun i z'' hi hz' => ?_⟩
      cases i with
      | zero => cases hz'; exact Bool.eq_false_iff.mpr hz
      | succ i => exact h3 i z'' (by omega) hz'
theorem index_exc : ∀ (vs : List V) (y : V) (n : Nat) e, indexD vs y n ≠ .exc e
  | [], _, _, _ => fun h => by cases h
  | z :: r, y, n, e => by
    unfold indexD
    split
    · exact fun h => by cases h
    · exact index_exc r y _ e
theorem tru_of {F H : Hp} {s : Sl} {x : V} {b : Bool} (sf : Same F H) (a : Arg k F H s x) (e : truD s.2 = .ok b) : TruV k.K x H b := by
  obtain ⟨o, d⟩ := s
  cases d with
  | non => cases e; cases arg_non a; exact rfl
  | bl c => cases e; cases arg_bl a; exact rfl
  | int c => cases e; cases arg_int a; exact rfl
  | lst xs =>
    cases e
    obtain ⟨p, vs, rfl, hr, hl, _⟩ := arg_lst a sf
    refine .inl ⟨vs, hr, ?_⟩
    cases xs <;> cases vs <;> first | rfl | cases hl
  | tup xs =>
    cases e
    obtain ⟨p, vs, rfl, hr, hl, _⟩ := arg_tup a
    refine .inr (.inl ⟨vs, seqT sf hr, ?_⟩)
    cases xs <;> cases vs <;> first | rfl | cases hl
  | _ => cases e
end
end PyD

set_option Elab.async false
set_option linter.all false
set_option maxRecDepth 100000
set_option maxHeartbeats 4000000
namespace PyD
open PySem PySem.Spec PyProof.Rows L2
section
variable {X : Cx} {k : Ki} {T : Tb} {E : XK}
theorem ixOf_at {x : Str} : ∀ {N : List Str} {i : Nat}, ixOf x N = some i → N[i]? = some x
  | [], _, h => by cases h
  | y :: r, i, h => by
    unfold ixOf at h
    split at h
    · rename_i e; cases h; rw [e]; rfl
    · cases q : ixOf x r with
      | none => rw [q] at h; cases h
      | some j =>
        rw [q] at h; cases h
        have z : r[j]? = some x := ixOf_at q
        simpa using z
theorem okName_d {x : Str} (h : okName x = true) : (x == ("__debug__" : Str)) = false ∧ (x == ("__classdict__" : Str)) = false ∧ x ≠ "__name__" := by
  unfold okName at h
  simp only [Bool.and_eq_true, Bool.not_eq_true', beq_eq_false_iff_ne] at h
  exact ⟨beq_eq_false_iff_ne.mpr h.1.1, beq_eq_false_iff_ne.mpr h.1.2, h.2⟩
theorem slotOf_at {x : Str} {i : Nat} (h : slotOf T x = some i) : T.N[i]? = some x ∧ visB T.sc x = true ∧ okName x = true := by
  unfold slotOf at h
  split at h
  · rename_i e
    simp only [Bool.and_eq_true] at e
    exact ⟨ixOf_at h, e.1, e.2⟩
  · cases h
theorem out_mono {F H : Hp} {O : OL} {Q Q' : VK} {own : Bool} {x : R Sl} (h : Out k F H O Q own E x) (m : ∀ v H, Q v H → Q' v H) : Out k F H O Q' own E x := by
  cases x with
  | ok s => exact fun v F' H' Of Ob e r c => m _ _ (h v F' H' Of Ob e r c)
  | exc x => exact h
  | bad => exact h
theorem tD_mono {own : Bool} {sem : Ev} {σ : L2.St} {H : Hp} {Q Q' : VK} (h : tD k E own sem σ H Q) (m : ∀ v H, Q v H → Q' v H) : tD k E own sem σ H Q' := by
  obtain ⟨F, O, env, B, h⟩ := h
  exact ⟨F, O, env, B, out_mono h m⟩
theorem tDT_mono {sem : DEnv → R Bool} {σ : L2.St} {H : Hp} {Q Q' : Bool → Hp → Prop} (h : tDT k E sem σ H Q) (m : ∀ v H, Q v H → Q' v H) : tDT k E sem σ H Q' := by
  obtain ⟨F, O, env, B, h⟩ := h
  refine ⟨F, O, env, B, ?_⟩
  cases q : sem env with
  | ok s => rw [q] at h; exact fun F' H' e => m _ _ (h F' H' e)
  | exc x => rw [q] at h; exact h
  | bad => rw [q] at h; exact h
/-- what is new or shared may stand for what may be borrowed -/
theorem pe_weak {e : Expr} {sem : Ev} (h : PE X e (tD k E true sem)) : PE X e (tD k E false sem) := peI h fun σ H Q ⟨F, O, env, B, h⟩ => ⟨F, O, env, B, by
  cases q : sem env with
  | ok s => rw [q] at h; exact fun v F' H' Of Ob e r c => h v F' H' Of Ob e r (fun p hp => .inl (by rw [← show Ob = Of from c]; exact hp))
  | exc x => rw [q] at h; exact h
  | bad => rw [q] at h; exact h⟩
theorem pe_frz {e : Expr} {sem : Ev} (h : PE X e (tD k E true sem)) : PE X e (tD k E true (frzE sem)) := peI h fun σ H Q ⟨F, O, env, B, q⟩ => ⟨F, O, env, B, by
  have q : Out k F H O Q true E ((sem env).bind fun s => .ok (.sh, s.2)) := q
  cases z : sem env with
  | exc x => rw [z] at q; exact q
  | bad => rw [z] at q; exact q
  | ok s =>
    rw [z, R.bind_ok] at q
    intro v F' H' Of Ob e r c
    cases (show Ob = Of from c)
    have e' : Ext F H F' H' (Of ++ []) := by rw [List.append_nil]; exact e
    exact q v (frz F' Of) H' [] [] e'.freeze (.sh (r.frz (frz_same fun p hp => (e.own p hp).2.2) fun p hp => frz_at e.nd hp)) rfl⟩
theorem pe_varB {x : Str} {i : Nat} {pos : Pos} (O : XOk k T E X) (h : slotOf T x = some i) : PE X (.Name x pos) (tD k E false (varB i)) := by
  obtain ⟨h1, h2, h3⟩ := slotOf_at h
  obtain ⟨d1, d2, _⟩ := okName_d h3
  refine peI (pe_var (i := i) (by rw [O.hN]; exact h1) (O.vis x h2) d1 d2) fun σ H Q ⟨F, OO, env, B, q⟩ => ?_
  unfold varB at q
  split at q
  · rename_i s e
    obtain ⟨A, Bo, C, v, e1, e2, r, _⟩ := B.er.slot (o := s.1) (d := s.2) e
    refine ⟨v, e2, q v F H [] Bo (Ext.refl B.sf) r ?_⟩
    exact fun p hp => .inr (by rw [e1]; exact List.mem_append_right _ (List.mem_append_left _ hp))
  · exact q.elim
theorem pe_varE {x : Str} {i : Nat} {pos : Pos} (O : XOk k T E X) (h : slotOf T x = some i) : PE X (.Name x pos) (tD k E true (varE i)) := by
  refine peI (pe_varB O h) fun σ H Q ⟨F, OO, env, B, q⟩ => ⟨F, OO, env, B, ?_⟩
  unfold varE at q
  cases e : varB i env with
  | exc x => rw [e] at q; exact q
  | bad => rw [e] at q; exact q
  | ok s =>
    rw [e, R.bind_ok] at q
    unfold Sl.asSh at q
    split at q
    · rename_i hs
      intro v F' H' Of Ob e' r c
      obtain ⟨o, d⟩ := s
      simp only at hs
      subst hs
      cases r with
      | sh r => exact q v F' H' [] [] (e'.sub (fun _ z => nomatch z) List.nodup_nil) (.sh r) rfl
    · exact q.elim
theorem pe_lit {c : Const} {d : D} {j : Nat} {pos : Pos} (h : constD c = some d) : PE X (.Constant c j pos) (tD k E true fun _ => .ok (.sh, d)) := by
  cases c with
  | none => cases h; exact peI pe_non fun σ H Q ⟨F, OO, env, B, q⟩ => q.val B.sf .non
  | bool b => cases h; exact peI pe_bl fun σ H Q ⟨F, OO, env, B, q⟩ => q.val B.sf (.bl _)
  | int b => cases h; exact peI pe_int fun σ H Q ⟨F, OO, env, B, q⟩ => q.val B.sf (.int _)
  | str b => cases h; exact peI pe_str fun σ H Q ⟨F, OO, env, B, q⟩ => q.val B.sf (.str _)
  | _ => cases h
theorem XOk.Gl (O : XOk k T E X) {x : Str} (h : glB T.sc x = true) : Gl X x := O.gl x h
theorem pe_nameE {x : Str} {pos : Pos} (O : XOk k T E X) : PE X (.Name x pos) (tD k E true (nameE T x)) := by
  unfold nameE
  split
  · rename_i i h; exact pe_varE O h
  · split
    · rename_i h
      simp only [Bool.and_eq_true] at h
      split
      · rename_i d e
        obtain ⟨u, v, hm, hr, rep⟩ := O.con x d e
        exact peI (pe_glob (O.Gl h.1) hm hr (okName_d h.2).1) fun σ H Q ⟨F, OO, env, B, q⟩ => q.val B.sf (rep F)
      · exact peBad
    · exact peBad
theorem pe_binE {op : Operator} {a b : Expr} {sa sb : Ev} {pos : Pos} (O : XOk k T E X) (ha : PE X a (tD k E false sa)) (hb : PE X b (tD k E false sb)) : PE X (.BinOp a op b pos) (tD k E true (binE op sa sb)) :=
  peI (pe_op (bin_ok O.hK) ha hb) fun σ H Q h => tD_bin (bin_exc op) h
theorem pe_cmpE {op : CmpOp} {a b : Expr} {sa sb : Ev} {pos : Pos} (O : XOk k T E X) (ha : PE X a (tD k E false sa)) (hb : PE X b (tD k E false sb)) (hm : behindInMarks op b = false) : PE X (.Compare a [op] [b] pos) (tD k E true (cmpE op sa sb)) :=
  peI (pe_cmpR (cmp_ok O.hK O.un) ha hb hm) fun σ H Q h => tD_bin (cmp_exc op) h
theorem tDT_bl {sem : Ev} {own : Bool} {σ : L2.St} {H : Hp} {Q : Bool → Hp → Prop} (h : tDT k E (blT sem) σ H Q) : tD k E own sem σ H fun x H' => ∃ c, x = .bl c ∧ Q c H' := by
  obtain ⟨F, O, env, B, h⟩ := h
  refine ⟨F, O, env, B, OutT.fst (x := sem env) h fun s v F' H' Of Ob e x r c q => ?_⟩
  obtain ⟨o, d⟩ := s
  have A : Arg k F' H' (o, d) v := Arg.of B x r c
  cases d with
  | bl b => exact ⟨b, arg_bl A, q F' H' (Ext.refl x.fh)⟩
  | _ => exact q.elim
theorem pt_cmpE {op : CmpOp} {a b : Expr} {sa sb : Ev} {pos : Pos} (O : XOk k T E X) (ha : PE X a (tD k E false sa)) (hb : PE X b (tD k E false sb)) (hm : behindInMarks op b = false) : PT X (.Compare a [op] [b] pos) (tDT k E (blT (cmpE op sa sb))) :=
  ptI (pt_cmpR (cmp_ok O.hK O.un) ha hb hm) fun σ H Q h => tD_bin (cmp_exc op) (tDT_bl (own := true) h)
theorem tD_chain {op op' : CmpOp} {sa sb sc : Ev} {own : Bool} {σ : L2.St} {H : Hp} {Q : VK} (h : tD k E own (chainE op op' sa sb sc) σ H Q) : tChain (rOp k (cmpV op)) (rOp k (cmpV op')) (tD k E false sa) (tD k E false sb) (tD k E false sc) σ H Q := by
  obtain ⟨F, O, env, B, h⟩ := h
  refine ⟨F, O, env, B, Out.fst (x := sa env) h fun s1 v1 F1 H1 Of1 Ob1 e1 x1 r1 c1 h1 => ⟨F1, O, env, B.ext x1, Out.fst (x := sb env) h1 fun s2 v2 F2 H2 Of2 Ob2 e2 x2 r2 c2 h2 => ?_⟩⟩
  have A1 : Arg k F1 H1 s1 v1 := Arg.of B x1 r1 c1
  have B1 := B.ext x1
  have A2 : Arg k F2 H2 s2 v2 := Arg.of B1 x2 r2 c2
  cases q : cmpD op s1.2 s2.2 with
  | exc e => exact absurd q (cmpD_exc _ _ _ _)
  | bad => rw [q] at h2; exact h2.elim
  | ok b =>
    rw [q, R.bind_ok] at h2
    refine ⟨F2, s1, s2, (.sh, .bl b), x2.fh, A1.mono x2, A2, by unfold cmpV; rw [q]; rfl, fun v F' H' Of e r => ⟨b, ?_, ?_⟩⟩
    · cases r with
      | sh r => cases r; rfl
    · have B2 := (B1.ext x2).ext e
      have h3 := Out.shift h2 e
      cases b with
      | false => simp only [Bool.false_eq_true, if_false] at h3 ⊢; exact h3.val e.fh (.bl _)
      | true =>
        simp only [if_true] at h3 ⊢
        refine ⟨F', O, env, B2, Out.fst (x := sc env) h3 fun s4 v4 F4 H4 Of4 Ob4 e4 x4 r4 c4 h4 => ?_⟩
        have A4 : Arg k F4 H4 s4 v4 := Arg.of B2 x4 r4 c4
        cases q' : cmpD op' s2.2 s4.2 with
        | exc e => exact absurd q' (cmpD_exc _ _ _ _)
        | bad => rw [q'] at h4; exact h4.elim
        | ok b' =>
          rw [q', R.bind_ok] at h4
          exact ⟨F4, s2, s4, (.sh, .bl b'), x4.fh, (A2.mono e).mono x4, A4, by unfold cmpV; rw [q']; rfl, fun v F' H' Of e r => h4.new e r⟩
theorem pe_chainE {op op' : CmpOp} {a b c : Expr} {sa sb sc : Ev} {pos : Pos} (O : XOk k T E X) (ha : PE X a (tD k E false sa)) (hb : PE X b (tD k E false sb)) (hc : PE X c (tD k E false sc)) (hm : behindInMarks op' c = false) : PE X (.Compare a [op, op'] [b, c] pos) (tD k E true (chainE op op' sa sb sc)) :=
  peI (pe_chain (cmp_ok O.hK O.un) (cmp_ok O.hK O.un) ha hb hc (by unfold lastMarks lastMarks; exact hm)) fun σ H Q h => tD_chain h
theorem pt_chainE {op op' : CmpOp} {a b c : Expr} {sa sb sc : Ev} {pos : Pos} (O : XOk k T E X) (ha : PE X a (tD k E false sa)) (hb : PE X b (tD k E false sb)) (hc : PE X c (tD k E false sc)) (hm : behindInMarks op' c = false) : PT X (.Compare a [op, op'] [b, c] pos) (tDT k E (blT (chainE op op' sa sb sc))) :=
  ptI (pt_chain (cmp_ok O.hK O.un) (cmp_ok O.hK O.un) ha hb hc (by unfold lastMarks lastMarks; exact hm)) fun σ H Q h => tD_chain (tDT_bl (own := true) h)
theorem pe_notE {a : Expr} {sa : Ev} {pos : Pos} (ha : PE X a (tD k E false sa)) : PE X (.UnaryOp .Not a pos) (tD k E true (notE sa)) := by
  refine peI (pe_not ha) fun σ H Q ⟨F, O, env, B, h⟩ => ⟨F, O, env, B, Out.fst (x := sa env) h fun s1 v1 F1 H1 Of1 Ob1 e1 x1 r1 c1 h1 => ?_⟩
  have A1 : Arg k F1 H1 s1 v1 := Arg.of B x1 r1 c1
  obtain ⟨o, d⟩ := s1
  cases d with
  | bl b => exact ⟨b, arg_bl A1, h1.val x1.fh (.bl _)⟩
  | _ => exact h1.elim
theorem pe_negE {a : Expr} {sa : Ev} {pos : Pos} (ha : PE X a (tD k E false sa)) : PE X (.UnaryOp .USub a pos) (tD k E true (negE sa)) := by
  refine peI (pe_un un_neg ha) fun σ H Q ⟨F, O, env, B, h⟩ => ⟨F, O, env, B, Out.fst (x := sa env) h fun s1 v1 F1 H1 Of1 Ob1 e1 x1 r1 c1 h1 => ?_⟩
  have A1 : Arg k F1 H1 s1 v1 := Arg.of B x1 r1 c1
  obtain ⟨o, d⟩ := s1
  cases d with
  | int b => exact ⟨b, arg_int A1, h1.val x1.fh (.int _)⟩
  | _ => exact h1.elim
theorem pe_ifE {c a b : Expr} {tc : DEnv → R Bool} {sa sb : Ev} {pos : Pos} (hc : PT X c (tDT k E tc)) (ha : PE X a (tD k E true sa)) (hb : PE X b (tD k E true sb)) : PE X (.IfExp c a b pos) (tD k E true (ifE tc sa sb)) := by
  refine peI (pe_ifExp hc ha hb) fun σ H Q ⟨F, O, env, B, h⟩ => ⟨F, O, env, B, Out.fstT (x := tc env) h fun s F' H' e x q => ?_⟩
  cases s with
  | true => exact ⟨F', O, env, B.ext x, q⟩
  | false => exact ⟨F', O, env, B.ext x, q⟩
theorem pe_andE {a b : Expr} {rest : List Expr} {sa sb : Ev} {pos : Pos} (ha : PE X a (tD k E true sa)) (hb : PE X (.BoolOp .And (b :: rest) pos) (tD k E true sb)) : PE X (.BoolOp .And (a :: b :: rest) pos) (tD k E true (andE sa sb)) := by
  refine peI (pe_and ha hb) fun σ H Q ⟨F, O, env, B, h⟩ => ⟨F, O, env, B, Out.fst (x := sa env) h fun s1 v1 F1 H1 Of1 Ob1 e1 x1 r1 c1 h1 => ?_⟩
  have A1 : Arg k F1 H1 s1 v1 := Arg.of B x1 r1 c1
  obtain ⟨o, d⟩ := s1
  cases d with
  | bl b =>
    refine ⟨b, arg_bl A1, ?_⟩
    cases b with
    | true => exact ⟨F1, O, env, B.ext x1, h1⟩
    | false => exact h1.val x1.fh (.bl _)
  | _ => exact h1.elim
theorem pe_orE {a b : Expr} {rest : List Expr} {sa sb : Ev} {pos : Pos} (ha : PE X a (tD k E true sa)) (hb : PE X (.BoolOp .Or (b :: rest) pos) (tD k E true sb)) : PE X (.BoolOp .Or (a :: b :: rest) pos) (tD k E true (orE sa sb)) := by
  refine peI (pe_or ha hb) fun σ H Q ⟨F, O, env, B, h⟩ => ⟨F, O, env, B, Out.fst (x := sa env) h fun s1 v1 F1 H1 Of1 Ob1 e1 x1 r1 c1 h1 => ?_⟩
  have A1 : Arg k F1 H1 s1 v1 := Arg.of B x1 r1 c1
  obtain ⟨o, d⟩ := s1
  cases d with
  | bl b =>
    refine ⟨b, arg_bl A1, ?_⟩
    cases b with
    | false => exact ⟨F1, O, env, B.ext x1, h1⟩
    | true => exact h1.val x1.fh (.bl _)
  | _ => exact h1.elim
theorem pe_boolE {f : Expr → Ev} (h : ∀ e, PE X e (tD k E true (f e))) {op : BoolOp} {pos : Pos} : ∀ es : List Expr, PE X (.BoolOp op es pos) (tD k E true (boolE f op es))
  | [] => peBad
  | [a] => pe_one (h a)
  | a :: b :: r => by
    have ih := pe_boolE h (op := op) (pos := pos) (b :: r)
    cases op with
    | And => exact pe_andE (h a) ih
    | Or => exact pe_orE (h a) ih
/-! tests -/
theorem ptBad {e : Expr} : PT X e (tDT k E fun _ => .bad) := ⟨fun _ _ _ _ _ _ ⟨_, _, _, _, h⟩ => h.elim⟩
theorem pwBad {e : Expr} : PW X e (tDT k E fun _ => .bad) := ⟨fun _ _ _ _ _ _ _ ⟨_, _, _, _, h⟩ => h.elim⟩
theorem pw_boolT {f : Expr → DEnv → R Bool} (h : ∀ e, PT X e (tDT k E (f e))) {op : BoolOp} {pos : Pos} : ∀ es : List Expr, PW X (.BoolOp op es pos) (tDT k E (boolT f op es))
  | [] => pwBad
  | [a] => by
    cases op with
    | And => exact pw_and1 (h a)
    | Or => exact pw_or1 (h a)
  | a :: b :: r => by
    have ih := pw_boolT h (op := op) (pos := pos) (b :: r)
    cases op with
    | And =>
      refine pwI (pw_and (h a) ih) fun σ H Q ⟨F, O, env, B, q⟩ => ⟨F, O, env, B, OutT.fstT (x := f a env) q fun s F' H' e x q => ?_⟩
      cases s with
      | true => exact ⟨F', O, env, B.ext x, q⟩
      | false => exact q F' H' (Ext.refl x.fh)
    | Or =>
      refine pwI (pw_or (h a) ih) fun σ H Q ⟨F, O, env, B, q⟩ => ⟨F, O, env, B, OutT.fstT (x := f a env) q fun s F' H' e x q => ?_⟩
      cases s with
      | false => exact ⟨F', O, env, B.ext x, q⟩
      | true => exact q F' H' (Ext.refl x.fh)
theorem pt_notT {a : Expr} {t : DEnv → R Bool} {pos : Pos} (h : PT X a (tDT k E t)) : PT X (.UnaryOp .Not a pos) (tDT k E (notT t)) := by
  refine ptI (pt_not h) fun σ H Q ⟨F, O, env, B, q⟩ => ⟨F, O, env, B, OutT.fstT (x := t env) q fun s F' H' e x q => q F' H' (Ext.refl x.fh)⟩
theorem pt_truE {a : Expr} {sa : Ev} (O : XOk k T E X) (ha : PE X a (tD k E false sa)) (hp : plainTest a = true) : PT X a (tDT k E (truE sa)) := by
  refine ptI (pt_truth ha (fun whole => ?_)) fun σ H Q ⟨F, OO, env, B, q⟩ => ⟨F, OO, env, B, OutT.fst (x := sa env) q fun s v F' H' Of Ob e x r c q => ?_⟩
  · cases a with
    | UnaryOp op a p => cases op <;> first | rfl | cases hp
    | BoolOp => cases hp
    | IfExp => cases hp
    | Compare => cases hp
    | _ => rfl
  · cases z : truD s.2 with
    | ok b => rw [z] at q; exact ⟨b, by rw [O.hK]; exact tru_of x.fh (Arg.of B x r c) z, q F' H' (Ext.refl x.fh)⟩
    | exc e => rw [z] at q; obtain ⟨o, d⟩ := s; cases d <;> cases z
    | bad => rw [z] at q; exact q.elim
end
end PyD

set_option Elab.async false
set_option linter.all false
set_option maxRecDepth 100000
set_option maxHeartbeats 4000000
namespace PyD
open PySem PySem.Spec PyProof.Rows L2
/-! ### what is owned are lists -/
mutual
theorem RepO.lsts {k : Ki} {F : Hp} : ∀ {o : Ow} {O : OL} {d : D} {v : V}, RepO k F o O d v → ∀ p ∈ O, ∃ xs, p.2 = .lst xs
  | _, _, _, _, .sh h, _, z => nomatch z
  | _, _, _, _, .lst r, p, hp => by
    rcases List.mem_cons.mp hp with e | e
    · subst e; exact ⟨_, rfl⟩
    · exact RepOl.lsts r p e
  | _, _, _, _, .tup h r, p, hp => RepOt.lsts r p hp
theorem RepOl.lsts {k : Ki} {F : Hp} : ∀ {o : Ow} {O : OL} {d : List D} {v : List V}, RepOl k F o O d v → ∀ p ∈ O, ∃ xs, p.2 = .lst xs
  | _, _, _, _, .nil, _, z => nomatch z
  | _, _, _, _, .cons h t, p, hp => by
    rcases List.mem_append.mp hp with e | e
    · exact RepO.lsts h p e
    · exact RepOl.lsts t p e
theorem RepOt.lsts {k : Ki} {F : Hp} : ∀ {o : List Ow} {O : OL} {d : List D} {v : List V}, RepOt k F o O d v → ∀ p ∈ O, ∃ xs, p.2 = .lst xs
  | _, _, _, _, .nil, _, z => nomatch z
  | _, _, _, _, .cons h t, p, hp => by
    rcases List.mem_append.mp hp with e | e
    · exact RepO.lsts h p e
    · exact RepOt.lsts t p e
end
/-- what is no list stays what it is -/
def Keep (F F' : Hp) : Prop := ∀ a u, (∀ xs, u ≠ .lst xs) → F a = some u → F' a = some u
theorem keepT {K : PySem.W.Frag} {F F' : Hp} (e : Keep F F') {a : Addr} {vs : List V} (h : SqT K F a vs) : SqT K F' a vs := by
  rcases h with (h | ⟨o, h⟩) | h
  · exact .inl (.inl (e _ _ (fun _ z => nomatch z) h))
  · exact .inl (.inr ⟨o, e _ _ (fun _ z => nomatch z) h⟩)
  · exact .inr h
mutual
theorem imm_rep {k : Ki} {F F' : Hp} (e : Keep F F') : ∀ {d : D} {v : V}, imm d = true → Rep k F d v → Rep k F' d v
  | _, _, _, .non => .non
  | _, _, _, .bl b => .bl b
  | _, _, _, .int b => .int b
  | _, _, _, .str b => .str b
  | _, _, i, .tup h r => .tup (keepT e h) (imms_rep e (by unfold imm at i; exact i) r)
  | _, _, i, .lst .. => by unfold imm at i; cases i
  | _, _, i, .iset .. => by unfold imm at i; cases i
  | _, _, i, .ins .. => by unfold imm at i; cases i
theorem imms_rep {k : Ki} {F F' : Hp} (e : Keep F F') : ∀ {d : List D} {v : List V}, imms d = true → Reps k F d v → Reps k F' d v
  | _, _, _, .nil => .nil
  | _, _, i, .cons h t => by
    unfold imms at i
    rw [Bool.and_eq_true] at i
    exact .cons (imm_rep e i.1 h) (imms_rep e i.2 t)
end
mutual
theorem immO_rep {k : Ki} {F F' : Hp} (e : Keep F F') : ∀ {o : Ow} {O : OL} {d : D} {v : V}, immO o d = true → RepO k F o O d v → RepO k F' o O d v
  | _, _, _, _, i, .sh h => .sh (imm_rep e (by unfold immO at i; exact i) h)
  | _, _, _, _, i, .lst r => .lst (immOl_rep e (by unfold immO at i; exact i) r)
  | _, _, _, _, i, .tup h r => .tup (keepT e h) (immOt_rep e (by unfold immO at i; exact i) r)
theorem immOl_rep {k : Ki} {F F' : Hp} (e : Keep F F') : ∀ {o : Ow} {O : OL} {d : List D} {v : List V}, immOl o d = true → RepOl k F o O d v → RepOl k F' o O d v
  | _, _, _, _, _, .nil => .nil
  | _, _, _, _, i, .cons h t => by
    unfold immOl at i
    rw [Bool.and_eq_true] at i
    exact .cons (immO_rep e i.1 h) (immOl_rep e i.2 t)
theorem immOt_rep {k : Ki} {F F' : Hp} (e : Keep F F') : ∀ {o : List Ow} {O : OL} {d : List D} {v : List V}, immOt o d = true → RepOt k F o O d v → RepOt k F' o O d v
  | _, _, _, _, _, .nil => .nil
  | _, _, _, _, i, .cons h t => by
    unfold immOt at i
    rw [Bool.and_eq_true] at i
    exact .cons (immO_rep e i.1 h) (immOt_rep e i.2 t)
end
theorem repF_keep {k : Ki} {F F' : Hp} (e : Keep F F') : ∀ {fs : List (Str × D)} {vs : List (Str × V)}, (fs.all fun p => imm p.2) = true → RepF k F fs vs → RepF k F' fs vs
  | _, _, _, .nil => .nil
  | _, _, i, .cons h t => by
    rw [List.all_cons, Bool.and_eq_true] at i
    exact .cons (imm_rep e i.1 h) (repF_keep e i.2 t)
theorem repX_keep {k : Ki} {F F' : Hp} {x : Exn} {cls : Value} {dd : Option Addr} (e : Keep F F') (i : (x.fs.all fun p => imm p.2) = true) (r : RepX k F x cls dd) : RepX k F' x cls dd := by
  obtain ⟨C, h1, h2, h3⟩ := r
  refine ⟨C, h1, h2, ?_⟩
  rcases h3 with h | ⟨d, vfs, a, b, c⟩
  · exact .inl h
  · exact .inr ⟨d, vfs, a, e _ _ (fun _ z => nomatch z) b, repF_keep e i c⟩
section
variable {X : Cx} {k : Ki} {T : Tb} {E : XK}
/-! ### rows of expressions -/
inductive RepLs (k : Ki) (F : Hp) (P : Addr × HO → Prop) : List Sl → List V → Prop where
  | nil : RepLs k F P [] []
  | cons {s : Sl} {v : V} {ss : List Sl} {vs : List V} {Ob : OL} (h : RepO k F s.1 Ob s.2 v) (c : ∀ p ∈ Ob, P p) (t : RepLs k F P ss vs) : RepLs k F P (s :: ss) (v :: vs)
theorem RepLs.mono {F F' : Hp} {P P' : Addr × HO → Prop} (e : Same F F') (i : ∀ p, P p → P' p) : ∀ {ss : List Sl} {vs : List V}, RepLs k F P ss vs → RepLs k F' P' ss vs
  | _, _, .nil => .nil
  | _, _, .cons h c t => .cons (h.mono e) (fun p hp => i p (c p hp)) (t.mono e i)
theorem RepLs.length {F : Hp} {P : Addr × HO → Prop} : ∀ {ss : List Sl} {vs : List V}, RepLs k F P ss vs → vs.length = ss.length
  | _, _, .nil => rfl
  | _, _, .cons _ _ t => by rw [List.length_cons, List.length_cons, t.length]
theorem RepLs.shs {F : Hp} {P : Addr × HO → Prop} : ∀ {ss : List Sl} {vs : List V}, RepLs k F P ss vs → ss.all (·.1.isSh) = true → Reps k F (ss.map (·.2)) vs
  | _, _, .nil, _ => .nil
  | _, _, .cons (s := s) h _ t, i => by
    rw [List.all_cons, Bool.and_eq_true] at i
    obtain ⟨o, d⟩ := s
    cases h with
    | sh h => exact .cons h (t.shs i.2)
    | lst => cases i.1
    | tup => cases i.1
theorem RepLs.frz {F F' : Hp} {P : Addr × HO → Prop} (e : Same F F') (hP : ∀ p, P p → (∃ xs, p.2 = .lst xs) → F' p.1 = some p.2) : ∀ {ss : List Sl} {vs : List V}, RepLs k F P ss vs → Reps k F' (ss.map (·.2)) vs
  | _, _, .nil => .nil
  | _, _, .cons h c t => .cons (h.frz e fun p hp => hP p (c p hp) (h.lsts p hp)) (t.frz e hP)
def OutA (k : Ki) (F H : Hp) (O : OL) (Q : List V → Hp → Prop) (E : XK) : R (List Sl) → Prop
  | .ok ss => ∀ vs F' H' Of, Ext F H F' H' Of → RepLs k F' (fun p => p ∈ Of ∨ p ∈ O) ss vs → Q vs H'
  | .exc x => ∀ F' H' cls dd, Ext F H F' H' [] → RepX k F' x cls dd → E cls dd H'
  | .bad => False
def tA (k : Ki) (E : XK) (sem : DEnv → R (List Sl)) : TA := fun σ H Q => ∃ F O env, Bs k F O env σ H ∧ OutA k F H O Q E (sem env)
theorem OutA.fst {F H : Hp} {O : OL} {Q : VK} {own : Bool} {x : R (List Sl)} {f : List Sl → R Sl} {Q' : List V → Hp → Prop} (h : Out k F H O Q own E (x.bind f))
    (g : ∀ ss vs F' H' Of, x = .ok ss → Ext F H F' H' Of → RepLs k F' (fun p => p ∈ Of ∨ p ∈ O) ss vs → Out k F' H' O Q own E (f ss) → Q' vs H') : OutA k F H O Q' E x := by
  cases x with
  | ok s => exact fun v F' H' Of e r => g s v F' H' Of rfl e r (Out.shift h e)
  | exc x => exact h
  | bad => exact h
theorem star_cons {env : Env} {e : Expr} {es : List Expr} (h : star e = false) : starEach (e :: es) env = (false, eval e env) :: starEach es env := by
  cases e <;> first | rfl | cases h
theorem pa_L {f : Expr → Ev} (h : ∀ e, PE X e (tD k E false (f e))) : ∀ es : List Expr, es.any star = false → PA X es (tA k E (listE f es))
  | [], _ => paI pa_nil fun σ H Q ⟨F, O, env, B, q⟩ => q [] F H [] (Ext.refl B.sf) .nil
  | e :: es, hs => by
    rw [List.any_cons, Bool.or_eq_false_iff] at hs
    refine paI (pa_cons (h e) (pa_L h es hs.2) (star_cons hs.1)) fun σ H Q ⟨F, O, env, B, q⟩ => ⟨F, O, env, B, ?_⟩
    unfold listE at q
    cases z : f e env with
    | exc x => rw [z] at q; exact q
    | bad => rw [z] at q; exact q
    | ok s =>
      rw [z, R.bind_ok] at q
      intro v F1 H1 Of Ob x r c
      refine ⟨F1, O, env, B.ext x, ?_⟩
      cases z2 : listE f es env with
      | exc e' => rw [z2] at q; exact fun F' H' cls dd e r => q F' H' cls dd (x.drop e) r
      | bad => rw [z2] at q; exact q
      | ok ss =>
        rw [z2, R.bind_ok] at q
        refine fun vs F' H' Of' x' r' => q (v :: vs) F' H' (Of' ++ Of) (x.trans x') (.cons (r.mono x'.sF) (fun p hp => ?_) (r'.mono (Same.refl _) fun p hp => ?_))
        · rcases (show ∀ p ∈ Ob, p ∈ Of ∨ p ∈ O from c) p hp with z | z
          · exact .inl (List.mem_append_right _ z)
          · exact .inr z
        · rcases hp with z | z
          · exact .inl (List.mem_append_left _ z)
          · exact .inr z
theorem pe_lstE {f : Expr → Ev} (h : ∀ e, PE X e (tD k E true (f e))) {es : List Expr} {pos : Pos} (hs : es.any star = false) : PE X (.List es pos) (tD k E true (lstE f es)) := by
  refine peI (pe_lst (pa_L (fun e => pe_weak (h e)) es hs)) fun σ H Q ⟨F, O, env, B, q⟩ => ⟨F, O, env, B, OutA.fst (x := listE f es env) q fun ss vs F' H' Of e x r q => ?_⟩
  split at q
  · rename_i c
    simp only [Bool.and_eq_true, decide_eq_true_eq] at c
    exact ⟨by rw [r.length]; exact c.2, newL x.fh (r.shs c.1) fun v F' H' Of e r => q.new e r⟩
  · exact q.elim
theorem pe_tupE {f : Expr → Ev} (h : ∀ e, PE X e (tD k E true (f e))) {es : List Expr} {j : Nat} {pos : Pos} (hs : es.any star = false) : PE X (.Tuple es j pos) (tD k E true (tupE f es)) := by
  refine peI (pe_tup (pa_L (fun e => pe_weak (h e)) es hs)) fun σ H Q ⟨F, O, env, B, q⟩ => ⟨F, O, env, B, OutA.fst (x := listE f es env) q fun ss vs F' H' Of e x r q => ?_⟩
  split at q
  · rename_i c
    simp only [Bool.and_eq_true, decide_eq_true_eq] at c
    exact ⟨by rw [r.length]; exact c.2, newT x.fh (r.shs c.1) fun v F' H' Of e r => q.new e r⟩
  · exact q.elim
/-! ### calls of defs -/
theorem pe_callE {f : Str} {g : Sg} {h : Expr → Ev} {e : Expr} {es : List Expr} {p pos : Pos} (O : XOk k T E X) (hg : glB T.sc f = true) (hf : okName f = true) (hsg : T.sg f = some g) (hh : ∀ e, PE X e (tD k E false (h e))) (hs : (e :: es).any star = false) :
    PE X (.Call (.Name f p) (e :: es) [] pos) (tD k E true (callE T f g h (e :: es))) := by
  obtain ⟨fa, fd, ps, lev, Fn, room, hm, hk, hb⟩ := (O.cal f g hsg).ex
  have hs0 := hs
  rw [List.any_cons, Bool.or_eq_false_iff] at hs0
  have pl : (backTo pos (starEach es X.env)).any (·.1) = false := by
    have z : ∀ es : List Expr, es.any star = false → (backTo pos (starEach es X.env)).any (·.1) = false := fun es => by
      induction es with
      | nil => intro _; rfl
      | cons a r ih =>
        intro q
        rw [List.any_cons, Bool.or_eq_false_iff] at q
        rw [star_cons q.1]
        simpa [backTo] using ih q.2
    exact z es hs0.2
  refine peI (pe_call Fn room (O.Gl hg) hm hk hb .nil O.ps (pa_L hh (e :: es) hs) (hdb := (okName_d hf).1) (he := star_cons hs0.1) (hpl := pl)) fun σ H Q ⟨F, OO, env, B, q⟩ => ⟨F, OO, env, B, OutA.fst (x := listE h (e :: es) env) q fun ss vs F1 H1 Of _ x r q => ?_⟩
  split at q
  · rename_i c
    simp only [Bool.and_eq_true, Bool.or_eq_true, decide_eq_true_eq, Bool.not_eq_true'] at c
    obtain ⟨cl, cs⟩ := c
    refine ⟨by rw [List.append_nil, r.length, cl], ?_⟩
    rw [List.append_nil]
    cases hal : g.al with
    | true =>
      have sh : ss.all (·.1.isSh) = true := by
        rcases cs with z | z
        · rw [hal] at z; cases z
        · exact z
      refine ⟨F1, ss.map (·.2), x.fh, r.shs sh, ?_⟩
      cases z : T.call f (ss.map (·.2)) with
      | bad => rw [z] at q; exact q
      | exc e => rw [z] at q; exact q
      | ok d => rw [z] at q; exact fun v F' H' Or e r => Out.new (s := (g.ret, d)) q e r
    | false =>
      -- what the caller owns is lent, frozen
      let L : List Addr := ((Of ++ OO).filter fun p => match p.2 with | .lst _ => true | _ => false).map (·.1)
      have B1 := B.ext x
      have at1 : ∀ p, (p ∈ Of ∨ p ∈ OO) → H1 p.1 = some p.2 := fun p hp => hp.elim (fun z => (x.own p z).2.1) fun z => (B1.ow p z).1
      have inL : ∀ p, (p ∈ Of ∨ p ∈ OO) → (∃ xs, p.2 = .lst xs) → p.1 ∈ L := fun p hp ⟨xs, e⟩ => by
        refine List.mem_map.mpr ⟨p, List.mem_filter.mpr ⟨List.mem_append.mpr hp, by rw [e]⟩, rfl⟩
      have ofL : ∀ a, a ∈ L → ∃ xs, H1 a = some (.lst xs) := fun a ha => by
        obtain ⟨p, hp, rfl⟩ := List.mem_map.mp ha
        obtain ⟨h1, h2⟩ := List.mem_filter.mp hp
        have z := at1 p (List.mem_append.mp h1)
        split at h2
        · rename_i xs e; exact ⟨xs, by rw [z, e]⟩
        · cases h2
      let Fc : Hp := fun a => if a ∈ L then H1 a else F1 a
      have sFc : Same F1 Fc := fun a o e => by
        show (if a ∈ L then H1 a else F1 a) = some o
        split
        · exact x.fh _ _ e
        · exact e
      have sFH : Same Fc H1 := fun a o e => by
        have e' : (if a ∈ L then H1 a else F1 a) = some o := e
        split at e'
        · exact e'
        · exact x.fh _ _ e'
      have rep : Reps k Fc (ss.map (·.2)) vs := r.frz sFc fun p hp hl => by
        show (if p.1 ∈ L then H1 p.1 else F1 p.1) = some p.2
        rw [if_pos (inL p hp hl)]; exact at1 p hp
      refine ⟨Fc, ss.map (·.2), sFH, rep, ?_⟩
      cases z : T.call f (ss.map (·.2)) with
      | bad => rw [z] at q; exact q
      | exc e =>
        rw [z] at q
        refine fun F' H' cls dd ex rx => ?_
        have im := O.imx f g _ e hsg z
        let F3 : Hp := fun a => if H1 a = none then F' a else F1 a
        have f3n : ∀ a, H1 a = none → F3 a = F' a := fun a h => if_pos h
        have f3s : ∀ a, H1 a ≠ none → F3 a = F1 a := fun a h => if_neg h
        have e3 : Ext F1 H1 F3 H' [] := by
          refine ⟨fun a o h => ?_, ex.sH, f3s, fun a o h => ?_, (fun _ z => nomatch z), List.nodup_nil⟩
          · rw [f3s a (by rw [x.fh _ _ h]; exact fun z => nomatch z)]; exact h
          · by_cases n : H1 a = none
            · rw [f3n a n] at h; exact ex.fh _ _ h
            · rw [f3s a n] at h; exact ex.sH _ _ (x.fh _ _ h)
        have kp : Keep F' F3 := fun a u nl h => by
          by_cases n : H1 a = none
          · rw [f3n a n]; exact h
          · rw [f3s a n]
            have h1 : Fc a = some u := by rw [← ex.ag a n]; exact h
            have h2 : (if a ∈ L then H1 a else F1 a) = some u := h1
            split at h2
            · rename_i hL
              obtain ⟨xs, e'⟩ := ofL a hL
              rw [e'] at h2
              exact absurd (Option.some.inj h2).symm (nl xs)
            · exact h2
        exact q F3 H' cls dd e3 (repX_keep kp im rx)
      | ok d =>
        rw [z] at q
        intro v F' H' Or e r'
        have im := O.im f g _ d hsg hal z
        let F3 : Hp := fun a => if H1 a = none then F' a else F1 a
        have f3n : ∀ a, H1 a = none → F3 a = F' a := fun a h => if_pos h
        have f3s : ∀ a, H1 a ≠ none → F3 a = F1 a := fun a h => if_neg h
        have e3 : Ext F1 H1 F3 H' Or := by
          refine ⟨fun a o h => ?_, e.sH, f3s, fun a o h => ?_, fun p hp => ?_, e.nd⟩
          · rw [f3s a (by rw [x.fh _ _ h]; exact fun z => nomatch z)]; exact h
          · by_cases n : H1 a = none
            · rw [f3n a n] at h; exact e.fh _ _ h
            · rw [f3s a n] at h; exact e.sH _ _ (x.fh _ _ h)
          · obtain ⟨h1, h2, h3⟩ := e.own p hp
            exact ⟨h1, h2, by rw [f3n _ h1]; exact h3⟩
        have kp : Keep F' F3 := fun a u nl h => by
          by_cases n : H1 a = none
          · rw [f3n a n]; exact h
          · rw [f3s a n]
            have h1 : Fc a = some u := by rw [← e.ag a n]; exact h
            have h2 : (if a ∈ L then H1 a else F1 a) = some u := h1
            split at h2
            · rename_i hL
              obtain ⟨xs, e'⟩ := ofL a hL
              rw [e'] at h2
              exact absurd (Option.some.inj h2).symm (nl xs)
            · exact h2
        exact Out.new (s := (g.ret, d)) q e3 (immO_rep kp im r')
  · exact q.elim

/-! ### builtins -/
theorem boot_ty {t : Str} {b : String} (h : tyOf t = some b) : bootBuiltins t = some (.type b) := by
  unfold tyOf at h
  split at h
  · rename_i e; subst e; cases h; decide +kernel
  · split at h
    · rename_i e; subst e; cases h; decide +kernel
    · split at h
      · rename_i e; subst e; cases h; decide +kernel
      · split at h
        · rename_i e; subst e; cases h; decide +kernel
        · split at h
          · rename_i e; subst e; cases h; decide +kernel
          · cases h
theorem pe_isiE {e : Expr} {se : Ev} {t : Str} {p1 p2 pos : Pos} (O : XOk k T E X) (hg : glB T.sc "isinstance" = true) (ht : glB T.sc t = true) (hn : okName t = true) (hs : star e = false) (hty : (tyOf t).isSome = true) (he : PE X e (tD k E false se)) :
    PE X (.Call (.Name "isinstance" p1) [e, .Name t p2] [] pos) (tD k E true (isiE se t)) := by
  obtain ⟨b, hb⟩ := Option.isSome_iff_exists.mp hty
  have bt := boot_ty hb
  have hm : X.mg t = none := O.blt t (by unfold bname; rw [hb]; simp)
  refine peI (pe_callB call_isi (O.Gl hg) (O.blt _ (by decide +kernel)) (by decide +kernel) (pa_cons he (pa_cons (pe_bltn (v := .ty b) (O.Gl ht) hm bt rfl (okName_d hn).2.2 (okName_d hn).1) pa_nil) (star_cons hs)) (by decide) (by decide) (star_cons hs) rfl) fun σ H Q ⟨F, OO, env, B, q⟩ => ⟨F, OO, env, B, Out.fst (x := se env) q fun s1 v1 F1 H1 Of1 Ob1 e1 x1 r1 c1 h1 => ?_⟩
  have A1 : Arg k F1 H1 s1 v1 := Arg.of B x1 r1 c1
  unfold isiD at h1
  rw [hb] at h1
  split at h1
  · rename_i a b' ha hb'
    cases hb'
    cases z : kitB a b with
    | none => rw [z] at h1; exact h1.elim
    | some r =>
      rw [z] at h1
      have ty := A1.ty x1.fh ha
      rw [← O.hK] at ty
      exact ⟨v1, .ty b, _, _, r, rfl, .ty b, ty, kit_ty z, h1.val x1.fh (.bl _)⟩
  · exact h1.elim
end
end PyD

set_option Elab.async false
set_option linter.all false
set_option maxRecDepth 100000
set_option maxHeartbeats 4000000
namespace PyD
open PySem PySem.Spec PyProof.Rows L2
section
variable {X : Cx} {k : Ki} {T : Tb} {E : XK}
theorem tD_cb {sa : Ev} {b : Bl} {σ : L2.St} {H : Hp} {Q : VK} (h : tD k E true (blE b sa) σ H Q) : tCB (rCl k (blD b)) (tCons (tD k E false sa) tNil) σ H Q :=
  tD_mono (tD_un (bl_exc b) h) fun v H r => ⟨v, rfl, r⟩
theorem pe_blE {x : Str} {b : Bl} {a : Expr} {sa : Ev} {p pos : Pos} (O : XOk k T E X) (hx : blOf x = some b) (hg : glB T.sc x = true) (hs : star a = false) (ha : PE X a (tD k E false sa)) : PE X (.Call (.Name x p) [a] [] pos) (tD k E true (blE b sa)) := by
  have hm : X.mg x = none := O.blt x (by unfold bname; rw [hx]; rfl)
  have B : ∀ {id : String}, CallR X (.builtin id) (rCl k (blD b)) → bootBuiltins x = some (.builtin id) → x ≠ "__name__" → (x == ("__debug__" : Str)) = false → PE X (.Call (.Name x p) [a] [] pos) (tD k E true (blE b sa)) := fun {id} r hb n1 n2 =>
    peI (pe_callB r (O.Gl hg) hm hb (pa_cons ha pa_nil (star_cons hs)) n1 n2 (star_cons hs) rfl) fun σ H Q h => tD_cb h
  have Ty : ∀ {id : String}, CallR X (.type id) (rCl k (blD b)) → bootBuiltins x = some (.type id) → x ≠ "__name__" → (x == ("__debug__" : Str)) = false → PE X (.Call (.Name x p) [a] [] pos) (tD k E true (blE b sa)) := fun {id} r hb n1 n2 =>
    peI (pe_callTy r (O.Gl hg) hm hb (pa_cons ha pa_nil (star_cons hs)) n1 n2 (star_cons hs) rfl) fun σ H Q h => tD_cb h
  unfold blOf at hx
  split at hx
  · rename_i e; subst e; cases hx; exact B (len_bl O.hK) (by decide +kernel) (by decide) (by decide)
  split at hx
  · rename_i e; subst e; cases hx; exact B abs_bl (by decide +kernel) (by decide) (by decide)
  split at hx
  · rename_i e; subst e; cases hx; exact Ty int_bl (by decide +kernel) (by decide) (by decide)
  split at hx
  · rename_i e; subst e; cases hx; exact Ty (tuple_bl O.hK) (by decide +kernel) (by decide) (by decide)
  split at hx
  · rename_i e; subst e; cases hx; exact Ty (list_bl O.hK) (by decide +kernel) (by decide) (by decide)
  split at hx
  · rename_i e; subst e; cases hx; exact Ty (set_bl O.calm O.hK O.hw) (by decide +kernel) (by decide) (by decide)
  split at hx
  · rename_i e; subst e; cases hx; exact B (sorted_bl O.calm O.hK O.hw) (by decide +kernel) (by decide) (by decide)
  split at hx
  · rename_i e; subst e; cases hx; exact B (max_bl O.calm O.hK) (by decide +kernel) (by decide) (by decide)
  split at hx
  · rename_i e; subst e; cases hx; exact B (min_bl O.calm O.hK) (by decide +kernel) (by decide) (by decide)
  split at hx
  · rename_i e; subst e; cases hx; exact B (sum_bl O.calm O.hK) (by decide +kernel) (by decide) (by decide)
  · cases hx
theorem plain_ix {b : Expr} (h : plainIx b = true) : PlainIx b := by
  intro o i
  cases b <;> first | rfl | cases h
theorem subD_exc (s : Sl) (i : D) (e : Exn) : subD s i ≠ .exc e := by
  intro h
  unfold subD at h
  split at h
  · cases q : atI _ _ with
    | none => rw [q] at h; cases h
    | some d => rw [q] at h; cases h
  · cases q : atI _ _ with
    | none => rw [q] at h; cases h
    | some d => rw [q] at h; rw [R.need_some, R.bind_ok] at h; split at h <;> cases h
  · cases h
theorem pe_subE {a b : Expr} {sa sb : Ev} {pos : Pos} (O : XOk k T E X) (ha : PE X a (tD k E false sa)) (hb : PE X b (tD k E true sb)) (hp : plainIx b = true) : PE X (.Subscript a b pos) (tD k E false (subE sa sb)) := by
  refine peI (pe_ix (ix_list.or ix_tup) ha (pe_weak hb) (plain_ix hp)) fun σ H Q ⟨F, OO, env, B, q⟩ => ⟨F, OO, env, B, Out.fst (x := sa env) q fun s1 v1 F1 H1 Of1 Ob1 e1 x1 r1 c1 h1 => ⟨F1, OO, env, B.ext x1, Out.fst (x := sb env) h1 fun s2 v2 F2 H2 Of2 Ob2 e2 x2 r2 c2 h2 => ?_⟩⟩
  have A2 : Arg k F2 H2 s2 v2 := Arg.of (B.ext x1) x2 r2 c2
  cases z : subD s1 s2.2 with
  | exc e => exact absurd z (subD_exc _ _ _)
  | bad => rw [z] at h2; exact h2.elim
  | ok s3 =>
    rw [z] at h2
    have inO : ∀ p ∈ Ob1, p ∈ Of1 ∨ p ∈ OO := c1
    have hO : ∀ p ∈ Ob1, H2 p.1 = some p.2 := fun p hp => (inO p hp).elim (fun z => x2.sH _ _ (x1.own p z).2.1) fun z => x2.sH _ _ (x1.sH _ _ (B.ow p z).1)
    obtain ⟨j, v, O', ej, hv, rep, sub⟩ := sub_of x2.fh (r1.mono x2.sF) hO z
    have ev2 : v2 = .int j := by
      obtain ⟨o2, d2⟩ := s2
      simp only at ej
      subst ej
      exact arg_int A2
    obtain ⟨p, vs, ev1, hs, hat⟩ := hv
    -- what the first part made is still there
    have qv : Q v H2 := by
      have e12 : Ext F H F2 H2 (Of2 ++ Of1) := x1.trans x2
      have q' : Out k F H OO Q false E (.ok s3) := by
        have z' := q
        unfold subE at z'
        rw [e1, R.bind_ok, e2, R.bind_ok, z] at z'
        exact z'
      refine q' v F2 H2 _ O' e12 rep fun p hp => ?_
      rcases inO p (sub p hp) with w | w
      · exact .inl (List.mem_append_right _ w)
      · exact .inr w
    subst ev2 ev1
    rcases hs with hs | hs
    · rw [← O.hK] at hs; exact .inl ⟨p, vs, j, v, rfl, rfl, hs, hat, qv⟩
    · rw [← O.hK] at hs; exact .inr ⟨p, vs, j, v, rfl, rfl, hs, hat, qv⟩

theorem pe_subSh {a b : Expr} {sa sb : Ev} {pos : Pos} (O : XOk k T E X) (ha : PE X a (tD k E false sa)) (hb : PE X b (tD k E true sb)) (hp : plainIx b = true) : PE X (.Subscript a b pos) (tD k E true fun env => (subE sa sb env).bind Sl.asSh) := by
  refine peI (pe_subE O ha hb hp) fun σ H Q ⟨F, OO, env, B, q⟩ => ⟨F, OO, env, B, ?_⟩
  cases e : subE sa sb env with
  | exc x => simp only [e] at q; exact q
  | bad => simp only [e] at q; exact q
  | ok s =>
    simp only [e, R.bind_ok] at q
    unfold Sl.asSh at q
    split at q
    · rename_i hs
      intro v F' H' Of Ob e' r c
      obtain ⟨o, d⟩ := s
      simp only at hs
      subst hs
      cases r with
      | sh r => exact q v F' H' [] [] (e'.sub (fun _ z => nomatch z) List.nodup_nil) (.sh r) rfl
    · exact q.elim
theorem base_ok {o : Expr} {m : Str} {env : Env} (h : call0 o = false) : attributeBase o m env (eval o env) = eval o env := by
  unfold attributeBase
  split
  · cases h
  · rfl
theorem Arg.itemsL {F H : Hp} {s : Sl} {v : V} {ds : List D} {ws : List V} (a : Arg k F H s v) (sf : Same F H) (e : s.2 = .lst ds) (e2 : D.vfs ds = some ws) : ∃ p, v = .ref p ∧ SqL k.K H p ws ∧ ws.all flatV = true := by
  obtain ⟨o, d⟩ := s
  subst e
  obtain ⟨p, vs, rfl, hr, _, _, O, _, h⟩ := arg_lst a sf
  rcases h with ⟨_, r⟩ | ⟨_, _, r⟩
  · obtain ⟨rfl, f⟩ := vfs_of r e2; exact ⟨p, rfl, hr, f⟩
  · obtain ⟨rfl, f⟩ := vfs_ol r e2; exact ⟨p, rfl, hr, f⟩
theorem pe_idxE {o a : Expr} {so sa : Ev} {ap pos : Pos} (O : XOk k T E X) (ho : PE X o (tD k E false so)) (ha : PE X a (tD k E false sa)) (hs : star a = false) (h0 : call0 o = false) (hl : (ap.endLine == pos.line) = true) :
    PE X (.Call (.Attribute o "index" ap) [a] [] pos) (tD k E true (idxE so sa)) := by
  refine peI (pe_bm PySem.F.plainAttrs_list PySem.F.slot_list_index PySem.F.type_list_index mt_index ho (pa_cons ha pa_nil (star_cons hs)) (base_ok h0) (by rw [star_cons hs]; rfl) hl (star_cons hs) rfl) fun σ H Q ⟨F, OO, env, B, q⟩ => ⟨F, OO, env, B, Out.fst (x := so env) q fun s1 v1 F1 H1 Of1 Ob1 e1 x1 r1 c1 h1 => ?_⟩
  have A1 : Arg k F1 H1 s1 v1 := Arg.of B x1 r1 c1
  obtain ⟨o1, d1⟩ := s1
  cases d1 with
  | lst ds =>
    obtain ⟨p, vs0, rfl, hr, hlen, _⟩ := arg_lst A1 x1.fh
    rw [← O.hK] at hr
    refine ⟨.inl ⟨rfl, vs0, hr⟩, F1, OO, env, B.ext x1, Out.fst (x := sa env) h1 fun s2 v2 F2 H2 Of2 Ob2 e2 x2 r2 c2 h2 => ?_⟩
    have A2 : Arg k F2 H2 s2 v2 := Arg.of (B.ext x1) x2 r2 c2
    have A1' := A1.mono x2
    cases hb : s2.2.vf with
    | none => simp only [hb] at h2; exact h2.elim
    | some b =>
      simp only [hb] at h2
      cases q1 : D.vfs ds with
      | none => rw [q1] at h2; exact h2.elim
      | some vs =>
        rw [q1, R.need_some, R.bind_ok] at h2
        cases q2 : indexD vs b 0 with
        | exc e => exact absurd q2 (index_exc _ _ _ _)
        | bad => rw [q2] at h2; exact h2.elim
        | ok j =>
          rw [q2, R.bind_ok] at h2
          obtain ⟨i, z, ej, g1, g2, g3⟩ := indexD_spec q2
          obtain ⟨p', ep, hs', hf⟩ := A1'.itemsL x2.fh rfl q1
          cases ep
          have ev := arg_vf A2 hb
          subst ev
          rw [← O.hK] at hs'
          exact ⟨p, vs, v2, i, z, rfl, rfl, hs', vf_flat hb, hf, g1, g2, g3, by rw [ej, Nat.zero_add] at h2; exact h2.val x2.fh (.int _)⟩
  | _ => exact h1.elim
end
end PyD

set_option Elab.async false
set_option linter.all false
set_option maxRecDepth 100000
set_option maxHeartbeats 4000000
namespace PyD
open PySem PySem.Spec PyProof.Rows L2
section
variable {X : Cx} {k : Ki} {T : Tb} {E : XK}
/-! ### what is walked -/
/-- the walk J gives the items, wherever the frozen part stands -/
structure Wk (k : Ki) (J : It) (F : Hp) (xs : List D) : Prop where
  item : ∀ F1 H1 i d, Same F F1 → Same F1 H1 → xs[i]? = some d → J.go i H1 ∧ ∀ x H2, J.yld i H1 x H2 → H2 = H1 ∧ Rep k F1 d x
  stop : ∀ F1 H1, Same F F1 → Same F1 H1 → J.stop xs.length H1
def OutI (k : Ki) (F H : Hp) (R' : It → Hp → Prop) (E : XK) : R (List D) → Prop
  | .ok xs => ∀ J F' H' Of, Ext F H F' H' Of → Wk k J F' xs → R' J H'
  | .exc x => ∀ F' H' cls dd, Ext F H F' H' [] → RepX k F' x cls dd → E cls dd H'
  | .bad => False
def tI (k : Ki) (E : XK) (sem : DEnv → R (List D)) : TI := fun σ H R' => ∃ F O env, Bs k F O env σ H ∧ OutI k F H R' E (sem env)
theorem piI {tg e : Expr} {t t' : TI} (h : PI X tg e t) (i : ∀ σ H Q, t' σ H Q → t σ H Q) : PI X tg e t' := ⟨fun pins s σ H Q I hw => h.run pins s σ H Q I (i σ H Q hw)⟩
def iSeq (K : PySem.W.Frag) (tl : TE) : TI := fun σ H R => tl σ H fun x H1 => ∃ a, x = .ref a ∧ (((∃ xs, SqL K H1 a xs) ∧ R (Itl K a) H1) ∨ ((∃ xs, SqT K H1 a xs) ∧ R (Itt K a) H1))
theorem pi_seq {tg l : Expr} {tl : TE} (hl : PE X l tl) : PI X tg l (iSeq X.K tl) := by
  refine ⟨fun pins s σ H R I h => thn (hl.run pins s σ H _ I h) fun v s1 ⟨x, H1, I1, r1, a, e, q⟩ => ?_⟩
  subst e
  cases r1
  have kp : Inv X pins σ H1 s1 → ∀ o : Obj, Inv X pins σ H1 { s1 with heap := s1.heap.push o } := fun I o => I.kept (t' := s1.toks) fun b u e => Heap.get?_push_of_some _ e
  have fp : ∀ b ∈ [s1.heap.objs.size], FpOk X pins H1 b := fun b hb => by
    rw [List.mem_singleton.mp hb]; exact I1.fpOk (Nat.le_refl _) I1.fresh
  rcases q with ⟨⟨xs, hq⟩, q⟩ | ⟨⟨xs, hq⟩, q⟩
  · obtain ⟨its, rv, p, hz⟩ := I1.list hq
    exact wpAny_pyIter_list p.isList ⟨_, [s1.heap.objs.size], _, _, H1, rfl, kp I1 _, turn_list a _, ⟨_, Heap.get?_push_size _ rfl, rfl, rfl⟩, fp, q⟩
  · obtain ⟨its, rv, p, hz⟩ := I1.tuple hq
    exact wpAny_pyIter_tuple (show s1.heap.IsTuple a its.toArray from p) ⟨_, [s1.heap.objs.size], _, _, H1, rfl, kp I1 _, turn_tuple a _, ⟨_, Heap.get?_push_size _ rfl, rfl, rfl⟩, fp, q⟩
theorem OutI.fst {F H : Hp} {O : OL} {R' : It → Hp → Prop} {Q' : VK} {b : Bool} {x : R Sl} {f : Sl → R (List D)} (h : OutI k F H R' E (x.bind f))
    (g : ∀ s v F' H' Of Ob, x = .ok s → Ext F H F' H' Of → RepO k F' s.1 Ob s.2 v → (if b = true then Ob = Of else ∀ p ∈ Ob, p ∈ Of ∨ p ∈ O) → OutI k F' H' R' E (f s) → Q' v H') : Out k F H O Q' b E x := by
  cases x with
  | ok s =>
    refine fun v F' H' Of Ob e r c => g s v F' H' Of Ob rfl e r c ?_
    rw [R.bind_ok] at h
    cases z : f s with
    | ok xs => rw [z] at h; exact fun J F2 H2 O2 e2 w => h J F2 H2 O2 (e.drop e2) w
    | exc x => rw [z] at h; exact fun F2 H2 cls dd e2 w => h F2 H2 cls dd (e.drop e2) w
    | bad => rw [z] at h; exact h
  | exc x => exact h
  | bad => exact h
theorem Reps.get {F : Hp} : ∀ {ds : List D} {vs : List V} {i : Nat} {d : D}, Reps k F ds vs → ds[i]? = some d → ∃ v, vs[i]? = some v ∧ Rep k F d v
  | _, _, 0, _, .cons h _, e => by cases e; exact ⟨_, rfl, h⟩
  | _, _, i + 1, _, .cons _ t, e => t.get (i := i) e
theorem wk_seq (hK : X.K = k.K) {F : Hp} {d : D} {v : V} {xs : List D} (r : Rep k F d v) (e : PyD.items d = some xs) (H : Hp) (sf : Same F H) : ∃ a, v = .ref a ∧ (((∃ vs, SqL X.K H a vs) ∧ Wk k (Itl X.K a) F xs) ∨ ((∃ vs, SqT X.K H a vs) ∧ Wk k (Itt X.K a) F xs)) := by
  cases r with
  | @lst a vs ds hr r =>
    cases e
    rw [← hK] at hr
    refine ⟨a, rfl, .inl ⟨⟨vs, sf.seq hr⟩, fun F1 H1 i d s1 s2 hd => ?_, fun F1 H1 s1 s2 => ⟨vs, s2.seq (s1.seq hr), by rw [r.length]; exact Nat.le_refl _⟩⟩⟩
    obtain ⟨v, hv, rv⟩ := r.get hd
    have q : SqL X.K H1 a vs := s2.seq (s1.seq hr)
    refine ⟨⟨vs, v, q, hv⟩, fun x H2 ⟨e1, e2⟩ => ⟨e1, ?_⟩⟩
    have z := e2 vs q
    rw [hv] at z; cases z
    exact rv.mono s1
  | @tup a vs ds hr r =>
    cases e
    rw [← hK] at hr
    refine ⟨a, rfl, .inr ⟨⟨vs, seqT sf hr⟩, fun F1 H1 i d s1 s2 hd => ?_, fun F1 H1 s1 s2 => ⟨vs, seqT s2 (seqT s1 hr), by rw [r.length]; exact Nat.le_refl _⟩⟩⟩
    obtain ⟨v, hv, rv⟩ := r.get hd
    have q : SqT X.K H1 a vs := seqT s2 (seqT s1 hr)
    refine ⟨⟨vs, v, q, hv⟩, fun x H2 ⟨e1, e2⟩ => ⟨e1, ?_⟩⟩
    have z := e2 vs q
    rw [hv] at z; cases z
    exact rv.mono s1
  | _ => cases e
theorem pi_seqD {tg l : Expr} {sl : Ev} (O : XOk k T E X) (hl : PE X l (tD k E true sl)) : PI X tg l (tI k E (Src.seq sl).run) := by
  refine piI (pi_seq hl) fun σ H R' ⟨F, OO, env, B, q⟩ => ⟨F, OO, env, B, OutI.fst (x := sl env) q fun s v F' H' Of Ob e x r c q => ?_⟩
  unfold iterD at q
  split at q
  · rename_i hs
    obtain ⟨o, d⟩ := s
    cases r with
    | sh r =>
      cases z : PyD.items d with
      | none => rw [z] at q; exact q.elim
      | some xs =>
        rw [z] at q
        obtain ⟨a, e, w⟩ := wk_seq O.hK r z H' x.fh
        refine ⟨a, e, ?_⟩
        rcases w with ⟨p, w⟩ | ⟨p, w⟩
        · exact .inl ⟨p, q _ F' H' [] (Ext.refl x.fh) w⟩
        · exact .inr ⟨p, q _ F' H' [] (Ext.refl x.fh) w⟩
    | lst => cases hs
    | tup => cases hs
  · exact q.elim
theorem wk_range (n : Nat) {F : Hp} : Wk k (Itr 0 n) F ((List.range n).map fun i : Nat => D.int i) := by
  refine ⟨fun F1 H1 i d s1 s2 hd => ?_, fun F1 H1 s1 s2 => ?_⟩
  · have hi : i < n := by
      have z := (List.getElem?_eq_some_iff.mp hd).1
      simpa using z
    refine ⟨hi, fun x H2 ⟨e1, e2⟩ => ⟨e1, ?_⟩⟩
    have z : ((List.range n).map fun i : Nat => D.int i)[i]? = some (D.int i) := by
      rw [List.getElem?_map, List.getElem?_range hi]; rfl
    rw [z] at hd; cases hd
    rw [e2]
    simp only [Int.zero_add]
    exact .int _
  · show n ≤ _
    simp
theorem pi_rangeD {tg a : Expr} {sa : Ev} {p pos : Pos} (O : XOk k T E X) (hg : glB T.sc "range" = true) (hs : star a = false) (ha : PE X a (tD k E false sa)) : PI X tg (.Call (.Name "range" p) [a] [] pos) (tI k E (Src.range sa).run) := by
  refine piI (pi_range1 (O.Gl hg) (O.blt _ (by decide +kernel)) (pa_cons ha pa_nil (star_cons hs)) (star_cons hs)) fun σ H R' ⟨F, OO, env, B, q⟩ => ⟨F, OO, env, B, OutI.fst (x := sa env) q fun s v F' H' Of Ob e x r c q => ?_⟩
  have A : Arg k F' H' s v := Arg.of B x r c
  obtain ⟨o, d⟩ := s
  cases d with
  | int j =>
    have q : OutI k F' H' R' E (if decide (-(2 ^ 62) ≤ j) && decide (j < 2 ^ 62) then .ok ((List.range j.toNat).map fun i : Nat => D.int i) else .bad) := q
    by_cases hb : (decide (-(2 ^ 62) ≤ j) && decide (j < 2 ^ 62)) = true
    · rw [if_pos hb] at q
      simp only [Bool.and_eq_true, decide_eq_true_eq] at hb
      exact ⟨j, by rw [arg_int A], hb.1, hb.2, q _ F' H' [] (Ext.refl x.fh) (wk_range _)⟩
    · rw [if_neg hb] at q; exact q.elim
  | _ => exact q.elim
theorem isRange_of {e a : Expr} (h : isRange e = some a) : ∃ p pos, e = .Call (.Name "range" p) [a] [] pos := by
  unfold isRange at h
  split at h
  · split at h
    · rename_i e; cases h; subst e; exact ⟨_, _, rfl⟩
    · cases h
  · cases h
theorem piBad {tg e : Expr} : PI X tg e (tI k E (Src.seq fun _ => .bad).run) := ⟨fun _ _ _ _ _ _ ⟨_, _, _, _, h⟩ => h.elim⟩
theorem pi_src {s : Sm} {tg e : Expr} (O : XOk k T E X) (hB : ∀ e, PE X e (tD k E false (s.B T e))) (hE : ∀ e, PE X e (tD k E true (s.E T e))) : PI X tg e (tI k E (srcOf T s e).run) := by
  unfold srcOf
  split
  · rename_i a h
    obtain ⟨p, pos, rfl⟩ := isRange_of h
    split
    · rename_i c
      simp only [Bool.and_eq_true, Bool.not_eq_true'] at c
      exact pi_rangeD O c.1 c.2 (hB a)
    · exact piBad
  · exact pi_seqD O (pe_frz (hE e))
/-! ### the block of a comprehension -/
theorem lookup_map {f : Str × NameKind → Str × NameKind} (hf : ∀ y, (f y).1 = y.1) : ∀ {l : List (Str × NameKind)} {x : Str}, (l.map f).lookup x = (l.lookup x).map fun kd => (f (x, kd)).2
  | [], _ => rfl
  | (y, kd) :: r, x => by
    rw [List.map_cons]
    have e : f (y, kd) = (y, (f (y, kd)).2) := Prod.ext (hf _) rfl
    rw [e, List.lookup_cons, List.lookup_cons]
    by_cases h : x = y
    · subst h; simp
    · have : (x == y) = false := by simp [h]
      simp only [this]
      exact lookup_map hf
theorem relab {env : Env} {scope : Scope} {x : Str} : (relabel scope env).names.lookup x = (scope.names.lookup x).map fun kd => if (kd == .free && env.scope.kind == .function && env.kindOf x == some .cell) then .cell else kd := by
  unfold relabel
  rw [lookup_map (f := fun y => if (y.2 == .free && env.scope.kind == .function && env.kindOf y.1 == some .cell) then (y.1, .cell) else (y.1, y.2))]
  · cases scope.names.lookup x with
    | none => rfl
    | some kd => simp only [Option.map_some]; split <;> rfl
  · intro y; split <;> rfl
theorem XOk.blk (O : XOk k T E X) (s : Shared) (H : Hp) (scope : Scope) (cl : List (Str × Addr)) (C : Addr) (fp : List Addr) : XOk k { T with sc := scope } E0 (X.blk s H scope (compEnvC scope cl C X.env) fp) where
  hN := O.hN
  nd := O.nd
  calm := O.calm
  hK := O.hK
  hw := O.hw
  un := O.un
  vis := fun x h => by
    unfold visB at h
    show Vis (relabel scope X.env) x
    unfold Vis
    rw [relab]
    split at h
    · rename_i e; left; rw [e]; rfl
    · rename_i e; right; left; rw [e]; rfl
    · rename_i e; right
      rw [e, Option.map_some]
      split
      · exact .inl rfl
      · exact .inr rfl
    · cases h
  loc := fun x h => by
    unfold locB at h
    show L2.Loc (relabel scope X.env) x
    unfold L2.Loc
    rw [relab]
    split at h
    · rename_i e; left; rw [e]; rfl
    · rename_i e; right; rw [e]; rfl
    · cases h
  gl := fun x h => by
    unfold glB at h
    show (relabel scope X.env).names.lookup x = _
    rw [relab]
    split at h
    · rename_i e; rw [e]; rfl
    · cases h
  fr := fun x h => by
    show (relabel scope X.env).names.lookup x = _ ∨ (relabel scope X.env).names.lookup x = _
    rw [relab]
    rcases h with e | e
    · left; rw [show scope.names.lookup x = some .cell from e]; rfl
    · rw [show scope.names.lookup x = some .free from e, Option.map_some]
      split
      · exact .inl rfl
      · exact .inr rfl
  blt := O.blt
  cal := fun f g h => ⟨(O.cal f g h).ex⟩
  con := O.con
  ps := passL
  im := O.im
  imx := O.imx
end
end PyD

set_option Elab.async false
set_option linter.all false
set_option maxRecDepth 100000
set_option maxHeartbeats 4000000
namespace PyD
open PySem PySem.Spec PyProof.Rows L2
theorem EnvRep.unset {k : Ki} {F : Hp} {O : OL} {env : DEnv} {σ : L2.St} (r : EnvRep k F O env σ) (i : Nat) (x : Option V) : ∃ O', O'.Sublist O ∧ EnvRep k F O' (env.set i none) (σ.set i x) := by
  induction r generalizing i with
  | nil => exact ⟨[], List.Sublist.refl _, .nil⟩
  | @un O1 e1 x1 s1 t ih =>
    cases i with
    | zero => exact ⟨O1, List.Sublist.refl _, .un t⟩
    | succ i => obtain ⟨O', h1, h2⟩ := ih i; exact ⟨O', h1, .un h2⟩
  | @val O1 O2 env1 o1 d1 v1 σ1 h t ih =>
    cases i with
    | zero => exact ⟨O2, List.sublist_append_right _ _, .un t⟩
    | succ i => obtain ⟨O', h1, h2⟩ := ih i; exact ⟨O1 ++ O', (List.Sublist.refl _).append h1, .val h h2⟩
theorem EnvRep.wiped {k : Ki} {F : Hp} {O : OL} {env : DEnv} {σ : L2.St} (r : EnvRep k F O env σ) : ∀ l : List Nat, ∃ O', O'.Sublist O ∧ EnvRep k F O' (wipeD env l) (wipe σ l)
  | [] => ⟨O, List.Sublist.refl _, r⟩
  | i :: l => by
    obtain ⟨O1, h1, h2⟩ := r.wiped l
    obtain ⟨O2, h3, h4⟩ := h2.unset i none
    exact ⟨O2, h3.trans h1, h4⟩
theorem wipeD_length (env : DEnv) : ∀ l : List Nat, (wipeD env l).length = env.length
  | [] => rfl
  | i :: l => by unfold wipeD; rw [List.length_set, wipeD_length env l]
/-- what stands alone is written -/
theorem Ext.wr {F H F' H' : Hp} {p : Addr} {o o' : HO} {O : OL} (e : Ext F H F' H' ((p, o) :: O)) : Ext F H F' (upd H' p o') ((p, o') :: O) := by
  obtain ⟨n1, n2, n3⟩ := e.own (p, o) List.mem_cons_self
  have nd := e.nd
  rw [List.map_cons, List.nodup_cons] at nd
  refine ⟨e.sF, fun a u h => ?_, e.ag, fun a u h => ?_, fun q hq => ?_, by rw [List.map_cons, List.nodup_cons]; exact nd⟩
  · rw [upd_ne (ne_of_none h n1)]; exact e.sH _ _ h
  · rw [upd_ne (ne_of_none h n3)]; exact e.fh _ _ h
  · rcases List.mem_cons.mp hq with z | z
    · subst z; exact ⟨n1, upd_same, n3⟩
    · obtain ⟨m1, m2, m3⟩ := e.own q (List.mem_cons_of_mem _ z)
      refine ⟨m1, ?_, m3⟩
      rw [upd_ne]
      · exact m2
      · intro w
        exact nd.1 (w ▸ List.mem_map.mpr ⟨q, z, rfl⟩)
theorem wipe_set {σ : L2.St} {l : List Nat} {i : Nat} {x : Option V} (h : i ∈ l) : wipe ((wipe σ l).set i x) l = wipe σ l := by
  have at_ : ∀ (l : List Nat) (σ : L2.St) (j : Nat), (wipe σ l)[j]? = if j ∈ l then (σ[j]?).map fun _ => none else σ[j]? := fun l => by
    induction l with
    | nil => intro σ j; simp [wipe]
    | cons v r ih =>
      intro σ j
      unfold wipe
      rw [List.getElem?_set]
      by_cases e : v = j
      · subst e
        simp only [if_true, wipe_length]
        by_cases hl : v < σ.length
        · simp [hl]
        · simp [hl]
      · rw [if_neg e, ih]
        have : j ≠ v := fun z => e z.symm
        simp [this]
  refine List.ext_getElem? fun j => ?_
  rw [at_, at_]
  by_cases hj : j ∈ l
  · simp only [hj, if_true]
    rw [List.getElem?_set]
    split
    · rename_i e; subst e
      rw [wipe_length]
      by_cases hl : i < σ.length
      · simp [hl]
      · simp [hl]
    · rw [at_]; simp only [hj, if_true]; cases σ[j]? <;> rfl
  · simp only [hj, if_false]
    have : i ≠ j := fun z => hj (z ▸ h)
    rw [List.getElem?_set, if_neg this, at_]
    simp [hj]
section
variable {X : Cx} {k : Ki} {T : Tb} {E : XK}
theorem Reps.snoc {F : Hp} {ds : List D} {vs : List V} {d : D} {v : V} (r : Reps k F ds vs) (h : Rep k F d v) : Reps k F (ds ++ [d]) (vs ++ [v]) := reps_app r (.cons h .nil)
theorem OutI.fst2 {F H : Hp} {O : OL} {Q : VK} {own : Bool} {x : R (List D)} {f : List D → R Sl} {R' : It → Hp → Prop} (h : Out k F H O Q own E (x.bind f))
    (g : ∀ xs J F' H' Of, x = .ok xs → Ext F H F' H' Of → Wk k J F' xs → Out k F' H' O Q own E (f xs) → R' J H') : OutI k F H R' E x := by
  cases x with
  | ok xs => exact fun J F' H' Of e w => g xs J F' H' Of rfl e w (Out.shift h e)
  | exc x => exact h
  | bad => exact h
theorem compR_cons {i : Nat} {t : DEnv → R Bool} {e : Ev} {env : DEnv} {x : D} {xs ys : List D} (h : compR i t e env (x :: xs) = .ok ys) :
    (t (setSlot i (.sh, x) env) = .ok false ∧ compR i t e env xs = .ok ys) ∨ ∃ y zs, t (setSlot i (.sh, x) env) = .ok true ∧ e (setSlot i (.sh, x) env) = .ok (.sh, y) ∧ compR i t e env xs = .ok zs ∧ ys = y :: zs := by
  unfold compR at h
  obtain ⟨b, h1, h2⟩ := R.bind_eq_ok h
  cases b with
  | false => exact .inl ⟨h1, h2⟩
  | true =>
    rw [if_pos rfl] at h2
    obtain ⟨y, h3, h4⟩ := R.bind_eq_ok h2
    obtain ⟨zs, h5, h6⟩ := R.bind_eq_ok h4
    split at h6
    · rename_i hs
      cases h6
      obtain ⟨o, d⟩ := y
      cases o with
      | sh => exact .inr ⟨d, zs, h1, h3, h5, rfl⟩
      | _ => cases hs
    · cases h6
theorem noExc_ok {α : Type} {x : R α} {a : α} (h : noExc x = .ok a) : x = .ok a := by
  cases x with
  | ok b => exact h
  | exc e => cases h
  | bad => cases h
theorem comp_blk {scope : Scope} (O : XOk k T E X) (hb : blkC T.N T.sc scope (ownOf T.N scope) = true) : BlkOk X.N X.env.scope scope (ownOf T.N scope) := by
  have b := blkOk_by hb
  exact ⟨b.kind, b.uniq, by rw [O.hN]; exact b.ix, fun y hy ey => O.fr y.1 (b.free y hy ey), by rw [O.hN]; exact b.own⟩
theorem comp_tg {x : Str} {px : Pos} {scope : Scope} {i : Nat} (O : XOk k T E X) (hix : ixOf x T.N = some i) (hl : locB scope x = true) (s : Shared) (H : Hp) (C : Addr) (cl : List (Str × Addr)) (fp : List Addr) : PG (X.blk s H scope (compEnvC scope cl C X.env) fp) (.Name x px) (gName i) := by
  have O' := O.blk s H scope cl C fp
  refine pg_name (show X.N.Nodup by rw [O.hN]; exact O.nd) (show X.N[i]? = some x by rw [O.hN]; exact ixOf_at hix) (O'.loc x hl) ?_
  unfold locB at hl
  split at hl
  · rename_i z
    right
    show (relabel scope X.env).names.lookup x = some .local
    rw [relab, z]; rfl
  · rename_i z
    left
    show (scope.names.lookup x == some .cell) = true
    rw [z]; rfl
  · cases hl
theorem comp_imp {scope : Scope} {src : Src} {i : Nat} {t : DEnv → R Bool} {e : Ev} {σ : L2.St} {H : Hp} {Q : VK} (hm : i ∈ (ownOf T.N scope).map (·.2))
    (h : tD k E true (compE src i t e ((ownOf T.N scope).map (·.2))) σ H Q) : tLc (tI k E src.run) (gName i) (tDT k E0 t) (tD k E0 true e) ((ownOf T.N scope).map (·.2)) σ H Q := by
  obtain ⟨F, OO, env, B, q⟩ := h
  refine ⟨F, OO, env, B, OutI.fst2 (x := src.run env) q fun xs J F1 H1 Of _ x1 w q => ?_⟩
  intro D hD
  have B1 := B.ext x1
  by_cases hz2 : (decide (xs.length ≤ sizeLine) && decide (i < env.length)) = true
  · rw [if_pos hz2] at q
    simp only [Bool.and_eq_true, decide_eq_true_eq] at hz2
    obtain ⟨hz, hel⟩ := hz2
    cases z : noExc (compR i t e (wipeD env ((ownOf T.N scope).map (·.2))) xs) with
    | exc y => exfalso; unfold noExc at z; split at z <;> first | cases z | (rename_i hne; exact hne y z)
    | bad => rw [z] at q; exact q.elim
    | ok ys =>
      rw [z, R.bind_ok] at q
      have hc := noExc_ok z
      have nD : ∀ p ∈ OO, p.1 ≠ D := fun p hp e => by
        have := (B1.ow p hp).1
        rw [e, hD] at this; cases this
      refine ⟨fun n m Hc => m = xs.length - n ∧ n ≤ xs.length ∧ ∃ Fc acc done rest, Ext F1 H1 Fc Hc [(D, .lst acc)] ∧ Reps k Fc done acc ∧ compR i t e (wipeD env ((ownOf T.N scope).map (·.2))) (xs.drop n) = .ok rest ∧ ys = done ++ rest ∧ acc.length ≤ n,
        ⟨_, rfl, Nat.zero_le _, F1, [], [], ys, Ext.newO x1.fh hD, .nil, hc, rfl, Nat.le_refl _⟩, ?_⟩
      rintro n m Hc ⟨rfl, hn, Fc, acc, done, rest, ex, rp, hr, ey, hl⟩
      by_cases hlt : n < xs.length
      · right
        have hat : xs[n]? = some xs[n] := List.getElem?_eq_getElem hlt
        obtain ⟨go, yl⟩ := w.item Fc Hc n _ ex.sF ex.fh hat
        refine ⟨go, fun H' => n + 1 ≤ xs.length ∧ ∃ Fc acc done rest, Ext F1 H1 Fc H' [(D, .lst acc)] ∧ Reps k Fc done acc ∧ compR i t e (wipeD env ((ownOf T.N scope).map (·.2))) (xs.drop (n + 1)) = .ok rest ∧ ys = done ++ rest ∧ acc.length ≤ n + 1,
          fun H' ⟨a, b⟩ => ⟨xs.length - (n + 1), by omega, rfl, a, b⟩, fun v H' hy => ?_⟩
        obtain ⟨rfl, rv⟩ := yl v H' hy
        rw [List.drop_eq_getElem_cons hlt] at hr
        -- the block's slots
        obtain ⟨O2, sub2, er2⟩ := (B1.er.mono ex.sF).wiped ((ownOf T.N scope).map (·.2))
        have hlen : i < (wipeD env ((ownOf T.N scope).map (·.2))).length := by rw [wipeD_length]; exact hel
        obtain ⟨A, C, hAC, sAC, er3⟩ := er2.put hlen (Same.refl _) (.sh rv)
        have ow3 : ∀ p ∈ A ++ ([] ++ C), H' p.1 = some p.2 ∧ Fc p.1 = none := fun p hp => by
          have h1 := B1.ow p (sub2.subset (hAC p hp))
          exact ⟨ex.sH _ _ h1.1, (ex.ag _ (by rw [h1.1]; exact fun z => nomatch z)).trans h1.2⟩
        have B3 : Bs k Fc (A ++ ([] ++ C)) (setSlot i (.sh, xs[n]) (wipeD env ((ownOf T.N scope).map (·.2)))) ((wipe σ ((ownOf T.N scope).map (·.2))).set i (some v)) H' := ⟨er3, ex.fh, ow3⟩
        refine ⟨wipe_set hm, ?_⟩
        rcases compR_cons hr with ⟨h1, h2⟩ | ⟨y, zs, h1, h2, h3, h4⟩
        · refine ⟨Fc, _, _, B3, ?_⟩
          rw [h1]
          refine fun F4 H4 x4 => ?_
          show n + 1 ≤ xs.length ∧ _
          exact ⟨hlt, F4, acc, done, rest, ex.trans x4, rp.mono x4.sF, h2, ey, by omega⟩
        · refine ⟨Fc, _, _, B3, ?_⟩
          rw [h1]
          refine fun F4 H4 x4 => ?_
          show tD k E0 true e _ H4 _
          refine ⟨F4, _, _, B3.ext x4, ?_⟩
          rw [h2]
          intro v5 F5 H5 O5 Ob x5 r5 c5
          have ex5 : Ext F1 H1 F5 H5 [(D, .lst acc)] := by
            have z := (ex.trans x4).trans x5
            exact z.sub (fun p hp => List.mem_append_right _ hp) (by simp)
          refine ⟨acc, (ex5.own _ List.mem_cons_self).2.1, by omega, hlt, F5, acc ++ [v5], done ++ [y], zs, ex5.wr, ?_, h3, ?_, ?_⟩
          · cases r5 with
            | sh r5 => exact ((rp.mono x4.sF).mono x5.sF).snoc r5
          · rw [ey, h4, List.append_assoc]; rfl
          · rw [List.length_append, List.length_singleton]; omega
      · left
        have e : n = xs.length := by omega
        subst e
        refine ⟨w.stop Fc Hc ex.sF ex.fh, ?_⟩
        rw [List.drop_length] at hr
        cases hr
        rw [List.append_nil] at ey
        subst ey
        exact Out.new q ex (.lst (repOl_sh rp))
  · rw [if_neg hz2] at q; exact q.elim
theorem pe_compE {elt iter : Expr} {ifs : List Expr} {x : Str} {px pos : Pos} {scope : Scope} {src : Src} {i : Nat} {t : DEnv → R Bool} {e : Ev} (O : XOk k T E X) (hi : PI X (.Name x px) iter (tI k E src.run)) (hix : ixOf x T.N = some i) (hb : blkC T.N T.sc scope (ownOf T.N scope) = true) (hl : locB scope x = true)
    (hm : i ∈ (ownOf T.N scope).map (·.2)) (ht : ∀ (s : Shared) (H : Hp) (C : Addr) (cl : List (Str × Addr)) (fp : List Addr), PTs (X.blk s H scope (compEnvC scope cl C X.env) fp) ifs (tDT k E0 t))
    (he : ∀ (s : Shared) (H : Hp) (C : Addr) (cl : List (Str × Addr)) (fp : List Addr), PE (X.blk s H scope (compEnvC scope cl C X.env) fp) elt (tD k E0 true e)) (hs : ∀ v, foldedSetIterable iter X.env v = pure v) :
    PE X (.ListComp elt [⟨.Name x px, iter, ifs, 0⟩] scope pos) (tD k E true (compE src i t e ((ownOf T.N scope).map (·.2)))) :=
  peI (pe_lc O.calm (by rw [O.hN]; exact O.nd) hi (comp_blk O hb) (comp_tg O hix hl) ht he hs) fun σ H Q h => comp_imp hm h
end
end PyD

set_option Elab.async false
set_option linter.all false
set_option maxRecDepth 100000
set_option maxHeartbeats 4000000
namespace PyD
open PySem PySem.Spec PyProof.Rows L2
structure SOk (s : Sm) : Prop where
  B : ∀ {X : Cx} {k : Ki} {T : Tb} {E : XK}, XOk k T E X → ∀ e, PE X e (tD k E false (s.B T e))
  E : ∀ {X : Cx} {k : Ki} {T : Tb} {E : XK}, XOk k T E X → ∀ e, PE X e (tD k E true (s.E T e))
  T : ∀ {X : Cx} {k : Ki} {T : Tb} {E : XK}, XOk k T E X → ∀ e, PT X e (tDT k E (s.T T e))
section
variable {X : Cx} {k : Ki} {T : Tb} {E : XK} {s : Sm}
theorem folded_ok {iter : Expr} {env : Env} (h : isSet iter = false) : ∀ v, foldedSetIterable iter env v = pure v := by
  intro v
  cases iter <;> first | rfl | cases h
theorem isiArgs_of {es : List Expr} {e : Expr} {t : Str} (h : isiArgs es = some (e, t)) : ∃ p, es = [e, .Name t p] := by
  unfold isiArgs at h
  split at h
  · cases h; exact ⟨_, rfl⟩
  · cases h
theorem calls_ok (S : SOk s) (O : XOk k T E X) {f : Str} {es : List Expr} {p pos : Pos} : PE X (.Call (.Name f p) es [] pos) (tD k E true (callsE T s f es)) := by
  unfold callsE
  split
  · exact peBad
  · rename_i h0
    simp only [Bool.not_eq_true', Bool.and_eq_false_iff, not_or, Bool.not_eq_false] at h0
    split
    · rename_i g hg
      split
      · exact peBad
      · rename_i h1
        simp only [Bool.or_eq_true, not_or, Bool.not_eq_true] at h1
        cases es with
        | nil => cases h1.1
        | cons e es =>
          refine pe_callE O h0.1 h0.2 hg (fun e => ?_) h1.2
          split
          · exact pe_weak (pe_frz (S.E O e))
          · exact S.B O e
    · split
      · rename_i hf
        subst hf
        split
        · rename_i e t hi
          obtain ⟨p2, rfl⟩ := isiArgs_of hi
          split
          · rename_i c
            simp only [Bool.and_eq_true, Bool.not_eq_true'] at c
            exact pe_isiE O h0.1 c.1.1.1 c.1.1.2 c.1.2 c.2 (S.B O e)
          · exact peBad
        · exact peBad
      · split
        · rename_i b a hb
          split
          · exact peBad
          · rename_i hs
            exact pe_blE O hb h0.1 (by simpa using hs) (S.B O a)
        · exact peBad
theorem pts_of {ifs : List Expr} {t : DEnv → R Bool} {T' : Tb} {X' : Cx} {E' : XK} (S : SOk s) (O : XOk k T' E' X') (h : testsE (s.T T') ifs = some t) : PTs X' ifs (tDT k E' t) := by
  unfold testsE at h
  split at h
  · cases h
    exact ⟨fun pins s σ H Q I ⟨F, OO, env, B, q⟩ => pts_nil.run pins s σ H Q I (q F H (Ext.refl B.sf))⟩
  · cases h
    exact pts_one (S.T O _)
  · cases h
theorem stepE_ok (S : SOk s) (O : XOk k T E X) (e : Expr) : PE X e (tD k E true (stepE s T e)) := by
  unfold stepE
  split
  · split
    · rename_i d h; exact pe_lit h
    · exact peBad
  · exact pe_nameE O
  · exact pe_binE O (S.B O _) (S.B O _)
  · exact pe_notE (S.B O _)
  · exact pe_negE (S.B O _)
  · exact pe_boolE (S.E O) _
  · exact pe_ifE (S.T O _) (S.E O _) (S.E O _)
  · split
    · exact peBad
    · rename_i h; exact pe_cmpE O (S.B O _) (S.B O _) (by simpa using h)
  · split
    · exact peBad
    · rename_i h; exact pe_chainE O (S.B O _) (S.B O _) (S.B O _) (by simpa using h)
  · split
    · rename_i h; exact pe_subSh O (S.B O _) (S.E O _) h
    · exact peBad
  · split
    · exact peBad
    · rename_i h; exact pe_lstE (fun e => pe_frz (S.E O e)) (by simpa using h)
  · split
    · exact peBad
    · rename_i h; exact pe_tupE (fun e => pe_frz (S.E O e)) (by simpa using h)
  · exact calls_ok S O
  · split
    · rename_i h
      subst h
      split
      · rename_i c
        simp only [Bool.and_eq_true, Bool.not_eq_true'] at c
        exact pe_idxE O (S.B O _) (S.B O _) c.1.2 c.2 c.1.1
      · exact peBad
    · exact peBad
  · split
    · rename_i i t hix ht
      split
      · rename_i c
        simp only [Bool.and_eq_true, Bool.not_eq_true', decide_eq_true_eq] at c
        exact pe_compE O (pi_src O (S.B O) (S.E O)) hix c.1.1.1 c.1.1.2 c.1.2 (fun s H C cl fp => pts_of S (O.blk s H _ cl C fp) ht) (fun s H C cl fp => pe_frz (S.E (O.blk s H _ cl C fp) _)) (folded_ok c.2)
      · exact peBad
    · exact peBad
  · exact peBad
theorem stepB_ok (S : SOk s) (O : XOk k T E X) (e : Expr) : PE X e (tD k E false (stepB s T e)) := by
  unfold stepB
  split
  · split
    · rename_i i h; exact pe_varB O h
    · exact pe_weak (S.E O _)
  · split
    · rename_i h; exact pe_subE O (S.B O _) (S.E O _) h
    · exact pe_weak (S.E O _)
  · exact pe_weak (S.E O _)
theorem stepT_ok (S : SOk s) (O : XOk k T E X) (e : Expr) : PT X e (tDT k E (stepT s T e)) := by
  unfold stepT
  split
  · exact pt_notT (S.T O _)
  · exact (pw_boolT (S.T O) _).pt
  · split
    · exact ptBad
    · rename_i h; exact pt_cmpE O (S.B O _) (S.B O _) (by simpa using h)
  · split
    · exact ptBad
    · rename_i h; exact pt_chainE O (S.B O _) (S.B O _) (S.B O _) (by simpa using h)
  · split
    · rename_i h; exact pt_truE O (S.B O _) h
    · exact ptBad
end
theorem sm_ok : ∀ n, SOk (sm n)
  | 0 => ⟨fun _ _ => ⟨fun _ _ _ _ _ _ ⟨_, _, _, _, h⟩ => h.elim⟩, fun _ _ => peBad, fun _ _ => ptBad⟩
  | n + 1 => ⟨fun O e => stepB_ok (sm_ok n) O e, fun O e => stepE_ok (sm_ok n) O e, fun O e => stepT_ok (sm_ok n) O e⟩
end PyD

set_option Elab.async false
set_option linter.all false
set_option maxRecDepth 100000
set_option maxHeartbeats 4000000
namespace PyD
open PySem PySem.Spec PyProof.Rows L2
/-- the context of a def's body -/
structure BOk (k : Ki) (T : Tb) (E : XK) (X : Cx) : Prop where
  x : XOk k T E X
  sc : X.env.scope = T.sc
  kind : X.env.scope.kind = .function
  fn : ∀ x, X.fn x = true
  po : PassesOwn (model X.prog X.w) X.A X.env X.xe
def OutS (k : Ki) (F0 H0 : Hp) (D : Ends) (E : XK) : R Fl → Prop
  | .ok (.nx env) => ∀ σ' F' H' O', EnvRep k F' O' env σ' → Ext F0 H0 F' H' O' → D.nx σ' H'
  | .ok (.bk env) => ∀ σ' F' H' O', EnvRep k F' O' env σ' → Ext F0 H0 F' H' O' → D.bk σ' H'
  | .ok (.ct env) => ∀ σ' F' H' O', EnvRep k F' O' env σ' → Ext F0 H0 F' H' O' → D.ct σ' H'
  | .ok (.rt s) => ∀ v F' H' O', Ext F0 H0 F' H' O' → RepO k F' s.1 O' s.2 v → D.rt v H'
  | .exc x => ∀ F' H' cls dd, Ext F0 H0 F' H' [] → RepX k F' x cls dd → E cls dd H'
  | .bad => False
def tS (k : Ki) (E : XK) (sem : Ex) : TS := fun D σ H => ∃ F0 H0 F O env, EnvRep k F O env σ ∧ Ext F0 H0 F H O ∧ OutS k F0 H0 D E (sem env)
theorem Ext.perm {F H F' H' : Hp} {O O' : OL} (e : Ext F H F' H' O) (p : O'.Perm O) : Ext F H F' H' O' := e.sub (fun q hq => p.mem_iff.mp hq) ((List.Perm.nodup_iff (p.map _)).mpr e.nd)
theorem Ext.bs {k : Ki} {F0 H0 F H : Hp} {O : OL} {env : DEnv} {σ : L2.St} (e : Ext F0 H0 F H O) (r : EnvRep k F O env σ) : Bs k F O env σ H := ⟨r, e.fh, fun p hp => ⟨(e.own p hp).2.1, (e.own p hp).2.2⟩⟩
section
variable {X : Cx} {k : Ki} {T : Tb} {E : XK} {F0 H0 F H : Hp} {O : OL} {D : Ends}
theorem psBad {st : Stmt} : PS X st (tS k E badS) := ⟨fun _ _ _ _ _ _ ⟨_, _, _, _, _, _, _, h⟩ => h.elim⟩
theorem OutS.fst {x : R Sl} {f : Sl → R Fl} {Q' : VK} {b : Bool} (e0 : Ext F0 H0 F H O) (h : OutS k F0 H0 D E (x.bind f))
    (g : ∀ s v F' H' Of Ob, x = .ok s → Ext F H F' H' Of → RepO k F' s.1 Ob s.2 v → (if b = true then Ob = Of else ∀ p ∈ Ob, p ∈ Of ∨ p ∈ O) → OutS k F0 H0 D E (f s) → Q' v H') : Out k F H O Q' b E x := by
  cases x with
  | ok s => exact fun v F' H' Of Ob e r c => g s v F' H' Of Ob rfl e r c h
  | exc x => exact fun F' H' cls dd e r => h F' H' cls dd ((e0.trans e).sub (fun _ z => nomatch z) List.nodup_nil) r
  | bad => exact h
theorem OutS.fstT {x : R Bool} {f : Bool → R Fl} {Q' : Bool → Hp → Prop} (e0 : Ext F0 H0 F H O) (h : OutS k F0 H0 D E (x.bind f)) (g : ∀ s F' H', x = .ok s → Ext F H F' H' [] → OutS k F0 H0 D E (f s) → Q' s H') : OutT k F H Q' E x := by
  cases x with
  | ok s => exact fun F' H' e => g s F' H' rfl e h
  | exc x => exact fun F' H' cls dd e r => h F' H' cls dd ((e0.trans e).sub (fun _ z => nomatch z) List.nodup_nil) r
  | bad => exact h
theorem OutS.fstI {f : List PyD.D → R Fl} {R' : It → Hp → Prop} {xx : R (List PyD.D)} (e0 : Ext F0 H0 F H O) (h : OutS k F0 H0 D E (xx.bind f)) (g : ∀ xs J F' H' Of, xx = .ok xs → Ext F H F' H' Of → Wk k J F' xs → OutS k F0 H0 D E (f xs) → R' J H') : OutI k F H R' E xx := by
  cases xx with
  | ok s => exact fun J F' H' Of e w => g s J F' H' Of rfl e w h
  | exc x => exact fun F' H' cls dd e r => h F' H' cls dd ((e0.trans e).sub (fun _ z => nomatch z) List.nodup_nil) r
  | bad => exact h
/-! ### sharing -/
theorem dem1_ok {i : Nat} {env : DEnv} {σ : L2.St} (r : EnvRep k F O env σ) (e : Ext F0 H0 F H O) : ∃ F1 O1, EnvRep k F1 O1 (dem1 i env) σ ∧ Ext F0 H0 F1 H O1 := by
  unfold dem1
  split
  · rename_i o d h
    obtain ⟨A, B, C, v, e1, e2, rv, f, _⟩ := r.slot h
    subst e1
    have e' : Ext F0 H0 F H (B ++ (A ++ C)) := by
      refine e.sub (fun p hp => ?_) ?_
      · rcases List.mem_append.mp hp with z | z
        · exact List.mem_append_right _ (List.mem_append_left _ z)
        · rcases List.mem_append.mp z with z | z
          · exact List.mem_append_left _ z
          · exact List.mem_append_right _ (List.mem_append_right _ z)
      · have n := e.nd
        refine (List.Perm.nodup_iff ?_).mp n
        refine List.Perm.map _ ?_
        rw [← List.append_assoc, ← List.append_assoc]
        exact List.Perm.append_right _ List.perm_append_comm
    have nB : (B.map (·.1)).Nodup := by
      have n := e'.nd
      rw [List.map_append, List.nodup_append] at n
      exact n.1
    have sF : Same F (frz F B) := frz_same fun p hp => (e'.own p (List.mem_append_left _ hp)).2.2
    refine ⟨frz F B, A ++ C, ?_, e'.freeze⟩
    have z := f (frz F B) .sh d [] v sF (.sh (rv.frz sF fun p hp => frz_at nB hp))
    have es : σ.set i (some v) = σ := by
      refine List.ext_getElem? fun j => ?_
      rw [List.getElem?_set]
      split
      · rename_i ej; subst ej
        split
        · exact e2.symm
        · rename_i hl; rw [List.getElem?_eq_none (by omega)]
      · rfl
    rw [es] at z
    simpa using z
  · exact ⟨F, O, r, e⟩
theorem dem_ok {env : DEnv} {σ : L2.St} : ∀ (l : List Nat) {F : Hp} {O : OL} {env : DEnv}, EnvRep k F O env σ → Ext F0 H0 F H O → ∃ F1 O1, EnvRep k F1 O1 (dem l env) σ ∧ Ext F0 H0 F1 H O1
  | [], _, _, _, r, e => ⟨_, _, r, e⟩
  | i :: l, _, _, _, r, e => by
    obtain ⟨F1, O1, r1, e1⟩ := dem1_ok (i := i) r e
    exact dem_ok (env := env) l r1 e1
theorem tS_dem {l : List Nat} {x : Ex} {σ : L2.St} {H : Hp} (h : tS k E (demS l x) D σ H) : tS k E x D σ H := by
  obtain ⟨F0, H0, F, O, env, r, e, q⟩ := h
  obtain ⟨F1, O1, r1, e1⟩ := dem_ok (env := env) l r e
  exact ⟨F0, H0, F1, O1, _, r1, e1, q⟩
/-! ### statements -/
theorem ps_nx {st : Stmt} (h : PS X st tNext) : PS X st (tS k E fun env => .ok (.nx env)) := psI h fun D σ H ⟨F0, H0, F, O, env, r, e, q⟩ => q σ F H O r e
/-- a slot is stored -/
theorem put_ok {env : DEnv} {σ : L2.St} {i : Nat} {s : Sl} {v : V} {F' H' : Hp} {Of : OL} (r : EnvRep k F O env σ) (e : Ext F0 H0 F H O) (hi : i < env.length) (x : Ext F H F' H' Of) (rv : RepO k F' s.1 Of s.2 v) :
    ∃ O', EnvRep k F' O' (setSlot i s env) (σ.set i (some v)) ∧ Ext F0 H0 F' H' O' := by
  obtain ⟨A, C, h1, h2, h3⟩ := r.put (o := s.1) (d := s.2) hi x.sF rv
  refine ⟨_, h3, (e.trans x).sub (fun p hp => ?_) ?_⟩
  · rcases List.mem_append.mp hp with z | z
    · exact List.mem_append_right _ (h1 p (List.mem_append_left _ z))
    · rcases List.mem_append.mp z with z | z
      · exact List.mem_append_left _ z
      · exact List.mem_append_right _ (h1 p (List.mem_append_right _ z))
  · have n : (((Of ++ (A ++ C))).map (·.1)).Nodup := ((List.Sublist.refl _).append h2).map _ |>.nodup (e.trans x).nd
    refine (List.Perm.nodup_iff (List.Perm.map _ ?_)).mp n
    rw [← List.append_assoc, ← List.append_assoc]
    exact List.Perm.append_right _ List.perm_append_comm
theorem tS_set {i : Nat} {se : Ev} {σ : L2.St} {H : Hp} (h : tS k E (setS i se) D σ H) : tAsg (tD k E true se) (gName i) D σ H := by
  obtain ⟨F0, H0, F, O, env, r, e, q⟩ := h
  unfold setS at q
  split at q
  · rename_i hi
    simp only [decide_eq_true_eq] at hi
    refine ⟨F, O, env, e.bs r, OutS.fst (x := se env) e q fun s v F' H' Of Ob e1 x rv c q => ?_⟩
    cases (show Ob = Of from c)
    obtain ⟨O', r', e'⟩ := put_ok r e hi x rv
    exact q _ F' H' O' r' e'
  · exact q.elim
theorem loc_d {y : Str} (B : BOk k T E X) (h : locB T.sc y = true) : L2.Loc X.env.scope y := B.x.loc y h
theorem seqs_ok {f : Stmt → Ex} (h : ∀ st, PS X st (tS k E (f st))) : ∀ l : List Stmt, PSs X l (tS k E (seqS f l))
  | [] => pssI pss_nil fun D σ H ⟨F0, H0, F, O, env, r, e, q⟩ => q σ F H O r e
  | st :: l => by
    refine pssI (pss_cons (h st) (seqs_ok h l)) fun D σ H ⟨F0, H0, F, O, env, r, e, q⟩ => ⟨F0, H0, F, O, env, r, e, ?_⟩
    unfold seqS at q
    cases z : f st env with
    | exc x => rw [z] at q; exact q
    | bad => rw [z] at q; exact q
    | ok fl =>
      rw [z, R.bind_ok] at q
      cases fl with
      | nx env' => exact fun σ' F' H' O' r' e' => ⟨F0, H0, F', O', env', r', e', q⟩
      | rt s => exact q
      | bk env' => exact q
      | ct env' => exact q
theorem ps_ifS {c : Expr} {a b : List Stmt} {pos : Pos} {tc : DEnv → R Bool} {sa sb : Ex} (hc : PT X c (tDT k E tc)) (ha : PSs X a (tS k E sa)) (hb : PSs X b (tS k E sb)) : PS X (.If c a b pos) (tS k E (ifS tc sa sb)) := by
  refine psI (ps_if hc ha hb) fun D σ H ⟨F0, H0, F, O, env, r, e, q⟩ => ⟨F, O, env, e.bs r, OutS.fstT (x := tc env) e q fun s F' H' e1 x q => ?_⟩
  have e' : Ext F0 H0 F' H' O := by simpa using e.trans x
  cases s with
  | true => exact ⟨F0, H0, F', O, env, r.mono x.sF, e', q⟩
  | false => exact ⟨F0, H0, F', O, env, r.mono x.sF, e', q⟩
theorem ps_retS {e : Expr} {pos : Pos} {se : Ev} (he : PE X e (tD k E true se)) : PS X (.Return (some e) pos) (tS k E (retS se)) := by
  refine psI (ps_ret he) fun D σ H ⟨F0, H0, F, O, env, r, ex, q⟩ => ⟨F, O, env, ex.bs r, OutS.fst (x := se env) ex q fun s v F' H' Of Ob e1 x rv c q => ?_⟩
  cases (show Ob = Of from c)
  exact q v F' H' Of (ex.drop x) rv
theorem ps_retV {y : Str} {p pos : Pos} {i : Nat} (B : BOk k T E X) (h : slotOf T y = some i) : PS X (.Return (some (.Name y p)) pos) (tS k E (retS (varB i))) := by
  obtain ⟨h1, h2, h3⟩ := slotOf_at h
  obtain ⟨d1, d2, _⟩ := okName_d h3
  refine psI (ps_ret (pe_var (i := i) (by rw [B.x.hN]; exact h1) (B.x.vis y h2) d1 d2)) fun D σ H ⟨F0, H0, F, O, env, r, ex, q⟩ => ?_
  unfold retS varB at q
  split at q
  · rename_i s e
    obtain ⟨A, Bo, C, v, e1, e2, rv, _⟩ := r.slot (o := s.1) (d := s.2) e
    subst e1
    refine ⟨v, e2, q v F H Bo (ex.sub (fun p hp => List.mem_append_right _ (List.mem_append_left _ hp)) ?_) rv⟩
    have n := ex.nd
    rw [List.map_append, List.nodup_append] at n
    have n2 := n.2.1
    rw [List.map_append, List.nodup_append] at n2
    exact n2.1
  · exact q.elim
theorem ps_retN : PS X (.Return none pos) (tS k E (retS fun _ => .ok (.sh, .non))) := psI L2.ps_retN fun D σ H ⟨F0, H0, F, O, env, r, ex, q⟩ => q .non F H [] (ex.sub (fun _ z => nomatch z) List.nodup_nil) (.sh .non)
theorem set_same {σ : L2.St} {i : Nat} {x : Option V} (h : σ[i]? = some x) : σ.set i x = σ := by
  refine List.ext_getElem? fun j => ?_
  rw [List.getElem?_set]
  split
  · rename_i ej; subst ej
    split
    · exact h.symm
    · rename_i hl; rw [List.getElem?_eq_none (by omega)]
  · rfl
theorem ps_appS {y : Str} {p1 ap p pos : Pos} {a : Expr} {sa : Ev} {i : Nat} (B : BOk k T E X) (h : slotOf T y = some i) (ha : PE X a (tD k E true sa)) (hs : star a = false) (hl : (ap.endLine == p.line) = true) :
    PS X (.Expr (.Call (.Attribute (.Name y p1) "append" ap) [a] [] p) pos) (tS k E (appS i sa)) := by
  obtain ⟨h1, h2, h3⟩ := slotOf_at h
  obtain ⟨d1, d2, _⟩ := okName_d h3
  refine psI (ps_expr (pe_bm PySem.F.plainAttrs_list PySem.F.slot_list_append PySem.F.type_list_append mt_append (pe_var (i := i) (by rw [B.x.hN]; exact h1) (B.x.vis y h2) d1 d2) (pa_cons ha pa_nil (star_cons hs)) rfl (by rw [star_cons hs]; rfl) hl (star_cons hs) rfl) rfl) fun D σ H ⟨F0, H0, F, O, env, r, ex, q⟩ => ?_
  unfold appS at q
  split at q
  · rename_i xs e
    obtain ⟨A, Bo, C, v, e1, e2, rv, f, _⟩ := r.slot e
    subst e1
    cases rv with
    | @lst o Ol p vs ds rl =>
      obtain ⟨rfl, rp⟩ := rl.shs
      have hp : H p = some (.lst vs) := (ex.own (p, .lst vs) (by simp)).2.1
      refine ⟨.ref p, e2, .inl ⟨rfl, vs, .inl (.inl hp)⟩, F, _, env, ex.bs r, OutS.fst (x := sa env) (b := true) ex q fun s v F' H' Of Ob e3 x rv c q => ?_⟩
      obtain ⟨o, d⟩ := s
      cases o with
      | sh =>
        rw [show Sl.asSh (.sh, d) = .ok (.sh, d) from rfl, R.bind_ok] at q
        split at q
        · rename_i hz
          simp only [decide_eq_true_eq] at hz
          cases rv with
          | sh rv =>
            refine ⟨p, vs, v, rfl, rfl, x.sH _ _ hp, by rw [rp.length]; exact hz, ?_⟩
            have rn : RepO k F' (.lst .sh) [(p, .lst (vs ++ [v]))] (.lst (xs ++ [d])) (.ref p) := .lst (repOl_sh ((rp.mono x.sF).snoc rv))
            have z := f F' _ _ _ _ x.sF rn
            rw [set_same e2] at z
            refine q σ F' _ _ z ?_
            have e4 : Ext F0 H0 F' H' ((p, .lst vs) :: (A ++ C)) := by
              have w := (ex.trans x).sub (O' := A ++ ([(p, .lst vs)] ++ C)) (fun q hq => List.mem_append_right _ hq) ex.nd
              refine w.perm ?_
              exact (List.perm_middle (l₁ := A) (l₂ := C)).symm
            exact e4.wr.perm List.perm_middle
        · exact q.elim
      | lst => exact q.elim
      | tup => exact q.elim
  · exact q.elim
/-! ### loops -/
/-- a base from which on F1 stands -/
def base (H0 F1 : Hp) : Hp := fun a => match F1 a with | some o => some o | none => H0 a
theorem Ext.toBase {F0 H0 F1 H1 F' H' : Hp} {O1 O : OL} (e1 : Ext F0 H0 F1 H1 O1) (e : Ext F0 H0 F' H' O) (s : Same F1 F') : Ext F1 (base H0 F1) F' H' O := by
  refine ⟨s, fun a o h => ?_, fun a h => ?_, e.fh, fun p hp => ?_, e.nd⟩
  · unfold base at h
    cases q : F1 a with
    | none => rw [q] at h; exact e.sH _ _ h
    | some u => rw [q] at h; cases h; exact e.fh _ _ (s _ _ q)
  · unfold base at h
    cases q : F1 a with
    | none => rw [q] at h; rw [e.ag a h, ← e1.ag a h]; exact q
    | some u => exact s _ _ q
  · obtain ⟨h1, h2, h3⟩ := e.own p hp
    refine ⟨?_, h2, h3⟩
    unfold base
    rw [s.free h3]
    exact h1
theorem Ext.ofBase {F0 H0 F1 H1 F' H' : Hp} {O1 O : OL} (e1 : Ext F0 H0 F1 H1 O1) (e : Ext F1 (base H0 F1) F' H' O) : Ext F0 H0 F' H' O := by
  have b : ∀ a o, H0 a = some o → base H0 F1 a = some o := fun a o h => by
    unfold base
    cases q : F1 a with
    | none => exact h
    | some u =>
      have z := e1.fh _ _ q
      rw [e1.sH _ _ h] at z
      exact z.symm ▸ rfl
  refine ⟨e1.sF.trans e.sF, fun a o h => e.sH _ _ (b a o h), fun a h => ?_, e.fh, fun p hp => ?_, e.nd⟩
  · obtain ⟨o, ho⟩ := some_of_ne h
    rw [e.ag a (by rw [b a o ho]; exact fun z => nomatch z)]
    exact e1.ag a h
  · obtain ⟨h1, h2, h3⟩ := e.own p hp
    refine ⟨?_, h2, h3⟩
    cases q : H0 p.1 with
    | none => rfl
    | some o => rw [b _ _ q] at h1; cases h1
theorem OutS.bindEx {x : R Fl} {f : Fl → R Fl} (h : OutS k F0 H0 D E (x.bind f)) : (∃ fl, x = .ok fl ∧ OutS k F0 H0 D E (f fl)) ∨ ∃ e, x = .exc e ∧ OutS k F0 H0 D E (.exc e) := by
  cases x with
  | ok fl => exact .inl ⟨fl, rfl, h⟩
  | exc e => exact .inr ⟨e, rfl, h⟩
  | bad => exact h.elim
theorem ps_forS {y : Str} {py pos : Pos} {iter : Expr} {body : List Stmt} {src : Src} {i : Nat} {sb : Ex} (B : BOk k T E X) (hix : ixOf y T.N = some i) (hloc : locB T.sc y = true) (hi : PI X (.Name y py) iter (tI k E src.run)) (hb : PSs X body (tS k E sb)) (hs : ∀ v, foldedSetIterable iter X.env v = pure v) :
    PS X (.For (.Name y py) iter body [] pos) (tS k E (forS i src sb)) := by
  have nd : X.N.Nodup := by rw [B.x.hN]; exact B.x.nd
  refine psI (ps_for B.po B.x.calm hi (pg_name nd (by rw [B.x.hN]; exact ixOf_at hix) (B.x.loc y hloc) (.inl (B.fn y))) hb hs) fun D σ H ⟨F0, H0, F, O, env, r, ex, q⟩ => ?_
  refine ⟨F, O, env, ex.bs r, OutS.fstI ex q fun xs J F1 H1 Of e1 x1 w q => ?_⟩
  have ex1 : Ext F0 H0 F1 H1 O := (ex.trans x1).sub (fun p hp => List.mem_append_right _ hp) ex.nd
  refine ⟨fun n m σ' H' => m = xs.length - n ∧ n ≤ xs.length ∧ ∃ F' O' env', EnvRep k F' O' env' σ' ∧ Ext F0 H0 F' H' O' ∧ Same F1 F' ∧ OutS k F0 H0 D E (forD i sb (xs.drop n) env'),
    ⟨_, rfl, Nat.zero_le _, F1, O, env, r.mono x1.sF, ex1, Same.refl _, q⟩, ?_⟩
  rintro n m σ' H' ⟨rfl, hn, F', O', env', r', ex', sm, q'⟩
  by_cases hlt : n < xs.length
  · right
    have hat : xs[n]? = some xs[n] := List.getElem?_eq_getElem hlt
    obtain ⟨go, yl⟩ := w.item F' H' n _ sm ex'.fh hat
    rw [List.drop_eq_getElem_cons hlt] at q'
    unfold forD at q'
    split at q'
    · rename_i hlen
      simp only [decide_eq_true_eq] at hlen
      refine ⟨go, fun σ'' H'' => n + 1 ≤ xs.length ∧ ∃ F' O' env', EnvRep k F' O' env' σ'' ∧ Ext F0 H0 F' H'' O' ∧ Same F1 F' ∧ OutS k F0 H0 D E (forD i sb (xs.drop (n + 1)) env'),
        fun σ'' H'' ⟨a, b⟩ => ⟨xs.length - (n + 1), by omega, rfl, a, b⟩, fun v H'' hy => ?_⟩
      obtain ⟨rfl, rv⟩ := yl v H'' hy
      obtain ⟨O2, r2, ex2⟩ := put_ok r' ex' hlen (Ext.refl ex'.fh) (s := (.sh, xs[n])) (.sh rv)
      refine ⟨F1, base H0 F1, F', O2, _, r2, ex1.toBase ex2 sm, ?_⟩
      rcases q'.bindEx with ⟨fl, e4, q4⟩ | ⟨e, e4, q4⟩
      · rw [e4]
        cases fl with
        | nx en => exact fun σ5 F5 H5 O5 r5 x5 => ⟨hlt, F5, O5, en, r5, ex1.ofBase x5, x5.sF, q4⟩
        | ct en => exact fun σ5 F5 H5 O5 r5 x5 => ⟨hlt, F5, O5, en, r5, ex1.ofBase x5, x5.sF, q4⟩
        | bk en => exact fun σ5 F5 H5 O5 r5 x5 => q4 σ5 F5 H5 O5 r5 (ex1.ofBase x5)
        | rt s => exact fun v F5 H5 O5 x5 r5 => q4 v F5 H5 O5 (ex1.ofBase x5) r5
      · rw [e4]
        exact fun F5 H5 cls dd x5 r5 => q4 F5 H5 cls dd (ex1.ofBase x5) r5
    · exact q'.elim
  · left
    have en : n = xs.length := by omega
    subst en
    refine ⟨w.stop F' H' sm ex'.fh, ?_⟩
    rw [List.drop_length] at q'
    exact q' σ' F' H' O' r' ex'
theorem ps_whileS {c : Expr} {body : List Stmt} {pos : Pos} {l : List Nat} {tc : DEnv → R Bool} {sb : Ex} {N : Nat} (B : BOk k T E X) (hc : PT X c (tDT k E tc)) (hb : PSs X body (tS k E sb)) : PS X (.While c body [] pos) (tS k E (whileD l tc sb N)) := by
  refine psI (ps_while B.po hc hb) fun D σ H ⟨F0, H0, F, O, env, r, ex, q⟩ => ?_
  refine ⟨fun m σ' H' => ∃ F' O' env', EnvRep k F' O' env' σ' ∧ Ext F0 H0 F' H' O' ∧ OutS k F0 H0 D E (whileD l tc sb m env'), ⟨N, F, O, env, r, ex, q⟩, ?_⟩
  rintro m σ' H' ⟨F', O', env', r', ex', q'⟩
  cases m with
  | zero => exact q'.elim
  | succ m =>
    unfold whileD at q'
    obtain ⟨F1, O1, r1, ex1⟩ := dem_ok (env := env') l r' ex'
    refine ⟨F1, O1, _, ex1.bs r1, OutS.fstT (x := tc (dem l env')) ex1 q' fun b F2 H2 e2 x2 q2 => ?_⟩
    have ex2 : Ext F0 H0 F2 H2 O1 := by simpa using ex1.trans x2
    cases b with
    | false => exact q2 σ' F2 H2 O1 (r1.mono x2.sF) ex2
    | true =>
      rw [if_pos rfl] at q2
      refine ⟨fun σ'' H'' => ∃ F' O' env', EnvRep k F' O' env' σ'' ∧ Ext F0 H0 F' H'' O' ∧ OutS k F0 H0 D E (whileD l tc sb m env'), fun σ'' H'' z => ⟨m, Nat.lt_succ_self _, z⟩, F0, H0, F2, O1, _, r1.mono x2.sF, ex2, ?_⟩
      rcases q2.bindEx with ⟨fl, e4, q4⟩ | ⟨e, e4, q4⟩
      · rw [e4]
        cases fl with
        | nx en => exact fun σ5 F5 H5 O5 r5 x5 => ⟨F5, O5, en, r5, x5, q4⟩
        | ct en => exact fun σ5 F5 H5 O5 r5 x5 => ⟨F5, O5, en, r5, x5, q4⟩
        | bk en => exact q4
        | rt s => exact q4
      · rw [e4]; exact q4
end
end PyD

set_option Elab.async false
set_option linter.all false
set_option maxRecDepth 100000
set_option maxHeartbeats 4000000
namespace PyD
open PySem PySem.Spec PyProof.Rows L2
section
variable {X : Cx} {k : Ki} {T : Tb} {E : XK} {s : Sm} {D : Ends}
theorem swap_of (B : BOk k T E X) {y : Str} {py : Pos} {e : Expr} {l : Nat} (h : (!isComp e || (compScope e).isSome) = true) : swapsWith e (some (.Name y py)) l X.env = pure (swapB T.sc y py e) := by
  cases e with
  | ListComp elt gs sc2 pos =>
    have bk : X.env.blockKind = .function := by unfold Env.blockKind; rw [B.kind]; rfl
    have e1 : (X.env.kindOf y == some NameKind.local) = (match T.sc.names.lookup y with | some .local => true | _ => false) := by
      show (X.env.scope.names.lookup y == some .local) = _
      rw [B.sc]
      cases T.sc.names.lookup y with
      | none => rfl
      | some kd => cases kd <;> rfl
    unfold swapsWith swapB compScope
    simp only [bk, e1, Expr.pos]
    rfl
  | SetComp => cases h
  | DictComp => cases h
  | _ => rfl
theorem bad_set {i : Nat} {σ : L2.St} {H : Hp} : ¬ tS k E (setS i badE) D σ H := by
  rintro ⟨F0, H0, F, O, env, r, ex, q⟩
  unfold setS at q
  split at q <;> exact q
theorem ps_asgn (S : SOk s) (B : BOk k T E X) {y : Str} {py pos : Pos} {e : Expr} {i : Nat} (hix : ixOf y T.N = some i) (hl : locB T.sc y = true) (hc : (!isComp e || (compScope e).isSome) = true) : PS X (.Assign [.Name y py] e pos) (tS k E (setS i (stepE s T e))) := by
  have O := B.x
  have nd : X.N.Nodup := by rw [O.hN]; exact O.nd
  have hi : X.N[i]? = some y := by rw [O.hN]; exact ixOf_at hix
  cases hsw : swapB T.sc y py e with
  | false => exact psI (ps_set nd hi (O.loc y hl) (stepE_ok S O e) (by rw [swap_of B hc, hsw]) (.inl (B.fn y))) fun D σ H h => tS_set h
  | true =>
    have hsw' := swap_of (y := y) (l := pos.line) (py := py) B hc
    rw [hsw] at hsw'
    cases e with
    | ListComp elt gs scope pos2 =>
      have hyl : X.env.scope.names.lookup y = some .local := by
        unfold swapB compScope at hsw
        simp only [Bool.and_eq_true] at hsw
        rw [B.sc]
        have z := hsw.1.1
        split at z
        · assumption
        · cases z
      have key : ∀ {t : Ev}, stepE s T (.ListComp elt gs scope pos2) = t → PS X (.Assign [.Name y py] (.ListComp elt gs scope pos2) pos) (tS k E (setS i t)) := fun {t} et => by
        subst et
        unfold stepE
        split
        all_goals try (rename_i z; cases z; done)
        all_goals try (cases ‹Expr.ListComp _ _ _ _ = _›)
        · rename_i x px iter ifs hz
          split
          · rename_i j t hix2 ht
            split
            · rename_i c
              simp only [Bool.and_eq_true, Bool.not_eq_true', decide_eq_true_eq] at c
              exact psI (ps_setLc O.calm nd hi hyl hsw' (pi_src O (S.B O) (S.E O)) (comp_blk O c.1.1.1) (comp_tg O hix2 c.1.1.2) (fun s H C cl fp => pts_of S (O.blk s H _ cl C fp) ht) (fun s H C cl fp => pe_frz (S.E (O.blk s H _ cl C fp) _)) (folded_ok c.2)) fun D σ H h => comp_imp c.1.2 (tS_set h)
            · exact ⟨fun _ _ _ _ _ _ h => (bad_set h).elim⟩
          · exact ⟨fun _ _ _ _ _ _ h => (bad_set h).elim⟩
        · exact ⟨fun _ _ _ _ _ _ h => (bad_set h).elim⟩
      exact key rfl
    | _ => exact absurd hsw (by unfold swapB compScope; simp)
theorem stepX_ok (S : SOk s) {n : Nat} {x : Tb → Stmt → Ex} (hx : ∀ st, PS X st (tS k E (x T st))) (B : BOk k T E X) (st : Stmt) : PS X st (tS k E (stepX s n x T st)) := by
  have O := B.x
  unfold stepX
  split
  · exact ps_nx ps_pass
  · exact psI ps_break fun D σ H ⟨F0, H0, F, O, env, r, e, q⟩ => q σ F H O r e
  · exact psI ps_continue fun D σ H ⟨F0, H0, F, O, env, r, e, q⟩ => q σ F H O r e
  · exact ps_nx ps_doc
  · split
    · rename_i hm
      subst hm
      split
      · rename_i i h
        split
        · rename_i c
          simp only [Bool.and_eq_true, Bool.not_eq_true'] at c
          exact psI (ps_appS B h (pe_frz (S.E O _)) c.2 c.1) fun D σ H h => tS_dem h
        · exact psBad
      · exact psBad
    · exact psBad
  · split
    · rename_i i h
      split
      · rename_i c
        simp only [Bool.and_eq_true] at c
        exact psI (ps_asgn S B h c.1.1 c.2) fun D σ H h => tS_dem h
      · exact psBad
    · exact psBad
  · exact ps_whileS B (S.T O _) (seqs_ok hx _)
  · exact psI (ps_ifS (S.T O _) (seqs_ok hx _) (seqs_ok hx _)) fun D σ H h => tS_dem h
  · split
    · rename_i i h
      split
      · rename_i c
        simp only [Bool.and_eq_true, Bool.not_eq_true'] at c
        exact psI (ps_forS B h c.1.1 (pi_src O (S.B O) (S.E O)) (seqs_ok hx _) (folded_ok c.2)) fun D σ H h => tS_dem h
      · exact psBad
    · exact psBad
  · split
    · rename_i i h; exact ps_retV B h
    · exact ps_retS (S.E O _)
  · exact psI (ps_retS (S.E O _)) fun D σ H h => tS_dem h
  · exact ps_retN
  · exact psBad
theorem sx_ok (S : SOk s) (B : BOk k T E X) : ∀ n st, PS X st (tS k E (sx s n T st))
  | 0, _ => psBad
  | n + 1, st => stepX_ok S (sx_ok S B n) B st
end
end PyD

set_option Elab.async false
set_option linter.all false
set_option maxRecDepth 100000
set_option maxHeartbeats 4000000
namespace PyD
open PySem PySem.Spec PyProof.Rows L2
/-! ### the answers of a def -/
theorem owEq_ok : ∀ {a b : Ow}, owEq a b = true → a = b := by
  have go : ∀ n : Nat, (∀ a b : Ow, sizeOf a ≤ n → owEq a b = true → a = b) ∧ (∀ a b : List Ow, sizeOf a ≤ n → owEqs a b = true → a = b) := by
    intro n
    induction n with
    | zero => exact ⟨fun a b h => by cases a <;> simp at h, fun a b h => by cases a <;> simp at h⟩
    | succ n ih =>
      refine ⟨fun a b h e => ?_, fun a b h e => ?_⟩
      · cases a with
        | sh => cases b <;> first | rfl | cases e
        | lst a =>
          cases b with
          | lst b => rw [ih.1 a b (by simp at h; omega) (by unfold owEq at e; exact e)]
          | _ => cases e
        | tup a =>
          cases b with
          | tup b => rw [ih.2 a b (by simp at h; omega) (by unfold owEq at e; exact e)]
          | _ => cases e
      · cases a with
        | nil => cases b <;> first | rfl | cases e
        | cons a r =>
          cases b with
          | nil => cases e
          | cons b q =>
            unfold owEqs at e
            rw [Bool.and_eq_true] at e
            rw [ih.1 a b (by simp at h; omega) e.1, ih.2 r q (by simp at h; omega) e.2]
  exact fun {a b} h => (go (sizeOf a)).1 a b (Nat.le_refl _) h
theorem finD_imm {g : Sg} {s : Sl} {d : D} (h : finD g s = .ok d) (ha : g.al = false) : immO g.ret d = true := by
  unfold finD at h
  split at h
  · rename_i c
    cases h
    simp only [Bool.and_eq_true, Bool.or_eq_true] at c
    rcases c.2 with z | z
    · rw [ha] at z; cases z
    · exact z
  · cases h
theorem runD_imm {g : Sg} {N : List Str} {body : Ex} {ds : List D} {d : D} (h : runD g N body ds = .ok d) (ha : g.al = false) : immO g.ret d = true := by
  unfold runD at h
  split at h
  · obtain ⟨fl, _, h2⟩ := R.bind_eq_ok h
    cases fl with
    | nx e => exact finD_imm h2 ha
    | rt s => exact finD_imm h2 ha
    | bk => cases h2
    | ct => cases h2
  · cases h
theorem finD_exc {g : Sg} {s : Sl} {x : Exn} : finD g s ≠ .exc x := by
  unfold finD
  split <;> exact fun z => nomatch z
theorem finF_exc {g : Sg} {fl : Fl} {x : Exn} : finF g fl ≠ .exc x := by
  cases fl with
  | nx e => exact finD_exc
  | rt e => exact finD_exc
  | bk => exact fun z => nomatch z
  | ct => exact fun z => nomatch z
theorem okExn_exc {α : Type} {y : R α} {x : Exn} (h : okExn y = .exc x) : (x.fs.all fun p => imm p.2) = true := by
  cases y with
  | ok a => exact nomatch h
  | bad => exact nomatch h
  | exc e =>
    have h' : (if (e.fs.all fun p => imm p.2) = true then R.exc e else R.bad) = (R.exc x : R α) := h
    split at h'
    · rename_i c; cases h'; exact c
    · cases h'
theorem runD_exc {g : Sg} {N : List Str} {body : Ex} {ds : List D} {x : Exn} (h : runD g N body ds = .exc x) : (x.fs.all fun p => imm p.2) = true := by
  unfold runD at h
  split at h
  · cases z : okExn (body (env0 N ds)) with
    | ok fl => rw [z] at h; exact absurd h finF_exc
    | bad => rw [z] at h; cases h
    | exc y => rw [z] at h; cases h; exact okExn_exc z
  · cases h
section
variable {tab : List Df} {gl : Str → Option D}
theorem fnd_mem {f : Str} {d : Df} (h : fnd tab f = some d) : d ∈ tab ∧ d.name = f := by
  unfold fnd at h
  exact ⟨List.mem_of_find?_eq_some h, by simpa using List.find?_some h⟩
theorem semAt_imm {n : Nat} {f : Str} {g : Sg} {ds : List D} {d : D} (hf : (fnd tab f).map (·.g) = some g) (ha : g.al = false) (h : semAt tab gl n f ds = .ok d) : immO g.ret d = true := by
  cases n with
  | zero => cases h
  | succ n =>
    cases z : fnd tab f with
    | none => rw [z] at hf; cases hf
    | some d' =>
      rw [z] at hf; cases hf
      unfold semAt at h
      rw [z] at h
      exact runD_imm h ha
theorem semAt_exc {n : Nat} {f : Str} {ds : List D} {x : Exn} (h : semAt tab gl n f ds = .exc x) : (x.fs.all fun p => imm p.2) = true := by
  cases n with
  | zero => cases h
  | succ n =>
    unfold semAt at h
    split at h
    · exact runD_exc h
    · cases h

/-! ### a def keeps the promise that its reading makes -/
theorem envRep0 {k : Ki} {F : Hp} : ∀ {ds : List D} {vs : List V} (m : Nat), Reps k F ds vs → EnvRep k F [] (ds.map (fun d => some (.sh, d)) ++ List.replicate m none) (vs.map some ++ List.replicate m none)
  | _, _, m, .nil => by
    induction m with
    | zero => exact .nil
    | succ m ih => exact .un ih
  | _, _, m, .cons h t => .val (O := []) (.sh h) (envRep0 m t)
theorem bn_list {x : Str} (h : bname x = true) : x ∈ (["len", "abs", "int", "tuple", "list", "set", "sorted", "max", "min", "sum", "isinstance", "range", "bool", "str"] : List Str) := by
  unfold bname blOf tyOf at h
  simp only [Bool.or_eq_true, decide_eq_true_eq] at h
  simp only [List.mem_cons, List.not_mem_nil, or_false]
  rcases h with ((h | h) | h) | h
  · repeat' split at h
    all_goals first | (simp [*]; done) | cases h
  · simp [h]
  · simp [h]
  · repeat' split at h
    all_goals first | (simp [*]; done) | cases h
structure Fx (P : Program) (w : World) (K : PySem.W.Frag) (mg : Str → Option Value) (k : Ki) (tab : List Df) (gl : Str → Option D) : Prop where
  hK : k.K = K
  hw : k.w = w
  fn : ∀ d ∈ tab, ∃ fa fd qual, FunD K d.name qual (L2.defArgs d.st) (L2.defBody d.st) (L2.defScope d.st) [] [] fa fd ∧ mg d.name = some (.ref fa) ∧ L2.Binds K fd d.ps []
  sc : ∀ d ∈ tab, FnScope d.N d.ps (L2.defScope d.st)
  n : ∀ d ∈ tab, d.ps.length = d.g.n
  blt : ∀ x, bname x = true → mg x = none
  con : ∀ x d, gl x = some d → ∃ u v, mg x = some u ∧ L2.RelV v u ∧ ∀ F, Rep k F d v
theorem spOf_len {k : Ki} {sem : List D → R D} {g : Sg} {vs : List V} {H : Hp} {Q : VK} {E : XK} (h : spOf k sem g vs H Q E) : vs.length = g.n := h.1
theorem defs_ok {P : Program} {w : World} {K : PySem.W.Frag} {mg : Str → Option Value} {base : Heap} {k : Ki} {tab : List Df} {gl : Str → Option D} (X : Fx P w K mg k tab gl) :
    ∀ (lev : Nat) (f : Str) (d : Df), fnd tab f = some d → ∃ fa fd, (∃ qual, FunD K d.name qual (L2.defArgs d.st) (L2.defBody d.st) (L2.defScope d.st) [] [] fa fd) ∧ mg f = some (.ref fa) ∧ PySem.W.keepIn K (.ref fa) = true ∧ L2.Binds K fd d.ps [] ∧ FnOk P w K mg base (L2.CX P w) lev fa fd d.ps (spOf k (semAt tab gl lev f) d.g) := by
  intro lev
  induction lev with
  | zero =>
    intro f d hf
    obtain ⟨hd, rfl⟩ := fnd_mem hf
    obtain ⟨fa, fd, qual, Fd, hm, hb⟩ := X.fn d hd
    exact ⟨fa, fd, ⟨qual, Fd⟩, hm, Fd.kp, hb, ⟨fun vs H Q E h => (spOf_len h).trans (X.n d hd).symm, fun A outer s H args us vs Q E _ _ _ _ h => by
      obtain ⟨_, F, ds, _, _, z⟩ := h
      exact z.elim⟩⟩
  | succ lev ih =>
    intro f d hf
    obtain ⟨hd, rfl⟩ := fnd_mem hf
    obtain ⟨fa, fd, qual, Fd, hm, hb⟩ := X.fn d hd
    refine ⟨fa, fd, ⟨qual, Fd⟩, hm, Fd.kp, hb, Fd.ok (X.sc d hd) (fun vs H Q E h => (spOf_len h).trans (X.n d hd).symm) fun cdv A outer s H vs Q E hr h => ?_⟩
    obtain ⟨hl, F, ds, sf, rep, z⟩ := h
    have S := X.sc d hd
    let T := tbOf tab gl (semAt tab gl lev) d
    have tk : Takes (cxOf (L2.CX P w) P w K mg base d.N qual (L2.defScope d.st) fa cdv A outer s H E) (fun cls dd _ H' => E cls dd H') := takes_of rfl rfl rfl rfl
    have O : XOk k T E (cxOf (L2.CX P w) P w K mg base d.N qual (L2.defScope d.st) fa cdv A outer s H E) := by
      refine ⟨rfl, S.nd, rfl, X.hK.symm, X.hw.symm, ?_, fun x h => ?_, fun x h => ?_, fun x h => ?_, fun x h => h, X.blt, fun f' g' hg => ?_, X.con, passes_call tk fun _ _ _ _ h => h, fun f' g' ds' d' hg ha h => semAt_imm (tab := tab) (gl := gl) hg ha h, fun f' g' ds' x hg h => semAt_exc h⟩
      · have := hr.un
        show (A.deeper _).units + 65 < cLine
        omega
      · have h : visB (L2.defScope d.st) x = true := h
        unfold visB at h
        show Vis (L2.defScope d.st) x
        split at h
        · exact .inl (by assumption)
        · exact .inr (.inl (by assumption))
        · exact .inr (.inr (by assumption))
        · cases h
      · have h : locB (L2.defScope d.st) x = true := h
        unfold locB at h
        show L2.Loc (L2.defScope d.st) x
        split at h
        · exact .inl (by assumption)
        · exact .inr (by assumption)
        · cases h
      · have h : glB (L2.defScope d.st) x = true := h
        unfold glB at h
        show (L2.defScope d.st).names.lookup x = _
        split at h
        · assumption
        · cases h
      · have hg : (fnd tab f').map (·.g) = some g' := hg
        cases hq : fnd tab f' with
        | none => rw [hq] at hg; cases hg
        | some d' =>
          rw [hq] at hg; cases hg
          obtain ⟨fa', fd', _, h1, h2, h3, h4⟩ := ih f' d' hq
          exact ⟨⟨fa', fd', d'.ps, lev, h4, hr, h1, h2, h3⟩⟩
    have B : BOk k T E (cxOf (L2.CX P w) P w K mg base d.N qual (L2.defScope d.st) fa cdv A outer s H E) := ⟨O, rfl, S.kind, fun _ => rfl, passes_of rfl⟩
    refine ⟨_, seqs_ok (sx_ok (sm_ok fuel) B fuel) (L2.defBody d.st), F, H, F, [], env0 d.N ds, ?_, Ext.refl sf, ?_⟩
    · have e := rep.length
      unfold env0 L2.start
      rw [e]
      exact envRep0 _ rep
    · have z' : match runD d.g d.N (bodyOf T d.st) ds with
          | .ok d' => ∀ v F' H' O, Ext F H F' H' O → RepO k F' d.g.ret O d' v → Q v H'
          | .exc x => ∀ F' H' cls dd, Ext F H F' H' [] → RepX k F' x cls dd → E cls dd H'
          | .bad => False := by
        have q := z
        unfold semAt at q
        rw [hf] at q
        exact q
      have hlen : ds.length = d.g.n := by rw [← rep.length]; exact hl
      unfold runD at z'
      rw [if_pos hlen] at z'
      have fin : ∀ (s' : Sl) (v : V) (F' H' : Hp) (O' : OL), (match finD d.g s' with
          | .ok d' => ∀ v F' H' O, Ext F H F' H' O → RepO k F' d.g.ret O d' v → Q v H'
          | .exc x => ∀ F' H' cls dd, Ext F H F' H' [] → RepX k F' x cls dd → E cls dd H'
          | .bad => False) → Ext F H F' H' O' → RepO k F' s'.1 O' s'.2 v → Q v H' := fun s' v F' H' O' q e r => by
        unfold finD at q
        split at q
        · rename_i d' hd'
          split at hd'
          · rename_i c
            cases hd'
            simp only [Bool.and_eq_true, Bool.or_eq_true] at c
            rcases c.1 with c1 | c1
            · have er : d.g.ret = .sh := by
                cases hret : d.g.ret with
                | sh => rfl
                | _ => rw [hret] at c1; cases c1
              rw [er] at q
              have e' : Ext F H F' H' (O' ++ []) := by rw [List.append_nil]; exact e
              exact q v _ H' [] e'.freeze (.sh (r.frz (frz_same fun p hp => (e.own p hp).2.2) fun p hp => frz_at e.nd hp))
            · rw [← owEq_ok c1] at q
              exact q v F' H' O' e r
          · cases hd'
        · rename_i hd'
          split at hd' <;> cases hd'
        · exact q.elim
      show OutS k F H _ E (bodyOf T d.st (env0 d.N ds))
      cases hb2 : bodyOf T d.st (env0 d.N ds) with
      | bad => rw [hb2] at z'; exact z'
      | exc x =>
        rw [hb2] at z'
        have z2 : match (okExn (R.exc x : R Fl)).bind (finF d.g) with
          | .ok d' => ∀ v F' H' O, Ext F H F' H' O → RepO k F' d.g.ret O d' v → Q v H'
          | .exc x => ∀ F' H' cls dd, Ext F H F' H' [] → RepX k F' x cls dd → E cls dd H'
          | .bad => False := z'
        by_cases c : (x.fs.all fun p => imm p.2) = true
        · have e1 : (okExn (R.exc x : R Fl)) = .exc x := if_pos c
          rw [e1] at z2
          exact z2
        · have e1 : (okExn (R.exc x : R Fl)) = .bad := if_neg c
          rw [e1] at z2
          exact z2.elim
      | ok fl =>
        rw [hb2] at z'
        cases fl with
        | nx env => exact fun σ' F' H' O' r e => fin (.sh, .non) .non F' H' [] z' (e.sub (fun _ z => nomatch z) List.nodup_nil) (.sh .non)
        | rt s' => exact fun v F' H' O' e r => fin s' v F' H' O' z' e r
        | bk => exact z'.elim
        | ct => exact z'.elim

/-! ### the end of a law -/
theorem walkD {l : PySem.W.OpenLaw} {q : Program} {loose : List Str} {XP : (Str → Option Value) → Heap → Prop} {YP : World → Heap → Prop} {d : DefRec} {tab : List Df} {gl : Str → Option D} {lev : Nat} {dl : Df} (hn : l.most = some 63) (hdf : d.params.defaults = []) (hr : Room lev callerA)
    (hname : d.name = "law") (hl : fnd tab "law" = some dl) (hps : dl.ps = [("script" : Str)]) (hg : dl.g.ret = .sh) (hgn : dl.g.n = 1)
    (F : ∀ (w : World) (mg : Str → Option Value) (h : Heap), YP w h → h.Ns mainGlobals mg → ∃ (K : PySem.W.Frag) (k : Ki), K.In h ∧ Fx l.prog w K mg k tab gl)
    (hb : ∀ (kV doc pm : Value) (an : Option Addr) (cdv ct : Value) (qual : Str) (us : List Value), us.length = dl.ps.length → bindArgs (PySem.W.fnOf dl.name qual (L2.defArgs dl.st) (L2.defBody dl.st) (L2.defScope dl.st) .none kV doc pm an cdv ct) ⟨us, []⟩ = pure (dl.ps.zip us))
    (main : ∀ ns : List Int, ns.length ≤ 63 → semAt tab gl lev "law" [.lst (ns.map D.int)] = .ok (.bl true)) :
    PySem.W.WalkO q loose XP YP l.row.toRowW d [] (fun f vs => PySem.call f vs) := by
  refine Att.attach_call hn hdf fun w s₀ s₁ mg mb fa o pm cd doc a vs ns G Y ho hd hcd hmg hobj hints hlen hg' => ?_
  obtain ⟨K, k, KX, X⟩ := F w mg _ Y G.T.g
  rw [hname] at hmg
  -- the def that stands there
  obtain ⟨fa', fd, ⟨qual, Fd⟩, h1, h2, h3, _⟩ := defs_ok (base := s₁.heap) X lev "law" dl hl
  rw [hmg] at h1
  cases h1
  have bA := FunD.bindsA (ps := dl.ps) Fd fun kV doc pm an cdv ct us hl => hb kV doc pm an cdv ct qual us hl
  refine law_call (CX := L2.CX l.prog w) (sp := spOf k (semAt tab gl lev "law") dl.g) (x := "script") (fd := fd) KX G.T.g G.T.b G.T.builtins G.T.nolimit hg' hobj hints (Nat.le_trans hlen (by decide)) hr (fun base kb gb => ?_) (fun s u => ?_) (fun H hO hS => ?_) (fun H e s' c => ?_)
  · obtain ⟨fa2, fd2, ⟨qual2, Fd2⟩, e1, _, _, ok⟩ := defs_ok (P := l.prog) (base := base) X lev "law" dl hl
    rw [hmg] at e1
    cases e1
    have : fd2 = fd := by
      obtain ⟨oc, od, dV, kV, doc, pm, an, cdv, ct, osl, _, lk, _⟩ := Fd.ex
      obtain ⟨oc2, od2, dV2, kV2, doc2, pm2, an2, cdv2, ct2, osl2, _, lk2, _⟩ := Fd2.ex
      rw [lk] at lk2
      cases lk2
      rfl
    subst this
    rw [hps] at ok
    exact ok
  · have z := bA s [u] (by rw [hps]; rfl)
    rw [hps] at z
    exact z
  · refine ⟨by rw [hgn]; rfl, H, [.lst (ns.map D.int)], Same.refl _, .cons (.lst (by rw [X.hK]; exact hS) (reps_of_ints ns)) .nil, ?_⟩
    rw [main ns hlen]
    intro v F' H' O _ r
    rw [hg] at r
    cases r with
    | sh r => cases r; rfl
  · obtain ⟨_, _, _, _, _, _, _, _, _, _, _, _, z⟩ := c
    exact z
end
end PyD

set_option Elab.async false
set_option linter.all false
set_option maxRecDepth 100000
namespace PyD
open PySem PySem.Spec PyProof.Rows L2
/-! ### the same text as combinators of values -/
abbrev litE (d : D) : Ev := fun _ => .ok (.sh, d)
abbrev subS (a b : Ev) : Ev := fun env => (subE a b env).bind Sl.asSh
def evsE : List Ev → DEnv → R (List Sl)
  | [], _ => .ok []
  | e :: es, env => (e env).bind fun x => (evsE es env).bind fun xs => .ok (x :: xs)
def lstV (es : List Ev) : Ev := fun env => (evsE es env).bind fun xs => if xs.all (·.1.isSh) && decide (xs.length ≤ sizeLine) then .ok (.lst .sh, .lst (xs.map (·.2))) else .bad
def tupV (es : List Ev) : Ev := fun env => (evsE es env).bind fun xs => if xs.all (·.1.isSh) && decide (xs.length ≤ sizeLine) then .ok (.sh, .tup (xs.map (·.2))) else .bad
def callV (c : Str → List D → R D) (f : Str) (g : Sg) (es : List Ev) : Ev := fun env => (evsE es env).bind fun xs => if decide (xs.length = g.n) && (!g.al || xs.all (·.1.isSh)) then (c f (xs.map (·.2))).bind fun d => .ok (g.ret, d) else .bad
abbrev yesT : DEnv → R Bool := fun _ => .ok true
def seqV : List Ex → Ex
  | [], env => .ok (.nx env)
  | s :: r, env => (s env).bind fun fl => match fl with
    | .nx env' => seqV r env'
    | fl => .ok fl
abbrev nopS : Ex := fun env => .ok (.nx env)
abbrev brkS : Ex := fun env => .ok (.bk env)
abbrev cntS : Ex := fun env => .ok (.ct env)
end PyD

set_option Elab.async false
set_option linter.all false
set_option maxRecDepth 100000
set_option maxHeartbeats 1000000
namespace PyD
open PySem PySem.Spec PyProof.Rows L2
/-! ### plain rules of the combinators -/
abbrev I (ns : List Int) : D := .lst (ns.map D.int)
theorem semAt_fnd {tab : List Df} {gl : Str → Option D} {n : Nat} {f : Str} {d : Df} {b : Ex} {ds : List D} (h : fnd tab f = some d) (e : bodyOf (tbOf tab gl (semAt tab gl n) d) d.st = b) : semAt tab gl (n + 1) f ds = runD d.g d.N b ds := by
  conv => lhs; unfold semAt
  rw [h]
  show runD d.g d.N (bodyOf _ d.st) ds = _
  rw [e]
@[simp] theorem varB_some {i : Nat} {env : DEnv} {s : Sl} (h : env[i]? = some (some s)) : varB i env = .ok s := by unfold varB; rw [h]
theorem runD_ok {g : Sg} {N : List Str} {b : Ex} {ds : List D} {fl : Fl} (hl : ds.length = g.n) (h : b (env0 N ds) = .ok fl) : runD g N b ds = finF g fl := by
  unfold runD
  rw [if_pos hl, h]
  rfl
theorem compR_ok {i : Nat} {t : DEnv → R Bool} {e : Ev} {env : DEnv} {p : D → Bool} {g : D → D} : ∀ {xs : List D}, (∀ x ∈ xs, t (setSlot i (.sh, x) env) = .ok (p x)) → (∀ x ∈ xs, p x = true → e (setSlot i (.sh, x) env) = .ok (.sh, g x)) → compR i t e env xs = .ok ((xs.filter p).map g)
  | [], _, _ => rfl
  | x :: xs, h1, h2 => by
    have ih := compR_ok (xs := xs) (fun y hy => h1 y (List.mem_cons_of_mem _ hy)) (fun y hy => h2 y (List.mem_cons_of_mem _ hy))
    unfold compR
    rw [h1 x List.mem_cons_self]
    rw [R.bind_ok]
    cases hp : p x with
    | false => rw [if_neg (by simp), ih, List.filter_cons_of_neg (by simp [hp])]
    | true =>
      rw [if_pos rfl, h2 x List.mem_cons_self hp, R.bind_ok, ih, R.bind_ok, List.filter_cons_of_pos hp]
      rfl
theorem compE_ok {src : Src} {i : Nat} {t : DEnv → R Bool} {e : Ev} {own : List Nat} {env : DEnv} {xs : List D} (p : D → Bool) (g : D → D) (hs : src.run env = .ok xs) (hl : xs.length ≤ sizeLine) (hi : i < env.length) (h1 : ∀ x ∈ xs, t (setSlot i (.sh, x) (wipeD env own)) = .ok (p x)) (h2 : ∀ x ∈ xs, p x = true → e (setSlot i (.sh, x) (wipeD env own)) = .ok (.sh, g x)) : compE src i t e own env = .ok (.lst .sh, .lst ((xs.filter p).map g)) := by
  unfold compE
  rw [hs, R.bind_ok, if_pos (by simp [hl, hi]), compR_ok h1 h2]
  rfl
/-- a comprehension over whole numbers -/
theorem compE_int {src : Src} {i : Nat} {t : DEnv → R Bool} {e : Ev} {own : List Nat} {env : DEnv} {ns : List Int} (p : Int → Bool) (g : Int → D) (hs : src.run env = .ok (ns.map D.int)) (hl : ns.length ≤ sizeLine) (hi : i < env.length) (h1 : ∀ x ∈ ns, t (setSlot i (.sh, .int x) (wipeD env own)) = .ok (p x)) (h2 : ∀ x ∈ ns, p x = true → e (setSlot i (.sh, .int x) (wipeD env own)) = .ok (.sh, g x)) : compE src i t e own env = .ok (.lst .sh, .lst ((ns.filter p).map g)) := by
  rw [compE_ok (fun d => match d with | .int x => p x | _ => false) (fun d => match d with | .int x => g x | _ => .non) hs (by simpa using hl) hi]
  · congr 3
    rw [List.filter_map, List.map_map]
    rfl
  · intro x hx
    obtain ⟨n, hn, rfl⟩ := List.mem_map.1 hx
    exact h1 n hn
  · intro x hx hp
    obtain ⟨n, hn, rfl⟩ := List.mem_map.1 hx
    exact h2 n hn hp
theorem forD_inv {i : Nat} {body : Ex} (P : List D → DEnv → Prop) {xs : List D} (h : ∀ (pre : List D) (x : D) (post : List D) (env : DEnv), xs = pre ++ x :: post → P pre env → i < env.length ∧ ∃ env', (body (setSlot i (.sh, x) env) = .ok (.nx env') ∨ body (setSlot i (.sh, x) env) = .ok (.ct env')) ∧ P (pre ++ [x]) env') {env : DEnv} (h0 : P [] env) : ∃ env', forD i body xs env = .ok (.nx env') ∧ P xs env' := by
  have go : ∀ (post pre : List D) (env : DEnv), xs = pre ++ post → P pre env → ∃ env', forD i body post env = .ok (.nx env') ∧ P xs env' := by
    intro post
    induction post with
    | nil =>
      intro pre env e p
      rw [List.append_nil] at e
      subst e
      exact ⟨env, rfl, p⟩
    | cons x post ih =>
      intro pre env e p
      obtain ⟨hi, env', hb, p'⟩ := h pre x post env e p
      obtain ⟨env2, h2, p2⟩ := ih (pre ++ [x]) env' (by rw [e, List.append_assoc]; rfl) p'
      refine ⟨env2, ?_, p2⟩
      unfold forD
      rw [if_pos (by simp [hi])]
      rcases hb with hb | hb
      · rw [hb]; exact h2
      · rw [hb]; exact h2
  exact go xs [] env rfl h0
/-- a search: leaves the first time that the test holds -/
theorem forD_find {i : Nat} {body : Ex} (P : DEnv → Prop) (p : D → Bool) (r : Sl) : ∀ {xs : List D} {env : DEnv}, (∀ x ∈ xs, ∀ env, P env → i < env.length ∧ (p x = false → ∃ env', (body (setSlot i (.sh, x) env) = .ok (.nx env') ∨ body (setSlot i (.sh, x) env) = .ok (.ct env')) ∧ P env') ∧ (p x = true → body (setSlot i (.sh, x) env) = .ok (.rt r))) → P env → (xs.any p = true → forD i body xs env = .ok (.rt r)) ∧ (xs.any p = false → ∃ env', forD i body xs env = .ok (.nx env') ∧ P env')
  | [], env, _, h0 => ⟨fun z => by simp at z, fun _ => ⟨env, rfl, h0⟩⟩
  | x :: xs, env, h, h0 => by
    obtain ⟨hi, hf, ht⟩ := h x List.mem_cons_self env h0
    rw [List.any_cons]
    cases hp : p x with
    | true =>
      refine ⟨fun _ => ?_, fun z => by simp at z⟩
      unfold forD
      rw [if_pos (by simp [hi]), ht hp]
      rfl
    | false =>
      obtain ⟨env', hb, p'⟩ := hf hp
      have ih := forD_find P p r (xs := xs) (env := env') (fun y hy => h y (List.mem_cons_of_mem _ hy)) p'
      rw [Bool.false_or]
      have e : forD i body (x :: xs) env = forD i body xs env' := by
        conv => lhs; unfold forD
        rw [if_pos (by simp [hi])]
        rcases hb with hb | hb
        · rw [hb]; rfl
        · rw [hb]; rfl
      rw [e]
      exact ih
theorem seqV_cons (s : Ex) (r : List Ex) (env : DEnv) : seqV (s :: r) env = (s env).bind fun fl => match fl with
    | .nx env' => seqV r env'
    | fl => .ok fl := rfl
theorem seqV_nil (env : DEnv) : seqV [] env = .ok (.nx env) := rfl
end PyD

set_option Elab.async false
set_option linter.all false
set_option maxRecDepth 100000
set_option maxHeartbeats 1000000
namespace PyD
open PySem PySem.Spec PyProof.Rows L2
theorem ixN_lt {n j : Nat} (hj : j < n) : ixN n (j : Int) = some j := by
  unfold ixN
  rw [if_pos (by omega), if_pos (by omega)]
  simp
theorem atI_nat {α : Type} (xs : List α) {j : Nat} (hj : j < xs.length) : atI xs (j : Int) = some xs[j] := by
  unfold atI
  rw [ixN_lt hj]
  simp [hj]
theorem range_run {f : Ev} {env : DEnv} {n : Nat} (h : f env = .ok (.sh, .int (n : Int))) (hn : n < 4611686018427387904) : (Src.range f).run env = .ok ((List.range n).map fun i : Nat => D.int i) := by
  show (f env).bind rangeD = _
  rw [h, R.bind_ok]
  have h1 : decide (-(2 ^ 62) ≤ (n : Int)) = true := decide_eq_true (by omega)
  have h2 : decide ((n : Int) < 2 ^ 62) = true := decide_eq_true (by omega)
  unfold rangeD
  simp only [h1, h2]
  rfl
/-! ### the row of numbers that a law draws from its script -/
def b_row : Ex := seqV [
  (demS [] (setS 4 (litE (.int 0)))),
  (demS [] (ifS (blT (cmpE .Lt (varB 1) (blE .len (varB 0)))) (seqV [(demS [1] (setS 4 (blE .abs (subE (varB 0) (varE 1)))))]) (seqV []))),
  (demS [] (setS 5 (cmpE .GtE (varB 4) (binE .Pow (litE (.int 10)) (litE (.int 18)))))),
  (demS [] (setS 6 (binE .Mod (blE .int (binE .Add (binE .Add (binE .Mult (varB 4) (litE (.int 48271))) (binE .Mult (varB 1) (litE (.int 69621)))) (litE (.int 7)))) (litE (.int 2147483647))))),
  (demS [] (setS 7 (lstV []))),
  (demS [] (forS 8 (.range (varB 2)) (seqV [(demS [5] (ifS (andT (truE (varB 5)) (blT (cmpE .Gt (varB 4) (litE (.int 0))))) (seqV [(demS [] (appS 7 (frzE (binE .Mod (blE .int (varB 4)) (varB 3))))), (demS [] (setS 4 (binE .FloorDiv (varB 4) (varB 3))))]) (seqV [(demS [] (setS 6 (binE .Mod (blE .int (binE .Add (binE .Mult (varB 6) (litE (.int 48271))) (litE (.int 11)))) (litE (.int 2147483647))))), (demS [] (setS 9 (binE .Mod (blE .int (binE .Add (binE .Mult (varB 6) (litE (.int 69621))) (varB 8))) (litE (.int 2147483629))))), (demS [] (appS 7 (frzE (binE .Mod (blE .int (binE .FloorDiv (varB 9) (litE (.int 7)))) (varB 3)))))])))]))),
  (retS (varB 7))]
def rowBody : Ex := (seqV [(demS [5] (ifS (andT (truE (varB 5)) (blT (cmpE .Gt (varB 4) (litE (.int 0))))) (seqV [(demS [] (appS 7 (frzE (binE .Mod (blE .int (varB 4)) (varB 3))))), (demS [] (setS 4 (binE .FloorDiv (varB 4) (varB 3))))]) (seqV [(demS [] (setS 6 (binE .Mod (blE .int (binE .Add (binE .Mult (varB 6) (litE (.int 48271))) (litE (.int 11)))) (litE (.int 2147483647))))), (demS [] (setS 9 (binE .Mod (blE .int (binE .Add (binE .Mult (varB 6) (litE (.int 69621))) (varB 8))) (litE (.int 2147483629))))), (demS [] (appS 7 (frzE (binE .Mod (blE .int (binE .FloorDiv (varB 9) (litE (.int 7)))) (varB 3)))))])))])
theorem mulOk_rc (i : Int) (c : Int) (h : -(2 ^ 64) < c ∧ c < 2 ^ 64) : mulOk i c = true := by
  unfold mulOk
  rw [Bool.or_eq_true, Bool.and_eq_true, Bool.and_eq_true]
  exact .inr ⟨decide_eq_true h.1, decide_eq_true h.2⟩
/-- the state of the row's loop -/
def RowSt (script : D) (at' size limit : Int) (env : DEnv) (k : Nat) : Prop := ∃ (cell first : Int) (dig : Bool) (row : List Int) (s8 s9 : Option Sl), env = [some (.sh, script), some (.sh, .int at'), some (.sh, .int size), some (.sh, .int limit), some (.sh, .int cell), some (.sh, .bl dig), some (.sh, .int first), some (.lst .sh, .lst (row.map D.int)), s8, s9] ∧ row.length = k ∧ ∀ x ∈ row, 0 ≤ x ∧ x < limit
theorem row_step {script : D} {at' size limit : Int} (hl : 0 < limit) (hl2 : limit < 1073741824) {env : DEnv} {k : Nat} (hk : k < 1000) (i : Int) (h : RowSt script at' size limit env k) : 8 < env.length ∧ ∃ env', (rowBody (setSlot 8 (.sh, .int i) env) = .ok (.nx env')) ∧ RowSt script at' size limit env' (k + 1) := by
  obtain ⟨cell, first, dig, row, s8, s9, rfl, hr, hm⟩ := h
  refine ⟨by simp, ?_⟩
  have hs : row.length < sizeLine := Nat.lt_of_lt_of_le (by omega : row.length < 1000) (by decide)
  have hn : limit ≠ 0 := by omega
  have hna : limit.natAbs < 1073741824 := by omega
  have hmd : ∀ x : Int, 0 ≤ x.fmod limit ∧ x.fmod limit < limit := fun x => ⟨Int.fmod_nonneg_of_pos _ hl, Int.fmod_lt_of_pos _ hl⟩
  have app : ∀ x : Int, row.map D.int ++ [D.int x] = (row ++ [x]).map D.int := fun x => by simp
  have m1 : mulOk first 48271 = true := mulOk_rc _ _ (by decide)
  have m2 : ∀ x, mulOk x 69621 = true := fun x => mulOk_rc _ _ (by decide)
  unfold rowBody
  by_cases c : dig = true ∧ 0 < cell
  · refine ⟨[some (.sh, script), some (.sh, .int at'), some (.sh, .int size), some (.sh, .int limit), some (.sh, .int (cell.fdiv limit)), some (.sh, .bl dig), some (.sh, .int first), some (.lst .sh, .lst ((row ++ [cell.fmod limit]).map D.int)), some (.sh, .int i), s9], ?_, _, _, _, _, _, _, rfl, by simp [hr], ?_⟩
    · simp [c.1, c.2, seqV, demS, dem, dem1, setSlot, ifS, andT, truE, varB, R.bind, truD, blT, cmpE, cmpD, litE, appS, frzE, binE, blE, blD, binD, Sl.asSh, setS, hs, hn, hna]
    · intro x hx
      rcases List.mem_append.1 hx with hx | hx
      · exact hm x hx
      · rw [List.mem_singleton.1 hx]; exact hmd cell
  · refine ⟨[some (.sh, script), some (.sh, .int at'), some (.sh, .int size), some (.sh, .int limit), some (.sh, .int cell), some (.sh, .bl dig), some (.sh, .int ((first * 48271 + 11).fmod 2147483647)), some (.lst .sh, .lst ((row ++ [(((((first * 48271 + 11).fmod 2147483647) * 69621 + i).fmod 2147483629).fdiv 7).fmod limit]).map D.int)), some (.sh, .int i), some (.sh, .int ((((first * 48271 + 11).fmod 2147483647) * 69621 + i).fmod 2147483629))], ?_, _, _, _, _, _, _, rfl, by simp [hr], ?_⟩
    · have c' : (if dig = true then R.ok (decide (0 < cell)) else R.ok false) = R.ok false := by
        by_cases d : dig = true
        · rw [if_pos d]; simp [d] at c; simp [c]
        · rw [if_neg d]
      simp [seqV, demS, dem, dem1, setSlot, ifS, andT, truE, varB, R.bind, truD, blT, cmpE, cmpD, litE, appS, frzE, binE, blE, blD, binD, Sl.asSh, setS, hs, hn, hna, c', m1, m2]
    · intro x hx
      rcases List.mem_append.1 hx with hx | hx
      · exact hm x hx
      · rw [List.mem_singleton.1 hx]; exact hmd _
theorem row_first (script : List Int) (at' : Nat) (size limit : Int) : ∃ cell : Int, (demS [] (ifS (blT (cmpE .Lt (varB 1) (blE .len (varB 0)))) (seqV [(demS [1] (setS 4 (blE .abs (subE (varB 0) (varE 1)))))]) (seqV []))) [some (.sh, I script), some (.sh, .int at'), some (.sh, .int size), some (.sh, .int limit), some (.sh, .int 0), none, none, none, none, none] = .ok (.nx [some (.sh, I script), some (.sh, .int at'), some (.sh, .int size), some (.sh, .int limit), some (.sh, .int cell), none, none, none, none, none]) := by
  by_cases c : at' < script.length
  · refine ⟨(if script[at'] < 0 then -script[at'] else script[at']), ?_⟩
    have ha : atI (script.map D.int) (at' : Int) = some (D.int script[at']) := by
      rw [atI_nat _ (by simpa using c)]
      simp
    simp [seqV, demS, dem, dem1, setSlot, ifS, varB, R.bind, blT, cmpE, cmpD, blE, blD, subE, varE, Sl.asSh, subD, setS, ha, c]
  · refine ⟨0, ?_⟩
    simp [seqV, demS, dem, dem1, setSlot, ifS, varB, R.bind, blT, cmpE, cmpD, blE, blD, c]
theorem row_e3 (script : D) (at' size limit cell : Int) (s5 : Option Sl) : demS [] (setS 6 (binE .Mod (blE .int (binE .Add (binE .Add (binE .Mult (varB 4) (litE (.int 48271))) (binE .Mult (varB 1) (litE (.int 69621)))) (litE (.int 7)))) (litE (.int 2147483647)))) [some (.sh, script), some (.sh, .int at'), some (.sh, .int size), some (.sh, .int limit), some (.sh, .int cell), s5, none, none, none, none] = .ok (.nx [some (.sh, script), some (.sh, .int at'), some (.sh, .int size), some (.sh, .int limit), some (.sh, .int cell), s5, some (.sh, .int ((cell * 48271 + at' * 69621 + 7).fmod 2147483647)), none, none, none]) := by
  have m1 : ∀ x, mulOk x 48271 = true := fun x => mulOk_rc _ _ (by decide)
  have m2 : ∀ x, mulOk x 69621 = true := fun x => mulOk_rc _ _ (by decide)
  simp [demS, dem, setS, setSlot, binE, varB, litE, blE, binD, blD, m1, m2]
theorem row_run {script : List Int} {at' size : Nat} {limit : Int} (hl : 0 < limit) (hl2 : limit < 1073741824) (hk : size < 1000) : ∃ r : List Int, r.length = size ∧ (∀ x ∈ r, 0 ≤ x ∧ x < limit) ∧ b_row [some (.sh, I script), some (.sh, .int at'), some (.sh, .int size), some (.sh, .int limit), none, none, none, none, none, none] = .ok (.rt (.lst .sh, I r)) := by
  obtain ⟨cell, hcell⟩ := row_first script at' size limit
  have m1 : ∀ x, mulOk x 48271 = true := fun x => mulOk_rc _ _ (by decide)
  have m2 : ∀ x, mulOk x 69621 = true := fun x => mulOk_rc _ _ (by decide)
  have h0 : RowSt (I script) at' size limit [some (.sh, I script), some (.sh, .int at'), some (.sh, .int size), some (.sh, .int limit), some (.sh, .int cell), some (.sh, .bl (decide (10 ^ 18 ≤ cell))), some (.sh, .int ((cell * 48271 + at' * 69621 + 7).fmod 2147483647)), some (.lst .sh, .lst []), none, none] 0 := ⟨_, _, _, [], _, _, rfl, rfl, fun _ z => nomatch z⟩
  have key := forD_inv (i := 8) (body := rowBody) (fun pre env => RowSt (I script) at' size limit env pre.length) (xs := (List.range size).map fun i : Nat => D.int i) (fun pre x post env e p => by
    have hx : x ∈ (List.range size).map fun i : Nat => D.int i := by rw [e]; simp
    obtain ⟨j, _, rfl⟩ := List.mem_map.1 hx
    have hpl : pre.length < 1000 := by
      have := congrArg List.length e
      simp at this
      omega
    obtain ⟨a, env', b, c⟩ := row_step hl hl2 hpl (j : Int) p
    exact ⟨a, env', .inl b, by simpa using c⟩) h0
  obtain ⟨env', hf, cell', first', dig', r, s8, s9, rfl, hr, hm⟩ := key
  refine ⟨r, by simpa using hr, hm, ?_⟩
  unfold b_row
  rw [seqV_cons]
  have e1 : demS [] (setS 4 (litE (D.int 0))) [some (.sh, I script), some (.sh, .int at'), some (.sh, .int size), some (.sh, .int limit), none, none, none, none, none, none] = .ok (.nx [some (.sh, I script), some (.sh, .int at'), some (.sh, .int size), some (.sh, .int limit), some (.sh, .int 0), none, none, none, none, none]) := rfl
  rw [e1, R.bind_ok]
  dsimp only
  rw [seqV_cons, hcell, R.bind_ok]
  dsimp only
  have e2 : demS [] (setS 5 (cmpE .GtE (varB 4) (binE .Pow (litE (.int 10)) (litE (.int 18))))) [some (.sh, I script), some (.sh, .int at'), some (.sh, .int size), some (.sh, .int limit), some (.sh, .int cell), none, none, none, none, none] = .ok (.nx [some (.sh, I script), some (.sh, .int at'), some (.sh, .int size), some (.sh, .int limit), some (.sh, .int cell), some (.sh, .bl (decide (10 ^ 18 ≤ cell))), none, none, none, none]) := by
    simp [demS, dem, setS, setSlot, binE, varB, litE, binD, blD, cmpE, cmpD]
  have e3' : demS [] (setS 7 (lstV [])) [some (.sh, I script), some (.sh, .int at'), some (.sh, .int size), some (.sh, .int limit), some (.sh, .int cell), some (.sh, .bl (decide (10 ^ 18 ≤ cell))), some (.sh, .int ((cell * 48271 + at' * 69621 + 7).fmod 2147483647)), none, none, none] = .ok (.nx [some (.sh, I script), some (.sh, .int at'), some (.sh, .int size), some (.sh, .int limit), some (.sh, .int cell), some (.sh, .bl (decide (10 ^ 18 ≤ cell))), some (.sh, .int ((cell * 48271 + at' * 69621 + 7).fmod 2147483647)), some (.lst .sh, .lst []), none, none]) := rfl
  have e4 : (forS 8 (.range (varB 2)) rowBody) [some (.sh, I script), some (.sh, .int at'), some (.sh, .int size), some (.sh, .int limit), some (.sh, .int cell), some (.sh, .bl (decide (10 ^ 18 ≤ cell))), some (.sh, .int ((cell * 48271 + at' * 69621 + 7).fmod 2147483647)), some (.lst .sh, .lst []), none, none] = .ok (.nx [some (.sh, I script), some (.sh, .int at'), some (.sh, .int size), some (.sh, .int limit), some (.sh, .int cell'), some (.sh, .bl dig'), some (.sh, .int first'), some (.lst .sh, .lst (r.map D.int)), s8, s9]) := by
    unfold forS
    rw [range_run (n := size) rfl (by omega), R.bind_ok]
    exact hf
  have e5 : ∀ env, demS [] (forS 8 (.range (varB 2)) (seqV [(demS [5] (ifS (andT (truE (varB 5)) (blT (cmpE .Gt (varB 4) (litE (.int 0))))) (seqV [(demS [] (appS 7 (frzE (binE .Mod (blE .int (varB 4)) (varB 3))))), (demS [] (setS 4 (binE .FloorDiv (varB 4) (varB 3))))]) (seqV [(demS [] (setS 6 (binE .Mod (blE .int (binE .Add (binE .Mult (varB 6) (litE (.int 48271))) (litE (.int 11)))) (litE (.int 2147483647))))), (demS [] (setS 9 (binE .Mod (blE .int (binE .Add (binE .Mult (varB 6) (litE (.int 69621))) (varB 8))) (litE (.int 2147483629))))), (demS [] (appS 7 (frzE (binE .Mod (blE .int (binE .FloorDiv (varB 9) (litE (.int 7)))) (varB 3)))))])))])) env = forS 8 (.range (varB 2)) rowBody env := fun _ => rfl
  rw [seqV_cons, e2, R.bind_ok]
  dsimp only
  rw [seqV_cons, row_e3, R.bind_ok]
  dsimp only
  rw [seqV_cons, e3', R.bind_ok]
  dsimp only
  rw [seqV_cons, e5, e4, R.bind_ok]
  rfl
theorem row_ok {script : List Int} {at' size : Nat} {limit : Int} (hl : 0 < limit) (hl2 : limit < 1073741824) (hk : size < 1000) {N : List Str} (hN : N.length = 10) : ∃ r : List Int, r.length = size ∧ (∀ x ∈ r, 0 ≤ x ∧ x < limit) ∧ runD ⟨4, .lst .sh, false⟩ N b_row [I script, .int at', .int size, .int limit] = .ok (I r) := by
  obtain ⟨r, h1, h2, h3⟩ := row_run (script := script) (at' := at') hl hl2 hk
  refine ⟨r, h1, h2, ?_⟩
  rw [runD_ok (fl := .rt (.lst .sh, I r)) rfl (by unfold env0; rw [hN]; exact h3)]
  have e : immO (.lst .sh) (I r) = true := by
    have : ∀ r : List Int, immOl .sh (r.map D.int) = true := fun r => by
      induction r with
      | nil => rfl
      | cons a r ih => exact ih
    exact this r
  show finD _ _ = _
  unfold finD
  rw [e]
  rfl
end PyD

set_option Elab.async false
set_option linter.all false
set_option maxRecDepth 100000
set_option maxHeartbeats 1000000
namespace PyD
open PySem PySem.Spec PyProof.Rows L2
/-! ### more plain rules -/
section
variable {α : Type}
theorem compR_map {i : Nat} {t : DEnv → R Bool} {e : Ev} {env : DEnv} (f : α → D) (p : α → Bool) (g : α → D) : ∀ ns : List α, (∀ x ∈ ns, t (setSlot i (.sh, f x) env) = .ok (p x)) → (∀ x ∈ ns, p x = true → e (setSlot i (.sh, f x) env) = .ok (.sh, g x)) → compR i t e env (ns.map f) = .ok ((ns.filter p).map g)
  | [], _, _ => rfl
  | x :: xs, h1, h2 => by
    have ih := compR_map f p g xs (fun y hy => h1 y (List.mem_cons_of_mem _ hy)) (fun y hy => h2 y (List.mem_cons_of_mem _ hy))
    rw [List.map_cons]
    unfold compR
    rw [h1 x List.mem_cons_self, R.bind_ok]
    cases hp : p x with
    | false => rw [if_neg (by simp), ih, List.filter_cons_of_neg (by simp [hp])]
    | true =>
      rw [if_pos rfl, h2 x List.mem_cons_self hp, R.bind_ok, ih, R.bind_ok, List.filter_cons_of_pos hp]
      rfl
theorem compE_map {src : Src} {i : Nat} {t : DEnv → R Bool} {e : Ev} {own : List Nat} {env : DEnv} (f : α → D) (p : α → Bool) (g : α → D) (ns : List α) (hs : src.run env = .ok (ns.map f)) (hl : ns.length ≤ sizeLine) (hi : i < env.length) (h1 : ∀ x ∈ ns, t (setSlot i (.sh, f x) (wipeD env own)) = .ok (p x)) (h2 : ∀ x ∈ ns, p x = true → e (setSlot i (.sh, f x) (wipeD env own)) = .ok (.sh, g x)) : compE src i t e own env = .ok (.lst .sh, .lst ((ns.filter p).map g)) := by
  unfold compE
  rw [hs, R.bind_ok, if_pos (by simp [hl, hi]), compR_map f p g ns h1 h2]
  rfl
theorem compE_all {src : Src} {i : Nat} {e : Ev} {own : List Nat} {env : DEnv} (f : α → D) (g : α → D) (ns : List α) (hs : src.run env = .ok (ns.map f)) (hl : ns.length ≤ sizeLine) (hi : i < env.length) (h2 : ∀ x ∈ ns, e (setSlot i (.sh, f x) (wipeD env own)) = .ok (.sh, g x)) : compE src i yesT e own env = .ok (.lst .sh, .lst (ns.map g)) := by
  rw [compE_map f (fun _ => true) g ns hs hl hi (fun _ _ => rfl) fun x hx _ => h2 x hx]
  rw [List.filter_eq_self.2 fun _ _ => rfl]
theorem forD_findM {i : Nat} {body : Ex} (P : DEnv → Prop) (f : α → D) (p : α → Bool) (r : Sl) : ∀ {xs : List α} {env : DEnv}, (∀ x ∈ xs, ∀ env, P env → i < env.length ∧ (p x = false → ∃ env', (body (setSlot i (.sh, f x) env) = .ok (.nx env') ∨ body (setSlot i (.sh, f x) env) = .ok (.ct env')) ∧ P env') ∧ (p x = true → body (setSlot i (.sh, f x) env) = .ok (.rt r))) → P env → (xs.any p = true → forD i body (xs.map f) env = .ok (.rt r)) ∧ (xs.any p = false → ∃ env', forD i body (xs.map f) env = .ok (.nx env') ∧ P env')
  | [], env, _, h0 => ⟨fun z => by simp at z, fun _ => ⟨env, rfl, h0⟩⟩
  | x :: xs, env, h, h0 => by
    obtain ⟨hi, hf, ht⟩ := h x List.mem_cons_self env h0
    rw [List.any_cons]
    cases hp : p x with
    | true =>
      refine ⟨fun _ => ?_, fun z => by simp at z⟩
      rw [List.map_cons]
      unfold forD
      rw [if_pos (by simp [hi]), ht hp]
      rfl
    | false =>
      obtain ⟨env', hb, p'⟩ := hf hp
      have ih := forD_findM P f p r (xs := xs) (env := env') (fun y hy => h y (List.mem_cons_of_mem _ hy)) p'
      rw [Bool.false_or]
      have e : forD i body ((x :: xs).map f) env = forD i body (xs.map f) env' := by
        rw [List.map_cons]
        conv => lhs; unfold forD
        rw [if_pos (by simp [hi])]
        rcases hb with hb | hb
        · rw [hb]; rfl
        · rw [hb]; rfl
      rw [e]
      exact ih
/-- a loop that nothing leaves -/
theorem forD_all {i : Nat} {body : Ex} (P : List α → DEnv → Prop) (f : α → D) {xs : List α} (h : ∀ (pre : List α) (x : α) (post : List α) (env : DEnv), xs = pre ++ x :: post → P pre env → i < env.length ∧ ∃ env', (body (setSlot i (.sh, f x) env) = .ok (.nx env') ∨ body (setSlot i (.sh, f x) env) = .ok (.ct env')) ∧ P (pre ++ [x]) env') {env : DEnv} (h0 : P [] env) : ∃ env', forD i body (xs.map f) env = .ok (.nx env') ∧ P xs env' := by
  have go : ∀ (post pre : List α) (env : DEnv), xs = pre ++ post → P pre env → ∃ env', forD i body (post.map f) env = .ok (.nx env') ∧ P xs env' := by
    intro post
    induction post with
    | nil =>
      intro pre env e p
      rw [List.append_nil] at e
      subst e
      exact ⟨env, rfl, p⟩
    | cons x post ih =>
      intro pre env e p
      obtain ⟨hi, env', hb, p'⟩ := h pre x post env e p
      obtain ⟨env2, h2, p2⟩ := ih (pre ++ [x]) env' (by rw [e, List.append_assoc]; rfl) p'
      refine ⟨env2, ?_, p2⟩
      rw [List.map_cons]
      unfold forD
      rw [if_pos (by simp [hi])]
      rcases hb with hb | hb
      · rw [hb]; exact h2
      · rw [hb]; exact h2
  exact go xs [] env rfl h0
end
abbrev nD (n : Nat) : D := .int (n : Int)
theorem seqV_step {s : Ex} {r : List Ex} {env : DEnv} (env' : DEnv) {res : R Fl} (h : s env = .ok (.nx env')) (h2 : seqV r env' = res) : seqV (s :: r) env = res := by
  rw [seqV_cons, h, R.bind_ok]
  exact h2
theorem seqV_ret {s : Ex} {r : List Ex} {env : DEnv} {x : Sl} (h : s env = .ok (.rt x)) : seqV (s :: r) env = .ok (.rt x) := by
  rw [seqV_cons, h, R.bind_ok]
theorem seqV_set {i : Nat} {e : Ev} {l : List Nat} {r : List Ex} {env : DEnv} (s : Sl) {res : R Fl} (h : e (dem l env) = .ok s) (hi : i < (dem l env).length) (h2 : seqV r ((dem l env).set i (some s)) = res) : seqV (demS l (setS i e) :: r) env = res := by
  refine seqV_step _ ?_ h2
  unfold demS setS
  rw [if_pos (by simpa using hi), h]
  rfl
theorem seqV_end {s : Ev} {l : List Nat} {r : List Ex} {env : DEnv} (x : Sl) (h : s (dem l env) = .ok x) : seqV (demS l (retS s) :: r) env = .ok (.rt x) := by
  refine seqV_ret ?_
  unfold demS retS
  rw [h]
  rfl
/-- a test that fails with nothing behind -/
theorem seqV_no {c : DEnv → R Bool} {a : Ex} {l : List Nat} {r : List Ex} {env : DEnv} {res : R Fl} (h : c (dem l env) = .ok false) (h2 : seqV r (dem l env) = res) : seqV (demS l (ifS c a (seqV [])) :: r) env = res := by
  refine seqV_step _ ?_ h2
  unfold demS ifS
  rw [h]
  rfl
theorem seqV_yes {c : DEnv → R Bool} {s : Ev} {l l2 : List Nat} {b : Ex} {r r2 : List Ex} {env : DEnv} (x : Sl) (h : c (dem l env) = .ok true) (h2 : s (dem l2 (dem l env)) = .ok x) : seqV (demS l (ifS c (seqV (demS l2 (retS s) :: r2)) b) :: r) env = .ok (.rt x) := by
  refine seqV_ret ?_
  unfold demS ifS
  rw [h, R.bind_ok, if_pos rfl]
  exact seqV_end x h2
theorem subD_lst {o : Ow} {xs : List Int} {j : Nat} (h : j < xs.length) : subD (o, .lst (xs.map D.int)) (.int j) = .ok (match o with | .lst o => o | _ => .sh, .int (xs.getD j 0)) := by
  unfold subD
  simp only
  rw [atI_nat _ (by simpa using h)]
  cases o <;> simp [h]
theorem subD_tup {xs : List Int} {j : Nat} (h : j < xs.length) : subD (.sh, .tup (xs.map D.int)) (.int j) = .ok (.sh, .int (xs.getD j 0)) := by
  unfold subD
  simp only
  rw [atI_nat _ (by simpa using h)]
  simp [h]
/-! ### a set of whole numbers, in order -/
theorem insD_mem {i x : Int} : ∀ {l : List Int}, x ∈ insD i l ↔ x = i ∨ x ∈ l
  | [] => by simp [insD]
  | j :: r => by
    unfold insD
    split
    · simp
    · split
      · rename_i h; subst h; simp
      · simp [insD_mem (l := r)]; grind
theorem insD_sorted {i : Int} : ∀ {l : List Int}, l.Pairwise (· < ·) → (insD i l).Pairwise (· < ·)
  | [], _ => by simp [insD]
  | j :: r, h => by
    rw [List.pairwise_cons] at h
    unfold insD
    split
    · rename_i c
      rw [List.pairwise_cons]
      refine ⟨fun a ha => ?_, List.pairwise_cons.2 h⟩
      rcases List.mem_cons.1 ha with ha | ha
      · omega
      · have := h.1 a ha; omega
    · split
      · exact List.pairwise_cons.2 h
      · rename_i c d
        rw [List.pairwise_cons]
        refine ⟨fun a ha => ?_, insD_sorted h.2⟩
        rcases insD_mem.1 ha with ha | ha
        · omega
        · exact h.1 a ha
theorem insD_len {i : Int} : ∀ {l : List Int}, (insD i l).length ≤ l.length + 1
  | [] => by simp [insD]
  | j :: r => by
    unfold insD
    split
    · simp
    · split
      · simp
      · have := insD_len (i := i) (l := r); simp; omega
theorem sdI_sorted : ∀ ns : List Int, (sdI ns).Pairwise (· < ·)
  | [] => List.Pairwise.nil
  | n :: r => insD_sorted (sdI_sorted r)
theorem sdI_mem {x : Int} : ∀ {ns : List Int}, x ∈ sdI ns ↔ x ∈ ns
  | [] => Iff.rfl
  | n :: r => by
    show x ∈ insD n (sdI r) ↔ _
    rw [insD_mem, sdI_mem, List.mem_cons]
theorem sdI_len : ∀ ns : List Int, (sdI ns).length ≤ ns.length
  | [] => Nat.le_refl _
  | n :: r => Nat.le_trans insD_len (Nat.succ_le_succ (sdI_len r))
theorem sdI_nodup (ns : List Int) : (sdI ns).Nodup := (sdI_sorted ns).imp fun h => by omega
theorem sub_len {a b : List Int} (ha : a.Nodup) (hb : b.Nodup) (h : ∀ x, x ∈ a ↔ x ∈ b) : a.length = b.length := ((List.perm_ext_iff_of_nodup ha hb).2 h).length_eq
/-- where a number stands in an ascending list: so many are below it -/
theorem indexD_sorted : ∀ {l : List Int} {x : Int} (n : Nat), l.Pairwise (· < ·) → x ∈ l → indexD (l.map V.int) (V.int x) n = .ok (n + (l.filter fun y => decide (y < x)).length)
  | j :: r, x, n, h, hx => by
    rw [List.pairwise_cons] at h
    rw [List.map_cons]
    unfold indexD
    have e : eqV (V.int j) (V.int x) = decide (j = x) := rfl
    rw [e]
    by_cases c : j = x
    · subst c
      rw [if_pos (by simp)]
      have : (j :: r).filter (fun y => decide (y < j)) = [] := by
        rw [List.filter_eq_nil_iff]
        intro a ha
        rcases List.mem_cons.1 ha with ha | ha
        · subst ha; simp
        · have := h.1 a ha; simp; omega
      rw [this]
      rfl
    · rw [if_neg (by simpa using c)]
      have hx' : x ∈ r := by
        rcases List.mem_cons.1 hx with z | z
        · exact absurd z.symm c
        · exact z
      have lt := h.1 x hx'
      rw [indexD_sorted (n + 1) h.2 hx', List.filter_cons_of_pos (by simpa using lt), List.length_cons]
      congr 1
      omega
theorem vfs_ints : ∀ ns : List Int, D.vfs (ns.map D.int) = some (ns.map V.int)
  | [] => rfl
  | n :: r => by
    show (some (V.int n)).bind (fun a => (D.vfs (r.map D.int)).map (a :: ·)) = _
    rw [vfs_ints r]
    rfl
theorem imms_ints : ∀ ns : List Int, imms (ns.map D.int) = true
  | [] => rfl
  | n :: r => by
    show imms (r.map D.int) = true
    exact imms_ints r
theorem immOl_ints : ∀ ns : List Int, immOl .sh (ns.map D.int) = true
  | [] => rfl
  | n :: r => by
    show immOl .sh (r.map D.int) = true
    exact immOl_ints r
theorem pys_ints : ∀ ns : List Int, D.pys (ns.map D.int) = some (ns.map PyData.int)
  | [] => rfl
  | n :: r => by
    show (some (PyData.int n)).bind (fun a => (D.pys (r.map D.int)).map (a :: ·)) = _
    rw [pys_ints r]
    rfl
theorem finF_bl {g : Sg} {b : Bool} {o : Ow} (h : g.ret = .sh) : finF g (.rt (o, .bl b)) = .ok (.bl b) := by
  show finD _ _ = _
  unfold finD
  rw [h]
  cases g.al <;> rfl
theorem finF_int {g : Sg} {b : Int} {o : Ow} (h : g.ret = .sh) : finF g (.rt (o, .int b)) = .ok (.int b) := by
  show finD _ _ = _
  unfold finD
  rw [h]
  cases g.al <;> rfl
theorem finF_tupI {g : Sg} {ns : List Int} {o : Ow} (h : g.ret = .sh) : finF g (.rt (o, .tup (ns.map D.int))) = .ok (.tup (ns.map D.int)) := by
  show finD _ _ = _
  unfold finD
  have e : immO .sh (.tup (ns.map D.int)) = true := by
    show imms _ = true
    exact imms_ints ns
  rw [h, e, Bool.or_true]
  rfl
theorem finF_lstI {g : Sg} {ns : List Int} (h : g.ret = .lst .sh) : finF g (.rt (.lst .sh, .lst (ns.map D.int))) = .ok (.lst (ns.map D.int)) := by
  show finD _ _ = _
  unfold finD
  have e : immO (.lst .sh) (.lst (ns.map D.int)) = true := by
    show immOl .sh _ = true
    exact immOl_ints ns
  rw [h, e, Bool.or_true]
  rfl
end PyD

set_option Elab.async false
set_option linter.all false
set_option maxRecDepth 100000
set_option maxHeartbeats 1000000
namespace PyD
open PySem PySem.Spec PyProof.Rows L2
/-! ### == and in, of lists of whole numbers -/
theorem inV_ints (x : Int) : ∀ ns : List Int, inV (V.int x) (ns.map V.int) = decide (x ∈ ns)
  | [] => rfl
  | n :: r => by
    have ih := inV_ints x r
    unfold inV at ih ⊢
    rw [List.map_cons, List.any_cons, ih]
    have e : eqV (V.int n) (V.int x) = (n == x) := rfl
    rw [e]
    by_cases c : n = x
    · subst c; simp
    · have : (n == x) = false := by simpa using c
      rw [this, Bool.false_or]
      simp
      intro z
      exact absurd z.symm c
theorem inD_ints {x : Int} {ns : List Int} : inD (.int x) (.lst (ns.map D.int)) = .ok (decide (x ∈ ns)) := by
  show (match (some (V.int x)), (some (ns.map D.int)).bind D.vfs with
    | some a, some bs => R.ok (inV a bs)
    | _, _ => .bad) = _
  rw [Option.bind_some, vfs_ints]
  show R.ok (inV _ _) = _
  rw [inV_ints]
theorem eqvAll_ints : ∀ xs ys : List Int, PyData.eqvAll (xs.map PyData.int) (ys.map PyData.int) = decide (xs = ys)
  | [], [] => by unfold PyData.eqvAll; rfl
  | [], y :: ys => by unfold PyData.eqvAll; rfl
  | x :: xs, [] => by unfold PyData.eqvAll; rfl
  | x :: xs, y :: ys => by
    rw [List.map_cons, List.map_cons]
    unfold PyData.eqvAll
    rw [eqvAll_ints xs ys]
    unfold PyData.eqv
    by_cases c : x = y
    · subst c; simp
    · simp [c]
theorem shaped_ints : ∀ ns : List Int, SeqAt.shaped (.list (ns.map PyData.int)) = true := by
  intro ns
  induction ns with
  | nil => rfl
  | cons n r ih => exact ih
theorem eqD_ints {xs ys : List Int} : eqD (.lst (xs.map D.int)) (.lst (ys.map D.int)) = .ok (decide (xs = ys)) := by
  have p : ∀ ns : List Int, D.py (.lst (ns.map D.int)) = some (.list (ns.map PyData.int)) := fun ns => by
    show (D.pys (ns.map D.int)).map PyData.list = _
    rw [pys_ints]
    rfl
  unfold eqD
  simp only
  rw [p, p]
  simp only [shaped_ints, Bool.and_self, if_true]
  congr 1
  show PyData.eqv _ _ = _
  unfold PyData.eqv
  exact eqvAll_ints xs ys
theorem kit_int_bool : kitB "int" "bool" = some false := by kernel_rfl
theorem kit_int_int : kitB "int" "int" = some true := by kernel_rfl
theorem kit_tuple_tuple : kitB "tuple" "tuple" = some true := by kernel_rfl
theorem isiD_int_int (i : Int) : isiD (.int i) "int" = .ok (.sh, .bl true) := by kernel_rfl
theorem isiD_int_bool (i : Int) : isiD (.int i) "bool" = .ok (.sh, .bl false) := by kernel_rfl
theorem isiD_tuple (xs : List D) : isiD (.tup xs) "tuple" = .ok (.sh, .bl true) := by kernel_rfl
theorem demS_nil (x : Ex) (env : DEnv) : demS [] x env = x env := rfl
theorem ifS_true {c : DEnv → R Bool} {a b : Ex} {env : DEnv} (h : c env = .ok true) : ifS c a b env = a env := by
  unfold ifS
  rw [h]
  rfl
theorem ifS_false {c : DEnv → R Bool} {a b : Ex} {env : DEnv} (h : c env = .ok false) : ifS c a b env = b env := by
  unfold ifS
  rw [h]
  rfl
theorem mulOk_a {i j : Int} (h : -(2 ^ 64) < i ∧ i < 2 ^ 64) : mulOk i j = true := by
  unfold mulOk
  rw [Bool.or_eq_true, Bool.and_eq_true, Bool.and_eq_true]
  exact .inl ⟨decide_eq_true h.1, decide_eq_true h.2⟩
theorem callV_ok {c : Str → List D → R D} {f : Str} {g : Sg} {es : List Ev} {env : DEnv} {xs : List Sl} {d : D} (h : evsE es env = .ok xs) (hn : xs.length = g.n) (ha : g.al = false) (hc : c f (xs.map (·.2)) = .ok d) : callV c f g es env = .ok (g.ret, d) := by
  unfold callV
  rw [h, R.bind_ok, if_pos (by simp [hn, ha]), hc]
  rfl
theorem evsE_cons {e : Ev} {es : List Ev} {env : DEnv} {x : Sl} {xs : List Sl} (h : e env = .ok x) (hs : evsE es env = .ok xs) : evsE (e :: es) env = .ok (x :: xs) := by
  unfold evsE
  rw [h, R.bind_ok, hs]
  rfl
theorem evsE_nil {env : DEnv} : evsE [] env = .ok [] := rfl
theorem truE_bl {a : Ev} {env : DEnv} {o : Ow} {b : Bool} (h : a env = .ok (o, .bl b)) : truE a env = .ok b := by
  unfold truE
  rw [h]
  rfl
theorem notT_ok {a : DEnv → R Bool} {env : DEnv} {b : Bool} (h : a env = .ok b) : notT a env = .ok (!b) := by
  unfold notT
  rw [h]
  rfl
theorem orT_no {a b : DEnv → R Bool} {env : DEnv} {k : Bool} (h : a env = .ok false) (h2 : b env = .ok k) : orT a b env = .ok k := by
  unfold orT
  rw [h, R.bind_ok]
  exact h2
theorem andT_yes {a b : DEnv → R Bool} {env : DEnv} {k : Bool} (h : a env = .ok true) (h2 : b env = .ok k) : andT a b env = .ok k := by
  unfold andT
  rw [h, R.bind_ok]
  exact h2
theorem any_len {α : Type} (q : α → Bool) (ms : List α) : decide ((0 : Int) < ((ms.filter q).length : Int)) = ms.any q := by
  rw [Bool.eq_iff_iff]
  simp only [decide_eq_true_eq, List.any_eq_true]
  constructor
  · intro h
    obtain ⟨x, hx⟩ := List.exists_mem_of_length_pos (by omega : 0 < (ms.filter q).length)
    rw [List.mem_filter] at hx
    exact ⟨x, hx.1, hx.2⟩
  · rintro ⟨x, hx, h⟩
    have : 0 < (ms.filter q).length := List.length_pos_of_mem (List.mem_filter.2 ⟨hx, h⟩)
    omega
end PyD

set_option Elab.async false
set_option linter.all false
set_option maxRecDepth 100000
set_option maxHeartbeats 1000000
namespace PyD
open PySem PySem.Spec PyProof.Rows L2
/-! ### the head of a text that has only defs: its facts -/
def bnames : List Str := ["len", "abs", "int", "tuple", "list", "set", "sorted", "max", "min", "sum", "isinstance", "range", "bool", "str"]
def dOf (d : Df) : He.DefD := ⟨(d.name, none), d.name, d.name, L2.defArgs d.st, L2.defBody d.st, L2.defScope d.st, [], []⟩
def fnOf (tab : List Df) : List He.DefD := tab.map dOf
def faOf (tab : List Df) : List He.Fa := tab.map (fun d => .glo d.name) ++ bnames.map He.Fa.free
theorem Fx_of {P : Program} {w : World} {K : PySem.W.Frag} {mg : Str → Option Value} {h : Heap} {tab : List Df} (KX : K.In h) (G : h.Ns mainGlobals mg) (c : He.SaysD (faOf tab) (fnOf tab) K)
    (hb : ∀ d ∈ tab, ∀ (qual : Str) (kV doc pm : Value) (an : Option Addr) (cdv ct : Value) (us : List Value), us.length = d.ps.length → bindArgs (PySem.W.fnOf d.name qual (L2.defArgs d.st) (L2.defBody d.st) (L2.defScope d.st) .none kV doc pm an cdv ct) ⟨us, []⟩ = pure (d.ps.zip us))
    (hsc : ∀ d ∈ tab, FnScope d.N d.ps (L2.defScope d.st)) (hn : ∀ d ∈ tab, d.ps.length = d.g.n) : Fx P w K mg ⟨K, w, fun _ => none⟩ tab (fun _ => none) where
  hK := rfl
  hw := rfl
  fn := fun d hd => by
    obtain ⟨i, hi, e⟩ := List.mem_iff_getElem.1 hd
    have e1 : (fnOf tab)[i]? = some (dOf d) := by
      unfold fnOf
      rw [List.getElem?_map, List.getElem?_eq_getElem hi, e]
      rfl
    obtain ⟨fd, F⟩ := c.def_ i e1
    have e2 : (faOf tab)[i]? = some (He.Fa.glo d.name) := by
      unfold faOf
      rw [List.getElem?_append_left (by simpa using hi), List.getElem?_map, List.getElem?_eq_getElem hi, e]
      rfl
    have m := He.glo_ok KX G (c.fact i e2)
    exact ⟨_, fd, d.name, F, m, FunD.bindsN F fun kV doc pm an cdv ct us hl => hb d hd d.name kV doc pm an cdv ct us hl⟩
  sc := hsc
  n := hn
  blt := fun x hx => by
    have hm := bn_list hx
    obtain ⟨i, hi, e⟩ := List.mem_iff_getElem.1 hm
    have e2 : (faOf tab)[tab.length + i]? = some (He.Fa.free x) := by
      unfold faOf
      rw [List.getElem?_append_right (by simp), List.length_map, Nat.add_sub_cancel_left, List.getElem?_map]
      show Option.map _ (bnames[i]?) = _
      rw [show bnames[i]? = some x from by rw [← e]; exact List.getElem?_eq_getElem hi]
      rfl
    exact He.free_ok KX G (c.fact _ e2)
  con := fun x d h => nomatch h
end PyD

set_option Elab.async false
set_option linter.all false
set_option maxRecDepth 100000
set_option maxHeartbeats 4000000
open PySem PyD
namespace K00
def top (i : Nat) : Stmt := PySem.Challenge.pw_endswithpapers_k00_likings.main.body.getD i (.Pass ⟨0, 0, 0, 0⟩)
abbrev d_liking_of : Df := ⟨"liking_of", top 1, ["points", "steps", "point"], ["points"], ⟨1, .sh, false⟩⟩
abbrev d_lower : Df := ⟨"lower", top 2, ["liking", "outcome", "other"], ["liking", "outcome"], ⟨2, .sh, false⟩⟩
abbrev d_better : Df := ⟨"better", top 3, ["liking", "outcome", "other"], ["liking", "outcome"], ⟨2, .sh, false⟩⟩
abbrev d_on_top : Df := ⟨"on_top", top 4, ["liking", "outcome", "members", "member"], ["liking", "outcome", "members"], ⟨3, .sh, false⟩⟩
abbrev d_top : Df := ⟨"top", top 5, ["liking", "members", "member"], ["liking", "members"], ⟨2, .sh, false⟩⟩
abbrev d_law_row : Df := ⟨"_law_row", top 7, ["script", "at", "size", "limit", "cell", "digits", "first", "row", "index", "second"], ["script", "at", "size", "limit"], ⟨4, .lst .sh, false⟩⟩
abbrev d_law_level : Df := ⟨"_law_level", top 8, ["points", "point", "seen", "other"], ["points", "point"], ⟨2, .sh, false⟩⟩
abbrev d_law_same : Df := ⟨"_law_same", top 9, ["told", "due", "index"], ["told", "due"], ⟨2, .sh, false⟩⟩
abbrev d_law_highest : Df := ⟨"_law_highest", top 10, ["liking", "members", "highest", "member"], ["liking", "members"], ⟨2, .lst .sh, false⟩⟩
abbrev d_law : Df := ⟨"law", top 11, ["script", "shape", "outcomes", "points", "kept", "due", "drawn", "members", "liking", "outcome", "told", "below", "above", "beaten", "answer", "number", "point", "index", "member"], ["script"], ⟨1, .sh, false⟩⟩
def tab : List Df := [d_liking_of, d_lower, d_better, d_on_top, d_top, d_law_row, d_law_level, d_law_same, d_law_highest, d_law]
def gl : Str → Option D := fun _ => none
def b_liking_of (c : Str → List D → R D) : Ex := seqV [
  (demS [] (setS 1 (blE .sorted (blE .set (varB 0))))),
  (demS [0] (retS (blE .tuple (compE (.seq (frzE (varE 0))) 2 yesT (frzE (idxE (varB 1) (varB 2))) [2]))))]
theorem e_liking_of (c : Str → List D → R D) : bodyOf (tbOf tab gl c d_liking_of) (top 1) = b_liking_of c := by kernel_rfl
def b_lower (c : Str → List D → R D) : Ex := seqV [
  (demS [1] (retS (blE .tuple (compE (.range (blE .len (varB 0))) 2 (blT (cmpE .LtE (subE (varB 0) (varE 2)) (subE (varB 0) (varE 1)))) (frzE (varE 2)) [2]))))]
theorem e_lower (c : Str → List D → R D) : bodyOf (tbOf tab gl c d_lower) (top 2) = b_lower c := by kernel_rfl
def b_better (c : Str → List D → R D) : Ex := seqV [
  (demS [1] (retS (blE .tuple (compE (.range (blE .len (varB 0))) 2 (blT (cmpE .Gt (subE (varB 0) (varE 2)) (subE (varB 0) (varE 1)))) (frzE (varE 2)) [2]))))]
theorem e_better (c : Str → List D → R D) : bodyOf (tbOf tab gl c d_better) (top 3) = b_better c := by kernel_rfl
def b_on_top (c : Str → List D → R D) : Ex := seqV [
  (demS [2] (forS 3 (.seq (frzE (varE 2))) (seqV [(demS [3, 1] (ifS (blT (cmpE .Gt (subE (varB 0) (varE 3)) (subE (varB 0) (varE 1)))) (seqV [(demS [] (retS (litE (.bl false))))]) (seqV [])))]))),
  (demS [] (retS (litE (.bl true))))]
theorem e_on_top (c : Str → List D → R D) : bodyOf (tbOf tab gl c d_on_top) (top 4) = b_on_top c := by kernel_rfl
def b_top (c : Str → List D → R D) : Ex := seqV [
  (demS [1] (retS (blE .tuple (compE (.seq (frzE (varE 1))) 2 (truE (callV c "on_top" ⟨3, .sh, false⟩ [(varB 0), (varB 2), (varB 1)])) (frzE (varE 2)) [2]))))]
theorem e_top (c : Str → List D → R D) : bodyOf (tbOf tab gl c d_top) (top 5) = b_top c := by kernel_rfl
def b_law_row (c : Str → List D → R D) : Ex := seqV [
  (demS [] (setS 4 (litE (.int 0)))),
  (demS [] (ifS (blT (cmpE .Lt (varB 1) (blE .len (varB 0)))) (seqV [(demS [1] (setS 4 (blE .abs (subE (varB 0) (varE 1)))))]) (seqV []))),
  (demS [] (setS 5 (cmpE .GtE (varB 4) (binE .Pow (litE (.int 10)) (litE (.int 18)))))),
  (demS [] (setS 6 (binE .Mod (blE .int (binE .Add (binE .Add (binE .Mult (varB 4) (litE (.int 48271))) (binE .Mult (varB 1) (litE (.int 69621)))) (litE (.int 7)))) (litE (.int 2147483647))))),
  (demS [] (setS 7 (lstV []))),
  (demS [] (forS 8 (.range (varB 2)) (seqV [(demS [5] (ifS (andT (truE (varB 5)) (blT (cmpE .Gt (varB 4) (litE (.int 0))))) (seqV [(demS [] (appS 7 (frzE (binE .Mod (blE .int (varB 4)) (varB 3))))), (demS [] (setS 4 (binE .FloorDiv (varB 4) (varB 3))))]) (seqV [(demS [] (setS 6 (binE .Mod (blE .int (binE .Add (binE .Mult (varB 6) (litE (.int 48271))) (litE (.int 11)))) (litE (.int 2147483647))))), (demS [] (setS 9 (binE .Mod (blE .int (binE .Add (binE .Mult (varB 6) (litE (.int 69621))) (varB 8))) (litE (.int 2147483629))))), (demS [] (appS 7 (frzE (binE .Mod (blE .int (binE .FloorDiv (varB 9) (litE (.int 7)))) (varB 3)))))])))]))),
  (retS (varB 7))]
theorem e_law_row (c : Str → List D → R D) : bodyOf (tbOf tab gl c d_law_row) (top 7) = b_law_row c := by kernel_rfl
def b_law_level (c : Str → List D → R D) : Ex := seqV [
  (demS [] (setS 2 (lstV []))),
  (demS [0] (forS 3 (.seq (frzE (varE 0))) (seqV [(demS [] (ifS (andT (blT (cmpE .Lt (varB 3) (varB 1))) (blT (cmpE .NotIn (varB 3) (varB 2)))) (seqV [(demS [3] (appS 2 (frzE (varE 3))))]) (seqV [])))]))),
  (demS [] (retS (blE .len (varB 2))))]
theorem e_law_level (c : Str → List D → R D) : bodyOf (tbOf tab gl c d_law_level) (top 8) = b_law_level c := by kernel_rfl
def b_law_same (c : Str → List D → R D) : Ex := seqV [
  (demS [] (ifS (orT (notT (truE (isiE (varB 0) "tuple"))) (blT (cmpE .NotEq (blE .len (varB 0)) (blE .len (varB 1))))) (seqV [(demS [] (retS (litE (.bl false))))]) (seqV []))),
  (demS [] (forS 2 (.range (blE .len (varB 1))) (seqV [(demS [2, 2] (ifS (orT (notT (truE (isiE (subE (varB 0) (varE 2)) "int"))) (truE (isiE (subE (varB 0) (varE 2)) "bool"))) (seqV [(demS [] (retS (litE (.bl false))))]) (seqV []))), (demS [2, 2] (ifS (blT (cmpE .NotEq (subE (varB 0) (varE 2)) (subE (varB 1) (varE 2)))) (seqV [(demS [] (retS (litE (.bl false))))]) (seqV [])))]))),
  (demS [] (retS (litE (.bl true))))]
theorem e_law_same (c : Str → List D → R D) : bodyOf (tbOf tab gl c d_law_same) (top 9) = b_law_same c := by kernel_rfl
def b_law_highest (c : Str → List D → R D) : Ex := seqV [
  (demS [] (ifS (blT (cmpE .Eq (blE .len (varB 1)) (litE (.int 0)))) (seqV [(demS [] (retS (lstV [])))]) (seqV []))),
  (demS [1] (setS 2 (blE .max (compE (.seq (frzE (varE 1))) 3 yesT (frzE (subS (varB 0) (varE 3))) [3])))),
  (demS [1] (retS (compE (.seq (frzE (varE 1))) 3 (blT (cmpE .Eq (subE (varB 0) (varE 3)) (varB 2))) (frzE (varE 3)) [3])))]
theorem e_law_highest (c : Str → List D → R D) : bodyOf (tbOf tab gl c d_law_highest) (top 10) = b_law_highest c := by kernel_rfl
def b_law (c : Str → List D → R D) : Ex := seqV [
  (demS [] (setS 1 (callV c "_law_row" ⟨4, .lst .sh, false⟩ [(varB 0), (litE (.int 0)), (litE (.int 4)), (litE (.int 5040))]))),
  (demS [] (setS 2 (binE .Add (litE (.int 1)) (binE .Mod (blE .int (subE (varB 1) (litE (.int 0)))) (litE (.int 8)))))),
  (demS [] (setS 3 (compE (.seq (frzE (callV c "_law_row" ⟨4, .lst .sh, false⟩ [(varB 0), (litE (.int 1)), (varB 2), (litE (.int 5040))]))) 15 yesT (frzE (binE .Sub (binE .Mod (blE .int (varB 15)) (litE (.int 8))) (litE (.int 2)))) [15]))),
  (demS [] (ifS (blT (cmpE .Eq (binE .Mod (blE .int (subE (varB 1) (litE (.int 1)))) (litE (.int 3))) (litE (.int 1)))) (seqV [(demS [3] (setS 3 (compE (.seq (frzE (varE 3))) 16 yesT (frzE (binE .Sub (binE .Mult (varB 16) (binE .Pow (litE (.int 10)) (litE (.int 40)))) (litE (.int 7)))) [16])))]) (seqV []))),
  (demS [] (setS 4 (blE .list (varB 3)))),
  (demS [4] (setS 5 (compE (.seq (frzE (varE 4))) 16 yesT (frzE (callV c "_law_level" ⟨2, .sh, false⟩ [(varB 4), (varB 16)])) [16]))),
  (demS [] (ifS (blT (cmpE .Eq (binE .Mod (blE .int (subE (varB 1) (litE (.int 2)))) (litE (.int 2))) (litE (.int 0)))) (seqV [(demS [] (setS 10 (callV c "liking_of" ⟨1, .sh, false⟩ [(varB 3)])))]) (seqV [(demS [] (setS 10 (callV c "liking_of" ⟨1, .sh, false⟩ [(blE .tuple (varB 3))])))]))),
  (demS [] (ifS (orT (notT (truE (callV c "_law_same" ⟨2, .sh, false⟩ [(varB 10), (varB 5)]))) (blT (cmpE .NotEq (varB 3) (varB 4)))) (seqV [(demS [] (retS (litE (.bl false))))]) (seqV []))),
  (demS [] (setS 6 (callV c "_law_row" ⟨4, .lst .sh, false⟩ [(varB 0), (litE (.int 2)), (varB 2), (litE (.int 5040))]))),
  (demS [] (setS 7 (blE .tuple (compE (.range (varB 2)) 17 (blT (cmpE .Eq (binE .Mod (blE .int (subE (varB 6) (varE 17))) (litE (.int 2))) (litE (.int 1)))) (frzE (varE 17)) [17])))),
  (demS [] (setS 8 (blE .tuple (varB 5)))),
  (demS [] (ifS (notT (truE (callV c "_law_same" ⟨2, .sh, false⟩ [(callV c "top" ⟨2, .sh, false⟩ [(varB 8), (varB 7)]), (callV c "_law_highest" ⟨2, .lst .sh, false⟩ [(varB 5), (varB 7)])]))) (seqV [(demS [] (retS (litE (.bl false))))]) (seqV []))),
  (demS [] (forS 9 (.range (varB 2)) (seqV [(demS [9] (setS 11 (compE (.range (varB 2)) 17 (blT (cmpE .LtE (subE (varB 5) (varE 17)) (subE (varB 5) (varE 9)))) (frzE (varE 17)) [17]))), (demS [9] (setS 12 (compE (.range (varB 2)) 17 (blT (cmpE .Gt (subE (varB 5) (varE 17)) (subE (varB 5) (varE 9)))) (frzE (varE 17)) [17]))), (demS [] (ifS (orT (notT (truE (callV c "_law_same" ⟨2, .sh, false⟩ [(callV c "lower" ⟨2, .sh, false⟩ [(varB 8), (varB 9)]), (varB 11)]))) (notT (truE (callV c "_law_same" ⟨2, .sh, false⟩ [(callV c "better" ⟨2, .sh, false⟩ [(blE .list (varB 8)), (varB 9)]), (varB 12)])))) (seqV [(demS [] (retS (litE (.bl false))))]) (seqV []))), (demS [7, 9] (setS 13 (cmpE .Gt (blE .len (compE (.seq (frzE (varE 7))) 18 (blT (cmpE .Gt (subE (varB 5) (varE 18)) (subE (varB 5) (varE 9)))) (frzE (varE 18)) [18])) (litE (.int 0))))), (demS [] (setS 14 (callV c "on_top" ⟨3, .sh, false⟩ [(varB 8), (varB 9), (varB 7)]))), (demS [] (ifS (andT (blT (cmpE .IsNot (varB 14) (litE (.bl true)))) (blT (cmpE .IsNot (varB 14) (litE (.bl false))))) (seqV [(demS [] (retS (litE (.bl false))))]) (seqV []))), (demS [] (ifS (blT (cmpE .Eq (varB 14) (varB 13))) (seqV [(demS [] (retS (litE (.bl false))))]) (seqV [])))]))),
  (demS [] (retS (litE (.bl true))))]
theorem e_law (c : Str → List D → R D) : bodyOf (tbOf tab gl c d_law) (top 11) = b_law c := by kernel_rfl
end K00

set_option Elab.async false
set_option linter.all false
set_option maxRecDepth 100000
set_option maxHeartbeats 1000000
open PySem PyD L2
namespace K00
abbrev C (n : Nat) := semAt tab gl n
theorem f_row (n : Nat) (script : List Int) (at' size : Nat) (hk : size < 1000) : ∃ r : List Int, r.length = size ∧ (∀ x ∈ r, 0 ≤ x ∧ x < 5040) ∧ C (n + 1) "_law_row" [I script, .int at', .int size, .int 5040] = .ok (I r) := by
  obtain ⟨r, h1, h2, h3⟩ := row_ok (script := script) (at' := at') (size := size) (limit := 5040) (by decide) (by decide) hk (N := d_law_row.N) rfl
  refine ⟨r, h1, h2, ?_⟩
  rw [C, semAt_fnd (d := d_law_row) (by kernel_rfl) (e_law_row _)]
  exact h3
/-- how many of the numbers are below -/
def lvl (ps : List Int) (p : Int) : Nat := ((sdI ps).filter fun y => decide (y < p)).length
def LevSt (ps : List Int) (p : Int) (pre : List Int) (env : DEnv) : Prop := ∃ (seen : List Int) (s3 : Option Sl), env = [some (.sh, I ps), some (.sh, .int p), some (.lst .sh, I seen), s3] ∧ seen.Nodup ∧ seen.length ≤ pre.length ∧ ∀ x, x ∈ seen ↔ x ∈ pre ∧ x < p
theorem f_level (n : Nat) (ps : List Int) (p : Int) (hl : ps.length < 1000) : C (n + 1) "_law_level" [I ps, .int p] = .ok (.int (lvl ps p)) := by
  rw [C, semAt_fnd (d := d_law_level) (by kernel_rfl) (e_law_level _)]
  have key := forD_all (i := 3) (body := seqV [(demS [] (ifS (andT (blT (cmpE .Lt (varB 3) (varB 1))) (blT (cmpE .NotIn (varB 3) (varB 2)))) (seqV [(demS [3] (appS 2 (frzE (varE 3))))]) (seqV [])))]) (LevSt ps p) D.int (xs := ps) (fun pre x post env e h => by
    obtain ⟨seen, s3, rfl, hn, hq, hm⟩ := h
    refine ⟨by simp, ?_⟩
    by_cases c : x < p ∧ x ∉ seen
    · have hs : seen.length < sizeLine := by
        have := congrArg List.length e
        simp at this
        exact Nat.lt_of_lt_of_le (by omega : seen.length < 1000) (by decide)
      refine ⟨[some (.sh, I ps), some (.sh, .int p), some (.lst .sh, I (seen ++ [x])), some (.sh, .int x)], .inl ?_, _, _, rfl, ?_, by simpa using hq, ?_⟩
      · simp [seqV, demS, dem, dem1, setSlot, ifS, andT, varB, varE, R.bind, blT, cmpE, cmpD, inD_ints, appS, frzE, Sl.asSh, c.1, c.2, hs]
      · rw [List.nodup_append]
        exact ⟨hn, by simp, fun a ha b hb => by rw [List.mem_singleton.1 hb]; intro z; exact c.2 (z ▸ ha)⟩
      · intro y
        rw [List.mem_append, List.mem_append, hm, List.mem_singleton]
        constructor
        · rintro (⟨a, b⟩ | a)
          · exact ⟨.inl a, b⟩
          · subst a; exact ⟨.inr rfl, c.1⟩
        · rintro ⟨a | a, b⟩
          · exact .inl ⟨a, b⟩
          · exact .inr a
    · refine ⟨[some (.sh, I ps), some (.sh, .int p), some (.lst .sh, I seen), some (.sh, .int x)], .inl ?_, _, _, rfl, hn, by simp; omega, ?_⟩
      · by_cases d : x < p
        · have : x ∈ seen := by
            by_cases z : x ∈ seen
            · exact z
            · exact absurd ⟨d, z⟩ c
          simp [seqV, demS, dem, dem1, setSlot, ifS, andT, varB, varE, R.bind, blT, cmpE, cmpD, inD_ints, d, this]
        · simp [seqV, demS, dem, dem1, setSlot, ifS, andT, varB, varE, R.bind, blT, cmpE, cmpD, d]
      · intro y
        rw [hm, List.mem_append, List.mem_singleton]
        constructor
        · rintro ⟨a, b⟩
          exact ⟨.inl a, b⟩
        · rintro ⟨a | a, b⟩
          · exact ⟨a, b⟩
          · subst a
            have : y ∈ seen := by
              by_cases z : y ∈ seen
              · exact z
              · exact absurd ⟨b, z⟩ c
            exact (hm y).1 this) (env := [some (.sh, I ps), some (.sh, .int p), some (.lst .sh, I []), none]) ⟨[], none, rfl, List.nodup_nil, by simp, by simp⟩
  obtain ⟨env', hf, seen, s3, rfl, hn, _, hm⟩ := key
  have hlen : seen.length = lvl ps p := sub_len hn ((sdI_nodup ps).filter _) fun x => by
    rw [hm, List.mem_filter, sdI_mem]
    simp
  have hb : b_law_level (C n) [some (.sh, I ps), some (.sh, .int p), none, none] = .ok (.rt (.sh, .int seen.length)) := by
    unfold b_law_level
    refine seqV_set (.lst .sh, I []) (by simp [dem, lstV, evsE, R.bind]) (by simp [dem]) ?_
    refine seqV_step [some (.sh, I ps), some (.sh, .int p), some (.lst .sh, I seen), s3] ?_ ?_
    · show demS [0] (forS 3 _ _) [some (.sh, I ps), some (.sh, .int p), some (.lst .sh, I []), none] = _
      unfold demS forS
      have e : (Src.seq (frzE (varE 0))).run (dem [0] [some (.sh, I ps), some (.sh, .int p), some (.lst .sh, I []), none]) = .ok (ps.map D.int) := rfl
      rw [e, R.bind_ok]
      exact hf
    · refine seqV_end _ ?_
      simp [dem, blE, varB, R.bind, blD]
  rw [runD_ok (fl := .rt (.sh, .int seen.length)) rfl hb, finF_int rfl, hlen]
theorem f_liking (n : Nat) (ps : List Int) (b : Bool) (hl : ps.length < 60) : C (n + 1) "liking_of" [if b then I ps else .tup (ps.map D.int)] = .ok (.tup (ps.map fun p => nD (lvl ps p))) := by
  rw [C, semAt_fnd (d := d_liking_of) (by kernel_rfl) (e_liking_of _)]
  have hit : items (if b then I ps else .tup (ps.map D.int)) = some (ps.map D.int) := by cases b <;> rfl
  have hs : sizeLine = 16777216 := rfl
  have hb : b_liking_of (C n) [some (.sh, if b then I ps else .tup (ps.map D.int)), none, none] = .ok (.rt (.sh, .tup (ps.map fun p => nD (lvl ps p)))) := by
    unfold b_liking_of
    have e1 : blE .sorted (blE .set (varB 0)) [some (.sh, if b then I ps else .tup (ps.map D.int)), none, none] = .ok (.lst .sh, I (sdI ps)) := by
      have : (sdI ps).length < 64 := Nat.lt_of_le_of_lt (sdI_len ps) (by omega)
      have sb : ps.length + 1 < scanBound := Nat.lt_of_lt_of_le (by omega : ps.length + 1 < 64) (by decide)
      simp [blE, varB, R.bind, blD, hit, intsOf_map, sb, this]
    refine seqV_set _ e1 (by simp [dem]) ?_
    refine seqV_end _ ?_
    unfold blE
    have e2 : (Src.seq (frzE (varE 0))).run (dem [0] ([some (.sh, if b then I ps else .tup (ps.map D.int)), some (.lst .sh, I (sdI ps)), none])) = .ok (ps.map D.int) := by
      simp [Src.run, dem, dem1, frzE, varE, varB, R.bind, Sl.asSh, iterD, Ow.isSh, hit]
    show (compE (.seq (frzE (varE 0))) 2 yesT (frzE (idxE (varB 1) (varB 2))) [2] (dem [0] [some (.sh, if b then I ps else .tup (ps.map D.int)), some (.lst .sh, I (sdI ps)), none])).bind _ = _
    rw [compE_all D.int (fun p => nD (lvl ps p)) ps e2 (by omega) (by simp [dem, dem1]) ?_, R.bind_ok]
    · rfl
    · intro x hx
      have hm : x ∈ sdI ps := sdI_mem.2 hx
      have := indexD_sorted 0 (sdI_sorted ps) hm
      simp [frzE, idxE, varB, dem, dem1, wipeD, setSlot, R.bind, D.vf, vfs_ints, this, lvl]
  rw [runD_ok (fl := .rt (.sh, .tup (ps.map fun p => nD (lvl ps p)))) rfl hb]
  have e : (ps.map fun p => nD (lvl ps p)) = (ps.map fun p => (lvl ps p : Int)).map D.int := by rw [List.map_map]; rfl
  rw [e, finF_tupI rfl]
end K00

set_option Elab.async false
set_option linter.all false
set_option maxRecDepth 100000
set_option maxHeartbeats 1000000
open PySem PyD L2
namespace K00
theorem sl_eq : sizeLine = 16777216 := rfl
theorem nD_map (ms : List Nat) : ms.map nD = (ms.map fun n : Nat => (n : Int)).map D.int := by rw [List.map_map]; rfl
theorem f_same (n : Nat) (xs : List Int) (hl : xs.length < 1000) : C (n + 1) "_law_same" [.tup (xs.map D.int), I xs] = .ok (.bl true) := by
  rw [C, semAt_fnd (d := d_law_same) (by kernel_rfl) (e_law_same _)]
  have key := forD_all (i := 2) (body := seqV [(demS [2, 2] (ifS (orT (notT (truE (isiE (subE (varB 0) (varE 2)) "int"))) (truE (isiE (subE (varB 0) (varE 2)) "bool"))) (seqV [(demS [] (retS (litE (.bl false))))]) (seqV []))), (demS [2, 2] (ifS (blT (cmpE .NotEq (subE (varB 0) (varE 2)) (subE (varB 1) (varE 2)))) (seqV [(demS [] (retS (litE (.bl false))))]) (seqV [])))]) (fun _ env => ∃ s2, env = [some (.sh, .tup (xs.map D.int)), some (.sh, I xs), s2]) nD (xs := List.range xs.length) (fun pre x post env e h => by
    obtain ⟨s2, rfl⟩ := h
    have hx : x < xs.length := by
      have : x ∈ List.range xs.length := by rw [e]; simp
      simpa using this
    refine ⟨by simp, [some (.sh, .tup (xs.map D.int)), some (.sh, I xs), some (.sh, nD x)], .inl ?_, _, rfl⟩
    simp [seqV, demS, dem, dem1, setSlot, ifS, orT, notT, truE, isiE, subE, varB, varE, R.bind, Sl.asSh, subD_tup hx, subD_lst hx, isiD_int_int, isiD_int_bool, truD, blT, cmpE, cmpD, eqD]) (env := [some (.sh, .tup (xs.map D.int)), some (.sh, I xs), none]) ⟨none, rfl⟩
  obtain ⟨env', hf, s2, rfl⟩ := key
  have hb : b_law_same (C n) [some (.sh, .tup (xs.map D.int)), some (.sh, I xs), none] = .ok (.rt (.sh, .bl true)) := by
    unfold b_law_same
    refine seqV_no (by simp [dem, orT, notT, truE, isiE, varB, R.bind, isiD_tuple, truD, blT, cmpE, blE, blD, cmpD, eqD]) ?_
    refine seqV_step [some (.sh, .tup (xs.map D.int)), some (.sh, I xs), s2] ?_ ?_
    · show forS 2 _ _ [some (.sh, .tup (xs.map D.int)), some (.sh, I xs), none] = _
      unfold forS
      rw [range_run (n := xs.length) (by simp [blE, varB, R.bind, blD]) (by omega), R.bind_ok]
      exact hf
    · exact seqV_end _ rfl
  rw [runD_ok (fl := .rt (.sh, .bl true)) rfl hb, finF_bl rfl]
def v (due : List Int) (m : Nat) : Int := due.getD m 0
def ontop (due : List Int) (ms : List Nat) (j : Nat) : Bool := !(ms.any fun m => decide (v due j < v due m))
theorem f_on_top (n : Nat) (due : List Int) (j : Nat) (ms : List Nat) (hj : j < due.length) (hm : ∀ m ∈ ms, m < due.length) : C (n + 1) "on_top" [.tup (due.map D.int), nD j, .tup (ms.map nD)] = .ok (.bl (ontop due ms j)) := by
  rw [C, semAt_fnd (d := d_on_top) (by kernel_rfl) (e_on_top _)]
  have key := forD_findM (i := 3) (body := (seqV [(demS [3, 1] (ifS (blT (cmpE .Gt (subE (varB 0) (varE 3)) (subE (varB 0) (varE 1)))) (seqV [(demS [] (retS (litE (.bl false))))]) (seqV [])))])) (fun env => ∃ s3, env = [some (.sh, .tup (due.map D.int)), some (.sh, nD j), some (.sh, .tup (ms.map nD)), s3]) nD (fun m => decide (v due j < v due m)) (.sh, .bl false) (xs := ms) (env := [some (.sh, .tup (due.map D.int)), some (.sh, nD j), some (.sh, .tup (ms.map nD)), none]) (fun x hx env h => by
    obtain ⟨s3, rfl⟩ := h
    have hx := hm x hx
    refine ⟨by simp, fun hp => ⟨[some (.sh, .tup (due.map D.int)), some (.sh, nD j), some (.sh, .tup (ms.map nD)), some (.sh, nD x)], .inl ?_, _, rfl⟩, fun hp => ?_⟩
    · have hp : ¬ (due.getD j 0 < due.getD x 0) := by simpa [v] using hp
      have e : decide (due.getD j 0 < due.getD x 0) = false := decide_eq_false hp
      simp only [seqV, demS, dem, dem1, setSlot, ifS, blT, cmpE, subE, varB, varE, R.bind, Sl.asSh, List.set, List.getElem?_cons_succ, List.getElem?_cons_zero, subD_tup hx, subD_tup hj, cmpD, e]
      simp
    · have hp : (due.getD j 0 < due.getD x 0) := by simpa [v] using hp
      have e : decide (due.getD j 0 < due.getD x 0) = true := decide_eq_true hp
      simp only [seqV, demS, dem, dem1, setSlot, ifS, blT, cmpE, subE, varB, varE, R.bind, Sl.asSh, List.set, List.getElem?_cons_succ, List.getElem?_cons_zero, subD_tup hx, subD_tup hj, cmpD, e, retS]
      simp) ⟨none, rfl⟩
  have hb : b_on_top (C n) [some (.sh, .tup (due.map D.int)), some (.sh, nD j), some (.sh, .tup (ms.map nD)), none] = .ok (.rt (.sh, .bl (ontop due ms j))) := by
    unfold b_on_top ontop
    have e : (Src.seq (frzE (varE 2))).run (dem [2] [some (.sh, .tup (due.map D.int)), some (.sh, nD j), some (.sh, .tup (ms.map nD)), none]) = .ok (ms.map nD) := rfl
    cases c : ms.any fun m => decide (v due j < v due m) with
    | true =>
      refine seqV_ret ?_
      unfold demS forS
      rw [e, R.bind_ok]
      exact key.1 c
    | false =>
      obtain ⟨env', hf, s3, rfl⟩ := key.2 c
      refine seqV_step [some (.sh, .tup (due.map D.int)), some (.sh, nD j), some (.sh, .tup (ms.map nD)), s3] ?_ (seqV_end _ rfl)
      unfold demS forS
      rw [e, R.bind_ok]
      exact hf
  rw [runD_ok (fl := .rt (.sh, .bl (ontop due ms j))) rfl hb, finF_bl rfl]
theorem f_top (n : Nat) (due : List Int) (ms : List Nat) (hm : ∀ m ∈ ms, m < due.length) (hl : ms.length < 1000) : C (n + 2) "top" [.tup (due.map D.int), .tup (ms.map nD)] = .ok (.tup ((ms.filter (ontop due ms)).map nD)) := by
  rw [C, semAt_fnd (d := d_top) (by kernel_rfl) (e_top _)]
  have hb : b_top (C (n + 1)) [some (.sh, .tup (due.map D.int)), some (.sh, .tup (ms.map nD)), none] = .ok (.rt (.sh, .tup ((ms.filter (ontop due ms)).map nD))) := by
    unfold b_top
    refine seqV_end _ ?_
    unfold blE
    show R.bind (compE _ _ _ _ _ [some (.sh, .tup (due.map D.int)), some (.sh, .tup (ms.map nD)), none]) _ = _
    rw [compE_map nD (ontop due ms) nD ms rfl (by rw [sl_eq]; omega) (by simp) (fun x hx => ?_) (fun x hx _ => ?_), R.bind_ok]
    · rfl
    · have := f_on_top n due x ms (hm x hx) hm
      simp [truE, callV, evsE, varB, wipeD, setSlot, R.bind, this, truD]
    · simp [frzE, varE, varB, wipeD, setSlot, R.bind, Sl.asSh]
  rw [runD_ok (fl := .rt (.sh, .tup ((ms.filter (ontop due ms)).map nD))) rfl hb, nD_map, finF_tupI rfl]
theorem maxI_ok : ∀ (ns : List Int) (n : Int), (maxI n ns = n ∨ maxI n ns ∈ ns) ∧ n ≤ maxI n ns ∧ ∀ x ∈ ns, x ≤ maxI n ns
  | [], n => ⟨.inl rfl, Int.le_refl _, fun _ h => nomatch h⟩
  | m :: r, n => by
    have ih := maxI_ok r (if n < m then m else n)
    unfold maxI
    refine ⟨?_, ?_, fun x hx => ?_⟩
    · rcases ih.1 with h | h
      · rw [h]
        split
        · exact .inr List.mem_cons_self
        · exact .inl rfl
      · exact .inr (List.mem_cons_of_mem _ h)
    · refine Int.le_trans ?_ ih.2.1
      split <;> omega
    · rcases List.mem_cons.1 hx with h | h
      · subst h
        refine Int.le_trans ?_ ih.2.1
        split <;> omega
      · exact ih.2.2 x h
theorem f_highest (n : Nat) (due : List Int) (ms : List Nat) (hm : ∀ m ∈ ms, m < due.length) (hl : ms.length < 1000) : C (n + 1) "_law_highest" [I due, .tup (ms.map nD)] = .ok (.lst ((ms.filter (ontop due ms)).map nD)) := by
  rw [C, semAt_fnd (d := d_law_highest) (by kernel_rfl) (e_law_highest _)]
  have hb : b_law_highest (C n) [some (.sh, I due), some (.sh, .tup (ms.map nD)), none, none] = .ok (.rt (.lst .sh, .lst ((ms.filter (ontop due ms)).map nD))) := by
    unfold b_law_highest
    cases ms with
    | nil =>
      refine seqV_yes (.lst .sh, .lst []) ?_ ?_
      · simp [dem, blT, cmpE, blE, varB, R.bind, blD, cmpD, eqD]
      · simp [dem, lstV, evsE, R.bind]
    | cons m r =>
      refine seqV_no ?_ ?_
      · have : ¬ ((r.length : Int) + 1 = 0) := by omega
        simp [dem, blT, cmpE, blE, varB, R.bind, blD, cmpD, eqD, this]
      · have e1 : blE .max (compE (.seq (frzE (varE 1))) 3 yesT (frzE (subS (varB 0) (varE 3))) [3]) [some (.sh, I due), some (.sh, .tup ((m :: r).map nD)), none, none] = .ok (.sh, .int (maxI (v due m) (r.map (v due)))) := by
          unfold blE
          rw [compE_all nD (fun m => D.int (v due m)) (m :: r) rfl (by rw [sl_eq]; omega) (by simp) (fun x hx => ?_), R.bind_ok]
          · have : (m :: r).map (fun m => D.int (v due m)) = ((m :: r).map (v due)).map D.int := by rw [List.map_map]; rfl
            rw [this]
            unfold blD
            simp only
            rw [intsOf_map]
            rfl
          · have hx := hm x hx
            simp only [frzE, subS, subE, varE, varB, wipeD, setSlot, R.bind, Sl.asSh, List.set, List.getElem?_cons_succ, List.getElem?_cons_zero, subD_lst hx]
            rfl
        refine seqV_set _ e1 (by simp [dem, dem1]) ?_
        refine seqV_end _ ?_
        show compE _ _ _ _ _ [some (.sh, I due), some (.sh, .tup ((m :: r).map nD)), some (.sh, .int (maxI (v due m) (r.map (v due)))), none] = _
        have mx := maxI_ok (r.map (v due)) (v due m)
        have e2 : (m :: r).filter (ontop due (m :: r)) = (m :: r).filter (fun x => decide (v due x = maxI (v due m) (r.map (v due)))) := by
          refine List.filter_congr fun x hx => ?_
          unfold ontop
          have bnd : ∀ y ∈ m :: r, v due y ≤ maxI (v due m) (r.map (v due)) := fun y hy => by
            rcases List.mem_cons.1 hy with h | h
            · subst h; exact mx.2.1
            · exact mx.2.2 _ (List.mem_map_of_mem h)
          have att : ∃ y ∈ m :: r, v due y = maxI (v due m) (r.map (v due)) := by
            rcases mx.1 with h | h
            · exact ⟨m, List.mem_cons_self, h.symm⟩
            · obtain ⟨y, hy, e⟩ := List.mem_map.1 h
              exact ⟨y, List.mem_cons_of_mem _ hy, e⟩
          by_cases c : v due x = maxI (v due m) (r.map (v due))
          · rw [decide_eq_true c]
            simp only [Bool.not_eq_true', List.any_eq_false, decide_eq_true_eq]
            intro y hy
            have := bnd y hy
            omega
          · rw [decide_eq_false c]
            simp only [Bool.not_eq_false', List.any_eq_true, decide_eq_true_eq]
            obtain ⟨y, hy, e⟩ := att
            exact ⟨y, hy, by have := bnd x hx; omega⟩
        rw [e2]
        refine compE_map nD (fun x => decide (v due x = maxI (v due m) (r.map (v due)))) nD (m :: r) rfl (by rw [sl_eq]; omega) (by simp) (fun x hx => ?_) (fun x hx _ => ?_)
        · have hx := hm x hx
          simp only [blT, cmpE, subE, varE, varB, wipeD, setSlot, R.bind, Sl.asSh, List.set, List.getElem?_cons_succ, List.getElem?_cons_zero, subD_lst hx, cmpD, eqD]
          rfl
        · simp [frzE, varE, varB, wipeD, setSlot, R.bind, Sl.asSh]
  rw [runD_ok (fl := .rt (.lst .sh, .lst ((ms.filter (ontop due ms)).map nD))) rfl hb, nD_map, finF_lstI rfl]
/-- the outcomes at a side of one -/
theorem f_side (n : Nat) (due : List Int) (j : Nat) (hj : j < due.length) (hl : due.length < 1000) : C (n + 1) "lower" [.tup (due.map D.int), nD j] = .ok (.tup (((List.range due.length).filter fun m => decide (v due m ≤ v due j)).map nD)) := by
  rw [C, semAt_fnd (d := d_lower) (by kernel_rfl) (e_lower _)]
  have hb : b_lower (C n) [some (.sh, .tup (due.map D.int)), some (.sh, nD j), none] = .ok (.rt (.sh, .tup (((List.range due.length).filter fun m => decide (v due m ≤ v due j)).map nD))) := by
    unfold b_lower
    refine seqV_end _ ?_
    unfold blE
    show R.bind (compE _ _ _ _ _ [some (.sh, .tup (due.map D.int)), some (.sh, nD j), none]) _ = _
    rw [compE_map nD (fun m => decide (v due m ≤ v due j)) nD (List.range due.length) ?_ (by rw [List.length_range, sl_eq]; omega) (by simp) (fun x hx => ?_) (fun x hx _ => ?_), R.bind_ok]
    · rfl
    · exact range_run (n := due.length) (by simp [blE, varB, R.bind, blD]) (by omega)
    · have hx : x < due.length := by simpa using hx
      simp only [blT, cmpE, subE, varE, varB, wipeD, setSlot, R.bind, Sl.asSh, List.set, List.getElem?_cons_succ, List.getElem?_cons_zero, subD_tup hx, subD_tup hj, cmpD]
      rfl
    · simp [frzE, varE, varB, wipeD, setSlot, R.bind, Sl.asSh]
  refine (runD_ok (fl := .rt (.sh, .tup (((List.range due.length).filter fun m => decide (v due m ≤ v due j)).map nD))) (by simp) (by exact hb)).trans ?_
  rw [nD_map]
  exact finF_tupI rfl
theorem f_better (n : Nat) (due : List Int) (j : Nat) (hj : j < due.length) (hl : due.length < 1000) : C (n + 1) "better" [I due, nD j] = .ok (.tup (((List.range due.length).filter fun m => decide (v due j < v due m)).map nD)) := by
  rw [C, semAt_fnd (d := d_better) (by kernel_rfl) (e_better _)]
  have hb : b_better (C n) [some (.sh, I due), some (.sh, nD j), none] = .ok (.rt (.sh, .tup (((List.range due.length).filter fun m => decide (v due j < v due m)).map nD))) := by
    unfold b_better
    refine seqV_end _ ?_
    unfold blE
    show R.bind (compE _ _ _ _ _ [some (.sh, I due), some (.sh, nD j), none]) _ = _
    rw [compE_map nD (fun m => decide (v due j < v due m)) nD (List.range due.length) ?_ (by rw [List.length_range, sl_eq]; omega) (by simp) (fun x hx => ?_) (fun x hx _ => ?_), R.bind_ok]
    · rfl
    · exact range_run (n := due.length) (by simp [blE, varB, R.bind, blD]) (by omega)
    · have hx : x < due.length := by simpa using hx
      simp only [blT, cmpE, subE, varE, varB, wipeD, setSlot, R.bind, Sl.asSh, List.set, List.getElem?_cons_succ, List.getElem?_cons_zero, subD_lst hx, subD_lst hj, cmpD]
      rfl
    · simp [frzE, varE, varB, wipeD, setSlot, R.bind, Sl.asSh]
  refine (runD_ok (fl := .rt (.sh, .tup (((List.range due.length).filter fun m => decide (v due j < v due m)).map nD))) (by simp) (by exact hb)).trans ?_
  rw [nD_map]
  exact finF_tupI rfl
end K00

set_option Elab.async false
set_option linter.all false
set_option maxRecDepth 100000
set_option maxHeartbeats 1000000
open PySem PyD L2
namespace K00
abbrev EE (s0 s1 s2 s3 s4 s5 s6 s7 s8 s9 s10 s11 s12 s13 s14 : Option Sl) : DEnv := [s0, s1, s2, s3, s4, s5, s6, s7, s8, s9, s10, s11, s12, s13, s14, none, none, none, none]
abbrev oI (ns : List Int) : Option Sl := some (.lst .sh, I ns)
abbrev sN (n : Nat) : Option Sl := some (.sh, nD n)
abbrev sT (ns : List D) : Option Sl := some (.sh, .tup ns)
theorem bit_ok {x : Int} : 0 ≤ x.fmod 8 ∧ x.fmod 8 < 8 := ⟨Int.fmod_nonneg_of_pos _ (by decide), Int.fmod_lt_of_pos _ (by decide)⟩
section
variable (n : Nat) (script shape : List Int) (hs4 : shape.length = 4) (m : Nat) (hm8 : m < 60)
include hs4 in
theorem s_sub (j : Nat) (hj : j < 4) : subD (.lst .sh, I shape) (.int (j : Int)) = .ok (.sh, .int (shape.getD j 0)) := subD_lst (by omega)
/-- the points -/
theorem s_points (ps1 : List Int) (h1 : ∀ x ∈ ps1, -3 < x ∧ x < 10) (hl : ps1.length = m) (k : R Fl) (r : List Ex) (hs4 : shape.length = 4) (hm8 : m < 60)
    (next : ∀ ps : List Int, ps.length = m → seqV r (EE (some (.sh, I script)) (oI shape) (sN m) (oI ps) none none none none none none none none none none none) = k) :
    seqV ((demS [] (ifS (blT (cmpE .Eq (binE .Mod (blE .int (subE (varB 1) (litE (.int 1)))) (litE (.int 3))) (litE (.int 1)))) (seqV [(demS [3] (setS 3 (compE (.seq (frzE (varE 3))) 16 yesT (frzE (binE .Sub (binE .Mult (varB 16) (binE .Pow (litE (.int 10)) (litE (.int 40)))) (litE (.int 7)))) [16])))]) (seqV []))) :: r) (EE (some (.sh, I script)) (oI shape) (sN m) (oI ps1) none none none none none none none none none none none) = k := by
  have e1 : (blT (cmpE .Eq (binE .Mod (blE .int (subE (varB 1) (litE (.int 1)))) (litE (.int 3))) (litE (.int 1)))) (EE (some (.sh, I script)) (oI shape) (sN m) (oI ps1) none none none none none none none none none none none) = .ok (decide ((shape.getD 1 0).fmod 3 = 1)) := by
    have := s_sub shape hs4 1 (by decide)
    simp only [blT, cmpE, binE, blE, subE, varB, litE, R.bind, List.getElem?_cons_succ, List.getElem?_cons_zero]
    rw [show (D.int 1) = D.int ((1 : Nat) : Int) from rfl, this]
    simp [blD, binD, cmpD, eqD]
  by_cases c : (shape.getD 1 0).fmod 3 = 1
  · rw [decide_eq_true c] at e1
    refine seqV_step (EE (some (.sh, I script)) (oI shape) (sN m) (oI (ps1.map fun x => x * 10 ^ 40 - 7)) none none none none none none none none none none none) ?_ (next _ (by simp [hl]))
    refine (demS_nil _ _).trans ((ifS_true e1).trans ?_)
    refine seqV_set (.lst .sh, I (ps1.map fun x => x * 10 ^ 40 - 7)) ?_ (by simp [dem, dem1]) rfl
    rw [compE_all D.int (fun x => D.int (x * 10 ^ 40 - 7)) ps1 rfl (by rw [sl_eq]; omega) (by simp [dem, dem1]) (fun x hx => ?_)]
    · simp only [I, List.map_map]; rfl
    · have hx := h1 x hx
      have mo : mulOk x 10000000000000000000000000000000000000000 = true := mulOk_a ⟨by omega, by omega⟩
      simp [frzE, binE, litE, R.bind, binD, varB, dem, dem1, wipeD, setSlot, mo]
  · rw [decide_eq_false c] at e1
    exact seqV_no e1 (next ps1 hl)
/-- the outcomes, one by one -/
def loopBody (c : Str → List D → R D) : Ex := (seqV [(demS [9] (setS 11 (compE (.range (varB 2)) 17 (blT (cmpE .LtE (subE (varB 5) (varE 17)) (subE (varB 5) (varE 9)))) (frzE (varE 17)) [17]))), (demS [9] (setS 12 (compE (.range (varB 2)) 17 (blT (cmpE .Gt (subE (varB 5) (varE 17)) (subE (varB 5) (varE 9)))) (frzE (varE 17)) [17]))), (demS [] (ifS (orT (notT (truE (callV c "_law_same" ⟨2, .sh, false⟩ [(callV c "lower" ⟨2, .sh, false⟩ [(varB 8), (varB 9)]), (varB 11)]))) (notT (truE (callV c "_law_same" ⟨2, .sh, false⟩ [(callV c "better" ⟨2, .sh, false⟩ [(blE .list (varB 8)), (varB 9)]), (varB 12)])))) (seqV [(demS [] (retS (litE (.bl false))))]) (seqV []))), (demS [7, 9] (setS 13 (cmpE .Gt (blE .len (compE (.seq (frzE (varE 7))) 18 (blT (cmpE .Gt (subE (varB 5) (varE 18)) (subE (varB 5) (varE 9)))) (frzE (varE 18)) [18])) (litE (.int 0))))), (demS [] (setS 14 (callV c "on_top" ⟨3, .sh, false⟩ [(varB 8), (varB 9), (varB 7)]))), (demS [] (ifS (andT (blT (cmpE .IsNot (varB 14) (litE (.bl true)))) (blT (cmpE .IsNot (varB 14) (litE (.bl false))))) (seqV [(demS [] (retS (litE (.bl false))))]) (seqV []))), (demS [] (ifS (blT (cmpE .Eq (varB 14) (varB 13))) (seqV [(demS [] (retS (litE (.bl false))))]) (seqV [])))])
theorem loop_test (n : Nat) (env : DEnv) (due : List Int) (j : Nat) (lo hi : List Int) (h8 : varB 8 env = .ok (.sh, .tup (due.map D.int))) (h9 : varB 9 env = .ok (.sh, nD j)) (h11 : varB 11 env = .ok (.lst .sh, I lo)) (h12 : varB 12 env = .ok (.lst .sh, I hi)) (hl : blE .list (varB 8) env = .ok (.lst .sh, I due))
    (g1 : C n "lower" [D.tup (List.map D.int due), nD j] = .ok (.tup (lo.map D.int))) (g2 : C n "better" [I due, nD j] = .ok (.tup (hi.map D.int))) (g3 : C n "_law_same" [.tup (lo.map D.int), I lo] = .ok (.bl true)) (g4 : C n "_law_same" [.tup (hi.map D.int), I hi] = .ok (.bl true)) :
    (orT (notT (truE (callV (C n) "_law_same" ⟨2, .sh, false⟩ [(callV (C n) "lower" ⟨2, .sh, false⟩ [(varB 8), (varB 9)]), (varB 11)]))) (notT (truE (callV (C n) "_law_same" ⟨2, .sh, false⟩ [(callV (C n) "better" ⟨2, .sh, false⟩ [(blE .list (varB 8)), (varB 9)]), (varB 12)])))) env = .ok false := by
  have a1 : callV (C n) "lower" ⟨2, .sh, false⟩ [(varB 8), (varB 9)] env = .ok (.sh, .tup (lo.map D.int)) := callV_ok (xs := [(.sh, .tup (due.map D.int)), (.sh, nD j)]) (evsE_cons h8 (evsE_cons h9 evsE_nil)) rfl rfl g1
  have a2 : callV (C n) "better" ⟨2, .sh, false⟩ [(blE .list (varB 8)), (varB 9)] env = .ok (.sh, .tup (hi.map D.int)) := callV_ok (xs := [(.lst .sh, I due), (.sh, nD j)]) (evsE_cons hl (evsE_cons h9 evsE_nil)) rfl rfl g2
  have b1 := truE_bl (callV_ok (c := C n) (f := "_law_same") (g := ⟨2, .sh, false⟩) (xs := [(.sh, .tup (lo.map D.int)), (.lst .sh, I lo)]) (evsE_cons a1 (evsE_cons h11 evsE_nil)) rfl rfl g3)
  have b2 := truE_bl (callV_ok (c := C n) (f := "_law_same") (g := ⟨2, .sh, false⟩) (xs := [(.sh, .tup (hi.map D.int)), (.lst .sh, I hi)]) (evsE_cons a2 (evsE_cons h12 evsE_nil)) rfl rfl g4)
  exact orT_no (notT_ok b1) (notT_ok b2)
theorem loop_step (n : Nat) (s0 s1 s3 s4 s6 s10 s11 s12 s13 s14 : Option Sl) (due : List Int) (ms : List Nat) (j : Nat) (hj : j < due.length) (hd : due.length < 60) (hm : ∀ m ∈ ms, m < due.length) (hml : ms.length < 60) : ∃ s11' s12' s13' s14', loopBody (C (n + 2)) (EE s0 s1 (sN due.length) s3 s4 (oI due) s6 (sT (ms.map nD)) (sT (due.map D.int)) (sN j) s10 s11 s12 s13 s14) = .ok (.nx (EE s0 s1 (sN due.length) s3 s4 (oI due) s6 (sT (ms.map nD)) (sT (due.map D.int)) (sN j) s10 s11' s12' s13' s14')) := by
  refine ⟨oI (((List.range due.length).filter fun x => decide (v due x ≤ v due j)).map fun x : Nat => (x : Int)), oI (((List.range due.length).filter fun x => decide (v due j < v due x)).map fun x : Nat => (x : Int)), some (.sh, .bl (ms.any fun x => decide (v due j < v due x))), some (.sh, .bl (ontop due ms j)), ?_⟩
  have lowlen : ∀ p : Nat → Bool, (((List.range due.length).filter p).map fun x : Nat => (x : Int)).length < 1000 := fun p => by
    have := List.length_filter_le p (List.range due.length)
    rw [List.length_range] at this
    rw [List.length_map]
    omega
  have g1 := f_side (n + 1) due j hj (by omega)
  have g2 := f_better (n + 1) due j hj (by omega)
  have g3 := f_on_top (n + 1) due j ms hj hm
  rw [nD_map] at g1 g2
  have g4 := fun p => f_same (n + 1) _ (lowlen p)
  unfold loopBody
  refine seqV_set (.lst .sh, I (((List.range due.length).filter fun x => decide (v due x ≤ v due j)).map fun x : Nat => (x : Int))) ?_ (by simp [dem, dem1]) ?_
  · show compE _ _ _ _ _ (EE s0 s1 (sN due.length) s3 s4 (oI due) s6 (sT (ms.map nD)) (sT (due.map D.int)) (sN j) s10 s11 s12 s13 s14) = _
    rw [compE_map nD (fun x => decide (v due x ≤ v due j)) nD (List.range due.length) ?_ (by rw [List.length_range, sl_eq]; omega) (by simp) (fun x hx => ?_) (fun x hx _ => ?_), nD_map]
    · exact range_run (n := due.length) (by simp [varB]) (by omega)
    · have hx : x < due.length := by simpa using hx
      simp only [blT, cmpE, subE, varE, varB, wipeD, setSlot, R.bind, Sl.asSh, List.set, List.getElem?_cons_succ, List.getElem?_cons_zero, subD_lst hx, subD_lst hj, cmpD]
      rfl
    · simp [frzE, varE, varB, wipeD, setSlot, R.bind, Sl.asSh]
  show seqV _ (EE s0 s1 (sN due.length) s3 s4 (oI due) s6 (sT (ms.map nD)) (sT (due.map D.int)) (sN j) s10 (oI (((List.range due.length).filter fun x => decide (v due x ≤ v due j)).map fun x : Nat => (x : Int))) s12 s13 s14) = _
  refine seqV_set (.lst .sh, I (((List.range due.length).filter fun x => decide (v due j < v due x)).map fun x : Nat => (x : Int))) ?_ (by simp [dem, dem1]) ?_
  · show compE _ _ _ _ _ (EE s0 s1 (sN due.length) s3 s4 (oI due) s6 (sT (ms.map nD)) (sT (due.map D.int)) (sN j) s10 _ s12 s13 s14) = _
    rw [compE_map nD (fun x => decide (v due j < v due x)) nD (List.range due.length) ?_ (by rw [List.length_range, sl_eq]; omega) (by simp) (fun x hx => ?_) (fun x hx _ => ?_), nD_map]
    · exact range_run (n := due.length) (by simp [varB]) (by omega)
    · have hx : x < due.length := by simpa using hx
      simp only [blT, cmpE, subE, varE, varB, wipeD, setSlot, R.bind, Sl.asSh, List.set, List.getElem?_cons_succ, List.getElem?_cons_zero, subD_lst hx, subD_lst hj, cmpD]
      rfl
    · simp [frzE, varE, varB, wipeD, setSlot, R.bind, Sl.asSh]
  show seqV _ (EE s0 s1 (sN due.length) s3 s4 (oI due) s6 (sT (ms.map nD)) (sT (due.map D.int)) (sN j) s10 (oI (((List.range due.length).filter fun x => decide (v due x ≤ v due j)).map fun x : Nat => (x : Int))) (oI (((List.range due.length).filter fun x => decide (v due j < v due x)).map fun x : Nat => (x : Int))) s13 s14) = _
  refine seqV_no ?_ ?_
  · exact loop_test (n + 2) _ due j _ _ rfl rfl rfl rfl rfl g1 g2 (g4 _) (g4 _)
  show seqV _ (EE s0 s1 (sN due.length) s3 s4 (oI due) s6 (sT (ms.map nD)) (sT (due.map D.int)) (sN j) s10 (oI (((List.range due.length).filter fun x => decide (v due x ≤ v due j)).map fun x : Nat => (x : Int))) (oI (((List.range due.length).filter fun x => decide (v due j < v due x)).map fun x : Nat => (x : Int))) s13 s14) = _
  refine seqV_set (.sh, .bl (ms.any fun x => decide (v due j < v due x))) ?_ (by simp [dem, dem1]) ?_
  · show cmpE _ _ _ (EE s0 s1 (sN due.length) s3 s4 (oI due) s6 (sT (ms.map nD)) (sT (due.map D.int)) (sN j) s10 _ _ s13 s14) = _
    unfold cmpE blE
    rw [compE_map nD (fun x => decide (v due j < v due x)) nD ms rfl (by rw [sl_eq]; omega) (by simp) (fun x hx => ?_) (fun x hx _ => ?_), R.bind_ok]
    · simp only [blD, R.bind_ok, litE, cmpD, List.length_map, any_len]
    · have hx := hm x hx
      simp only [blT, cmpE, subE, varE, varB, wipeD, setSlot, R.bind, Sl.asSh, List.set, List.getElem?_cons_succ, List.getElem?_cons_zero, subD_lst hx, subD_lst hj, cmpD]
      rfl
    · simp [frzE, varE, varB, wipeD, setSlot, R.bind, Sl.asSh]
  refine seqV_set (.sh, .bl (ontop due ms j)) ?_ (by simp [dem, dem1]) ?_
  · simp [dem, dem1, callV, evsE, varB, R.bind, g3]
  refine seqV_no ?_ ?_
  · cases ontop due ms j <;> simp [dem, dem1, andT, blT, cmpE, varB, litE, R.bind, cmpD, isD]
  refine seqV_no ?_ rfl
  unfold ontop
  cases (ms.any fun x => decide (v due j < v due x)) <;> simp [dem, dem1, blT, cmpE, varB, litE, R.bind, cmpD, eqD]
end
end K00

set_option Elab.async false
set_option linter.all false
set_option maxRecDepth 100000
set_option maxHeartbeats 1000000
open PySem PyD L2
namespace K00
theorem law_core (script : List Int) (c : Str → List D → R D)
    (hrow : ∀ (a s : Int) (at' size : Nat), a = at' → s = size → size < 1000 → ∃ r : List Int, r.length = size ∧ c "_law_row" [I script, .int a, .int s, .int 5040] = .ok (I r))
    (hlev : ∀ (ps : List Int) (x : Int), ps.length < 1000 → c "_law_level" [I ps, .int x] = .ok (.int (lvl ps x)))
    (hlik : ∀ (ps : List Int) (b : Bool), ps.length < 60 → c "liking_of" [if b then I ps else .tup (ps.map D.int)] = .ok (.tup (ps.map fun p => nD (lvl ps p))))
    (sm : ∀ xs : List Int, xs.length < 1000 → c "_law_same" [.tup (xs.map D.int), I xs] = .ok (.bl true))
    (htop : ∀ (due : List Int) (ms : List Nat), (∀ m ∈ ms, m < due.length) → ms.length < 1000 → c "top" [.tup (due.map D.int), .tup (ms.map nD)] = .ok (.tup ((ms.filter (ontop due ms)).map nD)))
    (hhi : ∀ (due : List Int) (ms : List Nat), (∀ m ∈ ms, m < due.length) → ms.length < 1000 → c "_law_highest" [I due, .tup (ms.map nD)] = .ok (.lst ((ms.filter (ontop due ms)).map nD)))
    (hloop : ∀ (s0 s1 s3 s4 s6 s10 s11 s12 s13 s14 : Option Sl) (due : List Int) (ms : List Nat) (j : Nat), j < due.length → due.length < 60 → (∀ m ∈ ms, m < due.length) → ms.length < 60 → ∃ s11' s12' s13' s14', loopBody c (EE s0 s1 (sN due.length) s3 s4 (oI due) s6 (sT (ms.map nD)) (sT (due.map D.int)) (sN j) s10 s11 s12 s13 s14) = .ok (.nx (EE s0 s1 (sN due.length) s3 s4 (oI due) s6 (sT (ms.map nD)) (sT (due.map D.int)) (sN j) s10 s11' s12' s13' s14'))) :
    b_law c (EE (some (.sh, I script)) none none none none none none none none none none none none none none) = .ok (.rt (.sh, .bl true)) := by
  obtain ⟨shape, hs4, g1⟩ := hrow 0 4 0 4 rfl rfl (by decide)
  have f0 : subD (.lst .sh, I shape) (.int 0) = .ok (.sh, .int (shape.getD 0 0)) := s_sub shape hs4 0 (by decide)
  have f2 : subD (.lst .sh, I shape) (.int 2) = .ok (.sh, .int (shape.getD 2 0)) := s_sub shape hs4 2 (by decide)
  have hm : ∃ m : Nat, m < 60 ∧ 1 + (shape.getD 0 0).fmod 8 = (m : Int) := by
    have h := bit_ok (x := shape.getD 0 0)
    exact ⟨(1 + (shape.getD 0 0).fmod 8).toNat, by omega, by omega⟩
  obtain ⟨m, hm60, hm⟩ := hm
  obtain ⟨r1, hr1, g2⟩ := hrow 1 m 1 m rfl rfl (by omega)
  obtain ⟨drawn, hr2, g3⟩ := hrow 2 m 2 m rfl rfl (by omega)
  unfold b_law
  refine seqV_set (.lst .sh, I shape) (callV_ok (xs := [(.sh, I script), (.sh, .int 0), (.sh, .int 4), (.sh, .int 5040)]) rfl rfl rfl g1) (by simp [dem]) ?_
  refine seqV_set (.sh, nD m) ?_ (by simp [dem]) ?_
  · show _ = R.ok (Ow.sh, D.int (m : Int))
    rw [← hm]
    simp [binE, blE, subE, varB, litE, R.bind, dem, f0, blD, binD]
  refine seqV_set (.lst .sh, I (r1.map fun x => x.fmod 8 - 2)) ?_ (by simp [dem]) ?_
  · rw [compE_all D.int (fun x => D.int (x.fmod 8 - 2)) r1 ?_ (by rw [sl_eq]; omega) (by simp [dem]) (fun x hx => ?_)]
    · simp only [I, List.map_map]; rfl
    · have := callV_ok (c := c) (f := "_law_row") (g := ⟨4, .lst .sh, false⟩) (env := EE (some (.sh, I script)) (oI shape) (sN m) none none none none none none none none none none none none) (es := [(varB 0), (litE (.int 1)), (varB 2), (litE (.int 5040))]) (xs := [(.sh, I script), (.sh, .int 1), (.sh, nD m), (.sh, .int 5040)]) rfl rfl rfl g2
      show (R.bind (frzE _ (EE (some (.sh, I script)) (oI shape) (sN m) none none none none none none none none none none none none)) iterD) = _
      unfold frzE
      rw [this]
      rfl
    · simp [frzE, binE, blE, varB, litE, R.bind, dem, wipeD, setSlot, blD, binD]
  show seqV _ (EE (some (.sh, I script)) (oI shape) (sN m) (oI (r1.map fun x => x.fmod 8 - 2)) none none none none none none none none none none none) = _
  have hpt : ∀ x ∈ (r1.map fun x => x.fmod 8 - 2), -3 < x ∧ x < 10 := fun x hx => by
    obtain ⟨y, _, rfl⟩ := List.mem_map.1 hx
    have := bit_ok (x := y)
    omega
  have hpl : (r1.map fun x => x.fmod 8 - 2).length = m := by rw [List.length_map, hr1]
  have sp := s_points script shape m (r1.map fun x => x.fmod 8 - 2) hpt hpl
  refine sp _ _ hs4 hm60 fun ps hps => ?_
  have hdl : (ps.map fun p => (lvl ps p : Int)).length = m := by simp [hps]
  have dueD : (ps.map fun p => nD (lvl ps p)) = (ps.map fun p => (lvl ps p : Int)).map D.int := by rw [List.map_map]; rfl
  refine seqV_set (.lst .sh, I ps) ?_ (by simp [dem]) ?_
  · simp [blE, varB, R.bind, dem, blD, Ow.flat, Ow.isSh]
  refine seqV_set (.lst .sh, I (ps.map fun p => (lvl ps p : Int))) ?_ (by simp [dem, dem1]) ?_
  · rw [compE_all D.int (fun p => nD (lvl ps p)) ps rfl (by rw [sl_eq]; omega) (by simp [dem, dem1]) (fun x hx => ?_), dueD]
    have := hlev ps x (by omega)
    unfold frzE
    rw [callV_ok (xs := [(.sh, I ps), (.sh, .int x)]) rfl rfl rfl this]
    rfl
  -- what the program tells
  have told : ∀ b : Bool, c "liking_of" [if b then I ps else .tup (ps.map D.int)] = .ok (.tup ((ps.map fun p => (lvl ps p : Int)).map D.int)) := fun b => by
    rw [← dueD]
    exact hlik ps b (by omega)
  refine seqV_step (EE (some (.sh, I script)) (oI shape) (sN m) (oI ps) (some (.sh, I ps)) (oI (ps.map fun p => (lvl ps p : Int))) none none none none (sT ((ps.map fun p => (lvl ps p : Int)).map D.int)) none none none none) ?_ ?_
  · show demS [] _ (EE (some (.sh, I script)) (oI shape) (sN m) (oI ps) (some (.sh, I ps)) (oI (ps.map fun p => (lvl ps p : Int))) none none none none none none none none none) = _
    have e1 : (blT (cmpE .Eq (binE .Mod (blE .int (subE (varB 1) (litE (.int 2)))) (litE (.int 2))) (litE (.int 0)))) (EE (some (.sh, I script)) (oI shape) (sN m) (oI ps) (some (.sh, I ps)) (oI (ps.map fun p => (lvl ps p : Int))) none none none none none none none none none) = .ok (decide ((shape.getD 2 0).fmod 2 = 0)) := by
      simp [blT, cmpE, binE, blE, subE, varB, litE, R.bind, f2, blD, binD, cmpD, eqD]
    by_cases c2 : (shape.getD 2 0).fmod 2 = 0
    · rw [decide_eq_true c2] at e1
      refine (demS_nil _ _).trans ((ifS_true e1).trans ?_)
      exact seqV_set (.sh, .tup ((ps.map fun p => (lvl ps p : Int)).map D.int)) (callV_ok (xs := [(.lst .sh, I ps)]) rfl rfl rfl (told true)) (by simp [dem]) rfl
    · rw [decide_eq_false c2] at e1
      refine (demS_nil _ _).trans ((ifS_false e1).trans ?_)
      exact seqV_set (.sh, .tup ((ps.map fun p => (lvl ps p : Int)).map D.int)) (callV_ok (xs := [(.sh, .tup (ps.map D.int))]) rfl rfl rfl (told false)) (by simp [dem]) rfl
  generalize hdue : (ps.map fun p => (lvl ps p : Int)) = due at hdl ⊢
  refine seqV_no ?_ ?_
  · refine orT_no (notT_ok (truE_bl (callV_ok (c := c) (f := "_law_same") (g := ⟨2, .sh, false⟩) (xs := [(.sh, .tup (due.map D.int)), (.lst .sh, I due)]) (evsE_cons rfl (evsE_cons rfl evsE_nil)) rfl rfl (sm due (by omega))))) ?_
    show blT (cmpE _ _ _) (EE (some (.sh, I script)) (oI shape) (sN m) (oI ps) (some (.sh, I ps)) (oI due) none none none none (sT (due.map D.int)) none none none none) = _
    simp only [blT, cmpE, varB, List.getElem?_cons_succ, List.getElem?_cons_zero, R.bind_ok, cmpD, eqD_ints]
    simp
  refine seqV_set (.lst .sh, I drawn) (callV_ok (xs := [(.sh, I script), (.sh, .int 2), (.sh, nD m), (.sh, .int 5040)]) rfl rfl rfl g3) (by simp [dem]) ?_
  obtain ⟨ms, hms⟩ : ∃ ms : List Nat, ms = (List.range m).filter fun j => decide ((drawn.getD j 0).fmod 2 = 1) := ⟨_, rfl⟩
  refine seqV_set (.sh, .tup (ms.map nD)) ?_ (by simp [dem]) ?_
  · show blE .tuple _ (EE (some (.sh, I script)) (oI shape) (sN m) (oI ps) (some (.sh, I ps)) (oI due) (oI drawn) none none none (sT (due.map D.int)) none none none none) = _
    unfold blE
    rw [compE_map nD (fun j => decide ((drawn.getD j 0).fmod 2 = 1)) nD (List.range m) ?_ (by rw [List.length_range, sl_eq]; omega) (by simp) (fun x hx => ?_) (fun x hx _ => ?_), R.bind_ok]
    · rw [hms]; rfl
    · exact range_run (n := m) rfl (by omega)
    · have hx : x < drawn.length := by rw [hr2]; simpa using hx
      have := subD_lst (o := .lst .sh) hx
      simp only [blT, cmpE, binE, blE, litE, subE, varE, varB, wipeD, setSlot, R.bind_ok, Sl.asSh, List.set, List.getElem?_cons_succ, List.getElem?_cons_zero, this, blD, binD]
      simp [cmpD, eqD]
    · simp [frzE, varE, varB, wipeD, setSlot, R.bind, Sl.asSh]
  have hmm : ∀ j ∈ ms, j < due.length := fun j hj => by
    rw [hms] at hj
    have := (List.mem_filter.1 hj).1
    rw [hdl]
    simpa using this
  have hml : ms.length < 60 := by
    have := List.length_filter_le (fun j => decide ((drawn.getD j 0).fmod 2 = 1)) (List.range m)
    rw [List.length_range] at this
    rw [hms]
    exact Nat.lt_of_le_of_lt this hm60
  refine seqV_set (.sh, .tup (due.map D.int)) rfl (by simp [dem]) ?_
  have g5 := htop due ms hmm (by omega)
  have g6 := hhi due ms hmm (by omega)
  rw [nD_map (ms.filter _)] at g5 g6
  have hfl : ((ms.filter (ontop due ms)).map fun x : Nat => (x : Int)).length < 1000 := by
    have := List.length_filter_le (ontop due ms) ms
    rw [List.length_map]
    omega
  refine seqV_no ?_ ?_
  · show notT _ (EE (some (.sh, I script)) (oI shape) (sN m) (oI ps) (some (.sh, I ps)) (oI due) (oI drawn) (sT (ms.map nD)) (sT (due.map D.int)) none (sT (due.map D.int)) none none none none) = _
    exact notT_ok (truE_bl (callV_ok (c := c) (f := "_law_same") (g := ⟨2, .sh, false⟩) (xs := [(.sh, .tup (((ms.filter (ontop due ms)).map fun x : Nat => (x : Int)).map D.int)), (.lst .sh, I ((ms.filter (ontop due ms)).map fun x : Nat => (x : Int)))])
      (evsE_cons (callV_ok (c := c) (f := "top") (g := ⟨2, .sh, false⟩) (xs := [(.sh, .tup (due.map D.int)), (.sh, .tup (ms.map nD))]) (evsE_cons rfl (evsE_cons rfl evsE_nil)) rfl rfl g5)
        (evsE_cons (callV_ok (c := c) (f := "_law_highest") (g := ⟨2, .lst .sh, false⟩) (xs := [(.lst .sh, I due), (.sh, .tup (ms.map nD))]) (evsE_cons rfl (evsE_cons rfl evsE_nil)) rfl rfl g6) evsE_nil)) rfl rfl (sm _ hfl)))
  subst hdl
  have key := forD_all (i := 9) (body := loopBody (c)) (fun _ env => ∃ s9 s11 s12 s13 s14, env = EE (some (.sh, I script)) (oI shape) (sN due.length) (oI ps) (some (.sh, I ps)) (oI due) (oI drawn) (sT (ms.map nD)) (sT (due.map D.int)) s9 (sT (due.map D.int)) s11 s12 s13 s14) nD (xs := List.range due.length) (fun pre x post env e h => by
    obtain ⟨s9, s11, s12, s13, s14, rfl⟩ := h
    have hx : x < due.length := by
      have : x ∈ List.range due.length := by rw [e]; simp
      simpa using this
    obtain ⟨a, b, c1, d, h⟩ := hloop (some (.sh, I script)) (oI shape) (oI ps) (some (.sh, I ps)) (oI drawn) (sT (due.map D.int)) s11 s12 s13 s14 due ms x hx hm60 hmm hml
    exact ⟨by simp, _, .inl h, _, a, b, c1, d, rfl⟩) ⟨none, none, none, none, none, rfl⟩
  obtain ⟨env', hf, s9, s11, s12, s13, s14, rfl⟩ := key
  refine seqV_step (EE (some (.sh, I script)) (oI shape) (sN due.length) (oI ps) (some (.sh, I ps)) (oI due) (oI drawn) (sT (ms.map nD)) (sT (due.map D.int)) s9 (sT (due.map D.int)) s11 s12 s13 s14) ?_ (seqV_end _ rfl)
  refine (demS_nil _ _).trans ?_
  unfold forS
  rw [range_run (n := due.length) rfl (by omega), R.bind_ok]
  exact hf
theorem law_ok (n : Nat) (script : List Int) : C (n + 3) "law" [I script] = .ok (.bl true) := by
  rw [C, semAt_fnd (d := d_law) (by kernel_rfl) (e_law _)]
  have hb := law_core script (C (n + 2)) (fun a s at' size ha hs hk => by
      obtain ⟨r, h1, _, h2⟩ := f_row (n + 1) script at' size hk
      rw [← ha, ← hs] at h2
      exact ⟨r, h1, h2⟩) (fun ps x h => f_level (n + 1) ps x h) (fun ps b h => f_liking (n + 1) ps b h) (fun xs h => f_same (n + 1) xs h) (fun due ms h1 h2 => f_top n due ms h1 h2) (fun due ms h1 h2 => f_highest (n + 1) due ms h1 h2)
    (fun s0 s1 s3 s4 s6 s10 s11 s12 s13 s14 due ms j h1 h2 h3 h4 => loop_step n s0 s1 s3 s4 s6 s10 s11 s12 s13 s14 due ms j h1 h2 h3 h4)
  refine (runD_ok (fl := .rt (.sh, .bl true)) (by simp) hb).trans ?_
  exact finF_bl rfl
end K00

set_option Elab.async false
set_option linter.all false
set_option maxRecDepth 100000
set_option maxHeartbeats 0
open PySem PyD L2
namespace K00
abbrev R0 : PySem.W.OpenRow := PySem.W.OpenLaw.row PySem.Challenge.rw_endswithpapers_k00_likings
abbrev fa : List He.Fa := faOf tab
abbrev fn : List He.DefD := fnOf tab
abbrev hk : PySem.W.Hook := He.hookD 4 fa fn
def ob (s : PySem.W.SharedT) : He.AlD := He.obsDG 4 fa fn (HandSHeadRun.getT s)
theorem ob_eq (s : PySem.W.SharedT) : ob s = hk.obs s.abs := He.obsDG_eq (HandSHeadRun.getT_eq s)
theorem run (w : World) : HandSHeadRun.RunEq R0 (PySem.W.view R0.prog [11]) hk ob 400 ["liking_of", "lower", "better", "on_top", "top", "_law_row", "_law_level", "_law_same", "_law_highest"] w := by
  intro os
  kernel_rfl
theorem bd_liking_of (qual : Str) (kV doc pm : Value) (an : Option Addr) (cdv ct : Value) (us : List Value) (hl : us.length = (d_liking_of).ps.length) : bindArgs (PySem.W.fnOf (d_liking_of).name qual (L2.defArgs (d_liking_of).st) (L2.defBody (d_liking_of).st) (L2.defScope (d_liking_of).st) .none kV doc pm an cdv ct) ⟨us, []⟩ = pure ((d_liking_of).ps.zip us) := match us, hl with | [_], _ => rfl
theorem sc_liking_of : FnScope (d_liking_of).N (d_liking_of).ps (L2.defScope (d_liking_of).st) := ⟨rfl, rfl, rfl, by decide +kernel, rfl, by decide +kernel, by decide +kernel⟩
theorem bd_lower (qual : Str) (kV doc pm : Value) (an : Option Addr) (cdv ct : Value) (us : List Value) (hl : us.length = (d_lower).ps.length) : bindArgs (PySem.W.fnOf (d_lower).name qual (L2.defArgs (d_lower).st) (L2.defBody (d_lower).st) (L2.defScope (d_lower).st) .none kV doc pm an cdv ct) ⟨us, []⟩ = pure ((d_lower).ps.zip us) := match us, hl with | [_, _], _ => rfl
theorem sc_lower : FnScope (d_lower).N (d_lower).ps (L2.defScope (d_lower).st) := ⟨rfl, rfl, rfl, by decide +kernel, rfl, by decide +kernel, by decide +kernel⟩
theorem bd_better (qual : Str) (kV doc pm : Value) (an : Option Addr) (cdv ct : Value) (us : List Value) (hl : us.length = (d_better).ps.length) : bindArgs (PySem.W.fnOf (d_better).name qual (L2.defArgs (d_better).st) (L2.defBody (d_better).st) (L2.defScope (d_better).st) .none kV doc pm an cdv ct) ⟨us, []⟩ = pure ((d_better).ps.zip us) := match us, hl with | [_, _], _ => rfl
theorem sc_better : FnScope (d_better).N (d_better).ps (L2.defScope (d_better).st) := ⟨rfl, rfl, rfl, by decide +kernel, rfl, by decide +kernel, by decide +kernel⟩
theorem bd_on_top (qual : Str) (kV doc pm : Value) (an : Option Addr) (cdv ct : Value) (us : List Value) (hl : us.length = (d_on_top).ps.length) : bindArgs (PySem.W.fnOf (d_on_top).name qual (L2.defArgs (d_on_top).st) (L2.defBody (d_on_top).st) (L2.defScope (d_on_top).st) .none kV doc pm an cdv ct) ⟨us, []⟩ = pure ((d_on_top).ps.zip us) := match us, hl with | [_, _, _], _ => rfl
theorem sc_on_top : FnScope (d_on_top).N (d_on_top).ps (L2.defScope (d_on_top).st) := ⟨rfl, rfl, rfl, by decide +kernel, rfl, by decide +kernel, by decide +kernel⟩
theorem bd_top (qual : Str) (kV doc pm : Value) (an : Option Addr) (cdv ct : Value) (us : List Value) (hl : us.length = (d_top).ps.length) : bindArgs (PySem.W.fnOf (d_top).name qual (L2.defArgs (d_top).st) (L2.defBody (d_top).st) (L2.defScope (d_top).st) .none kV doc pm an cdv ct) ⟨us, []⟩ = pure ((d_top).ps.zip us) := match us, hl with | [_, _], _ => rfl
theorem sc_top : FnScope (d_top).N (d_top).ps (L2.defScope (d_top).st) := ⟨rfl, rfl, rfl, by decide +kernel, rfl, by decide +kernel, by decide +kernel⟩
theorem bd__law_row (qual : Str) (kV doc pm : Value) (an : Option Addr) (cdv ct : Value) (us : List Value) (hl : us.length = (d_law_row).ps.length) : bindArgs (PySem.W.fnOf (d_law_row).name qual (L2.defArgs (d_law_row).st) (L2.defBody (d_law_row).st) (L2.defScope (d_law_row).st) .none kV doc pm an cdv ct) ⟨us, []⟩ = pure ((d_law_row).ps.zip us) := match us, hl with | [_, _, _, _], _ => rfl
theorem sc__law_row : FnScope (d_law_row).N (d_law_row).ps (L2.defScope (d_law_row).st) := ⟨rfl, rfl, rfl, by decide +kernel, rfl, by decide +kernel, by decide +kernel⟩
theorem bd__law_level (qual : Str) (kV doc pm : Value) (an : Option Addr) (cdv ct : Value) (us : List Value) (hl : us.length = (d_law_level).ps.length) : bindArgs (PySem.W.fnOf (d_law_level).name qual (L2.defArgs (d_law_level).st) (L2.defBody (d_law_level).st) (L2.defScope (d_law_level).st) .none kV doc pm an cdv ct) ⟨us, []⟩ = pure ((d_law_level).ps.zip us) := match us, hl with | [_, _], _ => rfl
theorem sc__law_level : FnScope (d_law_level).N (d_law_level).ps (L2.defScope (d_law_level).st) := ⟨rfl, rfl, rfl, by decide +kernel, rfl, by decide +kernel, by decide +kernel⟩
theorem bd__law_same (qual : Str) (kV doc pm : Value) (an : Option Addr) (cdv ct : Value) (us : List Value) (hl : us.length = (d_law_same).ps.length) : bindArgs (PySem.W.fnOf (d_law_same).name qual (L2.defArgs (d_law_same).st) (L2.defBody (d_law_same).st) (L2.defScope (d_law_same).st) .none kV doc pm an cdv ct) ⟨us, []⟩ = pure ((d_law_same).ps.zip us) := match us, hl with | [_, _], _ => rfl
theorem sc__law_same : FnScope (d_law_same).N (d_law_same).ps (L2.defScope (d_law_same).st) := ⟨rfl, rfl, rfl, by decide +kernel, rfl, by decide +kernel, by decide +kernel⟩
theorem bd__law_highest (qual : Str) (kV doc pm : Value) (an : Option Addr) (cdv ct : Value) (us : List Value) (hl : us.length = (d_law_highest).ps.length) : bindArgs (PySem.W.fnOf (d_law_highest).name qual (L2.defArgs (d_law_highest).st) (L2.defBody (d_law_highest).st) (L2.defScope (d_law_highest).st) .none kV doc pm an cdv ct) ⟨us, []⟩ = pure ((d_law_highest).ps.zip us) := match us, hl with | [_, _], _ => rfl
theorem sc__law_highest : FnScope (d_law_highest).N (d_law_highest).ps (L2.defScope (d_law_highest).st) := ⟨rfl, rfl, rfl, by decide +kernel, rfl, by decide +kernel, by decide +kernel⟩
theorem bd_law (qual : Str) (kV doc pm : Value) (an : Option Addr) (cdv ct : Value) (us : List Value) (hl : us.length = (d_law).ps.length) : bindArgs (PySem.W.fnOf (d_law).name qual (L2.defArgs (d_law).st) (L2.defBody (d_law).st) (L2.defScope (d_law).st) .none kV doc pm an cdv ct) ⟨us, []⟩ = pure ((d_law).ps.zip us) := match us, hl with | [_], _ => rfl
theorem sc_law : FnScope (d_law).N (d_law).ps (L2.defScope (d_law).st) := ⟨rfl, rfl, rfl, by decide +kernel, rfl, by decide +kernel, by decide +kernel⟩
theorem facts {P : Program} {w : World} {K : PySem.W.Frag} {mg : Str → Option Value} {h : Heap} (KX : K.In h) (G : h.Ns mainGlobals mg) (c : He.SaysD fa fn K) : Fx P w K mg ⟨K, w, fun _ => none⟩ tab gl := by
  refine Fx_of KX G c ?_ ?_ ?_
  · intro d hd
    simp only [tab, List.mem_cons, List.not_mem_nil, or_false] at hd
    rcases hd with rfl | rfl | rfl | rfl | rfl | rfl | rfl | rfl | rfl | rfl
    · exact bd_liking_of
    · exact bd_lower
    · exact bd_better
    · exact bd_on_top
    · exact bd_top
    · exact bd__law_row
    · exact bd__law_level
    · exact bd__law_same
    · exact bd__law_highest
    · exact bd_law
  · intro d hd
    simp only [tab, List.mem_cons, List.not_mem_nil, or_false] at hd
    rcases hd with rfl | rfl | rfl | rfl | rfl | rfl | rfl | rfl | rfl | rfl
    · exact sc_liking_of
    · exact sc_lower
    · exact sc_better
    · exact sc_on_top
    · exact sc_top
    · exact sc__law_row
    · exact sc__law_level
    · exact sc__law_same
    · exact sc__law_highest
    · exact sc_law
  · intro d hd
    simp only [tab, List.mem_cons, List.not_mem_nil, or_false] at hd
    rcases hd with rfl | rfl | rfl | rfl | rfl | rfl | rfl | rfl | rfl | rfl <;> rfl
end K00
open PySem PySem.W PySem.Calls PyProof.Rows
theorem PySem.Challenge.cw_endswithpapers_k00_likings_holds : PySem.Challenge.rw_endswithpapers_k00_likings.Holds := by
  w_on; o_law
  refine HandSHeadRun.head_any (r := OpenLaw.row PySem.Challenge.rw_endswithpapers_k00_likings) (q := view (OpenLaw.row PySem.Challenge.rw_endswithpapers_k00_likings).prog [11]) (H := K00.hk) (ob := K00.ob) (M := 400) (loose := ["liking_of", "lower", "better", "on_top", "top", "_law_row", "_law_level", "_law_same", "_law_highest"]) (d := HandSHeadRun.topDef (OpenLaw.row PySem.Challenge.rw_endswithpapers_k00_likings).prog 11) (kwd := []) K00.ob_eq
    (by kernel_rfl) (fun s => by kernel_rfl) K00.run (by kernel_rfl) (by kernel_rfl) (by kernel_rfl) (by rfl) (by first | assumption | decide +kernel) (by decide +kernel) ⟨rfl, rfl, rfl, rfl, rfl, by decide +kernel⟩ ?hw ?hc
  case hw => w_witness2
  case hc =>
    refine PyD.walkD (l := PySem.Challenge.rw_endswithpapers_k00_likings) (tab := K00.tab) (gl := K00.gl) (lev := 10) (dl := K00.d_law) rfl (by kernel_rfl) ⟨rfl, by decide, by decide⟩ (by kernel_rfl) (by kernel_rfl) (by kernel_rfl) rfl rfl (fun w mg h Y G => ?_) (fun kV doc pm an cdv ct qual us hl => K00.bd_law qual kV doc pm an cdv ct us hl) (fun ns _ => K00.law_ok _ ns)
    obtain ⟨K, KX, c⟩ := Y
    exact ⟨K, ⟨K, w, fun _ => none⟩, KX, K00.facts KX G c⟩

