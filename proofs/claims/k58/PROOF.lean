import PyProof.Rows.All
import Wide.All
import OpenK.AllK
import Wide.FinOn
import HandS.ForMost
import HandS.ForExc
import HandS.Evl
import HandS.Wide
import HandS.Deep
import HandS.IsInst
import HandS.RaiseMore
import HandS.Text
import PyProof.StrOps2
import HandS.Defaults
import HandS.CallSlots
import HandS.ExcCtx
import HandS.Iter
import HandS.ExcOwn
import HandS.TryOnly
import HandS.WordsExc
import HandS.HeadHook1
import HandS.HeadHook2
import Lean
import KE.KStateDown
import HandS.Ends
import HandS.Words
import HandS.Head0
import HandS.Head1
import HandS.Head2
import HandS.HeadEnd
import HandS.HotCalls
import HandS.ExcIs
import PySem.Challenge.RW_blindkeys_k58_hands_and_plays_written
set_option Elab.async false
set_option linter.all false
set_option autoImplicit false
set_option maxRecDepth 100000
set_option maxHeartbeats 0
/-! DBase: data as a whole (D), the state of a frame (W), how both stand in the abstract heap (Rep, Rel), a step of the state (Step). -/
namespace DL
open PySem L2 Evl

/-- data as a whole; ref k: the k-th mutable object of the store -/
inductive D where
  | non | bl (b : Bool) | int (i : Int) | str (s : Str) | lst (ds : List D) | tup (ds : List D) | dic | ref (k : Nat) | scr (ns : List Int) | raw (a : Addr)
instance : Inhabited D := ⟨.non⟩
/-- a mutable object -/
inductive MObj where
  | lst (ds : List D)
  | ins (c : Nat) (fs : List (Str × D))
/-- a slot: unset, a value, a list of one's own -/
inductive Slot where
  | un | val (d : D) | own (ds : List D)
instance : Inhabited Slot := ⟨.un⟩
/-- the state: slots, store, its next number -/
structure W where
  E : List Slot
  S : Nat → Option MObj
  n : Nat
/-- a result: a value, or a new list that nobody else knows -/
inductive R where
  | val (d : D) | own (ds : List D)
def R.d : R → D
  | .val d => d
  | .own ds => .lst ds
/-- an exception: its class's number, its field -/
structure Xn where
  c : Nat
  f : Option (Str × D) := none
inductive Res (α : Type) where
  | ok (a : α) (w : W)
  | exc (e : Xn) (w : W)
  | bad
abbrev M (α : Type) := W → Res α
namespace M
def ret {α : Type} (a : α) : M α := fun w => .ok a w
def bind {α β : Type} (m : M α) (f : α → M β) : M β := fun w => match m w with
  | .ok a w' => f a w'
  | .exc e w' => .exc e w'
  | .bad => .bad
def map {α β : Type} (g : α → β) (m : M α) : M β := fun w => match m w with
  | .ok a w' => .ok (g a) w'
  | .exc e w' => .exc e w'
  | .bad => .bad
def lift {α : Type} (o : Option α) : M α := fun w => match o with
  | some a => .ok a w
  | none => .bad
end M

/-! ### how data stands in the abstract heap -/
/-- a world: what the numbers of the store stand for, how many were given, the objects that never change -/
structure Wd where
  ρ : Nat → Addr
  n : Nat
  B : Hp
structure Wd.le (g g' : Wd) : Prop where
  n : g.n ≤ g'.n
  ρ : ∀ k, k < g.n → g'.ρ k = g.ρ k
  B : Ex g.B g'.B
theorem Wd.le.refl (g : Wd) : Wd.le g g := ⟨Nat.le_refl _, fun _ _ => rfl, Ex.refl _⟩
theorem Wd.le.trans {a b c : Wd} (h : Wd.le a b) (h' : Wd.le b c) : Wd.le a c :=
  ⟨Nat.le_trans h.n h'.n, fun k hk => (h'.ρ k (Nat.lt_of_lt_of_le hk h.n)).trans (h.ρ k hk), h.B.trans h'.B⟩
mutual
inductive Rep (K : PySem.W.Frag) (g : Wd) : V → D → Prop
  | non : Rep K g .non .non
  | bl (b : Bool) : Rep K g (.bl b) (.bl b)
  | int (i : Int) : Rep K g (.int i) (.int i)
  | str (s : Str) : Rep K g (.str s) (.str s)
  | lst {a : Addr} {vs : List V} {ds : List D} : g.B a = some (.lst vs) → Reps K g vs ds → Rep K g (.ref a) (.lst ds)
  | scr {a : Addr} {ns : List Int} : SqL K g.B a (ns.map V.int) → Rep K g (.ref a) (.scr ns)
  | tup {a : Addr} {vs : List V} {ds : List D} : SqT K g.B a vs → Reps K g vs ds → Rep K g (.ref a) (.tup ds)
  | dic {a : Addr} : g.B a = some (.dK []) → Rep K g (.ref a) .dic
  | ref {k : Nat} : k < g.n → Rep K g (.ref (g.ρ k)) (.ref k)
  | raw (a : Addr) : Rep K g (.ref a) (.raw a)
inductive Reps (K : PySem.W.Frag) (g : Wd) : List V → List D → Prop
  | nil : Reps K g [] []
  | cons {v : V} {vs : List V} {d : D} {ds : List D} : Rep K g v d → Reps K g vs ds → Reps K g (v :: vs) (d :: ds)
end
section
variable {K : PySem.W.Frag} {g g' : Wd}
mutual
theorem Rep.mono (h : Wd.le g g') : ∀ {v : V} {d : D}, Rep K g v d → Rep K g' v d
  | _, _, .non => .non
  | _, _, .bl b => .bl b
  | _, _, .int i => .int i
  | _, _, .str s => .str s
  | _, _, .lst a b => .lst (h.B _ _ a) (Reps.mono h b)
  | _, _, .scr a => .scr (ex_l h.B a)
  | _, _, .tup a b => .tup (ex_t h.B a) (Reps.mono h b)
  | _, _, .dic a => .dic (h.B _ _ a)
  | _, _, .raw a => .raw a
  | _, _, .ref (k := k) a => by
    rw [← h.ρ k a]
    exact .ref (Nat.lt_of_lt_of_le a h.n)
theorem Reps.mono (h : Wd.le g g') : ∀ {vs : List V} {ds : List D}, Reps K g vs ds → Reps K g' vs ds
  | _, _, .nil => .nil
  | _, _, .cons a b => .cons (Rep.mono h a) (Reps.mono h b)
end
theorem Reps.length : ∀ {vs : List V} {ds : List D}, Reps K g vs ds → vs.length = ds.length
  | _, _, .nil => rfl
  | _, _, .cons _ b => congrArg Nat.succ (Reps.length b)
theorem Reps.get : ∀ {vs : List V} {ds : List D} {i : Nat} {d : D}, Reps K g vs ds → ds[i]? = some d → ∃ v, vs[i]? = some v ∧ Rep K g v d
  | _, _, _, _, .nil, e => by simp at e
  | _, _, 0, _, .cons a _, e => by simp at e; subst e; exact ⟨_, rfl, a⟩
  | _, _, i + 1, d, .cons _ b, e => by
    obtain ⟨v, h1, h2⟩ := Reps.get (i := i) (d := d) b (by simpa using e)
    exact ⟨v, by simpa using h1, h2⟩
theorem Reps.getv : ∀ {vs : List V} {ds : List D} {i : Nat} {v : V}, Reps K g vs ds → vs[i]? = some v → ∃ d, ds[i]? = some d ∧ Rep K g v d
  | _, _, _, _, .nil, e => by simp at e
  | _, _, 0, _, .cons a _, e => by simp at e; subst e; exact ⟨_, rfl, a⟩
  | _, _, i + 1, v, .cons _ b, e => by
    obtain ⟨d, h1, h2⟩ := Reps.getv (i := i) (v := v) b (by simpa using e)
    exact ⟨d, by simpa using h1, h2⟩
theorem Reps.append : ∀ {vs ws : List V} {ds es : List D}, Reps K g vs ds → Reps K g ws es → Reps K g (vs ++ ws) (ds ++ es)
  | _, _, _, _, .nil, h => h
  | _, _, _, _, .cons a b, h => .cons a (Reps.append b h)
theorem Reps.set {v : V} {d : D} (r : Rep K g v d) : ∀ {vs : List V} {ds : List D} (i : Nat), Reps K g vs ds → Reps K g (vs.set i v) (ds.set i d)
  | _, _, _, .nil => .nil
  | _, _, 0, .cons _ b => .cons r b
  | _, _, i + 1, .cons a b => .cons a (Reps.set r i b)
theorem Reps.take : ∀ {vs : List V} {ds : List D} (n : Nat), Reps K g vs ds → Reps K g (vs.take n) (ds.take n)
  | _, _, 0, _ => .nil
  | _, _, _ + 1, .nil => .nil
  | _, _, n + 1, .cons a b => .cons a (Reps.take n b)
theorem Reps.drop : ∀ {vs : List V} {ds : List D} (n : Nat), Reps K g vs ds → Reps K g (vs.drop n) (ds.drop n)
  | _, _, 0, r => r
  | _, _, _ + 1, .nil => .nil
  | _, _, n + 1, .cons _ b => Reps.drop n b
theorem Reps.reverse {vs : List V} {ds : List D} (r : Reps K g vs ds) : Reps K g vs.reverse ds.reverse := by
  induction vs generalizing ds with
  | nil => cases r; exact .nil
  | cons v vs ih =>
    cases r with
    | cons a b =>
      rw [List.reverse_cons, List.reverse_cons]
      exact (ih b).append (.cons a .nil)
theorem Reps.eraseIdx : ∀ {vs : List V} {ds : List D} (i : Nat), Reps K g vs ds → Reps K g (vs.eraseIdx i) (ds.eraseIdx i)
  | _, _, _, .nil => .nil
  | _, _, 0, .cons _ b => b
  | _, _, i + 1, .cons a b => .cons a (Reps.eraseIdx i b)
theorem Reps.dropLast {vs : List V} {ds : List D} (r : Reps K g vs ds) : Reps K g vs.dropLast ds.dropLast := by
  rw [List.dropLast_eq_take, List.dropLast_eq_take, r.length]
  exact r.take _
theorem Reps.replicate {v : V} {d : D} (r : Rep K g v d) : ∀ n : Nat, Reps K g (List.replicate n v) (List.replicate n d)
  | 0 => .nil
  | n + 1 => .cons r (Reps.replicate r n)
theorem Reps.rep {vs : List V} {ds : List D} (r : Reps K g vs ds) : ∀ n : Nat, Reps K g (List.replicate n vs).flatten (List.replicate n ds).flatten
  | 0 => .nil
  | n + 1 => by
    rw [List.replicate_succ, List.replicate_succ, List.flatten_cons, List.flatten_cons]
    exact r.append (Reps.rep r n)
end

/-! ### the state -/
def MRep (K : PySem.W.Frag) (cm : Nat → Addr) (g : Wd) (H : Hp) (a : Addr) : MObj → Prop
  | .lst ds => ∃ vs, H a = some (.lst vs) ∧ Reps K g vs ds
  | .ins c fs => ∃ (dx : Addr) (us : List (Str × V)), H a = some (.ins (cm c) dx us) ∧ us.map (·.1) = fs.map (·.1) ∧ Reps K g (us.map (·.2)) (fs.map (·.2))
def SRep (K : PySem.W.Frag) (g : Wd) (H : Hp) (o : Option (Option V)) : Slot → Prop
  | .un => True
  | .val d => ∃ v, o = some (some v) ∧ Rep K g v d
  | .own ds => ∃ a vs, o = some (some (.ref a)) ∧ H a = some (.lst vs) ∧ g.B a = none ∧ Reps K g vs ds
/-- slot i holds a list of one's own, at a -/
def OwnAt (w : W) (σ : L2.St) (i : Nat) (a : Addr) : Prop := ∃ ds, w.E[i]? = some (.own ds) ∧ σ[i]? = some (some (.ref a))
def InSt (w : W) (g : Wd) (a : Addr) : Prop := ∃ k, w.S k ≠ none ∧ g.ρ k = a
/-- what may change -/
def Priv (w : W) (g : Wd) (σ : L2.St) (a : Addr) : Prop := InSt w g a ∨ ∃ i, OwnAt w σ i a
structure Rel (K : PySem.W.Frag) (cm : Nat → Addr) (g : Wd) (w : W) (σ : L2.St) (H : Hp) : Prop where
  nn : g.n = w.n
  ex : Ex g.B H
  len : σ.length = w.E.length
  slot : ∀ (i : Nat) (s : Slot), w.E[i]? = some s → SRep K g H (σ[i]?) s
  store : ∀ (k : Nat) (o : MObj), w.S k = some o → k < w.n ∧ g.B (g.ρ k) = none ∧ MRep K cm g H (g.ρ k) o
  sinj : ∀ (j k : Nat), w.S j ≠ none → w.S k ≠ none → g.ρ j = g.ρ k → j = k
  oinj : ∀ (i j : Nat) (a : Addr), OwnAt w σ i a → OwnAt w σ j a → i = j
  os : ∀ (i : Nat) (a : Addr) (k : Nat), OwnAt w σ i a → w.S k ≠ none → g.ρ k ≠ a
/-- from one state to a later one -/
structure Step (g : Wd) (w : W) (σ : L2.St) (H : Hp) (g' : Wd) (w' : W) (σ' : L2.St) (H' : Hp) : Prop where
  le : Wd.le g g'
  new : ∀ a o, g'.B a = some o → g.B a = some o ∨ H a = none ∨ Priv w g σ a
  frame : ∀ a o, H a = some o → ¬ Priv w g σ a → H' a = some o
  priv : ∀ a, Priv w' g' σ' a → Priv w g σ a ∨ H a = none
section
variable {K : PySem.W.Frag} {cm : Nat → Addr} {g g' g1 g2 : Wd} {w w' w1 w2 : W} {σ σ' σ1 σ2 : L2.St} {H H' H1 H2 : Hp} {a : Addr}
theorem Step.refl (g : Wd) (w : W) (σ : L2.St) (H : Hp) : Step g w σ H g w σ H := ⟨.refl _, fun _ _ h => .inl h, fun _ _ h _ => h, fun _ h => .inl h⟩
theorem none_or {H : Hp} (a : Addr) : H a = none ∨ ∃ o, H a = some o := by
  cases h : H a with
  | none => exact .inl rfl
  | some o => exact .inr ⟨o, rfl⟩
/-- free later: free before, or private -/
theorem Step.free (s : Step g w σ H g1 w1 σ1 H1) (h : H1 a = none) : H a = none ∨ Priv w g σ a := by
  rcases none_or (H := H) a with e | ⟨o, e⟩
  · exact .inl e
  · refine Classical.byContradiction fun q => ?_
    have := s.frame a o e fun p => q (.inr p)
    rw [h] at this
    cases this
theorem Step.trans (s : Step g w σ H g1 w1 σ1 H1) (t : Step g1 w1 σ1 H1 g2 w2 σ2 H2) : Step g w σ H g2 w2 σ2 H2 := by
  refine ⟨s.le.trans t.le, fun a o h => ?_, fun a o h hp => ?_, fun a h => ?_⟩
  · rcases t.new a o h with e | e | e
    · exact s.new a o e
    · exact .inr (s.free e)
    · exact .inr (s.priv a e).symm
  · refine t.frame a o (s.frame a o h hp) fun p => ?_
    rcases s.priv a p with q | q
    · exact hp q
    · rw [h] at q; cases q
  · rcases t.priv a h with e | e
    · exact s.priv a e
    · exact (s.free e).symm
theorem Rel.repEx (r : Rel K cm g w σ H) {a : Addr} {vs : List V} (h : SqL K g.B a vs) : SqL K H a vs := ex_l r.ex h
/-- nothing private is in B -/
theorem Rel.noB (r : Rel K cm g w σ H) (p : Priv w g σ a) : g.B a = none := by
  rcases p with ⟨k, hk, rfl⟩ | ⟨i, ds, h1, h2⟩
  · cases e : w.S k with
    | none => exact absurd e hk
    | some o => exact (r.store k o e).2.1
  · obtain ⟨b, vs, e, _, hb, _⟩ := r.slot i _ h1
    rw [h2] at e
    cases e
    exact hb
theorem Rel.privH (r : Rel K cm g w σ H) (p : Priv w g σ a) : ∃ o, H a = some o := by
  rcases p with ⟨k, hk, rfl⟩ | ⟨i, ds, h1, h2⟩
  · cases e : w.S k with
    | none => exact absurd e hk
    | some o =>
      have := (r.store k o e).2.2
      cases o with
      | lst ds => obtain ⟨vs, h, _⟩ := this; exact ⟨_, h⟩
      | ins c fs => obtain ⟨dx, us, h, _⟩ := this; exact ⟨_, h⟩
  · obtain ⟨b, vs, e, h, _⟩ := r.slot i _ h1
    rw [h2] at e
    cases e
    exact ⟨_, h⟩
theorem MRep.mono {o : MObj} (l : Wd.le g g') (h : MRep K cm g H a o) (e : H' a = H a) : MRep K cm g' H' a o := by
  cases o with
  | lst ds =>
    obtain ⟨vs, h1, h2⟩ := h
    exact ⟨vs, e.trans h1, h2.mono l⟩
  | ins c fs =>
    obtain ⟨dx, us, h1, h2, h3⟩ := h
    exact ⟨dx, us, e.trans h1, h2, h3.mono l⟩
/-- a new object that never changes -/
def Wd.put (g : Wd) (p : Addr) (o : HO) : Wd := { g with B := upd g.B p o }
theorem Wd.le_put {p : Addr} {o : HO} (h : g.B p = none) : Wd.le g (g.put p o) := ⟨Nat.le_refl _, fun _ _ => rfl, Ex.new h⟩
theorem Rel.freeB (r : Rel K cm g w σ H) {p : Addr} (h : H p = none) : g.B p = none := fresh_back r.ex h
/-- H p is none: a new object p laid down for good -/
theorem Rel.lay (r : Rel K cm g w σ H) {p : Addr} {o : HO} (h : H p = none) : Rel K cm (g.put p o) w σ (upd H p o) ∧ Step g w σ H (g.put p o) w σ (upd H p o) := by
  have hB := r.freeB h
  have l := Wd.le_put (o := o) hB
  have pn : ∀ a, Priv w g σ a → a ≠ p := fun a q e => by
    obtain ⟨u, hu⟩ := r.privH q
    rw [e, h] at hu
    cases hu
  refine ⟨⟨r.nn, fun a u e => ?_, r.len, fun i s hs => ?_, fun k u hk => ?_, r.sinj, r.oinj, r.os⟩, l, fun a u e => ?_, fun a u e _ => ?_, fun a q => .inl q⟩
  · by_cases c : a = p
    · subst c
      have e1 : upd g.B a o a = some u := e
      rw [upd_same] at e1
      rw [upd_same]
      exact e1
    · have e1 : upd g.B p o a = some u := e
      rw [upd_ne c] at e1
      rw [upd_ne c]
      exact r.ex a u e1
  · have q := r.slot i s hs
    cases s with
    | un => trivial
    | val d =>
      obtain ⟨v, e, k⟩ := q
      exact ⟨v, e, k.mono l⟩
    | own ds =>
      obtain ⟨a, vs, e, h1, h2, h3⟩ := q
      have na : a ≠ p := pn a (.inr ⟨i, ds, hs, e⟩)
      exact ⟨a, vs, e, by rw [upd_ne na]; exact h1, by show upd g.B p o a = none; rw [upd_ne na]; exact h2, h3.mono l⟩
  · obtain ⟨q1, q2, q3⟩ := r.store k u hk
    have na : g.ρ k ≠ p := pn _ (.inl ⟨k, by rw [hk]; simp, rfl⟩)
    exact ⟨q1, by show upd g.B p o (g.ρ k) = none; rw [upd_ne na]; exact q2, q3.mono l (upd_ne na)⟩
  · by_cases c : a = p
    · subst c
      exact .inr (.inl h)
    · have e1 : upd g.B p o a = some u := e
      rw [upd_ne c] at e1
      exact .inl e1
  · rw [upd_ne (ne_of_none e h)]
    exact e
/-- a list that nobody knows is laid down for good -/
theorem Rel.freeze (r : Rel K cm g w σ H) {p : Addr} {vs : List V} (h : H p = some (.lst vs)) (hB : g.B p = none) (np : ¬ Priv w g σ p) :
    Rel K cm (g.put p (.lst vs)) w σ H ∧ Wd.le g (g.put p (.lst vs)) := by
  have l := Wd.le_put (o := .lst vs) hB
  have pn : ∀ a, Priv w g σ a → a ≠ p := fun a q e => np (e ▸ q)
  refine ⟨⟨r.nn, fun a u e => ?_, r.len, fun i s hs => ?_, fun k u hk => ?_, r.sinj, r.oinj, r.os⟩, l⟩
  · by_cases c : a = p
    · subst c
      have e1 : upd g.B a (.lst vs) a = some u := e
      rw [upd_same] at e1
      cases e1
      exact h
    · have e1 : upd g.B p (.lst vs) a = some u := e
      rw [upd_ne c] at e1
      exact r.ex a u e1
  · have q := r.slot i s hs
    cases s with
    | un => trivial
    | val d =>
      obtain ⟨v, e, k⟩ := q
      exact ⟨v, e, k.mono l⟩
    | own ds =>
      obtain ⟨a, vs', e, h1, h2, h3⟩ := q
      have na : a ≠ p := pn a (.inr ⟨i, ds, hs, e⟩)
      exact ⟨a, vs', e, h1, by show upd g.B p (.lst vs) a = none; rw [upd_ne na]; exact h2, h3.mono l⟩
  · obtain ⟨q1, q2, q3⟩ := r.store k u hk
    have na : g.ρ k ≠ p := pn _ (.inl ⟨k, by rw [hk]; simp, rfl⟩)
    exact ⟨q1, by show upd g.B p (.lst vs) (g.ρ k) = none; rw [upd_ne na]; exact q2, q3.mono l rfl⟩
end

/-! ### what is wanted behind an expression -/
/-- a result stands: a value in the world, or a list at a that nobody knows, its place among N -/
def RRep (K : PySem.W.Frag) (N : Addr → Prop) (g : Wd) (w : W) (σ : L2.St) (H : Hp) (v : V) : R → Prop
  | .val d => Rep K g v d
  | .own ds => ∃ a vs, v = .ref a ∧ H a = some (.lst vs) ∧ g.B a = none ∧ ¬ Priv w g σ a ∧ N a ∧ Reps K g vs ds
/-- how an exception lies -/
def XRep (K : PySem.W.Frag) (cm : Nat → Addr) (g : Wd) (H : Hp) (e : Xn) (cls : Value) (d : Option Addr) : Prop :=
  cls = .ref (cm e.c) ∧ match e.f with
  | none => d = none
  | some (f, x) => ∃ (dd : Addr) (u : V), d = some dd ∧ g.B dd = some (.xd [(f, u)]) ∧ Rep K g u x
/-- free, or private: what may become new -/
def New (g : Wd) (w : W) (σ : L2.St) (H : Hp) (a : Addr) : Prop := H a = none ∨ Priv w g σ a
section
variable (K : PySem.W.Frag) (cm : Nat → Addr)
def XPost (xw : WX) (g : Wd) (w : W) (σ : L2.St) (H : Hp) (e : Xn) (w' : W) : Prop :=
  ∀ g' H' cls d, Rel K cm g' w' σ H' → Step g w σ H g' w' σ H' → XRep K cm g' H' e cls d → xw cls d σ H'
def GPost {α : Type} (xw : WX) (g : Wd) (w : W) (σ : L2.St) (H : Hp) (P : Wd → W → Hp → α → Prop) : Res α → Prop
  | .ok a w' => ∀ g' H', Rel K cm g' w' σ H' → Step g w σ H g' w' σ H' → P g' w' H' a
  | .exc e w' => XPost K cm xw g w σ H e w'
  | .bad => False
end
abbrev PV (K : PySem.W.Frag) (Q : VK) : Wd → W → Hp → D → Prop := fun g _ H d => ∀ v, Rep K g v d → Q v H
abbrev PR (K : PySem.W.Frag) (N : Addr → Prop) (σ : L2.St) (Q : VK) : Wd → W → Hp → R → Prop := fun g w H r => ∀ v, RRep K N g w σ H v r → Q v H
abbrev PB (Q : Bool → Hp → Prop) : Wd → W → Hp → Bool → Prop := fun _ _ H b => Q b H
abbrev PL (K : PySem.W.Frag) (Q : List V → Hp → Prop) : Wd → W → Hp → List D → Prop := fun g _ H ds => ∀ vs, Reps K g vs ds → Q vs H
section
variable {K : PySem.W.Frag} {cm : Nat → Addr} {xw : WX} {g g1 : Wd} {w w1 w' : W} {σ : L2.St} {H H1 : Hp} {α β : Type}
theorem Step.newIn (s : Step g w σ H g1 w1 σ H1) {a : Addr} (h : New g1 w1 σ H1 a) : New g w σ H a := by
  rcases h with h | h
  · exact s.free h
  · exact (s.priv a h).symm
/-- an exception later is one now -/
theorem XPost.back {e : Xn} (s : Step g w σ H g1 w1 σ H1) (h : XPost K cm xw g w σ H e w') : XPost K cm xw g1 w1 σ H1 e w' :=
  fun g' H' cls d r t x => h g' H' cls d r (s.trans t) x
theorem GPost.back {P : Wd → W → Hp → α → Prop} (s : Step g w σ H g1 w1 σ H1) : ∀ {r : Res α}, GPost K cm xw g w σ H P r → GPost K cm xw g1 w1 σ H1 P r
  | .ok _ _, h => fun g' H' r t => h g' H' r (s.trans t)
  | .exc _ _, h => XPost.back s h
  | .bad, h => h
theorem GPost.imp {P P' : Wd → W → Hp → α → Prop} (k : ∀ g' w' H' a, Rel K cm g' w' σ H' → Step g w σ H g' w' σ H' → P g' w' H' a → P' g' w' H' a) : ∀ {r : Res α}, GPost K cm xw g w σ H P r → GPost K cm xw g w σ H P' r
  | .ok _ _, h => fun g' H' r t => k _ _ _ _ r t (h g' H' r t)
  | .exc _ _, h => h
  | .bad, h => h
/-- first m, then f -/
theorem GPost.bind {m : M α} {f : α → M β} {P : Wd → W → Hp → β → Prop} (h : GPost K cm xw g w σ H P (M.bind m f w)) :
    GPost K cm xw g w σ H (fun g1 w1 H1 a => GPost K cm xw g1 w1 σ H1 P (f a w1)) (m w) := by
  unfold M.bind at h
  cases e : m w with
  | ok a w1 =>
    rw [e] at h
    exact fun g1 H1 _ s => GPost.back s h
  | exc x w1 => rw [e] at h; exact h
  | bad => rw [e] at h; exact h
theorem GPost.map {m : M α} {f : α → β} {P : Wd → W → Hp → β → Prop} (h : GPost K cm xw g w σ H P (M.map f m w)) :
    GPost K cm xw g w σ H (fun g1 w1 H1 a => P g1 w1 H1 (f a)) (m w) := by
  unfold M.map at h
  cases e : m w with
  | ok a w1 => rw [e] at h; exact h
  | exc x w1 => rw [e] at h; exact h
  | bad => rw [e] at h; exact h
/-- nothing more happens -/
theorem GPost.here {a : α} {P : Wd → W → Hp → α → Prop} (r : Rel K cm g w σ H) (h : GPost K cm xw g w σ H P (.ok a w)) : P g w H a := h g H r (.refl ..)
theorem GPost.lift {o : Option α} {P : Wd → W → Hp → α → Prop} (h : GPost K cm xw g w σ H P (M.lift o w)) : ∃ a, o = some a ∧ GPost K cm xw g w σ H P (.ok a w) := by
  cases o with
  | some a => exact ⟨a, rfl, h⟩
  | none => exact h.elim
/-- a result taken as a value -/
theorem PR.val {Q : VK} {r : Res R} (h : GPost K cm xw g w σ H (fun g' w' H' r => PV K Q g' w' H' r.d) r) : GPost K cm xw g w σ H (PR K (New g w σ H) σ Q) r := by
  cases r with
  | ok r w' =>
    cases r with
    | val d => exact h
    | own ds =>
      intro g' H' r s v q
      obtain ⟨a, vs, rfl, h1, h2, h3, h4, h5⟩ := q
      obtain ⟨r2, l⟩ := r.freeze h1 h2 h3
      refine h (g'.put a (.lst vs)) H' r2 ⟨s.le.trans l, fun b o e => ?_, s.frame, fun b p => s.priv b p⟩ (.ref a) (.lst upd_same (h5.mono l))
      by_cases c : b = a
      · subst c
        exact .inr h4
      · have e1 : upd g'.B a (.lst vs) b = some o := e
        rw [upd_ne c] at e1
        exact s.new b o e1
  | exc e w' => exact h
  | bad => exact h
end
/-! ### the judgements -/
section
variable (cm : Nat → Addr) (X : Cx) (xw : WX)
structure DE (e : Expr) (m : M R) : Prop where
  ex : ∃ te : TE, PE X e te ∧ ∀ g w σ H Q N, Rel X.K cm g w σ H → (∀ a, New g w σ H a → N a) → GPost X.K cm xw g w σ H (PR X.K N σ Q) (m w) → te σ H Q
structure DV (e : Expr) (m : M D) : Prop where
  ex : ∃ te : TE, PE X e te ∧ ∀ g w σ H Q, Rel X.K cm g w σ H → GPost X.K cm xw g w σ H (PV X.K Q) (m w) → te σ H Q
structure DT (e : Expr) (m : M Bool) : Prop where
  ex : ∃ tt : TT, PT X e tt ∧ ∀ g w σ H Q, Rel X.K cm g w σ H → GPost X.K cm xw g w σ H (PB Q) (m w) → tt σ H Q
structure DW (e : Expr) (m : M Bool) : Prop where
  ex : ∃ tt : TT, PW X e tt ∧ ∀ g w σ H Q, Rel X.K cm g w σ H → GPost X.K cm xw g w σ H (PB Q) (m w) → tt σ H Q
structure DA (es : List Expr) (m : M (List D)) : Prop where
  ex : ∃ ta : TA, PA X es ta ∧ ∀ g w σ H Q, Rel X.K cm g w σ H → GPost X.K cm xw g w σ H (PL X.K Q) (m w) → ta σ H Q
end
section
variable {cm : Nat → Addr} {X : Cx} {xw : WX} {e : Expr}
theorem DE.v {m : M R} (h : DE cm X xw e m) : DV cm X xw e (M.map R.d m) := by
  obtain ⟨te, h1, h2⟩ := h.ex
  exact ⟨te, h1, fun g w σ H Q r k => h2 g w σ H Q _ r (fun _ q => q) (PR.val (GPost.map k))⟩
theorem DV.toE {m : M D} (h : DV cm X xw e m) : DE cm X xw e (M.map R.val m) := by
  obtain ⟨te, h1, h2⟩ := h.ex
  exact ⟨te, h1, fun g w σ H Q N r hN k => h2 g w σ H Q r (GPost.map (f := R.val) k)⟩
end
end DL

/-! DExprA: expressions over data: names, constants, operators, comparisons, tests, displays. -/
namespace DL
open PySem L2 Evl

/-! ### transformers that do what m says -/
section
variable (cm : Nat → Addr) (X : Cx) (xw : WX)
def EOk (te : TE) (m : M R) : Prop := ∀ g w σ H Q N, Rel X.K cm g w σ H → (∀ a, New g w σ H a → N a) → GPost X.K cm xw g w σ H (PR X.K N σ Q) (m w) → te σ H Q
def VOk (te : TE) (m : M D) : Prop := ∀ g w σ H Q, Rel X.K cm g w σ H → GPost X.K cm xw g w σ H (PV X.K Q) (m w) → te σ H Q
def TOk (te : TT) (m : M Bool) : Prop := ∀ g w σ H Q, Rel X.K cm g w σ H → GPost X.K cm xw g w σ H (PB Q) (m w) → te σ H Q
def AOk (te : TA) (m : M (List D)) : Prop := ∀ g w σ H Q, Rel X.K cm g w σ H → GPost X.K cm xw g w σ H (PL X.K Q) (m w) → te σ H Q
/-- a two-place, a one-place operation on values; a call on values -/
def R2Ok (r : R2) (f : D → D → M R) : Prop := ∀ g w σ H x y dx dy Q N, Rel X.K cm g w σ H → (∀ a, New g w σ H a → N a) → Rep X.K g x dx → Rep X.K g y dy → GPost X.K cm xw g w σ H (PR X.K N σ Q) (f dx dy w) → r x y H Q
def V2Ok (r : R2) (f : D → D → M D) : Prop := ∀ g w σ H x y dx dy Q, Rel X.K cm g w σ H → Rep X.K g x dx → Rep X.K g y dy → GPost X.K cm xw g w σ H (PV X.K Q) (f dx dy w) → r x y H Q
def RCOk (r : List V → Hp → VK → Prop) (f : List D → M R) : Prop := ∀ g w σ H xs ds Q N, Rel X.K cm g w σ H → (∀ a, New g w σ H a → N a) → Reps X.K g xs ds → GPost X.K cm xw g w σ H (PR X.K N σ Q) (f ds w) → r xs H Q
def VCOk (r : List V → Hp → VK → Prop) (f : List D → M D) : Prop := ∀ g w σ H xs ds Q, Rel X.K cm g w σ H → Reps X.K g xs ds → GPost X.K cm xw g w σ H (PV X.K Q) (f ds w) → r xs H Q
end
def bind2 {α : Type} (a b : M D) (f : D → D → M α) : M α := M.bind a fun x => M.bind b fun y => f x y
section
variable {cm : Nat → Addr} {X : Cx} {xw : WX} {ta tb tc : TE} {ma mb mc : M D}
theorem eok_op {r : R2} {f : D → D → M R} (ha : VOk cm X xw ta ma) (hb : VOk cm X xw tb mb) (hr : R2Ok cm X xw r f) : EOk cm X xw (tOp r ta tb) (bind2 ma mb f) := by
  intro g w σ H Q N r hN k
  refine ha g w σ H _ r (GPost.imp (fun g1 w1 H1 d r1 s1 k1 v q => ?_) (GPost.bind k))
  refine hb g1 w1 σ H1 _ r1 (GPost.imp (fun g2 w2 H2 d2 r2 s2 k2 v2 q2 => ?_) (GPost.bind k1))
  exact hr g2 w2 σ H2 v v2 d d2 Q N r2 (fun a h => hN a ((s1.trans s2).newIn h)) (q.mono s2.le) q2 k2
theorem vok_op {r : R2} {f : D → D → M D} (ha : VOk cm X xw ta ma) (hb : VOk cm X xw tb mb) (hr : V2Ok cm X xw r f) : VOk cm X xw (tOp r ta tb) (bind2 ma mb f) := by
  intro g w σ H Q r k
  refine ha g w σ H _ r (GPost.imp (fun g1 w1 H1 d r1 s1 k1 v q => ?_) (GPost.bind k))
  refine hb g1 w1 σ H1 _ r1 (GPost.imp (fun g2 w2 H2 d2 r2 s2 k2 v2 q2 => ?_) (GPost.bind k1))
  exact hr g2 w2 σ H2 v v2 d d2 Q r2 (q.mono s2.le) q2 k2
theorem eok_val {te : TE} {m : M R} (h : EOk cm X xw te m) : VOk cm X xw te (M.map R.d m) := fun g w σ H Q r k =>
  h g w σ H Q _ r (fun _ q => q) (PR.val (GPost.map k))
theorem vok_e {te : TE} {m : M D} (h : VOk cm X xw te m) : EOk cm X xw te (M.map R.val m) := fun g w σ H Q N r _ k =>
  h g w σ H Q r (GPost.map (f := R.val) k)
/-- a pure end: the value d -/
theorem GPost.v {K : PySem.W.Frag} {g : Wd} {w : W} {σ : L2.St} {H : Hp} {Q : VK} {d : D} {v : V} (r : Rel K cm g w σ H) (k : GPost K cm xw g w σ H (PV K Q) (.ok d w)) (q : Rep K g v d) : Q v H := GPost.here r k v q
theorem Rel.fresh {K : PySem.W.Frag} {g : Wd} {w : W} {σ : L2.St} {H : Hp} (r : Rel K cm g w σ H) {p : Addr} {o : HO} (h : H p = none) :
    Rel K cm g w σ (upd H p o) ∧ Step g w σ H g w σ (upd H p o) ∧ g.B p = none ∧ ¬ Priv w g σ p := by
  have hB := r.freeB h
  have pn : ∀ a, Priv w g σ a → a ≠ p := fun a q e => by
    obtain ⟨u, hu⟩ := r.privH q
    rw [e, h] at hu
    cases hu
  refine ⟨⟨r.nn, fun a u e => ?_, r.len, fun i s hs => ?_, fun k u hk => ?_, r.sinj, r.oinj, r.os⟩, ⟨.refl _, fun _ _ e => .inl e, fun a u e _ => ?_, fun a q => .inl q⟩, hB, fun q => pn p q rfl⟩
  · rw [upd_ne (ne_of_none e hB)]
    exact r.ex a u e
  · have q := r.slot i s hs
    cases s with
    | un => trivial
    | val d => exact q
    | own ds =>
      obtain ⟨a, vs, e, h1, h2, h3⟩ := q
      exact ⟨a, vs, e, by rw [upd_ne (pn a (.inr ⟨i, ds, hs, e⟩))]; exact h1, h2, h3⟩
  · obtain ⟨q1, q2, q3⟩ := r.store k u hk
    exact ⟨q1, q2, q3.mono (.refl _) (upd_ne (pn _ (.inl ⟨k, by rw [hk]; simp, rfl⟩)))⟩
  · rw [upd_ne (ne_of_none e h)]
    exact e
/-- a new list of one's own -/
theorem GPost.o {K : PySem.W.Frag} {g : Wd} {w : W} {σ : L2.St} {H : Hp} {Q : VK} {N : Addr → Prop} {ds : List D} {vs : List V} (r : Rel K cm g w σ H) (hN : ∀ a, New g w σ H a → N a) (k : GPost K cm xw g w σ H (PR K N σ Q) (.ok (.own ds) w)) (q : Reps K g vs ds) :
    ∀ p, H p = none → Q (.ref p) (upd H p (.lst vs)) := fun p hp => by
  obtain ⟨r2, s, hB, np⟩ := r.fresh (o := .lst vs) hp
  exact k g _ r2 s (.ref p) ⟨p, vs, rfl, upd_same, hB, np, hN p (.inl hp), q⟩
/-- a new tuple -/
theorem GPost.t {K : PySem.W.Frag} {g : Wd} {w : W} {σ : L2.St} {H : Hp} {Q : VK} {ds : List D} {vs : List V} (r : Rel K cm g w σ H) (k : GPost K cm xw g w σ H (PV K Q) (.ok (.tup ds) w)) (q : Reps K g vs ds) :
    ∀ p, H p = none → Q (.ref p) (upd H p (.tup vs)) := fun p hp => by
  obtain ⟨r2, s⟩ := r.lay (o := .tup vs) hp
  exact k _ _ r2 s (.ref p) (.tup (.inl (.inl upd_same)) (q.mono s.le))
end

/-! ### names, constants -/
namespace M
/-- the value in slot i; a list of one's own is one's own no more -/
def var (i : Nat) : M D := fun w => match w.E[i]? with
  | some (.val d) => .ok d w
  | some (.own ds) => .ok (.lst ds) { w with E := w.E.set i (.val (.lst ds)) }
  | _ => .bad
end M
section
variable {cm : Nat → Addr} {X : Cx} {xw : WX}
theorem st_own {K : PySem.W.Frag} {g : Wd} {w : W} {σ : L2.St} {H : Hp} (r : Rel K cm g w σ H) {i : Nat} {ds : List D} (e : w.E[i]? = some (.own ds)) :
    ∃ a vs, σ[i]? = some (some (.ref a)) ∧ H a = some (.lst vs) ∧ g.B a = none ∧ Reps K g vs ds ∧ OwnAt w σ i a := by
  obtain ⟨a, vs, h1, h2, h3, h4⟩ := r.slot i _ e
  exact ⟨a, vs, h1, h2, h3, h4, ds, e, h1⟩
/-- slot i becomes a value; what was its own is laid down for good where it holds that -/
theorem ownAt_set {w : W} {σ : L2.St} {i j : Nat} {a : Addr} {d : D} (h : OwnAt { w with E := w.E.set i (.val d) } σ j a) : OwnAt w σ j a ∧ j ≠ i := by
  obtain ⟨ds, h1, h2⟩ := h
  have h1' : (w.E.set i (.val d))[j]? = some (.own ds) := h1
  by_cases c : i = j
  · subst c
    rw [List.getElem?_set_self'] at h1'
    cases hh : w.E[i]? with
    | none => rw [hh] at h1'; cases h1'
    | some o => rw [hh] at h1'; cases h1'
  · rw [List.getElem?_set_ne c] at h1'
    exact ⟨⟨ds, h1', h2⟩, fun e => c e.symm⟩
theorem Rel.give {K : PySem.W.Frag} {g : Wd} {w : W} {σ : L2.St} {H : Hp} (r : Rel K cm g w σ H) {i : Nat} {ds : List D} {a : Addr} {vs : List V} (e : w.E[i]? = some (.own ds)) (ha : σ[i]? = some (some (.ref a))) (hv : H a = some (.lst vs))
    (q : Reps K g vs ds) : Rel K cm (g.put a (.lst vs)) { w with E := w.E.set i (.val (.lst ds)) } σ H ∧ Step g w σ H (g.put a (.lst vs)) { w with E := w.E.set i (.val (.lst ds)) } σ H ∧ Rep K (g.put a (.lst vs)) (.ref a) (.lst ds) := by
  have pa : Priv w g σ a := .inr ⟨i, ds, e, ha⟩
  have hB : g.B a = none := r.noB pa
  have l := Wd.le_put (o := .lst vs) hB
  have rp : Rep K (g.put a (.lst vs)) (.ref a) (.lst ds) := .lst upd_same (q.mono l)
  have ps : ∀ b, Priv { w with E := w.E.set i (.val (.lst ds)) } g σ b → Priv w g σ b ∧ b ≠ a := fun b p => by
    rcases p with ⟨k, hk, rfl⟩ | ⟨j, hj⟩
    · exact ⟨.inl ⟨k, hk, rfl⟩, r.os i a k ⟨ds, e, ha⟩ hk⟩
    · obtain ⟨h1, h2⟩ := ownAt_set hj
      exact ⟨.inr ⟨j, h1⟩, fun q => h2 (r.oinj j i a (q ▸ h1) ⟨ds, e, ha⟩)⟩
  refine ⟨⟨r.nn, fun b u hb => ?_, by show σ.length = (w.E.set i _).length; rw [List.length_set]; exact r.len, fun j s hs => ?_, fun k u hk => ?_, r.sinj, fun j k b h1 h2 => r.oinj j k b (ownAt_set h1).1 (ownAt_set h2).1, fun j b k h1 h2 => r.os j b k (ownAt_set h1).1 h2⟩, ⟨l, fun b u hb => ?_, fun _ _ h _ => h, fun b p => .inl (ps b p).1⟩, rp⟩
  · by_cases c : b = a
    · subst c
      have e1 : upd g.B b (.lst vs) b = some u := hb
      rw [upd_same] at e1
      cases e1
      exact hv
    · have e1 : upd g.B a (.lst vs) b = some u := hb
      rw [upd_ne c] at e1
      exact r.ex b u e1
  · have hs' : (w.E.set i (.val (.lst ds)))[j]? = some s := hs
    by_cases c : i = j
    · subst c
      rw [List.getElem?_set_self', e] at hs'
      cases hs'
      exact ⟨.ref a, ha, rp⟩
    · rw [List.getElem?_set_ne c] at hs'
      have q' := r.slot j s hs'
      cases s with
      | un => trivial
      | val d =>
        obtain ⟨v, h1, h2⟩ := q'
        exact ⟨v, h1, h2.mono l⟩
      | own es =>
        obtain ⟨b, us, h1, h2, h3, h4⟩ := q'
        have nb : b ≠ a := fun q => c (r.oinj j i a ⟨es, hs', q ▸ h1⟩ ⟨ds, e, ha⟩).symm
        exact ⟨b, us, h1, h2, by show upd g.B a (.lst vs) b = none; rw [upd_ne nb]; exact h3, h4.mono l⟩
  · obtain ⟨q1, q2, q3⟩ := r.store k u hk
    have nb : g.ρ k ≠ a := r.os i a k ⟨ds, e, ha⟩ (by show w.S k ≠ none; rw [show w.S k = some u from hk]; simp)
    exact ⟨q1, by show upd g.B a (.lst vs) (g.ρ k) = none; rw [upd_ne nb]; exact q2, q3.mono l rfl⟩
  · by_cases c : b = a
    · subst c
      exact .inr (.inr pa)
    · have e1 : upd g.B a (.lst vs) b = some u := hb
      rw [upd_ne c] at e1
      exact .inl e1
theorem vok_var {i : Nat} : VOk cm X xw (tVar i) (M.var i) := by
  intro g w σ H Q r k
  unfold M.var at k
  cases e : w.E[i]? with
  | none => rw [e] at k; exact k.elim
  | some s =>
    cases s with
    | un => rw [e] at k; exact k.elim
    | val d =>
      rw [e] at k
      obtain ⟨v, h1, h2⟩ := r.slot i _ e
      exact ⟨v, h1, GPost.v r k h2⟩
    | own ds =>
      rw [e] at k
      obtain ⟨a, vs, h1, h2, h3, h4, _⟩ := st_own r e
      obtain ⟨r2, s2, q⟩ := r.give e h1 h2 h4
      exact ⟨.ref a, h1, k _ _ r2 s2 (.ref a) q⟩
theorem dv_var (i : Nat) {x : Str} {pos : Pos} (hN : X.N[i]? = some x := by rfl) (hv : Vis X.env.scope x := by first | exact Or.inl rfl | exact Or.inr (Or.inl rfl) | exact Or.inr (Or.inr rfl)) (hd : (x == ("__debug__" : Str)) = false := by decide)
    (hcd : (x == ("__classdict__" : Str)) = false := by decide) : DV cm X xw (.Name x pos) (M.var i) := ⟨_, pe_var hN hv hd hcd, vok_var⟩
theorem vok_c {v : V} {d : D} (h : ∀ g, Rep X.K g v d) : VOk cm X xw (tC v) (M.ret d) := fun g w σ H Q r k => GPost.v r k (h g)
theorem dv_int {i : Int} {j : Nat} {pos : Pos} : DV cm X xw (.Constant (.int i) j pos) (M.ret (.int i)) := ⟨_, pe_int, vok_c fun _ => .int i⟩
theorem dv_bl {b : Bool} {j : Nat} {pos : Pos} : DV cm X xw (.Constant (.bool b) j pos) (M.ret (.bl b)) := ⟨_, pe_bl, vok_c fun _ => .bl b⟩
theorem dv_non {j : Nat} {pos : Pos} : DV cm X xw (.Constant .none j pos) (M.ret .non) := ⟨_, pe_non, vok_c fun _ => .non⟩
theorem dv_str {x : Str} {j : Nat} {pos : Pos} : DV cm X xw (.Constant (.str x) j pos) (M.ret (.str x)) := ⟨_, pe_str, vok_c fun _ => .str x⟩
/-- a constant of the module -/
theorem dv_glob {x : Str} {v : V} {u : Value} {d : D} {pos : Pos} (hg : Gl X x) (hm : X.mg x = some u) (r : RelV v u) (q : ∀ g, Rep X.K g v d) (hd : (x == ("__debug__" : Str)) = false := by decide) : DV cm X xw (.Name x pos) (M.ret d) := ⟨_, pe_glob hg hm r hd, vok_c q⟩
end

/-! ### operators -/
def big : Nat := 16777216
theorem big_eq : big = sizeLine := sizeLine_eq.symm
namespace D
def add : D → D → Option R
  | .int i, .int j => some (.val (.int (i + j)))
  | .str a, .str b => if a.length + b.length ≤ big then some (.val (.str (a ++ b))) else none
  | .lst a, .lst b => if a.length + b.length ≤ big then some (.own (a ++ b)) else none
  | .tup a, .tup b => if a ≠ [] ∧ b ≠ [] ∧ a.length + b.length ≤ big then some (.val (.tup (a ++ b))) else none
  | _, _ => none
def sub : D → D → Option D
  | .int i, .int j => some (.int (i - j))
  | _, _ => none
def mul : D → D → Option R
  | .int i, .int j => if i.natAbs.log2 + j.natAbs.log2 < 1000000 then some (.val (.int (i * j))) else none
  | .lst a, .int k => if -(2 ^ 63) ≤ k ∧ k < 2 ^ 63 ∧ a.length * k.toNat ≤ big then some (.own (List.replicate k.toNat a).flatten) else none
  | .str a, .int k => if 0 ≤ k ∧ k < 2 ^ 62 ∧ a.length * k.toNat ≤ big then some (.val (.str ⟨(List.replicate k.toNat a.cps.toList).flatten.toArray⟩)) else none
  | _, _ => none
def mod : D → D → Option D
  | .int i, .int j => if 0 < j then some (.int (i % j)) else none
  | _, _ => none
def fdiv : D → D → Option D
  | .int i, .int j => if 0 < j ∧ j.natAbs.log2 < 9000 then some (.int (i / j)) else none
  | _, _ => none
def pow : D → D → Option D
  | .int i, .int j => if 0 ≤ j ∧ j ≤ 1000000 ∧ i.natAbs < 2 ^ 64 then some (.int (i ^ j.toNat)) else none
  | _, _ => none
end D
section
variable {cm : Nat → Addr} {X : Cx} {xw : WX} {a b : Expr} {ma mb : M D} {pos : Pos}
abbrev rAddS0 : R2 := fun x y H Q => ∃ i j, x = .str i ∧ y = .str j ∧ i.length + j.length ≤ sizeLine ∧ Q (.str (i ++ j)) H
def rAddA (K : PySem.W.Frag) : R2 := fun x y H Q => (rI0 fun i j => .int (i + j)) x y H Q ∨ (rAddS0 x y H Q ∨ (rCat x y H Q ∨ rCatT K x y H Q))
theorem op_addA : OpR X (binaryOp .Add) (rAddA X.K) := OpR.or op_add (OpR.or op_add_str (OpR.or op_cat op_catT))
theorem r2_add : R2Ok cm X xw (rAddA X.K) (fun x y => M.lift (D.add x y)) := by
  intro g w σ H x y dx dy Q N r hN qx qy k
  obtain ⟨z, e, k⟩ := GPost.lift k
  cases qx with
  | int i =>
    cases qy with
    | int j => cases e; exact .inl ⟨i, j, rfl, rfl, GPost.here r k _ (.int _)⟩
    | _ => cases e
  | str i =>
    cases qy with
    | str j =>
      have e' : (if i.length + j.length ≤ big then some (R.val (.str (i ++ j))) else none) = some z := e
      split at e'
      · cases e'
        rename_i h
        exact .inr (.inl ⟨i, j, rfl, rfl, by rw [← big_eq]; exact h, GPost.here r k _ (.str _)⟩)
      · cases e'
    | _ => cases e
  | lst h1 h2 =>
    cases qy with
    | lst h3 h4 =>
      rename_i l1 v1 d1 l2 v2 d2
      have e' : (if d1.length + d2.length ≤ big then some (R.own (d1 ++ d2)) else none) = some z := e
      split at e'
      · cases e'
        rename_i h
        exact .inr (.inr (.inl ⟨l1, l2, v1, v2, rfl, rfl, r.ex _ _ h1, r.ex _ _ h3, by rw [← big_eq, h2.length, h4.length]; exact h, GPost.o r hN k (h2.append h4)⟩))
      · cases e'
    | _ => cases e
  | tup h1 h2 =>
    cases qy with
    | tup h3 h4 =>
      rename_i l1 v1 d1 l2 v2 d2
      have e' : (if d1 ≠ [] ∧ d2 ≠ [] ∧ d1.length + d2.length ≤ big then some (R.val (.tup (d1 ++ d2))) else none) = some z := e
      split at e'
      · cases e'
        rename_i h
        obtain ⟨n1, n2, h⟩ := h
        have m1 : v1 ≠ [] := fun q => n1 (List.eq_nil_of_length_eq_zero (by rw [← h2.length, q]; rfl))
        have m2 : v2 ≠ [] := fun q => n2 (List.eq_nil_of_length_eq_zero (by rw [← h4.length, q]; rfl))
        refine .inr (.inr (.inr ⟨l1, l2, v1, v2, rfl, rfl, ex_t r.ex h1, ex_t r.ex h3, m1, by rw [← big_eq, h2.length, h4.length]; exact h, fun q => absurd q m2, fun _ p hp => ?_⟩))
        obtain ⟨r2, s⟩ := r.lay (o := .tup (v1 ++ v2)) hp
        exact k _ _ r2 s (.ref p) (.tup (.inl (.inl upd_same)) ((h2.append h4).mono s.le))
      · cases e'
    | _ => cases e
  | _ => cases e
theorem de_add (ha : DV cm X xw a ma) (hb : DV cm X xw b mb) : DE cm X xw (.BinOp a .Add b pos) (bind2 ma mb fun x y => M.lift (D.add x y)) := by
  obtain ⟨ta, pa, oa⟩ := ha
  obtain ⟨tb, pb, ob⟩ := hb
  exact ⟨_, pe_op op_addA pa pb, eok_op oa ob r2_add⟩
/-- a rule of two ints -/
theorem v2_int {C : Int → Int → Prop} {r : R2} {f : D → D → Option D} {h : Int → Int → Int} (hr : ∀ i j H Q, C i j → Q (.int (h i j)) H → r (.int i) (.int j) H Q) (hf : ∀ x y z, f x y = some z → ∃ i j, x = .int i ∧ y = .int j ∧ C i j ∧ z = .int (h i j)) :
    V2Ok cm X xw r (fun x y => M.lift (f x y)) := by
  intro g w σ H x y dx dy Q r qx qy k
  obtain ⟨z, e, k⟩ := GPost.lift k
  obtain ⟨i, j, rfl, rfl, c, rfl⟩ := hf _ _ _ e
  cases qx
  cases qy
  exact hr i j H Q c (GPost.v r k (.int _))
theorem dv_sub (ha : DV cm X xw a ma) (hb : DV cm X xw b mb) : DV cm X xw (.BinOp a .Sub b pos) (bind2 ma mb fun x y => M.lift (D.sub x y)) := by
  obtain ⟨ta, pa, oa⟩ := ha
  obtain ⟨tb, pb, ob⟩ := hb
  refine ⟨_, pe_op op_sub pa pb, vok_op oa ob (v2_int (C := fun _ _ => True) (fun i j H Q _ k => ⟨i, j, rfl, rfl, k⟩) fun x y z e => ?_)⟩
  unfold D.sub at e
  split at e
  · cases e; exact ⟨_, _, rfl, rfl, trivial, rfl⟩
  · cases e
theorem dv_mod (ha : DV cm X xw a ma) (hb : DV cm X xw b mb) : DV cm X xw (.BinOp a .Mod b pos) (bind2 ma mb fun x y => M.lift (D.mod x y)) := by
  obtain ⟨ta, pa, oa⟩ := ha
  obtain ⟨tb, pb, ob⟩ := hb
  refine ⟨_, pe_op op_mod pa pb, vok_op oa ob (v2_int (C := fun _ j => 0 < j) (fun i j H Q c k => ⟨i, j, rfl, rfl, c, k⟩) fun x y z e => ?_)⟩
  unfold D.mod at e
  split at e
  · split at e
    · cases e; exact ⟨_, _, rfl, rfl, by assumption, rfl⟩
    · cases e
  · cases e
theorem dv_fdiv (ha : DV cm X xw a ma) (hb : DV cm X xw b mb) : DV cm X xw (.BinOp a .FloorDiv b pos) (bind2 ma mb fun x y => M.lift (D.fdiv x y)) := by
  obtain ⟨ta, pa, oa⟩ := ha
  obtain ⟨tb, pb, ob⟩ := hb
  refine ⟨_, pe_op op_fdivW pa pb, vok_op oa ob (v2_int (C := CDivW) (fun i j H Q c k => ⟨i, j, rfl, rfl, c, k⟩) fun x y z e => ?_)⟩
  unfold D.fdiv at e
  split at e
  · split at e
    · cases e; exact ⟨_, _, rfl, rfl, by assumption, rfl⟩
    · cases e
  · cases e
theorem dv_pow (ha : DV cm X xw a ma) (hb : DV cm X xw b mb) : DV cm X xw (.BinOp a .Pow b pos) (bind2 ma mb fun x y => M.lift (D.pow x y)) := by
  obtain ⟨ta, pa, oa⟩ := ha
  obtain ⟨tb, pb, ob⟩ := hb
  refine ⟨_, pe_op op_pow pa pb, vok_op oa ob (v2_int (C := CPow) (fun i j H Q c k => ⟨i, j, rfl, rfl, c, k⟩) fun x y z e => ?_)⟩
  unfold D.pow at e
  split at e
  · split at e
    · cases e; exact ⟨_, _, rfl, rfl, by assumption, rfl⟩
    · cases e
  · cases e
end
end DL

/-! DExprB: products, comparisons, tests, and | or | not, conditional expressions, displays. -/
namespace DL
open PySem L2 Evl

/-! ### * -/
theorem foldl_repN (its : List Nat) : ∀ (k : Nat) (acc : List Nat), List.foldl (fun x1 x2 => x1 ++ x2) acc.toArray (List.replicate k its.toArray) = (acc ++ (List.replicate k its).flatten).toArray := by
  intro k
  induction k with
  | zero => intro acc; simp
  | succ k ih =>
    intro acc
    rw [List.replicate_succ, List.foldl_cons, List.append_toArray, ih, List.replicate_succ, List.flatten_cons, List.append_assoc]
def strRep (x : Str) (k : Int) : Str := ⟨(List.replicate k.toNat x.cps.toList).flatten.toArray⟩
def rMulS : R2 := fun x y H Q => ∃ (z : Str) (k : Int), x = .str z ∧ y = .int k ∧ 0 ≤ k ∧ k < 2 ^ 62 ∧ z.length * k.toNat ≤ big ∧ Q (.str (strRep z k)) H
section
variable {X : Cx}
theorem op_mulS : OpR X (binaryOp .Mult) rMulS := by
  intro pins s σ H x y v u Q I rx ry q
  obtain ⟨z, k, rfl, rfl, h0, h1, h2, q⟩ := q
  obtain ⟨t, rfl⟩ := rx
  obtain ⟨t', rfl⟩ := ry
  have hz : (z.length : Int) * k ≤ 16777216 := by
    have : ((z.length * k.toNat : Nat) : Int) ≤ ((big : Nat) : Int) := by exact_mod_cast h2
    rw [Int.natCast_mul, Int.toNat_of_nonneg h0] at this
    exact this
  refine PySem.P.mul_str (by rw [decide_eq_false (by omega), decide_eq_false (by omega)] <;> rfl) (fun a b => ?_) (fun a b => ?_) ?_
  · intro c
    have hk : 0 < k := by omega
    have c2 : (2 ^ 63 - 1) / k < (z.length : Int) := c
    rw [Int.ediv_lt_iff_lt_mul hk] at c2
    omega
  · show decide _ = false
    exact decide_eq_false (by show ¬ (z.length * k.toNat > sizeLine); rw [← big_eq]; omega)
  · split
    · rename_i hk
      refine ⟨by decide, ?_⟩
      have e : strRep z k = Str.empty := by
        have : k.toNat = 0 := by omega
        unfold strRep
        rw [this]
        rfl
      exact ⟨.str _, H, I.tok _, ⟨_, rfl⟩, e ▸ q⟩
    · rename_i hk
      split
      · rename_i hc
        have e : strRep z k = z := by
          rcases (Bool.or_eq_true_iff.mp hc) with c | c
          · have : k.toNat = 1 := by have := eq_of_beq c; omega
            unfold strRep
            rw [this]
            simp
          · have c' : z.cps.size = 0 := eq_of_beq c
            have c2 : z.cps = #[] := Array.eq_empty_of_size_eq_zero c'
            unfold strRep
            rw [c2]
            obtain ⟨zz⟩ := z
            simp at c2
            subst c2
            simp
        exact ⟨.str _, H, I, ⟨_, rfl⟩, e ▸ q⟩
      · have e : (⟨(List.replicate k.toNat z.cps).foldl (· ++ ·) #[]⟩ : Str) = strRep z k := by
          unfold strRep
          have := foldl_repN z.cps.toList k.toNat []
          simp only [List.nil_append, Array.toArray_toList] at this
          rw [← this]
        rw [e]
        refine ⟨?_, ⟨.str _, H, I.tok _, ⟨_, rfl⟩, q⟩⟩
        show (strRep z k).cps.size ≤ sizeLine
        unfold strRep
        simp only [List.size_toArray, List.length_flatten, List.map_replicate, List.sum_replicate_nat, Array.length_toList]
        rw [← big_eq, Nat.mul_comm]
        exact h2
def rMulA : R2 := fun x y H Q => rI CMulW (fun i j => .int (i * j)) x y H Q ∨ (rRep x y H Q ∨ rMulS x y H Q)
theorem op_mulA : OpR X (binaryOp .Mult) rMulA := OpR.or op_mulW (OpR.or op_rep op_mulS)
end
section
variable {cm : Nat → Addr} {X : Cx} {xw : WX} {a b c : Expr} {ma mb mc : M D} {pos : Pos}
theorem r2_mul : R2Ok cm X xw rMulA (fun x y => M.lift (D.mul x y)) := by
  intro g w σ H x y dx dy Q N r hN qx qy k
  obtain ⟨z, e, k⟩ := GPost.lift k
  cases qx with
  | int i =>
    cases qy with
    | int j =>
      have e' : (if i.natAbs.log2 + j.natAbs.log2 < 1000000 then some (R.val (.int (i * j))) else none) = some z := e
      split at e'
      · rename_i h
        cases e'
        exact .inl ⟨i, j, rfl, rfl, h, GPost.here r k _ (.int _)⟩
      · cases e'
    | _ => cases e
  | str x0 =>
    cases qy with
    | int i =>
      have e' : (if 0 ≤ i ∧ i < 2 ^ 62 ∧ x0.length * i.toNat ≤ big then some (R.val (.str (strRep x0 i))) else none) = some z := e
      split at e'
      · rename_i h
        cases e'
        obtain ⟨c1, c2, c3⟩ := h
        exact .inr (.inr ⟨x0, i, rfl, rfl, c1, c2, c3, GPost.here r k _ (.str _)⟩)
      · cases e'
    | _ => cases e
  | lst h1 h2 =>
    rename_i l1 v1 d1
    cases qy with
    | int i =>
      have e' : (if -(2 ^ 63) ≤ i ∧ i < 2 ^ 63 ∧ d1.length * i.toNat ≤ big then some (R.own (List.replicate i.toNat d1).flatten) else none) = some z := e
      split at e'
      · rename_i h
        cases e'
        obtain ⟨c1, c2, c3⟩ := h
        exact .inr (.inl ⟨_, i, _, rfl, rfl, r.ex _ _ h1, c1, c2, by rw [← big_eq, h2.length]; exact c3, GPost.o r hN k (h2.rep _)⟩)
      · cases e'
    | _ => cases e
  | _ => cases e
theorem de_mul (ha : DV cm X xw a ma) (hb : DV cm X xw b mb) : DE cm X xw (.BinOp a .Mult b pos) (bind2 ma mb fun x y => M.lift (D.mul x y)) := by
  obtain ⟨ta, pa, oa⟩ := ha
  obtain ⟨tb, pb, ob⟩ := hb
  exact ⟨_, pe_op op_mulA pa pb, eok_op oa ob r2_mul⟩
end

/-! ### comparisons: a truth of two values -/
def cmpM (a b : M D) (f : D → D → Option Bool) : M Bool := bind2 a b fun x y => M.lift (f x y)
def B2Ok (X : Cx) (cm : Nat → Addr) (r : R2) (f : D → D → Option Bool) : Prop := ∀ g w σ H x y dx dy b (Q : VK), Rel X.K cm g w σ H → Rep X.K g x dx → Rep X.K g y dy → f dx dy = some b → Q (.bl b) H → r x y H Q
section
variable {cm : Nat → Addr} {X : Cx} {xw : WX} {a b c : Expr} {ma mb mc : M D} {pos : Pos} {ta tb tc : TE} {r : R2} {f : D → D → Option Bool}
theorem tok_cmp (ha : VOk cm X xw ta ma) (hb : VOk cm X xw tb mb) (hr : B2Ok X cm r f) : TOk cm X xw (tTest (tOp r ta tb)) (cmpM ma mb f) := by
  intro g w σ H Q r k
  refine ha g w σ H _ r (GPost.imp (fun g1 w1 H1 d r1 s1 k1 v q => ?_) (GPost.bind k))
  refine hb g1 w1 σ H1 _ r1 (GPost.imp (fun g2 w2 H2 d2 r2 s2 k2 v2 q2 => ?_) (GPost.bind k1))
  obtain ⟨z, e, k3⟩ := GPost.lift k2
  exact hr g2 w2 σ H2 v v2 d d2 z _ r2 (q.mono s2.le) q2 e ⟨z, rfl, GPost.here r2 k3⟩
theorem vok_cmp (ha : VOk cm X xw ta ma) (hb : VOk cm X xw tb mb) (hr : B2Ok X cm r f) : VOk cm X xw (tOp r ta tb) (M.map D.bl (cmpM ma mb f)) := by
  intro g w σ H Q r k0
  have k := GPost.map k0
  refine ha g w σ H _ r (GPost.imp (fun g1 w1 H1 d r1 s1 k1 v q => ?_) (GPost.bind k))
  refine hb g1 w1 σ H1 _ r1 (GPost.imp (fun g2 w2 H2 d2 r2 s2 k2 v2 q2 => ?_) (GPost.bind k1))
  obtain ⟨z, e, k3⟩ := GPost.lift k2
  exact hr g2 w2 σ H2 v v2 d d2 z _ r2 (q.mono s2.le) q2 e (GPost.here r2 k3 _ (.bl _))
theorem dt_cmp {op : CmpOp} (ho : OpR X (compareOp op) r) (hr : B2Ok X cm r f) (ha : DV cm X xw a ma) (hb : DV cm X xw b mb) (hm : behindInMarks op b = false) : DT cm X xw (.Compare a [op] [b] pos) (cmpM ma mb f) := by
  obtain ⟨ta, pa, oa⟩ := ha
  obtain ⟨tb, pb, ob⟩ := hb
  exact ⟨_, pt_cmpR ho pa pb hm, tok_cmp oa ob hr⟩
theorem dv_cmp {op : CmpOp} (ho : OpR X (compareOp op) r) (hr : B2Ok X cm r f) (ha : DV cm X xw a ma) (hb : DV cm X xw b mb) (hm : behindInMarks op b = false) : DV cm X xw (.Compare a [op] [b] pos) (M.map D.bl (cmpM ma mb f)) := by
  obtain ⟨ta, pa, oa⟩ := ha
  obtain ⟨tb, pb, ob⟩ := hb
  exact ⟨_, pe_cmpR ho pa pb hm, vok_cmp oa ob hr⟩
end
namespace D
mutual
/-- data as the library's -/
def py : D → Option PyData
  | .non => some .none
  | .bl b => some (.bool b)
  | .int i => some (.int i)
  | .str s => some (.str s)
  | .lst ds => (pys ds).map PyData.list
  | .tup ds => (pys ds).map PyData.tuple
  | .dic => none
  | .ref _ => none
  | .scr _ => none
  | .raw _ => none
def pys : List D → Option (List PyData)
  | [] => some []
  | d :: ds => match py d with
    | some p => (match pys ds with
      | some ps => some (p :: ps)
      | none => none)
    | none => none
end
def eqPy (a b : D) : Option Bool := match a.py, b.py with
  | some p, some q => if SeqAt.shaped p = true ∧ SeqAt.shaped q = true then some (PyData.eqv p q) else none
  | _, _ => none
/-- == -/
def eq? : D → D → Option Bool
  | .str a, .str b => some (decide (a = b))
  | .int a, .int b => some (decide (a = b))
  | .bl a, .bl b => some (decide (a = b))
  | .non, .non => some true
  | .int _, .str _ => some false
  | .str _, .int _ => some false
  | .non, .str _ => some false
  | .str _, .non => some false
  | .non, .int _ => some false
  | .int _, .non => some false
  | .bl _, .str _ => some false
  | .str _, .bl _ => some false
  | .bl _, .non => some false
  | .non, .bl _ => some false
  | a, b => eqPy a b
def ne? (a b : D) : Option Bool := (eq? a b).map (!·)
def lt? : D → D → Option Bool
  | .int a, .int b => some (decide (a < b))
  | _, _ => none
def le? : D → D → Option Bool
  | .int a, .int b => some (decide (a ≤ b))
  | _, _ => none
def gt? : D → D → Option Bool
  | .int a, .int b => some (decide (b < a))
  | _, _ => none
def ge? : D → D → Option Bool
  | .int a, .int b => some (decide (b ≤ a))
  | _, _ => none
def isNon : D → Bool
  | .non => true
  | _ => false
def is? : D → D → Option Bool
  | a, .non => some (isNon a)
  | _, _ => none
def isnt? : D → D → Option Bool
  | a, .non => some (!isNon a)
  | _, _ => none
/-- flat data, == of such -/
def flat : D → Bool
  | .non => true
  | .bl _ => true
  | .int _ => true
  | .str _ => true
  | _ => false
def eqF : D → D → Bool
  | .non, .non => true
  | .bl a, .bl b => a == b
  | .bl a, .int b => (if a then 1 else 0) == b
  | .int a, .bl b => a == (if b then 1 else 0)
  | .int a, .int b => a == b
  | .str a, .str b => a == b
  | _, _ => false
def in? : D → D → Option Bool
  | .str x, .str z => if x.cps.size = 1 then some (decide (x.cps.getD 0 0 ∈ z.cps.toList)) else none
  | x, .tup ds => if flat x = true ∧ ds.all flat = true then some (ds.any fun y => eqF y x) else none
  | x, .lst ds => if flat x = true ∧ ds.all flat = true then some (ds.any fun y => eqF y x) else (match x.py, pys ds with
    | some p, some ps => if SeqAt.shaped p = true ∧ SeqAt.shaped (.list ps) = true then some (ps.any fun z => PyData.eqv z p) else none
    | _, _ => none)
  | _, _ => none
def notIn? (a b : D) : Option Bool := (in? a b).map (!·)
end D
section
variable {K : PySem.W.Frag} {g : Wd} {H : Hp}
mutual
theorem Rep.dp (e : Ex g.B H) : ∀ (d : D) (v : V) (p : PyData), Rep K g v d → d.py = some p → Dp K H v p
  | .non, _, _, h, q => by cases h; unfold D.py at q; cases q; exact .non
  | .bl b, _, _, h, q => by cases h; unfold D.py at q; cases q; exact .bl b
  | .int i, _, _, h, q => by cases h; unfold D.py at q; cases q; exact .int i
  | .str s, _, _, h, q => by cases h; unfold D.py at q; cases q; exact .str s
  | .lst ds, _, p, h, q => by
    unfold D.py at q
    cases h with
    | lst h1 h2 =>
      cases e2 : D.pys ds with
      | none => rw [e2] at q; cases q
      | some ps =>
        rw [e2] at q
        cases q
        exact .lst (.inl (.inl (e _ _ h1))) (Reps.dp e ds _ ps h2 e2)
  | .tup ds, _, p, h, q => by
    unfold D.py at q
    cases h with
    | tup h1 h2 =>
      cases e2 : D.pys ds with
      | none => rw [e2] at q; cases q
      | some ps =>
        rw [e2] at q
        cases q
        exact .tup (ex_t e h1) (Reps.dp e ds _ ps h2 e2)
  | .dic, _, _, h, q => by unfold D.py at q; cases q
  | .ref _, _, _, h, q => by unfold D.py at q; cases q
  | .scr _, _, _, h, q => by unfold D.py at q; cases q
  | .raw _, _, _, h, q => by unfold D.py at q; cases q
theorem Reps.dp (e : Ex g.B H) : ∀ (ds : List D) (vs : List V) (ps : List PyData), Reps K g vs ds → D.pys ds = some ps → DpAll K H vs ps
  | [], _, _, h, q => by cases h; unfold D.pys at q; cases q; exact .nil
  | d :: ds, _, ps, h, q => by
    cases h with
    | cons h1 h2 =>
      unfold D.pys at q
      cases e1 : d.py with
      | none => rw [e1] at q; cases q
      | some p =>
        rw [e1] at q
        cases e2 : D.pys ds with
        | none => rw [e2] at q; cases q
        | some qs =>
          rw [e2] at q
          cases q
          exact .cons (Rep.dp e d _ p h1 e1) (Reps.dp e ds _ qs h2 e2)
end
end
section
variable {cm : Nat → Addr} {X : Cx} {xw : WX} {a b c : Expr} {ma mb mc : M D} {pos : Pos}
def rEqA (K : PySem.W.Frag) : R2 := fun x y H Q => rEq x y H Q ∨ rEqD K x y H Q
def rNeA (K : PySem.W.Frag) : R2 := fun x y H Q => rNe x y H Q ∨ rNeD K x y H Q
theorem eqPy_ok {K : PySem.W.Frag} {g : Wd} {w : W} {σ : L2.St} {H : Hp} {x y : V} {dx dy : D} {b : Bool} (r : Rel K cm g w σ H) (qx : Rep K g x dx) (qy : Rep K g y dy) (e : D.eqPy dx dy = some b) :
    ∃ p q, Dp K H x p ∧ Dp K H y q ∧ SeqAt.shaped p = true ∧ SeqAt.shaped q = true ∧ PyData.eqv p q = b := by
  unfold D.eqPy at e
  cases e1 : dx.py with
  | none => rw [e1] at e; cases e
  | some p =>
    cases e2 : dy.py with
    | none => rw [e1, e2] at e; cases e
    | some q =>
      rw [e1, e2] at e
      have e3 : (if SeqAt.shaped p = true ∧ SeqAt.shaped q = true then some (PyData.eqv p q) else none) = some b := e
      split at e3
      · cases e3
        rename_i h
        exact ⟨p, q, Rep.dp r.ex _ _ _ qx e1, Rep.dp r.ex _ _ _ qy e2, h.1, h.2, rfl⟩
      · cases e3
theorem b2_eq : B2Ok X cm (rEqA X.K) D.eq? := by
  intro g w σ H x y dx dy b Q r qx qy e q
  unfold D.eq? at e
  split at e
  case h_15 =>
    obtain ⟨p, p', h1, h2, h3, h4, h5⟩ := eqPy_ok (cm := cm) r qx qy e
    exact .inr ⟨p, p', h1, h2, h3, h4, h5 ▸ q⟩
  all_goals (cases qx; cases qy; cases e; refine .inl ⟨rfl, ?_⟩; first | exact q | (simpa using q))
theorem b2_ne : B2Ok X cm (rNeA X.K) D.ne? := by
  intro g w σ H x y dx dy b Q r qx qy e q
  unfold D.ne? at e
  cases e0 : D.eq? dx dy with
  | none => rw [e0] at e; cases e
  | some b0 =>
    rw [e0] at e
    cases e
    unfold D.eq? at e0
    split at e0
    case h_15 =>
      obtain ⟨p, p', h1, h2, h3, h4, h5⟩ := eqPy_ok (cm := cm) r qx qy e0
      exact .inr ⟨p, p', h1, h2, h3, h4, by rw [h5]; exact q⟩
    all_goals (cases qx; cases qy; cases e0; refine .inl ⟨rfl, ?_⟩; first | exact q | (simpa using q))
end
end DL

/-! DExprC: comparisons, tests, and | or | not, conditional expressions, displays. -/
namespace DL
open PySem L2 Evl
section
variable {cm : Nat → Addr} {X : Cx} {xw : WX} {a b c : Expr} {ma mb mc : M D} {pos : Pos}
abbrev rcI (f : Int → Int → Bool) : R2 := rI0 fun i j => .bl (f i j)
theorem b2_int {f : D → D → Option Bool} {p : Int → Int → Bool} (hf : ∀ x y z, f x y = some z → ∃ i j, x = .int i ∧ y = .int j ∧ z = p i j) : B2Ok X cm (rcI p) f := by
  intro g w σ H x y dx dy b Q r qx qy e q
  obtain ⟨i, j, rfl, rfl, rfl⟩ := hf _ _ _ e
  cases qx
  cases qy
  exact ⟨i, j, rfl, rfl, q⟩
theorem b2_lt : B2Ok X cm (rcI fun i j => decide (i < j)) D.lt? := b2_int fun x y z e => by
  unfold D.lt? at e
  split at e <;> cases e
  exact ⟨_, _, rfl, rfl, rfl⟩
theorem b2_le : B2Ok X cm (rcI fun i j => decide (i ≤ j)) D.le? := b2_int fun x y z e => by
  unfold D.le? at e
  split at e <;> cases e
  exact ⟨_, _, rfl, rfl, rfl⟩
theorem b2_gt : B2Ok X cm (rcI fun i j => decide (j < i)) D.gt? := b2_int fun x y z e => by
  unfold D.gt? at e
  split at e <;> cases e
  exact ⟨_, _, rfl, rfl, rfl⟩
theorem b2_ge : B2Ok X cm (rcI fun i j => decide (j ≤ i)) D.ge? := b2_int fun x y z e => by
  unfold D.ge? at e
  split at e <;> cases e
  exact ⟨_, _, rfl, rfl, rfl⟩
theorem Rep.isNon {K : PySem.W.Frag} {g : Wd} {x : V} {d : D} (q : Rep K g x d) : decide (x = .non) = d.isNon := by
  cases q <;> simp [D.isNon]
abbrev rIsN1 : R2 := fun x y H Q => y = .non ∧ Q (.bl (decide (x = .non))) H
abbrev rNotN1 : R2 := fun x y H Q => y = .non ∧ Q (.bl (!decide (x = .non))) H
theorem b2_is : B2Ok X cm rIsN1 D.is? := by
  intro g w σ H x y dx dy b Q r qx qy e q
  cases qy <;> cases e
  exact ⟨rfl, by rw [qx.isNon]; exact q⟩
theorem b2_isnt : B2Ok X cm rNotN1 D.isnt? := by
  intro g w σ H x y dx dy b Q r qx qy e q
  cases qy <;> cases e
  exact ⟨rfl, by rw [qx.isNon]; exact q⟩
/-- flat data -/
theorem Rep.flat {K : PySem.W.Frag} {g : Wd} {x : V} {d : D} (q : Rep K g x d) (h : d.flat = true) : flatV x = true := by
  cases q <;> first | rfl | cases h
theorem Rep.eqF {K : PySem.W.Frag} {g : Wd} {x y : V} {d e : D} (q : Rep K g x d) (q' : Rep K g y e) (h : d.flat = true) (h' : e.flat = true) : eqV x y = D.eqF d e := by
  cases q <;> first | (cases h; done) | (cases q' <;> first | rfl | (cases h'; done))
theorem Reps.flat {K : PySem.W.Frag} {g : Wd} : ∀ {xs : List V} {ds : List D}, Reps K g xs ds → ds.all D.flat = true → xs.all flatV = true
  | _, _, .nil, _ => rfl
  | _, _, .cons a b, h => by
    rw [List.all_cons, Bool.and_eq_true] at h
    rw [List.all_cons, a.flat h.1, Reps.flat b h.2]
    rfl
theorem Reps.anyF {K : PySem.W.Frag} {g : Wd} {x : V} {d : D} (q : Rep K g x d) (h : d.flat = true) : ∀ {xs : List V} {ds : List D}, Reps K g xs ds → ds.all D.flat = true → inV x xs = ds.any fun y => D.eqF y d
  | _, _, .nil, _ => rfl
  | _, _, .cons a b, h' => by
    rw [List.all_cons, Bool.and_eq_true] at h'
    unfold inV
    rw [List.any_cons, List.any_cons, a.eqF q h'.1 h]
    have := Reps.anyF q h b h'.2
    unfold inV at this
    rw [this]
abbrev rInSg : R2 := fun x y H Q => ∃ (c : Nat) (z : Str), x = .str ⟨#[c]⟩ ∧ y = .str z ∧ Q (.bl (decide (c ∈ z.cps.toList))) H
abbrev rNotInSg : R2 := fun x y H Q => ∃ (c : Nat) (z : Str), x = .str ⟨#[c]⟩ ∧ y = .str z ∧ Q (.bl (!decide (c ∈ z.cps.toList))) H
def rInA (K : PySem.W.Frag) : R2 := fun x y H Q => rInSg x y H Q ∨ (rIn K false x y H Q ∨ rInD K x y H Q)
def rNotInA (K : PySem.W.Frag) : R2 := fun x y H Q => rNotInSg x y H Q ∨ (rIn K true x y H Q ∨ rNotInD K x y H Q)
theorem op_inA (hu : X.A.units + 65 < cLine) : OpR X (compareOp .In) (rInA X.K) := OpR.or op_in_sign (OpR.or op_in_seq (op_inD hu))
theorem op_notInA (hu : X.A.units + 65 < cLine) : OpR X (compareOp .NotIn) (rNotInA X.K) := OpR.or op_notIn_sign (OpR.or op_notIn_seq (op_notInD hu))
theorem one_sign {x : Str} (h : x.cps.size = 1) : x = ⟨#[x.cps.getD 0 0]⟩ := by
  obtain ⟨⟨l⟩⟩ := x
  cases l with
  | nil => cases h
  | cons c r =>
    cases r with
    | nil => rfl
    | cons d r => simp at h
theorem in_cases {K : PySem.W.Frag} {g : Wd} {w : W} {σ : L2.St} {H : Hp} {x y : V} {dx dy : D} {b : Bool} (r : Rel K cm g w σ H) (qx : Rep K g x dx) (qy : Rep K g y dy) (e : D.in? dx dy = some b) :
    (∃ (c : Nat) (z : Str), x = .str ⟨#[c]⟩ ∧ y = .str z ∧ decide (c ∈ z.cps.toList) = b) ∨
    (∃ p xs, y = .ref p ∧ (SqL K H p xs ∨ SqT K H p xs) ∧ flatV x = true ∧ xs.all flatV = true ∧ inV x xs = b) ∨
    (∃ d ds, Dp K H x d ∧ Dp K H y (.list ds) ∧ SeqAt.shaped d = true ∧ SeqAt.shaped (.list ds) = true ∧ (ds.any fun z => PyData.eqv z d) = b) := by
  unfold D.in? at e
  split at e
  · split at e
    · rename_i h
      cases e
      cases qx
      cases qy
      rename_i x0 z0
      exact .inl ⟨_, z0, congrArg V.str (one_sign h), rfl, rfl⟩
    · cases e
  · split at e
    · rename_i h
      cases e
      cases qy with
      | tup h1 h2 => exact .inr (.inl ⟨_, _, rfl, .inr (ex_t r.ex h1), qx.flat h.1, h2.flat h.2, h2.anyF qx h.1 h.2⟩)
    · cases e
  · rename_i ds0 _
    split at e
    · rename_i h
      cases e
      cases qy with
      | lst h1 h2 => exact .inr (.inl ⟨_, _, rfl, .inl (.inl (.inl (r.ex _ _ h1))), qx.flat h.1, h2.flat h.2, h2.anyF qx h.1 h.2⟩)
    · split at e
      · rename_i p ps e1 e2
        split at e
        · rename_i h
          cases e
          exact .inr (.inr ⟨p, ps, Rep.dp r.ex _ _ _ qx e1, Rep.dp r.ex _ _ (.list ps) qy (by unfold D.py; rw [e2]; rfl), h.1, h.2, rfl⟩)
        · cases e
      · cases e
  · cases e
theorem b2_in : B2Ok X cm (rInA X.K) D.in? := by
  intro g w σ H x y dx dy b Q r qx qy e q
  rcases in_cases (cm := cm) r qx qy e with ⟨c, z, h1, h2, rfl⟩ | ⟨p, xs, h1, h2, h3, h4, rfl⟩ | ⟨d, ds, h1, h2, h3, h4, rfl⟩
  · exact .inl ⟨c, z, h1, h2, q⟩
  · exact .inr (.inl ⟨p, xs, h1, h2, h3, h4, q⟩)
  · exact .inr (.inr ⟨d, ds, h1, h2, h3, h4, q⟩)
theorem b2_notIn : B2Ok X cm (rNotInA X.K) D.notIn? := by
  intro g w σ H x y dx dy b Q r qx qy e q
  unfold D.notIn? at e
  obtain ⟨b0, e0, rfl⟩ := Option.map_eq_some_iff.mp e
  rcases in_cases (cm := cm) r qx qy e0 with ⟨c, z, h1, h2, rfl⟩ | ⟨p, xs, h1, h2, h3, h4, rfl⟩ | ⟨d, ds, h1, h2, h3, h4, rfl⟩
  · exact .inl ⟨c, z, h1, h2, q⟩
  · exact .inr (.inl ⟨p, xs, h1, h2, h3, h4, q⟩)
  · exact .inr (.inr ⟨d, ds, h1, h2, h3, h4, q⟩)
/-! #### the forms one uses: a test, a value -/
theorem op_eqA (hu : X.A.units + 64 < cLine) : OpR X (compareOp .Eq) (rEqA X.K) := OpR.or op_eq (op_eqD hu)
theorem op_neA (hu : X.A.units + 64 < cLine) : OpR X (compareOp .NotEq) (rNeA X.K) := OpR.or op_ne (op_neD hu)
theorem dt_eq (hu : X.A.units + 64 < cLine) (ha : DV cm X xw a ma) (hb : DV cm X xw b mb) : DT cm X xw (.Compare a [.Eq] [b] pos) (cmpM ma mb D.eq?) := dt_cmp (op_eqA hu) b2_eq ha hb (nomark _)
theorem dv_eq (hu : X.A.units + 64 < cLine) (ha : DV cm X xw a ma) (hb : DV cm X xw b mb) : DV cm X xw (.Compare a [.Eq] [b] pos) (M.map D.bl (cmpM ma mb D.eq?)) := dv_cmp (op_eqA hu) b2_eq ha hb (nomark _)
theorem dt_ne (hu : X.A.units + 64 < cLine) (ha : DV cm X xw a ma) (hb : DV cm X xw b mb) : DT cm X xw (.Compare a [.NotEq] [b] pos) (cmpM ma mb D.ne?) := dt_cmp (op_neA hu) b2_ne ha hb (nomark _)
theorem dv_ne (hu : X.A.units + 64 < cLine) (ha : DV cm X xw a ma) (hb : DV cm X xw b mb) : DV cm X xw (.Compare a [.NotEq] [b] pos) (M.map D.bl (cmpM ma mb D.ne?)) := dv_cmp (op_neA hu) b2_ne ha hb (nomark _)
theorem dt_lt (ha : DV cm X xw a ma) (hb : DV cm X xw b mb) : DT cm X xw (.Compare a [.Lt] [b] pos) (cmpM ma mb D.lt?) := dt_cmp op_lt b2_lt ha hb (nomark _)
theorem dv_lt (ha : DV cm X xw a ma) (hb : DV cm X xw b mb) : DV cm X xw (.Compare a [.Lt] [b] pos) (M.map D.bl (cmpM ma mb D.lt?)) := dv_cmp op_lt b2_lt ha hb (nomark _)
theorem dt_le (ha : DV cm X xw a ma) (hb : DV cm X xw b mb) : DT cm X xw (.Compare a [.LtE] [b] pos) (cmpM ma mb D.le?) := dt_cmp op_le b2_le ha hb (nomark _)
theorem dv_le (ha : DV cm X xw a ma) (hb : DV cm X xw b mb) : DV cm X xw (.Compare a [.LtE] [b] pos) (M.map D.bl (cmpM ma mb D.le?)) := dv_cmp op_le b2_le ha hb (nomark _)
theorem dt_gt (ha : DV cm X xw a ma) (hb : DV cm X xw b mb) : DT cm X xw (.Compare a [.Gt] [b] pos) (cmpM ma mb D.gt?) := dt_cmp op_gt b2_gt ha hb (nomark _)
theorem dv_gt (ha : DV cm X xw a ma) (hb : DV cm X xw b mb) : DV cm X xw (.Compare a [.Gt] [b] pos) (M.map D.bl (cmpM ma mb D.gt?)) := dv_cmp op_gt b2_gt ha hb (nomark _)
theorem dt_ge (ha : DV cm X xw a ma) (hb : DV cm X xw b mb) : DT cm X xw (.Compare a [.GtE] [b] pos) (cmpM ma mb D.ge?) := dt_cmp op_ge b2_ge ha hb (nomark _)
theorem dv_ge (ha : DV cm X xw a ma) (hb : DV cm X xw b mb) : DV cm X xw (.Compare a [.GtE] [b] pos) (M.map D.bl (cmpM ma mb D.ge?)) := dv_cmp op_ge b2_ge ha hb (nomark _)
theorem dt_is (ha : DV cm X xw a ma) (hb : DV cm X xw b mb) : DT cm X xw (.Compare a [.Is] [b] pos) (cmpM ma mb D.is?) := dt_cmp op_isN b2_is ha hb (nomark _)
theorem dv_is (ha : DV cm X xw a ma) (hb : DV cm X xw b mb) : DV cm X xw (.Compare a [.Is] [b] pos) (M.map D.bl (cmpM ma mb D.is?)) := dv_cmp op_isN b2_is ha hb (nomark _)
theorem dt_isnt (ha : DV cm X xw a ma) (hb : DV cm X xw b mb) : DT cm X xw (.Compare a [.IsNot] [b] pos) (cmpM ma mb D.isnt?) := dt_cmp op_notN b2_isnt ha hb (nomark _)
theorem dv_isnt (ha : DV cm X xw a ma) (hb : DV cm X xw b mb) : DV cm X xw (.Compare a [.IsNot] [b] pos) (M.map D.bl (cmpM ma mb D.isnt?)) := dv_cmp op_notN b2_isnt ha hb (nomark _)
theorem dt_in (hu : X.A.units + 65 < cLine) (ha : DV cm X xw a ma) (hb : DV cm X xw b mb) (hm : behindInMarks .In b = false) : DT cm X xw (.Compare a [.In] [b] pos) (cmpM ma mb D.in?) := dt_cmp (op_inA hu) b2_in ha hb hm
theorem dv_in (hu : X.A.units + 65 < cLine) (ha : DV cm X xw a ma) (hb : DV cm X xw b mb) (hm : behindInMarks .In b = false) : DV cm X xw (.Compare a [.In] [b] pos) (M.map D.bl (cmpM ma mb D.in?)) := dv_cmp (op_inA hu) b2_in ha hb hm
theorem dt_notIn (hu : X.A.units + 65 < cLine) (ha : DV cm X xw a ma) (hb : DV cm X xw b mb) (hm : behindInMarks .NotIn b = false) : DT cm X xw (.Compare a [.NotIn] [b] pos) (cmpM ma mb D.notIn?) := dt_cmp (op_notInA hu) b2_notIn ha hb hm
theorem dv_notIn (hu : X.A.units + 65 < cLine) (ha : DV cm X xw a ma) (hb : DV cm X xw b mb) (hm : behindInMarks .NotIn b = false) : DV cm X xw (.Compare a [.NotIn] [b] pos) (M.map D.bl (cmpM ma mb D.notIn?)) := dv_cmp (op_notInA hu) b2_notIn ha hb hm
end

/-! ### tests -/
namespace M
def tru (m : M D) : M Bool := M.bind m fun d => M.lift (match d with
  | .bl b => some b
  | _ => none)
def and (a b : M Bool) : M Bool := M.bind a fun x => cond x b (M.ret false)
def or (a b : M Bool) : M Bool := M.bind a fun x => cond x (M.ret true) b
def not (a : M Bool) : M Bool := M.map (!·) a
def ite {α : Type} (t : M Bool) (a b : M α) : M α := M.bind t fun x => cond x a b
end M
section
variable {cm : Nat → Addr} {X : Cx} {xw : WX} {a b c : Expr} {ma mb mc : M D} {ta tb tc : M Bool} {pos : Pos} {rest : List Expr}
theorem dt_val (ha : DV cm X xw a ma) (he : ∀ whole, isTrue a X.env whole = (do let v ← whole; standAt a.pos; holding [v] (truthy v)) := by intro _; rfl) : DT cm X xw a (M.tru ma) := by
  obtain ⟨t, p, o⟩ := ha
  refine ⟨_, pt_val p he, fun g w σ H Q r k => ?_⟩
  refine o g w σ H _ r (GPost.imp (fun g1 w1 H1 d r1 s1 k1 v q => ?_) (GPost.bind k))
  obtain ⟨z, e, k2⟩ := GPost.lift k1
  cases q <;> cases e
  exact ⟨_, rfl, GPost.here r1 k2⟩
theorem dw_and1 (ha : DT cm X xw a ta) : DW cm X xw (.BoolOp .And [a] pos) ta := by
  obtain ⟨t, p, o⟩ := ha
  exact ⟨_, pw_and1 p, o⟩
theorem dw_or1 (ha : DT cm X xw a ta) : DW cm X xw (.BoolOp .Or [a] pos) ta := by
  obtain ⟨t, p, o⟩ := ha
  exact ⟨_, pw_or1 p, o⟩
theorem dw_and (ha : DT cm X xw a ta) (hb : DW cm X xw (.BoolOp .And (b :: rest) pos) tb) : DW cm X xw (.BoolOp .And (a :: b :: rest) pos) (M.and ta tb) := by
  obtain ⟨t, p, o⟩ := ha
  obtain ⟨u, p', o'⟩ := hb
  refine ⟨_, pw_and p p', fun g w σ H Q r k => ?_⟩
  refine o g w σ H _ r (GPost.imp (fun g1 w1 H1 d r1 s1 k1 => ?_) (GPost.bind k))
  cases d with
  | true => exact o' g1 w1 σ H1 Q r1 k1
  | false => exact GPost.here (xw := xw) (a := false) r1 k1
theorem dw_or (ha : DT cm X xw a ta) (hb : DW cm X xw (.BoolOp .Or (b :: rest) pos) tb) : DW cm X xw (.BoolOp .Or (a :: b :: rest) pos) (M.or ta tb) := by
  obtain ⟨t, p, o⟩ := ha
  obtain ⟨u, p', o'⟩ := hb
  refine ⟨_, pw_or p p', fun g w σ H Q r k => ?_⟩
  refine o g w σ H _ r (GPost.imp (fun g1 w1 H1 d r1 s1 k1 => ?_) (GPost.bind k))
  cases d with
  | true => exact GPost.here (xw := xw) (a := true) r1 k1
  | false => exact o' g1 w1 σ H1 Q r1 k1
theorem DW.t {e : Expr} (h : DW cm X xw e ta) : DT cm X xw e ta := by
  obtain ⟨t, p, o⟩ := h
  exact ⟨_, p.pt, o⟩
theorem dt_not (ha : DT cm X xw a ta) : DT cm X xw (.UnaryOp .Not a pos) (M.not ta) := by
  obtain ⟨t, p, o⟩ := ha
  refine ⟨_, pt_not p, fun g w σ H Q r k => ?_⟩
  exact o g w σ H _ r (GPost.map (f := fun x => !x) k)
/-- as values: all but the last are truths -/
theorem dv_one {op : BoolOp} (ha : DV cm X xw a ma) : DV cm X xw (.BoolOp op [a] pos) ma := by
  obtain ⟨t, p, o⟩ := ha
  exact ⟨_, pe_one p, o⟩
theorem dv_and (ha : DV cm X xw a ma) (hb : DV cm X xw (.BoolOp .And (b :: rest) pos) mb) : DV cm X xw (.BoolOp .And (a :: b :: rest) pos) (M.bind (M.tru ma) fun x => cond x mb (M.ret (.bl false))) := by
  obtain ⟨t, p, o⟩ := ha
  obtain ⟨u, p', o'⟩ := hb
  refine ⟨_, pe_and p p', fun g w σ H Q r k => ?_⟩
  have k' := GPost.bind k
  unfold M.tru at k'
  refine o g w σ H _ r (GPost.imp (fun g1 w1 H1 d r1 s1 k1 v q => ?_) (GPost.bind k'))
  obtain ⟨z, e, k2⟩ := GPost.lift k1
  have k3 := GPost.here r1 k2
  cases q <;> cases e
  refine ⟨_, rfl, ?_⟩
  cases z with
  | true => exact o' g1 w1 σ H1 Q r1 k3
  | false => exact GPost.v (xw := xw) (cm := cm) (d := .bl false) r1 k3 (.bl _)
theorem dv_or (ha : DV cm X xw a ma) (hb : DV cm X xw (.BoolOp .Or (b :: rest) pos) mb) : DV cm X xw (.BoolOp .Or (a :: b :: rest) pos) (M.bind (M.tru ma) fun x => cond x (M.ret (.bl true)) mb) := by
  obtain ⟨t, p, o⟩ := ha
  obtain ⟨u, p', o'⟩ := hb
  refine ⟨_, pe_or p p', fun g w σ H Q r k => ?_⟩
  have k' := GPost.bind k
  unfold M.tru at k'
  refine o g w σ H _ r (GPost.imp (fun g1 w1 H1 d r1 s1 k1 v q => ?_) (GPost.bind k'))
  obtain ⟨z, e, k2⟩ := GPost.lift k1
  have k3 := GPost.here r1 k2
  cases q <;> cases e
  refine ⟨_, rfl, ?_⟩
  cases z with
  | true => exact GPost.v (xw := xw) (cm := cm) (d := .bl true) r1 k3 (.bl _)
  | false => exact o' g1 w1 σ H1 Q r1 k3
theorem dv_not (ha : DV cm X xw a ma) : DV cm X xw (.UnaryOp .Not a pos) (M.map (fun x => D.bl (!x)) (M.tru ma)) := by
  obtain ⟨t, p, o⟩ := ha
  refine ⟨_, pe_not p, fun g w σ H Q r k => ?_⟩
  have k' := GPost.map k
  unfold M.tru at k'
  refine o g w σ H _ r (GPost.imp (fun g1 w1 H1 d r1 s1 k1 v q => ?_) (GPost.bind k'))
  obtain ⟨z, e, k2⟩ := GPost.lift k1
  have k3 := GPost.here r1 k2
  cases q <;> cases e
  exact ⟨_, rfl, k3 _ (.bl _)⟩
theorem dv_if (ht : DT cm X xw c tc) (ha : DV cm X xw a ma) (hb : DV cm X xw b mb) : DV cm X xw (.IfExp c a b pos) (M.ite tc ma mb) := by
  obtain ⟨t, p, o⟩ := ht
  obtain ⟨ta, pa, oa⟩ := ha
  obtain ⟨tb, pb, ob⟩ := hb
  refine ⟨_, pe_ifExp p pa pb, fun g w σ H Q r k => ?_⟩
  refine o g w σ H _ r (GPost.imp (fun g1 w1 H1 d r1 s1 k1 => ?_) (GPost.bind k))
  cases d with
  | true => exact oa g1 w1 σ H1 Q r1 k1
  | false => exact ob g1 w1 σ H1 Q r1 k1
end

/-! ### displays, arguments -/
section
variable {cm : Nat → Addr} {X : Cx} {xw : WX} {e : Expr} {es : List Expr} {m : M D} {ms : M (List D)} {pos : Pos}
theorem da_nil : DA cm X xw [] (M.ret []) := ⟨_, pa_nil, fun g w σ H Q r k => GPost.here r k _ .nil⟩
theorem da_cons (he : DV cm X xw e m) (hs : DA cm X xw es ms) (hst : starEach (e :: es) X.env = (false, eval e X.env) :: starEach es X.env := by rfl) : DA cm X xw (e :: es) (M.bind m fun d => M.bind ms fun ds => M.ret (d :: ds)) := by
  obtain ⟨t, p, o⟩ := he
  obtain ⟨u, p', o'⟩ := hs
  refine ⟨_, pa_cons p p' hst, fun g w σ H Q r k => ?_⟩
  refine o g w σ H _ r (GPost.imp (fun g1 w1 H1 d r1 s1 k1 v q => ?_) (GPost.bind k))
  refine o' g1 w1 σ H1 _ r1 (GPost.imp (fun g2 w2 H2 ds r2 s2 k2 vs qs => ?_) (GPost.bind k1))
  exact GPost.here r2 k2 _ (.cons (q.mono s2.le) qs)
def okLen (ds : List D) : Option (List D) := if ds.length ≤ big then some ds else none
theorem de_lst (hs : DA cm X xw es ms) : DE cm X xw (.List es pos) (M.bind ms fun ds => M.lift ((okLen ds).map R.own)) := by
  obtain ⟨t, p, o⟩ := hs
  refine ⟨_, pe_lst p, fun g w σ H Q N r hN k => ?_⟩
  refine o g w σ H _ r (GPost.imp (fun g1 w1 H1 ds r1 s1 k1 vs q => ?_) (GPost.bind k))
  obtain ⟨z, e, k2⟩ := GPost.lift k1
  obtain ⟨ds', e', rfl⟩ := Option.map_eq_some_iff.mp e
  unfold okLen at e'
  split at e'
  · rename_i h
    cases e'
    exact ⟨by rw [← big_eq, q.length]; exact h, GPost.o r1 (fun a h => hN a (s1.newIn h)) k2 q⟩
  · cases e'
theorem dv_tup {k : Nat} (hs : DA cm X xw es ms) : DV cm X xw (.Tuple es k pos) (M.bind ms fun ds => M.lift ((okLen ds).map D.tup)) := by
  obtain ⟨t, p, o⟩ := hs
  refine ⟨_, pe_tup p, fun g w σ H Q r k => ?_⟩
  refine o g w σ H _ r (GPost.imp (fun g1 w1 H1 ds r1 s1 k1 vs q => ?_) (GPost.bind k))
  obtain ⟨z, e, k2⟩ := GPost.lift k1
  obtain ⟨ds', e', rfl⟩ := Option.map_eq_some_iff.mp e
  unfold okLen at e'
  split at e'
  · rename_i h
    cases e'
    exact ⟨by rw [← big_eq, q.length]; exact h, GPost.t r1 k2 q⟩
  · cases e'
/-- {} -/
theorem dv_dic : DV cm X xw (.Dict [] [] pos) (M.ret .dic) := by
  refine ⟨_, pe_dnewK, fun g w σ H Q r k p hp => ?_⟩
  obtain ⟨r2, s⟩ := r.lay (o := .dK []) hp
  exact k _ _ r2 s (.ref p) (.dic upd_same)
end
end DL

/-! DStmt: statements, defs and their calls. -/
namespace DL
open PySem PySem.Spec PyProof.Rows L2 Evl

def R.slot : R → Slot
  | .val d => .val d
  | .own ds => .own ds
inductive Flow1 where
  | next | brk | cont | ret (r : R)
section
variable (K : PySem.W.Frag) (cm : Nat → Addr)
def FPost (N : Addr → Prop) (D : Ends) (g : Wd) (w : W) (σ : L2.St) (H : Hp) : Flow1 → Prop
  | .next => D.nx σ H
  | .brk => D.bk σ H
  | .cont => D.ct σ H
  | .ret r => ∀ v, RRep K N g w σ H v r → D.rt v H
def SPost (xw : WX) (N : Addr → Prop) (D : Ends) (g : Wd) (w : W) (σ : L2.St) (H : Hp) : Res Flow1 → Prop
  | .ok f w' => ∀ g' σ' H', Rel K cm g' w' σ' H' → Step g w σ H g' w' σ' H' → FPost K N D g' w' σ' H' f
  | .exc e w' => ∀ g' σ' H' cls d, Rel K cm g' w' σ' H' → Step g w σ H g' w' σ' H' → XRep K cm g' H' e cls d → xw cls d σ' H'
  | .bad => False
end
section
variable (cm : Nat → Addr) (X : Cx) (xw : WX)
def SOk (t : TS) (m : M Flow1) : Prop := ∀ g w σ H D N, Rel X.K cm g w σ H → (∀ a, New g w σ H a → N a) → SPost X.K cm xw N D g w σ H (m w) → t D σ H
structure DS (st : Stmt) (m : M Flow1) : Prop where
  ex : ∃ t : TS, PS X st t ∧ SOk cm X xw t m
structure DSs (sts : List Stmt) (m : M Flow1) : Prop where
  ex : ∃ t : TS, PSs X sts t ∧ SOk cm X xw t m
end
namespace M
def seq (a b : M Flow1) : M Flow1 := fun w => match a w with
  | .ok .next w' => b w'
  | r => r
end M
section
variable {K : PySem.W.Frag} {cm : Nat → Addr} {X : Cx} {xw : WX} {g g1 : Wd} {w w1 : W} {σ σ1 : L2.St} {H H1 : Hp} {N : Addr → Prop} {D : Ends}
theorem Step.newIn' (s : Step g w σ H g1 w1 σ1 H1) {a : Addr} (h : New g1 w1 σ1 H1 a) : New g w σ H a := by
  rcases h with h | h
  · exact s.free h
  · exact (s.priv a h).symm
theorem SPost.back (s : Step g w σ H g1 w1 σ1 H1) : ∀ {r : Res Flow1}, SPost K cm xw N D g w σ H r → SPost K cm xw N D g1 w1 σ1 H1 r
  | .ok _ _, h => fun g' σ' H' r t => h g' σ' H' r (s.trans t)
  | .exc _ _, h => fun g' σ' H' cls d r t x => h g' σ' H' cls d r (s.trans t) x
  | .bad, h => h
theorem SPost.here {f : Flow1} (r : Rel K cm g w σ H) (h : SPost K cm xw N D g w σ H (.ok f w)) : FPost K N D g w σ H f := h g σ H r (.refl ..)
/-- an expression's exception is the statement's -/
theorem SPost.x {e : Xn} {w' : W} (h : SPost K cm xw N D g w σ H (.exc e w')) : XPost K cm xw g w σ H e w' := fun g' H' cls d r s x => h g' σ H' cls d r s x
/-- an expression, then the rest -/
theorem SPost.bind {α : Type} {m : M α} {f : α → M Flow1} (h : SPost K cm xw N D g w σ H (M.bind m f w)) :
    GPost K cm xw g w σ H (fun g1 w1 H1 a => SPost K cm xw N D g1 w1 σ H1 (f a w1)) (m w) := by
  unfold M.bind at h
  cases e : m w with
  | ok a w1 =>
    rw [e] at h
    exact fun g1 H1 _ s => SPost.back s h
  | exc x w1 => rw [e] at h; exact h.x
  | bad => rw [e] at h; exact h
/-- the same, the start kept -/
theorem SPost.bind0 {α : Type} {m : M α} {f : α → M Flow1} (h : SPost K cm xw N D g w σ H (M.bind m f w)) :
    GPost K cm xw g w σ H (fun _ w1 _ a => SPost K cm xw N D g w σ H (f a w1)) (m w) := by
  unfold M.bind at h
  cases e : m w with
  | ok a w1 =>
    rw [e] at h
    exact fun g1 H1 _ s => h
  | exc x w1 => rw [e] at h; exact h.x
  | bad => rw [e] at h; exact h
theorem dss_nil : DSs cm X xw [] (M.ret .next) := ⟨_, pss_nil, fun g w σ H D N r hN k => SPost.here r k⟩
theorem dss_one {st : Stmt} {m : M Flow1} (h : DS cm X xw st m) : DSs cm X xw [st] m := by
  obtain ⟨t, p, o⟩ := h
  exact ⟨_, pss_one p, o⟩
theorem dss_cons {st : Stmt} {rest : List Stmt} {m n : M Flow1} (h : DS cm X xw st m) (h' : DSs cm X xw rest n) : DSs cm X xw (st :: rest) (M.seq m n) := by
  obtain ⟨t, p, o⟩ := h
  obtain ⟨u, p', o'⟩ := h'
  refine ⟨_, pss_cons p p', fun g w σ H D N r hN k => ?_⟩
  refine o g w σ H _ N r hN ?_
  unfold M.seq at k
  cases e : m w with
  | ok f w1 =>
    rw [e] at k
    cases f with
    | next => exact fun g1 σ1 H1 r1 s1 => o' g1 w1 σ1 H1 D N r1 (fun a h => hN a (s1.newIn' h)) (SPost.back s1 k)
    | brk => exact k
    | cont => exact k
    | ret v => exact k
  | exc x w1 => rw [e] at k; exact k
  | bad => rw [e] at k; exact k
end

/-! ### small statements -/
namespace M
def ifS (t : M Bool) (a b : M Flow1) : M Flow1 := M.bind t fun x => cond x a b
def put (i : Nat) (s : Slot) : M Flow1 := fun w => if i < w.E.length then .ok .next { w with E := w.E.set i s } else .bad
def asg (i : Nat) (m : M R) : M Flow1 := M.bind m fun r => put i r.slot
def drop (m : M D) : M Flow1 := M.bind m fun _ => M.ret .next
def retR (m : M R) : M Flow1 := M.bind m fun r => M.ret (.ret r)
/-- return of a name: a list of one's own goes out as it is -/
def retVar (i : Nat) : M Flow1 := fun w => match w.E[i]? with
  | some (.val d) => .ok (.ret (.val d)) w
  | some (.own ds) => .ok (.ret (.own ds)) { w with E := w.E.set i .un }
  | _ => .bad
end M
section
variable {cm : Nat → Addr} {X : Cx} {xw : WX} {e : Expr} {m : M R} {md : M D} {mt : M Bool} {ma mb : M Flow1} {pos : Pos} {g g1 : Wd} {w w1 : W} {σ : L2.St} {H H1 : Hp}
theorem ds_pass : DS cm X xw (.Pass pos) (M.ret .next) := ⟨_, ps_pass, fun g w σ H D N r hN k => SPost.here r k⟩
theorem ds_break : DS cm X xw (.Break pos) (M.ret .brk) := ⟨_, ps_break, fun g w σ H D N r hN k => SPost.here r k⟩
theorem ds_cont : DS cm X xw (.Continue pos) (M.ret .cont) := ⟨_, ps_continue, fun g w σ H D N r hN k => SPost.here r k⟩
theorem ds_if {c : Expr} {a b : List Stmt} (ht : DT cm X xw c mt) (ha : DSs cm X xw a ma) (hb : DSs cm X xw b mb) : DS cm X xw (.If c a b pos) (M.ifS mt ma mb) := by
  obtain ⟨t, p, o⟩ := ht
  obtain ⟨ta, pa, oa⟩ := ha
  obtain ⟨tb, pb, ob⟩ := hb
  refine ⟨_, ps_if p pa pb, fun g w σ H D N r hN k => ?_⟩
  refine o g w σ H _ r (GPost.imp (fun g1 w1 H1 d r1 s1 k1 => ?_) (SPost.bind k))
  cases d with
  | true => exact oa g1 w1 σ H1 D N r1 (fun a h => hN a (s1.newIn h)) k1
  | false => exact ob g1 w1 σ H1 D N r1 (fun a h => hN a (s1.newIn h)) k1
theorem ds_drop (he : DV cm X xw e md) (hs : swapsWith e none pos.line X.env = pure false := by rfl) : DS cm X xw (.Expr e pos) (M.drop md) := by
  obtain ⟨t, p, o⟩ := he
  refine ⟨_, ps_expr p hs, fun g w σ H D N r hN k => ?_⟩
  exact o g w σ H _ r (GPost.imp (fun g1 w1 H1 d r1 s1 k1 v q => SPost.here r1 k1) (SPost.bind k))
theorem ds_ret (he : DE cm X xw e m) : DS cm X xw (.Return (some e) pos) (M.retR m) := by
  obtain ⟨t, p, o⟩ := he
  refine ⟨_, ps_ret p, fun g w σ H D N r hN k => ?_⟩
  have k0 := SPost.bind0 (f := fun x => M.ret (.ret x)) k
  exact o g w σ H _ N r hN (GPost.imp (fun g1 w1 H1 d r1 s1 k1 v q => k1 g1 σ H1 r1 s1 v q) k0)
theorem ds_retN : DS cm X xw (.Return none pos) (M.ret (.ret (.val .non))) := ⟨_, ps_retN, fun g w σ H D N r hN k => SPost.here r k _ .non⟩
/-- slots: a value, nothing, a new list of one's own is stored -/
theorem ownAt_un {w : W} {σ : L2.St} {i j : Nat} {a : Addr} (h : OwnAt { w with E := w.E.set i .un } σ j a) : OwnAt w σ j a ∧ j ≠ i := by
  obtain ⟨ds, h1, h2⟩ := h
  have h1' : (w.E.set i .un)[j]? = some (.own ds) := h1
  by_cases c : i = j
  · subst c
    rw [List.getElem?_set_self'] at h1'
    cases hh : w.E[i]? with
    | none => rw [hh] at h1'; cases h1'
    | some o => rw [hh] at h1'; cases h1'
  · rw [List.getElem?_set_ne c] at h1'
    exact ⟨⟨ds, h1', h2⟩, fun e => c e.symm⟩
theorem Rel.setUn {K : PySem.W.Frag} {g : Wd} {w : W} {σ : L2.St} {H : Hp} (r : Rel K cm g w σ H) (i : Nat) : Rel K cm g { w with E := w.E.set i .un } σ H ∧ Step g w σ H g { w with E := w.E.set i .un } σ H := by
  refine ⟨⟨r.nn, r.ex, by show σ.length = (w.E.set i _).length; rw [List.length_set]; exact r.len, fun j s hs => ?_, r.store, r.sinj, fun j k b h1 h2 => r.oinj j k b (ownAt_un h1).1 (ownAt_un h2).1, fun j b k h1 h2 => r.os j b k (ownAt_un h1).1 h2⟩, ⟨.refl _, fun _ _ h => .inl h, fun _ _ h _ => h, fun b p => ?_⟩⟩
  · have hs' : (w.E.set i .un)[j]? = some s := hs
    by_cases c : i = j
    · subst c
      rw [List.getElem?_set_self'] at hs'
      cases hh : w.E[i]? with
      | none => rw [hh] at hs'; cases hs'
      | some o => rw [hh] at hs'; cases hs'; trivial
    · rw [List.getElem?_set_ne c] at hs'
      exact r.slot j s hs'
  · rcases p with h | ⟨j, h⟩
    · exact .inl (.inl h)
    · exact .inl (.inr ⟨j, (ownAt_un h).1⟩)
/-- the slot i of σ holds v, that of the state s -/
theorem Rel.set {K : PySem.W.Frag} {g : Wd} {w : W} {σ : L2.St} {H : Hp} (r : Rel K cm g w σ H) {i : Nat} {v : V} {x : R} {N : Addr → Prop} (q : RRep K N g w σ H v x) :
    Rel K cm g { w with E := w.E.set i (R.slot x) } (σ.set i (some v)) H ∧ ∀ b, Priv { w with E := w.E.set i (R.slot x) } g (σ.set i (some v)) b → Priv w g σ b ∨ N b := by
  have ow : ∀ j b, OwnAt { w with E := w.E.set i (R.slot x) } (σ.set i (some v)) j b → (j ≠ i ∧ OwnAt w σ j b) ∨ (j = i ∧ v = .ref b ∧ ∃ ds, x = .own ds) := fun j b h => by
    obtain ⟨ds, h1, h2⟩ := h
    by_cases c : i = j
    · subst c
      refine .inr ⟨rfl, ?_, ?_⟩
      · rw [List.getElem?_set_self'] at h2
        cases hh : σ[i]? with
        | none => rw [hh] at h2; cases h2
        | some o => rw [hh] at h2; cases h2; rfl
      · have h1' : (w.E.set i (R.slot x))[i]? = some (.own ds) := h1
        rw [List.getElem?_set_self'] at h1'
        cases hh : w.E[i]? with
        | none => rw [hh] at h1'; cases h1'
        | some o =>
          rw [hh] at h1'
          cases x with
          | val d => cases h1'
          | own es => exact ⟨es, rfl⟩
    · refine .inl ⟨fun e => c e.symm, ds, ?_, ?_⟩
      · have h1' : (w.E.set i (R.slot x))[j]? = some (.own ds) := h1
        rw [List.getElem?_set_ne c] at h1'
        exact h1'
      · rw [List.getElem?_set_ne c] at h2
        exact h2
  have np : ∀ b ds, x = .own ds → v = .ref b → ¬ Priv w g σ b ∧ N b := fun b ds e1 e2 => by
    subst e1
    obtain ⟨a, vs, e3, _, _, h4, h5, _⟩ := q
    rw [e2] at e3
    cases e3
    exact ⟨h4, h5⟩
  refine ⟨⟨r.nn, r.ex, ?_, fun j s hs => ?_, r.store, r.sinj, fun j k b h1 h2 => ?_, fun j b k h1 h2 e => ?_⟩, fun b p => ?_⟩
  · show (σ.set i (some v)).length = (w.E.set i _).length
    rw [List.length_set, List.length_set]
    exact r.len
  · have hs' : (w.E.set i (R.slot x))[j]? = some s := hs
    by_cases c : i = j
    · subst c
      rw [List.getElem?_set_self'] at hs'
      cases hh : w.E[i]? with
      | none => rw [hh] at hs'; cases hs'
      | some o =>
        rw [hh] at hs'
        have hi : i < σ.length := by rw [r.len]; exact (List.getElem?_eq_some_iff.mp hh).1
        have e2 : (σ.set i (some v))[i]? = some (some v) := by rw [List.getElem?_set_self hi]
        rw [e2]
        cases x with
        | val d => cases hs'; exact ⟨v, rfl, q⟩
        | own ds =>
          cases hs'
          obtain ⟨a, vs, rfl, h1, h2, h3, h4, h5⟩ := q
          exact ⟨a, vs, rfl, h1, h2, h5⟩
    · rw [List.getElem?_set_ne c] at hs'
      rw [List.getElem?_set_ne c]
      exact r.slot j s hs'
  · rcases ow j b h1 with ⟨a1, a2⟩ | ⟨a1, a2, ds, a3⟩ <;> rcases ow k b h2 with ⟨b1, b2⟩ | ⟨b1, b2, es, b3⟩
    · exact r.oinj j k b a2 b2
    · exact ((np b es b3 b2).1 (.inr ⟨j, a2⟩)).elim
    · exact ((np b ds a3 a2).1 (.inr ⟨k, b2⟩)).elim
    · rw [a1, b1]
  · rcases ow j b h1 with ⟨a1, a2⟩ | ⟨a1, a2, ds, a3⟩
    · exact r.os j b k a2 h2 e
    · exact (np b ds a3 a2).1 (.inl ⟨k, h2, e⟩)
  · rcases p with h | ⟨j, h⟩
    · exact .inl (.inl h)
    · rcases ow j b h with ⟨a1, a2⟩ | ⟨a1, a2, ds, a3⟩
      · exact .inl (.inr ⟨j, a2⟩)
      · exact .inr (np b ds a3 a2).2
theorem Step.with (s : Step g w σ H g1 w1 σ H1) {w2 : W} {σ2 : L2.St} (h : ∀ b, Priv w2 g1 σ2 b → Priv w1 g1 σ b ∨ New g w σ H b) : Step g w σ H g1 w2 σ2 H1 :=
  ⟨s.le, s.new, s.frame, fun b p => (h b p).elim (s.priv b) fun q => q.symm⟩
theorem sok_asg {te : TE} {i : Nat} (o : EOk cm X xw te m) : SOk cm X xw (tAsg te (gName i)) (M.asg i m) := by
  intro g w σ H D N r hN k
  refine o g w σ H _ _ r (fun a h => h) (GPost.imp (fun g1 w1 H1 x r1 s1 k1 v q => ?_) (SPost.bind0 k))
  unfold M.put at k1
  split at k1
  · obtain ⟨r2, p2⟩ := r1.set (i := i) q
    exact k1 _ _ _ r2 (s1.with p2)
  · exact k1.elim
theorem ds_set {i : Nat} {x : Str} {pos' : Pos} (he : DE cm X xw e m) (hN : X.N.Nodup) (hi : X.N[i]? = some x := by rfl) (hx : Loc X.env.scope x := by first | exact Or.inl rfl | exact Or.inr rfl) (hs : swapsWith e (some (.Name x pos')) pos.line X.env = pure false := by rfl)
    (hf : X.fn x = true ∨ X.env.scope.names.lookup x = some .local := by first | exact .inl rfl | exact .inr rfl) : DS cm X xw (.Assign [.Name x pos'] e pos) (M.asg i m) := by
  obtain ⟨t, p, o⟩ := he
  exact ⟨_, ps_set hN hi hx p hs hf, sok_asg o⟩
theorem ds_retVar {i : Nat} {x : Str} {npos : Pos} (hN : X.N[i]? = some x := by rfl) (hv : Vis X.env.scope x := by first | exact Or.inl rfl | exact Or.inr (Or.inl rfl) | exact Or.inr (Or.inr rfl)) (hd : (x == ("__debug__" : Str)) = false := by decide)
    (hcd : (x == ("__classdict__" : Str)) = false := by decide) : DS cm X xw (.Return (some (.Name x npos)) pos) (M.retVar i) := by
  refine ⟨_, ps_ret (pe_var hN hv hd hcd), fun g w σ H D N r hN k => ?_⟩
  unfold M.retVar at k
  cases e : w.E[i]? with
  | none => rw [e] at k; exact k.elim
  | some s =>
    cases s with
    | un => rw [e] at k; exact k.elim
    | val d =>
      rw [e] at k
      obtain ⟨v, h1, h2⟩ := r.slot i _ e
      exact ⟨v, h1, SPost.here r k v h2⟩
    | own ds =>
      rw [e] at k
      obtain ⟨a, vs, h1, h2, h3, h4, h5⟩ := st_own r e
      obtain ⟨r2, s2⟩ := r.setUn i
      refine ⟨.ref a, h1, k _ _ _ r2 s2 (.ref a) ⟨a, vs, rfl, h2, h3, fun p => ?_, hN a (.inr (.inr ⟨i, h5⟩)), h4⟩⟩
      rcases p with ⟨j, hj, e2⟩ | ⟨j, hj⟩
      · exact r.os i a j h5 hj e2
      · obtain ⟨q1, q2⟩ := ownAt_un hj
        exact q2 (r.oinj j i a q1 h5)
end
end DL

/-! DFn: what a def promises, its body, its call. The repr guards are told (none stand). -/
namespace DL
open PySem PySem.Spec PyProof.Rows L2 Evl

/-- a def's promise, where no repr runs around -/
structure FnG (P : Program) (w : World) (K : PySem.W.Frag) (mg : Str → Option Value) (base : Heap) (k : Nat) (f : Addr) (fd : FuncData) (ps : List Str) (sp : Sp) : Prop where
  len : ∀ vs H Q E, sp vs H Q E → vs.length = ps.length
  run : ∀ (A : Around) (outer : List Env) (s : Shared) (H : Hp) (args : Args) (us : List Value) (vs : List V) (Q : VK) (E : XK), Room k A → A.guards = some [] → Env0 P w K mg base A outer s H → BindsTo s fd args (ps.zip us) → Vals vs us → sp vs H Q E →
    codeAny (model P w) A (.call (.ref f) args) (CR (L2N.CX P w) outer P w H s Q E) s
theorem FnG.mono {P : Program} {w : World} {K : PySem.W.Frag} {mg : Str → Option Value} {base : Heap} {j k : Nat} {f : Addr} {fd : FuncData} {ps : List Str} {sp : Sp} (F : FnG P w K mg base j f fd ps sp) (h : j ≤ k) : FnG P w K mg base k f fd ps sp :=
  ⟨F.len, fun A outer s H args us vs Q E hr hg e0 b r q => F.run A outer s H args us vs Q E (hr.mono h) hg e0 b r q⟩
section
variable {P : Program} {w : World} {K : PySem.W.Frag} {mg : Str → Option Value} {base : Heap}
/-- a def by its body -/
theorem fnG_of {x qual : Str} {params : Arguments} {body : List Stmt} {scope : Scope} {dvs : List V} {kws : List (Str × V)} {f : Addr} {fd : FuncData} {N ps : List Str} {k : Nat} {sp : Sp} (F : FunD K x qual params body scope dvs kws f fd) (S : FnScope N ps scope)
    (len : ∀ vs H Q E, sp vs H Q E → vs.length = ps.length)
    (hbody : ∀ (cdv : Value) (A : Around) (outer : List Env) (s : Shared) (H : Hp) (vs : List V) (Q : VK) (E : XK), Room k (A.deeper (envOfC qual scope s.heap.objs.size f cdv)) → A.guards = some [] → sp vs H Q E →
      ∃ t, PSs (cxOf (L2N.CX P w) P w K mg base N qual scope f cdv A outer s H E) body t ∧ t { nx := fun _ H' => Q .non H', rt := Q } (L2.start N vs) H) : FnG P w K mg base (k + 1) f fd ps sp := by
  obtain ⟨oc, od, dV, kV, doc, pm, an, cdv, ct, osl, rfl, lk, hcd, _, _⟩ := F.ex
  refine ⟨len, fun A outer s H args us vs Q E hr hg e0 hb r q => ?_⟩
  have KX : K.In s.heap := e0.mod.kin.keeps fun b o e => (e0.bs b o e).1
  have lim : s.heap.NoLimit := e0.mod.nolimit.keeps fun b o e => (e0.bs b o e).1
  obtain ⟨t, ht, hq⟩ := hbody cdv A outer s H vs Q E (hr.deeper _) hg q
  refine codeAny_call_function hr.depth (KX _ _ lk) rfl S.co S.gen rfl (PySem.W.codeRec_of KX hcd) (hb _ _ _ _ (wpAny_newFunctionEnv_cells S.kind (fun y hy => ?_) fun env he s1 x => ?_))
  · rcases S.par y.1 (List.of_mem_zip (show (y.1, y.2) ∈ ps.zip us from hy)).1 with e | e
    · exact .inl e
    · exact .inr ⟨e, PySem.W.cellsFrom_some _ _ _ (.inl e)⟩
  · subst he
    have I := inv_start (CX := L2N.CX P w) (f := f) (cd := cdv) (qual := qual) (E := E) S hr.hd e0 (len _ _ _ _ q) r x
    have done : ∀ {s' : Shared} {σ' : L2.St} {H' : Hp} {v : V} {u : Value}, Inv (cxOf (L2N.CX P w) P w K mg base N qual scope f cdv A outer s H E) [] σ' H' s' → RelV v u → Q v H' → CE outer P w H s Q u s' :=
      fun J rv q => ⟨_, _, J.os, J.bare, J.base, J.hok, rv, q⟩
    refine ⟨lim.keeps x.toInCall.keep, codeAny_func (wpAny_mono (ht.run [] s1 (L2.start N vs) H _ I hq) (fun fl s' hs => ?_) fun e s' hs => hs)⟩
    cases fl with
    | ret u => obtain ⟨v, σ', H', J, rv, q⟩ := hs; exact done J rv q
    | next => obtain ⟨σ', H', J, q⟩ := hs; exact done (v := V.non) (u := Value.none) J rfl q
    | brk => obtain ⟨_, _, _, z⟩ := hs; exact z.elim
    | cont => obtain ⟨_, _, _, z⟩ := hs; exact z.elim
end
section
variable {X : Cx} {k : Nat} {f : Addr} {fd : FuncData} {ps : List Str} {sp : Sp} {ds : List Value} {dvs : List V} {E : L2.St → XK} {x : Str} {p pos : Pos} {e : Expr} {es : List Expr} {t : TA}
theorem run_fnG {pins : List (Addr × Obj)} {σ : L2.St} {H : Hp} {s : Shared} {Q : VK} {us : List Value} {vs : List V} (F : FnG X.prog X.w X.K X.mg X.base k f fd ps sp) (hr : Room k X.A) (hg : X.A.guards = some []) (hb : Binds X.K fd ps ds) (hd : Vals dvs ds)
    (hx : PassesAt (L2N.CX X.prog X.w) X σ (E σ)) (I : Inv X pins σ H s) (r : Vals vs us) (h : sp (vs ++ dvs) H Q (E σ)) : wpAny (model X.prog X.w) X.A (call (.ref f) us) (EP X pins σ Q) X.xe s := by
  have r2 := r.append hd
  have hl : (us ++ ds).length = ps.length := r2.length ▸ F.len _ _ _ _ h
  refine wpAny_call (codeAny_mono (F.run X.A X.stack s H ⟨us, []⟩ _ _ Q (E σ) hr hg I.env0 (hb s us I.kIn hl) r2 h) fun r s' hq => ?_)
  match r, hq with
  | .error e, hq => exact hx pins H s e s' I hq
  | .ok (.ret u), hq => exact I.after hq
theorem pe_callG (F : FnG X.prog X.w X.K X.mg X.base k f fd ps sp) (hr : Room k X.A) (hgd : X.A.guards = some []) (hg : Gl X x) (hm : X.mg x = some (.ref f)) (hk : PySem.W.keepIn X.K (.ref f) = true) (hb : Binds X.K fd ps ds) (hd : Vals dvs ds)
    (hx : ∀ σ, PassesAt (L2N.CX X.prog X.w) X σ (E σ)) (ha : PA X (e :: es) t) (hdb : (x == ("__debug__" : Str)) = false := by decide) (he : starEach (e :: es) X.env = (false, eval e X.env) :: starEach es X.env := by rfl)
    (hpl : (backTo pos (starEach es X.env)).any (·.1) = false := by rfl) : PE X (.Call (.Name x p) (e :: es) [] pos) (tCallSD sp dvs E t) :=
  ⟨fun pins s σ H Q I h => wpAny_Call_Name_kw (ld_glob I hg hm (PySem.W.callWith_K (h₀ := X.base) I.ok.mod.kin hk (thn (ha.run pos pins s σ H _ I h) fun us s1 ⟨vs, H1, I1, r, q⟩ => ⟨I1.kIn, run_fnG F hr hgd hb hd (hx σ) I1 r q⟩) he hpl) hdb)⟩
theorem pe_callG0 (F : FnG X.prog X.w X.K X.mg X.base k f fd ps sp) (hr : Room k X.A) (hgd : X.A.guards = some []) (hg : Gl X x) (hm : X.mg x = some (.ref f)) (hk : PySem.W.keepIn X.K (.ref f) = true) (hb : Binds X.K fd ps ds) (hd : Vals dvs ds)
    (hx : ∀ σ, PassesAt (L2N.CX X.prog X.w) X σ (E σ)) (hdb : (x == ("__debug__" : Str)) = false := by decide) : PE X (.Call (.Name x p) [] [] pos) (tCallSD sp dvs E tNil) := by
  exact ⟨fun pins s σ H Q I h => wpAny_Call_Name_kw (ld_glob I hg hm (PySem.W.callWith_K0 I.kIn hk (run_fnG (us := []) F hr hgd hb hd (hx σ) I .nil h)) hdb)⟩
end

/-! ### the promise that a function of data makes -/
/-- m: what the def does to the store and gives back; it is asked without slots -/
def spD (K : PySem.W.Frag) (cm : Nat → Addr) (ar : Nat) (m : List D → M R) : Sp := fun vs H Q E =>
  ∃ g w ds, w.E = [] ∧ Rel K cm g w [] H ∧ Reps K g vs ds ∧ ds.length = ar ∧ GPost K cm (fun cls d _ H' => E cls d H') g w [] H (PR K (New g w [] H) [] Q) (m ds w)
/-- a body's Flow, from the parameters on: n slots -/
def runF (n : Nat) (b : M Flow1) (ds : List D) : M R := fun w => match b { w with E := ds.map Slot.val ++ List.replicate (n - ds.length) .un } with
  | .ok (.ret r) w' => .ok r { w' with E := [] }
  | .ok .next w' => .ok (.val .non) { w' with E := [] }
  | .ok _ _ => .bad
  | .exc e w' => .exc e { w' with E := [] }
  | .bad => .bad
def callM (m : List D → M R) (ds : List D) : M R := fun w => match m ds { w with E := [] } with
  | .ok r w' => .ok r { w' with E := w.E }
  | .exc e w' => .exc e { w' with E := w.E }
  | .bad => .bad
section
variable {K : PySem.W.Frag} {cm : Nat → Addr} {g g' : Wd} {w w' : W} {σ σ' : L2.St} {H H' : Hp}
theorem no_own {w : W} {a : Addr} {i : Nat} (h : OwnAt { w with E := [] } [] i a) : False := by
  obtain ⟨_, _, h2⟩ := h
  simp at h2
theorem no_own' {w : W} {σ : L2.St} {a : Addr} {i : Nat} (e : w.E = []) (h : OwnAt w σ i a) : False := by
  obtain ⟨_, h1, _⟩ := h
  rw [e] at h1
  simp at h1
/-- the slots forgotten -/
theorem Rel.bare (r : Rel K cm g w σ H) : Rel K cm g { w with E := [] } [] H :=
  ⟨r.nn, r.ex, rfl, fun i s h => by simp at h, r.store, r.sinj, fun i j a h => (no_own h).elim, fun i a k h => (no_own h).elim⟩
theorem priv_bare {a : Addr} (p : Priv { w with E := [] } g [] a) : InSt w g a := by
  rcases p with p | ⟨i, h⟩
  · exact p
  · exact (no_own h).elim
/-- back in the frame: what was done below leaves the slots -/
theorem Rel.frame (r : Rel K cm g w σ H) (r' : Rel K cm g' w' [] H') (s : Step g { w with E := [] } [] H g' w' [] H') :
    Rel K cm g' { w' with E := w.E } σ H' ∧ Step g w σ H g' { w' with E := w.E } σ H' := by
  have e' : w'.E = [] := List.eq_nil_of_length_eq_zero (by rw [← r'.len]; rfl)
  have own : ∀ i a, OwnAt { w' with E := w.E } σ i a → OwnAt w σ i a := fun i a h => h
  have kp : ∀ i a, OwnAt w σ i a → (∃ o, H a = some o) ∧ ¬ InSt w g a := fun i a h => ⟨r.privH (.inr ⟨i, h⟩), fun ⟨k, hk, e⟩ => r.os i a k h hk e⟩
  have same : ∀ i a o, OwnAt w σ i a → H a = some o → H' a = some o := fun i a o h e => s.frame a o e fun p => (kp i a h).2 (priv_bare p)
  have notB : ∀ i a, OwnAt w σ i a → g'.B a = none := fun i a h => by
    cases q : g'.B a with
    | none => rfl
    | some o =>
      obtain ⟨u, hu⟩ := (kp i a h).1
      rcases s.new a o q with e | e | e
      · rw [r.noB (.inr ⟨i, h⟩)] at e; cases e
      · rw [hu] at e; cases e
      · exact ((kp i a h).2 (priv_bare e)).elim
  have stp : ∀ k, w'.S k ≠ none → InSt w g (g'.ρ k) ∨ H (g'.ρ k) = none := fun k hk => (s.priv _ (.inl ⟨k, hk, rfl⟩)).imp priv_bare id
  refine ⟨⟨r'.nn, r'.ex, r.len, fun i sl hs => ?_, r'.store, r'.sinj, fun i j a h1 h2 => r.oinj i j a h1 h2, fun i a k h1 h2 e => ?_⟩, ⟨s.le, fun a o e => (s.new a o e).imp id fun q => q.imp id fun p => .inl (priv_bare p), fun a o e np => s.frame a o e fun p => np (.inl (priv_bare p)), fun a p => ?_⟩⟩
  · have q := r.slot i sl hs
    cases sl with
    | un => trivial
    | val d =>
      obtain ⟨v, h1, h2⟩ := q
      exact ⟨v, h1, h2.mono s.le⟩
    | own ds =>
      obtain ⟨a, vs, h1, h2, h3, h4⟩ := q
      exact ⟨a, vs, h1, same i a _ ⟨ds, hs, h1⟩ h2, notB i a ⟨ds, hs, h1⟩, h4.mono s.le⟩
  · rcases stp k h2 with q | q
    · exact (kp i a h1).2 (e ▸ q)
    · obtain ⟨u, hu⟩ := (kp i a h1).1
      rw [e, hu] at q
      cases q
  · rcases p with ⟨k, hk, rfl⟩ | ⟨i, h⟩
    · exact (stp k hk).imp .inl id
    · exact .inl (.inr ⟨i, h⟩)
end
section
variable {cm : Nat → Addr} {X : Cx} {xw : WX}
/-- the def's promise at a call -/
theorem call_ok {ar : Nat} {m : List D → M R} {g : Wd} {w : W} {σ : L2.St} {H : Hp} {Q : VK} {N : Addr → Prop} {vs : List V} {ds : List D} (r : Rel X.K cm g w σ H) (hN : ∀ a, New g w σ H a → N a) (q : Reps X.K g vs ds) (hl : ds.length = ar)
    (k : GPost X.K cm xw g w σ H (PR X.K N σ Q) (callM m ds w)) : spD X.K cm ar m vs H Q (WE xw σ) := by
  refine ⟨g, { w with E := [] }, ds, rfl, r.bare, q, hl, ?_⟩
  unfold callM at k
  cases e : m ds { w with E := [] } with
  | ok z w' =>
    rw [e] at k
    intro g' H' r' s v rv
    obtain ⟨r2, s2⟩ := r.frame r' s
    refine k g' H' r2 s2 v ?_
    cases z with
    | val d => exact rv
    | own es =>
      obtain ⟨a, us, h1, h2, h3, h4, h5, h6⟩ := rv
      have nw : H a = none ∨ InSt w g a := h5.imp id priv_bare
      refine ⟨a, us, h1, h2, h3, fun p => ?_, hN a (nw.imp id .inl), h6⟩
      rcases p with p | ⟨i, p⟩
      · exact h4 (.inl p)
      · rcases nw with z | ⟨k, hk, e2⟩
        · obtain ⟨u, hu⟩ := r.privH (.inr ⟨i, p⟩)
          rw [z] at hu
          cases hu
        · exact r.os i a k p hk e2
  | exc x w' =>
    rw [e] at k
    intro g' H' cls d r' s rx
    obtain ⟨r2, s2⟩ := r.frame r' s
    exact k g' H' cls d r2 s2 rx
  | bad => rw [e] at k; exact k
/-- f(e, ..) -/
theorem de_call {kk ar : Nat} {f : Addr} {fd : FuncData} {ps : List Str} {x : Str} {p pos : Pos} {e : Expr} {es : List Expr} {m : List D → M R} {ma : M (List D)} (F : FnG X.prog X.w X.K X.mg X.base kk f fd ps (spD X.K cm ar m)) (hr : Room kk X.A) (hgd : X.A.guards = some []) (hg : Gl X x)
    (hm : X.mg x = some (.ref f)) (hk : PySem.W.keepIn X.K (.ref f) = true) (hb : Binds X.K fd ps []) (tk : L2N.Takes X xw) (ha : DA cm X xw (e :: es) ma) (hn : (e :: es).length = ar := by rfl) (hdb : (x == ("__debug__" : Str)) = false := by decide)
    (he : starEach (e :: es) X.env = (false, eval e X.env) :: starEach es X.env := by rfl) (hpl : (backTo pos (starEach es X.env)).any (·.1) = false := by rfl) :
    DE cm X xw (.Call (.Name x p) (e :: es) [] pos) (M.bind ma fun ds => if ds.length = ar then callM m ds else fun _ => .bad) := by
  obtain ⟨t, pa, oa⟩ := ha
  refine ⟨_, pe_callG F hr hgd hg hm hk hb .nil (fun σ => L2N.passAt tk σ) pa hdb he hpl, fun g w σ H Q N r hN k => ?_⟩
  refine oa g w σ H _ r (GPost.imp (fun g1 w1 H1 ds r1 s1 k1 vs q => ?_) (GPost.bind k))
  split at k1
  · rename_i hl
    rw [List.append_nil]
    exact call_ok r1 (fun a h => hN a (s1.newIn h)) q hl k1
  · exact k1.elim
theorem de_call0 {kk : Nat} {f : Addr} {fd : FuncData} {ps : List Str} {x : Str} {p pos : Pos} {m : List D → M R} (F : FnG X.prog X.w X.K X.mg X.base kk f fd ps (spD X.K cm 0 m)) (hr : Room kk X.A) (hgd : X.A.guards = some []) (hg : Gl X x)
    (hm : X.mg x = some (.ref f)) (hk : PySem.W.keepIn X.K (.ref f) = true) (hb : Binds X.K fd ps []) (tk : L2N.Takes X xw) (hdb : (x == ("__debug__" : Str)) = false := by decide) :
    DE cm X xw (.Call (.Name x p) [] [] pos) (callM m []) := by
  exact ⟨_, pe_callG0 F hr hgd hg hm hk hb .nil (fun σ => L2N.passAt tk σ) hdb, fun g w σ H Q N r hN k => call_ok r hN .nil rfl k⟩
end
section
variable {P : Program} {w : World} {K : PySem.W.Frag} {mg : Str → Option Value} {base : Heap} {cm : Nat → Addr}
theorem start_get {N : List Str} {vs : List V} {i : Nat} {v : V} (h : vs[i]? = some v) : (L2.start N vs)[i]? = some (some v) := by
  unfold L2.start
  rw [List.getElem?_append_left (by rw [List.length_map]; exact (List.getElem?_eq_some_iff.mp h).1), List.getElem?_map, h]
  rfl
/-- a body's answer, from the parameters on -/
theorem body_ok {X : Cx} {E : XK} {vs : List V} {H : Hp} {Q : VK} {t : TS} {N : List Str} {n : Nat} {mb : M Flow1} (hn : N.length = n) (ot : SOk cm X (fun cls d _ H' => E cls d H') t mb)
    {g : Wd} {w : W} {ds : List D} (e0 : w.E = []) (r : Rel X.K cm g w [] H) (q : Reps X.K g vs ds) (hp : ds.length ≤ n) (k : GPost X.K cm (fun cls d _ H' => E cls d H') g w [] H (PR X.K (New g w [] H) [] Q) (runF n mb ds w)) :
    t { nx := fun _ H' => Q .non H', rt := Q } (L2.start N vs) H := by
  have st : Rel X.K cm g { w with E := ds.map Slot.val ++ List.replicate (n - ds.length) .un } (L2.start N vs) H ∧ Step g w [] H g { w with E := ds.map Slot.val ++ List.replicate (n - ds.length) .un } (L2.start N vs) H := by
    have noO : ∀ i a, ¬ OwnAt { w with E := ds.map Slot.val ++ List.replicate (n - ds.length) .un } (L2.start N vs) i a := fun i a ⟨es, h1, _⟩ => by
      have h1' : (ds.map Slot.val ++ List.replicate (n - ds.length) .un)[i]? = some (.own es) := h1
      have := List.mem_of_getElem? h1'
      rcases List.mem_append.mp this with h | h
      · obtain ⟨d, _, h⟩ := List.mem_map.mp h
        cases h
      · have := (List.mem_replicate.mp h).2
        cases this
    refine ⟨⟨r.nn, r.ex, ?_, fun i sl hs => ?_, r.store, r.sinj, fun i j a h => (noO i a h).elim, fun i a k h => (noO i a h).elim⟩, ⟨.refl _, fun _ _ h => .inl h, fun _ _ h _ => h, fun a p => ?_⟩⟩
    · unfold L2.start
      show _ = (ds.map Slot.val ++ _).length
      rw [List.length_append, List.length_append, List.length_map, List.length_map, List.length_replicate, List.length_replicate, q.length, hn]
    · have hs' : (ds.map Slot.val ++ List.replicate (n - ds.length) .un)[i]? = some sl := hs
      by_cases c : i < ds.length
      · rw [List.getElem?_append_left (by rw [List.length_map]; exact c), List.getElem?_map] at hs'
        obtain ⟨d, h1, rfl⟩ := Option.map_eq_some_iff.mp hs'
        obtain ⟨v, h2, h3⟩ := q.get h1
        exact ⟨v, start_get h2, h3⟩
      · rw [List.getElem?_append_right (by rw [List.length_map]; omega)] at hs'
        have := (List.mem_replicate.mp (List.mem_of_getElem? hs')).2
        subst this
        trivial
    · rcases p with p | ⟨i, p⟩
      · exact .inl (.inl p)
      · exact (noO i a p).elim
  refine ot g _ (L2.start N vs) H _ (New g w [] H) st.1 (fun a h => ?_) ?_
  · rcases h with h | h
    · exact .inl h
    · exact (st.2.priv a h).symm
  · unfold runF at k
    have bare : ∀ {g' : Wd} {w' : W} {σ' : L2.St} {H' : Hp}, Rel X.K cm g' w' σ' H' → Step g { w with E := ds.map Slot.val ++ List.replicate (n - ds.length) .un } (L2.start N vs) H g' w' σ' H' → Rel X.K cm g' { w' with E := [] } [] H' ∧ Step g w [] H g' { w' with E := [] } [] H' := fun {g' w' σ' H'} r' s' => by
      refine ⟨r'.bare, ?_⟩
      have s2 := st.2.trans s'
      refine ⟨s2.le, s2.new, s2.frame, fun a p => s2.priv a (.inl (priv_bare p))⟩
    cases e : mb { w with E := ds.map Slot.val ++ List.replicate (n - ds.length) .un } with
    | ok fl w' =>
      rw [e] at k
      cases fl with
      | next =>
        intro g' σ' H' r' s'
        obtain ⟨r2, s2⟩ := bare r' s'
        exact k g' H' r2 s2 _ .non
      | brk => exact k.elim
      | cont => exact k.elim
      | ret z =>
        intro g' σ' H' r' s' v rv
        obtain ⟨r2, s2⟩ := bare r' s'
        refine k g' H' r2 s2 v ?_
        cases z with
        | val d => exact rv
        | own es =>
          obtain ⟨a, us, h1, h2, h3, h4, h5, h6⟩ := rv
          exact ⟨a, us, h1, h2, h3, fun p => h4 (.inl (priv_bare p)), h5, h6⟩
    | exc x w' =>
      rw [e] at k
      intro g' σ' H' cls d r' s' rx
      obtain ⟨r2, s2⟩ := bare r' s'
      exact k g' H' cls d r2 s2 rx
    | bad => rw [e] at k; exact k
/-- a def by the derivation of its body -/
theorem fnD {x qual : Str} {params : Arguments} {body : List Stmt} {scope : Scope} {f : Addr} {fd : FuncData} {N ps : List Str} {k n : Nat} {mb : M Flow1} (F : FunD K x qual params body scope [] [] f fd) (S : FnScope N ps scope) (hn : N.length = n) (hp : ps.length ≤ n)
    (hbody : ∀ (cdv : Value) (A : Around) (outer : List Env) (s : Shared) (H : Hp) (E : XK), Room k (A.deeper (envOfC qual scope s.heap.objs.size f cdv)) → A.guards = some [] →
      DSs cm (cxOf (L2N.CX P w) P w K mg base N qual scope f cdv A outer s H E) (fun cls d _ H' => E cls d H') body mb) : FnG P w K mg base (k + 1) f fd ps (spD K cm ps.length (runF n mb)) := by
  refine fnG_of F S (fun vs H Q E h => ?_) (fun cdv A outer s H vs Q E hr hg h => ?_)
  · obtain ⟨g, w, ds, _, _, q, hl, _⟩ := h
    rw [q.length, hl]
  · obtain ⟨t, pt, ot⟩ := hbody cdv A outer s H E hr hg
    refine ⟨t, pt, ?_⟩
    obtain ⟨g, w1, ds, e0, r, q, hl, k⟩ := h
    exact body_ok (X := cxOf (L2N.CX P w) P w K mg base N qual scope f cdv A outer s H E) hn ot e0 r q (by omega) k
end
end DL

/-! DCall: built-in functions, subscripts, slices, methods. -/
namespace DL
open PySem PySem.Spec PyProof.Rows L2 Evl

section
variable {cm : Nat → Addr} {X : Cx} {xw : WX} {x : Str} {p pos : Pos} {e : Expr} {es : List Expr} {ma : M (List D)} {r : List V → Hp → VK → Prop} {id T : String}
/-- a built-in called by its name: a function f of the data, a new list perhaps -/
theorem de_cb {f : List D → M R} (hc : CallR X (.builtin id) r) (hr : RCOk cm X xw r f) (hg : Gl X x) (hm : X.mg x = none) (hv : bootBuiltins x = some (.builtin id)) (ha : DA cm X xw (e :: es) ma) (hn : x ≠ "__name__" := by decide) (hdb : (x == ("__debug__" : Str)) = false := by decide)
    (he : starEach (e :: es) X.env = (false, eval e X.env) :: starEach es X.env := by rfl) (hpl : (backTo pos (starEach es X.env)).any (·.1) = false := by rfl) : DE cm X xw (.Call (.Name x p) (e :: es) [] pos) (M.bind ma f) := by
  obtain ⟨t, pa, oa⟩ := ha
  refine ⟨_, pe_callB hc hg hm hv pa hn hdb he hpl, fun g w σ H Q N r hN k => ?_⟩
  exact oa g w σ H _ r (GPost.imp (fun g1 w1 H1 ds r1 s1 k1 vs q => hr g1 w1 σ H1 vs ds Q N r1 (fun a h => hN a (s1.newIn h)) q k1) (GPost.bind k))
theorem dv_cb {f : List D → M D} (hc : CallR X (.builtin id) r) (hr : VCOk cm X xw r f) (hg : Gl X x) (hm : X.mg x = none) (hv : bootBuiltins x = some (.builtin id)) (ha : DA cm X xw (e :: es) ma) (hn : x ≠ "__name__" := by decide) (hdb : (x == ("__debug__" : Str)) = false := by decide)
    (he : starEach (e :: es) X.env = (false, eval e X.env) :: starEach es X.env := by rfl) (hpl : (backTo pos (starEach es X.env)).any (·.1) = false := by rfl) : DV cm X xw (.Call (.Name x p) (e :: es) [] pos) (M.bind ma f) := by
  obtain ⟨t, pa, oa⟩ := ha
  refine ⟨_, pe_callB hc hg hm hv pa hn hdb he hpl, fun g w σ H Q r k => ?_⟩
  exact oa g w σ H _ r (GPost.imp (fun g1 w1 H1 ds r1 s1 k1 vs q => hr g1 w1 σ H1 vs ds Q r1 q k1) (GPost.bind k))
theorem de_ct {f : List D → M R} (hc : CallR X (.type T) r) (hr : RCOk cm X xw r f) (hg : Gl X x) (hm : X.mg x = none) (hv : bootBuiltins x = some (.type T)) (ha : DA cm X xw (e :: es) ma) (hn : x ≠ "__name__" := by decide) (hdb : (x == ("__debug__" : Str)) = false := by decide)
    (he : starEach (e :: es) X.env = (false, eval e X.env) :: starEach es X.env := by rfl) (hpl : (backTo pos (starEach es X.env)).any (·.1) = false := by rfl) : DE cm X xw (.Call (.Name x p) (e :: es) [] pos) (M.bind ma f) := by
  obtain ⟨t, pa, oa⟩ := ha
  refine ⟨_, pe_callTy hc hg hm hv pa hn hdb he hpl, fun g w σ H Q N r hN k => ?_⟩
  exact oa g w σ H _ r (GPost.imp (fun g1 w1 H1 ds r1 s1 k1 vs q => hr g1 w1 σ H1 vs ds Q N r1 (fun a h => hN a (s1.newIn h)) q k1) (GPost.bind k))
theorem dv_ct {f : List D → M D} (hc : CallR X (.type T) r) (hr : VCOk cm X xw r f) (hg : Gl X x) (hm : X.mg x = none) (hv : bootBuiltins x = some (.type T)) (ha : DA cm X xw (e :: es) ma) (hn : x ≠ "__name__" := by decide) (hdb : (x == ("__debug__" : Str)) = false := by decide)
    (he : starEach (e :: es) X.env = (false, eval e X.env) :: starEach es X.env := by rfl) (hpl : (backTo pos (starEach es X.env)).any (·.1) = false := by rfl) : DV cm X xw (.Call (.Name x p) (e :: es) [] pos) (M.bind ma f) := by
  obtain ⟨t, pa, oa⟩ := ha
  refine ⟨_, pe_callTy hc hg hm hv pa hn hdb he hpl, fun g w σ H Q r k => ?_⟩
  exact oa g w σ H _ r (GPost.imp (fun g1 w1 H1 ds r1 s1 k1 vs q => hr g1 w1 σ H1 vs ds Q r1 q k1) (GPost.bind k))
end

/-! ### what data is as a list of ints, of truths, of texts -/
namespace D
def toInts : List D → Option (List Int)
  | [] => some []
  | .int i :: r => (toInts r).map (i :: ·)
  | _ => none
def toBls : List D → Option (List Bool)
  | [] => some []
  | .bl b :: r => (toBls r).map (b :: ·)
  | _ => none
def toStrs : List D → Option (List Str)
  | [] => some []
  | .str s :: r => (toStrs r).map (s :: ·)
  | _ => none
end D
section
variable {K : PySem.W.Frag} {g : Wd}
theorem Reps.toInts : ∀ {vs : List V} {ds : List D} {ns : List Int}, Reps K g vs ds → D.toInts ds = some ns → vs = ns.map V.int
  | _, _, _, .nil, e => by cases e; rfl
  | _, _, ns, .cons a b, e => by
    cases a with
    | int i =>
      obtain ⟨ms, e2, rfl⟩ := Option.map_eq_some_iff.mp (show (D.toInts _).map (i :: ·) = some ns from e)
      rw [Reps.toInts b e2]
      rfl
    | _ => cases e
theorem Reps.toBls : ∀ {vs : List V} {ds : List D} {ns : List Bool}, Reps K g vs ds → D.toBls ds = some ns → vs = ns.map V.bl
  | _, _, _, .nil, e => by cases e; rfl
  | _, _, ns, .cons a b, e => by
    cases a with
    | bl i =>
      obtain ⟨ms, e2, rfl⟩ := Option.map_eq_some_iff.mp (show (D.toBls _).map (i :: ·) = some ns from e)
      rw [Reps.toBls b e2]
      rfl
    | _ => cases e
theorem Reps.toStrs : ∀ {vs : List V} {ds : List D} {ns : List Str}, Reps K g vs ds → D.toStrs ds = some ns → vs = ns.map V.str
  | _, _, _, .nil, e => by cases e; rfl
  | _, _, ns, .cons a b, e => by
    cases a with
    | str i =>
      obtain ⟨ms, e2, rfl⟩ := Option.map_eq_some_iff.mp (show (D.toStrs _).map (i :: ·) = some ns from e)
      rw [Reps.toStrs b e2]
      rfl
    | _ => cases e
theorem reps_ints : ∀ ns : List Int, Reps K g (ns.map V.int) (ns.map D.int)
  | [] => .nil
  | i :: r => .cons (.int i) (reps_ints r)
theorem reps_strs : ∀ ns : List Str, Reps K g (ns.map V.str) (ns.map D.str)
  | [] => .nil
  | i :: r => .cons (.str i) (reps_strs r)
end

/-! ### len, min, max, sum, all, any -/
namespace M
/-- what a value's items are, the store's lists read as they stand -/
def items (d : D) : M (List D) := fun w => match d with
  | .lst ds => .ok ds w
  | .tup ds => .ok ds w
  | .scr ns => .ok (ns.map D.int) w
  | .ref k => (match w.S k with
    | some (.lst ds) => .ok ds w
    | _ => .bad)
  | _ => .bad
end M
section
variable {cm : Nat → Addr} {X : Cx} {xw : WX}
/-- items, in the heap -/
theorem items_ok {α : Type} {K : PySem.W.Frag} {g : Wd} {w : W} {σ : L2.St} {H : Hp} {v : V} {d : D} {f : List D → M α} {P : Wd → W → Hp → α → Prop} (r : Rel K cm g w σ H) (q : Rep K g v d) (k : GPost K cm xw g w σ H P (M.bind (M.items d) f w)) :
    ∃ a vs ds, v = .ref a ∧ (SqL K H a vs ∨ SqT K H a vs) ∧ Reps K g vs ds ∧ GPost K cm xw g w σ H P (f ds w) := by
  cases q with
  | lst h1 h2 => exact ⟨_, _, _, rfl, .inl (.inl (.inl (r.ex _ _ h1))), h2, k⟩
  | tup h1 h2 => exact ⟨_, _, _, rfl, .inr (ex_t r.ex h1), h2, k⟩
  | scr h => exact ⟨_, _, _, rfl, .inl (ex_l r.ex h), reps_ints _, k⟩
  | ref h =>
    rename_i kk
    unfold M.bind M.items at k
    cases e : w.S kk with
    | none => simp only [e] at k; exact k.elim
    | some o =>
      cases o with
      | lst ds =>
        simp only [e] at k
        obtain ⟨vs, h1, h2⟩ := (r.store kk _ e).2.2
        exact ⟨_, vs, ds, rfl, .inl (.inl (.inl h1)), h2, k⟩
      | ins c fs => simp only [e] at k; exact k.elim
  | _ => exact k.elim
def lenM : List D → M D
  | [.str s] => if s.length ≤ big then M.ret (.int s.length) else fun _ => .bad
  | [d] => M.bind (M.items d) fun ds => M.ret (.int ds.length)
  | _ => fun _ => .bad
abbrev rLenA (K : PySem.W.Frag) : List V → Hp → VK → Prop := fun xs H Q => ∃ x n, xs = [x] ∧ LenV K x H n ∧ Q (.int n) H
theorem vc_len : VCOk cm X xw (rLenA X.K) lenM := by
  intro g w σ H xs ds Q r q k
  unfold lenM at k
  split at k
  · rename_i s
    split at k
    · rename_i h
      cases q with
      | cons a b =>
        cases b
        cases a
        exact ⟨_, _, rfl, ⟨by rw [← big_eq]; exact h, rfl⟩, GPost.v r k (.int _)⟩
    · exact k.elim
  · rename_i d _
    cases q with
    | cons a b =>
      cases b
      obtain ⟨p, vs, es, rfl, h1, h2, k2⟩ := items_ok r a k
      refine ⟨.ref p, vs.length, rfl, h1.imp (fun h => ⟨vs, h, rfl⟩) (fun h => ⟨vs, h, rfl⟩), ?_⟩
      rw [h2.length]
      exact GPost.v r k2 (.int _)
  · exact k.elim
theorem dv_len {x : Str} {p pos : Pos} {e : Expr} {ma : M (List D)} (hg : Gl X x) (hm : X.mg x = none) (hv : bootBuiltins x = some (.builtin "len")) (ha : DA cm X xw [e] ma) (hn : x ≠ "__name__" := by decide) (hdb : (x == ("__debug__" : Str)) = false := by decide)
    (he : starEach [e] X.env = (false, eval e X.env) :: starEach [] X.env := by rfl) (hpl : (backTo pos (starEach [] X.env)).any (·.1) = false := by rfl) : DV cm X xw (.Call (.Name x p) [e] [] pos) (M.bind ma lenM) := dv_cb call_len vc_len hg hm hv ha hn hdb he hpl
def min2 : List D → Option D
  | [.int i, .int j] => some (.int (if j < i then j else i))
  | _ => none
def max2 : List D → Option D
  | [.int i, .int j] => some (.int (if j > i then j else i))
  | _ => none
theorem vc_lift {r : List V → Hp → VK → Prop} {f : List D → Option D} (h : ∀ (K : PySem.W.Frag) g xs ds z H Q, Reps K g xs ds → f ds = some z → (∀ v, Rep K g v z → Q v H) → r xs H Q) : VCOk cm X xw r (fun ds => M.lift (f ds)) := by
  intro g w σ H xs ds Q r q k
  obtain ⟨z, e, k⟩ := GPost.lift k
  exact h X.K g xs ds z H Q q e fun v q => GPost.v r k q
theorem vc_min : VCOk cm X xw (fun xs H Q => ∃ i j, xs = [.int i, .int j] ∧ Q (.int (if j < i then j else i)) H) (fun ds => M.lift (min2 ds)) := vc_lift fun K g xs ds z H Q q e k => by
  unfold min2 at e
  split at e
  · cases e
    cases q with
    | cons a b => cases b with
      | cons c d => cases d; cases a; cases c; exact ⟨_, _, rfl, k _ (.int _)⟩
  · cases e
theorem vc_max : VCOk cm X xw (fun xs H Q => ∃ i j, xs = [.int i, .int j] ∧ Q (.int (if j > i then j else i)) H) (fun ds => M.lift (max2 ds)) := vc_lift fun K g xs ds z H Q q e k => by
  unfold max2 at e
  split at e
  · cases e
    cases q with
    | cons a b => cases b with
      | cons c d => cases d; cases a; cases c; exact ⟨_, _, rfl, k _ (.int _)⟩
  · cases e
theorem dv_min {x : Str} {p pos : Pos} {e : Expr} {es : List Expr} {ma : M (List D)} (hc : X.calm = true) (hg : Gl X x) (hm : X.mg x = none) (hv : bootBuiltins x = some (.builtin "min")) (ha : DA cm X xw (e :: es) ma) (hn : x ≠ "__name__" := by decide) (hdb : (x == ("__debug__" : Str)) = false := by decide)
    (he : starEach (e :: es) X.env = (false, eval e X.env) :: starEach es X.env := by rfl) (hpl : (backTo pos (starEach es X.env)).any (·.1) = false := by rfl) : DV cm X xw (.Call (.Name x p) (e :: es) [] pos) (M.bind ma fun ds => M.lift (min2 ds)) := dv_cb (call_min2 hc) vc_min hg hm hv ha hn hdb he hpl
theorem dv_max {x : Str} {p pos : Pos} {e : Expr} {es : List Expr} {ma : M (List D)} (hc : X.calm = true) (hg : Gl X x) (hm : X.mg x = none) (hv : bootBuiltins x = some (.builtin "max")) (ha : DA cm X xw (e :: es) ma) (hn : x ≠ "__name__" := by decide) (hdb : (x == ("__debug__" : Str)) = false := by decide)
    (he : starEach (e :: es) X.env = (false, eval e X.env) :: starEach es X.env := by rfl) (hpl : (backTo pos (starEach es X.env)).any (·.1) = false := by rfl) : DV cm X xw (.Call (.Name x p) (e :: es) [] pos) (M.bind ma fun ds => M.lift (max2 ds)) := dv_cb (call_max2 hc) vc_max hg hm hv ha hn hdb he hpl
/-- sum of ints, all and any of truths: of a list -/
def ofList (f : List D → Option D) : List D → Option D
  | [.lst ds] => f ds
  | _ => none
def sumI (ds : List D) : Option D := (D.toInts ds).map fun ns => .int ns.sum
def allB (ds : List D) : Option D := (D.toBls ds).map fun bs => .bl (bs.all id)
def anyB (ds : List D) : Option D := (D.toBls ds).map fun bs => .bl (bs.any id)
theorem ofList_ok {f : List D → Option D} {K : PySem.W.Frag} {g : Wd} {H : Hp} {xs : List V} {ds : List D} {z : D} (ex : Ex g.B H) (q : Reps K g xs ds) (e : ofList f ds = some z) : ∃ a vs es, xs = [.ref a] ∧ SqL K H a vs ∧ Reps K g vs es ∧ f es = some z := by
  unfold ofList at e
  split at e
  · cases q with
    | cons a b =>
      cases b
      cases a with
      | lst h1 h2 => exact ⟨_, _, _, rfl, .inl (.inl (ex _ _ h1)), h2, e⟩
  · cases e
theorem vc_sum : VCOk cm X xw (rSum X.K) (fun ds => M.lift (ofList sumI ds)) := by
  intro g w σ H xs ds Q r q k
  obtain ⟨z, e, k⟩ := GPost.lift k
  obtain ⟨a, vs, es, rfl, h1, h2, e2⟩ := ofList_ok r.ex q e
  obtain ⟨ns, e3, rfl⟩ := Option.map_eq_some_iff.mp e2
  rw [h2.toInts e3] at h1
  exact ⟨a, ns, rfl, h1, GPost.v r k (.int _)⟩
theorem vc_all : VCOk cm X xw (rAll X.K) (fun ds => M.lift (ofList allB ds)) := by
  intro g w σ H xs ds Q r q k
  obtain ⟨z, e, k⟩ := GPost.lift k
  obtain ⟨a, vs, es, rfl, h1, h2, e2⟩ := ofList_ok r.ex q e
  obtain ⟨ns, e3, rfl⟩ := Option.map_eq_some_iff.mp e2
  rw [h2.toBls e3] at h1
  exact ⟨a, ns, rfl, h1, GPost.v r k (.bl _)⟩
theorem vc_any : VCOk cm X xw (rAny X.K) (fun ds => M.lift (ofList anyB ds)) := by
  intro g w σ H xs ds Q r q k
  obtain ⟨z, e, k⟩ := GPost.lift k
  obtain ⟨a, vs, es, rfl, h1, h2, e2⟩ := ofList_ok r.ex q e
  obtain ⟨ns, e3, rfl⟩ := Option.map_eq_some_iff.mp e2
  rw [h2.toBls e3] at h1
  exact ⟨a, ns, rfl, h1, GPost.v r k (.bl _)⟩
theorem dv_sum {x : Str} {p pos : Pos} {e : Expr} {es : List Expr} {ma : M (List D)} (hc : X.calm = true) (hg : Gl X x) (hm : X.mg x = none) (hv : bootBuiltins x = some (.builtin "sum")) (ha : DA cm X xw (e :: es) ma) (hn : x ≠ "__name__" := by decide) (hdb : (x == ("__debug__" : Str)) = false := by decide)
    (he : starEach (e :: es) X.env = (false, eval e X.env) :: starEach es X.env := by rfl) (hpl : (backTo pos (starEach es X.env)).any (·.1) = false := by rfl) : DV cm X xw (.Call (.Name x p) (e :: es) [] pos) (M.bind ma fun ds => M.lift (ofList sumI ds)) := dv_cb (cr_sum hc) vc_sum hg hm hv ha hn hdb he hpl
theorem dv_all {x : Str} {p pos : Pos} {e : Expr} {es : List Expr} {ma : M (List D)} (hc : X.calm = true) (hg : Gl X x) (hm : X.mg x = none) (hv : bootBuiltins x = some (.builtin "all")) (ha : DA cm X xw (e :: es) ma) (hn : x ≠ "__name__" := by decide) (hdb : (x == ("__debug__" : Str)) = false := by decide)
    (he : starEach (e :: es) X.env = (false, eval e X.env) :: starEach es X.env := by rfl) (hpl : (backTo pos (starEach es X.env)).any (·.1) = false := by rfl) : DV cm X xw (.Call (.Name x p) (e :: es) [] pos) (M.bind ma fun ds => M.lift (ofList allB ds)) := dv_cb (cr_all hc) vc_all hg hm hv ha hn hdb he hpl
theorem dv_any {x : Str} {p pos : Pos} {e : Expr} {es : List Expr} {ma : M (List D)} (hc : X.calm = true) (hg : Gl X x) (hm : X.mg x = none) (hv : bootBuiltins x = some (.builtin "any")) (ha : DA cm X xw (e :: es) ma) (hn : x ≠ "__name__" := by decide) (hdb : (x == ("__debug__" : Str)) = false := by decide)
    (he : starEach (e :: es) X.env = (false, eval e X.env) :: starEach es X.env := by rfl) (hpl : (backTo pos (starEach es X.env)).any (·.1) = false := by rfl) : DV cm X xw (.Call (.Name x p) (e :: es) [] pos) (M.bind ma fun ds => M.lift (ofList anyB ds)) := dv_cb (cr_any hc) vc_any hg hm hv ha hn hdb he hpl

/-! ### list(x), tuple(x), str(x), int(x) -/
def listM : List D → M R
  | [d] => M.bind (M.items d) fun ds => M.ret (.own ds)
  | _ => fun _ => .bad
theorem rc_list : RCOk cm X xw (fun xs H Q => ∃ p ys, xs = [.ref p] ∧ (SqL X.K H p ys ∨ SqT X.K H p ys) ∧ ∀ l, H l = none → Q (.ref l) (upd H l (.lst ys))) listM := by
  intro g w σ H xs ds Q N r hN q k
  unfold listM at k
  split at k
  · cases q with
    | cons a b =>
      cases b
      obtain ⟨p, vs, es, rfl, h1, h2, k2⟩ := items_ok r a k
      exact ⟨p, vs, rfl, h1, GPost.o r hN k2 h2⟩
  · exact k.elim
theorem de_list {x : Str} {p pos : Pos} {e : Expr} {es : List Expr} {ma : M (List D)} (hg : Gl X x) (hm : X.mg x = none) (hv : bootBuiltins x = some (.type "list")) (ha : DA cm X xw (e :: es) ma) (hn : x ≠ "__name__" := by decide) (hdb : (x == ("__debug__" : Str)) = false := by decide)
    (he : starEach (e :: es) X.env = (false, eval e X.env) :: starEach es X.env := by rfl) (hpl : (backTo pos (starEach es X.env)).any (·.1) = false := by rfl) : DE cm X xw (.Call (.Name x p) (e :: es) [] pos) (M.bind ma listM) := de_ct call_list_of rc_list hg hm hv ha hn hdb he hpl
def tupleM : List D → M D
  | [d] => M.bind (M.items d) fun ds => M.ret (.tup ds)
  | _ => fun _ => .bad
theorem vc_tuple : VCOk cm X xw (fun xs H Q => ∃ p ys, xs = [.ref p] ∧ ((SqL X.K H p ys ∧ ∀ l, H l = none → Q (.ref l) (upd H l (.tup ys))) ∨ (SqT X.K H p ys ∧ Q (.ref p) H))) tupleM := by
  intro g w σ H xs ds Q r q k
  unfold tupleM at k
  split at k
  · cases q with
    | cons a b =>
      cases b
      cases a with
      | tup h1 h2 => exact ⟨_, _, rfl, .inr ⟨ex_t r.ex h1, GPost.v r k (.tup h1 h2)⟩⟩
      | lst h1 h2 => exact ⟨_, _, rfl, .inl ⟨.inl (.inl (r.ex _ _ h1)), GPost.t r k h2⟩⟩
      | scr h => exact ⟨_, _, rfl, .inl ⟨ex_l r.ex h, GPost.t r k (reps_ints _)⟩⟩
      | ref h =>
        rename_i kk
        unfold M.bind M.items at k
        cases e : w.S kk with
        | none => simp only [e] at k; exact k.elim
        | some o =>
          cases o with
          | lst ds =>
            simp only [e] at k
            obtain ⟨vs, h1, h2⟩ := (r.store kk _ e).2.2
            exact ⟨_, vs, rfl, .inl ⟨.inl (.inl h1), GPost.t r k h2⟩⟩
          | ins c fs => simp only [e] at k; exact k.elim
      | _ => exact k.elim
  · exact k.elim
theorem dv_tuple {x : Str} {p pos : Pos} {e : Expr} {es : List Expr} {ma : M (List D)} (hg : Gl X x) (hm : X.mg x = none) (hv : bootBuiltins x = some (.type "tuple")) (ha : DA cm X xw (e :: es) ma) (hn : x ≠ "__name__" := by decide) (hdb : (x == ("__debug__" : Str)) = false := by decide)
    (he : starEach (e :: es) X.env = (false, eval e X.env) :: starEach es X.env := by rfl) (hpl : (backTo pos (starEach es X.env)).any (·.1) = false := by rfl) : DV cm X xw (.Call (.Name x p) (e :: es) [] pos) (M.bind ma tupleM) := dv_ct call_tuple_of vc_tuple hg hm hv ha hn hdb he hpl
def numStr (i : Int) : Str := (toString i : String)
def strF : List D → Option D
  | [.int i] => if i.natAbs.log2 < 1920 then some (.str (numStr i)) else none
  | [.str s] => some (.str s)
  | _ => none
theorem call_strA : CallR X (.type "str") (fun xs H Q => (∃ i, xs = [.int i] ∧ i.natAbs.log2 < 1920 ∧ Q (.str (toString i)) H) ∨ (∃ a, xs = [.str a] ∧ Q (.str a) H)) := CallR.or call_str_int SkE.call_str_str
theorem vc_str : VCOk cm X xw (fun xs H Q => (∃ i : Int, xs = [.int i] ∧ i.natAbs.log2 < 1920 ∧ Q (.str (toString i)) H) ∨ (∃ a, xs = [.str a] ∧ Q (.str a) H)) (fun ds => M.lift (strF ds)) := vc_lift fun K g xs ds z H Q q e k => by
  unfold strF at e
  split at e
  · split at e
    · rename_i h
      cases e
      cases q with
      | cons a b => cases b; cases a; exact .inl ⟨_, rfl, h, k _ (.str _)⟩
    · cases e
  · cases e
    cases q with
    | cons a b => cases b; cases a; exact .inr ⟨_, rfl, k _ (.str _)⟩
  · cases e
theorem dv_strF {x : Str} {p pos : Pos} {e : Expr} {es : List Expr} {ma : M (List D)} (hg : Gl X x) (hm : X.mg x = none) (hv : bootBuiltins x = some (.type "str")) (ha : DA cm X xw (e :: es) ma) (hn : x ≠ "__name__" := by decide) (hdb : (x == ("__debug__" : Str)) = false := by decide)
    (he : starEach (e :: es) X.env = (false, eval e X.env) :: starEach es X.env := by rfl) (hpl : (backTo pos (starEach es X.env)).any (·.1) = false := by rfl) : DV cm X xw (.Call (.Name x p) (e :: es) [] pos) (M.bind ma fun ds => M.lift (strF ds)) := dv_ct call_strA vc_str hg hm hv ha hn hdb he hpl
def intF : List D → Option D
  | [.int i] => some (.int i)
  | [.bl b] => some (.int (if b then 1 else 0))
  | [.str s] => if s.length ≤ 640 then (PySem.intText? s).map D.int else none
  | _ => none
theorem call_intA : CallR X (.type "int") (fun xs H Q => ((∃ i, xs = [.int i] ∧ Q (.int i) H) ∨ ∃ k, xs = [.bl k] ∧ Q (.int (if k then 1 else 0)) H) ∨ (∃ a n, xs = [.str a] ∧ PySem.intText? a = some n ∧ a.length ≤ 640 ∧ Q (.int n) H)) := CallR.or call_int1 call_int_str
theorem vc_int : VCOk cm X xw (fun xs H Q => ((∃ i, xs = [.int i] ∧ Q (.int i) H) ∨ ∃ k, xs = [.bl k] ∧ Q (.int (if k then 1 else 0)) H) ∨ (∃ a n, xs = [.str a] ∧ PySem.intText? a = some n ∧ a.length ≤ 640 ∧ Q (.int n) H)) (fun ds => M.lift (intF ds)) := vc_lift fun K g xs ds z H Q q e k => by
  unfold intF at e
  split at e
  · cases e
    cases q with
    | cons a b => cases b; cases a; exact .inl (.inl ⟨_, rfl, k _ (.int _)⟩)
  · cases e
    cases q with
    | cons a b => cases b; cases a; exact .inl (.inr ⟨_, rfl, k _ (.int _)⟩)
  · split at e
    · rename_i h
      obtain ⟨n, e2, rfl⟩ := Option.map_eq_some_iff.mp e
      cases q with
      | cons a b => cases b; cases a; exact .inr ⟨_, n, rfl, e2, h, k _ (.int _)⟩
    · cases e
  · cases e
theorem dv_intF {x : Str} {p pos : Pos} {e : Expr} {es : List Expr} {ma : M (List D)} (hg : Gl X x) (hm : X.mg x = none) (hv : bootBuiltins x = some (.type "int")) (ha : DA cm X xw (e :: es) ma) (hn : x ≠ "__name__" := by decide) (hdb : (x == ("__debug__" : Str)) = false := by decide)
    (he : starEach (e :: es) X.env = (false, eval e X.env) :: starEach es X.env := by rfl) (hpl : (backTo pos (starEach es X.env)).any (·.1) = false := by rfl) : DV cm X xw (.Call (.Name x p) (e :: es) [] pos) (M.bind ma fun ds => M.lift (intF ds)) := dv_ct call_intA vc_int hg hm hv ha hn hdb he hpl
end
end DL

/-! DCall2: isinstance, repr, subscripts, slices, methods of texts and lists. -/
namespace DL
open PySem PySem.Spec PyProof.Rows L2 Evl

/-! ### isinstance(x, T), (x, (T, U)) of built-in types -/
inductive Ty where
  | tInt | tStr | tBool | tList | tTuple
def Ty.name : Ty → String
  | .tInt => "int" | .tStr => "str" | .tBool => "bool" | .tList => "list" | .tTuple => "tuple"
def D.tyOf : D → Option String
  | .non => some "NoneType" | .bl _ => some "bool" | .int _ => some "int" | .str _ => some "str" | .lst _ => some "list" | .tup _ => some "tuple" | .dic => some "dict" | .scr _ => some "list" | .ref _ => none | .raw _ => none
def D.isa : D → Ty → Option Bool
  | .non, _ => some false
  | .bl _, .tInt => some true
  | .bl _, .tBool => some true
  | .bl _, _ => some false
  | .int _, .tInt => some true
  | .int _, _ => some false
  | .str _, .tStr => some true
  | .str _, _ => some false
  | .lst _, .tList => some true
  | .lst _, _ => some false
  | .scr _, .tList => some true
  | .scr _, _ => some false
  | .tup _, .tTuple => some true
  | .tup _, _ => some false
  | .dic, _ => some false
  | .ref _, _ => none
  | .raw _, _ => none
def D.isa2 (d : D) (T U : Ty) : Option D := match d.isa T, d.isa U with
  | some a, some b => some (.bl (a || b))
  | _, _ => none
theorem isa_kit {K : PySem.W.Frag} {d : D} {T : Ty} {b : Bool} (h : d.isa T = some b) : ∃ t, d.tyOf = some t ∧ PySem.W.kitOne K (.type t) (.type T.name) = some b := by
  cases d <;> cases T <;> cases h <;> exact ⟨_, rfl, kit_ty (by decide +kernel)⟩
theorem Rep.tyX {K : PySem.W.Frag} {g : Wd} {H : Hp} {v : V} {d : D} {t : String} (ex : Ex g.B H) (q : Rep K g v d) (h : d.tyOf = some t) : TyX K H v (.type t) := by
  cases q with
  | non => cases h; exact .base .non
  | bl b => cases h; exact .base (.bl b)
  | int i => cases h; exact .base (.int i)
  | str s => cases h; exact .base (.str s)
  | lst h1 h2 => cases h; exact .base (.lst (ex _ _ h1))
  | tup h1 h2 =>
    cases h
    rcases ex_t ex h1 with (h | ⟨o, h⟩) | ⟨o, its, n, h, hc, _⟩
    · exact .base (.tup h)
    · exact .fTuple h
    · exact .kTuple h hc
  | dic h1 => cases h; exact .base (.dK (ex _ _ h1))
  | scr h1 =>
    cases h
    rcases ex_l ex h1 with (h | ⟨o, h⟩) | ⟨o, its, n, h, hc, _⟩
    · exact .base (.lst h)
    · exact .base (.frz h)
    · exact .kList h hc
  | ref _ => cases h
  | raw a => cases h
section
variable {cm : Nat → Addr} {X : Cx} {xw : WX} {x y z : Str} {p p1 p2 p3 pos : Pos} {e : Expr} {m : M D}
theorem dv_isi (T : Ty) (hg : Gl X x) (hm : X.mg x = none) (hv : bootBuiltins x = some (.builtin "isinstance")) (hgT : Gl X y) (hmT : X.mg y = none) (hvT : bootBuiltins y = some (.type T.name)) (he : DV cm X xw e m) (hn : x ≠ "__name__" := by decide) (hdb : (x == ("__debug__" : Str)) = false := by decide)
    (hn2 : y ≠ "__name__" := by decide) (hdb2 : (y == ("__debug__" : Str)) = false := by decide)
    (hst : starEach [e, .Name y p1] X.env = (false, eval e X.env) :: starEach [.Name y p1] X.env := by rfl) (hst2 : starEach [.Name y p1] X.env = (false, eval (.Name y p1) X.env) :: starEach [] X.env := by rfl)
    (hpl : (backTo pos (starEach [.Name y p1] X.env)).any (·.1) = false := by rfl) :
    DV cm X xw (.Call (.Name x p) [e, .Name y p1] [] pos) (M.bind m fun d => M.lift ((d.isa T).map D.bl)) := by
  obtain ⟨t, pe, o⟩ := he
  refine ⟨_, pe_callB call_isi hg hm hv (pa_cons pe (pa_cons (pe_bltn (v := .ty T.name) hgT hmT hvT rfl hn2 hdb2) pa_nil hst2) hst) hn hdb hst hpl, fun g w σ H Q r k => ?_⟩
  refine o g w σ H _ r (GPost.imp (fun g1 w1 H1 d r1 s1 k1 v q => ?_) (GPost.bind k))
  obtain ⟨z, e1, k2⟩ := GPost.lift k1
  obtain ⟨b, e2, rfl⟩ := Option.map_eq_some_iff.mp e1
  obtain ⟨t, h1, h2⟩ := isa_kit (K := X.K) e2
  exact ⟨v, .ty T.name, .type t, .type T.name, b, rfl, .ty _, q.tyX r1.ex h1, h2, GPost.v r1 k2 (.bl b)⟩
theorem dv_isi2 (T U : Ty) {n : Nat} (hg : Gl X x) (hm : X.mg x = none) (hv : bootBuiltins x = some (.builtin "isinstance")) (hgT : Gl X y) (hmT : X.mg y = none) (hvT : bootBuiltins y = some (.type T.name)) (hgU : Gl X z) (hmU : X.mg z = none) (hvU : bootBuiltins z = some (.type U.name)) (he : DV cm X xw e m)
    (hn : x ≠ "__name__" := by decide) (hdb : (x == ("__debug__" : Str)) = false := by decide) (hn2 : y ≠ "__name__" := by decide) (hdb2 : (y == ("__debug__" : Str)) = false := by decide) (hn3 : z ≠ "__name__" := by decide) (hdb3 : (z == ("__debug__" : Str)) = false := by decide)
    (hst : starEach [e, .Tuple [.Name y p1, .Name z p2] n p3] X.env = (false, eval e X.env) :: starEach [.Tuple [.Name y p1, .Name z p2] n p3] X.env := by rfl)
    (hst2 : starEach [.Tuple [.Name y p1, .Name z p2] n p3] X.env = (false, eval (.Tuple [.Name y p1, .Name z p2] n p3) X.env) :: starEach [] X.env := by rfl)
    (hst3 : starEach [.Name y p1, .Name z p2] X.env = (false, eval (.Name y p1) X.env) :: starEach [.Name z p2] X.env := by rfl) (hst4 : starEach [.Name z p2] X.env = (false, eval (.Name z p2) X.env) :: starEach [] X.env := by rfl)
    (hpl : (backTo pos (starEach [.Tuple [.Name y p1, .Name z p2] n p3] X.env)).any (·.1) = false := by rfl) :
    DV cm X xw (.Call (.Name x p) [e, .Tuple [.Name y p1, .Name z p2] n p3] [] pos) (M.bind m fun d => M.lift (d.isa2 T U)) := by
  obtain ⟨t, pe, o⟩ := he
  refine ⟨_, pe_callB call_isiT hg hm hv (pa_cons pe (pa_cons (pe_tup (pa_cons (pe_bltn (v := .ty T.name) hgT hmT hvT rfl hn2 hdb2) (pa_cons (pe_bltn (v := .ty U.name) hgU hmU hvU rfl hn3 hdb3) pa_nil hst4) hst3)) pa_nil hst2) hst) hn hdb hst hpl, fun g w σ H Q r k => ?_⟩
  refine o g w σ H _ r (GPost.imp (fun g1 w1 H1 d r1 s1 k1 v q => ?_) (GPost.bind k))
  refine ⟨by show 2 ≤ sizeLine; decide, fun tp htp => ?_⟩
  obtain ⟨z, e1, k2⟩ := GPost.lift k1
  unfold D.isa2 at e1
  split at e1
  · rename_i a b ea eb
    cases e1
    obtain ⟨t, h1, h2⟩ := isa_kit (K := X.K) ea
    obtain ⟨t', h1', h3⟩ := isa_kit (K := X.K) eb
    rw [h1] at h1'
    cases h1'
    obtain ⟨r2, s2, _⟩ := r1.fresh (o := .tup [V.ty T.name, V.ty U.name]) htp
    refine ⟨v, tp, [V.ty T.name, V.ty U.name], .type t, [.type T.name, .type U.name], a || b, rfl, upd_same, .cons (.ty _) (.cons (.ty _) .nil), q.tyX r2.ex h1, ?_, k2 _ _ r2 s2 _ (.bl _)⟩
    refine kitAny_cons h2 (fun ha => ?_) (fun ha => by rw [ha]; rfl)
    rw [ha, Bool.false_or]
    exact kitAny_cons h3 (fun hb => by rw [hb]; exact kitAny_nil) (fun hb => hb)
  · cases e1
end

/-! ### repr -/
mutual
inductive Dq (K : PySem.W.Frag) (H : Hp) : V → PyData → Prop
  | non : Dq K H .non .none
  | bl (b : Bool) : Dq K H (.bl b) (.bool b)
  | int (i : Int) : Dq K H (.int i) (.int i)
  | str (x : Str) : Dq K H (.str x) (.str x)
  | lst {a : Addr} {xs : List V} {ds : List PyData} : SqL K H a xs → DqAll K H xs ds → Dq K H (.ref a) (.list ds)
  | tup {a : Addr} {xs : List V} {ds : List PyData} : SqT K H a xs → DqAll K H xs ds → Dq K H (.ref a) (.tuple ds)
  | dic {a : Addr} : H a = some (.dK []) → Dq K H (.ref a) (.dict [])
inductive DqAll (K : PySem.W.Frag) (H : Hp) : List V → List PyData → Prop
  | nil : DqAll K H [] []
  | cons {v : V} {vs : List V} {d : PyData} {ds : List PyData} : Dq K H v d → DqAll K H vs ds → DqAll K H (v :: vs) (d :: ds)
end
section
variable {X : Cx} {pins : List (Addr × Obj)} {σ : L2.St} {H : Hp} {s : Shared}
/-- sys.modules is a dict of the written part -/
def SysOk (K : PySem.W.Frag) : Prop := ∃ o, K.lookup sysModules = some o ∧ o.cls = .type "dict"
theorem sys_no (I : Inv X pins σ H s) (h : SysOk X.K) {a : Addr} {o : Obj} (e : s.heap.get? a = some o) (c : o.cls ≠ .type "dict") : a ≠ sysModules := fun q => by
  obtain ⟨o', h1, h2⟩ := h
  have := I.kIn _ _ h1
  rw [← q, e] at this
  cases this
  exact c h2
mutual
theorem Dq.reads (I : Inv X pins σ H s) (hS : SysOk X.K) : ∀ (d : PyData) (v : V) (u : Value), Dq X.K H v d → RelV v u → ∃ as, Reads s.heap u d as ∧ sysModules ∉ as
  | .none, _, u, .non, r => by cases r; exact ⟨_, .none, by simp⟩
  | .bool b, _, u, .bl _, r => by cases r; exact ⟨_, .bool b, by simp⟩
  | .int i, _, u, .int _, r => by obtain ⟨t, rfl⟩ := r; exact ⟨_, .int i t, by simp⟩
  | .str x, _, u, .str _, r => by obtain ⟨t, rfl⟩ := r; exact ⟨_, .str x t, by simp⟩
  | .list ds, _, u, .lst h1 h2, r => by
    cases r
    obtain ⟨its, q1, ⟨o, n, e1, e2, _, e4⟩, q3⟩ := I.list h1
    obtain ⟨as, q4, q5⟩ := Dq.readsAll I hS ds _ its h2 q1
    refine ⟨_, .list e1 e2 e4 q4, fun hm => ?_⟩
    rcases List.mem_cons.mp hm with e | e
    · exact sys_no I hS e1 (by rw [e2]; decide) e.symm
    · exact q5 e
  | .tuple ds, _, u, .tup h1 h2, r => by
    cases r
    obtain ⟨its, q1, ⟨o, e1, e2, n, e4⟩, q3⟩ := I.tuple h1
    obtain ⟨as, q4, q5⟩ := Dq.readsAll I hS ds _ its h2 q1
    exact ⟨_, .tuple e1 e2 e4 q4, q5⟩
  | .dict kvs, _, u, d, r => by
    cases d with
    | dic h1 =>
      cases r
      obtain ⟨_, ns, vs, kv, o, es, ep, e1, ex, e2, _, pr, _⟩ := I.hok _ _ h1
      cases kv
      have e3 : es.toList = [] := by
        cases hh : es.toList with
        | nil => rfl
        | cons a l =>
          rw [hh] at pr
          cases pr
      refine ⟨_, .dict e1 ex.1 e2 (as := []) (bs := []) (by rw [e3]; exact .nil) (by rw [e3]; exact .nil), fun hm => ?_⟩
      rcases List.mem_cons.mp hm with q | q
      · rw [q] at ns
        simp at ns
      · cases q
theorem Dq.readsAll (I : Inv X pins σ H s) (hS : SysOk X.K) : ∀ (ds : List PyData) (vs : List V) (us : List Value), DqAll X.K H vs ds → Vals vs us → ∃ as, ReadsAll s.heap us ds as ∧ sysModules ∉ as
  | [], _, us, .nil, r => by cases r; exact ⟨_, .nil, by simp⟩
  | d :: ds, _, us, .cons h1 h2, r => by
    cases r with
    | cons r1 r2 =>
      obtain ⟨as, a1, a2⟩ := Dq.reads I hS d _ _ h1 r1
      obtain ⟨bs, b1, b2⟩ := Dq.readsAll I hS ds _ _ h2 r2
      exact ⟨_, .cons a1 b1, fun hm => (List.mem_append.mp hm).elim a2 b2⟩
end
end
namespace D
mutual
/-- data as the library's, the empty dict too -/
def pyd : D → Option PyData
  | .non => some .none
  | .bl b => some (.bool b)
  | .int i => some (.int i)
  | .str s => some (.str s)
  | .lst ds => (pyds ds).map PyData.list
  | .tup ds => (pyds ds).map PyData.tuple
  | .dic => some (.dict [])
  | .ref _ => none
  | .scr _ => none
  | .raw _ => none
def pyds : List D → Option (List PyData)
  | [] => some []
  | d :: ds => match pyd d with
    | some p => (match pyds ds with
      | some ps => some (p :: ps)
      | none => none)
    | none => none
end
end D
section
variable {K : PySem.W.Frag} {g : Wd} {H : Hp}
mutual
theorem Rep.dq (e : Ex g.B H) : ∀ (d : D) (v : V) (p : PyData), Rep K g v d → d.pyd = some p → Dq K H v p
  | .non, _, _, h, q => by cases h; unfold D.pyd at q; cases q; exact .non
  | .bl b, _, _, h, q => by cases h; unfold D.pyd at q; cases q; exact .bl b
  | .int i, _, _, h, q => by cases h; unfold D.pyd at q; cases q; exact .int i
  | .str s, _, _, h, q => by cases h; unfold D.pyd at q; cases q; exact .str s
  | .lst ds, _, p, h, q => by
    unfold D.pyd at q
    obtain ⟨ps, e2, rfl⟩ := Option.map_eq_some_iff.mp q
    cases h with
    | lst h1 h2 => exact .lst (.inl (.inl (e _ _ h1))) (Reps.dq e ds _ ps h2 e2)
  | .tup ds, _, p, h, q => by
    unfold D.pyd at q
    obtain ⟨ps, e2, rfl⟩ := Option.map_eq_some_iff.mp q
    cases h with
    | tup h1 h2 => exact .tup (ex_t e h1) (Reps.dq e ds _ ps h2 e2)
  | .dic, _, _, h, q => by
    unfold D.pyd at q
    cases q
    cases h with
    | dic h1 => exact .dic (e _ _ h1)
  | .ref _, _, _, h, q => by unfold D.pyd at q; cases q
  | .scr _, _, _, h, q => by unfold D.pyd at q; cases q
  | .raw _, _, _, h, q => by unfold D.pyd at q; cases q
theorem Reps.dq (e : Ex g.B H) : ∀ (ds : List D) (vs : List V) (ps : List PyData), Reps K g vs ds → D.pyds ds = some ps → DqAll K H vs ps
  | [], _, _, h, q => by cases h; unfold D.pyds at q; cases q; exact .nil
  | d :: ds, _, ps, h, q => by
    cases h with
    | cons h1 h2 =>
      unfold D.pyds at q
      cases e1 : d.pyd with
      | none => rw [e1] at q; cases q
      | some p =>
        rw [e1] at q
        cases e2 : D.pyds ds with
        | none => rw [e2] at q; cases q
        | some qs =>
          rw [e2] at q
          cases q
          exact .cons (Rep.dq e d _ p h1 e1) (Reps.dq e ds _ qs h2 e2)
end
end
def reprOk (p : PyData) : Prop := p.showable = true ∧ p.depth ≤ 60 ∧ p.shown.length ≤ big
instance (p : PyData) : Decidable (reprOk p) := by unfold reprOk; infer_instance
def reprF : List D → Option D
  | [d] => match d.pyd with
    | some p => if reprOk p then some (.str p.shown) else none
    | none => none
  | _ => none
def rRepr (K : PySem.W.Frag) : List V → Hp → VK → Prop := fun xs H Q => ∃ x p, xs = [x] ∧ Dq K H x p ∧ reprOk p ∧ Q (.str p.shown) H
section
variable {cm : Nat → Addr} {X : Cx} {xw : WX}
theorem call_reprA (hgd : X.A.guards = some []) (hu : X.A.units + 64 < cLine) (hS : SysOk X.K) : CallR X (.builtin "repr") (rRepr X.K) := by
  intro pins s σ H xs us Q I r h
  obtain ⟨x, p, rfl, hq, ⟨h1, h2, h3⟩, q⟩ := h
  obtain ⟨u, rfl, ru⟩ := vals1 r
  have h3' : p.shown.length ≤ sizeLine := by rw [← big_eq]; exact h3
  cases hq with
  | non => cases ru; exact PySem.P.repr_of_none ⟨.str _, H, I.tok _, ⟨_, rfl⟩, q⟩
  | bl b => cases ru; exact PySem.P.repr_of_bool ⟨.str _, H, I.tok _, ⟨_, rfl⟩, q⟩
  | int i => obtain ⟨t, rfl⟩ := ru; exact PySem.P.repr_of_int (of_decide_eq_true h1) ⟨.str _, H, I.tok _, ⟨_, rfl⟩, q⟩
  | str z => obtain ⟨t, rfl⟩ := ru; exact PySem.P.repr_of_str ⟨.str _, H, I.tok _, ⟨_, rfl⟩, q⟩ h3'
  | lst a b =>
    obtain ⟨as, q1, q2⟩ := Dq.reads I hS _ _ _ (.lst a b) ru
    cases ru
    exact repr_of_reads' q1 h1 (fun _ => q2) hgd (by omega) (fun _ _ e => e) (fun h' u tk hk => ⟨.str _, H, I.kept hk, ⟨_, rfl⟩, q⟩) h3'
  | tup a b =>
    obtain ⟨as, q1, q2⟩ := Dq.reads I hS _ _ _ (.tup a b) ru
    cases ru
    exact repr_of_reads' q1 h1 (fun _ => q2) hgd (by omega) (fun _ _ e => e) (fun h' u tk hk => ⟨.str _, H, I.kept hk, ⟨_, rfl⟩, q⟩) h3'
  | dic a =>
    obtain ⟨as, q1, q2⟩ := Dq.reads I hS _ _ _ (.dic a) ru
    cases ru
    exact repr_of_reads' q1 h1 (fun _ => q2) hgd (by omega) (fun _ _ e => e) (fun h' u tk hk => ⟨.str _, H, I.kept hk, ⟨_, rfl⟩, q⟩) h3'
theorem vc_repr : VCOk cm X xw (rRepr X.K) (fun ds => M.lift (reprF ds)) := by
  intro g w σ H xs ds Q r q k
  obtain ⟨z, e, k⟩ := GPost.lift k
  unfold reprF at e
  split at e
  · split at e
    · rename_i p ep
      split at e
      · rename_i hp
        cases e
        cases q with
        | cons a b => cases b; exact ⟨_, p, rfl, Rep.dq r.ex _ _ _ a ep, hp, GPost.v r k (.str _)⟩
      · cases e
    · cases e
  · cases e
theorem dv_repr {x : Str} {p pos : Pos} {e : Expr} {es : List Expr} {ma : M (List D)} (hgd : X.A.guards = some []) (hu : X.A.units + 64 < cLine) (hS : SysOk X.K) (hg : Gl X x) (hm : X.mg x = none) (hv : bootBuiltins x = some (.builtin "repr")) (ha : DA cm X xw (e :: es) ma) (hn : x ≠ "__name__" := by decide) (hdb : (x == ("__debug__" : Str)) = false := by decide)
    (he : starEach (e :: es) X.env = (false, eval e X.env) :: starEach es X.env := by rfl) (hpl : (backTo pos (starEach es X.env)).any (·.1) = false := by rfl) : DV cm X xw (.Call (.Name x p) (e :: es) [] pos) (M.bind ma fun ds => M.lift (reprF ds)) := dv_cb (call_reprA hgd hu hS) vc_repr hg hm hv ha hn hdb he hpl
end

/-! ### subscripts -/
namespace M
def ix (o i : D) : M D := match i with
  | .int i => (match o with
    | .str z => M.lift (if z.length ≤ big then (atI z.cps.toList i).map fun c => .str ⟨#[c]⟩ else none)
    | o => M.bind (M.items o) fun ds => M.lift (atI ds i))
  | _ => fun _ => .bad
end M
section
variable {cm : Nat → Addr} {X : Cx} {xw : WX} {a b : Expr} {ma mb : M D} {pos : Pos}
theorem Reps.atI {K : PySem.W.Frag} {g : Wd} {vs : List V} {ds : List D} {i : Int} {d : D} (q : Reps K g vs ds) (h : L2.atI ds i = some d) : ∃ v, L2.atI vs i = some v ∧ Rep K g v d := by
  unfold L2.atI at h
  obtain ⟨j, h1, h2⟩ := Option.bind_eq_some_iff.mp h
  obtain ⟨v, h3, h4⟩ := q.get h2
  refine ⟨v, ?_, h4⟩
  unfold L2.atI
  rw [q.length, h1]
  exact h3
theorem v2_ix : V2Ok cm X xw (rIx X.K) M.ix := by
  intro g w σ H x y dx dy Q r qx qy k
  unfold M.ix at k
  split at k
  · rename_i i
    cases qy
    split at k
    · rename_i z
      cases qx
      obtain ⟨d, e, k2⟩ := GPost.lift k
      split at e
      · rename_i h
        obtain ⟨c, e2, rfl⟩ := Option.map_eq_some_iff.mp e
        exact .inr (.inr ⟨z, i, c, rfl, rfl, by rw [← big_eq]; exact h, e2, GPost.v r k2 (.str _)⟩)
      · cases e
    · obtain ⟨p, vs, ds, rfl, h1, h2, k2⟩ := items_ok r qx k
      obtain ⟨d, e, k3⟩ := GPost.lift k2
      obtain ⟨v, h3, h4⟩ := h2.atI e
      rcases h1 with h1 | h1
      · exact .inl ⟨p, vs, i, v, rfl, rfl, h1, h3, GPost.v r k3 h4⟩
      · exact .inr (.inl ⟨p, vs, i, v, rfl, rfl, h1, h3, GPost.v r k3 h4⟩)
  · exact k.elim
theorem dv_ix (ha : DV cm X xw a ma) (hb : DV cm X xw b mb) (hs : PlainIx b := by exact fun _ _ => rfl) : DV cm X xw (.Subscript a b pos) (bind2 ma mb M.ix) := by
  obtain ⟨ta, pa, oa⟩ := ha
  obtain ⟨tb, pb, ob⟩ := hb
  exact ⟨_, pe_ix ix_seq pa pb hs, vok_op oa ob v2_ix⟩
end

/-! ### slices -/
section
variable (cm : Nat → Addr) (X : Cx) (xw : WX)
structure DO (e : Option Expr) (m : M (Option Int)) : Prop where
  ex : ∃ t : TO, PO X e t ∧ ∀ g w σ H (Q : Option Int → Hp → Prop), Rel X.K cm g w σ H → GPost X.K cm xw g w σ H (fun _ _ H' o => Q o H') (m w) → t σ H Q
end
def cutD (xs : List D) (lo hi : Option Int) : List D := (xs.drop (HT.sIx xs.length 0 lo)).take (HT.sIx xs.length xs.length hi - HT.sIx xs.length 0 lo)
def asInt : D → Option (Option Int)
  | .int i => some (some i)
  | _ => none
namespace M
def slice (o : D) (lo hi : Option Int) : M R := match o with
  | .str z => M.lift (if z.length ≤ big then some (.val (.str (cutS z lo hi))) else none)
  | .tup _ => fun _ => .bad
  | o => M.bind (M.items o) fun ds => M.ret (.own (cutD ds lo hi))
end M
section
variable {cm : Nat → Addr} {X : Cx} {xw : WX} {e : Expr} {m : M D} {pos p2 : Pos} {lo hi : Option Expr} {ml mh : M (Option Int)}
theorem do_none : DO cm X xw none (M.ret none) := ⟨_, po_none, fun g w σ H Q r k => GPost.here r k⟩
theorem do_some (he : DV cm X xw e m) : DO cm X xw (some e) (M.bind m fun d => M.lift (asInt d)) := by
  obtain ⟨t, p, o⟩ := he
  refine ⟨_, po_some p, fun g w σ H Q r k => ?_⟩
  refine o g w σ H _ r (GPost.imp (fun g1 w1 H1 d r1 s1 k1 v q => ?_) (GPost.bind k))
  obtain ⟨z, e1, k2⟩ := GPost.lift k1
  cases q <;> cases e1
  exact ⟨_, rfl, GPost.here r1 k2⟩
theorem Reps.cut {K : PySem.W.Frag} {g : Wd} {vs : List V} {ds : List D} (q : Reps K g vs ds) (lo hi : Option Int) : Reps K g (cutV vs lo hi) (cutD ds lo hi) := by
  unfold cutV cutD
  rw [q.length]
  exact (q.drop _).take _
def rSlA (K : PySem.W.Frag) : V → Option Int → Option Int → Hp → VK → Prop := fun x lo hi H Q => rSlL K x lo hi H Q ∨ rSlS x lo hi H Q
theorem de_slice (he : DV cm X xw e m) (hl : DO cm X xw lo ml) (hh : DO cm X xw hi mh) : DE cm X xw (.Subscript e (.Slice lo hi none p2) pos) (M.bind m fun d => M.bind ml fun l => M.bind mh fun h => M.slice d l h) := by
  obtain ⟨t, p, o⟩ := he
  obtain ⟨tl, pl, ol⟩ := hl
  obtain ⟨th, ph, oh⟩ := hh
  refine ⟨_, pe_slice (r := rSlA X.K) (SlR.or sl_list sl_str) p pl ph, fun g w σ H Q N r hN k => ?_⟩
  refine o g w σ H _ r (GPost.imp (fun g1 w1 H1 d r1 s1 k1 v q => ?_) (GPost.bind k))
  refine ol g1 w1 σ H1 _ r1 (GPost.imp (fun g2 w2 H2 l r2 s2 k2 => ?_) (GPost.bind k1))
  refine oh g2 w2 σ H2 _ r2 (GPost.imp (fun g3 w3 H3 h r3 s3 k3 => ?_) (GPost.bind k2))
  have q3 : Rep X.K g3 v d := q.mono (s2.le.trans s3.le)
  have hN3 : ∀ a, New g3 w3 σ H3 a → N a := fun a h => hN a (s1.newIn (s2.newIn (s3.newIn h)))
  cases q3 with
  | str z =>
    obtain ⟨x, e1, k4⟩ := GPost.lift k3
    split at e1
    · rename_i hz
      cases e1
      exact .inr ⟨z, rfl, by rw [← big_eq]; exact hz, GPost.here r3 k4 _ (.str _)⟩
    · cases e1
  | tup _ _ => exact k3.elim
  | lst h1 h2 => exact .inl ⟨_, _, rfl, .inl (.inl (r3.ex _ _ h1)), GPost.o r3 hN3 k3 (h2.cut _ _)⟩
  | scr h1 => exact .inl ⟨_, _, rfl, ex_l r3.ex h1, GPost.o r3 hN3 k3 ((reps_ints _).cut _ _)⟩
  | ref hk =>
    rename_i kk
    have k4 : GPost X.K cm xw g3 w3 σ H3 (PR X.K N σ Q) (M.bind (M.items (.ref kk)) (fun ds => M.ret (.own (cutD ds l h))) w3) := k3
    unfold M.bind M.items at k4
    cases e : w3.S kk with
    | none => simp only [e] at k4; exact k4.elim
    | some ob =>
      cases ob with
      | lst ds =>
        simp only [e] at k4
        obtain ⟨vs, h1, h2⟩ := (r3.store kk _ e).2.2
        exact .inl ⟨_, vs, rfl, .inl (.inl h1), GPost.o r3 hN3 k4 (h2.cut _ _)⟩
      | ins c fs => simp only [e] at k4; exact k4.elim
  | _ => exact k3.elim
end
end DL

/-! DLoop: targets, what is walked, for loops, list comprehensions. -/
namespace DL
open PySem PySem.Spec PyProof.Rows L2 Evl

/-! ### targets -/
section
variable (cm : Nat → Addr) (X : Cx)
/-- slots differ at ks alone -/
structure Dif (ks : List Nat) (σ σ' : L2.St) : Prop where
  len : σ'.length = σ.length
  at_ : ∀ j : Nat, j ∉ ks → σ'[j]? = σ[j]?
theorem Dif.refl (ks : List Nat) (σ : L2.St) : Dif ks σ σ := ⟨rfl, fun _ _ => rfl⟩
theorem Dif.trans {ks ls : List Nat} {a b c : L2.St} (h : Dif ks a b) (h' : Dif ls b c) : Dif (ks ++ ls) a c :=
  ⟨h'.len.trans h.len, fun j hj => (h'.at_ j fun q => hj (List.mem_append_right _ q)).trans (h.at_ j fun q => hj (List.mem_append_left _ q))⟩
theorem Dif.set (σ : L2.St) (i : Nat) (v : Option V) : Dif [i] σ (σ.set i v) := ⟨List.length_set .., fun j hj => List.getElem?_set_ne fun e => hj (by rw [e]; exact List.mem_singleton.mpr rfl)⟩
def UPost (K : PySem.W.Frag) (cm : Nat → Addr) (ks : List Nat) (g : Wd) (w : W) (σ : L2.St) (H : Hp) (Q : L2.St → Hp → Prop) : Option W → Prop
  | some w' => ∀ σ', Rel K cm g w' σ' H → Step g w σ H g w' σ' H → Dif ks σ σ' → Q σ' H
  | none => False
/-- the target, with the slots ks, takes d: f d -/
structure DG (tg : Expr) (ks : List Nat) (f : D → W → Option W) : Prop where
  ex : ∃ t : TG, PG X tg t ∧ ∀ g w σ H v d Q, Rel X.K cm g w σ H → Rep X.K g v d → UPost X.K cm ks g w σ H Q (f d w) → t v σ H Q
structure DGs (ts : List Expr) (ks : List Nat) (f : List D → W → Option W) : Prop where
  ex : ∃ t : TGs, PGs X ts t ∧ ∀ g w σ H vs ds Q, Rel X.K cm g w σ H → Reps X.K g vs ds → UPost X.K cm ks g w σ H Q (f ds w) → t vs σ H Q
end
def putW (i : Nat) (s : Slot) (w : W) : Option W := if i < w.E.length then some { w with E := w.E.set i s } else none
def gNm (i : Nat) (d : D) (w : W) : Option W := putW i (.val d) w
def gNl : List D → W → Option W
  | [], w => some w
  | _, _ => none
def gCn (f : D → W → Option W) (h : List D → W → Option W) : List D → W → Option W
  | d :: r, w => (f d w).bind (h r)
  | _, _ => none
def gTp (n : Nat) (h : List D → W → Option W) : D → W → Option W
  | .tup ds, w => if ds.length = n then h ds w else none
  | _, _ => none
section
variable {cm : Nat → Addr} {X : Cx}
theorem Rel.setVal {K : PySem.W.Frag} {g : Wd} {w : W} {σ : L2.St} {H : Hp} (r : Rel K cm g w σ H) {i : Nat} {v : V} {d : D} (q : Rep K g v d) :
    Rel K cm g { w with E := w.E.set i (.val d) } (σ.set i (some v)) H ∧ Step g w σ H g { w with E := w.E.set i (.val d) } (σ.set i (some v)) H := by
  obtain ⟨r2, p⟩ := r.set (i := i) (v := v) (x := .val d) (N := fun _ => False) q
  exact ⟨r2, .refl _, fun _ _ h => .inl h, fun _ _ h _ => h, fun b h => (p b h).imp id fun z => z.elim⟩
theorem dg_name (i : Nat) {x : Str} {pos : Pos} (hN : X.N.Nodup) (hi : X.N[i]? = some x := by rfl) (hx : Loc X.env.scope x := by first | exact Or.inl rfl | exact Or.inr rfl) (hf : X.fn x = true ∨ X.env.scope.names.lookup x = some .local := by first | exact .inl rfl | exact .inr rfl) : DG cm X (.Name x pos) [i] (gNm i) := by
  refine ⟨_, pg_name hN hi hx hf, fun g w σ H v d Q r q k => ?_⟩
  unfold gNm putW at k
  split at k
  · obtain ⟨r2, s2⟩ := r.setVal (i := i) q
    exact k _ r2 s2 (Dif.set ..)
  · exact k.elim
theorem dgs_nil : DGs cm X [] [] gNl := by
  refine ⟨_, pgs_nil, fun g w σ H vs ds Q r q k => ?_⟩
  cases q with
  | nil => exact ⟨rfl, k σ r (.refl ..) (.refl ..)⟩
  | cons a b => exact k.elim
theorem dgs_cons {e : Expr} {es : List Expr} {ks ls : List Nat} {f : D → W → Option W} {h : List D → W → Option W} (h1 : DG cm X e ks f) (h2 : DGs cm X es ls h) (hs : (assignEach (e :: es) X.env).map (·.2) = assign e X.env :: (assignEach es X.env).map (·.2) := by rfl) : DGs cm X (e :: es) (ks ++ ls) (gCn f h) := by
  obtain ⟨t, p, o⟩ := h1
  obtain ⟨u, p', o'⟩ := h2
  refine ⟨_, pgs_cons p p' hs, fun g w σ H vs ds Q r q k => ?_⟩
  cases q with
  | nil => exact k.elim
  | cons a b =>
    rename_i d ds
    refine ⟨_, _, rfl, o g w σ H _ d _ r a ?_⟩
    have k : UPost X.K cm (ks ++ ls) g w σ H Q ((f d w).bind (h ds)) := k
    cases e1 : f d w with
    | none => rw [e1] at k; exact k.elim
    | some w1 =>
      rw [e1] at k
      intro σ1 r1 s1 d1
      refine o' g w1 σ1 H _ ds Q r1 b ?_
      have k' : UPost X.K cm (ks ++ ls) g w σ H Q (h ds w1) := k
      cases e2 : h ds w1 with
      | none => rw [e2] at k'; exact k'.elim
      | some w2 =>
        rw [e2] at k'
        exact fun σ2 r2 s2 d2 => k' σ2 r2 (s1.trans s2) (d1.trans d2)
theorem dg_tup {es : List Expr} {ks : List Nat} {k : Nat} {n : Nat} {pos : Pos} {h : List D → W → Option W} (hc : X.calm = true) (hs : DGs cm X es ks h) (hn : (assignEach es X.env).length = n := by rfl) (hst : (assignEach es X.env).findIdx? (·.1) = none := by rfl) : DG cm X (.Tuple es k pos) ks (gTp n h) := by
  obtain ⟨t, p, o⟩ := hs
  refine ⟨_, pg_tup hc p hn hst, fun g w σ H v d Q r q k => ?_⟩
  cases q with
  | tup h1 h2 =>
    rename_i a vs ds
    have k' : UPost X.K cm ks g w σ H Q (if ds.length = n then h ds w else none) := k
    split at k'
    · rename_i hl
      exact ⟨a, vs, rfl, ex_t r.ex h1, h2.length.trans hl, o g w σ H vs ds Q r h2 k'⟩
    · exact k'.elim
  | _ => exact k.elim
/-- target = e, e's value taken apart -/
theorem ds_asgG {xw : WX} {tg e : Expr} {ks : List Nat} {m : M D} {f : D → W → Option W} {pos : Pos} (hg : DG cm X tg ks f) (he : DV cm X xw e m) (hs : swapsWithSole [tg] e pos.line X.env = pure false := by rfl) (hw : swappedStores [tg] e X.env = pure none := by rfl)
    (h1 : (assignEach [tg] X.env).map (·.2) = [assign tg X.env] := by rfl) : DS cm X xw (.Assign [tg] e pos) (M.bind m fun d w => match f d w with
      | some w' => .ok .next w'
      | none => .bad) := by
  obtain ⟨t, p, o⟩ := hg
  obtain ⟨te, pe, oe⟩ := he
  refine ⟨_, ps_asg pe p hs hw h1, fun g w σ H D N r hN k => ?_⟩
  refine oe g w σ H _ r (GPost.imp (fun g1 w1 H1 d r1 s1 k1 v q => ?_) (SPost.bind0 k))
  refine o g1 w1 σ H1 v d _ r1 q ?_
  cases e1 : f d w1 with
  | none => rw [e1] at k1; exact k1.elim
  | some w2 =>
    rw [e1] at k1
    exact fun σ2 r2 s2 _ => k1 g1 σ2 H1 r2 (s1.trans s2)
end

/-! ### what is walked -/
/-- from g on J yields the items ds, each perhaps in a new object, and stops behind them -/
def ItOk (K : PySem.W.Frag) (g : Wd) (J : It) (ds : List D) : Prop := ∀ g1 H, Wd.le g g1 → Ex g1.B H →
  (∀ (i : Nat) (d : D), ds[i]? = some d → J.go i H ∧ ∀ x H', J.yld i H x H' → (H' = H ∧ Rep K g1 x d) ∨ ∃ p o, H p = none ∧ H' = upd H p o ∧ Rep K (g1.put p o) x d) ∧ J.stop ds.length H
theorem ItOk.mono {K : PySem.W.Frag} {g g' : Wd} {J : It} {ds : List D} (h : ItOk K g J ds) (l : Wd.le g g') : ItOk K g' J ds := fun g1 H l1 => h g1 H (l.trans l1)
section
variable (cm : Nat → Addr) (X : Cx) (xw : WX)
structure DI (tg iter : Expr) (m : M (List D)) : Prop where
  ex : ∃ wi : TI, PI X tg iter wi ∧ ∀ g w σ H (R : It → Hp → Prop), Rel X.K cm g w σ H → GPost X.K cm xw g w σ H (fun g' _ H' ds => ∀ J, ItOk X.K g' J ds → R J H') (m w) → wi σ H R
end
section
variable {cm : Nat → Addr} {X : Cx} {xw : WX} {tg e : Expr} {m : M D} {ma : M (List D)} {pos p : Pos}
/-- a list or a tuple -/
def iSeq (K : PySem.W.Frag) (tl : TE) : TI := fun σ H R => tl σ H fun x H1 => ∃ a, x = .ref a ∧ (((∃ xs, SqL K H1 a xs) ∧ R (Itl K a) H1) ∨ ((∃ xs, SqT K H1 a xs) ∧ R (Itt K a) H1))
theorem pi_seq {tl : TE} (hl : PE X e tl) : PI X tg e (iSeq X.K tl) := by
  refine ⟨fun pins s σ H R I h => thn (hl.run pins s σ H _ I h) fun v s1 ⟨x, H1, I1, r1, q1⟩ => ?_⟩
  obtain ⟨a, rfl, q⟩ := q1
  cases r1
  have fr : ∀ b ∈ [s1.heap.objs.size], FpOk X pins H1 b := fun b hb => by
    rw [show b = s1.heap.objs.size by simpa using hb]
    exact I1.fpOk (Nat.le_refl _) (I1.hok.fresh (Nat.le_refl _))
  rcases q with ⟨⟨xs, hq⟩, q⟩ | ⟨⟨xs, hq⟩, q⟩
  · obtain ⟨its, rv, p, hz⟩ := I1.list hq
    exact wpAny_pyIter_list p.isList ⟨s1.heap.objs.size, [s1.heap.objs.size], _, _, H1, rfl, I1.kept (t' := s1.toks) fun b o e => Heap.get?_push_of_some _ e, turn_list a _, ⟨_, Heap.get?_push_size _ rfl, rfl, rfl⟩, fr, q⟩
  · obtain ⟨its, rv, p, hz⟩ := I1.tuple hq
    exact wpAny_pyIter_tuple (show s1.heap.IsTuple a its.toArray from p) ⟨s1.heap.objs.size, [s1.heap.objs.size], _, _, H1, rfl, I1.kept (t' := s1.toks) fun b o e => Heap.get?_push_of_some _ e, turn_tuple a _, ⟨_, Heap.get?_push_size _ rfl, rfl, rfl⟩, fr, q⟩
def listD : D → Option (List D)
  | .lst ds => some ds
  | .scr ns => some (ns.map D.int)
  | _ => none
def seqD : D → Option (List D)
  | .tup ds => some ds
  | d => listD d
theorem listD_ok {K : PySem.W.Frag} {g : Wd} {v : V} {d : D} {ds : List D} (q : Rep K g v d) (h : listD d = some ds) : ∃ a vs, v = .ref a ∧ SqL K g.B a vs ∧ Reps K g vs ds := by
  cases q with
  | lst h1 h2 => cases h; exact ⟨_, _, rfl, .inl (.inl h1), h2⟩
  | scr h1 => cases h; exact ⟨_, _, rfl, h1, reps_ints _⟩
  | _ => cases h
theorem SqL.one {K : PySem.W.Frag} {H : Hp} {a : Addr} {xs : List V} (h : H a = some (.lst xs)) : SqL K H a xs := .inl (.inl h)
/-- the reads of one list are one -/
theorem itl_ok {K : PySem.W.Frag} {g : Wd} {a : Addr} {vs : List V} {ds : List D} (h : SqL K g.B a vs) (q : Reps K g vs ds) : ItOk K g (Itl K a) ds := fun g1 H l ex => by
  have hs : SqL K H a vs := ex_l (l.B.trans ex) h
  refine ⟨fun i d e => ?_, ⟨vs, hs, Nat.le_of_eq q.length⟩⟩
  obtain ⟨v, e1, e2⟩ := q.get e
  refine ⟨⟨vs, v, hs, e1⟩, fun x H' ⟨h1, h2⟩ => .inl ⟨h1, ?_⟩⟩
  have := h2 vs hs
  rw [e1] at this
  cases this
  exact e2.mono l
theorem itt_ok {K : PySem.W.Frag} {g : Wd} {a : Addr} {vs : List V} {ds : List D} (h : SqT K g.B a vs) (q : Reps K g vs ds) : ItOk K g (Itt K a) ds := fun g1 H l ex => by
  have hs : SqT K H a vs := ex_t (l.B.trans ex) h
  refine ⟨fun i d e => ?_, ⟨vs, hs, Nat.le_of_eq q.length⟩⟩
  obtain ⟨v, e1, e2⟩ := q.get e
  refine ⟨⟨vs, v, hs, e1⟩, fun x H' ⟨h1, h2⟩ => .inl ⟨h1, ?_⟩⟩
  have := h2 vs hs
  rw [e1] at this
  cases this
  exact e2.mono l
theorem di_seq (he : DV cm X xw e m) : DI cm X xw tg e (M.bind m fun d => M.lift (seqD d)) := by
  obtain ⟨t, pe, o⟩ := he
  refine ⟨_, pi_seq pe, fun g w σ H R r k => ?_⟩
  refine o g w σ H _ r (GPost.imp (fun g1 w1 H1 d r1 s1 k1 v q => ?_) (GPost.bind k))
  obtain ⟨z, e1, k2⟩ := GPost.lift k1
  have k3 := GPost.here r1 k2
  cases q with
  | tup h1 h2 => cases e1; exact ⟨_, rfl, .inr ⟨⟨_, ex_t r1.ex h1⟩, k3 _ (itt_ok h1 h2)⟩⟩
  | lst h1 h2 => cases e1; exact ⟨_, rfl, .inl ⟨⟨_, .inl (.inl (r1.ex _ _ h1))⟩, k3 _ (itl_ok (.inl (.inl h1)) h2)⟩⟩
  | scr h1 => cases e1; exact ⟨_, rfl, .inl ⟨⟨_, ex_l r1.ex h1⟩, k3 _ (itl_ok h1 (reps_ints _))⟩⟩
  | _ => cases e1
/-- a text, sign by sign -/
def signs : D → Option (List D)
  | .str z => some (z.cps.toList.map fun c => .str ⟨#[c]⟩)
  | _ => none
theorem di_str (he : DV cm X xw e m) : DI cm X xw tg e (M.bind m fun d => M.lift (signs d)) := by
  obtain ⟨t, pe, o⟩ := he
  refine ⟨_, pi_str pe, fun g w σ H R r k => ?_⟩
  refine o g w σ H _ r (GPost.imp (fun g1 w1 H1 d r1 s1 k1 v q => ?_) (GPost.bind k))
  obtain ⟨z, e1, k2⟩ := GPost.lift k1
  have k3 := GPost.here r1 k2
  cases q with
  | str x =>
    cases e1
    refine ⟨x, rfl, k3 _ fun g2 H l ex => ⟨fun i d e => ?_, ?_⟩⟩
    · rw [List.getElem?_map] at e
      obtain ⟨c, e2, rfl⟩ := Option.map_eq_some_iff.mp e
      rw [Array.getElem?_toList] at e2
      refine ⟨?_, fun y H' ⟨h1, c', h2, h3⟩ => .inl ⟨h1, ?_⟩⟩
      · show i < x.cps.size
        exact (Array.getElem?_eq_some_iff.mp e2).1
      · rw [e2] at h2
        cases h2
        rw [h3]
        exact .str _
    · show x.cps.size ≤ _
      rw [List.length_map, Array.length_toList]
      exact Nat.le_refl _
  | _ => cases e1
/-- range(n), range(a, b) -/
def rangeD1 : List D → Option (List D)
  | [.int n] => if -(2 ^ 62) ≤ n ∧ n < 2 ^ 62 then some ((List.range n.toNat).map fun i : Nat => .int (0 + (i : Int))) else none
  | _ => none
def rangeD2 : List D → Option (List D)
  | [.int a, .int b] => if -(2 ^ 62) ≤ a ∧ a < 2 ^ 62 ∧ -(2 ^ 62) ≤ b ∧ b < 2 ^ 62 then some ((List.range (b - a).toNat).map fun i : Nat => .int (a + (i : Int))) else none
  | _ => none
theorem itr_ok {K : PySem.W.Frag} {g : Wd} (lo : Int) (n : Nat) : ItOk K g (Itr lo n) ((List.range n).map fun i : Nat => .int (lo + (i : Int))) := fun g1 H l ex => by
  refine ⟨fun i d e => ?_, ?_⟩
  · rw [List.getElem?_map] at e
    obtain ⟨j, e2, rfl⟩ := Option.map_eq_some_iff.mp e
    obtain ⟨h1, h2⟩ := List.getElem?_eq_some_iff.mp e2
    rw [List.getElem_range] at h2
    subst h2
    rw [List.length_range] at h1
    exact ⟨h1, fun x H' ⟨h3, h4⟩ => .inl ⟨h3, by rw [h4]; exact .int _⟩⟩
  · show n ≤ _
    rw [List.length_map, List.length_range]
    exact Nat.le_refl _
theorem di_range1 {a : Expr} (hg : Gl X "range") (hm : X.mg "range" = none) (ha : DA cm X xw [a] ma) (hs : starEach [a] X.env = [(false, eval a X.env)] := by rfl) : DI cm X xw tg (.Call (.Name "range" p) [a] [] pos) (M.bind ma fun ds => M.lift (rangeD1 ds)) := by
  obtain ⟨t, pe, o⟩ := ha
  refine ⟨_, pi_range1 hg hm pe hs, fun g w σ H R r k => ?_⟩
  refine o g w σ H _ r (GPost.imp (fun g1 w1 H1 d r1 s1 k1 vs q => ?_) (GPost.bind k))
  obtain ⟨z, e1, k2⟩ := GPost.lift k1
  have k3 := GPost.here r1 k2
  unfold rangeD1 at e1
  split at e1
  · split at e1
    · rename_i n h
      cases e1
      cases q with
      | cons a b => cases b; cases a; exact ⟨n, rfl, h.1, h.2, k3 _ (itr_ok 0 _)⟩
    · cases e1
  · cases e1
theorem di_range2 {a b : Expr} (hg : Gl X "range") (hm : X.mg "range" = none) (ha : DA cm X xw [a, b] ma) (hs : starEach [a, b] X.env = [(false, eval a X.env), (false, eval b X.env)] := by rfl) (hs2 : starEach [b] X.env = [(false, eval b X.env)] := by rfl) :
    DI cm X xw tg (.Call (.Name "range" p) [a, b] [] pos) (M.bind ma fun ds => M.lift (rangeD2 ds)) := by
  obtain ⟨t, pe, o⟩ := ha
  refine ⟨_, pi_range2 hg hm pe hs hs2, fun g w σ H R r k => ?_⟩
  refine o g w σ H _ r (GPost.imp (fun g1 w1 H1 d r1 s1 k1 vs q => ?_) (GPost.bind k))
  obtain ⟨z, e1, k2⟩ := GPost.lift k1
  have k3 := GPost.here r1 k2
  unfold rangeD2 at e1
  split at e1
  · split at e1
    · rename_i a b h
      cases e1
      cases q with
      | cons qa q =>
        cases q with
        | cons qb q => cases q; cases qa; cases qb; exact ⟨a, b, rfl, h, k3 _ (itr_ok a _)⟩
    · cases e1
  · cases e1
/-- enumerate(list): pairs of a number and an item -/
def enumD (i : Nat) : List D → List D
  | [] => []
  | d :: r => .tup [.int (i : Int), d] :: enumD (i + 1) r
theorem enumD_get : ∀ (ds : List D) (j i : Nat) (d : D), (enumD j ds)[i]? = some d → ∃ x, ds[i]? = some x ∧ d = .tup [.int ((j + i : Nat) : Int), x]
  | [], _, _, _, e => by simp [enumD] at e
  | x :: r, j, 0, d, e => by
    simp only [enumD, List.getElem?_cons_zero, Option.some.injEq] at e
    exact ⟨x, rfl, e.symm⟩
  | x :: r, j, i + 1, d, e => by
    simp only [enumD, List.getElem?_cons_succ] at e
    obtain ⟨y, h1, h2⟩ := enumD_get r (j + 1) i d e
    exact ⟨y, by simpa using h1, by rw [h2]; congr 4; omega⟩
theorem enumD_len : ∀ (ds : List D) (j : Nat), (enumD j ds).length = ds.length
  | [], _ => rfl
  | _ :: r, j => congrArg Nat.succ (enumD_len r (j + 1))
def enumF : List D → Option (List D)
  | [d] => (listD d).map (enumD 0)
  | _ => none
theorem ite_ok {K : PySem.W.Frag} {g : Wd} {a : Addr} {vs : List V} {ds : List D} (h : SqL K g.B a vs) (q : Reps K g vs ds) : ItOk K g (Ite K a) (enumD 0 ds) := fun g1 H l ex => by
  have hs : SqL K H a vs := ex_l (l.B.trans ex) h
  refine ⟨fun i d e => ?_, ⟨vs, hs, by rw [enumD_len, q.length]; exact Nat.le_refl _⟩⟩
  obtain ⟨x, e1, rfl⟩ := enumD_get ds 0 i d e
  obtain ⟨v, e2, e3⟩ := q.get e1
  refine ⟨⟨vs, v, hs, e2⟩, fun y H' hy => ?_⟩
  obtain ⟨T, z, rfl, hT, rfl, hz⟩ := hy
  have := hz vs hs
  rw [e2] at this
  cases this
  have l2 : Wd.le g1 (g1.put T (.tup [.int (i : Nat), v])) := Wd.le_put (fresh_back ex hT)
  refine .inr ⟨T, _, hT, rfl, .tup (.inl (.inl upd_same)) (.cons ?_ (.cons (e3.mono (l.trans l2)) .nil))⟩
  rw [Nat.zero_add]
  exact .int _
theorem di_enum {a : Expr} {elts : List Expr} {kk : Nat} {tpos : Pos} (hg : Gl X "enumerate") (hm : X.mg "enumerate" = none) (ha : DA cm X xw [a] ma) (hs : starEach [a] X.env = [(false, eval a X.env)] := by rfl) :
    DI cm X xw (.Tuple elts kk tpos) (.Call (.Name "enumerate" p) [a] [] pos) (M.bind ma fun ds => M.lift (enumF ds)) := by
  obtain ⟨t, pe, o⟩ := ha
  refine ⟨_, pi_enum hg hm pe hs, fun g w σ H R r k => ?_⟩
  refine o g w σ H _ r (GPost.imp (fun g1 w1 H1 d r1 s1 k1 vs q => ?_) (GPost.bind k))
  obtain ⟨z, e1, k2⟩ := GPost.lift k1
  have k3 := GPost.here r1 k2
  unfold enumF at e1
  split at e1
  · obtain ⟨ds, e2, rfl⟩ := Option.map_eq_some_iff.mp e1
    cases q with
    | cons qa q =>
      cases q
      obtain ⟨a, us, rfl, h1, h2⟩ := listD_ok qa e2
      exact ⟨a, us, rfl, ex_l r1.ex h1, k3 _ (ite_ok h1 h2)⟩
  · cases e1
/-- zip of two lists -/
def zipD : List D → List D → List D
  | a :: r, b :: s => .tup [a, b] :: zipD r s
  | _, _ => []
theorem zipD_get : ∀ (ds es : List D) (i : Nat) (d : D), (zipD ds es)[i]? = some d → ∃ x y, ds[i]? = some x ∧ es[i]? = some y ∧ d = .tup [x, y]
  | [], _, _, _, e => by simp [zipD] at e
  | _ :: _, [], _, _, e => by simp [zipD] at e
  | a :: r, b :: s, 0, d, e => by
    simp only [zipD, List.getElem?_cons_zero, Option.some.injEq] at e
    exact ⟨a, b, rfl, rfl, e.symm⟩
  | a :: r, b :: s, i + 1, d, e => by
    simp only [zipD, List.getElem?_cons_succ] at e
    obtain ⟨x, y, h1, h2, h3⟩ := zipD_get r s i d e
    exact ⟨x, y, by simpa using h1, by simpa using h2, h3⟩
theorem zipD_len : ∀ (ds es : List D), ds.length ≤ (zipD ds es).length ∨ es.length ≤ (zipD ds es).length
  | [], _ => .inl (Nat.zero_le _)
  | _ :: _, [] => .inr (Nat.zero_le _)
  | _ :: r, _ :: s => (zipD_len r s).imp Nat.succ_le_succ Nat.succ_le_succ
def zipF : List D → Option (List D)
  | [a, b] => match listD a, listD b with
    | some x, some y => some (zipD x y)
    | _, _ => none
  | _ => none
theorem itz_ok {K : PySem.W.Frag} {g : Wd} {a b : Addr} {vs us : List V} {ds es : List D} (h : SqL K g.B a vs) (q : Reps K g vs ds) (h' : SqL K g.B b us) (q' : Reps K g us es) : ItOk K g (Itz K a b) (zipD ds es) := fun g1 H l ex => by
  have hs : SqL K H a vs := ex_l (l.B.trans ex) h
  have hs' : SqL K H b us := ex_l (l.B.trans ex) h'
  refine ⟨fun i d e => ?_, ⟨vs, us, hs, hs', by rw [q.length, q'.length]; exact zipD_len ds es⟩⟩
  obtain ⟨x, y, e1, e1', rfl⟩ := zipD_get ds es i d e
  obtain ⟨v, e2, e3⟩ := q.get e1
  obtain ⟨u, e2', e3'⟩ := q'.get e1'
  refine ⟨⟨vs, us, v, u, hs, hs', e2, e2'⟩, fun y H' hy => ?_⟩
  obtain ⟨T, z, z', rfl, hT, rfl, hz, hz'⟩ := hy
  have t1 := hz vs hs
  have t2 := hz' us hs'
  rw [e2] at t1
  cases t1
  rw [e2'] at t2
  cases t2
  have l2 : Wd.le g1 (g1.put T (.tup [v, u])) := Wd.le_put (fresh_back ex hT)
  exact .inr ⟨T, _, hT, rfl, .tup (.inl (.inl upd_same)) (.cons (e3.mono (l.trans l2)) (.cons (e3'.mono (l.trans l2)) .nil))⟩
theorem di_zip {a b : Expr} {elts : List Expr} {kk : Nat} {tpos : Pos} (hg : Gl X "zip") (hm : X.mg "zip" = none) (ha : DA cm X xw [a, b] ma) (hs : starEach [a, b] X.env = (false, eval a X.env) :: starEach [b] X.env := by rfl)
    (hpl : (backTo pos (starEach [b] X.env)).any (·.1) = false := by rfl) : DI cm X xw (.Tuple elts kk tpos) (.Call (.Name "zip" p) [a, b] [] pos) (M.bind ma fun ds => M.lift (zipF ds)) := by
  obtain ⟨t, pe, o⟩ := ha
  refine ⟨_, pi_zip hg hm pe hs hpl, fun g w σ H R r k => ?_⟩
  refine o g w σ H _ r (GPost.imp (fun g1 w1 H1 d r1 s1 k1 vs q => ?_) (GPost.bind k))
  obtain ⟨z, e1, k2⟩ := GPost.lift k1
  have k3 := GPost.here r1 k2
  unfold zipF at e1
  split at e1
  · split at e1
    · rename_i x y ex ey
      cases e1
      cases q with
      | cons qa q =>
        cases q with
        | cons qb q =>
          cases q
          obtain ⟨a, us, rfl, h1, h2⟩ := listD_ok qa ex
          obtain ⟨b, ws, rfl, h3, h4⟩ := listD_ok qb ey
          exact ⟨a, b, us, ws, rfl, ex_l r1.ex h1, ex_l r1.ex h3, k3 _ (itz_ok h1 h2 h3 h4)⟩
    · cases e1
  · cases e1
end

/-! ### for -/
namespace M
def forL (f : D → W → Option W) (b : M Flow1) : List D → M Flow1
  | [] => M.ret .next
  | d :: r => fun w => match f d w with
    | none => .bad
    | some w1 => (match b w1 with
      | .ok .next w2 => forL f b r w2
      | .ok .cont w2 => forL f b r w2
      | .ok .brk w2 => .ok .next w2
      | .ok (.ret v) w2 => .ok (.ret v) w2
      | .exc e w2 => .exc e w2
      | .bad => .bad)
end M
section
variable {cm : Nat → Addr} {X : Cx} {xw : WX} {tg iter : Expr} {mi : M (List D)} {mb : M Flow1} {f : D → W → Option W} {ks : List Nat} {body : List Stmt} {pos : Pos}
theorem ds_for (hp : PassesOwn (model X.prog X.w) X.A X.env X.xe) (hc : X.calm = true) (hi : DI cm X xw tg iter mi) (hg : DG cm X tg ks f) (hb : DSs cm X xw body mb) (hs : ∀ x, foldedSetIterable iter X.env x = pure x := by intro _; rfl) :
    DS cm X xw (.For tg iter body [] pos) (M.bind mi fun items => M.forL f mb items) := by
  obtain ⟨wi, pi, oi⟩ := hi
  obtain ⟨tg', pg, og⟩ := hg
  obtain ⟨tb, pb, ob⟩ := hb
  refine ⟨_, ps_for hp hc pi pg pb hs, fun g w σ H D N r hN k => ?_⟩
  refine oi g w σ H _ r (GPost.imp (fun g1 w1 H1 items r1 s1 k1 J hJ => ?_) (SPost.bind k))
  have hN1 : ∀ a, New g1 w1 σ H1 a → N a := fun a h => hN a (s1.newIn h)
  refine ⟨fun i m σ' H' => i ≤ items.length ∧ m = items.length - i ∧ ∃ g' w', Rel X.K cm g' w' σ' H' ∧ Step g1 w1 σ H1 g' w' σ' H' ∧ SPost X.K cm xw N D g' w' σ' H' (M.forL f mb (items.drop i) w'), ⟨items.length, Nat.zero_le _, rfl, g1, w1, r1, .refl .., k1⟩, ?_⟩
  rintro i m σ' H' ⟨hi, rfl, g', w', r', s', k'⟩
  obtain ⟨hgo, hstop⟩ := (hJ.mono s'.le) g' H' (.refl _) r'.ex
  by_cases c : i < items.length
  · have ed : items[i]? = some items[i] := List.getElem?_eq_getElem c
    obtain ⟨go, yl⟩ := hgo i _ ed
    refine .inr ⟨go, fun σ2 H2 => ∃ g2 w2, Rel X.K cm g2 w2 σ2 H2 ∧ Step g1 w1 σ H1 g2 w2 σ2 H2 ∧ SPost X.K cm xw N D g2 w2 σ2 H2 (M.forL f mb (items.drop (i + 1)) w2), fun σ2 H2 ⟨g2, w2, a, b, c2⟩ => ⟨items.length - (i + 1), by omega, c, rfl, g2, w2, a, b, c2⟩, fun x Hx yx => ?_⟩
    rw [List.drop_eq_getElem_cons c] at k'
    have main : ∀ g2, Rel X.K cm g2 w' σ' Hx → Step g' w' σ' H' g2 w' σ' Hx → Rep X.K g2 x items[i] → tg' x σ' Hx fun σ2 H2 => tb { nx := fun σ2 H2 => ∃ g2 w2, Rel X.K cm g2 w2 σ2 H2 ∧ Step g1 w1 σ H1 g2 w2 σ2 H2 ∧ SPost X.K cm xw N D g2 w2 σ2 H2 (M.forL f mb (items.drop (i + 1)) w2), rt := D.rt, bk := D.nx, ct := fun σ2 H2 => ∃ g2 w2, Rel X.K cm g2 w2 σ2 H2 ∧ Step g1 w1 σ H1 g2 w2 σ2 H2 ∧ SPost X.K cm xw N D g2 w2 σ2 H2 (M.forL f mb (items.drop (i + 1)) w2) } σ2 H2 := fun g2 r2 s2 q2 => by
      refine og g2 w' σ' Hx x _ _ r2 q2 ?_
      unfold M.forL at k'
      cases e1 : f items[i] w' with
      | none => simp only [e1] at k'; exact k'.elim
      | some w3 =>
        simp only [e1] at k'
        intro σ3 r3 s3 _
        have s13 := s'.trans (s2.trans s3)
        refine ob g2 w3 σ3 Hx _ N r3 (fun a h => hN1 a (s13.newIn' h)) ?_
        have k3 := SPost.back (s2.trans s3) k'
        cases e2 : mb w3 with
        | ok fl w4 =>
          simp only [e2] at k3
          cases fl with
          | next => exact fun g4 σ4 H4 r4 s4 => ⟨g4, w4, r4, s13.trans s4, SPost.back s4 k3⟩
          | cont => exact fun g4 σ4 H4 r4 s4 => ⟨g4, w4, r4, s13.trans s4, SPost.back s4 k3⟩
          | brk => exact fun g4 σ4 H4 r4 s4 => k3 g4 σ4 H4 r4 s4
          | ret v => exact fun g4 σ4 H4 r4 s4 => k3 g4 σ4 H4 r4 s4
        | exc x w4 => simp only [e2] at k3; exact k3
        | bad => simp only [e2] at k3; exact k3
    rcases yl x Hx yx with ⟨rfl, q⟩ | ⟨p, o, hp, rfl, q⟩
    · exact main g' r' (.refl ..) q
    · obtain ⟨r2, s2⟩ := r'.lay (o := o) hp
      exact main _ r2 s2 q
  · have ei : i = items.length := by omega
    subst ei
    refine .inl ⟨hstop, ?_⟩
    rw [List.drop_length] at k'
    exact SPost.here r' k'
end

/-! ### one transformer for all that do m -/
section
variable (K : PySem.W.Frag) (cm : Nat → Addr) (xw : WX)
def tV (m : M D) : TE := fun σ H Q => ∃ g w, Rel K cm g w σ H ∧ GPost K cm xw g w σ H (PV K Q) (m w)
def tT (m : M Bool) : TT := fun σ H Q => ∃ g w, Rel K cm g w σ H ∧ GPost K cm xw g w σ H (PB Q) (m w)
def tG (ks : List Nat) (f : D → W → Option W) : TG := fun v σ H Q => ∃ g w d, Rel K cm g w σ H ∧ Rep K g v d ∧ UPost K cm ks g w σ H Q (f d w)
end
abbrev xF : WX := fun _ _ _ _ => False
section
variable {cm : Nat → Addr} {X : Cx} {xw : WX}
theorem DV.canon {e : Expr} {m : M D} (h : DV cm X xw e m) : PE X e (tV X.K cm xw m) := by
  obtain ⟨t, p, o⟩ := h
  exact ⟨fun pins s σ H Q I ⟨g, w, r, k⟩ => p.run pins s σ H Q I (o g w σ H Q r k)⟩
theorem DT.canon {e : Expr} {m : M Bool} (h : DT cm X xw e m) : PT X e (tT X.K cm xw m) := by
  obtain ⟨t, p, o⟩ := h
  exact ⟨fun pins s σ H Q I ⟨g, w, r, k⟩ => p.run pins s σ H Q I (o g w σ H Q r k)⟩
theorem DG.canon {e : Expr} {ks : List Nat} {f : D → W → Option W} (h : DG cm X e ks f) : PG X e (tG X.K cm ks f) := by
  obtain ⟨t, p, o⟩ := h
  exact ⟨fun pins s σ H v u Q I rv ⟨g, w, d, r, q, k⟩ => p.run pins s σ H v u Q I rv (o g w σ H v d Q r q k)⟩
/-- a clause's tests -/
structure DTs (cm : Nat → Addr) (X : Cx) (xw : WX) (ifs : List Expr) (m : M Bool) : Prop where
  run : PTs X ifs (tT X.K cm xw m)
theorem dts_nil : DTs cm X xw [] (M.ret true) := ⟨⟨fun pins s σ H Q I ⟨g, w, r, k⟩ => pts_nil.run pins s σ H Q I (GPost.here r k)⟩⟩
theorem dts_one {c : Expr} {m : M Bool} (h : DT cm X xw c m) : DTs cm X xw [c] m := ⟨pts_one h.canon⟩
end

/-! ### slots wiped -/
def wipeE (E : List Slot) : List Nat → List Slot
  | [] => E
  | v :: vs => (wipeE E vs).set v .un
def W.wipe (w : W) (vs : List Nat) : W := { w with E := wipeE w.E vs }
theorem wipeE_len (E : List Slot) : ∀ vs : List Nat, (wipeE E vs).length = E.length
  | [] => rfl
  | v :: vs => by rw [wipeE, List.length_set, wipeE_len E vs]
theorem wipeE_get {E : List Slot} {j : Nat} {s : Slot} : ∀ {vs : List Nat}, (wipeE E vs)[j]? = some s → s = .un ∨ (j ∉ vs ∧ E[j]? = some s)
  | [], h => .inr ⟨by simp, h⟩
  | v :: vs, h => by
    unfold wipeE at h
    by_cases c : v = j
    · subst c
      rw [List.getElem?_set_self'] at h
      cases hh : (wipeE E vs)[v]? with
      | none => rw [hh] at h; cases h
      | some o => rw [hh] at h; cases h; exact .inl rfl
    · rw [List.getElem?_set_ne c] at h
      rcases wipeE_get h with q | ⟨q1, q2⟩
      · exact .inl q
      · exact .inr ⟨fun m => (List.mem_cons.mp m).elim (fun e => c e.symm) q1, q2⟩
theorem wipeE_un {E : List Slot} {j : Nat} {s : Slot} : ∀ {vs : List Nat}, j ∈ vs → (wipeE E vs)[j]? = some s → s = .un
  | v :: vs, m, h => by
    rcases wipeE_get h with q | ⟨q1, _⟩
    · exact q
    · exact absurd m q1
theorem wipe_ne {σ : L2.St} {j : Nat} : ∀ {vs : List Nat}, j ∉ vs → (L2.wipe σ vs)[j]? = σ[j]?
  | [], _ => rfl
  | v :: vs, h => by
    unfold L2.wipe
    rw [List.getElem?_set_ne fun e => h (by rw [e]; exact List.mem_cons_self ..)]
    exact wipe_ne fun m => h (List.mem_cons_of_mem _ m)
theorem wipe_at {σ : L2.St} {j : Nat} : ∀ {vs : List Nat}, j ∈ vs → j < σ.length → (L2.wipe σ vs)[j]? = some none
  | v :: vs, m, h => by
    unfold L2.wipe
    by_cases c : v = j
    · subst c
      rw [List.getElem?_set_self (by rw [wipe_length]; exact h)]
    · rw [List.getElem?_set_ne c]
      exact wipe_at ((List.mem_cons.mp m).resolve_left fun e => c e.symm) h
theorem wipe_dif {ks vs : List Nat} {σ σ' : L2.St} (d : Dif ks σ σ') (h : ∀ j ∈ ks, j ∈ vs) : L2.wipe σ' vs = L2.wipe σ vs := by
  apply List.ext_getElem?
  intro j
  by_cases c : j ∈ vs
  · by_cases l : j < σ.length
    · rw [wipe_at c l, wipe_at c (by rw [d.len]; exact l)]
    · rw [List.getElem?_eq_none (by rw [wipe_length, d.len]; omega), List.getElem?_eq_none (by rw [wipe_length]; omega)]
  · rw [wipe_ne c, wipe_ne c, d.at_ j fun q => c (h j q)]
section
variable {K : PySem.W.Frag} {cm : Nat → Addr} {g g' : Wd} {w w' : W} {σ σ' : L2.St} {H H' : Hp} {vs : List Nat}
theorem own_wipe {i : Nat} {a : Addr} (h : OwnAt (w.wipe vs) (L2.wipe σ vs) i a) : OwnAt w σ i a := by
  obtain ⟨ds, h1, h2⟩ := h
  rcases wipeE_get (show (wipeE w.E vs)[i]? = some (.own ds) from h1) with q | ⟨q1, q2⟩
  · cases q
  · exact ⟨ds, q2, by rw [← wipe_ne q1]; exact h2⟩
theorem Rel.wipe (r : Rel K cm g w σ H) (vs : List Nat) : Rel K cm g (w.wipe vs) (L2.wipe σ vs) H ∧ Step g w σ H g (w.wipe vs) (L2.wipe σ vs) H := by
  refine ⟨⟨r.nn, r.ex, by show _ = (wipeE w.E vs).length; rw [wipe_length, wipeE_len, r.len], fun i s hs => ?_, r.store, r.sinj, fun i j a h1 h2 => r.oinj i j a (own_wipe h1) (own_wipe h2), fun i a k h1 h2 => r.os i a k (own_wipe h1) h2⟩, ⟨.refl _, fun _ _ h => .inl h, fun _ _ h _ => h, fun a p => .inl (p.imp id fun ⟨i, h⟩ => ⟨i, own_wipe h⟩)⟩⟩
  rcases wipeE_get (show (wipeE w.E vs)[i]? = some s from hs) with q | ⟨q1, q2⟩
  · rw [q]; trivial
  · rw [wipe_ne q1]
    exact r.slot i s q2
theorem own_unwipe (hv : ∀ v ∈ vs, ∀ s, w.E[v]? = some s → s = .un) {i : Nat} {a : Addr} : OwnAt w σ i a ↔ OwnAt w (L2.wipe σ vs) i a := by
  have ni : ∀ ds, w.E[i]? = some (.own ds) → i ∉ vs := fun ds h m => by
    have := hv i m _ h
    cases this
  exact ⟨fun ⟨ds, h1, h2⟩ => ⟨ds, h1, by rw [wipe_ne (ni ds h1)]; exact h2⟩, fun ⟨ds, h1, h2⟩ => ⟨ds, h1, by rw [← wipe_ne (ni ds h1)]; exact h2⟩⟩
theorem Rel.unwipe (r : Rel K cm g w (L2.wipe σ vs) H) (hv : ∀ v ∈ vs, ∀ s, w.E[v]? = some s → s = .un) : Rel K cm g w σ H := by
  refine ⟨r.nn, r.ex, by rw [← r.len, wipe_length], fun i s hs => ?_, r.store, r.sinj, fun i j a h1 h2 => r.oinj i j a ((own_unwipe hv).mp h1) ((own_unwipe hv).mp h2), fun i a k h1 h2 => r.os i a k ((own_unwipe hv).mp h1) h2⟩
  by_cases c : i ∈ vs
  · rw [hv i c s hs]; trivial
  · have := r.slot i s hs
    rw [wipe_ne c] at this
    exact this
/-- D left out -/
def er (H : Hp) (D : Addr) : Hp := fun a => if a = D then none else H a
theorem er_ne {D a : Addr} (h : a ≠ D) : er H D a = H a := if_neg h
theorem er_at {D : Addr} : er H D D = none := if_pos rfl
theorem er_some {D a : Addr} {o : HO} (h : er H D a = some o) : a ≠ D ∧ H a = some o := by
  by_cases c : a = D
  · rw [c, er_at] at h; cases h
  · exact ⟨c, by rw [er_ne c] at h; exact h⟩
theorem er_none {D a : Addr} (h : H a = none) : er H D a = none := by
  by_cases c : a = D
  · rw [c]; exact er_at
  · rw [er_ne c]; exact h
theorem er_upd {D : Addr} {o : HO} : er (upd H D o) D = er H D := by
  funext a
  by_cases c : a = D
  · rw [c, er_at, er_at]
  · rw [er_ne c, er_ne c, upd_ne c]
theorem er_free {D : Addr} (h : H D = none) : er H D = H := by
  funext a
  by_cases c : a = D
  · rw [c, er_at, h]
  · rw [er_ne c]
theorem Step.er {D : Addr} (s : Step g w σ H g' w' σ' H') : Step g w σ (DL.er H D) g' w' σ' (DL.er H' D) :=
  ⟨s.le, fun a o h => (s.new a o h).imp id fun q => q.imp er_none id, fun a o h np => by
    obtain ⟨c, e⟩ := er_some h
    rw [er_ne c]
    exact s.frame a o e np, fun a p => (s.priv a p).imp id er_none⟩
/-- an object that the state does not know changes -/
theorem Rel.mut (r : Rel K cm g w σ H) {D : Addr} {o : HO} (hB : g.B D = none) (np : ¬ Priv w g σ D) : Rel K cm g w σ (upd H D o) := by
  have pn : ∀ a, Priv w g σ a → a ≠ D := fun a p e => np (e ▸ p)
  refine ⟨r.nn, fun a u e => ?_, r.len, fun i s hs => ?_, fun k u hk => ?_, r.sinj, r.oinj, r.os⟩
  · rw [upd_ne (ne_of_none e hB)]
    exact r.ex a u e
  · have q := r.slot i s hs
    cases s with
    | un => trivial
    | val d => exact q
    | own ds =>
      obtain ⟨a, us, e, h1, h2, h3⟩ := q
      exact ⟨a, us, e, by rw [upd_ne (pn a (.inr ⟨i, ds, hs, e⟩))]; exact h1, h2, h3⟩
  · obtain ⟨q1, q2, q3⟩ := r.store k u hk
    exact ⟨q1, q2, q3.mono (.refl _) (upd_ne (pn _ (.inl ⟨k, by rw [hk]; simp, rfl⟩)))⟩
/-- what stays of D over a step -/
theorem Step.keepD {D : Addr} {o : HO} (s : Step g w σ H g' w' σ' H') (h : H D = some o) (hB : g.B D = none) (np : ¬ Priv w g σ D) : H' D = some o ∧ g'.B D = none ∧ ¬ Priv w' g' σ' D := by
  refine ⟨s.frame D o h np, ?_, fun p => ?_⟩
  · cases q : g'.B D with
    | none => rfl
    | some u =>
      rcases s.new D u q with e | e | e
      · rw [hB] at e; cases e
      · rw [h] at e; cases e
      · exact (np e).elim
  · rcases s.priv D p with e | e
    · exact np e
    · rw [h] at e; cases e
end

/-! ### list comprehensions -/
namespace M
def lcL (vs : List Nat) (f : D → W → Option W) (t : M Bool) (e : M D) : List D → List D → M R
  | [], acc => M.ret (.own acc)
  | d :: r, acc => fun w => match f d w with
    | none => .bad
    | some w1 => (match t w1 with
      | .ok true w2 => (match e w2 with
        | .ok y w3 => if acc.length < big then lcL vs f t e r (acc ++ [y]) (w3.wipe vs) else .bad
        | _ => .bad)
      | .ok false w2 => lcL vs f t e r acc (w2.wipe vs)
      | _ => .bad)
def lc (vs : List Nat) (f : D → W → Option W) (t : M Bool) (e : M D) (items : List D) : M R := fun w => lcL vs f t e items [] (w.wipe vs)
end M
section
variable {cm : Nat → Addr} {X : Cx} {xw : WX} {elt tg iter : Expr} {ifs : List Expr} {scope : Scope} {own : List (Str × Nat)} {pos : Pos} {mi : M (List D)} {f : D → W → Option W} {ks : List Nat} {mt : M Bool} {me : M D}
theorem lc_ok {wi : TI} (oi : ∀ g w σ H (R : It → Hp → Prop), Rel X.K cm g w σ H → GPost X.K cm xw g w σ H (fun g' _ H' ds => ∀ J, ItOk X.K g' J ds → R J H') (mi w) → wi σ H R) {vs : List Nat} (hks : ∀ j ∈ ks, j ∈ vs) :
    EOk cm X xw (tLc wi (tG X.K cm ks f) (tT X.K cm xF mt) (tV X.K cm xF me) vs) (M.bind mi fun items => M.lc vs f mt me items) := by
  intro g w σ H Q N r hN k
  refine oi g w σ H _ r (GPost.imp (fun g1 w1 H1 items r1 s1 k1 J hJ => ?_) (GPost.bind k))
  have hN1 : ∀ a, New g1 w1 σ H1 a → N a := fun a h => hN a (s1.newIn h)
  intro D hD
  obtain ⟨rw0, sw0⟩ := r1.wipe vs
  obtain ⟨rD, sD, bD, pD⟩ := rw0.fresh (o := .lst []) hD
  refine ⟨fun i m H' => i ≤ items.length ∧ m = items.length - i ∧ ∃ g' w' acc ds, Rel X.K cm g' w' (L2.wipe σ vs) H' ∧ Step g1 w1 σ H1 g' w' (L2.wipe σ vs) (er H' D) ∧ (∀ v ∈ vs, ∀ s, w'.E[v]? = some s → s = .un) ∧ H' D = some (.lst acc) ∧ g'.B D = none ∧ ¬ Priv w' g' (L2.wipe σ vs) D ∧ Reps X.K g' acc ds ∧
    GPost X.K cm xw g1 w1 σ H1 (PR X.K N σ Q) (M.lcL vs f mt me (items.drop i) ds w'), ⟨items.length, Nat.zero_le _, rfl, g1, w1.wipe vs, [], [], rD, ?_, fun v hv s => wipeE_un hv, upd_same, bD, pD, .nil, k1⟩, ?_⟩
  · rw [er_upd, er_free hD]
    exact sw0
  rintro i m H' ⟨hi, rfl, g', w', acc, ds, r', s', un', hD', bD', pD', q', k'⟩
  obtain ⟨hgo, hstop⟩ := (hJ.mono s'.le) g' H' (.refl _) r'.ex
  by_cases c : i < items.length
  · have ed : items[i]? = some items[i] := List.getElem?_eq_getElem c
    obtain ⟨go, yl⟩ := hgo i _ ed
    refine .inr ⟨go, fun H2 => ∃ g2 w2 acc ds, Rel X.K cm g2 w2 (L2.wipe σ vs) H2 ∧ Step g1 w1 σ H1 g2 w2 (L2.wipe σ vs) (er H2 D) ∧ (∀ v ∈ vs, ∀ s, w2.E[v]? = some s → s = .un) ∧ H2 D = some (.lst acc) ∧ g2.B D = none ∧ ¬ Priv w2 g2 (L2.wipe σ vs) D ∧ Reps X.K g2 acc ds ∧
      GPost X.K cm xw g1 w1 σ H1 (PR X.K N σ Q) (M.lcL vs f mt me (items.drop (i + 1)) ds w2), fun H2 ⟨g2, w2, a, b, z⟩ => ⟨items.length - (i + 1), by omega, c, rfl, g2, w2, a, b, z⟩, fun x Hx yx => ?_⟩
    rw [List.drop_eq_getElem_cons c] at k'
    have main : ∀ g2, Rel X.K cm g2 w' (L2.wipe σ vs) Hx → Step g' w' (L2.wipe σ vs) H' g2 w' (L2.wipe σ vs) Hx → Rep X.K g2 x items[i] → tG X.K cm ks f x (L2.wipe σ vs) Hx fun σ2 H2 => L2.wipe σ2 vs = L2.wipe σ vs ∧ tT X.K cm xF mt σ2 H2 fun b H3 => if b = true then tV X.K cm xF me σ2 H3 fun y H4 => ∃ acc, H4 D = some (.lst acc) ∧ acc.length < sizeLine ∧
        (∃ g2 w2 acc' ds, Rel X.K cm g2 w2 (L2.wipe σ vs) (upd H4 D (.lst (acc ++ [y]))) ∧ Step g1 w1 σ H1 g2 w2 (L2.wipe σ vs) (er (upd H4 D (.lst (acc ++ [y]))) D) ∧ (∀ v ∈ vs, ∀ s, w2.E[v]? = some s → s = .un) ∧ (upd H4 D (.lst (acc ++ [y]))) D = some (.lst acc') ∧ g2.B D = none ∧ ¬ Priv w2 g2 (L2.wipe σ vs) D ∧ Reps X.K g2 acc' ds ∧
          GPost X.K cm xw g1 w1 σ H1 (PR X.K N σ Q) (M.lcL vs f mt me (items.drop (i + 1)) ds w2))
        else (∃ g2 w2 acc ds, Rel X.K cm g2 w2 (L2.wipe σ vs) H3 ∧ Step g1 w1 σ H1 g2 w2 (L2.wipe σ vs) (er H3 D) ∧ (∀ v ∈ vs, ∀ s, w2.E[v]? = some s → s = .un) ∧ H3 D = some (.lst acc) ∧ g2.B D = none ∧ ¬ Priv w2 g2 (L2.wipe σ vs) D ∧ Reps X.K g2 acc ds ∧
          GPost X.K cm xw g1 w1 σ H1 (PR X.K N σ Q) (M.lcL vs f mt me (items.drop (i + 1)) ds w2)) := fun g2 r2 s2 q2 => by
      refine ⟨g2, w', items[i], r2, q2, ?_⟩
      unfold M.lcL at k'
      cases e1 : f items[i] w' with
      | none => simp only [e1] at k'; exact k'.elim
      | some w3 =>
        simp only [e1] at k'
        intro σ3 r3 s3 d3
        have ew := wipe_dif d3 hks
        rw [show L2.wipe (L2.wipe σ vs) vs = L2.wipe σ vs from by
          apply List.ext_getElem?
          intro j
          by_cases cj : j ∈ vs
          · by_cases lj : j < σ.length
            · rw [wipe_at cj lj, wipe_at cj (by rw [wipe_length]; exact lj)]
            · rw [List.getElem?_eq_none (by rw [wipe_length, wipe_length]; omega), List.getElem?_eq_none (by rw [wipe_length]; omega)]
          · rw [wipe_ne cj]] at ew
        have s13 := s2.trans s3
        refine ⟨ew, g2, w3, r3, ?_⟩
        cases e2 : mt w3 with
        | ok b w4 =>
          intro g4 H4 r4 s4
          have s14 := s13.trans s4
          cases b with
          | false =>
            simp only [e2] at k'
            show if false = true then _ else _
            rw [if_neg (by decide)]
            obtain ⟨r5, s5⟩ := r4.wipe vs
            rw [ew] at r5 s5
            have s15 := s14.trans s5
            obtain ⟨h1, h2, h3⟩ := s15.keepD hD' bD' pD'
            exact ⟨g4, w4.wipe vs, acc, ds, r5, s'.trans s15.er, fun v hv s => wipeE_un hv, h1, h2, h3, q'.mono s15.le, k'⟩
          | true =>
            simp only [e2] at k'
            show if true = true then _ else _
            rw [if_pos rfl]
            refine ⟨g4, w4, r4, ?_⟩
            cases e3 : me w4 with
            | ok y w5 =>
              simp only [e3] at k'
              split at k'
              · rename_i hlen
                intro g5 H5 r5 s5 v5 q5
                obtain ⟨r6, s6⟩ := r5.wipe vs
                rw [ew] at r6 s6
                have s16 := (s14.trans s5).trans s6
                obtain ⟨h1, h2, h3⟩ := s16.keepD hD' bD' pD'
                refine ⟨acc, h1, by rw [← big_eq, q'.length]; exact hlen, g5, w5.wipe vs, acc ++ [v5], ds ++ [y], r6.mut h2 h3, ?_, fun v hv s => wipeE_un hv, upd_same, h2, h3, (q'.mono s16.le).append (.cons q5 .nil), k'⟩
                rw [er_upd]
                exact s'.trans s16.er
              · exact k'.elim
            | exc x w5 => simp only [e3] at k'; exact k'.elim
            | bad => simp only [e3] at k'; exact k'.elim
        | exc x w4 => simp only [e2] at k'; exact k'.elim
        | bad => simp only [e2] at k'; exact k'.elim
    rcases yl x Hx yx with ⟨rfl, q⟩ | ⟨p, o, hp, rfl, q⟩
    · exact main g' r' (.refl ..) q
    · obtain ⟨r2, s2⟩ := r'.lay (o := o) hp
      exact main _ r2 s2 q
  · have ei : i = items.length := by omega
    subst ei
    refine .inl ⟨hstop, ?_⟩
    rw [List.drop_length] at k'
    have hp : ∀ a, Priv w' g' σ a ↔ Priv w' g' (L2.wipe σ vs) a := fun a => or_congr Iff.rfl (exists_congr fun _ => own_unwipe un')
    refine k' g' H' (r'.unwipe un') ⟨s'.le, s'.new, fun a o h np => (er_some (s'.frame a o h np)).2, fun a p => s'.priv a ((hp a).mp p)⟩ (.ref D) ⟨D, acc, rfl, hD', bD', fun p => pD' ((hp D).mp p), hN1 D (.inl hD), q'⟩
end
end DL

/-! DMore: comprehensions in use, methods of texts and lists, stores, raise, try. -/
namespace DL
open PySem PySem.Spec PyProof.Rows L2 Evl

section
variable {cm : Nat → Addr} {X : Cx} {xw : WX} {elt tg iter : Expr} {ifs : List Expr} {scope : Scope} {own : List (Str × Nat)} {pos spos : Pos} {mi : M (List D)} {f : D → W → Option W} {ks : List Nat} {mt : M Bool} {me : M D}
theorem de_lc (hc : X.calm = true) (hN : X.N.Nodup) (hi : DI cm X xw tg iter mi) (ok : BlkOk X.N X.env.scope scope own)
    (hg : ∀ (s : Shared) (H : Hp) (C : Addr) (cl : List (Str × Addr)) (fp : List Addr), DG cm (X.blk s H scope (compEnvC scope cl C X.env) fp) tg ks f)
    (ht : ∀ (s : Shared) (H : Hp) (C : Addr) (cl : List (Str × Addr)) (fp : List Addr), DTs cm (X.blk s H scope (compEnvC scope cl C X.env) fp) xF ifs mt)
    (he : ∀ (s : Shared) (H : Hp) (C : Addr) (cl : List (Str × Addr)) (fp : List Addr), DV cm (X.blk s H scope (compEnvC scope cl C X.env) fp) xF elt me)
    (hk : (ks.all fun j => (own.map (·.2)).contains j) = true := by decide) (hs : ∀ x, foldedSetIterable iter X.env x = pure x := by intro _; rfl) :
    DE cm X xw (.ListComp elt [⟨tg, iter, ifs, 0⟩] scope pos) (M.bind mi fun items => M.lc (own.map (·.2)) f mt me items) := by
  obtain ⟨wi, pi, oi⟩ := hi
  exact ⟨_, pe_lc hc hN pi ok (fun s H C cl fp => (hg s H C cl fp).canon) (fun s H C cl fp => (ht s H C cl fp).run) (fun s H C cl fp => (he s H C cl fp).canon) hs, lc_ok oi fun j hj => by simpa using List.all_eq_true.mp hk j hj⟩
theorem ds_setLc {i : Nat} {y : Str} {py : Pos} (hc : X.calm = true) (hN : X.N.Nodup) (hy : X.N[i]? = some y) (hyl : X.env.scope.names.lookup y = some .local)
    (hsw : swapsWith (.ListComp elt [⟨tg, iter, ifs, 0⟩] scope pos) (some (.Name y py)) spos.line X.env = pure true) (hi : DI cm X xw tg iter mi) (ok : BlkOk X.N X.env.scope scope own)
    (hg : ∀ (s : Shared) (H : Hp) (C : Addr) (cl : List (Str × Addr)) (fp : List Addr), DG cm (X.blk s H scope (compEnvC scope cl C X.env) fp) tg ks f)
    (ht : ∀ (s : Shared) (H : Hp) (C : Addr) (cl : List (Str × Addr)) (fp : List Addr), DTs cm (X.blk s H scope (compEnvC scope cl C X.env) fp) xF ifs mt)
    (he : ∀ (s : Shared) (H : Hp) (C : Addr) (cl : List (Str × Addr)) (fp : List Addr), DV cm (X.blk s H scope (compEnvC scope cl C X.env) fp) xF elt me)
    (hk : (ks.all fun j => (own.map (·.2)).contains j) = true := by decide) (hs : ∀ x, foldedSetIterable iter X.env x = pure x := by intro _; rfl) :
    DS cm X xw (.Assign [.Name y py] (.ListComp elt [⟨tg, iter, ifs, 0⟩] scope pos) spos) (M.asg i (M.bind mi fun items => M.lc (own.map (·.2)) f mt me items)) := by
  obtain ⟨wi, pi, oi⟩ := hi
  exact ⟨_, ps_setLc hc hN hy hyl hsw pi ok (fun s H C cl fp => (hg s H C cl fp).canon) (fun s H C cl fp => (ht s H C cl fp).run) (fun s H C cl fp => (he s H C cl fp).canon) hs, sok_asg (lc_ok oi fun j hj => by simpa using List.all_eq_true.mp hk j hj)⟩
end

/-! ### methods of texts -/
section
variable {cm : Nat → Addr} {X : Cx} {xw : WX} {o e : Expr} {mo me : M D} {pos apos : Pos}
/-- the receiver is a text -/
def txt1 {α : Type} (mo me : M D) (f : Str → D → M α) : M α := M.bind mo fun x => match x with
  | .str a => M.bind me fun y => f a y
  | _ => fun _ => .bad
def partF (a : Str) : D → Option D
  | .str b => if b.length ≠ 0 ∧ a.length ≤ big then some (.tup [.str (Txt.partition a b).1, .str (Txt.partition a b).2.1, .str (Txt.partition a b).2.2]) else none
  | _ => none
def splitF (a : Str) : D → Option R
  | .str b => if b.length ≠ 0 ∧ a.length + 2 ≤ big then some (.own ((Txt.split a b).map D.str)) else none
  | _ => none
def joinF (a : Str) (ds : List D) : Option D := match D.toStrs ds with
  | some ys => if (ys.map (·.length)).sum + ys.length * a.length ≤ 16777216 then some (.str (Txt.join a ys)) else none
  | none => none
theorem len_ne {b : Str} (h : b.length ≠ 0) : (b.length == 0) = false := beq_eq_false_iff_ne.mpr h
theorem dv_partition (ho : DV cm X xw o mo) (he : DV cm X xw e me) (hs : starEach [e] X.env = [(false, eval e X.env)] := by rfl) (hbase : attributeBase o "partition" X.env (eval o X.env) = eval o X.env := by rfl) (hline : (apos.endLine == pos.line) = true := by rfl) :
    DV cm X xw (.Call (.Attribute o "partition" apos) [e] [] pos) (txt1 mo me fun a y => M.lift (partF a y)) := by
  obtain ⟨t, p, oo⟩ := ho
  obtain ⟨u, p', oe⟩ := he
  refine ⟨_, pe_partition p p' hs hbase hline, fun g w σ H Q r k => ?_⟩
  refine oo g w σ H _ r (GPost.imp (fun g1 w1 H1 d r1 s1 k1 v q => ?_) (GPost.bind k))
  cases q with
  | str a =>
    refine ⟨⟨a, rfl⟩, oe g1 w1 σ H1 _ r1 (GPost.imp (fun g2 w2 H2 y r2 s2 k2 v2 q2 => ?_) (GPost.bind k1))⟩
    obtain ⟨z, e1, k3⟩ := GPost.lift k2
    cases q2 with
    | str b =>
      have e1 : (if b.length ≠ 0 ∧ a.length ≤ big then some (D.tup [.str (Txt.partition a b).1, .str (Txt.partition a b).2.1, .str (Txt.partition a b).2.2]) else none) = some z := e1
      split at e1
      · rename_i h
        cases e1
        exact ⟨a, b, rfl, rfl, len_ne h.1, by rw [← big_eq]; exact h.2, GPost.t r2 k3 (.cons (.str _) (.cons (.str _) (.cons (.str _) .nil)))⟩
      · cases e1
    | _ => cases e1
  | _ => exact k1.elim
theorem de_split (ho : DV cm X xw o mo) (he : DV cm X xw e me) (hs : starEach [e] X.env = [(false, eval e X.env)] := by rfl) (hbase : attributeBase o "split" X.env (eval o X.env) = eval o X.env := by rfl) (hline : (apos.endLine == pos.line) = true := by rfl) :
    DE cm X xw (.Call (.Attribute o "split" apos) [e] [] pos) (txt1 mo me fun a y => M.lift (splitF a y)) := by
  obtain ⟨t, p, oo⟩ := ho
  obtain ⟨u, p', oe⟩ := he
  refine ⟨_, pe_split p p' hs hbase hline, fun g w σ H Q N r hN k => ?_⟩
  refine oo g w σ H _ r (GPost.imp (fun g1 w1 H1 d r1 s1 k1 v q => ?_) (GPost.bind k))
  cases q with
  | str a =>
    refine ⟨⟨a, rfl⟩, oe g1 w1 σ H1 _ r1 (GPost.imp (fun g2 w2 H2 y r2 s2 k2 v2 q2 => ?_) (GPost.bind k1))⟩
    obtain ⟨z, e1, k3⟩ := GPost.lift k2
    cases q2 with
    | str b =>
      have e1 : (if b.length ≠ 0 ∧ a.length + 2 ≤ big then some (R.own ((Txt.split a b).map D.str)) else none) = some z := e1
      split at e1
      · rename_i h
        cases e1
        exact ⟨a, b, rfl, rfl, len_ne h.1, by rw [← big_eq]; exact h.2, GPost.o r2 (fun a h => hN a (s1.newIn (s2.newIn h))) k3 (reps_strs _)⟩
      · cases e1
    | _ => cases e1
  | _ => exact k1.elim
theorem dv_join (ho : DV cm X xw o mo) (he : DV cm X xw e me) (hs : starEach [e] X.env = [(false, eval e X.env)] := by rfl) (hbase : attributeBase o "join" X.env (eval o X.env) = eval o X.env := by rfl) (hline : (apos.endLine == pos.line) = true := by rfl) :
    DV cm X xw (.Call (.Attribute o "join" apos) [e] [] pos) (txt1 mo me fun a y => M.bind (M.items y) fun ds => M.lift (joinF a ds)) := by
  obtain ⟨t, p, oo⟩ := ho
  obtain ⟨u, p', oe⟩ := he
  refine ⟨_, pe_join p p' hs hbase hline, fun g w σ H Q r k => ?_⟩
  refine oo g w σ H _ r (GPost.imp (fun g1 w1 H1 d r1 s1 k1 v q => ?_) (GPost.bind k))
  cases q with
  | str a =>
    refine ⟨⟨a, rfl⟩, oe g1 w1 σ H1 _ r1 (GPost.imp (fun g2 w2 H2 y r2 s2 k2 v2 q2 => ?_) (GPost.bind k1))⟩
    obtain ⟨b, vs, ds, rfl, h1, h2, k3⟩ := items_ok r2 q2 k2
    obtain ⟨z, e1, k4⟩ := GPost.lift k3
    unfold joinF at e1
    split at e1
    · rename_i ys ey
      split at e1
      · rename_i hz
        cases e1
        rw [h2.toStrs ey] at h1
        exact ⟨a, b, ys, rfl, rfl, h1, hz, GPost.v r2 k4 (.str _)⟩
      · cases e1
    · cases e1
  | _ => exact k1.elim
end

/-! ### lists that change: a slot's own, or one of the store -/
namespace M
/-- the list that d is, or that slot i holds as its own: what f makes of it stands in its place -/
def modSt (k : Nat) (f : List D → Option (D × List D)) : M D := fun w => match w.S k with
  | some (.lst ds) => (match f ds with
    | some (r, es) => .ok r { w with S := fun j => if j = k then some (.lst es) else w.S j }
    | none => .bad)
  | _ => .bad
def modOwn (i : Nat) (f : List D → Option (D × List D)) : M D := fun w => match w.E[i]? with
  | some (.own ds) => (match f ds with
    | some (r, es) => .ok r { w with E := w.E.set i (.own es) }
    | none => .bad)
  | _ => .bad
/-- the list of the name in slot i, the arguments reckoned behind the name -/
def modVar (i : Nat) (ma : M (List D)) (f : List D → List D → Option (D × List D)) : M D := fun w => match w.E[i]? with
  | some (.own _) => M.bind ma (fun as => modOwn i (f as)) w
  | some (.val (.ref k)) => (match w.S k with
    | some (.lst _) => M.bind ma (fun as => modSt k (f as)) w
    | _ => .bad)
  | _ => .bad
end M
section
variable {K : PySem.W.Frag} {cm : Nat → Addr} {g : Wd} {w : W} {σ : L2.St} {H : Hp}
/-- a list of the store is written anew -/
theorem Rel.modSt (r : Rel K cm g w σ H) {k : Nat} {o : MObj} (e : w.S k = some o) {vs : List V} {es : List D} (q : Reps K g vs es) :
    Rel K cm g { w with S := fun j => if j = k then some (.lst es) else w.S j } σ (upd H (g.ρ k) (.lst vs)) ∧ Step g w σ H g { w with S := fun j => if j = k then some (.lst es) else w.S j } σ (upd H (g.ρ k) (.lst vs)) := by
  have hk : w.S k ≠ none := by rw [e]; simp
  have pk : Priv w g σ (g.ρ k) := .inl ⟨k, hk, rfl⟩
  have hB := r.noB pk
  have ne : ∀ j, (if j = k then some (MObj.lst es) else w.S j) ≠ none → w.S j ≠ none := fun j h => by
    by_cases c : j = k
    · rw [c]; exact hk
    · rw [if_neg c] at h; exact h
  refine ⟨⟨r.nn, fun a u h => ?_, r.len, fun i s hs => ?_, fun j u hj => ?_, fun i j h1 h2 => r.sinj i j (ne i h1) (ne j h2), r.oinj, fun i a j h1 h2 => r.os i a j h1 (ne j h2)⟩, ⟨.refl _, fun _ _ h => .inl h, fun a u h np => ?_, fun a p => .inl (p.imp (fun ⟨j, h1, h2⟩ => ⟨j, ne j h1, h2⟩) id)⟩⟩
  · rw [upd_ne (ne_of_none h hB)]
    exact r.ex a u h
  · have q' := r.slot i s hs
    cases s with
    | un => trivial
    | val d => exact q'
    | own ds =>
      obtain ⟨a, us, e1, h1, h2, h3⟩ := q'
      exact ⟨a, us, e1, by rw [upd_ne fun q => r.os i a k ⟨ds, hs, e1⟩ hk q.symm]; exact h1, h2, h3⟩
  · have hj' : (if j = k then some (MObj.lst es) else w.S j) = some u := hj
    by_cases c : j = k
    · subst c
      rw [if_pos rfl] at hj'
      cases hj'
      obtain ⟨q1, q2, _⟩ := r.store j o e
      exact ⟨q1, q2, vs, upd_same, q⟩
    · rw [if_neg c] at hj'
      obtain ⟨q1, q2, q3⟩ := r.store j u hj'
      exact ⟨q1, q2, q3.mono (.refl _) (upd_ne fun e2 => c (r.sinj j k (by rw [hj']; simp) hk e2))⟩
  · rw [upd_ne fun (e2 : a = g.ρ k) => np (e2 ▸ pk)]
    exact h
/-- a slot's own list is written anew -/
theorem Rel.modOwn (r : Rel K cm g w σ H) {i : Nat} {ds : List D} (e : w.E[i]? = some (.own ds)) {a : Addr} (ha : σ[i]? = some (some (.ref a))) {vs : List V} {es : List D} (q : Reps K g vs es) :
    Rel K cm g { w with E := w.E.set i (.own es) } σ (upd H a (.lst vs)) ∧ Step g w σ H g { w with E := w.E.set i (.own es) } σ (upd H a (.lst vs)) := by
  have pa : Priv w g σ a := .inr ⟨i, ds, e, ha⟩
  have hB := r.noB pa
  have own : ∀ j b, OwnAt { w with E := w.E.set i (.own es) } σ j b → OwnAt w σ j b := fun j b ⟨fs, h1, h2⟩ => by
    have h1' : (w.E.set i (.own es))[j]? = some (.own fs) := h1
    by_cases c : i = j
    · subst c
      rw [ha] at h2
      cases h2
      exact ⟨ds, e, ha⟩
    · rw [List.getElem?_set_ne c] at h1'
      exact ⟨fs, h1', h2⟩
  refine ⟨⟨r.nn, fun b u h => ?_, by show _ = (w.E.set i _).length; rw [List.length_set]; exact r.len, fun j s hs => ?_, fun j u hj => ?_, r.sinj, fun j k b h1 h2 => r.oinj j k b (own j b h1) (own k b h2), fun j b k h1 h2 => r.os j b k (own j b h1) h2⟩, ⟨.refl _, fun _ _ h => .inl h, fun b u h np => ?_, fun b p => .inl (p.imp id fun ⟨j, h⟩ => ⟨j, own j b h⟩)⟩⟩
  · rw [upd_ne (ne_of_none h hB)]
    exact r.ex b u h
  · have hs' : (w.E.set i (.own es))[j]? = some s := hs
    by_cases c : i = j
    · subst c
      rw [List.getElem?_set_self', e] at hs'
      cases hs'
      exact ⟨a, vs, ha, upd_same, hB, q⟩
    · rw [List.getElem?_set_ne c] at hs'
      have q' := r.slot j s hs'
      cases s with
      | un => trivial
      | val d => exact q'
      | own fs =>
        obtain ⟨b, us, e1, h1, h2, h3⟩ := q'
        exact ⟨b, us, e1, by rw [upd_ne fun (q2 : b = a) => c (r.oinj j i a ⟨fs, hs', q2 ▸ e1⟩ ⟨ds, e, ha⟩).symm]; exact h1, h2, h3⟩
  · obtain ⟨q1, q2, q3⟩ := r.store j u hj
    exact ⟨q1, q2, q3.mono (.refl _) (upd_ne fun e2 => r.os i a j ⟨ds, e, ha⟩ (by show w.S j ≠ none; rw [show w.S j = some u from hj]; simp) e2)⟩
  · rw [upd_ne fun (e2 : b = a) => np (e2 ▸ pa)]
    exact h
end
/-- what a list's method does: the arguments, the list; what it gives, the list behind it -/
def MVOk (r : V → List V → Hp → VK → Prop) (f : List D → List D → Option (D × List D)) : Prop := ∀ (K : PySem.W.Frag) (g : Wd) (H : Hp) (a : Addr) (vs us : List V) (ds as es : List D) (z : D) (Q : VK),
  Reps K g us as → H a = some (.lst vs) → Reps K g vs ds → f as ds = some (z, es) → (∀ v ws, Rep K g v z → Reps K g ws es → Q v (upd H a (.lst ws))) → r (.ref a) us H Q
section
variable {cm : Nat → Addr} {X : Cx} {xw : WX} {e : Expr} {es : List Expr} {ma : M (List D)} {pos apos npos : Pos} {i : Nat} {x name : Str} {id : String} {r : V → List V → Hp → VK → Prop} {f : List D → List D → Option (D × List D)}
theorem vok_modVar {t : TA} (oa : AOk cm X xw t ma) (hr : MVOk r f) : VOk cm X xw (tBM X.K "list" r (tVar i) t) (M.modVar i ma f) := by
  intro g w σ H Q rr k
  unfold M.modVar at k
  cases e1 : w.E[i]? with
  | none => simp only [e1] at k; exact k.elim
  | some s =>
    cases s with
    | un => simp only [e1] at k; exact k.elim
    | own ds =>
      simp only [e1] at k
      obtain ⟨a, vs, h1, h2, _, _, _⟩ := st_own rr e1
      refine ⟨.ref a, h1, .inl ⟨rfl, vs, .inl (.inl h2)⟩, oa g w σ H _ rr (GPost.imp (fun g1 w1 H1 as r1 s1 k1 us q => ?_) (GPost.bind k))⟩
      unfold M.modOwn at k1
      cases e2 : w1.E[i]? with
      | none => simp only [e2] at k1; exact k1.elim
      | some s2 =>
        cases s2 with
        | un => simp only [e2] at k1; exact k1.elim
        | val d => simp only [e2] at k1; exact k1.elim
        | own ds2 =>
          simp only [e2] at k1
          cases e3 : f as ds2 with
          | none => simp only [e3] at k1; exact k1.elim
          | some z =>
            obtain ⟨z, es2⟩ := z
            simp only [e3] at k1
            obtain ⟨b, ws, c1, c2, _, c4, _⟩ := st_own r1 e2
            rw [h1] at c1
            cases c1
            refine hr X.K g1 H1 a ws us ds2 as es2 z Q q c2 c4 e3 fun v xs qv qs => ?_
            obtain ⟨r3, s3⟩ := r1.modOwn e2 h1 qs
            exact k1 g1 _ r3 s3 v qv
    | val d =>
      cases d with
      | ref kk =>
        simp only [e1] at k
        obtain ⟨v, h1, h2⟩ := rr.slot i _ e1
        cases h2 with
        | ref hk =>
          cases e4 : w.S kk with
          | none => simp only [e4] at k; exact k.elim
          | some o =>
            cases o with
            | ins c fs => simp only [e4] at k; exact k.elim
            | lst ds =>
              simp only [e4] at k
              obtain ⟨vs, h2, _⟩ := (rr.store kk _ e4).2.2
              refine ⟨_, h1, .inl ⟨rfl, vs, .inl (.inl h2)⟩, oa g w σ H _ rr (GPost.imp (fun g1 w1 H1 as r1 s1 k1 us q => ?_) (GPost.bind k))⟩
              unfold M.modSt at k1
              cases e2 : w1.S kk with
              | none => simp only [e2] at k1; exact k1.elim
              | some o2 =>
                cases o2 with
                | ins c fs => simp only [e2] at k1; exact k1.elim
                | lst ds2 =>
                  simp only [e2] at k1
                  cases e3 : f as ds2 with
                  | none => simp only [e3] at k1; exact k1.elim
                  | some z =>
                    obtain ⟨z, es2⟩ := z
                    simp only [e3] at k1
                    obtain ⟨ws, c2, c4⟩ := (r1.store kk _ e2).2.2
                    rw [← s1.le.ρ kk hk]
                    refine hr X.K g1 H1 _ ws us ds2 as es2 z Q q c2 c4 e3 fun v xs qv qs => ?_
                    obtain ⟨r3, s3⟩ := r1.modSt e2 qs
                    exact k1 g1 _ r3 s3 v qv
      | _ => simp only [e1] at k; exact k.elim
theorem dv_modVar (slot : PySem.Slot "list" name id) (hty : typeOf (.builtin id) = pure (.type "method_descriptor")) (hm : MtR X id r) (hr : MVOk r f) (ha : DA cm X xw (e :: es) ma) (hN : X.N[i]? = some x := by rfl) (hv : Vis X.env.scope x := by first | exact Or.inl rfl | exact Or.inr (Or.inl rfl) | exact Or.inr (Or.inr rfl))
    (hd : (x == ("__debug__" : Str)) = false := by decide) (hcd : (x == ("__classdict__" : Str)) = false := by decide) (hbase : attributeBase (.Name x npos) name X.env (eval (.Name x npos) X.env) = eval (.Name x npos) X.env := by rfl)
    (hfew : ((backTo pos (starEach (e :: es) X.env)).all (fun x => !x.1) && (backToKw pos (keywordEach [] X.env)).all (fun x => x.1.isSome) && decide ((e :: es).length + ([] : List Keyword).length + (if ([] : List Keyword).isEmpty then 0 else 1) < 30)) = true := by rfl)
    (hline : (apos.endLine == pos.line) = true := by rfl) (hs : starEach (e :: es) X.env = (false, eval e X.env) :: starEach es X.env := by rfl) (hplain : (backTo pos (starEach es X.env)).any (·.1) = false := by rfl) :
    DV cm X xw (.Call (.Attribute (.Name x npos) name apos) (e :: es) [] pos) (M.modVar i ma f) := by
  obtain ⟨t, pa, oa⟩ := ha
  exact ⟨_, pe_bm PySem.F.plainAttrs_list slot hty hm (pe_var hN hv hd hcd) pa hbase hfew hline hs hplain, vok_modVar oa hr⟩
def appF : List D → List D → Option (D × List D)
  | [d], ds => if ds.length < big then some (.non, ds ++ [d]) else none
  | _, _ => none
theorem mv_append : MVOk rAppend appF := by
  intro K g H a vs us ds as es z Q q h h' e k
  unfold appF at e
  split at e
  · split at e
    · rename_i hl
      cases e
      cases q with
      | cons qa q => cases q; exact ⟨a, vs, _, rfl, rfl, h, by rw [← big_eq, h'.length]; exact hl, k _ _ .non (h'.append (.cons qa .nil))⟩
    · cases e
  · cases e
def popAtF : List D → List D → Option (D × List D)
  | [.int i], ds => if -(2 ^ 63) ≤ i ∧ i < 2 ^ 63 then (match seqIndex? i ds.length with
    | some k => (match ds[k]? with
      | some d => some (d, ds.eraseIdx k)
      | none => none)
    | none => none) else none
  | _, _ => none
theorem mv_popAt : MVOk rPopAt popAtF := by
  intro K g H a vs us ds as es z Q q h h' e k
  unfold popAtF at e
  split at e
  · split at e
    · rename_i i hi
      split at e
      · rename_i j hj
        split at e
        · rename_i d hd
          cases e
          obtain ⟨v, e1, e2⟩ := h'.get hd
          cases q with
          | cons qa q => cases q; cases qa; exact ⟨a, vs, i, j, v, rfl, rfl, h, hi.1, hi.2, by rw [h'.length]; exact hj, e1, k _ _ e2 (h'.eraseIdx j)⟩
        · cases e
      · cases e
    · cases e
  · cases e
theorem dv_append (ha : DA cm X xw (e :: es) ma) (hN : X.N[i]? = some x := by rfl) (hv : Vis X.env.scope x := by first | exact Or.inl rfl | exact Or.inr (Or.inl rfl) | exact Or.inr (Or.inr rfl))
    (hd : (x == ("__debug__" : Str)) = false := by decide) (hcd : (x == ("__classdict__" : Str)) = false := by decide) (hbase : attributeBase (.Name x npos) "append" X.env (eval (.Name x npos) X.env) = eval (.Name x npos) X.env := by rfl)
    (hfew : ((backTo pos (starEach (e :: es) X.env)).all (fun x => !x.1) && (backToKw pos (keywordEach [] X.env)).all (fun x => x.1.isSome) && decide ((e :: es).length + ([] : List Keyword).length + (if ([] : List Keyword).isEmpty then 0 else 1) < 30)) = true := by rfl)
    (hline : (apos.endLine == pos.line) = true := by rfl) (hs : starEach (e :: es) X.env = (false, eval e X.env) :: starEach es X.env := by rfl) (hplain : (backTo pos (starEach es X.env)).any (·.1) = false := by rfl) :
    DV cm X xw (.Call (.Attribute (.Name x npos) "append" apos) (e :: es) [] pos) (M.modVar i ma appF) :=
  dv_modVar PySem.F.slot_list_append PySem.F.type_list_append mt_append mv_append ha hN hv hd hcd hbase hfew hline hs hplain
theorem dv_popAt (ha : DA cm X xw (e :: es) ma) (hN : X.N[i]? = some x := by rfl) (hv : Vis X.env.scope x := by first | exact Or.inl rfl | exact Or.inr (Or.inl rfl) | exact Or.inr (Or.inr rfl))
    (hd : (x == ("__debug__" : Str)) = false := by decide) (hcd : (x == ("__classdict__" : Str)) = false := by decide) (hbase : attributeBase (.Name x npos) "pop" X.env (eval (.Name x npos) X.env) = eval (.Name x npos) X.env := by rfl)
    (hfew : ((backTo pos (starEach (e :: es) X.env)).all (fun x => !x.1) && (backToKw pos (keywordEach [] X.env)).all (fun x => x.1.isSome) && decide ((e :: es).length + ([] : List Keyword).length + (if ([] : List Keyword).isEmpty then 0 else 1) < 30)) = true := by rfl)
    (hline : (apos.endLine == pos.line) = true := by rfl) (hs : starEach (e :: es) X.env = (false, eval e X.env) :: starEach es X.env := by rfl) (hplain : (backTo pos (starEach es X.env)).any (·.1) = false := by rfl) :
    DV cm X xw (.Call (.Attribute (.Name x npos) "pop" apos) (e :: es) [] pos) (M.modVar i ma popAtF) :=
  dv_modVar PySem.F.slot_list_pop PySem.F.type_list_pop mt_popAt mv_popAt ha hN hv hd hcd hbase hfew hline hs hplain
end
/-! ### o[i] = e, o a list of the store or a slot's own -/
namespace M
def setF (i d : D) (ds : List D) : Option (D × List D) := match i with
  | .int i => (ixN ds.length i).map fun j => (.non, ds.set j d)
  | _ => none
/-- name[i] = e: e, the name, i -/
def setVar (n : Nat) (mi me : M D) : M Flow1 := M.bind me fun d => fun w => match w.E[n]? with
  | some (.own _) => M.bind mi (fun i => M.bind (modOwn n (setF i d)) fun _ => M.ret .next) w
  | some (.val (.ref k)) => M.bind mi (fun i => M.bind (modSt k (setF i d)) fun _ => M.ret .next) w
  | _ => .bad
end M
section
variable {cm : Nat → Addr} {X : Cx} {xw : WX} {e ie : Expr} {me mi : M D} {pos spos npos : Pos} {n : Nat} {x : Str}
theorem setF_ok {K : PySem.W.Frag} {g : Wd} {H : Hp} {a : Addr} {vs : List V} {ds es : List D} {u v : V} {i d z : D} {Q : Hp → Prop} (h : H a = some (.lst vs)) (q : Reps K g vs ds) (qi : Rep K g u i) (qd : Rep K g v d) (e : M.setF i d ds = some (z, es))
    (k : ∀ ws, Reps K g ws es → Q (upd H a (.lst ws))) : rSetL (.ref a) u v H Q := by
  unfold M.setF at e
  split at e
  · obtain ⟨j, e1, e2⟩ := Option.map_eq_some_iff.mp e
    cases e2
    cases qi
    exact ⟨a, vs, _, j, rfl, rfl, h, by rw [q.length]; exact e1, k _ (Reps.set qd j q)⟩
  · cases e
theorem ds_setVar (hN : X.N[n]? = some x := by rfl) (he : DV cm X xw e me) (hi : DV cm X xw ie mi) (hv : Vis X.env.scope x := by first | exact Or.inl rfl | exact Or.inr (Or.inl rfl) | exact Or.inr (Or.inr rfl))
    (hd : (x == ("__debug__" : Str)) = false := by decide) (hcd : (x == ("__classdict__" : Str)) = false := by decide)
    (ha : ∀ v, assign (.Subscript (.Name x npos) ie spos) X.env v = (do
      let ov ← holding [v] (eval (.Name x npos) X.env)
      let iv ← holding [v, ov] (eval ie X.env)
      standAt spos
      holding [v, ov, iv] (setItem ov iv v)
      release [v, ov, iv] []) := by intro _; rfl)
    (hs : swapsWithSole [.Subscript (.Name x npos) ie spos] e pos.line X.env = pure false := by rfl) (hw : swappedStores [.Subscript (.Name x npos) ie spos] e X.env = pure none := by rfl)
    (h1 : (assignEach [.Subscript (.Name x npos) ie spos] X.env).map (·.2) = [assign (.Subscript (.Name x npos) ie spos) X.env] := by rfl) :
    DS cm X xw (.Assign [.Subscript (.Name x npos) ie spos] e pos) (M.setVar n mi me) := by
  obtain ⟨te, pe, oe⟩ := he
  obtain ⟨ti, pi, oi⟩ := hi
  refine ⟨_, ps_asg pe (pg_sub (pe_var hN hv hd hcd) pi set_list ha) hs hw h1, fun g w σ H Dd N r hNn k => ?_⟩
  refine oe g w σ H _ r (GPost.imp (fun g1 w1 H1 d r1 s1 k1 v q => ?_) (SPost.bind k))
  cases e1 : w1.E[n]? with
  | none => simp only [e1] at k1; exact k1.elim
  | some s =>
    cases s with
    | un => simp only [e1] at k1; exact k1.elim
    | own ds =>
      simp only [e1] at k1
      obtain ⟨a, vs, h1, _, _, _, _⟩ := st_own r1 e1
      refine ⟨.ref a, h1, oi g1 w1 σ H1 _ r1 (GPost.imp (fun g2 w2 H2 i r2 s2 k2 u qi => ?_) (SPost.bind k1))⟩
      unfold M.bind M.modOwn at k2
      cases e2 : w2.E[n]? with
      | none => simp only [e2] at k2; exact k2.elim
      | some t2 =>
        cases t2 with
        | un => simp only [e2] at k2; exact k2.elim
        | val d => simp only [e2] at k2; exact k2.elim
        | own ds2 =>
          simp only [e2] at k2
          cases e3 : M.setF i d ds2 with
          | none => simp only [e3] at k2; exact k2.elim
          | some z =>
            obtain ⟨z, es2⟩ := z
            simp only [e3] at k2
            obtain ⟨b, ws, c1, c2, _, c4, _⟩ := st_own r2 e2
            rw [h1] at c1
            cases c1
            refine setF_ok c2 c4 qi (q.mono s2.le) e3 fun xs qs => ?_
            obtain ⟨r3, s3⟩ := r2.modOwn e2 h1 qs
            exact k2 g2 σ _ r3 s3
    | val d0 =>
      cases d0 with
      | ref kk =>
        simp only [e1] at k1
        obtain ⟨v0, h1, h2⟩ := r1.slot n _ e1
        cases h2 with
        | ref hk =>
          refine ⟨_, h1, oi g1 w1 σ H1 _ r1 (GPost.imp (fun g2 w2 H2 i r2 s2 k2 u qi => ?_) (SPost.bind k1))⟩
          unfold M.bind M.modSt at k2
          cases e2 : w2.S kk with
          | none => simp only [e2] at k2; exact k2.elim
          | some o2 =>
            cases o2 with
            | ins c fs => simp only [e2] at k2; exact k2.elim
            | lst ds2 =>
              simp only [e2] at k2
              cases e3 : M.setF i d ds2 with
              | none => simp only [e3] at k2; exact k2.elim
              | some z =>
                obtain ⟨z, es2⟩ := z
                simp only [e3] at k2
                obtain ⟨ws, c2, c4⟩ := (r2.store kk _ e2).2.2
                rw [← s2.le.ρ kk hk]
                refine setF_ok c2 c4 qi (q.mono s2.le) e3 fun xs qs => ?_
                obtain ⟨r3, s3⟩ := r2.modSt e2 qs
                exact k2 g2 σ _ r3 s3
      | _ => simp only [e1] at k1; exact k1.elim
end
end DL

/-! DExc: what is never reached; negative numbers; chained comparisons; lists put into the store; peeks; raise; try .. except. -/
namespace DL
open PySem PySem.Spec PyProof.Rows L2 Evl

section
variable {cm : Nat → Addr} {X : Cx} {xw : WX} {e : Expr} {pos : Pos}
theorem ds_bad {st : Stmt} : DS cm X xw st (fun _ => .bad) := ⟨fun _ _ _ => False, ⟨fun _ _ _ _ _ _ h => h.elim⟩, fun _ _ _ _ _ _ _ _ k => k⟩
theorem dss_bad {st : List Stmt} : DSs cm X xw st (fun _ => .bad) := ⟨fun _ _ _ => False, ⟨fun _ _ _ _ _ _ h => h.elim⟩, fun _ _ _ _ _ _ _ _ k => k⟩
theorem dv_bad : DV cm X xw e (fun _ => .bad) := ⟨fun _ _ _ => False, ⟨fun _ _ _ _ _ _ h => h.elim⟩, fun _ _ _ _ _ _ k => k⟩
theorem dv_neg {m : M D} (h : DV cm X xw e m) : DV cm X xw (.UnaryOp .USub e pos) (M.bind m fun d => M.lift (match d with
    | .int i => some (.int (-i))
    | _ => none)) := by
  obtain ⟨t, p, o⟩ := h
  refine ⟨_, pe_un un_neg p, fun g w σ H Q r k => ?_⟩
  refine o g w σ H _ r (GPost.imp (fun g1 w1 H1 d r1 s1 k1 v q => ?_) (GPost.bind k))
  obtain ⟨z, e1, k2⟩ := GPost.lift k1
  cases q with
  | int i => cases e1; exact ⟨i, rfl, GPost.v r1 k2 (.int _)⟩
  | _ => cases e1
end
/-! ### a op b op' c -/
def chainM (a b c : M D) (f h : D → D → Option Bool) : M Bool := bind2 a b fun x y => M.bind (M.lift (f x y)) fun k => if k then M.bind c fun z => M.lift (h y z) else M.ret false
section
variable {cm : Nat → Addr} {X : Cx} {xw : WX} {a b c : Expr} {ma mb mc : M D} {pos : Pos} {r r' : R2} {f h : D → D → Option Bool} {ta tb tc : TE}
theorem vok_chain (oa : VOk cm X xw ta ma) (ob : VOk cm X xw tb mb) (oc : VOk cm X xw tc mc) (hr : B2Ok X cm r f) (hr' : B2Ok X cm r' h) : VOk cm X xw (tChain r r' ta tb tc) (M.map D.bl (chainM ma mb mc f h)) := by
  intro g w σ H Q rr k
  have k0 := GPost.map k
  refine oa g w σ H _ rr (GPost.imp (fun g1 w1 H1 d r1 s1 k1 v q => ?_) (GPost.bind k0))
  refine ob g1 w1 σ H1 _ r1 (GPost.imp (fun g2 w2 H2 d2 r2 s2 k2 v2 q2 => ?_) (GPost.bind k1))
  obtain ⟨z, e1, k3⟩ := GPost.lift (GPost.bind k2)
  have k4 := GPost.here r2 k3
  refine hr g2 w2 σ H2 v v2 d d2 z _ r2 (q.mono s2.le) q2 e1 ⟨z, rfl, ?_⟩
  cases z with
  | false =>
    rw [if_neg (by decide)]
    exact GPost.here r2 k4 _ (.bl false)
  | true =>
    rw [if_pos rfl]
    have k5 : GPost X.K cm xw g2 w2 σ H2 (fun g' w' H' b => PV X.K Q g' w' H' (.bl b)) (M.bind mc (fun z => M.lift (h d2 z)) w2) := k4
    refine oc g2 w2 σ H2 _ r2 (GPost.imp (fun g3 w3 H3 d3 r3 s3 k6 v3 q3 => ?_) (GPost.bind k5))
    obtain ⟨z2, e2, k7⟩ := GPost.lift k6
    exact hr' g3 w3 σ H3 v2 v3 d2 d3 z2 _ r3 (q2.mono s3.le) q3 e2 (GPost.here r3 k7 _ (.bl z2))
theorem dv_chain {op op' : CmpOp} (ho : OpR X (compareOp op) r) (ho' : OpR X (compareOp op') r') (hr : B2Ok X cm r f) (hr' : B2Ok X cm r' h) (ha : DV cm X xw a ma) (hb : DV cm X xw b mb) (hc : DV cm X xw c mc) (hm : lastMarks [op, op'] [b, c] = false := by with_unfolding_all rfl) :
    DV cm X xw (.Compare a [op, op'] [b, c] pos) (M.map D.bl (chainM ma mb mc f h)) := by
  obtain ⟨ta, pa, oa⟩ := ha
  obtain ⟨tb, pb, ob⟩ := hb
  obtain ⟨tc, pc, oc⟩ := hc
  exact ⟨_, pe_chain ho ho' pa pb pc hm, vok_chain oa ob oc hr hr'⟩
theorem dt_chain {op op' : CmpOp} (ho : OpR X (compareOp op) r) (ho' : OpR X (compareOp op') r') (hr : B2Ok X cm r f) (hr' : B2Ok X cm r' h) (ha : DV cm X xw a ma) (hb : DV cm X xw b mb) (hc : DV cm X xw c mc) (hm : lastMarks [op, op'] [b, c] = false := by with_unfolding_all rfl) :
    DT cm X xw (.Compare a [op, op'] [b, c] pos) (chainM ma mb mc f h) := by
  obtain ⟨ta, pa, oa⟩ := ha
  obtain ⟨tb, pb, ob⟩ := hb
  obtain ⟨tc, pc, oc⟩ := hc
  refine ⟨_, pt_chain ho ho' pa pb pc hm, fun g w σ H Q rr k => ?_⟩
  refine vok_chain oa ob oc hr hr' g w σ H _ rr ?_
  have k1 := k
  unfold M.map
  cases e : chainM ma mb mc f h w with
  | ok z w' =>
    rw [e] at k1
    exact fun g' H' r' s' v q => by cases q; exact ⟨z, rfl, k1 g' H' r' s'⟩
  | exc x w' => rw [e] at k1; exact k1
  | bad => rw [e] at k1; exact k1
end

/-! ### a new list goes into the store -/
namespace M
def alloc (m : M R) : M D := fun w => match m w with
  | .ok (.own ds) w' => .ok (.ref w'.n) { w' with S := fun k => if k = w'.n then some (.lst ds) else w'.S k, n := w'.n + 1 }
  | .ok (.val _) _ => .bad
  | .exc e w' => .exc e w'
  | .bad => .bad
end M
section
variable {K : PySem.W.Frag} {cm : Nat → Addr} {g : Wd} {w : W} {σ : L2.St} {H : Hp}
theorem Rel.alloc (r : Rel K cm g w σ H) {a : Addr} {vs : List V} {ds : List D} (h : H a = some (.lst vs)) (hB : g.B a = none) (np : ¬ Priv w g σ a) (q : Reps K g vs ds) {N : Addr → Prop} (hn : N a) :
    let g' : Wd := { g with ρ := fun k => if k = w.n then a else g.ρ k, n := w.n + 1 }
    let w' : W := { w with S := fun k => if k = w.n then some (.lst ds) else w.S k, n := w.n + 1 }
    Rel K cm g' w' σ H ∧ Wd.le g g' ∧ (∀ b, Priv w' g' σ b → Priv w g σ b ∨ b = a) ∧ Rep K g' (.ref a) (.ref w.n) := by
  intro g' w'
  have l : Wd.le g g' := ⟨by show g.n ≤ w.n + 1; rw [r.nn]; omega, fun k hk => if_neg (fun e => by rw [r.nn, e] at hk; omega), Ex.refl _⟩
  have old : ∀ k o, w.S k = some o → k ≠ w.n := fun k o e c => by
    have := (r.store k o e).1
    omega
  have sz : ∀ k, w'.S k ≠ none → k = w.n ∨ (k ≠ w.n ∧ w.S k ≠ none) := fun k hk => by
    by_cases c : k = w.n
    · exact .inl c
    · refine .inr ⟨c, ?_⟩
      have hk' : (if k = w.n then some (MObj.lst ds) else w.S k) ≠ none := hk
      rwa [if_neg c] at hk'
  have ρn : g'.ρ w.n = a := if_pos rfl
  have ρo : ∀ k, k ≠ w.n → g'.ρ k = g.ρ k := fun k c => if_neg c
  refine ⟨⟨rfl, r.ex, r.len, fun i s hs => ?_, fun k o hk => ?_, fun j k hj hk e => ?_, r.oinj, fun i b k h1 h2 e => ?_⟩, l, fun b p => ?_, ?_⟩
  · have q' := r.slot i s hs
    cases s with
    | un => trivial
    | val d =>
      obtain ⟨v, h1, h2⟩ := q'
      exact ⟨v, h1, h2.mono l⟩
    | own es =>
      obtain ⟨b, us, h1, h2, h3, h4⟩ := q'
      exact ⟨b, us, h1, h2, h3, h4.mono l⟩
  · have hk' : (if k = w.n then some (MObj.lst ds) else w.S k) = some o := hk
    by_cases c : k = w.n
    · rw [if_pos c] at hk'
      cases hk'
      subst c
      refine ⟨Nat.lt_succ_self _, by rw [ρn]; exact hB, vs, by rw [ρn]; exact h, q.mono l⟩
    · rw [if_neg c] at hk'
      obtain ⟨q1, q2, q3⟩ := r.store k o hk'
      rw [ρo k c]
      exact ⟨Nat.lt_succ_of_lt q1, q2, q3.mono l rfl⟩
  · rcases sz j hj with c | ⟨c, hj'⟩ <;> rcases sz k hk with c' | ⟨c', hk'⟩
    · rw [c, c']
    · rw [c, ρn, ρo k c'] at e
      exact (np (.inl ⟨k, hk', e.symm⟩)).elim
    · rw [c', ρn, ρo j c] at e
      exact (np (.inl ⟨j, hj', e⟩)).elim
    · rw [ρo j c, ρo k c'] at e
      exact r.sinj j k hj' hk' e
  · rcases sz k h2 with c | ⟨c, h2'⟩
    · rw [c, ρn] at e
      exact np (.inr ⟨i, e ▸ h1⟩)
    · rw [ρo k c] at e
      exact r.os i b k h1 h2' e
  · rcases p with ⟨k, hk, e⟩ | ⟨i, hi⟩
    · rcases sz k hk with c | ⟨c, hk'⟩
      · rw [c, ρn] at e
        exact .inr e.symm
      · rw [ρo k c] at e
        exact .inl (.inl ⟨k, hk', e⟩)
    · exact .inl (.inr ⟨i, hi⟩)
  · have := Rep.ref (K := K) (g := g') (k := w.n) (Nat.lt_succ_self _)
    rwa [ρn] at this
end
section
variable {cm : Nat → Addr} {X : Cx} {xw : WX} {e : Expr} {pos : Pos}
theorem DE.alloc {m : M R} (h : DE cm X xw e m) : DV cm X xw e (M.alloc m) := by
  obtain ⟨te, h1, h2⟩ := h.ex
  refine ⟨te, h1, fun g w σ H Q r k => h2 g w σ H Q (New g w σ H) r (fun _ q => q) ?_⟩
  unfold M.alloc at k
  cases e : m w with
  | ok z w' =>
    rw [e] at k
    cases z with
    | val d => exact k.elim
    | own ds =>
      intro g' H' r' s' v q
      obtain ⟨a, vs, rfl, q1, q2, q3, q4, q5⟩ := q
      obtain ⟨r2, l, pv, rp⟩ := r'.alloc q1 q2 q3 q5 (N := New g w σ H) q4
      refine k _ H' r2 ⟨s'.le.trans l, s'.new, s'.frame, fun b p => ?_⟩ (.ref a) rp
      rcases pv b p with p | rfl
      · exact s'.priv b p
      · exact q4.symm
  | exc x w' => rw [e] at k; exact k
  | bad => rw [e] at k; exact k
end

/-! ### peeks: a name's own list looked at -/
namespace M
def peek (i : Nat) : M (List D) := fun w => match w.E[i]? with
  | some (.own ds) => .ok ds w
  | _ => .bad
end M
section
variable {cm : Nat → Addr} {X : Cx} {xw : WX} {e ie : Expr} {pos npos p : Pos} {i : Nat} {x y : Str} {mi : M D}
theorem peek_ok {g : Wd} {w : W} {σ : L2.St} {H : Hp} {α : Type} {P : Wd → W → Hp → α → Prop} {f : List D → M α} (r : Rel X.K cm g w σ H) (k : GPost X.K cm xw g w σ H P (M.bind (M.peek i) f w)) :
    ∃ a vs ds, w.E[i]? = some (.own ds) ∧ σ[i]? = some (some (.ref a)) ∧ H a = some (.lst vs) ∧ Reps X.K g vs ds ∧ GPost X.K cm xw g w σ H P (f ds w) := by
  unfold M.bind M.peek at k
  cases e : w.E[i]? with
  | none => simp only [e] at k; exact k.elim
  | some s =>
    cases s with
    | un => simp only [e] at k; exact k.elim
    | val d => simp only [e] at k; exact k.elim
    | own ds =>
      simp only [e] at k
      obtain ⟨a, vs, h1, h2, _, h4, _⟩ := st_own r e
      exact ⟨a, vs, ds, rfl, h1, h2, h4, k⟩
/-- len(name) -/
theorem dv_lenP (hgl : Gl X y) (hm : X.mg y = none) (hvl : bootBuiltins y = some (.builtin "len")) (hN : X.N[i]? = some x := by rfl) (hv : Vis X.env.scope x := by first | exact Or.inl rfl | exact Or.inr (Or.inl rfl) | exact Or.inr (Or.inr rfl))
    (hd : (x == ("__debug__" : Str)) = false := by decide) (hcd : (x == ("__classdict__" : Str)) = false := by decide) (hn : y ≠ "__name__" := by decide) (hdb : (y == ("__debug__" : Str)) = false := by decide)
    (he : starEach [.Name x npos] X.env = (false, eval (.Name x npos) X.env) :: starEach [] X.env := by rfl) (hpl : (backTo pos (starEach [] X.env)).any (·.1) = false := by rfl) :
    DV cm X xw (.Call (.Name y p) [.Name x npos] [] pos) (M.bind (M.peek i) fun ds => M.ret (.int ds.length)) := by
  refine ⟨_, pe_callB call_len hgl hm hvl (pa_cons (pe_var hN hv hd hcd) pa_nil) hn hdb he hpl, fun g w σ H Q r k => ?_⟩
  obtain ⟨a, vs, ds, e1, h1, h2, h4, k⟩ := peek_ok r k
  refine ⟨.ref a, h1, .ref a, vs.length, rfl, .inl ⟨vs, .inl (.inl h2), rfl⟩, ?_⟩
  rw [h4.length]
  exact GPost.v r k (.int _)
/-- name[i], i a constant or the like: nothing is made at i -/
theorem dv_ixP (hi : DV cm X xw ie mi) (hN : X.N[i]? = some x := by rfl) (hv : Vis X.env.scope x := by first | exact Or.inl rfl | exact Or.inr (Or.inl rfl) | exact Or.inr (Or.inr rfl))
    (hd : (x == ("__debug__" : Str)) = false := by decide) (hcd : (x == ("__classdict__" : Str)) = false := by decide) (hs : PlainIx ie := by exact fun _ _ => rfl) :
    DV cm X xw (.Subscript (.Name x npos) ie pos) (M.bind (M.peek i) fun _ => M.bind mi fun d => M.bind (M.peek i) fun ds => M.lift (match d with
      | .int j => L2.atI ds j
      | _ => none)) := by
  obtain ⟨t, p, o⟩ := hi
  refine ⟨_, pe_ix ix_seq (pe_var hN hv hd hcd) p hs, fun g w σ H Q r k => ?_⟩
  obtain ⟨a, vs, ds, e1, h1, h2, h4, k⟩ := peek_ok r k
  refine ⟨.ref a, h1, o g w σ H _ r (GPost.imp (fun g1 w1 H1 d r1 s1 k1 v q => ?_) (GPost.bind k))⟩
  obtain ⟨b, us, es, e2, c1, c2, c4, k2⟩ := peek_ok r1 k1
  rw [h1] at c1
  cases c1
  obtain ⟨z, e3, k3⟩ := GPost.lift k2
  cases q with
  | int j =>
    obtain ⟨u, h5, h6⟩ := c4.atI e3
    exact .inl ⟨a, us, j, u, rfl, rfl, .inl (.inl c2), h5, GPost.v r1 k3 h6⟩
  | _ => cases e3
/-- name != e -/
theorem Reps.dpA {K : PySem.W.Frag} {g : Wd} {H : Hp} {a : Addr} {vs : List V} {ds : List D} {p : PyData} (ex : Ex g.B H) (h : H a = some (.lst vs)) (q : Reps K g vs ds) (e : (D.lst ds).py = some p) : Dp K H (.ref a) p := by
  unfold D.py at e
  obtain ⟨ps, e2, rfl⟩ := Option.map_eq_some_iff.mp e
  exact .lst (.inl (.inl h)) (Reps.dp ex ds _ ps q e2)
theorem dt_neP {mb : M D} {b : Expr} (hu : X.A.units + 64 < cLine) (hb : DV cm X xw b mb) (hN : X.N[i]? = some x := by rfl) (hv : Vis X.env.scope x := by first | exact Or.inl rfl | exact Or.inr (Or.inl rfl) | exact Or.inr (Or.inr rfl))
    (hd : (x == ("__debug__" : Str)) = false := by decide) (hcd : (x == ("__classdict__" : Str)) = false := by decide) :
    DT cm X xw (.Compare (.Name x npos) [.NotEq] [b] pos) (M.bind (M.peek i) fun _ => M.bind mb fun y => M.bind (M.peek i) fun ds => M.lift ((D.eqPy (.lst ds) y).map (!·))) := by
  obtain ⟨t, p, o⟩ := hb
  refine ⟨_, pt_cmpR (op_neA hu) (pe_var hN hv hd hcd) p (nomark _), fun g w σ H Q r k => ?_⟩
  obtain ⟨a, vs, ds, e1, h1, h2, h4, k⟩ := peek_ok r k
  refine ⟨.ref a, h1, o g w σ H _ r (GPost.imp (fun g1 w1 H1 d r1 s1 k1 v q => ?_) (GPost.bind k))⟩
  obtain ⟨b', us, es, e2, c1, c2, c4, k2⟩ := peek_ok r1 k1
  rw [h1] at c1
  cases c1
  obtain ⟨z, e3, k3⟩ := GPost.lift k2
  obtain ⟨bb, e4, rfl⟩ := Option.map_eq_some_iff.mp e3
  unfold D.eqPy at e4
  cases e5 : (D.lst es).py with
  | none => rw [e5] at e4; cases e4
  | some p1 =>
    cases e6 : d.py with
    | none => rw [e5, e6] at e4; cases e4
    | some p2 =>
      rw [e5, e6] at e4
      have e7 : (if SeqAt.shaped p1 = true ∧ SeqAt.shaped p2 = true then some (PyData.eqv p1 p2) else none) = some bb := e4
      split at e7
      · cases e7
        rename_i hh
        exact .inr ⟨p1, p2, Reps.dpA r1.ex c2 c4 e5, Rep.dp r1.ex _ _ _ q e6, hh.1, hh.2, _, rfl, GPost.here r1 k3⟩
      · cases e7
end

/-! ### a method on what an expression gives: a list of the store -/
namespace M
def modE (mo : M D) (ma : M (List D)) (f : List D → List D → Option (D × List D)) : M D := M.bind mo fun d => match d with
  | .ref k => (fun w => match w.S k with
    | some (.lst _) => M.bind ma (fun as => modSt k (f as)) w
    | _ => .bad)
  | _ => fun _ => .bad
end M
section
variable {cm : Nat → Addr} {X : Cx} {xw : WX} {o e : Expr} {es : List Expr} {mo : M D} {ma : M (List D)} {pos apos : Pos} {name : Str} {id : String} {r : V → List V → Hp → VK → Prop} {f : List D → List D → Option (D × List D)}
theorem dv_modE (slot : PySem.Slot "list" name id) (hty : typeOf (.builtin id) = pure (.type "method_descriptor")) (hm : MtR X id r) (hr : MVOk r f) (ho : DV cm X xw o mo) (ha : DA cm X xw (e :: es) ma)
    (hbase : attributeBase o name X.env (eval o X.env) = eval o X.env := by rfl)
    (hfew : ((backTo pos (starEach (e :: es) X.env)).all (fun x => !x.1) && (backToKw pos (keywordEach [] X.env)).all (fun x => x.1.isSome) && decide ((e :: es).length + ([] : List Keyword).length + (if ([] : List Keyword).isEmpty then 0 else 1) < 30)) = true := by rfl)
    (hline : (apos.endLine == pos.line) = true := by rfl) (hs : starEach (e :: es) X.env = (false, eval e X.env) :: starEach es X.env := by rfl) (hplain : (backTo pos (starEach es X.env)).any (·.1) = false := by rfl) :
    DV cm X xw (.Call (.Attribute o name apos) (e :: es) [] pos) (M.modE mo ma f) := by
  obtain ⟨t, pa, oa⟩ := ha
  obtain ⟨u, po, oo⟩ := ho
  refine ⟨_, pe_bm PySem.F.plainAttrs_list slot hty hm po pa hbase hfew hline hs hplain, fun g w σ H Q rr k => ?_⟩
  refine oo g w σ H _ rr (GPost.imp (fun g1 w1 H1 d r1 s1 k1 v q => ?_) (GPost.bind k))
  cases q with
  | ref hk =>
    rename_i kk
    have k1 : GPost X.K cm xw g1 w1 σ H1 (PV X.K Q) (match w1.S kk with
      | some (.lst _) => M.bind ma (fun as => M.modSt kk (f as)) w1
      | _ => .bad) := k1
    cases e4 : w1.S kk with
    | none => simp only [e4] at k1; exact k1.elim
    | some o =>
      cases o with
      | ins c fs => simp only [e4] at k1; exact k1.elim
      | lst ds =>
        simp only [e4] at k1
        obtain ⟨vs, h2, _⟩ := (r1.store kk _ e4).2.2
        refine ⟨.inl ⟨rfl, vs, .inl (.inl h2)⟩, oa g1 w1 σ H1 _ r1 (GPost.imp (fun g2 w2 H2 as r2 s2 k2 us q => ?_) (GPost.bind k1))⟩
        unfold M.modSt at k2
        cases e2 : w2.S kk with
        | none => simp only [e2] at k2; exact k2.elim
        | some o2 =>
          cases o2 with
          | ins c fs => simp only [e2] at k2; exact k2.elim
          | lst ds2 =>
            simp only [e2] at k2
            cases e3 : f as ds2 with
            | none => simp only [e3] at k2; exact k2.elim
            | some z =>
              obtain ⟨z, es2⟩ := z
              simp only [e3] at k2
              obtain ⟨ws, c2, c4⟩ := (r2.store kk _ e2).2.2
              rw [← s2.le.ρ kk hk]
              refine hr X.K g2 H2 _ ws us ds2 as es2 z Q q c2 c4 e3 fun v xs qv qs => ?_
              obtain ⟨r3, s3⟩ := r2.modSt e2 qs
              exact k2 g2 _ r3 s3 v qv
  | _ => exact k1.elim
theorem dv_appendE (ho : DV cm X xw o mo) (ha : DA cm X xw (e :: es) ma)
    (hbase : attributeBase o "append" X.env (eval o X.env) = eval o X.env := by rfl)
    (hfew : ((backTo pos (starEach (e :: es) X.env)).all (fun x => !x.1) && (backToKw pos (keywordEach [] X.env)).all (fun x => x.1.isSome) && decide ((e :: es).length + ([] : List Keyword).length + (if ([] : List Keyword).isEmpty then 0 else 1) < 30)) = true := by rfl)
    (hline : (apos.endLine == pos.line) = true := by rfl) (hs : starEach (e :: es) X.env = (false, eval e X.env) :: starEach es X.env := by rfl) (hplain : (backTo pos (starEach es X.env)).any (·.1) = false := by rfl) :
    DV cm X xw (.Call (.Attribute o "append" apos) (e :: es) [] pos) (M.modE mo ma appF) :=
  dv_modE PySem.F.slot_list_append PySem.F.type_list_append mt_append mv_append ho ha hbase hfew hline hs hplain
end

/-! ### repr, lists of the store within -/
namespace D
mutual
def pydS (S : Nat → Option MObj) : D → Option PyData
  | .non => some .none
  | .bl b => some (.bool b)
  | .int i => some (.int i)
  | .str s => some (.str s)
  | .lst ds => (pydsS S ds).map PyData.list
  | .tup ds => (pydsS S ds).map PyData.tuple
  | .dic => some (.dict [])
  | .ref k => (match S k with
    | some (.lst ds) => (pyds ds).map PyData.list
    | _ => none)
  | .scr _ => none
  | .raw _ => none
def pydsS (S : Nat → Option MObj) : List D → Option (List PyData)
  | [] => some []
  | d :: ds => match pydS S d with
    | some p => (match pydsS S ds with
      | some ps => some (p :: ps)
      | none => none)
    | none => none
end
end D
section
variable {K : PySem.W.Frag} {cm : Nat → Addr} {g : Wd} {w : W} {σ : L2.St} {H : Hp}
mutual
theorem Rep.dqS (r : Rel K cm g w σ H) : ∀ (d : D) (v : V) (p : PyData), Rep K g v d → d.pydS w.S = some p → Dq K H v p
  | .non, _, _, h, q => by cases h; unfold D.pydS at q; cases q; exact .non
  | .bl b, _, _, h, q => by cases h; unfold D.pydS at q; cases q; exact .bl b
  | .int i, _, _, h, q => by cases h; unfold D.pydS at q; cases q; exact .int i
  | .str s, _, _, h, q => by cases h; unfold D.pydS at q; cases q; exact .str s
  | .lst ds, _, p, h, q => by
    unfold D.pydS at q
    obtain ⟨ps, e2, rfl⟩ := Option.map_eq_some_iff.mp q
    cases h with
    | lst h1 h2 => exact .lst (.inl (.inl (r.ex _ _ h1))) (Reps.dqS r ds _ ps h2 e2)
  | .tup ds, _, p, h, q => by
    unfold D.pydS at q
    obtain ⟨ps, e2, rfl⟩ := Option.map_eq_some_iff.mp q
    cases h with
    | tup h1 h2 => exact .tup (ex_t r.ex h1) (Reps.dqS r ds _ ps h2 e2)
  | .dic, _, _, h, q => by
    unfold D.pydS at q
    cases q
    cases h with
    | dic h1 => exact .dic (r.ex _ _ h1)
  | .ref k, _, _, h, q => by
    unfold D.pydS at q
    cases h with
    | ref hk =>
      cases e : w.S k with
      | none => rw [e] at q; cases q
      | some o =>
        cases o with
        | ins c fs => rw [e] at q; cases q
        | lst ds =>
          rw [e] at q
          obtain ⟨ps, e2, rfl⟩ := Option.map_eq_some_iff.mp q
          obtain ⟨vs, h1, h2⟩ := (r.store k _ e).2.2
          exact .lst (.inl (.inl h1)) (Reps.dq r.ex ds _ ps h2 e2)
  | .scr _, _, _, h, q => by unfold D.pydS at q; cases q
  | .raw _, _, _, h, q => by unfold D.pydS at q; cases q
theorem Reps.dqS (r : Rel K cm g w σ H) : ∀ (ds : List D) (vs : List V) (ps : List PyData), Reps K g vs ds → D.pydsS w.S ds = some ps → DqAll K H vs ps
  | [], _, _, h, q => by cases h; unfold D.pydsS at q; cases q; exact .nil
  | d :: ds, _, ps, h, q => by
    cases h with
    | cons h1 h2 =>
      unfold D.pydsS at q
      cases e1 : d.pydS w.S with
      | none => rw [e1] at q; cases q
      | some p =>
        rw [e1] at q
        cases e2 : D.pydsS w.S ds with
        | none => rw [e2] at q; cases q
        | some qs =>
          rw [e2] at q
          cases q
          exact .cons (Rep.dqS r d _ p h1 e1) (Reps.dqS r ds _ qs h2 e2)
end
end
def reprS : List D → M D := fun ds w => match ds with
  | [d] => (match d.pydS w.S with
    | some p => if reprOk p then .ok (.str p.shown) w else .bad
    | none => .bad)
  | _ => .bad
section
variable {cm : Nat → Addr} {X : Cx} {xw : WX}
theorem vc_reprS : VCOk cm X xw (rRepr X.K) reprS := by
  intro g w σ H xs ds Q r q k
  unfold reprS at k
  split at k
  · rename_i d
    cases e : d.pydS w.S with
    | none => simp only [e] at k; exact k.elim
    | some p =>
      simp only [e] at k
      split at k
      · rename_i hp
        cases q with
        | cons a b => cases b; exact ⟨_, p, rfl, Rep.dqS r _ _ _ a e, hp, GPost.v r k (.str _)⟩
      · exact k.elim
  · exact k.elim
theorem dv_reprS {x : Str} {p pos : Pos} {e : Expr} {es : List Expr} {ma : M (List D)} (hgd : X.A.guards = some []) (hu : X.A.units + 64 < cLine) (hS : SysOk X.K) (hg : Gl X x) (hm : X.mg x = none) (hv : bootBuiltins x = some (.builtin "repr")) (ha : DA cm X xw (e :: es) ma) (hn : x ≠ "__name__" := by decide) (hdb : (x == ("__debug__" : Str)) = false := by decide)
    (he : starEach (e :: es) X.env = (false, eval e X.env) :: starEach es X.env := by rfl) (hpl : (backTo pos (starEach es X.env)).any (·.1) = false := by rfl) : DV cm X xw (.Call (.Name x p) (e :: es) [] pos) (M.bind ma reprS) := dv_cb (call_reprA hgd hu hS) vc_reprS hg hm hv ha hn hdb he hpl
end

/-! ### raise, try .. except X: -/
theorem takesN {X : Cx} : L2N.Takes X (fun _ _ _ _ => False) := fun _ _ ⟨_, _, _, _, _, _, _, _, _, _, _, _, _, _, _, _, w⟩ => w.elim
namespace M
def raise (c : Nat) : M Flow1 := fun w => .exc ⟨c, none⟩ w
def tryX (xt : Nat → Option Bool) (mb ms : M Flow1) : M Flow1 := fun w => match mb w with
  | .exc e w' => (match xt e.c with
    | some true => (match ms w' with
      | .exc _ _ => .bad
      | r => r)
    | some false => .exc e w'
    | none => .bad)
  | r => r
end M
def tS (K : PySem.W.Frag) (cm : Nat → Addr) (xw : WX) (m : M Flow1) : TS := fun D σ H => ∃ g w N, Rel K cm g w σ H ∧ (∀ a, New g w σ H a → N a) ∧ SPost K cm xw N D g w σ H (m w)
section
variable {cm : Nat → Addr} {X : Cx} {xw : WX} {pos : Pos}
theorem DSs.canon {sts : List Stmt} {m : M Flow1} (h : DSs cm X xw sts m) : PSs X sts (tS X.K cm xw m) := by
  obtain ⟨t, p, o⟩ := h
  exact ⟨fun pins s σ H D I ⟨g, w, N, r, hN, k⟩ => p.run pins s σ H D I (o g w σ H D N r hN k)⟩
theorem ds_raise {c : Nat} {C : Addr} {x m : Str} {j : Nat} {p p2 pos' : Pos} (hcc : cm c = C) (hc : X.calm = true) (tk : L2N.Takes X xw) (q : PySem.W.excIn X.K C HandSPX.veTail "ValueError.__new__" = true) (gC : X.mg x = some (.ref C)) (kC : PySem.W.keepIn X.K (.ref C) = true) (r : Raises X (.ref C)) (hg : Gl X x)
    (hdb : (x == ("__debug__" : Str)) = false := by decide) : DS cm X xw (.Raise (some (.Call (.Name x p) [.Constant (.str m) j p2] [] pos)) none pos') (M.raise c) := by
  refine ⟨_, L2N.ps_raise hc tk (L2N.pmk_own PySem.F.excBase_ValueError q gC kC r hg hdb), fun g w σ H D N rr hN k => ?_⟩
  exact k g σ H (.ref C) none rr (.refl ..) ⟨by rw [hcc], rfl⟩
theorem ds_try {x : Str} {c : Value} {body suite : List Stmt} {b₀ : Stmt} {np pos' : Pos} {mb ms : M Flow1} {xt : Nat → Option Bool} (hs : X.stack = X.env :: X.outer) (hf : X.env.frame = some X.env.locals) (hc : Names X x c) (tk : L2N.Takes X xw)
    (hx : ∀ n b, xt n = some b → PySem.W.exmOne X.K (.ref (cm n)) c = some b)
    (hb : ∀ (W : WX) (pn : List (Addr × Obj)) (xe : Value → Shared → Prop), L2N.Takes (X.tr pn xe) W → PassesOwn (model X.prog X.w) X.A X.env xe → DSs cm (X.tr pn xe) W body mb)
    (hsu : ∀ (a : Addr) (oe : Obj) (cls : Value) (d : Option Addr) (pn : List (Addr × Obj)), L2N.Zn cls d oe → (∃ vs, oe.data = .fields vs) → DSs cm (X.suite a ((a, oe) :: pn)) xF (b₀ :: suite) ms) :
    DS cm X xw (.Try body [.ExceptHandler (some (.Name x np)) none (b₀ :: suite) pos'] [] [] pos) (M.tryX xt mb ms) := by
  refine ⟨_, L2N.ps_try_many (tb := fun W => tS X.K cm W mb) (l := [(c, fun _ _ _ => tS X.K cm xF ms)]) hs hf tk (fun W pn xe tk' hp => (hb W pn xe tk' hp).canon) (.cons hc (fun a oe cls d pn z hv => (hsu a oe cls d pn z hv).canon) .nil), fun g w σ H D N r hN k => ?_⟩
  refine ⟨g, w, N, r, hN, ?_⟩
  unfold M.tryX at k
  cases e : mb w with
  | ok f w' => simp only [e] at k; exact k
  | bad => simp only [e] at k; exact k.elim
  | exc x w' =>
    simp only [e] at k
    intro g' σ' H' cls d r' s' ⟨rc, rx⟩
    cases e2 : xt x.c with
    | none => simp only [e2] at k; exact k.elim
    | some b =>
      refine ⟨b, by rw [rc]; exact hx _ _ e2, fun hb a ha => ?_, fun hb => ?_⟩
      · subst hb
        simp only [e2] at k
        refine ⟨g', w', N, r', fun a h => hN a (s'.newIn' h), ?_⟩
        refine SPost.back s' ?_
        cases e3 : ms w' with
        | ok f w2 => simp only [e3] at k; exact k
        | exc y w2 => simp only [e3] at k; exact k.elim
        | bad => simp only [e3] at k; exact k.elim
      · subst hb
        simp only [e2] at k
        exact k g' σ' H' cls d r' s' ⟨rc, rx⟩
end
end DL

/-! DTop: a def by its name; the module's names; the head's facts. -/
namespace DL
open PySem PySem.Spec PyProof.Rows L2 Evl

/-! ### facts of the head: defs, names, tuples, the module table -/
def sysB (K : PySem.W.Frag) : Bool := match K.lookup sysModules with
  | some o => (match o.cls with
    | .type c => decide (c = "dict")
    | _ => false)
  | none => false
theorem sysB_ok {K : PySem.W.Frag} (h : sysB K = true) : SysOk K := by
  unfold sysB at h
  cases e : K.lookup sysModules with
  | none => rw [e] at h; cases h
  | some o =>
    rw [e] at h
    cases c : o.cls with
    | type d => simp only [c] at h; exact ⟨o, e, by rw [c, of_decide_eq_true h]⟩
    | _ => simp only [c] at h; cases h
abbrev Tbs : Type := List (PySem.W.Frag → Bool)
def obs2 (fa : List He.Fa) (fn : List He.DefD) (tb : Tbs) (K : PySem.W.Frag) : He.AlD × Bool := (He.obsD fa fn K, (tb.all fun q => q K) && sysB K)
def obsG (n : Nat) (fa : List He.Fa) (fn : List He.DefD) (tb : Tbs) (g : Addr → Option Obj) : He.AlD × Bool := obs2 fa fn tb (He.frG g (sysModules :: He.asD g n))
def Says (fa : List He.Fa) (fn : List He.DefD) (tb : Tbs) (K : PySem.W.Frag) : Prop := obs2 fa fn tb K = (He.valD fn, true)
def hookG (n : Nat) (fa : List He.Fa) (fn : List He.DefD) (tb : Tbs) : PySem.W.Hook where
  α := He.AlD × Bool
  obs := fun s => obsG n fa fn tb s.heap.get?
  val := fun _ => (He.valD fn, true)
  says := fun _ h => ∃ K : PySem.W.Frag, K.In h ∧ Says fa fn tb K
  of := fun _ _ e => ⟨_, He.frG_in, e⟩
  keeps := fun _ _ _ ⟨K, hK, c⟩ k => ⟨K, PySem.W.Frag.In.keeps hK k, c⟩
theorem obsG_eq {n : Nat} {fa : List He.Fa} {fn : List He.DefD} {tb : Tbs} {g : Addr → Option Obj} {s : Shared} (h : ∀ a, g a = s.heap.get? a) : obsG n fa fn tb g = (hookG n fa fn tb).obs s := by
  have e : g = s.heap.get? := funext h
  rw [e]
  rfl
/-- the head's facts, read in a heap that K is part of -/
structure Gb (fa : List He.Fa) (fn : List He.DefD) (tb : Tbs) (K : PySem.W.Frag) (mg : Str → Option Value) : Prop where
  ex : ∃ h : Heap, K.In h ∧ h.Ns mainGlobals mg
  sy : Says fa fn tb K
section
variable {fa : List He.Fa} {fn : List He.DefD} {tb : Tbs} {K : PySem.W.Frag} {mg : Str → Option Value}
theorem Says.d (c : Says fa fn tb K) : He.SaysD fa fn K := congrArg (fun z : He.AlD × Bool => z.1) c
theorem Says.b (c : Says fa fn tb K) : ((tb.all fun q => q K) && sysB K) = true := congrArg (fun z : He.AlD × Bool => z.2) c
theorem Gb.sys (g : Gb fa fn tb K mg) : SysOk K := sysB_ok (He.ba g.sy.b).2
theorem Gb.free (g : Gb fa fn tb K mg) {x : Str} (i : Nat) (h : fa[i]? = some (.free x) := by rfl) : mg x = none := by
  obtain ⟨hp, X, N⟩ := g.ex
  exact He.free_ok X N (g.sy.d.fact i h)
theorem Gb.glo (g : Gb fa fn tb K mg) {x : Str} (i : Nat) (h : fa[i]? = some (.glo x) := by rfl) : mg x = some (.ref (He.ga K x)) := by
  obtain ⟨hp, X, N⟩ := g.ex
  exact He.glo_ok X N (g.sy.d.fact i h)
theorem Gb.int (g : Gb fa fn tb K mg) {x : Str} {z : Int} (i : Nat) (h : fa[i]? = some (.int x z) := by rfl) : ∃ t, mg x = some (.int z t) := by
  obtain ⟨hp, X, N⟩ := g.ex
  exact He.int_ok X N (g.sy.d.fact i h)
theorem Gb.str (g : Gb fa fn tb K mg) {x z : Str} (i : Nat) (h : fa[i]? = some (.str x z) := by rfl) : ∃ t, mg x = some (.str z t) := by
  obtain ⟨hp, X, N⟩ := g.ex
  exact He.str_ok X N (g.sy.d.fact i h)
theorem Gb.bx (g : Gb fa fn tb K mg) {f : PySem.W.Frag → Bool} (i : Nat) (h : tb[i]? = some f := by rfl) : f K = true := List.all_eq_true.mp (He.ba g.sy.b).1 _ (List.mem_of_getElem? h)
theorem Gb.exc (g : Gb fa fn tb K mg) {x : Str} (i : Nat) (h : fa[i]? = some (.exc x) := by rfl) : PySem.W.excIn K (He.ga K x) He.veBase "ValueError.__new__" = true ∧ PySem.W.keepIn K (.ref (He.ga K x)) = true ∧ PySem.W.subIn K (.ref (He.ga K x)) (.type "BaseException") = some true ∧
    PySem.W.typeIn K (.ref (He.ga K x)) = some (.type "type") := He.exc_ok (g.sy.d.fact i h)
theorem Gb.exm (g : Gb fa fn tb K mg) {x y : Str} {b : Bool} (i : Nat) (h : fa[i]? = some (.exm x y b) := by rfl) : PySem.W.exmOne K (.ref (He.ga K x)) (.ref (He.ga K y)) = some b := He.exm_ok (g.sy.d.fact i h)
theorem Gb.def_ (g : Gb fa fn tb K mg) (i : Nat) {d : He.DefD} (h : fn[i]? = some d := by rfl) : ∃ fd, FunD K d.name d.qual d.params d.body d.scope (d.dvs K) (d.kws K) (He.fAd K d.at_) fd := g.sy.d.def_ i h
end

/-! ### the module's names -/
section
variable {cm : Nat → Addr} {X : Cx} {xw : WX} {x : Str} {pos : Pos}
theorem dv_gInt {i : Int} (h : ∃ t, X.mg x = some (.int i t)) (hg : Gl X x := by rfl) (hd : (x == ("__debug__" : Str)) = false := by decide) : DV cm X xw (.Name x pos) (M.ret (.int i)) := by
  obtain ⟨t, h⟩ := h
  exact dv_glob (v := .int i) hg h ⟨t, rfl⟩ (fun _ => .int i) hd
theorem dv_gStr {z : Str} (h : ∃ t, X.mg x = some (.str z t)) (hg : Gl X x := by rfl) (hd : (x == ("__debug__" : Str)) = false := by decide) : DV cm X xw (.Name x pos) (M.ret (.str z)) := by
  obtain ⟨t, h⟩ := h
  exact dv_glob (v := .str z) hg h ⟨t, rfl⟩ (fun _ => .str z) hd
theorem reps_dvs {K : PySem.W.Frag} {g : Wd} : ∀ zs : List Str, Reps K g ((zs.map He.Dv.str).map (He.Dv.v K)) (zs.map D.str)
  | [] => .nil
  | z :: r => .cons (.str z) (reps_dvs r)
theorem dv_gTup {zs : List Str} (h : X.mg x = some (.ref (He.ga X.K x))) (hb : He.tupB X.K x (zs.map He.Dv.str) = true) (hg : Gl X x := by rfl) (hd : (x == ("__debug__" : Str)) = false := by decide) : DV cm X xw (.Name x pos) (M.ret (.tup (zs.map D.str))) :=
  dv_glob (v := .ref (He.ga X.K x)) hg h rfl (fun g => .tup (He.tupB_ok hb g.B) (reps_dvs zs)) hd
theorem ds_raiseG {p p2 pos' : Pos} {m : Str} {j c : Nat} (hcc : cm c = He.ga X.K x) (tk : L2N.Takes X xw) (h : X.mg x = some (.ref (He.ga X.K x))) (f : PySem.W.excIn X.K (He.ga X.K x) He.veBase "ValueError.__new__" = true ∧ PySem.W.keepIn X.K (.ref (He.ga X.K x)) = true ∧ PySem.W.subIn X.K (.ref (He.ga X.K x)) (.type "BaseException") = some true ∧
    PySem.W.typeIn X.K (.ref (He.ga X.K x)) = some (.type "type")) (hc : X.calm = true := by rfl) (hg : Gl X x := by rfl) (hdb : (x == ("__debug__" : Str)) = false := by decide) :
    DS cm X xw (.Raise (some (.Call (.Name x p) [.Constant (.str m) j p2] [] pos)) none pos') (M.raise c) :=
  ds_raise hcc hc tk f.1 h f.2.1 (raises_own f.2.2.1 f.2.2.2) hg hdb
end

/-! ### defs by name -/
/-- the def x of the module does m, k levels deep -/
def OkF (P : Program) (w : World) (K : PySem.W.Frag) (mg : Str → Option Value) (base : Heap) (cm : Nat → Addr) (k : Nat) (x : Str) (ps : List Str) (m : List D → M R) : Prop :=
  mg x = some (.ref (He.ga K x)) ∧ PySem.W.keepIn K (.ref (He.ga K x)) = true ∧ ∃ fd, Binds K fd ps [] ∧ FnG P w K mg base k (He.ga K x) fd ps (spD K cm ps.length m)
theorem okF {P : Program} {w : World} {K : PySem.W.Frag} {mg : Str → Option Value} {base : Heap} {cm : Nat → Addr} {x : Str} {params : Arguments} {body : List Stmt} {scope : Scope} {N ps : List Str} {k n : Nat} {mb : M Flow1}
    (hF : ∃ fd, FunD K x x params body scope [] [] (He.ga K x) fd) (gl : mg x = some (.ref (He.ga K x))) (S : FnScope N ps scope) (hn : N.length = n) (hp : ps.length ≤ n)
    (hbind : ∀ (kV doc pm : Value) (an : Option Addr) (cdv ct : Value) (us : List Value), us.length = ps.length → bindArgs (PySem.W.fnOf x x params body scope .none kV doc pm an cdv ct) ⟨us, []⟩ = pure (ps.zip us))
    (hbody : ∀ (f : Addr) (cdv : Value) (A : Around) (outer : List Env) (s : Shared) (H : Hp) (E : XK), Room k (A.deeper (envOfC x scope s.heap.objs.size f cdv)) → A.guards = some [] →
      DSs cm (cxOf (L2N.CX P w) P w K mg base N x scope f cdv A outer s H E) (fun cls d _ H' => E cls d H') body mb) : OkF P w K mg base cm (k + 1) x ps (runF n mb) := by
  obtain ⟨fd, F⟩ := hF
  exact ⟨gl, F.kp, fd, F.bindsN hbind, fnD F S hn hp fun cdv A outer s H E hr hg => hbody _ cdv A outer s H E hr hg⟩
namespace M
def call (ar : Nat) (m : List D → M R) (ma : M (List D)) : M R := M.bind ma fun ds => if ds.length = ar then callM m ds else fun _ => .bad
end M
section
variable {cm : Nat → Addr} {X : Cx} {xw : WX} {x : Str} {p pos : Pos} {kk : Nat} {ps : List Str} {m : List D → M R}
theorem de_callF {e : Expr} {es : List Expr} {ma : M (List D)} {ar : Nat} (F : OkF X.prog X.w X.K X.mg X.base cm kk x ps m) (hr : Room kk X.A) (hgd : X.A.guards = some []) (tk : L2N.Takes X xw) (ha : DA cm X xw (e :: es) ma) (hg : Gl X x := by rfl) (har : ps.length = ar := by rfl) (hn : (e :: es).length = ar := by rfl) (hdb : (x == ("__debug__" : Str)) = false := by decide)
    (he : starEach (e :: es) X.env = (false, eval e X.env) :: starEach es X.env := by rfl) (hpl : (backTo pos (starEach es X.env)).any (·.1) = false := by rfl) : DE cm X xw (.Call (.Name x p) (e :: es) [] pos) (M.call ar m ma) := by
  obtain ⟨h1, h2, fd, h3, h4⟩ := F
  subst har
  exact de_call h4 hr hgd hg h1 h2 h3 tk ha hn hdb he hpl
theorem de_callF0 (F : OkF X.prog X.w X.K X.mg X.base cm kk x [] m) (hr : Room kk X.A) (hgd : X.A.guards = some []) (tk : L2N.Takes X xw) (hg : Gl X x := by rfl) (hdb : (x == ("__debug__" : Str)) = false := by decide) :
    DE cm X xw (.Call (.Name x p) [] [] pos) (callM m []) := by
  obtain ⟨h1, h2, fd, h3, h4⟩ := F
  exact de_call0 h4 hr hgd hg h1 h2 h3 tk hdb
theorem room_u {k : Nat} {A : Around} (h : Room k A) : A.units + 65 < cLine := by have := h.un; omega
theorem room_v {k : Nat} {A : Around} (h : Room k A) : A.units + 64 < cLine := by have := h.un; omega
end
end DL

/-! DTop2: the printed names of what the rules do. -/
namespace DL
open PySem PySem.Spec PyProof.Rows L2 Evl
def negF : D → Option D
  | .int i => some (.int (-i))
  | _ => none
def atD (ds : List D) : D → Option D
  | .int j => L2.atI ds j
  | _ => none
namespace M
def neg (m : M D) : M D := M.bind m fun d => M.lift (negF d)
def vand (a b : M D) : M D := M.bind (M.tru a) fun x => cond x b (M.ret (.bl false))
def vor (a b : M D) : M D := M.bind (M.tru a) fun x => cond x (M.ret (.bl true)) b
def vnot (a : M D) : M D := M.map (fun x => D.bl (!x)) (M.tru a)
def cons (m : M D) (ms : M (List D)) : M (List D) := M.bind m fun d => M.bind ms fun ds => M.ret (d :: ds)
def tup (ms : M (List D)) : M D := M.bind ms fun ds => M.lift ((okLen ds).map D.tup)
def lst (ms : M (List D)) : M R := M.bind ms fun ds => M.lift ((okLen ds).map R.own)
def lenP (i : Nat) : M D := M.bind (M.peek i) fun ds => M.ret (.int ds.length)
def ixP (i : Nat) (mi : M D) : M D := M.bind (M.peek i) fun _ => M.bind mi fun d => M.bind (M.peek i) fun ds => M.lift (atD ds d)
def neP (i : Nat) (mb : M D) : M Bool := M.bind (M.peek i) fun _ => M.bind mb fun y => M.bind (M.peek i) fun ds => M.lift ((D.eqPy (.lst ds) y).map (!·))
def b1 {α : Type} (ma : M (List D)) (f : List D → Option α) : M α := M.bind ma fun ds => M.lift (f ds)
def isa (m : M D) (T : Ty) : M D := M.bind m fun d => M.lift ((d.isa T).map D.bl)
def isa2 (m : M D) (T U : Ty) : M D := M.bind m fun d => M.lift (d.isa2 T U)
def slc (m : M D) (ml mh : M (Option Int)) : M R := M.bind m fun d => M.bind ml fun l => M.bind mh fun h => M.slice d l h
def optI (m : M D) : M (Option Int) := M.bind m fun d => M.lift (asInt d)
def lcB (mi : M (List D)) (vs : List Nat) (f : D → W → Option W) (t : M Bool) (e : M D) : M R := M.bind mi fun items => M.lc vs f t e items
def forB (mi : M (List D)) (f : D → W → Option W) (b : M Flow1) : M Flow1 := M.bind mi fun items => M.forL f b items
def seqI (m : M D) : M (List D) := M.bind m fun d => M.lift (seqD d)
def strI (m : M D) : M (List D) := M.bind m fun d => M.lift (signs d)
def apG (f : D → W → Option W) (d : D) : M Flow1 := fun w => match f d w with
  | some w' => .ok .next w'
  | none => .bad
def asgG (f : D → W → Option W) (m : M D) : M Flow1 := M.bind m (apG f)
def partition (mo me : M D) : M D := txt1 mo me fun a y => M.lift (partF a y)
def split (mo me : M D) : M R := txt1 mo me fun a y => M.lift (splitF a y)
def join (mo me : M D) : M D := txt1 mo me fun a y => M.bind (M.items y) fun ds => M.lift (joinF a ds)
end M
section
variable {cm : Nat → Addr} {X : Cx} {xw : WX} {e ie : Expr} {pos npos p : Pos} {i : Nat} {x : Str} {mi : M D}
theorem dv_negP {m : M D} (h : DV cm X xw e m) : DV cm X xw (.UnaryOp .USub e pos) (M.neg m) := by
  have q := dv_neg (pos := pos) h
  have e1 : (fun d : D => match d with
    | .int i => some (D.int (-i))
    | _ => none) = negF := by funext d; cases d <;> rfl
  have e2 : M.neg m = M.bind m fun d => M.lift ((fun d : D => match d with
    | .int i => some (D.int (-i))
    | _ => none) d) := by unfold M.neg; rw [← e1]
  rw [e2]
  exact q
theorem dv_ixQ (hi : DV cm X xw ie mi) (hN : X.N[i]? = some x := by rfl) (hv : Vis X.env.scope x := by first | exact Or.inl rfl | exact Or.inr (Or.inl rfl) | exact Or.inr (Or.inr rfl))
    (hd : (x == ("__debug__" : Str)) = false := by decide) (hcd : (x == ("__classdict__" : Str)) = false := by decide) (hs : PlainIx ie := by exact fun _ _ => rfl) :
    DV cm X xw (.Subscript (.Name x npos) ie pos) (M.ixP i mi) := by
  have q := dv_ixP (npos := npos) (pos := pos) hi hN hv hd hcd hs
  have e1 : (fun (ds : List D) (d : D) => match d with
      | .int j => L2.atI ds j
      | _ => none) = atD := by funext ds d; cases d <;> rfl
  have e2 : M.ixP i mi = M.bind (M.peek i) fun _ => M.bind mi fun d => M.bind (M.peek i) fun ds => M.lift ((fun (ds : List D) (d : D) => match d with
      | .int j => L2.atI ds j
      | _ => none) ds d) := by unfold M.ixP; rw [← e1]
  rw [e2]
  exact q
theorem ds_asgP {tg e : Expr} {ks : List Nat} {m : M D} {f : D → W → Option W} {pos : Pos} (hg : DG cm X tg ks f) (he : DV cm X xw e m) (hs : swapsWithSole [tg] e pos.line X.env = pure false := by rfl) (hw : swappedStores [tg] e X.env = pure none := by rfl)
    (h1 : (assignEach [tg] X.env).map (·.2) = [assign tg X.env] := by rfl) : DS cm X xw (.Assign [tg] e pos) (M.asgG f m) := ds_asgG hg he hs hw h1
end

namespace M
def par (i j : Nat) (ma : M (List D)) : M Flow1 := M.bind ma fun ds w => match ds with
  | [a, b] => if i < w.E.length ∧ j < w.E.length then .ok .next { w with E := (w.E.set i (.val a)).set j (.val b) } else .bad
  | _ => .bad
end M
section
variable {cm : Nat → Addr} {X : Cx} {xw : WX}
theorem ds_par {i j : Nat} {x y : Str} {a b : Expr} {ma : M (List D)} {px py pt pos : Pos} {kt k2 pt2} (ha : DA cm X xw [a, b] ma) (hN : X.N.Nodup) (hij : i ≠ j := by decide) (hi : X.N[i]? = some x := by rfl) (hj : X.N[j]? = some y := by rfl) (hc : X.calm = true := by rfl)
    (hx : X.env.scope.names.lookup x = some .local := by rfl) (hy : X.env.scope.names.lookup y = some .local := by rfl)
    (hw : swappedStores [.Tuple [.Name x px, .Name y py] kt pt] (.Tuple [a, b] k2 pt2) X.env = pure (some [x, y]) := by rfl)
    (hs : swapsWithSole [.Tuple [.Name x px, .Name y py] kt pt] (.Tuple [a, b] k2 pt2) pos.line X.env = pure false := by rfl) :
    DS cm X xw (.Assign [.Tuple [.Name x px, .Name y py] kt pt] (.Tuple [a, b] k2 pt2) pos) (M.par i j ma) := by
  obtain ⟨t, p, o⟩ := ha
  refine ⟨_, ps_par hc hN hi hj hij hx hy p hw hs, fun g w σ H D N r hNn k => ?_⟩
  refine o g w σ H _ r (GPost.imp (fun g1 w1 H1 ds r1 s1 k1 vs q => ?_) (SPost.bind0 k))
  cases q with
  | nil => exact k1.elim
  | cons qa q =>
    cases q with
    | nil => exact k1.elim
    | cons qb q =>
      cases q with
      | cons _ _ => exact k1.elim
      | nil =>
        rename_i va da vb db
        have k1 : SPost X.K cm xw N D g w σ H (if i < w1.E.length ∧ j < w1.E.length then Res.ok Flow1.next { w1 with E := (w1.E.set i (.val da)).set j (.val db) } else .bad) := k1
        split at k1
        · obtain ⟨r2, s2⟩ := r1.setVal (i := i) qa
          obtain ⟨r3, s3⟩ := r2.setVal (i := j) qb
          exact ⟨va, vb, rfl, k1 _ _ _ r3 ((s1.trans s2).trans s3)⟩
        · exact k1.elim
end
end DL

/-! DEnd: from the law's function of data to the row's goal. -/
namespace DL
open PySem PySem.Spec PyProof.Rows L2 Evl

/-- name != e, as a value -/
theorem dv_neP {cm : Nat → Addr} {X : Cx} {xw : WX} {i : Nat} {x : Str} {mb : M D} {b : Expr} {npos pos : Pos} (hu : X.A.units + 64 < cLine) (hb : DV cm X xw b mb) (hN : X.N[i]? = some x := by rfl) (hv : Vis X.env.scope x := by first | exact Or.inl rfl | exact Or.inr (Or.inl rfl) | exact Or.inr (Or.inr rfl))
    (hd : (x == ("__debug__" : Str)) = false := by decide) (hcd : (x == ("__classdict__" : Str)) = false := by decide) :
    DV cm X xw (.Compare (.Name x npos) [.NotEq] [b] pos) (M.map D.bl (M.neP i mb)) := by
  obtain ⟨t, p, o⟩ := hb
  refine ⟨_, pe_cmpR (op_neA hu) (pe_var hN hv hd hcd) p (nomark _), fun g w σ H Q r k => ?_⟩
  have k := GPost.map k
  unfold M.neP at k
  obtain ⟨a, vs, ds, e1, h1, h2, h4, k⟩ := peek_ok r k
  refine ⟨.ref a, h1, o g w σ H _ r (GPost.imp (fun g1 w1 H1 d r1 s1 k1 v q => ?_) (GPost.bind k))⟩
  obtain ⟨b', us, es, e2, c1, c2, c4, k2⟩ := peek_ok r1 k1
  rw [h1] at c1
  cases c1
  obtain ⟨z, e3, k3⟩ := GPost.lift k2
  obtain ⟨bb, e4, rfl⟩ := Option.map_eq_some_iff.mp e3
  unfold D.eqPy at e4
  cases e5 : (D.lst es).py with
  | none => rw [e5] at e4; cases e4
  | some p1 =>
    cases e6 : d.py with
    | none => rw [e5, e6] at e4; cases e4
    | some p2 =>
      rw [e5, e6] at e4
      have e7 : (if SeqAt.shaped p1 = true ∧ SeqAt.shaped p2 = true then some (PyData.eqv p1 p2) else none) = some bb := e4
      split at e7
      · cases e7
        rename_i hh
        exact .inr ⟨p1, p2, Reps.dpA r1.ex c2 c4 e5, Rep.dp r1.ex _ _ _ q e6, hh.1, hh.2, GPost.here r1 k3 _ (.bl _)⟩
      · cases e7
/-- the state in which a law is entered -/
def w0 : W := ⟨[], fun _ => none, 0⟩
/-- on a script, m gives True -/
def Tells (m : List D → M R) (ns : List Int) : Prop := ∃ w', m [.scr ns] w0 = .ok (.val (.bl true)) w'
theorem spD_of {K : PySem.W.Frag} {cm : Nat → Addr} {m : List D → M R} {ns : List Int} {H : Hp} {a : Addr} (hS : SqL K H a (ns.map V.int)) (t : Tells m ns) : spD K cm 1 m [.ref a] H (fun v _ => v = .bl true) fun _ _ _ => False := by
  obtain ⟨w', e⟩ := t
  refine ⟨⟨fun _ => 0, 0, H⟩, w0, [.scr ns], rfl, ⟨rfl, Ex.refl _, rfl, fun i s h => by simp [w0] at h, fun k o h => by simp [w0] at h, fun j k h => absurd rfl h, fun i j b h => (no_own' rfl h).elim, fun i b k h => (no_own' rfl h).elim⟩, .cons (.scr hS) .nil, rfl, ?_⟩
  rw [e]
  intro g' H' _ _ v q
  cases q
  rfl
section
variable {P : Program} {w : World} {K : PySem.W.Frag} {mg mb : Str → Option Value} {cm : Nat → Addr} {k : Nat} {a : Addr} {x : Str} {m : List D → M R} {s : Shared} {vs : List Value} {ns : List Int}
/-- one way to see the script: H -/
theorem enter_law (KX : K.In s.heap) (hns : s.heap.Ns mainGlobals mg) (hb : s.heap.Ns builtinsNs mb) (hbb : ∀ x : Str, x ≠ "__name__" → mb x = bootBuiltins x) (hlim : s.heap.NoLimit) (hg : s.gens = #[])
    (ha : s.heap.get? a = some { cls := .type "list", data := .seq vs.toArray }) (hr : Room k callerA) (F : ∀ base : Heap, OkF P w K mg base cm k "law" [x] m) (ht : Tells m ns)
    (H : Hp) (only : Only H) (hS : SqL K H a (ns.map V.int)) (hok : HOk P w H s.heap) (one : ∀ b, H b ≠ none → b = a) (free : H a ≠ none → K.lookup a = none) :
    codeAny (model P w) callerA (.call (.ref (He.ga K "law")) ⟨[.ref a], []⟩) (fun r t => r = .ok (.ret (.bool true)) ∧ OldK s.heap t.heap ∧ t.os = s.os ∧ AllBare t.gens) s := by
  have seen : ∀ {b : Addr} {o : Obj}, s.heap.get? b = some o → H b = none → (hidT s.heap H).get? b = some o := fun e n => hidT_get e n
  have dicts : ∀ {b : Addr} {o : Obj} {es : Array DictEntry} {ep : Nat}, s.heap.get? b = some o → o.data = .dict es ep → H b = none := by
    intro b o es ep e d
    refine Classical.byContradiction fun nz => ?_
    have eb := one b nz
    rw [eb, ha] at e
    injection e with e1
    rw [← e1] at d
    exact Data.noConfusion d
  have spaces : ∀ {b : Addr} {z : Str → Option Value}, s.heap.Ns b z → (hidT s.heap H).Ns b z := by
    rintro b z ⟨o, es, ep, e, d, r⟩
    exact ⟨o, es, ep, seen e (dicts e d), d, r⟩
  have known : K.In (hidT s.heap H) := by
    intro b o e
    refine seen (KX b o e) (Classical.byContradiction fun nz => ?_)
    have eb := one b nz
    rw [eb] at e nz
    rw [free nz] at e
    cases e
  obtain ⟨mc, l1, l2⟩ := hlim
  obtain ⟨_, _, fd, bd, FG⟩ := F (hidT s.heap H)
  have md : Mod K mg (hidT s.heap H) := ⟨known, spaces hns, ⟨mb, spaces hb, hbb⟩, ⟨mc, spaces l1, l2⟩⟩
  have env : Env0 P w K mg (hidT s.heap H) callerA [] s H := by
    refine ⟨rfl, md, fun b o e => of_hidT e, Nat.le_of_eq (hidT_size _ _), trivial, fun b hb => ?_, hok, .of_eq hg⟩
    exact (List.not_mem_nil hb).elim
  refine codeAny_mono (FG.run callerA [] s H ⟨[.ref a], []⟩ [.ref a] [.ref a] _ _ hr rfl env (bd s [.ref a] KX rfl) (.cons rfl .nil) (spD_of hS ht)) fun r t h => ?_
  match r, h with
  | .error e, h =>
    obtain ⟨_, _, _, _, _, _, _, _, _, _, _, _, z⟩ := h
    exact z.elim
  | .ok (.ret u), ⟨v, H', os, bare, un, hok', rv, q⟩ =>
    have q : v = .bl true := q
    rw [q] at rv
    have rv : u = Value.bool true := rv
    refine ⟨by rw [rv], OldK.of_keep fun b o e => ?_, os, bare⟩
    rcases only b with z | ⟨ob, xs, z⟩
    · exact un.keep b o e z (List.not_mem_nil) (by simp)
    · have c1 := (hok b _ z).1
      have c2 := (hok' b _ (un.frzs b ob _ z)).1
      rw [e] at c1
      cases c1
      exact c2
/-- the law's call, behind the top -/
theorem law_callG (KX : K.In s.heap) (hns : s.heap.Ns mainGlobals mg) (hb : s.heap.Ns builtinsNs mb) (hbb : ∀ x : Str, x ≠ "__name__" → mb x = bootBuiltins x) (hlim : s.heap.NoLimit) (hg : s.gens = #[])
    (ha : s.heap.get? a = some { cls := .type "list", data := .seq vs.toArray }) (hi : IntsAre vs ns) (hl : ns.length ≤ sizeLine) (hr : Room k callerA) (F : ∀ base : Heap, OkF P w K mg base cm k "law" [x] m) (ht : Tells m ns) :
    codeAny (model P w) callerA (.call (.ref (He.ga K "law")) ⟨[.ref a], []⟩) (fun r t => r = .ok (.ret (.bool true)) ∧ OldK s.heap t.heap ∧ t.os = s.os ∧ AllBare t.gens) s := by
  have sv := vals_ints hi
  have lv := hi.length
  by_cases hk : K.lookup a = none
  · let o : Obj := { cls := .type "list", data := .seq vs.toArray }
    let H : Hp := fun b => if b = a then some (.frz o (.lst (ns.map V.int))) else none
    have atA : H a = some (.frz o (.lst (ns.map V.int))) := if_pos rfl
    have off : ∀ b, b ≠ a → H b = none := fun b h => if_neg h
    refine enter_law KX hns hb hbb hlim hg ha hr F ht H (fun b => ?_) (.inl (.inr ⟨o, atA⟩)) (fun b u z => ?_) (fun b z => ?_) fun _ => hk
    · exact (Classical.em (b = a)).elim (fun h => .inr ⟨_, _, h ▸ atA⟩) fun h => .inl (off b h)
    · rcases Classical.em (b = a) with h | h
      · rw [h, atA] at z
        injection z with z1
        rw [← z1, h]
        exact ⟨ha, by rw [List.length_map]; exact hl, vs, _, sv, ha⟩
      · rw [off b h] at z
        cases z
    · exact Classical.byContradiction fun h => z (off b h)
  · cases e : K.lookup a with
    | none => exact absurd e hk
    | some o =>
      have eo : some o = some { cls := .type "list", data := .seq vs.toArray } := (KX a o e).symm.trans ha
      cases eo
      exact enter_law KX hns hb hbb hlim hg ha hr F ht (fun _ => none) (fun _ => .inl rfl) (.inr ⟨_, vs.toArray, _, e, rfl, rfl, rfl, by rw [List.size_toArray, lv]; exact hl, by simpa using sv⟩) (fun b u z => by cases (show (none : Option HO) = some u from z)) (fun b z => (z rfl).elim) fun z => (z rfl).elim
end
/-- the goal behind the head -/
theorem walkG {l : PySem.W.OpenLaw} {n k : Nat} {q : Program} {loose : List Str} {XP : (Str → Option Value) → Heap → Prop} {YP : World → Heap → Prop} {d : DefRec} {x : Str} {fa : List He.Fa} {fn : List He.DefD} {tb : Tbs} {cm : PySem.W.Frag → Nat → Addr} {m : List D → M R}
    (hn : l.most = some n) (hn2 : n ≤ sizeLine) (hdf : d.params.defaults = []) (hd : d.name = "law") (hr : Room k callerA) (hY : ∀ w h, YP w h → ∃ K : PySem.W.Frag, K.In h ∧ Says fa fn tb K)
    (ok : ∀ (w : World) (K : PySem.W.Frag) (mg : Str → Option Value) (base : Heap), Gb fa fn tb K mg → OkF l.prog w K mg base (cm K) k "law" [x] m) (plain : ∀ ns : List Int, ns.length ≤ n → Tells m ns) :
    PySem.W.WalkO q loose XP YP l.row.toRowW d [] (fun f vs => PySem.call f vs) := by
  refine Att.attach_call hn hdf fun w s₀ s₁ mg mb f o pm cd doc a vs ns G Y ho hdd hcd hmg hobj hints hlen hg => ?_
  obtain ⟨K, KX, c⟩ := hY w _ Y
  have gb : Gb fa fn tb K mg := ⟨⟨_, KX, G.T.g⟩, c⟩
  have F := fun base => ok w K mg base gb
  rw [hd, (F s₁.heap).1] at hmg
  cases hmg
  exact law_callG KX G.T.g G.T.b G.T.builtins G.T.nolimit hg hobj hints (Nat.le_trans hlen hn2) hr F (plain ns hlen)
end DL

/-! DPlain: what m does at w, said step by step. -/
namespace DL
open PySem PySem.Spec PyProof.Rows L2 Evl
/-- m runs from w to a result of which P holds -/
def Ev {α : Type} (m : M α) (w : W) (P : α → W → Prop) : Prop := ∃ a w', m w = .ok a w' ∧ P a w'
/-- a def on data, from a store -/
def Fn (f : List D → M R) (ds : List D) (S : Nat → Option MObj) (n : Nat) (P : R → (Nat → Option MObj) → Nat → Prop) : Prop := ∃ r S' n', f ds ⟨[], S, n⟩ = .ok r ⟨[], S', n'⟩ ∧ P r S' n'
section
variable {α β : Type} {w : W} {P : α → W → Prop} {Q : β → W → Prop}
theorem Ev.imp {m : M α} {P' : α → W → Prop} (h : Ev m w P) (k : ∀ a w', P a w' → P' a w') : Ev m w P' := by
  obtain ⟨a, w', e, p⟩ := h
  exact ⟨a, w', e, k a w' p⟩
theorem ev_ret {a : α} (h : P a w) : Ev (M.ret a) w P := ⟨a, w, rfl, h⟩
theorem ev_bind {m : M α} {f : α → M β} (h : Ev m w fun a w' => Ev (f a) w' Q) : Ev (M.bind m f) w Q := by
  obtain ⟨a, w', e, b, w2, e2, q⟩ := h
  exact ⟨b, w2, by unfold M.bind; rw [e]; exact e2, q⟩
theorem ev_map {m : M α} {g : α → β} (h : Ev m w fun a w' => Q (g a) w') : Ev (M.map g m) w Q := by
  obtain ⟨a, w', e, q⟩ := h
  exact ⟨g a, w', by unfold M.map; rw [e], q⟩
theorem ev_lift {o : Option α} {a : α} (e : o = some a) (h : P a w) : Ev (M.lift o) w P := ⟨a, w, by rw [e]; rfl, h⟩
theorem ev_at {m : M α} {a : α} {w' : W} (e : m w = .ok a w') (h : P a w') : Ev m w P := ⟨a, w', e, h⟩
end
section
variable {w : W} {P : D → W → Prop} {PR : R → W → Prop} {PB : Bool → W → Prop} {PF : Flow1 → W → Prop} {PL : List D → W → Prop}
theorem ev_var {i : Nat} {d : D} (e : w.E[i]? = some (.val d)) (h : P d w) : Ev (M.var i) w P := ⟨d, w, by unfold M.var; rw [e], h⟩
theorem ev_varO {i : Nat} {ds : List D} (e : w.E[i]? = some (.own ds)) (h : P (.lst ds) { w with E := w.E.set i (.val (.lst ds)) }) : Ev (M.var i) w P := ⟨.lst ds, _, by unfold M.var; rw [e], h⟩
theorem ev_bind2 {α : Type} {PA : α → W → Prop} {a b : M D} {f : D → D → M α} (h : Ev a w fun x w1 => Ev b w1 fun y w2 => Ev (f x y) w2 PA) : Ev (bind2 a b f) w PA := ev_bind (h.imp fun _ _ k => ev_bind k)
theorem ev_seq {a b : M Flow1} (h : Ev a w fun f w1 => match f with
    | .next => Ev b w1 PF
    | f => PF f w1) : Ev (M.seq a b) w PF := by
  obtain ⟨f, w', e, q⟩ := h
  cases f with
  | next =>
    obtain ⟨g, w2, e2, q2⟩ := q
    exact ⟨g, w2, by unfold M.seq; rw [e]; exact e2, q2⟩
  | brk => exact ⟨_, w', by unfold M.seq; rw [e], q⟩
  | cont => exact ⟨_, w', by unfold M.seq; rw [e], q⟩
  | ret r => exact ⟨_, w', by unfold M.seq; rw [e], q⟩
theorem ev_asg {i : Nat} {m : M R} (h : Ev m w fun r w1 => i < w1.E.length ∧ PF .next { w1 with E := w1.E.set i r.slot }) : Ev (M.asg i m) w PF := by
  obtain ⟨r, w1, e, l, q⟩ := h
  exact ⟨.next, _, by unfold M.asg M.bind M.put; rw [e]; exact if_pos l, q⟩
theorem ev_ct {x y : M Flow1} (h : Ev x w PF) : Ev (cond true x y) w PF := h
theorem ev_cf {x y : M Flow1} (h : Ev y w PF) : Ev (cond false x y) w PF := h
theorem ev_cond {α : Type} {PA : α → W → Prop} {b : Bool} {x y : M α} (h : b = true → Ev x w PA) (h' : b = false → Ev y w PA) : Ev (cond b x y) w PA := by
  cases b with
  | true => exact h rfl
  | false => exact h' rfl
theorem ev_ifS {t : M Bool} {a b : M Flow1} (h : Ev t w fun x w1 => Ev (cond x a b) w1 PF) : Ev (M.ifS t a b) w PF := ev_bind h
theorem ev_retVar {i : Nat} {d : D} (e : w.E[i]? = some (.val d)) (h : PF (.ret (.val d)) w) : Ev (M.retVar i) w PF := ⟨_, w, by unfold M.retVar; rw [e], h⟩
theorem ev_retOwn {i : Nat} {ds : List D} (e : w.E[i]? = some (.own ds)) (h : PF (.ret (.own ds)) { w with E := w.E.set i .un }) : Ev (M.retVar i) w PF := ⟨_, _, by unfold M.retVar; rw [e], h⟩
theorem ev_call {ar : Nat} {f : List D → M R} {ma : M (List D)} (h : Ev ma w fun ds w1 => ds.length = ar ∧ Fn f ds w1.S w1.n fun r S' n' => PR r ⟨w1.E, S', n'⟩) : Ev (M.call ar f ma) w PR := by
  obtain ⟨ds, w1, e, hl, r, S', n', e2, q⟩ := h
  refine ⟨r, _, ?_, q⟩
  unfold M.call M.bind
  rw [e]
  simp only [hl, if_true]
  unfold callM
  rw [show ({ w1 with E := [] } : W) = ⟨[], w1.S, w1.n⟩ from rfl, e2]
theorem ev_call0 {f : List D → M R} (h : Fn f [] w.S w.n fun r S' n' => PR r ⟨w.E, S', n'⟩) : Ev (callM f []) w PR := by
  obtain ⟨r, S', n', e2, q⟩ := h
  refine ⟨r, _, ?_, q⟩
  unfold callM
  rw [show ({ w with E := [] } : W) = ⟨[], w.S, w.n⟩ from rfl, e2]
/-- a def's body -/
def RP (P : R → (Nat → Option MObj) → Nat → Prop) : Flow1 → W → Prop := fun f w => match f with
  | .ret r => P r w.S w.n
  | .next => P (.val .non) w.S w.n
  | _ => False
theorem fn_run {n : Nat} {b : M Flow1} {ds : List D} {S : Nat → Option MObj} {k : Nat} {P : R → (Nat → Option MObj) → Nat → Prop} (h : Ev b ⟨ds.map Slot.val ++ List.replicate (n - ds.length) .un, S, k⟩ (RP P)) : Fn (runF n b) ds S k P := by
  obtain ⟨f, w', e, q⟩ := h
  cases f with
  | ret r => exact ⟨r, w'.S, w'.n, by unfold runF; simp only [e], q⟩
  | next => exact ⟨_, w'.S, w'.n, by unfold runF; simp only [e], q⟩
  | brk => exact q.elim
  | cont => exact q.elim
theorem Fn.imp {f : List D → M R} {ds : List D} {S : Nat → Option MObj} {k : Nat} {P P' : R → (Nat → Option MObj) → Nat → Prop} (h : Fn f ds S k P) (i : ∀ r S' n', P r S' n' → P' r S' n') : Fn f ds S k P' := by
  obtain ⟨r, S', n', e, q⟩ := h
  exact ⟨r, S', n', e, i r S' n' q⟩
theorem fn_eq {f : List D → M R} {ds : List D} {S : Nat → Option MObj} {k : Nat} {r : R} {P : R → (Nat → Option MObj) → Nat → Prop} (e : f ds ⟨[], S, k⟩ = .ok r ⟨[], S, k⟩) (q : P r S k) : Fn f ds S k P := ⟨r, S, k, e, q⟩
/-! ### items -/
theorem ev_itemsL {ds : List D} (h : PL ds w) : Ev (M.items (.lst ds)) w PL := ⟨ds, w, rfl, h⟩
theorem ev_itemsT {ds : List D} (h : PL ds w) : Ev (M.items (.tup ds)) w PL := ⟨ds, w, rfl, h⟩
theorem ev_itemsS {ns : List Int} (h : PL (ns.map D.int) w) : Ev (M.items (.scr ns)) w PL := ⟨_, w, rfl, h⟩
theorem ev_itemsR {k : Nat} {ds : List D} (e : w.S k = some (.lst ds)) (h : PL ds w) : Ev (M.items (.ref k)) w PL := ⟨ds, w, by unfold M.items; simp only [e], h⟩
theorem ev_ixR {k : Nat} {i : Int} {ds : List D} {d : D} (e : w.S k = some (.lst ds)) (e2 : L2.atI ds i = some d) (h : P d w) : Ev (M.ix (.ref k) (.int i)) w P := ⟨d, w, by unfold M.ix M.bind M.items; simp only [e, e2]; rfl, h⟩
theorem ev_ixL {i : Int} {ds : List D} {d : D} (e2 : L2.atI ds i = some d) (h : P d w) : Ev (M.ix (.lst ds) (.int i)) w P := ⟨d, w, by unfold M.ix M.bind M.items; simp only [e2]; rfl, h⟩
theorem ev_ixT {i : Int} {ds : List D} {d : D} (e2 : L2.atI ds i = some d) (h : P d w) : Ev (M.ix (.tup ds) (.int i)) w P := ⟨d, w, by unfold M.ix M.bind M.items; simp only [e2]; rfl, h⟩
theorem ev_ixS {i : Int} {z : Str} {c : Nat} (hz : z.length ≤ big) (e2 : L2.atI z.cps.toList i = some c) (h : P (.str ⟨#[c]⟩) w) : Ev (M.ix (.str z) (.int i)) w P := ⟨_, w, by unfold M.ix; simp only [if_pos hz, e2]; rfl, h⟩
/-! ### numbers -/
theorem ev_addI {i j : Int} (h : PR (.val (.int (i + j))) w) : Ev (M.lift (D.add (.int i) (.int j))) w PR := ev_lift rfl h
theorem ev_subI {i j : Int} (h : P (.int (i - j)) w) : Ev (M.lift (D.sub (.int i) (.int j))) w P := ev_lift rfl h
theorem ev_mulI {i j : Int} (c : i.natAbs.log2 + j.natAbs.log2 < 1000000) (h : PR (.val (.int (i * j))) w) : Ev (M.lift (D.mul (.int i) (.int j))) w PR := ev_lift (if_pos c) h
theorem ev_modI {i j : Int} (c : 0 < j) (h : P (.int (i % j)) w) : Ev (M.lift (D.mod (.int i) (.int j))) w P := ev_lift (if_pos c) h
theorem ev_fdivI {i j : Int} (c : 0 < j) (c2 : j.natAbs.log2 < 9000) (h : P (.int (i / j)) w) : Ev (M.lift (D.fdiv (.int i) (.int j))) w P := ev_lift (if_pos ⟨c, c2⟩) h
theorem ev_powI {i j : Int} (c : 0 ≤ j ∧ j ≤ 1000000 ∧ i.natAbs < 2 ^ 64) (h : P (.int (i ^ j.toNat)) w) : Ev (M.lift (D.pow (.int i) (.int j))) w P := ev_lift (if_pos c) h
theorem ev_addS {a b : Str} (c : a.length + b.length ≤ big) (h : PR (.val (.str (a ++ b))) w) : Ev (M.lift (D.add (.str a) (.str b))) w PR := ev_lift (if_pos c) h
theorem ev_addL {a b : List D} (c : a.length + b.length ≤ big) (h : PR (.own (a ++ b)) w) : Ev (M.lift (D.add (.lst a) (.lst b))) w PR := ev_lift (if_pos c) h
theorem log_lt {x n : Nat} (h : x < 2 ^ n) (hn : 0 < n := by decide) : x.log2 < n := by
  by_cases c : x = 0
  · subst c; simpa using hn
  · exact (Nat.log2_lt c).mpr h
/-! ### lists that change -/
theorem ev_setSt {n : Nat} {me mi : M D} (h : Ev me w fun d w1 => ∃ k, w1.E[n]? = some (.val (.ref k)) ∧ Ev mi w1 fun x w2 => ∃ i, x = .int i ∧ ∃ ds, w2.S k = some (.lst ds) ∧ ∃ es, (L2.ixN ds.length i).map (fun j => ds.set j d) = some es ∧ PF .next { w2 with S := fun j => if j = k then some (.lst es) else w2.S j }) :
    Ev (M.setVar n mi me) w PF := by
  obtain ⟨d, w1, e1, k, e2, x, w2, e3, i, rfl, ds, e4, es, e5, q⟩ := h
  obtain ⟨j, e6, rfl⟩ := Option.map_eq_some_iff.mp e5
  refine ⟨.next, _, ?_, q⟩
  unfold M.setVar M.bind
  simp only [e1, e2, e3]
  unfold M.modSt M.setF
  simp only [e4, e6, Option.map]
  rfl
theorem ev_modSt {k : Nat} {f : List D → Option (D × List D)} {ds es : List D} {r : D} (e : w.S k = some (.lst ds)) (e2 : f ds = some (r, es)) (h : P r { w with S := fun j => if j = k then some (.lst es) else w.S j }) : Ev (M.modSt k f) w P := ⟨r, _, by unfold M.modSt; simp only [e, e2], h⟩
theorem ev_appO {i : Nat} {ma : M (List D)} {ds : List D} (e : w.E[i]? = some (.own ds)) (h : Ev ma w fun as w1 => ∃ d ds2, as = [d] ∧ w1.E[i]? = some (.own ds2) ∧ ds2.length < big ∧ P .non { w1 with E := w1.E.set i (.own (ds2 ++ [d])) }) : Ev (M.modVar i ma appF) w P := by
  obtain ⟨as, w1, e1, d, ds2, rfl, e2, hl, q⟩ := h
  refine ⟨.non, _, ?_, q⟩
  unfold M.modVar M.bind M.modOwn appF
  simp only [e, e1, e2, if_pos hl]
theorem ev_appE {mo : M D} {ma : M (List D)} {k : Nat} (h : Ev mo w fun o w1 => o = .ref k ∧ (∃ ds, w1.S k = some (.lst ds)) ∧ Ev ma w1 fun as w2 => ∃ d ds2, as = [d] ∧ w2.S k = some (.lst ds2) ∧ ds2.length < big ∧ P .non { w2 with S := fun j => if j = k then some (.lst (ds2 ++ [d])) else w2.S j }) : Ev (M.modE mo ma appF) w P := by
  obtain ⟨o, w1, e1, rfl, ⟨ds, e0⟩, as, w2, e2, d, ds2, rfl, e3, hl, q⟩ := h
  refine ⟨.non, _, ?_, q⟩
  unfold M.modE M.bind
  simp only [e1, e0, e2]
  unfold M.modSt appF
  simp only [e3, if_pos hl]
theorem ev_alloc {m : M R} (h : Ev m w fun r w1 => ∃ ds, r = .own ds ∧ P (.ref w1.n) { w1 with S := fun k => if k = w1.n then some (.lst ds) else w1.S k, n := w1.n + 1 }) : Ev (M.alloc m) w P := by
  obtain ⟨r, w1, e, ds, rfl, q⟩ := h
  exact ⟨_, _, by unfold M.alloc; rw [e], q⟩
theorem ev_peek {i : Nat} {ds : List D} (e : w.E[i]? = some (.own ds)) (h : PL ds w) : Ev (M.peek i) w PL := ⟨ds, w, by unfold M.peek; rw [e], h⟩
/-! ### loops -/
theorem ev_forL {f : D → W → Option W} {b : M Flow1} (I : List D → W → Prop) (step : ∀ d r w, I (d :: r) w → ∃ w1, f d w = some w1 ∧ Ev b w1 fun fl w2 => match fl with
      | .next => I r w2
      | .cont => I r w2
      | .brk => PF .next w2
      | .ret v => PF (.ret v) w2) (done : ∀ w, I [] w → PF .next w) : ∀ (items : List D) (w : W), I items w → Ev (M.forL f b items) w PF
  | [], w, h => ⟨.next, w, rfl, done w h⟩
  | d :: r, w, h => by
    obtain ⟨w1, e1, fl, w2, e2, q⟩ := step d r w h
    cases fl with
    | next =>
      obtain ⟨g, w3, e3, q3⟩ := ev_forL I step done r w2 q
      exact ⟨g, w3, by unfold M.forL; simp only [e1, e2]; exact e3, q3⟩
    | cont =>
      obtain ⟨g, w3, e3, q3⟩ := ev_forL I step done r w2 q
      exact ⟨g, w3, by unfold M.forL; simp only [e1, e2]; exact e3, q3⟩
    | brk => exact ⟨_, w2, by unfold M.forL; simp only [e1, e2], q⟩
    | ret v => exact ⟨_, w2, by unfold M.forL; simp only [e1, e2], q⟩
theorem ev_lcL {vs : List Nat} {f : D → W → Option W} {t : M Bool} {e : M D} (I : List D → List D → W → Prop) (step : ∀ d r acc w, I (d :: r) acc w → ∃ w1, f d w = some w1 ∧ Ev t w1 fun b w2 => match b with
      | true => Ev e w2 fun y w3 => acc.length < big ∧ I r (acc ++ [y]) (w3.wipe vs)
      | false => I r acc (w2.wipe vs)) (done : ∀ acc w, I [] acc w → PR (.own acc) w) : ∀ (items acc : List D) (w : W), I items acc w → Ev (M.lcL vs f t e items acc) w PR
  | [], acc, w, h => ⟨_, w, rfl, done acc w h⟩
  | d :: r, acc, w, h => by
    obtain ⟨w1, e1, b, w2, e2, q⟩ := step d r acc w h
    cases b with
    | true =>
      obtain ⟨y, w3, e3, hl, q3⟩ := q
      obtain ⟨g, w4, e4, q4⟩ := ev_lcL I step done r _ _ q3
      exact ⟨g, w4, by unfold M.lcL; simp only [e1, e2, e3, if_pos hl]; exact e4, q4⟩
    | false =>
      obtain ⟨g, w4, e4, q4⟩ := ev_lcL I step done r _ _ q
      exact ⟨g, w4, by unfold M.lcL; simp only [e1, e2]; exact e4, q4⟩
/-- a comprehension without tests whose items leave the state -/
theorem ev_lcMap {vs : List Nat} {f : D → W → Option W} {e : M D} {g : D → D} {items : List D} (hl : items.length ≤ big) (h : ∀ d ∈ items, ∃ w1, f d (w.wipe vs) = some w1 ∧ Ev e w1 fun y w3 => y = g d ∧ w3.wipe vs = w.wipe vs) (k : PR (.own (items.map g)) (w.wipe vs)) :
    Ev (M.lc vs f (M.ret true) e items) w PR := by
  refine ev_lcL (fun r acc w' => w' = w.wipe vs ∧ acc ++ r.map g = items.map g ∧ ∀ d ∈ r, d ∈ items) (fun d r acc w' ⟨h1, h2, h3⟩ => ?_) (fun acc w' ⟨h1, h2, _⟩ => ?_) items [] (w.wipe vs) ⟨rfl, rfl, fun _ h => h⟩
  · subst h1
    obtain ⟨w1, e1, e2⟩ := h d (h3 d (List.mem_cons_self ..))
    refine ⟨w1, e1, ev_ret (e2.imp fun y w3 ⟨q1, q2⟩ => ⟨?_, q2, ?_, fun x hx => h3 x (List.mem_cons_of_mem _ hx)⟩)⟩
    · have := congrArg List.length h2
      simp only [List.length_append, List.length_map, List.length_cons] at this
      omega
    · rw [q1, ← h2, List.map_cons, List.append_assoc]
      rfl
  · subst h1
    simp only [List.map_nil, List.append_nil] at h2
    rw [h2]
    exact k
theorem ev_lcMap2 {ι : Type} {xs : List ι} {a b : ι → D} {vs : List Nat} {f : D → W → Option W} {e : M D} (hl : xs.length ≤ big) (h : ∀ x ∈ xs, ∃ w1, f (a x) (w.wipe vs) = some w1 ∧ Ev e w1 fun y w3 => y = b x ∧ w3.wipe vs = w.wipe vs) (k : PR (.own (xs.map b)) (w.wipe vs)) :
    Ev (M.lc vs f (M.ret true) e (xs.map a)) w PR := by
  refine ev_lcL (fun r acc w' => w' = w.wipe vs ∧ ∃ ys zs, xs = ys ++ zs ∧ r = zs.map a ∧ acc = ys.map b) (fun d r acc w' ⟨h1, ys, zs, h2, h3, h4⟩ => ?_) (fun acc w' ⟨h1, ys, zs, h2, h3, h4⟩ => ?_) (xs.map a) [] (w.wipe vs) ⟨rfl, [], xs, rfl, rfl, rfl⟩
  · subst h1
    cases zs with
    | nil => cases h3
    | cons z zs =>
      injection h3 with h5 h6
      subst h5
      obtain ⟨w1, e1, e2⟩ := h z (by rw [h2]; simp)
      refine ⟨w1, e1, ev_ret (e2.imp fun y w3 ⟨q1, q2⟩ => ⟨?_, q2, ys ++ [z], zs, by rw [h2]; simp, h6, by rw [h4, q1]; simp⟩)⟩
      rw [h4, List.length_map]
      have := congrArg List.length h2
      simp only [List.length_append, List.length_cons] at this
      omega
  · subst h1
    have : zs = [] := by
      cases zs with
      | nil => rfl
      | cons z zs => cases h3
    rw [this, List.append_nil] at h2
    rw [h4, ← h2]
    exact k
theorem ev_lcB {mi : M (List D)} {vs : List Nat} {f : D → W → Option W} {t : M Bool} {e : M D} (h : Ev mi w fun items w1 => Ev (M.lc vs f t e items) w1 PR) : Ev (M.lcB mi vs f t e) w PR := ev_bind h
theorem ev_forB {mi : M (List D)} {f : D → W → Option W} {b : M Flow1} (h : Ev mi w fun items w1 => Ev (M.forL f b items) w1 PF) : Ev (M.forB mi f b) w PF := ev_bind h
theorem ev_asgG {f : D → W → Option W} {m : M D} (h : Ev m w fun d w1 => ∃ w2, f d w1 = some w2 ∧ PF .next w2) : Ev (M.asgG f m) w PF := by
  obtain ⟨d, w1, e, w2, e2, q⟩ := h
  exact ⟨_, w2, by unfold M.asgG M.bind M.apG; simp only [e, e2], q⟩
theorem ev_try {xt : Nat → Option Bool} {mb ms : M Flow1} (h : Ev mb w PF) : Ev (M.tryX xt mb ms) w PF := by
  obtain ⟨d, w1, e, q⟩ := h
  exact ⟨d, w1, by unfold M.tryX; simp only [e], q⟩
theorem ex_and {α : Type} {p q : α → Prop} {a : α} (h1 : p a) (h2 : q a) : ∃ x, p x ∧ q x := ⟨a, h1, h2⟩
theorem ev_retR {m : M R} (h : Ev m w fun r w1 => PF (.ret r) w1) : Ev (M.retR m) w PF := ev_bind (h.imp fun _ _ k => ev_ret k)
theorem ev_drop {m : M D} (h : Ev m w fun _ w1 => PF .next w1) : Ev (M.drop m) w PF := ev_bind (h.imp fun _ _ k => ev_ret k)
theorem ev_cons {m : M D} {ms : M (List D)} (h : Ev m w fun d w1 => Ev ms w1 fun ds w2 => PL (d :: ds) w2) : Ev (M.cons m ms) w PL := ev_bind (h.imp fun _ _ k => ev_bind (k.imp fun _ _ k => ev_ret k))
theorem ev_tup {ms : M (List D)} (h : Ev ms w fun ds w1 => ds.length ≤ big ∧ P (.tup ds) w1) : Ev (M.tup ms) w P := ev_bind (h.imp fun _ _ ⟨k1, k2⟩ => ev_lift (by unfold okLen; rw [if_pos k1]; rfl) k2)
theorem ev_lst {ms : M (List D)} (h : Ev ms w fun ds w1 => ds.length ≤ big ∧ PR (.own ds) w1) : Ev (M.lst ms) w PR := ev_bind (h.imp fun _ _ ⟨k1, k2⟩ => ev_lift (by unfold okLen; rw [if_pos k1]; rfl) k2)
theorem ev_b1 {α : Type} {PA : α → W → Prop} {ma : M (List D)} {f : List D → Option α} (h : Ev ma w fun ds w1 => Ev (M.lift (f ds)) w1 PA) : Ev (M.b1 ma f) w PA := ev_bind h
theorem ev_isa {m : M D} {T : Ty} (h : Ev m w fun d w1 => ∃ b, d.isa T = some b ∧ P (.bl b) w1) : Ev (M.isa m T) w P := ev_bind (h.imp fun _ _ ⟨b, k1, k2⟩ => ev_lift (by rw [k1]; rfl) k2)
theorem ev_isa2 {m : M D} {T U : Ty} (h : Ev m w fun d w1 => ∃ z, d.isa2 T U = some z ∧ P z w1) : Ev (M.isa2 m T U) w P := ev_bind (h.imp fun _ _ ⟨b, k1, k2⟩ => ev_lift k1 k2)
theorem ev_tru {m : M D} (h : Ev m w fun d w1 => ∃ b, d = .bl b ∧ PB b w1) : Ev (M.tru m) w PB := ev_bind (h.imp fun _ _ ⟨b, k1, k2⟩ => by subst k1; exact ev_lift rfl k2)
theorem ev_vand {a b : M D} (h : Ev a w fun d w1 => ∃ x, d = .bl x ∧ Ev (cond x b (M.ret (.bl false))) w1 P) : Ev (M.vand a b) w P := ev_bind (ev_tru h)
theorem ev_vor {a b : M D} (h : Ev a w fun d w1 => ∃ x, d = .bl x ∧ Ev (cond x (M.ret (.bl true)) b) w1 P) : Ev (M.vor a b) w P := ev_bind (ev_tru h)
theorem ev_vnot {a : M D} (h : Ev a w fun d w1 => ∃ x, d = .bl x ∧ P (.bl (!x)) w1) : Ev (M.vnot a) w P := ev_map (ev_tru h)
theorem ev_and {a b : M Bool} (h : Ev a w fun x w1 => Ev (cond x b (M.ret false)) w1 PB) : Ev (M.and a b) w PB := ev_bind h
theorem ev_or {a b : M Bool} (h : Ev a w fun x w1 => Ev (cond x (M.ret true) b) w1 PB) : Ev (M.or a b) w PB := ev_bind h
theorem ev_not {a : M Bool} (h : Ev a w fun x w1 => PB (!x) w1) : Ev (M.not a) w PB := ev_map h
theorem ev_ite {α : Type} {PA : α → W → Prop} {t : M Bool} {a b : M α} (h : Ev t w fun x w1 => Ev (cond x a b) w1 PA) : Ev (M.ite t a b) w PA := ev_bind h
theorem ev_cmp {a b : M D} {f : D → D → Option Bool} (h : Ev a w fun x w1 => Ev b w1 fun y w2 => ∃ z, f x y = some z ∧ PB z w2) : Ev (cmpM a b f) w PB := ev_bind2 (h.imp fun _ _ k => k.imp fun _ _ ⟨z, k1, k2⟩ => ev_lift k1 k2)
theorem ev_chain {a b c : M D} {f h : D → D → Option Bool} (k : Ev a w fun x w1 => Ev b w1 fun y w2 => ∃ z, f x y = some z ∧ (z = true → Ev c w2 fun u w3 => ∃ z', h y u = some z' ∧ PB z' w3) ∧ (z = false → PB false w2)) : Ev (chainM a b c f h) w PB :=
  ev_bind2 (k.imp fun _ _ k => k.imp fun _ _ ⟨z, k1, k2, k3⟩ => ev_bind (ev_lift k1 (by
    cases z with
    | true => exact ev_bind ((k2 rfl).imp fun _ _ ⟨z', q1, q2⟩ => ev_lift q1 q2)
    | false => exact ev_ret (k3 rfl))))
theorem ev_condT {α : Type} {PA : α → W → Prop} {x y : M α} (h : Ev x w PA) : Ev (cond true x y) w PA := h
theorem ev_condF {α : Type} {PA : α → W → Prop} {x y : M α} (h : Ev y w PA) : Ev (cond false x y) w PA := h
theorem ev_seqI {m : M D} (h : Ev m w fun d w1 => ∃ ds, seqD d = some ds ∧ PL ds w1) : Ev (M.seqI m) w PL := ev_bind (h.imp fun _ _ ⟨b, k1, k2⟩ => ev_lift k1 k2)
theorem ev_strI {m : M D} (h : Ev m w fun d w1 => ∃ ds, signs d = some ds ∧ PL ds w1) : Ev (M.strI m) w PL := ev_bind (h.imp fun _ _ ⟨b, k1, k2⟩ => ev_lift k1 k2)
theorem ev_neg {m : M D} (h : Ev m w fun d w1 => ∃ z, negF d = some z ∧ P z w1) : Ev (M.neg m) w P := ev_bind (h.imp fun _ _ ⟨b, k1, k2⟩ => ev_lift k1 k2)
theorem ev_lenP {i : Nat} {ds : List D} (e : w.E[i]? = some (.own ds)) (h : P (.int ds.length) w) : Ev (M.lenP i) w P := ev_bind (ev_peek e (ev_ret h))
theorem ev_ixP {i : Nat} {mi : M D} {ds : List D} (e : w.E[i]? = some (.own ds)) (h : Ev mi w fun d w1 => ∃ ds2 z, w1.E[i]? = some (.own ds2) ∧ atD ds2 d = some z ∧ P z w1) : Ev (M.ixP i mi) w P :=
  ev_bind (ev_peek e (ev_bind (h.imp fun _ _ ⟨ds2, z, q1, q2, q3⟩ => ev_bind (ev_peek q1 (ev_lift q2 q3)))))
theorem ev_neP {i : Nat} {mb : M D} {ds : List D} (e : w.E[i]? = some (.own ds)) (h : Ev mb w fun y w1 => ∃ ds2 z, w1.E[i]? = some (.own ds2) ∧ (D.eqPy (.lst ds2) y).map (!·) = some z ∧ PB z w1) : Ev (M.neP i mb) w PB :=
  ev_bind (ev_peek e (ev_bind (h.imp fun _ _ ⟨ds2, z, q1, q2, q3⟩ => ev_bind (ev_peek q1 (ev_lift q2 q3)))))
theorem ev_slc {m : M D} {ml mh : M (Option Int)} (h : Ev m w fun d w1 => Ev ml w1 fun l w2 => Ev mh w2 fun r w3 => Ev (M.slice d l r) w3 PR) : Ev (M.slc m ml mh) w PR := ev_bind (h.imp fun _ _ k => ev_bind (k.imp fun _ _ k => ev_bind k))
theorem ev_optI {m : M D} {PO : Option Int → W → Prop} (h : Ev m w fun d w1 => ∃ i, d = .int i ∧ PO (some i) w1) : Ev (M.optI m) w PO := ev_bind (h.imp fun _ _ ⟨i, k1, k2⟩ => by subst k1; exact ev_lift rfl k2)
theorem ev_sliceL {ds : List D} {l r : Option Int} (h : PR (.own (cutD ds l r)) w) : Ev (M.slice (.lst ds) l r) w PR := ⟨_, w, rfl, h⟩
theorem ev_lenS {s : Str} (c : s.length ≤ big) (h : P (.int s.length) w) : Ev (lenM [.str s]) w P := ⟨_, w, by
  show (if s.length ≤ big then M.ret (D.int s.length) else fun _ => .bad) w = _
  rw [if_pos c]
  rfl, h⟩
theorem ev_lenL {ds : List D} (h : P (.int ds.length) w) : Ev (lenM [.lst ds]) w P := ⟨_, w, rfl, h⟩
theorem ev_lenT {ds : List D} (h : P (.int ds.length) w) : Ev (lenM [.tup ds]) w P := ⟨_, w, rfl, h⟩
theorem ev_lenC {ns : List Int} (h : P (.int (ns.map D.int).length) w) : Ev (lenM [.scr ns]) w P := ⟨_, w, rfl, h⟩
theorem ev_lenR {k : Nat} {ds : List D} (e : w.S k = some (.lst ds)) (h : P (.int ds.length) w) : Ev (lenM [.ref k]) w P := ⟨_, w, by
  show M.bind (M.items (.ref k)) _ w = _
  unfold M.bind M.items
  simp only [e]
  rfl, h⟩
theorem ev_tupT {ds : List D} (h : P (.tup ds) w) : Ev (tupleM [.tup ds]) w P := ⟨_, w, rfl, h⟩
theorem ev_tupL {ds : List D} (h : P (.tup ds) w) : Ev (tupleM [.lst ds]) w P := ⟨_, w, rfl, h⟩
theorem ev_listL {ds : List D} (h : PR (.own ds) w) : Ev (listM [.lst ds]) w PR := ⟨_, w, rfl, h⟩
theorem ev_listT {ds : List D} (h : PR (.own ds) w) : Ev (listM [.tup ds]) w PR := ⟨_, w, rfl, h⟩
theorem ev_listC {ns : List Int} (h : PR (.own (ns.map D.int)) w) : Ev (listM [.scr ns]) w PR := ⟨_, w, rfl, h⟩
theorem ev_join {mo me : M D} (h : Ev mo w fun x w1 => ∃ a, x = .str a ∧ Ev me w1 fun y w2 => Ev (M.items y) w2 fun ds w3 => ∃ z, joinF a ds = some z ∧ P z w3) : Ev (M.join mo me) w P := by
  unfold M.join txt1
  refine ev_bind (h.imp fun x w1 ⟨a, e, k⟩ => ?_)
  subst e
  exact ev_bind (k.imp fun y w2 k2 => ev_bind (k2.imp fun ds w3 ⟨z, q1, q2⟩ => ev_lift q1 q2))
theorem ev_partition {mo me : M D} (h : Ev mo w fun x w1 => ∃ a, x = .str a ∧ Ev me w1 fun y w2 => ∃ z, partF a y = some z ∧ P z w2) : Ev (M.partition mo me) w P := by
  unfold M.partition txt1
  refine ev_bind (h.imp fun x w1 ⟨a, e, k⟩ => ?_)
  subst e
  exact ev_bind (k.imp fun y w2 ⟨z, q1, q2⟩ => ev_lift q1 q2)
theorem ev_split {mo me : M D} (h : Ev mo w fun x w1 => ∃ a, x = .str a ∧ Ev me w1 fun y w2 => ∃ z, splitF a y = some z ∧ PR z w2) : Ev (M.split mo me) w PR := by
  unfold M.split txt1
  refine ev_bind (h.imp fun x w1 ⟨a, e, k⟩ => ?_)
  subst e
  exact ev_bind (k.imp fun y w2 ⟨z, q1, q2⟩ => ev_lift q1 q2)
end
theorem mulOk {i j : Int} (h1 : -(2 ^ 200) < i ∧ i < 2 ^ 200) (h2 : -(2 ^ 200) < j ∧ j < 2 ^ 200) : i.natAbs.log2 + j.natAbs.log2 < 1000000 := by
  have a := log_lt (n := 200) (x := i.natAbs) (by omega)
  have b := log_lt (n := 200) (x := j.natAbs) (by omega)
  omega
end DL

/-! DHot: what is done while an exception is handled: the ends of lists' and tuples' iterators, tuples taken apart. -/
namespace DL
open PySem PySem.Spec PyProof.Rows L2 HotX

section
variable {prog : Program} {w : World} {A : Around} {E : Value → Shared → Prop} {s : Shared} {it x1 : Addr}
/-- the end of an iterator over a list, one exception being handled -/
theorem list_end_hot {l : Addr} {i : Nat} {items : Array Value} {Q : Option Value → Shared → Prop} (hot : HotAt A x1 s.heap) (st : s.heap.IsListIter it l i) (hl : s.heap.IsList l items) (none_ : items[i]? = none)
    (q : ∀ h', Heap.ExtBut it s.heap h' → Q none { s with heap := h' }) : wpAny (model prog w) A (pyNext (.ref it)) Q E s := by
  obtain ⟨hh, o1, vs1, g1, d1, c1⟩ := hot
  obtain ⟨oi, gi, ci, di⟩ := id st
  obtain ⟨ol, gl, _, nl, dl⟩ := hl
  have nx : x1 ≠ it := fun z => by
    subst z
    rw [g1] at gi
    cases gi
    rw [d1] at di
    cases di
    simp at c1
  have ne : ¬ ((Value.ref l == Value.none) = true) := fun z => Bool.noConfusion (show false = true from z)
  unfold pyNext
  refine wpAny_bind (wpAny_attempt (wpAny_callSpecial?_slot (name := Str.ofString "__next__") st.typeIs slot_listiter_next (wpAny_call_entry slot_listiter_next st.typeIs entry_listiter_next ?_ (args_listiter_next _))))
  refine wpAny_bind (m := field (.ref it) 0) (wpAny_field gi di (x := .ref l) rfl ?_)
  show wpAny _ _ (ite ((Value.ref l == Value.none) = true) _ _) _ _ s
  rw [if_neg ne]
  refine wpAny_bind (m := field (.ref it) 1) (wpAny_field gi di (x := .int i 0) rfl ?_)
  refine wpAny_bind (m := seqItems? (.ref l)) (wpAny_seqItems gl dl ?_)
  simp only [Int.toNat_natCast, none_]
  refine wpAny_bind (wpAny_rule (wpAny_bind (wpAny_setField gi di (by simp) ?_)))
  refine wpAny_bind (m := newExc (.type "StopIteration") []) ?_
  simp only [newExc, newTuple]
  refine wpAny_bind (wpAny_newObj_type (wpAny_bind (m := firstArgMember _ _) (wpAny_of_eq (a := Value.none) (by first | rfl | (simp only [firstArgMember]; rfl)) (wpAny_newObj_type ?_ (by size_fits)))) (by size_fits))
  have e1 : (s.heap.update it (Obj.mapFields (·.setIfInBounds 0 .none))).get? x1 = some o1 := by
    rw [Heap.get?_update_other _ _ nx.symm]
    exact g1
  refine raiseNew_hot ⟨hh, o1, vs1, Heap.get?_push_of_some _ (Heap.get?_push_of_some _ e1), d1, c1⟩ (Nat.ne_of_lt (Heap.lt_size (Heap.get?_push_of_some _ e1))) (Heap.get?_push_size _ rfl) rfl (by first | (simp; done) | (simp; omega)) ?_
  refine wpAny_bind (wpAny_isInstance (T := "StopIteration") (b := true) ⟨_, Heap.get?_update_self _ (Heap.get?_push_size _ rfl) rfl, rfl⟩ isSubtype_stop (wpAny_pure (q _ fun b o nb e => ?_)))
  have e2 : (s.heap.update it (Obj.mapFields (·.setIfInBounds 0 .none))).get? b = some o := by
    rw [Heap.get?_update_other _ _ nb.symm]
    exact e
  rw [Heap.get?_update_other _ _ (Nat.ne_of_gt (Heap.lt_size (Heap.get?_push_of_some _ e2)))]
  exact Heap.get?_push_of_some _ (Heap.get?_push_of_some _ e2)
/-- the end of an iterator over a tuple, one exception being handled -/
theorem tuple_end_hot {l : Addr} {i : Nat} {items : Array Value} {Q : Option Value → Shared → Prop} (hot : HotAt A x1 s.heap) (st : IsTupIter s.heap it l i) (hl : IsTup s.heap l items) (none_ : items[i]? = none)
    (q : ∀ h', Heap.ExtBut it s.heap h' → Q none { s with heap := h' }) : wpAny (model prog w) A (pyNext (.ref it)) Q E s := by
  obtain ⟨hh, o1, vs1, g1, d1, c1⟩ := hot
  obtain ⟨oi, gi, ci, di⟩ := id st
  obtain ⟨ol, gl, _, nl, dl⟩ := hl
  have nx : x1 ≠ it := fun z => by
    subst z
    rw [g1] at gi
    cases gi
    rw [d1] at di
    cases di
    simp at c1
  have ne : ¬ ((Value.ref l == Value.none) = true) := fun z => Bool.noConfusion (show false = true from z)
  unfold pyNext
  refine wpAny_bind (wpAny_attempt (wpAny_callSpecial?_slot (name := Str.ofString "__next__") st.typeIs slot_tupleiter_next (wpAny_call_entry slot_tupleiter_next st.typeIs entry_tupleiter_next ?_ (args_tupleiter_next _))))
  refine wpAny_bind (m := field (.ref it) 0) (wpAny_field gi di (x := .ref l) rfl ?_)
  show wpAny _ _ (ite ((Value.ref l == Value.none) = true) _ _) _ _ s
  rw [if_neg ne]
  refine wpAny_bind (m := field (.ref it) 1) (wpAny_field gi di (x := .int i 0) rfl ?_)
  refine wpAny_bind (m := seqItems? (.ref l)) (wpAny_seqItems gl dl ?_)
  simp only [Int.toNat_natCast, none_]
  refine wpAny_bind (wpAny_rule (wpAny_bind (wpAny_setField gi di (by simp) ?_)))
  refine wpAny_bind (m := newExc (.type "StopIteration") []) ?_
  simp only [newExc, newTuple]
  refine wpAny_bind (wpAny_newObj_type (wpAny_bind (m := firstArgMember _ _) (wpAny_of_eq (a := Value.none) (by first | rfl | (simp only [firstArgMember]; rfl)) (wpAny_newObj_type ?_ (by size_fits)))) (by size_fits))
  have e1 : (s.heap.update it (Obj.mapFields (·.setIfInBounds 0 .none))).get? x1 = some o1 := by
    rw [Heap.get?_update_other _ _ nx.symm]
    exact g1
  refine raiseNew_hot ⟨hh, o1, vs1, Heap.get?_push_of_some _ (Heap.get?_push_of_some _ e1), d1, c1⟩ (Nat.ne_of_lt (Heap.lt_size (Heap.get?_push_of_some _ e1))) (Heap.get?_push_size _ rfl) rfl (by first | (simp; done) | (simp; omega)) ?_
  refine wpAny_bind (wpAny_isInstance (T := "StopIteration") (b := true) ⟨_, Heap.get?_update_self _ (Heap.get?_push_size _ rfl) rfl, rfl⟩ isSubtype_stop (wpAny_pure (q _ fun b o nb e => ?_)))
  have e2 : (s.heap.update it (Obj.mapFields (·.setIfInBounds 0 .none))).get? b = some o := by
    rw [Heap.get?_update_other _ _ nb.symm]
    exact e
  rw [Heap.get?_update_other _ _ (Nat.ne_of_gt (Heap.lt_size (Heap.get?_push_of_some _ e2)))]
  exact Heap.get?_push_of_some _ (Heap.get?_push_of_some _ e2)
/-- a tuple taken apart, one exception being handled -/
theorem unpack_hot {t : Addr} {items : Array Value} {targets : List (Bool × (Value → Sem Unit))} {Q : Unit → Shared → Prop} (hot : HotAt A x1 s.heap) (ht : IsTup s.heap t items) (hn : targets.length = items.size) (hstar : targets.findIdx? (·.1) = none)
    (h : ∀ h', Heap.ExtBut s.heap.objs.size s.heap h' → wpAny (model prog w) A (assignInOrder (targets.map (·.2)) items.toList) Q E { s with heap := h' }) : wpAny (model prog w) A (unpack (.ref t) targets) Q E s := by
  have old : t ≠ s.heap.objs.size := by
    obtain ⟨o, e, _⟩ := ht
    exact Nat.ne_of_lt (Heap.lt_size e)
  obtain ⟨hh, o1, vs1, g1, d1, c1⟩ := hot
  have n1 : x1 ≠ s.heap.objs.size := Nat.ne_of_lt (Heap.lt_size g1)
  unfold unpack
  rw [hn, hstar]
  refine wpAny_bind (wpAny_holding ?_)
  unfold unpackItems notIterableAtAll
  refine wpAny_bind (wpAny_bind (wpAny_specialOf ht.typeIs slot_tuple_iter.lookup (wpAny_pure ?_)))
  simp only [Bool.false_eq_true, if_false]
  refine wpAny_bind (wpAny_holding (iter_tuple ht ?_))
  refine wpAny_bind (wpAny_holding (draw_tuple old items.size 0 _ _ ⟨_, Heap.get?_push_size _ rfl, rfl, rfl⟩ (ht.push _) (by omega) fun h1 it1 s1 => ?_))
  have all : List.take items.size (List.drop 0 items.toList) = items.toList := List.take_of_length_le (by simp)
  rw [all, if_neg (by simp)]
  have hot1 : HotAt A x1 h1 := ⟨hh, o1, vs1, s1.extBut x1 o1 n1 (Heap.get?_push_of_some _ g1), d1, c1⟩
  refine wpAny_bind (wpAny_holding (tuple_end_hot (s := { s with heap := h1 }) hot1 it1 ((ht.push _).extBut s1.extBut old) (by simp) fun h2 e2 => ?_))
  simp only [Option.isSome_none, Bool.false_eq_true, if_false]
  exact wpAny_pure (h h2 fun b o hb e => e2 b o hb (s1.extBut b o hb (Heap.get?_push_of_some _ e)))
end
/-- wherever the context's state stands, an exception is handled, its context None -/
def Hx (X : Cx) : Prop := ∀ (pins : List (Addr × Obj)) (σ : L2.St) (H : Hp) (s : Shared), Inv X pins σ H s → ∃ x1, HotAt X.A x1 s.heap
theorem hx_of {X : Cx} (c : L2H.HotC X) : Hx X := fun _ _ _ _ I => c.at I
section
variable {X : Cx} {pos : Pos}
theorem pg_tupH {es : List Expr} {k : Nat} {t : TGs} {n : Nat} (hx : Hx X) (h : PGs X es t) (hn : (assignEach es X.env).length = n := by rfl) (hst : (assignEach es X.env).findIdx? (·.1) = none := by rfl) : PG X (.Tuple es k pos) (gTup X.K n t) := by
  refine ⟨fun pins s σ H v u Q I r q => ?_⟩
  obtain ⟨a, xs, rfl, q1, q2, q3⟩ := q
  cases r
  obtain ⟨x1, hot⟩ := hx _ _ _ _ I
  obtain ⟨its, rv, ht, _⟩ := I.tuple q1
  rw [assign_Tuple]
  refine wpAny_bind (wpAny_standAt (unpack_hot hot ht (by simp [hn, ← q2, rv.length]) hst fun h' e => ?_))
  have I1 : Inv X pins σ H { s with heap := h' } := I.kept (t' := s.toks) fun b o ob => e b o (Nat.ne_of_lt (Heap.lt_size ob)) ob
  exact h.run pins _ σ H xs _ Q I1 (by simpa using rv) q3
end
/-- the same, and that exception stands out of the reach of what is tracked -/
def Hz (X : Cx) : Prop := ∀ (pins : List (Addr × Obj)) (σ : L2.St) (H : Hp) (s : Shared), Inv X pins σ H s → ∃ x1, HotAt X.A x1 s.heap ∧ H x1 = none ∧ x1 ∉ frs X.stack
theorem hz_of {X : Cx} (c : L2H.HotC X) : Hz X := fun pins σ H s I => by
  obtain ⟨p, ⟨hh, vs, d, c2⟩, hp⟩ := c
  have q := I.pin p (List.mem_append_left _ hp)
  exact ⟨p.1, ⟨hh, p.2, vs, q.1, d, c2⟩, q.2.1, fun hm => (List.mem_cons.mp (I.stkSub p.1 hm)).elim q.2.2.1 q.2.2.2.1⟩
theorem Hz.x {X : Cx} (h : Hz X) : Hx X := fun pins σ H s I => by
  obtain ⟨x1, q, _⟩ := h pins σ H s I
  exact ⟨x1, q⟩
/-- one turn of a walk over the list a, one exception being handled: an item -/
theorem list_item_hx {X : Cx} {pins : List (Addr × Obj)} {s : Shared} {σ : L2.St} {H : Hp} {E : Value → Shared → Prop} {tg : Expr} {a it : Addr} {i : Nat} {xs : List V} {x : V} (I : Inv X pins σ H s) (f : FpOk X pins H it) (st : s.heap.IsListIter it a i) (hq : SqL X.K H a xs) (hx : xs[i]? = some x) :
    wpAny (model X.prog X.w) X.A (pyNext (.ref it)) (fun r s1 => ∃ u, r = some u ∧ wpAny (model X.prog X.w) X.A (letOwnedTupleGo tg (.ref it) u) (fun _ s2 => Inv X pins σ H s2 ∧ RelV x u ∧ s2.heap.IsListIter it a (i + 1)) E s1) E s := by
  obtain ⟨its, rv, p, _⟩ := I.list hq
  obtain ⟨u, hu, ru⟩ := rv.get hx
  obtain ⟨f0, f1, f2, f3, f4, f5⟩ := f
  refine wpAny_pyNext_list_item st p.isList (x := u) (by simpa using hu) fun h' st' sb => ?_
  have I1 : Inv X pins σ H { s with heap := h' } := I.turned (t' := s.toks) (fun b o hb e => (sb.2 b hb).trans e) f0 f1 f3 f4 f5
  obtain ⟨o, e, c, d⟩ := id st'
  exact ⟨u, rfl, go_of (s := { s with heap := h' }) e c d (by decide) ⟨I1, ru, st'⟩⟩
/-- .. the end -/
theorem list_stop_hx {X : Cx} (hx : Hx X) {pins : List (Addr × Obj)} {s : Shared} {σ : L2.St} {H : Hp} {E : Value → Shared → Prop} {a it : Addr} {i : Nat} {xs : List V} (I : Inv X pins σ H s) (f : FpOk X pins H it) (st : s.heap.IsListIter it a i) (hq : SqL X.K H a xs) (hl : xs.length ≤ i) :
    wpAny (model X.prog X.w) X.A (pyNext (.ref it)) (fun r s1 => r = none ∧ Inv X pins σ H s1) E s := by
  obtain ⟨x1, hot⟩ := hx _ _ _ _ I
  obtain ⟨its, rv, p, _⟩ := I.list hq
  obtain ⟨f0, f1, f2, f3, f4, f5⟩ := f
  have l2 := rv.length
  exact list_end_hot hot st p.isList (by simp; omega) fun h' eb => ⟨rfl, I.turned (t' := s.toks) (fun b o hb e => eb b o hb e) f0 f1 f3 f4 f5⟩
end DL

/-! DHot2: a list comprehension over a list while an exception is handled. -/
namespace DL
open PySem PySem.Spec PyProof.Rows L2 HotX

/-- the block's context bears the handled exception too -/
theorem hx_blk {X : Cx} (hz : Hz X) {pins : List (Addr × Obj)} {σ : L2.St} {H : Hp} {s : Shared} (I : Inv X pins σ H s) {it a : Addr} {i : Nat} (st : s.heap.IsListIter it a i) {scope : Scope} {ce : Env} : Hx (X.blk s H scope ce [it]) := by
  intro pins' σ' H' s' I'
  obtain ⟨x1, ⟨hh, o1, vs1, g1, d1, c1⟩, n1, f1⟩ := hz pins σ H s I
  have nx : x1 ≠ it := fun z => by
    subst z
    obtain ⟨oi, gi, ci, di⟩ := id st
    rw [g1] at gi
    cases gi
    rw [d1] at di
    cases di
    simp at c1
  have b : s'.heap.get? x1 = some o1 := I'.base.keep x1 o1 g1 n1 f1 (by
    intro m
    exact nx (by simpa using m))
  exact ⟨x1, hh, o1, vs1, b, d1, c1⟩
def iSeqL (K : PySem.W.Frag) (tl : TE) : TI := fun σ H R => tl σ H fun x H1 => ∃ a, x = .ref a ∧ (∃ xs, SqL K H1 a xs) ∧ R (Itl K a) H1
section
variable {X : Cx}
theorem lc_coreZ {pins : List (Addr × Obj)} {s : Shared} {σ : L2.St} {H : Hp} {Q : VK} {elt tg iter : Expr} {ifs : List Expr} {scope : Scope} {own : List (Str × Nat)} {pos pos' : Pos} {tl : TE} {g : TG} {tt : TT} {te : TE} {use : Option (Value → Sem Unit)} {Qf : Value → Shared → Prop}
    (hz : Hz X) (hN : X.N.Nodup) (I : Inv X pins σ H s) (hi : PE X iter tl) (ok : BlkOk X.N X.env.scope scope own)
    (hg : ∀ (s : Shared) (H : Hp) (C : Addr) (cl : List (Str × Addr)) (fp : List Addr), Hx (X.blk s H scope (compEnvC scope cl C X.env) fp) → PG (X.blk s H scope (compEnvC scope cl C X.env) fp) tg g) (ht : ∀ (s : Shared) (H : Hp) (C : Addr) (cl : List (Str × Addr)) (fp : List Addr), PTs (X.blk s H scope (compEnvC scope cl C X.env) fp) ifs tt)
    (he : ∀ (s : Shared) (H : Hp) (C : Addr) (cl : List (Str × Addr)) (fp : List Addr), PE (X.blk s H scope (compEnvC scope cl C X.env) fp) elt te) (hs : ∀ x, foldedSetIterable iter X.env x = pure x)
    (h : tLc (iSeqL X.K tl) g tt te (own.map (·.2)) σ H Q)
    (hRR : ∀ D C s' m H', Inv X pins σ H' s' → Q (.ref D) H' → s'.heap.Ns C m → FpOk X pins H' C → compPost (model X.prog X.w) X.A X.xe use Qf (.ref D) C (.ok .next) s') :
    wpAny (model X.prog X.w) X.A (comprehension (.ListComp elt [⟨tg, iter, ifs, 0⟩] scope pos) scope X.env pos' (newList []) false (eval iter X.env) use) Qf X.xe s := by
  have hfree : ∀ y ∈ scope.names, y.2 = .free → ∃ c, X.env.cells.lookup y.1 = some c := fun y hy e => by
    rcases ok.free y hy e with k | k
    · exact I.ok.has _ (.inl k)
    · exact I.ok.has _ (.inr k)
  refine wpAny_comprehension_free (use := use) rfl hs (closure_ok hfree) ok.kind (fun y hy e => by rw [ok.uniq y hy, e])
    (thn (hi.run pins s σ H _ I h) fun xv s1 hx => ?_)
  obtain ⟨xv1, H2, I1, rx, a, rfl, ⟨xs0, hq0⟩, q⟩ := hx
  cases rx
  obtain ⟨its0, rv0, p0, hz0⟩ := I1.list hq0
  refine wpAny_pyIter_list p0.isList ?_
  generalize hit : s1.heap.objs.size = it
  have fr0 : FpOk X pins H2 it := by rw [← hit]; exact I1.fpOk (Nat.le_refl _) (I1.hok.fresh (Nat.le_refl _))
  generalize hs2 : ({ s1 with heap := s1.heap.push _ } : Shared) = s2
  have st2 : s2.heap.IsListIter it a 0 := by rw [← hs2, ← hit]; exact ⟨_, Heap.get?_push_size _ rfl, rfl, rfl⟩
  have I2 : Inv X pins σ H2 s2 := by rw [← hs2]; exact I1.kept (t' := s1.toks) fun b o e => Heap.get?_push_of_some _ e
  refine wpAny_newObj_type (newEnv_comp ?_) (by show 0 ≤ sizeLine; decide)
  generalize hD : s2.heap.objs.size = D
  have hDn : H2 D = none := I2.hok.fresh (Nat.le_of_eq hD)
  obtain ⟨W, ⟨m0, w0⟩, turn⟩ := q D hDn
  generalize hs3 : ({ s2 with heap := s2.heap.push { cls := .type "list", data := .seq ([] : List Value).toArray } } : Shared) = s3
  have I3 : Inv X pins σ (upd H2 D (.lst [])) s3 := by
    rw [← hs3]
    refine I2.laid (t' := s2.toks) (fun b o e => Heap.get?_push_of_some _ e) (Nat.le_of_eq hD) ⟨Nat.zero_le _, [], 0, .nil, ?_⟩
    rw [← hD]
    exact Heap.get?_push_size _ rfl
  have h3 : s3.heap = s2.heap.push { cls := .type "list", data := .seq ([] : List Value).toArray } := by rw [← hs3]
  have itlt : it < s2.heap.objs.size := by
    obtain ⟨o, e, _⟩ := id st2
    exact Heap.lt_size e
  have f3 : ∀ b ∈ [it], FpOk X pins (upd H2 D (.lst [])) b ∧ b < s3.heap.objs.size := fun b hb => by
    have eb : b = it := by simpa using hb
    subst eb
    refine ⟨⟨?_, fr0.2⟩, by rw [h3, Heap.size_push]; exact Nat.lt_succ_of_lt itlt⟩
    rw [upd_ne (by rw [← hD]; exact Nat.ne_of_lt itlt)]
    exact fr0.1
  have st3 : s3.heap.IsListIter it a 0 := st2.at fun o e => by rw [h3]; exact Heap.get?_push_of_some _ e
  have I4 := block_start I3 ok hN f3
  have hxb := fun ce => hx_blk (scope := scope) (ce := ce) hz I3 st3
  have pg := hg s3 (upd H2 D (.lst [])) s3.heap.objs.size (cellsFrom (s3.heap.objs.size + 1) scope.names (cloFrom X.env.cells scope.names [])) [it] (hxb _)
  have pt := ht s3 (upd H2 D (.lst [])) s3.heap.objs.size (cellsFrom (s3.heap.objs.size + 1) scope.names (cloFrom X.env.cells scope.names [])) [it]
  have pe := he s3 (upd H2 D (.lst [])) s3.heap.objs.size (cellsFrom (s3.heap.objs.size + 1) scope.names (cloFrom X.env.cells scope.names [])) [it]
  show codeAny _ _ (.compStart (.ListComp elt [⟨tg, iter, ifs, 0⟩] scope pos) 0 (.ref it) (.ref D) (compEnvC scope (cellsFrom (s3.heap.objs.size + 1) scope.names (cloFrom X.env.cells scope.names [])) s3.heap.objs.size X.env)) (compPost (model X.prog X.w) X.A X.xe use Qf (.ref D) s3.heap.objs.size) { s3 with heap := pushCells (s3.heap.push { cls := .type "dict", data := .dict #[] }) scope.names }
  have nfp : (upd H2 D (.lst [])) it = none := (f3 it (by simp)).1.1
  generalize hce : compEnvC scope (cellsFrom (s3.heap.objs.size + 1) scope.names (cloFrom X.env.cells scope.names [])) s3.heap.objs.size X.env = ce at I4 pg pt pe ⊢
  have cL : ce.locals = s3.heap.objs.size := by subst hce; rfl
  have hxc := hxb ce
  generalize hH3 : upd H2 D (.lst []) = H3 at I3 I4 pg pt pe w0 nfp f3 hxc
  generalize hs4 : ({ s3 with heap := pushCells (s3.heap.push { cls := .type "dict", data := .dict #[] }) scope.names } : Shared) = s4 at I4 ⊢
  have st4 : s4.heap.IsListIter it a 0 := st3.at fun o e => by rw [← hs4]; exact pushCells_keeps _ _ _ _ (Heap.get?_push_of_some _ e)
  have stat : ∀ {σ' : L2.St} {H' : Hp} {s' : Shared}, Inv (X.blk s3 H3 scope ce [it]) [] σ' H' s' → H' it = none → FpOk (X.blk s3 H3 scope ce [it]) [] H' it := fun {σ' H' s'} I' hn =>
    ⟨hn, (I'.ok.exf it (by simp)).1, I'.ok.exfs it (by simp), .inl (by simp), fun x c e => (I'.ok.exf it (by simp)).2 x c e, fun p hp => absurd (show p ∈ ([] : List (Addr × Obj)) ++ [] from hp) (by simp)⟩
  have objIt : ∀ {i : Nat} {hh : Heap}, hh.IsListIter it a i → ∀ b ∈ [it], ∃ o, hh.get? b = some o ∧ ∀ v, o.data ≠ .cell v := fun {i hh} st b hb => by
    have e : b = it := by simpa using hb
    subst e
    obtain ⟨o, e, c, d⟩ := st
    exact ⟨o, e, fun v z => by rw [d] at z; cases z⟩
  have loop : codeAny (model X.prog X.w) X.A (.compLoop (.ListComp elt [⟨tg, iter, ifs, 0⟩] scope pos) 0 (.ref it) (.ref D) ce) (compPost (model X.prog X.w) X.A X.xe use Qf (.ref D) s3.heap.objs.size) s4 := by
    refine compLoop_any (fun n s' => ∃ i H', Inv (X.blk s3 H3 scope ce [it]) [] (L2.wipe σ (own.map (·.2))) H' s' ∧ s'.heap.IsListIter it a i ∧ H' it = none ∧ W i n H') ?_ m0 ⟨0, H3, I4, st4, nfp, w0⟩
    rintro n s5 ⟨i, H5, I5, st5, n5, w5⟩
    rcases turn i n H5 w5 with ⟨⟨xs, hq, hl⟩, qq⟩ | ⟨⟨xs, x, hq, hx⟩, Nx, hNx, step⟩
    · refine thnF (list_stop_hx (E := fun _ _ => False) hxc I5 (stat I5 n5) st5 hq hl) fun r s6 ⟨hr, I6⟩ => ?_
      subst hr
      have I7 : Inv X pins σ H5 s6 := I3.call' (ch := [it]) I6.os I6.base I6.hok I6.bare fun b hb => ⟨(f3 b hb).1.2.2.2.1, (f3 b hb).1.2.1, (f3 b hb).1.2.2.2.2.1, (f3 b hb).1.2.2.2.2.2⟩
      have nC : H5 s3.heap.objs.size = none := by
        have z : H5 ce.locals = none := I6.free
        rw [cL] at z
        exact z
      obtain ⟨m, hn, _⟩ := I6.loc
      have hn : s6.heap.Ns ce.locals m := hn
      rw [cL] at hn
      exact hRR D s3.heap.objs.size s6 m H5 I7 qq hn (I3.fpOk (Nat.le_refl _) nC)
    · refine thnF (list_item_hx (X := X.blk s3 H3 scope ce [it]) (E := fun _ _ => False) (tg := tg) I5 (stat I5 n5) st5 hq hx) fun r s6 ⟨u, hr, h6⟩ => ?_
      subst hr
      refine thnF h6 fun _ s7 ⟨I7, r7, st7⟩ => ?_
      have I7' := I7.pinned (fp := [it]) (fun b hb => by
        have eb : b = it := by simpa using hb
        subst eb
        exact stat I7 n5) (objIt st7)
      have y7 : (Itl X.K a).yld i H5 x H5 := ⟨rfl, fun ys hy => by rw [I5.list_inj hy hq]; exact hx⟩
      refine thnF (pg.run _ s7 _ H5 x u _ I7' r7 (step x H5 y7)) fun _ s8 ⟨σ8, H8, I8, hw8, q8⟩ => ?_
      refine thnF (pt.run _ s8 σ8 H8 _ I8 q8) fun b s9 ⟨H9, I9, q9⟩ => ?_
      have fin : ∀ {s' : Shared} {H' : Hp}, Inv (X.blk s3 H3 scope ce [it]) ([] ++ pinsAt [it] s7.heap) σ8 H' s' → Nx H' → ∃ m, m < n ∧ ∃ i H', Inv (X.blk s3 H3 scope ce [it]) [] (L2.wipe σ (own.map (·.2))) H' s' ∧ s'.heap.IsListIter it a i ∧ H' it = none ∧ W i m H' := fun {s' H'} I' nx => by
        obtain ⟨m', hm, w'⟩ := hNx H' nx
        have pin' : ∀ b ∈ [it], ∀ o, s7.heap.get? b = some o → s'.heap.get? b = some o ∧ H' b = none := fun b hb o e =>
          let z := I'.pin (b, o) (List.mem_append_right _ (List.mem_append_right _ (mem_pinsAt hb e)))
          ⟨z.1, z.2.1⟩
        have hl : (L2.wipe σ (own.map (·.2))).length = σ8.length := by rw [← hw8, wipe_length]
        refine ⟨m', hm, i + 1, H', (I'.unpinned (pins := [])).weak hl (fun j v e => ?_), st7.at fun o e => (pin' it (by simp) o e).1, ?_, w'⟩
        · rw [← hw8] at e
          exact (wipe_some e).1
        · obtain ⟨o, e, _⟩ := objIt st7 it (by simp)
          exact (pin' it (by simp) o e).2
      cases b with
      | false =>
        simp only [Bool.false_eq_true, if_false] at q9 ⊢
        exact fin I9 q9
      | true =>
        simp only [if_true] at q9 ⊢
        refine thnF (pe.run _ s9 σ8 H9 _ I9 q9) fun z s10 ⟨yv, H10, I10, r10, acc, hD10, hz10, nx⟩ => ?_
        exact app_ok (X := X.blk s3 H3 scope ce [it]) I10 hD10 hz10 r10 fun s11 I11 => fin I11 nx
  exact codeAny_compStart_list loop (wpAny_pyIter_listiter st4 loop)
end
end DL

/-! DHot3: a comprehension's store, a def called within an except suite with the caught exception, isinstance of that one, try .. except X as n: y = f(n). -/
namespace DL
open PySem PySem.Spec PyProof.Rows L2 HotX Evl

section
variable {X : Cx}
theorem ps_setLcZ {i : Nat} {y : Str} {py : Pos} {elt tg iter : Expr} {ifs : List Expr} {scope : Scope} {own : List (Str × Nat)} {pos spos : Pos} {tl : TE} {g : TG} {tt : TT} {te : TE} (hz : Hz X) (hN : X.N.Nodup) (hy : X.N[i]? = some y) (hyl : X.env.scope.names.lookup y = some .local)
    (hsw : swapsWith (.ListComp elt [⟨tg, iter, ifs, 0⟩] scope pos) (some (.Name y py)) spos.line X.env = pure true) (hi : PE X iter tl) (ok : BlkOk X.N X.env.scope scope own)
    (hg : ∀ (s : Shared) (H : Hp) (C : Addr) (cl : List (Str × Addr)) (fp : List Addr), Hx (X.blk s H scope (compEnvC scope cl C X.env) fp) → PG (X.blk s H scope (compEnvC scope cl C X.env) fp) tg g) (ht : ∀ (s : Shared) (H : Hp) (C : Addr) (cl : List (Str × Addr)) (fp : List Addr), PTs (X.blk s H scope (compEnvC scope cl C X.env) fp) ifs tt)
    (he : ∀ (s : Shared) (H : Hp) (C : Addr) (cl : List (Str × Addr)) (fp : List Addr), PE (X.blk s H scope (compEnvC scope cl C X.env) fp) elt te) (hs : ∀ x, foldedSetIterable iter X.env x = pure x := by intro _; rfl) :
    PS X (.Assign [.Name y py] (.ListComp elt [⟨tg, iter, ifs, 0⟩] scope pos) spos) (tAsg (tLc (iSeqL X.K tl) g tt te (own.map (·.2))) (gName i)) := by
  refine ⟨fun pins s σ H D I h => ?_⟩
  rw [exec_Assign_Name_used _ _ _ _ hsw]
  refine wpAny_bind (wpAny_standAt (wpAny_bind ?_))
  show wpAny _ X.A (do let _ ← comprehension (.ListComp elt [⟨tg, iter, ifs, 0⟩] scope pos) scope X.env (firstIterPos [⟨tg, iter, ifs, 0⟩] pos) (newList []) false (eval iter X.env) (some (assign (.Name y py) X.env))) _ _ s
  have h : tLc (iSeqL X.K tl) g tt te (own.map (·.2)) σ H (fun x H1 => gName i x σ H1 D.nx) := h
  refine wpAny_bind (thn (lc_coreZ (Qf := fun _ s' => SP X pins D .next s') hz hN I hi ok hg ht he hs h fun L C s' m H' I' q hn f => ?_) fun _ s' hq => wpAny_pure (wpAny_pure hq))
  show wpAny _ _ (assign (.Name y py) X.env (.ref L)) _ _ _
  refine wpAny_assign_Name (store_ok2 (v := V.ref L) I' hN hy (.inl hyl) rfl (fun s2 I2 ⟨a, sb, ha⟩ => ?_) (.inr hyl))
  obtain ⟨f0, f1, f2, f3, f4, f5⟩ := f
  have haC : C ≠ a := by
    rcases ha with z | z
    · rw [z]; exact f1
    · exact fun e => f4 y a z e.symm
  refine ⟨m, hn.sameBut sb haC, fun h3 sb3 => ?_⟩
  exact ⟨_, H', I2.turned (t' := s2.toks) (fun b o hb e => (sb3.2 b hb).trans e) f0 f1 f3 f4 f5, q⟩
variable {cm : Nat → Addr} {xw : WX}
theorem dg_tupZ {es : List Expr} {ks : List Nat} {k : Nat} {n : Nat} {pos : Pos} {h : List D → W → Option W} (hx : Hx X) (hs : DGs cm X es ks h) (hn : (assignEach es X.env).length = n := by rfl) (hst : (assignEach es X.env).findIdx? (·.1) = none := by rfl) : DG cm X (.Tuple es k pos) ks (gTp n h) := by
  obtain ⟨t, p, o⟩ := hs
  refine ⟨_, pg_tupH hx p hn hst, fun g w σ H v d Q r q k => ?_⟩
  cases q with
  | tup h1 h2 =>
    rename_i a vs ds
    have k' : UPost X.K cm ks g w σ H Q (if ds.length = n then h ds w else none) := k
    split at k'
    · rename_i hl
      exact ⟨a, vs, rfl, ex_t r.ex h1, h2.length.trans hl, o g w σ H vs ds Q r h2 k'⟩
    · exact k'.elim
  | _ => exact k.elim
theorem ds_setLcZ {elt tg iter : Expr} {ifs : List Expr} {scope : Scope} {own : List (Str × Nat)} {pos spos : Pos} {mi : M D} {f : D → W → Option W} {ks : List Nat} {mt : M Bool} {me : M D} {i : Nat} {y : Str} {py : Pos} (hz : Hz X) (hN : X.N.Nodup) (hy : X.N[i]? = some y) (hyl : X.env.scope.names.lookup y = some .local)
    (hsw : swapsWith (.ListComp elt [⟨tg, iter, ifs, 0⟩] scope pos) (some (.Name y py)) spos.line X.env = pure true) (hi : DV cm X xw iter mi) (ok : BlkOk X.N X.env.scope scope own)
    (hg : ∀ (s : Shared) (H : Hp) (C : Addr) (cl : List (Str × Addr)) (fp : List Addr), Hx (X.blk s H scope (compEnvC scope cl C X.env) fp) → DG cm (X.blk s H scope (compEnvC scope cl C X.env) fp) tg ks f)
    (ht : ∀ (s : Shared) (H : Hp) (C : Addr) (cl : List (Str × Addr)) (fp : List Addr), DTs cm (X.blk s H scope (compEnvC scope cl C X.env) fp) xF ifs mt)
    (he : ∀ (s : Shared) (H : Hp) (C : Addr) (cl : List (Str × Addr)) (fp : List Addr), DV cm (X.blk s H scope (compEnvC scope cl C X.env) fp) xF elt me)
    (hk : (ks.all fun j => (own.map (·.2)).contains j) = true := by decide) (hs : ∀ x, foldedSetIterable iter X.env x = pure x := by intro _; rfl) :
    DS cm X xw (.Assign [.Name y py] (.ListComp elt [⟨tg, iter, ifs, 0⟩] scope pos) spos) (M.asg i (M.lcB (M.bind mi fun d => M.lift (listD d)) (own.map (·.2)) f mt me)) := by
  obtain ⟨wi, pi, oi⟩ := hi
  refine ⟨_, ps_setLcZ hz hN hy hyl hsw pi ok (fun s H C cl fp hx => (hg s H C cl fp hx).canon) (fun s H C cl fp => (ht s H C cl fp).run) (fun s H C cl fp => (he s H C cl fp).canon) hs, sok_asg (lc_ok (fun g w σ H R r k => ?_) fun j hj => by simpa using List.all_eq_true.mp hk j hj)⟩
  refine oi g w σ H _ r (GPost.imp (fun g1 w1 H1 d r1 s1 k1 v q => ?_) (GPost.bind k))
  obtain ⟨z, e1, k2⟩ := GPost.lift k1
  have k3 := GPost.here r1 k2
  obtain ⟨a, vs, rfl, h1, h2⟩ := listD_ok q e1
  exact ⟨a, rfl, ⟨_, ex_l r1.ex h1⟩, k3 _ (itl_ok h1 h2)⟩

/-! ### isinstance of the exception that the context bears -/
def excCB (K : PySem.W.Frag) (D : Addr) : Bool := decide (PySem.W.findIn K (.ref D) "__getattribute__" = some (some (.builtin "BaseException.__getattribute__"))) && (decide (PySem.W.findIn K (.ref D) "__getattr__" = some none) && (decide (PySem.W.subIn K (.ref D) (.type "BaseException") = some true) && (PySem.W.hasDictIn K D &&
  (decide (PySem.W.findIn K (.ref D) "__class__" = some (some (.builtin "object.__class__"))) && (decide (PySem.W.specialIn K (.builtin "object.__class__") "__get__" = some (some (.builtin "getset_descriptor.__get__"))) && (decide (PySem.W.takesIn K (.builtin "object.__class__") = some true) && decide (PySem.W.mroIn K D (.type "object") = some true)))))))
theorem excCB_ok {K : PySem.W.Frag} {D : Addr} (h : excCB K D = true) : ExcC K D := by
  obtain ⟨h1, h⟩ := Bool.and_eq_true_iff.mp h
  obtain ⟨h2, h⟩ := Bool.and_eq_true_iff.mp h
  obtain ⟨h3, h⟩ := Bool.and_eq_true_iff.mp h
  obtain ⟨h4, h⟩ := Bool.and_eq_true_iff.mp h
  obtain ⟨h5, h⟩ := Bool.and_eq_true_iff.mp h
  obtain ⟨h6, h⟩ := Bool.and_eq_true_iff.mp h
  obtain ⟨h7, h8⟩ := Bool.and_eq_true_iff.mp h
  exact ⟨of_decide_eq_true h1, of_decide_eq_true h2, of_decide_eq_true h3, h4, of_decide_eq_true h5, of_decide_eq_true h6, of_decide_eq_true h7, of_decide_eq_true h8⟩
def rIsET (K : PySem.W.Frag) (D a : Addr) : List V → Hp → VK → Prop := fun xs H Q => ∃ (tp : Addr) (cs : List V) (us : List Value) (b : Bool), xs = [.ref a, .ref tp] ∧ H tp = some (.tup cs) ∧ Paired ClsV cs us ∧ PySem.W.kitAny K (.ref D) us = some b ∧ Q (.bl b) H
def rIsEO (K : PySem.W.Frag) (D a : Addr) : List V → Hp → VK → Prop := fun xs H Q => ∃ (c : V) (cv : Value) (b : Bool), xs = [.ref a, c] ∧ ClsV c cv ∧ PySem.W.kitOne K (.ref D) cv = some b ∧ Q (.bl b) H
theorem call_isEO {a D : Addr} {oe : Obj} (hp : (a, oe) ∈ X.pn) (C : ExcC X.K D) (hz : Zc (.ref D) none oe) (hf : ∃ vs, oe.data = .fields vs) : CallR X (.builtin "isinstance") (rIsEO X.K D a) := by
  intro pins s σ H xs us Q I r h
  obtain ⟨c, cv, b, rfl, hcv, e, q⟩ := h
  cases r with
  | cons rx rr =>
    cases rr with
    | cons rt rr =>
      cases rr
      cases rx
      have ec := hcv.eq rt
      subst ec
      obtain ⟨hget, _⟩ := I.pin (a, oe) (List.mem_append_left _ hp)
      obtain ⟨vs, hv⟩ := hf
      have J : PySem.W.InstAt s.heap a oe D none := by
        obtain ⟨oc, od, oda, osl⟩ := oe
        obtain ⟨h1, h2⟩ := hz
        dsimp only at h1 h2 hv
        subst h1 h2 hv
        exact ⟨hget, rfl, rfl, trivial⟩
      exact PySem.W.kia_one (PySem.W.handS_kitx_exc C.hg C.hk C.hs C.hd C.ha C.hn C.ht C.hm) I.kIn J e (fun z => nomatch z) fun tk => ⟨.bl b, H, I.kept (t' := tk) fun _ _ z => z, rfl, q⟩
theorem call_isET {a D : Addr} {oe : Obj} (hp : (a, oe) ∈ X.pn) (C : ExcC X.K D) (hz : Zc (.ref D) none oe) (hf : ∃ vs, oe.data = .fields vs) : CallR X (.builtin "isinstance") (rIsET X.K D a) := by
  intro pins s σ H xs us Q I r h
  obtain ⟨tp, cs, ws, b, rfl, hT, k, e, q⟩ := h
  cases r with
  | cons rx rr =>
    cases rr with
    | cons rt rr =>
      cases rr
      cases rx
      cases rt
      obtain ⟨_, its, rv, o, h1, h2, n, h3⟩ := (show ObjOk X.prog X.w H s.heap tp (.tup cs) from I.hok tp _ hT)
      have e3 := ClsV.all k rv
      subst e3
      obtain ⟨hget, _⟩ := I.pin (a, oe) (List.mem_append_left _ hp)
      obtain ⟨vs, hv⟩ := hf
      have J : PySem.W.InstAt s.heap a oe D none := by
        obtain ⟨oc, od, oda, osl⟩ := oe
        obtain ⟨h1, h2⟩ := hz
        dsimp only at h1 h2 hv
        subst h1 h2 hv
        exact ⟨hget, rfl, rfl, trivial⟩
      obtain ⟨oc, od, dt, sl⟩ := o
      simp only at h2 h3
      subst h2 h3
      exact PySem.W.kia_tup (PySem.W.handS_kitx_exc C.hg C.hk C.hs C.hd C.ha C.hn C.ht C.hm) I.kIn J h1 e (fun z => nomatch z) fun tk => ⟨.bl b, H, I.kept (t' := tk) fun _ _ z => z, rfl, q⟩
end
namespace M
/-- isinstance of the exception at a, whose answer is known -/
def isXF (a : Addr) (o : Option Bool) (d : D) : M D := match d, o with
  | .raw b, some x => if b = a then M.ret (.bl x) else fun _ => .bad
  | _, _ => fun _ => .bad
def isX (m : M D) (a : Addr) (o : Option Bool) : M D := M.bind m (isXF a o)
end M
section
variable {cm : Nat → Addr} {X : Cx} {xw : WX} {x y : Str} {p p1 p2 pos : Pos} {e : Expr} {m : M D} {a D : Addr} {oe : Obj} {o : Option Bool}
theorem isX_ok {g : Wd} {w : W} {σ : L2.St} {H : Hp} {Q : VK} {d : DL.D} {v : V} (r : Rel X.K cm g w σ H) (q : Rep X.K g v d) (k : GPost X.K cm xw g w σ H (PV X.K Q) (M.isXF a o d w)) : ∃ b, o = some b ∧ v = .ref a ∧ GPost X.K cm xw g w σ H (PV X.K Q) (.ok (.bl b) w) := by
  cases q with
  | raw b =>
    cases o with
    | none => exact k.elim
    | some z =>
      unfold M.isXF at k
      simp only at k
      split at k
      · rename_i h
        subst h
        exact ⟨z, rfl, rfl, k⟩
      · exact k.elim
  | _ => cases o <;> exact k.elim
theorem dv_isXO {c : V} {cv : Value} {ce : Expr} (hp : (a, oe) ∈ X.pn) (C : ExcC X.K D) (hz : Zc (.ref D) none oe) (hf : ∃ vs, oe.data = .fields vs) (hk : ∀ b, o = some b → PySem.W.kitOne X.K (.ref D) cv = some b) (hg : Gl X x) (hm : X.mg x = none) (hv : bootBuiltins x = some (.builtin "isinstance")) (he : DV cm X xw e m)
    (hce : PE X ce (tC c)) (hcv : ClsV c cv) (hn : x ≠ "__name__" := by decide) (hdb : (x == ("__debug__" : Str)) = false := by decide)
    (hst : starEach [e, ce] X.env = (false, eval e X.env) :: starEach [ce] X.env := by rfl) (hst2 : starEach [ce] X.env = (false, eval ce X.env) :: starEach [] X.env := by rfl) (hpl : (backTo pos (starEach [ce] X.env)).any (·.1) = false := by rfl) :
    DV cm X xw (.Call (.Name x p) [e, ce] [] pos) (M.isX m a o) := by
  obtain ⟨t, pe, oo⟩ := he
  refine ⟨_, pe_callB (call_isEO hp C hz hf) hg hm hv (pa_cons pe (pa_cons hce pa_nil hst2) hst) hn hdb hst hpl, fun g w σ H Q r k => ?_⟩
  refine oo g w σ H _ r (GPost.imp (fun g1 w1 H1 d r1 s1 k1 v q => ?_) (GPost.bind k))
  obtain ⟨b, eo, rfl, k2⟩ := isX_ok r1 q k1
  exact ⟨c, cv, b, rfl, hcv, hk b eo, GPost.v r1 k2 (.bl b)⟩
/-- a tuple of classes of the module -/
inductive ClsL (X : Cx) : List Expr → List Addr → TA → Prop
  | nil : ClsL X [] [] tNil
  | cons {z : Str} {zp : Pos} {C : Addr} {es : List Expr} {Cs : List Addr} {t : TA} (hg : Gl X z) (hm : X.mg z = some (.ref C)) (hd : (z == ("__debug__" : Str)) = false) (hst : starEach (.Name z zp :: es) X.env = (false, eval (.Name z zp) X.env) :: starEach es X.env) (h : ClsL X es Cs t) : ClsL X (.Name z zp :: es) (C :: Cs) (tCons (tC (.ref C)) t)
theorem ClsL.pa : ∀ {es : List Expr} {Cs : List Addr} {t : TA}, ClsL X es Cs t → PA X es t
  | _, _, _, .nil => pa_nil
  | _, _, _, .cons hg hm hd hst h => pa_cons (pe_glob hg hm rfl hd) h.pa hst
theorem ClsL.ok : ∀ {es : List Expr} {Cs : List Addr} {t : TA}, ClsL X es Cs t → ∀ (σ : L2.St) (H : Hp) (Q : List V → Hp → Prop), Q (Cs.map V.ref) H → t σ H Q
  | _, _, _, .nil => fun σ H Q q => q
  | _, _, _, .cons hg hm hd hst h => fun σ H Q q => h.ok σ H (fun xs H2 => Q (V.ref _ :: xs) H2) q
theorem ClsL.cls : ∀ {es : List Expr} {Cs : List Addr} {t : TA}, ClsL X es Cs t → Paired ClsV (Cs.map V.ref) (Cs.map Value.ref)
  | _, _, _, .nil => .nil
  | _, _, _, .cons hg hm hd hst h => .cons (.own _) h.cls
theorem ClsL.len : ∀ {es : List Expr} {Cs : List Addr} {t : TA}, ClsL X es Cs t → Cs.length = es.length
  | _, _, _, .nil => rfl
  | _, _, _, .cons hg hm hd hst h => congrArg Nat.succ h.len
theorem dv_isXT {es : List Expr} {Cs : List Addr} {n : Nat} {t : TA} (hp : (a, oe) ∈ X.pn) (C : ExcC X.K D) (hz : Zc (.ref D) none oe) (hf : ∃ vs, oe.data = .fields vs) (hk : ∀ b, o = some b → PySem.W.kitAny X.K (.ref D) (Cs.map Value.ref) = some b) (hg : Gl X x) (hm : X.mg x = none) (hv : bootBuiltins x = some (.builtin "isinstance")) (he : DV cm X xw e m)
    (hcl : ClsL X es Cs t) (hlen : es.length ≤ sizeLine := by decide) (hn : x ≠ "__name__" := by decide) (hdb : (x == ("__debug__" : Str)) = false := by decide)
    (hst : starEach [e, .Tuple es n p2] X.env = (false, eval e X.env) :: starEach [.Tuple es n p2] X.env := by rfl) (hst2 : starEach [.Tuple es n p2] X.env = (false, eval (.Tuple es n p2) X.env) :: starEach [] X.env := by rfl) (hpl : (backTo pos (starEach [.Tuple es n p2] X.env)).any (·.1) = false := by rfl) :
    DV cm X xw (.Call (.Name x p) [e, .Tuple es n p2] [] pos) (M.isX m a o) := by
  obtain ⟨t, pe, oo⟩ := he
  refine ⟨_, pe_callB (call_isET hp C hz hf) hg hm hv (pa_cons pe (pa_cons (pe_tup hcl.pa) pa_nil hst2) hst) hn hdb hst hpl, fun g w σ H Q r k => ?_⟩
  refine oo g w σ H _ r (GPost.imp (fun g1 w1 H1 d r1 s1 k1 v q => ?_) (GPost.bind k))
  refine hcl.ok _ _ _ ⟨by rw [List.length_map, hcl.len]; exact hlen, fun tp htp => ?_⟩
  obtain ⟨b, eo, rfl, k2⟩ := isX_ok r1 q k1
  obtain ⟨r2, s2, _⟩ := r1.fresh (o := .tup (Cs.map V.ref)) htp
  exact ⟨tp, Cs.map V.ref, Cs.map Value.ref, b, rfl, upd_same, hcl.cls, hk b eo, k2 _ _ r2 s2 _ (.bl _)⟩
end
end DL

/-! DHot4: a def called within an except suite with the caught exception; try .. except X as n: y = f(n). -/
namespace DL
open PySem PySem.Spec PyProof.Rows L2 L2H HotX Evl

/-- a def's promise, called while an exception p with Z p is handled -/
structure FnX (P : Program) (w : World) (K : PySem.W.Frag) (mg : Str → Option Value) (base : Heap) (k : Nat) (f : Addr) (fd : FuncData) (ps : List Str) (Z : Addr × Obj → Prop) (sp : Addr → Sp) : Prop where
  len : ∀ a vs H Q E, sp a vs H Q E → vs.length = ps.length
  run : ∀ (A : Around) (outer : List Env) (s : Shared) (H : Hp) (args : Args) (us : List Value) (vs : List V) (Q : VK) (E : XK) (p : Addr × Obj), RoomH k A → A.guards = some [] → Hot1 A p → Z p → PinOk outer H s p → Env0 P w K mg base A outer s H → BindsTo s fd args (ps.zip us) → Vals vs us → sp p.1 vs H Q E →
    codeAny (model P w) A (.call (.ref f) args) (CR (L2N.CX P w) outer P w H s Q E) s
section
variable {P : Program} {w : World} {K : PySem.W.Frag} {mg : Str → Option Value} {base : Heap}
theorem fnX_of {x qual : Str} {params : Arguments} {body : List Stmt} {scope : Scope} {dvs : List V} {kws : List (Str × V)} {f : Addr} {fd : FuncData} {N ps : List Str} {k : Nat} {Z : Addr × Obj → Prop} {sp : Addr → Sp} (F : FunD K x qual params body scope dvs kws f fd) (S : FnScope N ps scope)
    (len : ∀ a vs H Q E, sp a vs H Q E → vs.length = ps.length)
    (hbody : ∀ (cdv : Value) (A : Around) (outer : List Env) (s : Shared) (H : Hp) (vs : List V) (Q : VK) (E : XK) (p : Addr × Obj), Hot1 A p → Z p → RoomH k (A.deeper (envOfC qual scope s.heap.objs.size f cdv)) → A.guards = some [] → sp p.1 vs H Q E →
      ∃ t, PSs (cxH (L2N.CX P w) P w K mg base N qual scope f cdv A outer s H E p) body t ∧ t { nx := fun _ H' => Q .non H', rt := Q } (L2.start N vs) H) : FnX P w K mg base (k + 1) f fd ps Z sp := by
  obtain ⟨oc, od, dV, kV, doc, pm, an, cdv, ct, osl, rfl, lk, hcd, _, _⟩ := F.ex
  refine ⟨len, fun A outer s H args us vs Q E p hr hg hot hz hpin e0 hb r q => ?_⟩
  have KX : K.In s.heap := e0.mod.kin.keeps fun b o e => (e0.bs b o e).1
  have lim : s.heap.NoLimit := e0.mod.nolimit.keeps fun b o e => (e0.bs b o e).1
  obtain ⟨t, ht, hq⟩ := hbody cdv A outer s H vs Q E p hot hz (hr.deeper _) hg q
  refine codeAny_call_function hr.depth (KX _ _ lk) rfl S.co S.gen rfl (PySem.W.codeRec_of KX hcd) (hb _ _ _ _ (wpAny_newFunctionEnv_cells S.kind (fun y hy => ?_) fun env he s1 x => ?_))
  · rcases S.par y.1 (List.of_mem_zip (show (y.1, y.2) ∈ ps.zip us from hy)).1 with e | e
    · exact .inl e
    · exact .inr ⟨e, PySem.W.cellsFrom_some _ _ _ (.inl e)⟩
  · subst he
    have I : Inv (cxH (L2N.CX P w) P w K mg base N qual scope f cdv A outer s H E p) [] (L2.start N vs) H s1 := inv_startH S hpin e0 (len _ _ _ _ _ q) r x
    have done : ∀ {s' : Shared} {σ' : L2.St} {H' : Hp} {v : V} {u : Value}, Inv (cxH (L2N.CX P w) P w K mg base N qual scope f cdv A outer s H E p) [] σ' H' s' → RelV v u → Q v H' → CE outer P w H s Q u s' :=
      fun J rv q => ⟨_, _, J.os, J.bare, J.base, J.hok, rv, q⟩
    refine ⟨lim.keeps x.toInCall.keep, codeAny_func (wpAny_mono (ht.run [] s1 (L2.start N vs) H _ I hq) (fun fl s' hs => ?_) fun e s' hs => hs)⟩
    cases fl with
    | ret u => obtain ⟨v, σ', H', J, rv, q⟩ := hs; exact done J rv q
    | next => obtain ⟨σ', H', J, q⟩ := hs; exact done (v := V.non) (u := Value.none) J rfl q
    | brk => obtain ⟨_, _, _, z⟩ := hs; exact z.elim
    | cont => obtain ⟨_, _, _, z⟩ := hs; exact z.elim
end
/-- the def takes the exception at a and does m a -/
def spX (K : PySem.W.Frag) (cm : Nat → Addr) (m : Addr → List D → M R) (a : Addr) : Sp := fun vs H Q E =>
  ∃ g w, w.E = [] ∧ Rel K cm g w [] H ∧ vs = [.ref a] ∧ GPost K cm (fun cls d _ H' => E cls d H') g w [] H (PR K (New g w [] H) [] Q) (m a [.raw a] w)
/-- the def x of the module, called in a suite with the exception of the class C -/
def OkX (P : Program) (w : World) (K : PySem.W.Frag) (mg : Str → Option Value) (base : Heap) (cm : Nat → Addr) (k : Nat) (x : Str) (p : Str) (C : Addr) (m : Addr → List D → M R) : Prop :=
  mg x = some (.ref (He.ga K x)) ∧ PySem.W.keepIn K (.ref (He.ga K x)) = true ∧ ∃ fd, Binds K fd [p] [] ∧ FnX P w K mg base k (He.ga K x) fd [p] (fun q => L2N.Zn (.ref C) none q.2) (spX K cm m)
theorem okX {P : Program} {w : World} {K : PySem.W.Frag} {mg : Str → Option Value} {base : Heap} {cm : Nat → Addr} {x : Str} {params : Arguments} {body : List Stmt} {scope : Scope} {N : List Str} {p : Str} {k n : Nat} {C : Addr} {mb : Addr → M Flow1}
    (hF : ∃ fd, FunD K x x params body scope [] [] (He.ga K x) fd) (gl : mg x = some (.ref (He.ga K x))) (S : FnScope N [p] scope) (hn : N.length = n) (hp : 1 ≤ n)
    (hbind : ∀ (kV doc pm : Value) (an : Option Addr) (cdv ct : Value) (us : List Value), us.length = [p].length → bindArgs (PySem.W.fnOf x x params body scope .none kV doc pm an cdv ct) ⟨us, []⟩ = pure ([p].zip us))
    (hbody : ∀ (f : Addr) (cdv : Value) (A : Around) (outer : List Env) (s : Shared) (H : Hp) (E : XK) (q : Addr × Obj), Hot1 A q → L2N.Zn (.ref C) none q.2 → RoomH k (A.deeper (envOfC x scope s.heap.objs.size f cdv)) → A.guards = some [] →
      DSs cm (cxH (L2N.CX P w) P w K mg base N x scope f cdv A outer s H E q) (fun cls d _ H' => E cls d H') body (mb q.1)) : OkX P w K mg base cm (k + 1) x p C (fun a => runF n (mb a)) := by
  obtain ⟨fd, F⟩ := hF
  refine ⟨gl, F.kp, fd, F.bindsN hbind, fnX_of F S (fun a vs H Q E h => ?_) fun cdv A outer s H vs Q E q hot hz hr hg h => ?_⟩
  · obtain ⟨g, w1, _, _, rfl, _⟩ := h
    rfl
  · obtain ⟨t, pt, ot⟩ := hbody _ cdv A outer s H E q hot hz hr hg
    refine ⟨t, pt, ?_⟩
    obtain ⟨g, w1, e0, r, rfl, k⟩ := h
    exact body_ok (X := cxH (L2N.CX P w) P w K mg base N x scope _ cdv A outer s H E q) hn ot e0 r (.cons (.raw q.1) .nil) hp k
/-- slot j forgotten, o in its place -/
theorem Rel.setAny {K : PySem.W.Frag} {cm : Nat → Addr} {g : Wd} {w : W} {σ : L2.St} {H : Hp} (r : Rel K cm g w σ H) (j : Nat) (o : Option V) : Rel K cm g { w with E := w.E.set j .un } (σ.set j o) H ∧ Step g w σ H g { w with E := w.E.set j .un } (σ.set j o) H := by
  have own : ∀ i a, OwnAt { w with E := w.E.set j .un } (σ.set j o) i a → OwnAt w σ i a ∧ i ≠ j := fun i a ⟨ds, h1, h2⟩ => by
    have h1' : (w.E.set j .un)[i]? = some (.own ds) := h1
    by_cases c : j = i
    · subst c
      rw [List.getElem?_set_self'] at h1'
      cases hh : w.E[j]? with
      | none => rw [hh] at h1'; cases h1'
      | some o => rw [hh] at h1'; cases h1'
    · rw [List.getElem?_set_ne c] at h1' h2
      exact ⟨⟨ds, h1', h2⟩, fun e => c e.symm⟩
  refine ⟨⟨r.nn, r.ex, by show (σ.set j o).length = (w.E.set j _).length; rw [List.length_set, List.length_set]; exact r.len, fun i s hs => ?_, r.store, r.sinj, fun i k b h1 h2 => r.oinj i k b (own i b h1).1 (own k b h2).1, fun i b k h1 h2 => r.os i b k (own i b h1).1 h2⟩, ⟨.refl _, fun _ _ h => .inl h, fun _ _ h _ => h, fun b p => ?_⟩⟩
  · have hs' : (w.E.set j .un)[i]? = some s := hs
    by_cases c : j = i
    · subst c
      rw [List.getElem?_set_self'] at hs'
      cases hh : w.E[j]? with
      | none => rw [hh] at hs'; cases hs'
      | some o => rw [hh] at hs'; cases hs'; trivial
    · rw [List.getElem?_set_ne c] at hs'
      have q := r.slot i s hs'
      rw [List.getElem?_set_ne c]
      exact q
  · rcases p with h | ⟨i, h⟩
    · exact .inl (.inl h)
    · exact .inl (.inr ⟨i, (own i b h).1⟩)
theorem roomH_v {k : Nat} {A : Around} (h : RoomH k A) : A.units + 64 < cLine := by have := h.un; omega
theorem roomH_u {k : Nat} {A : Around} (h : RoomH k A) : A.units + 65 < cLine := by have := h.un; omega
theorem hz_pin {X : Cx} {q : Addr × Obj} (hot : Hot1 X.A q) (h : q ∈ X.pn) : Hz X := hz_of ⟨q, hot, h⟩
namespace M
/-- try: mb; except X as (slot j): (slot i) = f(it), which gives the text tab c of the class c -/
def tryAs (xt : Nat → Option Bool) (j i : Nat) (tab : Nat → Option Str) (mb : M Flow1) : M Flow1 := fun w => match mb w with
  | .exc e w' => (match xt e.c with
    | some true => (match e.f, tab e.c with
      | none, some z => if i < w'.E.length ∧ j < w'.E.length then .ok .next { w' with E := (w'.E.set i (.val (.str z))).set j .un } else .bad
      | _, _ => .bad)
    | some false => .exc e w'
    | none => .bad)
  | r => r
end M
section
variable {cm : Nat → Addr} {X : Cx} {xw : WX} {pos : Pos}
theorem run_fnX {k : Nat} {f : Addr} {fd : FuncData} {p : Str} {Z : Addr × Obj → Prop} {sp : Addr → Sp} {E : L2.St → XK} {q : Addr × Obj} {pins : List (Addr × Obj)} {σ : L2.St} {H : Hp} {s : Shared} {Q : VK} {us : List Value} {vs : List V} (F : FnX X.prog X.w X.K X.mg X.base k f fd [p] Z sp) (hr : RoomH k X.A) (hg : X.A.guards = some []) (hot : Hot1 X.A q) (hq : q ∈ X.pn) (hz : Z q) (hb : Binds X.K fd [p] []) (hx : PassesAt (L2N.CX X.prog X.w) X σ (E σ))
    (I : Inv X pins σ H s) (r : Vals vs us) (h : sp q.1 vs H Q (E σ)) : wpAny (model X.prog X.w) X.A (call (.ref f) us) (EP X pins σ Q) X.xe s := by
  have hl : us.length = [p].length := by rw [← r.length]; exact F.len _ _ _ _ _ h
  have b := hb s us I.kIn (by rw [List.append_nil]; exact hl)
  rw [List.append_nil] at b
  have P1 := I.pin q (List.mem_append_left _ hq)
  have hpin : PinOk X.stack H s q := ⟨P1.1, P1.2.1, fun hm => (List.mem_cons.mp (I.stkSub q.1 hm)).elim P1.2.2.1 P1.2.2.2.1, P1.2.2.2.2⟩
  refine wpAny_call (codeAny_mono (F.run X.A X.stack s H ⟨us, []⟩ us vs Q (E σ) q hr hg hot hz hpin I.env0 b r h) fun r s' hq => ?_)
  cases r with
  | error e => exact hx pins H s e s' I hq
  | ok fl =>
    cases fl with
    | ret u => exact I.after hq
    | next => exact False.elim hq
    | brk => exact False.elim hq
    | cont => exact False.elim hq
def tCallX (sp : Sp) (E : L2.St → XK) (t : TA) : TE := fun σ H Q => t σ H fun vs H1 => sp vs H1 Q (E σ)
theorem pe_callX {k : Nat} {f : Addr} {fd : FuncData} {p x : Str} {Z : Addr × Obj → Prop} {sp : Addr → Sp} {E : L2.St → XK} {q : Addr × Obj} {np : Pos} {e : Expr} {es : List Expr} {t : TA} (F : FnX X.prog X.w X.K X.mg X.base k f fd [p] Z sp) (hr : RoomH k X.A) (hgd : X.A.guards = some []) (hot : Hot1 X.A q) (hq : q ∈ X.pn) (hz : Z q) (hg : Gl X x) (hm : X.mg x = some (.ref f)) (hk : PySem.W.keepIn X.K (.ref f) = true) (hb : Binds X.K fd [p] [])
    (hx : ∀ σ, PassesAt (L2N.CX X.prog X.w) X σ (E σ)) (ha : PA X (e :: es) t) (hdb : (x == ("__debug__" : Str)) = false := by decide) (he : starEach (e :: es) X.env = (false, eval e X.env) :: starEach es X.env := by rfl) (hpl : (backTo pos (starEach es X.env)).any (·.1) = false := by rfl) :
    PE X (.Call (.Name x np) (e :: es) [] pos) (tCallX (sp q.1) E t) :=
  ⟨fun pins s σ H Q I h => wpAny_Call_Name_kw (ld_glob I hg hm (PySem.W.callWith_K (h₀ := X.base) I.ok.mod.kin hk (thn (ha.run pos pins s σ H _ I h) fun us s1 ⟨vs, H1, I1, r, q⟩ => ⟨I1.kIn, run_fnX F hr hgd hot hq hz hb (hx σ) I1 r q⟩) he hpl) hdb)⟩
theorem ds_tryAs {x n y f p : Str} {c : Value} {i j kk : Nat} {body : List Stmt} {np np2 yp fp cp ap pos' : Pos} {mb : M Flow1} {xt : Nat → Option Bool} {tab : Nat → Option Str} (hs : X.stack = X.env :: X.outer) (hf : X.env.frame = some X.env.locals) (hN : X.N.Nodup) (hc : Names X x c) (hr : RoomH kk X.A) (hgd : X.A.guards = some []) (tk : L2N.Takes X xw)
    (hx : ∀ n b, xt n = some b → PySem.W.exmOne X.K (.ref (cm n)) c = some b) (hF : ∀ c z, tab c = some z → ∃ m, OkX X.prog X.w X.K X.mg X.base cm kk f p (cm c) m ∧ ∀ a w, w.E = [] → m a [.raw a] w = .ok (.val (.str z)) w)
    (hb : ∀ (W : WX) (pn : List (Addr × Obj)) (xe : Value → Shared → Prop), L2N.Takes (X.tr pn xe) W → PassesOwn (model X.prog X.w) X.A X.env xe → DSs cm (X.tr pn xe) W body mb)
    (hi : X.N[j]? = some n := by rfl) (hln : X.env.kindOf n = some .local := by rfl) (hiy : X.N[i]? = some y := by rfl) (hly : Loc X.env.scope y := by first | exact Or.inl rfl | exact Or.inr rfl) (hyf : X.fn y = true ∨ X.env.scope.names.lookup y = some .local := by first | exact .inl rfl | exact .inr rfl)
    (hv : Vis X.env.scope n := by first | exact Or.inl rfl | exact Or.inr (Or.inl rfl) | exact Or.inr (Or.inr rfl)) (hd : (n == ("__debug__" : Str)) = false := by decide) (hcd : (n == ("__classdict__" : Str)) = false := by decide) (hfd : (f == ("__debug__" : Str)) = false := by decide) (hgf : Gl X f := by rfl)
    (hij : i ≠ j := by decide)
    (hsw : ∀ (A : Around) (pn : List (Addr × Obj)) (a : Addr), swapsWith (.Call (.Name f fp) [.Name n np2] [] cp) (some (.Name y yp)) ap.line X.env = pure false := by intro _ _ _; rfl)
    (he : starEach [.Name n np2] X.env = (false, eval (.Name n np2) X.env) :: starEach [] X.env := by rfl) (hpl : (backTo cp (starEach [] X.env)).any (·.1) = false := by rfl) :
    DS cm X xw (.Try body [.ExceptHandler (some (.Name x np)) (some n) [.Assign [.Name y yp] (.Call (.Name f fp) [.Name n np2] [] cp) ap] pos'] [] [] pos) (M.tryAs xt j i tab mb) := by
  let ts : Addr → Value → Option Addr → TS := fun a cls d D σ H => ∃ (c : Nat) (z : Str), cls = .ref (cm c) ∧ d = none ∧ tab c = some z ∧ ∃ g w N, Rel X.K cm g w σ H ∧ σ[j]? = some (some (.ref a)) ∧ SPost X.K cm xF N D g w σ H (M.put i (.val (.str z)) w)
  refine ⟨_, L2N.ps_try_as (i := j) (tb := fun W => tS X.K cm W mb) (ts := ts) hs hf hN hi hln hc tk (fun W pn xe tk' hp => (hb W pn xe tk' hp).canon) (fun a oe cls d pn z hv' => ⟨fun pins s σ H D I hh => ?_⟩), fun g w σ H D N r hN k => ?_⟩
  · -- the suite
    obtain ⟨cn, zt, e1, e2, e3, g, w, N, r, hj, k⟩ := hh
    subst e1 e2
    obtain ⟨m, ⟨gm, gk, fd, bd, F⟩, hm⟩ := hF cn zt e3
    have hot : Hot1 (X.suite a ((a, oe) :: pn)).A (a, oe) := by
      obtain ⟨vs, ev⟩ := hv'
      exact ⟨rfl, vs, ev, z.2.2 vs ev⟩
    have hrs : RoomH kk (X.suite a ((a, oe) :: pn)).A := ⟨hr.dp, hr.un⟩
    have pe := pe_callX (X := X.suite a ((a, oe) :: pn)) (E := fun _ _ _ _ => False) (pos := cp) (np := fp) (q := (a, oe)) F hrs hgd hot List.mem_cons_self z hgf gm gk bd (fun σ pins H s e s' I c => by
      obtain ⟨_, _, _, _, _, _, _, _, _, _, _, _, z⟩ := c
      exact z.elim) (pa_cons (pe_var (X := X.suite a ((a, oe) :: pn)) (pos := np2) hi hv hd hcd) pa_nil he) hfd he hpl
    refine (pss_one (ps_set (X := X.suite a ((a, oe) :: pn)) (pos := ap) (pos' := yp) hN hiy hly pe (hsw X.A pn a) hyf)).run pins s σ H D I ?_
    refine ⟨.ref a, hj, g, { w with E := [] }, rfl, r.bare, rfl, ?_⟩
    rw [hm a { w with E := [] } rfl]
    intro g' H' r' s' v q
    cases q
    obtain ⟨r2, s2⟩ := r.frame r' s'
    unfold M.put at k
    split at k
    · obtain ⟨r3, s3⟩ := r2.setVal (i := i) (v := .str zt) (d := .str zt) (.str zt)
      exact k g' _ H' r3 (s2.trans s3)
    · exact k.elim
  · refine ⟨g, w, N, r, hN, ?_⟩
    unfold M.tryAs at k
    cases e : mb w with
    | ok f w' => simp only [e] at k; exact k
    | bad => simp only [e] at k; exact k.elim
    | exc x w' =>
      simp only [e] at k
      intro g' σ' H' cls d r' s' ⟨rc, rx⟩
      cases e2 : xt x.c with
      | none => simp only [e2] at k; exact k.elim
      | some b =>
        refine ⟨b, by rw [rc]; exact hx _ _ e2, fun hb a ha => ?_, fun hb => ?_⟩
        · subst hb
          simp only [e2] at k
          cases e3 : x.f with
          | some q => simp only [e3] at k; exact k.elim
          | none =>
            cases e4 : tab x.c with
            | none => simp only [e3, e4] at k; exact k.elim
            | some zt =>
              simp only [e3, e4] at k
              rw [e3] at rx
              split at k
              · rename_i hl
                have hjl : j < σ'.length := by rw [r'.len]; exact hl.2
                obtain ⟨ra, sa⟩ := r'.setAny j (some (.ref a))
                refine ⟨x.c, zt, rc, rx, e4, g', _, fun _ => True, ra, by rw [List.getElem?_set_self hjl], ?_⟩
                unfold M.put
                rw [if_pos (show i < (w'.E.set j .un).length by rw [List.length_set]; exact hl.1)]
                intro g2 σ2 H2 r2 s2
                obtain ⟨rb, sb⟩ := r2.setAny j none
                have ee : ((w'.E.set j Slot.un).set i (.val (.str zt))).set j .un = (w'.E.set i (.val (.str zt))).set j .un := by
                  rw [List.set_comm _ _ (fun q => hij q.symm), List.set_set]
                have k2 := SPost.back s' k
                refine k2 g2 _ H2 ?_ ?_
                · rw [← ee]
                  exact rb
                · have s3 := sa.trans (s2.trans sb)
                  rw [← ee]
                  exact s3
              · exact k.elim
        · subst hb
          simp only [e2] at k
          exact k g' σ' H' cls d r' s' ⟨rc, rx⟩
end
/-! ### what such a def gives -/
theorem ev_run {b : M Flow1} {n : Nat} {ds : List D} {w : W} {z : Str} (hE : w.E = []) (h : Ev b { w with E := ds.map Slot.val ++ List.replicate (n - ds.length) .un } fun fl w' => fl = .ret (.val (.str z)) ∧ w'.S = w.S ∧ w'.n = w.n) : runF n b ds w = .ok (.val (.str z)) w := by
  obtain ⟨fl, w', e, rfl, h1, h2⟩ := h
  obtain ⟨E, S, k⟩ := w
  obtain ⟨E', S', k'⟩ := w'
  cases h1
  cases h2
  cases hE
  unfold runF
  rw [e]
theorem ev_isXv {i : Nat} {a : Addr} {o : Option Bool} {x : Bool} {w : W} {P : D → W → Prop} (e : w.E[i]? = some (.val (.raw a))) (eo : o = some x) (h : P (.bl x) w) : Ev (M.isX (M.var i) a o) w P := by
  subst eo
  exact ev_bind (ev_var e ⟨_, w, by unfold M.isXF; simp only [if_true]; rfl, h⟩)
theorem ev_lcS {vs : List Nat} {f : D → W → Option W} {t : M Bool} {e : M D} {items : List D} {w : W} {P : R → W → Prop} (h : Ev (M.lcL vs f t e items []) (w.wipe vs) P) : Ev (M.lc vs f t e items) w P := h
theorem ev_lcN {vs : List Nat} {f : D → W → Option W} {t : M Bool} {e : M D} {acc : List D} {w : W} {P : R → W → Prop} (h : P (.own acc) w) : Ev (M.lcL vs f t e [] acc) w P := ⟨_, w, rfl, h⟩
theorem ev_lcC {vs : List Nat} {f : D → W → Option W} {t : M Bool} {e : M D} {d : D} {r acc : List D} {w w1 : W} {P : R → W → Prop} (e1 : f d w = some w1) (h : Ev t w1 fun b w2 => cond b (Ev e w2 fun y w3 => acc.length < big ∧ Ev (M.lcL vs f t e r (acc ++ [y])) (w3.wipe vs) P) (Ev (M.lcL vs f t e r acc) (w2.wipe vs) P)) : Ev (M.lcL vs f t e (d :: r) acc) w P := by
  obtain ⟨b, w2, e2, q⟩ := h
  cases b with
  | true =>
    obtain ⟨y, w3, e3, hl, g, w4, e4, q4⟩ := q
    exact ⟨g, w4, by unfold M.lcL; simp only [e1, e2, e3, if_pos hl]; exact e4, q4⟩
  | false =>
    obtain ⟨g, w4, e4, q4⟩ := q
    exact ⟨g, w4, by unfold M.lcL; simp only [e1, e2]; exact e4, q4⟩
theorem ev_condT2 {α : Type} {PA : α → W → Prop} {c : Bool} {x y : M α} {w : W} (e : c = true) (h : Ev x w PA) : Ev (cond c x y) w PA := by subst e; exact h
theorem ev_condF2 {α : Type} {PA : α → W → Prop} {c : Bool} {x y : M α} {w : W} (e : c = false) (h : Ev y w PA) : Ev (cond c x y) w PA := by subst e; exact h
theorem pc_t {p q : Prop} (h : p) : cond true p q := h
theorem pc_f {p q : Prop} (h : q) : cond false p q := h
theorem lt_and {a b : Nat} {p : Prop} (h : a < b) (q : p) : a < b ∧ p := ⟨h, q⟩
theorem ex_app {x : D} {o : Option Slot} {ds : List D} {P : D → List D → Prop} (e : o = some (.own ds)) (h : ds.length < big) (p : P x ds) : ∃ d ds2, [x] = [d] ∧ o = some (.own ds2) ∧ ds2.length < big ∧ P d ds2 := ⟨x, ds, rfl, e, h, p⟩
theorem ev_tryAsE {xt : Nat → Option Bool} {j i c : Nat} {tab : Nat → Option Str} {mb : M Flow1} {w w' : W} {z : Str} {P : Flow1 → W → Prop} (e : mb w = .exc ⟨c, none⟩ w') (hx : xt c = some true) (ht : tab c = some z) (hi : i < w'.E.length) (hj : j < w'.E.length)
    (h : P .next { w' with E := (w'.E.set i (.val (.str z))).set j .un }) : Ev (M.tryAs xt j i tab mb) w P := ⟨.next, _, by unfold M.tryAs; simp only [e, hx, ht]; exact if_pos ⟨hi, hj⟩, h⟩
theorem ev_tryAs {xt : Nat → Option Bool} {j i : Nat} {tab : Nat → Option Str} {mb : M Flow1} {w : W} {P : Flow1 → W → Prop} (h : Ev mb w P) : Ev (M.tryAs xt j i tab mb) w P := by
  obtain ⟨d, w1, e, q⟩ := h
  exact ⟨d, w1, by unfold M.tryAs; simp only [e], q⟩
end DL

/-! DPlain2: runs that raise. -/
namespace DL
open PySem PySem.Spec PyProof.Rows L2
/-- m runs from w to an exception of the class c, the state behind it with Q -/
def Evx {α : Type} (m : M α) (w : W) (c : Nat) (Q : W → Prop) : Prop := ∃ w', m w = .exc ⟨c, none⟩ w' ∧ Q w'
/-- a def that raises c and leaves the store -/
def Px (f : List D → M R) (ds : List D) (c : Nat) : Prop := ∀ S n, f ds ⟨[], S, n⟩ = .exc ⟨c, none⟩ ⟨[], S, n⟩
section
variable {α β : Type} {w : W} {c : Nat} {Q : W → Prop}
theorem Evx.imp {m : M α} {Q' : W → Prop} (h : Evx m w c Q) (k : ∀ w', Q w' → Q' w') : Evx m w c Q' := by
  obtain ⟨w', e, q⟩ := h
  exact ⟨w', e, k w' q⟩
theorem evx_bind1 {m : M α} {f : α → M β} (h : Evx m w c Q) : Evx (M.bind m f) w c Q := by
  obtain ⟨w', e, q⟩ := h
  exact ⟨w', by unfold M.bind; rw [e], q⟩
theorem evx_bind2 {m : M α} {f : α → M β} (h : Ev m w fun a w1 => Evx (f a) w1 c Q) : Evx (M.bind m f) w c Q := by
  obtain ⟨a, w1, e, w', e2, q⟩ := h
  exact ⟨w', by unfold M.bind; rw [e]; exact e2, q⟩
theorem evx_map {m : M α} {f : α → β} (h : Evx m w c Q) : Evx (M.map f m) w c Q := by
  obtain ⟨w', e, q⟩ := h
  exact ⟨w', by unfold M.map; rw [e], q⟩
theorem evx_seq1 {a b : M Flow1} (h : Evx a w c Q) : Evx (M.seq a b) w c Q := by
  obtain ⟨w', e, q⟩ := h
  exact ⟨w', by unfold M.seq; rw [e], q⟩
theorem evx_seq2 {a b : M Flow1} (h : Ev a w fun f w1 => match f with
    | .next => Evx b w1 c Q
    | _ => False) : Evx (M.seq a b) w c Q := by
  obtain ⟨f, w1, e, h⟩ := h
  cases f with
  | next =>
    obtain ⟨w', e2, q⟩ := h
    exact ⟨w', by unfold M.seq; rw [e]; exact e2, q⟩
  | brk => exact h.elim
  | cont => exact h.elim
  | ret r => exact h.elim
theorem evx_ifS {t : M Bool} {a b : M Flow1} (h : Ev t w fun x w1 => Evx (cond x a b) w1 c Q) : Evx (M.ifS t a b) w c Q := evx_bind2 h
theorem evx_T {x y : M α} (h : Evx x w c Q) : Evx (cond true x y) w c Q := h
theorem evx_F {x y : M α} (h : Evx y w c Q) : Evx (cond false x y) w c Q := h
theorem evx_raise (h : Q w) : Evx (M.raise c) w c Q := ⟨w, rfl, h⟩
theorem evx_call {ar : Nat} {f : List D → M R} {ma : M (List D)} (h : Ev ma w fun ds w1 => ds.length = ar ∧ Px f ds c ∧ Q w1) : Evx (M.call ar f ma) w c Q := by
  obtain ⟨ds, w1, e, hl, p, q⟩ := h
  refine ⟨w1, ?_, q⟩
  unfold M.call M.bind
  simp only [e, if_pos hl]
  unfold callM
  rw [p]
theorem evx_modVar {i : Nat} {ds : List D} {ma : M (List D)} {f : List D → List D → Option (D × List D)} (e : w.E[i]? = some (.own ds)) (h : Evx ma w c Q) : Evx (M.modVar i ma f) w c Q := by
  obtain ⟨w', e2, q⟩ := h
  exact ⟨w', by unfold M.modVar; simp only [e]; unfold M.bind; simp only [e2], q⟩
theorem px_of {n : Nat} {b : M Flow1} {ds : List D} (h : ∀ S k, Evx b ⟨ds.map Slot.val ++ List.replicate (n - ds.length) .un, S, k⟩ c fun w' => w'.S = S ∧ w'.n = k) : Px (runF n b) ds c := fun S k => by
  obtain ⟨w', e, h1, h2⟩ := h S k
  obtain ⟨E, S', k'⟩ := w'
  cases h1
  cases h2
  unfold runF
  simp only [e]
theorem ev_tryX {xt : Nat → Option Bool} {mb ms : M Flow1} {P : Flow1 → W → Prop} (hx : xt c = some true) (h : Evx mb w c fun w1 => Ev ms w1 P) : Ev (M.tryX xt mb ms) w P := by
  obtain ⟨w1, e, f, w2, e2, q⟩ := h
  exact ⟨f, w2, by unfold M.tryX; simp only [e, hx, e2], q⟩
theorem ev_tryAsX {xt : Nat → Option Bool} {j i : Nat} {tab : Nat → Option Str} {mb : M Flow1} {z : Str} {P : Flow1 → W → Prop} (hx : xt c = some true) (ht : tab c = some z) (h : Evx mb w c fun w' => i < w'.E.length ∧ j < w'.E.length ∧ P .next { w' with E := (w'.E.set i (.val (.str z))).set j .un }) : Ev (M.tryAs xt j i tab mb) w P := by
  obtain ⟨w1, e, h1, h2, q⟩ := h
  exact ev_tryAsE e hx ht h1 h2 q
theorem ev_cb {t : M Bool} {a b : M α} {P : α → W → Prop} (h : Ev t w fun x w1 => Ev (cond x a b) w1 P) : Ev (M.ite t a b) w P := ev_bind h
theorem bls_map {ι : Type} (b : ι → Bool) : ∀ l : List ι, D.toBls (l.map fun x => D.bl (b x)) = some (l.map b)
  | [] => rfl
  | x :: r => by
    show (D.toBls (r.map fun x => D.bl (b x))).map (b x :: ·) = _
    rw [bls_map b r]
    rfl
theorem all_map {ι : Type} (b : ι → Bool) (l : List ι) : ofList DL.allB [.lst (l.map fun x => D.bl (b x))] = some (.bl (l.all b)) := by
  show DL.allB (l.map fun x => D.bl (b x)) = _
  unfold DL.allB
  rw [bls_map]
  show some (D.bl ((l.map b).all id)) = _
  rw [List.all_map]
  rfl
end
end DL

/-! DPlain3: what repr gives of data of bounded size. -/
namespace DL
open PySem PySem.Spec PyProof.Rows L2
namespace RpT
theorem foldl_len (q : Nat) : ∀ (l : List Nat) (n : Nat), (∀ c ∈ l, c < 16 ^ 8) → l.foldl (fun n c => n + (Builtin.Str.reprChar q c).length) n ≤ n + 10 * l.length
  | [], n, _ => Nat.le_refl _
  | c :: r, n, h => by
    have h1 := StrLaws.reprChar_len q c (h c (List.mem_cons_self ..))
    have h2 := foldl_len q r (n + (Builtin.Str.reprChar q c).length) fun x hx => h x (List.mem_cons_of_mem _ hx)
    rw [List.foldl_cons, List.length_cons]
    omega
theorem repr_len {x : Str} (h : ∀ c ∈ x.cps.toList, c < 16 ^ 8) : (reprText x).length ≤ 2 + 10 * x.length := by
  rw [← reprLen_eq, ← Array.foldl_toList]
  have := foldl_len (reprQuote x) x.cps.toList 2 h
  rw [Array.length_toList] at this
  exact this
theorem textFrom_le : ∀ (ts : List Str) (k : Nat) (acc : Str), (textFrom k acc ts).length ≤ acc.length + piled ts
  | [], k, acc => Nat.le_refl _
  | t :: r, k, acc => by
    have ih := textFrom_le r (k + 1) (acc ++ (if k > 0 then ", " else "" : String) ++ t)
    rw [strLen_append, strLen_append] at ih
    have e : (((if k > 0 then ", " else "" : String)) : Str).length ≤ 2 := by split <;> decide
    rw [piled_cons]
    show (textFrom (k + 1) _ r).length ≤ _
    omega
theorem listText_le (ts : List Str) : (listText ts).length ≤ piled ts + 2 := by
  have := textFrom_le ts 0 "["
  have e1 : ("[" : Str).length = 1 := by decide
  have e2 : ("]" : Str).length = 1 := by decide
  unfold listText
  rw [strLen_append]
  omega
theorem tupleText_le (ts : List Str) (h : ts ≠ []) : (tupleText ts).length ≤ piled ts + 1 := by
  have := join_length_add ts h
  have e1 : ("(" : Str).length = 1 := by decide
  have e2 : (((if ts.length == 1 then ",)" else ")" : String)) : Str).length ≤ 2 := by split <;> decide
  unfold tupleText
  rw [strLen_append, strLen_append]
  omega
theorem shownAll_map : ∀ xs : List PyData, PyData.shownAll xs = xs.map PyData.shown
  | [] => rfl
  | x :: r => by
    show PyData.shown x :: PyData.shownAll r = _
    rw [shownAll_map r]
    rfl
theorem piled_le (b : Nat) : ∀ ts : List Str, (∀ t ∈ ts, t.length ≤ b) → piled ts ≤ ts.length * (b + 2)
  | [], _ => Nat.zero_le _
  | t :: r, h => by
    have h1 := h t (List.mem_cons_self ..)
    have h2 := piled_le b r fun x hx => h x (List.mem_cons_of_mem _ hx)
    rw [piled_cons, List.length_cons, Nat.succ_mul]
    omega
theorem showableAll_of : ∀ xs : List PyData, (∀ x ∈ xs, x.showable = true) → PyData.showableAll xs = true
  | [], _ => rfl
  | x :: r, h => by
    show (x.showable && PyData.showableAll r) = true
    rw [h x (List.mem_cons_self ..), showableAll_of r fun y hy => h y (List.mem_cons_of_mem _ hy)]
    rfl
theorem depthAll_of (b : Nat) : ∀ xs : List PyData, (∀ x ∈ xs, x.depth ≤ b) → PyData.depthAll xs ≤ b
  | [], _ => by simp only [PyData.depthAll]; omega
  | x :: r, h => by
    simp only [PyData.depthAll]
    exact Nat.max_le.mpr ⟨h x (List.mem_cons_self ..), depthAll_of b r fun y hy => h y (List.mem_cons_of_mem _ hy)⟩
theorem list_shown {xs : List PyData} {b n : Nat} (hn : xs.length ≤ n) (h : ∀ x ∈ xs, x.shown.length ≤ b) : (PyData.list xs).shown.length ≤ n * (b + 2) + 2 := by
  show (listText (PyData.shownAll xs)).length ≤ _
  rw [shownAll_map]
  have h1 := listText_le (xs.map PyData.shown)
  have h2 := piled_le b (xs.map PyData.shown) fun t ht => by
    obtain ⟨x, hx, rfl⟩ := List.mem_map.mp ht
    exact h x hx
  rw [List.length_map] at h2
  have h3 := Nat.mul_le_mul_right (b + 2) hn
  omega

theorem tup_shown {xs : List PyData} {b n : Nat} (hn : xs.length ≤ n) (h : ∀ x ∈ xs, x.shown.length ≤ b) : (PyData.tuple xs).shown.length ≤ n * (b + 2) + 3 := by
  show (tupleText (PyData.shownAll xs)).length ≤ _
  rw [shownAll_map]
  by_cases c : xs = []
  · subst c
    have : (tupleText ([] : List Str)).length ≤ 3 := by decide
    exact Nat.le_trans this (Nat.le_add_left _ _)
  have h1 := tupleText_le (xs.map PyData.shown) (by simpa using c)
  have h2 := piled_le b (xs.map PyData.shown) fun t ht => by
    obtain ⟨x, hx, rfl⟩ := List.mem_map.mp ht
    exact h x hx
  rw [List.length_map] at h2
  have h3 := Nat.mul_le_mul_right (b + 2) hn
  omega
theorem num_len {n k : Nat} (hk : 0 < k) (h : n < 10 ^ k) : (numStr n).length ≤ k := by
  rw [TL.len_tl]
  show (TL.tl (Str.ofString (toString ((n : Nat) : Int)))).length ≤ k
  rw [TL.tl_num]
  exact TL.numL_len hk h
end RpT
open RpT
/-- d's repr has at most b signs, k levels -/
def Rp (d : D) (b k : Nat) : Prop := ∃ p, d.pyd = some p ∧ p.showable = true ∧ p.depth ≤ k ∧ p.shown.length ≤ b
theorem Rp.mono {d : D} {b k b' k' : Nat} (h : Rp d b k) (hb : b ≤ b') (hk : k ≤ k') : Rp d b' k' := by
  obtain ⟨p, h1, h2, h3, h4⟩ := h
  exact ⟨p, h1, h2, Nat.le_trans h3 hk, Nat.le_trans h4 hb⟩
theorem rp_list {b k : Nat} : ∀ {ds : List D}, (∀ d ∈ ds, Rp d b k) → ∃ ps, D.pyds ds = some ps ∧ ps.length = ds.length ∧ ∀ p ∈ ps, p.showable = true ∧ p.depth ≤ k ∧ p.shown.length ≤ b
  | [], _ => ⟨[], rfl, rfl, fun p hp => by cases hp⟩
  | d :: r, h => by
    obtain ⟨p, h1, h2, h3, h4⟩ := h d (List.mem_cons_self ..)
    obtain ⟨ps, q1, q2, q3⟩ := rp_list (ds := r) fun x hx => h x (List.mem_cons_of_mem _ hx)
    refine ⟨p :: ps, by unfold D.pyds; rw [h1, q1], by rw [List.length_cons, q2, List.length_cons], fun x hx => ?_⟩
    rcases List.mem_cons.mp hx with rfl | hx
    · exact ⟨h2, h3, h4⟩
    · exact q3 x hx
theorem Rp.lst {ds : List D} {b k n : Nat} (h : ∀ d ∈ ds, Rp d b k) (hn : ds.length ≤ n) : Rp (.lst ds) (n * (b + 2) + 2) (k + 1) := by
  obtain ⟨ps, q1, q2, q3⟩ := rp_list h
  refine ⟨.list ps, by unfold D.pyd; rw [q1]; rfl, showableAll_of ps fun x hx => (q3 x hx).1, ?_, list_shown (by omega) fun x hx => (q3 x hx).2.2⟩
  have := depthAll_of k ps fun x hx => (q3 x hx).2.1
  simp only [PyData.depth]
  omega
theorem Rp.tup {ds : List D} {b k n : Nat} (h : ∀ d ∈ ds, Rp d b k) (hn : ds.length ≤ n) : Rp (.tup ds) (n * (b + 2) + 3) (k + 1) := by
  obtain ⟨ps, q1, q2, q3⟩ := rp_list h
  refine ⟨.tuple ps, by unfold D.pyd; rw [q1]; rfl, showableAll_of ps fun x hx => (q3 x hx).1, ?_, tup_shown (by omega) fun x hx => (q3 x hx).2.2⟩
  have := depthAll_of k ps fun x hx => (q3 x hx).2.1
  simp only [PyData.depth]
  omega
theorem Rp.nat {n k : Nat} (hk : 0 < k) (h : n < 10 ^ k) (hk2 : k ≤ 500) : Rp (.int n) k 1 := by
  refine ⟨.int n, rfl, decide_eq_true (log_lt ?_), by simp only [PyData.depth]; omega, num_len hk h⟩
  rw [Int.natAbs_natCast]
  refine Nat.lt_of_lt_of_le h (Nat.le_trans (Nat.pow_le_pow_right (by decide) hk2) ?_)
  have e : (10 : Nat) ^ 500 ≤ 2 ^ 1920 := by decide +kernel
  exact e
theorem Rp.str {s : Str} {n : Nat} (h : ∀ c ∈ s.cps.toList, c < 16 ^ 8) (hn : s.length ≤ n) : Rp (.str s) (2 + 10 * n) 1 := by
  refine ⟨.str s, rfl, rfl, by simp only [PyData.depth]; omega, ?_⟩
  have := repr_len (x := s) h
  show (reprText s).length ≤ _
  omega
theorem Rp.non : Rp .non 10 1 := ⟨.none, rfl, rfl, by decide, by decide +kernel⟩
theorem Rp.bl (b : Bool) : Rp (.bl b) 10 1 := ⟨.bool b, rfl, rfl, by simp only [PyData.depth]; omega, by cases b <;> decide +kernel⟩
theorem Rp.dic : Rp .dic 10 2 := ⟨.dict [], rfl, rfl, by decide, by decide +kernel⟩
theorem repr_of {d : D} {b k : Nat} (h : Rp d b k) (hb : b ≤ big) (hk : k ≤ 60) : ∃ z, reprF [d] = some (.str z) := by
  obtain ⟨p, h1, h2, h3, h4⟩ := h
  refine ⟨p.shown, ?_⟩
  unfold reprF
  simp only [h1]
  exact if_pos ⟨h2, Nat.le_trans h3 hk, Nat.le_trans h4 hb⟩
theorem ev_lcNone {vs : List Nat} {f : D → W → Option W} {t : M Bool} {e : M D} {items : List D} {w : W} {PR : R → W → Prop} (h : ∀ d ∈ items, ∃ w1, f d (w.wipe vs) = some w1 ∧ Ev t w1 fun b w2 => b = false ∧ w2.wipe vs = w.wipe vs) (k : PR (.own []) (w.wipe vs)) : Ev (M.lc vs f t e items) w PR := by
  refine ev_lcL (fun r acc w' => w' = w.wipe vs ∧ acc = [] ∧ ∀ d ∈ r, d ∈ items) (fun d r acc w' ⟨h1, h2, h3⟩ => ?_) (fun acc w' ⟨h1, h2, _⟩ => ?_) items [] (w.wipe vs) ⟨rfl, rfl, fun _ h => h⟩
  · subst h1 h2
    obtain ⟨w1, e1, e2⟩ := h d (h3 d (List.mem_cons_self ..))
    refine ⟨w1, e1, e2.imp fun b w2 ⟨q1, q2⟩ => ?_⟩
    subst q1
    exact ⟨q2, rfl, fun x hx => h3 x (List.mem_cons_of_mem _ hx)⟩
  · subst h1 h2
    exact k
theorem cut_to (xs : List D) (j : Nat) (h : j ≤ xs.length) : DL.cutD xs none (some (j : Int)) = xs.take j := by
  unfold DL.cutD
  rw [HT.sIx_nat, HT.sIx_none, List.drop_zero, Nat.sub_zero, Nat.min_eq_left h]
theorem cut_from (xs : List D) (j : Nat) (h : j ≤ xs.length) : DL.cutD xs (some (j : Int)) none = xs.drop j := by
  unfold DL.cutD
  rw [HT.sIx_nat, HT.sIx_none, Nat.min_eq_left h]
  rw [List.take_of_length_le]
  rw [List.length_drop]
  exact Nat.le_refl _
theorem ne_strSelf (s : Str) : D.ne? (.str s) (.str s) = some false := by
  show some (!decide (s = s)) = _
  rw [decide_eq_true rfl]
  rfl
end DL

/-! DLive: walks over lists of the store; isinstance and repr where such lists stand. -/
namespace DL
open PySem PySem.Spec PyProof.Rows L2 Evl

/-- what is walked: things that stand fast, or a list of the store as it stands at each turn -/
inductive Src where
  | fix (ds : List D) | live (k : Nat)
namespace M
def srcI (m : M D) : M Src := M.bind m fun d => match d with
  | .ref k => (fun w => match w.S k with
    | some (.lst _) => .ok (.live k) w
    | _ => .bad)
  | d => M.lift ((seqD d).map Src.fix)
/-- the i-th thing of the store's list k, which has n things -/
def at_ (k n i : Nat) (w : W) : Option D := match w.S k with
  | some (.lst ds) => if ds.length = n then ds[i]? else none
  | _ => none
def has (k n : Nat) (w : W) : Bool := match w.S k with
  | some (.lst ds) => decide (ds.length = n)
  | _ => false
def forV (k n : Nat) (f : D → W → Option W) (b : M Flow1) : Nat → M Flow1
  | 0 => fun w => if has k n w then .ok .next w else .bad
  | m + 1 => fun w => match at_ k n (n - (m + 1)) w with
    | none => .bad
    | some d => (match f d w with
      | none => .bad
      | some w1 => (match b w1 with
        | .ok .next w2 => forV k n f b m w2
        | .ok .cont w2 => forV k n f b m w2
        | .ok .brk w2 => .ok .next w2
        | .ok (.ret v) w2 => .ok (.ret v) w2
        | .exc e w2 => .exc e w2
        | .bad => .bad))
def forS (f : D → W → Option W) (b : M Flow1) : Src → M Flow1
  | .fix ds => forL f b ds
  | .live k => fun w => match w.S k with
    | some (.lst ds) => forV k ds.length f b ds.length w
    | _ => .bad
def lcV (k n : Nat) (vs : List Nat) (f : D → W → Option W) (t : M Bool) (e : M D) : Nat → List D → M R
  | 0, acc => fun w => if has k n w then .ok (.own acc) w else .bad
  | m + 1, acc => fun w => match at_ k n (n - (m + 1)) w with
    | none => .bad
    | some d => (match f d w with
      | none => .bad
      | some w1 => (match t w1 with
        | .ok true w2 => (match e w2 with
          | .ok y w3 => if acc.length < big then lcV k n vs f t e m (acc ++ [y]) (w3.wipe vs) else .bad
          | _ => .bad)
        | .ok false w2 => lcV k n vs f t e m acc (w2.wipe vs)
        | _ => .bad))
def lcS (vs : List Nat) (f : D → W → Option W) (t : M Bool) (e : M D) : Src → M R
  | .fix ds => lc vs f t e ds
  | .live k => fun w => match w.S k with
    | some (.lst ds) => lcV k ds.length vs f t e ds.length [] (w.wipe vs)
    | _ => .bad
def lcSB (mi : M Src) (vs : List Nat) (f : D → W → Option W) (t : M Bool) (e : M D) : M R := M.bind mi fun s => lcS vs f t e s
def forSB (mi : M Src) (f : D → W → Option W) (b : M Flow1) : M Flow1 := M.bind mi fun s => forS f b s
end M
theorem has_ok {k n : Nat} {w : W} (h : M.has k n w = true) : ∃ ds, w.S k = some (.lst ds) ∧ ds.length = n := by
  unfold M.has at h
  split at h
  · exact ⟨_, by assumption, of_decide_eq_true h⟩
  · cases h
theorem at_ok {k n i : Nat} {w : W} {d : D} (h : M.at_ k n i w = some d) : ∃ ds, w.S k = some (.lst ds) ∧ ds.length = n ∧ ds[i]? = some d := by
  unfold M.at_ at h
  split at h
  · split at h
    · exact ⟨_, by assumption, by assumption, h⟩
    · cases h
  · cases h
def SrcOk (K : PySem.W.Frag) (g : Wd) (J : It) : Src → Prop
  | .fix ds => ItOk K g J ds
  | .live k => k < g.n ∧ J = Itl K (g.ρ k)
section
variable (cm : Nat → Addr) (X : Cx) (xw : WX)
structure DIS (tg iter : Expr) (m : M Src) : Prop where
  ex : ∃ wi : TI, PI X tg iter wi ∧ ∀ g w σ H (R : It → Hp → Prop), Rel X.K cm g w σ H → GPost X.K cm xw g w σ H (fun g' _ H' s => ∀ J, SrcOk X.K g' J s → R J H') (m w) → wi σ H R
end
section
variable {cm : Nat → Addr} {X : Cx} {xw : WX} {tg iter e : Expr} {m : M D} {mb : M Flow1} {f : D → W → Option W} {ks : List Nat} {body : List Stmt} {pos : Pos}
theorem di_srcI (he : DV cm X xw e m) : DIS cm X xw tg e (M.srcI m) := by
  obtain ⟨t, pe, o⟩ := he
  refine ⟨_, pi_seq pe, fun g w σ H R r k => ?_⟩
  refine o g w σ H _ r (GPost.imp (fun g1 w1 H1 d r1 s1 k1 v q => ?_) (GPost.bind k))
  cases q with
  | tup h1 h2 =>
    obtain ⟨z, e1, k2⟩ := GPost.lift k1
    cases e1
    exact ⟨_, rfl, .inr ⟨⟨_, ex_t r1.ex h1⟩, GPost.here r1 k2 _ (itt_ok h1 h2)⟩⟩
  | lst h1 h2 =>
    obtain ⟨z, e1, k2⟩ := GPost.lift k1
    cases e1
    exact ⟨_, rfl, .inl ⟨⟨_, .inl (.inl (r1.ex _ _ h1))⟩, GPost.here r1 k2 _ (itl_ok (.inl (.inl h1)) h2)⟩⟩
  | scr h1 =>
    obtain ⟨z, e1, k2⟩ := GPost.lift k1
    cases e1
    exact ⟨_, rfl, .inl ⟨⟨_, ex_l r1.ex h1⟩, GPost.here r1 k2 _ (itl_ok h1 (reps_ints _))⟩⟩
  | ref hk =>
    rename_i kk
    have k1 : GPost X.K cm xw g1 w1 σ H1 (fun g' _ H' s => ∀ J, SrcOk X.K g' J s → R J H') (match w1.S kk with
      | some (.lst _) => .ok (.live kk) w1
      | _ => .bad) := k1
    split at k1
    · rename_i ds es
      obtain ⟨vs, h1, h2⟩ := (r1.store kk _ es).2.2
      exact ⟨_, rfl, .inl ⟨⟨_, .inl (.inl h1)⟩, GPost.here r1 k1 _ ⟨hk, rfl⟩⟩⟩
    · exact k1.elim
  | non => exact (GPost.lift k1).elim fun _ h => by cases h.1
  | bl _ => exact (GPost.lift k1).elim fun _ h => by cases h.1
  | int _ => exact (GPost.lift k1).elim fun _ h => by cases h.1
  | str _ => exact (GPost.lift k1).elim fun _ h => by cases h.1
  | dic _ => exact (GPost.lift k1).elim fun _ h => by cases h.1
  | raw _ => exact (GPost.lift k1).elim fun _ h => by cases h.1
/-- a store's list's reads -/
theorem live_at {K : PySem.W.Frag} {g : Wd} {w : W} {σ : L2.St} {H : Hp} {k n i : Nat} {d : D} {a : Addr} (r : Rel K cm g w σ H) (ea : g.ρ k = a) (h : M.at_ k n i w = some d) : (Itl K a).go i H ∧ ∀ x H', (Itl K a).yld i H x H' → H' = H ∧ Rep K g x d := by
  obtain ⟨ds, h1, h2, h3⟩ := at_ok h
  obtain ⟨vs, q1, q2⟩ := (r.store k _ h1).2.2
  rw [ea] at q1
  obtain ⟨v, e1, e2⟩ := q2.get h3
  have hs : SqL K H a vs := .inl (.inl q1)
  refine ⟨⟨vs, v, hs, e1⟩, fun x H' ⟨p1, p2⟩ => ⟨p1, ?_⟩⟩
  have := p2 vs hs
  rw [e1] at this
  cases this
  exact e2
theorem live_stop {K : PySem.W.Frag} {g : Wd} {w : W} {σ : L2.St} {H : Hp} {k n : Nat} {a : Addr} (r : Rel K cm g w σ H) (ea : g.ρ k = a) (h : M.has k n w = true) : (Itl K a).stop n H := by
  obtain ⟨ds, h1, h2⟩ := has_ok h
  obtain ⟨vs, q1, q2⟩ := (r.store k _ h1).2.2
  rw [ea] at q1
  exact ⟨vs, .inl (.inl q1), by rw [q2.length, h2]; exact Nat.le_refl _⟩
theorem ds_forS {ms : M Src} (hp : PassesOwn (model X.prog X.w) X.A X.env X.xe) (hc : X.calm = true) (hi : DIS cm X xw tg iter ms) (hg : DG cm X tg ks f) (hb : DSs cm X xw body mb) (hs : ∀ x, foldedSetIterable iter X.env x = pure x := by intro _; rfl) :
    DS cm X xw (.For tg iter body [] pos) (M.forSB ms f mb) := by
  obtain ⟨wi, pi, oi⟩ := hi
  obtain ⟨tg', pg, og⟩ := hg
  obtain ⟨tb, pb, ob⟩ := hb
  refine ⟨_, ps_for hp hc pi pg pb hs, fun g w σ H D N r hN k => ?_⟩
  refine oi g w σ H _ r (GPost.imp (fun g1 w1 H1 src r1 s1 k1 J hJ => ?_) (SPost.bind k))
  have hN1 : ∀ a, New g1 w1 σ H1 a → N a := fun a h => hN a (s1.newIn h)
  -- one turn: the target, the body, then what is left
  have turn : ∀ (next : M Flow1) (g' : Wd) (w' : W) (σ' : L2.St) (H' : Hp) (d : DL.D) (x : V) (Hx : Hp), Step g1 w1 σ H1 g' w' σ' H' → SPost X.K cm xw N D g' w' σ' H' (match f d w' with
      | none => .bad
      | some w1 => (match mb w1 with
        | .ok .next w2 => next w2
        | .ok .cont w2 => next w2
        | .ok .brk w2 => .ok .next w2
        | .ok (.ret v) w2 => .ok (.ret v) w2
        | .exc e w2 => .exc e w2
        | .bad => .bad)) → ∀ g2, Rel X.K cm g2 w' σ' Hx → Step g' w' σ' H' g2 w' σ' Hx → Rep X.K g2 x d → tg' x σ' Hx fun σ2 H2 => tb { nx := fun σ2 H2 => ∃ g2 w2, Rel X.K cm g2 w2 σ2 H2 ∧ Step g1 w1 σ H1 g2 w2 σ2 H2 ∧ SPost X.K cm xw N D g2 w2 σ2 H2 (next w2), rt := D.rt, bk := D.nx, ct := fun σ2 H2 => ∃ g2 w2, Rel X.K cm g2 w2 σ2 H2 ∧ Step g1 w1 σ H1 g2 w2 σ2 H2 ∧ SPost X.K cm xw N D g2 w2 σ2 H2 (next w2) } σ2 H2 := by
    intro next g' w' σ' H' d x Hx s' k' g2 r2 s2 q2
    refine og g2 w' σ' Hx x _ _ r2 q2 ?_
    cases e1 : f d w' with
    | none => simp only [e1] at k'; exact k'.elim
    | some w3 =>
      simp only [e1] at k'
      intro σ3 r3 s3 _
      have s13 := s'.trans (s2.trans s3)
      refine ob g2 w3 σ3 Hx _ N r3 (fun a h => hN1 a (s13.newIn' h)) ?_
      have k3 := SPost.back (s2.trans s3) k'
      cases e2 : mb w3 with
      | ok fl w4 =>
        simp only [e2] at k3
        cases fl with
        | next => exact fun g4 σ4 H4 r4 s4 => ⟨g4, w4, r4, s13.trans s4, SPost.back s4 k3⟩
        | cont => exact fun g4 σ4 H4 r4 s4 => ⟨g4, w4, r4, s13.trans s4, SPost.back s4 k3⟩
        | brk => exact fun g4 σ4 H4 r4 s4 => k3 g4 σ4 H4 r4 s4
        | ret v => exact fun g4 σ4 H4 r4 s4 => k3 g4 σ4 H4 r4 s4
      | exc x w4 => simp only [e2] at k3; exact k3
      | bad => simp only [e2] at k3; exact k3
  cases src with
  | fix items =>
    refine ⟨fun i m σ' H' => i ≤ items.length ∧ m = items.length - i ∧ ∃ g' w', Rel X.K cm g' w' σ' H' ∧ Step g1 w1 σ H1 g' w' σ' H' ∧ SPost X.K cm xw N D g' w' σ' H' (M.forL f mb (items.drop i) w'), ⟨items.length, Nat.zero_le _, rfl, g1, w1, r1, .refl .., k1⟩, ?_⟩
    rintro i m σ' H' ⟨hi, rfl, g', w', r', s', k'⟩
    obtain ⟨hgo, hstop⟩ := (ItOk.mono hJ s'.le) g' H' (.refl _) r'.ex
    by_cases c : i < items.length
    · have ed : items[i]? = some items[i] := List.getElem?_eq_getElem c
      obtain ⟨go, yl⟩ := hgo i _ ed
      refine .inr ⟨go, fun σ2 H2 => ∃ g2 w2, Rel X.K cm g2 w2 σ2 H2 ∧ Step g1 w1 σ H1 g2 w2 σ2 H2 ∧ SPost X.K cm xw N D g2 w2 σ2 H2 (M.forL f mb (items.drop (i + 1)) w2), fun σ2 H2 ⟨g2, w2, a, b, c2⟩ => ⟨items.length - (i + 1), by omega, c, rfl, g2, w2, a, b, c2⟩, fun x Hx yx => ?_⟩
      rw [List.drop_eq_getElem_cons c] at k'
      unfold M.forL at k'
      rcases yl x Hx yx with ⟨rfl, q⟩ | ⟨p, o, hp, rfl, q⟩
      · exact turn (M.forL f mb (items.drop (i + 1))) g' w' σ' Hx items[i] x Hx s' k' g' r' (.refl ..) q
      · obtain ⟨r2, s2⟩ := r'.lay (o := o) hp
        exact turn (M.forL f mb (items.drop (i + 1))) g' w' σ' H' items[i] x _ s' k' _ r2 s2 q
    · have ei : i = items.length := by omega
      subst ei
      refine .inl ⟨hstop, ?_⟩
      rw [List.drop_length] at k'
      exact SPost.here r' k'
  | live kk =>
    obtain ⟨hk, rfl⟩ := hJ
    have k1 : SPost X.K cm xw N D g1 w1 σ H1 (match w1.S kk with
      | some (.lst ds) => M.forV kk ds.length f mb ds.length w1
      | _ => .bad) := k1
    split at k1
    · rename_i ds es
      generalize ds.length = n at k1
      refine ⟨fun i m σ' H' => i ≤ n ∧ m = n - i ∧ ∃ g' w', Rel X.K cm g' w' σ' H' ∧ Step g1 w1 σ H1 g' w' σ' H' ∧ SPost X.K cm xw N D g' w' σ' H' (M.forV kk n f mb (n - i) w'), ⟨n, Nat.zero_le _, rfl, g1, w1, r1, .refl .., k1⟩, ?_⟩
      rintro i m σ' H' ⟨hi, rfl, g', w', r', s', k'⟩
      by_cases c : i < n
      · rw [show n - i = (n - (i + 1)) + 1 from by omega] at k'
        unfold M.forV at k'
        rw [show n - (n - (i + 1) + 1) = i from by omega] at k'
        cases ed : M.at_ kk n i w' with
        | none => simp only [ed] at k'; exact k'.elim
        | some d =>
          simp only [ed] at k'
          obtain ⟨go, yl⟩ := live_at r' (s'.le.ρ kk hk) ed
          refine .inr ⟨go, fun σ2 H2 => ∃ g2 w2, Rel X.K cm g2 w2 σ2 H2 ∧ Step g1 w1 σ H1 g2 w2 σ2 H2 ∧ SPost X.K cm xw N D g2 w2 σ2 H2 (M.forV kk n f mb (n - (i + 1)) w2), fun σ2 H2 ⟨g2, w2, a, b, c2⟩ => ⟨n - (i + 1), by omega, c, rfl, g2, w2, a, b, c2⟩, fun x Hx yx => ?_⟩
          obtain ⟨rfl, q⟩ := yl x Hx yx
          exact turn (M.forV kk n f mb (n - (i + 1))) g' w' σ' Hx d x Hx s' k' g' r' (.refl ..) q
      · have ei : i = n := by omega
        subst ei
        rw [Nat.sub_self] at k'
        unfold M.forV at k'
        split at k'
        · rename_i hh
          exact .inl ⟨live_stop r' (s'.le.ρ kk hk) hh, SPost.here r' k'⟩
        · exact k'.elim
    · exact k1.elim
end

/-! ### comprehensions -/
theorem wipe_wipe {σ : L2.St} {vs : List Nat} : L2.wipe (L2.wipe σ vs) vs = L2.wipe σ vs := by
  apply List.ext_getElem?
  intro j
  by_cases cj : j ∈ vs
  · by_cases lj : j < σ.length
    · rw [wipe_at cj lj, wipe_at cj (by rw [wipe_length]; exact lj)]
    · rw [List.getElem?_eq_none (by rw [wipe_length, wipe_length]; omega), List.getElem?_eq_none (by rw [wipe_length]; omega)]
  · rw [wipe_ne cj]
section
variable {cm : Nat → Addr} {X : Cx} {xw : WX} {elt tg iter : Expr} {ifs : List Expr} {scope : Scope} {own : List (Str × Nat)} {pos spos : Pos} {f : D → W → Option W} {ks : List Nat} {mt : M Bool} {me : M D} {ms : M Src}
/-- what holds between two turns: acc stands at p -/
def LcI (X : Cx) (cm : Nat → Addr) (xw : WX) (N : Addr → Prop) (Q : VK) (vs : List Nat) (g1 : Wd) (w1 : W) (σ : L2.St) (H1 : Hp) (p : Addr) (next : List DL.D → M R) (H2 : Hp) : Prop :=
  ∃ g2 w2 acc ds, Rel X.K cm g2 w2 (L2.wipe σ vs) H2 ∧ Step g1 w1 σ H1 g2 w2 (L2.wipe σ vs) (er H2 p) ∧ (∀ v ∈ vs, ∀ s, w2.E[v]? = some s → s = .un) ∧ H2 p = some (.lst acc) ∧ g2.B p = none ∧ ¬ Priv w2 g2 (L2.wipe σ vs) p ∧ Reps X.K g2 acc ds ∧ GPost X.K cm xw g1 w1 σ H1 (PR X.K N σ Q) (next ds w2)
/-- one turn -/
theorem lc_turn {vs : List Nat} (hks : ∀ j ∈ ks, j ∈ vs) {N : Addr → Prop} {Q : VK} {g1 : Wd} {w1 : W} {σ : L2.St} {H1 : Hp} {p : Addr} (next : List DL.D → M R) {g' : Wd} {w' : W} {H' Hx : Hp} {acc : List V} {ds : List DL.D} {d : DL.D} {x : V}
    (s' : Step g1 w1 σ H1 g' w' (L2.wipe σ vs) (er H' p)) (hD' : H' p = some (.lst acc)) (bD' : g'.B p = none) (pD' : ¬ Priv w' g' (L2.wipe σ vs) p) (q' : Reps X.K g' acc ds)
    (k' : GPost X.K cm xw g1 w1 σ H1 (PR X.K N σ Q) (match f d w' with
      | none => .bad
      | some w1 => (match mt w1 with
        | .ok true w2 => (match me w2 with
          | .ok y w3 => if ds.length < big then next (ds ++ [y]) (w3.wipe vs) else .bad
          | _ => .bad)
        | .ok false w2 => next ds (w2.wipe vs)
        | _ => .bad))) (g2 : Wd) (r2 : Rel X.K cm g2 w' (L2.wipe σ vs) Hx) (s2 : Step g' w' (L2.wipe σ vs) H' g2 w' (L2.wipe σ vs) Hx) (q2 : Rep X.K g2 x d) :
    tG X.K cm ks f x (L2.wipe σ vs) Hx fun σ2 H2 => L2.wipe σ2 vs = L2.wipe σ vs ∧ tT X.K cm xF mt σ2 H2 fun b H3 => if b = true then tV X.K cm xF me σ2 H3 fun y H4 => ∃ acc, H4 p = some (.lst acc) ∧ acc.length < sizeLine ∧
      LcI X cm xw N Q vs g1 w1 σ H1 p next (upd H4 p (.lst (acc ++ [y]))) else LcI X cm xw N Q vs g1 w1 σ H1 p next H3 := by
  refine ⟨g2, w', d, r2, q2, ?_⟩
  cases e1 : f d w' with
  | none => simp only [e1] at k'; exact k'.elim
  | some w3 =>
    simp only [e1] at k'
    intro σ3 r3 s3 d3
    have ew := wipe_dif d3 hks
    rw [wipe_wipe] at ew
    have s13 := s2.trans s3
    refine ⟨ew, g2, w3, r3, ?_⟩
    cases e2 : mt w3 with
    | ok b w4 =>
      intro g4 H4 r4 s4
      have s14 := s13.trans s4
      cases b with
      | false =>
        simp only [e2] at k'
        show if false = true then _ else _
        rw [if_neg (by decide)]
        obtain ⟨r5, s5⟩ := r4.wipe vs
        rw [ew] at r5 s5
        have s15 := s14.trans s5
        obtain ⟨h1, h2, h3⟩ := s15.keepD hD' bD' pD'
        exact ⟨g4, w4.wipe vs, acc, ds, r5, s'.trans s15.er, fun v hv s => wipeE_un hv, h1, h2, h3, q'.mono s15.le, k'⟩
      | true =>
        simp only [e2] at k'
        show if true = true then _ else _
        rw [if_pos rfl]
        refine ⟨g4, w4, r4, ?_⟩
        cases e3 : me w4 with
        | ok y w5 =>
          simp only [e3] at k'
          split at k'
          · rename_i hlen
            intro g5 H5 r5 s5 v5 q5
            obtain ⟨r6, s6⟩ := r5.wipe vs
            rw [ew] at r6 s6
            have s16 := (s14.trans s5).trans s6
            obtain ⟨h1, h2, h3⟩ := s16.keepD hD' bD' pD'
            refine ⟨acc, h1, by rw [← big_eq, q'.length]; exact hlen, g5, w5.wipe vs, acc ++ [v5], ds ++ [y], r6.mut h2 h3, ?_, fun v hv s => wipeE_un hv, upd_same, h2, h3, (q'.mono s16.le).append (.cons q5 .nil), k'⟩
            rw [er_upd]
            exact s'.trans s16.er
          · exact k'.elim
        | exc x w5 => simp only [e3] at k'; exact k'.elim
        | bad => simp only [e3] at k'; exact k'.elim
    | exc x w4 => simp only [e2] at k'; exact k'.elim
    | bad => simp only [e2] at k'; exact k'.elim
theorem lcS_ok {wi : TI} (oi : ∀ g w σ H (R : It → Hp → Prop), Rel X.K cm g w σ H → GPost X.K cm xw g w σ H (fun g' _ H' s => ∀ J, SrcOk X.K g' J s → R J H') (ms w) → wi σ H R) {vs : List Nat} (hks : ∀ j ∈ ks, j ∈ vs) :
    EOk cm X xw (tLc wi (tG X.K cm ks f) (tT X.K cm xF mt) (tV X.K cm xF me) vs) (M.lcSB ms vs f mt me) := by
  intro g w σ H Q N r hN k
  refine oi g w σ H _ r (GPost.imp (fun g1 w1 H1 src r1 s1 k1 J hJ => ?_) (GPost.bind k))
  have hN1 : ∀ a, New g1 w1 σ H1 a → N a := fun a h => hN a (s1.newIn h)
  intro D hD
  obtain ⟨rw0, sw0⟩ := r1.wipe vs
  obtain ⟨rD, sD, bD, pD⟩ := rw0.fresh (o := .lst []) hD
  have fin : ∀ H', LcI X cm xw N Q vs g1 w1 σ H1 D (fun ds => M.ret (.own ds)) H' → Q (.ref D) H' := fun H' ⟨g', w', acc, ds, r', s', un', hD', bD', pD', q', k'⟩ => by
    have hp : ∀ a, Priv w' g' σ a ↔ Priv w' g' (L2.wipe σ vs) a := fun a => or_congr Iff.rfl (exists_congr fun _ => own_unwipe un')
    exact k' g' H' (r'.unwipe un') ⟨s'.le, s'.new, fun a o h np => (er_some (s'.frame a o h np)).2, fun a p => s'.priv a ((hp a).mp p)⟩ (.ref D) ⟨D, acc, rfl, hD', bD', fun p => pD' ((hp D).mp p), hN1 D (.inl hD), q'⟩
  have start : ∀ next : List DL.D → M R, GPost X.K cm xw g1 w1 σ H1 (PR X.K N σ Q) (next [] (w1.wipe vs)) → LcI X cm xw N Q vs g1 w1 σ H1 D next (upd H1 D (.lst [])) := fun next k0 => by
    refine ⟨g1, w1.wipe vs, [], [], rD, ?_, fun v hv s => wipeE_un hv, upd_same, bD, pD, .nil, k0⟩
    rw [er_upd, er_free hD]
    exact sw0
  cases src with
  | fix items =>
    refine ⟨fun i m H' => i ≤ items.length ∧ m = items.length - i ∧ LcI X cm xw N Q vs g1 w1 σ H1 D (M.lcL vs f mt me (items.drop i)) H', ⟨items.length, Nat.zero_le _, rfl, start (M.lcL vs f mt me (items.drop 0)) k1⟩, ?_⟩
    rintro i m H' ⟨hi, rfl, g', w', acc, ds, r', s', un', hD', bD', pD', q', k'⟩
    obtain ⟨hgo, hstop⟩ := (ItOk.mono hJ s'.le) g' H' (.refl _) r'.ex
    by_cases c : i < items.length
    · have ed : items[i]? = some items[i] := List.getElem?_eq_getElem c
      obtain ⟨go, yl⟩ := hgo i _ ed
      refine .inr ⟨go, LcI X cm xw N Q vs g1 w1 σ H1 D (M.lcL vs f mt me (items.drop (i + 1))), fun H2 h2 => ⟨items.length - (i + 1), by omega, c, rfl, h2⟩, fun x Hx yx => ?_⟩
      rw [List.drop_eq_getElem_cons c] at k'
      unfold M.lcL at k'
      rcases yl x Hx yx with ⟨rfl, q⟩ | ⟨p, o, hp, rfl, q⟩
      · exact lc_turn hks (M.lcL vs f mt me (items.drop (i + 1))) s' hD' bD' pD' q' k' g' r' (.refl ..) q
      · obtain ⟨r2, s2⟩ := r'.lay (o := o) hp
        exact lc_turn hks (M.lcL vs f mt me (items.drop (i + 1))) s' hD' bD' pD' q' k' _ r2 s2 q
    · have ei : i = items.length := by omega
      subst ei
      refine .inl ⟨hstop, fin H' ⟨g', w', acc, ds, r', s', un', hD', bD', pD', q', ?_⟩⟩
      rw [List.drop_length] at k'
      exact k'
  | live kk =>
    obtain ⟨hk, rfl⟩ := hJ
    have k1 : GPost X.K cm xw g1 w1 σ H1 (PR X.K N σ Q) (match w1.S kk with
      | some (.lst ds) => M.lcV kk ds.length vs f mt me ds.length [] (w1.wipe vs)
      | _ => .bad) := k1
    split at k1
    · rename_i ds0 es
      generalize ds0.length = n at k1
      refine ⟨fun i m H' => i ≤ n ∧ m = n - i ∧ LcI X cm xw N Q vs g1 w1 σ H1 D (M.lcV kk n vs f mt me (n - i)) H', ⟨n, Nat.zero_le _, rfl, start (M.lcV kk n vs f mt me (n - 0)) k1⟩, ?_⟩
      rintro i m H' ⟨hi, rfl, g', w', acc, ds, r', s', un', hD', bD', pD', q', k'⟩
      by_cases c : i < n
      · rw [show n - i = (n - (i + 1)) + 1 from by omega] at k'
        unfold M.lcV at k'
        rw [show n - (n - (i + 1) + 1) = i from by omega] at k'
        cases ed : M.at_ kk n i w' with
        | none => simp only [ed] at k'; exact k'.elim
        | some d =>
          simp only [ed] at k'
          obtain ⟨go, yl⟩ := live_at r' (s'.le.ρ kk hk) ed
          refine .inr ⟨go, LcI X cm xw N Q vs g1 w1 σ H1 D (M.lcV kk n vs f mt me (n - (i + 1))), fun H2 h2 => ⟨n - (i + 1), by omega, c, rfl, h2⟩, fun x Hx yx => ?_⟩
          obtain ⟨rfl, q⟩ := yl x Hx yx
          exact lc_turn hks (M.lcV kk n vs f mt me (n - (i + 1))) s' hD' bD' pD' q' k' g' r' (.refl ..) q
      · have ei : i = n := by omega
        subst ei
        rw [Nat.sub_self] at k'
        unfold M.lcV at k'
        split at k'
        · rename_i hh
          exact .inl ⟨live_stop r' (s'.le.ρ kk hk) hh, fin H' ⟨g', w', acc, ds, r', s', un', hD', bD', pD', q', k'⟩⟩
        · exact k'.elim
    · exact k1.elim
theorem de_lcS (hc : X.calm = true) (hN : X.N.Nodup) (hi : DIS cm X xw tg iter ms) (ok : BlkOk X.N X.env.scope scope own)
    (hg : ∀ (s : Shared) (H : Hp) (C : Addr) (cl : List (Str × Addr)) (fp : List Addr), DG cm (X.blk s H scope (compEnvC scope cl C X.env) fp) tg ks f)
    (ht : ∀ (s : Shared) (H : Hp) (C : Addr) (cl : List (Str × Addr)) (fp : List Addr), DTs cm (X.blk s H scope (compEnvC scope cl C X.env) fp) xF ifs mt)
    (he : ∀ (s : Shared) (H : Hp) (C : Addr) (cl : List (Str × Addr)) (fp : List Addr), DV cm (X.blk s H scope (compEnvC scope cl C X.env) fp) xF elt me)
    (hk : (ks.all fun j => (own.map (·.2)).contains j) = true := by decide) (hs : ∀ x, foldedSetIterable iter X.env x = pure x := by intro _; rfl) :
    DE cm X xw (.ListComp elt [⟨tg, iter, ifs, 0⟩] scope pos) (M.lcSB ms (own.map (·.2)) f mt me) := by
  obtain ⟨wi, pi, oi⟩ := hi
  exact ⟨_, pe_lc hc hN pi ok (fun s H C cl fp => (hg s H C cl fp).canon) (fun s H C cl fp => (ht s H C cl fp).run) (fun s H C cl fp => (he s H C cl fp).canon) hs, lcS_ok oi fun j hj => by simpa using List.all_eq_true.mp hk j hj⟩
theorem ds_setLcS {i : Nat} {y : Str} {py : Pos} (hc : X.calm = true) (hN : X.N.Nodup) (hy : X.N[i]? = some y) (hyl : X.env.scope.names.lookup y = some .local)
    (hsw : swapsWith (.ListComp elt [⟨tg, iter, ifs, 0⟩] scope pos) (some (.Name y py)) spos.line X.env = pure true) (hi : DIS cm X xw tg iter ms) (ok : BlkOk X.N X.env.scope scope own)
    (hg : ∀ (s : Shared) (H : Hp) (C : Addr) (cl : List (Str × Addr)) (fp : List Addr), DG cm (X.blk s H scope (compEnvC scope cl C X.env) fp) tg ks f)
    (ht : ∀ (s : Shared) (H : Hp) (C : Addr) (cl : List (Str × Addr)) (fp : List Addr), DTs cm (X.blk s H scope (compEnvC scope cl C X.env) fp) xF ifs mt)
    (he : ∀ (s : Shared) (H : Hp) (C : Addr) (cl : List (Str × Addr)) (fp : List Addr), DV cm (X.blk s H scope (compEnvC scope cl C X.env) fp) xF elt me)
    (hk : (ks.all fun j => (own.map (·.2)).contains j) = true := by decide) (hs : ∀ x, foldedSetIterable iter X.env x = pure x := by intro _; rfl) :
    DS cm X xw (.Assign [.Name y py] (.ListComp elt [⟨tg, iter, ifs, 0⟩] scope pos) spos) (M.asg i (M.lcSB ms (own.map (·.2)) f mt me)) := by
  obtain ⟨wi, pi, oi⟩ := hi
  exact ⟨_, ps_setLc hc hN hy hyl hsw pi ok (fun s H C cl fp => (hg s H C cl fp).canon) (fun s H C cl fp => (ht s H C cl fp).run) (fun s H C cl fp => (he s H C cl fp).canon) hs, sok_asg (lcS_ok oi fun j hj => by simpa using List.all_eq_true.mp hk j hj)⟩
end
end DL

/-! DLive2: isinstance and repr where lists of the store stand; what is said of live walks. -/
namespace DL
open PySem PySem.Spec PyProof.Rows L2 Evl
/-! ### isinstance -/
def D.isaW (S : Nat → Option MObj) (d : D) (T : Ty) : Option Bool := match d with
  | .ref k => (match S k with
    | some (.lst _) => D.isa (.lst []) T
    | _ => none)
  | d => d.isa T
def D.tyOfW (S : Nat → Option MObj) (d : D) : Option String := match d with
  | .ref k => (match S k with
    | some (.lst _) => some "list"
    | _ => none)
  | d => d.tyOf
theorem isaW_kit {K : PySem.W.Frag} {S : Nat → Option MObj} {d : D} {T : Ty} {b : Bool} (h : d.isaW S T = some b) : ∃ t, d.tyOfW S = some t ∧ PySem.W.kitOne K (.type t) (.type T.name) = some b := by
  unfold D.isaW at h
  unfold D.tyOfW
  split at h
  · split at h
    · rename_i e
      obtain ⟨t, h1, h2⟩ := isa_kit (K := K) h
      cases h1
      exact ⟨"list", by simp only [e], h2⟩
    · cases h
  · rename_i d nr
    obtain ⟨t, h1, h2⟩ := isa_kit (K := K) h
    exact ⟨t, h1, h2⟩
theorem Rel.tyW {K : PySem.W.Frag} {cm : Nat → Addr} {g : Wd} {w : W} {σ : L2.St} {H : Hp} {v : V} {d : D} {t : String} (r : Rel K cm g w σ H) (q : Rep K g v d) (h : d.tyOfW w.S = some t) : TyX K H v (.type t) := by
  unfold D.tyOfW at h
  split at h
  · rename_i k
    split at h
    · rename_i ds e
      cases h
      cases q with
      | ref hk =>
        obtain ⟨vs, h1, _⟩ := (r.store k _ e).2.2
        exact .base (.lst h1)
    · cases h
  · exact q.tyX r.ex h
namespace M
def isaS (m : M D) (T : Ty) : M D := M.bind m fun d w => match d.isaW w.S T with
  | some b => .ok (.bl b) w
  | none => .bad
def isa2S (m : M D) (T U : Ty) : M D := M.bind m fun d w => match d.isaW w.S T, d.isaW w.S U with
  | some a, some b => .ok (.bl (a || b)) w
  | _, _ => .bad
end M
section
variable {cm : Nat → Addr} {X : Cx} {xw : WX} {x y z : Str} {p p1 p2 p3 pos : Pos} {e : Expr} {m : M D}
theorem dv_isiS (T : Ty) (hg : Gl X x) (hm : X.mg x = none) (hv : bootBuiltins x = some (.builtin "isinstance")) (hgT : Gl X y) (hmT : X.mg y = none) (hvT : bootBuiltins y = some (.type T.name)) (he : DV cm X xw e m) (hn : x ≠ "__name__" := by decide) (hdb : (x == ("__debug__" : Str)) = false := by decide)
    (hn2 : y ≠ "__name__" := by decide) (hdb2 : (y == ("__debug__" : Str)) = false := by decide)
    (hst : starEach [e, .Name y p1] X.env = (false, eval e X.env) :: starEach [.Name y p1] X.env := by rfl) (hst2 : starEach [.Name y p1] X.env = (false, eval (.Name y p1) X.env) :: starEach [] X.env := by rfl)
    (hpl : (backTo pos (starEach [.Name y p1] X.env)).any (·.1) = false := by rfl) :
    DV cm X xw (.Call (.Name x p) [e, .Name y p1] [] pos) (M.isaS m T) := by
  obtain ⟨t, pe, o⟩ := he
  refine ⟨_, pe_callB call_isi hg hm hv (pa_cons pe (pa_cons (pe_bltn (v := .ty T.name) hgT hmT hvT rfl hn2 hdb2) pa_nil hst2) hst) hn hdb hst hpl, fun g w σ H Q r k => ?_⟩
  refine o g w σ H _ r (GPost.imp (fun g1 w1 H1 d r1 s1 k1 v q => ?_) (GPost.bind k))
  cases e2 : d.isaW w1.S T with
  | none => simp only [e2] at k1; exact k1.elim
  | some b =>
    simp only [e2] at k1
    obtain ⟨t, h1, h2⟩ := isaW_kit (K := X.K) e2
    exact ⟨v, .ty T.name, .type t, .type T.name, b, rfl, .ty _, r1.tyW q h1, h2, GPost.v r1 k1 (.bl b)⟩
theorem dv_isi2S (T U : Ty) {n : Nat} (hg : Gl X x) (hm : X.mg x = none) (hv : bootBuiltins x = some (.builtin "isinstance")) (hgT : Gl X y) (hmT : X.mg y = none) (hvT : bootBuiltins y = some (.type T.name)) (hgU : Gl X z) (hmU : X.mg z = none) (hvU : bootBuiltins z = some (.type U.name)) (he : DV cm X xw e m)
    (hn : x ≠ "__name__" := by decide) (hdb : (x == ("__debug__" : Str)) = false := by decide) (hn2 : y ≠ "__name__" := by decide) (hdb2 : (y == ("__debug__" : Str)) = false := by decide) (hn3 : z ≠ "__name__" := by decide) (hdb3 : (z == ("__debug__" : Str)) = false := by decide)
    (hst : starEach [e, .Tuple [.Name y p1, .Name z p2] n p3] X.env = (false, eval e X.env) :: starEach [.Tuple [.Name y p1, .Name z p2] n p3] X.env := by rfl)
    (hst2 : starEach [.Tuple [.Name y p1, .Name z p2] n p3] X.env = (false, eval (.Tuple [.Name y p1, .Name z p2] n p3) X.env) :: starEach [] X.env := by rfl)
    (hst3 : starEach [.Name y p1, .Name z p2] X.env = (false, eval (.Name y p1) X.env) :: starEach [.Name z p2] X.env := by rfl) (hst4 : starEach [.Name z p2] X.env = (false, eval (.Name z p2) X.env) :: starEach [] X.env := by rfl)
    (hpl : (backTo pos (starEach [.Tuple [.Name y p1, .Name z p2] n p3] X.env)).any (·.1) = false := by rfl) :
    DV cm X xw (.Call (.Name x p) [e, .Tuple [.Name y p1, .Name z p2] n p3] [] pos) (M.isa2S m T U) := by
  obtain ⟨t, pe, o⟩ := he
  refine ⟨_, pe_callB call_isiT hg hm hv (pa_cons pe (pa_cons (pe_tup (pa_cons (pe_bltn (v := .ty T.name) hgT hmT hvT rfl hn2 hdb2) (pa_cons (pe_bltn (v := .ty U.name) hgU hmU hvU rfl hn3 hdb3) pa_nil hst4) hst3)) pa_nil hst2) hst) hn hdb hst hpl, fun g w σ H Q r k => ?_⟩
  refine o g w σ H _ r (GPost.imp (fun g1 w1 H1 d r1 s1 k1 v q => ?_) (GPost.bind k))
  refine ⟨by show 2 ≤ sizeLine; decide, fun tp htp => ?_⟩
  cases ea : d.isaW w1.S T with
  | none => simp only [ea] at k1; exact k1.elim
  | some a =>
    cases eb : d.isaW w1.S U with
    | none => simp only [ea, eb] at k1; exact k1.elim
    | some b =>
      simp only [ea, eb] at k1
      obtain ⟨t, h1, h2⟩ := isaW_kit (K := X.K) ea
      obtain ⟨t', h1', h3⟩ := isaW_kit (K := X.K) eb
      rw [h1] at h1'
      cases h1'
      obtain ⟨r2, s2, _⟩ := r1.fresh (o := .tup [V.ty T.name, V.ty U.name]) htp
      refine ⟨v, tp, [V.ty T.name, V.ty U.name], .type t, [.type T.name, .type U.name], a || b, rfl, upd_same, .cons (.ty _) (.cons (.ty _) .nil), (r2.tyW q h1), ?_, k1 _ _ r2 s2 _ (.bl _)⟩
      refine kitAny_cons h2 (fun ha => ?_) (fun ha => by rw [ha]; rfl)
      rw [ha, Bool.false_or]
      exact kitAny_cons h3 (fun hb => by rw [hb]; exact kitAny_nil) (fun hb => hb)
end
/-! ### repr: lists of the store, and such within them -/
namespace D
mutual
/-- data as the library's; r: what the store's numbers are -/
def pydG (r : Nat → Option PyData) : D → Option PyData
  | .non => some .none
  | .bl b => some (.bool b)
  | .int i => some (.int i)
  | .str s => some (.str s)
  | .lst ds => (pydsG r ds).map PyData.list
  | .tup ds => (pydsG r ds).map PyData.tuple
  | .dic => some (.dict [])
  | .ref k => r k
  | .scr _ => none
  | .raw _ => none
def pydsG (r : Nat → Option PyData) : List D → Option (List PyData)
  | [] => some []
  | d :: ds => match pydG r d with
    | some p => (match pydsG r ds with
      | some ps => some (p :: ps)
      | none => none)
    | none => none
end
/-- the store's list k, n levels deep -/
def refF (S : Nat → Option MObj) : Nat → Nat → Option PyData
  | 0, _ => none
  | n + 1, k => match S k with
    | some (.lst ds) => (pydsG (refF S n) ds).map PyData.list
    | _ => none
end D
section
variable {K : PySem.W.Frag} {cm : Nat → Addr} {g : Wd} {w : W} {σ : L2.St} {H : Hp} {rf : Nat → Option PyData}
mutual
theorem Rep.dqG (ex : Ex g.B H) (hr : ∀ k p, k < g.n → rf k = some p → Dq K H (.ref (g.ρ k)) p) : ∀ (d : D) (v : V) (p : PyData), Rep K g v d → d.pydG rf = some p → Dq K H v p
  | .non, _, _, h, q => by cases h; unfold D.pydG at q; cases q; exact .non
  | .bl b, _, _, h, q => by cases h; unfold D.pydG at q; cases q; exact .bl b
  | .int i, _, _, h, q => by cases h; unfold D.pydG at q; cases q; exact .int i
  | .str s, _, _, h, q => by cases h; unfold D.pydG at q; cases q; exact .str s
  | .lst ds, _, p, h, q => by
    unfold D.pydG at q
    obtain ⟨ps, e2, rfl⟩ := Option.map_eq_some_iff.mp q
    cases h with
    | lst h1 h2 => exact .lst (.inl (.inl (ex _ _ h1))) (Reps.dqG ex hr ds _ ps h2 e2)
  | .tup ds, _, p, h, q => by
    unfold D.pydG at q
    obtain ⟨ps, e2, rfl⟩ := Option.map_eq_some_iff.mp q
    cases h with
    | tup h1 h2 => exact .tup (ex_t ex h1) (Reps.dqG ex hr ds _ ps h2 e2)
  | .dic, _, _, h, q => by
    unfold D.pydG at q
    cases q
    cases h with
    | dic h1 => exact .dic (ex _ _ h1)
  | .ref k, _, _, h, q => by
    unfold D.pydG at q
    cases h with
    | ref hk => exact hr k _ hk q
  | .scr _, _, _, h, q => by unfold D.pydG at q; cases q
  | .raw _, _, _, h, q => by unfold D.pydG at q; cases q
theorem Reps.dqG (ex : Ex g.B H) (hr : ∀ k p, k < g.n → rf k = some p → Dq K H (.ref (g.ρ k)) p) : ∀ (ds : List D) (vs : List V) (ps : List PyData), Reps K g vs ds → D.pydsG rf ds = some ps → DqAll K H vs ps
  | [], _, _, h, q => by cases h; unfold D.pydsG at q; cases q; exact .nil
  | d :: ds, _, ps, h, q => by
    cases h with
    | cons h1 h2 =>
      unfold D.pydsG at q
      cases e1 : d.pydG rf with
      | none => rw [e1] at q; cases q
      | some p =>
        rw [e1] at q
        cases e2 : D.pydsG rf ds with
        | none => rw [e2] at q; cases q
        | some qs =>
          rw [e2] at q
          cases q
          exact .cons (Rep.dqG ex hr d _ p h1 e1) (Reps.dqG ex hr ds _ qs h2 e2)
end
theorem Rel.dqF (r : Rel K cm g w σ H) : ∀ (n k : Nat) (p : PyData), k < g.n → D.refF w.S n k = some p → Dq K H (.ref (g.ρ k)) p
  | 0, _, _, _, q => by cases q
  | n + 1, k, p, hk, q => by
    unfold D.refF at q
    split at q
    · rename_i ds e
      obtain ⟨ps, e2, rfl⟩ := Option.map_eq_some_iff.mp q
      obtain ⟨vs, h1, h2⟩ := (r.store k _ e).2.2
      exact .lst (.inl (.inl h1)) (Reps.dqG r.ex (fun k p hk q => Rel.dqF r n k p hk q) ds _ ps h2 e2)
    · cases q
end
/-- three levels of the store -/
def reprS3 : List D → M D := fun ds w => match ds with
  | [d] => (match d.pydG (D.refF w.S 3) with
    | some p => if reprOk p then .ok (.str p.shown) w else .bad
    | none => .bad)
  | _ => .bad
section
variable {cm : Nat → Addr} {X : Cx} {xw : WX}
theorem vc_reprS3 : VCOk cm X xw (rRepr X.K) reprS3 := by
  intro g w σ H xs ds Q r q k
  unfold reprS3 at k
  split at k
  · rename_i d
    cases e : d.pydG (D.refF w.S 3) with
    | none => simp only [e] at k; exact k.elim
    | some p =>
      simp only [e] at k
      split at k
      · rename_i hp
        cases q with
        | cons a b => cases b; exact ⟨_, p, rfl, Rep.dqG r.ex (fun k p hk q => r.dqF 3 k p hk q) _ _ _ a e, hp, GPost.v r k (.str _)⟩
      · exact k.elim
  · exact k.elim
theorem dv_reprS3 {x : Str} {p pos : Pos} {e : Expr} {es : List Expr} {ma : M (List D)} (hgd : X.A.guards = some []) (hu : X.A.units + 64 < cLine) (hS : SysOk X.K) (hg : Gl X x) (hm : X.mg x = none) (hv : bootBuiltins x = some (.builtin "repr")) (ha : DA cm X xw (e :: es) ma) (hn : x ≠ "__name__" := by decide) (hdb : (x == ("__debug__" : Str)) = false := by decide)
    (he : starEach (e :: es) X.env = (false, eval e X.env) :: starEach es X.env := by rfl) (hpl : (backTo pos (starEach es X.env)).any (·.1) = false := by rfl) : DV cm X xw (.Call (.Name x p) (e :: es) [] pos) (M.bind ma reprS3) := dv_cb (call_reprA hgd hu hS) vc_reprS3 hg hm hv ha hn hdb he hpl
end
/-! ### what is said of them -/
section
variable {w : W} {P : D → W → Prop} {PR : R → W → Prop} {PF : Flow1 → W → Prop}
theorem ev_srcF {PS : Src → W → Prop} {m : M D} (h : Ev m w fun d w1 => ∃ ds, seqD d = some ds ∧ PS (.fix ds) w1) : Ev (M.srcI m) w PS := by
  obtain ⟨d, w1, e, ds, e2, q⟩ := h
  refine ⟨.fix ds, w1, ?_, q⟩
  unfold M.srcI M.bind
  simp only [e]
  cases d <;> first | (cases e2; done) | (show M.lift ((seqD _).map Src.fix) w1 = _; rw [e2]; rfl)
theorem ev_srcR {PS : Src → W → Prop} {m : M D} {k : Nat} (h : Ev m w fun d w1 => d = .ref k ∧ (∃ ds, w1.S k = some (.lst ds)) ∧ PS (.live k) w1) : Ev (M.srcI m) w PS := by
  obtain ⟨d, w1, e, rfl, ⟨ds, e2⟩, q⟩ := h
  refine ⟨.live k, w1, ?_, q⟩
  unfold M.srcI M.bind
  simp only [e, e2]
theorem ev_lcSB {ms : M Src} {vs : List Nat} {f : D → W → Option W} {t : M Bool} {e : M D} (h : Ev ms w fun s w1 => Ev (M.lcS vs f t e s) w1 PR) : Ev (M.lcSB ms vs f t e) w PR := ev_bind h
theorem ev_lcSF {vs : List Nat} {f : D → W → Option W} {t : M Bool} {e : M D} {ds : List D} (h : Ev (M.lc vs f t e ds) w PR) : Ev (M.lcS vs f t e (.fix ds)) w PR := h
theorem ev_forSB {ms : M Src} {f : D → W → Option W} {b : M Flow1} (h : Ev ms w fun s w1 => Ev (M.forS f b s) w1 PF) : Ev (M.forSB ms f b) w PF := ev_bind h
theorem ev_forSF {f : D → W → Option W} {b : M Flow1} {ds : List D} (h : Ev (M.forL f b ds) w PF) : Ev (M.forS f b (.fix ds)) w PF := h
theorem has_of {k : Nat} {ds : List D} (e : w.S k = some (.lst ds)) : M.has k ds.length w = true := by
  unfold M.has
  rw [e]
  exact decide_eq_true rfl
theorem at_of {k i : Nat} {ds : List D} (e : w.S k = some (.lst ds)) : M.at_ k ds.length i w = ds[i]? := by
  unfold M.at_
  rw [e]
  exact if_pos rfl
/-- a live walk; ahead: what was walked; I tells too that the store's list k is ahead ++ rest -/
theorem ev_forV {k n : Nat} {f : D → W → Option W} {b : M Flow1} (I : List D → List D → W → Prop) (at0 : ∀ a r w, I a r w → w.S k = some (.lst (a ++ r)) ∧ a.length + r.length = n) (step : ∀ a d r w, I a (d :: r) w → ∃ w1, f d w = some w1 ∧ Ev b w1 fun fl w2 => match fl with
      | .next => I (a ++ [d]) r w2
      | .cont => I (a ++ [d]) r w2
      | .brk => PF .next w2
      | .ret v => PF (.ret v) w2) (done : ∀ a w, I a [] w → PF .next w) : ∀ (r a : List D) (w : W), I a r w → Ev (M.forV k n f b r.length) w PF
  | [], a, w, h => by
    obtain ⟨h1, h2⟩ := at0 a [] w h
    refine ⟨.next, w, ?_, done a w h⟩
    have := has_of h1
    rw [List.append_nil] at this
    rw [show a.length = n from by simpa using h2] at this
    show (if M.has k n w then Res.ok Flow1.next w else .bad) = _
    rw [if_pos this]
  | d :: r, a, w, h => by
    obtain ⟨h1, h2⟩ := at0 a (d :: r) w h
    have ea : M.at_ k n (n - (r.length + 1)) w = some d := by
      have := at_of (i := n - (r.length + 1)) h1
      rw [List.length_append] at this
      rw [show a.length + (d :: r).length = n from h2] at this
      rw [this]
      have : n - (r.length + 1) = a.length := by
        rw [List.length_cons] at h2
        omega
      rw [this, List.getElem?_append_right (Nat.le_refl _), Nat.sub_self]
      rfl
    obtain ⟨w1, e1, fl, w2, e2, q⟩ := step a d r w h
    cases fl with
    | next =>
      obtain ⟨z, w3, e3, q3⟩ := ev_forV I at0 step done r (a ++ [d]) w2 q
      exact ⟨z, w3, by rw [List.length_cons]; unfold M.forV; simp only [ea, e1, e2]; exact e3, q3⟩
    | cont =>
      obtain ⟨z, w3, e3, q3⟩ := ev_forV I at0 step done r (a ++ [d]) w2 q
      exact ⟨z, w3, by rw [List.length_cons]; unfold M.forV; simp only [ea, e1, e2]; exact e3, q3⟩
    | brk => exact ⟨_, w2, by rw [List.length_cons]; unfold M.forV; simp only [ea, e1, e2], q⟩
    | ret v => exact ⟨_, w2, by rw [List.length_cons]; unfold M.forV; simp only [ea, e1, e2], q⟩
theorem ev_forSV {k : Nat} {f : D → W → Option W} {b : M Flow1} {ds : List D} (e : w.S k = some (.lst ds)) (h : Ev (M.forV k ds.length f b ds.length) w PF) : Ev (M.forS f b (.live k)) w PF := by
  obtain ⟨z, w1, e1, q⟩ := h
  refine ⟨z, w1, ?_, q⟩
  show (match w.S k with
    | some (.lst ds) => M.forV k ds.length f b ds.length w
    | _ => .bad) = _
  simp only [e]
  exact e1
/-- a comprehension that leaves the store is the same on a list of the store and on one that stands fast -/
theorem lcV_fix {k : Nat} {vs : List Nat} {f : D → W → Option W} {t : M Bool} {e : M D} {S : Nat → Option MObj} {ds : List D} (hS : S k = some (.lst ds))
    (hf : ∀ d w w1, w.S = S → f d w = some w1 → w1.S = S) (ht : ∀ w b w1, w.S = S → t w = .ok b w1 → w1.S = S) (he : ∀ w b w1, w.S = S → e w = .ok b w1 → w1.S = S) :
    ∀ (r a acc : List D) (w : W), ds = a ++ r → w.S = S → M.lcV k ds.length vs f t e r.length acc w = M.lcL vs f t e r acc w
  | [], a, acc, w, h, hw => by
    have := has_of (w := w) (k := k) (ds := ds) (by rw [hw]; exact hS)
    show (if M.has k ds.length w then Res.ok (R.own acc) w else .bad) = _
    rw [if_pos this]
    rfl
  | d :: r, a, acc, w, h, hw => by
    have ea : M.at_ k ds.length (ds.length - (r.length + 1)) w = some d := by
      rw [at_of (by rw [hw]; exact hS), h, List.length_append, List.length_cons]
      rw [show a.length + (r.length + 1) - (r.length + 1) = a.length from by omega, List.getElem?_append_right (Nat.le_refl _), Nat.sub_self]
      rfl
    rw [List.length_cons]
    unfold M.lcV M.lcL
    simp only [ea]
    cases e1 : f d w with
    | none => rfl
    | some w1 =>
      simp only
      cases e2 : t w1 with
      | ok b w2 =>
        cases b with
        | true =>
          simp only
          cases e3 : e w2 with
          | ok y w3 =>
            simp only
            split
            · exact lcV_fix hS hf ht he r (a ++ [d]) (acc ++ [y]) (w3.wipe vs) (by rw [h]; simp) (show w3.S = S from he _ _ _ (ht _ _ _ (hf _ _ _ hw e1) e2) e3)
            · rfl
          | exc x w3 => rfl
          | bad => rfl
        | false =>
          simp only
          exact lcV_fix hS hf ht he r (a ++ [d]) acc (w2.wipe vs) (by rw [h]; simp) (show w2.S = S from ht _ _ _ (hf _ _ _ hw e1) e2)
      | exc x w2 => rfl
      | bad => rfl
/-- a live comprehension whose items leave the state -/
theorem ev_lcSV {ι : Type} {xs : List ι} {a b : ι → D} {k : Nat} {vs : List Nat} {f : D → W → Option W} {e : M D} (eS : w.S k = some (.lst (xs.map a))) (hl : xs.length ≤ big) (h : ∀ x ∈ xs, ∃ w1, f (a x) (w.wipe vs) = some w1 ∧ Ev e w1 fun y w3 => y = b x ∧ w3.wipe vs = w.wipe vs) (q : PR (.own (xs.map b)) (w.wipe vs)) :
    Ev (M.lcS vs f (M.ret true) e (.live k)) w PR := by
  have main : ∀ (zs ys : List ι), xs = ys ++ zs → M.lcV k (xs.map a).length vs f (M.ret true) e zs.length (ys.map b) (w.wipe vs) = .ok (.own (xs.map b)) (w.wipe vs) := by
    intro zs
    induction zs with
    | nil =>
      intro ys hy
      show (if M.has k (xs.map a).length (w.wipe vs) then Res.ok (R.own (ys.map b)) (w.wipe vs) else .bad) = _
      rw [if_pos (has_of (w := w.wipe vs) eS), hy, List.append_nil]
    | cons z zs ih =>
      intro ys hy
      have ea : M.at_ k (xs.map a).length ((xs.map a).length - (zs.length + 1)) (w.wipe vs) = some (a z) := by
        rw [at_of (w := w.wipe vs) eS, List.length_map, hy, List.length_append, List.length_cons, show ys.length + (zs.length + 1) - (zs.length + 1) = ys.length from by omega, List.getElem?_map, List.getElem?_append_right (Nat.le_refl _), Nat.sub_self]
        rfl
      obtain ⟨w1, e1, y, w3, e3, q1, q2⟩ := h z (by rw [hy]; simp)
      have hlen : (ys.map b).length < big := by
        rw [List.length_map]
        have := congrArg List.length hy
        simp only [List.length_append, List.length_cons] at this
        omega
      have ih2 := ih (ys ++ [z]) (by rw [hy]; simp)
      rw [List.map_append] at ih2
      rw [List.length_cons]
      unfold M.lcV
      simp only [ea, e1]
      show (match e w1 with
        | .ok y w3 => if (ys.map b).length < big then M.lcV k (xs.map a).length vs f (M.ret true) e zs.length (ys.map b ++ [y]) (w3.wipe vs) else .bad
        | _ => .bad) = _
      simp only [e3]
      rw [if_pos hlen, q2, q1]
      exact ih2
  refine ⟨_, _, ?_, q⟩
  show (match w.S k with
    | some (.lst ds) => M.lcV k ds.length vs f (M.ret true) e ds.length [] (w.wipe vs)
    | _ => .bad) = _
  simp only [eS]
  have := main xs [] rfl
  rw [List.map_nil] at this
  rw [List.length_map] at this ⊢
  exact this
theorem ev_isaS {m : M D} {T : Ty} (h : Ev m w fun d w1 => ∃ b, d.isaW w1.S T = some b ∧ P (.bl b) w1) : Ev (M.isaS m T) w P := by
  obtain ⟨d, w1, e, b, e2, q⟩ := h
  refine ⟨_, w1, ?_, q⟩
  unfold M.isaS M.bind
  simp only [e, e2]
theorem ev_isa2S {m : M D} {T U : Ty} (h : Ev m w fun d w1 => ∃ a b, d.isaW w1.S T = some a ∧ d.isaW w1.S U = some b ∧ P (.bl (a || b)) w1) : Ev (M.isa2S m T U) w P := by
  obtain ⟨d, w1, e, a, b, e2, e3, q⟩ := h
  refine ⟨_, w1, ?_, q⟩
  unfold M.isa2S M.bind
  simp only [e, e2, e3]
theorem isaW_R {S : Nat → Option MObj} {k : Nat} {ds : List D} {T : Ty} (e : S k = some (.lst ds)) : (D.ref k).isaW S T = (D.lst []).isa T := by
  unfold D.isaW
  simp only [e]
theorem ev_reprS3 {d : D} {p : PyData} (e : d.pydG (D.refF w.S 3) = some p) (ok : reprOk p) (h : P (.str p.shown) w) : Ev (reprS3 [d]) w P := ⟨_, w, by
  show (match d.pydG (D.refF w.S 3) with
    | some p => if reprOk p then Res.ok (D.str p.shown) w else Res.bad
    | none => Res.bad) = _
  rw [e]
  exact if_pos ok, h⟩
end
/-! without the store's lists within, pydG is pyd -/
mutual
theorem pydG_of {r : Nat → Option PyData} : ∀ (d : D) (p : PyData), d.pyd = some p → d.pydG r = some p
  | .non, _, h => h
  | .bl _, _, h => h
  | .int _, _, h => h
  | .str _, _, h => h
  | .lst ds, p, h => by
    unfold D.pyd at h
    obtain ⟨ps, e, rfl⟩ := Option.map_eq_some_iff.mp h
    unfold D.pydG
    rw [pydsG_of ds ps e]
    rfl
  | .tup ds, p, h => by
    unfold D.pyd at h
    obtain ⟨ps, e, rfl⟩ := Option.map_eq_some_iff.mp h
    unfold D.pydG
    rw [pydsG_of ds ps e]
    rfl
  | .dic, _, h => h
  | .ref _, _, h => by unfold D.pyd at h; cases h
  | .scr _, _, h => by unfold D.pyd at h; cases h
  | .raw _, _, h => by unfold D.pyd at h; cases h
theorem pydsG_of {r : Nat → Option PyData} : ∀ (ds : List D) (ps : List PyData), D.pyds ds = some ps → D.pydsG r ds = some ps
  | [], _, h => h
  | d :: ds, ps, h => by
    unfold D.pyds at h
    cases e1 : d.pyd with
    | none => rw [e1] at h; cases h
    | some p =>
      rw [e1] at h
      cases e2 : D.pyds ds with
      | none => rw [e2] at h; cases h
      | some qs =>
        rw [e2] at h
        cases h
        unfold D.pydsG
        rw [pydG_of d p e1, pydsG_of ds qs e2]
end
/-! ### name = [..], the list put into the store -/
section
variable {cm : Nat → Addr} {X : Cx} {xw : WX} {elt tg iter : Expr} {ifs : List Expr} {scope : Scope} {own : List (Str × Nat)} {pos spos : Pos} {mi : M (List D)} {f : D → W → Option W} {ks : List Nat} {mt : M Bool} {me : M D}
theorem vok_alloc {te : TE} {m : M R} (h : EOk cm X xw te m) : VOk cm X xw te (M.alloc m) := fun g w σ H Q r k => by
  refine h g w σ H Q (New g w σ H) r (fun _ q => q) ?_
  unfold M.alloc at k
  cases e : m w with
  | ok z w' =>
    rw [e] at k
    cases z with
    | val d => exact k.elim
    | own ds =>
      intro g' H' r' s' v q
      obtain ⟨a, vs, rfl, q1, q2, q3, q4, q5⟩ := q
      obtain ⟨r2, l, pv, rp⟩ := r'.alloc q1 q2 q3 q5 (N := New g w σ H) q4
      refine k _ H' r2 ⟨s'.le.trans l, s'.new, s'.frame, fun b p => ?_⟩ (.ref a) rp
      rcases pv b p with p | rfl
      · exact s'.priv b p
      · exact q4.symm
  | exc x w' => rw [e] at k; exact k
  | bad => rw [e] at k; exact k
theorem ds_setLcA {i : Nat} {y : Str} {py : Pos} (hc : X.calm = true) (hN : X.N.Nodup) (hy : X.N[i]? = some y) (hyl : X.env.scope.names.lookup y = some .local)
    (hsw : swapsWith (.ListComp elt [⟨tg, iter, ifs, 0⟩] scope pos) (some (.Name y py)) spos.line X.env = pure true) (hi : DI cm X xw tg iter mi) (ok : BlkOk X.N X.env.scope scope own)
    (hg : ∀ (s : Shared) (H : Hp) (C : Addr) (cl : List (Str × Addr)) (fp : List Addr), DG cm (X.blk s H scope (compEnvC scope cl C X.env) fp) tg ks f)
    (ht : ∀ (s : Shared) (H : Hp) (C : Addr) (cl : List (Str × Addr)) (fp : List Addr), DTs cm (X.blk s H scope (compEnvC scope cl C X.env) fp) xF ifs mt)
    (he : ∀ (s : Shared) (H : Hp) (C : Addr) (cl : List (Str × Addr)) (fp : List Addr), DV cm (X.blk s H scope (compEnvC scope cl C X.env) fp) xF elt me)
    (hk : (ks.all fun j => (own.map (·.2)).contains j) = true := by decide) (hs : ∀ x, foldedSetIterable iter X.env x = pure x := by intro _; rfl) :
    DS cm X xw (.Assign [.Name y py] (.ListComp elt [⟨tg, iter, ifs, 0⟩] scope pos) spos) (M.asg i (M.map R.val (M.alloc (M.lcB mi (own.map (·.2)) f mt me)))) := by
  obtain ⟨wi, pi, oi⟩ := hi
  exact ⟨_, ps_setLc hc hN hy hyl hsw pi ok (fun s H C cl fp => (hg s H C cl fp).canon) (fun s H C cl fp => (ht s H C cl fp).run) (fun s H C cl fp => (he s H C cl fp).canon) hs, sok_asg (vok_e (vok_alloc (lc_ok oi fun j hj => by simpa using List.all_eq_true.mp hk j hj)))⟩
end
theorem ev_tupR {w : W} {P : D → W → Prop} {k : Nat} {ds : List D} (e : w.S k = some (.lst ds)) (h : P (.tup ds) w) : Ev (tupleM [.ref k]) w P := ⟨_, w, by
  show M.bind (M.items (.ref k)) _ w = _
  unfold M.bind M.items
  simp only [e]
  rfl, h⟩
theorem ev_appR {w : W} {P : D → W → Prop} {i k : Nat} {ma : M (List D)} (e : w.E[i]? = some (.val (.ref k))) (h0 : ∃ ds, w.S k = some (.lst ds)) (h : Ev ma w fun as w2 => ∃ d ds2, as = [d] ∧ w2.S k = some (.lst ds2) ∧ ds2.length < big ∧ P .non { w2 with S := fun j => if j = k then some (.lst (ds2 ++ [d])) else w2.S j }) : Ev (M.modVar i ma appF) w P := by
  obtain ⟨ds, e0⟩ := h0
  obtain ⟨as, w2, e2, d, ds2, rfl, e3, hl, q⟩ := h
  refine ⟨.non, _, ?_, q⟩
  unfold M.modVar
  simp only [e, e0]
  unfold M.bind
  simp only [e2]
  unfold M.modSt appF
  simp only [e3, if_pos hl]
/-! ### name is None: a list of one's own stays one's own -/
namespace M
def isV (i : Nat) : M Bool := fun w => match w.E[i]? with
  | some (.own _) => .ok false w
  | some (.val d) => .ok (D.isNon d) w
  | _ => .bad
end M
section
variable {cm : Nat → Addr} {X : Cx} {xw : WX} {pos npos cpos : Pos} {i j : Nat} {x : Str}
theorem isV_ok {g : Wd} {w : W} {σ : L2.St} {H : Hp} {P : Wd → W → Hp → Bool → Prop} (r : Rel X.K cm g w σ H) (k : GPost X.K cm xw g w σ H P (M.isV i w)) : ∃ v, σ[i]? = some (some v) ∧ P g w H (decide (v = .non)) := by
  unfold M.isV at k
  cases e : w.E[i]? with
  | none => simp only [e] at k; exact k.elim
  | some s =>
    cases s with
    | un => simp only [e] at k; exact k.elim
    | own ds =>
      simp only [e] at k
      obtain ⟨a, vs, h1, _, _, _, _⟩ := st_own r e
      refine ⟨.ref a, h1, ?_⟩
      rw [decide_eq_false (fun z => by cases z)]
      exact GPost.here r k
    | val d =>
      simp only [e] at k
      obtain ⟨v, h1, h2⟩ := r.slot i _ e
      refine ⟨v, h1, ?_⟩
      rw [h2.isNon]
      exact GPost.here r k
theorem dt_isV (hN : X.N[i]? = some x := by rfl) (hv : Vis X.env.scope x := by first | exact Or.inl rfl | exact Or.inr (Or.inl rfl) | exact Or.inr (Or.inr rfl))
    (hd : (x == ("__debug__" : Str)) = false := by decide) (hcd : (x == ("__classdict__" : Str)) = false := by decide) : DT cm X xw (.Compare (.Name x npos) [.Is] [.Constant .none j cpos] pos) (M.isV i) := by
  refine ⟨_, pt_cmpR op_isN (pe_var hN hv hd hcd) pe_non (nomark _), fun g w σ H Q r k => ?_⟩
  obtain ⟨v, h1, h2⟩ := isV_ok r k
  exact ⟨v, h1, rfl, _, rfl, h2⟩
theorem dv_isV (hN : X.N[i]? = some x := by rfl) (hv : Vis X.env.scope x := by first | exact Or.inl rfl | exact Or.inr (Or.inl rfl) | exact Or.inr (Or.inr rfl))
    (hd : (x == ("__debug__" : Str)) = false := by decide) (hcd : (x == ("__classdict__" : Str)) = false := by decide) : DV cm X xw (.Compare (.Name x npos) [.Is] [.Constant .none j cpos] pos) (M.map D.bl (M.isV i)) := by
  refine ⟨_, pe_cmpR op_isN (pe_var hN hv hd hcd) pe_non (nomark _), fun g w σ H Q r k => ?_⟩
  obtain ⟨v, h1, h2⟩ := isV_ok r (GPost.map k)
  exact ⟨v, h1, rfl, h2 _ (.bl _)⟩
theorem ev_isVO {w : W} {P : Bool → W → Prop} {ds : List D} (e : w.E[i]? = some (.own ds)) (h : P false w) : Ev (M.isV i) w P := ⟨_, w, by unfold M.isV; simp only [e], h⟩
theorem ev_isVV {w : W} {P : Bool → W → Prop} {d : D} (e : w.E[i]? = some (.val d)) (h : P (D.isNon d) w) : Ev (M.isV i) w P := ⟨_, w, by unfold M.isV; simp only [e], h⟩
end
end DL

open PySem L2 DL
local macro_rules
  | `(tactic| and_intros) => `(tactic| repeat' (first
    | with_reducible (first | refine ev_seq ?_ | refine ev_asg ?_ | refine ev_ifS ?_ | refine ev_ct ?_ | refine ev_cf ?_ | refine ev_condT ?_ | refine ev_condF ?_ | refine ev_call ?_ | refine ev_bind2 ?_ | refine ev_map ?_ | refine ev_lcB ?_ | refine ev_forB ?_ | refine ev_asgG ?_ | refine ev_retR ?_ | refine ev_drop ?_ | refine ev_cons ?_ | refine ev_tup ?_ | refine ev_lst ?_ | refine ev_b1 ?_ | refine ev_isa ?_ | refine ev_isa2 ?_ | refine ev_tru ?_ | refine ev_vand ?_ | refine ev_vor ?_ | refine ev_vnot ?_ | refine ev_and ?_ | refine ev_or ?_ | refine ev_not ?_ | refine ev_ite ?_ | refine ev_cmp ?_ | refine ev_chain ?_ | refine ev_seqI ?_ | refine ev_strI ?_ | refine ev_neg ?_ | refine ev_slc ?_ | refine ev_optI ?_ | refine ev_join ?_ | refine ev_partition ?_ | refine ev_split ?_ | refine ev_alloc ?_ | refine ev_setSt ?_ | refine ev_appE ?_ | refine ev_ret ?_ | refine ev_addI ?_ | refine ev_subI ?_ | refine ev_itemsL ?_ | refine ev_itemsT ?_ | refine ev_itemsS ?_ | refine ev_sliceL ?_ | refine ev_lenL ?_ | refine ev_lenT ?_ | refine ev_lenC ?_ | refine ev_tupT ?_ | refine ev_tupL ?_ | refine ev_listL ?_ | refine ev_listT ?_ | refine ev_listC ?_ | refine ev_try ?_ | refine ev_bind ?_)
    | ((with_reducible apply ev_var); rfl) | ((with_reducible apply ev_varO); rfl) | ((with_reducible apply ev_retVar); rfl) | ((with_reducible apply ev_retOwn); rfl) | ((with_reducible apply ev_appO); rfl) | ((with_reducible apply ev_lenP); rfl) | ((with_reducible apply ev_ixP); rfl) | ((with_reducible apply ev_neP); rfl) | ((with_reducible apply ev_ixL); rfl) | ((with_reducible apply ev_ixT); rfl)
    | ((with_reducible apply ev_ixR); (first | assumption | exact if_pos rfl); rfl) | ((with_reducible apply ev_modSt); (first | assumption | exact if_pos rfl); rfl) | ((with_reducible apply ev_itemsR); (first | assumption | exact if_pos rfl)) | ((with_reducible apply ev_lenR); (first | assumption | exact if_pos rfl))
    | with_reducible (refine ev_modI ?_ ?_; focus first | decide | omega) | with_reducible (refine ev_fdivI ?_ ?_ ?_; (focus first | decide | omega); focus (first | decide | exact log_lt (by omega))) | with_reducible (refine ev_mulI ?_ ?_; focus (exact mulOk (by omega) (by omega))) | with_reducible (refine ev_powI ?_ ?_; focus decide)
    | ((with_reducible apply ev_isXv); rfl; rfl) | ((with_reducible apply ev_isVO); rfl) | ((with_reducible apply ev_isVV); rfl) | ((with_reducible apply ev_lift); rfl) | ((with_reducible refine And.intro ?_ ?_); focus (exact Nat.le_of_ble_eq_true rfl)) | ((with_reducible apply ex_and); (first | rfl | assumption | exact if_pos rfl)) | refine ev_condT ?_ | refine ev_condF ?_ | (dsimp only [R.d, R.slot]) | (rw [Bool.not_true]) | (rw [Bool.not_false]) | ((with_reducible apply ev_lcC); rfl) | (with_reducible (first | refine ev_lcN ?_ | refine pc_t ?_ | refine pc_f ?_)) | ((with_reducible apply lt_and); focus decide) | ((with_reducible apply ex_app); rfl; focus decide)))

namespace K58
open PySem PySem.Spec PyProof.Rows L2 DL
def top (i : Nat) : Stmt := PySem.Challenge.pw_blindkeys_k58_hands_and_plays_written.main.body.getD i (.Pass ⟨0, 0, 0, 0⟩)
def d_is_whole : He.DefD := ⟨("is_whole", none), "is_whole", "is_whole", L2.defArgs (top 8), L2.defBody (top 8), L2.defScope (top 8), [], []⟩
def d_is_plain : He.DefD := ⟨("is_plain", none), "is_plain", "is_plain", L2.defArgs (top 9), L2.defBody (top 9), L2.defScope (top 9), [], []⟩
def d_is_word : He.DefD := ⟨("is_word", none), "is_word", "is_word", L2.defArgs (top 10), L2.defBody (top 10), L2.defScope (top 10), [], []⟩
def d_is_key : He.DefD := ⟨("is_key", none), "is_key", "is_key", L2.defArgs (top 17), L2.defBody (top 17), L2.defScope (top 17), [], []⟩
def d_weight_of : He.DefD := ⟨("weight_of", none), "weight_of", "weight_of", L2.defArgs (top 18), L2.defBody (top 18), L2.defScope (top 18), [], []⟩
def d_is_hand : He.DefD := ⟨("is_hand", none), "is_hand", "is_hand", L2.defArgs (top 19), L2.defBody (top 19), L2.defScope (top 19), [], []⟩
def d_hand_of : He.DefD := ⟨("hand_of", none), "hand_of", "hand_of", L2.defArgs (top 20), L2.defBody (top 20), L2.defScope (top 20), [], []⟩
def d_is_from : He.DefD := ⟨("is_from", none), "is_from", "is_from", L2.defArgs (top 22), L2.defBody (top 22), L2.defScope (top 22), [], []⟩
def d_parts_of : He.DefD := ⟨("parts_of", none), "parts_of", "parts_of", L2.defArgs (top 26), L2.defBody (top 26), L2.defScope (top 26), [], []⟩
def d_play_of : He.DefD := ⟨("play_of", none), "play_of", "play_of", L2.defArgs (top 27), L2.defBody (top 27), L2.defScope (top 27), [], []⟩
def d_is_number_text : He.DefD := ⟨("is_number_text", none), "is_number_text", "is_number_text", L2.defArgs (top 36), L2.defBody (top 36), L2.defScope (top 36), [], []⟩
def d_is_word_text : He.DefD := ⟨("is_word_text", none), "is_word_text", "is_word_text", L2.defArgs (top 37), L2.defBody (top 37), L2.defScope (top 37), [], []⟩
def d_key_in : He.DefD := ⟨("key_in", none), "key_in", "key_in", L2.defArgs (top 38), L2.defBody (top 38), L2.defScope (top 38), [], []⟩
def d_keys_in : He.DefD := ⟨("keys_in", none), "keys_in", "keys_in", L2.defArgs (top 39), L2.defBody (top 39), L2.defScope (top 39), [], []⟩
def d_part_in : He.DefD := ⟨("part_in", none), "part_in", "part_in", L2.defArgs (top 40), L2.defBody (top 40), L2.defScope (top 40), [], []⟩
def d_keys_shown : He.DefD := ⟨("keys_shown", none), "keys_shown", "keys_shown", L2.defArgs (top 41), L2.defBody (top 41), L2.defScope (top 41), [], []⟩
def d_show_hand : He.DefD := ⟨("show_hand", none), "show_hand", "show_hand", L2.defArgs (top 42), L2.defBody (top 42), L2.defScope (top 42), [], []⟩
def d_show_play : He.DefD := ⟨("show_play", none), "show_play", "show_play", L2.defArgs (top 43), L2.defBody (top 43), L2.defScope (top 43), [], []⟩
def d_need_plain : He.DefD := ⟨("need_plain", none), "need_plain", "need_plain", L2.defArgs (top 44), L2.defBody (top 44), L2.defScope (top 44), [], []⟩
def d_read_hand : He.DefD := ⟨("read_hand", none), "read_hand", "read_hand", L2.defArgs (top 45), L2.defBody (top 45), L2.defScope (top 45), [], []⟩
def d_read_play : He.DefD := ⟨("read_play", none), "read_play", "read_play", L2.defArgs (top 46), L2.defBody (top 46), L2.defScope (top 46), [], []⟩
def d_law_bag : He.DefD := ⟨("_law_bag", none), "_law_bag", "_law_bag", L2.defArgs (top 48), L2.defBody (top 48), L2.defScope (top 48), [], []⟩
def d_law_stir : He.DefD := ⟨("_law_stir", none), "_law_stir", "_law_stir", L2.defArgs (top 49), L2.defBody (top 49), L2.defScope (top 49), [], []⟩
def d_law_draw : He.DefD := ⟨("_law_draw", none), "_law_draw", "_law_draw", L2.defArgs (top 50), L2.defBody (top 50), L2.defScope (top 50), [], []⟩
def d_law_word : He.DefD := ⟨("_law_word", none), "_law_word", "_law_word", L2.defArgs (top 52), L2.defBody (top 52), L2.defScope (top 52), [], []⟩
def d_law_hand : He.DefD := ⟨("_law_hand", none), "_law_hand", "_law_hand", L2.defArgs (top 53), L2.defBody (top 53), L2.defScope (top 53), [], []⟩
def d_law_dressed : He.DefD := ⟨("_law_dressed", none), "_law_dressed", "_law_dressed", L2.defArgs (top 54), L2.defBody (top 54), L2.defScope (top 54), [], []⟩
def d_law_play : He.DefD := ⟨("_law_play", none), "_law_play", "_law_play", L2.defArgs (top 55), L2.defBody (top 55), L2.defScope (top 55), [], []⟩
def d_law_key_text : He.DefD := ⟨("_law_key_text", none), "_law_key_text", "_law_key_text", L2.defArgs (top 56), L2.defBody (top 56), L2.defScope (top 56), [], []⟩
def d_law_hand_text : He.DefD := ⟨("_law_hand_text", none), "_law_hand_text", "_law_hand_text", L2.defArgs (top 57), L2.defBody (top 57), L2.defScope (top 57), [], []⟩
def d_law_play_text : He.DefD := ⟨("_law_play_text", none), "_law_play_text", "_law_play_text", L2.defArgs (top 58), L2.defBody (top 58), L2.defScope (top 58), [], []⟩
def d_law_hand_right : He.DefD := ⟨("_law_hand_right", none), "_law_hand_right", "_law_hand_right", L2.defArgs (top 59), L2.defBody (top 59), L2.defScope (top 59), [], []⟩
def d_law_grown : He.DefD := ⟨("_law_grown", none), "_law_grown", "_law_grown", L2.defArgs (top 60), L2.defBody (top 60), L2.defScope (top 60), [], []⟩
def d_law : He.DefD := ⟨("law", none), "law", "law", L2.defArgs (top 61), L2.defBody (top 61), L2.defScope (top 61), [], []⟩
def fn : List He.DefD := ([d_is_whole, d_is_plain, d_is_word, d_is_key, d_weight_of, d_is_hand, d_hand_of, d_is_from, d_parts_of, d_play_of, d_is_number_text, d_is_word_text, d_key_in, d_keys_in, d_part_in, d_keys_shown, d_show_hand, d_show_play, d_need_plain, d_read_hand, d_read_play, d_law_bag, d_law_stir, d_law_draw] : List He.DefD) ++ ([d_law_word, d_law_hand, d_law_dressed, d_law_play, d_law_key_text, d_law_hand_text, d_law_play_text, d_law_hand_right, d_law_grown, d_law] : List He.DefD)
def fa : List He.Fa := ([.str "BEHIND_TIMES" ": ", .str "BETWEEN_KEYS" ", ", .glo "COUNTED", .str "FIGURES" "0123456789", .glo "KeysError", .glo "LEFTWARD", .str "LETTERS" "abcdefghijklmnopqrstuvwxyz", .int "MOST_KEYS" 60, .int "MOST_PARTS" 12, .int "MOST_TIMES" 1000000000000000000000000000000, .int "MOST_WORD" 60, .glo "NoHand", .exc "NoHand", .glo "NoPlay", .exc "NoPlay", .str "PASTE_hands" "paste", .str "PASTE_writing" "paste", .glo "RIGHTWARD", .str "SMALL" "abcdefghijklmnopqrstuvwxyz", .str "WRITE_hands" "write", .str "WRITE_writing" "write", .glo "_law_bag", .glo "_law_draw", .glo "_law_dressed"] : List He.Fa) ++ ([.glo "_law_grown", .glo "_law_hand", .glo "_law_hand_right", .glo "_law_hand_text", .glo "_law_key_text", .glo "_law_play", .glo "_law_play_text", .glo "_law_stir", .glo "_law_word", .free "all", .free "bool", .free "enumerate", .glo "hand_of", .free "int", .glo "is_from", .glo "is_hand", .glo "is_key", .glo "is_number_text", .glo "is_plain", .glo "is_whole", .glo "is_word", .glo "is_word_text", .free "isinstance", .glo "key_in"] : List He.Fa) ++ ([.glo "keys_in", .glo "keys_shown", .glo "law", .free "len", .free "list", .free "min", .glo "need_plain", .glo "part_in", .glo "parts_of", .glo "play_of", .free "range", .glo "read_hand", .glo "read_play", .free "repr", .glo "show_hand", .glo "show_play", .free "str", .free "sum", .free "tuple", .glo "weight_of", .exm "NoHand" "KeysError" true, .exm "NoPlay" "KeysError" true] : List He.Fa)
def tb : Tbs := ([fun K => He.tupB K "COUNTED" ((["left", "right", "strike", "rub", "copy", "cut"] : List Str).map He.Dv.str), fun K => He.tupB K "LEFTWARD" ((["left", "rub"] : List Str).map He.Dv.str), fun K => He.tupB K "RIGHTWARD" ((["right", "strike", "copy", "cut"] : List Str).map He.Dv.str)] : Tbs)
def cls : List Str := ["KeysError", "NoWriting", "NoHand", "NoPlay"]
def cm (K : PySem.W.Frag) : Nat → Addr := fun k => He.ga K (cls.getD k "")
section
variable {K : PySem.W.Frag} {mg : Str → Option Value}
theorem g_BEHIND_TIMES (G : Gb fa fn tb K mg) : ∃ t, mg "BEHIND_TIMES" = some (.str ": " t) := G.str 0
theorem g_BETWEEN_KEYS (G : Gb fa fn tb K mg) : ∃ t, mg "BETWEEN_KEYS" = some (.str ", " t) := G.str 1
theorem g_COUNTED (G : Gb fa fn tb K mg) : mg "COUNTED" = some (.ref (He.ga K "COUNTED")) := G.glo 2
theorem gt_COUNTED (G : Gb fa fn tb K mg) : He.tupB K "COUNTED" ((["left", "right", "strike", "rub", "copy", "cut"] : List Str).map He.Dv.str) = true := G.bx (f := fun K => He.tupB K "COUNTED" ((["left", "right", "strike", "rub", "copy", "cut"] : List Str).map He.Dv.str)) 0
theorem g_FIGURES (G : Gb fa fn tb K mg) : ∃ t, mg "FIGURES" = some (.str "0123456789" t) := G.str 3
theorem g_KeysError (G : Gb fa fn tb K mg) : mg "KeysError" = some (.ref (He.ga K "KeysError")) := G.glo 4
theorem g_LEFTWARD (G : Gb fa fn tb K mg) : mg "LEFTWARD" = some (.ref (He.ga K "LEFTWARD")) := G.glo 5
theorem gt_LEFTWARD (G : Gb fa fn tb K mg) : He.tupB K "LEFTWARD" ((["left", "rub"] : List Str).map He.Dv.str) = true := G.bx (f := fun K => He.tupB K "LEFTWARD" ((["left", "rub"] : List Str).map He.Dv.str)) 1
theorem g_LETTERS (G : Gb fa fn tb K mg) : ∃ t, mg "LETTERS" = some (.str "abcdefghijklmnopqrstuvwxyz" t) := G.str 6
theorem g_MOST_KEYS (G : Gb fa fn tb K mg) : ∃ t, mg "MOST_KEYS" = some (.int 60 t) := G.int 7
theorem g_MOST_PARTS (G : Gb fa fn tb K mg) : ∃ t, mg "MOST_PARTS" = some (.int 12 t) := G.int 8
theorem g_MOST_TIMES (G : Gb fa fn tb K mg) : ∃ t, mg "MOST_TIMES" = some (.int 1000000000000000000000000000000 t) := G.int 9
theorem g_MOST_WORD (G : Gb fa fn tb K mg) : ∃ t, mg "MOST_WORD" = some (.int 60 t) := G.int 10
theorem g_NoHand (G : Gb fa fn tb K mg) : mg "NoHand" = some (.ref (He.ga K "NoHand")) := G.glo 11
theorem ge_NoHand (G : Gb fa fn tb K mg) : PySem.W.excIn K (He.ga K "NoHand") He.veBase "ValueError.__new__" = true ∧ PySem.W.keepIn K (.ref (He.ga K "NoHand")) = true ∧ PySem.W.subIn K (.ref (He.ga K "NoHand")) (.type "BaseException") = some true ∧ PySem.W.typeIn K (.ref (He.ga K "NoHand")) = some (.type "type") := G.exc 12
theorem g_NoPlay (G : Gb fa fn tb K mg) : mg "NoPlay" = some (.ref (He.ga K "NoPlay")) := G.glo 13
theorem ge_NoPlay (G : Gb fa fn tb K mg) : PySem.W.excIn K (He.ga K "NoPlay") He.veBase "ValueError.__new__" = true ∧ PySem.W.keepIn K (.ref (He.ga K "NoPlay")) = true ∧ PySem.W.subIn K (.ref (He.ga K "NoPlay")) (.type "BaseException") = some true ∧ PySem.W.typeIn K (.ref (He.ga K "NoPlay")) = some (.type "type") := G.exc 14
theorem g_PASTE_hands (G : Gb fa fn tb K mg) : ∃ t, mg "PASTE_hands" = some (.str "paste" t) := G.str 15
theorem g_PASTE_writing (G : Gb fa fn tb K mg) : ∃ t, mg "PASTE_writing" = some (.str "paste" t) := G.str 16
theorem g_RIGHTWARD (G : Gb fa fn tb K mg) : mg "RIGHTWARD" = some (.ref (He.ga K "RIGHTWARD")) := G.glo 17
theorem gt_RIGHTWARD (G : Gb fa fn tb K mg) : He.tupB K "RIGHTWARD" ((["right", "strike", "copy", "cut"] : List Str).map He.Dv.str) = true := G.bx (f := fun K => He.tupB K "RIGHTWARD" ((["right", "strike", "copy", "cut"] : List Str).map He.Dv.str)) 2
theorem g_SMALL (G : Gb fa fn tb K mg) : ∃ t, mg "SMALL" = some (.str "abcdefghijklmnopqrstuvwxyz" t) := G.str 18
theorem g_WRITE_hands (G : Gb fa fn tb K mg) : ∃ t, mg "WRITE_hands" = some (.str "write" t) := G.str 19
theorem g_WRITE_writing (G : Gb fa fn tb K mg) : ∃ t, mg "WRITE_writing" = some (.str "write" t) := G.str 20
theorem g__law_bag (G : Gb fa fn tb K mg) : mg "_law_bag" = some (.ref (He.ga K "_law_bag")) := G.glo 21
theorem g__law_draw (G : Gb fa fn tb K mg) : mg "_law_draw" = some (.ref (He.ga K "_law_draw")) := G.glo 22
theorem g__law_dressed (G : Gb fa fn tb K mg) : mg "_law_dressed" = some (.ref (He.ga K "_law_dressed")) := G.glo 23
theorem g__law_grown (G : Gb fa fn tb K mg) : mg "_law_grown" = some (.ref (He.ga K "_law_grown")) := G.glo 24
theorem g__law_hand (G : Gb fa fn tb K mg) : mg "_law_hand" = some (.ref (He.ga K "_law_hand")) := G.glo 25
theorem g__law_hand_right (G : Gb fa fn tb K mg) : mg "_law_hand_right" = some (.ref (He.ga K "_law_hand_right")) := G.glo 26
theorem g__law_hand_text (G : Gb fa fn tb K mg) : mg "_law_hand_text" = some (.ref (He.ga K "_law_hand_text")) := G.glo 27
theorem g__law_key_text (G : Gb fa fn tb K mg) : mg "_law_key_text" = some (.ref (He.ga K "_law_key_text")) := G.glo 28
theorem g__law_play (G : Gb fa fn tb K mg) : mg "_law_play" = some (.ref (He.ga K "_law_play")) := G.glo 29
theorem g__law_play_text (G : Gb fa fn tb K mg) : mg "_law_play_text" = some (.ref (He.ga K "_law_play_text")) := G.glo 30
theorem g__law_stir (G : Gb fa fn tb K mg) : mg "_law_stir" = some (.ref (He.ga K "_law_stir")) := G.glo 31
theorem g__law_word (G : Gb fa fn tb K mg) : mg "_law_word" = some (.ref (He.ga K "_law_word")) := G.glo 32
theorem g_all (G : Gb fa fn tb K mg) : mg "all" = none := G.free 33
theorem bt_all : bootBuiltins "all" = some (.builtin "all") := by kernel_rfl
theorem g_bool (G : Gb fa fn tb K mg) : mg "bool" = none := G.free 34
theorem bt_bool : bootBuiltins "bool" = some (.type "bool") := by kernel_rfl
theorem g_enumerate (G : Gb fa fn tb K mg) : mg "enumerate" = none := G.free 35
theorem bt_enumerate : bootBuiltins "enumerate" = some (.type "enumerate") := by kernel_rfl
theorem g_hand_of (G : Gb fa fn tb K mg) : mg "hand_of" = some (.ref (He.ga K "hand_of")) := G.glo 36
theorem g_int (G : Gb fa fn tb K mg) : mg "int" = none := G.free 37
theorem bt_int : bootBuiltins "int" = some (.type "int") := by kernel_rfl
theorem g_is_from (G : Gb fa fn tb K mg) : mg "is_from" = some (.ref (He.ga K "is_from")) := G.glo 38
theorem g_is_hand (G : Gb fa fn tb K mg) : mg "is_hand" = some (.ref (He.ga K "is_hand")) := G.glo 39
theorem g_is_key (G : Gb fa fn tb K mg) : mg "is_key" = some (.ref (He.ga K "is_key")) := G.glo 40
theorem g_is_number_text (G : Gb fa fn tb K mg) : mg "is_number_text" = some (.ref (He.ga K "is_number_text")) := G.glo 41
theorem g_is_plain (G : Gb fa fn tb K mg) : mg "is_plain" = some (.ref (He.ga K "is_plain")) := G.glo 42
theorem g_is_whole (G : Gb fa fn tb K mg) : mg "is_whole" = some (.ref (He.ga K "is_whole")) := G.glo 43
theorem g_is_word (G : Gb fa fn tb K mg) : mg "is_word" = some (.ref (He.ga K "is_word")) := G.glo 44
theorem g_is_word_text (G : Gb fa fn tb K mg) : mg "is_word_text" = some (.ref (He.ga K "is_word_text")) := G.glo 45
theorem g_isinstance (G : Gb fa fn tb K mg) : mg "isinstance" = none := G.free 46
theorem bt_isinstance : bootBuiltins "isinstance" = some (.builtin "isinstance") := by kernel_rfl
theorem g_key_in (G : Gb fa fn tb K mg) : mg "key_in" = some (.ref (He.ga K "key_in")) := G.glo 47
theorem g_keys_in (G : Gb fa fn tb K mg) : mg "keys_in" = some (.ref (He.ga K "keys_in")) := G.glo 48
theorem g_keys_shown (G : Gb fa fn tb K mg) : mg "keys_shown" = some (.ref (He.ga K "keys_shown")) := G.glo 49
theorem g_law (G : Gb fa fn tb K mg) : mg "law" = some (.ref (He.ga K "law")) := G.glo 50
theorem g_len (G : Gb fa fn tb K mg) : mg "len" = none := G.free 51
theorem bt_len : bootBuiltins "len" = some (.builtin "len") := by kernel_rfl
theorem g_list (G : Gb fa fn tb K mg) : mg "list" = none := G.free 52
theorem bt_list : bootBuiltins "list" = some (.type "list") := by kernel_rfl
theorem g_min (G : Gb fa fn tb K mg) : mg "min" = none := G.free 53
theorem bt_min : bootBuiltins "min" = some (.builtin "min") := by kernel_rfl
theorem g_need_plain (G : Gb fa fn tb K mg) : mg "need_plain" = some (.ref (He.ga K "need_plain")) := G.glo 54
theorem g_part_in (G : Gb fa fn tb K mg) : mg "part_in" = some (.ref (He.ga K "part_in")) := G.glo 55
theorem g_parts_of (G : Gb fa fn tb K mg) : mg "parts_of" = some (.ref (He.ga K "parts_of")) := G.glo 56
theorem g_play_of (G : Gb fa fn tb K mg) : mg "play_of" = some (.ref (He.ga K "play_of")) := G.glo 57
theorem g_range (G : Gb fa fn tb K mg) : mg "range" = none := G.free 58
theorem bt_range : bootBuiltins "range" = some (.type "range") := by kernel_rfl
theorem g_read_hand (G : Gb fa fn tb K mg) : mg "read_hand" = some (.ref (He.ga K "read_hand")) := G.glo 59
theorem g_read_play (G : Gb fa fn tb K mg) : mg "read_play" = some (.ref (He.ga K "read_play")) := G.glo 60
theorem g_repr (G : Gb fa fn tb K mg) : mg "repr" = none := G.free 61
theorem bt_repr : bootBuiltins "repr" = some (.builtin "repr") := by kernel_rfl
theorem g_show_hand (G : Gb fa fn tb K mg) : mg "show_hand" = some (.ref (He.ga K "show_hand")) := G.glo 62
theorem g_show_play (G : Gb fa fn tb K mg) : mg "show_play" = some (.ref (He.ga K "show_play")) := G.glo 63
theorem g_str (G : Gb fa fn tb K mg) : mg "str" = none := G.free 64
theorem bt_str : bootBuiltins "str" = some (.type "str") := by kernel_rfl
theorem g_sum (G : Gb fa fn tb K mg) : mg "sum" = none := G.free 65
theorem bt_sum : bootBuiltins "sum" = some (.builtin "sum") := by kernel_rfl
theorem g_tuple (G : Gb fa fn tb K mg) : mg "tuple" = none := G.free 66
theorem bt_tuple : bootBuiltins "tuple" = some (.type "tuple") := by kernel_rfl
theorem g_weight_of (G : Gb fa fn tb K mg) : mg "weight_of" = some (.ref (He.ga K "weight_of")) := G.glo 67
theorem gx_NoHand (G : Gb fa fn tb K mg) : PySem.W.exmOne K (.ref (He.ga K "NoHand")) (.ref (He.ga K "KeysError")) = some true := G.exm 68
theorem gx_NoPlay (G : Gb fa fn tb K mg) : PySem.W.exmOne K (.ref (He.ga K "NoPlay")) (.ref (He.ga K "KeysError")) = some true := G.exm 69
def xt_KeysError_f (n : Nat) : Option Bool := if n = 2 ∨ n = 3 then some true else none
theorem xt_KeysError (G : Gb fa fn tb K mg) : ∀ n b, xt_KeysError_f n = some b → PySem.W.exmOne K (.ref (cm K n)) (.ref (He.ga K "KeysError")) = some b := by
  intro n b h
  unfold xt_KeysError_f at h
  split at h
  · rename_i q
    cases h
    rcases q with rfl | rfl
    · exact gx_NoHand G
    · exact gx_NoPlay G
  · cases h
end
/-! _law_bag -/
abbrev st_law_bag : Stmt := top 48
theorem sc_law_bag : FnScope ["script", "total", "cell"] ["script"] (defScope st_law_bag) := ⟨rfl, rfl, rfl, by decide +kernel, rfl, by decide +kernel, by decide +kernel⟩
def m_law_bag : M Flow1 := (M.seq (M.asg 1 (M.map R.val (M.ret (.int 1))))
  (M.seq (M.forB (M.seqI (M.var 0)) (gNm 2) (M.asg 1 (M.map R.val (bind2 (M.map R.d (bind2 (M.map R.d (bind2 (M.map R.d (bind2 (M.var 1) (M.ret (.int 1000003)) fun x y => M.lift (D.mul x y))) (bind2 (M.var 2) (M.ret (.int 2305843009213693951)) fun x y => M.lift (D.mod x y)) fun x y => M.lift (D.add x y))) (M.ret (.int 1)) fun x y => M.lift (D.add x y))) (M.ret (.int 2305843009213693951)) fun x y => M.lift (D.mod x y)))))
  (M.retR (M.lst (M.cons (M.map R.d (M.bind (M.cons (M.var 0) (M.ret [])) listM)) (M.cons (M.ret (.int 0)) (M.cons (M.ret (.int 0)) (M.cons (M.ret (.int 0)) (M.cons (M.var 1) (M.ret []))))))))))
def f_law_bag : List D → M R := runF 3 m_law_bag
theorem ok_law_bag {P : Program} {w : World} {K : PySem.W.Frag} {mg : Str → Option Value} {base : Heap} (G : Gb fa fn tb K mg) : OkF P w K mg base (cm K) 1 "_law_bag" ["script"] f_law_bag := by
  have S := sc_law_bag
  refine okF (mb := m_law_bag) (G.def_ 21 (d := d_law_bag)) (g__law_bag G) S rfl (by decide) (fun _ _ _ _ _ _ us hl => match us, hl with | [_], _ => rfl) fun f cdv A outer s H E hr hg => ?_
  exact (dss_cons (ds_set (i := 1) (DV.toE dv_int) S.nd)
      (dss_cons (ds_for (passes_of rfl) rfl (di_seq (dv_var 0)) (dg_name 2 S.nd) (dss_one (ds_set (i := 1) (DV.toE (dv_mod (DE.v (de_add (DE.v (de_add (DE.v (de_mul (dv_var 1) dv_int)) (dv_mod (dv_var 2) dv_int))) dv_int)) dv_int)) S.nd)))
      (dss_one (ds_ret (de_lst (da_cons (DE.v (de_list rfl (g_list G) bt_list (da_cons (dv_var 0) da_nil))) (da_cons dv_int (da_cons dv_int (da_cons dv_int (da_cons (dv_var 1) da_nil))))))))))
/-! _law_stir -/
abbrev st_law_stir : Stmt := top 49
theorem sc_law_stir : FnScope ["number", "place", "one", "two"] ["number", "place"] (defScope st_law_stir) := ⟨rfl, rfl, rfl, by decide +kernel, rfl, by decide +kernel, by decide +kernel⟩
def m_law_stir : M Flow1 := (M.seq (M.asg 2 (M.map R.val (bind2 (M.map R.d (bind2 (M.map R.d (bind2 (M.map R.d (bind2 (M.var 0) (M.ret (.int 998244353)) fun x y => M.lift (D.mul x y))) (M.map R.d (bind2 (M.var 1) (M.ret (.int 1000000007)) fun x y => M.lift (D.mul x y))) fun x y => M.lift (D.add x y))) (M.ret (.int 5)) fun x y => M.lift (D.add x y))) (M.ret (.int 2305843009213693951)) fun x y => M.lift (D.mod x y))))
  (M.seq (M.asg 3 (M.map R.val (bind2 (M.map R.d (bind2 (M.var 2) (M.var 2) fun x y => M.lift (D.mul x y))) (M.ret (.int 2305843009213693951)) fun x y => M.lift (D.mod x y))))
  (M.retR (M.map R.val (bind2 (bind2 (M.map R.d (bind2 (M.map R.d (bind2 (M.map R.d (bind2 (M.var 3) (M.ret (.int 2860486313)) fun x y => M.lift (D.mul x y))) (M.map R.d (bind2 (M.map R.d (bind2 (M.var 1) (M.var 1) fun x y => M.lift (D.mul x y))) (M.ret (.int 48271)) fun x y => M.lift (D.mul x y))) fun x y => M.lift (D.add x y))) (bind2 (M.var 2) (M.ret (.int 3)) fun x y => M.lift (D.fdiv x y)) fun x y => M.lift (D.add x y))) (M.ret (.int 2305843009213693921)) fun x y => M.lift (D.mod x y)) (M.ret (.int 1024)) fun x y => M.lift (D.fdiv x y))))))
def f_law_stir : List D → M R := runF 4 m_law_stir
theorem ok_law_stir {P : Program} {w : World} {K : PySem.W.Frag} {mg : Str → Option Value} {base : Heap} (G : Gb fa fn tb K mg) : OkF P w K mg base (cm K) 1 "_law_stir" ["number", "place"] f_law_stir := by
  have S := sc_law_stir
  refine okF (mb := m_law_stir) (G.def_ 22 (d := d_law_stir)) (g__law_stir G) S rfl (by decide) (fun _ _ _ _ _ _ us hl => match us, hl with | [_, _], _ => rfl) fun f cdv A outer s H E hr hg => ?_
  exact (dss_cons (ds_set (i := 2) (DV.toE (dv_mod (DE.v (de_add (DE.v (de_add (DE.v (de_mul (dv_var 0) dv_int)) (DE.v (de_mul (dv_var 1) dv_int)))) dv_int)) dv_int)) S.nd)
      (dss_cons (ds_set (i := 3) (DV.toE (dv_mod (DE.v (de_mul (dv_var 2) (dv_var 2))) dv_int)) S.nd)
      (dss_one (ds_ret (DV.toE (dv_fdiv (dv_mod (DE.v (de_add (DE.v (de_add (DE.v (de_mul (dv_var 3) dv_int)) (DE.v (de_mul (DE.v (de_mul (dv_var 1) (dv_var 1))) dv_int)))) (dv_fdiv (dv_var 2) dv_int))) dv_int) dv_int))))))
/-! _law_draw -/
abbrev st_law_draw : Stmt := top 50
theorem sc_law_draw : FnScope ["bag", "many", "cell", "found"] ["bag", "many"] (defScope st_law_draw) := ⟨rfl, rfl, rfl, by decide +kernel, rfl, by decide +kernel, by decide +kernel⟩
def m_law_draw : M Flow1 := (M.seq (M.ifS (cmpM (M.var 1) (M.ret (.int 1)) D.eq?) (M.retR (M.map R.val (M.ret (.int 0)))) (M.ret .next))
  (M.seq (M.setVar 0 (M.ret (.int 3)) (M.map R.d (bind2 (bind2 (M.var 0) (M.ret (.int 3)) M.ix) (M.ret (.int 1)) fun x y => M.lift (D.add x y))))
  (M.seq (M.ifS (M.and (cmpM (bind2 (M.var 0) (M.ret (.int 2)) M.ix) (M.ret (.int 2)) D.lt?) (cmpM (bind2 (M.var 0) (M.ret (.int 1)) M.ix) (M.bind (M.cons (bind2 (M.var 0) (M.ret (.int 0)) M.ix) (M.ret [])) lenM) D.eq?)) (M.retR (M.map R.val (bind2 (M.map R.d (M.call 2 f_law_stir (M.cons (bind2 (M.var 0) (M.ret (.int 4)) M.ix) (M.cons (bind2 (M.var 0) (M.ret (.int 3)) M.ix) (M.ret []))))) (M.var 1) fun x y => M.lift (D.mod x y)))) (M.ret .next))
  (M.seq (M.ifS (cmpM (bind2 (M.var 0) (M.ret (.int 2)) M.ix) (M.ret (.int 2)) D.lt?) (M.seq (M.asg 2 (M.map R.val (bind2 (bind2 (M.var 0) (M.ret (.int 0)) M.ix) (bind2 (M.var 0) (M.ret (.int 1)) M.ix) M.ix)))
  (M.seq (M.setVar 0 (M.ret (.int 1)) (M.map R.d (bind2 (bind2 (M.var 0) (M.ret (.int 1)) M.ix) (M.ret (.int 1)) fun x y => M.lift (D.add x y))))
  (M.seq (M.ifS (cmpM (M.var 2) (bind2 (M.ret (.int 10)) (M.ret (.int 18)) fun x y => M.lift (D.pow x y)) D.lt?) (M.retR (M.map R.val (bind2 (M.map R.d (M.call 2 f_law_stir (M.cons (bind2 (M.var 2) (M.ret (.int 2305843009213693951)) fun x y => M.lift (D.mod x y)) (M.cons (bind2 (M.var 0) (M.ret (.int 3)) M.ix) (M.ret []))))) (M.var 1) fun x y => M.lift (D.mod x y)))) (M.ret .next))
  (M.setVar 0 (M.ret (.int 2)) (bind2 (M.var 2) (bind2 (M.ret (.int 10)) (M.ret (.int 18)) fun x y => M.lift (D.pow x y)) fun x y => M.lift (D.sub x y)))))) (M.ret .next))
  (M.seq (M.asg 3 (M.map R.val (bind2 (bind2 (M.var 0) (M.ret (.int 2)) M.ix) (M.var 1) fun x y => M.lift (D.mod x y))))
  (M.seq (M.setVar 0 (M.ret (.int 2)) (bind2 (bind2 (M.var 0) (M.ret (.int 2)) M.ix) (M.var 1) fun x y => M.lift (D.fdiv x y)))
  (M.retVar 3)))))))
def f_law_draw : List D → M R := runF 4 m_law_draw
theorem ok_law_draw {P : Program} {w : World} {K : PySem.W.Frag} {mg : Str → Option Value} {base : Heap} (G : Gb fa fn tb K mg) : OkF P w K mg base (cm K) 2 "_law_draw" ["bag", "many"] f_law_draw := by
  have F_law_stir := ok_law_stir (P := P) (w := w) (base := base) G
  have S := sc_law_draw
  refine okF (mb := m_law_draw) (G.def_ 23 (d := d_law_draw)) (g__law_draw G) S rfl (by decide) (fun _ _ _ _ _ _ us hl => match us, hl with | [_, _], _ => rfl) fun f cdv A outer s H E hr hg => ?_
  exact (dss_cons (ds_if (dt_eq (room_v hr) (dv_var 1) dv_int) (dss_one (ds_ret (DV.toE dv_int))) dss_nil)
      (dss_cons (ds_setVar (n := 0) (he := (DE.v (de_add (dv_ix (dv_var 0) dv_int) dv_int))) (hi := dv_int))
      (dss_cons (ds_if (DW.t (dw_and (dt_lt (dv_ix (dv_var 0) dv_int) dv_int) (dw_and1 (dt_eq (room_v hr) (dv_ix (dv_var 0) dv_int) (dv_len rfl (g_len G) bt_len (da_cons (dv_ix (dv_var 0) dv_int) da_nil)))))) (dss_one (ds_ret (DV.toE (dv_mod (DE.v (de_callF F_law_stir (Room.mono (j := 1) hr (by decide)) hg (L2N.takes_of rfl rfl rfl rfl) (da_cons (dv_ix (dv_var 0) dv_int) (da_cons (dv_ix (dv_var 0) dv_int) da_nil)))) (dv_var 1))))) dss_nil)
      (dss_cons (ds_if (dt_lt (dv_ix (dv_var 0) dv_int) dv_int) (dss_cons (ds_set (i := 2) (DV.toE (dv_ix (dv_ix (dv_var 0) dv_int) (dv_ix (dv_var 0) dv_int))) S.nd)
      (dss_cons (ds_setVar (n := 0) (he := (DE.v (de_add (dv_ix (dv_var 0) dv_int) dv_int))) (hi := dv_int))
      (dss_cons (ds_if (dt_lt (dv_var 2) (dv_pow dv_int dv_int)) (dss_one (ds_ret (DV.toE (dv_mod (DE.v (de_callF F_law_stir (Room.mono (j := 1) hr (by decide)) hg (L2N.takes_of rfl rfl rfl rfl) (da_cons (dv_mod (dv_var 2) dv_int) (da_cons (dv_ix (dv_var 0) dv_int) da_nil)))) (dv_var 1))))) dss_nil)
      (dss_one (ds_setVar (n := 0) (he := (dv_sub (dv_var 2) (dv_pow dv_int dv_int))) (hi := dv_int)))))) dss_nil)
      (dss_cons (ds_set (i := 3) (DV.toE (dv_mod (dv_ix (dv_var 0) dv_int) (dv_var 1))) S.nd)
      (dss_cons (ds_setVar (n := 0) (he := (dv_fdiv (dv_ix (dv_var 0) dv_int) (dv_var 1))) (hi := dv_int))
      (dss_one (ds_retVar (i := 3)))))))))
/-! _law_word -/
abbrev st_law_word : Stmt := top 52
theorem sc_law_word : FnScope ["bag", "least", "most", "kinds", "k"] ["bag", "least", "most"] (defScope st_law_word) := ⟨rfl, rfl, rfl, by decide +kernel, rfl, by decide +kernel, by decide +kernel⟩
def m_law_word : M Flow1 := (M.seq (M.asg 3 (M.map R.val (bind2 (M.map R.d (M.lst (M.cons (M.ret (.str "a")) (M.cons (M.ret (.str "ab")) (M.cons (M.ret (.str "abc")) (M.cons (M.ret (.str "abcdefghijklmnopqrstuvwxyz")) (M.ret []))))))) (M.map R.d (M.call 2 f_law_draw (M.cons (M.var 0) (M.cons (M.ret (.int 4)) (M.ret []))))) M.ix)))
  (M.retR (M.map R.val (M.join (M.ret (.str "")) (M.map R.d (M.lcB (M.b1 (M.cons (M.map R.d (bind2 (M.var 1) (M.map R.d (M.call 2 f_law_draw (M.cons (M.var 0) (M.cons (M.map R.d (bind2 (bind2 (M.var 2) (M.var 1) fun x y => M.lift (D.sub x y)) (M.ret (.int 1)) fun x y => M.lift (D.add x y))) (M.ret []))))) fun x y => M.lift (D.add x y))) (M.ret [])) rangeD1) [4] (gNm 4) (M.ret true) (bind2 (M.var 3) (M.map R.d (M.call 2 f_law_draw (M.cons (M.var 0) (M.cons (M.bind (M.cons (M.var 3) (M.ret [])) lenM) (M.ret []))))) M.ix)))))))
def f_law_word : List D → M R := runF 5 m_law_word
theorem ok_law_word {P : Program} {w : World} {K : PySem.W.Frag} {mg : Str → Option Value} {base : Heap} (G : Gb fa fn tb K mg) : OkF P w K mg base (cm K) 3 "_law_word" ["bag", "least", "most"] f_law_word := by
  have F_law_draw := ok_law_draw (P := P) (w := w) (base := base) G
  have S := sc_law_word
  refine okF (mb := m_law_word) (G.def_ 24 (d := d_law_word)) (g__law_word G) S rfl (by decide) (fun _ _ _ _ _ _ us hl => match us, hl with | [_, _, _], _ => rfl) fun f cdv A outer s H E hr hg => ?_
  exact (dss_cons (ds_set (i := 3) (DV.toE (dv_ix (DE.v (de_lst (da_cons dv_str (da_cons dv_str (da_cons dv_str (da_cons dv_str da_nil)))))) (DE.v (de_callF F_law_draw (Room.mono (j := 2) hr (by decide)) hg (L2N.takes_of rfl rfl rfl rfl) (da_cons (dv_var 0) (da_cons dv_int da_nil)))))) S.nd)
      (dss_one (ds_ret (DV.toE (dv_join dv_str (DE.v (de_lc (own := [("k", 4)]) rfl S.nd (di_range1 rfl (g_range G) (da_cons (DE.v (de_add (dv_var 1) (DE.v (de_callF F_law_draw (Room.mono (j := 2) hr (by decide)) hg (L2N.takes_of rfl rfl rfl rfl) (da_cons (dv_var 0) (da_cons (DE.v (de_add (dv_sub (dv_var 2) (dv_var 1)) dv_int)) da_nil)))))) da_nil)) (blkOk_by (by kernel_rfl)) (fun _ _ _ _ _ => (dg_name 4 S.nd)) (fun _ _ _ _ _ => dts_nil) (fun _ _ _ _ _ => (dv_ix (dv_var 3) (DE.v (de_callF F_law_draw (Room.mono (j := 2) hr (by decide)) hg takesN (da_cons (dv_var 0) (da_cons (dv_len rfl (g_len G) bt_len (da_cons (dv_var 3) da_nil)) da_nil)))))))))))))
/-! _law_hand -/
abbrev st_law_hand : Stmt := top 53
theorem sc_law_hand : FnScope ["bag", "most", "found", "spare", "k", "kind", "many"] ["bag", "most"] (defScope st_law_hand) := ⟨rfl, rfl, rfl, by decide +kernel, rfl, by decide +kernel, by decide +kernel⟩
def m_law_hand : M Flow1 := (M.seq (M.asg 2 (M.lst (M.ret [])))
  (M.seq (M.asg 3 (M.map R.val (M.var 1)))
  (M.seq (M.forB (M.b1 (M.cons (M.map R.d (M.call 2 f_law_draw (M.cons (M.var 0) (M.cons (M.ret (.int 13)) (M.ret []))))) (M.ret [])) rangeD1) (gNm 4) (M.ifS (cmpM (M.var 3) (M.ret (.int 0)) D.gt?) (M.seq (M.asg 5 (M.call 2 f_law_draw (M.cons (M.var 0) (M.cons (M.ret (.int 9)) (M.ret [])))))
  (M.seq (M.asg 6 (M.map R.val (M.b1 (M.cons (M.var 3) (M.cons (M.map R.d (bind2 (M.ret (.int 1)) (M.map R.d (M.call 2 f_law_draw (M.cons (M.var 0) (M.cons (bind2 (M.map R.d (M.lst (M.cons (M.ret (.int 2)) (M.cons (M.ret (.int 4)) (M.cons (M.var 3) (M.ret [])))))) (M.map R.d (M.call 2 f_law_draw (M.cons (M.var 0) (M.cons (M.ret (.int 3)) (M.ret []))))) M.ix) (M.ret []))))) fun x y => M.lift (D.add x y))) (M.ret []))) min2)))
  (M.seq (M.ifS (cmpM (M.var 5) (M.ret (.int 2)) D.lt?) (M.seq (M.asg 6 (M.map R.val (M.ret (.int 1))))
  (M.drop (M.modVar 2 (M.cons (M.tup (M.cons (M.ret (.str "paste")) (M.ret []))) (M.ret [])) appF))) (M.ifS (cmpM (M.var 5) (M.ret (.int 2)) D.eq?) (M.drop (M.modVar 2 (M.cons (M.tup (M.cons (M.ret (.str "write")) (M.cons (M.map R.d (M.call 3 f_law_word (M.cons (M.var 0) (M.cons (M.var 6) (M.cons (M.var 6) (M.ret [])))))) (M.ret [])))) (M.ret [])) appF)) (M.drop (M.modVar 2 (M.cons (M.tup (M.cons (bind2 (M.map R.d (M.lst (M.cons (M.ret (.str "left")) (M.cons (M.ret (.str "right")) (M.cons (M.ret (.str "strike")) (M.cons (M.ret (.str "rub")) (M.cons (M.ret (.str "copy")) (M.cons (M.ret (.str "cut")) (M.ret []))))))))) (bind2 (M.var 5) (M.ret (.int 3)) fun x y => M.lift (D.sub x y)) M.ix) (M.cons (M.var 6) (M.ret [])))) (M.ret [])) appF))))
  (M.asg 3 (M.map R.val (bind2 (M.var 3) (M.var 6) fun x y => M.lift (D.sub x y))))))) (M.ret .next)))
  (M.retVar 2))))
def f_law_hand : List D → M R := runF 7 m_law_hand
theorem ok_law_hand {P : Program} {w : World} {K : PySem.W.Frag} {mg : Str → Option Value} {base : Heap} (G : Gb fa fn tb K mg) : OkF P w K mg base (cm K) 4 "_law_hand" ["bag", "most"] f_law_hand := by
  have F_law_draw := ok_law_draw (P := P) (w := w) (base := base) G
  have F_law_word := ok_law_word (P := P) (w := w) (base := base) G
  have S := sc_law_hand
  refine okF (mb := m_law_hand) (G.def_ 25 (d := d_law_hand)) (g__law_hand G) S rfl (by decide) (fun _ _ _ _ _ _ us hl => match us, hl with | [_, _], _ => rfl) fun f cdv A outer s H E hr hg => ?_
  exact (dss_cons (ds_set (i := 2) (de_lst da_nil) S.nd)
      (dss_cons (ds_set (i := 3) (DV.toE (dv_var 1)) S.nd)
      (dss_cons (ds_for (passes_of rfl) rfl (di_range1 rfl (g_range G) (da_cons (DE.v (de_callF F_law_draw (Room.mono (j := 2) hr (by decide)) hg (L2N.takes_of rfl rfl rfl rfl) (da_cons (dv_var 0) (da_cons dv_int da_nil)))) da_nil)) (dg_name 4 S.nd) (dss_one (ds_if (dt_gt (dv_var 3) dv_int) (dss_cons (ds_set (i := 5) (de_callF F_law_draw (Room.mono (j := 2) hr (by decide)) hg (L2N.takes_of rfl rfl rfl rfl) (da_cons (dv_var 0) (da_cons dv_int da_nil))) S.nd)
      (dss_cons (ds_set (i := 6) (DV.toE (dv_min rfl rfl (g_min G) bt_min (da_cons (dv_var 3) (da_cons (DE.v (de_add dv_int (DE.v (de_callF F_law_draw (Room.mono (j := 2) hr (by decide)) hg (L2N.takes_of rfl rfl rfl rfl) (da_cons (dv_var 0) (da_cons (dv_ix (DE.v (de_lst (da_cons dv_int (da_cons dv_int (da_cons (dv_var 3) da_nil))))) (DE.v (de_callF F_law_draw (Room.mono (j := 2) hr (by decide)) hg (L2N.takes_of rfl rfl rfl rfl) (da_cons (dv_var 0) (da_cons dv_int da_nil))))) da_nil)))))) da_nil)))) S.nd)
      (dss_cons (ds_if (dt_lt (dv_var 5) dv_int) (dss_cons (ds_set (i := 6) (DV.toE dv_int) S.nd)
      (dss_one (ds_drop (dv_append (i := 2) (da_cons (dv_tup (da_cons dv_str da_nil)) da_nil))))) (dss_one (ds_if (dt_eq (room_v hr) (dv_var 5) dv_int) (dss_one (ds_drop (dv_append (i := 2) (da_cons (dv_tup (da_cons dv_str (da_cons (DE.v (de_callF F_law_word (Room.mono (j := 3) hr (by decide)) hg (L2N.takes_of rfl rfl rfl rfl) (da_cons (dv_var 0) (da_cons (dv_var 6) (da_cons (dv_var 6) da_nil))))) da_nil))) da_nil)))) (dss_one (ds_drop (dv_append (i := 2) (da_cons (dv_tup (da_cons (dv_ix (DE.v (de_lst (da_cons dv_str (da_cons dv_str (da_cons dv_str (da_cons dv_str (da_cons dv_str (da_cons dv_str da_nil)))))))) (dv_sub (dv_var 5) dv_int)) (da_cons (dv_var 6) da_nil))) da_nil)))))))
      (dss_one (ds_set (i := 3) (DV.toE (dv_sub (dv_var 3) (dv_var 6))) S.nd))))) dss_nil)))
      (dss_one (ds_retVar (i := 2))))))
/-! _law_play -/
abbrev st_law_play : Stmt := top 55
theorem sc_law_play : FnScope ["bag", "parts", "found", "k", "times"] ["bag", "parts"] (defScope st_law_play) := ⟨rfl, rfl, rfl, by decide +kernel, rfl, by decide +kernel, by decide +kernel⟩
def m_law_play : M Flow1 := (M.seq (M.asg 2 (M.lst (M.ret [])))
  (M.seq (M.forB (M.b1 (M.cons (M.map R.d (M.call 2 f_law_draw (M.cons (M.var 0) (M.cons (M.map R.d (bind2 (M.var 1) (M.ret (.int 1)) fun x y => M.lift (D.add x y))) (M.ret []))))) (M.ret [])) rangeD1) (gNm 3) (M.seq (M.asg 4 (M.map R.val (bind2 (M.map R.d (M.lst (M.cons (M.map R.d (M.call 2 f_law_draw (M.cons (M.var 0) (M.cons (M.ret (.int 12)) (M.ret []))))) (M.cons (bind2 (bind2 (M.ret (.int 10)) (M.ret (.int 30)) fun x y => M.lift (D.pow x y)) (M.map R.d (M.call 2 f_law_draw (M.cons (M.var 0) (M.cons (M.ret (.int 9)) (M.ret []))))) fun x y => M.lift (D.sub x y)) (M.cons (M.map R.d (M.call 2 f_law_draw (M.cons (M.var 0) (M.cons (bind2 (M.ret (.int 10)) (M.ret (.int 30)) fun x y => M.lift (D.pow x y)) (M.ret []))))) (M.ret [])))))) (M.map R.d (M.call 2 f_law_draw (M.cons (M.var 0) (M.cons (M.ret (.int 3)) (M.ret []))))) M.ix)))
  (M.drop (M.modVar 2 (M.cons (M.tup (M.cons (M.map R.d (M.call 2 f_law_hand (M.cons (M.var 0) (M.cons (bind2 (M.map R.d (M.lst (M.cons (M.ret (.int 12)) (M.cons (M.ret (.int 60)) (M.ret []))))) (M.map R.d (M.call 2 f_law_draw (M.cons (M.var 0) (M.cons (M.ret (.int 2)) (M.ret []))))) M.ix) (M.ret []))))) (M.cons (M.var 4) (M.ret [])))) (M.ret [])) appF))))
  (M.retVar 2)))
def f_law_play : List D → M R := runF 5 m_law_play
theorem ok_law_play {P : Program} {w : World} {K : PySem.W.Frag} {mg : Str → Option Value} {base : Heap} (G : Gb fa fn tb K mg) : OkF P w K mg base (cm K) 5 "_law_play" ["bag", "parts"] f_law_play := by
  have F_law_draw := ok_law_draw (P := P) (w := w) (base := base) G
  have F_law_hand := ok_law_hand (P := P) (w := w) (base := base) G
  have S := sc_law_play
  refine okF (mb := m_law_play) (G.def_ 27 (d := d_law_play)) (g__law_play G) S rfl (by decide) (fun _ _ _ _ _ _ us hl => match us, hl with | [_, _], _ => rfl) fun f cdv A outer s H E hr hg => ?_
  exact (dss_cons (ds_set (i := 2) (de_lst da_nil) S.nd)
      (dss_cons (ds_for (passes_of rfl) rfl (di_range1 rfl (g_range G) (da_cons (DE.v (de_callF F_law_draw (Room.mono (j := 2) hr (by decide)) hg (L2N.takes_of rfl rfl rfl rfl) (da_cons (dv_var 0) (da_cons (DE.v (de_add (dv_var 1) dv_int)) da_nil)))) da_nil)) (dg_name 3 S.nd) (dss_cons (ds_set (i := 4) (DV.toE (dv_ix (DE.v (de_lst (da_cons (DE.v (de_callF F_law_draw (Room.mono (j := 2) hr (by decide)) hg (L2N.takes_of rfl rfl rfl rfl) (da_cons (dv_var 0) (da_cons dv_int da_nil)))) (da_cons (dv_sub (dv_pow dv_int dv_int) (DE.v (de_callF F_law_draw (Room.mono (j := 2) hr (by decide)) hg (L2N.takes_of rfl rfl rfl rfl) (da_cons (dv_var 0) (da_cons dv_int da_nil))))) (da_cons (DE.v (de_callF F_law_draw (Room.mono (j := 2) hr (by decide)) hg (L2N.takes_of rfl rfl rfl rfl) (da_cons (dv_var 0) (da_cons (dv_pow dv_int dv_int) da_nil)))) da_nil))))) (DE.v (de_callF F_law_draw (Room.mono (j := 2) hr (by decide)) hg (L2N.takes_of rfl rfl rfl rfl) (da_cons (dv_var 0) (da_cons dv_int da_nil)))))) S.nd)
      (dss_one (ds_drop (dv_append (i := 2) (da_cons (dv_tup (da_cons (DE.v (de_callF F_law_hand (Room.mono (j := 4) hr (by decide)) hg (L2N.takes_of rfl rfl rfl rfl) (da_cons (dv_var 0) (da_cons (dv_ix (DE.v (de_lst (da_cons dv_int (da_cons dv_int da_nil)))) (DE.v (de_callF F_law_draw (Room.mono (j := 2) hr (by decide)) hg (L2N.takes_of rfl rfl rfl rfl) (da_cons (dv_var 0) (da_cons dv_int da_nil))))) da_nil)))) (da_cons (dv_var 4) da_nil))) da_nil))))))
      (dss_one (ds_retVar (i := 2)))))
/-! _law_key_text -/
abbrev st_law_key_text : Stmt := top 56
theorem sc_law_key_text : FnScope ["key", "thing"] ["key"] (defScope st_law_key_text) := ⟨rfl, rfl, rfl, by decide +kernel, rfl, by decide +kernel, by decide +kernel⟩
def m_law_key_text : M Flow1 := (M.retR (M.map R.val (M.join (M.ret (.str " ")) (M.map R.d (M.lcB (M.seqI (M.var 0)) [1] (gNm 1) (M.ret true) (M.b1 (M.cons (M.var 1) (M.ret [])) strF))))))
def f_law_key_text : List D → M R := runF 2 m_law_key_text
theorem ok_law_key_text {P : Program} {w : World} {K : PySem.W.Frag} {mg : Str → Option Value} {base : Heap} (G : Gb fa fn tb K mg) : OkF P w K mg base (cm K) 1 "_law_key_text" ["key"] f_law_key_text := by
  have S := sc_law_key_text
  refine okF (mb := m_law_key_text) (G.def_ 28 (d := d_law_key_text)) (g__law_key_text G) S rfl (by decide) (fun _ _ _ _ _ _ us hl => match us, hl with | [_], _ => rfl) fun f cdv A outer s H E hr hg => ?_
  exact (dss_one (ds_ret (DV.toE (dv_join dv_str (DE.v (de_lc (own := [("thing", 1)]) rfl S.nd (di_seq (dv_var 0)) (blkOk_by (by kernel_rfl)) (fun _ _ _ _ _ => (dg_name 1 S.nd)) (fun _ _ _ _ _ => dts_nil) (fun _ _ _ _ _ => (dv_strF rfl (g_str G) bt_str (da_cons (dv_var 1) da_nil)))))))))
/-! _law_hand_text -/
abbrev st_law_hand_text : Stmt := top 57
theorem sc_law_hand_text : FnScope ["keys", "key"] ["keys"] (defScope st_law_hand_text) := ⟨rfl, rfl, rfl, by decide +kernel, rfl, by decide +kernel, by decide +kernel⟩
def m_law_hand_text : M Flow1 := (M.retR (M.map R.val (M.join (M.ret (.str ", ")) (M.map R.d (M.lcB (M.seqI (M.var 0)) [1] (gNm 1) (M.ret true) (M.map R.d (M.call 1 f_law_key_text (M.cons (M.var 1) (M.ret [])))))))))
def f_law_hand_text : List D → M R := runF 2 m_law_hand_text
theorem ok_law_hand_text {P : Program} {w : World} {K : PySem.W.Frag} {mg : Str → Option Value} {base : Heap} (G : Gb fa fn tb K mg) : OkF P w K mg base (cm K) 2 "_law_hand_text" ["keys"] f_law_hand_text := by
  have F_law_key_text := ok_law_key_text (P := P) (w := w) (base := base) G
  have S := sc_law_hand_text
  refine okF (mb := m_law_hand_text) (G.def_ 29 (d := d_law_hand_text)) (g__law_hand_text G) S rfl (by decide) (fun _ _ _ _ _ _ us hl => match us, hl with | [_], _ => rfl) fun f cdv A outer s H E hr hg => ?_
  exact (dss_one (ds_ret (DV.toE (dv_join dv_str (DE.v (de_lc (own := [("key", 1)]) rfl S.nd (di_seq (dv_var 0)) (blkOk_by (by kernel_rfl)) (fun _ _ _ _ _ => (dg_name 1 S.nd)) (fun _ _ _ _ _ => dts_nil) (fun _ _ _ _ _ => (DE.v (de_callF F_law_key_text (Room.mono (j := 1) hr (by decide)) hg takesN (da_cons (dv_var 1) da_nil))))))))))
/-! _law_dressed -/
abbrev st_law_dressed : Stmt := top 54
theorem sc_law_dressed : FnScope ["bag", "keys", "some", "key"] ["bag", "keys"] (defScope st_law_dressed) := ⟨rfl, rfl, rfl, by decide +kernel, rfl, by decide +kernel, by decide +kernel⟩
def m_law_dressed_al : M Flow1 := (M.seq (M.asg 2 (M.map R.val (M.alloc (M.lcB (M.seqI (M.var 1)) [3] (gNm 3) (M.ret true) (M.ite (cmpM (M.map R.d (M.call 2 f_law_draw (M.cons (M.var 0) (M.cons (M.ret (.int 2)) (M.ret []))))) (M.ret (.int 0)) D.eq?) (M.map R.d (M.bind (M.cons (M.var 3) (M.ret [])) listM)) (M.var 3))))))
  (M.retR (M.map R.val (bind2 (M.map R.d (M.lst (M.cons (M.alloc (M.bind (M.cons (M.var 1) (M.ret [])) listM)) (M.cons (M.bind (M.cons (M.var 1) (M.ret [])) tupleM) (M.cons (M.var 2) (M.cons (M.bind (M.cons (M.var 2) (M.ret [])) tupleM) (M.ret []))))))) (M.map R.d (M.call 2 f_law_draw (M.cons (M.var 0) (M.cons (M.ret (.int 4)) (M.ret []))))) M.ix))))
def f_law_dressed_al : List D → M R := runF 4 m_law_dressed_al
theorem ok_law_dressed_al {P : Program} {w : World} {K : PySem.W.Frag} {mg : Str → Option Value} {base : Heap} (G : Gb fa fn tb K mg) : OkF P w K mg base (cm K) 3 "_law_dressed" ["bag", "keys"] f_law_dressed_al := by
  have F_law_draw := ok_law_draw (P := P) (w := w) (base := base) G
  have S := sc_law_dressed
  refine okF (mb := m_law_dressed_al) (G.def_ 26 (d := d_law_dressed)) (g__law_dressed G) S rfl (by decide) (fun _ _ _ _ _ _ us hl => match us, hl with | [_, _], _ => rfl) fun f cdv A outer s H E hr hg => ?_
  exact (dss_cons (ds_setLcA (i := 2) (own := [("key", 3)]) rfl S.nd rfl rfl rfl (di_seq (dv_var 1)) (blkOk_by (by kernel_rfl)) (fun _ _ _ _ _ => (dg_name 3 S.nd)) (fun _ _ _ _ _ => dts_nil) (fun _ _ _ _ _ => (dv_if (dt_eq (room_v hr) (DE.v (de_callF F_law_draw (Room.mono (j := 2) hr (by decide)) hg takesN (da_cons (dv_var 0) (da_cons dv_int da_nil)))) dv_int) (DE.v (de_list rfl (g_list G) bt_list (da_cons (dv_var 3) da_nil))) (dv_var 3))))
      (dss_one (ds_ret (DV.toE (dv_ix (DE.v (de_lst (da_cons (DE.alloc (de_list rfl (g_list G) bt_list (da_cons (dv_var 1) da_nil))) (da_cons (dv_tuple rfl (g_tuple G) bt_tuple (da_cons (dv_var 1) da_nil)) (da_cons (dv_var 2) (da_cons (dv_tuple rfl (g_tuple G) bt_tuple (da_cons (dv_var 2) da_nil)) da_nil)))))) (DE.v (de_callF F_law_draw (Room.mono (j := 2) hr (by decide)) hg (L2N.takes_of rfl rfl rfl rfl) (da_cons (dv_var 0) (da_cons dv_int da_nil)))))))))
/-! keys_shown -/
abbrev st_keys_shown : Stmt := top 41
theorem sc_keys_shown : FnScope ["keys", "key", "thing"] ["keys"] (defScope st_keys_shown) := ⟨rfl, rfl, rfl, by decide +kernel, rfl, by decide +kernel, by decide +kernel⟩
def m_keys_shown : M Flow1 := (M.retR (M.map R.val (M.join (M.ret (.str ", ")) (M.map R.d (M.lcB (M.seqI (M.var 0)) [1] (gNm 1) (M.ret true) (M.join (M.ret (.str " ")) (M.map R.d (M.lcB (M.seqI (M.var 1)) [2] (gNm 2) (M.ret true) (M.b1 (M.cons (M.var 2) (M.ret [])) strF)))))))))
def f_keys_shown : List D → M R := runF 3 m_keys_shown
theorem ok_keys_shown {P : Program} {w : World} {K : PySem.W.Frag} {mg : Str → Option Value} {base : Heap} (G : Gb fa fn tb K mg) : OkF P w K mg base (cm K) 1 "keys_shown" ["keys"] f_keys_shown := by
  have S := sc_keys_shown
  refine okF (mb := m_keys_shown) (G.def_ 15 (d := d_keys_shown)) (g_keys_shown G) S rfl (by decide) (fun _ _ _ _ _ _ us hl => match us, hl with | [_], _ => rfl) fun f cdv A outer s H E hr hg => ?_
  exact (dss_one (ds_ret (DV.toE (dv_join (dv_gStr (g_BETWEEN_KEYS G)) (DE.v (de_lc (own := [("key", 1)]) rfl S.nd (di_seq (dv_var 0)) (blkOk_by (by kernel_rfl)) (fun _ _ _ _ _ => (dg_name 1 S.nd)) (fun _ _ _ _ _ => dts_nil) (fun _ _ _ _ _ => (dv_join dv_str (DE.v (de_lc (own := [("thing", 2)]) rfl S.nd (di_seq (dv_var 1)) (blkOk_by (by kernel_rfl)) (fun _ _ _ _ _ => (dg_name 2 S.nd)) (fun _ _ _ _ _ => dts_nil) (fun _ _ _ _ _ => (dv_strF rfl (g_str G) bt_str (da_cons (dv_var 2) da_nil)))))))))))))
/-! is_plain -/
abbrev st_is_plain : Stmt := top 9
theorem sc_is_plain : FnScope ["thing", "sign"] ["thing"] (defScope st_is_plain) := ⟨rfl, rfl, rfl, by decide +kernel, rfl, by decide +kernel, by decide +kernel⟩
def m_is_plain : M Flow1 := (M.retR (M.map R.val (M.vand (M.isa (M.var 0) .tStr) (M.b1 (M.cons (M.map R.d (M.lcB (M.strI (M.var 0)) [1] (gNm 1) (M.ret true) (M.map D.bl (cmpM (M.var 1) (M.ret (.str "abcdefghijklmnopqrstuvwxyz")) D.in?)))) (M.ret [])) (ofList allB)))))
def f_is_plain : List D → M R := runF 2 m_is_plain
theorem ok_is_plain {P : Program} {w : World} {K : PySem.W.Frag} {mg : Str → Option Value} {base : Heap} (G : Gb fa fn tb K mg) : OkF P w K mg base (cm K) 1 "is_plain" ["thing"] f_is_plain := by
  have S := sc_is_plain
  refine okF (mb := m_is_plain) (G.def_ 1 (d := d_is_plain)) (g_is_plain G) S rfl (by decide) (fun _ _ _ _ _ _ us hl => match us, hl with | [_], _ => rfl) fun f cdv A outer s H E hr hg => ?_
  exact (dss_one (ds_ret (DV.toE (dv_and (dv_isi .tStr rfl (g_isinstance G) bt_isinstance rfl (g_str G) bt_str (dv_var 0)) (dv_one (dv_all rfl rfl (g_all G) bt_all (da_cons (DE.v (de_lc (own := [("sign", 1)]) rfl S.nd (di_str (dv_var 0)) (blkOk_by (by kernel_rfl)) (fun _ _ _ _ _ => (dg_name 1 S.nd)) (fun _ _ _ _ _ => dts_nil) (fun _ _ _ _ _ => (dv_in (room_u hr) (dv_var 1) (dv_gStr (g_LETTERS G)) (by with_unfolding_all rfl))))) da_nil)))))))
/-! is_word -/
abbrev st_is_word : Stmt := top 10
theorem sc_is_word : FnScope ["thing"] ["thing"] (defScope st_is_word) := ⟨rfl, rfl, rfl, by decide +kernel, rfl, by decide +kernel, by decide +kernel⟩
def m_is_word : M Flow1 := (M.retR (M.map R.val (M.vand (M.map R.d (M.call 1 f_is_plain (M.cons (M.var 0) (M.ret [])))) (M.map D.bl (chainM (M.ret (.int 1)) (M.bind (M.cons (M.var 0) (M.ret [])) lenM) (M.ret (.int 60)) D.le? D.le?)))))
def f_is_word : List D → M R := runF 1 m_is_word
theorem ok_is_word {P : Program} {w : World} {K : PySem.W.Frag} {mg : Str → Option Value} {base : Heap} (G : Gb fa fn tb K mg) : OkF P w K mg base (cm K) 2 "is_word" ["thing"] f_is_word := by
  have F_is_plain := ok_is_plain (P := P) (w := w) (base := base) G
  have S := sc_is_word
  refine okF (mb := m_is_word) (G.def_ 2 (d := d_is_word)) (g_is_word G) S rfl (by decide) (fun _ _ _ _ _ _ us hl => match us, hl with | [_], _ => rfl) fun f cdv A outer s H E hr hg => ?_
  exact (dss_one (ds_ret (DV.toE (dv_and (DE.v (de_callF F_is_plain (Room.mono (j := 1) hr (by decide)) hg (L2N.takes_of rfl rfl rfl rfl) (da_cons (dv_var 0) da_nil))) (dv_one (dv_chain op_le op_le b2_le b2_le dv_int (dv_len rfl (g_len G) bt_len (da_cons (dv_var 0) da_nil)) (dv_gInt (g_MOST_WORD G))))))))
/-! is_whole -/
abbrev st_is_whole : Stmt := top 8
theorem sc_is_whole : FnScope ["thing"] ["thing"] (defScope st_is_whole) := ⟨rfl, rfl, rfl, by decide +kernel, rfl, by decide +kernel, by decide +kernel⟩
def m_is_whole : M Flow1 := (M.retR (M.map R.val (M.vand (M.isa (M.var 0) .tInt) (M.vnot (M.isa (M.var 0) .tBool)))))
def f_is_whole : List D → M R := runF 1 m_is_whole
theorem ok_is_whole {P : Program} {w : World} {K : PySem.W.Frag} {mg : Str → Option Value} {base : Heap} (G : Gb fa fn tb K mg) : OkF P w K mg base (cm K) 1 "is_whole" ["thing"] f_is_whole := by
  have S := sc_is_whole
  refine okF (mb := m_is_whole) (G.def_ 0 (d := d_is_whole)) (g_is_whole G) S rfl (by decide) (fun _ _ _ _ _ _ us hl => match us, hl with | [_], _ => rfl) fun f cdv A outer s H E hr hg => ?_
  exact (dss_one (ds_ret (DV.toE (dv_and (dv_isi .tInt rfl (g_isinstance G) bt_isinstance rfl (g_int G) bt_int (dv_var 0)) (dv_one (dv_not (dv_isi .tBool rfl (g_isinstance G) bt_isinstance rfl (g_bool G) bt_bool (dv_var 0))))))))
/-! is_key -/
abbrev st_is_key : Stmt := top 17
theorem sc_is_key : FnScope ["thing"] ["thing"] (defScope st_is_key) := ⟨rfl, rfl, rfl, by decide +kernel, rfl, by decide +kernel, by decide +kernel⟩
def m_is_key : M Flow1 := (M.seq (M.ifS (M.or (M.not (M.tru (M.isa2 (M.var 0) .tList .tTuple))) (M.or (cmpM (M.bind (M.cons (M.var 0) (M.ret [])) lenM) (M.ret (.int 0)) D.eq?) (M.not (M.tru (M.isa (bind2 (M.var 0) (M.ret (.int 0)) M.ix) .tStr))))) (M.retR (M.map R.val (M.ret (.bl false)))) (M.ret .next))
  (M.seq (M.ifS (cmpM (bind2 (M.var 0) (M.ret (.int 0)) M.ix) (M.ret (.str "paste")) D.eq?) (M.retR (M.map R.val (M.map D.bl (cmpM (M.bind (M.cons (M.var 0) (M.ret [])) lenM) (M.ret (.int 1)) D.eq?)))) (M.ret .next))
  (M.seq (M.ifS (cmpM (M.bind (M.cons (M.var 0) (M.ret [])) lenM) (M.ret (.int 2)) D.ne?) (M.retR (M.map R.val (M.ret (.bl false)))) (M.ret .next))
  (M.seq (M.ifS (cmpM (bind2 (M.var 0) (M.ret (.int 0)) M.ix) (M.ret (.str "write")) D.eq?) (M.retR (M.call 1 f_is_word (M.cons (bind2 (M.var 0) (M.ret (.int 1)) M.ix) (M.ret [])))) (M.ret .next))
  (M.retR (M.map R.val (M.vand (M.map D.bl (cmpM (bind2 (M.var 0) (M.ret (.int 0)) M.ix) (M.map R.d (bind2 (M.ret (.tup ((["left", "rub"] : List Str).map D.str))) (M.ret (.tup ((["right", "strike", "copy", "cut"] : List Str).map D.str))) fun x y => M.lift (D.add x y))) D.in?)) (M.vand (M.map R.d (M.call 1 f_is_whole (M.cons (bind2 (M.var 0) (M.ret (.int 1)) M.ix) (M.ret [])))) (M.map D.bl (cmpM (bind2 (M.var 0) (M.ret (.int 1)) M.ix) (M.ret (.int 1)) D.ge?))))))))))
def f_is_key : List D → M R := runF 1 m_is_key
theorem ok_is_key {P : Program} {w : World} {K : PySem.W.Frag} {mg : Str → Option Value} {base : Heap} (G : Gb fa fn tb K mg) : OkF P w K mg base (cm K) 3 "is_key" ["thing"] f_is_key := by
  have F_is_word := ok_is_word (P := P) (w := w) (base := base) G
  have F_is_whole := ok_is_whole (P := P) (w := w) (base := base) G
  have S := sc_is_key
  refine okF (mb := m_is_key) (G.def_ 3 (d := d_is_key)) (g_is_key G) S rfl (by decide) (fun _ _ _ _ _ _ us hl => match us, hl with | [_], _ => rfl) fun f cdv A outer s H E hr hg => ?_
  exact (dss_cons (ds_if (DW.t (dw_or (dt_not (dt_val (dv_isi2 .tList .tTuple rfl (g_isinstance G) bt_isinstance rfl (g_list G) bt_list rfl (g_tuple G) bt_tuple (dv_var 0)))) (dw_or (dt_eq (room_v hr) (dv_len rfl (g_len G) bt_len (da_cons (dv_var 0) da_nil)) dv_int) (dw_or1 (dt_not (dt_val (dv_isi .tStr rfl (g_isinstance G) bt_isinstance rfl (g_str G) bt_str (dv_ix (dv_var 0) dv_int)))))))) (dss_one (ds_ret (DV.toE dv_bl))) dss_nil)
      (dss_cons (ds_if (dt_eq (room_v hr) (dv_ix (dv_var 0) dv_int) (dv_gStr (g_PASTE_hands G))) (dss_one (ds_ret (DV.toE (dv_eq (room_v hr) (dv_len rfl (g_len G) bt_len (da_cons (dv_var 0) da_nil)) dv_int)))) dss_nil)
      (dss_cons (ds_if (dt_ne (room_v hr) (dv_len rfl (g_len G) bt_len (da_cons (dv_var 0) da_nil)) dv_int) (dss_one (ds_ret (DV.toE dv_bl))) dss_nil)
      (dss_cons (ds_if (dt_eq (room_v hr) (dv_ix (dv_var 0) dv_int) (dv_gStr (g_WRITE_hands G))) (dss_one (ds_ret (de_callF F_is_word (Room.mono (j := 2) hr (by decide)) hg (L2N.takes_of rfl rfl rfl rfl) (da_cons (dv_ix (dv_var 0) dv_int) da_nil)))) dss_nil)
      (dss_one (ds_ret (DV.toE (dv_and (dv_in (room_u hr) (dv_ix (dv_var 0) dv_int) (DE.v (de_add (dv_gTup (g_LEFTWARD G) (gt_LEFTWARD G)) (dv_gTup (g_RIGHTWARD G) (gt_RIGHTWARD G)))) (by with_unfolding_all rfl)) (dv_and (DE.v (de_callF F_is_whole (Room.mono (j := 1) hr (by decide)) hg (L2N.takes_of rfl rfl rfl rfl) (da_cons (dv_ix (dv_var 0) dv_int) da_nil))) (dv_one (dv_ge (dv_ix (dv_var 0) dv_int) dv_int)))))))))))
/-! weight_of -/
abbrev st_weight_of : Stmt := top 18
theorem sc_weight_of : FnScope ["key"] ["key"] (defScope st_weight_of) := ⟨rfl, rfl, rfl, by decide +kernel, rfl, by decide +kernel, by decide +kernel⟩
def m_weight_of : M Flow1 := (M.seq (M.ifS (cmpM (bind2 (M.var 0) (M.ret (.int 0)) M.ix) (M.ret (.str "paste")) D.eq?) (M.retR (M.map R.val (M.ret (.int 1)))) (M.ret .next))
  (M.retR (M.map R.val (M.ite (cmpM (bind2 (M.var 0) (M.ret (.int 0)) M.ix) (M.ret (.str "write")) D.eq?) (M.bind (M.cons (bind2 (M.var 0) (M.ret (.int 1)) M.ix) (M.ret [])) lenM) (bind2 (M.var 0) (M.ret (.int 1)) M.ix)))))
def f_weight_of : List D → M R := runF 1 m_weight_of
theorem ok_weight_of {P : Program} {w : World} {K : PySem.W.Frag} {mg : Str → Option Value} {base : Heap} (G : Gb fa fn tb K mg) : OkF P w K mg base (cm K) 1 "weight_of" ["key"] f_weight_of := by
  have S := sc_weight_of
  refine okF (mb := m_weight_of) (G.def_ 4 (d := d_weight_of)) (g_weight_of G) S rfl (by decide) (fun _ _ _ _ _ _ us hl => match us, hl with | [_], _ => rfl) fun f cdv A outer s H E hr hg => ?_
  exact (dss_cons (ds_if (dt_eq (room_v hr) (dv_ix (dv_var 0) dv_int) (dv_gStr (g_PASTE_hands G))) (dss_one (ds_ret (DV.toE dv_int))) dss_nil)
      (dss_one (ds_ret (DV.toE (dv_if (dt_eq (room_v hr) (dv_ix (dv_var 0) dv_int) (dv_gStr (g_WRITE_hands G))) (dv_len rfl (g_len G) bt_len (da_cons (dv_ix (dv_var 0) dv_int) da_nil)) (dv_ix (dv_var 0) dv_int))))))
/-! is_hand -/
abbrev st_is_hand : Stmt := top 19
theorem sc_is_hand : FnScope ["thing", "key"] ["thing"] (defScope st_is_hand) := ⟨rfl, rfl, rfl, by decide +kernel, rfl, by decide +kernel, by decide +kernel⟩
def m_is_hand : M Flow1 := (M.seq (M.ifS (M.or (M.not (M.tru (M.isa2S (M.var 0) .tList .tTuple))) (M.or (cmpM (M.bind (M.cons (M.var 0) (M.ret [])) lenM) (M.ret (.int 60)) D.gt?) (M.not (M.tru (M.b1 (M.cons (M.map R.d (M.lcSB (M.srcI (M.var 0)) [1] (gNm 1) (M.ret true) (M.map R.d (M.call 1 f_is_key (M.cons (M.var 1) (M.ret [])))))) (M.ret [])) (ofList allB)))))) (M.retR (M.map R.val (M.ret (.bl false)))) (M.ret .next))
  (M.retR (M.map R.val (M.map D.bl (cmpM (M.b1 (M.cons (M.map R.d (M.lcSB (M.srcI (M.var 0)) [1] (gNm 1) (M.ret true) (M.map R.d (M.call 1 f_weight_of (M.cons (M.var 1) (M.ret [])))))) (M.ret [])) (ofList sumI)) (M.ret (.int 60)) D.le?)))))
def f_is_hand : List D → M R := runF 2 m_is_hand
theorem ok_is_hand {P : Program} {w : World} {K : PySem.W.Frag} {mg : Str → Option Value} {base : Heap} (G : Gb fa fn tb K mg) : OkF P w K mg base (cm K) 4 "is_hand" ["thing"] f_is_hand := by
  have F_is_key := ok_is_key (P := P) (w := w) (base := base) G
  have F_weight_of := ok_weight_of (P := P) (w := w) (base := base) G
  have S := sc_is_hand
  refine okF (mb := m_is_hand) (G.def_ 5 (d := d_is_hand)) (g_is_hand G) S rfl (by decide) (fun _ _ _ _ _ _ us hl => match us, hl with | [_], _ => rfl) fun f cdv A outer s H E hr hg => ?_
  exact (dss_cons (ds_if (DW.t (dw_or (dt_not (dt_val (dv_isi2S .tList .tTuple rfl (g_isinstance G) bt_isinstance rfl (g_list G) bt_list rfl (g_tuple G) bt_tuple (dv_var 0)))) (dw_or (dt_gt (dv_len rfl (g_len G) bt_len (da_cons (dv_var 0) da_nil)) (dv_gInt (g_MOST_KEYS G))) (dw_or1 (dt_not (dt_val (dv_all rfl rfl (g_all G) bt_all (da_cons (DE.v (de_lcS (own := [("key", 1)]) rfl S.nd (di_srcI (dv_var 0)) (blkOk_by (by kernel_rfl)) (fun _ _ _ _ _ => (dg_name 1 S.nd)) (fun _ _ _ _ _ => dts_nil) (fun _ _ _ _ _ => (DE.v (de_callF F_is_key (Room.mono (j := 3) hr (by decide)) hg takesN (da_cons (dv_var 1) da_nil)))))) da_nil)))))))) (dss_one (ds_ret (DV.toE dv_bl))) dss_nil)
      (dss_one (ds_ret (DV.toE (dv_le (dv_sum rfl rfl (g_sum G) bt_sum (da_cons (DE.v (de_lcS (own := [("key", 1)]) rfl S.nd (di_srcI (dv_var 0)) (blkOk_by (by kernel_rfl)) (fun _ _ _ _ _ => (dg_name 1 S.nd)) (fun _ _ _ _ _ => dts_nil) (fun _ _ _ _ _ => (DE.v (de_callF F_weight_of (Room.mono (j := 1) hr (by decide)) hg takesN (da_cons (dv_var 1) da_nil)))))) da_nil)) (dv_gInt (g_MOST_KEYS G)))))))
/-! hand_of -/
abbrev st_hand_of : Stmt := top 20
theorem sc_hand_of : FnScope ["thing", "key"] ["thing"] (defScope st_hand_of) := ⟨rfl, rfl, rfl, by decide +kernel, rfl, by decide +kernel, by decide +kernel⟩
def m_hand_of : M Flow1 := (M.seq (M.ifS (M.not (M.tru (M.map R.d (M.call 1 f_is_hand (M.cons (M.var 0) (M.ret [])))))) (M.raise 2) (M.ret .next))
  (M.retR (M.lcSB (M.srcI (M.var 0)) [1] (gNm 1) (M.ret true) (M.bind (M.cons (M.var 1) (M.ret [])) tupleM))))
def f_hand_of : List D → M R := runF 2 m_hand_of
theorem ok_hand_of {P : Program} {w : World} {K : PySem.W.Frag} {mg : Str → Option Value} {base : Heap} (G : Gb fa fn tb K mg) : OkF P w K mg base (cm K) 5 "hand_of" ["thing"] f_hand_of := by
  have F_is_hand := ok_is_hand (P := P) (w := w) (base := base) G
  have S := sc_hand_of
  refine okF (mb := m_hand_of) (G.def_ 6 (d := d_hand_of)) (g_hand_of G) S rfl (by decide) (fun _ _ _ _ _ _ us hl => match us, hl with | [_], _ => rfl) fun f cdv A outer s H E hr hg => ?_
  exact (dss_cons (ds_if (dt_not (dt_val (DE.v (de_callF F_is_hand (Room.mono (j := 4) hr (by decide)) hg (L2N.takes_of rfl rfl rfl rfl) (da_cons (dv_var 0) da_nil))))) (dss_one (ds_raiseG (c := 2) rfl (L2N.takes_of rfl rfl rfl rfl) (g_NoHand G) (ge_NoHand G))) dss_nil)
      (dss_one (ds_ret (de_lcS (own := [("key", 1)]) rfl S.nd (di_srcI (dv_var 0)) (blkOk_by (by kernel_rfl)) (fun _ _ _ _ _ => (dg_name 1 S.nd)) (fun _ _ _ _ _ => dts_nil) (fun _ _ _ _ _ => (dv_tuple rfl (g_tuple G) bt_tuple (da_cons (dv_var 1) da_nil)))))))
/-! show_hand -/
abbrev st_show_hand : Stmt := top 42
theorem sc_show_hand : FnScope ["hand"] ["hand"] (defScope st_show_hand) := ⟨rfl, rfl, rfl, by decide +kernel, rfl, by decide +kernel, by decide +kernel⟩
def m_show_hand : M Flow1 := (M.retR (M.call 1 f_keys_shown (M.cons (M.map R.d (M.call 1 f_hand_of (M.cons (M.var 0) (M.ret [])))) (M.ret []))))
def f_show_hand : List D → M R := runF 1 m_show_hand
theorem ok_show_hand {P : Program} {w : World} {K : PySem.W.Frag} {mg : Str → Option Value} {base : Heap} (G : Gb fa fn tb K mg) : OkF P w K mg base (cm K) 6 "show_hand" ["hand"] f_show_hand := by
  have F_keys_shown := ok_keys_shown (P := P) (w := w) (base := base) G
  have F_hand_of := ok_hand_of (P := P) (w := w) (base := base) G
  have S := sc_show_hand
  refine okF (mb := m_show_hand) (G.def_ 16 (d := d_show_hand)) (g_show_hand G) S rfl (by decide) (fun _ _ _ _ _ _ us hl => match us, hl with | [_], _ => rfl) fun f cdv A outer s H E hr hg => ?_
  exact (dss_one (ds_ret (de_callF F_keys_shown (Room.mono (j := 1) hr (by decide)) hg (L2N.takes_of rfl rfl rfl rfl) (da_cons (DE.v (de_callF F_hand_of (Room.mono (j := 5) hr (by decide)) hg (L2N.takes_of rfl rfl rfl rfl) (da_cons (dv_var 0) da_nil))) da_nil))))
/-! need_plain -/
abbrev st_need_plain : Stmt := top 44
theorem sc_need_plain : FnScope ["text"] ["text"] (defScope st_need_plain) := ⟨rfl, rfl, rfl, by decide +kernel, rfl, by decide +kernel, by decide +kernel⟩
def m_need_plain : M Flow1 := (M.ifS (M.not (M.tru (M.isa (M.var 0) .tStr))) (fun _ => .bad) (M.ret .next))
def f_need_plain : List D → M R := runF 1 m_need_plain
theorem ok_need_plain {P : Program} {w : World} {K : PySem.W.Frag} {mg : Str → Option Value} {base : Heap} (G : Gb fa fn tb K mg) : OkF P w K mg base (cm K) 1 "need_plain" ["text"] f_need_plain := by
  have S := sc_need_plain
  refine okF (mb := m_need_plain) (G.def_ 18 (d := d_need_plain)) (g_need_plain G) S rfl (by decide) (fun _ _ _ _ _ _ us hl => match us, hl with | [_], _ => rfl) fun f cdv A outer s H E hr hg => ?_
  exact (dss_one (ds_if (dt_not (dt_val (dv_isi .tStr rfl (g_isinstance G) bt_isinstance rfl (g_str G) bt_str (dv_var 0)))) (dss_one ds_bad) dss_nil))
/-! is_number_text -/
abbrev st_is_number_text : Stmt := top 36
theorem sc_is_number_text : FnScope ["word", "sign"] ["word"] (defScope st_is_number_text) := ⟨rfl, rfl, rfl, by decide +kernel, rfl, by decide +kernel, by decide +kernel⟩
def m_is_number_text : M Flow1 := (M.seq (M.ifS (M.or (cmpM (M.var 0) (M.ret (.str "")) D.eq?) (M.not (M.tru (M.b1 (M.cons (M.map R.d (M.lcB (M.strI (M.var 0)) [1] (gNm 1) (M.ret true) (M.map D.bl (cmpM (M.var 1) (M.ret (.str "0123456789")) D.in?)))) (M.ret [])) (ofList allB))))) (M.retR (M.map R.val (M.ret (.bl false)))) (M.ret .next))
  (M.retR (M.map R.val (M.vor (M.map D.bl (cmpM (M.var 0) (M.ret (.str "0")) D.eq?)) (M.map D.bl (cmpM (bind2 (M.var 0) (M.ret (.int 0)) M.ix) (M.ret (.str "0")) D.ne?))))))
def f_is_number_text : List D → M R := runF 2 m_is_number_text
theorem ok_is_number_text {P : Program} {w : World} {K : PySem.W.Frag} {mg : Str → Option Value} {base : Heap} (G : Gb fa fn tb K mg) : OkF P w K mg base (cm K) 1 "is_number_text" ["word"] f_is_number_text := by
  have S := sc_is_number_text
  refine okF (mb := m_is_number_text) (G.def_ 10 (d := d_is_number_text)) (g_is_number_text G) S rfl (by decide) (fun _ _ _ _ _ _ us hl => match us, hl with | [_], _ => rfl) fun f cdv A outer s H E hr hg => ?_
  exact (dss_cons (ds_if (DW.t (dw_or (dt_eq (room_v hr) (dv_var 0) dv_str) (dw_or1 (dt_not (dt_val (dv_all rfl rfl (g_all G) bt_all (da_cons (DE.v (de_lc (own := [("sign", 1)]) rfl S.nd (di_str (dv_var 0)) (blkOk_by (by kernel_rfl)) (fun _ _ _ _ _ => (dg_name 1 S.nd)) (fun _ _ _ _ _ => dts_nil) (fun _ _ _ _ _ => (dv_in (room_u hr) (dv_var 1) (dv_gStr (g_FIGURES G)) (by with_unfolding_all rfl))))) da_nil))))))) (dss_one (ds_ret (DV.toE dv_bl))) dss_nil)
      (dss_one (ds_ret (DV.toE (dv_or (dv_eq (room_v hr) (dv_var 0) dv_str) (dv_one (dv_ne (room_v hr) (dv_ix (dv_var 0) dv_int) dv_str)))))))
/-! is_word_text -/
abbrev st_is_word_text : Stmt := top 37
theorem sc_is_word_text : FnScope ["word", "sign"] ["word"] (defScope st_is_word_text) := ⟨rfl, rfl, rfl, by decide +kernel, rfl, by decide +kernel, by decide +kernel⟩
def m_is_word_text : M Flow1 := (M.retR (M.map R.val (M.vand (M.map D.bl (cmpM (M.var 0) (M.ret (.str "")) D.ne?)) (M.b1 (M.cons (M.map R.d (M.lcB (M.strI (M.var 0)) [1] (gNm 1) (M.ret true) (M.map D.bl (cmpM (M.var 1) (M.ret (.str "abcdefghijklmnopqrstuvwxyz")) D.in?)))) (M.ret [])) (ofList allB)))))
def f_is_word_text : List D → M R := runF 2 m_is_word_text
theorem ok_is_word_text {P : Program} {w : World} {K : PySem.W.Frag} {mg : Str → Option Value} {base : Heap} (G : Gb fa fn tb K mg) : OkF P w K mg base (cm K) 1 "is_word_text" ["word"] f_is_word_text := by
  have S := sc_is_word_text
  refine okF (mb := m_is_word_text) (G.def_ 11 (d := d_is_word_text)) (g_is_word_text G) S rfl (by decide) (fun _ _ _ _ _ _ us hl => match us, hl with | [_], _ => rfl) fun f cdv A outer s H E hr hg => ?_
  exact (dss_one (ds_ret (DV.toE (dv_and (dv_ne (room_v hr) (dv_var 0) dv_str) (dv_one (dv_all rfl rfl (g_all G) bt_all (da_cons (DE.v (de_lc (own := [("sign", 1)]) rfl S.nd (di_str (dv_var 0)) (blkOk_by (by kernel_rfl)) (fun _ _ _ _ _ => (dg_name 1 S.nd)) (fun _ _ _ _ _ => dts_nil) (fun _ _ _ _ _ => (dv_in (room_u hr) (dv_var 1) (dv_gStr (g_SMALL G)) (by with_unfolding_all rfl))))) da_nil)))))))
/-! key_in -/
abbrev st_key_in : Stmt := top 38
theorem sc_key_in : FnScope ["text", "word", "blank", "rest"] ["text"] (defScope st_key_in) := ⟨rfl, rfl, rfl, by decide +kernel, rfl, by decide +kernel, by decide +kernel⟩
def m_key_in : M Flow1 := (M.seq (M.ifS (cmpM (M.var 0) (M.ret (.str "paste")) D.eq?) (M.retR (M.map R.val (M.tup (M.cons (M.ret (.str "paste")) (M.ret []))))) (M.ret .next))
  (M.seq (M.asgG (gTp 3 (gCn (gNm 1) (gCn (gNm 2) (gCn (gNm 3) gNl)))) (M.partition (M.var 0) (M.ret (.str " "))))
  (M.seq (M.ifS (M.and (cmpM (M.var 1) (M.ret (.tup ((["left", "right", "strike", "rub", "copy", "cut"] : List Str).map D.str))) D.in?) (M.tru (M.map R.d (M.call 1 f_is_number_text (M.cons (M.var 3) (M.ret [])))))) (M.retR (M.map R.val (M.tup (M.cons (M.var 1) (M.cons (M.b1 (M.cons (M.var 3) (M.ret [])) intF) (M.ret [])))))) (M.ret .next))
  (M.retR (M.map R.val (M.ite (M.and (cmpM (M.var 1) (M.ret (.str "write")) D.eq?) (M.tru (M.map R.d (M.call 1 f_is_word_text (M.cons (M.var 3) (M.ret [])))))) (M.tup (M.cons (M.ret (.str "write")) (M.cons (M.var 3) (M.ret [])))) (M.ret .non)))))))
def f_key_in : List D → M R := runF 4 m_key_in
theorem ok_key_in {P : Program} {w : World} {K : PySem.W.Frag} {mg : Str → Option Value} {base : Heap} (G : Gb fa fn tb K mg) : OkF P w K mg base (cm K) 2 "key_in" ["text"] f_key_in := by
  have F_is_number_text := ok_is_number_text (P := P) (w := w) (base := base) G
  have F_is_word_text := ok_is_word_text (P := P) (w := w) (base := base) G
  have S := sc_key_in
  refine okF (mb := m_key_in) (G.def_ 12 (d := d_key_in)) (g_key_in G) S rfl (by decide) (fun _ _ _ _ _ _ us hl => match us, hl with | [_], _ => rfl) fun f cdv A outer s H E hr hg => ?_
  exact (dss_cons (ds_if (dt_eq (room_v hr) (dv_var 0) (dv_gStr (g_PASTE_writing G))) (dss_one (ds_ret (DV.toE (dv_tup (da_cons (dv_gStr (g_PASTE_writing G)) da_nil))))) dss_nil)
      (dss_cons (ds_asgP (dg_tup rfl (dgs_cons (dg_name 1 S.nd) (dgs_cons (dg_name 2 S.nd) (dgs_cons (dg_name 3 S.nd) dgs_nil)))) (dv_partition (dv_var 0) dv_str))
      (dss_cons (ds_if (DW.t (dw_and (dt_in (room_u hr) (dv_var 1) (dv_gTup (g_COUNTED G) (gt_COUNTED G)) (by with_unfolding_all rfl)) (dw_and1 (dt_val (DE.v (de_callF F_is_number_text (Room.mono (j := 1) hr (by decide)) hg (L2N.takes_of rfl rfl rfl rfl) (da_cons (dv_var 3) da_nil))))))) (dss_one (ds_ret (DV.toE (dv_tup (da_cons (dv_var 1) (da_cons (dv_intF rfl (g_int G) bt_int (da_cons (dv_var 3) da_nil)) da_nil)))))) dss_nil)
      (dss_one (ds_ret (DV.toE (dv_if (DW.t (dw_and (dt_eq (room_v hr) (dv_var 1) (dv_gStr (g_WRITE_writing G))) (dw_and1 (dt_val (DE.v (de_callF F_is_word_text (Room.mono (j := 1) hr (by decide)) hg (L2N.takes_of rfl rfl rfl rfl) (da_cons (dv_var 3) da_nil))))))) (dv_tup (da_cons (dv_gStr (g_WRITE_writing G)) (da_cons (dv_var 3) da_nil))) dv_non)))))))
/-! keys_in -/
abbrev st_keys_in : Stmt := top 39
theorem sc_keys_in : FnScope ["row", "found", "text"] ["row"] (defScope st_keys_in) := ⟨rfl, rfl, rfl, by decide +kernel, rfl, by decide +kernel, by decide +kernel⟩
def m_keys_in : M Flow1 := (M.seq (M.ifS (cmpM (M.var 0) (M.ret (.str "")) D.eq?) (M.retR (M.lst (M.ret []))) (M.ret .next))
  (M.seq (M.asg 1 (M.lcB (M.seqI (M.map R.d (M.split (M.var 0) (M.ret (.str ", "))))) [2] (gNm 2) (M.ret true) (M.map R.d (M.call 1 f_key_in (M.cons (M.var 2) (M.ret []))))))
  (M.retR (M.map R.val (M.ite (cmpM (M.ret .non) (M.var 1) D.in?) (M.ret .non) (M.var 1))))))
def f_keys_in : List D → M R := runF 3 m_keys_in
theorem ok_keys_in {P : Program} {w : World} {K : PySem.W.Frag} {mg : Str → Option Value} {base : Heap} (G : Gb fa fn tb K mg) : OkF P w K mg base (cm K) 3 "keys_in" ["row"] f_keys_in := by
  have F_key_in := ok_key_in (P := P) (w := w) (base := base) G
  have S := sc_keys_in
  refine okF (mb := m_keys_in) (G.def_ 13 (d := d_keys_in)) (g_keys_in G) S rfl (by decide) (fun _ _ _ _ _ _ us hl => match us, hl with | [_], _ => rfl) fun f cdv A outer s H E hr hg => ?_
  exact (dss_cons (ds_if (dt_eq (room_v hr) (dv_var 0) dv_str) (dss_one (ds_ret (de_lst da_nil))) dss_nil)
      (dss_cons (ds_setLc (i := 1) (own := [("text", 2)]) rfl S.nd rfl rfl rfl (di_seq (DE.v (de_split (dv_var 0) (dv_gStr (g_BETWEEN_KEYS G))))) (blkOk_by (by kernel_rfl)) (fun _ _ _ _ _ => (dg_name 2 S.nd)) (fun _ _ _ _ _ => dts_nil) (fun _ _ _ _ _ => (DE.v (de_callF F_key_in (Room.mono (j := 2) hr (by decide)) hg takesN (da_cons (dv_var 2) da_nil)))))
      (dss_one (ds_ret (DV.toE (dv_if (dt_in (room_u hr) dv_non (dv_var 1) (by with_unfolding_all rfl)) dv_non (dv_var 1)))))))
/-! read_hand -/
abbrev st_read_hand : Stmt := top 45
theorem sc_read_hand : FnScope ["text", "found"] ["text"] (defScope st_read_hand) := ⟨rfl, rfl, rfl, by decide +kernel, rfl, by decide +kernel, by decide +kernel⟩
def m_read_hand : M Flow1 := (M.seq (M.drop (M.map R.d (M.call 1 f_need_plain (M.cons (M.var 0) (M.ret [])))))
  (M.seq (M.asg 1 (M.call 1 f_keys_in (M.cons (M.var 0) (M.ret []))))
  (M.seq (M.ifS (cmpM (M.var 1) (M.ret .non) D.is?) (fun _ => .bad) (M.ret .next))
  (M.retR (M.call 1 f_hand_of (M.cons (M.var 1) (M.ret [])))))))
def f_read_hand : List D → M R := runF 2 m_read_hand
theorem ok_read_hand {P : Program} {w : World} {K : PySem.W.Frag} {mg : Str → Option Value} {base : Heap} (G : Gb fa fn tb K mg) : OkF P w K mg base (cm K) 6 "read_hand" ["text"] f_read_hand := by
  have F_need_plain := ok_need_plain (P := P) (w := w) (base := base) G
  have F_keys_in := ok_keys_in (P := P) (w := w) (base := base) G
  have F_hand_of := ok_hand_of (P := P) (w := w) (base := base) G
  have S := sc_read_hand
  refine okF (mb := m_read_hand) (G.def_ 19 (d := d_read_hand)) (g_read_hand G) S rfl (by decide) (fun _ _ _ _ _ _ us hl => match us, hl with | [_], _ => rfl) fun f cdv A outer s H E hr hg => ?_
  exact (dss_cons (ds_drop (DE.v (de_callF F_need_plain (Room.mono (j := 1) hr (by decide)) hg (L2N.takes_of rfl rfl rfl rfl) (da_cons (dv_var 0) da_nil))))
      (dss_cons (ds_set (i := 1) (de_callF F_keys_in (Room.mono (j := 3) hr (by decide)) hg (L2N.takes_of rfl rfl rfl rfl) (da_cons (dv_var 0) da_nil)) S.nd)
      (dss_cons (ds_if (dt_is (dv_var 1) dv_non) (dss_one ds_bad) dss_nil)
      (dss_one (ds_ret (de_callF F_hand_of (Room.mono (j := 5) hr (by decide)) hg (L2N.takes_of rfl rfl rfl rfl) (da_cons (dv_var 1) da_nil)))))))
/-! _law_grown -/
abbrev st_law_grown : Stmt := top 60
theorem sc_law_grown : FnScope ["handed", "keys", "weighs", "key"] ["handed", "keys"] (defScope st_law_grown) := ⟨rfl, rfl, rfl, by decide +kernel, rfl, by decide +kernel, by decide +kernel⟩
def m_law_grown : M Flow1 := (M.seq (M.asg 2 (M.map R.val (M.ret (.int 7))))
  (M.seq (M.forB (M.seqI (M.var 1)) (gNm 3) (M.asg 2 (bind2 (M.var 2) (M.ite (cmpM (bind2 (M.var 3) (M.ret (.int 0)) M.ix) (M.ret (.str "paste")) D.eq?) (M.ret (.int 1)) (M.ite (cmpM (bind2 (M.var 3) (M.ret (.int 0)) M.ix) (M.ret (.str "write")) D.eq?) (M.bind (M.cons (bind2 (M.var 3) (M.ret (.int 1)) M.ix) (M.ret [])) lenM) (bind2 (M.var 3) (M.ret (.int 1)) M.ix))) fun x y => M.lift (D.add x y))))
  (M.retR (M.map R.val (M.vor (M.map D.bl (cmpM (M.var 2) (M.ret (.int 60)) D.gt?)) (M.map D.bl (cmpM (M.map R.d (M.call 1 f_show_hand (M.cons (M.var 0) (M.ret [])))) (M.map R.d (M.call 1 f_law_hand_text (M.cons (M.map R.d (bind2 (M.var 1) (M.map R.d (M.lst (M.cons (M.tup (M.cons (M.ret (.str "rub")) (M.cons (M.ret (.int 7)) (M.ret [])))) (M.ret [])))) fun x y => M.lift (D.add x y))) (M.ret [])))) D.eq?)))))))
def f_law_grown : List D → M R := runF 4 m_law_grown
theorem ok_law_grown {P : Program} {w : World} {K : PySem.W.Frag} {mg : Str → Option Value} {base : Heap} (G : Gb fa fn tb K mg) : OkF P w K mg base (cm K) 7 "_law_grown" ["handed", "keys"] f_law_grown := by
  have F_show_hand := ok_show_hand (P := P) (w := w) (base := base) G
  have F_law_hand_text := ok_law_hand_text (P := P) (w := w) (base := base) G
  have S := sc_law_grown
  refine okF (mb := m_law_grown) (G.def_ 32 (d := d_law_grown)) (g__law_grown G) S rfl (by decide) (fun _ _ _ _ _ _ us hl => match us, hl with | [_, _], _ => rfl) fun f cdv A outer s H E hr hg => ?_
  exact (dss_cons (ds_set (i := 2) (DV.toE dv_int) S.nd)
      (dss_cons (ds_for (passes_of rfl) rfl (di_seq (dv_var 1)) (dg_name 3 S.nd) (dss_one (ds_set (i := 2) (de_add (dv_var 2) (dv_if (dt_eq (room_v hr) (dv_ix (dv_var 3) dv_int) dv_str) dv_int (dv_if (dt_eq (room_v hr) (dv_ix (dv_var 3) dv_int) dv_str) (dv_len rfl (g_len G) bt_len (da_cons (dv_ix (dv_var 3) dv_int) da_nil)) (dv_ix (dv_var 3) dv_int)))) S.nd)))
      (dss_one (ds_ret (DV.toE (dv_or (dv_gt (dv_var 2) dv_int) (dv_one (dv_eq (room_v hr) (DE.v (de_callF F_show_hand (Room.mono (j := 6) hr (by decide)) hg (L2N.takes_of rfl rfl rfl rfl) (da_cons (dv_var 0) da_nil))) (DE.v (de_callF F_law_hand_text (Room.mono (j := 2) hr (by decide)) hg (L2N.takes_of rfl rfl rfl rfl) (da_cons (DE.v (de_add (dv_var 1) (DE.v (de_lst (da_cons (dv_tup (da_cons dv_str (da_cons dv_int da_nil))) da_nil))))) da_nil)))))))))))
/-! _law_hand_right -/
abbrev st_law_hand_right : Stmt := top 59
theorem sc_law_hand_right : FnScope ["bag", "keys", "due", "handed", "kept", "again", "told"] ["bag", "keys"] (defScope st_law_hand_right) := ⟨rfl, rfl, rfl, by decide +kernel, rfl, by decide +kernel, by decide +kernel⟩
def m_law_hand_right : M Flow1 := (M.seq (M.asg 2 (M.call 1 f_law_hand_text (M.cons (M.var 1) (M.ret []))))
  (M.seq (M.asg 3 (M.call 2 f_law_dressed_al (M.cons (M.var 0) (M.cons (M.var 1) (M.ret [])))))
  (M.seq (M.asg 4 (M.map R.val (M.bind (M.cons (M.var 3) (M.ret [])) reprS3)))
  (M.seq (M.forB (M.b1 (M.cons (M.ret (.int 2)) (M.ret [])) rangeD1) (gNm 5) (M.seq (M.ifS (M.or (cmpM (M.map R.d (M.call 1 f_show_hand (M.cons (M.var 3) (M.ret [])))) (M.var 2) D.ne?) (cmpM (M.bind (M.cons (M.var 3) (M.ret [])) reprS3) (M.var 4) D.ne?)) (M.retR (M.map R.val (M.ret (.bl false)))) (M.ret .next))
  (M.seq (M.asg 6 (M.map R.val (M.alloc (M.call 1 f_read_hand (M.cons (M.var 2) (M.ret []))))))
  (M.seq (M.ifS (cmpM (M.bind (M.cons (M.var 6) (M.ret [])) reprS3) (M.bind (M.cons (M.var 1) (M.ret [])) reprS3) D.ne?) (M.retR (M.map R.val (M.ret (.bl false)))) (M.ret .next))
  (M.drop (M.modVar 6 (M.cons (M.tup (M.cons (M.ret (.str "paste")) (M.ret []))) (M.ret [])) appF))))))
  (M.seq (M.ifS (M.tru (M.isaS (M.var 3) .tList)) (M.seq (M.drop (M.modVar 3 (M.cons (M.map R.d (M.lst (M.cons (M.ret (.str "rub")) (M.cons (M.ret (.int 7)) (M.ret []))))) (M.ret [])) appF))
  (M.retR (M.call 2 f_law_grown (M.cons (M.var 3) (M.cons (M.var 1) (M.ret [])))))) (M.ret .next))
  (M.retR (M.map R.val (M.ret (.bl true)))))))))
def f_law_hand_right : List D → M R := runF 7 m_law_hand_right
theorem ok_law_hand_right {P : Program} {w : World} {K : PySem.W.Frag} {mg : Str → Option Value} {base : Heap} (G : Gb fa fn tb K mg) : OkF P w K mg base (cm K) 8 "_law_hand_right" ["bag", "keys"] f_law_hand_right := by
  have F_law_hand_text := ok_law_hand_text (P := P) (w := w) (base := base) G
  have F_law_dressed_al := ok_law_dressed_al (P := P) (w := w) (base := base) G
  have F_show_hand := ok_show_hand (P := P) (w := w) (base := base) G
  have F_read_hand := ok_read_hand (P := P) (w := w) (base := base) G
  have F_law_grown := ok_law_grown (P := P) (w := w) (base := base) G
  have S := sc_law_hand_right
  refine okF (mb := m_law_hand_right) (G.def_ 31 (d := d_law_hand_right)) (g__law_hand_right G) S rfl (by decide) (fun _ _ _ _ _ _ us hl => match us, hl with | [_, _], _ => rfl) fun f cdv A outer s H E hr hg => ?_
  exact (dss_cons (ds_set (i := 2) (de_callF F_law_hand_text (Room.mono (j := 2) hr (by decide)) hg (L2N.takes_of rfl rfl rfl rfl) (da_cons (dv_var 1) da_nil)) S.nd)
      (dss_cons (ds_set (i := 3) (de_callF F_law_dressed_al (Room.mono (j := 3) hr (by decide)) hg (L2N.takes_of rfl rfl rfl rfl) (da_cons (dv_var 0) (da_cons (dv_var 1) da_nil))) S.nd)
      (dss_cons (ds_set (i := 4) (DV.toE (dv_reprS3 hg (room_v hr) G.sys rfl (g_repr G) bt_repr (da_cons (dv_var 3) da_nil))) S.nd)
      (dss_cons (ds_for (passes_of rfl) rfl (di_range1 rfl (g_range G) (da_cons dv_int da_nil)) (dg_name 5 S.nd) (dss_cons (ds_if (DW.t (dw_or (dt_ne (room_v hr) (DE.v (de_callF F_show_hand (Room.mono (j := 6) hr (by decide)) hg (L2N.takes_of rfl rfl rfl rfl) (da_cons (dv_var 3) da_nil))) (dv_var 2)) (dw_or1 (dt_ne (room_v hr) (dv_reprS3 hg (room_v hr) G.sys rfl (g_repr G) bt_repr (da_cons (dv_var 3) da_nil)) (dv_var 4))))) (dss_one (ds_ret (DV.toE dv_bl))) dss_nil)
      (dss_cons (ds_set (i := 6) (DV.toE (DE.alloc (de_callF F_read_hand (Room.mono (j := 6) hr (by decide)) hg (L2N.takes_of rfl rfl rfl rfl) (da_cons (dv_var 2) da_nil)))) S.nd)
      (dss_cons (ds_if (dt_ne (room_v hr) (dv_reprS3 hg (room_v hr) G.sys rfl (g_repr G) bt_repr (da_cons (dv_var 6) da_nil)) (dv_reprS3 hg (room_v hr) G.sys rfl (g_repr G) bt_repr (da_cons (dv_var 1) da_nil))) (dss_one (ds_ret (DV.toE dv_bl))) dss_nil)
      (dss_one (ds_drop (dv_append (i := 6) (da_cons (dv_tup (da_cons dv_str da_nil)) da_nil))))))))
      (dss_cons (ds_if (dt_val (dv_isiS .tList rfl (g_isinstance G) bt_isinstance rfl (g_list G) bt_list (dv_var 3))) (dss_cons (ds_drop (dv_append (i := 3) (da_cons (DE.v (de_lst (da_cons dv_str (da_cons dv_int da_nil)))) da_nil)))
      (dss_one (ds_ret (de_callF F_law_grown (Room.mono (j := 7) hr (by decide)) hg (L2N.takes_of rfl rfl rfl rfl) (da_cons (dv_var 3) (da_cons (dv_var 1) da_nil)))))) dss_nil)
      (dss_one (ds_ret (DV.toE dv_bl))))))))
/-! _law_play_text -/
abbrev st_law_play_text : Stmt := top 58
theorem sc_law_play_text : FnScope ["play", "keys", "times"] ["play"] (defScope st_law_play_text) := ⟨rfl, rfl, rfl, by decide +kernel, rfl, by decide +kernel, by decide +kernel⟩
def m_law_play_text : M Flow1 := (M.retR (M.map R.val (M.join (M.ret (.str "\n")) (M.map R.d (M.lcB (M.seqI (M.var 0)) [1, 2] (gTp 2 (gCn (gNm 1) (gCn (gNm 2) gNl))) (M.ret true) (M.map R.d (bind2 (M.map R.d (bind2 (M.b1 (M.cons (M.var 2) (M.ret [])) strF) (M.ret (.str ": ")) fun x y => M.lift (D.add x y))) (M.map R.d (M.call 1 f_law_hand_text (M.cons (M.var 1) (M.ret [])))) fun x y => M.lift (D.add x y))))))))
def f_law_play_text : List D → M R := runF 3 m_law_play_text
theorem ok_law_play_text {P : Program} {w : World} {K : PySem.W.Frag} {mg : Str → Option Value} {base : Heap} (G : Gb fa fn tb K mg) : OkF P w K mg base (cm K) 3 "_law_play_text" ["play"] f_law_play_text := by
  have F_law_hand_text := ok_law_hand_text (P := P) (w := w) (base := base) G
  have S := sc_law_play_text
  refine okF (mb := m_law_play_text) (G.def_ 30 (d := d_law_play_text)) (g__law_play_text G) S rfl (by decide) (fun _ _ _ _ _ _ us hl => match us, hl with | [_], _ => rfl) fun f cdv A outer s H E hr hg => ?_
  exact (dss_one (ds_ret (DV.toE (dv_join dv_str (DE.v (de_lc (own := [("keys", 1), ("times", 2)]) rfl S.nd (di_seq (dv_var 0)) (blkOk_by (by kernel_rfl)) (fun _ _ _ _ _ => (dg_tup rfl (dgs_cons (dg_name 1 S.nd) (dgs_cons (dg_name 2 S.nd) dgs_nil)))) (fun _ _ _ _ _ => dts_nil) (fun _ _ _ _ _ => (DE.v (de_add (DE.v (de_add (dv_strF rfl (g_str G) bt_str (da_cons (dv_var 2) da_nil)) dv_str)) (DE.v (de_callF F_law_hand_text (Room.mono (j := 2) hr (by decide)) hg takesN (da_cons (dv_var 1) da_nil))))))))))))
def m_law_dressed : M Flow1 := (M.seq (M.asg 2 (M.lcB (M.seqI (M.var 1)) [3] (gNm 3) (M.ret true) (M.ite (cmpM (M.map R.d (M.call 2 f_law_draw (M.cons (M.var 0) (M.cons (M.ret (.int 2)) (M.ret []))))) (M.ret (.int 0)) D.eq?) (M.map R.d (M.bind (M.cons (M.var 3) (M.ret [])) listM)) (M.var 3))))
  (M.retR (M.map R.val (bind2 (M.map R.d (M.lst (M.cons (M.map R.d (M.bind (M.cons (M.var 1) (M.ret [])) listM)) (M.cons (M.bind (M.cons (M.var 1) (M.ret [])) tupleM) (M.cons (M.var 2) (M.cons (M.bind (M.cons (M.var 2) (M.ret [])) tupleM) (M.ret []))))))) (M.map R.d (M.call 2 f_law_draw (M.cons (M.var 0) (M.cons (M.ret (.int 4)) (M.ret []))))) M.ix))))
def f_law_dressed : List D → M R := runF 4 m_law_dressed
theorem ok_law_dressed {P : Program} {w : World} {K : PySem.W.Frag} {mg : Str → Option Value} {base : Heap} (G : Gb fa fn tb K mg) : OkF P w K mg base (cm K) 3 "_law_dressed" ["bag", "keys"] f_law_dressed := by
  have F_law_draw := ok_law_draw (P := P) (w := w) (base := base) G
  have S := sc_law_dressed
  refine okF (mb := m_law_dressed) (G.def_ 26 (d := d_law_dressed)) (g__law_dressed G) S rfl (by decide) (fun _ _ _ _ _ _ us hl => match us, hl with | [_, _], _ => rfl) fun f cdv A outer s H E hr hg => ?_
  exact (dss_cons (ds_setLc (i := 2) (own := [("key", 3)]) rfl S.nd rfl rfl rfl (di_seq (dv_var 1)) (blkOk_by (by kernel_rfl)) (fun _ _ _ _ _ => (dg_name 3 S.nd)) (fun _ _ _ _ _ => dts_nil) (fun _ _ _ _ _ => (dv_if (dt_eq (room_v hr) (DE.v (de_callF F_law_draw (Room.mono (j := 2) hr (by decide)) hg takesN (da_cons (dv_var 0) (da_cons dv_int da_nil)))) dv_int) (DE.v (de_list rfl (g_list G) bt_list (da_cons (dv_var 3) da_nil))) (dv_var 3))))
      (dss_one (ds_ret (DV.toE (dv_ix (DE.v (de_lst (da_cons (DE.v (de_list rfl (g_list G) bt_list (da_cons (dv_var 1) da_nil))) (da_cons (dv_tuple rfl (g_tuple G) bt_tuple (da_cons (dv_var 1) da_nil)) (da_cons (dv_var 2) (da_cons (dv_tuple rfl (g_tuple G) bt_tuple (da_cons (dv_var 2) da_nil)) da_nil)))))) (DE.v (de_callF F_law_draw (Room.mono (j := 2) hr (by decide)) hg (L2N.takes_of rfl rfl rfl rfl) (da_cons (dv_var 0) (da_cons dv_int da_nil)))))))))
/-! is_from -/
abbrev st_is_from : Stmt := top 22
theorem sc_is_from : FnScope ["thing", "most"] ["thing", "most"] (defScope st_is_from) := ⟨rfl, rfl, rfl, by decide +kernel, rfl, by decide +kernel, by decide +kernel⟩
def m_is_from : M Flow1 := (M.retR (M.map R.val (M.vand (M.map R.d (M.call 1 f_is_whole (M.cons (M.var 0) (M.ret [])))) (M.vand (M.map D.bl (cmpM (M.var 0) (M.ret (.int 0)) D.ge?)) (M.vor (M.map D.bl (cmpM (M.var 1) (M.ret .non) D.is?)) (M.map D.bl (cmpM (M.var 0) (M.var 1) D.le?)))))))
def f_is_from : List D → M R := runF 2 m_is_from
theorem ok_is_from {P : Program} {w : World} {K : PySem.W.Frag} {mg : Str → Option Value} {base : Heap} (G : Gb fa fn tb K mg) : OkF P w K mg base (cm K) 2 "is_from" ["thing", "most"] f_is_from := by
  have F_is_whole := ok_is_whole (P := P) (w := w) (base := base) G
  have S := sc_is_from
  refine okF (mb := m_is_from) (G.def_ 7 (d := d_is_from)) (g_is_from G) S rfl (by decide) (fun _ _ _ _ _ _ us hl => match us, hl with | [_, _], _ => rfl) fun f cdv A outer s H E hr hg => ?_
  exact (dss_one (ds_ret (DV.toE (dv_and (DE.v (de_callF F_is_whole (Room.mono (j := 1) hr (by decide)) hg (L2N.takes_of rfl rfl rfl rfl) (da_cons (dv_var 0) da_nil))) (dv_and (dv_ge (dv_var 0) dv_int) (dv_one (dv_or (dv_is (dv_var 1) dv_non) (dv_one (dv_le (dv_var 0) (dv_var 1))))))))))
/-! parts_of -/
abbrev st_parts_of : Stmt := top 26
theorem sc_parts_of : FnScope ["thing", "found", "part"] ["thing"] (defScope st_parts_of) := ⟨rfl, rfl, rfl, by decide +kernel, rfl, by decide +kernel, by decide +kernel⟩
def m_parts_of : M Flow1 := (M.seq (M.ifS (M.or (M.not (M.tru (M.isa2 (M.var 0) .tList .tTuple))) (cmpM (M.bind (M.cons (M.var 0) (M.ret [])) lenM) (M.ret (.int 12)) D.gt?)) (M.retR (M.map R.val (M.ret .non))) (M.ret .next))
  (M.seq (M.asg 1 (M.lst (M.ret [])))
  (M.seq (M.forB (M.seqI (M.var 0)) (gNm 2) (M.seq (M.ifS (M.or (M.not (M.tru (M.isa2 (M.var 2) .tList .tTuple))) (M.or (cmpM (M.bind (M.cons (M.var 2) (M.ret [])) lenM) (M.ret (.int 2)) D.ne?) (M.not (M.tru (M.map R.d (M.call 2 f_is_from (M.cons (bind2 (M.var 2) (M.ret (.int 1)) M.ix) (M.cons (M.ret (.int 1000000000000000000000000000000)) (M.ret []))))))))) (M.retR (M.map R.val (M.ret .non))) (M.ret .next))
  (M.tryX xt_KeysError_f (M.drop (M.modVar 1 (M.cons (M.tup (M.cons (M.map R.d (M.call 1 f_hand_of (M.cons (bind2 (M.var 2) (M.ret (.int 0)) M.ix) (M.ret [])))) (M.cons (bind2 (M.var 2) (M.ret (.int 1)) M.ix) (M.ret [])))) (M.ret [])) appF)) (M.retR (M.map R.val (M.ret .non))))))
  (M.retVar 1))))
def f_parts_of : List D → M R := runF 3 m_parts_of
theorem ok_parts_of {P : Program} {w : World} {K : PySem.W.Frag} {mg : Str → Option Value} {base : Heap} (G : Gb fa fn tb K mg) : OkF P w K mg base (cm K) 6 "parts_of" ["thing"] f_parts_of := by
  have F_is_from := ok_is_from (P := P) (w := w) (base := base) G
  have F_hand_of := ok_hand_of (P := P) (w := w) (base := base) G
  have S := sc_parts_of
  refine okF (mb := m_parts_of) (G.def_ 8 (d := d_parts_of)) (g_parts_of G) S rfl (by decide) (fun _ _ _ _ _ _ us hl => match us, hl with | [_], _ => rfl) fun f cdv A outer s H E hr hg => ?_
  exact (dss_cons (ds_if (DW.t (dw_or (dt_not (dt_val (dv_isi2 .tList .tTuple rfl (g_isinstance G) bt_isinstance rfl (g_list G) bt_list rfl (g_tuple G) bt_tuple (dv_var 0)))) (dw_or1 (dt_gt (dv_len rfl (g_len G) bt_len (da_cons (dv_var 0) da_nil)) (dv_gInt (g_MOST_PARTS G)))))) (dss_one (ds_ret (DV.toE dv_non))) dss_nil)
      (dss_cons (ds_set (i := 1) (de_lst da_nil) S.nd)
      (dss_cons (ds_for (passes_of rfl) rfl (di_seq (dv_var 0)) (dg_name 2 S.nd) (dss_cons (ds_if (DW.t (dw_or (dt_not (dt_val (dv_isi2 .tList .tTuple rfl (g_isinstance G) bt_isinstance rfl (g_list G) bt_list rfl (g_tuple G) bt_tuple (dv_var 2)))) (dw_or (dt_ne (room_v hr) (dv_len rfl (g_len G) bt_len (da_cons (dv_var 2) da_nil)) dv_int) (dw_or1 (dt_not (dt_val (DE.v (de_callF F_is_from (Room.mono (j := 2) hr (by decide)) hg (L2N.takes_of rfl rfl rfl rfl) (da_cons (dv_ix (dv_var 2) dv_int) (da_cons (dv_gInt (g_MOST_TIMES G)) da_nil)))))))))) (dss_one (ds_ret (DV.toE dv_non))) dss_nil)
      (dss_one (ds_try rfl rfl ⟨rfl, by decide, .inl (g_KeysError G)⟩ (L2N.takes_of rfl rfl rfl rfl) (xt_KeysError G) (fun _ _ _ tk hp => (dss_one (ds_drop (dv_append (i := 1) (da_cons (dv_tup (da_cons (DE.v (de_callF F_hand_of (Room.mono (j := 5) hr (by decide)) hg tk (da_cons (dv_ix (dv_var 2) dv_int) da_nil))) (da_cons (dv_ix (dv_var 2) dv_int) da_nil))) da_nil))))) (fun _ _ _ _ _ _ _ => (dss_one (ds_ret (DV.toE dv_non))))))))
      (dss_one (ds_retVar (i := 1))))))
/-! play_of -/
abbrev st_play_of : Stmt := top 27
theorem sc_play_of : FnScope ["thing", "found"] ["thing"] (defScope st_play_of) := ⟨rfl, rfl, rfl, by decide +kernel, rfl, by decide +kernel, by decide +kernel⟩
def m_play_of : M Flow1 := (M.seq (M.asg 1 (M.call 1 f_parts_of (M.cons (M.var 0) (M.ret []))))
  (M.seq (M.ifS (cmpM (M.var 1) (M.ret .non) D.is?) (M.raise 3) (M.ret .next))
  (M.retVar 1)))
def f_play_of : List D → M R := runF 2 m_play_of
theorem ok_play_of {P : Program} {w : World} {K : PySem.W.Frag} {mg : Str → Option Value} {base : Heap} (G : Gb fa fn tb K mg) : OkF P w K mg base (cm K) 7 "play_of" ["thing"] f_play_of := by
  have F_parts_of := ok_parts_of (P := P) (w := w) (base := base) G
  have S := sc_play_of
  refine okF (mb := m_play_of) (G.def_ 9 (d := d_play_of)) (g_play_of G) S rfl (by decide) (fun _ _ _ _ _ _ us hl => match us, hl with | [_], _ => rfl) fun f cdv A outer s H E hr hg => ?_
  exact (dss_cons (ds_set (i := 1) (de_callF F_parts_of (Room.mono (j := 6) hr (by decide)) hg (L2N.takes_of rfl rfl rfl rfl) (da_cons (dv_var 0) da_nil)) S.nd)
      (dss_cons (ds_if (dt_is (dv_var 1) dv_non) (dss_one (ds_raiseG (c := 3) rfl (L2N.takes_of rfl rfl rfl rfl) (g_NoPlay G) (ge_NoPlay G))) dss_nil)
      (dss_one (ds_retVar (i := 1)))))
/-! show_play -/
abbrev st_show_play : Stmt := top 43
theorem sc_show_play : FnScope ["play", "keys", "times"] ["play"] (defScope st_show_play) := ⟨rfl, rfl, rfl, by decide +kernel, rfl, by decide +kernel, by decide +kernel⟩
def m_show_play : M Flow1 := (M.retR (M.map R.val (M.join (M.ret (.str "\n")) (M.map R.d (M.lcB (M.seqI (M.map R.d (M.call 1 f_play_of (M.cons (M.var 0) (M.ret []))))) [1, 2] (gTp 2 (gCn (gNm 1) (gCn (gNm 2) gNl))) (M.ret true) (M.map R.d (bind2 (M.map R.d (bind2 (M.b1 (M.cons (M.var 2) (M.ret [])) strF) (M.ret (.str ": ")) fun x y => M.lift (D.add x y))) (M.map R.d (M.call 1 f_keys_shown (M.cons (M.var 1) (M.ret [])))) fun x y => M.lift (D.add x y))))))))
def f_show_play : List D → M R := runF 3 m_show_play
theorem ok_show_play {P : Program} {w : World} {K : PySem.W.Frag} {mg : Str → Option Value} {base : Heap} (G : Gb fa fn tb K mg) : OkF P w K mg base (cm K) 8 "show_play" ["play"] f_show_play := by
  have F_play_of := ok_play_of (P := P) (w := w) (base := base) G
  have F_keys_shown := ok_keys_shown (P := P) (w := w) (base := base) G
  have S := sc_show_play
  refine okF (mb := m_show_play) (G.def_ 17 (d := d_show_play)) (g_show_play G) S rfl (by decide) (fun _ _ _ _ _ _ us hl => match us, hl with | [_], _ => rfl) fun f cdv A outer s H E hr hg => ?_
  exact (dss_one (ds_ret (DV.toE (dv_join dv_str (DE.v (de_lc (own := [("keys", 1), ("times", 2)]) rfl S.nd (di_seq (DE.v (de_callF F_play_of (Room.mono (j := 7) hr (by decide)) hg (L2N.takes_of rfl rfl rfl rfl) (da_cons (dv_var 0) da_nil)))) (blkOk_by (by kernel_rfl)) (fun _ _ _ _ _ => (dg_tup rfl (dgs_cons (dg_name 1 S.nd) (dgs_cons (dg_name 2 S.nd) dgs_nil)))) (fun _ _ _ _ _ => dts_nil) (fun _ _ _ _ _ => (DE.v (de_add (DE.v (de_add (dv_strF rfl (g_str G) bt_str (da_cons (dv_var 2) da_nil)) (dv_gStr (g_BEHIND_TIMES G)))) (DE.v (de_callF F_keys_shown (Room.mono (j := 1) hr (by decide)) hg takesN (da_cons (dv_var 1) da_nil))))))))))))
/-! part_in -/
abbrev st_part_in : Stmt := top 40
theorem sc_part_in : FnScope ["row", "times", "sign", "rest", "keys"] ["row"] (defScope st_part_in) := ⟨rfl, rfl, rfl, by decide +kernel, rfl, by decide +kernel, by decide +kernel⟩
def m_part_in : M Flow1 := (M.seq (M.asgG (gTp 3 (gCn (gNm 1) (gCn (gNm 2) (gCn (gNm 3) gNl)))) (M.partition (M.var 0) (M.ret (.str ": "))))
  (M.seq (M.asg 4 (M.call 1 f_keys_in (M.cons (M.var 3) (M.ret []))))
  (M.seq (M.ifS (M.or (cmpM (M.var 2) (M.ret (.str "")) D.eq?) (M.or (M.not (M.tru (M.map R.d (M.call 1 f_is_number_text (M.cons (M.var 1) (M.ret [])))))) (cmpM (M.var 4) (M.ret .non) D.is?))) (M.retR (M.map R.val (M.ret .non))) (M.ret .next))
  (M.retR (M.map R.val (M.tup (M.cons (M.var 4) (M.cons (M.b1 (M.cons (M.var 1) (M.ret [])) intF) (M.ret [])))))))))
def f_part_in : List D → M R := runF 5 m_part_in
theorem ok_part_in {P : Program} {w : World} {K : PySem.W.Frag} {mg : Str → Option Value} {base : Heap} (G : Gb fa fn tb K mg) : OkF P w K mg base (cm K) 4 "part_in" ["row"] f_part_in := by
  have F_keys_in := ok_keys_in (P := P) (w := w) (base := base) G
  have F_is_number_text := ok_is_number_text (P := P) (w := w) (base := base) G
  have S := sc_part_in
  refine okF (mb := m_part_in) (G.def_ 14 (d := d_part_in)) (g_part_in G) S rfl (by decide) (fun _ _ _ _ _ _ us hl => match us, hl with | [_], _ => rfl) fun f cdv A outer s H E hr hg => ?_
  exact (dss_cons (ds_asgP (dg_tup rfl (dgs_cons (dg_name 1 S.nd) (dgs_cons (dg_name 2 S.nd) (dgs_cons (dg_name 3 S.nd) dgs_nil)))) (dv_partition (dv_var 0) (dv_gStr (g_BEHIND_TIMES G))))
      (dss_cons (ds_set (i := 4) (de_callF F_keys_in (Room.mono (j := 3) hr (by decide)) hg (L2N.takes_of rfl rfl rfl rfl) (da_cons (dv_var 3) da_nil)) S.nd)
      (dss_cons (ds_if (DW.t (dw_or (dt_eq (room_v hr) (dv_var 2) dv_str) (dw_or (dt_not (dt_val (DE.v (de_callF F_is_number_text (Room.mono (j := 1) hr (by decide)) hg (L2N.takes_of rfl rfl rfl rfl) (da_cons (dv_var 1) da_nil))))) (dw_or1 (dt_is (dv_var 4) dv_non))))) (dss_one (ds_ret (DV.toE dv_non))) dss_nil)
      (dss_one (ds_ret (DV.toE (dv_tup (da_cons (dv_var 4) (da_cons (dv_intF rfl (g_int G) bt_int (da_cons (dv_var 1) da_nil)) da_nil)))))))))
def m_parts_of_al : M Flow1 := (M.seq (M.ifS (M.or (M.not (M.tru (M.isa2 (M.var 0) .tList .tTuple))) (cmpM (M.bind (M.cons (M.var 0) (M.ret [])) lenM) (M.ret (.int 12)) D.gt?)) (M.retR (M.map R.val (M.ret .non))) (M.ret .next))
  (M.seq (M.asg 1 (M.lst (M.ret [])))
  (M.seq (M.forB (M.seqI (M.var 0)) (gNm 2) (M.seq (M.ifS (M.or (M.not (M.tru (M.isa2 (M.var 2) .tList .tTuple))) (M.or (cmpM (M.bind (M.cons (M.var 2) (M.ret [])) lenM) (M.ret (.int 2)) D.ne?) (M.not (M.tru (M.map R.d (M.call 2 f_is_from (M.cons (bind2 (M.var 2) (M.ret (.int 1)) M.ix) (M.cons (M.ret (.int 1000000000000000000000000000000)) (M.ret []))))))))) (M.retR (M.map R.val (M.ret .non))) (M.ret .next))
  (M.tryX xt_KeysError_f (M.drop (M.modVar 1 (M.cons (M.tup (M.cons (M.alloc (M.call 1 f_hand_of (M.cons (bind2 (M.var 2) (M.ret (.int 0)) M.ix) (M.ret [])))) (M.cons (bind2 (M.var 2) (M.ret (.int 1)) M.ix) (M.ret [])))) (M.ret [])) appF)) (M.retR (M.map R.val (M.ret .non))))))
  (M.retVar 1))))
def f_parts_of_al : List D → M R := runF 3 m_parts_of_al
theorem ok_parts_of_al {P : Program} {w : World} {K : PySem.W.Frag} {mg : Str → Option Value} {base : Heap} (G : Gb fa fn tb K mg) : OkF P w K mg base (cm K) 6 "parts_of" ["thing"] f_parts_of_al := by
  have F_is_from := ok_is_from (P := P) (w := w) (base := base) G
  have F_hand_of := ok_hand_of (P := P) (w := w) (base := base) G
  have S := sc_parts_of
  refine okF (mb := m_parts_of_al) (G.def_ 8 (d := d_parts_of)) (g_parts_of G) S rfl (by decide) (fun _ _ _ _ _ _ us hl => match us, hl with | [_], _ => rfl) fun f cdv A outer s H E hr hg => ?_
  exact (dss_cons (ds_if (DW.t (dw_or (dt_not (dt_val (dv_isi2 .tList .tTuple rfl (g_isinstance G) bt_isinstance rfl (g_list G) bt_list rfl (g_tuple G) bt_tuple (dv_var 0)))) (dw_or1 (dt_gt (dv_len rfl (g_len G) bt_len (da_cons (dv_var 0) da_nil)) (dv_gInt (g_MOST_PARTS G)))))) (dss_one (ds_ret (DV.toE dv_non))) dss_nil)
      (dss_cons (ds_set (i := 1) (de_lst da_nil) S.nd)
      (dss_cons (ds_for (passes_of rfl) rfl (di_seq (dv_var 0)) (dg_name 2 S.nd) (dss_cons (ds_if (DW.t (dw_or (dt_not (dt_val (dv_isi2 .tList .tTuple rfl (g_isinstance G) bt_isinstance rfl (g_list G) bt_list rfl (g_tuple G) bt_tuple (dv_var 2)))) (dw_or (dt_ne (room_v hr) (dv_len rfl (g_len G) bt_len (da_cons (dv_var 2) da_nil)) dv_int) (dw_or1 (dt_not (dt_val (DE.v (de_callF F_is_from (Room.mono (j := 2) hr (by decide)) hg (L2N.takes_of rfl rfl rfl rfl) (da_cons (dv_ix (dv_var 2) dv_int) (da_cons (dv_gInt (g_MOST_TIMES G)) da_nil)))))))))) (dss_one (ds_ret (DV.toE dv_non))) dss_nil)
      (dss_one (ds_try rfl rfl ⟨rfl, by decide, .inl (g_KeysError G)⟩ (L2N.takes_of rfl rfl rfl rfl) (xt_KeysError G) (fun _ _ _ tk hp => (dss_one (ds_drop (dv_append (i := 1) (da_cons (dv_tup (da_cons (DE.alloc (de_callF F_hand_of (Room.mono (j := 5) hr (by decide)) hg tk (da_cons (dv_ix (dv_var 2) dv_int) da_nil))) (da_cons (dv_ix (dv_var 2) dv_int) da_nil))) da_nil))))) (fun _ _ _ _ _ _ _ => (dss_one (ds_ret (DV.toE dv_non))))))))
      (dss_one (ds_retVar (i := 1))))))
def m_play_of_al : M Flow1 := (M.seq (M.asg 1 (M.call 1 f_parts_of_al (M.cons (M.var 0) (M.ret []))))
  (M.seq (M.ifS (M.isV 1) (M.raise 3) (M.ret .next))
  (M.retVar 1)))
def f_play_of_al : List D → M R := runF 2 m_play_of_al
theorem ok_play_of_al {P : Program} {w : World} {K : PySem.W.Frag} {mg : Str → Option Value} {base : Heap} (G : Gb fa fn tb K mg) : OkF P w K mg base (cm K) 7 "play_of" ["thing"] f_play_of_al := by
  have F_parts_of_al := ok_parts_of_al (P := P) (w := w) (base := base) G
  have S := sc_play_of
  refine okF (mb := m_play_of_al) (G.def_ 9 (d := d_play_of)) (g_play_of G) S rfl (by decide) (fun _ _ _ _ _ _ us hl => match us, hl with | [_], _ => rfl) fun f cdv A outer s H E hr hg => ?_
  exact (dss_cons (ds_set (i := 1) (de_callF F_parts_of_al (Room.mono (j := 6) hr (by decide)) hg (L2N.takes_of rfl rfl rfl rfl) (da_cons (dv_var 0) da_nil)) S.nd)
      (dss_cons (ds_if (dt_isV (i := 1)) (dss_one (ds_raiseG (c := 3) rfl (L2N.takes_of rfl rfl rfl rfl) (g_NoPlay G) (ge_NoPlay G))) dss_nil)
      (dss_one (ds_retVar (i := 1)))))
/-! read_play -/
abbrev st_read_play : Stmt := top 46
theorem sc_read_play : FnScope ["text", "found", "number", "row", "part"] ["text"] (defScope st_read_play) := ⟨rfl, rfl, rfl, by decide +kernel, rfl, by decide +kernel, by decide +kernel⟩
def m_read_play_al : M Flow1 := (M.seq (M.drop (M.map R.d (M.call 1 f_need_plain (M.cons (M.var 0) (M.ret [])))))
  (M.seq (M.asg 1 (M.lst (M.ret [])))
  (M.seq (M.forB (M.b1 (M.cons (M.ite (cmpM (M.var 0) (M.ret (.str "")) D.ne?) (M.map R.d (M.split (M.var 0) (M.ret (.str "\n")))) (M.map R.d (M.lst (M.ret [])))) (M.ret [])) enumF) (gTp 2 (gCn (gNm 2) (gCn (gNm 3) gNl))) (M.seq (M.asg 4 (M.call 1 f_part_in (M.cons (M.var 3) (M.ret []))))
  (M.seq (M.ifS (cmpM (M.var 4) (M.ret .non) D.is?) (fun _ => .bad) (M.ret .next))
  (M.drop (M.modVar 1 (M.cons (M.var 4) (M.ret [])) appF)))))
  (M.retR (M.call 1 f_play_of_al (M.cons (M.var 1) (M.ret [])))))))
def f_read_play_al : List D → M R := runF 5 m_read_play_al
theorem ok_read_play_al {P : Program} {w : World} {K : PySem.W.Frag} {mg : Str → Option Value} {base : Heap} (G : Gb fa fn tb K mg) : OkF P w K mg base (cm K) 8 "read_play" ["text"] f_read_play_al := by
  have F_need_plain := ok_need_plain (P := P) (w := w) (base := base) G
  have F_part_in := ok_part_in (P := P) (w := w) (base := base) G
  have F_play_of_al := ok_play_of_al (P := P) (w := w) (base := base) G
  have S := sc_read_play
  refine okF (mb := m_read_play_al) (G.def_ 20 (d := d_read_play)) (g_read_play G) S rfl (by decide) (fun _ _ _ _ _ _ us hl => match us, hl with | [_], _ => rfl) fun f cdv A outer s H E hr hg => ?_
  exact (dss_cons (ds_drop (DE.v (de_callF F_need_plain (Room.mono (j := 1) hr (by decide)) hg (L2N.takes_of rfl rfl rfl rfl) (da_cons (dv_var 0) da_nil))))
      (dss_cons (ds_set (i := 1) (de_lst da_nil) S.nd)
      (dss_cons (ds_for (passes_of rfl) rfl (di_enum rfl (g_enumerate G) (da_cons (dv_if (dt_ne (room_v hr) (dv_var 0) dv_str) (DE.v (de_split (dv_var 0) dv_str)) (DE.v (de_lst da_nil))) da_nil)) (dg_tup rfl (dgs_cons (dg_name 2 S.nd) (dgs_cons (dg_name 3 S.nd) dgs_nil))) (dss_cons (ds_set (i := 4) (de_callF F_part_in (Room.mono (j := 4) hr (by decide)) hg (L2N.takes_of rfl rfl rfl rfl) (da_cons (dv_var 3) da_nil)) S.nd)
      (dss_cons (ds_if (dt_is (dv_var 4) dv_non) (dss_one ds_bad) dss_nil)
      (dss_one (ds_drop (dv_append (i := 1) (da_cons (dv_var 4) da_nil)))))))
      (dss_one (ds_ret (de_callF F_play_of_al (Room.mono (j := 7) hr (by decide)) hg (L2N.takes_of rfl rfl rfl rfl) (da_cons (dv_var 1) da_nil)))))))
def m_read_play : M Flow1 := (M.seq (M.drop (M.map R.d (M.call 1 f_need_plain (M.cons (M.var 0) (M.ret [])))))
  (M.seq (M.asg 1 (M.lst (M.ret [])))
  (M.seq (M.forB (M.b1 (M.cons (M.ite (cmpM (M.var 0) (M.ret (.str "")) D.ne?) (M.map R.d (M.split (M.var 0) (M.ret (.str "\n")))) (M.map R.d (M.lst (M.ret [])))) (M.ret [])) enumF) (gTp 2 (gCn (gNm 2) (gCn (gNm 3) gNl))) (M.seq (M.asg 4 (M.call 1 f_part_in (M.cons (M.var 3) (M.ret []))))
  (M.seq (M.ifS (cmpM (M.var 4) (M.ret .non) D.is?) (fun _ => .bad) (M.ret .next))
  (M.drop (M.modVar 1 (M.cons (M.var 4) (M.ret [])) appF)))))
  (M.retR (M.call 1 f_play_of (M.cons (M.var 1) (M.ret [])))))))
def f_read_play : List D → M R := runF 5 m_read_play
theorem ok_read_play {P : Program} {w : World} {K : PySem.W.Frag} {mg : Str → Option Value} {base : Heap} (G : Gb fa fn tb K mg) : OkF P w K mg base (cm K) 8 "read_play" ["text"] f_read_play := by
  have F_need_plain := ok_need_plain (P := P) (w := w) (base := base) G
  have F_part_in := ok_part_in (P := P) (w := w) (base := base) G
  have F_play_of := ok_play_of (P := P) (w := w) (base := base) G
  have S := sc_read_play
  refine okF (mb := m_read_play) (G.def_ 20 (d := d_read_play)) (g_read_play G) S rfl (by decide) (fun _ _ _ _ _ _ us hl => match us, hl with | [_], _ => rfl) fun f cdv A outer s H E hr hg => ?_
  exact (dss_cons (ds_drop (DE.v (de_callF F_need_plain (Room.mono (j := 1) hr (by decide)) hg (L2N.takes_of rfl rfl rfl rfl) (da_cons (dv_var 0) da_nil))))
      (dss_cons (ds_set (i := 1) (de_lst da_nil) S.nd)
      (dss_cons (ds_for (passes_of rfl) rfl (di_enum rfl (g_enumerate G) (da_cons (dv_if (dt_ne (room_v hr) (dv_var 0) dv_str) (DE.v (de_split (dv_var 0) dv_str)) (DE.v (de_lst da_nil))) da_nil)) (dg_tup rfl (dgs_cons (dg_name 2 S.nd) (dgs_cons (dg_name 3 S.nd) dgs_nil))) (dss_cons (ds_set (i := 4) (de_callF F_part_in (Room.mono (j := 4) hr (by decide)) hg (L2N.takes_of rfl rfl rfl rfl) (da_cons (dv_var 3) da_nil)) S.nd)
      (dss_cons (ds_if (dt_is (dv_var 4) dv_non) (dss_one ds_bad) dss_nil)
      (dss_one (ds_drop (dv_append (i := 1) (da_cons (dv_var 4) da_nil)))))))
      (dss_one (ds_ret (de_callF F_play_of (Room.mono (j := 7) hr (by decide)) hg (L2N.takes_of rfl rfl rfl rfl) (da_cons (dv_var 1) da_nil)))))))
/-! law -/
abbrev st_law : Stmt := top 61
theorem sc_law : FnScope ["script", "bag", "turn", "keys", "play", "due", "handed", "kept", "again", "told", "part", "other", "some", "times"] ["script"] (defScope st_law) := ⟨rfl, rfl, rfl, by decide +kernel, rfl, by decide +kernel, by decide +kernel⟩
def m_law : M Flow1 := (M.seq (M.asg 1 (M.map R.val (M.alloc (M.call 1 f_law_bag (M.cons (M.var 0) (M.ret []))))))
  (M.seq (M.forB (M.b1 (M.cons (M.map R.d (bind2 (M.ret (.int 3)) (M.b1 (M.cons (M.ret (.int 6)) (M.cons (M.bind (M.cons (M.var 0) (M.ret [])) lenM) (M.ret []))) min2) fun x y => M.lift (D.add x y))) (M.ret [])) rangeD1) (gNm 2) (M.seq (M.asg 3 (M.map R.val (bind2 (M.map R.d (M.lst (M.cons (M.map R.d (M.call 2 f_law_hand (M.cons (M.var 1) (M.cons (M.ret (.int 60)) (M.ret []))))) (M.cons (M.map R.d (M.call 2 f_law_hand (M.cons (M.var 1) (M.cons (M.ret (.int 20)) (M.ret []))))) (M.cons (M.map R.d (bind2 (M.map R.d (M.lst (M.cons (M.tup (M.cons (M.ret (.str "paste")) (M.ret []))) (M.ret [])))) (M.ret (.int 60)) fun x y => M.lift (D.mul x y))) (M.cons (M.map R.d (bind2 (M.map R.d (M.lst (M.cons (M.tup (M.cons (M.ret (.str "left")) (M.cons (M.ret (.int 1)) (M.ret [])))) (M.ret [])))) (M.ret (.int 60)) fun x y => M.lift (D.mul x y))) (M.ret []))))))) (M.map R.d (M.call 2 f_law_draw (M.cons (M.var 1) (M.cons (M.ret (.int 4)) (M.ret []))))) M.ix)))
  (M.seq (M.asg 4 (M.call 2 f_law_play (M.cons (M.var 1) (M.cons (M.ret (.int 12)) (M.ret [])))))
  (M.seq (M.ifS (M.not (M.tru (M.map R.d (M.call 2 f_law_hand_right (M.cons (M.var 1) (M.cons (M.var 3) (M.ret []))))))) (M.retR (M.map R.val (M.ret (.bl false)))) (M.ret .next))
  (M.seq (M.asg 5 (M.call 1 f_law_play_text (M.cons (M.var 4) (M.ret []))))
  (M.seq (M.asg 6 (M.map R.val (bind2 (M.map R.d (M.lst (M.cons (M.map R.d (M.lcB (M.seqI (M.var 4)) [12, 13] (gTp 2 (gCn (gNm 12) (gCn (gNm 13) gNl))) (M.ret true) (M.map R.d (M.lst (M.cons (M.map R.d (M.call 2 f_law_dressed (M.cons (M.var 1) (M.cons (M.var 12) (M.ret []))))) (M.cons (M.var 13) (M.ret []))))))) (M.cons (M.bind (M.cons (M.var 4) (M.ret [])) tupleM) (M.ret []))))) (M.map R.d (M.call 2 f_law_draw (M.cons (M.var 1) (M.cons (M.ret (.int 2)) (M.ret []))))) M.ix)))
  (M.seq (M.asg 7 (M.map R.val (M.bind (M.cons (M.var 6) (M.ret [])) reprS3)))
  (M.seq (M.forB (M.b1 (M.cons (M.ret (.int 2)) (M.ret [])) rangeD1) (gNm 8) (M.seq (M.ifS (M.or (cmpM (M.map R.d (M.call 1 f_show_play (M.cons (M.var 6) (M.ret [])))) (M.var 5) D.ne?) (cmpM (M.bind (M.cons (M.var 6) (M.ret [])) reprS3) (M.var 7) D.ne?)) (M.retR (M.map R.val (M.ret (.bl false)))) (M.ret .next))
  (M.ifS (cmpM (M.bind (M.cons (M.var 5) (M.ret [])) lenM) (M.ret (.int 4001)) D.lt?) (M.seq (M.asg 9 (M.map R.val (M.alloc (M.call 1 f_read_play_al (M.cons (M.var 5) (M.ret []))))))
  (M.seq (M.ifS (cmpM (M.bind (M.cons (M.var 9) (M.ret [])) reprS3) (M.bind (M.cons (M.var 4) (M.ret [])) reprS3) D.ne?) (M.retR (M.map R.val (M.ret (.bl false)))) (M.ret .next))
  (M.seq (M.forSB (M.srcI (M.var 9)) (gNm 10) (M.drop (M.modE (bind2 (M.var 10) (M.ret (.int 0)) M.ix) (M.cons (M.tup (M.cons (M.ret (.str "paste")) (M.ret []))) (M.ret [])) appF)))
  (M.drop (M.modVar 9 (M.cons (M.tup (M.cons (M.map R.d (M.lst (M.ret []))) (M.cons (M.ret (.int 0)) (M.ret [])))) (M.ret [])) appF))))) (M.ret .next))))
  (M.seq (M.asg 11 (M.call 2 f_law_play (M.cons (M.var 1) (M.cons (M.ret (.int 12)) (M.ret [])))))
  (M.ifS (M.or (cmpM (M.map D.bl (cmpM (M.var 11) (M.var 4) D.eq?)) (M.map D.bl (cmpM (M.map R.d (M.call 1 f_law_play_text (M.cons (M.var 11) (M.ret [])))) (M.var 5) D.eq?)) D.ne?) (cmpM (M.map D.bl (cmpM (M.map R.d (M.call 1 f_show_play (M.cons (M.var 11) (M.ret [])))) (M.var 5) D.eq?)) (M.map D.bl (cmpM (M.var 11) (M.var 4) D.eq?)) D.ne?)) (M.retR (M.map R.val (M.ret (.bl false)))) (M.ret .next)))))))))))
  (M.seq (M.ifS (M.or (cmpM (M.map R.d (M.call 1 f_read_hand (M.cons (M.ret (.str "")) (M.ret [])))) (M.map R.d (M.lst (M.ret []))) D.ne?) (M.or (cmpM (M.map R.d (M.call 1 f_read_play (M.cons (M.ret (.str "")) (M.ret [])))) (M.map R.d (M.lst (M.ret []))) D.ne?) (cmpM (M.map R.d (M.call 1 f_read_play (M.cons (M.ret (.str "0: ")) (M.ret [])))) (M.map R.d (M.lst (M.cons (M.tup (M.cons (M.map R.d (M.lst (M.ret []))) (M.cons (M.ret (.int 0)) (M.ret [])))) (M.ret [])))) D.ne?))) (M.retR (M.map R.val (M.ret (.bl false)))) (M.ret .next))
  (M.retR (M.map R.val (M.map D.bl (cmpM (M.map R.d (M.call 1 f_show_play (M.cons (M.map R.d (M.lst (M.cons (M.tup (M.cons (M.map R.d (M.lst (M.ret []))) (M.cons (M.ret (.int 3)) (M.ret [])))) (M.ret [])))) (M.ret [])))) (M.ret (.str "3: ")) D.eq?)))))))
def f_law : List D → M R := runF 14 m_law
theorem ok_law {P : Program} {w : World} {K : PySem.W.Frag} {mg : Str → Option Value} {base : Heap} (G : Gb fa fn tb K mg) : OkF P w K mg base (cm K) 9 "law" ["script"] f_law := by
  have F_law_bag := ok_law_bag (P := P) (w := w) (base := base) G
  have F_law_draw := ok_law_draw (P := P) (w := w) (base := base) G
  have F_law_hand := ok_law_hand (P := P) (w := w) (base := base) G
  have F_law_play := ok_law_play (P := P) (w := w) (base := base) G
  have F_law_hand_right := ok_law_hand_right (P := P) (w := w) (base := base) G
  have F_law_play_text := ok_law_play_text (P := P) (w := w) (base := base) G
  have F_law_dressed := ok_law_dressed (P := P) (w := w) (base := base) G
  have F_show_play := ok_show_play (P := P) (w := w) (base := base) G
  have F_read_play_al := ok_read_play_al (P := P) (w := w) (base := base) G
  have F_read_play := ok_read_play (P := P) (w := w) (base := base) G
  have F_read_hand := ok_read_hand (P := P) (w := w) (base := base) G
  have S := sc_law
  refine okF (mb := m_law) (G.def_ 33 (d := d_law)) (g_law G) S rfl (by decide) (fun _ _ _ _ _ _ us hl => match us, hl with | [_], _ => rfl) fun f cdv A outer s H E hr hg => ?_
  exact (dss_cons (ds_set (i := 1) (DV.toE (DE.alloc (de_callF F_law_bag (Room.mono (j := 1) hr (by decide)) hg (L2N.takes_of rfl rfl rfl rfl) (da_cons (dv_var 0) da_nil)))) S.nd)
      (dss_cons (ds_for (passes_of rfl) rfl (di_range1 rfl (g_range G) (da_cons (DE.v (de_add dv_int (dv_min rfl rfl (g_min G) bt_min (da_cons dv_int (da_cons (dv_len rfl (g_len G) bt_len (da_cons (dv_var 0) da_nil)) da_nil))))) da_nil)) (dg_name 2 S.nd) (dss_cons (ds_set (i := 3) (DV.toE (dv_ix (DE.v (de_lst (da_cons (DE.v (de_callF F_law_hand (Room.mono (j := 4) hr (by decide)) hg (L2N.takes_of rfl rfl rfl rfl) (da_cons (dv_var 1) (da_cons dv_int da_nil)))) (da_cons (DE.v (de_callF F_law_hand (Room.mono (j := 4) hr (by decide)) hg (L2N.takes_of rfl rfl rfl rfl) (da_cons (dv_var 1) (da_cons dv_int da_nil)))) (da_cons (DE.v (de_mul (DE.v (de_lst (da_cons (dv_tup (da_cons dv_str da_nil)) da_nil))) dv_int)) (da_cons (DE.v (de_mul (DE.v (de_lst (da_cons (dv_tup (da_cons dv_str (da_cons dv_int da_nil))) da_nil))) dv_int)) da_nil)))))) (DE.v (de_callF F_law_draw (Room.mono (j := 2) hr (by decide)) hg (L2N.takes_of rfl rfl rfl rfl) (da_cons (dv_var 1) (da_cons dv_int da_nil)))))) S.nd)
      (dss_cons (ds_set (i := 4) (de_callF F_law_play (Room.mono (j := 5) hr (by decide)) hg (L2N.takes_of rfl rfl rfl rfl) (da_cons (dv_var 1) (da_cons dv_int da_nil))) S.nd)
      (dss_cons (ds_if (dt_not (dt_val (DE.v (de_callF F_law_hand_right (Room.mono (j := 8) hr (by decide)) hg (L2N.takes_of rfl rfl rfl rfl) (da_cons (dv_var 1) (da_cons (dv_var 3) da_nil)))))) (dss_one (ds_ret (DV.toE dv_bl))) dss_nil)
      (dss_cons (ds_set (i := 5) (de_callF F_law_play_text (Room.mono (j := 3) hr (by decide)) hg (L2N.takes_of rfl rfl rfl rfl) (da_cons (dv_var 4) da_nil)) S.nd)
      (dss_cons (ds_set (i := 6) (DV.toE (dv_ix (DE.v (de_lst (da_cons (DE.v (de_lc (own := [("some", 12), ("times", 13)]) rfl S.nd (di_seq (dv_var 4)) (blkOk_by (by kernel_rfl)) (fun _ _ _ _ _ => (dg_tup rfl (dgs_cons (dg_name 12 S.nd) (dgs_cons (dg_name 13 S.nd) dgs_nil)))) (fun _ _ _ _ _ => dts_nil) (fun _ _ _ _ _ => (DE.v (de_lst (da_cons (DE.v (de_callF F_law_dressed (Room.mono (j := 3) hr (by decide)) hg takesN (da_cons (dv_var 1) (da_cons (dv_var 12) da_nil)))) (da_cons (dv_var 13) da_nil))))))) (da_cons (dv_tuple rfl (g_tuple G) bt_tuple (da_cons (dv_var 4) da_nil)) da_nil)))) (DE.v (de_callF F_law_draw (Room.mono (j := 2) hr (by decide)) hg (L2N.takes_of rfl rfl rfl rfl) (da_cons (dv_var 1) (da_cons dv_int da_nil)))))) S.nd)
      (dss_cons (ds_set (i := 7) (DV.toE (dv_reprS3 hg (room_v hr) G.sys rfl (g_repr G) bt_repr (da_cons (dv_var 6) da_nil))) S.nd)
      (dss_cons (ds_for (passes_of rfl) rfl (di_range1 rfl (g_range G) (da_cons dv_int da_nil)) (dg_name 8 S.nd) (dss_cons (ds_if (DW.t (dw_or (dt_ne (room_v hr) (DE.v (de_callF F_show_play (Room.mono (j := 8) hr (by decide)) hg (L2N.takes_of rfl rfl rfl rfl) (da_cons (dv_var 6) da_nil))) (dv_var 5)) (dw_or1 (dt_ne (room_v hr) (dv_reprS3 hg (room_v hr) G.sys rfl (g_repr G) bt_repr (da_cons (dv_var 6) da_nil)) (dv_var 7))))) (dss_one (ds_ret (DV.toE dv_bl))) dss_nil)
      (dss_one (ds_if (dt_lt (dv_len rfl (g_len G) bt_len (da_cons (dv_var 5) da_nil)) dv_int) (dss_cons (ds_set (i := 9) (DV.toE (DE.alloc (de_callF F_read_play_al (Room.mono (j := 8) hr (by decide)) hg (L2N.takes_of rfl rfl rfl rfl) (da_cons (dv_var 5) da_nil)))) S.nd)
      (dss_cons (ds_if (dt_ne (room_v hr) (dv_reprS3 hg (room_v hr) G.sys rfl (g_repr G) bt_repr (da_cons (dv_var 9) da_nil)) (dv_reprS3 hg (room_v hr) G.sys rfl (g_repr G) bt_repr (da_cons (dv_var 4) da_nil))) (dss_one (ds_ret (DV.toE dv_bl))) dss_nil)
      (dss_cons (ds_forS (passes_of rfl) rfl (di_srcI (dv_var 9)) (dg_name 10 S.nd) (dss_one (ds_drop (dv_appendE (dv_ix (dv_var 10) dv_int) (da_cons (dv_tup (da_cons dv_str da_nil)) da_nil)))))
      (dss_one (ds_drop (dv_append (i := 9) (da_cons (dv_tup (da_cons (DE.v (de_lst da_nil)) (da_cons dv_int da_nil))) da_nil))))))) dss_nil))))
      (dss_cons (ds_set (i := 11) (de_callF F_law_play (Room.mono (j := 5) hr (by decide)) hg (L2N.takes_of rfl rfl rfl rfl) (da_cons (dv_var 1) (da_cons dv_int da_nil))) S.nd)
      (dss_one (ds_if (DW.t (dw_or (dt_ne (room_v hr) (dv_eq (room_v hr) (dv_var 11) (dv_var 4)) (dv_eq (room_v hr) (DE.v (de_callF F_law_play_text (Room.mono (j := 3) hr (by decide)) hg (L2N.takes_of rfl rfl rfl rfl) (da_cons (dv_var 11) da_nil))) (dv_var 5))) (dw_or1 (dt_ne (room_v hr) (dv_eq (room_v hr) (DE.v (de_callF F_show_play (Room.mono (j := 8) hr (by decide)) hg (L2N.takes_of rfl rfl rfl rfl) (da_cons (dv_var 11) da_nil))) (dv_var 5)) (dv_eq (room_v hr) (dv_var 11) (dv_var 4)))))) (dss_one (ds_ret (DV.toE dv_bl))) dss_nil)))))))))))
      (dss_cons (ds_if (DW.t (dw_or (dt_ne (room_v hr) (DE.v (de_callF F_read_hand (Room.mono (j := 6) hr (by decide)) hg (L2N.takes_of rfl rfl rfl rfl) (da_cons dv_str da_nil))) (DE.v (de_lst da_nil))) (dw_or (dt_ne (room_v hr) (DE.v (de_callF F_read_play (Room.mono (j := 8) hr (by decide)) hg (L2N.takes_of rfl rfl rfl rfl) (da_cons dv_str da_nil))) (DE.v (de_lst da_nil))) (dw_or1 (dt_ne (room_v hr) (DE.v (de_callF F_read_play (Room.mono (j := 8) hr (by decide)) hg (L2N.takes_of rfl rfl rfl rfl) (da_cons dv_str da_nil))) (DE.v (de_lst (da_cons (dv_tup (da_cons (DE.v (de_lst da_nil)) (da_cons dv_int da_nil))) da_nil)))))))) (dss_one (ds_ret (DV.toE dv_bl))) dss_nil)
      (dss_one (ds_ret (DV.toE (dv_eq (room_v hr) (DE.v (de_callF F_show_play (Room.mono (j := 8) hr (by decide)) hg (L2N.takes_of rfl rfl rfl rfl) (da_cons (DE.v (de_lst (da_cons (dv_tup (da_cons (DE.v (de_lst da_nil)) (da_cons dv_int da_nil))) da_nil))) da_nil))) dv_str)))))))
def names : List PySem.Str := (["LETTERS", "MOST_WORD", "MOST_KEYS", "WRITE_hands", "PASTE_hands", "LEFTWARD", "RIGHTWARD", "MOST_TIMES", "MOST_PARTS", "FIGURES", "SMALL", "COUNTED", "WRITE_writing", "PASTE_writing", "BETWEEN_KEYS", "BEHIND_TIMES", "KeysError", "NoWriting", "NoHand", "NoPlay", "is_whole", "is_plain", "is_word", "is_key", "weight_of", "is_hand", "hand_of", "is_from"] : List PySem.Str) ++ (["parts_of", "play_of", "is_number_text", "is_word_text", "key_in", "keys_in", "part_in", "keys_shown", "show_hand", "show_play", "need_plain", "read_hand", "read_play", "_law_bag", "_law_stir", "_law_draw", "_law_mixed", "_law_word", "_law_hand", "_law_dressed", "_law_play", "_law_key_text", "_law_hand_text", "_law_play_text", "_law_hand_right", "_law_grown"] : List PySem.Str)
abbrev Rw0 : PySem.W.OpenRow := PySem.W.OpenLaw.row PySem.Challenge.rw_blindkeys_k58_hands_and_plays_written
abbrev hk : PySem.W.Hook := hookG 4 fa fn tb
def ob (s : PySem.W.SharedT) : He.AlD × Bool := obsG 4 fa fn tb (HandSHeadRun.getT s)
theorem ob_eq (s : PySem.W.SharedT) : ob s = hk.obs s.abs := obsG_eq (HandSHeadRun.getT_eq s)
-- @HEAD
theorem run (w : World) : HandSHeadRun.RunEq Rw0 (PySem.W.view Rw0.prog [61]) hk ob 100000 names w := by
  intro os
  kernel_rfl
end K58

namespace K58
open PySem PySem.Spec PyProof.Rows L2 DL
def stirI (a b : Int) : Int := 
  let one := (a * 998244353 + b * 1000000007 + 5) % 2305843009213693951
  let two := one * one % 2305843009213693951
  (two * 2860486313 + b * b * 48271 + one / 3) % 2305843009213693921 / 1024
theorem s_stir (a b : Int) (ha : 0 ≤ a ∧ a < 2305843009213693951) (hb : 0 ≤ b ∧ b < 2 ^ 60) (S : Nat → Option MObj) (k : Nat) : Fn f_law_stir [.int a, .int b] S k fun r S' k' => r = .val (.int (stirI a b)) ∧ S' = S ∧ k' = k := by
  have hbb : 0 ≤ b * b ∧ b * b < 2 ^ 120 := ⟨Int.mul_nonneg hb.1 hb.1, by
    have h1 := Int.mul_le_mul (Int.le_of_lt hb.2) (Int.le_of_lt hb.2) hb.1 (by omega)
    have h2 : (2 : Int) ^ 60 * 2 ^ 60 = 2 ^ 120 := by decide
    rcases Int.lt_or_eq_of_le h1 with h | h
    · omega
    · have h3 := Int.mul_le_mul_of_nonneg_left (Int.le_sub_one_of_lt hb.2) hb.1
      omega⟩
  refine fn_run ?_
  unfold m_law_stir
  and_intros
  exact ⟨rfl, rfl, rfl⟩
theorem stir_nn (a b : Int) (hb : 0 ≤ b) (ha : 0 ≤ a) : 0 ≤ stirI a b := by
  unfold stirI
  simp only
  omega
theorem atI_nat {α : Type} {ds : List α} {p : Nat} (h : p < ds.length) : L2.atI ds (p : Int) = some ds[p] := by
  unfold L2.atI L2.ixN
  rw [if_pos (Int.natCast_nonneg p), if_pos (by omega)]
  show ds[(p : Int).toNat]? = _
  rw [Int.toNat_natCast]
  exact List.getElem?_eq_getElem h
/-- the bag k of the store: the script, how many cells are used, the rest of the last, the count, the total -/
def Bag (ns : List Int) (k C : Nat) (S : Nat → Option MObj) : Prop := ∃ (p : Nat) (c : Nat) (rest tot : Int), S k = some (.lst [.lst (ns.map D.int), .int p, .int rest, .int c, .int tot]) ∧ p ≤ ns.length ∧ c ≤ C ∧ 0 ≤ rest ∧ 0 ≤ tot ∧ tot < 2305843009213693951
/-- all but the bag stays -/
def Same (k : Nat) (S S' : Nat → Option MObj) : Prop := ∀ j, j ≠ k → S' j = S j
theorem s_draw (ns : List Int) (hn : ns.length ≤ 1000) (k C : Nat) (hC : C < 2 ^ 59) (many : Int) (hm : 1 ≤ many) (hm2 : many < 2 ^ 300) (S : Nat → Option MObj) (n : Nat) (hB : Bag ns k C S) :
    Fn f_law_draw [.ref k, .int many] S n fun r S' n' => ∃ v : Int, r = .val (.int v) ∧ 0 ≤ v ∧ v < many ∧ n' = n ∧ Bag ns k (C + 1) S' ∧ Same k S S' := by
  obtain ⟨p, c, rest, tot, hS, hp, hc, hr, ht, ht2⟩ := hB
  have sm : ∀ (o : Option MObj), Same k S (fun j => if j = k then o else S j) := fun o j hj => if_neg hj
  have sm2 : ∀ (o o' : Option MObj), Same k S (fun j => if j = k then o else (fun j => if j = k then o' else S j) j) := fun o o' j hj => by show (if j = k then _ else if j = k then _ else _) = _; rw [if_neg hj, if_neg hj]
  refine fn_run ?_
  unfold m_law_draw
  and_intros
  refine ev_cond (fun h => ?_) (fun h => ?_)
  · and_intros
    exact ⟨0, rfl, by omega, by omega, rfl, ⟨p, c, rest, tot, hS, hp, by omega, hr, ht, ht2⟩, fun _ _ => rfl⟩
  and_intros
  have stirOk : ∀ (a b : Int), 0 ≤ a → 0 ≤ b → 0 ≤ stirI a b % many ∧ stirI a b % many < many := fun a b _ _ => ⟨Int.emod_nonneg _ (by omega), Int.emod_lt_of_pos _ (by omega)⟩
  have fin : ∀ (p' : Nat) (rest' : Int), p' ≤ ns.length → 0 ≤ rest' → ∀ S' : Nat → Option MObj, S' k = some (.lst [.lst (ns.map D.int), .int p', .int rest', .int (c + 1 : Nat), .int tot]) → Bag ns k (C + 1) S' := fun p' rest' h1 h2 S' h3 => ⟨p', c + 1, rest', tot, h3, h1, by omega, h2, ht, ht2⟩
  refine ev_cond (fun h1 => ?_) (fun h1 => ?_)
  · and_intros
    refine ev_cond (fun h2 => ?_) (fun h2 => ?_)
    · and_intros
      refine ⟨rfl, (s_stir tot (c + 1) ⟨ht, ht2⟩ ⟨by omega, by omega⟩ _ _).imp ?_⟩
      rintro r S' n' ⟨rfl, rfl, rfl⟩
      and_intros
      exact ⟨_, rfl, (stirOk _ _ ht (by omega)).1, (stirOk _ _ ht (by omega)).2, rfl, fin p rest hp hr _ (if_pos rfl), sm _⟩
    · have hlt : p < ns.length := by
        have : ¬ ((p : Int) = ((ns.map D.int).length : Nat)) := of_decide_eq_false h2
        rw [List.length_map] at this
        omega
      have hcell : L2.atI (ns.map D.int) (p : Int) = some (.int ns[p]) := by
        rw [atI_nat (by rw [List.length_map]; exact hlt), List.getElem_map]
      generalize ns[p] = cell at hcell
      and_intros
      refine ev_cond (fun h3 => ?_) (fun h3 => ?_)
      · and_intros
        refine ev_ixL hcell ?_
        and_intros
        refine ev_cond (fun h4 => ?_) (fun h4 => ?_)
        · and_intros
          refine ⟨rfl, (s_stir (cell % 2305843009213693951) (c + 1) ⟨by omega, by omega⟩ ⟨by omega, by omega⟩ _ _).imp ?_⟩
          rintro r S' n' ⟨rfl, rfl, rfl⟩
          and_intros
          exact ⟨_, rfl, (stirOk _ _ (by omega) (by omega)).1, (stirOk _ _ (by omega) (by omega)).2, rfl, fin (p + 1) rest (by omega) hr _ (if_pos rfl), sm2 _ _⟩
        · have h5 : 10 ^ 18 ≤ cell := by
            have := of_decide_eq_false h4
            have e : (10 : Int) ^ (18 : Int).toNat = 10 ^ 18 := rfl
            rw [e] at this
            omega
          and_intros
          have e18 : (10 : Int) ^ (18 : Int).toNat = 10 ^ 18 := rfl
          exact ⟨_, rfl, Int.emod_nonneg _ (by omega), Int.emod_lt_of_pos _ (by omega), rfl, fin (p + 1) ((cell - 10 ^ (18 : Int).toNat) / many) (by omega) (Int.ediv_nonneg (by rw [e18]; omega) (by omega)) _ (if_pos rfl), fun j hj => by simp only [if_neg hj]⟩
      · rw [h1] at h3
        cases h3
  · and_intros
    refine ev_cond (fun h3 => ?_) (fun h3 => ?_)
    · rw [h1] at h3
      cases h3
    and_intros
    exact ⟨_, rfl, Int.emod_nonneg _ (by omega), Int.emod_lt_of_pos _ (by omega), rfl, fin p (rest / many) hp (Int.ediv_nonneg hr (by omega)) _ (if_pos rfl), sm2 _ _⟩
end K58

namespace K58
open PySem PySem.Spec PyProof.Rows L2 DL
/-- a def that leaves the store -/
def Pu (f : List D → M R) (ds : List D) (r : R) : Prop := ∀ S n, f ds ⟨[], S, n⟩ = .ok r ⟨[], S, n⟩
theorem pu_of {f : List D → M R} {ds : List D} {r : R} (h : ∀ S n, Fn f ds S n fun r' S' n' => r' = r ∧ S' = S ∧ n' = n) : Pu f ds r := fun S n => by
  obtain ⟨r', S', n', e, rfl, rfl, rfl⟩ := h S n
  exact e
theorem ev_callP {ar : Nat} {f : List D → M R} {ma : M (List D)} {w : W} {PR : R → W → Prop} (h : Ev ma w fun ds w1 => ds.length = ar ∧ ∃ r, Pu f ds r ∧ PR r w1) : Ev (M.call ar f ma) w PR :=
  ev_call (h.imp fun ds w1 ⟨h1, r, h2, h3⟩ => ⟨h1, r, w1.S, w1.n, h2 _ _, h3⟩)
def Low (c : Nat) : Prop := 97 ≤ c ∧ c < 123
def Wd (s : Str) : Prop := ∀ c ∈ s.cps.toList, Low c
def nm (i : Fin 6) : Str := (["left", "right", "strike", "rub", "copy", "cut"] : List Str).get i
inductive Ky where
  | paste | write (s : Str) | cnt (i : Fin 6) (n : Nat)
def Ky.d : Ky → D
  | .paste => .tup [.str "paste"]
  | .write s => .tup [.str "write", .str s]
  | .cnt i n => .tup [.str (nm i), .int n]
def Ky.wt : Ky → Nat
  | .paste => 1
  | .write s => s.length
  | .cnt _ n => n
def Ky.ok : Ky → Prop
  | .paste => True
  | .write s => Wd s ∧ 1 ≤ s.length ∧ s.length ≤ 60
  | .cnt _ n => 1 ≤ n ∧ n ≤ 60
structure HandOk (ks : List Ky) : Prop where
  len : ks.length ≤ 60
  ok : ∀ k ∈ ks, k.ok
  wt : (ks.map Ky.wt).sum ≤ 60
theorem bls_const {α : Type} (b : Bool) : ∀ l : List α, D.toBls (l.map fun _ => D.bl b) = some (l.map fun _ => b)
  | [] => rfl
  | _ :: r => by
    show (D.toBls (r.map fun _ => D.bl b)).map (b :: ·) = _
    rw [bls_const b r]
    rfl
theorem all_true {α : Type} (l : List α) : ofList DL.allB [.lst (l.map fun _ => D.bl true)] = some (.bl true) := by
  show DL.allB (l.map fun _ => D.bl true) = _
  unfold DL.allB
  rw [bls_const]
  show some (D.bl ((l.map fun _ => true).all id)) = _
  congr 2
  rw [List.all_eq_true]
  intro x hx
  obtain ⟨_, _, rfl⟩ := List.mem_map.mp hx
  rfl
theorem ints_of {α : Type} (f : α → Nat) : ∀ l : List α, D.toInts (l.map fun x => D.int (f x)) = some (l.map fun x => (f x : Int))
  | [] => rfl
  | x :: r => by
    show (D.toInts (r.map fun x => D.int (f x))).map ((f x : Int) :: ·) = _
    rw [ints_of f r]
    rfl
theorem sum_cast {α : Type} (f : α → Nat) : ∀ l : List α, (l.map fun x => (f x : Int)).sum = ((l.map f).sum : Nat)
  | [] => rfl
  | x :: r => by
    rw [List.map_cons, List.map_cons, List.sum_cons, List.sum_cons, sum_cast f r]
    push_cast
    rfl
theorem sum_of {α : Type} (f : α → Nat) (l : List α) : ofList sumI [.lst (l.map fun x => D.int (f x))] = some (.int ((l.map f).sum : Nat)) := by
  show sumI (l.map fun x => D.int (f x)) = _
  unfold sumI
  rw [ints_of]
  show some (D.int _) = _
  rw [sum_cast]
theorem strs_of {α : Type} (f : α → Str) : ∀ l : List α, D.toStrs (l.map fun x => D.str (f x)) = some (l.map f)
  | [] => rfl
  | x :: r => by
    show (D.toStrs (r.map fun x => D.str (f x))).map (f x :: ·) = _
    rw [strs_of f r]
    rfl
theorem low_in {c : Nat} (h : Low c) : D.in? (.str ⟨#[c]⟩) (.str "abcdefghijklmnopqrstuvwxyz") = some true := by
  show (if (#[c] : Array Nat).size = 1 then some (decide ((#[c] : Array Nat).getD 0 0 ∈ ("abcdefghijklmnopqrstuvwxyz" : Str).cps.toList)) else none) = some true
  refine (if_pos (show (#[c] : Array Nat).size = 1 from rfl)).trans ?_
  congr 1
  refine decide_eq_true ?_
  show c ∈ ("abcdefghijklmnopqrstuvwxyz" : Str).cps.toList
  have e : ("abcdefghijklmnopqrstuvwxyz" : Str).cps.toList = [97, 98, 99, 100, 101, 102, 103, 104, 105, 106, 107, 108, 109, 110, 111, 112, 113, 114, 115, 116, 117, 118, 119, 120, 121, 122] := by decide +kernel
  rw [e]
  obtain ⟨h1, h2⟩ := h
  have : c = 97 ∨ c = 98 ∨ c = 99 ∨ c = 100 ∨ c = 101 ∨ c = 102 ∨ c = 103 ∨ c = 104 ∨ c = 105 ∨ c = 106 ∨ c = 107 ∨ c = 108 ∨ c = 109 ∨ c = 110 ∨ c = 111 ∨ c = 112 ∨ c = 113 ∨ c = 114 ∨ c = 115 ∨ c = 116 ∨ c = 117 ∨ c = 118 ∨ c = 119 ∨ c = 120 ∨ c = 121 ∨ c = 122 := by omega
  rcases this with h | h | h | h | h | h | h | h | h | h | h | h | h | h | h | h | h | h | h | h | h | h | h | h | h | h <;> (rw [h]; decide)
theorem p_is_whole (n : Int) : Pu f_is_whole [.int n] (.val (.bl true)) := fun _ _ => rfl
theorem p_is_from (t m : Int) (h : 0 ≤ t ∧ t ≤ m) : Pu f_is_from [.int t, .int m] (.val (.bl true)) := pu_of fun S n => by
  refine fn_run ?_
  unfold m_is_from
  and_intros
  refine ⟨rfl, _, _, _, p_is_whole t _ _, ?_⟩
  and_intros
  rw [decide_eq_true h.1]
  and_intros
  rw [decide_eq_true h.2]
  exact ⟨rfl, rfl, rfl⟩
theorem p_is_plain (s : Str) (h : Wd s) (hl : s.length ≤ 60) : Pu f_is_plain [.str s] (.val (.bl true)) := pu_of fun S n => by
  refine fn_run ?_
  unfold m_is_plain
  and_intros
  refine ev_lcMap (g := fun _ => .bl true) (by rw [List.length_map, Array.length_toList]; exact Nat.le_trans hl (by decide)) (fun d hd => ?_) ?_
  · obtain ⟨c, hc, rfl⟩ := List.mem_map.mp hd
    refine ⟨_, rfl, ?_⟩
    refine ev_map (ev_cmp ?_)
    and_intros
    exact ⟨congrArg D.bl (Option.some.inj (low_in (h c hc))), rfl⟩
  and_intros
  refine ev_lift (all_true _) ?_
  exact ⟨rfl, rfl, rfl⟩
theorem p_is_word (s : Str) (h : Wd s) (h1 : 1 ≤ s.length) (hl : s.length ≤ 60) : Pu f_is_word [.str s] (.val (.bl true)) := pu_of fun S n => by
  have hb : s.length ≤ big := Nat.le_trans hl (by decide)
  refine fn_run ?_
  unfold m_is_word
  and_intros
  refine ⟨rfl, _, _, _, p_is_plain s h hl _ _, ?_⟩
  and_intros
  refine ev_lenS hb ?_
  refine ⟨true, congrArg some (decide_eq_true (show (1 : Int) ≤ (s.length : Nat) by omega)), fun _ => ?_, fun h => by cases h⟩
  and_intros
  exact ⟨congrArg (fun b => R.val (D.bl b)) (decide_eq_true (show ((s.length : Nat) : Int) ≤ 60 by omega)), rfl, rfl⟩
theorem nm_cases (P : Str → Prop) (h1 : P "left") (h2 : P "right") (h3 : P "strike") (h4 : P "rub") (h5 : P "copy") (h6 : P "cut") (i : Fin 6) : P (nm i) := by
  match i with
  | 0 => exact h1
  | 1 => exact h2
  | 2 => exact h3
  | 3 => exact h4
  | 4 => exact h5
  | 5 => exact h6
theorem p_is_key (k : Ky) (h : k.ok) : Pu f_is_key [k.d] (.val (.bl true)) := by
  cases k with
  | paste => exact fun _ _ => rfl
  | write s =>
    obtain ⟨h1, h2, h3⟩ := h
    refine pu_of fun S n => ?_
    refine fn_run ?_
    unfold m_is_key Ky.d
    and_intros
    refine ⟨rfl, _, _, _, p_is_word s h1 h2 h3 _ _, ?_⟩
    exact ⟨rfl, rfl, rfl⟩
  | cnt i m =>
    obtain ⟨h1, h2⟩ := h
    have hd : decide ((1 : Int) ≤ (m : Nat)) = true := decide_eq_true (by omega)
    refine nm_cases (fun z => Pu f_is_key [.tup [.str z, .int m]] (.val (.bl true))) ?_ ?_ ?_ ?_ ?_ ?_ i <;>
    · refine pu_of fun S n => ?_
      refine fn_run ?_
      unfold m_is_key
      and_intros
      refine ⟨rfl, _, _, _, p_is_whole m _ _, ?_⟩
      and_intros
      exact ⟨congrArg (fun b => R.val (D.bl b)) hd, rfl, rfl⟩
theorem p_weight_of (k : Ky) (h : k.ok) : Pu f_weight_of [k.d] (.val (.int k.wt)) := by
  cases k with
  | paste => exact fun _ _ => rfl
  | write s =>
    obtain ⟨h1, h2, h3⟩ := h
    refine pu_of fun S n => ?_
    refine fn_run ?_
    unfold m_weight_of Ky.d
    and_intros
    refine ev_lenS (Nat.le_trans h3 (by decide)) ?_
    exact ⟨rfl, rfl, rfl⟩
  | cnt i m =>
    refine nm_cases (fun z => Pu f_weight_of [.tup [.str z, .int m]] (.val (.int m))) ?_ ?_ ?_ ?_ ?_ ?_ i <;> exact fun _ _ => rfl
end K58

namespace K58
open PySem PySem.Spec PyProof.Rows L2 DL
/-! dressed keys, hands, plays -/
def Ky.it : Ky → List D
  | .paste => [.str "paste"]
  | .write s => [.str "write", .str s]
  | .cnt i n => [.str (nm i), .int n]
theorem d_it (k : Ky) : k.d = .tup k.it := by cases k <;> rfl
/-- a key, as a list where b -/
abbrev Kd : Type := Ky × Bool
def Kd.d (q : Kd) : D := match q.2 with
  | true => .lst q.1.it
  | false => .tup q.1.it
theorem p_is_keyL (k : Ky) (h : k.ok) : Pu f_is_key [.lst k.it] (.val (.bl true)) := by
  cases k with
  | paste => exact fun _ _ => rfl
  | write s =>
    obtain ⟨h1, h2, h3⟩ := h
    refine pu_of fun S n => ?_
    refine fn_run ?_
    unfold m_is_key Ky.it
    and_intros
    refine ⟨rfl, _, _, _, p_is_word s h1 h2 h3 _ _, ?_⟩
    exact ⟨rfl, rfl, rfl⟩
  | cnt i m =>
    obtain ⟨h1, h2⟩ := h
    have hd : decide ((1 : Int) ≤ (m : Nat)) = true := decide_eq_true (by omega)
    refine nm_cases (fun z => Pu f_is_key [.lst [.str z, .int m]] (.val (.bl true))) ?_ ?_ ?_ ?_ ?_ ?_ i <;>
    · refine pu_of fun S n => ?_
      refine fn_run ?_
      unfold m_is_key
      and_intros
      refine ⟨rfl, _, _, _, p_is_whole m _ _, ?_⟩
      and_intros
      exact ⟨congrArg (fun b => R.val (D.bl b)) hd, rfl, rfl⟩
theorem p_weight_ofL (k : Ky) (h : k.ok) : Pu f_weight_of [.lst k.it] (.val (.int k.wt)) := by
  cases k with
  | paste => exact fun _ _ => rfl
  | write s =>
    obtain ⟨h1, h2, h3⟩ := h
    refine pu_of fun S n => ?_
    refine fn_run ?_
    unfold m_weight_of Ky.it
    and_intros
    refine ev_lenS (Nat.le_trans h3 (by decide)) ?_
    exact ⟨rfl, rfl, rfl⟩
  | cnt i m =>
    refine nm_cases (fun z => Pu f_weight_of [.lst [.str z, .int m]] (.val (.int m))) ?_ ?_ ?_ ?_ ?_ ?_ i <;> exact fun _ _ => rfl
theorem p_is_keyD (q : Kd) (h : q.1.ok) : Pu f_is_key [q.d] (.val (.bl true)) := by
  obtain ⟨k, b⟩ := q
  cases b with
  | true => exact p_is_keyL k h
  | false =>
    have := p_is_key k h
    rw [d_it] at this
    exact this
theorem p_weight_ofD (q : Kd) (h : q.1.ok) : Pu f_weight_of [q.d] (.val (.int q.1.wt)) := by
  obtain ⟨k, b⟩ := q
  cases b with
  | true => exact p_weight_ofL k h
  | false =>
    have := p_weight_of k h
    rw [d_it] at this
    exact this
/-- t holds the things ds -/
def Hol (S : Nat → Option MObj) (t : D) (ds : List D) : Prop := t = .lst ds ∨ t = .tup ds ∨ ∃ k, t = .ref k ∧ S k = some (.lst ds)
theorem hol_isa {S : Nat → Option MObj} {t : D} {ds : List D} (h : Hol S t ds) : ∃ a b, t.isaW S .tList = some a ∧ t.isaW S .tTuple = some b ∧ (a || b) = true := by
  rcases h with rfl | rfl | ⟨k, rfl, e⟩
  · exact ⟨true, false, rfl, rfl, rfl⟩
  · exact ⟨false, true, rfl, rfl, rfl⟩
  · exact ⟨true, false, by rw [isaW_R e]; rfl, by rw [isaW_R e]; rfl, rfl⟩
theorem ev_lenH {w : W} {t : D} {ds : List D} {P : D → W → Prop} (h : Hol w.S t ds) (k : P (.int ds.length) w) : Ev (lenM [t]) w P := by
  rcases h with rfl | rfl | ⟨j, rfl, e⟩
  · exact ev_lenL k
  · exact ev_lenT k
  · exact ev_lenR e k
theorem ev_lcH {ι : Type} {xs : List ι} {a b : ι → D} {i : Nat} {t : D} {w : W} {vs : List Nat} {f : D → W → Option W} {e : M D} {PR : R → W → Prop} (ei : w.E[i]? = some (.val t)) (hh : Hol w.S t (xs.map a)) (hl : xs.length ≤ big)
    (h : ∀ x ∈ xs, ∃ w1, f (a x) (w.wipe vs) = some w1 ∧ Ev e w1 fun y w3 => y = b x ∧ w3.wipe vs = w.wipe vs) (q : PR (.own (xs.map b)) (w.wipe vs)) : Ev (M.lcSB (M.srcI (M.var i)) vs f (M.ret true) e) w PR := by
  rcases hh with rfl | rfl | ⟨k, rfl, eS⟩
  · exact ev_lcSB (ev_srcF (ev_var ei ⟨_, rfl, ev_lcSF (ev_lcMap2 hl h q)⟩))
  · exact ev_lcSB (ev_srcF (ev_var ei ⟨_, rfl, ev_lcSF (ev_lcMap2 hl h q)⟩))
  · exact ev_lcSB (ev_srcR (ev_var ei ⟨rfl, ⟨_, eS⟩, ev_lcSV eS hl h q⟩))
/-- f leaves the store S -/
def PuS (f : List D → M R) (ds : List D) (S : Nat → Option MObj) (r : R) : Prop := ∀ n, f ds ⟨[], S, n⟩ = .ok r ⟨[], S, n⟩
theorem puS_of {f : List D → M R} {ds : List D} {S : Nat → Option MObj} {r : R} (h : ∀ n, Fn f ds S n fun r' S' n' => r' = r ∧ S' = S ∧ n' = n) : PuS f ds S r := fun n => by
  obtain ⟨r', S', n', e, rfl, rfl, rfl⟩ := h n
  exact e
theorem ev_callS {ar : Nat} {f : List D → M R} {ma : M (List D)} {w : W} {PR : R → W → Prop} (h : Ev ma w fun ds w1 => ds.length = ar ∧ ∃ r, PuS f ds w1.S r ∧ PR r w1) : Ev (M.call ar f ma) w PR :=
  ev_call (h.imp fun ds w1 ⟨h1, r, h2, h3⟩ => ⟨h1, r, w1.S, w1.n, h2 _, h3⟩)
structure HandD (xs : List Kd) : Prop where
  ok : HandOk (xs.map (·.1))
theorem HandD.key {xs : List Kd} (h : HandD xs) : ∀ q ∈ xs, q.1.ok := fun q hq => h.ok.ok _ (List.mem_map_of_mem hq)
theorem p_is_handH {S : Nat → Option MObj} {t : D} {xs : List Kd} (hh : Hol S t (xs.map Kd.d)) (h : HandD xs) : PuS f_is_hand [t] S (.val (.bl true)) := puS_of fun n => by
  have hlen : xs.length ≤ 60 := by have := h.ok.len; rw [List.length_map] at this; exact this
  have hl : xs.length ≤ big := Nat.le_trans hlen (by decide)
  have e1 : decide ((60 : Int) < ((xs.map Kd.d).length : Nat)) = false := decide_eq_false (by rw [List.length_map]; omega)
  obtain ⟨a, b, ha, hb, hab⟩ := hol_isa hh
  refine fn_run ?_
  unfold m_is_hand
  refine ev_seq (ev_ifS (ev_or (ev_not (ev_tru (ev_isa2S (ev_var rfl ⟨a, b, ha, hb, true, by rw [hab], ?_⟩))))))
  refine ev_condF (ev_or (ev_cmp (ev_bind (ev_cons (ev_var rfl (ev_ret (ev_lenH (t := t) hh (ev_ret ⟨_, rfl, ?_⟩))))))))
  rw [e1]
  refine ev_condF (ev_not (ev_tru (ev_b1 (ev_cons (ev_map (ev_lcH (xs := xs) (a := Kd.d) (b := fun _ => .bl true) rfl hh hl (fun k hk => ⟨_, rfl, ?_⟩) ?_))))))
  · refine ev_map (ev_callP (ev_cons (ev_var rfl (ev_ret ⟨rfl, _, p_is_keyD k (h.key k hk), rfl, rfl⟩))))
  refine ev_ret (ev_lift (all_true _) ⟨true, rfl, ev_condF (ev_ret ?_)⟩)
  refine ev_retR (ev_map (ev_map (ev_cmp (ev_b1 (ev_cons (ev_map (ev_lcH (xs := xs) (a := Kd.d) (b := fun k => .int (k.1.wt : Nat)) rfl hh hl (fun k hk => ⟨_, rfl, ?_⟩) ?_)))))))
  · refine ev_map (ev_callP (ev_cons (ev_var rfl (ev_ret ⟨rfl, _, p_weight_ofD k (h.key k hk), rfl, rfl⟩))))
  refine ev_ret (ev_lift (sum_of (fun k : Kd => k.1.wt) _) (ev_ret ⟨_, rfl, ?_, rfl, rfl⟩))
  have hw := h.ok.wt
  rw [List.map_map] at hw
  exact congrArg (fun b => R.val (D.bl b)) (decide_eq_true (show (((xs.map fun k : Kd => k.1.wt).sum : Nat) : Int) ≤ 60 by
    have e : (xs.map (Ky.wt ∘ fun x : Kd => x.1)) = xs.map fun k : Kd => k.1.wt := rfl
    rw [e] at hw
    omega))
theorem p_hand_ofH {S : Nat → Option MObj} {t : D} {xs : List Kd} (hh : Hol S t (xs.map Kd.d)) (h : HandD xs) : PuS f_hand_of [t] S (.own ((xs.map (·.1)).map Ky.d)) := puS_of fun n => by
  have hlen : xs.length ≤ 60 := by have := h.ok.len; rw [List.length_map] at this; exact this
  have hl : xs.length ≤ big := Nat.le_trans hlen (by decide)
  refine fn_run ?_
  unfold m_hand_of
  refine ev_seq (ev_ifS (ev_not (ev_tru (ev_map (ev_callS (ev_cons (ev_var rfl (ev_ret ⟨rfl, _, p_is_handH hh h, true, rfl, ev_condF (ev_ret ?_)⟩))))))))
  refine ev_retR (ev_lcH (xs := xs) (a := Kd.d) (b := fun k => k.1.d) rfl hh hl (fun k hk => ⟨_, rfl, ?_⟩) ?_)
  · obtain ⟨k, b⟩ := k
    cases b with
    | true => exact ev_bind (ev_cons (ev_var rfl (ev_ret (ev_tupL ⟨(d_it k).symm, rfl⟩))))
    | false => exact ev_bind (ev_cons (ev_var rfl (ev_ret (ev_tupT ⟨(d_it k).symm, rfl⟩))))
  · refine ⟨?_, rfl, rfl⟩
    rw [List.map_map]
    rfl
theorem kd_plain (ks : List Ky) : (ks.map fun k => ((k, false) : Kd)).map Kd.d = ks.map Ky.d := by
  rw [List.map_map]
  exact List.map_congr_left fun k _ => (d_it k).symm
theorem kd_fst (ks : List Ky) : (ks.map fun k => ((k, false) : Kd)).map (·.1) = ks := by
  rw [List.map_map]
  exact List.map_id _
theorem hol_plain (S : Nat → Option MObj) (ks : List Ky) : Hol S (.lst (ks.map Ky.d)) ((ks.map fun k => ((k, false) : Kd)).map Kd.d) := .inl (by rw [kd_plain])
theorem handD_plain {ks : List Ky} (h : HandOk ks) : HandD (ks.map fun k => ((k, false) : Kd)) := ⟨by rw [kd_fst]; exact h⟩
theorem p_hand_of (ks : List Ky) (h : HandOk ks) : Pu f_hand_of [.lst (ks.map Ky.d)] (.own (ks.map Ky.d)) := fun S n => by
  have := p_hand_ofH (hol_plain S ks) (handD_plain h) n
  rw [kd_fst] at this
  exact this
/-- a part of a play -/
abbrev Pt : Type := List Ky × Nat
def Pt.d (p : Pt) : D := .tup [.lst (p.1.map Ky.d), .int p.2]
structure PlayOk (ps : List Pt) : Prop where
  len : ps.length ≤ 12
  ok : ∀ p ∈ ps, HandOk p.1 ∧ True ∧ p.2 ≤ 10 ^ 30
/-- a dressed part: its hand, the hand's keys, whether the hand is a list, times, whether the part is one -/
structure Pd where
  xs : List Kd
  hb : Bool
  n : Nat
  pb : Bool
def seqB (b : Bool) (ds : List D) : D := match b with
  | true => .lst ds
  | false => .tup ds
def Pd.hd (p : Pd) : D := seqB p.hb (p.xs.map Kd.d)
def Pd.d (p : Pd) : D := seqB p.pb [p.hd, .int p.n]
def Pd.pt (p : Pd) : Pt := (p.xs.map (·.1), p.n)
theorem hol_seq (S : Nat → Option MObj) (b : Bool) (ds : List D) : Hol S (seqB b ds) ds := by
  cases b
  · exact .inr (.inl rfl)
  · exact .inl rfl
theorem seq_isa (b : Bool) (ds : List D) : D.isa2 (seqB b ds) .tList .tTuple = some (.bl true) := by cases b <;> rfl
theorem seq_seqD (b : Bool) (ds : List D) : seqD (seqB b ds) = some ds := by cases b <;> rfl
theorem ev_ixB {b : Bool} {i : Int} {ds : List D} {d : D} {w : W} {P : D → W → Prop} (e2 : L2.atI ds i = some d) (h : P d w) : Ev (M.ix (seqB b ds) (.int i)) w P := by
  cases b
  · exact ev_ixT e2 h
  · exact ev_ixL e2 h
theorem p_parts_ofB (b : Bool) (ps : List Pd) (h : PlayOk (ps.map Pd.pt)) : Pu f_parts_of [seqB b (ps.map Pd.d)] (.own ((ps.map Pd.pt).map Pt.d)) := pu_of fun S n => by
  have hlen : ps.length ≤ 12 := by have := h.len; rw [List.length_map] at this; exact this
  have hl : ps.length ≤ big := Nat.le_trans hlen (by decide)
  have e1 : decide ((12 : Int) < ((ps.map Pd.d).length : Nat)) = false := decide_eq_false (by rw [List.length_map]; omega)
  refine fn_run ?_
  unfold m_parts_of
  refine ev_seq (ev_ifS (ev_or (ev_not (ev_tru (ev_isa2 (ev_var rfl ⟨_, seq_isa b _, true, rfl, ?_⟩))))))
  refine ev_condF (ev_cmp (ev_bind (ev_cons (ev_var rfl (ev_ret (ev_lenH (hol_seq _ b _) (ev_ret ⟨_, rfl, ?_⟩)))))))
  rw [e1]
  refine ev_condF (ev_ret (ev_seq (ev_asg (ev_lst (ev_ret ⟨Nat.zero_le _, Nat.le_of_ble_eq_true rfl, ?_⟩)))))
  refine ev_seq (ev_forB (ev_seqI (ev_var rfl ⟨_, seq_seqD b _, ?_⟩)))
  refine ev_forL (fun r w => ∃ ys zs x, ps = ys ++ zs ∧ r = zs.map Pd.d ∧ w = ⟨[.val (seqB b (ps.map Pd.d)), .own ((ys.map Pd.pt).map Pt.d), x], S, n⟩) ?_ ?_ _ _ ⟨[], ps, .un, rfl, rfl, rfl⟩
  · rintro d r w ⟨ys, zs, x, h1, h2, rfl⟩
    cases zs with
    | nil => cases h2
    | cons z zs =>
      injection h2 with h3 h4
      subst h3
      obtain ⟨k1, k2, k3⟩ := h.ok z.pt (by rw [h1]; simp)
      refine ⟨_, rfl, ?_⟩
      have ht : (0 : Int) ≤ (z.n : Nat) ∧ ((z.n : Nat) : Int) ≤ 1000000000000000000000000000000 := by
        have e : (10 : Nat) ^ 30 = 1000000000000000000000000000000 := by decide
        have : z.n ≤ 10 ^ 30 := k3
        omega
      have hd : HandD z.xs := ⟨k1⟩
      show Ev _ ⟨[.val (seqB b (ps.map Pd.d)), .own ((ys.map Pd.pt).map Pt.d), .val (seqB z.pb [z.hd, .int z.n])], S, n⟩ _
      refine ev_seq (ev_ifS (ev_or (ev_not (ev_tru (ev_isa2 (ev_var rfl ⟨_, seq_isa z.pb _, true, rfl, ?_⟩))))))
      refine ev_condF (ev_or (ev_cmp (ev_bind (ev_cons (ev_var rfl (ev_ret (ev_lenH (hol_seq _ z.pb _) (ev_ret ⟨false, rfl, ?_⟩))))))))
      refine ev_condF (ev_not (ev_tru (ev_map (ev_callP (ev_cons (ev_bind2 (ev_var rfl (ev_ret (ev_ixB (d := .int z.n) rfl (ev_cons (ev_ret (ev_ret ⟨rfl, _, p_is_from z.n 1000000000000000000000000000000 ht, true, rfl, ?_⟩))))))))))))
      refine ev_condF (ev_ret (ev_try (ev_drop (ev_appO rfl (ev_cons (ev_tup (ev_cons (ev_map (ev_callS (ev_cons (ev_bind2 (ev_var rfl (ev_ret (ev_ixB (d := z.hd) rfl (ev_ret ⟨rfl, _, p_hand_ofH (hol_seq _ z.hb _) hd, ?_⟩)))))))))))))))
      refine ev_cons (ev_bind2 (ev_var rfl (ev_ret (ev_ixB (d := .int z.n) rfl (ev_ret ⟨by show (2 : Nat) ≤ big; decide, ev_ret ⟨_, _, rfl, rfl, ?_, ?_⟩⟩)))))
      · rw [List.length_map, List.length_map]
        exact Nat.lt_of_le_of_lt (show ys.length ≤ 12 by have := congrArg List.length h1; simp only [List.length_append, List.length_cons] at this; omega) (by decide)
      · exact ⟨ys ++ [z], zs, _, by rw [h1]; simp, h4, by rw [List.map_append, List.map_append]; rfl⟩
  · rintro w ⟨ys, zs, x, h1, h2, rfl⟩
    have : zs = [] := by
      cases zs with
      | nil => rfl
      | cons z zs => cases h2
    rw [this, List.append_nil] at h1
    subst h1
    exact ev_retOwn rfl ⟨rfl, rfl, rfl⟩
theorem p_play_ofB (b : Bool) (ps : List Pd) (h : PlayOk (ps.map Pd.pt)) : Pu f_play_of [seqB b (ps.map Pd.d)] (.val (.lst ((ps.map Pd.pt).map Pt.d))) := pu_of fun S n => by
  refine fn_run ?_
  unfold m_play_of
  and_intros
  refine ⟨rfl, _, _, _, p_parts_ofB b ps h _ _, ?_⟩
  and_intros
  exact ⟨rfl, rfl, rfl⟩
def Pt.pd (p : Pt) : Pd := ⟨p.1.map fun k => (k, false), true, p.2, false⟩
theorem pd_d (p : Pt) : p.pd.d = p.d := by
  show D.tup [.lst ((p.1.map fun k => ((k, false) : Kd)).map Kd.d), .int p.2] = _
  rw [kd_plain]
  rfl
theorem pd_pt (p : Pt) : p.pd.pt = p := by
  show ((p.1.map fun k => ((k, false) : Kd)).map (·.1), p.2) = p
  rw [kd_fst]
theorem pds (ps : List Pt) : (ps.map Pt.pd).map Pd.d = ps.map Pt.d := by
  rw [List.map_map]
  exact List.map_congr_left fun p _ => pd_d p
theorem pts (ps : List Pt) : (ps.map Pt.pd).map Pd.pt = ps := by
  rw [List.map_map]
  exact (List.map_congr_left fun p _ => pd_pt p).trans (List.map_id _)
theorem p_play_of (ps : List Pt) (h : PlayOk ps) : Pu f_play_of [.lst (ps.map Pt.d)] (.val (.lst (ps.map Pt.d))) := by
  have := p_play_ofB true (ps.map Pt.pd) (by rw [pts]; exact h)
  rw [pts] at this
  rw [← pds ps]
  rw [pds]
  have e : seqB true ((ps.map Pt.pd).map Pd.d) = .lst (ps.map Pt.d) := by rw [pds]; rfl
  rw [e] at this
  exact this
end K58

namespace K58
open PySem PySem.Spec PyProof.Rows L2 DL
/-- texts -/
def keyTxt : Ky → Str
  | .paste => Txt.join " " ["paste"]
  | .write s => Txt.join " " ["write", s]
  | .cnt i n => Txt.join " " [nm i, numStr n]
def handTxt (ks : List Ky) : Str := Txt.join ", " (ks.map keyTxt)
def rowTxt (p : Pt) : Str := numStr p.2 ++ ": " ++ handTxt p.1
def playTxt (ps : List Pt) : Str := Txt.join "\n" (ps.map rowTxt)
theorem joinL_len (S : List Nat) : ∀ ps : List (List Nat), (TL.joinL S ps).length ≤ (ps.map List.length).sum + ps.length * S.length
  | [] => Nat.zero_le _
  | [p] => by
    show p.length ≤ (p.length + 0) + _
    omega
  | p :: q :: r => by
    have ih := joinL_len S (q :: r)
    show (p ++ (S ++ TL.joinL S (q :: r))).length ≤ p.length + (((q :: r).map List.length).sum) + (r.length + 2) * S.length
    rw [List.length_append, List.length_append, Nat.succ_mul]
    have e : (q :: r).length * S.length = (r.length + 1) * S.length := rfl
    rw [e] at ih
    omega
theorem sum_le (b : Nat) : ∀ ps : List Str, (∀ p ∈ ps, p.length ≤ b) → (ps.map Str.length).sum ≤ ps.length * b
  | [], _ => Nat.zero_le _
  | p :: r, h => by
    have ih := sum_le b r fun q hq => h q (List.mem_cons_of_mem _ hq)
    have h1 := h p (List.mem_cons_self ..)
    rw [List.map_cons, List.sum_cons, List.length_cons, Nat.succ_mul]
    omega
theorem join_len {y : Str} {ps : List Str} {b : Nat} (h : ∀ p ∈ ps, p.length ≤ b) : (Txt.join y ps).length ≤ ps.length * (b + y.length) := by
  have h1 := joinL_len (TL.tl y) (ps.map TL.tl)
  rw [← TL.tl_join, ← TL.join_eq, List.map_map, List.length_map] at h1
  have e : (ps.map (List.length ∘ TL.tl)) = ps.map Str.length := List.map_congr_left fun p _ => (TL.len_tl p).symm
  rw [e] at h1
  have h2 := sum_le b ps h
  rw [TL.len_tl, Nat.mul_add]
  have e3 : ps.length * y.length = ps.length * (TL.tl y).length := by rw [TL.len_tl]
  omega
theorem joinF_le {a : Str} {ys : List Str} {b : Nat} (h : ∀ p ∈ ys, p.length ≤ b) (hb : ys.length * (b + a.length) ≤ 16777216) : joinF a (ys.map D.str) = some (.str (Txt.join a ys)) := by
  unfold joinF
  have e : D.toStrs (ys.map D.str) = some ys := by
    have := strs_of (fun x : Str => x) ys
    rw [List.map_id'] at this
    exact this
  rw [e]
  have h2 := sum_le b ys h
  rw [Nat.mul_add] at hb
  show (if (ys.map (fun x : Str => x.length)).sum + ys.length * a.length ≤ 16777216 then some (D.str (Txt.join a ys)) else none) = _
  exact if_pos (Nat.le_trans (Nat.add_le_add_right h2 _) hb)
theorem num_len {n k : Nat} (hk : 0 < k) (h : n < 10 ^ k) : (numStr n).length ≤ k := by
  rw [TL.len_tl]
  show (TL.tl (Str.ofString (toString ((n : Nat) : Int)))).length ≤ k
  rw [TL.tl_num]
  exact TL.numL_len hk h
theorem nm_len (i : Fin 6) : (nm i).length ≤ 6 := nm_cases (fun z => z.length ≤ 6) (by decide) (by decide) (by decide) (by decide) (by decide) (by decide) i
theorem keyTxt_len (k : Ky) (h : k.ok) : (keyTxt k).length ≤ 200 := by
  cases k with
  | paste => exact Nat.le_trans (join_len (b := 60) fun p hp => by
      rw [List.mem_singleton] at hp; rw [hp]; decide) (by decide)
  | write s => exact Nat.le_trans (join_len (b := 60) fun p hp => by
      rcases List.mem_cons.mp hp with rfl | hp
      · decide
      · rw [List.mem_singleton] at hp
        rw [hp]
        exact h.2.2) (show 2 * (60 + (" " : Str).length) ≤ 200 by decide)
  | cnt i n => exact Nat.le_trans (join_len (b := 60) fun p hp => by
      rcases List.mem_cons.mp hp with rfl | hp
      · exact Nat.le_trans (nm_len i) (by decide)
      · rw [List.mem_singleton] at hp
        rw [hp]
        exact Nat.le_trans (num_len (k := 2) (by decide) (Nat.lt_of_le_of_lt h.2 (by decide))) (by decide)) (show 2 * (60 + (" " : Str).length) ≤ 200 by decide)
def strD : D → D
  | .int i => .str (numStr i)
  | d => d
/-- a row of texts and small numbers, each made a text, joined by a blank -/
theorem ev_wordsJoin {ds : List D} {ts : List Str} {sep : Str} {w : W} {i j : Nat} {P : D → W → Prop} (e : w.E[i]? = some (.val (.tup ds))) (hj : j < w.E.length) (hs : ds.map strD = ts.map D.str) (hd : ∀ d ∈ ds, strF [d] = some (strD d)) (hl : ds.length ≤ big)
    {b : Nat} (hb : ∀ p ∈ ts, p.length ≤ b) (hb2 : ts.length * (b + sep.length) ≤ 16777216) (h : P (.str (Txt.join sep ts)) (w.wipe [j])) :
    Ev (M.join (M.ret (.str sep)) (M.map R.d (M.lcB (M.seqI (M.var i)) [j] (gNm j) (M.ret true) (M.b1 (M.cons (M.var j) (M.ret [])) strF)))) w P := by
  refine ev_join (ev_ret ⟨_, rfl, ev_map (ev_lcB (ev_seqI (ev_var e ⟨ds, rfl, ?_⟩)))⟩)
  refine ev_lcMap (g := strD) hl (fun d hd' => ?_) ?_
  · have len : j < (w.wipe [j]).E.length := by show j < (w.E.set j .un).length; rw [List.length_set]; exact hj
    refine ⟨{ w.wipe [j] with E := (w.wipe [j]).E.set j (.val d) }, if_pos len, ev_b1 (ev_cons (ev_var (d := d) ?_ (ev_ret (ev_lift (hd d hd') ⟨rfl, ?_⟩))))⟩
    · exact List.getElem?_set_self len
    · show (⟨((w.E.set j .un).set j (.val d)).set j .un, w.S, w.n⟩ : W) = ⟨w.E.set j .un, w.S, w.n⟩
      rw [List.set_set, List.set_set]
  · refine ev_itemsL ?_
    refine ⟨_, ?_, h⟩
    rw [hs]
    exact joinF_le hb hb2
theorem strF_num {n : Nat} (h : n < 10 ^ 100) : strF [.int n] = some (.str (numStr n)) := by
  unfold strF
  refine if_pos (log_lt (by
    have e : (10 : Nat) ^ 100 < 2 ^ 1920 := by decide
    have : (n : Int).natAbs = n := Int.natAbs_natCast n
    omega))
theorem ev_keyTxt {k : Ky} (hk : k.ok) {w : W} {i j : Nat} {P : D → W → Prop} (e : w.E[i]? = some (.val k.d)) (hj : j < w.E.length) (h : P (.str (keyTxt k)) (w.wipe [j])) :
    Ev (M.join (M.ret (.str " ")) (M.map R.d (M.lcB (M.seqI (M.var i)) [j] (gNm j) (M.ret true) (M.b1 (M.cons (M.var j) (M.ret [])) strF)))) w P := by
  cases k with
  | paste => exact ev_wordsJoin (ts := ["paste"]) (b := 60) e hj rfl (fun d hd => by rw [List.mem_singleton] at hd; rw [hd]; rfl) (by decide) (fun p hp => by rw [List.mem_singleton] at hp; rw [hp]; decide) (by decide) h
  | write s =>
    refine ev_wordsJoin (ts := ["write", s]) (b := 60) e hj rfl (fun d hd => ?_) (show (2 : Nat) ≤ big by decide) (fun p hp => ?_) (show 2 * (60 + (" " : Str).length) ≤ 16777216 by decide) h
    · rcases List.mem_cons.mp hd with rfl | hd
      · rfl
      · rw [List.mem_singleton] at hd; rw [hd]; rfl
    · rcases List.mem_cons.mp hp with rfl | hp
      · decide
      · rw [List.mem_singleton] at hp; rw [hp]; exact hk.2.2
  | cnt m n =>
    refine ev_wordsJoin (ts := [nm m, numStr n]) (b := 60) e hj rfl (fun d hd => ?_) (show (2 : Nat) ≤ big by decide) (fun p hp => ?_) (show 2 * (60 + (" " : Str).length) ≤ 16777216 by decide) h
    · rcases List.mem_cons.mp hd with rfl | hd
      · rfl
      · rw [List.mem_singleton] at hd
        rw [hd]
        exact strF_num (Nat.lt_of_le_of_lt hk.2 (by decide))
    · rcases List.mem_cons.mp hp with rfl | hp
      · exact Nat.le_trans (nm_len m) (by decide)
      · rw [List.mem_singleton] at hp
        rw [hp]
        exact Nat.le_trans (num_len (k := 2) (by decide) (Nat.lt_of_le_of_lt hk.2 (by decide))) (by decide)
theorem handTxt_len (ks : List Ky) (h : HandOk ks) : (handTxt ks).length ≤ 13000 := by
  have h1 := join_len (y := ", ") (ps := ks.map keyTxt) (b := 200) fun p hp => by
    obtain ⟨k, hk, rfl⟩ := List.mem_map.mp hp
    exact keyTxt_len k (h.ok k hk)
  rw [List.length_map] at h1
  have h2 : ks.length * (200 + (", " : Str).length) ≤ 60 * (200 + (", " : Str).length) := Nat.mul_le_mul_right _ h.len
  exact Nat.le_trans h1 (Nat.le_trans h2 (by decide))
theorem handTxt_join (ks : List Ky) (h : HandOk ks) : joinF ", " ((ks.map keyTxt).map D.str) = some (.str (handTxt ks)) := joinF_le (b := 200) (fun p hp => by
    obtain ⟨k, hk, rfl⟩ := List.mem_map.mp hp
    exact keyTxt_len k (h.ok k hk)) (by
    rw [List.length_map]
    exact Nat.le_trans (Nat.mul_le_mul_right _ h.len) (by decide))
theorem p_keys_shown (ks : List Ky) (h : HandOk ks) : Pu f_keys_shown [.lst (ks.map Ky.d)] (.val (.str (handTxt ks))) := pu_of fun S n => by
  have hl : ks.length ≤ big := Nat.le_trans h.len (by decide)
  refine fn_run ?_
  unfold m_keys_shown
  refine ev_retR (ev_map (ev_join (ev_ret ⟨_, rfl, ev_map (ev_lcB (ev_seqI (ev_var rfl ⟨_, rfl, ?_⟩)))⟩)))
  refine ev_lcMap2 (b := fun k => .str (keyTxt k)) hl (fun k hk => ⟨_, rfl, ev_keyTxt (h.ok k hk) rfl (Nat.le_of_ble_eq_true rfl) ⟨rfl, rfl⟩⟩) ?_
  refine ev_itemsL ⟨_, ?_, rfl, rfl, rfl⟩
  rw [← handTxt_join ks h, List.map_map]
  rfl
theorem p_law_key_text (k : Ky) (h : k.ok) : Pu f_law_key_text [k.d] (.val (.str (keyTxt k))) := pu_of fun S n => by
  refine fn_run ?_
  unfold m_law_key_text
  exact ev_retR (ev_map (ev_keyTxt h rfl (Nat.le_of_ble_eq_true rfl) ⟨rfl, rfl, rfl⟩))
theorem p_law_hand_text (ks : List Ky) (h : HandOk ks) : Pu f_law_hand_text [.lst (ks.map Ky.d)] (.val (.str (handTxt ks))) := pu_of fun S n => by
  have hl : ks.length ≤ big := Nat.le_trans h.len (by decide)
  refine fn_run ?_
  unfold m_law_hand_text
  refine ev_retR (ev_map (ev_join (ev_ret ⟨_, rfl, ev_map (ev_lcB (ev_seqI (ev_var rfl ⟨_, rfl, ?_⟩)))⟩)))
  refine ev_lcMap2 (b := fun k => .str (keyTxt k)) hl (fun k hk => ⟨_, rfl, ev_map (ev_callP (ev_cons (ev_var rfl (ev_ret ⟨rfl, _, p_law_key_text k (h.ok k hk), rfl, rfl⟩))))⟩) ?_
  refine ev_itemsL ⟨_, ?_, rfl, rfl, rfl⟩
  rw [← handTxt_join ks h, List.map_map]
  rfl
theorem big30 : (10 : Nat) ^ 30 < 10 ^ 31 := by decide
theorem rowTxt_len (p : Pt) (h : HandOk p.1) (ht : p.2 ≤ 10 ^ 30) : (rowTxt p).length ≤ 14000 ∧ (numStr p.2).length ≤ 31 := by
  have h1 := num_len (n := p.2) (k := 31) (by decide) (Nat.lt_of_le_of_lt ht big30)
  have h2 := handTxt_len p.1 h
  refine ⟨?_, h1⟩
  unfold rowTxt
  have e : ∀ a b : Str, (a ++ b).length = a.length + b.length := fun a b => by rw [TL.len_tl, TL.tl_append, List.length_append, ← TL.len_tl, ← TL.len_tl]
  rw [e, e]
  have : (": " : Str).length = 2 := by decide
  omega
theorem playTxt_join (ps : List Pt) (h : PlayOk ps) : joinF "\n" ((ps.map rowTxt).map D.str) = some (.str (playTxt ps)) := joinF_le (b := 14000) (fun p hp => by
    obtain ⟨k, hk, rfl⟩ := List.mem_map.mp hp
    exact (rowTxt_len k (h.ok k hk).1 (h.ok k hk).2.2).1) (by
    rw [List.length_map]
    exact Nat.le_trans (Nat.mul_le_mul_right _ h.len) (by decide))
theorem str_len_add (a b : Str) : (a ++ b).length = a.length + b.length := by rw [TL.len_tl, TL.tl_append, List.length_append, ← TL.len_tl, ← TL.len_tl]
theorem p_show_play (ps : List Pt) (h : PlayOk ps) : Pu f_show_play [.lst (ps.map Pt.d)] (.val (.str (playTxt ps))) := pu_of fun S n => by
  have hl : ps.length ≤ big := Nat.le_trans h.len (by decide)
  refine fn_run ?_
  unfold m_show_play
  refine ev_retR (ev_map (ev_join (ev_ret ⟨_, rfl, ev_map (ev_lcB (ev_seqI (ev_map (ev_callP (ev_cons (ev_var rfl (ev_ret ⟨rfl, _, p_play_of ps h, _, rfl, ?_⟩)))))))⟩)))
  refine ev_lcMap2 (b := fun p => .str (rowTxt p)) hl (fun p hp => ⟨_, rfl, ?_⟩) ?_
  · obtain ⟨h1, h2, h3⟩ := h.ok p hp
    obtain ⟨q1, q2⟩ := rowTxt_len p h1 h3
    have e2 : (": " : Str).length = 2 := by decide
    refine ev_map (ev_bind2 (ev_map (ev_bind2 (ev_b1 (ev_cons (ev_var rfl (ev_ret (ev_lift (strF_num (Nat.lt_of_le_of_lt h3 (by decide))) (ev_ret ?_)))))))))
    refine ev_addS (by rw [e2]; exact Nat.le_trans (Nat.add_le_add_right q2 _) (by decide)) ?_
    refine ev_map (ev_callP (ev_cons (ev_var rfl (ev_ret ⟨rfl, _, p_keys_shown p.1 h1, ?_⟩))))
    refine ev_addS (Nat.le_trans (Nat.le_of_eq (str_len_add _ _).symm) (Nat.le_trans q1 (by decide))) ⟨rfl, rfl⟩
  refine ev_itemsL ⟨_, ?_, rfl, rfl, rfl⟩
  rw [← playTxt_join ps h, List.map_map]
  rfl
theorem p_law_play_text (ps : List Pt) (h : PlayOk ps) : Pu f_law_play_text [.lst (ps.map Pt.d)] (.val (.str (playTxt ps))) := pu_of fun S n => by
  have hl : ps.length ≤ big := Nat.le_trans h.len (by decide)
  refine fn_run ?_
  unfold m_law_play_text
  refine ev_retR (ev_map (ev_join (ev_ret ⟨_, rfl, ev_map (ev_lcB (ev_seqI (ev_var rfl ⟨_, rfl, ?_⟩)))⟩)))
  refine ev_lcMap2 (b := fun p => .str (rowTxt p)) hl (fun p hp => ⟨_, rfl, ?_⟩) ?_
  · obtain ⟨h1, h2, h3⟩ := h.ok p hp
    obtain ⟨q1, q2⟩ := rowTxt_len p h1 h3
    have e2 : (": " : Str).length = 2 := by decide
    refine ev_map (ev_bind2 (ev_map (ev_bind2 (ev_b1 (ev_cons (ev_var rfl (ev_ret (ev_lift (strF_num (Nat.lt_of_le_of_lt h3 (by decide))) (ev_ret ?_)))))))))
    refine ev_addS (by rw [e2]; exact Nat.le_trans (Nat.add_le_add_right q2 _) (by decide)) ?_
    refine ev_map (ev_callP (ev_cons (ev_var rfl (ev_ret ⟨rfl, _, p_law_hand_text p.1 h1, ?_⟩))))
    refine ev_addS (Nat.le_trans (Nat.le_of_eq (str_len_add _ _).symm) (Nat.le_trans q1 (by decide))) ⟨rfl, rfl⟩
  refine ev_itemsL ⟨_, ?_, rfl, rfl, rfl⟩
  rw [← playTxt_join ps h, List.map_map]
  rfl
theorem p_show_hand (ks : List Ky) (h : HandOk ks) : Pu f_show_hand [.lst (ks.map Ky.d)] (.val (.str (handTxt ks))) := pu_of fun S n => by
  refine fn_run ?_
  unfold m_show_hand
  exact ev_retR (ev_callP (ev_cons (ev_map (ev_callP (ev_cons (ev_var rfl (ev_ret ⟨rfl, _, p_hand_of ks h, ev_ret ⟨rfl, _, p_keys_shown ks h, rfl, rfl, rfl⟩⟩)))))))
end K58

namespace K58
open PySem PySem.Spec PyProof.Rows L2 DL
theorem p_show_handH {S : Nat → Option MObj} {t : D} {xs : List Kd} (hh : Hol S t (xs.map Kd.d)) (h : HandD xs) : PuS f_show_hand [t] S (.val (.str (handTxt (xs.map (·.1))))) := puS_of fun n => by
  refine fn_run ?_
  unfold m_show_hand
  exact ev_retR (ev_callP (ev_cons (ev_map (ev_callS (ev_cons (ev_var rfl (ev_ret ⟨rfl, _, p_hand_ofH hh h, ev_ret ⟨rfl, _, p_keys_shown _ h.ok, rfl, rfl, rfl⟩⟩)))))))
theorem p_show_playB (b : Bool) (qs : List Pd) (h : PlayOk (qs.map Pd.pt)) : Pu f_show_play [seqB b (qs.map Pd.d)] (.val (.str (playTxt (qs.map Pd.pt)))) := pu_of fun S n => by
  have hp := p_play_ofB b qs h
  generalize qs.map Pd.pt = ps at hp h
  have hl : ps.length ≤ big := Nat.le_trans h.len (by decide)
  refine fn_run ?_
  unfold m_show_play
  refine ev_retR (ev_map (ev_join (ev_ret ⟨_, rfl, ev_map (ev_lcB (ev_seqI (ev_map (ev_callP (ev_cons (ev_var rfl (ev_ret ⟨rfl, _, hp, _, rfl, ?_⟩)))))))⟩)))
  refine ev_lcMap2 (b := fun p => .str (rowTxt p)) hl (fun p hp => ⟨_, rfl, ?_⟩) ?_
  · obtain ⟨h1, h2, h3⟩ := h.ok p hp
    obtain ⟨q1, q2⟩ := rowTxt_len p h1 h3
    have e2 : (": " : Str).length = 2 := by decide
    refine ev_map (ev_bind2 (ev_map (ev_bind2 (ev_b1 (ev_cons (ev_var rfl (ev_ret (ev_lift (strF_num (Nat.lt_of_le_of_lt h3 (by decide))) (ev_ret ?_)))))))))
    refine ev_addS (by rw [e2]; exact Nat.le_trans (Nat.add_le_add_right q2 _) (by decide)) ?_
    refine ev_map (ev_callP (ev_cons (ev_var rfl (ev_ret ⟨rfl, _, p_keys_shown p.1 h1, ?_⟩))))
    refine ev_addS (Nat.le_trans (Nat.le_of_eq (str_len_add _ _).symm) (Nat.le_trans q1 (by decide))) ⟨rfl, rfl⟩
  refine ev_itemsL ⟨_, ?_, rfl, rfl, rfl⟩
  rw [← playTxt_join ps h, List.map_map]
  rfl
end K58

namespace K58
open PySem PySem.Spec PyProof.Rows L2 DL
theorem dig_in {c : Nat} (h : 48 ≤ c ∧ c ≤ 57) : D.in? (.str ⟨#[c]⟩) (.str "0123456789") = some true := by
  show (if (#[c] : Array Nat).size = 1 then some (decide ((#[c] : Array Nat).getD 0 0 ∈ ("0123456789" : Str).cps.toList)) else none) = some true
  refine (if_pos (show (#[c] : Array Nat).size = 1 from rfl)).trans ?_
  congr 1
  refine decide_eq_true ?_
  show c ∈ ("0123456789" : Str).cps.toList
  have e : ("0123456789" : Str).cps.toList = [48, 49, 50, 51, 52, 53, 54, 55, 56, 57] := by decide +kernel
  rw [e]
  obtain ⟨h1, h2⟩ := h
  have : c = 48 ∨ c = 49 ∨ c = 50 ∨ c = 51 ∨ c = 52 ∨ c = 53 ∨ c = 54 ∨ c = 55 ∨ c = 56 ∨ c = 57 := by omega
  rcases this with h | h | h | h | h | h | h | h | h | h <;> (rw [h]; decide)
theorem ev_allIn {s z : Str} {w : W} {i j : Nat} {P : D → W → Prop} (e : w.E[i]? = some (.val (.str s))) (hj : j < w.E.length) (hl : s.length ≤ 60000) (hc : ∀ c ∈ s.cps.toList, D.in? (.str ⟨#[c]⟩) (.str z) = some true) (h : P (.bl true) (w.wipe [j])) :
    Ev (M.b1 (M.cons (M.map R.d (M.lcB (M.strI (M.var i)) [j] (gNm j) (M.ret true) (M.map D.bl (cmpM (M.var j) (M.ret (.str z)) D.in?)))) (M.ret [])) (ofList DL.allB)) w P := by
  have len : j < (w.wipe [j]).E.length := by show j < (w.E.set j .un).length; rw [List.length_set]; exact hj
  refine ev_b1 (ev_cons (ev_map (ev_lcB (ev_strI (ev_var e ⟨_, rfl, ?_⟩)))))
  refine ev_lcMap2 (b := fun _ => .bl true) (by rw [Array.length_toList]; exact Nat.le_trans hl (by decide)) (fun c hc' => ⟨{ w.wipe [j] with E := (w.wipe [j]).E.set j (.val (.str ⟨#[c]⟩)) }, if_pos len, ev_map (ev_cmp (ev_var (d := .str ⟨#[c]⟩) (List.getElem?_set_self len) (ev_ret ⟨true, hc c hc', rfl, ?_⟩)))⟩) ?_
  · show (⟨((w.E.set j .un).set j (.val (.str ⟨#[c]⟩))).set j .un, w.S, w.n⟩ : W) = ⟨w.E.set j .un, w.S, w.n⟩
    rw [List.set_set, List.set_set]
  · exact ev_ret (ev_lift (all_true _) h)
theorem numL_head : ∀ n : Nat, n ≠ 0 → ∃ c r, TL.numL n = c :: r ∧ c ≠ 48 := by
  intro n
  induction n using Nat.strongRecOn with
  | ind n ih =>
    intro h
    by_cases c : n < 10
    · exact ⟨48 + n, [], TL.numL_lt c, by omega⟩
    · obtain ⟨d, r, e, q⟩ := ih (n / 10) (by omega) (by omega)
      rw [TL.numL_step (by omega), e]
      exact ⟨d, r ++ [48 + n % 10], rfl, q⟩
theorem tl_numStr (n : Nat) : TL.tl (numStr n) = TL.numL n := TL.tl_num n
theorem num_ne (n : Nat) : decide (numStr n = ("" : Str)) = false := decide_eq_false fun h => by
  have := congrArg TL.tl h
  rw [tl_numStr] at this
  exact TL.numL_ne n (by rw [this]; decide)
theorem p_is_number_text (n : Nat) (h : n < 10 ^ 31) : Pu f_is_number_text [.str (numStr n)] (.val (.bl true)) := pu_of fun S k => by
  have hl := num_len (k := 31) (by decide) h
  refine fn_run ?_
  unfold m_is_number_text
  refine ev_seq (ev_ifS (ev_or (ev_cmp (ev_var rfl (ev_ret ⟨_, rfl, ?_⟩)))))
  rw [num_ne]
  refine ev_condF (ev_not (ev_tru (ev_allIn rfl (Nat.le_of_ble_eq_true rfl) (Nat.le_trans hl (by decide)) (fun c hc => dig_in (TL.numL_digits n c (by rw [← tl_numStr]; exact hc))) ⟨true, rfl, ?_⟩)))
  refine ev_condF (ev_ret (ev_retR (ev_map (ev_vor (ev_map (ev_cmp (ev_var rfl (ev_ret ⟨_, rfl, _, rfl, ?_⟩))))))))
  by_cases c : n = 0
  · subst c
    exact ev_condT (ev_ret ⟨rfl, rfl, rfl⟩)
  · obtain ⟨d, r, e, q⟩ := numL_head n c
    have h0 : decide (numStr n = ("0" : Str)) = false := decide_eq_false fun z => by
      have := congrArg TL.tl z
      rw [tl_numStr, e] at this
      injection this with a b
      exact q a
    rw [h0]
    refine ev_condF (ev_map (ev_cmp (ev_bind2 (ev_var rfl (ev_ret (ev_ixS (c := d) (Nat.le_trans hl (by decide)) ?_ (ev_ret ⟨true, ?_, rfl, rfl, rfl⟩)))))))
    · show L2.atI (TL.tl (numStr n)) (0 : Int) = some d
      rw [tl_numStr, e]
      exact atI_nat (ds := d :: r) (p := 0) (Nat.succ_pos _)
    · show some (!decide ((⟨#[d]⟩ : Str) = "0")) = some true
      rw [decide_eq_false fun z => ?_]
      · rfl
      · have := congrArg TL.tl z
        have e2 : TL.tl ("0" : Str) = [48] := by decide
        rw [e2] at this
        injection this with a b
        exact q a
theorem p_is_word_text (s : Str) (h : Wd s) (h1 : 1 ≤ s.length) (h2 : s.length ≤ 60) : Pu f_is_word_text [.str s] (.val (.bl true)) := pu_of fun S k => by
  have h0 : decide (s = ("" : Str)) = false := decide_eq_false fun z => by
    rw [z] at h1
    exact absurd h1 (by decide)
  refine fn_run ?_
  unfold m_is_word_text
  refine ev_retR (ev_map (ev_vand (ev_map (ev_cmp (ev_var rfl (ev_ret ⟨_, rfl, _, rfl, ?_⟩))))))
  rw [h0]
  exact ev_condT (ev_allIn rfl (Nat.le_of_ble_eq_true rfl) (Nat.le_trans h2 (by decide)) (fun c hc => low_in (h c hc)) ⟨rfl, rfl, rfl⟩)
theorem join2 (y a b : Str) : Txt.join y [a, b] = a ++ y ++ b := TL.ext_tl (by
  rw [TL.join_eq, TL.tl_join, TL.tl_append, TL.tl_append]
  show TL.tl a ++ (TL.tl y ++ TL.tl b) = _
  rw [List.append_assoc])
theorem blank_tl : TL.tl (" " : Str) = [32] := by decide
theorem nm_tl (i : Fin 6) : (32 : Nat) ∉ TL.tl (nm i) := nm_cases (fun z => (32 : Nat) ∉ TL.tl z) (by decide) (by decide) (by decide) (by decide) (by decide) (by decide) i
theorem not_paste {a b : Str} : decide (a ++ " " ++ b = ("paste" : Str)) = false := decide_eq_false fun z => by
  have := congrArg TL.tl z
  rw [TL.tl_append, TL.tl_append, blank_tl] at this
  have h : (32 : Nat) ∈ TL.tl ("paste" : Str) := by rw [← this]; simp
  exact absurd h (by decide)
theorem int_of_num (n : Nat) (h : n < 10 ^ 31) : intF [.str (numStr n)] = some (.int n) := by
  have hl := num_len (k := 31) (by decide) h
  have h2 : (TL.numL n).length ≤ 4300 := by
    rw [TL.len_tl, tl_numStr] at hl
    omega
  show (if (numStr n).length ≤ 640 then (PySem.intText? (numStr n)).map D.int else none) = _
  rw [if_pos (by omega), show PySem.intText? (numStr n) = some (n : Int) from TL.int_num h2]
  rfl
theorem part_blank {a b : Str} (h : (32 : Nat) ∉ TL.tl a) (hl : (a ++ " " ++ b).length ≤ 200) : partF (a ++ " " ++ b) (.str " ") = some (.tup [.str a, .str " ", .str b]) := by
  show (if (" " : Str).length ≠ 0 ∧ (a ++ " " ++ b).length ≤ big then some (D.tup [.str (Txt.partition (a ++ " " ++ b) " ").1, .str (Txt.partition (a ++ " " ++ b) " ").2.1, .str (Txt.partition (a ++ " " ++ b) " ").2.2]) else none) = _
  rw [if_pos ⟨by decide, Nat.le_trans hl (by decide)⟩, TL.partition_app blank_tl h]
theorem p_key_in (k : Ky) (h : k.ok) : Pu f_key_in [.str (keyTxt k)] (.val k.d) := by
  have hl := keyTxt_len k h
  cases k with
  | paste =>
    have e : keyTxt .paste = "paste" := by decide +kernel
    rw [e]
    exact fun _ _ => rfl
  | write s =>
    obtain ⟨h1, h2, h3⟩ := h
    refine pu_of fun S n => ?_
    have e : keyTxt (.write s) = "write" ++ " " ++ s := join2 _ _ _
    rw [e] at hl ⊢
    refine fn_run ?_
    unfold m_key_in
    refine ev_seq (ev_ifS (ev_cmp (ev_var rfl (ev_ret ⟨_, rfl, ?_⟩))))
    rw [not_paste]
    refine ev_condF (ev_ret (ev_seq (ev_asgG (ev_partition (ev_var rfl ⟨_, rfl, ev_ret ⟨_, part_blank (by decide) hl, _, rfl, ?_⟩⟩)))))
    and_intros
    refine ⟨rfl, _, _, _, p_is_word_text s h1 h2 h3 _ _, ?_⟩
    and_intros
    exact ⟨rfl, rfl, rfl⟩
  | cnt i m =>
    obtain ⟨h1, h2⟩ := h
    have hm : m < 10 ^ 31 := Nat.lt_of_le_of_lt h2 (by decide)
    have e : keyTxt (.cnt i m) = nm i ++ " " ++ numStr m := join2 _ _ _
    rw [e] at hl ⊢
    show Pu f_key_in _ (.val (.tup [.str (nm i), .int m]))
    have hb := nm_tl i
    revert hl hb
    refine nm_cases (fun z => (z ++ " " ++ numStr m).length ≤ 200 → (32 : Nat) ∉ TL.tl z → Pu f_key_in [.str (z ++ " " ++ numStr m)] (.val (.tup [.str z, .int m]))) ?_ ?_ ?_ ?_ ?_ ?_ i <;>
    · intro hl hb
      refine pu_of fun S n => ?_
      refine fn_run ?_
      unfold m_key_in
      refine ev_seq (ev_ifS (ev_cmp (ev_var rfl (ev_ret ⟨_, rfl, ?_⟩))))
      rw [not_paste]
      refine ev_condF (ev_ret (ev_seq (ev_asgG (ev_partition (ev_var rfl ⟨_, rfl, ev_ret ⟨_, part_blank hb hl, _, rfl, ?_⟩⟩)))))
      and_intros
      refine ⟨rfl, _, _, _, p_is_number_text m hm _ _, ?_⟩
      and_intros
      refine ev_lift (int_of_num m hm) ?_
      and_intros
      exact ⟨rfl, rfl, rfl⟩
end K58

namespace K58
open PySem PySem.Spec PyProof.Rows L2 DL
def Ky.py : Ky → PyData
  | .paste => .tuple [.str "paste"]
  | .write s => .tuple [.str "write", .str s]
  | .cnt i n => .tuple [.str (nm i), .int n]
theorem py_key (k : Ky) : k.d.py = some k.py := by cases k <;> rfl
theorem pys_keys : ∀ ks : List Ky, D.pys (ks.map Ky.d) = some (ks.map Ky.py)
  | [] => rfl
  | k :: r => by
    show D.pys (k.d :: r.map Ky.d) = _
    unfold D.pys
    rw [py_key, pys_keys r]
    rfl
theorem strOk_wd {s : Str} (h : Wd s) : PySem.PyData.strOk s = true := by
  unfold PySem.PyData.strOk
  rw [Array.all_eq_true_iff_forall_mem]
  intro c hc
  have := h c (Array.mem_toList_iff.mpr hc)
  exact decide_eq_true (Nat.lt_trans this.2 (by decide))
theorem strOk_nm (i : Fin 6) : PySem.PyData.strOk (nm i) = true := nm_cases (fun z => PySem.PyData.strOk z = true) (by decide +kernel) (by decide +kernel) (by decide +kernel) (by decide +kernel) (by decide +kernel) (by decide +kernel) i
theorem lay_key (k : Ky) (h : k.ok) : k.py.canLay0 = true ∧ k.py.depth ≤ 3 := by
  have e1 : PySem.PyData.strOk "paste" = true := by decide +kernel
  have e2 : PySem.PyData.strOk "write" = true := by decide +kernel
  cases k with
  | paste => exact ⟨by simp only [Ky.py, PyData.canLay0, PyData.canLayAll0, e1, Bool.and_self], by simp only [Ky.py, PyData.depth, PyData.depthAll]; omega⟩
  | write s =>
    have e := strOk_wd h.1
    exact ⟨by simp only [Ky.py, PyData.canLay0, PyData.canLayAll0, e, e2, Bool.and_self], by simp only [Ky.py, PyData.depth, PyData.depthAll]; omega⟩
  | cnt i n =>
    have e := strOk_nm i
    exact ⟨by simp only [Ky.py, PyData.canLay0, PyData.canLayAll0, e, Bool.and_self], by simp only [Ky.py, PyData.depth, PyData.depthAll]; omega⟩
theorem lay_keys : ∀ ks : List Ky, (∀ k ∈ ks, k.ok) → PyData.canLayAll0 (ks.map Ky.py) = true ∧ PyData.depthAll (ks.map Ky.py) ≤ 3
  | [], _ => ⟨rfl, by decide⟩
  | k :: r, h => by
    obtain ⟨a, b⟩ := lay_keys r fun x hx => h x (List.mem_cons_of_mem _ hx)
    obtain ⟨c, d⟩ := lay_key k (h k (List.mem_cons_self ..))
    refine ⟨?_, ?_⟩
    · show (k.py.canLay0 && PyData.canLayAll0 (r.map Ky.py)) = true
      rw [c, a]
      rfl
    · show PyData.depthAll (k.py :: r.map Ky.py) ≤ 3
      unfold PyData.depthAll
      exact Nat.max_le.mpr ⟨d, b⟩
theorem none_in (ks : List Ky) (h : ∀ k ∈ ks, k.ok) (hne : ks ≠ []) : D.in? .non (.lst (ks.map Ky.d)) = some false := by
  cases ks with
  | nil => exact absurd rfl hne
  | cons k r =>
    have hf : (((k :: r).map Ky.d).all D.flat) = false := by
      show (k.d.flat && (r.map Ky.d).all D.flat) = false
      cases k <;> rfl
    have e : D.in? .non (.lst ((k :: r).map Ky.d)) = if D.flat .non = true ∧ ((k :: r).map Ky.d).all D.flat = true then some (((k :: r).map Ky.d).any fun y => D.eqF y .non) else (match D.py .non, D.pys ((k :: r).map Ky.d) with
      | some p, some ps => if SeqAt.shaped p = true ∧ SeqAt.shaped (.list ps) = true then some (ps.any fun z => PyData.eqv z p) else none
      | _, _ => none) := by
      rfl
    rw [e, if_neg (by rw [hf]; simp), pys_keys]
    obtain ⟨a, b⟩ := lay_keys (k :: r) h
    have sh : SeqAt.shaped (.list ((k :: r).map Ky.py)) = true := by
      unfold SeqAt.shaped
      rw [Bool.and_eq_true]
      refine ⟨a, decide_eq_true ?_⟩
      unfold PyData.depth
      omega
    show (if SeqAt.shaped .none = true ∧ SeqAt.shaped (.list ((k :: r).map Ky.py)) = true then some (((k :: r).map Ky.py).any fun z => PyData.eqv z .none) else none) = some false
    rw [if_pos ⟨by decide, sh⟩]
    congr 1
    rw [List.any_eq_false]
    intro x hx
    obtain ⟨y, _, rfl⟩ := List.mem_map.mp hx
    cases y <;> simp [Ky.py, PyData.eqv]
theorem key_signs (k : Ky) (h : k.ok) : ∀ c ∈ TL.tl (keyTxt k), c = 32 ∨ (48 ≤ c ∧ c ≤ 57) ∨ Low c := by
  have lows : ∀ s : Str, (∀ c ∈ TL.tl s, Low c) → ∀ c ∈ TL.tl s, c = 32 ∨ (48 ≤ c ∧ c ≤ 57) ∨ Low c := fun s q c hc => .inr (.inr (q c hc))
  have words : ∀ a b : Str, (∀ c ∈ TL.tl a, c = 32 ∨ (48 ≤ c ∧ c ≤ 57) ∨ Low c) → (∀ c ∈ TL.tl b, c = 32 ∨ (48 ≤ c ∧ c ≤ 57) ∨ Low c) → ∀ c ∈ TL.tl (a ++ " " ++ b), c = 32 ∨ (48 ≤ c ∧ c ≤ 57) ∨ Low c := fun a b p q c hc => by
    rw [TL.tl_append, TL.tl_append, blank_tl] at hc
    rcases List.mem_append.mp hc with hc | hc
    · rcases List.mem_append.mp hc with hc | hc
      · exact p c hc
      · exact .inl (List.mem_singleton.mp hc)
    · exact q c hc
  cases k with
  | paste =>
    have e : keyTxt .paste = "paste" := by decide +kernel
    rw [e]
    exact lows _ (by unfold Low; decide)
  | write s =>
    rw [show keyTxt (.write s) = "write" ++ " " ++ s from join2 _ _ _]
    exact words _ _ (lows _ (by unfold Low; decide)) (lows _ h.1)
  | cnt i m =>
    rw [show keyTxt (.cnt i m) = nm i ++ " " ++ numStr m from join2 _ _ _]
    refine words _ _ (lows _ (nm_cases (fun z => ∀ c ∈ TL.tl z, Low c) ?_ ?_ ?_ ?_ ?_ ?_ i)) (fun c hc => .inr (.inl (TL.numL_digits m c (by rw [← tl_numStr]; exact hc))))
    all_goals (unfold Low; decide)
theorem key_free (k : Ky) (h : k.ok) {s : Nat} (h1 : s = 44 ∨ s = 58 ∨ s = 10) : s ∉ TL.tl (keyTxt k) := fun hc => by
  have q := key_signs k h s hc
  unfold Low at q
  omega
theorem key_ne (k : Ky) (h : k.ok) : TL.tl (keyTxt k) ≠ [] := by
  have w2 : ∀ a b : Str, TL.tl (a ++ " " ++ b) ≠ [] := fun a b q => by
    rw [TL.tl_append, TL.tl_append, blank_tl] at q
    simp at q
  cases k with
  | paste =>
    have e : keyTxt .paste = "paste" := by decide +kernel
    rw [e]
    decide
  | write s => rw [show keyTxt (.write s) = "write" ++ " " ++ s from join2 _ _ _]; exact w2 _ _
  | cnt i m => rw [show keyTxt (.cnt i m) = nm i ++ " " ++ numStr m from join2 _ _ _]; exact w2 _ _
theorem joinL_ne {S : List Nat} : ∀ {ps : List (List Nat)}, ps ≠ [] → (∀ p ∈ ps, p ≠ []) → TL.joinL S ps ≠ []
  | [], h, _ => absurd rfl h
  | [p], _, h => h p (List.mem_cons_self ..)
  | p :: q :: r, _, h => fun z => by
    have : p ++ (S ++ TL.joinL S (q :: r)) = [] := z
    exact h p (List.mem_cons_self ..) (List.append_eq_nil_iff.mp this).1
theorem joinL_signs {S : List Nat} (P : Nat → Prop) (hS : ∀ c ∈ S, P c) : ∀ {ps : List (List Nat)}, (∀ p ∈ ps, ∀ c ∈ p, P c) → ∀ c ∈ TL.joinL S ps, P c
  | [], _, c, hc => by cases hc
  | [p], h, c, hc => h p (List.mem_cons_self ..) c hc
  | p :: q :: r, h, c, hc => by
    have hc : c ∈ p ++ (S ++ TL.joinL S (q :: r)) := hc
    rcases List.mem_append.mp hc with k | k
    · exact h p (List.mem_cons_self ..) c k
    · rcases List.mem_append.mp k with k | k
      · exact hS c k
      · exact joinL_signs P hS (fun x hx => h x (List.mem_cons_of_mem _ hx)) c k
theorem hand_tl (ks : List Ky) : TL.tl (handTxt ks) = TL.joinL [44, 32] (ks.map fun k => TL.tl (keyTxt k)) := by
  unfold handTxt
  rw [TL.join_eq, TL.tl_join, List.map_map]
  have e : TL.tl (", " : Str) = [44, 32] := by decide
  rw [e]
  rfl
theorem hand_ne (ks : List Ky) (h : HandOk ks) (hne : ks ≠ []) : decide (handTxt ks = ("" : Str)) = false := decide_eq_false fun z => by
  have z2 := congrArg TL.tl z
  rw [hand_tl] at z2
  have e0 : TL.tl ("" : Str) = [] := by decide
  rw [e0] at z2
  refine joinL_ne (fun q => hne (List.map_eq_nil_iff.mp q)) (fun p hp => ?_) z2
  obtain ⟨k, hk, rfl⟩ := List.mem_map.mp hp
  exact key_ne k (h.ok k hk)
theorem hand_free (ks : List Ky) (h : HandOk ks) {s : Nat} (h1 : s = 58 ∨ s = 10) : s ∉ TL.tl (handTxt ks) := fun hc => by
  rw [hand_tl] at hc
  have := joinL_signs (S := [44, 32]) (fun c => c ≠ 58 ∧ c ≠ 10) (by decide) (ps := ks.map fun k => TL.tl (keyTxt k)) (fun p hp c hc => by
    obtain ⟨k, hk, rfl⟩ := List.mem_map.mp hp
    have q := key_signs k (h.ok k hk) c hc
    unfold Low at q
    omega) s hc
  omega
theorem split_hand (ks : List Ky) (h : HandOk ks) (hne : ks ≠ []) : splitF (handTxt ks) (.str ", ") = some (.own (ks.map fun k => .str (keyTxt k))) := by
  have hl := handTxt_len ks h
  show (if (", " : Str).length ≠ 0 ∧ (handTxt ks).length + 2 ≤ big then some (R.own ((Txt.split (handTxt ks) ", ").map D.str)) else none) = _
  rw [if_pos ⟨by decide, Nat.le_trans (Nat.add_le_add_right hl 2) (by decide)⟩]
  unfold handTxt
  rw [TL.split_join (s := 44) (S := [32]) (by decide) (by decide +kernel) (fun q => hne (List.map_eq_nil_iff.mp q)) (fun p hp => by
    obtain ⟨k, hk, rfl⟩ := List.mem_map.mp hp
    exact key_free k (h.ok k hk) (.inl rfl)), List.map_map]
  rfl
theorem p_keys_in1 (ks : List Ky) (h : HandOk ks) (hne : ks ≠ []) : Pu f_keys_in [.str (handTxt ks)] (.val (.lst (ks.map Ky.d))) := pu_of fun S n => by
  have hl : ks.length ≤ big := Nat.le_trans h.len (by decide)
  refine fn_run ?_
  unfold m_keys_in
  refine ev_seq (ev_ifS (ev_cmp (ev_var rfl (ev_ret ⟨_, rfl, ?_⟩))))
  rw [hand_ne ks h hne]
  refine ev_condF (ev_ret (ev_seq (ev_asg (ev_lcB (ev_seqI (ev_map (ev_split (ev_var rfl ⟨_, rfl, ev_ret ⟨_, split_hand ks h hne, _, rfl, ?_⟩⟩))))))))
  refine ev_lcMap2 (b := Ky.d) hl (fun k hk => ⟨_, rfl, ev_map (ev_callP (ev_cons (ev_var rfl (ev_ret ⟨rfl, _, p_key_in k (h.ok k hk), rfl, rfl⟩))))⟩) ⟨Nat.le_of_ble_eq_true rfl, ?_⟩
  refine ev_retR (ev_map (ev_ite (ev_cmp (ev_ret (ev_varO rfl ⟨_, none_in ks h.ok hne, ?_⟩)))))
  exact ev_condF (ev_var rfl ⟨rfl, rfl, rfl⟩)
/-- what keys_in gives: a new list where there is no key -/
def keysR : List Ky → R
  | [] => .own []
  | k :: r => .val (.lst ((k :: r).map Ky.d))
theorem keysR_d (ks : List Ky) : (keysR ks).d = .lst (ks.map Ky.d) := by cases ks <;> rfl
theorem p_keys_in (ks : List Ky) (h : HandOk ks) : Pu f_keys_in [.str (handTxt ks)] (keysR ks) := by
  cases ks with
  | nil =>
    have e : handTxt [] = "" := by decide +kernel
    rw [e]
    exact fun _ _ => rfl
  | cons k r => exact p_keys_in1 (k :: r) h (by simp)
/-- a slot that holds a result, read -/
theorem ev_varR {i : Nat} {r : R} {w : W} {P : D → W → Prop} (e : w.E[i]? = some r.slot) (h : P r.d { w with E := w.E.set i (.val r.d) }) : Ev (M.var i) w P := by
  cases r with
  | own ds => exact ev_varO e h
  | val d =>
    refine ev_var e ?_
    have e2 : w.E.set i (.val d) = w.E := by
      apply List.ext_getElem?
      intro j
      by_cases c : i = j
      · subst c
        rw [List.getElem?_set_self', e]
        rfl
      · rw [List.getElem?_set_ne c]
    have h2 : P d { w with E := w.E.set i (.val d) } := h
    rw [e2] at h2
    exact h2
theorem p_need_plain (s : Str) : Pu f_need_plain [.str s] (.val .non) := fun _ _ => rfl
theorem p_read_hand (ks : List Ky) (h : HandOk ks) : Pu f_read_hand [.str (handTxt ks)] (.own (ks.map Ky.d)) := pu_of fun S n => by
  refine fn_run ?_
  unfold m_read_hand
  refine ev_seq (ev_drop (ev_map (ev_callP (ev_cons (ev_var rfl (ev_ret ⟨rfl, _, p_need_plain _, ?_⟩))))))
  refine ev_seq (ev_asg (ev_callP (ev_cons (ev_var rfl (ev_ret ⟨rfl, _, p_keys_in ks h, Nat.le_of_ble_eq_true rfl, ?_⟩)))))
  refine ev_seq (ev_ifS (ev_cmp (ev_varR (r := keysR ks) rfl (ev_ret ?_))))
  rw [keysR_d]
  refine ⟨false, rfl, ev_condF (ev_ret ?_)⟩
  exact ev_retR (ev_callP (ev_cons (ev_var rfl (ev_ret ⟨rfl, _, p_hand_of ks h, rfl, rfl, rfl⟩))))
theorem part_row (p : Pt) (h : HandOk p.1) (ht : p.2 ≤ 10 ^ 30) : partF (rowTxt p) (.str ": ") = some (.tup [.str (numStr p.2), .str ": ", .str (handTxt p.1)]) := by
  have hl := (rowTxt_len p h ht).1
  have hn : (58 : Nat) ∉ TL.tl (numStr p.2) := by
    rw [tl_numStr]
    exact TL.numL_free (.inr (by decide))
  show (if (": " : Str).length ≠ 0 ∧ (rowTxt p).length ≤ big then some (D.tup [.str (Txt.partition (rowTxt p) ": ").1, .str (Txt.partition (rowTxt p) ": ").2.1, .str (Txt.partition (rowTxt p) ": ").2.2]) else none) = _
  rw [if_pos ⟨by decide, Nat.le_trans hl (by decide)⟩]
  unfold rowTxt
  rw [TL.partition_app (s := 58) (S := [32]) (by decide) hn]
theorem p_part_in (p : Pt) (h : HandOk p.1) (ht : p.2 ≤ 10 ^ 30) : Pu f_part_in [.str (rowTxt p)] (.val p.d) := pu_of fun S n => by
  have hn : p.2 < 10 ^ 31 := Nat.lt_of_le_of_lt ht big30
  refine fn_run ?_
  unfold m_part_in
  refine ev_seq (ev_asgG (ev_partition (ev_var rfl ⟨_, rfl, ev_ret ⟨_, part_row p h ht, _, rfl, ?_⟩⟩)))
  refine ev_seq (ev_asg (ev_callP (ev_cons (ev_var rfl (ev_ret ⟨rfl, _, p_keys_in p.1 h, Nat.le_of_ble_eq_true rfl, ?_⟩)))))
  refine ev_seq (ev_ifS (ev_or (ev_cmp (ev_var rfl (ev_ret ⟨false, rfl, ?_⟩)))))
  refine ev_condF (ev_or (ev_not (ev_tru (ev_map (ev_callP (ev_cons (ev_var rfl (ev_ret ⟨rfl, _, p_is_number_text p.2 hn, true, rfl, ?_⟩))))))))
  refine ev_condF (ev_cmp (ev_varR (r := keysR p.1) rfl (ev_ret ?_)))
  rw [keysR_d]
  refine ⟨false, rfl, ev_condF (ev_ret ?_)⟩
  exact ev_retR (ev_map (ev_tup (ev_cons (ev_var rfl (ev_cons (ev_b1 (ev_cons (ev_var rfl (ev_ret (ev_lift (int_of_num p.2 hn) (ev_ret ⟨show (2 : Nat) ≤ big by decide, rfl, rfl, rfl⟩)))))))))))
end K58

namespace K58
open PySem PySem.Spec PyProof.Rows L2 DL
theorem foldl_len (q : Nat) : ∀ (l : List Nat) (n : Nat), (∀ c ∈ l, c < 16 ^ 8) → l.foldl (fun n c => n + (Builtin.Str.reprChar q c).length) n ≤ n + 10 * l.length
  | [], n, _ => Nat.le_refl _
  | c :: r, n, h => by
    have h1 := StrLaws.reprChar_len q c (h c (List.mem_cons_self ..))
    have h2 := foldl_len q r (n + (Builtin.Str.reprChar q c).length) fun x hx => h x (List.mem_cons_of_mem _ hx)
    rw [List.foldl_cons, List.length_cons]
    omega
theorem repr_len {x : Str} (h : ∀ c ∈ x.cps.toList, c < 16 ^ 8) : (reprText x).length ≤ 2 + 10 * x.length := by
  rw [← reprLen_eq, ← Array.foldl_toList]
  have := foldl_len (reprQuote x) x.cps.toList 2 h
  rw [Array.length_toList] at this
  exact this
theorem textFrom_le : ∀ (ts : List Str) (k : Nat) (acc : Str), (textFrom k acc ts).length ≤ acc.length + piled ts
  | [], k, acc => Nat.le_refl _
  | t :: r, k, acc => by
    have ih := textFrom_le r (k + 1) (acc ++ (if k > 0 then ", " else "" : String) ++ t)
    rw [strLen_append, strLen_append] at ih
    have e : (((if k > 0 then ", " else "" : String)) : Str).length ≤ 2 := by split <;> decide
    rw [piled_cons]
    show (textFrom (k + 1) _ r).length ≤ _
    omega
theorem listText_le (ts : List Str) : (listText ts).length ≤ piled ts + 2 := by
  have := textFrom_le ts 0 "["
  have e1 : ("[" : Str).length = 1 := by decide
  have e2 : ("]" : Str).length = 1 := by decide
  unfold listText
  rw [strLen_append]
  omega
theorem tupleText_le (ts : List Str) (h : ts ≠ []) : (tupleText ts).length ≤ piled ts + 1 := by
  have := join_length_add ts h
  have e1 : ("(" : Str).length = 1 := by decide
  have e2 : (((if ts.length == 1 then ",)" else ")" : String)) : Str).length ≤ 2 := by split <;> decide
  unfold tupleText
  rw [strLen_append, strLen_append]
  omega
theorem shownAll_map : ∀ xs : List PyData, PyData.shownAll xs = xs.map PyData.shown
  | [] => rfl
  | x :: r => by
    show PyData.shown x :: PyData.shownAll r = _
    rw [shownAll_map r]
    rfl
theorem piled_le (b : Nat) : ∀ ts : List Str, (∀ t ∈ ts, t.length ≤ b) → piled ts ≤ ts.length * (b + 2)
  | [], _ => Nat.zero_le _
  | t :: r, h => by
    have h1 := h t (List.mem_cons_self ..)
    have h2 := piled_le b r fun x hx => h x (List.mem_cons_of_mem _ hx)
    rw [piled_cons, List.length_cons, Nat.succ_mul]
    omega
theorem num_shown (n : Nat) : PyData.shown (.int n) = numStr n := rfl
theorem key_shown (k : Ky) (h : k.ok) : k.py.shown.length ≤ 700 ∧ k.py.showable = true := by
  have lows : ∀ s : Str, s.length ≤ 60 → (∀ c ∈ TL.tl s, c < 16 ^ 8) → (PyData.shown (.str s)).length ≤ 602 := fun s h1 h2 => by
    have := repr_len (x := s) h2
    show (reprText s).length ≤ 602
    omega
  have two : ∀ a b : PyData, a.shown.length ≤ 62 → b.shown.length ≤ 602 → (PyData.tuple [a, b]).shown.length ≤ 700 := fun a b h1 h2 => by
    have := tupleText_le [a.shown, b.shown] (by simp)
    rw [piled_cons, piled_cons, piled_nil] at this
    show (tupleText [a.shown, b.shown]).length ≤ 700
    omega
  have nmS : ∀ i, (PyData.shown (.str (nm i))).length ≤ 62 := fun i => by
    have h1 := repr_len (x := nm i) (nm_cases (fun z => ∀ c ∈ z.cps.toList, c < 16 ^ 8) (by decide) (by decide) (by decide) (by decide) (by decide) (by decide) i)
    have h2 := nm_len i
    show (reprText (nm i)).length ≤ 62
    omega
  cases k with
  | paste => exact ⟨by decide +kernel, by decide +kernel⟩
  | write s =>
    refine ⟨two _ _ (by decide +kernel) (lows s h.2.2 fun c hc => Nat.lt_trans (h.1 c hc).2 (by decide)), ?_⟩
    show (PyData.showable (.str "write") && (PyData.showable (.str s) && true)) = true
    rfl
  | cnt i n =>
    have h1 := num_len (n := n) (k := 2) (by decide) (Nat.lt_of_le_of_lt h.2 (by decide))
    refine ⟨two _ _ (nmS i) (by rw [num_shown]; omega), ?_⟩
    have e : decide ((n : Int).natAbs.log2 < 1920) = true := decide_eq_true (log_lt (by
      rw [Int.natAbs_natCast]
      exact Nat.lt_of_le_of_lt h.2 (by decide)))
    show (PyData.showable (.str (nm i)) && (decide ((n : Int).natAbs.log2 < 1920) && true)) = true
    rw [e]
    rfl
theorem showableAll_of : ∀ xs : List PyData, (∀ x ∈ xs, x.showable = true) → PyData.showableAll xs = true
  | [], _ => rfl
  | x :: r, h => by
    show (x.showable && PyData.showableAll r) = true
    rw [h x (List.mem_cons_self ..), showableAll_of r fun y hy => h y (List.mem_cons_of_mem _ hy)]
    rfl
theorem depthAll_of (b : Nat) : ∀ xs : List PyData, (∀ x ∈ xs, x.depth ≤ b) → PyData.depthAll xs ≤ b
  | [], _ => by simp only [PyData.depthAll]; omega
  | x :: r, h => by
    simp only [PyData.depthAll]
    exact Nat.max_le.mpr ⟨h x (List.mem_cons_self ..), depthAll_of b r fun y hy => h y (List.mem_cons_of_mem _ hy)⟩
theorem list_shown {xs : List PyData} {b n : Nat} (hn : xs.length ≤ n) (h : ∀ x ∈ xs, x.shown.length ≤ b) : (PyData.list xs).shown.length ≤ n * (b + 2) + 2 := by
  show (listText (PyData.shownAll xs)).length ≤ _
  rw [shownAll_map]
  have h1 := listText_le (xs.map PyData.shown)
  have h2 := piled_le b (xs.map PyData.shown) fun t ht => by
    obtain ⟨x, hx, rfl⟩ := List.mem_map.mp ht
    exact h x hx
  rw [List.length_map] at h2
  have h3 := Nat.mul_le_mul_right (b + 2) hn
  omega
theorem hand_shown (ks : List Ky) (h : HandOk ks) : (PyData.list (ks.map Ky.py)).shown.length ≤ 43000 ∧ (PyData.list (ks.map Ky.py)).showable = true ∧ (PyData.list (ks.map Ky.py)).depth ≤ 4 := by
  refine ⟨?_, ?_, ?_⟩
  · have := list_shown (xs := ks.map Ky.py) (b := 700) (n := 60) (by rw [List.length_map]; exact h.len) fun x hx => by
      obtain ⟨k, hk, rfl⟩ := List.mem_map.mp hx
      exact (key_shown k (h.ok k hk)).1
    omega
  · exact showableAll_of _ fun x hx => by
      obtain ⟨k, hk, rfl⟩ := List.mem_map.mp hx
      exact (key_shown k (h.ok k hk)).2
  · have := (lay_keys ks h.ok).2
    simp only [PyData.depth]
    omega
def Pt.py (p : Pt) : PyData := .tuple [.list (p.1.map Ky.py), .int p.2]
theorem part_shown (p : Pt) (h : HandOk p.1) (ht : p.2 ≤ 10 ^ 30) : (Pt.py p).shown.length ≤ 44000 ∧ (Pt.py p).showable = true ∧ (Pt.py p).depth ≤ 6 := by
  obtain ⟨h1, h2, h3⟩ := hand_shown p.1 h
  have hn := num_len (n := p.2) (k := 31) (by decide) (Nat.lt_of_le_of_lt ht big30)
  refine ⟨?_, ?_, ?_⟩
  · have := tupleText_le [(PyData.list (p.1.map Ky.py)).shown, numStr p.2] (by simp)
    rw [piled_cons, piled_cons, piled_nil] at this
    show (tupleText [(PyData.list (p.1.map Ky.py)).shown, numStr p.2]).length ≤ 44000
    omega
  · have e : decide ((p.2 : Int).natAbs.log2 < 1920) = true := decide_eq_true (log_lt (by
      rw [Int.natAbs_natCast]
      exact Nat.lt_of_le_of_lt ht (by decide)))
    show ((PyData.list (p.1.map Ky.py)).showable && (decide ((p.2 : Int).natAbs.log2 < 1920) && true)) = true
    rw [h2, e]
    rfl
  · unfold Pt.py
    simp only [PyData.depth, PyData.depthAll] at h3 ⊢
    omega
theorem play_shown (ps : List Pt) (h : PlayOk ps) : reprOk (.list (ps.map Pt.py)) := by
  have q := fun p hp => part_shown p (h.ok p hp).1 (h.ok p hp).2.2
  refine ⟨?_, ?_, ?_⟩
  · exact showableAll_of _ fun x hx => by
      obtain ⟨p, hp, rfl⟩ := List.mem_map.mp hx
      exact (q p hp).2.1
  · have := depthAll_of 6 (ps.map Pt.py) fun x hx => by
      obtain ⟨p, hp, rfl⟩ := List.mem_map.mp hx
      exact (q p hp).2.2
    simp only [PyData.depth]
    omega
  · have := list_shown (xs := ps.map Pt.py) (b := 44000) (n := 12) (by rw [List.length_map]; exact h.len) fun x hx => by
      obtain ⟨p, hp, rfl⟩ := List.mem_map.mp hx
      exact (q p hp).1
    exact Nat.le_trans this (by decide)
theorem pyd_key (k : Ky) : k.d.pyd = some k.py := by cases k <;> rfl
theorem pyds_keys : ∀ ks : List Ky, D.pyds (ks.map Ky.d) = some (ks.map Ky.py)
  | [] => rfl
  | k :: r => by
    show D.pyds (k.d :: r.map Ky.d) = _
    unfold D.pyds
    rw [pyd_key, pyds_keys r]
    rfl
theorem pyd_hand (ks : List Ky) : D.pyd (.lst (ks.map Ky.d)) = some (.list (ks.map Ky.py)) := by
  unfold D.pyd
  rw [pyds_keys]
  rfl
theorem pyd_part (p : Pt) : D.pyd (Pt.d p) = some (Pt.py p) := by
  show (D.pyds [.lst (p.1.map Ky.d), .int p.2]).map PyData.tuple = _
  unfold D.pyds
  rw [pyd_hand]
  rfl
theorem pyds_play : ∀ ps : List Pt, D.pyds (ps.map Pt.d) = some (ps.map Pt.py)
  | [] => rfl
  | p :: r => by
    show D.pyds (Pt.d p :: r.map Pt.d) = _
    unfold D.pyds
    rw [pyd_part, pyds_play r]
    rfl
theorem repr_play (ps : List Pt) (h : PlayOk ps) : reprF [.lst (ps.map Pt.d)] = some (.str (PyData.list (ps.map Pt.py)).shown) := by
  unfold reprF
  have e : D.pyd (.lst (ps.map Pt.d)) = some (.list (ps.map Pt.py)) := by
    unfold D.pyd
    rw [pyds_play]
    rfl
  simp only [e]
  exact if_pos (play_shown ps h)
theorem repr_hand (ks : List Ky) (h : HandOk ks) : reprF [.lst (ks.map Ky.d)] = some (.str (PyData.list (ks.map Ky.py)).shown) := by
  obtain ⟨h1, h2, h3⟩ := hand_shown ks h
  unfold reprF
  simp only [pyd_hand]
  exact if_pos ⟨h2, Nat.le_trans h3 (by decide), Nat.le_trans h1 (by decide)⟩
end K58

namespace K58
open PySem PySem.Spec PyProof.Rows L2 DL
def toldD (q : Pt × Nat) : D := .tup [.ref q.2, .int q.1.2]
/-- a told play: its hands stand in the store from n on -/
def told (n : Nat) (ps : List Pt) : List D := (ps.zipIdx n).map toldD
def Laid (n : Nat) (ps : List Pt) (S : Nat → Option MObj) : Prop := ∀ i p, ps[i]? = some p → S (n + i) = some (.lst (p.1.map Ky.d))
theorem p_parts_of_al (ps : List Pt) (h : PlayOk ps) (S : Nat → Option MObj) (n : Nat) :
    Fn f_parts_of_al [.lst (ps.map Pt.d)] S n fun r S' n' => r = .own (told n ps) ∧ n' = n + ps.length ∧ Laid n ps S' ∧ ∀ m, m < n → S' m = S m := by
  have e1 : decide ((12 : Int) < ((ps.map Pt.d).length : Nat)) = false := decide_eq_false (by rw [List.length_map]; have := h.len; omega)
  refine fn_run ?_
  unfold m_parts_of_al
  and_intros
  rw [e1]
  and_intros
  refine ev_forL (fun r w => ∃ ys zs x S', ps = ys ++ zs ∧ r = zs.map Pt.d ∧ w = ⟨[.val (.lst (ps.map Pt.d)), .own (told n ys), x], S', n + ys.length⟩ ∧ Laid n ys S' ∧ ∀ m, m < n → S' m = S m) ?_ ?_ _ _ ⟨[], ps, .un, S, rfl, rfl, rfl, fun i p q => by simp at q, fun _ _ => rfl⟩
  · rintro d r w ⟨ys, zs, x, S', h1, h2, rfl, h5, h6⟩
    cases zs with
    | nil => cases h2
    | cons z zs =>
      injection h2 with h3 h4
      subst h3
      obtain ⟨k1, k2, k3⟩ := h.ok z (by rw [h1]; simp)
      have ht : (0 : Int) ≤ (z.2 : Nat) ∧ ((z.2 : Nat) : Int) ≤ 1000000000000000000000000000000 := by
        have e : (10 : Nat) ^ 30 = 1000000000000000000000000000000 := by decide
        omega
      refine ⟨_, rfl, ?_⟩
      show Ev _ ⟨[.val (.lst (ps.map Pt.d)), .own (told n ys), .val (.tup [.lst (z.1.map Ky.d), .int z.2])], S', n + ys.length⟩ _
      and_intros
      refine ⟨rfl, _, _, _, p_is_from z.2 1000000000000000000000000000000 ht _ _, ?_⟩
      and_intros
      refine ⟨rfl, _, _, _, p_hand_of z.1 k1 _ _, ?_⟩
      and_intros
      have hy : ys.length < big := Nat.lt_of_le_of_lt (show ys.length ≤ 12 by have := congrArg List.length h1; simp only [List.length_append, List.length_cons] at this; have := h.len; omega) (by decide)
      refine ⟨_, _, rfl, rfl, by unfold told; rw [List.length_map, List.length_zipIdx]; exact hy, ys ++ [z], zs, .val (.tup [.lst (z.1.map Ky.d), .int z.2]), (fun k => if k = n + ys.length then some (.lst (z.1.map Ky.d)) else S' k), by rw [h1]; simp, h4, ?_, ?_, ?_⟩
      · unfold told
        rw [List.zipIdx_append, List.map_append, List.length_append]
        rfl
      · intro i p q
        by_cases c : i = ys.length
        · subst c
          rw [List.getElem?_append_right (Nat.le_refl _), Nat.sub_self] at q
          cases q
          exact if_pos rfl
        · have hi : i < ys.length := by
            have := (List.getElem?_eq_some_iff.mp q).1
            rw [List.length_append] at this
            simp only [List.length_cons, List.length_nil] at this
            omega
          rw [List.getElem?_append_left hi] at q
          exact (if_neg (by omega)).trans (h5 i p q)
      · intro m hm
        exact (if_neg (by omega)).trans (h6 m hm)
  · rintro w ⟨ys, zs, x, S', h1, h2, rfl, h5, h6⟩
    have : zs = [] := by
      cases zs with
      | nil => rfl
      | cons z zs => cases h2
    rw [this, List.append_nil] at h1
    subst h1
    and_intros
    exact ⟨rfl, rfl, h5, h6⟩
theorem p_play_of_al (ps : List Pt) (h : PlayOk ps) (S : Nat → Option MObj) (n : Nat) :
    Fn f_play_of_al [.lst (ps.map Pt.d)] S n fun r S' n' => r = .own (told n ps) ∧ n' = n + ps.length ∧ Laid n ps S' ∧ ∀ m, m < n → S' m = S m := by
  refine fn_run ?_
  unfold m_play_of_al
  and_intros
  refine ⟨rfl, (p_parts_of_al ps h _ _).imp ?_⟩
  rintro r S' n' ⟨rfl, rfl, h1, h2⟩
  and_intros
  exact ⟨rfl, rfl, h1, h2⟩
theorem row_tl (p : Pt) : TL.tl (rowTxt p) = TL.numL p.2 ++ [58, 32] ++ TL.tl (handTxt p.1) := by
  unfold rowTxt
  rw [TL.tl_append, TL.tl_append, tl_numStr]
  have e : TL.tl (": " : Str) = [58, 32] := by decide
  rw [e]
theorem row_free (p : Pt) (h : HandOk p.1) : (10 : Nat) ∉ TL.tl (rowTxt p) := fun hc => by
  rw [row_tl] at hc
  rcases List.mem_append.mp hc with hc | hc
  · rcases List.mem_append.mp hc with hc | hc
    · exact TL.numL_free (.inl (by decide)) hc
    · exact absurd hc (by decide)
  · exact hand_free p.1 h (.inr rfl) hc
theorem play_tl (ps : List Pt) : TL.tl (playTxt ps) = TL.joinL [10] (ps.map fun p => TL.tl (rowTxt p)) := by
  unfold playTxt
  rw [TL.join_eq, TL.tl_join, List.map_map]
  have e : TL.tl ("\n" : Str) = [10] := by decide
  rw [e]
  rfl
theorem play_ne (ps : List Pt) (hne : ps ≠ []) : decide (playTxt ps = ("" : Str)) = false := decide_eq_false fun z => by
  have z2 := congrArg TL.tl z
  rw [play_tl] at z2
  have e0 : TL.tl ("" : Str) = [] := by decide
  rw [e0] at z2
  refine joinL_ne (fun q => hne (List.map_eq_nil_iff.mp q)) (fun p hp => ?_) z2
  obtain ⟨k, hk, rfl⟩ := List.mem_map.mp hp
  rw [row_tl]
  simp
theorem playTxt_len (ps : List Pt) (h : PlayOk ps) : (playTxt ps).length ≤ 170000 := by
  have h1 := join_len (y := "\n") (ps := ps.map rowTxt) (b := 14000) fun p hp => by
    obtain ⟨k, hk, rfl⟩ := List.mem_map.mp hp
    exact (rowTxt_len k (h.ok k hk).1 (h.ok k hk).2.2).1
  rw [List.length_map] at h1
  have h2 : ps.length * (14000 + ("\n" : Str).length) ≤ 12 * (14000 + ("\n" : Str).length) := Nat.mul_le_mul_right _ h.len
  exact Nat.le_trans h1 (Nat.le_trans h2 (by decide))
theorem split_play (ps : List Pt) (h : PlayOk ps) (hne : ps ≠ []) : splitF (playTxt ps) (.str "\n") = some (.own (ps.map fun p => .str (rowTxt p))) := by
  have hl := playTxt_len ps h
  show (if ("\n" : Str).length ≠ 0 ∧ (playTxt ps).length + 2 ≤ big then some (R.own ((Txt.split (playTxt ps) "\n").map D.str)) else none) = _
  rw [if_pos ⟨by decide, Nat.le_trans (Nat.add_le_add_right hl 2) (by decide)⟩]
  unfold playTxt
  rw [TL.split_join (s := 10) (S := []) (by decide) (by decide +kernel) (fun q => hne (List.map_eq_nil_iff.mp q)) (fun p hp => by
    obtain ⟨k, hk, rfl⟩ := List.mem_map.mp hp
    exact row_free k (h.ok k hk).1), List.map_map]
  rfl
theorem p_read_play_al1 (ps : List Pt) (h : PlayOk ps) (hne : ps ≠ []) (S : Nat → Option MObj) (n : Nat) :
    Fn f_read_play_al [.str (playTxt ps)] S n fun r S' n' => r = .own (told n ps) ∧ n' = n + ps.length ∧ Laid n ps S' ∧ ∀ m, m < n → S' m = S m := by
  refine fn_run ?_
  unfold m_read_play_al
  refine ev_seq (ev_drop (ev_map (ev_callP (ev_cons (ev_var rfl (ev_ret ⟨rfl, _, p_need_plain _, ?_⟩))))))
  refine ev_seq (ev_asg (ev_lst (ev_ret ⟨Nat.zero_le _, Nat.le_of_ble_eq_true rfl, ?_⟩)))
  refine ev_seq (ev_forB (ev_b1 (ev_cons (ev_ite (ev_cmp (ev_var rfl (ev_ret ⟨true, ?_, ?_⟩)))))))
  · show some (!decide (playTxt ps = ("" : Str))) = some true
    rw [play_ne ps hne]
    rfl
  refine ev_condT (ev_map (ev_split (ev_var rfl ⟨_, rfl, ev_ret ⟨_, split_play ps h hne, ev_ret (ev_lift (a := enumD 0 (ps.map fun p => .str (rowTxt p))) rfl ?_)⟩⟩)))
  refine ev_forL (fun r w => ∃ ys zs x y z, ps = ys ++ zs ∧ r = enumD ys.length (zs.map fun p => .str (rowTxt p)) ∧ w = ⟨[.val (.str (playTxt ps)), .own (ys.map Pt.d), x, y, z], S, n⟩) ?_ ?_ _ _ ⟨[], ps, .un, .un, .un, rfl, rfl, rfl⟩
  · rintro d r w ⟨ys, zs, x, y, z0, h1, h2, rfl⟩
    cases zs with
    | nil => cases h2
    | cons z zs =>
      injection h2 with h3 h4
      subst h3
      obtain ⟨k1, k2, k3⟩ := h.ok z (by rw [h1]; simp)
      refine ⟨_, rfl, ?_⟩
      show Ev _ ⟨[.val (.str (playTxt ps)), .own (ys.map Pt.d), .val (.int (ys.length : Nat)), .val (.str (rowTxt z)), z0], S, n⟩ _
      refine ev_seq (ev_asg (ev_callP (ev_cons (ev_var rfl (ev_ret ⟨rfl, _, p_part_in z k1 k3, Nat.le_of_ble_eq_true rfl, ?_⟩)))))
      refine ev_seq (ev_ifS (ev_cmp (ev_var rfl (ev_ret ⟨false, rfl, ev_condF (ev_ret ?_)⟩))))
      have hy : ys.length < big := Nat.lt_of_le_of_lt (show ys.length ≤ 12 by have := congrArg List.length h1; simp only [List.length_append, List.length_cons] at this; have := h.len; omega) (by decide)
      refine ev_drop (ev_appO rfl (ev_cons (ev_var rfl (ev_ret ⟨_, _, rfl, rfl, by rw [List.length_map]; exact hy, ys ++ [z], zs, .val (.int (ys.length : Nat)), .val (.str (rowTxt z)), .val (Pt.d z), by rw [h1]; simp, ?_, by rw [List.map_append]; rfl⟩))))
      rw [List.length_append]
      exact h4
  · rintro w ⟨ys, zs, x, y, z0, h1, h2, rfl⟩
    have : zs = [] := by
      cases zs with
      | nil => rfl
      | cons z zs => cases h2
    rw [this, List.append_nil] at h1
    subst h1
    refine ev_retR (ev_call (ev_cons (ev_varO rfl (ev_ret ⟨rfl, (p_play_of_al ps h _ _).imp ?_⟩))))
    rintro r S' n' ⟨rfl, rfl, h1, h2⟩
    exact ⟨rfl, rfl, h1, h2⟩
theorem p_read_play_al (ps : List Pt) (h : PlayOk ps) (S : Nat → Option MObj) (n : Nat) :
    Fn f_read_play_al [.str (playTxt ps)] S n fun r S' n' => r = .own (told n ps) ∧ n' = n + ps.length ∧ Laid n ps S' ∧ ∀ m, m < n → S' m = S m := by
  cases ps with
  | nil =>
    have e : playTxt [] = "" := by decide +kernel
    rw [e]
    exact ⟨.own [], S, n, rfl, rfl, rfl, fun i p q => by simp at q, fun _ _ => rfl⟩
  | cons p r => exact p_read_play_al1 (p :: r) h (by simp) S n
theorem p_read_play1 (ps : List Pt) (h : PlayOk ps) (hne : ps ≠ []) : Pu f_read_play [.str (playTxt ps)] (.val (.lst (ps.map Pt.d))) := pu_of fun S n => by
  refine fn_run ?_
  unfold m_read_play
  refine ev_seq (ev_drop (ev_map (ev_callP (ev_cons (ev_var rfl (ev_ret ⟨rfl, _, p_need_plain _, ?_⟩))))))
  refine ev_seq (ev_asg (ev_lst (ev_ret ⟨Nat.zero_le _, Nat.le_of_ble_eq_true rfl, ?_⟩)))
  refine ev_seq (ev_forB (ev_b1 (ev_cons (ev_ite (ev_cmp (ev_var rfl (ev_ret ⟨true, ?_, ?_⟩)))))))
  · show some (!decide (playTxt ps = ("" : Str))) = some true
    rw [play_ne ps hne]
    rfl
  refine ev_condT (ev_map (ev_split (ev_var rfl ⟨_, rfl, ev_ret ⟨_, split_play ps h hne, ev_ret (ev_lift (a := enumD 0 (ps.map fun p => .str (rowTxt p))) rfl ?_)⟩⟩)))
  refine ev_forL (fun r w => ∃ ys zs x y z, ps = ys ++ zs ∧ r = enumD ys.length (zs.map fun p => .str (rowTxt p)) ∧ w = ⟨[.val (.str (playTxt ps)), .own (ys.map Pt.d), x, y, z], S, n⟩) ?_ ?_ _ _ ⟨[], ps, .un, .un, .un, rfl, rfl, rfl⟩
  · rintro d r w ⟨ys, zs, x, y, z0, h1, h2, rfl⟩
    cases zs with
    | nil => cases h2
    | cons z zs =>
      injection h2 with h3 h4
      subst h3
      obtain ⟨k1, k2, k3⟩ := h.ok z (by rw [h1]; simp)
      refine ⟨_, rfl, ?_⟩
      show Ev _ ⟨[.val (.str (playTxt ps)), .own (ys.map Pt.d), .val (.int (ys.length : Nat)), .val (.str (rowTxt z)), z0], S, n⟩ _
      refine ev_seq (ev_asg (ev_callP (ev_cons (ev_var rfl (ev_ret ⟨rfl, _, p_part_in z k1 k3, Nat.le_of_ble_eq_true rfl, ?_⟩)))))
      refine ev_seq (ev_ifS (ev_cmp (ev_var rfl (ev_ret ⟨false, rfl, ev_condF (ev_ret ?_)⟩))))
      have hy : ys.length < big := Nat.lt_of_le_of_lt (show ys.length ≤ 12 by have := congrArg List.length h1; simp only [List.length_append, List.length_cons] at this; have := h.len; omega) (by decide)
      refine ev_drop (ev_appO rfl (ev_cons (ev_var rfl (ev_ret ⟨_, _, rfl, rfl, by rw [List.length_map]; exact hy, ys ++ [z], zs, .val (.int (ys.length : Nat)), .val (.str (rowTxt z)), .val (Pt.d z), by rw [h1]; simp, ?_, by rw [List.map_append]; rfl⟩))))
      rw [List.length_append]
      exact h4
  · rintro w ⟨ys, zs, x, y, z0, h1, h2, rfl⟩
    have : zs = [] := by
      cases zs with
      | nil => rfl
      | cons z zs => cases h2
    rw [this, List.append_nil] at h1
    subst h1
    exact ev_retR (ev_callP (ev_cons (ev_varO rfl (ev_ret ⟨rfl, _, p_play_of ps h, rfl, rfl, rfl⟩))))
end K58

namespace K58
open PySem PySem.Spec PyProof.Rows L2 DL
theorem range_nat (k : Nat) (h : k ≤ 1000000) : rangeD1 [.int (k : Nat)] = some ((List.range k).map fun i : Nat => D.int (0 + (i : Int))) := by
  unfold rangeD1
  have e : (-(2 ^ 62) ≤ (k : Int)) ∧ ((k : Int) < 2 ^ 62) := ⟨by omega, by omega⟩
  simp only [e, and_self, if_true, Int.toNat_natCast]
theorem Bag.mono {ns : List Int} {k C C' : Nat} {S : Nat → Option MObj} (h : Bag ns k C S) (hc : C ≤ C') : Bag ns k C' S := by
  obtain ⟨p, c, r, t, h1, h2, h3, h4⟩ := h
  exact ⟨p, c, r, t, h1, h2, Nat.le_trans h3 hc, h4⟩
theorem Same.trans {k : Nat} {S S' S'' : Nat → Option MObj} (h : Same k S S') (h' : Same k S' S'') : Same k S S'' := fun j hj => (h' j hj).trans (h j hj)
theorem s_bag (ns : List Int) (S : Nat → Option MObj) (n : Nat) : Fn f_law_bag [.scr ns] S n fun r S' n' => ∃ tot : Int, r = .own [.lst (ns.map D.int), .int 0, .int 0, .int 0, .int tot] ∧ 0 ≤ tot ∧ tot < 2305843009213693951 ∧ S' = S ∧ n' = n := by
  refine fn_run ?_
  unfold m_law_bag
  refine ev_seq (ev_asg (ev_map (ev_ret ⟨Nat.le_of_ble_eq_true rfl, ?_⟩)))
  refine ev_seq (ev_forB (ev_seqI (ev_var rfl ⟨_, rfl, ?_⟩)))
  refine ev_forL (fun r w => ∃ (zs : List Int) (tot : Int) (x : DL.Slot), r = zs.map D.int ∧ 0 ≤ tot ∧ tot < 2305843009213693951 ∧ w = ⟨[.val (.scr ns), .val (.int tot), x], S, n⟩) ?_ ?_ _ _ ⟨ns, 1, .un, rfl, by decide, by decide, rfl⟩
  · rintro d r w ⟨zs, tot, x, h1, h2, h3, rfl⟩
    cases zs with
    | nil => cases h1
    | cons z zs =>
      injection h1 with h4 h5
      subst h4
      refine ⟨_, rfl, ?_⟩
      show Ev _ ⟨[.val (.scr ns), .val (.int tot), .val (.int z)], S, n⟩ _
      and_intros
      exact ⟨zs, _, _, h5, by omega, by omega, rfl⟩
  · rintro w ⟨zs, tot, x, h1, h2, h3, rfl⟩
    and_intros
    exact ⟨tot, rfl, h2, h3, rfl, rfl⟩
/-- a kind of letters -/
def Kind (z : Str) : Prop := (∀ c ∈ z.cps.toList, Low c) ∧ 1 ≤ z.length ∧ z.length ≤ 26
theorem kinds_at (v : Int) (h0 : 0 ≤ v) (h1 : v < 4) : ∃ z : Str, L2.atI [D.str "a", .str "ab", .str "abc", .str "abcdefghijklmnopqrstuvwxyz"] v = some (.str z) ∧ Kind z := by
  have : v = 0 ∨ v = 1 ∨ v = 2 ∨ v = 3 := by omega
  rcases this with rfl | rfl | rfl | rfl
  · exact ⟨"a", rfl, by unfold Low; decide +kernel, by decide +kernel, by decide +kernel⟩
  · exact ⟨"ab", rfl, by unfold Low; decide +kernel, by decide +kernel, by decide +kernel⟩
  · exact ⟨"abc", rfl, by unfold Low; decide +kernel, by decide +kernel, by decide +kernel⟩
  · exact ⟨"abcdefghijklmnopqrstuvwxyz", rfl, by unfold Low; decide +kernel, by decide +kernel, by decide +kernel⟩
theorem joinL_nil : ∀ cs : List Nat, TL.joinL [] (cs.map fun c => [c]) = cs
  | [] => rfl
  | [c] => rfl
  | c :: d :: r => by
    have := joinL_nil (d :: r)
    show [c] ++ ([] ++ TL.joinL [] ([d] :: r.map fun c => [c])) = _
    rw [show TL.joinL [] ([d] :: r.map fun c => [c]) = d :: r from this]
    rfl
theorem s_word (ns : List Int) (hn : ns.length ≤ 1000) (k C : Nat) (hC : C < 2 ^ 50) (a b : Nat) (h1 : 1 ≤ a) (h2 : a ≤ b) (h3 : b ≤ 60) (S : Nat → Option MObj) (n : Nat) (hB : Bag ns k C S) :
    Fn f_law_word [.ref k, .int a, .int b] S n fun r S' n' => ∃ s : Str, r = .val (.str s) ∧ Wd s ∧ a ≤ s.length ∧ s.length ≤ b ∧ n' = n ∧ Bag ns k (C + 70) S' ∧ Same k S S' := by
  refine fn_run ?_
  unfold m_law_word
  and_intros
  refine ⟨rfl, (s_draw ns hn k C (by omega) 4 (by decide) (by decide) S n hB).imp ?_⟩
  rintro r S1 n1 ⟨v, rfl, v0, v4, rfl, hB1, hs1⟩
  obtain ⟨z, hz, kz1, kz2, kz3⟩ := kinds_at v v0 v4
  and_intros
  refine ev_ixL hz ?_
  refine ⟨Nat.le_of_ble_eq_true rfl, ?_⟩
  refine ev_retR (ev_map (ev_join (ev_ret ⟨_, rfl, ev_map (ev_lcB ?_)⟩)))
  and_intros
  refine ⟨rfl, (s_draw ns hn k (C + 1) (by omega) ((b : Int) - a + 1) (by omega) (by omega) S1 n1 hB1).imp ?_⟩
  rintro r S2 n2 ⟨u, rfl, u0, u4, rfl, hB2, hs2⟩
  obtain ⟨m, hm, m1, m2⟩ : ∃ m : Nat, (a : Int) + u = (m : Nat) ∧ a ≤ m ∧ m ≤ b := ⟨((a : Int) + u).toNat, by omega, by omega, by omega⟩
  refine ev_addI ?_
  refine ev_ret ?_
  show Ev (M.lift (rangeD1 [.int ((a : Int) + u)])) _ _
  rw [hm]
  refine ev_lift (range_nat m (by omega)) ?_
  refine ev_lcL (fun r acc w => ∃ (j : Nat) (cs : List Nat) (S' : Nat → Option MObj), j + r.length = m ∧ cs.length = j ∧ acc = cs.map (fun c => D.str ⟨#[c]⟩) ∧ (∀ c ∈ cs, Low c) ∧ w = ⟨[.val (.ref k), .val (.int a), .val (.int b), .val (.str z), .un], S', n2⟩ ∧ Bag ns k (C + 2 + j) S' ∧ Same k S S') ?_ ?_ _ _ _ ⟨0, [], S2, by rw [List.length_map, List.length_range]; omega, rfl, rfl, fun c hc => by simp at hc, rfl, hB2, hs1.trans hs2⟩
  · rintro d r acc w ⟨j, cs, S', q1, q2, q3, q4, rfl, q5, q6⟩
    rw [List.length_cons] at q1
    refine ⟨_, rfl, ev_ret ?_⟩
    show Ev _ ⟨[.val (.ref k), .val (.int a), .val (.int b), .val (.str z), .val d], S', n2⟩ _
    refine ev_bind2 (ev_var rfl (ev_map (ev_call (ev_cons (ev_var rfl (ev_cons (ev_bind (ev_cons (ev_var rfl (ev_ret (ev_lenS (Nat.le_trans kz3 (by decide)) (ev_ret ⟨rfl, (s_draw ns hn k (C + 2 + j) (by omega) (z.length : Nat) (by omega) (by omega) S' n2 q5).imp ?_⟩))))))))))))
    rintro r2 S3 n3 ⟨x, rfl, x0, x1, rfl, hB3, hs3⟩
    obtain ⟨i, rfl⟩ : ∃ i : Nat, x = (i : Int) := ⟨x.toNat, by omega⟩
    have hi : i < z.cps.toList.length := by
      rw [Array.length_toList]
      show i < z.length
      omega
    refine ev_ixS (c := z.cps.toList[i]) (Nat.le_trans kz3 (by decide)) (atI_nat hi) ⟨?_, j + 1, cs ++ [z.cps.toList[i]], S3, by omega, by rw [List.length_append, q2]; rfl, by rw [q3, List.map_append]; rfl, ?_, rfl, hB3, q6.trans hs3⟩
    · rw [q3, List.length_map, q2]
      have : (60 : Nat) < big := by decide
      omega
    · intro c hc
      rcases List.mem_append.mp hc with hc | hc
      · exact q4 c hc
      · rw [List.mem_singleton] at hc
        rw [hc]
        exact kz1 _ (List.getElem_mem hi)
  · rintro acc w ⟨j, cs, S', q1, q2, q3, q4, rfl, q5, q6⟩
    subst q3
    have hj : cs.length = m := by simpa [q2] using q1
    refine ev_itemsL ⟨.str (Txt.join "" (cs.map fun c => (⟨#[c]⟩ : Str))), ?_, ?_⟩
    · have := joinF_le (a := "") (ys := cs.map fun c => (⟨#[c]⟩ : Str)) (b := 1) (fun p hp => by
        obtain ⟨c, _, rfl⟩ := List.mem_map.mp hp
        exact Nat.le_refl 1) (by rw [List.length_map, show ("" : Str).length = 0 from rfl]; omega)
      rw [List.map_map] at this
      exact this
    · have e : TL.tl (Txt.join "" (cs.map fun c => (⟨#[c]⟩ : Str))) = cs := by
        rw [TL.join_eq, TL.tl_join, List.map_map, show TL.tl ("" : Str) = [] from by decide]
        exact joinL_nil cs
      have el : (Txt.join "" (cs.map fun c => (⟨#[c]⟩ : Str))).length = cs.length := by rw [TL.len_tl, e]
      exact ⟨_, rfl, fun c hc => q4 c (by rw [← e]; exact hc), by omega, by omega, rfl, q5.mono (by omega), q6⟩
end K58

namespace K58
open PySem PySem.Spec PyProof.Rows L2 DL
/-! the drawn hand -/
theorem names_at (v : Int) (h0 : 3 ≤ v) (h1 : v < 9) : ∃ i : Fin 6, L2.atI [D.str "left", .str "right", .str "strike", .str "rub", .str "copy", .str "cut"] (v - 3) = some (.str (nm i)) := by
  have : v = 3 ∨ v = 4 ∨ v = 5 ∨ v = 6 ∨ v = 7 ∨ v = 8 := by omega
  rcases this with rfl | rfl | rfl | rfl | rfl | rfl
  · exact ⟨0, rfl⟩
  · exact ⟨1, rfl⟩
  · exact ⟨2, rfl⟩
  · exact ⟨3, rfl⟩
  · exact ⟨4, rfl⟩
  · exact ⟨5, rfl⟩
theorem three_at (v : Int) (h0 : 0 ≤ v) (h1 : v < 3) (a : Nat) (ha : 1 ≤ a) : ∃ x : Nat, L2.atI [D.int 2, .int 4, .int (a : Nat)] v = some (.int (x : Nat)) ∧ 1 ≤ x ∧ x ≤ a + 4 := by
  have : v = 0 ∨ v = 1 ∨ v = 2 := by omega
  rcases this with rfl | rfl | rfl
  · exact ⟨2, rfl, by omega, by omega⟩
  · exact ⟨4, rfl, by omega, by omega⟩
  · exact ⟨a, rfl, by omega, by omega⟩
theorem s_hand (ns : List Int) (hn : ns.length ≤ 1000) (k C : Nat) (hC : C < 2 ^ 40) (most : Nat) (hmost : most ≤ 60) (S : Nat → Option MObj) (n : Nat) (hB : Bag ns k C S) :
    Fn f_law_hand [.ref k, .int most] S n fun r S' n' => ∃ ks : List Ky, r = .own (ks.map Ky.d) ∧ (∀ q ∈ ks, q.ok) ∧ (ks.map Ky.wt).sum ≤ most ∧ ks.length ≤ 12 ∧ n' = n ∧ Bag ns k (C + 1000) S' ∧ Same k S S' := by
  refine fn_run ?_
  unfold m_law_hand
  refine ev_seq (ev_asg (ev_lst (ev_ret ⟨Nat.zero_le _, Nat.le_of_ble_eq_true rfl, ?_⟩)))
  refine ev_seq (ev_asg (ev_map (ev_var rfl ⟨Nat.le_of_ble_eq_true rfl, ?_⟩)))
  refine ev_seq (ev_forB (ev_b1 (ev_cons (ev_map (ev_call (ev_cons (ev_var rfl (ev_cons (ev_ret (ev_ret ⟨rfl, (s_draw ns hn k C (by omega) 13 (by decide) (by decide) S n hB).imp ?_⟩))))))))))
  rintro r S1 n1 ⟨v, rfl, v0, v1, rfl, hB1, hs1⟩
  obtain ⟨m, rfl, m2⟩ : ∃ m : Nat, v = (m : Nat) ∧ m ≤ 12 := ⟨v.toNat, by omega, by omega⟩
  refine ev_ret (ev_lift (range_nat m (by omega)) ?_)
  refine ev_forL (fun r w => ∃ (j : Nat) (ks : List Ky) (sp : Nat) (x4 x5 x6 : DL.Slot) (S' : Nat → Option MObj), j + r.length = m ∧ ks.length ≤ j ∧ (∀ q ∈ ks, q.ok) ∧ (ks.map Ky.wt).sum + sp = most ∧ w = ⟨[.val (.ref k), .val (.int most), .own (ks.map Ky.d), .val (.int (sp : Nat)), x4, x5, x6], S', n1⟩ ∧ Bag ns k (C + 1 + 80 * j) S' ∧ Same k S S') ?_ ?_ _ _ ⟨0, [], most, .un, .un, .un, S1, by rw [List.length_map, List.length_range]; omega, Nat.zero_le _, fun q hq => by simp at hq, by simp, rfl, hB1, hs1⟩
  · rintro d r w ⟨j, ks, sp, x4, x5, x6, S', q1, q2, q3, q4, rfl, q6, q7⟩
    rw [List.length_cons] at q1
    refine ⟨_, rfl, ?_⟩
    show Ev _ ⟨[.val (.ref k), .val (.int most), .own (ks.map Ky.d), .val (.int (sp : Nat)), .val d, x5, x6], S', n1⟩ _
    refine ev_ifS (ev_cmp (ev_var rfl (ev_ret ⟨_, rfl, ?_⟩)))
    refine ev_cond (fun h => ?_) (fun h => ?_)
    rotate_left
    · exact ev_ret ⟨j + 1, ks, sp, .val d, x5, x6, S', by omega, by omega, q3, q4, rfl, q6.mono (by omega), q7⟩
    have hsp : 1 ≤ sp := by have := of_decide_eq_true h; omega
    refine ev_seq (ev_asg (ev_call (ev_cons (ev_var rfl (ev_cons (ev_ret (ev_ret ⟨rfl, (s_draw ns hn k (C + 1 + 80 * j) (by omega) 9 (by decide) (by decide) S' n1 q6).imp ?_⟩)))))))
    rintro r1 S2 n2 ⟨kind, rfl, k0, k1, rfl, hB2, hs2⟩
    refine ⟨Nat.le_of_ble_eq_true rfl, ?_⟩
    show Ev _ ⟨[.val (.ref k), .val (.int most), .own (ks.map Ky.d), .val (.int (sp : Nat)), .val d, .val (.int kind), x6], S2, n2⟩ _
    refine ev_seq (ev_asg (ev_map (Ev.imp (P := fun dd w' => ∃ (many : Nat) (S3 : Nat → Option MObj), dd = .int (many : Nat) ∧ 1 ≤ many ∧ many ≤ sp ∧ w' = ⟨[.val (.ref k), .val (.int most), .own (ks.map Ky.d), .val (.int (sp : Nat)), .val d, .val (.int kind), x6], S3, n2⟩ ∧ Bag ns k (C + 1 + 80 * j + 3) S3 ∧ Same k S S3) ?_ ?_)))
    · refine ev_b1 (ev_cons (ev_var rfl (ev_cons (ev_map (ev_bind2 (ev_ret (ev_map (ev_call (ev_cons (ev_var rfl (ev_cons (ev_bind2 (ev_map (ev_lst (ev_cons (ev_ret (ev_cons (ev_ret (ev_cons (ev_var rfl (ev_ret ⟨by show (3 : Nat) ≤ big; decide, ?_⟩)))))))))))))))))))))
      refine ev_map (ev_call (ev_cons (ev_var rfl (ev_cons (ev_ret (ev_ret ⟨rfl, (s_draw ns hn k (C + 1 + 80 * j + 1) (by omega) 3 (by decide) (by decide) S2 n2 hB2).imp ?_⟩))))))
      rintro r2 S3 n3 ⟨i, rfl, i0, i1, rfl, hB3, hs3⟩
      obtain ⟨x, hx, x1, x2⟩ := three_at i i0 i1 sp hsp
      refine ev_ixL hx (ev_ret ⟨rfl, (s_draw ns hn k (C + 1 + 80 * j + 2) (by omega) (x : Nat) (by omega) (by omega) S3 n3 hB3).imp ?_⟩)
      rintro r2 S4 n4 ⟨y, rfl, y0, y1, rfl, hB4, hs4⟩
      refine ev_addI (ev_ret ?_)
      refine ev_lift rfl ?_
      obtain ⟨z, rfl⟩ : ∃ z : Nat, y = (z : Nat) := ⟨y.toNat, by omega⟩
      refine ⟨min sp (1 + z), S4, ?_, by omega, by omega, rfl, hB4, ((q7.trans hs2).trans hs3).trans hs4⟩
      show D.int (if (1 : Int) + (z : Nat) < (sp : Nat) then (1 : Int) + (z : Nat) else (sp : Nat)) = _
      congr 1
      split <;> omega
    rintro dd w' ⟨many, S3, rfl, o1, o2, rfl, hB3, hs3⟩
    refine ⟨Nat.le_of_ble_eq_true rfl, ?_⟩
    have hks : (ks.map Ky.d).length < big := by
      rw [List.length_map]
      exact Nat.lt_of_le_of_lt (show ks.length ≤ 60 by omega) (by decide)
    -- a key q goes behind
    have fin : ∀ (q : Ky) (S4 : Nat → Option MObj), q.ok → q.wt ≤ sp → Bag ns k (C + 1 + 80 * j + 73) S4 → Same k S S4 → ∃ (j' : Nat) (ks' : List Ky) (sp' : Nat) (x4 x5 x6 : DL.Slot) (S' : Nat → Option MObj), j' + r.length = m ∧ ks'.length ≤ j' ∧ (∀ q ∈ ks', q.ok) ∧ (ks'.map Ky.wt).sum + sp' = most ∧ (⟨[.val (.ref k), .val (.int most), .own (ks.map Ky.d ++ [q.d]), .val (.int ((sp : Int) - (q.wt : Nat))), .val d, .val (.int kind), .val (.int (q.wt : Nat))], S4, n2⟩ : W) = ⟨[.val (.ref k), .val (.int most), .own (ks'.map Ky.d), .val (.int (sp' : Nat)), x4, x5, x6], S', n2⟩ ∧ Bag ns k (C + 1 + 80 * j') S' ∧ Same k S S' := fun q S4 h1 h2 h3 h4 => by
      refine ⟨j + 1, ks ++ [q], sp - q.wt, .val d, .val (.int kind), .val (.int (q.wt : Nat)), S4, by omega, by rw [List.length_append]; simp only [List.length_singleton]; omega, fun y hy => ?_, ?_, by rw [List.map_append, Int.ofNat_sub h2]; rfl, h3.mono (by omega), h4⟩
      · rcases List.mem_append.mp hy with hy | hy
        · exact q3 y hy
        · rw [List.mem_singleton] at hy
          rw [hy]
          exact h1
      · rw [List.map_append, List.sum_append]
        simp only [List.map_cons, List.map_nil, List.sum_cons, List.sum_nil]
        omega
    show Ev _ ⟨[.val (.ref k), .val (.int most), .own (ks.map Ky.d), .val (.int (sp : Nat)), .val d, .val (.int kind), .val (.int (many : Nat))], S3, n2⟩ _
    refine ev_seq (Ev.imp (P := fun fl w' => ∃ (q : Ky) (S4 : Nat → Option MObj), fl = .next ∧ q.ok ∧ q.wt ≤ sp ∧ w' = ⟨[.val (.ref k), .val (.int most), .own (ks.map Ky.d ++ [q.d]), .val (.int (sp : Nat)), .val d, .val (.int kind), .val (.int (q.wt : Nat))], S4, n2⟩ ∧ Bag ns k (C + 1 + 80 * j + 73) S4 ∧ Same k S S4) ?_ ?_)
    · refine ev_ifS (ev_cmp (ev_var rfl (ev_ret ⟨_, rfl, ?_⟩)))
      refine ev_cond (fun h => ?_) (fun h => ?_)
      · refine ev_seq (ev_asg (ev_map (ev_ret ⟨Nat.le_of_ble_eq_true rfl, ?_⟩)))
        refine ev_drop (ev_appO rfl (ev_cons (ev_tup (ev_cons (ev_ret (ev_ret ⟨by decide, ev_ret ⟨_, _, rfl, rfl, hks, ?_⟩⟩))))))
        exact ⟨.paste, S3, rfl, trivial, hsp, rfl, hB3.mono (by omega), hs3⟩
      · have hk : ¬ kind < 2 := of_decide_eq_false h
        refine ev_ifS (ev_cmp (ev_var rfl (ev_ret ⟨_, rfl, ?_⟩)))
        refine ev_cond (fun h => ?_) (fun h => ?_)
        · refine ev_drop (ev_appO rfl (ev_cons (ev_tup (ev_cons (ev_ret (ev_cons (ev_map (ev_call (ev_cons (ev_var rfl (ev_cons (ev_var rfl (ev_cons (ev_var rfl (ev_ret ⟨rfl, ?_⟩)))))))))))))))
          refine (s_word ns hn k (C + 1 + 80 * j + 3) (by omega) many many (by omega) (Nat.le_refl _) (by omega) S3 n2 hB3).imp ?_
          rintro r2 S4 n3 ⟨s, rfl, s1, s2, s3, rfl, hB4, hs4⟩
          refine ev_ret ⟨by show (2 : Nat) ≤ big; decide, ev_ret ⟨_, _, rfl, rfl, hks, ?_⟩⟩
          have es : s.length = many := by omega
          exact ⟨.write s, S4, rfl, ⟨s1, by omega, by omega⟩, by show s.length ≤ sp; omega, by show _ = (⟨[_, _, _, _, _, _, .val (.int (s.length : Nat))], _, _⟩ : W); rw [es]; rfl, hB4.mono (by omega), hs3.trans hs4⟩
        · have hk2 : ¬ kind = 2 := of_decide_eq_false h
          obtain ⟨i, hi⟩ := names_at kind (by omega) k1
          refine ev_drop (ev_appO rfl (ev_cons (ev_tup (ev_cons ?_))))
          refine ev_bind2 (ev_map ?_)
          and_intros
          refine ev_ixL hi ?_
          and_intros
          refine ⟨_, _, rfl, rfl, hks, ?_⟩
          exact ⟨.cnt i many, S3, rfl, ⟨o1, by omega⟩, o2, rfl, hB3.mono (by omega), hs3⟩
    · rintro fl w' ⟨q, S4, rfl, p1, p2, rfl, p3, p4⟩
      refine ev_asg (ev_map (ev_bind2 (ev_var rfl (ev_var rfl (ev_subI ⟨Nat.le_of_ble_eq_true rfl, ?_⟩)))))
      exact fin q S4 p1 p2 p3 p4
  · rintro w ⟨j, ks, sp, x4, x5, x6, S', q1, q2, q3, q4, rfl, q6, q7⟩
    simp only [List.length_nil, Nat.add_zero] at q1
    subst q1
    refine ev_retOwn rfl ⟨ks, rfl, q3, by omega, by omega, rfl, q6.mono (by omega), q7⟩
end K58

namespace K58
open PySem PySem.Spec PyProof.Rows L2 DL
/-! the drawn play -/
theorem handOk_of {ks : List Ky} (h1 : ∀ q ∈ ks, q.ok) (h2 : (ks.map Ky.wt).sum ≤ 60) (h3 : ks.length ≤ 60) : HandOk ks := ⟨h3, h1, h2⟩
theorem two_at (v : Int) (h0 : 0 ≤ v) (h1 : v < 2) : ∃ x : Nat, L2.atI [D.int 12, .int 60] v = some (.int (x : Nat)) ∧ x ≤ 60 := by
  have : v = 0 ∨ v = 1 := by omega
  rcases this with rfl | rfl
  · exact ⟨12, rfl, by omega⟩
  · exact ⟨60, rfl, by omega⟩
theorem s_play (ns : List Int) (hn : ns.length ≤ 1000) (k C : Nat) (hC : C < 2 ^ 39) (parts : Nat) (hparts : parts ≤ 12) (S : Nat → Option MObj) (n : Nat) (hB : Bag ns k C S) :
    Fn f_law_play [.ref k, .int parts] S n fun r S' n' => ∃ ps : List Pt, r = .own (ps.map Pt.d) ∧ (∀ q ∈ ps, HandOk q.1 ∧ q.2 ≤ 10 ^ 30) ∧ ps.length ≤ parts ∧ n' = n ∧ Bag ns k (C + 50000) S' ∧ Same k S S' := by
  refine fn_run ?_
  unfold m_law_play
  refine ev_seq (ev_asg (ev_lst (ev_ret ⟨Nat.zero_le _, Nat.le_of_ble_eq_true rfl, ?_⟩)))
  refine ev_seq (ev_forB (ev_b1 (ev_cons (ev_map (ev_call (ev_cons (ev_var rfl (ev_cons (ev_map (ev_bind2 (ev_var rfl (ev_ret (ev_addI (ev_ret ⟨rfl, ?_⟩))))))))))))))
  have ep : ((parts : Nat) : Int) + 1 = ((parts + 1 : Nat) : Int) := by omega
  show Fn f_law_draw [.ref k, .int (((parts : Nat) : Int) + 1)] S n _
  rw [ep]
  refine (s_draw ns hn k C (by omega) ((parts + 1 : Nat) : Int) (by omega) (by omega) S n hB).imp ?_
  rintro r S1 n1 ⟨v, rfl, v0, v1, rfl, hB1, hs1⟩
  obtain ⟨m, rfl, m2⟩ : ∃ m : Nat, v = (m : Nat) ∧ m ≤ parts := ⟨v.toNat, by omega, by omega⟩
  refine ev_ret (ev_lift (range_nat m (by omega)) ?_)
  refine ev_forL (fun r w => ∃ (j : Nat) (ps : List Pt) (x3 x4 : DL.Slot) (S' : Nat → Option MObj), j + r.length = m ∧ ps.length = j ∧ (∀ q ∈ ps, HandOk q.1 ∧ q.2 ≤ 10 ^ 30) ∧ w = ⟨[.val (.ref k), .val (.int parts), .own (ps.map Pt.d), x3, x4], S', n1⟩ ∧ Bag ns k (C + 1 + 2000 * j) S' ∧ Same k S S') ?_ ?_ _ _ ⟨0, [], .un, .un, S1, by rw [List.length_map, List.length_range]; omega, rfl, fun q hq => by simp at hq, rfl, hB1, hs1⟩
  · rintro d r w ⟨j, ps, x3, x4, S', q1, q2, q3, rfl, q4, q5⟩
    rw [List.length_cons] at q1
    refine ⟨_, rfl, ?_⟩
    show Ev _ ⟨[.val (.ref k), .val (.int parts), .own (ps.map Pt.d), .val d, x4], S', n1⟩ _
    refine ev_seq (ev_asg (ev_map (Ev.imp (P := fun dd w' => ∃ (t : Nat) (S2 : Nat → Option MObj), dd = .int t ∧ t ≤ 10 ^ 30 ∧ w' = ⟨[.val (.ref k), .val (.int parts), .own (ps.map Pt.d), .val d, x4], S2, n1⟩ ∧ Bag ns k (C + 1 + 2000 * j + 4) S2 ∧ Same k S S2) ?_ ?_)))
    · refine ev_bind2 (ev_map (ev_lst (ev_cons (ev_map (ev_call (ev_cons (ev_var rfl (ev_cons (ev_ret (ev_ret ⟨rfl, (s_draw ns hn k (C + 1 + 2000 * j) (by omega) 12 (by decide) (by decide) S' n1 q4).imp ?_⟩))))))))))
      rintro r1 S2 n2 ⟨a, rfl, a0, a1, rfl, hB2, hs2⟩
      and_intros
      refine ⟨rfl, (s_draw ns hn k (C + 1 + 2000 * j + 1) (by omega) 9 (by decide) (by decide) S2 n2 hB2).imp ?_⟩
      rintro r1 S3 n3 ⟨b, rfl, b0, b1, rfl, hB3, hs3⟩
      and_intros
      have e30 : (10 : Int) ^ (30 : Int).toNat = 1000000000000000000000000000000 := by decide
      have e30' : (10 : Nat) ^ 30 = 1000000000000000000000000000000 := by decide
      refine ⟨rfl, (s_draw ns hn k (C + 1 + 2000 * j + 2) (by omega) ((10 : Int) ^ (30 : Int).toNat) (by rw [e30]; decide) (by rw [e30]; decide) S3 n3 hB3).imp ?_⟩
      rintro r1 S3' n3' ⟨b', rfl, b0', b1', rfl, hB3', hs3'⟩
      and_intros
      refine ⟨rfl, (s_draw ns hn k (C + 1 + 2000 * j + 3) (by omega) 3 (by decide) (by decide) S3' n3' hB3').imp ?_⟩
      rintro r1 S4 n4 ⟨c, rfl, c0, c1, rfl, hB4, hs4⟩
      have : c = 0 ∨ c = 1 ∨ c = 2 := by omega
      rcases this with rfl | rfl | rfl
      · and_intros
        exact ⟨a.toNat, S4, by rw [Int.toNat_of_nonneg a0], by omega, rfl, hB4, (((q5.trans hs2).trans hs3).trans hs3').trans hs4⟩
      · and_intros
        exact ⟨((10 : Int) ^ (30 : Int).toNat - b).toNat, S4, by rw [Int.toNat_of_nonneg (by rw [e30]; omega)], by rw [e30]; omega, rfl, hB4, (((q5.trans hs2).trans hs3).trans hs3').trans hs4⟩
      · and_intros
        rw [e30] at b1'
        exact ⟨b'.toNat, S4, by rw [Int.toNat_of_nonneg b0'], by omega, rfl, hB4, (((q5.trans hs2).trans hs3).trans hs3').trans hs4⟩
    rintro dd w' ⟨t, S2, rfl, t1, rfl, hB2, hs2⟩
    refine ⟨Nat.le_of_ble_eq_true rfl, ?_⟩
    show Ev _ ⟨[.val (.ref k), .val (.int parts), .own (ps.map Pt.d), .val d, .val (.int t)], S2, n1⟩ _
    refine ev_drop (ev_appO rfl (ev_cons (ev_tup (ev_cons (ev_map (ev_call (ev_cons (ev_var rfl (ev_cons (ev_bind2 (ev_map (ev_lst (ev_cons (ev_ret (ev_cons (ev_ret (ev_ret ⟨by show (2 : Nat) ≤ big; decide, ?_⟩)))))))))))))))))
    refine ev_map (ev_call (ev_cons (ev_var rfl (ev_cons (ev_ret (ev_ret ⟨rfl, (s_draw ns hn k (C + 1 + 2000 * j + 4) (by omega) 2 (by decide) (by decide) S2 n1 hB2).imp ?_⟩))))))
    rintro r2 S3 n3 ⟨i, rfl, i0, i1, rfl, hB3, hs3⟩
    obtain ⟨x, hx, x2⟩ := two_at i i0 i1
    refine ev_ixL hx (ev_ret ⟨rfl, (s_hand ns hn k (C + 1 + 2000 * j + 5) (by omega) x x2 S3 n3 hB3).imp ?_⟩)
    rintro r2 S4 n4 ⟨ks, rfl, h1, h2, h3, rfl, hB4, hs4⟩
    have hps : (ps.map Pt.d).length < big := by
      rw [List.length_map, q2]
      exact Nat.lt_of_le_of_lt (show j ≤ 12 by omega) (by decide)
    refine ev_cons (ev_var rfl (ev_ret ⟨by show (2 : Nat) ≤ big; decide, ev_ret ⟨_, _, rfl, rfl, hps, ?_⟩⟩))
    refine ⟨j + 1, ps ++ [(ks, t)], .val d, .val (.int t), S4, by omega, by rw [List.length_append, q2]; rfl, fun y hy => ?_, by rw [List.map_append]; rfl, hB4.mono (by omega), (hs2.trans hs3).trans hs4⟩
    rcases List.mem_append.mp hy with hy | hy
    · exact q3 y hy
    · rw [List.mem_singleton] at hy
      rw [hy]
      exact ⟨handOk_of (ks := ks) h1 (by omega) (by omega), t1⟩
  · rintro w ⟨j, ps, x3, x4, S', q1, q2, q3, rfl, q4, q5⟩
    simp only [List.length_nil, Nat.add_zero] at q1
    subst q1
    refine ev_retOwn rfl ⟨ps, rfl, q3, by omega, rfl, q4.mono (by omega), q5⟩
end K58

namespace K58
open PySem PySem.Spec PyProof.Rows L2 DL
theorem Same.refl (k : Nat) (S : Nat → Option MObj) : Same k S S := fun _ _ => rfl
theorem Bag.at {ns : List Int} {k C : Nat} {S S' : Nat → Option MObj} (h : Bag ns k C S) (e : S' k = S k) : Bag ns k C S' := by
  obtain ⟨p, c, r, t, h1, h2⟩ := h
  exact ⟨p, c, r, t, e.trans h1, h2⟩
theorem ev_dress (ns : List Int) (hn : ns.length ≤ 1000) (k C : Nat) (hC : C < 2 ^ 50) (ks : List Ky) (hl : ks.length ≤ 60) (S : Nat → Option MObj) (n : Nat) (hB : Bag ns k C S) {PR : R → W → Prop}
    (h : ∀ (xs : List Kd) (S' : Nat → Option MObj), xs.map (·.1) = ks → Bag ns k (C + 60) S' → Same k S S' → PR (.own (xs.map Kd.d)) ⟨[.val (.ref k), .val (.lst (ks.map Ky.d)), .un, .un], S', n⟩) :
    Ev (M.lcB (M.seqI (M.var 1)) [3] (gNm 3) (M.ret true) (M.ite (cmpM (M.map R.d (M.call 2 f_law_draw (M.cons (M.var 0) (M.cons (M.ret (.int 2)) (M.ret []))))) (M.ret (.int 0)) D.eq?) (M.map R.d (M.bind (M.cons (M.var 3) (M.ret [])) listM)) (M.var 3))) ⟨[.val (.ref k), .val (.lst (ks.map Ky.d)), .un, .un], S, n⟩ PR := by
  refine ev_lcB (ev_seqI (ev_var rfl ⟨_, rfl, ?_⟩))
  refine ev_lcL (fun r acc w => ∃ (zs : List Ky) (xs : List Kd) (S' : Nat → Option MObj), r = zs.map Ky.d ∧ acc = xs.map Kd.d ∧ xs.map (·.1) ++ zs = ks ∧ w = ⟨[.val (.ref k), .val (.lst (ks.map Ky.d)), .un, .un], S', n⟩ ∧ Bag ns k (C + xs.length) S' ∧ Same k S S') ?_ ?_ _ _ _ ⟨ks, [], S, rfl, rfl, rfl, rfl, hB, .refl k S⟩
  · rintro d r acc w ⟨zs, xs, S', h1, h2, h3, rfl, h5, h6⟩
    cases zs with
    | nil => cases h1
    | cons z zs =>
      injection h1 with h7 h8
      subst h7
      have hx : xs.length < 60 := by
        have := congrArg List.length h3
        simp only [List.length_append, List.length_map, List.length_cons] at this
        omega
      refine ⟨_, rfl, ev_ret ?_⟩
      show Ev _ ⟨[.val (.ref k), .val (.lst (ks.map Ky.d)), .un, .val z.d], S', n⟩ _
      refine ev_ite (ev_cmp (ev_map (ev_call (ev_cons (ev_var rfl (ev_cons (ev_ret (ev_ret ⟨rfl, (s_draw ns hn k (C + xs.length) (by omega) 2 (by decide) (by decide) S' n h5).imp ?_⟩))))))))
      rintro r1 S1 n1 ⟨v, rfl, v0, v1, rfl, hB1, hs1⟩
      refine ev_ret ⟨_, rfl, ?_⟩
      have fin : ∀ b : Bool, acc.length < big ∧ ∃ (zs' : List Ky) (xs' : List Kd) (S2 : Nat → Option MObj), r = zs'.map Ky.d ∧ acc ++ [Kd.d (z, b)] = xs'.map Kd.d ∧ xs'.map (·.1) ++ zs' = ks ∧ (⟨[.val (.ref k), .val (.lst (ks.map Ky.d)), .un, .un], S1, n1⟩ : W) = ⟨[.val (.ref k), .val (.lst (ks.map Ky.d)), .un, .un], S2, n1⟩ ∧ Bag ns k (C + xs'.length) S2 ∧ Same k S S2 := fun b => by
        refine ⟨?_, zs, xs ++ [(z, b)], S1, h8, by rw [h2, List.map_append]; rfl, by rw [← h3, List.map_append]; simp, rfl, by rw [List.length_append]; exact hB1.mono (by simp only [List.length_cons, List.length_nil]; omega), h6.trans hs1⟩
        rw [h2, List.length_map]
        exact Nat.lt_of_lt_of_le hx (by decide)
      refine ev_cond (fun _ => ?_) (fun _ => ?_)
      · have e : z.d = .tup z.it := d_it z
        rw [e]
        exact ev_map (ev_bind (ev_cons (ev_var rfl (ev_ret (ev_listT (fin true))))))
      · have e : z.d = Kd.d (z, false) := d_it z
        rw [e]
        exact ev_var rfl (fin false)
  · rintro acc w ⟨zs, xs, S', h1, h2, h3, rfl, h5, h6⟩
    have : zs = [] := by
      cases zs with
      | nil => rfl
      | cons z zs => cases h1
    rw [this, List.append_nil] at h3
    rw [h2]
    have hx : xs.length ≤ 60 := by rw [← h3, List.length_map] at hl; exact hl
    exact h xs S' h3 (h5.mono (by omega)) h6
theorem four_at {α : Type} (a b c d : α) (v : Int) (h0 : 0 ≤ v) (h1 : v < 4) (P : α → Prop) (ha : P a) (hb : P b) (hc : P c) (hd : P d) : ∃ x, L2.atI [a, b, c, d] v = some x ∧ P x := by
  have : v = 0 ∨ v = 1 ∨ v = 2 ∨ v = 3 := by omega
  rcases this with rfl | rfl | rfl | rfl
  · exact ⟨a, rfl, ha⟩
  · exact ⟨b, rfl, hb⟩
  · exact ⟨c, rfl, hc⟩
  · exact ⟨d, rfl, hd⟩
theorem s_dressed (ns : List Int) (hn : ns.length ≤ 1000) (k C : Nat) (hC : C < 2 ^ 50) (ks : List Ky) (hl : ks.length ≤ 60) (S : Nat → Option MObj) (n : Nat) (hB : Bag ns k C S) :
    Fn f_law_dressed [.ref k, .lst (ks.map Ky.d)] S n fun r S' n' => ∃ (b : Bool) (xs : List Kd), r = .val (seqB b (xs.map Kd.d)) ∧ xs.map (·.1) = ks ∧ n' = n ∧ Bag ns k (C + 61) S' ∧ Same k S S' := by
  refine fn_run ?_
  unfold m_law_dressed
  refine ev_seq (ev_asg (ev_dress ns hn k C hC ks hl S n hB fun xs S1 e1 hB1 hs1 => ⟨Nat.le_of_ble_eq_true rfl, ?_⟩))
  show Ev _ ⟨[.val (.ref k), .val (.lst (ks.map Ky.d)), .own (xs.map Kd.d), .un], S1, n⟩ _
  and_intros
  refine ⟨rfl, (s_draw ns hn k (C + 60) (by omega) 4 (by decide) (by decide) S1 n hB1).imp ?_⟩
  rintro r1 S2 n2 ⟨v, rfl, v0, v1, rfl, hB2, hs2⟩
  obtain ⟨x, hx, b, xs', rfl, e2⟩ := four_at (D.lst (ks.map Ky.d)) (.tup (ks.map Ky.d)) (.lst (xs.map Kd.d)) (.tup (xs.map Kd.d)) v v0 v1 (fun x => ∃ (b : Bool) (xs' : List Kd), x = seqB b (xs'.map Kd.d) ∧ xs'.map (·.1) = ks)
    ⟨true, ks.map fun k => (k, false), by rw [kd_plain]; rfl, kd_fst ks⟩ ⟨false, ks.map fun k => (k, false), by rw [kd_plain]; rfl, kd_fst ks⟩ ⟨true, xs, rfl, e1⟩ ⟨false, xs, rfl, e1⟩
  exact ev_ixL hx ⟨b, xs', rfl, e2, rfl, hB2, hs1.trans hs2⟩
theorem s_dressed_al (ns : List Int) (hn : ns.length ≤ 1000) (k C : Nat) (hC : C < 2 ^ 50) (ks : List Ky) (hl : ks.length ≤ 60) (S : Nat → Option MObj) (n : Nat) (hk : k < n) (hB : Bag ns k C S) :
    Fn f_law_dressed_al [.ref k, .lst (ks.map Ky.d)] S n fun r S' n' => ∃ (t : D) (xs : List Kd), r = .val t ∧ xs.map (·.1) = ks ∧ Hol S' t (xs.map Kd.d) ∧ (∀ ds, t ≠ .lst ds) ∧ (∀ j, t = .ref j → n ≤ j ∧ j < n') ∧ n' = n + 2 ∧ Bag ns k (C + 61) S' := by
  refine fn_run ?_
  unfold m_law_dressed_al
  refine ev_seq (ev_asg (ev_map (ev_alloc (ev_dress ns hn k C hC ks hl S n hB fun xs S1 e1 hB1 hs1 => ⟨_, rfl, Nat.le_of_ble_eq_true rfl, ?_⟩))))
  show Ev _ ⟨[.val (.ref k), .val (.lst (ks.map Ky.d)), .val (.ref n), .un], fun j => if j = n then some (.lst (xs.map Kd.d)) else S1 j, n + 1⟩ _
  and_intros
  generalize hS2 : (fun j => if j = n + 1 then some (MObj.lst (ks.map Ky.d)) else if j = n then some (MObj.lst (xs.map Kd.d)) else S1 j) = S2
  have q1 : S2 (n + 1) = some (.lst (ks.map Ky.d)) := by rw [← hS2]; exact if_pos rfl
  have q2 : S2 n = some (.lst (xs.map Kd.d)) := by rw [← hS2]; exact (if_neg (by omega)).trans (if_pos rfl)
  have q3 : S2 k = S1 k := by rw [← hS2]; exact (if_neg (by omega)).trans (if_neg (by omega))
  refine ev_tupR q2 ?_
  and_intros
  refine ⟨rfl, (s_draw ns hn k (C + 60) (by omega) 4 (by decide) (by decide) S2 _ (hB1.at q3)).imp ?_⟩
  rintro r1 S3 n3 ⟨v, rfl, v0, v1, rfl, hB3, hs3⟩
  have p1 : S3 (n + 1) = some (.lst (ks.map Ky.d)) := (hs3 (n + 1) (by omega)).trans q1
  have p2 : S3 n = some (.lst (xs.map Kd.d)) := (hs3 n (by omega)).trans q2
  obtain ⟨x, hx, xs', e2, h1, h0, h2⟩ := four_at (D.ref (n + 1)) (.tup (ks.map Ky.d)) (.ref n) (.tup (xs.map Kd.d)) v v0 v1 (fun x => ∃ (xs' : List Kd), xs'.map (·.1) = ks ∧ Hol S3 x (xs'.map Kd.d) ∧ (∀ ds, x ≠ .lst ds) ∧ ∀ j, x = .ref j → n ≤ j ∧ j < n + 1 + 1)
    ⟨ks.map fun k => (k, false), kd_fst ks, .inr (.inr ⟨n + 1, rfl, by rw [kd_plain]; exact p1⟩), (fun ds z => by cases z), fun j hj => by cases hj; omega⟩
    ⟨ks.map fun k => (k, false), kd_fst ks, .inr (.inl (by rw [kd_plain])), (fun ds z => by cases z), fun j hj => by cases hj⟩
    ⟨xs, e1, .inr (.inr ⟨n, rfl, p2⟩), (fun ds z => by cases z), fun j hj => by cases hj; omega⟩
    ⟨xs, e1, .inr (.inl rfl), (fun ds z => by cases z), fun j hj => by cases hj⟩
  exact ev_ixL hx ⟨x, xs', rfl, e2, h1, h0, h2, rfl, hB3⟩
end K58

namespace K58
open PySem PySem.Spec PyProof.Rows L2 DL
theorem rp_it (k : Ky) (h : k.ok) : ∀ d ∈ k.it, Rp d 602 1 := by
  have nmS : ∀ i, Rp (.str (nm i)) 602 1 := fun i => (Rp.str (n := 6) (nm_cases (fun z => ∀ c ∈ z.cps.toList, c < 16 ^ 8) (by decide) (by decide) (by decide) (by decide) (by decide) (by decide) i) (nm_len i)).mono (by decide) (Nat.le_refl _)
  cases k with
  | paste =>
    intro d hd
    rw [List.mem_singleton.mp hd]
    exact (Rp.str (n := 60) (by decide) (by decide)).mono (by decide) (Nat.le_refl _)
  | write s =>
    intro d hd
    rcases List.mem_cons.mp hd with rfl | hd
    · exact (Rp.str (n := 60) (by decide) (by decide)).mono (by decide) (Nat.le_refl _)
    · rw [List.mem_singleton.mp hd]
      exact (Rp.str (n := 60) (fun c hc => Nat.lt_trans (h.1 c hc).2 (by decide)) h.2.2).mono (by decide) (Nat.le_refl _)
  | cnt i m =>
    intro d hd
    rcases List.mem_cons.mp hd with rfl | hd
    · exact nmS i
    · rw [List.mem_singleton.mp hd]
      exact (Rp.nat (k := 2) (by decide) (Nat.lt_of_le_of_lt h.2 (by decide)) (by decide)).mono (by decide) (Nat.le_refl _)
theorem it_len (k : Ky) : k.it.length ≤ 2 := by cases k <;> exact Nat.le_of_ble_eq_true rfl
theorem rp_seq {b : Bool} {ds : List D} {c k n : Nat} (h : ∀ d ∈ ds, Rp d c k) (hn : ds.length ≤ n) : Rp (seqB b ds) (n * (c + 2) + 3) (k + 1) := by
  cases b
  · exact Rp.tup h hn
  · exact (Rp.lst h hn).mono (by omega) (Nat.le_refl _)
theorem rp_key (q : Kd) (h : q.1.ok) : Rp q.d 1300 2 := by
  obtain ⟨k, b⟩ := q
  have : Rp (seqB b k.it) 1300 2 := (rp_seq (rp_it k h) (it_len k)).mono (by decide) (Nat.le_refl _)
  cases b <;> exact this
theorem rp_hand (b : Bool) {xs : List Kd} (h : HandD xs) : Rp (seqB b (xs.map Kd.d)) 79000 3 := by
  have hlen : xs.length ≤ 60 := by have := h.ok.len; rw [List.length_map] at this; exact this
  refine (rp_seq (c := 1300) (k := 2) (n := 60) (fun d hd => ?_) (by rw [List.length_map]; exact hlen)).mono (by decide) (Nat.le_refl _)
  obtain ⟨q, hq, rfl⟩ := List.mem_map.mp hd
  exact rp_key q (h.key q hq)
theorem rp_ok {d : D} {b k : Nat} (h : Rp d b k) (hb : b ≤ big) (hk : k ≤ 60) : ∃ p, reprOk p ∧ d.pyd = some p := by
  obtain ⟨p, h1, h2, h3, h4⟩ := h
  exact ⟨p, ⟨h2, Nat.le_trans h3 hk, Nat.le_trans h4 hb⟩, h1⟩
theorem hol_repr {S : Nat → Option MObj} {t : D} {xs : List Kd} (hh : Hol S t (xs.map Kd.d)) (h : HandD xs) : ∃ p, reprOk p ∧ ∀ S', (∀ j, t = .ref j → S' j = S j) → t.pydG (D.refF S' 3) = some p := by
  rcases hh with rfl | rfl | ⟨k, rfl, e⟩
  · obtain ⟨p, h1, h2⟩ := rp_ok (rp_hand true h) (by decide) (by decide)
    exact ⟨p, h1, fun S' _ => pydG_of _ p h2⟩
  · obtain ⟨p, h1, h2⟩ := rp_ok (rp_hand false h) (by decide) (by decide)
    exact ⟨p, h1, fun S' _ => pydG_of _ p h2⟩
  · obtain ⟨p, h1, h2⟩ := rp_ok (rp_hand true h) (by decide) (by decide)
    refine ⟨p, h1, fun S' hs => ?_⟩
    have h2 : D.pyd (.lst (xs.map Kd.d)) = some p := h2
    unfold D.pyd at h2
    obtain ⟨ps, e2, rfl⟩ := Option.map_eq_some_iff.mp h2
    show D.refF S' 3 k = _
    unfold D.refF
    rw [hs k rfl, e]
    show (D.pydsG (D.refF S' 2) (xs.map Kd.d)).map PyData.list = _
    rw [pydsG_of _ ps e2]
    rfl
theorem told_repr {S : Nat → Option MObj} {m : Nat} {ks : List Ky} (e : S m = some (.lst (ks.map Ky.d))) : (D.ref m).pydG (D.refF S 3) = some (.list (ks.map Ky.py)) := by
  show D.refF S 3 m = _
  unfold D.refF
  rw [e]
  show (D.pydsG (D.refF S 2) (ks.map Ky.d)).map PyData.list = _
  rw [pydsG_of _ _ (pyds_keys ks)]
  rfl
theorem keys_repr {S : Nat → Option MObj} {ks : List Ky} : (D.lst (ks.map Ky.d)).pydG (D.refF S 3) = some (.list (ks.map Ky.py)) := pydG_of _ _ (pyd_hand ks)
theorem hand_reprOk {ks : List Ky} (h : HandOk ks) : reprOk (.list (ks.map Ky.py)) := by
  obtain ⟨h1, h2, h3⟩ := hand_shown ks h
  exact ⟨h2, Nat.le_trans h3 (by decide), Nat.le_trans h1 (by decide)⟩
def rub7 : Ky := .cnt 3 7
theorem wt_pos (k : Ky) (h : k.ok) : 1 ≤ k.wt := by
  cases k with
  | paste => exact Nat.le_refl _
  | write s => exact h.2.1
  | cnt i n => exact h.1
theorem len_le_wt : ∀ ks : List Ky, (∀ k ∈ ks, k.ok) → ks.length ≤ (ks.map Ky.wt).sum
  | [], _ => Nat.zero_le _
  | k :: r, h => by
    have h1 := wt_pos k (h k (List.mem_cons_self ..))
    have h2 := len_le_wt r fun x hx => h x (List.mem_cons_of_mem _ hx)
    rw [List.length_cons, List.map_cons, List.sum_cons]
    omega
theorem grown_ok {ks : List Ky} (h : HandOk ks) (hw : (ks.map Ky.wt).sum + 7 ≤ 60) : HandOk (ks ++ [rub7]) := by
  have := len_le_wt ks h.ok
  refine ⟨by rw [List.length_append]; simp only [List.length_cons, List.length_nil]; omega, fun k hk => ?_, ?_⟩
  · rcases List.mem_append.mp hk with hk | hk
    · exact h.ok k hk
    · rw [List.mem_singleton.mp hk]
      exact ⟨by decide, by decide⟩
  · rw [List.map_append, List.sum_append]
    show _ + 7 ≤ 60
    exact hw
theorem eq_pasteN (i : Fin 6) : D.eq? (.str (nm i)) (.str "paste") = some false ∧ D.eq? (.str (nm i)) (.str "write") = some false := nm_cases (fun z => D.eq? (.str z) (.str "paste") = some false ∧ D.eq? (.str z) (.str "write") = some false) ⟨rfl, rfl⟩ ⟨rfl, rfl⟩ ⟨rfl, rfl⟩ ⟨rfl, rfl⟩ ⟨rfl, rfl⟩ ⟨rfl, rfl⟩ i
theorem ev_wt {k : Ky} (h : k.ok) {w : W} {P : D → W → Prop} (e : w.E[3]? = some (.val k.d)) (q : P (.int (k.wt : Nat)) w) :
    Ev (M.ite (cmpM (bind2 (M.var 3) (M.ret (.int 0)) M.ix) (M.ret (.str "paste")) D.eq?) (M.ret (.int 1)) (M.ite (cmpM (bind2 (M.var 3) (M.ret (.int 0)) M.ix) (M.ret (.str "write")) D.eq?) (M.bind (M.cons (bind2 (M.var 3) (M.ret (.int 1)) M.ix) (M.ret [])) lenM) (bind2 (M.var 3) (M.ret (.int 1)) M.ix))) w P := by
  cases k with
  | paste => exact ev_ite (ev_cmp (ev_bind2 (ev_var e (ev_ret (ev_ixT (d := .str "paste") rfl (ev_ret ⟨true, rfl, ev_condT (ev_ret q)⟩))))))
  | write s =>
    refine ev_ite (ev_cmp (ev_bind2 (ev_var e (ev_ret (ev_ixT (d := .str "write") rfl (ev_ret ⟨false, rfl, ev_condF ?_⟩))))))
    refine ev_ite (ev_cmp (ev_bind2 (ev_var e (ev_ret (ev_ixT (d := .str "write") rfl (ev_ret ⟨true, rfl, ev_condT ?_⟩))))))
    exact ev_bind (ev_cons (ev_bind2 (ev_var e (ev_ret (ev_ixT (d := .str s) rfl (ev_ret (ev_lenS (Nat.le_trans h.2.2 (by decide)) q)))))))
  | cnt i n =>
    refine ev_ite (ev_cmp (ev_bind2 (ev_var e (ev_ret (ev_ixT (d := .str (nm i)) rfl (ev_ret ⟨false, (eq_pasteN i).1, ev_condF ?_⟩))))))
    refine ev_ite (ev_cmp (ev_bind2 (ev_var e (ev_ret (ev_ixT (d := .str (nm i)) rfl (ev_ret ⟨false, (eq_pasteN i).2, ev_condF ?_⟩))))))
    exact ev_bind2 (ev_var e (ev_ret (ev_ixT (d := .int n) rfl q)))
theorem eq_strSelf (s : Str) : D.eq? (.str s) (.str s) = some true := by
  show some (decide (s = s)) = _
  rw [decide_eq_true rfl]
theorem s_grown {S : Nat → Option MObj} {j n : Nat} {xs : List Kd} {ks : List Ky} (e : S j = some (.lst (xs.map Kd.d ++ [.lst [.str "rub", .int 7]]))) (ex : xs.map (·.1) = ks) (h : HandOk ks) :
    Fn f_law_grown [.ref j, .lst (ks.map Ky.d)] S n fun r S' n' => r = .val (.bl true) ∧ S' = S ∧ n' = n := by
  refine fn_run ?_
  unfold m_law_grown
  refine ev_seq (ev_asg (ev_map (ev_ret ⟨Nat.le_of_ble_eq_true rfl, ?_⟩)))
  refine ev_seq (ev_forB (ev_seqI (ev_var rfl ⟨_, rfl, ?_⟩)))
  refine ev_forL (fun r w => ∃ (ys zs : List Ky) (x : DL.Slot), ks = ys ++ zs ∧ r = zs.map Ky.d ∧ w = ⟨[.val (.ref j), .val (.lst (ks.map Ky.d)), .val (.int ((7 + (ys.map Ky.wt).sum : Nat) : Int)), x], S, n⟩) ?_ ?_ _ _ ⟨[], ks, .un, rfl, rfl, rfl⟩
  · rintro d r w ⟨ys, zs, x, h1, h2, rfl⟩
    cases zs with
    | nil => cases h2
    | cons z zs =>
      injection h2 with h3 h4
      subst h3
      refine ⟨_, rfl, ?_⟩
      show Ev _ ⟨[.val (.ref j), .val (.lst (ks.map Ky.d)), .val (.int ((7 + (ys.map Ky.wt).sum : Nat) : Int)), .val z.d], S, n⟩ _
      refine ev_asg (ev_bind2 (ev_var rfl (ev_wt (h.ok z (by rw [h1]; simp)) rfl (ev_addI ⟨Nat.le_of_ble_eq_true rfl, ys ++ [z], zs, .val z.d, by rw [h1]; simp, h4, ?_⟩))))
      rw [List.map_append, List.sum_append]
      show (⟨[_, _, .val (.int (((7 + (ys.map Ky.wt).sum : Nat) : Int) + (z.wt : Nat))), _], _, _⟩ : W) = ⟨[_, _, .val (.int ((7 + ((ys.map Ky.wt).sum + ([z].map Ky.wt).sum) : Nat) : Int)), _], _, _⟩
      have : ([z].map Ky.wt).sum = z.wt := by simp
      rw [this, show ((7 + (ys.map Ky.wt).sum : Nat) : Int) + (z.wt : Nat) = ((7 + ((ys.map Ky.wt).sum + z.wt) : Nat) : Int) from by omega]
  · rintro w ⟨ys, zs, x, h1, h2, rfl⟩
    have : zs = [] := by
      cases zs with
      | nil => rfl
      | cons z zs => cases h2
    rw [this, List.append_nil] at h1
    subst h1
    refine ev_retR (ev_map (ev_vor (ev_map (ev_cmp (ev_var rfl (ev_ret ⟨_, rfl, _, rfl, ?_⟩))))))
    refine ev_cond (fun _ => ev_ret ⟨rfl, rfl, rfl⟩) (fun hb => ?_)
    have hw : (ks.map Ky.wt).sum + 7 ≤ 60 := by
      have := of_decide_eq_false hb
      omega
    have hg := grown_ok h hw
    have hD : HandD (xs ++ [(rub7, true)]) := ⟨by rw [List.map_append, ex]; exact hg⟩
    have hH : Hol S (.ref j) ((xs ++ [(rub7, true)]).map Kd.d) := .inr (.inr ⟨j, rfl, by rw [List.map_append]; exact e⟩)
    have et : (xs ++ [(rub7, true)]).map (·.1) = ks ++ [rub7] := by rw [List.map_append, ex]; rfl
    have p1 := p_show_handH hH hD
    rw [et] at p1
    refine ev_map (ev_cmp (ev_map (ev_callS (ev_cons (ev_var rfl (ev_ret ⟨rfl, _, p1, ?_⟩))))))
    refine ev_map (ev_callP (ev_cons (ev_map (ev_bind2 (ev_var rfl (ev_map (ev_lst (ev_cons (ev_tup (ev_cons (ev_ret (ev_cons (ev_ret (ev_ret ⟨by show (2 : Nat) ≤ big; decide, ev_ret ⟨by show (1 : Nat) ≤ big; decide, ?_⟩⟩))))))))))))))
    refine ev_addL ?_ ?_
    · rw [List.length_map]
      exact Nat.le_trans (Nat.add_le_add h.len (Nat.le_refl 1)) (by decide)
    · refine ev_ret ⟨rfl, .val (.str (handTxt (ks ++ [rub7]))), ?_, _, eq_strSelf _, rfl, rfl, rfl⟩
      have := p_law_hand_text _ hg
      rw [List.map_append] at this
      exact this
end K58

namespace K58
open PySem PySem.Spec PyProof.Rows L2 DL
theorem Hol.to {S S' : Nat → Option MObj} {t : D} {ds : List D} (h : Hol S t ds) (e : ∀ j, t = .ref j → S' j = S j) : Hol S' t ds := by
  rcases h with h | h | ⟨k, h, q⟩
  · exact .inl h
  · exact .inr (.inl h)
  · exact .inr (.inr ⟨k, h, (e k h).trans q⟩)
theorem range_nat2 : rangeD1 [.int 2] = some ((List.range 2).map fun i : Nat => D.int (0 + (i : Int))) := range_nat 2 (by decide)
theorem s_hand_right (ns : List Int) (hn : ns.length ≤ 1000) (k C : Nat) (hC : C < 2 ^ 50) (ks : List Ky) (h : HandOk ks) (S : Nat → Option MObj) (n : Nat) (hk : k < n) (hB : Bag ns k C S) :
    Fn f_law_hand_right [.ref k, .lst (ks.map Ky.d)] S n fun r S' n' => r = .val (.bl true) ∧ n ≤ n' ∧ Bag ns k (C + 61) S' := by
  refine fn_run ?_
  unfold m_law_hand_right
  refine ev_seq (ev_asg (ev_callP (ev_cons (ev_var rfl (ev_ret ⟨rfl, _, p_law_hand_text ks h, Nat.le_of_ble_eq_true rfl, ?_⟩)))))
  refine ev_seq (ev_asg (ev_call (ev_cons (ev_var rfl (ev_cons (ev_var rfl (ev_ret ⟨rfl, (s_dressed_al ns hn k C hC ks h.len S n hk hB).imp ?_⟩)))))))
  rintro r1 S1 n1 ⟨t, xs, rfl, ex, hH, hnl, hj, rfl, hB1⟩
  refine ⟨Nat.le_of_ble_eq_true rfl, ?_⟩
  have hD : HandD xs := ⟨by rw [ex]; exact h⟩
  obtain ⟨p, rp, hp⟩ := hol_repr hH hD
  show Ev _ ⟨[.val (.ref k), .val (.lst (ks.map Ky.d)), .val (.str (handTxt ks)), .val t, .un, .un, .un], S1, n + 2⟩ _
  refine ev_seq (ev_asg (ev_map (ev_bind (ev_cons (ev_var rfl (ev_ret (ev_reprS3 (hp S1 fun _ _ => rfl) rp ⟨Nat.le_of_ble_eq_true rfl, ?_⟩)))))))
  refine ev_seq (ev_forB (ev_b1 (ev_cons (ev_ret (ev_ret (ev_lift range_nat2 ?_))))))
  refine ev_forL (fun r w => ∃ (x5 x6 : DL.Slot) (S' : Nat → Option MObj) (n' : Nat), w = ⟨[.val (.ref k), .val (.lst (ks.map Ky.d)), .val (.str (handTxt ks)), .val t, .val (.str p.shown), x5, x6], S', n'⟩ ∧ n + 2 ≤ n' ∧ (∀ j, t = .ref j → S' j = S1 j) ∧ S' k = S1 k) ?_ ?_ _ _ ⟨.un, .un, S1, n + 2, rfl, Nat.le_refl _, fun _ _ => rfl, rfl⟩
  · rintro d r w ⟨x5, x6, S', n', rfl, hn', hs, hk'⟩
    refine ⟨_, rfl, ?_⟩
    show Ev _ ⟨[.val (.ref k), .val (.lst (ks.map Ky.d)), .val (.str (handTxt ks)), .val t, .val (.str p.shown), .val d, x6], S', n'⟩ _
    have p1 := p_show_handH (hH.to hs) hD
    rw [ex] at p1
    refine ev_seq (ev_ifS (ev_or (ev_cmp (ev_map (ev_callS (ev_cons (ev_var rfl (ev_ret ⟨rfl, _, p1, ev_var rfl ⟨false, ne_strSelf _, ?_⟩⟩))))))))
    refine ev_condF (ev_cmp (ev_bind (ev_cons (ev_var rfl (ev_ret (ev_reprS3 (hp S' hs) rp (ev_var rfl ⟨false, ne_strSelf _, ev_condF (ev_ret ?_)⟩)))))))
    refine ev_seq (ev_asg (ev_map (ev_alloc (ev_callP (ev_cons (ev_var rfl (ev_ret ⟨rfl, _, p_read_hand ks h, _, rfl, Nat.le_of_ble_eq_true rfl, ?_⟩)))))))
    show Ev _ ⟨[.val (.ref k), .val (.lst (ks.map Ky.d)), .val (.str (handTxt ks)), .val t, .val (.str p.shown), .val d, .val (.ref n')], fun j => if j = n' then some (.lst (ks.map Ky.d)) else S' j, n' + 1⟩ _
    generalize hS2 : (fun j => if j = n' then some (MObj.lst (ks.map Ky.d)) else S' j) = S2
    have e0 : S2 n' = some (.lst (ks.map Ky.d)) := by rw [← hS2]; exact if_pos rfl
    have e1 : ∀ j, j < n' → S2 j = S' j := fun j h => by rw [← hS2]; exact if_neg (by omega)
    refine ev_seq (ev_ifS (ev_cmp (ev_bind (ev_cons (ev_var rfl (ev_ret (ev_reprS3 (told_repr e0) (hand_reprOk h) ?_)))))))
    refine ev_bind (ev_cons (ev_var rfl (ev_ret (ev_reprS3 keys_repr (hand_reprOk h) ⟨false, ne_strSelf _, ev_condF (ev_ret ?_)⟩))))
    refine ev_drop (ev_appR rfl ⟨_, e0⟩ (ev_cons (ev_tup (ev_cons (ev_ret (ev_ret ⟨by show (1 : Nat) ≤ big; decide, ev_ret ⟨_, _, rfl, e0, ?_, ?_⟩⟩))))))
    · rw [List.length_map]
      exact Nat.lt_of_le_of_lt h.len (by decide)
    · refine ⟨_, _, _, n' + 1, rfl, by omega, fun j hj' => ?_, ?_⟩
      · obtain ⟨q1, q2⟩ := hj j hj'
        show (if j = n' then _ else S2 j) = _
        rw [if_neg (by omega), e1 j (by omega)]
        exact hs j hj'
      · show (if k = n' then _ else S2 k) = _
        rw [if_neg (by omega), e1 k (by omega)]
        exact hk'
  · rintro w ⟨x5, x6, S', n', rfl, hn', hs, hk'⟩
    have hH' := hH.to hs
    rcases hH' with rfl | rfl | ⟨j, rfl, ej⟩
    · exact (hnl _ rfl).elim
    · refine ev_seq (ev_ifS (ev_tru (ev_isaS (ev_var rfl ⟨false, rfl, false, rfl, ev_condF (ev_ret ?_)⟩))))
      exact ev_retR (ev_map (ev_ret ⟨rfl, Nat.le_trans (Nat.le_add_right n 2) hn', hB1.at hk'⟩))
    · obtain ⟨q1, q2⟩ := hj j rfl
      refine ev_seq (ev_ifS (ev_tru (ev_isaS (ev_var rfl ⟨true, by rw [isaW_R ej]; rfl, true, rfl, ev_condT ?_⟩))))
      refine ev_seq (ev_drop (ev_appR rfl ⟨_, ej⟩ (ev_cons (ev_map (ev_lst (ev_cons (ev_ret (ev_cons (ev_ret (ev_ret ⟨by show (2 : Nat) ≤ big; decide, ev_ret ⟨_, _, rfl, ej, ?_, ?_⟩⟩))))))))))
      · rw [List.length_map]
        have := h.len
        rw [← ex, List.length_map] at this
        exact Nat.lt_of_le_of_lt this (by decide)
      · refine ev_retR (ev_call (ev_cons (ev_var rfl (ev_cons (ev_var rfl (ev_ret ⟨rfl, (s_grown (S := fun i => if i = j then some (.lst (xs.map Kd.d ++ [.lst [.str "rub", .int 7]])) else S' i) (if_pos rfl) ex h).imp ?_⟩))))))
        rintro r2 S3 n3 ⟨rfl, rfl, rfl⟩
        refine ⟨rfl, Nat.le_trans (Nat.le_add_right n 2) hn', hB1.at ?_⟩
        show (if k = j then _ else S' k) = _
        rw [if_neg (by omega)]
        exact hk'
end K58

namespace K58
open PySem PySem.Spec PyProof.Rows L2 DL
/-! plays: repr, ==, unlike texts -/
theorem rp_part (p : Pd) (h : HandD p.xs) (ht : p.n ≤ 10 ^ 30) : Rp p.d 160000 4 := by
  refine (rp_seq (b := p.pb) (ds := [p.hd, .int p.n]) (c := 79000) (k := 3) (n := 2) (fun d hd => ?_) (Nat.le_refl 2)).mono (by decide) (Nat.le_refl _)
  rcases List.mem_cons.mp hd with rfl | hd
  · exact rp_hand p.hb h
  · rw [List.mem_singleton.mp hd]
    exact (Rp.nat (k := 31) (by decide) (Nat.lt_of_le_of_lt ht big30) (by decide)).mono (by decide) (by decide)
theorem rp_play (b : Bool) (qs : List Pd) (h : PlayOk (qs.map Pd.pt)) : Rp (seqB b (qs.map Pd.d)) 2000000 5 := by
  refine (rp_seq (c := 160000) (k := 4) (n := 12) (fun d hd => ?_) ?_).mono (by decide) (Nat.le_refl _)
  · obtain ⟨q, hq, rfl⟩ := List.mem_map.mp hd
    obtain ⟨h1, _, h3⟩ := h.ok q.pt (List.mem_map_of_mem hq)
    exact rp_part q ⟨h1⟩ h3
  · rw [List.length_map]
    have := h.len
    rw [List.length_map] at this
    exact this
theorem play_repr (b : Bool) (qs : List Pd) (h : PlayOk (qs.map Pd.pt)) : ∃ p, reprOk p ∧ ∀ S, (seqB b (qs.map Pd.d)).pydG (D.refF S 3) = some p := by
  obtain ⟨p, h1, h2⟩ := rp_ok (rp_play b qs h) (by decide) (by decide)
  exact ⟨p, h1, fun S => pydG_of _ p h2⟩
theorem told_part (S : Nat → Option MObj) : ∀ (ps : List Pt) (n : Nat), Laid n ps S → D.pydsG (D.refF S 2) (told n ps) = some (ps.map Pt.py)
  | [], _, _ => rfl
  | p :: r, n, h => by
    have h0 : S n = some (.lst (p.1.map Ky.d)) := h 0 p rfl
    have e : (toldD (p, n)).pydG (D.refF S 2) = some (Pt.py p) := by
      show (D.pydsG (D.refF S 2) [.ref n, .int p.2]).map PyData.tuple = _
      unfold D.pydsG
      have e2 : D.pydG (D.refF S 2) (.ref n) = some (.list (p.1.map Ky.py)) := by
        show D.refF S 2 n = _
        unfold D.refF
        rw [h0]
        show (D.pydsG (D.refF S 1) (p.1.map Ky.d)).map PyData.list = _
        rw [pydsG_of _ _ (pyds_keys p.1)]
        rfl
      rw [e2]
      rfl
    have e3 : told n (p :: r) = toldD (p, n) :: told (n + 1) r := by
      unfold told
      rw [List.zipIdx_cons]
      rfl
    rw [e3]
    unfold D.pydsG
    rw [e, told_part S r (n + 1) fun i q hq => by
      have := h (i + 1) q (by simpa using hq)
      rw [show n + 1 + i = n + (i + 1) from by omega]
      exact this]
    rfl
theorem told_repr2 {S : Nat → Option MObj} {m n : Nat} {ps : List Pt} (e : S m = some (.lst (told n ps))) (h : Laid n ps S) : (D.ref m).pydG (D.refF S 3) = some (.list (ps.map Pt.py)) := by
  show D.refF S 3 m = _
  unfold D.refF
  rw [e]
  show (D.pydsG (D.refF S 2) (told n ps)).map PyData.list = _
  rw [told_part S ps n h]
  rfl
theorem play_reprP {S : Nat → Option MObj} (ps : List Pt) : (D.lst (ps.map Pt.d)).pydG (D.refF S 3) = some (.list (ps.map Pt.py)) := by
  refine pydG_of _ _ ?_
  unfold D.pyd
  rw [pyds_play]
  rfl
/-! == -/
theorem dec_and {p q r : Prop} [Decidable p] [Decidable q] [Decidable r] (h : r ↔ p ∧ q) : (decide p && decide q) = decide r := by
  rw [← Bool.decide_and]
  exact decide_eq_decide.mpr h.symm
theorem eqv_two (a b c d : PyData) : PyData.eqv (.tuple [a, b]) (.tuple [c, d]) = (PyData.eqv a c && PyData.eqv b d) := by simp only [PyData.eqv, PyData.eqvAll, Bool.and_true]
theorem eqv_str (a b : Str) : PyData.eqv (.str a) (.str b) = decide (a = b) := by
  unfold PyData.eqv
  rfl
theorem eqv_nat (a b : Nat) : PyData.eqv (.int a) (.int b) = decide (a = b) := by
  unfold PyData.eqv
  by_cases c : a = b
  · subst c
    rw [decide_eq_true rfl]
    exact beq_self_eq_true _
  · rw [decide_eq_false c]
    exact beq_eq_false_iff_ne.mpr fun z => c (by omega)
instance : DecidableEq Ky := fun a b => match a, b with
  | .paste, .paste => isTrue rfl
  | .paste, .write _ => isFalse (fun z => by cases z)
  | .paste, .cnt _ _ => isFalse (fun z => by cases z)
  | .write _, .paste => isFalse (fun z => by cases z)
  | .write s, .write t => if h : s = t then isTrue (by rw [h]) else isFalse (fun z => h (by injection z))
  | .write _, .cnt _ _ => isFalse (fun z => by cases z)
  | .cnt _ _, .paste => isFalse (fun z => by cases z)
  | .cnt _ _, .write _ => isFalse (fun z => by cases z)
  | .cnt i n, .cnt j m => if h : i = j ∧ n = m then isTrue (by rw [h.1, h.2]) else isFalse (fun z => h (by injection z with a b; exact ⟨a, b⟩))
theorem eqv_key (k l : Ky) : PyData.eqv k.py l.py = decide (k = l) := by
  cases k with
  | paste =>
    cases l with
    | paste =>
      rw [decide_eq_true rfl]
      rfl
    | write s =>
      rw [decide_eq_false (fun z => by cases z)]
      rfl
    | cnt i n =>
      rw [decide_eq_false (fun z => by cases z)]
      simp [Ky.py, PyData.eqv, PyData.eqvAll]
  | write s =>
    cases l with
    | paste =>
      rw [decide_eq_false (fun z => by cases z)]
      simp [Ky.py, PyData.eqv, PyData.eqvAll]
    | write t =>
      show PyData.eqv (.tuple [.str "write", .str s]) (.tuple [.str "write", .str t]) = _
      simp only [PyData.eqv, PyData.eqvAll]
      by_cases c : s = t
      · subst c
        simp
      · rw [decide_eq_false (fun z => c (by injection z)), show (s == t) = false from beq_eq_false_iff_ne.mpr c]
        simp
    | cnt i n =>
      rw [decide_eq_false (fun z => by cases z)]
      simp [Ky.py, PyData.eqv, PyData.eqvAll]
  | cnt i n =>
    cases l with
    | paste =>
      rw [decide_eq_false (fun z => by cases z)]
      simp [Ky.py, PyData.eqv, PyData.eqvAll]
    | write s =>
      rw [decide_eq_false (fun z => by cases z)]
      simp [Ky.py, PyData.eqv, PyData.eqvAll]
    | cnt j m =>
      have a : ∀ i j : Fin 6, decide (nm i = nm j) = decide (i = j) := by decide +kernel
      show PyData.eqv (.tuple [.str (nm i), .int n]) (.tuple [.str (nm j), .int m]) = _
      rw [eqv_two, eqv_str, eqv_nat, a]
      exact dec_and ⟨fun z => by injection z with z1 z2; exact ⟨z1, z2⟩, fun z => by rw [z.1, z.2]⟩
theorem eqv_lists {α : Type} [DecidableEq α] (f : α → PyData) (h : ∀ a b, PyData.eqv (f a) (f b) = decide (a = b)) : ∀ xs ys : List α, PyData.eqvAll (xs.map f) (ys.map f) = decide (xs = ys)
  | [], [] => rfl
  | [], _ :: _ => rfl
  | _ :: _, [] => rfl
  | x :: xs, y :: ys => by
    rw [List.map_cons, List.map_cons, show PyData.eqvAll (f x :: xs.map f) (f y :: ys.map f) = (PyData.eqv (f x) (f y) && PyData.eqvAll (xs.map f) (ys.map f)) from by rw [PyData.eqvAll], h, eqv_lists f h xs ys]
    exact dec_and ⟨fun z => by injection z with z1 z2; exact ⟨z1, z2⟩, fun z => by rw [z.1, z.2]⟩
theorem eqv_part (p q : Pt) : PyData.eqv (Pt.py p) (Pt.py q) = decide (p = q) := by
  obtain ⟨ks, n⟩ := p
  obtain ⟨ls, m⟩ := q
  show PyData.eqv (.tuple [.list (ks.map Ky.py), .int n]) (.tuple [.list (ls.map Ky.py), .int m]) = _
  have e1 : PyData.eqv (.list (ks.map Ky.py)) (.list (ls.map Ky.py)) = decide (ks = ls) := by
    rw [show PyData.eqv (.list (ks.map Ky.py)) (.list (ls.map Ky.py)) = PyData.eqvAll (ks.map Ky.py) (ls.map Ky.py) from by rw [PyData.eqv]]
    exact eqv_lists Ky.py eqv_key ks ls
  rw [eqv_two, e1, eqv_nat]
  exact dec_and ⟨fun z => by injection z with z1 z2; exact ⟨z1, z2⟩, fun z => by rw [z.1, z.2]⟩
theorem lay_part (p : Pt) (h : HandOk p.1) : (Pt.py p).canLay0 = true ∧ (Pt.py p).depth ≤ 6 := by
  obtain ⟨h1, h2⟩ := lay_keys p.1 h.ok
  refine ⟨?_, ?_⟩
  · show (PyData.canLay0 (.list (p.1.map Ky.py)) && (PyData.canLay0 (.int p.2) && true)) = true
    have : PyData.canLay0 (.list (p.1.map Ky.py)) = true := h1
    rw [this]
    rfl
  · unfold Pt.py
    simp only [PyData.depth, PyData.depthAll]
    omega
theorem pys_play : ∀ ps : List Pt, D.pys (ps.map Pt.d) = some (ps.map Pt.py)
  | [] => rfl
  | p :: r => by
    have e : (Pt.d p).py = some (Pt.py p) := by
      show (D.pys [.lst (p.1.map Ky.d), .int p.2]).map PyData.tuple = _
      unfold D.pys
      have e2 : D.py (.lst (p.1.map Ky.d)) = some (.list (p.1.map Ky.py)) := by
        unfold D.py
        rw [pys_keys]
        rfl
      rw [e2]
      rfl
    show D.pys (Pt.d p :: r.map Pt.d) = _
    unfold D.pys
    rw [e, pys_play r]
    rfl
theorem lay_play : ∀ ps : List Pt, (∀ p ∈ ps, HandOk p.1) → PyData.canLayAll0 (ps.map Pt.py) = true ∧ PyData.depthAll (ps.map Pt.py) ≤ 6
  | [], _ => ⟨rfl, by decide⟩
  | p :: r, h => by
    obtain ⟨a, b⟩ := lay_play r fun x hx => h x (List.mem_cons_of_mem _ hx)
    obtain ⟨c, d⟩ := lay_part p (h p (List.mem_cons_self ..))
    refine ⟨?_, ?_⟩
    · show ((Pt.py p).canLay0 && PyData.canLayAll0 (r.map Pt.py)) = true
      rw [c, a]
      rfl
    · show PyData.depthAll (Pt.py p :: r.map Pt.py) ≤ 6
      unfold PyData.depthAll
      exact Nat.max_le.mpr ⟨d, b⟩
theorem shaped_play (ps : List Pt) (h : ∀ p ∈ ps, HandOk p.1) : SeqAt.shaped (.list (ps.map Pt.py)) = true := by
  obtain ⟨a, b⟩ := lay_play ps h
  unfold SeqAt.shaped
  rw [Bool.and_eq_true]
  refine ⟨a, decide_eq_true ?_⟩
  unfold PyData.depth
  omega
theorem eq_play (ps qs : List Pt) (h : ∀ p ∈ ps, HandOk p.1) (h' : ∀ p ∈ qs, HandOk p.1) : D.eq? (.lst (ps.map Pt.d)) (.lst (qs.map Pt.d)) = some (decide (ps = qs)) := by
  show D.eqPy _ _ = _
  unfold D.eqPy
  have e : ∀ ps : List Pt, D.py (.lst (ps.map Pt.d)) = some (.list (ps.map Pt.py)) := fun ps => by
    unfold D.py
    rw [pys_play]
    rfl
  rw [e, e]
  show (if SeqAt.shaped _ = true ∧ SeqAt.shaped _ = true then some (PyData.eqv _ _) else none) = _
  rw [if_pos ⟨shaped_play ps h, shaped_play qs h'⟩, show PyData.eqv (.list (ps.map Pt.py)) (.list (qs.map Pt.py)) = PyData.eqvAll (ps.map Pt.py) (qs.map Pt.py) from by rw [PyData.eqv]]
  exact congrArg some (eqv_lists Pt.py eqv_part ps qs)
/-! unlike plays have unlike texts -/
theorem d_inj {k l : Ky} (h : k.d = l.d) : k = l := by
  have e1 := py_key k
  have e2 := py_key l
  rw [h, e2] at e1
  have e3 := eqv_key l l
  rw [decide_eq_true rfl] at e3
  have e4 := eqv_key k l
  injection e1 with e5
  rw [← e5, e3] at e4
  exact of_decide_eq_true e4.symm
theorem ds_inj : ∀ {ks ls : List Ky}, ks.map Ky.d = ls.map Ky.d → ks = ls
  | [], [], _ => rfl
  | [], _ :: _, h => by cases h
  | _ :: _, [], h => by cases h
  | k :: ks, l :: ls, h => by
    injection h with h1 h2
    rw [d_inj h1, ds_inj h2]
theorem txt_inj {ps qs : List Pt} (h : PlayOk ps) (h' : PlayOk qs) (e : playTxt ps = playTxt qs) : ps = qs := by
  obtain ⟨r, S, n, e1, h1, h2, h3, _⟩ := p_read_play_al ps h (fun _ => none) 0
  obtain ⟨r', S', n', e1', h1', h2', h3', _⟩ := p_read_play_al qs h' (fun _ => none) 0
  rw [e, e1'] at e1
  injection e1 with a b
  injection b with _ b2 _
  subst a b2
  rw [h1] at h1'
  injection h1' with h4
  apply List.ext_getElem?
  intro i
  have hl : ps.length = qs.length := by
    have := congrArg List.length h4
    unfold told at this
    rw [List.length_map, List.length_map, List.length_zipIdx, List.length_zipIdx] at this
    exact this
  by_cases c : i < ps.length
  · have p1 : ps[i]? = some ps[i] := List.getElem?_eq_getElem c
    have q1 : qs[i]? = some (qs[i]'(hl ▸ c)) := List.getElem?_eq_getElem (hl ▸ c)
    have s1 := h3 i _ p1
    have s2 := h3' i _ q1
    rw [s1] at s2
    injection s2 with s3
    injection s3 with s4
    have s5 := ds_inj s4
    have t : ∀ ps : List Pt, (told 0 ps)[i]? = (ps[i]?).map fun p => toldD (p, i) := fun ps => by
      unfold told
      rw [List.getElem?_map, List.getElem?_zipIdx, Option.map_map, Nat.zero_add]
      rfl
    have h5 : (told 0 ps)[i]? = (told 0 qs)[i]? := by rw [h4]
    rw [t, t, p1, q1] at h5
    injection h5 with h6
    unfold toldD at h6
    injection h6 with h7
    injection h7 with _ h8
    injection h8 with h9 _
    injection h9 with h10
    rw [p1, q1]
    exact congrArg some (Prod.ext s5 (by have : ((ps[i].2 : Nat) : Int) = ((qs[i]'(hl ▸ c)).2 : Nat) := h10; omega))
  · rw [List.getElem?_eq_none (by omega), List.getElem?_eq_none (by omega)]
end K58

namespace K58
open PySem PySem.Spec PyProof.Rows L2 DL
theorem handOk_rep (k : Ky) (h : k.ok) (hw : k.wt = 1) : HandOk (List.replicate 60 k) := by
  refine ⟨by rw [List.length_replicate]; exact Nat.le_refl _, fun q hq => by rw [List.eq_of_mem_replicate hq]; exact h, ?_⟩
  rw [List.map_replicate, List.sum_replicate_nat, hw]
  decide
theorem ev_dressPlay (ns : List Int) (hn : ns.length ≤ 1000) (C : Nat) (hC : C < 2 ^ 49) (ps : List Pt) (h : PlayOk ps) (a d x3 x5 x6 x7 x8 x9 x10 x11 : DL.Slot) (S : Nat → Option MObj) (n : Nat) (hB : Bag ns 0 C S) {PR : R → W → Prop}
    (q : ∀ (qs : List Pd) (S' : Nat → Option MObj), qs.map Pd.pt = ps → Bag ns 0 (C + 61 * 12) S' → Same 0 S S' → PR (.own (qs.map Pd.d)) ⟨[a, .val (.ref 0), d, x3, .val (.lst (ps.map Pt.d)), x5, x6, x7, x8, x9, x10, x11, .un, .un], S', n⟩) (x12 x13 : DL.Slot) :
    Ev (M.lcB (M.seqI (M.var 4)) [12, 13] (gTp 2 (gCn (gNm 12) (gCn (gNm 13) gNl))) (M.ret true) (M.map R.d (M.lst (M.cons (M.map R.d (M.call 2 f_law_dressed (M.cons (M.var 1) (M.cons (M.var 12) (M.ret []))))) (M.cons (M.var 13) (M.ret []))))))
      ⟨[a, .val (.ref 0), d, x3, .val (.lst (ps.map Pt.d)), x5, x6, x7, x8, x9, x10, x11, x12, x13], S, n⟩ PR := by
  refine ev_lcB (ev_seqI (ev_var rfl ⟨_, rfl, ?_⟩))
  refine ev_lcL (fun r acc w => ∃ (zs : List Pt) (qs : List Pd) (S' : Nat → Option MObj), r = zs.map Pt.d ∧ acc = qs.map Pd.d ∧ qs.map Pd.pt ++ zs = ps ∧ w = ⟨[a, .val (.ref 0), d, x3, .val (.lst (ps.map Pt.d)), x5, x6, x7, x8, x9, x10, x11, .un, .un], S', n⟩ ∧ Bag ns 0 (C + 61 * qs.length) S' ∧ Same 0 S S') ?_ ?_ _ _ _ ⟨ps, [], S, rfl, rfl, rfl, rfl, hB, .refl 0 S⟩
  · rintro dd r acc w ⟨zs, qs, S', h1, h2, h3, rfl, h5, h6⟩
    cases zs with
    | nil => cases h1
    | cons z zs =>
      injection h1 with h7 h8
      subst h7
      have hz := h.ok z (by rw [← h3]; simp)
      have hx : qs.length < 12 := by
        have h0 := h.len
        have := congrArg List.length h3
        simp only [List.length_append, List.length_map, List.length_cons] at this
        omega
      refine ⟨_, rfl, ev_ret ?_⟩
      show Ev _ ⟨[a, .val (.ref 0), d, x3, .val (.lst (ps.map Pt.d)), x5, x6, x7, x8, x9, x10, x11, .val (.lst (z.1.map Ky.d)), .val (.int z.2)], S', n⟩ _
      refine ev_map (ev_lst (ev_cons (ev_map (ev_call (ev_cons (ev_var rfl (ev_cons (ev_var rfl (ev_ret ⟨rfl, (s_dressed ns hn 0 (C + 61 * qs.length) (by omega) z.1 hz.1.len S' n h5).imp ?_⟩)))))))))
      rintro r1 S1 n1 ⟨b, xs, rfl, e1, rfl, hB1, hs1⟩
      refine ev_cons (ev_var rfl (ev_ret ⟨by show (2 : Nat) ≤ big; decide, ?_, zs, qs ++ [⟨xs, b, z.2, true⟩], S1, h8, by rw [h2, List.map_append]; rfl, ?_, rfl, hB1.mono (by rw [List.length_append]; simp only [List.length_cons, List.length_nil]; omega), h6.trans hs1⟩))
      · rw [h2, List.length_map]
        exact Nat.lt_trans hx (by decide)
      · rw [← h3, List.map_append, List.append_assoc]
        show _ ++ ([(xs.map (·.1), z.2)] ++ zs) = _
        rw [e1]
        rfl
  · rintro acc w ⟨zs, qs, S', h1, h2, h3, rfl, h5, h6⟩
    have : zs = [] := by
      cases zs with
      | nil => rfl
      | cons z zs => cases h1
    rw [this, List.append_nil] at h3
    rw [h2]
    have hl : qs.length ≤ 12 := by
      have := h.len
      rw [← h3, List.length_map] at this
      exact this
    exact q qs S' h3 (h5.mono (by omega)) h6
theorem told_at (n : Nat) (ps : List Pt) (i : Nat) : (told n ps)[i]? = (ps[i]?).map fun p => toldD (p, n + i) := by
  unfold told
  rw [List.getElem?_map, List.getElem?_zipIdx, Option.map_map]
  rfl
/-- one reading of a play's text: what is told is the play; then it is changed -/
theorem ev_again {ps : List Pt} (h : PlayOk ps) {a d x3 x6 x7 x8 x9 x10 x11 x12 x13 : DL.Slot} {S : Nat → Option MObj} {n : Nat} (hn : 1 ≤ n) {PF : Flow1 → W → Prop}
    (q : ∀ (x9 x10 : DL.Slot) (S' : Nat → Option MObj) (n' : Nat), S' 0 = S 0 → n ≤ n' → PF .next ⟨[a, .val (.ref 0), d, x3, .val (.lst (ps.map Pt.d)), .val (.str (playTxt ps)), x6, x7, x8, x9, x10, x11, x12, x13], S', n'⟩) :
    Ev (M.ifS (cmpM (M.bind (M.cons (M.var 5) (M.ret [])) lenM) (M.ret (.int 4001)) D.lt?) (M.seq (M.asg 9 (M.map R.val (M.alloc (M.call 1 f_read_play_al (M.cons (M.var 5) (M.ret []))))))
      (M.seq (M.ifS (cmpM (M.bind (M.cons (M.var 9) (M.ret [])) reprS3) (M.bind (M.cons (M.var 4) (M.ret [])) reprS3) D.ne?) (M.retR (M.map R.val (M.ret (.bl false)))) (M.ret .next))
      (M.seq (M.forSB (M.srcI (M.var 9)) (gNm 10) (M.drop (M.modE (bind2 (M.var 10) (M.ret (.int 0)) M.ix) (M.cons (M.tup (M.cons (M.ret (.str "paste")) (M.ret []))) (M.ret [])) appF)))
      (M.drop (M.modVar 9 (M.cons (M.tup (M.cons (M.map R.d (M.lst (M.ret []))) (M.cons (M.ret (.int 0)) (M.ret [])))) (M.ret [])) appF))))) (M.ret .next))
      ⟨[a, .val (.ref 0), d, x3, .val (.lst (ps.map Pt.d)), .val (.str (playTxt ps)), x6, x7, x8, x9, x10, x11, x12, x13], S, n⟩ PF := by
  refine ev_ifS (ev_cmp (ev_bind (ev_cons (ev_var rfl (ev_ret (ev_lenS (Nat.le_trans (playTxt_len ps h) (by decide)) (ev_ret ⟨_, rfl, ?_⟩)))))))
  refine ev_cond (fun _ => ?_) (fun _ => ev_ret (q _ _ S n rfl (Nat.le_refl _)))
  refine ev_seq (ev_asg (ev_map (ev_alloc (ev_call (ev_cons (ev_var rfl (ev_ret ⟨rfl, (p_read_play_al ps h S n).imp ?_⟩)))))))
  rintro r S1 n1 ⟨rfl, rfl, hl, hs⟩
  refine ⟨_, rfl, Nat.le_of_ble_eq_true rfl, ?_⟩
  show Ev _ ⟨[a, .val (.ref 0), d, x3, .val (.lst (ps.map Pt.d)), .val (.str (playTxt ps)), x6, x7, x8, .val (.ref (n + ps.length)), x10, x11, x12, x13], fun j => if j = n + ps.length then some (.lst (told n ps)) else S1 j, n + ps.length + 1⟩ _
  generalize hm : n + ps.length = m
  generalize hS2 : (fun j => if j = m then some (MObj.lst (told n ps)) else S1 j) = S2
  have e0 : S2 m = some (.lst (told n ps)) := by rw [← hS2]; exact if_pos rfl
  have e1 : ∀ j, j < m → S2 j = S1 j := fun j h => by rw [← hS2]; exact if_neg (by omega)
  have hl2 : Laid n ps S2 := fun i p hp => by
    have := (List.getElem?_eq_some_iff.mp hp).1
    rw [e1 (n + i) (by omega)]
    exact hl i p hp
  refine ev_seq (ev_ifS (ev_cmp (ev_bind (ev_cons (ev_var rfl (ev_ret (ev_reprS3 (told_repr2 e0 hl2) (play_shown ps h) ?_)))))))
  refine ev_bind (ev_cons (ev_var rfl (ev_ret (ev_reprS3 (play_reprP ps) (play_shown ps h) ⟨false, ne_strSelf _, ev_condF (ev_ret ?_)⟩))))
  have tl : (told n ps).length = ps.length := by unfold told; rw [List.length_map, List.length_zipIdx]
  refine ev_seq (ev_forSB (ev_srcR (ev_var rfl ⟨rfl, ⟨_, e0⟩, ev_forSV e0 ?_⟩)))
  refine ev_forV (fun u r w => ∃ (x10 : DL.Slot) (S' : Nat → Option MObj), u ++ r = told n ps ∧ w = ⟨[a, .val (.ref 0), d, x3, .val (.lst (ps.map Pt.d)), .val (.str (playTxt ps)), x6, x7, x8, .val (.ref m), x10, x11, x12, x13], S', m + 1⟩ ∧ S' m = some (.lst (told n ps)) ∧ S' 0 = S 0 ∧ ∀ i p, u.length ≤ i → ps[i]? = some p → S' (n + i) = some (.lst (p.1.map Ky.d))) ?_ ?_ ?_ (told n ps) [] _ ⟨x10, S2, rfl, rfl, e0, (e1 0 (by omega)).trans (hs 0 (by omega)), fun i p _ hp => hl2 i p hp⟩
  · rintro u r w ⟨x10, S', h1, rfl, h3, _, _⟩
    exact ⟨by rw [h1]; exact h3, by rw [← List.length_append, h1]⟩
  · rintro u dd r w ⟨x10, S', h1, rfl, h3, h4, h5⟩
    have hi : (told n ps)[u.length]? = some dd := by rw [← h1, List.getElem?_append_right (Nat.le_refl _), Nat.sub_self]; rfl
    rw [told_at] at hi
    obtain ⟨p, hp, rfl⟩ := Option.map_eq_some_iff.mp hi
    have hu : u.length < ps.length := (List.getElem?_eq_some_iff.mp hp).1
    have hSj := h5 u.length p (Nat.le_refl _) hp
    have hlen : (p.1.map Ky.d).length < big := by
      rw [List.length_map]
      exact Nat.lt_of_le_of_lt (h.ok p (List.mem_of_getElem? hp)).1.len (by decide)
    refine ⟨_, rfl, ?_⟩
    show Ev _ ⟨[a, .val (.ref 0), d, x3, .val (.lst (ps.map Pt.d)), .val (.str (playTxt ps)), x6, x7, x8, .val (.ref m), .val (.tup [.ref (n + u.length), .int p.2]), x11, x12, x13], S', m + 1⟩ _
    refine ev_drop (ev_appE (ev_bind2 (ev_var rfl (ev_ret (ev_ixT (d := .ref (n + u.length)) rfl ⟨rfl, ⟨_, hSj⟩, ?_⟩)))))
    refine ev_cons (ev_tup (ev_cons (ev_ret (ev_ret ⟨by show (1 : Nat) ≤ big; decide, ev_ret ⟨_, _, rfl, hSj, hlen, ?_⟩⟩))))
    refine ⟨.val (.tup [.ref (n + u.length), .int p.2]), _, by rw [List.append_assoc]; exact h1, rfl, ?_, ?_, fun i p' hi' hp' => ?_⟩
    · exact (if_neg (by omega)).trans h3
    · exact (if_neg (by omega)).trans h4
    · rw [List.length_append, List.length_cons, List.length_nil] at hi'
      exact (if_neg (by omega)).trans (h5 i p' (by omega) hp')
  · rintro u w ⟨x10, S', h1, rfl, h3, h4, h5⟩
    show Ev _ _ _
    refine ev_drop (ev_appR rfl ⟨_, h3⟩ (ev_cons (ev_tup (ev_cons (ev_map (ev_lst (ev_ret ⟨Nat.zero_le _, ev_cons (ev_ret (ev_ret ⟨by show (2 : Nat) ≤ big; decide, ev_ret ⟨_, _, rfl, h3, ?_, ?_⟩⟩))⟩)))))))
    · rw [tl]
      exact Nat.lt_of_le_of_lt h.len (by decide)
    · refine q _ _ _ _ ?_ (show n ≤ m + 1 by omega)
      exact (if_neg (by omega)).trans h4
end K58

namespace K58
open PySem PySem.Spec PyProof.Rows L2 DL
theorem playOk_of {ps : List Pt} (h : ∀ q ∈ ps, HandOk q.1 ∧ q.2 ≤ 10 ^ 30) (hl : ps.length ≤ 12) : PlayOk ps := ⟨hl, fun p hp => ⟨(h p hp).1, trivial, (h p hp).2⟩⟩
theorem ne_bls (a b : Bool) : D.ne? (.bl a) (.bl b) = some (!decide (a = b)) := rfl
theorem eq_strs (a b : Str) : D.eq? (.str a) (.str b) = some (decide (a = b)) := rfl
theorem ok_nil : PlayOk [([], 0)] := ⟨Nat.le_of_ble_eq_true rfl, fun p hp => by
  rw [List.mem_singleton.mp hp]
  exact ⟨⟨Nat.zero_le _, fun k hk => (List.not_mem_nil hk).elim, Nat.zero_le _⟩, trivial, Nat.zero_le _⟩⟩
theorem txt_nil : playTxt [([], 0)] = "0: " := TL.ext_tl (by
  rw [play_tl]
  show TL.tl (rowTxt ([], 0)) = _
  rw [row_tl, hand_tl, TL.numL_lt (by decide)]
  decide)
theorem c3_told : Pu f_read_play [.str "0: "] (.val (.lst [.tup [.lst [], .int 0]])) := by
  have h := p_read_play1 [([], 0)] ok_nil (by simp)
  rw [txt_nil] at h
  exact h
theorem hand_nil : HandOk [] := ⟨Nat.zero_le _, fun k hk => (List.not_mem_nil hk).elim, Nat.zero_le _⟩
theorem c1_told : Pu f_read_hand [.str ""] (.own []) := by
  have e : handTxt [] = "" := by decide +kernel
  have h := p_read_hand [] hand_nil
  rw [e] at h
  exact h
theorem ok_3 : PlayOk [([], 3)] := ⟨Nat.le_of_ble_eq_true rfl, fun p hp => by
  rw [List.mem_singleton.mp hp]
  exact ⟨hand_nil, trivial, show (3 : Nat) ≤ 10 ^ 30 by decide⟩⟩
theorem txt_3 : playTxt [([], 3)] = "3: " := TL.ext_tl (by
  rw [play_tl]
  show TL.tl (rowTxt ([], 3)) = _
  rw [row_tl, hand_tl, TL.numL_lt (by decide)]
  decide)
theorem c4_told : Pu f_show_play [.lst [.tup [.lst [], .int 3]]] (.val (.str "3: ")) := by
  have h := p_show_play [([], 3)] ok_3
  rw [txt_3] at h
  exact h
theorem run_law (ns : List Int) (hn : ns.length ≤ 63) : Fn f_law [.scr ns] (fun _ => none) 0 fun r S' n' => r = .val (.bl true) := by
  have hn2 : ns.length ≤ 1000 := by omega
  refine fn_run ?_
  unfold m_law
  refine ev_seq (ev_asg (ev_map (ev_alloc (ev_call (ev_cons (ev_var rfl (ev_ret ⟨rfl, (s_bag ns _ _).imp ?_⟩)))))))
  rintro r S0 n0 ⟨tot, rfl, t0, t1, rfl, rfl⟩
  refine ⟨_, rfl, Nat.le_of_ble_eq_true rfl, ?_⟩
  obtain ⟨m, hm, m1⟩ : ∃ m : Nat, (3 : Int) + (if (((ns.map D.int).length : Nat) : Int) < 6 then (((ns.map D.int).length : Nat) : Int) else 6) = (m : Nat) ∧ m ≤ 9 := ⟨((3 : Int) + (if (((ns.map D.int).length : Nat) : Int) < 6 then (((ns.map D.int).length : Nat) : Int) else 6)).toNat, by split <;> omega, by split <;> omega⟩
  refine ev_seq (ev_forB (ev_b1 (ev_cons (ev_map (ev_bind2 (ev_ret (ev_b1 (ev_cons (ev_ret (ev_cons (ev_bind (ev_cons (ev_var rfl (ev_ret (ev_lenC (ev_ret (ev_lift rfl (ev_addI (ev_ret ?_)))))))))))))))))))
  show Ev (M.lift (rangeD1 [.int ((3 : Int) + (if (((ns.map D.int).length : Nat) : Int) < 6 then (((ns.map D.int).length : Nat) : Int) else 6))])) _ _
  rw [hm]
  refine ev_lift (range_nat m (by omega)) ?_
  refine ev_forL (fun r w => ∃ (j : Nat) (x2 x3 x4 x5 x6 x7 x8 x9 x10 x11 x12 x13 : DL.Slot) (S' : Nat → Option MObj) (n' : Nat), j + r.length = m ∧ w = ⟨[.val (.scr ns), .val (.ref 0), x2, x3, x4, x5, x6, x7, x8, x9, x10, x11, x12, x13], S', n'⟩ ∧ 1 ≤ n' ∧ Bag ns 0 (500000 * j) S') ?_ ?_ _ _ ⟨0, .un, .un, .un, .un, .un, .un, .un, .un, .un, .un, .un, .un, _, _, by rw [List.length_map, List.length_range]; omega, rfl, Nat.le_refl _, 0, 0, 0, tot, rfl, Nat.zero_le _, Nat.zero_le _, by decide, t0, t1⟩
  · rintro d r w ⟨j, x2, x3, x4, x5, x6, x7, x8, x9, x10, x11, x12, x13, S', n', q1, rfl, q2, q3⟩
    rw [List.length_cons] at q1
    refine ⟨_, rfl, ?_⟩
    show Ev _ ⟨[.val (.scr ns), .val (.ref 0), .val d, x3, x4, x5, x6, x7, x8, x9, x10, x11, x12, x13], S', n'⟩ _
    -- the keys
    refine ev_seq (ev_asg (ev_map (Ev.imp (P := fun dd w' => ∃ (ks : List Ky) (S2 : Nat → Option MObj), dd = .lst (ks.map Ky.d) ∧ HandOk ks ∧ w' = ⟨[.val (.scr ns), .val (.ref 0), .val d, x3, x4, x5, x6, x7, x8, x9, x10, x11, x12, x13], S2, n'⟩ ∧ Bag ns 0 (500000 * j + 3000) S2) ?_ ?_)))
    · refine ev_bind2 (ev_map (ev_lst (ev_cons (ev_map (ev_call (ev_cons (ev_var rfl (ev_cons (ev_ret (ev_ret ⟨rfl, (s_hand ns hn2 0 (500000 * j) (by omega) 60 (by decide) S' n' q3).imp ?_⟩))))))))))
      rintro r1 S1 n1 ⟨ks, rfl, k1, k2, k3, rfl, hB1, hs1⟩
      refine ev_cons (ev_map (ev_call (ev_cons (ev_var rfl (ev_cons (ev_ret (ev_ret ⟨rfl, (s_hand ns hn2 0 (500000 * j + 1000) (by omega) 20 (by decide) S1 n1 hB1).imp ?_⟩)))))))
      rintro r1 S2 n2 ⟨ls, rfl, l1, l2, l3, rfl, hB2, hs2⟩
      refine ev_cons (ev_map (ev_bind2 (ev_map (ev_lst (ev_cons (ev_tup (ev_cons (ev_ret (ev_ret ⟨by show (1 : Nat) ≤ big; decide, ev_ret ⟨by show (1 : Nat) ≤ big; decide, ev_ret (ev_lift (a := .own ((List.replicate 60 Ky.paste).map Ky.d)) rfl ?_)⟩⟩)))))))))
      refine ev_cons (ev_map (ev_bind2 (ev_map (ev_lst (ev_cons (ev_tup (ev_cons (ev_ret (ev_cons (ev_ret (ev_ret ⟨by show (2 : Nat) ≤ big; decide, ev_ret ⟨by show (1 : Nat) ≤ big; decide, ev_ret (ev_lift (a := .own ((List.replicate 60 (Ky.cnt 0 1)).map Ky.d)) rfl ?_)⟩⟩)))))))))))
      refine ev_ret ⟨by show (4 : Nat) ≤ big; decide, ?_⟩
      refine ev_map (ev_call (ev_cons (ev_var rfl (ev_cons (ev_ret (ev_ret ⟨rfl, (s_draw ns hn2 0 (500000 * j + 2000) (by omega) 4 (by decide) (by decide) S2 n2 hB2).imp ?_⟩))))))
      rintro r1 S3 n3 ⟨v, rfl, v0, v1, rfl, hB3, hs3⟩
      obtain ⟨x, hx, ks', e2, h2⟩ := four_at (D.lst (ks.map Ky.d)) (.lst (ls.map Ky.d)) (.lst ((List.replicate 60 Ky.paste).map Ky.d)) (.lst ((List.replicate 60 (Ky.cnt 0 1)).map Ky.d)) v v0 v1 (fun x => ∃ ks' : List Ky, x = .lst (ks'.map Ky.d) ∧ HandOk ks')
        ⟨ks, rfl, handOk_of (ks := ks) k1 k2 (by omega)⟩ ⟨ls, rfl, handOk_of (ks := ls) l1 (by omega) (by omega)⟩ ⟨_, rfl, handOk_rep .paste trivial rfl⟩ ⟨_, rfl, handOk_rep (.cnt 0 1) ⟨by decide, by decide⟩ rfl⟩
      refine ev_ixL hx ⟨ks', S3, e2, h2, rfl, hB3.mono (by omega)⟩
    rintro dd w' ⟨ks, S2, rfl, hk, rfl, hB2⟩
    refine ⟨Nat.le_of_ble_eq_true rfl, ?_⟩
    show Ev _ ⟨[.val (.scr ns), .val (.ref 0), .val d, .val (.lst (ks.map Ky.d)), x4, x5, x6, x7, x8, x9, x10, x11, x12, x13], S2, n'⟩ _
    refine ev_seq (ev_asg (ev_call (ev_cons (ev_var rfl (ev_cons (ev_ret (ev_ret ⟨rfl, (s_play ns hn2 0 (500000 * j + 3000) (by omega) 12 (by decide) S2 n' hB2).imp ?_⟩)))))))
    rintro r1 S3 n3 ⟨ps, rfl, p1, p2, rfl, hB3, hs3⟩
    have hp := playOk_of (ps := ps) p1 p2
    refine ⟨Nat.le_of_ble_eq_true rfl, ?_⟩
    refine ev_seq (ev_ifS (ev_not (ev_tru (ev_map (ev_call (ev_cons (ev_var rfl (ev_cons (ev_var rfl (ev_ret ⟨rfl, (s_hand_right ns hn2 0 (500000 * j + 53000) (by omega) ks hk S3 n3 (by omega) (hB3.mono (by omega))).imp ?_⟩))))))))))
    rintro r1 S4 n4 ⟨rfl, hn4, hB4⟩
    refine ⟨true, rfl, ev_condF (ev_ret ?_)⟩
    show Ev _ ⟨[.val (.scr ns), .val (.ref 0), .val d, .val (.lst (ks.map Ky.d)), .own (ps.map Pt.d), x5, x6, x7, x8, x9, x10, x11, x12, x13], S4, n4⟩ _
    refine ev_seq (ev_asg (ev_callP (ev_cons (ev_varO rfl (ev_ret ⟨rfl, _, p_law_play_text ps hp, Nat.le_of_ble_eq_true rfl, ?_⟩)))))
    show Ev _ ⟨[.val (.scr ns), .val (.ref 0), .val d, .val (.lst (ks.map Ky.d)), .val (.lst (ps.map Pt.d)), .val (.str (playTxt ps)), x6, x7, x8, x9, x10, x11, x12, x13], S4, n4⟩ _
    -- what is handed in
    refine ev_seq (ev_asg (ev_map (Ev.imp (P := fun dd w' => ∃ (b : Bool) (qs : List Pd) (S5 : Nat → Option MObj) (y12 y13 : DL.Slot), dd = seqB b (qs.map Pd.d) ∧ qs.map Pd.pt = ps ∧ w' = ⟨[.val (.scr ns), .val (.ref 0), .val d, .val (.lst (ks.map Ky.d)), .val (.lst (ps.map Pt.d)), .val (.str (playTxt ps)), x6, x7, x8, x9, x10, x11, y12, y13], S5, n4⟩ ∧ Bag ns 0 (500000 * j + 55000) S5) ?_ ?_)))
    · refine ev_bind2 (ev_map (ev_lst (ev_cons (ev_map (ev_dressPlay ns hn2 (500000 * j + 53061) (by omega) ps hp _ _ _ _ _ _ _ _ _ _ _ _ (hB4.mono (by omega)) (fun qs S5 eq hB5 hs5 => ?_) _ _)))))
      refine ev_cons (ev_bind (ev_cons (ev_var rfl (ev_ret (ev_tupL (ev_ret ⟨by show (2 : Nat) ≤ big; decide, ?_⟩))))))
      refine ev_map (ev_call (ev_cons (ev_var rfl (ev_cons (ev_ret (ev_ret ⟨rfl, (s_draw ns hn2 0 (500000 * j + 53061 + 61 * 12) (by omega) 2 (by decide) (by decide) S5 n4 hB5).imp ?_⟩))))))
      rintro r1 S6 n6 ⟨v, rfl, v0, v1, rfl, hB6, hs6⟩
      have : v = 0 ∨ v = 1 := by omega
      rcases this with rfl | rfl
      · exact ev_ixL (d := .lst (qs.map Pd.d)) rfl ⟨true, qs, S6, _, _, rfl, eq, rfl, hB6.mono (by omega)⟩
      · exact ev_ixL (d := .tup (ps.map Pt.d)) rfl ⟨false, ps.map Pt.pd, S6, _, _, by rw [pds]; rfl, pts ps, rfl, hB6.mono (by omega)⟩
    rintro dd w' ⟨b, qs, S5, y12, y13, rfl, eq, rfl, hB5⟩
    refine ⟨Nat.le_of_ble_eq_true rfl, ?_⟩
    have hq : PlayOk (qs.map Pd.pt) := by rw [eq]; exact hp
    obtain ⟨p, rp, hpr⟩ := play_repr b qs hq
    have sp := p_show_playB b qs hq
    rw [eq] at sp
    refine ev_seq (ev_asg (ev_map (ev_bind (ev_cons (ev_var rfl (ev_ret (ev_reprS3 (hpr S5) rp ⟨Nat.le_of_ble_eq_true rfl, ?_⟩)))))))
    refine ev_seq (ev_forB (ev_b1 (ev_cons (ev_ret (ev_ret (ev_lift range_nat2 ?_))))))
    refine ev_forL (fun r w => ∃ (z8 z9 z10 : DL.Slot) (S7 : Nat → Option MObj) (n7 : Nat), w = ⟨[.val (.scr ns), .val (.ref 0), .val d, .val (.lst (ks.map Ky.d)), .val (.lst (ps.map Pt.d)), .val (.str (playTxt ps)), .val (seqB b (qs.map Pd.d)), .val (.str p.shown), z8, z9, z10, x11, y12, y13], S7, n7⟩ ∧ 1 ≤ n7 ∧ S7 0 = S5 0) ?_ ?_ _ _ ⟨x8, x9, x10, S5, n4, rfl, by omega, rfl⟩
    · rintro d2 r2 w ⟨z8, z9, z10, S7, n7, rfl, h7, e7⟩
      refine ⟨_, rfl, ?_⟩
      show Ev _ ⟨[.val (.scr ns), .val (.ref 0), .val d, .val (.lst (ks.map Ky.d)), .val (.lst (ps.map Pt.d)), .val (.str (playTxt ps)), .val (seqB b (qs.map Pd.d)), .val (.str p.shown), .val d2, z9, z10, x11, y12, y13], S7, n7⟩ _
      refine ev_seq (ev_ifS (ev_or (ev_cmp (ev_map (ev_callP (ev_cons (ev_var rfl (ev_ret ⟨rfl, _, sp, ev_var rfl ⟨false, ne_strSelf _, ?_⟩⟩))))))))
      refine ev_condF (ev_cmp (ev_bind (ev_cons (ev_var rfl (ev_ret (ev_reprS3 (hpr S7) rp (ev_var rfl ⟨false, ne_strSelf _, ev_condF (ev_ret ?_)⟩)))))))
      exact ev_again hp h7 fun u9 u10 S8 n8 e8 h8 => ⟨_, u9, u10, S8, n8, rfl, by omega, e8.trans e7⟩
    · rintro w ⟨z8, z9, z10, S7, n7, rfl, h7, e7⟩
      have hB7 : Bag ns 0 (500000 * j + 55000) S7 := hB5.at e7
      show Ev _ _ _
      refine ev_seq (ev_asg (ev_call (ev_cons (ev_var rfl (ev_cons (ev_ret (ev_ret ⟨rfl, (s_play ns hn2 0 (500000 * j + 55000) (by omega) 12 (by decide) S7 n7 hB7).imp ?_⟩)))))))
      rintro r1 S8 n8 ⟨os, rfl, o1, o2, rfl, hB8, hs8⟩
      have ho := playOk_of (ps := os) o1 o2
      have ee := eq_play os ps (fun p hp => (ho.ok p hp).1) (fun q hq => (hp.ok q hq).1)
      have et : decide (playTxt os = playTxt ps) = decide (os = ps) := decide_eq_decide.mpr ⟨fun z => txt_inj ho hp z, fun z => by rw [z]⟩
      refine ⟨Nat.le_of_ble_eq_true rfl, ?_⟩
      refine ev_ifS (ev_or (ev_cmp (ev_map (ev_cmp (ev_varO rfl (ev_var rfl ⟨_, ee, ?_⟩))))))
      refine ev_map (ev_cmp (ev_map (ev_callP (ev_cons (ev_var rfl (ev_ret ⟨rfl, _, p_law_play_text os ho, ev_var rfl ⟨_, eq_strs _ _, ?_⟩⟩))))))
      rw [et]
      refine ⟨false, by rw [ne_bls, decide_eq_true rfl]; rfl, ?_⟩
      refine ev_condF (ev_cmp (ev_map (ev_cmp (ev_map (ev_callP (ev_cons (ev_var rfl (ev_ret ⟨rfl, _, p_show_play os ho, ev_var rfl ⟨_, eq_strs _ _, ?_⟩⟩))))))))
      refine ev_map (ev_cmp (ev_var rfl (ev_var rfl ⟨_, ee, ?_⟩)))
      rw [et]
      refine ⟨false, by rw [ne_bls, decide_eq_true rfl]; rfl, ?_⟩
      exact ev_condF (ev_ret ⟨j + 1, _, _, _, _, _, _, _, _, _, _, _, _, S8, n8, by omega, rfl, h7, hB8.mono (by omega)⟩)
  · rintro w ⟨j, x2, x3, x4, x5, x6, x7, x8, x9, x10, x11, x12, x13, S', n', q1, rfl, q2, q3⟩
    have c1 : Pu f_read_hand [.str ""] (.own []) := c1_told
    have c2 : Pu f_read_play [.str ""] (.val (.lst [])) := fun _ _ => rfl
    have c3 : Pu f_read_play [.str "0: "] (.val (.lst [.tup [.lst [], .int 0]])) := c3_told
    have c4 : Pu f_show_play [.lst [.tup [.lst [], .int 3]]] (.val (.str "3: ")) := c4_told
    refine ev_seq (ev_ifS (ev_or (ev_cmp (ev_map (ev_callP (ev_cons (ev_ret (ev_ret ⟨rfl, _, c1, ev_map (ev_lst (ev_ret ⟨Nat.zero_le _, false, rfl, ?_⟩))⟩))))))))
    refine ev_condF (ev_or (ev_cmp (ev_map (ev_callP (ev_cons (ev_ret (ev_ret ⟨rfl, _, c2, ev_map (ev_lst (ev_ret ⟨Nat.zero_le _, false, rfl, ?_⟩))⟩)))))))
    refine ev_condF (ev_cmp (ev_map (ev_callP (ev_cons (ev_ret (ev_ret ⟨rfl, _, c3, ?_⟩))))))
    refine ev_map (ev_lst (ev_cons (ev_tup (ev_cons (ev_map (ev_lst (ev_ret ⟨Nat.zero_le _, ev_cons (ev_ret (ev_ret ⟨by show (2 : Nat) ≤ big; decide, ?_⟩))⟩)))))))
    refine ev_ret ⟨by show (1 : Nat) ≤ big; decide, false, rfl, ev_condF (ev_ret ?_)⟩
    refine ev_retR (ev_map (ev_map (ev_cmp (ev_map (ev_callP (ev_cons (ev_map (ev_lst (ev_cons (ev_tup (ev_cons (ev_map (ev_lst (ev_ret ⟨Nat.zero_le _, ev_cons (ev_ret (ev_ret ⟨by show (2 : Nat) ≤ big; decide, ?_⟩))⟩))))))))))))))
    exact ev_ret ⟨by show (1 : Nat) ≤ big; decide, ev_ret ⟨rfl, _, c4, ev_ret ⟨true, rfl, rfl⟩⟩⟩
theorem plain (ns : List Int) (h : ns.length ≤ 63) : Tells f_law ns := by
  obtain ⟨r, S', n', e, rfl⟩ := run_law ns h
  exact ⟨_, e⟩
end K58

open PySem PySem.W PySem.Calls PyProof.Rows
theorem PySem.Challenge.cw_blindkeys_k58_hands_and_plays_written_holds : PySem.Challenge.rw_blindkeys_k58_hands_and_plays_written.Holds := by
  w_on; o_law
  refine HandSHeadRun.head_any (r := OpenLaw.row PySem.Challenge.rw_blindkeys_k58_hands_and_plays_written) (q := view (OpenLaw.row PySem.Challenge.rw_blindkeys_k58_hands_and_plays_written).prog [61]) (H := K58.hk) (ob := K58.ob) (M := 100000) (loose := K58.names) (d := HandSHeadRun.topDef (OpenLaw.row PySem.Challenge.rw_blindkeys_k58_hands_and_plays_written).prog 61) (kwd := []) K58.ob_eq
    (by kernel_rfl) (fun s => by kernel_rfl) K58.run (by kernel_rfl) (by kernel_rfl) (by kernel_rfl) (by rfl) (by first | assumption | decide +kernel) (by decide +kernel) ⟨rfl, rfl, rfl, rfl, rfl, by decide +kernel⟩ ?hw ?hc
  case hw => w_witness2
  case hc =>
    exact DL.walkG (l := PySem.Challenge.rw_blindkeys_k58_hands_and_plays_written) (n := 63) (k := 9) (x := "script") (fa := K58.fa) (fn := K58.fn) (tb := K58.tb) (cm := K58.cm) (m := K58.f_law) rfl (by decide) (by kernel_rfl) (by kernel_rfl) ⟨rfl, by decide, by decide⟩ (fun _ _ h => h) (fun w K mg base G => K58.ok_law G) K58.plain
